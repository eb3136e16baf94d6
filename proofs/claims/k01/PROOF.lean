import PyProof.Rows.All
import Wide.All
import OpenK.AllK
import Wide.FinOn
import HandS.ForMost
import HandS.Exc
import HandS.ExcOwn
import HandS.ExcInit
import HandS.ExcField
import HandS.WordsExc
import HandS.Wide
import HandS.Style
import HandS.Flow
import HandS.FStr
import HandS.IsInst
import HandS.HotCalls
import HandS.ExcCtx
import HandS.Steps
import KE.KExcIs
import HandS.ExcInitHot
import HandS.Defaults
import HandS.Comp
import HandS.Iter
import PyProof.StrLoop
import PyProof.ReprRoads
import PyProof.StrLawsRepr
import KE.IntTextLaws
import PyProof.ReprLen
import HandS.Ends
import PySem.Challenge.RW_maplost_k01_names_lines_and_rounds
set_option Elab.async false
set_option linter.all false
set_option maxRecDepth 100000
set_option maxHeartbeats 0
namespace DL
open PySem L2

/-- a datum: what a value means, apart from the heap; `cell k`: the k-th object that may change -/
inductive Dat where
  | non | bl (b : Bool) | int (i : Int) | str (x : Str)
  | lst (xs : List Dat) | tup (xs : List Dat) | rol (xs : List Dat)
  | dct (kvs : List (Key × Dat))
  | exc (C : Addr) (fs : List (Str × Dat))
  | hot (a dd C : Addr) (fs : List (Str × Dat))
  | cell (k : Nat)
  | ref (a : Addr) | ty (n : String)

structure Wd where
  ι : List Addr
  F : Hp

variable (K : PySem.W.Frag)

mutual
inductive Rep (W : Wd) : V → Dat → Prop
  | non : Rep W .non .non
  | bl (b : Bool) : Rep W (.bl b) (.bl b)
  | int (i : Int) : Rep W (.int i) (.int i)
  | str (x : Str) : Rep W (.str x) (.str x)
  | ref (a : Addr) : Rep W (.ref a) (.ref a)
  | ty (n : String) : Rep W (.ty n) (.ty n)
  | lst {a : Addr} {xs : List V} {ds : List Dat} : W.F a = some (.lst xs) → RepL W xs ds → Rep W (.ref a) (.lst ds)
  | tup {a : Addr} {xs : List V} {ds : List Dat} : SqT K W.F a xs → RepL W xs ds → Rep W (.ref a) (.tup ds)
  | rol {a : Addr} {xs : List V} {ds : List Dat} : SqL K W.F a xs → RepL W xs ds → Rep W (.ref a) (.rol ds)
  | dct {a : Addr} {xs : List (Key × V)} {ds : List (Key × Dat)} : W.F a = some (.dK xs) → RepK W xs ds → Rep W (.ref a) (.dct ds)
  | exc {a C dx : Addr} {fs : List (Str × V)} {ds : List (Str × Dat)} : W.F a = some (exo a C (some dx)) → W.F dx = some (exd dx fs) → RepF W fs ds → Rep W (.ref a) (.exc C ds)
  | hot {a dd C : Addr} {fs : List (Str × V)} {ds : List (Str × Dat)} : W.F dd = some (.xd fs) → RepF W fs ds → Rep W (.ref a) (.hot a dd C ds)
  | cell {a : Addr} {k : Nat} : W.ι[k]? = some a → Rep W (.ref a) (.cell k)
inductive RepL (W : Wd) : List V → List Dat → Prop
  | nil : RepL W [] []
  | cons {v : V} {d : Dat} {vs : List V} {ds : List Dat} : Rep W v d → RepL W vs ds → RepL W (v :: vs) (d :: ds)
inductive RepF (W : Wd) : List (Str × V) → List (Str × Dat) → Prop
  | nil : RepF W [] []
  | cons {f : Str} {v : V} {d : Dat} {vs : List (Str × V)} {ds : List (Str × Dat)} : Rep W v d → RepF W vs ds → RepF W ((f, v) :: vs) ((f, d) :: ds)
inductive RepK (W : Wd) : List (Key × V) → List (Key × Dat) → Prop
  | nil : RepK W [] []
  | cons {f : Key} {v : V} {d : Dat} {vs : List (Key × V)} {ds : List (Key × Dat)} : Rep W v d → RepK W vs ds → RepK W ((f, v) :: vs) ((f, d) :: ds)
end

structure Le (W W' : Wd) : Prop where
  i : W.ι <+: W'.ι
  f : Same W.F W'.F
theorem Le.refl (W : Wd) : Le W W := ⟨List.prefix_rfl, Same.refl _⟩
theorem Le.trans {A B C : Wd} (a : Le A B) (b : Le B C) : Le A C := ⟨a.i.trans b.i, a.f.trans b.f⟩
theorem pre_get {α : Type} {l m : List α} {k : Nat} {a : α} (h : l <+: m) (e : l[k]? = some a) : m[k]? = some a := by
  obtain ⟨t, rfl⟩ := h
  have hk : k < l.length := (List.getElem?_eq_some_iff.mp e).1
  rw [List.getElem?_append_left hk]
  exact e
theorem Same.tup {K : PySem.W.Frag} {H H' : Hp} {a : Addr} {xs : List V} (e : Same H H') (h : SqT K H a xs) : SqT K H' a xs := by
  rcases h with (h | ⟨o, h⟩) | h
  · exact .inl (.inl (e _ _ h))
  · exact .inl (.inr ⟨o, e _ _ h⟩)
  · exact .inr h

variable {K}
mutual
theorem Rep.mono {W W' : Wd} (l : Le W W') : ∀ (d : Dat) (v : V), Rep K W v d → Rep K W' v d
  | .non, _, h => by cases h; exact .non
  | .bl b, _, h => by cases h; exact .bl b
  | .int b, _, h => by cases h; exact .int b
  | .str b, _, h => by cases h; exact .str b
  | .ref b, _, h => by cases h; exact .ref b
  | .ty b, _, h => by cases h; exact .ty b
  | .cell k, _, h => by cases h with | cell e => exact .cell (pre_get l.i e)
  | .lst ds, _, h => by cases h with | lst e r => exact .lst (l.f _ _ e) (RepL.mono l ds _ r)
  | .tup ds, _, h => by cases h with | tup e r => exact .tup (Same.tup l.f e) (RepL.mono l ds _ r)
  | .rol ds, _, h => by cases h with | rol e r => exact .rol (l.f.seq e) (RepL.mono l ds _ r)
  | .dct ds, _, h => by cases h with | dct e r => exact .dct (l.f _ _ e) (RepK.mono l ds _ r)
  | .exc C ds, _, h => by cases h with | exc e e' r => exact .exc (l.f _ _ e) (l.f _ _ e') (RepF.mono l ds _ r)
  | .hot a dd C ds, _, h => by cases h with | hot e r => exact .hot (l.f _ _ e) (RepF.mono l ds _ r)
theorem RepL.mono {W W' : Wd} (l : Le W W') : ∀ (ds : List Dat) (vs : List V), RepL K W vs ds → RepL K W' vs ds
  | [], _, h => by cases h; exact .nil
  | d :: ds, _, h => by cases h with | cons a b => exact .cons (Rep.mono l d _ a) (RepL.mono l ds _ b)
theorem RepF.mono {W W' : Wd} (l : Le W W') : ∀ (ds : List (Str × Dat)) (vs : List (Str × V)), RepF K W vs ds → RepF K W' vs ds
  | [], _, h => by cases h; exact .nil
  | (f, d) :: ds, _, h => by cases h with | cons a b => exact .cons (Rep.mono l d _ a) (RepF.mono l ds _ b)
theorem RepK.mono {W W' : Wd} (l : Le W W') : ∀ (ds : List (Key × Dat)) (vs : List (Key × V)), RepK K W vs ds → RepK K W' vs ds
  | [], _, h => by cases h; exact .nil
  | (f, d) :: ds, _, h => by cases h with | cons a b => exact .cons (Rep.mono l d _ a) (RepK.mono l ds _ b)
end

/-! ### objects that may change -/
inductive MO where
  | lst (xs : List Dat)
  | dct (kvs : List (Key × Dat))
  | ins (C : Addr) (fs : List (Str × Dat))
abbrev Ms := List MO
abbrev Ev := List (Option Dat)
variable (K)
def MoOk (W : Wd) (H : Hp) (a : Addr) : MO → Prop
  | .lst ds => ∃ xs, H a = some (.lst xs) ∧ RepL K W xs ds
  | .dct ds => ∃ xs, H a = some (.dK xs) ∧ RepK K W xs ds
  | .ins C ds => ∃ dx fs, H a = some (.ins C dx fs) ∧ RepF K W fs ds
structure Good (W : Wd) (G H : Hp) (ms : Ms) : Prop where
  fz : Same W.F H
  gd : Same G H
  ln : W.ι.length = ms.length
  nd : W.ι.Nodup
  nF : ∀ a ∈ W.ι, W.F a = none
  nG : ∀ a ∈ W.ι, G a = none
  gF : ∀ a o, G a = some o → W.F a = none
  cl : ∀ (k : Nat) a m, W.ι[k]? = some a → ms[k]? = some m → MoOk K W H a m
def Slots (W : Wd) (σ : St) (e : Ev) : Prop := σ.length = e.length ∧ ∀ (i : Nat) d, e[i]? = some (some d) → ∃ v, σ[i]? = some (some v) ∧ Rep K W v d
variable {K}
variable {W W' : Wd} {G G' H H' : Hp} {ms : Ms} {σ : St} {e : Ev} {p : Addr} {o : HO}
theorem MoOk.mono (l : Le W W') {a : Addr} (h : ∀ u, H a = some u → H' a = some u) : ∀ {m : MO}, MoOk K W H a m → MoOk K W' H' a m
  | .lst ds, ⟨xs, e, r⟩ => ⟨xs, h _ e, RepL.mono l _ _ r⟩
  | .dct ds, ⟨xs, e, r⟩ => ⟨xs, h _ e, RepK.mono l _ _ r⟩
  | .ins C ds, ⟨dx, fs, e, r⟩ => ⟨dx, fs, h _ e, RepF.mono l _ _ r⟩
theorem MoOk.there {a : Addr} : ∀ {m : MO}, MoOk K W H a m → ∃ u, H a = some u
  | .lst ds, ⟨xs, e, r⟩ => ⟨_, e⟩
  | .dct ds, ⟨xs, e, r⟩ => ⟨_, e⟩
  | .ins C ds, ⟨dx, fs, e, r⟩ => ⟨_, e⟩
theorem Slots.mono (l : Le W W') (s : Slots K W σ e) : Slots K W' σ e := ⟨s.1, fun i d h => by
  obtain ⟨v, h1, h2⟩ := s.2 i d h
  exact ⟨v, h1, Rep.mono l _ _ h2⟩⟩
theorem Slots.set (s : Slots K W σ e) {v : V} {d : Dat} (r : Rep K W v d) (i : Nat) : Slots K W (σ.set i (some v)) (e.set i (some d)) := by
  refine ⟨by rw [List.length_set, List.length_set]; exact s.1, fun j x h => ?_⟩
  by_cases hj : i = j
  · subst hj
    by_cases hl : i < e.length
    · rw [List.getElem?_set_self hl] at h
      cases h
      exact ⟨v, List.getElem?_set_self (by rw [s.1]; exact hl), r⟩
    · rw [List.getElem?_eq_none (by rw [List.length_set]; omega)] at h
      cases h
  · rw [List.getElem?_set_ne hj] at h ⊢
    exact s.2 j x h
theorem Good.has (g : Good K W G H ms) {a : Addr} (h : a ∈ W.ι) : ∃ u, H a = some u := by
  obtain ⟨k, hk, e⟩ := List.getElem_of_mem h
  have hm : k < ms.length := by rw [← g.ln]; exact hk
  exact (g.cl k a ms[k] (by rw [List.getElem?_eq_getElem hk, e]) (List.getElem?_eq_getElem hm)).there
theorem Good.neI (g : Good K W G H ms) (n : H p = none) : p ∉ W.ι := fun h => by
  obtain ⟨u, e⟩ := g.has h
  rw [n] at e; cases e
theorem same_new {H : Hp} {p : Addr} {o : HO} (n : H p = none) : Same H (upd H p o) := fun b u e => by
  rw [upd_ne (ne_of_none e n)]
  exact e
theorem same_upd {F H : Hp} {p : Addr} {o : HO} (s : Same F H) : Same (upd F p o) (upd H p o) := fun b u e => by
  by_cases hb : b = p
  · subst hb; rw [upd_same] at e ⊢; exact e
  · rw [upd_ne hb] at e ⊢; exact s b u e
/-- a new datum is laid -/
theorem Good.laid (g : Good K W G H ms) (n : H p = none) : Good K ⟨W.ι, upd W.F p o⟩ G (upd H p o) ms ∧ Le W ⟨W.ι, upd W.F p o⟩ := by
  have nf : W.F p = none := g.fz.free n
  have l : Le W ⟨W.ι, upd W.F p o⟩ := ⟨List.prefix_rfl, same_new nf⟩
  refine ⟨⟨same_upd g.fz, g.gd.trans (same_new n), g.ln, g.nd, fun a h => ?_, g.nG, fun a u h => ?_, fun k a m h1 h2 => (g.cl k a m h1 h2).mono l fun u e => same_new n a u e⟩, l⟩
  · show upd W.F p o a = none
    rw [upd_ne (show a ≠ p from fun z => g.neI n (by rw [← z]; exact h))]
    exact g.nF a h
  · show upd W.F p o a = none
    rw [upd_ne (ne_of_none (g.gd a u h) n)]
    exact g.gF a u h
/-- a new object that may change -/
theorem Good.newC (g : Good K W G H ms) (n : H p = none) {m : MO} (hm : MoOk K ⟨W.ι ++ [p], W.F⟩ (upd H p o) p m) : Good K ⟨W.ι ++ [p], W.F⟩ G (upd H p o) (ms ++ [m]) ∧ Le W ⟨W.ι ++ [p], W.F⟩ := by
  have l : Le W ⟨W.ι ++ [p], W.F⟩ := ⟨List.prefix_append _ _, Same.refl _⟩
  refine ⟨⟨g.fz.trans (same_new n), g.gd.trans (same_new n), by simp [g.ln], ?_, fun a h => ?_, fun a h => ?_, g.gF, fun k a m' h1 h2 => ?_⟩, l⟩
  · show (W.ι ++ [p]).Nodup
    refine List.nodup_append.mpr ⟨g.nd, by simp, fun a ha b hb z => ?_⟩
    have : b = p := by simpa using hb
    subst this; subst z
    exact g.neI n ha
  · rcases List.mem_append.mp (show a ∈ W.ι ++ [p] from h) with h | h
    · exact g.nF a h
    · have : a = p := by simpa using h
      subst this
      exact g.fz.free n
  · rcases List.mem_append.mp (show a ∈ W.ι ++ [p] from h) with h | h
    · exact g.nG a h
    · have : a = p := by simpa using h
      subst this
      exact g.gd.free n
  · by_cases hk : k < W.ι.length
    · have h1' : W.ι[k]? = some a := by rw [← h1]; exact (List.getElem?_append_left hk).symm
      have h2' : ms[k]? = some m' := by rw [← h2]; exact (List.getElem?_append_left (by rw [← g.ln]; exact hk)).symm
      exact (g.cl k a m' h1' h2').mono l fun u e => same_new n a u e
    · have e1 : (W.ι ++ [p])[k]? = some a := h1
      rw [List.getElem?_append_right (by omega)] at e1
      rw [List.getElem?_append_right (by rw [← g.ln]; omega), ← g.ln] at h2
      have hk0 : k - W.ι.length = 0 := by
        cases q : k - W.ι.length with
        | zero => rfl
        | succ j => rw [q] at e1; simp at e1
      rw [hk0] at e1 h2
      cases e1; cases h2
      exact hm
/-- an object changes -/
theorem Good.setC (g : Good K W G H ms) {k : Nat} {a : Addr} (h : W.ι[k]? = some a) {m : MO} (hm : MoOk K W (upd H a o) a m) : Good K W G (upd H a o) (ms.set k m) := by
  have ha : a ∈ W.ι := List.mem_of_getElem? h
  refine ⟨fun b u e => ?_, fun b u e => ?_, by rw [List.length_set]; exact g.ln, g.nd, g.nF, g.nG, g.gF, fun j b m' h1 h2 => ?_⟩
  · rw [upd_ne (ne_of_none e (g.nF a ha))]; exact g.fz b u e
  · rw [upd_ne (ne_of_none e (g.nG a ha))]; exact g.gd b u e
  · have hk : k < W.ι.length := (List.getElem?_eq_some_iff.mp h).1
    by_cases hj : k = j
    · subst hj
      rw [h] at h1; cases h1
      rw [List.getElem?_set_self (by rw [← g.ln]; exact hk)] at h2
      cases h2
      exact hm
    · rw [List.getElem?_set_ne hj] at h2
      refine (g.cl j b m' h1 h2).mono (Le.refl W) fun u e => ?_
      have hjl : j < W.ι.length := (List.getElem?_eq_some_iff.mp h1).1
      rw [upd_ne]
      · exact e
      · rintro rfl
        have e1 : W.ι[k]'hk = W.ι[j]'hjl := by
          rw [List.getElem?_eq_getElem hk] at h
          rw [List.getElem?_eq_getElem hjl] at h1
          exact (Option.some.inj h).trans (Option.some.inj h1).symm
        exact hj ((List.getElem_inj g.nd).mp e1)
/-- fewer objects of others are told -/
theorem Good.weakG (g : Good K W G H ms) (s : Same G' G) : Good K W G' H ms :=
  ⟨g.fz, s.trans g.gd, g.ln, g.nd, g.nF, fun a h => s.free (g.nG a h), fun a o e => g.gF a o (s a o e), g.cl⟩
/-- an object of ours is laid aside while others work -/
theorem Good.hold (g : Good K W G H ms) (n : H p = none) : Good K W (upd G p o) (upd H p o) ms := by
  have nf : W.F p = none := g.fz.free n
  refine ⟨g.fz.trans (same_new n), same_upd g.gd, g.ln, g.nd, g.nF, fun a h => ?_, fun a u e => ?_, fun k a m h1 h2 => (g.cl k a m h1 h2).mono (Le.refl W) fun u e => same_new n a u e⟩
  · rw [upd_ne (show a ≠ p from fun z => g.neI n (by rw [← z]; exact h))]
    exact g.nG a h
  · by_cases hb : a = p
    · rw [hb]; exact nf
    · rw [upd_ne hb] at e
      exact g.gF a u e
/-- it is changed -/
theorem Good.held (g : Good K W (upd G p o) H ms) (u : HO) : Good K W (upd G p u) (upd H p u) ms := by
  have nf : W.F p = none := g.gF p o upd_same
  have np : p ∉ W.ι := fun h => by
    have := g.nG p h
    rw [upd_same] at this; cases this
  refine ⟨fun b v e => ?_, fun b v e => ?_, g.ln, g.nd, g.nF, fun a h => ?_, fun a v e => ?_, fun k a m h1 h2 => (g.cl k a m h1 h2).mono (Le.refl W) fun v e => ?_⟩
  · rw [upd_ne (ne_of_none e nf)]; exact g.fz b v e
  · by_cases hb : b = p
    · subst hb; rw [upd_same] at e ⊢; exact e
    · rw [upd_ne hb] at e ⊢
      exact g.gd b v (by rw [upd_ne hb]; exact e)
  · have ne : a ≠ p := fun z => np (z ▸ h)
    have := g.nG a h
    rw [upd_ne ne] at this ⊢
    exact this
  · by_cases hb : a = p
    · rw [hb]; exact nf
    · rw [upd_ne hb] at e
      exact g.gF a v (by rw [upd_ne hb]; exact e)
  · have ne : a ≠ p := fun z => np (z ▸ List.mem_of_getElem? h1)
    rw [upd_ne ne]; exact e
/-- .. and becomes a datum -/
theorem Good.frozen (g : Good K W (upd G p o) H ms) (n : G p = none) : Good K ⟨W.ι, upd W.F p o⟩ G H ms ∧ Le W ⟨W.ι, upd W.F p o⟩ := by
  have nf : W.F p = none := g.gF p o upd_same
  have np : p ∉ W.ι := fun h => by
    have := g.nG p h
    rw [upd_same] at this; cases this
  have l : Le W ⟨W.ι, upd W.F p o⟩ := ⟨List.prefix_rfl, same_new nf⟩
  refine ⟨⟨fun b v e => ?_, (same_new n).trans g.gd, g.ln, g.nd, fun a h => ?_, fun a h => ?_, fun a v e => ?_, fun k a m h1 h2 => (g.cl k a m h1 h2).mono l fun v e => e⟩, l⟩
  · by_cases hb : b = p
    · subst hb
      have e' : some o = some v := by
        have q : upd W.F b o b = some v := e
        rw [upd_same] at q; exact q
      cases e'
      exact g.gd b o upd_same
    · have q : upd W.F p o b = some v := e
      rw [upd_ne hb] at q
      exact g.fz b v q
  · have ne : a ≠ p := fun z => np (z ▸ h)
    show upd W.F p o a = none
    rw [upd_ne ne]; exact g.nF a h
  · have ne : a ≠ p := fun z => np (z ▸ h)
    have := g.nG a h
    rw [upd_ne ne] at this
    exact this
  · have ne : a ≠ p := ne_of_none e n
    show upd W.F p o a = none
    rw [upd_ne ne]
    exact g.gF a v (by rw [upd_ne ne]; exact e)

/-! ### judgements -/
abbrev XP := Addr → List (Str × Dat) → Ms → Prop
abbrev XE := Addr → List (Str × Dat) → Ev → Ms → Prop
variable (K)
def ExC (W : Wd) (G : Hp) (X : XP) (R : Value → Option Addr → Hp → Prop) : Prop :=
  ∀ (W' : Wd) (C d : Addr) (fs : List (Str × V)) (ds : List (Str × Dat)) (H' : Hp) (ms' : Ms), Le W W' → Good K W' G H' ms' → W'.F d = some (.xd fs) → RepF K W' fs ds → X C ds ms' → R (.ref C) (some d) H'
def RtC (W : Wd) (G : Hp) (P : Dat → Ms → Prop) (Q : VK) : Prop := ∀ (W' : Wd) (v : V) (d : Dat) (H' : Hp) (ms' : Ms), Le W W' → Good K W' G H' ms' → Rep K W' v d → P d ms' → Q v H'
def RaC (W : Wd) (G : Hp) (P : List Dat → Ms → Prop) (Q : List V → Hp → Prop) : Prop := ∀ (W' : Wd) (v : List V) (d : List Dat) (H' : Hp) (ms' : Ms), Le W W' → Good K W' G H' ms' → RepL K W' v d → P d ms' → Q v H'
def TtC (W : Wd) (G : Hp) (P : Bool → Ms → Prop) (Q : Bool → Hp → Prop) : Prop := ∀ (W' : Wd) (b : Bool) (H' : Hp) (ms' : Ms), Le W W' → Good K W' G H' ms' → P b ms' → Q b H'
def NxC (W : Wd) (G : Hp) (P : Ev → Ms → Prop) (Q : St → Hp → Prop) : Prop := ∀ (W' : Wd) (σ' : St) (e' : Ev) (H' : Hp) (ms' : Ms), Le W W' → Good K W' G H' ms' → Slots K W' σ' e' → P e' ms' → Q σ' H'
def XeC (W : Wd) (G : Hp) (X : XE) (R : WX) : Prop :=
  ∀ (W' : Wd) (σ' : St) (e' : Ev) (C d : Addr) (fs : List (Str × V)) (ds : List (Str × Dat)) (H' : Hp) (ms' : Ms), Le W W' → Good K W' G H' ms' → Slots K W' σ' e' → W'.F d = some (.xd fs) → RepF K W' fs ds → X C ds e' ms' → R (.ref C) (some d) σ' H'
/-- an expression -/
def DE (R : WX) (t : TE) (e : Ev) (ms : Ms) (P : Dat → Ms → Prop) (X : XP) : Prop :=
  ∀ (W : Wd) (G : Hp) (σ : St) (H : Hp) (Q : VK), Good K W G H ms → Slots K W σ e → RtC K W G P Q → ExC K W G X (fun c d H' => R c d σ H') → t σ H Q
/-- arguments -/
def DA (R : WX) (t : TA) (e : Ev) (ms : Ms) (P : List Dat → Ms → Prop) (X : XP) : Prop :=
  ∀ (W : Wd) (G : Hp) (σ : St) (H : Hp) (Q : List V → Hp → Prop), Good K W G H ms → Slots K W σ e → RaC K W G P Q → ExC K W G X (fun c d H' => R c d σ H') → t σ H Q
/-- a test -/
def DT (R : WX) (t : TT) (e : Ev) (ms : Ms) (P : Bool → Ms → Prop) (X : XP) : Prop :=
  ∀ (W : Wd) (G : Hp) (σ : St) (H : Hp) (Q : Bool → Hp → Prop), Good K W G H ms → Slots K W σ e → TtC K W G P Q → ExC K W G X (fun c d H' => R c d σ H') → t σ H Q
structure Out where
  nx : Ev → Ms → Prop
  rt : Dat → Ms → Prop := fun _ _ => False
  bk : Ev → Ms → Prop := fun _ _ => False
  ct : Ev → Ms → Prop := fun _ _ => False
  ex : XE := fun _ _ _ _ => False
structure Fits (W : Wd) (G : Hp) (R : WX) (O : Out) (D : Ends) : Prop where
  nx : NxC K W G O.nx D.nx
  rt : RtC K W G O.rt D.rt
  bk : NxC K W G O.bk D.bk
  ct : NxC K W G O.ct D.ct
  ex : XeC K W G O.ex R
/-- a statement, a block -/
def DS (R : WX) (t : TS) (e : Ev) (ms : Ms) (O : Out) : Prop :=
  ∀ (W : Wd) (G : Hp) (σ : St) (H : Hp) (D : Ends), Good K W G H ms → Slots K W σ e → Fits K W G R O D → t D σ H
/-- a target -/
def DG (g : TG) (d : Dat) (e : Ev) (ms : Ms) (vs : List Nat) (P : Ev → Ms → Prop) : Prop :=
  ∀ (W : Wd) (G : Hp) (σ : St) (H : Hp) (v : V) (Q : St → Hp → Prop), Good K W G H ms → Slots K W σ e → Rep K W v d →
    (∀ (W' : Wd) (σ' : St) (e' : Ev) (H' : Hp) (ms' : Ms), Le W W' → Good K W' G H' ms' → Slots K W' σ' e' → (σ'.length = σ.length ∧ ∀ i, i ∉ vs → σ'[i]? = σ[i]?) → P e' ms' → Q σ' H') → g v σ H Q
/-- values to a value -/
def DR (r : List V → Hp → VK → Prop) (ds : List Dat) (ms : Ms) (P : Dat → Ms → Prop) : Prop :=
  ∀ (W : Wd) (G H : Hp) (vs : List V) (Q : VK), Good K W G H ms → RepL K W vs ds → RtC K W G P Q → r vs H Q
variable {K}
variable {P : Dat → Ms → Prop} {X : XP} {R : WX}
theorem ExC.le {R : Value → Option Addr → Hp → Prop} (l : Le W W') (h : ExC K W G X R) : ExC K W' G X R := fun W2 C d fs ds H' ms' l' => h W2 C d fs ds H' ms' (l.trans l')
theorem RtC.le {Q : VK} (l : Le W W') (h : RtC K W G P Q) : RtC K W' G P Q := fun W2 v d H' ms' l' => h W2 v d H' ms' (l.trans l')
theorem RaC.le {P : List Dat → Ms → Prop} {Q : List V → Hp → Prop} (l : Le W W') (h : RaC K W G P Q) : RaC K W' G P Q := fun W2 v d H' ms' l' => h W2 v d H' ms' (l.trans l')
theorem TtC.le {P : Bool → Ms → Prop} {Q : Bool → Hp → Prop} (l : Le W W') (h : TtC K W G P Q) : TtC K W' G P Q := fun W2 v H' ms' l' => h W2 v H' ms' (l.trans l')
theorem NxC.le {P : Ev → Ms → Prop} {Q : St → Hp → Prop} (l : Le W W') (h : NxC K W G P Q) : NxC K W' G P Q := fun W2 σ' e' H' ms' l' => h W2 σ' e' H' ms' (l.trans l')
theorem XeC.le {X : XE} (l : Le W W') (h : XeC K W G X R) : XeC K W' G X R := fun W2 σ' e' C d fs ds H' ms' l' => h W2 σ' e' C d fs ds H' ms' (l.trans l')
theorem XeC.at {X : XE} (s : Slots K W σ e) (h : XeC K W G X R) : ExC K W G (fun C ds ms' => X C ds e ms') (fun c d H' => R c d σ H') := fun W2 C d fs ds H' ms' l g f r x => h W2 σ e C d fs ds H' ms' l g (s.mono l) f r x
theorem Fits.le {O : Out} {D : Ends} (l : Le W W') (h : Fits K W G R O D) : Fits K W' G R O D := ⟨h.nx.le l, h.rt.le l, h.bk.le l, h.ct.le l, h.ex.le l⟩
end DL
namespace DL
open PySem L2
section
variable {K : PySem.W.Frag} {R : WX} {e : Ev} {ms : Ms} {X : XP} {ta tb tc : TE} {tA tr : TA} {tt tu : TT} {P : Dat → Ms → Prop} {d x y : Dat} {i : Nat} {PB : Bool → Ms → Prop}
/-! ### values -/
theorem de_var (h : e[i]? = some (some d)) (q : P d ms) : DE K R (tVar i) e ms P X := fun W G σ H Q g s k _ => by
  obtain ⟨v, h1, r⟩ := s.2 i d h
  exact ⟨v, h1, k W v d H ms (Le.refl W) g r q⟩
theorem de_val {v : V} (r : ∀ W : Wd, Rep K W v d) (q : P d ms) : DE K R (tC v) e ms P X := fun W _ _ H _ g _ k _ => k W v d H ms (Le.refl W) g (r W) q
theorem de_int {z : Int} (q : P (.int z) ms) : DE K R (tC (.int z)) e ms P X := de_val (fun _ => .int z) q
theorem de_bl {b : Bool} (q : P (.bl b) ms) : DE K R (tC (.bl b)) e ms P X := de_val (fun _ => .bl b) q
theorem de_non (q : P .non ms) : DE K R (tC .non) e ms P X := de_val (fun _ => .non) q
theorem de_str {z : Str} (q : P (.str z) ms) : DE K R (tC (.str z)) e ms P X := de_val (fun _ => .str z) q
theorem de_ref {a : Addr} (q : P (.ref a) ms) : DE K R (tC (.ref a)) e ms P X := de_val (fun _ => .ref a) q
theorem de_ty {n : String} (q : P (.ty n) ms) : DE K R (tC (.ty n)) e ms P X := de_val (fun _ => .ty n) q
/-- weaken -/
theorem DE.mono {P' : Dat → Ms → Prop} {t : TE} (h : DE K R t e ms P X) (q : ∀ d m, P d m → P' d m) : DE K R t e ms P' X := fun W G σ H Q g s k x =>
  h W G σ H Q g s (fun W' v d H' ms' l g' r p => k W' v d H' ms' l g' r (q d ms' p)) x
/-- a two-place operation on values -/
def D2 (K : PySem.W.Frag) (r : R2) (x y : Dat) (ms : Ms) (P : Dat → Ms → Prop) : Prop :=
  ∀ (W : Wd) (G H : Hp) (v w : V) (Q : VK), Good K W G H ms → Rep K W v x → Rep K W w y → RtC K W G P Q → r v w H Q
def D1 (K : PySem.W.Frag) (r : V → Hp → VK → Prop) (x : Dat) (ms : Ms) (P : Dat → Ms → Prop) : Prop :=
  ∀ (W : Wd) (G H : Hp) (v : V) (Q : VK), Good K W G H ms → Rep K W v x → RtC K W G P Q → r v H Q
theorem de_op {r : R2} (h : DE K R ta e ms (fun x m => DE K R tb e m (fun y m' => D2 K r x y m' P) X) X) : DE K R (tOp r ta tb) e ms P X := fun W G σ H Q g s k x => by
  refine h W G σ H _ g s (fun W1 v d H1 m1 l1 g1 r1 h1 => ?_) x
  refine h1 W1 G σ H1 _ g1 (s.mono l1) (fun W2 w d' H2 m2 l2 g2 r2 h2 => ?_) (x.le l1)
  exact h2 W2 G H2 v w Q g2 (Rep.mono l2 _ _ r1) r2 (k.le (l1.trans l2))
theorem de_un {r : V → Hp → VK → Prop} (h : DE K R ta e ms (fun x m => D1 K r x m P) X) : DE K R (tUn r ta) e ms P X := fun W G σ H Q g s k x =>
  h W G σ H _ g s (fun W1 v d H1 m1 l1 g1 r1 h1 => h1 W1 G H1 v Q g1 r1 (k.le l1)) x
/-! ### arguments, displays -/
theorem da_nil {P : List Dat → Ms → Prop} (q : P [] ms) : DA K R tNil e ms P X := fun W _ _ H _ g _ k _ => k W [] [] H ms (Le.refl W) g .nil q
theorem da_cons {P : List Dat → Ms → Prop} (h : DE K R ta e ms (fun x m => DA K R tr e m (fun ys m' => P (x :: ys) m') X) X) : DA K R (tCons ta tr) e ms P X := fun W G σ H Q g s k x => by
  refine h W G σ H _ g s (fun W1 v d H1 m1 l1 g1 r1 h1 => ?_) x
  refine h1 W1 G σ H1 _ g1 (s.mono l1) (fun W2 w d' H2 m2 l2 g2 r2 h2 => ?_) (x.le l1)
  exact k W2 _ _ H2 m2 (l1.trans l2) g2 (.cons (Rep.mono l2 _ _ r1) r2) h2
theorem RepL.length {W : Wd} : ∀ {vs : List V} {ds : List Dat}, RepL K W vs ds → vs.length = ds.length
  | _, [], h => by cases h; rfl
  | _, d :: ds, h => by cases h with | cons a b => simp [RepL.length b]
theorem size_of {n : Nat} (h : n ≤ 1000000) : n ≤ sizeLine := Nat.le_trans h (by decide)
theorem de_tup (h : DA K R tA e ms (fun ds m => ds.length ≤ 1000000 ∧ P (.tup ds) m) X) : DE K R (tTup tA) e ms P X := fun W G σ H Q g s k x => by
  refine h W G σ H _ g s (fun W1 vs ds H1 m1 l1 g1 r1 h1 => ⟨by rw [r1.length]; exact size_of h1.1, fun p hp => ?_⟩) x
  obtain ⟨g2, l2⟩ := g1.laid (o := .tup vs) hp
  exact k _ _ _ _ _ (l1.trans l2) g2 (.tup (.inl (.inl upd_same)) (RepL.mono l2 _ _ r1)) h1.2
theorem de_lst (h : DA K R tA e ms (fun ds m => ds.length ≤ 1000000 ∧ P (.lst ds) m) X) : DE K R (tLst tA) e ms P X := fun W G σ H Q g s k x => by
  refine h W G σ H _ g s (fun W1 vs ds H1 m1 l1 g1 r1 h1 => ⟨by rw [r1.length]; exact size_of h1.1, fun p hp => ?_⟩) x
  obtain ⟨g2, l2⟩ := g1.laid (o := .lst vs) hp
  exact k _ _ _ _ _ (l1.trans l2) g2 (.lst upd_same (RepL.mono l2 _ _ r1)) h1.2
/-- .. a list that will change -/
theorem de_lstC (h : DA K R tA e ms (fun ds m => ds.length ≤ 1000000 ∧ P (.cell m.length) (m ++ [.lst ds])) X) : DE K R (tLst tA) e ms P X := fun W G σ H Q g s k x => by
  refine h W G σ H _ g s (fun W1 vs ds H1 m1 l1 g1 r1 h1 => ⟨by rw [r1.length]; exact size_of h1.1, fun p hp => ?_⟩) x
  have l2 : Le W1 ⟨W1.ι ++ [p], W1.F⟩ := ⟨List.prefix_append _ _, Same.refl _⟩
  obtain ⟨g2, _⟩ := g1.newC (p := p) (o := .lst vs) hp (m := .lst ds) ⟨vs, upd_same, RepL.mono l2 _ _ r1⟩
  exact k _ _ _ _ _ (l1.trans l2) g2 (.cell (by show (W1.ι ++ [p])[m1.length]? = some p; rw [← g1.ln]; simp)) h1.2
/-! ### tests -/
theorem dt_test (h : DE K R ta e ms (fun d m => ∃ b, d = .bl b ∧ PB b m) X) : DT K R (tTest ta) e ms PB X := fun W G σ H Q g s k x =>
  h W G σ H _ g s (fun W1 v d H1 m1 l1 g1 r1 ⟨b, hb, p⟩ => by
    subst hb; cases r1
    exact ⟨b, rfl, k W1 b H1 m1 l1 g1 p⟩) x
theorem dt_B (h : DE K R ta e ms (fun d m => ∃ b, d = .bl b ∧ PB b m) X) : DT K R (tB ta) e ms PB X := fun W G σ H Q g s k x =>
  h W G σ H _ g s (fun W1 v d H1 m1 l1 g1 r1 ⟨b, hb, p⟩ => by
    subst hb; cases r1
    exact ⟨b, rfl, k W1 b H1 m1 l1 g1 p⟩) x

theorem dt_and (h : DT K R tt e ms (fun c m => (c = true → DT K R tu e m PB X) ∧ (c = false → PB false m)) X) : DT K R (tAnd tt tu) e ms PB X := fun W G σ H Q g s k x =>
  h W G σ H _ g s (fun W1 c H1 m1 l1 g1 ⟨a, b⟩ => by
    cases c with
    | true => exact a rfl W1 G σ H1 Q g1 (s.mono l1) (k.le l1) (x.le l1)
    | false => exact k W1 false H1 m1 l1 g1 (b rfl)) x
theorem dt_or (h : DT K R tt e ms (fun c m => (c = true → PB true m) ∧ (c = false → DT K R tu e m PB X)) X) : DT K R (tOr tt tu) e ms PB X := fun W G σ H Q g s k x =>
  h W G σ H _ g s (fun W1 c H1 m1 l1 g1 ⟨a, b⟩ => by
    cases c with
    | false => exact b rfl W1 G σ H1 Q g1 (s.mono l1) (k.le l1) (x.le l1)
    | true => exact k W1 true H1 m1 l1 g1 (a rfl)) x
theorem dt_not (h : DT K R tt e ms (fun c m => PB (!c) m) X) : DT K R (tNot tt) e ms PB X := fun W G σ H Q g s k x =>
  h W G σ H _ g s (fun W1 c H1 m1 l1 g1 p => k W1 (!c) H1 m1 l1 g1 p) x
theorem dt_yes (q : PB true ms) : DT K R tYes e ms PB X := fun W _ _ H _ g _ k _ => k W true H ms (Le.refl W) g q
theorem de_andV (h : DE K R ta e ms (fun d m => ∃ c, d = .bl c ∧ (c = true → DE K R tb e m P X) ∧ (c = false → P (.bl false) m)) X) : DE K R (tAndV ta tb) e ms P X := fun W G σ H Q g s k x =>
  h W G σ H _ g s (fun W1 v d H1 m1 l1 g1 r1 ⟨c, hc, a, b⟩ => by
    subst hc; cases r1
    refine ⟨c, rfl, ?_⟩
    cases c with
    | true => exact a rfl W1 G σ H1 Q g1 (s.mono l1) (k.le l1) (x.le l1)
    | false => exact k W1 _ _ H1 m1 l1 g1 (.bl false) (b rfl)) x
theorem de_orV (h : DE K R ta e ms (fun d m => ∃ c, d = .bl c ∧ (c = true → P (.bl true) m) ∧ (c = false → DE K R tb e m P X)) X) : DE K R (tOrV ta tb) e ms P X := fun W G σ H Q g s k x =>
  h W G σ H _ g s (fun W1 v d H1 m1 l1 g1 r1 ⟨c, hc, a, b⟩ => by
    subst hc; cases r1
    refine ⟨c, rfl, ?_⟩
    cases c with
    | false => exact b rfl W1 G σ H1 Q g1 (s.mono l1) (k.le l1) (x.le l1)
    | true => exact k W1 _ _ H1 m1 l1 g1 (.bl true) (a rfl)) x
theorem de_notV (h : DE K R ta e ms (fun d m => ∃ c, d = .bl c ∧ P (.bl (!c)) m) X) : DE K R (tNotV ta) e ms P X := fun W G σ H Q g s k x =>
  h W G σ H _ g s (fun W1 v d H1 m1 l1 g1 r1 ⟨c, hc, a⟩ => by
    subst hc; cases r1
    exact ⟨c, rfl, k W1 _ _ H1 m1 l1 g1 (.bl _) a⟩) x
theorem de_if (h : DT K R tt e ms (fun c m => (c = true → DE K R ta e m P X) ∧ (c = false → DE K R tb e m P X)) X) : DE K R (tIf tt ta tb) e ms P X := fun W G σ H Q g s k x =>
  h W G σ H _ g s (fun W1 c H1 m1 l1 g1 ⟨a, b⟩ => by
    cases c with
    | true => exact a rfl W1 G σ H1 Q g1 (s.mono l1) (k.le l1) (x.le l1)
    | false => exact b rfl W1 G σ H1 Q g1 (s.mono l1) (k.le l1) (x.le l1)) x
/-- a < b < c -/
theorem de_chain {r r' : R2} (h : DE K R ta e ms (fun x m => DE K R tb e m (fun y m1 => D2 K r x y m1 (fun z m2 => ∃ c, z = .bl c ∧ (c = true → DE K R tc e m2 (fun w m3 => D2 K r' y w m3 P) X) ∧ (c = false → P (.bl false) m2))) X) X) :
    DE K R (tChain r r' ta tb tc) e ms P X := fun W G σ H Q g s k x => by
  refine h W G σ H _ g s (fun W1 v d H1 m1 l1 g1 r1 h1 => ?_) x
  refine h1 W1 G σ H1 _ g1 (s.mono l1) (fun W2 w d' H2 m2 l2 g2 r2 h2 => ?_) (x.le l1)
  refine h2 W2 G H2 v w _ g2 (Rep.mono l2 _ _ r1) r2 (fun W3 z dz H3 m3 l3 g3 r3 ⟨c, hc, a, b⟩ => ?_)
  subst hc; cases r3
  refine ⟨c, rfl, ?_⟩
  cases c with
  | true =>
    refine a rfl W3 G σ H3 _ g3 (s.mono (l1.trans (l2.trans l3))) (fun W4 u du H4 m4 l4 g4 r4 h4 => ?_) (x.le (l1.trans (l2.trans l3)))
    exact h4 W4 G H4 w u Q g4 (Rep.mono (l3.trans l4) _ _ r2) r4 (k.le (l1.trans (l2.trans (l3.trans l4))))
  | false => exact k W3 _ _ H3 m3 (l1.trans (l2.trans l3)) g3 (.bl false) (b rfl)
/-! ### calls of built-ins, methods -/
theorem de_cb {r : List V → Hp → VK → Prop} (h : DA K R tA e ms (fun ds m => DR K r ds m P) X) : DE K R (tCB r tA) e ms P X := fun W G σ H Q g s k x =>
  h W G σ H _ g s (fun W1 vs ds H1 m1 l1 g1 r1 h1 => h1 W1 G H1 vs Q g1 r1 (k.le l1)) x
/-- the receiver's type, by the datum -/
def TyD (K : PySem.W.Frag) (T : String) (x : Dat) (ms : Ms) : Prop := ∀ (W : Wd) (G H : Hp) (v : V), Good K W G H ms → Rep K W v x → tyV K T v H
theorem de_bm {T : String} {r : V → List V → Hp → VK → Prop} (h : DE K R ta e ms (fun x m => TyD K T x m ∧ DA K R tA e m (fun ys m' => DR K (fun vs => match vs with | v :: ws => r v ws | [] => fun _ _ => False) (x :: ys) m' P) X) X) : DE K R (tBM K T r ta tA) e ms P X := fun W G σ H Q g s k x => by
  refine h W G σ H _ g s (fun W1 v d H1 m1 l1 g1 r1 ⟨ht, h1⟩ => ⟨ht W1 G H1 v g1 r1, ?_⟩) x
  refine h1 W1 G σ H1 _ g1 (s.mono l1) (fun W2 ws ds H2 m2 l2 g2 r2 h2 => ?_) (x.le l1)
  exact h2 W2 G H2 (v :: ws) Q g2 (.cons (Rep.mono l2 _ _ r1) r2) (k.le (l1.trans l2))
theorem de_bm0 {T : String} {r : V → List V → Hp → VK → Prop} (h : DE K R ta e ms (fun x m => TyD K T x m ∧ DR K (fun vs => match vs with | v :: ws => r v ws | [] => fun _ _ => False) [x] m P) X) : DE K R (tBM0 K T r ta) e ms P X := fun W G σ H Q g s k x => by
  refine h W G σ H _ g s (fun W1 v d H1 m1 l1 g1 r1 ⟨ht, h1⟩ => ⟨ht W1 G H1 v g1 r1, ?_⟩) x
  exact h1 W1 G H1 [v] Q g1 (.cons r1 .nil) (k.le l1)
theorem tyD_str {z : Str} : TyD K "str" (.str z) ms := fun W G H v g r => by cases r; rfl
end
end DL
namespace DL
open PySem L2
section
variable {K : PySem.W.Frag} {R : WX} {e : Ev} {ms : Ms} {O : Out} {ta tb tc : TE} {tA tr : TA} {tt tu : TT} {t u : TS} {g : TG} {d x y : Dat} {i : Nat}
/-- what an expression lets out of a statement -/
abbrev Out.xp (O : Out) (e : Ev) : XP := fun C ds ms' => O.ex C ds e ms'
theorem ds_next (q : O.nx e ms) : DS K R tNext e ms O := fun W G σ H D g s f => f.nx W σ e H ms (Le.refl W) g s q
theorem ds_break (q : O.bk e ms) : DS K R tBreak e ms O := fun W G σ H D g s f => f.bk W σ e H ms (Le.refl W) g s q
theorem ds_cont (q : O.ct e ms) : DS K R tCont e ms O := fun W G σ H D g s f => f.ct W σ e H ms (Le.refl W) g s q
theorem ds_seq (h : DS K R t e ms { O with nx := fun e' ms' => DS K R u e' ms' O }) : DS K R (tSeq t u) e ms O := fun W G σ H D g s f =>
  h W G σ H _ g s ⟨fun W1 σ1 e1 H1 m1 l1 g1 s1 q => q W1 G σ1 H1 D g1 s1 (f.le l1), f.rt, f.bk, f.ct, f.ex⟩
theorem ds_drop (h : DE K R ta e ms (fun _ m => O.nx e m) (O.xp e)) : DS K R (tDrop ta) e ms O := fun W G σ H D g s f =>
  h W G σ H _ g s (fun W1 v d H1 m1 l1 g1 r1 q => f.nx W1 σ e H1 m1 l1 g1 (s.mono l1) q) (f.ex.at s)
theorem ds_ret (h : DE K R ta e ms O.rt (O.xp e)) : DS K R (tRet ta) e ms O := fun W G σ H D g s f => h W G σ H _ g s f.rt (f.ex.at s)
theorem ds_retN (q : O.rt .non ms) : DS K R tRetN e ms O := fun W G σ H D g s f => f.rt W .non .non H ms (Le.refl W) g .non q
theorem ds_if (h : DT K R tt e ms (fun c m => (c = true → DS K R t e m O) ∧ (c = false → DS K R u e m O)) (O.xp e)) : DS K R (tIfS tt t u) e ms O := fun W G σ H D g s f =>
  h W G σ H _ g s (fun W1 c H1 m1 l1 g1 ⟨a, b⟩ => by
    cases c with
    | true => exact a rfl W1 G σ H1 D g1 (s.mono l1) (f.le l1)
    | false => exact b rfl W1 G σ H1 D g1 (s.mono l1) (f.le l1)) (f.ex.at s)
/-! ### targets -/
theorem dg_name {vs : List Nat} {P : Ev → Ms → Prop} (hi : i ∈ vs) (q : P (e.set i (some d)) ms) : DG K (gName i) d e ms vs P := fun W G σ H v Q g s r k =>
  k W _ _ H ms (Le.refl W) g (s.set r i) ⟨List.length_set, fun j hj => List.getElem?_set_ne (show i ≠ j from fun z => hj (by rw [← z]; exact hi))⟩ q
/-- several -/
def DGs (K : PySem.W.Frag) (g : TGs) (ds : List Dat) (e : Ev) (ms : Ms) (vs : List Nat) (P : Ev → Ms → Prop) : Prop :=
  ∀ (W : Wd) (G : Hp) (σ : St) (H : Hp) (ws : List V) (Q : St → Hp → Prop), Good K W G H ms → Slots K W σ e → RepL K W ws ds →
    (∀ (W' : Wd) (σ' : St) (e' : Ev) (H' : Hp) (ms' : Ms), Le W W' → Good K W' G H' ms' → Slots K W' σ' e' → (σ'.length = σ.length ∧ ∀ i, i ∉ vs → σ'[i]? = σ[i]?) → P e' ms' → Q σ' H') → g ws σ H Q
theorem dgs_nil {vs : List Nat} {P : Ev → Ms → Prop} (q : P e ms) : DGs K gNil [] e ms vs P := fun W G σ H ws Q g s r k => by
  cases r
  exact ⟨rfl, k W σ e H ms (Le.refl W) g s ⟨rfl, fun _ _ => rfl⟩ q⟩
theorem dgs_cons {u : TGs} {ds : List Dat} {vs : List Nat} {P : Ev → Ms → Prop} (h : DG K g d e ms vs (fun e' m' => DGs K u ds e' m' vs P)) : DGs K (gCons g u) (d :: ds) e ms vs P := fun W G σ H ws Q gd s r k => by
  cases r with
  | cons r1 r2 =>
    refine ⟨_, _, rfl, h W G σ H _ _ gd s r1 fun W1 σ1 e1 H1 m1 l1 g1 s1 o1 h1 => ?_⟩
    exact h1 W1 G σ1 H1 _ Q g1 s1 (RepL.mono l1 _ _ r2) fun W2 σ2 e2 H2 m2 l2 g2 s2 o2 h2 => k W2 σ2 e2 H2 m2 (l1.trans l2) g2 s2 ⟨o2.1.trans o1.1, fun j hj => (o2.2 j hj).trans (o1.2 j hj)⟩ h2
theorem dg_tup {u : TGs} {n : Nat} {ds : List Dat} {vs : List Nat} {P : Ev → Ms → Prop} (hn : ds.length = n) (h : DGs K u ds e ms vs P) : DG K (gTup K n u) (.tup ds) e ms vs P := fun W G σ H v Q g s r k => by
  cases r with
  | tup hq rl => exact ⟨_, _, rfl, Same.tup g.fz hq, rl.length.trans hn, h W G σ H _ Q g s rl k⟩
theorem ds_asg {vs : List Nat} (h : DE K R ta e ms (fun d m => DG K g d e m vs O.nx) (O.xp e)) : DS K R (tAsg ta g) e ms O := fun W G σ H D gd s f =>
  h W G σ H _ gd s (fun W1 v d H1 m1 l1 g1 r1 q => q W1 G σ H1 v _ g1 (s.mono l1) r1 fun W2 σ2 e2 H2 m2 l2 g2 s2 _ p => f.nx W2 σ2 e2 H2 m2 (l1.trans l2) g2 s2 p) (f.ex.at s)
theorem ds_set (h : DE K R ta e ms (fun d m => O.nx (e.set i (some d)) m) (O.xp e)) : DS K R (tAsg ta (gName i)) e ms O :=
  ds_asg (vs := [i]) (h.mono fun d m q => dg_name (List.mem_singleton.mpr rfl) q)
theorem ds_par {j : Nat} (h : DA K R tA e ms (fun ds m => ∃ a b, ds = [a, b] ∧ O.nx ((e.set i (some a)).set j (some b)) m) (O.xp e)) : DS K R (tPar i j tA) e ms O := fun W G σ H D g s f =>
  h W G σ H _ g s (fun W1 vs ds H1 m1 l1 g1 r1 ⟨a, b, he, q⟩ => by
    subst he
    cases r1 with
    | cons ra r2 => cases r2 with
      | cons rb r3 =>
        cases r3
        exact ⟨_, _, rfl, f.nx W1 _ _ H1 m1 l1 g1 (((s.mono l1).set ra i).set rb j) q⟩) (f.ex.at s)
theorem ds_par3 {j l : Nat} (h : DA K R tA e ms (fun ds m => ∃ a b c, ds = [a, b, c] ∧ O.nx (((e.set i (some a)).set j (some b)).set l (some c)) m) (O.xp e)) : DS K R (tPar3 i j l tA) e ms O := fun W G σ H D g s f =>
  h W G σ H _ g s (fun W1 vs ds H1 m1 l1 g1 r1 ⟨a, b, c, he, q⟩ => by
    subst he
    cases r1 with
    | cons ra r2 => cases r2 with
      | cons rb r3 => cases r3 with
        | cons rc r4 =>
          cases r4
          exact ⟨_, _, _, rfl, f.nx W1 _ _ H1 m1 l1 g1 ((((s.mono l1).set ra i).set rb j).set rc l) q⟩) (f.ex.at s)
/-! ### what is walked -/
/-- the items of a walk: the iterator's turns tell them, whatever else changes -/
def Walk (K : PySem.W.Frag) (W : Wd) (J : It) (n : Nat) (it : Nat → Dat) : Prop :=
  ∀ (W' : Wd) (G H : Hp) (ms : Ms), Le W W' → Good K W' G H ms →
    (∀ i, n ≤ i → J.stop i H) ∧ (∀ i, i < n → J.go i H) ∧
    ∀ i x H', i < n → J.yld i H x H' → ∃ W2, Le W' W2 ∧ Good K W2 G H' ms ∧ Rep K W2 x (it i)
def DI (K : PySem.W.Frag) (R : WX) (wi : TI) (e : Ev) (ms : Ms) (P : Nat → (Nat → Dat) → Ms → Prop) (X : XP) : Prop :=
  ∀ (W : Wd) (G : Hp) (σ : St) (H : Hp) (Q : It → Hp → Prop), Good K W G H ms → Slots K W σ e →
    (∀ (W' : Wd) (J : It) (n : Nat) (it : Nat → Dat) (H' : Hp) (ms' : Ms), Le W W' → Good K W' G H' ms' → Walk K W' J n it → P n it ms' → Q J H') → ExC K W G X (fun c d H' => R c d σ H') → wi σ H Q

variable {wi : TI} {tt1 : TT} {te : TE} {X : XP} {P : Dat → Ms → Prop}
theorem DI.mono {P P' : Nat → (Nat → Dat) → Ms → Prop} (h : DI K R wi e ms P X) (q : ∀ n it m, P n it m → P' n it m) : DI K R wi e ms P' X := fun W G σ H Q g s k x =>
  h W G σ H Q g s (fun W' J n it H' m' l g' w p => k W' J n it H' m' l g' w (q n it m' p)) x
/-- for target in walked: body -/
theorem ds_for {vs : List Nat} (h : DI K R wi e ms (fun n it m => ∃ J : Nat → Ev → Ms → Prop, J 0 e m ∧
      (∀ i e' m', i < n → J i e' m' → DG K g (it i) e' m' vs (fun e2 m2 => DS K R t e2 m2 { O with nx := J (i + 1), ct := J (i + 1), bk := O.nx })) ∧ ∀ e' m', J n e' m' → O.nx e' m') (O.xp e)) : DS K R (tFor wi g t) e ms O := fun W G σ H D gd s f => by
  refine h W G σ H _ gd s (fun W1 J n it H1 m1 l1 g1 wk ⟨Jv, j0, step, fin⟩ => ?_) (f.ex.at s)
  refine ⟨fun i m σ' H' => m = n - i ∧ i ≤ n ∧ ∃ W2 e2 m2, Le W1 W2 ∧ Good K W2 G H' m2 ∧ Slots K W2 σ' e2 ∧ Jv i e2 m2, ⟨n, rfl, Nat.zero_le _, W1, e, m1, Le.refl _, g1, s.mono l1, j0⟩, ?_⟩
  rintro i m σ' H' ⟨rfl, hi, W2, e2, m2, l2, g2, s2, j2⟩
  obtain ⟨k1, k2, k3⟩ := wk W2 G H' m2 l2 g2
  by_cases hlt : i < n
  · refine .inr ⟨k2 i hlt, fun σ'' H'' => i + 1 ≤ n ∧ ∃ W3 e3 m3, Le W1 W3 ∧ Good K W3 G H'' m3 ∧ Slots K W3 σ'' e3 ∧ Jv (i + 1) e3 m3, fun σ'' H'' hh => ⟨n - (i + 1), by omega, rfl, hh⟩, fun x H3 hy => ?_⟩
    obtain ⟨W3, l3, g3, r3⟩ := k3 i x H3 hlt hy
    refine step i e2 m2 hlt j2 W3 G σ' H3 x _ g3 (s2.mono l3) r3 fun W4 σ4 e4 H4 m4 l4 g4 s4 _ p4 => ?_
    have lw : Le W1 W4 := l2.trans (l3.trans l4)
    have nxt : NxC K W4 G (Jv (i + 1)) (fun σ'' H'' => i + 1 ≤ n ∧ ∃ W3 e3 m3, Le W1 W3 ∧ Good K W3 G H'' m3 ∧ Slots K W3 σ'' e3 ∧ Jv (i + 1) e3 m3) := fun W5 σ5 e5 H5 m5 l5 g5 s5 q => ⟨hlt, W5, e5, m5, lw.trans l5, g5, s5, q⟩
    have f4 := f.le (l1.trans lw)
    exact p4 W4 G σ4 H4 _ g4 s4 ⟨nxt, f4.rt, f4.nx, nxt, f4.ex⟩
  · have e : i = n := by omega
    subst e
    exact .inl ⟨k1 i (Nat.le_refl _), f.nx W2 σ' e2 H' m2 (l1.trans l2) g2 s2 (fin e2 m2 j2)⟩
/-! ### comprehensions -/
def wipeE (e : Ev) : List Nat → Ev
  | [] => e
  | v :: vs => (wipeE e vs).set v none
theorem Slots.wipe {W : Wd} {σ : St} (s : Slots K W σ e) : ∀ vs : List Nat, Slots K W (wipe σ vs) (wipeE e vs)
  | [] => s
  | v :: vs => by
    have ih := Slots.wipe s vs
    refine ⟨by show ((L2.wipe σ vs).set v none).length = ((wipeE e vs).set v none).length; rw [List.length_set, List.length_set]; exact ih.1, fun j d h => ?_⟩
    have h' : ((wipeE e vs).set v none)[j]? = some (some d) := h
    by_cases hj : v = j
    · subst hj
      by_cases hl : v < (wipeE e vs).length
      · rw [List.getElem?_set_self hl] at h'; cases h'
      · rw [List.getElem?_eq_none (by rw [List.length_set]; omega)] at h'; cases h'
    · rw [List.getElem?_set_ne hj] at h'
      obtain ⟨w, h1, h2⟩ := ih.2 j d h'
      exact ⟨w, by show ((L2.wipe σ vs).set v none)[j]? = _; rw [List.getElem?_set_ne hj]; exact h1, h2⟩
theorem wipe_in {σ : St} : ∀ {vs : List Nat} {j : Nat}, j ∈ vs → j < σ.length → (wipe σ vs)[j]? = some none
  | v :: vs, j, h, hl => by
    unfold L2.wipe
    by_cases hj : v = j
    · subst hj
      exact List.getElem?_set_self (by rw [wipe_length]; exact hl)
    · rw [List.getElem?_set_ne hj]
      exact wipe_in (by rcases List.mem_cons.mp h with z | z; exact absurd z.symm hj; exact z) hl
theorem wipe_no {σ : St} : ∀ {vs : List Nat} {j : Nat}, j ∉ vs → (wipe σ vs)[j]? = σ[j]?
  | [], _, _ => rfl
  | v :: vs, j, h => by
    unfold L2.wipe
    rw [List.getElem?_set_ne (fun z => h (by rw [z]; exact List.mem_cons_self))]
    exact wipe_no fun z => h (List.mem_cons_of_mem _ z)
theorem wipe_same {σ σ' : St} {vs : List Nat} (hl : σ'.length = σ.length) (h : ∀ i, i ∉ vs → σ'[i]? = (wipe σ vs)[i]?) : wipe σ' vs = wipe σ vs := by
  refine List.ext_getElem? fun j => ?_
  by_cases hj : j ∈ vs
  · by_cases hb : j < σ.length
    · rw [wipe_in hj (by rw [hl]; exact hb), wipe_in hj hb]
    · rw [List.getElem?_eq_none (by rw [wipe_length]; omega), List.getElem?_eq_none (by rw [wipe_length]; omega)]
  · rw [wipe_no hj, h j hj]
theorem RepL.append {W : Wd} : ∀ {xs : List V} {ds : List Dat}, RepL K W xs ds → ∀ {y : V} {d : Dat}, Rep K W y d → RepL K W (xs ++ [y]) (ds ++ [d])
  | _, [], h, y, d, r => by cases h; exact .cons r .nil
  | _, d0 :: ds, h, y, d, r => by cases h with | cons a b => exact .cons a (RepL.append b r)
/-- the words of a comprehension: J of the turn and what is made so far -/
def LcW (K : PySem.W.Frag) (R : WX) (g : TG) (tt : TT) (te : TE) (vs : List Nat) (e : Ev) (n : Nat) (it : Nat → Dat) (m : Ms) (Fin : List Dat → Ms → Prop) : Prop :=
  n ≤ 1000000 ∧ ∃ J : Nat → List Dat → Ms → Prop, J 0 [] m ∧
    (∀ i acc m', i < n → acc.length ≤ i → J i acc m' → DG K g (it i) (wipeE e vs) m' vs (fun e2 m2 => DT K R tt e2 m2 (fun b m3 => (b = true → DE K R te e2 m3 (fun y m4 => J (i + 1) (acc ++ [y]) m4) (fun _ _ _ => False)) ∧ (b = false → J (i + 1) acc m3)) (fun _ _ _ => False))) ∧
    ∀ acc m', acc.length ≤ n → J n acc m' → Fin acc m'
theorem lc_run {vs : List Nat} {Fin : List Dat → Ms → Prop} (h : DI K R wi e ms (fun n it m => LcW K R g tt te vs e n it m Fin) X) {W : Wd} {G : Hp} {σ : St} {H : Hp} {Q : VK} (gd : Good K W G H ms) (s : Slots K W σ e)
    (k : ∀ (W' : Wd) (D : Addr) (ys : List V) (acc : List Dat) (H' : Hp) (m' : Ms), Le W W' → Good K W' (upd G D (.lst ys)) H' m' → G D = none → RepL K W' ys acc → Fin acc m' → Q (.ref D) H') (x : ExC K W G X (fun c d H' => R c d σ H')) : tLc wi g tt te vs σ H Q := by
  refine h W G σ H _ gd s (fun W1 J n it H1 m1 l1 g1 wk ⟨hn, Jv, j0, step, fin⟩ D hD => ?_) x
  have gD : G D = none := g1.gd.free hD
  refine ⟨fun i m H' => m = n - i ∧ i ≤ n ∧ ∃ W2 ys acc m2, Le W1 W2 ∧ Good K W2 (upd G D (.lst ys)) H' m2 ∧ RepL K W2 ys acc ∧ acc.length ≤ i ∧ Jv i acc m2, ⟨n, rfl, Nat.zero_le _, W1, [], [], m1, Le.refl _, g1.hold hD, .nil, Nat.zero_le _, j0⟩, ?_⟩
  rintro i m H' ⟨rfl, hi, W2, ys, acc, m2, l2, g2, r2, ha, j2⟩
  obtain ⟨k1, k2, k3⟩ := wk W2 (upd G D (.lst ys)) H' m2 l2 g2
  by_cases hlt : i < n
  · refine .inr ⟨k2 i hlt, fun H'' => i + 1 ≤ n ∧ ∃ W3 ys acc m3, Le W1 W3 ∧ Good K W3 (upd G D (.lst ys)) H'' m3 ∧ RepL K W3 ys acc ∧ acc.length ≤ i + 1 ∧ Jv (i + 1) acc m3, fun H'' hh => ⟨n - (i + 1), by omega, rfl, hh⟩, fun v H3 hy => ?_⟩
    obtain ⟨W3, l3, g3, r3⟩ := k3 i v H3 hlt hy
    have sw := ((s.mono (l1.trans l2)).mono l3).wipe vs
    refine step i acc m2 hlt ha j2 W3 _ (wipe σ vs) H3 v _ g3 sw r3 fun W4 σ4 e4 H4 m4 l4 g4 s4 o4 p4 => ⟨?_, ?_⟩
    · exact wipe_same (o4.1.trans (wipe_length σ vs)) o4.2
    · refine p4 W4 _ σ4 H4 _ g4 s4 (fun W5 b H5 m5 l5 g5 ⟨pb1, pb2⟩ => ?_) (fun _ _ _ _ _ _ _ _ _ _ _ z => z.elim)
      cases b with
      | true =>
        refine pb1 rfl W5 _ σ4 H5 _ g5 (s4.mono l5) (fun W6 y d H6 m6 l6 g6 r6 q6 => ?_) (fun _ _ _ _ _ _ _ _ _ _ _ z => z.elim)
        have lw : Le W2 W6 := l3.trans (l4.trans (l5.trans l6))
        refine ⟨ys, g6.gd D _ upd_same, ?_, ?_⟩
        · rw [r2.length]
          exact Nat.lt_of_lt_of_le (show acc.length < 1000001 by omega) (by decide)
        · have g7 := g6.held (.lst (ys ++ [y]))
          exact ⟨hlt, W6, ys ++ [y], acc ++ [d], m6, l2.trans lw, g7, RepL.append (RepL.mono lw _ _ r2) r6, by rw [List.length_append, List.length_singleton]; omega, q6⟩
      | false => exact ⟨hlt, W5, ys, acc, m5, l2.trans (l3.trans (l4.trans l5)), g5, RepL.mono (l3.trans (l4.trans l5)) _ _ r2, by omega, pb2 rfl⟩
  · have e : i = n := by omega
    subst e
    exact .inl ⟨k1 i (Nat.le_refl _), k W2 D ys acc H' m2 (l1.trans l2) g2 gD r2 (fin acc m2 ha j2)⟩
end
end DL
namespace DL
open PySem L2
section
variable {K : PySem.W.Frag} {R : WX} {e : Ev} {ms : Ms} {O : Out} {ta tb tc : TE} {tA tr : TA} {tt tu : TT} {t u : TS} {g : TG} {d x y : Dat} {i : Nat} {wi : TI} {te : TE} {X : XP} {P : Dat → Ms → Prop}
/-- a comprehension: its list a datum -/
theorem de_lc {vs : List Nat} (h : DI K R wi e ms (fun n it m => LcW K R g tt te vs e n it m (fun acc m' => P (.lst acc) m')) X) : DE K R (tLc wi g tt te vs) e ms P X := fun W G σ H Q gd s k x =>
  lc_run h gd s (fun W' D ys acc H' m' l g' n r p => by
    obtain ⟨g2, l2⟩ := g'.frozen n
    exact k _ _ _ _ _ (l.trans l2) g2 (.lst upd_same (RepL.mono l2 _ _ r)) p) x
theorem Good.toC {W : Wd} {G H : Hp} {p : Addr} {xs : List V} {ds : List Dat} (g : Good K W (upd G p (.lst xs)) H ms) (n : G p = none) (r : RepL K W xs ds) : Good K ⟨W.ι ++ [p], W.F⟩ G H (ms ++ [.lst ds]) ∧ Le W ⟨W.ι ++ [p], W.F⟩ := by
  have nf : W.F p = none := g.gF p _ upd_same
  have np : p ∉ W.ι := fun h => by
    have := g.nG p h
    rw [upd_same] at this; cases this
  have l : Le W ⟨W.ι ++ [p], W.F⟩ := ⟨List.prefix_append _ _, Same.refl _⟩
  refine ⟨⟨g.fz, (same_new n).trans g.gd, by simp [g.ln], ?_, fun a h => ?_, fun a h => ?_, fun a v e => g.gF a v (by rw [upd_ne (ne_of_none e n)]; exact e), fun k a m' h1 h2 => ?_⟩, l⟩
  · show (W.ι ++ [p]).Nodup
    refine List.nodup_append.mpr ⟨g.nd, by simp, fun a ha b hb z => ?_⟩
    have : b = p := by simpa using hb
    subst this; subst z
    exact np ha
  · rcases List.mem_append.mp (show a ∈ W.ι ++ [p] from h) with h | h
    · exact g.nF a h
    · have : a = p := by simpa using h
      subst this
      exact nf
  · rcases List.mem_append.mp (show a ∈ W.ι ++ [p] from h) with h | h
    · have := g.nG a h
      rw [upd_ne (show a ≠ p from fun z => np (by rw [← z]; exact h))] at this
      exact this
    · have : a = p := by simpa using h
      subst this
      exact n
  · by_cases hk : k < W.ι.length
    · have h1' : W.ι[k]? = some a := by rw [← h1]; exact (List.getElem?_append_left hk).symm
      have h2' : ms[k]? = some m' := by rw [← h2]; exact (List.getElem?_append_left (by rw [← g.ln]; exact hk)).symm
      exact (g.cl k a m' h1' h2').mono l fun u e => e
    · have e1 : (W.ι ++ [p])[k]? = some a := h1
      rw [List.getElem?_append_right (by omega)] at e1
      rw [List.getElem?_append_right (by rw [← g.ln]; omega), ← g.ln] at h2
      have hk0 : k - W.ι.length = 0 := by
        cases q : k - W.ι.length with
        | zero => rfl
        | succ j => rw [q] at e1; simp at e1
      rw [hk0] at e1 h2
      cases e1; cases h2
      exact ⟨xs, g.gd _ _ upd_same, RepL.mono l _ _ r⟩
/-- .. a list that will change -/
theorem de_lcC {vs : List Nat} (h : DI K R wi e ms (fun n it m => LcW K R g tt te vs e n it m (fun acc m' => P (.cell m'.length) (m' ++ [.lst acc]))) X) : DE K R (tLc wi g tt te vs) e ms P X := fun W G σ H Q gd s k x =>
  lc_run h gd s (fun W' D ys acc H' m' l g' n r p => by
    obtain ⟨g2, l2⟩ := g'.toC n r
    exact k _ _ _ _ _ (l.trans l2) g2 (.cell (by show (W'.ι ++ [D])[m'.length]? = some D; rw [← g'.ln]; simp)) p) x
/-- the plain case: each turn tells its own item, nothing changes -/
theorem lcw_map {vs : List Nat} {n : Nat} {it : Nat → Dat} {Fin : List Dat → Ms → Prop} (hn : n ≤ 1000000) (keep : Nat → Bool) (f : Nat → Dat)
    (h : ∀ i, i < n → DG K g (it i) (wipeE e vs) ms vs (fun e2 m2 => DT K R tt e2 m2 (fun b m3 => b = keep i ∧ m3 = ms ∧ (b = true → DE K R te e2 ms (fun y m4 => y = f i ∧ m4 = ms) (fun _ _ _ => False))) (fun _ _ _ => False)))
    (q : Fin (((List.range n).filter keep).map f) ms) : LcW K R g tt te vs e n it ms Fin := by
  refine ⟨hn, fun i acc m => m = ms ∧ acc = ((List.range i).filter keep).map f, ⟨rfl, rfl⟩, ?_, ?_⟩
  · rintro i acc m' hi _ ⟨rfl, rfl⟩ W G σ H v Q g s r k
    refine h i hi W G σ H v Q g s r fun W' σ' e' H' ms' l g' s' o p => k W' σ' e' H' ms' l g' s' o ?_
    intro W G σ H Q g s k x
    refine p W G σ H Q g s (fun W' b H' m3 l g' ⟨hb, hm, hd⟩ => k W' b H' m3 l g' ?_) x
    subst hm
    constructor
    · intro hbt
      refine (hd hbt).mono fun y m4 ⟨hy, hm4⟩ => ⟨hm4, ?_⟩
      subst hy
      rw [List.range_succ, List.filter_append, List.map_append, show List.filter keep [i] = [i] by simp [← hb, hbt]]
      rfl
    · intro hbf
      refine ⟨rfl, ?_⟩
      rw [List.range_succ, List.filter_append, show List.filter keep [i] = [] by simp [← hb, hbf], List.append_nil]
  · rintro acc m' _ ⟨rfl, rfl⟩
    exact q
theorem dt_true {P : Bool → Ms → Prop} (q : P true ms) : DT K R tYes e ms P X := dt_yes q
/-! ### walks -/
theorem RepL.get {W : Wd} : ∀ {vs : List V} {ds : List Dat}, RepL K W vs ds → ∀ (i : Nat) {v : V}, vs[i]? = some v → ∃ d, ds[i]? = some d ∧ Rep K W v d
  | _, [], h, i, v, e => by cases h; simp at e
  | _, d :: ds, h, 0, v, e => by cases h with | cons a b => cases e; exact ⟨d, rfl, a⟩
  | _, d :: ds, h, i + 1, v, e => by cases h with | cons a b => exact RepL.get b i (by simpa using e)
theorem RepL.getD {W : Wd} : ∀ {vs : List V} {ds : List Dat}, RepL K W vs ds → ∀ (i : Nat) {d : Dat}, ds[i]? = some d → ∃ v, vs[i]? = some v ∧ Rep K W v d
  | _, [], h, i, v, e => by simp at e
  | _, d :: ds, h, 0, v, e => by cases h with | cons a b => cases e; exact ⟨_, rfl, a⟩
  | _, d :: ds, h, i + 1, v, e => by cases h with | cons a b => exact RepL.getD b i (by simpa using e)
/-- the items of a list, by their places -/
def itL (xs : List Dat) (i : Nat) : Dat := xs.getD i .non
theorem itL_get {xs : List Dat} {i : Nat} {d : Dat} (h : xs[i]? = some d) : itL xs i = d := by unfold itL; rw [List.getD_eq_getElem?_getD, h]; rfl
theorem walk_list {W : Wd} {a : Addr} {vs : List V} {ds : List Dat} (hq : SqL K W.F a vs) (r : RepL K W vs ds) : Walk K W (Itl K a) ds.length (itL ds) := fun W' G H m l g => by
  have hq' : SqL K H a vs := (l.f.trans g.fz).seq hq
  refine ⟨fun i hi => ⟨vs, hq', by rw [r.length]; exact hi⟩, fun i hi => ?_, fun i x H' hi hy => ?_⟩
  · have hv : i < vs.length := by rw [r.length]; exact hi
    exact ⟨vs, vs[i], hq', List.getElem?_eq_getElem hv⟩
  · obtain ⟨e1, e2⟩ := hy
    subst e1
    obtain ⟨d, hd, rd⟩ := r.get i (e2 vs hq')
    rw [itL_get hd]
    exact ⟨W', Le.refl _, g, Rep.mono l _ _ rd⟩
theorem walk_tup {W : Wd} {a : Addr} {vs : List V} {ds : List Dat} (hq : SqT K W.F a vs) (r : RepL K W vs ds) : Walk K W (Itt K a) ds.length (itL ds) := fun W' G H m l g => by
  have hq' : SqT K H a vs := Same.tup (l.f.trans g.fz) hq
  refine ⟨fun i hi => ⟨vs, hq', by rw [r.length]; exact hi⟩, fun i hi => ?_, fun i x H' hi hy => ?_⟩
  · have hv : i < vs.length := by rw [r.length]; exact hi
    exact ⟨vs, vs[i], hq', List.getElem?_eq_getElem hv⟩
  · obtain ⟨e1, e2⟩ := hy
    subst e1
    obtain ⟨d, hd, rd⟩ := r.get i (e2 vs hq')
    rw [itL_get hd]
    exact ⟨W', Le.refl _, g, Rep.mono l _ _ rd⟩
/-- one sign of a text -/
def sign1 (c : Nat) : Str := ⟨#[c]⟩
def itS (z : Str) (i : Nat) : Dat := .str (sign1 (z.cps.toList.getD i 0))
theorem walk_str {W : Wd} (z : Str) : Walk K W (Its z) z.cps.toList.length (itS z) := fun W' G H m l g => by
  refine ⟨fun i hi => by show z.cps.size ≤ i; simpa using hi, fun i hi => by show i < z.cps.size; simpa using hi, fun i x H' hi hy => ?_⟩
  obtain ⟨e1, c, hc, e2⟩ := hy
  subst e1; subst e2
  refine ⟨W', Le.refl _, g, ?_⟩
  have e3 : itS z i = .str ⟨#[c]⟩ := by
    unfold itS sign1
    rw [List.getD_eq_getElem?_getD, Array.getElem?_toList, hc]
    rfl
  rw [e3]
  exact .str _
theorem walk_range {W : Wd} (lo : Int) (n : Nat) : Walk K W (Itr lo n) n (fun i => .int (lo + i)) := fun W' G H m l g => by
  refine ⟨fun i hi => hi, fun i hi => hi, fun i x H' hi hy => ?_⟩
  obtain ⟨e1, e2⟩ := hy
  subst e1; subst e2
  exact ⟨W', Le.refl _, g, .int _⟩
variable {PI : Nat → (Nat → Dat) → Ms → Prop}
theorem di_list (h : DE K R ta e ms (fun d m => ∃ xs, (d = .lst xs ∨ d = .rol xs) ∧ PI xs.length (itL xs) m) X) : DI K R (iList K ta) e ms PI X := fun W G σ H Q g s k x =>
  h W G σ H _ g s (fun W1 v d H1 m1 l1 g1 r1 ⟨xs, hd, p⟩ => by
    rcases hd with hd | hd
    · subst hd
      cases r1 with
      | lst e r => exact ⟨_, rfl, ⟨_, .inl (.inl (g1.fz _ _ e))⟩, k W1 _ _ _ H1 m1 l1 g1 (walk_list (.inl (.inl e)) r) p⟩
    · subst hd
      cases r1 with
      | rol e r => exact ⟨_, rfl, ⟨_, g1.fz.seq e⟩, k W1 _ _ _ H1 m1 l1 g1 (walk_list e r) p⟩) x
theorem di_tup (h : DE K R ta e ms (fun d m => ∃ xs, d = .tup xs ∧ PI xs.length (itL xs) m) X) : DI K R (iTup K ta) e ms PI X := fun W G σ H Q g s k x =>
  h W G σ H _ g s (fun W1 v d H1 m1 l1 g1 r1 ⟨xs, hd, p⟩ => by
    subst hd
    cases r1 with
    | tup e r => exact ⟨_, rfl, ⟨_, Same.tup g1.fz e⟩, k W1 _ _ _ H1 m1 l1 g1 (walk_tup e r) p⟩) x
theorem di_str (h : DE K R ta e ms (fun d m => ∃ z, d = .str z ∧ PI z.cps.toList.length (itS z) m) X) : DI K R (iStr ta) e ms PI X := fun W G σ H Q g s k x =>
  h W G σ H _ g s (fun W1 v d H1 m1 l1 g1 r1 ⟨z, hd, p⟩ => by
    subst hd
    cases r1
    exact ⟨z, rfl, k W1 _ _ _ H1 m1 l1 g1 (walk_str z) p⟩) x
theorem di_rng1 (h : DA K R tA e ms (fun ds m => ∃ j : Int, ds = [.int j] ∧ -(2 ^ 62) ≤ j ∧ j < 2 ^ 62 ∧ PI j.toNat (fun i => .int (0 + i)) m) X) : DI K R (iRng1 tA) e ms PI X := fun W G σ H Q g s k x =>
  h W G σ H _ g s (fun W1 v d H1 m1 l1 g1 r1 ⟨j, hd, b1, b2, p⟩ => by
    subst hd
    cases r1 with
    | cons a b =>
      cases b; cases a
      exact ⟨j, rfl, b1, b2, k W1 _ _ _ H1 m1 l1 g1 (walk_range 0 j.toNat) p⟩) x
theorem di_rng2 (h : DA K R tA e ms (fun ds m => ∃ i j : Int, ds = [.int i, .int j] ∧ (-(2 ^ 62) ≤ i ∧ i < 2 ^ 62 ∧ -(2 ^ 62) ≤ j ∧ j < 2 ^ 62) ∧ PI (j - i).toNat (fun k => .int (i + k)) m) X) : DI K R (iRng2 tA) e ms PI X := fun W G σ H Q g s k x =>
  h W G σ H _ g s (fun W1 v d H1 m1 l1 g1 r1 ⟨i, j, hd, b1, p⟩ => by
    subst hd
    cases r1 with
    | cons a b => cases b with
      | cons a' b' =>
        cases b'; cases a; cases a'
        exact ⟨i, j, rfl, b1, k W1 _ _ _ H1 m1 l1 g1 (walk_range i _) p⟩) x
/-! ### calls of the text's own defs: a promise over data -/
/-- what a def promises: from data and cells, what may be concluded of its answer (P), of what it raises (X) -/
abbrev Pm := List Dat → Ms → (Dat → Ms → Prop) → XP → Prop
def spD (K : PySem.W.Frag) (A : Pm) : Sp := fun vs H Q E => ∃ (W : Wd) (G : Hp) (ms : Ms) (ds : List Dat) (P : Dat → Ms → Prop) (X : XP), Good K W G H ms ∧ RepL K W vs ds ∧ A ds ms P X ∧ RtC K W G P Q ∧ ExC K W G X E
theorem de_call {A : Pm} (h : DA K R tA e ms (fun ds m => A ds m P X) X) : DE K R (tCallS (spD K A) (WE R) tA) e ms P X := fun W G σ H Q g s k x =>
  h W G σ H _ g s (fun W1 vs ds H1 m1 l1 g1 r1 a => ⟨W1, G, m1, ds, P, X, g1, r1, a, k.le l1, x.le l1⟩) x
/-- .. where nothing is let out -/
theorem de_call0 {A : Pm} (h : DA K R tA e ms (fun ds m => A ds m P (fun _ _ _ => False)) X) : DE K R (tCall (spD K A) [] E0 tA) e ms P X := fun W G σ H Q g s k x =>
  h W G σ H _ g s (fun W1 vs ds H1 m1 l1 g1 r1 a => ⟨W1, G, m1, ds, P, fun _ _ _ => False, g1, by rw [List.append_nil]; exact r1, a, k.le l1, fun _ _ _ _ _ _ _ _ _ _ _ z => z.elim⟩) x
/-! ### a def's body -/
mutual
/-- all cells of a datum are below n -/
inductive Bel (n : Nat) : Dat → Prop
  | non : Bel n .non
  | bl (b : Bool) : Bel n (.bl b)
  | int (i : Int) : Bel n (.int i)
  | str (x : Str) : Bel n (.str x)
  | ref (a : Addr) : Bel n (.ref a)
  | ty (x : String) : Bel n (.ty x)
  | cell {k : Nat} : k < n → Bel n (.cell k)
  | lst {ds : List Dat} : BelL n ds → Bel n (.lst ds)
  | tup {ds : List Dat} : BelL n ds → Bel n (.tup ds)
  | rol {ds : List Dat} : BelL n ds → Bel n (.rol ds)
  | dct {ds : List (Key × Dat)} : BelL n (ds.map (·.2)) → Bel n (.dct ds)
  | exc {C : Addr} {ds : List (Str × Dat)} : BelL n (ds.map (·.2)) → Bel n (.exc C ds)
  | hot {a dd C : Addr} {ds : List (Str × Dat)} : BelL n (ds.map (·.2)) → Bel n (.hot a dd C ds)
inductive BelL (n : Nat) : List Dat → Prop
  | nil : BelL n []
  | cons {d : Dat} {ds : List Dat} : Bel n d → BelL n ds → BelL n (d :: ds)
end
mutual
theorem Rep.bel {W : Wd} : ∀ (d : Dat) (v : V), Rep K W v d → Bel W.ι.length d
  | .non, _, h => .non
  | .bl b, _, h => .bl b
  | .int b, _, h => .int b
  | .str b, _, h => .str b
  | .ref b, _, h => .ref b
  | .ty b, _, h => .ty b
  | .cell k, _, h => by cases h with | cell e => exact .cell (List.getElem?_eq_some_iff.mp e).1
  | .lst ds, _, h => by cases h with | lst e r => exact .lst (RepL.bel ds _ r)
  | .tup ds, _, h => by cases h with | tup e r => exact .tup (RepL.bel ds _ r)
  | .rol ds, _, h => by cases h with | rol e r => exact .rol (RepL.bel ds _ r)
  | .dct ds, _, h => by cases h with | dct e r => exact .dct (RepK.bel ds _ r)
  | .exc C ds, _, h => by cases h with | exc e e' r => exact .exc (RepF.bel ds _ r)
  | .hot a dd C ds, _, h => by cases h with | hot e r => exact .hot (RepF.bel ds _ r)
theorem RepL.bel {W : Wd} : ∀ (ds : List Dat) (vs : List V), RepL K W vs ds → BelL W.ι.length ds
  | [], _, h => .nil
  | d :: ds, _, h => by cases h with | cons a b => exact .cons (Rep.bel d _ a) (RepL.bel ds _ b)
theorem RepF.bel {W : Wd} : ∀ (ds : List (Str × Dat)) (vs : List (Str × V)), RepF K W vs ds → BelL W.ι.length (ds.map (·.2))
  | [], _, h => .nil
  | (f, d) :: ds, _, h => by cases h with | cons a b => exact .cons (Rep.bel d _ a) (RepF.bel ds _ b)
theorem RepK.bel {W : Wd} : ∀ (ds : List (Key × Dat)) (vs : List (Key × V)), RepK K W vs ds → BelL W.ι.length (ds.map (·.2))
  | [], _, h => .nil
  | (f, d) :: ds, _, h => by cases h with | cons a b => exact .cons (Rep.bel d _ a) (RepK.bel ds _ b)
end
end
end DL
namespace DL
open PySem L2
mutual
/-- cells from n on read as what they hold in the end -/
inductive Fr (n : Nat) (ms : Ms) : Dat → Dat → Prop
  | non : Fr n ms .non .non
  | bl (b : Bool) : Fr n ms (.bl b) (.bl b)
  | int (i : Int) : Fr n ms (.int i) (.int i)
  | str (x : Str) : Fr n ms (.str x) (.str x)
  | ref (a : Addr) : Fr n ms (.ref a) (.ref a)
  | ty (x : String) : Fr n ms (.ty x) (.ty x)
  | cell {k : Nat} : k < n → Fr n ms (.cell k) (.cell k)
  | cellL {k : Nat} {xs ys : List Dat} : n ≤ k → ms[k]? = some (.lst xs) → FrL n ms xs ys → Fr n ms (.cell k) (.lst ys)
  | cellD {k : Nat} {xs ys : List (Key × Dat)} : n ≤ k → ms[k]? = some (.dct xs) → FrK n ms xs ys → Fr n ms (.cell k) (.dct ys)
  | lst {xs ys : List Dat} : FrL n ms xs ys → Fr n ms (.lst xs) (.lst ys)
  | tup {xs ys : List Dat} : FrL n ms xs ys → Fr n ms (.tup xs) (.tup ys)
  | rol {xs ys : List Dat} : FrL n ms xs ys → Fr n ms (.rol xs) (.rol ys)
  | dct {xs ys : List (Key × Dat)} : FrK n ms xs ys → Fr n ms (.dct xs) (.dct ys)
  | exc {C : Addr} {xs ys : List (Str × Dat)} : FrF n ms xs ys → Fr n ms (.exc C xs) (.exc C ys)
  | hot {a dd C : Addr} {xs ys : List (Str × Dat)} : FrF n ms xs ys → Fr n ms (.hot a dd C xs) (.hot a dd C ys)
inductive FrL (n : Nat) (ms : Ms) : List Dat → List Dat → Prop
  | nil : FrL n ms [] []
  | cons {x y : Dat} {xs ys : List Dat} : Fr n ms x y → FrL n ms xs ys → FrL n ms (x :: xs) (y :: ys)
inductive FrF (n : Nat) (ms : Ms) : List (Str × Dat) → List (Str × Dat) → Prop
  | nil : FrF n ms [] []
  | cons {f : Str} {x y : Dat} {xs ys : List (Str × Dat)} : Fr n ms x y → FrF n ms xs ys → FrF n ms ((f, x) :: xs) ((f, y) :: ys)
inductive FrK (n : Nat) (ms : Ms) : List (Key × Dat) → List (Key × Dat) → Prop
  | nil : FrK n ms [] []
  | cons {f : Key} {x y : Dat} {xs ys : List (Key × Dat)} : Fr n ms x y → FrK n ms xs ys → FrK n ms ((f, x) :: xs) ((f, y) :: ys)
end
mutual
theorem Fr.refl {n : Nat} {ms : Ms} : ∀ (d : Dat), Bel n d → Fr n ms d d
  | .non, _ => .non
  | .bl b, _ => .bl b
  | .int b, _ => .int b
  | .str b, _ => .str b
  | .ref b, _ => .ref b
  | .ty b, _ => .ty b
  | .cell k, h => by cases h with | cell e => exact .cell e
  | .lst ds, h => by cases h with | lst r => exact .lst (FrL.refl ds r)
  | .tup ds, h => by cases h with | tup r => exact .tup (FrL.refl ds r)
  | .rol ds, h => by cases h with | rol r => exact .rol (FrL.refl ds r)
  | .dct ds, h => by cases h with | dct r => exact .dct (FrK.refl ds r)
  | .exc C ds, h => by cases h with | exc r => exact .exc (FrF.refl ds r)
  | .hot a dd C ds, h => by cases h with | hot r => exact .hot (FrF.refl ds r)
theorem FrL.refl {n : Nat} {ms : Ms} : ∀ (ds : List Dat), BelL n ds → FrL n ms ds ds
  | [], _ => .nil
  | d :: ds, h => by cases h with | cons a b => exact .cons (Fr.refl d a) (FrL.refl ds b)
theorem FrF.refl {n : Nat} {ms : Ms} : ∀ (ds : List (Str × Dat)), BelL n (ds.map (·.2)) → FrF n ms ds ds
  | [], _ => .nil
  | (f, d) :: ds, h => by cases h with | cons a b => exact .cons (Fr.refl d a) (FrF.refl ds b)
theorem FrK.refl {n : Nat} {ms : Ms} : ∀ (ds : List (Key × Dat)), BelL n (ds.map (·.2)) → FrK n ms ds ds
  | [], _ => .nil
  | (f, d) :: ds, h => by cases h with | cons a b => exact .cons (Fr.refl d a) (FrK.refl ds b)
end
/-- the world behind: the cells from n on are data -/
def cutW (W : Wd) (H : Hp) (n : Nat) : Wd := ⟨W.ι.take n, fun a => if a ∈ W.ι.drop n then H a else W.F a⟩
section
variable {K : PySem.W.Frag} {W : Wd} {G H : Hp} {ms : Ms} {n : Nat}
theorem cut_old (g : Good K W G H ms) {a : Addr} {o : HO} (h : W.F a = some o) : (cutW W H n).F a = some o := by
  show (if a ∈ W.ι.drop n then H a else W.F a) = some o
  by_cases hm : a ∈ W.ι.drop n
  · have := g.nF a (List.mem_of_mem_drop hm)
    rw [h] at this; cases this
  · rw [if_neg hm]; exact h
theorem cut_new {k : Nat} {a : Addr} {o : HO} (hk : n ≤ k) (e : W.ι[k]? = some a) (h : H a = some o) : (cutW W H n).F a = some o := by
  show (if a ∈ W.ι.drop n then H a else W.F a) = some o
  have hm : a ∈ W.ι.drop n := by
    refine List.mem_of_getElem? (i := k - n) ?_
    rw [List.getElem?_drop, Nat.add_sub_cancel' hk]
    exact e
  rw [if_pos hm]; exact h
theorem cut_l (g : Good K W G H ms) {a : Addr} {xs : List V} (h : SqL K W.F a xs) : SqL K (cutW W H n).F a xs := by
  rcases h with (h | ⟨o, h⟩) | h
  · exact .inl (.inl (cut_old g h))
  · exact .inl (.inr ⟨o, cut_old g h⟩)
  · exact .inr h
theorem cut_t (g : Good K W G H ms) {a : Addr} {xs : List V} (h : SqT K W.F a xs) : SqT K (cutW W H n).F a xs := by
  rcases h with (h | ⟨o, h⟩) | h
  · exact .inl (.inl (cut_old g h))
  · exact .inl (.inr ⟨o, cut_old g h⟩)
  · exact .inr h
theorem take_get {α : Type} {l : List α} {k n : Nat} {a : α} (hk : k < n) (e : l[k]? = some a) : (l.take n)[k]? = some a := by
  rw [List.getElem?_take_of_lt hk]; exact e
mutual
theorem Rep.cut (g : Good K W G H ms) {d d2 : Dat} : ∀ (f : Fr n ms d d2) (v : V), Rep K W v d → Rep K (cutW W H n) v d2
  | .non, _, h => by cases h; exact .non
  | .bl b, _, h => by cases h; exact .bl b
  | .int b, _, h => by cases h; exact .int b
  | .str b, _, h => by cases h; exact .str b
  | .ref b, _, h => by cases h; exact .ref b
  | .ty b, _, h => by cases h; exact .ty b
  | .cell hk, _, h => by cases h with | cell e => exact .cell (take_get hk e)
  | .cellL hk hm f, _, h => by
    cases h with
    | cell e =>
      obtain ⟨xs, hx, r⟩ := (show MoOk K W H _ (.lst _) from g.cl _ _ _ e hm)
      exact .lst (cut_new hk e hx) (RepL.cut g f _ r)
  | .cellD hk hm f, _, h => by
    cases h with
    | cell e =>
      obtain ⟨xs, hx, r⟩ := (show MoOk K W H _ (.dct _) from g.cl _ _ _ e hm)
      exact .dct (cut_new hk e hx) (RepK.cut g f _ r)
  | .lst f, _, h => by cases h with | lst e r => exact .lst (cut_old g e) (RepL.cut g f _ r)
  | .tup f, _, h => by cases h with | tup e r => exact .tup (cut_t g e) (RepL.cut g f _ r)
  | .rol f, _, h => by cases h with | rol e r => exact .rol (cut_l g e) (RepL.cut g f _ r)
  | .dct f, _, h => by cases h with | dct e r => exact .dct (cut_old g e) (RepK.cut g f _ r)
  | .exc f, _, h => by cases h with | exc e e' r => exact .exc (cut_old g e) (cut_old g e') (RepF.cut g f _ r)
  | .hot f, _, h => by cases h with | hot e r => exact .hot (cut_old g e) (RepF.cut g f _ r)
theorem RepL.cut (g : Good K W G H ms) {ds d2 : List Dat} : ∀ (f : FrL n ms ds d2) (vs : List V), RepL K W vs ds → RepL K (cutW W H n) vs d2
  | .nil, _, h => by cases h; exact .nil
  | .cons a b, _, h => by cases h with | cons x y => exact .cons (Rep.cut g a _ x) (RepL.cut g b _ y)
theorem RepF.cut (g : Good K W G H ms) {ds d2 : List (Str × Dat)} : ∀ (f : FrF n ms ds d2) (vs : List (Str × V)), RepF K W vs ds → RepF K (cutW W H n) vs d2
  | .nil, _, h => by cases h; exact .nil
  | .cons a b, _, h => by cases h with | cons x y => exact .cons (Rep.cut g a _ x) (RepF.cut g b _ y)
theorem RepK.cut (g : Good K W G H ms) {ds d2 : List (Key × Dat)} : ∀ (f : FrK n ms ds d2) (vs : List (Key × V)), RepK K W vs ds → RepK K (cutW W H n) vs d2
  | .nil, _, h => by cases h; exact .nil
  | .cons a b, _, h => by cases h with | cons x y => exact .cons (Rep.cut g a _ x) (RepK.cut g b _ y)
end
inductive FrM (n : Nat) (ms : Ms) : MO → MO → Prop
  | lst {xs ys : List Dat} : FrL n ms xs ys → FrM n ms (.lst xs) (.lst ys)
  | dct {xs ys : List (Key × Dat)} : FrK n ms xs ys → FrM n ms (.dct xs) (.dct ys)
  | ins {C : Addr} {xs ys : List (Str × Dat)} : FrF n ms xs ys → FrM n ms (.ins C xs) (.ins C ys)
/-- the cells that stay -/
def Keep (n : Nat) (ms ms2 : Ms) : Prop := ms2.length = n ∧ n ≤ ms.length ∧ ∀ (k : Nat) m, k < n → ms[k]? = some m → ∃ m2, ms2[k]? = some m2 ∧ FrM n ms m m2
theorem Good.cut (g : Good K W G H ms) {ms2 : Ms} (kp : Keep n ms ms2) : Good K (cutW W H n) G H ms2 := by
  obtain ⟨hl, hn, hk⟩ := kp
  have tk : ∀ a ∈ W.ι.take n, a ∈ W.ι := fun a h => List.mem_of_mem_take h
  have nd2 : ∀ a ∈ W.ι.take n, a ∉ W.ι.drop n := fun a h1 h2 => by
    have := g.nd
    rw [← List.take_append_drop n W.ι] at this
    exact (List.nodup_append.mp this).2.2 a h1 a h2 rfl
  refine ⟨fun a o e => ?_, g.gd, ?_, ?_, fun a h => ?_, fun a h => g.nG a (tk a h), fun a o e => ?_, fun k a m h1 h2 => ?_⟩
  · have e' : (if a ∈ W.ι.drop n then H a else W.F a) = some o := e
    by_cases hm : a ∈ W.ι.drop n
    · rw [if_pos hm] at e'; exact e'
    · rw [if_neg hm] at e'; exact g.fz a o e'
  · show (W.ι.take n).length = ms2.length
    rw [List.length_take, g.ln, hl]; omega
  · exact g.nd.sublist (List.take_sublist _ _)
  · show (if a ∈ W.ι.drop n then H a else W.F a) = none
    rw [if_neg (nd2 a h)]
    exact g.nF a (tk a h)
  · show (if a ∈ W.ι.drop n then H a else W.F a) = none
    have hm : a ∉ W.ι.drop n := fun hm => by
      have := g.nG a (List.mem_of_mem_drop hm)
      rw [e] at this; cases this
    rw [if_neg hm]
    exact g.gF a o e
  · have hkn : k < n := by rw [← hl]; exact (List.getElem?_eq_some_iff.mp h2).1
    have h1' : W.ι[k]? = some a := by rw [← h1]; exact (List.getElem?_take_of_lt hkn).symm
    have hm : k < ms.length := by omega
    obtain ⟨m2, e2, f⟩ := hk k ms[k] hkn (List.getElem?_eq_getElem hm)
    rw [h2] at e2
    cases e2
    have old := g.cl k a ms[k] h1' (List.getElem?_eq_getElem hm)
    generalize hq : ms[k] = m0 at old f
    cases f with
    | lst f => obtain ⟨xs, e, r⟩ := old; exact ⟨xs, e, RepL.cut g f _ r⟩
    | dct f => obtain ⟨xs, e, r⟩ := old; exact ⟨xs, e, RepK.cut g f _ r⟩
    | ins f => obtain ⟨dx, xs, e, r⟩ := old; exact ⟨dx, xs, e, RepF.cut g f _ r⟩
theorem cut_le (g : Good K W G H ms) {W0 : Wd} (l : Le W0 W) (hn : W0.ι.length = n) : Le W0 (cutW W H n) := by
  refine ⟨?_, fun a o e => cut_old g (l.f a o e)⟩
  obtain ⟨t, ht⟩ := l.i
  have : W.ι.take n = W0.ι := by rw [← ht, ← hn, List.take_left]
  show W0.ι <+: W.ι.take n
  rw [this]
  exact List.prefix_rfl
end
end DL
namespace DL
open PySem PySem.Spec PyProof.Rows L2
def RetOk (n : Nat) (P : Dat → Ms → Prop) (d : Dat) (ms : Ms) : Prop := P d ms ∨ ∃ d2 ms2, Keep n ms ms2 ∧ Fr n ms d d2 ∧ P d2 ms2
def RetX (n : Nat) (X : XP) (C : Addr) (fs : List (Str × Dat)) (ms : Ms) : Prop := X C fs ms ∨ ∃ fs2 ms2, Keep n ms ms2 ∧ FrF n ms fs fs2 ∧ X C fs2 ms2
def bodyOut (n : Nat) (P : Dat → Ms → Prop) (X : XP) : Out where
  nx := fun _ ms => RetOk n P .non ms
  rt := RetOk n P
  ex := fun C fs _ ms => RetX n X C fs ms
def startE (N : List Str) (ds : List Dat) : Ev := ds.map some ++ List.replicate (N.length - ds.length) none
inductive MoBel (n : Nat) : MO → Prop
  | lst {xs : List Dat} : BelL n xs → MoBel n (.lst xs)
  | dct {xs : List (Key × Dat)} : BelL n (xs.map (·.2)) → MoBel n (.dct xs)
  | ins {C : Addr} {xs : List (Str × Dat)} : BelL n (xs.map (·.2)) → MoBel n (.ins C xs)
def MsBel (ms : Ms) : Prop := ∀ (k : Nat) m, ms[k]? = some m → MoBel ms.length m
section
variable {K : PySem.W.Frag} {W : Wd} {G H : Hp} {ms : Ms} {n : Nat} {P : Dat → Ms → Prop} {X : XP}
theorem Good.bel (g : Good K W G H ms) : MsBel ms := fun k m e => by
  have hk : k < W.ι.length := by rw [g.ln]; exact (List.getElem?_eq_some_iff.mp e).1
  have o := g.cl k W.ι[k] m (List.getElem?_eq_getElem hk) e
  rw [← g.ln]
  cases m with
  | lst ds => obtain ⟨_, _, r⟩ := o; exact .lst (RepL.bel _ _ r)
  | dct ds => obtain ⟨_, _, r⟩ := o; exact .dct (RepK.bel _ _ r)
  | ins C ds => obtain ⟨_, _, _, r⟩ := o; exact .ins (RepF.bel _ _ r)
theorem RtC.ret {Q : VK} (hn : W.ι.length = n) (k : RtC K W G P Q) : RtC K W G (RetOk n P) Q := fun W' v d H' ms' l g r q => by
  rcases q with q | ⟨d2, ms2, kp, f, q⟩
  · exact k W' v d H' ms' l g r q
  · exact k _ v d2 H' ms2 (cut_le g l hn) (g.cut kp) (Rep.cut g f v r) q
theorem ExC.ret {E : XK} (hn : W.ι.length = n) (k : ExC K W G X E) : ExC K W G (RetX n X) E := fun W' C d fs ds H' ms' l g f r q => by
  rcases q with q | ⟨d2, ms2, kp, ff, q⟩
  · exact k W' C d fs ds H' ms' l g f r q
  · exact k _ C d fs d2 H' ms2 (cut_le g l hn) (g.cut kp) (cut_old g f) (RepF.cut g ff _ r) q
theorem start_slots {N : List Str} : ∀ {vs : List V} {ds : List Dat}, RepL K W vs ds → Slots K W (L2.start N vs) (startE N ds) := fun {vs ds} r => by
  refine ⟨by unfold L2.start startE; simp [r.length], fun i d h => ?_⟩
  unfold startE at h
  by_cases hi : i < ds.length
  · rw [List.getElem?_append_left (by simpa using hi), List.getElem?_map] at h
    cases e : ds[i]? with
    | none => rw [e] at h; cases h
    | some x =>
      rw [e] at h; cases h
      obtain ⟨v, hv, rv⟩ := RepL.getD r i e
      refine ⟨v, ?_, rv⟩
      unfold L2.start
      rw [List.getElem?_append_left (by simpa [r.length] using hi), List.getElem?_map, hv]
      rfl
  · rw [List.getElem?_append_right (by simpa using hi), List.getElem?_replicate] at h
    split at h <;> cases h
/-- the body's word, spent on a call -/
theorem run_body {E : XK} {Q : VK} {t : TS} {N : List Str} {vs : List V} {ds : List Dat} (g : Good K W G H ms) (r : RepL K W vs ds) (kP : RtC K W G P Q) (kX : ExC K W G X E)
    (h : DS K (fun c d _ H => E c d H) t (startE N ds) ms (bodyOut ms.length P X)) : t { nx := fun _ H' => Q .non H', rt := Q } (L2.start N vs) H := by
  have kr := RtC.ret g.ln kP
  refine h W G _ H _ g (start_slots r) ⟨fun W' σ' e' H' ms' l g' s' q => kr W' .non .non H' ms' l g' .non q, kr, fun _ _ _ _ _ _ _ _ z => z.elim, fun _ _ _ _ _ _ _ _ z => z.elim, ?_⟩
  exact fun W' σ' e' C d fs ds H' ms' l g' s' f rr q => ExC.ret g.ln kX W' C d fs ds H' ms' l g' f rr q
end

/-! ### defs: promises kept while no repr is under way -/
structure Quiet (A : Around) : Prop where
  g : A.guards = some []
theorem Quiet.deeper {A : Around} (q : Quiet A) (env : Env) : Quiet (A.deeper env) := ⟨q.g⟩
theorem Quiet.mark {A : Around} (q : Quiet A) (h : Option Value) : Quiet (A.mark h) := ⟨q.g⟩
structure FnG (P : Program) (w : World) (K : PySem.W.Frag) (mg : Str → Option Value) (base : Heap) (cx : CXT) (k : Nat) (f : Addr) (fd : FuncData) (ps : List Str) (sp : Sp) : Prop where
  len : ∀ vs H Q E, sp vs H Q E → vs.length = ps.length
  go : ∀ (A : Around) (outer : List Env) (s : Shared) (H : Hp) (args : Args) (us : List Value) (vs : List V) (Q : VK) (E : XK),
    Room k A → Quiet A → Env0 P w K mg base A outer s H → BindsTo s fd args (ps.zip us) → Vals vs us → sp vs H Q E → codeAny (model P w) A (.call (.ref f) args) (CR cx outer P w H s Q E) s
/-- .. within an except suite -/
structure FnGH (P : Program) (w : World) (K : PySem.W.Frag) (mg : Str → Option Value) (base : Heap) (cx : CXT) (k : Nat) (f : Addr) (fd : FuncData) (ps : List Str) (sp : Sp) : Prop where
  len : ∀ vs H Q E, sp vs H Q E → vs.length = ps.length
  go : ∀ (A : Around) (outer : List Env) (s : Shared) (H : Hp) (args : Args) (us : List Value) (vs : List V) (Q : VK) (E : XK) (p : Addr × Obj),
    L2H.RoomH k A → Quiet A → L2H.Hot1 A p → L2H.PinOk outer H s p → Env0 P w K mg base A outer s H → BindsTo s fd args (ps.zip us) → Vals vs us → sp vs H Q E →
      codeAny (model P w) A (.call (.ref f) args) (CR cx outer P w H s Q E) s
section
variable {P : Program} {w : World} {K : PySem.W.Frag} {mg : Str → Option Value} {base : Heap} {cx : CXT} {k : Nat} {f : Addr} {fd : FuncData} {ps : List Str} {sp : Sp}
theorem FnG.mono {j : Nat} (F : FnG P w K mg base cx j f fd ps sp) (h : j ≤ k) : FnG P w K mg base cx k f fd ps sp :=
  ⟨F.len, fun A o s H a us vs Q E hr => F.go A o s H a us vs Q E (hr.mono h)⟩
theorem FnGH.mono {j : Nat} (F : FnGH P w K mg base cx j f fd ps sp) (h : j ≤ k) : FnGH P w K mg base cx k f fd ps sp :=
  ⟨F.len, fun A o s H a us vs Q E p hr => F.go A o s H a us vs Q E p (hr.mono h)⟩
theorem fnG_of (F : FnOk P w K mg base cx k f fd ps sp) : FnG P w K mg base cx k f fd ps sp := ⟨F.len, fun A o s H a us vs Q E hr _ => F.run A o s H a us vs Q E hr⟩
theorem fnGH_of (F : L2H.FnH P w K mg base cx k f fd ps sp) : FnGH P w K mg base cx k f fd ps sp := ⟨F.len, fun A o s H a us vs Q E p hr _ => F.run A o s H a us vs Q E p hr⟩
/-- how a body's flow ends the call -/
theorem flow_end {X : Cx} {outer : List Env} {s s' : Shared} {H : Hp} {Q : VK} {E : XK} {fl : Flow} (ho : X.fs = frs outer) (h0 : X.s_0 = s) (hH : X.H_0 = H) (hp : X.prog = P) (hw : X.w = w) (hx : X.ex = [])
    (h : SP X [] { nx := fun _ H' => Q .non H', rt := Q } fl s') : CR cx outer P w H s Q E (.ok (.ret (match (generalizing := false) fl with | .ret v => v | _ => .none))) s' := by
  have one : ∀ {σ' : L2.St} {H' : Hp} {v : V} {u : Value}, Inv X [] σ' H' s' → RelV v u → Q v H' → CE outer P w H s Q u s' := fun {σ' H' v u} J rv q => by
    have b := J.base
    rw [ho, h0, hH, hx] at b
    have o := J.os
    rw [h0] at o
    have k := J.hok
    rw [hp, hw] at k
    exact ⟨v, H', o, J.bare, b, k, rv, q⟩
  cases fl with
  | ret u => obtain ⟨v, σ', H', J, rv, q⟩ := h; exact one J rv q
  | next => obtain ⟨σ', H', J, q⟩ := h; exact one (v := .non) (u := .none) J rfl q
  | brk => obtain ⟨_, _, _, z⟩ := h; exact z.elim
  | cont => obtain ⟨_, _, _, z⟩ := h; exact z.elim
end
section
variable {P : Program} {w : World} {K : PySem.W.Frag} {mg : Str → Option Value} {base : Heap} {cx : CXT} {x qual : Str} {st : Stmt} {f : Addr} {fd : FuncData} {N ps : List Str} {k : Nat} {sp : Sp}
theorem enter_def {oc : Value} {od an : Option Addr} {osl : Array (Option Value)} {dV kV doc pm cdv ct : Value} {A : Around} {outer : List Env} {s : Shared} {H : Hp} {args : Args} {us : List Value} {R : Result → Shared → Prop} {pr : Arguments} {bd : List Stmt} {sc : Scope}
    (lk : K.lookup f = some ⟨oc, od, .func (PySem.W.fnOf x qual pr bd sc dV kV doc pm an cdv ct), osl⟩) (hcd : PySem.W.codeIn K cdv qual = true) (S : FnScope N ps sc) (hd : A.depth < recursionLimit)
    (e0 : Env0 P w K mg base A outer s H) (hb : BindsTo s (PySem.W.fnOf x qual pr bd sc dV kV doc pm an cdv ct) args (ps.zip us))
    (h : ∀ s1, InCallC s s.heap.objs.size (bindL (envOfC qual sc s.heap.objs.size f cdv).kindOf (ps.zip us) fun _ => none) (cellsFrom (s.heap.objs.size + 1) sc.names []) (bindC (envOfC qual sc s.heap.objs.size f cdv).kindOf (ps.zip us) fun _ => none) s1 →
      wpAny (model P w) (A.deeper (envOfC qual sc s.heap.objs.size f cdv)) (execs bd (envOfC qual sc s.heap.objs.size f cdv)) (fun fl s' => R (.ok (.ret (match fl with | .ret v => v | _ => .none))) s')
        (fun e s' => wpAny (model P w) (A.deeper (envOfC qual sc s.heap.objs.size f cdv)) (leaving (envOfC qual sc s.heap.objs.size f cdv) e) (fun _ s'' => R (.error e) s'') (fun e' s'' => R (.error e') s'') s') s1) :
    codeAny (model P w) A (.call (.ref f) args) R s := by
  have kin := e0.mod.kin.keeps fun b o e => (e0.bs b o e).1
  have lm : s.heap.NoLimit := e0.mod.nolimit.keeps fun b o e => (e0.bs b o e).1
  have kinds : ∀ y ∈ ps.zip us, sc.names.lookup y.1 = some .local ∨ (sc.names.lookup y.1 = some .cell ∧ ((cellsFrom (s.heap.objs.size + 1) sc.names []).lookup y.1).isSome = true) := by
    intro y hy
    obtain ⟨n, v⟩ := y
    rcases S.par n (List.of_mem_zip hy).1 with q | q
    · exact Or.inl q
    · exact Or.inr ⟨q, PySem.W.cellsFrom_some _ _ _ (Or.inl q)⟩
  apply codeAny_call_function hd (kin _ _ lk) rfl S.co S.gen rfl (PySem.W.codeRec_of kin hcd)
  apply hb
  apply wpAny_newFunctionEnv_cells S.kind kinds
  intro env he s1 ic
  cases he
  exact ⟨lm.keeps ic.toInCall.keep, codeAny_func (h s1 ic)⟩
/-- a def keeps its promise, called where nothing is handled -/
theorem fn_dl {A : Pm} (F : Fun K x qual st f fd) (S : FnScope N ps (defScope st)) (hlen : ∀ ds ms P X, A ds ms P X → ds.length = ps.length)
    (hb : ∀ (cdv : Value) (Ar : Around) (outer : List Env) (s : Shared) (H : Hp) (E : XK), Room k (Ar.deeper (envOfC qual (defScope st) s.heap.objs.size f cdv)) → Quiet (Ar.deeper (envOfC qual (defScope st) s.heap.objs.size f cdv)) →
      ∃ t, PSs (cxOf (L2N.CX P w) P w K mg base N qual (defScope st) f cdv Ar outer s H E) (defBody st) t ∧
        ∀ ds ms Pd X, A ds ms Pd X → BelL ms.length ds → MsBel ms → DS K (fun c d _ H => E c d H) t (startE N ds) ms (bodyOut ms.length Pd X)) :
    FnG P w K mg base (L2N.CX P w) (k + 1) f fd ps (spD K A) := by
  obtain ⟨oc, od, kV, doc, pm, an, cdv, ct, osl, e, lk, hcd⟩ := F.ex
  subst e
  refine ⟨fun vs H Q E h => ?_, fun Ar outer s H args us vs Q E hr hq e0 hbd r hsp => ?_⟩
  · obtain ⟨W, G, ms, ds, Pd, X, _, r, a, _⟩ := h
    rw [r.length]; exact hlen ds ms Pd X a
  · obtain ⟨W, G, ms, ds, Pd, X, g, rl, a, kP, kX⟩ := hsp
    obtain ⟨t, ht, hd⟩ := hb cdv Ar outer s H E (hr.deeper _) (hq.deeper _)
    have b := RepL.bel ds vs rl
    rw [g.ln] at b
    have hl : vs.length = ps.length := by rw [rl.length]; exact hlen ds ms Pd X a
    refine enter_def lk hcd S hr.depth e0 hbd fun s1 ic => ?_
    have I := inv_start (CX := L2N.CX P w) (E := E) S hr.hd e0 hl r ic
    exact wpAny_mono (ht.run [] s1 _ H _ I (run_body g rl kP kX (hd ds ms Pd X a b g.bel))) (fun fl s' z => flow_end rfl rfl rfl rfl rfl rfl z) fun _ _ z => z
/-- .. called within an except suite -/
theorem fn_dlH {A : Pm} (F : Fun K x qual st f fd) (S : FnScope N ps (defScope st)) (hlen : ∀ ds ms P X, A ds ms P X → ds.length = ps.length)
    (hb : ∀ (cdv : Value) (Ar : Around) (outer : List Env) (s : Shared) (H : Hp) (E : XK) (p : Addr × Obj), L2H.Hot1 Ar p → L2H.RoomH k (Ar.deeper (envOfC qual (defScope st) s.heap.objs.size f cdv)) → Quiet (Ar.deeper (envOfC qual (defScope st) s.heap.objs.size f cdv)) →
      ∃ t, PSs (L2H.cxH (L2N.CX P w) P w K mg base N qual (defScope st) f cdv Ar outer s H E p) (defBody st) t ∧
        ∀ ds ms Pd X, A ds ms Pd X → BelL ms.length ds → MsBel ms → DS K (fun c d _ H => E c d H) t (startE N ds) ms (bodyOut ms.length Pd X)) :
    FnGH P w K mg base (L2N.CX P w) (k + 1) f fd ps (spD K A) := by
  obtain ⟨oc, od, kV, doc, pm, an, cdv, ct, osl, e, lk, hcd⟩ := F.ex
  subst e
  refine ⟨fun vs H Q E h => ?_, fun Ar outer s H args us vs Q E p hr hq hot hpin e0 hbd r hsp => ?_⟩
  · obtain ⟨W, G, ms, ds, Pd, X, _, r, a, _⟩ := h
    rw [r.length]; exact hlen ds ms Pd X a
  · obtain ⟨W, G, ms, ds, Pd, X, g, rl, a, kP, kX⟩ := hsp
    obtain ⟨t, ht, hd⟩ := hb cdv Ar outer s H E p hot (hr.deeper _) (hq.deeper _)
    have b := RepL.bel ds vs rl
    rw [g.ln] at b
    have hl : vs.length = ps.length := by rw [rl.length]; exact hlen ds ms Pd X a
    refine enter_def lk hcd S hr.depth e0 hbd fun s1 ic => ?_
    have I := L2H.inv_startH (CX := L2N.CX P w) (E := E) S hpin e0 hl r ic
    exact wpAny_mono (ht.run [] s1 _ H _ I (run_body g rl kP kX (hd ds ms Pd X a b g.bel))) (fun fl s' z => flow_end rfl rfl rfl rfl rfl rfl z) fun _ _ z => z
end
/-! ### the call of such a def -/
section
variable {X : Cx} {cx : CXT} {k : Nat} {f : Addr} {fd : FuncData} {ps : List Str} {sp : Sp} {E : L2.St → XK} {x : Str} {p pos : Pos} {e : Expr} {es : List Expr} {t : TA} {ds : List Value} {dvs : List V}
theorem go_fn {pins : List (Addr × Obj)} {σ : L2.St} {H : Hp} {s : Shared} {Q : VK} {us : List Value} {vs : List V} (F : FnG X.prog X.w X.K X.mg X.base cx k f fd ps sp) (hr : Room k X.A) (hq : Quiet X.A) (hb : Binds X.K fd ps ds) (hd : Vals dvs ds) (hx : PassesAt cx X σ (E σ))
    (I : Inv X pins σ H s) (r : Vals vs us) (h : sp (vs ++ dvs) H Q (E σ)) : wpAny (model X.prog X.w) X.A (call (.ref f) us) (EP X pins σ Q) X.xe s := by
  have rr := r.append hd
  have n : (us ++ ds).length = ps.length := rr.length.symm.trans (F.len _ _ _ _ h)
  refine wpAny_call (codeAny_mono (F.go X.A X.stack s H ⟨us, []⟩ _ _ Q (E σ) hr hq I.env0 (hb s us I.kIn n) rr h) fun z s' hz => ?_)
  match z, hz with
  | .error er, hz => exact hx pins H s er s' I hz
  | .ok (.ret u), hz => exact I.after hz
  | .ok .next, hz => exact hz.elim
  | .ok .brk, hz => exact hz.elim
  | .ok .cont, hz => exact hz.elim
def tCallD (sp : Sp) (dvs : List V) (E : L2.St → XK) (t : TA) : TE := fun σ H Q => t σ H fun vs H1 => sp (vs ++ dvs) H1 Q (E σ)
/-- f(e, ..), defaults behind -/
theorem pe_g (F : FnG X.prog X.w X.K X.mg X.base cx k f fd ps sp) (hr : Room k X.A) (hq : Quiet X.A) (hg : Gl X x) (hm : X.mg x = some (.ref f)) (hk : PySem.W.keepIn X.K (.ref f) = true) (hb : Binds X.K fd ps ds) (hd : Vals dvs ds) (hx : ∀ σ, PassesAt cx X σ (E σ))
    (ha : PA X (e :: es) t) (hdb : (x == ("__debug__" : Str)) = false := by decide) (he : starEach (e :: es) X.env = (false, eval e X.env) :: starEach es X.env := by rfl) (hpl : (backTo pos (starEach es X.env)).any (·.1) = false := by rfl) :
    PE X (.Call (.Name x p) (e :: es) [] pos) (tCallD sp dvs E t) := ⟨fun pins s σ H Q I h =>
  wpAny_Call_Name_kw (ld_glob I hg hm (PySem.W.callWith_K (h₀ := X.base) I.ok.mod.kin hk (thn (ha.run pos pins s σ H _ I h) fun us s1 ⟨vs, H1, I1, r, q⟩ => ⟨I1.kIn, go_fn F hr hq hb hd (hx σ) I1 r q⟩) he hpl) hdb)⟩
theorem pe_g0 (F : FnG X.prog X.w X.K X.mg X.base cx k f fd ps sp) (hr : Room k X.A) (hq : Quiet X.A) (hg : Gl X x) (hm : X.mg x = some (.ref f)) (hk : PySem.W.keepIn X.K (.ref f) = true) (hb : Binds X.K fd ps ds) (hd : Vals dvs ds) (hx : ∀ σ, PassesAt cx X σ (E σ))
    (hdb : (x == ("__debug__" : Str)) = false := by decide) : PE X (.Call (.Name x p) [] [] pos) (tCallD sp dvs E tNil) := ⟨fun pins s σ H Q I h =>
  wpAny_Call_Name_kw (ld_glob I hg hm (PySem.W.callWith_K0 I.kIn hk (go_fn (us := []) F hr hq hb hd (hx σ) I .nil h)) hdb)⟩
/-- .. within an except suite -/
theorem go_fnH {pins : List (Addr × Obj)} {σ : L2.St} {H : Hp} {s : Shared} {Q : VK} {us : List Value} {vs : List V} (F : FnGH X.prog X.w X.K X.mg X.base cx k f fd ps sp) (hr : L2H.RoomH k X.A) (hq : Quiet X.A) (hc : L2H.HotC X) (hb : Binds X.K fd ps ds) (hd : Vals dvs ds) (hx : PassesAt cx X σ (E σ))
    (I : Inv X pins σ H s) (r : Vals vs us) (h : sp (vs ++ dvs) H Q (E σ)) : wpAny (model X.prog X.w) X.A (call (.ref f) us) (EP X pins σ Q) X.xe s := by
  have rr := r.append hd
  have n : (us ++ ds).length = ps.length := rr.length.symm.trans (F.len _ _ _ _ h)
  obtain ⟨p, hot, hp⟩ := hc
  obtain ⟨p1, p2, p3, p4, p5⟩ := I.pin p (List.mem_append.mpr (.inl hp))
  have hpin : L2H.PinOk X.stack H s p := ⟨p1, p2, fun z => by
    rcases List.mem_cons.mp (I.stkSub p.1 z) with z | z
    · exact p3 z
    · exact p4 z, p5⟩
  refine wpAny_call (codeAny_mono (F.go X.A X.stack s H ⟨us, []⟩ _ _ Q (E σ) p hr hq hot hpin I.env0 (hb s us I.kIn n) rr h) fun z s' hz => ?_)
  match z, hz with
  | .error er, hz => exact hx pins H s er s' I hz
  | .ok (.ret u), hz => exact I.after hz
  | .ok .next, hz => exact hz.elim
  | .ok .brk, hz => exact hz.elim
  | .ok .cont, hz => exact hz.elim
theorem pe_gH (F : FnGH X.prog X.w X.K X.mg X.base cx k f fd ps sp) (hr : L2H.RoomH k X.A) (hq : Quiet X.A) (hc : L2H.HotC X) (hg : Gl X x) (hm : X.mg x = some (.ref f)) (hk : PySem.W.keepIn X.K (.ref f) = true) (hb : Binds X.K fd ps ds) (hd : Vals dvs ds) (hx : ∀ σ, PassesAt cx X σ (E σ))
    (ha : PA X (e :: es) t) (hdb : (x == ("__debug__" : Str)) = false := by decide) (he : starEach (e :: es) X.env = (false, eval e X.env) :: starEach es X.env := by rfl) (hpl : (backTo pos (starEach es X.env)).any (·.1) = false := by rfl) :
    PE X (.Call (.Name x p) (e :: es) [] pos) (tCallD sp dvs E t) := ⟨fun pins s σ H Q I h =>
  wpAny_Call_Name_kw (ld_glob I hg hm (PySem.W.callWith_K (h₀ := X.base) I.ok.mod.kin hk (thn (ha.run pos pins s σ H _ I h) fun us s1 ⟨vs, H1, I1, r, q⟩ => ⟨I1.kIn, go_fnH F hr hq hc hb hd (hx σ) I1 r q⟩) he hpl) hdb)⟩
theorem passN {X : Cx} (σ : L2.St) : PassesAt (L2N.CX X.prog X.w) X σ E0 := fun _ _ _ _ _ _ h => by
  obtain ⟨_, _, _, _, _, _, _, _, _, _, _, _, z⟩ := h
  exact z.elim
end
section
variable {K : PySem.W.Frag} {R : WX} {e : Ev} {ms : Ms} {tA : TA} {P : Dat → Ms → Prop} {X : XP} {A : Pm} {dvs : List V} {dds : List Dat}
/-- f(..) over data; dds: the defaults -/
theorem de_g (hd : ∀ W : Wd, RepL K W dvs dds) (h : DA K R tA e ms (fun ds m => A (ds ++ dds) m P X) X) : DE K R (tCallD (spD K A) dvs (WE R) tA) e ms P X := fun W G σ H Q g s k x =>
  h W G σ H _ g s (fun W1 vs ds H1 m1 l1 g1 r1 a => ⟨W1, G, m1, ds ++ dds, P, X, g1, repL_append r1 (hd W1), a, k.le l1, x.le l1⟩) x
where
  repL_append {W : Wd} : ∀ {vs ws : List V} {ds es : List Dat}, RepL K W vs ds → RepL K W ws es → RepL K W (vs ++ ws) (ds ++ es)
    | _, _, [], _, h, r => by cases h; exact r
    | _, _, d :: ds, _, h, r => by cases h with | cons a b => exact .cons a (repL_append b r)
/-- .. nothing is let out -/
theorem de_g0 (hd : ∀ W : Wd, RepL K W dvs dds) (h : DA K R tA e ms (fun ds m => A (ds ++ dds) m P (fun _ _ _ => False)) X) : DE K R (tCallD (spD K A) dvs (fun _ => E0) tA) e ms P X := fun W G σ H Q g s k x =>
  h W G σ H _ g s (fun W1 vs ds H1 m1 l1 g1 r1 a => ⟨W1, G, m1, ds ++ dds, P, fun _ _ _ => False, g1, de_g.repL_append r1 (hd W1), a, k.le l1, fun _ _ _ _ _ _ _ _ _ _ _ z => z.elim⟩) x
end
end DL
namespace DL
open PySem PySem.Spec PyProof.Rows L2
/-! ### one rule of several -/
section
variable {Xc : Cx}
theorem orR {f : Value → Value → Sem Value} {r r' : R2} (h : OpR Xc f r) (h' : OpR Xc f r') : OpR Xc f (fun x y H Q => r x y H Q ∨ r' x y H Q) := by
  intro pins s σ H x y v u Q I rx ry q
  rcases q with q | q
  · exact h pins s σ H x y v u Q I rx ry q
  · exact h' pins s σ H x y v u Q I rx ry q
theorem orC {f : Value} {r r' : List V → Hp → VK → Prop} (h : CallR Xc f r) (h' : CallR Xc f r') : CallR Xc f (fun xs H Q => r xs H Q ∨ r' xs H Q) := by
  intro pins s σ H xs us Q I r q
  rcases q with q | q
  · exact h pins s σ H xs us Q I r q
  · exact h' pins s σ H xs us Q I r q
def rStrAdd : R2 := fun x y H Q => ∃ i j, x = .str i ∧ y = .str j ∧ i.length + j.length ≤ sizeLine ∧ Q (.str (i ++ j)) H
def rAddA : R2 := fun x y H Q => rI0 (fun i j => .int (i + j)) x y H Q ∨ (rStrAdd x y H Q ∨ rCat x y H Q)
theorem op_addA : OpR Xc (binaryOp .Add) rAddA := orR op_add (orR op_add_str op_cat)
def rCmpS (p : Str → Str → Bool) : R2 := fun x y H Q => ∃ i j, x = .str i ∧ y = .str j ∧ Q (.bl (p i j)) H
def rLeA : R2 := fun x y H Q => rI0 (fun i j => .bl (decide (i ≤ j))) x y H Q ∨ rCmpS (fun i j => !decide (j.cps.toList < i.cps.toList)) x y H Q
theorem op_leA : OpR Xc (compareOp .LtE) rLeA := orR op_le op_le_str
def rLtA : R2 := fun x y H Q => rI0 (fun i j => .bl (decide (i < j))) x y H Q ∨ rCmpS (fun i j => decide (i.cps.toList < j.cps.toList)) x y H Q
theorem op_ltA : OpR Xc (compareOp .Lt) rLtA := orR op_lt op_lt_str
def rGeI : R2 := rI0 fun i j => .bl (decide (j ≤ i))
def rGtI : R2 := rI0 fun i j => .bl (decide (j < i))
theorem op_geA : OpR Xc (compareOp .GtE) rGeI := op_ge
theorem op_gtA : OpR Xc (compareOp .Gt) rGtI := op_gt
def rEqA (K : PySem.W.Frag) : R2 := fun x y H Q => rEq x y H Q ∨ rEqD K x y H Q
def rNeA (K : PySem.W.Frag) : R2 := fun x y H Q => rNe x y H Q ∨ rNeD K x y H Q
theorem op_eqA (hu : Xc.A.units + 64 < cLine) : OpR Xc (compareOp .Eq) (rEqA Xc.K) := orR op_eq (op_eqD hu)
theorem op_neA (hu : Xc.A.units + 64 < cLine) : OpR Xc (compareOp .NotEq) (rNeA Xc.K) := orR op_ne (op_neD hu)
def rInStr (neg : Bool) : R2 := fun x y H Q => ∃ i j, x = .str i ∧ y = .str j ∧ Q (.bl (if neg then !(!(Builtin.Str.occurrences j i 0 j.length 1).isEmpty) else !(Builtin.Str.occurrences j i 0 j.length 1).isEmpty)) H
def rInA (K : PySem.W.Frag) : R2 := fun x y H Q => rInS x y H Q ∨ rIn K false x y H Q
def rNotInA (K : PySem.W.Frag) : R2 := fun x y H Q => rNotInS x y H Q ∨ rIn K true x y H Q
theorem op_inA : OpR Xc (compareOp .In) (rInA Xc.K) := orR op_inS op_in_seq
theorem op_notInA : OpR Xc (compareOp .NotIn) (rNotInA Xc.K) := orR op_notInS op_notIn_seq
def rIsA : R2 := fun x y H Q => rIsN x y H Q ∨ rIsB x y H Q
def rNotA : R2 := fun x y H Q => rNotN x y H Q ∨ rNotB x y H Q
theorem op_isA : OpR Xc (compareOp .Is) rIsA := orR op_isN1 op_isBl
theorem op_notA : OpR Xc (compareOp .IsNot) rNotA := orR op_notN1 op_notBl
def rSubI : R2 := rI0 fun i j => .int (i - j)
theorem op_subA : OpR Xc (binaryOp .Sub) rSubI := op_sub
def rMulI : R2 := rI CMulW fun i j => .int (i * j)
theorem op_mulA : OpR Xc (binaryOp .Mult) rMulI := op_mulW
def rModI : R2 := rI (fun _ j => 0 < j) fun i j => .int (i % j)
theorem op_modA : OpR Xc (binaryOp .Mod) rModI := op_mod
def rDivI : R2 := rI CDivW fun i j => .int (i / j)
theorem op_divA : OpR Xc (binaryOp .FloorDiv) rDivI := op_fdivW
def rPowI : R2 := rI CPow fun i j => .int (i ^ j.toNat)
theorem op_powA : OpR Xc (binaryOp .Pow) rPowI := op_pow
end
section
variable {K : PySem.W.Frag} {ms : Ms} {P : Dat → Ms → Prop}
/-! ### operators by data -/
theorem d2_intI0 {g : Int → Int → V} {h : Int → Int → Dat} (hg : ∀ (W : Wd) i j, Rep K W (g i j) (h i j)) {i j : Int} (q : P (h i j) ms) : D2 K (rI0 g) (.int i) (.int j) ms P := fun W G H v w Q gd rx ry k => by
  cases rx; cases ry
  exact ⟨i, j, rfl, rfl, k W _ _ H ms (Le.refl W) gd (hg W i j) q⟩
theorem d2_intI {C : Int → Int → Prop} {g : Int → Int → V} {h : Int → Int → Dat} (hg : ∀ (W : Wd) i j, Rep K W (g i j) (h i j)) {i j : Int} (hc : C i j) (q : P (h i j) ms) : D2 K (rI C g) (.int i) (.int j) ms P := fun W G H v w Q gd rx ry k => by
  cases rx; cases ry
  exact ⟨i, j, rfl, rfl, hc, k W _ _ H ms (Le.refl W) gd (hg W i j) q⟩
theorem D2.inl {r r' : R2} {x y : Dat} (h : D2 K r x y ms P) : D2 K (fun x y H Q => r x y H Q ∨ r' x y H Q) x y ms P := fun W G H v w Q gd rx ry k => .inl (h W G H v w Q gd rx ry k)
theorem D2.inr {r r' : R2} {x y : Dat} (h : D2 K r' x y ms P) : D2 K (fun x y H Q => r x y H Q ∨ r' x y H Q) x y ms P := fun W G H v w Q gd rx ry k => .inr (h W G H v w Q gd rx ry k)
theorem d2_addI {i j : Int} (q : P (.int (i + j)) ms) : D2 K rAddA (.int i) (.int j) ms P := D2.inl (d2_intI0 (h := fun i j => .int (i + j)) (fun _ _ _ => .int _) q)
theorem d2_addS {i j : Str} (hl : i.length + j.length ≤ 1000000) (q : P (.str (i ++ j)) ms) : D2 K rAddA (.str i) (.str j) ms P := D2.inr (D2.inl fun W G H v w Q gd rx ry k => by
  cases rx; cases ry
  exact ⟨i, j, rfl, rfl, size_of hl, k W _ _ H ms (Le.refl W) gd (.str _) q⟩)
theorem repL_app {W : Wd} {vs ws : List V} {ds es : List Dat} (a : RepL K W vs ds) (b : RepL K W ws es) : RepL K W (vs ++ ws) (ds ++ es) := de_g.repL_append a b
theorem d2_addL {xs ys : List Dat} (hl : xs.length + ys.length ≤ 1000000) (q : P (.lst (xs ++ ys)) ms) : D2 K rAddA (.lst xs) (.lst ys) ms P := D2.inr (D2.inr fun W G H v w Q gd rx ry k => by
  cases rx with
  | lst e1 r1 => cases ry with
    | lst e2 r2 =>
      refine ⟨_, _, _, _, rfl, rfl, gd.fz _ _ e1, gd.fz _ _ e2, by rw [r1.length, r2.length]; exact size_of hl, fun p hp => ?_⟩
      obtain ⟨g2, l2⟩ := gd.laid (o := .lst _) hp
      exact k _ _ _ _ _ l2 g2 (.lst upd_same (RepL.mono l2 _ _ (repL_app r1 r2))) q)
theorem d2_leI {i j : Int} (q : P (.bl (decide (i ≤ j))) ms) : D2 K rLeA (.int i) (.int j) ms P := D2.inl (d2_intI0 (h := fun i j => .bl (decide (i ≤ j))) (fun _ _ _ => .bl _) q)
theorem d2_ltI {i j : Int} (q : P (.bl (decide (i < j))) ms) : D2 K rLtA (.int i) (.int j) ms P := D2.inl (d2_intI0 (h := fun i j => .bl (decide (i < j))) (fun _ _ _ => .bl _) q)
theorem d2_geI {i j : Int} (q : P (.bl (decide (j ≤ i))) ms) : D2 K rGeI (.int i) (.int j) ms P := d2_intI0 (h := fun i j => .bl (decide (j ≤ i))) (fun _ _ _ => .bl _) q
theorem d2_gtI {i j : Int} (q : P (.bl (decide (j < i))) ms) : D2 K rGtI (.int i) (.int j) ms P := d2_intI0 (h := fun i j => .bl (decide (j < i))) (fun _ _ _ => .bl _) q
theorem d2_cmpS {p : Str → Str → Bool} {i j : Str} (q : P (.bl (p i j)) ms) : D2 K (rCmpS p) (.str i) (.str j) ms P := fun W G H v w Q gd rx ry k => by
  cases rx; cases ry
  exact ⟨i, j, rfl, rfl, k W _ _ H ms (Le.refl W) gd (.bl _) q⟩
theorem d2_leS {i j : Str} (q : P (.bl (!decide (j.cps.toList < i.cps.toList))) ms) : D2 K rLeA (.str i) (.str j) ms P := D2.inr (d2_cmpS q)
theorem d2_ltS {i j : Str} (q : P (.bl (decide (i.cps.toList < j.cps.toList))) ms) : D2 K rLtA (.str i) (.str j) ms P := D2.inr (d2_cmpS q)
theorem d2_sub {i j : Int} (q : P (.int (i - j)) ms) : D2 K rSubI (.int i) (.int j) ms P := d2_intI0 (h := fun i j => .int (i - j)) (fun _ _ _ => .int _) q
theorem d2_mul {i j : Int} (hc : i.natAbs.log2 + j.natAbs.log2 < 1000000) (q : P (.int (i * j)) ms) : D2 K rMulI (.int i) (.int j) ms P := d2_intI (h := fun i j => .int (i * j)) (fun _ _ _ => .int _) hc q
theorem d2_mod {i j : Int} (hc : 0 < j) (q : P (.int (i % j)) ms) : D2 K rModI (.int i) (.int j) ms P := d2_intI (h := fun i j => .int (i % j)) (fun _ _ _ => .int _) hc q
theorem d2_div {i j : Int} (hc : 0 < j ∧ j.natAbs.log2 < 9000) (q : P (.int (i / j)) ms) : D2 K rDivI (.int i) (.int j) ms P := d2_intI (h := fun i j => .int (i / j)) (fun _ _ _ => .int _) hc q
theorem d2_pow {i j : Int} (hc : 0 ≤ j ∧ j ≤ 1000000 ∧ i.natAbs < 2 ^ 64) (q : P (.int (i ^ j.toNat)) ms) : D2 K rPowI (.int i) (.int j) ms P := d2_intI (h := fun i j => .int (i ^ j.toNat)) (fun _ _ _ => .int _) hc q
/-- is None | is True | is False -/
def isNon : Dat → Bool
  | .non => true
  | _ => false
theorem rep_non {W : Wd} {v : V} {d : Dat} (r : Rep K W v d) : decide (v = V.non) = isNon d := by cases r <;> first | rfl | exact decide_eq_false (fun z => nomatch z)
theorem d2_isN {x : Dat} (q : P (.bl (isNon x)) ms) : D2 K rIsA x .non ms P := fun W G H v w Q gd rx ry k => by
  cases ry
  exact .inl ⟨rfl, by rw [rep_non rx]; exact k W _ _ H ms (Le.refl W) gd (.bl _) q⟩
theorem d2_notN {x : Dat} (q : P (.bl (!isNon x)) ms) : D2 K rNotA x .non ms P := fun W G H v w Q gd rx ry k => by
  cases ry
  exact .inl ⟨rfl, by rw [rep_non rx]; exact k W _ _ H ms (Le.refl W) gd (.bl _) q⟩
theorem d2_isB {a b : Bool} (q : P (.bl (decide (a = b))) ms) : D2 K rIsA (.bl a) (.bl b) ms P := fun W G H v w Q gd rx ry k => by
  cases rx; cases ry
  exact .inr ⟨a, b, rfl, rfl, k W _ _ H ms (Le.refl W) gd (.bl _) q⟩
/-! ### == over data -/
mutual
inductive PyD : Dat → PyData → Prop
  | non : PyD .non .none
  | bl (b : Bool) : PyD (.bl b) (.bool b)
  | int (i : Int) : PyD (.int i) (.int i)
  | str (x : Str) : PyD (.str x) (.str x)
  | lst {xs : List Dat} {ys : List PyData} : PyDL xs ys → PyD (.lst xs) (.list ys)
  | rol {xs : List Dat} {ys : List PyData} : PyDL xs ys → PyD (.rol xs) (.list ys)
  | tup {xs : List Dat} {ys : List PyData} : PyDL xs ys → PyD (.tup xs) (.tuple ys)
inductive PyDL : List Dat → List PyData → Prop
  | nil : PyDL [] []
  | cons {x : Dat} {y : PyData} {xs : List Dat} {ys : List PyData} : PyD x y → PyDL xs ys → PyDL (x :: xs) (y :: ys)
end
mutual
theorem dp_of {W : Wd} {H : Hp} (s : Same W.F H) {d : Dat} {p : PyData} : ∀ (h : PyD d p) (v : V), Rep K W v d → Dp K H v p
  | .non, _, r => by cases r; exact .non
  | .bl b, _, r => by cases r; exact .bl b
  | .int b, _, r => by cases r; exact .int b
  | .str b, _, r => by cases r; exact .str b
  | .lst h, _, r => by cases r with | lst e r => exact .lst (.inl (.inl (s _ _ e))) (dpl_of s h _ r)
  | .rol h, _, r => by cases r with | rol e r => exact .lst (s.seq e) (dpl_of s h _ r)
  | .tup h, _, r => by cases r with | tup e r => exact .tup (Same.tup s e) (dpl_of s h _ r)
theorem dpl_of {W : Wd} {H : Hp} (s : Same W.F H) {ds : List Dat} {ps : List PyData} : ∀ (h : PyDL ds ps) (vs : List V), RepL K W vs ds → DpAll K H vs ps
  | .nil, _, r => by cases r; exact .nil
  | .cons a b, _, r => by cases r with | cons x y => exact .cons (dp_of s a _ x) (dpl_of s b _ y)
end
theorem d2_eqD {x y : Dat} {p p' : PyData} (hx : PyD x p) (hy : PyD y p') (s : SeqAt.shaped p = true) (s' : SeqAt.shaped p' = true) (q : P (.bl (PyData.eqv p p')) ms) : D2 K (rEqA K) x y ms P := fun W G H v w Q gd rx ry k =>
  .inr ⟨p, p', dp_of gd.fz hx v rx, dp_of gd.fz hy w ry, s, s', k W _ _ H ms (Le.refl W) gd (.bl _) q⟩
theorem d2_neD {x y : Dat} {p p' : PyData} (hx : PyD x p) (hy : PyD y p') (s : SeqAt.shaped p = true) (s' : SeqAt.shaped p' = true) (q : P (.bl (!PyData.eqv p p')) ms) : D2 K (rNeA K) x y ms P := fun W G H v w Q gd rx ry k =>
  .inr ⟨p, p', dp_of gd.fz hx v rx, dp_of gd.fz hy w ry, s, s', k W _ _ H ms (Le.refl W) gd (.bl _) q⟩
theorem d2_eqI {i j : Int} (q : P (.bl (decide (i = j))) ms) : D2 K (rEqA K) (.int i) (.int j) ms P := fun W G H v w Q gd rx ry k => by
  cases rx; cases ry
  refine .inl ⟨rfl, k W _ _ H ms (Le.refl W) gd (.bl _) ?_⟩
  rw [show decide (V.int i = V.int j) = decide (i = j) from decide_eq_decide.mpr ⟨V.int.inj, fun z => by rw [z]⟩]
  exact q
theorem d2_eqS {i j : Str} (q : P (.bl (decide (i = j))) ms) : D2 K (rEqA K) (.str i) (.str j) ms P := fun W G H v w Q gd rx ry k => by
  cases rx; cases ry
  refine .inl ⟨rfl, k W _ _ H ms (Le.refl W) gd (.bl _) ?_⟩
  rw [show decide (V.str i = V.str j) = decide (i = j) from decide_eq_decide.mpr ⟨V.str.inj, fun z => by rw [z]⟩]
  exact q
theorem d2_neS {i j : Str} (q : P (.bl (!decide (i = j))) ms) : D2 K (rNeA K) (.str i) (.str j) ms P := fun W G H v w Q gd rx ry k => by
  cases rx; cases ry
  refine .inl ⟨rfl, k W _ _ H ms (Le.refl W) gd (.bl _) ?_⟩
  rw [show decide (V.str i = V.str j) = decide (i = j) from decide_eq_decide.mpr ⟨V.str.inj, fun z => by rw [z]⟩]
  exact q
theorem d2_neI {i j : Int} (q : P (.bl (!decide (i = j))) ms) : D2 K (rNeA K) (.int i) (.int j) ms P := fun W G H v w Q gd rx ry k => by
  cases rx; cases ry
  refine .inl ⟨rfl, k W _ _ H ms (Le.refl W) gd (.bl _) ?_⟩
  rw [show decide (V.int i = V.int j) = decide (i = j) from decide_eq_decide.mpr ⟨V.int.inj, fun z => by rw [z]⟩]
  exact q
/-- one sign in a text -/
theorem d2_inS {c : Nat} {z : Str} (q : P (.bl (decide (c ∈ z.cps.toList))) ms) : D2 K (rInA K) (.str (sign1 c)) (.str z) ms P := fun W G H v w Q gd rx ry k => by
  cases rx; cases ry
  exact .inl ⟨c, z, rfl, rfl, k W _ _ H ms (Le.refl W) gd (.bl _) q⟩
theorem d2_notInS {c : Nat} {z : Str} (q : P (.bl (!decide (c ∈ z.cps.toList))) ms) : D2 K (rNotInA K) (.str (sign1 c)) (.str z) ms P := fun W G H v w Q gd rx ry k => by
  cases rx; cases ry
  exact .inl ⟨c, z, rfl, rfl, k W _ _ H ms (Le.refl W) gd (.bl _) q⟩
/-! ### places -/
theorem atI_rep {W : Wd} {vs : List V} {ds : List Dat} (r : RepL K W vs ds) {i : Int} {d : Dat} (h : atI ds i = some d) : ∃ v, atI vs i = some v ∧ Rep K W v d := by
  unfold atI at h ⊢
  rw [r.length]
  cases e : ixN ds.length i with
  | none => rw [e] at h; cases h
  | some j =>
    rw [e] at h
    exact RepL.getD r j (by simpa using h)
/-- what is read as a list or tuple -/
def SeqV (ms : Ms) (x : Dat) (xs : List Dat) : Prop := x = .lst xs ∨ x = .tup xs ∨ x = .rol xs ∨ ∃ k, x = .cell k ∧ ms[k]? = some (.lst xs)
theorem seq_rep {W : Wd} {G H : Hp} {v : V} {x : Dat} {xs : List Dat} (g : Good K W G H ms) (r : Rep K W v x) (s : SeqV ms x xs) : ∃ a vs, v = .ref a ∧ (SqL K H a vs ∨ SqT K H a vs) ∧ RepL K W vs xs := by
  rcases s with s | s | s | ⟨k, s, e⟩ <;> subst s
  · cases r with | lst e r => exact ⟨_, _, rfl, .inl (.inl (.inl (g.fz _ _ e))), r⟩
  · cases r with | tup e r => exact ⟨_, _, rfl, .inr (Same.tup g.fz e), r⟩
  · cases r with | rol e r => exact ⟨_, _, rfl, .inl (g.fz.seq e), r⟩
  · cases r with
    | cell e2 =>
      obtain ⟨vs, h1, h2⟩ := (show MoOk K W H _ (.lst xs) from g.cl _ _ _ e2 e)
      exact ⟨_, vs, rfl, .inl (SqL.of h1), h2⟩
theorem d2_ix {x d : Dat} {xs : List Dat} {i : Int} (s : SeqV ms x xs) (h : atI xs i = some d) (q : P d ms) : D2 K (rIx K) x (.int i) ms P := fun W G H v w Q gd rx ry k => by
  cases ry
  obtain ⟨a, vs, rfl, hq, rl⟩ := seq_rep gd rx s
  obtain ⟨u, hu, ru⟩ := atI_rep rl h
  rcases hq with hq | hq
  · exact .inl ⟨a, vs, i, u, rfl, rfl, hq, hu, k W _ _ H ms (Le.refl W) gd ru q⟩
  · exact .inr (.inl ⟨a, vs, i, u, rfl, rfl, hq, hu, k W _ _ H ms (Le.refl W) gd ru q⟩)
theorem d2_ixS {z : Str} {i : Int} {c : Nat} (hl : z.length ≤ 1000000) (h : atI z.cps.toList i = some c) (q : P (.str (sign1 c)) ms) : D2 K (rIx K) (.str z) (.int i) ms P := fun W G H v w Q gd rx ry k => by
  cases rx; cases ry
  exact .inr (.inr ⟨z, i, c, rfl, rfl, size_of hl, h, k W _ _ H ms (Le.refl W) gd (.str _) q⟩)
/-! ### calls -/
def rLenK (K : PySem.W.Frag) : List V → Hp → VK → Prop := fun ws H Q => ∃ x n, ws = [x] ∧ LenV K x H n ∧ Q (.int n) H
theorem dr_len {x : Dat} {xs : List Dat} (s : SeqV ms x xs) (q : P (.int xs.length) ms) : DR K (rLenK K) [x] ms P := fun W G H vs Q gd r k => by
  cases r with
  | cons r1 r2 =>
    cases r2
    obtain ⟨a, vs, rfl, hq, rl⟩ := seq_rep gd r1 s
    refine ⟨.ref a, xs.length, rfl, ?_, k W _ _ H ms (Le.refl W) gd (.int _) q⟩
    rcases hq with hq | hq
    · exact .inl ⟨vs, hq, rl.length.symm⟩
    · exact .inr ⟨vs, hq, rl.length.symm⟩
theorem dr_lenS {z : Str} (hl : z.length ≤ 1000000) (q : P (.int z.length) ms) : DR K (rLenK K) [.str z] ms P := fun W G H vs Q gd r k => by
  cases r with
  | cons r1 r2 =>
    cases r2; cases r1
    exact ⟨.str z, z.length, rfl, ⟨size_of hl, rfl⟩, k W _ _ H ms (Le.refl W) gd (.int _) q⟩
theorem blsRep {W : Wd} : ∀ {vs : List V} {bs : List Bool}, RepL K W vs (bs.map Dat.bl) → vs = bs.map V.bl
  | _, [], h => by cases h; rfl
  | _, b :: bs, h => by cases h with | cons x y => cases x; rw [blsRep y]; rfl
theorem intsRep {W : Wd} : ∀ {vs : List V} {bs : List Int}, RepL K W vs (bs.map Dat.int) → vs = bs.map V.int
  | _, [], h => by cases h; rfl
  | _, b :: bs, h => by cases h with | cons x y => cases x; rw [intsRep y]; rfl
theorem strsRep {W : Wd} : ∀ {vs : List V} {bs : List Str}, RepL K W vs (bs.map Dat.str) → vs = bs.map V.str
  | _, [], h => by cases h; rfl
  | _, b :: bs, h => by cases h with | cons x y => cases x; rw [strsRep y]; rfl
theorem lstSq {W : Wd} {G H : Hp} {v : V} {x : Dat} {xs : List Dat} (g : Good K W G H ms) (r : Rep K W v x) (s : x = .lst xs ∨ x = .rol xs ∨ ∃ k, x = .cell k ∧ ms[k]? = some (.lst xs)) : ∃ a vs, v = .ref a ∧ SqL K H a vs ∧ RepL K W vs xs := by
  rcases s with s | s | ⟨k, s, e⟩ <;> subst s
  · cases r with | lst e r => exact ⟨_, _, rfl, .inl (.inl (g.fz _ _ e)), r⟩
  · cases r with | rol e r => exact ⟨_, _, rfl, g.fz.seq e, r⟩
  · cases r with
    | cell e2 =>
      obtain ⟨vs, h1, h2⟩ := (show MoOk K W H _ (.lst xs) from g.cl _ _ _ e2 e)
      exact ⟨_, vs, rfl, SqL.of h1, h2⟩
theorem dr_all {bs : List Bool} (q : P (.bl (bs.all id)) ms) : DR K (rAll K) [.lst (bs.map Dat.bl)] ms P := fun W G H vs Q gd r k => by
  cases r with
  | cons r1 r2 =>
    cases r2
    obtain ⟨a, vs, rfl, hq, rl⟩ := lstSq gd r1 (.inl rfl)
    rw [blsRep rl] at hq
    exact ⟨a, bs, rfl, hq, k W _ _ H ms (Le.refl W) gd (.bl _) q⟩
theorem dr_any {bs : List Bool} (q : P (.bl (bs.any id)) ms) : DR K (rAny K) [.lst (bs.map Dat.bl)] ms P := fun W G H vs Q gd r k => by
  cases r with
  | cons r1 r2 =>
    cases r2
    obtain ⟨a, vs, rfl, hq, rl⟩ := lstSq gd r1 (.inl rfl)
    rw [blsRep rl] at hq
    exact ⟨a, bs, rfl, hq, k W _ _ H ms (Le.refl W) gd (.bl _) q⟩
theorem dr_sum {ns : List Int} (q : P (.int ns.sum) ms) : DR K (rSum K) [.lst (ns.map Dat.int)] ms P := fun W G H vs Q gd r k => by
  cases r with
  | cons r1 r2 =>
    cases r2
    obtain ⟨a, vs, rfl, hq, rl⟩ := lstSq gd r1 (.inl rfl)
    rw [intsRep rl] at hq
    exact ⟨a, ns, rfl, hq, k W _ _ H ms (Le.refl W) gd (.int _) q⟩
/-- a datum's built-in type -/
def tyName : Dat → Option String
  | .non => some "NoneType"
  | .bl _ => some "bool"
  | .int _ => some "int"
  | .str _ => some "str"
  | .lst _ => some "list"
  | .rol _ => none
  | .tup _ => none
  | .dct _ => some "dict"
  | _ => none
end
end DL
namespace DL
open PySem PySem.Spec PyProof.Rows L2
theorem bt_len : bootBuiltins "len" = some (.builtin "len") := by decide +kernel
theorem bt_all : bootBuiltins "all" = some (.builtin "all") := by decide +kernel
theorem bt_any : bootBuiltins "any" = some (.builtin "any") := by decide +kernel
theorem bt_sum : bootBuiltins "sum" = some (.builtin "sum") := by decide +kernel
theorem bt_abs : bootBuiltins "abs" = some (.builtin "abs") := by decide +kernel
theorem bt_ord : bootBuiltins "ord" = some (.builtin "ord") := by decide +kernel
theorem bt_isinstance : bootBuiltins "isinstance" = some (.builtin "isinstance") := by decide +kernel
theorem bt_repr : bootBuiltins "repr" = some (.builtin "repr") := by decide +kernel
theorem bt_max : bootBuiltins "max" = some (.builtin "max") := by decide +kernel
theorem bt_min : bootBuiltins "min" = some (.builtin "min") := by decide +kernel
theorem bt_int : bootBuiltins "int" = some (.type "int") := by decide +kernel
theorem bt_str : bootBuiltins "str" = some (.type "str") := by decide +kernel
theorem bt_list : bootBuiltins "list" = some (.type "list") := by decide +kernel
theorem bt_tuple : bootBuiltins "tuple" = some (.type "tuple") := by decide +kernel
theorem bt_bool : bootBuiltins "bool" = some (.type "bool") := by decide +kernel
theorem bt_dict : bootBuiltins "dict" = some (.type "dict") := by decide +kernel
section
variable {X : Cx}
/-- a module's constant -/
theorem pe_gl {x : Str} {v : V} {pos : Pos} (hg : Gl X x) (h : ∃ u, X.mg x = some u ∧ RelV v u) (hd : (x == ("__debug__" : Str)) = false := by decide) : PE X (.Name x pos) (tC v) := by
  obtain ⟨u, hm, r⟩ := h
  exact pe_glob hg hm r hd
/-- slices of any kind -/
def rSlA (K : PySem.W.Frag) : V → Option Int → Option Int → Hp → VK → Prop := fun x lo hi H Q => rSlL K x lo hi H Q ∨ (rSlS x lo hi H Q ∨ rSlT K x lo hi H Q)
theorem sl_A : SlR X (rSlA X.K) := sl_list.or (sl_str.or sl_tup)
/-- int(..) of an int, a bool, a text -/
def rIntA : List V → Hp → VK → Prop := fun xs H Q => ((∃ i, xs = [.int i] ∧ Q (.int i) H) ∨ ∃ k, xs = [.bl k] ∧ Q (.int (if k then 1 else 0)) H) ∨ ∃ a n, xs = [.str a] ∧ PySem.intText? a = some n ∧ a.length ≤ 640 ∧ Q (.int n) H
theorem call_intA : CallR X (.type "int") rIntA := orC call_int1 call_int_str
end
section
variable {K : PySem.W.Frag} {ms : Ms} {P : Dat → Ms → Prop} {R : WX} {e : Ev} {X : XP} {ta : TE} {tl th : TO}
theorem dr_int {i : Int} (q : P (.int i) ms) : DR K rIntA [.int i] ms P := fun W G H vs Q gd r k => by
  cases r with
  | cons r1 r2 =>
    cases r2; cases r1
    exact .inl (.inl ⟨i, rfl, k W _ _ H ms (Le.refl W) gd (.int _) q⟩)
theorem dr_intS {z : Str} {n : Int} (h : PySem.intText? z = some n) (hl : z.length ≤ 640) (q : P (.int n) ms) : DR K rIntA [.str z] ms P := fun W G H vs Q gd r k => by
  cases r with
  | cons r1 r2 =>
    cases r2; cases r1
    exact .inr ⟨z, n, rfl, h, hl, k W _ _ H ms (Le.refl W) gd (.int _) q⟩
theorem dr_abs {i : Int} (q : P (.int (if i < 0 then -i else i)) ms) : DR K (fun xs H Q => ∃ i, xs = [.int i] ∧ Q (.int (if i < 0 then -i else i)) H) [.int i] ms P := fun W G H vs Q gd r k => by
  cases r with
  | cons r1 r2 =>
    cases r2; cases r1
    exact ⟨i, rfl, k W _ _ H ms (Le.refl W) gd (.int _) q⟩
theorem dr_ord {c : Nat} (q : P (.int (c : Int)) ms) : DR K (fun xs H Q => ∃ x : Str, xs = [.str x] ∧ x.length = 1 ∧ Q (.int (x.cps.getD 0 0 : Nat)) H) [.str (sign1 c)] ms P := fun W G H vs Q gd r k => by
  cases r with
  | cons r1 r2 =>
    cases r2; cases r1
    exact ⟨sign1 c, rfl, rfl, k W _ _ H ms (Le.refl W) gd (.int _) q⟩
/-! ### isinstance -/
/-- the name of a datum's built-in type -/
def tyOf (ms : Ms) : Dat → Option String
  | .non => some "NoneType"
  | .bl _ => some "bool"
  | .int _ => some "int"
  | .str _ => some "str"
  | .lst _ => some "list"
  | .rol _ => some "list"
  | .tup _ => some "tuple"
  | .dct _ => some "dict"
  | .cell k => match ms[k]? with
    | some (.lst _) => some "list"
    | some (.dct _) => some "dict"
    | _ => none
  | _ => none
theorem tyx_of {W : Wd} {G H : Hp} (g : Good K W G H ms) {v : V} {d : Dat} {T : String} (h : tyOf ms d = some T) (r : Rep K W v d) : TyX K H v (.type T) := by
  cases d with
  | non => cases r; cases h; exact .base .non
  | bl b => cases r; cases h; exact .base (.bl _)
  | int b => cases r; cases h; exact .base (.int _)
  | str b => cases r; cases h; exact .base (.str _)
  | lst b => cases h; cases r with | lst e _ => exact .base (.lst (g.fz _ _ e))
  | dct b => cases h; cases r with | dct e _ => exact .base (.dK (g.fz _ _ e))
  | rol b =>
    cases h
    cases r with
    | rol e _ =>
      rcases e with (e | ⟨o, e⟩) | ⟨o, its, n, e, c, _⟩
      · exact .base (.lst (g.fz _ _ e))
      · exact .base (.frz (g.fz _ _ e))
      · exact .kList e c
  | tup b =>
    cases h
    cases r with
    | tup e _ =>
      rcases e with (e | ⟨o, e⟩) | ⟨o, its, n, e, c, _⟩
      · exact .base (.tup (g.fz _ _ e))
      · exact .fTuple (g.fz _ _ e)
      · exact .kTuple e c
  | cell k =>
    cases r with
    | cell e =>
      have h' : (match ms[k]? with | some (.lst _) => some "list" | some (.dct _) => some "dict" | _ => none) = some T := h
      cases hm : ms[k]? with
      | none => rw [hm] at h'; cases h'
      | some m =>
        rw [hm] at h'
        have o := g.cl k _ m e hm
        cases m with
        | lst xs => cases h'; obtain ⟨vs, e, _⟩ := o; exact .base (.lst e)
        | dct xs => cases h'; obtain ⟨vs, e, _⟩ := o; exact .base (.dK e)
        | ins C xs => cases h'
  | exc _ _ => cases h
  | hot _ _ _ _ => cases h
  | ref _ => cases h
  | ty _ => cases h
end
end DL
namespace DL
open PySem PySem.Spec PyProof.Rows L2
/-! ### error classes of the text -/
structure ExT (K : PySem.W.Frag) (C : Addr) : Prop where
  o : OexC K C
  ga : PySem.W.findIn K (.ref C) "__getattribute__" = some (some (.builtin "BaseException.__getattribute__"))
  gg : PySem.W.findIn K (.ref C) "__getattr__" = some none
  hd : PySem.W.hasDictIn K C = true
  cl : PySem.W.findIn K (.ref C) "__class__" = some (some (.builtin "object.__class__"))
  mo : PySem.W.mroIn K C (.type "object") = some true
  sp : PySem.W.specialIn K (.builtin "object.__class__") "__get__" = some (some (.builtin "getset_descriptor.__get__"))
  tk : PySem.W.takesIn K (.builtin "object.__class__") = some true
  nt : ∀ n ∈ (["str", "tuple", "list", "int", "bool", "dict"] : List String), PySem.W.kitOne K (.ref C) (.type n) = some false
theorem ExT.x {K : PySem.W.Frag} {C : Addr} (T : ExT K C) : XfC K C := ⟨T.ga, T.gg, T.o.exC, T.hd⟩
section
variable {Xc : Cx}
/-- the object of an error that is held as a value -/
theorem exc_at {pins : List (Addr × Obj)} {σ : L2.St} {H : Hp} {s : Shared} {a C dx : Addr} {fs : List (Str × V)} (I : Inv Xc pins σ H s) (e : H a = some (exo a C (some dx))) (e2 : H dx = some (exd dx fs)) :
    ∃ (ox od : Obj) (mA : Str → Option Value), PySem.W.InstAt s.heap a ox C (some od) ∧ s.heap.Ns1 dx mA ∧ (∀ f, RelO (fs.lookup f) (mA f)) ∧ s.heap.get? dx = some od := by
  obtain ⟨t1, h1⟩ := exo_at I.hok e
  obtain ⟨mA, hn, hr⟩ := exd_at I.hok e2
  obtain ⟨od, _, _, ho, _⟩ := id hn
  exact ⟨_, od, mA, ⟨h1, rfl, rfl, ho⟩, hn, hr, ho⟩
def rIsiE (K : PySem.W.Frag) : List V → Hp → VK → Prop := fun xs H Q => ∃ (a C dx : Addr) (fs : List (Str × V)) (c : V) (u : Value) (b : Bool), xs = [.ref a, c] ∧ ClsV c u ∧ ExT K C ∧ H a = some (exo a C (some dx)) ∧ H dx = some (exd dx fs) ∧
  PySem.W.kitOne K (.ref C) u = some b ∧ Q (.bl b) H
theorem call_isiE : CallR Xc (.builtin "isinstance") (rIsiE Xc.K) := by
  intro pins s σ H xs us Q I r h
  obtain ⟨a, C, dx, fs, c, u, b, rfl, k, T, e1, e2, e, q⟩ := h
  cases r with
  | cons ra rr => cases rr with
    | cons rc rr =>
      cases rr
      obtain rfl := k.eq rc
      cases ra
      obtain ⟨ox, od, mA, J, _⟩ := exc_at I e1 e2
      obtain ⟨cd, hc, _⟩ := PySem.W.any_some T.hd
      exact PySem.W.kia_one (PySem.W.kitx_exc (by rw [hc]; rfl) T.ga T.gg T.o.exC T.cl T.sp T.tk T.mo) I.kIn J e (fun z => nomatch z) fun tk => ⟨.bl b, H, I.tok tk, rfl, q⟩
def rIsiTE (K : PySem.W.Frag) : List V → Hp → VK → Prop := fun xs H Q => ∃ (a C dx : Addr) (fs : List (Str × V)) (tp : Addr) (cs : List V) (us : List Value) (b : Bool), xs = [.ref a, .ref tp] ∧ H tp = some (.tup cs) ∧ Paired ClsV cs us ∧ ExT K C ∧ H a = some (exo a C (some dx)) ∧ H dx = some (exd dx fs) ∧
  PySem.W.kitAny K (.ref C) us = some b ∧ Q (.bl b) H
theorem call_isiTE : CallR Xc (.builtin "isinstance") (rIsiTE Xc.K) := by
  intro pins s σ H xs us Q I r h
  obtain ⟨a, C, dx, fs, tp, cs, ws, b, rfl, hT, k, T, e1, e2, e, q⟩ := h
  cases r with
  | cons ra rr => cases rr with
    | cons rc rr =>
      cases rr
      cases ra; cases rc
      obtain ⟨ox, od, mA, J, _⟩ := exc_at I e1 e2
      obtain ⟨cd, hc, _⟩ := PySem.W.any_some T.hd
      obtain ⟨_, its, rv, ob, h1, h2, n, h3⟩ := (show ObjOk Xc.prog Xc.w H s.heap tp (.tup cs) from I.hok tp _ hT)
      obtain rfl := ClsV.all k rv
      obtain ⟨oc, od', dt, sl⟩ := ob
      dsimp only at h2 h3
      subst h2; subst h3
      exact PySem.W.kia_tup (PySem.W.kitx_exc (by rw [hc]; rfl) T.ga T.gg T.o.exC T.cl T.sp T.tk T.mo) I.kIn J h1 e (fun z => nomatch z) fun tk => ⟨.bl b, H, I.tok tk, rfl, q⟩
def rIsiX (K : PySem.W.Frag) : List V → Hp → VK → Prop := fun xs H Q => (rIsi K xs H Q ∨ rIsiT K xs H Q) ∨ (rIsiE K xs H Q ∨ rIsiTE K xs H Q)
theorem call_isiX : CallR Xc (.builtin "isinstance") (rIsiX Xc.K) := orC (orC call_isi call_isiT) (orC call_isiE call_isiTE)
/-- x.f of such an error -/
def tFldE (K : PySem.W.Frag) (f : Str) (te : TE) : TE := fun σ H Q => te σ H fun x H1 => ∃ (a C dx : Addr) (fs : List (Str × V)) (v : V), x = .ref a ∧ ExT K C ∧ PySem.W.findIn K (.ref C) f = some none ∧ H1 a = some (exo a C (some dx)) ∧ H1 dx = some (exd dx fs) ∧ fs.lookup f = some v ∧ Q v H1
theorem pe_fldE {e : Expr} {te : TE} {pos : Pos} {f : Str} (he : PE Xc e te) (hb : attributeBase e f Xc.env (eval e Xc.env) = eval e Xc.env := by rfl) : PE Xc (.Attribute e f pos) (tFldE Xc.K f te) := by
  refine ⟨fun pins s σ H Q I h => attr_of hb (thn (he.run pins s σ H _ I h) fun u s1 hh => ?_)⟩
  obtain ⟨x, H1, I1, rx, a, C, dx, fs, v, ex, T, hno, e1, e2, l, q⟩ := hh
  subst ex
  obtain rfl : u = Value.ref a := rx
  obtain ⟨ox, od, mA, J, hns, hr, hod⟩ := exc_at I1 e1 e2
  obtain ⟨od2, ho2, hl⟩ := lookIn_ns hns
  rw [hod] at ho2; cases ho2
  obtain ⟨w, hw, rw'⟩ := RelO.some_of (v := v) (o := mA f) (by rw [← l]; exact hr f)
  exact HandSPX.exc_get I1.kIn J T.ga T.gg T.o.exC (PySem.W.findObj_own T.hd hno rfl (by rw [hl, hw])) (handed_of rw') ⟨v, H1, I1.tok _, rw', q⟩
/-! ### L.__init__(self, ..) of the base class L -/
structure LoT (K : PySem.W.Frag) (mg : Str → Option Value) (nm : Str) (L : Addr) : Prop where
  m : mg nm = some (.ref L)
  sg : PySem.W.specialIn K (.ref L) "__getattribute__" = some (some (.builtin "type.__getattribute__"))
  tp : PySem.W.typeIn K (.ref L) = some (.type "type")
  rd : PySem.W.readsIn K L (.type "type") = true
  fc : PySem.W.findCls K (.ref L) (.type "type") "__init__" = some (.val (.builtin "ValueError.__init__"))
theorem pe_linit {nm : Str} {L : Addr} {e : Expr} {es : List Expr} {ta : TA} {p1 p2 pos : Pos} {pl : Sem Bool} (T : LoT Xc.K Xc.mg nm L) (hg : Gl Xc nm) (ha : PA Xc (e :: es) ta) (hdb : (nm == ("__debug__" : Str)) = false := by decide)
    (hc : eval (.Call (.Attribute (.Name nm p1) "__init__" p2) (e :: es) [] pos) Xc.env = (do
      let ov ← eval (.Name nm p1) Xc.env
      standAt p2.atName
      let (f, first) ← holding [ov] (getMethod ov "__init__" pl)
      callWith pos f first (backTo pos (starEach (e :: es) Xc.env)) (backToKw pos (keywordEach [] Xc.env))) := by rfl)
    (he : starEach (e :: es) Xc.env = (false, eval e Xc.env) :: starEach es Xc.env := by rfl) (hpl : (backTo pos (starEach es Xc.env)).any (·.1) = false := by rfl) :
    PE Xc (.Call (.Attribute (.Name nm p1) "__init__" p2) (e :: es) [] pos) (tVeI Xc.K ta) := by
  refine ⟨fun pins s σ H Q I h => PySem.W.methodCall_KW (ld_glob I hg T.m ?_ hdb) hc⟩
  obtain ⟨m, fr⟩ := I.fr
  refine PySem.W.method_cls I.kIn T.sg (PySem.W.cls_val fr I.ok.mod.kin T.tp T.rd T.fc (by decide +kernel) ?_)
  show wpAny _ _ (callWith pos (Value.builtin "ValueError.__init__") [] (backTo pos (starEach (e :: es) Xc.env)) []) _ _ _
  refine PyProof.Rows.callWith_method1 (thn (ha.run pos pins _ σ H _ (I.tok _) h) fun us s1 hh => ?_) he hpl
  obtain ⟨vs, H1, I1, r1, a, C, ws, ev, hl, T', ea, q⟩ := hh
  subst ev
  cases r1 with
  | @cons _ u0 _ ur ra rr =>
    obtain rfl : u0 = Value.ref a := ra
    refine oinit_ok T' I1 ea ?_ fun s' J => ⟨.non, H1, J, rfl, q⟩
    rw [← Paired.length rr, sizeLine_eq]
    omega
/-! ### C(e, ..) as a value -/
def tNewE (C : Addr) (sp : Sp) (ta : TA) : TE := fun σ H Q => ta σ H fun vs H1 => vs.length ≤ 1000 ∧ ∀ a, H1 a = none → sp (.ref a :: vs) (upd H1 a (exo a C none)) (fun v H2 => v = .non ∧ Q (.ref a) H2) E0
variable {cx : CXT} {x : Str} {e : Expr} {es : List Expr} {ta : TA} {p pos : Pos} {C fI : Addr} {k : Nat} {fd : FuncData} {ps : List Str} {sp : Sp}
theorem mk_run {pins : List (Addr × Obj)} {σ : L2.St} {H1 : Hp} {s1 : Shared} {vs : List V} {us : List Value} {Qr : V → Hp → Prop} {Qf : Value → Shared → Prop} (T : OexC Xc.K C) (iC : PySem.W.findIn Xc.K (.ref C) "__init__" = some (some (.ref fI))) (tI : PySem.W.typeIn Xc.K (.ref fI) = some (.type "function"))
    (F1 : FnOk Xc.prog Xc.w Xc.K Xc.mg Xc.base cx k fI fd ps sp) (hr : Room (k + 1) Xc.A) (hb : Binds Xc.K fd ps []) (hx : Passes cx Xc E0) (I1 : Inv Xc pins σ H1 s1) (r1 : Vals vs us) (hz : vs.length ≤ 1000)
    (hq : sp (.ref (s1.heap.objs.size + 1) :: vs) (upd H1 (s1.heap.objs.size + 1) (exo (s1.heap.objs.size + 1) C none)) (fun v H2 => v = .non ∧ Qr (.ref (s1.heap.objs.size + 1)) H2) E0)
    (fin : ∀ (H2 : Hp) (s2 : Shared), CE Xc.stack Xc.prog Xc.w (upd H1 (s1.heap.objs.size + 1) (exo (s1.heap.objs.size + 1) C none)) { s1 with heap := (s1.heap.push (PySem.W.kdv_tup us)).push (PySem.HandSPX.excO C s1.heap.objs.size) } (fun v H2' => v = .non ∧ H2' = H2) .none s2 →
      Inv Xc pins σ H2 s2 → Qr (.ref (s1.heap.objs.size + 1)) H2 → Qf (.ref (s1.heap.objs.size + 1)) s2) :
    wpAny (model Xc.prog Xc.w) Xc.A (call (.ref C) us) Qf Xc.xe s1 := by
  obtain ⟨nm, q, N, bs, bm, sn, sub, ab, col, dd, k0, k1, k2, k3, k5, hC, hbm⟩ := T.cls
  obtain ⟨hp, g, dr, tk, os⟩ := s1
  have le1 : hp.objs.size ≤ hp.objs.size + 1 := Nat.le_succ _
  have hget : ((hp.push (PySem.W.kdv_tup us)).push (PySem.HandSPX.excO C hp.objs.size)).get? (hp.objs.size + 1) = some (PySem.HandSPX.excO C hp.objs.size) := by heap_get
  have I2 : Inv Xc pins σ (upd H1 (hp.objs.size + 1) (exo (hp.objs.size + 1) C none)) ⟨(hp.push (PySem.W.kdv_tup us)).push (PySem.HandSPX.excO C hp.objs.size), g, dr, tk, os⟩ :=
    Inv.laid (t' := tk) (a := hp.objs.size + 1) (o := exo (hp.objs.size + 1) C none) (h' := (hp.push (PySem.W.kdv_tup us)).push (PySem.HandSPX.excO C hp.objs.size)) I1 (fun b o e => Heap.get?_push_of_some _ (Heap.get?_push_of_some _ e)) le1 (exo_ok hget)
  have rr : Vals (V.ref (hp.objs.size + 1) :: vs) (Value.ref (hp.objs.size + 1) :: us) := .cons rfl r1
  have n : (Value.ref (hp.objs.size + 1) :: us).length = ps.length := rr.length.symm.trans (F1.len _ _ _ _ hq)
  have few : us.length ≤ sizeLine := by
    rw [← Paired.length r1, sizeLine_eq]; omega
  have bb := hb _ (Value.ref (hp.objs.size + 1) :: us) I2.kIn (by rw [List.append_nil]; exact n)
  rw [List.append_nil] at bb
  refine wpAny_call (PySem.HandSPX.call_own F.excBase_ValueError (fun Y => PySem.HandSPX.refsVE_contains Y bm hbm) (I1.kIn _ _ hC) (PySem.W.looks_findIn I1.kIn iC) (fun self => PySem.W.bind_fn I1.kIn self tI) few
    (codeAny_mono (F1.run _ Xc.stack _ _ ⟨Value.ref (hp.objs.size + 1) :: us, []⟩ _ _ _ E0 (hr.make C us []) (I2.env0.make C us []) bb rr hq) fun z s' hz' => ?_))
  match z, hz' with
  | .error er, hz' => exact hx pins σ _ _ er s' I2 hz'
  | .ok (.ret u), hz' =>
    obtain ⟨v, H2, a1, a2, a3, a4, rv, hv, hQ⟩ := hz'
    subst hv
    obtain rfl : u = Value.none := rv
    obtain ⟨v', H3, I3, _, q3⟩ := I2.after (Q := fun v H' => H' = H2) (show CE _ _ _ _ _ _ Value.none s' from ⟨.non, H2, a1, a2, a3, a4, rfl, rfl⟩)
    cases q3
    exact ⟨rfl, fin H2 s' ⟨.non, H2, a1, a2, a3, a4, rfl, rfl, rfl⟩ I3 hQ⟩
  | .ok .next, hz' => exact hz'.elim
  | .ok .brk, hz' => exact hz'.elim
  | .ok .cont, hz' => exact hz'.elim
theorem pe_newE (T : OexC Xc.K C) (iC : PySem.W.findIn Xc.K (.ref C) "__init__" = some (some (.ref fI))) (tI : PySem.W.typeIn Xc.K (.ref fI) = some (.type "function"))
    (F1 : FnOk Xc.prog Xc.w Xc.K Xc.mg Xc.base cx k fI fd ps sp) (hr : Room (k + 1) Xc.A) (hb : Binds Xc.K fd ps []) (hx : Passes cx Xc E0) (hg : Gl Xc x) (hm : Xc.mg x = some (.ref C)) (ha : PA Xc (e :: es) ta)
    (hdb : (x == ("__debug__" : Str)) = false := by decide) (he : starEach (e :: es) Xc.env = (false, eval e Xc.env) :: starEach es Xc.env := by rfl) (hpl : (backTo pos (starEach es Xc.env)).any (·.1) = false := by rfl) :
    PE Xc (.Call (.Name x p) (e :: es) [] pos) (tNewE C sp ta) := ⟨fun pins s σ H Q I h =>
  wpAny_Call_Name_kw (ld_glob I hg hm (PySem.W.callWith_K (h₀ := Xc.base) I.ok.mod.kin T.kC (thn (ha.run pos pins s σ H _ I h) fun us s1 ⟨vs, H1, I1, r, hz, q⟩ =>
    ⟨I1.kIn, mk_run T iC tI F1 hr hb hx I1 r hz (Qr := Q) (q _ (I1.hok.fresh (Nat.le_succ _))) fun H2 s2 _ J hQ => ⟨.ref _, H2, J, rfl, hQ⟩⟩) he hpl) hdb)⟩
/-- raise C(e, ..): the error is let go, its dict stays -/
theorem pmk_newN (T : OexC Xc.K C) (iC : PySem.W.findIn Xc.K (.ref C) "__init__" = some (some (.ref fI))) (tI : PySem.W.typeIn Xc.K (.ref fI) = some (.type "function"))
    (F1 : FnOk Xc.prog Xc.w Xc.K Xc.mg Xc.base cx k fI fd ps sp) (hr : Room (k + 1) Xc.A) (hb : Binds Xc.K fd ps []) (hx : Passes cx Xc E0) (hg : Gl Xc x) (hm : Xc.mg x = some (.ref C)) (ha : PA Xc (e :: es) ta)
    (hdb : (x == ("__debug__" : Str)) = false := by decide) (he : starEach (e :: es) Xc.env = (false, eval e Xc.env) :: starEach es Xc.env := by rfl) (hpl : (backTo pos (starEach es Xc.env)).any (·.1) = false := by rfl) :
    L2N.PMk Xc (.Call (.Name x p) (e :: es) [] pos) (tMkO C sp [] ta) := by
  intro pins s σ H Q I h
  refine wpAny_Call_Name_kw (ld_glob I hg hm (PySem.W.callWith_K (h₀ := Xc.base) I.ok.mod.kin T.kC (thn (ha.run pos pins s σ H _ I h) fun us s1 hh => ?_) he hpl) hdb)
  obtain ⟨vs, H1, I1, r, hz, q⟩ := hh
  have hn := I1.hok.fresh (Nat.le_succ s1.heap.objs.size)
  have q1 := q _ hn
  rw [List.append_nil] at q1
  refine ⟨I1.kIn, mk_run T iC tI F1 hr hb hx I1 r hz (Qr := fun _ H2 => ∃ (d : Addr) (fs : List (Str × V)), H2 (s1.heap.objs.size + 1) = some (exo (s1.heap.objs.size + 1) C (some d)) ∧ H2 d = some (exd d fs) ∧ H1 d = none ∧ Q (.ref C) (some d) (upd (L2.del H2 (s1.heap.objs.size + 1)) d (.xd fs))) q1 fun H2 s2 ce J hQ => ?_⟩
  obtain ⟨d, fs, ea, ed, hd1, hq⟩ := hQ
  obtain ⟨v, H2', o2, b2, un2, ok2, _, _, rfl⟩ := ce
  obtain ⟨hp, g, dr, tk, os⟩ := s1
  obtain ⟨h2, g2, d2, t2, os2⟩ := s2
  obtain ⟨t0, Gh, J2, kG, ge, hoe, na⟩ := mk_end0 (d2 := d2) (t2 := t2) I1 (Nat.le_succ _) (fun b o e => Heap.get?_push_of_some _ (Heap.get?_push_of_some _ e)) un2 ok2 o2 b2 ea ed hd1
  exact ⟨hp.objs.size + 1, _, _, ⟨Gh, g2, d2, t2, os2⟩, _, .ref C, some d, rfl, J2, kG, ge, hoe, ⟨rfl, rfl, fun vs hv => by cases hv; rfl⟩, rfl, rfl, na, rfl, b2, raises_own T.exC T.tyC, hq⟩
end
end DL
namespace DL
open PySem PySem.Spec PyProof.Rows L2
/-! ### __init__ of an error class: L.__init__(self, 'words'); self.f = v (; self.g = u) -/
def spIni1 (K : PySem.W.Frag) (f : Str) : Sp := fun vs H Q _ => ∃ (a C : Addr) (v : V), vs = [.ref a, v] ∧ OexC K C ∧ PySem.W.findIn K (.ref C) f = some none ∧ H a = some (exo a C none) ∧
  ∀ dx, H dx = none → dx ≠ a → Q .non (upd (upd H dx (exd dx [(f, v)])) a (exo a C (some dx)))
def spIni2 (K : PySem.W.Frag) (f g : Str) : Sp := fun vs H Q _ => ∃ (a C : Addr) (v u : V), vs = [.ref a, v, u] ∧ OexC K C ∧ PySem.W.findIn K (.ref C) f = some none ∧ PySem.W.findIn K (.ref C) g = some none ∧ H a = some (exo a C none) ∧
  ∀ dx, H dx = none → dx ≠ a → Q .non (upd (upd (upd H dx (exd dx [(f, v)])) a (exo a C (some dx))) dx (exd dx [(g, u), (f, v)]))
theorem ini1_run {K : PySem.W.Frag} {f : Str} {vs : List V} {H : Hp} {Q : VK} {E : XK} (h : spIni1 K f vs H Q E) {x : Str} {z : Str} :
    tSeq (tDrop (tVeI K (tCons (tVar 0) (tCons (tC (.str z)) tNil)))) (tOst K f (tVar 0) (tVar 1)) { nx := fun _ H' => Q .non H', rt := Q } (L2.start ["self", x] vs) H := by
  obtain ⟨a, C, v, rfl, T, hno, e, k⟩ := h
  exact ⟨_, rfl, a, C, [.str z], rfl, (by show 1 ≤ 1000; decide), T, e, v, rfl, .ref a, rfl, a, C, rfl, T, hno, .inl ⟨e, k⟩⟩
theorem ini2_run {K : PySem.W.Frag} {f g : Str} {vs : List V} {H : Hp} {Q : VK} {E : XK} (h : spIni2 K f g vs H Q E) {x y : Str} {z : Str} :
    tSeq (tDrop (tVeI K (tCons (tVar 0) (tCons (tC (.str z)) tNil)))) (tSeq (tOst K f (tVar 0) (tVar 1)) (tOst K g (tVar 0) (tVar 2))) { nx := fun _ H' => Q .non H', rt := Q } (L2.start ["self", x, y] vs) H := by
  obtain ⟨a, C, v, u, rfl, T, hno, hng, e, k⟩ := h
  refine ⟨_, rfl, a, C, [.str z], rfl, (by show 1 ≤ 1000; decide), T, e, v, rfl, .ref a, rfl, a, C, rfl, T, hno, .inl ⟨e, fun dx hdx ne => ?_⟩⟩
  refine ⟨u, rfl, .ref a, rfl, a, C, rfl, T, hng, .inr ⟨dx, [(f, v)], upd_same, by rw [upd_ne ne, upd_same], (by show 1 ≤ 900; decide), k dx hdx ne⟩⟩
section
variable {K : PySem.W.Frag} {R : WX} {e : Ev} {ms : Ms} {X : XP} {ta te : TE} {tA : TA} {P : Dat → Ms → Prop} {O : Out} {C a d : Addr} {f g : Str} {t : TS} {i : Nat}
theorem laid2 {W : Wd} {G H : Hp} {a dx : Addr} {o1 o2 : HO} (gd : Good K W G H ms) (n1 : H a = none) (n2 : upd H a o1 dx = none) :
    Good K ⟨W.ι, upd (upd W.F dx o2) a o1⟩ G (upd (upd H dx o2) a o1) ms ∧ Le W ⟨W.ι, upd (upd W.F dx o2) a o1⟩ := by
  have ne : dx ≠ a := fun z => by rw [z, upd_same] at n2; cases n2
  have n2' : H dx = none := by rw [upd_ne ne] at n2; exact n2
  obtain ⟨g1, l1⟩ := gd.laid (o := o2) n2'
  obtain ⟨g2, l2⟩ := g1.laid (p := a) (o := o1) (by rw [upd_ne (Ne.symm ne)]; exact n1)
  exact ⟨g2, l1.trans l2⟩
/-- C(d) as a value -/
theorem de_newE1 (hT : OexC K C) (hno : PySem.W.findIn K (.ref C) f = some none) (h : DA K R tA e ms (fun ds m => ∃ d, ds = [d] ∧ P (.exc C [(f, d)]) m) X) : DE K R (tNewE C (spIni1 K f) tA) e ms P X := fun W G σ H Q gd s k x =>
  h W G σ H _ gd s (fun W1 vs ds H1 m1 l1 g1 r1 ⟨d, hd, p⟩ => by
    subst hd
    cases r1 with
    | @cons v0 _ _ _ ra rr =>
      cases rr
      refine ⟨by show 1 ≤ 1000; decide, fun a na => ⟨a, C, v0, rfl, hT, hno, upd_same, fun dx ndx ne => ⟨rfl, ?_⟩⟩⟩
      obtain ⟨g2, l2⟩ := laid2 (o1 := exo a C (some dx)) (o2 := exd dx [(f, v0)]) g1 na (by rw [upd_ne ne] at ndx ⊢; exact ndx)
      have eq : upd (upd (upd H1 a (exo a C none)) dx (exd dx [(f, v0)])) a (exo a C (some dx)) = upd (upd H1 dx (exd dx [(f, v0)])) a (exo a C (some dx)) := by
        funext b
        by_cases h1 : b = a
        · rw [h1, upd_same, upd_same]
        · rw [upd_ne h1, upd_ne h1]
          by_cases h2 : b = dx
          · rw [h2, upd_same, upd_same]
          · rw [upd_ne h2, upd_ne h2, upd_ne h1]
      rw [eq]
      refine k _ _ _ _ _ (l1.trans l2) g2 (.exc (dx := dx) upd_same (by show upd (upd W1.F dx _) a _ dx = _; rw [upd_ne ne, upd_same]) (.cons (Rep.mono l2 _ _ ra) .nil)) p) x
/-- what is raised, as a statement's reading -/
def tRaiseO (C : Addr) (sp : Sp) (R : WX) (tA : TA) : TS := fun _ σ H => tMkO C sp [] tA σ H fun cls d H' => R cls d σ H'
theorem raised1 {W : Wd} {G H : Hp} {v : V} {d : Dat} {Q : XK} (g1 : Good K W G H ms) (hT : OexC K C) (hno : PySem.W.findIn K (.ref C) f = some none) (ra : Rep K W v d)
    (k : ∀ (W' : Wd) (dx : Addr) (H' : Hp), Le W W' → Good K W' G H' ms → W'.F dx = some (.xd [(f, v)]) → Rep K W' v d → Q (.ref C) (some dx) H') (a : Addr) (na : H a = none) :
    spIni1 K f [.ref a, v] (upd H a (exo a C none)) (fun u H2 => u = .non ∧ ∃ (dx : Addr) (fs : List (Str × V)), H2 a = some (exo a C (some dx)) ∧ H2 dx = some (exd dx fs) ∧ H dx = none ∧ Q (.ref C) (some dx) (upd (L2.del H2 a) dx (.xd fs))) (fun _ _ _ => False) := by
  refine ⟨a, C, v, rfl, hT, hno, upd_same, fun dx ndx ne => ⟨rfl, dx, [(f, v)], upd_same, by rw [upd_ne ne, upd_same], by rw [upd_ne ne] at ndx; exact ndx, ?_⟩⟩
  have n2 : H dx = none := by rw [upd_ne ne] at ndx; exact ndx
  have eq : upd (L2.del (upd (upd (upd H a (exo a C none)) dx (exd dx [(f, v)])) a (exo a C (some dx))) a) dx (.xd [(f, v)]) = upd H dx (.xd [(f, v)]) := by
    funext b
    by_cases h2 : b = dx
    · rw [h2, upd_same, upd_same]
    · rw [upd_ne h2, upd_ne h2]
      by_cases h1 : b = a
      · rw [h1, del_same, na]
      · rw [del_ne h1, upd_ne h1, upd_ne h2, upd_ne h1]
  rw [eq]
  obtain ⟨g2, l2⟩ := g1.laid (o := .xd [(f, v)]) n2
  exact k _ dx _ l2 g2 upd_same (Rep.mono l2 _ _ ra)
theorem ds_raise1 (hT : OexC K C) (hno : PySem.W.findIn K (.ref C) f = some none) (h : DA K R tA e ms (fun ds m => ∃ d, ds = [d] ∧ O.ex C [(f, d)] e m) (O.xp e)) : DS K R (tRaiseO C (spIni1 K f) R tA) e ms O := fun W G σ H D gd s ft =>
  h W G σ H _ gd s (fun W1 vs ds H1 m1 l1 g1 r1 ⟨d, hd, p⟩ => by
    subst hd
    cases r1 with
    | cons ra rr =>
      cases rr
      refine ⟨by show 1 ≤ 1000; decide, fun a na => ?_⟩
      exact raised1 (Q := fun cls d H' => R cls d σ H') g1 hT hno ra (fun W' dx H' l' g' hx r' => ft.ex W' σ e C dx _ [(f, d)] H' m1 (l1.trans l') g' ((s.mono l1).mono l') hx (.cons r' .nil) p) a na) (ft.ex.at s)
theorem repF_look {W : Wd} : ∀ {fs : List (Str × V)} {ds : List (Str × Dat)}, RepF K W fs ds → ∀ {f : Str} {d : Dat}, ds.lookup f = some d → ∃ v, fs.lookup f = some v ∧ Rep K W v d
  | _, [], h, f, d, e => by simp at e
  | _, (g, d0) :: ds, h, f, d, e => by
    cases h with
    | cons a b =>
      rw [List.lookup_cons] at e
      by_cases hf : f == g
      · simp only [hf] at e
        cases e
        exact ⟨_, by simp [List.lookup_cons, hf], a⟩
      · have hf' : (f == g) = false := by simpa using hf
        simp only [hf'] at e
        obtain ⟨v, h1, h2⟩ := repF_look b e
        exact ⟨v, by simp only [List.lookup_cons, hf']; exact h1, h2⟩
theorem de_fldE {fs : List (Str × Dat)} {d : Dat} (hT : ExT K C) (hno : PySem.W.findIn K (.ref C) f = some none) (hl : fs.lookup f = some d) (h : DE K R te e ms (fun x m => x = .exc C fs ∧ P d m) X) : DE K R (tFldE K f te) e ms P X := fun W G σ H Q gd s k x =>
  h W G σ H _ gd s (fun W1 v y H1 m1 l1 g1 r1 ⟨hx, p⟩ => by
    subst hx
    cases r1 with
    | exc e1 e2 rf =>
      obtain ⟨u, h1, h2⟩ := repF_look rf hl
      exact ⟨_, C, _, _, u, rfl, hT, hno, g1.fz _ _ e1, g1.fz _ _ e2, h1, k W1 _ _ H1 m1 l1 g1 h2 p⟩) x
/-- a field of the error that the suite holds -/
theorem de_xf {fs : List (Str × Dat)} {d : Dat} {dd : Addr} (hl : fs.lookup f = some d) (h : DE K R te e ms (fun x m => x = .hot a dd C fs ∧ P d m) X) : DE K R (tXf a (.ref C) (some dd) C f te) e ms P X := fun W G σ H Q gd s k x =>
  h W G σ H _ gd s (fun W1 v y H1 m1 l1 g1 r1 ⟨hx, p⟩ => by
    subst hx
    cases r1 with
    | hot e1 rf =>
      obtain ⟨u, h1, h2⟩ := repF_look rf hl
      exact ⟨rfl, rfl, dd, _, u, rfl, g1.fz _ _ e1, h1, k W1 _ _ H1 m1 l1 g1 h2 p⟩) x
/-! ### isinstance -/
theorem dr_isi {x : Dat} {T n : String} {b : Bool} (ht : tyOf ms x = some T) (hb : kitB T n = some b) (q : P (.bl b) ms) : DR K (rIsiX K) [x, .ty n] ms P := fun W G H vs Q gd r k => by
  cases r with
  | cons r1 rr => cases rr with
    | cons r2 rr =>
      cases rr; cases r2
      exact .inl (.inl ⟨_, _, .type T, .type n, b, rfl, .ty n, tyx_of gd ht r1, kit_ty hb, k W _ _ H ms (Le.refl W) gd (.bl _) q⟩)
theorem dr_isiC {x : Dat} {T : String} {b : Bool} (ht : tyOf ms x = some T) (hb : PySem.W.kitOne K (.type T) (.ref C) = some b) (q : P (.bl b) ms) : DR K (rIsiX K) [x, .ref C] ms P := fun W G H vs Q gd r k => by
  cases r with
  | cons r1 rr => cases rr with
    | cons r2 rr =>
      cases rr; cases r2
      exact .inl (.inl ⟨_, _, .type T, .ref C, b, rfl, .own C, tyx_of gd ht r1, hb, k W _ _ H ms (Le.refl W) gd (.bl _) q⟩)
theorem dr_isiE {D : Addr} {fs : List (Str × Dat)} {b : Bool} (hT : ExT K D) (hb : PySem.W.kitOne K (.ref D) (.ref C) = some b) (q : P (.bl b) ms) : DR K (rIsiX K) [.exc D fs, .ref C] ms P := fun W G H vs Q gd r k => by
  cases r with
  | cons r1 rr => cases rr with
    | cons r2 rr =>
      cases rr; cases r2
      cases r1 with
      | exc e1 e2 rf => exact .inr (.inl ⟨_, D, _, _, .ref C, .ref C, b, rfl, .own C, hT, gd.fz _ _ e1, gd.fz _ _ e2, hb, k W _ _ H ms (Le.refl W) gd (.bl _) q⟩)
theorem dr_isiEt {D : Addr} {fs : List (Str × Dat)} {b : Bool} {n : String} (hT : ExT K D) (hb : PySem.W.kitOne K (.ref D) (.type n) = some b) (q : P (.bl b) ms) : DR K (rIsiX K) [.exc D fs, .ty n] ms P := fun W G H vs Q gd r k => by
  cases r with
  | cons r1 rr => cases rr with
    | cons r2 rr =>
      cases rr; cases r2
      cases r1 with
      | exc e1 e2 rf => exact .inr (.inl ⟨_, D, _, _, .ty n, .type n, b, rfl, .ty n, hT, gd.fz _ _ e1, gd.fz _ _ e2, hb, k W _ _ H ms (Le.refl W) gd (.bl _) q⟩)
/-! ### try: .. except C as n: suite -/
theorem ds_try {c : Value} {tb : WX → TS} {ts : Addr → Value → Option Addr → TS}
    (h : ∀ R', DS K R' (tb R') e ms { O with ex := fun D ds e' m' => ∃ b, PySem.W.exmOne K (.ref D) c = some b ∧
      (b = true → ∀ a dd, DS K (fun _ _ _ _ => False) (ts a (.ref D) (some dd)) (e'.set i (some (.hot a dd D ds))) m' { nx := fun e2 m2 => O.nx (e2.set i none) m2, rt := O.rt, bk := fun e2 m2 => O.bk (e2.set i none) m2, ct := fun e2 m2 => O.ct (e2.set i none) m2 }) ∧
      (b = false → O.ex D ds e' m') }) : DS K R (fun Dd σ H => tb (wAs K c i ts R Dd) Dd σ H) e ms O := fun W G σ H D gd s ft => by
  have none_set : ∀ {W : Wd} {σ : L2.St} {e : Ev}, Slots K W σ e → Slots K W (σ.set i none) (e.set i none) := fun {W σ e} s => by
    refine ⟨by rw [List.length_set, List.length_set]; exact s.1, fun j d hd => ?_⟩
    by_cases hj : i = j
    · subst hj
      by_cases hl : i < e.length
      · rw [List.getElem?_set_self hl] at hd; cases hd
      · rw [List.getElem?_eq_none (by rw [List.length_set]; omega)] at hd; cases hd
    · rw [List.getElem?_set_ne hj] at hd ⊢
      exact s.2 j d hd
  refine h _ W G σ H D gd s ⟨ft.nx, ft.rt, ft.bk, ft.ct, fun W' σ' e' C d fs ds H' ms' l g' s' hf rf ⟨b, hb, hy, hn⟩ => ⟨b, hb, fun hbt a na => ?_, fun hbf => ft.ex W' σ' e' C d fs ds H' ms' l g' s' hf rf (hn hbf)⟩⟩
  refine hy hbt a d W' G _ H' _ g' (s'.set (.hot hf rf) i) ⟨fun W2 σ2 e2 H2 m2 l2 g2 s2 q => ft.nx W2 _ _ H2 m2 (l.trans l2) g2 (none_set s2) q, ft.rt.le l, fun W2 σ2 e2 H2 m2 l2 g2 s2 q => ft.bk W2 _ _ H2 m2 (l.trans l2) g2 (none_set s2) q, fun W2 σ2 e2 H2 m2 l2 g2 s2 q => ft.ct W2 _ _ H2 m2 (l.trans l2) g2 (none_set s2) q, fun _ _ _ _ _ _ _ _ _ _ _ _ _ _ z => z.elim⟩
end
end DL
namespace DL
open PySem PySem.Spec PyProof.Rows L2
def StrOk : Dat → Prop
  | .str z => z.length ≤ 100000 ∧ ∀ c ∈ z.cps.toList, c < 128
  | _ => True
/-- a value that isinstance can be asked of; a text is no longer than the line -/
inductive VOk (K : PySem.W.Frag) (ms : Ms) : Dat → Prop
  | ty {d : Dat} {T : String} (h : tyOf ms d = some T) (s : StrOk d) : VOk K ms d
  | ex {C : Addr} {fs : List (Str × Dat)} (T : ExT K C) : VOk K ms (.exc C fs)
def isTyD (ms : Ms) (d : Dat) (n : String) : Bool := match tyOf ms d with
  | some T => T == n || (T == "bool" && n == "int")
  | none => false
theorem tyOf_in {ms : Ms} {d : Dat} {T : String} (h : tyOf ms d = some T) : T ∈ (["NoneType", "bool", "int", "str", "list", "tuple", "dict"] : List String) := by
  cases d with
  | cell k =>
    have h' : (match ms[k]? with | some (.lst _) => some "list" | some (.dct _) => some "dict" | _ => none) = some T := h
    revert h'
    cases ms[k]? with
    | none => intro h'; cases h'
    | some m => cases m <;> intro h' <;> cases h' <;> decide
  | _ => cases h <;> decide
theorem kitB_is : ∀ T ∈ (["NoneType", "bool", "int", "str", "list", "tuple", "dict"] : List String), ∀ n ∈ (["str", "tuple", "list", "int", "bool", "dict"] : List String), kitB T n = some (T == n || (T == "bool" && n == "int")) := by decide +kernel
section
variable {K : PySem.W.Frag} {ms : Ms} {P : Dat → Ms → Prop} {d : Dat} {n : String} {R : WX} {e : Ev} {X : XP}
theorem dr_isiV (h : VOk K ms d) (hn : n ∈ (["str", "tuple", "list", "int", "bool", "dict"] : List String)) (q : P (.bl (isTyD ms d n)) ms) : DR K (rIsiX K) [d, .ty n] ms P := by
  cases h with
  | @ty _ T h _ =>
    refine dr_isi h (kitB_is _ (tyOf_in h) n hn) ?_
    have e : isTyD ms d n = (T == n || (T == "bool" && n == "int")) := by unfold isTyD; rw [h]
    rw [e] at q
    exact q
  | ex T => exact dr_isiEt T (T.nt n hn) q
theorem isStr {d : Dat} (h : isTyD ms d "str" = true) : ∃ z, d = .str z := by
  cases d with
  | str z => exact ⟨z, rfl⟩
  | cell k => cases hm : ms[k]? with
    | none => simp [isTyD, tyOf, hm] at h
    | some m => cases m <;> simp [isTyD, tyOf, hm] at h
  | _ => simp [isTyD, tyOf] at h
theorem isTup {d : Dat} (h : isTyD ms d "tuple" = true) : ∃ z, d = .tup z := by
  cases d with
  | tup z => exact ⟨z, rfl⟩
  | cell k => cases hm : ms[k]? with
    | none => simp [isTyD, tyOf, hm] at h
    | some m => cases m <;> simp [isTyD, tyOf, hm] at h
  | _ => simp [isTyD, tyOf] at h
theorem VOk.len {K : PySem.W.Frag} {z : Str} (h : VOk K ms (.str z)) : z.length ≤ 100000 := by
  cases h with
  | ty _ s => exact s.1
theorem VOk.sig {K : PySem.W.Frag} {z : Str} (h : VOk K ms (.str z)) : ∀ c ∈ z.cps.toList, c < 128 := by
  cases h with
  | ty _ s => exact s.2
theorem isTyD_str (z : Str) : isTyD ms (.str z) "str" = true := by simp [isTyD, tyOf]
theorem isTyD_tup (z : List Dat) : isTyD ms (.tup z) "tuple" = true := by simp [isTyD, tyOf]
end
/-- answers of a test -/
theorem both {c : Bool} {A B : Prop} (h1 : c = true → A) (h2 : c = false → B) : (c = true → A) ∧ (c = false → B) := ⟨h1, h2⟩
theorem bothT {A B : Prop} (h : A) : ((true : Bool) = true → A) ∧ ((true : Bool) = false → B) := ⟨fun _ => h, fun z => Bool.noConfusion z⟩
theorem bothF {A B : Prop} (h : B) : ((false : Bool) = true → A) ∧ ((false : Bool) = false → B) := ⟨fun z => Bool.noConfusion z, fun _ => h⟩

theorem bothNT {A B : Prop} (h : B) : ((!true) = true → A) ∧ ((!true) = false → B) := ⟨fun z => Bool.noConfusion z, fun _ => h⟩
theorem bothNF {A B : Prop} (h : A) : ((!false) = true → A) ∧ ((!false) = false → B) := ⟨fun _ => h, fun z => Bool.noConfusion z⟩
section
variable {K : PySem.W.Frag} {ms : Ms} {P : Dat → Ms → Prop} {d : Dat} {n : String} {R : WX} {e : Ev} {X : XP} {wi : TI} {g : TG} {tt : TT} {te : TE} {vs : List Nat}
theorem dr_isiK {b : Bool} (h : VOk K ms d) (hn : n ∈ (["str", "tuple", "list", "int", "bool", "dict"] : List String)) (hb : isTyD ms d n = b) (q : P (.bl b) ms) : DR K (rIsiX K) [d, .ty n] ms P := by
  subst hb
  exact dr_isiV h hn q
theorem filter_range_get {α β : Type} (l : List α) (df : α) (keep : α → Bool) (f : α → β) :
    ((List.range l.length).filter (fun i => keep (l.getD i df))).map (fun i => f (l.getD i df)) = (l.filter keep).map f := by
  have h1 : (List.range l.length).map (fun i => l.getD i df) = l := by
    apply List.ext_getElem
    · simp
    · intro i h1 h2
      simp [List.getD_eq_getElem?_getD, List.getElem?_eq_getElem h2]
  have h2 : ((List.range l.length).filter (fun i => keep (l.getD i df))).map (fun i => l.getD i df) = l.filter keep := by
    conv => rhs; rw [← h1, List.filter_map]
    rfl
  rw [← h2, List.map_map]
  rfl
/-- a comprehension over a text's signs -/
theorem lcw_str {z : Str} {Fin : List Dat → Ms → Prop} (hn : z.cps.toList.length ≤ 1000000) (keep : Nat → Bool) (f : Nat → Dat)
    (h : ∀ c, c ∈ z.cps.toList → DG K g (.str (sign1 c)) (wipeE e vs) ms vs (fun e2 m2 => DT K R tt e2 m2 (fun b m3 => b = keep c ∧ m3 = ms ∧ (b = true → DE K R te e2 ms (fun y m4 => y = f c ∧ m4 = ms) (fun _ _ _ => False))) (fun _ _ _ => False)))
    (q : Fin ((z.cps.toList.filter keep).map f) ms) : LcW K R g tt te vs e z.cps.toList.length (itS z) ms Fin := by
  refine lcw_map hn (fun i => keep (z.cps.toList.getD i 0)) (fun i => f (z.cps.toList.getD i 0)) (fun i hi => ?_) ?_
  · have hm : z.cps.toList.getD i 0 ∈ z.cps.toList := by
      rw [List.getD_eq_getElem?_getD, List.getElem?_eq_getElem hi]
      exact List.getElem_mem hi
    exact h _ hm
  · rw [filter_range_get z.cps.toList 0 keep f]
    exact q
/-- .. over a list -/
theorem lcw_list {xs : List Dat} {Fin : List Dat → Ms → Prop} (hn : xs.length ≤ 1000000) (keep : Dat → Bool) (f : Dat → Dat)
    (h : ∀ c, c ∈ xs → DG K g c (wipeE e vs) ms vs (fun e2 m2 => DT K R tt e2 m2 (fun b m3 => b = keep c ∧ m3 = ms ∧ (b = true → DE K R te e2 ms (fun y m4 => y = f c ∧ m4 = ms) (fun _ _ _ => False))) (fun _ _ _ => False)))
    (q : Fin ((xs.filter keep).map f) ms) : LcW K R g tt te vs e xs.length (itL xs) ms Fin := by
  refine lcw_map hn (fun i => keep (xs.getD i .non)) (fun i => f (xs.getD i .non)) (fun i hi => ?_) ?_
  · have hm : xs.getD i .non ∈ xs := by
      rw [List.getD_eq_getElem?_getD, List.getElem?_eq_getElem hi]
      exact List.getElem_mem hi
    exact h _ hm
  · rw [filter_range_get xs .non keep f]
    exact q
theorem dr_allB {xs : List Dat} {bs : List Bool} (h : xs = bs.map Dat.bl) (q : P (.bl (bs.all id)) ms) : DR K (rAll K) [.lst xs] ms P := by
  subst h
  exact dr_all q
theorem d2_leS1 {x y : Str} {a b : Nat} (hx : x.cps.toList = [a]) (hy : y.cps.toList = [b]) (q : P (.bl (decide (a ≤ b))) ms) : D2 K rLeA (.str x) (.str y) ms P := by
  refine d2_leS ?_
  rw [hx, hy]
  have e : (!decide ([b] < [a])) = decide (a ≤ b) := by
    by_cases h : a ≤ b
    · have h' : ¬ ([b] < [a]) := by
        intro z
        rcases List.cons_lt_cons_iff.mp z with z | ⟨_, z⟩
        · omega
        · exact absurd z (by simp)
      rw [decide_eq_true h, decide_eq_false h']; rfl
    · have h' : [b] < [a] := List.cons_lt_cons_iff.mpr (.inl (by omega))
      rw [decide_eq_false h, decide_eq_true h']; rfl
  rw [e]
  exact q
end
theorem sign1_cps (c : Nat) : (sign1 c).cps.toList = [c] := rfl

theorem fin_b {n : Nat} {P : Dat → Ms → Prop} {ms : Ms} {b c : Bool} (q : P (.bl b) ms) (e : b = c) : RetOk n P (.bl c) ms := .inl (by rw [← e]; exact q)
theorem fin_d {n : Nat} {P : Dat → Ms → Prop} {ms : Ms} {b c : Dat} (q : P b ms) (e : b = c) : RetOk n P c ms := .inl (by rw [← e]; exact q)
theorem all_map_bl (l : List Nat) (p : Nat → Bool) : ((l.filter fun _ => true).map fun c => Dat.bl (p c)) = (l.map p).map Dat.bl := by
  rw [List.filter_eq_self.mpr (fun _ _ => rfl), List.map_map]; rfl
theorem all_id {α : Type} (l : List α) (p : α → Bool) : (l.map p).all id = l.all p := by
  rw [List.all_map]; rfl

theorem sg_a : (Str.ofString "a").cps.toList = [97] := by decide +kernel
theorem sg_z : (Str.ofString "z").cps.toList = [122] := by decide +kernel
theorem sg_sp : (Str.ofString " ").cps.toList = [32] := by decide +kernel
theorem sg_ti : (Str.ofString "~").cps.toList = [126] := by decide +kernel
end DL
namespace DL
open PySem PySem.Spec PyProof.Rows L2
section
variable {P : Program} {w : World} {K : PySem.W.Frag} {mg : Str → Option Value} {base : Heap} {x qual : Str} {f : Addr} {fd : FuncData} {N ps : List Str} {k : Nat} {pr : Arguments} {bd : List Stmt} {sc : Scope} {dvs : List V} {kws : List (Str × V)}
/-- a def with defaults -/
theorem fn_dlD {A : Pm} (F : FunD K x qual pr bd sc dvs kws f fd) (S : FnScope N ps sc) (hlen : ∀ ds ms P X, A ds ms P X → ds.length = ps.length)
    (hb : ∀ (cdv : Value) (Ar : Around) (outer : List Env) (s : Shared) (H : Hp) (E : XK), Room k (Ar.deeper (envOfC qual sc s.heap.objs.size f cdv)) → Quiet (Ar.deeper (envOfC qual sc s.heap.objs.size f cdv)) →
      ∃ t, PSs (cxOf (L2N.CX P w) P w K mg base N qual sc f cdv Ar outer s H E) bd t ∧
        ∀ ds ms Pd X, A ds ms Pd X → BelL ms.length ds → MsBel ms → DS K (fun c d _ H => E c d H) t (startE N ds) ms (bodyOut ms.length Pd X)) :
    FnG P w K mg base (L2N.CX P w) (k + 1) f fd ps (spD K A) := by
  obtain ⟨oc, od, dV, kV, doc, pm, an, cdv, ct, osl, e, lk, hcd, _, _⟩ := F.ex
  subst e
  refine ⟨fun vs H Q E h => ?_, fun Ar outer s H args us vs Q E hr hq e0 hbd r hsp => ?_⟩
  · obtain ⟨W, G, ms, ds, Pd, X, _, r, a, _⟩ := h
    rw [r.length]; exact hlen ds ms Pd X a
  · obtain ⟨W, G, ms, ds, Pd, X, g, rl, a, kP, kX⟩ := hsp
    obtain ⟨t, ht, hd⟩ := hb cdv Ar outer s H E (hr.deeper _) (hq.deeper _)
    have b := RepL.bel ds vs rl
    rw [g.ln] at b
    have hl : vs.length = ps.length := by rw [rl.length]; exact hlen ds ms Pd X a
    refine enter_def lk hcd S hr.depth e0 hbd fun s1 ic => ?_
    have I := inv_start (CX := L2N.CX P w) (E := E) S hr.hd e0 hl r ic
    exact wpAny_mono (ht.run [] s1 _ H _ I (run_body g rl kP kX (hd ds ms Pd X a b g.bel))) (fun fl s' z => flow_end rfl rfl rfl rfl rfl rfl z) fun _ _ z => z
end
section
variable {K : PySem.W.Frag} {ms : Ms} {P : Dat → Ms → Prop} {R : WX} {e : Ev} {X : XP} {te ta : TE} {tl th : TO}
theorem d2_notI {i : Int} (q : P (.bl true) ms) : D2 K rNotA (.int i) .non ms P := d2_notN q
theorem d2_notSt {i : Str} (q : P (.bl true) ms) : D2 K rNotA (.str i) .non ms P := d2_notN q
theorem d2_notNn (q : P (.bl false) ms) : D2 K rNotA .non .non ms P := d2_notN q
theorem d2_notT {i : List Dat} (q : P (.bl true) ms) : D2 K rNotA (.tup i) .non ms P := d2_notN q
theorem d2_isI {i : Int} (q : P (.bl false) ms) : D2 K rIsA (.int i) .non ms P := d2_isN q
theorem d2_isNn (q : P (.bl true) ms) : D2 K rIsA .non .non ms P := d2_isN q
theorem d2_isT {i : List Dat} (q : P (.bl false) ms) : D2 K rIsA (.tup i) .non ms P := d2_isN q
theorem d2_inL {c : Nat} {z : Str} {l : List Nat} (hz : z.cps.toList = l) (q : P (.bl (decide (c ∈ l))) ms) : D2 K (rInA K) (.str (sign1 c)) (.str z) ms P := by
  subst hz
  exact d2_inS q
/-! ### slices -/
/-- a slice's part: nothing, or an int -/
def DO (K : PySem.W.Frag) (R : WX) (t : TO) (e : Ev) (ms : Ms) (P : Option Int → Ms → Prop) (X : XP) : Prop :=
  ∀ (W : Wd) (G : Hp) (σ : L2.St) (H : Hp) (Q : Option Int → Hp → Prop), Good K W G H ms → Slots K W σ e →
    (∀ (W' : Wd) (o : Option Int) (H' : Hp) (ms' : Ms), Le W W' → Good K W' G H' ms' → P o ms' → Q o H') → ExC K W G X (fun c d H' => R c d σ H') → t σ H Q
theorem do_none {P : Option Int → Ms → Prop} (q : P none ms) : DO K R tNoPart e ms P X := fun W G σ H Q g s k _ => k W none H ms (Le.refl W) g q
theorem do_some {P : Option Int → Ms → Prop} (h : DE K R te e ms (fun d m => ∃ i, d = .int i ∧ P (some i) m) X) : DO K R (tPart te) e ms P X := fun W G σ H Q g s k x =>
  h W G σ H _ g s (fun W1 v d H1 m1 l1 g1 r1 ⟨i, hi, p⟩ => by
    subst hi; cases r1
    exact ⟨i, rfl, k W1 (some i) H1 m1 l1 g1 p⟩) x
def DSl (K : PySem.W.Frag) (x : Dat) (lo hi : Option Int) (ms : Ms) (P : Dat → Ms → Prop) : Prop :=
  ∀ (W : Wd) (G H : Hp) (v : V) (Q : VK), Good K W G H ms → Rep K W v x → RtC K W G P Q → rSlA K v lo hi H Q
theorem de_sl (h : DE K R ta e ms (fun x m => DO K R tl e m (fun lo m1 => DO K R th e m1 (fun hi m2 => DSl K x lo hi m2 P) X) X) X) : DE K R (tSl (rSlA K) ta tl th) e ms P X := fun W G σ H Q g s k x => by
  refine h W G σ H _ g s (fun W1 v d H1 m1 l1 g1 r1 h1 => ?_) x
  refine h1 W1 G σ H1 _ g1 (s.mono l1) (fun W2 lo H2 m2 l2 g2 h2 => ?_) (x.le l1)
  refine h2 W2 G σ H2 _ g2 (s.mono (l1.trans l2)) (fun W3 hi H3 m3 l3 g3 h3 => ?_) (x.le (l1.trans l2))
  exact h3 W3 G H3 v Q g3 (Rep.mono (l2.trans l3) _ _ r1) (k.le (l1.trans (l2.trans l3)))
theorem dsl_str {z : Str} {lo hi : Option Int} (hl : z.length ≤ 1000000) (q : P (.str (cutS z lo hi)) ms) : DSl K (.str z) lo hi ms P := fun W G H v Q g r k => by
  cases r
  exact .inr (.inl ⟨z, rfl, size_of hl, k W _ _ H ms (Le.refl W) g (.str _) q⟩)
def cutD (xs : List Dat) (lo hi : Option Int) : List Dat := (xs.drop (HT.sIx xs.length 0 lo)).take (HT.sIx xs.length xs.length hi - HT.sIx xs.length 0 lo)
theorem repL_drop {W : Wd} : ∀ {vs : List V} {ds : List Dat} (n : Nat), RepL K W vs ds → RepL K W (vs.drop n) (ds.drop n)
  | _, _, 0, h => h
  | _, [], n + 1, h => by cases h; exact .nil
  | _, d :: ds, n + 1, h => by cases h with | cons a b => exact repL_drop n b
theorem repL_take {W : Wd} : ∀ {vs : List V} {ds : List Dat} (n : Nat), RepL K W vs ds → RepL K W (vs.take n) (ds.take n)
  | _, _, 0, h => by simp; exact .nil
  | _, [], n + 1, h => by cases h; exact .nil
  | _, d :: ds, n + 1, h => by cases h with | cons a b => exact .cons a (repL_take n b)
theorem dsl_list {x : Dat} {xs : List Dat} {lo hi : Option Int} (hx : x = .lst xs ∨ x = .rol xs ∨ ∃ k, x = .cell k ∧ ms[k]? = some (.lst xs)) (q : P (.lst (cutD xs lo hi)) ms) : DSl K x lo hi ms P := fun W G H v Q g r k => by
  obtain ⟨a, vs, rfl, hq, rl⟩ := lstSq g r hx
  refine .inl ⟨a, vs, rfl, hq, fun p hp => ?_⟩
  obtain ⟨g2, l2⟩ := g.laid (o := .lst (cutV vs lo hi)) hp
  refine k _ _ _ _ _ l2 g2 (.lst upd_same (RepL.mono l2 _ _ ?_)) q
  unfold cutV cutD
  rw [rl.length]
  exact repL_take _ (repL_drop _ rl)
/-! ### methods of texts -/
theorem dr_startswith {a b : Str} (q : P (.bl (Txt.startswith a b)) ms) : DR K (fun vs => match vs with | v :: ws => (fun x xs H Q => ∃ a b, x = V.str a ∧ xs = [V.str b] ∧ Q (.bl (Txt.startswith a b)) H) v ws | [] => fun _ _ => False) [.str a, .str b] ms P := fun W G H vs Q g r k => by
  cases r with
  | cons r1 rr => cases rr with
    | cons r2 rr =>
      cases rr; cases r1; cases r2
      exact ⟨a, b, rfl, rfl, k W _ _ H ms (Le.refl W) g (.bl _) q⟩
theorem dr_partition {a b : Str} (hb : (b.length == 0) = false) (hl : a.length ≤ 1000000) (q : P (.tup [.str (Txt.partition a b).1, .str (Txt.partition a b).2.1, .str (Txt.partition a b).2.2]) ms) :
    DR K (fun vs => match vs with | v :: ws => (fun x xs H Q => ∃ a b, x = V.str a ∧ xs = [V.str b] ∧ (b.length == 0) = false ∧ a.length ≤ sizeLine ∧ ∀ p, H p = none → Q (.ref p) (upd H p (.tup [.str (Txt.partition a b).1, .str (Txt.partition a b).2.1, .str (Txt.partition a b).2.2]))) v ws | [] => fun _ _ => False) [.str a, .str b] ms P := fun W G H vs Q g r k => by
  cases r with
  | cons r1 rr => cases rr with
    | cons r2 rr =>
      cases rr; cases r1; cases r2
      refine ⟨a, b, rfl, rfl, hb, size_of hl, fun p hp => ?_⟩
      obtain ⟨g2, l2⟩ := g.laid (o := .tup [.str (Txt.partition a b).1, .str (Txt.partition a b).2.1, .str (Txt.partition a b).2.2]) hp
      exact k _ _ _ _ _ l2 g2 (.tup (.inl (.inl upd_same)) (.cons (.str _) (.cons (.str _) (.cons (.str _) .nil)))) q
theorem dr_join {a : Str} {ys : List Str} (hl : (ys.map (·.length)).sum + ys.length * a.length ≤ 1000000) (q : P (.str (Txt.join a ys)) ms) :
    DR K (fun vs => match vs with | v :: ws => (fun x xs H Q => ∃ a p, ∃ ys : List Str, x = V.str a ∧ xs = [V.ref p] ∧ (SqL K H p (ys.map V.str) ∨ SqT K H p (ys.map V.str)) ∧ (ys.map (·.length)).sum + ys.length * a.length ≤ 16777216 ∧ Q (.str (Txt.join a ys)) H) v ws | [] => fun _ _ => False) [.str a, .lst (ys.map Dat.str)] ms P := fun W G H vs Q g r k => by
  cases r with
  | cons r1 rr => cases rr with
    | cons r2 rr =>
      cases rr; cases r1
      obtain ⟨b, us, rfl, hq, rl⟩ := lstSq g r2 (.inl rfl)
      rw [strsRep rl] at hq
      exact ⟨a, b, ys, rfl, rfl, .inl hq, by omega, k W _ _ H ms (Le.refl W) g (.str _) q⟩
/-! ### f-strings -/
def DJ (K : PySem.W.Frag) (R : WX) (ts : List TE) (acc : Str) (e : Ev) (ms : Ms) (P : Dat → Ms → Prop) (X : XP) : Prop :=
  ∀ (W : Wd) (G : Hp) (σ : L2.St) (H : Hp) (Q : VK), Good K W G H ms → Slots K W σ e → RtC K W G P Q → ExC K W G X (fun c d H' => R c d σ H') → tJs ts acc σ H fun out H1 => Q (.str out) H1
theorem dj_nil {acc : Str} (q : P (.str acc) ms) : DJ K R [] acc e ms P X := fun W G σ H Q g s k _ => k W _ _ H ms (Le.refl W) g (.str _) q
theorem dj_cons {t : TE} {ts : List TE} {acc : Str} (h : DE K R t e ms (fun d m => ∃ y, d = .str y ∧ (acc ++ y).length ≤ 1000000 ∧ DJ K R ts (acc ++ y) e m P X) X) : DJ K R (t :: ts) acc e ms P X := fun W G σ H Q g s k x =>
  h W G σ H _ g s (fun W1 v d H1 m1 l1 g1 r1 ⟨y, hy, hl, p⟩ => by
    subst hy; cases r1
    exact ⟨y, rfl, size_of hl, p W1 G σ H1 Q g1 (s.mono l1) (k.le l1) (x.le l1)⟩) x
theorem de_fstr {ts : List TE} (h : DJ K R ts Str.empty e ms P X) : DE K R (fun σ H Q => tJs ts Str.empty σ H fun out H1 => Q (.str out) H1) e ms P X := h
theorem de_fmtS (h : DE K R te e ms (fun d m => ∃ z, d = .str z ∧ z.length ≤ 1000000 ∧ P (.str z) m) X) : DE K R (tFmt te) e ms P X := fun W G σ H Q g s k x =>
  h W G σ H _ g s (fun W1 v d H1 m1 l1 g1 r1 ⟨z, hz, hl, p⟩ => by
    subst hz; cases r1
    exact .inl ⟨z, rfl, size_of hl, k W1 _ _ H1 m1 l1 g1 (.str _) p⟩) x
end

section
variable {K : PySem.W.Frag} {ms : Ms} {P : Dat → Ms → Prop} {R : WX} {e : Ev} {O : Out} {ta : TE} {g : TG}
theorem dr_lenT {xs : List Dat} (q : P (.int xs.length) ms) : DR K (rLenK K) [.tup xs] ms P := dr_len (.inr (.inl rfl)) q
theorem dr_lenL {xs : List Dat} (q : P (.int xs.length) ms) : DR K (rLenK K) [.lst xs] ms P := dr_len (.inl rfl) q
theorem dr_lenR {xs : List Dat} (q : P (.int xs.length) ms) : DR K (rLenK K) [.rol xs] ms P := dr_len (.inr (.inr (.inl rfl))) q
theorem dr_lenC {k : Nat} {xs : List Dat} (h : ms[k]? = some (.lst xs)) (q : P (.int xs.length) ms) : DR K (rLenK K) [.cell k] ms P := dr_len (.inr (.inr (.inr ⟨k, rfl, h⟩))) q
/-- a store to any target -/
theorem ds_to (h : DE K R ta e ms (fun d m => DG K g d e m (List.range 40) O.nx) (O.xp e)) : DS K R (tAsg ta g) e ms O := ds_asg h
end

section
variable {K : PySem.W.Frag} {ms : Ms} {e : Ev} {u : TGs} {vs : List Nat} {P : Ev → Ms → Prop} {a b c d : Dat}
theorem dg_tup1 (h : DGs K u [a] e ms vs P) : DG K (gTup K 1 u) (.tup [a]) e ms vs P := dg_tup rfl h
theorem dg_tup2 (h : DGs K u [a, b] e ms vs P) : DG K (gTup K 2 u) (.tup [a, b]) e ms vs P := dg_tup rfl h
theorem dg_tup3 (h : DGs K u [a, b, c] e ms vs P) : DG K (gTup K 3 u) (.tup [a, b, c]) e ms vs P := dg_tup rfl h
theorem dg_tup4 (h : DGs K u [a, b, c, d] e ms vs P) : DG K (gTup K 4 u) (.tup [a, b, c, d]) e ms vs P := dg_tup rfl h
end

theorem len_empty : Str.empty.length = 0 := rfl
theorem len_sp : (Str.ofString " ").length = 1 := by decide +kernel
theorem empty_app (a : Str) : Str.empty ++ a = a := by
  apply TL.ext_tl
  rw [TL.tl_append]
  rfl

theorem split_first {l : List Nat} {s : Nat} (h : s ∈ l) : ∃ a b, l = a ++ s :: b ∧ s ∉ a := by
  induction l with
  | nil => cases h
  | cons x l ih =>
    by_cases e : x = s
    · exact ⟨[], l, by rw [e]; rfl, by simp⟩
    · obtain ⟨a, b, e1, e2⟩ := ih (by rcases List.mem_cons.mp h with z | z; exact absurd z.symm e; exact z)
      refine ⟨x :: a, b, by rw [e1]; rfl, ?_⟩
      intro m
      rcases List.mem_cons.mp m with z | z
      · exact e z.symm
      · exact e2 z
theorem part_cases (z : Str) : (32 ∉ z.cps.toList ∧ Txt.partition z (Str.ofString " ") = (z, Str.empty, Str.empty)) ∨ ∃ a b : Str, z = a ++ (Str.ofString " ") ++ b ∧ 32 ∉ a.cps.toList ∧ Txt.partition z (Str.ofString " ") = (a, Str.ofString " ", b) := by
  by_cases h : 32 ∈ z.cps.toList
  · obtain ⟨a, b, e, n⟩ := split_first h
    have ez : z = (⟨a.toArray⟩ : Str) ++ (Str.ofString " ") ++ (⟨b.toArray⟩ : Str) := by
      apply TL.ext_tl
      rw [TL.tl_append, TL.tl_append]
      show z.cps.toList = a ++ (Str.ofString " ").cps.toList ++ b
      rw [e, sg_sp]; simp
    refine .inr ⟨⟨a.toArray⟩, ⟨b.toArray⟩, ez, n, ?_⟩
    conv => lhs; rw [ez]
    exact TL.partition_app (s := 32) (S := []) sg_sp n
  · exact .inl ⟨h, TL.partition_none (s := 32) (S := []) sg_sp h⟩
end DL
namespace DL
open PySem PySem.Spec PyProof.Rows L2
/-! ### a comprehension where an error is handled -/
/-- the block's context; the handled error stays pinned -/
abbrev blkH (X : Cx) (s : Shared) (H : Hp) (scope : Scope) (ce : Env) (fp : List Addr) : Cx := { X.blk s H scope ce fp with pn := X.pn }
section
variable {X : Cx} {pins : List (Addr × Obj)} {σ : L2.St} {H : Hp} {s : Shared} {scope : Scope} {own : List (Str × Nat)} {fp : List Addr}
theorem hotBlk {ce : Env} (h : L2H.HotC X) : L2H.HotC (blkH X s H scope ce fp) := h
theorem startBlkH (J : Inv X pins σ H s) (bo : BlkOk X.N X.env.scope scope own) (nd : X.N.Nodup) (hf : ∀ b ∈ fp, FpOk X pins H b ∧ b < s.heap.objs.size) :
    Inv (blkH X s H scope (compEnvC scope (cellsFrom (s.heap.objs.size + 1) scope.names (cloFrom X.env.cells scope.names [])) s.heap.objs.size X.env) fp) [] (wipe σ (own.map (·.2))) H { s with heap := pushCells (s.heap.push { cls := .type "dict", data := .dict #[] }) scope.names } := by
  have B := block_start J bo nd hf
  obtain ⟨⟨a1, a2, a3, a4, a5, a6, a7, a8, a9, a10, a11, a12, a13, a14, a15, a16, a17, a18⟩, b2, b3, b4, b5, b6, b7, b8, _, b10, b11⟩ := B
  refine ⟨⟨a1, a2, a3, a4, a5, a6, a7, a8, a9, a10, a11, a12, a13, a14, a15, a16, a17, a18⟩, b2, b3, b4, b5, b6, b7, b8, fun p hp => ?_, b10, b11⟩
  obtain ⟨c1, c2, c3, c4, c5⟩ := J.pin p (List.mem_append_left _ (by simpa using (show p ∈ X.pn ++ [] from hp)))
  refine ⟨pushCells_keeps _ _ _ _ (Heap.get?_push_of_some _ c1), c2, Nat.ne_of_lt (Heap.lt_size c1), fun z => ?_, c5⟩
  rcases List.mem_cons.mp (J.stkSub p.1 z) with z | z
  · exact c3 z
  · exact c4 z
variable {Q : VK} {elt tg iter : Expr} {ifs : List Expr} {pos pos' : Pos} {wi : TI} {g : TG} {tt : TT} {te : TE} {use : Option (Value → Sem Unit)} {Qf : Value → Shared → Prop}
/-- what holds between two turns -/
def Mid (Xb : Cx) (τ : L2.St) (fp : List Addr) (tn : Nat → Heap → Prop) (M : Nat → Nat → Hp → Prop) (n : Nat) (z : Shared) : Prop := ∃ i Hz, Inv Xb [] τ Hz z ∧ tn i z.heap ∧ (∀ b ∈ fp, Hz b = none) ∧ M i n Hz
theorem fpBlk {Xb : Cx} {τ : L2.St} {Hz : Hp} {z : Shared} {tn : Nat → Heap → Prop} {i : Nat} (J : Inv Xb [] τ Hz z) (hx : Xb.ex = fp) (no : ∀ b ∈ fp, Hz b = none) (st : tn i z.heap)
    (np : ∀ p ∈ Xb.pn, p.1 ∉ fp) : ∀ b ∈ fp, FpOk Xb [] Hz b := fun b hb => by
  have hb' : b ∈ Xb.ex := by rw [hx]; exact hb
  obtain ⟨u1, u2⟩ := J.ok.exf b hb'
  exact ⟨no b hb, u1, J.ok.exfs b hb', Or.inl hb', fun x c e => u2 x c e, fun p hp z => np p (by simpa using hp) (z ▸ hb)⟩
theorem compHot (hot : L2H.HotC X) (nd : X.N.Nodup) (J : Inv X pins σ H s) (itr : L2H.PIH X tg iter wi) (bo : BlkOk X.N X.env.scope scope own)
    (tgs : ∀ s H C cl fp, PG (blkH X s H scope (compEnvC scope cl C X.env) fp) tg g) (tst : ∀ s H C cl fp, PTs (blkH X s H scope (compEnvC scope cl C X.env) fp) ifs tt)
    (el : ∀ s H C cl fp, PE (blkH X s H scope (compEnvC scope cl C X.env) fp) elt te) (fz : ∀ x, foldedSetIterable iter X.env x = pure x) (hw : tLc wi g tt te (own.map (·.2)) σ H Q)
    (back : ∀ D C z m Hz, Inv X pins σ Hz z → Q (.ref D) Hz → z.heap.Ns C m → FpOk X pins Hz C → compPost (model X.prog X.w) X.A X.xe use Qf (.ref D) C (.ok .next) z) :
    wpAny (model X.prog X.w) X.A (comprehension (.ListComp elt [⟨tg, iter, ifs, 0⟩] scope pos) scope X.env pos' (newList []) false (eval iter X.env) use) Qf X.xe s := by
  have fr : ∀ y ∈ scope.names, y.2 = .free → ∃ c, X.env.cells.lookup y.1 = some c := fun y hy e => by
    have := bo.free y hy e
    exact J.ok.has _ (this.imp id id)
  refine wpAny_comprehension_free (use := use) rfl fz (closure_ok fr) bo.kind (fun y hy e => by rw [bo.uniq y hy, e])
    (wpAny_mono (itr.run pins s σ H _ J hw) (fun _ _ h1 => wpAny_mono h1 (fun itv s2 h2 => ?_) fun _ _ z => z) fun _ _ z => z)
  obtain ⟨it, fp, tn, It, H2, rfl, J2, T, t2, f2, walk⟩ := h2
  refine wpAny_newObj_type (newEnv_comp ?_) (by show 0 ≤ sizeLine; decide)
  have J3 := J2.lnew (ys := []) (its := []) (t' := s2.toks) .nil (Nat.zero_le _)
  obtain ⟨M, ⟨m0, start⟩, turn⟩ := walk s2.heap.objs.size J2.fresh
  have young : ∀ b ∈ fp, b < s2.heap.objs.size := fun b hb => (T.obj _ _ t2 b hb).elim fun o h => Heap.lt_size h.1
  have npin : ∀ p ∈ X.pn, p.1 ∉ fp := fun p hp hb => (f2 _ hb).2.2.2.2.2 p (List.mem_append_left _ hp) rfl
  generalize hs3 : ({ s2 with heap := s2.heap.push { cls := .type "list", data := .seq ([] : List Value).toArray }, toks := s2.toks } : Shared) = s3 at J3
  have heap3 : s3.heap = s2.heap.push { cls := .type "list", data := .seq ([] : List Value).toArray } := by rw [← hs3]
  generalize hH3 : upd H2 s2.heap.objs.size (.lst []) = H3 at J3 start
  have f3 : ∀ b ∈ fp, FpOk X pins H3 b ∧ b < s3.heap.objs.size := fun b hb => by
    have lt := young b hb
    obtain ⟨q0, q1⟩ := f2 b hb
    rw [heap3, Heap.size_push, ← hH3]
    exact ⟨⟨(upd_ne (Nat.ne_of_lt lt)).trans q0, q1⟩, Nat.lt_succ_of_lt lt⟩
  have t3 : tn 0 s3.heap := T.keep _ _ _ t2 fun b _ o e => by rw [heap3]; exact Heap.get?_push_of_some _ e
  have J4 := startBlkH J3 bo nd f3
  generalize hs4 : ({ s3 with heap := pushCells (s3.heap.push { cls := .type "dict", data := .dict #[] }) scope.names } : Shared) = s4 at J4
  have t4 : tn 0 s4.heap := T.keep _ _ _ t3 fun b _ o e => by rw [← hs4]; exact pushCells_keeps _ _ _ _ (Heap.get?_push_of_some _ e)
  have pg := tgs s3 H3 s3.heap.objs.size (cellsFrom (s3.heap.objs.size + 1) scope.names (cloFrom X.env.cells scope.names [])) fp
  have pt := tst s3 H3 s3.heap.objs.size (cellsFrom (s3.heap.objs.size + 1) scope.names (cloFrom X.env.cells scope.names [])) fp
  have pe := el s3 H3 s3.heap.objs.size (cellsFrom (s3.heap.objs.size + 1) scope.names (cloFrom X.env.cells scope.names [])) fp
  generalize hce : compEnvC scope (cellsFrom (s3.heap.objs.size + 1) scope.names (cloFrom X.env.cells scope.names [])) s3.heap.objs.size X.env = ce at J4 pg pt pe
  have loc : ce.locals = s3.heap.objs.size := by rw [← hce]; rfl
  have hotB : L2H.HotC (blkH X s3 H3 scope ce fp) := hot
  have all : codeAny (model X.prog X.w) X.A (.compLoop (.ListComp elt [⟨tg, iter, ifs, 0⟩] scope pos) 0 (.ref it) (.ref s2.heap.objs.size) ce) (compPost (model X.prog X.w) X.A X.xe use Qf (.ref s2.heap.objs.size) s3.heap.objs.size) s4 := by
    refine compLoop_any (Mid (blkH X s3 H3 scope ce fp) (wipe σ (own.map (·.2))) fp tn M) ?_ m0 ⟨0, H3, J4, t4, fun b hb => (f3 b hb).1.1, start⟩
    rintro n z ⟨i, Hz, Jz, tz, nz, mz⟩
    have fz' := fpBlk (fp := fp) Jz rfl nz tz npin
    rcases turn i n Hz mz with ⟨stop, q⟩ | ⟨go, Nx, less, step⟩
    · refine thnF (T.done (blkH X s3 H3 scope ce fp) rfl rfl rfl hotB i [] z _ Hz (fun _ _ => False) Jz fz' tz stop) ?_
      rintro r z6 ⟨rfl, J6⟩
      have J7 : Inv X pins σ Hz z6 := J3.call' (ch := fp) J6.os J6.base J6.hok J6.bare fun b hb => by
        obtain ⟨_, w1, w2, w3, w4, w5⟩ := (f3 b hb).1
        exact ⟨w3, w1, w4, w5⟩
      obtain ⟨m, ns, _⟩ := J6.loc
      have cfree := J6.free
      rw [show (blkH X s3 H3 scope ce fp).env.locals = s3.heap.objs.size from loc] at ns cfree
      exact back _ _ z6 m Hz J7 q ns (J3.fpOk (Nat.le_refl _) cfree)
    · refine thnF (T.item (blkH X s3 H3 scope ce fp) rfl rfl rfl hotB i [] z _ Hz (fun _ _ => False) Jz fz' tz go) ?_
      rintro r z6 ⟨u, rfl, h6⟩
      refine thnF h6 ?_
      rintro _ z7 ⟨x, H7, J7, r7, y7, t7, n7⟩
      have P7 := J7.pinned (fpBlk (fp := fp) J7 rfl n7 t7 npin) (T.obj _ _ t7)
      refine thnF (pg.run _ z7 _ H7 x u _ P7 r7 (step x H7 y7)) ?_
      rintro _ z8 ⟨σ8, H8, J8, w8, q8⟩
      have again : ∀ {z' : Shared} {H' : Hp}, Inv (blkH X s3 H3 scope ce fp) ([] ++ pinsAt fp z7.heap) σ8 H' z' → Nx H' → ∃ m, m < n ∧ Mid (blkH X s3 H3 scope ce fp) (wipe σ (own.map (·.2))) fp tn M m z' := fun {z' H'} J' nx => by
        obtain ⟨m', lt, ok'⟩ := less H' nx
        have stay : ∀ b ∈ fp, ∀ o, z7.heap.get? b = some o → z'.heap.get? b = some o ∧ H' b = none := fun b hb o e => by
          obtain ⟨k1, k2, _⟩ := J'.pin (b, o) (List.mem_append_right _ (List.mem_append_right _ (mem_pinsAt hb e)))
          exact ⟨k1, k2⟩
        refine ⟨m', lt, i + 1, H', (J'.unpinned (pins := [])).weak (by rw [← w8, wipe_length]) (fun j v e => ?_), T.keep _ _ _ t7 fun b hb o e => (stay b hb o e).1, fun b hb => ?_, ok'⟩
        · exact (wipe_some (by rw [w8]; exact e)).1
        · obtain ⟨o, e, _⟩ := T.obj _ _ t7 b hb
          exact (stay b hb o e).2
      refine thnF (pt.run _ z8 σ8 H8 _ J8 q8) ?_
      rintro b z9 ⟨H9, J9, q9⟩
      cases b with
      | false => exact again J9 q9
      | true =>
        refine thnF (pe.run _ z9 σ8 H9 _ J9 q9) ?_
        rintro v z10 ⟨yv, H10, J10, r10, acc, l10, s10, nx⟩
        exact app_ok (X := blkH X s3 H3 scope ce fp) J10 l10 s10 r10 fun z11 J11 => again J11 nx
  subst hce
  exact codeAny_compStart_list all (T.self X.A 0 _ _ _ t4 all)
/-- [e for x in ..] there -/
theorem pe_lcH (hot : L2H.HotC X) (nd : X.N.Nodup) (itr : L2H.PIH X tg iter wi) (bo : BlkOk X.N X.env.scope scope own)
    (tgs : ∀ s H C cl fp, PG (blkH X s H scope (compEnvC scope cl C X.env) fp) tg g) (tst : ∀ s H C cl fp, PTs (blkH X s H scope (compEnvC scope cl C X.env) fp) ifs tt)
    (el : ∀ s H C cl fp, PE (blkH X s H scope (compEnvC scope cl C X.env) fp) elt te) (fz : ∀ x, foldedSetIterable iter X.env x = pure x := by intro _; rfl) :
    PE X (.ListComp elt [⟨tg, iter, ifs, 0⟩] scope pos) (tLc wi g tt te (own.map (·.2))) := ⟨fun pins s σ H Q J hw => by
  rw [eval_ListComp]
  refine compHot hot nd J itr bo tgs tst el fz hw ?_
  rintro D C z m Hz J' q ns ⟨w0, w1, w2, w3, w4, w5⟩
  exact ⟨m, ns, fun h'' sb => ⟨.ref D, Hz, J'.turned (t' := z.toks) (fun b o ne e => (sb.2 b ne).trans e) w0 w1 w3 w4 w5, rfl, q⟩⟩⟩
end
end DL
namespace DL
open PySem PySem.Spec PyProof.Rows L2 HotX
/-! ### a text walked where an error is handled -/
section
variable {prog : Program} {w : World} {A : Around} {E : Value → Shared → Prop} {s : Shared}
theorem hot_ne {x1 it : Addr} {o1 o2 : Obj} {v1 v2 : Array Value} {h : Heap} (h1 : h.get? x1 = some o1) (d1 : o1.data = .fields v1) (c1 : v1[2]? = some .none) (h2 : h.get? it = some o2) (d2 : o2.data = .fields v2) (c2 : v2.size = 2) : x1 ≠ it := fun z => by
  subst z
  rw [h1] at h2
  cases h2
  rw [d1] at d2
  cases d2
  rw [Array.getElem?_eq_none (by omega)] at c1
  cases c1
theorem asciiEndHot {it x1 : Addr} {x : Str} {t : Tok} {i : Nat} {Q : Option Value → Shared → Prop} (hot : HotAt A x1 s.heap) (hit : s.heap.IsStrIter it "str_ascii_iterator" x t i) (hx : x.cps[i]? = none)
    (hQ : ∀ h', Heap.ExtBut it s.heap h' → Q none { s with heap := h' }) : wpAny (model prog w) A (pyNext (.ref it)) Q E s := by
  have ty := hit.typeIs
  obtain ⟨o, ho, hc, hd⟩ := hit
  obtain ⟨hh, o1, vs1, h1, d1, c1⟩ := hot
  have ne : x1 ≠ it := hot_ne h1 d1 c1 ho hd rfl
  have keepX : ∀ {f : Obj → Obj}, (s.heap.update it f).get? x1 = some o1 := fun {f} => by rw [Heap.get?_update_other _ _ (Ne.symm ne)]; exact h1
  unfold pyNext
  refine wpAny_bind (wpAny_attempt (wpAny_callSpecial?_slot (name := Str.ofString "__next__") ty F.slot_str_ascii_iterator_next
    (wpAny_call_entry F.slot_str_ascii_iterator_next ty F.entry_str_ascii_iterator_next (?_ : wpAny _ _ (field (.ref it) 0 >>= _) _ _ s) (F.args_str_ascii_iterator_next_1 _))))
  refine wpAny_bind (wpAny_field ho hd (x := .str x t) rfl (?_ : wpAny _ _ (field (.ref it) 1 >>= _) _ _ s))
  refine wpAny_bind (wpAny_field ho hd (x := .int i 0) rfl ?_)
  simp only [Int.toNat_natCast, hx]
  refine wpAny_bind (wpAny_rule (wpAny_bind (wpAny_setField ho hd (by simp) (wpAny_bind (wpAny_letGo (?_ : wpAny _ _ (newExc (.type "StopIteration") [] >>= _) _ _ _))))))
  refine wpAny_bind ?_
  simp only [newExc, newTuple]
  refine wpAny_bind (wpAny_newObj_type ?_ (by size_fits))
  refine wpAny_bind (m := firstArgMember _ _) (wpAny_of_eq (a := Value.none) (by first | rfl | (simp only [firstArgMember]; rfl)) (wpAny_newObj_type ?_ (by size_fits)))
  refine raiseNew_hot ⟨hh, o1, vs1, Heap.get?_push_of_some _ (Heap.get?_push_of_some _ keepX), d1, c1⟩ (Nat.ne_of_lt (Heap.lt_size (Heap.get?_push_of_some _ keepX))) (Heap.get?_push_size _ rfl) rfl (by first | (simp; done) | (simp; omega)) ?_
  refine wpAny_bind (wpAny_isInstance (T := "StopIteration") (b := true) ⟨_, Heap.get?_update_self _ (Heap.get?_push_size _ rfl) rfl, rfl⟩ isSubtype_stop (wpAny_pure (hQ _ fun b ob hb e => ?_)))
  have kb : ∀ {f : Obj → Obj}, (s.heap.update it f).get? b = some ob := fun {f} => by rw [Heap.get?_update_other _ _ (Ne.symm hb)]; exact e
  exact (Heap.get?_update_other _ _ (Nat.ne_of_gt (Heap.lt_size (Heap.get?_push_of_some _ kb)))).trans (Heap.get?_push_of_some _ (Heap.get?_push_of_some _ kb))
theorem wideEndHot {it x1 : Addr} {x : Str} {t : Tok} {i : Nat} {Q : Option Value → Shared → Prop} (hot : HotAt A x1 s.heap) (hit : s.heap.IsStrIter it "str_iterator" x t i) (hx : x.cps[i]? = none)
    (hQ : ∀ h', Heap.ExtBut it s.heap h' → Q none { s with heap := h' }) : wpAny (model prog w) A (pyNext (.ref it)) Q E s := by
  have ty := hit.typeIs
  obtain ⟨o, ho, hc, hd⟩ := hit
  obtain ⟨hh, o1, vs1, h1, d1, c1⟩ := hot
  have ne : x1 ≠ it := hot_ne h1 d1 c1 ho hd rfl
  have keepX : ∀ {f : Obj → Obj}, (s.heap.update it f).get? x1 = some o1 := fun {f} => by rw [Heap.get?_update_other _ _ (Ne.symm ne)]; exact h1
  unfold pyNext
  refine wpAny_bind (wpAny_attempt (wpAny_callSpecial?_slot (name := Str.ofString "__next__") ty F.slot_str_iterator_next
    (wpAny_call_entry F.slot_str_iterator_next ty F.entry_str_iterator_next (?_ : wpAny _ _ (field (.ref it) 0 >>= _) _ _ s) (F.args_str_iterator_next_1 _))))
  refine wpAny_bind (wpAny_field ho hd (x := .str x t) rfl (?_ : wpAny _ _ (field (.ref it) 1 >>= _) _ _ s))
  refine wpAny_bind (wpAny_field ho hd (x := .int i 0) rfl ?_)
  simp only [Int.toNat_natCast, hx]
  refine wpAny_bind (wpAny_rule (wpAny_bind (wpAny_setField ho hd (by simp) (wpAny_bind (wpAny_letGo (?_ : wpAny _ _ (newExc (.type "StopIteration") [] >>= _) _ _ _))))))
  refine wpAny_bind ?_
  simp only [newExc, newTuple]
  refine wpAny_bind (wpAny_newObj_type ?_ (by size_fits))
  refine wpAny_bind (m := firstArgMember _ _) (wpAny_of_eq (a := Value.none) (by first | rfl | (simp only [firstArgMember]; rfl)) (wpAny_newObj_type ?_ (by size_fits)))
  refine raiseNew_hot ⟨hh, o1, vs1, Heap.get?_push_of_some _ (Heap.get?_push_of_some _ keepX), d1, c1⟩ (Nat.ne_of_lt (Heap.lt_size (Heap.get?_push_of_some _ keepX))) (Heap.get?_push_size _ rfl) rfl (by first | (simp; done) | (simp; omega)) ?_
  refine wpAny_bind (wpAny_isInstance (T := "StopIteration") (b := true) ⟨_, Heap.get?_update_self _ (Heap.get?_push_size _ rfl) rfl, rfl⟩ isSubtype_stop (wpAny_pure (hQ _ fun b ob hb e => ?_)))
  have kb : ∀ {f : Obj → Obj}, (s.heap.update it f).get? b = some ob := fun {f} => by rw [Heap.get?_update_other _ _ (Ne.symm hb)]; exact e
  exact (Heap.get?_update_other _ _ (Nat.ne_of_gt (Heap.lt_size (Heap.get?_push_of_some _ kb)))).trans (Heap.get?_push_of_some _ (Heap.get?_push_of_some _ kb))
end
theorem turn_strHot {P : Program} {w : World} {K : PySem.W.Frag} {tg : Expr} (it : Addr) (x : Str) (t : Tok) (ty : String) (hty : ty = "str_ascii_iterator" ∨ ty = "str_iterator") :
    L2H.TurnH P w K tg (Its x) [it] it (fun i h => h.IsStrIter it ty x t i) where
  mem := List.mem_singleton.mpr rfl
  obj := fun i h ⟨o, e, _, d⟩ b hb => by
    cases List.mem_singleton.mp hb
    refine ⟨o, e, fun v z => ?_⟩
    rw [d] at z
    cases z
  keep := fun i h h' ⟨o, e, q⟩ k => ⟨o, k it (List.mem_singleton.mpr rfl) o e, q⟩
  item := by
    rintro X rfl rfl rfl hot i pins s σ H E J hf st hg
    obtain ⟨f0, f1, f2, f3, f4, f5⟩ := hf it (List.mem_singleton.mpr rfl)
    obtain ⟨c, hc⟩ : ∃ c, x.cps[i]? = some c := ⟨_, Array.getElem?_eq_getElem hg⟩
    have fin : ∀ (h' : Heap), h'.IsStrIter it ty x t (i + 1) → Heap.SameBut it s.heap h' → ∃ u, some (Value.str ⟨#[c]⟩ s.toks) = some u ∧
      wpAny (model X.prog X.w) X.A (letOwnedTupleGo tg (.ref it) u) (fun _ s2 => ∃ x' H', Inv X pins σ H' s2 ∧ RelV x' u ∧ (Its x).yld i H x' H' ∧ s2.heap.IsStrIter it ty x t (i + 1) ∧ ∀ b ∈ [it], H' b = none) E { s with heap := h', toks := s.toks + 1 } := fun h' st' sb => by
      have no : ["enumerate", "zip", "dict_itemiterator", "dict_reverseitemiterator", "odict_iterator", "itertools.zip_longest", "itertools.pairwise"].contains ty = false := by rcases hty with e | e <;> subst e <;> decide
      have ok' := st'
      obtain ⟨o, e, cc, dd⟩ := ok'
      refine ⟨_, rfl, go_of (s := { s with heap := h', toks := s.toks + 1 }) e cc dd no ⟨.str ⟨#[c]⟩, H, J.turned (fun b o hb e => (sb.2 b hb).trans e) f0 f1 f3 f4 f5, ⟨_, rfl⟩, ⟨rfl, c, hc, rfl⟩, st', fun b hb => (hf b hb).1⟩⟩
    rcases hty with e | e <;> subst e
    · exact wpAny_pyNext_ascii_item st hc fin
    · exact wpAny_pyNext_wide_item st hc fin
  done := by
    rintro X rfl rfl rfl hot i pins s σ H E J hf st hg
    obtain ⟨f0, f1, f2, f3, f4, f5⟩ := hf it (List.mem_singleton.mpr rfl)
    have hx : x.cps[i]? = none := Array.getElem?_eq_none hg
    obtain ⟨x1, hx1⟩ := hot.at J
    have fin : ∀ h', Heap.ExtBut it s.heap h' → (none : Option Value) = none ∧ Inv X pins σ H { s with heap := h' } := fun h' eb => ⟨rfl, J.turned (t' := s.toks) (fun b o hb e => eb b o hb e) f0 f1 f3 f4 f5⟩
    rcases hty with e | e <;> subst e
    · exact asciiEndHot hx1 st hx fin
    · exact wideEndHot hx1 st hx fin
  self := fun A i s Q E st h => by
    rcases hty with e | e <;> subst e
    · exact wpAny_pyIter_striter_ascii st h
    · exact wpAny_pyIter_striter_wide st h
theorem one_iterH {X : Cx} {tg : Expr} {pins : List (Addr × Obj)} {σ : L2.St} {H : Hp} {s : Shared} {R : It → Hp → Prop} {J : It} {tn : Nat → Heap → Prop} {tk : Nat} (I : Inv X pins σ H s) (o : Obj)
    (T : L2H.TurnH X.prog X.w X.K tg J [s.heap.objs.size] s.heap.objs.size tn) (st : tn 0 (s.heap.push o)) (q : R J H) : L2H.PIEH X pins σ tg R (.ref s.heap.objs.size) { s with heap := s.heap.push o, toks := tk } :=
  ⟨_, _, tn, J, H, rfl, I.kept fun b ob e => Heap.get?_push_of_some _ e, T, st, fun b hb => by
    cases List.mem_singleton.mp hb
    exact I.fpOk (Nat.le_refl _) (I.hok.fresh (Nat.le_refl _)), q⟩
theorem pi_strH {X : Cx} {tg e : Expr} {te : TE} (he : PE X e te) : L2H.PIH X tg e (iStr te) := ⟨fun pins s σ H R I h => by
  refine thn (he.run pins s σ H _ I h) ?_
  rintro v s1 ⟨y, H1, I1, r1, x, rfl, q⟩
  obtain ⟨t, rfl⟩ := r1
  by_cases ha : x.cps.all (· < 128) = true
  · exact wpAny_pyIter_ascii ha (one_iterH (tk := s1.toks) I1 _ (turn_strHot _ x t _ (.inl rfl)) ⟨_, Heap.get?_push_size _ rfl, rfl, rfl⟩ q)
  · exact wpAny_pyIter_wide (by simpa using ha) (one_iterH (tk := s1.toks) I1 _ (turn_strHot _ x t _ (.inr rfl)) ⟨_, Heap.get?_push_size _ rfl, rfl, rfl⟩ q)⟩
end DL
namespace DL
open PySem PySem.Spec PyProof.Rows L2
section
variable {Xc : Cx} {K : PySem.W.Frag}
/-! ### rules whose reading names the model's fragment by itself (within a comprehension's block) -/
theorem opK {f : Value → Value → Sem Value} {r : PySem.W.Frag → R2} (hK : Xc.K = K) (h : OpR Xc f (r Xc.K)) : OpR Xc f (r K) := by subst hK; exact h
theorem crK {f : Value} {r : PySem.W.Frag → List V → Hp → VK → Prop} (hK : Xc.K = K) (h : CallR Xc f (r Xc.K)) : CallR Xc f (r K) := by subst hK; exact h
theorem ixK {r : PySem.W.Frag → R2} (hK : Xc.K = K) (h : IxR Xc (r Xc.K)) : IxR Xc (r K) := by subst hK; exact h
theorem slK {r : PySem.W.Frag → V → Option Int → Option Int → Hp → VK → Prop} (hK : Xc.K = K) (h : SlR Xc (r Xc.K)) : SlR Xc (r K) := by subst hK; exact h
/-! ### calls by name -/
structure KwB (K : PySem.W.Frag) (fd : FuncData) (ps : List Str) : Prop where
  to : ∀ (s : Shared) (ws : List Value), K.In s.heap → ws.length = ps.length → BindsTo s fd ⟨[], ps.zip ws⟩ (ps.zip ws)
variable {cx : CXT} {k : Nat} {f : Addr} {fd : FuncData} {ps : List Str} {sp : Sp} {E : L2.St → XK} {x : Str} {p pos : Pos} {t : TA} {kws : List Keyword}
theorem pe_gk (F : FnG Xc.prog Xc.w Xc.K Xc.mg Xc.base cx k f fd ps sp) (hr : Room k Xc.A) (hq : Quiet Xc.A) (hg : Gl Xc x) (hm : Xc.mg x = some (.ref f)) (hk : PySem.W.keepIn Xc.K (.ref f) = true) (hb : KwB Xc.K fd ps) (hx : ∀ σ, PassesAt cx Xc σ (E σ))
    (ha : PK Xc kws t) (hall : (backToKw pos (keywordEach kws Xc.env)).all (·.1.isSome) = true := by rfl) (hks : (backToKw pos (keywordEach kws Xc.env)).filterMap (·.1) = ps := by rfl)
    (hdb : (x == ("__debug__" : Str)) = false := by decide) (hpl : ((backTo pos (starEach [] Xc.env)).any (·.1) || (backToKw pos (keywordEach kws Xc.env)).any (·.1.isNone)) = false := by rfl) :
    PE Xc (.Call (.Name x p) [] kws pos) (tCallD sp [] E t) := ⟨fun pins s σ H Q I h => by
  refine wpAny_Call_Name_kw (ld_glob I hg hm ?_ hdb)
  refine PySem.W.callWith_KW0 (h₀ := Xc.base) I.ok.mod.kin hk hall (thn (ha.run pos pins s σ H _ I h) ?_) hpl
  rintro ws s2 ⟨zs, H2, I2, rz, q2⟩
  rw [List.append_nil] at q2
  refine ⟨I2.kIn, ?_⟩
  rw [hks]
  have n : ws.length = ps.length := rz.length.symm.trans (F.len _ _ _ _ q2)
  refine wpAny_call (codeAny_mono (F.go Xc.A Xc.stack s2 H2 ⟨[], ps.zip ws⟩ ws zs Q (E σ) hr hq I2.env0 (hb.to s2 ws I2.kIn n) rz q2) fun z s' hz => ?_)
  match z, hz with
  | .error er, hz => exact hx σ pins H2 s2 er s' I2 hz
  | .ok (.ret u), hz => exact I2.after hz
  | .ok .next, hz => exact hz.elim
  | .ok .brk, hz => exact hz.elim
  | .ok .cont, hz => exact hz.elim⟩
/-! ### repr -/
def rRepr (K : PySem.W.Frag) : List V → Hp → VK → Prop := fun xs H Q => (∃ v d, xs = [v] ∧ Dp K H v d ∧ d.showable = true ∧ d.hasDict = false ∧ d.depth ≤ 40 ∧ d.shown.length ≤ sizeLine ∧ Q (.str d.shown) H)
  ∨ ∃ (a : Addr) (kvs : List (Str × Str)), xs = [.ref a] ∧ H a = some (.dK (kvs.map fun p => (.inr p.1, .str p.2))) ∧ (PyData.dict (kvs.map fun p => (.str p.1, .str p.2))).shown.length ≤ sizeLine ∧ Q (.str (PyData.dict (kvs.map fun p => (.str p.1, .str p.2))).shown) H
theorem kv_reads {prog : Program} {w : World} {h : Heap} : ∀ {kvs : List (Str × Str)} {rs : List (Key × Value)} {es : List DictEntry}, KV (kvs.map fun p => ((.inr p.1 : Key), V.str p.2)) rs → Pairs (mixKind prog w) es rs →
    ReadsAll h (es.map (·.key)) (kvs.map fun p => PyData.str p.1) [] ∧ ReadsAll h (es.map (·.val)) (kvs.map fun p => PyData.str p.2) []
  | [], _, _, r, q => by cases r; cases q; exact ⟨.nil, .nil⟩
  | p :: kvs, _, _, r, q => by
    cases r with
    | cons r1 r2 =>
      cases q with
      | cons q1 q2 q3 =>
        obtain ⟨i1, i2⟩ := kv_reads r2 q3
        obtain ⟨e1, tk, e2⟩ := r1
        rw [← e1] at q1
        have q1' : keyIs (.inr p.1) _ = true := q1
        rcases keyIs_shape q1' with ⟨i, t, z, _⟩ | ⟨y, t, z, ez⟩
        · cases z
        · cases z
          refine ⟨?_, ?_⟩
          · rw [List.map_cons, List.map_cons, ez]; exact ReadsAll.cons (as := []) (.str _ _) i1
          · rw [List.map_cons, List.map_cons, q2, e2]; exact ReadsAll.cons (as := []) (.str _ _) i2
theorem shownL_le : ∀ (kvs : List (Str × Str)), (PyData.dict (kvs.map fun p => (PyData.str p.1, PyData.str p.2))).showable = true := fun kvs => by
  show PyData.showableKv _ = true
  induction kvs with
  | nil => rfl
  | cons p kvs ih => show (true && true && PyData.showableKv _) = true; rw [ih]; rfl
theorem depthL_le : ∀ (kvs : List (Str × Str)), PyData.depthKv (kvs.map fun p => (PyData.str p.1, PyData.str p.2)) ≤ 1 := fun kvs => by
  induction kvs with
  | nil => simp [PyData.depthKv]
  | cons p kvs ih => simp only [List.map_cons, PyData.depthKv, PyData.depth]; omega
theorem call_repr (hq : Quiet Xc.A) (hu : Xc.A.units + 64 < cLine) : CallR Xc (.builtin "repr") (rRepr Xc.K) := by
  intro pins s σ H xs us Q I r h
  rcases h with ⟨v, d, rfl, hd, hs, hn, dp, hl, q⟩ | ⟨a, kvs, rfl, hH, hl, q⟩
  · cases r with
    | cons r1 rr =>
      cases rr
      obtain ⟨as, rd⟩ := Dp.reads I d v _ hd r1
      have fin : ∀ (h' : Heap) (u tk : Nat), (∀ b o, s.heap.get? b = some o → h'.get? b = some o) → EP Xc pins σ Q (.str d.shown u) { s with heap := h', toks := tk } := fun h' u tk hk => ⟨.str d.shown, H, I.kept (t' := tk) hk, ⟨u, rfl⟩, q⟩
      have fin1 : ∀ u tk, EP Xc pins σ Q (.str d.shown u) { s with toks := tk } := fun u tk => fin s.heap u tk fun _ _ e => e
      cases rd with
      | none => exact PySem.P.repr_of_none (fin1 _ _)
      | bool b => exact PySem.P.repr_of_bool (fin1 _ _)
      | int i t => exact PySem.P.repr_of_int (by simpa [PyData.showable] using hs) (fin1 _ _)
      | str x t => exact PySem.P.repr_of_str (fin1 _ _) hl
      | list h1 h2 h3 h4 => exact repr_of_reads' (.list h1 h2 h3 h4) hs (PyData.noDict_hsm hn) hq.g (by omega) (fun _ _ e => e) fin hl
      | tuple h1 h2 h3 h4 => exact repr_of_reads' (.tuple h1 h2 h3 h4) hs (PyData.noDict_hsm hn) hq.g (by omega) (fun _ _ e => e) fin hl
      | dict h1 h2 h3 h4 h5 => simp [PyData.hasDict] at hn
  · cases r with
    | cons r1 rr =>
      cases rr; cases r1
      obtain ⟨_, hsys, vs, hkv, o, es, ep, h1, h2, h3, _, h5, _⟩ := dk_of I.hok hH
      obtain ⟨q1, q2⟩ := kv_reads (h := s.heap) hkv h5
      have rd : Reads s.heap (.ref a) (.dict (kvs.map fun p => (PyData.str p.1, PyData.str p.2))) (a :: [] ++ []) := by
        refine .dict h1 h2.1 h3 ?_ ?_
        · rw [List.map_map]; exact q1
        · rw [List.map_map]; exact q2
      refine repr_of_reads' rd (shownL_le kvs) (fun _ => ?_) hq.g ?_ (fun _ _ e => e) (fun h' u tk hk => ⟨.str _, H, I.kept (t' := tk) hk, ⟨u, rfl⟩, q⟩) hl
      · simp only [List.append_nil, List.mem_singleton]
        intro z
        rw [← z] at hsys
        simp at hsys
      · have := depthL_le kvs
        simp only [PyData.depth]
        omega
end
end DL
namespace DL
open PySem PySem.Spec PyProof.Rows L2
section
variable {K : PySem.W.Frag} {ms : Ms} {P : Dat → Ms → Prop} {R : WX} {e : Ev} {X : XP} {ta ti te tk tv : TE} {tA : TA} {O : Out}
/-- a datum, or a list that may change, as plain data -/
def PyV (ms : Ms) (d : Dat) (p : PyData) : Prop := PyD d p ∨ ∃ k xs ys, d = .cell k ∧ ms[k]? = some (.lst xs) ∧ PyDL xs ys ∧ p = .list ys
theorem PyV.dp {W : Wd} {G H : Hp} {v : V} {d : Dat} {p : PyData} (g : Good K W G H ms) (h : PyV ms d p) (r : Rep K W v d) : Dp K H v p := by
  rcases h with h | ⟨k, xs, ys, rfl, hm, h, rfl⟩
  · exact dp_of g.fz h v r
  · cases r with
    | cell e =>
      obtain ⟨vs, e1, r1⟩ := (show MoOk K W H _ (.lst xs) from g.cl _ _ _ e hm)
      exact .lst (SqL.of e1) (dpl_of g.fz h _ r1)
/-- what repr can be asked of -/
structure Shows (p : PyData) : Prop where
  s : p.showable = true
  n : p.hasDict = false
  d : p.depth ≤ 40
  l : p.shown.length ≤ 1000000
theorem dr_repr {d : Dat} {p : PyData} (h : PyV ms d p) (s : Shows p) (q : P (.str p.shown) ms) : DR K (rRepr K) [d] ms P := fun W G H vs Q g r k => by
  cases r with
  | cons r1 rr =>
    cases rr
    exact .inl ⟨_, p, rfl, h.dp g r1, s.s, s.n, s.d, size_of s.l, k W _ _ H ms (Le.refl W) g (.str _) q⟩
def dctS (kvs : List (Str × Str)) : Dat := .dct (kvs.map fun p => (.inr p.1, .str p.2))
theorem repK_str {W : Wd} : ∀ {vs : List (Key × V)} {kvs : List (Str × Str)}, RepK K W vs (kvs.map fun p => ((.inr p.1 : Key), Dat.str p.2)) → vs = kvs.map fun p => ((.inr p.1 : Key), V.str p.2)
  | _, [], h => by cases h; rfl
  | _, p :: kvs, h => by
    cases h with
    | cons a b => cases a; rw [repK_str b]; rfl
def shownS (kvs : List (Str × Str)) : Str := (PyData.dict (kvs.map fun p => (.str p.1, .str p.2))).shown
theorem dr_reprD {kvs : List (Str × Str)} (hl : (shownS kvs).length ≤ 1000000) (q : P (.str (shownS kvs)) ms) : DR K (rRepr K) [dctS kvs] ms P := fun W G H vs Q g r k => by
  cases r with
  | cons r1 rr =>
    cases rr
    cases r1 with
    | dct e r2 =>
      rw [repK_str r2] at e
      exact .inr ⟨_, kvs, rfl, g.fz _ _ e, size_of hl, k W _ _ H ms (Le.refl W) g (.str _) q⟩
/-! ### {}, {k: v} -/
theorem de_dnew (q : P (.dct []) ms) : DE K R tDNewK e ms P X := fun W G σ H Q g s k _ p hp => by
  obtain ⟨g2, l2⟩ := g.laid (o := .dK []) hp
  exact k _ _ _ _ _ l2 g2 (.dct upd_same .nil) q
theorem de_disp1 (h : DE K R tk e ms (fun a m => ∃ z, a = .str z ∧ DE K R tv e m (fun b m2 => P (.dct [(.inr z, b)]) m2) X) X) : DE K R (tDisp [(tk, tv)]) e ms P X := fun W G σ H Q g s k x p hp => by
  have g1 := g.hold (o := .dK []) hp
  have gp : G p = none := g.gd.free hp
  refine h W (upd G p (.dK [])) σ (upd H p (.dK [])) _ g1 s (fun W1 v d H1 m1 l1 g2 r1 ⟨z, hz, h1⟩ => ?_) ?_
  · subst hz
    cases r1
    refine h1 W1 _ σ H1 _ g2 (s.mono l1) (fun W2 u d H2 m2 l2 g3 r2 q => ?_) ?_
    · refine ⟨g3.gd p _ upd_same, [(.inr z, u)], rfl, Nat.le_add_left 1 14, ?_⟩
      have g4 := g3.held (.dK [(.inr z, u)])
      obtain ⟨g5, l5⟩ := g4.frozen gp
      exact k _ _ _ _ _ (l1.trans (l2.trans l5)) g5 (.dct upd_same (.cons (Rep.mono l5 _ _ r2) .nil)) q
    · intro W' C dd fs ds H' ms' l' g' f r xx
      exact x W' C dd fs ds H' ms' (l1.trans l') (g'.weakG (same_new gp)) f r xx
  · intro W' C dd fs ds H' ms' l' g' f r xx
    exact x W' C dd fs ds H' ms' l' (g'.weakG (same_new gp)) f r xx
/-! ### lists that change -/
theorem dr_listC {x : Dat} {xs : List Dat} (s : SeqV ms x xs) (q : P (.cell ms.length) (ms ++ [.lst xs])) :
    DR K (fun vs H Q => ∃ p ys, vs = [V.ref p] ∧ (SqL K H p ys ∨ SqT K H p ys) ∧ ∀ l, H l = none → Q (.ref l) (upd H l (.lst ys))) [x] ms P := fun W G H vs Q g r k => by
  cases r with
  | cons r1 rr =>
    cases rr
    obtain ⟨a, us, rfl, hq, rl⟩ := seq_rep g r1 s
    refine ⟨a, us, rfl, hq, fun l hl => ?_⟩
    have l2 : Le W ⟨W.ι ++ [l], W.F⟩ := ⟨List.prefix_append _ _, Same.refl _⟩
    obtain ⟨g2, _⟩ := g.newC (p := l) (o := .lst us) hl (m := .lst xs) ⟨us, upd_same, RepL.mono l2 _ _ rl⟩
    exact k _ _ _ _ _ l2 g2 (.cell (by show (W.ι ++ [l])[ms.length]? = some l; rw [← g.ln]; simp)) q
theorem tyD_cell {k : Nat} {xs : List Dat} (h : ms[k]? = some (.lst xs)) : TyD K "list" (.cell k) ms := fun W G H v g r => by
  cases r with
  | cell e =>
    obtain ⟨vs, e1, _⟩ := (show MoOk K W H _ (.lst xs) from g.cl _ _ _ e h)
    exact .inl ⟨rfl, vs, SqL.of e1⟩
theorem dr_append {k : Nat} {xs : List Dat} {y : Dat} (h : ms[k]? = some (.lst xs)) (hl : xs.length < 1000000) (q : P .non (ms.set k (.lst (xs ++ [y])))) :
    DR K (fun vs => match vs with | v :: ws => rAppend v ws | [] => fun _ _ => False) [.cell k, y] ms P := fun W G H vs Q g r kk => by
  cases r with
  | cons r1 rr => cases rr with
    | cons r2 rr =>
      cases rr
      cases r1 with
      | cell e =>
        obtain ⟨us, e1, rl⟩ := (show MoOk K W H _ (.lst xs) from g.cl _ _ _ e h)
        refine ⟨_, us, _, rfl, rfl, e1, by rw [rl.length]; exact Nat.lt_of_lt_of_le hl (by decide), ?_⟩
        exact kk W _ _ _ _ (Le.refl W) (g.setC e (o := .lst (us ++ [_])) (m := .lst (xs ++ [y])) ⟨_, upd_same, RepL.append rl r2⟩) .non q
/-- o[i] = d of a list that may change -/
theorem repL_set {W : Wd} : ∀ {vs : List V} {ds : List Dat}, RepL K W vs ds → ∀ {v : V} {d : Dat}, Rep K W v d → ∀ (i : Nat), RepL K W (vs.set i v) (ds.set i d)
  | _, [], h, v, d, r, i => by cases h; exact .nil
  | _, _ :: _, h, v, d, r, 0 => by cases h with | cons a b => exact .cons r b
  | _, _ :: _, h, v, d, r, i + 1 => by cases h with | cons a b => exact .cons a (repL_set b r i)
/-- o[i] = d, the list's place known -/
def SubTo (ms : Ms) (k : Nat) (i d : Dat) (Q : Ms → Prop) : Prop := ∃ z j xs, i = .int z ∧ ms[k]? = some (.lst xs) ∧ ixN xs.length z = some j ∧ Q (ms.set k (.lst (xs.set j d)))
theorem sub_to {k : Nat} {xs : List Dat} {z : Int} {j : Nat} {d : Dat} {Q : Ms → Prop} (hk : ms[k]? = some (.lst xs)) (hj : ixN xs.length z = some j) (q : Q (ms.set k (.lst (xs.set j d)))) : SubTo ms k (.int z) d Q := ⟨z, j, xs, rfl, hk, hj, q⟩
theorem dg_sub {d : Dat} {vs : List Nat} {PE : Ev → Ms → Prop} (h : DE K (fun _ _ _ _ => False) ta e ms (fun o m => ∃ k, o = .cell k ∧ DE K (fun _ _ _ _ => False) ti e m (fun i m2 => SubTo m2 k i d (PE e)) (fun _ _ _ => False)) (fun _ _ _ => False)) :
    DG K (gSub ta ti rSetL) d e ms vs PE := fun W G σ H v Q g s r k => by
  refine h W G σ H _ g s (fun W1 o do' H1 m1 l1 g1 r1 ⟨kk, hk, h1⟩ => ?_) (fun _ _ _ _ _ _ _ _ _ _ _ z => z.elim)
  subst hk
  refine h1 W1 G σ H1 _ g1 (s.mono l1) (fun W2 i di H2 m2 l2 g2 r2 ⟨z, j, xs, hz, hm, hj, q⟩ => ?_) (fun _ _ _ _ _ _ _ _ _ _ _ z => z.elim)
  subst hz
  cases r2
  have rc := Rep.mono l2 _ _ r1
  cases rc with
  | cell e2 =>
    obtain ⟨us, e3, rl⟩ := (show MoOk K W2 H2 _ (.lst xs) from g2.cl _ _ _ e2 hm)
    refine ⟨_, us, z, j, rfl, rfl, e3, by rw [rl.length]; exact hj, ?_⟩
    refine k W2 σ e _ _ (l1.trans l2) (g2.setC e2 (o := .lst (us.set j v)) (m := .lst (xs.set j d)) ⟨_, upd_same, repL_set rl (Rep.mono (l1.trans l2) _ _ r) j⟩) (s.mono (l1.trans l2)) ⟨rfl, fun _ _ => rfl⟩ q
end
end DL
namespace DL
open PySem PySem.Spec PyProof.Rows L2
/-! ### small texts of plain signs -/
structure Sm (n : Nat) (z : Str) : Prop where
  len : z.length ≤ n
  sig : ∀ c ∈ z.cps.toList, c < 128
theorem strLen (z : Str) : z.length = z.cps.toList.length := by simp [Str.length]
theorem Sm.mono {n m : Nat} {z : Str} (h : Sm n z) (l : n ≤ m) : Sm m z := ⟨Nat.le_trans h.len l, h.sig⟩
theorem cps_app (a b : Str) : (a ++ b).cps.toList = a.cps.toList ++ b.cps.toList := TL.tl_append a b
theorem Sm.app {n m : Nat} {a b : Str} (h : Sm n a) (h' : Sm m b) : Sm (n + m) (a ++ b) := ⟨by
  rw [strLen, cps_app, List.length_append, ← strLen, ← strLen]; exact Nat.add_le_add h.len h'.len, fun c hc => by
  rw [cps_app] at hc
  rcases List.mem_append.mp hc with z | z
  · exact h.sig c z
  · exact h'.sig c z⟩
theorem Sm.cut {n : Nat} {a : Str} (h : Sm n a) (lo hi : Option Int) : Sm n (cutS a lo hi) := ⟨Nat.le_trans (cutS_length a lo hi) h.len, fun c hc => by
  unfold cutS at hc
  exact h.sig c (List.mem_of_mem_drop (List.mem_of_mem_take (by simpa using hc)))⟩
theorem Sm.lit {n : Nat} {z : Str} (h : (decide (z.length ≤ n) && z.cps.toList.all fun c => decide (c < 128)) = true) : Sm n z := by
  simp only [Bool.and_eq_true, decide_eq_true_eq, List.all_eq_true] at h
  exact ⟨h.1, fun c hc => by simpa using h.2 c hc⟩
theorem joinL_nil : ∀ (ls : List (List Nat)), TL.joinL [] ls = ls.flatten
  | [] => rfl
  | [a] => by simp [TL.joinL]
  | a :: b :: r => by rw [TL.joinL, joinL_nil (b :: r)]; simp
theorem join_cps {y : Str} (hy : y.cps.toList = []) (ls : List Str) : (Txt.join y ls).cps.toList = (ls.map fun z => z.cps.toList).flatten := by
  rw [TL.join_eq]
  have := TL.tl_join y ls
  rw [show TL.tl y = [] from hy, joinL_nil] at this
  exact this
theorem Sm.join {y : Str} (hy : y.cps.toList = []) (cs : List Nat) (h : ∀ c ∈ cs, c < 128) : Sm cs.length (Txt.join y (cs.map sign1)) := by
  have e : (Txt.join y (cs.map sign1)).cps.toList = cs := by
    rw [join_cps hy, List.map_map]
    induction cs with
    | nil => rfl
    | cons c cs ih =>
      rw [List.map_cons, List.flatten_cons, ih (fun d hd => h d (List.mem_cons_of_mem _ hd))]
      rfl
  exact ⟨by rw [strLen, e]; exact Nat.le_refl _, by rw [e]; exact h⟩
theorem Sm.nil : Sm 0 Str.empty := Sm.lit (by decide +kernel)
theorem Sm.sign {c : Nat} (h : c < 128) : Sm 1 (sign1 c) := ⟨Nat.le_refl _, fun d hd => by
  cases List.mem_singleton.mp (show d ∈ [c] from hd)
  exact h⟩
section
variable {K : PySem.W.Frag} {ms : Ms} {P : Dat → Ms → Prop}
theorem d2_addSm {a b : Str} {n m : Nat} (h : Sm n a) (h' : Sm m b) (hl : n + m ≤ 1000000) (q : Sm (n + m) (a ++ b) → P (.str (a ++ b)) ms) : D2 K rAddA (.str a) (.str b) ms P :=
  d2_addS (Nat.le_trans (Nat.add_le_add h.len h'.len) hl) (q (h.app h'))
theorem dsl_Sm {z : Str} {n : Nat} {lo hi : Option Int} (h : Sm n z) (hn : n ≤ 1000000) (q : Sm n (cutS z lo hi) → P (.str (cutS z lo hi)) ms) : DSl K (.str z) lo hi ms P := dsl_str (Nat.le_trans h.len hn) (q (h.cut lo hi))
theorem atI_map {α β : Type} (f : α → β) {l : List α} {k : Int} (h0 : 0 ≤ k) (h1 : k < l.length) : ∃ a ∈ l, atI (l.map f) k = some (f a) := by
  obtain ⟨n, rfl⟩ := Int.eq_ofNat_of_zero_le h0
  have hn : n < l.length := by omega
  refine ⟨l[n], List.getElem_mem hn, ?_⟩
  unfold atI ixN
  simp [hn]
theorem d2_ixM {α : Type} {f : α → Dat} {x : Dat} {vs : List α} {i : Int} (s : SeqV ms x (vs.map f)) (h0 : 0 ≤ i) (h1 : i < vs.length) (q : ∀ v ∈ vs, P (f v) ms) : D2 K (rIx K) x (.int i) ms P := by
  obtain ⟨a, ha, e⟩ := atI_map f h0 h1
  exact d2_ix s e (q a ha)
end
/-! ### the box of numbers that a law draws from -/
structure BoxOk (n : Nat) (xs : List Dat) : Prop where
  is : ∃ (a m c : Int) (b : Bool), xs = [.int a, .bl b, .int m, .int c] ∧ 0 ≤ a ∧ 0 ≤ m ∧ m < 2147483629 ∧ 0 ≤ c ∧ c ≤ n
theorem BoxOk.mono {n m : Nat} {xs : List Dat} (h : BoxOk n xs) (l : n ≤ m) : BoxOk m xs := by
  obtain ⟨a, m', c, b, e, h1, h2, h3, h4, h5⟩ := h.is
  exact ⟨a, m', c, b, e, h1, h2, h3, h4, by omega⟩
theorem log_le {n : Nat} {b : Nat} (h : n ≤ b) : n.log2 ≤ b := Nat.le_trans (Nat.log2_le_self n) h
theorem log64 {n : Nat} (h : n < 18446744073709551616) : n.log2 < 64 := by
  by_cases hn : n = 0
  · subst hn; decide
  · exact (Nat.log2_lt hn).mpr (by show n < 2 ^ 64; exact h)
theorem mul_ok {i j : Int} (h : i.natAbs < 18446744073709551616) (h' : j.natAbs < 18446744073709551616) : i.natAbs.log2 + j.natAbs.log2 < 1000000 := by
  have := log64 h
  have := log64 h'
  omega
theorem div_ok {j : Int} (h0 : 0 < j) (h : j.natAbs < 18446744073709551616) : 0 < j ∧ j.natAbs.log2 < 9000 := ⟨h0, by have := log64 h; omega⟩
theorem pow_ok {i j : Int} (h0 : 0 ≤ j) (h1 : j ≤ 1000000) (h : i.natAbs < 18446744073709551616) : 0 ≤ j ∧ j ≤ 1000000 ∧ i.natAbs < 2 ^ 64 := ⟨h0, h1, h⟩
def sub3 (xs : List Dat) (v : Int) : List Dat := xs.set 3 (.int v)
theorem ms_self {ms : Ms} {k : Nat} {m : MO} (h : ms[k]? = some m) : ms.set k m = ms := by
  obtain ⟨l, e⟩ := List.getElem?_eq_some_iff.mp h
  rw [← e]
  exact List.set_getElem_self l
theorem atI_nat {α : Type} {l : List α} {n : Nat} (h : n < l.length) : atI l (n : Int) = some l[n] := by
  unfold atI ixN
  have h1 : (n : Int) < l.length := by omega
  rw [if_pos (by omega), if_pos h1]
  simp [h]
theorem set_same {ms : Ms} {k : Nat} {m : MO} (h : k < ms.length) : (ms.set k m)[k]? = some m := List.getElem?_set_self h
theorem ms_lt {ms : Ms} {k : Nat} {m : MO} (h : ms[k]? = some m) : k < ms.length := (List.getElem?_eq_some_iff.mp h).1
end DL
namespace DL
open PySem PySem.Spec PyProof.Rows L2
theorem strOk_of {z : Str} (h : ∀ c ∈ z.cps.toList, c < 128) : PyData.strOk z = true := by
  unfold PyData.strOk
  rw [← Array.all_toList, List.all_eq_true]
  intro c hc
  have := h c hc
  simp
  omega
section
variable {K : PySem.W.Frag} {ms : Ms} {P : Dat → Ms → Prop}
theorem pydl_str : ∀ (cs : List Str), PyDL (cs.map Dat.str) (cs.map PyData.str)
  | [] => .nil
  | c :: cs => .cons (.str c) (pydl_str cs)
theorem pydl_int : ∀ (cs : List Int), PyDL (cs.map Dat.int) (cs.map PyData.int)
  | [] => .nil
  | c :: cs => .cons (.int c) (pydl_int cs)
theorem lay_str : ∀ {cs : List Str}, (∀ z ∈ cs, ∀ c ∈ z.cps.toList, c < 128) → PyData.canLayAll0 (cs.map PyData.str) = true
  | [], _ => rfl
  | z :: cs, h => by
    show (PyData.strOk z && PyData.canLayAll0 _) = true
    rw [strOk_of (h z List.mem_cons_self), lay_str (fun z hz => h z (List.mem_cons_of_mem _ hz))]; rfl
theorem dep_str : ∀ (cs : List Str), PyData.depthAll (cs.map PyData.str) ≤ 1
  | [] => by simp [PyData.depthAll]
  | z :: cs => by have := dep_str cs; simp only [List.map_cons, PyData.depthAll, PyData.depth]; omega
theorem lay_int : ∀ (cs : List Int), PyData.canLayAll0 (cs.map PyData.int) = true
  | [] => rfl
  | z :: cs => by show (true && PyData.canLayAll0 _) = true; rw [lay_int cs]; rfl
theorem dep_int : ∀ (cs : List Int), PyData.depthAll (cs.map PyData.int) ≤ 1
  | [] => by simp [PyData.depthAll]
  | z :: cs => by have := dep_int cs; simp only [List.map_cons, PyData.depthAll, PyData.depth]; omega
theorem shaped_strs {cs : List Str} (h : ∀ z ∈ cs, ∀ c ∈ z.cps.toList, c < 128) : SeqAt.shaped (.list (cs.map PyData.str)) = true := by
  have := dep_str cs
  unfold SeqAt.shaped
  simp only [PyData.canLay0, lay_str h, PyData.depth, Bool.true_and, decide_eq_true_eq]
  exact decide_eq_true (by omega)
theorem shaped_ints (cs : List Int) : SeqAt.shaped (.list (cs.map PyData.int)) = true := by
  have := dep_int cs
  unfold SeqAt.shaped
  simp only [PyData.canLay0, lay_int cs, PyData.depth, Bool.true_and, decide_eq_true_eq]
  exact decide_eq_true (by omega)
theorem shaped_tups {cs : List Str} (h : ∀ z ∈ cs, ∀ c ∈ z.cps.toList, c < 128) : SeqAt.shaped (.tuple (cs.map PyData.str)) = true := by
  have := dep_str cs
  unfold SeqAt.shaped
  simp only [PyData.canLay0, lay_str h, PyData.depth, Bool.true_and, decide_eq_true_eq]
  exact decide_eq_true (by omega)
/-- a list of texts == [] -/
theorem d2_eqNilS {xs : List Dat} {cs : List Str} (e : xs = cs.map Dat.str) (h : ∀ z ∈ cs, ∀ c ∈ z.cps.toList, c < 128) (q : P (.bl cs.isEmpty) ms) : D2 K (rEqA K) (.lst xs) (.lst []) ms P := by
  subst e
  refine d2_eqD (.lst (pydl_str cs)) (.lst .nil) (shaped_strs h) (by decide +kernel) ?_
  have e : PyData.eqv (.list (cs.map PyData.str)) (.list []) = cs.isEmpty := by cases cs <;> simp [PyData.eqv, PyData.eqvAll]
  rw [e]; exact q
theorem d2_eqNilI {xs : List Dat} {cs : List Int} (e : xs = cs.map Dat.int) (q : P (.bl cs.isEmpty) ms) : D2 K (rEqA K) (.lst xs) (.lst []) ms P := by
  subst e
  refine d2_eqD (.lst (pydl_int cs)) (.lst .nil) (shaped_ints cs) (by decide +kernel) ?_
  have e : PyData.eqv (.list (cs.map PyData.int)) (.list []) = cs.isEmpty := by cases cs <;> simp [PyData.eqv, PyData.eqvAll]
  rw [e]; exact q
theorem eqvT (a b c d : Str) : PyData.eqv (.tuple [.str a, .str b]) (.tuple [.str c, .str d]) = (a == c && b == d) := by simp [PyData.eqv, PyData.eqvAll]
theorem d2_eqT {a b c d : Str} (h : ∀ z ∈ [a, b], ∀ c ∈ z.cps.toList, c < 128) (h' : ∀ z ∈ [c, d], ∀ c ∈ z.cps.toList, c < 128) (q : P (.bl (a == c && b == d)) ms) : D2 K (rEqA K) (.tup [.str a, .str b]) (.tup [.str c, .str d]) ms P := by
  refine d2_eqD (p := .tuple [.str a, .str b]) (p' := .tuple [.str c, .str d]) (.tup (pydl_str [a, b])) (.tup (pydl_str [c, d])) (shaped_tups h) (shaped_tups h') ?_
  rw [eqvT]; exact q
theorem d2_neT {a b c d : Str} (h : ∀ z ∈ [a, b], ∀ c ∈ z.cps.toList, c < 128) (h' : ∀ z ∈ [c, d], ∀ c ∈ z.cps.toList, c < 128) (q : P (.bl (!(a == c && b == d))) ms) : D2 K (rNeA K) (.tup [.str a, .str b]) (.tup [.str c, .str d]) ms P := by
  refine d2_neD (p := .tuple [.str a, .str b]) (p' := .tuple [.str c, .str d]) (.tup (pydl_str [a, b])) (.tup (pydl_str [c, d])) (shaped_tups h) (shaped_tups h') ?_
  rw [eqvT]; exact q
end
theorem mtA_append {X : Cx} : MtR X "list.append" rAppend := mt_append
theorem pe_bmK {X : Cx} {K : PySem.W.Frag} {T id : String} {name : Str} {r : V → List V → Hp → VK → Prop} {o e : Expr} {es : List Expr} {to : TE} {t : TA} {apos cpos : Pos} (hK : X.K = K) (pa : PlainAttrs T) (slot : Slot T name id) (hty : typeOf (.builtin id) = pure (.type "method_descriptor")) (hm : MtR X id r) (ho : PE X o to) (ha : PA X (e :: es) t)
    (hbase : attributeBase o name X.env (eval o X.env) = eval o X.env := by rfl)
    (hfew : ((backTo cpos (starEach (e :: es) X.env)).all (fun x => !x.1) && (backToKw cpos (keywordEach [] X.env)).all (fun x => x.1.isSome) && decide ((e :: es).length + ([] : List Keyword).length + (if ([] : List Keyword).isEmpty then 0 else 1) < 30)) = true := by rfl)
    (hline : (apos.endLine == cpos.line) = true := by rfl) (hs : starEach (e :: es) X.env = (false, eval e X.env) :: starEach es X.env := by rfl) (hplain : (backTo cpos (starEach es X.env)).any (·.1) = false := by rfl) :
    PE X (.Call (.Attribute o name apos) (e :: es) [] cpos) (tBM K T r to t) := by
  subst hK
  exact pe_bm pa slot hty hm ho ha hbase hfew hline hs hplain
/-! ### except suites -/
def tTry (K : PySem.W.Frag) (c : Value) (i : Nat) (tb : WX → TS) (ts : Addr → Value → Option Addr → TS) (R : WX) : TS := fun D σ H => tb (wAs K c i ts R D) D σ H
theorem ps_tryK {X : Cx} {K : PySem.W.Frag} {x n : Str} {c : Value} {i : Nat} {body suite : List Stmt} {b₀ : Stmt} {np pos pos' : Pos} {tb : WX → TS} {ts : Addr → Value → Option Addr → TS} {Wout : WX} (hK : X.K = K)
    (hs : X.stack = X.env :: X.outer) (hf : X.env.frame = some X.env.locals) (hN : X.N.Nodup) (hi : X.N[i]? = some n) (hln : X.env.kindOf n = some .local) (hc : Names X x c) (tk : L2N.Takes X Wout)
    (hb : ∀ (W : WX) (pn : List (Addr × Obj)) (xe : Value → Shared → Prop), L2N.Takes (X.tr pn xe) W → PassesOwn (model X.prog X.w) X.A X.env xe → PSs (X.tr pn xe) body (tb W))
    (hsu : ∀ (a : Addr) (oe : Obj) (cls : Value) (d : Option Addr) (pn : List (Addr × Obj)), L2N.Zn cls d oe → (∃ vs, oe.data = .fields vs) → PSs (X.suite a ((a, oe) :: pn)) (b₀ :: suite) (ts a cls d)) :
    PS X (.Try body [.ExceptHandler (some (.Name x np)) (some n) (b₀ :: suite) pos'] [] [] pos) (tTry K c i tb ts Wout) := by
  subst hK
  exact L2N.ps_try_as hs hf hN hi hln hc tk hb hsu
theorem ds_tryK {K : PySem.W.Frag} {R : WX} {e : Ev} {ms : Ms} {O : Out} {c : Value} {i : Nat} {tb : WX → TS} {ts : Addr → Value → Option Addr → TS}
    (h : ∀ R', DS K R' (tb R') e ms { O with ex := fun D ds e' m' => ∃ b, PySem.W.exmOne K (.ref D) c = some b ∧
      (b = true → ∀ a dd, DS K (fun _ _ _ _ => False) (ts a (.ref D) (some dd)) (e'.set i (some (.hot a dd D ds))) m' { nx := fun e2 m2 => O.nx (e2.set i none) m2, rt := O.rt, bk := fun e2 m2 => O.bk (e2.set i none) m2, ct := fun e2 m2 => O.ct (e2.set i none) m2 }) ∧
      (b = false → O.ex D ds e' m') }) : DS K R (tTry K c i tb ts R) e ms O := ds_try h
section
variable {X : Cx} {a : Addr} {oe : Obj} {cls : Value} {d : Option Addr} {pn : List (Addr × Obj)}
theorem hotSuite (hz : L2N.Zn cls d oe) (hf : ∃ vs, oe.data = .fields vs) : L2H.HotC (X.suite a ((a, oe) :: pn)) := by
  obtain ⟨vs, e⟩ := hf
  exact ⟨(a, oe), ⟨rfl, vs, e, hz.2.2 vs e⟩, List.mem_cons_self⟩
theorem roomS {k : Nat} {h : Option Value} (r : Room k X.A) : L2H.RoomH k (X.A.mark h) := ⟨r.dp, r.un⟩
end
/-! ### texts: the beginning -/
theorem starts_is (z y : Str) : Txt.startswith z y = decide ((cutS z none (some (y.length : Int))).cps.toList = y.cps.toList) := by
  unfold Txt.startswith
  have e : (cutS z none (some (y.length : Int))).cps.toList = z.cps.toList.take y.length := by
    unfold cutS
    rw [HT.sIx_none, HT.sIx_nat]
    simp only [List.drop_zero, Nat.sub_zero, Nat.min_def]
    split
    · rfl
    · rw [List.take_of_length_le (by rw [← strLen]; exact Nat.le_refl _), List.take_of_length_le (by rw [← strLen]; omega)]
  rw [e, StrLaws.subAt_eq]
  by_cases h : z.cps.toList.take y.length = y.cps.toList
  · have : y.length ≤ z.length := by
      have := congrArg List.length h
      rw [List.length_take, ← strLen, ← strLen] at this
      omega
    rw [decide_eq_true h, decide_eq_true (by omega)]
    simp [h]
  · rw [decide_eq_false h]
    simp [h]
theorem str_ext {a b : Str} (h : a.cps.toList = b.cps.toList) : a = b := TL.ext_tl h
theorem str_eq {a b : Str} : a = b ↔ a.cps.toList = b.cps.toList := ⟨fun e => by rw [e], str_ext⟩
theorem cut_from (z : Str) (k : Nat) : (cutS z (some (k : Int)) none).cps.toList = z.cps.toList.drop k := by
  unfold cutS
  rw [HT.sIx_nat, HT.sIx_none]
  simp only [Nat.min_def]
  split
  · rename_i h
    rw [List.take_of_length_le]
    rw [List.length_drop, ← strLen]
    omega
  · rename_i h
    rw [List.drop_eq_nil_of_le (by rw [← strLen]; exact Nat.le_refl _), List.drop_eq_nil_of_le (by rw [← strLen]; omega)]
    simp
theorem cut_to (z : Str) (k : Nat) : (cutS z none (some (k : Int))).cps.toList = z.cps.toList.take k := by
  unfold cutS
  rw [HT.sIx_none, HT.sIx_nat]
  simp only [List.drop_zero, Nat.sub_zero, Nat.min_def]
  split
  · rfl
  · rw [List.take_of_length_le (by rw [← strLen]; exact Nat.le_refl _), List.take_of_length_le (by rw [← strLen]; omega)]
end DL
namespace DL
open PySem PySem.Spec PyProof.Rows L2
/-- plain data that repr shows in n signs at most, k deep -/
structure Cm (d : Dat) (n k : Nat) : Prop where
  ex : ∃ p, PyD d p ∧ p.showable = true ∧ p.hasDict = false ∧ p.depth ≤ k ∧ p.shown.length ≤ n
  ty : ∃ T, ∀ ms, tyOf ms d = some T
  so : StrOk d
structure CmL (ds : List Dat) (n k : Nat) : Prop where
  ex : ∃ ps, PyDL ds ps ∧ PyData.showableAll ps = true ∧ PyData.hasDictAll ps = false ∧ PyData.depthAll ps ≤ k ∧ ((PyData.shownAll ps).map (·.length)).sum + 2 * (PyData.shownAll ps).length ≤ n
  all : ∀ d ∈ ds, (∃ T, ∀ ms, tyOf ms d = some T) ∧ StrOk d
theorem Cm.mono {d : Dat} {n k m j : Nat} (h : Cm d n k) (l : n ≤ m) (l' : k ≤ j) : Cm d m j := by
  obtain ⟨⟨p, a, b, c, e, f⟩, t, s⟩ := h
  exact ⟨⟨p, a, b, c, Nat.le_trans e l', Nat.le_trans f l⟩, t, s⟩
theorem CmL.nil {k : Nat} : CmL [] 0 k := ⟨⟨[], .nil, rfl, rfl, Nat.zero_le _, Nat.le_refl _⟩, fun _ h => nomatch h⟩
theorem CmL.cons {d : Dat} {ds : List Dat} {n m k : Nat} (h : Cm d n k) (h' : CmL ds m k) : CmL (d :: ds) (n + m + 2) k := by
  obtain ⟨⟨p, a, b, c, e, f⟩, t, s⟩ := h
  obtain ⟨⟨ps, a', b', c', e', f'⟩, al⟩ := h'
  refine ⟨⟨p :: ps, .cons a a', ?_, ?_, ?_, ?_⟩, fun x hx => ?_⟩
  · show (p.showable && PyData.showableAll ps) = true
    rw [b, b']; rfl
  · show (p.hasDict || PyData.hasDictAll ps) = false
    rw [c, c']; rfl
  · show max p.depth (PyData.depthAll ps) ≤ k
    omega
  · show (List.map (fun x => x.length) (p.shown :: PyData.shownAll ps)).sum + 2 * (p.shown :: PyData.shownAll ps).length ≤ _
    rw [List.map_cons, List.sum_cons, List.length_cons]
    omega
  · rcases List.mem_cons.mp hx with z | z
    · subst z; exact ⟨t, s⟩
    · exact al x z
theorem CmL.tup {ds : List Dat} {n k : Nat} (h : CmL ds n k) : Cm (.tup ds) (n + 5) (k + 1) := by
  obtain ⟨⟨ps, a, b, c, e, f⟩, al⟩ := h
  refine ⟨⟨.tuple ps, .tup a, b, c, ?_, ?_⟩, ⟨"tuple", fun _ => rfl⟩, True.intro⟩
  · show PyData.depthAll ps + 1 ≤ k + 1; omega
  · show (tupleText (PyData.shownAll ps)).length ≤ _
    have := PySem.tupleText_len_le (PyData.shownAll ps)
    omega
theorem CmL.lst {ds : List Dat} {n k : Nat} (h : CmL ds n k) : Cm (.lst ds) (n + 5) (k + 1) := by
  obtain ⟨⟨ps, a, b, c, e, f⟩, al⟩ := h
  refine ⟨⟨.list ps, .lst a, b, c, ?_, ?_⟩, ⟨"list", fun _ => rfl⟩, True.intro⟩
  · show PyData.depthAll ps + 1 ≤ k + 1; omega
  · show (listText (PyData.shownAll ps)).length ≤ _
    have := PySem.listText_len_le (PyData.shownAll ps)
    omega
theorem CmL.snoc {d : Dat} {n k : Nat} (h : Cm d n k) : ∀ {ds : List Dat} {m : Nat}, CmL ds m k → CmL (ds ++ [d]) (n + m + 2) k := by
  intro ds m h'
  obtain ⟨⟨p, a, b, c, e, f⟩, t, s⟩ := h
  obtain ⟨⟨ps, a', b', c', e', f'⟩, al⟩ := h'
  have key : ∀ {ds : List Dat} {ps : List PyData}, PyDL ds ps → PyDL (ds ++ [d]) (ps ++ [p]) := by
    intro ds ps h
    induction ds generalizing ps with
    | nil => cases h; exact .cons a .nil
    | cons x xs ih => cases h with | cons h1 h2 => exact .cons h1 (ih h2)
  have s1 : ∀ ps : List PyData, PyData.showableAll (ps ++ [p]) = (PyData.showableAll ps && p.showable) := by
    intro ps; induction ps with
    | nil => simp [PyData.showableAll]
    | cons x xs ih => simp only [List.cons_append, PyData.showableAll, ih, Bool.and_assoc]
  have s2 : ∀ ps : List PyData, PyData.hasDictAll (ps ++ [p]) = (PyData.hasDictAll ps || p.hasDict) := by
    intro ps; induction ps with
    | nil => simp [PyData.hasDictAll]
    | cons x xs ih => simp only [List.cons_append, PyData.hasDictAll, ih, Bool.or_assoc]
  have s3 : ∀ ps : List PyData, PyData.depthAll (ps ++ [p]) = max (PyData.depthAll ps) p.depth := by
    intro ps; induction ps with
    | nil => simp [PyData.depthAll]
    | cons x xs ih => simp only [List.cons_append, PyData.depthAll, ih]; omega
  have s4 : ∀ ps : List PyData, PyData.shownAll (ps ++ [p]) = PyData.shownAll ps ++ [p.shown] := by
    intro ps; induction ps with
    | nil => simp [PyData.shownAll]
    | cons x xs ih => simp only [List.cons_append, PyData.shownAll, ih]
  refine ⟨⟨ps ++ [p], key a', by rw [s1, b, b']; rfl, by rw [s2, c, c']; rfl, by rw [s3]; omega, ?_⟩, fun x hx => ?_⟩
  · rw [s4, List.map_append, List.sum_append, List.length_append]
    simp only [List.map_cons, List.map_nil, List.sum_cons, List.sum_nil, List.length_cons, List.length_nil]
    omega
  · rcases List.mem_append.mp hx with z | z
    · exact al x z
    · cases List.mem_singleton.mp z; exact ⟨t, s⟩
theorem cm_str {z : Str} {m n k : Nat} (h : Sm m z) (hm : m ≤ 100000) (l : 10 * m + 2 ≤ n) : Cm (.str z) n k := by
  have := StrLaws.reprText_len z (fun c hc => Nat.lt_trans (h.sig c hc) (by decide))
  have := h.len
  exact ⟨⟨.str z, .str z, rfl, rfl, Nat.zero_le _, by show (reprText z).length ≤ n; omega⟩, ⟨"str", fun _ => rfl⟩, ⟨by omega, h.sig⟩⟩
theorem cm_non {n k : Nat} (h : 4 ≤ n) : Cm .non n k := ⟨⟨.none, .non, rfl, rfl, Nat.zero_le _, Nat.le_trans (by decide +kernel) h⟩, ⟨"NoneType", fun _ => rfl⟩, True.intro⟩
theorem cm_bl {b : Bool} {n k : Nat} (h : 5 ≤ n) : Cm (.bl b) n k := ⟨⟨.bool b, .bl b, rfl, rfl, Nat.zero_le _, by cases b <;> exact Nat.le_trans (by decide +kernel) h⟩, ⟨"bool", fun _ => rfl⟩, True.intro⟩
theorem cm_int {i : Int} {n k : Nat} (h : (decide (i.natAbs.log2 < 1920) && decide ((PyData.int i).shown.length ≤ n)) = true) : Cm (.int i) n k := by
  simp only [Bool.and_eq_true, decide_eq_true_eq] at h
  exact ⟨⟨.int i, .int i, by simp [PyData.showable, h.1], rfl, Nat.zero_le _, h.2⟩, ⟨"int", fun _ => rfl⟩, True.intro⟩
theorem Cm.v {K : PySem.W.Frag} {ms : Ms} {d : Dat} {n k : Nat} (h : Cm d n k) : VOk K ms d := by
  obtain ⟨T, t⟩ := h.ty
  exact .ty (t ms) h.so
theorem shownS_le {kvs : List (Str × Str)} {w a : Str} {n m : Nat} (e : kvs = [(a, w)]) (ha : Sm n a) (hw : Sm m w) : (shownS kvs).length ≤ 10 * (n + m) + 100 := by
  subst e
  have h1 := StrLaws.reprText_len a (fun c hc => Nat.lt_trans (ha.sig c hc) (by decide))
  have h2 := StrLaws.reprText_len w (fun c hc => Nat.lt_trans (hw.sig c hc) (by decide))
  have h3 := ha.len
  have h4 := hw.len
  have := PySem.dictText_len_le [reprText a ++ (": " : Str) ++ reprText w]
  have e : (shownS [(a, w)]).length = (dictText [reprText a ++ (": " : Str) ++ reprText w]).length := rfl
  rw [e]
  have e2 : ((": " : Str)).length = 2 := by decide +kernel
  simp only [List.map_cons, List.map_nil, List.sum_cons, List.sum_nil, List.length_cons, List.length_nil, PySem.Str.length_append, e2] at this
  omega
theorem itL_mem {xs : List Dat} {i : Nat} (h : i < xs.length) : itL xs i ∈ xs := by
  rw [itL_get (List.getElem?_eq_getElem h)]
  exact List.getElem_mem h
section
variable {K : PySem.W.Frag} {ms : Ms} {P : Dat → Ms → Prop}
theorem d1_neg {i : Int} (q : P (.int (-i)) ms) : D1 K (rU fun i => .int (-i)) (.int i) ms P := fun W G H v Q g r k => by
  cases r
  exact ⟨i, rfl, k W _ _ H ms (Le.refl W) g (.int _) q⟩
/-- a value of a kind known by its type: is it of a class that no built-in's value is of? -/
theorem dr_isiT {x : Dat} {T : String} {C : Addr} {b : Bool} (ht : ∀ ms, tyOf ms x = some T) (hb : PySem.W.kitOne K (.type T) (.ref C) = some b) (q : P (.bl b) ms) : DR K (rIsiX K) [x, .ref C] ms P := dr_isiC (ht ms) hb q
theorem dr_max {i j : Int} (q : P (.int (if j > i then j else i)) ms) : DR K (fun xs H Q => ∃ i j, xs = [.int i, .int j] ∧ Q (.int (if j > i then j else i)) H) [.int i, .int j] ms P := fun W G H vs Q g r k => by
  cases r with
  | cons r1 rr => cases rr with
    | cons r2 rr =>
      cases rr; cases r1; cases r2
      exact ⟨i, j, rfl, k W _ _ H ms (Le.refl W) g (.int _) q⟩
theorem dr_min {i j : Int} (q : P (.int (if j < i then j else i)) ms) : DR K (fun xs H Q => ∃ i j, xs = [.int i, .int j] ∧ Q (.int (if j < i then j else i)) H) [.int i, .int j] ms P := fun W G H vs Q g r k => by
  cases r with
  | cons r1 rr => cases rr with
    | cons r2 rr =>
      cases rr; cases r1; cases r2
      exact ⟨i, j, rfl, k W _ _ H ms (Le.refl W) g (.int _) q⟩
end
def AsLst (d : Dat) (Q : List Dat → Prop) : Prop := ∃ xs, (d = .lst xs ∨ d = .rol xs) ∧ Q xs
theorem as_lst {xs : List Dat} {Q : List Dat → Prop} (q : Q xs) : AsLst (.lst xs) Q := ⟨xs, .inl rfl, q⟩
theorem as_rol {xs : List Dat} {Q : List Dat → Prop} (q : Q xs) : AsLst (.rol xs) Q := ⟨xs, .inr rfl, q⟩
theorem di_lst {K : PySem.W.Frag} {ms : Ms} {R : WX} {e : Ev} {X : XP} {ta : TE} {PI : Nat → (Nat → Dat) → Ms → Prop} (h : DE K R ta e ms (fun d m => AsLst d (fun xs => PI xs.length (itL xs) m)) X) : DI K R (iList K ta) e ms PI X := di_list h
end DL
namespace DL
open PySem PySem.Spec PyProof.Rows L2
/-! ### the law's call, for promises over data -/
section
variable {P : Program} {w : World} {K : PySem.W.Frag} {mg mb : Str → Option Value} {k : Nat} {fa a : Addr} {fd : FuncData} {x : Str} {A : Pm} {s1 : Shared} {vs : List Value} {ns : List Int}
/-- what is tracked ahead of the call: the script, if it is no object of the module -/
def onlyScript (K : PySem.W.Frag) (a : Addr) (vs : List Value) (ns : List Int) : Hp := fun b => if b = a ∧ (K.lookup a).isNone = true then some (.frz { cls := .type "list", data := .seq vs.toArray } (.lst (ns.map V.int))) else none
theorem onlyScript_at {b : Addr} {u : HO} (h : onlyScript K a vs ns b = some u) : b = a ∧ K.lookup a = none ∧ u = .frz { cls := .type "list", data := .seq vs.toArray } (.lst (ns.map V.int)) := by
  unfold onlyScript at h
  by_cases hb : b = a ∧ (K.lookup a).isNone = true
  · rw [if_pos hb] at h
    cases h
    exact ⟨hb.1, by simpa using hb.2, rfl⟩
  · rw [if_neg hb] at h
    cases h
theorem callG (KX : K.In s1.heap) (hm : s1.heap.Ns mainGlobals mg) (hB : s1.heap.Ns builtinsNs mb) (hbb : ∀ x : Str, x ≠ "__name__" → mb x = bootBuiltins x) (lim : s1.heap.NoLimit) (hg : s1.gens = #[])
    (ho : s1.heap.get? a = some { cls := .type "list", data := .seq vs.toArray }) (hi : IntsAre vs ns) (hl : ns.length ≤ sizeLine) (hr : Room k callerA)
    (F : ∀ base : Heap, K.In base → base.Ns mainGlobals mg → FnG P w K mg base (L2N.CX P w) k fa fd [x] (spD K A)) (bind : ∀ (s : Shared) (u : Value), BindsTo s fd ⟨[u], []⟩ [(x, u)])
    (hA : A [.rol (ns.map Dat.int)] [] (fun d _ => d = .bl true) (fun _ _ _ => False)) :
    codeAny (model P w) callerA (.call (.ref fa) ⟨[.ref a], []⟩) (fun r s' => r = .ok (.ret (.bool true)) ∧ OldK s1.heap s'.heap ∧ s'.os = s1.os ∧ AllBare s'.gens) s1 := by
  have rv := vals_ints hi
  have hlen : vs.length = ns.length := by have := rv.length; simpa using this.symm
  generalize hH : onlyScript K a vs ns = H
  have at_ : ∀ {b : Addr} {u : HO}, H b = some u → b = a ∧ K.lookup a = none ∧ u = .frz { cls := .type "list", data := .seq vs.toArray } (.lst (ns.map V.int)) := fun {b u} e => onlyScript_at (by rw [hH]; exact e)
  have ok : HOk P w H s1.heap := fun b u e => by
    obtain ⟨rfl, _, rfl⟩ := at_ e
    exact ⟨ho, by rw [List.length_map]; exact hl, vs, _, rv, ho⟩
  have sq : SqL K H a (ns.map V.int) := by
    cases hk : K.lookup a with
    | none =>
      refine .inl (.inr ⟨{ cls := .type "list", data := .seq vs.toArray }, ?_⟩)
      rw [← hH]
      exact if_pos ⟨rfl, by rw [hk]; rfl⟩
    | some o =>
      have e := KX a o hk
      rw [ho] at e
      cases e
      exact .inr ⟨_, vs.toArray, _, hk, rfl, rfl, rfl, by rw [List.size_toArray, hlen]; exact hl, by simpa using rv⟩
  have free : ∀ {b : Addr} {o : Obj}, s1.heap.get? b = some o → (∀ its n, o.data ≠ .seq its n) → H b = none := fun {b o} e d => by
    cases q : H b with
    | none => rfl
    | some u =>
      obtain ⟨rfl, _⟩ := at_ q
      rw [ho] at e
      cases e
      exact absurd rfl (d _ _)
  have ns' : ∀ {b : Addr} {m : Str → Option Value}, s1.heap.Ns b m → (hidT s1.heap H).Ns b m := fun {b m} ⟨o, es, ep, e, d, r⟩ => ⟨o, es, ep, hidT_get e (free e fun its n z => by rw [d] at z; cases z), d, r⟩
  have kin : K.In (hidT s1.heap H) := fun b o e => hidT_get (KX b o e) (by
    cases q : H b with
    | none => rfl
    | some u =>
      obtain ⟨rfl, z, _⟩ := at_ q
      rw [z] at e
      cases e)
  have md : Mod K mg (hidT s1.heap H) := ⟨kin, ns' hm, ⟨mb, ns' hB, hbb⟩, lim.imp fun _ z => ⟨ns' z.1, z.2⟩⟩
  have e0 : Env0 P w K mg (hidT s1.heap H) callerA [] s1 H := ⟨rfl, md, fun b o e => of_hidT e, Nat.le_of_eq (hidT_size _ _), trivial, fun b hb => (List.not_mem_nil (a := b) hb).elim, ok, .of_eq hg⟩
  have rints : ∀ ns : List Int, RepL K ⟨[], H⟩ (ns.map V.int) (ns.map Dat.int) := fun ns => by
    induction ns with
    | nil => exact .nil
    | cons n ns ih => exact .cons (.int n) ih
  have gd : Good K ⟨[], H⟩ (fun _ => none) H [] := ⟨fun _ _ e => e, fun _ _ e => (nomatch e), rfl, List.nodup_nil, fun _ h => (nomatch h), fun _ h => (nomatch h), fun _ _ e => (nomatch e), fun k a m h => (by simp at h)⟩
  refine codeAny_mono ((F _ kin (ns' hm)).go callerA [] s1 H ⟨[.ref a], []⟩ [.ref a] [.ref a] (fun v _ => v = .bl true) (fun _ _ _ => False) hr ⟨rfl⟩ e0 (bind s1 (.ref a)) (.cons rfl .nil)
    ⟨⟨[], H⟩, fun _ => none, [], [.rol (ns.map Dat.int)], fun d _ => d = .bl true, fun _ _ _ => False, gd, .cons (.rol sq (rints ns)) .nil, hA, fun W' v d H' ms' _ _ r e => by subst e; cases r; rfl, fun _ _ _ _ _ _ _ _ _ _ _ z => z⟩) fun r s' h => ?_
  match r, h with
  | .error e, h =>
    obtain ⟨_, _, _, _, _, _, _, _, _, _, _, _, z⟩ := h
    exact z.elim
  | .ok .next, h => exact h.elim
  | .ok .brk, h => exact h.elim
  | .ok .cont, h => exact h.elim
  | .ok (.ret u), h =>
    obtain ⟨v, H', os, bare, un, ok', r', rfl⟩ := h
    obtain rfl : u = Value.bool true := r'
    refine ⟨rfl, OldK.of_keep fun b o e => ?_, os, bare⟩
    cases q : H b with
    | none => exact un.keep b o e q (fun z => (List.not_mem_nil (a := b) z).elim) (by simp)
    | some u =>
      obtain ⟨rfl, _, rfl⟩ := at_ q
      obtain ⟨e1, _⟩ := ok b _ q
      obtain ⟨e2, _⟩ := ok' b _ (un.frzs b _ _ q)
      rw [e] at e1
      cases e1
      exact e2
end
theorem walkG {l : PySem.W.OpenLaw} {n k : Nat} {q : Program} {loose : List Str} {XP : (Str → Option Value) → Heap → Prop} {YP : World → Heap → Prop} {d : DefRec} {K : Params → PySem.W.Frag} {A : PySem.W.Frag → Pm} {x : Str}
    (hn : l.most = some n) (hn2 : n ≤ sizeLine) (hdf : d.params.defaults = []) (hr : Room k callerA) (hY : ∀ (w : World) (h : Heap), YP w h → (K w.params).In h)
    (F : ∀ (w : World) (mg : Str → Option Value) (fa : Addr) (h : Heap), (K w.params).In h → h.Ns mainGlobals mg → mg d.name = some (.ref fa) →
      ∃ fd : FuncData, (∀ (s : Shared) (u : Value), BindsTo s fd ⟨[u], []⟩ [(x, u)]) ∧ ∀ base : Heap, (K w.params).In base → base.Ns mainGlobals mg → FnG l.prog w (K w.params) mg base (L2N.CX l.prog w) k fa fd [x] (spD (K w.params) (A (K w.params))))
    (hA : ∀ (K : PySem.W.Frag) (ns : List Int), ns.length ≤ n → A K [.rol (ns.map Dat.int)] [] (fun d _ => d = .bl true) (fun _ _ _ => False)) :
    PySem.W.WalkO q loose XP YP l.row.toRowW d [] (fun f vs => PySem.call f vs) :=
  Att.attach_call hn hdf fun w _ s1 mg _ fa _ _ _ _ _ _ ns G Y _ _ _ hmg hobj hints hlen hg => by
    obtain ⟨fd, hb, hF⟩ := F w mg fa _ (hY w _ Y) G.T.g hmg
    exact callG (hY w _ Y) G.T.g G.T.b G.T.builtins G.T.nolimit hg hobj hints (Nat.le_trans hlen hn2) hr hF hb (hA _ ns hlen)
end DL
namespace K01
open PySem PySem.Spec PyProof.Rows L2 DL
local macro_rules | `(tactic| walk_at "hyp") => `(tactic| (first
  | (simp only [Bool.not_eq_true', Bool.not_eq_false', decide_eq_true_eq, decide_eq_false_iff_not, Bool.or_eq_true, Bool.and_eq_true, Bool.or_eq_false_iff, Bool.not_true, Bool.not_false, Bool.and_eq_false_iff] at *)
  | skip))
local macro_rules | `(tactic| walk_at "d1") => `(tactic| first
  | with_reducible refine ds_seq ?_
  | with_reducible refine ds_if ?_
  | with_reducible refine ds_ret ?_
  | with_reducible refine ds_set ?_
  | with_reducible refine ds_drop ?_
  | with_reducible refine ds_par ?_
  | with_reducible refine ds_par3 ?_
  | with_reducible refine ds_next ?_
  | with_reducible refine de_var rfl ?_
  | with_reducible refine de_int ?_
  | with_reducible refine de_str ?_
  | with_reducible refine de_bl ?_
  | with_reducible refine de_non ?_
  | with_reducible refine de_ty ?_
  | with_reducible refine de_ref ?_
  | with_reducible refine de_op ?_
  | with_reducible refine de_chain ?_
  | with_reducible refine de_un ?_
  | with_reducible refine de_dnew ?_
  | with_reducible refine de_disp1 ?_
  | with_reducible refine de_cb ?_
  | with_reducible refine de_bm ?_
  | with_reducible refine de_sl ?_
  | with_reducible refine de_tup ?_
  | with_reducible refine de_lst ?_
  | with_reducible refine de_fstr ?_
  | with_reducible refine de_fmtS ?_
  | with_reducible refine dj_cons ?_
  | with_reducible refine dj_nil ?_
  | with_reducible refine do_none ?_
  | with_reducible refine do_some ?_
  | with_reducible refine de_g0 (dds := []) (fun _ => .nil) ?_
  | with_reducible refine de_g (dds := []) (fun _ => .nil) ?_
  | with_reducible refine de_lc ?_
  | with_reducible refine di_str ?_
  | with_reducible refine di_tup ?_
  | with_reducible refine de_notV ?_
  | with_reducible refine de_andV ?_
  | with_reducible refine de_orV ?_
  | with_reducible refine de_if ?_
  | with_reducible refine dt_test ?_
  | with_reducible refine dt_B ?_
  | with_reducible refine dt_and ?_
  | with_reducible refine dt_or ?_
  | with_reducible refine dt_not ?_
  | with_reducible refine dt_yes ?_
  | with_reducible refine da_cons ?_
  | with_reducible refine da_nil ?_
  | with_reducible refine d2_leI ?_
  | with_reducible refine d2_ltI ?_
  | with_reducible refine d2_geI ?_
  | with_reducible refine d2_gtI ?_
  | with_reducible refine d2_addI ?_
  | with_reducible refine d2_sub ?_
  | ((with_reducible refine' d2_leS1 (sign1_cps _) ?hs1 ?_); (case hs1 => first | exact sg_a | exact sg_z | exact sg_sp | exact sg_ti))
  | ((with_reducible refine' d2_leS1 ?hs1 (sign1_cps _) ?_); (case hs1 => first | exact sg_a | exact sg_z | exact sg_sp | exact sg_ti))
  | with_reducible refine dr_int ?_
  | with_reducible refine dr_abs ?_
  | with_reducible refine dg_sub ?_
  | ((with_reducible refine' d2_ix ?hsq ?hix ?_); (case hsq => assumption); (case hix => rfl))
  | ((with_reducible refine' d2_mod ?hmod ?_); (case hmod => first | decide | omega))
  | ((with_reducible refine' d2_mul ?hmul ?_); (case hmul => exact mul_ok (by omega) (by omega)))
  | ((with_reducible refine' d2_div ?hdiv ?_); (case hdiv => exact div_ok (by first | decide | omega) (by omega)))
  | ((with_reducible refine' d2_pow ?hpow ?_); (case hpow => exact pow_ok (by decide) (by decide) (by omega)))
  | with_reducible refine d2_notI ?_
  | with_reducible refine d2_notSt ?_
  | with_reducible refine d2_notNn ?_
  | with_reducible refine d2_notT ?_
  | with_reducible refine d2_isI ?_
  | with_reducible refine d2_isNn ?_
  | with_reducible refine d2_isT ?_
  | with_reducible refine d2_neI ?_
  | with_reducible refine d2_eqI ?_
  | with_reducible refine d2_eqS ?_
  | with_reducible refine d2_neS ?_
  | with_reducible refine dr_isiK (by assumption) (by decide) (by first | assumption | exact isTyD_str _ | exact isTyD_tup _ | rfl) ?_
  | with_reducible refine dr_lenT ?_
  | with_reducible refine dr_lenL ?_
  | with_reducible refine dr_lenR ?_
  | with_reducible refine dr_lenC (by assumption) ?_
  | with_reducible refine ds_to ?_
  | with_reducible refine dg_name (by decide) ?_
  | with_reducible refine dg_tup2 ?_
  | with_reducible refine dg_tup3 ?_
  | with_reducible refine dg_tup4 ?_
  | with_reducible refine dgs_cons ?_
  | with_reducible refine dgs_nil ?_
  | with_reducible refine dr_lenS (by omega) ?_
  | with_reducible refine ⟨_, rfl, ?_⟩
  | with_reducible refine ⟨_, _, rfl, ?_⟩
  | with_reducible refine ⟨tyD_str, ?_⟩
  | with_reducible refine ⟨by omega, ?_⟩
  | with_reducible refine ⟨by (simp only [PySem.Str.length_append, len_empty, len_sp, List.length_cons, List.length_nil, List.length_append]; omega), ?_⟩
  | with_reducible refine bothT ?_
  | with_reducible refine bothF ?_
  | with_reducible refine bothNT ?_
  | with_reducible refine bothNF ?_
  | (with_reducible refine both (fun hc => ?_) (fun hc => ?_) <;> (try simp only [Bool.not_eq_true', Bool.not_eq_false', decide_eq_true_eq, decide_eq_false_iff_not] at hc) <;> (try (exfalso; omega)) <;> (try exact absurd rfl hc) <;> (try exact absurd trivial hc)))

local macro_rules | `(tactic| walk_at "sm") => `(tactic| first
  | with_reducible refine di_lst ?_
  | with_reducible refine as_lst ?_
  | ((with_reducible refine' d2_addSm ?hs1 ?hs2 ?hs3 (fun hs => ?_)); (case hs1 => assumption); (case hs2 => assumption); (case hs3 => omega))
  | ((with_reducible refine' d2_addL ?hal ?_); (case hal => (simp; try omega)))
  | with_reducible refine d1_neg ?_)

def top (i : Nat) : Stmt := PySem.Challenge.pw_maplost_k01_names_lines_and_rounds.main.body.getD i (.Pass ⟨0, 0, 0, 0⟩)
abbrev topS := top
abbrev s_is_signs : Stmt := (topS 7)
theorem sc_is_signs : FnScope ["value", "most", "sign"] ["value", "most"] (defScope s_is_signs) := ⟨rfl, rfl, rfl, by decide +kernel, rfl, by decide +kernel, by decide +kernel⟩
abbrev s_count_in : Stmt := (topS 8)
theorem sc_count_in : FnScope ["word", "sign"] ["word"] (defScope s_count_in) := ⟨rfl, rfl, rfl, by decide +kernel, rfl, by decide +kernel, by decide +kernel⟩
abbrev s_is_name : Stmt := (topS 14)
theorem sc_is_name : FnScope ["value", "letter"] ["value"] (defScope s_is_name) := ⟨rfl, rfl, rfl, by decide +kernel, rfl, by decide +kernel, by decide +kernel⟩
abbrev s_is_text : Stmt := (topS 15)
theorem sc_is_text : FnScope ["value"] ["value"] (defScope s_is_text) := ⟨rfl, rfl, rfl, by decide +kernel, rfl, by decide +kernel, by decide +kernel⟩
abbrev s_is_line : Stmt := (topS 16)
theorem sc_is_line : FnScope ["value", "name", "text"] ["value"] (defScope s_is_line) := ⟨rfl, rfl, rfl, by decide +kernel, rfl, by decide +kernel, by decide +kernel⟩
abbrev s_line_text : Stmt := (topS 17)
theorem sc_line_text : FnScope ["line", "name", "text"] ["line"] (defScope s_line_text) := ⟨rfl, rfl, rfl, by decide +kernel, rfl, by decide +kernel, by decide +kernel⟩
abbrev s_line_in : Stmt := (topS 18)
theorem sc_line_in : FnScope ["signs", "name", "space", "text", "line"] ["signs"] (defScope s_line_in) := ⟨rfl, rfl, rfl, by decide +kernel, rfl, by decide +kernel, by decide +kernel⟩
abbrev s_read_line : Stmt := (topS 19)
theorem sc_read_line : FnScope ["text", "line"] ["text"] (defScope s_read_line) := ⟨rfl, rfl, rfl, by decide +kernel, rfl, by decide +kernel, by decide +kernel⟩
abbrev s_is_round : Stmt := (topS 20)
theorem sc_is_round : FnScope ["value", "word"] ["value"] (defScope s_is_round) := ⟨rfl, rfl, rfl, by decide +kernel, rfl, by decide +kernel, by decide +kernel⟩
/-- what the top has written -/
structure Txt (K : PySem.W.Frag) (mg : Str → Option Value) : Prop where
  b_isinstance : mg "isinstance" = none
  b_len : mg "len" = none
  b_all : mg "all" = none
  b_str : mg "str" = none
  b_tuple : mg "tuple" = none
  b_list : mg "list" = none
  b_int : mg "int" = none
  b_abs : mg "abs" = none
  b_sum : mg "sum" = none
  b_repr : mg "repr" = none
  b_ord : mg "ord" = none
  b_max : mg "max" = none
  b_min : mg "min" = none
  b_range : mg "range" = none
  c_MOST_LETTERS : ∃ u, mg "MOST_LETTERS" = some u ∧ RelV (.int 8) u
  c_MOST_SIGNS : ∃ u, mg "MOST_SIGNS" = some u ∧ RelV (.int 40) u
  c_MOST_FIGURES : ∃ u, mg "MOST_FIGURES" = some u ∧ RelV (.int 9) u
  c_MOST_DIGITS : ∃ u, mg "MOST_DIGITS" = some u ∧ RelV (.int 20) u
  c_DIGITS : ∃ u, mg "DIGITS" = some u ∧ RelV (.str "0123456789") u
  c_ROUND : ∃ u, mg "ROUND" = some u ∧ RelV (.str "round ") u
/-- where a def of the text stands -/
structure Df (K : PySem.W.Frag) (mg : Str → Option Value) (x : Str) (f : Addr) : Prop where
  m : mg x = some (.ref f)
  k : PySem.W.keepIn K (.ref f) = true
section
variable {P : Program} {w : World} {K : PySem.W.Frag} {mg : Str → Option Value} {base : Heap}
theorem cxK {a b c d e f g h i j k l m n o} {E : XK} : (cxOf a b c d e f g h i j k l m n o E).K = d := rfl
/-! ### mirrors -/
def nameC (c : Nat) : Bool := decide (97 ≤ c) && decide (c ≤ 122)
def isName : Dat → Bool
  | .str z => decide (1 ≤ z.length) && decide (z.length ≤ 8) && z.cps.toList.all nameC
  | _ => false
def signC (c : Nat) : Bool := decide (32 ≤ c) && decide (c ≤ 126)
def isSigns (m : Int) : Dat → Bool
  | .str z => decide ((z.length : Int) ≤ m) && z.cps.toList.all signC
  | _ => false
def isText (d : Dat) : Bool := isSigns 40 d
def isLine : Dat → Bool
  | .tup [a, b] => isName a && isText b
  | _ => false
theorem isName_no {ms : Ms} {d : Dat} (h : isTyD ms d "str" = false) : isName d = false := by
  cases d <;> first | rfl | simp [isTyD, tyOf] at h
theorem isSigns_no {ms : Ms} {m : Int} {d : Dat} (h : isTyD ms d "str" = false) : isSigns m d = false := by
  cases d <;> first | rfl | simp [isTyD, tyOf] at h
theorem isLine_no {ms : Ms} {d : Dat} (h : isTyD ms d "tuple" = false) : isLine d = false := by
  cases d <;> first | rfl | simp [isTyD, tyOf] at h
/-! ### the package's defs -/
def pm_is_name (K : PySem.W.Frag) : Pm := fun ds ms P X => ∃ d, ds = [d] ∧ VOk K ms d ∧ P (.bl (isName d)) ms
theorem ok_is_name {f : Addr} {fd : FuncData} (F : Fun K "is_name" "is_name" s_is_name f fd) (T : Txt K mg) : FnG P w K mg base (L2N.CX P w) 1 f fd ["value"] (spD K (pm_is_name K)) := by
  refine fn_dl F sc_is_name (fun ds ms Pd X h => by obtain ⟨d, rfl, _⟩ := h; rfl) (fun cdv Ar outer s H E hr hq => ?_)
  have tk := (L2N.takes_of (X := cxOf (L2N.CX P w) P w K mg base ["value", "letter"] "is_name" (defScope s_is_name) f cdv Ar outer s H E) (E := E) rfl rfl rfl rfl)
  refine ⟨_, (pss_cons (ps_if (PW.pt (pw_or (pt_not (pt_val (pe_callB (crK (K := K) (r := rIsiX) rfl call_isiX) (by rfl) T.b_isinstance bt_isinstance (pa_cons (pv 0) (pa_cons (pe_bltn (v := .ty "str") rfl T.b_str bt_str rfl) pa_nil))))) (pw_or1 (pt_not (pt_chain op_leA op_leA pe_int (pe_callB (crK (K := K) (r := rLenK) rfl call_len) (by rfl) T.b_len bt_len (pa_cons (pv 0) pa_nil)) (pe_gl rfl T.c_MOST_LETTERS)))))) (pss_one (ps_ret pe_bl)) pss_nil) (pss_one (ps_ret (pe_callB (crK (K := K) (r := rAll) rfl (cr_all rfl)) (by rfl) T.b_all bt_all (pa_cons (pe_lc (own := [("letter", 1)]) rfl sc_is_name.nd (pi_str (pv 0)) (blkOk_by (own := [("letter", 1)]) (N := ["value", "letter"]) (sc := defScope s_is_name) (by decide +kernel)) (fun _ _ _ _ _ => (pg_name (i := 1) sc_is_name.nd rfl (by first | exact Or.inl rfl | exact Or.inr rfl))) (fun _ _ _ _ _ => pts_nil) (fun _ _ _ _ _ => (pe_chain op_leA op_leA pe_str (pv 1) pe_str))) pa_nil))))), ?_⟩
  try simp only [cxK]
  rintro _ ms Pd Xd ⟨d, rfl, hv, q⟩ bl mb
  cases ht : isTyD ms d "str" with
  | false =>
    repeat' walk_at "d1"
    rw [isName_no ht] at q
    exact .inl q
  | true =>
    obtain ⟨z, rfl⟩ := isStr ht
    have hl := strLen z
    have hn := hv.len
    have e : isName (.str z) = (decide (1 ≤ z.length) && decide (z.length ≤ 8) && z.cps.toList.all nameC) := rfl
    rw [e] at q
    repeat' walk_at "d1"
    · exact fin_b q (by simp; omega)
    · refine lcw_str (by omega) (fun _ => true) (fun c => .bl (nameC c)) (fun c hc => dg_name (by decide) (dt_yes ⟨rfl, rfl, fun _ => ?_⟩)) ?_
      · repeat' walk_at "d1"
        · rename_i h1; exact ⟨by unfold nameC; rw [decide_eq_true h1]; rfl, rfl⟩
        · rename_i h1; exact ⟨by unfold nameC; rw [decide_eq_false h1]; rfl, rfl⟩
      · refine da_nil (dr_allB (all_map_bl _ _) (fin_b q ?_))
        rw [all_id]
        simp; omega
    · exact fin_b q (by simp; omega)
def pm_is_signs (K : PySem.W.Frag) : Pm := fun ds ms P X => ∃ d m, ds = [d, .int m] ∧ VOk K ms d ∧ P (.bl (isSigns m d)) ms
theorem ok_is_signs {f : Addr} {fd : FuncData} {dvs : List V} (F : FunD K "is_signs" "is_signs" (defArgs s_is_signs) (defBody s_is_signs) (defScope s_is_signs) dvs [] f fd) (T : Txt K mg) : FnG P w K mg base (L2N.CX P w) 1 f fd ["value", "most"] (spD K (pm_is_signs K)) := by
  refine fn_dlD F sc_is_signs (fun ds ms Pd X h => by obtain ⟨d, m, rfl, _⟩ := h; rfl) (fun cdv Ar outer s H E hr hq => ?_)
  have tk := (L2N.takes_of (X := cxOf (L2N.CX P w) P w K mg base ["value", "most", "sign"] "is_signs" (defScope s_is_signs) f cdv Ar outer s H E) (E := E) rfl rfl rfl rfl)
  refine ⟨_, (pss_cons (ps_if (PW.pt (pw_or (pt_not (pt_val (pe_callB (crK (K := K) (r := rIsiX) rfl call_isiX) (by rfl) T.b_isinstance bt_isinstance (pa_cons (pv 0) (pa_cons (pe_bltn (v := .ty "str") rfl T.b_str bt_str rfl) pa_nil))))) (pw_or1 (PW.pt (pw_and (pt_cmpR op_notA (pv 1) pe_non (nomark _)) (pw_and1 (pt_cmpR op_gtA (pe_callB (crK (K := K) (r := rLenK) rfl call_len) (by rfl) T.b_len bt_len (pa_cons (pv 0) pa_nil)) (pv 1) (nomark _)))))))) (pss_one (ps_ret pe_bl)) pss_nil) (pss_one (ps_ret (pe_callB (crK (K := K) (r := rAll) rfl (cr_all rfl)) (by rfl) T.b_all bt_all (pa_cons (pe_lc (own := [("sign", 2)]) rfl sc_is_signs.nd (pi_str (pv 0)) (blkOk_by (own := [("sign", 2)]) (N := ["value", "most", "sign"]) (sc := defScope s_is_signs) (by decide +kernel)) (fun _ _ _ _ _ => (pg_name (i := 2) sc_is_signs.nd rfl (by first | exact Or.inl rfl | exact Or.inr rfl))) (fun _ _ _ _ _ => pts_nil) (fun _ _ _ _ _ => (pe_chain op_leA op_leA pe_str (pv 2) pe_str))) pa_nil))))), ?_⟩
  try simp only [cxK]
  rintro _ ms Pd Xd ⟨d, m, rfl, hv, q⟩ bl mb
  cases ht : isTyD ms d "str" with
  | false =>
    repeat' walk_at "d1"
    rw [isSigns_no ht] at q
    exact .inl q
  | true =>
    obtain ⟨z, rfl⟩ := isStr ht
    have hl := strLen z
    have hn := hv.len
    have e : isSigns m (.str z) = (decide ((z.length : Int) ≤ m) && z.cps.toList.all signC) := rfl
    rw [e] at q
    repeat' walk_at "d1"
    · exact fin_b q (by simp; omega)
    · refine lcw_str (by omega) (fun _ => true) (fun c => .bl (signC c)) (fun c hc => dg_name (by decide) (dt_yes ⟨rfl, rfl, fun _ => ?_⟩)) ?_
      · repeat' walk_at "d1"
        · rename_i h1; exact ⟨by unfold signC; rw [decide_eq_true h1]; rfl, rfl⟩
        · rename_i h1; exact ⟨by unfold signC; rw [decide_eq_false h1]; rfl, rfl⟩
      · refine da_nil (dr_allB (all_map_bl _ _) (fin_b q ?_))
        rw [all_id]
        simp; omega
def pm_is_text (K : PySem.W.Frag) : Pm := fun ds ms P X => ∃ d, ds = [d] ∧ VOk K ms d ∧ P (.bl (isText d)) ms
theorem ok_is_text {f g : Addr} {fd fdg : FuncData} (F : Fun K "is_text" "is_text" s_is_text f fd) (T : Txt K mg) (D_is_signs : Df K mg "is_signs" g) (G_is_signs : FnG P w K mg base (L2N.CX P w) 1 g fdg ["value", "most"] (spD K (pm_is_signs K))) (b_is_signs : Binds K fdg ["value", "most"] []) :
    FnG P w K mg base (L2N.CX P w) 2 f fd ["value"] (spD K (pm_is_text K)) := by
  refine fn_dl F sc_is_text (fun ds ms Pd X h => by obtain ⟨d, rfl, _⟩ := h; rfl) (fun cdv Ar outer s H E hr hq => ?_)
  have tk := (L2N.takes_of (X := cxOf (L2N.CX P w) P w K mg base ["value"] "is_text" (defScope s_is_text) f cdv Ar outer s H E) (E := E) rfl rfl rfl rfl)
  refine ⟨_, (pss_one (ps_ret (pe_g G_is_signs (hr.mono (by decide)) hq rfl D_is_signs.m D_is_signs.k b_is_signs .nil (fun σ => L2N.passAt tk σ) (pa_cons (pv 0) (pa_cons (pe_gl rfl T.c_MOST_SIGNS) pa_nil))))), ?_⟩
  try simp only [cxK]
  rintro _ ms Pd Xd ⟨d, rfl, hv, q⟩ bl mb
  repeat' walk_at "d1"
  exact ⟨d, 40, rfl, hv, .inl q⟩
/-- a value that is_line can be asked of -/
structure LOk (K : PySem.W.Frag) (ms : Ms) (d : Dat) : Prop where
  v : VOk K ms d
  p : ∀ a b, d = .tup [a, b] → VOk K ms a ∧ VOk K ms b
def pm_is_line (K : PySem.W.Frag) : Pm := fun ds ms P X => ∃ d, ds = [d] ∧ LOk K ms d ∧ P (.bl (isLine d)) ms
theorem ok_is_line {f g h : Addr} {fd fdg fdh : FuncData} (F : Fun K "is_line" "is_line" s_is_line f fd) (T : Txt K mg)
    (D_is_name : Df K mg "is_name" g) (G_is_name : FnG P w K mg base (L2N.CX P w) 1 g fdg ["value"] (spD K (pm_is_name K))) (b_is_name : Binds K fdg ["value"] [])
    (D_is_text : Df K mg "is_text" h) (G_is_text : FnG P w K mg base (L2N.CX P w) 2 h fdh ["value"] (spD K (pm_is_text K))) (b_is_text : Binds K fdh ["value"] []) :
    FnG P w K mg base (L2N.CX P w) 3 f fd ["value"] (spD K (pm_is_line K)) := by
  refine fn_dl F sc_is_line (fun ds ms Pd X h => by obtain ⟨d, rfl, _⟩ := h; rfl) (fun cdv Ar outer s H E hr hq => ?_)
  have tk := (L2N.takes_of (X := cxOf (L2N.CX P w) P w K mg base ["value", "name", "text"] "is_line" (defScope s_is_line) f cdv Ar outer s H E) (E := E) rfl rfl rfl rfl)
  refine ⟨_, (pss_cons (ps_if (PW.pt (pw_or (pt_not (pt_val (pe_callB (crK (K := K) (r := rIsiX) rfl call_isiX) (by rfl) T.b_isinstance bt_isinstance (pa_cons (pv 0) (pa_cons (pe_bltn (v := .ty "tuple") rfl T.b_tuple bt_tuple rfl) pa_nil))))) (pw_or1 (pt_cmpR (opK (K := K) (r := rNeA) rfl (op_neA hr.units)) (pe_callB (crK (K := K) (r := rLenK) rfl call_len) (by rfl) T.b_len bt_len (pa_cons (pv 0) pa_nil)) pe_int (nomark _))))) (pss_one (ps_ret pe_bl)) pss_nil) (pss_cons (ps_asg (pv 0) (pg_tup (n := 2) rfl (pgs_cons (pg_name (i := 1) sc_is_line.nd rfl (by first | exact Or.inl rfl | exact Or.inr rfl)) (pgs_cons (pg_name (i := 2) sc_is_line.nd rfl (by first | exact Or.inl rfl | exact Or.inr rfl)) pgs_nil)))) (pss_one (ps_ret (pe_and (pe_g G_is_name (hr.mono (by decide)) hq rfl D_is_name.m D_is_name.k b_is_name .nil (fun σ => L2N.passAt tk σ) (pa_cons (pv 1) pa_nil)) (pe_one (pe_g G_is_text (hr.mono (by decide)) hq rfl D_is_text.m D_is_text.k b_is_text .nil (fun σ => L2N.passAt tk σ) (pa_cons (pv 2) pa_nil)))))))), ?_⟩
  try simp only [cxK]
  rintro _ ms Pd Xd ⟨d, rfl, hv, q⟩ bl mb
  have hv1 := hv.v
  cases ht : isTyD ms d "tuple" with
  | false =>
    repeat' walk_at "d1"
    rw [isLine_no ht] at q
    exact .inl q
  | true =>
    obtain ⟨xs, rfl⟩ := isTup ht
    by_cases h2 : xs.length = 2
    · match xs, h2 with
      | [a, b], _ =>
        obtain ⟨va, vb⟩ := hv.p a b rfl
        have e : isLine (.tup [a, b]) = (isName a && isText b) := rfl
        rw [e] at q
        repeat' walk_at "d1"
        refine ⟨a, rfl, va, _, rfl, fun h1 => ?_, fun h1 => fin_b q (by rw [h1]; rfl)⟩
        repeat' walk_at "d1"
        exact ⟨b, rfl, vb, fin_b q (by rw [h1]; rfl)⟩
    · have e : isLine (.tup xs) = false := by
        match xs, h2 with
        | [], _ => rfl
        | [_], _ => rfl
        | [a, b], h => exact absurd rfl h
        | _ :: _ :: _ :: _, _ => rfl
      rw [e] at q
      repeat' walk_at "d1"
      · exact .inl q
/-! ### errors: the classes and their makers -/
structure ErrT (K : PySem.W.Frag) (mg : Str → Option Value) (nm f : Str) (C fI : Addr) (fdI : FuncData) : Prop where
  t : ExT K C
  m : mg nm = some (.ref C)
  no : PySem.W.findIn K (.ref C) f = some none
  i : PySem.W.findIn K (.ref C) "__init__" = some (some (.ref fI))
  ti : PySem.W.typeIn K (.ref fI) = some (.type "function")
  b : Binds K fdI ["self", f] []
theorem passE {X : Cx} : Passes (L2N.CX X.prog X.w) X E0 := fun _ σ H s e s' I h => passN σ _ H s e s' I h
/-- raise C(e) -/
theorem ps_raise1 {X : Cx} {W : WX} {nm f : Str} {C fI : Addr} {fdI : FuncData} {e : Expr} {es : List Expr} {ta : TA} {p pos pos2 : Pos} {k : Nat} (hc : X.calm = true) (tk : L2N.Takes X W) (T : ErrT X.K X.mg nm f C fI fdI)
    (F1 : FnOk X.prog X.w X.K X.mg X.base (L2N.CX X.prog X.w) k fI fdI ["self", f] (spIni1 X.K f)) (hr : Room (k + 1) X.A) (hg : Gl X nm) (ha : PA X (e :: es) ta) (hdb : (nm == ("__debug__" : Str)) = false := by decide)
    (he : starEach (e :: es) X.env = (false, eval e X.env) :: starEach es X.env := by rfl) (hpl : (backTo pos (starEach es X.env)).any (·.1) = false := by rfl) :
    PS X (.Raise (some (.Call (.Name nm p) (e :: es) [] pos)) none pos2) (tRaiseO C (spIni1 X.K f) W ta) :=
  L2N.ps_raise hc tk (pmk_newN T.t.o T.i T.ti F1 hr T.b passE hg T.m ha hdb he hpl)
def pm_line_text (K : PySem.W.Frag) (C : Addr) : Pm := fun ds ms P X => ∃ d, ds = [d] ∧ LOk K ms d ∧ (∀ a b, d = .tup [.str a, .str b] → isLine d = true → P (.str (a ++ (" " : Str) ++ b)) ms) ∧ (isLine d = false → X C [("given", d)] ms)
theorem isName_len {a : Str} (h : isName (.str a) = true) : a.length ≤ 8 := by
  have h' : (decide (1 ≤ a.length) && decide (a.length ≤ 8) && a.cps.toList.all nameC) = true := h
  simp at h'; omega
theorem isText_len {a : Str} (h : isText (.str a) = true) : a.length ≤ 40 := by
  have h' : (decide ((a.length : Int) ≤ 40) && a.cps.toList.all signC) = true := h
  simp at h'; omega
theorem isLine_yes {d : Dat} (h : isLine d = true) : ∃ a b, d = .tup [.str a, .str b] ∧ isName (.str a) = true ∧ isText (.str b) = true := by
  match d, h with
  | .tup [a, b], h =>
    have h' : (isName a && isText b) = true := h
    obtain ⟨h1, h2⟩ := Bool.and_eq_true_iff.mp h'
    match a, b, h1, h2 with
    | .str a, .str b, h1, h2 => exact ⟨a, b, rfl, h1, h2⟩
theorem ok_line_text {f g C fI : Addr} {fd fdg fdI : FuncData} (F : Fun K "line_text" "line_text" s_line_text f fd) (T : Txt K mg) (E_InvalidLine : ErrT K mg "InvalidLine" "given" C fI fdI) (I_InvalidLine : FnOk P w K mg base (L2N.CX P w) 1 fI fdI ["self", "given"] (spIni1 K "given"))
    (D_is_line : Df K mg "is_line" g) (G_is_line : FnG P w K mg base (L2N.CX P w) 3 g fdg ["value"] (spD K (pm_is_line K))) (b_is_line : Binds K fdg ["value"] []) :
    FnG P w K mg base (L2N.CX P w) 4 f fd ["line"] (spD K (pm_line_text K C)) := by
  refine fn_dl F sc_line_text (fun ds ms Pd X h => by obtain ⟨d, rfl, _⟩ := h; rfl) (fun cdv Ar outer s H E hr hq => ?_)
  have tk := (L2N.takes_of (X := cxOf (L2N.CX P w) P w K mg base ["line", "name", "text"] "line_text" (defScope s_line_text) f cdv Ar outer s H E) (E := E) rfl rfl rfl rfl)
  refine ⟨_, (pss_cons (ps_if (pt_not (pt_val (pe_g G_is_line (hr.mono (by decide)) hq rfl D_is_line.m D_is_line.k b_is_line .nil (fun σ => L2N.passAt tk σ) (pa_cons (pv 0) pa_nil)))) (pss_one (ps_raise1 rfl tk E_InvalidLine I_InvalidLine (hr.mono (by decide)) rfl (pa_cons (pv 0) pa_nil))) pss_nil) (pss_cons (ps_asg (pv 0) (pg_tup (n := 2) rfl (pgs_cons (pg_name (i := 1) sc_line_text.nd rfl (by first | exact Or.inl rfl | exact Or.inr rfl)) (pgs_cons (pg_name (i := 2) sc_line_text.nd rfl (by first | exact Or.inl rfl | exact Or.inr rfl)) pgs_nil)))) (pss_one (ps_ret (pe_joined (.cons (pe_fmt (pv 1)) (.cons (pe_str) (.cons (pe_fmt (pv 2)) .nil)))))))), ?_⟩
  try simp only [cxK]
  rintro _ ms Pd Xd ⟨d, rfl, hv, q, qx⟩ bl mb
  repeat' walk_at "d1"
  refine ⟨d, rfl, hv, ?_⟩
  cases h : isLine d with
  | false =>
    repeat' walk_at "d1"
    refine ds_raise1 E_InvalidLine.t.o E_InvalidLine.no ?_
    repeat' walk_at "d1"
    exact .inl (qx h)
  | true =>
    obtain ⟨a, b, rfl, ha, hb⟩ := isLine_yes h
    have la := isName_len ha
    have lb := isText_len hb
    repeat' walk_at "d1"
    have q1 := q a b rfl h
    refine fin_d q1 ?_
    rw [empty_app]
def lineIn (z : Str) : Option (Str × Str) :=
  let p := Txt.partition z " "
  if p.2.1 = (" " : Str) ∧ (isName (.str p.1) && isText (.str p.2.2)) = true then some (p.1, p.2.2) else none
def lineInD : Dat → Option (Str × Str)
  | .str z => lineIn z
  | _ => none
def optLine : Option (Str × Str) → Dat
  | some (a, b) => .tup [.str a, .str b]
  | none => .non
def pm_line_in (K : PySem.W.Frag) : Pm := fun ds ms P X => ∃ d, ds = [d] ∧ VOk K ms d ∧ P (optLine (lineInD d)) ms
theorem lineIn_no {ms : Ms} {d : Dat} (h : isTyD ms d "str" = false) : lineInD d = none := by
  cases d <;> first | rfl | simp [isTyD, tyOf] at h
theorem ok_line_in {f g : Addr} {fd fdg : FuncData} (F : Fun K "line_in" "line_in" s_line_in f fd) (T : Txt K mg)
    (D_is_line : Df K mg "is_line" g) (G_is_line : FnG P w K mg base (L2N.CX P w) 3 g fdg ["value"] (spD K (pm_is_line K))) (b_is_line : Binds K fdg ["value"] []) :
    FnG P w K mg base (L2N.CX P w) 4 f fd ["signs"] (spD K (pm_line_in K)) := by
  refine fn_dl F sc_line_in (fun ds ms Pd X h => by obtain ⟨d, rfl, _⟩ := h; rfl) (fun cdv Ar outer s H E hr hq => ?_)
  have tk := (L2N.takes_of (X := cxOf (L2N.CX P w) P w K mg base ["signs", "name", "space", "text", "line"] "line_in" (defScope s_line_in) f cdv Ar outer s H E) (E := E) rfl rfl rfl rfl)
  refine ⟨_, (pss_cons (ps_if (pt_not (pt_val (pe_callB (crK (K := K) (r := rIsiX) rfl call_isiX) (by rfl) T.b_isinstance bt_isinstance (pa_cons (pv 0) (pa_cons (pe_bltn (v := .ty "str") rfl T.b_str bt_str rfl) pa_nil))))) (pss_one (ps_ret pe_non)) pss_nil) (pss_cons (ps_asg (pe_bmK (K := K) rfl PySem.F.plainAttrs_str PySem.F.slot_str_partition PySem.F.type_str_partition mt_partition (pv 0) (pa_cons pe_str pa_nil)) (pg_tup (n := 3) rfl (pgs_cons (pg_name (i := 1) sc_line_in.nd rfl (by first | exact Or.inl rfl | exact Or.inr rfl)) (pgs_cons (pg_name (i := 2) sc_line_in.nd rfl (by first | exact Or.inl rfl | exact Or.inr rfl)) (pgs_cons (pg_name (i := 3) sc_line_in.nd rfl (by first | exact Or.inl rfl | exact Or.inr rfl)) pgs_nil))))) (pss_cons (ps_set (i := 4) sc_line_in.nd rfl (by first | exact Or.inl rfl | exact Or.inr rfl) (pe_tup (pa_cons (pv 1) (pa_cons (pv 3) pa_nil)))) (pss_one (ps_ret (pe_ifExp (PW.pt (pw_and (pt_cmpR (opK (K := K) (r := rEqA) rfl (op_eqA hr.units)) (pv 2) pe_str (nomark _)) (pw_and1 (pt_val (pe_g G_is_line (hr.mono (by decide)) hq rfl D_is_line.m D_is_line.k b_is_line .nil (fun σ => L2N.passAt tk σ) (pa_cons (pv 4) pa_nil)))))) (pv 4) pe_non)))))), ?_⟩
  try simp only [cxK]
  rintro _ ms Pd Xd ⟨d, rfl, hv, q⟩ bl mb
  cases ht : isTyD ms d "str" with
  | false =>
    repeat' walk_at "d1"
    rw [lineIn_no ht] at q
    exact .inl q
  | true =>
    obtain ⟨z, rfl⟩ := isStr ht
    have hl := strLen z
    have hn := hv.len
    have hz : (lineInD (.str z)) = lineIn z := rfl
    rw [hz] at q
    repeat' walk_at "d1"
    refine' dr_partition ?hp1 ?hp2 ?_
    (case hp1 => decide +kernel)
    (case hp2 => omega)
    rcases part_cases z with ⟨hno, hp⟩ | ⟨a, b, ez, hno, hp⟩
    · have hq : lineIn z = none := by
        unfold lineIn; simp only [hp]
        rw [if_neg]
        rintro ⟨z1, _⟩
        exact absurd z1 (by decide +kernel)
      rw [hq] at q
      rw [hp]
      dsimp only
      repeat' walk_at "d1"
      · rename_i hc
        exact absurd hc (by decide +kernel)
      · exact .inl q
    · rw [hp]
      have hlen : z.length = a.length + 1 + b.length := by rw [ez]; simp only [PySem.Str.length_append, len_sp]
      have hq : lineIn z = if isLine (.tup [.str a, .str b]) = true then some (a, b) else none := by
        unfold lineIn; simp only [hp]
        show (if True ∧ isLine (.tup [.str a, .str b]) = true then _ else _) = _
        by_cases c : isLine (.tup [.str a, .str b]) = true
        · rw [if_pos (And.intro True.intro c), if_pos c]
        · rw [if_neg (fun z => c z.2), if_neg c]
      rw [hq] at q
      dsimp only
      repeat' walk_at "d1"
      refine ⟨_, rfl, ⟨.ty rfl True.intro, fun x y e => ?_⟩, _, rfl, fun h1 => ?_, fun h1 => ?_⟩
      · cases e
        exact ⟨.ty rfl ⟨by omega, fun c hc => hv.sig c (by rw [ez, cps_app, cps_app]; simp [hc])⟩, .ty rfl ⟨by omega, fun c hc => hv.sig c (by rw [ez, cps_app, cps_app]; simp [hc])⟩⟩
      · rw [if_pos h1] at q
        repeat' walk_at "d1"
        exact .inl q
      · rw [if_neg (by rw [h1]; decide)] at q
        repeat' walk_at "d1"
        exact .inl q
def pm_read_line (K : PySem.W.Frag) (C : Addr) : Pm := fun ds ms P X => ∃ d, ds = [d] ∧ VOk K ms d ∧ (∀ a b, lineInD d = some (a, b) → P (.tup [.str a, .str b]) ms) ∧ (lineInD d = none → X C [("given", d)] ms)
theorem ok_read_line {f g C fI : Addr} {fd fdg fdI : FuncData} (F : Fun K "read_line" "read_line" s_read_line f fd) (T : Txt K mg) (E_InvalidText : ErrT K mg "InvalidText" "given" C fI fdI) (I_InvalidText : FnOk P w K mg base (L2N.CX P w) 1 fI fdI ["self", "given"] (spIni1 K "given"))
    (D_line_in : Df K mg "line_in" g) (G_line_in : FnG P w K mg base (L2N.CX P w) 4 g fdg ["signs"] (spD K (pm_line_in K))) (b_line_in : Binds K fdg ["signs"] []) :
    FnG P w K mg base (L2N.CX P w) 5 f fd ["text"] (spD K (pm_read_line K C)) := by
  refine fn_dl F sc_read_line (fun ds ms Pd X h => by obtain ⟨d, rfl, _⟩ := h; rfl) (fun cdv Ar outer s H E hr hq => ?_)
  have tk := (L2N.takes_of (X := cxOf (L2N.CX P w) P w K mg base ["text", "line"] "read_line" (defScope s_read_line) f cdv Ar outer s H E) (E := E) rfl rfl rfl rfl)
  refine ⟨_, (pss_cons (ps_set (i := 1) sc_read_line.nd rfl (by first | exact Or.inl rfl | exact Or.inr rfl) (pe_g G_line_in (hr.mono (by decide)) hq rfl D_line_in.m D_line_in.k b_line_in .nil (fun σ => L2N.passAt tk σ) (pa_cons (pv 0) pa_nil))) (pss_cons (ps_if (pt_cmpR op_isA (pv 1) pe_non (nomark _)) (pss_one (ps_raise1 rfl tk E_InvalidText I_InvalidText (hr.mono (by decide)) rfl (pa_cons (pv 0) pa_nil))) pss_nil) (pss_one (ps_ret (pv 1))))), ?_⟩
  try simp only [cxK]
  rintro _ ms Pd Xd ⟨d, rfl, hv, q, qx⟩ bl mb
  repeat' walk_at "d1"
  refine ⟨d, rfl, hv, ?_⟩
  match h : lineInD d with
  | none =>
    repeat' walk_at "d1"
    refine d2_isNn ?_
    repeat' walk_at "d1"
    refine ds_raise1 E_InvalidText.t.o E_InvalidText.no ?_
    repeat' walk_at "d1"
    exact .inl (qx h)
  | some (a, b) =>
    repeat' walk_at "d1"
    refine d2_isT ?_
    repeat' walk_at "d1"
    exact .inl (q a b h)
/-! numbers in texts -/
def digC (c : Nat) : Bool := decide (48 ≤ c) && decide (c ≤ 57)
def canon (l : List Nat) : Bool := decide (l = [48]) || decide (l.head? ≠ some 48)
def countIn (z : Str) : Dat := if (decide (1 ≤ z.length) && decide (z.length ≤ 20) && z.cps.toList.all digC && canon z.cps.toList) = true then .int ((PySem.intText? z).getD 0) else .non
def pm_count_in (K : PySem.W.Frag) : Pm := fun ds ms P X => ∃ z, ds = [.str z] ∧ z.length ≤ 100000 ∧ P (countIn z) ms
theorem dig_in (c : Nat) : decide (c ∈ (Str.ofString "0123456789").cps.toList) = digC c := by
  rw [show (Str.ofString "0123456789").cps.toList = [48, 49, 50, 51, 52, 53, 54, 55, 56, 57] by decide +kernel]
  unfold digC
  rw [Bool.eq_iff_iff]
  simp
  omega
theorem atI_zero {α : Type} (c : α) (l : List α) : atI (c :: l) 0 = some c := by
  unfold atI ixN
  simp
theorem canon_is {z : Str} {c : Nat} {l : List Nat} (ec : z.cps.toList = c :: l) : canon z.cps.toList = (decide (z = ("0" : Str)) || !decide (sign1 c = ("0" : Str))) := by
  have k : (Str.ofString "0").cps.toList = [48] := by decide +kernel
  have i1 : (z = ("0" : Str)) ↔ z.cps.toList = [48] := by
    constructor
    · rintro rfl; exact k
    · intro e; apply TL.ext_tl; show z.cps.toList = _; rw [e]; exact k.symm
  have i2 : (sign1 c = ("0" : Str)) ↔ c = 48 := by
    constructor
    · intro e
      have := congrArg (fun x : Str => x.cps.toList) e
      simp only [k] at this
      simpa [sign1] using this
    · rintro rfl; apply TL.ext_tl; exact k.symm
  rw [show decide (z = ("0" : Str)) = decide (z.cps.toList = [48]) from decide_eq_decide.mpr i1, show decide (sign1 c = ("0" : Str)) = decide (c = 48) from decide_eq_decide.mpr i2]
  simp [canon, ec]
theorem ok_count_in {f : Addr} {fd : FuncData} (F : Fun K "count_in" "count_in" s_count_in f fd) (T : Txt K mg) : FnG P w K mg base (L2N.CX P w) 1 f fd ["word"] (spD K (pm_count_in K)) := by
  refine fn_dl F sc_count_in (fun ds ms Pd X h => by obtain ⟨d, rfl, _⟩ := h; rfl) (fun cdv Ar outer s H E hr hq => ?_)
  have tk := (L2N.takes_of (X := cxOf (L2N.CX P w) P w K mg base ["word", "sign"] "count_in" (defScope s_count_in) f cdv Ar outer s H E) (E := E) rfl rfl rfl rfl)
  refine ⟨_, (pss_cons (ps_if (PW.pt (pw_or (pt_not (pt_chain op_leA op_leA pe_int (pe_callB (crK (K := K) (r := rLenK) rfl call_len) (by rfl) T.b_len bt_len (pa_cons (pv 0) pa_nil)) (pe_gl rfl T.c_MOST_DIGITS))) (pw_or1 (pt_not (pt_val (pe_callB (crK (K := K) (r := rAll) rfl (cr_all rfl)) (by rfl) T.b_all bt_all (pa_cons (pe_lc (own := [("sign", 1)]) rfl sc_count_in.nd (pi_str (pv 0)) (blkOk_by (own := [("sign", 1)]) (N := ["word", "sign"]) (sc := defScope s_count_in) (by decide +kernel)) (fun _ _ _ _ _ => (pg_name (i := 1) sc_count_in.nd rfl (by first | exact Or.inl rfl | exact Or.inr rfl))) (fun _ _ _ _ _ => pts_nil) (fun _ _ _ _ _ => (pe_cmpR (opK (K := K) (r := rInA) rfl op_inA) (pv 1) (pe_gl rfl T.c_DIGITS) (by rfl)))) pa_nil))))))) (pss_one (ps_ret pe_non)) pss_nil) (pss_one (ps_ret (pe_ifExp (PW.pt (pw_or (pt_cmpR (opK (K := K) (r := rEqA) rfl (op_eqA hr.units)) (pv 0) pe_str (nomark _)) (pw_or1 (pt_cmpR (opK (K := K) (r := rNeA) rfl (op_neA hr.units)) (pe_ix (ixK (K := K) (r := rIx) rfl ix_seq) (pv 0) pe_int (fun _ _ => rfl)) pe_str (nomark _))))) (pe_callTy call_intA (by rfl) T.b_int bt_int (pa_cons (pv 0) pa_nil)) pe_non)))), ?_⟩
  try simp only [cxK]
  rintro _ ms Pd Xd ⟨z, rfl, hn, q⟩ bl mb
  have hl := strLen z
  have eq : ∀ b : Bool, (decide (1 ≤ z.length) && decide (z.length ≤ 20) && z.cps.toList.all digC && canon z.cps.toList) = b → Pd (if b = true then .int ((PySem.intText? z).getD 0) else .non) ms := fun b e => by
    unfold countIn at q
    rw [e] at q
    exact q
  repeat' walk_at "d1"
  · rename_i h1 h2
    exact .inl (eq false (by simp; omega))
  · rename_i h1 h2
    refine lcw_str (by omega) (fun _ => true) (fun c => .bl (digC c)) (fun c hc => dg_name (by decide) (dt_yes ⟨rfl, rfl, fun _ => ?_⟩)) ?_
    · repeat' walk_at "d1"
      refine d2_inS ?_
      rw [dig_in]
      exact ⟨rfl, rfl⟩
    · refine da_nil (dr_allB (all_map_bl _ _) ?_)
      rw [all_id]
      have ne : z.cps.toList ≠ [] := fun e => by rw [e] at hl; simp at hl; omega
      cases hd : z.cps.toList.all digC with
      | false =>
        repeat' walk_at "d1"
        exact .inl (eq false (by simp [hd]))
      | true =>
        have hi : PySem.intText? z = some ((NumText.digitsVal z.cps.toList : Nat) : Int) := intText_digits (fun c hc => by
          have := List.all_eq_true.mp hd c hc
          simpa [digC] using this) ne (by omega)
        obtain ⟨c, l, ec⟩ : ∃ c l, z.cps.toList = c :: l := by
          cases e : z.cps.toList with
          | nil => exact absurd e ne
          | cons c l => exact ⟨c, l, rfl⟩
        have h0 : atI z.cps.toList 0 = some c := by rw [ec]; exact atI_zero c l
        have ck := canon_is ec
        repeat' walk_at "d1"
        · rename_i hz
          have e1 : canon z.cps.toList = true := by rw [ck, decide_eq_true hz]; rfl
          refine dr_intS hi (by omega) ?_
          have := eq true (by simp [hd, e1]; omega)
          rw [hi] at this
          exact .inl this
        · rename_i hz
          refine d2_ixS (by omega) h0 ?_
          repeat' walk_at "d1"
          · rename_i hc
            have e1 : canon z.cps.toList = true := by rw [ck, decide_eq_false hc]; simp
            refine dr_intS hi (by omega) ?_
            have := eq true (by simp [hd, e1]; omega)
            rw [hi] at this
            exact .inl this
          · rename_i hc
            have e1 : canon z.cps.toList = false := by rw [ck, decide_eq_false hz, decide_eq_true hc]; rfl
            exact .inl (eq false (by simp [hd, e1]))
  · rename_i h1
    exact .inl (eq false (by simp; omega))
def isRound : Dat → Bool
  | .str z => Txt.startswith z "round " && (decide ((cutS z (some 6) none).length ≤ 9) && !isNon (countIn (cutS z (some 6) none)))
  | _ => false
theorem isRound_no {ms : Ms} {d : Dat} (h : isTyD ms d "str" = false) : isRound d = false := by
  cases d <;> first | rfl | simp [isTyD, tyOf] at h
def pm_is_round (K : PySem.W.Frag) : Pm := fun ds ms P X => ∃ d, ds = [d] ∧ VOk K ms d ∧ P (.bl (isRound d)) ms
theorem ok_is_round {f g : Addr} {fd fdg : FuncData} (F : Fun K "is_round" "is_round" s_is_round f fd) (T : Txt K mg)
    (D_count_in : Df K mg "count_in" g) (G_count_in : FnG P w K mg base (L2N.CX P w) 1 g fdg ["word"] (spD K (pm_count_in K))) (b_count_in : Binds K fdg ["word"] []) :
    FnG P w K mg base (L2N.CX P w) 2 f fd ["value"] (spD K (pm_is_round K)) := by
  refine fn_dl F sc_is_round (fun ds ms Pd X h => by obtain ⟨d, rfl, _⟩ := h; rfl) (fun cdv Ar outer s H E hr hq => ?_)
  have tk := (L2N.takes_of (X := cxOf (L2N.CX P w) P w K mg base ["value", "word"] "is_round" (defScope s_is_round) f cdv Ar outer s H E) (E := E) rfl rfl rfl rfl)
  refine ⟨_, (pss_cons (ps_if (PW.pt (pw_or (pt_not (pt_val (pe_callB (crK (K := K) (r := rIsiX) rfl call_isiX) (by rfl) T.b_isinstance bt_isinstance (pa_cons (pv 0) (pa_cons (pe_bltn (v := .ty "str") rfl T.b_str bt_str rfl) pa_nil))))) (pw_or1 (pt_not (pt_val (pe_bmK (K := K) rfl PySem.F.plainAttrs_str PySem.F.slot_str_startswith PySem.F.type_str_startswith mt_startswith (pv 0) (pa_cons (pe_gl rfl T.c_ROUND) pa_nil))))))) (pss_one (ps_ret pe_bl)) pss_nil) (pss_cons (ps_set (i := 1) sc_is_round.nd rfl (by first | exact Or.inl rfl | exact Or.inr rfl) (pe_slice (slK (K := K) (r := rSlA) rfl sl_A) (pv 0) (po_some (pe_callB (crK (K := K) (r := rLenK) rfl call_len) (by rfl) T.b_len bt_len (pa_cons (pe_gl rfl T.c_ROUND) pa_nil))) po_none)) (pss_one (ps_ret (pe_and (pe_cmpR op_leA (pe_callB (crK (K := K) (r := rLenK) rfl call_len) (by rfl) T.b_len bt_len (pa_cons (pv 1) pa_nil)) (pe_gl rfl T.c_MOST_FIGURES) (nomark _)) (pe_one (pe_cmpR op_notA (pe_g G_count_in (hr.mono (by decide)) hq rfl D_count_in.m D_count_in.k b_count_in .nil (fun σ => L2N.passAt tk σ) (pa_cons (pv 1) pa_nil)) pe_non (nomark _)))))))), ?_⟩
  try simp only [cxK]
  rintro _ ms Pd Xd ⟨d, rfl, hv, q⟩ bl mb
  cases ht : isTyD ms d "str" with
  | false =>
    repeat' walk_at "d1"
    rw [isRound_no ht] at q
    exact .inl q
  | true =>
    obtain ⟨z, rfl⟩ := isStr ht
    have hn := hv.len
    have lr : ((Str.ofString "round ").length : Int) = 6 := by decide +kernel
    have lc := cutS_length z (some 6) none
    have e : isRound (.str z) = (Txt.startswith z "round " && (decide ((cutS z (some 6) none).length ≤ 9) && !isNon (countIn (cutS z (some 6) none)))) := rfl
    rw [e] at q
    repeat' walk_at "d1"
    refine dr_startswith ?_
    cases hs : Txt.startswith z "round " with
    | false =>
      repeat' walk_at "d1"
      exact fin_b q (by rw [hs]; rfl)
    | true =>
      repeat' walk_at "d1"
      refine dsl_str (by omega) ?_
      rw [lr]
      repeat' walk_at "d1"
      · rename_i h1
        refine ⟨_, rfl, Nat.le_trans lc hn, ?_⟩
        repeat' walk_at "d1"
        exact d2_notN (fin_b q (by rw [hs]; have h2 : (cutS z (some 6) none).length ≤ 9 := by omega
                                   simp only [Bool.true_and, decide_eq_true h2]))
      · rename_i h1
        exact fin_b q (by rw [hs]; have h2 : ¬ (cutS z (some 6) none).length ≤ 9 := by omega
                          simp only [Bool.true_and, decide_eq_false h2, Bool.false_and])
end
end K01
namespace K01
open PySem PySem.Spec PyProof.Rows L2 DL
local macro_rules | `(tactic| walk_at "hyp") => `(tactic| (first
  | (simp only [Bool.not_eq_true', Bool.not_eq_false', decide_eq_true_eq, decide_eq_false_iff_not, Bool.or_eq_true, Bool.and_eq_true, Bool.or_eq_false_iff, Bool.not_true, Bool.not_false, Bool.and_eq_false_iff] at *)
  | skip))
local macro_rules | `(tactic| walk_at "d1") => `(tactic| first
  | with_reducible refine ds_seq ?_
  | with_reducible refine ds_if ?_
  | with_reducible refine ds_ret ?_
  | with_reducible refine ds_set ?_
  | with_reducible refine ds_drop ?_
  | with_reducible refine ds_par ?_
  | with_reducible refine ds_par3 ?_
  | with_reducible refine ds_next ?_
  | with_reducible refine de_var rfl ?_
  | with_reducible refine de_int ?_
  | with_reducible refine de_str ?_
  | with_reducible refine de_bl ?_
  | with_reducible refine de_non ?_
  | with_reducible refine de_ty ?_
  | with_reducible refine de_ref ?_
  | with_reducible refine de_op ?_
  | with_reducible refine de_chain ?_
  | with_reducible refine de_un ?_
  | with_reducible refine de_dnew ?_
  | with_reducible refine de_disp1 ?_
  | with_reducible refine de_cb ?_
  | with_reducible refine de_bm ?_
  | with_reducible refine de_sl ?_
  | with_reducible refine de_tup ?_
  | with_reducible refine de_lst ?_
  | with_reducible refine de_fstr ?_
  | with_reducible refine de_fmtS ?_
  | with_reducible refine dj_cons ?_
  | with_reducible refine dj_nil ?_
  | with_reducible refine do_none ?_
  | with_reducible refine do_some ?_
  | with_reducible refine de_g0 (dds := []) (fun _ => .nil) ?_
  | with_reducible refine de_g (dds := []) (fun _ => .nil) ?_
  | with_reducible refine de_lc ?_
  | with_reducible refine di_str ?_
  | with_reducible refine di_tup ?_
  | with_reducible refine de_notV ?_
  | with_reducible refine de_andV ?_
  | with_reducible refine de_orV ?_
  | with_reducible refine de_if ?_
  | with_reducible refine dt_test ?_
  | with_reducible refine dt_B ?_
  | with_reducible refine dt_and ?_
  | with_reducible refine dt_or ?_
  | with_reducible refine dt_not ?_
  | with_reducible refine dt_yes ?_
  | with_reducible refine da_cons ?_
  | with_reducible refine da_nil ?_
  | with_reducible refine d2_leI ?_
  | with_reducible refine d2_ltI ?_
  | with_reducible refine d2_geI ?_
  | with_reducible refine d2_gtI ?_
  | with_reducible refine d2_addI ?_
  | with_reducible refine d2_sub ?_
  | ((with_reducible refine' d2_leS1 (sign1_cps _) ?hs1 ?_); (case hs1 => first | exact sg_a | exact sg_z | exact sg_sp | exact sg_ti))
  | ((with_reducible refine' d2_leS1 ?hs1 (sign1_cps _) ?_); (case hs1 => first | exact sg_a | exact sg_z | exact sg_sp | exact sg_ti))
  | with_reducible refine dr_int ?_
  | with_reducible refine dr_abs ?_
  | with_reducible refine dg_sub ?_
  | ((with_reducible refine' d2_ix ?hsq ?hix ?_); (case hsq => assumption); (case hix => rfl))
  | ((with_reducible refine' d2_mod ?hmod ?_); (case hmod => first | decide | omega))
  | ((with_reducible refine' d2_mul ?hmul ?_); (case hmul => exact mul_ok (by omega) (by omega)))
  | ((with_reducible refine' d2_div ?hdiv ?_); (case hdiv => exact div_ok (by first | decide | omega) (by omega)))
  | ((with_reducible refine' d2_pow ?hpow ?_); (case hpow => exact pow_ok (by decide) (by decide) (by omega)))
  | with_reducible refine d2_notI ?_
  | with_reducible refine d2_notSt ?_
  | with_reducible refine d2_notNn ?_
  | with_reducible refine d2_notT ?_
  | with_reducible refine d2_isI ?_
  | with_reducible refine d2_isNn ?_
  | with_reducible refine d2_isT ?_
  | with_reducible refine d2_neI ?_
  | with_reducible refine d2_eqI ?_
  | with_reducible refine d2_eqS ?_
  | with_reducible refine d2_neS ?_
  | with_reducible refine dr_isiK (by assumption) (by decide) (by first | assumption | exact isTyD_str _ | exact isTyD_tup _ | rfl) ?_
  | with_reducible refine dr_lenT ?_
  | with_reducible refine dr_lenL ?_
  | with_reducible refine dr_lenR ?_
  | with_reducible refine dr_lenC (by assumption) ?_
  | with_reducible refine ds_to ?_
  | with_reducible refine dg_name (by decide) ?_
  | with_reducible refine dg_tup2 ?_
  | with_reducible refine dg_tup3 ?_
  | with_reducible refine dg_tup4 ?_
  | with_reducible refine dgs_cons ?_
  | with_reducible refine dgs_nil ?_
  | with_reducible refine dr_lenS (by omega) ?_
  | with_reducible refine ⟨_, rfl, ?_⟩
  | with_reducible refine ⟨_, _, rfl, ?_⟩
  | with_reducible refine ⟨tyD_str, ?_⟩
  | with_reducible refine ⟨by omega, ?_⟩
  | with_reducible refine ⟨by (simp only [PySem.Str.length_append, len_empty, len_sp, List.length_cons, List.length_nil, List.length_append]; omega), ?_⟩
  | with_reducible refine bothT ?_
  | with_reducible refine bothF ?_
  | with_reducible refine bothNT ?_
  | with_reducible refine bothNF ?_
  | (with_reducible refine both (fun hc => ?_) (fun hc => ?_) <;> (try simp only [Bool.not_eq_true', Bool.not_eq_false', decide_eq_true_eq, decide_eq_false_iff_not] at hc) <;> (try (exfalso; omega)) <;> (try exact absurd rfl hc) <;> (try exact absurd trivial hc)))

local macro_rules | `(tactic| walk_at "sm") => `(tactic| first
  | with_reducible refine di_lst ?_
  | with_reducible refine as_lst ?_
  | ((with_reducible refine' d2_addSm ?hs1 ?hs2 ?hs3 (fun hs => ?_)); (case hs1 => assumption); (case hs2 => assumption); (case hs3 => omega))
  | ((with_reducible refine' d2_addL ?hal ?_); (case hal => (simp; try omega)))
  | with_reducible refine d1_neg ?_)

abbrev s__law_cell : Stmt := (topS 22)
theorem sc__law_cell : FnScope ["script", "k"] ["script", "k"] (defScope s__law_cell) := ⟨rfl, rfl, rfl, by decide +kernel, rfl, by decide +kernel, by decide +kernel⟩
abbrev s__law_box : Stmt := (topS 23)
theorem sc__law_box : FnScope ["great"] ["great"] (defScope s__law_box) := ⟨rfl, rfl, rfl, by decide +kernel, rfl, by decide +kernel, by decide +kernel⟩
abbrev s__law_take : Stmt := (topS 24)
theorem sc__law_take : FnScope ["box", "many", "digit", "mixed"] ["box", "many"] (defScope s__law_take) := ⟨rfl, rfl, rfl, by decide +kernel, rfl, by decide +kernel, by decide +kernel⟩
abbrev s__law_signs : Stmt := (topS 25)
theorem sc__law_signs : FnScope ["box", "alphabet", "many", "k"] ["box", "alphabet", "many"] (defScope s__law_signs) := ⟨rfl, rfl, rfl, by decide +kernel, rfl, by decide +kernel, by decide +kernel⟩
abbrev s__law_spoilt : Stmt := (topS 26)
theorem sc__law_spoilt : FnScope ["box", "signs", "menu", "way", "place", "sign"] ["box", "signs", "menu"] (defScope s__law_spoilt) := ⟨rfl, rfl, rfl, by decide +kernel, rfl, by decide +kernel, by decide +kernel⟩
abbrev s__law_name : Stmt := (topS 27)
theorem sc__law_name : FnScope ["box", "spoil", "many", "signs", "menu"] ["box"] (defScope s__law_name) := ⟨rfl, rfl, rfl, by decide +kernel, rfl, by decide +kernel, by decide +kernel⟩
abbrev s__law_text : Stmt := (topS 28)
theorem sc__law_text : FnScope ["box", "alphabet", "spoil", "many", "signs"] ["box"] (defScope s__law_text) := ⟨rfl, rfl, rfl, by decide +kernel, rfl, by decide +kernel, by decide +kernel⟩
abbrev s__law_figures : Stmt := (topS 29)
theorem sc__law_figures : FnScope ["box", "spoil", "many", "word", "heads", "signs"] ["box"] (defScope s__law_figures) := ⟨rfl, rfl, rfl, by decide +kernel, rfl, by decide +kernel, by decide +kernel⟩
section
variable {P : Program} {w : World} {K : PySem.W.Frag} {mg : Str → Option Value} {base : Heap}
/-! ### what the law draws -/
theorem cutD_map {α : Type} (f : α → Dat) (l : List α) (lo hi : Option Int) : ∃ ys : List α, DL.cutD (l.map f) lo hi = ys.map f := by
  unfold DL.cutD
  exact ⟨_, by rw [List.map_take, List.map_drop]⟩
def pm_cell (K : PySem.W.Frag) : Pm := fun ds ms P X => ∃ (zs : List Int) (k : Int), ds = [.rol (zs.map Dat.int), .int k] ∧ zs.length ≤ 1000 ∧ 0 ≤ k ∧ k ≤ 1000 ∧ ∀ z, P (.int z) ms
theorem ok_cell {f : Addr} {fd : FuncData} (F : Fun K "_law_cell" "_law_cell" s__law_cell f fd) (T : Txt K mg) : FnG P w K mg base (L2N.CX P w) 1 f fd ["script", "k"] (spD K (pm_cell K)) := by
  refine fn_dl F sc__law_cell (fun ds ms Pd X h => by obtain ⟨z, k, rfl, _⟩ := h; rfl) (fun cdv Ar outer s H E hr hq => ?_)
  have tk := (L2N.takes_of (X := cxOf (L2N.CX P w) P w K mg base ["script", "k"] "_law_cell" (defScope s__law_cell) f cdv Ar outer s H E) (E := E) rfl rfl rfl rfl)
  refine ⟨_, (pss_one (ps_ret (pe_ifExp (pt_cmpR op_ltA (pv 1) (pe_callB (crK (K := K) (r := rLenK) rfl call_len) (by rfl) T.b_len bt_len (pa_cons (pv 0) pa_nil)) (nomark _)) (pe_ix (ixK (K := K) (r := rIx) rfl ix_seq) (pv 0) (pv 1) (fun _ _ => rfl)) (pe_op op_addA (pe_op op_mulA pe_int (pv 1)) (pe_op op_modA (pe_callB (crK (K := K) (r := rSum) rfl (cr_sum rfl)) (by rfl) T.b_sum bt_sum (pa_cons (pe_slice (slK (K := K) (r := rSlA) rfl sl_A) (pv 0) po_none (po_some pe_int)) pa_nil)) pe_int))))), ?_⟩
  try simp only [cxK]
  rintro _ ms Pd Xd ⟨zs, k, rfl, hz, h0, h1, q⟩ bl mb
  repeat' walk_at "d1"
  · rename_i hk
    rw [List.length_map] at hk
    obtain ⟨a, _, ha⟩ := atI_map Dat.int h0 hk
    exact d2_ix (.inr (.inr (.inl rfl))) ha (.inl (q _))
  · skip
    refine dsl_list (.inr (.inl rfl)) ?_
    obtain ⟨ys, hy⟩ := cutD_map Dat.int zs none (some 1)
    rw [hy]
    repeat' walk_at "d1"
    refine dr_sum ?_
    repeat' walk_at "d1"
    exact .inl (q _)
def pm_box (K : PySem.W.Frag) : Pm := fun ds ms P X => ∃ g : Int, ds = [.int g] ∧ ∀ xs, BoxOk 0 xs → P (.cell ms.length) (ms ++ [.lst xs])
theorem ok_box {f : Addr} {fd : FuncData} (F : Fun K "_law_box" "_law_box" s__law_box f fd) (T : Txt K mg) : FnG P w K mg base (L2N.CX P w) 1 f fd ["great"] (spD K (pm_box K)) := by
  refine fn_dl F sc__law_box (fun ds ms Pd X h => by obtain ⟨z, rfl, _⟩ := h; rfl) (fun cdv Ar outer s H E hr hq => ?_)
  have tk := (L2N.takes_of (X := cxOf (L2N.CX P w) P w K mg base ["great"] "_law_box" (defScope s__law_box) f cdv Ar outer s H E) (E := E) rfl rfl rfl rfl)
  refine ⟨_, (pss_one (ps_ret (pe_lst (pa_cons (pe_callB call_abs (by rfl) T.b_abs bt_abs (pa_cons (pv 0) pa_nil)) (pa_cons (pe_cmpR op_geA (pe_callB call_abs (by rfl) T.b_abs bt_abs (pa_cons (pv 0) pa_nil)) (pe_op op_powA pe_int pe_int) (nomark _)) (pa_cons (pe_op op_modA (pe_callTy call_intA (by rfl) T.b_int bt_int (pa_cons (pe_callB call_abs (by rfl) T.b_abs bt_abs (pa_cons (pv 0) pa_nil)) pa_nil)) pe_int) (pa_cons pe_int pa_nil))))))), ?_⟩
  try simp only [cxK]
  rintro _ ms Pd Xd ⟨g, rfl, q⟩ bl mb
  refine ds_ret (de_lstC ?_)
  repeat' walk_at "d1"
  refine .inl (q _ ⟨_, _, 0, _, rfl, ?_, Int.emod_nonneg _ (by decide), Int.emod_lt_of_pos _ (by decide), by decide, by decide⟩)
  split <;> omega
def pm_take (K : PySem.W.Frag) : Pm := fun ds ms P X => ∃ (k n : Nat) (many : Int) (xs : List Dat), ds = [.cell k, .int many] ∧ 0 < many ∧ many ≤ 1000 ∧ ms[k]? = some (.lst xs) ∧ BoxOk n xs ∧ n ≤ 100000 ∧
  ∀ r ys, 0 ≤ r → r < many → BoxOk (n + 1) ys → P (.int r) (ms.set k (.lst ys))
theorem set_set {ms : Ms} {k : Nat} {a b : MO} : (ms.set k a).set k b = ms.set k b := List.set_set ..
theorem ok_take {f : Addr} {fd : FuncData} (F : Fun K "_law_take" "_law_take" s__law_take f fd) (T : Txt K mg) : FnG P w K mg base (L2N.CX P w) 1 f fd ["box", "many"] (spD K (pm_take K)) := by
  refine fn_dl F sc__law_take (fun ds ms Pd X h => by obtain ⟨z, _, _, _, rfl, _⟩ := h; rfl) (fun cdv Ar outer s H E hr hq => ?_)
  have tk := (L2N.takes_of (X := cxOf (L2N.CX P w) P w K mg base ["box", "many", "digit", "mixed"] "_law_take" (defScope s__law_take) f cdv Ar outer s H E) (E := E) rfl rfl rfl rfl)
  refine ⟨_, (pss_cons (ps_if (PW.pt (pw_and (pt_val (pe_ix (ixK (K := K) (r := rIx) rfl ix_seq) (pv 0) pe_int (fun _ _ => rfl))) (pw_and1 (pt_cmpR op_gtA (pe_ix (ixK (K := K) (r := rIx) rfl ix_seq) (pv 0) pe_int (fun _ _ => rfl)) pe_int (nomark _))))) (pss_cons (ps_set (i := 2) sc__law_take.nd rfl (by first | exact Or.inl rfl | exact Or.inr rfl) (pe_op op_modA (pe_callTy call_intA (by rfl) T.b_int bt_int (pa_cons (pe_ix (ixK (K := K) (r := rIx) rfl ix_seq) (pv 0) pe_int (fun _ _ => rfl)) pa_nil)) (pv 1))) (pss_cons (ps_asg (pe_op op_divA (pe_ix (ixK (K := K) (r := rIx) rfl ix_seq) (pv 0) pe_int (fun _ _ => rfl)) (pv 1)) (pg_sub (pv 0) pe_int set_list)) (pss_one (ps_ret (pv 2))))) pss_nil) (pss_cons (ps_asg (pe_op op_addA (pe_ix (ixK (K := K) (r := rIx) rfl ix_seq) (pv 0) pe_int (fun _ _ => rfl)) pe_int) (pg_sub (pv 0) pe_int set_list)) (pss_cons (ps_set (i := 3) sc__law_take.nd rfl (by first | exact Or.inl rfl | exact Or.inr rfl) (pe_op op_modA (pe_callTy call_intA (by rfl) T.b_int bt_int (pa_cons (pe_op op_powA (pe_op op_addA (pe_op op_addA (pe_ix (ixK (K := K) (r := rIx) rfl ix_seq) (pv 0) pe_int (fun _ _ => rfl)) (pe_op op_mulA pe_int (pe_ix (ixK (K := K) (r := rIx) rfl ix_seq) (pv 0) pe_int (fun _ _ => rfl)))) pe_int) pe_int) pa_nil)) pe_int)) (pss_one (ps_ret (pe_op op_modA (pe_op op_divA (pe_op op_modA (pe_callTy call_intA (by rfl) T.b_int bt_int (pa_cons (pe_op op_powA (pe_op op_addA (pe_op op_mulA (pv 3) pe_int) (pe_op op_mulA pe_int (pe_ix (ixK (K := K) (r := rIx) rfl ix_seq) (pv 0) pe_int (fun _ _ => rfl)))) pe_int) pa_nil)) pe_int) pe_int) (pv 1))))))), ?_⟩
  try simp only [cxK]
  rintro _ ms Pd Xd ⟨k, n, many, xs, rfl, hm0, hm1, hk, hb, hn, q⟩ bl mb
  obtain ⟨a, m, c, b, rfl, h1, h2, h3, h4, h5⟩ := hb.is
  have lt := ms_lt hk
  have sq0 : SeqV ms (.cell k) [.int a, .bl b, .int m, .int c] := .inr (.inr (.inr ⟨k, rfl, hk⟩))
  have lm : many.natAbs.log2 ≤ 1000 := log_le (by omega)
  have l2 : ∀ i : Int, 0 ≤ i → i < 1000000 → i.natAbs.log2 ≤ 1000000 - 1 := fun i h1 h2 => log_le (by omega)
  repeat' walk_at "d1"
  · rename_i hb ha
    repeat' walk_at "d1"
    refine sub_to hk rfl ?_
    repeat' walk_at "d1"
    exact .inl (q _ _ (Int.emod_nonneg _ (by omega)) (Int.emod_lt_of_pos _ hm0) ⟨_, _, _, _, rfl, Int.ediv_nonneg h1 (by omega), h2, h3, h4, by omega⟩)
  all_goals
    refine sub_to hk rfl ?_
    have sq1 : SeqV (ms.set k (.lst [.int a, .bl b, .int m, .int (c + 1)])) (.cell k) [.int a, .bl b, .int m, .int (c + 1)] := .inr (.inr (.inr ⟨k, rfl, set_same lt⟩))
    repeat' walk_at "d1"
    have mx0 := Int.emod_nonneg ((m + 15485863 * (c + 1) + 179424673) ^ Int.toNat 5) (b := 2147483647) (by decide)
    have mx1 := Int.emod_lt_of_pos ((m + 15485863 * (c + 1) + 179424673) ^ Int.toNat 5) (b := 2147483647) (by decide)
    generalize (m + 15485863 * (c + 1) + 179424673) ^ Int.toNat 5 % 2147483647 = mx at mx0 mx1 ⊢
    repeat' walk_at "d1"
    exact .inl (q _ _ (Int.emod_nonneg _ (by omega)) (Int.emod_lt_of_pos _ hm0) ⟨_, _, _, _, rfl, h1, h2, h3, by omega, by omega⟩)
def pm_signs (K : PySem.W.Frag) : Pm := fun ds ms P X => ∃ (k n : Nat) (al : Str) (many : Int) (xs : List Dat), ds = [.cell k, .str al, .int many] ∧ 1 ≤ al.length ∧ Sm 1000 al ∧ 0 ≤ many ∧ many ≤ 100 ∧ ms[k]? = some (.lst xs) ∧ BoxOk n xs ∧ n ≤ 90000 ∧
  ∀ z ys, Sm 100 z → BoxOk (n + 100) ys → P (.str z) (ms.set k (.lst ys))
theorem ok_signs {f g : Addr} {fd fdg : FuncData} (F : Fun K "_law_signs" "_law_signs" s__law_signs f fd) (T : Txt K mg)
    (D__law_take : Df K mg "_law_take" g) (G__law_take : FnG P w K mg base (L2N.CX P w) 1 g fdg ["box", "many"] (spD K (pm_take K))) (b__law_take : Binds K fdg ["box", "many"] []) :
    FnG P w K mg base (L2N.CX P w) 2 f fd ["box", "alphabet", "many"] (spD K (pm_signs K)) := by
  refine fn_dl F sc__law_signs (fun ds ms Pd X h => by obtain ⟨_, _, _, _, _, rfl, _⟩ := h; rfl) (fun cdv Ar outer s H E hr hq => ?_)
  have tk := (L2N.takes_of (X := cxOf (L2N.CX P w) P w K mg base ["box", "alphabet", "many", "k"] "_law_signs" (defScope s__law_signs) f cdv Ar outer s H E) (E := E) rfl rfl rfl rfl)
  refine ⟨_, (pss_one (ps_ret (pe_bmK (K := K) rfl PySem.F.plainAttrs_str PySem.F.slot_str_join PySem.F.type_str_join mt_join pe_str (pa_cons (pe_lc (own := [("k", 3)]) rfl sc__law_signs.nd (pi_range1 rfl T.b_range (pa_cons (pv 2) pa_nil)) (blkOk_by (own := [("k", 3)]) (N := ["box", "alphabet", "many", "k"]) (sc := defScope s__law_signs) (by decide +kernel)) (fun _ _ _ _ _ => (pg_name (i := 3) sc__law_signs.nd rfl (by first | exact Or.inl rfl | exact Or.inr rfl))) (fun _ _ _ _ _ => pts_nil) (fun _ _ _ _ _ => (pe_ix (ixK (K := K) (r := rIx) rfl ix_seq) (pv 1) (pe_g G__law_take (hr.mono (by decide)) hq rfl D__law_take.m D__law_take.k b__law_take .nil (fun σ => passN σ) (pa_cons (pv 0) (pa_cons (pe_callB (crK (K := K) (r := rLenK) rfl call_len) (by rfl) T.b_len bt_len (pa_cons (pv 1) pa_nil)) pa_nil))) (fun _ _ => rfl)))) pa_nil)))), ?_⟩
  try simp only [cxK]
  rintro _ ms Pd Xd ⟨k, n, al, many, xs, rfl, ha1, ha2, hm0, hm1, hk, hb, hn, q⟩ bl mb
  have lt := ms_lt hk
  have hl := ha2.len
  repeat' walk_at "d1"
  refine di_rng1 ?_
  repeat' walk_at "d1"
  refine ⟨by omega, fun i acc m => ∃ ys cs, m = ms.set k (.lst ys) ∧ BoxOk (n + i) ys ∧ acc = (List.map sign1 cs).map Dat.str ∧ cs.length = i ∧ ∀ c ∈ cs, c < 128, ⟨xs, [], (ms_self hk).symm, hb, rfl, rfl, by simp⟩, ?_, ?_⟩
  · rintro i acc m' hi ha ⟨ys, cs, rfl, hy, rfl, hcl, hcs⟩
    refine dg_name (by decide) (dt_yes (both (fun _ => ?_) (fun z => by cases z)))
    repeat' walk_at "d1"
    refine ⟨k, n + i, (al.length : Int), ys, rfl, by omega, by omega, set_same lt, hy, by omega, fun r zs hr0 hr1 hz => ?_⟩
    rw [set_set]
    obtain ⟨r, rfl⟩ := Int.eq_ofNat_of_zero_le hr0
    have hr : r < al.cps.toList.length := by rw [← strLen]; omega
    refine d2_ixS (c := al.cps.toList[r]) (by omega) (atI_nat hr) ?_
    refine ⟨zs, cs ++ [al.cps.toList[r]], rfl, hz, by simp, by simp [hcl], fun c hc => ?_⟩
    rcases List.mem_append.mp hc with z | z
    · exact hcs c z
    · rw [List.mem_singleton.mp z]
      exact ha2.sig _ (List.getElem_mem hr)
  · rintro acc m' ha ⟨ys, cs, rfl, hy, rfl, hcl, hcs⟩
    refine da_nil (dr_join ?_ ?_)
    · rw [List.map_map, List.length_map]
      have e0 : ("" : Str).length = 0 := by decide +kernel
      have e1 : (List.map ((fun x => x.length) ∘ sign1) cs).sum = cs.length := by
        clear hcl hcs ha
        induction cs with
        | nil => rfl
        | cons c cs ih => rw [List.map_cons, List.sum_cons, ih, List.length_cons]; show 1 + _ = _; omega
      rw [e0, e1]; omega
    · exact .inl (q _ _ ((Sm.join (by decide +kernel) cs hcs).mono (by omega)) (hy.mono (by omega)))
def pm_spoilt (K : PySem.W.Frag) : Pm := fun ds ms P X => ∃ (k n : Nat) (z : Str) (mn : List Str) (xs : List Dat), ds = [.cell k, .str z, .lst (mn.map Dat.str)] ∧ Sm 400 z ∧ 1 ≤ mn.length ∧ mn.length ≤ 100 ∧ (∀ y ∈ mn, Sm 1 y) ∧ ms[k]? = some (.lst xs) ∧ BoxOk n xs ∧ n ≤ 90000 ∧
  ∀ z ys, Sm 900 z → BoxOk (n + 3) ys → P (.str z) (ms.set k (.lst ys))
theorem ok_spoilt {f g : Addr} {fd fdg : FuncData} (F : Fun K "_law_spoilt" "_law_spoilt" s__law_spoilt f fd) (T : Txt K mg)
    (D__law_take : Df K mg "_law_take" g) (G__law_take : FnG P w K mg base (L2N.CX P w) 1 g fdg ["box", "many"] (spD K (pm_take K))) (b__law_take : Binds K fdg ["box", "many"] []) :
    FnG P w K mg base (L2N.CX P w) 2 f fd ["box", "signs", "menu"] (spD K (pm_spoilt K)) := by
  refine fn_dl F sc__law_spoilt (fun ds ms Pd X h => by obtain ⟨_, _, _, _, _, rfl, _⟩ := h; rfl) (fun cdv Ar outer s H E hr hq => ?_)
  have tk := (L2N.takes_of (X := cxOf (L2N.CX P w) P w K mg base ["box", "signs", "menu", "way", "place", "sign"] "_law_spoilt" (defScope s__law_spoilt) f cdv Ar outer s H E) (E := E) rfl rfl rfl rfl)
  refine ⟨_, (pss_cons (ps_par (i := 3) (j := 4) rfl sc__law_spoilt.nd rfl rfl (by decide) rfl rfl (pa_cons (pe_g G__law_take (hr.mono (by decide)) hq rfl D__law_take.m D__law_take.k b__law_take .nil (fun σ => L2N.passAt tk σ) (pa_cons (pv 0) (pa_cons pe_int pa_nil))) (pa_cons (pe_g G__law_take (hr.mono (by decide)) hq rfl D__law_take.m D__law_take.k b__law_take .nil (fun σ => L2N.passAt tk σ) (pa_cons (pv 0) (pa_cons (pe_op op_addA (pe_callB (crK (K := K) (r := rLenK) rfl call_len) (by rfl) T.b_len bt_len (pa_cons (pv 1) pa_nil)) pe_int) pa_nil))) pa_nil)) (by rfl)) (pss_cons (ps_set (i := 5) sc__law_spoilt.nd rfl (by first | exact Or.inl rfl | exact Or.inr rfl) (pe_ix (ixK (K := K) (r := rIx) rfl ix_seq) (pv 2) (pe_g G__law_take (hr.mono (by decide)) hq rfl D__law_take.m D__law_take.k b__law_take .nil (fun σ => L2N.passAt tk σ) (pa_cons (pv 0) (pa_cons (pe_callB (crK (K := K) (r := rLenK) rfl call_len) (by rfl) T.b_len bt_len (pa_cons (pv 2) pa_nil)) pa_nil))) (fun _ _ => rfl))) (pss_cons (ps_if (pt_cmpR (opK (K := K) (r := rEqA) rfl (op_eqA hr.units)) (pv 3) pe_int (nomark _)) (pss_one (ps_ret (pe_op op_addA (pe_op op_addA (pe_slice (slK (K := K) (r := rSlA) rfl sl_A) (pv 1) po_none (po_some (pv 4))) (pv 5)) (pe_slice (slK (K := K) (r := rSlA) rfl sl_A) (pv 1) (po_some (pe_op op_addA (pv 4) pe_int)) po_none)))) pss_nil) (pss_cons (ps_if (pt_cmpR (opK (K := K) (r := rEqA) rfl (op_eqA hr.units)) (pv 3) pe_int (nomark _)) (pss_one (ps_ret (pe_op op_addA (pe_op op_addA (pe_slice (slK (K := K) (r := rSlA) rfl sl_A) (pv 1) po_none (po_some (pv 4))) (pv 5)) (pe_slice (slK (K := K) (r := rSlA) rfl sl_A) (pv 1) (po_some (pv 4)) po_none)))) pss_nil) (pss_one (ps_ret (pe_op op_addA (pe_slice (slK (K := K) (r := rSlA) rfl sl_A) (pv 1) po_none (po_some (pv 4))) (pe_slice (slK (K := K) (r := rSlA) rfl sl_A) (pv 1) (po_some (pe_op op_addA (pv 4) pe_int)) po_none)))))))), ?_⟩
  try simp only [cxK]
  rintro _ ms Pd Xd ⟨k, n, z, mn, xs, rfl, hz, hm0, hm1, hmn, hk, hb, hn, q⟩ bl mb
  have lt := ms_lt hk
  have hl := hz.len
  repeat' walk_at "d1"
  refine ⟨k, n, 3, xs, rfl, by omega, by omega, hk, hb, by omega, fun way y1 w0 w1 b1 => ?_⟩
  repeat' walk_at "d1"
  refine ⟨k, n + 1, _, y1, rfl, by omega, by omega, set_same lt, b1, by omega, fun place y2 p0 p1 b2 => ?_⟩
  rw [set_set]
  repeat' walk_at "d1"
  refine ⟨k, n + 2, _, y2, rfl, by simp; omega, by simp; omega, set_same lt, b2, by omega, fun r y3 r0 r1 b3 => ?_⟩
  rw [set_set]
  refine d2_ixM (.inl rfl) r0 (by simpa using r1) (fun y hy => ?_)
  have sy := hmn y hy
  repeat' walk_at "d1"
  · refine dsl_Sm hz (by omega) fun c1 => ?_
    repeat' walk_at "d1"
    refine d2_addSm c1 sy (by omega) fun c2 => ?_
    repeat' walk_at "d1"
    refine dsl_Sm hz (by omega) fun c3 => d2_addSm c2 c3 (by omega) fun c4 => .inl (q _ _ (c4.mono (by omega)) b3)
  · refine dsl_Sm hz (by omega) fun c1 => ?_
    repeat' walk_at "d1"
    refine d2_addSm c1 sy (by omega) fun c2 => ?_
    repeat' walk_at "d1"
    refine dsl_Sm hz (by omega) fun c3 => d2_addSm c2 c3 (by omega) fun c4 => .inl (q _ _ (c4.mono (by omega)) b3)
  · refine dsl_Sm hz (by omega) fun c1 => ?_
    repeat' walk_at "d1"
    refine dsl_Sm hz (by omega) fun c3 => d2_addSm c1 c3 (by omega) fun c4 => .inl (q _ _ (c4.mono (by omega)) b3)
def pm_draw (K : PySem.W.Frag) : Pm := fun ds ms P X => ∃ (k n : Nat) (xs : List Dat), ds = [.cell k] ∧ ms[k]? = some (.lst xs) ∧ BoxOk n xs ∧ n ≤ 80000 ∧ ∀ z ys, Sm 900 z → BoxOk (n + 300) ys → P (.str z) (ms.set k (.lst ys))
theorem ok_name {f g h i : Addr} {fd fdg fdh fdi : FuncData} (F : Fun K "_law_name" "_law_name" s__law_name f fd) (T : Txt K mg)
    (D__law_take : Df K mg "_law_take" g) (G__law_take : FnG P w K mg base (L2N.CX P w) 1 g fdg ["box", "many"] (spD K (pm_take K))) (b__law_take : Binds K fdg ["box", "many"] [])
    (D__law_signs : Df K mg "_law_signs" h) (G__law_signs : FnG P w K mg base (L2N.CX P w) 2 h fdh ["box", "alphabet", "many"] (spD K (pm_signs K))) (b__law_signs : Binds K fdh ["box", "alphabet", "many"] [])
    (D__law_spoilt : Df K mg "_law_spoilt" i) (G__law_spoilt : FnG P w K mg base (L2N.CX P w) 2 i fdi ["box", "signs", "menu"] (spD K (pm_spoilt K))) (b__law_spoilt : Binds K fdi ["box", "signs", "menu"] []) :
    FnG P w K mg base (L2N.CX P w) 3 f fd ["box"] (spD K (pm_draw K)) := by
  refine fn_dl F sc__law_name (fun ds ms Pd X h => by obtain ⟨_, _, _, rfl, _⟩ := h; rfl) (fun cdv Ar outer s H E hr hq => ?_)
  have tk := (L2N.takes_of (X := cxOf (L2N.CX P w) P w K mg base ["box", "spoil", "many", "signs", "menu"] "_law_name" (defScope s__law_name) f cdv Ar outer s H E) (E := E) rfl rfl rfl rfl)
  refine ⟨_, (pss_cons (ps_par (i := 1) (j := 2) rfl sc__law_name.nd rfl rfl (by decide) rfl rfl (pa_cons (pe_g G__law_take (hr.mono (by decide)) hq rfl D__law_take.m D__law_take.k b__law_take .nil (fun σ => L2N.passAt tk σ) (pa_cons (pv 0) (pa_cons pe_int pa_nil))) (pa_cons (pe_ix (ixK (K := K) (r := rIx) rfl ix_seq) (pe_lst (pa_cons pe_int (pa_cons pe_int (pa_cons pe_int (pa_cons pe_int (pa_cons pe_int (pa_cons pe_int (pa_cons pe_int (pa_cons pe_int pa_nil))))))))) (pe_g G__law_take (hr.mono (by decide)) hq rfl D__law_take.m D__law_take.k b__law_take .nil (fun σ => L2N.passAt tk σ) (pa_cons (pv 0) (pa_cons pe_int pa_nil))) (fun _ _ => rfl)) pa_nil)) (by rfl)) (pss_cons (ps_set (i := 3) sc__law_name.nd rfl (by first | exact Or.inl rfl | exact Or.inr rfl) (pe_g G__law_signs (hr.mono (by decide)) hq rfl D__law_signs.m D__law_signs.k b__law_signs .nil (fun σ => L2N.passAt tk σ) (pa_cons (pv 0) (pa_cons pe_str (pa_cons (pv 2) pa_nil))))) (pss_cons (ps_set (i := 4) sc__law_name.nd rfl (by first | exact Or.inl rfl | exact Or.inr rfl) (pe_lst (pa_cons pe_str (pa_cons pe_str (pa_cons pe_str (pa_cons pe_str (pa_cons pe_str (pa_cons pe_str (pa_cons pe_str (pa_cons pe_str (pa_cons pe_str (pa_cons pe_str (pa_cons pe_str (pa_cons pe_str (pa_cons pe_str pa_nil))))))))))))))) (pss_one (ps_ret (pe_ifExp (pt_cmpR (opK (K := K) (r := rEqA) rfl (op_eqA hr.units)) (pv 1) pe_int (nomark _)) (pe_g G__law_spoilt (hr.mono (by decide)) hq rfl D__law_spoilt.m D__law_spoilt.k b__law_spoilt .nil (fun σ => L2N.passAt tk σ) (pa_cons (pv 0) (pa_cons (pv 3) (pa_cons (pv 4) pa_nil)))) (pv 3))))))), ?_⟩
  try simp only [cxK]
  rintro _ ms Pd Xd ⟨k, n, xs, rfl, hk, hb, hn, q⟩ bl mb
  have lt := ms_lt hk
  repeat' walk_at "d1"
  refine ⟨k, n, 3, xs, rfl, by omega, by omega, hk, hb, by omega, fun spoil y1 w0 w1 b1 => ?_⟩
  repeat' walk_at "d1"
  refine ⟨k, n + 1, _, y1, rfl, by omega, by omega, set_same lt, b1, by omega, fun r y2 p0 p1 b2 => ?_⟩
  rw [set_set]
  refine d2_ixM (f := Dat.int) (vs := [8, 1, 9, 0, 3, 2, 8, 5]) (.inl rfl) p0 (by simpa using p1) (fun many hm => ?_)
  have hmm : 0 ≤ many ∧ many ≤ 100 := (by decide : ∀ v ∈ ([8, 1, 9, 0, 3, 2, 8, 5] : List Int), 0 ≤ v ∧ v ≤ 100) many hm
  clear hm
  repeat' walk_at "d1"
  refine ⟨k, n + 2, _, many, y2, rfl, by decide +kernel, Sm.lit (by decide +kernel), hmm.1, hmm.2, set_same lt, b2, by omega, fun z y3 sz b3 => ?_⟩
  rw [set_set]
  repeat' walk_at "d1"
  · refine ⟨_, _, _, ["A", "Z", "0", "9", " ", "-", "_", "`", "{", "\n", "\t", "a", "z"], _, rfl, (sz.mono (by omega)), by decide, by decide, fun y hy => Sm.lit ((by decide +kernel : ∀ y ∈ (["A", "Z", "0", "9", " ", "-", "_", "`", "{", "\n", "\t", "a", "z"] : List Str), (decide (y.length ≤ 1) && y.cps.toList.all fun c => decide (c < 128)) = true) y hy), set_same lt, b3, by omega, fun z' ys sz' bz' => ?_⟩
    rw [set_set]
    exact .inl (q _ _ sz' (bz'.mono (by omega)))
  · exact .inl (q _ _ (sz.mono (by omega)) (b3.mono (by omega)))
theorem ok_text {f g h i : Addr} {fd fdg fdh fdi : FuncData} (F : Fun K "_law_text" "_law_text" s__law_text f fd) (T : Txt K mg)
    (D__law_take : Df K mg "_law_take" g) (G__law_take : FnG P w K mg base (L2N.CX P w) 1 g fdg ["box", "many"] (spD K (pm_take K))) (b__law_take : Binds K fdg ["box", "many"] [])
    (D__law_signs : Df K mg "_law_signs" h) (G__law_signs : FnG P w K mg base (L2N.CX P w) 2 h fdh ["box", "alphabet", "many"] (spD K (pm_signs K))) (b__law_signs : Binds K fdh ["box", "alphabet", "many"] [])
    (D__law_spoilt : Df K mg "_law_spoilt" i) (G__law_spoilt : FnG P w K mg base (L2N.CX P w) 2 i fdi ["box", "signs", "menu"] (spD K (pm_spoilt K))) (b__law_spoilt : Binds K fdi ["box", "signs", "menu"] []) :
    FnG P w K mg base (L2N.CX P w) 3 f fd ["box"] (spD K (pm_draw K)) := by
  refine fn_dl F sc__law_text (fun ds ms Pd X h => by obtain ⟨_, _, _, rfl, _⟩ := h; rfl) (fun cdv Ar outer s H E hr hq => ?_)
  have tk := (L2N.takes_of (X := cxOf (L2N.CX P w) P w K mg base ["box", "alphabet", "spoil", "many", "signs"] "_law_text" (defScope s__law_text) f cdv Ar outer s H E) (E := E) rfl rfl rfl rfl)
  refine ⟨_, (pss_cons (ps_set (i := 1) sc__law_text.nd rfl (by first | exact Or.inl rfl | exact Or.inr rfl) pe_str) (pss_cons (ps_par (i := 2) (j := 3) rfl sc__law_text.nd rfl rfl (by decide) rfl rfl (pa_cons (pe_g G__law_take (hr.mono (by decide)) hq rfl D__law_take.m D__law_take.k b__law_take .nil (fun σ => L2N.passAt tk σ) (pa_cons (pv 0) (pa_cons pe_int pa_nil))) (pa_cons (pe_ix (ixK (K := K) (r := rIx) rfl ix_seq) (pe_lst (pa_cons pe_int (pa_cons pe_int (pa_cons pe_int (pa_cons pe_int (pa_cons pe_int (pa_cons pe_int (pa_cons pe_int (pa_cons pe_int pa_nil))))))))) (pe_g G__law_take (hr.mono (by decide)) hq rfl D__law_take.m D__law_take.k b__law_take .nil (fun σ => L2N.passAt tk σ) (pa_cons (pv 0) (pa_cons pe_int pa_nil))) (fun _ _ => rfl)) pa_nil)) (by rfl)) (pss_cons (ps_set (i := 4) sc__law_text.nd rfl (by first | exact Or.inl rfl | exact Or.inr rfl) (pe_g G__law_signs (hr.mono (by decide)) hq rfl D__law_signs.m D__law_signs.k b__law_signs .nil (fun σ => L2N.passAt tk σ) (pa_cons (pv 0) (pa_cons (pv 1) (pa_cons (pv 3) pa_nil))))) (pss_one (ps_ret (pe_ifExp (pt_cmpR (opK (K := K) (r := rEqA) rfl (op_eqA hr.units)) (pv 2) pe_int (nomark _)) (pe_g G__law_spoilt (hr.mono (by decide)) hq rfl D__law_spoilt.m D__law_spoilt.k b__law_spoilt .nil (fun σ => L2N.passAt tk σ) (pa_cons (pv 0) (pa_cons (pv 4) (pa_cons (pe_lst (pa_cons pe_str (pa_cons pe_str (pa_cons pe_str (pa_cons pe_str (pa_cons pe_str pa_nil)))))) pa_nil)))) (pv 4))))))), ?_⟩
  try simp only [cxK]
  rintro _ ms Pd Xd ⟨k, n, xs, rfl, hk, hb, hn, q⟩ bl mb
  have lt := ms_lt hk
  repeat' walk_at "d1"
  refine ⟨k, n, 3, xs, rfl, by omega, by omega, hk, hb, by omega, fun spoil y1 w0 w1 b1 => ?_⟩
  repeat' walk_at "d1"
  refine ⟨k, n + 1, _, y1, rfl, by omega, by omega, set_same lt, b1, by omega, fun r y2 p0 p1 b2 => ?_⟩
  rw [set_set]
  refine d2_ixM (f := Dat.int) (vs := [40, 0, 41, 1, 39, 7, 40, 12]) (.inl rfl) p0 (by simpa using p1) (fun many hm => ?_)
  have hmm : 0 ≤ many ∧ many ≤ 100 := (by decide : ∀ v ∈ ([40, 0, 41, 1, 39, 7, 40, 12] : List Int), 0 ≤ v ∧ v ≤ 100) many hm
  clear hm
  repeat' walk_at "d1"
  refine ⟨k, n + 2, _, many, y2, rfl, by decide +kernel, Sm.lit (by decide +kernel), hmm.1, hmm.2, set_same lt, b2, by omega, fun z y3 sz b3 => ?_⟩
  rw [set_set]
  repeat' walk_at "d1"
  · refine ⟨_, _, _, ["\n", "\t", " ", "~", "A"], _, rfl, (sz.mono (by omega)), by decide, by decide, fun y hy => Sm.lit ((by decide +kernel : ∀ y ∈ (["\n", "\t", " ", "~", "A"] : List Str), (decide (y.length ≤ 1) && y.cps.toList.all fun c => decide (c < 128)) = true) y hy), set_same lt, b3, by omega, fun z' ys sz' bz' => ?_⟩
    rw [set_set]
    exact .inl (q _ _ sz' (bz'.mono (by omega)))
  · exact .inl (q _ _ (sz.mono (by omega)) (b3.mono (by omega)))
theorem ok_figures {f g h i : Addr} {fd fdg fdh fdi : FuncData} (F : Fun K "_law_figures" "_law_figures" s__law_figures f fd) (T : Txt K mg)
    (D__law_take : Df K mg "_law_take" g) (G__law_take : FnG P w K mg base (L2N.CX P w) 1 g fdg ["box", "many"] (spD K (pm_take K))) (b__law_take : Binds K fdg ["box", "many"] [])
    (D__law_signs : Df K mg "_law_signs" h) (G__law_signs : FnG P w K mg base (L2N.CX P w) 2 h fdh ["box", "alphabet", "many"] (spD K (pm_signs K))) (b__law_signs : Binds K fdh ["box", "alphabet", "many"] [])
    (D__law_spoilt : Df K mg "_law_spoilt" i) (G__law_spoilt : FnG P w K mg base (L2N.CX P w) 2 i fdi ["box", "signs", "menu"] (spD K (pm_spoilt K))) (b__law_spoilt : Binds K fdi ["box", "signs", "menu"] []) :
    FnG P w K mg base (L2N.CX P w) 3 f fd ["box"] (spD K (pm_draw K)) := by
  refine fn_dl F sc__law_figures (fun ds ms Pd X h => by obtain ⟨_, _, _, rfl, _⟩ := h; rfl) (fun cdv Ar outer s H E hr hq => ?_)
  have tk := (L2N.takes_of (X := cxOf (L2N.CX P w) P w K mg base ["box", "spoil", "many", "word", "heads", "signs"] "_law_figures" (defScope s__law_figures) f cdv Ar outer s H E) (E := E) rfl rfl rfl rfl)
  refine ⟨_, (pss_cons (ps_par (i := 1) (j := 2) rfl sc__law_figures.nd rfl rfl (by decide) rfl rfl (pa_cons (pe_g G__law_take (hr.mono (by decide)) hq rfl D__law_take.m D__law_take.k b__law_take .nil (fun σ => L2N.passAt tk σ) (pa_cons (pv 0) (pa_cons pe_int pa_nil))) (pa_cons (pe_ix (ixK (K := K) (r := rIx) rfl ix_seq) (pe_lst (pa_cons pe_int (pa_cons pe_int (pa_cons pe_int (pa_cons pe_int (pa_cons pe_int (pa_cons pe_int (pa_cons pe_int (pa_cons pe_int pa_nil))))))))) (pe_g G__law_take (hr.mono (by decide)) hq rfl D__law_take.m D__law_take.k b__law_take .nil (fun σ => L2N.passAt tk σ) (pa_cons (pv 0) (pa_cons pe_int pa_nil))) (fun _ _ => rfl)) pa_nil)) (by rfl)) (pss_cons (ps_set (i := 3) sc__law_figures.nd rfl (by first | exact Or.inl rfl | exact Or.inr rfl) (pe_op op_addA (pe_ix (ixK (K := K) (r := rIx) rfl ix_seq) (pe_lst (pa_cons pe_str (pa_cons pe_str (pa_cons pe_str (pa_cons pe_str (pa_cons pe_str (pa_cons pe_str (pa_cons pe_str (pa_cons pe_str (pa_cons pe_str pa_nil)))))))))) (pe_g G__law_take (hr.mono (by decide)) hq rfl D__law_take.m D__law_take.k b__law_take .nil (fun σ => L2N.passAt tk σ) (pa_cons (pv 0) (pa_cons pe_int pa_nil))) (fun _ _ => rfl)) (pe_g G__law_signs (hr.mono (by decide)) hq rfl D__law_signs.m D__law_signs.k b__law_signs .nil (fun σ => L2N.passAt tk σ) (pa_cons (pv 0) (pa_cons pe_str (pa_cons (pv 2) pa_nil)))))) (pss_cons (ps_set (i := 4) sc__law_figures.nd rfl (by first | exact Or.inl rfl | exact Or.inr rfl) (pe_lst (pa_cons pe_str (pa_cons pe_str (pa_cons pe_str (pa_cons pe_str (pa_cons pe_str (pa_cons pe_str (pa_cons pe_str (pa_cons pe_str pa_nil)))))))))) (pss_cons (ps_set (i := 5) sc__law_figures.nd rfl (by first | exact Or.inl rfl | exact Or.inr rfl) (pe_op op_addA (pe_ix (ixK (K := K) (r := rIx) rfl ix_seq) (pv 4) (pe_g G__law_take (hr.mono (by decide)) hq rfl D__law_take.m D__law_take.k b__law_take .nil (fun σ => L2N.passAt tk σ) (pa_cons (pv 0) (pa_cons pe_int pa_nil))) (fun _ _ => rfl)) (pv 3))) (pss_one (ps_ret (pe_ifExp (pt_cmpR (opK (K := K) (r := rEqA) rfl (op_eqA hr.units)) (pv 1) pe_int (nomark _)) (pe_g G__law_spoilt (hr.mono (by decide)) hq rfl D__law_spoilt.m D__law_spoilt.k b__law_spoilt .nil (fun σ => L2N.passAt tk σ) (pa_cons (pv 0) (pa_cons (pv 5) (pa_cons (pe_lst (pa_cons pe_str (pa_cons pe_str (pa_cons pe_str (pa_cons pe_str (pa_cons pe_str (pa_cons pe_str (pa_cons pe_str (pa_cons pe_str (pa_cons pe_str (pa_cons pe_str pa_nil))))))))))) pa_nil)))) (pv 5)))))))), ?_⟩
  try simp only [cxK]
  rintro _ ms Pd Xd ⟨k, n, xs, rfl, hk, hb, hn, q⟩ bl mb
  have lt := ms_lt hk
  repeat' walk_at "d1"
  refine ⟨k, n, 3, xs, rfl, by omega, by omega, hk, hb, by omega, fun spoil y1 w0 w1 b1 => ?_⟩
  repeat' walk_at "d1"
  refine ⟨k, n + 1, _, y1, rfl, by omega, by omega, set_same lt, b1, by omega, fun r y2 p0 p1 b2 => ?_⟩
  rw [set_set]
  refine d2_ixM (f := Dat.int) (vs := [1, 9, 10, 0, 2, 5, 8, 0]) (.inl rfl) p0 (by simpa using p1) (fun many hm => ?_)
  have hmm : 0 ≤ many ∧ many ≤ 100 := (by decide : ∀ v ∈ ([1, 9, 10, 0, 2, 5, 8, 0] : List Int), 0 ≤ v ∧ v ≤ 100) many hm
  clear hm
  repeat' walk_at "d1"
  refine ⟨k, n + 2, _, y2, rfl, by omega, by omega, set_same lt, b2, by omega, fun r2 y3 p2 p3 b3 => ?_⟩
  rw [set_set]
  refine d2_ixM (f := Dat.str) (vs := ["", "", "", "", "", "", "0", "0", "00"]) (.inl rfl) p2 (by simpa using p3) (fun v hv => ?_)
  have sv : Sm 2 v := Sm.lit ((by decide +kernel : ∀ y ∈ (["", "", "", "", "", "", "0", "0", "00"] : List Str), (decide (y.length ≤ 2) && y.cps.toList.all fun c => decide (c < 128)) = true) v hv)
  clear hv
  repeat' walk_at "d1"
  refine ⟨k, n + 3, _, many, y3, rfl, by decide +kernel, Sm.lit (by decide +kernel), hmm.1, hmm.2, set_same lt, b3, by omega, fun z y4 sz b4 => ?_⟩
  rw [set_set]
  refine d2_addSm sv sz (by omega) fun s1 => ?_
  repeat' walk_at "d1"
  refine ⟨k, n + 103, _, y4, rfl, by omega, by omega, set_same lt, b4.mono (by omega), by omega, fun r3 y5 p4 p5 b5 => ?_⟩
  rw [set_set]
  refine d2_ixM (f := Dat.str) (vs := ["round ", "round ", "round ", "round ", "Round ", "round", "round  ", "rounds "]) (.inl rfl) p4 (by simpa using p5) (fun v2 hv => ?_)
  have sv2 : Sm 7 v2 := Sm.lit ((by decide +kernel : ∀ y ∈ (["round ", "round ", "round ", "round ", "Round ", "round", "round  ", "rounds "] : List Str), (decide (y.length ≤ 7) && y.cps.toList.all fun c => decide (c < 128)) = true) v2 hv)
  clear hv
  repeat' walk_at "d1"
  refine d2_addSm sv2 s1 (by omega) fun s2 => ?_
  repeat' walk_at "d1"
  · refine ⟨_, _, _, ["0", "7", " ", "-", "+", "a", "\n", "\t", "_", "."], _, rfl, (s2.mono (by omega)), by decide, by decide, fun y hy => Sm.lit ((by decide +kernel : ∀ y ∈ (["0", "7", " ", "-", "+", "a", "\n", "\t", "_", "."] : List Str), (decide (y.length ≤ 1) && y.cps.toList.all fun c => decide (c < 128)) = true) y hy), set_same lt, b5, by omega, fun z' ys sz' bz' => ?_⟩
    rw [set_set]
    exact .inl (q _ _ sz' (bz'.mono (by omega)))
  · exact .inl (q _ _ (s2.mono (by omega)) (b5.mono (by omega)))
end
end K01
namespace K01
open PySem PySem.Spec PyProof.Rows L2 DL
local macro_rules | `(tactic| walk_at "hyp") => `(tactic| (first
  | (simp only [Bool.not_eq_true', Bool.not_eq_false', decide_eq_true_eq, decide_eq_false_iff_not, Bool.or_eq_true, Bool.and_eq_true, Bool.or_eq_false_iff, Bool.not_true, Bool.not_false, Bool.and_eq_false_iff] at *)
  | skip))
local macro_rules | `(tactic| walk_at "d1") => `(tactic| first
  | with_reducible refine ds_seq ?_
  | with_reducible refine ds_if ?_
  | with_reducible refine ds_ret ?_
  | with_reducible refine ds_set ?_
  | with_reducible refine ds_drop ?_
  | with_reducible refine ds_par ?_
  | with_reducible refine ds_par3 ?_
  | with_reducible refine ds_next ?_
  | with_reducible refine de_var rfl ?_
  | with_reducible refine de_int ?_
  | with_reducible refine de_str ?_
  | with_reducible refine de_bl ?_
  | with_reducible refine de_non ?_
  | with_reducible refine de_ty ?_
  | with_reducible refine de_ref ?_
  | with_reducible refine de_op ?_
  | with_reducible refine de_chain ?_
  | with_reducible refine de_un ?_
  | with_reducible refine de_dnew ?_
  | with_reducible refine de_disp1 ?_
  | with_reducible refine de_cb ?_
  | with_reducible refine de_bm ?_
  | with_reducible refine de_sl ?_
  | with_reducible refine de_tup ?_
  | with_reducible refine de_lst ?_
  | with_reducible refine de_fstr ?_
  | with_reducible refine de_fmtS ?_
  | with_reducible refine dj_cons ?_
  | with_reducible refine dj_nil ?_
  | with_reducible refine do_none ?_
  | with_reducible refine do_some ?_
  | with_reducible refine de_g0 (dds := []) (fun _ => .nil) ?_
  | with_reducible refine de_g (dds := []) (fun _ => .nil) ?_
  | with_reducible refine de_lc ?_
  | with_reducible refine di_str ?_
  | with_reducible refine di_tup ?_
  | with_reducible refine de_notV ?_
  | with_reducible refine de_andV ?_
  | with_reducible refine de_orV ?_
  | with_reducible refine de_if ?_
  | with_reducible refine dt_test ?_
  | with_reducible refine dt_B ?_
  | with_reducible refine dt_and ?_
  | with_reducible refine dt_or ?_
  | with_reducible refine dt_not ?_
  | with_reducible refine dt_yes ?_
  | with_reducible refine da_cons ?_
  | with_reducible refine da_nil ?_
  | with_reducible refine d2_leI ?_
  | with_reducible refine d2_ltI ?_
  | with_reducible refine d2_geI ?_
  | with_reducible refine d2_gtI ?_
  | with_reducible refine d2_addI ?_
  | with_reducible refine d2_sub ?_
  | ((with_reducible refine' d2_leS1 (sign1_cps _) ?hs1 ?_); (case hs1 => first | exact sg_a | exact sg_z | exact sg_sp | exact sg_ti))
  | ((with_reducible refine' d2_leS1 ?hs1 (sign1_cps _) ?_); (case hs1 => first | exact sg_a | exact sg_z | exact sg_sp | exact sg_ti))
  | with_reducible refine dr_int ?_
  | with_reducible refine dr_abs ?_
  | with_reducible refine dg_sub ?_
  | ((with_reducible refine' d2_ix ?hsq ?hix ?_); (case hsq => assumption); (case hix => rfl))
  | ((with_reducible refine' d2_mod ?hmod ?_); (case hmod => first | decide | omega))
  | ((with_reducible refine' d2_mul ?hmul ?_); (case hmul => exact mul_ok (by omega) (by omega)))
  | ((with_reducible refine' d2_div ?hdiv ?_); (case hdiv => exact div_ok (by first | decide | omega) (by omega)))
  | ((with_reducible refine' d2_pow ?hpow ?_); (case hpow => exact pow_ok (by decide) (by decide) (by omega)))
  | with_reducible refine d2_notI ?_
  | with_reducible refine d2_notSt ?_
  | with_reducible refine d2_notNn ?_
  | with_reducible refine d2_notT ?_
  | with_reducible refine d2_isI ?_
  | with_reducible refine d2_isNn ?_
  | with_reducible refine d2_isT ?_
  | with_reducible refine d2_neI ?_
  | with_reducible refine d2_eqI ?_
  | with_reducible refine d2_eqS ?_
  | with_reducible refine d2_neS ?_
  | with_reducible refine dr_isiK (by assumption) (by decide) (by first | assumption | exact isTyD_str _ | exact isTyD_tup _ | rfl) ?_
  | with_reducible refine dr_lenT ?_
  | with_reducible refine dr_lenL ?_
  | with_reducible refine dr_lenR ?_
  | with_reducible refine dr_lenC (by assumption) ?_
  | with_reducible refine ds_to ?_
  | with_reducible refine dg_name (by decide) ?_
  | with_reducible refine dg_tup2 ?_
  | with_reducible refine dg_tup3 ?_
  | with_reducible refine dg_tup4 ?_
  | with_reducible refine dgs_cons ?_
  | with_reducible refine dgs_nil ?_
  | with_reducible refine dr_lenS (by omega) ?_
  | with_reducible refine ⟨_, rfl, ?_⟩
  | with_reducible refine ⟨_, _, rfl, ?_⟩
  | with_reducible refine ⟨tyD_str, ?_⟩
  | with_reducible refine ⟨by omega, ?_⟩
  | with_reducible refine ⟨by (simp only [PySem.Str.length_append, len_empty, len_sp, List.length_cons, List.length_nil, List.length_append]; omega), ?_⟩
  | with_reducible refine bothT ?_
  | with_reducible refine bothF ?_
  | with_reducible refine bothNT ?_
  | with_reducible refine bothNF ?_
  | (with_reducible refine both (fun hc => ?_) (fun hc => ?_) <;> (try simp only [Bool.not_eq_true', Bool.not_eq_false', decide_eq_true_eq, decide_eq_false_iff_not] at hc) <;> (try (exfalso; omega)) <;> (try exact absurd rfl hc) <;> (try exact absurd trivial hc)))

local macro_rules | `(tactic| walk_at "sm") => `(tactic| first
  | with_reducible refine di_lst ?_
  | with_reducible refine as_lst ?_
  | ((with_reducible refine' d2_addSm ?hs1 ?hs2 ?hs3 (fun hs => ?_)); (case hs1 => assumption); (case hs2 => assumption); (case hs3 => omega))
  | ((with_reducible refine' d2_addL ?hal ?_); (case hal => (simp; try omega)))
  | with_reducible refine d1_neg ?_)

abbrev s__law_name_due : Stmt := (topS 30)
theorem sc__law_name_due : FnScope ["value", "sign"] ["value"] (defScope s__law_name_due) := ⟨rfl, rfl, rfl, by decide +kernel, rfl, by decide +kernel, by decide +kernel⟩
abbrev s__law_text_due : Stmt := (topS 31)
theorem sc__law_text_due : FnScope ["value", "sign"] ["value"] (defScope s__law_text_due) := ⟨rfl, rfl, rfl, by decide +kernel, rfl, by decide +kernel, by decide +kernel⟩
abbrev s__law_line_due : Stmt := (topS 32)
theorem sc__law_line_due : FnScope ["value"] ["value"] (defScope s__law_line_due) := ⟨rfl, rfl, rfl, by decide +kernel, rfl, by decide +kernel, by decide +kernel⟩
abbrev s__law_round_due : Stmt := (topS 33)
theorem sc__law_round_due : FnScope ["value", "word", "sign"] ["value"] (defScope s__law_round_due) := ⟨rfl, rfl, rfl, by decide +kernel, rfl, by decide +kernel, by decide +kernel⟩
abbrev s__law_read_due : Stmt := (topS 34)
theorem sc__law_read_due : FnScope ["value", "place", "line", "k"] ["value"] (defScope s__law_read_due) := ⟨rfl, rfl, rfl, by decide +kernel, rfl, by decide +kernel, by decide +kernel⟩
abbrev s__law_yes : Stmt := (topS 35)
theorem sc__law_yes : FnScope ["answer", "due"] ["answer", "due"] (defScope s__law_yes) := ⟨rfl, rfl, rfl, by decide +kernel, rfl, by decide +kernel, by decide +kernel⟩
abbrev s__law_same : Stmt := (topS 37)
theorem sc__law_same : FnScope ["kept", "thing"] ["kept", "thing"] (defScope s__law_same) := ⟨rfl, rfl, rfl, by decide +kernel, rfl, by decide +kernel, by decide +kernel⟩
section
variable {P : Program} {w : World} {K : PySem.W.Frag} {mg : Str → Option Value} {base : Heap}
theorem cxHK {a b c d e f g h i j k l m n o p} {E : XK} : (L2H.cxH a b c d e f g h i j k l m n o E p).K = d := rfl
theorem all_filter {l : List Nat} (p : Nat → Bool) : (l.filter fun c => !p c).isEmpty = l.all p := by
  induction l with
  | nil => rfl
  | cons c l ih => cases h : p c <;> simp [h, ih]
theorem map_signs (l : List Nat) : (l.map fun c => Dat.str (sign1 c)) = (l.map sign1).map Dat.str := by rw [List.map_map]; rfl
theorem signs_low {l : List Nat} (h : ∀ c ∈ l, c < 128) : ∀ z ∈ l.map sign1, ∀ c ∈ z.cps.toList, c < 128 := by
  intro z hz c hc
  obtain ⟨d, hd, rfl⟩ := List.mem_map.mp hz
  cases List.mem_singleton.mp (show c ∈ [d] from hc)
  exact h _ hd
theorem ok_name_due {f : Addr} {fd : FuncData} (F : Fun K "_law_name_due" "_law_name_due" s__law_name_due f fd) (T : Txt K mg) :
    FnG P w K mg base (L2N.CX P w) 1 f fd ["value"] (spD K (pm_is_name K)) := by
  refine fn_dl F sc__law_name_due (fun ds ms Pd X h => by obtain ⟨d, rfl, _⟩ := h; rfl) (fun cdv Ar outer s H E hr hq => ?_)
  have tk := (L2N.takes_of (X := cxOf (L2N.CX P w) P w K mg base ["value", "sign"] "_law_name_due" (defScope s__law_name_due) f cdv Ar outer s H E) (E := E) rfl rfl rfl rfl)
  refine ⟨_, (pss_cons (ps_if (PW.pt (pw_or (pt_not (pt_val (pe_callB (crK (K := K) (r := rIsiX) rfl call_isiX) (by rfl) T.b_isinstance bt_isinstance (pa_cons (pv 0) (pa_cons (pe_bltn (v := .ty "str") rfl T.b_str bt_str rfl) pa_nil))))) (pw_or1 (pt_not (pt_chain op_leA op_leA pe_int (pe_callB (crK (K := K) (r := rLenK) rfl call_len) (by rfl) T.b_len bt_len (pa_cons (pv 0) pa_nil)) pe_int))))) (pss_one (ps_ret pe_bl)) pss_nil) (pss_one (ps_ret (pe_cmpR (opK (K := K) (r := rEqA) rfl (op_eqA hr.units)) (pe_lc (own := [("sign", 1)]) rfl sc__law_name_due.nd (pi_str (pv 0)) (blkOk_by (own := [("sign", 1)]) (N := ["value", "sign"]) (sc := defScope s__law_name_due) (by decide +kernel)) (fun _ _ _ _ _ => (pg_name (i := 1) sc__law_name_due.nd rfl (by first | exact Or.inl rfl | exact Or.inr rfl))) (fun _ _ _ _ _ => pts_one (pt_not (pt_chain op_leA op_leA pe_int (pe_callB call_ord (by rfl) T.b_ord bt_ord (pa_cons (pv 1) pa_nil)) pe_int))) (fun _ _ _ _ _ => (pv 1))) (pe_lst pa_nil) (nomark _))))), ?_⟩
  try simp only [cxK]
  rintro _ ms Pd Xd ⟨d, rfl, hv, q⟩ bl mb
  cases ht : isTyD ms d "str" with
  | false =>
    repeat' walk_at "d1"
    rw [isName_no ht] at q
    exact .inl q
  | true =>
    obtain ⟨z, rfl⟩ := isStr ht
    have hl := strLen z
    have hn := hv.len
    have e : isName (.str z) = (decide (1 ≤ z.length) && decide (z.length ≤ 8) && z.cps.toList.all nameC) := rfl
    rw [e] at q
    repeat' walk_at "d1"
    · exact fin_b q (by simp; omega)
    · refine lcw_str (by omega) (fun c => !nameC c) (fun c => .str (sign1 c)) (fun c hc => dg_name (by decide) ?_) ?_
      · repeat' walk_at "d1"
        refine dr_ord ?_
        repeat' walk_at "d1"
        · rename_i h1
          exact ⟨by unfold nameC; rw [Bool.eq_iff_iff]; simp; omega, rfl, fun _ => de_var rfl ⟨rfl, rfl⟩⟩
        · rename_i h1
          exact ⟨by unfold nameC; rw [Bool.eq_iff_iff]; simp; omega, rfl, fun _ => de_var rfl ⟨rfl, rfl⟩⟩
      · repeat' walk_at "d1"
        rw [map_signs]
        refine d2_eqNilS rfl (signs_low fun c hc => hv.sig c ((List.mem_filter.mp hc).1)) (fin_b q ?_)
        rw [List.isEmpty_map, all_filter]
        simp; omega
    · exact fin_b q (by simp; omega)
theorem okH_name_due {f : Addr} {fd : FuncData} (F : Fun K "_law_name_due" "_law_name_due" s__law_name_due f fd) (T : Txt K mg) :
    FnGH P w K mg base (L2N.CX P w) 1 f fd ["value"] (spD K (pm_is_name K)) := by
  refine fn_dlH F sc__law_name_due (fun ds ms Pd X h => by obtain ⟨d, rfl, _⟩ := h; rfl) (fun cdv Ar outer s H E p hot hrh hq => ?_)
  have hc : L2H.HotC (L2H.cxH (L2N.CX P w) P w K mg base ["value", "sign"] "_law_name_due" (defScope s__law_name_due) f cdv Ar outer s H E p) := ⟨p, hot, List.mem_singleton.mpr rfl⟩
  have hun : (Ar.deeper (envOfC "_law_name_due" (defScope s__law_name_due) s.heap.objs.size f cdv)).units + 64 < cLine := by have := hrh.un; omega
  refine ⟨_, (pss_cons (ps_if (PW.pt (pw_or (pt_not (pt_val (pe_callB (crK (K := K) (r := rIsiX) rfl call_isiX) (by rfl) T.b_isinstance bt_isinstance (pa_cons (pv 0) (pa_cons (pe_bltn (v := .ty "str") rfl T.b_str bt_str rfl) pa_nil))))) (pw_or1 (pt_not (pt_chain op_leA op_leA pe_int (pe_callB (crK (K := K) (r := rLenK) rfl call_len) (by rfl) T.b_len bt_len (pa_cons (pv 0) pa_nil)) pe_int))))) (pss_one (ps_ret pe_bl)) pss_nil) (pss_one (ps_ret (pe_cmpR (opK (K := K) (r := rEqA) rfl (op_eqA hun)) (pe_lcH (own := [("sign", 1)]) hc sc__law_name_due.nd (pi_strH (pv 0)) (blkOk_by (own := [("sign", 1)]) (N := ["value", "sign"]) (sc := defScope s__law_name_due) (by decide +kernel)) (fun _ _ _ _ _ => (pg_name (i := 1) sc__law_name_due.nd rfl (by first | exact Or.inl rfl | exact Or.inr rfl))) (fun _ _ _ _ _ => pts_one (pt_not (pt_chain op_leA op_leA pe_int (pe_callB call_ord (by rfl) T.b_ord bt_ord (pa_cons (pv 1) pa_nil)) pe_int))) (fun _ _ _ _ _ => (pv 1))) (pe_lst pa_nil) (nomark _))))), ?_⟩
  try simp only [cxK, cxHK]
  rintro _ ms Pd Xd ⟨d, rfl, hv, q⟩ bl mb
  cases ht : isTyD ms d "str" with
  | false =>
    repeat' walk_at "d1"
    rw [isName_no ht] at q
    exact .inl q
  | true =>
    obtain ⟨z, rfl⟩ := isStr ht
    have hl := strLen z
    have hn := hv.len
    have e : isName (.str z) = (decide (1 ≤ z.length) && decide (z.length ≤ 8) && z.cps.toList.all nameC) := rfl
    rw [e] at q
    repeat' walk_at "d1"
    · exact fin_b q (by simp; omega)
    · refine lcw_str (by omega) (fun c => !nameC c) (fun c => .str (sign1 c)) (fun c hc => dg_name (by decide) ?_) ?_
      · repeat' walk_at "d1"
        refine dr_ord ?_
        repeat' walk_at "d1"
        · rename_i h1
          exact ⟨by unfold nameC; rw [Bool.eq_iff_iff]; simp; omega, rfl, fun _ => de_var rfl ⟨rfl, rfl⟩⟩
        · rename_i h1
          exact ⟨by unfold nameC; rw [Bool.eq_iff_iff]; simp; omega, rfl, fun _ => de_var rfl ⟨rfl, rfl⟩⟩
      · repeat' walk_at "d1"
        rw [map_signs]
        refine d2_eqNilS rfl (signs_low fun c hc => hv.sig c ((List.mem_filter.mp hc).1)) (fin_b q ?_)
        rw [List.isEmpty_map, all_filter]
        simp; omega
    · exact fin_b q (by simp; omega)
theorem ok_text_due {f : Addr} {fd : FuncData} (F : Fun K "_law_text_due" "_law_text_due" s__law_text_due f fd) (T : Txt K mg) :
    FnG P w K mg base (L2N.CX P w) 1 f fd ["value"] (spD K (pm_is_text K)) := by
  refine fn_dl F sc__law_text_due (fun ds ms Pd X h => by obtain ⟨d, rfl, _⟩ := h; rfl) (fun cdv Ar outer s H E hr hq => ?_)
  have tk := (L2N.takes_of (X := cxOf (L2N.CX P w) P w K mg base ["value", "sign"] "_law_text_due" (defScope s__law_text_due) f cdv Ar outer s H E) (E := E) rfl rfl rfl rfl)
  refine ⟨_, (pss_cons (ps_if (PW.pt (pw_or (pt_not (pt_val (pe_callB (crK (K := K) (r := rIsiX) rfl call_isiX) (by rfl) T.b_isinstance bt_isinstance (pa_cons (pv 0) (pa_cons (pe_bltn (v := .ty "str") rfl T.b_str bt_str rfl) pa_nil))))) (pw_or1 (pt_cmpR op_gtA (pe_callB (crK (K := K) (r := rLenK) rfl call_len) (by rfl) T.b_len bt_len (pa_cons (pv 0) pa_nil)) pe_int (nomark _))))) (pss_one (ps_ret pe_bl)) pss_nil) (pss_one (ps_ret (pe_cmpR (opK (K := K) (r := rEqA) rfl (op_eqA hr.units)) (pe_lc (own := [("sign", 1)]) rfl sc__law_text_due.nd (pi_str (pv 0)) (blkOk_by (own := [("sign", 1)]) (N := ["value", "sign"]) (sc := defScope s__law_text_due) (by decide +kernel)) (fun _ _ _ _ _ => (pg_name (i := 1) sc__law_text_due.nd rfl (by first | exact Or.inl rfl | exact Or.inr rfl))) (fun _ _ _ _ _ => pts_one (pt_not (pt_chain op_leA op_leA pe_int (pe_callB call_ord (by rfl) T.b_ord bt_ord (pa_cons (pv 1) pa_nil)) pe_int))) (fun _ _ _ _ _ => (pv 1))) (pe_lst pa_nil) (nomark _))))), ?_⟩
  try simp only [cxK]
  rintro _ ms Pd Xd ⟨d, rfl, hv, q⟩ bl mb
  cases ht : isTyD ms d "str" with
  | false =>
    repeat' walk_at "d1"
    rw [show isText d = false from isSigns_no ht] at q
    exact .inl q
  | true =>
    obtain ⟨z, rfl⟩ := isStr ht
    have hl := strLen z
    have hn := hv.len
    have e : isText (.str z) = (decide ((z.length : Int) ≤ 40) && z.cps.toList.all signC) := rfl
    rw [e] at q
    repeat' walk_at "d1"
    · exact fin_b q (by simp; omega)
    · refine lcw_str (by omega) (fun c => !signC c) (fun c => .str (sign1 c)) (fun c hc => dg_name (by decide) ?_) ?_
      · repeat' walk_at "d1"
        refine dr_ord ?_
        repeat' walk_at "d1"
        · rename_i h1
          exact ⟨by unfold signC; rw [Bool.eq_iff_iff]; simp; omega, rfl, fun _ => de_var rfl ⟨rfl, rfl⟩⟩
        · rename_i h1
          exact ⟨by unfold signC; rw [Bool.eq_iff_iff]; simp; omega, rfl, fun _ => de_var rfl ⟨rfl, rfl⟩⟩
      · repeat' walk_at "d1"
        rw [map_signs]
        refine d2_eqNilS rfl (signs_low fun c hc => hv.sig c (List.mem_filter.mp hc).1) (fin_b q ?_)
        rw [List.isEmpty_map, all_filter]
        simp; omega
theorem ok_line_due {f : Addr} {fd : FuncData} {g0 : Addr} {fd0 : FuncData} {g1 : Addr} {fd1 : FuncData} (F : Fun K "_law_line_due" "_law_line_due" s__law_line_due f fd) (T : Txt K mg)
    (D__law_name_due : Df K mg "_law_name_due" g0) (G__law_name_due : FnG P w K mg base (L2N.CX P w) 1 g0 fd0 ["value"] (spD K (pm_is_name K))) (b__law_name_due : Binds K fd0 ["value"] [])
    (D__law_text_due : Df K mg "_law_text_due" g1) (G__law_text_due : FnG P w K mg base (L2N.CX P w) 1 g1 fd1 ["value"] (spD K (pm_is_text K))) (b__law_text_due : Binds K fd1 ["value"] []) :
    FnG P w K mg base (L2N.CX P w) 2 f fd ["value"] (spD K (pm_is_line K)) := by
  refine fn_dl F sc__law_line_due (fun ds ms Pd X h => by obtain ⟨d, rfl, _⟩ := h; rfl) (fun cdv Ar outer s H E hr hq => ?_)
  have tk := (L2N.takes_of (X := cxOf (L2N.CX P w) P w K mg base ["value"] "_law_line_due" (defScope s__law_line_due) f cdv Ar outer s H E) (E := E) rfl rfl rfl rfl)
  refine ⟨_, (pss_one (ps_ret (pe_and (pe_callB (crK (K := K) (r := rIsiX) rfl call_isiX) (by rfl) T.b_isinstance bt_isinstance (pa_cons (pv 0) (pa_cons (pe_bltn (v := .ty "tuple") rfl T.b_tuple bt_tuple rfl) pa_nil))) (pe_and (pe_cmpR (opK (K := K) (r := rEqA) rfl (op_eqA hr.units)) (pe_callB (crK (K := K) (r := rLenK) rfl call_len) (by rfl) T.b_len bt_len (pa_cons (pv 0) pa_nil)) pe_int (nomark _)) (pe_and (pe_g G__law_name_due (hr.mono (by decide)) hq rfl D__law_name_due.m D__law_name_due.k b__law_name_due .nil (fun σ => L2N.passAt tk σ) (pa_cons (pe_ix (ixK (K := K) (r := rIx) rfl ix_seq) (pv 0) pe_int (fun _ _ => rfl)) pa_nil)) (pe_one (pe_g G__law_text_due (hr.mono (by decide)) hq rfl D__law_text_due.m D__law_text_due.k b__law_text_due .nil (fun σ => L2N.passAt tk σ) (pa_cons (pe_ix (ixK (K := K) (r := rIx) rfl ix_seq) (pv 0) pe_int (fun _ _ => rfl)) pa_nil)))))))), ?_⟩
  try simp only [cxK]
  rintro _ ms Pd Xd ⟨d, rfl, hv, q⟩ bl mb
  have hv1 := hv.v
  cases ht : isTyD ms d "tuple" with
  | false =>
    repeat' walk_at "d1"
    rw [isLine_no ht] at q
    exact .inl q
  | true =>
    obtain ⟨xs, rfl⟩ := isTup ht
    by_cases h2 : xs.length = 2
    · match xs, h2 with
      | [a, b], _ =>
        obtain ⟨va, vb⟩ := hv.p a b rfl
        have sq : SeqV ms (.tup [a, b]) [a, b] := .inr (.inl rfl)
        have e : isLine (.tup [a, b]) = (isName a && isText b) := rfl
        rw [e] at q
        repeat' walk_at "d1"
        refine ⟨a, rfl, va, _, rfl, fun h1 => ?_, fun h1 => fin_b q (by rw [h1]; rfl)⟩
        repeat' walk_at "d1"
        exact ⟨b, rfl, vb, fin_b q (by rw [h1]; rfl)⟩
    · have e : isLine (.tup xs) = false := by
        match xs, h2 with
        | [], _ => rfl
        | [_], _ => rfl
        | [a, b], h => exact absurd rfl h
        | _ :: _ :: _ :: _, _ => rfl
      rw [e] at q
      repeat' walk_at "d1"
      · exact .inl q
theorem okH_text_due {f : Addr} {fd : FuncData} (F : Fun K "_law_text_due" "_law_text_due" s__law_text_due f fd) (T : Txt K mg) :
    FnGH P w K mg base (L2N.CX P w) 1 f fd ["value"] (spD K (pm_is_text K)) := by
  refine fn_dlH F sc__law_text_due (fun ds ms Pd X h => by obtain ⟨d, rfl, _⟩ := h; rfl) (fun cdv Ar outer s H E p hot hrh hq => ?_)
  have hc : L2H.HotC (L2H.cxH (L2N.CX P w) P w K mg base ["value", "sign"] "_law_text_due" (defScope s__law_text_due) f cdv Ar outer s H E p) := ⟨p, hot, List.mem_singleton.mpr rfl⟩
  have hun : (Ar.deeper (envOfC "_law_text_due" (defScope s__law_text_due) s.heap.objs.size f cdv)).units + 64 < cLine := by have := hrh.un; omega
  refine ⟨_, (pss_cons (ps_if (PW.pt (pw_or (pt_not (pt_val (pe_callB (crK (K := K) (r := rIsiX) rfl call_isiX) (by rfl) T.b_isinstance bt_isinstance (pa_cons (pv 0) (pa_cons (pe_bltn (v := .ty "str") rfl T.b_str bt_str rfl) pa_nil))))) (pw_or1 (pt_cmpR op_gtA (pe_callB (crK (K := K) (r := rLenK) rfl call_len) (by rfl) T.b_len bt_len (pa_cons (pv 0) pa_nil)) pe_int (nomark _))))) (pss_one (ps_ret pe_bl)) pss_nil) (pss_one (ps_ret (pe_cmpR (opK (K := K) (r := rEqA) rfl (op_eqA hun)) (pe_lcH (own := [("sign", 1)]) hc sc__law_text_due.nd (pi_strH (pv 0)) (blkOk_by (own := [("sign", 1)]) (N := ["value", "sign"]) (sc := defScope s__law_text_due) (by decide +kernel)) (fun _ _ _ _ _ => (pg_name (i := 1) sc__law_text_due.nd rfl (by first | exact Or.inl rfl | exact Or.inr rfl))) (fun _ _ _ _ _ => pts_one (pt_not (pt_chain op_leA op_leA pe_int (pe_callB call_ord (by rfl) T.b_ord bt_ord (pa_cons (pv 1) pa_nil)) pe_int))) (fun _ _ _ _ _ => (pv 1))) (pe_lst pa_nil) (nomark _))))), ?_⟩
  try simp only [cxK, cxHK]
  rintro _ ms Pd Xd ⟨d, rfl, hv, q⟩ bl mb
  cases ht : isTyD ms d "str" with
  | false =>
    repeat' walk_at "d1"
    rw [show isText d = false from isSigns_no ht] at q
    exact .inl q
  | true =>
    obtain ⟨z, rfl⟩ := isStr ht
    have hl := strLen z
    have hn := hv.len
    have e : isText (.str z) = (decide ((z.length : Int) ≤ 40) && z.cps.toList.all signC) := rfl
    rw [e] at q
    repeat' walk_at "d1"
    · exact fin_b q (by simp; omega)
    · refine lcw_str (by omega) (fun c => !signC c) (fun c => .str (sign1 c)) (fun c hc => dg_name (by decide) ?_) ?_
      · repeat' walk_at "d1"
        refine dr_ord ?_
        repeat' walk_at "d1"
        · rename_i h1
          exact ⟨by unfold signC; rw [Bool.eq_iff_iff]; simp; omega, rfl, fun _ => de_var rfl ⟨rfl, rfl⟩⟩
        · rename_i h1
          exact ⟨by unfold signC; rw [Bool.eq_iff_iff]; simp; omega, rfl, fun _ => de_var rfl ⟨rfl, rfl⟩⟩
      · repeat' walk_at "d1"
        rw [map_signs]
        refine d2_eqNilS rfl (signs_low fun c hc => hv.sig c (List.mem_filter.mp hc).1) (fin_b q ?_)
        rw [List.isEmpty_map, all_filter]
        simp; omega
theorem okH_line_due {f : Addr} {fd : FuncData} {g0 : Addr} {fd0 : FuncData} {g1 : Addr} {fd1 : FuncData} (F : Fun K "_law_line_due" "_law_line_due" s__law_line_due f fd) (T : Txt K mg)
    (D__law_name_due : Df K mg "_law_name_due" g0) (H__law_name_due : FnGH P w K mg base (L2N.CX P w) 1 g0 fd0 ["value"] (spD K (pm_is_name K))) (b__law_name_due : Binds K fd0 ["value"] [])
    (D__law_text_due : Df K mg "_law_text_due" g1) (H__law_text_due : FnGH P w K mg base (L2N.CX P w) 1 g1 fd1 ["value"] (spD K (pm_is_text K))) (b__law_text_due : Binds K fd1 ["value"] []) :
    FnGH P w K mg base (L2N.CX P w) 2 f fd ["value"] (spD K (pm_is_line K)) := by
  refine fn_dlH F sc__law_line_due (fun ds ms Pd X h => by obtain ⟨d, rfl, _⟩ := h; rfl) (fun cdv Ar outer s H E p hot hrh hq => ?_)
  have hc : L2H.HotC (L2H.cxH (L2N.CX P w) P w K mg base ["value"] "_law_line_due" (defScope s__law_line_due) f cdv Ar outer s H E p) := ⟨p, hot, List.mem_singleton.mpr rfl⟩
  have hun : (Ar.deeper (envOfC "_law_line_due" (defScope s__law_line_due) s.heap.objs.size f cdv)).units + 64 < cLine := by have := hrh.un; omega
  refine ⟨_, (pss_one (ps_ret (pe_and (pe_callB (crK (K := K) (r := rIsiX) rfl call_isiX) (by rfl) T.b_isinstance bt_isinstance (pa_cons (pv 0) (pa_cons (pe_bltn (v := .ty "tuple") rfl T.b_tuple bt_tuple rfl) pa_nil))) (pe_and (pe_cmpR (opK (K := K) (r := rEqA) rfl (op_eqA hun)) (pe_callB (crK (K := K) (r := rLenK) rfl call_len) (by rfl) T.b_len bt_len (pa_cons (pv 0) pa_nil)) pe_int (nomark _)) (pe_and (pe_gH H__law_name_due (hrh.mono (by decide)) hq hc rfl D__law_name_due.m D__law_name_due.k b__law_name_due .nil (fun σ => passN σ) (pa_cons (pe_ix (ixK (K := K) (r := rIx) rfl ix_seq) (pv 0) pe_int (fun _ _ => rfl)) pa_nil)) (pe_one (pe_gH H__law_text_due (hrh.mono (by decide)) hq hc rfl D__law_text_due.m D__law_text_due.k b__law_text_due .nil (fun σ => passN σ) (pa_cons (pe_ix (ixK (K := K) (r := rIx) rfl ix_seq) (pv 0) pe_int (fun _ _ => rfl)) pa_nil)))))))), ?_⟩
  try simp only [cxK, cxHK]
  rintro _ ms Pd Xd ⟨d, rfl, hv, q⟩ bl mb
  have hv1 := hv.v
  cases ht : isTyD ms d "tuple" with
  | false =>
    repeat' walk_at "d1"
    rw [isLine_no ht] at q
    exact .inl q
  | true =>
    obtain ⟨xs, rfl⟩ := isTup ht
    by_cases h2 : xs.length = 2
    · match xs, h2 with
      | [a, b], _ =>
        obtain ⟨va, vb⟩ := hv.p a b rfl
        have sq : SeqV ms (.tup [a, b]) [a, b] := .inr (.inl rfl)
        have e : isLine (.tup [a, b]) = (isName a && isText b) := rfl
        rw [e] at q
        repeat' walk_at "d1"
        refine ⟨a, rfl, va, _, rfl, fun h1 => ?_, fun h1 => fin_b q (by rw [h1]; rfl)⟩
        repeat' walk_at "d1"
        exact ⟨b, rfl, vb, fin_b q (by rw [h1]; rfl)⟩
    · have e : isLine (.tup xs) = false := by
        match xs, h2 with
        | [], _ => rfl
        | [_], _ => rfl
        | [a, b], h => exact absurd rfl h
        | _ :: _ :: _ :: _, _ => rfl
      rw [e] at q
      repeat' walk_at "d1"
      · exact .inl q
theorem lineIn_of {z a b : Str} (ez : z = a ++ (" " : Str) ++ b) (hno : 32 ∉ a.cps.toList) : lineIn z = if isLine (.tup [.str a, .str b]) = true then some (a, b) else none := by
  have hp : Txt.partition z (Str.ofString " ") = (a, Str.ofString " ", b) := by rw [ez]; exact TL.partition_app (s := 32) (S := []) sg_sp hno
  unfold lineIn; simp only [hp]
  show (if True ∧ isLine (.tup [.str a, .str b]) = true then _ else _) = _
  by_cases c : isLine (.tup [.str a, .str b]) = true
  · rw [if_pos (And.intro True.intro c), if_pos c]
  · rw [if_neg (fun z => c z.2), if_neg c]
theorem lineIn_none {z : Str} (h : 32 ∉ z.cps.toList) : lineIn z = none := by
  have hp : Txt.partition z (Str.ofString " ") = (z, Str.empty, Str.empty) := TL.partition_none (s := 32) (S := []) sg_sp h
  unfold lineIn; simp only [hp]
  rw [if_neg]
  rintro ⟨z1, _⟩
  exact absurd z1 (by decide +kernel)
theorem first_at {a b : List Nat} (h : 32 ∉ a) : ∃ rest, (List.range (a ++ 32 :: b).length).filter (fun i => decide ((a ++ 32 :: b).getD i 0 = 32)) = a.length :: rest := by
  have e : (a ++ 32 :: b).length = a.length + (b.length + 1) := by simp
  rw [e, List.range_add, List.filter_append]
  have n : (List.range a.length).filter (fun i => decide ((a ++ 32 :: b).getD i 0 = 32)) = [] := by
    rw [List.filter_eq_nil_iff]
    intro i hi
    have hi' : i < a.length := List.mem_range.mp hi
    rw [List.getD_eq_getElem?_getD, List.getElem?_append_left hi', List.getElem?_eq_getElem hi']
    simp only [Option.getD_some, decide_eq_true_eq]
    exact fun z => h (z ▸ List.getElem_mem hi')
  rw [n, List.nil_append, List.range_succ_eq_map, List.map_cons, List.filter_cons]
  have p : decide ((a ++ 32 :: b).getD (a.length + 0) 0 = 32) = true := by simp
  rw [if_pos p]
  exact ⟨_, by rw [Nat.add_zero]⟩
theorem d2_notInL {ms : Ms} {Q : Dat → Ms → Prop} {c : Nat} {y z : Str} (hy : y.cps.toList = [c]) (q : Q (.bl (!decide (c ∈ z.cps.toList))) ms) : D2 K (rNotInA K) (.str y) (.str z) ms Q := by
  have : y = sign1 c := str_ext hy
  rw [this]
  exact d2_notInS q
theorem ok_read_due {f : Addr} {fd : FuncData} {g0 : Addr} {fd0 : FuncData} (F : Fun K "_law_read_due" "_law_read_due" s__law_read_due f fd) (T : Txt K mg)
    (D__law_line_due : Df K mg "_law_line_due" g0) (G__law_line_due : FnG P w K mg base (L2N.CX P w) 2 g0 fd0 ["value"] (spD K (pm_is_line K))) (b__law_line_due : Binds K fd0 ["value"] []) :
    FnG P w K mg base (L2N.CX P w) 3 f fd ["value"] (spD K (pm_line_in K)) := by
  refine fn_dl F sc__law_read_due (fun ds ms Pd X h => by obtain ⟨d, rfl, _⟩ := h; rfl) (fun cdv Ar outer s H E hr hq => ?_)
  have tk := (L2N.takes_of (X := cxOf (L2N.CX P w) P w K mg base ["value", "place", "line", "k"] "_law_read_due" (defScope s__law_read_due) f cdv Ar outer s H E) (E := E) rfl rfl rfl rfl)
  refine ⟨_, (pss_cons (ps_if (PW.pt (pw_or (pt_not (pt_val (pe_callB (crK (K := K) (r := rIsiX) rfl call_isiX) (by rfl) T.b_isinstance bt_isinstance (pa_cons (pv 0) (pa_cons (pe_bltn (v := .ty "str") rfl T.b_str bt_str rfl) pa_nil))))) (pw_or1 (pt_cmpR (opK (K := K) (r := rNotInA) rfl op_notInA) pe_str (pv 0) (by rfl))))) (pss_one (ps_ret pe_non)) pss_nil) (pss_cons (ps_set (i := 1) sc__law_read_due.nd rfl (by first | exact Or.inl rfl | exact Or.inr rfl) (pe_ix (ixK (K := K) (r := rIx) rfl ix_seq) (pe_lc (own := [("k", 3)]) rfl sc__law_read_due.nd (pi_range1 rfl T.b_range (pa_cons (pe_callB (crK (K := K) (r := rLenK) rfl call_len) (by rfl) T.b_len bt_len (pa_cons (pv 0) pa_nil)) pa_nil)) (blkOk_by (own := [("k", 3)]) (N := ["value", "place", "line", "k"]) (sc := defScope s__law_read_due) (by decide +kernel)) (fun _ _ _ _ _ => (pg_name (i := 3) sc__law_read_due.nd rfl (by first | exact Or.inl rfl | exact Or.inr rfl))) (fun _ _ _ _ _ => pts_one (pt_cmpR (opK (K := K) (r := rEqA) rfl (op_eqA hr.units)) (pe_ix (ixK (K := K) (r := rIx) rfl ix_seq) (pv 0) (pv 3) (fun _ _ => rfl)) pe_str (nomark _))) (fun _ _ _ _ _ => (pv 3))) pe_int (fun _ _ => rfl))) (pss_cons (ps_set (i := 2) sc__law_read_due.nd rfl (by first | exact Or.inl rfl | exact Or.inr rfl) (pe_tup (pa_cons (pe_slice (slK (K := K) (r := rSlA) rfl sl_A) (pv 0) po_none (po_some (pv 1))) (pa_cons (pe_slice (slK (K := K) (r := rSlA) rfl sl_A) (pv 0) (po_some (pe_op op_addA (pv 1) pe_int)) po_none) pa_nil)))) (pss_one (ps_ret (pe_ifExp (pt_val (pe_g G__law_line_due (hr.mono (by decide)) hq rfl D__law_line_due.m D__law_line_due.k b__law_line_due .nil (fun σ => L2N.passAt tk σ) (pa_cons (pv 2) pa_nil))) (pv 2) pe_non)))))), ?_⟩
  try simp only [cxK]
  rintro _ ms Pd Xd ⟨d, rfl, hv, q⟩ bl mb
  cases ht : isTyD ms d "str" with
  | false =>
    repeat' walk_at "d1"
    rw [lineIn_no ht] at q
    exact .inl q
  | true =>
    obtain ⟨z, rfl⟩ := isStr ht
    have hl := strLen z
    have hn := hv.len
    have hz : (lineInD (.str z)) = lineIn z := rfl
    rw [hz] at q
    repeat' walk_at "d1"
    refine d2_notInL sg_sp ?_
    rcases part_cases z with ⟨hno, hp⟩ | ⟨a, b, ez, hno, hp⟩
    · rw [lineIn_none hno] at q
      rw [decide_eq_false hno]
      repeat' walk_at "d1"
      exact .inl q
    · have ec : z.cps.toList = a.cps.toList ++ 32 :: b.cps.toList := by rw [ez, cps_app, cps_app, sg_sp]; simp
      have hin : 32 ∈ z.cps.toList := by rw [ec]; simp
      rw [lineIn_of ez hno] at q
      rw [decide_eq_true hin]
      have hlen : z.length = a.length + 1 + b.length := by rw [ez]; simp only [PySem.Str.length_append, len_sp]
      repeat' walk_at "d1"
      refine di_rng1 ?_
      repeat' walk_at "d1"
      refine lcw_map (by omega) (fun i => decide (z.cps.toList.getD i 0 = 32)) (fun i => .int (0 + i)) (fun i hi => dg_name (by decide) ?_) ?_
      · have hi' : i < z.cps.toList.length := by omega
        repeat' walk_at "d1"
        rw [Int.zero_add]
        refine d2_ixS (by omega) (atI_nat hi') ?_
        repeat' walk_at "d1"
        refine ⟨?_, rfl, fun _ => de_var rfl ⟨by first | rfl | rw [Int.zero_add], rfl⟩⟩
        rw [List.getD_eq_getElem?_getD, List.getElem?_eq_getElem hi']
        refine decide_eq_decide.mpr ?_
        rw [str_eq, sg_sp]
        simp [sign1]
      · obtain ⟨rest, hr⟩ := first_at (a := a.cps.toList) (b := b.cps.toList) hno
        rw [← ec] at hr
        have e1 : (Int.toNat (z.length : Int)) = z.cps.toList.length := by omega
        rw [e1, hr, List.map_cons]
        refine de_int (d2_ix (.inl rfl) (atI_zero _ _) ?_)
        rw [Int.zero_add, ← strLen]
        have ca : cutS z none (some (a.length : Int)) = a := str_ext (by rw [cut_to, ec, strLen, List.take_left])
        have cb : cutS z (some ((a.length : Int) + 1)) none = b := by
          refine str_ext ?_
          rw [show ((a.length : Int) + 1) = ((a.length + 1 : Nat) : Int) by omega, cut_from, ec, strLen]
          rw [show a.cps.toList ++ 32 :: b.cps.toList = (a.cps.toList ++ [32]) ++ b.cps.toList by simp]
          rw [show a.cps.toList.length + 1 = (a.cps.toList ++ [32]).length by simp, List.drop_left]
        repeat' walk_at "d1"
        refine dsl_str (by omega) ?_
        rw [ca]
        repeat' walk_at "d1"
        refine dsl_str (by omega) ?_
        rw [cb]
        repeat' walk_at "d1"
        refine ⟨_, rfl, ⟨.ty rfl True.intro, fun x y e => ?_⟩, _, rfl, fun h1 => ?_, fun h1 => ?_⟩
        · cases e
          exact ⟨.ty rfl ⟨by omega, fun c hc => hv.sig c (by rw [ez, cps_app, cps_app]; simp [hc])⟩, .ty rfl ⟨by omega, fun c hc => hv.sig c (by rw [ez, cps_app, cps_app]; simp [hc])⟩⟩
        · rw [if_pos h1] at q
          repeat' walk_at "d1"
          exact .inl q
        · rw [if_neg (by rw [h1]; decide)] at q
          repeat' walk_at "d1"
          exact .inl q
theorem isNon_count (w : Str) : isNon (countIn w) = !(decide (1 ≤ w.length) && decide (w.length ≤ 20) && w.cps.toList.all digC && canon w.cps.toList) := by
  unfold countIn
  cases (decide (1 ≤ w.length) && decide (w.length ≤ 20) && w.cps.toList.all digC && canon w.cps.toList) <;> rfl
theorem isRound_is (z : Str) : isRound (.str z) = (decide (cutS z none (some 6) = ("round " : Str)) && (decide (7 ≤ z.length) && decide (z.length ≤ 15)) && (cutS z (some 6) none).cps.toList.all digC && canon (cutS z (some 6) none).cps.toList) := by
  have lr : ("round " : Str).length = 6 := by decide +kernel
  have hs : Txt.startswith z "round " = decide (cutS z none (some 6) = ("round " : Str)) := by
    rw [starts_is, lr]
    exact decide_eq_decide.mpr str_eq.symm
  have lw : (cutS z (some 6) none).length = z.length - 6 := by
    have := cut_from z 6
    rw [strLen, show (some 6 : Option Int) = some ((6 : Nat) : Int) from rfl, this, List.length_drop, ← strLen]
  have e : isRound (.str z) = (Txt.startswith z "round " && (decide ((cutS z (some 6) none).length ≤ 9) && !isNon (countIn (cutS z (some 6) none)))) := rfl
  rw [e, hs, isNon_count, Bool.not_not, lw, Bool.eq_iff_iff]
  simp only [Bool.and_eq_true, decide_eq_true_eq]
  constructor
  · rintro ⟨h1, h2, ⟨⟨h3, h4⟩, h5⟩, h6⟩
    exact ⟨⟨⟨h1, by omega, by omega⟩, h5⟩, h6⟩
  · rintro ⟨⟨⟨h1, h2, h3⟩, h5⟩, h6⟩
    exact ⟨h1, by omega, ⟨⟨by omega, by omega⟩, h5⟩, h6⟩
theorem ok_round_due {f : Addr} {fd : FuncData} (F : Fun K "_law_round_due" "_law_round_due" s__law_round_due f fd) (T : Txt K mg) :
    FnG P w K mg base (L2N.CX P w) 1 f fd ["value"] (spD K (pm_is_round K)) := by
  refine fn_dl F sc__law_round_due (fun ds ms Pd X h => by obtain ⟨d, rfl, _⟩ := h; rfl) (fun cdv Ar outer s H E hr hq => ?_)
  have tk := (L2N.takes_of (X := cxOf (L2N.CX P w) P w K mg base ["value", "word", "sign"] "_law_round_due" (defScope s__law_round_due) f cdv Ar outer s H E) (E := E) rfl rfl rfl rfl)
  refine ⟨_, (pss_cons (ps_if (PW.pt (pw_or (pt_not (pt_val (pe_callB (crK (K := K) (r := rIsiX) rfl call_isiX) (by rfl) T.b_isinstance bt_isinstance (pa_cons (pv 0) (pa_cons (pe_bltn (v := .ty "str") rfl T.b_str bt_str rfl) pa_nil))))) (pw_or (pt_cmpR (opK (K := K) (r := rNeA) rfl (op_neA hr.units)) (pe_slice (slK (K := K) (r := rSlA) rfl sl_A) (pv 0) po_none (po_some pe_int)) pe_str (nomark _)) (pw_or1 (pt_not (pt_chain op_leA op_leA pe_int (pe_callB (crK (K := K) (r := rLenK) rfl call_len) (by rfl) T.b_len bt_len (pa_cons (pv 0) pa_nil)) pe_int)))))) (pss_one (ps_ret pe_bl)) pss_nil) (pss_cons (ps_set (i := 1) sc__law_round_due.nd rfl (by first | exact Or.inl rfl | exact Or.inr rfl) (pe_slice (slK (K := K) (r := rSlA) rfl sl_A) (pv 0) (po_some pe_int) po_none)) (pss_one (ps_ret (pe_and (pe_cmpR (opK (K := K) (r := rEqA) rfl (op_eqA hr.units)) (pe_lc (own := [("sign", 2)]) rfl sc__law_round_due.nd (pi_str (pv 1)) (blkOk_by (own := [("sign", 2)]) (N := ["value", "word", "sign"]) (sc := defScope s__law_round_due) (by decide +kernel)) (fun _ _ _ _ _ => (pg_name (i := 2) sc__law_round_due.nd rfl (by first | exact Or.inl rfl | exact Or.inr rfl))) (fun _ _ _ _ _ => pts_one (pt_not (pt_chain op_leA op_leA pe_int (pe_callB call_ord (by rfl) T.b_ord bt_ord (pa_cons (pv 2) pa_nil)) pe_int))) (fun _ _ _ _ _ => (pv 2))) (pe_lst pa_nil) (nomark _)) (pe_one (pe_or (pe_cmpR (opK (K := K) (r := rEqA) rfl (op_eqA hr.units)) (pv 1) pe_str (nomark _)) (pe_one (pe_cmpR (opK (K := K) (r := rNeA) rfl (op_neA hr.units)) (pe_ix (ixK (K := K) (r := rIx) rfl ix_seq) (pv 1) pe_int (fun _ _ => rfl)) pe_str (nomark _)))))))))), ?_⟩
  try simp only [cxK]
  rintro _ ms Pd Xd ⟨d, rfl, hv, q⟩ bl mb
  cases ht : isTyD ms d "str" with
  | false =>
    repeat' walk_at "d1"
    rw [isRound_no ht] at q
    exact .inl q
  | true =>
    obtain ⟨z, rfl⟩ := isStr ht
    have hl := strLen z
    have hn := hv.len
    rw [isRound_is] at q
    repeat' walk_at "d1"
    refine dsl_str (by omega) ?_
    repeat' walk_at "d1"
    · rename_i h1
      exact fin_b q (by rw [decide_eq_false h1]; rfl)
    · rename_i h1 h2 h3
      have h4 : ¬ z.length ≤ 15 := by omega
      exact fin_b q (by rw [decide_eq_false h4]; simp)
    · rename_i h1 h2 h3
      have hz : Sm 15 z := ⟨by omega, hv.sig⟩
      have hw := hz.cut (some 6) none
      have lw : (cutS z (some 6) none).length = z.length - 6 := by
        have := cut_from z 6
        rw [strLen, show (some 6 : Option Int) = some ((6 : Nat) : Int) from rfl, this, List.length_drop, ← strLen]
      have lw2 := strLen (cutS z (some 6) none)
      refine dsl_str (by omega) ?_
      have e7 : decide (7 ≤ z.length) = true := decide_eq_true (by omega)
      have e15 : decide (z.length ≤ 15) = true := decide_eq_true (by omega)
      rw [decide_eq_true h1, e7, e15] at q
      simp only [Bool.true_and] at q
      generalize cutS z (some 6) none = wd at q hw lw lw2 ⊢
      repeat' walk_at "d1"
      refine lcw_str (by omega) (fun c => !digC c) (fun c => .str (sign1 c)) (fun c hc => dg_name (by decide) ?_) ?_
      · repeat' walk_at "d1"
        refine dr_ord ?_
        repeat' walk_at "d1"
        · rename_i h1
          exact ⟨by unfold digC; rw [Bool.eq_iff_iff]; simp; omega, rfl, fun _ => de_var rfl ⟨rfl, rfl⟩⟩
        · rename_i h1
          exact ⟨by unfold digC; rw [Bool.eq_iff_iff]; simp; omega, rfl, fun _ => de_var rfl ⟨rfl, rfl⟩⟩
      · repeat' walk_at "d1"
        rw [map_signs]
        refine d2_eqNilS rfl (signs_low fun c hc => hw.sig c (List.mem_filter.mp hc).1) ?_
        rw [List.isEmpty_map, all_filter]
        cases hd : wd.cps.toList.all digC with
        | false =>
          repeat' walk_at "d1"
          exact fin_b q (by rw [hd]; rfl)
        | true =>
          rw [hd] at q
          simp only [Bool.true_and] at q
          obtain ⟨c, l, ec⟩ : ∃ c l, wd.cps.toList = c :: l := by
            cases e : wd.cps.toList with
            | nil => rw [e] at lw2; simp at lw2; omega
            | cons c l => exact ⟨c, l, rfl⟩
          have h0 : atI wd.cps.toList 0 = some c := by rw [ec]; exact atI_zero c l
          rw [canon_is ec] at q
          repeat' walk_at "d1"
          · rename_i h
            exact fin_b q (by rw [decide_eq_true h]; rfl)
          · rename_i h
            refine d2_ixS (by omega) h0 ?_
            repeat' walk_at "d1"
            exact fin_b q (by rw [decide_eq_false h]; rfl)
    · rename_i h1 h2
      have h4 : ¬ 7 ≤ z.length := by omega
      exact fin_b q (by rw [decide_eq_false h4]; simp)
def pm_yes (K : PySem.W.Frag) : Pm := fun ds ms P X => ∃ a b : Bool, ds = [.bl a, .bl b] ∧ P (.bl (decide (a = b))) ms
theorem d2_isB1 {ms : Ms} {Q : Dat → Ms → Prop} {a : Bool} (q : Q (.bl a) ms) : D2 K rIsA (.bl a) (.bl true) ms Q := d2_isB (by rw [show decide (a = true) = a by cases a <;> rfl]; exact q)
theorem d2_isB0 {ms : Ms} {Q : Dat → Ms → Prop} {a : Bool} (q : Q (.bl (!a)) ms) : D2 K rIsA (.bl a) (.bl false) ms Q := d2_isB (by rw [show decide (a = false) = !a by cases a <;> rfl]; exact q)
theorem ok_yes {f : Addr} {fd : FuncData} (F : Fun K "_law_yes" "_law_yes" s__law_yes f fd) (T : Txt K mg) :
    FnG P w K mg base (L2N.CX P w) 1 f fd ["answer", "due"] (spD K (pm_yes K)) := by
  refine fn_dl F sc__law_yes (fun ds ms Pd X h => by obtain ⟨a, b, rfl, _⟩ := h; rfl) (fun cdv Ar outer s H E hr hq => ?_)
  have tk := (L2N.takes_of (X := cxOf (L2N.CX P w) P w K mg base ["answer", "due"] "_law_yes" (defScope s__law_yes) f cdv Ar outer s H E) (E := E) rfl rfl rfl rfl)
  refine ⟨_, (pss_one (ps_ret (pe_ifExp (pt_val (pv 1)) (pe_cmpR op_isA (pv 0) pe_bl (nomark _)) (pe_cmpR op_isA (pv 0) pe_bl (nomark _))))), ?_⟩
  try simp only [cxK]
  rintro _ ms Pd Xd ⟨a, b, rfl, q⟩ bl mb
  repeat' walk_at "d1"
  · refine d2_isB1 (fin_b q ?_)
    rename_i h
    subst h
    cases a <;> rfl
  · refine d2_isB0 (fin_b q ?_)
    rename_i h
    subst h
    cases a <;> rfl
/-- no built-in's value is of the class -/
def KitNo (K : PySem.W.Frag) (C : Addr) : Prop := ∀ T ∈ (["NoneType", "bool", "int", "str", "list", "tuple", "dict"] : List String), PySem.W.kitOne K (.type T) (.ref C) = some false
/-- what repr can show -/
inductive Rp (C : Addr) (ms : Ms) : Dat → Prop
  | py {d : Dat} {p : PyData} (v : ∃ T, tyOf ms d = some T) (h : PyV ms d p) (s : Shows p) : Rp C ms d
  | dct {kvs : List (Str × Str)} (h : (shownS kvs).length ≤ 1000000) : Rp C ms (dctS kvs)
  | ex : Rp C ms (.exc C [("given", .str "x")])
def pm_same (K : PySem.W.Frag) (C : Addr) : Pm := fun ds ms P X => ∃ d, ds = [d, d] ∧ Rp C ms d ∧ P (.bl true) ms
theorem ok_same {f : Addr} {fd : FuncData} {C fI L : Addr} {fdI : FuncData} (E_InvalidText : ErrT K mg "InvalidText" "given" C fI fdI) (M_LostError : mg "LostError" = some (.ref L)) (nC : KitNo K C) (nL : KitNo K L) (yC : PySem.W.kitOne K (.ref C) (.ref C) = some true) (F : Fun K "_law_same" "_law_same" s__law_same f fd) (T : Txt K mg) :
    FnG P w K mg base (L2N.CX P w) 1 f fd ["kept", "thing"] (spD K (pm_same K C)) := by
  have M_InvalidText := E_InvalidText.m
  refine fn_dl F sc__law_same (fun ds ms Pd X h => by obtain ⟨d, rfl, _⟩ := h; rfl) (fun cdv Ar outer s H E hr hq => ?_)
  have tk := (L2N.takes_of (X := cxOf (L2N.CX P w) P w K mg base ["kept", "thing"] "_law_same" (defScope s__law_same) f cdv Ar outer s H E) (E := E) rfl rfl rfl rfl)
  refine ⟨_, (pss_cons (ps_if (pt_val (pe_callB (crK (K := K) (r := rIsiX) rfl call_isiX) (by rfl) T.b_isinstance bt_isinstance (pa_cons (pv 1) (pa_cons (pe_glob (v := .ref _) rfl M_InvalidText rfl) pa_nil)))) (pss_one (ps_ret (pe_and (pe_callB (crK (K := K) (r := rIsiX) rfl call_isiX) (by rfl) T.b_isinstance bt_isinstance (pa_cons (pv 0) (pa_cons (pe_glob (v := .ref _) rfl M_InvalidText rfl) pa_nil))) (pe_one (pe_cmpR (opK (K := K) (r := rEqA) rfl (op_eqA hr.units)) (pe_fldE (pv 0)) pe_str (nomark _)))))) pss_nil) (pss_one (ps_ret (pe_and (pe_not (pe_callB (crK (K := K) (r := rIsiX) rfl call_isiX) (by rfl) T.b_isinstance bt_isinstance (pa_cons (pv 0) (pa_cons (pe_glob (v := .ref _) rfl M_LostError rfl) pa_nil)))) (pe_one (pe_cmpR (opK (K := K) (r := rEqA) rfl (op_eqA hr.units)) (pe_callB (crK (K := K) (r := rRepr) rfl (call_repr hq hr.units)) (by rfl) T.b_repr bt_repr (pa_cons (pv 0) pa_nil)) (pe_callB (crK (K := K) (r := rRepr) rfl (call_repr hq hr.units)) (by rfl) T.b_repr bt_repr (pa_cons (pv 1) pa_nil)) (nomark _))))))), ?_⟩
  try simp only [cxK]
  rintro _ ms Pd Xd ⟨d, rfl, hv, q⟩ bl mb
  cases hv with
  | @py d pd v h sh =>
    obtain ⟨T', hT⟩ := v
    repeat' walk_at "d1"
    refine dr_isiC hT (nC _ (tyOf_in hT)) ?_
    repeat' walk_at "d1"
    refine dr_isiC hT (nL _ (tyOf_in hT)) ?_
    repeat' walk_at "d1"
    refine dr_repr h sh ?_
    repeat' walk_at "d1"
    refine dr_repr h sh ?_
    repeat' walk_at "d1"
    exact fin_b q (by simp)
  | @dct kvs h =>
    have hT : tyOf ms (dctS kvs) = some "dict" := rfl
    repeat' walk_at "d1"
    refine dr_isiC hT (nC _ (tyOf_in hT)) ?_
    repeat' walk_at "d1"
    refine dr_isiC hT (nL _ (tyOf_in hT)) ?_
    repeat' walk_at "d1"
    refine dr_reprD h ?_
    repeat' walk_at "d1"
    refine dr_reprD h ?_
    repeat' walk_at "d1"
    exact fin_b q (by simp)
  | ex =>
    repeat' walk_at "d1"
    refine dr_isiE E_InvalidText.t yC ?_
    repeat' walk_at "d1"
    refine dr_isiE E_InvalidText.t yC ?_
    repeat' walk_at "d1"
    refine de_fldE (C := C) (fs := [("given", .str "x")]) (d := .str "x") E_InvalidText.t E_InvalidText.no rfl ?_
    repeat' walk_at "d1"
    refine ⟨rfl, ?_⟩
    repeat' walk_at "d1"
    exact fin_b (b := true) q (by simp)
theorem okH_same {f : Addr} {fd : FuncData} {C fI L : Addr} {fdI : FuncData} (E_InvalidText : ErrT K mg "InvalidText" "given" C fI fdI) (M_LostError : mg "LostError" = some (.ref L)) (nC : KitNo K C) (nL : KitNo K L) (yC : PySem.W.kitOne K (.ref C) (.ref C) = some true) (F : Fun K "_law_same" "_law_same" s__law_same f fd) (T : Txt K mg) :
    FnGH P w K mg base (L2N.CX P w) 1 f fd ["kept", "thing"] (spD K (pm_same K C)) := by
  have M_InvalidText := E_InvalidText.m
  refine fn_dlH F sc__law_same (fun ds ms Pd X h => by obtain ⟨d, rfl, _⟩ := h; rfl) (fun cdv Ar outer s H E p hot hrh hq => ?_)
  have hc : L2H.HotC (L2H.cxH (L2N.CX P w) P w K mg base ["kept", "thing"] "_law_same" (defScope s__law_same) f cdv Ar outer s H E p) := ⟨p, hot, List.mem_singleton.mpr rfl⟩
  have hun : (Ar.deeper (envOfC "_law_same" (defScope s__law_same) s.heap.objs.size f cdv)).units + 64 < cLine := by have := hrh.un; omega
  refine ⟨_, (pss_cons (ps_if (pt_val (pe_callB (crK (K := K) (r := rIsiX) rfl call_isiX) (by rfl) T.b_isinstance bt_isinstance (pa_cons (pv 1) (pa_cons (pe_glob (v := .ref _) rfl M_InvalidText rfl) pa_nil)))) (pss_one (ps_ret (pe_and (pe_callB (crK (K := K) (r := rIsiX) rfl call_isiX) (by rfl) T.b_isinstance bt_isinstance (pa_cons (pv 0) (pa_cons (pe_glob (v := .ref _) rfl M_InvalidText rfl) pa_nil))) (pe_one (pe_cmpR (opK (K := K) (r := rEqA) rfl (op_eqA hun)) (pe_fldE (pv 0)) pe_str (nomark _)))))) pss_nil) (pss_one (ps_ret (pe_and (pe_not (pe_callB (crK (K := K) (r := rIsiX) rfl call_isiX) (by rfl) T.b_isinstance bt_isinstance (pa_cons (pv 0) (pa_cons (pe_glob (v := .ref _) rfl M_LostError rfl) pa_nil)))) (pe_one (pe_cmpR (opK (K := K) (r := rEqA) rfl (op_eqA hun)) (pe_callB (crK (K := K) (r := rRepr) rfl (call_repr hq hun)) (by rfl) T.b_repr bt_repr (pa_cons (pv 0) pa_nil)) (pe_callB (crK (K := K) (r := rRepr) rfl (call_repr hq hun)) (by rfl) T.b_repr bt_repr (pa_cons (pv 1) pa_nil)) (nomark _))))))), ?_⟩
  try simp only [cxK, cxHK]
  rintro _ ms Pd Xd ⟨d, rfl, hv, q⟩ bl mb
  cases hv with
  | @py d pd v h sh =>
    obtain ⟨T', hT⟩ := v
    repeat' walk_at "d1"
    refine dr_isiC hT (nC _ (tyOf_in hT)) ?_
    repeat' walk_at "d1"
    refine dr_isiC hT (nL _ (tyOf_in hT)) ?_
    repeat' walk_at "d1"
    refine dr_repr h sh ?_
    repeat' walk_at "d1"
    refine dr_repr h sh ?_
    repeat' walk_at "d1"
    exact fin_b q (by simp)
  | @dct kvs h =>
    have hT : tyOf ms (dctS kvs) = some "dict" := rfl
    repeat' walk_at "d1"
    refine dr_isiC hT (nC _ (tyOf_in hT)) ?_
    repeat' walk_at "d1"
    refine dr_isiC hT (nL _ (tyOf_in hT)) ?_
    repeat' walk_at "d1"
    refine dr_reprD h ?_
    repeat' walk_at "d1"
    refine dr_reprD h ?_
    repeat' walk_at "d1"
    exact fin_b q (by simp)
  | ex =>
    repeat' walk_at "d1"
    refine dr_isiE E_InvalidText.t yC ?_
    repeat' walk_at "d1"
    refine dr_isiE E_InvalidText.t yC ?_
    repeat' walk_at "d1"
    refine de_fldE (C := C) (fs := [("given", .str "x")]) (d := .str "x") E_InvalidText.t E_InvalidText.no rfl ?_
    repeat' walk_at "d1"
    refine ⟨rfl, ?_⟩
    repeat' walk_at "d1"
    exact fin_b (b := true) q (by simp)
end
end K01
namespace K01
open PySem PySem.Spec PyProof.Rows L2 DL
local macro_rules | `(tactic| walk_at "hyp") => `(tactic| (first
  | (simp only [Bool.not_eq_true', Bool.not_eq_false', decide_eq_true_eq, decide_eq_false_iff_not, Bool.or_eq_true, Bool.and_eq_true, Bool.or_eq_false_iff, Bool.not_true, Bool.not_false, Bool.and_eq_false_iff] at *)
  | skip))
local macro_rules | `(tactic| walk_at "d1") => `(tactic| first
  | with_reducible refine ds_seq ?_
  | with_reducible refine ds_if ?_
  | with_reducible refine ds_ret ?_
  | with_reducible refine ds_set ?_
  | with_reducible refine ds_drop ?_
  | with_reducible refine ds_par ?_
  | with_reducible refine ds_par3 ?_
  | with_reducible refine ds_next ?_
  | with_reducible refine de_var rfl ?_
  | with_reducible refine de_int ?_
  | with_reducible refine de_str ?_
  | with_reducible refine de_bl ?_
  | with_reducible refine de_non ?_
  | with_reducible refine de_ty ?_
  | with_reducible refine de_ref ?_
  | with_reducible refine de_op ?_
  | with_reducible refine de_chain ?_
  | with_reducible refine de_un ?_
  | with_reducible refine de_dnew ?_
  | with_reducible refine de_disp1 ?_
  | with_reducible refine de_cb ?_
  | with_reducible refine de_bm ?_
  | with_reducible refine de_sl ?_
  | with_reducible refine de_tup ?_
  | with_reducible refine de_lst ?_
  | with_reducible refine de_fstr ?_
  | with_reducible refine de_fmtS ?_
  | with_reducible refine dj_cons ?_
  | with_reducible refine dj_nil ?_
  | with_reducible refine do_none ?_
  | with_reducible refine do_some ?_
  | with_reducible refine de_g0 (dds := []) (fun _ => .nil) ?_
  | with_reducible refine de_g (dds := []) (fun _ => .nil) ?_
  | with_reducible refine de_lc ?_
  | with_reducible refine di_str ?_
  | with_reducible refine di_tup ?_
  | with_reducible refine de_notV ?_
  | with_reducible refine de_andV ?_
  | with_reducible refine de_orV ?_
  | with_reducible refine de_if ?_
  | with_reducible refine dt_test ?_
  | with_reducible refine dt_B ?_
  | with_reducible refine dt_and ?_
  | with_reducible refine dt_or ?_
  | with_reducible refine dt_not ?_
  | with_reducible refine dt_yes ?_
  | with_reducible refine da_cons ?_
  | with_reducible refine da_nil ?_
  | with_reducible refine d2_leI ?_
  | with_reducible refine d2_ltI ?_
  | with_reducible refine d2_geI ?_
  | with_reducible refine d2_gtI ?_
  | with_reducible refine d2_addI ?_
  | with_reducible refine d2_sub ?_
  | ((with_reducible refine' d2_leS1 (sign1_cps _) ?hs1 ?_); (case hs1 => first | exact sg_a | exact sg_z | exact sg_sp | exact sg_ti))
  | ((with_reducible refine' d2_leS1 ?hs1 (sign1_cps _) ?_); (case hs1 => first | exact sg_a | exact sg_z | exact sg_sp | exact sg_ti))
  | with_reducible refine dr_int ?_
  | with_reducible refine dr_abs ?_
  | with_reducible refine dg_sub ?_
  | ((with_reducible refine' d2_ix ?hsq ?hix ?_); (case hsq => assumption); (case hix => rfl))
  | ((with_reducible refine' d2_mod ?hmod ?_); (case hmod => first | decide | omega))
  | ((with_reducible refine' d2_mul ?hmul ?_); (case hmul => exact mul_ok (by omega) (by omega)))
  | ((with_reducible refine' d2_div ?hdiv ?_); (case hdiv => exact div_ok (by first | decide | omega) (by omega)))
  | ((with_reducible refine' d2_pow ?hpow ?_); (case hpow => exact pow_ok (by decide) (by decide) (by omega)))
  | with_reducible refine d2_notI ?_
  | with_reducible refine d2_notSt ?_
  | with_reducible refine d2_notNn ?_
  | with_reducible refine d2_notT ?_
  | with_reducible refine d2_isI ?_
  | with_reducible refine d2_isNn ?_
  | with_reducible refine d2_isT ?_
  | with_reducible refine d2_neI ?_
  | with_reducible refine d2_eqI ?_
  | with_reducible refine d2_eqS ?_
  | with_reducible refine d2_neS ?_
  | with_reducible refine dr_isiK (by assumption) (by decide) (by first | assumption | exact isTyD_str _ | exact isTyD_tup _ | rfl) ?_
  | with_reducible refine dr_lenT ?_
  | with_reducible refine dr_lenL ?_
  | with_reducible refine dr_lenR ?_
  | with_reducible refine dr_lenC (by assumption) ?_
  | with_reducible refine ds_to ?_
  | with_reducible refine dg_name (by decide) ?_
  | with_reducible refine dg_tup2 ?_
  | with_reducible refine dg_tup3 ?_
  | with_reducible refine dg_tup4 ?_
  | with_reducible refine dgs_cons ?_
  | with_reducible refine dgs_nil ?_
  | with_reducible refine dr_lenS (by omega) ?_
  | with_reducible refine ⟨_, rfl, ?_⟩
  | with_reducible refine ⟨_, _, rfl, ?_⟩
  | with_reducible refine ⟨tyD_str, ?_⟩
  | with_reducible refine ⟨by omega, ?_⟩
  | with_reducible refine ⟨by (simp only [PySem.Str.length_append, len_empty, len_sp, List.length_cons, List.length_nil, List.length_append]; omega), ?_⟩
  | with_reducible refine bothT ?_
  | with_reducible refine bothF ?_
  | with_reducible refine bothNT ?_
  | with_reducible refine bothNF ?_
  | (with_reducible refine both (fun hc => ?_) (fun hc => ?_) <;> (try simp only [Bool.not_eq_true', Bool.not_eq_false', decide_eq_true_eq, decide_eq_false_iff_not] at hc) <;> (try (exfalso; omega)) <;> (try exact absurd rfl hc) <;> (try exact absurd trivial hc)))

local macro_rules | `(tactic| walk_at "sm") => `(tactic| first
  | with_reducible refine di_lst ?_
  | with_reducible refine as_lst ?_
  | ((with_reducible refine' d2_addSm ?hs1 ?hs2 ?hs3 (fun hs => ?_)); (case hs1 => assumption); (case hs2 => assumption); (case hs3 => omega))
  | ((with_reducible refine' d2_addL ?hal ?_); (case hal => (simp; try omega)))
  | with_reducible refine d1_neg ?_)

abbrev s__law_asks_right : Stmt := (topS 36)
theorem sc__law_asks_right : FnScope ["value", "by_name", "told", "due", "k"] ["value", "by_name"] (defScope s__law_asks_right) := ⟨rfl, rfl, rfl, by decide +kernel, rfl, by decide +kernel, by decide +kernel⟩
abbrev s__law_written_right : Stmt := (topS 38)
theorem sc__law_written_right : FnScope ["value", "by_name", "told", "e"] ["value", "by_name"] (defScope s__law_written_right) := ⟨rfl, rfl, rfl, by decide +kernel, rfl, by decide +kernel, by decide +kernel⟩
abbrev s__law_read_right : Stmt := (topS 39)
theorem sc__law_read_right : FnScope ["value", "by_name", "due", "told", "e", "part"] ["value", "by_name"] (defScope s__law_read_right) := ⟨rfl, rfl, rfl, by decide +kernel, rfl, by decide +kernel, by decide +kernel⟩
section
variable {P : Program} {w : World} {K : PySem.W.Frag} {mg : Str → Option Value} {base : Heap}
def pm_asks (K : PySem.W.Frag) : Pm := fun ds ms P X => ∃ (d : Dat) (b : Bool), ds = [d, .bl b] ∧ LOk K ms d ∧ P (.bl true) ms
theorem nothing_kept (n : Nat) (f : Nat → Dat) : ((List.range n).filter fun _ => false).map f = [] := by
  rw [List.filter_eq_nil_iff.mpr (by simp)]; rfl
theorem eqNil0 {ms : Ms} {Q : Dat → Ms → Prop} {xs : List Dat} (e : xs = []) (q : Q (.bl true) ms) : D2 K (rEqA K) (.lst xs) (.lst []) ms Q := d2_eqNilI (cs := []) e q
theorem ok_asks {f : Addr} {fd : FuncData} {g0 : Addr} {fd0 : FuncData} {g1 : Addr} {fd1 : FuncData} {g2 : Addr} {fd2 : FuncData} {g3 : Addr} {fd3 : FuncData} {g4 : Addr} {fd4 : FuncData} {g5 : Addr} {fd5 : FuncData} {g6 : Addr} {fd6 : FuncData} {g7 : Addr} {fd7 : FuncData} {g8 : Addr} {fd8 : FuncData}  (F : Fun K "_law_asks_right" "_law_asks_right" s__law_asks_right f fd) (T : Txt K mg)
    (D_is_name : Df K mg "is_name" g0) (G_is_name : FnG P w K mg base (L2N.CX P w) 1 g0 fd0 ["value"] (spD K (pm_is_name K))) (b_is_name : Binds K fd0 ["value"] []) (kb_is_name : KwB K fd0 ["value"])
    (D_is_text : Df K mg "is_text" g1) (G_is_text : FnG P w K mg base (L2N.CX P w) 2 g1 fd1 ["value"] (spD K (pm_is_text K))) (b_is_text : Binds K fd1 ["value"] []) (kb_is_text : KwB K fd1 ["value"])
    (D_is_line : Df K mg "is_line" g2) (G_is_line : FnG P w K mg base (L2N.CX P w) 3 g2 fd2 ["value"] (spD K (pm_is_line K))) (b_is_line : Binds K fd2 ["value"] []) (kb_is_line : KwB K fd2 ["value"])
    (D_is_round : Df K mg "is_round" g3) (G_is_round : FnG P w K mg base (L2N.CX P w) 2 g3 fd3 ["value"] (spD K (pm_is_round K))) (b_is_round : Binds K fd3 ["value"] []) (kb_is_round : KwB K fd3 ["value"])
    (D__law_name_due : Df K mg "_law_name_due" g4) (G__law_name_due : FnG P w K mg base (L2N.CX P w) 1 g4 fd4 ["value"] (spD K (pm_is_name K))) (b__law_name_due : Binds K fd4 ["value"] [])
    (D__law_text_due : Df K mg "_law_text_due" g5) (G__law_text_due : FnG P w K mg base (L2N.CX P w) 1 g5 fd5 ["value"] (spD K (pm_is_text K))) (b__law_text_due : Binds K fd5 ["value"] [])
    (D__law_line_due : Df K mg "_law_line_due" g6) (G__law_line_due : FnG P w K mg base (L2N.CX P w) 2 g6 fd6 ["value"] (spD K (pm_is_line K))) (b__law_line_due : Binds K fd6 ["value"] [])
    (D__law_round_due : Df K mg "_law_round_due" g7) (G__law_round_due : FnG P w K mg base (L2N.CX P w) 1 g7 fd7 ["value"] (spD K (pm_is_round K))) (b__law_round_due : Binds K fd7 ["value"] [])
    (D__law_yes : Df K mg "_law_yes" g8) (G__law_yes : FnG P w K mg base (L2N.CX P w) 1 g8 fd8 ["answer", "due"] (spD K (pm_yes K))) (b__law_yes : Binds K fd8 ["answer", "due"] []) :
    FnG P w K mg base (L2N.CX P w) 4 f fd ["value", "by_name"] (spD K (pm_asks K)) := by
  refine fn_dl F sc__law_asks_right (fun ds ms Pd X h => by obtain ⟨d, b, rfl, _⟩ := h; rfl) (fun cdv Ar outer s H E hr hq => ?_)
  have tk := (L2N.takes_of (X := cxOf (L2N.CX P w) P w K mg base ["value", "by_name", "told", "due", "k"] "_law_asks_right" (defScope s__law_asks_right) f cdv Ar outer s H E) (E := E) rfl rfl rfl rfl)
  refine ⟨_, (pss_cons (ps_if (pt_val (pv 1)) (pss_one (ps_set (i := 2) sc__law_asks_right.nd rfl (by first | exact Or.inl rfl | exact Or.inr rfl) (pe_lst (pa_cons (pe_gk G_is_name (hr.mono (by decide)) hq rfl D_is_name.m D_is_name.k kb_is_name (fun σ => L2N.passAt tk σ) (pk_cons (pv 0) pk_nil)) (pa_cons (pe_gk G_is_text (hr.mono (by decide)) hq rfl D_is_text.m D_is_text.k kb_is_text (fun σ => L2N.passAt tk σ) (pk_cons (pv 0) pk_nil)) (pa_cons (pe_gk G_is_line (hr.mono (by decide)) hq rfl D_is_line.m D_is_line.k kb_is_line (fun σ => L2N.passAt tk σ) (pk_cons (pv 0) pk_nil)) (pa_cons (pe_gk G_is_round (hr.mono (by decide)) hq rfl D_is_round.m D_is_round.k kb_is_round (fun σ => L2N.passAt tk σ) (pk_cons (pv 0) pk_nil)) pa_nil))))))) (pss_one (ps_set (i := 2) sc__law_asks_right.nd rfl (by first | exact Or.inl rfl | exact Or.inr rfl) (pe_lst (pa_cons (pe_g G_is_name (hr.mono (by decide)) hq rfl D_is_name.m D_is_name.k b_is_name .nil (fun σ => L2N.passAt tk σ) (pa_cons (pv 0) pa_nil)) (pa_cons (pe_g G_is_text (hr.mono (by decide)) hq rfl D_is_text.m D_is_text.k b_is_text .nil (fun σ => L2N.passAt tk σ) (pa_cons (pv 0) pa_nil)) (pa_cons (pe_g G_is_line (hr.mono (by decide)) hq rfl D_is_line.m D_is_line.k b_is_line .nil (fun σ => L2N.passAt tk σ) (pa_cons (pv 0) pa_nil)) (pa_cons (pe_g G_is_round (hr.mono (by decide)) hq rfl D_is_round.m D_is_round.k b_is_round .nil (fun σ => L2N.passAt tk σ) (pa_cons (pv 0) pa_nil)) pa_nil)))))))) (pss_cons (ps_set (i := 3) sc__law_asks_right.nd rfl (by first | exact Or.inl rfl | exact Or.inr rfl) (pe_lst (pa_cons (pe_g G__law_name_due (hr.mono (by decide)) hq rfl D__law_name_due.m D__law_name_due.k b__law_name_due .nil (fun σ => L2N.passAt tk σ) (pa_cons (pv 0) pa_nil)) (pa_cons (pe_g G__law_text_due (hr.mono (by decide)) hq rfl D__law_text_due.m D__law_text_due.k b__law_text_due .nil (fun σ => L2N.passAt tk σ) (pa_cons (pv 0) pa_nil)) (pa_cons (pe_g G__law_line_due (hr.mono (by decide)) hq rfl D__law_line_due.m D__law_line_due.k b__law_line_due .nil (fun σ => L2N.passAt tk σ) (pa_cons (pv 0) pa_nil)) (pa_cons (pe_g G__law_round_due (hr.mono (by decide)) hq rfl D__law_round_due.m D__law_round_due.k b__law_round_due .nil (fun σ => L2N.passAt tk σ) (pa_cons (pv 0) pa_nil)) pa_nil)))))) (pss_one (ps_ret (pe_cmpR (opK (K := K) (r := rEqA) rfl (op_eqA hr.units)) (pe_lc (own := [("k", 4)]) rfl sc__law_asks_right.nd (pi_range1 rfl T.b_range (pa_cons pe_int pa_nil)) (blkOk_by (own := [("k", 4)]) (N := ["value", "by_name", "told", "due", "k"]) (sc := defScope s__law_asks_right) (by decide +kernel)) (fun _ _ _ _ _ => (pg_name (i := 4) sc__law_asks_right.nd rfl (by first | exact Or.inl rfl | exact Or.inr rfl))) (fun _ _ _ _ _ => pts_one (pt_not (pt_val (pe_g G__law_yes (hr.mono (by decide)) hq rfl D__law_yes.m D__law_yes.k b__law_yes .nil (fun σ => passN σ) (pa_cons (pe_ix (ixK (K := K) (r := rIx) rfl ix_seq) (pv 2) (pv 4) (fun _ _ => rfl)) (pa_cons (pe_ix (ixK (K := K) (r := rIx) rfl ix_seq) (pv 3) (pv 4) (fun _ _ => rfl)) pa_nil)))))) (fun _ _ _ _ _ => (pv 4))) (pe_lst pa_nil) (nomark _)))))), ?_⟩
  try simp only [cxK]
  rintro _ ms Pd Xd ⟨d, b, rfl, hv, q⟩ bl mb
  have hv1 := hv.v
  repeat' walk_at "d1"
  · refine ⟨d, rfl, hv1, ?_⟩
    repeat' walk_at "d1"
    refine ⟨d, rfl, hv1, ?_⟩
    repeat' walk_at "d1"
    refine ⟨d, rfl, hv, ?_⟩
    repeat' walk_at "d1"
    refine ⟨d, rfl, hv1, ?_⟩
    repeat' walk_at "d1"
    refine ⟨d, rfl, hv1, ?_⟩
    repeat' walk_at "d1"
    refine ⟨d, rfl, hv1, ?_⟩
    repeat' walk_at "d1"
    refine ⟨d, rfl, hv, ?_⟩
    repeat' walk_at "d1"
    refine ⟨d, rfl, hv1, ?_⟩
    repeat' walk_at "d1"
    refine di_rng1 ?_
    repeat' walk_at "d1"
    refine lcw_map (by decide) (fun _ => false) (fun _ => .non) (fun i hi => dg_name (by decide) ?_) ?_
    · have h4 : i = 0 ∨ i = 1 ∨ i = 2 ∨ i = 3 := by omega
      rcases h4 with h4 | h4 | h4 | h4 <;> subst h4
      all_goals
        repeat' walk_at "d1"
        refine d2_ix (.inl rfl) rfl ?_
        repeat' walk_at "d1"
        refine d2_ix (.inl rfl) rfl ?_
        repeat' walk_at "d1"
        refine ⟨_, _, rfl, ?_⟩
        repeat' walk_at "d1"
        exact ⟨by simp, rfl, fun z => by simp at z⟩
    · repeat' walk_at "d1"
      exact eqNil0 (nothing_kept _ _) (.inl q)
  · refine ⟨d, rfl, hv1, ?_⟩
    repeat' walk_at "d1"
    refine ⟨d, rfl, hv1, ?_⟩
    repeat' walk_at "d1"
    refine ⟨d, rfl, hv, ?_⟩
    repeat' walk_at "d1"
    refine ⟨d, rfl, hv1, ?_⟩
    repeat' walk_at "d1"
    refine ⟨d, rfl, hv1, ?_⟩
    repeat' walk_at "d1"
    refine ⟨d, rfl, hv1, ?_⟩
    repeat' walk_at "d1"
    refine ⟨d, rfl, hv, ?_⟩
    repeat' walk_at "d1"
    refine ⟨d, rfl, hv1, ?_⟩
    repeat' walk_at "d1"
    refine di_rng1 ?_
    repeat' walk_at "d1"
    refine lcw_map (by decide) (fun _ => false) (fun _ => .non) (fun i hi => dg_name (by decide) ?_) ?_
    · have h4 : i = 0 ∨ i = 1 ∨ i = 2 ∨ i = 3 := by omega
      rcases h4 with h4 | h4 | h4 | h4 <;> subst h4
      all_goals
        repeat' walk_at "d1"
        refine d2_ix (.inl rfl) rfl ?_
        repeat' walk_at "d1"
        refine d2_ix (.inl rfl) rfl ?_
        repeat' walk_at "d1"
        refine ⟨_, _, rfl, ?_⟩
        repeat' walk_at "d1"
        exact ⟨by simp, rfl, fun z => by simp at z⟩
    · repeat' walk_at "d1"
      exact eqNil0 (nothing_kept _ _) (.inl q)
/-- a value that the law writes and reads -/
structure WOk (K : PySem.W.Frag) (C : Addr) (ms : Ms) (d : Dat) : Prop where
  l : LOk K ms d
  r : Rp C ms d
  c : isTyD ms d "list" = false ∨ ∃ k xs, d = .cell k ∧ ms[k]? = some (.lst xs) ∧ xs.length < 1000 ∧ Rp C (ms.set k (.lst (xs ++ [.str "more"]))) (.cell k)
def Later (ms ms' : Ms) (d : Dat) : Prop := ms' = ms ∨ ∃ k xs, d = .cell k ∧ ms' = ms.set k (.lst xs)
def pm_written (K : PySem.W.Frag) (C : Addr) : Pm := fun ds ms P X => ∃ (d : Dat) (b : Bool), ds = [d, .bl b] ∧ WOk K C ms d ∧ ∀ ms', Later ms ms' d → P (.bl true) ms'
theorem name_nosp {a : Str} (h : isName (.str a) = true) : 32 ∉ a.cps.toList := fun hm => by
  have h' : (decide (1 ≤ a.length) && decide (a.length ≤ 8) && a.cps.toList.all nameC) = true := h
  simp only [Bool.and_eq_true] at h'
  have := List.all_eq_true.mp h'.2 32 hm
  simp [nameC] at this
theorem line_parts {a b : Str} (h : isLine (.tup [.str a, .str b]) = true) : isName (.str a) = true ∧ isText (.str b) = true := Bool.and_eq_true_iff.mp h
theorem cell_list {ms : Ms} {k : Nat} {xs : List Dat} (h : ms[k]? = some (.lst xs)) : isTyD ms (.cell k) "list" = true := by simp [isTyD, tyOf, h]
theorem line_notcell {ms : Ms} {d : Dat} (h : isLine d = true) : isTyD ms d "list" = false := by
  obtain ⟨a, b, rfl, _⟩ := isLine_yes h
  simp [isTyD, tyOf]
theorem bothD {c : Bool} {A B : Prop} (hc : c = true ∨ c = false) (h1 : c = true → A) (h2 : c = false → B) : (c = true → A) ∧ (c = false → B) := ⟨h1, h2⟩
theorem vlow {K : PySem.W.Frag} {ms : Ms} {a b : Str} (ha : VOk K ms (.str a)) (hb : VOk K ms (.str b)) : ∀ z ∈ [a, b], ∀ c ∈ z.cps.toList, c < 128 := by
  intro z hz
  simp only [List.mem_cons, List.not_mem_nil, or_false] at hz
  rcases hz with rfl | rfl
  · exact ha.sig
  · exact hb.sig
theorem ok_written {f : Addr} {fd : FuncData} {g0 : Addr} {fd0 : FuncData} {g1 : Addr} {fd1 : FuncData} {g2 : Addr} {fd2 : FuncData} {g3 : Addr} {fd3 : FuncData} {CL fL CT fT : Addr} {fdL fdT : FuncData} (E_InvalidLine : ErrT K mg "InvalidLine" "given" CL fL fdL) (E_InvalidText : ErrT K mg "InvalidText" "given" CT fT fdT) (xL : PySem.W.exmOne K (.ref CL) (.ref CL) = some true) (xT : PySem.W.exmOne K (.ref CT) (.ref CT) = some true) (F : Fun K "_law_written_right" "_law_written_right" s__law_written_right f fd) (T : Txt K mg)
    (D_line_text : Df K mg "line_text" g0) (G_line_text : FnG P w K mg base (L2N.CX P w) 4 g0 fd0 ["line"] (spD K (pm_line_text K CL))) (b_line_text : Binds K fd0 ["line"] []) (kb_line_text : KwB K fd0 ["line"])
    (D__law_line_due : Df K mg "_law_line_due" g1) (G__law_line_due : FnG P w K mg base (L2N.CX P w) 2 g1 fd1 ["value"] (spD K (pm_is_line K))) (H__law_line_due : FnGH P w K mg base (L2N.CX P w) 2 g1 fd1 ["value"] (spD K (pm_is_line K))) (b__law_line_due : Binds K fd1 ["value"] [])
    (D__law_same : Df K mg "_law_same" g2) (H__law_same : FnGH P w K mg base (L2N.CX P w) 1 g2 fd2 ["kept", "thing"] (spD K (pm_same K CT))) (b__law_same : Binds K fd2 ["kept", "thing"] [])
    (D_read_line : Df K mg "read_line" g3) (G_read_line : FnG P w K mg base (L2N.CX P w) 5 g3 fd3 ["text"] (spD K (pm_read_line K CT))) (b_read_line : Binds K fd3 ["text"] []) :
    FnG P w K mg base (L2N.CX P w) 6 f fd ["value", "by_name"] (spD K (pm_written K CT)) := by
  refine fn_dl F sc__law_written_right (fun ds ms Pd X h => by obtain ⟨d, b, rfl, _⟩ := h; rfl) (fun cdv Ar outer s H E hr hq => ?_)
  have tk := (L2N.takes_of (X := cxOf (L2N.CX P w) P w K mg base ["value", "by_name", "told", "e"] "_law_written_right" (defScope s__law_written_right) f cdv Ar outer s H E) (E := E) rfl rfl rfl rfl)
  refine ⟨_, (pss_cons (ps_tryK (K := K) (i := 3) rfl rfl rfl sc__law_written_right.nd rfl rfl (c := .ref _) ⟨rfl, by decide, .inl E_InvalidLine.m⟩ tk (fun W pn xe tk _ => (pss_one (ps_set (i := 2) sc__law_written_right.nd rfl (by first | exact Or.inl rfl | exact Or.inr rfl) (pe_ifExp (pt_val (pv 1)) (pe_gk G_line_text (hr.mono (by decide)) hq rfl D_line_text.m D_line_text.k kb_line_text (fun σ => L2N.passAt tk σ) (pk_cons (pv 0) pk_nil)) (pe_g G_line_text (hr.mono (by decide)) hq rfl D_line_text.m D_line_text.k b_line_text .nil (fun σ => L2N.passAt tk σ) (pa_cons (pv 0) pa_nil)))))) (fun a oe cls d pn hz hf => (pss_cons (ps_if (PW.pt (pw_or (pt_val (pe_gH H__law_line_due (roomS (hr.mono (by decide))) (hq.mark _) (hotSuite hz hf) rfl D__law_line_due.m D__law_line_due.k b__law_line_due .nil (fun σ => passN σ) (pa_cons (pv 0) pa_nil))) (pw_or1 (pt_not (pt_val (pe_gH H__law_same (roomS (hr.mono (by decide))) (hq.mark _) (hotSuite hz hf) rfl D__law_same.m D__law_same.k b__law_same .nil (fun σ => passN σ) (pa_cons (pe_xf E_InvalidLine.t.x E_InvalidLine.no hz.zc hf (pv 3)) (pa_cons (pv 0) pa_nil)))))))) (pss_one (ps_ret pe_bl)) pss_nil) (pss_cons (ps_if (pt_val (pe_callB (crK (K := K) (r := rIsiX) rfl call_isiX) (by rfl) T.b_isinstance bt_isinstance (pa_cons (pv 0) (pa_cons (pe_bltn (v := .ty "list") rfl T.b_list bt_list rfl) pa_nil)))) (pss_one (ps_expr (pe_bmK (K := K) rfl PySem.F.plainAttrs_list PySem.F.slot_list_append PySem.F.type_list_append mtA_append (pv 0) (pa_cons pe_str pa_nil)))) pss_nil) (pss_one (ps_ret (pe_gH H__law_same (roomS (hr.mono (by decide))) (hq.mark _) (hotSuite hz hf) rfl D__law_same.m D__law_same.k b__law_same .nil (fun σ => passN σ) (pa_cons (pe_xf E_InvalidLine.t.x E_InvalidLine.no hz.zc hf (pv 3)) (pa_cons (pv 0) pa_nil))))))))) (pss_cons (ps_if (pt_not (pt_val (pe_g G__law_line_due (hr.mono (by decide)) hq rfl D__law_line_due.m D__law_line_due.k b__law_line_due .nil (fun σ => L2N.passAt tk σ) (pa_cons (pv 0) pa_nil)))) (pss_one (ps_ret pe_bl)) pss_nil) (pss_one (ps_ret (pe_and (pe_callB (crK (K := K) (r := rIsiX) rfl call_isiX) (by rfl) T.b_isinstance bt_isinstance (pa_cons (pv 2) (pa_cons (pe_bltn (v := .ty "str") rfl T.b_str bt_str rfl) pa_nil))) (pe_and (pe_cmpR (opK (K := K) (r := rEqA) rfl (op_eqA hr.units)) (pv 2) (pe_op op_addA (pe_op op_addA (pe_ix (ixK (K := K) (r := rIx) rfl ix_seq) (pv 0) pe_int (fun _ _ => rfl)) pe_str) (pe_ix (ixK (K := K) (r := rIx) rfl ix_seq) (pv 0) pe_int (fun _ _ => rfl))) (nomark _)) (pe_one (pe_cmpR (opK (K := K) (r := rEqA) rfl (op_eqA hr.units)) (pe_g G_read_line (hr.mono (by decide)) hq rfl D_read_line.m D_read_line.k b_read_line .nil (fun σ => L2N.passAt tk σ) (pa_cons (pv 2) pa_nil)) (pv 0) (nomark _))))))))), ?_⟩
  try simp only [cxK]
  rintro _ ms Pd Xd ⟨d, b, rfl, hw, q⟩ bl mb
  have hv1 := hw.l.v
  refine ds_seq (ds_tryK fun R' => ?_)
  repeat' walk_at "d1"
  · refine ⟨d, rfl, hw.l, fun x y e h => ?_, fun h => ?_⟩
    · subst e
      obtain ⟨hx, hy⟩ := line_parts h
      obtain ⟨vx, vy⟩ := hw.l.p _ _ rfl
      have lx := isName_len hx
      have ly := isText_len hy
      have sq : SeqV ms (.tup [.str x, .str y]) [.str x, .str y] := .inr (.inl rfl)
      have sp : Sm 1 (" " : Str) := Sm.lit (by decide +kernel)
      have sx : Sm 8 x := ⟨lx, vx.sig⟩
      have sy : Sm 40 y := ⟨ly, vy.sig⟩
      have st := ((sx.app sp).app sy)
      have vt : VOk K ms (.str (x ++ (" " : Str) ++ y)) := .ty rfl ⟨Nat.le_trans st.len (by decide), st.sig⟩
      repeat' walk_at "d1"
      refine ⟨_, rfl, hw.l, ?_⟩
      rw [h]
      repeat' walk_at "d1"
      refine d2_addSm sx sp (by decide) fun _ => ?_
      repeat' walk_at "d1"
      refine d2_addSm (sx.app sp) sy (by decide) fun _ => ?_
      repeat' walk_at "d1"
      have hli : lineInD (.str (x ++ (" " : Str) ++ y)) = some (x, y) := by
        show lineIn _ = _
        rw [lineIn_of rfl (name_nosp hx), if_pos h]
      refine ⟨_, rfl, vt, fun a' b' e' => ?_, fun e' => by rw [hli] at e'; cases e'⟩
      rw [hli] at e'
      cases e'
      repeat' walk_at "d1"
      refine d2_eqT (vlow vx vy) (vlow vx vy) (.inl ?_)
      rw [show (x == x && y == y) = true by simp]
      exact q _ (.inl rfl)
    · refine ⟨true, xL, fun _ a dd => ?_, fun z => by cases z⟩
      repeat' walk_at "d1"
      refine ⟨d, rfl, hw.l, ?_⟩
      rw [h]
      repeat' walk_at "d1"
      refine de_xf (fs := [("given", d)]) (d := d) rfl ?_
      repeat' walk_at "d1"
      refine ⟨rfl, ?_⟩
      repeat' walk_at "d1"
      refine ⟨d, rfl, hw.r, ?_⟩
      rcases hw.c with nl | ⟨k, xs, rfl, hm, hx, hr2⟩
      · repeat' walk_at "d1"
        refine de_xf (fs := [("given", d)]) (d := d) rfl ?_
        repeat' walk_at "d1"
        refine ⟨rfl, ?_⟩
        repeat' walk_at "d1"
        exact ⟨d, rfl, hw.r, .inl (q _ (.inl rfl))⟩
      · have yl := cell_list hm
        have lt := ms_lt hm
        repeat' walk_at "d1"
        refine ⟨tyD_cell hm, ?_⟩
        repeat' walk_at "d1"
        refine dr_append hm (by omega) ?_
        repeat' walk_at "d1"
        refine de_xf (fs := [("given", .cell k)]) (d := .cell k) rfl ?_
        repeat' walk_at "d1"
        refine ⟨rfl, ?_⟩
        repeat' walk_at "d1"
        exact ⟨.cell k, rfl, hr2, .inl (q _ (.inr ⟨k, _, rfl, rfl⟩))⟩
  · refine ⟨d, rfl, hw.l, fun x y e h => ?_, fun h => ?_⟩
    · subst e
      obtain ⟨hx, hy⟩ := line_parts h
      obtain ⟨vx, vy⟩ := hw.l.p _ _ rfl
      have lx := isName_len hx
      have ly := isText_len hy
      have sq : SeqV ms (.tup [.str x, .str y]) [.str x, .str y] := .inr (.inl rfl)
      have sp : Sm 1 (" " : Str) := Sm.lit (by decide +kernel)
      have sx : Sm 8 x := ⟨lx, vx.sig⟩
      have sy : Sm 40 y := ⟨ly, vy.sig⟩
      have st := ((sx.app sp).app sy)
      have vt : VOk K ms (.str (x ++ (" " : Str) ++ y)) := .ty rfl ⟨Nat.le_trans st.len (by decide), st.sig⟩
      repeat' walk_at "d1"
      refine ⟨_, rfl, hw.l, ?_⟩
      rw [h]
      repeat' walk_at "d1"
      refine d2_addSm sx sp (by decide) fun _ => ?_
      repeat' walk_at "d1"
      refine d2_addSm (sx.app sp) sy (by decide) fun _ => ?_
      repeat' walk_at "d1"
      have hli : lineInD (.str (x ++ (" " : Str) ++ y)) = some (x, y) := by
        show lineIn _ = _
        rw [lineIn_of rfl (name_nosp hx), if_pos h]
      refine ⟨_, rfl, vt, fun a' b' e' => ?_, fun e' => by rw [hli] at e'; cases e'⟩
      rw [hli] at e'
      cases e'
      repeat' walk_at "d1"
      refine d2_eqT (vlow vx vy) (vlow vx vy) (.inl ?_)
      rw [show (x == x && y == y) = true by simp]
      exact q _ (.inl rfl)
    · refine ⟨true, xL, fun _ a dd => ?_, fun z => by cases z⟩
      repeat' walk_at "d1"
      refine ⟨d, rfl, hw.l, ?_⟩
      rw [h]
      repeat' walk_at "d1"
      refine de_xf (fs := [("given", d)]) (d := d) rfl ?_
      repeat' walk_at "d1"
      refine ⟨rfl, ?_⟩
      repeat' walk_at "d1"
      refine ⟨d, rfl, hw.r, ?_⟩
      rcases hw.c with nl | ⟨k, xs, rfl, hm, hx, hr2⟩
      · repeat' walk_at "d1"
        refine de_xf (fs := [("given", d)]) (d := d) rfl ?_
        repeat' walk_at "d1"
        refine ⟨rfl, ?_⟩
        repeat' walk_at "d1"
        exact ⟨d, rfl, hw.r, .inl (q _ (.inl rfl))⟩
      · have yl := cell_list hm
        have lt := ms_lt hm
        repeat' walk_at "d1"
        refine ⟨tyD_cell hm, ?_⟩
        repeat' walk_at "d1"
        refine dr_append hm (by omega) ?_
        repeat' walk_at "d1"
        refine de_xf (fs := [("given", .cell k)]) (d := .cell k) rfl ?_
        repeat' walk_at "d1"
        refine ⟨rfl, ?_⟩
        repeat' walk_at "d1"
        exact ⟨.cell k, rfl, hr2, .inl (q _ (.inr ⟨k, _, rfl, rfl⟩))⟩
theorem lineIn_some {d : Dat} {a b : Str} (h : lineInD d = some (a, b)) : ∃ z, d = .str z ∧ z = a ++ (" " : Str) ++ b ∧ isLine (.tup [.str a, .str b]) = true := by
  cases d with
  | str z =>
    refine ⟨z, rfl, ?_⟩
    have h' : lineIn z = some (a, b) := h
    rcases part_cases z with ⟨hno, _⟩ | ⟨a', b', ez, hno, _⟩
    · rw [lineIn_none hno] at h'; cases h'
    · rw [lineIn_of ez hno] at h'
      by_cases c : isLine (.tup [.str a', .str b']) = true
      · rw [if_pos c] at h'; cases h'; exact ⟨ez, c⟩
      · rw [if_neg c] at h'; cases h'
  | _ => cases h
theorem ok_readr {f : Addr} {fd : FuncData} {g0 : Addr} {fd0 : FuncData} {g1 : Addr} {fd1 : FuncData} {g2 : Addr} {fd2 : FuncData} {g3 : Addr} {fd3 : FuncData} {CL fL CT fT : Addr} {fdL fdT : FuncData} (E_InvalidLine : ErrT K mg "InvalidLine" "given" CL fL fdL) (E_InvalidText : ErrT K mg "InvalidText" "given" CT fT fdT) (xL : PySem.W.exmOne K (.ref CL) (.ref CL) = some true) (xT : PySem.W.exmOne K (.ref CT) (.ref CT) = some true) (F : Fun K "_law_read_right" "_law_read_right" s__law_read_right f fd) (T : Txt K mg)
    (D_read_line : Df K mg "read_line" g0) (G_read_line : FnG P w K mg base (L2N.CX P w) 5 g0 fd0 ["text"] (spD K (pm_read_line K CT))) (b_read_line : Binds K fd0 ["text"] []) (kb_read_line : KwB K fd0 ["text"])
    (D__law_read_due : Df K mg "_law_read_due" g1) (G__law_read_due : FnG P w K mg base (L2N.CX P w) 3 g1 fd1 ["value"] (spD K (pm_line_in K))) (b__law_read_due : Binds K fd1 ["value"] [])
    (D__law_same : Df K mg "_law_same" g2) (H__law_same : FnGH P w K mg base (L2N.CX P w) 1 g2 fd2 ["kept", "thing"] (spD K (pm_same K CT))) (b__law_same : Binds K fd2 ["kept", "thing"] [])
    (D_line_text : Df K mg "line_text" g3) (G_line_text : FnG P w K mg base (L2N.CX P w) 4 g3 fd3 ["line"] (spD K (pm_line_text K CL))) (b_line_text : Binds K fd3 ["line"] []) :
    FnG P w K mg base (L2N.CX P w) 6 f fd ["value", "by_name"] (spD K (pm_written K CT)) := by
  refine fn_dl F sc__law_read_right (fun ds ms Pd X h => by obtain ⟨d, b, rfl, _⟩ := h; rfl) (fun cdv Ar outer s H E hr hq => ?_)
  have tk := (L2N.takes_of (X := cxOf (L2N.CX P w) P w K mg base ["value", "by_name", "due", "told", "e", "part"] "_law_read_right" (defScope s__law_read_right) f cdv Ar outer s H E) (E := E) rfl rfl rfl rfl)
  refine ⟨_, (pss_cons (ps_set (i := 2) sc__law_read_right.nd rfl (by first | exact Or.inl rfl | exact Or.inr rfl) (pe_g G__law_read_due (hr.mono (by decide)) hq rfl D__law_read_due.m D__law_read_due.k b__law_read_due .nil (fun σ => L2N.passAt tk σ) (pa_cons (pv 0) pa_nil))) (pss_cons (ps_tryK (K := K) (i := 4) rfl rfl rfl sc__law_read_right.nd rfl rfl (c := .ref _) ⟨rfl, by decide, .inl E_InvalidText.m⟩ tk (fun W pn xe tk _ => (pss_one (ps_set (i := 3) sc__law_read_right.nd rfl (by first | exact Or.inl rfl | exact Or.inr rfl) (pe_ifExp (pt_val (pv 1)) (pe_gk G_read_line (hr.mono (by decide)) hq rfl D_read_line.m D_read_line.k kb_read_line (fun σ => L2N.passAt tk σ) (pk_cons (pv 0) pk_nil)) (pe_g G_read_line (hr.mono (by decide)) hq rfl D_read_line.m D_read_line.k b_read_line .nil (fun σ => L2N.passAt tk σ) (pa_cons (pv 0) pa_nil)))))) (fun a oe cls d pn hz hf => (pss_cons (ps_if (PW.pt (pw_or (pt_cmpR op_notA (pv 2) pe_non (nomark _)) (pw_or1 (pt_not (pt_val (pe_gH H__law_same (roomS (hr.mono (by decide))) (hq.mark _) (hotSuite hz hf) rfl D__law_same.m D__law_same.k b__law_same .nil (fun σ => passN σ) (pa_cons (pe_xf E_InvalidText.t.x E_InvalidText.no hz.zc hf (pv 4)) (pa_cons (pv 0) pa_nil)))))))) (pss_one (ps_ret pe_bl)) pss_nil) (pss_cons (ps_if (pt_val (pe_callB (crK (K := K) (r := rIsiX) rfl call_isiX) (by rfl) T.b_isinstance bt_isinstance (pa_cons (pv 0) (pa_cons (pe_bltn (v := .ty "list") rfl T.b_list bt_list rfl) pa_nil)))) (pss_one (ps_expr (pe_bmK (K := K) rfl PySem.F.plainAttrs_list PySem.F.slot_list_append PySem.F.type_list_append mtA_append (pv 0) (pa_cons pe_str pa_nil)))) pss_nil) (pss_one (ps_ret (pe_gH H__law_same (roomS (hr.mono (by decide))) (hq.mark _) (hotSuite hz hf) rfl D__law_same.m D__law_same.k b__law_same .nil (fun σ => passN σ) (pa_cons (pe_xf E_InvalidText.t.x E_InvalidText.no hz.zc hf (pv 4)) (pa_cons (pv 0) pa_nil))))))))) (pss_cons (ps_if (PW.pt (pw_or (pt_cmpR op_isA (pv 2) pe_non (nomark _)) (pw_or (pt_not (pt_val (pe_callB (crK (K := K) (r := rIsiX) rfl call_isiX) (by rfl) T.b_isinstance bt_isinstance (pa_cons (pv 3) (pa_cons (pe_bltn (v := .ty "tuple") rfl T.b_tuple bt_tuple rfl) pa_nil))))) (pw_or1 (pt_cmpR (opK (K := K) (r := rNeA) rfl (op_neA hr.units)) (pv 3) (pv 2) (nomark _)))))) (pss_one (ps_ret pe_bl)) pss_nil) (pss_one (ps_ret (pe_and (pe_cmpR (opK (K := K) (r := rEqA) rfl (op_eqA hr.units)) (pe_lc (own := [("part", 5)]) rfl sc__law_read_right.nd (pi_tup (pv 3)) (blkOk_by (own := [("part", 5)]) (N := ["value", "by_name", "due", "told", "e", "part"]) (sc := defScope s__law_read_right) (by decide +kernel)) (fun _ _ _ _ _ => (pg_name (i := 5) sc__law_read_right.nd rfl (by first | exact Or.inl rfl | exact Or.inr rfl))) (fun _ _ _ _ _ => pts_one (pt_not (pt_val (pe_callB (crK (K := K) (r := rIsiX) rfl call_isiX) (by rfl) T.b_isinstance bt_isinstance (pa_cons (pv 5) (pa_cons (pe_bltn (v := .ty "str") rfl T.b_str bt_str rfl) pa_nil)))))) (fun _ _ _ _ _ => (pv 5))) (pe_lst pa_nil) (nomark _)) (pe_one (pe_cmpR (opK (K := K) (r := rEqA) rfl (op_eqA hr.units)) (pe_g G_line_text (hr.mono (by decide)) hq rfl D_line_text.m D_line_text.k b_line_text .nil (fun σ => L2N.passAt tk σ) (pa_cons (pv 3) pa_nil)) (pv 0) (nomark _))))))))), ?_⟩
  try simp only [cxK]
  rintro _ ms Pd Xd ⟨d, b, rfl, hw, q⟩ bl mb
  have hv1 := hw.l.v
  repeat' walk_at "d1"
  refine ⟨d, rfl, hv1, ?_⟩
  match h : lineInD d with
  | none =>
    dsimp only [optLine]
    repeat' walk_at "d1"
    refine ds_tryK fun R' => ?_
    repeat' walk_at "d1"
    all_goals
      refine ⟨d, rfl, hv1, fun x y e => (by rw [h] at e; cases e), fun _ => ?_⟩
      refine ⟨true, xT, fun _ a dd => ?_, fun z => by cases z⟩
      repeat' walk_at "d1"
      refine de_xf (fs := [("given", d)]) (d := d) rfl ?_
      repeat' walk_at "d1"
      refine ⟨rfl, ?_⟩
      repeat' walk_at "d1"
      refine ⟨d, rfl, hw.r, ?_⟩
      rcases hw.c with nl | ⟨k, xs, rfl, hm, hx, hr2⟩
      · repeat' walk_at "d1"
        refine de_xf (fs := [("given", d)]) (d := d) rfl ?_
        repeat' walk_at "d1"
        refine ⟨rfl, ?_⟩
        repeat' walk_at "d1"
        exact ⟨d, rfl, hw.r, .inl (q _ (.inl rfl))⟩
      · have yl := cell_list hm
        have lt := ms_lt hm
        repeat' walk_at "d1"
        refine ⟨tyD_cell hm, ?_⟩
        repeat' walk_at "d1"
        refine dr_append hm (by omega) ?_
        repeat' walk_at "d1"
        refine de_xf (fs := [("given", .cell k)]) (d := .cell k) rfl ?_
        repeat' walk_at "d1"
        refine ⟨rfl, ?_⟩
        repeat' walk_at "d1"
        exact ⟨.cell k, rfl, hr2, .inl (q _ (.inr ⟨k, _, rfl, rfl⟩))⟩
  | some (x, y) =>
    obtain ⟨z, rfl, ez, hl⟩ := lineIn_some h
    obtain ⟨hx, hy⟩ := line_parts hl
    have lx := isName_len hx
    have ly := isText_len hy
    have vx : VOk K ms (.str x) := .ty rfl ⟨by omega, fun c hc => hv1.sig c (by rw [ez, cps_app, cps_app]; simp [hc])⟩
    have vy : VOk K ms (.str y) := .ty rfl ⟨by omega, fun c hc => hv1.sig c (by rw [ez, cps_app, cps_app]; simp [hc])⟩
    have vt : VOk K ms (.tup [.str x, .str y]) := .ty rfl True.intro
    have lt : LOk K ms (.tup [.str x, .str y]) := ⟨vt, fun a b e => by cases e; exact ⟨vx, vy⟩⟩
    dsimp only [optLine]
    repeat' walk_at "d1"
    refine ds_tryK fun R' => ?_
    repeat' walk_at "d1"
    all_goals
      refine ⟨_, rfl, hv1, fun x' y' e => ?_, fun e => by rw [h] at e; cases e⟩
      rw [h] at e
      cases e
      repeat' walk_at "d1"
      refine d2_neT (vlow vx vy) (vlow vx vy) ?_
      rw [show (x == x && y == y) = true by simp]
      repeat' walk_at "d1"
      refine lcw_list (by simp) (fun _ => false) (fun _ => .non) (fun c hc => dg_name (by decide) ?_) ?_
      · have vc : VOk K ms c ∧ isTyD ms c "str" = true := by
          simp only [List.mem_cons, List.not_mem_nil, or_false] at hc
          rcases hc with rfl | rfl
          · exact ⟨vx, isTyD_str _⟩
          · exact ⟨vy, isTyD_str _⟩
        obtain ⟨vc, tc⟩ := vc
        repeat' walk_at "d1"
        exact ⟨by simp, rfl, fun z => by simp at z⟩
      · repeat' walk_at "d1"
        refine eqNil0 rfl ?_
        repeat' walk_at "d1"
        refine ⟨_, rfl, lt, fun a' b' e hl' => ?_, fun e => by rw [hl] at e; cases e⟩
        cases e
        repeat' walk_at "d1"
        exact fin_b (b := true) (q _ (.inl rfl)) (decide_eq_true ez.symm).symm
end
end K01
namespace K01
open PySem PySem.Spec PyProof.Rows L2 DL
local macro_rules | `(tactic| walk_at "hyp") => `(tactic| (first
  | (simp only [Bool.not_eq_true', Bool.not_eq_false', decide_eq_true_eq, decide_eq_false_iff_not, Bool.or_eq_true, Bool.and_eq_true, Bool.or_eq_false_iff, Bool.not_true, Bool.not_false, Bool.and_eq_false_iff] at *)
  | skip))
local macro_rules | `(tactic| walk_at "d1") => `(tactic| first
  | with_reducible refine ds_seq ?_
  | with_reducible refine ds_if ?_
  | with_reducible refine ds_ret ?_
  | with_reducible refine ds_set ?_
  | with_reducible refine ds_drop ?_
  | with_reducible refine ds_par ?_
  | with_reducible refine ds_par3 ?_
  | with_reducible refine ds_next ?_
  | with_reducible refine de_var rfl ?_
  | with_reducible refine de_int ?_
  | with_reducible refine de_str ?_
  | with_reducible refine de_bl ?_
  | with_reducible refine de_non ?_
  | with_reducible refine de_ty ?_
  | with_reducible refine de_ref ?_
  | with_reducible refine de_op ?_
  | with_reducible refine de_chain ?_
  | with_reducible refine de_un ?_
  | with_reducible refine de_dnew ?_
  | with_reducible refine de_disp1 ?_
  | with_reducible refine de_cb ?_
  | with_reducible refine de_bm ?_
  | with_reducible refine de_sl ?_
  | with_reducible refine de_tup ?_
  | with_reducible refine de_lst ?_
  | with_reducible refine de_fstr ?_
  | with_reducible refine de_fmtS ?_
  | with_reducible refine dj_cons ?_
  | with_reducible refine dj_nil ?_
  | with_reducible refine do_none ?_
  | with_reducible refine do_some ?_
  | with_reducible refine de_g0 (dds := []) (fun _ => .nil) ?_
  | with_reducible refine de_g (dds := []) (fun _ => .nil) ?_
  | with_reducible refine de_lc ?_
  | with_reducible refine di_str ?_
  | with_reducible refine di_tup ?_
  | with_reducible refine de_notV ?_
  | with_reducible refine de_andV ?_
  | with_reducible refine de_orV ?_
  | with_reducible refine de_if ?_
  | with_reducible refine dt_test ?_
  | with_reducible refine dt_B ?_
  | with_reducible refine dt_and ?_
  | with_reducible refine dt_or ?_
  | with_reducible refine dt_not ?_
  | with_reducible refine dt_yes ?_
  | with_reducible refine da_cons ?_
  | with_reducible refine da_nil ?_
  | with_reducible refine d2_leI ?_
  | with_reducible refine d2_ltI ?_
  | with_reducible refine d2_geI ?_
  | with_reducible refine d2_gtI ?_
  | with_reducible refine d2_addI ?_
  | with_reducible refine d2_sub ?_
  | ((with_reducible refine' d2_leS1 (sign1_cps _) ?hs1 ?_); (case hs1 => first | exact sg_a | exact sg_z | exact sg_sp | exact sg_ti))
  | ((with_reducible refine' d2_leS1 ?hs1 (sign1_cps _) ?_); (case hs1 => first | exact sg_a | exact sg_z | exact sg_sp | exact sg_ti))
  | with_reducible refine dr_int ?_
  | with_reducible refine dr_abs ?_
  | with_reducible refine dg_sub ?_
  | ((with_reducible refine' d2_ix ?hsq ?hix ?_); (case hsq => assumption); (case hix => rfl))
  | ((with_reducible refine' d2_mod ?hmod ?_); (case hmod => first | decide | omega))
  | ((with_reducible refine' d2_mul ?hmul ?_); (case hmul => exact mul_ok (by omega) (by omega)))
  | ((with_reducible refine' d2_div ?hdiv ?_); (case hdiv => exact div_ok (by first | decide | omega) (by omega)))
  | ((with_reducible refine' d2_pow ?hpow ?_); (case hpow => exact pow_ok (by decide) (by decide) (by omega)))
  | with_reducible refine d2_notI ?_
  | with_reducible refine d2_notSt ?_
  | with_reducible refine d2_notNn ?_
  | with_reducible refine d2_notT ?_
  | with_reducible refine d2_isI ?_
  | with_reducible refine d2_isNn ?_
  | with_reducible refine d2_isT ?_
  | with_reducible refine d2_neI ?_
  | with_reducible refine d2_eqI ?_
  | with_reducible refine d2_eqS ?_
  | with_reducible refine d2_neS ?_
  | with_reducible refine dr_isiK (by assumption) (by decide) (by first | assumption | exact isTyD_str _ | exact isTyD_tup _ | rfl) ?_
  | with_reducible refine dr_lenT ?_
  | with_reducible refine dr_lenL ?_
  | with_reducible refine dr_lenR ?_
  | with_reducible refine dr_lenC (by assumption) ?_
  | with_reducible refine ds_to ?_
  | with_reducible refine dg_name (by decide) ?_
  | with_reducible refine dg_tup2 ?_
  | with_reducible refine dg_tup3 ?_
  | with_reducible refine dg_tup4 ?_
  | with_reducible refine dgs_cons ?_
  | with_reducible refine dgs_nil ?_
  | with_reducible refine dr_lenS (by omega) ?_
  | with_reducible refine ⟨_, rfl, ?_⟩
  | with_reducible refine ⟨_, _, rfl, ?_⟩
  | with_reducible refine ⟨tyD_str, ?_⟩
  | with_reducible refine ⟨by omega, ?_⟩
  | with_reducible refine ⟨by (simp only [PySem.Str.length_append, len_empty, len_sp, List.length_cons, List.length_nil, List.length_append]; omega), ?_⟩
  | with_reducible refine bothT ?_
  | with_reducible refine bothF ?_
  | with_reducible refine bothNT ?_
  | with_reducible refine bothNF ?_
  | (with_reducible refine both (fun hc => ?_) (fun hc => ?_) <;> (try simp only [Bool.not_eq_true', Bool.not_eq_false', decide_eq_true_eq, decide_eq_false_iff_not] at hc) <;> (try (exfalso; omega)) <;> (try exact absurd rfl hc) <;> (try exact absurd trivial hc)))

local macro_rules | `(tactic| walk_at "sm") => `(tactic| first
  | with_reducible refine di_lst ?_
  | with_reducible refine as_lst ?_
  | ((with_reducible refine' d2_addSm ?hs1 ?hs2 ?hs3 (fun hs => ?_)); (case hs1 => assumption); (case hs2 => assumption); (case hs3 => omega))
  | ((with_reducible refine' d2_addL ?hal ?_); (case hal => (simp; try omega)))
  | with_reducible refine d1_neg ?_)

abbrev s__law_values : Stmt := (topS 40)
theorem sc__law_values : FnScope ["box", "name", "text", "word", "pure", "found"] ["box"] (defScope s__law_values) := ⟨rfl, rfl, rfl, by decide +kernel, rfl, by decide +kernel, by decide +kernel⟩
abbrev s__law_lists : Stmt := (topS 41)
theorem sc__law_lists : FnScope ["box", "name", "word"] ["box"] (defScope s__law_lists) := ⟨rfl, rfl, rfl, by decide +kernel, rfl, by decide +kernel, by decide +kernel⟩
abbrev s__law_cell_right : Stmt := (topS 42)
theorem sc__law_cell_right : FnScope ["box", "by_name", "values", "value"] ["box"] (defScope s__law_cell_right) := ⟨rfl, rfl, rfl, by decide +kernel, rfl, by decide +kernel, by decide +kernel⟩
abbrev s_law : Stmt := (topS 43)
theorem sc_law : FnScope ["script", "k"] ["script"] (defScope s_law) := ⟨rfl, rfl, rfl, by decide +kernel, rfl, by decide +kernel, by decide +kernel⟩
section
variable {P : Program} {w : World} {K : PySem.W.Frag} {mg : Str → Option Value} {base : Heap}
inductive Gd (K : PySem.W.Frag) (C : Addr) : Dat → Prop
  | ok {d : Dat} (h : ∀ ms, WOk K C ms d) (p : ∀ a b, d = .tup [a, b] → ∃ T, ∀ ms, tyOf ms b = some T) : Gd K C d
  | pe {z : Str} (h : Sm 900 z) : Gd K C (.tup [.str z, .exc C [("given", .str "x")]])
def AllGd (K : PySem.W.Frag) (C : Addr) (vs : List Dat) : Prop := ∀ d ∈ vs, Gd K C d
theorem gd_nil {C : Addr} : AllGd K C [] := fun _ h => nomatch h
theorem gd_cons {C : Addr} {d : Dat} {vs : List Dat} (h : Gd K C d) (h' : AllGd K C vs) : AllGd K C (d :: vs) := fun x hx => by
  rcases List.mem_cons.mp hx with z | z
  · rw [z]; exact h
  · exact h' x z
theorem gd_app {C : Addr} {xs vs : List Dat} (h : AllGd K C xs) (h' : AllGd K C vs) : AllGd K C (xs ++ vs) := fun x hx => by
  rcases List.mem_append.mp hx with z | z
  · exact h x z
  · exact h' x z
theorem shows_of {d : Dat} {n k : Nat} (h : Cm d n k) (hn : n ≤ 1000000) (hk : k ≤ 40) : ∃ p, PyD d p ∧ Shows p := by
  obtain ⟨p, a, b, c, e, f⟩ := h.ex
  exact ⟨p, a, b, c, by omega, by omega⟩
theorem rp_of {C : Addr} {ms : Ms} {d : Dat} {n k : Nat} (h : Cm d n k) (hn : n ≤ 1000000) (hk : k ≤ 40) : Rp C ms d := by
  obtain ⟨p, a, b⟩ := shows_of h hn hk
  obtain ⟨T, t⟩ := h.ty
  exact .py ⟨T, t ms⟩ (.inl a) b
theorem gd_leaf {C : Addr} {d : Dat} {n k : Nat} (h : Cm d n k) (hn : n ≤ 1000000) (hk : k ≤ 40) (nt : ∀ xs, d ≠ .tup xs) (nl : ∀ ms, isTyD ms d "list" = false) : Gd K C d :=
  .ok (fun ms => ⟨⟨h.v, fun a b e => absurd e (nt _)⟩, rp_of h hn hk, .inl (nl ms)⟩) fun a b e => absurd e (nt _)
theorem gd_str {C : Addr} {z : Str} {m : Nat} (h : Sm m z) (hm : m ≤ 90000) : Gd K C (.str z) := gd_leaf (cm_str (n := 10 * m + 2) (k := 0) h (by omega) (Nat.le_refl _)) (by omega) (by omega) (fun _ e => nomatch e) (fun _ => rfl)
theorem gd_non {C : Addr} : Gd K C .non := gd_leaf (cm_non (n := 4) (k := 0) (by omega)) (by omega) (by omega) (fun _ e => nomatch e) (fun _ => rfl)
theorem gd_bl {C : Addr} {b : Bool} : Gd K C (.bl b) := gd_leaf (cm_bl (n := 5) (k := 0) (by omega)) (by omega) (by omega) (fun _ e => nomatch e) (fun _ => rfl)
theorem gd_int {C : Addr} {i : Int} (h : (decide (i.natAbs.log2 < 1920) && decide ((PyData.int i).shown.length ≤ 100)) = true) : Gd K C (.int i) := gd_leaf (cm_int (n := 100) (k := 0) h) (by omega) (by omega) (fun _ e => nomatch e) (fun _ => rfl)
theorem gd_tup {C : Addr} {ds : List Dat} {n : Nat} (h : CmL ds n 3) (hn : n ≤ 900000) : Gd K C (.tup ds) :=
  .ok (fun ms => ⟨⟨h.tup.v, fun a b e => by
    cases e
    obtain ⟨⟨T, t⟩, s⟩ := h.all a (by simp)
    obtain ⟨⟨T', t'⟩, s'⟩ := h.all b (by simp)
    exact ⟨.ty (t ms) s, .ty (t' ms) s'⟩⟩, rp_of h.tup (by omega) (by omega), .inl rfl⟩) fun a b e => by
    cases e
    exact (h.all b (by simp)).1
theorem gd_dct {C : Addr} {w a : Str} {n m : Nat} (ha : Sm n a) (hw : Sm m w) (hn : n + m ≤ 90000) : Gd K C (.dct [(.inr a, .str w)]) :=
  .ok (fun ms => ⟨⟨.ty rfl True.intro, fun _ _ e => nomatch e⟩, .dct (kvs := [(a, w)]) (Nat.le_trans (shownS_le rfl ha hw) (by omega)), .inl rfl⟩) fun _ _ e => nomatch e
theorem gd_dct0 {C : Addr} : Gd K C (.dct []) :=
  .ok (fun ms => ⟨⟨.ty rfl True.intro, fun _ _ e => nomatch e⟩, .dct (kvs := []) (by decide +kernel), .inl rfl⟩) fun _ _ e => nomatch e
theorem gd_ex {C : Addr} (T : ExT K C) : Gd K C (.exc C [("given", .str "x")]) :=
  .ok (fun ms => ⟨⟨.ex T, fun _ _ e => nomatch e⟩, .ex, .inl rfl⟩) fun _ _ e => nomatch e
def pm_values (K : PySem.W.Frag) (C : Addr) : Pm := fun ds ms P X => ∃ (k n : Nat) (xs : List Dat), ds = [.cell k] ∧ ms[k]? = some (.lst xs) ∧ BoxOk n xs ∧ n ≤ 50000 ∧ ∀ vs ys, AllGd K C vs → vs.length ≤ 1000 → BoxOk (n + 2000) ys → P (.lst vs) (ms.set k (.lst ys))
def pm_lists (K : PySem.W.Frag) : Pm := fun ds ms P X => ∃ (k n : Nat) (xs : List Dat), ds = [.cell k] ∧ ms[k]? = some (.lst xs) ∧ BoxOk n xs ∧ n ≤ 70000 ∧ ∀ vs ys, (∀ d ∈ vs, ∃ zs, d = .lst zs ∧ zs.length ≤ 10 ∧ CmL zs 100000 3) → BoxOk (n + 2000) ys → P (.lst vs) (ms.set k (.lst ys))
theorem ok_values {f : Addr} {fd : FuncData} {g0 : Addr} {fd0 : FuncData} {g1 : Addr} {fd1 : FuncData} {g2 : Addr} {fd2 : FuncData} {g3 : Addr} {fd3 : FuncData} {g4 : Addr} {fd4 : FuncData} {CT fT : Addr} {fdT : FuncData} (E_InvalidText : ErrT K mg "InvalidText" "given" CT fT fdT) (I_InvalidText : FnOk P w K mg base (L2N.CX P w) 1 fT fdT ["self", "given"] (spIni1 K "given")) (F : Fun K "_law_values" "_law_values" s__law_values f fd) (T : Txt K mg)
    (D__law_name : Df K mg "_law_name" g0) (G__law_name : FnG P w K mg base (L2N.CX P w) 3 g0 fd0 ["box"] (spD K (pm_draw K))) (b__law_name : Binds K fd0 ["box"] [])
    (D__law_text : Df K mg "_law_text" g1) (G__law_text : FnG P w K mg base (L2N.CX P w) 3 g1 fd1 ["box"] (spD K (pm_draw K))) (b__law_text : Binds K fd1 ["box"] [])
    (D__law_figures : Df K mg "_law_figures" g2) (G__law_figures : FnG P w K mg base (L2N.CX P w) 3 g2 fd2 ["box"] (spD K (pm_draw K))) (b__law_figures : Binds K fd2 ["box"] [])
    (D__law_take : Df K mg "_law_take" g3) (G__law_take : FnG P w K mg base (L2N.CX P w) 1 g3 fd3 ["box", "many"] (spD K (pm_take K))) (b__law_take : Binds K fd3 ["box", "many"] [])
    (D__law_signs : Df K mg "_law_signs" g4) (G__law_signs : FnG P w K mg base (L2N.CX P w) 2 g4 fd4 ["box", "alphabet", "many"] (spD K (pm_signs K))) (b__law_signs : Binds K fd4 ["box", "alphabet", "many"] []) :
    FnG P w K mg base (L2N.CX P w) 4 f fd ["box"] (spD K (pm_values K CT)) := by
  refine fn_dl F sc__law_values (fun ds ms Pd X h => by obtain ⟨_, _, _, rfl, _⟩ := h; rfl) (fun cdv Ar outer s H E hr hq => ?_)
  have tk := (L2N.takes_of (X := cxOf (L2N.CX P w) P w K mg base ["box", "name", "text", "word", "pure", "found"] "_law_values" (defScope s__law_values) f cdv Ar outer s H E) (E := E) rfl rfl rfl rfl)
  refine ⟨_, (pss_cons (ps_par3 (i := 1) (j := 2) (l := 3) rfl sc__law_values.nd rfl rfl rfl (by decide) (by decide) (by decide) rfl rfl rfl (pa_cons (pe_g G__law_name (hr.mono (by decide)) hq rfl D__law_name.m D__law_name.k b__law_name .nil (fun σ => L2N.passAt tk σ) (pa_cons (pv 0) pa_nil)) (pa_cons (pe_g G__law_text (hr.mono (by decide)) hq rfl D__law_text.m D__law_text.k b__law_text .nil (fun σ => L2N.passAt tk σ) (pa_cons (pv 0) pa_nil)) (pa_cons (pe_g G__law_figures (hr.mono (by decide)) hq rfl D__law_figures.m D__law_figures.k b__law_figures .nil (fun σ => L2N.passAt tk σ) (pa_cons (pv 0) pa_nil)) pa_nil))) (by rfl)) (pss_cons (ps_set (i := 4) sc__law_values.nd rfl (by first | exact Or.inl rfl | exact Or.inr rfl) (pe_g G__law_signs (hr.mono (by decide)) hq rfl D__law_signs.m D__law_signs.k b__law_signs .nil (fun σ => L2N.passAt tk σ) (pa_cons (pv 0) (pa_cons pe_str (pa_cons (pe_op op_addA pe_int (pe_g G__law_take (hr.mono (by decide)) hq rfl D__law_take.m D__law_take.k b__law_take .nil (fun σ => L2N.passAt tk σ) (pa_cons (pv 0) (pa_cons pe_int pa_nil)))) pa_nil))))) (pss_cons (ps_set (i := 5) sc__law_values.nd rfl (by first | exact Or.inl rfl | exact Or.inr rfl) (pe_lst (pa_cons (pv 1) (pa_cons (pv 2) (pa_cons (pv 3) (pa_cons (pe_tup (pa_cons (pv 1) (pa_cons (pv 2) pa_nil))) (pa_cons (pe_tup (pa_cons (pv 4) (pa_cons (pv 2) pa_nil))) (pa_cons (pe_tup (pa_cons (pv 4) (pa_cons (pv 3) pa_nil))) (pa_cons (pe_tup (pa_cons (pv 1) (pa_cons (pv 3) pa_nil))) (pa_cons (pe_op op_addA (pe_op op_addA (pv 1) pe_str) (pv 2)) pa_nil)))))))))) (pss_cons (ps_set (i := 5) sc__law_values.nd rfl (by first | exact Or.inl rfl | exact Or.inr rfl) (pe_op op_addA (pv 5) (pe_lst (pa_cons (pe_op op_addA (pe_op op_addA (pv 4) pe_str) (pv 2)) (pa_cons (pe_op op_addA (pe_op op_addA (pv 4) pe_str) (pv 3)) (pa_cons (pe_op op_addA (pv 4) (pv 2)) (pa_cons (pe_op op_addA (pe_op op_addA (pe_op op_addA pe_str (pv 4)) pe_str) (pv 3)) (pa_cons (pv 4) (pa_cons (pe_op op_addA (pv 4) pe_str) pa_nil))))))))) (pss_cons (ps_set (i := 5) sc__law_values.nd rfl (by first | exact Or.inl rfl | exact Or.inr rfl) (pe_op op_addA (pv 5) (pe_lst (pa_cons (pe_tup (pa_cons (pv 4) (pa_cons pe_str pa_nil))) (pa_cons (pe_tup (pa_cons (pv 4) (pa_cons (pv 2) (pa_cons (pv 2) pa_nil)))) (pa_cons (pe_tup (pa_cons (pv 4) pa_nil)) (pa_cons (pe_tup (pa_cons (pv 2) (pa_cons (pv 4) pa_nil))) (pa_cons (pe_tup (pa_cons (pv 4) (pa_cons pe_non pa_nil))) (pa_cons (pe_tup (pa_cons pe_non (pa_cons (pv 3) pa_nil))) (pa_cons (pe_tup (pa_cons (pv 4) (pa_cons pe_int pa_nil))) pa_nil)))))))))) (pss_cons (ps_set (i := 5) sc__law_values.nd rfl (by first | exact Or.inl rfl | exact Or.inr rfl) (pe_op op_addA (pv 5) (pe_lst (pa_cons (pe_tup (pa_cons (pe_tup (pa_cons (pv 4) (pa_cons (pv 3) pa_nil))) pa_nil)) (pa_cons (pe_tup (pa_cons (pv 4) (pa_cons (pe_tup (pa_cons (pv 3) pa_nil)) pa_nil))) (pa_cons (pe_tup (pa_cons (pv 4) (pa_cons (pe_lst (pa_cons (pv 3) pa_nil)) pa_nil))) (pa_cons (pe_disp (pps_cons pe_str (pv 3) pps_nil) (by rfl) (by rfl) (fun z => by cases z) (by decide)) (pa_cons (pe_tup pa_nil) (pa_cons pe_dnewK (pa_cons pe_non (pa_cons pe_bl (pa_cons pe_bl (pa_cons pe_int (pa_cons pe_int pa_nil)))))))))))))) (pss_cons (ps_set (i := 5) sc__law_values.nd rfl (by first | exact Or.inl rfl | exact Or.inr rfl) (pe_op op_addA (pv 5) (pe_lst (pa_cons pe_str (pa_cons pe_str (pa_cons pe_str (pa_cons pe_str (pa_cons pe_str (pa_cons pe_str (pa_cons pe_str pa_nil)))))))))) (pss_one (ps_ret (pe_op op_addA (pv 5) (pe_lst (pa_cons (pe_op op_powA pe_int pe_int) (pa_cons (pe_un un_neg pe_int) (pa_cons (pe_tup (pa_cons pe_bl (pa_cons (pv 3) pa_nil))) (pa_cons (pe_tup (pa_cons pe_int (pa_cons pe_int pa_nil))) (pa_cons (pe_tup (pa_cons (pv 4) (pa_cons pe_bl pa_nil))) (pa_cons (pe_newE E_InvalidText.t.o E_InvalidText.i E_InvalidText.ti I_InvalidText (hr.mono (by decide)) E_InvalidText.b passE rfl E_InvalidText.m (pa_cons pe_str pa_nil)) (pa_cons (pe_tup (pa_cons (pv 4) (pa_cons (pe_newE E_InvalidText.t.o E_InvalidText.i E_InvalidText.ti I_InvalidText (hr.mono (by decide)) E_InvalidText.b passE rfl E_InvalidText.m (pa_cons pe_str pa_nil)) pa_nil))) pa_nil)))))))))))))))))), ?_⟩
  try simp only [cxK]
  rintro _ ms Pd Xd ⟨k, n, xs, rfl, hk, hb, hn, q⟩ bl mb
  have lt := ms_lt hk
  repeat' walk_at "d1"
  refine ⟨k, n, xs, rfl, hk, hb, by omega, fun name y1 sN b1 => ?_⟩
  repeat' walk_at "d1"
  refine ⟨k, n + 300, y1, rfl, set_same lt, b1, by omega, fun text y2 sT b2 => ?_⟩
  rw [set_set]
  repeat' walk_at "d1"
  refine ⟨k, n + 600, y2, rfl, set_same lt, b2, by omega, fun word y3 sW b3 => ?_⟩
  rw [set_set]
  repeat' walk_at "d1"
  refine ⟨_, _, _, rfl, ?_⟩
  repeat' walk_at "d1"
  refine ⟨k, n + 900, 8, y3, rfl, by omega, by omega, set_same lt, b3, by omega, fun r y4 r0 r1 b4 => ?_⟩
  rw [set_set]
  repeat' walk_at "d1"
  refine ⟨k, n + 901, _, _, y4, rfl, by decide +kernel, Sm.lit (by decide +kernel), by omega, by omega, set_same lt, b4, by omega, fun pure y5 sP b5 => ?_⟩
  rw [set_set]
  repeat' walk_at "d1"
  have s1 : Sm 1 (" " : Str) := Sm.lit (by decide +kernel)
  have s2 : Sm 2 ("  " : Str) := Sm.lit (by decide +kernel)
  repeat' first
    | walk_at "d1"
    | walk_at "sm"
    | refine de_newE1 E_InvalidText.t.o E_InvalidText.no ?_
  exact .inl (q _ _ (gd_app (gd_app (gd_app (gd_app (gd_app (gd_cons (gd_str sN (by omega)) (gd_cons (gd_str sT (by omega)) (gd_cons (gd_str sW (by omega)) (gd_cons (gd_tup (CmL.cons (cm_str (n := 10000) (k := 3) (sN.mono (by omega : _ ≤ 900)) (by omega) (by omega)) (CmL.cons (cm_str (n := 10000) (k := 3) (sT.mono (by omega : _ ≤ 900)) (by omega) (by omega)) CmL.nil)) (by omega)) (gd_cons (gd_tup (CmL.cons (cm_str (n := 10000) (k := 3) (sP.mono (by omega : _ ≤ 900)) (by omega) (by omega)) (CmL.cons (cm_str (n := 10000) (k := 3) (sT.mono (by omega : _ ≤ 900)) (by omega) (by omega)) CmL.nil)) (by omega)) (gd_cons (gd_tup (CmL.cons (cm_str (n := 10000) (k := 3) (sP.mono (by omega : _ ≤ 900)) (by omega) (by omega)) (CmL.cons (cm_str (n := 10000) (k := 3) (sW.mono (by omega : _ ≤ 900)) (by omega) (by omega)) CmL.nil)) (by omega)) (gd_cons (gd_tup (CmL.cons (cm_str (n := 10000) (k := 3) (sN.mono (by omega : _ ≤ 900)) (by omega) (by omega)) (CmL.cons (cm_str (n := 10000) (k := 3) (sW.mono (by omega : _ ≤ 900)) (by omega) (by omega)) CmL.nil)) (by omega)) (gd_cons (gd_str ((sN.app (Sm.lit (n := 20) (by decide +kernel))).app sT) (by omega)) gd_nil)))))))) (gd_cons (gd_str ((sP.app (Sm.lit (n := 20) (by decide +kernel))).app sT) (by omega)) (gd_cons (gd_str ((sP.app (Sm.lit (n := 20) (by decide +kernel))).app sW) (by omega)) (gd_cons (gd_str (sP.app sT) (by omega)) (gd_cons (gd_str ((((Sm.lit (n := 20) (by decide +kernel)).app sP).app (Sm.lit (n := 20) (by decide +kernel))).app sW) (by omega)) (gd_cons (gd_str sP (by omega)) (gd_cons (gd_str (sP.app (Sm.lit (n := 20) (by decide +kernel))) (by omega)) gd_nil))))))) (gd_cons (gd_tup (CmL.cons (cm_str (n := 10000) (k := 3) (sP.mono (by omega : _ ≤ 900)) (by omega) (by omega)) (CmL.cons (cm_str (n := 10000) (k := 3) ((Sm.lit (n := 20) (by decide +kernel)).mono (by omega : _ ≤ 900)) (by omega) (by omega)) CmL.nil)) (by omega)) (gd_cons (gd_tup (CmL.cons (cm_str (n := 10000) (k := 3) (sP.mono (by omega : _ ≤ 900)) (by omega) (by omega)) (CmL.cons (cm_str (n := 10000) (k := 3) (sT.mono (by omega : _ ≤ 900)) (by omega) (by omega)) (CmL.cons (cm_str (n := 10000) (k := 3) (sT.mono (by omega : _ ≤ 900)) (by omega) (by omega)) CmL.nil))) (by omega)) (gd_cons (gd_tup (CmL.cons (cm_str (n := 10000) (k := 3) (sP.mono (by omega : _ ≤ 900)) (by omega) (by omega)) CmL.nil) (by omega)) (gd_cons (gd_tup (CmL.cons (cm_str (n := 10000) (k := 3) (sT.mono (by omega : _ ≤ 900)) (by omega) (by omega)) (CmL.cons (cm_str (n := 10000) (k := 3) (sP.mono (by omega : _ ≤ 900)) (by omega) (by omega)) CmL.nil)) (by omega)) (gd_cons (gd_tup (CmL.cons (cm_str (n := 10000) (k := 3) (sP.mono (by omega : _ ≤ 900)) (by omega) (by omega)) (CmL.cons (cm_non (n := 4) (k := 3) (by omega)) CmL.nil)) (by omega)) (gd_cons (gd_tup (CmL.cons (cm_non (n := 4) (k := 3) (by omega)) (CmL.cons (cm_str (n := 10000) (k := 3) (sW.mono (by omega : _ ≤ 900)) (by omega) (by omega)) CmL.nil)) (by omega)) (gd_cons (gd_tup (CmL.cons (cm_str (n := 10000) (k := 3) (sP.mono (by omega : _ ≤ 900)) (by omega) (by omega)) (CmL.cons (cm_int (n := 100) (k := 3) (by decide +kernel)) CmL.nil)) (by omega)) gd_nil)))))))) (gd_cons (gd_tup (CmL.cons ((CmL.tup (CmL.cons (cm_str (n := 10000) (k := 2) (sP.mono (by omega : _ ≤ 900)) (by omega) (by omega)) (CmL.cons (cm_str (n := 10000) (k := 2) (sW.mono (by omega : _ ≤ 900)) (by omega) (by omega)) CmL.nil))).mono (Nat.le_refl _) (by omega)) CmL.nil) (by omega)) (gd_cons (gd_tup (CmL.cons (cm_str (n := 10000) (k := 3) (sP.mono (by omega : _ ≤ 900)) (by omega) (by omega)) (CmL.cons ((CmL.tup (CmL.cons (cm_str (n := 10000) (k := 2) (sW.mono (by omega : _ ≤ 900)) (by omega) (by omega)) CmL.nil)).mono (Nat.le_refl _) (by omega)) CmL.nil)) (by omega)) (gd_cons (gd_tup (CmL.cons (cm_str (n := 10000) (k := 3) (sP.mono (by omega : _ ≤ 900)) (by omega) (by omega)) (CmL.cons ((CmL.lst (CmL.cons (cm_str (n := 10000) (k := 2) (sW.mono (by omega : _ ≤ 900)) (by omega) (by omega)) CmL.nil)).mono (Nat.le_refl _) (by omega)) CmL.nil)) (by omega)) (gd_cons (gd_dct (Sm.lit (n := 20) (by decide +kernel)) sW (by omega)) (gd_cons (gd_tup CmL.nil (by omega)) (gd_cons gd_dct0 (gd_cons gd_non (gd_cons gd_bl (gd_cons gd_bl (gd_cons (gd_int (by decide +kernel)) (gd_cons (gd_int (by decide +kernel)) gd_nil)))))))))))) (gd_cons (gd_str (Sm.lit (n := 20) (by decide +kernel)) (by omega)) (gd_cons (gd_str (Sm.lit (n := 20) (by decide +kernel)) (by omega)) (gd_cons (gd_str (Sm.lit (n := 20) (by decide +kernel)) (by omega)) (gd_cons (gd_str (Sm.lit (n := 20) (by decide +kernel)) (by omega)) (gd_cons (gd_str (Sm.lit (n := 20) (by decide +kernel)) (by omega)) (gd_cons (gd_str (Sm.lit (n := 20) (by decide +kernel)) (by omega)) (gd_cons (gd_str (Sm.lit (n := 20) (by decide +kernel)) (by omega)) gd_nil)))))))) (gd_cons (gd_int (by decide +kernel)) (gd_cons (gd_int (by decide +kernel)) (gd_cons (gd_tup (CmL.cons (cm_bl (n := 5) (k := 3) (by omega)) (CmL.cons (cm_str (n := 10000) (k := 3) (sW.mono (by omega : _ ≤ 900)) (by omega) (by omega)) CmL.nil)) (by omega)) (gd_cons (gd_tup (CmL.cons (cm_int (n := 100) (k := 3) (by decide +kernel)) (CmL.cons (cm_int (n := 100) (k := 3) (by decide +kernel)) CmL.nil)) (by omega)) (gd_cons (gd_tup (CmL.cons (cm_str (n := 10000) (k := 3) (sP.mono (by omega : _ ≤ 900)) (by omega) (by omega)) (CmL.cons (cm_bl (n := 5) (k := 3) (by omega)) CmL.nil)) (by omega)) (gd_cons (gd_ex E_InvalidText.t) (gd_cons (.pe (sP.mono (by omega))) gd_nil)))))))) (by simp) (b5.mono (by omega)))
theorem ls_nil : ∀ d ∈ ([] : List Dat), ∃ zs, d = .lst zs ∧ zs.length ≤ 10 ∧ CmL zs 100000 3 := fun _ h => nomatch h
theorem CmL.mono {ds : List Dat} {n k m j : Nat} (h : CmL ds n k) (l : n ≤ m) (l' : k ≤ j) : CmL ds m j := by
  obtain ⟨⟨p, a, b, c, e, f⟩, s⟩ := h
  exact ⟨⟨p, a, b, c, Nat.le_trans e l', Nat.le_trans f l⟩, s⟩
theorem ls_cons {zs : List Dat} {vs : List Dat} {n : Nat} (h : CmL zs n 3) (hn : n ≤ 100000) (hl : zs.length ≤ 10) (h' : ∀ d ∈ vs, ∃ zs, d = .lst zs ∧ zs.length ≤ 10 ∧ CmL zs 100000 3) : ∀ d ∈ (Dat.lst zs :: vs), ∃ zs, d = .lst zs ∧ zs.length ≤ 10 ∧ CmL zs 100000 3 := fun d hd => by
  rcases List.mem_cons.mp hd with z | z
  · exact ⟨zs, z, hl, CmL.mono h hn (Nat.le_refl _)⟩
  · exact h' d z
theorem ok_lists {f : Addr} {fd : FuncData} {g0 : Addr} {fd0 : FuncData} {g1 : Addr} {fd1 : FuncData}  (F : Fun K "_law_lists" "_law_lists" s__law_lists f fd) (T : Txt K mg)
    (D__law_name : Df K mg "_law_name" g0) (G__law_name : FnG P w K mg base (L2N.CX P w) 3 g0 fd0 ["box"] (spD K (pm_draw K))) (b__law_name : Binds K fd0 ["box"] [])
    (D__law_figures : Df K mg "_law_figures" g1) (G__law_figures : FnG P w K mg base (L2N.CX P w) 3 g1 fd1 ["box"] (spD K (pm_draw K))) (b__law_figures : Binds K fd1 ["box"] []) :
    FnG P w K mg base (L2N.CX P w) 4 f fd ["box"] (spD K (pm_lists K)) := by
  refine fn_dl F sc__law_lists (fun ds ms Pd X h => by obtain ⟨_, _, _, rfl, _⟩ := h; rfl) (fun cdv Ar outer s H E hr hq => ?_)
  have tk := (L2N.takes_of (X := cxOf (L2N.CX P w) P w K mg base ["box", "name", "word"] "_law_lists" (defScope s__law_lists) f cdv Ar outer s H E) (E := E) rfl rfl rfl rfl)
  refine ⟨_, (pss_cons (ps_par (i := 1) (j := 2) rfl sc__law_lists.nd rfl rfl (by decide) rfl rfl (pa_cons (pe_g G__law_name (hr.mono (by decide)) hq rfl D__law_name.m D__law_name.k b__law_name .nil (fun σ => L2N.passAt tk σ) (pa_cons (pv 0) pa_nil)) (pa_cons (pe_g G__law_figures (hr.mono (by decide)) hq rfl D__law_figures.m D__law_figures.k b__law_figures .nil (fun σ => L2N.passAt tk σ) (pa_cons (pv 0) pa_nil)) pa_nil)) (by rfl)) (pss_one (ps_ret (pe_lst (pa_cons (pe_lst (pa_cons (pv 1) (pa_cons (pv 2) pa_nil))) (pa_cons (pe_lst pa_nil) (pa_cons (pe_lst (pa_cons (pv 2) pa_nil)) (pa_cons (pe_lst (pa_cons pe_str (pa_cons pe_str pa_nil))) (pa_cons (pe_lst (pa_cons (pe_tup (pa_cons pe_str (pa_cons pe_str pa_nil))) pa_nil)) (pa_cons (pe_lst (pa_cons (pv 1) (pa_cons (pv 2) (pa_cons (pv 1) pa_nil)))) (pa_cons (pe_lst (pa_cons pe_non pa_nil)) pa_nil))))))))))), ?_⟩
  try simp only [cxK]
  rintro _ ms Pd Xd ⟨k, n, xs, rfl, hk, hb, hn, q⟩ bl mb
  have lt := ms_lt hk
  repeat' walk_at "d1"
  refine ⟨k, n, xs, rfl, hk, hb, by omega, fun name y1 sN b1 => ?_⟩
  repeat' walk_at "d1"
  refine ⟨k, n + 300, y1, rfl, set_same lt, b1, by omega, fun word y3 sW b3 => ?_⟩
  rw [set_set]
  repeat' first
    | walk_at "d1"
    | walk_at "sm"
  exact .inl (q _ _ (ls_cons (CmL.cons (cm_str (n := 10000) (k := 3) (sN.mono (by omega : _ ≤ 900)) (by omega) (by omega)) (CmL.cons (cm_str (n := 10000) (k := 3) (sW.mono (by omega : _ ≤ 900)) (by omega) (by omega)) CmL.nil)) (by omega) (by simp) (ls_cons CmL.nil (by omega) (by simp) (ls_cons (CmL.cons (cm_str (n := 10000) (k := 3) (sW.mono (by omega : _ ≤ 900)) (by omega) (by omega)) CmL.nil) (by omega) (by simp) (ls_cons (CmL.cons (cm_str (n := 10000) (k := 3) ((Sm.lit (n := 20) (by decide +kernel)).mono (by omega : _ ≤ 900)) (by omega) (by omega)) (CmL.cons (cm_str (n := 10000) (k := 3) ((Sm.lit (n := 20) (by decide +kernel)).mono (by omega : _ ≤ 900)) (by omega) (by omega)) CmL.nil)) (by omega) (by simp) (ls_cons (CmL.cons ((CmL.tup (CmL.cons (cm_str (n := 10000) (k := 2) ((Sm.lit (n := 20) (by decide +kernel)).mono (by omega : _ ≤ 900)) (by omega) (by omega)) (CmL.cons (cm_str (n := 10000) (k := 2) ((Sm.lit (n := 20) (by decide +kernel)).mono (by omega : _ ≤ 900)) (by omega) (by omega)) CmL.nil))).mono (Nat.le_refl _) (by omega)) CmL.nil) (by omega) (by simp) (ls_cons (CmL.cons (cm_str (n := 10000) (k := 3) (sN.mono (by omega : _ ≤ 900)) (by omega) (by omega)) (CmL.cons (cm_str (n := 10000) (k := 3) (sW.mono (by omega : _ ≤ 900)) (by omega) (by omega)) (CmL.cons (cm_str (n := 10000) (k := 3) (sN.mono (by omega : _ ≤ 900)) (by omega) (by omega)) CmL.nil))) (by omega) (by simp) (ls_cons (CmL.cons (cm_non (n := 4) (k := 3) (by omega)) CmL.nil) (by omega) (by simp) ls_nil))))))) (b3.mono (by omega)))
def pm_cell_right (K : PySem.W.Frag) : Pm := fun ds ms P X => ∃ (k : Nat) (xs : List Dat), ds = [.cell k] ∧ ms[k]? = some (.lst xs) ∧ BoxOk 0 xs ∧ ∀ ms', P (.bl true) ms'
theorem later_same {C : Addr} {d : Dat} {ms ms' : Ms} (h : ∀ ms, WOk K C ms d) (l : Later ms ms' d) : ms' = ms := by
  rcases l with l | ⟨k, xs, e, _⟩
  · exact l
  · subst e
    have := (h []).l.v
    cases this with
    | ty t s => simp [tyOf] at t
def Sl3 (a b c : Option Dat) (e : Ev) : Prop := ∃ x, e = [a, b, c, x]
theorem rp_cell {C : Addr} {ms : Ms} {k n : Nat} {zs : List Dat} (hm : ms[k]? = some (.lst zs)) (h : CmL zs n 3) (hn : n ≤ 900000) : Rp C ms (.cell k) := by
  obtain ⟨p, a, b⟩ := shows_of h.lst (by omega) (by omega)
  cases a with
  | lst a => exact .py ⟨"list", by simp [tyOf, hm]⟩ (.inr ⟨k, zs, _, rfl, hm, a, rfl⟩) b
theorem wok_cell {C : Addr} {ms : Ms} {zs : List Dat} (h : CmL zs 100000 3) (hl : zs.length ≤ 10) : WOk K C (ms ++ [.lst zs]) (.cell ms.length) := by
  have hm : (ms ++ [MO.lst zs])[ms.length]? = some (.lst zs) := by simp
  have lt := ms_lt hm
  refine ⟨⟨.ty (T := "list") (by simp [tyOf, hm]) True.intro, fun _ _ e => nomatch e⟩, rp_cell hm h (by omega), .inr ⟨ms.length, zs, rfl, hm, by omega, ?_⟩⟩
  exact rp_cell (set_same lt) (CmL.snoc (cm_str (z := "more") (m := 4) (n := 100) (k := 3) (Sm.lit (by decide +kernel)) (by omega) (by omega)) h) (by omega)
theorem Gd.l {C : Addr} (T : ExT K C) {d : Dat} (h : Gd K C d) (ms : Ms) : LOk K ms d := by
  cases h with
  | ok h p => exact (h ms).l
  | pe h => exact ⟨.ty rfl True.intro, fun a b e => by cases e; exact ⟨.ty rfl ⟨Nat.le_trans h.len (by decide), h.sig⟩, .ex T⟩⟩
theorem ok_cell_right {f : Addr} {fd : FuncData} {g0 : Addr} {fd0 : FuncData} {g1 : Addr} {fd1 : FuncData} {g2 : Addr} {fd2 : FuncData} {g3 : Addr} {fd3 : FuncData} {g4 : Addr} {fd4 : FuncData} {g5 : Addr} {fd5 : FuncData} {CT fT : Addr} {fdT : FuncData} (E_InvalidText : ErrT K mg "InvalidText" "given" CT fT fdT) (nC : KitNo K CT) (yC : PySem.W.kitOne K (.ref CT) (.ref CT) = some true) (F : Fun K "_law_cell_right" "_law_cell_right" s__law_cell_right f fd) (T : Txt K mg)
    (D__law_take : Df K mg "_law_take" g0) (G__law_take : FnG P w K mg base (L2N.CX P w) 1 g0 fd0 ["box", "many"] (spD K (pm_take K))) (b__law_take : Binds K fd0 ["box", "many"] [])
    (D__law_values : Df K mg "_law_values" g1) (G__law_values : FnG P w K mg base (L2N.CX P w) 4 g1 fd1 ["box"] (spD K (pm_values K CT))) (b__law_values : Binds K fd1 ["box"] [])
    (D__law_asks_right : Df K mg "_law_asks_right" g2) (G__law_asks_right : FnG P w K mg base (L2N.CX P w) 4 g2 fd2 ["value", "by_name"] (spD K (pm_asks K))) (b__law_asks_right : Binds K fd2 ["value", "by_name"] [])
    (D__law_written_right : Df K mg "_law_written_right" g3) (G__law_written_right : FnG P w K mg base (L2N.CX P w) 6 g3 fd3 ["value", "by_name"] (spD K (pm_written K CT))) (b__law_written_right : Binds K fd3 ["value", "by_name"] [])
    (D__law_read_right : Df K mg "_law_read_right" g4) (G__law_read_right : FnG P w K mg base (L2N.CX P w) 6 g4 fd4 ["value", "by_name"] (spD K (pm_written K CT))) (b__law_read_right : Binds K fd4 ["value", "by_name"] [])
    (D__law_lists : Df K mg "_law_lists" g5) (G__law_lists : FnG P w K mg base (L2N.CX P w) 4 g5 fd5 ["box"] (spD K (pm_lists K))) (b__law_lists : Binds K fd5 ["box"] []) :
    FnG P w K mg base (L2N.CX P w) 7 f fd ["box"] (spD K (pm_cell_right K)) := by
  have M_InvalidText := E_InvalidText.m
  refine fn_dl F sc__law_cell_right (fun ds ms Pd X h => by obtain ⟨_, _, rfl, _⟩ := h; rfl) (fun cdv Ar outer s H E hr hq => ?_)
  have tk := (L2N.takes_of (X := cxOf (L2N.CX P w) P w K mg base ["box", "by_name", "values", "value"] "_law_cell_right" (defScope s__law_cell_right) f cdv Ar outer s H E) (E := E) rfl rfl rfl rfl)
  refine ⟨_, (pss_cons (ps_set (i := 1) sc__law_cell_right.nd rfl (by first | exact Or.inl rfl | exact Or.inr rfl) (pe_cmpR (opK (K := K) (r := rEqA) rfl (op_eqA hr.units)) (pe_g G__law_take (hr.mono (by decide)) hq rfl D__law_take.m D__law_take.k b__law_take .nil (fun σ => L2N.passAt tk σ) (pa_cons (pv 0) (pa_cons pe_int pa_nil))) pe_int (nomark _))) (pss_cons (ps_set (i := 2) sc__law_cell_right.nd rfl (by first | exact Or.inl rfl | exact Or.inr rfl) (pe_g G__law_values (hr.mono (by decide)) hq rfl D__law_values.m D__law_values.k b__law_values .nil (fun σ => L2N.passAt tk σ) (pa_cons (pv 0) pa_nil))) (pss_cons (ps_for (by first | exact PassesOwn.never | assumption | exact passes_of rfl) rfl (pi_list (pv 2)) (pg_name (i := 3) sc__law_cell_right.nd rfl (by first | exact Or.inl rfl | exact Or.inr rfl)) (pss_cons (ps_if (pt_not (pt_val (pe_g G__law_asks_right (hr.mono (by decide)) hq rfl D__law_asks_right.m D__law_asks_right.k b__law_asks_right .nil (fun σ => L2N.passAt tk σ) (pa_cons (pv 3) (pa_cons (pv 1) pa_nil))))) (pss_one (ps_ret pe_bl)) pss_nil) (pss_cons (ps_if (PW.pt (pw_and (pt_val (pe_callB (crK (K := K) (r := rIsiX) rfl call_isiX) (by rfl) T.b_isinstance bt_isinstance (pa_cons (pv 3) (pa_cons (pe_bltn (v := .ty "tuple") rfl T.b_tuple bt_tuple rfl) pa_nil)))) (pw_and (pt_cmpR (opK (K := K) (r := rEqA) rfl (op_eqA hr.units)) (pe_callB (crK (K := K) (r := rLenK) rfl call_len) (by rfl) T.b_len bt_len (pa_cons (pv 3) pa_nil)) pe_int (nomark _)) (pw_and1 (pt_val (pe_callB (crK (K := K) (r := rIsiX) rfl call_isiX) (by rfl) T.b_isinstance bt_isinstance (pa_cons (pe_ix (ixK (K := K) (r := rIx) rfl ix_seq) (pv 3) pe_int (fun _ _ => rfl)) (pa_cons (pe_glob (v := .ref _) rfl M_InvalidText rfl) pa_nil)))))))) (pss_one ps_continue) pss_nil) (pss_one (ps_if (PW.pt (pw_or (pt_not (pt_val (pe_g G__law_written_right (hr.mono (by decide)) hq rfl D__law_written_right.m D__law_written_right.k b__law_written_right .nil (fun σ => L2N.passAt tk σ) (pa_cons (pv 3) (pa_cons (pv 1) pa_nil))))) (pw_or1 (pt_not (pt_val (pe_g G__law_read_right (hr.mono (by decide)) hq rfl D__law_read_right.m D__law_read_right.k b__law_read_right .nil (fun σ => L2N.passAt tk σ) (pa_cons (pv 3) (pa_cons (pv 1) pa_nil)))))))) (pss_one (ps_ret pe_bl)) pss_nil))))) (pss_cons (ps_for (by first | exact PassesOwn.never | assumption | exact passes_of rfl) rfl (pi_list (pe_g G__law_lists (hr.mono (by decide)) hq rfl D__law_lists.m D__law_lists.k b__law_lists .nil (fun σ => L2N.passAt tk σ) (pa_cons (pv 0) pa_nil))) (pg_name (i := 3) sc__law_cell_right.nd rfl (by first | exact Or.inl rfl | exact Or.inr rfl)) (pss_cons (ps_if (PW.pt (pw_or (pt_not (pt_val (pe_g G__law_asks_right (hr.mono (by decide)) hq rfl D__law_asks_right.m D__law_asks_right.k b__law_asks_right .nil (fun σ => L2N.passAt tk σ) (pa_cons (pv 3) (pa_cons (pv 1) pa_nil))))) (pw_or1 (pt_not (pt_val (pe_g G__law_written_right (hr.mono (by decide)) hq rfl D__law_written_right.m D__law_written_right.k b__law_written_right .nil (fun σ => L2N.passAt tk σ) (pa_cons (pe_callTy call_list_of (by rfl) T.b_list bt_list (pa_cons (pv 3) pa_nil)) (pa_cons (pv 1) pa_nil)))))))) (pss_one (ps_ret pe_bl)) pss_nil) (pss_one (ps_if (pt_not (pt_val (pe_g G__law_read_right (hr.mono (by decide)) hq rfl D__law_read_right.m D__law_read_right.k b__law_read_right .nil (fun σ => L2N.passAt tk σ) (pa_cons (pe_callTy call_list_of (by rfl) T.b_list bt_list (pa_cons (pv 3) pa_nil)) (pa_cons (pv 1) pa_nil))))) (pss_one (ps_ret pe_bl)) pss_nil)))) (pss_one (ps_ret (pe_cmpR (opK (K := K) (r := rEqA) rfl (op_eqA hr.units)) (pe_lc (own := [("value", 3)]) rfl sc__law_cell_right.nd (pi_list (pv 2)) (blkOk_by (own := [("value", 3)]) (N := ["box", "by_name", "values", "value"]) (sc := defScope s__law_cell_right) (by decide +kernel)) (fun _ _ _ _ _ => (pg_name (i := 3) sc__law_cell_right.nd rfl (by first | exact Or.inl rfl | exact Or.inr rfl))) (fun _ _ _ _ _ => pts_one (pt_not (pt_val (pe_g G__law_asks_right (hr.mono (by decide)) hq rfl D__law_asks_right.m D__law_asks_right.k b__law_asks_right .nil (fun σ => passN σ) (pa_cons (pv 3) (pa_cons (pe_not (pv 1)) pa_nil)))))) (fun _ _ _ _ _ => (pv 3))) (pe_lst pa_nil) (nomark _)))))))), ?_⟩
  try simp only [cxK]
  rintro _ ms Pd Xd ⟨k, xs, rfl, hk, hb, q⟩ bl mb
  have lt := ms_lt hk
  repeat' walk_at "d1"
  refine ⟨k, 0, 2, xs, rfl, by omega, by omega, hk, hb, by omega, fun r y1 r0 r1 b1 => ?_⟩
  repeat' walk_at "d1"
  generalize decide (r = 1) = bn
  refine ⟨k, 1, y1, rfl, set_same lt, b1, by omega, fun vs y2 gd hvl b2 => ?_⟩
  rw [set_set]
  have lt2 : k < (ms.set k (.lst y2)).length := by rw [List.length_set]; exact lt
  have hk2 : (ms.set k (.lst y2))[k]? = some (.lst y2) := set_same lt
  generalize ms.set k (.lst y2) = ms1 at lt2 hk2 ⊢
  refine ds_seq (ds_for (vs := List.range 10) (di_lst ?_))
  repeat' walk_at "d1"
  refine as_lst ⟨fun i e m => Sl3 (some (.cell k)) (some (.bl bn)) (some (.lst vs)) e ∧ m = ms1, ⟨⟨none, rfl⟩, rfl⟩, ?_, ?_⟩
  · rintro i e m hi ⟨⟨x, rfl⟩, rfl⟩
    have hd := gd _ (itL_mem hi)
    generalize itL vs i = d at hd ⊢
    refine dg_name (by decide) ?_
    have hv := hd.l E_InvalidText.t m
    have hv1 := hv.v
    repeat' walk_at "d1"
    refine ⟨d, bn, rfl, hv, ?_⟩
    cases hd with
    | ok h p =>
      cases ht : isTyD m d "tuple" with
      | false =>
        repeat' walk_at "d1"
        refine ⟨_, bn, rfl, h _, fun m1 hl => ?_⟩
        cases later_same h hl
        repeat' walk_at "d1"
        refine ⟨_, bn, rfl, h _, fun m1 hl => ?_⟩
        cases later_same h hl
        repeat' walk_at "d1"
        exact ⟨⟨_, rfl⟩, rfl⟩
      | true =>
        obtain ⟨us, rfl⟩ := isTup ht
        by_cases h2 : us.length = 2
        · match us, h2 with
          | [a, b], _ =>
            obtain ⟨T, hT⟩ := p a b rfl
            have sq : SeqV m (.tup [a, b]) [a, b] := .inr (.inl rfl)
            repeat' walk_at "d1"
            refine dr_isiT hT (nC _ (tyOf_in (hT []))) ?_
            repeat' walk_at "d1"
            refine ⟨_, bn, rfl, h _, fun m1 hl => ?_⟩
            cases later_same h hl
            repeat' walk_at "d1"
            refine ⟨_, bn, rfl, h _, fun m1 hl => ?_⟩
            cases later_same h hl
            repeat' walk_at "d1"
            exact ⟨⟨_, rfl⟩, rfl⟩
        · repeat' walk_at "d1"
          refine ⟨_, bn, rfl, h _, fun m1 hl => ?_⟩
          cases later_same h hl
          repeat' walk_at "d1"
          refine ⟨_, bn, rfl, h _, fun m1 hl => ?_⟩
          cases later_same h hl
          repeat' walk_at "d1"
          exact ⟨⟨_, rfl⟩, rfl⟩
    | @pe z h =>
      have sq : SeqV m (.tup [.str z, .exc CT [("given", .str "x")]]) [.str z, .exc CT [("given", .str "x")]] := .inr (.inl rfl)
      repeat' walk_at "d1"
      refine dr_isiE E_InvalidText.t yC ?_
      repeat' walk_at "d1"
      refine ds_cont ?_
      exact ⟨⟨_, rfl⟩, rfl⟩
  · rintro e m ⟨⟨x, rfl⟩, rfl⟩
    refine ds_seq (ds_for (vs := List.range 10) (di_lst ?_))
    repeat' walk_at "d1"
    refine ⟨k, 2001, y2, rfl, hk2, b2.mono (by omega), by omega, fun ws y3 hws b3 => ?_⟩
    refine as_lst ⟨fun i e m => Sl3 (some (.cell k)) (some (.bl bn)) (some (.lst vs)) e, ⟨x, rfl⟩, ?_, ?_⟩
    · rintro i e m hi ⟨x', rfl⟩
      obtain ⟨zs, hz, hzl, hzc⟩ := hws _ (itL_mem hi)
      rw [hz]
      refine dg_name (by decide) ?_
      have hv : LOk K m (.lst zs) := ⟨hzc.lst.v, fun _ _ e => nomatch e⟩
      repeat' walk_at "d1"
      refine ⟨.lst zs, bn, rfl, hv, ?_⟩
      repeat' walk_at "d1"
      refine dr_listC (.inl rfl) ?_
      repeat' walk_at "d1"
      refine ⟨_, bn, rfl, wok_cell hzc hzl, fun m1 hl => ?_⟩
      repeat' walk_at "d1"
      refine dr_listC (.inl rfl) ?_
      repeat' walk_at "d1"
      refine ⟨_, bn, rfl, wok_cell hzc hzl, fun m2 hl2 => ?_⟩
      repeat' walk_at "d1"
      exact ⟨_, rfl⟩
    · rintro e m ⟨x', rfl⟩
      repeat' first
        | walk_at "d1"
        | walk_at "sm"
      refine lcw_list (by omega) (fun _ => false) (fun _ => .non) (fun c hc => dg_name (by decide) ?_) ?_
      · repeat' walk_at "d1"
        refine ⟨c, _, rfl, (gd c hc).l E_InvalidText.t _, ?_⟩
        repeat' walk_at "d1"
        exact ⟨by simp, rfl, fun z => by simp at z⟩
      · repeat' walk_at "d1"
        exact eqNil0 (by simp) (.inl (q _))
end
end K01
namespace K01
open PySem PySem.Spec PyProof.Rows L2 DL
local macro_rules | `(tactic| walk_at "hyp") => `(tactic| (first
  | (simp only [Bool.not_eq_true', Bool.not_eq_false', decide_eq_true_eq, decide_eq_false_iff_not, Bool.or_eq_true, Bool.and_eq_true, Bool.or_eq_false_iff, Bool.not_true, Bool.not_false, Bool.and_eq_false_iff] at *)
  | skip))
local macro_rules | `(tactic| walk_at "d1") => `(tactic| first
  | with_reducible refine ds_seq ?_
  | with_reducible refine ds_if ?_
  | with_reducible refine ds_ret ?_
  | with_reducible refine ds_set ?_
  | with_reducible refine ds_drop ?_
  | with_reducible refine ds_par ?_
  | with_reducible refine ds_par3 ?_
  | with_reducible refine ds_next ?_
  | with_reducible refine de_var rfl ?_
  | with_reducible refine de_int ?_
  | with_reducible refine de_str ?_
  | with_reducible refine de_bl ?_
  | with_reducible refine de_non ?_
  | with_reducible refine de_ty ?_
  | with_reducible refine de_ref ?_
  | with_reducible refine de_op ?_
  | with_reducible refine de_chain ?_
  | with_reducible refine de_un ?_
  | with_reducible refine de_dnew ?_
  | with_reducible refine de_disp1 ?_
  | with_reducible refine de_cb ?_
  | with_reducible refine de_bm ?_
  | with_reducible refine de_sl ?_
  | with_reducible refine de_tup ?_
  | with_reducible refine de_lst ?_
  | with_reducible refine de_fstr ?_
  | with_reducible refine de_fmtS ?_
  | with_reducible refine dj_cons ?_
  | with_reducible refine dj_nil ?_
  | with_reducible refine do_none ?_
  | with_reducible refine do_some ?_
  | with_reducible refine de_g0 (dds := []) (fun _ => .nil) ?_
  | with_reducible refine de_g (dds := []) (fun _ => .nil) ?_
  | with_reducible refine de_lc ?_
  | with_reducible refine di_str ?_
  | with_reducible refine di_tup ?_
  | with_reducible refine de_notV ?_
  | with_reducible refine de_andV ?_
  | with_reducible refine de_orV ?_
  | with_reducible refine de_if ?_
  | with_reducible refine dt_test ?_
  | with_reducible refine dt_B ?_
  | with_reducible refine dt_and ?_
  | with_reducible refine dt_or ?_
  | with_reducible refine dt_not ?_
  | with_reducible refine dt_yes ?_
  | with_reducible refine da_cons ?_
  | with_reducible refine da_nil ?_
  | with_reducible refine d2_leI ?_
  | with_reducible refine d2_ltI ?_
  | with_reducible refine d2_geI ?_
  | with_reducible refine d2_gtI ?_
  | with_reducible refine d2_addI ?_
  | with_reducible refine d2_sub ?_
  | ((with_reducible refine' d2_leS1 (sign1_cps _) ?hs1 ?_); (case hs1 => first | exact sg_a | exact sg_z | exact sg_sp | exact sg_ti))
  | ((with_reducible refine' d2_leS1 ?hs1 (sign1_cps _) ?_); (case hs1 => first | exact sg_a | exact sg_z | exact sg_sp | exact sg_ti))
  | with_reducible refine dr_int ?_
  | with_reducible refine dr_abs ?_
  | with_reducible refine dg_sub ?_
  | ((with_reducible refine' d2_ix ?hsq ?hix ?_); (case hsq => assumption); (case hix => rfl))
  | ((with_reducible refine' d2_mod ?hmod ?_); (case hmod => first | decide | omega))
  | ((with_reducible refine' d2_mul ?hmul ?_); (case hmul => exact mul_ok (by omega) (by omega)))
  | ((with_reducible refine' d2_div ?hdiv ?_); (case hdiv => exact div_ok (by first | decide | omega) (by omega)))
  | ((with_reducible refine' d2_pow ?hpow ?_); (case hpow => exact pow_ok (by decide) (by decide) (by omega)))
  | with_reducible refine d2_notI ?_
  | with_reducible refine d2_notSt ?_
  | with_reducible refine d2_notNn ?_
  | with_reducible refine d2_notT ?_
  | with_reducible refine d2_isI ?_
  | with_reducible refine d2_isNn ?_
  | with_reducible refine d2_isT ?_
  | with_reducible refine d2_neI ?_
  | with_reducible refine d2_eqI ?_
  | with_reducible refine d2_eqS ?_
  | with_reducible refine d2_neS ?_
  | with_reducible refine dr_isiK (by assumption) (by decide) (by first | assumption | exact isTyD_str _ | exact isTyD_tup _ | rfl) ?_
  | with_reducible refine dr_lenT ?_
  | with_reducible refine dr_lenL ?_
  | with_reducible refine dr_lenR ?_
  | with_reducible refine dr_lenC (by assumption) ?_
  | with_reducible refine ds_to ?_
  | with_reducible refine dg_name (by decide) ?_
  | with_reducible refine dg_tup2 ?_
  | with_reducible refine dg_tup3 ?_
  | with_reducible refine dg_tup4 ?_
  | with_reducible refine dgs_cons ?_
  | with_reducible refine dgs_nil ?_
  | with_reducible refine dr_lenS (by omega) ?_
  | with_reducible refine ⟨_, rfl, ?_⟩
  | with_reducible refine ⟨_, _, rfl, ?_⟩
  | with_reducible refine ⟨tyD_str, ?_⟩
  | with_reducible refine ⟨by omega, ?_⟩
  | with_reducible refine ⟨by (simp only [PySem.Str.length_append, len_empty, len_sp, List.length_cons, List.length_nil, List.length_append]; omega), ?_⟩
  | with_reducible refine bothT ?_
  | with_reducible refine bothF ?_
  | with_reducible refine bothNT ?_
  | with_reducible refine bothNF ?_
  | (with_reducible refine both (fun hc => ?_) (fun hc => ?_) <;> (try simp only [Bool.not_eq_true', Bool.not_eq_false', decide_eq_true_eq, decide_eq_false_iff_not] at hc) <;> (try (exfalso; omega)) <;> (try exact absurd rfl hc) <;> (try exact absurd trivial hc)))

local macro_rules | `(tactic| walk_at "sm") => `(tactic| first
  | with_reducible refine di_lst ?_
  | with_reducible refine as_lst ?_
  | ((with_reducible refine' d2_addSm ?hs1 ?hs2 ?hs3 (fun hs => ?_)); (case hs1 => assumption); (case hs2 => assumption); (case hs3 => omega))
  | ((with_reducible refine' d2_addL ?hal ?_); (case hal => (simp; try omega)))
  | with_reducible refine d1_neg ?_)

section
variable {P : Program} {w : World} {K : PySem.W.Frag} {mg : Str → Option Value} {base : Heap}
def pm_law (K : PySem.W.Frag) : Pm := fun ds ms P X => ∃ (zs : List Int), ds = [.rol (zs.map Dat.int)] ∧ zs.length ≤ 63 ∧ ∀ ms', P (.bl true) ms'
def Sl1 (a : Option Dat) (e : Ev) : Prop := ∃ x, e = [a, x]
theorem ok_law {f : Addr} {fd : FuncData} {g0 : Addr} {fd0 : FuncData} {g1 : Addr} {fd1 : FuncData} {g2 : Addr} {fd2 : FuncData}  (F : Fun K "law" "law" s_law f fd) (T : Txt K mg)
    (D__law_cell_right : Df K mg "_law_cell_right" g0) (G__law_cell_right : FnG P w K mg base (L2N.CX P w) 7 g0 fd0 ["box"] (spD K (pm_cell_right K))) (b__law_cell_right : Binds K fd0 ["box"] [])
    (D__law_box : Df K mg "_law_box" g1) (G__law_box : FnG P w K mg base (L2N.CX P w) 1 g1 fd1 ["great"] (spD K (pm_box K))) (b__law_box : Binds K fd1 ["great"] [])
    (D__law_cell : Df K mg "_law_cell" g2) (G__law_cell : FnG P w K mg base (L2N.CX P w) 1 g2 fd2 ["script", "k"] (spD K (pm_cell K))) (b__law_cell : Binds K fd2 ["script", "k"] []) :
    FnG P w K mg base (L2N.CX P w) 8 f fd ["script"] (spD K (pm_law K)) := by
  refine fn_dl F sc_law (fun ds ms Pd X h => by obtain ⟨_, rfl, _⟩ := h; rfl) (fun cdv Ar outer s H E hr hq => ?_)
  have tk := (L2N.takes_of (X := cxOf (L2N.CX P w) P w K mg base ["script", "k"] "law" (defScope s_law) f cdv Ar outer s H E) (E := E) rfl rfl rfl rfl)
  refine ⟨_, (pss_cons (ps_for (by first | exact PassesOwn.never | assumption | exact passes_of rfl) rfl (pi_range1 rfl T.b_range (pa_cons (pe_callB (call_max2 rfl) (by rfl) T.b_max bt_max (pa_cons pe_int (pa_cons (pe_callB (call_min2 rfl) (by rfl) T.b_min bt_min (pa_cons pe_int (pa_cons (pe_callB (crK (K := K) (r := rLenK) rfl call_len) (by rfl) T.b_len bt_len (pa_cons (pv 0) pa_nil)) pa_nil))) pa_nil))) pa_nil)) (pg_name (i := 1) sc_law.nd rfl (by first | exact Or.inl rfl | exact Or.inr rfl)) (pss_one (ps_if (pt_not (pt_val (pe_g G__law_cell_right (hr.mono (by decide)) hq rfl D__law_cell_right.m D__law_cell_right.k b__law_cell_right .nil (fun σ => L2N.passAt tk σ) (pa_cons (pe_g G__law_box (hr.mono (by decide)) hq rfl D__law_box.m D__law_box.k b__law_box .nil (fun σ => L2N.passAt tk σ) (pa_cons (pe_g G__law_cell (hr.mono (by decide)) hq rfl D__law_cell.m D__law_cell.k b__law_cell .nil (fun σ => L2N.passAt tk σ) (pa_cons (pv 0) (pa_cons (pv 1) pa_nil))) pa_nil)) pa_nil)))) (pss_one (ps_ret pe_bl)) pss_nil))) (pss_one (ps_ret pe_bl))), ?_⟩
  try simp only [cxK]
  rintro _ ms Pd Xd ⟨zs, rfl, hz, q⟩ bl mb
  refine ds_seq (ds_for (vs := List.range 10) (di_rng1 ?_))
  repeat' walk_at "d1"
  refine dr_min ?_
  repeat' walk_at "d1"
  refine dr_max ?_
  rw [List.length_map]
  have hb : (if (if (zs.length : Int) < 6 then (zs.length : Int) else 6) > 2 then (if (zs.length : Int) < 6 then (zs.length : Int) else 6) else 2) ≤ 6 ∧ 0 ≤ (if (if (zs.length : Int) < 6 then (zs.length : Int) else 6) > 2 then (if (zs.length : Int) < 6 then (zs.length : Int) else 6) else 2) := by
    constructor
    · repeat' split
      all_goals omega
    · repeat' split
      all_goals omega
  generalize (if (if (zs.length : Int) < 6 then (zs.length : Int) else 6) > 2 then (if (zs.length : Int) < 6 then (zs.length : Int) else 6) else 2) = n at hb ⊢
  refine da_nil ⟨n, rfl, by omega, by omega, fun i e m => Sl1 (some (.rol (zs.map Dat.int))) e, ⟨none, rfl⟩, ?_, ?_⟩
  · rintro i e m hi ⟨x, rfl⟩
    refine dg_name (by decide) ?_
    repeat' walk_at "d1"
    refine ⟨zs, _, rfl, by omega, by omega, by omega, fun z => ?_⟩
    repeat' walk_at "d1"
    refine ⟨_, rfl, fun xs hx => ?_⟩
    repeat' walk_at "d1"
    refine ⟨_, xs, rfl, by simp, hx, fun m' => ?_⟩
    repeat' walk_at "d1"
    exact ⟨_, rfl⟩
  · rintro e m ⟨x, rfl⟩
    repeat' walk_at "d1"
    exact .inl (q _)
end
end K01
namespace K01
open PySem PySem.Spec PyProof.Rows L2 DL
abbrev s_InvalidLine___init__ : Stmt := (inClass (topS 2) 0)
theorem sc_InvalidLine___init__ : FnScope ["self", "given"] ["self", "given"] (defScope s_InvalidLine___init__) := ⟨rfl, rfl, rfl, by decide +kernel, rfl, by decide +kernel, by decide +kernel⟩
abbrev s_InvalidText___init__ : Stmt := (inClass (topS 3) 0)
theorem sc_InvalidText___init__ : FnScope ["self", "given"] ["self", "given"] (defScope s_InvalidText___init__) := ⟨rfl, rfl, rfl, by decide +kernel, rfl, by decide +kernel, by decide +kernel⟩
section
variable {P : Program} {w : World} {K : PySem.W.Frag} {mg : Str → Option Value} {base : Heap}
theorem okN {x qual : Str} {st : Stmt} {f : Addr} {fd : FuncData} {N ps : List Str} {k : Nat} {sp : Sp} (F : Fun K x qual st f fd) (S : FnScope N ps (defScope st)) (hlen : ∀ vs H Q E, sp vs H Q E → vs.length = ps.length)
    (hb : ∀ (cdv : Value) (Ar : Around) (outer : List Env) (s : Shared) (H : Hp) (vs : List V) (Q : VK) (E : XK), Room k (Ar.deeper (envOfC qual (defScope st) s.heap.objs.size f cdv)) → sp vs H Q E →
      ∃ t, PSs (cxOf (L2N.CX P w) P w K mg base N qual (defScope st) f cdv Ar outer s H E) (defBody st) t ∧ t { nx := fun _ H' => Q .non H', rt := Q } (L2.start N vs) H) : FnOk P w K mg base (L2N.CX P w) (k + 1) f fd ps sp := by
  obtain ⟨a, b, kV, c, pm, an, cdv, ct, sl, e, lk, cd⟩ := F.ex
  subst e
  exact fn_of lk cd S hlen fun Ar outer s H vs Q E r p => hb cdv Ar outer s H vs Q E r p
theorem kwb {x qual : Str} {st : Stmt} {f : Addr} {fd : FuncData} {ps : List Str} (F : Fun K x qual st f fd)
    (h : ∀ (kV doc pm : Value) (an : Option Addr) (cdv ct : Value) (ws : List Value), ws.length = ps.length → bindArgs (PySem.W.fnOf x qual (defArgs st) (defBody st) (defScope st) .none kV doc pm an cdv ct) ⟨[], ps.zip ws⟩ = pure (ps.zip ws)) : KwB K fd ps := by
  obtain ⟨a, b, kV, c, pm, an, cdv, ct, sl, e, lk, cd⟩ := F.ex
  subst e
  exact ⟨fun s ws _ hl => .of_eq (h kV c pm an cdv ct ws hl)⟩
theorem kone_self {v : Value} : PySem.W.kitOne K v v = some true := by
  unfold PySem.W.kitOne
  rw [if_pos (by simp)]
theorem kone_rt {C : Addr} {t : String} {b : Bool} (hm : PySem.W.kitMeta t = true) (h : PySem.W.subIn K (.ref C) (.type t) = some b) : PySem.W.kitOne K (.ref C) (.type t) = some b := by
  unfold PySem.W.kitOne
  rw [if_neg (by simp)]
  show (if PySem.W.kitMeta t = true then _ else _) = _
  rw [if_pos hm, h]
theorem kone_tr {C : Addr} {t : String} {b : Bool} (h1 : PySem.W.isClsIn K C = true) (h2 : PySem.W.typeIn K (.ref C) = some (.type "type")) (h : PySem.W.subIn K (.type t) (.ref C) = some b) : PySem.W.kitOne K (.type t) (.ref C) = some b := by
  unfold PySem.W.kitOne
  rw [if_neg (by simp)]
  have h1' : (PySem.W.clsIn K C).isSome = true := h1
  show (if ((PySem.W.clsIn K C).isSome && PySem.W.typeIn K (.ref C) == some (.type "type")) = true then _ else _) = _
  rw [if_pos (by rw [h1', h2]; rfl), h]
theorem exm_self {C : Addr} (h1 : PySem.W.subIn K (.ref C) (.type "BaseException") = some true) (h2 : PySem.W.isClsIn K C = true) (h3 : PySem.W.typeIn K (.ref C) = some (.type "type")) (h4 : PySem.W.subIn K (.ref C) (.ref C) = some true) : PySem.W.exmOne K (.ref C) (.ref C) = some true := by
  have h2' : (PySem.W.clsIn K C).isSome = true := h2
  unfold PySem.W.exmOne
  rw [if_pos (by rw [h1]; rfl)]
  show (if ((PySem.W.clsIn K C).isSome && PySem.W.typeIn K (.ref C) == some (.type "type")) = true then _ else _) = _
  rw [if_pos (by rw [h2', h3]; rfl), h4]
theorem ini_InvalidLine {f L : Addr} {fd : FuncData} (F : Fun K "__init__" "InvalidLine.__init__" s_InvalidLine___init__ f fd) (TL : LoT K mg "LostError" L) : FnOk P w K mg base (L2N.CX P w) 1 f fd ["self", "given"] (spIni1 K "given") := by
  refine okN F sc_InvalidLine___init__ (fun vs H Q E h => by obtain ⟨a, C, v, rfl, _⟩ := h; rfl) (fun cdv Ar outer s H vs Q E hr h => ?_)
  exact ⟨_, pss_cons (ps_expr (pe_linit TL rfl (pa_cons (pv 0) (pa_cons pe_str pa_nil)))) (pss_one (ps_ost (pv 0) (pv 1))), ini1_run h⟩
theorem ini_InvalidText {f L : Addr} {fd : FuncData} (F : Fun K "__init__" "InvalidText.__init__" s_InvalidText___init__ f fd) (TL : LoT K mg "LostError" L) : FnOk P w K mg base (L2N.CX P w) 1 f fd ["self", "given"] (spIni1 K "given") := by
  refine okN F sc_InvalidText___init__ (fun vs H Q E h => by obtain ⟨a, C, v, rfl, _⟩ := h; rfl) (fun cdv Ar outer s H vs Q E hr h => ?_)
  exact ⟨_, pss_cons (ps_expr (pe_linit TL rfl (pa_cons (pv 0) (pa_cons pe_str pa_nil)))) (pss_one (ps_ost (pv 0) (pv 1))), ini1_run h⟩
theorem all_mk {mg : Str → Option Value} {h : Heap} {fa : Addr} (X : K.In h) (G : h.Ns mainGlobals mg) (hfa : mg "law" = some (.ref fa))
    {A0 : Addr} {od0 an0 : Option Addr} {sl0 : Array (Option Value)} {oc0 kV0 dc0 pm0 cd0 ct0 : Value}
    {A1 : Addr} {od1 an1 : Option Addr} {sl1 : Array (Option Value)} {oc1 kV1 dc1 pm1 cd1 ct1 : Value}
    {A2 : Addr} {od2 an2 : Option Addr} {sl2 : Array (Option Value)} {oc2 kV2 dc2 pm2 cd2 ct2 : Value}
    {A3 : Addr} {od3 an3 : Option Addr} {sl3 : Array (Option Value)} {oc3 kV3 dc3 pm3 cd3 ct3 : Value}
    {A4 : Addr} {od4 an4 : Option Addr} {sl4 : Array (Option Value)} {oc4 kV4 dc4 pm4 cd4 ct4 : Value}
    {A5 : Addr} {od5 an5 : Option Addr} {sl5 : Array (Option Value)} {oc5 kV5 dc5 pm5 cd5 ct5 : Value}
    {A6 : Addr} {od6 an6 : Option Addr} {sl6 : Array (Option Value)} {oc6 kV6 dc6 pm6 cd6 ct6 : Value}
    {A7 : Addr} {od7 an7 : Option Addr} {sl7 : Array (Option Value)} {oc7 kV7 dc7 pm7 cd7 ct7 : Value}
    {A8 : Addr} {od8 an8 : Option Addr} {sl8 : Array (Option Value)} {oc8 kV8 dc8 pm8 cd8 ct8 : Value}
    {A9 : Addr} {od9 an9 : Option Addr} {sl9 : Array (Option Value)} {oc9 kV9 dc9 pm9 cd9 ct9 : Value}
    {A10 : Addr} {od10 an10 : Option Addr} {sl10 : Array (Option Value)} {oc10 kV10 dc10 pm10 cd10 ct10 : Value}
    {A11 : Addr} {od11 an11 : Option Addr} {sl11 : Array (Option Value)} {oc11 kV11 dc11 pm11 cd11 ct11 : Value}
    {A12 : Addr} {od12 an12 : Option Addr} {sl12 : Array (Option Value)} {oc12 kV12 dc12 pm12 cd12 ct12 : Value}
    {A13 : Addr} {od13 an13 : Option Addr} {sl13 : Array (Option Value)} {oc13 kV13 dc13 pm13 cd13 ct13 : Value}
    {A14 : Addr} {od14 an14 : Option Addr} {sl14 : Array (Option Value)} {oc14 kV14 dc14 pm14 cd14 ct14 : Value}
    {A15 : Addr} {od15 an15 : Option Addr} {sl15 : Array (Option Value)} {oc15 kV15 dc15 pm15 cd15 ct15 : Value}
    {A16 : Addr} {od16 an16 : Option Addr} {sl16 : Array (Option Value)} {oc16 kV16 dc16 pm16 cd16 ct16 : Value}
    {A17 : Addr} {od17 an17 : Option Addr} {sl17 : Array (Option Value)} {oc17 kV17 dc17 pm17 cd17 ct17 : Value}
    {A18 : Addr} {od18 an18 : Option Addr} {sl18 : Array (Option Value)} {oc18 kV18 dc18 pm18 cd18 ct18 : Value}
    {A19 : Addr} {od19 an19 : Option Addr} {sl19 : Array (Option Value)} {oc19 kV19 dc19 pm19 cd19 ct19 : Value}
    {A20 : Addr} {od20 an20 : Option Addr} {sl20 : Array (Option Value)} {oc20 kV20 dc20 pm20 cd20 ct20 : Value}
    {A21 : Addr} {od21 an21 : Option Addr} {sl21 : Array (Option Value)} {oc21 kV21 dc21 pm21 cd21 ct21 : Value}
    {A22 : Addr} {od22 an22 : Option Addr} {sl22 : Array (Option Value)} {oc22 kV22 dc22 pm22 cd22 ct22 : Value}
    {A23 : Addr} {od23 an23 : Option Addr} {sl23 : Array (Option Value)} {oc23 kV23 dc23 pm23 cd23 ct23 : Value}
    {A24 : Addr} {od24 an24 : Option Addr} {sl24 : Array (Option Value)} {oc24 kV24 dc24 pm24 cd24 ct24 : Value}
    {A25 : Addr} {od25 an25 : Option Addr} {sl25 : Array (Option Value)} {oc25 kV25 dc25 pm25 cd25 ct25 : Value}
    {A26 : Addr} {od26 an26 : Option Addr} {sl26 : Array (Option Value)} {oc26 kV26 dc26 pm26 cd26 ct26 : Value}
    {A27 : Addr} {od27 an27 : Option Addr} {sl27 : Array (Option Value)} {oc27 kV27 dc27 pm27 cd27 ct27 : Value}
    {A28 : Addr} {od28 an28 : Option Addr} {sl28 : Array (Option Value)} {oc28 kV28 dc28 pm28 cd28 ct28 : Value}
    {A29 : Addr} {od29 an29 : Option Addr} {sl29 : Array (Option Value)} {oc29 kV29 dc29 pm29 cd29 ct29 : Value}
    {As Ts : Addr} {ods ans : Option Addr} {sls : Array (Option Value)} {ocs kVs dcs pms cds cts : Value} {ocT : Value} {odT : Option Addr} {slT : Array (Option Value)} {nT : Nat}
    {C0 I0 N0 : Addr} {nm0 q0 : Str} {bs0 bm0 : List Value} {sn0 : List Str} {sub0 : List Value} {ab0 : Bool} {col0 : Option Bool} {dd0 : Option Addr} {x00 x10 x20 x30 x50 : Option Value} {iod0 ian0 : Option Addr} {isl0 : Array (Option Value)} {ioc0 ikV0 idc0 ipm0 icd0 ict0 : Value}
    {C1 I1 N1 : Addr} {nm1 q1 : Str} {bs1 bm1 : List Value} {sn1 : List Str} {sub1 : List Value} {ab1 : Bool} {col1 : Option Bool} {dd1 : Option Addr} {x01 x11 x21 x31 x51 : Option Value} {iod1 ian1 : Option Addr} {isl1 : Array (Option Value)} {ioc1 ikV1 idc1 ipm1 icd1 ict1 : Value}
    {L : Addr}
    {tk0 : Tok}
    {tk1 : Tok}
    {tk2 : Tok}
    {tk3 : Tok}
    {tk4 : Tok}
    {tk5 : Tok}
    (a0 : PySem.W.nsIn K mainGlobals "count_in" = some (some (.ref A0)))
    (l0 : K.lookup A0 = some ⟨oc0, od0, .func (PySem.W.fnOf "count_in" "count_in" (defArgs s_count_in) (defBody s_count_in) (defScope s_count_in) .none kV0 dc0 pm0 an0 cd0 ct0), sl0⟩)
    (c0 : PySem.W.codeIn K cd0 "count_in" = true)
    (k0 : PySem.W.keepIn K (.ref A0) = true)
    (a1 : PySem.W.nsIn K mainGlobals "is_name" = some (some (.ref A1)))
    (l1 : K.lookup A1 = some ⟨oc1, od1, .func (PySem.W.fnOf "is_name" "is_name" (defArgs s_is_name) (defBody s_is_name) (defScope s_is_name) .none kV1 dc1 pm1 an1 cd1 ct1), sl1⟩)
    (c1 : PySem.W.codeIn K cd1 "is_name" = true)
    (k1 : PySem.W.keepIn K (.ref A1) = true)
    (a2 : PySem.W.nsIn K mainGlobals "is_text" = some (some (.ref A2)))
    (l2 : K.lookup A2 = some ⟨oc2, od2, .func (PySem.W.fnOf "is_text" "is_text" (defArgs s_is_text) (defBody s_is_text) (defScope s_is_text) .none kV2 dc2 pm2 an2 cd2 ct2), sl2⟩)
    (c2 : PySem.W.codeIn K cd2 "is_text" = true)
    (k2 : PySem.W.keepIn K (.ref A2) = true)
    (a3 : PySem.W.nsIn K mainGlobals "is_line" = some (some (.ref A3)))
    (l3 : K.lookup A3 = some ⟨oc3, od3, .func (PySem.W.fnOf "is_line" "is_line" (defArgs s_is_line) (defBody s_is_line) (defScope s_is_line) .none kV3 dc3 pm3 an3 cd3 ct3), sl3⟩)
    (c3 : PySem.W.codeIn K cd3 "is_line" = true)
    (k3 : PySem.W.keepIn K (.ref A3) = true)
    (a4 : PySem.W.nsIn K mainGlobals "line_text" = some (some (.ref A4)))
    (l4 : K.lookup A4 = some ⟨oc4, od4, .func (PySem.W.fnOf "line_text" "line_text" (defArgs s_line_text) (defBody s_line_text) (defScope s_line_text) .none kV4 dc4 pm4 an4 cd4 ct4), sl4⟩)
    (c4 : PySem.W.codeIn K cd4 "line_text" = true)
    (k4 : PySem.W.keepIn K (.ref A4) = true)
    (a5 : PySem.W.nsIn K mainGlobals "line_in" = some (some (.ref A5)))
    (l5 : K.lookup A5 = some ⟨oc5, od5, .func (PySem.W.fnOf "line_in" "line_in" (defArgs s_line_in) (defBody s_line_in) (defScope s_line_in) .none kV5 dc5 pm5 an5 cd5 ct5), sl5⟩)
    (c5 : PySem.W.codeIn K cd5 "line_in" = true)
    (k5 : PySem.W.keepIn K (.ref A5) = true)
    (a6 : PySem.W.nsIn K mainGlobals "read_line" = some (some (.ref A6)))
    (l6 : K.lookup A6 = some ⟨oc6, od6, .func (PySem.W.fnOf "read_line" "read_line" (defArgs s_read_line) (defBody s_read_line) (defScope s_read_line) .none kV6 dc6 pm6 an6 cd6 ct6), sl6⟩)
    (c6 : PySem.W.codeIn K cd6 "read_line" = true)
    (k6 : PySem.W.keepIn K (.ref A6) = true)
    (a7 : PySem.W.nsIn K mainGlobals "is_round" = some (some (.ref A7)))
    (l7 : K.lookup A7 = some ⟨oc7, od7, .func (PySem.W.fnOf "is_round" "is_round" (defArgs s_is_round) (defBody s_is_round) (defScope s_is_round) .none kV7 dc7 pm7 an7 cd7 ct7), sl7⟩)
    (c7 : PySem.W.codeIn K cd7 "is_round" = true)
    (k7 : PySem.W.keepIn K (.ref A7) = true)
    (a8 : PySem.W.nsIn K mainGlobals "_law_cell" = some (some (.ref A8)))
    (l8 : K.lookup A8 = some ⟨oc8, od8, .func (PySem.W.fnOf "_law_cell" "_law_cell" (defArgs s__law_cell) (defBody s__law_cell) (defScope s__law_cell) .none kV8 dc8 pm8 an8 cd8 ct8), sl8⟩)
    (c8 : PySem.W.codeIn K cd8 "_law_cell" = true)
    (k8 : PySem.W.keepIn K (.ref A8) = true)
    (a9 : PySem.W.nsIn K mainGlobals "_law_box" = some (some (.ref A9)))
    (l9 : K.lookup A9 = some ⟨oc9, od9, .func (PySem.W.fnOf "_law_box" "_law_box" (defArgs s__law_box) (defBody s__law_box) (defScope s__law_box) .none kV9 dc9 pm9 an9 cd9 ct9), sl9⟩)
    (c9 : PySem.W.codeIn K cd9 "_law_box" = true)
    (k9 : PySem.W.keepIn K (.ref A9) = true)
    (a10 : PySem.W.nsIn K mainGlobals "_law_take" = some (some (.ref A10)))
    (l10 : K.lookup A10 = some ⟨oc10, od10, .func (PySem.W.fnOf "_law_take" "_law_take" (defArgs s__law_take) (defBody s__law_take) (defScope s__law_take) .none kV10 dc10 pm10 an10 cd10 ct10), sl10⟩)
    (c10 : PySem.W.codeIn K cd10 "_law_take" = true)
    (k10 : PySem.W.keepIn K (.ref A10) = true)
    (a11 : PySem.W.nsIn K mainGlobals "_law_signs" = some (some (.ref A11)))
    (l11 : K.lookup A11 = some ⟨oc11, od11, .func (PySem.W.fnOf "_law_signs" "_law_signs" (defArgs s__law_signs) (defBody s__law_signs) (defScope s__law_signs) .none kV11 dc11 pm11 an11 cd11 ct11), sl11⟩)
    (c11 : PySem.W.codeIn K cd11 "_law_signs" = true)
    (k11 : PySem.W.keepIn K (.ref A11) = true)
    (a12 : PySem.W.nsIn K mainGlobals "_law_spoilt" = some (some (.ref A12)))
    (l12 : K.lookup A12 = some ⟨oc12, od12, .func (PySem.W.fnOf "_law_spoilt" "_law_spoilt" (defArgs s__law_spoilt) (defBody s__law_spoilt) (defScope s__law_spoilt) .none kV12 dc12 pm12 an12 cd12 ct12), sl12⟩)
    (c12 : PySem.W.codeIn K cd12 "_law_spoilt" = true)
    (k12 : PySem.W.keepIn K (.ref A12) = true)
    (a13 : PySem.W.nsIn K mainGlobals "_law_name" = some (some (.ref A13)))
    (l13 : K.lookup A13 = some ⟨oc13, od13, .func (PySem.W.fnOf "_law_name" "_law_name" (defArgs s__law_name) (defBody s__law_name) (defScope s__law_name) .none kV13 dc13 pm13 an13 cd13 ct13), sl13⟩)
    (c13 : PySem.W.codeIn K cd13 "_law_name" = true)
    (k13 : PySem.W.keepIn K (.ref A13) = true)
    (a14 : PySem.W.nsIn K mainGlobals "_law_text" = some (some (.ref A14)))
    (l14 : K.lookup A14 = some ⟨oc14, od14, .func (PySem.W.fnOf "_law_text" "_law_text" (defArgs s__law_text) (defBody s__law_text) (defScope s__law_text) .none kV14 dc14 pm14 an14 cd14 ct14), sl14⟩)
    (c14 : PySem.W.codeIn K cd14 "_law_text" = true)
    (k14 : PySem.W.keepIn K (.ref A14) = true)
    (a15 : PySem.W.nsIn K mainGlobals "_law_figures" = some (some (.ref A15)))
    (l15 : K.lookup A15 = some ⟨oc15, od15, .func (PySem.W.fnOf "_law_figures" "_law_figures" (defArgs s__law_figures) (defBody s__law_figures) (defScope s__law_figures) .none kV15 dc15 pm15 an15 cd15 ct15), sl15⟩)
    (c15 : PySem.W.codeIn K cd15 "_law_figures" = true)
    (k15 : PySem.W.keepIn K (.ref A15) = true)
    (a16 : PySem.W.nsIn K mainGlobals "_law_name_due" = some (some (.ref A16)))
    (l16 : K.lookup A16 = some ⟨oc16, od16, .func (PySem.W.fnOf "_law_name_due" "_law_name_due" (defArgs s__law_name_due) (defBody s__law_name_due) (defScope s__law_name_due) .none kV16 dc16 pm16 an16 cd16 ct16), sl16⟩)
    (c16 : PySem.W.codeIn K cd16 "_law_name_due" = true)
    (k16 : PySem.W.keepIn K (.ref A16) = true)
    (a17 : PySem.W.nsIn K mainGlobals "_law_text_due" = some (some (.ref A17)))
    (l17 : K.lookup A17 = some ⟨oc17, od17, .func (PySem.W.fnOf "_law_text_due" "_law_text_due" (defArgs s__law_text_due) (defBody s__law_text_due) (defScope s__law_text_due) .none kV17 dc17 pm17 an17 cd17 ct17), sl17⟩)
    (c17 : PySem.W.codeIn K cd17 "_law_text_due" = true)
    (k17 : PySem.W.keepIn K (.ref A17) = true)
    (a18 : PySem.W.nsIn K mainGlobals "_law_line_due" = some (some (.ref A18)))
    (l18 : K.lookup A18 = some ⟨oc18, od18, .func (PySem.W.fnOf "_law_line_due" "_law_line_due" (defArgs s__law_line_due) (defBody s__law_line_due) (defScope s__law_line_due) .none kV18 dc18 pm18 an18 cd18 ct18), sl18⟩)
    (c18 : PySem.W.codeIn K cd18 "_law_line_due" = true)
    (k18 : PySem.W.keepIn K (.ref A18) = true)
    (a19 : PySem.W.nsIn K mainGlobals "_law_round_due" = some (some (.ref A19)))
    (l19 : K.lookup A19 = some ⟨oc19, od19, .func (PySem.W.fnOf "_law_round_due" "_law_round_due" (defArgs s__law_round_due) (defBody s__law_round_due) (defScope s__law_round_due) .none kV19 dc19 pm19 an19 cd19 ct19), sl19⟩)
    (c19 : PySem.W.codeIn K cd19 "_law_round_due" = true)
    (k19 : PySem.W.keepIn K (.ref A19) = true)
    (a20 : PySem.W.nsIn K mainGlobals "_law_read_due" = some (some (.ref A20)))
    (l20 : K.lookup A20 = some ⟨oc20, od20, .func (PySem.W.fnOf "_law_read_due" "_law_read_due" (defArgs s__law_read_due) (defBody s__law_read_due) (defScope s__law_read_due) .none kV20 dc20 pm20 an20 cd20 ct20), sl20⟩)
    (c20 : PySem.W.codeIn K cd20 "_law_read_due" = true)
    (k20 : PySem.W.keepIn K (.ref A20) = true)
    (a21 : PySem.W.nsIn K mainGlobals "_law_yes" = some (some (.ref A21)))
    (l21 : K.lookup A21 = some ⟨oc21, od21, .func (PySem.W.fnOf "_law_yes" "_law_yes" (defArgs s__law_yes) (defBody s__law_yes) (defScope s__law_yes) .none kV21 dc21 pm21 an21 cd21 ct21), sl21⟩)
    (c21 : PySem.W.codeIn K cd21 "_law_yes" = true)
    (k21 : PySem.W.keepIn K (.ref A21) = true)
    (a22 : PySem.W.nsIn K mainGlobals "_law_same" = some (some (.ref A22)))
    (l22 : K.lookup A22 = some ⟨oc22, od22, .func (PySem.W.fnOf "_law_same" "_law_same" (defArgs s__law_same) (defBody s__law_same) (defScope s__law_same) .none kV22 dc22 pm22 an22 cd22 ct22), sl22⟩)
    (c22 : PySem.W.codeIn K cd22 "_law_same" = true)
    (k22 : PySem.W.keepIn K (.ref A22) = true)
    (a23 : PySem.W.nsIn K mainGlobals "_law_asks_right" = some (some (.ref A23)))
    (l23 : K.lookup A23 = some ⟨oc23, od23, .func (PySem.W.fnOf "_law_asks_right" "_law_asks_right" (defArgs s__law_asks_right) (defBody s__law_asks_right) (defScope s__law_asks_right) .none kV23 dc23 pm23 an23 cd23 ct23), sl23⟩)
    (c23 : PySem.W.codeIn K cd23 "_law_asks_right" = true)
    (k23 : PySem.W.keepIn K (.ref A23) = true)
    (a24 : PySem.W.nsIn K mainGlobals "_law_written_right" = some (some (.ref A24)))
    (l24 : K.lookup A24 = some ⟨oc24, od24, .func (PySem.W.fnOf "_law_written_right" "_law_written_right" (defArgs s__law_written_right) (defBody s__law_written_right) (defScope s__law_written_right) .none kV24 dc24 pm24 an24 cd24 ct24), sl24⟩)
    (c24 : PySem.W.codeIn K cd24 "_law_written_right" = true)
    (k24 : PySem.W.keepIn K (.ref A24) = true)
    (a25 : PySem.W.nsIn K mainGlobals "_law_read_right" = some (some (.ref A25)))
    (l25 : K.lookup A25 = some ⟨oc25, od25, .func (PySem.W.fnOf "_law_read_right" "_law_read_right" (defArgs s__law_read_right) (defBody s__law_read_right) (defScope s__law_read_right) .none kV25 dc25 pm25 an25 cd25 ct25), sl25⟩)
    (c25 : PySem.W.codeIn K cd25 "_law_read_right" = true)
    (k25 : PySem.W.keepIn K (.ref A25) = true)
    (a26 : PySem.W.nsIn K mainGlobals "_law_values" = some (some (.ref A26)))
    (l26 : K.lookup A26 = some ⟨oc26, od26, .func (PySem.W.fnOf "_law_values" "_law_values" (defArgs s__law_values) (defBody s__law_values) (defScope s__law_values) .none kV26 dc26 pm26 an26 cd26 ct26), sl26⟩)
    (c26 : PySem.W.codeIn K cd26 "_law_values" = true)
    (k26 : PySem.W.keepIn K (.ref A26) = true)
    (a27 : PySem.W.nsIn K mainGlobals "_law_lists" = some (some (.ref A27)))
    (l27 : K.lookup A27 = some ⟨oc27, od27, .func (PySem.W.fnOf "_law_lists" "_law_lists" (defArgs s__law_lists) (defBody s__law_lists) (defScope s__law_lists) .none kV27 dc27 pm27 an27 cd27 ct27), sl27⟩)
    (c27 : PySem.W.codeIn K cd27 "_law_lists" = true)
    (k27 : PySem.W.keepIn K (.ref A27) = true)
    (a28 : PySem.W.nsIn K mainGlobals "_law_cell_right" = some (some (.ref A28)))
    (l28 : K.lookup A28 = some ⟨oc28, od28, .func (PySem.W.fnOf "_law_cell_right" "_law_cell_right" (defArgs s__law_cell_right) (defBody s__law_cell_right) (defScope s__law_cell_right) .none kV28 dc28 pm28 an28 cd28 ct28), sl28⟩)
    (c28 : PySem.W.codeIn K cd28 "_law_cell_right" = true)
    (k28 : PySem.W.keepIn K (.ref A28) = true)
    (a29 : PySem.W.nsIn K mainGlobals "law" = some (some (.ref A29)))
    (l29 : K.lookup A29 = some ⟨oc29, od29, .func (PySem.W.fnOf "law" "law" (defArgs s_law) (defBody s_law) (defScope s_law) .none kV29 dc29 pm29 an29 cd29 ct29), sl29⟩)
    (c29 : PySem.W.codeIn K cd29 "law" = true)
    (k29 : PySem.W.keepIn K (.ref A29) = true)
    (as_ : PySem.W.nsIn K mainGlobals "is_signs" = some (some (.ref As)))
    (ls_ : K.lookup As = some ⟨ocs, ods, .func (PySem.W.fnOf "is_signs" "is_signs" (defArgs s_is_signs) (defBody s_is_signs) (defScope s_is_signs) (.ref Ts) kVs dcs pms ans cds cts), sls⟩)
    (cs_ : PySem.W.codeIn K cds "is_signs" = true)
    (ks_ : PySem.W.keepIn K (.ref As) = true)
    (ts_ : K.lookup Ts = some ⟨ocT, odT, .seq #[Value.none] nT, slT⟩)
    (eA0 : PySem.W.nsIn K mainGlobals "InvalidLine" = some (some (.ref C0)))
    (eX0 : K.lookup C0 = some (excClassObj nm0 q0 C0 N0 bs0 bm0 true sn0 sub0 ab0 col0 dd0 x00 x10 x20 x30 x50 "ValueError.__new__"))
    (eR0 : PySem.HandSPX.refsVE bm0 = true)
    (eS0 : PySem.W.findIn K (.ref C0) "__setattr__" = some (some (.builtin "object.__setattr__")))
    (eB0 : PySem.W.subIn K (.ref C0) (.type "BaseException") = some true)
    (eT0 : PySem.W.typeIn K (.ref C0) = some (.type "type"))
    (eK0 : PySem.W.keepIn K (.ref C0) = true)
    (ega0 : PySem.W.findIn K (.ref C0) "__getattribute__" = some (some (.builtin "BaseException.__getattribute__")))
    (egg0 : PySem.W.findIn K (.ref C0) "__getattr__" = some none)
    (ehd0 : PySem.W.hasDictIn K C0 = true)
    (ecl0 : PySem.W.findIn K (.ref C0) "__class__" = some (some (.builtin "object.__class__")))
    (emo0 : PySem.W.mroIn K C0 (.type "object") = some true)
    (ent0str : PySem.W.subIn K (.ref C0) (.type "str") = some false)
    (ent0tuple : PySem.W.subIn K (.ref C0) (.type "tuple") = some false)
    (ent0list : PySem.W.subIn K (.ref C0) (.type "list") = some false)
    (ent0int : PySem.W.subIn K (.ref C0) (.type "int") = some false)
    (ent0bool : PySem.W.subIn K (.ref C0) (.type "bool") = some false)
    (ent0dict : PySem.W.subIn K (.ref C0) (.type "dict") = some false)
    (eno0 : PySem.W.findIn K (.ref C0) "given" = some none)
    (ei0 : PySem.W.findIn K (.ref C0) "__init__" = some (some (.ref I0)))
    (eti0 : PySem.W.typeIn K (.ref I0) = some (.type "function"))
    (eli0 : K.lookup I0 = some ⟨ioc0, iod0, .func (PySem.W.fnOf "__init__" "InvalidLine.__init__" (defArgs s_InvalidLine___init__) (defBody s_InvalidLine___init__) (defScope s_InvalidLine___init__) .none ikV0 idc0 ipm0 ian0 icd0 ict0), isl0⟩)
    (eci0 : PySem.W.codeIn K icd0 "InvalidLine.__init__" = true)
    (eki0 : PySem.W.keepIn K (.ref I0) = true)
    (ecs0 : PySem.W.isClsIn K C0 = true)
    (exs0 : PySem.W.subIn K (.ref C0) (.ref C0) = some true)
    (eA1 : PySem.W.nsIn K mainGlobals "InvalidText" = some (some (.ref C1)))
    (eX1 : K.lookup C1 = some (excClassObj nm1 q1 C1 N1 bs1 bm1 true sn1 sub1 ab1 col1 dd1 x01 x11 x21 x31 x51 "ValueError.__new__"))
    (eR1 : PySem.HandSPX.refsVE bm1 = true)
    (eS1 : PySem.W.findIn K (.ref C1) "__setattr__" = some (some (.builtin "object.__setattr__")))
    (eB1 : PySem.W.subIn K (.ref C1) (.type "BaseException") = some true)
    (eT1 : PySem.W.typeIn K (.ref C1) = some (.type "type"))
    (eK1 : PySem.W.keepIn K (.ref C1) = true)
    (ega1 : PySem.W.findIn K (.ref C1) "__getattribute__" = some (some (.builtin "BaseException.__getattribute__")))
    (egg1 : PySem.W.findIn K (.ref C1) "__getattr__" = some none)
    (ehd1 : PySem.W.hasDictIn K C1 = true)
    (ecl1 : PySem.W.findIn K (.ref C1) "__class__" = some (some (.builtin "object.__class__")))
    (emo1 : PySem.W.mroIn K C1 (.type "object") = some true)
    (ent1str : PySem.W.subIn K (.ref C1) (.type "str") = some false)
    (ent1tuple : PySem.W.subIn K (.ref C1) (.type "tuple") = some false)
    (ent1list : PySem.W.subIn K (.ref C1) (.type "list") = some false)
    (ent1int : PySem.W.subIn K (.ref C1) (.type "int") = some false)
    (ent1bool : PySem.W.subIn K (.ref C1) (.type "bool") = some false)
    (ent1dict : PySem.W.subIn K (.ref C1) (.type "dict") = some false)
    (eno1 : PySem.W.findIn K (.ref C1) "given" = some none)
    (ei1 : PySem.W.findIn K (.ref C1) "__init__" = some (some (.ref I1)))
    (eti1 : PySem.W.typeIn K (.ref I1) = some (.type "function"))
    (eli1 : K.lookup I1 = some ⟨ioc1, iod1, .func (PySem.W.fnOf "__init__" "InvalidText.__init__" (defArgs s_InvalidText___init__) (defBody s_InvalidText___init__) (defScope s_InvalidText___init__) .none ikV1 idc1 ipm1 ian1 icd1 ict1), isl1⟩)
    (eci1 : PySem.W.codeIn K icd1 "InvalidText.__init__" = true)
    (eki1 : PySem.W.keepIn K (.ref I1) = true)
    (ecs1 : PySem.W.isClsIn K C1 = true)
    (exs1 : PySem.W.subIn K (.ref C1) (.ref C1) = some true)
    (csp : PySem.W.specialIn K (.builtin "object.__class__") "__get__" = some (some (.builtin "getset_descriptor.__get__")))
    (ctk : PySem.W.takesIn K (.builtin "object.__class__") = some true)
    (ncNoneType : PySem.W.subIn K (.type "NoneType") (.ref C1) = some false)
    (ncbool : PySem.W.subIn K (.type "bool") (.ref C1) = some false)
    (ncint : PySem.W.subIn K (.type "int") (.ref C1) = some false)
    (ncstr : PySem.W.subIn K (.type "str") (.ref C1) = some false)
    (nclist : PySem.W.subIn K (.type "list") (.ref C1) = some false)
    (nctuple : PySem.W.subIn K (.type "tuple") (.ref C1) = some false)
    (ncdict : PySem.W.subIn K (.type "dict") (.ref C1) = some false)
    (eL : PySem.W.nsIn K mainGlobals "LostError" = some (some (.ref L)))
    (lcs : PySem.W.isClsIn K L = true)
    (lsg : PySem.W.specialIn K (.ref L) "__getattribute__" = some (some (.builtin "type.__getattribute__")))
    (ltp : PySem.W.typeIn K (.ref L) = some (.type "type"))
    (lrd : PySem.W.readsIn K L (.type "type") = true)
    (lfc : PySem.W.findCls K (.ref L) (.type "type") "__init__" = some (.val (.builtin "ValueError.__init__")))
    (nlNoneType : PySem.W.subIn K (.type "NoneType") (.ref L) = some false)
    (nlbool : PySem.W.subIn K (.type "bool") (.ref L) = some false)
    (nlint : PySem.W.subIn K (.type "int") (.ref L) = some false)
    (nlstr : PySem.W.subIn K (.type "str") (.ref L) = some false)
    (nllist : PySem.W.subIn K (.type "list") (.ref L) = some false)
    (nltuple : PySem.W.subIn K (.type "tuple") (.ref L) = some false)
    (nldict : PySem.W.subIn K (.type "dict") (.ref L) = some false)
    (z_isinstance : PySem.W.nsIn K mainGlobals "isinstance" = some none)
    (z_len : PySem.W.nsIn K mainGlobals "len" = some none)
    (z_all : PySem.W.nsIn K mainGlobals "all" = some none)
    (z_str : PySem.W.nsIn K mainGlobals "str" = some none)
    (z_tuple : PySem.W.nsIn K mainGlobals "tuple" = some none)
    (z_list : PySem.W.nsIn K mainGlobals "list" = some none)
    (z_int : PySem.W.nsIn K mainGlobals "int" = some none)
    (z_abs : PySem.W.nsIn K mainGlobals "abs" = some none)
    (z_sum : PySem.W.nsIn K mainGlobals "sum" = some none)
    (z_repr : PySem.W.nsIn K mainGlobals "repr" = some none)
    (z_ord : PySem.W.nsIn K mainGlobals "ord" = some none)
    (z_max : PySem.W.nsIn K mainGlobals "max" = some none)
    (z_min : PySem.W.nsIn K mainGlobals "min" = some none)
    (z_range : PySem.W.nsIn K mainGlobals "range" = some none)
    (cv0 : PySem.W.nsIn K mainGlobals "MOST_LETTERS" = some (some (.int 8 tk0)))
    (cv1 : PySem.W.nsIn K mainGlobals "MOST_SIGNS" = some (some (.int 40 tk1)))
    (cv2 : PySem.W.nsIn K mainGlobals "MOST_FIGURES" = some (some (.int 9 tk2)))
    (cv3 : PySem.W.nsIn K mainGlobals "MOST_DIGITS" = some (some (.int 20 tk3)))
    (cv4 : PySem.W.nsIn K mainGlobals "DIGITS" = some (some (.str "0123456789" tk4)))
    (cv5 : PySem.W.nsIn K mainGlobals "ROUND" = some (some (.str "round " tk5))) :
    ∃ fd : FuncData, (∀ (s : Shared) (u : Value), BindsTo s fd ⟨[u], []⟩ [("script", u)]) ∧ ∀ base : Heap, K.In base → base.Ns mainGlobals mg → FnG P w K mg base (L2N.CX P w) 8 fa fd ["script"] (spD K (pm_law K)) := by
  have e := hfa.symm.trans (PySem.W.mg_of X G a29)
  cases e
  have T : Txt K mg :=
    { b_isinstance := PySem.W.mg_none_of X G z_isinstance, b_len := PySem.W.mg_none_of X G z_len, b_all := PySem.W.mg_none_of X G z_all, b_str := PySem.W.mg_none_of X G z_str, b_tuple := PySem.W.mg_none_of X G z_tuple, b_list := PySem.W.mg_none_of X G z_list, b_int := PySem.W.mg_none_of X G z_int, b_abs := PySem.W.mg_none_of X G z_abs, b_sum := PySem.W.mg_none_of X G z_sum, b_repr := PySem.W.mg_none_of X G z_repr, b_ord := PySem.W.mg_none_of X G z_ord, b_max := PySem.W.mg_none_of X G z_max, b_min := PySem.W.mg_none_of X G z_min, b_range := PySem.W.mg_none_of X G z_range,
      c_MOST_LETTERS := ⟨_, PySem.W.mg_of X G cv0, ⟨_, rfl⟩⟩, c_MOST_SIGNS := ⟨_, PySem.W.mg_of X G cv1, ⟨_, rfl⟩⟩, c_MOST_FIGURES := ⟨_, PySem.W.mg_of X G cv2, ⟨_, rfl⟩⟩, c_MOST_DIGITS := ⟨_, PySem.W.mg_of X G cv3, ⟨_, rfl⟩⟩, c_DIGITS := ⟨_, PySem.W.mg_of X G cv4, ⟨_, rfl⟩⟩, c_ROUND := ⟨_, PySem.W.mg_of X G cv5, ⟨_, rfl⟩⟩ }
  have TL : LoT K mg "LostError" L := ⟨PySem.W.mg_of X G eL, lsg, ltp, lrd, lfc⟩
  have M_LostError := PySem.W.mg_of X G eL
  have nC : KitNo K C1 := fun t ht => by
    simp only [List.mem_cons, List.not_mem_nil, or_false] at ht
    rcases ht with rfl | rfl | rfl | rfl | rfl | rfl | rfl
    · exact kone_tr ecs1 eT1 ncNoneType
    · exact kone_tr ecs1 eT1 ncbool
    · exact kone_tr ecs1 eT1 ncint
    · exact kone_tr ecs1 eT1 ncstr
    · exact kone_tr ecs1 eT1 nclist
    · exact kone_tr ecs1 eT1 nctuple
    · exact kone_tr ecs1 eT1 ncdict
  have yc : PySem.W.kitOne K (.ref C1) (.ref C1) = some true := kone_self
  have exm0 := exm_self eB0 ecs0 eT0 exs0
  have exm1 := exm_self eB1 ecs1 eT1 exs1
  have nL : KitNo K L := fun t ht => by
    simp only [List.mem_cons, List.not_mem_nil, or_false] at ht
    rcases ht with rfl | rfl | rfl | rfl | rfl | rfl | rfl
    · exact kone_tr lcs ltp nlNoneType
    · exact kone_tr lcs ltp nlbool
    · exact kone_tr lcs ltp nlint
    · exact kone_tr lcs ltp nlstr
    · exact kone_tr lcs ltp nllist
    · exact kone_tr lcs ltp nltuple
    · exact kone_tr lcs ltp nldict
  have D_count_in : Df K mg "count_in" A0 := ⟨PySem.W.mg_of X G a0, k0⟩
  have F_count_in := fun_mk (st := s_count_in) l0 c0 k0
  have b_count_in := F_count_in.binds (ps := ["word"]) fun _ _ _ _ _ _ us hl => match us, hl with | [_], _ => rfl
  have D_is_name : Df K mg "is_name" A1 := ⟨PySem.W.mg_of X G a1, k1⟩
  have F_is_name := fun_mk (st := s_is_name) l1 c1 k1
  have b_is_name := F_is_name.binds (ps := ["value"]) fun _ _ _ _ _ _ us hl => match us, hl with | [_], _ => rfl
  have kb_is_name := kwb (ps := ["value"]) F_is_name fun _ _ _ _ _ _ ws hl => match ws, hl with | [_], _ => rfl
  have D_is_text : Df K mg "is_text" A2 := ⟨PySem.W.mg_of X G a2, k2⟩
  have F_is_text := fun_mk (st := s_is_text) l2 c2 k2
  have b_is_text := F_is_text.binds (ps := ["value"]) fun _ _ _ _ _ _ us hl => match us, hl with | [_], _ => rfl
  have kb_is_text := kwb (ps := ["value"]) F_is_text fun _ _ _ _ _ _ ws hl => match ws, hl with | [_], _ => rfl
  have D_is_line : Df K mg "is_line" A3 := ⟨PySem.W.mg_of X G a3, k3⟩
  have F_is_line := fun_mk (st := s_is_line) l3 c3 k3
  have b_is_line := F_is_line.binds (ps := ["value"]) fun _ _ _ _ _ _ us hl => match us, hl with | [_], _ => rfl
  have kb_is_line := kwb (ps := ["value"]) F_is_line fun _ _ _ _ _ _ ws hl => match ws, hl with | [_], _ => rfl
  have D_line_text : Df K mg "line_text" A4 := ⟨PySem.W.mg_of X G a4, k4⟩
  have F_line_text := fun_mk (st := s_line_text) l4 c4 k4
  have b_line_text := F_line_text.binds (ps := ["line"]) fun _ _ _ _ _ _ us hl => match us, hl with | [_], _ => rfl
  have kb_line_text := kwb (ps := ["line"]) F_line_text fun _ _ _ _ _ _ ws hl => match ws, hl with | [_], _ => rfl
  have D_line_in : Df K mg "line_in" A5 := ⟨PySem.W.mg_of X G a5, k5⟩
  have F_line_in := fun_mk (st := s_line_in) l5 c5 k5
  have b_line_in := F_line_in.binds (ps := ["signs"]) fun _ _ _ _ _ _ us hl => match us, hl with | [_], _ => rfl
  have D_read_line : Df K mg "read_line" A6 := ⟨PySem.W.mg_of X G a6, k6⟩
  have F_read_line := fun_mk (st := s_read_line) l6 c6 k6
  have b_read_line := F_read_line.binds (ps := ["text"]) fun _ _ _ _ _ _ us hl => match us, hl with | [_], _ => rfl
  have kb_read_line := kwb (ps := ["text"]) F_read_line fun _ _ _ _ _ _ ws hl => match ws, hl with | [_], _ => rfl
  have D_is_round : Df K mg "is_round" A7 := ⟨PySem.W.mg_of X G a7, k7⟩
  have F_is_round := fun_mk (st := s_is_round) l7 c7 k7
  have b_is_round := F_is_round.binds (ps := ["value"]) fun _ _ _ _ _ _ us hl => match us, hl with | [_], _ => rfl
  have kb_is_round := kwb (ps := ["value"]) F_is_round fun _ _ _ _ _ _ ws hl => match ws, hl with | [_], _ => rfl
  have D__law_cell : Df K mg "_law_cell" A8 := ⟨PySem.W.mg_of X G a8, k8⟩
  have F__law_cell := fun_mk (st := s__law_cell) l8 c8 k8
  have b__law_cell := F__law_cell.binds (ps := ["script", "k"]) fun _ _ _ _ _ _ us hl => match us, hl with | [_, _], _ => rfl
  have D__law_box : Df K mg "_law_box" A9 := ⟨PySem.W.mg_of X G a9, k9⟩
  have F__law_box := fun_mk (st := s__law_box) l9 c9 k9
  have b__law_box := F__law_box.binds (ps := ["great"]) fun _ _ _ _ _ _ us hl => match us, hl with | [_], _ => rfl
  have D__law_take : Df K mg "_law_take" A10 := ⟨PySem.W.mg_of X G a10, k10⟩
  have F__law_take := fun_mk (st := s__law_take) l10 c10 k10
  have b__law_take := F__law_take.binds (ps := ["box", "many"]) fun _ _ _ _ _ _ us hl => match us, hl with | [_, _], _ => rfl
  have D__law_signs : Df K mg "_law_signs" A11 := ⟨PySem.W.mg_of X G a11, k11⟩
  have F__law_signs := fun_mk (st := s__law_signs) l11 c11 k11
  have b__law_signs := F__law_signs.binds (ps := ["box", "alphabet", "many"]) fun _ _ _ _ _ _ us hl => match us, hl with | [_, _, _], _ => rfl
  have D__law_spoilt : Df K mg "_law_spoilt" A12 := ⟨PySem.W.mg_of X G a12, k12⟩
  have F__law_spoilt := fun_mk (st := s__law_spoilt) l12 c12 k12
  have b__law_spoilt := F__law_spoilt.binds (ps := ["box", "signs", "menu"]) fun _ _ _ _ _ _ us hl => match us, hl with | [_, _, _], _ => rfl
  have D__law_name : Df K mg "_law_name" A13 := ⟨PySem.W.mg_of X G a13, k13⟩
  have F__law_name := fun_mk (st := s__law_name) l13 c13 k13
  have b__law_name := F__law_name.binds (ps := ["box"]) fun _ _ _ _ _ _ us hl => match us, hl with | [_], _ => rfl
  have D__law_text : Df K mg "_law_text" A14 := ⟨PySem.W.mg_of X G a14, k14⟩
  have F__law_text := fun_mk (st := s__law_text) l14 c14 k14
  have b__law_text := F__law_text.binds (ps := ["box"]) fun _ _ _ _ _ _ us hl => match us, hl with | [_], _ => rfl
  have D__law_figures : Df K mg "_law_figures" A15 := ⟨PySem.W.mg_of X G a15, k15⟩
  have F__law_figures := fun_mk (st := s__law_figures) l15 c15 k15
  have b__law_figures := F__law_figures.binds (ps := ["box"]) fun _ _ _ _ _ _ us hl => match us, hl with | [_], _ => rfl
  have D__law_name_due : Df K mg "_law_name_due" A16 := ⟨PySem.W.mg_of X G a16, k16⟩
  have F__law_name_due := fun_mk (st := s__law_name_due) l16 c16 k16
  have b__law_name_due := F__law_name_due.binds (ps := ["value"]) fun _ _ _ _ _ _ us hl => match us, hl with | [_], _ => rfl
  have D__law_text_due : Df K mg "_law_text_due" A17 := ⟨PySem.W.mg_of X G a17, k17⟩
  have F__law_text_due := fun_mk (st := s__law_text_due) l17 c17 k17
  have b__law_text_due := F__law_text_due.binds (ps := ["value"]) fun _ _ _ _ _ _ us hl => match us, hl with | [_], _ => rfl
  have D__law_line_due : Df K mg "_law_line_due" A18 := ⟨PySem.W.mg_of X G a18, k18⟩
  have F__law_line_due := fun_mk (st := s__law_line_due) l18 c18 k18
  have b__law_line_due := F__law_line_due.binds (ps := ["value"]) fun _ _ _ _ _ _ us hl => match us, hl with | [_], _ => rfl
  have D__law_round_due : Df K mg "_law_round_due" A19 := ⟨PySem.W.mg_of X G a19, k19⟩
  have F__law_round_due := fun_mk (st := s__law_round_due) l19 c19 k19
  have b__law_round_due := F__law_round_due.binds (ps := ["value"]) fun _ _ _ _ _ _ us hl => match us, hl with | [_], _ => rfl
  have D__law_read_due : Df K mg "_law_read_due" A20 := ⟨PySem.W.mg_of X G a20, k20⟩
  have F__law_read_due := fun_mk (st := s__law_read_due) l20 c20 k20
  have b__law_read_due := F__law_read_due.binds (ps := ["value"]) fun _ _ _ _ _ _ us hl => match us, hl with | [_], _ => rfl
  have D__law_yes : Df K mg "_law_yes" A21 := ⟨PySem.W.mg_of X G a21, k21⟩
  have F__law_yes := fun_mk (st := s__law_yes) l21 c21 k21
  have b__law_yes := F__law_yes.binds (ps := ["answer", "due"]) fun _ _ _ _ _ _ us hl => match us, hl with | [_, _], _ => rfl
  have D__law_same : Df K mg "_law_same" A22 := ⟨PySem.W.mg_of X G a22, k22⟩
  have F__law_same := fun_mk (st := s__law_same) l22 c22 k22
  have b__law_same := F__law_same.binds (ps := ["kept", "thing"]) fun _ _ _ _ _ _ us hl => match us, hl with | [_, _], _ => rfl
  have D__law_asks_right : Df K mg "_law_asks_right" A23 := ⟨PySem.W.mg_of X G a23, k23⟩
  have F__law_asks_right := fun_mk (st := s__law_asks_right) l23 c23 k23
  have b__law_asks_right := F__law_asks_right.binds (ps := ["value", "by_name"]) fun _ _ _ _ _ _ us hl => match us, hl with | [_, _], _ => rfl
  have D__law_written_right : Df K mg "_law_written_right" A24 := ⟨PySem.W.mg_of X G a24, k24⟩
  have F__law_written_right := fun_mk (st := s__law_written_right) l24 c24 k24
  have b__law_written_right := F__law_written_right.binds (ps := ["value", "by_name"]) fun _ _ _ _ _ _ us hl => match us, hl with | [_, _], _ => rfl
  have D__law_read_right : Df K mg "_law_read_right" A25 := ⟨PySem.W.mg_of X G a25, k25⟩
  have F__law_read_right := fun_mk (st := s__law_read_right) l25 c25 k25
  have b__law_read_right := F__law_read_right.binds (ps := ["value", "by_name"]) fun _ _ _ _ _ _ us hl => match us, hl with | [_, _], _ => rfl
  have D__law_values : Df K mg "_law_values" A26 := ⟨PySem.W.mg_of X G a26, k26⟩
  have F__law_values := fun_mk (st := s__law_values) l26 c26 k26
  have b__law_values := F__law_values.binds (ps := ["box"]) fun _ _ _ _ _ _ us hl => match us, hl with | [_], _ => rfl
  have D__law_lists : Df K mg "_law_lists" A27 := ⟨PySem.W.mg_of X G a27, k27⟩
  have F__law_lists := fun_mk (st := s__law_lists) l27 c27 k27
  have b__law_lists := F__law_lists.binds (ps := ["box"]) fun _ _ _ _ _ _ us hl => match us, hl with | [_], _ => rfl
  have D__law_cell_right : Df K mg "_law_cell_right" A28 := ⟨PySem.W.mg_of X G a28, k28⟩
  have F__law_cell_right := fun_mk (st := s__law_cell_right) l28 c28 k28
  have b__law_cell_right := F__law_cell_right.binds (ps := ["box"]) fun _ _ _ _ _ _ us hl => match us, hl with | [_], _ => rfl
  have F_law := fun_mk (st := s_law) l29 c29 k29
  have b_law := F_law.binds (ps := ["script"]) fun _ _ _ _ _ _ us hl => match us, hl with | [_], _ => rfl
  have D_is_signs : Df K mg "is_signs" As := ⟨PySem.W.mg_of X G as_, ks_⟩
  have F_is_signs : FunD K "is_signs" "is_signs" (defArgs s_is_signs) (defBody s_is_signs) (defScope s_is_signs) [.non] [] As _ := ⟨⟨_, _, _, _, _, _, _, _, _, _, rfl, ls_, cs_, .inr ⟨by simp, Ts, _, [Value.none], nT, rfl, ts_, rfl, .cons rfl .nil⟩, .inl rfl⟩, ks_⟩
  obtain ⟨dsv, hdv, b_is_signs⟩ := F_is_signs.binds1 (ps := ["value", "most"]) 2 1 (by simp) rfl fun _ _ _ _ _ _ _ us its hu hi => match us, its, hu, hi with | [_, _], [_], _, _ => ⟨_, rfl, rfl⟩
  cases hdv
  have F_InvalidLine := fun_mk (st := s_InvalidLine___init__) eli0 eci0 eki0
  have E_InvalidLine : ErrT K mg "InvalidLine" "given" C0 I0 _ := ⟨⟨⟨⟨_, _, _, _, _, _, _, _, _, _, _, _, _, _, _, eX0, eR0⟩, eS0, eB0, eT0, eK0⟩, ega0, egg0, ehd0, ecl0, emo0, csp, ctk, fun n hn => by
    simp only [List.mem_cons, List.not_mem_nil, or_false] at hn
    rcases hn with rfl | rfl | rfl | rfl | rfl | rfl
    · exact kone_rt (by decide +kernel) ent0str
    · exact kone_rt (by decide +kernel) ent0tuple
    · exact kone_rt (by decide +kernel) ent0list
    · exact kone_rt (by decide +kernel) ent0int
    · exact kone_rt (by decide +kernel) ent0bool
    · exact kone_rt (by decide +kernel) ent0dict⟩, PySem.W.mg_of X G eA0, eno0, ei0, eti0, F_InvalidLine.binds (ps := ["self", "given"]) fun _ _ _ _ _ _ us hl => match us, hl with | [_, _], _ => rfl⟩
  have F_InvalidText := fun_mk (st := s_InvalidText___init__) eli1 eci1 eki1
  have E_InvalidText : ErrT K mg "InvalidText" "given" C1 I1 _ := ⟨⟨⟨⟨_, _, _, _, _, _, _, _, _, _, _, _, _, _, _, eX1, eR1⟩, eS1, eB1, eT1, eK1⟩, ega1, egg1, ehd1, ecl1, emo1, csp, ctk, fun n hn => by
    simp only [List.mem_cons, List.not_mem_nil, or_false] at hn
    rcases hn with rfl | rfl | rfl | rfl | rfl | rfl
    · exact kone_rt (by decide +kernel) ent1str
    · exact kone_rt (by decide +kernel) ent1tuple
    · exact kone_rt (by decide +kernel) ent1list
    · exact kone_rt (by decide +kernel) ent1int
    · exact kone_rt (by decide +kernel) ent1bool
    · exact kone_rt (by decide +kernel) ent1dict⟩, PySem.W.mg_of X G eA1, eno1, ei1, eti1, F_InvalidText.binds (ps := ["self", "given"]) fun _ _ _ _ _ _ us hl => match us, hl with | [_, _], _ => rfl⟩
  refine ⟨PySem.W.fnOf "law" "law" (defArgs s_law) (defBody s_law) (defScope s_law) .none kV29 dc29 pm29 an29 cd29 ct29, fun s v => .of_eq rfl, fun base _ _ => ?_⟩
  have I_InvalidLine := ini_InvalidLine (P := P) (w := w) (base := base) F_InvalidLine TL
  have I_InvalidText := ini_InvalidText (P := P) (w := w) (base := base) F_InvalidText TL
  have G_count_in := ok_count_in (P := P) (w := w) (base := base) F_count_in T
  have G_is_signs := ok_is_signs (P := P) (w := w) (base := base) F_is_signs T
  have G_is_name := ok_is_name (P := P) (w := w) (base := base) F_is_name T
  have G_is_text := ok_is_text (P := P) (w := w) (base := base) F_is_text T D_is_signs G_is_signs b_is_signs
  have G_is_line := ok_is_line (P := P) (w := w) (base := base) F_is_line T D_is_name G_is_name b_is_name D_is_text G_is_text b_is_text
  have G_line_text := ok_line_text (P := P) (w := w) (base := base) F_line_text T E_InvalidLine I_InvalidLine D_is_line G_is_line b_is_line
  have G_line_in := ok_line_in (P := P) (w := w) (base := base) F_line_in T D_is_line G_is_line b_is_line
  have G_read_line := ok_read_line (P := P) (w := w) (base := base) F_read_line T E_InvalidText I_InvalidText D_line_in G_line_in b_line_in
  have G_is_round := ok_is_round (P := P) (w := w) (base := base) F_is_round T D_count_in G_count_in b_count_in
  have G__law_cell := ok_cell (P := P) (w := w) (base := base) F__law_cell T
  have G__law_box := ok_box (P := P) (w := w) (base := base) F__law_box T
  have G__law_take := ok_take (P := P) (w := w) (base := base) F__law_take T
  have G__law_signs := ok_signs (P := P) (w := w) (base := base) F__law_signs T D__law_take G__law_take b__law_take
  have G__law_spoilt := ok_spoilt (P := P) (w := w) (base := base) F__law_spoilt T D__law_take G__law_take b__law_take
  have G__law_name := ok_name (P := P) (w := w) (base := base) F__law_name T D__law_take G__law_take b__law_take D__law_signs G__law_signs b__law_signs D__law_spoilt G__law_spoilt b__law_spoilt
  have G__law_text := ok_text (P := P) (w := w) (base := base) F__law_text T D__law_take G__law_take b__law_take D__law_signs G__law_signs b__law_signs D__law_spoilt G__law_spoilt b__law_spoilt
  have G__law_figures := ok_figures (P := P) (w := w) (base := base) F__law_figures T D__law_take G__law_take b__law_take D__law_signs G__law_signs b__law_signs D__law_spoilt G__law_spoilt b__law_spoilt
  have G__law_name_due := ok_name_due (P := P) (w := w) (base := base) F__law_name_due T
  have G__law_text_due := ok_text_due (P := P) (w := w) (base := base) F__law_text_due T
  have H__law_name_due := okH_name_due (P := P) (w := w) (base := base) F__law_name_due T
  have H__law_text_due := okH_text_due (P := P) (w := w) (base := base) F__law_text_due T
  have G__law_line_due := ok_line_due (P := P) (w := w) (base := base) F__law_line_due T D__law_name_due G__law_name_due b__law_name_due D__law_text_due G__law_text_due b__law_text_due
  have H__law_line_due := okH_line_due (P := P) (w := w) (base := base) F__law_line_due T D__law_name_due H__law_name_due b__law_name_due D__law_text_due H__law_text_due b__law_text_due
  have G__law_round_due := ok_round_due (P := P) (w := w) (base := base) F__law_round_due T
  have G__law_read_due := ok_read_due (P := P) (w := w) (base := base) F__law_read_due T D__law_line_due G__law_line_due b__law_line_due
  have G__law_yes := ok_yes (P := P) (w := w) (base := base) F__law_yes T
  have H__law_same := okH_same (P := P) (w := w) (base := base) E_InvalidText M_LostError nC nL yc F__law_same T
  have G__law_asks_right := ok_asks (P := P) (w := w) (base := base) F__law_asks_right T D_is_name G_is_name b_is_name kb_is_name D_is_text G_is_text b_is_text kb_is_text D_is_line G_is_line b_is_line kb_is_line D_is_round G_is_round b_is_round kb_is_round D__law_name_due G__law_name_due b__law_name_due D__law_text_due G__law_text_due b__law_text_due D__law_line_due G__law_line_due b__law_line_due D__law_round_due G__law_round_due b__law_round_due D__law_yes G__law_yes b__law_yes
  have G__law_written_right := ok_written (P := P) (w := w) (base := base) E_InvalidLine E_InvalidText exm0 exm1 F__law_written_right T D_line_text G_line_text b_line_text kb_line_text D__law_line_due G__law_line_due H__law_line_due b__law_line_due D__law_same H__law_same b__law_same D_read_line G_read_line b_read_line
  have G__law_read_right := ok_readr (P := P) (w := w) (base := base) E_InvalidLine E_InvalidText exm0 exm1 F__law_read_right T D_read_line G_read_line b_read_line kb_read_line D__law_read_due G__law_read_due b__law_read_due D__law_same H__law_same b__law_same D_line_text G_line_text b_line_text
  have G__law_values := ok_values (P := P) (w := w) (base := base) E_InvalidText I_InvalidText F__law_values T D__law_name G__law_name b__law_name D__law_text G__law_text b__law_text D__law_figures G__law_figures b__law_figures D__law_take G__law_take b__law_take D__law_signs G__law_signs b__law_signs
  have G__law_lists := ok_lists (P := P) (w := w) (base := base) F__law_lists T D__law_name G__law_name b__law_name D__law_figures G__law_figures b__law_figures
  have G__law_cell_right := ok_cell_right (P := P) (w := w) (base := base) E_InvalidText nC yc F__law_cell_right T D__law_take G__law_take b__law_take D__law_values G__law_values b__law_values D__law_asks_right G__law_asks_right b__law_asks_right D__law_written_right G__law_written_right b__law_written_right D__law_read_right G__law_read_right b__law_read_right D__law_lists G__law_lists b__law_lists
  exact ok_law F_law T D__law_cell_right G__law_cell_right b__law_cell_right D__law_box G__law_box b__law_box D__law_cell G__law_cell b__law_cell
end
end K01
open PySem PySem.W PyProof.Rows in
set_option Elab.async false in
set_option linter.all false in
set_option maxRecDepth 100000 in
set_option maxHeartbeats 0 in
theorem PySem.Challenge.cw_maplost_k01_names_lines_and_rounds_holds : PySem.Challenge.rw_maplost_k01_names_lines_and_rounds.Holds := by
  w_on; o_law; k_head; (case hw => w_witness2)
  k_fill
  refine DL.walkG (l := PySem.Challenge.rw_maplost_k01_names_lines_and_rounds) (n := 63) (k := 8) (x := "script") (A := K01.pm_law) rfl (by decide) rfl ⟨rfl, by decide, by decide⟩ (fun w h Y => PySem.W.kIn_of Y) ?F (fun K ns hl => ⟨ns, rfl, hl, fun _ => rfl⟩)
  case F =>
    intro w mg fa h KX G hmg
    refine' K01.all_mk KX G hmg ?a0 ?l0 ?c0 ?k0 ?a1 ?l1 ?c1 ?k1 ?a2 ?l2 ?c2 ?k2 ?a3 ?l3 ?c3 ?k3 ?a4 ?l4 ?c4 ?k4 ?a5 ?l5 ?c5 ?k5 ?a6 ?l6 ?c6 ?k6 ?a7 ?l7 ?c7 ?k7 ?a8 ?l8 ?c8 ?k8 ?a9 ?l9 ?c9 ?k9 ?a10 ?l10 ?c10 ?k10 ?a11 ?l11 ?c11 ?k11 ?a12 ?l12 ?c12 ?k12 ?a13 ?l13 ?c13 ?k13 ?a14 ?l14 ?c14 ?k14 ?a15 ?l15 ?c15 ?k15 ?a16 ?l16 ?c16 ?k16 ?a17 ?l17 ?c17 ?k17 ?a18 ?l18 ?c18 ?k18 ?a19 ?l19 ?c19 ?k19 ?a20 ?l20 ?c20 ?k20 ?a21 ?l21 ?c21 ?k21 ?a22 ?l22 ?c22 ?k22 ?a23 ?l23 ?c23 ?k23 ?a24 ?l24 ?c24 ?k24 ?a25 ?l25 ?c25 ?k25 ?a26 ?l26 ?c26 ?k26 ?a27 ?l27 ?c27 ?k27 ?a28 ?l28 ?c28 ?k28 ?a29 ?l29 ?c29 ?k29 ?as_ ?ls_ ?cs_ ?ks_ ?ts_ ?eA0 ?eX0 ?eR0 ?eS0 ?eB0 ?eT0 ?eK0 ?ega0 ?egg0 ?ehd0 ?ecl0 ?emo0 ?ent0str ?ent0tuple ?ent0list ?ent0int ?ent0bool ?ent0dict ?eno0 ?ei0 ?eti0 ?eli0 ?eci0 ?eki0 ?ecs0 ?exs0 ?eA1 ?eX1 ?eR1 ?eS1 ?eB1 ?eT1 ?eK1 ?ega1 ?egg1 ?ehd1 ?ecl1 ?emo1 ?ent1str ?ent1tuple ?ent1list ?ent1int ?ent1bool ?ent1dict ?eno1 ?ei1 ?eti1 ?eli1 ?eci1 ?eki1 ?ecs1 ?exs1 ?csp ?ctk ?ncNoneType ?ncbool ?ncint ?ncstr ?nclist ?nctuple ?ncdict ?eL ?lcs ?lsg ?ltp ?lrd ?lfc ?nlNoneType ?nlbool ?nlint ?nlstr ?nllist ?nltuple ?nldict ?z_isinstance ?z_len ?z_all ?z_str ?z_tuple ?z_list ?z_int ?z_abs ?z_sum ?z_repr ?z_ord ?z_max ?z_min ?z_range ?cv0 ?cv1 ?cv2 ?cv3 ?cv4 ?cv5
    (case a0 => k_is)
    (case l0 => k_is)
    (case c0 => k_is)
    (case k0 => k_is)
    (case a1 => k_is)
    (case l1 => k_is)
    (case c1 => k_is)
    (case k1 => k_is)
    (case a2 => k_is)
    (case l2 => k_is)
    (case c2 => k_is)
    (case k2 => k_is)
    (case a3 => k_is)
    (case l3 => k_is)
    (case c3 => k_is)
    (case k3 => k_is)
    (case a4 => k_is)
    (case l4 => k_is)
    (case c4 => k_is)
    (case k4 => k_is)
    (case a5 => k_is)
    (case l5 => k_is)
    (case c5 => k_is)
    (case k5 => k_is)
    (case a6 => k_is)
    (case l6 => k_is)
    (case c6 => k_is)
    (case k6 => k_is)
    (case a7 => k_is)
    (case l7 => k_is)
    (case c7 => k_is)
    (case k7 => k_is)
    (case a8 => k_is)
    (case l8 => k_is)
    (case c8 => k_is)
    (case k8 => k_is)
    (case a9 => k_is)
    (case l9 => k_is)
    (case c9 => k_is)
    (case k9 => k_is)
    (case a10 => k_is)
    (case l10 => k_is)
    (case c10 => k_is)
    (case k10 => k_is)
    (case a11 => k_is)
    (case l11 => k_is)
    (case c11 => k_is)
    (case k11 => k_is)
    (case a12 => k_is)
    (case l12 => k_is)
    (case c12 => k_is)
    (case k12 => k_is)
    (case a13 => k_is)
    (case l13 => k_is)
    (case c13 => k_is)
    (case k13 => k_is)
    (case a14 => k_is)
    (case l14 => k_is)
    (case c14 => k_is)
    (case k14 => k_is)
    (case a15 => k_is)
    (case l15 => k_is)
    (case c15 => k_is)
    (case k15 => k_is)
    (case a16 => k_is)
    (case l16 => k_is)
    (case c16 => k_is)
    (case k16 => k_is)
    (case a17 => k_is)
    (case l17 => k_is)
    (case c17 => k_is)
    (case k17 => k_is)
    (case a18 => k_is)
    (case l18 => k_is)
    (case c18 => k_is)
    (case k18 => k_is)
    (case a19 => k_is)
    (case l19 => k_is)
    (case c19 => k_is)
    (case k19 => k_is)
    (case a20 => k_is)
    (case l20 => k_is)
    (case c20 => k_is)
    (case k20 => k_is)
    (case a21 => k_is)
    (case l21 => k_is)
    (case c21 => k_is)
    (case k21 => k_is)
    (case a22 => k_is)
    (case l22 => k_is)
    (case c22 => k_is)
    (case k22 => k_is)
    (case a23 => k_is)
    (case l23 => k_is)
    (case c23 => k_is)
    (case k23 => k_is)
    (case a24 => k_is)
    (case l24 => k_is)
    (case c24 => k_is)
    (case k24 => k_is)
    (case a25 => k_is)
    (case l25 => k_is)
    (case c25 => k_is)
    (case k25 => k_is)
    (case a26 => k_is)
    (case l26 => k_is)
    (case c26 => k_is)
    (case k26 => k_is)
    (case a27 => k_is)
    (case l27 => k_is)
    (case c27 => k_is)
    (case k27 => k_is)
    (case a28 => k_is)
    (case l28 => k_is)
    (case c28 => k_is)
    (case k28 => k_is)
    (case a29 => k_is)
    (case l29 => k_is)
    (case c29 => k_is)
    (case k29 => k_is)
    (case as_ => k_is)
    (case ls_ => k_is)
    (case cs_ => k_is)
    (case ks_ => k_is)
    (case ts_ => k_is)
    (case eA0 => k_is)
    (case eX0 => k_is)
    (case eR0 => decide +kernel)
    (case eS0 => k_is)
    (case eB0 => k_is)
    (case eT0 => k_is)
    (case eK0 => k_is)
    (case ega0 => k_is)
    (case egg0 => k_is)
    (case ehd0 => k_is)
    (case ecl0 => k_is)
    (case emo0 => k_is)
    (case ent0str => k_is)
    (case ent0tuple => k_is)
    (case ent0list => k_is)
    (case ent0int => k_is)
    (case ent0bool => k_is)
    (case ent0dict => k_is)
    (case eno0 => k_is)
    (case ei0 => k_is)
    (case eti0 => k_is)
    (case eli0 => k_is)
    (case eci0 => k_is)
    (case eki0 => k_is)
    (case ecs0 => k_is)
    (case exs0 => k_is)
    (case eA1 => k_is)
    (case eX1 => k_is)
    (case eR1 => decide +kernel)
    (case eS1 => k_is)
    (case eB1 => k_is)
    (case eT1 => k_is)
    (case eK1 => k_is)
    (case ega1 => k_is)
    (case egg1 => k_is)
    (case ehd1 => k_is)
    (case ecl1 => k_is)
    (case emo1 => k_is)
    (case ent1str => k_is)
    (case ent1tuple => k_is)
    (case ent1list => k_is)
    (case ent1int => k_is)
    (case ent1bool => k_is)
    (case ent1dict => k_is)
    (case eno1 => k_is)
    (case ei1 => k_is)
    (case eti1 => k_is)
    (case eli1 => k_is)
    (case eci1 => k_is)
    (case eki1 => k_is)
    (case ecs1 => k_is)
    (case exs1 => k_is)
    (case csp => k_is)
    (case ctk => k_is)
    (case ncNoneType => k_is)
    (case ncbool => k_is)
    (case ncint => k_is)
    (case ncstr => k_is)
    (case nclist => k_is)
    (case nctuple => k_is)
    (case ncdict => k_is)
    (case eL => k_is)
    (case lcs => k_is)
    (case lsg => k_is)
    (case ltp => k_is)
    (case lrd => k_is)
    (case lfc => k_is)
    (case nlNoneType => k_is)
    (case nlbool => k_is)
    (case nlint => k_is)
    (case nlstr => k_is)
    (case nllist => k_is)
    (case nltuple => k_is)
    (case nldict => k_is)
    (case z_isinstance => k_is)
    (case z_len => k_is)
    (case z_all => k_is)
    (case z_str => k_is)
    (case z_tuple => k_is)
    (case z_list => k_is)
    (case z_int => k_is)
    (case z_abs => k_is)
    (case z_sum => k_is)
    (case z_repr => k_is)
    (case z_ord => k_is)
    (case z_max => k_is)
    (case z_min => k_is)
    (case z_range => k_is)
    (case cv0 => k_is)
    (case cv1 => k_is)
    (case cv2 => k_is)
    (case cv3 => k_is)
    (case cv4 => k_is)
    (case cv5 => k_is)
