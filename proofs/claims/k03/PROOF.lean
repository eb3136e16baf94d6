import PyProof.Rows.All
import Wide.All
import OpenK.AllK
import Wide.FinOn
import HandS.ForMost
import HandS.Exc
import HandS.ExcOwn
import HandS.ExcInit
import HandS.ExcField
import HandS.WordsExc
import HandS.Wide
import HandS.Style
import HandS.Flow
import HandS.FStr
import HandS.IsInst
import HandS.HotCalls
import HandS.ExcCtx
import HandS.Steps
import KE.KExcIs
import HandS.ExcInitHot
import HandS.Defaults
import HandS.Comp
import HandS.Iter
import PyProof.StrLoop
import PyProof.ReprRoads
import PyProof.StrLawsRepr
import KE.IntTextLaws
import PyProof.ReprLen
import HandS.Ends
import HandS.ListEq
import HandS.DeepEq
import PyProof.NeKinds
import HandS.Small
import HandS.DictComp
import HandS.TupLe
import HandS.Deep
import HandS.SortRule
import HandS.SortInts
import HandS.Conv
import HandS.Star
import HandS.Replace
import HandS.Strs
import HandS.ReplaceLit
import PyProof.CollectIter
import PyProof.InstNe
import KE.KUnpack
import HandS.OwnEq
import HandS.More
import PyProof.Rows.StrSplitJoin
import PyProof.StrLawsReplace
import PySem.Challenge.RW_maplost_k03_tree_lines
set_option Elab.async false
set_option linter.all false
set_option maxRecDepth 100000
set_option maxHeartbeats 0
namespace DL
open PySem L2

/-- a datum: what a value means, apart from the heap; `cell k`: the k-th object that may change -/
inductive Dat where
  | non | bl (b : Bool) | int (i : Int) | str (x : Str)
  | lst (xs : List Dat) | tup (xs : List Dat) | rol (xs : List Dat)
  | dct (kvs : List (Key × Dat))
  | exc (C : Addr) (fs : List (Str × Dat))
  | hot (a dd C : Addr) (fs : List (Str × Dat))
  | cell (k : Nat)
  | ref (a : Addr) | ty (n : String)

structure Wd where
  ι : List Addr
  F : Hp

variable (K : PySem.W.Frag)

mutual
inductive Rep (W : Wd) : V → Dat → Prop
  | non : Rep W .non .non
  | bl (b : Bool) : Rep W (.bl b) (.bl b)
  | int (i : Int) : Rep W (.int i) (.int i)
  | str (x : Str) : Rep W (.str x) (.str x)
  | ref (a : Addr) : Rep W (.ref a) (.ref a)
  | ty (n : String) : Rep W (.ty n) (.ty n)
  | lst {a : Addr} {xs : List V} {ds : List Dat} : W.F a = some (.lst xs) → RepL W xs ds → Rep W (.ref a) (.lst ds)
  | tup {a : Addr} {xs : List V} {ds : List Dat} : SqT K W.F a xs → RepL W xs ds → Rep W (.ref a) (.tup ds)
  | rol {a : Addr} {xs : List V} {ds : List Dat} : SqL K W.F a xs → RepL W xs ds → Rep W (.ref a) (.rol ds)
  | dct {a : Addr} {xs : List (Key × V)} {ds : List (Key × Dat)} : W.F a = some (.dK xs) → RepK W xs ds → Rep W (.ref a) (.dct ds)
  | exc {a C dx : Addr} {fs : List (Str × V)} {ds : List (Str × Dat)} : W.F a = some (exo a C (some dx)) → W.F dx = some (exd dx fs) → RepF W fs ds → Rep W (.ref a) (.exc C ds)
  | hot {a dd C : Addr} {fs : List (Str × V)} {ds : List (Str × Dat)} : W.F dd = some (.xd fs) → RepF W fs ds → Rep W (.ref a) (.hot a dd C ds)
  | cell {a : Addr} {k : Nat} : W.ι[k]? = some a → Rep W (.ref a) (.cell k)
inductive RepL (W : Wd) : List V → List Dat → Prop
  | nil : RepL W [] []
  | cons {v : V} {d : Dat} {vs : List V} {ds : List Dat} : Rep W v d → RepL W vs ds → RepL W (v :: vs) (d :: ds)
inductive RepF (W : Wd) : List (Str × V) → List (Str × Dat) → Prop
  | nil : RepF W [] []
  | cons {f : Str} {v : V} {d : Dat} {vs : List (Str × V)} {ds : List (Str × Dat)} : Rep W v d → RepF W vs ds → RepF W ((f, v) :: vs) ((f, d) :: ds)
inductive RepK (W : Wd) : List (Key × V) → List (Key × Dat) → Prop
  | nil : RepK W [] []
  | cons {f : Key} {v : V} {d : Dat} {vs : List (Key × V)} {ds : List (Key × Dat)} : Rep W v d → RepK W vs ds → RepK W ((f, v) :: vs) ((f, d) :: ds)
end

structure Le (W W' : Wd) : Prop where
  i : W.ι <+: W'.ι
  f : Same W.F W'.F
theorem Le.refl (W : Wd) : Le W W := ⟨List.prefix_rfl, Same.refl _⟩
theorem Le.trans {A B C : Wd} (a : Le A B) (b : Le B C) : Le A C := ⟨a.i.trans b.i, a.f.trans b.f⟩
theorem pre_get {α : Type} {l m : List α} {k : Nat} {a : α} (h : l <+: m) (e : l[k]? = some a) : m[k]? = some a := by
  obtain ⟨t, rfl⟩ := h
  have hk : k < l.length := (List.getElem?_eq_some_iff.mp e).1
  rw [List.getElem?_append_left hk]
  exact e
theorem Same.tup {K : PySem.W.Frag} {H H' : Hp} {a : Addr} {xs : List V} (e : Same H H') (h : SqT K H a xs) : SqT K H' a xs := by
  rcases h with (h | ⟨o, h⟩) | h
  · exact .inl (.inl (e _ _ h))
  · exact .inl (.inr ⟨o, e _ _ h⟩)
  · exact .inr h

variable {K}
mutual
theorem Rep.mono {W W' : Wd} (l : Le W W') : ∀ (d : Dat) (v : V), Rep K W v d → Rep K W' v d
  | .non, _, h => by cases h; exact .non
  | .bl b, _, h => by cases h; exact .bl b
  | .int b, _, h => by cases h; exact .int b
  | .str b, _, h => by cases h; exact .str b
  | .ref b, _, h => by cases h; exact .ref b
  | .ty b, _, h => by cases h; exact .ty b
  | .cell k, _, h => by cases h with | cell e => exact .cell (pre_get l.i e)
  | .lst ds, _, h => by cases h with | lst e r => exact .lst (l.f _ _ e) (RepL.mono l ds _ r)
  | .tup ds, _, h => by cases h with | tup e r => exact .tup (Same.tup l.f e) (RepL.mono l ds _ r)
  | .rol ds, _, h => by cases h with | rol e r => exact .rol (l.f.seq e) (RepL.mono l ds _ r)
  | .dct ds, _, h => by cases h with | dct e r => exact .dct (l.f _ _ e) (RepK.mono l ds _ r)
  | .exc C ds, _, h => by cases h with | exc e e' r => exact .exc (l.f _ _ e) (l.f _ _ e') (RepF.mono l ds _ r)
  | .hot a dd C ds, _, h => by cases h with | hot e r => exact .hot (l.f _ _ e) (RepF.mono l ds _ r)
theorem RepL.mono {W W' : Wd} (l : Le W W') : ∀ (ds : List Dat) (vs : List V), RepL K W vs ds → RepL K W' vs ds
  | [], _, h => by cases h; exact .nil
  | d :: ds, _, h => by cases h with | cons a b => exact .cons (Rep.mono l d _ a) (RepL.mono l ds _ b)
theorem RepF.mono {W W' : Wd} (l : Le W W') : ∀ (ds : List (Str × Dat)) (vs : List (Str × V)), RepF K W vs ds → RepF K W' vs ds
  | [], _, h => by cases h; exact .nil
  | (f, d) :: ds, _, h => by cases h with | cons a b => exact .cons (Rep.mono l d _ a) (RepF.mono l ds _ b)
theorem RepK.mono {W W' : Wd} (l : Le W W') : ∀ (ds : List (Key × Dat)) (vs : List (Key × V)), RepK K W vs ds → RepK K W' vs ds
  | [], _, h => by cases h; exact .nil
  | (f, d) :: ds, _, h => by cases h with | cons a b => exact .cons (Rep.mono l d _ a) (RepK.mono l ds _ b)
end

/-! ### objects that may change -/
inductive MO where
  | lst (xs : List Dat)
  | dct (kvs : List (Key × Dat))
  | ins (C : Addr) (fs : List (Str × Dat))
abbrev Ms := List MO
abbrev Ev := List (Option Dat)
variable (K)
def MoOk (W : Wd) (H : Hp) (a : Addr) : MO → Prop
  | .lst ds => ∃ xs, H a = some (.lst xs) ∧ RepL K W xs ds
  | .dct ds => ∃ xs, H a = some (.dK xs) ∧ RepK K W xs ds
  | .ins C ds => ∃ dx fs, H a = some (.ins C dx fs) ∧ RepF K W fs ds
structure Good (W : Wd) (G H : Hp) (ms : Ms) : Prop where
  fz : Same W.F H
  gd : Same G H
  ln : W.ι.length = ms.length
  nd : W.ι.Nodup
  nF : ∀ a ∈ W.ι, W.F a = none
  nG : ∀ a ∈ W.ι, G a = none
  gF : ∀ a o, G a = some o → W.F a = none
  cl : ∀ (k : Nat) a m, W.ι[k]? = some a → ms[k]? = some m → MoOk K W H a m
def Slots (W : Wd) (σ : St) (e : Ev) : Prop := σ.length = e.length ∧ ∀ (i : Nat) d, e[i]? = some (some d) → ∃ v, σ[i]? = some (some v) ∧ Rep K W v d
variable {K}
variable {W W' : Wd} {G G' H H' : Hp} {ms : Ms} {σ : St} {e : Ev} {p : Addr} {o : HO}
theorem MoOk.mono (l : Le W W') {a : Addr} (h : ∀ u, H a = some u → H' a = some u) : ∀ {m : MO}, MoOk K W H a m → MoOk K W' H' a m
  | .lst ds, ⟨xs, e, r⟩ => ⟨xs, h _ e, RepL.mono l _ _ r⟩
  | .dct ds, ⟨xs, e, r⟩ => ⟨xs, h _ e, RepK.mono l _ _ r⟩
  | .ins C ds, ⟨dx, fs, e, r⟩ => ⟨dx, fs, h _ e, RepF.mono l _ _ r⟩
theorem MoOk.there {a : Addr} : ∀ {m : MO}, MoOk K W H a m → ∃ u, H a = some u
  | .lst ds, ⟨xs, e, r⟩ => ⟨_, e⟩
  | .dct ds, ⟨xs, e, r⟩ => ⟨_, e⟩
  | .ins C ds, ⟨dx, fs, e, r⟩ => ⟨_, e⟩
theorem Slots.mono (l : Le W W') (s : Slots K W σ e) : Slots K W' σ e := ⟨s.1, fun i d h => by
  obtain ⟨v, h1, h2⟩ := s.2 i d h
  exact ⟨v, h1, Rep.mono l _ _ h2⟩⟩
theorem Slots.set (s : Slots K W σ e) {v : V} {d : Dat} (r : Rep K W v d) (i : Nat) : Slots K W (σ.set i (some v)) (e.set i (some d)) := by
  refine ⟨by rw [List.length_set, List.length_set]; exact s.1, fun j x h => ?_⟩
  by_cases hj : i = j
  · subst hj
    by_cases hl : i < e.length
    · rw [List.getElem?_set_self hl] at h
      cases h
      exact ⟨v, List.getElem?_set_self (by rw [s.1]; exact hl), r⟩
    · rw [List.getElem?_eq_none (by rw [List.length_set]; omega)] at h
      cases h
  · rw [List.getElem?_set_ne hj] at h ⊢
    exact s.2 j x h
theorem Good.has (g : Good K W G H ms) {a : Addr} (h : a ∈ W.ι) : ∃ u, H a = some u := by
  obtain ⟨k, hk, e⟩ := List.getElem_of_mem h
  have hm : k < ms.length := by rw [← g.ln]; exact hk
  exact (g.cl k a ms[k] (by rw [List.getElem?_eq_getElem hk, e]) (List.getElem?_eq_getElem hm)).there
theorem Good.neI (g : Good K W G H ms) (n : H p = none) : p ∉ W.ι := fun h => by
  obtain ⟨u, e⟩ := g.has h
  rw [n] at e; cases e
theorem same_new {H : Hp} {p : Addr} {o : HO} (n : H p = none) : Same H (upd H p o) := fun b u e => by
  rw [upd_ne (ne_of_none e n)]
  exact e
theorem same_upd {F H : Hp} {p : Addr} {o : HO} (s : Same F H) : Same (upd F p o) (upd H p o) := fun b u e => by
  by_cases hb : b = p
  · subst hb; rw [upd_same] at e ⊢; exact e
  · rw [upd_ne hb] at e ⊢; exact s b u e
/-- a new datum is laid -/
theorem Good.laid (g : Good K W G H ms) (n : H p = none) : Good K ⟨W.ι, upd W.F p o⟩ G (upd H p o) ms ∧ Le W ⟨W.ι, upd W.F p o⟩ := by
  have nf : W.F p = none := g.fz.free n
  have l : Le W ⟨W.ι, upd W.F p o⟩ := ⟨List.prefix_rfl, same_new nf⟩
  refine ⟨⟨same_upd g.fz, g.gd.trans (same_new n), g.ln, g.nd, fun a h => ?_, g.nG, fun a u h => ?_, fun k a m h1 h2 => (g.cl k a m h1 h2).mono l fun u e => same_new n a u e⟩, l⟩
  · show upd W.F p o a = none
    rw [upd_ne (show a ≠ p from fun z => g.neI n (by rw [← z]; exact h))]
    exact g.nF a h
  · show upd W.F p o a = none
    rw [upd_ne (ne_of_none (g.gd a u h) n)]
    exact g.gF a u h
/-- a new object that may change -/
theorem Good.newC (g : Good K W G H ms) (n : H p = none) {m : MO} (hm : MoOk K ⟨W.ι ++ [p], W.F⟩ (upd H p o) p m) : Good K ⟨W.ι ++ [p], W.F⟩ G (upd H p o) (ms ++ [m]) ∧ Le W ⟨W.ι ++ [p], W.F⟩ := by
  have l : Le W ⟨W.ι ++ [p], W.F⟩ := ⟨List.prefix_append _ _, Same.refl _⟩
  refine ⟨⟨g.fz.trans (same_new n), g.gd.trans (same_new n), by simp [g.ln], ?_, fun a h => ?_, fun a h => ?_, g.gF, fun k a m' h1 h2 => ?_⟩, l⟩
  · show (W.ι ++ [p]).Nodup
    refine List.nodup_append.mpr ⟨g.nd, by simp, fun a ha b hb z => ?_⟩
    have : b = p := by simpa using hb
    subst this; subst z
    exact g.neI n ha
  · rcases List.mem_append.mp (show a ∈ W.ι ++ [p] from h) with h | h
    · exact g.nF a h
    · have : a = p := by simpa using h
      subst this
      exact g.fz.free n
  · rcases List.mem_append.mp (show a ∈ W.ι ++ [p] from h) with h | h
    · exact g.nG a h
    · have : a = p := by simpa using h
      subst this
      exact g.gd.free n
  · by_cases hk : k < W.ι.length
    · have h1' : W.ι[k]? = some a := by rw [← h1]; exact (List.getElem?_append_left hk).symm
      have h2' : ms[k]? = some m' := by rw [← h2]; exact (List.getElem?_append_left (by rw [← g.ln]; exact hk)).symm
      exact (g.cl k a m' h1' h2').mono l fun u e => same_new n a u e
    · have e1 : (W.ι ++ [p])[k]? = some a := h1
      rw [List.getElem?_append_right (by omega)] at e1
      rw [List.getElem?_append_right (by rw [← g.ln]; omega), ← g.ln] at h2
      have hk0 : k - W.ι.length = 0 := by
        cases q : k - W.ι.length with
        | zero => rfl
        | succ j => rw [q] at e1; simp at e1
      rw [hk0] at e1 h2
      cases e1; cases h2
      exact hm
/-- an object changes -/
theorem Good.setC (g : Good K W G H ms) {k : Nat} {a : Addr} (h : W.ι[k]? = some a) {m : MO} (hm : MoOk K W (upd H a o) a m) : Good K W G (upd H a o) (ms.set k m) := by
  have ha : a ∈ W.ι := List.mem_of_getElem? h
  refine ⟨fun b u e => ?_, fun b u e => ?_, by rw [List.length_set]; exact g.ln, g.nd, g.nF, g.nG, g.gF, fun j b m' h1 h2 => ?_⟩
  · rw [upd_ne (ne_of_none e (g.nF a ha))]; exact g.fz b u e
  · rw [upd_ne (ne_of_none e (g.nG a ha))]; exact g.gd b u e
  · have hk : k < W.ι.length := (List.getElem?_eq_some_iff.mp h).1
    by_cases hj : k = j
    · subst hj
      rw [h] at h1; cases h1
      rw [List.getElem?_set_self (by rw [← g.ln]; exact hk)] at h2
      cases h2
      exact hm
    · rw [List.getElem?_set_ne hj] at h2
      refine (g.cl j b m' h1 h2).mono (Le.refl W) fun u e => ?_
      have hjl : j < W.ι.length := (List.getElem?_eq_some_iff.mp h1).1
      rw [upd_ne]
      · exact e
      · rintro rfl
        have e1 : W.ι[k]'hk = W.ι[j]'hjl := by
          rw [List.getElem?_eq_getElem hk] at h
          rw [List.getElem?_eq_getElem hjl] at h1
          exact (Option.some.inj h).trans (Option.some.inj h1).symm
        exact hj ((List.getElem_inj g.nd).mp e1)
/-- fewer objects of others are told -/
theorem Good.weakG (g : Good K W G H ms) (s : Same G' G) : Good K W G' H ms :=
  ⟨g.fz, s.trans g.gd, g.ln, g.nd, g.nF, fun a h => s.free (g.nG a h), fun a o e => g.gF a o (s a o e), g.cl⟩
/-- an object of ours is laid aside while others work -/
theorem Good.hold (g : Good K W G H ms) (n : H p = none) : Good K W (upd G p o) (upd H p o) ms := by
  have nf : W.F p = none := g.fz.free n
  refine ⟨g.fz.trans (same_new n), same_upd g.gd, g.ln, g.nd, g.nF, fun a h => ?_, fun a u e => ?_, fun k a m h1 h2 => (g.cl k a m h1 h2).mono (Le.refl W) fun u e => same_new n a u e⟩
  · rw [upd_ne (show a ≠ p from fun z => g.neI n (by rw [← z]; exact h))]
    exact g.nG a h
  · by_cases hb : a = p
    · rw [hb]; exact nf
    · rw [upd_ne hb] at e
      exact g.gF a u e
/-- it is changed -/
theorem Good.held (g : Good K W (upd G p o) H ms) (u : HO) : Good K W (upd G p u) (upd H p u) ms := by
  have nf : W.F p = none := g.gF p o upd_same
  have np : p ∉ W.ι := fun h => by
    have := g.nG p h
    rw [upd_same] at this; cases this
  refine ⟨fun b v e => ?_, fun b v e => ?_, g.ln, g.nd, g.nF, fun a h => ?_, fun a v e => ?_, fun k a m h1 h2 => (g.cl k a m h1 h2).mono (Le.refl W) fun v e => ?_⟩
  · rw [upd_ne (ne_of_none e nf)]; exact g.fz b v e
  · by_cases hb : b = p
    · subst hb; rw [upd_same] at e ⊢; exact e
    · rw [upd_ne hb] at e ⊢
      exact g.gd b v (by rw [upd_ne hb]; exact e)
  · have ne : a ≠ p := fun z => np (z ▸ h)
    have := g.nG a h
    rw [upd_ne ne] at this ⊢
    exact this
  · by_cases hb : a = p
    · rw [hb]; exact nf
    · rw [upd_ne hb] at e
      exact g.gF a v (by rw [upd_ne hb]; exact e)
  · have ne : a ≠ p := fun z => np (z ▸ List.mem_of_getElem? h1)
    rw [upd_ne ne]; exact e
/-- .. and becomes a datum -/
theorem Good.frozen (g : Good K W (upd G p o) H ms) (n : G p = none) : Good K ⟨W.ι, upd W.F p o⟩ G H ms ∧ Le W ⟨W.ι, upd W.F p o⟩ := by
  have nf : W.F p = none := g.gF p o upd_same
  have np : p ∉ W.ι := fun h => by
    have := g.nG p h
    rw [upd_same] at this; cases this
  have l : Le W ⟨W.ι, upd W.F p o⟩ := ⟨List.prefix_rfl, same_new nf⟩
  refine ⟨⟨fun b v e => ?_, (same_new n).trans g.gd, g.ln, g.nd, fun a h => ?_, fun a h => ?_, fun a v e => ?_, fun k a m h1 h2 => (g.cl k a m h1 h2).mono l fun v e => e⟩, l⟩
  · by_cases hb : b = p
    · subst hb
      have e' : some o = some v := by
        have q : upd W.F b o b = some v := e
        rw [upd_same] at q; exact q
      cases e'
      exact g.gd b o upd_same
    · have q : upd W.F p o b = some v := e
      rw [upd_ne hb] at q
      exact g.fz b v q
  · have ne : a ≠ p := fun z => np (z ▸ h)
    show upd W.F p o a = none
    rw [upd_ne ne]; exact g.nF a h
  · have ne : a ≠ p := fun z => np (z ▸ h)
    have := g.nG a h
    rw [upd_ne ne] at this
    exact this
  · have ne : a ≠ p := ne_of_none e n
    show upd W.F p o a = none
    rw [upd_ne ne]
    exact g.gF a v (by rw [upd_ne ne]; exact e)

/-! ### judgements -/
abbrev XP := Addr → List (Str × Dat) → Ms → Prop
abbrev XE := Addr → List (Str × Dat) → Ev → Ms → Prop
variable (K)
def ExC (W : Wd) (G : Hp) (X : XP) (R : Value → Option Addr → Hp → Prop) : Prop :=
  ∀ (W' : Wd) (C d : Addr) (fs : List (Str × V)) (ds : List (Str × Dat)) (H' : Hp) (ms' : Ms), Le W W' → Good K W' G H' ms' → W'.F d = some (.xd fs) → RepF K W' fs ds → X C ds ms' → R (.ref C) (some d) H'
def RtC (W : Wd) (G : Hp) (P : Dat → Ms → Prop) (Q : VK) : Prop := ∀ (W' : Wd) (v : V) (d : Dat) (H' : Hp) (ms' : Ms), Le W W' → Good K W' G H' ms' → Rep K W' v d → P d ms' → Q v H'
def RaC (W : Wd) (G : Hp) (P : List Dat → Ms → Prop) (Q : List V → Hp → Prop) : Prop := ∀ (W' : Wd) (v : List V) (d : List Dat) (H' : Hp) (ms' : Ms), Le W W' → Good K W' G H' ms' → RepL K W' v d → P d ms' → Q v H'
def TtC (W : Wd) (G : Hp) (P : Bool → Ms → Prop) (Q : Bool → Hp → Prop) : Prop := ∀ (W' : Wd) (b : Bool) (H' : Hp) (ms' : Ms), Le W W' → Good K W' G H' ms' → P b ms' → Q b H'
def NxC (W : Wd) (G : Hp) (P : Ev → Ms → Prop) (Q : St → Hp → Prop) : Prop := ∀ (W' : Wd) (σ' : St) (e' : Ev) (H' : Hp) (ms' : Ms), Le W W' → Good K W' G H' ms' → Slots K W' σ' e' → P e' ms' → Q σ' H'
def XeC (W : Wd) (G : Hp) (X : XE) (R : WX) : Prop :=
  ∀ (W' : Wd) (σ' : St) (e' : Ev) (C d : Addr) (fs : List (Str × V)) (ds : List (Str × Dat)) (H' : Hp) (ms' : Ms), Le W W' → Good K W' G H' ms' → Slots K W' σ' e' → W'.F d = some (.xd fs) → RepF K W' fs ds → X C ds e' ms' → R (.ref C) (some d) σ' H'
/-- an expression -/
def DE (R : WX) (t : TE) (e : Ev) (ms : Ms) (P : Dat → Ms → Prop) (X : XP) : Prop :=
  ∀ (W : Wd) (G : Hp) (σ : St) (H : Hp) (Q : VK), Good K W G H ms → Slots K W σ e → RtC K W G P Q → ExC K W G X (fun c d H' => R c d σ H') → t σ H Q
/-- arguments -/
def DA (R : WX) (t : TA) (e : Ev) (ms : Ms) (P : List Dat → Ms → Prop) (X : XP) : Prop :=
  ∀ (W : Wd) (G : Hp) (σ : St) (H : Hp) (Q : List V → Hp → Prop), Good K W G H ms → Slots K W σ e → RaC K W G P Q → ExC K W G X (fun c d H' => R c d σ H') → t σ H Q
/-- a test -/
def DT (R : WX) (t : TT) (e : Ev) (ms : Ms) (P : Bool → Ms → Prop) (X : XP) : Prop :=
  ∀ (W : Wd) (G : Hp) (σ : St) (H : Hp) (Q : Bool → Hp → Prop), Good K W G H ms → Slots K W σ e → TtC K W G P Q → ExC K W G X (fun c d H' => R c d σ H') → t σ H Q
structure Out where
  nx : Ev → Ms → Prop
  rt : Dat → Ms → Prop := fun _ _ => False
  bk : Ev → Ms → Prop := fun _ _ => False
  ct : Ev → Ms → Prop := fun _ _ => False
  ex : XE := fun _ _ _ _ => False
structure Fits (W : Wd) (G : Hp) (R : WX) (O : Out) (D : Ends) : Prop where
  nx : NxC K W G O.nx D.nx
  rt : RtC K W G O.rt D.rt
  bk : NxC K W G O.bk D.bk
  ct : NxC K W G O.ct D.ct
  ex : XeC K W G O.ex R
/-- a statement, a block -/
def DS (R : WX) (t : TS) (e : Ev) (ms : Ms) (O : Out) : Prop :=
  ∀ (W : Wd) (G : Hp) (σ : St) (H : Hp) (D : Ends), Good K W G H ms → Slots K W σ e → Fits K W G R O D → t D σ H
/-- a target -/
def DG (g : TG) (d : Dat) (e : Ev) (ms : Ms) (vs : List Nat) (P : Ev → Ms → Prop) : Prop :=
  ∀ (W : Wd) (G : Hp) (σ : St) (H : Hp) (v : V) (Q : St → Hp → Prop), Good K W G H ms → Slots K W σ e → Rep K W v d →
    (∀ (W' : Wd) (σ' : St) (e' : Ev) (H' : Hp) (ms' : Ms), Le W W' → Good K W' G H' ms' → Slots K W' σ' e' → (σ'.length = σ.length ∧ ∀ i, i ∉ vs → σ'[i]? = σ[i]?) → P e' ms' → Q σ' H') → g v σ H Q
/-- values to a value -/
def DR (r : List V → Hp → VK → Prop) (ds : List Dat) (ms : Ms) (P : Dat → Ms → Prop) : Prop :=
  ∀ (W : Wd) (G H : Hp) (vs : List V) (Q : VK), Good K W G H ms → RepL K W vs ds → RtC K W G P Q → r vs H Q
variable {K}
variable {P : Dat → Ms → Prop} {X : XP} {R : WX}
theorem ExC.le {R : Value → Option Addr → Hp → Prop} (l : Le W W') (h : ExC K W G X R) : ExC K W' G X R := fun W2 C d fs ds H' ms' l' => h W2 C d fs ds H' ms' (l.trans l')
theorem RtC.le {Q : VK} (l : Le W W') (h : RtC K W G P Q) : RtC K W' G P Q := fun W2 v d H' ms' l' => h W2 v d H' ms' (l.trans l')
theorem RaC.le {P : List Dat → Ms → Prop} {Q : List V → Hp → Prop} (l : Le W W') (h : RaC K W G P Q) : RaC K W' G P Q := fun W2 v d H' ms' l' => h W2 v d H' ms' (l.trans l')
theorem TtC.le {P : Bool → Ms → Prop} {Q : Bool → Hp → Prop} (l : Le W W') (h : TtC K W G P Q) : TtC K W' G P Q := fun W2 v H' ms' l' => h W2 v H' ms' (l.trans l')
theorem NxC.le {P : Ev → Ms → Prop} {Q : St → Hp → Prop} (l : Le W W') (h : NxC K W G P Q) : NxC K W' G P Q := fun W2 σ' e' H' ms' l' => h W2 σ' e' H' ms' (l.trans l')
theorem XeC.le {X : XE} (l : Le W W') (h : XeC K W G X R) : XeC K W' G X R := fun W2 σ' e' C d fs ds H' ms' l' => h W2 σ' e' C d fs ds H' ms' (l.trans l')
theorem XeC.at {X : XE} (s : Slots K W σ e) (h : XeC K W G X R) : ExC K W G (fun C ds ms' => X C ds e ms') (fun c d H' => R c d σ H') := fun W2 C d fs ds H' ms' l g f r x => h W2 σ e C d fs ds H' ms' l g (s.mono l) f r x
theorem Fits.le {O : Out} {D : Ends} (l : Le W W') (h : Fits K W G R O D) : Fits K W' G R O D := ⟨h.nx.le l, h.rt.le l, h.bk.le l, h.ct.le l, h.ex.le l⟩
end DL
namespace DL
open PySem L2
section
variable {K : PySem.W.Frag} {R : WX} {e : Ev} {ms : Ms} {X : XP} {ta tb tc : TE} {tA tr : TA} {tt tu : TT} {P : Dat → Ms → Prop} {d x y : Dat} {i : Nat} {PB : Bool → Ms → Prop}
/-! ### values -/
theorem de_var (h : e[i]? = some (some d)) (q : P d ms) : DE K R (tVar i) e ms P X := fun W G σ H Q g s k _ => by
  obtain ⟨v, h1, r⟩ := s.2 i d h
  exact ⟨v, h1, k W v d H ms (Le.refl W) g r q⟩
theorem de_val {v : V} (r : ∀ W : Wd, Rep K W v d) (q : P d ms) : DE K R (tC v) e ms P X := fun W _ _ H _ g _ k _ => k W v d H ms (Le.refl W) g (r W) q
theorem de_int {z : Int} (q : P (.int z) ms) : DE K R (tC (.int z)) e ms P X := de_val (fun _ => .int z) q
theorem de_bl {b : Bool} (q : P (.bl b) ms) : DE K R (tC (.bl b)) e ms P X := de_val (fun _ => .bl b) q
theorem de_non (q : P .non ms) : DE K R (tC .non) e ms P X := de_val (fun _ => .non) q
theorem de_str {z : Str} (q : P (.str z) ms) : DE K R (tC (.str z)) e ms P X := de_val (fun _ => .str z) q
theorem de_ref {a : Addr} (q : P (.ref a) ms) : DE K R (tC (.ref a)) e ms P X := de_val (fun _ => .ref a) q
theorem de_ty {n : String} (q : P (.ty n) ms) : DE K R (tC (.ty n)) e ms P X := de_val (fun _ => .ty n) q
/-- weaken -/
theorem DE.mono {P' : Dat → Ms → Prop} {t : TE} (h : DE K R t e ms P X) (q : ∀ d m, P d m → P' d m) : DE K R t e ms P' X := fun W G σ H Q g s k x =>
  h W G σ H Q g s (fun W' v d H' ms' l g' r p => k W' v d H' ms' l g' r (q d ms' p)) x
/-- a two-place operation on values -/
def D2 (K : PySem.W.Frag) (r : R2) (x y : Dat) (ms : Ms) (P : Dat → Ms → Prop) : Prop :=
  ∀ (W : Wd) (G H : Hp) (v w : V) (Q : VK), Good K W G H ms → Rep K W v x → Rep K W w y → RtC K W G P Q → r v w H Q
def D1 (K : PySem.W.Frag) (r : V → Hp → VK → Prop) (x : Dat) (ms : Ms) (P : Dat → Ms → Prop) : Prop :=
  ∀ (W : Wd) (G H : Hp) (v : V) (Q : VK), Good K W G H ms → Rep K W v x → RtC K W G P Q → r v H Q
theorem de_op {r : R2} (h : DE K R ta e ms (fun x m => DE K R tb e m (fun y m' => D2 K r x y m' P) X) X) : DE K R (tOp r ta tb) e ms P X := fun W G σ H Q g s k x => by
  refine h W G σ H _ g s (fun W1 v d H1 m1 l1 g1 r1 h1 => ?_) x
  refine h1 W1 G σ H1 _ g1 (s.mono l1) (fun W2 w d' H2 m2 l2 g2 r2 h2 => ?_) (x.le l1)
  exact h2 W2 G H2 v w Q g2 (Rep.mono l2 _ _ r1) r2 (k.le (l1.trans l2))
theorem de_un {r : V → Hp → VK → Prop} (h : DE K R ta e ms (fun x m => D1 K r x m P) X) : DE K R (tUn r ta) e ms P X := fun W G σ H Q g s k x =>
  h W G σ H _ g s (fun W1 v d H1 m1 l1 g1 r1 h1 => h1 W1 G H1 v Q g1 r1 (k.le l1)) x
/-! ### arguments, displays -/
theorem da_nil {P : List Dat → Ms → Prop} (q : P [] ms) : DA K R tNil e ms P X := fun W _ _ H _ g _ k _ => k W [] [] H ms (Le.refl W) g .nil q
theorem da_cons {P : List Dat → Ms → Prop} (h : DE K R ta e ms (fun x m => DA K R tr e m (fun ys m' => P (x :: ys) m') X) X) : DA K R (tCons ta tr) e ms P X := fun W G σ H Q g s k x => by
  refine h W G σ H _ g s (fun W1 v d H1 m1 l1 g1 r1 h1 => ?_) x
  refine h1 W1 G σ H1 _ g1 (s.mono l1) (fun W2 w d' H2 m2 l2 g2 r2 h2 => ?_) (x.le l1)
  exact k W2 _ _ H2 m2 (l1.trans l2) g2 (.cons (Rep.mono l2 _ _ r1) r2) h2
theorem RepL.length {W : Wd} : ∀ {vs : List V} {ds : List Dat}, RepL K W vs ds → vs.length = ds.length
  | _, [], h => by cases h; rfl
  | _, d :: ds, h => by cases h with | cons a b => simp [RepL.length b]
theorem size_of {n : Nat} (h : n ≤ 1000000) : n ≤ sizeLine := Nat.le_trans h (by decide)
theorem de_tup (h : DA K R tA e ms (fun ds m => ds.length ≤ 1000000 ∧ P (.tup ds) m) X) : DE K R (tTup tA) e ms P X := fun W G σ H Q g s k x => by
  refine h W G σ H _ g s (fun W1 vs ds H1 m1 l1 g1 r1 h1 => ⟨by rw [r1.length]; exact size_of h1.1, fun p hp => ?_⟩) x
  obtain ⟨g2, l2⟩ := g1.laid (o := .tup vs) hp
  exact k _ _ _ _ _ (l1.trans l2) g2 (.tup (.inl (.inl upd_same)) (RepL.mono l2 _ _ r1)) h1.2
theorem de_lst (h : DA K R tA e ms (fun ds m => ds.length ≤ 1000000 ∧ P (.lst ds) m) X) : DE K R (tLst tA) e ms P X := fun W G σ H Q g s k x => by
  refine h W G σ H _ g s (fun W1 vs ds H1 m1 l1 g1 r1 h1 => ⟨by rw [r1.length]; exact size_of h1.1, fun p hp => ?_⟩) x
  obtain ⟨g2, l2⟩ := g1.laid (o := .lst vs) hp
  exact k _ _ _ _ _ (l1.trans l2) g2 (.lst upd_same (RepL.mono l2 _ _ r1)) h1.2
/-- .. a list that will change -/
theorem de_lstC (h : DA K R tA e ms (fun ds m => ds.length ≤ 1000000 ∧ P (.cell m.length) (m ++ [.lst ds])) X) : DE K R (tLst tA) e ms P X := fun W G σ H Q g s k x => by
  refine h W G σ H _ g s (fun W1 vs ds H1 m1 l1 g1 r1 h1 => ⟨by rw [r1.length]; exact size_of h1.1, fun p hp => ?_⟩) x
  have l2 : Le W1 ⟨W1.ι ++ [p], W1.F⟩ := ⟨List.prefix_append _ _, Same.refl _⟩
  obtain ⟨g2, _⟩ := g1.newC (p := p) (o := .lst vs) hp (m := .lst ds) ⟨vs, upd_same, RepL.mono l2 _ _ r1⟩
  exact k _ _ _ _ _ (l1.trans l2) g2 (.cell (by show (W1.ι ++ [p])[m1.length]? = some p; rw [← g1.ln]; simp)) h1.2
/-! ### tests -/
theorem dt_test (h : DE K R ta e ms (fun d m => ∃ b, d = .bl b ∧ PB b m) X) : DT K R (tTest ta) e ms PB X := fun W G σ H Q g s k x =>
  h W G σ H _ g s (fun W1 v d H1 m1 l1 g1 r1 ⟨b, hb, p⟩ => by
    subst hb; cases r1
    exact ⟨b, rfl, k W1 b H1 m1 l1 g1 p⟩) x
theorem dt_B (h : DE K R ta e ms (fun d m => ∃ b, d = .bl b ∧ PB b m) X) : DT K R (tB ta) e ms PB X := fun W G σ H Q g s k x =>
  h W G σ H _ g s (fun W1 v d H1 m1 l1 g1 r1 ⟨b, hb, p⟩ => by
    subst hb; cases r1
    exact ⟨b, rfl, k W1 b H1 m1 l1 g1 p⟩) x

theorem dt_and (h : DT K R tt e ms (fun c m => (c = true → DT K R tu e m PB X) ∧ (c = false → PB false m)) X) : DT K R (tAnd tt tu) e ms PB X := fun W G σ H Q g s k x =>
  h W G σ H _ g s (fun W1 c H1 m1 l1 g1 ⟨a, b⟩ => by
    cases c with
    | true => exact a rfl W1 G σ H1 Q g1 (s.mono l1) (k.le l1) (x.le l1)
    | false => exact k W1 false H1 m1 l1 g1 (b rfl)) x
theorem dt_or (h : DT K R tt e ms (fun c m => (c = true → PB true m) ∧ (c = false → DT K R tu e m PB X)) X) : DT K R (tOr tt tu) e ms PB X := fun W G σ H Q g s k x =>
  h W G σ H _ g s (fun W1 c H1 m1 l1 g1 ⟨a, b⟩ => by
    cases c with
    | false => exact b rfl W1 G σ H1 Q g1 (s.mono l1) (k.le l1) (x.le l1)
    | true => exact k W1 true H1 m1 l1 g1 (a rfl)) x
theorem dt_not (h : DT K R tt e ms (fun c m => PB (!c) m) X) : DT K R (tNot tt) e ms PB X := fun W G σ H Q g s k x =>
  h W G σ H _ g s (fun W1 c H1 m1 l1 g1 p => k W1 (!c) H1 m1 l1 g1 p) x
theorem dt_yes (q : PB true ms) : DT K R tYes e ms PB X := fun W _ _ H _ g _ k _ => k W true H ms (Le.refl W) g q
theorem de_andV (h : DE K R ta e ms (fun d m => ∃ c, d = .bl c ∧ (c = true → DE K R tb e m P X) ∧ (c = false → P (.bl false) m)) X) : DE K R (tAndV ta tb) e ms P X := fun W G σ H Q g s k x =>
  h W G σ H _ g s (fun W1 v d H1 m1 l1 g1 r1 ⟨c, hc, a, b⟩ => by
    subst hc; cases r1
    refine ⟨c, rfl, ?_⟩
    cases c with
    | true => exact a rfl W1 G σ H1 Q g1 (s.mono l1) (k.le l1) (x.le l1)
    | false => exact k W1 _ _ H1 m1 l1 g1 (.bl false) (b rfl)) x
theorem de_orV (h : DE K R ta e ms (fun d m => ∃ c, d = .bl c ∧ (c = true → P (.bl true) m) ∧ (c = false → DE K R tb e m P X)) X) : DE K R (tOrV ta tb) e ms P X := fun W G σ H Q g s k x =>
  h W G σ H _ g s (fun W1 v d H1 m1 l1 g1 r1 ⟨c, hc, a, b⟩ => by
    subst hc; cases r1
    refine ⟨c, rfl, ?_⟩
    cases c with
    | false => exact b rfl W1 G σ H1 Q g1 (s.mono l1) (k.le l1) (x.le l1)
    | true => exact k W1 _ _ H1 m1 l1 g1 (.bl true) (a rfl)) x
theorem de_notV (h : DE K R ta e ms (fun d m => ∃ c, d = .bl c ∧ P (.bl (!c)) m) X) : DE K R (tNotV ta) e ms P X := fun W G σ H Q g s k x =>
  h W G σ H _ g s (fun W1 v d H1 m1 l1 g1 r1 ⟨c, hc, a⟩ => by
    subst hc; cases r1
    exact ⟨c, rfl, k W1 _ _ H1 m1 l1 g1 (.bl _) a⟩) x
theorem de_if (h : DT K R tt e ms (fun c m => (c = true → DE K R ta e m P X) ∧ (c = false → DE K R tb e m P X)) X) : DE K R (tIf tt ta tb) e ms P X := fun W G σ H Q g s k x =>
  h W G σ H _ g s (fun W1 c H1 m1 l1 g1 ⟨a, b⟩ => by
    cases c with
    | true => exact a rfl W1 G σ H1 Q g1 (s.mono l1) (k.le l1) (x.le l1)
    | false => exact b rfl W1 G σ H1 Q g1 (s.mono l1) (k.le l1) (x.le l1)) x
/-- a < b < c -/
theorem de_chain {r r' : R2} (h : DE K R ta e ms (fun x m => DE K R tb e m (fun y m1 => D2 K r x y m1 (fun z m2 => ∃ c, z = .bl c ∧ (c = true → DE K R tc e m2 (fun w m3 => D2 K r' y w m3 P) X) ∧ (c = false → P (.bl false) m2))) X) X) :
    DE K R (tChain r r' ta tb tc) e ms P X := fun W G σ H Q g s k x => by
  refine h W G σ H _ g s (fun W1 v d H1 m1 l1 g1 r1 h1 => ?_) x
  refine h1 W1 G σ H1 _ g1 (s.mono l1) (fun W2 w d' H2 m2 l2 g2 r2 h2 => ?_) (x.le l1)
  refine h2 W2 G H2 v w _ g2 (Rep.mono l2 _ _ r1) r2 (fun W3 z dz H3 m3 l3 g3 r3 ⟨c, hc, a, b⟩ => ?_)
  subst hc; cases r3
  refine ⟨c, rfl, ?_⟩
  cases c with
  | true =>
    refine a rfl W3 G σ H3 _ g3 (s.mono (l1.trans (l2.trans l3))) (fun W4 u du H4 m4 l4 g4 r4 h4 => ?_) (x.le (l1.trans (l2.trans l3)))
    exact h4 W4 G H4 w u Q g4 (Rep.mono (l3.trans l4) _ _ r2) r4 (k.le (l1.trans (l2.trans (l3.trans l4))))
  | false => exact k W3 _ _ H3 m3 (l1.trans (l2.trans l3)) g3 (.bl false) (b rfl)
/-! ### calls of built-ins, methods -/
theorem de_cb {r : List V → Hp → VK → Prop} (h : DA K R tA e ms (fun ds m => DR K r ds m P) X) : DE K R (tCB r tA) e ms P X := fun W G σ H Q g s k x =>
  h W G σ H _ g s (fun W1 vs ds H1 m1 l1 g1 r1 h1 => h1 W1 G H1 vs Q g1 r1 (k.le l1)) x
/-- the receiver's type, by the datum -/
def TyD (K : PySem.W.Frag) (T : String) (x : Dat) (ms : Ms) : Prop := ∀ (W : Wd) (G H : Hp) (v : V), Good K W G H ms → Rep K W v x → tyV K T v H
theorem de_bm {T : String} {r : V → List V → Hp → VK → Prop} (h : DE K R ta e ms (fun x m => TyD K T x m ∧ DA K R tA e m (fun ys m' => DR K (fun vs => match vs with | v :: ws => r v ws | [] => fun _ _ => False) (x :: ys) m' P) X) X) : DE K R (tBM K T r ta tA) e ms P X := fun W G σ H Q g s k x => by
  refine h W G σ H _ g s (fun W1 v d H1 m1 l1 g1 r1 ⟨ht, h1⟩ => ⟨ht W1 G H1 v g1 r1, ?_⟩) x
  refine h1 W1 G σ H1 _ g1 (s.mono l1) (fun W2 ws ds H2 m2 l2 g2 r2 h2 => ?_) (x.le l1)
  exact h2 W2 G H2 (v :: ws) Q g2 (.cons (Rep.mono l2 _ _ r1) r2) (k.le (l1.trans l2))
theorem de_bm0 {T : String} {r : V → List V → Hp → VK → Prop} (h : DE K R ta e ms (fun x m => TyD K T x m ∧ DR K (fun vs => match vs with | v :: ws => r v ws | [] => fun _ _ => False) [x] m P) X) : DE K R (tBM0 K T r ta) e ms P X := fun W G σ H Q g s k x => by
  refine h W G σ H _ g s (fun W1 v d H1 m1 l1 g1 r1 ⟨ht, h1⟩ => ⟨ht W1 G H1 v g1 r1, ?_⟩) x
  exact h1 W1 G H1 [v] Q g1 (.cons r1 .nil) (k.le l1)
theorem tyD_str {z : Str} : TyD K "str" (.str z) ms := fun W G H v g r => by cases r; rfl
end
end DL
namespace DL
open PySem L2
section
variable {K : PySem.W.Frag} {R : WX} {e : Ev} {ms : Ms} {O : Out} {ta tb tc : TE} {tA tr : TA} {tt tu : TT} {t u : TS} {g : TG} {d x y : Dat} {i : Nat}
/-- what an expression lets out of a statement -/
abbrev Out.xp (O : Out) (e : Ev) : XP := fun C ds ms' => O.ex C ds e ms'
theorem ds_next (q : O.nx e ms) : DS K R tNext e ms O := fun W G σ H D g s f => f.nx W σ e H ms (Le.refl W) g s q
theorem ds_break (q : O.bk e ms) : DS K R tBreak e ms O := fun W G σ H D g s f => f.bk W σ e H ms (Le.refl W) g s q
theorem ds_cont (q : O.ct e ms) : DS K R tCont e ms O := fun W G σ H D g s f => f.ct W σ e H ms (Le.refl W) g s q
theorem ds_seq (h : DS K R t e ms { O with nx := fun e' ms' => DS K R u e' ms' O }) : DS K R (tSeq t u) e ms O := fun W G σ H D g s f =>
  h W G σ H _ g s ⟨fun W1 σ1 e1 H1 m1 l1 g1 s1 q => q W1 G σ1 H1 D g1 s1 (f.le l1), f.rt, f.bk, f.ct, f.ex⟩
theorem ds_drop (h : DE K R ta e ms (fun _ m => O.nx e m) (O.xp e)) : DS K R (tDrop ta) e ms O := fun W G σ H D g s f =>
  h W G σ H _ g s (fun W1 v d H1 m1 l1 g1 r1 q => f.nx W1 σ e H1 m1 l1 g1 (s.mono l1) q) (f.ex.at s)
theorem ds_ret (h : DE K R ta e ms O.rt (O.xp e)) : DS K R (tRet ta) e ms O := fun W G σ H D g s f => h W G σ H _ g s f.rt (f.ex.at s)
theorem ds_retN (q : O.rt .non ms) : DS K R tRetN e ms O := fun W G σ H D g s f => f.rt W .non .non H ms (Le.refl W) g .non q
theorem ds_if (h : DT K R tt e ms (fun c m => (c = true → DS K R t e m O) ∧ (c = false → DS K R u e m O)) (O.xp e)) : DS K R (tIfS tt t u) e ms O := fun W G σ H D g s f =>
  h W G σ H _ g s (fun W1 c H1 m1 l1 g1 ⟨a, b⟩ => by
    cases c with
    | true => exact a rfl W1 G σ H1 D g1 (s.mono l1) (f.le l1)
    | false => exact b rfl W1 G σ H1 D g1 (s.mono l1) (f.le l1)) (f.ex.at s)
/-! ### targets -/
theorem dg_name {vs : List Nat} {P : Ev → Ms → Prop} (hi : i ∈ vs) (q : P (e.set i (some d)) ms) : DG K (gName i) d e ms vs P := fun W G σ H v Q g s r k =>
  k W _ _ H ms (Le.refl W) g (s.set r i) ⟨List.length_set, fun j hj => List.getElem?_set_ne (show i ≠ j from fun z => hj (by rw [← z]; exact hi))⟩ q
/-- several -/
def DGs (K : PySem.W.Frag) (g : TGs) (ds : List Dat) (e : Ev) (ms : Ms) (vs : List Nat) (P : Ev → Ms → Prop) : Prop :=
  ∀ (W : Wd) (G : Hp) (σ : St) (H : Hp) (ws : List V) (Q : St → Hp → Prop), Good K W G H ms → Slots K W σ e → RepL K W ws ds →
    (∀ (W' : Wd) (σ' : St) (e' : Ev) (H' : Hp) (ms' : Ms), Le W W' → Good K W' G H' ms' → Slots K W' σ' e' → (σ'.length = σ.length ∧ ∀ i, i ∉ vs → σ'[i]? = σ[i]?) → P e' ms' → Q σ' H') → g ws σ H Q
theorem dgs_nil {vs : List Nat} {P : Ev → Ms → Prop} (q : P e ms) : DGs K gNil [] e ms vs P := fun W G σ H ws Q g s r k => by
  cases r
  exact ⟨rfl, k W σ e H ms (Le.refl W) g s ⟨rfl, fun _ _ => rfl⟩ q⟩
theorem dgs_cons {u : TGs} {ds : List Dat} {vs : List Nat} {P : Ev → Ms → Prop} (h : DG K g d e ms vs (fun e' m' => DGs K u ds e' m' vs P)) : DGs K (gCons g u) (d :: ds) e ms vs P := fun W G σ H ws Q gd s r k => by
  cases r with
  | cons r1 r2 =>
    refine ⟨_, _, rfl, h W G σ H _ _ gd s r1 fun W1 σ1 e1 H1 m1 l1 g1 s1 o1 h1 => ?_⟩
    exact h1 W1 G σ1 H1 _ Q g1 s1 (RepL.mono l1 _ _ r2) fun W2 σ2 e2 H2 m2 l2 g2 s2 o2 h2 => k W2 σ2 e2 H2 m2 (l1.trans l2) g2 s2 ⟨o2.1.trans o1.1, fun j hj => (o2.2 j hj).trans (o1.2 j hj)⟩ h2
theorem dg_tup {u : TGs} {n : Nat} {ds : List Dat} {vs : List Nat} {P : Ev → Ms → Prop} (hn : ds.length = n) (h : DGs K u ds e ms vs P) : DG K (gTup K n u) (.tup ds) e ms vs P := fun W G σ H v Q g s r k => by
  cases r with
  | tup hq rl => exact ⟨_, _, rfl, Same.tup g.fz hq, rl.length.trans hn, h W G σ H _ Q g s rl k⟩
theorem ds_asg {vs : List Nat} (h : DE K R ta e ms (fun d m => DG K g d e m vs O.nx) (O.xp e)) : DS K R (tAsg ta g) e ms O := fun W G σ H D gd s f =>
  h W G σ H _ gd s (fun W1 v d H1 m1 l1 g1 r1 q => q W1 G σ H1 v _ g1 (s.mono l1) r1 fun W2 σ2 e2 H2 m2 l2 g2 s2 _ p => f.nx W2 σ2 e2 H2 m2 (l1.trans l2) g2 s2 p) (f.ex.at s)
theorem ds_set (h : DE K R ta e ms (fun d m => O.nx (e.set i (some d)) m) (O.xp e)) : DS K R (tAsg ta (gName i)) e ms O :=
  ds_asg (vs := [i]) (h.mono fun d m q => dg_name (List.mem_singleton.mpr rfl) q)
theorem ds_par {j : Nat} (h : DA K R tA e ms (fun ds m => ∃ a b, ds = [a, b] ∧ O.nx ((e.set i (some a)).set j (some b)) m) (O.xp e)) : DS K R (tPar i j tA) e ms O := fun W G σ H D g s f =>
  h W G σ H _ g s (fun W1 vs ds H1 m1 l1 g1 r1 ⟨a, b, he, q⟩ => by
    subst he
    cases r1 with
    | cons ra r2 => cases r2 with
      | cons rb r3 =>
        cases r3
        exact ⟨_, _, rfl, f.nx W1 _ _ H1 m1 l1 g1 (((s.mono l1).set ra i).set rb j) q⟩) (f.ex.at s)
theorem ds_par3 {j l : Nat} (h : DA K R tA e ms (fun ds m => ∃ a b c, ds = [a, b, c] ∧ O.nx (((e.set i (some a)).set j (some b)).set l (some c)) m) (O.xp e)) : DS K R (tPar3 i j l tA) e ms O := fun W G σ H D g s f =>
  h W G σ H _ g s (fun W1 vs ds H1 m1 l1 g1 r1 ⟨a, b, c, he, q⟩ => by
    subst he
    cases r1 with
    | cons ra r2 => cases r2 with
      | cons rb r3 => cases r3 with
        | cons rc r4 =>
          cases r4
          exact ⟨_, _, _, rfl, f.nx W1 _ _ H1 m1 l1 g1 ((((s.mono l1).set ra i).set rb j).set rc l) q⟩) (f.ex.at s)
/-! ### what is walked -/
/-- the items of a walk: the iterator's turns tell them, whatever else changes -/
def Walk (K : PySem.W.Frag) (W : Wd) (J : It) (n : Nat) (it : Nat → Dat) : Prop :=
  ∀ (W' : Wd) (G H : Hp) (ms : Ms), Le W W' → Good K W' G H ms →
    (∀ i, n ≤ i → J.stop i H) ∧ (∀ i, i < n → J.go i H) ∧
    ∀ i x H', i < n → J.yld i H x H' → ∃ W2, Le W' W2 ∧ Good K W2 G H' ms ∧ Rep K W2 x (it i)
def DI (K : PySem.W.Frag) (R : WX) (wi : TI) (e : Ev) (ms : Ms) (P : Nat → (Nat → Dat) → Ms → Prop) (X : XP) : Prop :=
  ∀ (W : Wd) (G : Hp) (σ : St) (H : Hp) (Q : It → Hp → Prop), Good K W G H ms → Slots K W σ e →
    (∀ (W' : Wd) (J : It) (n : Nat) (it : Nat → Dat) (H' : Hp) (ms' : Ms), Le W W' → Good K W' G H' ms' → Walk K W' J n it → P n it ms' → Q J H') → ExC K W G X (fun c d H' => R c d σ H') → wi σ H Q

variable {wi : TI} {tt1 : TT} {te : TE} {X : XP} {P : Dat → Ms → Prop}
theorem DI.mono {P P' : Nat → (Nat → Dat) → Ms → Prop} (h : DI K R wi e ms P X) (q : ∀ n it m, P n it m → P' n it m) : DI K R wi e ms P' X := fun W G σ H Q g s k x =>
  h W G σ H Q g s (fun W' J n it H' m' l g' w p => k W' J n it H' m' l g' w (q n it m' p)) x
/-- for target in walked: body -/
theorem ds_for {vs : List Nat} (h : DI K R wi e ms (fun n it m => ∃ J : Nat → Ev → Ms → Prop, J 0 e m ∧
      (∀ i e' m', i < n → J i e' m' → DG K g (it i) e' m' vs (fun e2 m2 => DS K R t e2 m2 { O with nx := J (i + 1), ct := J (i + 1), bk := O.nx })) ∧ ∀ e' m', J n e' m' → O.nx e' m') (O.xp e)) : DS K R (tFor wi g t) e ms O := fun W G σ H D gd s f => by
  refine h W G σ H _ gd s (fun W1 J n it H1 m1 l1 g1 wk ⟨Jv, j0, step, fin⟩ => ?_) (f.ex.at s)
  refine ⟨fun i m σ' H' => m = n - i ∧ i ≤ n ∧ ∃ W2 e2 m2, Le W1 W2 ∧ Good K W2 G H' m2 ∧ Slots K W2 σ' e2 ∧ Jv i e2 m2, ⟨n, rfl, Nat.zero_le _, W1, e, m1, Le.refl _, g1, s.mono l1, j0⟩, ?_⟩
  rintro i m σ' H' ⟨rfl, hi, W2, e2, m2, l2, g2, s2, j2⟩
  obtain ⟨k1, k2, k3⟩ := wk W2 G H' m2 l2 g2
  by_cases hlt : i < n
  · refine .inr ⟨k2 i hlt, fun σ'' H'' => i + 1 ≤ n ∧ ∃ W3 e3 m3, Le W1 W3 ∧ Good K W3 G H'' m3 ∧ Slots K W3 σ'' e3 ∧ Jv (i + 1) e3 m3, fun σ'' H'' hh => ⟨n - (i + 1), by omega, rfl, hh⟩, fun x H3 hy => ?_⟩
    obtain ⟨W3, l3, g3, r3⟩ := k3 i x H3 hlt hy
    refine step i e2 m2 hlt j2 W3 G σ' H3 x _ g3 (s2.mono l3) r3 fun W4 σ4 e4 H4 m4 l4 g4 s4 _ p4 => ?_
    have lw : Le W1 W4 := l2.trans (l3.trans l4)
    have nxt : NxC K W4 G (Jv (i + 1)) (fun σ'' H'' => i + 1 ≤ n ∧ ∃ W3 e3 m3, Le W1 W3 ∧ Good K W3 G H'' m3 ∧ Slots K W3 σ'' e3 ∧ Jv (i + 1) e3 m3) := fun W5 σ5 e5 H5 m5 l5 g5 s5 q => ⟨hlt, W5, e5, m5, lw.trans l5, g5, s5, q⟩
    have f4 := f.le (l1.trans lw)
    exact p4 W4 G σ4 H4 _ g4 s4 ⟨nxt, f4.rt, f4.nx, nxt, f4.ex⟩
  · have e : i = n := by omega
    subst e
    exact .inl ⟨k1 i (Nat.le_refl _), f.nx W2 σ' e2 H' m2 (l1.trans l2) g2 s2 (fin e2 m2 j2)⟩
/-! ### comprehensions -/
def wipeE (e : Ev) : List Nat → Ev
  | [] => e
  | v :: vs => (wipeE e vs).set v none
theorem Slots.wipe {W : Wd} {σ : St} (s : Slots K W σ e) : ∀ vs : List Nat, Slots K W (wipe σ vs) (wipeE e vs)
  | [] => s
  | v :: vs => by
    have ih := Slots.wipe s vs
    refine ⟨by show ((L2.wipe σ vs).set v none).length = ((wipeE e vs).set v none).length; rw [List.length_set, List.length_set]; exact ih.1, fun j d h => ?_⟩
    have h' : ((wipeE e vs).set v none)[j]? = some (some d) := h
    by_cases hj : v = j
    · subst hj
      by_cases hl : v < (wipeE e vs).length
      · rw [List.getElem?_set_self hl] at h'; cases h'
      · rw [List.getElem?_eq_none (by rw [List.length_set]; omega)] at h'; cases h'
    · rw [List.getElem?_set_ne hj] at h'
      obtain ⟨w, h1, h2⟩ := ih.2 j d h'
      exact ⟨w, by show ((L2.wipe σ vs).set v none)[j]? = _; rw [List.getElem?_set_ne hj]; exact h1, h2⟩
theorem wipe_in {σ : St} : ∀ {vs : List Nat} {j : Nat}, j ∈ vs → j < σ.length → (wipe σ vs)[j]? = some none
  | v :: vs, j, h, hl => by
    unfold L2.wipe
    by_cases hj : v = j
    · subst hj
      exact List.getElem?_set_self (by rw [wipe_length]; exact hl)
    · rw [List.getElem?_set_ne hj]
      exact wipe_in (by rcases List.mem_cons.mp h with z | z; exact absurd z.symm hj; exact z) hl
theorem wipe_no {σ : St} : ∀ {vs : List Nat} {j : Nat}, j ∉ vs → (wipe σ vs)[j]? = σ[j]?
  | [], _, _ => rfl
  | v :: vs, j, h => by
    unfold L2.wipe
    rw [List.getElem?_set_ne (fun z => h (by rw [z]; exact List.mem_cons_self))]
    exact wipe_no fun z => h (List.mem_cons_of_mem _ z)
theorem wipe_same {σ σ' : St} {vs : List Nat} (hl : σ'.length = σ.length) (h : ∀ i, i ∉ vs → σ'[i]? = (wipe σ vs)[i]?) : wipe σ' vs = wipe σ vs := by
  refine List.ext_getElem? fun j => ?_
  by_cases hj : j ∈ vs
  · by_cases hb : j < σ.length
    · rw [wipe_in hj (by rw [hl]; exact hb), wipe_in hj hb]
    · rw [List.getElem?_eq_none (by rw [wipe_length]; omega), List.getElem?_eq_none (by rw [wipe_length]; omega)]
  · rw [wipe_no hj, h j hj]
theorem RepL.append {W : Wd} : ∀ {xs : List V} {ds : List Dat}, RepL K W xs ds → ∀ {y : V} {d : Dat}, Rep K W y d → RepL K W (xs ++ [y]) (ds ++ [d])
  | _, [], h, y, d, r => by cases h; exact .cons r .nil
  | _, d0 :: ds, h, y, d, r => by cases h with | cons a b => exact .cons a (RepL.append b r)
/-- the words of a comprehension: J of the turn and what is made so far -/
def LcW (K : PySem.W.Frag) (R : WX) (g : TG) (tt : TT) (te : TE) (vs : List Nat) (e : Ev) (n : Nat) (it : Nat → Dat) (m : Ms) (Fin : List Dat → Ms → Prop) : Prop :=
  n ≤ 1000000 ∧ ∃ J : Nat → List Dat → Ms → Prop, J 0 [] m ∧
    (∀ i acc m', i < n → acc.length ≤ i → J i acc m' → DG K g (it i) (wipeE e vs) m' vs (fun e2 m2 => DT K R tt e2 m2 (fun b m3 => (b = true → DE K R te e2 m3 (fun y m4 => J (i + 1) (acc ++ [y]) m4) (fun _ _ _ => False)) ∧ (b = false → J (i + 1) acc m3)) (fun _ _ _ => False))) ∧
    ∀ acc m', acc.length ≤ n → J n acc m' → Fin acc m'
theorem lc_run {vs : List Nat} {Fin : List Dat → Ms → Prop} (h : DI K R wi e ms (fun n it m => LcW K R g tt te vs e n it m Fin) X) {W : Wd} {G : Hp} {σ : St} {H : Hp} {Q : VK} (gd : Good K W G H ms) (s : Slots K W σ e)
    (k : ∀ (W' : Wd) (D : Addr) (ys : List V) (acc : List Dat) (H' : Hp) (m' : Ms), Le W W' → Good K W' (upd G D (.lst ys)) H' m' → G D = none → RepL K W' ys acc → Fin acc m' → Q (.ref D) H') (x : ExC K W G X (fun c d H' => R c d σ H')) : tLc wi g tt te vs σ H Q := by
  refine h W G σ H _ gd s (fun W1 J n it H1 m1 l1 g1 wk ⟨hn, Jv, j0, step, fin⟩ D hD => ?_) x
  have gD : G D = none := g1.gd.free hD
  refine ⟨fun i m H' => m = n - i ∧ i ≤ n ∧ ∃ W2 ys acc m2, Le W1 W2 ∧ Good K W2 (upd G D (.lst ys)) H' m2 ∧ RepL K W2 ys acc ∧ acc.length ≤ i ∧ Jv i acc m2, ⟨n, rfl, Nat.zero_le _, W1, [], [], m1, Le.refl _, g1.hold hD, .nil, Nat.zero_le _, j0⟩, ?_⟩
  rintro i m H' ⟨rfl, hi, W2, ys, acc, m2, l2, g2, r2, ha, j2⟩
  obtain ⟨k1, k2, k3⟩ := wk W2 (upd G D (.lst ys)) H' m2 l2 g2
  by_cases hlt : i < n
  · refine .inr ⟨k2 i hlt, fun H'' => i + 1 ≤ n ∧ ∃ W3 ys acc m3, Le W1 W3 ∧ Good K W3 (upd G D (.lst ys)) H'' m3 ∧ RepL K W3 ys acc ∧ acc.length ≤ i + 1 ∧ Jv (i + 1) acc m3, fun H'' hh => ⟨n - (i + 1), by omega, rfl, hh⟩, fun v H3 hy => ?_⟩
    obtain ⟨W3, l3, g3, r3⟩ := k3 i v H3 hlt hy
    have sw := ((s.mono (l1.trans l2)).mono l3).wipe vs
    refine step i acc m2 hlt ha j2 W3 _ (wipe σ vs) H3 v _ g3 sw r3 fun W4 σ4 e4 H4 m4 l4 g4 s4 o4 p4 => ⟨?_, ?_⟩
    · exact wipe_same (o4.1.trans (wipe_length σ vs)) o4.2
    · refine p4 W4 _ σ4 H4 _ g4 s4 (fun W5 b H5 m5 l5 g5 ⟨pb1, pb2⟩ => ?_) (fun _ _ _ _ _ _ _ _ _ _ _ z => z.elim)
      cases b with
      | true =>
        refine pb1 rfl W5 _ σ4 H5 _ g5 (s4.mono l5) (fun W6 y d H6 m6 l6 g6 r6 q6 => ?_) (fun _ _ _ _ _ _ _ _ _ _ _ z => z.elim)
        have lw : Le W2 W6 := l3.trans (l4.trans (l5.trans l6))
        refine ⟨ys, g6.gd D _ upd_same, ?_, ?_⟩
        · rw [r2.length]
          exact Nat.lt_of_lt_of_le (show acc.length < 1000001 by omega) (by decide)
        · have g7 := g6.held (.lst (ys ++ [y]))
          exact ⟨hlt, W6, ys ++ [y], acc ++ [d], m6, l2.trans lw, g7, RepL.append (RepL.mono lw _ _ r2) r6, by rw [List.length_append, List.length_singleton]; omega, q6⟩
      | false => exact ⟨hlt, W5, ys, acc, m5, l2.trans (l3.trans (l4.trans l5)), g5, RepL.mono (l3.trans (l4.trans l5)) _ _ r2, by omega, pb2 rfl⟩
  · have e : i = n := by omega
    subst e
    exact .inl ⟨k1 i (Nat.le_refl _), k W2 D ys acc H' m2 (l1.trans l2) g2 gD r2 (fin acc m2 ha j2)⟩
end
end DL
namespace DL
open PySem L2
section
variable {K : PySem.W.Frag} {R : WX} {e : Ev} {ms : Ms} {O : Out} {ta tb tc : TE} {tA tr : TA} {tt tu : TT} {t u : TS} {g : TG} {d x y : Dat} {i : Nat} {wi : TI} {te : TE} {X : XP} {P : Dat → Ms → Prop}
/-- a comprehension: its list a datum -/
theorem de_lc {vs : List Nat} (h : DI K R wi e ms (fun n it m => LcW K R g tt te vs e n it m (fun acc m' => P (.lst acc) m')) X) : DE K R (tLc wi g tt te vs) e ms P X := fun W G σ H Q gd s k x =>
  lc_run h gd s (fun W' D ys acc H' m' l g' n r p => by
    obtain ⟨g2, l2⟩ := g'.frozen n
    exact k _ _ _ _ _ (l.trans l2) g2 (.lst upd_same (RepL.mono l2 _ _ r)) p) x
theorem Good.toC {W : Wd} {G H : Hp} {p : Addr} {xs : List V} {ds : List Dat} (g : Good K W (upd G p (.lst xs)) H ms) (n : G p = none) (r : RepL K W xs ds) : Good K ⟨W.ι ++ [p], W.F⟩ G H (ms ++ [.lst ds]) ∧ Le W ⟨W.ι ++ [p], W.F⟩ := by
  have nf : W.F p = none := g.gF p _ upd_same
  have np : p ∉ W.ι := fun h => by
    have := g.nG p h
    rw [upd_same] at this; cases this
  have l : Le W ⟨W.ι ++ [p], W.F⟩ := ⟨List.prefix_append _ _, Same.refl _⟩
  refine ⟨⟨g.fz, (same_new n).trans g.gd, by simp [g.ln], ?_, fun a h => ?_, fun a h => ?_, fun a v e => g.gF a v (by rw [upd_ne (ne_of_none e n)]; exact e), fun k a m' h1 h2 => ?_⟩, l⟩
  · show (W.ι ++ [p]).Nodup
    refine List.nodup_append.mpr ⟨g.nd, by simp, fun a ha b hb z => ?_⟩
    have : b = p := by simpa using hb
    subst this; subst z
    exact np ha
  · rcases List.mem_append.mp (show a ∈ W.ι ++ [p] from h) with h | h
    · exact g.nF a h
    · have : a = p := by simpa using h
      subst this
      exact nf
  · rcases List.mem_append.mp (show a ∈ W.ι ++ [p] from h) with h | h
    · have := g.nG a h
      rw [upd_ne (show a ≠ p from fun z => np (by rw [← z]; exact h))] at this
      exact this
    · have : a = p := by simpa using h
      subst this
      exact n
  · by_cases hk : k < W.ι.length
    · have h1' : W.ι[k]? = some a := by rw [← h1]; exact (List.getElem?_append_left hk).symm
      have h2' : ms[k]? = some m' := by rw [← h2]; exact (List.getElem?_append_left (by rw [← g.ln]; exact hk)).symm
      exact (g.cl k a m' h1' h2').mono l fun u e => e
    · have e1 : (W.ι ++ [p])[k]? = some a := h1
      rw [List.getElem?_append_right (by omega)] at e1
      rw [List.getElem?_append_right (by rw [← g.ln]; omega), ← g.ln] at h2
      have hk0 : k - W.ι.length = 0 := by
        cases q : k - W.ι.length with
        | zero => rfl
        | succ j => rw [q] at e1; simp at e1
      rw [hk0] at e1 h2
      cases e1; cases h2
      exact ⟨xs, g.gd _ _ upd_same, RepL.mono l _ _ r⟩
/-- .. a list that will change -/
theorem de_lcC {vs : List Nat} (h : DI K R wi e ms (fun n it m => LcW K R g tt te vs e n it m (fun acc m' => P (.cell m'.length) (m' ++ [.lst acc]))) X) : DE K R (tLc wi g tt te vs) e ms P X := fun W G σ H Q gd s k x =>
  lc_run h gd s (fun W' D ys acc H' m' l g' n r p => by
    obtain ⟨g2, l2⟩ := g'.toC n r
    exact k _ _ _ _ _ (l.trans l2) g2 (.cell (by show (W'.ι ++ [D])[m'.length]? = some D; rw [← g'.ln]; simp)) p) x
/-- the plain case: each turn tells its own item, nothing changes -/
theorem lcw_map {vs : List Nat} {n : Nat} {it : Nat → Dat} {Fin : List Dat → Ms → Prop} (hn : n ≤ 1000000) (keep : Nat → Bool) (f : Nat → Dat)
    (h : ∀ i, i < n → DG K g (it i) (wipeE e vs) ms vs (fun e2 m2 => DT K R tt e2 m2 (fun b m3 => b = keep i ∧ m3 = ms ∧ (b = true → DE K R te e2 ms (fun y m4 => y = f i ∧ m4 = ms) (fun _ _ _ => False))) (fun _ _ _ => False)))
    (q : Fin (((List.range n).filter keep).map f) ms) : LcW K R g tt te vs e n it ms Fin := by
  refine ⟨hn, fun i acc m => m = ms ∧ acc = ((List.range i).filter keep).map f, ⟨rfl, rfl⟩, ?_, ?_⟩
  · rintro i acc m' hi _ ⟨rfl, rfl⟩ W G σ H v Q g s r k
    refine h i hi W G σ H v Q g s r fun W' σ' e' H' ms' l g' s' o p => k W' σ' e' H' ms' l g' s' o ?_
    intro W G σ H Q g s k x
    refine p W G σ H Q g s (fun W' b H' m3 l g' ⟨hb, hm, hd⟩ => k W' b H' m3 l g' ?_) x
    subst hm
    constructor
    · intro hbt
      refine (hd hbt).mono fun y m4 ⟨hy, hm4⟩ => ⟨hm4, ?_⟩
      subst hy
      rw [List.range_succ, List.filter_append, List.map_append, show List.filter keep [i] = [i] by simp [← hb, hbt]]
      rfl
    · intro hbf
      refine ⟨rfl, ?_⟩
      rw [List.range_succ, List.filter_append, show List.filter keep [i] = [] by simp [← hb, hbf], List.append_nil]
  · rintro acc m' _ ⟨rfl, rfl⟩
    exact q
theorem dt_true {P : Bool → Ms → Prop} (q : P true ms) : DT K R tYes e ms P X := dt_yes q
/-! ### walks -/
theorem RepL.get {W : Wd} : ∀ {vs : List V} {ds : List Dat}, RepL K W vs ds → ∀ (i : Nat) {v : V}, vs[i]? = some v → ∃ d, ds[i]? = some d ∧ Rep K W v d
  | _, [], h, i, v, e => by cases h; simp at e
  | _, d :: ds, h, 0, v, e => by cases h with | cons a b => cases e; exact ⟨d, rfl, a⟩
  | _, d :: ds, h, i + 1, v, e => by cases h with | cons a b => exact RepL.get b i (by simpa using e)
theorem RepL.getD {W : Wd} : ∀ {vs : List V} {ds : List Dat}, RepL K W vs ds → ∀ (i : Nat) {d : Dat}, ds[i]? = some d → ∃ v, vs[i]? = some v ∧ Rep K W v d
  | _, [], h, i, v, e => by simp at e
  | _, d :: ds, h, 0, v, e => by cases h with | cons a b => cases e; exact ⟨_, rfl, a⟩
  | _, d :: ds, h, i + 1, v, e => by cases h with | cons a b => exact RepL.getD b i (by simpa using e)
/-- the items of a list, by their places -/
def itL (xs : List Dat) (i : Nat) : Dat := xs.getD i .non
theorem itL_get {xs : List Dat} {i : Nat} {d : Dat} (h : xs[i]? = some d) : itL xs i = d := by unfold itL; rw [List.getD_eq_getElem?_getD, h]; rfl
theorem walk_list {W : Wd} {a : Addr} {vs : List V} {ds : List Dat} (hq : SqL K W.F a vs) (r : RepL K W vs ds) : Walk K W (Itl K a) ds.length (itL ds) := fun W' G H m l g => by
  have hq' : SqL K H a vs := (l.f.trans g.fz).seq hq
  refine ⟨fun i hi => ⟨vs, hq', by rw [r.length]; exact hi⟩, fun i hi => ?_, fun i x H' hi hy => ?_⟩
  · have hv : i < vs.length := by rw [r.length]; exact hi
    exact ⟨vs, vs[i], hq', List.getElem?_eq_getElem hv⟩
  · obtain ⟨e1, e2⟩ := hy
    subst e1
    obtain ⟨d, hd, rd⟩ := r.get i (e2 vs hq')
    rw [itL_get hd]
    exact ⟨W', Le.refl _, g, Rep.mono l _ _ rd⟩
theorem walk_tup {W : Wd} {a : Addr} {vs : List V} {ds : List Dat} (hq : SqT K W.F a vs) (r : RepL K W vs ds) : Walk K W (Itt K a) ds.length (itL ds) := fun W' G H m l g => by
  have hq' : SqT K H a vs := Same.tup (l.f.trans g.fz) hq
  refine ⟨fun i hi => ⟨vs, hq', by rw [r.length]; exact hi⟩, fun i hi => ?_, fun i x H' hi hy => ?_⟩
  · have hv : i < vs.length := by rw [r.length]; exact hi
    exact ⟨vs, vs[i], hq', List.getElem?_eq_getElem hv⟩
  · obtain ⟨e1, e2⟩ := hy
    subst e1
    obtain ⟨d, hd, rd⟩ := r.get i (e2 vs hq')
    rw [itL_get hd]
    exact ⟨W', Le.refl _, g, Rep.mono l _ _ rd⟩
/-- one sign of a text -/
def sign1 (c : Nat) : Str := ⟨#[c]⟩
def itS (z : Str) (i : Nat) : Dat := .str (sign1 (z.cps.toList.getD i 0))
theorem walk_str {W : Wd} (z : Str) : Walk K W (Its z) z.cps.toList.length (itS z) := fun W' G H m l g => by
  refine ⟨fun i hi => by show z.cps.size ≤ i; simpa using hi, fun i hi => by show i < z.cps.size; simpa using hi, fun i x H' hi hy => ?_⟩
  obtain ⟨e1, c, hc, e2⟩ := hy
  subst e1; subst e2
  refine ⟨W', Le.refl _, g, ?_⟩
  have e3 : itS z i = .str ⟨#[c]⟩ := by
    unfold itS sign1
    rw [List.getD_eq_getElem?_getD, Array.getElem?_toList, hc]
    rfl
  rw [e3]
  exact .str _
theorem walk_range {W : Wd} (lo : Int) (n : Nat) : Walk K W (Itr lo n) n (fun i => .int (lo + i)) := fun W' G H m l g => by
  refine ⟨fun i hi => hi, fun i hi => hi, fun i x H' hi hy => ?_⟩
  obtain ⟨e1, e2⟩ := hy
  subst e1; subst e2
  exact ⟨W', Le.refl _, g, .int _⟩
variable {PI : Nat → (Nat → Dat) → Ms → Prop}
theorem di_list (h : DE K R ta e ms (fun d m => ∃ xs, (d = .lst xs ∨ d = .rol xs) ∧ PI xs.length (itL xs) m) X) : DI K R (iList K ta) e ms PI X := fun W G σ H Q g s k x =>
  h W G σ H _ g s (fun W1 v d H1 m1 l1 g1 r1 ⟨xs, hd, p⟩ => by
    rcases hd with hd | hd
    · subst hd
      cases r1 with
      | lst e r => exact ⟨_, rfl, ⟨_, .inl (.inl (g1.fz _ _ e))⟩, k W1 _ _ _ H1 m1 l1 g1 (walk_list (.inl (.inl e)) r) p⟩
    · subst hd
      cases r1 with
      | rol e r => exact ⟨_, rfl, ⟨_, g1.fz.seq e⟩, k W1 _ _ _ H1 m1 l1 g1 (walk_list e r) p⟩) x
theorem di_tup (h : DE K R ta e ms (fun d m => ∃ xs, d = .tup xs ∧ PI xs.length (itL xs) m) X) : DI K R (iTup K ta) e ms PI X := fun W G σ H Q g s k x =>
  h W G σ H _ g s (fun W1 v d H1 m1 l1 g1 r1 ⟨xs, hd, p⟩ => by
    subst hd
    cases r1 with
    | tup e r => exact ⟨_, rfl, ⟨_, Same.tup g1.fz e⟩, k W1 _ _ _ H1 m1 l1 g1 (walk_tup e r) p⟩) x
theorem di_str (h : DE K R ta e ms (fun d m => ∃ z, d = .str z ∧ PI z.cps.toList.length (itS z) m) X) : DI K R (iStr ta) e ms PI X := fun W G σ H Q g s k x =>
  h W G σ H _ g s (fun W1 v d H1 m1 l1 g1 r1 ⟨z, hd, p⟩ => by
    subst hd
    cases r1
    exact ⟨z, rfl, k W1 _ _ _ H1 m1 l1 g1 (walk_str z) p⟩) x
theorem di_rng1 (h : DA K R tA e ms (fun ds m => ∃ j : Int, ds = [.int j] ∧ -(2 ^ 62) ≤ j ∧ j < 2 ^ 62 ∧ PI j.toNat (fun i => .int (0 + i)) m) X) : DI K R (iRng1 tA) e ms PI X := fun W G σ H Q g s k x =>
  h W G σ H _ g s (fun W1 v d H1 m1 l1 g1 r1 ⟨j, hd, b1, b2, p⟩ => by
    subst hd
    cases r1 with
    | cons a b =>
      cases b; cases a
      exact ⟨j, rfl, b1, b2, k W1 _ _ _ H1 m1 l1 g1 (walk_range 0 j.toNat) p⟩) x
theorem di_rng2 (h : DA K R tA e ms (fun ds m => ∃ i j : Int, ds = [.int i, .int j] ∧ (-(2 ^ 62) ≤ i ∧ i < 2 ^ 62 ∧ -(2 ^ 62) ≤ j ∧ j < 2 ^ 62) ∧ PI (j - i).toNat (fun k => .int (i + k)) m) X) : DI K R (iRng2 tA) e ms PI X := fun W G σ H Q g s k x =>
  h W G σ H _ g s (fun W1 v d H1 m1 l1 g1 r1 ⟨i, j, hd, b1, p⟩ => by
    subst hd
    cases r1 with
    | cons a b => cases b with
      | cons a' b' =>
        cases b'; cases a; cases a'
        exact ⟨i, j, rfl, b1, k W1 _ _ _ H1 m1 l1 g1 (walk_range i _) p⟩) x
/-! ### calls of the text's own defs: a promise over data -/
/-- what a def promises: from data and cells, what may be concluded of its answer (P), of what it raises (X) -/
abbrev Pm := List Dat → Ms → (Dat → Ms → Prop) → XP → Prop
def spD (K : PySem.W.Frag) (A : Pm) : Sp := fun vs H Q E => ∃ (W : Wd) (G : Hp) (ms : Ms) (ds : List Dat) (P : Dat → Ms → Prop) (X : XP), Good K W G H ms ∧ RepL K W vs ds ∧ A ds ms P X ∧ RtC K W G P Q ∧ ExC K W G X E
theorem de_call {A : Pm} (h : DA K R tA e ms (fun ds m => A ds m P X) X) : DE K R (tCallS (spD K A) (WE R) tA) e ms P X := fun W G σ H Q g s k x =>
  h W G σ H _ g s (fun W1 vs ds H1 m1 l1 g1 r1 a => ⟨W1, G, m1, ds, P, X, g1, r1, a, k.le l1, x.le l1⟩) x
/-- .. where nothing is let out -/
theorem de_call0 {A : Pm} (h : DA K R tA e ms (fun ds m => A ds m P (fun _ _ _ => False)) X) : DE K R (tCall (spD K A) [] E0 tA) e ms P X := fun W G σ H Q g s k x =>
  h W G σ H _ g s (fun W1 vs ds H1 m1 l1 g1 r1 a => ⟨W1, G, m1, ds, P, fun _ _ _ => False, g1, by rw [List.append_nil]; exact r1, a, k.le l1, fun _ _ _ _ _ _ _ _ _ _ _ z => z.elim⟩) x
/-! ### a def's body -/
mutual
/-- all cells of a datum are below n -/
inductive Bel (n : Nat) : Dat → Prop
  | non : Bel n .non
  | bl (b : Bool) : Bel n (.bl b)
  | int (i : Int) : Bel n (.int i)
  | str (x : Str) : Bel n (.str x)
  | ref (a : Addr) : Bel n (.ref a)
  | ty (x : String) : Bel n (.ty x)
  | cell {k : Nat} : k < n → Bel n (.cell k)
  | lst {ds : List Dat} : BelL n ds → Bel n (.lst ds)
  | tup {ds : List Dat} : BelL n ds → Bel n (.tup ds)
  | rol {ds : List Dat} : BelL n ds → Bel n (.rol ds)
  | dct {ds : List (Key × Dat)} : BelL n (ds.map (·.2)) → Bel n (.dct ds)
  | exc {C : Addr} {ds : List (Str × Dat)} : BelL n (ds.map (·.2)) → Bel n (.exc C ds)
  | hot {a dd C : Addr} {ds : List (Str × Dat)} : BelL n (ds.map (·.2)) → Bel n (.hot a dd C ds)
inductive BelL (n : Nat) : List Dat → Prop
  | nil : BelL n []
  | cons {d : Dat} {ds : List Dat} : Bel n d → BelL n ds → BelL n (d :: ds)
end
mutual
theorem Rep.bel {W : Wd} : ∀ (d : Dat) (v : V), Rep K W v d → Bel W.ι.length d
  | .non, _, h => .non
  | .bl b, _, h => .bl b
  | .int b, _, h => .int b
  | .str b, _, h => .str b
  | .ref b, _, h => .ref b
  | .ty b, _, h => .ty b
  | .cell k, _, h => by cases h with | cell e => exact .cell (List.getElem?_eq_some_iff.mp e).1
  | .lst ds, _, h => by cases h with | lst e r => exact .lst (RepL.bel ds _ r)
  | .tup ds, _, h => by cases h with | tup e r => exact .tup (RepL.bel ds _ r)
  | .rol ds, _, h => by cases h with | rol e r => exact .rol (RepL.bel ds _ r)
  | .dct ds, _, h => by cases h with | dct e r => exact .dct (RepK.bel ds _ r)
  | .exc C ds, _, h => by cases h with | exc e e' r => exact .exc (RepF.bel ds _ r)
  | .hot a dd C ds, _, h => by cases h with | hot e r => exact .hot (RepF.bel ds _ r)
theorem RepL.bel {W : Wd} : ∀ (ds : List Dat) (vs : List V), RepL K W vs ds → BelL W.ι.length ds
  | [], _, h => .nil
  | d :: ds, _, h => by cases h with | cons a b => exact .cons (Rep.bel d _ a) (RepL.bel ds _ b)
theorem RepF.bel {W : Wd} : ∀ (ds : List (Str × Dat)) (vs : List (Str × V)), RepF K W vs ds → BelL W.ι.length (ds.map (·.2))
  | [], _, h => .nil
  | (f, d) :: ds, _, h => by cases h with | cons a b => exact .cons (Rep.bel d _ a) (RepF.bel ds _ b)
theorem RepK.bel {W : Wd} : ∀ (ds : List (Key × Dat)) (vs : List (Key × V)), RepK K W vs ds → BelL W.ι.length (ds.map (·.2))
  | [], _, h => .nil
  | (f, d) :: ds, _, h => by cases h with | cons a b => exact .cons (Rep.bel d _ a) (RepK.bel ds _ b)
end
end
end DL
namespace DL
open PySem L2
mutual
/-- cells from n on read as what they hold in the end -/
inductive Fr (n : Nat) (ms : Ms) : Dat → Dat → Prop
  | non : Fr n ms .non .non
  | bl (b : Bool) : Fr n ms (.bl b) (.bl b)
  | int (i : Int) : Fr n ms (.int i) (.int i)
  | str (x : Str) : Fr n ms (.str x) (.str x)
  | ref (a : Addr) : Fr n ms (.ref a) (.ref a)
  | ty (x : String) : Fr n ms (.ty x) (.ty x)
  | cell {k : Nat} : k < n → Fr n ms (.cell k) (.cell k)
  | cellL {k : Nat} {xs ys : List Dat} : n ≤ k → ms[k]? = some (.lst xs) → FrL n ms xs ys → Fr n ms (.cell k) (.lst ys)
  | cellD {k : Nat} {xs ys : List (Key × Dat)} : n ≤ k → ms[k]? = some (.dct xs) → FrK n ms xs ys → Fr n ms (.cell k) (.dct ys)
  | lst {xs ys : List Dat} : FrL n ms xs ys → Fr n ms (.lst xs) (.lst ys)
  | tup {xs ys : List Dat} : FrL n ms xs ys → Fr n ms (.tup xs) (.tup ys)
  | rol {xs ys : List Dat} : FrL n ms xs ys → Fr n ms (.rol xs) (.rol ys)
  | dct {xs ys : List (Key × Dat)} : FrK n ms xs ys → Fr n ms (.dct xs) (.dct ys)
  | exc {C : Addr} {xs ys : List (Str × Dat)} : FrF n ms xs ys → Fr n ms (.exc C xs) (.exc C ys)
  | hot {a dd C : Addr} {xs ys : List (Str × Dat)} : FrF n ms xs ys → Fr n ms (.hot a dd C xs) (.hot a dd C ys)
inductive FrL (n : Nat) (ms : Ms) : List Dat → List Dat → Prop
  | nil : FrL n ms [] []
  | cons {x y : Dat} {xs ys : List Dat} : Fr n ms x y → FrL n ms xs ys → FrL n ms (x :: xs) (y :: ys)
inductive FrF (n : Nat) (ms : Ms) : List (Str × Dat) → List (Str × Dat) → Prop
  | nil : FrF n ms [] []
  | cons {f : Str} {x y : Dat} {xs ys : List (Str × Dat)} : Fr n ms x y → FrF n ms xs ys → FrF n ms ((f, x) :: xs) ((f, y) :: ys)
inductive FrK (n : Nat) (ms : Ms) : List (Key × Dat) → List (Key × Dat) → Prop
  | nil : FrK n ms [] []
  | cons {f : Key} {x y : Dat} {xs ys : List (Key × Dat)} : Fr n ms x y → FrK n ms xs ys → FrK n ms ((f, x) :: xs) ((f, y) :: ys)
end
mutual
theorem Fr.refl {n : Nat} {ms : Ms} : ∀ (d : Dat), Bel n d → Fr n ms d d
  | .non, _ => .non
  | .bl b, _ => .bl b
  | .int b, _ => .int b
  | .str b, _ => .str b
  | .ref b, _ => .ref b
  | .ty b, _ => .ty b
  | .cell k, h => by cases h with | cell e => exact .cell e
  | .lst ds, h => by cases h with | lst r => exact .lst (FrL.refl ds r)
  | .tup ds, h => by cases h with | tup r => exact .tup (FrL.refl ds r)
  | .rol ds, h => by cases h with | rol r => exact .rol (FrL.refl ds r)
  | .dct ds, h => by cases h with | dct r => exact .dct (FrK.refl ds r)
  | .exc C ds, h => by cases h with | exc r => exact .exc (FrF.refl ds r)
  | .hot a dd C ds, h => by cases h with | hot r => exact .hot (FrF.refl ds r)
theorem FrL.refl {n : Nat} {ms : Ms} : ∀ (ds : List Dat), BelL n ds → FrL n ms ds ds
  | [], _ => .nil
  | d :: ds, h => by cases h with | cons a b => exact .cons (Fr.refl d a) (FrL.refl ds b)
theorem FrF.refl {n : Nat} {ms : Ms} : ∀ (ds : List (Str × Dat)), BelL n (ds.map (·.2)) → FrF n ms ds ds
  | [], _ => .nil
  | (f, d) :: ds, h => by cases h with | cons a b => exact .cons (Fr.refl d a) (FrF.refl ds b)
theorem FrK.refl {n : Nat} {ms : Ms} : ∀ (ds : List (Key × Dat)), BelL n (ds.map (·.2)) → FrK n ms ds ds
  | [], _ => .nil
  | (f, d) :: ds, h => by cases h with | cons a b => exact .cons (Fr.refl d a) (FrK.refl ds b)
end
/-- the world behind: the cells from n on are data -/
def cutW (W : Wd) (H : Hp) (n : Nat) : Wd := ⟨W.ι.take n, fun a => if a ∈ W.ι.drop n then H a else W.F a⟩
section
variable {K : PySem.W.Frag} {W : Wd} {G H : Hp} {ms : Ms} {n : Nat}
theorem cut_old (g : Good K W G H ms) {a : Addr} {o : HO} (h : W.F a = some o) : (cutW W H n).F a = some o := by
  show (if a ∈ W.ι.drop n then H a else W.F a) = some o
  by_cases hm : a ∈ W.ι.drop n
  · have := g.nF a (List.mem_of_mem_drop hm)
    rw [h] at this; cases this
  · rw [if_neg hm]; exact h
theorem cut_new {k : Nat} {a : Addr} {o : HO} (hk : n ≤ k) (e : W.ι[k]? = some a) (h : H a = some o) : (cutW W H n).F a = some o := by
  show (if a ∈ W.ι.drop n then H a else W.F a) = some o
  have hm : a ∈ W.ι.drop n := by
    refine List.mem_of_getElem? (i := k - n) ?_
    rw [List.getElem?_drop, Nat.add_sub_cancel' hk]
    exact e
  rw [if_pos hm]; exact h
theorem cut_l (g : Good K W G H ms) {a : Addr} {xs : List V} (h : SqL K W.F a xs) : SqL K (cutW W H n).F a xs := by
  rcases h with (h | ⟨o, h⟩) | h
  · exact .inl (.inl (cut_old g h))
  · exact .inl (.inr ⟨o, cut_old g h⟩)
  · exact .inr h
theorem cut_t (g : Good K W G H ms) {a : Addr} {xs : List V} (h : SqT K W.F a xs) : SqT K (cutW W H n).F a xs := by
  rcases h with (h | ⟨o, h⟩) | h
  · exact .inl (.inl (cut_old g h))
  · exact .inl (.inr ⟨o, cut_old g h⟩)
  · exact .inr h
theorem take_get {α : Type} {l : List α} {k n : Nat} {a : α} (hk : k < n) (e : l[k]? = some a) : (l.take n)[k]? = some a := by
  rw [List.getElem?_take_of_lt hk]; exact e
mutual
theorem Rep.cut (g : Good K W G H ms) {d d2 : Dat} : ∀ (f : Fr n ms d d2) (v : V), Rep K W v d → Rep K (cutW W H n) v d2
  | .non, _, h => by cases h; exact .non
  | .bl b, _, h => by cases h; exact .bl b
  | .int b, _, h => by cases h; exact .int b
  | .str b, _, h => by cases h; exact .str b
  | .ref b, _, h => by cases h; exact .ref b
  | .ty b, _, h => by cases h; exact .ty b
  | .cell hk, _, h => by cases h with | cell e => exact .cell (take_get hk e)
  | .cellL hk hm f, _, h => by
    cases h with
    | cell e =>
      obtain ⟨xs, hx, r⟩ := (show MoOk K W H _ (.lst _) from g.cl _ _ _ e hm)
      exact .lst (cut_new hk e hx) (RepL.cut g f _ r)
  | .cellD hk hm f, _, h => by
    cases h with
    | cell e =>
      obtain ⟨xs, hx, r⟩ := (show MoOk K W H _ (.dct _) from g.cl _ _ _ e hm)
      exact .dct (cut_new hk e hx) (RepK.cut g f _ r)
  | .lst f, _, h => by cases h with | lst e r => exact .lst (cut_old g e) (RepL.cut g f _ r)
  | .tup f, _, h => by cases h with | tup e r => exact .tup (cut_t g e) (RepL.cut g f _ r)
  | .rol f, _, h => by cases h with | rol e r => exact .rol (cut_l g e) (RepL.cut g f _ r)
  | .dct f, _, h => by cases h with | dct e r => exact .dct (cut_old g e) (RepK.cut g f _ r)
  | .exc f, _, h => by cases h with | exc e e' r => exact .exc (cut_old g e) (cut_old g e') (RepF.cut g f _ r)
  | .hot f, _, h => by cases h with | hot e r => exact .hot (cut_old g e) (RepF.cut g f _ r)
theorem RepL.cut (g : Good K W G H ms) {ds d2 : List Dat} : ∀ (f : FrL n ms ds d2) (vs : List V), RepL K W vs ds → RepL K (cutW W H n) vs d2
  | .nil, _, h => by cases h; exact .nil
  | .cons a b, _, h => by cases h with | cons x y => exact .cons (Rep.cut g a _ x) (RepL.cut g b _ y)
theorem RepF.cut (g : Good K W G H ms) {ds d2 : List (Str × Dat)} : ∀ (f : FrF n ms ds d2) (vs : List (Str × V)), RepF K W vs ds → RepF K (cutW W H n) vs d2
  | .nil, _, h => by cases h; exact .nil
  | .cons a b, _, h => by cases h with | cons x y => exact .cons (Rep.cut g a _ x) (RepF.cut g b _ y)
theorem RepK.cut (g : Good K W G H ms) {ds d2 : List (Key × Dat)} : ∀ (f : FrK n ms ds d2) (vs : List (Key × V)), RepK K W vs ds → RepK K (cutW W H n) vs d2
  | .nil, _, h => by cases h; exact .nil
  | .cons a b, _, h => by cases h with | cons x y => exact .cons (Rep.cut g a _ x) (RepK.cut g b _ y)
end
inductive FrM (n : Nat) (ms : Ms) : MO → MO → Prop
  | lst {xs ys : List Dat} : FrL n ms xs ys → FrM n ms (.lst xs) (.lst ys)
  | dct {xs ys : List (Key × Dat)} : FrK n ms xs ys → FrM n ms (.dct xs) (.dct ys)
  | ins {C : Addr} {xs ys : List (Str × Dat)} : FrF n ms xs ys → FrM n ms (.ins C xs) (.ins C ys)
/-- the cells that stay -/
def Keep (n : Nat) (ms ms2 : Ms) : Prop := ms2.length = n ∧ n ≤ ms.length ∧ ∀ (k : Nat) m, k < n → ms[k]? = some m → ∃ m2, ms2[k]? = some m2 ∧ FrM n ms m m2
theorem Good.cut (g : Good K W G H ms) {ms2 : Ms} (kp : Keep n ms ms2) : Good K (cutW W H n) G H ms2 := by
  obtain ⟨hl, hn, hk⟩ := kp
  have tk : ∀ a ∈ W.ι.take n, a ∈ W.ι := fun a h => List.mem_of_mem_take h
  have nd2 : ∀ a ∈ W.ι.take n, a ∉ W.ι.drop n := fun a h1 h2 => by
    have := g.nd
    rw [← List.take_append_drop n W.ι] at this
    exact (List.nodup_append.mp this).2.2 a h1 a h2 rfl
  refine ⟨fun a o e => ?_, g.gd, ?_, ?_, fun a h => ?_, fun a h => g.nG a (tk a h), fun a o e => ?_, fun k a m h1 h2 => ?_⟩
  · have e' : (if a ∈ W.ι.drop n then H a else W.F a) = some o := e
    by_cases hm : a ∈ W.ι.drop n
    · rw [if_pos hm] at e'; exact e'
    · rw [if_neg hm] at e'; exact g.fz a o e'
  · show (W.ι.take n).length = ms2.length
    rw [List.length_take, g.ln, hl]; omega
  · exact g.nd.sublist (List.take_sublist _ _)
  · show (if a ∈ W.ι.drop n then H a else W.F a) = none
    rw [if_neg (nd2 a h)]
    exact g.nF a (tk a h)
  · show (if a ∈ W.ι.drop n then H a else W.F a) = none
    have hm : a ∉ W.ι.drop n := fun hm => by
      have := g.nG a (List.mem_of_mem_drop hm)
      rw [e] at this; cases this
    rw [if_neg hm]
    exact g.gF a o e
  · have hkn : k < n := by rw [← hl]; exact (List.getElem?_eq_some_iff.mp h2).1
    have h1' : W.ι[k]? = some a := by rw [← h1]; exact (List.getElem?_take_of_lt hkn).symm
    have hm : k < ms.length := by omega
    obtain ⟨m2, e2, f⟩ := hk k ms[k] hkn (List.getElem?_eq_getElem hm)
    rw [h2] at e2
    cases e2
    have old := g.cl k a ms[k] h1' (List.getElem?_eq_getElem hm)
    generalize hq : ms[k] = m0 at old f
    cases f with
    | lst f => obtain ⟨xs, e, r⟩ := old; exact ⟨xs, e, RepL.cut g f _ r⟩
    | dct f => obtain ⟨xs, e, r⟩ := old; exact ⟨xs, e, RepK.cut g f _ r⟩
    | ins f => obtain ⟨dx, xs, e, r⟩ := old; exact ⟨dx, xs, e, RepF.cut g f _ r⟩
theorem cut_le (g : Good K W G H ms) {W0 : Wd} (l : Le W0 W) (hn : W0.ι.length = n) : Le W0 (cutW W H n) := by
  refine ⟨?_, fun a o e => cut_old g (l.f a o e)⟩
  obtain ⟨t, ht⟩ := l.i
  have : W.ι.take n = W0.ι := by rw [← ht, ← hn, List.take_left]
  show W0.ι <+: W.ι.take n
  rw [this]
  exact List.prefix_rfl
end
end DL
namespace DL
open PySem PySem.Spec PyProof.Rows L2
def RetOk (n : Nat) (P : Dat → Ms → Prop) (d : Dat) (ms : Ms) : Prop := P d ms ∨ ∃ d2 ms2, Keep n ms ms2 ∧ Fr n ms d d2 ∧ P d2 ms2
def RetX (n : Nat) (X : XP) (C : Addr) (fs : List (Str × Dat)) (ms : Ms) : Prop := X C fs ms ∨ ∃ fs2 ms2, Keep n ms ms2 ∧ FrF n ms fs fs2 ∧ X C fs2 ms2
def bodyOut (n : Nat) (P : Dat → Ms → Prop) (X : XP) : Out where
  nx := fun _ ms => RetOk n P .non ms
  rt := RetOk n P
  ex := fun C fs _ ms => RetX n X C fs ms
def startE (N : List Str) (ds : List Dat) : Ev := ds.map some ++ List.replicate (N.length - ds.length) none
inductive MoBel (n : Nat) : MO → Prop
  | lst {xs : List Dat} : BelL n xs → MoBel n (.lst xs)
  | dct {xs : List (Key × Dat)} : BelL n (xs.map (·.2)) → MoBel n (.dct xs)
  | ins {C : Addr} {xs : List (Str × Dat)} : BelL n (xs.map (·.2)) → MoBel n (.ins C xs)
def MsBel (ms : Ms) : Prop := ∀ (k : Nat) m, ms[k]? = some m → MoBel ms.length m
section
variable {K : PySem.W.Frag} {W : Wd} {G H : Hp} {ms : Ms} {n : Nat} {P : Dat → Ms → Prop} {X : XP}
theorem Good.bel (g : Good K W G H ms) : MsBel ms := fun k m e => by
  have hk : k < W.ι.length := by rw [g.ln]; exact (List.getElem?_eq_some_iff.mp e).1
  have o := g.cl k W.ι[k] m (List.getElem?_eq_getElem hk) e
  rw [← g.ln]
  cases m with
  | lst ds => obtain ⟨_, _, r⟩ := o; exact .lst (RepL.bel _ _ r)
  | dct ds => obtain ⟨_, _, r⟩ := o; exact .dct (RepK.bel _ _ r)
  | ins C ds => obtain ⟨_, _, _, r⟩ := o; exact .ins (RepF.bel _ _ r)
theorem RtC.ret {Q : VK} (hn : W.ι.length = n) (k : RtC K W G P Q) : RtC K W G (RetOk n P) Q := fun W' v d H' ms' l g r q => by
  rcases q with q | ⟨d2, ms2, kp, f, q⟩
  · exact k W' v d H' ms' l g r q
  · exact k _ v d2 H' ms2 (cut_le g l hn) (g.cut kp) (Rep.cut g f v r) q
theorem ExC.ret {E : XK} (hn : W.ι.length = n) (k : ExC K W G X E) : ExC K W G (RetX n X) E := fun W' C d fs ds H' ms' l g f r q => by
  rcases q with q | ⟨d2, ms2, kp, ff, q⟩
  · exact k W' C d fs ds H' ms' l g f r q
  · exact k _ C d fs d2 H' ms2 (cut_le g l hn) (g.cut kp) (cut_old g f) (RepF.cut g ff _ r) q
theorem start_slots {N : List Str} : ∀ {vs : List V} {ds : List Dat}, RepL K W vs ds → Slots K W (L2.start N vs) (startE N ds) := fun {vs ds} r => by
  refine ⟨by unfold L2.start startE; simp [r.length], fun i d h => ?_⟩
  unfold startE at h
  by_cases hi : i < ds.length
  · rw [List.getElem?_append_left (by simpa using hi), List.getElem?_map] at h
    cases e : ds[i]? with
    | none => rw [e] at h; cases h
    | some x =>
      rw [e] at h; cases h
      obtain ⟨v, hv, rv⟩ := RepL.getD r i e
      refine ⟨v, ?_, rv⟩
      unfold L2.start
      rw [List.getElem?_append_left (by simpa [r.length] using hi), List.getElem?_map, hv]
      rfl
  · rw [List.getElem?_append_right (by simpa using hi), List.getElem?_replicate] at h
    split at h <;> cases h
/-- the body's word, spent on a call -/
theorem run_body {E : XK} {Q : VK} {t : TS} {N : List Str} {vs : List V} {ds : List Dat} (g : Good K W G H ms) (r : RepL K W vs ds) (kP : RtC K W G P Q) (kX : ExC K W G X E)
    (h : DS K (fun c d _ H => E c d H) t (startE N ds) ms (bodyOut ms.length P X)) : t { nx := fun _ H' => Q .non H', rt := Q } (L2.start N vs) H := by
  have kr := RtC.ret g.ln kP
  refine h W G _ H _ g (start_slots r) ⟨fun W' σ' e' H' ms' l g' s' q => kr W' .non .non H' ms' l g' .non q, kr, fun _ _ _ _ _ _ _ _ z => z.elim, fun _ _ _ _ _ _ _ _ z => z.elim, ?_⟩
  exact fun W' σ' e' C d fs ds H' ms' l g' s' f rr q => ExC.ret g.ln kX W' C d fs ds H' ms' l g' f rr q
end

/-! ### defs: promises kept while no repr is under way -/
structure Quiet (A : Around) : Prop where
  g : A.guards = some []
theorem Quiet.deeper {A : Around} (q : Quiet A) (env : Env) : Quiet (A.deeper env) := ⟨q.g⟩
theorem Quiet.mark {A : Around} (q : Quiet A) (h : Option Value) : Quiet (A.mark h) := ⟨q.g⟩
structure FnG (P : Program) (w : World) (K : PySem.W.Frag) (mg : Str → Option Value) (base : Heap) (cx : CXT) (k : Nat) (f : Addr) (fd : FuncData) (ps : List Str) (sp : Sp) : Prop where
  len : ∀ vs H Q E, sp vs H Q E → vs.length = ps.length
  go : ∀ (A : Around) (outer : List Env) (s : Shared) (H : Hp) (args : Args) (us : List Value) (vs : List V) (Q : VK) (E : XK),
    Room k A → Quiet A → Env0 P w K mg base A outer s H → BindsTo s fd args (ps.zip us) → Vals vs us → sp vs H Q E → codeAny (model P w) A (.call (.ref f) args) (CR cx outer P w H s Q E) s
/-- .. within an except suite -/
structure FnGH (P : Program) (w : World) (K : PySem.W.Frag) (mg : Str → Option Value) (base : Heap) (cx : CXT) (k : Nat) (f : Addr) (fd : FuncData) (ps : List Str) (sp : Sp) : Prop where
  len : ∀ vs H Q E, sp vs H Q E → vs.length = ps.length
  go : ∀ (A : Around) (outer : List Env) (s : Shared) (H : Hp) (args : Args) (us : List Value) (vs : List V) (Q : VK) (E : XK) (p : Addr × Obj),
    L2H.RoomH k A → Quiet A → L2H.Hot1 A p → L2H.PinOk outer H s p → Env0 P w K mg base A outer s H → BindsTo s fd args (ps.zip us) → Vals vs us → sp vs H Q E →
      codeAny (model P w) A (.call (.ref f) args) (CR cx outer P w H s Q E) s
section
variable {P : Program} {w : World} {K : PySem.W.Frag} {mg : Str → Option Value} {base : Heap} {cx : CXT} {k : Nat} {f : Addr} {fd : FuncData} {ps : List Str} {sp : Sp}
theorem FnG.mono {j : Nat} (F : FnG P w K mg base cx j f fd ps sp) (h : j ≤ k) : FnG P w K mg base cx k f fd ps sp :=
  ⟨F.len, fun A o s H a us vs Q E hr => F.go A o s H a us vs Q E (hr.mono h)⟩
theorem FnGH.mono {j : Nat} (F : FnGH P w K mg base cx j f fd ps sp) (h : j ≤ k) : FnGH P w K mg base cx k f fd ps sp :=
  ⟨F.len, fun A o s H a us vs Q E p hr => F.go A o s H a us vs Q E p (hr.mono h)⟩
theorem fnG_of (F : FnOk P w K mg base cx k f fd ps sp) : FnG P w K mg base cx k f fd ps sp := ⟨F.len, fun A o s H a us vs Q E hr _ => F.run A o s H a us vs Q E hr⟩
theorem fnGH_of (F : L2H.FnH P w K mg base cx k f fd ps sp) : FnGH P w K mg base cx k f fd ps sp := ⟨F.len, fun A o s H a us vs Q E p hr _ => F.run A o s H a us vs Q E p hr⟩
/-- how a body's flow ends the call -/
theorem flow_end {X : Cx} {outer : List Env} {s s' : Shared} {H : Hp} {Q : VK} {E : XK} {fl : Flow} (ho : X.fs = frs outer) (h0 : X.s_0 = s) (hH : X.H_0 = H) (hp : X.prog = P) (hw : X.w = w) (hx : X.ex = [])
    (h : SP X [] { nx := fun _ H' => Q .non H', rt := Q } fl s') : CR cx outer P w H s Q E (.ok (.ret (match (generalizing := false) fl with | .ret v => v | _ => .none))) s' := by
  have one : ∀ {σ' : L2.St} {H' : Hp} {v : V} {u : Value}, Inv X [] σ' H' s' → RelV v u → Q v H' → CE outer P w H s Q u s' := fun {σ' H' v u} J rv q => by
    have b := J.base
    rw [ho, h0, hH, hx] at b
    have o := J.os
    rw [h0] at o
    have k := J.hok
    rw [hp, hw] at k
    exact ⟨v, H', o, J.bare, b, k, rv, q⟩
  cases fl with
  | ret u => obtain ⟨v, σ', H', J, rv, q⟩ := h; exact one J rv q
  | next => obtain ⟨σ', H', J, q⟩ := h; exact one (v := .non) (u := .none) J rfl q
  | brk => obtain ⟨_, _, _, z⟩ := h; exact z.elim
  | cont => obtain ⟨_, _, _, z⟩ := h; exact z.elim
end
section
variable {P : Program} {w : World} {K : PySem.W.Frag} {mg : Str → Option Value} {base : Heap} {cx : CXT} {x qual : Str} {st : Stmt} {f : Addr} {fd : FuncData} {N ps : List Str} {k : Nat} {sp : Sp}
theorem enter_def {oc : Value} {od an : Option Addr} {osl : Array (Option Value)} {dV kV doc pm cdv ct : Value} {A : Around} {outer : List Env} {s : Shared} {H : Hp} {args : Args} {us : List Value} {R : Result → Shared → Prop} {pr : Arguments} {bd : List Stmt} {sc : Scope}
    (lk : K.lookup f = some ⟨oc, od, .func (PySem.W.fnOf x qual pr bd sc dV kV doc pm an cdv ct), osl⟩) (hcd : PySem.W.codeIn K cdv qual = true) (S : FnScope N ps sc) (hd : A.depth < recursionLimit)
    (e0 : Env0 P w K mg base A outer s H) (hb : BindsTo s (PySem.W.fnOf x qual pr bd sc dV kV doc pm an cdv ct) args (ps.zip us))
    (h : ∀ s1, InCallC s s.heap.objs.size (bindL (envOfC qual sc s.heap.objs.size f cdv).kindOf (ps.zip us) fun _ => none) (cellsFrom (s.heap.objs.size + 1) sc.names []) (bindC (envOfC qual sc s.heap.objs.size f cdv).kindOf (ps.zip us) fun _ => none) s1 →
      wpAny (model P w) (A.deeper (envOfC qual sc s.heap.objs.size f cdv)) (execs bd (envOfC qual sc s.heap.objs.size f cdv)) (fun fl s' => R (.ok (.ret (match fl with | .ret v => v | _ => .none))) s')
        (fun e s' => wpAny (model P w) (A.deeper (envOfC qual sc s.heap.objs.size f cdv)) (leaving (envOfC qual sc s.heap.objs.size f cdv) e) (fun _ s'' => R (.error e) s'') (fun e' s'' => R (.error e') s'') s') s1) :
    codeAny (model P w) A (.call (.ref f) args) R s := by
  have kin := e0.mod.kin.keeps fun b o e => (e0.bs b o e).1
  have lm : s.heap.NoLimit := e0.mod.nolimit.keeps fun b o e => (e0.bs b o e).1
  have kinds : ∀ y ∈ ps.zip us, sc.names.lookup y.1 = some .local ∨ (sc.names.lookup y.1 = some .cell ∧ ((cellsFrom (s.heap.objs.size + 1) sc.names []).lookup y.1).isSome = true) := by
    intro y hy
    obtain ⟨n, v⟩ := y
    rcases S.par n (List.of_mem_zip hy).1 with q | q
    · exact Or.inl q
    · exact Or.inr ⟨q, PySem.W.cellsFrom_some _ _ _ (Or.inl q)⟩
  apply codeAny_call_function hd (kin _ _ lk) rfl S.co S.gen rfl (PySem.W.codeRec_of kin hcd)
  apply hb
  apply wpAny_newFunctionEnv_cells S.kind kinds
  intro env he s1 ic
  cases he
  exact ⟨lm.keeps ic.toInCall.keep, codeAny_func (h s1 ic)⟩
/-- a def keeps its promise, called where nothing is handled -/
theorem fn_dl {A : Pm} (F : Fun K x qual st f fd) (S : FnScope N ps (defScope st)) (hlen : ∀ ds ms P X, A ds ms P X → ds.length = ps.length)
    (hb : ∀ (cdv : Value) (Ar : Around) (outer : List Env) (s : Shared) (H : Hp) (E : XK), Room k (Ar.deeper (envOfC qual (defScope st) s.heap.objs.size f cdv)) → Quiet (Ar.deeper (envOfC qual (defScope st) s.heap.objs.size f cdv)) →
      ∃ t, PSs (cxOf (L2N.CX P w) P w K mg base N qual (defScope st) f cdv Ar outer s H E) (defBody st) t ∧
        ∀ ds ms Pd X, A ds ms Pd X → BelL ms.length ds → MsBel ms → DS K (fun c d _ H => E c d H) t (startE N ds) ms (bodyOut ms.length Pd X)) :
    FnG P w K mg base (L2N.CX P w) (k + 1) f fd ps (spD K A) := by
  obtain ⟨oc, od, kV, doc, pm, an, cdv, ct, osl, e, lk, hcd⟩ := F.ex
  subst e
  refine ⟨fun vs H Q E h => ?_, fun Ar outer s H args us vs Q E hr hq e0 hbd r hsp => ?_⟩
  · obtain ⟨W, G, ms, ds, Pd, X, _, r, a, _⟩ := h
    rw [r.length]; exact hlen ds ms Pd X a
  · obtain ⟨W, G, ms, ds, Pd, X, g, rl, a, kP, kX⟩ := hsp
    obtain ⟨t, ht, hd⟩ := hb cdv Ar outer s H E (hr.deeper _) (hq.deeper _)
    have b := RepL.bel ds vs rl
    rw [g.ln] at b
    have hl : vs.length = ps.length := by rw [rl.length]; exact hlen ds ms Pd X a
    refine enter_def lk hcd S hr.depth e0 hbd fun s1 ic => ?_
    have I := inv_start (CX := L2N.CX P w) (E := E) S hr.hd e0 hl r ic
    exact wpAny_mono (ht.run [] s1 _ H _ I (run_body g rl kP kX (hd ds ms Pd X a b g.bel))) (fun fl s' z => flow_end rfl rfl rfl rfl rfl rfl z) fun _ _ z => z
/-- .. called within an except suite -/
theorem fn_dlH {A : Pm} (F : Fun K x qual st f fd) (S : FnScope N ps (defScope st)) (hlen : ∀ ds ms P X, A ds ms P X → ds.length = ps.length)
    (hb : ∀ (cdv : Value) (Ar : Around) (outer : List Env) (s : Shared) (H : Hp) (E : XK) (p : Addr × Obj), L2H.Hot1 Ar p → L2H.RoomH k (Ar.deeper (envOfC qual (defScope st) s.heap.objs.size f cdv)) → Quiet (Ar.deeper (envOfC qual (defScope st) s.heap.objs.size f cdv)) →
      ∃ t, PSs (L2H.cxH (L2N.CX P w) P w K mg base N qual (defScope st) f cdv Ar outer s H E p) (defBody st) t ∧
        ∀ ds ms Pd X, A ds ms Pd X → BelL ms.length ds → MsBel ms → DS K (fun c d _ H => E c d H) t (startE N ds) ms (bodyOut ms.length Pd X)) :
    FnGH P w K mg base (L2N.CX P w) (k + 1) f fd ps (spD K A) := by
  obtain ⟨oc, od, kV, doc, pm, an, cdv, ct, osl, e, lk, hcd⟩ := F.ex
  subst e
  refine ⟨fun vs H Q E h => ?_, fun Ar outer s H args us vs Q E p hr hq hot hpin e0 hbd r hsp => ?_⟩
  · obtain ⟨W, G, ms, ds, Pd, X, _, r, a, _⟩ := h
    rw [r.length]; exact hlen ds ms Pd X a
  · obtain ⟨W, G, ms, ds, Pd, X, g, rl, a, kP, kX⟩ := hsp
    obtain ⟨t, ht, hd⟩ := hb cdv Ar outer s H E p hot (hr.deeper _) (hq.deeper _)
    have b := RepL.bel ds vs rl
    rw [g.ln] at b
    have hl : vs.length = ps.length := by rw [rl.length]; exact hlen ds ms Pd X a
    refine enter_def lk hcd S hr.depth e0 hbd fun s1 ic => ?_
    have I := L2H.inv_startH (CX := L2N.CX P w) (E := E) S hpin e0 hl r ic
    exact wpAny_mono (ht.run [] s1 _ H _ I (run_body g rl kP kX (hd ds ms Pd X a b g.bel))) (fun fl s' z => flow_end rfl rfl rfl rfl rfl rfl z) fun _ _ z => z
end
/-! ### the call of such a def -/
section
variable {X : Cx} {cx : CXT} {k : Nat} {f : Addr} {fd : FuncData} {ps : List Str} {sp : Sp} {E : L2.St → XK} {x : Str} {p pos : Pos} {e : Expr} {es : List Expr} {t : TA} {ds : List Value} {dvs : List V}
theorem go_fn {pins : List (Addr × Obj)} {σ : L2.St} {H : Hp} {s : Shared} {Q : VK} {us : List Value} {vs : List V} (F : FnG X.prog X.w X.K X.mg X.base cx k f fd ps sp) (hr : Room k X.A) (hq : Quiet X.A) (hb : Binds X.K fd ps ds) (hd : Vals dvs ds) (hx : PassesAt cx X σ (E σ))
    (I : Inv X pins σ H s) (r : Vals vs us) (h : sp (vs ++ dvs) H Q (E σ)) : wpAny (model X.prog X.w) X.A (call (.ref f) us) (EP X pins σ Q) X.xe s := by
  have rr := r.append hd
  have n : (us ++ ds).length = ps.length := rr.length.symm.trans (F.len _ _ _ _ h)
  refine wpAny_call (codeAny_mono (F.go X.A X.stack s H ⟨us, []⟩ _ _ Q (E σ) hr hq I.env0 (hb s us I.kIn n) rr h) fun z s' hz => ?_)
  match z, hz with
  | .error er, hz => exact hx pins H s er s' I hz
  | .ok (.ret u), hz => exact I.after hz
  | .ok .next, hz => exact hz.elim
  | .ok .brk, hz => exact hz.elim
  | .ok .cont, hz => exact hz.elim
def tCallD (sp : Sp) (dvs : List V) (E : L2.St → XK) (t : TA) : TE := fun σ H Q => t σ H fun vs H1 => sp (vs ++ dvs) H1 Q (E σ)
/-- f(e, ..), defaults behind -/
theorem pe_g (F : FnG X.prog X.w X.K X.mg X.base cx k f fd ps sp) (hr : Room k X.A) (hq : Quiet X.A) (hg : Gl X x) (hm : X.mg x = some (.ref f)) (hk : PySem.W.keepIn X.K (.ref f) = true) (hb : Binds X.K fd ps ds) (hd : Vals dvs ds) (hx : ∀ σ, PassesAt cx X σ (E σ))
    (ha : PA X (e :: es) t) (hdb : (x == ("__debug__" : Str)) = false := by decide) (he : starEach (e :: es) X.env = (false, eval e X.env) :: starEach es X.env := by rfl) (hpl : (backTo pos (starEach es X.env)).any (·.1) = false := by rfl) :
    PE X (.Call (.Name x p) (e :: es) [] pos) (tCallD sp dvs E t) := ⟨fun pins s σ H Q I h =>
  wpAny_Call_Name_kw (ld_glob I hg hm (PySem.W.callWith_K (h₀ := X.base) I.ok.mod.kin hk (thn (ha.run pos pins s σ H _ I h) fun us s1 ⟨vs, H1, I1, r, q⟩ => ⟨I1.kIn, go_fn F hr hq hb hd (hx σ) I1 r q⟩) he hpl) hdb)⟩
theorem pe_g0 (F : FnG X.prog X.w X.K X.mg X.base cx k f fd ps sp) (hr : Room k X.A) (hq : Quiet X.A) (hg : Gl X x) (hm : X.mg x = some (.ref f)) (hk : PySem.W.keepIn X.K (.ref f) = true) (hb : Binds X.K fd ps ds) (hd : Vals dvs ds) (hx : ∀ σ, PassesAt cx X σ (E σ))
    (hdb : (x == ("__debug__" : Str)) = false := by decide) : PE X (.Call (.Name x p) [] [] pos) (tCallD sp dvs E tNil) := ⟨fun pins s σ H Q I h =>
  wpAny_Call_Name_kw (ld_glob I hg hm (PySem.W.callWith_K0 I.kIn hk (go_fn (us := []) F hr hq hb hd (hx σ) I .nil h)) hdb)⟩
/-- .. within an except suite -/
theorem go_fnH {pins : List (Addr × Obj)} {σ : L2.St} {H : Hp} {s : Shared} {Q : VK} {us : List Value} {vs : List V} (F : FnGH X.prog X.w X.K X.mg X.base cx k f fd ps sp) (hr : L2H.RoomH k X.A) (hq : Quiet X.A) (hc : L2H.HotC X) (hb : Binds X.K fd ps ds) (hd : Vals dvs ds) (hx : PassesAt cx X σ (E σ))
    (I : Inv X pins σ H s) (r : Vals vs us) (h : sp (vs ++ dvs) H Q (E σ)) : wpAny (model X.prog X.w) X.A (call (.ref f) us) (EP X pins σ Q) X.xe s := by
  have rr := r.append hd
  have n : (us ++ ds).length = ps.length := rr.length.symm.trans (F.len _ _ _ _ h)
  obtain ⟨p, hot, hp⟩ := hc
  obtain ⟨p1, p2, p3, p4, p5⟩ := I.pin p (List.mem_append.mpr (.inl hp))
  have hpin : L2H.PinOk X.stack H s p := ⟨p1, p2, fun z => by
    rcases List.mem_cons.mp (I.stkSub p.1 z) with z | z
    · exact p3 z
    · exact p4 z, p5⟩
  refine wpAny_call (codeAny_mono (F.go X.A X.stack s H ⟨us, []⟩ _ _ Q (E σ) p hr hq hot hpin I.env0 (hb s us I.kIn n) rr h) fun z s' hz => ?_)
  match z, hz with
  | .error er, hz => exact hx pins H s er s' I hz
  | .ok (.ret u), hz => exact I.after hz
  | .ok .next, hz => exact hz.elim
  | .ok .brk, hz => exact hz.elim
  | .ok .cont, hz => exact hz.elim
theorem pe_gH (F : FnGH X.prog X.w X.K X.mg X.base cx k f fd ps sp) (hr : L2H.RoomH k X.A) (hq : Quiet X.A) (hc : L2H.HotC X) (hg : Gl X x) (hm : X.mg x = some (.ref f)) (hk : PySem.W.keepIn X.K (.ref f) = true) (hb : Binds X.K fd ps ds) (hd : Vals dvs ds) (hx : ∀ σ, PassesAt cx X σ (E σ))
    (ha : PA X (e :: es) t) (hdb : (x == ("__debug__" : Str)) = false := by decide) (he : starEach (e :: es) X.env = (false, eval e X.env) :: starEach es X.env := by rfl) (hpl : (backTo pos (starEach es X.env)).any (·.1) = false := by rfl) :
    PE X (.Call (.Name x p) (e :: es) [] pos) (tCallD sp dvs E t) := ⟨fun pins s σ H Q I h =>
  wpAny_Call_Name_kw (ld_glob I hg hm (PySem.W.callWith_K (h₀ := X.base) I.ok.mod.kin hk (thn (ha.run pos pins s σ H _ I h) fun us s1 ⟨vs, H1, I1, r, q⟩ => ⟨I1.kIn, go_fnH F hr hq hc hb hd (hx σ) I1 r q⟩) he hpl) hdb)⟩
theorem passN {X : Cx} (σ : L2.St) : PassesAt (L2N.CX X.prog X.w) X σ E0 := fun _ _ _ _ _ _ h => by
  obtain ⟨_, _, _, _, _, _, _, _, _, _, _, _, z⟩ := h
  exact z.elim
end
section
variable {K : PySem.W.Frag} {R : WX} {e : Ev} {ms : Ms} {tA : TA} {P : Dat → Ms → Prop} {X : XP} {A : Pm} {dvs : List V} {dds : List Dat}
/-- f(..) over data; dds: the defaults -/
theorem de_g (hd : ∀ W : Wd, RepL K W dvs dds) (h : DA K R tA e ms (fun ds m => A (ds ++ dds) m P X) X) : DE K R (tCallD (spD K A) dvs (WE R) tA) e ms P X := fun W G σ H Q g s k x =>
  h W G σ H _ g s (fun W1 vs ds H1 m1 l1 g1 r1 a => ⟨W1, G, m1, ds ++ dds, P, X, g1, repL_append r1 (hd W1), a, k.le l1, x.le l1⟩) x
where
  repL_append {W : Wd} : ∀ {vs ws : List V} {ds es : List Dat}, RepL K W vs ds → RepL K W ws es → RepL K W (vs ++ ws) (ds ++ es)
    | _, _, [], _, h, r => by cases h; exact r
    | _, _, d :: ds, _, h, r => by cases h with | cons a b => exact .cons a (repL_append b r)
/-- .. nothing is let out -/
theorem de_g0 (hd : ∀ W : Wd, RepL K W dvs dds) (h : DA K R tA e ms (fun ds m => A (ds ++ dds) m P (fun _ _ _ => False)) X) : DE K R (tCallD (spD K A) dvs (fun _ => E0) tA) e ms P X := fun W G σ H Q g s k x =>
  h W G σ H _ g s (fun W1 vs ds H1 m1 l1 g1 r1 a => ⟨W1, G, m1, ds ++ dds, P, fun _ _ _ => False, g1, de_g.repL_append r1 (hd W1), a, k.le l1, fun _ _ _ _ _ _ _ _ _ _ _ z => z.elim⟩) x
end
end DL
namespace DL
open PySem PySem.Spec PyProof.Rows L2
/-! ### one rule of several -/
section
variable {Xc : Cx}
theorem orR {f : Value → Value → Sem Value} {r r' : R2} (h : OpR Xc f r) (h' : OpR Xc f r') : OpR Xc f (fun x y H Q => r x y H Q ∨ r' x y H Q) := by
  intro pins s σ H x y v u Q I rx ry q
  rcases q with q | q
  · exact h pins s σ H x y v u Q I rx ry q
  · exact h' pins s σ H x y v u Q I rx ry q
theorem orC {f : Value} {r r' : List V → Hp → VK → Prop} (h : CallR Xc f r) (h' : CallR Xc f r') : CallR Xc f (fun xs H Q => r xs H Q ∨ r' xs H Q) := by
  intro pins s σ H xs us Q I r q
  rcases q with q | q
  · exact h pins s σ H xs us Q I r q
  · exact h' pins s σ H xs us Q I r q
def rStrAdd : R2 := fun x y H Q => ∃ i j, x = .str i ∧ y = .str j ∧ i.length + j.length ≤ sizeLine ∧ Q (.str (i ++ j)) H
def rAddA : R2 := fun x y H Q => rI0 (fun i j => .int (i + j)) x y H Q ∨ (rStrAdd x y H Q ∨ rCat x y H Q)
theorem op_addA : OpR Xc (binaryOp .Add) rAddA := orR op_add (orR op_add_str op_cat)
def rCmpS (p : Str → Str → Bool) : R2 := fun x y H Q => ∃ i j, x = .str i ∧ y = .str j ∧ Q (.bl (p i j)) H
def rLeA : R2 := fun x y H Q => rI0 (fun i j => .bl (decide (i ≤ j))) x y H Q ∨ rCmpS (fun i j => !decide (j.cps.toList < i.cps.toList)) x y H Q
theorem op_leA : OpR Xc (compareOp .LtE) rLeA := orR op_le op_le_str
def rLtA : R2 := fun x y H Q => rI0 (fun i j => .bl (decide (i < j))) x y H Q ∨ rCmpS (fun i j => decide (i.cps.toList < j.cps.toList)) x y H Q
theorem op_ltA : OpR Xc (compareOp .Lt) rLtA := orR op_lt op_lt_str
def rGeI : R2 := rI0 fun i j => .bl (decide (j ≤ i))
def rGtI : R2 := rI0 fun i j => .bl (decide (j < i))
theorem op_geA : OpR Xc (compareOp .GtE) rGeI := op_ge
theorem op_gtA : OpR Xc (compareOp .Gt) rGtI := op_gt
def rEqA (K : PySem.W.Frag) : R2 := fun x y H Q => rEq x y H Q ∨ rEqD K x y H Q
def rNeA (K : PySem.W.Frag) : R2 := fun x y H Q => rNe x y H Q ∨ rNeD K x y H Q
theorem op_eqA (hu : Xc.A.units + 64 < cLine) : OpR Xc (compareOp .Eq) (rEqA Xc.K) := orR op_eq (op_eqD hu)
theorem op_neA (hu : Xc.A.units + 64 < cLine) : OpR Xc (compareOp .NotEq) (rNeA Xc.K) := orR op_ne (op_neD hu)
def rInStr (neg : Bool) : R2 := fun x y H Q => ∃ i j, x = .str i ∧ y = .str j ∧ Q (.bl (if neg then !(!(Builtin.Str.occurrences j i 0 j.length 1).isEmpty) else !(Builtin.Str.occurrences j i 0 j.length 1).isEmpty)) H
def rInA (K : PySem.W.Frag) : R2 := fun x y H Q => rInS x y H Q ∨ rIn K false x y H Q
def rNotInA (K : PySem.W.Frag) : R2 := fun x y H Q => rNotInS x y H Q ∨ rIn K true x y H Q
theorem op_inA : OpR Xc (compareOp .In) (rInA Xc.K) := orR op_inS op_in_seq
theorem op_notInA : OpR Xc (compareOp .NotIn) (rNotInA Xc.K) := orR op_notInS op_notIn_seq
def rIsA : R2 := fun x y H Q => rIsN x y H Q ∨ rIsB x y H Q
def rNotA : R2 := fun x y H Q => rNotN x y H Q ∨ rNotB x y H Q
theorem op_isA : OpR Xc (compareOp .Is) rIsA := orR op_isN1 op_isBl
theorem op_notA : OpR Xc (compareOp .IsNot) rNotA := orR op_notN1 op_notBl
def rSubI : R2 := rI0 fun i j => .int (i - j)
theorem op_subA : OpR Xc (binaryOp .Sub) rSubI := op_sub
def rMulI : R2 := rI CMulW fun i j => .int (i * j)
theorem op_mulA : OpR Xc (binaryOp .Mult) rMulI := op_mulW
def rModI : R2 := rI (fun _ j => 0 < j) fun i j => .int (i % j)
theorem op_modA : OpR Xc (binaryOp .Mod) rModI := op_mod
def rDivI : R2 := rI CDivW fun i j => .int (i / j)
theorem op_divA : OpR Xc (binaryOp .FloorDiv) rDivI := op_fdivW
def rPowI : R2 := rI CPow fun i j => .int (i ^ j.toNat)
theorem op_powA : OpR Xc (binaryOp .Pow) rPowI := op_pow
end
section
variable {K : PySem.W.Frag} {ms : Ms} {P : Dat → Ms → Prop}
/-! ### operators by data -/
theorem d2_intI0 {g : Int → Int → V} {h : Int → Int → Dat} (hg : ∀ (W : Wd) i j, Rep K W (g i j) (h i j)) {i j : Int} (q : P (h i j) ms) : D2 K (rI0 g) (.int i) (.int j) ms P := fun W G H v w Q gd rx ry k => by
  cases rx; cases ry
  exact ⟨i, j, rfl, rfl, k W _ _ H ms (Le.refl W) gd (hg W i j) q⟩
theorem d2_intI {C : Int → Int → Prop} {g : Int → Int → V} {h : Int → Int → Dat} (hg : ∀ (W : Wd) i j, Rep K W (g i j) (h i j)) {i j : Int} (hc : C i j) (q : P (h i j) ms) : D2 K (rI C g) (.int i) (.int j) ms P := fun W G H v w Q gd rx ry k => by
  cases rx; cases ry
  exact ⟨i, j, rfl, rfl, hc, k W _ _ H ms (Le.refl W) gd (hg W i j) q⟩
theorem D2.inl {r r' : R2} {x y : Dat} (h : D2 K r x y ms P) : D2 K (fun x y H Q => r x y H Q ∨ r' x y H Q) x y ms P := fun W G H v w Q gd rx ry k => .inl (h W G H v w Q gd rx ry k)
theorem D2.inr {r r' : R2} {x y : Dat} (h : D2 K r' x y ms P) : D2 K (fun x y H Q => r x y H Q ∨ r' x y H Q) x y ms P := fun W G H v w Q gd rx ry k => .inr (h W G H v w Q gd rx ry k)
theorem d2_addI {i j : Int} (q : P (.int (i + j)) ms) : D2 K rAddA (.int i) (.int j) ms P := D2.inl (d2_intI0 (h := fun i j => .int (i + j)) (fun _ _ _ => .int _) q)
theorem d2_addS {i j : Str} (hl : i.length + j.length ≤ 1000000) (q : P (.str (i ++ j)) ms) : D2 K rAddA (.str i) (.str j) ms P := D2.inr (D2.inl fun W G H v w Q gd rx ry k => by
  cases rx; cases ry
  exact ⟨i, j, rfl, rfl, size_of hl, k W _ _ H ms (Le.refl W) gd (.str _) q⟩)
theorem repL_app {W : Wd} {vs ws : List V} {ds es : List Dat} (a : RepL K W vs ds) (b : RepL K W ws es) : RepL K W (vs ++ ws) (ds ++ es) := de_g.repL_append a b
theorem d2_addL {xs ys : List Dat} (hl : xs.length + ys.length ≤ 1000000) (q : P (.lst (xs ++ ys)) ms) : D2 K rAddA (.lst xs) (.lst ys) ms P := D2.inr (D2.inr fun W G H v w Q gd rx ry k => by
  cases rx with
  | lst e1 r1 => cases ry with
    | lst e2 r2 =>
      refine ⟨_, _, _, _, rfl, rfl, gd.fz _ _ e1, gd.fz _ _ e2, by rw [r1.length, r2.length]; exact size_of hl, fun p hp => ?_⟩
      obtain ⟨g2, l2⟩ := gd.laid (o := .lst _) hp
      exact k _ _ _ _ _ l2 g2 (.lst upd_same (RepL.mono l2 _ _ (repL_app r1 r2))) q)
theorem d2_leI {i j : Int} (q : P (.bl (decide (i ≤ j))) ms) : D2 K rLeA (.int i) (.int j) ms P := D2.inl (d2_intI0 (h := fun i j => .bl (decide (i ≤ j))) (fun _ _ _ => .bl _) q)
theorem d2_ltI {i j : Int} (q : P (.bl (decide (i < j))) ms) : D2 K rLtA (.int i) (.int j) ms P := D2.inl (d2_intI0 (h := fun i j => .bl (decide (i < j))) (fun _ _ _ => .bl _) q)
theorem d2_geI {i j : Int} (q : P (.bl (decide (j ≤ i))) ms) : D2 K rGeI (.int i) (.int j) ms P := d2_intI0 (h := fun i j => .bl (decide (j ≤ i))) (fun _ _ _ => .bl _) q
theorem d2_gtI {i j : Int} (q : P (.bl (decide (j < i))) ms) : D2 K rGtI (.int i) (.int j) ms P := d2_intI0 (h := fun i j => .bl (decide (j < i))) (fun _ _ _ => .bl _) q
theorem d2_cmpS {p : Str → Str → Bool} {i j : Str} (q : P (.bl (p i j)) ms) : D2 K (rCmpS p) (.str i) (.str j) ms P := fun W G H v w Q gd rx ry k => by
  cases rx; cases ry
  exact ⟨i, j, rfl, rfl, k W _ _ H ms (Le.refl W) gd (.bl _) q⟩
theorem d2_leS {i j : Str} (q : P (.bl (!decide (j.cps.toList < i.cps.toList))) ms) : D2 K rLeA (.str i) (.str j) ms P := D2.inr (d2_cmpS q)
theorem d2_ltS {i j : Str} (q : P (.bl (decide (i.cps.toList < j.cps.toList))) ms) : D2 K rLtA (.str i) (.str j) ms P := D2.inr (d2_cmpS q)
theorem d2_sub {i j : Int} (q : P (.int (i - j)) ms) : D2 K rSubI (.int i) (.int j) ms P := d2_intI0 (h := fun i j => .int (i - j)) (fun _ _ _ => .int _) q
theorem d2_mul {i j : Int} (hc : i.natAbs.log2 + j.natAbs.log2 < 1000000) (q : P (.int (i * j)) ms) : D2 K rMulI (.int i) (.int j) ms P := d2_intI (h := fun i j => .int (i * j)) (fun _ _ _ => .int _) hc q
theorem d2_mod {i j : Int} (hc : 0 < j) (q : P (.int (i % j)) ms) : D2 K rModI (.int i) (.int j) ms P := d2_intI (h := fun i j => .int (i % j)) (fun _ _ _ => .int _) hc q
theorem d2_div {i j : Int} (hc : 0 < j ∧ j.natAbs.log2 < 9000) (q : P (.int (i / j)) ms) : D2 K rDivI (.int i) (.int j) ms P := d2_intI (h := fun i j => .int (i / j)) (fun _ _ _ => .int _) hc q
theorem d2_pow {i j : Int} (hc : 0 ≤ j ∧ j ≤ 1000000 ∧ i.natAbs < 2 ^ 64) (q : P (.int (i ^ j.toNat)) ms) : D2 K rPowI (.int i) (.int j) ms P := d2_intI (h := fun i j => .int (i ^ j.toNat)) (fun _ _ _ => .int _) hc q
/-- is None | is True | is False -/
def isNon : Dat → Bool
  | .non => true
  | _ => false
theorem rep_non {W : Wd} {v : V} {d : Dat} (r : Rep K W v d) : decide (v = V.non) = isNon d := by cases r <;> first | rfl | exact decide_eq_false (fun z => nomatch z)
theorem d2_isN {x : Dat} (q : P (.bl (isNon x)) ms) : D2 K rIsA x .non ms P := fun W G H v w Q gd rx ry k => by
  cases ry
  exact .inl ⟨rfl, by rw [rep_non rx]; exact k W _ _ H ms (Le.refl W) gd (.bl _) q⟩
theorem d2_notN {x : Dat} (q : P (.bl (!isNon x)) ms) : D2 K rNotA x .non ms P := fun W G H v w Q gd rx ry k => by
  cases ry
  exact .inl ⟨rfl, by rw [rep_non rx]; exact k W _ _ H ms (Le.refl W) gd (.bl _) q⟩
theorem d2_isB {a b : Bool} (q : P (.bl (decide (a = b))) ms) : D2 K rIsA (.bl a) (.bl b) ms P := fun W G H v w Q gd rx ry k => by
  cases rx; cases ry
  exact .inr ⟨a, b, rfl, rfl, k W _ _ H ms (Le.refl W) gd (.bl _) q⟩
/-! ### == over data -/
mutual
inductive PyD : Dat → PyData → Prop
  | non : PyD .non .none
  | bl (b : Bool) : PyD (.bl b) (.bool b)
  | int (i : Int) : PyD (.int i) (.int i)
  | str (x : Str) : PyD (.str x) (.str x)
  | lst {xs : List Dat} {ys : List PyData} : PyDL xs ys → PyD (.lst xs) (.list ys)
  | rol {xs : List Dat} {ys : List PyData} : PyDL xs ys → PyD (.rol xs) (.list ys)
  | tup {xs : List Dat} {ys : List PyData} : PyDL xs ys → PyD (.tup xs) (.tuple ys)
inductive PyDL : List Dat → List PyData → Prop
  | nil : PyDL [] []
  | cons {x : Dat} {y : PyData} {xs : List Dat} {ys : List PyData} : PyD x y → PyDL xs ys → PyDL (x :: xs) (y :: ys)
end
mutual
theorem dp_of {W : Wd} {H : Hp} (s : Same W.F H) {d : Dat} {p : PyData} : ∀ (h : PyD d p) (v : V), Rep K W v d → Dp K H v p
  | .non, _, r => by cases r; exact .non
  | .bl b, _, r => by cases r; exact .bl b
  | .int b, _, r => by cases r; exact .int b
  | .str b, _, r => by cases r; exact .str b
  | .lst h, _, r => by cases r with | lst e r => exact .lst (.inl (.inl (s _ _ e))) (dpl_of s h _ r)
  | .rol h, _, r => by cases r with | rol e r => exact .lst (s.seq e) (dpl_of s h _ r)
  | .tup h, _, r => by cases r with | tup e r => exact .tup (Same.tup s e) (dpl_of s h _ r)
theorem dpl_of {W : Wd} {H : Hp} (s : Same W.F H) {ds : List Dat} {ps : List PyData} : ∀ (h : PyDL ds ps) (vs : List V), RepL K W vs ds → DpAll K H vs ps
  | .nil, _, r => by cases r; exact .nil
  | .cons a b, _, r => by cases r with | cons x y => exact .cons (dp_of s a _ x) (dpl_of s b _ y)
end
theorem d2_eqD {x y : Dat} {p p' : PyData} (hx : PyD x p) (hy : PyD y p') (s : SeqAt.shaped p = true) (s' : SeqAt.shaped p' = true) (q : P (.bl (PyData.eqv p p')) ms) : D2 K (rEqA K) x y ms P := fun W G H v w Q gd rx ry k =>
  .inr ⟨p, p', dp_of gd.fz hx v rx, dp_of gd.fz hy w ry, s, s', k W _ _ H ms (Le.refl W) gd (.bl _) q⟩
theorem d2_neD {x y : Dat} {p p' : PyData} (hx : PyD x p) (hy : PyD y p') (s : SeqAt.shaped p = true) (s' : SeqAt.shaped p' = true) (q : P (.bl (!PyData.eqv p p')) ms) : D2 K (rNeA K) x y ms P := fun W G H v w Q gd rx ry k =>
  .inr ⟨p, p', dp_of gd.fz hx v rx, dp_of gd.fz hy w ry, s, s', k W _ _ H ms (Le.refl W) gd (.bl _) q⟩
theorem d2_eqI {i j : Int} (q : P (.bl (decide (i = j))) ms) : D2 K (rEqA K) (.int i) (.int j) ms P := fun W G H v w Q gd rx ry k => by
  cases rx; cases ry
  refine .inl ⟨rfl, k W _ _ H ms (Le.refl W) gd (.bl _) ?_⟩
  rw [show decide (V.int i = V.int j) = decide (i = j) from decide_eq_decide.mpr ⟨V.int.inj, fun z => by rw [z]⟩]
  exact q
theorem d2_eqS {i j : Str} (q : P (.bl (decide (i = j))) ms) : D2 K (rEqA K) (.str i) (.str j) ms P := fun W G H v w Q gd rx ry k => by
  cases rx; cases ry
  refine .inl ⟨rfl, k W _ _ H ms (Le.refl W) gd (.bl _) ?_⟩
  rw [show decide (V.str i = V.str j) = decide (i = j) from decide_eq_decide.mpr ⟨V.str.inj, fun z => by rw [z]⟩]
  exact q
theorem d2_neS {i j : Str} (q : P (.bl (!decide (i = j))) ms) : D2 K (rNeA K) (.str i) (.str j) ms P := fun W G H v w Q gd rx ry k => by
  cases rx; cases ry
  refine .inl ⟨rfl, k W _ _ H ms (Le.refl W) gd (.bl _) ?_⟩
  rw [show decide (V.str i = V.str j) = decide (i = j) from decide_eq_decide.mpr ⟨V.str.inj, fun z => by rw [z]⟩]
  exact q
theorem d2_neI {i j : Int} (q : P (.bl (!decide (i = j))) ms) : D2 K (rNeA K) (.int i) (.int j) ms P := fun W G H v w Q gd rx ry k => by
  cases rx; cases ry
  refine .inl ⟨rfl, k W _ _ H ms (Le.refl W) gd (.bl _) ?_⟩
  rw [show decide (V.int i = V.int j) = decide (i = j) from decide_eq_decide.mpr ⟨V.int.inj, fun z => by rw [z]⟩]
  exact q
/-- one sign in a text -/
theorem d2_inS {c : Nat} {z : Str} (q : P (.bl (decide (c ∈ z.cps.toList))) ms) : D2 K (rInA K) (.str (sign1 c)) (.str z) ms P := fun W G H v w Q gd rx ry k => by
  cases rx; cases ry
  exact .inl ⟨c, z, rfl, rfl, k W _ _ H ms (Le.refl W) gd (.bl _) q⟩
theorem d2_notInS {c : Nat} {z : Str} (q : P (.bl (!decide (c ∈ z.cps.toList))) ms) : D2 K (rNotInA K) (.str (sign1 c)) (.str z) ms P := fun W G H v w Q gd rx ry k => by
  cases rx; cases ry
  exact .inl ⟨c, z, rfl, rfl, k W _ _ H ms (Le.refl W) gd (.bl _) q⟩
/-! ### places -/
theorem atI_rep {W : Wd} {vs : List V} {ds : List Dat} (r : RepL K W vs ds) {i : Int} {d : Dat} (h : atI ds i = some d) : ∃ v, atI vs i = some v ∧ Rep K W v d := by
  unfold atI at h ⊢
  rw [r.length]
  cases e : ixN ds.length i with
  | none => rw [e] at h; cases h
  | some j =>
    rw [e] at h
    exact RepL.getD r j (by simpa using h)
/-- what is read as a list or tuple -/
def SeqV (ms : Ms) (x : Dat) (xs : List Dat) : Prop := x = .lst xs ∨ x = .tup xs ∨ x = .rol xs ∨ ∃ k, x = .cell k ∧ ms[k]? = some (.lst xs)
theorem seq_rep {W : Wd} {G H : Hp} {v : V} {x : Dat} {xs : List Dat} (g : Good K W G H ms) (r : Rep K W v x) (s : SeqV ms x xs) : ∃ a vs, v = .ref a ∧ (SqL K H a vs ∨ SqT K H a vs) ∧ RepL K W vs xs := by
  rcases s with s | s | s | ⟨k, s, e⟩ <;> subst s
  · cases r with | lst e r => exact ⟨_, _, rfl, .inl (.inl (.inl (g.fz _ _ e))), r⟩
  · cases r with | tup e r => exact ⟨_, _, rfl, .inr (Same.tup g.fz e), r⟩
  · cases r with | rol e r => exact ⟨_, _, rfl, .inl (g.fz.seq e), r⟩
  · cases r with
    | cell e2 =>
      obtain ⟨vs, h1, h2⟩ := (show MoOk K W H _ (.lst xs) from g.cl _ _ _ e2 e)
      exact ⟨_, vs, rfl, .inl (SqL.of h1), h2⟩
theorem d2_ix {x d : Dat} {xs : List Dat} {i : Int} (s : SeqV ms x xs) (h : atI xs i = some d) (q : P d ms) : D2 K (rIx K) x (.int i) ms P := fun W G H v w Q gd rx ry k => by
  cases ry
  obtain ⟨a, vs, rfl, hq, rl⟩ := seq_rep gd rx s
  obtain ⟨u, hu, ru⟩ := atI_rep rl h
  rcases hq with hq | hq
  · exact .inl ⟨a, vs, i, u, rfl, rfl, hq, hu, k W _ _ H ms (Le.refl W) gd ru q⟩
  · exact .inr (.inl ⟨a, vs, i, u, rfl, rfl, hq, hu, k W _ _ H ms (Le.refl W) gd ru q⟩)
theorem d2_ixS {z : Str} {i : Int} {c : Nat} (hl : z.length ≤ 1000000) (h : atI z.cps.toList i = some c) (q : P (.str (sign1 c)) ms) : D2 K (rIx K) (.str z) (.int i) ms P := fun W G H v w Q gd rx ry k => by
  cases rx; cases ry
  exact .inr (.inr ⟨z, i, c, rfl, rfl, size_of hl, h, k W _ _ H ms (Le.refl W) gd (.str _) q⟩)
/-! ### calls -/
def rLenK (K : PySem.W.Frag) : List V → Hp → VK → Prop := fun ws H Q => ∃ x n, ws = [x] ∧ LenV K x H n ∧ Q (.int n) H
theorem dr_len {x : Dat} {xs : List Dat} (s : SeqV ms x xs) (q : P (.int xs.length) ms) : DR K (rLenK K) [x] ms P := fun W G H vs Q gd r k => by
  cases r with
  | cons r1 r2 =>
    cases r2
    obtain ⟨a, vs, rfl, hq, rl⟩ := seq_rep gd r1 s
    refine ⟨.ref a, xs.length, rfl, ?_, k W _ _ H ms (Le.refl W) gd (.int _) q⟩
    rcases hq with hq | hq
    · exact .inl ⟨vs, hq, rl.length.symm⟩
    · exact .inr ⟨vs, hq, rl.length.symm⟩
theorem dr_lenS {z : Str} (hl : z.length ≤ 1000000) (q : P (.int z.length) ms) : DR K (rLenK K) [.str z] ms P := fun W G H vs Q gd r k => by
  cases r with
  | cons r1 r2 =>
    cases r2; cases r1
    exact ⟨.str z, z.length, rfl, ⟨size_of hl, rfl⟩, k W _ _ H ms (Le.refl W) gd (.int _) q⟩
theorem blsRep {W : Wd} : ∀ {vs : List V} {bs : List Bool}, RepL K W vs (bs.map Dat.bl) → vs = bs.map V.bl
  | _, [], h => by cases h; rfl
  | _, b :: bs, h => by cases h with | cons x y => cases x; rw [blsRep y]; rfl
theorem intsRep {W : Wd} : ∀ {vs : List V} {bs : List Int}, RepL K W vs (bs.map Dat.int) → vs = bs.map V.int
  | _, [], h => by cases h; rfl
  | _, b :: bs, h => by cases h with | cons x y => cases x; rw [intsRep y]; rfl
theorem strsRep {W : Wd} : ∀ {vs : List V} {bs : List Str}, RepL K W vs (bs.map Dat.str) → vs = bs.map V.str
  | _, [], h => by cases h; rfl
  | _, b :: bs, h => by cases h with | cons x y => cases x; rw [strsRep y]; rfl
theorem lstSq {W : Wd} {G H : Hp} {v : V} {x : Dat} {xs : List Dat} (g : Good K W G H ms) (r : Rep K W v x) (s : x = .lst xs ∨ x = .rol xs ∨ ∃ k, x = .cell k ∧ ms[k]? = some (.lst xs)) : ∃ a vs, v = .ref a ∧ SqL K H a vs ∧ RepL K W vs xs := by
  rcases s with s | s | ⟨k, s, e⟩ <;> subst s
  · cases r with | lst e r => exact ⟨_, _, rfl, .inl (.inl (g.fz _ _ e)), r⟩
  · cases r with | rol e r => exact ⟨_, _, rfl, g.fz.seq e, r⟩
  · cases r with
    | cell e2 =>
      obtain ⟨vs, h1, h2⟩ := (show MoOk K W H _ (.lst xs) from g.cl _ _ _ e2 e)
      exact ⟨_, vs, rfl, SqL.of h1, h2⟩
theorem dr_all {bs : List Bool} (q : P (.bl (bs.all id)) ms) : DR K (rAll K) [.lst (bs.map Dat.bl)] ms P := fun W G H vs Q gd r k => by
  cases r with
  | cons r1 r2 =>
    cases r2
    obtain ⟨a, vs, rfl, hq, rl⟩ := lstSq gd r1 (.inl rfl)
    rw [blsRep rl] at hq
    exact ⟨a, bs, rfl, hq, k W _ _ H ms (Le.refl W) gd (.bl _) q⟩
theorem dr_any {bs : List Bool} (q : P (.bl (bs.any id)) ms) : DR K (rAny K) [.lst (bs.map Dat.bl)] ms P := fun W G H vs Q gd r k => by
  cases r with
  | cons r1 r2 =>
    cases r2
    obtain ⟨a, vs, rfl, hq, rl⟩ := lstSq gd r1 (.inl rfl)
    rw [blsRep rl] at hq
    exact ⟨a, bs, rfl, hq, k W _ _ H ms (Le.refl W) gd (.bl _) q⟩
theorem dr_sum {ns : List Int} (q : P (.int ns.sum) ms) : DR K (rSum K) [.lst (ns.map Dat.int)] ms P := fun W G H vs Q gd r k => by
  cases r with
  | cons r1 r2 =>
    cases r2
    obtain ⟨a, vs, rfl, hq, rl⟩ := lstSq gd r1 (.inl rfl)
    rw [intsRep rl] at hq
    exact ⟨a, ns, rfl, hq, k W _ _ H ms (Le.refl W) gd (.int _) q⟩
/-- a datum's built-in type -/
def tyName : Dat → Option String
  | .non => some "NoneType"
  | .bl _ => some "bool"
  | .int _ => some "int"
  | .str _ => some "str"
  | .lst _ => some "list"
  | .rol _ => none
  | .tup _ => none
  | .dct _ => some "dict"
  | _ => none
end
end DL
namespace DL
open PySem PySem.Spec PyProof.Rows L2
theorem bt_len : bootBuiltins "len" = some (.builtin "len") := by decide +kernel
theorem bt_all : bootBuiltins "all" = some (.builtin "all") := by decide +kernel
theorem bt_any : bootBuiltins "any" = some (.builtin "any") := by decide +kernel
theorem bt_sum : bootBuiltins "sum" = some (.builtin "sum") := by decide +kernel
theorem bt_abs : bootBuiltins "abs" = some (.builtin "abs") := by decide +kernel
theorem bt_ord : bootBuiltins "ord" = some (.builtin "ord") := by decide +kernel
theorem bt_isinstance : bootBuiltins "isinstance" = some (.builtin "isinstance") := by decide +kernel
theorem bt_repr : bootBuiltins "repr" = some (.builtin "repr") := by decide +kernel
theorem bt_max : bootBuiltins "max" = some (.builtin "max") := by decide +kernel
theorem bt_min : bootBuiltins "min" = some (.builtin "min") := by decide +kernel
theorem bt_int : bootBuiltins "int" = some (.type "int") := by decide +kernel
theorem bt_str : bootBuiltins "str" = some (.type "str") := by decide +kernel
theorem bt_list : bootBuiltins "list" = some (.type "list") := by decide +kernel
theorem bt_tuple : bootBuiltins "tuple" = some (.type "tuple") := by decide +kernel
theorem bt_bool : bootBuiltins "bool" = some (.type "bool") := by decide +kernel
theorem bt_dict : bootBuiltins "dict" = some (.type "dict") := by decide +kernel
section
variable {X : Cx}
/-- a module's constant -/
theorem pe_gl {x : Str} {v : V} {pos : Pos} (hg : Gl X x) (h : ∃ u, X.mg x = some u ∧ RelV v u) (hd : (x == ("__debug__" : Str)) = false := by decide) : PE X (.Name x pos) (tC v) := by
  obtain ⟨u, hm, r⟩ := h
  exact pe_glob hg hm r hd
/-- slices of any kind -/
def rSlA (K : PySem.W.Frag) : V → Option Int → Option Int → Hp → VK → Prop := fun x lo hi H Q => rSlL K x lo hi H Q ∨ (rSlS x lo hi H Q ∨ rSlT K x lo hi H Q)
theorem sl_A : SlR X (rSlA X.K) := sl_list.or (sl_str.or sl_tup)
/-- int(..) of an int, a bool, a text -/
def rIntA : List V → Hp → VK → Prop := fun xs H Q => ((∃ i, xs = [.int i] ∧ Q (.int i) H) ∨ ∃ k, xs = [.bl k] ∧ Q (.int (if k then 1 else 0)) H) ∨ ∃ a n, xs = [.str a] ∧ PySem.intText? a = some n ∧ a.length ≤ 640 ∧ Q (.int n) H
theorem call_intA : CallR X (.type "int") rIntA := orC call_int1 call_int_str
end
section
variable {K : PySem.W.Frag} {ms : Ms} {P : Dat → Ms → Prop} {R : WX} {e : Ev} {X : XP} {ta : TE} {tl th : TO}
theorem dr_int {i : Int} (q : P (.int i) ms) : DR K rIntA [.int i] ms P := fun W G H vs Q gd r k => by
  cases r with
  | cons r1 r2 =>
    cases r2; cases r1
    exact .inl (.inl ⟨i, rfl, k W _ _ H ms (Le.refl W) gd (.int _) q⟩)
theorem dr_intS {z : Str} {n : Int} (h : PySem.intText? z = some n) (hl : z.length ≤ 640) (q : P (.int n) ms) : DR K rIntA [.str z] ms P := fun W G H vs Q gd r k => by
  cases r with
  | cons r1 r2 =>
    cases r2; cases r1
    exact .inr ⟨z, n, rfl, h, hl, k W _ _ H ms (Le.refl W) gd (.int _) q⟩
theorem dr_abs {i : Int} (q : P (.int (if i < 0 then -i else i)) ms) : DR K (fun xs H Q => ∃ i, xs = [.int i] ∧ Q (.int (if i < 0 then -i else i)) H) [.int i] ms P := fun W G H vs Q gd r k => by
  cases r with
  | cons r1 r2 =>
    cases r2; cases r1
    exact ⟨i, rfl, k W _ _ H ms (Le.refl W) gd (.int _) q⟩
theorem dr_ord {c : Nat} (q : P (.int (c : Int)) ms) : DR K (fun xs H Q => ∃ x : Str, xs = [.str x] ∧ x.length = 1 ∧ Q (.int (x.cps.getD 0 0 : Nat)) H) [.str (sign1 c)] ms P := fun W G H vs Q gd r k => by
  cases r with
  | cons r1 r2 =>
    cases r2; cases r1
    exact ⟨sign1 c, rfl, rfl, k W _ _ H ms (Le.refl W) gd (.int _) q⟩
/-! ### isinstance -/
/-- the name of a datum's built-in type -/
def tyOf (ms : Ms) : Dat → Option String
  | .non => some "NoneType"
  | .bl _ => some "bool"
  | .int _ => some "int"
  | .str _ => some "str"
  | .lst _ => some "list"
  | .rol _ => some "list"
  | .tup _ => some "tuple"
  | .dct _ => some "dict"
  | .cell k => match ms[k]? with
    | some (.lst _) => some "list"
    | some (.dct _) => some "dict"
    | _ => none
  | _ => none
theorem tyx_of {W : Wd} {G H : Hp} (g : Good K W G H ms) {v : V} {d : Dat} {T : String} (h : tyOf ms d = some T) (r : Rep K W v d) : TyX K H v (.type T) := by
  cases d with
  | non => cases r; cases h; exact .base .non
  | bl b => cases r; cases h; exact .base (.bl _)
  | int b => cases r; cases h; exact .base (.int _)
  | str b => cases r; cases h; exact .base (.str _)
  | lst b => cases h; cases r with | lst e _ => exact .base (.lst (g.fz _ _ e))
  | dct b => cases h; cases r with | dct e _ => exact .base (.dK (g.fz _ _ e))
  | rol b =>
    cases h
    cases r with
    | rol e _ =>
      rcases e with (e | ⟨o, e⟩) | ⟨o, its, n, e, c, _⟩
      · exact .base (.lst (g.fz _ _ e))
      · exact .base (.frz (g.fz _ _ e))
      · exact .kList e c
  | tup b =>
    cases h
    cases r with
    | tup e _ =>
      rcases e with (e | ⟨o, e⟩) | ⟨o, its, n, e, c, _⟩
      · exact .base (.tup (g.fz _ _ e))
      · exact .fTuple (g.fz _ _ e)
      · exact .kTuple e c
  | cell k =>
    cases r with
    | cell e =>
      have h' : (match ms[k]? with | some (.lst _) => some "list" | some (.dct _) => some "dict" | _ => none) = some T := h
      cases hm : ms[k]? with
      | none => rw [hm] at h'; cases h'
      | some m =>
        rw [hm] at h'
        have o := g.cl k _ m e hm
        cases m with
        | lst xs => cases h'; obtain ⟨vs, e, _⟩ := o; exact .base (.lst e)
        | dct xs => cases h'; obtain ⟨vs, e, _⟩ := o; exact .base (.dK e)
        | ins C xs => cases h'
  | exc _ _ => cases h
  | hot _ _ _ _ => cases h
  | ref _ => cases h
  | ty _ => cases h
end
end DL
namespace DL
open PySem PySem.Spec PyProof.Rows L2
/-! ### error classes of the text -/
structure ExT (K : PySem.W.Frag) (C : Addr) : Prop where
  o : OexC K C
  ga : PySem.W.findIn K (.ref C) "__getattribute__" = some (some (.builtin "BaseException.__getattribute__"))
  gg : PySem.W.findIn K (.ref C) "__getattr__" = some none
  hd : PySem.W.hasDictIn K C = true
  cl : PySem.W.findIn K (.ref C) "__class__" = some (some (.builtin "object.__class__"))
  mo : PySem.W.mroIn K C (.type "object") = some true
  sp : PySem.W.specialIn K (.builtin "object.__class__") "__get__" = some (some (.builtin "getset_descriptor.__get__"))
  tk : PySem.W.takesIn K (.builtin "object.__class__") = some true
  nt : ∀ n ∈ (["str", "tuple", "list", "int", "bool", "dict"] : List String), PySem.W.kitOne K (.ref C) (.type n) = some false
theorem ExT.x {K : PySem.W.Frag} {C : Addr} (T : ExT K C) : XfC K C := ⟨T.ga, T.gg, T.o.exC, T.hd⟩
section
variable {Xc : Cx}
/-- the object of an error that is held as a value -/
theorem exc_at {pins : List (Addr × Obj)} {σ : L2.St} {H : Hp} {s : Shared} {a C dx : Addr} {fs : List (Str × V)} (I : Inv Xc pins σ H s) (e : H a = some (exo a C (some dx))) (e2 : H dx = some (exd dx fs)) :
    ∃ (ox od : Obj) (mA : Str → Option Value), PySem.W.InstAt s.heap a ox C (some od) ∧ s.heap.Ns1 dx mA ∧ (∀ f, RelO (fs.lookup f) (mA f)) ∧ s.heap.get? dx = some od := by
  obtain ⟨t1, h1⟩ := exo_at I.hok e
  obtain ⟨mA, hn, hr⟩ := exd_at I.hok e2
  obtain ⟨od, _, _, ho, _⟩ := id hn
  exact ⟨_, od, mA, ⟨h1, rfl, rfl, ho⟩, hn, hr, ho⟩
def rIsiE (K : PySem.W.Frag) : List V → Hp → VK → Prop := fun xs H Q => ∃ (a C dx : Addr) (fs : List (Str × V)) (c : V) (u : Value) (b : Bool), xs = [.ref a, c] ∧ ClsV c u ∧ ExT K C ∧ H a = some (exo a C (some dx)) ∧ H dx = some (exd dx fs) ∧
  PySem.W.kitOne K (.ref C) u = some b ∧ Q (.bl b) H
theorem call_isiE : CallR Xc (.builtin "isinstance") (rIsiE Xc.K) := by
  intro pins s σ H xs us Q I r h
  obtain ⟨a, C, dx, fs, c, u, b, rfl, k, T, e1, e2, e, q⟩ := h
  cases r with
  | cons ra rr => cases rr with
    | cons rc rr =>
      cases rr
      obtain rfl := k.eq rc
      cases ra
      obtain ⟨ox, od, mA, J, _⟩ := exc_at I e1 e2
      obtain ⟨cd, hc, _⟩ := PySem.W.any_some T.hd
      exact PySem.W.kia_one (PySem.W.kitx_exc (by rw [hc]; rfl) T.ga T.gg T.o.exC T.cl T.sp T.tk T.mo) I.kIn J e (fun z => nomatch z) fun tk => ⟨.bl b, H, I.tok tk, rfl, q⟩
def rIsiTE (K : PySem.W.Frag) : List V → Hp → VK → Prop := fun xs H Q => ∃ (a C dx : Addr) (fs : List (Str × V)) (tp : Addr) (cs : List V) (us : List Value) (b : Bool), xs = [.ref a, .ref tp] ∧ H tp = some (.tup cs) ∧ Paired ClsV cs us ∧ ExT K C ∧ H a = some (exo a C (some dx)) ∧ H dx = some (exd dx fs) ∧
  PySem.W.kitAny K (.ref C) us = some b ∧ Q (.bl b) H
theorem call_isiTE : CallR Xc (.builtin "isinstance") (rIsiTE Xc.K) := by
  intro pins s σ H xs us Q I r h
  obtain ⟨a, C, dx, fs, tp, cs, ws, b, rfl, hT, k, T, e1, e2, e, q⟩ := h
  cases r with
  | cons ra rr => cases rr with
    | cons rc rr =>
      cases rr
      cases ra; cases rc
      obtain ⟨ox, od, mA, J, _⟩ := exc_at I e1 e2
      obtain ⟨cd, hc, _⟩ := PySem.W.any_some T.hd
      obtain ⟨_, its, rv, ob, h1, h2, n, h3⟩ := (show ObjOk Xc.prog Xc.w H s.heap tp (.tup cs) from I.hok tp _ hT)
      obtain rfl := ClsV.all k rv
      obtain ⟨oc, od', dt, sl⟩ := ob
      dsimp only at h2 h3
      subst h2; subst h3
      exact PySem.W.kia_tup (PySem.W.kitx_exc (by rw [hc]; rfl) T.ga T.gg T.o.exC T.cl T.sp T.tk T.mo) I.kIn J h1 e (fun z => nomatch z) fun tk => ⟨.bl b, H, I.tok tk, rfl, q⟩
def rIsiX (K : PySem.W.Frag) : List V → Hp → VK → Prop := fun xs H Q => (rIsi K xs H Q ∨ rIsiT K xs H Q) ∨ (rIsiE K xs H Q ∨ rIsiTE K xs H Q)
theorem call_isiX : CallR Xc (.builtin "isinstance") (rIsiX Xc.K) := orC (orC call_isi call_isiT) (orC call_isiE call_isiTE)
/-- x.f of such an error -/
def tFldE (K : PySem.W.Frag) (f : Str) (te : TE) : TE := fun σ H Q => te σ H fun x H1 => ∃ (a C dx : Addr) (fs : List (Str × V)) (v : V), x = .ref a ∧ ExT K C ∧ PySem.W.findIn K (.ref C) f = some none ∧ H1 a = some (exo a C (some dx)) ∧ H1 dx = some (exd dx fs) ∧ fs.lookup f = some v ∧ Q v H1
theorem pe_fldE {e : Expr} {te : TE} {pos : Pos} {f : Str} (he : PE Xc e te) (hb : attributeBase e f Xc.env (eval e Xc.env) = eval e Xc.env := by rfl) : PE Xc (.Attribute e f pos) (tFldE Xc.K f te) := by
  refine ⟨fun pins s σ H Q I h => attr_of hb (thn (he.run pins s σ H _ I h) fun u s1 hh => ?_)⟩
  obtain ⟨x, H1, I1, rx, a, C, dx, fs, v, ex, T, hno, e1, e2, l, q⟩ := hh
  subst ex
  obtain rfl : u = Value.ref a := rx
  obtain ⟨ox, od, mA, J, hns, hr, hod⟩ := exc_at I1 e1 e2
  obtain ⟨od2, ho2, hl⟩ := lookIn_ns hns
  rw [hod] at ho2; cases ho2
  obtain ⟨w, hw, rw'⟩ := RelO.some_of (v := v) (o := mA f) (by rw [← l]; exact hr f)
  exact HandSPX.exc_get I1.kIn J T.ga T.gg T.o.exC (PySem.W.findObj_own T.hd hno rfl (by rw [hl, hw])) (handed_of rw') ⟨v, H1, I1.tok _, rw', q⟩
/-! ### L.__init__(self, ..) of the base class L -/
structure LoT (K : PySem.W.Frag) (mg : Str → Option Value) (nm : Str) (L : Addr) : Prop where
  m : mg nm = some (.ref L)
  sg : PySem.W.specialIn K (.ref L) "__getattribute__" = some (some (.builtin "type.__getattribute__"))
  tp : PySem.W.typeIn K (.ref L) = some (.type "type")
  rd : PySem.W.readsIn K L (.type "type") = true
  fc : PySem.W.findCls K (.ref L) (.type "type") "__init__" = some (.val (.builtin "ValueError.__init__"))
theorem pe_linit {nm : Str} {L : Addr} {e : Expr} {es : List Expr} {ta : TA} {p1 p2 pos : Pos} {pl : Sem Bool} (T : LoT Xc.K Xc.mg nm L) (hg : Gl Xc nm) (ha : PA Xc (e :: es) ta) (hdb : (nm == ("__debug__" : Str)) = false := by decide)
    (hc : eval (.Call (.Attribute (.Name nm p1) "__init__" p2) (e :: es) [] pos) Xc.env = (do
      let ov ← eval (.Name nm p1) Xc.env
      standAt p2.atName
      let (f, first) ← holding [ov] (getMethod ov "__init__" pl)
      callWith pos f first (backTo pos (starEach (e :: es) Xc.env)) (backToKw pos (keywordEach [] Xc.env))) := by rfl)
    (he : starEach (e :: es) Xc.env = (false, eval e Xc.env) :: starEach es Xc.env := by rfl) (hpl : (backTo pos (starEach es Xc.env)).any (·.1) = false := by rfl) :
    PE Xc (.Call (.Attribute (.Name nm p1) "__init__" p2) (e :: es) [] pos) (tVeI Xc.K ta) := by
  refine ⟨fun pins s σ H Q I h => PySem.W.methodCall_KW (ld_glob I hg T.m ?_ hdb) hc⟩
  obtain ⟨m, fr⟩ := I.fr
  refine PySem.W.method_cls I.kIn T.sg (PySem.W.cls_val fr I.ok.mod.kin T.tp T.rd T.fc (by decide +kernel) ?_)
  show wpAny _ _ (callWith pos (Value.builtin "ValueError.__init__") [] (backTo pos (starEach (e :: es) Xc.env)) []) _ _ _
  refine PyProof.Rows.callWith_method1 (thn (ha.run pos pins _ σ H _ (I.tok _) h) fun us s1 hh => ?_) he hpl
  obtain ⟨vs, H1, I1, r1, a, C, ws, ev, hl, T', ea, q⟩ := hh
  subst ev
  cases r1 with
  | @cons _ u0 _ ur ra rr =>
    obtain rfl : u0 = Value.ref a := ra
    refine oinit_ok T' I1 ea ?_ fun s' J => ⟨.non, H1, J, rfl, q⟩
    rw [← Paired.length rr, sizeLine_eq]
    omega
/-! ### C(e, ..) as a value -/
def tNewE (C : Addr) (sp : Sp) (ta : TA) : TE := fun σ H Q => ta σ H fun vs H1 => vs.length ≤ 1000 ∧ ∀ a, H1 a = none → sp (.ref a :: vs) (upd H1 a (exo a C none)) (fun v H2 => v = .non ∧ Q (.ref a) H2) E0
variable {cx : CXT} {x : Str} {e : Expr} {es : List Expr} {ta : TA} {p pos : Pos} {C fI : Addr} {k : Nat} {fd : FuncData} {ps : List Str} {sp : Sp}
theorem mk_run {pins : List (Addr × Obj)} {σ : L2.St} {H1 : Hp} {s1 : Shared} {vs : List V} {us : List Value} {Qr : V → Hp → Prop} {Qf : Value → Shared → Prop} (T : OexC Xc.K C) (iC : PySem.W.findIn Xc.K (.ref C) "__init__" = some (some (.ref fI))) (tI : PySem.W.typeIn Xc.K (.ref fI) = some (.type "function"))
    (F1 : FnOk Xc.prog Xc.w Xc.K Xc.mg Xc.base cx k fI fd ps sp) (hr : Room (k + 1) Xc.A) (hb : Binds Xc.K fd ps []) (hx : Passes cx Xc E0) (I1 : Inv Xc pins σ H1 s1) (r1 : Vals vs us) (hz : vs.length ≤ 1000)
    (hq : sp (.ref (s1.heap.objs.size + 1) :: vs) (upd H1 (s1.heap.objs.size + 1) (exo (s1.heap.objs.size + 1) C none)) (fun v H2 => v = .non ∧ Qr (.ref (s1.heap.objs.size + 1)) H2) E0)
    (fin : ∀ (H2 : Hp) (s2 : Shared), CE Xc.stack Xc.prog Xc.w (upd H1 (s1.heap.objs.size + 1) (exo (s1.heap.objs.size + 1) C none)) { s1 with heap := (s1.heap.push (PySem.W.kdv_tup us)).push (PySem.HandSPX.excO C s1.heap.objs.size) } (fun v H2' => v = .non ∧ H2' = H2) .none s2 →
      Inv Xc pins σ H2 s2 → Qr (.ref (s1.heap.objs.size + 1)) H2 → Qf (.ref (s1.heap.objs.size + 1)) s2) :
    wpAny (model Xc.prog Xc.w) Xc.A (call (.ref C) us) Qf Xc.xe s1 := by
  obtain ⟨nm, q, N, bs, bm, sn, sub, ab, col, dd, k0, k1, k2, k3, k5, hC, hbm⟩ := T.cls
  obtain ⟨hp, g, dr, tk, os⟩ := s1
  have le1 : hp.objs.size ≤ hp.objs.size + 1 := Nat.le_succ _
  have hget : ((hp.push (PySem.W.kdv_tup us)).push (PySem.HandSPX.excO C hp.objs.size)).get? (hp.objs.size + 1) = some (PySem.HandSPX.excO C hp.objs.size) := by heap_get
  have I2 : Inv Xc pins σ (upd H1 (hp.objs.size + 1) (exo (hp.objs.size + 1) C none)) ⟨(hp.push (PySem.W.kdv_tup us)).push (PySem.HandSPX.excO C hp.objs.size), g, dr, tk, os⟩ :=
    Inv.laid (t' := tk) (a := hp.objs.size + 1) (o := exo (hp.objs.size + 1) C none) (h' := (hp.push (PySem.W.kdv_tup us)).push (PySem.HandSPX.excO C hp.objs.size)) I1 (fun b o e => Heap.get?_push_of_some _ (Heap.get?_push_of_some _ e)) le1 (exo_ok hget)
  have rr : Vals (V.ref (hp.objs.size + 1) :: vs) (Value.ref (hp.objs.size + 1) :: us) := .cons rfl r1
  have n : (Value.ref (hp.objs.size + 1) :: us).length = ps.length := rr.length.symm.trans (F1.len _ _ _ _ hq)
  have few : us.length ≤ sizeLine := by
    rw [← Paired.length r1, sizeLine_eq]; omega
  have bb := hb _ (Value.ref (hp.objs.size + 1) :: us) I2.kIn (by rw [List.append_nil]; exact n)
  rw [List.append_nil] at bb
  refine wpAny_call (PySem.HandSPX.call_own F.excBase_ValueError (fun Y => PySem.HandSPX.refsVE_contains Y bm hbm) (I1.kIn _ _ hC) (PySem.W.looks_findIn I1.kIn iC) (fun self => PySem.W.bind_fn I1.kIn self tI) few
    (codeAny_mono (F1.run _ Xc.stack _ _ ⟨Value.ref (hp.objs.size + 1) :: us, []⟩ _ _ _ E0 (hr.make C us []) (I2.env0.make C us []) bb rr hq) fun z s' hz' => ?_))
  match z, hz' with
  | .error er, hz' => exact hx pins σ _ _ er s' I2 hz'
  | .ok (.ret u), hz' =>
    obtain ⟨v, H2, a1, a2, a3, a4, rv, hv, hQ⟩ := hz'
    subst hv
    obtain rfl : u = Value.none := rv
    obtain ⟨v', H3, I3, _, q3⟩ := I2.after (Q := fun v H' => H' = H2) (show CE _ _ _ _ _ _ Value.none s' from ⟨.non, H2, a1, a2, a3, a4, rfl, rfl⟩)
    cases q3
    exact ⟨rfl, fin H2 s' ⟨.non, H2, a1, a2, a3, a4, rfl, rfl, rfl⟩ I3 hQ⟩
  | .ok .next, hz' => exact hz'.elim
  | .ok .brk, hz' => exact hz'.elim
  | .ok .cont, hz' => exact hz'.elim
theorem pe_newE (T : OexC Xc.K C) (iC : PySem.W.findIn Xc.K (.ref C) "__init__" = some (some (.ref fI))) (tI : PySem.W.typeIn Xc.K (.ref fI) = some (.type "function"))
    (F1 : FnOk Xc.prog Xc.w Xc.K Xc.mg Xc.base cx k fI fd ps sp) (hr : Room (k + 1) Xc.A) (hb : Binds Xc.K fd ps []) (hx : Passes cx Xc E0) (hg : Gl Xc x) (hm : Xc.mg x = some (.ref C)) (ha : PA Xc (e :: es) ta)
    (hdb : (x == ("__debug__" : Str)) = false := by decide) (he : starEach (e :: es) Xc.env = (false, eval e Xc.env) :: starEach es Xc.env := by rfl) (hpl : (backTo pos (starEach es Xc.env)).any (·.1) = false := by rfl) :
    PE Xc (.Call (.Name x p) (e :: es) [] pos) (tNewE C sp ta) := ⟨fun pins s σ H Q I h =>
  wpAny_Call_Name_kw (ld_glob I hg hm (PySem.W.callWith_K (h₀ := Xc.base) I.ok.mod.kin T.kC (thn (ha.run pos pins s σ H _ I h) fun us s1 ⟨vs, H1, I1, r, hz, q⟩ =>
    ⟨I1.kIn, mk_run T iC tI F1 hr hb hx I1 r hz (Qr := Q) (q _ (I1.hok.fresh (Nat.le_succ _))) fun H2 s2 _ J hQ => ⟨.ref _, H2, J, rfl, hQ⟩⟩) he hpl) hdb)⟩
/-- raise C(e, ..): the error is let go, its dict stays -/
theorem pmk_newN (T : OexC Xc.K C) (iC : PySem.W.findIn Xc.K (.ref C) "__init__" = some (some (.ref fI))) (tI : PySem.W.typeIn Xc.K (.ref fI) = some (.type "function"))
    (F1 : FnOk Xc.prog Xc.w Xc.K Xc.mg Xc.base cx k fI fd ps sp) (hr : Room (k + 1) Xc.A) (hb : Binds Xc.K fd ps []) (hx : Passes cx Xc E0) (hg : Gl Xc x) (hm : Xc.mg x = some (.ref C)) (ha : PA Xc (e :: es) ta)
    (hdb : (x == ("__debug__" : Str)) = false := by decide) (he : starEach (e :: es) Xc.env = (false, eval e Xc.env) :: starEach es Xc.env := by rfl) (hpl : (backTo pos (starEach es Xc.env)).any (·.1) = false := by rfl) :
    L2N.PMk Xc (.Call (.Name x p) (e :: es) [] pos) (tMkO C sp [] ta) := by
  intro pins s σ H Q I h
  refine wpAny_Call_Name_kw (ld_glob I hg hm (PySem.W.callWith_K (h₀ := Xc.base) I.ok.mod.kin T.kC (thn (ha.run pos pins s σ H _ I h) fun us s1 hh => ?_) he hpl) hdb)
  obtain ⟨vs, H1, I1, r, hz, q⟩ := hh
  have hn := I1.hok.fresh (Nat.le_succ s1.heap.objs.size)
  have q1 := q _ hn
  rw [List.append_nil] at q1
  refine ⟨I1.kIn, mk_run T iC tI F1 hr hb hx I1 r hz (Qr := fun _ H2 => ∃ (d : Addr) (fs : List (Str × V)), H2 (s1.heap.objs.size + 1) = some (exo (s1.heap.objs.size + 1) C (some d)) ∧ H2 d = some (exd d fs) ∧ H1 d = none ∧ Q (.ref C) (some d) (upd (L2.del H2 (s1.heap.objs.size + 1)) d (.xd fs))) q1 fun H2 s2 ce J hQ => ?_⟩
  obtain ⟨d, fs, ea, ed, hd1, hq⟩ := hQ
  obtain ⟨v, H2', o2, b2, un2, ok2, _, _, rfl⟩ := ce
  obtain ⟨hp, g, dr, tk, os⟩ := s1
  obtain ⟨h2, g2, d2, t2, os2⟩ := s2
  obtain ⟨t0, Gh, J2, kG, ge, hoe, na⟩ := mk_end0 (d2 := d2) (t2 := t2) I1 (Nat.le_succ _) (fun b o e => Heap.get?_push_of_some _ (Heap.get?_push_of_some _ e)) un2 ok2 o2 b2 ea ed hd1
  exact ⟨hp.objs.size + 1, _, _, ⟨Gh, g2, d2, t2, os2⟩, _, .ref C, some d, rfl, J2, kG, ge, hoe, ⟨rfl, rfl, fun vs hv => by cases hv; rfl⟩, rfl, rfl, na, rfl, b2, raises_own T.exC T.tyC, hq⟩
end
end DL
namespace DL
open PySem PySem.Spec PyProof.Rows L2
/-! ### __init__ of an error class: L.__init__(self, 'words'); self.f = v (; self.g = u) -/
def spIni1 (K : PySem.W.Frag) (f : Str) : Sp := fun vs H Q _ => ∃ (a C : Addr) (v : V), vs = [.ref a, v] ∧ OexC K C ∧ PySem.W.findIn K (.ref C) f = some none ∧ H a = some (exo a C none) ∧
  ∀ dx, H dx = none → dx ≠ a → Q .non (upd (upd H dx (exd dx [(f, v)])) a (exo a C (some dx)))
def spIni2 (K : PySem.W.Frag) (f g : Str) : Sp := fun vs H Q _ => ∃ (a C : Addr) (v u : V), vs = [.ref a, v, u] ∧ OexC K C ∧ PySem.W.findIn K (.ref C) f = some none ∧ PySem.W.findIn K (.ref C) g = some none ∧ H a = some (exo a C none) ∧
  ∀ dx, H dx = none → dx ≠ a → Q .non (upd (upd (upd H dx (exd dx [(f, v)])) a (exo a C (some dx))) dx (exd dx [(g, u), (f, v)]))
theorem ini1_run {K : PySem.W.Frag} {f : Str} {vs : List V} {H : Hp} {Q : VK} {E : XK} (h : spIni1 K f vs H Q E) {x : Str} {z : Str} :
    tSeq (tDrop (tVeI K (tCons (tVar 0) (tCons (tC (.str z)) tNil)))) (tOst K f (tVar 0) (tVar 1)) { nx := fun _ H' => Q .non H', rt := Q } (L2.start ["self", x] vs) H := by
  obtain ⟨a, C, v, rfl, T, hno, e, k⟩ := h
  exact ⟨_, rfl, a, C, [.str z], rfl, (by show 1 ≤ 1000; decide), T, e, v, rfl, .ref a, rfl, a, C, rfl, T, hno, .inl ⟨e, k⟩⟩
theorem ini2_run {K : PySem.W.Frag} {f g : Str} {vs : List V} {H : Hp} {Q : VK} {E : XK} (h : spIni2 K f g vs H Q E) {x y : Str} {z : Str} :
    tSeq (tDrop (tVeI K (tCons (tVar 0) (tCons (tC (.str z)) tNil)))) (tSeq (tOst K f (tVar 0) (tVar 1)) (tOst K g (tVar 0) (tVar 2))) { nx := fun _ H' => Q .non H', rt := Q } (L2.start ["self", x, y] vs) H := by
  obtain ⟨a, C, v, u, rfl, T, hno, hng, e, k⟩ := h
  refine ⟨_, rfl, a, C, [.str z], rfl, (by show 1 ≤ 1000; decide), T, e, v, rfl, .ref a, rfl, a, C, rfl, T, hno, .inl ⟨e, fun dx hdx ne => ?_⟩⟩
  refine ⟨u, rfl, .ref a, rfl, a, C, rfl, T, hng, .inr ⟨dx, [(f, v)], upd_same, by rw [upd_ne ne, upd_same], (by show 1 ≤ 900; decide), k dx hdx ne⟩⟩
section
variable {K : PySem.W.Frag} {R : WX} {e : Ev} {ms : Ms} {X : XP} {ta te : TE} {tA : TA} {P : Dat → Ms → Prop} {O : Out} {C a d : Addr} {f g : Str} {t : TS} {i : Nat}
theorem laid2 {W : Wd} {G H : Hp} {a dx : Addr} {o1 o2 : HO} (gd : Good K W G H ms) (n1 : H a = none) (n2 : upd H a o1 dx = none) :
    Good K ⟨W.ι, upd (upd W.F dx o2) a o1⟩ G (upd (upd H dx o2) a o1) ms ∧ Le W ⟨W.ι, upd (upd W.F dx o2) a o1⟩ := by
  have ne : dx ≠ a := fun z => by rw [z, upd_same] at n2; cases n2
  have n2' : H dx = none := by rw [upd_ne ne] at n2; exact n2
  obtain ⟨g1, l1⟩ := gd.laid (o := o2) n2'
  obtain ⟨g2, l2⟩ := g1.laid (p := a) (o := o1) (by rw [upd_ne (Ne.symm ne)]; exact n1)
  exact ⟨g2, l1.trans l2⟩
/-- C(d) as a value -/
theorem de_newE1 (hT : OexC K C) (hno : PySem.W.findIn K (.ref C) f = some none) (h : DA K R tA e ms (fun ds m => ∃ d, ds = [d] ∧ P (.exc C [(f, d)]) m) X) : DE K R (tNewE C (spIni1 K f) tA) e ms P X := fun W G σ H Q gd s k x =>
  h W G σ H _ gd s (fun W1 vs ds H1 m1 l1 g1 r1 ⟨d, hd, p⟩ => by
    subst hd
    cases r1 with
    | @cons v0 _ _ _ ra rr =>
      cases rr
      refine ⟨by show 1 ≤ 1000; decide, fun a na => ⟨a, C, v0, rfl, hT, hno, upd_same, fun dx ndx ne => ⟨rfl, ?_⟩⟩⟩
      obtain ⟨g2, l2⟩ := laid2 (o1 := exo a C (some dx)) (o2 := exd dx [(f, v0)]) g1 na (by rw [upd_ne ne] at ndx ⊢; exact ndx)
      have eq : upd (upd (upd H1 a (exo a C none)) dx (exd dx [(f, v0)])) a (exo a C (some dx)) = upd (upd H1 dx (exd dx [(f, v0)])) a (exo a C (some dx)) := by
        funext b
        by_cases h1 : b = a
        · rw [h1, upd_same, upd_same]
        · rw [upd_ne h1, upd_ne h1]
          by_cases h2 : b = dx
          · rw [h2, upd_same, upd_same]
          · rw [upd_ne h2, upd_ne h2, upd_ne h1]
      rw [eq]
      refine k _ _ _ _ _ (l1.trans l2) g2 (.exc (dx := dx) upd_same (by show upd (upd W1.F dx _) a _ dx = _; rw [upd_ne ne, upd_same]) (.cons (Rep.mono l2 _ _ ra) .nil)) p) x
/-- what is raised, as a statement's reading -/
def tRaiseO (C : Addr) (sp : Sp) (R : WX) (tA : TA) : TS := fun _ σ H => tMkO C sp [] tA σ H fun cls d H' => R cls d σ H'
theorem raised1 {W : Wd} {G H : Hp} {v : V} {d : Dat} {Q : XK} (g1 : Good K W G H ms) (hT : OexC K C) (hno : PySem.W.findIn K (.ref C) f = some none) (ra : Rep K W v d)
    (k : ∀ (W' : Wd) (dx : Addr) (H' : Hp), Le W W' → Good K W' G H' ms → W'.F dx = some (.xd [(f, v)]) → Rep K W' v d → Q (.ref C) (some dx) H') (a : Addr) (na : H a = none) :
    spIni1 K f [.ref a, v] (upd H a (exo a C none)) (fun u H2 => u = .non ∧ ∃ (dx : Addr) (fs : List (Str × V)), H2 a = some (exo a C (some dx)) ∧ H2 dx = some (exd dx fs) ∧ H dx = none ∧ Q (.ref C) (some dx) (upd (L2.del H2 a) dx (.xd fs))) (fun _ _ _ => False) := by
  refine ⟨a, C, v, rfl, hT, hno, upd_same, fun dx ndx ne => ⟨rfl, dx, [(f, v)], upd_same, by rw [upd_ne ne, upd_same], by rw [upd_ne ne] at ndx; exact ndx, ?_⟩⟩
  have n2 : H dx = none := by rw [upd_ne ne] at ndx; exact ndx
  have eq : upd (L2.del (upd (upd (upd H a (exo a C none)) dx (exd dx [(f, v)])) a (exo a C (some dx))) a) dx (.xd [(f, v)]) = upd H dx (.xd [(f, v)]) := by
    funext b
    by_cases h2 : b = dx
    · rw [h2, upd_same, upd_same]
    · rw [upd_ne h2, upd_ne h2]
      by_cases h1 : b = a
      · rw [h1, del_same, na]
      · rw [del_ne h1, upd_ne h1, upd_ne h2, upd_ne h1]
  rw [eq]
  obtain ⟨g2, l2⟩ := g1.laid (o := .xd [(f, v)]) n2
  exact k _ dx _ l2 g2 upd_same (Rep.mono l2 _ _ ra)
theorem ds_raise1 (hT : OexC K C) (hno : PySem.W.findIn K (.ref C) f = some none) (h : DA K R tA e ms (fun ds m => ∃ d, ds = [d] ∧ O.ex C [(f, d)] e m) (O.xp e)) : DS K R (tRaiseO C (spIni1 K f) R tA) e ms O := fun W G σ H D gd s ft =>
  h W G σ H _ gd s (fun W1 vs ds H1 m1 l1 g1 r1 ⟨d, hd, p⟩ => by
    subst hd
    cases r1 with
    | cons ra rr =>
      cases rr
      refine ⟨by show 1 ≤ 1000; decide, fun a na => ?_⟩
      exact raised1 (Q := fun cls d H' => R cls d σ H') g1 hT hno ra (fun W' dx H' l' g' hx r' => ft.ex W' σ e C dx _ [(f, d)] H' m1 (l1.trans l') g' ((s.mono l1).mono l') hx (.cons r' .nil) p) a na) (ft.ex.at s)
theorem repF_look {W : Wd} : ∀ {fs : List (Str × V)} {ds : List (Str × Dat)}, RepF K W fs ds → ∀ {f : Str} {d : Dat}, ds.lookup f = some d → ∃ v, fs.lookup f = some v ∧ Rep K W v d
  | _, [], h, f, d, e => by simp at e
  | _, (g, d0) :: ds, h, f, d, e => by
    cases h with
    | cons a b =>
      rw [List.lookup_cons] at e
      by_cases hf : f == g
      · simp only [hf] at e
        cases e
        exact ⟨_, by simp [List.lookup_cons, hf], a⟩
      · have hf' : (f == g) = false := by simpa using hf
        simp only [hf'] at e
        obtain ⟨v, h1, h2⟩ := repF_look b e
        exact ⟨v, by simp only [List.lookup_cons, hf']; exact h1, h2⟩
theorem de_fldE {fs : List (Str × Dat)} {d : Dat} (hT : ExT K C) (hno : PySem.W.findIn K (.ref C) f = some none) (hl : fs.lookup f = some d) (h : DE K R te e ms (fun x m => x = .exc C fs ∧ P d m) X) : DE K R (tFldE K f te) e ms P X := fun W G σ H Q gd s k x =>
  h W G σ H _ gd s (fun W1 v y H1 m1 l1 g1 r1 ⟨hx, p⟩ => by
    subst hx
    cases r1 with
    | exc e1 e2 rf =>
      obtain ⟨u, h1, h2⟩ := repF_look rf hl
      exact ⟨_, C, _, _, u, rfl, hT, hno, g1.fz _ _ e1, g1.fz _ _ e2, h1, k W1 _ _ H1 m1 l1 g1 h2 p⟩) x
/-- a field of the error that the suite holds -/
theorem de_xf {fs : List (Str × Dat)} {d : Dat} {dd : Addr} (hl : fs.lookup f = some d) (h : DE K R te e ms (fun x m => x = .hot a dd C fs ∧ P d m) X) : DE K R (tXf a (.ref C) (some dd) C f te) e ms P X := fun W G σ H Q gd s k x =>
  h W G σ H _ gd s (fun W1 v y H1 m1 l1 g1 r1 ⟨hx, p⟩ => by
    subst hx
    cases r1 with
    | hot e1 rf =>
      obtain ⟨u, h1, h2⟩ := repF_look rf hl
      exact ⟨rfl, rfl, dd, _, u, rfl, g1.fz _ _ e1, h1, k W1 _ _ H1 m1 l1 g1 h2 p⟩) x
/-! ### isinstance -/
theorem dr_isi {x : Dat} {T n : String} {b : Bool} (ht : tyOf ms x = some T) (hb : kitB T n = some b) (q : P (.bl b) ms) : DR K (rIsiX K) [x, .ty n] ms P := fun W G H vs Q gd r k => by
  cases r with
  | cons r1 rr => cases rr with
    | cons r2 rr =>
      cases rr; cases r2
      exact .inl (.inl ⟨_, _, .type T, .type n, b, rfl, .ty n, tyx_of gd ht r1, kit_ty hb, k W _ _ H ms (Le.refl W) gd (.bl _) q⟩)
theorem dr_isiC {x : Dat} {T : String} {b : Bool} (ht : tyOf ms x = some T) (hb : PySem.W.kitOne K (.type T) (.ref C) = some b) (q : P (.bl b) ms) : DR K (rIsiX K) [x, .ref C] ms P := fun W G H vs Q gd r k => by
  cases r with
  | cons r1 rr => cases rr with
    | cons r2 rr =>
      cases rr; cases r2
      exact .inl (.inl ⟨_, _, .type T, .ref C, b, rfl, .own C, tyx_of gd ht r1, hb, k W _ _ H ms (Le.refl W) gd (.bl _) q⟩)
theorem dr_isiE {D : Addr} {fs : List (Str × Dat)} {b : Bool} (hT : ExT K D) (hb : PySem.W.kitOne K (.ref D) (.ref C) = some b) (q : P (.bl b) ms) : DR K (rIsiX K) [.exc D fs, .ref C] ms P := fun W G H vs Q gd r k => by
  cases r with
  | cons r1 rr => cases rr with
    | cons r2 rr =>
      cases rr; cases r2
      cases r1 with
      | exc e1 e2 rf => exact .inr (.inl ⟨_, D, _, _, .ref C, .ref C, b, rfl, .own C, hT, gd.fz _ _ e1, gd.fz _ _ e2, hb, k W _ _ H ms (Le.refl W) gd (.bl _) q⟩)
theorem dr_isiEt {D : Addr} {fs : List (Str × Dat)} {b : Bool} {n : String} (hT : ExT K D) (hb : PySem.W.kitOne K (.ref D) (.type n) = some b) (q : P (.bl b) ms) : DR K (rIsiX K) [.exc D fs, .ty n] ms P := fun W G H vs Q gd r k => by
  cases r with
  | cons r1 rr => cases rr with
    | cons r2 rr =>
      cases rr; cases r2
      cases r1 with
      | exc e1 e2 rf => exact .inr (.inl ⟨_, D, _, _, .ty n, .type n, b, rfl, .ty n, hT, gd.fz _ _ e1, gd.fz _ _ e2, hb, k W _ _ H ms (Le.refl W) gd (.bl _) q⟩)
/-! ### try: .. except C as n: suite -/
theorem ds_try {c : Value} {tb : WX → TS} {ts : Addr → Value → Option Addr → TS}
    (h : ∀ R', DS K R' (tb R') e ms { O with ex := fun D ds e' m' => ∃ b, PySem.W.exmOne K (.ref D) c = some b ∧
      (b = true → ∀ a dd, DS K (fun _ _ _ _ => False) (ts a (.ref D) (some dd)) (e'.set i (some (.hot a dd D ds))) m' { nx := fun e2 m2 => O.nx (e2.set i none) m2, rt := O.rt, bk := fun e2 m2 => O.bk (e2.set i none) m2, ct := fun e2 m2 => O.ct (e2.set i none) m2 }) ∧
      (b = false → O.ex D ds e' m') }) : DS K R (fun Dd σ H => tb (wAs K c i ts R Dd) Dd σ H) e ms O := fun W G σ H D gd s ft => by
  have none_set : ∀ {W : Wd} {σ : L2.St} {e : Ev}, Slots K W σ e → Slots K W (σ.set i none) (e.set i none) := fun {W σ e} s => by
    refine ⟨by rw [List.length_set, List.length_set]; exact s.1, fun j d hd => ?_⟩
    by_cases hj : i = j
    · subst hj
      by_cases hl : i < e.length
      · rw [List.getElem?_set_self hl] at hd; cases hd
      · rw [List.getElem?_eq_none (by rw [List.length_set]; omega)] at hd; cases hd
    · rw [List.getElem?_set_ne hj] at hd ⊢
      exact s.2 j d hd
  refine h _ W G σ H D gd s ⟨ft.nx, ft.rt, ft.bk, ft.ct, fun W' σ' e' C d fs ds H' ms' l g' s' hf rf ⟨b, hb, hy, hn⟩ => ⟨b, hb, fun hbt a na => ?_, fun hbf => ft.ex W' σ' e' C d fs ds H' ms' l g' s' hf rf (hn hbf)⟩⟩
  refine hy hbt a d W' G _ H' _ g' (s'.set (.hot hf rf) i) ⟨fun W2 σ2 e2 H2 m2 l2 g2 s2 q => ft.nx W2 _ _ H2 m2 (l.trans l2) g2 (none_set s2) q, ft.rt.le l, fun W2 σ2 e2 H2 m2 l2 g2 s2 q => ft.bk W2 _ _ H2 m2 (l.trans l2) g2 (none_set s2) q, fun W2 σ2 e2 H2 m2 l2 g2 s2 q => ft.ct W2 _ _ H2 m2 (l.trans l2) g2 (none_set s2) q, fun _ _ _ _ _ _ _ _ _ _ _ _ _ _ z => z.elim⟩
end
end DL
namespace DL
open PySem PySem.Spec PyProof.Rows L2
def StrOk : Dat → Prop
  | .str z => z.length ≤ 100000 ∧ ∀ c ∈ z.cps.toList, c < 128
  | _ => True
/-- a value that isinstance can be asked of; a text is no longer than the line -/
inductive VOk (K : PySem.W.Frag) (ms : Ms) : Dat → Prop
  | ty {d : Dat} {T : String} (h : tyOf ms d = some T) (s : StrOk d) : VOk K ms d
  | ex {C : Addr} {fs : List (Str × Dat)} (T : ExT K C) : VOk K ms (.exc C fs)
def isTyD (ms : Ms) (d : Dat) (n : String) : Bool := match tyOf ms d with
  | some T => T == n || (T == "bool" && n == "int")
  | none => false
theorem tyOf_in {ms : Ms} {d : Dat} {T : String} (h : tyOf ms d = some T) : T ∈ (["NoneType", "bool", "int", "str", "list", "tuple", "dict"] : List String) := by
  cases d with
  | cell k =>
    have h' : (match ms[k]? with | some (.lst _) => some "list" | some (.dct _) => some "dict" | _ => none) = some T := h
    revert h'
    cases ms[k]? with
    | none => intro h'; cases h'
    | some m => cases m <;> intro h' <;> cases h' <;> decide
  | _ => cases h <;> decide
theorem kitB_is : ∀ T ∈ (["NoneType", "bool", "int", "str", "list", "tuple", "dict"] : List String), ∀ n ∈ (["str", "tuple", "list", "int", "bool", "dict"] : List String), kitB T n = some (T == n || (T == "bool" && n == "int")) := by decide +kernel
section
variable {K : PySem.W.Frag} {ms : Ms} {P : Dat → Ms → Prop} {d : Dat} {n : String} {R : WX} {e : Ev} {X : XP}
theorem dr_isiV (h : VOk K ms d) (hn : n ∈ (["str", "tuple", "list", "int", "bool", "dict"] : List String)) (q : P (.bl (isTyD ms d n)) ms) : DR K (rIsiX K) [d, .ty n] ms P := by
  cases h with
  | @ty _ T h _ =>
    refine dr_isi h (kitB_is _ (tyOf_in h) n hn) ?_
    have e : isTyD ms d n = (T == n || (T == "bool" && n == "int")) := by unfold isTyD; rw [h]
    rw [e] at q
    exact q
  | ex T => exact dr_isiEt T (T.nt n hn) q
theorem isStr {d : Dat} (h : isTyD ms d "str" = true) : ∃ z, d = .str z := by
  cases d with
  | str z => exact ⟨z, rfl⟩
  | cell k => cases hm : ms[k]? with
    | none => simp [isTyD, tyOf, hm] at h
    | some m => cases m <;> simp [isTyD, tyOf, hm] at h
  | _ => simp [isTyD, tyOf] at h
theorem isTup {d : Dat} (h : isTyD ms d "tuple" = true) : ∃ z, d = .tup z := by
  cases d with
  | tup z => exact ⟨z, rfl⟩
  | cell k => cases hm : ms[k]? with
    | none => simp [isTyD, tyOf, hm] at h
    | some m => cases m <;> simp [isTyD, tyOf, hm] at h
  | _ => simp [isTyD, tyOf] at h
theorem VOk.len {K : PySem.W.Frag} {z : Str} (h : VOk K ms (.str z)) : z.length ≤ 100000 := by
  cases h with
  | ty _ s => exact s.1
theorem VOk.sig {K : PySem.W.Frag} {z : Str} (h : VOk K ms (.str z)) : ∀ c ∈ z.cps.toList, c < 128 := by
  cases h with
  | ty _ s => exact s.2
theorem isTyD_str (z : Str) : isTyD ms (.str z) "str" = true := by simp [isTyD, tyOf]
theorem isTyD_tup (z : List Dat) : isTyD ms (.tup z) "tuple" = true := by simp [isTyD, tyOf]
end
/-- answers of a test -/
theorem both {c : Bool} {A B : Prop} (h1 : c = true → A) (h2 : c = false → B) : (c = true → A) ∧ (c = false → B) := ⟨h1, h2⟩
theorem bothT {A B : Prop} (h : A) : ((true : Bool) = true → A) ∧ ((true : Bool) = false → B) := ⟨fun _ => h, fun z => Bool.noConfusion z⟩
theorem bothF {A B : Prop} (h : B) : ((false : Bool) = true → A) ∧ ((false : Bool) = false → B) := ⟨fun z => Bool.noConfusion z, fun _ => h⟩

theorem bothNT {A B : Prop} (h : B) : ((!true) = true → A) ∧ ((!true) = false → B) := ⟨fun z => Bool.noConfusion z, fun _ => h⟩
theorem bothNF {A B : Prop} (h : A) : ((!false) = true → A) ∧ ((!false) = false → B) := ⟨fun _ => h, fun z => Bool.noConfusion z⟩
section
variable {K : PySem.W.Frag} {ms : Ms} {P : Dat → Ms → Prop} {d : Dat} {n : String} {R : WX} {e : Ev} {X : XP} {wi : TI} {g : TG} {tt : TT} {te : TE} {vs : List Nat}
theorem dr_isiK {b : Bool} (h : VOk K ms d) (hn : n ∈ (["str", "tuple", "list", "int", "bool", "dict"] : List String)) (hb : isTyD ms d n = b) (q : P (.bl b) ms) : DR K (rIsiX K) [d, .ty n] ms P := by
  subst hb
  exact dr_isiV h hn q
theorem filter_range_get {α β : Type} (l : List α) (df : α) (keep : α → Bool) (f : α → β) :
    ((List.range l.length).filter (fun i => keep (l.getD i df))).map (fun i => f (l.getD i df)) = (l.filter keep).map f := by
  have h1 : (List.range l.length).map (fun i => l.getD i df) = l := by
    apply List.ext_getElem
    · simp
    · intro i h1 h2
      simp [List.getD_eq_getElem?_getD, List.getElem?_eq_getElem h2]
  have h2 : ((List.range l.length).filter (fun i => keep (l.getD i df))).map (fun i => l.getD i df) = l.filter keep := by
    conv => rhs; rw [← h1, List.filter_map]
    rfl
  rw [← h2, List.map_map]
  rfl
/-- a comprehension over a text's signs -/
theorem lcw_str {z : Str} {Fin : List Dat → Ms → Prop} (hn : z.cps.toList.length ≤ 1000000) (keep : Nat → Bool) (f : Nat → Dat)
    (h : ∀ c, c ∈ z.cps.toList → DG K g (.str (sign1 c)) (wipeE e vs) ms vs (fun e2 m2 => DT K R tt e2 m2 (fun b m3 => b = keep c ∧ m3 = ms ∧ (b = true → DE K R te e2 ms (fun y m4 => y = f c ∧ m4 = ms) (fun _ _ _ => False))) (fun _ _ _ => False)))
    (q : Fin ((z.cps.toList.filter keep).map f) ms) : LcW K R g tt te vs e z.cps.toList.length (itS z) ms Fin := by
  refine lcw_map hn (fun i => keep (z.cps.toList.getD i 0)) (fun i => f (z.cps.toList.getD i 0)) (fun i hi => ?_) ?_
  · have hm : z.cps.toList.getD i 0 ∈ z.cps.toList := by
      rw [List.getD_eq_getElem?_getD, List.getElem?_eq_getElem hi]
      exact List.getElem_mem hi
    exact h _ hm
  · rw [filter_range_get z.cps.toList 0 keep f]
    exact q
/-- .. over a list -/
theorem lcw_list {xs : List Dat} {Fin : List Dat → Ms → Prop} (hn : xs.length ≤ 1000000) (keep : Dat → Bool) (f : Dat → Dat)
    (h : ∀ c, c ∈ xs → DG K g c (wipeE e vs) ms vs (fun e2 m2 => DT K R tt e2 m2 (fun b m3 => b = keep c ∧ m3 = ms ∧ (b = true → DE K R te e2 ms (fun y m4 => y = f c ∧ m4 = ms) (fun _ _ _ => False))) (fun _ _ _ => False)))
    (q : Fin ((xs.filter keep).map f) ms) : LcW K R g tt te vs e xs.length (itL xs) ms Fin := by
  refine lcw_map hn (fun i => keep (xs.getD i .non)) (fun i => f (xs.getD i .non)) (fun i hi => ?_) ?_
  · have hm : xs.getD i .non ∈ xs := by
      rw [List.getD_eq_getElem?_getD, List.getElem?_eq_getElem hi]
      exact List.getElem_mem hi
    exact h _ hm
  · rw [filter_range_get xs .non keep f]
    exact q
theorem dr_allB {xs : List Dat} {bs : List Bool} (h : xs = bs.map Dat.bl) (q : P (.bl (bs.all id)) ms) : DR K (rAll K) [.lst xs] ms P := by
  subst h
  exact dr_all q
theorem d2_leS1 {x y : Str} {a b : Nat} (hx : x.cps.toList = [a]) (hy : y.cps.toList = [b]) (q : P (.bl (decide (a ≤ b))) ms) : D2 K rLeA (.str x) (.str y) ms P := by
  refine d2_leS ?_
  rw [hx, hy]
  have e : (!decide ([b] < [a])) = decide (a ≤ b) := by
    by_cases h : a ≤ b
    · have h' : ¬ ([b] < [a]) := by
        intro z
        rcases List.cons_lt_cons_iff.mp z with z | ⟨_, z⟩
        · omega
        · exact absurd z (by simp)
      rw [decide_eq_true h, decide_eq_false h']; rfl
    · have h' : [b] < [a] := List.cons_lt_cons_iff.mpr (.inl (by omega))
      rw [decide_eq_false h, decide_eq_true h']; rfl
  rw [e]
  exact q
end
theorem sign1_cps (c : Nat) : (sign1 c).cps.toList = [c] := rfl

theorem fin_b {n : Nat} {P : Dat → Ms → Prop} {ms : Ms} {b c : Bool} (q : P (.bl b) ms) (e : b = c) : RetOk n P (.bl c) ms := .inl (by rw [← e]; exact q)
theorem fin_d {n : Nat} {P : Dat → Ms → Prop} {ms : Ms} {b c : Dat} (q : P b ms) (e : b = c) : RetOk n P c ms := .inl (by rw [← e]; exact q)
theorem all_map_bl (l : List Nat) (p : Nat → Bool) : ((l.filter fun _ => true).map fun c => Dat.bl (p c)) = (l.map p).map Dat.bl := by
  rw [List.filter_eq_self.mpr (fun _ _ => rfl), List.map_map]; rfl
theorem all_id {α : Type} (l : List α) (p : α → Bool) : (l.map p).all id = l.all p := by
  rw [List.all_map]; rfl

theorem sg_a : (Str.ofString "a").cps.toList = [97] := by decide +kernel
theorem sg_z : (Str.ofString "z").cps.toList = [122] := by decide +kernel
theorem sg_sp : (Str.ofString " ").cps.toList = [32] := by decide +kernel
theorem sg_ti : (Str.ofString "~").cps.toList = [126] := by decide +kernel
end DL
namespace DL
open PySem PySem.Spec PyProof.Rows L2
section
variable {P : Program} {w : World} {K : PySem.W.Frag} {mg : Str → Option Value} {base : Heap} {x qual : Str} {f : Addr} {fd : FuncData} {N ps : List Str} {k : Nat} {pr : Arguments} {bd : List Stmt} {sc : Scope} {dvs : List V} {kws : List (Str × V)}
/-- a def with defaults -/
theorem fn_dlD {A : Pm} (F : FunD K x qual pr bd sc dvs kws f fd) (S : FnScope N ps sc) (hlen : ∀ ds ms P X, A ds ms P X → ds.length = ps.length)
    (hb : ∀ (cdv : Value) (Ar : Around) (outer : List Env) (s : Shared) (H : Hp) (E : XK), Room k (Ar.deeper (envOfC qual sc s.heap.objs.size f cdv)) → Quiet (Ar.deeper (envOfC qual sc s.heap.objs.size f cdv)) →
      ∃ t, PSs (cxOf (L2N.CX P w) P w K mg base N qual sc f cdv Ar outer s H E) bd t ∧
        ∀ ds ms Pd X, A ds ms Pd X → BelL ms.length ds → MsBel ms → DS K (fun c d _ H => E c d H) t (startE N ds) ms (bodyOut ms.length Pd X)) :
    FnG P w K mg base (L2N.CX P w) (k + 1) f fd ps (spD K A) := by
  obtain ⟨oc, od, dV, kV, doc, pm, an, cdv, ct, osl, e, lk, hcd, _, _⟩ := F.ex
  subst e
  refine ⟨fun vs H Q E h => ?_, fun Ar outer s H args us vs Q E hr hq e0 hbd r hsp => ?_⟩
  · obtain ⟨W, G, ms, ds, Pd, X, _, r, a, _⟩ := h
    rw [r.length]; exact hlen ds ms Pd X a
  · obtain ⟨W, G, ms, ds, Pd, X, g, rl, a, kP, kX⟩ := hsp
    obtain ⟨t, ht, hd⟩ := hb cdv Ar outer s H E (hr.deeper _) (hq.deeper _)
    have b := RepL.bel ds vs rl
    rw [g.ln] at b
    have hl : vs.length = ps.length := by rw [rl.length]; exact hlen ds ms Pd X a
    refine enter_def lk hcd S hr.depth e0 hbd fun s1 ic => ?_
    have I := inv_start (CX := L2N.CX P w) (E := E) S hr.hd e0 hl r ic
    exact wpAny_mono (ht.run [] s1 _ H _ I (run_body g rl kP kX (hd ds ms Pd X a b g.bel))) (fun fl s' z => flow_end rfl rfl rfl rfl rfl rfl z) fun _ _ z => z
end
section
variable {K : PySem.W.Frag} {ms : Ms} {P : Dat → Ms → Prop} {R : WX} {e : Ev} {X : XP} {te ta : TE} {tl th : TO}
theorem d2_notI {i : Int} (q : P (.bl true) ms) : D2 K rNotA (.int i) .non ms P := d2_notN q
theorem d2_notSt {i : Str} (q : P (.bl true) ms) : D2 K rNotA (.str i) .non ms P := d2_notN q
theorem d2_notNn (q : P (.bl false) ms) : D2 K rNotA .non .non ms P := d2_notN q
theorem d2_notT {i : List Dat} (q : P (.bl true) ms) : D2 K rNotA (.tup i) .non ms P := d2_notN q
theorem d2_isI {i : Int} (q : P (.bl false) ms) : D2 K rIsA (.int i) .non ms P := d2_isN q
theorem d2_isNn (q : P (.bl true) ms) : D2 K rIsA .non .non ms P := d2_isN q
theorem d2_isT {i : List Dat} (q : P (.bl false) ms) : D2 K rIsA (.tup i) .non ms P := d2_isN q
theorem d2_inL {c : Nat} {z : Str} {l : List Nat} (hz : z.cps.toList = l) (q : P (.bl (decide (c ∈ l))) ms) : D2 K (rInA K) (.str (sign1 c)) (.str z) ms P := by
  subst hz
  exact d2_inS q
/-! ### slices -/
/-- a slice's part: nothing, or an int -/
def DO (K : PySem.W.Frag) (R : WX) (t : TO) (e : Ev) (ms : Ms) (P : Option Int → Ms → Prop) (X : XP) : Prop :=
  ∀ (W : Wd) (G : Hp) (σ : L2.St) (H : Hp) (Q : Option Int → Hp → Prop), Good K W G H ms → Slots K W σ e →
    (∀ (W' : Wd) (o : Option Int) (H' : Hp) (ms' : Ms), Le W W' → Good K W' G H' ms' → P o ms' → Q o H') → ExC K W G X (fun c d H' => R c d σ H') → t σ H Q
theorem do_none {P : Option Int → Ms → Prop} (q : P none ms) : DO K R tNoPart e ms P X := fun W G σ H Q g s k _ => k W none H ms (Le.refl W) g q
theorem do_some {P : Option Int → Ms → Prop} (h : DE K R te e ms (fun d m => ∃ i, d = .int i ∧ P (some i) m) X) : DO K R (tPart te) e ms P X := fun W G σ H Q g s k x =>
  h W G σ H _ g s (fun W1 v d H1 m1 l1 g1 r1 ⟨i, hi, p⟩ => by
    subst hi; cases r1
    exact ⟨i, rfl, k W1 (some i) H1 m1 l1 g1 p⟩) x
def DSl (K : PySem.W.Frag) (x : Dat) (lo hi : Option Int) (ms : Ms) (P : Dat → Ms → Prop) : Prop :=
  ∀ (W : Wd) (G H : Hp) (v : V) (Q : VK), Good K W G H ms → Rep K W v x → RtC K W G P Q → rSlA K v lo hi H Q
theorem de_sl (h : DE K R ta e ms (fun x m => DO K R tl e m (fun lo m1 => DO K R th e m1 (fun hi m2 => DSl K x lo hi m2 P) X) X) X) : DE K R (tSl (rSlA K) ta tl th) e ms P X := fun W G σ H Q g s k x => by
  refine h W G σ H _ g s (fun W1 v d H1 m1 l1 g1 r1 h1 => ?_) x
  refine h1 W1 G σ H1 _ g1 (s.mono l1) (fun W2 lo H2 m2 l2 g2 h2 => ?_) (x.le l1)
  refine h2 W2 G σ H2 _ g2 (s.mono (l1.trans l2)) (fun W3 hi H3 m3 l3 g3 h3 => ?_) (x.le (l1.trans l2))
  exact h3 W3 G H3 v Q g3 (Rep.mono (l2.trans l3) _ _ r1) (k.le (l1.trans (l2.trans l3)))
theorem dsl_str {z : Str} {lo hi : Option Int} (hl : z.length ≤ 1000000) (q : P (.str (cutS z lo hi)) ms) : DSl K (.str z) lo hi ms P := fun W G H v Q g r k => by
  cases r
  exact .inr (.inl ⟨z, rfl, size_of hl, k W _ _ H ms (Le.refl W) g (.str _) q⟩)
def cutD (xs : List Dat) (lo hi : Option Int) : List Dat := (xs.drop (HT.sIx xs.length 0 lo)).take (HT.sIx xs.length xs.length hi - HT.sIx xs.length 0 lo)
theorem repL_drop {W : Wd} : ∀ {vs : List V} {ds : List Dat} (n : Nat), RepL K W vs ds → RepL K W (vs.drop n) (ds.drop n)
  | _, _, 0, h => h
  | _, [], n + 1, h => by cases h; exact .nil
  | _, d :: ds, n + 1, h => by cases h with | cons a b => exact repL_drop n b
theorem repL_take {W : Wd} : ∀ {vs : List V} {ds : List Dat} (n : Nat), RepL K W vs ds → RepL K W (vs.take n) (ds.take n)
  | _, _, 0, h => by simp; exact .nil
  | _, [], n + 1, h => by cases h; exact .nil
  | _, d :: ds, n + 1, h => by cases h with | cons a b => exact .cons a (repL_take n b)
theorem dsl_list {x : Dat} {xs : List Dat} {lo hi : Option Int} (hx : x = .lst xs ∨ x = .rol xs ∨ ∃ k, x = .cell k ∧ ms[k]? = some (.lst xs)) (q : P (.lst (cutD xs lo hi)) ms) : DSl K x lo hi ms P := fun W G H v Q g r k => by
  obtain ⟨a, vs, rfl, hq, rl⟩ := lstSq g r hx
  refine .inl ⟨a, vs, rfl, hq, fun p hp => ?_⟩
  obtain ⟨g2, l2⟩ := g.laid (o := .lst (cutV vs lo hi)) hp
  refine k _ _ _ _ _ l2 g2 (.lst upd_same (RepL.mono l2 _ _ ?_)) q
  unfold cutV cutD
  rw [rl.length]
  exact repL_take _ (repL_drop _ rl)
/-! ### methods of texts -/
theorem dr_startswith {a b : Str} (q : P (.bl (Txt.startswith a b)) ms) : DR K (fun vs => match vs with | v :: ws => (fun x xs H Q => ∃ a b, x = V.str a ∧ xs = [V.str b] ∧ Q (.bl (Txt.startswith a b)) H) v ws | [] => fun _ _ => False) [.str a, .str b] ms P := fun W G H vs Q g r k => by
  cases r with
  | cons r1 rr => cases rr with
    | cons r2 rr =>
      cases rr; cases r1; cases r2
      exact ⟨a, b, rfl, rfl, k W _ _ H ms (Le.refl W) g (.bl _) q⟩
theorem dr_partition {a b : Str} (hb : (b.length == 0) = false) (hl : a.length ≤ 1000000) (q : P (.tup [.str (Txt.partition a b).1, .str (Txt.partition a b).2.1, .str (Txt.partition a b).2.2]) ms) :
    DR K (fun vs => match vs with | v :: ws => (fun x xs H Q => ∃ a b, x = V.str a ∧ xs = [V.str b] ∧ (b.length == 0) = false ∧ a.length ≤ sizeLine ∧ ∀ p, H p = none → Q (.ref p) (upd H p (.tup [.str (Txt.partition a b).1, .str (Txt.partition a b).2.1, .str (Txt.partition a b).2.2]))) v ws | [] => fun _ _ => False) [.str a, .str b] ms P := fun W G H vs Q g r k => by
  cases r with
  | cons r1 rr => cases rr with
    | cons r2 rr =>
      cases rr; cases r1; cases r2
      refine ⟨a, b, rfl, rfl, hb, size_of hl, fun p hp => ?_⟩
      obtain ⟨g2, l2⟩ := g.laid (o := .tup [.str (Txt.partition a b).1, .str (Txt.partition a b).2.1, .str (Txt.partition a b).2.2]) hp
      exact k _ _ _ _ _ l2 g2 (.tup (.inl (.inl upd_same)) (.cons (.str _) (.cons (.str _) (.cons (.str _) .nil)))) q
theorem dr_join {a : Str} {ys : List Str} (hl : (ys.map (·.length)).sum + ys.length * a.length ≤ 1000000) (q : P (.str (Txt.join a ys)) ms) :
    DR K (fun vs => match vs with | v :: ws => (fun x xs H Q => ∃ a p, ∃ ys : List Str, x = V.str a ∧ xs = [V.ref p] ∧ (SqL K H p (ys.map V.str) ∨ SqT K H p (ys.map V.str)) ∧ (ys.map (·.length)).sum + ys.length * a.length ≤ 16777216 ∧ Q (.str (Txt.join a ys)) H) v ws | [] => fun _ _ => False) [.str a, .lst (ys.map Dat.str)] ms P := fun W G H vs Q g r k => by
  cases r with
  | cons r1 rr => cases rr with
    | cons r2 rr =>
      cases rr; cases r1
      obtain ⟨b, us, rfl, hq, rl⟩ := lstSq g r2 (.inl rfl)
      rw [strsRep rl] at hq
      exact ⟨a, b, ys, rfl, rfl, .inl hq, by omega, k W _ _ H ms (Le.refl W) g (.str _) q⟩
/-! ### f-strings -/
def DJ (K : PySem.W.Frag) (R : WX) (ts : List TE) (acc : Str) (e : Ev) (ms : Ms) (P : Dat → Ms → Prop) (X : XP) : Prop :=
  ∀ (W : Wd) (G : Hp) (σ : L2.St) (H : Hp) (Q : VK), Good K W G H ms → Slots K W σ e → RtC K W G P Q → ExC K W G X (fun c d H' => R c d σ H') → tJs ts acc σ H fun out H1 => Q (.str out) H1
theorem dj_nil {acc : Str} (q : P (.str acc) ms) : DJ K R [] acc e ms P X := fun W G σ H Q g s k _ => k W _ _ H ms (Le.refl W) g (.str _) q
theorem dj_cons {t : TE} {ts : List TE} {acc : Str} (h : DE K R t e ms (fun d m => ∃ y, d = .str y ∧ (acc ++ y).length ≤ 1000000 ∧ DJ K R ts (acc ++ y) e m P X) X) : DJ K R (t :: ts) acc e ms P X := fun W G σ H Q g s k x =>
  h W G σ H _ g s (fun W1 v d H1 m1 l1 g1 r1 ⟨y, hy, hl, p⟩ => by
    subst hy; cases r1
    exact ⟨y, rfl, size_of hl, p W1 G σ H1 Q g1 (s.mono l1) (k.le l1) (x.le l1)⟩) x
theorem de_fstr {ts : List TE} (h : DJ K R ts Str.empty e ms P X) : DE K R (fun σ H Q => tJs ts Str.empty σ H fun out H1 => Q (.str out) H1) e ms P X := h
theorem de_fmtS (h : DE K R te e ms (fun d m => ∃ z, d = .str z ∧ z.length ≤ 1000000 ∧ P (.str z) m) X) : DE K R (tFmt te) e ms P X := fun W G σ H Q g s k x =>
  h W G σ H _ g s (fun W1 v d H1 m1 l1 g1 r1 ⟨z, hz, hl, p⟩ => by
    subst hz; cases r1
    exact .inl ⟨z, rfl, size_of hl, k W1 _ _ H1 m1 l1 g1 (.str _) p⟩) x
end

section
variable {K : PySem.W.Frag} {ms : Ms} {P : Dat → Ms → Prop} {R : WX} {e : Ev} {O : Out} {ta : TE} {g : TG}
theorem dr_lenT {xs : List Dat} (q : P (.int xs.length) ms) : DR K (rLenK K) [.tup xs] ms P := dr_len (.inr (.inl rfl)) q
theorem dr_lenL {xs : List Dat} (q : P (.int xs.length) ms) : DR K (rLenK K) [.lst xs] ms P := dr_len (.inl rfl) q
theorem dr_lenR {xs : List Dat} (q : P (.int xs.length) ms) : DR K (rLenK K) [.rol xs] ms P := dr_len (.inr (.inr (.inl rfl))) q
theorem dr_lenC {k : Nat} {xs : List Dat} (h : ms[k]? = some (.lst xs)) (q : P (.int xs.length) ms) : DR K (rLenK K) [.cell k] ms P := dr_len (.inr (.inr (.inr ⟨k, rfl, h⟩))) q
/-- a store to any target -/
theorem ds_to (h : DE K R ta e ms (fun d m => DG K g d e m (List.range 40) O.nx) (O.xp e)) : DS K R (tAsg ta g) e ms O := ds_asg h
end

section
variable {K : PySem.W.Frag} {ms : Ms} {e : Ev} {u : TGs} {vs : List Nat} {P : Ev → Ms → Prop} {a b c d : Dat}
theorem dg_tup1 (h : DGs K u [a] e ms vs P) : DG K (gTup K 1 u) (.tup [a]) e ms vs P := dg_tup rfl h
theorem dg_tup2 (h : DGs K u [a, b] e ms vs P) : DG K (gTup K 2 u) (.tup [a, b]) e ms vs P := dg_tup rfl h
theorem dg_tup3 (h : DGs K u [a, b, c] e ms vs P) : DG K (gTup K 3 u) (.tup [a, b, c]) e ms vs P := dg_tup rfl h
theorem dg_tup4 (h : DGs K u [a, b, c, d] e ms vs P) : DG K (gTup K 4 u) (.tup [a, b, c, d]) e ms vs P := dg_tup rfl h
end

theorem len_empty : Str.empty.length = 0 := rfl
theorem len_sp : (Str.ofString " ").length = 1 := by decide +kernel
theorem empty_app (a : Str) : Str.empty ++ a = a := by
  apply TL.ext_tl
  rw [TL.tl_append]
  rfl

theorem split_first {l : List Nat} {s : Nat} (h : s ∈ l) : ∃ a b, l = a ++ s :: b ∧ s ∉ a := by
  induction l with
  | nil => cases h
  | cons x l ih =>
    by_cases e : x = s
    · exact ⟨[], l, by rw [e]; rfl, by simp⟩
    · obtain ⟨a, b, e1, e2⟩ := ih (by rcases List.mem_cons.mp h with z | z; exact absurd z.symm e; exact z)
      refine ⟨x :: a, b, by rw [e1]; rfl, ?_⟩
      intro m
      rcases List.mem_cons.mp m with z | z
      · exact e z.symm
      · exact e2 z
theorem part_cases (z : Str) : (32 ∉ z.cps.toList ∧ Txt.partition z (Str.ofString " ") = (z, Str.empty, Str.empty)) ∨ ∃ a b : Str, z = a ++ (Str.ofString " ") ++ b ∧ 32 ∉ a.cps.toList ∧ Txt.partition z (Str.ofString " ") = (a, Str.ofString " ", b) := by
  by_cases h : 32 ∈ z.cps.toList
  · obtain ⟨a, b, e, n⟩ := split_first h
    have ez : z = (⟨a.toArray⟩ : Str) ++ (Str.ofString " ") ++ (⟨b.toArray⟩ : Str) := by
      apply TL.ext_tl
      rw [TL.tl_append, TL.tl_append]
      show z.cps.toList = a ++ (Str.ofString " ").cps.toList ++ b
      rw [e, sg_sp]; simp
    refine .inr ⟨⟨a.toArray⟩, ⟨b.toArray⟩, ez, n, ?_⟩
    conv => lhs; rw [ez]
    exact TL.partition_app (s := 32) (S := []) sg_sp n
  · exact .inl ⟨h, TL.partition_none (s := 32) (S := []) sg_sp h⟩
end DL
namespace DL
open PySem PySem.Spec PyProof.Rows L2
/-! ### a comprehension where an error is handled -/
/-- the block's context; the handled error stays pinned -/
abbrev blkH (X : Cx) (s : Shared) (H : Hp) (scope : Scope) (ce : Env) (fp : List Addr) : Cx := { X.blk s H scope ce fp with pn := X.pn }
section
variable {X : Cx} {pins : List (Addr × Obj)} {σ : L2.St} {H : Hp} {s : Shared} {scope : Scope} {own : List (Str × Nat)} {fp : List Addr}
theorem hotBlk {ce : Env} (h : L2H.HotC X) : L2H.HotC (blkH X s H scope ce fp) := h
theorem startBlkH (J : Inv X pins σ H s) (bo : BlkOk X.N X.env.scope scope own) (nd : X.N.Nodup) (hf : ∀ b ∈ fp, FpOk X pins H b ∧ b < s.heap.objs.size) :
    Inv (blkH X s H scope (compEnvC scope (cellsFrom (s.heap.objs.size + 1) scope.names (cloFrom X.env.cells scope.names [])) s.heap.objs.size X.env) fp) [] (wipe σ (own.map (·.2))) H { s with heap := pushCells (s.heap.push { cls := .type "dict", data := .dict #[] }) scope.names } := by
  have B := block_start J bo nd hf
  obtain ⟨⟨a1, a2, a3, a4, a5, a6, a7, a8, a9, a10, a11, a12, a13, a14, a15, a16, a17, a18⟩, b2, b3, b4, b5, b6, b7, b8, _, b10, b11⟩ := B
  refine ⟨⟨a1, a2, a3, a4, a5, a6, a7, a8, a9, a10, a11, a12, a13, a14, a15, a16, a17, a18⟩, b2, b3, b4, b5, b6, b7, b8, fun p hp => ?_, b10, b11⟩
  obtain ⟨c1, c2, c3, c4, c5⟩ := J.pin p (List.mem_append_left _ (by simpa using (show p ∈ X.pn ++ [] from hp)))
  refine ⟨pushCells_keeps _ _ _ _ (Heap.get?_push_of_some _ c1), c2, Nat.ne_of_lt (Heap.lt_size c1), fun z => ?_, c5⟩
  rcases List.mem_cons.mp (J.stkSub p.1 z) with z | z
  · exact c3 z
  · exact c4 z
variable {Q : VK} {elt tg iter : Expr} {ifs : List Expr} {pos pos' : Pos} {wi : TI} {g : TG} {tt : TT} {te : TE} {use : Option (Value → Sem Unit)} {Qf : Value → Shared → Prop}
/-- what holds between two turns -/
def Mid (Xb : Cx) (τ : L2.St) (fp : List Addr) (tn : Nat → Heap → Prop) (M : Nat → Nat → Hp → Prop) (n : Nat) (z : Shared) : Prop := ∃ i Hz, Inv Xb [] τ Hz z ∧ tn i z.heap ∧ (∀ b ∈ fp, Hz b = none) ∧ M i n Hz
theorem fpBlk {Xb : Cx} {τ : L2.St} {Hz : Hp} {z : Shared} {tn : Nat → Heap → Prop} {i : Nat} (J : Inv Xb [] τ Hz z) (hx : Xb.ex = fp) (no : ∀ b ∈ fp, Hz b = none) (st : tn i z.heap)
    (np : ∀ p ∈ Xb.pn, p.1 ∉ fp) : ∀ b ∈ fp, FpOk Xb [] Hz b := fun b hb => by
  have hb' : b ∈ Xb.ex := by rw [hx]; exact hb
  obtain ⟨u1, u2⟩ := J.ok.exf b hb'
  exact ⟨no b hb, u1, J.ok.exfs b hb', Or.inl hb', fun x c e => u2 x c e, fun p hp z => np p (by simpa using hp) (z ▸ hb)⟩
theorem compHot (hot : L2H.HotC X) (nd : X.N.Nodup) (J : Inv X pins σ H s) (itr : L2H.PIH X tg iter wi) (bo : BlkOk X.N X.env.scope scope own)
    (tgs : ∀ s H C cl fp, PG (blkH X s H scope (compEnvC scope cl C X.env) fp) tg g) (tst : ∀ s H C cl fp, PTs (blkH X s H scope (compEnvC scope cl C X.env) fp) ifs tt)
    (el : ∀ s H C cl fp, PE (blkH X s H scope (compEnvC scope cl C X.env) fp) elt te) (fz : ∀ x, foldedSetIterable iter X.env x = pure x) (hw : tLc wi g tt te (own.map (·.2)) σ H Q)
    (back : ∀ D C z m Hz, Inv X pins σ Hz z → Q (.ref D) Hz → z.heap.Ns C m → FpOk X pins Hz C → compPost (model X.prog X.w) X.A X.xe use Qf (.ref D) C (.ok .next) z) :
    wpAny (model X.prog X.w) X.A (comprehension (.ListComp elt [⟨tg, iter, ifs, 0⟩] scope pos) scope X.env pos' (newList []) false (eval iter X.env) use) Qf X.xe s := by
  have fr : ∀ y ∈ scope.names, y.2 = .free → ∃ c, X.env.cells.lookup y.1 = some c := fun y hy e => by
    have := bo.free y hy e
    exact J.ok.has _ (this.imp id id)
  refine wpAny_comprehension_free (use := use) rfl fz (closure_ok fr) bo.kind (fun y hy e => by rw [bo.uniq y hy, e])
    (wpAny_mono (itr.run pins s σ H _ J hw) (fun _ _ h1 => wpAny_mono h1 (fun itv s2 h2 => ?_) fun _ _ z => z) fun _ _ z => z)
  obtain ⟨it, fp, tn, It, H2, rfl, J2, T, t2, f2, walk⟩ := h2
  refine wpAny_newObj_type (newEnv_comp ?_) (by show 0 ≤ sizeLine; decide)
  have J3 := J2.lnew (ys := []) (its := []) (t' := s2.toks) .nil (Nat.zero_le _)
  obtain ⟨M, ⟨m0, start⟩, turn⟩ := walk s2.heap.objs.size J2.fresh
  have young : ∀ b ∈ fp, b < s2.heap.objs.size := fun b hb => (T.obj _ _ t2 b hb).elim fun o h => Heap.lt_size h.1
  have npin : ∀ p ∈ X.pn, p.1 ∉ fp := fun p hp hb => (f2 _ hb).2.2.2.2.2 p (List.mem_append_left _ hp) rfl
  generalize hs3 : ({ s2 with heap := s2.heap.push { cls := .type "list", data := .seq ([] : List Value).toArray }, toks := s2.toks } : Shared) = s3 at J3
  have heap3 : s3.heap = s2.heap.push { cls := .type "list", data := .seq ([] : List Value).toArray } := by rw [← hs3]
  generalize hH3 : upd H2 s2.heap.objs.size (.lst []) = H3 at J3 start
  have f3 : ∀ b ∈ fp, FpOk X pins H3 b ∧ b < s3.heap.objs.size := fun b hb => by
    have lt := young b hb
    obtain ⟨q0, q1⟩ := f2 b hb
    rw [heap3, Heap.size_push, ← hH3]
    exact ⟨⟨(upd_ne (Nat.ne_of_lt lt)).trans q0, q1⟩, Nat.lt_succ_of_lt lt⟩
  have t3 : tn 0 s3.heap := T.keep _ _ _ t2 fun b _ o e => by rw [heap3]; exact Heap.get?_push_of_some _ e
  have J4 := startBlkH J3 bo nd f3
  generalize hs4 : ({ s3 with heap := pushCells (s3.heap.push { cls := .type "dict", data := .dict #[] }) scope.names } : Shared) = s4 at J4
  have t4 : tn 0 s4.heap := T.keep _ _ _ t3 fun b _ o e => by rw [← hs4]; exact pushCells_keeps _ _ _ _ (Heap.get?_push_of_some _ e)
  have pg := tgs s3 H3 s3.heap.objs.size (cellsFrom (s3.heap.objs.size + 1) scope.names (cloFrom X.env.cells scope.names [])) fp
  have pt := tst s3 H3 s3.heap.objs.size (cellsFrom (s3.heap.objs.size + 1) scope.names (cloFrom X.env.cells scope.names [])) fp
  have pe := el s3 H3 s3.heap.objs.size (cellsFrom (s3.heap.objs.size + 1) scope.names (cloFrom X.env.cells scope.names [])) fp
  generalize hce : compEnvC scope (cellsFrom (s3.heap.objs.size + 1) scope.names (cloFrom X.env.cells scope.names [])) s3.heap.objs.size X.env = ce at J4 pg pt pe
  have loc : ce.locals = s3.heap.objs.size := by rw [← hce]; rfl
  have hotB : L2H.HotC (blkH X s3 H3 scope ce fp) := hot
  have all : codeAny (model X.prog X.w) X.A (.compLoop (.ListComp elt [⟨tg, iter, ifs, 0⟩] scope pos) 0 (.ref it) (.ref s2.heap.objs.size) ce) (compPost (model X.prog X.w) X.A X.xe use Qf (.ref s2.heap.objs.size) s3.heap.objs.size) s4 := by
    refine compLoop_any (Mid (blkH X s3 H3 scope ce fp) (wipe σ (own.map (·.2))) fp tn M) ?_ m0 ⟨0, H3, J4, t4, fun b hb => (f3 b hb).1.1, start⟩
    rintro n z ⟨i, Hz, Jz, tz, nz, mz⟩
    have fz' := fpBlk (fp := fp) Jz rfl nz tz npin
    rcases turn i n Hz mz with ⟨stop, q⟩ | ⟨go, Nx, less, step⟩
    · refine thnF (T.done (blkH X s3 H3 scope ce fp) rfl rfl rfl hotB i [] z _ Hz (fun _ _ => False) Jz fz' tz stop) ?_
      rintro r z6 ⟨rfl, J6⟩
      have J7 : Inv X pins σ Hz z6 := J3.call' (ch := fp) J6.os J6.base J6.hok J6.bare fun b hb => by
        obtain ⟨_, w1, w2, w3, w4, w5⟩ := (f3 b hb).1
        exact ⟨w3, w1, w4, w5⟩
      obtain ⟨m, ns, _⟩ := J6.loc
      have cfree := J6.free
      rw [show (blkH X s3 H3 scope ce fp).env.locals = s3.heap.objs.size from loc] at ns cfree
      exact back _ _ z6 m Hz J7 q ns (J3.fpOk (Nat.le_refl _) cfree)
    · refine thnF (T.item (blkH X s3 H3 scope ce fp) rfl rfl rfl hotB i [] z _ Hz (fun _ _ => False) Jz fz' tz go) ?_
      rintro r z6 ⟨u, rfl, h6⟩
      refine thnF h6 ?_
      rintro _ z7 ⟨x, H7, J7, r7, y7, t7, n7⟩
      have P7 := J7.pinned (fpBlk (fp := fp) J7 rfl n7 t7 npin) (T.obj _ _ t7)
      refine thnF (pg.run _ z7 _ H7 x u _ P7 r7 (step x H7 y7)) ?_
      rintro _ z8 ⟨σ8, H8, J8, w8, q8⟩
      have again : ∀ {z' : Shared} {H' : Hp}, Inv (blkH X s3 H3 scope ce fp) ([] ++ pinsAt fp z7.heap) σ8 H' z' → Nx H' → ∃ m, m < n ∧ Mid (blkH X s3 H3 scope ce fp) (wipe σ (own.map (·.2))) fp tn M m z' := fun {z' H'} J' nx => by
        obtain ⟨m', lt, ok'⟩ := less H' nx
        have stay : ∀ b ∈ fp, ∀ o, z7.heap.get? b = some o → z'.heap.get? b = some o ∧ H' b = none := fun b hb o e => by
          obtain ⟨k1, k2, _⟩ := J'.pin (b, o) (List.mem_append_right _ (List.mem_append_right _ (mem_pinsAt hb e)))
          exact ⟨k1, k2⟩
        refine ⟨m', lt, i + 1, H', (J'.unpinned (pins := [])).weak (by rw [← w8, wipe_length]) (fun j v e => ?_), T.keep _ _ _ t7 fun b hb o e => (stay b hb o e).1, fun b hb => ?_, ok'⟩
        · exact (wipe_some (by rw [w8]; exact e)).1
        · obtain ⟨o, e, _⟩ := T.obj _ _ t7 b hb
          exact (stay b hb o e).2
      refine thnF (pt.run _ z8 σ8 H8 _ J8 q8) ?_
      rintro b z9 ⟨H9, J9, q9⟩
      cases b with
      | false => exact again J9 q9
      | true =>
        refine thnF (pe.run _ z9 σ8 H9 _ J9 q9) ?_
        rintro v z10 ⟨yv, H10, J10, r10, acc, l10, s10, nx⟩
        exact app_ok (X := blkH X s3 H3 scope ce fp) J10 l10 s10 r10 fun z11 J11 => again J11 nx
  subst hce
  exact codeAny_compStart_list all (T.self X.A 0 _ _ _ t4 all)
/-- [e for x in ..] there -/
theorem pe_lcH (hot : L2H.HotC X) (nd : X.N.Nodup) (itr : L2H.PIH X tg iter wi) (bo : BlkOk X.N X.env.scope scope own)
    (tgs : ∀ s H C cl fp, PG (blkH X s H scope (compEnvC scope cl C X.env) fp) tg g) (tst : ∀ s H C cl fp, PTs (blkH X s H scope (compEnvC scope cl C X.env) fp) ifs tt)
    (el : ∀ s H C cl fp, PE (blkH X s H scope (compEnvC scope cl C X.env) fp) elt te) (fz : ∀ x, foldedSetIterable iter X.env x = pure x := by intro _; rfl) :
    PE X (.ListComp elt [⟨tg, iter, ifs, 0⟩] scope pos) (tLc wi g tt te (own.map (·.2))) := ⟨fun pins s σ H Q J hw => by
  rw [eval_ListComp]
  refine compHot hot nd J itr bo tgs tst el fz hw ?_
  rintro D C z m Hz J' q ns ⟨w0, w1, w2, w3, w4, w5⟩
  exact ⟨m, ns, fun h'' sb => ⟨.ref D, Hz, J'.turned (t' := z.toks) (fun b o ne e => (sb.2 b ne).trans e) w0 w1 w3 w4 w5, rfl, q⟩⟩⟩
end
end DL
namespace DL
open PySem PySem.Spec PyProof.Rows L2 HotX
/-! ### a text walked where an error is handled -/
section
variable {prog : Program} {w : World} {A : Around} {E : Value → Shared → Prop} {s : Shared}
theorem hot_ne {x1 it : Addr} {o1 o2 : Obj} {v1 v2 : Array Value} {h : Heap} (h1 : h.get? x1 = some o1) (d1 : o1.data = .fields v1) (c1 : v1[2]? = some .none) (h2 : h.get? it = some o2) (d2 : o2.data = .fields v2) (c2 : v2.size = 2) : x1 ≠ it := fun z => by
  subst z
  rw [h1] at h2
  cases h2
  rw [d1] at d2
  cases d2
  rw [Array.getElem?_eq_none (by omega)] at c1
  cases c1
theorem asciiEndHot {it x1 : Addr} {x : Str} {t : Tok} {i : Nat} {Q : Option Value → Shared → Prop} (hot : HotAt A x1 s.heap) (hit : s.heap.IsStrIter it "str_ascii_iterator" x t i) (hx : x.cps[i]? = none)
    (hQ : ∀ h', Heap.ExtBut it s.heap h' → Q none { s with heap := h' }) : wpAny (model prog w) A (pyNext (.ref it)) Q E s := by
  have ty := hit.typeIs
  obtain ⟨o, ho, hc, hd⟩ := hit
  obtain ⟨hh, o1, vs1, h1, d1, c1⟩ := hot
  have ne : x1 ≠ it := hot_ne h1 d1 c1 ho hd rfl
  have keepX : ∀ {f : Obj → Obj}, (s.heap.update it f).get? x1 = some o1 := fun {f} => by rw [Heap.get?_update_other _ _ (Ne.symm ne)]; exact h1
  unfold pyNext
  refine wpAny_bind (wpAny_attempt (wpAny_callSpecial?_slot (name := Str.ofString "__next__") ty F.slot_str_ascii_iterator_next
    (wpAny_call_entry F.slot_str_ascii_iterator_next ty F.entry_str_ascii_iterator_next (?_ : wpAny _ _ (field (.ref it) 0 >>= _) _ _ s) (F.args_str_ascii_iterator_next_1 _))))
  refine wpAny_bind (wpAny_field ho hd (x := .str x t) rfl (?_ : wpAny _ _ (field (.ref it) 1 >>= _) _ _ s))
  refine wpAny_bind (wpAny_field ho hd (x := .int i 0) rfl ?_)
  simp only [Int.toNat_natCast, hx]
  refine wpAny_bind (wpAny_rule (wpAny_bind (wpAny_setField ho hd (by simp) (wpAny_bind (wpAny_letGo (?_ : wpAny _ _ (newExc (.type "StopIteration") [] >>= _) _ _ _))))))
  refine wpAny_bind ?_
  simp only [newExc, newTuple]
  refine wpAny_bind (wpAny_newObj_type ?_ (by size_fits))
  refine wpAny_bind (m := firstArgMember _ _) (wpAny_of_eq (a := Value.none) (by first | rfl | (simp only [firstArgMember]; rfl)) (wpAny_newObj_type ?_ (by size_fits)))
  refine raiseNew_hot ⟨hh, o1, vs1, Heap.get?_push_of_some _ (Heap.get?_push_of_some _ keepX), d1, c1⟩ (Nat.ne_of_lt (Heap.lt_size (Heap.get?_push_of_some _ keepX))) (Heap.get?_push_size _ rfl) rfl (by first | (simp; done) | (simp; omega)) ?_
  refine wpAny_bind (wpAny_isInstance (T := "StopIteration") (b := true) ⟨_, Heap.get?_update_self _ (Heap.get?_push_size _ rfl) rfl, rfl⟩ isSubtype_stop (wpAny_pure (hQ _ fun b ob hb e => ?_)))
  have kb : ∀ {f : Obj → Obj}, (s.heap.update it f).get? b = some ob := fun {f} => by rw [Heap.get?_update_other _ _ (Ne.symm hb)]; exact e
  exact (Heap.get?_update_other _ _ (Nat.ne_of_gt (Heap.lt_size (Heap.get?_push_of_some _ kb)))).trans (Heap.get?_push_of_some _ (Heap.get?_push_of_some _ kb))
theorem wideEndHot {it x1 : Addr} {x : Str} {t : Tok} {i : Nat} {Q : Option Value → Shared → Prop} (hot : HotAt A x1 s.heap) (hit : s.heap.IsStrIter it "str_iterator" x t i) (hx : x.cps[i]? = none)
    (hQ : ∀ h', Heap.ExtBut it s.heap h' → Q none { s with heap := h' }) : wpAny (model prog w) A (pyNext (.ref it)) Q E s := by
  have ty := hit.typeIs
  obtain ⟨o, ho, hc, hd⟩ := hit
  obtain ⟨hh, o1, vs1, h1, d1, c1⟩ := hot
  have ne : x1 ≠ it := hot_ne h1 d1 c1 ho hd rfl
  have keepX : ∀ {f : Obj → Obj}, (s.heap.update it f).get? x1 = some o1 := fun {f} => by rw [Heap.get?_update_other _ _ (Ne.symm ne)]; exact h1
  unfold pyNext
  refine wpAny_bind (wpAny_attempt (wpAny_callSpecial?_slot (name := Str.ofString "__next__") ty F.slot_str_iterator_next
    (wpAny_call_entry F.slot_str_iterator_next ty F.entry_str_iterator_next (?_ : wpAny _ _ (field (.ref it) 0 >>= _) _ _ s) (F.args_str_iterator_next_1 _))))
  refine wpAny_bind (wpAny_field ho hd (x := .str x t) rfl (?_ : wpAny _ _ (field (.ref it) 1 >>= _) _ _ s))
  refine wpAny_bind (wpAny_field ho hd (x := .int i 0) rfl ?_)
  simp only [Int.toNat_natCast, hx]
  refine wpAny_bind (wpAny_rule (wpAny_bind (wpAny_setField ho hd (by simp) (wpAny_bind (wpAny_letGo (?_ : wpAny _ _ (newExc (.type "StopIteration") [] >>= _) _ _ _))))))
  refine wpAny_bind ?_
  simp only [newExc, newTuple]
  refine wpAny_bind (wpAny_newObj_type ?_ (by size_fits))
  refine wpAny_bind (m := firstArgMember _ _) (wpAny_of_eq (a := Value.none) (by first | rfl | (simp only [firstArgMember]; rfl)) (wpAny_newObj_type ?_ (by size_fits)))
  refine raiseNew_hot ⟨hh, o1, vs1, Heap.get?_push_of_some _ (Heap.get?_push_of_some _ keepX), d1, c1⟩ (Nat.ne_of_lt (Heap.lt_size (Heap.get?_push_of_some _ keepX))) (Heap.get?_push_size _ rfl) rfl (by first | (simp; done) | (simp; omega)) ?_
  refine wpAny_bind (wpAny_isInstance (T := "StopIteration") (b := true) ⟨_, Heap.get?_update_self _ (Heap.get?_push_size _ rfl) rfl, rfl⟩ isSubtype_stop (wpAny_pure (hQ _ fun b ob hb e => ?_)))
  have kb : ∀ {f : Obj → Obj}, (s.heap.update it f).get? b = some ob := fun {f} => by rw [Heap.get?_update_other _ _ (Ne.symm hb)]; exact e
  exact (Heap.get?_update_other _ _ (Nat.ne_of_gt (Heap.lt_size (Heap.get?_push_of_some _ kb)))).trans (Heap.get?_push_of_some _ (Heap.get?_push_of_some _ kb))
end
theorem turn_strHot {P : Program} {w : World} {K : PySem.W.Frag} {tg : Expr} (it : Addr) (x : Str) (t : Tok) (ty : String) (hty : ty = "str_ascii_iterator" ∨ ty = "str_iterator") :
    L2H.TurnH P w K tg (Its x) [it] it (fun i h => h.IsStrIter it ty x t i) where
  mem := List.mem_singleton.mpr rfl
  obj := fun i h ⟨o, e, _, d⟩ b hb => by
    cases List.mem_singleton.mp hb
    refine ⟨o, e, fun v z => ?_⟩
    rw [d] at z
    cases z
  keep := fun i h h' ⟨o, e, q⟩ k => ⟨o, k it (List.mem_singleton.mpr rfl) o e, q⟩
  item := by
    rintro X rfl rfl rfl hot i pins s σ H E J hf st hg
    obtain ⟨f0, f1, f2, f3, f4, f5⟩ := hf it (List.mem_singleton.mpr rfl)
    obtain ⟨c, hc⟩ : ∃ c, x.cps[i]? = some c := ⟨_, Array.getElem?_eq_getElem hg⟩
    have fin : ∀ (h' : Heap), h'.IsStrIter it ty x t (i + 1) → Heap.SameBut it s.heap h' → ∃ u, some (Value.str ⟨#[c]⟩ s.toks) = some u ∧
      wpAny (model X.prog X.w) X.A (letOwnedTupleGo tg (.ref it) u) (fun _ s2 => ∃ x' H', Inv X pins σ H' s2 ∧ RelV x' u ∧ (Its x).yld i H x' H' ∧ s2.heap.IsStrIter it ty x t (i + 1) ∧ ∀ b ∈ [it], H' b = none) E { s with heap := h', toks := s.toks + 1 } := fun h' st' sb => by
      have no : ["enumerate", "zip", "dict_itemiterator", "dict_reverseitemiterator", "odict_iterator", "itertools.zip_longest", "itertools.pairwise"].contains ty = false := by rcases hty with e | e <;> subst e <;> decide
      have ok' := st'
      obtain ⟨o, e, cc, dd⟩ := ok'
      refine ⟨_, rfl, go_of (s := { s with heap := h', toks := s.toks + 1 }) e cc dd no ⟨.str ⟨#[c]⟩, H, J.turned (fun b o hb e => (sb.2 b hb).trans e) f0 f1 f3 f4 f5, ⟨_, rfl⟩, ⟨rfl, c, hc, rfl⟩, st', fun b hb => (hf b hb).1⟩⟩
    rcases hty with e | e <;> subst e
    · exact wpAny_pyNext_ascii_item st hc fin
    · exact wpAny_pyNext_wide_item st hc fin
  done := by
    rintro X rfl rfl rfl hot i pins s σ H E J hf st hg
    obtain ⟨f0, f1, f2, f3, f4, f5⟩ := hf it (List.mem_singleton.mpr rfl)
    have hx : x.cps[i]? = none := Array.getElem?_eq_none hg
    obtain ⟨x1, hx1⟩ := hot.at J
    have fin : ∀ h', Heap.ExtBut it s.heap h' → (none : Option Value) = none ∧ Inv X pins σ H { s with heap := h' } := fun h' eb => ⟨rfl, J.turned (t' := s.toks) (fun b o hb e => eb b o hb e) f0 f1 f3 f4 f5⟩
    rcases hty with e | e <;> subst e
    · exact asciiEndHot hx1 st hx fin
    · exact wideEndHot hx1 st hx fin
  self := fun A i s Q E st h => by
    rcases hty with e | e <;> subst e
    · exact wpAny_pyIter_striter_ascii st h
    · exact wpAny_pyIter_striter_wide st h
theorem one_iterH {X : Cx} {tg : Expr} {pins : List (Addr × Obj)} {σ : L2.St} {H : Hp} {s : Shared} {R : It → Hp → Prop} {J : It} {tn : Nat → Heap → Prop} {tk : Nat} (I : Inv X pins σ H s) (o : Obj)
    (T : L2H.TurnH X.prog X.w X.K tg J [s.heap.objs.size] s.heap.objs.size tn) (st : tn 0 (s.heap.push o)) (q : R J H) : L2H.PIEH X pins σ tg R (.ref s.heap.objs.size) { s with heap := s.heap.push o, toks := tk } :=
  ⟨_, _, tn, J, H, rfl, I.kept fun b ob e => Heap.get?_push_of_some _ e, T, st, fun b hb => by
    cases List.mem_singleton.mp hb
    exact I.fpOk (Nat.le_refl _) (I.hok.fresh (Nat.le_refl _)), q⟩
theorem pi_strH {X : Cx} {tg e : Expr} {te : TE} (he : PE X e te) : L2H.PIH X tg e (iStr te) := ⟨fun pins s σ H R I h => by
  refine thn (he.run pins s σ H _ I h) ?_
  rintro v s1 ⟨y, H1, I1, r1, x, rfl, q⟩
  obtain ⟨t, rfl⟩ := r1
  by_cases ha : x.cps.all (· < 128) = true
  · exact wpAny_pyIter_ascii ha (one_iterH (tk := s1.toks) I1 _ (turn_strHot _ x t _ (.inl rfl)) ⟨_, Heap.get?_push_size _ rfl, rfl, rfl⟩ q)
  · exact wpAny_pyIter_wide (by simpa using ha) (one_iterH (tk := s1.toks) I1 _ (turn_strHot _ x t _ (.inr rfl)) ⟨_, Heap.get?_push_size _ rfl, rfl, rfl⟩ q)⟩
end DL
namespace DL
open PySem PySem.Spec PyProof.Rows L2
section
variable {Xc : Cx} {K : PySem.W.Frag}
/-! ### rules whose reading names the model's fragment by itself (within a comprehension's block) -/
theorem opK {f : Value → Value → Sem Value} {r : PySem.W.Frag → R2} (hK : Xc.K = K) (h : OpR Xc f (r Xc.K)) : OpR Xc f (r K) := by subst hK; exact h
theorem crK {f : Value} {r : PySem.W.Frag → List V → Hp → VK → Prop} (hK : Xc.K = K) (h : CallR Xc f (r Xc.K)) : CallR Xc f (r K) := by subst hK; exact h
theorem ixK {r : PySem.W.Frag → R2} (hK : Xc.K = K) (h : IxR Xc (r Xc.K)) : IxR Xc (r K) := by subst hK; exact h
theorem slK {r : PySem.W.Frag → V → Option Int → Option Int → Hp → VK → Prop} (hK : Xc.K = K) (h : SlR Xc (r Xc.K)) : SlR Xc (r K) := by subst hK; exact h
/-! ### calls by name -/
structure KwB (K : PySem.W.Frag) (fd : FuncData) (ps : List Str) : Prop where
  to : ∀ (s : Shared) (ws : List Value), K.In s.heap → ws.length = ps.length → BindsTo s fd ⟨[], ps.zip ws⟩ (ps.zip ws)
variable {cx : CXT} {k : Nat} {f : Addr} {fd : FuncData} {ps : List Str} {sp : Sp} {E : L2.St → XK} {x : Str} {p pos : Pos} {t : TA} {kws : List Keyword}
theorem pe_gk (F : FnG Xc.prog Xc.w Xc.K Xc.mg Xc.base cx k f fd ps sp) (hr : Room k Xc.A) (hq : Quiet Xc.A) (hg : Gl Xc x) (hm : Xc.mg x = some (.ref f)) (hk : PySem.W.keepIn Xc.K (.ref f) = true) (hb : KwB Xc.K fd ps) (hx : ∀ σ, PassesAt cx Xc σ (E σ))
    (ha : PK Xc kws t) (hall : (backToKw pos (keywordEach kws Xc.env)).all (·.1.isSome) = true := by rfl) (hks : (backToKw pos (keywordEach kws Xc.env)).filterMap (·.1) = ps := by rfl)
    (hdb : (x == ("__debug__" : Str)) = false := by decide) (hpl : ((backTo pos (starEach [] Xc.env)).any (·.1) || (backToKw pos (keywordEach kws Xc.env)).any (·.1.isNone)) = false := by rfl) :
    PE Xc (.Call (.Name x p) [] kws pos) (tCallD sp [] E t) := ⟨fun pins s σ H Q I h => by
  refine wpAny_Call_Name_kw (ld_glob I hg hm ?_ hdb)
  refine PySem.W.callWith_KW0 (h₀ := Xc.base) I.ok.mod.kin hk hall (thn (ha.run pos pins s σ H _ I h) ?_) hpl
  rintro ws s2 ⟨zs, H2, I2, rz, q2⟩
  rw [List.append_nil] at q2
  refine ⟨I2.kIn, ?_⟩
  rw [hks]
  have n : ws.length = ps.length := rz.length.symm.trans (F.len _ _ _ _ q2)
  refine wpAny_call (codeAny_mono (F.go Xc.A Xc.stack s2 H2 ⟨[], ps.zip ws⟩ ws zs Q (E σ) hr hq I2.env0 (hb.to s2 ws I2.kIn n) rz q2) fun z s' hz => ?_)
  match z, hz with
  | .error er, hz => exact hx σ pins H2 s2 er s' I2 hz
  | .ok (.ret u), hz => exact I2.after hz
  | .ok .next, hz => exact hz.elim
  | .ok .brk, hz => exact hz.elim
  | .ok .cont, hz => exact hz.elim⟩
/-! ### repr -/
def rRepr (K : PySem.W.Frag) : List V → Hp → VK → Prop := fun xs H Q => (∃ v d, xs = [v] ∧ Dp K H v d ∧ d.showable = true ∧ d.hasDict = false ∧ d.depth ≤ 40 ∧ d.shown.length ≤ sizeLine ∧ Q (.str d.shown) H)
  ∨ ∃ (a : Addr) (kvs : List (Str × Str)), xs = [.ref a] ∧ H a = some (.dK (kvs.map fun p => (.inr p.1, .str p.2))) ∧ (PyData.dict (kvs.map fun p => (.str p.1, .str p.2))).shown.length ≤ sizeLine ∧ Q (.str (PyData.dict (kvs.map fun p => (.str p.1, .str p.2))).shown) H
theorem kv_reads {prog : Program} {w : World} {h : Heap} : ∀ {kvs : List (Str × Str)} {rs : List (Key × Value)} {es : List DictEntry}, KV (kvs.map fun p => ((.inr p.1 : Key), V.str p.2)) rs → Pairs (mixKind prog w) es rs →
    ReadsAll h (es.map (·.key)) (kvs.map fun p => PyData.str p.1) [] ∧ ReadsAll h (es.map (·.val)) (kvs.map fun p => PyData.str p.2) []
  | [], _, _, r, q => by cases r; cases q; exact ⟨.nil, .nil⟩
  | p :: kvs, _, _, r, q => by
    cases r with
    | cons r1 r2 =>
      cases q with
      | cons q1 q2 q3 =>
        obtain ⟨i1, i2⟩ := kv_reads r2 q3
        obtain ⟨e1, tk, e2⟩ := r1
        rw [← e1] at q1
        have q1' : keyIs (.inr p.1) _ = true := q1
        rcases keyIs_shape q1' with ⟨i, t, z, _⟩ | ⟨y, t, z, ez⟩
        · cases z
        · cases z
          refine ⟨?_, ?_⟩
          · rw [List.map_cons, List.map_cons, ez]; exact ReadsAll.cons (as := []) (.str _ _) i1
          · rw [List.map_cons, List.map_cons, q2, e2]; exact ReadsAll.cons (as := []) (.str _ _) i2
theorem shownL_le : ∀ (kvs : List (Str × Str)), (PyData.dict (kvs.map fun p => (PyData.str p.1, PyData.str p.2))).showable = true := fun kvs => by
  show PyData.showableKv _ = true
  induction kvs with
  | nil => rfl
  | cons p kvs ih => show (true && true && PyData.showableKv _) = true; rw [ih]; rfl
theorem depthL_le : ∀ (kvs : List (Str × Str)), PyData.depthKv (kvs.map fun p => (PyData.str p.1, PyData.str p.2)) ≤ 1 := fun kvs => by
  induction kvs with
  | nil => simp [PyData.depthKv]
  | cons p kvs ih => simp only [List.map_cons, PyData.depthKv, PyData.depth]; omega
theorem call_repr (hq : Quiet Xc.A) (hu : Xc.A.units + 64 < cLine) : CallR Xc (.builtin "repr") (rRepr Xc.K) := by
  intro pins s σ H xs us Q I r h
  rcases h with ⟨v, d, rfl, hd, hs, hn, dp, hl, q⟩ | ⟨a, kvs, rfl, hH, hl, q⟩
  · cases r with
    | cons r1 rr =>
      cases rr
      obtain ⟨as, rd⟩ := Dp.reads I d v _ hd r1
      have fin : ∀ (h' : Heap) (u tk : Nat), (∀ b o, s.heap.get? b = some o → h'.get? b = some o) → EP Xc pins σ Q (.str d.shown u) { s with heap := h', toks := tk } := fun h' u tk hk => ⟨.str d.shown, H, I.kept (t' := tk) hk, ⟨u, rfl⟩, q⟩
      have fin1 : ∀ u tk, EP Xc pins σ Q (.str d.shown u) { s with toks := tk } := fun u tk => fin s.heap u tk fun _ _ e => e
      cases rd with
      | none => exact PySem.P.repr_of_none (fin1 _ _)
      | bool b => exact PySem.P.repr_of_bool (fin1 _ _)
      | int i t => exact PySem.P.repr_of_int (by simpa [PyData.showable] using hs) (fin1 _ _)
      | str x t => exact PySem.P.repr_of_str (fin1 _ _) hl
      | list h1 h2 h3 h4 => exact repr_of_reads' (.list h1 h2 h3 h4) hs (PyData.noDict_hsm hn) hq.g (by omega) (fun _ _ e => e) fin hl
      | tuple h1 h2 h3 h4 => exact repr_of_reads' (.tuple h1 h2 h3 h4) hs (PyData.noDict_hsm hn) hq.g (by omega) (fun _ _ e => e) fin hl
      | dict h1 h2 h3 h4 h5 => simp [PyData.hasDict] at hn
  · cases r with
    | cons r1 rr =>
      cases rr; cases r1
      obtain ⟨_, hsys, vs, hkv, o, es, ep, h1, h2, h3, _, h5, _⟩ := dk_of I.hok hH
      obtain ⟨q1, q2⟩ := kv_reads (h := s.heap) hkv h5
      have rd : Reads s.heap (.ref a) (.dict (kvs.map fun p => (PyData.str p.1, PyData.str p.2))) (a :: [] ++ []) := by
        refine .dict h1 h2.1 h3 ?_ ?_
        · rw [List.map_map]; exact q1
        · rw [List.map_map]; exact q2
      refine repr_of_reads' rd (shownL_le kvs) (fun _ => ?_) hq.g ?_ (fun _ _ e => e) (fun h' u tk hk => ⟨.str _, H, I.kept (t' := tk) hk, ⟨u, rfl⟩, q⟩) hl
      · simp only [List.append_nil, List.mem_singleton]
        intro z
        rw [← z] at hsys
        simp at hsys
      · have := depthL_le kvs
        simp only [PyData.depth]
        omega
end
end DL
namespace DL
open PySem PySem.Spec PyProof.Rows L2
section
variable {K : PySem.W.Frag} {ms : Ms} {P : Dat → Ms → Prop} {R : WX} {e : Ev} {X : XP} {ta ti te tk tv : TE} {tA : TA} {O : Out}
/-- a datum, or a list that may change, as plain data -/
def PyV (ms : Ms) (d : Dat) (p : PyData) : Prop := PyD d p ∨ ∃ k xs ys, d = .cell k ∧ ms[k]? = some (.lst xs) ∧ PyDL xs ys ∧ p = .list ys
theorem PyV.dp {W : Wd} {G H : Hp} {v : V} {d : Dat} {p : PyData} (g : Good K W G H ms) (h : PyV ms d p) (r : Rep K W v d) : Dp K H v p := by
  rcases h with h | ⟨k, xs, ys, rfl, hm, h, rfl⟩
  · exact dp_of g.fz h v r
  · cases r with
    | cell e =>
      obtain ⟨vs, e1, r1⟩ := (show MoOk K W H _ (.lst xs) from g.cl _ _ _ e hm)
      exact .lst (SqL.of e1) (dpl_of g.fz h _ r1)
/-- what repr can be asked of -/
structure Shows (p : PyData) : Prop where
  s : p.showable = true
  n : p.hasDict = false
  d : p.depth ≤ 40
  l : p.shown.length ≤ 1000000
theorem dr_repr {d : Dat} {p : PyData} (h : PyV ms d p) (s : Shows p) (q : P (.str p.shown) ms) : DR K (rRepr K) [d] ms P := fun W G H vs Q g r k => by
  cases r with
  | cons r1 rr =>
    cases rr
    exact .inl ⟨_, p, rfl, h.dp g r1, s.s, s.n, s.d, size_of s.l, k W _ _ H ms (Le.refl W) g (.str _) q⟩
def dctS (kvs : List (Str × Str)) : Dat := .dct (kvs.map fun p => (.inr p.1, .str p.2))
theorem repK_str {W : Wd} : ∀ {vs : List (Key × V)} {kvs : List (Str × Str)}, RepK K W vs (kvs.map fun p => ((.inr p.1 : Key), Dat.str p.2)) → vs = kvs.map fun p => ((.inr p.1 : Key), V.str p.2)
  | _, [], h => by cases h; rfl
  | _, p :: kvs, h => by
    cases h with
    | cons a b => cases a; rw [repK_str b]; rfl
def shownS (kvs : List (Str × Str)) : Str := (PyData.dict (kvs.map fun p => (.str p.1, .str p.2))).shown
theorem dr_reprD {kvs : List (Str × Str)} (hl : (shownS kvs).length ≤ 1000000) (q : P (.str (shownS kvs)) ms) : DR K (rRepr K) [dctS kvs] ms P := fun W G H vs Q g r k => by
  cases r with
  | cons r1 rr =>
    cases rr
    cases r1 with
    | dct e r2 =>
      rw [repK_str r2] at e
      exact .inr ⟨_, kvs, rfl, g.fz _ _ e, size_of hl, k W _ _ H ms (Le.refl W) g (.str _) q⟩
/-! ### {}, {k: v} -/
theorem de_dnew (q : P (.dct []) ms) : DE K R tDNewK e ms P X := fun W G σ H Q g s k _ p hp => by
  obtain ⟨g2, l2⟩ := g.laid (o := .dK []) hp
  exact k _ _ _ _ _ l2 g2 (.dct upd_same .nil) q
theorem de_disp1 (h : DE K R tk e ms (fun a m => ∃ z, a = .str z ∧ DE K R tv e m (fun b m2 => P (.dct [(.inr z, b)]) m2) X) X) : DE K R (tDisp [(tk, tv)]) e ms P X := fun W G σ H Q g s k x p hp => by
  have g1 := g.hold (o := .dK []) hp
  have gp : G p = none := g.gd.free hp
  refine h W (upd G p (.dK [])) σ (upd H p (.dK [])) _ g1 s (fun W1 v d H1 m1 l1 g2 r1 ⟨z, hz, h1⟩ => ?_) ?_
  · subst hz
    cases r1
    refine h1 W1 _ σ H1 _ g2 (s.mono l1) (fun W2 u d H2 m2 l2 g3 r2 q => ?_) ?_
    · refine ⟨g3.gd p _ upd_same, [(.inr z, u)], rfl, Nat.le_add_left 1 14, ?_⟩
      have g4 := g3.held (.dK [(.inr z, u)])
      obtain ⟨g5, l5⟩ := g4.frozen gp
      exact k _ _ _ _ _ (l1.trans (l2.trans l5)) g5 (.dct upd_same (.cons (Rep.mono l5 _ _ r2) .nil)) q
    · intro W' C dd fs ds H' ms' l' g' f r xx
      exact x W' C dd fs ds H' ms' (l1.trans l') (g'.weakG (same_new gp)) f r xx
  · intro W' C dd fs ds H' ms' l' g' f r xx
    exact x W' C dd fs ds H' ms' l' (g'.weakG (same_new gp)) f r xx
/-! ### lists that change -/
theorem dr_listC {x : Dat} {xs : List Dat} (s : SeqV ms x xs) (q : P (.cell ms.length) (ms ++ [.lst xs])) :
    DR K (fun vs H Q => ∃ p ys, vs = [V.ref p] ∧ (SqL K H p ys ∨ SqT K H p ys) ∧ ∀ l, H l = none → Q (.ref l) (upd H l (.lst ys))) [x] ms P := fun W G H vs Q g r k => by
  cases r with
  | cons r1 rr =>
    cases rr
    obtain ⟨a, us, rfl, hq, rl⟩ := seq_rep g r1 s
    refine ⟨a, us, rfl, hq, fun l hl => ?_⟩
    have l2 : Le W ⟨W.ι ++ [l], W.F⟩ := ⟨List.prefix_append _ _, Same.refl _⟩
    obtain ⟨g2, _⟩ := g.newC (p := l) (o := .lst us) hl (m := .lst xs) ⟨us, upd_same, RepL.mono l2 _ _ rl⟩
    exact k _ _ _ _ _ l2 g2 (.cell (by show (W.ι ++ [l])[ms.length]? = some l; rw [← g.ln]; simp)) q
theorem tyD_cell {k : Nat} {xs : List Dat} (h : ms[k]? = some (.lst xs)) : TyD K "list" (.cell k) ms := fun W G H v g r => by
  cases r with
  | cell e =>
    obtain ⟨vs, e1, _⟩ := (show MoOk K W H _ (.lst xs) from g.cl _ _ _ e h)
    exact .inl ⟨rfl, vs, SqL.of e1⟩
theorem dr_append {k : Nat} {xs : List Dat} {y : Dat} (h : ms[k]? = some (.lst xs)) (hl : xs.length < 1000000) (q : P .non (ms.set k (.lst (xs ++ [y])))) :
    DR K (fun vs => match vs with | v :: ws => rAppend v ws | [] => fun _ _ => False) [.cell k, y] ms P := fun W G H vs Q g r kk => by
  cases r with
  | cons r1 rr => cases rr with
    | cons r2 rr =>
      cases rr
      cases r1 with
      | cell e =>
        obtain ⟨us, e1, rl⟩ := (show MoOk K W H _ (.lst xs) from g.cl _ _ _ e h)
        refine ⟨_, us, _, rfl, rfl, e1, by rw [rl.length]; exact Nat.lt_of_lt_of_le hl (by decide), ?_⟩
        exact kk W _ _ _ _ (Le.refl W) (g.setC e (o := .lst (us ++ [_])) (m := .lst (xs ++ [y])) ⟨_, upd_same, RepL.append rl r2⟩) .non q
/-- o[i] = d of a list that may change -/
theorem repL_set {W : Wd} : ∀ {vs : List V} {ds : List Dat}, RepL K W vs ds → ∀ {v : V} {d : Dat}, Rep K W v d → ∀ (i : Nat), RepL K W (vs.set i v) (ds.set i d)
  | _, [], h, v, d, r, i => by cases h; exact .nil
  | _, _ :: _, h, v, d, r, 0 => by cases h with | cons a b => exact .cons r b
  | _, _ :: _, h, v, d, r, i + 1 => by cases h with | cons a b => exact .cons a (repL_set b r i)
/-- o[i] = d, the list's place known -/
def SubTo (ms : Ms) (k : Nat) (i d : Dat) (Q : Ms → Prop) : Prop := ∃ z j xs, i = .int z ∧ ms[k]? = some (.lst xs) ∧ ixN xs.length z = some j ∧ Q (ms.set k (.lst (xs.set j d)))
theorem sub_to {k : Nat} {xs : List Dat} {z : Int} {j : Nat} {d : Dat} {Q : Ms → Prop} (hk : ms[k]? = some (.lst xs)) (hj : ixN xs.length z = some j) (q : Q (ms.set k (.lst (xs.set j d)))) : SubTo ms k (.int z) d Q := ⟨z, j, xs, rfl, hk, hj, q⟩
theorem dg_sub {d : Dat} {vs : List Nat} {PE : Ev → Ms → Prop} (h : DE K (fun _ _ _ _ => False) ta e ms (fun o m => ∃ k, o = .cell k ∧ DE K (fun _ _ _ _ => False) ti e m (fun i m2 => SubTo m2 k i d (PE e)) (fun _ _ _ => False)) (fun _ _ _ => False)) :
    DG K (gSub ta ti rSetL) d e ms vs PE := fun W G σ H v Q g s r k => by
  refine h W G σ H _ g s (fun W1 o do' H1 m1 l1 g1 r1 ⟨kk, hk, h1⟩ => ?_) (fun _ _ _ _ _ _ _ _ _ _ _ z => z.elim)
  subst hk
  refine h1 W1 G σ H1 _ g1 (s.mono l1) (fun W2 i di H2 m2 l2 g2 r2 ⟨z, j, xs, hz, hm, hj, q⟩ => ?_) (fun _ _ _ _ _ _ _ _ _ _ _ z => z.elim)
  subst hz
  cases r2
  have rc := Rep.mono l2 _ _ r1
  cases rc with
  | cell e2 =>
    obtain ⟨us, e3, rl⟩ := (show MoOk K W2 H2 _ (.lst xs) from g2.cl _ _ _ e2 hm)
    refine ⟨_, us, z, j, rfl, rfl, e3, by rw [rl.length]; exact hj, ?_⟩
    refine k W2 σ e _ _ (l1.trans l2) (g2.setC e2 (o := .lst (us.set j v)) (m := .lst (xs.set j d)) ⟨_, upd_same, repL_set rl (Rep.mono (l1.trans l2) _ _ r) j⟩) (s.mono (l1.trans l2)) ⟨rfl, fun _ _ => rfl⟩ q
end
end DL
namespace DL
open PySem PySem.Spec PyProof.Rows L2
/-! ### small texts of plain signs -/
structure Sm (n : Nat) (z : Str) : Prop where
  len : z.length ≤ n
  sig : ∀ c ∈ z.cps.toList, c < 128
theorem strLen (z : Str) : z.length = z.cps.toList.length := by simp [Str.length]
theorem Sm.mono {n m : Nat} {z : Str} (h : Sm n z) (l : n ≤ m) : Sm m z := ⟨Nat.le_trans h.len l, h.sig⟩
theorem cps_app (a b : Str) : (a ++ b).cps.toList = a.cps.toList ++ b.cps.toList := TL.tl_append a b
theorem Sm.app {n m : Nat} {a b : Str} (h : Sm n a) (h' : Sm m b) : Sm (n + m) (a ++ b) := ⟨by
  rw [strLen, cps_app, List.length_append, ← strLen, ← strLen]; exact Nat.add_le_add h.len h'.len, fun c hc => by
  rw [cps_app] at hc
  rcases List.mem_append.mp hc with z | z
  · exact h.sig c z
  · exact h'.sig c z⟩
theorem Sm.cut {n : Nat} {a : Str} (h : Sm n a) (lo hi : Option Int) : Sm n (cutS a lo hi) := ⟨Nat.le_trans (cutS_length a lo hi) h.len, fun c hc => by
  unfold cutS at hc
  exact h.sig c (List.mem_of_mem_drop (List.mem_of_mem_take (by simpa using hc)))⟩
theorem Sm.lit {n : Nat} {z : Str} (h : (decide (z.length ≤ n) && z.cps.toList.all fun c => decide (c < 128)) = true) : Sm n z := by
  simp only [Bool.and_eq_true, decide_eq_true_eq, List.all_eq_true] at h
  exact ⟨h.1, fun c hc => by simpa using h.2 c hc⟩
theorem joinL_nil : ∀ (ls : List (List Nat)), TL.joinL [] ls = ls.flatten
  | [] => rfl
  | [a] => by simp [TL.joinL]
  | a :: b :: r => by rw [TL.joinL, joinL_nil (b :: r)]; simp
theorem join_cps {y : Str} (hy : y.cps.toList = []) (ls : List Str) : (Txt.join y ls).cps.toList = (ls.map fun z => z.cps.toList).flatten := by
  rw [TL.join_eq]
  have := TL.tl_join y ls
  rw [show TL.tl y = [] from hy, joinL_nil] at this
  exact this
theorem Sm.join {y : Str} (hy : y.cps.toList = []) (cs : List Nat) (h : ∀ c ∈ cs, c < 128) : Sm cs.length (Txt.join y (cs.map sign1)) := by
  have e : (Txt.join y (cs.map sign1)).cps.toList = cs := by
    rw [join_cps hy, List.map_map]
    induction cs with
    | nil => rfl
    | cons c cs ih =>
      rw [List.map_cons, List.flatten_cons, ih (fun d hd => h d (List.mem_cons_of_mem _ hd))]
      rfl
  exact ⟨by rw [strLen, e]; exact Nat.le_refl _, by rw [e]; exact h⟩
theorem Sm.nil : Sm 0 Str.empty := Sm.lit (by decide +kernel)
theorem Sm.sign {c : Nat} (h : c < 128) : Sm 1 (sign1 c) := ⟨Nat.le_refl _, fun d hd => by
  cases List.mem_singleton.mp (show d ∈ [c] from hd)
  exact h⟩
section
variable {K : PySem.W.Frag} {ms : Ms} {P : Dat → Ms → Prop}
theorem d2_addSm {a b : Str} {n m : Nat} (h : Sm n a) (h' : Sm m b) (hl : n + m ≤ 1000000) (q : Sm (n + m) (a ++ b) → P (.str (a ++ b)) ms) : D2 K rAddA (.str a) (.str b) ms P :=
  d2_addS (Nat.le_trans (Nat.add_le_add h.len h'.len) hl) (q (h.app h'))
theorem dsl_Sm {z : Str} {n : Nat} {lo hi : Option Int} (h : Sm n z) (hn : n ≤ 1000000) (q : Sm n (cutS z lo hi) → P (.str (cutS z lo hi)) ms) : DSl K (.str z) lo hi ms P := dsl_str (Nat.le_trans h.len hn) (q (h.cut lo hi))
theorem atI_map {α β : Type} (f : α → β) {l : List α} {k : Int} (h0 : 0 ≤ k) (h1 : k < l.length) : ∃ a ∈ l, atI (l.map f) k = some (f a) := by
  obtain ⟨n, rfl⟩ := Int.eq_ofNat_of_zero_le h0
  have hn : n < l.length := by omega
  refine ⟨l[n], List.getElem_mem hn, ?_⟩
  unfold atI ixN
  simp [hn]
theorem d2_ixM {α : Type} {f : α → Dat} {x : Dat} {vs : List α} {i : Int} (s : SeqV ms x (vs.map f)) (h0 : 0 ≤ i) (h1 : i < vs.length) (q : ∀ v ∈ vs, P (f v) ms) : D2 K (rIx K) x (.int i) ms P := by
  obtain ⟨a, ha, e⟩ := atI_map f h0 h1
  exact d2_ix s e (q a ha)
end
/-! ### the box of numbers that a law draws from -/
structure BoxOk (n : Nat) (xs : List Dat) : Prop where
  is : ∃ (a m c : Int) (b : Bool), xs = [.int a, .bl b, .int m, .int c] ∧ 0 ≤ a ∧ 0 ≤ m ∧ m < 2147483629 ∧ 0 ≤ c ∧ c ≤ n
theorem BoxOk.mono {n m : Nat} {xs : List Dat} (h : BoxOk n xs) (l : n ≤ m) : BoxOk m xs := by
  obtain ⟨a, m', c, b, e, h1, h2, h3, h4, h5⟩ := h.is
  exact ⟨a, m', c, b, e, h1, h2, h3, h4, by omega⟩
theorem log_le {n : Nat} {b : Nat} (h : n ≤ b) : n.log2 ≤ b := Nat.le_trans (Nat.log2_le_self n) h
theorem log64 {n : Nat} (h : n < 18446744073709551616) : n.log2 < 64 := by
  by_cases hn : n = 0
  · subst hn; decide
  · exact (Nat.log2_lt hn).mpr (by show n < 2 ^ 64; exact h)
theorem mul_ok {i j : Int} (h : i.natAbs < 18446744073709551616) (h' : j.natAbs < 18446744073709551616) : i.natAbs.log2 + j.natAbs.log2 < 1000000 := by
  have := log64 h
  have := log64 h'
  omega
theorem div_ok {j : Int} (h0 : 0 < j) (h : j.natAbs < 18446744073709551616) : 0 < j ∧ j.natAbs.log2 < 9000 := ⟨h0, by have := log64 h; omega⟩
theorem pow_ok {i j : Int} (h0 : 0 ≤ j) (h1 : j ≤ 1000000) (h : i.natAbs < 18446744073709551616) : 0 ≤ j ∧ j ≤ 1000000 ∧ i.natAbs < 2 ^ 64 := ⟨h0, h1, h⟩
def sub3 (xs : List Dat) (v : Int) : List Dat := xs.set 3 (.int v)
theorem ms_self {ms : Ms} {k : Nat} {m : MO} (h : ms[k]? = some m) : ms.set k m = ms := by
  obtain ⟨l, e⟩ := List.getElem?_eq_some_iff.mp h
  rw [← e]
  exact List.set_getElem_self l
theorem atI_nat {α : Type} {l : List α} {n : Nat} (h : n < l.length) : atI l (n : Int) = some l[n] := by
  unfold atI ixN
  have h1 : (n : Int) < l.length := by omega
  rw [if_pos (by omega), if_pos h1]
  simp [h]
theorem set_same {ms : Ms} {k : Nat} {m : MO} (h : k < ms.length) : (ms.set k m)[k]? = some m := List.getElem?_set_self h
theorem ms_lt {ms : Ms} {k : Nat} {m : MO} (h : ms[k]? = some m) : k < ms.length := (List.getElem?_eq_some_iff.mp h).1
end DL
namespace DL
open PySem PySem.Spec PyProof.Rows L2
theorem strOk_of {z : Str} (h : ∀ c ∈ z.cps.toList, c < 128) : PyData.strOk z = true := by
  unfold PyData.strOk
  rw [← Array.all_toList, List.all_eq_true]
  intro c hc
  have := h c hc
  simp
  omega
section
variable {K : PySem.W.Frag} {ms : Ms} {P : Dat → Ms → Prop}
theorem pydl_str : ∀ (cs : List Str), PyDL (cs.map Dat.str) (cs.map PyData.str)
  | [] => .nil
  | c :: cs => .cons (.str c) (pydl_str cs)
theorem pydl_int : ∀ (cs : List Int), PyDL (cs.map Dat.int) (cs.map PyData.int)
  | [] => .nil
  | c :: cs => .cons (.int c) (pydl_int cs)
theorem lay_str : ∀ {cs : List Str}, (∀ z ∈ cs, ∀ c ∈ z.cps.toList, c < 128) → PyData.canLayAll0 (cs.map PyData.str) = true
  | [], _ => rfl
  | z :: cs, h => by
    show (PyData.strOk z && PyData.canLayAll0 _) = true
    rw [strOk_of (h z List.mem_cons_self), lay_str (fun z hz => h z (List.mem_cons_of_mem _ hz))]; rfl
theorem dep_str : ∀ (cs : List Str), PyData.depthAll (cs.map PyData.str) ≤ 1
  | [] => by simp [PyData.depthAll]
  | z :: cs => by have := dep_str cs; simp only [List.map_cons, PyData.depthAll, PyData.depth]; omega
theorem lay_int : ∀ (cs : List Int), PyData.canLayAll0 (cs.map PyData.int) = true
  | [] => rfl
  | z :: cs => by show (true && PyData.canLayAll0 _) = true; rw [lay_int cs]; rfl
theorem dep_int : ∀ (cs : List Int), PyData.depthAll (cs.map PyData.int) ≤ 1
  | [] => by simp [PyData.depthAll]
  | z :: cs => by have := dep_int cs; simp only [List.map_cons, PyData.depthAll, PyData.depth]; omega
theorem shaped_strs {cs : List Str} (h : ∀ z ∈ cs, ∀ c ∈ z.cps.toList, c < 128) : SeqAt.shaped (.list (cs.map PyData.str)) = true := by
  have := dep_str cs
  unfold SeqAt.shaped
  simp only [PyData.canLay0, lay_str h, PyData.depth, Bool.true_and, decide_eq_true_eq]
  exact decide_eq_true (by omega)
theorem shaped_ints (cs : List Int) : SeqAt.shaped (.list (cs.map PyData.int)) = true := by
  have := dep_int cs
  unfold SeqAt.shaped
  simp only [PyData.canLay0, lay_int cs, PyData.depth, Bool.true_and, decide_eq_true_eq]
  exact decide_eq_true (by omega)
theorem shaped_tups {cs : List Str} (h : ∀ z ∈ cs, ∀ c ∈ z.cps.toList, c < 128) : SeqAt.shaped (.tuple (cs.map PyData.str)) = true := by
  have := dep_str cs
  unfold SeqAt.shaped
  simp only [PyData.canLay0, lay_str h, PyData.depth, Bool.true_and, decide_eq_true_eq]
  exact decide_eq_true (by omega)
/-- a list of texts == [] -/
theorem d2_eqNilS {xs : List Dat} {cs : List Str} (e : xs = cs.map Dat.str) (h : ∀ z ∈ cs, ∀ c ∈ z.cps.toList, c < 128) (q : P (.bl cs.isEmpty) ms) : D2 K (rEqA K) (.lst xs) (.lst []) ms P := by
  subst e
  refine d2_eqD (.lst (pydl_str cs)) (.lst .nil) (shaped_strs h) (by decide +kernel) ?_
  have e : PyData.eqv (.list (cs.map PyData.str)) (.list []) = cs.isEmpty := by cases cs <;> simp [PyData.eqv, PyData.eqvAll]
  rw [e]; exact q
theorem d2_eqNilI {xs : List Dat} {cs : List Int} (e : xs = cs.map Dat.int) (q : P (.bl cs.isEmpty) ms) : D2 K (rEqA K) (.lst xs) (.lst []) ms P := by
  subst e
  refine d2_eqD (.lst (pydl_int cs)) (.lst .nil) (shaped_ints cs) (by decide +kernel) ?_
  have e : PyData.eqv (.list (cs.map PyData.int)) (.list []) = cs.isEmpty := by cases cs <;> simp [PyData.eqv, PyData.eqvAll]
  rw [e]; exact q
theorem eqvT (a b c d : Str) : PyData.eqv (.tuple [.str a, .str b]) (.tuple [.str c, .str d]) = (a == c && b == d) := by simp [PyData.eqv, PyData.eqvAll]
theorem d2_eqT {a b c d : Str} (h : ∀ z ∈ [a, b], ∀ c ∈ z.cps.toList, c < 128) (h' : ∀ z ∈ [c, d], ∀ c ∈ z.cps.toList, c < 128) (q : P (.bl (a == c && b == d)) ms) : D2 K (rEqA K) (.tup [.str a, .str b]) (.tup [.str c, .str d]) ms P := by
  refine d2_eqD (p := .tuple [.str a, .str b]) (p' := .tuple [.str c, .str d]) (.tup (pydl_str [a, b])) (.tup (pydl_str [c, d])) (shaped_tups h) (shaped_tups h') ?_
  rw [eqvT]; exact q
theorem d2_neT {a b c d : Str} (h : ∀ z ∈ [a, b], ∀ c ∈ z.cps.toList, c < 128) (h' : ∀ z ∈ [c, d], ∀ c ∈ z.cps.toList, c < 128) (q : P (.bl (!(a == c && b == d))) ms) : D2 K (rNeA K) (.tup [.str a, .str b]) (.tup [.str c, .str d]) ms P := by
  refine d2_neD (p := .tuple [.str a, .str b]) (p' := .tuple [.str c, .str d]) (.tup (pydl_str [a, b])) (.tup (pydl_str [c, d])) (shaped_tups h) (shaped_tups h') ?_
  rw [eqvT]; exact q
end
theorem mtA_append {X : Cx} : MtR X "list.append" rAppend := mt_append
theorem pe_bmK {X : Cx} {K : PySem.W.Frag} {T id : String} {name : Str} {r : V → List V → Hp → VK → Prop} {o e : Expr} {es : List Expr} {to : TE} {t : TA} {apos cpos : Pos} (hK : X.K = K) (pa : PlainAttrs T) (slot : Slot T name id) (hty : typeOf (.builtin id) = pure (.type "method_descriptor")) (hm : MtR X id r) (ho : PE X o to) (ha : PA X (e :: es) t)
    (hbase : attributeBase o name X.env (eval o X.env) = eval o X.env := by rfl)
    (hfew : ((backTo cpos (starEach (e :: es) X.env)).all (fun x => !x.1) && (backToKw cpos (keywordEach [] X.env)).all (fun x => x.1.isSome) && decide ((e :: es).length + ([] : List Keyword).length + (if ([] : List Keyword).isEmpty then 0 else 1) < 30)) = true := by rfl)
    (hline : (apos.endLine == cpos.line) = true := by rfl) (hs : starEach (e :: es) X.env = (false, eval e X.env) :: starEach es X.env := by rfl) (hplain : (backTo cpos (starEach es X.env)).any (·.1) = false := by rfl) :
    PE X (.Call (.Attribute o name apos) (e :: es) [] cpos) (tBM K T r to t) := by
  subst hK
  exact pe_bm pa slot hty hm ho ha hbase hfew hline hs hplain
/-! ### except suites -/
def tTry (K : PySem.W.Frag) (c : Value) (i : Nat) (tb : WX → TS) (ts : Addr → Value → Option Addr → TS) (R : WX) : TS := fun D σ H => tb (wAs K c i ts R D) D σ H
theorem ps_tryK {X : Cx} {K : PySem.W.Frag} {x n : Str} {c : Value} {i : Nat} {body suite : List Stmt} {b₀ : Stmt} {np pos pos' : Pos} {tb : WX → TS} {ts : Addr → Value → Option Addr → TS} {Wout : WX} (hK : X.K = K)
    (hs : X.stack = X.env :: X.outer) (hf : X.env.frame = some X.env.locals) (hN : X.N.Nodup) (hi : X.N[i]? = some n) (hln : X.env.kindOf n = some .local) (hc : Names X x c) (tk : L2N.Takes X Wout)
    (hb : ∀ (W : WX) (pn : List (Addr × Obj)) (xe : Value → Shared → Prop), L2N.Takes (X.tr pn xe) W → PassesOwn (model X.prog X.w) X.A X.env xe → PSs (X.tr pn xe) body (tb W))
    (hsu : ∀ (a : Addr) (oe : Obj) (cls : Value) (d : Option Addr) (pn : List (Addr × Obj)), L2N.Zn cls d oe → (∃ vs, oe.data = .fields vs) → PSs (X.suite a ((a, oe) :: pn)) (b₀ :: suite) (ts a cls d)) :
    PS X (.Try body [.ExceptHandler (some (.Name x np)) (some n) (b₀ :: suite) pos'] [] [] pos) (tTry K c i tb ts Wout) := by
  subst hK
  exact L2N.ps_try_as hs hf hN hi hln hc tk hb hsu
theorem ds_tryK {K : PySem.W.Frag} {R : WX} {e : Ev} {ms : Ms} {O : Out} {c : Value} {i : Nat} {tb : WX → TS} {ts : Addr → Value → Option Addr → TS}
    (h : ∀ R', DS K R' (tb R') e ms { O with ex := fun D ds e' m' => ∃ b, PySem.W.exmOne K (.ref D) c = some b ∧
      (b = true → ∀ a dd, DS K (fun _ _ _ _ => False) (ts a (.ref D) (some dd)) (e'.set i (some (.hot a dd D ds))) m' { nx := fun e2 m2 => O.nx (e2.set i none) m2, rt := O.rt, bk := fun e2 m2 => O.bk (e2.set i none) m2, ct := fun e2 m2 => O.ct (e2.set i none) m2 }) ∧
      (b = false → O.ex D ds e' m') }) : DS K R (tTry K c i tb ts R) e ms O := ds_try h
section
variable {X : Cx} {a : Addr} {oe : Obj} {cls : Value} {d : Option Addr} {pn : List (Addr × Obj)}
theorem hotSuite (hz : L2N.Zn cls d oe) (hf : ∃ vs, oe.data = .fields vs) : L2H.HotC (X.suite a ((a, oe) :: pn)) := by
  obtain ⟨vs, e⟩ := hf
  exact ⟨(a, oe), ⟨rfl, vs, e, hz.2.2 vs e⟩, List.mem_cons_self⟩
theorem roomS {k : Nat} {h : Option Value} (r : Room k X.A) : L2H.RoomH k (X.A.mark h) := ⟨r.dp, r.un⟩
end
/-! ### texts: the beginning -/
theorem starts_is (z y : Str) : Txt.startswith z y = decide ((cutS z none (some (y.length : Int))).cps.toList = y.cps.toList) := by
  unfold Txt.startswith
  have e : (cutS z none (some (y.length : Int))).cps.toList = z.cps.toList.take y.length := by
    unfold cutS
    rw [HT.sIx_none, HT.sIx_nat]
    simp only [List.drop_zero, Nat.sub_zero, Nat.min_def]
    split
    · rfl
    · rw [List.take_of_length_le (by rw [← strLen]; exact Nat.le_refl _), List.take_of_length_le (by rw [← strLen]; omega)]
  rw [e, StrLaws.subAt_eq]
  by_cases h : z.cps.toList.take y.length = y.cps.toList
  · have : y.length ≤ z.length := by
      have := congrArg List.length h
      rw [List.length_take, ← strLen, ← strLen] at this
      omega
    rw [decide_eq_true h, decide_eq_true (by omega)]
    simp [h]
  · rw [decide_eq_false h]
    simp [h]
theorem str_ext {a b : Str} (h : a.cps.toList = b.cps.toList) : a = b := TL.ext_tl h
theorem str_eq {a b : Str} : a = b ↔ a.cps.toList = b.cps.toList := ⟨fun e => by rw [e], str_ext⟩
theorem cut_from (z : Str) (k : Nat) : (cutS z (some (k : Int)) none).cps.toList = z.cps.toList.drop k := by
  unfold cutS
  rw [HT.sIx_nat, HT.sIx_none]
  simp only [Nat.min_def]
  split
  · rename_i h
    rw [List.take_of_length_le]
    rw [List.length_drop, ← strLen]
    omega
  · rename_i h
    rw [List.drop_eq_nil_of_le (by rw [← strLen]; exact Nat.le_refl _), List.drop_eq_nil_of_le (by rw [← strLen]; omega)]
    simp
theorem cut_to (z : Str) (k : Nat) : (cutS z none (some (k : Int))).cps.toList = z.cps.toList.take k := by
  unfold cutS
  rw [HT.sIx_none, HT.sIx_nat]
  simp only [List.drop_zero, Nat.sub_zero, Nat.min_def]
  split
  · rfl
  · rw [List.take_of_length_le (by rw [← strLen]; exact Nat.le_refl _), List.take_of_length_le (by rw [← strLen]; omega)]
end DL
namespace DL
open PySem PySem.Spec PyProof.Rows L2
/-- plain data that repr shows in n signs at most, k deep -/
structure Cm (d : Dat) (n k : Nat) : Prop where
  ex : ∃ p, PyD d p ∧ p.showable = true ∧ p.hasDict = false ∧ p.depth ≤ k ∧ p.shown.length ≤ n
  ty : ∃ T, ∀ ms, tyOf ms d = some T
  so : StrOk d
structure CmL (ds : List Dat) (n k : Nat) : Prop where
  ex : ∃ ps, PyDL ds ps ∧ PyData.showableAll ps = true ∧ PyData.hasDictAll ps = false ∧ PyData.depthAll ps ≤ k ∧ ((PyData.shownAll ps).map (·.length)).sum + 2 * (PyData.shownAll ps).length ≤ n
  all : ∀ d ∈ ds, (∃ T, ∀ ms, tyOf ms d = some T) ∧ StrOk d
theorem Cm.mono {d : Dat} {n k m j : Nat} (h : Cm d n k) (l : n ≤ m) (l' : k ≤ j) : Cm d m j := by
  obtain ⟨⟨p, a, b, c, e, f⟩, t, s⟩ := h
  exact ⟨⟨p, a, b, c, Nat.le_trans e l', Nat.le_trans f l⟩, t, s⟩
theorem CmL.nil {k : Nat} : CmL [] 0 k := ⟨⟨[], .nil, rfl, rfl, Nat.zero_le _, Nat.le_refl _⟩, fun _ h => nomatch h⟩
theorem CmL.cons {d : Dat} {ds : List Dat} {n m k : Nat} (h : Cm d n k) (h' : CmL ds m k) : CmL (d :: ds) (n + m + 2) k := by
  obtain ⟨⟨p, a, b, c, e, f⟩, t, s⟩ := h
  obtain ⟨⟨ps, a', b', c', e', f'⟩, al⟩ := h'
  refine ⟨⟨p :: ps, .cons a a', ?_, ?_, ?_, ?_⟩, fun x hx => ?_⟩
  · show (p.showable && PyData.showableAll ps) = true
    rw [b, b']; rfl
  · show (p.hasDict || PyData.hasDictAll ps) = false
    rw [c, c']; rfl
  · show max p.depth (PyData.depthAll ps) ≤ k
    omega
  · show (List.map (fun x => x.length) (p.shown :: PyData.shownAll ps)).sum + 2 * (p.shown :: PyData.shownAll ps).length ≤ _
    rw [List.map_cons, List.sum_cons, List.length_cons]
    omega
  · rcases List.mem_cons.mp hx with z | z
    · subst z; exact ⟨t, s⟩
    · exact al x z
theorem CmL.tup {ds : List Dat} {n k : Nat} (h : CmL ds n k) : Cm (.tup ds) (n + 5) (k + 1) := by
  obtain ⟨⟨ps, a, b, c, e, f⟩, al⟩ := h
  refine ⟨⟨.tuple ps, .tup a, b, c, ?_, ?_⟩, ⟨"tuple", fun _ => rfl⟩, True.intro⟩
  · show PyData.depthAll ps + 1 ≤ k + 1; omega
  · show (tupleText (PyData.shownAll ps)).length ≤ _
    have := PySem.tupleText_len_le (PyData.shownAll ps)
    omega
theorem CmL.lst {ds : List Dat} {n k : Nat} (h : CmL ds n k) : Cm (.lst ds) (n + 5) (k + 1) := by
  obtain ⟨⟨ps, a, b, c, e, f⟩, al⟩ := h
  refine ⟨⟨.list ps, .lst a, b, c, ?_, ?_⟩, ⟨"list", fun _ => rfl⟩, True.intro⟩
  · show PyData.depthAll ps + 1 ≤ k + 1; omega
  · show (listText (PyData.shownAll ps)).length ≤ _
    have := PySem.listText_len_le (PyData.shownAll ps)
    omega
theorem CmL.snoc {d : Dat} {n k : Nat} (h : Cm d n k) : ∀ {ds : List Dat} {m : Nat}, CmL ds m k → CmL (ds ++ [d]) (n + m + 2) k := by
  intro ds m h'
  obtain ⟨⟨p, a, b, c, e, f⟩, t, s⟩ := h
  obtain ⟨⟨ps, a', b', c', e', f'⟩, al⟩ := h'
  have key : ∀ {ds : List Dat} {ps : List PyData}, PyDL ds ps → PyDL (ds ++ [d]) (ps ++ [p]) := by
    intro ds ps h
    induction ds generalizing ps with
    | nil => cases h; exact .cons a .nil
    | cons x xs ih => cases h with | cons h1 h2 => exact .cons h1 (ih h2)
  have s1 : ∀ ps : List PyData, PyData.showableAll (ps ++ [p]) = (PyData.showableAll ps && p.showable) := by
    intro ps; induction ps with
    | nil => simp [PyData.showableAll]
    | cons x xs ih => simp only [List.cons_append, PyData.showableAll, ih, Bool.and_assoc]
  have s2 : ∀ ps : List PyData, PyData.hasDictAll (ps ++ [p]) = (PyData.hasDictAll ps || p.hasDict) := by
    intro ps; induction ps with
    | nil => simp [PyData.hasDictAll]
    | cons x xs ih => simp only [List.cons_append, PyData.hasDictAll, ih, Bool.or_assoc]
  have s3 : ∀ ps : List PyData, PyData.depthAll (ps ++ [p]) = max (PyData.depthAll ps) p.depth := by
    intro ps; induction ps with
    | nil => simp [PyData.depthAll]
    | cons x xs ih => simp only [List.cons_append, PyData.depthAll, ih]; omega
  have s4 : ∀ ps : List PyData, PyData.shownAll (ps ++ [p]) = PyData.shownAll ps ++ [p.shown] := by
    intro ps; induction ps with
    | nil => simp [PyData.shownAll]
    | cons x xs ih => simp only [List.cons_append, PyData.shownAll, ih]
  refine ⟨⟨ps ++ [p], key a', by rw [s1, b, b']; rfl, by rw [s2, c, c']; rfl, by rw [s3]; omega, ?_⟩, fun x hx => ?_⟩
  · rw [s4, List.map_append, List.sum_append, List.length_append]
    simp only [List.map_cons, List.map_nil, List.sum_cons, List.sum_nil, List.length_cons, List.length_nil]
    omega
  · rcases List.mem_append.mp hx with z | z
    · exact al x z
    · cases List.mem_singleton.mp z; exact ⟨t, s⟩
theorem cm_str {z : Str} {m n k : Nat} (h : Sm m z) (hm : m ≤ 100000) (l : 10 * m + 2 ≤ n) : Cm (.str z) n k := by
  have := StrLaws.reprText_len z (fun c hc => Nat.lt_trans (h.sig c hc) (by decide))
  have := h.len
  exact ⟨⟨.str z, .str z, rfl, rfl, Nat.zero_le _, by show (reprText z).length ≤ n; omega⟩, ⟨"str", fun _ => rfl⟩, ⟨by omega, h.sig⟩⟩
theorem cm_non {n k : Nat} (h : 4 ≤ n) : Cm .non n k := ⟨⟨.none, .non, rfl, rfl, Nat.zero_le _, Nat.le_trans (by decide +kernel) h⟩, ⟨"NoneType", fun _ => rfl⟩, True.intro⟩
theorem cm_bl {b : Bool} {n k : Nat} (h : 5 ≤ n) : Cm (.bl b) n k := ⟨⟨.bool b, .bl b, rfl, rfl, Nat.zero_le _, by cases b <;> exact Nat.le_trans (by decide +kernel) h⟩, ⟨"bool", fun _ => rfl⟩, True.intro⟩
theorem cm_int {i : Int} {n k : Nat} (h : (decide (i.natAbs.log2 < 1920) && decide ((PyData.int i).shown.length ≤ n)) = true) : Cm (.int i) n k := by
  simp only [Bool.and_eq_true, decide_eq_true_eq] at h
  exact ⟨⟨.int i, .int i, by simp [PyData.showable, h.1], rfl, Nat.zero_le _, h.2⟩, ⟨"int", fun _ => rfl⟩, True.intro⟩
theorem Cm.v {K : PySem.W.Frag} {ms : Ms} {d : Dat} {n k : Nat} (h : Cm d n k) : VOk K ms d := by
  obtain ⟨T, t⟩ := h.ty
  exact .ty (t ms) h.so
theorem shownS_le {kvs : List (Str × Str)} {w a : Str} {n m : Nat} (e : kvs = [(a, w)]) (ha : Sm n a) (hw : Sm m w) : (shownS kvs).length ≤ 10 * (n + m) + 100 := by
  subst e
  have h1 := StrLaws.reprText_len a (fun c hc => Nat.lt_trans (ha.sig c hc) (by decide))
  have h2 := StrLaws.reprText_len w (fun c hc => Nat.lt_trans (hw.sig c hc) (by decide))
  have h3 := ha.len
  have h4 := hw.len
  have := PySem.dictText_len_le [reprText a ++ (": " : Str) ++ reprText w]
  have e : (shownS [(a, w)]).length = (dictText [reprText a ++ (": " : Str) ++ reprText w]).length := rfl
  rw [e]
  have e2 : ((": " : Str)).length = 2 := by decide +kernel
  simp only [List.map_cons, List.map_nil, List.sum_cons, List.sum_nil, List.length_cons, List.length_nil, PySem.Str.length_append, e2] at this
  omega
theorem itL_mem {xs : List Dat} {i : Nat} (h : i < xs.length) : itL xs i ∈ xs := by
  rw [itL_get (List.getElem?_eq_getElem h)]
  exact List.getElem_mem h
section
variable {K : PySem.W.Frag} {ms : Ms} {P : Dat → Ms → Prop}
theorem d1_neg {i : Int} (q : P (.int (-i)) ms) : D1 K (rU fun i => .int (-i)) (.int i) ms P := fun W G H v Q g r k => by
  cases r
  exact ⟨i, rfl, k W _ _ H ms (Le.refl W) g (.int _) q⟩
/-- a value of a kind known by its type: is it of a class that no built-in's value is of? -/
theorem dr_isiT {x : Dat} {T : String} {C : Addr} {b : Bool} (ht : ∀ ms, tyOf ms x = some T) (hb : PySem.W.kitOne K (.type T) (.ref C) = some b) (q : P (.bl b) ms) : DR K (rIsiX K) [x, .ref C] ms P := dr_isiC (ht ms) hb q
theorem dr_max {i j : Int} (q : P (.int (if j > i then j else i)) ms) : DR K (fun xs H Q => ∃ i j, xs = [.int i, .int j] ∧ Q (.int (if j > i then j else i)) H) [.int i, .int j] ms P := fun W G H vs Q g r k => by
  cases r with
  | cons r1 rr => cases rr with
    | cons r2 rr =>
      cases rr; cases r1; cases r2
      exact ⟨i, j, rfl, k W _ _ H ms (Le.refl W) g (.int _) q⟩
theorem dr_min {i j : Int} (q : P (.int (if j < i then j else i)) ms) : DR K (fun xs H Q => ∃ i j, xs = [.int i, .int j] ∧ Q (.int (if j < i then j else i)) H) [.int i, .int j] ms P := fun W G H vs Q g r k => by
  cases r with
  | cons r1 rr => cases rr with
    | cons r2 rr =>
      cases rr; cases r1; cases r2
      exact ⟨i, j, rfl, k W _ _ H ms (Le.refl W) g (.int _) q⟩
end
def AsLst (d : Dat) (Q : List Dat → Prop) : Prop := ∃ xs, (d = .lst xs ∨ d = .rol xs) ∧ Q xs
theorem as_lst {xs : List Dat} {Q : List Dat → Prop} (q : Q xs) : AsLst (.lst xs) Q := ⟨xs, .inl rfl, q⟩
theorem as_rol {xs : List Dat} {Q : List Dat → Prop} (q : Q xs) : AsLst (.rol xs) Q := ⟨xs, .inr rfl, q⟩
theorem di_lst {K : PySem.W.Frag} {ms : Ms} {R : WX} {e : Ev} {X : XP} {ta : TE} {PI : Nat → (Nat → Dat) → Ms → Prop} (h : DE K R ta e ms (fun d m => AsLst d (fun xs => PI xs.length (itL xs) m)) X) : DI K R (iList K ta) e ms PI X := di_list h
end DL
namespace DL
open PySem PySem.Spec PyProof.Rows L2
/-! ### the law's call, for promises over data -/
section
variable {P : Program} {w : World} {K : PySem.W.Frag} {mg mb : Str → Option Value} {k : Nat} {fa a : Addr} {fd : FuncData} {x : Str} {A : Pm} {s1 : Shared} {vs : List Value} {ns : List Int}
/-- what is tracked ahead of the call: the script, if it is no object of the module -/
def onlyScript (K : PySem.W.Frag) (a : Addr) (vs : List Value) (ns : List Int) : Hp := fun b => if b = a ∧ (K.lookup a).isNone = true then some (.frz { cls := .type "list", data := .seq vs.toArray } (.lst (ns.map V.int))) else none
theorem onlyScript_at {b : Addr} {u : HO} (h : onlyScript K a vs ns b = some u) : b = a ∧ K.lookup a = none ∧ u = .frz { cls := .type "list", data := .seq vs.toArray } (.lst (ns.map V.int)) := by
  unfold onlyScript at h
  by_cases hb : b = a ∧ (K.lookup a).isNone = true
  · rw [if_pos hb] at h
    cases h
    exact ⟨hb.1, by simpa using hb.2, rfl⟩
  · rw [if_neg hb] at h
    cases h
theorem callG (KX : K.In s1.heap) (hm : s1.heap.Ns mainGlobals mg) (hB : s1.heap.Ns builtinsNs mb) (hbb : ∀ x : Str, x ≠ "__name__" → mb x = bootBuiltins x) (lim : s1.heap.NoLimit) (hg : s1.gens = #[])
    (ho : s1.heap.get? a = some { cls := .type "list", data := .seq vs.toArray }) (hi : IntsAre vs ns) (hl : ns.length ≤ sizeLine) (hr : Room k callerA)
    (F : ∀ base : Heap, K.In base → base.Ns mainGlobals mg → FnG P w K mg base (L2N.CX P w) k fa fd [x] (spD K A)) (bind : ∀ (s : Shared) (u : Value), BindsTo s fd ⟨[u], []⟩ [(x, u)])
    (hA : A [.rol (ns.map Dat.int)] [] (fun d _ => d = .bl true) (fun _ _ _ => False)) :
    codeAny (model P w) callerA (.call (.ref fa) ⟨[.ref a], []⟩) (fun r s' => r = .ok (.ret (.bool true)) ∧ OldK s1.heap s'.heap ∧ s'.os = s1.os ∧ AllBare s'.gens) s1 := by
  have rv := vals_ints hi
  have hlen : vs.length = ns.length := by have := rv.length; simpa using this.symm
  generalize hH : onlyScript K a vs ns = H
  have at_ : ∀ {b : Addr} {u : HO}, H b = some u → b = a ∧ K.lookup a = none ∧ u = .frz { cls := .type "list", data := .seq vs.toArray } (.lst (ns.map V.int)) := fun {b u} e => onlyScript_at (by rw [hH]; exact e)
  have ok : HOk P w H s1.heap := fun b u e => by
    obtain ⟨rfl, _, rfl⟩ := at_ e
    exact ⟨ho, by rw [List.length_map]; exact hl, vs, _, rv, ho⟩
  have sq : SqL K H a (ns.map V.int) := by
    cases hk : K.lookup a with
    | none =>
      refine .inl (.inr ⟨{ cls := .type "list", data := .seq vs.toArray }, ?_⟩)
      rw [← hH]
      exact if_pos ⟨rfl, by rw [hk]; rfl⟩
    | some o =>
      have e := KX a o hk
      rw [ho] at e
      cases e
      exact .inr ⟨_, vs.toArray, _, hk, rfl, rfl, rfl, by rw [List.size_toArray, hlen]; exact hl, by simpa using rv⟩
  have free : ∀ {b : Addr} {o : Obj}, s1.heap.get? b = some o → (∀ its n, o.data ≠ .seq its n) → H b = none := fun {b o} e d => by
    cases q : H b with
    | none => rfl
    | some u =>
      obtain ⟨rfl, _⟩ := at_ q
      rw [ho] at e
      cases e
      exact absurd rfl (d _ _)
  have ns' : ∀ {b : Addr} {m : Str → Option Value}, s1.heap.Ns b m → (hidT s1.heap H).Ns b m := fun {b m} ⟨o, es, ep, e, d, r⟩ => ⟨o, es, ep, hidT_get e (free e fun its n z => by rw [d] at z; cases z), d, r⟩
  have kin : K.In (hidT s1.heap H) := fun b o e => hidT_get (KX b o e) (by
    cases q : H b with
    | none => rfl
    | some u =>
      obtain ⟨rfl, z, _⟩ := at_ q
      rw [z] at e
      cases e)
  have md : Mod K mg (hidT s1.heap H) := ⟨kin, ns' hm, ⟨mb, ns' hB, hbb⟩, lim.imp fun _ z => ⟨ns' z.1, z.2⟩⟩
  have e0 : Env0 P w K mg (hidT s1.heap H) callerA [] s1 H := ⟨rfl, md, fun b o e => of_hidT e, Nat.le_of_eq (hidT_size _ _), trivial, fun b hb => (List.not_mem_nil (a := b) hb).elim, ok, .of_eq hg⟩
  have rints : ∀ ns : List Int, RepL K ⟨[], H⟩ (ns.map V.int) (ns.map Dat.int) := fun ns => by
    induction ns with
    | nil => exact .nil
    | cons n ns ih => exact .cons (.int n) ih
  have gd : Good K ⟨[], H⟩ (fun _ => none) H [] := ⟨fun _ _ e => e, fun _ _ e => (nomatch e), rfl, List.nodup_nil, fun _ h => (nomatch h), fun _ h => (nomatch h), fun _ _ e => (nomatch e), fun k a m h => (by simp at h)⟩
  refine codeAny_mono ((F _ kin (ns' hm)).go callerA [] s1 H ⟨[.ref a], []⟩ [.ref a] [.ref a] (fun v _ => v = .bl true) (fun _ _ _ => False) hr ⟨rfl⟩ e0 (bind s1 (.ref a)) (.cons rfl .nil)
    ⟨⟨[], H⟩, fun _ => none, [], [.rol (ns.map Dat.int)], fun d _ => d = .bl true, fun _ _ _ => False, gd, .cons (.rol sq (rints ns)) .nil, hA, fun W' v d H' ms' _ _ r e => by subst e; cases r; rfl, fun _ _ _ _ _ _ _ _ _ _ _ z => z⟩) fun r s' h => ?_
  match r, h with
  | .error e, h =>
    obtain ⟨_, _, _, _, _, _, _, _, _, _, _, _, z⟩ := h
    exact z.elim
  | .ok .next, h => exact h.elim
  | .ok .brk, h => exact h.elim
  | .ok .cont, h => exact h.elim
  | .ok (.ret u), h =>
    obtain ⟨v, H', os, bare, un, ok', r', rfl⟩ := h
    obtain rfl : u = Value.bool true := r'
    refine ⟨rfl, OldK.of_keep fun b o e => ?_, os, bare⟩
    cases q : H b with
    | none => exact un.keep b o e q (fun z => (List.not_mem_nil (a := b) z).elim) (by simp)
    | some u =>
      obtain ⟨rfl, _, rfl⟩ := at_ q
      obtain ⟨e1, _⟩ := ok b _ q
      obtain ⟨e2, _⟩ := ok' b _ (un.frzs b _ _ q)
      rw [e] at e1
      cases e1
      exact e2
end
theorem walkG {l : PySem.W.OpenLaw} {n k : Nat} {q : Program} {loose : List Str} {XP : (Str → Option Value) → Heap → Prop} {YP : World → Heap → Prop} {d : DefRec} {K : Params → PySem.W.Frag} {A : PySem.W.Frag → Pm} {x : Str}
    (hn : l.most = some n) (hn2 : n ≤ sizeLine) (hdf : d.params.defaults = []) (hr : Room k callerA) (hY : ∀ (w : World) (h : Heap), YP w h → (K w.params).In h)
    (F : ∀ (w : World) (mg : Str → Option Value) (fa : Addr) (h : Heap), (K w.params).In h → h.Ns mainGlobals mg → mg d.name = some (.ref fa) →
      ∃ fd : FuncData, (∀ (s : Shared) (u : Value), BindsTo s fd ⟨[u], []⟩ [(x, u)]) ∧ ∀ base : Heap, (K w.params).In base → base.Ns mainGlobals mg → FnG l.prog w (K w.params) mg base (L2N.CX l.prog w) k fa fd [x] (spD (K w.params) (A (K w.params))))
    (hA : ∀ (K : PySem.W.Frag) (ns : List Int), ns.length ≤ n → A K [.rol (ns.map Dat.int)] [] (fun d _ => d = .bl true) (fun _ _ _ => False)) :
    PySem.W.WalkO q loose XP YP l.row.toRowW d [] (fun f vs => PySem.call f vs) :=
  Att.attach_call hn hdf fun w _ s1 mg _ fa _ _ _ _ _ _ ns G Y _ _ _ hmg hobj hints hlen hg => by
    obtain ⟨fd, hb, hF⟩ := F w mg fa _ (hY w _ Y) G.T.g hmg
    exact callG (hY w _ Y) G.T.g G.T.b G.T.builtins G.T.nolimit hg hobj hints (Nat.le_trans hlen hn2) hr hF hb (hA _ ns hlen)
end DL
namespace PySem.DLK
open PySem PySem.Spec PyProof.Rows PySem.HandSPX
section
variable {M : Model} {A : Around} {E : Value → Shared → Prop} {h : Heap} {g : Array GenState} {d : Drawn} {t : Nat} {os : OsState} {kw : List (Str × Value)}
variable {nm q : Str} {C N : Addr} {bs bm bmB : List Value} {hdct : Bool} {sn : List Str} {sub : List Value} {ab : Bool} {col : Option Bool} {dd : Option Addr} {k0 k1 k2 k3 k5 : Option Value} {B newId initId : String}
theorem kw_new (F : ExcBaseFacts B newId initId bmB) (hT : ∀ X : String, bm.contains (.type X) = bmB.contains (.type X)) {rest : List Value} {Q : Unit → Shared → Prop}
    (hC : h.get? C = some (excClassObj nm q C N bs bm hdct sn sub ab col dd k0 k1 k2 k3 k5 newId)) (z : Q () ⟨h, g, d, t, os⟩) : wpAny M A (checkBuiltinCall newId ⟨.ref C :: rest, kw⟩) Q E ⟨h, g, d, t, os⟩ := by
  have has : (Value.ref C :: bm).contains (.type B) = true := by rw [List.contains_cons, hT, F.hasB, Bool.or_true]
  have star := F.noStar
  simp only [checkBuiltinCall, F.newKind, F.newSplit, F.newRow]
  repeat first
    | refine wpAny_loadPart_at hC ?_
    | (refine wpAny_isSubtype_exc hC ?_; rw [has])
    | refine wpAny_staticBase_exc hC ?_
    | refine wpAny_madeBy_exc hC ?_
    | simp only [bne_self_eq_false, Bool.false_eq_true, if_false]
    | wp_step
  exact z
end
section
variable {prog : Program} {w : World} {A : Around} {E : Value → Shared → Prop} {R : Result → Shared → Prop} {h : Heap} {g : Array GenState} {d : Drawn} {t : Nat} {os : OsState} {kw : List (Str × Value)}
variable {nm q : Str} {C N : Addr} {bs bm bmB : List Value} {hdct : Bool} {sn : List Str} {sub : List Value} {ab : Bool} {col : Option Bool} {dd : Option Addr} {k0 k1 k2 k3 k5 : Option Value} {B newId initId : String}
theorem kw_made (F : ExcBaseFacts B newId initId bmB) (hT : ∀ X : String, bm.contains (.type X) = bmB.contains (.type X)) {rest : List Value}
    (hC : h.get? C = some (excClassObj nm q C N bs bm hdct sn sub ab col dd k0 k1 k2 k3 k5 newId)) (few : rest.length ≤ sizeLine)
    (z : R (.ok (.ret (.ref (h.objs.size + 1)))) ⟨(h.push (W.kdv_tup rest)).push (excO C h.objs.size), g, d, t, os⟩) :
    codeAny (model prog w) A (.builtin newId ⟨.ref C :: rest, kw⟩) R ⟨h, g, d, t, os⟩ := by
  have stop := F.ends
  have has : (Value.ref C :: bm).contains (.type B) = true := by rw [List.contains_cons, hT, F.hasB, Bool.or_true]
  have noA : (Value.ref C :: bm).contains (.type "AttributeError") = false := by rw [List.contains_cons, hT, F.noAttr]; rfl
  have noN : (Value.ref C :: bm).contains (.type "NameError") = false := by rw [List.contains_cons, hT, F.noName]; rfl
  refine codeAny_builtinAt F.entry ?_
  unfold Builtin.«BaseException.__new__»
  refine wpAt_bind (?_ : PySem.wpAt _ _ _ (stack >>= _) _ _ _)
  refine wpAt_bind (wpAt_stack fun p below => wpAt_of_wpAny ?_)
  wp_walk
  refine wpAt_of_wpAny ?_
  rw [F.owner]
  repeat first
    | with_reducible refine wpAny_madeHere_exc F.canon hC ?_
    | with_reducible refine wpAny_loadPart_at hC ?_
    | (with_reducible refine wpAny_isSubtype_exc hC ?_; first | rw [has] | rw [noA] | rw [noN])
    | wp_step
  show R _ _
  rw [Heap.size_push]
  exact z
theorem kw_type (F : ExcBaseFacts B newId initId bmB) (hT : ∀ X : String, bm.contains (.type X) = bmB.contains (.type X)) {rest : List Value} {fI : Addr} {Q : Fin → Shared → Prop}
    (hC : h.get? C = some (excClassObj nm q C N bs bm hdct sn sub ab col dd k0 k1 k2 k3 k5 newId)) (few : rest.length ≤ sizeLine)
    (hi : W.Looks (model prog w) h (typeLookup (.ref C) "__init__") (some (.ref fI))) (hb : ∀ self, W.Looks (model prog w) h (bindSpecial (.ref fI) self) (.ref fI, [self]))
    (z : codeAny (model prog w) A (.call (.ref fI) ⟨.ref (h.objs.size + 1) :: rest, kw⟩)
      (fun r s' => match r with | .ok (.ret v) => v = .none ∧ Q (.done (.ret (.ref (h.objs.size + 1)))) s' | .ok _ => False | .error e => E e s')
      ⟨(h.push (W.kdv_tup rest)).push (excO C h.objs.size), g, d, t, os⟩) :
    wpAny (model prog w) A (Builtin.«type.__call__» ⟨.ref C :: rest, kw⟩) Q E ⟨h, g, d, t, os⟩ := by
  repeat first
    | with_reducible refine wpAny_loadPart_at hC ?_
    | with_reducible refine wpAny_madeBy_exc hC ?_
    | wp_step
  refine codeAny_call_builtin_code (Code.quiet_builtin _ F.quiet) (kw_new F hT hC (kw_made F hT hC few (?_ : wpAny _ _ _ _ _ _)))
  have kp : ∀ b o, h.get? b = some o → ((h.push (W.kdv_tup rest)).push (excO C h.objs.size)).get? b = some o := fun b o e => Heap.get?_push_of_some _ (Heap.get?_push_of_some _ e)
  have c1 := kp _ _ hC
  have there : ((h.push (W.kdv_tup rest)).push (excO C h.objs.size)).get? (h.objs.size + 1) = some (excO C h.objs.size) := by heap_get
  have self : (Value.ref C :: bm).contains (.ref C) = true := by simp
  have i1 := hi.keeps kp
  have b1 := (hb (.ref (h.objs.size + 1))).keeps kp
  unfold isInstance
  repeat first
    | with_reducible refine wpAny_loadPart_at there ?_
    | (with_reducible refine wpAny_isSubtype_exc c1 ?_; rw [self])
    | wp_step
  refine (i1.at ?_ : wpAny _ _ (typeLookup (.ref C) _) _ _ _)
  refine wpAny_holding (wpAny_bind (b1.at (wpAny_bind (wpAny_call (codeAny_mono z fun r s' y => ?_)))))
  rcases r with e | (v | _ | _ | _) <;> first | exact y | exact y.elim | skip
  obtain ⟨rfl, y⟩ := y
  first
    | exact wpAny_pure (wpAny_pure y)
    | (wp_walk; exact y)
theorem kw_call (F : ExcBaseFacts B newId initId bmB) (hT : ∀ X : String, bm.contains (.type X) = bmB.contains (.type X)) {rest : List Value} {fI : Addr}
    (hC : h.get? C = some (excClassObj nm q C N bs bm hdct sn sub ab col dd k0 k1 k2 k3 k5 newId)) (few : rest.length ≤ sizeLine)
    (hi : W.Looks (model prog w) h (typeLookup (.ref C) "__init__") (some (.ref fI))) (hb : ∀ self, W.Looks (model prog w) h (bindSpecial (.ref fI) self) (.ref fI, [self]))
    (z : codeAny (model prog w) (A.under (.builtin "type.__call__" ⟨.ref C :: rest, kw⟩)) (.call (.ref fI) ⟨.ref (h.objs.size + 1) :: rest, kw⟩) (W.InitBack (h.objs.size + 1) R) ⟨(h.push (W.kdv_tup rest)).push (excO C h.objs.size), g, d, t, os⟩) :
    codeAny (model prog w) A (.call (.ref C) ⟨rest, kw⟩) R ⟨h, g, d, t, os⟩ := by
  have l1 := tc_lookup
  have l2 := tc_bind (.ref C)
  have l3 := tc_sub
  have ty : (⟨h, g, d, t, os⟩ : Shared).TypeIs (.ref C) "type" := ⟨_, hC, rfl⟩
  have chk : ∀ {A : Around} {E : Value → Shared → Prop} {Q : Unit → Shared → Prop}, Q () ⟨h, g, d, t, os⟩ → wpAny (model prog w) A (checkBuiltinCall "type.__call__" ⟨.ref C :: rest, kw⟩) Q E ⟨h, g, d, t, os⟩ := fun {A E Q} y => by
    simp only [checkBuiltinCall, tc_kind, tc_split]
    repeat any_goals first
      | assumption
      | with_reducible refine wpAny_loadPart_at hC ?_
      | with_reducible refine wpAny_onRaise ?_
      | with_reducible refine wpAny_map ?_
      | wp_step
  refine codeAny_of_tree (?_ : wpAny _ _ (callAny (.ref C) _) _ _ _)
  repeat any_goals first
    | assumption
    | with_reducible refine wpAny_loadPart_at hC ?_
    | wp_step
  refine ⟨rfl, codeAny_call_builtin_at (Code.quiet_builtin _ (by decide +kernel)) entry_typeCall (chk (kw_type F hT hC few hi hb (codeAny_mono z fun r s' y => ?_)))⟩
  rcases r with e | (v | _ | _ | _) <;> exact y
end
end PySem.DLK
namespace DL
open PySem PySem.Spec PyProof.Rows L2
/-! ### C(e, .., k = v, ..): an error made with keywords -/
/-- how its __init__ binds: us by position, ws by name (names ks); g puts them into the parameters' order -/
structure KwI (K : PySem.W.Frag) (fd : FuncData) (ps ks : List Str) (g : {α : Type} → List α → List α → List α) : Prop where
  to : ∀ (s : Shared) (a : Value) (us ws : List Value), K.In s.heap → ws.length = ks.length → (g us ws).length + 1 = ps.length → BindsTo s fd ⟨a :: us, ks.zip ws⟩ (ps.zip (a :: g us ws))
  rel : ∀ {vs zs : List V} {us ws : List Value}, Vals vs us → Vals zs ws → Vals (g vs zs) (g us ws)
/-- in the parameters' order -/
abbrev gApp {α : Type} (us ws : List α) : List α := us ++ ws
/-- the keywords in the other order -/
abbrev gRev {α : Type} (us ws : List α) : List α := us ++ ws.reverse
theorem rel_rev {zs : List V} {ws : List Value} (h : Vals zs ws) : Vals zs.reverse ws.reverse := by
  induction h with
  | nil => exact .nil
  | cons a b ih => rw [List.reverse_cons, List.reverse_cons]; exact ih.append (.cons a .nil)
section
variable {Xc : Cx} {cx : CXT} {x : Str} {e : Expr} {es : List Expr} {ta tk : TA} {p pos : Pos} {C fI : Addr} {k : Nat} {fd : FuncData} {ps ks : List Str} {sp : Sp} {kws : List Keyword} {g : {α : Type} → List α → List α → List α}
theorem mk_runK {pins : List (Addr × Obj)} {σ : L2.St} {H1 : Hp} {s1 : Shared} {vs zs : List V} {us ws : List Value} {Qr : V → Hp → Prop} {Qf : Value → Shared → Prop} (T : OexC Xc.K C) (iC : PySem.W.findIn Xc.K (.ref C) "__init__" = some (some (.ref fI))) (tI : PySem.W.typeIn Xc.K (.ref fI) = some (.type "function"))
    (F1 : FnOk Xc.prog Xc.w Xc.K Xc.mg Xc.base cx k fI fd ps sp) (hr : Room (k + 1) Xc.A) (hb : KwI Xc.K fd ps ks g) (hx : Passes cx Xc E0) (I1 : Inv Xc pins σ H1 s1) (r1 : Vals vs us) (rz : Vals zs ws) (hzl : zs.length = ks.length) (hz : vs.length ≤ 1000)
    (hq : sp (.ref (s1.heap.objs.size + 1) :: g vs zs) (upd H1 (s1.heap.objs.size + 1) (exo (s1.heap.objs.size + 1) C none)) (fun v H2 => v = .non ∧ Qr (.ref (s1.heap.objs.size + 1)) H2) E0)
    (fin : ∀ (H2 : Hp) (s2 : Shared), CE Xc.stack Xc.prog Xc.w (upd H1 (s1.heap.objs.size + 1) (exo (s1.heap.objs.size + 1) C none)) { s1 with heap := (s1.heap.push (PySem.W.kdv_tup us)).push (PySem.HandSPX.excO C s1.heap.objs.size) } (fun v H2' => v = .non ∧ H2' = H2) .none s2 →
      Inv Xc pins σ H2 s2 → Qr (.ref (s1.heap.objs.size + 1)) H2 → Qf (.ref (s1.heap.objs.size + 1)) s2) :
    wpAny (model Xc.prog Xc.w) Xc.A (call (.ref C) us (ks.zip ws)) Qf Xc.xe s1 := by
  obtain ⟨nm, q, N, bs, bm, sn, sub, ab, col, dd, k0, k1, k2, k3, k5, hC, hbm⟩ := T.cls
  obtain ⟨hp, g', dr, tk', os⟩ := s1
  have hget : ((hp.push (PySem.W.kdv_tup us)).push (PySem.HandSPX.excO C hp.objs.size)).get? (hp.objs.size + 1) = some (PySem.HandSPX.excO C hp.objs.size) := by heap_get
  have I2 : Inv Xc pins σ (upd H1 (hp.objs.size + 1) (exo (hp.objs.size + 1) C none)) ⟨(hp.push (PySem.W.kdv_tup us)).push (PySem.HandSPX.excO C hp.objs.size), g', dr, tk', os⟩ :=
    Inv.laid (t' := tk') (a := hp.objs.size + 1) (o := exo (hp.objs.size + 1) C none) (h' := (hp.push (PySem.W.kdv_tup us)).push (PySem.HandSPX.excO C hp.objs.size)) I1 (fun b o e => Heap.get?_push_of_some _ (Heap.get?_push_of_some _ e)) (Nat.le_succ _) (exo_ok hget)
  have rr : Vals (V.ref (hp.objs.size + 1) :: g vs zs) (Value.ref (hp.objs.size + 1) :: g us ws) := .cons rfl (hb.rel r1 rz)
  have n : (g us ws).length + 1 = ps.length := by have := rr.length; rw [F1.len _ _ _ _ hq] at this; simpa using this.symm
  have few : us.length ≤ sizeLine := by
    rw [← Paired.length r1, sizeLine_eq]; omega
  have bb := hb.to _ (Value.ref (hp.objs.size + 1)) us ws I2.kIn ((Paired.length rz).symm.trans hzl) n
  refine wpAny_call (PySem.DLK.kw_call F.excBase_ValueError (fun Y => PySem.HandSPX.refsVE_contains Y bm hbm) (I1.kIn _ _ hC) few (PySem.W.looks_findIn I1.kIn iC) (fun self => PySem.W.bind_fn I1.kIn self tI)
    (codeAny_mono (F1.run _ Xc.stack _ _ ⟨Value.ref (hp.objs.size + 1) :: us, ks.zip ws⟩ _ _ _ E0 (hr.make C us (ks.zip ws)) (I2.env0.make C us (ks.zip ws)) bb rr hq) fun z s' hz' => ?_))
  match z, hz' with
  | .error er, hz' => exact hx pins σ _ _ er s' I2 hz'
  | .ok (.ret u), hz' =>
    obtain ⟨v, H2, a1, a2, a3, a4, rv, hv, hQ⟩ := hz'
    subst hv
    obtain rfl : u = Value.none := rv
    obtain ⟨v', H3, I3, _, q3⟩ := I2.after (Q := fun v H' => H' = H2) (show CE _ _ _ _ _ _ Value.none s' from ⟨.non, H2, a1, a2, a3, a4, rfl, rfl⟩)
    cases q3
    exact ⟨rfl, fin H2 s' ⟨.non, H2, a1, a2, a3, a4, rfl, rfl, rfl⟩ I3 hQ⟩
  | .ok .next, hz' => exact hz'.elim
  | .ok .brk, hz' => exact hz'.elim
  | .ok .cont, hz' => exact hz'.elim
def tNewEK (C : Addr) (sp : Sp) (g : {α : Type} → List α → List α → List α) (n : Nat) (ta tk : TA) : TE := fun σ H Q => ta σ H fun vs H1 => tk σ H1 fun zs H2 => zs.length = n ∧ vs.length ≤ 1000 ∧ ∀ a, H2 a = none → sp (.ref a :: g vs zs) (upd H2 a (exo a C none)) (fun v H3 => v = .non ∧ Q (.ref a) H3) E0
theorem pe_newEK0 (T : OexC Xc.K C) (iC : PySem.W.findIn Xc.K (.ref C) "__init__" = some (some (.ref fI))) (tI : PySem.W.typeIn Xc.K (.ref fI) = some (.type "function"))
    (F1 : FnOk Xc.prog Xc.w Xc.K Xc.mg Xc.base cx k fI fd ps sp) (hr : Room (k + 1) Xc.A) (hb : KwI Xc.K fd ps ks g) (hx : Passes cx Xc E0) (hg : Gl Xc x) (hm : Xc.mg x = some (.ref C)) (hk : PK Xc kws tk)
    (hall : (backToKw pos (keywordEach kws Xc.env)).all (·.1.isSome) = true := by rfl) (hks : (backToKw pos (keywordEach kws Xc.env)).filterMap (·.1) = ks := by rfl)
    (hdb : (x == ("__debug__" : Str)) = false := by decide) (hpl : ((backTo pos (starEach [] Xc.env)).any (·.1) || (backToKw pos (keywordEach kws Xc.env)).any (·.1.isNone)) = false := by rfl) :
    PE Xc (.Call (.Name x p) [] kws pos) (tNewEK C sp g ks.length tNil tk) := ⟨fun pins s σ H Q I h => by
  refine wpAny_Call_Name_kw (ld_glob I hg hm ?_ hdb)
  refine PySem.W.callWith_KW0 (h₀ := Xc.base) I.ok.mod.kin T.kC hall (thn (hk.run pos pins s σ H _ I h) ?_) hpl
  rintro ws s2 ⟨zs, H2, I2, rz, hzl, hz, q2⟩
  refine ⟨I2.kIn, ?_⟩
  rw [hks]
  exact mk_runK (us := []) (vs := []) T iC tI F1 hr hb hx I2 .nil rz hzl hz (Qr := Q) (q2 _ (I2.hok.fresh (Nat.le_succ _))) fun H2 s2 _ J hQ => ⟨.ref _, H2, J, rfl, hQ⟩⟩
theorem pe_newEK (T : OexC Xc.K C) (iC : PySem.W.findIn Xc.K (.ref C) "__init__" = some (some (.ref fI))) (tI : PySem.W.typeIn Xc.K (.ref fI) = some (.type "function"))
    (F1 : FnOk Xc.prog Xc.w Xc.K Xc.mg Xc.base cx k fI fd ps sp) (hr : Room (k + 1) Xc.A) (hb : KwI Xc.K fd ps ks g) (hx : Passes cx Xc E0) (hg : Gl Xc x) (hm : Xc.mg x = some (.ref C)) (ha : PA Xc (e :: es) ta) (hk : PK Xc kws tk)
    (hall : (backToKw pos (keywordEach kws Xc.env)).all (·.1.isSome) = true := by rfl) (hks : (backToKw pos (keywordEach kws Xc.env)).filterMap (·.1) = ks := by rfl)
    (hdb : (x == ("__debug__" : Str)) = false := by decide) (he : starEach (e :: es) Xc.env = (false, eval e Xc.env) :: starEach es Xc.env := by rfl)
    (hpl : ((backTo pos (starEach (e :: es) Xc.env)).any (·.1) || (backToKw pos (keywordEach kws Xc.env)).any (·.1.isNone)) = false := by rfl) :
    PE Xc (.Call (.Name x p) (e :: es) kws pos) (tNewEK C sp g ks.length ta tk) := ⟨fun pins s σ H Q I h => by
  refine wpAny_Call_Name_kw (ld_glob I hg hm ?_ hdb)
  refine PySem.W.callWith_KW (h₀ := Xc.base) I.ok.mod.kin T.kC hall (thn (ha.run pos pins s σ H _ I h) ?_) hpl he
  rintro us s1 ⟨vs, H1, I1, r, q1⟩
  refine thn (hk.run pos pins s1 σ H1 _ I1 q1) ?_
  rintro ws s2 ⟨zs, H2, I2, rz, hzl, hz, q2⟩
  refine ⟨I2.kIn, ?_⟩
  rw [hks]
  exact mk_runK T iC tI F1 hr hb hx I2 r rz hzl hz (Qr := Q) (q2 _ (I2.hok.fresh (Nat.le_succ _))) fun H2 s2 _ J hQ => ⟨.ref _, H2, J, rfl, hQ⟩⟩
end
end DL
namespace DL
open PySem PySem.Spec PyProof.Rows L2
/-! ### the error that is handled, handed on to a def -/
section
variable {Xc : Cx} {K : PySem.W.Frag} {a D dd : Addr} {oe : Obj}
theorem pinned_at {pins : List (Addr × Obj)} {σ : L2.St} {H : Hp} {s : Shared} {fs : List (Str × V)} (I : Inv Xc pins σ H s) (hin : (a, oe) ∈ Xc.pn) (hz : Zc (.ref D) (some dd) oe) (hf : ∃ vs, oe.data = .fields vs) (e : H dd = some (.xd fs)) :
    ∃ (od : Obj) (mA : Str → Option Value), PySem.W.InstAt s.heap a oe D (some od) ∧ (∀ f, RelO (fs.lookup f) (mA f)) ∧ ∀ f, PySem.W.lookIn f od = some (mA f) := by
  obtain ⟨g, _⟩ := I.pin (a, oe) (List.mem_append_left _ hin)
  obtain ⟨vs, hd⟩ := hf
  obtain ⟨mA, hn, hr⟩ := (show ObjOk Xc.prog Xc.w H s.heap dd (.xd fs) from I.hok dd _ e)
  obtain ⟨od, ho, hl⟩ := lookIn_ns hn
  exact ⟨od, mA, ⟨g, hz.1, by unfold PySem.W.notCls; rw [hd] <;> rfl, by rw [hz.2]; exact ho⟩, hr, hl⟩
/-- isinstance of it -/
def rIsiH (K : PySem.W.Frag) (a D dd : Addr) : List V → Hp → VK → Prop := fun xs H Q => ∃ (fs : List (Str × V)) (c : V) (u : Value) (b : Bool), xs = [.ref a, c] ∧ ClsV c u ∧ ExT K D ∧ H dd = some (.xd fs) ∧ PySem.W.kitOne K (.ref D) u = some b ∧ Q (.bl b) H
def rIsiTH (K : PySem.W.Frag) (a D dd : Addr) : List V → Hp → VK → Prop := fun xs H Q => ∃ (fs : List (Str × V)) (tp : Addr) (cs : List V) (us : List Value) (b : Bool), xs = [.ref a, .ref tp] ∧ H tp = some (.tup cs) ∧ Paired ClsV cs us ∧ ExT K D ∧ H dd = some (.xd fs) ∧ PySem.W.kitAny K (.ref D) us = some b ∧ Q (.bl b) H
theorem call_isiH (hin : (a, oe) ∈ Xc.pn) (hz : Zc (.ref D) (some dd) oe) (hf : ∃ vs, oe.data = .fields vs) : CallR Xc (.builtin "isinstance") (rIsiH Xc.K a D dd) := by
  rintro pins s σ H xs us Q I r ⟨fs, c, u, b, rfl, k, T, e2, e, q⟩
  cases r with
  | cons ra rr => cases rr with
    | cons rc rr =>
      cases rr
      obtain rfl := k.eq rc
      cases ra
      obtain ⟨od, mA, J, _⟩ := pinned_at I hin hz hf e2
      obtain ⟨cd, hc, _⟩ := PySem.W.any_some T.hd
      exact PySem.W.kia_one (PySem.W.kitx_exc (by rw [hc]; rfl) T.ga T.gg T.o.exC T.cl T.sp T.tk T.mo) I.kIn J e (fun z => nomatch z) fun t => ⟨.bl b, H, I.tok t, rfl, q⟩
theorem call_isiTH (hin : (a, oe) ∈ Xc.pn) (hz : Zc (.ref D) (some dd) oe) (hf : ∃ vs, oe.data = .fields vs) : CallR Xc (.builtin "isinstance") (rIsiTH Xc.K a D dd) := by
  rintro pins s σ H xs us Q I r ⟨fs, tp, cs, ws, b, rfl, hT, k, T, e2, e, q⟩
  cases r with
  | cons ra rr => cases rr with
    | cons rc rr =>
      cases rr
      cases ra; cases rc
      obtain ⟨od, mA, J, _⟩ := pinned_at I hin hz hf e2
      obtain ⟨cd, hc, _⟩ := PySem.W.any_some T.hd
      obtain ⟨_, its, rv, ob, h1, h2, n, h3⟩ := (show ObjOk Xc.prog Xc.w H s.heap tp (.tup cs) from I.hok tp _ hT)
      obtain rfl := ClsV.all k rv
      obtain ⟨oc, od', dt, sl⟩ := ob
      cases h2; cases h3
      exact PySem.W.kia_tup (PySem.W.kitx_exc (by rw [hc]; rfl) T.ga T.gg T.o.exC T.cl T.sp T.tk T.mo) I.kIn J h1 e (fun z => nomatch z) fun t => ⟨.bl b, H, I.tok t, rfl, q⟩
/-- of any value, the handled error among them -/
def rIsiZ (a D dd : Addr) (K : PySem.W.Frag) : List V → Hp → VK → Prop := fun xs H Q => rIsiX K xs H Q ∨ (rIsiH K a D dd xs H Q ∨ rIsiTH K a D dd xs H Q)
theorem call_isiZ (hin : (a, oe) ∈ Xc.pn) (hz : Zc (.ref D) (some dd) oe) (hf : ∃ vs, oe.data = .fields vs) : CallR Xc (.builtin "isinstance") (rIsiZ a D dd Xc.K) := orC call_isiX (orC (call_isiH hin hz hf) (call_isiTH hin hz hf))
/-- a field of it, or of an error held as a value -/
def tFldZ (K : PySem.W.Frag) (a D dd : Addr) (f : Str) (te : TE) : TE := fun σ H Q => te σ H fun x H1 =>
  (∃ (fs : List (Str × V)) (v : V), x = .ref a ∧ ExT K D ∧ PySem.W.findIn K (.ref D) f = some none ∧ H1 dd = some (.xd fs) ∧ fs.lookup f = some v ∧ Q v H1) ∨
  ∃ (a C dx : Addr) (fs : List (Str × V)) (v : V), x = .ref a ∧ ExT K C ∧ PySem.W.findIn K (.ref C) f = some none ∧ H1 a = some (exo a C (some dx)) ∧ H1 dx = some (exd dx fs) ∧ fs.lookup f = some v ∧ Q v H1
theorem pe_fldZ {e : Expr} {te : TE} {pos : Pos} {f : Str} (hK : Xc.K = K) (hin : (a, oe) ∈ Xc.pn) (hz : Zc (.ref D) (some dd) oe) (hf : ∃ vs, oe.data = .fields vs) (he : PE Xc e te) (hb : attributeBase e f Xc.env (eval e Xc.env) = eval e Xc.env := by rfl) :
    PE Xc (.Attribute e f pos) (tFldZ K a D dd f te) := by
  subst hK
  refine ⟨fun pins s σ H Q I h => attr_of hb (thn (he.run pins s σ H _ I h) fun u s1 hh => ?_)⟩
  obtain ⟨x, H1, I1, rx, hh⟩ := hh
  rcases hh with ⟨fs, v, rfl, T, hno, e2, l, q⟩ | ⟨a', C, dx, fs, v, rfl, T, hno, e1, e2, l, q⟩
  · obtain rfl : u = Value.ref a := rx
    obtain ⟨od, mA, J, hr, hl⟩ := pinned_at I1 hin hz hf e2
    obtain ⟨w, hw, rw'⟩ := RelO.some_of (v := v) (o := mA f) (by rw [← l]; exact hr f)
    exact HandSPX.exc_get I1.kIn J T.ga T.gg T.o.exC (PySem.W.findObj_own T.hd hno rfl (by rw [hl, hw])) (handed_of rw') ⟨v, H1, I1.tok _, rw', q⟩
  · obtain rfl : u = Value.ref a' := rx
    obtain ⟨ox, od, mA, J, hns, hr, hod⟩ := exc_at I1 e1 e2
    obtain ⟨od2, ho2, hl⟩ := lookIn_ns hns
    rw [hod] at ho2; cases ho2
    obtain ⟨w, hw, rw'⟩ := RelO.some_of (v := v) (o := mA f) (by rw [← l]; exact hr f)
    exact HandSPX.exc_get I1.kIn J T.ga T.gg T.o.exC (PySem.W.findObj_own T.hd hno rfl (by rw [hl, hw])) (handed_of rw') ⟨v, H1, I1.tok _, rw', q⟩
end
/-! ### defs that take the handled error -/
structure FnGE (P : Program) (w : World) (K : PySem.W.Frag) (mg : Str → Option Value) (base : Heap) (cx : CXT) (k : Nat) (f : Addr) (fd : FuncData) (ps : List Str) (sp : Addr → Addr → Addr → Sp) : Prop where
  len : ∀ a D dd vs H Q E, sp a D dd vs H Q E → vs.length = ps.length
  go : ∀ (A : Around) (outer : List Env) (s : Shared) (H : Hp) (args : Args) (us : List Value) (vs : List V) (Q : VK) (E : XK) (p : Addr × Obj) (D dd : Addr),
    L2H.RoomH k A → Quiet A → L2H.Hot1 A p → Zc (.ref D) (some dd) p.2 → L2H.PinOk outer H s p → Env0 P w K mg base A outer s H → BindsTo s fd args (ps.zip us) → Vals vs us → sp p.1 D dd vs H Q E →
      codeAny (model P w) A (.call (.ref f) args) (CR cx outer P w H s Q E) s
section
variable {P : Program} {w : World} {K : PySem.W.Frag} {mg : Str → Option Value} {base : Heap} {cx : CXT} {x qual : Str} {st : Stmt} {f : Addr} {fd : FuncData} {N ps : List Str} {k : Nat}
theorem fn_dlE {A : Addr → Addr → Addr → Pm} (F : Fun K x qual st f fd) (S : FnScope N ps (defScope st)) (hlen : ∀ a D dd ds ms P X, A a D dd ds ms P X → ds.length = ps.length)
    (hb : ∀ (cdv : Value) (Ar : Around) (outer : List Env) (s : Shared) (H : Hp) (E : XK) (p : Addr × Obj) (D dd : Addr), L2H.Hot1 Ar p → Zc (.ref D) (some dd) p.2 → L2H.RoomH k (Ar.deeper (envOfC qual (defScope st) s.heap.objs.size f cdv)) → Quiet (Ar.deeper (envOfC qual (defScope st) s.heap.objs.size f cdv)) →
      ∃ t, PSs (L2H.cxH (L2N.CX P w) P w K mg base N qual (defScope st) f cdv Ar outer s H E p) (defBody st) t ∧
        ∀ ds ms Pd X, A p.1 D dd ds ms Pd X → BelL ms.length ds → MsBel ms → DS K (fun c d _ H => E c d H) t (startE N ds) ms (bodyOut ms.length Pd X)) :
    FnGE P w K mg base (L2N.CX P w) (k + 1) f fd ps (fun a D dd => spD K (A a D dd)) := by
  obtain ⟨oc, od, kV, doc, pm, an, cdv, ct, osl, e, lk, hcd⟩ := F.ex
  subst e
  refine ⟨fun a D dd vs H Q E ⟨W, G, ms, ds, Pd, X, _, r, z, _⟩ => by rw [r.length]; exact hlen a D dd ds ms Pd X z, fun Ar outer s H args us vs Q E p D dd hr hq hot hzc hpin e0 hbd r ⟨W, G, ms, ds, Pd, X, g, rl, z, kP, kX⟩ => ?_⟩
  obtain ⟨t, ht, hd⟩ := hb cdv Ar outer s H E p D dd hot hzc (hr.deeper _) (hq.deeper _)
  have b := RepL.bel ds vs rl
  rw [g.ln] at b
  have hl : vs.length = ps.length := by rw [rl.length]; exact hlen _ _ _ ds ms Pd X z
  refine enter_def lk hcd S hr.depth e0 hbd fun s1 ic => ?_
  have I := L2H.inv_startH (CX := L2N.CX P w) (E := E) S hpin e0 hl r ic
  exact wpAny_mono (ht.run [] s1 _ H _ I (run_body g rl kP kX (hd ds ms Pd X z b g.bel))) (fun fl s' y => flow_end rfl rfl rfl rfl rfl rfl y) fun _ _ y => y
end
section
variable {X : Cx} {cx : CXT} {k : Nat} {f : Addr} {fd : FuncData} {ps : List Str} {sp : Addr → Addr → Addr → Sp} {E : L2.St → XK} {x : Str} {p pos : Pos} {e : Expr} {es : List Expr} {t : TA} {a D dd : Addr} {oe : Obj}
/-- f(e, ..) where the handled error is handed on -/
theorem pe_gE (F : FnGE X.prog X.w X.K X.mg X.base cx k f fd ps sp) (hr : L2H.RoomH k X.A) (hq : Quiet X.A) (hot : L2H.Hot1 X.A (a, oe)) (hin : (a, oe) ∈ X.pn) (hzc : Zc (.ref D) (some dd) oe) (hg : Gl X x) (hm : X.mg x = some (.ref f)) (hk : PySem.W.keepIn X.K (.ref f) = true) (hb : Binds X.K fd ps []) (hx : ∀ σ, PassesAt cx X σ (E σ))
    (ha : PA X (e :: es) t) (hdb : (x == ("__debug__" : Str)) = false := by decide) (he : starEach (e :: es) X.env = (false, eval e X.env) :: starEach es X.env := by rfl) (hpl : (backTo pos (starEach es X.env)).any (·.1) = false := by rfl) :
    PE X (.Call (.Name x p) (e :: es) [] pos) (tCallD (sp a D dd) [] E t) := ⟨fun pins s σ H Q I h =>
  wpAny_Call_Name_kw (ld_glob I hg hm (PySem.W.callWith_K (h₀ := X.base) I.ok.mod.kin hk (thn (ha.run pos pins s σ H _ I h) fun us s1 ⟨vs, H1, I1, r, q⟩ => ⟨I1.kIn, by
    have q : sp a D dd (vs ++ []) H1 Q (E σ) := q
    rw [List.append_nil] at q
    have n : us.length = ps.length := r.length.symm.trans (F.len _ _ _ _ _ _ _ q)
    obtain ⟨p1, p2, p3, p4, p5⟩ := I1.pin (a, oe) (List.mem_append_left _ hin)
    have pin : L2H.PinOk X.stack H1 s1 (a, oe) := ⟨p1, p2, fun z => (List.mem_cons.mp (I1.stkSub a z)).elim p3 p4, p5⟩
    have b := hb s1 us I1.kIn (by rw [List.append_nil]; exact n)
    rw [List.append_nil] at b
    refine wpAny_call (codeAny_mono (F.go X.A X.stack s1 H1 ⟨us, []⟩ us vs Q (E σ) (a, oe) D dd hr hq hot hzc pin I1.env0 b r q) fun z s' hz => ?_)
    match z, hz with
    | .error er, hz => exact hx σ pins H1 s1 er s' I1 hz
    | .ok (.ret u), hz => exact I1.after hz
    | .ok .next, hz => exact hz.elim
    | .ok .brk, hz => exact hz.elim
    | .ok .cont, hz => exact hz.elim⟩) he hpl) hdb)⟩
end
end DL
namespace DL
open PySem PySem.Spec PyProof.Rows L2
section
variable {K : PySem.W.Frag} {R : WX} {e : Ev} {ms : Ms} {X : XP} {ta te : TE} {tA tK : TA} {P : Dat → Ms → Prop} {O : Out} {C a d : Addr} {f g : Str}
/-! ### errors made, one field or two, by place or by name -/
theorem spIni1_of {W : Wd} {G H1 : Hp} {v : V} {d : Dat} {Q : VK} {a : Addr} (g1 : Good K W G H1 ms) (hT : OexC K C) (hno : PySem.W.findIn K (.ref C) f = some none) (ra : Rep K W v d) (na : H1 a = none)
    (k : ∀ (W2 : Wd) (H2 : Hp), Le W W2 → Good K W2 G H2 ms → Rep K W2 (.ref a) (.exc C [(f, d)]) → Q (.ref a) H2) : spIni1 K f [.ref a, v] (upd H1 a (exo a C none)) (fun u H2 => u = .non ∧ Q (.ref a) H2) E0 := by
  refine ⟨a, C, v, rfl, hT, hno, upd_same, fun dx ndx ne => ⟨rfl, ?_⟩⟩
  obtain ⟨g2, l2⟩ := laid2 (o1 := exo a C (some dx)) (o2 := exd dx [(f, v)]) g1 na (by rw [upd_ne ne] at ndx ⊢; exact ndx)
  have eq : upd (upd (upd H1 a (exo a C none)) dx (exd dx [(f, v)])) a (exo a C (some dx)) = upd (upd H1 dx (exd dx [(f, v)])) a (exo a C (some dx)) := by
    funext b
    by_cases h1 : b = a
    · rw [h1, upd_same, upd_same]
    · rw [upd_ne h1, upd_ne h1]
      by_cases h2 : b = dx
      · rw [h2, upd_same, upd_same]
      · rw [upd_ne h2, upd_ne h2, upd_ne h1]
  rw [eq]
  exact k _ _ l2 g2 (.exc (dx := dx) upd_same (by show upd (upd W.F dx _) a _ dx = _; rw [upd_ne ne, upd_same]) (.cons (Rep.mono l2 _ _ ra) .nil))
theorem spIni2_of {W : Wd} {G H1 : Hp} {v u : V} {d d2 : Dat} {Q : VK} {a : Addr} (g1 : Good K W G H1 ms) (hT : OexC K C) (hno : PySem.W.findIn K (.ref C) f = some none) (hng : PySem.W.findIn K (.ref C) g = some none) (ra : Rep K W v d) (rb : Rep K W u d2) (na : H1 a = none)
    (k : ∀ (W2 : Wd) (H2 : Hp), Le W W2 → Good K W2 G H2 ms → Rep K W2 (.ref a) (.exc C [(g, d2), (f, d)]) → Q (.ref a) H2) : spIni2 K f g [.ref a, v, u] (upd H1 a (exo a C none)) (fun z H2 => z = .non ∧ Q (.ref a) H2) E0 := by
  refine ⟨a, C, v, u, rfl, hT, hno, hng, upd_same, fun dx ndx ne => ⟨rfl, ?_⟩⟩
  obtain ⟨g2, l2⟩ := laid2 (o1 := exo a C (some dx)) (o2 := exd dx [(g, u), (f, v)]) g1 na (by rw [upd_ne ne] at ndx ⊢; exact ndx)
  have eq : upd (upd (upd (upd H1 a (exo a C none)) dx (exd dx [(f, v)])) a (exo a C (some dx))) dx (exd dx [(g, u), (f, v)]) = upd (upd H1 dx (exd dx [(g, u), (f, v)])) a (exo a C (some dx)) := by
    funext b
    by_cases h2 : b = dx
    · rw [h2, upd_same, upd_ne ne, upd_same]
    · rw [upd_ne h2]
      by_cases h1 : b = a
      · rw [h1, upd_same, upd_same]
      · rw [upd_ne h1, upd_ne h1, upd_ne h2, upd_ne h2, upd_ne h1]
  rw [eq]
  exact k _ _ l2 g2 (.exc (dx := dx) upd_same (by show upd (upd W.F dx _) a _ dx = _; rw [upd_ne ne, upd_same]) (.cons (Rep.mono l2 _ _ rb) (.cons (Rep.mono l2 _ _ ra) .nil)))
theorem de_newE2 (hT : OexC K C) (hno : PySem.W.findIn K (.ref C) f = some none) (hng : PySem.W.findIn K (.ref C) g = some none) (h : DA K R tA e ms (fun ds m => ∃ d d2, ds = [d, d2] ∧ P (.exc C [(g, d2), (f, d)]) m) X) : DE K R (tNewE C (spIni2 K f g) tA) e ms P X := fun W G σ H Q gd s k x =>
  h W G σ H _ gd s (fun W1 vs ds H1 m1 l1 g1 r1 ⟨d, d2, hd, p⟩ => by
    subst hd
    cases r1 with
    | cons ra rr => cases rr with
      | cons rb rr =>
        cases rr
        exact ⟨by show 2 ≤ 1000; decide, fun a na => spIni2_of g1 hT hno hng ra rb na fun W2 H2 l2 g2 r => k W2 _ _ H2 m1 (l1.trans l2) g2 r p⟩) x
theorem repL_rev {W : Wd} : ∀ {ds : List Dat} {vs : List V}, RepL K W vs ds → RepL K W vs.reverse ds.reverse
  | [], _, h => by cases h; exact .nil
  | d :: ds, _, h => by
    cases h with
    | cons a b => rw [List.reverse_cons, List.reverse_cons]; exact RepL.append (repL_rev b) a
/-- what an order of arguments is of -/
def Ord (K : PySem.W.Frag) (g : {α : Type} → List α → List α → List α) : Prop := ∀ (W : Wd) (vs zs : List V) (ds es : List Dat), RepL K W vs ds → RepL K W zs es → RepL K W (g vs zs) (g ds es)
theorem ord_app : Ord K gApp := fun _ _ _ _ _ a b => repL_app a b
theorem ord_rev : Ord K gRev := fun _ _ _ _ _ a b => repL_app a (repL_rev b)
theorem de_newEK1 {n : Nat} {o : {α : Type} → List α → List α → List α} (ho : Ord K o) (hT : OexC K C) (hno : PySem.W.findIn K (.ref C) f = some none)
    (h : DA K R tA e ms (fun ds m => DA K R tK e m (fun es m2 => (es.length = n ∧ ds.length ≤ 1000) ∧ ∃ d, o ds es = [d] ∧ P (.exc C [(f, d)]) m2) X) X) : DE K R (tNewEK C (spIni1 K f) o n tA tK) e ms P X := fun W G σ H Q gd s k x => by
  refine h W G σ H _ gd s (fun W1 vs ds H1 m1 l1 g1 r1 h1 => ?_) x
  refine h1 W1 G σ H1 _ g1 (s.mono l1) (fun W2 zs es H2 m2 l2 g2 r2 ⟨⟨hn, hl⟩, d, hd, p⟩ => ?_) (x.le l1)
  have rr : RepL K W2 (o vs zs) (o ds es) := ho W2 vs zs ds es (RepL.mono l2 _ _ r1) r2
  rw [hd] at rr
  refine ⟨by rw [r2.length]; exact hn, by rw [r1.length]; exact hl, fun a na => ?_⟩
  have key : ∀ ws : List V, RepL K W2 ws [d] → spIni1 K f (.ref a :: ws) (upd H2 a (exo a C none)) (fun v H3 => v = .non ∧ Q (.ref a) H3) E0 := fun ws rr => by
    cases rr with
    | cons ra rn =>
      cases rn
      exact spIni1_of g2 hT hno ra na fun W3 H3 l3 g3 r => k W3 _ _ H3 m2 (l1.trans (l2.trans l3)) g3 r p
  exact key _ rr
theorem de_newEK2 {n : Nat} {o : {α : Type} → List α → List α → List α} (ho : Ord K o) (hT : OexC K C) (hno : PySem.W.findIn K (.ref C) f = some none) (hng : PySem.W.findIn K (.ref C) g = some none)
    (h : DA K R tA e ms (fun ds m => DA K R tK e m (fun es m2 => (es.length = n ∧ ds.length ≤ 1000) ∧ ∃ d d2, o ds es = [d, d2] ∧ P (.exc C [(g, d2), (f, d)]) m2) X) X) : DE K R (tNewEK C (spIni2 K f g) o n tA tK) e ms P X := fun W G σ H Q gd s k x => by
  refine h W G σ H _ gd s (fun W1 vs ds H1 m1 l1 g1 r1 h1 => ?_) x
  refine h1 W1 G σ H1 _ g1 (s.mono l1) (fun W2 zs es H2 m2 l2 g2 r2 ⟨⟨hn, hl⟩, d, d2, hd, p⟩ => ?_) (x.le l1)
  have rr : RepL K W2 (o vs zs) (o ds es) := ho W2 vs zs ds es (RepL.mono l2 _ _ r1) r2
  rw [hd] at rr
  refine ⟨by rw [r2.length]; exact hn, by rw [r1.length]; exact hl, fun a na => ?_⟩
  have key : ∀ ws : List V, RepL K W2 ws [d, d2] → spIni2 K f g (.ref a :: ws) (upd H2 a (exo a C none)) (fun v H3 => v = .non ∧ Q (.ref a) H3) E0 := fun ws rr => by
    cases rr with
    | cons ra rn => cases rn with
      | cons rb rn =>
        cases rn
        exact spIni2_of g2 hT hno hng ra rb na fun W3 H3 l3 g3 r => k W3 _ _ H3 m2 (l1.trans (l2.trans l3)) g3 r p
  exact key _ rr
/-! ### isinstance, fields, where the handled error may be the value -/
theorem dr_isiZx {D dd : Addr} {ds : List Dat} {r0 : List V → Hp → VK → Prop} {a : Addr} (h : DR K (rIsiX K) ds ms P) : DR K (rIsiZ a D dd K) ds ms P := fun W G H vs Q gd r k => .inl (h W G H vs Q gd r k)
theorem dr_isiH {D dd C a : Addr} {fs : List (Str × Dat)} {b : Bool} (hT : ExT K D) (hb : PySem.W.kitOne K (.ref D) (.ref C) = some b) (q : P (.bl b) ms) : DR K (rIsiZ a D dd K) [.hot a dd D fs, .ref C] ms P := fun W G H vs Q gd r k => by
  cases r with
  | cons r1 rr => cases rr with
    | cons r2 rr =>
      cases rr; cases r2
      cases r1 with
      | hot e1 rf => exact .inr (.inl ⟨_, .ref C, .ref C, b, rfl, .own C, hT, gd.fz _ _ e1, hb, k W _ _ H ms (Le.refl W) gd (.bl _) q⟩)
theorem dr_isiHt {D dd a : Addr} {n : String} {fs : List (Str × Dat)} {b : Bool} (hT : ExT K D) (hb : PySem.W.kitOne K (.ref D) (.type n) = some b) (q : P (.bl b) ms) : DR K (rIsiZ a D dd K) [.hot a dd D fs, .ty n] ms P := fun W G H vs Q gd r k => by
  cases r with
  | cons r1 rr => cases rr with
    | cons r2 rr =>
      cases rr; cases r2
      cases r1 with
      | hot e1 rf => exact .inr (.inl ⟨_, .ty n, .type n, b, rfl, .ty n, hT, gd.fz _ _ e1, hb, k W _ _ H ms (Le.refl W) gd (.bl _) q⟩)
end
end DL
namespace DL
open PySem PySem.Spec PyProof.Rows L2
section
variable {Xc : Cx} {K : PySem.W.Frag} {a D dd : Addr} {oe : Obj}
/-! ### isinstance(e, (C, ..)) of an error -/
def rIsiTS (K : PySem.W.Frag) (a D dd : Addr) : List V → Hp → VK → Prop := fun xs H Q => ∃ (b0 E tp : Addr) (cs : List V) (us : List Value) (b : Bool), xs = [.ref b0, .ref tp] ∧ SqT K H tp cs ∧ Paired ClsV cs us ∧ ExT K E ∧ PySem.W.kitAny K (.ref E) us = some b ∧ Q (.bl b) H ∧
  ((b0 = a ∧ E = D ∧ ∃ fs, H dd = some (.xd fs)) ∨ ∃ dx fs, H b0 = some (exo b0 E (some dx)) ∧ H dx = some (exd dx fs))
theorem call_isiTS (hin : (a, oe) ∈ Xc.pn) (hz : Zc (.ref D) (some dd) oe) (hf : ∃ vs, oe.data = .fields vs) : CallR Xc (.builtin "isinstance") (rIsiTS Xc.K a D dd) := by
  rintro pins s σ H xs us Q I r ⟨b0, E, tp, cs, ws, b, rfl, hT, k, T, e, q, hh⟩
  cases r with
  | cons ra rr => cases rr with
    | cons rc rr =>
      cases rr
      cases ra; cases rc
      obtain ⟨its, rv, ⟨ob, h1, h2, n, h3⟩, _⟩ := I.tuple hT
      obtain rfl := ClsV.all k rv
      obtain ⟨oc, od', dt, sl⟩ := ob
      cases h2; cases h3
      obtain ⟨cd, hc, _⟩ := PySem.W.any_some T.hd
      rcases hh with ⟨rfl, rfl, fs, e2⟩ | ⟨dx, fs, e1, e2⟩
      · obtain ⟨od, mA, J, _⟩ := pinned_at I hin hz hf e2
        exact PySem.W.kia_tup (PySem.W.kitx_exc (by rw [hc]; rfl) T.ga T.gg T.o.exC T.cl T.sp T.tk T.mo) I.kIn J h1 e (fun z => nomatch z) fun t => ⟨.bl b, H, I.tok t, rfl, q⟩
      · obtain ⟨ox, od, mA, J, _⟩ := exc_at I e1 e2
        exact PySem.W.kia_tup (PySem.W.kitx_exc (by rw [hc]; rfl) T.ga T.gg T.o.exC T.cl T.sp T.tk T.mo) I.kIn J h1 e (fun z => nomatch z) fun t => ⟨.bl b, H, I.tok t, rfl, q⟩
def rIsiW (a D dd : Addr) (K : PySem.W.Frag) : List V → Hp → VK → Prop := fun xs H Q => rIsiZ a D dd K xs H Q ∨ rIsiTS K a D dd xs H Q
theorem call_isiW (hin : (a, oe) ∈ Xc.pn) (hz : Zc (.ref D) (some dd) oe) (hf : ∃ vs, oe.data = .fields vs) : CallR Xc (.builtin "isinstance") (rIsiW a D dd Xc.K) := orC (call_isiZ hin hz hf) (call_isiTS hin hz hf)
/-- .. where nothing is handled -/
def rIsiTC (K : PySem.W.Frag) : List V → Hp → VK → Prop := fun xs H Q => ∃ (b0 E tp : Addr) (cs : List V) (us : List Value) (b : Bool) (dx : Addr) (fs : List (Str × V)), xs = [.ref b0, .ref tp] ∧ SqT K H tp cs ∧ Paired ClsV cs us ∧ ExT K E ∧ PySem.W.kitAny K (.ref E) us = some b ∧ H b0 = some (exo b0 E (some dx)) ∧ H dx = some (exd dx fs) ∧ Q (.bl b) H
theorem call_isiTC : CallR Xc (.builtin "isinstance") (rIsiTC Xc.K) := by
  rintro pins s σ H xs us Q I r ⟨b0, E, tp, cs, ws, b, dx, fs, rfl, hT, k, T, e, e1, e2, q⟩
  cases r with
  | cons ra rr => cases rr with
    | cons rc rr =>
      cases rr
      cases ra; cases rc
      obtain ⟨its, rv, ⟨ob, h1, h2, n, h3⟩, _⟩ := I.tuple hT
      obtain rfl := ClsV.all k rv
      obtain ⟨oc, od', dt, sl⟩ := ob
      cases h2; cases h3
      obtain ⟨cd, hc, _⟩ := PySem.W.any_some T.hd
      obtain ⟨ox, od, mA, J, _⟩ := exc_at I e1 e2
      exact PySem.W.kia_tup (PySem.W.kitx_exc (by rw [hc]; rfl) T.ga T.gg T.o.exC T.cl T.sp T.tk T.mo) I.kIn J h1 e (fun z => nomatch z) fun t => ⟨.bl b, H, I.tok t, rfl, q⟩
def rIsiXT (K : PySem.W.Frag) : List V → Hp → VK → Prop := fun xs H Q => rIsiX K xs H Q ∨ rIsiTC K xs H Q
theorem call_isiXT : CallR Xc (.builtin "isinstance") (rIsiXT Xc.K) := orC call_isiX call_isiTC
end
section
variable {K : PySem.W.Frag} {ms : Ms} {P : Dat → Ms → Prop} {D a dd : Addr} {fs : List (Str × Dat)} {b : Bool}
theorem cls_refs : ∀ (Cs : List Addr), Paired ClsV (Cs.map V.ref) (Cs.map Value.ref)
  | [] => .nil
  | C :: Cs => .cons (.own C) (cls_refs Cs)
theorem refsRep {W : Wd} : ∀ {vs : List V} {Cs : List Addr}, RepL K W vs (Cs.map Dat.ref) → vs = Cs.map V.ref
  | _, [], h => by cases h; rfl
  | _, C :: Cs, h => by cases h with | cons x y => cases x; rw [refsRep y]; rfl
theorem dr_isiTCx {Cs : List Addr} (hT : ExT K D) (hb : PySem.W.kitAny K (.ref D) (Cs.map Value.ref) = some b) (q : P (.bl b) ms) : DR K (rIsiXT K) [.exc D fs, .tup (Cs.map Dat.ref)] ms P := fun W G H vs Q gd r k => by
  cases r with
  | cons r1 rr => cases rr with
    | cons r2 rr =>
      cases rr
      cases r1 with
      | exc e1 e2 rf => cases r2 with
        | tup hq rl =>
          rw [refsRep rl] at hq
          exact .inr ⟨_, D, _, _, _, b, _, _, rfl, Same.tup gd.fz hq, cls_refs Cs, hT, hb, gd.fz _ _ e1, gd.fz _ _ e2, k W _ _ H ms (Le.refl W) gd (.bl _) q⟩
theorem dr_isiTSx {Cs : List Addr} {E : Addr} (hT : ExT K E) (hb : PySem.W.kitAny K (.ref E) (Cs.map Value.ref) = some b) (q : P (.bl b) ms) : DR K (rIsiW a D dd K) [.exc E fs, .tup (Cs.map Dat.ref)] ms P := fun W G H vs Q gd r k => by
  cases r with
  | cons r1 rr => cases rr with
    | cons r2 rr =>
      cases rr
      cases r1 with
      | exc e1 e2 rf => cases r2 with
        | tup hq rl =>
          rw [refsRep rl] at hq
          exact .inr ⟨_, E, _, _, _, b, rfl, Same.tup gd.fz hq, cls_refs Cs, hT, hb, k W _ _ H ms (Le.refl W) gd (.bl _) q, .inr ⟨_, _, gd.fz _ _ e1, gd.fz _ _ e2⟩⟩
theorem dr_isiTSh {Cs : List Addr} (hT : ExT K D) (hb : PySem.W.kitAny K (.ref D) (Cs.map Value.ref) = some b) (q : P (.bl b) ms) : DR K (rIsiW a D dd K) [.hot a dd D fs, .tup (Cs.map Dat.ref)] ms P := fun W G H vs Q gd r k => by
  cases r with
  | cons r1 rr => cases rr with
    | cons r2 rr =>
      cases rr
      cases r1 with
      | hot e1 rf => cases r2 with
        | tup hq rl =>
          rw [refsRep rl] at hq
          exact .inr ⟨_, D, _, _, _, b, rfl, Same.tup gd.fz hq, cls_refs Cs, hT, hb, k W _ _ H ms (Le.refl W) gd (.bl _) q, .inl ⟨rfl, rfl, _, gd.fz _ _ e1⟩⟩
/-- classes of one base: an error of one is of no other -/
theorem kit_ex {C D : Addr} {o1 o2 : Obj} {c1 c2 : ClassData} (h1 : K.lookup D = some o1) (d1 : o1.data = .cls c1) (m1 : c1.mro = .ref D :: c2.mro) (hC : PySem.W.clsIn K C ≠ none) (tC : PySem.W.typeIn K (.ref C) = some (.type "type")) :
    PySem.W.kitOne K (.ref D) (.ref C) = some (decide (D = C) || c2.mro.contains (.ref C)) := by
  unfold PySem.W.kitOne
  by_cases e : D = C
  · subst e
    rw [if_pos (by simp)]
    simp
  · rw [if_neg (by simp [e])]
    have h : (PySem.W.clsIn K C).isSome = true := by cases q : PySem.W.clsIn K C with | none => exact absurd q hC | some _ => rfl
    show (if ((PySem.W.clsIn K C).isSome && PySem.W.typeIn K (.ref C) == some (.type "type")) = true then PySem.W.subIn K (.ref D) (.ref C) else none) = _
    rw [if_pos (by rw [h, tC]; rfl)]
    show PySem.W.mroIn K D (.ref C) = _
    obtain ⟨oc, od, dt, sl⟩ := o1
    cases d1
    unfold PySem.W.mroIn PySem.W.clsIn
    rw [h1]
    show (if c1.mro.isEmpty = true then none else some (c1.mro.contains (.ref C))) = _
    rw [m1]
    have ne : (Value.ref C == Value.ref D) = false := by simp; exact fun z => e z.symm
    simp [List.contains_cons, ne, e]
    exact fun z => absurd z.symm e
end
end DL
/-! list != list, the items told by EqP (lists and dicts among them) -/
namespace PySem.SeqAt
open AutoSeq1 (wpAny_loadPart')
open MeetsSeq MeetsSeq2 MeetsSeq3 SeqRoads2
section
variable {prog : Program} {w : World}
/-- the two lists stand, their items' answers are known -/
def Two (prog : Program) (w : World) (l b : Addr) (o1 o2 : Obj) (xs ys : Array Value) (e : Nat → Bool) (A : Around) (s : Shared) : Prop :=
  s.heap.get? l = some o1 ∧ s.heap.get? b = some o2 ∧ ∀ j (h1 : j < xs.size) (h2 : j < ys.size), EqP prog w A.in1 s xs[j] ys[j] (e j)
theorem neLoopP (l b : Addr) (xs ys : Array Value) (n m : Nat) (d1 d2 : Option Addr) (t1 t2 : Array (Option Value)) (sz : xs.size = ys.size) (e : Nat → Bool) (k : Nat) :
    ∀ i : Nat, xs.size - i = k → MeetsIn prog w (Builtin.«list.__eq__.loop» ⟨[.ref l, .ref b, rawInt i, rawInt 3], []⟩)
      (fun A R s => (s.heap.get? l = some { cls := .type "list", dict := d1, data := .seq xs n, slots := t1 } ∧ s.heap.get? b = some { cls := .type "list", dict := d2, data := .seq ys m, slots := t2 }) ∧
        (∀ j (h1 : j < xs.size) (h2 : j < ys.size), EqP prog w A.in1 s xs[j] ys[j] (e j)) ∧ R (.ok (.ret (.bool (!((List.range xs.size).drop i).all e)))) s) := by
  induction k with
  | zero =>
    rintro i hk A R ⟨hp, g, d, tk, os⟩ ⟨⟨gl, gb⟩, he, z⟩
    wp_walk using wpAny_loadPart' gl, wpAny_loadPart' gb
    have none1 : xs[((i : Nat) : Int).toNat]? = none := by simp; omega
    have none2 : ys[((i : Nat) : Int).toNat]? = none := by simp; omega
    rw [show (List.range xs.size).drop i = [] by simp; omega] at z
    rw [none1, none2]
    wp_walk using wpAny_loadPart' gl, wpAny_loadPart' gb
    show R (.ok (.ret (.bool (xs.size != ys.size)))) _
    rw [sz]
    simpa using z
  | succ k ih =>
    rintro i hk A R ⟨hp, g, d, tk, os⟩ ⟨⟨gl, gb⟩, he, z⟩
    wp_walk using wpAny_loadPart' gl, wpAny_loadPart' gb
    have lt1 : i < xs.size := by omega
    have lt2 : i < ys.size := by omega
    have some1 : xs[((i : Nat) : Int).toNat]? = some xs[i] := by simp [lt1]
    have some2 : ys[((i : Nat) : Int).toNat]? = some ys[i] := by simp [lt2]
    rw [show (List.range xs.size).drop i = i :: (List.range xs.size).drop (i + 1) by simp [List.drop_eq_getElem_cons, lt1], List.all_cons] at z
    rw [some1, some2]
    refine wpAny_bind (he i lt1 lt2 _ _ ?_)
    cases ei : e i with
    | true =>
      rw [ei] at z
      wp_walk
      rw [show ((i : Int) + 1) = ((i + 1 : Nat) : Int) by push_cast; rfl]
      exact ⟨plainId_quiet plain_eq_loop _, codeAny_builtin entry_eq_loop (by
        rw [Around.under_plainId plain_eq_loop _]
        exact ih (i + 1) (by omega) A R _ ⟨⟨gl, gb⟩, he, by simpa using z⟩)⟩
    | false =>
      rw [ei] at z
      wp_walk using wpAny_loadPart' gl, wpAny_loadPart' gb
      rw [some1, some2]
      wp_walk
      simpa using z
end
end PySem.SeqAt
namespace PySem.SeqAt
open AutoSeq1 (wpAny_loadPart')
open MeetsSeq MeetsSeq2 MeetsSeq3 SeqRoads2
section
variable {prog : Program} {w : World}
theorem neP_in (l b : Addr) (xs ys : Array Value) (n m : Nat) (d1 d2 : Option Addr) (t1 t2 : Array (Option Value)) (sz : xs.size = ys.size) (e : Nat → Bool) :
    MeetsIn prog w (Builtin.«list.__ne__» ⟨[.ref l, .ref b], []⟩)
      (fun A R s => (s.heap.get? l = some { cls := .type "list", dict := d1, data := .seq xs n, slots := t1 } ∧ s.heap.get? b = some { cls := .type "list", dict := d2, data := .seq ys m, slots := t2 }) ∧
        (∀ j (h1 : j < xs.size) (h2 : j < ys.size), EqP prog w A.in1 s xs[j] ys[j] (e j)) ∧ R (.ok (.ret (.bool (!(List.range xs.size).all e)))) s) := by
  rintro A R ⟨hp, g, d, tk, os⟩ ⟨⟨gl, gb⟩, he, z⟩
  have sub := AutoSeq1.sub_list_list
  have same : ¬ (xs.size != ys.size) = true := by simp [sz]
  wp_walk using wpAny_loadPart' gl, wpAny_loadPart' gb
  exact ⟨plainId_quiet plain_eq_loop _, codeAny_builtin entry_eq_loop (by
    rw [Around.under_plainId plain_eq_loop _]
    exact neLoopP l b xs ys n m d1 d2 t1 t2 sz e _ 0 rfl A R _ ⟨⟨gl, gb⟩, he, by simpa using z⟩)⟩
theorem neP_lists {A : Around} {s : Shared} {l b : Addr} {xs ys : Array Value} {e : Nat → Bool} (hl : s.heap.IsList l xs) (hb : s.heap.IsList b ys) (sz : xs.size = ys.size) (hu : A.units < cLine)
    (he : ∀ j (h1 : j < xs.size) (h2 : j < ys.size), EqP prog w A.in1 s xs[j] ys[j] (e j)) (E Q : Value → Shared → Prop) (z : Q (.bool (!(List.range xs.size).all e)) s) : wpAny (model prog w) A (richCompare .NotEq (.ref l) (.ref b)) Q E s := by
  obtain ⟨⟨c1, d1, a1, t1⟩, g1, k1, n, q1⟩ := id hl
  obtain ⟨⟨c2, d2, a2, t2⟩, g2, k2, m, q2⟩ := id hb
  cases k1; cases q1; cases k2; cases q2
  have y1 : s.TypeIs (.ref l) "list" := ⟨_, g1, rfl⟩
  have y2 : s.TypeIs (.ref b) "list" := ⟨_, g2, rfl⟩
  exact wpAny_richCompare_same_room (op := .NotEq) y1 y2 F.slot_list_ne (call_meetsIn F.slot_list_ne y1 F.entry_list_ne (F.args_list_ne_2 _ _) (neP_in l b xs ys n m d1 d2 t1 t2 sz e)
    ⟨⟨g1, g2⟩, he, show Value.bool (!(List.range xs.size).all e) ≠ Value.notImplemented ∧ Q (.bool (!(List.range xs.size).all e)) s from ⟨(fun x => nomatch x), z⟩⟩) hu
end
end PySem.SeqAt
namespace DL
open PySem PySem.Spec PyProof.Rows L2
/-- two lists of equal items are not != -/
def rNeL (K : PySem.W.Frag) : R2 := fun x y H Q => ∃ n a b xs ys, n ≤ 60 ∧ x = .ref a ∧ y = .ref b ∧ SqL K H a xs ∧ SqL K H b ys ∧ Paired (EqV K H n) xs ys ∧ Q (.bl false) H
theorem op_neL {X : Cx} (hu : X.A.units + 64 < cLine) : OpR X (compareOp .NotEq) (rNeL X.K) := by
  rintro pins s σ H x y v u Q I rx ry ⟨n, a, b, xs, ys, hn, rfl, rfl, ha, hb, hp, q⟩
  cases (show v = Value.ref a from rx)
  cases (show u = Value.ref b from ry)
  obtain ⟨us, r1, p1, _⟩ := I.list ha
  obtain ⟨ws, r2, p2, _⟩ := I.list hb
  have sz : us.toArray.size = ws.toArray.size := by
    rw [List.size_toArray, List.size_toArray, ← r1.length, ← r2.length]
    exact Paired.length hp
  refine SeqAt.neP_lists (e := fun _ => true) p1.isList p2.isList sz (by omega) (fun j h1 h2 => ?_) _ _ ?_
  · have k := items_run (eqV_run I n X.A.in1 (by show X.A.units + 1 + n < cLine; omega)) hp r1 r2 j (by simpa using h1) (by simpa using h2)
    simpa using k
  · rw [show ((List.range us.toArray.size).all fun _ => true) = true from List.all_eq_true.mpr fun _ _ => rfl]
    exact ⟨.bl false, H, I, rfl, q⟩
end DL
namespace DL
open PySem PySem.Spec PyProof.Rows L2
/-- an error class with one field, its maker -/
structure ErrT (K : PySem.W.Frag) (mg : Str → Option Value) (nm f : Str) (C fI : Addr) (fdI : FuncData) : Prop where
  t : ExT K C
  m : mg nm = some (.ref C)
  no : PySem.W.findIn K (.ref C) f = some none
  i : PySem.W.findIn K (.ref C) "__init__" = some (some (.ref fI))
  ti : PySem.W.typeIn K (.ref fI) = some (.type "function")
  b : Binds K fdI ["self", f] []
  kA : KwI K fdI ["self", f] [f] gApp
/-- .. with two fields -/
structure ErrT2 (K : PySem.W.Frag) (mg : Str → Option Value) (nm f g : Str) (C fI : Addr) (fdI : FuncData) : Prop where
  t : ExT K C
  m : mg nm = some (.ref C)
  no : PySem.W.findIn K (.ref C) f = some none
  ng : PySem.W.findIn K (.ref C) g = some none
  i : PySem.W.findIn K (.ref C) "__init__" = some (some (.ref fI))
  ti : PySem.W.typeIn K (.ref fI) = some (.type "function")
  b : Binds K fdI ["self", f, g] []
  kA : KwI K fdI ["self", f, g] [f, g] gApp
  kR : KwI K fdI ["self", f, g] [g, f] gRev
  kP : KwI K fdI ["self", f, g] [g] gApp
theorem passE {X : Cx} : Passes (L2N.CX X.prog X.w) X E0 := fun _ σ H s e s' I h => passN σ _ H s e s' I h
end DL
namespace DL
open PySem PySem.Spec PyProof.Rows L2
/-! ### the error that a suite holds, handed on to a def -/
section
variable {X : Cx} {cx : CXT} {k : Nat} {f : Addr} {fd : FuncData} {ps : List Str} {sp : Addr → Addr → Addr → Sp} {E : L2.St → XK} {x : Str} {p pos : Pos} {e : Expr} {es : List Expr} {t : TA} {a : Addr} {cls : Value} {d : Option Addr} {oe : Obj}
def tCallZ (a : Addr) (cls : Value) (d : Option Addr) (sp : Addr → Addr → Addr → Sp) (E : L2.St → XK) (t : TA) : TE := fun σ H Q => ∃ D dd, cls = .ref D ∧ d = some dd ∧ tCallD (sp a D dd) [] E t σ H Q
theorem pe_gZ (F : FnGE X.prog X.w X.K X.mg X.base cx k f fd ps sp) (hr : L2H.RoomH k X.A) (hq : Quiet X.A) (hot : L2H.Hot1 X.A (a, oe)) (hin : (a, oe) ∈ X.pn) (hz : L2N.Zn cls d oe) (hg : Gl X x) (hm : X.mg x = some (.ref f)) (hk : PySem.W.keepIn X.K (.ref f) = true) (hb : Binds X.K fd ps []) (hx : ∀ σ, PassesAt cx X σ (E σ))
    (ha : PA X (e :: es) t) (hdb : (x == ("__debug__" : Str)) = false := by decide) (he : starEach (e :: es) X.env = (false, eval e X.env) :: starEach es X.env := by rfl) (hpl : (backTo pos (starEach es X.env)).any (·.1) = false := by rfl) :
    PE X (.Call (.Name x p) (e :: es) [] pos) (tCallZ a cls d sp E t) := ⟨fun pins s σ H Q I h => by
  obtain ⟨D, dd, hc, hd, h⟩ := h
  subst hc; subst hd
  exact (pe_gE F hr hq hot hin hz.zc hg hm hk hb hx ha hdb he hpl).run pins s σ H Q I h⟩
theorem hot1S {pn : List (Addr × Obj)} (hz : L2N.Zn cls d oe) (hf : ∃ vs, oe.data = .fields vs) : L2H.Hot1 (X.suite a ((a, oe) :: pn)).A (a, oe) := by
  obtain ⟨vs, e⟩ := hf
  exact ⟨rfl, vs, e, hz.2.2 vs e⟩
theorem hotF {A : Around} {p : Addr × Obj} (hot : L2H.Hot1 A p) : ∃ vs, p.2.data = .fields vs := by
  obtain ⟨_, vs, e, _⟩ := hot
  exact ⟨vs, e⟩
end
section
variable {K : PySem.W.Frag} {R : WX} {e : Ev} {ms : Ms} {X : XP} {ta te : TE} {tA tK : TA} {P : Dat → Ms → Prop} {O : Out} {C D a dd : Addr} {f g : Str}
theorem de_gZ {A : Addr → Addr → Addr → Pm} (h : DA K R tA e ms (fun ds m => A a D dd ds m P (fun _ _ _ => False)) X) : DE K R (tCallZ a (.ref D) (some dd) (fun a D dd => spD K (A a D dd)) (fun _ => E0) tA) e ms P X := fun W G σ H Q gd s k x =>
  ⟨D, dd, rfl, rfl, de_g0 (dds := []) (fun _ => .nil) (by simpa using h) W G σ H Q gd s k x⟩
/-- a field of it -/
theorem de_fldZh {fs : List (Str × Dat)} {d : Dat} (hT : ExT K D) (hno : PySem.W.findIn K (.ref D) f = some none) (hl : fs.lookup f = some d) (h : DE K R te e ms (fun x m => x = .hot a dd D fs ∧ P d m) X) : DE K R (tFldZ K a D dd f te) e ms P X := fun W G σ H Q gd s k x =>
  h W G σ H _ gd s (fun W1 v y H1 m1 l1 g1 r1 ⟨hx, p⟩ => by
    subst hx
    cases r1 with
    | hot e1 rf =>
      obtain ⟨u, h1, h2⟩ := repF_look rf hl
      exact .inl ⟨_, u, rfl, hT, hno, g1.fz _ _ e1, h1, k W1 _ _ H1 m1 l1 g1 h2 p⟩) x
theorem de_fldZx {fs : List (Str × Dat)} {d : Dat} (hT : ExT K C) (hno : PySem.W.findIn K (.ref C) f = some none) (hl : fs.lookup f = some d) (h : DE K R te e ms (fun x m => x = .exc C fs ∧ P d m) X) : DE K R (tFldZ K a D dd f te) e ms P X := fun W G σ H Q gd s k x =>
  h W G σ H _ gd s (fun W1 v y H1 m1 l1 g1 r1 ⟨hx, p⟩ => by
    subst hx
    cases r1 with
    | exc e1 e2 rf =>
      obtain ⟨u, h1, h2⟩ := repF_look rf hl
      exact .inr ⟨_, C, _, _, u, rfl, hT, hno, g1.fz _ _ e1, g1.fz _ _ e2, h1, k W1 _ _ H1 m1 l1 g1 h2 p⟩) x
/-! ### raise, more of it -/
theorem raised2 {W : Wd} {G H : Hp} {v u : V} {d d2 : Dat} {Q : XK} (g1 : Good K W G H ms) (hT : OexC K C) (hno : PySem.W.findIn K (.ref C) f = some none) (hng : PySem.W.findIn K (.ref C) g = some none) (ra : Rep K W v d) (rb : Rep K W u d2)
    (k : ∀ (W' : Wd) (dx : Addr) (H' : Hp), Le W W' → Good K W' G H' ms → W'.F dx = some (.xd [(g, u), (f, v)]) → Rep K W' v d → Rep K W' u d2 → Q (.ref C) (some dx) H') (a : Addr) (na : H a = none) :
    spIni2 K f g [.ref a, v, u] (upd H a (exo a C none)) (fun z H2 => z = .non ∧ ∃ (dx : Addr) (fs : List (Str × V)), H2 a = some (exo a C (some dx)) ∧ H2 dx = some (exd dx fs) ∧ H dx = none ∧ Q (.ref C) (some dx) (upd (L2.del H2 a) dx (.xd fs))) (fun _ _ _ => False) := by
  refine ⟨a, C, v, u, rfl, hT, hno, hng, upd_same, fun dx ndx ne => ⟨rfl, dx, [(g, u), (f, v)], by rw [upd_ne (Ne.symm ne), upd_same], by rw [upd_same], by rw [upd_ne ne] at ndx; exact ndx, ?_⟩⟩
  have n2 : H dx = none := by rw [upd_ne ne] at ndx; exact ndx
  have eq : upd (L2.del (upd (upd (upd (upd H a (exo a C none)) dx (exd dx [(f, v)])) a (exo a C (some dx))) dx (exd dx [(g, u), (f, v)])) a) dx (.xd [(g, u), (f, v)]) = upd H dx (.xd [(g, u), (f, v)]) := by
    funext b
    by_cases h2 : b = dx
    · rw [h2, upd_same, upd_same]
    · rw [upd_ne h2, upd_ne h2]
      by_cases h1 : b = a
      · rw [h1, del_same, na]
      · rw [del_ne h1, upd_ne h2, upd_ne h1, upd_ne h2, upd_ne h1]
  rw [eq]
  obtain ⟨g2, l2⟩ := g1.laid (o := .xd [(g, u), (f, v)]) n2
  exact k _ dx _ l2 g2 upd_same (Rep.mono l2 _ _ ra) (Rep.mono l2 _ _ rb)
theorem ds_raise2 (hT : OexC K C) (hno : PySem.W.findIn K (.ref C) f = some none) (hng : PySem.W.findIn K (.ref C) g = some none) (h : DA K R tA e ms (fun ds m => ∃ d d2, ds = [d, d2] ∧ O.ex C [(g, d2), (f, d)] e m) (O.xp e)) : DS K R (tRaiseO C (spIni2 K f g) R tA) e ms O := fun W G σ H D gd s ft =>
  h W G σ H _ gd s (fun W1 vs ds H1 m1 l1 g1 r1 ⟨d, d2, hd, p⟩ => by
    subst hd
    cases r1 with
    | cons ra rr => cases rr with
      | cons rb rr =>
        cases rr
        refine ⟨by show 2 ≤ 1000; decide, fun a na => ?_⟩
        exact raised2 (Q := fun cls d H' => R cls d σ H') g1 hT hno hng ra rb (fun W' dx H' l' g' hx r' r2' => ft.ex W' σ e C dx _ [(g, d2), (f, d)] H' m1 (l1.trans l') g' ((s.mono l1).mono l') hx (.cons r2' (.cons r' .nil)) p) a na) (ft.ex.at s)
/-- raise C(.., k = v, ..) -/
def tMkK (C : Addr) (sp : Sp) (g : {α : Type} → List α → List α → List α) (n : Nat) (ta tk : TA) : L2.St → Hp → XK → Prop := fun σ H Q => ta σ H fun vs H1 => tk σ H1 fun zs H2 => zs.length = n ∧ vs.length ≤ 1000 ∧ ∀ a, H2 a = none → sp (.ref a :: g vs zs) (upd H2 a (exo a C none))
  (fun v H3 => v = .non ∧ ∃ (d : Addr) (fs : List (Str × V)), H3 a = some (exo a C (some d)) ∧ H3 d = some (exd d fs) ∧ H2 d = none ∧ Q (.ref C) (some d) (upd (L2.del H3 a) d (.xd fs))) (fun _ _ _ => False)
def tRaiseK (C : Addr) (sp : Sp) (g : {α : Type} → List α → List α → List α) (n : Nat) (R : WX) (ta tk : TA) : TS := fun _ σ H => tMkK C sp g n ta tk σ H fun cls d H' => R cls d σ H'
theorem ds_raiseK1 {n : Nat} {o : {α : Type} → List α → List α → List α} (ho : Ord K o) (hT : OexC K C) (hno : PySem.W.findIn K (.ref C) f = some none)
    (h : DA K R tA e ms (fun ds m => DA K R tK e m (fun es m2 => (es.length = n ∧ ds.length ≤ 1000) ∧ ∃ d, o ds es = [d] ∧ O.ex C [(f, d)] e m2) (O.xp e)) (O.xp e)) : DS K R (tRaiseK C (spIni1 K f) o n R tA tK) e ms O := fun W G σ H D gd s ft => by
  refine h W G σ H _ gd s (fun W1 vs ds H1 m1 l1 g1 r1 h1 => ?_) (ft.ex.at s)
  refine h1 W1 G σ H1 _ g1 (s.mono l1) (fun W2 zs es H2 m2 l2 g2 r2 ⟨⟨hn, hl⟩, d, hd, p⟩ => ?_) ((ft.le l1).ex.at (s.mono l1))
  have rr : RepL K W2 (o vs zs) (o ds es) := ho W2 vs zs ds es (RepL.mono l2 _ _ r1) r2
  rw [hd] at rr
  refine ⟨by rw [r2.length]; exact hn, by rw [r1.length]; exact hl, fun a na => ?_⟩
  have key : ∀ ws : List V, RepL K W2 ws [d] → spIni1 K f (.ref a :: ws) (upd H2 a (exo a C none)) (fun v H3 => v = .non ∧ ∃ (d : Addr) (fs : List (Str × V)), H3 a = some (exo a C (some d)) ∧ H3 d = some (exd d fs) ∧ H2 d = none ∧ R (.ref C) (some d) σ (upd (L2.del H3 a) d (.xd fs))) (fun _ _ _ => False) := fun ws rr => by
    cases rr with
    | cons ra rn =>
      cases rn
      exact raised1 (Q := fun cls d H' => R cls d σ H') g2 hT hno ra (fun W' dx H' l' g' hx r' => ft.ex W' σ e C dx _ [(f, d)] H' m2 (l1.trans (l2.trans l')) g' (s.mono (l1.trans (l2.trans l'))) hx (.cons r' .nil) p) a na
  exact key _ rr
theorem ds_raiseK2 {n : Nat} {o : {α : Type} → List α → List α → List α} (ho : Ord K o) (hT : OexC K C) (hno : PySem.W.findIn K (.ref C) f = some none) (hng : PySem.W.findIn K (.ref C) g = some none)
    (h : DA K R tA e ms (fun ds m => DA K R tK e m (fun es m2 => (es.length = n ∧ ds.length ≤ 1000) ∧ ∃ d d2, o ds es = [d, d2] ∧ O.ex C [(g, d2), (f, d)] e m2) (O.xp e)) (O.xp e)) : DS K R (tRaiseK C (spIni2 K f g) o n R tA tK) e ms O := fun W G σ H D gd s ft => by
  refine h W G σ H _ gd s (fun W1 vs ds H1 m1 l1 g1 r1 h1 => ?_) (ft.ex.at s)
  refine h1 W1 G σ H1 _ g1 (s.mono l1) (fun W2 zs es H2 m2 l2 g2 r2 ⟨⟨hn, hl⟩, d, d2, hd, p⟩ => ?_) ((ft.le l1).ex.at (s.mono l1))
  have rr : RepL K W2 (o vs zs) (o ds es) := ho W2 vs zs ds es (RepL.mono l2 _ _ r1) r2
  rw [hd] at rr
  refine ⟨by rw [r2.length]; exact hn, by rw [r1.length]; exact hl, fun a na => ?_⟩
  have key : ∀ ws : List V, RepL K W2 ws [d, d2] → spIni2 K f g (.ref a :: ws) (upd H2 a (exo a C none)) (fun v H3 => v = .non ∧ ∃ (d : Addr) (fs : List (Str × V)), H3 a = some (exo a C (some d)) ∧ H3 d = some (exd d fs) ∧ H2 d = none ∧ R (.ref C) (some d) σ (upd (L2.del H3 a) d (.xd fs))) (fun _ _ _ => False) := fun ws rr => by
    cases rr with
    | cons ra rn => cases rn with
      | cons rb rn =>
        cases rn
        exact raised2 (Q := fun cls d H' => R cls d σ H') g2 hT hno hng ra rb (fun W' dx H' l' g' hx r' r2' => ft.ex W' σ e C dx _ [(g, d2), (f, d)] H' m2 (l1.trans (l2.trans l')) g' (s.mono (l1.trans (l2.trans l'))) hx (.cons r2' (.cons r' .nil)) p) a na
  exact key _ rr
end
section
variable {Xc : Cx} {cx : CXT} {x : Str} {tk : TA} {p pos pos2 : Pos} {C fI : Addr} {k : Nat} {fd : FuncData} {ps ks : List Str} {sp : Sp} {kws : List Keyword} {g : {α : Type} → List α → List α → List α} {W : WX}
theorem pmk_newK0 (T : OexC Xc.K C) (iC : PySem.W.findIn Xc.K (.ref C) "__init__" = some (some (.ref fI))) (tI : PySem.W.typeIn Xc.K (.ref fI) = some (.type "function"))
    (F1 : FnOk Xc.prog Xc.w Xc.K Xc.mg Xc.base cx k fI fd ps sp) (hr : Room (k + 1) Xc.A) (hb : KwI Xc.K fd ps ks g) (hx : Passes cx Xc E0) (hg : Gl Xc x) (hm : Xc.mg x = some (.ref C)) (hk : PK Xc kws tk)
    (hall : (backToKw pos (keywordEach kws Xc.env)).all (·.1.isSome) = true := by rfl) (hks : (backToKw pos (keywordEach kws Xc.env)).filterMap (·.1) = ks := by rfl)
    (hdb : (x == ("__debug__" : Str)) = false := by decide) (hpl : ((backTo pos (starEach [] Xc.env)).any (·.1) || (backToKw pos (keywordEach kws Xc.env)).any (·.1.isNone)) = false := by rfl) :
    L2N.PMk Xc (.Call (.Name x p) [] kws pos) (tMkK C sp g ks.length tNil tk) := by
  intro pins s σ H Q I h
  refine wpAny_Call_Name_kw (ld_glob I hg hm ?_ hdb)
  refine PySem.W.callWith_KW0 (h₀ := Xc.base) I.ok.mod.kin T.kC hall (thn (hk.run pos pins s σ H _ I h) ?_) hpl
  rintro ws s1 ⟨zs, H1, I1, rz, hzl, hz, q⟩
  have hn := I1.hok.fresh (Nat.le_succ s1.heap.objs.size)
  have q1 := q _ hn
  refine ⟨I1.kIn, ?_⟩
  rw [hks]
  refine mk_runK (us := []) (vs := []) T iC tI F1 hr hb hx I1 .nil rz hzl hz (Qr := fun _ H2 => ∃ (d : Addr) (fs : List (Str × V)), H2 (s1.heap.objs.size + 1) = some (exo (s1.heap.objs.size + 1) C (some d)) ∧ H2 d = some (exd d fs) ∧ H1 d = none ∧ Q (.ref C) (some d) (upd (L2.del H2 (s1.heap.objs.size + 1)) d (.xd fs))) q1 fun H2 s2 ce J hQ => ?_
  obtain ⟨d, fs, ea, ed, hd1, hq⟩ := hQ
  obtain ⟨v, H2', o2, b2, un2, ok2, _, _, rfl⟩ := ce
  obtain ⟨hp, g, dr, tk, os⟩ := s1
  obtain ⟨h2, g2, d2, t2, os2⟩ := s2
  obtain ⟨t0, Gh, J2, kG, ge, hoe, na⟩ := mk_end0 (d2 := d2) (t2 := t2) I1 (Nat.le_succ _) (fun b o e => Heap.get?_push_of_some _ (Heap.get?_push_of_some _ e)) un2 ok2 o2 b2 ea ed hd1
  exact ⟨hp.objs.size + 1, _, _, ⟨Gh, g2, d2, t2, os2⟩, _, .ref C, some d, rfl, J2, kG, ge, hoe, ⟨rfl, rfl, fun vs hv => by cases hv; rfl⟩, rfl, rfl, na, rfl, b2, raises_own T.exC T.tyC, hq⟩
end
/-! ### raise, by the classes' tables -/
section
variable {X : Cx} {W : WX} {nm f g : Str} {C fI : Addr} {fdI : FuncData} {e : Expr} {es : List Expr} {ta tk : TA} {p pos pos2 : Pos} {k : Nat} {kws : List Keyword} {ps ks : List Str} {o : {α : Type} → List α → List α → List α} {sp : Sp}
/-- raise C(e, ..), one field or two -/
theorem ps_raiseA (hc : X.calm = true) (tk : L2N.Takes X W) (T : OexC X.K C) (i : PySem.W.findIn X.K (.ref C) "__init__" = some (some (.ref fI))) (ti : PySem.W.typeIn X.K (.ref fI) = some (.type "function"))
    (F1 : FnOk X.prog X.w X.K X.mg X.base (L2N.CX X.prog X.w) k fI fdI ps sp) (hr : Room (k + 1) X.A) (hb : Binds X.K fdI ps []) (hg : Gl X nm) (hm : X.mg nm = some (.ref C)) (ha : PA X (e :: es) ta) (hdb : (nm == ("__debug__" : Str)) = false := by decide)
    (he : starEach (e :: es) X.env = (false, eval e X.env) :: starEach es X.env := by rfl) (hpl : (backTo pos (starEach es X.env)).any (·.1) = false := by rfl) :
    PS X (.Raise (some (.Call (.Name nm p) (e :: es) [] pos)) none pos2) (tRaiseO C sp W ta) :=
  L2N.ps_raise hc tk (pmk_newN T i ti F1 hr hb passE hg hm ha hdb he hpl)
theorem ps_raiseK0 (hc : X.calm = true) (tt : L2N.Takes X W) (T : OexC X.K C) (i : PySem.W.findIn X.K (.ref C) "__init__" = some (some (.ref fI))) (ti : PySem.W.typeIn X.K (.ref fI) = some (.type "function"))
    (F1 : FnOk X.prog X.w X.K X.mg X.base (L2N.CX X.prog X.w) k fI fdI ps sp) (hr : Room (k + 1) X.A) (hb : KwI X.K fdI ps ks o) (hg : Gl X nm) (hm : X.mg nm = some (.ref C)) (hk : PK X kws tk)
    (hall : (backToKw pos (keywordEach kws X.env)).all (·.1.isSome) = true := by rfl) (hks : (backToKw pos (keywordEach kws X.env)).filterMap (·.1) = ks := by rfl)
    (hdb : (nm == ("__debug__" : Str)) = false := by decide) (hpl : ((backTo pos (starEach [] X.env)).any (·.1) || (backToKw pos (keywordEach kws X.env)).any (·.1.isNone)) = false := by rfl) :
    PS X (.Raise (some (.Call (.Name nm p) [] kws pos)) none pos2) (tRaiseK C sp o ks.length W tNil tk) :=
  L2N.ps_raise hc tt (pmk_newK0 T i ti F1 hr hb passE hg hm hk hall hks hdb hpl)
end
end DL
namespace DL
open PySem PySem.Spec PyProof.Rows L2
section
variable {K : PySem.W.Frag} {ms : Ms} {P : Dat → Ms → Prop}
theorem intsRep2 {W : Wd} : ∀ {vs : List V} {is : List Int}, RepL K W vs (is.map Dat.int) → vs = is.map V.int
  | _, [], h => by cases h; rfl
  | _, i :: is, h => by cases h with | cons a b => cases a; rw [intsRep2 b]; rfl
/-- an int in a list of ints -/
theorem d2_inIs {i : Int} {is : List Int} {x : Dat} (s : SeqV ms x (is.map Dat.int)) (q : P (.bl (is.contains i)) ms) : D2 K (rInA K) (.int i) x ms P := fun W G H v w Q gd rx ry k => by
  cases rx
  obtain ⟨a, vs, rfl, hq, rl⟩ := seq_rep gd ry s
  rw [intsRep2 rl] at hq
  refine .inr ⟨a, _, rfl, hq, rfl, ?_, ?_⟩
  · rw [List.all_map]; exact List.all_eq_true.mpr fun _ _ => rfl
  · rw [if_neg Bool.false_ne_true]
    have e : inV (V.int i) (is.map V.int) = is.contains i := by
      unfold inV
      rw [List.any_map, List.contains_eq_any_beq]
      congr 1
      funext j
      show (j == i) = (i == j)
      exact Bool.beq_comm
    rw [e]
    exact k W _ _ H ms (Le.refl W) gd (.bl _) q
/-! ### != of lists and dicts that hold the same -/
def rNeB (K : PySem.W.Frag) : R2 := fun x y H Q => rNeA K x y H Q ∨ (rNeDA x y H Q ∨ rNeL K x y H Q)
theorem op_neB {X : Cx} (hu : X.A.units + 64 < cLine) : OpR X (compareOp .NotEq) (rNeB X.K) := orR (op_neA hu) (orR (op_ne_dictA (by omega)) (op_neL hu))
/-- what a value holds: a list's items, a dict's entries -/
def HasL (ms : Ms) (x : Dat) (xs : List Dat) : Prop := x = .lst xs ∨ ∃ k, x = .cell k ∧ ms[k]? = some (.lst xs)
def HasD (ms : Ms) (x : Dat) (xs : List (Key × Dat)) : Prop := x = .dct xs ∨ ∃ k, x = .cell k ∧ ms[k]? = some (.dct xs)
mutual
/-- equal in depth n -/
inductive EqD (ms : Ms) : Nat → Dat → Dat → Prop
  | int {n : Nat} (i : Int) : EqD ms (n + 1) (.int i) (.int i)
  | str {n : Nat} (z : Str) : EqD ms (n + 1) (.str z) (.str z)
  | lst {n : Nat} {x y : Dat} {xs ys : List Dat} : HasL ms x xs → HasL ms y ys → EqDs ms n xs ys → EqD ms (n + 1) x y
  | dct {n : Nat} {x y : Dat} {xs ys : List (Key × Dat)} : HasD ms x xs → HasD ms y ys → (xs.map (·.1)).Nodup → EqDk ms n xs ys → EqD ms (n + 1) x y
inductive EqDs (ms : Ms) : Nat → List Dat → List Dat → Prop
  | nil {n : Nat} : EqDs ms n [] []
  | cons {n : Nat} {x y : Dat} {xs ys : List Dat} : EqD ms n x y → EqDs ms n xs ys → EqDs ms n (x :: xs) (y :: ys)
inductive EqDk (ms : Ms) : Nat → List (Key × Dat) → List (Key × Dat) → Prop
  | nil {n : Nat} : EqDk ms n [] []
  | cons {n : Nat} {k : Key} {x y : Dat} {xs ys : List (Key × Dat)} : EqD ms n x y → EqDk ms n xs ys → EqDk ms n ((k, x) :: xs) ((k, y) :: ys)
end
theorem hasL_rep {W : Wd} {G H : Hp} {v : V} {x : Dat} {xs : List Dat} (g : Good K W G H ms) (r : Rep K W v x) (s : HasL ms x xs) : ∃ a vs, v = .ref a ∧ SqL K H a vs ∧ RepL K W vs xs := by
  rcases s with s | ⟨k, s, e⟩ <;> subst s
  · cases r with | lst e r => exact ⟨_, _, rfl, .inl (.inl (g.fz _ _ e)), r⟩
  · cases r with
    | cell e2 =>
      obtain ⟨vs, h1, h2⟩ := (show MoOk K W H _ (.lst xs) from g.cl _ _ _ e2 e)
      exact ⟨_, vs, rfl, SqL.of h1, h2⟩
theorem hasD_rep {W : Wd} {G H : Hp} {v : V} {x : Dat} {xs : List (Key × Dat)} (g : Good K W G H ms) (r : Rep K W v x) (s : HasD ms x xs) : ∃ a vs, v = .ref a ∧ H a = some (.dK vs) ∧ RepK K W vs xs := by
  rcases s with s | ⟨k, s, e⟩ <;> subst s
  · cases r with | dct e r => exact ⟨_, _, rfl, g.fz _ _ e, r⟩
  · cases r with
    | cell e2 =>
      obtain ⟨vs, h1, h2⟩ := (show MoOk K W H _ (.dct xs) from g.cl _ _ _ e2 e)
      exact ⟨_, vs, rfl, h1, h2⟩
theorem repK_keys {W : Wd} : ∀ {vs : List (Key × V)} {ds : List (Key × Dat)}, RepK K W vs ds → vs.map (·.1) = ds.map (·.1)
  | _, [], h => by cases h; rfl
  | _, (k, d) :: ds, h => by cases h with | cons a b => rw [List.map_cons, List.map_cons, repK_keys b]
theorem eqDk_keys : ∀ {n : Nat} {xs ys : List (Key × Dat)}, EqDk ms n xs ys → xs.map (·.1) = ys.map (·.1)
  | _, [], _, h => by cases h; rfl
  | _, (k, d) :: xs, _, h => by cases h with | cons a b => rw [List.map_cons, List.map_cons, eqDk_keys b]
/-- two tables of the same keys, their values related by place -/
theorem vals_at {E : V → V → Prop} : ∀ {ks ls : List (Key × V)}, ks.map (·.1) = ls.map (·.1) → (ks.map (·.1)).Nodup → Paired E (ks.map (·.2)) (ls.map (·.2)) → ∀ p ∈ ks, ∃ u, valV ls p.1 = some u ∧ E p.2 u
  | [], _, _, _, _, p, hp => nomatch hp
  | (k, x) :: ks, [], h, _, _, _, _ => by simp at h
  | (k, x) :: ks, (l, y) :: ls, h, nd, pr, p, hp => by
    rw [List.map_cons, List.map_cons] at h pr
    injection h with h1 h2
    have h1 : k = l := h1
    subst h1
    rw [List.map_cons, List.nodup_cons] at nd
    cases pr with
    | cons a b =>
      rcases List.mem_cons.mp hp with z | z
      · subst z
        exact ⟨y, valV_pos rfl, a⟩
      · obtain ⟨u, h3, h4⟩ := vals_at h2 nd.2 b p z
        refine ⟨u, ?_, h4⟩
        rw [valV_neg]
        · exact h3
        · exact fun z2 => nd.1 (by show k ∈ _; rw [show k = p.1 from z2]; exact List.mem_map_of_mem z)
mutual
theorem eqd_run {W : Wd} {G H : Hp} (g : Good K W G H ms) : ∀ {n : Nat} {x y : Dat} {v w : V}, EqD ms n x y → Rep K W v x → Rep K W w y → EqV K H n v w
  | _, _, _, _, _, .int i, r, r' => by cases r; cases r'; exact .inl ⟨rfl, rfl⟩
  | _, _, _, _, _, .str i, r, r' => by cases r; cases r'; exact .inl ⟨rfl, rfl⟩
  | _, _, _, _, _, .lst a b h, r, r' => by
    obtain ⟨p, vs, rfl, h1, h2⟩ := hasL_rep g r a
    obtain ⟨p', vs', rfl, h1', h2'⟩ := hasL_rep g r' b
    exact .inr (.inr (.inl ⟨p, p', vs, vs', rfl, rfl, h1, h1', eqds_run g h h2 h2'⟩))
  | _, _, _, _, _, .dct a b nd h, r, r' => by
    obtain ⟨p, vs, rfl, h1, h2⟩ := hasD_rep g r a
    obtain ⟨p', vs', rfl, h1', h2'⟩ := hasD_rep g r' b
    have e : vs.map (·.1) = vs'.map (·.1) := by rw [repK_keys h2, repK_keys h2', eqDk_keys h]
    refine .inr (.inr (.inr ⟨p, p', vs, vs', rfl, rfl, h1, h1', ?_, vals_at e (by rw [repK_keys h2]; exact nd) (eqdk_run g h h2 h2')⟩))
    have := congrArg List.length e
    simpa using this
theorem eqds_run {W : Wd} {G H : Hp} (g : Good K W G H ms) : ∀ {n : Nat} {xs ys : List Dat} {vs ws : List V}, EqDs ms n xs ys → RepL K W vs xs → RepL K W ws ys → Paired (EqV K H n) vs ws
  | _, _, _, _, _, .nil, r, r' => by cases r; cases r'; exact .nil
  | _, _, _, _, _, .cons a b, r, r' => by cases r with | cons r1 r2 => cases r' with | cons s1 s2 => exact .cons (eqd_run g a r1 s1) (eqds_run g b r2 s2)
theorem eqdk_run {W : Wd} {G H : Hp} (g : Good K W G H ms) : ∀ {n : Nat} {xs ys : List (Key × Dat)} {vs ws : List (Key × V)}, EqDk ms n xs ys → RepK K W vs xs → RepK K W ws ys → Paired (EqV K H n) (vs.map (·.2)) (ws.map (·.2))
  | _, _, _, _, _, .nil, r, r' => by cases r; cases r'; exact .nil
  | _, _, _, _, _, .cons a b, r, r' => by cases r with | cons r1 r2 => cases r' with | cons s1 s2 => exact .cons (eqd_run g a r1 s1) (eqdk_run g b r2 s2)
end
/-- two lists of equal items -/
theorem d2_neL {n : Nat} {x y : Dat} {xs ys : List Dat} (hn : n ≤ 60) (hx : HasL ms x xs) (hy : HasL ms y ys) (h : EqDs ms n xs ys) (q : P (.bl false) ms) : D2 K (rNeB K) x y ms P := fun W G H v w Q gd rx ry k => by
  obtain ⟨p, vs, rfl, h1, h2⟩ := hasL_rep gd rx hx
  obtain ⟨p', vs', rfl, h1', h2'⟩ := hasL_rep gd ry hy
  exact .inr (.inr ⟨n, p, p', vs, vs', hn, rfl, rfl, h1, h1', eqds_run gd h h2 h2', k W _ _ H ms (Le.refl W) gd (.bl _) q⟩)
/-- two dicts of equal plain values -/
theorem d2_neK {x y : Dat} {xs ys : List (Key × Dat)} (hx : HasD ms x xs) (hy : HasD ms y ys) (nd : (xs.map (·.1)).Nodup) (h : xs = ys) (hf : ∀ p ∈ xs, (∃ i, p.2 = .int i) ∨ ∃ z, p.2 = .str z) (q : P (.bl false) ms) : D2 K (rNeB K) x y ms P := fun W G H v w Q gd rx ry k => by
  subst h
  obtain ⟨p, vs, rfl, h1, h2⟩ := hasD_rep gd rx hx
  obtain ⟨p', vs', rfl, h1', h2'⟩ := hasD_rep gd ry hy
  have same : ∀ {xs : List (Key × Dat)} {vs vs' : List (Key × V)}, RepK K W vs xs → RepK K W vs' xs → (∀ p ∈ xs, (∃ i, p.2 = .int i) ∨ ∃ z, p.2 = .str z) → vs = vs' ∧ ∀ p ∈ vs, flatB p.2 = true := by
    intro xs
    induction xs with
    | nil => intro vs vs' a b _; cases a; cases b; exact ⟨rfl, fun _ h => nomatch h⟩
    | cons x xs ih =>
      intro vs vs' a b hf
      cases a with
      | cons a1 a2 => cases b with
        | cons b1 b2 =>
          obtain ⟨e, f⟩ := ih a2 b2 fun p hp => hf p (List.mem_cons_of_mem _ hp)
          subst e
          rcases hf _ List.mem_cons_self with ⟨i, hi⟩ | ⟨z, hz⟩
          · simp only at hi
            subst hi
            cases a1; cases b1
            exact ⟨rfl, fun p hp => by rcases List.mem_cons.mp hp with z | z; subst z; rfl; exact f p z⟩
          · simp only at hz
            subst hz
            cases a1; cases b1
            exact ⟨rfl, fun p hp => by rcases List.mem_cons.mp hp with z | z; subst z; rfl; exact f p z⟩
  obtain ⟨e, f⟩ := same h2 h2' hf
  subst e
  refine .inr (.inl ⟨p, p', vs, vs, rfl, rfl, h1, h1', rfl, fun e he => ⟨?_, f e he⟩, k W _ _ H ms (Le.refl W) gd (.bl _) q⟩)
  have pr : Paired (fun a b : V => a = b) (vs.map (·.2)) (vs.map (·.2)) := by
    generalize vs.map (·.2) = l
    induction l with
    | nil => exact .nil
    | cons a l ih => exact .cons rfl ih
  obtain ⟨u, h3, h4⟩ := vals_at (E := fun a b => a = b) rfl (by rw [repK_keys h2]; exact nd) pr e he
  rw [h4]; exact h3
/-! ### a dict that changes -/
theorem Good.toM {W : Wd} {G H : Hp} {p : Addr} {o : HO} {m : MO} (g : Good K W (upd G p o) H ms) (n : G p = none) (hm : MoOk K W H p m) : Good K ⟨W.ι ++ [p], W.F⟩ G H (ms ++ [m]) ∧ Le W ⟨W.ι ++ [p], W.F⟩ := by
  have nf : W.F p = none := g.gF p _ upd_same
  have np : p ∉ W.ι := fun h => by
    have := g.nG p h
    rw [upd_same] at this; cases this
  have l : Le W ⟨W.ι ++ [p], W.F⟩ := ⟨List.prefix_append _ _, Same.refl _⟩
  refine ⟨⟨g.fz, (same_new n).trans g.gd, by simp [g.ln], ?_, fun a h => ?_, fun a h => ?_, fun a v e => g.gF a v (by rw [upd_ne (ne_of_none e n)]; exact e), fun k a m' h1 h2 => ?_⟩, l⟩
  · show (W.ι ++ [p]).Nodup
    refine List.nodup_append.mpr ⟨g.nd, by simp, fun a ha b hb z => ?_⟩
    have : b = p := by simpa using hb
    subst this; subst z
    exact np ha
  · rcases List.mem_append.mp (show a ∈ W.ι ++ [p] from h) with h | h
    · exact g.nF a h
    · have : a = p := by simpa using h
      subst this
      exact nf
  · rcases List.mem_append.mp (show a ∈ W.ι ++ [p] from h) with h | h
    · have := g.nG a h
      rw [upd_ne (show a ≠ p from fun z => np (by rw [← z]; exact h))] at this
      exact this
    · have : a = p := by simpa using h
      subst this
      exact n
  · by_cases hk : k < W.ι.length
    · have h1' : W.ι[k]? = some a := by rw [← h1]; exact (List.getElem?_append_left hk).symm
      have h2' : ms[k]? = some m' := by rw [← h2]; exact (List.getElem?_append_left (by rw [← g.ln]; exact hk)).symm
      exact (g.cl k a m' h1' h2').mono l fun u e => e
    · have e1 : (W.ι ++ [p])[k]? = some a := h1
      rw [List.getElem?_append_right (by omega)] at e1
      rw [List.getElem?_append_right (by rw [← g.ln]; omega), ← g.ln] at h2
      have hk0 : k - W.ι.length = 0 := by
        cases q : k - W.ι.length with
        | zero => rfl
        | succ j => rw [q] at e1; simp at e1
      rw [hk0] at e1 h2
      cases e1; cases h2
      exact hm.mono l fun u e => e
section
variable {R : WX} {e : Ev} {X : XP} {ta ti tk tv : TE}
theorem de_disp1C (h : DE K R tk e ms (fun a m => ∃ z, a = .str z ∧ DE K R tv e m (fun b m2 => P (.cell m2.length) (m2 ++ [.dct [(.inr z, b)]])) X) X) : DE K R (tDisp [(tk, tv)]) e ms P X := fun W G σ H Q g s k x p hp => by
  have g1 := g.hold (o := .dK []) hp
  have gp : G p = none := g.gd.free hp
  refine h W (upd G p (.dK [])) σ (upd H p (.dK [])) _ g1 s (fun W1 v d H1 m1 l1 g2 r1 ⟨z, hz, h1⟩ => ?_) ?_
  · subst hz
    cases r1
    refine h1 W1 _ σ H1 _ g2 (s.mono l1) (fun W2 u d H2 m2 l2 g3 r2 q => ?_) ?_
    · refine ⟨g3.gd p _ upd_same, [(.inr z, u)], rfl, Nat.le_add_left 1 14, ?_⟩
      have g4 := g3.held (.dK [(.inr z, u)])
      obtain ⟨g5, l5⟩ := g4.toM (m := .dct [(.inr z, d)]) gp ⟨_, upd_same, .cons r2 .nil⟩
      exact k _ _ _ _ _ (l1.trans (l2.trans l5)) g5 (.cell (by show (W2.ι ++ [p])[m2.length]? = some p; rw [← g3.ln]; simp)) q
    · intro W' C dd fs ds H' ms' l' g' f r xx
      exact x W' C dd fs ds H' ms' (l1.trans l') (g'.weakG (same_new gp)) f r xx
  · intro W' C dd fs ds H' ms' l' g' f r xx
    exact x W' C dd fs ds H' ms' l' (g'.weakG (same_new gp)) f r xx
/-- {k: v, l: w} as a value -/
theorem de_disp2 {tk2 tv2 : TE} (h : DE K R tk e ms (fun a m => ∃ z, a = .str z ∧ DE K R tv e m (fun b m2 => DE K R tk2 e m2 (fun a2 m3 => ∃ z2, a2 = .str z2 ∧ z2 ≠ z ∧ DE K R tv2 e m3 (fun b2 m4 => P (.dct [(.inr z, b), (.inr z2, b2)]) m4) X) X) X) X) : DE K R (tDisp [(tk, tv), (tk2, tv2)]) e ms P X := fun W G σ H Q g s k x p hp => by
  have g1 := g.hold (o := .dK []) hp
  have gp : G p = none := g.gd.free hp
  have xx : ExC K W (upd G p (.dK [])) X (fun c d H' => R c d σ H') := by
    intro W' C dd fs ds H' ms' l' g' f r xx
    exact x W' C dd fs ds H' ms' l' (g'.weakG (same_new gp)) f r xx
  refine h W (upd G p (.dK [])) σ (upd H p (.dK [])) _ g1 s (fun W1 v d H1 m1 l1 g2 r1 ⟨z, hz, h1⟩ => ?_) xx
  subst hz
  cases r1
  refine h1 W1 _ σ H1 _ g2 (s.mono l1) (fun W2 u d H2 m2 l2 g3 r2 h2 => ?_) (xx.le l1)
  refine h2 W2 _ σ _ _ g3 (s.mono (l1.trans l2)) (fun W3 v3 d3 H3 m3 l3 g5 r3 ⟨z2, hz2, hne, h3⟩ => ?_) (xx.le (l1.trans l2))
  subst hz2
  cases r3
  refine h3 W3 _ σ H3 _ g5 (s.mono (l1.trans (l2.trans l3))) (fun W5 u5 d5 H5 m5 l5 g7 r5 q => ?_) (xx.le (l1.trans (l2.trans l3)))
  refine ⟨g7.gd p _ upd_same, [(.inr z, u), (.inr z2, u5)], rfl, Nat.le_add_left 2 13, ?_⟩
  have em : mergeK [] [((.inr z : Key), u), (.inr z2, u5)] = [(.inr z, u), (.inr z2, u5)] := by
    have h : ¬ ((Sum.inr z : Key) = .inr z2) := fun e => hne (Sum.inr.inj e).symm
    simp [mergeK, putK, h]
  rw [em]
  have g8 := g7.held (.dK [(.inr z, u), (.inr z2, u5)])
  obtain ⟨g9, l9⟩ := g8.frozen gp
  exact k _ _ _ _ _ (l1.trans (l2.trans (l3.trans (l5.trans l9)))) g9 (.dct upd_same (.cons (Rep.mono (l3.trans (l5.trans l9)) _ _ r2) (.cons (Rep.mono l9 _ _ r5) .nil))) q
/-- o[k] = d of a dict that changes, a new key -/
def PutTo (ms : Ms) (k : Nat) (i d : Dat) (Q : Ms → Prop) : Prop := ∃ z xs, i = .str z ∧ ms[k]? = some (.dct xs) ∧ (Sum.inr z : Key) ∉ xs.map (·.1) ∧ xs.length < 1000000 ∧ Q (ms.set k (.dct (xs ++ [(.inr z, d)])))
theorem repK_app {W : Wd} : ∀ {vs ws : List (Key × V)} {ds es : List (Key × Dat)}, RepK K W vs ds → RepK K W ws es → RepK K W (vs ++ ws) (ds ++ es)
  | _, _, [], _, h, r => by cases h; exact r
  | _, _, (_, d) :: ds, _, h, r => by cases h with | cons a b => exact .cons a (repK_app b r)
theorem repK_len {W : Wd} {vs : List (Key × V)} {ds : List (Key × Dat)} (h : RepK K W vs ds) : vs.length = ds.length := by
  have := congrArg List.length (repK_keys h)
  simpa using this
theorem dg_put {d : Dat} {vs : List Nat} {PE : Ev → Ms → Prop} (h : DE K (fun _ _ _ _ => False) ta e ms (fun o m => ∃ k, o = .cell k ∧ DE K (fun _ _ _ _ => False) ti e m (fun i m2 => PutTo m2 k i d (PE e)) (fun _ _ _ => False)) (fun _ _ _ => False)) :
    DG K (gSub ta ti rSetD) d e ms vs PE := fun W G σ H v Q g s r k => by
  refine h W G σ H _ g s (fun W1 o do' H1 m1 l1 g1 r1 ⟨kk, hk, h1⟩ => ?_) (fun _ _ _ _ _ _ _ _ _ _ _ z => z.elim)
  subst hk
  refine h1 W1 G σ H1 _ g1 (s.mono l1) (fun W2 i di H2 m2 l2 g2 r2 ⟨z, xs, hz, hm, hj, hlen, q⟩ => ?_) (fun _ _ _ _ _ _ _ _ _ _ _ z => z.elim)
  subst hz
  cases r2
  have rc := Rep.mono l2 _ _ r1
  cases rc with
  | cell e2 =>
    obtain ⟨us, e3, rl⟩ := (show MoOk K W2 H2 _ (.dct xs) from g2.cl _ _ _ e2 hm)
    have ek : putK us (.inr z : Key) v = us ++ [(.inr z, v)] := by
      unfold putK
      rw [if_neg]
      intro hh
      obtain ⟨p, hp, hp2⟩ := List.any_eq_true.mp hh
      refine hj ?_
      rw [← repK_keys rl]
      exact List.mem_map.mpr ⟨p, hp, by simpa using hp2⟩
    refine ⟨_, _, rfl, DPut.k (k := (.inr z : Key)) (v := v) e3 (by rw [repK_len rl]; exact Nat.lt_of_lt_of_le hlen (by decide)), ?_⟩
    rw [ek]
    refine k W2 σ e _ _ (l1.trans l2) (g2.setC e2 (o := .dK (us ++ [(.inr z, v)])) (m := .dct (xs ++ [(.inr z, d)])) ⟨_, upd_same, repK_app rl (.cons (Rep.mono (l1.trans l2) _ _ r) .nil)⟩) (s.mono (l1.trans l2)) ⟨rfl, fun _ _ => rfl⟩ q
end
end
end DL
namespace DL
open PySem PySem.Spec PyProof.Rows L2
/-! ### repr of a dict of plain values (no dict among them) -/
theorem kv_two {prog : Program} {w : World} {h : Heap} : ∀ {kvs : List (Str × V)} {rs : List (Key × Value)} {es : List DictEntry}, KV (kvs.map fun p => ((.inr p.1 : Key), p.2)) rs → Pairs (mixKind prog w) es rs →
    ReadsAll h (es.map (·.key)) (kvs.map fun p => PyData.str p.1) [] ∧ Vals (kvs.map (·.2)) (es.map (·.val))
  | [], _, _, r, q => by cases r; cases q; exact ⟨.nil, .nil⟩
  | p :: kvs, _, _, r, q => by
    cases r with
    | cons r1 r2 =>
      cases q with
      | cons q1 q2 q3 =>
        obtain ⟨i1, i2⟩ := kv_two r2 q3
        obtain ⟨e1, e2⟩ := r1
        rw [← e1] at q1
        have q1' : keyIs (.inr p.1) _ = true := q1
        rcases keyIs_shape q1' with ⟨i, t, z, _⟩ | ⟨y, t, z, ez⟩
        · cases z
        · cases z
          refine ⟨?_, ?_⟩
          · rw [List.map_cons, List.map_cons, ez]; exact ReadsAll.cons (as := []) (.str _ _) i1
          · rw [List.map_cons, List.map_cons, q2]; exact .cons e2 i2
def strsD (ks : List Str) : List PyData := ks.map PyData.str
theorem strs_show : ∀ ks : List Str, PyData.showableAll (strsD ks) = true ∧ PyData.hasDictAll (strsD ks) = false ∧ PyData.depthAll (strsD ks) = 0
  | [] => ⟨rfl, rfl, rfl⟩
  | k :: ks => by
    obtain ⟨a, b, c⟩ := strs_show ks
    refine ⟨?_, ?_, ?_⟩
    · show (true && PyData.showableAll (strsD ks)) = true; rw [a]; rfl
    · show (false || PyData.hasDictAll (strsD ks)) = false; rw [b]; rfl
    · show max 0 (PyData.depthAll (strsD ks)) = 0; rw [c]; rfl
theorem kv_depth : ∀ kvs : List (PyData × PyData), PyData.depthKv kvs ≤ max (PyData.depthAll (kvs.map (·.1))) (PyData.depthAll (kvs.map (·.2)))
  | [] => by simp [PyData.depthKv]
  | p :: kvs => by
    have := kv_depth kvs
    simp only [List.map_cons, PyData.depthKv, PyData.depthAll]
    omega
section
variable {prog : Program} {w : World} {h0 : Heap} {a : Addr}
theorem shows_dict1 {o : Obj} {es : Array DictEntry} {n : Nat} {kvs : List (PyData × PyData)} {as1 bs1 : List Addr} (h1 : h0.get? a = some o) (h2 : o.cls = .type "dict") (h3 : o.data = .dict es n)
    (h4 : ReadsAll h0 (es.toList.map (·.key)) (kvs.map (·.1)) as1) (h5 : ReadsAll h0 (es.toList.map (·.val)) (kvs.map (·.2)) bs1) (s1 : PyData.showableAll (kvs.map (·.1)) = true) (s2 : PyData.showableAll (kvs.map (·.2)) = true)
    (d1 : PyData.hasDictAll (kvs.map (·.1)) = false) (d2 : PyData.hasDictAll (kvs.map (·.2)) = false) (hy : (a == sysModules) = false) (hz : (dictText (PyData.shownKv kvs)).length ≤ sizeLine) :
    ShowsBy prog w h0 a (.dict kvs) "dict" "dict.__repr__" := by
  have no : ∀ {b : Bool} {P : Prop}, b = false → b = true → P := fun e z => by rw [e] at z; cases z
  obtain ⟨c1, m1, k1⟩ := ReprAllK.of_readsAll (prog := prog) (w := w) h4 s1 (fun z => no d1 z) fun t ht => by
    obtain ⟨p, hp, hl⟩ := PyData.shownKv_key_le kvs t ht
    exact Nat.le_trans hl (Nat.le_trans (dictText_mem_le hp) hz)
  obtain ⟨c2, m2, k2⟩ := ReprAllK.of_readsAll (prog := prog) (w := w) h5 s2 (fun z => no d2 z) fun t ht => by
    obtain ⟨p, hp, hl⟩ := PyData.shownKv_val_le kvs t ht
    exact Nat.le_trans hl (Nat.le_trans (dictText_mem_le hp) hz)
  have mm : ReadAtMost h0 (PyData.depthKv kvs) (c1 ++ c2) := (m1.mono (PyData.depthAll_keys_le kvs)).append (m2.mono (PyData.depthAll_vals_le kvs))
  have nin : a ∉ c1 ++ c2 := not_mem_of_deeper (.dict h1 h2 h3 h4 h5) (by simp only [PyData.depth]; omega) mm
  refine ⟨F.slot_dict_repr, F.slot_dict_str, F.slot_dict_format, fun s hk => ⟨o, hk _ _ h1, h2⟩, fun A E s Q hg hu hk hQ => ?_⟩
  simp only [PyData.depth] at hu
  simp only [PyData.shown, PyData.shownKv_eq] at hQ
  have kk := ReprEntriesK.of_two es.toList _ _ (k1.more_le (fun b hb => List.mem_append_left c2 hb) (PyData.depthAll_keys_le kvs)) (k2.more_le (fun b hb => List.mem_append_right c1 hb) (PyData.depthAll_vals_le kvs))
  exact call_dict_reprK h1 h2 h3 hy nin kk hg (fun b _ => Clear.nil b) hu hk hQ (by rw [← PyData.shownKv_eq]; exact hz)
end
/-- a dict's plain data -/
def dictD (ks : List Str) (ps : List PyData) : PyData := .dict ((strsD ks).zip ps)
def rReprK (K : PySem.W.Frag) : List V → Hp → VK → Prop := fun xs H Q => ∃ (a : Addr) (kvs : List (Str × V)) (ps : List PyData), xs = [.ref a] ∧ H a = some (.dK (kvs.map fun p => (.inr p.1, p.2))) ∧ DpAll K H (kvs.map (·.2)) ps ∧
  PyData.showableAll ps = true ∧ PyData.hasDictAll ps = false ∧ PyData.depthAll ps ≤ 40 ∧ (dictD (kvs.map (·.1)) ps).shown.length ≤ sizeLine ∧ Q (.str (dictD (kvs.map (·.1)) ps).shown) H
def rReprX (K : PySem.W.Frag) : List V → Hp → VK → Prop := fun xs H Q => rRepr K xs H Q ∨ rReprK K xs H Q
section
variable {Xc : Cx}
theorem dpAll_len {K : PySem.W.Frag} {H : Hp} : ∀ {vs : List V} {ps : List PyData}, DpAll K H vs ps → vs.length = ps.length
  | _, [], h => by cases h; rfl
  | _, p :: ps, h => by cases h with | cons a b => simp [dpAll_len b]
theorem call_reprK (hq : Quiet Xc.A) (hu : Xc.A.units + 64 < cLine) : CallR Xc (.builtin "repr") (rReprK Xc.K) := by
  rintro pins s σ H xs us Q I r ⟨a, kvs, ps, rfl, hH, hd, hs, hn, dp, hl, q⟩
  cases r with
  | cons r1 rr =>
    cases rr; cases r1
    obtain ⟨_, hsys, vs, hkv, o, es, ep, h1, h2, h3, _, h5, _⟩ := dk_of I.hok hH
    obtain ⟨q1, q2⟩ := kv_two (h := s.heap) hkv h5
    obtain ⟨bs, rd⟩ := Dp.readsAll I ps _ _ hd q2
    have hlen : (kvs.map (·.1)).length = ps.length := by rw [← dpAll_len hd]; simp
    have e1 : ((strsD (kvs.map (·.1))).zip ps).map (·.1) = strsD (kvs.map (·.1)) := by
      rw [List.map_fst_zip]; unfold strsD; rw [List.length_map]; omega
    have e2 : ((strsD (kvs.map (·.1))).zip ps).map (·.2) = ps := by
      rw [List.map_snd_zip]; unfold strsD; rw [List.length_map]; omega
    obtain ⟨t1, t2, t3⟩ := strs_show (kvs.map (·.1))
    have q1' : ReadsAll s.heap (es.toList.map (·.key)) (strsD (kvs.map (·.1))) [] := by unfold strsD; rw [List.map_map]; exact q1
    have S : ShowsBy Xc.prog Xc.w s.heap a (dictD (kvs.map (·.1)) ps) "dict" "dict.__repr__" :=
      shows_dict1 h1 h2.1 h3 (by rw [e1]; exact q1') (by rw [e2]; exact rd) (by rw [e1]; exact t1) (by rw [e2]; exact hs) (by rw [e1]; exact t2) (by rw [e2]; exact hn) hsys (by simpa only [dictD, PyData.shown] using hl)
    have dd : (dictD (kvs.map (·.1)) ps).depth ≤ 41 := by
      have := kv_depth ((strsD (kvs.map (·.1))).zip ps)
      rw [e1, e2, t3] at this
      simp only [dictD, PyData.depth]
      omega
    refine call_repr_slot (by omega) (S.typeIs s fun _ _ e => e) S.slotRepr (S.call Xc.A.in1 _ s _ hq.g (by show Xc.A.units + 1 + _ < cLine; omega) (fun _ _ e => e) fun h' u tk hk => ⟨_, _, rfl, ?_⟩)
    exact ⟨.str _, H, I.kept (t' := tk) hk, ⟨u, rfl⟩, q⟩
theorem call_reprX (hq : Quiet Xc.A) (hu : Xc.A.units + 64 < cLine) : CallR Xc (.builtin "repr") (rReprX Xc.K) := orC (call_repr hq hu) (call_reprK hq hu)
end
section
variable {K : PySem.W.Frag} {ms : Ms} {P : Dat → Ms → Prop} {a D dd C : Addr} {fs : List (Str × Dat)} {b : Bool}
theorem dr_reprX {d : Dat} {p : PyData} (h : PyV ms d p) (s : Shows p) (q : P (.str p.shown) ms) : DR K (rReprX K) [d] ms P := fun W G H vs Q g r k => .inl (dr_repr h s q W G H vs Q g r k)
/-- a dict whose items are plain -/
inductive PyK : List (Key × Dat) → List Str → List PyData → Prop
  | nil : PyK [] [] []
  | cons {z : Str} {d : Dat} {p : PyData} {xs : List (Key × Dat)} {ks : List Str} {ps : List PyData} : PyD d p → PyK xs ks ps → PyK ((.inr z, d) :: xs) (z :: ks) (p :: ps)
theorem pyK_rep {W : Wd} {H : Hp} (s : Same W.F H) : ∀ {xs : List (Key × Dat)} {ks : List Str} {ps : List PyData} {vs : List (Key × V)}, PyK xs ks ps → RepK K W vs xs → ∃ kvs : List (Str × V), vs = kvs.map (fun p => (.inr p.1, p.2)) ∧ kvs.map (·.1) = ks ∧ DpAll K H (kvs.map (·.2)) ps
  | _, _, _, _, .nil, r => by cases r; exact ⟨[], rfl, rfl, .nil⟩
  | _, _, _, _, .cons a b, r => by
    cases r with
    | cons r1 r2 =>
      obtain ⟨kvs, e1, e2, e3⟩ := pyK_rep s b r2
      exact ⟨(_, _) :: kvs, by rw [e1]; rfl, by rw [List.map_cons, e2], .cons (dp_of s a _ r1) e3⟩
theorem dr_reprKx {xs : List (Key × Dat)} {ks : List Str} {ps : List PyData} (h : PyK xs ks ps) (s : (PyData.showableAll ps && !PyData.hasDictAll ps && decide (PyData.depthAll ps ≤ 40) && decide ((dictD ks ps).shown.length ≤ 1000000)) = true) (q : P (.str (dictD ks ps).shown) ms) : DR K (rReprX K) [.dct xs] ms P := fun W G H vs Q g r k => by
  simp only [Bool.and_eq_true, Bool.not_eq_true', decide_eq_true_eq] at s
  obtain ⟨⟨⟨s1, s2⟩, s3⟩, s4⟩ := s
  cases r with
  | cons r1 rr =>
    cases rr
    cases r1 with
    | dct e r2 =>
      obtain ⟨kvs, e1, e2, e3⟩ := pyK_rep g.fz h r2
      rw [e1] at e
      refine .inr ⟨_, kvs, ps, rfl, g.fz _ _ e, e3, s1, s2, s3, ?_, ?_⟩
      · rw [e2]; exact size_of s4
      · rw [e2]; exact k W _ _ H ms (Le.refl W) g (.str _) q
/-! ### isinstance where the handled error may be the value -/
theorem dr_W {ds : List Dat} (h : DR K (rIsiZ a D dd K) ds ms P) : DR K (rIsiW a D dd K) ds ms P := fun W G H vs Q gd r k => .inl (h W G H vs Q gd r k)
theorem dr_isiWh (hT : ExT K D) (hb : PySem.W.kitOne K (.ref D) (.ref C) = some b) (q : P (.bl b) ms) : DR K (rIsiW a D dd K) [.hot a dd D fs, .ref C] ms P := dr_W (dr_isiH hT hb q)
theorem dr_isiWt {n : String} (hT : ExT K D) (hb : PySem.W.kitOne K (.ref D) (.type n) = some b) (q : P (.bl b) ms) : DR K (rIsiW a D dd K) [.hot a dd D fs, .ty n] ms P := dr_W (dr_isiHt hT hb q)
theorem dr_XT {ds : List Dat} (h : DR K (rIsiX K) ds ms P) : DR K (rIsiXT K) ds ms P := fun W G H vs Q gd r k => .inl (h W G H vs Q gd r k)
theorem kit2 {T A B : Value} {x y : Bool} (h : PySem.W.kitOne K T A = some x) (h' : PySem.W.kitOne K T B = some y) : PySem.W.kitAny K T [A, B] = some (x || y) := by
  unfold PySem.W.kitAny
  rw [h]
  cases x with
  | true => rfl
  | false =>
    show PySem.W.kitAny K T [B] = _
    unfold PySem.W.kitAny
    rw [h']
    cases y <;> rfl
end
end DL
namespace DL
open PySem PySem.Spec PyProof.Rows L2
/-! ### error classes over one base (itself over ValueError): what follows from their objects -/
def bmL (L : Addr) : List Value := [.ref L, .type "ValueError", .type "Exception", .type "BaseException", .type "object"]
/-- an error class, its mro and kind -/
structure EB (K : PySem.W.Frag) (L C : Addr) : Prop where
  t : ExT K C
  mro : ∀ b, PySem.W.mroIn K C b = some ((Value.ref C :: bmL L).contains b)
  cs : PySem.W.isClsIn K C = true
  ty : PySem.W.typeIn K (.ref C) = some (.type "type")
section
variable {K : PySem.W.Frag} {C D L N : Addr} {nm q : Str} {bs : List Value} {sn : List Str} {sub : List Value} {ab : Bool} {col : Option Bool} {dd : Option Addr} {x0 x1 x2 x3 x5 : Option Value}
theorem one_self {v : Value} : PySem.W.kitOne K v v = some true := by
  unfold PySem.W.kitOne
  rw [if_pos (by simp)]
theorem one_rt {t : String} {b : Bool} (hm : PySem.W.kitMeta t = true) (h : PySem.W.subIn K (.ref C) (.type t) = some b) : PySem.W.kitOne K (.ref C) (.type t) = some b := by
  unfold PySem.W.kitOne
  rw [if_neg (by simp)]
  show (if PySem.W.kitMeta t = true then _ else _) = _
  rw [if_pos hm, h]
theorem cls_rule {v : Value} {b : Bool} (h1 : PySem.W.isClsIn K C = true) (h2 : PySem.W.typeIn K (.ref C) = some (.type "type")) (h : PySem.W.subIn K v (.ref C) = some b) : PySem.W.kitCls K v (.ref C) = some b := by
  have h1' : (PySem.W.clsIn K C).isSome = true := h1
  show (if ((PySem.W.clsIn K C).isSome && PySem.W.typeIn K (.ref C) == some (.type "type")) = true then _ else _) = _
  rw [if_pos (by rw [h1', h2]; rfl), h]
theorem one_of {v : Value} {b : Bool} (hn : (v == Value.ref C) = false) (h1 : PySem.W.isClsIn K C = true) (h2 : PySem.W.typeIn K (.ref C) = some (.type "type")) (h : PySem.W.subIn K v (.ref C) = some b) : PySem.W.kitOne K v (.ref C) = some b := by
  unfold PySem.W.kitOne
  rw [if_neg (by rw [hn]; simp)]
  exact cls_rule h1 h2 h
theorem mro_of (hX : K.lookup C = some (excClassObj nm q C N bs (bmL L) true sn sub ab col dd x0 x1 x2 x3 x5 "ValueError.__new__")) (b : Value) : PySem.W.mroIn K C b = some ((Value.ref C :: bmL L).contains b) := by
  unfold PySem.W.mroIn PySem.W.clsIn
  rw [hX]
  rfl
theorem no_ref (C : Addr) : ∀ t ∈ (["NoneType", "bool", "int", "str", "list", "tuple", "dict"] : List String), PySem.W.subIn K (.type t) (.ref C) = some false := by
  have h : ∀ t ∈ (["NoneType", "bool", "int", "str", "list", "tuple", "dict"] : List String), ∃ l : List String, fastBuiltinMro t = some (l.map .type) := by
    intro t ht
    unfold fastBuiltinMro
    have h2 : ∀ t ∈ (["NoneType", "bool", "int", "str", "list", "tuple", "dict"] : List String), (fastFind? t).isSome = true := by decide +kernel
    obtain ⟨m, hm⟩ := Option.isSome_iff_exists.mp (h2 t ht)
    exact ⟨m.mro, by rw [hm]; rfl⟩
  intro t ht
  obtain ⟨l, hl⟩ := h t ht
  show (fastBuiltinMro t).map (fun m => m.contains (Value.ref C)) = some false
  rw [hl]
  refine congrArg some ?_
  induction l with
  | nil => rfl
  | cons x l ih =>
    have e : (Value.ref C == Value.type x) = false := by simp
    simp
/-- all from the class's object and what its names are found to be -/
theorem eb_mk (hX : K.lookup C = some (excClassObj nm q C N bs (bmL L) true sn sub ab col dd x0 x1 x2 x3 x5 "ValueError.__new__")) (eS : PySem.W.findIn K (.ref C) "__setattr__" = some (some (.builtin "object.__setattr__"))) (eK : PySem.W.keepIn K (.ref C) = true)
    (ega : PySem.W.findIn K (.ref C) "__getattribute__" = some (some (.builtin "BaseException.__getattribute__"))) (egg : PySem.W.findIn K (.ref C) "__getattr__" = some none) (ecl : PySem.W.findIn K (.ref C) "__class__" = some (some (.builtin "object.__class__")))
    (csp : PySem.W.specialIn K (.builtin "object.__class__") "__get__" = some (some (.builtin "getset_descriptor.__get__"))) (ctk : PySem.W.takesIn K (.builtin "object.__class__") = some true) : EB K L C := by
  have mro := mro_of hX
  have tyC : PySem.W.typeIn K (.ref C) = some (.type "type") := by
    show (K.lookup C).map (·.cls) = _
    rw [hX]; rfl
  have csC : PySem.W.isClsIn K C = true := by
    unfold PySem.W.isClsIn PySem.W.clsIn
    rw [hX]; rfl
  have hd : PySem.W.hasDictIn K C = true := by
    unfold PySem.W.hasDictIn PySem.W.clsIn
    rw [hX]; rfl
  refine ⟨⟨⟨⟨_, _, _, _, _, _, _, _, _, _, _, _, _, _, _, hX, by rfl⟩, eS, ?_, tyC, eK⟩, ega, egg, hd, ecl, ?_, csp, ctk, fun n hn => ?_⟩, mro, csC, tyC⟩
  · show PySem.W.mroIn K C (.type "BaseException") = some true
    rw [mro]; refine congrArg some ?_; simp [bmL]
  · rw [mro]; refine congrArg some ?_; simp [bmL]
  · have hk : ∀ n ∈ (["str", "tuple", "list", "int", "bool", "dict"] : List String), PySem.W.kitMeta n = true := by decide +kernel
    refine one_rt (hk n hn) ?_
    show PySem.W.mroIn K C (.type n) = some false
    rw [mro]
    refine congrArg some ?_
    simp only [List.mem_cons, List.not_mem_nil, or_false] at hn
    rcases hn with h | h | h | h | h | h <;> subst h <;> simp [bmL]
/-- the base itself -/
structure EL (K : PySem.W.Frag) (L : Addr) : Prop where
  cs : PySem.W.isClsIn K L = true
  ty : PySem.W.typeIn K (.ref L) = some (.type "type")
  ex : PySem.W.subIn K (.ref L) (.type "BaseException") = some true
theorem EB.one (h : EB K L D) (h' : EB K L C) (n : C ≠ L) : PySem.W.kitOne K (.ref D) (.ref C) = some (decide (D = C)) := by
  by_cases e : D = C
  · subst e
    rw [decide_eq_true rfl]
    exact one_self
  · rw [decide_eq_false e]
    refine one_of (by simp [e]) h'.cs h'.ty ?_
    show PySem.W.mroIn K D (.ref C) = _
    rw [h.mro]
    refine congrArg some ?_
    simp [bmL, n]
    exact fun z => e z.symm
theorem EB.base (h : EB K L D) (l : EL K L) (n : D ≠ L) : PySem.W.kitOne K (.ref D) (.ref L) = some true := by
  refine one_of (by simp [n]) l.cs l.ty ?_
  show PySem.W.mroIn K D (.ref L) = _
  rw [h.mro]
  refine congrArg some ?_
  simp [bmL]
theorem EB.ve (h : EB K L D) : PySem.W.kitOne K (.ref D) (.type "ValueError") = some true := by
  refine one_rt (by decide +kernel) ?_
  show PySem.W.mroIn K D (.type "ValueError") = _
  rw [h.mro]
  refine congrArg some ?_
  simp [bmL]
theorem EB.exm (h : EB K L D) (l : EL K L) : PySem.W.exmOne K (.ref D) (.ref L) = some true := by
  unfold PySem.W.exmOne
  rw [if_pos (by rw [l.ex]; rfl)]
  refine cls_rule l.cs l.ty ?_
  show PySem.W.mroIn K D (.ref L) = _
  rw [h.mro]
  refine congrArg some ?_
  simp [bmL]
theorem none_of (cs : PySem.W.isClsIn K C = true) (ty : PySem.W.typeIn K (.ref C) = some (.type "type")) : ∀ t ∈ (["NoneType", "bool", "int", "str", "list", "tuple", "dict"] : List String), PySem.W.kitOne K (.type t) (.ref C) = some false :=
  fun t ht => one_of (by simp) cs ty (no_ref C t ht)
/-! ### makers -/
theorem len2 {α : Type} : ∀ {l : List α}, l.length = 2 → ∃ a b, l = [a, b]
  | [], h => by simp at h
  | [_], h => by simp at h
  | [a, b], _ => ⟨a, b, rfl⟩
  | _ :: _ :: _ :: _, h => by simp at h
theorem kwi1 {x qual f : Str} {st : Stmt} {I : Addr} {fd : FuncData} (F : Fun K x qual st I fd)
    (h : ∀ (kV doc pm : Value) (an : Option Addr) (cdv ct : Value) (a u : Value), bindArgs (PySem.W.fnOf x qual (defArgs st) (defBody st) (defScope st) .none kV doc pm an cdv ct) ⟨[a], [(f, u)]⟩ = pure [(Str.ofString "self", a), (f, u)]) : KwI K fd ["self", f] [f] gApp := by
  obtain ⟨a, b, kV, c, pm, an, cdv, ct, sl, e, lk, cd⟩ := F.ex
  subst e
  refine ⟨fun s a us ws _ hw hl => ?_, fun r1 r2 => r1.append r2⟩
  obtain ⟨w, rfl⟩ := List.length_eq_one_iff.mp hw
  have hu : us = [] := List.eq_nil_of_length_eq_zero (by simp only [gApp, List.length_append, List.length_cons, List.length_nil] at hl; omega)
  subst hu
  exact .of_eq (h kV c pm an cdv ct a w)
/-- two fields, both named: in their order, or turned about; the second alone named -/
theorem kwi2 {x qual f g : Str} {st : Stmt} {I : Addr} {fd : FuncData} (F : Fun K x qual st I fd)
    (h : ∀ (kV doc pm : Value) (an : Option Addr) (cdv ct : Value) (a u v : Value), bindArgs (PySem.W.fnOf x qual (defArgs st) (defBody st) (defScope st) .none kV doc pm an cdv ct) ⟨[a], [(f, u), (g, v)]⟩ = pure [(Str.ofString "self", a), (f, u), (g, v)]) : KwI K fd ["self", f, g] [f, g] gApp := by
  obtain ⟨a, b, kV, c, pm, an, cdv, ct, sl, e, lk, cd⟩ := F.ex
  subst e
  refine ⟨fun s a us ws _ hw hl => ?_, fun r1 r2 => r1.append r2⟩
  obtain ⟨u, w, rfl⟩ := len2 hw
  have hu : us = [] := List.eq_nil_of_length_eq_zero (by simp only [gApp, List.length_append, List.length_cons, List.length_nil] at hl; omega)
  subst hu
  exact .of_eq (h kV c pm an cdv ct a u w)
theorem kwi2r {x qual f g : Str} {st : Stmt} {I : Addr} {fd : FuncData} (F : Fun K x qual st I fd)
    (h : ∀ (kV doc pm : Value) (an : Option Addr) (cdv ct : Value) (a u v : Value), bindArgs (PySem.W.fnOf x qual (defArgs st) (defBody st) (defScope st) .none kV doc pm an cdv ct) ⟨[a], [(g, v), (f, u)]⟩ = pure [(Str.ofString "self", a), (f, u), (g, v)]) : KwI K fd ["self", f, g] [g, f] gRev := by
  obtain ⟨a, b, kV, c, pm, an, cdv, ct, sl, e, lk, cd⟩ := F.ex
  subst e
  refine ⟨fun s a us ws _ hw hl => ?_, fun r1 r2 => r1.append (rel_rev r2)⟩
  obtain ⟨u, w, rfl⟩ := len2 hw
  have hu : us = [] := List.eq_nil_of_length_eq_zero (by simp only [gRev, List.length_append, List.length_reverse, List.length_cons, List.length_nil] at hl; omega)
  subst hu
  exact .of_eq (h kV c pm an cdv ct a w u)
theorem kwi2p {x qual f g : Str} {st : Stmt} {I : Addr} {fd : FuncData} (F : Fun K x qual st I fd)
    (h : ∀ (kV doc pm : Value) (an : Option Addr) (cdv ct : Value) (a u v : Value), bindArgs (PySem.W.fnOf x qual (defArgs st) (defBody st) (defScope st) .none kV doc pm an cdv ct) ⟨[a, u], [(g, v)]⟩ = pure [(Str.ofString "self", a), (f, u), (g, v)]) : KwI K fd ["self", f, g] [g] gApp := by
  obtain ⟨a, b, kV, c, pm, an, cdv, ct, sl, e, lk, cd⟩ := F.ex
  subst e
  refine ⟨fun s a us ws _ hw hl => ?_, fun r1 r2 => r1.append r2⟩
  obtain ⟨w, rfl⟩ := List.length_eq_one_iff.mp hw
  obtain ⟨u, rfl⟩ := List.length_eq_one_iff.mp (show us.length = 1 by simp only [gApp, List.length_append, List.length_cons, List.length_nil] at hl; omega)
  exact .of_eq (h kV c pm an cdv ct a u w)
end
section
variable {P : Program} {w : World} {K : PySem.W.Frag} {mg : Str → Option Value} {base : Heap}
theorem okN {x qual : Str} {st : Stmt} {f : Addr} {fd : FuncData} {N ps : List Str} {k : Nat} {sp : Sp} (F : Fun K x qual st f fd) (S : FnScope N ps (defScope st)) (hlen : ∀ vs H Q E, sp vs H Q E → vs.length = ps.length)
    (hb : ∀ (cdv : Value) (Ar : Around) (outer : List Env) (s : Shared) (H : Hp) (vs : List V) (Q : VK) (E : XK), Room k (Ar.deeper (envOfC qual (defScope st) s.heap.objs.size f cdv)) → sp vs H Q E →
      ∃ t, PSs (cxOf (L2N.CX P w) P w K mg base N qual (defScope st) f cdv Ar outer s H E) (defBody st) t ∧ t { nx := fun _ H' => Q .non H', rt := Q } (L2.start N vs) H) : FnOk P w K mg base (L2N.CX P w) (k + 1) f fd ps sp := by
  obtain ⟨a, b, kV, c, pm, an, cdv, ct, sl, e, lk, cd⟩ := F.ex
  subst e
  exact fn_of lk cd S hlen fun Ar outer s H vs Q E r p => hb cdv Ar outer s H vs Q E r p
/-- an error class with its maker, wherever it is called -/
def E1 (P : Program) (w : World) (K : PySem.W.Frag) (mg : Str → Option Value) (L : Addr) (nm f : Str) (C : Addr) : Prop :=
  EB K L C ∧ ∃ (I : Addr) (fd : FuncData), ErrT K mg nm f C I fd ∧ ∀ base, FnOk P w K mg base (L2N.CX P w) 1 I fd ["self", f] (spIni1 K f)
def E2 (P : Program) (w : World) (K : PySem.W.Frag) (mg : Str → Option Value) (L : Addr) (nm f g : Str) (C : Addr) : Prop :=
  EB K L C ∧ ∃ (I : Addr) (fd : FuncData), ErrT2 K mg nm f g C I fd ∧ ∀ base, FnOk P w K mg base (L2N.CX P w) 1 I fd ["self", f, g] (spIni2 K f g)
end
end DL
namespace DL
open PySem PySem.Spec PyProof.Rows L2
/-! ### while -/
section
variable {K : PySem.W.Frag} {R : WX} {e : Ev} {ms : Ms} {O : Out} {tt : TT} {t : TS} {X : XP} {ta te tv : TE} {tA : TA} {P : Dat → Ms → Prop}
theorem ds_while (J : Nat → Ev → Ms → Prop) (n0 : Nat) (j0 : J n0 e ms)
    (step : ∀ n e m, J n e m → DT K R tt e m (fun c m1 => (c = true → DS K R t e m1 { O with nx := fun e' m' => ∃ n', n' < n ∧ J n' e' m', ct := fun e' m' => ∃ n', n' < n ∧ J n' e' m', bk := O.nx }) ∧ (c = false → O.nx e m1)) (O.xp e)) : DS K R (tWhile tt t) e ms O := fun W G σ H D gd s f => by
  refine ⟨fun n σ' H' => ∃ W2 e2 m2, Le W W2 ∧ Good K W2 G H' m2 ∧ Slots K W2 σ' e2 ∧ J n e2 m2, ⟨n0, W, e, ms, Le.refl _, gd, s, j0⟩, ?_⟩
  rintro n σ1 H1 ⟨W2, e2, m2, l2, g2, s2, j2⟩
  refine step n e2 m2 j2 W2 G σ1 H1 _ g2 s2 (fun W3 b H3 m3 l3 g3 ⟨pt, pf⟩ => ?_) ((f.le l2).ex.at s2)
  have lw := l2.trans l3
  have f3 := f.le lw
  cases b with
  | true =>
    refine ⟨fun σ' H' => ∃ n', n' < n ∧ ∃ W4 e4 m4, Le W W4 ∧ Good K W4 G H' m4 ∧ Slots K W4 σ' e4 ∧ J n' e4 m4, fun σ' H' ⟨n', hl, hh⟩ => ⟨n', hl, hh⟩, ?_⟩
    have nxt : NxC K W3 G (fun e' m' => ∃ n', n' < n ∧ J n' e' m') (fun σ' H' => ∃ n', n' < n ∧ ∃ W4 e4 m4, Le W W4 ∧ Good K W4 G H' m4 ∧ Slots K W4 σ' e4 ∧ J n' e4 m4) := fun W5 σ5 e5 H5 m5 l5 g5 s5 ⟨n', hl, q⟩ => ⟨n', hl, W5, e5, m5, lw.trans l5, g5, s5, q⟩
    exact pt rfl W3 G σ1 H3 _ g3 (s2.mono l3) ⟨nxt, f3.rt, f3.nx, nxt, f3.ex⟩
  | false => exact f3.nx W3 σ1 e2 H3 m3 (Le.refl _) g3 (s2.mono l3) (pf rfl)
/-! ### a list or a tuple walked -/
def iOr (wi wi' : TI) : TI := fun σ H Q => wi σ H Q ∨ wi' σ H Q
theorem pi_or {Xc : Cx} {tg x : Expr} {wi wi' : TI} (h : PI Xc tg x wi) (h' : PI Xc tg x wi') : PI Xc tg x (iOr wi wi') := by
  refine ⟨fun pins s σ H R I q => ?_⟩
  rcases q with q | q
  · exact h.run pins s σ H R I q
  · exact h'.run pins s σ H R I q
theorem di_orl {wi wi' : TI} {PI : Nat → (Nat → Dat) → Ms → Prop} (h : DI K R wi e ms PI X) : DI K R (iOr wi wi') e ms PI X := fun W G σ H Q g s k x => .inl (h W G σ H Q g s k x)
theorem di_orr {wi wi' : TI} {PI : Nat → (Nat → Dat) → Ms → Prop} (h : DI K R wi' e ms PI X) : DI K R (iOr wi wi') e ms PI X := fun W G σ H Q g s k x => .inr (h W G σ H Q g s k x)
/-! ### instances: their fields -/
def putD (f : Str) (v : Dat) : List (Str × Dat) → List (Str × Dat)
  | [] => [(f, v)]
  | (g, x) :: r => if g = f then (g, v) :: r else (g, x) :: putD f v r
theorem repF_put {W : Wd} {f : Str} {v : V} {d : Dat} (r : Rep K W v d) : ∀ {fs : List (Str × V)} {ds : List (Str × Dat)}, RepF K W fs ds → RepF K W (putF f v fs) (putD f d ds)
  | _, [], h => by cases h; exact .cons r .nil
  | _, (g, x) :: ds, h => by
    cases h with
    | cons a b =>
      unfold putF putD
      by_cases hg : g = f
      · rw [if_pos hg, if_pos hg]; exact .cons r b
      · rw [if_neg hg, if_neg hg]; exact .cons a (repF_put r b)
theorem repF_len {W : Wd} : ∀ {fs : List (Str × V)} {ds : List (Str × Dat)}, RepF K W fs ds → fs.length = ds.length
  | _, [], h => by cases h; rfl
  | _, (g, x) :: ds, h => by cases h with | cons a b => simp [repF_len b]
theorem repF_none {W : Wd} : ∀ {fs : List (Str × V)} {ds : List (Str × Dat)}, RepF K W fs ds → ∀ {f : Str}, ds.lookup f = none → fs.lookup f = none
  | _, [], h, f, e => by cases h; rfl
  | _, (g, x) :: ds, h, f, e => by
    cases h with
    | cons a b =>
      rw [List.lookup_cons] at e
      by_cases hf : f == g
      · simp only [hf] at e; cases e
      · have hf' : (f == g) = false := by simpa using hf
        simp only [hf'] at e
        simp only [List.lookup_cons, hf']
        exact repF_none b e
/-- the instance that stands in a cell -/
theorem ins_cell {W : Wd} {G H : Hp} {v : V} {k : Nat} {C : Addr} {fs : List (Str × Dat)} (g : Good K W G H ms) (r : Rep K W v (.cell k)) (e : ms[k]? = some (.ins C fs)) : ∃ a dx us, v = .ref a ∧ W.ι[k]? = some a ∧ H a = some (.ins C dx us) ∧ RepF K W us fs := by
  cases r with
  | cell e2 =>
    obtain ⟨dx, us, h1, h2⟩ := (show MoOk K W H _ (.ins C fs) from g.cl _ _ _ e2 e)
    exact ⟨_, dx, us, rfl, e2, h1, h2⟩
theorem de_fld {C : Addr} {f : Str} (c : Cls K C) (n : NoAttr K C f) (h : DE K R te e ms (fun x m => ∃ k fs d, x = .cell k ∧ m[k]? = some (.ins C fs) ∧ fs.lookup f = some d ∧ P d m) X) : DE K R (tFld K te f) e ms P X := fun W G σ H Q gd s k x =>
  h W G σ H _ gd s (fun W1 v y H1 m1 l1 g1 r1 ⟨kk, fs, d, hx, hm, hl, p⟩ => by
    subst hx
    obtain ⟨a, dx, us, rfl, _, h1, h2⟩ := ins_cell g1 r1 hm
    obtain ⟨u, h3, h4⟩ := repF_look h2 hl
    exact ⟨a, C, dx, us, u, rfl, h1, c, n, h3, k W1 _ _ H1 m1 l1 g1 h4 p⟩) x
theorem ds_fld {f : Str} (h : DE K R tv e ms (fun d m => DE K R ta e m (fun x m2 => ∃ k C fs, x = .cell k ∧ m2[k]? = some (.ins C fs) ∧ Cls K C ∧ NoAttr K C f ∧ fs.length < 1000 ∧ O.nx e (m2.set k (.ins C (putD f d fs)))) (O.xp e)) (O.xp e)) : DS K R (sFld K ta tv f) e ms O := fun W G σ H D gd s ft => by
  refine h W G σ H _ gd s (fun W1 v d H1 m1 l1 g1 r1 h1 => ?_) (ft.ex.at s)
  refine h1 W1 G σ H1 _ g1 (s.mono l1) (fun W2 u y H2 m2 l2 g2 r2 ⟨kk, C, fs, hx, hm, c, n, hl, q⟩ => ?_) ((ft.le l1).ex.at (s.mono l1))
  subst hx
  obtain ⟨a, dx, us, rfl, hi, h3, h4⟩ := ins_cell g2 r2 hm
  refine ⟨a, C, dx, us, rfl, h3, c, n, by rw [repF_len h4]; exact hl, ?_⟩
  exact ft.nx W2 σ e _ _ (l1.trans l2) (g2.setC hi (o := .ins C dx (putF f v us)) (m := .ins C (putD f d fs)) ⟨dx, _, upd_same, repF_put (Rep.mono l2 _ _ r1) h4⟩) (s.mono (l1.trans l2)) q
end
/-! ### instances made, their methods called -/
section
variable {X : Cx} {cx : CXT} {k : Nat} {f C : Addr} {fd : FuncData} {ps : List Str} {sp : Sp} {E : L2.St → XK} {x m : Str} {p pos apos : Pos} {e o : Expr} {es : List Expr} {t : TA} {ta : TE} {ds : List Value} {dvs : List V}
def tMakeS (C : Addr) (sp : Sp) (dvs : List V) (E : L2.St → XK) (t : TA) : TE := fun σ H Q => t σ H fun vs H1 => ∀ x dx, H1 x = none → H1 dx = none → dx ≠ x →
  sp (.ref x :: (vs ++ dvs)) (upd (upd H1 dx (.own x)) x (.ins C dx [])) (fun v H2 => v = .non ∧ Q (.ref x) H2) (E σ)
theorem go_make {pins : List (Addr × Obj)} {σ : L2.St} {H : Hp} {s : Shared} {Q : VK} {us : List Value} {vs : List V} (M : Mk X.K C f) (F : FnG X.prog X.w X.K X.mg X.base cx k f fd ps sp) (hr : Room (k + 1) X.A) (hq : Quiet X.A) (hb : Binds X.K fd ps ds) (hd : Vals dvs ds) (hx : PassesAt cx X σ (E σ))
    (I : Inv X pins σ H s) (r : Vals vs us)
    (h : ∀ x dx, H x = none → H dx = none → dx ≠ x → sp (.ref x :: (vs ++ dvs)) (upd (upd H dx (.own x)) x (.ins C dx [])) (fun v H2 => v = .non ∧ Q (.ref x) H2) (E σ)) :
    wpAny (model X.prog X.w) X.A (call (.ref C) us) (EP X pins σ Q) X.xe s := by
  have hq1 := h (s.heap.objs.size + 1) s.heap.objs.size (I.hok.fresh (Nat.le_succ _)) (I.hok.fresh (Nat.le_refl _)) (Nat.ne_of_lt (Nat.lt_succ_self _))
  have I2 := Inv.made (C := C) I
  have r2 : Vals (V.ref (s.heap.objs.size + 1) :: (vs ++ dvs)) (Value.ref (s.heap.objs.size + 1) :: (us ++ ds)) := .cons rfl (r.append hd)
  have hl : (Value.ref (s.heap.objs.size + 1) :: us ++ ds).length = ps.length := by
    have e := r2.length
    rw [F.len _ _ _ _ hq1] at e
    exact e.symm
  refine wpAny_call (make_map (f := f) I.kIn M.makes M.init (beq_iff_eq.mp M.fn) (codeAny_mono (F.go _ X.stack _ _ ⟨Value.ref (s.heap.objs.size + 1) :: us, []⟩ (Value.ref (s.heap.objs.size + 1) :: (us ++ ds)) _ _ (E σ) (hr.make C us []) ⟨hq.g⟩
    (I2.env0.make C us []) (hb _ (Value.ref (s.heap.objs.size + 1) :: us) I2.kIn hl) r2 hq1) fun z s' hz => ?_))
  match z, hz with
  | .error er, hz => exact hx pins _ _ er s' I2 hz
  | .ok (.ret u), hz =>
    obtain ⟨v, H', I3, rv, ev, q3⟩ := I2.after hz
    subst ev
    exact ⟨rv, ⟨V.ref (s.heap.objs.size + 1), H', I3, rfl, q3⟩⟩
  | .ok .next, hz => exact hz.elim
  | .ok .brk, hz => exact hz.elim
  | .ok .cont, hz => exact hz.elim
theorem pe_makeG (M : Mk X.K C f) (F : FnG X.prog X.w X.K X.mg X.base cx k f fd ps sp) (hr : Room (k + 1) X.A) (hq : Quiet X.A) (hg : Gl X x) (hm : X.mg x = some (.ref C)) (hb : Binds X.K fd ps ds) (hd : Vals dvs ds) (hx : ∀ σ, PassesAt cx X σ (E σ))
    (ha : PA X (e :: es) t) (hdb : (x == ("__debug__" : Str)) = false := by decide) (he : starEach (e :: es) X.env = (false, eval e X.env) :: starEach es X.env := by rfl) (hpl : (backTo pos (starEach es X.env)).any (·.1) = false := by rfl) :
    PE X (.Call (.Name x p) (e :: es) [] pos) (tMakeS C sp dvs E t) := ⟨fun pins s σ H Q I h => by
  refine wpAny_Call_Name_kw (ld_glob I hg hm ?_ hdb)
  exact PySem.W.callWith_K (h₀ := X.base) I.ok.mod.kin M.kp (thn (ha.run pos pins s σ H _ I h) fun us s1 ⟨vs, H1, I1, r, q⟩ => ⟨I1.kIn, go_make M F hr hq hb hd (hx σ) I1 r q⟩) he hpl⟩
def tMethS (C : Addr) (m : Str) (sp : Sp) (dvs : List V) (E : L2.St → XK) (ta : TE) (t : TA) : TE := fun σ H Q => ta σ H fun x H1 => ∃ a dx fs, x = .ref a ∧ H1 a = some (.ins C dx fs) ∧ fs.lookup m = none ∧
  t σ H1 fun vs H2 => sp (x :: (vs ++ dvs)) H2 Q (E σ)
theorem pe_methG {pl : Sem Bool} (he : PE X o ta) (c : Cls X.K C) (hm : Meth X.K C m f) (F : FnG X.prog X.w X.K X.mg X.base cx k f fd ps sp) (hr : Room k X.A) (hq : Quiet X.A) (hb : Binds X.K fd ps ds) (hd : Vals dvs ds) (hx : ∀ σ, PassesAt cx X σ (E σ)) (ha : PA X (e :: es) t)
    (hst : starEach (e :: es) X.env = (false, eval e X.env) :: starEach es X.env := by rfl) (hpl : (backTo pos (starEach es X.env)).any (·.1) = false := by rfl)
    (ht : eval (.Call (.Attribute o m apos) (e :: es) [] pos) X.env = (do
      let ov ← eval o X.env
      standAt apos.atName
      let (f, first) ← holding [ov] (getMethod ov m pl)
      callWith pos f first (backTo pos (starEach (e :: es) X.env)) (backToKw pos (keywordEach [] X.env))) := by rfl) :
    PE X (.Call (.Attribute o m apos) (e :: es) [] pos) (tMethS C m sp dvs E ta t) := ⟨fun pins s σ H Q I h => by
  refine PySem.W.methodCall_KW (pl := pl) (thn (he.run pins s σ H _ I h) fun u s1 ⟨x, H1, I1, rx, a, dx, fs, ex, ea, l, q⟩ => ?_) ht
  subst ex
  obtain rfl : u = Value.ref a := rx
  refine getmeth_ok I1 ea c hm l ?_
  refine PySem.W.callWith_K (first := [.ref a]) (h₀ := X.base) I.ok.mod.kin hm.kp (thn (ha.run pos pins s1 σ H1 _ I1 q) fun us s2 ⟨vs, H2, I2, r, q2⟩ => ⟨I2.kIn, ?_⟩) hst hpl
  exact go_fn (us := .ref a :: us) (vs := .ref a :: vs) F hr hq hb hd (hx σ) I2 (.cons rfl r) q2⟩
theorem pe_methG0 {pl : Sem Bool} (he : PE X o ta) (c : Cls X.K C) (hm : Meth X.K C m f) (F : FnG X.prog X.w X.K X.mg X.base cx k f fd ps sp) (hr : Room k X.A) (hq : Quiet X.A) (hb : Binds X.K fd ps ds) (hd : Vals dvs ds) (hx : ∀ σ, PassesAt cx X σ (E σ))
    (ht : eval (.Call (.Attribute o m apos) [] [] pos) X.env = (do
      let ov ← eval o X.env
      standAt apos.atName
      let (f, first) ← holding [ov] (getMethod ov m pl)
      callWith pos f first (backTo pos (starEach [] X.env)) (backToKw pos (keywordEach [] X.env))) := by rfl) :
    PE X (.Call (.Attribute o m apos) [] [] pos) (tMethS C m sp dvs E ta tNil) := ⟨fun pins s σ H Q I h => by
  refine PySem.W.methodCall_KW (pl := pl) (thn (he.run pins s σ H _ I h) fun u s1 ⟨x, H1, I1, rx, a, dx, fs, ex, ea, l, q⟩ => ?_) ht
  subst ex
  obtain rfl : u = Value.ref a := rx
  refine getmeth_ok I1 ea c hm l ?_
  exact PySem.W.callWith_K0 (first := [.ref a]) I1.kIn hm.kp (go_fn (us := [.ref a]) (vs := [.ref a]) F hr hq hb hd (hx σ) I1 (.cons rfl .nil) q)⟩
end
section
variable {K : PySem.W.Frag} {R : WX} {e : Ev} {ms : Ms} {tA : TA} {ta : TE} {P : Dat → Ms → Prop} {X : XP} {A : Pm} {dvs : List V} {dds : List Dat} {C : Addr} {m : Str}
/-- an object that is neither told as a datum nor as a cell -/
theorem Good.aside {W : Wd} {G H : Hp} {p : Addr} {o : HO} (g : Good K W G H ms) (n : H p = none) : Good K W G (upd H p o) ms := by
  refine ⟨g.fz.trans (same_new n), g.gd.trans (same_new n), g.ln, g.nd, g.nF, g.nG, g.gF, fun k a m h1 h2 => (g.cl k a m h1 h2).mono (Le.refl W) fun u e => same_new n a u e⟩
theorem de_make (hd : ∀ W : Wd, RepL K W dvs dds) (h : DA K R tA e ms (fun ds m => A (.cell m.length :: (ds ++ dds)) (m ++ [.ins C []]) (fun d m' => d = .non ∧ P (.cell m.length) m') X) X) : DE K R (tMakeS C (spD K A) dvs (WE R) tA) e ms P X := fun W G σ H Q g s k x =>
  h W G σ H _ g s (fun W1 vs ds H1 m1 l1 g1 r1 a => fun x0 dx nx nd ne => by
    have g2 := g1.aside (o := .own x0) nd
    have nx2 : (upd H1 dx (.own x0)) x0 = none := by rw [upd_ne (fun z => ne z.symm)]; exact nx
    have l2 : Le W1 ⟨W1.ι ++ [x0], W1.F⟩ := ⟨List.prefix_append _ _, Same.refl _⟩
    obtain ⟨g3, _⟩ := g2.newC (p := x0) (o := .ins C dx []) nx2 (m := .ins C []) ⟨dx, [], upd_same, .nil⟩
    have rc : Rep K ⟨W1.ι ++ [x0], W1.F⟩ (.ref x0) (.cell m1.length) := .cell (by show (W1.ι ++ [x0])[m1.length]? = some x0; rw [← g1.ln]; simp)
    refine ⟨_, G, _, .cell m1.length :: (ds ++ dds), _, X, g3, .cons rc (repL_app (RepL.mono l2 _ _ r1) (hd _)), a, ?_, (x.le l1).le l2⟩
    intro W4 v d H4 m4 l4 g4 r4 ⟨hn, p4⟩
    subst hn
    cases r4
    exact ⟨rfl, k W4 _ _ H4 m4 (l1.trans (l2.trans l4)) g4 (Rep.mono l4 _ _ rc) p4⟩) x
theorem de_make0 (hd : ∀ W : Wd, RepL K W dvs dds) (h : DA K R tA e ms (fun ds m => A (.cell m.length :: (ds ++ dds)) (m ++ [.ins C []]) (fun d m' => d = .non ∧ P (.cell m.length) m') (fun _ _ _ => False)) X) : DE K R (tMakeS C (spD K A) dvs (fun _ => E0) tA) e ms P X := fun W G σ H Q g s k x =>
  h W G σ H _ g s (fun W1 vs ds H1 m1 l1 g1 r1 a => fun x0 dx nx nd ne => by
    have g2 := g1.aside (o := .own x0) nd
    have nx2 : (upd H1 dx (.own x0)) x0 = none := by rw [upd_ne (fun z => ne z.symm)]; exact nx
    have l2 : Le W1 ⟨W1.ι ++ [x0], W1.F⟩ := ⟨List.prefix_append _ _, Same.refl _⟩
    obtain ⟨g3, _⟩ := g2.newC (p := x0) (o := .ins C dx []) nx2 (m := .ins C []) ⟨dx, [], upd_same, .nil⟩
    have rc : Rep K ⟨W1.ι ++ [x0], W1.F⟩ (.ref x0) (.cell m1.length) := .cell (by show (W1.ι ++ [x0])[m1.length]? = some x0; rw [← g1.ln]; simp)
    refine ⟨_, G, _, .cell m1.length :: (ds ++ dds), _, fun _ _ _ => False, g3, .cons rc (repL_app (RepL.mono l2 _ _ r1) (hd _)), a, ?_, fun _ _ _ _ _ _ _ _ _ _ _ z => z.elim⟩
    intro W4 v d H4 m4 l4 g4 r4 ⟨hn, p4⟩
    subst hn
    cases r4
    exact ⟨rfl, k W4 _ _ H4 m4 (l1.trans (l2.trans l4)) g4 (Rep.mono l4 _ _ rc) p4⟩) x
theorem de_meth (hd : ∀ W : Wd, RepL K W dvs dds) (h : DE K R ta e ms (fun x m1 => ∃ k fs, x = .cell k ∧ m1[k]? = some (.ins C fs) ∧ fs.lookup m = none ∧ DA K R tA e m1 (fun ds m2 => A (x :: (ds ++ dds)) m2 P X) X) X) : DE K R (tMethS C m (spD K A) dvs (WE R) ta tA) e ms P X := fun W G σ H Q g s k x => by
  refine h W G σ H _ g s (fun W1 v d H1 m1 l1 g1 r1 ⟨kk, fs, hx, hm, hl, h1⟩ => ?_) x
  subst hx
  obtain ⟨a, dx, us, rfl, _, h3, h4⟩ := ins_cell g1 r1 hm
  refine ⟨a, dx, us, rfl, h3, repF_none h4 hl, ?_⟩
  refine h1 W1 G σ H1 _ g1 (s.mono l1) (fun W2 vs ds H2 m2 l2 g2 r2 a2 => ?_) (x.le l1)
  exact ⟨W2, G, m2, .cell kk :: (ds ++ dds), P, X, g2, .cons (Rep.mono l2 _ _ r1) (repL_app r2 (hd _)), a2, k.le (l1.trans l2), x.le (l1.trans l2)⟩
theorem de_meth0 (hd : ∀ W : Wd, RepL K W dvs dds) (h : DE K R ta e ms (fun x m1 => ∃ k fs, x = .cell k ∧ m1[k]? = some (.ins C fs) ∧ fs.lookup m = none ∧ DA K R tA e m1 (fun ds m2 => A (x :: (ds ++ dds)) m2 P (fun _ _ _ => False)) X) X) : DE K R (tMethS C m (spD K A) dvs (fun _ => E0) ta tA) e ms P X := fun W G σ H Q g s k x => by
  refine h W G σ H _ g s (fun W1 v d H1 m1 l1 g1 r1 ⟨kk, fs, hx, hm, hl, h1⟩ => ?_) x
  subst hx
  obtain ⟨a, dx, us, rfl, _, h3, h4⟩ := ins_cell g1 r1 hm
  refine ⟨a, dx, us, rfl, h3, repF_none h4 hl, ?_⟩
  refine h1 W1 G σ H1 _ g1 (s.mono l1) (fun W2 vs ds H2 m2 l2 g2 r2 a2 => ?_) (x.le l1)
  exact ⟨W2, G, m2, .cell kk :: (ds ++ dds), P, _, g2, .cons (Rep.mono l2 _ _ r1) (repL_app r2 (hd _)), a2, k.le (l1.trans l2), fun _ _ _ _ _ _ _ _ _ _ _ z => z.elim⟩
/-! ### isinstance of an instance -/
structure InsT (K : PySem.W.Frag) (C : Addr) : Prop where
  c : Cls K C
  ha : PySem.W.findIn K (.ref C) "__class__" = some (some (.builtin "object.__class__"))
  hn : PySem.W.specialIn K (.builtin "object.__class__") "__get__" = some (some (.builtin "getset_descriptor.__get__"))
  tk : PySem.W.takesIn K (.builtin "object.__class__") = some true
  mo : PySem.W.mroIn K C (.type "object") = some true
end
end DL
namespace DL
open PySem PySem.Spec PyProof.Rows L2
/-! ### order of pairs of ints -/
abbrev Pr := Int × Int
def dpPr (p : Pr) : Dat := .tup [.int p.1, .int p.2]
def plt (p q : Pr) : Bool := decide (p.1 < q.1 ∨ (p.1 = q.1 ∧ p.2 < q.2))
section
variable {X : Cx}
def rLtB (K : PySem.W.Frag) : R2 := fun x y H Q => rLtA x y H Q ∨ rLtT K x y H Q
theorem op_ltB (hu : X.A.units + 64 < cLine) : OpR X (compareOp .Lt) (rLtB X.K) := orR op_ltA (op_ltT (by omega))
def rGeT (K : PySem.W.Frag) : R2 := fun x y H Q => ∃ (a b : Addr) (ns ms : List Int), x = .ref a ∧ y = .ref b ∧ SqT K H a (ns.map V.int) ∧ SqT K H b (ms.map V.int) ∧
  Q (.bl (Ob.lexAt (fun j => decide (ns.getD j 0 = ms.getD j 0)) (fun j => decide (ms.getD j 0 ≤ ns.getD j 0)) (decide (ms.length ≤ ns.length)) 0 (min ns.length ms.length))) H
theorem op_geT (hu : X.A.units < cLine) : OpR X (compareOp .GtE) (rGeT X.K) := by
  rintro pins s σ H x y v u Q I rx ry ⟨a, b, ns, ms, rfl, rfl, ha, hb, q⟩
  cases rx; cases ry
  obtain ⟨its, r1, p1, _⟩ := I.tuple ha
  obtain ⟨its2, r2, p2, _⟩ := I.tuple hb
  have i1 : IntsAre its ns := Vals.ints r1
  have i2 : IntsAre its2 ms := Vals.ints r2
  have e1 : its.toArray.size = ns.length := by rw [List.size_toArray]; exact i1.length
  have e2 : its2.toArray.size = ms.length := by rw [List.size_toArray]; exact i2.length
  have g1 : ∀ j (h : j < its.toArray.size), ∃ t, its.toArray[j] = .int (ns.getD j 0) t := fun j h => PyProof.Rows.IntsAre.int_at i1 _ _ (by simp at h; simp [h])
  have g2 : ∀ j (h : j < its2.toArray.size), ∃ t, its2.toArray[j] = .int (ms.getD j 0) t := fun j h => PyProof.Rows.IntsAre.int_at i2 _ _ (by simp at h; simp [h])
  have go := Ob.RcOp.tuples_ge (A := X.A) (s := s) (e := fun j => decide (ns.getD j 0 = ms.getD j 0)) (r := fun j => decide (ms.getD j 0 ≤ ns.getD j 0)) p1 p2 hu (fun j k1 k2 => by
    obtain ⟨t, f1⟩ := g1 j k1
    obtain ⟨t', f2⟩ := g2 j k2
    rw [f1, f2, show decide (ns.getD j 0 = ms.getD j 0) = (ns.getD j 0 == ms.getD j 0) by rw [Bool.eq_iff_iff]; simp]
    exact SeqAt.EqAt.int_int _ _ _ _) (fun j k1 k2 _ => by
    obtain ⟨t, f1⟩ := g1 j k1
    obtain ⟨t', f2⟩ := g2 j k2
    rw [f1, f2]
    exact Ob.RcOp.ge_int _ _ _ _)
  rw [e1, e2] at go
  exact go X.prog X.w X.xe (EP X pins σ Q) ⟨.bl _, H, I, rfl, q⟩
def rGeB (K : PySem.W.Frag) : R2 := fun x y H Q => rGeI x y H Q ∨ rGeT K x y H Q
theorem op_geB (hu : X.A.units + 64 < cLine) : OpR X (compareOp .GtE) (rGeB X.K) := orR op_geA (op_geT (by omega))
/-- in a tuple, items of any depth -/
def rInT (K : PySem.W.Frag) : R2 := fun x y H Q => ∃ d ds, Dp K H x d ∧ Dp K H y (.tuple ds) ∧ SeqAt.shaped d = true ∧ SeqAt.shaped (.tuple ds) = true ∧ Q (.bl (ds.any fun z => PyData.eqv z d)) H
theorem op_inT (hu : X.A.units + 65 < cLine) : OpR X (compareOp .In) (rInT X.K) := by
  rintro pins s σ H x y v u Q I rx ry ⟨d, ds, hd, he, sd, se, q⟩
  obtain ⟨as, r1⟩ := Dp.reads I d x v hd rx
  obtain ⟨bs, r2⟩ := Dp.reads I (.tuple ds) y u he ry
  exact SeqAt.in_tuple_reads r2 r1 (SeqAt.canLay_of_shaped se) (SeqAt.canLay_of_shaped sd) (room_in_shaped sd hu) ⟨.bl _, H, I, rfl, q⟩
def rInB (K : PySem.W.Frag) : R2 := fun x y H Q => rInA K x y H Q ∨ (rInT K x y H Q ∨ rInD K x y H Q)
theorem op_inB (hu : X.A.units + 65 < cLine) : OpR X (compareOp .In) (rInB X.K) := orR op_inA (orR (op_inT hu) (op_inD hu))
end
section
variable {K : PySem.W.Frag} {R : WX} {e : Ev} {ms : Ms} {O : Out} {X : XP} {ta te tv : TE} {tA : TA} {P : Dat → Ms → Prop}
theorem intsR {W : Wd} : ∀ {vs : List V} {is : List Int}, RepL K W vs (is.map Dat.int) → vs = is.map V.int := intsRep2
theorem d2_ltP {p q : Pr} (z : P (.bl (plt p q)) ms) : D2 K (rLtB K) (dpPr p) (dpPr q) ms P := fun W G H v w Q gd rx ry k => by
  cases rx with
  | tup h1 r1 => cases ry with
    | tup h2 r2 =>
      have e1 := intsR (is := [p.1, p.2]) r1
      have e2 := intsR (is := [q.1, q.2]) r2
      subst e1; subst e2
      refine .inr ⟨_, _, [p.1, p.2], [q.1, q.2], rfl, rfl, Same.tup gd.fz h1, Same.tup gd.fz h2, ?_⟩
      have e : HT.lexLt [p.1, p.2] [q.1, q.2] = plt p q := by
        unfold HT.lexLt HT.lexLt HT.lexLt plt
        rw [Bool.eq_iff_iff]
        by_cases h : p.1 = q.1
        · rw [if_pos h]
          by_cases h' : p.2 = q.2
          · rw [if_pos h']; simp; omega
          · rw [if_neg h']; simp; omega
        · rw [if_neg h]; simp; omega
      rw [e]
      exact k W _ _ H ms (Le.refl W) gd (.bl _) z
theorem d2_geP {p q : Pr} (z : P (.bl (!plt p q)) ms) : D2 K (rGeB K) (dpPr p) (dpPr q) ms P := fun W G H v w Q gd rx ry k => by
  cases rx with
  | tup h1 r1 => cases ry with
    | tup h2 r2 =>
      have e1 := intsR (is := [p.1, p.2]) r1
      have e2 := intsR (is := [q.1, q.2]) r2
      subst e1; subst e2
      refine .inr ⟨_, _, [p.1, p.2], [q.1, q.2], rfl, rfl, Same.tup gd.fz h1, Same.tup gd.fz h2, ?_⟩
      have e : Ob.lexAt (fun j => decide (([p.1, p.2] : List Int).getD j 0 = ([q.1, q.2] : List Int).getD j 0)) (fun j => decide (([q.1, q.2] : List Int).getD j 0 ≤ ([p.1, p.2] : List Int).getD j 0)) (decide (([q.1, q.2] : List Int).length ≤ ([p.1, p.2] : List Int).length)) 0 (min ([p.1, p.2] : List Int).length ([q.1, q.2] : List Int).length) = !plt p q := by
        show (if decide (p.1 = q.1) = true then (if decide (p.2 = q.2) = true then decide (2 ≤ 2) else decide (q.2 ≤ p.2)) else decide (q.1 ≤ p.1)) = !plt p q
        unfold plt
        rw [Bool.eq_iff_iff]
        by_cases h : p.1 = q.1
        · by_cases h' : p.2 = q.2
          · simp [h, h']
          · simp [h, h']
        · simp [h]
      rw [e]
      exact k W _ _ H ms (Le.refl W) gd (.bl _) z
theorem d2_ltB {x y : Dat} (h : D2 K rLtA x y ms P) : D2 K (rLtB K) x y ms P := D2.inl h
theorem d2_geB {x y : Dat} (h : D2 K rGeI x y ms P) : D2 K (rGeB K) x y ms P := D2.inl h
theorem d2_inBa {x y : Dat} (h : D2 K (rInA K) x y ms P) : D2 K (rInB K) x y ms P := D2.inl h
/-- an empty tuple among tuples of ints -/
theorem pyd_ints : ∀ is : List Int, PyDL (is.map Dat.int) (is.map PyData.int) := pydl_int
def tuD (is : List Int) : Dat := .tup (is.map Dat.int)
def tuP (is : List Int) : PyData := .tuple (is.map PyData.int)
theorem pyd_tus : ∀ ws : List (List Int), PyDL (ws.map tuD) (ws.map tuP)
  | [] => .nil
  | w :: ws => .cons (.tup (pydl_int w)) (pyd_tus ws)
theorem lay_tus : ∀ ws : List (List Int), PyData.canLayAll0 (ws.map tuP) = true ∧ PyData.depthAll (ws.map tuP) ≤ 2
  | [] => ⟨rfl, Nat.zero_le _⟩
  | w :: ws => by
    obtain ⟨a, b⟩ := lay_tus ws
    have h1 := lay_int w
    have h2 := dep_int w
    refine ⟨?_, ?_⟩
    · show (PyData.canLayAll0 (w.map PyData.int) && PyData.canLayAll0 (ws.map tuP)) = true
      rw [h1, a]; rfl
    · show max (PyData.depthAll (w.map PyData.int) + 1) (PyData.depthAll (ws.map tuP)) ≤ 2
      omega
theorem shaped_tus (ws : List (List Int)) : SeqAt.shaped (.tuple (ws.map tuP)) = true := by
  obtain ⟨a, b⟩ := lay_tus ws
  unfold SeqAt.shaped
  rw [Bool.and_eq_true]
  refine ⟨a, ?_⟩
  show decide (PyData.depthAll (ws.map tuP) + 1 ≤ 64) = true
  exact decide_eq_true (by omega)
theorem shaped_tuL (ws : List (List Int)) : SeqAt.shaped (.list (ws.map tuP)) = true := by
  obtain ⟨a, b⟩ := lay_tus ws
  unfold SeqAt.shaped
  rw [Bool.and_eq_true]
  refine ⟨a, ?_⟩
  show decide (PyData.depthAll (ws.map tuP) + 1 ≤ 64) = true
  exact decide_eq_true (by omega)
theorem shaped_tu (w : List Int) : SeqAt.shaped (tuP w) = true := by
  have h1 := lay_int w
  have h2 := dep_int w
  unfold SeqAt.shaped
  rw [Bool.and_eq_true]
  refine ⟨h1, ?_⟩
  show decide (PyData.depthAll (w.map PyData.int) + 1 ≤ 64) = true
  exact decide_eq_true (by omega)
theorem eqv_tu0 (w : List Int) : PyData.eqv (tuP w) (.tuple []) = w.isEmpty := by cases w <;> simp [tuP, PyData.eqv, PyData.eqvAll]
theorem d2_inTu {ws : List (List Int)} (q : P (.bl (ws.any (·.isEmpty))) ms) : D2 K (rInB K) (.tup []) (.tup (ws.map tuD)) ms P := fun W G H v w Q gd rx ry k => by
  refine .inr (.inl ⟨.tuple [], ws.map tuP, dp_of gd.fz (.tup .nil) v rx, dp_of gd.fz (.tup (pyd_tus ws)) w ry, by decide +kernel, shaped_tus ws, ?_⟩)
  have e : ((ws.map tuP).any fun z => PyData.eqv z (.tuple [])) = ws.any (·.isEmpty) := by
    rw [List.any_map]; congr 1; funext w; exact eqv_tu0 w
  rw [e]
  exact k W _ _ H ms (Le.refl W) gd (.bl _) q
/-- a tuple of ints against the empty one -/
theorem d2_eqTu0 {w : List Int} (q : P (.bl w.isEmpty) ms) : D2 K (rEqA K) (tuD w) (.tup []) ms P := d2_eqD (p := tuP w) (p' := .tuple []) (.tup (pydl_int w)) (.tup .nil) (shaped_tu w) (by decide +kernel) (by rw [eqv_tu0]; exact q)
/-! ### None among ints and None -/
def oiD : Option Int → Dat
  | none => .non
  | some i => .int i
def oiV : Option Int → V
  | none => .non
  | some i => .int i
theorem oisR {W : Wd} : ∀ {vs : List V} {os : List (Option Int)}, RepL K W vs (os.map oiD) → vs = os.map oiV
  | _, [], h => by cases h; rfl
  | _, none :: os, h => by cases h with | cons a b => cases a; rw [oisR b]; rfl
  | _, some i :: os, h => by cases h with | cons a b => cases a; rw [oisR b]; rfl
theorem d2_inNone {x : Dat} {os : List (Option Int)} (s : SeqV ms x (os.map oiD)) (q : P (.bl (os.any (·.isNone))) ms) : D2 K (rInB K) .non x ms P := D2.inl (fun W G H v w Q gd rx ry k => by
  cases rx
  obtain ⟨a, vs, rfl, hq, rl⟩ := seq_rep gd ry s
  rw [oisR rl] at hq
  refine .inr ⟨a, _, rfl, hq, rfl, ?_, ?_⟩
  · rw [List.all_map]; exact List.all_eq_true.mpr fun o _ => by cases o <;> rfl
  · rw [if_neg Bool.false_ne_true]
    have e : inV V.non (os.map oiV) = os.any (·.isNone) := by
      unfold inV
      rw [List.any_map]
      congr 1
      funext o
      cases o <;> rfl
    rw [e]
    exact k W _ _ H ms (Le.refl W) gd (.bl _) q)
/-! ### sorted -/
theorem dr_sortedI {is : List Int} {x : Dat} (s : x = .lst (is.map Dat.int) ∨ ∃ k, x = .cell k ∧ ms[k]? = some (.lst (is.map Dat.int))) (q : ∀ is' : List Int, is'.Perm is → is'.Pairwise (· ≤ ·) → P (.lst (is'.map Dat.int)) ms) : DR K (rSortedI K) [x] ms P := fun W G H vs Q gd r k => by
  cases r with
  | cons r1 rr =>
    cases rr
    obtain ⟨a, us, rfl, hq, rl⟩ := lstSq gd r1 (by rcases s with s | ⟨kk, s1, s2⟩; exact .inl s; exact .inr (.inr ⟨kk, s1, s2⟩))
    rw [intsR rl] at hq
    refine ⟨a, is, rfl, hq, fun is' p hp hs hn => ?_⟩
    obtain ⟨g2, l2⟩ := gd.laid (o := .lst (is'.map V.int)) hn
    have ri : ∀ (js : List Int) (W : Wd), RepL K W (js.map V.int) (js.map Dat.int) := fun js W => by
      induction js with
      | nil => exact .nil
      | cons j js ih => exact .cons (.int j) ih
    exact k _ _ _ _ _ l2 g2 (.lst upd_same (ri is' _)) (q is' hp hs)
/-- pairs of ints, sorted by Python's order -/
def rSortedQ (K : PySem.W.Frag) : List V → Hp → VK → Prop := fun vs H Q => ∃ (a : Addr) (xs : List V) (k : V → Int × Int), vs = [V.ref a] ∧ SqL K H a xs ∧ (∀ x ∈ xs, ∃ t, x = V.ref t ∧ SqT K H t [.int (k x).1, .int (k x).2]) ∧
  ∀ ys p, SrtO.Srtd (ltP k) ys → SrtO.Stb (ltP k) ys xs → H p = none → Q (.ref p) (upd H p (.lst ys))
theorem cr_sortedQ {X : Cx} : CallR X (.builtin "sorted") (rSortedQ X.K) := by
  rintro pins s σ H vs us Q I r ⟨a, xs, k, rfl, hs, hx, q⟩
  obtain ⟨its, rv, hl, hz⟩ := I.list hs
  obtain ⟨u, rfl, ru⟩ := vals1 r
  obtain rfl : u = Value.ref a := ru
  obtain ⟨e1, e2⟩ := refs_back rv fun x m => by
    obtain ⟨t, e, _⟩ := hx x m
    exact ⟨t, e⟩
  refine SrtO.sorted_pairsO (k := fun u => k (backV u)) hl.isList (by rw [← rv.length]; exact hz) (fun v hv => ?_) fun h' d out h1 h2 kp hd hn => ?_
  · obtain ⟨t, rfl⟩ := e2 v hv
    have hm : V.ref t ∈ xs := by rw [e1]; exact List.mem_map.mpr ⟨_, hv, rfl⟩
    obtain ⟨t', e, ht⟩ := hx _ hm
    cases e
    obtain ⟨its2, r2, ⟨o, ho, hc, n, hd⟩, _⟩ := I.tuple ht
    obtain ⟨u1, u2, rfl, ri, rj⟩ := vals2 r2
    obtain ⟨t1, rfl⟩ := ri
    obtain ⟨t2, rfl⟩ := rj
    exact ⟨t, o, t1, t2, n, rfl, ho, hc, hd⟩
  · have h3 : ∀ u ∈ out, ∃ a, u = Value.ref a := fun u hu => e2 u (h2.perm.mem_iff.mp hu)
    obtain ⟨n, hn⟩ := hn
    have hb : SrtO.Stb (ltP k) (out.map backV) xs := by
      rw [e1]
      exact SrtO.Stb.map (ltP_swo k) backV h2
    refine ⟨.ref d, upd H d (.lst (out.map backV)), I.laid (t' := s.toks) kp hd ⟨?_, out, n, vals_back h3, hn⟩, rfl, q _ d (SrtO.srtd_map h1) hb (I.hok.fresh hd)⟩
    rw [hb.len]
    exact hz
/-- .. told with their pairs -/
def rSortedR (K : PySem.W.Frag) : List V → Hp → VK → Prop := fun vs H Q => ∃ (a : Addr) (xs : List V) (ps : List Pr), vs = [V.ref a] ∧ SqL K H a xs ∧ Paired (fun x p => ∃ t, x = V.ref t ∧ SqT K H t [.int p.1, .int p.2]) xs ps ∧
  ∀ (zs : List (V × Pr)) p, zs.Perm (xs.zip ps) → (zs.map (·.2)).Pairwise (fun a b => plt b a = false) → H p = none → Q (.ref p) (upd H p (.lst (zs.map (·.1))))
theorem plt_lex (p q : Pr) : plt p q = SrtO.lexB p q := by
  rw [Bool.eq_iff_iff, SrtO.lexB_iff]
  unfold plt
  simp
theorem cr_sortedR {X : Cx} : CallR X (.builtin "sorted") (rSortedR X.K) := by
  rintro pins s σ H vs us Q I r ⟨a, xs, ps, rfl, hs, hp, q⟩
  have uniq : ∀ (t : Addr) (p p' : Pr), SqT X.K H t [.int p.1, .int p.2] → SqT X.K H t [.int p'.1, .int p'.2] → p = p' := fun t p p' h h' => by
    obtain ⟨its, r1, ⟨o, ho, hc, n, hd⟩, _⟩ := I.tuple h
    obtain ⟨its', r1', ⟨o', ho', hc', n', hd'⟩, _⟩ := I.tuple h'
    rw [ho] at ho'
    cases ho'
    rw [hd] at hd'
    have hi : its = its' := by
      have := (Data.seq.inj hd').1
      simpa using this
    subst hi
    obtain ⟨u1, u2, rfl, ri, rj⟩ := vals2 r1
    obtain ⟨w1, w2, e, ri', rj'⟩ := vals2 r1'
    cases e
    obtain ⟨t1, e1⟩ := ri
    obtain ⟨t2, e2⟩ := ri'
    obtain ⟨t3, e3⟩ := rj
    obtain ⟨t4, e4⟩ := rj'
    rw [e1] at e2
    rw [e3] at e4
    exact Prod.ext (Value.int.inj e2).1 (Value.int.inj e4).1
  let k : V → Int × Int := fun x => open Classical in if h : ∃ p : Pr, ∃ t, x = V.ref t ∧ SqT X.K H t [.int p.1, .int p.2] then Classical.choose h else (0, 0)
  have kx : ∀ x p t, x = V.ref t → SqT X.K H t [.int p.1, .int p.2] → k x = p := fun x p t hx ht => by
    have h : ∃ p : Pr, ∃ t, x = V.ref t ∧ SqT X.K H t [.int p.1, .int p.2] := ⟨p, t, hx, ht⟩
    obtain ⟨t', e, h'⟩ := Classical.choose_spec h
    have ek : k x = Classical.choose h := dif_pos h
    rw [ek]
    rw [hx] at e
    cases e
    exact uniq t _ _ h' ht
  have zk : ∀ {xs : List V} {ps : List Pr}, Paired (fun x p => ∃ t, x = V.ref t ∧ SqT X.K H t [.int p.1, .int p.2]) xs ps → xs.zip ps = xs.map fun x => (x, k x) := by
    intro xs ps h
    induction h with
    | nil => rfl
    | cons h _ ih =>
      obtain ⟨t, e1, e2⟩ := h
      rw [List.zip_cons_cons, List.map_cons, ih, kx _ _ t e1 e2]
  have hx : ∀ x ∈ xs, ∃ t, x = V.ref t ∧ SqT X.K H t [.int (k x).1, .int (k x).2] := by
    intro x hx
    have : ∀ {xs : List V} {ps : List Pr}, Paired (fun x p => ∃ t, x = V.ref t ∧ SqT X.K H t [.int p.1, .int p.2]) xs ps → ∀ x ∈ xs, ∃ p : Pr, ∃ t, x = V.ref t ∧ SqT X.K H t [.int p.1, .int p.2] := by
      intro xs ps h
      induction h with
      | nil => intro x hx; cases hx
      | cons h _ ih =>
        intro x hx
        rcases List.mem_cons.mp hx with z | z
        · subst z; exact ⟨_, h⟩
        · exact ih x z
    obtain ⟨p, t, e1, e2⟩ := this hp x hx
    exact ⟨t, e1, by rw [kx x p t e1 e2]; exact e2⟩
  refine cr_sortedQ pins s σ H _ us Q I r ⟨a, xs, k, rfl, hs, hx, fun ys p h1 h2 hn => ?_⟩
  have z := q (ys.map fun y => (y, k y)) p (by rw [zk hp]; exact h2.perm.map _) (by
    rw [List.map_map]
    refine List.pairwise_map.mpr (h1.imp fun {x y} h => ?_)
    rw [plt_lex]
    exact h) hn
  rw [List.map_map] at z
  have e : ∀ ys : List V, (ys.map ((fun x : V × Pr => x.1) ∘ fun y => (y, k y))) = ys := fun ys => by
    induction ys with
    | nil => rfl
    | cons y ys ih => rw [List.map_cons, ih]; rfl
  rw [e] at z
  exact z
theorem prs_pair {W : Wd} {H : Hp} (s : Same W.F H) : ∀ {vs : List V} {ps : List Pr}, RepL K W vs (ps.map dpPr) → Paired (fun x p => ∃ t, x = V.ref t ∧ SqT K H t [.int p.1, .int p.2]) vs ps
  | _, [], h => by cases h; exact .nil
  | _, p :: ps, h => by
    cases h with
    | cons a b =>
      cases a with
      | tup h1 r1 =>
        have e1 := intsR (is := [p.1, p.2]) r1
        subst e1
        exact .cons ⟨_, rfl, Same.tup s h1⟩ (prs_pair s b)
theorem prs_zip {W : Wd} : ∀ {vs : List V} {ps : List Pr}, RepL K W vs (ps.map dpPr) → ∀ z ∈ vs.zip ps, Rep K W z.1 (dpPr z.2)
  | _, [], h, z, hz => by cases h; cases hz
  | _, p :: ps, h, z, hz => by
    cases h with
    | cons a b =>
      rw [List.zip_cons_cons] at hz
      rcases List.mem_cons.mp hz with e | e
      · subst e; exact a
      · exact prs_zip b z e
theorem repL_of {W : Wd} : ∀ {zs : List (V × Pr)}, (∀ z ∈ zs, Rep K W z.1 (dpPr z.2)) → RepL K W (zs.map (·.1)) ((zs.map (·.2)).map dpPr)
  | [], _ => .nil
  | z :: zs, h => .cons (h z List.mem_cons_self) (repL_of fun y hy => h y (List.mem_cons_of_mem _ hy))
theorem dr_sortedP {ps : List Pr} {x : Dat} (s : x = .lst (ps.map dpPr) ∨ ∃ k, x = .cell k ∧ ms[k]? = some (.lst (ps.map dpPr))) (q : ∀ ps' : List Pr, ps'.Perm ps → ps'.Pairwise (fun a b => plt b a = false) → P (.lst (ps'.map dpPr)) ms) : DR K (rSortedR K) [x] ms P := fun W G H vs Q gd r k => by
  cases r with
  | cons r1 rr =>
    cases rr
    obtain ⟨a, us, rfl, hq, rl⟩ := lstSq gd r1 (by rcases s with s | ⟨kk, s1, s2⟩; exact .inl s; exact .inr (.inr ⟨kk, s1, s2⟩))
    refine ⟨a, us, ps, rfl, hq, prs_pair gd.fz rl, fun zs p hp hs hn => ?_⟩
    have hl : us.length = ps.length := by have := rl.length; simpa using this
    obtain ⟨g2, l2⟩ := gd.laid (o := .lst (zs.map (·.1))) hn
    have rz : RepL K W (zs.map (·.1)) ((zs.map (·.2)).map dpPr) := repL_of fun z hz => prs_zip rl z (hp.mem_iff.mp hz)
    refine k _ _ _ _ _ l2 g2 (.lst upd_same (RepL.mono l2 _ _ rz)) (q _ ?_ hs)
    have := hp.map (fun z : V × Pr => z.2)
    rwa [List.map_snd_zip (by omega)] at this
end
end DL
namespace DL
open PySem PySem.Spec PyProof.Rows L2
/-! ### first, *rest = a list -/
section
variable {prog : Program} {w : World} {A : Around} {E : Value → Shared → Prop} {s : Shared}
/-- what is left of a list's iterator -/
theorem rest_walk {it l : Addr} {items : Array Value} {i : Nat} (hne : l ≠ it) (hh : A.handled = none) (hi : i ≤ items.size) :
    WalksS prog w A it [it, l] [it] (fun a b => a = b) (items.size - i) (fun j v => items[i + j]? = some v) (fun j s => s.heap.IsListIter it l (i + j) ∧ s.heap.IsList l items) := by
  refine ⟨fun b hb => by simp at hb; simp [hb], fun _ => rfl, fun _ _ _ a b => a.trans b, ?_, ?_, ?_, ?_⟩
  · rintro j s h' tk ⟨⟨o, h1, h2⟩, ⟨o', h3, h4⟩⟩ _ k
    exact ⟨⟨o, k it (by simp) o h1, h2⟩, ⟨o', k l (by simp) o' h3, h4⟩⟩
  · rintro j s Q E hj ⟨h1, h2⟩ hQ
    have hl : i + j < items.size := by omega
    refine wpAny_pyNext_list_item h1 h2 (x := items[i + j]) (by simp [hl]) fun h' hit hs => ?_
    refine hQ _ { s with heap := h' } (by simp [hl]) ⟨by rw [← Nat.add_assoc]; exact hit, h2.extBut hs.extBut hne⟩ ?_
    exact ⟨fun b o hb e => hs.extBut b o (fun z => hb (by simp [z])) e, rfl, rfl, rfl, Nat.le_refl _⟩
  · rintro s Q E ⟨h1, h2⟩ hQ
    refine wpAny_pyNext_list_end hh h1 h2 (by simp; omega) fun h' he => hQ { s with heap := h' } ⟨fun b o hb e => he b o (fun z => hb (by simp [z])) e, rfl, rfl, rfl, Nat.le_refl _⟩
  · rintro j s Q E ⟨h1, _⟩ hQ
    exact wpAny_pyIter_listiter h1 hQ
theorem acc_is {Pv : Nat → Value → Prop} {acc : Array Value} {out : List Value} (h : ItemsOf Pv acc out.length) (hP : ∀ j v, Pv j v → out[j]? = some v) : acc.toList = out := by
  refine List.ext_getElem? fun j => ?_
  by_cases hj : j < out.length
  · have ha : j < acc.size := by rw [h.1]; exact hj
    rw [Array.getElem?_toList, Array.getElem?_eq_getElem ha]
    exact (hP j _ (h.2 j _ (Array.getElem?_eq_getElem ha))).symm
  · have hs : acc.toList.length = out.length := by rw [Array.length_toList]; exact h.1
    rw [List.getElem?_eq_none (by omega), List.getElem?_eq_none (by omega)]
theorem unpack_star {l : Addr} {items : Array Value} {Q : List Value → Shared → Prop} (hh : A.handled = none) (hl : s.heap.IsList l items) (h1 : 1 ≤ items.size) (hz : items.size ≤ sizeLine)
    (hQ : ∀ s' : Shared, (∀ b o, s.heap.get? b = some o → s'.heap.get? b = some o) → s'.gens = s.gens → s'.drawn = s.drawn → s'.os = s.os → s.toks ≤ s'.toks →
      Q [items[0], .ref s'.heap.objs.size] { s' with heap := s'.heap.push { cls := .type "list", data := .seq (items.toList.drop 1).toArray } }) : wpAny (model prog w) A (unpackItems (.ref l) 2 (some 1)) Q E s := by
  have hlt : l < s.heap.objs.size := by obtain ⟨o, ho, _⟩ := hl; exact Heap.lt_size ho
  have hne : l ≠ s.heap.objs.size := Nat.ne_of_lt hlt
  unfold unpackItems notIterableAtAll
  refine wpAny_bind (wpAny_bind (wpAny_specialOf hl.typeIs slot_list_iter.lookup (wpAny_pure ?_)))
  rw [if_neg (by simp)]
  refine wpAny_bind (wpAny_holding (wpAny_pyIter_list hl ?_))
  dsimp only
  refine wpAny_bind (wpAny_holding (PySem.W.kun_draw hne 1 0 _ _ ⟨_, Heap.get?_push_size _ rfl, rfl, rfl⟩ (hl.push _) (by omega) fun h₁ hit₁ hs₁ => ?_))
  have hl₁ : h₁.IsList l items := (hl.push _).extBut hs₁.extBut hne
  have e1 : (items.toList.drop 0).take 1 = [items[0]] := by
    rw [List.drop_zero]
    cases hi : items.toList with
    | nil => have : items.toList.length = 0 := by rw [hi]; rfl
             rw [Array.length_toList] at this; omega
    | cons x xs =>
      rw [List.take_succ_cons, List.take_zero]
      have : items.toList[0]? = some x := by rw [hi]; rfl
      rw [Array.getElem?_toList, Array.getElem?_eq_getElem (by omega)] at this
      rw [Option.some.inj this]
  rw [e1]
  rw [if_neg (by simp)]
  have sz1 : s.heap.objs.size + 1 = h₁.objs.size ∨ s.heap.objs.size < h₁.objs.size := by
    right
    obtain ⟨o, ho, _⟩ := hit₁
    exact Heap.lt_size ho
  have lt1 : s.heap.objs.size < h₁.objs.size := by rcases sz1 with z | z <;> omega
  refine wpAny_bind (wpAny_holding (wpAny_collect_iter (T := "list_iterator") (.inr (.inr (.inl rfl))) (rest_walk (i := 1) hne (show A.in1.handled = none from hh) h1) (fun i s h => h.1.typeIs) ⟨hit₁, hl₁⟩ (fun b hb => ?_) (by simp) (fun s' acc hm hi => ?_) (by omega)))
  · simp only [List.mem_cons, List.not_mem_nil, or_false] at hb
    rcases hb with e | e
    · rw [e]; exact lt1
    · rw [e]; exact Nat.lt_trans hlt lt1
  · have ea : acc.toList = items.toList.drop 1 := by
      refine acc_is (Pv := fun j v => items[1 + j]? = some v) ?_ fun j v h => ?_
      · rw [List.length_drop, Array.length_toList]; exact hi
      · rw [List.getElem?_drop, Array.getElem?_toList]; exact h
    rw [ea]
    rw [if_neg (by simp)]
    have e2 : ((items.toList.drop 1).take ((items.toList.drop 1).length - (2 - 1 - 1))) = items.toList.drop 1 := List.take_length
    have e3 : ((items.toList.drop 1).drop ((items.toList.drop 1).length - (2 - 1 - 1))) = [] := List.drop_length
    rw [e2, e3]
    refine wpAny_bind (wpAny_newObj_type (wpAny_pure ?_) (by show (items.toList.drop 1).toArray.size ≤ sizeLine; rw [List.size_toArray, List.length_drop, Array.length_toList]; omega))
    refine hQ s' (fun b o e => ?_) hm.gens.symm hm.drawn hm.os hm.toks
    have hb := Heap.lt_size e
    refine hm.heap b o (fun z => absurd (List.mem_singleton.mp z) (Nat.ne_of_lt hb)) ?_
    exact hs₁.extBut b o (Nat.ne_of_lt hb) (Heap.get?_push_of_some _ e)
end
section
variable {X : Cx} {e1 e2 : Expr} {p pos : Pos} {k : Nat} {t1 t2 : TG}
/-- a, *b = a list -/
def gStar (K : PySem.W.Frag) (t1 t2 : TG) : TG := fun v σ H Q => ∃ a x xs, v = .ref a ∧ SqL K H a (x :: xs) ∧ ∀ D, H D = none → t1 x σ (upd H D (.lst xs)) fun σ1 H1 => t2 (.ref D) σ1 H1 Q
theorem pg_star (hc : X.calm = true) (h1 : PG X e1 t1) (h2 : PG X e2 t2) (hs : assignEach [e1, .Starred e2 p] X.env = [(false, assign e1 X.env), (true, assign e2 X.env)] := by rfl) : PG X (.Tuple [e1, .Starred e2 p] k pos) (gStar X.K t1 t2) := by
  refine ⟨fun pins s σ H v u Q I r hw => ?_⟩
  obtain ⟨a, x, xs, rfl, hq, hw⟩ := hw
  cases r
  obtain ⟨its, rv, pl, hz⟩ := I.list hq
  have hl : s.heap.IsList a its.toArray := by
    obtain ⟨o, m, e, c, d, q⟩ := pl
    exact ⟨o, e, c, m, q⟩
  cases rv with
  | @cons _ u0 _ us r0 rr =>
    rw [PyProof.Rows.assign_Tuple]
    refine wpAny_bind (wpAny_standAt ?_)
    unfold unpack
    rw [hs]
    refine wpAny_bind (wpAny_holding (unpack_star (I.ok.hd hc) hl (by simp) (by rw [List.size_toArray, ← (Paired.length (.cons r0 rr : Vals (x :: xs) (u0 :: us)))]; exact hz) fun s' hk hg hd ho ht => ?_))
    obtain ⟨h', g', d', t', o'⟩ := s'
    simp only at hg hd ho
    subst hg; subst hd; subst ho
    have I1 : Inv X pins σ H { s with heap := h', toks := t' } := I.kept (t' := t') hk
    have I2 : Inv X pins σ (upd H h'.objs.size (.lst xs)) { s with heap := h'.push { cls := .type "list", data := .seq us.toArray }, toks := t' } := I1.lnew (t' := t') rr (by
      have := Paired.length rr
      simp only [List.length_cons] at hz
      omega)
    have hn : H h'.objs.size = none := I1.hok.fresh (Nat.le_refl _)
    show wpAny _ _ (assignInOrder [assign e1 X.env, assign e2 X.env] [u0, .ref h'.objs.size]) _ _ _
    refine assignInOrder_cons (thn (h1.run pins _ σ _ _ _ _ I2 r0 (hw _ hn)) fun _ s1 ⟨σ1, H1, J1, q1⟩ => ?_)
    refine assignInOrder_cons (thn (h2.run pins s1 σ1 H1 (V.ref h'.objs.size) _ _ J1 rfl q1) fun _ s2 ⟨σ2, H2, J2, q2⟩ => ?_)
    exact wpAny_pure ⟨σ2, H2, J2, q2⟩
end
section
variable {K : PySem.W.Frag} {e : Ev} {ms : Ms} {t1 t2 : TG} {vs : List Nat} {P : Ev → Ms → Prop} {x : Dat} {xs : List Dat}
theorem dg_star (h : DG K t1 x e ms vs (fun e1 m1 => DG K t2 (.lst xs) e1 m1 vs P)) : DG K (gStar K t1 t2) (.lst (x :: xs)) e ms vs P := fun W G σ H v Q g s r k => by
  cases r with
  | lst e0 rl =>
    cases rl with
    | cons r1 r2 =>
      refine ⟨_, _, _, rfl, .inl (.inl (g.fz _ _ e0)), fun D hD => ?_⟩
      obtain ⟨g2, l2⟩ := g.laid (o := .lst _) hD
      refine h _ G σ _ _ _ g2 (s.mono l2) (Rep.mono l2 _ _ r1) fun W3 σ3 e3 H3 m3 l3 g3 s3 o3 p3 => ?_
      refine p3 W3 G σ3 H3 _ Q g3 s3 (.lst (l3.f _ _ upd_same) (RepL.mono (l2.trans l3) _ _ r2)) fun W4 σ4 e4 H4 m4 l4 g4 s4 o4 p4 => ?_
      exact k W4 σ4 e4 H4 m4 (l2.trans (l3.trans l4)) g4 s4 ⟨o4.1.trans o3.1, fun i hi => (o4.2 i hi).trans (o3.2 i hi)⟩ p4
end
end DL
namespace DL
open PySem PySem.Spec PyProof.Rows L2
section
variable {K : PySem.W.Frag} {R : WX} {e : Ev} {ms : Ms} {O : Out} {X : XP} {ta te tv : TE} {tA tr : TA} {P : Dat → Ms → Prop}
/-! ### pop -/
theorem repL_dropLast {W : Wd} : ∀ {vs : List V} {ds : List Dat}, RepL K W vs ds → RepL K W vs.dropLast ds.dropLast
  | _, [], h => by cases h; exact .nil
  | _, [d], h => by cases h with | cons a b => cases b; exact .nil
  | _, d :: d' :: ds, h => by
    cases h with
    | cons a b =>
      have := repL_dropLast b
      cases b with
      | cons b1 b2 => exact .cons a this
theorem repL_erase {W : Wd} : ∀ {vs : List V} {ds : List Dat}, RepL K W vs ds → ∀ (i : Nat), RepL K W (vs.eraseIdx i) (ds.eraseIdx i)
  | _, [], h, i => by cases h; exact .nil
  | _, d :: ds, h, 0 => by cases h with | cons a b => exact b
  | _, d :: ds, h, i + 1 => by cases h with | cons a b => exact .cons a (repL_erase b i)
theorem dr_pop {k : Nat} {xs : List Dat} {d : Dat} (h : ms[k]? = some (.lst (xs ++ [d]))) (q : P d (ms.set k (.lst xs))) :
    DR K (fun vs => match vs with | v :: ws => rPop v ws | [] => fun _ _ => False) [.cell k] ms P := fun W G H vs Q g r kk => by
  cases r with
  | cons r1 rr =>
    cases rr
    cases r1 with
    | cell e =>
      obtain ⟨us, e1, rl⟩ := (show MoOk K W H _ (.lst (xs ++ [d])) from g.cl _ _ _ e h)
      have hl : us.length = xs.length + 1 := by rw [rl.length]; simp
      obtain ⟨v, hv, rv⟩ := RepL.getD rl xs.length (d := d) (by simp)
      have rd := repL_dropLast rl
      rw [List.dropLast_concat] at rd
      exact ⟨_, us, v, rfl, rfl, e1, by rw [hl]; exact hv, kk W _ _ _ _ (Le.refl W) (g.setC e (o := .lst us.dropLast) (m := .lst xs) ⟨_, upd_same, rd⟩) rv q⟩
theorem dr_popAt {k : Nat} {xs : List Dat} {d : Dat} {i : Nat} (h : ms[k]? = some (.lst xs)) (hd : xs[i]? = some d) (hs : xs.length ≤ 1000000) (q : P d (ms.set k (.lst (xs.eraseIdx i)))) :
    DR K (fun vs => match vs with | v :: ws => rPopAt v ws | [] => fun _ _ => False) [.cell k, .int i] ms P := fun W G H vs Q g r kk => by
  cases r with
  | cons r1 rr => cases rr with
    | cons r2 rr =>
      cases rr; cases r2
      cases r1 with
      | cell e =>
        obtain ⟨us, e1, rl⟩ := (show MoOk K W H _ (.lst xs) from g.cl _ _ _ e h)
        obtain ⟨v, hv, rv⟩ := RepL.getD rl i hd
        have hi : i < us.length := (List.getElem?_eq_some_iff.mp hv).1
        have hl := rl.length
        refine ⟨_, us, _, i, v, rfl, rfl, e1, by omega, by omega, ?_, hv, kk W _ _ _ _ (Le.refl W) (g.setC e (o := .lst (us.eraseIdx i)) (m := .lst (xs.eraseIdx i)) ⟨_, upd_same, repL_erase rl i⟩) rv q⟩
        unfold seqIndex?
        simp
        omega
/-! ### *e among the arguments -/
theorem da_star {PA : List Dat → Ms → Prop} (h : DE K R te e ms (fun x m => ∃ xs, SeqV m x xs ∧ DA K R tr e m (fun ys m' => PA (xs ++ ys) m') X) X) : DA K R (StX.tStar K te tr) e ms PA X := fun W G σ H Q g s k x =>
  h W G σ H _ g s (fun W1 v d H1 m1 l1 g1 r1 ⟨xs, hs, h1⟩ => by
    obtain ⟨a, vs, rfl, hq, rl⟩ := seq_rep g1 r1 hs
    refine ⟨a, vs, rfl, hq.symm, ?_⟩
    exact h1 W1 G σ H1 _ g1 (s.mono l1) (fun W2 us ds H2 m2 l2 g2 r2 q => k W2 _ _ H2 m2 (l1.trans l2) g2 (repL_app (RepL.mono l2 _ _ rl) r2) q) (x.le l1)) x
/-! ### f-strings of ints, str(i) -/
theorem de_fmtI (h : DE K R te e ms (fun d m => ∃ i : Int, d = .int i ∧ i.natAbs.log2 < 1920 ∧ P (.str (toString i)) m) X) : DE K R (tFmt te) e ms P X := fun W G σ H Q g s k x =>
  h W G σ H _ g s (fun W1 v d H1 m1 l1 g1 r1 ⟨i, hi, hl, p⟩ => by
    subst hi; cases r1
    exact .inr ⟨i, rfl, hl, k W1 _ _ H1 m1 l1 g1 (.str _) p⟩) x
theorem dr_strI {i : Int} (hl : i.natAbs.log2 < 1920) (q : P (.str (toString i)) ms) : DR K (fun xs H Q => ∃ i, xs = [.int i] ∧ i.natAbs.log2 < 1920 ∧ Q (.str (toString i)) H) [.int i] ms P := fun W G H vs Q g r k => by
  cases r with
  | cons r1 rr =>
    cases rr; cases r1
    exact ⟨i, rfl, hl, k W _ _ H ms (Le.refl W) g (.str _) q⟩
/-! ### tuple(x), list(x) -/
theorem dr_tupOf {x : Dat} {xs : List Dat} (s : SeqV ms x xs) (q : P (.tup xs) ms) :
    DR K (fun xs H Q => ∃ p ys, xs = [V.ref p] ∧ ((SqL K H p ys ∧ ∀ l, H l = none → Q (.ref l) (upd H l (.tup ys))) ∨ (SqT K H p ys ∧ Q (.ref p) H))) [x] ms P := fun W G H vs Q g r k => by
  cases r with
  | cons r1 rr =>
    cases rr
    rcases s with s | s | s | ⟨kk, s, e⟩
    · obtain ⟨a, us, rfl, hq, rl⟩ := lstSq g r1 (.inl s)
      exact ⟨a, us, rfl, .inl ⟨hq, fun l hl => by
        obtain ⟨g2, l2⟩ := g.laid (o := .tup us) hl
        exact k _ _ _ _ _ l2 g2 (.tup (.inl (.inl upd_same)) (RepL.mono l2 _ _ rl)) q⟩⟩
    · subst s
      cases r1 with
      | tup h1 r2 => exact ⟨_, _, rfl, .inr ⟨Same.tup g.fz h1, k W _ _ H ms (Le.refl W) g (.tup h1 r2) q⟩⟩
    · obtain ⟨a, us, rfl, hq, rl⟩ := lstSq g r1 (.inr (.inl s))
      exact ⟨a, us, rfl, .inl ⟨hq, fun l hl => by
        obtain ⟨g2, l2⟩ := g.laid (o := .tup us) hl
        exact k _ _ _ _ _ l2 g2 (.tup (.inl (.inl upd_same)) (RepL.mono l2 _ _ rl)) q⟩⟩
    · obtain ⟨a, us, rfl, hq, rl⟩ := lstSq g r1 (.inr (.inr ⟨kk, s, e⟩))
      exact ⟨a, us, rfl, .inl ⟨hq, fun l hl => by
        obtain ⟨g2, l2⟩ := g.laid (o := .tup us) hl
        exact k _ _ _ _ _ l2 g2 (.tup (.inl (.inl upd_same)) (RepL.mono l2 _ _ rl)) q⟩⟩
theorem dr_listF {x : Dat} {xs : List Dat} (s : SeqV ms x xs) (q : P (.lst xs) ms) :
    DR K (fun vs H Q => ∃ p ys, vs = [V.ref p] ∧ (SqL K H p ys ∨ SqT K H p ys) ∧ ∀ l, H l = none → Q (.ref l) (upd H l (.lst ys))) [x] ms P := fun W G H vs Q g r k => by
  cases r with
  | cons r1 rr =>
    cases rr
    obtain ⟨a, us, rfl, hq, rl⟩ := seq_rep g r1 s
    refine ⟨a, us, rfl, hq, fun l hl => ?_⟩
    obtain ⟨g2, l2⟩ := g.laid (o := .lst us) hl
    exact k _ _ _ _ _ l2 g2 (.lst upd_same (RepL.mono l2 _ _ rl)) q
/-! ### list(range(n)) -/
def rgD (n : Nat) : List Dat := (List.range n).map fun (i : Nat) => Dat.int (0 + (i : Int))
theorem rep_rg {W : Wd} (n : Nat) : RepL K W (rgV 0 n) (rgD n) := by
  unfold rgV rgD
  rw [show ((n : Int) - 0).toNat = n by omega]
  generalize List.range n = l
  induction l with
  | nil => exact .nil
  | cons i l ih => exact .cons (.int _) ih
theorem de_lstRgC (h : DE K R te e ms (fun d m => ∃ n : Nat, d = .int n ∧ n ≤ 1000000 ∧ P (.cell m.length) (m ++ [.lst (rgD n)])) X) : DE K R (tLstRg (tRg1 te)) e ms P X := fun W G σ H Q g s k x =>
  h W G σ H _ g s (fun W1 v d H1 m1 l1 g1 r1 ⟨n, hd, hn, p⟩ => by
    subst hd; cases r1
    refine ⟨n, rfl, RgOk.of_le (by omega) (by omega) (by omega) (by omega), fun q hq => ?_⟩
    have l2 : Le W1 ⟨W1.ι ++ [q], W1.F⟩ := ⟨List.prefix_append _ _, Same.refl _⟩
    obtain ⟨g2, _⟩ := g1.newC (p := q) (o := .lst (rgV 0 n)) hq (m := .lst (rgD n)) ⟨_, upd_same, rep_rg n⟩
    exact k _ _ _ _ _ (l1.trans l2) g2 (.cell (by show (W1.ι ++ [q])[m1.length]? = some q; rw [← g1.ln]; simp)) p) x
theorem de_lstRg (h : DE K R te e ms (fun d m => ∃ n : Nat, d = .int n ∧ n ≤ 1000000 ∧ P (.lst (rgD n)) m) X) : DE K R (tLstRg (tRg1 te)) e ms P X := fun W G σ H Q g s k x =>
  h W G σ H _ g s (fun W1 v d H1 m1 l1 g1 r1 ⟨n, hd, hn, p⟩ => by
    subst hd; cases r1
    refine ⟨n, rfl, RgOk.of_le (by omega) (by omega) (by omega) (by omega), fun q hq => ?_⟩
    obtain ⟨g2, l2⟩ := g1.laid (o := .lst (rgV 0 n)) hq
    exact k _ _ _ _ _ (l1.trans l2) g2 (.lst upd_same (rep_rg n)) p) x
/-! ### texts: split, join, endswith, replace, xs[::-1] -/
theorem repStrs {W : Wd} : ∀ (ys : List Str), RepL K W (ys.map V.str) (ys.map Dat.str)
  | [] => .nil
  | y :: ys => .cons (.str y) (repStrs ys)
theorem dr_split {a b : Str} (hb : (b.length == 0) = false) (hl : a.length ≤ 1000000) (q : P (.lst ((Txt.split a b).map Dat.str)) ms) :
    DR K (fun vs => match vs with | v :: ws => (fun x xs H Q => ∃ a b, x = V.str a ∧ xs = [V.str b] ∧ (b.length == 0) = false ∧ a.length + 2 ≤ sizeLine ∧ rNewStrs (Txt.split a b) H Q) v ws | [] => fun _ _ => False) [.str a, .str b] ms P := fun W G H vs Q g r k => by
  cases r with
  | cons r1 rr => cases rr with
    | cons r2 rr =>
      cases rr; cases r1; cases r2
      refine ⟨a, b, rfl, rfl, hb, by rw [sizeLine_eq]; omega, fun p hp => ?_⟩
      obtain ⟨g2, l2⟩ := g.laid (o := .lst ((Txt.split a b).map V.str)) hp
      exact k _ _ _ _ _ l2 g2 (.lst upd_same (repStrs _)) q
theorem dr_endswith {a b : Str} (q : P (.bl (Txt.endswith a b)) ms) : DR K (fun vs => match vs with | v :: ws => (fun x xs H Q => ∃ a b, x = V.str a ∧ xs = [V.str b] ∧ Q (.bl (Txt.endswith a b)) H) v ws | [] => fun _ _ => False) [.str a, .str b] ms P := fun W G H vs Q g r k => by
  cases r with
  | cons r1 rr => cases rr with
    | cons r2 rr =>
      cases rr; cases r1; cases r2
      exact ⟨a, b, rfl, rfl, k W _ _ H ms (Le.refl W) g (.bl _) q⟩
theorem de_repl {to : TE} {y z : Str} (h : DE K R to e ms (fun d m => ∃ x, d = .str x ∧ x.length + (x.length + 1) * z.length ≤ 16777216 ∧ P (.str (Txt.replace x y z)) m) X) : DE K R (CwR.tReplC to y z) e ms P X := fun W G σ H Q g s k x =>
  h W G σ H _ g s (fun W1 v d H1 m1 l1 g1 r1 ⟨x, hx, hl, p⟩ => by
    subst hx; cases r1
    exact ⟨x, rfl, hl, k W1 _ _ H1 m1 l1 g1 (.str _) p⟩) x
theorem repL_rev2 {W : Wd} {ds : List Dat} {vs : List V} (h : RepL K W vs ds) : RepL K W vs.reverse ds.reverse := repL_rev h
theorem de_revL (h : DE K R te e ms (fun x m => ∃ xs, (x = .lst xs ∨ x = .rol xs ∨ ∃ k, x = .cell k ∧ m[k]? = some (.lst xs)) ∧ P (.lst xs.reverse) m) X) : DE K R (tRevL K te) e ms P X := fun W G σ H Q g s k x =>
  h W G σ H _ g s (fun W1 v d H1 m1 l1 g1 r1 ⟨xs, hs, p⟩ => by
    obtain ⟨a, us, rfl, hq, rl⟩ := lstSq g1 r1 hs
    refine ⟨a, us, rfl, hq, fun l hl => ?_⟩
    obtain ⟨g2, l2⟩ := g1.laid (o := .lst us.reverse) hl
    exact k _ _ _ _ _ (l1.trans l2) g2 (.lst upd_same (RepL.mono l2 _ _ (repL_rev rl))) p) x
/-! ### isinstance, more -/
theorem ins_tyx {W : Wd} {G H : Hp} {v : V} {k : Nat} {C : Addr} {fs : List (Str × Dat)} (g : Good K W G H ms) (r : Rep K W v (.cell k)) (e : ms[k]? = some (.ins C fs)) (T : InsT K C) : TyX K H v (.ref C) := by
  obtain ⟨a, dx, us, rfl, _, h1, _⟩ := ins_cell g r e
  exact .base (.ins h1 T.c T.ha T.hn T.tk T.mo)
theorem dr_isiIns {k : Nat} {C : Addr} {fs : List (Str × Dat)} {b : Bool} {D : Addr} (T : InsT K C) (h : ms[k]? = some (.ins C fs)) (hb : PySem.W.kitOne K (.ref C) (.ref D) = some b) (q : P (.bl b) ms) : DR K (rIsiX K) [.cell k, .ref D] ms P := fun W G H vs Q gd r kk => by
  cases r with
  | cons r1 rr => cases rr with
    | cons r2 rr =>
      cases rr; cases r2
      exact .inl (.inl ⟨_, _, .ref C, .ref D, b, rfl, .own D, ins_tyx gd r1 h T, hb, kk W _ _ H ms (Le.refl W) gd (.bl _) q⟩)
end
end DL
namespace DL
open PySem PySem.Spec PyProof.Rows L2
/-! ### arguments behind a token (str.replace of written texts wants one) -/
section
variable {X : Cx} {e f : Expr} {es : List Expr} {te tf : TE} {t : TA} {y : Str} {op : Operator} {r : R2} {k : Nat} {p pos : Pos}
theorem pat_of (h : PA X es t) : PAT X es t := fun pos pins s σ H Q _ I q => h.run pos pins s σ H Q I q
theorem pat_cons (ha : PET X e te) (hr : PAT X es t) (hs : starEach (e :: es) X.env = (false, eval e X.env) :: starEach es X.env := by rfl) : PAT X (e :: es) (tCons te t) := by
  intro pos pins s σ H Q h0 I h
  rw [hs]
  show wpAny _ _ (spliced ((false, eval e X.env) :: backTo pos (starEach es X.env))) _ _ s
  refine Calls.spliced_cons (wpAny_mono (PySem.wpAny_toks (ha pins s σ H _ h0 I h)) (fun u s1 z => ?_) fun _ _ z => z.2)
  obtain ⟨hk, x, H1, I1, r1, q1⟩ := z
  exact thn (hr pos pins s1 σ H1 _ (Nat.le_trans h0 hk) I1 q1) fun us s2 ⟨xs, H2, I2, r2, q2⟩ => ⟨x :: xs, H2, I2, .cons r1 r2, q2⟩
/-- it leaves a token behind -/
def PEb (X : Cx) (e : Expr) (t : TE) : Prop := ∀ (pins : List (Addr × Obj)) (s : Shared) (σ : L2.St) (H : Hp) (Q : VK), Inv X pins σ H s → t σ H Q → wpAny (model X.prog X.w) X.A (eval e X.env) (fun u s' => 1 ≤ s'.toks ∧ EP X pins σ Q u s') X.xe s
theorem peb_op (ho : OpR X (binaryOp op) r) (hb : PE X f tf) : PEb X (.BinOp (.Constant (.str y) k p) op f pos) (tOp r (tC (.str y)) tf) := by
  intro pins s σ H Q I h
  refine wpAny_BinOp (Calls.Constant_str ?_)
  have h1 := thn (hb.run pins { s with toks := s.toks + 1 } σ H _ (I.tok _) h) fun u s2 (hh : EP X pins σ _ u s2) => (show wpAny (model X.prog X.w) X.A (binaryOp op (.str y s.toks) u) (EP X pins σ Q) X.xe s2 from by
    obtain ⟨z, H2, I2, r2, q2⟩ := hh
    exact ho pins s2 σ H2 (.str y) z _ u Q I2 ⟨_, rfl⟩ r2 q2)
  refine wpAny_mono (PySem.wpAny_toks_of (n := 1) (by show 1 ≤ s.toks + 1; omega) h1) (fun a s' z => ?_) fun _ _ z => z.2
  obtain ⟨hk, z⟩ := z
  refine wpAny_mono (PySem.wpAny_toks_of (n := 1) hk z) (fun a s' z => z) fun _ _ z => z.2
theorem pa_consB (ha : PEb X e te) (hr : PAT X es t) (hs : starEach (e :: es) X.env = (false, eval e X.env) :: starEach es X.env := by rfl) : PA X (e :: es) (tCons te t) := by
  refine ⟨fun pos pins s σ H Q I h => ?_⟩
  rw [hs]
  show wpAny _ _ (spliced ((false, eval e X.env) :: backTo pos (starEach es X.env))) _ _ s
  refine Calls.spliced_cons (thn (ha pins s σ H _ I h) fun u s1 z => ?_)
  obtain ⟨hk, x, H1, I1, r1, q1⟩ := z
  exact thn (hr pos pins s1 σ H1 _ hk I1 q1) fun us s2 ⟨xs, H2, I2, r2, q2⟩ => ⟨x :: xs, H2, I2, .cons r1 r2, q2⟩
end
/-! ### isinstance against a tuple of classes, of any value -/
def rIsiTT (K : PySem.W.Frag) : List V → Hp → VK → Prop := fun xs H Q => ∃ (x : V) (tp : Addr) (cs : List V) (t : Value) (us : List Value) (b : Bool), xs = [x, .ref tp] ∧ SqT K H tp cs ∧ Paired ClsV cs us ∧ TyX K H x t ∧ PySem.W.kitAny K t us = some b ∧ Q (.bl b) H
theorem call_isiTT {X : Cx} : CallR X (.builtin "isinstance") (rIsiTT X.K) := by
  rintro pins s σ H xs us Q I r ⟨x, tp, cs, t, ws, b, rfl, hT, k, ty, e, q⟩
  obtain ⟨u1, u2, rfl, r1, r2⟩ := vals2 r
  cases (show u2 = Value.ref tp from r2)
  obtain ⟨P, Z, p, hx⟩ := kit_of I r1 ty
  obtain ⟨its, rv, ⟨o, h1, h2, n, h3⟩, _⟩ := I.tuple hT
  have e3 := ClsV.all k rv
  subst e3
  obtain ⟨oc, od, dt, sl⟩ := o
  simp only at h2 h3
  subst h2 h3
  exact PySem.W.kia_tup Z I.kIn p h1 e hx fun tk => ⟨.bl b, H, I.tok tk, rfl, q⟩
def rIsiY (K : PySem.W.Frag) : List V → Hp → VK → Prop := fun xs H Q => rIsiX K xs H Q ∨ rIsiTT K xs H Q
theorem call_isiY {X : Cx} : CallR X (.builtin "isinstance") (rIsiY X.K) := orC call_isiX call_isiTT
section
variable {K : PySem.W.Frag} {ms : Ms} {P : Dat → Ms → Prop}
theorem dr_isiLT {x : Dat} {T : String} {b : Bool} (ht : tyOf ms x = some T) (hb : (kitB T "list", kitB T "tuple") = (some (T == "list"), some (T == "tuple"))) (he : (T == "list" || T == "tuple") = b) (q : P (.bl b) ms) : DR K (rIsiY K) [x, .tup [.ty "list", .ty "tuple"]] ms P := fun W G H vs Q gd r k => by
  cases r with
  | cons r1 rr => cases rr with
    | cons r2 rr =>
      cases rr
      cases r2 with
      | tup hq rl =>
        cases rl with
        | cons a1 b1 => cases b1 with
          | cons a2 b2 =>
            cases b2; cases a1; cases a2
            refine .inr ⟨_, _, [.ty "list", .ty "tuple"], .type T, [.type "list", .type "tuple"], b, rfl, Same.tup gd.fz hq, .cons (.ty _) (.cons (.ty _) .nil), tyx_of gd ht r1, ?_, k W _ _ H ms (Le.refl W) gd (.bl _) q⟩
            rw [← he]
            exact kit2 (kit_ty (congrArg Prod.fst hb)) (kit_ty (congrArg Prod.snd hb))
theorem dr_Y {ds : List Dat} (h : DR K (rIsiX K) ds ms P) : DR K (rIsiY K) ds ms P := fun W G H vs Q gd r k => .inl (h W G H vs Q gd r k)
end
end DL
/-! ### x != y of two instances whose class has an own __eq__ and no __ne__ -/
namespace PySem.DLN
open PySem PySem.Spec PyProof.Rows PySem.SeqAt
section
variable {prog : Program} {w : World} {A : Around} {E : Value → Shared → Prop} {s : Shared} {K : PySem.W.Frag} {x C f : Addr} {ox : Obj} {od : Option Obj} {b : Value}
theorem bound_ne {M : Model} {args : List Value} {Q : Option Value → Shared → Prop} (X : K.In s.heap) (I : PySem.W.InstAt s.heap x ox C od) (hs : PySem.W.findIn K (.ref C) "__ne__" = some (some (.builtin "object.__ne__")))
    (h : wpAny M A (call (.builtin "object.__ne__") (.ref x :: args)) (fun v => Q (some v)) E s) : wpAny M A (callSpecialIfBound? (.ref x) "__ne__" args) Q E s := by
  simp only [callSpecialIfBound?, bindSpecialIfBound?]
  refine wpAny_holding (wpAny_bind (wpAny_bind (wpAny_bind (I.type.here ((PySem.W.looks_findIn X hs).here ?_)))))
  refine wpAny_bind (wpAny_askSetting (wpAny_ite ?_))
  have last : wpAny M A (call (.builtin "object.__ne__") ([.ref x] ++ args) >>= fun v => pure (some v)) Q E s := wpAny_bind (wpAny_mono h (fun v s' h' => wpAny_pure h') fun _ _ h' => h')
  split
  · exact wpAny_bind (wpAny_of_eq (F.cmp_object.ne.bind _) (wpAny_pure (by exact last)))
  · exact wpAny_tryCatch (wpAny_bind (wpAny_of_eq (F.cmp_object.ne.bind _) (wpAny_pure (by exact last))))
theorem entry_ne {Q : Fin → Shared → Prop} (hu : A.units < cLine) (X : K.In s.heap) (I : PySem.W.InstAt s.heap x ox C od) (hs : PySem.W.findIn K (.ref C) "__eq__" = some (some (.ref f))) (hf : PySem.W.isFn K (.ref f) = true)
    (h : wpAny (model prog w) A (call (.ref f) [.ref x, b]) (fun v s' => ∃ c, v = .bool c ∧ Q (.done (.ret (.bool (!c)))) s') E s) : wpAny (model prog w) A (Builtin.«object.__ne__» ⟨[.ref x, b], []⟩) Q E s := by
  unfold Builtin.«object.__ne__»
  repeat (first
    | with_reducible refine wpAny_cRoomFor hu ?_
    | (refine wpAny_bind (m := callSpecialIfBound? (.ref x) (Str.ofString "__eq__") [b]) (PySem.W.ifBound_K X I hs hf (wpAny_mono h (fun r s' hr => by
          obtain ⟨c, rfl, hq⟩ := hr
          repeat (first | exact hq | exact wpAny_pure hq | exact wpAny_truthy_bool hq | (refine wpAny_bind (m := truthy (.bool _)) (wpAny_truthy_bool ?_)) | wp_step)) fun _ _ e => e)))
    | wp_step)
theorem rich_ne {Q : Value → Shared → Prop} {tb : Value} (hu : A.units + 1 < cLine) (X : K.In s.heap) (I : PySem.W.InstAt s.heap x ox C od) (hb : PySem.W.Looks (model prog w) s.heap (typeOf b) tb) (hn : tb = .ref C)
    (hm : PySem.W.mroIn K C (.type "object") = some true) (hs : PySem.W.findIn K (.ref C) "__ne__" = some (some (.builtin "object.__ne__"))) (he : PySem.W.findIn K (.ref C) "__eq__" = some (some (.ref f))) (hf : PySem.W.isFn K (.ref f) = true)
    (h : wpAny (model prog w) A.in1 (call (.ref f) [.ref x, b]) (fun v s' => ∃ c, v = .bool c ∧ Q (.bool (!c)) s') E s) : wpAny (model prog w) A (richCompare .NotEq (.ref x) b) Q E s := by
  subst hn
  have one : wpAny (model prog w) A (tryCompare (.ref x) "__ne__" b) (fun r s' => ∃ v, r = some v ∧ Q v s') E s := by
    unfold tryCompare
    refine wpAny_bind (bound_ne X I hs (wpAny_call (codeAny_call_builtin F.cmp_object.ne.plain F.cmpEntry_ne (PySem.W.check_slot F.cmpKind_ne F.cmpSplit_ne (I.type.andThen (PySem.W.looks_mroIn X hm)) (F.cmpArgs_ne _ _)
      (entry_ne (A := A.in1) hu X I he hf (wpAny_mono h (fun v s' hv => ?_) fun _ _ e => e))))))
    obtain ⟨c, rfl, hq⟩ := hv
    first | exact ⟨c, rfl, wpAny_pure ⟨_, rfl, hq⟩⟩ | exact ⟨c, rfl, _, rfl, hq⟩
  unfold richCompare
  simp only [oneThing_ref]
  refine wpAny_holding (wpAny_bind (wpAny_cRoomFor (by omega) ?_))
  refine wpAny_bind (I.type.here (wpAny_bind (hb.here ?_)))
  rw [show (Value.ref C != Value.ref C) = false from by simp]
  simp only [Bool.false_eq_true, if_false]
  refine wpAny_bind (wpAny_pure ?_)
  simp only [Bool.false_eq_true, if_false]
  refine wpAny_bind (wpAny_mono one (fun r s' z => ?_) fun _ _ e => e)
  obtain ⟨v, rfl, hq⟩ := z
  exact wpAny_pure hq
end
end PySem.DLN
namespace DL
open PySem PySem.Spec PyProof.Rows L2
/-- a class with an own __eq__ -/
structure EqC (K : PySem.W.Frag) (C f : Addr) : Prop where
  mo : PySem.W.mroIn K C (.type "object") = some true
  ne : PySem.W.findIn K (.ref C) "__ne__" = some (some (.builtin "object.__ne__"))
  eq : PySem.W.findIn K (.ref C) "__eq__" = some (some (.ref f))
  fn : PySem.W.isFn K (.ref f) = true
def rNeOwn (C : Addr) (sp : Sp) : R2 := fun x y H Q => ∃ a b dx dy fs gs, x = .ref a ∧ y = .ref b ∧ H a = some (.ins C dx fs) ∧ H b = some (.ins C dy gs) ∧ sp [.ref a, .ref b] H (fun v H' => ∃ c, v = .bl c ∧ Q (.bl (!c)) H') E0
section
variable {X : Cx} {k : Nat} {f C : Addr} {fd : FuncData} {ps : List Str} {sp : Sp}
theorem op_neOwn (F : FnG X.prog X.w X.K X.mg X.base (L2N.CX X.prog X.w) k f fd ps sp) (hr : Room (k + 1) X.A) (hq : Quiet X.A) (hb : Binds X.K fd ps []) (T : EqC X.K C f) : OpR X (compareOp .NotEq) (rNeOwn C sp) := by
  rintro pins s σ H x y v u Q I rx ry ⟨a, b, dx, dy, fs, gs, rfl, rfl, ha, hb', h⟩
  cases rx; cases ry
  obtain ⟨mA, J, _⟩ := ins_get I.hok ha
  obtain ⟨mB, J', _⟩ := ins_get I.hok hb'
  obtain ⟨od, J, _⟩ := J.look
  obtain ⟨od', J', _⟩ := J'.look
  show wpAny (model X.prog X.w) X.A (richCompare .NotEq (.ref a) (.ref b)) (EP X pins σ Q) X.xe s
  have hl := F.len _ _ _ _ h
  have e := I.env0
  have e0 : Env0 X.prog X.w X.K X.mg X.base X.A.in1 X.stack s H := ⟨e.frames, e.mod, e.bs, e.bsz, e.funs, e.frf, e.hok, e.bare⟩
  have hu := hr.un
  refine PySem.DLN.rich_ne (by omega) I.kIn J J'.type rfl T.mo T.ne T.eq T.fn (wpAny_call (codeAny_mono (F.go X.A.in1 X.stack s H ⟨[.ref a, .ref b], []⟩ [.ref a, .ref b] [.ref a, .ref b] _ E0 hr.in1 ⟨hq.g⟩ e0 (by
    have := hb s [.ref a, .ref b] I.kIn (by simpa using hl)
    simpa using this) (.cons rfl (.cons rfl .nil)) h) fun z s' hz => ?_))
  match z, hz with
  | .error er, hz => exact passN σ pins H s er s' I hz
  | .ok (.ret u), hz =>
    obtain ⟨v, H', I', rv, c, rfl, q⟩ := I.after hz
    cases rv
    exact ⟨c, rfl, .bl (!c), H', I', rfl, q⟩
  | .ok .next, hz => exact hz.elim
  | .ok .brk, hz => exact hz.elim
  | .ok .cont, hz => exact hz.elim
end
section
variable {K : PySem.W.Frag} {ms : Ms} {P : Dat → Ms → Prop} {C : Addr} {A : Pm}
theorem d2_neOwn {i j : Nat} {fs gs : List (Str × Dat)} (hi : ms[i]? = some (.ins C fs)) (hj : ms[j]? = some (.ins C gs)) (h : A [.cell i, .cell j] ms (fun d m => ∃ c, d = .bl c ∧ P (.bl (!c)) m) (fun _ _ _ => False)) : D2 K (rNeOwn C (spD K A)) (.cell i) (.cell j) ms P := fun W G H v w Q g rx ry k => by
  obtain ⟨a, dx, us, rfl, _, h1, _⟩ := ins_cell g rx hi
  obtain ⟨b, dy, ws, rfl, _, h2, _⟩ := ins_cell g ry hj
  refine ⟨a, b, dx, dy, us, ws, rfl, rfl, h1, h2, W, G, ms, [.cell i, .cell j], _, fun _ _ _ => False, g, .cons rx (.cons ry .nil), h, ?_, fun _ _ _ _ _ _ _ _ _ _ _ z => z.elim⟩
  intro W' v d H' m' l g' r ⟨c, hc, p⟩
  subst hc
  cases r
  exact ⟨c, rfl, k W' _ _ H' m' l g' (.bl _) p⟩
end
end DL
namespace K03
open DL
/-! ### roads, plainly -/
def Adj (rs : List Pr) (u v : Int) : Prop := (u, v) ∈ rs ∨ (v, u) ∈ rs
theorem Adj.symm {rs : List Pr} {u v : Int} (h : Adj rs u v) : Adj rs v u := h.elim .inr .inl
inductive Reach (rs : List Pr) (a : Int) : Int → Prop
  | refl : Reach rs a a
  | step {u v : Int} : Reach rs a u → Adj rs u v → Reach rs a v
theorem Reach.trans {rs : List Pr} {a b c : Int} (h : Reach rs a b) (h' : Reach rs b c) : Reach rs a c := by
  induction h' with
  | refl => exact h
  | step _ e ih => exact .step ih e
theorem Reach.symm {rs : List Pr} {a b : Int} (h : Reach rs a b) : Reach rs b a := by
  induction h with
  | refl => exact .refl
  | step _ e ih => exact Reach.trans (.step .refl e.symm) ih
def Conn (n : Int) (rs : List Pr) : Prop := ∀ v, 0 ≤ v → v < n → Reach rs 0 v
/-- all roads join houses of the tree -/
def InR (n : Nat) (rs : List Pr) : Prop := ∀ p ∈ rs, 0 ≤ p.1 ∧ p.1 < n ∧ 0 ≤ p.2 ∧ p.2 < n
theorem adj_in {n : Nat} {rs : List Pr} (h : InR n rs) {u v : Int} (a : Adj rs u v) : 0 ≤ v ∧ v < n := by
  rcases a with a | a
  · exact ⟨(h _ a).2.2.1, (h _ a).2.2.2⟩
  · exact ⟨(h _ a).1, (h _ a).2.1⟩
structure NearOk (n : Nat) (rs : List Pr) (near : List (List Int)) : Prop where
  len : near.length = n
  mem : ∀ (u : Nat) (ws : List Int), near[u]? = some ws → ∀ v, v ∈ ws ↔ Adj rs u v
/-! ### the search -/
def Fd (fnd : List (List Int)) (v : Int) : Prop := ∃ ws, fnd[v.toNat]? = some ws ∧ ws ≠ []
def empties (fnd : List (List Int)) : Nat := (fnd.filter (·.isEmpty)).length
theorem empties_set : ∀ {fnd : List (List Int)} {i : Nat} {ws : List Int}, fnd[i]? = some [] → ws ≠ [] → empties (fnd.set i ws) + 1 = empties fnd
  | [], i, ws, h, _ => by simp at h
  | f :: fnd, 0, ws, h, hw => by
    have : f = [] := by simpa using h
    subst this
    have e : ws.isEmpty = false := by cases ws with | nil => exact absurd rfl hw | cons _ _ => rfl
    simp [empties, e]
  | f :: fnd, i + 1, ws, h, hw => by
    have ih := empties_set (fnd := fnd) (i := i) (ws := ws) (by simpa using h) hw
    unfold empties at ih ⊢
    rw [List.set_cons_succ, List.filter_cons, List.filter_cons]
    split
    · simp only [List.length_cons]; omega
    · exact ih
/-- the search, where all but the house `at` are closed; `dn`: neighbours of it that are done -/
structure Dfs (n : Nat) (rs : List Pr) (h : Int) (fnd : List (List Int)) (front : List Int) (at_ : Option Int) (dn : List Int) : Prop where
  len : fnd.length = n
  reach : ∀ v : Int, 0 ≤ v → v < n → Fd fnd v → Reach rs h v
  start : Fd fnd h
  inF : ∀ x ∈ front, 0 ≤ x ∧ x < n ∧ Fd fnd x
  clo : ∀ v : Int, 0 ≤ v → v < n → Fd fnd v → v ∉ front → some v ≠ at_ → ∀ w, Adj rs v w → Fd fnd w
  short : ∀ ws ∈ fnd, ws.length + empties fnd ≤ n
  here : ∀ a, at_ = some a → 0 ≤ a ∧ a < n ∧ Fd fnd a
  done : ∀ w ∈ dn, Fd fnd w
def mu (fnd : List (List Int)) (front : List Int) : Nat := 2 * empties fnd + front.length
theorem fd_set {fnd : List (List Int)} {i : Nat} {ws : List Int} (hw : ws ≠ []) {v : Int} (h : Fd fnd v) : Fd (fnd.set i ws) v := by
  obtain ⟨us, h1, h2⟩ := h
  by_cases e : i = v.toNat
  · subst e
    exact ⟨ws, by rw [List.getElem?_set_self (List.getElem?_eq_some_iff.mp h1).1], hw⟩
  · exact ⟨us, by rw [List.getElem?_set_ne e]; exact h1, h2⟩
theorem fd_back {fnd : List (List Int)} {i : Nat} {ws : List Int} {v : Int} (h : Fd (fnd.set i ws) v) (e : i ≠ v.toNat) : Fd fnd v := by
  obtain ⟨us, h1, h2⟩ := h
  rw [List.getElem?_set_ne e] at h1
  exact ⟨us, h1, h2⟩
theorem dfs_start {n : Nat} {rs : List Pr} {h : Nat} (hh : h < n) : Dfs n rs h ((List.replicate n []).set h [(h : Int)]) [(h : Int)] none [] := by
  have e0 : empties (List.replicate n ([] : List Int)) = n := by unfold empties; rw [List.filter_replicate]; simp
  have es : empties ((List.replicate n ([] : List Int)).set h [(h : Int)]) + 1 = n := by
    rw [empties_set (by rw [List.getElem?_replicate]; simp [hh]) (by simp), e0]
  have st : Fd ((List.replicate n ([] : List Int)).set h [(h : Int)]) h := ⟨[(h : Int)], by rw [Int.toNat_natCast, List.getElem?_set_self (by simp; exact hh)], by simp⟩
  have only : ∀ v : Int, 0 ≤ v → Fd ((List.replicate n ([] : List Int)).set h [(h : Int)]) v → v = h := by
    intro v h0 hv
    by_cases e : h = v.toNat
    · omega
    · obtain ⟨us, h1, h2⟩ := fd_back hv e
      rw [List.getElem?_replicate] at h1
      split at h1
      · cases h1; exact absurd rfl h2
      · cases h1
  refine ⟨by simp, fun v h0 h1 hv => ?_, st, fun x hx => ?_, fun v h0 h1 hv hn => ?_, fun ws hw => ?_, fun a e => (by cases e), fun w hw => (by cases hw)⟩
  · rw [only v h0 hv]; exact .refl
  · rw [List.mem_singleton.mp hx]; exact ⟨by omega, by omega, st⟩
  · exact absurd (List.mem_singleton.mpr (only v h0 hv)) hn
  · rcases List.mem_or_eq_of_mem_set hw with z | z
    · rw [List.eq_of_mem_replicate z]; simp; omega
    · rw [z]; simp; omega
theorem dfs_pop {n : Nat} {rs : List Pr} {h a : Int} {fnd : List (List Int)} {front : List Int} (d : Dfs n rs h fnd (front ++ [a]) none []) : Dfs n rs h fnd front (some a) [] := by
  obtain ⟨h1, h2, h3⟩ := d.inF a (by simp)
  exact ⟨d.len, d.reach, d.start, fun x hx => d.inF x (by simp [hx]), fun v h0 h1 hv hn ha => d.clo v h0 h1 hv (fun z => by
    rcases List.mem_append.mp z with z | z
    · exact hn z
    · exact ha (by rw [List.mem_singleton.mp z])) (by simp), d.short, fun b e => by cases e; exact ⟨h1, h2, h3⟩, fun w hw => by cases hw⟩
theorem dfs_old {n : Nat} {rs : List Pr} {h a w : Int} {fnd : List (List Int)} {front dn : List Int} (d : Dfs n rs h fnd front (some a) dn) (hw : Fd fnd w) : Dfs n rs h fnd front (some a) (dn ++ [w]) :=
  ⟨d.len, d.reach, d.start, d.inF, d.clo, d.short, d.here, fun x hx => by
    rcases List.mem_append.mp hx with z | z
    · exact d.done x z
    · rw [List.mem_singleton.mp z]; exact hw⟩
theorem dfs_new {n : Nat} {rs : List Pr} {h a w : Int} {fnd : List (List Int)} {front dn ws : List Int} (d : Dfs n rs h fnd front (some a) dn) (ha : fnd[a.toNat]? = some ws) (h0 : 0 ≤ w) (h1 : w < n) (hw : fnd[w.toNat]? = some []) (adj : Adj rs a w) :
    Dfs n rs h (fnd.set w.toNat (ws ++ [w])) (front ++ [w]) (some a) (dn ++ [w]) ∧ mu (fnd.set w.toNat (ws ++ [w])) (front ++ [w]) + 1 = mu fnd front := by
  have ne : ws ++ [w] ≠ [] := by simp
  have es := empties_set hw ne
  have fw : Fd (fnd.set w.toNat (ws ++ [w])) w := ⟨_, List.getElem?_set_self (List.getElem?_eq_some_iff.mp hw).1, ne⟩
  obtain ⟨a0, a1, af⟩ := d.here a rfl
  refine ⟨⟨by rw [List.length_set]; exact d.len, fun v v0 v1 hv => ?_, fd_set ne d.start, fun x hx => ?_, fun v v0 v1 hv hn hne u hu => ?_, fun us hu => ?_, fun b e => by cases e; exact ⟨a0, a1, fd_set ne af⟩, fun x hx => ?_⟩, ?_⟩
  · by_cases e : w.toNat = v.toNat
    · have : v = w := by omega
      subst this
      exact .step (d.reach a a0 a1 af) adj
    · exact d.reach v v0 v1 (fd_back hv e)
  · rcases List.mem_append.mp hx with z | z
    · obtain ⟨p, q, r⟩ := d.inF x z; exact ⟨p, q, fd_set ne r⟩
    · rw [List.mem_singleton.mp z]; exact ⟨h0, h1, fw⟩
  · by_cases e : w.toNat = v.toNat
    · have : v = w := by omega
      subst this
      exact absurd (by simp) hn
    · exact fd_set ne (d.clo v v0 v1 (fd_back hv e) (fun z => hn (by simp [z])) hne u hu)
  · have sa := d.short ws (List.mem_of_getElem? ha)
    rcases List.mem_or_eq_of_mem_set hu with z | z
    · have := d.short us z; omega
    · rw [z, List.length_append, List.length_singleton]; omega
  · rcases List.mem_append.mp hx with z | z
    · exact fd_set ne (d.done x z)
    · rw [List.mem_singleton.mp z]; exact fw
  · unfold mu
    rw [List.length_append, List.length_singleton]
    omega
theorem dfs_close {n : Nat} {rs : List Pr} {h a : Int} {fnd : List (List Int)} {front dn : List Int} (d : Dfs n rs h fnd front (some a) dn) (all : ∀ w, Adj rs a w → w ∈ dn) : Dfs n rs h fnd front none [] :=
  ⟨d.len, d.reach, d.start, d.inF, fun v h0 h1 hv hn _ w hw => by
    by_cases e : v = a
    · subst e; exact d.done w (all w hw)
    · exact d.clo v h0 h1 hv hn (fun z => e (Option.some.inj z)) w hw, d.short, fun a e => (by cases e), fun w hw => (by cases hw)⟩
theorem dfs_end {n : Nat} {rs : List Pr} {h : Int} {fnd : List (List Int)} (hr : InR n rs) (h0 : 0 ≤ h) (h1 : h < n) (d : Dfs n rs h fnd [] none []) : ∀ v : Int, 0 ≤ v → v < n → (Fd fnd v ↔ Reach rs h v) := by
  have key : ∀ v, Reach rs h v → (0 ≤ v ∧ v < n) ∧ Fd fnd v := by
    intro v hv
    induction hv with
    | refl => exact ⟨⟨h0, h1⟩, d.start⟩
    | step _ e ih => exact ⟨adj_in hr e, d.clo _ ih.1.1 ih.1.2 ih.2 (by simp) (by simp) _ e⟩
  exact fun v v0 v1 => ⟨d.reach v v0 v1, fun z => (key v z).2⟩
/-- what a search tells: each house's way, empty if none leads there -/
structure WaysOk (n : Nat) (rs : List Pr) (h : Int) (ws : List (List Int)) : Prop where
  len : ws.length = n
  way : ∀ v : Int, 0 ≤ v → v < n → (Fd ws v ↔ Reach rs h v)
theorem ways_any {n : Nat} {rs : List Pr} {ws : List (List Int)} (w : WaysOk n rs 0 ws) : (ws.any (·.isEmpty)) = false ↔ Conn n rs := by
  constructor
  · intro h v h0 h1
    refine (w.way v h0 h1).mp ?_
    have hv : v.toNat < ws.length := by rw [w.len]; omega
    refine ⟨ws[v.toNat], List.getElem?_eq_getElem hv, fun e => ?_⟩
    have := List.any_eq_false.mp h _ (List.getElem_mem hv)
    rw [e] at this
    exact this rfl
  · intro h
    refine List.any_eq_false.mpr fun us hu => ?_
    obtain ⟨i, hi, e⟩ := List.getElem_of_mem hu
    obtain ⟨us', h1, h2⟩ := (w.way (i : Int) (by omega) (by rw [w.len] at hi; omega)).mpr (h i (by omega) (by rw [w.len] at hi; omega))
    rw [Int.toNat_natCast, List.getElem?_eq_getElem hi, e] at h1
    cases h1
    cases us with
    | nil => exact absurd rfl h2
    | cons _ _ => simp
end K03
namespace K03
open PySem PySem.Spec PyProof.Rows L2 DL
/-! ### cells that are made and left behind -/
def liM (ws : List Int) : MO := .lst (ws.map Dat.int)
theorem belL_of {n : Nat} : ∀ {ds : List Dat}, (∀ d ∈ ds, Bel n d) → BelL n ds
  | [], _ => .nil
  | d :: ds, h => .cons (h d (List.mem_cons_self ..)) (belL_of fun x hx => h x (List.mem_cons_of_mem _ hx))
theorem bel_ints {n : Nat} (is : List Int) : BelL n (is.map Dat.int) := belL_of fun d hd => by
  obtain ⟨i, _, rfl⟩ := List.mem_map.mp hd; exact .int i
theorem bel_tu {n : Nat} (is : List Int) : Bel n (tuD is) := .tup (bel_ints is)
theorem bel_tus {n : Nat} (ws : List (List Int)) : BelL n (ws.map tuD) := belL_of fun d hd => by
  obtain ⟨i, _, rfl⟩ := List.mem_map.mp hd; exact bel_tu i
theorem bel_pr {n : Nat} (p : Pr) : Bel n (dpPr p) := .tup (.cons (.int _) (.cons (.int _) .nil))
theorem bel_prs {n : Nat} (ps : List Pr) : BelL n (ps.map dpPr) := belL_of fun d hd => by
  obtain ⟨i, _, rfl⟩ := List.mem_map.mp hd; exact bel_pr i
theorem frM_refl {n : Nat} {ms : Ms} {m : MO} (h : MoBel n m) : FrM n ms m m := by
  cases h with
  | lst b => exact .lst (FrL.refl _ b)
  | dct b => exact .dct (FrK.refl _ b)
  | ins b => exact .ins (FrF.refl _ b)
theorem keep_app {n : Nat} {ms ext : Ms} (hl : ms.length = n) (hb : MsBel ms) : Keep n (ms ++ ext) ms := by
  refine ⟨hl, by rw [List.length_append]; omega, fun k m hk e => ?_⟩
  rw [List.getElem?_append_left (by omega)] at e
  exact ⟨m, e, by rw [← hl]; exact frM_refl (hb k m e)⟩
/-- what a def returns where its own new cells are left behind -/
theorem ret_new {ms ext : Ms} {P : Dat → Ms → Prop} {d d2 : Dat} {n : Nat} (hl : ms.length = n) (hb : MsBel ms) (f : Fr n (ms ++ ext) d d2) (q : P d2 ms) : RetOk n P d (ms ++ ext) := .inr ⟨d2, ms, keep_app hl hb, f, q⟩
theorem ret_bel {ms ext : Ms} {P : Dat → Ms → Prop} {d : Dat} {n : Nat} (hl : ms.length = n) (hb : MsBel ms) (f : Bel n d) (q : P d ms) : RetOk n P d (ms ++ ext) := ret_new hl hb (Fr.refl d f) q
theorem msbel_set {ms : Ms} {k : Nat} {m : MO} (h : MsBel ms) (b : MoBel ms.length m) : MsBel (ms.set k m) := fun j x e => by
  rw [List.length_set]
  by_cases hj : k = j
  · subst hj
    have hk : k < ms.length := by
      obtain ⟨z, _⟩ := List.getElem?_eq_some_iff.mp e
      rwa [List.length_set] at z
    rw [List.getElem?_set_self hk] at e
    cases e; exact b
  · rw [List.getElem?_set_ne hj] at e
    exact h j x e
theorem cell_at {ms : Ms} {bs : List (List Int)} {u : Nat} {ws : List Int} (h : bs[u]? = some ws) : (ms ++ bs.map liM)[ms.length + u]? = some (liM ws) := by
  rw [List.getElem?_append_right (by omega), Nat.add_sub_cancel_left, List.getElem?_map, h]; rfl
theorem set_at {ms : Ms} {bs : List (List Int)} {u : Nat} {ws : List Int} : (ms ++ bs.map liM).set (ms.length + u) (liM ws) = ms ++ (bs.set u ws).map liM := by
  rw [List.set_append_right _ _ (by omega), Nat.add_sub_cancel_left, List.map_set]
def cellsD (L n : Nat) : List Dat := (List.range n).map fun j => .cell (L + j)
theorem cells_at {L n u : Nat} (h : u < n) : atI (cellsD L n) (u : Int) = some (.cell (L + u)) := by
  rw [DL.atI_nat (by unfold cellsD; simpa using h)]
  unfold cellsD
  simp
theorem cells_snoc {L n : Nat} : cellsD L n ++ [.cell (L + n)] = cellsD L (n + 1) := by unfold cellsD; rw [List.range_succ, List.map_append]; rfl
theorem cells_it {L n u : Nat} (h : u < n) : itL (cellsD L n) u = .cell (L + u) := itL_get (by unfold cellsD; rw [List.getElem?_map, List.getElem?_range h]; rfl)
/-- tuple(x), its reading told by K -/
def rTupOf (K : PySem.W.Frag) : List V → Hp → VK → Prop := fun xs H Q => ∃ a vs, xs = [V.ref a] ∧ ((SqL K H a vs ∧ ∀ b : Addr, H b = none → Q (.ref b) (upd H b (HO.tup vs))) ∨ (SqT K H a vs ∧ Q (.ref a) H))
theorem dr_tupK {K : PySem.W.Frag} {ms : Ms} {P : Dat → Ms → Prop} {x : Dat} {xs : List Dat} (s : SeqV ms x xs) (q : P (.tup xs) ms) : DR K (rTupOf K) [x] ms P := dr_tupOf s q
/-- a value that is a list or a tuple, walked -/
theorem di_orV {K : PySem.W.Frag} {ms : Ms} {R : WX} {e : Ev} {X : XP} {ta : TE} {PI : Nat → (Nat → Dat) → Ms → Prop} {x : Dat} {xs : List Dat} (sx : x = .lst xs ∨ x = .tup xs)
    (h : ∀ Q : Dat → Ms → Prop, Q x ms → DE K R ta e ms Q X) (q : PI xs.length (itL xs) ms) : DI K R (iOr (iList K ta) (iTup K ta)) e ms PI X := by
  rcases sx with rfl | rfl
  · exact di_orl (di_lst (h _ (as_lst q)))
  · exact di_orr (di_tup (h _ ⟨xs, rfl, q⟩))
theorem d2_neV {K : PySem.W.Frag} {ms : Ms} {P : Dat → Ms → Prop} {x y : Dat} {p p' : PyData} (hx : PyV ms x p) (hy : PyV ms y p') (s : SeqAt.shaped p = true) (s' : SeqAt.shaped p' = true) (q : P (.bl (!PyData.eqv p p')) ms) : D2 K (rNeA K) x y ms P := fun W G H v w Q gd rx ry k =>
  .inr ⟨p, p', hx.dp gd rx, hy.dp gd ry, s, s', k W _ _ H ms (Le.refl W) gd (.bl _) q⟩
theorem d2_eqV {K : PySem.W.Frag} {ms : Ms} {P : Dat → Ms → Prop} {x y : Dat} {p p' : PyData} (hx : PyV ms x p) (hy : PyV ms y p') (s : SeqAt.shaped p = true) (s' : SeqAt.shaped p' = true) (q : P (.bl (PyData.eqv p p')) ms) : D2 K (rEqA K) x y ms P := fun W G H v w Q gd rx ry k =>
  .inr ⟨p, p', hx.dp gd rx, hy.dp gd ry, s, s', k W _ _ H ms (Le.refl W) gd (.bl _) q⟩
theorem eqv_nil (l : List PyData) : PyData.eqv (.list l) (.list []) = l.isEmpty := by cases l <;> simp [PyData.eqv, PyData.eqvAll]
theorem shaped_nil : SeqAt.shaped (.list []) = true := by decide +kernel
/-- a list of ints, that may change, against the empty one -/
theorem d2_neC0 {K : PySem.W.Frag} {ms : Ms} {P : Dat → Ms → Prop} {k : Nat} {is : List Int} (h : ms[k]? = some (.lst (is.map Dat.int))) (q : P (.bl (!is.isEmpty)) ms) : D2 K (rNeA K) (.cell k) (.lst []) ms P := by
  refine d2_neV (.inr ⟨k, _, _, rfl, h, pydl_int is, rfl⟩) (.inl (.lst .nil)) (shaped_ints is) shaped_nil ?_
  rw [eqv_nil, show (is.map PyData.int).isEmpty = is.isEmpty by cases is <;> rfl]
  exact q
theorem un65 {k : Nat} {A : Around} (r : Room k A) : A.units + 65 < cLine := by have := r.un; omega
theorem pe_fldK {X : Cx} {K : PySem.W.Frag} {e : Expr} {f : Str} {pos : Pos} {ta : TE} (hK : X.K = K) (he : PE X e ta) (hb : attributeBase e f X.env (eval e X.env) = eval e X.env) : PE X (.Attribute e f pos) (tFld K ta f) := by subst hK; exact pe_fld he hb
theorem pg_tupK {X : Cx} {K : PySem.W.Frag} {es : List Expr} {k : Nat} {t : TGs} {n : Nat} {pos : Pos} (hK : X.K = K) (hc : X.calm = true) (h : PGs X es t)
    (hn : (assignEach es X.env).length = n := by rfl) (hst : (assignEach es X.env).findIdx? (·.1) = none := by rfl) : PG X (.Tuple es k pos) (gTup K n t) := by subst hK; exact pg_tup hc h hn hst
/-! ### neighbours, gathered -/
structure BinOk (n : Nat) (rs : List Pr) (bs : List (List Int)) : Prop where
  len : bs.length = n
  mem : ∀ (u : Nat) ws, bs[u]? = some ws → (∀ v, v ∈ ws ↔ Adj rs u v) ∧ ws.length ≤ 2 * rs.length
theorem bin_nil (n : Nat) : BinOk n [] (List.replicate n []) := by
  refine ⟨by simp, fun u ws h => ?_⟩
  rw [List.getElem?_replicate] at h
  split at h
  · cases h; simp [Adj]
  · cases h
theorem bin_step {n : Nat} {rs : List Pr} {bs : List (List Int)} {u v : Nat} {ws ws' : List Int} (h : BinOk n rs bs) (h1 : bs[u]? = some ws) (h2 : (bs.set u (ws ++ [(v : Int)]))[v]? = some ws') :
    BinOk n (rs ++ [((u : Int), (v : Int))]) ((bs.set u (ws ++ [(v : Int)])).set v (ws' ++ [(u : Int)])) := by
  refine ⟨by rw [List.length_set, List.length_set]; exact h.len, fun a as ha => ?_⟩
  have hu : u < bs.length := (List.getElem?_eq_some_iff.mp h1).1
  have hv : v < bs.length := by have := (List.getElem?_eq_some_iff.mp h2).1; rwa [List.length_set] at this
  have adj : ∀ (x y : Int), Adj (rs ++ [((u : Int), (v : Int))]) x y ↔ Adj rs x y ∨ (x = u ∧ y = v) ∨ (x = v ∧ y = u) := by
    intro x y
    unfold Adj
    simp only [List.mem_append, List.mem_singleton, Prod.mk.injEq]
    constructor
    · rintro ((h | h) | (h | h))
      · exact .inl (.inl h)
      · exact .inr (.inl h)
      · exact .inl (.inr h)
      · exact .inr (.inr ⟨h.2, h.1⟩)
    · rintro ((h | h) | (h | h))
      · exact .inl (.inl h)
      · exact .inr (.inl h)
      · exact .inl (.inr h)
      · exact .inr (.inr ⟨h.2, h.1⟩)
  obtain ⟨mu, lu⟩ := h.mem u ws h1
  rw [List.length_append, List.length_singleton]
  by_cases ea : v = a
  · subst ea
    rw [List.getElem?_set_self (by rwa [List.length_set])] at ha
    cases ha
    by_cases eu : u = v
    · subst eu
      rw [List.getElem?_set_self hu] at h2
      cases h2
      refine ⟨fun x => ?_, by simp; omega⟩
      rw [adj]
      simp only [List.mem_append, List.mem_singleton, mu]
      simp [or_assoc]
    · rw [List.getElem?_set_ne eu] at h2
      obtain ⟨mv, lv⟩ := h.mem v ws' h2
      refine ⟨fun x => ?_, by simp; omega⟩
      rw [adj]
      simp only [List.mem_append, List.mem_singleton, mv]
      have ne : ¬ ((v : Int) = u) := by omega
      simp [ne]
  · rw [List.getElem?_set_ne ea] at ha
    by_cases eu : u = a
    · subst eu
      rw [List.getElem?_set_self hu] at ha
      cases ha
      refine ⟨fun x => ?_, by simp; omega⟩
      rw [adj]
      simp only [List.mem_append, List.mem_singleton, mu]
      have ne : ¬ ((u : Int) = v) := by omega
      simp [ne]
    · rw [List.getElem?_set_ne eu] at ha
      obtain ⟨mv, lv⟩ := h.mem a as ha
      refine ⟨fun x => ?_, by omega⟩
      rw [adj, mv]
      have n1 : ¬ ((a : Int) = u) := by omega
      have n2 : ¬ ((a : Int) = v) := by omega
      simp [n1, n2]
end K03
namespace K03
open PySem PySem.Spec PyProof.Rows L2 DL
local macro_rules | `(tactic| walk_at "hyp") => `(tactic| (first
  | (simp only [Bool.not_eq_true', Bool.not_eq_false', decide_eq_true_eq, decide_eq_false_iff_not, Bool.or_eq_true, Bool.and_eq_true, Bool.or_eq_false_iff, Bool.not_true, Bool.not_false, Bool.and_eq_false_iff] at *)
  | skip))
local macro_rules | `(tactic| walk_at "d1") => `(tactic| first
  | with_reducible refine ds_seq ?_
  | with_reducible refine ds_if ?_
  | with_reducible refine ds_ret ?_
  | with_reducible refine ds_set ?_
  | with_reducible refine ds_drop ?_
  | with_reducible refine ds_par ?_
  | with_reducible refine ds_par3 ?_
  | with_reducible refine ds_next ?_
  | with_reducible refine de_var rfl ?_
  | with_reducible refine de_int ?_
  | with_reducible refine de_str ?_
  | with_reducible refine de_bl ?_
  | with_reducible refine de_non ?_
  | with_reducible refine de_ty ?_
  | with_reducible refine de_ref ?_
  | with_reducible refine de_op ?_
  | with_reducible refine de_chain ?_
  | with_reducible refine de_un ?_
  | with_reducible refine de_dnew ?_
  | with_reducible refine de_disp1 ?_
  | with_reducible refine de_cb ?_
  | with_reducible refine de_bm ?_
  | with_reducible refine de_sl ?_
  | with_reducible refine de_tup ?_
  | with_reducible refine de_lst ?_
  | with_reducible refine de_fstr ?_
  | with_reducible refine de_fmtS ?_
  | with_reducible refine dj_cons ?_
  | with_reducible refine dj_nil ?_
  | with_reducible refine do_none ?_
  | with_reducible refine do_some ?_
  | with_reducible refine de_g0 (dds := []) (fun _ => .nil) ?_
  | with_reducible refine de_g (dds := []) (fun _ => .nil) ?_
  | with_reducible refine de_lc ?_
  | with_reducible refine di_str ?_
  | with_reducible refine di_tup ?_
  | with_reducible refine de_notV ?_
  | with_reducible refine de_andV ?_
  | with_reducible refine de_orV ?_
  | with_reducible refine de_if ?_
  | with_reducible refine dt_test ?_
  | with_reducible refine dt_B ?_
  | with_reducible refine dt_and ?_
  | with_reducible refine dt_or ?_
  | with_reducible refine dt_not ?_
  | with_reducible refine dt_yes ?_
  | with_reducible refine da_cons ?_
  | with_reducible refine da_nil ?_
  | with_reducible refine d2_leI ?_
  | with_reducible refine d2_ltI ?_
  | with_reducible refine d2_geI ?_
  | with_reducible refine d2_gtI ?_
  | with_reducible refine d2_addI ?_
  | with_reducible refine d2_sub ?_
  | ((with_reducible refine' d2_leS1 (sign1_cps _) ?hs1 ?_); (case hs1 => first | exact sg_a | exact sg_z | exact sg_sp | exact sg_ti))
  | ((with_reducible refine' d2_leS1 ?hs1 (sign1_cps _) ?_); (case hs1 => first | exact sg_a | exact sg_z | exact sg_sp | exact sg_ti))
  | with_reducible refine dr_int ?_
  | with_reducible refine dr_abs ?_
  | with_reducible refine dg_sub ?_
  | ((with_reducible refine' d2_ix ?hsq ?hix ?_); (case hsq => assumption); (case hix => rfl))
  | ((with_reducible refine' d2_mod ?hmod ?_); (case hmod => first | decide | omega))
  | ((with_reducible refine' d2_mul ?hmul ?_); (case hmul => exact mul_ok (by omega) (by omega)))
  | ((with_reducible refine' d2_div ?hdiv ?_); (case hdiv => exact div_ok (by first | decide | omega) (by omega)))
  | ((with_reducible refine' d2_pow ?hpow ?_); (case hpow => exact pow_ok (by decide) (by decide) (by omega)))
  | with_reducible refine d2_notI ?_
  | with_reducible refine d2_notSt ?_
  | with_reducible refine d2_notNn ?_
  | with_reducible refine d2_notT ?_
  | with_reducible refine d2_isI ?_
  | with_reducible refine d2_isNn ?_
  | with_reducible refine d2_isT ?_
  | with_reducible refine d2_neI ?_
  | with_reducible refine d2_eqI ?_
  | with_reducible refine d2_eqS ?_
  | with_reducible refine d2_neS ?_
  | with_reducible refine dr_isiK (by assumption) (by decide) (by first | assumption | exact isTyD_str _ | exact isTyD_tup _ | rfl) ?_
  | with_reducible refine dr_lenT ?_
  | with_reducible refine dr_lenL ?_
  | with_reducible refine dr_lenR ?_
  | with_reducible refine dr_lenC (by assumption) ?_
  | with_reducible refine ds_to ?_
  | with_reducible refine dg_name (by decide) ?_
  | with_reducible refine dg_tup2 ?_
  | with_reducible refine dg_tup3 ?_
  | with_reducible refine dg_tup4 ?_
  | with_reducible refine dgs_cons ?_
  | with_reducible refine dgs_nil ?_
  | with_reducible refine dr_lenS (by omega) ?_
  | with_reducible refine ⟨⟨by simp only [List.length_cons, List.length_nil], by simp only [List.length_cons, List.length_nil]; omega⟩, ?_⟩
  | with_reducible refine ⟨_, rfl, ?_⟩
  | with_reducible refine ⟨_, _, rfl, ?_⟩
  | with_reducible refine ⟨tyD_str, ?_⟩
  | with_reducible refine ⟨by omega, ?_⟩
  | with_reducible refine ⟨by (simp only [PySem.Str.length_append, len_empty, len_sp, List.length_cons, List.length_nil, List.length_append]; omega), ?_⟩
  | with_reducible refine bothT ?_
  | with_reducible refine bothF ?_
  | with_reducible refine bothNT ?_
  | with_reducible refine bothNF ?_
  | (with_reducible refine both (fun hc => ?_) (fun hc => ?_) <;> (try simp only [Bool.not_eq_true', Bool.not_eq_false', decide_eq_true_eq, decide_eq_false_iff_not] at hc) <;> (try (exfalso; omega)) <;> (try exact absurd rfl hc) <;> (try exact absurd trivial hc)))

local macro_rules | `(tactic| walk_at "sm") => `(tactic| first
  | with_reducible refine di_lst ?_
  | with_reducible refine as_lst ?_
  | ((with_reducible refine' d2_addSm ?hs1 ?hs2 ?hs3 (fun hs => ?_)); (case hs1 => assumption); (case hs2 => assumption); (case hs3 => omega))
  | ((with_reducible refine' d2_addL ?hal ?_); (case hal => (simp; try omega)))
  | with_reducible refine d1_neg ?_)

def top (i : Nat) : Stmt := PySem.Challenge.pw_maplost_k03_tree_lines.main.body.getD i (.Pass ⟨0, 0, 0, 0⟩)
abbrev topS := top
abbrev s_is_integer : Stmt := (topS 9)
theorem sc_is_integer : FnScope ["value"] ["value"] (defScope s_is_integer) := ⟨rfl, rfl, rfl, by decide +kernel, rfl, by decide +kernel, by decide +kernel⟩
abbrev s_is_index : Stmt := (topS 10)
theorem sc_is_index : FnScope ["value", "many"] ["value", "many"] (defScope s_is_index) := ⟨rfl, rfl, rfl, by decide +kernel, rfl, by decide +kernel, by decide +kernel⟩
abbrev s_is_list : Stmt := (topS 11)
theorem sc_is_list : FnScope ["value"] ["value"] (defScope s_is_list) := ⟨rfl, rfl, rfl, by decide +kernel, rfl, by decide +kernel, by decide +kernel⟩
abbrev s_ascends : Stmt := (topS 12)
theorem sc_ascends : FnScope ["items", "at"] ["items"] (defScope s_ascends) := ⟨rfl, rfl, rfl, by decide +kernel, rfl, by decide +kernel, by decide +kernel⟩
abbrev s_count_in : Stmt := (topS 13)
theorem sc_count_in : FnScope ["word", "sign"] ["word"] (defScope s_count_in) := ⟨rfl, rfl, rfl, by decide +kernel, rfl, by decide +kernel, by decide +kernel⟩
abbrev s_is_road : Stmt := (topS 16)
theorem sc_is_road : FnScope ["value", "houses", "u", "v"] ["value", "houses"] (defScope s_is_road) := ⟨rfl, rfl, rfl, by decide +kernel, rfl, by decide +kernel, by decide +kernel⟩
abbrev s_are_roads : Stmt := (topS 17)
theorem sc_are_roads : FnScope ["value", "houses", "road"] ["value", "houses"] (defScope s_are_roads) := ⟨rfl, rfl, rfl, by decide +kernel, rfl, by decide +kernel, by decide +kernel⟩
abbrev s_numbers_in : Stmt := (topS 21)
theorem sc_numbers_in : FnScope ["word", "part"] ["word"] (defScope s_numbers_in) := ⟨rfl, rfl, rfl, by decide +kernel, rfl, by decide +kernel, by decide +kernel⟩
structure Txt (K : PySem.W.Frag) (mg : Str → Option Value) : Prop where
  b_isinstance : mg "isinstance" = none
  b_all : mg "all" = none
  b_range : mg "range" = none
  b_len : mg "len" = none
  b_int : mg "int" = none
  b_tuple : mg "tuple" = none
  b_sorted : mg "sorted" = none
  b_list : mg "list" = none
  b_str : mg "str" = none
  b_ord : mg "ord" = none
  b_min : mg "min" = none
  b_max : mg "max" = none
  b_abs : mg "abs" = none
  b_sum : mg "sum" = none
  b_bool : mg "bool" = none
  b_repr : mg "repr" = none
  c_DIGITS : ∃ u, mg "DIGITS" = some u ∧ RelV (.str "0123456789") u
  c_MOST_DIGITS : ∃ u, mg "MOST_DIGITS" = some u ∧ RelV (.int 20) u
  c_MOST_HOUSES : ∃ u, mg "MOST_HOUSES" = some u ∧ RelV (.int 64) u
theorem bt_sorted : bootBuiltins "sorted" = some (.builtin "sorted") := by decide +kernel
structure Df (K : PySem.W.Frag) (mg : Str → Option Value) (x : Str) (f : Addr) : Prop where
  m : mg x = some (.ref f)
  k : PySem.W.keepIn K (.ref f) = true
section
variable {P : Program} {w : World} {K : PySem.W.Frag} {mg : Str → Option Value} {base : Heap}
theorem cxK {a b c d e f g h i j k l m n o} {E : XK} : (cxOf a b c d e f g h i j k l m n o E).K = d := rfl
theorem str_ext {a b : Str} (h : a.cps.toList = b.cps.toList) : a = b := TL.ext_tl h
theorem kII : kitB "int" "int" = some true := by decide +kernel
theorem kIB : kitB "int" "bool" = some false := by decide +kernel
theorem kNI : kitB "NoneType" "int" = some false := by decide +kernel
theorem kTT : kitB "tuple" "tuple" = some true := by decide +kernel
theorem kLL : (kitB "list" "list", kitB "list" "tuple") = (some ("list" == "list"), some ("list" == "tuple")) := by decide +kernel
theorem kTL : (kitB "tuple" "list", kitB "tuple" "tuple") = (some ("tuple" == "list"), some ("tuple" == "tuple")) := by decide +kernel
def pm_is_integer (K : PySem.W.Frag) : Pm := fun ds ms P X => ∃ o : Option Int, ds = [oiD o] ∧ P (.bl o.isSome) ms
theorem ok_is_integer {f : Addr} {fd : FuncData}  (F : Fun K "is_integer" "is_integer" s_is_integer f fd) (T : Txt K mg) :
    FnG P w K mg base (L2N.CX P w) 1 f fd ["value"] (spD K (pm_is_integer K)) := by
  refine fn_dl F sc_is_integer (fun ds ms Pd X h => by obtain ⟨_, rfl, _⟩ := h; rfl) (fun cdv Ar outer s H E hr hq => ?_)
  have tk := (L2N.takes_of (X := cxOf (L2N.CX P w) P w K mg base ["value"] "is_integer" (defScope s_is_integer) f cdv Ar outer s H E) (E := E) rfl rfl rfl rfl)
  refine ⟨_, (pss_one (ps_ret (pe_and (pe_callB (crK (K := K) (r := rIsiX) rfl call_isiX) (by rfl) T.b_isinstance bt_isinstance (pa_cons (pv 0) (pa_cons (pe_bltn (v := .ty "int") rfl T.b_int bt_int rfl) pa_nil))) (pe_one (pe_not (pe_callB (crK (K := K) (r := rIsiX) rfl call_isiX) (by rfl) T.b_isinstance bt_isinstance (pa_cons (pv 0) (pa_cons (pe_bltn (v := .ty "bool") rfl T.b_bool bt_bool rfl) pa_nil)))))))), ?_⟩
  try simp only [cxK]
  rintro _ ms Pd Xd ⟨o, rfl, q⟩ bl mb
  cases o with
  | none =>
    repeat' first
      | walk_at "d1"
      | with_reducible refine dr_isi (T := "NoneType") rfl kNI ?_
    exact .inl q
  | some i =>
    repeat' first
      | walk_at "d1"
      | with_reducible refine dr_isi (T := "int") rfl kII ?_
      | with_reducible refine dr_isi (T := "int") rfl kIB ?_
    exact .inl q
def idx (n : Int) : Option Int → Bool
  | some i => decide (0 ≤ i) && decide (i < n)
  | none => false
def pm_is_index (K : PySem.W.Frag) : Pm := fun ds ms P X => ∃ (o : Option Int) (n : Int), ds = [oiD o, .int n] ∧ P (.bl (idx n o)) ms
theorem ok_is_index {f : Addr} {fd : FuncData} {g0 : Addr} {fd0 : FuncData} (D_is_integer : Df K mg "is_integer" g0) (G_is_integer : FnG P w K mg base (L2N.CX P w) 1 g0 fd0 ["value"] (spD K (pm_is_integer K))) (b_is_integer : Binds K fd0 ["value"] []) (F : Fun K "is_index" "is_index" s_is_index f fd) (T : Txt K mg) :
    FnG P w K mg base (L2N.CX P w) 2 f fd ["value", "many"] (spD K (pm_is_index K)) := by
  refine fn_dl F sc_is_index (fun ds ms Pd X h => by obtain ⟨_, _, rfl, _⟩ := h; rfl) (fun cdv Ar outer s H E hr hq => ?_)
  have tk := (L2N.takes_of (X := cxOf (L2N.CX P w) P w K mg base ["value", "many"] "is_index" (defScope s_is_index) f cdv Ar outer s H E) (E := E) rfl rfl rfl rfl)
  refine ⟨_, (pss_one (ps_ret (pe_and (pe_g G_is_integer (hr.mono (by decide)) hq rfl D_is_integer.m D_is_integer.k b_is_integer .nil (fun σ => L2N.passAt tk σ) (pa_cons (pv 0) pa_nil)) (pe_one (pe_chain op_leA op_ltA pe_int (pv 0) (pv 1)))))), ?_⟩
  try simp only [cxK]
  rintro _ ms Pd Xd ⟨o, n, rfl, q⟩ bl mb
  repeat' walk_at "d1"
  refine ⟨o, rfl, ?_⟩
  cases o with
  | none =>
    dsimp only [oiD, Option.isSome]
    repeat' walk_at "d1"
    exact .inl q
  | some i =>
    dsimp only [oiD, Option.isSome]
    repeat' walk_at "d1"
    · rename_i h
      exact fin_b q (by unfold idx; simp [h])
    · rename_i h
      exact fin_b q (by unfold idx; simp; omega)
def pm_is_list (K : PySem.W.Frag) : Pm := fun ds ms P X => ∃ x xs, ds = [x] ∧ SeqV ms x xs ∧ P (.bl true) ms
theorem ok_is_list {f : Addr} {fd : FuncData}   (F : Fun K "is_list" "is_list" s_is_list f fd) (T : Txt K mg) :
    FnG P w K mg base (L2N.CX P w) 1 f fd ["value"] (spD K (pm_is_list K)) := by
  refine fn_dl F sc_is_list (fun ds ms Pd X h => by obtain ⟨_, _, rfl, _⟩ := h; rfl) (fun cdv Ar outer s H E hr hq => ?_)
  have tk := (L2N.takes_of (X := cxOf (L2N.CX P w) P w K mg base ["value"] "is_list" (defScope s_is_list) f cdv Ar outer s H E) (E := E) rfl rfl rfl rfl)
  refine ⟨_, (pss_one (ps_ret (pe_callB (crK (K := K) (r := rIsiY) rfl call_isiY) (by rfl) T.b_isinstance bt_isinstance (pa_cons (pv 0) (pa_cons (pe_tup (pa_cons (pe_bltn (v := .ty "list") rfl T.b_list bt_list rfl) (pa_cons (pe_bltn (v := .ty "tuple") rfl T.b_tuple bt_tuple rfl) pa_nil))) pa_nil))))), ?_⟩
  try simp only [cxK]
  rintro _ ms Pd Xd ⟨x, xs, rfl, sv, q⟩ bl mb
  repeat' walk_at "d1"
  rcases sv with rfl | rfl | rfl | ⟨k, rfl, hk⟩
  · exact dr_isiLT (T := "list") rfl kLL rfl (.inl q)
  · exact dr_isiLT (T := "tuple") rfl kTL rfl (.inl q)
  · exact dr_isiLT (T := "list") rfl kLL rfl (.inl q)
  · exact dr_isiLT (T := "list") (by simp [tyOf, hk]) kLL rfl (.inl q)
/-- strictly rising, one after the other -/
def asc (rs : List Pr) : Bool := (List.range (rs.length - 1)).all fun i => plt (rs.getD i (0, 0)) (rs.getD (i + 1) (0, 0))
def pm_ascends (K : PySem.W.Frag) : Pm := fun ds ms P X => ∃ (x : Dat) (rs : List Pr), ds = [x] ∧ SeqV ms x (rs.map dpPr) ∧ rs.length ≤ 100000 ∧ P (.bl (asc rs)) ms
theorem dr_lenV {ms : Ms} {Q : Dat → Ms → Prop} {x : Dat} {xs : List Dat} (s : SeqV ms x xs) (q : Q (.int xs.length) ms) : DR K (rLenK K) [x] ms Q := dr_len s q
theorem prs_at {rs : List Pr} {i : Nat} (h : i < rs.length) : atI (rs.map dpPr) (i : Int) = some (dpPr (rs.getD i (0, 0))) := by
  rw [atI_nat (by rw [List.length_map]; exact h), List.getElem_map, List.getD_eq_getElem?_getD, List.getElem?_eq_getElem h]
  rfl
theorem all_range (n : Nat) (p : Nat → Bool) : ((List.range n).filter fun _ => true).map (fun i => Dat.bl (p i)) = ((List.range n).map p).map Dat.bl := by
  rw [List.filter_eq_self.mpr (fun _ _ => rfl), List.map_map]; rfl
theorem ok_ascends {f : Addr} {fd : FuncData}   (F : Fun K "ascends" "ascends" s_ascends f fd) (T : Txt K mg) :
    FnG P w K mg base (L2N.CX P w) 1 f fd ["items"] (spD K (pm_ascends K)) := by
  refine fn_dl F sc_ascends (fun ds ms Pd X h => by obtain ⟨_, _, rfl, _⟩ := h; rfl) (fun cdv Ar outer s H E hr hq => ?_)
  have tk := (L2N.takes_of (X := cxOf (L2N.CX P w) P w K mg base ["items", "at"] "ascends" (defScope s_ascends) f cdv Ar outer s H E) (E := E) rfl rfl rfl rfl)
  refine ⟨_, (pss_one (ps_ret (pe_callB (crK (K := K) (r := rAll) rfl (cr_all rfl)) (by rfl) T.b_all bt_all (pa_cons (pe_lc (own := [("at", 1)]) rfl sc_ascends.nd (pi_range1 rfl T.b_range (pa_cons (pe_op op_subA (pe_callB (crK (K := K) (r := rLenK) rfl call_len) (by rfl) T.b_len bt_len (pa_cons (pv 0) pa_nil)) pe_int) pa_nil)) (blkOk_by (own := [("at", 1)]) (N := ["items", "at"]) (sc := defScope s_ascends) (by decide +kernel)) (fun _ _ _ _ _ => (pg_name (i := 1) sc_ascends.nd rfl (by first | exact Or.inl rfl | exact Or.inr rfl))) (fun _ _ _ _ _ => pts_nil) (fun _ _ _ _ _ => (pe_cmpR (opK (K := K) (r := rLtB) rfl (op_ltB hr.units)) (pe_ix (ixK (K := K) (r := rIx) rfl ix_seq) (pv 0) (pv 1) (fun _ _ => rfl)) (pe_ix (ixK (K := K) (r := rIx) rfl ix_seq) (pv 0) (pe_op op_addA (pv 1) pe_int) (fun _ _ => rfl)) (nomark _)))) pa_nil)))), ?_⟩
  try simp only [cxK]
  rintro _ ms Pd Xd ⟨x, rs, rfl, sv, hl, q⟩ bl mb
  repeat' walk_at "d1"
  refine di_rng1 ?_
  repeat' walk_at "d1"
  refine dr_lenV sv ?_
  rw [List.length_map]
  repeat' walk_at "d1"
  have hn : ((rs.length : Int) - 1).toNat = rs.length - 1 := by omega
  rw [hn]
  refine lcw_map (by omega) (fun _ => true) (fun i => .bl (plt (rs.getD i (0, 0)) (rs.getD (i + 1) (0, 0)))) (fun i hi => dg_name (by decide) (dt_yes ⟨rfl, rfl, fun _ => ?_⟩)) ?_
  · have h1 : i < rs.length := by omega
    have h2 : i + 1 < rs.length := by omega
    repeat' walk_at "d1"
    rw [Int.zero_add]
    refine d2_ix sv (prs_at h1) ?_
    repeat' walk_at "d1"
    refine d2_ix sv (prs_at h2) ?_
    exact d2_ltP ⟨rfl, rfl⟩
  · refine da_nil (dr_allB (all_range _ _) ?_)
    rw [all_id]
    exact .inl q
/-! numbers in texts -/
def digC (c : Nat) : Bool := decide (48 ≤ c) && decide (c ≤ 57)
def canon (l : List Nat) : Bool := decide (l = [48]) || decide (l.head? ≠ some 48)
def countIn (z : Str) : Dat := if (decide (1 ≤ z.length) && decide (z.length ≤ 20) && z.cps.toList.all digC && canon z.cps.toList) = true then .int ((PySem.intText? z).getD 0) else .non
def pm_count_in (K : PySem.W.Frag) : Pm := fun ds ms P X => ∃ z, ds = [.str z] ∧ z.length ≤ 100000 ∧ P (countIn z) ms
theorem dig_in (c : Nat) : decide (c ∈ (Str.ofString "0123456789").cps.toList) = digC c := by
  rw [show (Str.ofString "0123456789").cps.toList = [48, 49, 50, 51, 52, 53, 54, 55, 56, 57] by decide +kernel]
  unfold digC
  rw [Bool.eq_iff_iff]
  simp
  omega
theorem atI_zero {α : Type} (c : α) (l : List α) : atI (c :: l) 0 = some c := by
  unfold atI ixN
  simp
theorem canon_is {z : Str} {c : Nat} {l : List Nat} (ec : z.cps.toList = c :: l) : canon z.cps.toList = (decide (z = ("0" : Str)) || !decide (sign1 c = ("0" : Str))) := by
  have k : (Str.ofString "0").cps.toList = [48] := by decide +kernel
  have i1 : (z = ("0" : Str)) ↔ z.cps.toList = [48] := by
    constructor
    · rintro rfl; exact k
    · intro e; apply TL.ext_tl; show z.cps.toList = _; rw [e]; exact k.symm
  have i2 : (sign1 c = ("0" : Str)) ↔ c = 48 := by
    constructor
    · intro e
      have := congrArg (fun x : Str => x.cps.toList) e
      simp only [k] at this
      simpa [sign1] using this
    · rintro rfl; apply TL.ext_tl; exact k.symm
  rw [show decide (z = ("0" : Str)) = decide (z.cps.toList = [48]) from decide_eq_decide.mpr i1, show decide (sign1 c = ("0" : Str)) = decide (c = 48) from decide_eq_decide.mpr i2]
  simp [canon, ec]
theorem ok_count_in {f : Addr} {fd : FuncData} (F : Fun K "count_in" "count_in" s_count_in f fd) (T : Txt K mg) : FnG P w K mg base (L2N.CX P w) 1 f fd ["word"] (spD K (pm_count_in K)) := by
  refine fn_dl F sc_count_in (fun ds ms Pd X h => by obtain ⟨d, rfl, _⟩ := h; rfl) (fun cdv Ar outer s H E hr hq => ?_)
  have tk := (L2N.takes_of (X := cxOf (L2N.CX P w) P w K mg base ["word", "sign"] "count_in" (defScope s_count_in) f cdv Ar outer s H E) (E := E) rfl rfl rfl rfl)
  refine ⟨_, (pss_cons (ps_if (PW.pt (pw_or (pt_not (pt_chain op_leA op_leA pe_int (pe_callB (crK (K := K) (r := rLenK) rfl call_len) (by rfl) T.b_len bt_len (pa_cons (pv 0) pa_nil)) (pe_gl rfl T.c_MOST_DIGITS))) (pw_or1 (pt_not (pt_val (pe_callB (crK (K := K) (r := rAll) rfl (cr_all rfl)) (by rfl) T.b_all bt_all (pa_cons (pe_lc (own := [("sign", 1)]) rfl sc_count_in.nd (pi_str (pv 0)) (blkOk_by (own := [("sign", 1)]) (N := ["word", "sign"]) (sc := defScope s_count_in) (by decide +kernel)) (fun _ _ _ _ _ => (pg_name (i := 1) sc_count_in.nd rfl (by first | exact Or.inl rfl | exact Or.inr rfl))) (fun _ _ _ _ _ => pts_nil) (fun _ _ _ _ _ => (pe_cmpR (opK (K := K) (r := rInA) rfl op_inA) (pv 1) (pe_gl rfl T.c_DIGITS) (by rfl)))) pa_nil))))))) (pss_one (ps_ret pe_non)) pss_nil) (pss_one (ps_ret (pe_ifExp (PW.pt (pw_or (pt_cmpR (opK (K := K) (r := rEqA) rfl (op_eqA hr.units)) (pv 0) pe_str (nomark _)) (pw_or1 (pt_cmpR (opK (K := K) (r := rNeA) rfl (op_neA hr.units)) (pe_ix (ixK (K := K) (r := rIx) rfl ix_seq) (pv 0) pe_int (fun _ _ => rfl)) pe_str (nomark _))))) (pe_callTy call_intA (by rfl) T.b_int bt_int (pa_cons (pv 0) pa_nil)) pe_non)))), ?_⟩
  try simp only [cxK]
  rintro _ ms Pd Xd ⟨z, rfl, hn, q⟩ bl mb
  have hl := strLen z
  have eq : ∀ b : Bool, (decide (1 ≤ z.length) && decide (z.length ≤ 20) && z.cps.toList.all digC && canon z.cps.toList) = b → Pd (if b = true then .int ((PySem.intText? z).getD 0) else .non) ms := fun b e => by
    unfold countIn at q
    rw [e] at q
    exact q
  repeat' walk_at "d1"
  · rename_i h1 h2
    exact .inl (eq false (by simp; omega))
  · rename_i h1 h2
    refine lcw_str (by omega) (fun _ => true) (fun c => .bl (digC c)) (fun c hc => dg_name (by decide) (dt_yes ⟨rfl, rfl, fun _ => ?_⟩)) ?_
    · repeat' walk_at "d1"
      refine d2_inS ?_
      rw [dig_in]
      exact ⟨rfl, rfl⟩
    · refine da_nil (dr_allB (all_map_bl _ _) ?_)
      rw [all_id]
      have ne : z.cps.toList ≠ [] := fun e => by rw [e] at hl; simp at hl; omega
      cases hd : z.cps.toList.all digC with
      | false =>
        repeat' walk_at "d1"
        exact .inl (eq false (by simp [hd]))
      | true =>
        have hi : PySem.intText? z = some ((NumText.digitsVal z.cps.toList : Nat) : Int) := intText_digits (fun c hc => by
          have := List.all_eq_true.mp hd c hc
          simpa [digC] using this) ne (by omega)
        obtain ⟨c, l, ec⟩ : ∃ c l, z.cps.toList = c :: l := by
          cases e : z.cps.toList with
          | nil => exact absurd e ne
          | cons c l => exact ⟨c, l, rfl⟩
        have h0 : atI z.cps.toList 0 = some c := by rw [ec]; exact atI_zero c l
        have ck := canon_is ec
        repeat' walk_at "d1"
        · rename_i hz
          have e1 : canon z.cps.toList = true := by rw [ck, decide_eq_true hz]; rfl
          refine dr_intS hi (by omega) ?_
          have := eq true (by simp [hd, e1]; omega)
          rw [hi] at this
          exact .inl this
        · rename_i hz
          refine d2_ixS (by omega) h0 ?_
          repeat' walk_at "d1"
          · rename_i hc
            have e1 : canon z.cps.toList = true := by rw [ck, decide_eq_false hc]; simp
            refine dr_intS hi (by omega) ?_
            have := eq true (by simp [hd, e1]; omega)
            rw [hi] at this
            exact .inl this
          · rename_i hc
            have e1 : canon z.cps.toList = false := by rw [ck, decide_eq_false hz, decide_eq_true hc]; rfl
            exact .inl (eq false (by simp [hd, e1]))
  · rename_i h1
    exact .inl (eq false (by simp; omega))
/-- a text's number, if it is one -/
def nv (z : Str) : Int := (PySem.intText? z).getD 0
def cnt (z : Str) : Option Int := if (decide (1 ≤ z.length) && decide (z.length ≤ 20) && z.cps.toList.all digC && canon z.cps.toList) = true then some (nv z) else none
theorem countIn_is (z : Str) : countIn z = oiD (cnt z) := by
  unfold countIn cnt
  split <;> rfl
def tuO (os : List (Option Int)) : Dat := .tup (os.map oiD)
def roadB (n : Int) : List (Option Int) → Bool
  | [some u, some v] => idx n (some u) && idx n (some v) && decide (u < v)
  | _ => false
def toPr : List (Option Int) → Pr
  | [some u, some v] => (u, v)
  | _ => (0, 0)
theorem roadB_no {n : Int} {os : List (Option Int)} (h : os.length ≠ 2) : roadB n os = false := by
  unfold roadB
  split
  · exact absurd rfl h
  · rfl
def pm_is_road (K : PySem.W.Frag) : Pm := fun ds ms P X => ∃ (os : List (Option Int)) (n : Int), ds = [tuO os, .int n] ∧ P (.bl (roadB n os)) ms
theorem ok_is_road {f : Addr} {fd : FuncData}  {g0 : Addr} {fd0 : FuncData} (D_is_index : Df K mg "is_index" g0) (G_is_index : FnG P w K mg base (L2N.CX P w) 2 g0 fd0 ["value", "many"] (spD K (pm_is_index K))) (b_is_index : Binds K fd0 ["value", "many"] []) (F : Fun K "is_road" "is_road" s_is_road f fd) (T : Txt K mg) :
    FnG P w K mg base (L2N.CX P w) 3 f fd ["value", "houses"] (spD K (pm_is_road K)) := by
  refine fn_dl F sc_is_road (fun ds ms Pd X h => by obtain ⟨_, _, rfl, _⟩ := h; rfl) (fun cdv Ar outer s H E hr hq => ?_)
  have tk := (L2N.takes_of (X := cxOf (L2N.CX P w) P w K mg base ["value", "houses", "u", "v"] "is_road" (defScope s_is_road) f cdv Ar outer s H E) (E := E) rfl rfl rfl rfl)
  refine ⟨_, (pss_cons (ps_if (PW.pt (pw_or (pt_not (pt_val (pe_callB (crK (K := K) (r := rIsiX) rfl call_isiX) (by rfl) T.b_isinstance bt_isinstance (pa_cons (pv 0) (pa_cons (pe_bltn (v := .ty "tuple") rfl T.b_tuple bt_tuple rfl) pa_nil))))) (pw_or1 (pt_cmpR (opK (K := K) (r := rNeA) rfl (op_neA hr.units)) (pe_callB (crK (K := K) (r := rLenK) rfl call_len) (by rfl) T.b_len bt_len (pa_cons (pv 0) pa_nil)) pe_int (nomark _))))) (pss_one (ps_ret pe_bl)) pss_nil) (pss_cons (ps_asg (pv 0) (pg_tup (n := 2) rfl (pgs_cons (pg_name (i := 2) sc_is_road.nd rfl (by first | exact Or.inl rfl | exact Or.inr rfl)) (pgs_cons (pg_name (i := 3) sc_is_road.nd rfl (by first | exact Or.inl rfl | exact Or.inr rfl)) pgs_nil)))) (pss_one (ps_ret (pe_and (pe_g G_is_index (hr.mono (by decide)) hq rfl D_is_index.m D_is_index.k b_is_index .nil (fun σ => L2N.passAt tk σ) (pa_cons (pv 2) (pa_cons (pv 1) pa_nil))) (pe_and (pe_g G_is_index (hr.mono (by decide)) hq rfl D_is_index.m D_is_index.k b_is_index .nil (fun σ => L2N.passAt tk σ) (pa_cons (pv 3) (pa_cons (pv 1) pa_nil))) (pe_one (pe_cmpR op_ltA (pv 2) (pv 3) (nomark _))))))))), ?_⟩
  try simp only [cxK]
  rintro _ ms Pd Xd ⟨os, n, rfl, q⟩ bl mb
  unfold tuO
  repeat' first
    | walk_at "d1"
    | with_reducible refine dr_isi (T := "tuple") rfl kTT ?_
  · rename_i h
    have h : os.length ≠ 2 := by
      intro e
      apply h
      rw [List.length_map, e]
      rfl
    rw [roadB_no h] at q
    exact .inl q
  · rename_i h
    match os, h, q with
    | [a, b], _, q =>
      simp only [List.map_cons, List.map_nil]
      repeat' walk_at "d1"
      refine ⟨a, n, rfl, ?_⟩
      cases a with
      | none =>
        dsimp only [idx]
        repeat' walk_at "d1"
        exact .inl q
      | some u =>
        have e0 : roadB n [some u, b] = (idx n (some u) && (idx n b && match b with | some v => decide (u < v) | none => false)) := by
          cases b with
          | none => simp [roadB, idx]
          | some v => simp [roadB, Bool.and_assoc]
        rw [e0] at q
        cases hu : idx n (some u) with
        | false =>
          rw [hu] at q
          repeat' walk_at "d1"
          exact .inl q
        | true =>
          rw [hu] at q
          repeat' walk_at "d1"
          refine ⟨b, n, rfl, ?_⟩
          cases b with
          | none =>
            dsimp only [idx]
            repeat' walk_at "d1"
            exact .inl q
          | some v =>
            cases hv : idx n (some v) with
            | false =>
              rw [hv] at q
              repeat' walk_at "d1"
              exact .inl q
            | true =>
              rw [hv] at q
              dsimp only [oiD]
              repeat' walk_at "d1"
              exact .inl q
def roadsB (n : Int) (oss : List (List (Option Int))) : Bool := decide ((oss.length : Int) = n - 1) && oss.all (roadB n) && asc (oss.map toPr)
def pm_are_roads (K : PySem.W.Frag) : Pm := fun ds ms P X => ∃ (x : Dat) (oss : List (List (Option Int))) (n : Int), ds = [x, .int n] ∧ SeqV ms x (oss.map tuO) ∧ (x = .lst (oss.map tuO) ∨ x = .tup (oss.map tuO)) ∧ oss.length ≤ 100000 ∧ P (.bl (roadsB n oss)) ms
theorem road_pr {n : Int} : ∀ {os : List (Option Int)}, roadB n os = true → tuO os = dpPr (toPr os)
  | [some _, some _], _ => rfl
theorem roads_pr {n : Int} : ∀ {oss : List (List (Option Int))}, oss.all (roadB n) = true → oss.map tuO = (oss.map toPr).map dpPr
  | [], _ => rfl
  | os :: oss, h => by
    rw [List.all_cons, Bool.and_eq_true] at h
    rw [List.map_cons, List.map_cons, List.map_cons, road_pr h.1, roads_pr h.2]
theorem all_map {α : Type} (f : α → Dat) (l : List α) (p : α → Bool) (g : Dat → Dat) (h : ∀ a ∈ l, g (f a) = .bl (p a)) : (((l.map f).filter fun _ => true).map g) = (l.map p).map Dat.bl := by
  rw [List.filter_eq_self.mpr (fun _ _ => rfl), List.map_map, List.map_map]
  exact List.map_congr_left h
theorem itm {α : Type} [Inhabited α] {f : α → Dat} {l : List α} {i : Nat} (h : i < l.length) : itL (l.map f) i = f l[i] := itL_get (by rw [List.getElem?_map, List.getElem?_eq_getElem h]; rfl)
theorem range_get {α β : Type} (l : List α) (g : α → β) (d : α) : (List.range l.length).map (fun i => g (l.getD i d)) = l.map g := by
  refine List.ext_getElem (by simp) fun i h1 h2 => ?_
  have hi : i < l.length := by simpa using h1
  simp [List.getD_eq_getElem?_getD, List.getElem?_eq_getElem hi]
theorem ok_are_roads {f : Addr} {fd : FuncData}  {g0 : Addr} {fd0 : FuncData} (D_is_list : Df K mg "is_list" g0) (G_is_list : FnG P w K mg base (L2N.CX P w) 1 g0 fd0 ["value"] (spD K (pm_is_list K))) (b_is_list : Binds K fd0 ["value"] []) {g1 : Addr} {fd1 : FuncData} (D_is_road : Df K mg "is_road" g1) (G_is_road : FnG P w K mg base (L2N.CX P w) 3 g1 fd1 ["value", "houses"] (spD K (pm_is_road K))) (b_is_road : Binds K fd1 ["value", "houses"] []) {g2 : Addr} {fd2 : FuncData} (D_ascends : Df K mg "ascends" g2) (G_ascends : FnG P w K mg base (L2N.CX P w) 1 g2 fd2 ["items"] (spD K (pm_ascends K))) (b_ascends : Binds K fd2 ["items"] []) (F : Fun K "are_roads" "are_roads" s_are_roads f fd) (T : Txt K mg) :
    FnG P w K mg base (L2N.CX P w) 4 f fd ["value", "houses"] (spD K (pm_are_roads K)) := by
  refine fn_dl F sc_are_roads (fun ds ms Pd X h => by obtain ⟨_, _, _, rfl, _⟩ := h; rfl) (fun cdv Ar outer s H E hr hq => ?_)
  have tk := (L2N.takes_of (X := cxOf (L2N.CX P w) P w K mg base ["value", "houses", "road"] "are_roads" (defScope s_are_roads) f cdv Ar outer s H E) (E := E) rfl rfl rfl rfl)
  refine ⟨_, (pss_cons (ps_if (PW.pt (pw_or (pt_not (pt_val (pe_g G_is_list (hr.mono (by decide)) hq rfl D_is_list.m D_is_list.k b_is_list .nil (fun σ => L2N.passAt tk σ) (pa_cons (pv 0) pa_nil)))) (pw_or1 (pt_cmpR (opK (K := K) (r := rNeA) rfl (op_neA hr.units)) (pe_callB (crK (K := K) (r := rLenK) rfl call_len) (by rfl) T.b_len bt_len (pa_cons (pv 0) pa_nil)) (pe_op op_subA (pv 1) pe_int) (nomark _))))) (pss_one (ps_ret pe_bl)) pss_nil) (pss_one (ps_ret (pe_and (pe_callB (crK (K := K) (r := rAll) rfl (cr_all rfl)) (by rfl) T.b_all bt_all (pa_cons (pe_lc (own := [("road", 2)]) rfl sc_are_roads.nd (pi_or (pi_list (pv 0)) (pi_tup (pv 0))) (blkOk_by (own := [("road", 2)]) (N := ["value", "houses", "road"]) (sc := defScope s_are_roads) (by decide +kernel)) (fun _ _ _ _ _ => (pg_name (i := 2) sc_are_roads.nd rfl (by first | exact Or.inl rfl | exact Or.inr rfl))) (fun _ _ _ _ _ => pts_nil) (fun _ _ _ _ _ => (pe_g G_is_road (hr.mono (by decide)) hq rfl D_is_road.m D_is_road.k b_is_road .nil (fun σ => passN σ) (pa_cons (pv 2) (pa_cons (pv 1) pa_nil))))) pa_nil)) (pe_one (pe_g G_ascends (hr.mono (by decide)) hq rfl D_ascends.m D_ascends.k b_ascends .nil (fun σ => L2N.passAt tk σ) (pa_cons (pv 0) pa_nil))))))), ?_⟩
  try simp only [cxK]
  rintro _ ms Pd Xd ⟨x, oss, n, rfl, sv, kind, hl, q⟩ bl mb
  unfold roadsB at q
  repeat' walk_at "d1"
  refine ⟨x, _, rfl, sv, ?_⟩
  repeat' walk_at "d1"
  refine dr_lenV sv ?_
  rw [List.length_map]
  repeat' walk_at "d1"
  · rename_i h
    exact fin_b q (by simp [h])
  · rename_i h
    have fin : ∀ (m : Ms), m = ms → DR K (rAll K) [.lst ((oss.map (roadB n)).map Dat.bl)] m (fun d m' => ∃ c, d = Dat.bl c ∧ (c = true → DE K (fun c d x H => E c d H) (tCallD (spD K (pm_ascends K)) [] (WE fun c d x H => E c d H) (tCons (tVar 0) tNil)) (startE ["value", "houses", "road"] [x, Dat.int n]) m' (bodyOut ms.length Pd Xd).rt ((bodyOut ms.length Pd Xd).xp (startE ["value", "houses", "road"] [x, Dat.int n]))) ∧ (c = false → (bodyOut ms.length Pd Xd).rt (Dat.bl false) m')) := by
      rintro m rfl
      refine dr_allB rfl ?_
      rw [all_id]
      cases ha : oss.all (roadB n) with
      | false =>
        repeat' walk_at "d1"
        exact fin_b q (by rw [ha]; simp)
      | true =>
        repeat' walk_at "d1"
        refine ⟨x, oss.map toPr, rfl, ?_, by rw [List.length_map]; exact hl, .inl ?_⟩
        · rw [← roads_pr ha]; exact sv
        · rw [ha] at q
          have e : ((oss.length : Int) = n - 1) := by omega
          rw [decide_eq_true e] at q
          simpa using q
    have turn : ∀ i, i < oss.length → DG K (gName 2) (itL (oss.map tuO) i) (wipeE (startE ["value", "houses", "road"] [x, Dat.int n]) (List.map (fun x => x.snd) [(Str.ofString "road", 2)])) ms (List.map (fun x => x.snd) [(Str.ofString "road", 2)]) (fun e2 m2 => DT K (fun c d x H => E c d H) tYes e2 m2 (fun b m3 => b = (fun _ => true) i ∧ m3 = ms ∧ (b = true → DE K (fun c d x H => E c d H) (tCallD (spD K (pm_is_road K)) [] (fun σ => E0) (tCons (tVar 2) (tCons (tVar 1) tNil))) e2 ms (fun y m4 => y = (fun i => Dat.bl (roadB n (oss.getD i []))) i ∧ m4 = ms) (fun _ _ _ => False))) (fun _ _ _ => False)) := by
      intro i hi
      rw [itm hi]
      refine dg_name (by decide) (dt_yes ⟨rfl, rfl, fun _ => ?_⟩)
      repeat' walk_at "d1"
      refine ⟨oss[i], n, rfl, ?_⟩
      exact ⟨by show Dat.bl _ = Dat.bl (roadB n (oss.getD i [])); rw [List.getD_eq_getElem?_getD, List.getElem?_eq_getElem hi]; rfl, rfl⟩
    have em : ((List.range oss.length).filter (fun _ => true)).map (fun i => Dat.bl (roadB n (oss.getD i []))) = (oss.map (roadB n)).map Dat.bl := by
      rw [List.filter_eq_self.mpr (fun _ _ => rfl), ← range_get oss (roadB n) [], List.map_map]
      rfl
    rcases kind with e | e
    · subst e
      refine di_orl (di_lst ?_)
      repeat' walk_at "d1"
      refine as_lst ?_
      rw [List.length_map]
      refine lcw_map (by omega) (fun _ => true) (fun i => .bl (roadB n (oss.getD i []))) (fun i hi => turn i hi) (da_nil ?_)
      rw [em]
      exact fin ms rfl
    · subst e
      refine di_orr (di_tup ?_)
      repeat' walk_at "d1"
      rw [List.length_map]
      refine lcw_map (by omega) (fun _ => true) (fun i => .bl (roadB n (oss.getD i []))) (fun i hi => turn i hi) (da_nil ?_)
      rw [em]
      exact fin ms rfl
end
end K03
namespace K03
open PySem PySem.Spec PyProof.Rows L2 DL
local macro_rules | `(tactic| walk_at "hyp") => `(tactic| (first
  | (simp only [Bool.not_eq_true', Bool.not_eq_false', decide_eq_true_eq, decide_eq_false_iff_not, Bool.or_eq_true, Bool.and_eq_true, Bool.or_eq_false_iff, Bool.not_true, Bool.not_false, Bool.and_eq_false_iff] at *)
  | skip))
local macro_rules | `(tactic| walk_at "d1") => `(tactic| first
  | with_reducible refine ds_seq ?_
  | with_reducible refine ds_if ?_
  | with_reducible refine ds_ret ?_
  | with_reducible refine ds_set ?_
  | with_reducible refine ds_drop ?_
  | with_reducible refine ds_par ?_
  | with_reducible refine ds_par3 ?_
  | with_reducible refine ds_next ?_
  | with_reducible refine de_var rfl ?_
  | with_reducible refine de_int ?_
  | with_reducible refine de_str ?_
  | with_reducible refine de_bl ?_
  | with_reducible refine de_non ?_
  | with_reducible refine de_ty ?_
  | with_reducible refine de_ref ?_
  | with_reducible refine de_op ?_
  | with_reducible refine de_chain ?_
  | with_reducible refine de_un ?_
  | with_reducible refine de_dnew ?_
  | with_reducible refine de_disp1 ?_
  | with_reducible refine de_cb ?_
  | with_reducible refine de_bm ?_
  | with_reducible refine de_sl ?_
  | with_reducible refine de_tup ?_
  | with_reducible refine de_lst ?_
  | with_reducible refine de_fstr ?_
  | with_reducible refine de_fmtS ?_
  | with_reducible refine dj_cons ?_
  | with_reducible refine dj_nil ?_
  | with_reducible refine do_none ?_
  | with_reducible refine do_some ?_
  | with_reducible refine de_g0 (dds := []) (fun _ => .nil) ?_
  | with_reducible refine de_g (dds := []) (fun _ => .nil) ?_
  | with_reducible refine de_lc ?_
  | with_reducible refine di_str ?_
  | with_reducible refine di_tup ?_
  | with_reducible refine de_notV ?_
  | with_reducible refine de_andV ?_
  | with_reducible refine de_orV ?_
  | with_reducible refine de_if ?_
  | with_reducible refine dt_test ?_
  | with_reducible refine dt_B ?_
  | with_reducible refine dt_and ?_
  | with_reducible refine dt_or ?_
  | with_reducible refine dt_not ?_
  | with_reducible refine dt_yes ?_
  | with_reducible refine da_cons ?_
  | with_reducible refine da_nil ?_
  | with_reducible refine d2_leI ?_
  | with_reducible refine d2_ltI ?_
  | with_reducible refine d2_geI ?_
  | with_reducible refine d2_gtI ?_
  | with_reducible refine d2_addI ?_
  | with_reducible refine d2_sub ?_
  | ((with_reducible refine' d2_leS1 (sign1_cps _) ?hs1 ?_); (case hs1 => first | exact sg_a | exact sg_z | exact sg_sp | exact sg_ti))
  | ((with_reducible refine' d2_leS1 ?hs1 (sign1_cps _) ?_); (case hs1 => first | exact sg_a | exact sg_z | exact sg_sp | exact sg_ti))
  | with_reducible refine dr_int ?_
  | with_reducible refine dr_abs ?_
  | with_reducible refine dg_sub ?_
  | ((with_reducible refine' d2_ix ?hsq ?hix ?_); (case hsq => assumption); (case hix => rfl))
  | ((with_reducible refine' d2_mod ?hmod ?_); (case hmod => first | decide | omega))
  | ((with_reducible refine' d2_mul ?hmul ?_); (case hmul => exact mul_ok (by omega) (by omega)))
  | ((with_reducible refine' d2_div ?hdiv ?_); (case hdiv => exact div_ok (by first | decide | omega) (by omega)))
  | ((with_reducible refine' d2_pow ?hpow ?_); (case hpow => exact pow_ok (by decide) (by decide) (by omega)))
  | with_reducible refine d2_notI ?_
  | with_reducible refine d2_notSt ?_
  | with_reducible refine d2_notNn ?_
  | with_reducible refine d2_notT ?_
  | with_reducible refine d2_isI ?_
  | with_reducible refine d2_isNn ?_
  | with_reducible refine d2_isT ?_
  | with_reducible refine d2_neI ?_
  | with_reducible refine d2_eqI ?_
  | with_reducible refine d2_eqS ?_
  | with_reducible refine d2_neS ?_
  | with_reducible refine dr_isiK (by assumption) (by decide) (by first | assumption | exact isTyD_str _ | exact isTyD_tup _ | rfl) ?_
  | with_reducible refine dr_lenT ?_
  | with_reducible refine dr_lenL ?_
  | with_reducible refine dr_lenR ?_
  | with_reducible refine dr_lenC (by assumption) ?_
  | with_reducible refine ds_to ?_
  | with_reducible refine dg_name (by decide) ?_
  | with_reducible refine dg_tup2 ?_
  | with_reducible refine dg_tup3 ?_
  | with_reducible refine dg_tup4 ?_
  | with_reducible refine dgs_cons ?_
  | with_reducible refine dgs_nil ?_
  | with_reducible refine dr_lenS (by omega) ?_
  | with_reducible refine ⟨⟨by simp only [List.length_cons, List.length_nil], by simp only [List.length_cons, List.length_nil]; omega⟩, ?_⟩
  | with_reducible refine ⟨_, rfl, ?_⟩
  | with_reducible refine ⟨_, _, rfl, ?_⟩
  | with_reducible refine ⟨tyD_str, ?_⟩
  | with_reducible refine ⟨by omega, ?_⟩
  | with_reducible refine ⟨by (simp only [PySem.Str.length_append, len_empty, len_sp, List.length_cons, List.length_nil, List.length_append]; omega), ?_⟩
  | with_reducible refine bothT ?_
  | with_reducible refine bothF ?_
  | with_reducible refine bothNT ?_
  | with_reducible refine bothNF ?_
  | (with_reducible refine both (fun hc => ?_) (fun hc => ?_) <;> (try simp only [Bool.not_eq_true', Bool.not_eq_false', decide_eq_true_eq, decide_eq_false_iff_not] at hc) <;> (try (exfalso; omega)) <;> (try exact absurd rfl hc) <;> (try exact absurd trivial hc)))

local macro_rules | `(tactic| walk_at "sm") => `(tactic| first
  | with_reducible refine di_lst ?_
  | with_reducible refine as_lst ?_
  | ((with_reducible refine' d2_addSm ?hs1 ?hs2 ?hs3 (fun hs => ?_)); (case hs1 => assumption); (case hs2 => assumption); (case hs3 => omega))
  | ((with_reducible refine' d2_addL ?hal ?_); (case hal => (simp; try omega)))
  | with_reducible refine d1_neg ?_)

abbrev s_joined_by : Stmt := (topS 18)
theorem sc_joined_by : FnScope ["houses", "roads", "found", "u", "v", "_", "others"] ["houses", "roads"] (defScope s_joined_by) := ⟨rfl, rfl, rfl, by decide +kernel, rfl, by decide +kernel, by decide +kernel⟩
abbrev s_ways_from : Stmt := (topS 19)
theorem sc_ways_from : FnScope ["near", "house", "found", "front", "at", "other", "_"] ["near", "house"] (defScope s_ways_from) := ⟨rfl, rfl, rfl, by decide +kernel, rfl, by decide +kernel, by decide +kernel⟩
section
variable {P : Program} {w : World} {K : PySem.W.Frag} {mg : Str → Option Value} {base : Heap}
def numsO (z : Str) : List (Option Int) := (Txt.split z "-").map cnt
theorem sum_part {l : List Nat} {n : Nat} (h : n ∈ l) : n ≤ l.sum := by
  induction l with
  | nil => cases h
  | cons a l ih =>
    rw [List.sum_cons]
    rcases List.mem_cons.mp h with z | z
    · omega
    · have := ih z; omega
theorem split_len1 {x y : Str} (hy : 1 ≤ y.length) : (Txt.split x y).length ≤ x.length + 1 := by have := split_weight x y hy; omega
theorem split_part {x y p : Str} (hy : 1 ≤ y.length) (h : p ∈ Txt.split x y) : p.length ≤ x.length := by
  have h1 := split_weight x y hy
  have h2 := sum_part (List.mem_map_of_mem (f := (·.length)) h)
  have h3 := List.length_pos_of_mem h
  omega
theorem lcw_get {α : Type} (l : List α) (f : α → Dat) (g : Nat → Dat) (h : ∀ i (hi : i < l.length), g i = f l[i]) : ((List.range l.length).filter (fun _ => true)).map g = l.map f := by
  rw [List.filter_eq_self.mpr (fun _ _ => rfl)]
  refine List.ext_getElem (by simp) fun i h1 h2 => ?_
  simp only [List.length_map] at h2
  simp [h i h2]
theorem itD {α : Type} {f : α → Dat} {l : List α} {i : Nat} (h : i < l.length) : itL (l.map f) i = f l[i] := itL_get (by rw [List.getElem?_map, List.getElem?_eq_getElem h]; rfl)
theorem lcD {α : Type} [Inhabited α] (l : List α) (f : α → Dat) : ((List.range l.length).filter (fun _ => true)).map (fun i => f (l.getD i default)) = l.map f :=
  lcw_get l f _ fun i hi => by rw [List.getD_eq_getElem?_getD, List.getElem?_eq_getElem hi]; rfl
theorem getD_at {α : Type} {l : List α} {i : Nat} {a : α} (h : i < l.length) : l.getD i a = l[i] := by rw [List.getD_eq_getElem?_getD, List.getElem?_eq_getElem h]; rfl
def pm_numbers_in (K : PySem.W.Frag) : Pm := fun ds ms P X => ∃ z, ds = [.str z] ∧ z.length ≤ 10000 ∧ P (tuO (numsO z)) ms
instance : Inhabited Str := ⟨""⟩
theorem ok_numbers_in {f : Addr} {fd : FuncData}  {g0 : Addr} {fd0 : FuncData} (D_count_in : Df K mg "count_in" g0) (G_count_in : FnG P w K mg base (L2N.CX P w) 1 g0 fd0 ["word"] (spD K (pm_count_in K))) (b_count_in : Binds K fd0 ["word"] []) (F : Fun K "numbers_in" "numbers_in" s_numbers_in f fd) (T : Txt K mg) :
    FnG P w K mg base (L2N.CX P w) 2 f fd ["word"] (spD K (pm_numbers_in K)) := by
  refine fn_dl F sc_numbers_in (fun ds ms Pd X h => by obtain ⟨_, rfl, _⟩ := h; rfl) (fun cdv Ar outer s H E hr hq => ?_)
  have tk := (L2N.takes_of (X := cxOf (L2N.CX P w) P w K mg base ["word", "part"] "numbers_in" (defScope s_numbers_in) f cdv Ar outer s H E) (E := E) rfl rfl rfl rfl)
  refine ⟨_, (pss_one (ps_ret (pe_callTy call_tuple_of (by rfl) T.b_tuple bt_tuple (pa_cons (pe_lc (own := [("part", 1)]) rfl sc_numbers_in.nd (pi_list (pe_bmK (K := K) rfl PySem.F.plainAttrs_str PySem.F.slot_str_split PySem.F.type_str_split mt_split (pv 0) (pa_cons pe_str pa_nil))) (blkOk_by (own := [("part", 1)]) (N := ["word", "part"]) (sc := defScope s_numbers_in) (by decide +kernel)) (fun _ _ _ _ _ => (pg_name (i := 1) sc_numbers_in.nd rfl (by first | exact Or.inl rfl | exact Or.inr rfl))) (fun _ _ _ _ _ => pts_nil) (fun _ _ _ _ _ => (pe_g G_count_in (hr.mono (by decide)) hq rfl D_count_in.m D_count_in.k b_count_in .nil (fun σ => passN σ) (pa_cons (pv 1) pa_nil)))) pa_nil)))), ?_⟩
  try simp only [cxK]
  rintro _ ms Pd Xd ⟨z, rfl, hz, q⟩ bl mb
  have hl := split_len1 (x := z) (y := "-") (by decide +kernel)
  repeat' walk_at "d1"
  refine di_lst ?_
  repeat' walk_at "d1"
  refine dr_split (by decide +kernel) (by omega) (as_lst ?_)
  rw [List.length_map]
  refine lcw_map (by omega) (fun _ => true) (fun i => countIn ((Txt.split z "-").getD i default)) (fun i hi => dg_name (by decide) (dt_yes ⟨rfl, rfl, fun _ => ?_⟩)) (da_nil ?_)
  · rw [itD hi]
    repeat' walk_at "d1"
    refine ⟨_, rfl, ?_, ?_⟩
    · have := split_part (x := z) (y := "-") (by decide +kernel) (List.getElem_mem hi)
      omega
    · rw [getD_at hi]; exact ⟨rfl, rfl⟩
  · rw [lcD]
    refine dr_tupOf (.inl rfl) (.inl ?_)
    unfold tuO numsO at q
    rw [List.map_map] at q
    rwa [show countIn = oiD ∘ cnt from funext countIn_is]
def pm_joined_by (K : PySem.W.Frag) : Pm := fun ds ms P X => ∃ (n : Nat) (x : Dat) (rs : List Pr), ds = [.int n, x] ∧ (x = .lst (rs.map dpPr) ∨ x = .tup (rs.map dpPr)) ∧ n ≤ 1000 ∧ rs.length ≤ 1000 ∧ InR n rs ∧ ∀ near, NearOk n rs near → P (.tup (near.map tuD)) ms
def JB (n : Nat) (rs : List Pr) (x : Dat) (ms : Ms) (i : Nat) (e : Ev) (m : Ms) : Prop := ∃ bs a b, BinOk n (rs.take i) bs ∧ e = [some (.int n), some x, some (.lst (cellsD ms.length n)), a, b, none, none] ∧ m = ms ++ bs.map liM
theorem take_at {α : Type} {l : List α} {i : Nat} (h : i < l.length) : l.take (i + 1) = l.take i ++ [l[i]] := by rw [List.take_add_one, List.getElem?_eq_getElem h]; rfl
theorem bin_at {n : Nat} {rs : List Pr} {bs : List (List Int)} (h : BinOk n rs bs) {u : Nat} (hu : u < n) : ∃ ws, bs[u]? = some ws := ⟨_, List.getElem?_eq_getElem (by rw [h.len]; exact hu)⟩
theorem nat_of {i : Int} (h : 0 ≤ i) : ∃ n : Nat, i = n := ⟨i.toNat, by omega⟩
theorem liM_snoc (ws : List Int) (v : Int) : MO.lst (ws.map Dat.int ++ [.int v]) = liM (ws ++ [v]) := by unfold liM; rw [List.map_append]; rfl
def JN (n : Nat) (bs : List (List Int)) (m : Ms) (i : Nat) (acc : List Dat) (m' : Ms) : Prop := ∃ near : List (List Int), acc = near.map tuD ∧ near.length = i ∧ m' = m ∧ ∀ (u : Nat) ws, near[u]? = some ws → ∃ ws', bs[u]? = some ws' ∧ ws.Perm ws'
theorem jn_step {n : Nat} {bs : List (List Int)} {m m' : Ms} {i : Nat} {acc : List Dat} {ws is : List Int} (j : JN n bs m i acc m') (h : bs[i]? = some ws) (hp : is.Perm ws) : JN n bs m (i + 1) (acc ++ [tuD is]) m' := by
  obtain ⟨near, rfl, hl, rfl, hm⟩ := j
  refine ⟨near ++ [is], by rw [List.map_append]; rfl, by simp [hl], rfl, fun u us hu => ?_⟩
  rw [List.getElem?_append] at hu
  split at hu
  · exact hm u us hu
  · have : u = i := by
      have := (List.getElem?_eq_some_iff.mp hu).1
      simp at this
      omega
    subst this
    rw [hl, Nat.sub_self] at hu
    cases hu
    exact ⟨ws, h, hp⟩
theorem near_of {n : Nat} {rs : List Pr} {bs near : List (List Int)} (b : BinOk n rs bs) (hl : near.length = n) (hm : ∀ (u : Nat) ws, near[u]? = some ws → ∃ ws', bs[u]? = some ws' ∧ ws.Perm ws') : NearOk n rs near :=
  ⟨hl, fun u ws h v => by
    obtain ⟨ws', h1, h2⟩ := hm u ws h
    rw [h2.mem_iff]
    exact (b.mem u ws' h1).1 v⟩
theorem ok_joined_by {f : Addr} {fd : FuncData}   (F : Fun K "joined_by" "joined_by" s_joined_by f fd) (T : Txt K mg) :
    FnG P w K mg base (L2N.CX P w) 1 f fd ["houses", "roads"] (spD K (pm_joined_by K)) := by
  refine fn_dl F sc_joined_by (fun ds ms Pd X h => by obtain ⟨_, _, _, rfl, _⟩ := h; rfl) (fun cdv Ar outer s H E hr hq => ?_)
  have tk := (L2N.takes_of (X := cxOf (L2N.CX P w) P w K mg base ["houses", "roads", "found", "u", "v", "_", "others"] "joined_by" (defScope s_joined_by) f cdv Ar outer s H E) (E := E) rfl rfl rfl rfl)
  refine ⟨_, (pss_cons (ps_setLc (i := 2) (own := [("_", 5)]) rfl sc_joined_by.nd rfl rfl (sw_true rfl rfl rfl (by decide +kernel)) (pi_range1 rfl T.b_range (pa_cons (pv 0) pa_nil)) (blkOk_by (own := [("_", 5)]) (N := ["houses", "roads", "found", "u", "v", "_", "others"]) (sc := defScope s_joined_by) (by decide +kernel)) (fun _ _ _ _ _ => (pg_name (i := 5) sc_joined_by.nd rfl (by first | exact Or.inl rfl | exact Or.inr rfl))) (fun _ _ _ _ _ => pts_nil) (fun _ _ _ _ _ => (pe_lst pa_nil))) (pss_cons (ps_for (by first | exact PassesOwn.never | assumption | exact passes_of rfl) rfl (pi_or (pi_list (pv 1)) (pi_tup (pv 1))) (pg_tup (n := 2) rfl (pgs_cons (pg_name (i := 3) sc_joined_by.nd rfl (by first | exact Or.inl rfl | exact Or.inr rfl)) (pgs_cons (pg_name (i := 4) sc_joined_by.nd rfl (by first | exact Or.inl rfl | exact Or.inr rfl)) pgs_nil))) (pss_cons (ps_expr (pe_bmK (K := K) rfl PySem.F.plainAttrs_list PySem.F.slot_list_append PySem.F.type_list_append mtA_append (pe_ix (ixK (K := K) (r := rIx) rfl ix_seq) (pv 2) (pv 3) (fun _ _ => rfl)) (pa_cons (pv 4) pa_nil))) (pss_one (ps_expr (pe_bmK (K := K) rfl PySem.F.plainAttrs_list PySem.F.slot_list_append PySem.F.type_list_append mtA_append (pe_ix (ixK (K := K) (r := rIx) rfl ix_seq) (pv 2) (pv 4) (fun _ _ => rfl)) (pa_cons (pv 3) pa_nil)))))) (pss_one (ps_ret (pe_callTy call_tuple_of (by rfl) T.b_tuple bt_tuple (pa_cons (pe_lc (own := [("others", 6)]) rfl sc_joined_by.nd (pi_list (pv 2)) (blkOk_by (own := [("others", 6)]) (N := ["houses", "roads", "found", "u", "v", "_", "others"]) (sc := defScope s_joined_by) (by decide +kernel)) (fun _ _ _ _ _ => (pg_name (i := 6) sc_joined_by.nd rfl (by first | exact Or.inl rfl | exact Or.inr rfl))) (fun _ _ _ _ _ => pts_nil) (fun _ _ _ _ _ => (pe_callTy (crK (K := K) (r := rTupOf) rfl call_tuple_of) (by rfl) T.b_tuple bt_tuple (pa_cons (pe_callB (crK (K := K) (r := rSortedI) rfl cr_sortedI) (by rfl) T.b_sorted bt_sorted (pa_cons (pv 6) pa_nil)) pa_nil)))) pa_nil)))))), ?_⟩
  try simp only [cxK]
  rintro _ ms Pd Xd ⟨n, x, rs, rfl, sx, hn, hl, hin, q⟩ bl mb
  refine ds_seq (ds_set ?_)
  refine de_lc (di_rng1 ?_)
  repeat' walk_at "d1"
  rw [Int.toNat_natCast]
  refine ⟨by omega, fun i acc m => acc = cellsD ms.length i ∧ m = ms ++ (List.replicate i []).map liM, ⟨rfl, by simp⟩, ?_, ?_⟩
  · rintro i acc m hi _ ⟨rfl, rfl⟩
    refine dg_name (by decide) (dt_yes ⟨fun _ => ?_, fun z => nomatch z⟩)
    refine de_lstC (da_nil ⟨by simp, ?_, ?_⟩)
    · rw [List.length_append, List.length_map, List.length_replicate]
      exact cells_snoc
    · rw [List.append_assoc, List.replicate_succ', List.map_append]
      rfl
  rintro acc m _ ⟨rfl, rfl⟩
  refine ds_seq (ds_for (vs := List.range 10) (di_orV sx (fun Q h => by (repeat' walk_at "d1"); exact h) ?_))
  refine ⟨JB n rs x ms, ⟨_, none, none, bin_nil n, rfl, rfl⟩, ?_, ?_⟩
  · rintro i e m hi ⟨bs, a, b, hb, rfl, rfl⟩
    rw [List.length_map] at hi
    rw [itD hi]
    obtain ⟨p0, p1, p2, p3⟩ := hin _ (List.getElem_mem hi)
    obtain ⟨u, hu⟩ := nat_of p0
    obtain ⟨v, hv⟩ := nat_of p2
    have ep : rs[i] = ((u : Int), (v : Int)) := Prod.ext hu hv
    have hu' : u < n := by omega
    have hv' : v < n := by omega
    obtain ⟨ws, h1⟩ := bin_at hb hu'
    obtain ⟨ws', h2⟩ : ∃ ws', (bs.set u (ws ++ [(v : Int)]))[v]? = some ws' := ⟨_, List.getElem?_eq_getElem (by rw [List.length_set, hb.len]; exact hv')⟩
    have l1 := (hb.mem u ws h1).2
    have hb2 := bin_step hb h1 h2
    have lt := List.length_take_le i rs
    have l2 : ws'.length < 1000000 := by
      rcases List.mem_or_eq_of_mem_set (List.mem_of_getElem? h2) with z | z
      · obtain ⟨k, hk, e⟩ := List.getElem_of_mem z
        have := (hb.mem k ws' (by rw [List.getElem?_eq_getElem hk, e])).2
        omega
      · rw [z, List.length_append, List.length_singleton]; omega
    rw [← ep, ← take_at hi] at hb2
    rw [ep]
    refine dg_tup2 ?_
    repeat' walk_at "d1"
    refine d2_ix (.inl rfl) (cells_at hu') ⟨tyD_cell (cell_at h1), ?_⟩
    repeat' walk_at "d1"
    refine dr_append (cell_at h1) (by rw [List.length_map]; omega) ?_
    rw [liM_snoc, set_at]
    repeat' walk_at "d1"
    refine d2_ix (.inl rfl) (cells_at hv') ⟨tyD_cell (cell_at h2), ?_⟩
    repeat' walk_at "d1"
    refine dr_append (cell_at h2) (by rw [List.length_map]; exact l2) ?_
    rw [liM_snoc, set_at]
    exact ⟨_, _, _, hb2, rfl, rfl⟩
  · rintro e m ⟨bs, a, b, hb, rfl, rfl⟩
    rw [List.length_map, List.take_length] at hb
    refine ds_ret ?_
    repeat' walk_at "d1"
    refine di_lst ?_
    repeat' walk_at "d1"
    refine as_lst ?_
    rw [show (cellsD ms.length n).length = n by unfold cellsD; simp]
    refine ⟨by omega, JN n bs (ms ++ bs.map liM), ⟨[], rfl, rfl, rfl, fun u ws h => by simp at h⟩, ?_, ?_⟩
    · intro i acc m' hi _ j
      have e0 : m' = ms ++ bs.map liM := by obtain ⟨_, _, _, z, _⟩ := j; exact z
      subst e0
      obtain ⟨ws, h1⟩ := bin_at hb hi
      rw [cells_it hi]
      refine dg_name (by decide) (dt_yes ⟨fun _ => ?_, fun z => nomatch z⟩)
      repeat' walk_at "d1"
      refine dr_sortedI (.inr ⟨_, rfl, cell_at h1⟩) fun is hp _ => ?_
      repeat' walk_at "d1"
      exact dr_tupK (.inl rfl) (jn_step j h1 hp)
    · rintro acc m' _ ⟨near, rfl, hl2, rfl, hm⟩
      refine da_nil (dr_tupOf (.inl rfl) ?_)
      exact ret_bel rfl mb (.tup (bel_tus near)) (q near (near_of hb hl2 hm))
theorem two0 {ms : Ms} {A B : MO} : (ms ++ [A, B])[ms.length]? = some A := by rw [List.getElem?_append_right (by omega), Nat.sub_self]; rfl
theorem two1 {ms : Ms} {A B : MO} : (ms ++ [A, B])[ms.length + 1]? = some B := by rw [List.getElem?_append_right (by omega), Nat.add_sub_cancel_left]; rfl
theorem tset0 {ms : Ms} {A B C : MO} : (ms ++ [A, B]).set ms.length C = ms ++ [C, B] := by rw [List.set_append_right _ _ (by omega), Nat.sub_self]; rfl
theorem tset1 {ms : Ms} {A B C : MO} : (ms ++ [A, B]).set (ms.length + 1) C = ms ++ [A, C] := by rw [List.set_append_right _ _ (by omega), Nat.add_sub_cancel_left]; rfl
def tusM (ws : List (List Int)) : MO := .lst (ws.map tuD)
theorem tus_at {ws : List (List Int)} {u : Nat} {w : List Int} (h : ws[u]? = some w) : atI (ws.map tuD) (u : Int) = some (tuD w) := by
  have hu := (List.getElem?_eq_some_iff.mp h).1
  rw [DL.atI_nat (by simpa using hu), List.getElem_map, (List.getElem?_eq_some_iff.mp h).2]
theorem tus_set {ws : List (List Int)} {u : Nat} {w : List Int} : (ws.map tuD).set u (tuD w) = (ws.set u w).map tuD := by rw [List.map_set]
def pm_ways_from (K : PySem.W.Frag) : Pm := fun ds ms P X => ∃ (n : Nat) (rs : List Pr) (near : List (List Int)) (h : Nat), ds = [.tup (near.map tuD), .int h] ∧ NearOk n rs near ∧ InR n rs ∧ h < n ∧ n ≤ 1000 ∧ ∀ ws, WaysOk n rs h ws → P (.tup (ws.map tuD)) ms
def JW (n : Nat) (rs : List Pr) (near : List (List Int)) (h : Nat) (ms : Ms) (k : Nat) (e : Ev) (m : Ms) : Prop := ∃ fnd front a b, Dfs n rs h fnd front none [] ∧ mu fnd front = k ∧ k ≤ 2 * n ∧ e = [some (.tup (near.map tuD)), some (.int h), some (.cell ms.length), some (.cell (ms.length + 1)), a, b, none] ∧ m = ms ++ [tusM fnd, liM front]
def JF (n : Nat) (rs : List Pr) (near : List (List Int)) (h a k : Nat) (ns : List Int) (ms : Ms) (i : Nat) (e : Ev) (m : Ms) : Prop := ∃ fnd front b, Dfs n rs h fnd front (some (a : Int)) (ns.take i) ∧ mu fnd front + 1 ≤ k ∧ k ≤ 2 * n ∧ e = [some (.tup (near.map tuD)), some (.int h), some (.cell ms.length), some (.cell (ms.length + 1)), some (.int a), b, none] ∧ m = ms ++ [tusM fnd, liM front]
theorem ix_nat {n h : Nat} (hh : h < n) : ixN n (h : Int) = some h := by
  unfold ixN
  rw [if_pos (by omega), if_pos (by omega), Int.toNat_natCast]
theorem mu_start {n h : Nat} (hh : h < n) : mu ((List.replicate n []).set h [(h : Int)]) [(h : Int)] ≤ 2 * n := by
  have e0 : empties (List.replicate n ([] : List Int)) = n := by unfold empties; rw [List.filter_replicate]; simp
  have es : empties ((List.replicate n ([] : List Int)).set h [(h : Int)]) + 1 = n := by
    rw [empties_set (by rw [List.getElem?_replicate]; simp [hh]) (by simp), e0]
  unfold mu
  simp
  omega
theorem mu_len {fnd : List (List Int)} {front : List Int} : front.length ≤ mu fnd front := by unfold mu; omega
theorem mu_pop {fnd : List (List Int)} {front : List Int} {a : Int} : mu fnd (front ++ [a]) = mu fnd front + 1 := by unfold mu; rw [List.length_append]; rfl
theorem isE {l : List Int} (h : l.isEmpty = false) : ∃ l' a, l = l' ++ [a] := by
  cases e : l.reverse with
  | nil => rw [List.reverse_eq_nil_iff] at e; rw [e] at h; cases h
  | cons a r => exact ⟨r.reverse, a, by rw [← List.reverse_reverse l, e, List.reverse_cons]⟩
theorem ok_ways_from {f : Addr} {fd : FuncData}   (F : Fun K "ways_from" "ways_from" s_ways_from f fd) (T : Txt K mg) :
    FnG P w K mg base (L2N.CX P w) 1 f fd ["near", "house"] (spD K (pm_ways_from K)) := by
  refine fn_dl F sc_ways_from (fun ds ms Pd X h => by obtain ⟨_, _, _, _, rfl, _⟩ := h; rfl) (fun cdv Ar outer s H E hr hq => ?_)
  have tk := (L2N.takes_of (X := cxOf (L2N.CX P w) P w K mg base ["near", "house", "found", "front", "at", "other", "_"] "ways_from" (defScope s_ways_from) f cdv Ar outer s H E) (E := E) rfl rfl rfl rfl)
  refine ⟨_, (pss_cons (ps_setLc (i := 2) (own := [("_", 6)]) rfl sc_ways_from.nd rfl rfl (sw_true rfl rfl rfl (by decide +kernel)) (pi_tup (pv 0)) (blkOk_by (own := [("_", 6)]) (N := ["near", "house", "found", "front", "at", "other", "_"]) (sc := defScope s_ways_from) (by decide +kernel)) (fun _ _ _ _ _ => (pg_name (i := 6) sc_ways_from.nd rfl (by first | exact Or.inl rfl | exact Or.inr rfl))) (fun _ _ _ _ _ => pts_nil) (fun _ _ _ _ _ => (pe_tup pa_nil))) (pss_cons (ps_asg (pe_tup (pa_cons (pv 1) pa_nil)) (pg_sub (pv 2) (pv 1) set_list)) (pss_cons (ps_set (i := 3) sc_ways_from.nd rfl (by first | exact Or.inl rfl | exact Or.inr rfl) (pe_lst (pa_cons (pv 1) pa_nil))) (pss_cons (ps_while (by first | exact PassesOwn.never | assumption | exact passes_of rfl) (pt_cmpR (opK (K := K) (r := rNeA) rfl (op_neA hr.units)) (pv 3) (pe_lst pa_nil) (nomark _)) (pss_cons (ps_set (i := 4) sc_ways_from.nd rfl (by first | exact Or.inl rfl | exact Or.inr rfl) (pe_bm0 PySem.F.plainAttrs_list PySem.F.slot_list_pop PySem.F.type_list_pop mt_pop (pv 3))) (pss_one (ps_for (by first | exact PassesOwn.never | assumption | exact passes_of rfl) rfl (pi_tup (pe_ix (ixK (K := K) (r := rIx) rfl ix_seq) (pv 0) (pv 4) (fun _ _ => rfl))) (pg_name (i := 5) sc_ways_from.nd rfl (by first | exact Or.inl rfl | exact Or.inr rfl)) (pss_one (ps_if (pt_cmpR (opK (K := K) (r := rEqA) rfl (op_eqA hr.units)) (pe_ix (ixK (K := K) (r := rIx) rfl ix_seq) (pv 2) (pv 5) (fun _ _ => rfl)) (pe_tup pa_nil) (nomark _)) (pss_cons (ps_asg (pe_tup (StX.pa_star (pe_ix (ixK (K := K) (r := rIx) rfl ix_seq) (pv 2) (pv 4) (fun _ _ => rfl)) (pa_cons (pv 5) pa_nil))) (pg_sub (pv 2) (pv 5) set_list)) (pss_one (ps_expr (pe_bmK (K := K) rfl PySem.F.plainAttrs_list PySem.F.slot_list_append PySem.F.type_list_append mtA_append (pv 3) (pa_cons (pv 5) pa_nil))))) pss_nil)))))) (pss_one (ps_ret (pe_callTy call_tuple_of (by rfl) T.b_tuple bt_tuple (pa_cons (pv 2) pa_nil)))))))), ?_⟩
  try simp only [cxK]
  rintro _ ms Pd Xd ⟨n, rs, near, h, rfl, hno, hin, hh, hn, q⟩ bl mb
  refine ds_seq (ds_set ?_)
  refine de_lcC (di_tup ?_)
  repeat' walk_at "d1"
  rw [show (near.map tuD).length = n by rw [List.length_map]; exact hno.len]
  refine ⟨by omega, fun i acc m => acc = (List.replicate i []).map tuD ∧ m = ms, ⟨rfl, rfl⟩, ?_, ?_⟩
  · rintro i acc m hi _ ⟨rfl, rfl⟩
    refine dg_name (by decide) (dt_yes ⟨fun _ => ?_, fun z => nomatch z⟩)
    repeat' walk_at "d1"
    exact ⟨by rw [List.replicate_succ', List.map_append]; rfl, rfl⟩
  rintro acc m _ ⟨rfl, rfl⟩
  refine ds_seq (ds_asg (vs := []) ?_)
  repeat' walk_at "d1"
  refine sub_to (by rw [List.getElem?_append_right (by omega), Nat.sub_self]; rfl) (ix_nat (by simpa using hh)) ?_
  refine ds_seq (ds_set (de_lstC (da_cons (de_var rfl (da_nil ⟨by simp, ?_⟩)))))
  have m0 : (m ++ [MO.lst ((List.replicate n ([] : List Int)).map tuD)]).set m.length (MO.lst (((List.replicate n ([] : List Int)).map tuD).set h (.tup [.int h]))) = m ++ [tusM ((List.replicate n []).set h [(h : Int)])] := by
    rw [List.set_append_right _ _ (by omega), Nat.sub_self, show Dat.tup [.int h] = tuD [(h : Int)] from rfl, tus_set]
    rfl
  rw [m0, List.append_assoc]
  have l1 : (m ++ [tusM ((List.replicate n []).set h [(h : Int)])]).length = m.length + 1 := by simp
  rw [l1]
  refine ds_seq (ds_while (JW n rs near h m) _ ⟨_, _, none, none, dfs_start hh, rfl, mu_start hh, rfl, rfl⟩ ?_)
  rintro k e m1 ⟨fnd, front, a, b, hd, hk, hk2, rfl, rfl⟩
  have tl : ∀ {w : List Int} {u : Nat}, fnd[u]? = some w → w.length ≤ n := fun {w u} hw => by have := hd.short _ (List.mem_of_getElem? hw); omega
  repeat' walk_at "d1"
  refine d2_neC0 two1 ⟨_, rfl, fun hb => ?_, fun hb => ?_⟩
  · obtain ⟨fr, a0, rfl⟩ := isE (by simpa using hb)
    have hp := dfs_pop hd
    obtain ⟨h1, h2, h3⟩ := hp.here a0 rfl
    obtain ⟨a1, rfl⟩ := nat_of h1
    have ha1 : a1 < n := by omega
    have hmu := @mu_pop fnd fr a1
    have hml := @mu_len fnd fr
    refine ds_seq (ds_set (de_bm0 (de_var rfl ⟨tyD_cell two1, dr_pop (xs := fr.map Dat.int) (d := .int a1) (by rw [two1]; unfold liM; rw [List.map_append]; rfl) ?_⟩)))
    rw [tset1]
    obtain ⟨ns, hns⟩ : ∃ ns, near[a1]? = some ns := ⟨_, List.getElem?_eq_getElem (by rw [hno.len]; exact ha1)⟩
    have hadj := hno.mem a1 ns hns
    refine ds_for (vs := List.range 10) (di_tup ?_)
    repeat' walk_at "d1"
    refine d2_ix (.inr (.inl rfl)) (tus_at hns) ⟨_, rfl, ?_⟩
    refine ⟨JF n rs near h a1 k ns m, ⟨fnd, fr, b, hp, by omega, hk2, rfl, rfl⟩, ?_, ?_⟩
    · rintro i e m2 hi ⟨fnd, fr, b, hd, hk, hk2, rfl, rfl⟩
      have hi : i < ns.length := by simpa using hi
      have hml := @mu_len fnd fr
      rw [itD hi]
      have adj := (hadj ns[i]).mp (List.getElem_mem hi)
      obtain ⟨v0, v1⟩ := adj_in hin adj
      obtain ⟨v, hv⟩ := nat_of v0
      rw [hv] at adj v1 ⊢
      have hv' : v < n := by omega
      have gv : ∃ w, fnd[v]? = some w := ⟨_, List.getElem?_eq_getElem (by rw [hd.len]; exact hv')⟩
      obtain ⟨w, hw⟩ := gv
      have ga : ∃ w, fnd[a1]? = some w := ⟨_, List.getElem?_eq_getElem (by rw [hd.len]; exact ha1)⟩
      obtain ⟨wa, hwa⟩ := ga
      have lwa := hd.short _ (List.mem_of_getElem? hwa)
      have tk1 : ns.take (i + 1) = ns.take i ++ [(v : Int)] := by rw [take_at hi, hv]
      refine dg_name (by decide) ?_
      repeat' walk_at "d1"
      refine d2_ix (.inr (.inr (.inr ⟨_, rfl, two0⟩))) (tus_at hw) ?_
      repeat' walk_at "d1"
      refine d2_eqTu0 ⟨_, rfl, fun hc => ?_, fun hc => ?_⟩
      · have hw0 : w = [] := by simpa using hc
        subst hw0
        refine ds_seq (ds_asg (vs := []) (de_tup (da_star ?_)))
        repeat' walk_at "d1"
        refine d2_ix (.inr (.inr (.inr ⟨_, rfl, two0⟩))) (tus_at hwa) ⟨_, .inr (.inl rfl), ?_⟩
        refine da_cons (de_var rfl (da_nil ⟨by simp; omega, ?_⟩))
        rw [show Dat.tup (wa.map Dat.int ++ [Dat.int v]) = tuD (wa ++ [(v : Int)]) by unfold tuD; rw [List.map_append]; rfl]
        repeat' walk_at "d1"
        refine sub_to two0 (ix_nat (by rw [List.length_map, hd.len]; exact hv')) ?_
        rw [tset0, tus_set]
        repeat' walk_at "d1"
        refine ⟨tyD_cell two1, ?_⟩
        repeat' walk_at "d1"
        refine dr_append two1 (by rw [List.length_map]; omega) ?_
        rw [liM_snoc, tset1]
        obtain ⟨dn, mn⟩ := dfs_new hd (by rw [Int.toNat_natCast]; exact hwa) (Int.natCast_nonneg v) v1 (by rw [Int.toNat_natCast]; exact hw) adj
        rw [Int.toNat_natCast] at dn mn
        rw [← tk1] at dn
        exact ⟨_, _, _, dn, by omega, hk2, rfl, rfl⟩
      · have hw0 : w ≠ [] := by intro z; subst z; simp at hc
        repeat' walk_at "d1"
        refine ⟨fnd, fr, _, ?_, hk, hk2, rfl, rfl⟩
        rw [tk1]
        exact dfs_old hd ⟨w, by rw [Int.toNat_natCast]; exact hw, hw0⟩
    · rintro e m2 ⟨fnd, fr, b, hd, hk, hk2, rfl, rfl⟩
      rw [List.length_map, List.take_length] at hd
      exact ⟨mu fnd fr, by omega, fnd, fr, _, _, dfs_close hd fun w hw => (hadj w).mpr hw, rfl, by omega, rfl, rfl⟩
  · have hf : front = [] := by simpa using hb
    subst hf
    refine ds_ret ?_
    repeat' walk_at "d1"
    refine dr_tupOf (.inr (.inr (.inr ⟨_, rfl, two0⟩))) ?_
    exact ret_bel rfl mb (.tup (bel_tus fnd)) (q fnd ⟨hd.len, dfs_end hin (by omega) (by omega) hd⟩)
end
end K03
namespace K03
open PySem PySem.Spec PyProof.Rows L2 DL
local macro_rules | `(tactic| walk_at "hyp") => `(tactic| (first
  | (simp only [Bool.not_eq_true', Bool.not_eq_false', decide_eq_true_eq, decide_eq_false_iff_not, Bool.or_eq_true, Bool.and_eq_true, Bool.or_eq_false_iff, Bool.not_true, Bool.not_false, Bool.and_eq_false_iff] at *)
  | skip))
local macro_rules | `(tactic| walk_at "d1") => `(tactic| first
  | with_reducible refine ds_seq ?_
  | with_reducible refine ds_if ?_
  | with_reducible refine ds_ret ?_
  | with_reducible refine ds_set ?_
  | with_reducible refine ds_drop ?_
  | with_reducible refine ds_par ?_
  | with_reducible refine ds_par3 ?_
  | with_reducible refine ds_next ?_
  | with_reducible refine de_var rfl ?_
  | with_reducible refine de_int ?_
  | with_reducible refine de_str ?_
  | with_reducible refine de_bl ?_
  | with_reducible refine de_non ?_
  | with_reducible refine de_ty ?_
  | with_reducible refine de_ref ?_
  | with_reducible refine de_op ?_
  | with_reducible refine de_chain ?_
  | with_reducible refine de_un ?_
  | with_reducible refine de_dnew ?_
  | with_reducible refine de_disp1 ?_
  | with_reducible refine de_cb ?_
  | with_reducible refine de_bm ?_
  | with_reducible refine de_sl ?_
  | with_reducible refine de_tup ?_
  | with_reducible refine de_lst ?_
  | with_reducible refine de_fstr ?_
  | with_reducible refine de_fmtS ?_
  | with_reducible refine dj_cons ?_
  | with_reducible refine dj_nil ?_
  | with_reducible refine do_none ?_
  | with_reducible refine do_some ?_
  | with_reducible refine de_g0 (dds := []) (fun _ => .nil) ?_
  | with_reducible refine de_g (dds := []) (fun _ => .nil) ?_
  | with_reducible refine de_lc ?_
  | with_reducible refine di_str ?_
  | with_reducible refine di_tup ?_
  | with_reducible refine de_notV ?_
  | with_reducible refine de_andV ?_
  | with_reducible refine de_orV ?_
  | with_reducible refine de_if ?_
  | with_reducible refine dt_test ?_
  | with_reducible refine dt_B ?_
  | with_reducible refine dt_and ?_
  | with_reducible refine dt_or ?_
  | with_reducible refine dt_not ?_
  | with_reducible refine dt_yes ?_
  | with_reducible refine da_cons ?_
  | with_reducible refine da_nil ?_
  | with_reducible refine d2_leI ?_
  | with_reducible refine d2_ltI ?_
  | with_reducible refine d2_geI ?_
  | with_reducible refine d2_gtI ?_
  | with_reducible refine d2_addI ?_
  | with_reducible refine d2_sub ?_
  | ((with_reducible refine' d2_leS1 (sign1_cps _) ?hs1 ?_); (case hs1 => first | exact sg_a | exact sg_z | exact sg_sp | exact sg_ti))
  | ((with_reducible refine' d2_leS1 ?hs1 (sign1_cps _) ?_); (case hs1 => first | exact sg_a | exact sg_z | exact sg_sp | exact sg_ti))
  | with_reducible refine dr_int ?_
  | with_reducible refine dr_abs ?_
  | with_reducible refine dg_sub ?_
  | ((with_reducible refine' d2_ix ?hsq ?hix ?_); (case hsq => assumption); (case hix => rfl))
  | ((with_reducible refine' d2_mod ?hmod ?_); (case hmod => first | decide | omega))
  | ((with_reducible refine' d2_mul ?hmul ?_); (case hmul => exact mul_ok (by omega) (by omega)))
  | ((with_reducible refine' d2_div ?hdiv ?_); (case hdiv => exact div_ok (by first | decide | omega) (by omega)))
  | ((with_reducible refine' d2_pow ?hpow ?_); (case hpow => exact pow_ok (by decide) (by decide) (by omega)))
  | with_reducible refine d2_notI ?_
  | with_reducible refine d2_notSt ?_
  | with_reducible refine d2_notNn ?_
  | with_reducible refine d2_notT ?_
  | with_reducible refine d2_isI ?_
  | with_reducible refine d2_isNn ?_
  | with_reducible refine d2_isT ?_
  | with_reducible refine d2_neI ?_
  | with_reducible refine d2_eqI ?_
  | with_reducible refine d2_eqS ?_
  | with_reducible refine d2_neS ?_
  | with_reducible refine dr_isiK (by assumption) (by decide) (by first | assumption | exact isTyD_str _ | exact isTyD_tup _ | rfl) ?_
  | with_reducible refine dr_lenT ?_
  | with_reducible refine dr_lenL ?_
  | with_reducible refine dr_lenR ?_
  | with_reducible refine dr_lenC (by assumption) ?_
  | with_reducible refine ds_to ?_
  | with_reducible refine dg_name (by decide) ?_
  | with_reducible refine dg_tup2 ?_
  | with_reducible refine dg_tup3 ?_
  | with_reducible refine dg_tup4 ?_
  | with_reducible refine dgs_cons ?_
  | with_reducible refine dgs_nil ?_
  | with_reducible refine dr_lenS (by omega) ?_
  | with_reducible refine ⟨⟨by simp only [List.length_cons, List.length_nil], by simp only [List.length_cons, List.length_nil]; omega⟩, ?_⟩
  | with_reducible refine ⟨_, rfl, ?_⟩
  | with_reducible refine ⟨_, _, rfl, ?_⟩
  | with_reducible refine ⟨tyD_str, ?_⟩
  | with_reducible refine ⟨by omega, ?_⟩
  | with_reducible refine ⟨by (simp only [PySem.Str.length_append, len_empty, len_sp, List.length_cons, List.length_nil, List.length_append]; omega), ?_⟩
  | with_reducible refine bothT ?_
  | with_reducible refine bothF ?_
  | with_reducible refine bothNT ?_
  | with_reducible refine bothNF ?_
  | (with_reducible refine both (fun hc => ?_) (fun hc => ?_) <;> (try simp only [Bool.not_eq_true', Bool.not_eq_false', decide_eq_true_eq, decide_eq_false_iff_not] at hc) <;> (try (exfalso; omega)) <;> (try exact absurd rfl hc) <;> (try exact absurd trivial hc)))

local macro_rules | `(tactic| walk_at "sm") => `(tactic| first
  | with_reducible refine di_lst ?_
  | with_reducible refine as_lst ?_
  | ((with_reducible refine' d2_addSm ?hs1 ?hs2 ?hs3 (fun hs => ?_)); (case hs1 => assumption); (case hs2 => assumption); (case hs3 => omega))
  | ((with_reducible refine' d2_addL ?hal ?_); (case hal => (simp; try omega)))
  | with_reducible refine d1_neg ?_)

abbrev s_Tree___init__ : Stmt := (inClass (topS 20) 0)
theorem sc_Tree___init__ : FnScope ["self", "houses", "roads", "house"] ["self", "houses", "roads"] (defScope s_Tree___init__) := ⟨rfl, rfl, rfl, by decide +kernel, rfl, by decide +kernel, by decide +kernel⟩
abbrev s_Tree___eq__ : Stmt := (inClass (topS 20) 1)
theorem sc_Tree___eq__ : FnScope ["self", "other"] ["self", "other"] (defScope s_Tree___eq__) := ⟨rfl, rfl, rfl, by decide +kernel, rfl, by decide +kernel, by decide +kernel⟩
abbrev s_Tree_line : Stmt := (inClass (topS 20) 4)
theorem sc_Tree_line : FnScope ["self", "u", "v"] ["self"] (defScope s_Tree_line) := ⟨rfl, rfl, rfl, by decide +kernel, rfl, by decide +kernel, by decide +kernel⟩
section
variable {P : Program} {w : World} {K : PySem.W.Frag} {mg : Str → Option Value} {base : Heap}
def prO (p : Pr) : List (Option Int) := [some p.1, some p.2]
/-- a tree: its houses, its roads -/
structure TreeOk (n : Nat) (rs : List Pr) : Prop where
  h1 : 1 ≤ n
  h2 : n ≤ 64
  ok : roadsB n (rs.map prO) = true
  con : Conn n rs
theorem prO_tu (rs : List Pr) : (rs.map prO).map tuO = rs.map dpPr := by rw [List.map_map]; rfl
theorem prO_pr (rs : List Pr) : (rs.map prO).map toPr = rs := by rw [List.map_map]; exact (List.map_congr_left fun p _ => rfl).trans (List.map_id _)
theorem roads_in {n : Nat} {rs : List Pr} (h : roadsB n (rs.map prO) = true) : InR n rs := fun p hp => by
  unfold roadsB at h
  simp only [Bool.and_eq_true] at h
  have := List.all_eq_true.mp h.1.2 (prO p) (List.mem_map_of_mem hp)
  simp [prO, roadB, idx] at this
  omega
theorem roads_len {n : Nat} {rs : List Pr} (h : roadsB n (rs.map prO) = true) : (rs.length : Int) = n - 1 := by
  unfold roadsB at h
  simp only [Bool.and_eq_true, decide_eq_true_eq, List.length_map] at h
  exact h.1.1
structure TreeT (K : PySem.W.Frag) (C : Addr) : Prop where
  c : Cls K C
  i : InsT K C
  n1 : NoAttr K C "houses"
  n2 : NoAttr K C "roads"
  n3 : NoAttr K C "near"
  n4 : NoAttr K C "ways"
  own : PySem.W.kitOne K (.ref C) (.ref C) = some true
def treeF (n : Nat) (rs : List Pr) (near : List (List Int)) (ways : List (List (List Int))) : List (Str × Dat) :=
  [("houses", .int n), ("roads", .tup (rs.map dpPr)), ("near", .tup (near.map tuD)), ("ways", .tup (ways.map fun ws => .tup (ws.map tuD)))]
theorem sne : (Str.ofString "houses" = Str.ofString "roads") = False ∧ (Str.ofString "houses" = Str.ofString "near") = False ∧ (Str.ofString "roads" = Str.ofString "near") = False ∧ (Str.ofString "houses" = Str.ofString "ways") = False ∧ (Str.ofString "roads" = Str.ofString "ways") = False ∧ (Str.ofString "near" = Str.ofString "ways") = False ∧ (Str.ofString "houses" = Str.ofString "line") = False ∧ (Str.ofString "roads" = Str.ofString "line") = False ∧ (Str.ofString "near" = Str.ofString "line") = False ∧ (Str.ofString "ways" = Str.ofString "line") = False := by
  refine ⟨?_, ?_, ?_, ?_, ?_, ?_, ?_, ?_, ?_, ?_⟩ <;> exact eq_false (by decide +kernel)
theorem put1 {a : Dat} : putD "houses" a [] = [(Str.ofString "houses", a)] := rfl
theorem put2 {a b : Dat} : putD "roads" b [(Str.ofString "houses", a)] = [(Str.ofString "houses", a), (Str.ofString "roads", b)] := by simp [putD, sne]
theorem put3 {a b c : Dat} : putD "near" c [(Str.ofString "houses", a), (Str.ofString "roads", b)] = [(Str.ofString "houses", a), (Str.ofString "roads", b), (Str.ofString "near", c)] := by simp [putD, sne]
theorem put4 {a b c d : Dat} : putD "ways" d [(Str.ofString "houses", a), (Str.ofString "roads", b), (Str.ofString "near", c)] = [(Str.ofString "houses", a), (Str.ofString "roads", b), (Str.ofString "near", c), (Str.ofString "ways", d)] := by simp [putD, sne]
theorem look (x y : Str) (d : Dat) (r : List (Str × Dat)) : List.lookup x ((y, d) :: r) = if x = y then some d else List.lookup x r := by
  rw [List.lookup_cons]
  by_cases h : x = y
  · subst h; simp
  · have : (x == y) = false := by simpa using h
    simp [this, h]
theorem lk1 {n : Nat} {rs : List Pr} {near : List (List Int)} {ways : List (List (List Int))} : List.lookup (Str.ofString "houses") (treeF n rs near ways) = some (Dat.int n) := by unfold treeF; rw [look, if_pos rfl]
theorem lk2 {n : Nat} {rs : List Pr} {near : List (List Int)} {ways : List (List (List Int))} : List.lookup (Str.ofString "roads") (treeF n rs near ways) = some (Dat.tup (rs.map dpPr)) := by unfold treeF; rw [look, if_neg (by decide +kernel), look, if_pos rfl]
theorem lkl {n : Nat} {rs : List Pr} {near : List (List Int)} {ways : List (List (List Int))} : List.lookup (Str.ofString "line") (treeF n rs near ways) = none := by unfold treeF; rw [look, if_neg (by decide +kernel), look, if_neg (by decide +kernel), look, if_neg (by decide +kernel), look, if_neg (by decide +kernel)]; rfl
theorem lk3 {a b c : Dat} : List.lookup (Str.ofString "near") [(Str.ofString "houses", a), (Str.ofString "roads", b), (Str.ofString "near", c)] = some c := by rw [look, if_neg (by decide +kernel), look, if_neg (by decide +kernel), look, if_pos rfl]
theorem lk4 {n : Nat} {rs : List Pr} {near : List (List Int)} {ways : List (List (List Int))} : List.lookup (Str.ofString "ways") (treeF n rs near ways) = some (Dat.tup (ways.map fun ws => .tup (ws.map tuD))) := by unfold treeF; rw [look, if_neg (by decide +kernel), look, if_neg (by decide +kernel), look, if_neg (by decide +kernel), look, if_pos rfl]
theorem mt_never {X : Cx} {id : String} : MtR X id (fun _ _ _ _ => False) := fun _ _ _ _ _ _ _ _ _ _ _ _ h => h.elim
structure WaysAll (n : Nat) (rs : List Pr) (ways : List (List (List Int))) : Prop where
  len : ways.length = n
  ok : ∀ (h : Nat) ws, ways[h]? = some ws → WaysOk n rs h ws
theorem setS {ms : Ms} {k : Nat} {m m0 : MO} (h : ms[k]? = some m0) : (ms.set k m)[k]? = some m := List.getElem?_set_self (List.getElem?_eq_some_iff.mp h).1
theorem at_nat {α : Type} {l : List α} {u : Nat} {a : α} (h : l[u]? = some a) : atI l (u : Int) = some a := by
  obtain ⟨h1, h2⟩ := List.getElem?_eq_some_iff.mp h
  rw [DL.atI_nat h1, h2]
def pm_init (K : PySem.W.Frag) (C : Addr) : Pm := fun ds ms P X => ∃ (k n : Nat) (x : Dat) (rs : List Pr), ds = [.cell k, .int n, x] ∧ ms[k]? = some (.ins C []) ∧ (x = .lst (rs.map dpPr) ∨ x = .tup (rs.map dpPr)) ∧ TreeOk n rs ∧
  ∀ near ways, NearOk n rs near → WaysAll n rs ways → P .non (ms.set k (.ins C (treeF n rs near ways)))
theorem ok_Tree___init__ {f : Addr} {fd : FuncData}  {g0 : Addr} {fd0 : FuncData} (D_is_integer : Df K mg "is_integer" g0) (G_is_integer : FnG P w K mg base (L2N.CX P w) 1 g0 fd0 ["value"] (spD K (pm_is_integer K))) (b_is_integer : Binds K fd0 ["value"] []) {g1 : Addr} {fd1 : FuncData} (D_are_roads : Df K mg "are_roads" g1) (G_are_roads : FnG P w K mg base (L2N.CX P w) 4 g1 fd1 ["value", "houses"] (spD K (pm_are_roads K))) (b_are_roads : Binds K fd1 ["value", "houses"] []) {g2 : Addr} {fd2 : FuncData} (D_joined_by : Df K mg "joined_by" g2) (G_joined_by : FnG P w K mg base (L2N.CX P w) 1 g2 fd2 ["houses", "roads"] (spD K (pm_joined_by K))) (b_joined_by : Binds K fd2 ["houses", "roads"] []) {g3 : Addr} {fd3 : FuncData} (D_ways_from : Df K mg "ways_from" g3) (G_ways_from : FnG P w K mg base (L2N.CX P w) 1 g3 fd3 ["near", "house"] (spD K (pm_ways_from K))) (b_ways_from : Binds K fd3 ["near", "house"] []) {CE_InvalidHouses I_InvalidHouses : Addr} {fI_InvalidHouses : FuncData} (E_InvalidHouses : ErrT K mg "InvalidHouses" "given" CE_InvalidHouses I_InvalidHouses fI_InvalidHouses) (I_InvalidHouses : FnOk P w K mg base (L2N.CX P w) 1 I_InvalidHouses fI_InvalidHouses ["self", "given"] (spIni1 K "given")) {CE_InvalidRoads I_InvalidRoads : Addr} {fI_InvalidRoads : FuncData} (E_InvalidRoads : ErrT K mg "InvalidRoads" "given" CE_InvalidRoads I_InvalidRoads fI_InvalidRoads) (I_InvalidRoads : FnOk P w K mg base (L2N.CX P w) 1 I_InvalidRoads fI_InvalidRoads ["self", "given"] (spIni1 K "given")) {CE_NotJoined I_NotJoined : Addr} {fI_NotJoined : FuncData} (E_NotJoined : ErrT K mg "NotJoined" "house" CE_NotJoined I_NotJoined fI_NotJoined) (I_NotJoined : FnOk P w K mg base (L2N.CX P w) 1 I_NotJoined fI_NotJoined ["self", "house"] (spIni1 K "house")) {C : Addr} (TT : TreeT K C) (F : Fun K "__init__" "Tree.__init__" s_Tree___init__ f fd) (T : Txt K mg) :
    FnG P w K mg base (L2N.CX P w) 5 f fd ["self", "houses", "roads"] (spD K (pm_init K C)) := by
  refine fn_dl F sc_Tree___init__ (fun ds ms Pd X h => by obtain ⟨_, _, _, _, rfl, _⟩ := h; rfl) (fun cdv Ar outer s H E hr hq => ?_)
  have tk := (L2N.takes_of (X := cxOf (L2N.CX P w) P w K mg base ["self", "houses", "roads", "house"] "Tree.__init__" (defScope s_Tree___init__) f cdv Ar outer s H E) (E := E) rfl rfl rfl rfl)
  refine ⟨_, (pss_cons (ps_if (PW.pt (pw_or (pt_not (pt_val (pe_g G_is_integer (hr.mono (by decide)) hq rfl D_is_integer.m D_is_integer.k b_is_integer .nil (fun σ => L2N.passAt tk σ) (pa_cons (pv 1) pa_nil)))) (pw_or1 (pt_not (pt_chain op_leA op_leA pe_int (pv 1) (pe_gl rfl T.c_MOST_HOUSES)))))) (pss_one (ps_raiseA rfl tk E_InvalidHouses.t.o E_InvalidHouses.i E_InvalidHouses.ti I_InvalidHouses (hr.mono (by decide)) E_InvalidHouses.b rfl E_InvalidHouses.m (pa_cons (pv 1) pa_nil))) pss_nil) (pss_cons (ps_if (pt_not (pt_val (pe_g G_are_roads (hr.mono (by decide)) hq rfl D_are_roads.m D_are_roads.k b_are_roads .nil (fun σ => L2N.passAt tk σ) (pa_cons (pv 2) (pa_cons (pv 1) pa_nil))))) (pss_one (ps_raiseA rfl tk E_InvalidRoads.t.o E_InvalidRoads.i E_InvalidRoads.ti I_InvalidRoads (hr.mono (by decide)) E_InvalidRoads.b rfl E_InvalidRoads.m (pa_cons (pv 2) pa_nil))) pss_nil) (pss_cons (ps_fld (pv 0) (pv 1) rfl) (pss_cons (ps_fld (pv 0) (pe_callTy call_tuple_of (by rfl) T.b_tuple bt_tuple (pa_cons (pv 2) pa_nil)) rfl) (pss_cons (ps_fld (pv 0) (pe_g G_joined_by (hr.mono (by decide)) hq rfl D_joined_by.m D_joined_by.k b_joined_by .nil (fun σ => L2N.passAt tk σ) (pa_cons (pv 1) (pa_cons (pv 2) pa_nil))) rfl) (pss_cons (ps_fld (pv 0) (pe_callTy call_tuple_of (by rfl) T.b_tuple bt_tuple (pa_cons (pe_lc (own := [("house", 3)]) rfl sc_Tree___init__.nd (pi_range1 rfl T.b_range (pa_cons (pv 1) pa_nil)) (blkOk_by (own := [("house", 3)]) (N := ["self", "houses", "roads", "house"]) (sc := defScope s_Tree___init__) (by decide +kernel)) (fun _ _ _ _ _ => (pg_name (i := 3) sc_Tree___init__.nd rfl (by first | exact Or.inl rfl | exact Or.inr rfl))) (fun _ _ _ _ _ => pts_nil) (fun _ _ _ _ _ => (pe_g G_ways_from (hr.mono (by decide)) hq rfl D_ways_from.m D_ways_from.k b_ways_from .nil (fun σ => passN σ) (pa_cons (pe_fldK (K := K) rfl (pv 0) (by rfl)) (pa_cons (pv 3) pa_nil))))) pa_nil)) rfl) (pss_one (ps_if (pt_cmpR (opK (K := K) (r := rInB) rfl (op_inB (un65 hr))) (pe_tup pa_nil) (pe_ix (ixK (K := K) (r := rIx) rfl ix_seq) (pe_fld (pv 0) (by rfl)) pe_int (fun _ _ => rfl)) (by rfl)) (pss_one (ps_raiseA rfl tk E_NotJoined.t.o E_NotJoined.i E_NotJoined.ti I_NotJoined (hr.mono (by decide)) E_NotJoined.b rfl E_NotJoined.m (pa_cons (pe_bm PySem.F.plainAttrs_tuple PySem.F.slot_tuple_index PySem.F.type_tuple_index mt_never (pe_ix (ixK (K := K) (r := rIx) rfl ix_seq) (pe_fld (pv 0) (by rfl)) pe_int (fun _ _ => rfl)) (pa_cons (pe_tup pa_nil) pa_nil)) pa_nil))) pss_nil)))))))), ?_⟩
  try simp only [cxK]
  rintro _ ms Pd Xd ⟨k, n, x, rs, rfl, hk, sx, ht, q⟩ bl mb
  have ha := ht.h1
  have hb := ht.h2
  have hl := roads_len ht.ok
  have hin := roads_in ht.ok
  have sv : SeqV ms x (rs.map dpPr) := sx.elim .inl fun z => .inr (.inl z)
  repeat' walk_at "d1"
  refine ⟨some (n : Int), rfl, ?_⟩
  dsimp only [Option.isSome]
  repeat' walk_at "d1"
  refine ⟨x, rs.map prO, n, rfl, by rw [prO_tu]; exact sv, by rw [prO_tu]; exact sx, by rw [List.length_map]; omega, ?_⟩
  rw [ht.ok]
  repeat' walk_at "d1"
  refine ds_fld (de_var rfl (de_var rfl ⟨k, C, [], rfl, hk, TT.c, TT.n1, by decide, ?_⟩))
  rw [put1]
  refine ds_seq (ds_fld ?_)
  repeat' walk_at "d1"
  refine dr_tupOf (sx.elim .inl fun z => .inr (.inl z)) ?_
  refine de_var rfl ⟨k, C, _, rfl, setS hk, TT.c, TT.n2, by simp, ?_⟩
  rw [put2, List.set_set]
  refine ds_seq (ds_fld ?_)
  repeat' walk_at "d1"
  refine ⟨n, x, rs, rfl, sx, by omega, by omega, hin, fun near hnear => ?_⟩
  refine de_var rfl ⟨k, C, _, rfl, setS hk, TT.c, TT.n3, by simp, ?_⟩
  rw [put3, List.set_set]
  refine ds_seq (ds_fld ?_)
  refine de_cb (da_cons (de_lc (di_rng1 ?_)))
  repeat' walk_at "d1"
  rw [Int.toNat_natCast]
  refine ⟨by omega, fun i acc m => ∃ ways : List (List (List Int)), acc = ways.map (fun ws => .tup (ws.map tuD)) ∧ ways.length = i ∧ (∀ (h : Nat) ws, ways[h]? = some ws → WaysOk n rs h ws) ∧ m = ms.set k (.ins C [(Str.ofString "houses", .int n), (Str.ofString "roads", .tup (rs.map dpPr)), (Str.ofString "near", .tup (near.map tuD))]), ⟨[], rfl, rfl, fun h ws e => by simp at e, rfl⟩, ?_, ?_⟩
  · rintro i acc m hi _ ⟨ways, rfl, hlw, hw, rfl⟩
    refine dg_name (by decide) (dt_yes ⟨fun _ => ?_, fun z => nomatch z⟩)
    repeat' walk_at "d1"
    refine de_fld TT.c TT.n3 (de_var rfl ⟨k, _, _, rfl, setS hk, lk3, ?_⟩)
    repeat' walk_at "d1"
    refine ⟨n, rs, near, i, by simp, hnear, hin, hi, by omega, fun ws hws => ?_⟩
    refine ⟨ways ++ [ws], by rw [List.map_append]; rfl, by simp [hlw], fun h us e => ?_, rfl⟩
    rw [List.getElem?_append] at e
    split at e
    · exact hw h us e
    · have hh : h = i := by
        have := (List.getElem?_eq_some_iff.mp e).1
        simp at this
        omega
      subst hh
      rw [hlw, Nat.sub_self] at e
      cases e
      exact hws
  · rintro acc m _ ⟨ways, rfl, hlw, hw, rfl⟩
    refine da_nil (dr_tupOf (.inl rfl) ?_)
    refine de_var rfl ⟨k, C, _, rfl, setS hk, TT.c, TT.n4, by simp, ?_⟩
    rw [put4, List.set_set]
    have fld : ∀ {R e0 X Q}, (e0[0]? = some (some (.cell k))) → Q (.tup (ways.map fun ws => .tup (ws.map tuD))) (ms.set k (.ins C (treeF n rs near ways))) → DE K R (tFld K (tVar 0) (Str.ofString "ways")) e0 (ms.set k (.ins C (treeF n rs near ways))) Q X := fun h q => de_fld TT.c TT.n4 (de_var h ⟨k, _, _, rfl, setS hk, lk4, q⟩)
    repeat' walk_at "d1"
    refine fld rfl ?_
    obtain ⟨w0, e0⟩ : ∃ w0, ways[0]? = some w0 := ⟨_, List.getElem?_eq_getElem (by omega)⟩
    have hc := (ways_any (hw 0 w0 e0)).mpr ht.con
    repeat' walk_at "d1"
    refine d2_ix (.inr (.inl rfl)) (at_nat (u := 0) (by rw [List.getElem?_map, e0]; rfl)) ?_
    refine d2_inTu ?_
    rw [hc]
    repeat' walk_at "d1"
    exact .inl (q near ways hnear ⟨hlw, hw⟩)
/-! ### a tree's line -/
def nS (i : Int) : Str := toString i
def headS (n : Int) : Str := Str.empty ++ nS n ++ ":"
def roadS (p : Pr) : Str := Str.empty ++ nS p.1 ++ "-" ++ nS p.2
def lineS (n : Nat) (rs : List Pr) : Str := Txt.join " " (headS n :: rs.map roadS)
theorem nS_nat : ∀ n, n < 66 → (nS ((n : Nat) : Int)).length ≤ 2 := by decide +kernel
theorem nS_len {i : Int} (h0 : 0 ≤ i) (h : i ≤ 65) : (nS i).length ≤ 2 := by
  obtain ⟨n, rfl⟩ := nat_of h0
  exact nS_nat n (by omega)
theorem len1 : (Str.ofString ":").length = 1 ∧ (Str.ofString "-").length = 1 ∧ Str.empty.length = 0 ∧ (Str.ofString " ").length = 1 := by decide +kernel
theorem headS_len {n : Int} (h0 : 0 ≤ n) (h : n ≤ 65) : (headS n).length ≤ 3 := by
  unfold headS
  have := nS_len h0 h
  rw [Str.length_append, Str.length_append, len1.1, len1.2.2.1]; omega
theorem roadS_len {n : Nat} {p : Pr} (hn : n ≤ 65) (h : 0 ≤ p.1 ∧ p.1 < n ∧ 0 ≤ p.2 ∧ p.2 < n) : (roadS p).length ≤ 5 := by
  unfold roadS
  have h1 := nS_len (i := p.1) (by omega) (by omega)
  have h2 := nS_len (i := p.2) (by omega) (by omega)
  rw [Str.length_append, Str.length_append, Str.length_append, len1.2.1, len1.2.2.1]; omega
theorem log_small {i : Int} (h0 : 0 ≤ i) (h : i ≤ 100) : i.natAbs.log2 < 1920 := Nat.lt_of_le_of_lt (Nat.log2_le_self _) (by omega)
theorem roads_sum {n : Nat} (hn : n ≤ 65) : ∀ {rs : List Pr}, InR n rs → ((rs.map roadS).map (·.length)).sum ≤ 5 * rs.length
  | [], _ => by simp
  | p :: rs, h => by
    have h1 := roadS_len hn (h p (List.mem_cons_self ..))
    have h2 := roads_sum (rs := rs) hn fun x hx => h x (List.mem_cons_of_mem _ hx)
    simp only [List.map_cons, List.sum_cons, List.length_cons]
    omega
def pm_line (K : PySem.W.Frag) (C : Addr) : Pm := fun ds ms P X => ∃ (k n : Nat) (rs : List Pr) (near : List (List Int)) (ways : List (List (List Int))), ds = [.cell k] ∧ ms[k]? = some (.ins C (treeF n rs near ways)) ∧ n ≤ 64 ∧ rs.length ≤ 64 ∧ InR n rs ∧ P (.str (lineS n rs)) ms
theorem ok_Tree_line {f : Addr} {fd : FuncData}  {C : Addr} (TT : TreeT K C) (F : Fun K "line" "Tree.line" s_Tree_line f fd) (T : Txt K mg) :
    FnG P w K mg base (L2N.CX P w) 1 f fd ["self"] (spD K (pm_line K C)) := by
  refine fn_dl F sc_Tree_line (fun ds ms Pd X h => by obtain ⟨_, _, _, _, _, rfl, _⟩ := h; rfl) (fun cdv Ar outer s H E hr hq => ?_)
  have tk := (L2N.takes_of (X := cxOf (L2N.CX P w) P w K mg base ["self", "u", "v"] "Tree.line" (defScope s_Tree_line) f cdv Ar outer s H E) (E := E) rfl rfl rfl rfl)
  refine ⟨_, (pss_one (ps_ret (pe_bmK (K := K) rfl PySem.F.plainAttrs_str PySem.F.slot_str_join PySem.F.type_str_join mt_join pe_str (pa_cons (pe_lst (pa_cons (pe_joined (.cons (pe_fmt (pe_fld (pv 0) (by rfl))) (.cons (pe_str) .nil))) (StX.pa_star (pe_lc (own := [("u", 1), ("v", 2)]) rfl sc_Tree_line.nd (pi_tup (pe_fld (pv 0) (by rfl))) (blkOk_by (own := [("u", 1), ("v", 2)]) (N := ["self", "u", "v"]) (sc := defScope s_Tree_line) (by decide +kernel)) (fun _ _ _ _ _ => (pg_tupK (K := K) (n := 2) rfl rfl (pgs_cons (pg_name (i := 1) sc_Tree_line.nd rfl (by first | exact Or.inl rfl | exact Or.inr rfl)) (pgs_cons (pg_name (i := 2) sc_Tree_line.nd rfl (by first | exact Or.inl rfl | exact Or.inr rfl)) pgs_nil)))) (fun _ _ _ _ _ => pts_nil) (fun _ _ _ _ _ => (pe_joined (.cons (pe_fmt (pv 1)) (.cons (pe_str) (.cons (pe_fmt (pv 2)) .nil)))))) pa_nil))) pa_nil)))), ?_⟩
  try simp only [cxK]
  rintro _ ms Pd Xd ⟨k, n, rs, near, ways, rfl, hk, hn, hl, hin, q⟩ bl mb
  have hh := headS_len (n := (n : Int)) (by omega) (by omega)
  unfold headS at hh
  have hh2 := nS_len (i := (n : Int)) (by omega) (by omega)
  repeat' first
    | with_reducible refine de_fmtI ?_
    | walk_at "d1"
  refine de_fld TT.c TT.n1 (de_var rfl ⟨k, _, _, rfl, hk, lk1, n, rfl, log_small (by omega) (by omega), _, rfl, ?_, ?_⟩)
  · show (Str.empty ++ nS n).length ≤ _
    rw [Str.length_append, len1.2.2.1]; omega
  refine dj_cons (de_str ⟨_, rfl, ?_, dj_nil ?_⟩)
  · show (Str.empty ++ nS n ++ ":").length ≤ _
    omega
  refine da_star (de_lc (di_tup ?_))
  refine de_fld TT.c TT.n2 (de_var rfl ⟨k, _, _, rfl, hk, lk2, _, rfl, ?_⟩)
  rw [List.length_map]
  refine lcw_map (by omega) (fun _ => true) (fun i => .str (roadS (rs.getD i (0, 0)))) (fun i hi => ?_) ?_
  · rw [itD hi]
    have hp := hin _ (List.getElem_mem hi)
    have l1 := nS_len (i := rs[i].1) (by omega) (by omega)
    have l2 := nS_len (i := rs[i].2) (by omega) (by omega)
    refine dg_tup2 ?_
    repeat' walk_at "d1"
    refine ⟨rfl, rfl, fun _ => de_fstr (dj_cons (de_fmtI (de_var rfl ⟨_, rfl, log_small (by omega) (by omega), _, rfl, ?_, dj_cons (de_str ⟨_, rfl, ?_, dj_cons (de_fmtI (de_var rfl ⟨_, rfl, log_small (by omega) (by omega), _, rfl, ?_, dj_nil ⟨?_, rfl⟩⟩))⟩)⟩)))⟩
    · show (Str.empty ++ nS rs[i].1).length ≤ _
      rw [Str.length_append, len1.2.2.1]; omega
    · show (Str.empty ++ nS rs[i].1 ++ Str.ofString "-").length ≤ _
      rw [Str.length_append, Str.length_append, len1.2.1, len1.2.2.1]; omega
    · show (Str.empty ++ nS rs[i].1 ++ Str.ofString "-" ++ nS rs[i].2).length ≤ _
      rw [Str.length_append, Str.length_append, Str.length_append, len1.2.1, len1.2.2.1]; omega
    · rw [getD_at hi]; rfl
  · have e : ((List.range rs.length).filter (fun _ => true)).map (fun i => Dat.str (roadS (rs.getD i (0, 0)))) = (rs.map roadS).map Dat.str := by
      rw [List.map_map]
      exact lcw_get rs _ _ fun i hi => by rw [getD_at hi]; rfl
    rw [e]
    refine ⟨_, .inl rfl, da_nil ⟨by simp; omega, da_nil ?_⟩⟩
    have hs := roads_sum (n := n) (by omega) hin
    rw [List.append_nil]
    refine dr_join (a := " ") (ys := headS n :: rs.map roadS) (P := (bodyOut ms.length Pd Xd).rt) ?_ (Or.inl q)
    simp only [List.map_cons, List.sum_cons, List.length_cons, List.length_map, len1.2.2.2]
    unfold headS
    omega
theorem eqv_int (a : Int) : PyData.eqv (.int a) (.int a) = true := by simp [PyData.eqv]
theorem eqvAll_ints : ∀ is : List Int, PyData.eqvAll (is.map PyData.int) (is.map PyData.int) = true
  | [] => by simp [PyData.eqvAll]
  | a :: is => by simp [PyData.eqvAll, eqv_int, eqvAll_ints is]
theorem eqv_tuP (is : List Int) : PyData.eqv (tuP is) (tuP is) = true := by
  have := eqvAll_ints is
  simp [tuP, PyData.eqv, this]
theorem eqvAll_tus : ∀ ws : List (List Int), PyData.eqvAll (ws.map tuP) (ws.map tuP) = true
  | [] => by simp [PyData.eqvAll]
  | a :: is => by simp [PyData.eqvAll, eqv_tuP, eqvAll_tus is]
theorem eqv_tus (ws : List (List Int)) : PyData.eqv (.tuple (ws.map tuP)) (.tuple (ws.map tuP)) = true := by
  have := eqvAll_tus ws
  simp [PyData.eqv, this]
def prL (p : Pr) : List Int := [p.1, p.2]
theorem prs_tu (rs : List Pr) : rs.map dpPr = (rs.map prL).map tuD := by rw [List.map_map]; rfl
def pm_eq (K : PySem.W.Frag) (C : Addr) : Pm := fun ds ms P X => ∃ (i j n : Nat) (rs : List Pr) (near near' : List (List Int)) (ways ways' : List (List (List Int))), ds = [.cell i, .cell j] ∧ ms[i]? = some (.ins C (treeF n rs near ways)) ∧ ms[j]? = some (.ins C (treeF n rs near' ways')) ∧ P (.bl true) ms
theorem ok_Tree___eq__ {f : Addr} {fd : FuncData}  {C : Addr} (TT : TreeT K C) (M_Tree : mg "Tree" = some (.ref C)) (F : Fun K "__eq__" "Tree.__eq__" s_Tree___eq__ f fd) (T : Txt K mg) :
    FnG P w K mg base (L2N.CX P w) 1 f fd ["self", "other"] (spD K (pm_eq K C)) := by
  refine fn_dl F sc_Tree___eq__ (fun ds ms Pd X h => by obtain ⟨_, _, _, _, _, _, _, _, rfl, _⟩ := h; rfl) (fun cdv Ar outer s H E hr hq => ?_)
  have tk := (L2N.takes_of (X := cxOf (L2N.CX P w) P w K mg base ["self", "other"] "Tree.__eq__" (defScope s_Tree___eq__) f cdv Ar outer s H E) (E := E) rfl rfl rfl rfl)
  refine ⟨_, (pss_one (ps_ret (pe_and (pe_callB (crK (K := K) (r := rIsiX) rfl call_isiX) (by rfl) T.b_isinstance bt_isinstance (pa_cons (pv 1) (pa_cons (pe_glob (v := .ref _) rfl M_Tree rfl) pa_nil))) (pe_and (pe_cmpR (opK (K := K) (r := rEqA) rfl (op_eqA hr.units)) (pe_fld (pv 0) (by rfl)) (pe_fld (pv 1) (by rfl)) (nomark _)) (pe_one (pe_cmpR (opK (K := K) (r := rEqA) rfl (op_eqA hr.units)) (pe_fld (pv 0) (by rfl)) (pe_fld (pv 1) (by rfl)) (nomark _))))))), ?_⟩
  try simp only [cxK]
  rintro _ ms Pd Xd ⟨i, j, n, rs, near, near', ways, ways', rfl, hi, hj, q⟩ bl mb
  repeat' walk_at "d1"
  refine dr_isiIns TT.i hj TT.own ?_
  repeat' walk_at "d1"
  refine de_fld TT.c TT.n1 (de_var rfl ⟨i, _, _, rfl, hi, lk1, ?_⟩)
  refine de_fld TT.c TT.n1 (de_var rfl ⟨j, _, _, rfl, hj, lk1, ?_⟩)
  refine d2_eqI ?_
  rw [show decide ((n : Int) = n) = true from decide_eq_true rfl]
  repeat' walk_at "d1"
  refine de_fld TT.c TT.n2 (de_var rfl ⟨i, _, _, rfl, hi, lk2, ?_⟩)
  refine de_fld TT.c TT.n2 (de_var rfl ⟨j, _, _, rfl, hj, lk2, ?_⟩)
  rw [prs_tu]
  refine d2_eqV (.inl (.tup (pyd_tus _))) (.inl (.tup (pyd_tus _))) (shaped_tus _) (shaped_tus _) ?_
  rw [eqv_tus]
  exact .inl q
end
end K03
namespace K03
open PySem PySem.Spec PyProof.Rows L2 DL
local macro_rules | `(tactic| walk_at "hyp") => `(tactic| (first
  | (simp only [Bool.not_eq_true', Bool.not_eq_false', decide_eq_true_eq, decide_eq_false_iff_not, Bool.or_eq_true, Bool.and_eq_true, Bool.or_eq_false_iff, Bool.not_true, Bool.not_false, Bool.and_eq_false_iff] at *)
  | skip))
local macro_rules | `(tactic| walk_at "d1") => `(tactic| first
  | with_reducible refine ds_seq ?_
  | with_reducible refine ds_if ?_
  | with_reducible refine ds_ret ?_
  | with_reducible refine ds_set ?_
  | with_reducible refine ds_drop ?_
  | with_reducible refine ds_par ?_
  | with_reducible refine ds_par3 ?_
  | with_reducible refine ds_next ?_
  | with_reducible refine de_var rfl ?_
  | with_reducible refine de_int ?_
  | with_reducible refine de_str ?_
  | with_reducible refine de_bl ?_
  | with_reducible refine de_non ?_
  | with_reducible refine de_ty ?_
  | with_reducible refine de_ref ?_
  | with_reducible refine de_op ?_
  | with_reducible refine de_chain ?_
  | with_reducible refine de_un ?_
  | with_reducible refine de_dnew ?_
  | with_reducible refine de_disp1 ?_
  | with_reducible refine de_cb ?_
  | with_reducible refine de_bm ?_
  | with_reducible refine de_sl ?_
  | with_reducible refine de_tup ?_
  | with_reducible refine de_lst ?_
  | with_reducible refine de_fstr ?_
  | with_reducible refine de_fmtS ?_
  | with_reducible refine dj_cons ?_
  | with_reducible refine dj_nil ?_
  | with_reducible refine do_none ?_
  | with_reducible refine do_some ?_
  | with_reducible refine de_g0 (dds := []) (fun _ => .nil) ?_
  | with_reducible refine de_g (dds := []) (fun _ => .nil) ?_
  | with_reducible refine de_lc ?_
  | with_reducible refine di_str ?_
  | with_reducible refine di_tup ?_
  | with_reducible refine de_notV ?_
  | with_reducible refine de_andV ?_
  | with_reducible refine de_orV ?_
  | with_reducible refine de_if ?_
  | with_reducible refine dt_test ?_
  | with_reducible refine dt_B ?_
  | with_reducible refine dt_and ?_
  | with_reducible refine dt_or ?_
  | with_reducible refine dt_not ?_
  | with_reducible refine dt_yes ?_
  | with_reducible refine da_cons ?_
  | with_reducible refine da_nil ?_
  | with_reducible refine d2_leI ?_
  | with_reducible refine d2_ltI ?_
  | with_reducible refine d2_geI ?_
  | with_reducible refine d2_gtI ?_
  | with_reducible refine d2_addI ?_
  | with_reducible refine d2_sub ?_
  | ((with_reducible refine' d2_leS1 (sign1_cps _) ?hs1 ?_); (case hs1 => first | exact sg_a | exact sg_z | exact sg_sp | exact sg_ti))
  | ((with_reducible refine' d2_leS1 ?hs1 (sign1_cps _) ?_); (case hs1 => first | exact sg_a | exact sg_z | exact sg_sp | exact sg_ti))
  | with_reducible refine dr_int ?_
  | with_reducible refine dr_abs ?_
  | with_reducible refine dg_sub ?_
  | ((with_reducible refine' d2_ix ?hsq ?hix ?_); (case hsq => assumption); (case hix => rfl))
  | ((with_reducible refine' d2_mod ?hmod ?_); (case hmod => first | decide | omega))
  | ((with_reducible refine' d2_mul ?hmul ?_); (case hmul => exact mul_ok (by omega) (by omega)))
  | ((with_reducible refine' d2_div ?hdiv ?_); (case hdiv => exact div_ok (by first | decide | omega) (by omega)))
  | ((with_reducible refine' d2_pow ?hpow ?_); (case hpow => exact pow_ok (by decide) (by decide) (by omega)))
  | with_reducible refine d2_notI ?_
  | with_reducible refine d2_notSt ?_
  | with_reducible refine d2_notNn ?_
  | with_reducible refine d2_notT ?_
  | with_reducible refine d2_isI ?_
  | with_reducible refine d2_isNn ?_
  | with_reducible refine d2_isT ?_
  | with_reducible refine d2_neI ?_
  | with_reducible refine d2_eqI ?_
  | with_reducible refine d2_eqS ?_
  | with_reducible refine d2_neS ?_
  | with_reducible refine dr_isiK (by assumption) (by decide) (by first | assumption | exact isTyD_str _ | exact isTyD_tup _ | rfl) ?_
  | with_reducible refine dr_lenT ?_
  | with_reducible refine dr_lenL ?_
  | with_reducible refine dr_lenR ?_
  | with_reducible refine dr_lenC (by assumption) ?_
  | with_reducible refine ds_to ?_
  | with_reducible refine dg_name (by decide) ?_
  | with_reducible refine dg_tup2 ?_
  | with_reducible refine dg_tup3 ?_
  | with_reducible refine dg_tup4 ?_
  | with_reducible refine dgs_cons ?_
  | with_reducible refine dgs_nil ?_
  | with_reducible refine dr_lenS (by omega) ?_
  | with_reducible refine ⟨⟨by simp only [List.length_cons, List.length_nil], by simp only [List.length_cons, List.length_nil]; omega⟩, ?_⟩
  | with_reducible refine ⟨_, rfl, ?_⟩
  | with_reducible refine ⟨_, _, rfl, ?_⟩
  | with_reducible refine ⟨tyD_str, ?_⟩
  | with_reducible refine ⟨by omega, ?_⟩
  | with_reducible refine ⟨by (simp only [PySem.Str.length_append, len_empty, len_sp, List.length_cons, List.length_nil, List.length_append]; omega), ?_⟩
  | with_reducible refine bothT ?_
  | with_reducible refine bothF ?_
  | with_reducible refine bothNT ?_
  | with_reducible refine bothNF ?_
  | (with_reducible refine both (fun hc => ?_) (fun hc => ?_) <;> (try simp only [Bool.not_eq_true', Bool.not_eq_false', decide_eq_true_eq, decide_eq_false_iff_not] at hc) <;> (try (exfalso; omega)) <;> (try exact absurd rfl hc) <;> (try exact absurd trivial hc)))

local macro_rules | `(tactic| walk_at "sm") => `(tactic| first
  | with_reducible refine di_lst ?_
  | with_reducible refine as_lst ?_
  | ((with_reducible refine' d2_addSm ?hs1 ?hs2 ?hs3 (fun hs => ?_)); (case hs1 => assumption); (case hs2 => assumption); (case hs3 => omega))
  | ((with_reducible refine' d2_addL ?hal ?_); (case hal => (simp; try omega)))
  | with_reducible refine d1_neg ?_)

abbrev s_read_tree : Stmt := (topS 22)
theorem sc_read_tree : FnScope ["text", "first", "words", "houses", "roads", "word"] ["text"] (defScope s_read_tree) := ⟨rfl, rfl, rfl, by decide +kernel, rfl, by decide +kernel, by decide +kernel⟩
section
variable {P : Program} {w : World} {K : PySem.W.Frag} {mg : Str → Option Value} {base : Heap}
/-- the houses that a line's first word tells -/
def hs (first : Str) : Option Int := if Txt.endswith first ":" = true then cnt (cutS first none (some (-1))) else none
structure ParseAt (z : Str) (n : Nat) (rs : List Pr) (first : Str) (words : List Str) : Prop where
  sp : Txt.split z " " = first :: words
  h : hs first = some (n : Int)
  r : words.map numsO = rs.map prO
  t : TreeOk n rs
def Parse (z : Str) (n : Nat) (rs : List Pr) : Prop := ∃ first words, ParseAt z n rs first words
def pm_read (K : PySem.W.Frag) (C I : Addr) : Pm := fun ds ms P X => ∃ d, ds = [d] ∧
  ((∃ z, d = .str z ∧ z.length ≤ 9000 ∧ (∀ n rs, Parse z n rs → ∀ near ways, NearOk n rs near → WaysAll n rs ways → P (.cell ms.length) (ms ++ [.ins C (treeF n rs near ways)])) ∧ ((¬ ∃ n rs, Parse z n rs) → X I [(Str.ofString "given", d)] ms)) ∨
    (VOk K ms d ∧ isTyD ms d "str" = false ∧ X I [(Str.ofString "given", d)] ms))
theorem spl_ne (S : List Nat) : ∀ (l : List Nat) (k : Nat) (acc : List Nat), TL.spl S k acc l ≠ []
  | [], k, acc => by cases k <;> simp [TL.spl]
  | c :: l, 0, acc => by
    unfold TL.spl
    split
    · simp
    · exact spl_ne S l 0 _
  | c :: l, k + 1, acc => by
    unfold TL.spl
    exact spl_ne S l k acc
theorem split_cons (x y : Str) (h1 : TL.tl y ≠ []) (h2 : y.cps.all (· < 256) = true) : ∃ a l, Txt.split x y = a :: l := by
  have h := TL.split_spl x y h1 (TL.kind_ok h2)
  cases e : Txt.split x y with
  | nil => rw [e] at h; exact absurd h.symm (spl_ne _ _ _ _)
  | cons a l => exact ⟨a, l, rfl⟩
theorem kSS : kitB "str" "str" = some true := by decide +kernel
theorem oss_prs {n : Int} : ∀ {oss : List (List (Option Int))}, oss.all (roadB n) = true → oss = (oss.map toPr).map prO
  | [], _ => rfl
  | os :: oss, h => by
    rw [List.all_cons, Bool.and_eq_true] at h
    rw [List.map_cons, List.map_cons, ← oss_prs h.2]
    congr 1
    have := h.1
    unfold roadB at this
    split at this
    · rfl
    · cases this
theorem roadsB_all {n : Int} {oss : List (List (Option Int))} (h : roadsB n oss = true) : oss.all (roadB n) = true := by
  unfold roadsB at h
  simp only [Bool.and_eq_true] at h
  exact h.1.2
theorem ok_read_tree {f : Addr} {fd : FuncData}  {g0 : Addr} {fd0 : FuncData} (D_count_in : Df K mg "count_in" g0) (G_count_in : FnG P w K mg base (L2N.CX P w) 1 g0 fd0 ["word"] (spD K (pm_count_in K))) (b_count_in : Binds K fd0 ["word"] []) {g1 : Addr} {fd1 : FuncData} (D_numbers_in : Df K mg "numbers_in" g1) (G_numbers_in : FnG P w K mg base (L2N.CX P w) 2 g1 fd1 ["word"] (spD K (pm_numbers_in K))) (b_numbers_in : Binds K fd1 ["word"] []) {g2 : Addr} {fd2 : FuncData} (D_are_roads : Df K mg "are_roads" g2) (G_are_roads : FnG P w K mg base (L2N.CX P w) 4 g2 fd2 ["value", "houses"] (spD K (pm_are_roads K))) (b_are_roads : Binds K fd2 ["value", "houses"] []) {g3 : Addr} {fd3 : FuncData} (D_joined_by : Df K mg "joined_by" g3) (G_joined_by : FnG P w K mg base (L2N.CX P w) 1 g3 fd3 ["houses", "roads"] (spD K (pm_joined_by K))) (b_joined_by : Binds K fd3 ["houses", "roads"] []) {g4 : Addr} {fd4 : FuncData} (D_ways_from : Df K mg "ways_from" g4) (G_ways_from : FnG P w K mg base (L2N.CX P w) 1 g4 fd4 ["near", "house"] (spD K (pm_ways_from K))) (b_ways_from : Binds K fd4 ["near", "house"] []) {CE_InvalidText I_InvalidText : Addr} {fI_InvalidText : FuncData} (E_InvalidText : ErrT K mg "InvalidText" "given" CE_InvalidText I_InvalidText fI_InvalidText) (I_InvalidText : FnOk P w K mg base (L2N.CX P w) 1 I_InvalidText fI_InvalidText ["self", "given"] (spIni1 K "given")) {C g9 : Addr} {fd9 : FuncData} (TT : TreeT K C) (M_Tree : mg "Tree" = some (.ref C)) (K_Tree : Mk K C g9) (G_Tree___init__ : FnG P w K mg base (L2N.CX P w) 5 g9 fd9 ["self", "houses", "roads"] (spD K (pm_init K C))) (b_Tree___init__ : Binds K fd9 ["self", "houses", "roads"] []) (F : Fun K "read_tree" "read_tree" s_read_tree f fd) (T : Txt K mg) :
    FnG P w K mg base (L2N.CX P w) 7 f fd ["text"] (spD K (pm_read K C CE_InvalidText)) := by
  refine fn_dl F sc_read_tree (fun ds ms Pd X h => by obtain ⟨_, rfl, _⟩ := h; rfl) (fun cdv Ar outer s H E hr hq => ?_)
  have tk := (L2N.takes_of (X := cxOf (L2N.CX P w) P w K mg base ["text", "first", "words", "houses", "roads", "word"] "read_tree" (defScope s_read_tree) f cdv Ar outer s H E) (E := E) rfl rfl rfl rfl)
  refine ⟨_, (pss_cons (ps_if (pt_not (pt_val (pe_callB (crK (K := K) (r := rIsiX) rfl call_isiX) (by rfl) T.b_isinstance bt_isinstance (pa_cons (pv 0) (pa_cons (pe_bltn (v := .ty "str") rfl T.b_str bt_str rfl) pa_nil))))) (pss_one (ps_raiseA rfl tk E_InvalidText.t.o E_InvalidText.i E_InvalidText.ti I_InvalidText (hr.mono (by decide)) E_InvalidText.b rfl E_InvalidText.m (pa_cons (pv 0) pa_nil))) pss_nil) (pss_cons (ps_asg (pe_bmK (K := K) rfl PySem.F.plainAttrs_str PySem.F.slot_str_split PySem.F.type_str_split mt_split (pv 0) (pa_cons pe_str pa_nil)) (pg_star rfl (pg_name (i := 1) sc_read_tree.nd rfl (by first | exact Or.inl rfl | exact Or.inr rfl)) (pg_name (i := 2) sc_read_tree.nd rfl (by first | exact Or.inl rfl | exact Or.inr rfl)))) (pss_cons (ps_set (i := 3) sc_read_tree.nd rfl (by first | exact Or.inl rfl | exact Or.inr rfl) (pe_ifExp (pt_val (pe_bmK (K := K) rfl PySem.F.plainAttrs_str PySem.F.slot_str_endswith PySem.F.type_str_endswith mt_endswith (pv 1) (pa_cons pe_str pa_nil))) (pe_g G_count_in (hr.mono (by decide)) hq rfl D_count_in.m D_count_in.k b_count_in .nil (fun σ => L2N.passAt tk σ) (pa_cons (pe_slice (slK (K := K) (r := rSlA) rfl sl_A) (pv 1) po_none (po_some (pe_un un_neg pe_int))) pa_nil)) pe_non)) (pss_cons (ps_setLc (i := 4) (own := [("word", 5)]) rfl sc_read_tree.nd rfl rfl (sw_true rfl rfl rfl (by decide +kernel)) (pi_list (pv 2)) (blkOk_by (own := [("word", 5)]) (N := ["text", "first", "words", "houses", "roads", "word"]) (sc := defScope s_read_tree) (by decide +kernel)) (fun _ _ _ _ _ => (pg_name (i := 5) sc_read_tree.nd rfl (by first | exact Or.inl rfl | exact Or.inr rfl))) (fun _ _ _ _ _ => pts_nil) (fun _ _ _ _ _ => (pe_g G_numbers_in (hr.mono (by decide)) hq rfl D_numbers_in.m D_numbers_in.k b_numbers_in .nil (fun σ => passN σ) (pa_cons (pv 5) pa_nil)))) (pss_cons (ps_if (PW.pt (pw_or (pt_cmpR op_isA (pv 3) pe_non (nomark _)) (pw_or (pt_not (pt_chain op_leA op_leA pe_int (pv 3) (pe_gl rfl T.c_MOST_HOUSES))) (pw_or1 (pt_not (pt_val (pe_g G_are_roads (hr.mono (by decide)) hq rfl D_are_roads.m D_are_roads.k b_are_roads .nil (fun σ => L2N.passAt tk σ) (pa_cons (pv 4) (pa_cons (pv 3) pa_nil))))))))) (pss_one (ps_raiseA rfl tk E_InvalidText.t.o E_InvalidText.i E_InvalidText.ti I_InvalidText (hr.mono (by decide)) E_InvalidText.b rfl E_InvalidText.m (pa_cons (pv 0) pa_nil))) pss_nil) (pss_cons (ps_if (pt_cmpR (opK (K := K) (r := rInB) rfl (op_inB (un65 hr))) (pe_tup pa_nil) (pe_g G_ways_from (hr.mono (by decide)) hq rfl D_ways_from.m D_ways_from.k b_ways_from .nil (fun σ => L2N.passAt tk σ) (pa_cons (pe_g G_joined_by (hr.mono (by decide)) hq rfl D_joined_by.m D_joined_by.k b_joined_by .nil (fun σ => L2N.passAt tk σ) (pa_cons (pv 3) (pa_cons (pv 4) pa_nil))) (pa_cons pe_int pa_nil))) (by rfl)) (pss_one (ps_raiseA rfl tk E_InvalidText.t.o E_InvalidText.i E_InvalidText.ti I_InvalidText (hr.mono (by decide)) E_InvalidText.b rfl E_InvalidText.m (pa_cons (pv 0) pa_nil))) pss_nil) (pss_one (ps_ret (pe_makeG K_Tree G_Tree___init__ (hr.mono (by decide)) hq rfl M_Tree b_Tree___init__ .nil (fun σ => L2N.passAt tk σ) (pa_cons (pv 3) (pa_cons (pv 4) pa_nil))))))))))), ?_⟩
  try simp only [cxK]
  rintro _ ms Pd Xd ⟨d, rfl, q⟩ bl mb
  rcases q with ⟨z, rfl, hz, qt, qf⟩ | ⟨hv, hty, qf⟩
  · obtain ⟨first, words, hsp⟩ := split_cons z " " (by decide +kernel) (by decide +kernel)
    have hl1 := split_len1 (x := z) (y := " ") (by decide +kernel)
    have hpt : ∀ p ∈ Txt.split z " ", p.length ≤ z.length := fun p hp => split_part (by decide +kernel) hp
    rw [hsp] at hl1 hpt
    have hlf := hpt first (List.mem_cons_self ..)
    have hlw : ∀ p ∈ words, p.length ≤ z.length := fun p hp => hpt p (List.mem_cons_of_mem _ hp)
    have hlen : words.length ≤ 9000 := by simp at hl1; omega
    have bad : (¬ ∃ n rs, Parse z n rs) → Xd CE_InvalidText [(Str.ofString "given", .str z)] ms := qf
    have pars : ∀ {n rs}, Parse z n rs → hs first = some (n : Int) ∧ words.map numsO = rs.map prO ∧ TreeOk n rs := by
      rintro n rs ⟨f2, w2, p⟩
      have e := p.sp
      rw [hsp] at e
      cases e
      exact ⟨p.h, p.r, p.t⟩
    repeat' first
      | with_reducible refine dr_isi (T := "str") rfl kSS ?_
      | walk_at "d1"
    refine dr_split (by decide +kernel) (by omega) ?_
    rw [hsp, List.map_cons]
    refine dg_star (dg_name (by decide) (dg_name (by decide) ?_))
    refine ds_seq (ds_set (DE.mono (P := fun d m => d = oiD (hs first) ∧ m = ms) ?_ (fun d m z => ?_)))
    · repeat' walk_at "d1"
      refine dr_endswith ?_
      cases he : Txt.endswith first ":" with
      | false =>
        repeat' walk_at "d1"
        exact ⟨by unfold hs; rw [he]; rfl, rfl⟩
      | true =>
        repeat' walk_at "d1"
        refine d1_neg ?_
        repeat' walk_at "d1"
        refine dsl_str (z := first) (by omega) ?_
        repeat' walk_at "d1"
        refine ⟨_, rfl, ?_, ?_, rfl⟩
        · have : (cutS first none (some (-1))).length ≤ first.length := by
            exact cutS_length _ _ _
          omega
        · unfold hs
          rw [if_pos he, countIn_is]
    obtain ⟨rfl, rfl⟩ := z
    refine ds_seq (ds_set (DE.mono (P := fun d m' => d = .lst ((words.map numsO).map tuO) ∧ m' = m) ?_ (fun d m' z => ?_)))
    · refine de_lc (di_lst ?_)
      repeat' walk_at "d1"
      refine as_lst ?_
      rw [List.length_map]
      refine lcw_map (by omega) (fun _ => true) (fun i => tuO (numsO (words.getD i default))) (fun i hi => dg_name (by decide) (dt_yes ⟨rfl, rfl, fun _ => ?_⟩)) ⟨?_, rfl⟩
      · rw [itD hi]
        repeat' walk_at "d1"
        refine ⟨_, rfl, ?_, ?_⟩
        · have := hlw _ (List.getElem_mem hi)
          omega
        · rw [getD_at hi]; exact ⟨rfl, rfl⟩
      · rw [List.map_map, lcD words (fun w => tuO (numsO w))]
        rfl
    obtain ⟨rfl, rfl⟩ := z
    cases ho : hs first with
    | none =>
      dsimp only [oiD]
      repeat' walk_at "d1"
      refine ds_raise1 E_InvalidText.t.o E_InvalidText.no ?_
      repeat' walk_at "d1"
      refine .inl (bad ?_)
      rintro ⟨n, rs, hp⟩
      have := (pars hp).1
      rw [ho] at this
      cases this
    | some i =>
      dsimp only [oiD]
      repeat' walk_at "d1"
      · refine ds_raise1 E_InvalidText.t.o E_InvalidText.no ?_
        repeat' walk_at "d1"
        refine .inl (bad ?_)
        rintro ⟨n, rs, hp⟩
        obtain ⟨p1, p2, p3⟩ := pars hp
        rw [ho] at p1
        cases p1
        have := p3.h1
        have := p3.h2
        omega
      · obtain ⟨n, rfl⟩ := nat_of (i := i) (by omega)
        refine ⟨_, words.map numsO, (n : Int), rfl, .inl rfl, .inl rfl, by rw [List.length_map]; omega, ?_⟩
        cases hro : roadsB n (words.map numsO) with
        | false =>
          repeat' walk_at "d1"
          refine ds_raise1 E_InvalidText.t.o E_InvalidText.no ?_
          repeat' walk_at "d1"
          refine .inl (bad ?_)
          rintro ⟨n', rs, hp⟩
          obtain ⟨p1, p2, p3⟩ := pars hp
          rw [ho] at p1
          cases p1
          rw [p2, p3.ok] at hro
          cases hro
        | true =>
          have eo := oss_prs (roadsB_all hro)
          generalize hrs : (words.map numsO).map toPr = rs at eo
          rw [eo] at hro ⊢
          have hin := roads_in hro
          have hlr := roads_len hro
          rw [prO_tu]
          repeat' walk_at "d1"
          refine ⟨n, _, rs, rfl, .inl rfl, by omega, by omega, hin, fun near hnear => ?_⟩
          repeat' walk_at "d1"
          refine ⟨n, rs, near, 0, rfl, hnear, hin, by omega, by omega, fun ws hws => ?_⟩
          have hany := ways_any hws
          refine d2_inTu ?_
          cases hcn : ws.any (·.isEmpty) with
          | true =>
            repeat' walk_at "d1"
            refine ds_raise1 E_InvalidText.t.o E_InvalidText.no ?_
            repeat' walk_at "d1"
            refine .inl (bad ?_)
            rintro ⟨n', rs', hp⟩
            obtain ⟨p1, p2, p3⟩ := pars hp
            rw [ho] at p1
            cases p1
            have e2 : rs' = rs := by rw [← prO_pr rs', ← p2, hrs]
            subst e2
            have := hany.mpr p3.con
            rw [hcn] at this
            cases this
          | false =>
            have tok : TreeOk n rs := ⟨by omega, by omega, hro, hany.mp hcn⟩
            repeat' walk_at "d1"
            refine de_make (dds := []) (fun _ => .nil) ?_
            repeat' walk_at "d1"
            refine ⟨_, n, _, rs, rfl, ?_, .inl rfl, tok, fun near2 ways hn2 hw2 => ⟨rfl, ?_⟩⟩
            · rw [List.getElem?_append_right (by omega), Nat.sub_self]; rfl
            · refine .inl ?_
              have := qt n rs ⟨first, words, hsp, ho, eo, tok⟩ near2 ways hn2 hw2
              rw [List.set_append_right _ _ (by omega), Nat.sub_self]
              exact this
      · refine ds_raise1 E_InvalidText.t.o E_InvalidText.no ?_
        repeat' walk_at "d1"
        refine .inl (bad ?_)
        rintro ⟨n, rs, hp⟩
        obtain ⟨p1, p2, p3⟩ := pars hp
        rw [ho] at p1
        cases p1
        have := p3.h1
        have := p3.h2
        omega
  · repeat' walk_at "d1"
    refine ds_raise1 E_InvalidText.t.o E_InvalidText.no ?_
    repeat' walk_at "d1"
    exact .inl qf
end
end K03
namespace K03
open PySem PySem.Spec PyProof.Rows L2 DL
/-! ### a drawn tree is a tree -/
def rgI (n : Nat) : List Int := (List.range n).map fun (i : Nat) => (i : Int)
theorem rgD_is (n : Nat) : rgD n = (rgI n).map Dat.int := by
  unfold rgD rgI
  rw [List.map_map]
  exact List.map_congr_left fun i _ => by show Dat.int (0 + (i : Int)) = Dat.int (i : Int); rw [Int.zero_add]
def nrm (p : Pr) : Pr := (min p.1 p.2, max p.1 p.2)
structure TreeList (n : Nat) (mix : List Int) (ps : List Pr) : Prop where
  perm : mix.Perm (rgI n)
  len : ps.length + 1 = n
  ok : ∀ (t : Nat) p, ps[t]? = some p → ∃ j, j ≤ t ∧ mix[t + 1]? = some p.1 ∧ mix[j]? = some p.2
theorem mix_nodup {n : Nat} {mix : List Int} (h : mix.Perm (rgI n)) : mix.Nodup := by
  refine h.nodup_iff.mpr ?_
  unfold rgI
  exact List.Pairwise.map _ (fun a b (hab : a ≠ b) (e : (a : Int) = b) => hab (by omega)) (List.nodup_range (n := n))
theorem mix_in {n : Nat} {mix : List Int} (h : mix.Perm (rgI n)) {v : Int} : v ∈ mix ↔ 0 ≤ v ∧ v < n := by
  unfold rgI at h
  rw [h.mem_iff, List.mem_map]
  constructor
  · rintro ⟨i, hi, rfl⟩
    rw [List.mem_range] at hi
    omega
  · rintro ⟨h0, h1⟩
    exact ⟨v.toNat, by rw [List.mem_range]; omega, by omega⟩
theorem nd_at {l : List Int} (nd : l.Nodup) {i j : Nat} {a : Int} (h : l[i]? = some a) (h' : l[j]? = some a) : i = j := by
  obtain ⟨hi, e⟩ := List.getElem?_eq_some_iff.mp h
  obtain ⟨hj, e'⟩ := List.getElem?_eq_some_iff.mp h'
  exact (List.getElem_inj nd).mp (e.trans e'.symm)
theorem plt_or {a b : Pr} (h : plt b a = false) (ne : a ≠ b) : plt a b = true := by
  obtain ⟨a1, a2⟩ := a
  obtain ⟨b1, b2⟩ := b
  have ne : ¬ (a1 = b1 ∧ a2 = b2) := fun z => ne (by rw [z.1, z.2])
  simp only [plt, decide_eq_false_iff_not, decide_eq_true_eq] at h ⊢
  omega
theorem asc_of {rs : List Pr} (s : rs.Pairwise fun a b => plt b a = false) (nd : rs.Nodup) : asc rs = true := by
  unfold asc
  rw [List.all_eq_true]
  intro i hi
  rw [List.mem_range] at hi
  have h1 : i < rs.length := by omega
  have h2 : i + 1 < rs.length := by omega
  rw [getD_at h1, getD_at h2]
  refine plt_or (List.pairwise_iff_getElem.mp s i (i + 1) h1 h2 (by omega)) fun e => ?_
  have := (List.getElem_inj nd).mp e
  omega
theorem tl_nodup {n : Nat} {mix : List Int} {ps : List Pr} (h : TreeList n mix ps) : (ps.map nrm).Nodup := by
  have nd := mix_nodup h.perm
  refine List.pairwise_iff_getElem.mpr fun s t hs ht hst e => ?_
  rw [List.length_map] at hs ht
  rw [List.getElem_map, List.getElem_map] at e
  obtain ⟨j, hj, a1, a2⟩ := h.ok s _ (List.getElem?_eq_getElem hs)
  obtain ⟨k, hk, b1, b2⟩ := h.ok t _ (List.getElem?_eq_getElem ht)
  have n1 : ps[t].1 ≠ ps[s].1 := fun z => by rw [z] at b1; have := nd_at nd a1 b1; omega
  have n2 : ps[t].1 ≠ ps[s].2 := fun z => by rw [z] at b1; have := nd_at nd a2 b1; omega
  unfold nrm at e
  have e1 := congrArg Prod.fst e
  have e2 := congrArg Prod.snd e
  dsimp only at e1 e2
  omega
theorem adj_of {rs : List Pr} {ps : List Pr} (hp : rs.Perm (ps.map nrm)) {p : Pr} (h : p ∈ ps) : Adj rs p.2 p.1 := by
  have : nrm p ∈ rs := hp.mem_iff.mpr (List.mem_map_of_mem h)
  unfold nrm at this
  unfold Adj
  rcases Int.le_total p.1 p.2 with z | z
  · rw [Int.min_eq_left z, Int.max_eq_right z] at this
    exact .inr this
  · rw [Int.min_eq_right z, Int.max_eq_left z] at this
    exact .inl this
theorem tl_conn {n : Nat} {mix : List Int} {ps rs : List Pr} (h : TreeList n mix ps) (hp : rs.Perm (ps.map nrm)) : Conn n rs := by
  have hl : mix.length = n := by rw [h.perm.length_eq]; simp [rgI]
  have key : ∀ (i : Nat) (hi : i < mix.length) (h0 : 0 < mix.length), Reach rs mix[0] mix[i] := by
    intro i
    induction i using Nat.strongRecOn with
    | ind i ih =>
      intro hi h0
      cases i with
      | zero => exact .refl
      | succ t =>
        have ht : t < ps.length := by have := h.len; omega
        obtain ⟨j, hj, a1, a2⟩ := h.ok t _ (List.getElem?_eq_getElem ht)
        obtain ⟨hj', e2⟩ := List.getElem?_eq_some_iff.mp a2
        obtain ⟨hi', e1⟩ := List.getElem?_eq_some_iff.mp a1
        have := ih j (by omega) hj' h0
        rw [e2] at this
        rw [e1]
        exact .step this (adj_of hp (List.getElem_mem ht))
  intro v h0 h1
  have m0 := (mix_in h.perm (v := 0)).mpr ⟨by omega, by omega⟩
  have mv := (mix_in h.perm (v := v)).mpr ⟨h0, h1⟩
  obtain ⟨i, hi, ei⟩ := List.getElem_of_mem m0
  obtain ⟨k, hk, ek⟩ := List.getElem_of_mem mv
  have r1 := key i hi (by omega)
  have r2 := key k hk (by omega)
  rw [ei] at r1
  rw [ek] at r2
  exact r1.symm.trans r2
theorem tree_of {n : Nat} {mix : List Int} {ps rs : List Pr} (h : TreeList n mix ps) (h1 : 1 ≤ n) (h2 : n ≤ 64) (hp : rs.Perm (ps.map nrm)) (s : rs.Pairwise fun a b => plt b a = false) : TreeOk n rs := by
  refine ⟨h1, h2, ?_, tl_conn h hp⟩
  have nd := mix_nodup h.perm
  unfold roadsB
  rw [prO_pr, asc_of s (hp.nodup_iff.mpr (tl_nodup h)), Bool.and_true, Bool.and_eq_true, decide_eq_true_eq, List.all_eq_true]
  refine ⟨by rw [List.length_map, hp.length_eq, List.length_map]; have := h.len; omega, fun os hos => ?_⟩
  obtain ⟨p, hpm, rfl⟩ := List.mem_map.mp hos
  obtain ⟨q, hq, rfl⟩ := List.mem_map.mp (hp.mem_iff.mp hpm)
  obtain ⟨t, ht, e⟩ := List.getElem_of_mem hq
  obtain ⟨j, hj, a1, a2⟩ := h.ok t q (by rw [List.getElem?_eq_getElem ht, e])
  have i1 := (mix_in h.perm).mp (List.mem_of_getElem? a1)
  have i2 := (mix_in h.perm).mp (List.mem_of_getElem? a2)
  have ne : q.1 ≠ q.2 := fun z => by rw [z] at a1; have := nd_at nd a1 a2; omega
  simp only [prO, nrm, roadB, idx, Bool.and_eq_true, decide_eq_true_eq]
  omega
theorem perm_erase : ∀ {l : List Int} {r : Nat} (h : r < l.length), (l[r] :: l.eraseIdx r).Perm l
  | [], r, h => by simp at h
  | a :: l, 0, h => by simp
  | a :: l, r + 1, h => by
    have ih := perm_erase (l := l) (r := r) (by simpa using h)
    simp only [List.getElem_cons_succ, List.eraseIdx_cons_succ]
    exact (List.Perm.swap _ _ _).trans (ih.cons a)
theorem perm_pop {ord mix : List Int} {r : Nat} {x : Int} (h : ord[r]? = some x) : (ord.eraseIdx r ++ (mix ++ [x])).Perm (ord ++ mix) := by
  obtain ⟨hr, rfl⟩ := List.getElem?_eq_some_iff.mp h
  have h1 := perm_erase hr
  have h2 : (ord.eraseIdx r ++ (mix ++ [ord[r]])).Perm (ord[r] :: (ord.eraseIdx r ++ mix)) := by
    rw [← List.append_assoc]
    exact List.perm_append_singleton _ _
  exact h2.trans ((List.Perm.append_right mix h1))
end K03
namespace K03
open PySem PySem.Spec PyProof.Rows L2 DL
local macro_rules | `(tactic| walk_at "hyp") => `(tactic| (first
  | (simp only [Bool.not_eq_true', Bool.not_eq_false', decide_eq_true_eq, decide_eq_false_iff_not, Bool.or_eq_true, Bool.and_eq_true, Bool.or_eq_false_iff, Bool.not_true, Bool.not_false, Bool.and_eq_false_iff] at *)
  | skip))
local macro_rules | `(tactic| walk_at "d1") => `(tactic| first
  | with_reducible refine ds_seq ?_
  | with_reducible refine ds_if ?_
  | with_reducible refine ds_ret ?_
  | with_reducible refine ds_set ?_
  | with_reducible refine ds_drop ?_
  | with_reducible refine ds_par ?_
  | with_reducible refine ds_par3 ?_
  | with_reducible refine ds_next ?_
  | with_reducible refine de_var rfl ?_
  | with_reducible refine de_int ?_
  | with_reducible refine de_str ?_
  | with_reducible refine de_bl ?_
  | with_reducible refine de_non ?_
  | with_reducible refine de_ty ?_
  | with_reducible refine de_ref ?_
  | with_reducible refine de_op ?_
  | with_reducible refine de_chain ?_
  | with_reducible refine de_un ?_
  | with_reducible refine de_dnew ?_
  | with_reducible refine de_disp1 ?_
  | with_reducible refine de_cb ?_
  | with_reducible refine de_bm ?_
  | with_reducible refine de_sl ?_
  | with_reducible refine de_tup ?_
  | with_reducible refine de_lst ?_
  | with_reducible refine de_fstr ?_
  | with_reducible refine de_fmtS ?_
  | with_reducible refine dj_cons ?_
  | with_reducible refine dj_nil ?_
  | with_reducible refine do_none ?_
  | with_reducible refine do_some ?_
  | with_reducible refine de_g0 (dds := []) (fun _ => .nil) ?_
  | with_reducible refine de_g (dds := []) (fun _ => .nil) ?_
  | with_reducible refine de_lc ?_
  | with_reducible refine di_str ?_
  | with_reducible refine di_tup ?_
  | with_reducible refine de_notV ?_
  | with_reducible refine de_andV ?_
  | with_reducible refine de_orV ?_
  | with_reducible refine de_if ?_
  | with_reducible refine dt_test ?_
  | with_reducible refine dt_B ?_
  | with_reducible refine dt_and ?_
  | with_reducible refine dt_or ?_
  | with_reducible refine dt_not ?_
  | with_reducible refine dt_yes ?_
  | with_reducible refine da_cons ?_
  | with_reducible refine da_nil ?_
  | with_reducible refine d2_leI ?_
  | with_reducible refine d2_ltI ?_
  | with_reducible refine d2_geI ?_
  | with_reducible refine d2_gtI ?_
  | with_reducible refine d2_addI ?_
  | with_reducible refine d2_sub ?_
  | ((with_reducible refine' d2_leS1 (sign1_cps _) ?hs1 ?_); (case hs1 => first | exact sg_a | exact sg_z | exact sg_sp | exact sg_ti))
  | ((with_reducible refine' d2_leS1 ?hs1 (sign1_cps _) ?_); (case hs1 => first | exact sg_a | exact sg_z | exact sg_sp | exact sg_ti))
  | with_reducible refine dr_int ?_
  | with_reducible refine dr_abs ?_
  | with_reducible refine dg_sub ?_
  | ((with_reducible refine' d2_ix ?hsq ?hix ?_); (case hsq => assumption); (case hix => rfl))
  | ((with_reducible refine' d2_mod ?hmod ?_); (case hmod => first | decide | omega))
  | ((with_reducible refine' d2_mul ?hmul ?_); (case hmul => exact mul_ok (by omega) (by omega)))
  | ((with_reducible refine' d2_div ?hdiv ?_); (case hdiv => exact div_ok (by first | decide | omega) (by omega)))
  | ((with_reducible refine' d2_pow ?hpow ?_); (case hpow => exact pow_ok (by decide) (by decide) (by omega)))
  | with_reducible refine d2_notI ?_
  | with_reducible refine d2_notSt ?_
  | with_reducible refine d2_notNn ?_
  | with_reducible refine d2_notT ?_
  | with_reducible refine d2_isI ?_
  | with_reducible refine d2_isNn ?_
  | with_reducible refine d2_isT ?_
  | with_reducible refine d2_neI ?_
  | with_reducible refine d2_eqI ?_
  | with_reducible refine d2_eqS ?_
  | with_reducible refine d2_neS ?_
  | with_reducible refine dr_isiK (by assumption) (by decide) (by first | assumption | exact isTyD_str _ | exact isTyD_tup _ | rfl) ?_
  | with_reducible refine dr_lenT ?_
  | with_reducible refine dr_lenL ?_
  | with_reducible refine dr_lenR ?_
  | with_reducible refine dr_lenC (by assumption) ?_
  | with_reducible refine ds_to ?_
  | with_reducible refine dg_name (by decide) ?_
  | with_reducible refine dg_tup2 ?_
  | with_reducible refine dg_tup3 ?_
  | with_reducible refine dg_tup4 ?_
  | with_reducible refine dgs_cons ?_
  | with_reducible refine dgs_nil ?_
  | with_reducible refine dr_lenS (by omega) ?_
  | with_reducible refine ⟨⟨by simp only [List.length_cons, List.length_nil], by simp only [List.length_cons, List.length_nil]; omega⟩, ?_⟩
  | with_reducible refine ⟨_, rfl, ?_⟩
  | with_reducible refine ⟨_, _, rfl, ?_⟩
  | with_reducible refine ⟨tyD_str, ?_⟩
  | with_reducible refine ⟨by omega, ?_⟩
  | with_reducible refine ⟨by (simp only [PySem.Str.length_append, len_empty, len_sp, List.length_cons, List.length_nil, List.length_append]; omega), ?_⟩
  | with_reducible refine bothT ?_
  | with_reducible refine bothF ?_
  | with_reducible refine bothNT ?_
  | with_reducible refine bothNF ?_
  | (with_reducible refine both (fun hc => ?_) (fun hc => ?_) <;> (try simp only [Bool.not_eq_true', Bool.not_eq_false', decide_eq_true_eq, decide_eq_false_iff_not] at hc) <;> (try (exfalso; omega)) <;> (try exact absurd rfl hc) <;> (try exact absurd trivial hc)))

local macro_rules | `(tactic| walk_at "sm") => `(tactic| first
  | with_reducible refine di_lst ?_
  | with_reducible refine as_lst ?_
  | ((with_reducible refine' d2_addSm ?hs1 ?hs2 ?hs3 (fun hs => ?_)); (case hs1 => assumption); (case hs2 => assumption); (case hs3 => omega))
  | ((with_reducible refine' d2_addL ?hal ?_); (case hal => (simp; try omega)))
  | with_reducible refine d1_neg ?_)

abbrev s__law_cell : Stmt := (topS 24)
theorem sc__law_cell : FnScope ["script", "k"] ["script", "k"] (defScope s__law_cell) := ⟨rfl, rfl, rfl, by decide +kernel, rfl, by decide +kernel, by decide +kernel⟩
abbrev s__law_box : Stmt := (topS 25)
theorem sc__law_box : FnScope ["great"] ["great"] (defScope s__law_box) := ⟨rfl, rfl, rfl, by decide +kernel, rfl, by decide +kernel, by decide +kernel⟩
abbrev s__law_take : Stmt := (topS 26)
theorem sc__law_take : FnScope ["box", "many", "digit", "mixed"] ["box", "many"] (defScope s__law_take) := ⟨rfl, rfl, rfl, by decide +kernel, rfl, by decide +kernel, by decide +kernel⟩
abbrev s__law_roads : Stmt := (topS 27)
theorem sc__law_roads : FnScope ["box", "houses", "kind", "order", "mixed", "pairs", "k", "a", "b"] ["box", "houses"] (defScope s__law_roads) := ⟨rfl, rfl, rfl, by decide +kernel, rfl, by decide +kernel, by decide +kernel⟩
section
variable {P : Program} {w : World} {K : PySem.W.Frag} {mg : Str → Option Value} {base : Heap}
theorem cutD_map {α : Type} (f : α → Dat) (l : List α) (lo hi : Option Int) : ∃ ys : List α, DL.cutD (l.map f) lo hi = ys.map f := by
  unfold DL.cutD
  exact ⟨_, by rw [List.map_take, List.map_drop]⟩
def pm_cell (K : PySem.W.Frag) : Pm := fun ds ms P X => ∃ (zs : List Int) (k : Int), ds = [.rol (zs.map Dat.int), .int k] ∧ zs.length ≤ 1000 ∧ 0 ≤ k ∧ k ≤ 1000 ∧ ∀ z, P (.int z) ms
theorem ok_cell {f : Addr} {fd : FuncData} (F : Fun K "_law_cell" "_law_cell" s__law_cell f fd) (T : Txt K mg) : FnG P w K mg base (L2N.CX P w) 1 f fd ["script", "k"] (spD K (pm_cell K)) := by
  refine fn_dl F sc__law_cell (fun ds ms Pd X h => by obtain ⟨z, k, rfl, _⟩ := h; rfl) (fun cdv Ar outer s H E hr hq => ?_)
  have tk := (L2N.takes_of (X := cxOf (L2N.CX P w) P w K mg base ["script", "k"] "_law_cell" (defScope s__law_cell) f cdv Ar outer s H E) (E := E) rfl rfl rfl rfl)
  refine ⟨_, (pss_one (ps_ret (pe_ifExp (pt_cmpR op_ltA (pv 1) (pe_callB (crK (K := K) (r := rLenK) rfl call_len) (by rfl) T.b_len bt_len (pa_cons (pv 0) pa_nil)) (nomark _)) (pe_ix (ixK (K := K) (r := rIx) rfl ix_seq) (pv 0) (pv 1) (fun _ _ => rfl)) (pe_op op_addA (pe_op op_mulA pe_int (pv 1)) (pe_op op_modA (pe_callB (crK (K := K) (r := rSum) rfl (cr_sum rfl)) (by rfl) T.b_sum bt_sum (pa_cons (pe_slice (slK (K := K) (r := rSlA) rfl sl_A) (pv 0) po_none (po_some pe_int)) pa_nil)) pe_int))))), ?_⟩
  try simp only [cxK]
  rintro _ ms Pd Xd ⟨zs, k, rfl, hz, h0, h1, q⟩ bl mb
  repeat' walk_at "d1"
  · rename_i hk
    rw [List.length_map] at hk
    obtain ⟨a, _, ha⟩ := atI_map Dat.int h0 hk
    exact d2_ix (.inr (.inr (.inl rfl))) ha (.inl (q _))
  · skip
    refine dsl_list (.inr (.inl rfl)) ?_
    obtain ⟨ys, hy⟩ := cutD_map Dat.int zs none (some 1)
    rw [hy]
    repeat' walk_at "d1"
    refine dr_sum ?_
    repeat' walk_at "d1"
    exact .inl (q _)
def pm_box (K : PySem.W.Frag) : Pm := fun ds ms P X => ∃ g : Int, ds = [.int g] ∧ ∀ xs, BoxOk 0 xs → P (.cell ms.length) (ms ++ [.lst xs])
theorem ok_box {f : Addr} {fd : FuncData} (F : Fun K "_law_box" "_law_box" s__law_box f fd) (T : Txt K mg) : FnG P w K mg base (L2N.CX P w) 1 f fd ["great"] (spD K (pm_box K)) := by
  refine fn_dl F sc__law_box (fun ds ms Pd X h => by obtain ⟨z, rfl, _⟩ := h; rfl) (fun cdv Ar outer s H E hr hq => ?_)
  have tk := (L2N.takes_of (X := cxOf (L2N.CX P w) P w K mg base ["great"] "_law_box" (defScope s__law_box) f cdv Ar outer s H E) (E := E) rfl rfl rfl rfl)
  refine ⟨_, (pss_one (ps_ret (pe_lst (pa_cons (pe_callB call_abs (by rfl) T.b_abs bt_abs (pa_cons (pv 0) pa_nil)) (pa_cons (pe_cmpR op_geA (pe_callB call_abs (by rfl) T.b_abs bt_abs (pa_cons (pv 0) pa_nil)) (pe_op op_powA pe_int pe_int) (nomark _)) (pa_cons (pe_op op_modA (pe_callTy call_intA (by rfl) T.b_int bt_int (pa_cons (pe_callB call_abs (by rfl) T.b_abs bt_abs (pa_cons (pv 0) pa_nil)) pa_nil)) pe_int) (pa_cons pe_int pa_nil))))))), ?_⟩
  try simp only [cxK]
  rintro _ ms Pd Xd ⟨g, rfl, q⟩ bl mb
  refine ds_ret (de_lstC ?_)
  repeat' walk_at "d1"
  refine .inl (q _ ⟨_, _, 0, _, rfl, ?_, Int.emod_nonneg _ (by decide), Int.emod_lt_of_pos _ (by decide), by decide, by decide⟩)
  split <;> omega
def pm_take (K : PySem.W.Frag) : Pm := fun ds ms P X => ∃ (k n : Nat) (many : Int) (xs : List Dat), ds = [.cell k, .int many] ∧ 0 < many ∧ many ≤ 1000 ∧ ms[k]? = some (.lst xs) ∧ BoxOk n xs ∧ n ≤ 100000 ∧
  ∀ r ys, 0 ≤ r → r < many → BoxOk (n + 1) ys → P (.int r) (ms.set k (.lst ys))
theorem set_set {ms : Ms} {k : Nat} {a b : MO} : (ms.set k a).set k b = ms.set k b := List.set_set ..
theorem ok_take {f : Addr} {fd : FuncData} (F : Fun K "_law_take" "_law_take" s__law_take f fd) (T : Txt K mg) : FnG P w K mg base (L2N.CX P w) 1 f fd ["box", "many"] (spD K (pm_take K)) := by
  refine fn_dl F sc__law_take (fun ds ms Pd X h => by obtain ⟨z, _, _, _, rfl, _⟩ := h; rfl) (fun cdv Ar outer s H E hr hq => ?_)
  have tk := (L2N.takes_of (X := cxOf (L2N.CX P w) P w K mg base ["box", "many", "digit", "mixed"] "_law_take" (defScope s__law_take) f cdv Ar outer s H E) (E := E) rfl rfl rfl rfl)
  refine ⟨_, (pss_cons (ps_if (PW.pt (pw_and (pt_val (pe_ix (ixK (K := K) (r := rIx) rfl ix_seq) (pv 0) pe_int (fun _ _ => rfl))) (pw_and1 (pt_cmpR op_gtA (pe_ix (ixK (K := K) (r := rIx) rfl ix_seq) (pv 0) pe_int (fun _ _ => rfl)) pe_int (nomark _))))) (pss_cons (ps_set (i := 2) sc__law_take.nd rfl (by first | exact Or.inl rfl | exact Or.inr rfl) (pe_op op_modA (pe_callTy call_intA (by rfl) T.b_int bt_int (pa_cons (pe_ix (ixK (K := K) (r := rIx) rfl ix_seq) (pv 0) pe_int (fun _ _ => rfl)) pa_nil)) (pv 1))) (pss_cons (ps_asg (pe_op op_divA (pe_ix (ixK (K := K) (r := rIx) rfl ix_seq) (pv 0) pe_int (fun _ _ => rfl)) (pv 1)) (pg_sub (pv 0) pe_int set_list)) (pss_one (ps_ret (pv 2))))) pss_nil) (pss_cons (ps_asg (pe_op op_addA (pe_ix (ixK (K := K) (r := rIx) rfl ix_seq) (pv 0) pe_int (fun _ _ => rfl)) pe_int) (pg_sub (pv 0) pe_int set_list)) (pss_cons (ps_set (i := 3) sc__law_take.nd rfl (by first | exact Or.inl rfl | exact Or.inr rfl) (pe_op op_modA (pe_callTy call_intA (by rfl) T.b_int bt_int (pa_cons (pe_op op_powA (pe_op op_addA (pe_op op_addA (pe_ix (ixK (K := K) (r := rIx) rfl ix_seq) (pv 0) pe_int (fun _ _ => rfl)) (pe_op op_mulA pe_int (pe_ix (ixK (K := K) (r := rIx) rfl ix_seq) (pv 0) pe_int (fun _ _ => rfl)))) pe_int) pe_int) pa_nil)) pe_int)) (pss_one (ps_ret (pe_op op_modA (pe_op op_divA (pe_op op_modA (pe_callTy call_intA (by rfl) T.b_int bt_int (pa_cons (pe_op op_powA (pe_op op_addA (pe_op op_mulA (pv 3) pe_int) (pe_op op_mulA pe_int (pe_ix (ixK (K := K) (r := rIx) rfl ix_seq) (pv 0) pe_int (fun _ _ => rfl)))) pe_int) pa_nil)) pe_int) pe_int) (pv 1))))))), ?_⟩
  try simp only [cxK]
  rintro _ ms Pd Xd ⟨k, n, many, xs, rfl, hm0, hm1, hk, hb, hn, q⟩ bl mb
  obtain ⟨a, m, c, b, rfl, h1, h2, h3, h4, h5⟩ := hb.is
  have lt := ms_lt hk
  have sq0 : SeqV ms (.cell k) [.int a, .bl b, .int m, .int c] := .inr (.inr (.inr ⟨k, rfl, hk⟩))
  have lm : many.natAbs.log2 ≤ 1000 := log_le (by omega)
  have l2 : ∀ i : Int, 0 ≤ i → i < 1000000 → i.natAbs.log2 ≤ 1000000 - 1 := fun i h1 h2 => log_le (by omega)
  repeat' walk_at "d1"
  · rename_i hb ha
    repeat' walk_at "d1"
    refine sub_to hk rfl ?_
    repeat' walk_at "d1"
    exact .inl (q _ _ (Int.emod_nonneg _ (by omega)) (Int.emod_lt_of_pos _ hm0) ⟨_, _, _, _, rfl, Int.ediv_nonneg h1 (by omega), h2, h3, h4, by omega⟩)
  all_goals
    refine sub_to hk rfl ?_
    have sq1 : SeqV (ms.set k (.lst [.int a, .bl b, .int m, .int (c + 1)])) (.cell k) [.int a, .bl b, .int m, .int (c + 1)] := .inr (.inr (.inr ⟨k, rfl, set_same lt⟩))
    repeat' walk_at "d1"
    have mx0 := Int.emod_nonneg ((m + 15485863 * (c + 1) + 179424673) ^ Int.toNat 5) (b := 2147483647) (by decide)
    have mx1 := Int.emod_lt_of_pos ((m + 15485863 * (c + 1) + 179424673) ^ Int.toNat 5) (b := 2147483647) (by decide)
    generalize (m + 15485863 * (c + 1) + 179424673) ^ Int.toNat 5 % 2147483647 = mx at mx0 mx1 ⊢
    repeat' walk_at "d1"
    exact .inl (q _ _ (Int.emod_nonneg _ (by omega)) (Int.emod_lt_of_pos _ hm0) ⟨_, _, _, _, rfl, h1, h2, h3, by omega, by omega⟩)

/-- the box's cell, later -/
def pm_roads (K : PySem.W.Frag) : Pm := fun ds ms P X => ∃ (k c n : Nat) (xs : List Dat), ds = [.cell k, .int n] ∧ ms[k]? = some (.lst xs) ∧ BoxOk c xs ∧ c ≤ 50000 ∧ 1 ≤ n ∧ n ≤ 64 ∧
  ∀ rs ys c', TreeOk n rs → BoxOk c' ys → c' ≤ c + 200 → P (.lst (rs.map dpPr)) (ms.set k (.lst ys))
def JO (k c n : Nat) (ms : Ms) (z : Int) (j : Nat) (e : Ev) (m : Ms) : Prop := ∃ (ord mix : List Int) (ys : List Dat) (c' : Nat), ord.length = j ∧ (ord ++ mix).Perm (rgI n) ∧ BoxOk c' ys ∧ c' + j = c + 1 + n ∧
  e = [some (.cell k), some (.int n), some (.int z), some (.cell ms.length), some (.cell (ms.length + 1)), none, none, none, none] ∧ m = ms.set k (.lst ys) ++ [liM ord, liM mix]
theorem era_map {α β : Type} (f : α → β) : ∀ (l : List α) (r : Nat), (l.map f).eraseIdx r = (l.eraseIdx r).map f
  | [], r => by simp
  | a :: l, 0 => rfl
  | a :: l, r + 1 => by simp only [List.map_cons, List.eraseIdx_cons_succ]; rw [era_map f l r]
def JP (k c n : Nat) (ms : Ms) (mix : List Int) (i : Nat) (acc : List Dat) (m : Ms) : Prop := ∃ (ps : List Pr) (ys : List Dat) (c' : Nat), acc = ps.map dpPr ∧ ps.length = i ∧ (∀ (t : Nat) p, ps[t]? = some p → ∃ j, j ≤ t ∧ mix[t + 1]? = some p.1 ∧ mix[j]? = some p.2) ∧ BoxOk c' ys ∧ c' ≤ c + 1 + n + i ∧ m = ms.set k (.lst ys) ++ [liM [], liM mix]
theorem box_bel {n L : Nat} {xs : List Dat} (h : BoxOk n xs) : BelL L xs := by
  obtain ⟨a, m, c, b, rfl, _⟩ := h.is
  exact .cons (.int _) (.cons (.bl _) (.cons (.int _) (.cons (.int _) .nil)))
theorem ifmin (a b : Int) : (if b < a then b else a) = min a b := by split <;> omega
theorem ifmax (a b : Int) : (if b > a then b else a) = max a b := by split <;> omega
theorem two_get {ms : Ms} {k : Nat} {x A B : MO} (h : k < ms.length) : (ms.set k x ++ [A, B])[k]? = some x := by
  rw [List.getElem?_append_left (by rw [List.length_set]; exact h), List.getElem?_set_self h]
theorem two_setk {ms : Ms} {k : Nat} {x y A B : MO} (h : k < ms.length) : (ms.set k x ++ [A, B]).set k y = ms.set k y ++ [A, B] := by
  rw [List.set_append_left _ _ (by rw [List.length_set]; exact h), List.set_set]
theorem two0s {ms : Ms} {k : Nat} {x A B : MO} : (ms.set k x ++ [A, B])[ms.length]? = some A := by
  have := two0 (ms := ms.set k x) (A := A) (B := B)
  rwa [List.length_set] at this
theorem two1s {ms : Ms} {k : Nat} {x A B : MO} : (ms.set k x ++ [A, B])[ms.length + 1]? = some B := by
  have := two1 (ms := ms.set k x) (A := A) (B := B)
  rwa [List.length_set] at this
theorem tset0s {ms : Ms} {k : Nat} {x A B C : MO} : (ms.set k x ++ [A, B]).set ms.length C = ms.set k x ++ [C, B] := by
  have := tset0 (ms := ms.set k x) (A := A) (B := B) (C := C)
  rwa [List.length_set] at this
theorem tset1s {ms : Ms} {k : Nat} {x A B C : MO} : (ms.set k x ++ [A, B]).set (ms.length + 1) C = ms.set k x ++ [A, C] := by
  have := tset1 (ms := ms.set k x) (A := A) (B := B) (C := C)
  rwa [List.length_set] at this
theorem ok_law_roads {f : Addr} {fd : FuncData}  {g0 : Addr} {fd0 : FuncData} (D__law_take : Df K mg "_law_take" g0) (G__law_take : FnG P w K mg base (L2N.CX P w) 1 g0 fd0 ["box", "many"] (spD K (pm_take K))) (b__law_take : Binds K fd0 ["box", "many"] []) (F : Fun K "_law_roads" "_law_roads" s__law_roads f fd) (T : Txt K mg) :
    FnG P w K mg base (L2N.CX P w) 2 f fd ["box", "houses"] (spD K (pm_roads K)) := by
  refine fn_dl F sc__law_roads (fun ds ms Pd X h => by obtain ⟨_, _, _, _, rfl, _⟩ := h; rfl) (fun cdv Ar outer s H E hr hq => ?_)
  have tk := (L2N.takes_of (X := cxOf (L2N.CX P w) P w K mg base ["box", "houses", "kind", "order", "mixed", "pairs", "k", "a", "b"] "_law_roads" (defScope s__law_roads) f cdv Ar outer s H E) (E := E) rfl rfl rfl rfl)
  refine ⟨_, (pss_cons (ps_asg (pe_tup (pa_cons (pe_g G__law_take (hr.mono (by decide)) hq rfl D__law_take.m D__law_take.k b__law_take .nil (fun σ => L2N.passAt tk σ) (pa_cons (pv 0) (pa_cons pe_int pa_nil))) (pa_cons (pe_listRg rfl rfl T.b_list (prg_1 rfl T.b_range (pv 1))) (pa_cons (pe_lst pa_nil) pa_nil)))) (pg_tup (n := 3) rfl (pgs_cons (pg_name (i := 2) sc__law_roads.nd rfl (by first | exact Or.inl rfl | exact Or.inr rfl)) (pgs_cons (pg_name (i := 3) sc__law_roads.nd rfl (by first | exact Or.inl rfl | exact Or.inr rfl)) (pgs_cons (pg_name (i := 4) sc__law_roads.nd rfl (by first | exact Or.inl rfl | exact Or.inr rfl)) pgs_nil))))) (pss_cons (ps_while (by first | exact PassesOwn.never | assumption | exact passes_of rfl) (pt_cmpR (opK (K := K) (r := rNeA) rfl (op_neA hr.units)) (pv 3) (pe_lst pa_nil) (nomark _)) (pss_one (ps_expr (pe_bmK (K := K) rfl PySem.F.plainAttrs_list PySem.F.slot_list_append PySem.F.type_list_append mtA_append (pv 4) (pa_cons (pe_bmK (K := K) rfl PySem.F.plainAttrs_list PySem.F.slot_list_pop PySem.F.type_list_pop mt_popAt (pv 3) (pa_cons (pe_g G__law_take (hr.mono (by decide)) hq rfl D__law_take.m D__law_take.k b__law_take .nil (fun σ => L2N.passAt tk σ) (pa_cons (pv 0) (pa_cons (pe_callB (crK (K := K) (r := rLenK) rfl call_len) (by rfl) T.b_len bt_len (pa_cons (pv 3) pa_nil)) pa_nil))) pa_nil)) pa_nil))))) (pss_cons (ps_setLc (i := 5) (own := [("k", 6)]) rfl sc__law_roads.nd rfl rfl (sw_true rfl rfl rfl (by decide +kernel)) (pi_range2 rfl T.b_range (pa_cons pe_int (pa_cons (pv 1) pa_nil))) (blkOk_by (own := [("k", 6)]) (N := ["box", "houses", "kind", "order", "mixed", "pairs", "k", "a", "b"]) (sc := defScope s__law_roads) (by decide +kernel)) (fun _ _ _ _ _ => (pg_name (i := 6) sc__law_roads.nd rfl (by first | exact Or.inl rfl | exact Or.inr rfl))) (fun _ _ _ _ _ => pts_nil) (fun _ _ _ _ _ => (pe_tup (pa_cons (pe_ix (ixK (K := K) (r := rIx) rfl ix_seq) (pv 4) (pv 6) (fun _ _ => rfl)) (pa_cons (pe_ix (ixK (K := K) (r := rIx) rfl ix_seq) (pv 4) (pe_ix (ixK (K := K) (r := rIx) rfl ix_seq) (pe_lst (pa_cons (pe_op op_subA (pv 6) pe_int) (pa_cons pe_int (pa_cons (pe_g G__law_take (hr.mono (by decide)) hq rfl D__law_take.m D__law_take.k b__law_take .nil (fun σ => passN σ) (pa_cons (pv 0) (pa_cons (pv 6) pa_nil))) pa_nil)))) (pv 2) (fun _ _ => rfl)) (fun _ _ => rfl)) pa_nil))))) (pss_one (ps_ret (pe_callB (crK (K := K) (r := rSortedR) rfl cr_sortedR) (by rfl) T.b_sorted bt_sorted (pa_cons (pe_lc (own := [("a", 7), ("b", 8)]) rfl sc__law_roads.nd (pi_list (pv 5)) (blkOk_by (own := [("a", 7), ("b", 8)]) (N := ["box", "houses", "kind", "order", "mixed", "pairs", "k", "a", "b"]) (sc := defScope s__law_roads) (by decide +kernel)) (fun _ _ _ _ _ => (pg_tupK (K := K) (n := 2) rfl rfl (pgs_cons (pg_name (i := 7) sc__law_roads.nd rfl (by first | exact Or.inl rfl | exact Or.inr rfl)) (pgs_cons (pg_name (i := 8) sc__law_roads.nd rfl (by first | exact Or.inl rfl | exact Or.inr rfl)) pgs_nil)))) (fun _ _ _ _ _ => pts_nil) (fun _ _ _ _ _ => (pe_tup (pa_cons (pe_callB (call_min2 rfl) (by rfl) T.b_min bt_min (pa_cons (pv 7) (pa_cons (pv 8) pa_nil))) (pa_cons (pe_callB (call_max2 rfl) (by rfl) T.b_max bt_max (pa_cons (pv 7) (pa_cons (pv 8) pa_nil))) pa_nil))))) pa_nil))))))), ?_⟩
  try simp only [cxK]
  rintro _ ms Pd Xd ⟨k, c, n, xs, rfl, hk, hb, hc, hn1, hn2, q⟩ bl mb
  have lt := ms_lt hk
  repeat' walk_at "d1"
  refine ⟨k, c, 3, xs, rfl, by decide, by decide, hk, hb, by omega, fun z ys hz0 hz1 hb1 => ?_⟩
  refine da_cons (de_lstRgC (de_var rfl ⟨n, rfl, by omega, da_cons (de_lstC (da_nil ⟨by simp, da_nil ⟨by simp, ?_⟩⟩))⟩))
  refine dg_tup3 ?_
  repeat' walk_at "d1"
  have e0 : ms.set k (.lst ys) ++ [MO.lst (rgD n)] ++ [MO.lst []] = ms.set k (.lst ys) ++ [liM (rgI n), liM []] := by rw [List.append_assoc, rgD_is]; rfl
  have e1 : (ms.set k (.lst ys)).length = ms.length := List.length_set ..
  have e2 : (ms.set k (.lst ys) ++ [MO.lst (rgD n)]).length = ms.length + 1 := by rw [List.length_append, e1]; rfl
  rw [e0, e1, e2]
  refine ds_while (JO k c n ms z) n ⟨rgI n, [], ys, c + 1, by simp [rgI], by simp, hb1, by omega, rfl, rfl⟩ ?_
  · rintro j e m ⟨ord, mix, ys, c', hj, hp, hb, hc', rfl, rfl⟩
    repeat' walk_at "d1"
    refine d2_neC0 two0s ⟨_, rfl, fun ho => ?_, fun ho => ?_⟩
    · have hol : 0 < ord.length := by
        cases ord with
        | nil => simp at ho
        | cons a l => simp
      repeat' walk_at "d1"
      refine ⟨tyD_cell two1s, ?_⟩
      repeat' walk_at "d1"
      refine ⟨tyD_cell two0s, ?_⟩
      repeat' walk_at "d1"
      refine dr_lenC two0s ?_
      rw [List.length_map]
      have hlen : ord.length + mix.length = n := by have := hp.length_eq; simpa [rgI] using this
      repeat' walk_at "d1"
      refine ⟨k, c', ord.length, ys, rfl, by omega, by omega, two_get lt, hb, by omega, fun r zs hr0 hr1 hb2 => ?_⟩
      rw [two_setk lt]
      obtain ⟨r, rfl⟩ := nat_of hr0
      have hr : r < ord.length := by omega
      repeat' walk_at "d1"
      refine dr_popAt two0s (d := .int ord[r]) (by rw [List.getElem?_map, List.getElem?_eq_getElem hr]; rfl) (by rw [List.length_map]; omega) ?_
      rw [tset0s, show MO.lst ((ord.map Dat.int).eraseIdx r) = liM (ord.eraseIdx r) by unfold liM; rw [era_map]]
      repeat' walk_at "d1"
      refine dr_append two1s (by rw [List.length_map]; omega) ?_
      rw [liM_snoc, tset1s]
      refine ⟨j - 1, by omega, _, _, zs, c' + 1, ?_, (perm_pop (List.getElem?_eq_getElem hr)).trans hp, hb2, by omega, rfl, rfl⟩
      rw [List.length_eraseIdx_of_lt hr]; omega
    · have h0 : ord = [] := by simpa using ho
      subst h0
      have hp : mix.Perm (rgI n) := by simpa using hp
      have hl : mix.length = n := by have := hp.length_eq; simpa [rgI] using this
      have hj : j = 0 := by simpa using hj.symm
      refine ds_seq (ds_set (de_lc (di_rng2 ?_)))
      repeat' walk_at "d1"
      rw [show ((n : Int) - 1).toNat = n - 1 by omega]
      refine ⟨by omega, JP k c n ms mix, ⟨[], ys, c', rfl, rfl, fun t p e => by simp at e, hb, by omega, rfl⟩, ?_, ?_⟩
      · rintro i acc m hi _ ⟨ps, ys, c', rfl, hpl, hps, hb, hc', rfl⟩
        refine dg_name (by decide) (dt_yes ⟨fun _ => ?_, fun z => nomatch z⟩)
        have e1 : (1 + (i : Int)) = ((i + 1 : Nat) : Int) := by omega
        have hi1 : i + 1 < mix.length := by omega
        have m1 : atI (mix.map Dat.int) ((i + 1 : Nat) : Int) = some (.int mix[i + 1]) := at_nat (by rw [List.getElem?_map, List.getElem?_eq_getElem hi1]; rfl)
        repeat' walk_at "d1"
        refine d2_ix (.inr (.inr (.inr ⟨_, rfl, two1s⟩))) (by rw [e1]; exact m1) ?_
        repeat' walk_at "d1"
        refine ⟨k, c', 1 + (i : Int), ys, rfl, by omega, by omega, two_get lt, hb, by omega, fun r zs hr0 hr1 hb2 => ?_⟩
        rw [two_setk lt]
        repeat' walk_at "d1"
        obtain ⟨j, hj, hat⟩ : ∃ j : Nat, j ≤ i ∧ atI [Dat.int (1 + (i : Int) - 1), .int 0, .int r] z = some (.int j) := by
          have h3 : z = 0 ∨ z = 1 ∨ z = 2 := by omega
          rcases h3 with h | h | h <;> subst h
          · exact ⟨i, by omega, by show some (Dat.int (1 + (i : Int) - 1)) = _; rw [show (1 + (i : Int) - 1) = i by omega]⟩
          · exact ⟨0, by omega, rfl⟩
          · obtain ⟨r, rfl⟩ := nat_of hr0
            exact ⟨r, by omega, rfl⟩
        refine d2_ix (.inl rfl) hat ?_
        have hj1 : j < mix.length := by omega
        refine d2_ix (.inr (.inr (.inr ⟨_, rfl, two1s⟩))) (at_nat (u := j) (by rw [List.getElem?_map, List.getElem?_eq_getElem hj1]; rfl)) ?_
        repeat' walk_at "d1"
        refine ⟨ps ++ [(mix[i + 1], mix[j])], zs, c' + 1, by rw [List.map_append]; rfl, by simp [hpl], fun t p e => ?_, hb2, by omega, rfl⟩
        rw [List.getElem?_append] at e
        split at e
        · exact hps t p e
        · have ht : t = i := by
            have := (List.getElem?_eq_some_iff.mp e).1
            simp at this
            omega
          subst ht
          rw [hpl, Nat.sub_self] at e
          cases e
          exact ⟨j, hj, List.getElem?_eq_getElem hi1, List.getElem?_eq_getElem hj1⟩
      · rintro acc m _ ⟨ps, ys, c', rfl, hpl, hps, hb, hc', rfl⟩
        have tl : TreeList n mix ps := ⟨hp, by omega, hps⟩
        refine ds_ret ?_
        repeat' walk_at "d1"
        refine di_lst ?_
        repeat' walk_at "d1"
        refine as_lst ?_
        rw [List.length_map]
        refine lcw_map (by omega) (fun _ => true) (fun i => dpPr (nrm (ps.getD i (0, 0)))) (fun i hi => ?_) ?_
        · rw [itD hi]
          refine dg_tup2 ?_
          repeat' walk_at "d1"
          refine ⟨rfl, rfl, fun _ => ?_⟩
          repeat' walk_at "d1"
          refine dr_min ?_
          repeat' walk_at "d1"
          refine dr_max ?_
          repeat' walk_at "d1"
          refine ⟨?_, rfl⟩
          rw [getD_at hi]
          unfold dpPr nrm
          rw [ifmin, ifmax]
        · rw [lcw_get ps (fun p => dpPr (nrm p)) _ fun i hi => by rw [getD_at hi], show ps.map (fun p => dpPr (nrm p)) = (ps.map nrm).map dpPr by rw [List.map_map]; rfl]
          refine da_nil (dr_sortedP (.inl rfl) fun rs hrs hso => ?_)
          exact ret_bel (by rw [List.length_set]) (msbel_set mb (.lst (box_bel hb))) (.lst (bel_prs rs)) (q rs ys c' (tree_of tl hn1 hn2 hrs hso) hb (by omega))
end
end K03
namespace K03
open PySem PySem.Spec PyProof.Rows L2 DL
/-! ### numbers as they are written -/
def num (z : Str) : Option Int := if (decide (1 ≤ z.length) && z.cps.toList.all digC && canon z.cps.toList) = true then some (nv z) else none
theorem cnt_num {z : Str} {i : Int} (h : cnt z = some i) : num z = some i := by
  unfold cnt at h
  split at h
  · rename_i hc
    simp only [Bool.and_eq_true] at hc
    unfold num
    rw [if_pos (by simp only [Bool.and_eq_true]; exact ⟨⟨hc.1.1.1, hc.1.2⟩, hc.2⟩)]
    exact h
  · cases h
theorem fold_low : ∀ (l : List Nat) (a : Nat), a * 10 ^ l.length ≤ l.foldl (fun acc c => acc * 10 + (c - 48)) a
  | [], a => by simp
  | c :: l, a => by
    have ih := fold_low l (a * 10 + (c - 48))
    rw [List.foldl_cons, List.length_cons, Nat.pow_succ]
    refine Nat.le_trans ?_ ih
    rw [Nat.mul_comm (10 ^ l.length) 10, ← Nat.mul_assoc]
    exact Nat.mul_le_mul_right _ (by omega)
theorem one_sign : ∀ a, a < 10 → (nS ((a : Nat) : Int)).cps.toList = [48 + a] := by decide +kernel
theorem two_signs : ∀ a, a < 10 → ∀ b, b < 10 → 1 ≤ a → (nS ((10 * a + b : Nat) : Int)).cps.toList = [48 + a, 48 + b] := by decide +kernel
theorem cnt_nS : ∀ n, n < 66 → cnt (nS ((n : Nat) : Int)) = some ((n : Nat) : Int) := by decide +kernel
theorem num_val {z : Str} (hl : z.length ≤ 4000) (h : (decide (1 ≤ z.length) && z.cps.toList.all digC && canon z.cps.toList) = true) : nv z = ((NumText.digitsVal z.cps.toList : Nat) : Int) := by
  simp only [Bool.and_eq_true, decide_eq_true_eq] at h
  have hs := strLen z
  have ne : z.cps.toList ≠ [] := fun e => by rw [e] at hs; simp at hs; omega
  unfold nv
  rw [intText_digits (fun c hc => by
    have := List.all_eq_true.mp h.1.2 c hc
    simpa [digC] using this) ne (by omega)]
  rfl
theorem num_nn {z : Str} {i : Int} (hl : z.length ≤ 4000) (h : num z = some i) : 0 ≤ i := by
  unfold num at h
  split at h
  · rename_i hc
    rw [num_val hl hc] at h
    cases h
    omega
  · cases h
theorem num_small {z : Str} {i : Int} (hl : z.length ≤ 4000) (h : num z = some i) (h64 : i ≤ 64) : 0 ≤ i ∧ z = nS i ∧ cnt z = some i := by
  have h0 := num_nn hl h
  obtain ⟨n, rfl⟩ := nat_of h0
  have key : z = nS (n : Int) := by
    unfold num at h
    split at h
    · rename_i hc
      rw [num_val hl hc] at h
      have hv : NumText.digitsVal z.cps.toList = n := by
        have := Option.some.inj h
        omega
      simp only [Bool.and_eq_true, decide_eq_true_eq] at hc
      have hs := strLen z
      refine TL.ext_tl ?_
      show z.cps.toList = (nS (n : Int)).cps.toList
      cases e : z.cps.toList with
      | nil => rw [e] at hs; simp at hs; omega
      | cons c l =>
        rw [e] at hc hv
        have hd := List.all_eq_true.mp hc.1.2
        have dc := hd c (List.mem_cons_self ..)
        simp only [digC, Bool.and_eq_true, decide_eq_true_eq] at dc
        unfold NumText.digitsVal at hv
        rw [List.foldl_cons] at hv
        cases l with
        | nil =>
          simp only [List.foldl_nil] at hv
          have := one_sign (c - 48) (by omega)
          rw [show n = c - 48 by omega, this]
          rw [show 48 + (c - 48) = c by omega]
        | cons d l =>
          have hcn := hc.2
          unfold canon at hcn
          simp at hcn
          have lo := fold_low (d :: l) (0 * 10 + (c - 48))
          rw [hv] at lo
          have dd := hd d (List.mem_cons_of_mem _ (List.mem_cons_self ..))
          simp only [digC, Bool.and_eq_true, decide_eq_true_eq] at dd
          cases l with
          | nil =>
            simp only [List.foldl_cons, List.foldl_nil] at hv
            have := two_signs (c - 48) (by omega) (d - 48) (by omega) (by omega)
            rw [show n = 10 * (c - 48) + (d - 48) by omega, this]
            rw [show 48 + (c - 48) = c by omega, show 48 + (d - 48) = d by omega]
          | cons e2 l =>
            exfalso
            have p : 100 ≤ 10 ^ (d :: e2 :: l).length := by
              simp only [List.length_cons]
              calc 100 = 10 ^ 2 := rfl
                _ ≤ 10 ^ (l.length + 1 + 1) := Nat.pow_le_pow_right (by omega) (by omega)
            have : 1 * 100 ≤ (0 * 10 + (c - 48)) * 10 ^ (d :: e2 :: l).length := Nat.mul_le_mul (by omega) p
            omega
    · cases h
  exact ⟨h0, key, by rw [key]; exact cnt_nS n (by omega)⟩
end K03
namespace DL
open PySem PySem.Spec PyProof.Rows L2
section
variable {K : PySem.W.Frag} {R : WX} {e : Ev} {ms : Ms} {O : Out} {g : TG} {t : TS} {ta : TE}
/-- a walk over a list that may change, but stays as it is throughout -/
theorem ds_forC {vs : List Nat} (h : DE K R ta e ms (fun x m => ∃ k xs, x = .cell k ∧ ∃ J : Nat → Ev → Ms → Prop, J 0 e m ∧ (∀ i e' m', i ≤ xs.length → J i e' m' → m'[k]? = some (.lst xs)) ∧
      (∀ i e' m', i < xs.length → J i e' m' → DG K g (itL xs i) e' m' vs (fun e2 m2 => DS K R t e2 m2 { O with nx := J (i + 1), ct := J (i + 1), bk := O.nx })) ∧ ∀ e' m', J xs.length e' m' → O.nx e' m') (O.xp e)) : DS K R (tFor (iList K ta) g t) e ms O := fun W G σ H D gd s f => by
  refine h W G σ H _ gd s (fun W1 v d H1 m1 l1 g1 r1 ⟨k, xs, hx, Jv, j0, still, step, fin⟩ => ?_) (f.ex.at s)
  subst hx
  have at_ : ∀ {W2 : Wd} {H' : Hp} {m2 : Ms} {a : Addr}, Le W1 W2 → Good K W2 G H' m2 → Rep K W1 (.ref a) (.cell k) → m2[k]? = some (.lst xs) → ∃ ws, SqL K H' a ws ∧ RepL K W2 ws xs := fun {W2 H' m2 a} l2 g2 r e2 => by
    have r2 := Rep.mono l2 _ _ r
    cases r2 with
    | cell e1 =>
      obtain ⟨ws, h1, h2⟩ := (show MoOk K W2 H' _ (.lst xs) from g2.cl _ _ _ e1 e2)
      exact ⟨ws, SqL.of h1, h2⟩
  obtain ⟨a, rfl⟩ : ∃ a, v = .ref a := by cases r1; exact ⟨_, rfl⟩
  obtain ⟨ws0, q0, _⟩ := at_ (Le.refl _) g1 r1 (still 0 e m1 (Nat.zero_le _) j0)
  refine ⟨a, rfl, ⟨ws0, q0⟩, ?_⟩
  refine ⟨fun i m σ' H' => m = xs.length - i ∧ i ≤ xs.length ∧ ∃ W2 e2 m2, Le W1 W2 ∧ Good K W2 G H' m2 ∧ Slots K W2 σ' e2 ∧ Jv i e2 m2, ⟨xs.length, rfl, Nat.zero_le _, W1, e, m1, Le.refl _, g1, s.mono l1, j0⟩, ?_⟩
  rintro i m σ' H' ⟨rfl, hi, W2, e2, m2, l2, g2, s2, j2⟩
  obtain ⟨ws, hq, hr⟩ := at_ l2 g2 r1 (still i e2 m2 hi j2)
  have hwl := hr.length
  by_cases hlt : i < xs.length
  · have hiw : i < ws.length := by rw [hwl]; exact hlt
    refine .inr ⟨⟨ws, ws[i], hq, List.getElem?_eq_getElem hiw⟩, fun σ'' H'' => i + 1 ≤ xs.length ∧ ∃ W3 e3 m3, Le W1 W3 ∧ Good K W3 G H'' m3 ∧ Slots K W3 σ'' e3 ∧ Jv (i + 1) e3 m3, fun σ'' H'' hh => ⟨xs.length - (i + 1), by omega, rfl, hh⟩, fun x H3 hy => ?_⟩
    obtain ⟨y1, y2⟩ := hy
    subst y1
    obtain ⟨d, hd, rd⟩ := hr.get i (y2 ws hq)
    rw [← itL_get hd] at rd
    refine step i e2 m2 hlt j2 W2 G σ' _ x _ g2 s2 rd fun W4 σ4 e4 H4 m4 l4 g4 s4 _ p4 => ?_
    have lw : Le W1 W4 := l2.trans l4
    have nxt : NxC K W4 G (Jv (i + 1)) (fun σ'' H'' => i + 1 ≤ xs.length ∧ ∃ W3 e3 m3, Le W1 W3 ∧ Good K W3 G H'' m3 ∧ Slots K W3 σ'' e3 ∧ Jv (i + 1) e3 m3) := fun W5 σ5 e5 H5 m5 l5 g5 s5 q => ⟨hlt, W5, e5, m5, lw.trans l5, g5, s5, q⟩
    have f4 := f.le (l1.trans lw)
    exact p4 W4 G σ4 H4 _ g4 s4 ⟨nxt, f4.rt, f4.nx, nxt, f4.ex⟩
  · have e' : i = xs.length := by omega
    subst e'
    exact .inl ⟨⟨ws, hq, by rw [hwl]; exact Nat.le_refl _⟩, f.nx W2 σ' e2 H' m2 (l1.trans l2) g2 s2 (fin e2 m2 j2)⟩
end
end DL
namespace K03
open PySem PySem.Spec PyProof.Rows L2 DL
/-! ### lots that are thrown together -/
structure LotOk (n : Nat) (rs : List Pr) (lot : List Int) : Prop where
  len : lot.length = n
  eq : ∀ (u v : Nat) a b, lot[u]? = some a → lot[v]? = some b → (a = b ↔ Reach rs u v)
theorem reach_nil {a b : Int} (h : Reach [] a b) : a = b := by
  induction h with
  | refl => rfl
  | step _ e ih => rcases e with e | e <;> cases e
theorem rgI_at {n u : Nat} {a : Int} (h : (rgI n)[u]? = some a) : a = u ∧ u < n := by
  unfold rgI at h
  rw [List.getElem?_map] at h
  by_cases hu : u < n
  · rw [List.getElem?_range hu] at h
    exact ⟨(Option.some.inj h).symm, hu⟩
  · rw [List.getElem?_eq_none (by rw [List.length_range]; omega)] at h
    cases h
theorem lot_nil (n : Nat) : LotOk n [] (rgI n) := ⟨by simp [rgI], fun u v a b h1 h2 => by
  obtain ⟨rfl, _⟩ := rgI_at h1
  obtain ⟨rfl, _⟩ := rgI_at h2
  exact ⟨fun e => by rw [e]; exact .refl, reach_nil⟩⟩
theorem reach_more {rs : List Pr} {p : Pr} {a b : Int} (h : Reach rs a b) : Reach (rs ++ [p]) a b := by
  induction h with
  | refl => exact .refl
  | step _ e ih => exact .step ih (e.elim (fun z => .inl (List.mem_append_left _ z)) fun z => .inr (List.mem_append_left _ z))
def mrg (old now x : Int) : Int := if x = old then now else x
theorem lot_step {n u v : Nat} {rs : List Pr} {lot : List Int} {old now : Int} (h : LotOk n rs lot) (hin : InR n rs) (hu : lot[u]? = some old) (hv : lot[v]? = some now) : LotOk n (rs ++ [((u : Int), (v : Int))]) (lot.map (mrg old now)) := by
  have edge : Reach (rs ++ [((u : Int), (v : Int))]) u v := .step .refl (.inl (List.mem_append_right _ (List.mem_singleton.mpr rfl)))
  have hul : u < n := by rw [← h.len]; exact (List.getElem?_eq_some_iff.mp hu).1
  have hvl : v < n := by rw [← h.len]; exact (List.getElem?_eq_some_iff.mp hv).1
  have inR : InR n (rs ++ [((u : Int), (v : Int))]) := fun p hp => by
    rcases List.mem_append.mp hp with z | z
    · exact hin p z
    · rw [List.mem_singleton.mp z]; simp; omega
  -- the label of a house
  have lab : ∀ x : Nat, x < n → ∃ a, lot[x]? = some a := fun x hx => ⟨_, List.getElem?_eq_getElem (by rw [h.len]; exact hx)⟩
  have resp : ∀ x y : Int, Reach (rs ++ [((u : Int), (v : Int))]) x y → 0 ≤ x → x < n → ∀ a b, lot[x.toNat]? = some a → lot[y.toNat]? = some b → mrg old now a = mrg old now b := by
    intro x y hr x0 x1
    have key : 0 ≤ y ∧ y < n ∧ ∀ a b, lot[x.toNat]? = some a → lot[y.toNat]? = some b → mrg old now a = mrg old now b := by
      induction hr with
      | refl => exact ⟨x0, x1, fun a b h1 h2 => by rw [h1] at h2; cases h2; rfl⟩
      | @step y z _ e ih =>
        obtain ⟨y0, y1, ih⟩ := ih
        have hz := adj_in inR e
        refine ⟨hz.1, hz.2, fun a c h1 h3 => ?_⟩
        obtain ⟨b, h2⟩ := lab y.toNat (by omega)
        refine (ih a b h1 h2).trans ?_
        have old_ : ∀ p q : Int, (p, q) ∈ rs → ∀ b c, lot[p.toNat]? = some b → lot[q.toNat]? = some c → b = c := fun p q hpq b c hb hc => by
          obtain ⟨p0, p1, q0, q1⟩ := hin _ hpq
          refine (h.eq _ _ b c hb hc).mpr ?_
          have e1 : ((p.toNat : Nat) : Int) = p := by simp at p0; omega
          have e2 : ((q.toNat : Nat) : Int) = q := by simp at q0; omega
          rw [e1, e2]
          exact .step .refl (.inl hpq)
        have hn : ∀ w, w = old ∨ w = now → mrg old now w = now := fun w hw => by unfold mrg; split <;> omega
        rcases e with e | e
        · rcases List.mem_append.mp e with m | m
          · rw [old_ y z m b c h2 h3]
          · have := List.mem_singleton.mp m
            cases this
            rw [Int.toNat_natCast] at h2 h3
            rw [hu] at h2; rw [hv] at h3
            cases h2; cases h3
            rw [hn _ (.inl rfl), hn _ (.inr rfl)]
        · rcases List.mem_append.mp e with m | m
          · rw [old_ z y m c b h3 h2]
          · have := List.mem_singleton.mp m
            cases this
            rw [Int.toNat_natCast] at h2 h3
            rw [hv] at h2; rw [hu] at h3
            cases h2; cases h3
            rw [hn _ (.inl rfl), hn _ (.inr rfl)]
    exact key.2.2
  refine ⟨by rw [List.length_map]; exact h.len, fun x y a b hx hy => ?_⟩
  rw [List.getElem?_map] at hx hy
  cases ex : lot[x]? with
  | none => rw [ex] at hx; cases hx
  | some a0 =>
    cases ey : lot[y]? with
    | none => rw [ey] at hy; cases hy
    | some b0 =>
      rw [ex] at hx; rw [ey] at hy
      cases hx; cases hy
      have hxl : x < n := by rw [← h.len]; exact (List.getElem?_eq_some_iff.mp ex).1
      constructor
      · intro e
        have toU : ∀ (x : Nat) a0, lot[x]? = some a0 → mrg old now a0 = now → Reach (rs ++ [((u : Int), (v : Int))]) x v := fun x a0 ex e => by
          unfold mrg at e
          split at e
          · rename_i z
            exact (reach_more ((h.eq x u a0 old ex hu).mp z)).trans edge
          · exact reach_more ((h.eq x v a0 now ex hv).mp e)
        by_cases c1 : a0 = old
        · have ea : mrg old now a0 = now := by unfold mrg; rw [if_pos c1]
          exact (toU x a0 ex ea).trans (toU y b0 ey (e.symm.trans ea)).symm
        · by_cases c2 : b0 = old
          · have eb : mrg old now b0 = now := by unfold mrg; rw [if_pos c2]
            exact (toU x a0 ex (e.trans eb)).trans (toU y b0 ey eb).symm
          · unfold mrg at e
            rw [if_neg c1, if_neg c2] at e
            exact reach_more ((h.eq x y a0 b0 ex ey).mp e)
      · intro hr
        exact resp x y hr (Int.natCast_nonneg x) (by omega) a0 b0 (by rw [Int.toNat_natCast]; exact ex) (by rw [Int.toNat_natCast]; exact ey)
theorem lot_conn {n : Nat} {rs : List Pr} {lot : List Int} {c : Int} (h : LotOk n rs lot) (hn : 1 ≤ n) (h0 : lot[0]? = some c) : (lot.all fun x => decide (x = c)) = true ↔ Conn n rs := by
  rw [List.all_eq_true]
  constructor
  · intro ha v v0 v1
    obtain ⟨k, rfl⟩ := nat_of v0
    have hk : k < lot.length := by rw [h.len]; omega
    have := ha _ (List.getElem_mem hk)
    simp only [decide_eq_true_eq] at this
    exact (h.eq 0 k c _ h0 (List.getElem?_eq_getElem hk)).mp this.symm
  · intro hc x hx
    obtain ⟨k, hk, rfl⟩ := List.getElem_of_mem hx
    have := hc k (by omega) (by rw [h.len] at hk; omega)
    simp only [decide_eq_true_eq]
    exact ((h.eq 0 k c _ h0 (List.getElem?_eq_getElem hk)).mpr this).symm
end K03
namespace K03
open PySem PySem.Spec PyProof.Rows L2 DL
local macro_rules | `(tactic| walk_at "hyp") => `(tactic| (first
  | (simp only [Bool.not_eq_true', Bool.not_eq_false', decide_eq_true_eq, decide_eq_false_iff_not, Bool.or_eq_true, Bool.and_eq_true, Bool.or_eq_false_iff, Bool.not_true, Bool.not_false, Bool.and_eq_false_iff] at *)
  | skip))
local macro_rules | `(tactic| walk_at "d1") => `(tactic| first
  | with_reducible refine ds_seq ?_
  | with_reducible refine ds_if ?_
  | with_reducible refine ds_ret ?_
  | with_reducible refine ds_set ?_
  | with_reducible refine ds_drop ?_
  | with_reducible refine ds_par ?_
  | with_reducible refine ds_par3 ?_
  | with_reducible refine ds_next ?_
  | with_reducible refine de_var rfl ?_
  | with_reducible refine de_int ?_
  | with_reducible refine de_str ?_
  | with_reducible refine de_bl ?_
  | with_reducible refine de_non ?_
  | with_reducible refine de_ty ?_
  | with_reducible refine de_ref ?_
  | with_reducible refine de_op ?_
  | with_reducible refine de_chain ?_
  | with_reducible refine de_un ?_
  | with_reducible refine de_dnew ?_
  | with_reducible refine de_disp1 ?_
  | with_reducible refine de_cb ?_
  | with_reducible refine de_bm ?_
  | with_reducible refine de_sl ?_
  | with_reducible refine de_tup ?_
  | with_reducible refine de_lst ?_
  | with_reducible refine de_fstr ?_
  | with_reducible refine de_fmtS ?_
  | with_reducible refine dj_cons ?_
  | with_reducible refine dj_nil ?_
  | with_reducible refine do_none ?_
  | with_reducible refine do_some ?_
  | with_reducible refine de_g0 (dds := []) (fun _ => .nil) ?_
  | with_reducible refine de_g (dds := []) (fun _ => .nil) ?_
  | with_reducible refine de_lc ?_
  | with_reducible refine di_str ?_
  | with_reducible refine di_tup ?_
  | with_reducible refine de_notV ?_
  | with_reducible refine de_andV ?_
  | with_reducible refine de_orV ?_
  | with_reducible refine de_if ?_
  | with_reducible refine dt_test ?_
  | with_reducible refine dt_B ?_
  | with_reducible refine dt_and ?_
  | with_reducible refine dt_or ?_
  | with_reducible refine dt_not ?_
  | with_reducible refine dt_yes ?_
  | with_reducible refine da_cons ?_
  | with_reducible refine da_nil ?_
  | with_reducible refine d2_leI ?_
  | with_reducible refine d2_ltI ?_
  | with_reducible refine d2_geI ?_
  | with_reducible refine d2_gtI ?_
  | with_reducible refine d2_addI ?_
  | with_reducible refine d2_sub ?_
  | ((with_reducible refine' d2_leS1 (sign1_cps _) ?hs1 ?_); (case hs1 => first | exact sg_a | exact sg_z | exact sg_sp | exact sg_ti))
  | ((with_reducible refine' d2_leS1 ?hs1 (sign1_cps _) ?_); (case hs1 => first | exact sg_a | exact sg_z | exact sg_sp | exact sg_ti))
  | with_reducible refine dr_int ?_
  | with_reducible refine dr_abs ?_
  | with_reducible refine dg_sub ?_
  | ((with_reducible refine' d2_ix ?hsq ?hix ?_); (case hsq => assumption); (case hix => rfl))
  | ((with_reducible refine' d2_mod ?hmod ?_); (case hmod => first | decide | omega))
  | ((with_reducible refine' d2_mul ?hmul ?_); (case hmul => exact mul_ok (by omega) (by omega)))
  | ((with_reducible refine' d2_div ?hdiv ?_); (case hdiv => exact div_ok (by first | decide | omega) (by omega)))
  | ((with_reducible refine' d2_pow ?hpow ?_); (case hpow => exact pow_ok (by decide) (by decide) (by omega)))
  | with_reducible refine d2_notI ?_
  | with_reducible refine d2_notSt ?_
  | with_reducible refine d2_notNn ?_
  | with_reducible refine d2_notT ?_
  | with_reducible refine d2_isI ?_
  | with_reducible refine d2_isNn ?_
  | with_reducible refine d2_isT ?_
  | with_reducible refine d2_neI ?_
  | with_reducible refine d2_eqI ?_
  | with_reducible refine d2_eqS ?_
  | with_reducible refine d2_neS ?_
  | with_reducible refine dr_isiK (by assumption) (by decide) (by first | assumption | exact isTyD_str _ | exact isTyD_tup _ | rfl) ?_
  | with_reducible refine dr_lenT ?_
  | with_reducible refine dr_lenL ?_
  | with_reducible refine dr_lenR ?_
  | with_reducible refine dr_lenC (by assumption) ?_
  | with_reducible refine ds_to ?_
  | with_reducible refine dg_name (by decide) ?_
  | with_reducible refine dg_tup2 ?_
  | with_reducible refine dg_tup3 ?_
  | with_reducible refine dg_tup4 ?_
  | with_reducible refine dgs_cons ?_
  | with_reducible refine dgs_nil ?_
  | with_reducible refine dr_lenS (by omega) ?_
  | with_reducible refine ⟨⟨by simp only [List.length_cons, List.length_nil], by simp only [List.length_cons, List.length_nil]; omega⟩, ?_⟩
  | with_reducible refine ⟨_, rfl, ?_⟩
  | with_reducible refine ⟨_, _, rfl, ?_⟩
  | with_reducible refine ⟨tyD_str, ?_⟩
  | with_reducible refine ⟨by omega, ?_⟩
  | with_reducible refine ⟨by (simp only [PySem.Str.length_append, len_empty, len_sp, List.length_cons, List.length_nil, List.length_append]; omega), ?_⟩
  | with_reducible refine bothT ?_
  | with_reducible refine bothF ?_
  | with_reducible refine bothNT ?_
  | with_reducible refine bothNF ?_
  | (with_reducible refine both (fun hc => ?_) (fun hc => ?_) <;> (try simp only [Bool.not_eq_true', Bool.not_eq_false', decide_eq_true_eq, decide_eq_false_iff_not] at hc) <;> (try (exfalso; omega)) <;> (try exact absurd rfl hc) <;> (try exact absurd trivial hc)))

local macro_rules | `(tactic| walk_at "sm") => `(tactic| first
  | with_reducible refine di_lst ?_
  | with_reducible refine as_lst ?_
  | ((with_reducible refine' d2_addSm ?hs1 ?hs2 ?hs3 (fun hs => ?_)); (case hs1 => assumption); (case hs2 => assumption); (case hs3 => omega))
  | ((with_reducible refine' d2_addL ?hal ?_); (case hal => (simp; try omega)))
  | with_reducible refine d1_neg ?_)

abbrev s__law_written : Stmt := (topS 28)
theorem sc__law_written : FnScope ["houses", "roads", "u", "v"] ["houses", "roads"] (defScope s__law_written) := ⟨rfl, rfl, rfl, by decide +kernel, rfl, by decide +kernel, by decide +kernel⟩
abbrev s__law_number : Stmt := (topS 29)
theorem sc__law_number : FnScope ["word", "sign"] ["word"] (defScope s__law_number) := ⟨rfl, rfl, rfl, by decide +kernel, rfl, by decide +kernel, by decide +kernel⟩
abbrev s__law_joined : Stmt := (topS 30)
theorem sc__law_joined : FnScope ["houses", "roads", "lot", "u", "v", "old", "now", "one"] ["houses", "roads"] (defScope s__law_joined) := ⟨rfl, rfl, rfl, by decide +kernel, rfl, by decide +kernel, by decide +kernel⟩
abbrev s__law_read : Stmt := (topS 31)
theorem sc__law_read : FnScope ["text", "words", "houses", "roads", "word", "parts", "part"] ["text"] (defScope s__law_read) := ⟨rfl, rfl, rfl, by decide +kernel, rfl, by decide +kernel, by decide +kernel⟩
section
variable {P : Program} {w : World} {K : PySem.W.Frag} {mg : Str → Option Value} {base : Heap}
theorem d2_neNilS {ms : Ms} {Q : Dat → Ms → Prop} {xs : List Dat} {cs : List Str} (e : xs = cs.map Dat.str) (h : ∀ z ∈ cs, ∀ c ∈ z.cps.toList, c < 128) (q : Q (.bl (!cs.isEmpty)) ms) : D2 K (rNeA K) (.lst xs) (.lst []) ms Q := by
  subst e
  refine d2_neD (.lst (pydl_str cs)) (.lst .nil) (shaped_strs h) (by decide +kernel) ?_
  rw [eqv_nil, show (cs.map PyData.str).isEmpty = cs.isEmpty by cases cs <;> rfl]
  exact q
theorem map_signs (l : List Nat) : (l.map fun c => Dat.str (sign1 c)) = (l.map sign1).map Dat.str := by rw [List.map_map]; rfl
theorem signs_low {l : List Nat} (h : ∀ c ∈ l, c < 128) : ∀ z ∈ l.map sign1, ∀ c ∈ z.cps.toList, c < 128 := fun z hz c hc => by
  obtain ⟨d, hd, rfl⟩ := List.mem_map.mp hz
  rw [sign1_cps] at hc
  rw [List.mem_singleton.mp hc]
  exact h d hd
theorem filt_all (l : List Nat) (p : Nat → Bool) : (l.filter fun c => !p c).isEmpty = l.all p := by
  induction l with
  | nil => rfl
  | cons c l ih =>
    cases h : p c with
    | true => rw [List.filter_cons_of_neg (by simp [h]), List.all_cons, h, ih]; rfl
    | false => rw [List.filter_cons_of_pos (by simp [h]), List.all_cons, h]; rfl
def pm_number (K : PySem.W.Frag) : Pm := fun ds ms P X => ∃ z, ds = [.str z] ∧ Sm 600 z ∧ P (oiD (num z)) ms
theorem ok_law_number {f : Addr} {fd : FuncData}   (F : Fun K "_law_number" "_law_number" s__law_number f fd) (T : Txt K mg) :
    FnG P w K mg base (L2N.CX P w) 1 f fd ["word"] (spD K (pm_number K)) := by
  refine fn_dl F sc__law_number (fun ds ms Pd X h => by obtain ⟨_, rfl, _⟩ := h; rfl) (fun cdv Ar outer s H E hr hq => ?_)
  have tk := (L2N.takes_of (X := cxOf (L2N.CX P w) P w K mg base ["word", "sign"] "_law_number" (defScope s__law_number) f cdv Ar outer s H E) (E := E) rfl rfl rfl rfl)
  refine ⟨_, (pss_cons (ps_if (PW.pt (pw_or (pt_cmpR (opK (K := K) (r := rEqA) rfl (op_eqA hr.units)) (pv 0) pe_str (nomark _)) (pw_or1 (pt_cmpR (opK (K := K) (r := rNeA) rfl (op_neA hr.units)) (pe_lc (own := [("sign", 1)]) rfl sc__law_number.nd (pi_str (pv 0)) (blkOk_by (own := [("sign", 1)]) (N := ["word", "sign"]) (sc := defScope s__law_number) (by decide +kernel)) (fun _ _ _ _ _ => (pg_name (i := 1) sc__law_number.nd rfl (by first | exact Or.inl rfl | exact Or.inr rfl))) (fun _ _ _ _ _ => pts_one (pt_not (pt_chain op_leA op_leA pe_int (pe_callB call_ord (by rfl) T.b_ord bt_ord (pa_cons (pv 1) pa_nil)) pe_int))) (fun _ _ _ _ _ => (pv 1))) (pe_lst pa_nil) (nomark _))))) (pss_one (ps_ret pe_non)) pss_nil) (pss_cons (ps_if (PW.pt (pw_and (pt_cmpR (opK (K := K) (r := rEqA) rfl (op_eqA hr.units)) (pe_ix (ixK (K := K) (r := rIx) rfl ix_seq) (pv 0) pe_int (fun _ _ => rfl)) pe_str (nomark _)) (pw_and1 (pt_cmpR (opK (K := K) (r := rNeA) rfl (op_neA hr.units)) (pv 0) pe_str (nomark _))))) (pss_one (ps_ret pe_non)) pss_nil) (pss_one (ps_ret (pe_callTy call_intA (by rfl) T.b_int bt_int (pa_cons (pv 0) pa_nil)))))), ?_⟩
  try simp only [cxK]
  rintro _ ms Pd Xd ⟨z, rfl, hz, q⟩ bl mb
  have hl := strLen z
  have hn := hz.len
  have eq : ∀ b : Bool, (decide (1 ≤ z.length) && z.cps.toList.all digC && canon z.cps.toList) = b → Pd (oiD (if b = true then some (nv z) else none)) ms := fun b e => by
    unfold num at q
    rw [e] at q
    exact q
  repeat' walk_at "d1"
  · rename_i h
    have : z.length = 0 := by rw [h]; rfl
    exact .inl (eq false (by simp [this]))
  · rename_i h
    have hpos : 1 ≤ z.length := by
      refine Nat.pos_of_ne_zero fun e => h ?_
      exact TL.ext_tl (by
        show z.cps.toList = _
        have e2 : z.cps.toList = [] := List.eq_nil_of_length_eq_zero (by rw [← hl]; exact e)
        rw [e2]
        decide +kernel)
    refine lcw_str (by omega) (fun c => !digC c) (fun c => .str (sign1 c)) (fun c hc => dg_name (by decide) ?_) ?_
    · repeat' walk_at "d1"
      refine dr_ord ?_
      repeat' walk_at "d1"
      · rename_i h1
        exact ⟨by unfold digC; rw [Bool.eq_iff_iff]; simp; omega, rfl, fun _ => de_var rfl ⟨rfl, rfl⟩⟩
      · rename_i h1
        exact ⟨by unfold digC; rw [Bool.eq_iff_iff]; simp; omega, rfl, fun _ => de_var rfl ⟨rfl, rfl⟩⟩
    · repeat' walk_at "d1"
      rw [map_signs]
      refine d2_neNilS rfl (signs_low fun c hc => hz.sig c (List.mem_filter.mp hc).1) ?_
      rw [List.isEmpty_map, filt_all]
      cases hd : z.cps.toList.all digC with
      | false =>
        repeat' walk_at "d1"
        exact .inl (eq false (by simp [hd]))
      | true =>
        have ne : z.cps.toList ≠ [] := fun e => by rw [e] at hl; simp at hl; omega
        have hi : PySem.intText? z = some ((NumText.digitsVal z.cps.toList : Nat) : Int) := intText_digits (fun c hc => by
          have := List.all_eq_true.mp hd c hc
          simpa [digC] using this) ne (by omega)
        obtain ⟨c, l, ec⟩ : ∃ c l, z.cps.toList = c :: l := by
          cases e : z.cps.toList with
          | nil => exact absurd e ne
          | cons c l => exact ⟨c, l, rfl⟩
        have h0 : atI z.cps.toList 0 = some c := by rw [ec]; exact atI_zero c l
        have ck := canon_is ec
        have vq : canon z.cps.toList = true → Pd (.int ((NumText.digitsVal z.cps.toList : Nat) : Int)) ms := fun e => by
          have := eq true (by simp [hd, e]; omega)
          unfold nv at this
          rw [hi] at this
          exact this
        repeat' walk_at "d1"
        refine d2_ixS (by omega) h0 ?_
        repeat' walk_at "d1"
        · rename_i h1 h2
          exact .inl (eq false (by rw [hd, ck, decide_eq_true h1, decide_eq_false h2]; simp))
        · rename_i h1 h2
          exact dr_intS hi (by omega) (.inl (vq (by rw [ck, decide_eq_true h2]; rfl)))
        · rename_i h1
          exact dr_intS hi (by omega) (.inl (vq (by rw [ck, decide_eq_false h1]; simp)))
/-! ### lines as the law writes them -/
def wroadS (p : Pr) : Str := Str.ofString " " ++ nS p.1 ++ Str.ofString "-" ++ nS p.2
def writS (n : Int) (rs : List Pr) : Str := nS n ++ Str.ofString ":" ++ Txt.join "" (rs.map wroadS)
/-- houses' numbers that stand in written roads -/
def In65 (rs : List Pr) : Prop := ∀ p ∈ rs, 0 ≤ p.1 ∧ p.1 ≤ 65 ∧ 0 ≤ p.2 ∧ p.2 ≤ 65
theorem nS_sm : ∀ n, n < 66 → ((decide ((nS ((n : Nat) : Int)).length ≤ 2) && (nS ((n : Nat) : Int)).cps.toList.all fun c => decide (c < 128)) = true) := by decide +kernel
theorem sm_nS {i : Int} (h0 : 0 ≤ i) (h : i ≤ 65) : Sm 2 (nS i) := by
  obtain ⟨n, rfl⟩ := nat_of h0
  exact Sm.lit (nS_sm n (by omega))
theorem sm_wroad {p : Pr} (h : 0 ≤ p.1 ∧ p.1 ≤ 65 ∧ 0 ≤ p.2 ∧ p.2 ≤ 65) : Sm 6 (wroadS p) :=
  (((Sm.lit (n := 1) (z := Str.ofString " ") (by decide +kernel)).app (sm_nS h.1 h.2.1)).app (Sm.lit (n := 1) (z := Str.ofString "-") (by decide +kernel))).app (sm_nS h.2.2.1 h.2.2.2)
theorem sum_le {l : List Str} {n : Nat} (h : ∀ z ∈ l, z.length ≤ n) : (l.map (·.length)).sum ≤ n * l.length := by
  induction l with
  | nil => simp
  | cons a l ih =>
    have h1 := h a (List.mem_cons_self ..)
    have h2 := ih fun z hz => h z (List.mem_cons_of_mem _ hz)
    simp only [List.map_cons, List.sum_cons, List.length_cons, Nat.mul_add, Nat.mul_one]
    omega
def pm_written (K : PySem.W.Frag) : Pm := fun ds ms P X => ∃ (n : Int) (rs : List Pr), ds = [.int n, .lst (rs.map dpPr)] ∧ 0 ≤ n ∧ n ≤ 65 ∧ rs.length ≤ 64 ∧ In65 rs ∧ (Sm 400 (writS n rs) → P (.str (writS n rs)) ms)
theorem sm_join {l : List Str} {n : Nat} (h : ∀ z ∈ l, Sm n z) : Sm (n * l.length) (Txt.join "" l) := by
  have e := join_cps (y := "") (by decide +kernel) l
  refine ⟨?_, fun c hc => ?_⟩
  · rw [strLen, e, List.length_flatten, List.map_map]
    clear e
    induction l with
    | nil => simp
    | cons a l ih =>
      have h1 := (h a (List.mem_cons_self ..)).len
      have h2 := ih fun z hz => h z (List.mem_cons_of_mem _ hz)
      rw [strLen] at h1
      simp only [List.map_cons, List.sum_cons, List.length_cons, Function.comp_apply, Nat.mul_add, Nat.mul_one]
      omega
  · rw [e] at hc
    obtain ⟨cs, h1, h2⟩ := List.mem_flatten.mp hc
    obtain ⟨z, hz, rfl⟩ := List.mem_map.mp h1
    exact (h z hz).sig c h2
theorem ok_law_written {f : Addr} {fd : FuncData}   (F : Fun K "_law_written" "_law_written" s__law_written f fd) (T : Txt K mg) :
    FnG P w K mg base (L2N.CX P w) 1 f fd ["houses", "roads"] (spD K (pm_written K)) := by
  refine fn_dl F sc__law_written (fun ds ms Pd X h => by obtain ⟨_, _, rfl, _⟩ := h; rfl) (fun cdv Ar outer s H E hr hq => ?_)
  have tk := (L2N.takes_of (X := cxOf (L2N.CX P w) P w K mg base ["houses", "roads", "u", "v"] "_law_written" (defScope s__law_written) f cdv Ar outer s H E) (E := E) rfl rfl rfl rfl)
  refine ⟨_, (pss_one (ps_ret (pe_op op_addA (pe_op op_addA (pe_callTy call_str_int (by rfl) T.b_str bt_str (pa_cons (pv 0) pa_nil)) pe_str) (pe_bmK (K := K) rfl PySem.F.plainAttrs_str PySem.F.slot_str_join PySem.F.type_str_join mt_join pe_str (pa_cons (pe_lc (own := [("u", 2), ("v", 3)]) rfl sc__law_written.nd (pi_list (pv 1)) (blkOk_by (own := [("u", 2), ("v", 3)]) (N := ["houses", "roads", "u", "v"]) (sc := defScope s__law_written) (by decide +kernel)) (fun _ _ _ _ _ => (pg_tupK (K := K) (n := 2) rfl rfl (pgs_cons (pg_name (i := 2) sc__law_written.nd rfl (by first | exact Or.inl rfl | exact Or.inr rfl)) (pgs_cons (pg_name (i := 3) sc__law_written.nd rfl (by first | exact Or.inl rfl | exact Or.inr rfl)) pgs_nil)))) (fun _ _ _ _ _ => pts_nil) (fun _ _ _ _ _ => (pe_op op_addA (pe_op op_addA (pe_op op_addA pe_str (pe_callTy call_str_int (by rfl) T.b_str bt_str (pa_cons (pv 2) pa_nil))) pe_str) (pe_callTy call_str_int (by rfl) T.b_str bt_str (pa_cons (pv 3) pa_nil))))) pa_nil))))), ?_⟩
  try simp only [cxK]
  rintro _ ms Pd Xd ⟨n, rs, rfl, h0, h1, hl, hin, q⟩ bl mb
  have hj : ∀ z ∈ rs.map wroadS, Sm 6 z := fun z hz => by
    obtain ⟨p, hp, rfl⟩ := List.mem_map.mp hz
    exact sm_wroad (hin p hp)
  have hs : Sm 400 (writS n rs) := by
    refine (((sm_nS h0 h1).app (Sm.lit (n := 1) (z := Str.ofString ":") (by decide +kernel))).app (sm_join hj)).mono ?_
    rw [List.length_map]; omega
  have ln := (sm_nS h0 h1).len
  repeat' walk_at "d1"
  refine dr_strI (log_small h0 (by omega)) ?_
  repeat' walk_at "d1"
  refine d2_addS (by show (nS n).length + _ ≤ _; rw [len1.1]; omega) ?_
  repeat' walk_at "d1"
  refine di_lst ?_
  repeat' walk_at "d1"
  refine as_lst ?_
  rw [List.length_map]
  refine lcw_map (by omega) (fun _ => true) (fun i => .str (wroadS (rs.getD i (0, 0)))) (fun i hi => ?_) ?_
  · rw [itD hi]
    have hp := hin _ (List.getElem_mem hi)
    have l1 := (sm_nS hp.1 hp.2.1).len
    have l2 := (sm_nS hp.2.2.1 hp.2.2.2).len
    refine dg_tup2 ?_
    repeat' walk_at "d1"
    refine ⟨rfl, rfl, fun _ => ?_⟩
    repeat' walk_at "d1"
    refine dr_strI (log_small hp.1 (by omega)) ?_
    refine d2_addS (by show _ + (nS rs[i].1).length ≤ _; rw [len1.2.2.2]; omega) ?_
    repeat' walk_at "d1"
    refine d2_addS (by show (Str.ofString " " ++ nS rs[i].1).length + _ ≤ _; rw [Str.length_append, len1.2.2.2, len1.2.1]; omega) ?_
    repeat' walk_at "d1"
    refine dr_strI (log_small hp.2.2.1 (by omega)) ?_
    refine d2_addS (by show (Str.ofString " " ++ nS rs[i].1 ++ Str.ofString "-").length + (nS rs[i].2).length ≤ _; rw [Str.length_append, Str.length_append, len1.2.2.2, len1.2.1]; omega) ⟨?_, rfl⟩
    rw [getD_at hi]; rfl
  · have e : ((List.range rs.length).filter (fun _ => true)).map (fun i => Dat.str (wroadS (rs.getD i (0, 0)))) = (rs.map wroadS).map Dat.str := by
      rw [List.map_map]
      exact lcw_get rs _ _ fun i hi => by rw [getD_at hi]; rfl
    rw [e]
    have hjl := (sm_join hj).len
    rw [List.length_map] at hjl
    have hsum := sum_le fun z hz => (hj z hz).len
    rw [List.length_map] at hsum
    refine da_nil ?_
    refine dr_join (a := "") (ys := rs.map wroadS) ?_ ?_
    · rw [List.length_map]
      have : (Str.ofString "").length = 0 := by decide +kernel
      rw [this]
      omega
    · refine d2_addS (by show (nS n ++ Str.ofString ":").length + _ ≤ _; rw [Str.length_append, len1.1]; omega) (.inl (q hs))
/-! ### own way together -/
def pm_ljoined (K : PySem.W.Frag) : Pm := fun ds ms P X => ∃ (n j : Nat) (rs : List Pr), ds = [.int n, .cell j] ∧ ms[j]? = some (.lst (rs.map dpPr)) ∧ 1 ≤ n ∧ n ≤ 64 ∧ rs.length ≤ 1000 ∧ InR n rs ∧ ∀ b, (b = true ↔ Conn n rs) → P (.bl b) ms
def JL (n j : Nat) (rs : List Pr) (ms : Ms) (i : Nat) (e : Ev) (m : Ms) : Prop := ∃ lot a b c d, LotOk n (rs.take i) lot ∧ e = [some (.int n), some (.cell j), some (.lst (lot.map Dat.int)), a, b, c, d, none] ∧ m = ms
theorem inR_take {n : Nat} {rs : List Pr} (h : InR n rs) (i : Nat) : InR n (rs.take i) := fun p hp => h p (List.mem_of_mem_take hp)
theorem ok_law_joined {f : Addr} {fd : FuncData}   (F : Fun K "_law_joined" "_law_joined" s__law_joined f fd) (T : Txt K mg) :
    FnG P w K mg base (L2N.CX P w) 1 f fd ["houses", "roads"] (spD K (pm_ljoined K)) := by
  refine fn_dl F sc__law_joined (fun ds ms Pd X h => by obtain ⟨_, _, _, rfl, _⟩ := h; rfl) (fun cdv Ar outer s H E hr hq => ?_)
  have tk := (L2N.takes_of (X := cxOf (L2N.CX P w) P w K mg base ["houses", "roads", "lot", "u", "v", "old", "now", "one"] "_law_joined" (defScope s__law_joined) f cdv Ar outer s H E) (E := E) rfl rfl rfl rfl)
  refine ⟨_, (pss_cons (ps_set (i := 2) sc__law_joined.nd rfl (by first | exact Or.inl rfl | exact Or.inr rfl) (pe_listRg rfl rfl T.b_list (prg_1 rfl T.b_range (pv 0)))) (pss_cons (ps_for (by first | exact PassesOwn.never | assumption | exact passes_of rfl) rfl (pi_list (pv 1)) (pg_tup (n := 2) rfl (pgs_cons (pg_name (i := 3) sc__law_joined.nd rfl (by first | exact Or.inl rfl | exact Or.inr rfl)) (pgs_cons (pg_name (i := 4) sc__law_joined.nd rfl (by first | exact Or.inl rfl | exact Or.inr rfl)) pgs_nil))) (pss_cons (ps_asg (pe_tup (pa_cons (pe_ix (ixK (K := K) (r := rIx) rfl ix_seq) (pv 2) (pv 3) (fun _ _ => rfl)) (pa_cons (pe_ix (ixK (K := K) (r := rIx) rfl ix_seq) (pv 2) (pv 4) (fun _ _ => rfl)) pa_nil))) (pg_tup (n := 2) rfl (pgs_cons (pg_name (i := 5) sc__law_joined.nd rfl (by first | exact Or.inl rfl | exact Or.inr rfl)) (pgs_cons (pg_name (i := 6) sc__law_joined.nd rfl (by first | exact Or.inl rfl | exact Or.inr rfl)) pgs_nil)))) (pss_one (ps_set (i := 2) sc__law_joined.nd rfl (by first | exact Or.inl rfl | exact Or.inr rfl) (pe_lc (own := [("one", 7)]) rfl sc__law_joined.nd (pi_list (pv 2)) (blkOk_by (own := [("one", 7)]) (N := ["houses", "roads", "lot", "u", "v", "old", "now", "one"]) (sc := defScope s__law_joined) (by decide +kernel)) (fun _ _ _ _ _ => (pg_name (i := 7) sc__law_joined.nd rfl (by first | exact Or.inl rfl | exact Or.inr rfl))) (fun _ _ _ _ _ => pts_nil) (fun _ _ _ _ _ => (pe_ifExp (pt_cmpR (opK (K := K) (r := rEqA) rfl (op_eqA hr.units)) (pv 7) (pv 5) (nomark _)) (pv 6) (pv 7)))))))) (pss_one (ps_ret (pe_cmpR (opK (K := K) (r := rEqA) rfl (op_eqA hr.units)) (pe_lc (own := [("one", 7)]) rfl sc__law_joined.nd (pi_list (pv 2)) (blkOk_by (own := [("one", 7)]) (N := ["houses", "roads", "lot", "u", "v", "old", "now", "one"]) (sc := defScope s__law_joined) (by decide +kernel)) (fun _ _ _ _ _ => (pg_name (i := 7) sc__law_joined.nd rfl (by first | exact Or.inl rfl | exact Or.inr rfl))) (fun _ _ _ _ _ => pts_one (pt_cmpR (opK (K := K) (r := rNeA) rfl (op_neA hr.units)) (pv 7) (pe_ix (ixK (K := K) (r := rIx) rfl ix_seq) (pv 2) pe_int (fun _ _ => rfl)) (nomark _))) (fun _ _ _ _ _ => (pv 7))) (pe_lst pa_nil) (nomark _)))))), ?_⟩
  try simp only [cxK]
  rintro _ ms Pd Xd ⟨n, j, rs, rfl, hj, hn1, hn2, hl, hin, q⟩ bl mb
  refine ds_seq (ds_set (de_lstRg (de_var rfl ⟨n, rfl, by omega, ?_⟩)))
  rw [rgD_is]
  refine ds_seq (ds_forC (vs := List.range 20) (de_var rfl ⟨j, rs.map dpPr, rfl, JL n j rs ms, ⟨rgI n, none, none, none, none, by simpa using lot_nil n, rfl, rfl⟩, ?_, ?_, ?_⟩))
  · rintro i e m hi ⟨lot, a, b, c, d, hlot, rfl, rfl⟩
    exact hj
  · rintro i e m hi ⟨lot, a, b, c, d, hlot, rfl, rfl⟩
    rw [List.length_map] at hi
    rw [itD hi]
    obtain ⟨p0, p1, p2, p3⟩ := hin _ (List.getElem_mem hi)
    obtain ⟨u, hu⟩ := nat_of p0
    obtain ⟨v, hv⟩ := nat_of p2
    have ep : rs[i] = ((u : Int), (v : Int)) := Prod.ext hu hv
    have hu' : u < lot.length := by rw [hlot.len]; omega
    have hv' : v < lot.length := by rw [hlot.len]; omega
    have st := lot_step hlot (inR_take hin i) (List.getElem?_eq_getElem hu') (List.getElem?_eq_getElem hv')
    rw [← ep, ← take_at hi] at st
    rw [ep]
    refine dg_tup2 ?_
    repeat' walk_at "d1"
    refine d2_ix (.inl rfl) (at_nat (u := u) (by rw [List.getElem?_map, List.getElem?_eq_getElem hu']; rfl)) ?_
    repeat' walk_at "d1"
    refine d2_ix (.inl rfl) (at_nat (u := v) (by rw [List.getElem?_map, List.getElem?_eq_getElem hv']; rfl)) ?_
    repeat' walk_at "d1"
    refine di_lst (de_var rfl (as_lst ?_))
    rw [List.length_map]
    have hll := hlot.len
    refine lcw_map (by omega) (fun _ => true) (fun i => .int (mrg lot[u] lot[v] (lot.getD i 0))) (fun i hi => dg_name (by decide) (dt_yes ⟨rfl, rfl, fun _ => ?_⟩)) ?_
    · rw [itD hi, getD_at hi]
      repeat' walk_at "d1"
      · rename_i h1
        exact ⟨by unfold mrg; rw [if_pos h1], rfl⟩
      · rename_i h1
        exact ⟨by unfold mrg; rw [if_neg h1], rfl⟩
    · rw [lcw_get lot (fun x => Dat.int (mrg lot[u] lot[v] x)) _ fun i hi => by rw [getD_at hi], show lot.map (fun x => Dat.int (mrg lot[u] lot[v] x)) = (lot.map (mrg lot[u] lot[v])).map Dat.int by rw [List.map_map]; rfl]
      exact ⟨_, _, _, _, _, st, rfl, rfl⟩
  · rintro e m ⟨lot, a, b, c, d, hlot, rfl, rfl⟩
    rw [List.length_map, List.take_length] at hlot
    have h0 : 0 < lot.length := by rw [hlot.len]; omega
    have hll := hlot.len
    have hc := lot_conn hlot hn1 (List.getElem?_eq_getElem h0)
    repeat' walk_at "d1"
    refine di_lst (de_var rfl (as_lst ?_))
    rw [List.length_map]
    refine lcw_map (by omega) (fun i => !decide (lot.getD i 0 = lot[0])) (fun i => .int (lot.getD i 0)) (fun i hi => dg_name (by decide) ?_) ?_
    · rw [itD hi, getD_at hi]
      repeat' walk_at "d1"
      refine d2_ix (.inl rfl) (at_nat (u := 0) (by rw [List.getElem?_map, List.getElem?_eq_getElem h0]; rfl)) ?_
      repeat' walk_at "d1"
      exact ⟨rfl, rfl, fun _ => de_var rfl ⟨rfl, rfl⟩⟩
    · repeat' walk_at "d1"
      refine d2_eqNilI (cs := ((List.range lot.length).filter fun i => !decide (lot.getD i 0 = lot[0])).map fun i => lot.getD i 0) (by rw [List.map_map]; rfl) (.inl (q _ ?_))
      rw [← hc, List.isEmpty_map, filt_all (List.range lot.length) fun i => decide (lot.getD i 0 = lot[0]), List.all_eq_true, List.all_eq_true]
      constructor
      · intro h x hx
        obtain ⟨k, hk, rfl⟩ := List.getElem_of_mem hx
        have := h k (List.mem_range.mpr hk)
        rwa [getD_at hk] at this
      · intro h k hk
        have hk := List.mem_range.mp hk
        rw [getD_at hk]
        exact h _ (List.getElem_mem hk)
/-! ### own reading -/
end
end K03
namespace K03
open PySem PySem.Spec PyProof.Rows L2 DL
/-! ### the first word's end -/
theorem colon : (Str.ofString ":").cps.toList = [58] := by decide +kernel
theorem split_last {α : Type} : ∀ (l : List α), l = [] ∨ ∃ l' c, l = l' ++ [c]
  | [] => .inl rfl
  | a :: l => .inr (by
    rcases split_last l with h | ⟨l', c, h⟩
    · exact ⟨[], a, by rw [h]; rfl⟩
    · exact ⟨a :: l', c, by rw [h]; rfl⟩)
theorem cut_but {x : Str} {l : List Nat} {c : Nat} (h : x.cps.toList = l ++ [c]) : (cutS x none (some (-1))).cps.toList = l := by
  have hl := strLen x
  rw [h, List.length_append, List.length_singleton] at hl
  unfold cutS HT.sIx
  simp only [hl]
  rw [if_pos (by decide)]
  have e : ((-1 : Int) + ((l.length + 1 : Nat) : Int)).toNat = l.length := by omega
  rw [e, h]
  simp
theorem cut_end {x : Str} {l : List Nat} {c : Nat} (h : x.cps.toList = l ++ [c]) : (cutS x (some (-1)) none).cps.toList = [c] := by
  have hl := strLen x
  rw [h, List.length_append, List.length_singleton] at hl
  unfold cutS HT.sIx
  simp only [hl]
  rw [if_pos (by decide)]
  have e : ((-1 : Int) + ((l.length + 1 : Nat) : Int)).toNat = l.length := by omega
  rw [e, h]
  simp
theorem cut_nil {x : Str} (h : x.cps.toList = []) (lo hi : Option Int) : (cutS x lo hi).cps.toList = [] := by
  unfold cutS
  rw [h]
  simp
theorem ends_is {x : Str} : Txt.endswith x ":" = true ↔ ∃ l, x.cps.toList = l ++ [58] := by
  have hl := strLen x
  unfold Txt.endswith Builtin.Str.subAt
  have lc : (Str.ofString ":").length = 1 := len1.1
  rw [lc]
  rcases split_last x.cps.toList with h | ⟨l, c, h⟩
  · have h0 : x.length = 0 := by rw [hl, h]; rfl
    simp [h0, h]
  · have h1 : x.length = l.length + 1 := by rw [hl, h]; simp
    have ex : (x.cps.extract (x.length - 1) (x.length - 1 + 1)).toList = [c] := by
      rw [Array.toList_extract, h, h1]
      simp [List.extract]
    constructor
    · intro q
      simp only [Bool.and_eq_true, beq_iff_eq] at q
      have := congrArg Array.toList q.2
      rw [ex, colon] at this
      cases this
      exact ⟨l, h⟩
    · rintro ⟨l', e⟩
      rw [h] at e
      have := (List.append_inj' e rfl).2
      cases this
      simp only [Bool.and_eq_true, beq_iff_eq, decide_eq_true_eq]
      refine ⟨by omega, ?_⟩
      apply Array.toList_inj.mp
      rw [ex]; exact colon.symm
theorem last_is {x : Str} : cutS x (some (-1)) none = ":" ↔ ∃ l, x.cps.toList = l ++ [58] := by
  rcases split_last x.cps.toList with h | ⟨l, c, h⟩
  · constructor
    · intro e
      have := cut_nil h (some (-1)) none
      rw [e, colon] at this
      cases this
    · rintro ⟨l, e⟩
      rw [h] at e
      simp at e
  · have e1 := cut_end h
    constructor
    · intro e
      rw [e, colon] at e1
      cases e1
      exact ⟨l, h⟩
    · rintro ⟨l', e⟩
      rw [h] at e
      have := (List.append_inj' e rfl).2
      cases this
      exact TL.ext_tl (e1.trans colon.symm)
/-- the houses that own reading tells -/
def hsL (first : Str) : Option Int := if cutS first (some (-1)) none = ":" then num (cutS first none (some (-1))) else none
theorem hs_hsL {first : Str} {i : Int} (h : hs first = some i) : hsL first = some i := by
  unfold hs at h
  split at h
  · rename_i e
    unfold hsL
    rw [if_pos (last_is.mpr (ends_is.mp e))]
    exact cnt_num h
  · cases h
theorem hsL_hs {first : Str} {i : Int} (hl : first.length ≤ 4000) (h : hsL first = some i) (h64 : i ≤ 64) : 0 ≤ i ∧ hs first = some i := by
  unfold hsL at h
  split at h
  · rename_i e
    unfold hs
    rw [if_pos (ends_is.mpr (last_is.mp e))]
    have := num_small (Nat.le_trans (cutS_length _ _ _) hl) h h64
    exact ⟨this.1, this.2.2⟩
  · cases h
/-! ### roads, one by one -/
def numsL (z : Str) : List (Option Int) := (Txt.split z "-").map num
theorem nums_L {z : Str} {p : Pr} (h : numsO z = prO p) : numsL z = prO p := by
  unfold numsO prO at h
  unfold numsL prO
  match hs : Txt.split z "-", h with
  | [a, b], h =>
    simp only [List.map_cons, List.map_nil, List.cons.injEq, and_true] at h ⊢
    exact ⟨cnt_num h.1, cnt_num h.2⟩
  | [], h => simp at h
  | [_], h => simp at h
  | _ :: _ :: _ :: _, h => simp at h
theorem L_nums {z : Str} {a b : Int} (hl : z.length ≤ 4000) (h : numsL z = [some a, some b]) (ha : a ≤ 64) (hb : b ≤ 64) : 0 ≤ a ∧ 0 ≤ b ∧ numsO z = prO (a, b) := by
  unfold numsL at h
  unfold numsO prO
  have part : ∀ q ∈ Txt.split z "-", q.length ≤ z.length := fun q hq => split_part (by decide +kernel) hq
  match hs : Txt.split z "-", h with
  | [x, y], h =>
    rw [hs] at part
    simp only [List.map_cons, List.map_nil, List.cons.injEq, and_true] at h ⊢
    have h1 := num_small (Nat.le_trans (part x (by simp)) hl) h.1 ha
    have h2 := num_small (Nat.le_trans (part y (by simp)) hl) h.2 hb
    exact ⟨h1.1, h2.1, h1.2.2, h2.2.2⟩
  | [], h => simp at h
  | [_], h => simp at h
  | _ :: _ :: _ :: _, h => simp at h
theorem asc_snoc {rs : List Pr} {p : Pr} (h : asc rs = true) (hp : ∀ q, rs.getLast? = some q → plt q p = true) : asc (rs ++ [p]) = true := by
  unfold asc at h ⊢
  rw [List.all_eq_true] at h ⊢
  intro i hi
  rw [List.mem_range, List.length_append, List.length_singleton] at hi
  by_cases h1 : i + 1 < rs.length
  · have := h i (List.mem_range.mpr (by omega))
    rw [getD_at (by omega), getD_at h1] at this
    rw [getD_at (by rw [List.length_append]; omega), getD_at (by rw [List.length_append]; omega), List.getElem_append_left (by omega), List.getElem_append_left h1]
    exact this
  · have e : i + 1 = rs.length := by omega
    have hl : rs.getLast? = some rs[i] := by rw [List.getLast?_eq_getElem?, show rs.length - 1 = i by omega, List.getElem?_eq_getElem (by omega)]
    have := hp _ hl
    rw [getD_at (by rw [List.length_append]; simp; omega), getD_at (by rw [List.length_append]; simp; omega), List.getElem_append_left (by omega), List.getElem_append_right (by omega)]
    simp only [e, Nat.sub_self, List.getElem_cons_zero]
    exact this
theorem asc_at {rs : List Pr} (h : asc rs = true) {i : Nat} (hi : i + 1 < rs.length) : plt rs[i] rs[i + 1] = true := by
  unfold asc at h
  rw [List.all_eq_true] at h
  have := h i (List.mem_range.mpr (by omega))
  rwa [getD_at (by omega), getD_at hi] at this
theorem prO_inj {p q : Pr} (h : prO p = prO q) : p = q := by
  unfold prO at h
  simp only [List.cons.injEq, Option.some.injEq, and_true] at h
  exact Prod.ext h.1 h.2
theorem prs_inj : ∀ {rs rs' : List Pr}, rs.map prO = rs'.map prO → rs = rs'
  | [], [], _ => rfl
  | [], _ :: _, h => by cases h
  | _ :: _, [], h => by cases h
  | p :: rs, q :: rs', h => by
    rw [List.map_cons, List.map_cons, List.cons.injEq] at h
    rw [prO_inj h.1, prs_inj h.2]
end K03
namespace K03
open PySem PySem.Spec PyProof.Rows L2 DL
local macro_rules | `(tactic| walk_at "hyp") => `(tactic| (first
  | (simp only [Bool.not_eq_true', Bool.not_eq_false', decide_eq_true_eq, decide_eq_false_iff_not, Bool.or_eq_true, Bool.and_eq_true, Bool.or_eq_false_iff, Bool.not_true, Bool.not_false, Bool.and_eq_false_iff] at *)
  | skip))
local macro_rules | `(tactic| walk_at "d1") => `(tactic| first
  | with_reducible refine ds_seq ?_
  | with_reducible refine ds_if ?_
  | with_reducible refine ds_ret ?_
  | with_reducible refine ds_set ?_
  | with_reducible refine ds_drop ?_
  | with_reducible refine ds_par ?_
  | with_reducible refine ds_par3 ?_
  | with_reducible refine ds_next ?_
  | with_reducible refine de_var rfl ?_
  | with_reducible refine de_int ?_
  | with_reducible refine de_str ?_
  | with_reducible refine de_bl ?_
  | with_reducible refine de_non ?_
  | with_reducible refine de_ty ?_
  | with_reducible refine de_ref ?_
  | with_reducible refine de_op ?_
  | with_reducible refine de_chain ?_
  | with_reducible refine de_un ?_
  | with_reducible refine de_dnew ?_
  | with_reducible refine de_disp1 ?_
  | with_reducible refine de_cb ?_
  | with_reducible refine de_bm ?_
  | with_reducible refine de_sl ?_
  | with_reducible refine de_tup ?_
  | with_reducible refine de_lst ?_
  | with_reducible refine de_fstr ?_
  | with_reducible refine de_fmtS ?_
  | with_reducible refine dj_cons ?_
  | with_reducible refine dj_nil ?_
  | with_reducible refine do_none ?_
  | with_reducible refine do_some ?_
  | with_reducible refine de_g0 (dds := []) (fun _ => .nil) ?_
  | with_reducible refine de_g (dds := []) (fun _ => .nil) ?_
  | with_reducible refine de_lc ?_
  | with_reducible refine di_str ?_
  | with_reducible refine di_tup ?_
  | with_reducible refine de_notV ?_
  | with_reducible refine de_andV ?_
  | with_reducible refine de_orV ?_
  | with_reducible refine de_if ?_
  | with_reducible refine dt_test ?_
  | with_reducible refine dt_B ?_
  | with_reducible refine dt_and ?_
  | with_reducible refine dt_or ?_
  | with_reducible refine dt_not ?_
  | with_reducible refine dt_yes ?_
  | with_reducible refine da_cons ?_
  | with_reducible refine da_nil ?_
  | with_reducible refine d2_leI ?_
  | with_reducible refine d2_ltI ?_
  | with_reducible refine d2_geI ?_
  | with_reducible refine d2_gtI ?_
  | with_reducible refine d2_addI ?_
  | with_reducible refine d2_sub ?_
  | ((with_reducible refine' d2_leS1 (sign1_cps _) ?hs1 ?_); (case hs1 => first | exact sg_a | exact sg_z | exact sg_sp | exact sg_ti))
  | ((with_reducible refine' d2_leS1 ?hs1 (sign1_cps _) ?_); (case hs1 => first | exact sg_a | exact sg_z | exact sg_sp | exact sg_ti))
  | with_reducible refine dr_int ?_
  | with_reducible refine dr_abs ?_
  | with_reducible refine dg_sub ?_
  | ((with_reducible refine' d2_ix ?hsq ?hix ?_); (case hsq => assumption); (case hix => rfl))
  | ((with_reducible refine' d2_mod ?hmod ?_); (case hmod => first | decide | omega))
  | ((with_reducible refine' d2_mul ?hmul ?_); (case hmul => exact mul_ok (by omega) (by omega)))
  | ((with_reducible refine' d2_div ?hdiv ?_); (case hdiv => exact div_ok (by first | decide | omega) (by omega)))
  | ((with_reducible refine' d2_pow ?hpow ?_); (case hpow => exact pow_ok (by decide) (by decide) (by omega)))
  | with_reducible refine d2_notI ?_
  | with_reducible refine d2_notSt ?_
  | with_reducible refine d2_notNn ?_
  | with_reducible refine d2_notT ?_
  | with_reducible refine d2_isI ?_
  | with_reducible refine d2_isNn ?_
  | with_reducible refine d2_isT ?_
  | with_reducible refine d2_neI ?_
  | with_reducible refine d2_eqI ?_
  | with_reducible refine d2_eqS ?_
  | with_reducible refine d2_neS ?_
  | with_reducible refine dr_isiK (by assumption) (by decide) (by first | assumption | exact isTyD_str _ | exact isTyD_tup _ | rfl) ?_
  | with_reducible refine dr_lenT ?_
  | with_reducible refine dr_lenL ?_
  | with_reducible refine dr_lenR ?_
  | with_reducible refine dr_lenC (by assumption) ?_
  | with_reducible refine ds_to ?_
  | with_reducible refine dg_name (by decide) ?_
  | with_reducible refine dg_tup2 ?_
  | with_reducible refine dg_tup3 ?_
  | with_reducible refine dg_tup4 ?_
  | with_reducible refine dgs_cons ?_
  | with_reducible refine dgs_nil ?_
  | with_reducible refine dr_lenS (by omega) ?_
  | with_reducible refine ⟨⟨by simp only [List.length_cons, List.length_nil], by simp only [List.length_cons, List.length_nil]; omega⟩, ?_⟩
  | with_reducible refine ⟨_, rfl, ?_⟩
  | with_reducible refine ⟨_, _, rfl, ?_⟩
  | with_reducible refine ⟨tyD_str, ?_⟩
  | with_reducible refine ⟨by omega, ?_⟩
  | with_reducible refine ⟨by (simp only [PySem.Str.length_append, len_empty, len_sp, List.length_cons, List.length_nil, List.length_append]; omega), ?_⟩
  | with_reducible refine bothT ?_
  | with_reducible refine bothF ?_
  | with_reducible refine bothNT ?_
  | with_reducible refine bothNF ?_
  | (with_reducible refine both (fun hc => ?_) (fun hc => ?_) <;> (try simp only [Bool.not_eq_true', Bool.not_eq_false', decide_eq_true_eq, decide_eq_false_iff_not] at hc) <;> (try (exfalso; omega)) <;> (try exact absurd rfl hc) <;> (try exact absurd trivial hc)))

local macro_rules | `(tactic| walk_at "sm") => `(tactic| first
  | with_reducible refine di_lst ?_
  | with_reducible refine as_lst ?_
  | ((with_reducible refine' d2_addSm ?hs1 ?hs2 ?hs3 (fun hs => ?_)); (case hs1 => assumption); (case hs2 => assumption); (case hs3 => omega))
  | ((with_reducible refine' d2_addL ?hal ?_); (case hal => (simp; try omega)))
  | with_reducible refine d1_neg ?_)

section
variable {P : Program} {w : World} {K : PySem.W.Frag} {mg : Str → Option Value} {base : Heap}
theorem mem_joinL {s : List Nat} : ∀ {ls : List (List Nat)} {l : List Nat} {c : Nat}, l ∈ ls → c ∈ l → c ∈ TL.joinL s ls
  | [a], l, c, h, hc => by
    rw [List.mem_singleton.mp h] at hc
    simpa [TL.joinL] using hc
  | a :: b :: r, l, c, h, hc => by
    rw [TL.joinL]
    rcases List.mem_cons.mp h with z | z
    · rw [z] at hc
      simp [hc]
    · have := mem_joinL (s := s) (ls := b :: r) z hc
      simp [this]
theorem sm_part {n : Nat} {x y p : Str} (h : Sm n x) (hy : 1 ≤ y.length) (hp : p ∈ Txt.split x y) : Sm n p := by
  refine ⟨Nat.le_trans (split_part hy hp) h.len, fun c hc => h.sig c ?_⟩
  have e := StrLaws.join_split x y
  have : c ∈ TL.tl (Str.join y (Txt.split x y)) := by
    rw [TL.tl_join]
    exact mem_joinL (List.mem_map_of_mem hp) hc
  rw [e] at this
  exact this
def pm_lread (K : PySem.W.Frag) : Pm := fun ds ms P X => ∃ d, ds = [d] ∧
  ((∃ z, d = .str z ∧ Sm 600 z ∧ (∀ n rs, Parse z n rs → P (.lst [.int (n : Int), .lst (rs.map dpPr)]) ms) ∧ ((¬ ∃ n rs, Parse z n rs) → P .non ms)) ∨
    (VOk K ms d ∧ isTyD ms d "str" = false ∧ P .non ms))
theorem prs_cell {ms : Ms} {k : Nat} {rs : List Pr} (h : ms[k]? = some (.lst (rs.map dpPr))) : PyV ms (.cell k) (.list ((rs.map prL).map tuP)) := by
  rw [prs_tu] at h
  exact .inr ⟨k, _, _, rfl, h, pyd_tus _, rfl⟩
theorem cutD_tail (x : Dat) (xs : List Dat) : DL.cutD (x :: xs) (some 1) none = xs := by
  unfold DL.cutD HT.sIx
  simp
theorem at_last {α : Type} {l : List α} {a : α} (h : l.getLast? = some a) : atI l (-1) = some a := by
  have hl : l ≠ [] := fun e => by rw [e] at h; cases h
  have hp := List.length_pos_iff.mpr hl
  unfold atI ixN
  rw [if_neg (by decide), if_pos (by omega)]
  rw [List.getLast?_eq_getElem?] at h
  show l[((-1 : Int) + (l.length : Int)).toNat]? = some a
  rw [show ((-1 : Int) + (l.length : Int)).toNat = l.length - 1 by omega]
  exact h
theorem one0 {ms : Ms} {A : MO} : (ms ++ [A])[ms.length]? = some A := by rw [List.getElem?_append_right (by omega), Nat.sub_self]; rfl
theorem oneS {ms : Ms} {A C : MO} : (ms ++ [A]).set ms.length C = ms ++ [C] := by rw [List.set_append_right _ _ (by omega), Nat.sub_self]; rfl
theorem prs_snoc {rs : List Pr} {a b : Int} : rs.map dpPr ++ [Dat.tup [.int a, .int b]] = (rs ++ [(a, b)]).map dpPr := by rw [List.map_append]; rfl
/-- the roads so far -/
def JR (n : Nat) (z first : Str) (words : List Str) (ms : Ms) (i : Nat) (e : Ev) (m : Ms) : Prop := ∃ (rs : List Pr) (a b : Option Dat), rs.length = i ∧ rs.map prO = (words.take i).map numsO ∧ (rs.map prO).all (roadB n) = true ∧ asc rs = true ∧
  e = [some (.str z), some (.lst ((first :: words).map Dat.str)), some (.int n), some (.cell ms.length), a, b, none] ∧ m = ms ++ [.lst (rs.map dpPr)]
theorem ok_law_read {f : Addr} {fd : FuncData}  {g0 : Addr} {fd0 : FuncData} (D__law_number : Df K mg "_law_number" g0) (G__law_number : FnG P w K mg base (L2N.CX P w) 1 g0 fd0 ["word"] (spD K (pm_number K))) (b__law_number : Binds K fd0 ["word"] []) {g1 : Addr} {fd1 : FuncData} (D__law_joined : Df K mg "_law_joined" g1) (G__law_joined : FnG P w K mg base (L2N.CX P w) 1 g1 fd1 ["houses", "roads"] (spD K (pm_ljoined K))) (b__law_joined : Binds K fd1 ["houses", "roads"] []) (F : Fun K "_law_read" "_law_read" s__law_read f fd) (T : Txt K mg) :
    FnG P w K mg base (L2N.CX P w) 2 f fd ["text"] (spD K (pm_lread K)) := by
  refine fn_dl F sc__law_read (fun ds ms Pd X h => by obtain ⟨_, rfl, _⟩ := h; rfl) (fun cdv Ar outer s H E hr hq => ?_)
  have tk := (L2N.takes_of (X := cxOf (L2N.CX P w) P w K mg base ["text", "words", "houses", "roads", "word", "parts", "part"] "_law_read" (defScope s__law_read) f cdv Ar outer s H E) (E := E) rfl rfl rfl rfl)
  refine ⟨_, (pss_cons (ps_if (pt_not (pt_val (pe_callB (crK (K := K) (r := rIsiX) rfl call_isiX) (by rfl) T.b_isinstance bt_isinstance (pa_cons (pv 0) (pa_cons (pe_bltn (v := .ty "str") rfl T.b_str bt_str rfl) pa_nil))))) (pss_one (ps_ret pe_non)) pss_nil) (pss_cons (ps_set (i := 1) sc__law_read.nd rfl (by first | exact Or.inl rfl | exact Or.inr rfl) (pe_bmK (K := K) rfl PySem.F.plainAttrs_str PySem.F.slot_str_split PySem.F.type_str_split mt_split (pv 0) (pa_cons pe_str pa_nil))) (pss_cons (ps_set (i := 2) sc__law_read.nd rfl (by first | exact Or.inl rfl | exact Or.inr rfl) (pe_ifExp (pt_cmpR (opK (K := K) (r := rEqA) rfl (op_eqA hr.units)) (pe_slice (slK (K := K) (r := rSlA) rfl sl_A) (pe_ix (ixK (K := K) (r := rIx) rfl ix_seq) (pv 1) pe_int (fun _ _ => rfl)) (po_some (pe_un un_neg pe_int)) po_none) pe_str (nomark _)) (pe_g G__law_number (hr.mono (by decide)) hq rfl D__law_number.m D__law_number.k b__law_number .nil (fun σ => L2N.passAt tk σ) (pa_cons (pe_slice (slK (K := K) (r := rSlA) rfl sl_A) (pe_ix (ixK (K := K) (r := rIx) rfl ix_seq) (pv 1) pe_int (fun _ _ => rfl)) po_none (po_some (pe_un un_neg pe_int))) pa_nil)) pe_non)) (pss_cons (ps_if (PW.pt (pw_or (pt_cmpR op_isA (pv 2) pe_non (nomark _)) (pw_or (pt_not (pt_chain op_leA op_leA pe_int (pv 2) pe_int)) (pw_or1 (pt_cmpR (opK (K := K) (r := rNeA) rfl (op_neA hr.units)) (pe_callB (crK (K := K) (r := rLenK) rfl call_len) (by rfl) T.b_len bt_len (pa_cons (pv 1) pa_nil)) (pv 2) (nomark _)))))) (pss_one (ps_ret pe_non)) pss_nil) (pss_cons (ps_set (i := 3) sc__law_read.nd rfl (by first | exact Or.inl rfl | exact Or.inr rfl) (pe_lst pa_nil)) (pss_cons (ps_for (by first | exact PassesOwn.never | assumption | exact passes_of rfl) rfl (pi_list (pe_slice (slK (K := K) (r := rSlA) rfl sl_A) (pv 1) (po_some pe_int) po_none)) (pg_name (i := 4) sc__law_read.nd rfl (by first | exact Or.inl rfl | exact Or.inr rfl)) (pss_cons (ps_setLc (i := 5) (own := [("part", 6)]) rfl sc__law_read.nd rfl rfl (sw_true rfl rfl rfl (by decide +kernel)) (pi_list (pe_bmK (K := K) rfl PySem.F.plainAttrs_str PySem.F.slot_str_split PySem.F.type_str_split mt_split (pv 4) (pa_cons pe_str pa_nil))) (blkOk_by (own := [("part", 6)]) (N := ["text", "words", "houses", "roads", "word", "parts", "part"]) (sc := defScope s__law_read) (by decide +kernel)) (fun _ _ _ _ _ => (pg_name (i := 6) sc__law_read.nd rfl (by first | exact Or.inl rfl | exact Or.inr rfl))) (fun _ _ _ _ _ => pts_nil) (fun _ _ _ _ _ => (pe_g G__law_number (hr.mono (by decide)) hq rfl D__law_number.m D__law_number.k b__law_number .nil (fun σ => passN σ) (pa_cons (pv 6) pa_nil)))) (pss_cons (ps_if (PW.pt (pw_or (pt_cmpR (opK (K := K) (r := rNeA) rfl (op_neA hr.units)) (pe_callB (crK (K := K) (r := rLenK) rfl call_len) (by rfl) T.b_len bt_len (pa_cons (pv 5) pa_nil)) pe_int (nomark _)) (pw_or1 (pt_cmpR (opK (K := K) (r := rInB) rfl (op_inB (un65 hr))) pe_non (pv 5) (by rfl))))) (pss_one (ps_ret pe_non)) pss_nil) (pss_cons (ps_if (PW.pt (pw_or (pt_not (pt_chain op_ltA op_ltA (pe_ix (ixK (K := K) (r := rIx) rfl ix_seq) (pv 5) pe_int (fun _ _ => rfl)) (pe_ix (ixK (K := K) (r := rIx) rfl ix_seq) (pv 5) pe_int (fun _ _ => rfl)) (pv 2))) (pw_or1 (PW.pt (pw_and (pt_cmpR (opK (K := K) (r := rNeA) rfl (op_neA hr.units)) (pv 3) (pe_lst pa_nil) (nomark _)) (pw_and1 (pt_cmpR (opK (K := K) (r := rGeB) rfl (op_geB hr.units)) (pe_ix (ixK (K := K) (r := rIx) rfl ix_seq) (pv 3) (pe_un un_neg pe_int) (fun _ _ => rfl)) (pe_tup (pa_cons (pe_ix (ixK (K := K) (r := rIx) rfl ix_seq) (pv 5) pe_int (fun _ _ => rfl)) (pa_cons (pe_ix (ixK (K := K) (r := rIx) rfl ix_seq) (pv 5) pe_int (fun _ _ => rfl)) pa_nil))) (nomark _)))))))) (pss_one (ps_ret pe_non)) pss_nil) (pss_one (ps_expr (pe_bmK (K := K) rfl PySem.F.plainAttrs_list PySem.F.slot_list_append PySem.F.type_list_append mtA_append (pv 3) (pa_cons (pe_tup (pa_cons (pe_ix (ixK (K := K) (r := rIx) rfl ix_seq) (pv 5) pe_int (fun _ _ => rfl)) (pa_cons (pe_ix (ixK (K := K) (r := rIx) rfl ix_seq) (pv 5) pe_int (fun _ _ => rfl)) pa_nil))) pa_nil)))))))) (pss_one (ps_ret (pe_ifExp (pt_val (pe_g G__law_joined (hr.mono (by decide)) hq rfl D__law_joined.m D__law_joined.k b__law_joined .nil (fun σ => L2N.passAt tk σ) (pa_cons (pv 2) (pa_cons (pv 3) pa_nil)))) (pe_lst (pa_cons (pv 2) (pa_cons (pv 3) pa_nil))) pe_non))))))))), ?_⟩
  try simp only [cxK]
  rintro _ ms Pd Xd ⟨d, rfl, q⟩ bl mb
  rcases q with ⟨z, rfl, hz, qt, qf⟩ | ⟨hv, hty, qf⟩
  · obtain ⟨first, words, hsp⟩ := split_cons z " " (by decide +kernel) (by decide +kernel)
    have hzl := hz.len
    have hl1 := split_len1 (x := z) (y := " ") (by decide +kernel)
    have hpt : ∀ p ∈ Txt.split z " ", Sm 600 p := fun p hp => sm_part hz (by decide +kernel) hp
    rw [hsp] at hl1 hpt
    have hsf := hpt first (List.mem_cons_self ..)
    have hsw : ∀ p ∈ words, Sm 600 p := fun p hp => hpt p (List.mem_cons_of_mem _ hp)
    have hlen : words.length ≤ 600 := by simp at hl1; omega
    have pars : ∀ {n rs}, Parse z n rs → hs first = some (n : Int) ∧ words.map numsO = rs.map prO ∧ TreeOk n rs := by
      rintro n rs ⟨f2, w2, p⟩
      have e := p.sp
      rw [hsp] at e
      cases e
      exact ⟨p.h, p.r, p.t⟩
    repeat' first
      | with_reducible refine dr_isi (T := "str") rfl kSS ?_
      | walk_at "d1"
    refine dr_split (by decide +kernel) (by omega) ?_
    rw [hsp]
    refine ds_seq (ds_set (DE.mono (P := fun d m => d = oiD (hsL first) ∧ m = ms) ?_ (fun d m z => ?_)))
    · repeat' walk_at "d1"
      refine d2_ix (.inl rfl) (at_nat (u := 0) rfl) ?_
      repeat' walk_at "d1"
      refine d1_neg ?_
      repeat' walk_at "d1"
      refine dsl_str (z := first) (by have := hsf.len; omega) ?_
      repeat' walk_at "d1"
      · rename_i h1
        refine d2_ix (.inl rfl) (at_nat (u := 0) rfl) ?_
        repeat' walk_at "d1"
        refine d1_neg ?_
        repeat' walk_at "d1"
        refine dsl_str (z := first) (by have := hsf.len; omega) ?_
        repeat' walk_at "d1"
        refine ⟨_, rfl, hsf.cut _ _, ?_, rfl⟩
        unfold hsL
        rw [if_pos h1]
      · rename_i h1
        exact ⟨by unfold hsL; rw [if_neg h1]; rfl, rfl⟩
    obtain ⟨rfl, rfl⟩ := z
    cases ho : hsL first with
    | none =>
      dsimp only [oiD]
      repeat' walk_at "d1"
      refine .inl (qf ?_)
      rintro ⟨n, rs, hp⟩
      have := hs_hsL (pars hp).1
      rw [ho] at this
      cases this
    | some i =>
      have parI : ∀ {n : Nat} {rs : List Pr}, Parse z n rs → (n : Int) = i := fun hp => by
        have := hs_hsL (pars hp).1
        rw [ho] at this
        exact (Option.some.inj this).symm
      dsimp only [oiD]
      repeat' first
        | with_reducible refine de_lstC (da_nil ⟨by simp, ?_⟩)
        | walk_at "d1"
      · refine .inl (qf ?_)
        rintro ⟨n, rs, hp⟩
        have := parI hp
        have := (pars hp).2.2.h2
        omega
      · rename_i h3
        refine .inl (qf ?_)
        rintro ⟨n, rs, hp⟩
        have e1 := parI hp
        obtain ⟨_, p2, p3⟩ := pars hp
        have e2 := congrArg List.length p2
        rw [List.length_map, List.length_map] at e2
        have e3 := roads_len p3.ok
        apply h3
        rw [List.length_map, List.length_cons]
        omega
      · rename_i h1 h2 h3
        rw [List.length_map, List.length_cons] at h3
        obtain ⟨n, rfl⟩ := nat_of (i := i) (by omega)
        have hf := (hsL_hs (by have := hsf.len; omega) ho h2).2
        refine ds_for (vs := List.range 20) (di_lst ?_)
        repeat' walk_at "d1"
        refine dsl_list (.inl rfl) (as_lst ?_)
        rw [List.map_cons, cutD_tail, List.length_map]
        refine ⟨JR n z first words m, ⟨[], none, none, rfl, rfl, rfl, rfl, rfl, rfl⟩, ?_, ?_⟩
        · rintro i e m2 hi ⟨rs, a, b, hrl, hrm, hra, hrs, rfl, rfl⟩
          rw [itD hi]
          have hsi := hsw _ (List.getElem_mem hi)
          have hil := split_len1 (x := words[i]) (y := "-") (by decide +kernel)
          have hpi : ∀ p ∈ Txt.split words[i] "-", Sm 600 p := fun p hp => sm_part hsi (by decide +kernel) hp
          have hln := hsi.len
          refine dg_name (by decide) ?_
          refine ds_seq (ds_set (DE.mono (P := fun d m' => d = .lst ((numsL words[i]).map oiD) ∧ m' = m ++ [.lst (rs.map dpPr)]) ?_ (fun d m' z => ?_)))
          · refine de_lc (di_lst ?_)
            repeat' walk_at "d1"
            refine dr_split (by decide +kernel) (by omega) (as_lst ?_)
            rw [List.length_map]
            refine lcw_map (by omega) (fun _ => true) (fun t => oiD (num ((Txt.split words[i] "-").getD t default))) (fun t ht => dg_name (by decide) (dt_yes ⟨rfl, rfl, fun _ => ?_⟩)) ⟨?_, rfl⟩
            · rw [itD ht]
              repeat' walk_at "d1"
              refine ⟨_, rfl, hpi _ (List.getElem_mem ht), ?_, rfl⟩
              rw [getD_at ht]
            · unfold numsL
              rw [List.map_map, lcD (Txt.split words[i] "-") (fun w => oiD (num w))]
              rfl
          obtain ⟨rfl, rfl⟩ := z
          -- what a right line says of this word
          have right : ∀ n' rs', Parse z n' rs' → n' = n ∧ ∃ (hi' : i < rs'.length), numsL words[i] = prO rs'[i] ∧ numsO words[i] = prO rs'[i] ∧ roadB n (prO rs'[i]) = true ∧ rs = rs'.take i ∧ asc rs' = true := by
            intro n' rs' hp
            have en : n' = n := by have := parI hp; omega
            subst en
            obtain ⟨_, p2, p3⟩ := pars hp
            have e2 := congrArg List.length p2
            rw [List.length_map, List.length_map] at e2
            have hi' : i < rs'.length := by omega
            have e3 : numsO words[i] = prO rs'[i] := by
              have := congrArg (fun l => l[i]?) p2
              simp only [List.getElem?_map, List.getElem?_eq_getElem hi, List.getElem?_eq_getElem hi'] at this
              exact Option.some.inj this
            refine ⟨rfl, hi', nums_L e3, e3, List.all_eq_true.mp (roadsB_all p3.ok) _ (List.mem_map_of_mem (List.getElem_mem hi')), ?_, ?_⟩
            · refine prs_inj ?_
              rw [hrm, List.map_take, p2, List.map_take]
            · have := p3.ok
              unfold roadsB at this
              simp only [Bool.and_eq_true] at this
              rw [prO_pr] at this
              exact this.2
          have bad : (¬ ∃ n rs, Parse z n rs) → RetOk m.length Pd .non (m ++ [.lst (rs.map dpPr)]) := fun h => ret_bel rfl mb .non (qf h)
          by_cases h2l : (numsL words[i]).length = 2
          · obtain ⟨x, y, hxy⟩ : ∃ x y, numsL words[i] = [x, y] := by
              match h : numsL words[i], h2l with
              | [x, y], _ => exact ⟨x, y, rfl⟩
            rw [hxy] at right ⊢
            simp only [List.map_cons, List.map_nil]
            repeat' walk_at "d1"
            refine d2_inNone (os := [x, y]) (.inl rfl) ?_
            cases x with
            | none =>
              simp only [List.any_cons, Option.isNone_none, Bool.true_or]
              repeat' walk_at "d1"
              refine bad ?_
              rintro ⟨n', rs', hp⟩
              obtain ⟨_, _, e, _⟩ := right n' rs' hp
              cases e
            | some a' =>
              cases y with
              | none =>
                simp only [List.any_cons, List.any_nil, Option.isNone_none, Option.isNone_some, Bool.true_or, Bool.false_or]
                repeat' walk_at "d1"
                refine bad ?_
                rintro ⟨n', rs', hp⟩
                obtain ⟨_, _, e, _⟩ := right n' rs' hp
                cases e
              | some b' =>
                simp only [List.any_cons, List.any_nil, Option.isNone_some, Bool.or_false, oiD]
                repeat' walk_at "d1"
                refine d2_ix (.inl rfl) (at_nat (u := 0) rfl) ?_
                repeat' walk_at "d1"
                refine d2_ix (.inl rfl) (at_nat (u := 1) rfl) ?_
                repeat' walk_at "d1"
                · refine bad ?_
                  rintro ⟨n', rs', hp⟩
                  obtain ⟨_, _, e, _, e3, _⟩ := right n' rs' hp
                  rw [← e] at e3
                  simp [roadB, idx] at e3
                  omega
                · rename_i h5 h6
                  have hL := L_nums (by omega) hxy (by omega) (by omega)
                  have app : (∀ q, rs.getLast? = some q → plt q (a', b') = true) → JR n z first words m (i + 1) [some (.str z), some (.lst ((first :: words).map Dat.str)), some (.int n), some (.cell m.length), some (.str words[i]), some (.lst [.int a', .int b']), none] (m ++ [.lst ((rs ++ [(a', b')]).map dpPr)]) := fun hq => by
                    refine ⟨rs ++ [(a', b')], _, _, by simp [hrl], ?_, ?_, asc_snoc hrs hq, rfl, rfl⟩
                    · rw [List.map_append, hrm, take_at hi, List.map_append, List.map_singleton, List.map_singleton, hL.2.2]
                    · rw [List.map_append, List.all_append, hra, Bool.true_and]
                      simp [prO, roadB, idx]
                      omega
                  refine d2_neV (prs_cell one0) (.inl (.lst .nil)) (shaped_tuL _) shaped_nil ⟨_, rfl, fun hb => ?_, fun hb => ?_⟩
                  · rw [eqv_nil] at hb
                    obtain ⟨q, hq⟩ : ∃ q, rs.getLast? = some q := by
                      rcases split_last rs with h | ⟨l, c, h⟩
                      · rw [h] at hb; simp at hb
                      · exact ⟨c, by rw [h]; simp⟩
                    repeat' walk_at "d1"
                    refine d1_neg ?_
                    refine d2_ix (.inr (.inr (.inr ⟨_, rfl, one0⟩))) (at_last (by rw [List.getLast?_map, hq]; rfl)) ?_
                    repeat' walk_at "d1"
                    refine d2_ix (.inl rfl) (at_nat (u := 0) rfl) ?_
                    repeat' walk_at "d1"
                    refine d2_ix (.inl rfl) (at_nat (u := 1) rfl) ?_
                    repeat' walk_at "d1"
                    refine d2_geP (p := q) (q := (a', b')) ?_
                    cases hpl : plt q (a', b') with
                    | false =>
                      repeat' walk_at "d1"
                      refine bad ?_
                      rintro ⟨n', rs', hp⟩
                      obtain ⟨_, hi', e, _, _, e4, e5⟩ := right n' rs' hp
                      have e6 : (a', b') = rs'[i] := prO_inj e
                      have hi1 : 1 ≤ i := by
                        have : rs ≠ [] := fun z => by rw [z] at hq; cases hq
                        have := List.length_pos_iff.mpr this
                        omega
                      have e7 : rs'[i - 1] = q := by
                        rw [List.getLast?_eq_getElem?, hrl, e4, List.getElem?_take_of_lt (by omega), List.getElem?_eq_getElem (by omega)] at hq
                        exact Option.some.inj hq
                      have := asc_at e5 (i := i - 1) (by omega)
                      simp only [show i - 1 + 1 = i by omega] at this
                      rw [e7, ← e6, hpl] at this
                      cases this
                    | true =>
                      repeat' walk_at "d1"
                      refine ⟨tyD_cell one0, ?_⟩
                      repeat' walk_at "d1"
                      refine d2_ix (.inl rfl) (at_nat (u := 0) rfl) ?_
                      repeat' walk_at "d1"
                      refine d2_ix (.inl rfl) (at_nat (u := 1) rfl) ?_
                      repeat' walk_at "d1"
                      refine dr_append one0 (by rw [List.length_map]; omega) ?_
                      rw [oneS, prs_snoc]
                      exact app (fun q' h' => by rw [hq] at h'; cases h'; exact hpl)
                  · rw [eqv_nil] at hb
                    have h0 : rs = [] := by
                      cases rs with
                      | nil => rfl
                      | cons _ _ => simp at hb
                    repeat' walk_at "d1"
                    refine ⟨tyD_cell one0, ?_⟩
                    repeat' walk_at "d1"
                    refine d2_ix (.inl rfl) (at_nat (u := 0) rfl) ?_
                    repeat' walk_at "d1"
                    refine d2_ix (.inl rfl) (at_nat (u := 1) rfl) ?_
                    repeat' walk_at "d1"
                    refine dr_append one0 (by rw [List.length_map]; omega) ?_
                    rw [oneS, prs_snoc]
                    exact app (fun q' h' => by rw [h0] at h'; cases h')
                · rename_i h5
                  refine bad ?_
                  rintro ⟨n', rs', hp⟩
                  obtain ⟨_, _, e, _, e3, _⟩ := right n' rs' hp
                  rw [← e] at e3
                  simp [roadB, idx] at e3
                  omega
          · repeat' walk_at "d1"
            · refine bad ?_
              rintro ⟨n', rs', hp⟩
              obtain ⟨_, _, e, _⟩ := right n' rs' hp
              rw [e] at h2l
              exact h2l rfl
            · rename_i h4
              exfalso
              apply h2l
              rw [List.length_map] at h4
              omega
        · rintro e m2 ⟨rs, a, b, hrl, hrm, hra, hrs, rfl, rfl⟩
          rw [List.take_length] at hrm
          have hok : roadsB n (rs.map prO) = true := by
            unfold roadsB
            rw [prO_pr, hra, hrs, List.length_map, Bool.and_true, Bool.and_true, decide_eq_true_eq]
            omega
          have bad : (¬ ∃ n rs, Parse z n rs) → RetOk m.length Pd .non (m ++ [.lst (rs.map dpPr)]) := fun h => ret_bel rfl mb .non (qf h)
          refine ds_ret ?_
          repeat' walk_at "d1"
          refine ⟨n, m.length, rs, rfl, one0, by omega, by omega, by omega, roads_in hok, fun b hb => ?_⟩
          cases b with
          | false =>
            repeat' walk_at "d1"
            refine bad ?_
            rintro ⟨n', rs', hp⟩
            have en : n' = n := by have := parI hp; omega
            subst en
            obtain ⟨_, p2, p3⟩ := pars hp
            have : rs' = rs := prs_inj (by rw [hrm, p2])
            subst this
            have := hb.mpr p3.con
            cases this
          | true =>
            repeat' walk_at "d1"
            exact ret_new rfl mb (.lst (.cons (.int _) (.cons (.cellL (Nat.le_refl _) one0 (FrL.refl _ (bel_prs rs))) .nil))) (qt n rs ⟨first, words, hsp, hf, hrm.symm, by omega, by omega, hok, hb.mp rfl⟩)
      · refine .inl (qf ?_)
        rintro ⟨n, rs, hp⟩
        have := parI hp
        have := (pars hp).2.2.h1
        omega
  · repeat' walk_at "d1"
    exact .inl qf
end
end K03
namespace K03
open PySem PySem.Spec PyProof.Rows L2 DL
/-! ### slices by places -/
theorem cut_take {α : Type} (f : α → Dat) (l : List α) (p : Nat) : DL.cutD (l.map f) none (some (p : Int)) = (l.take p).map f := by
  unfold DL.cutD
  rw [HT.sIx_none, HT.sIx_nat, List.length_map, List.drop_zero, Nat.sub_zero, List.map_take, List.take_eq_take_iff]
  simp
theorem cut_drop {α : Type} (f : α → Dat) (l : List α) (p : Nat) : DL.cutD (l.map f) (some (p : Int)) none = (l.drop p).map f := by
  unfold DL.cutD
  rw [HT.sIx_none, HT.sIx_nat, List.length_map, List.map_drop]
  rw [List.take_of_length_le (by simp)]
  by_cases h : p ≤ l.length
  · rw [Nat.min_eq_left h]
  · rw [Nat.min_eq_right (by omega), List.drop_of_length_le (by simp), List.drop_of_length_le (by simp; omega)]
/-! ### what texts weigh -/
def wt (l : List Str) : Nat := (l.map (·.length)).sum + l.length
theorem wt_app (a b : List Str) : wt (a ++ b) = wt a + wt b := by unfold wt; rw [List.map_append, List.sum_append, List.length_append]; omega
theorem wt_cons (a : Str) (l : List Str) : wt (a :: l) = a.length + 1 + wt l := by unfold wt; rw [List.map_cons, List.sum_cons, List.length_cons]; omega
theorem wt_nil : wt [] = 0 := rfl
theorem wt_split {x y : Str} (hy : 1 ≤ y.length) : wt (Txt.split x y) ≤ x.length + 1 := split_weight x y hy
theorem wt_rev (l : List Str) : wt l.reverse = wt l := by
  induction l with
  | nil => rfl
  | cons a l ih => rw [List.reverse_cons, wt_app, ih, wt_cons, wt_cons, wt_nil]; omega
def Lo (z : Str) : Prop := ∀ c ∈ z.cps.toList, c < 128
theorem joinL_mem {s : List Nat} : ∀ {ls : List (List Nat)} {c : Nat}, c ∈ TL.joinL s ls → c ∈ s ∨ ∃ l ∈ ls, c ∈ l
  | [], c, h => by simp [TL.joinL] at h
  | [a], c, h => .inr ⟨a, by simp, by simpa [TL.joinL] using h⟩
  | a :: b :: r, c, h => by
    rw [TL.joinL] at h
    simp only [List.mem_append] at h
    rcases h with h | h | h
    · exact .inr ⟨a, by simp, h⟩
    · exact .inl h
    · rcases joinL_mem h with z | ⟨l, h1, h2⟩
      · exact .inl z
      · exact .inr ⟨l, List.mem_cons_of_mem _ h1, h2⟩
theorem joinL_len {s : List Nat} : ∀ (ls : List (List Nat)), (TL.joinL s ls).length ≤ (ls.map (·.length)).sum + ls.length * s.length
  | [] => by simp [TL.joinL]
  | [a] => by simp [TL.joinL]
  | a :: b :: r => by
    have ih := joinL_len (s := s) (b :: r)
    rw [TL.joinL, List.length_append, List.length_append, List.map_cons, List.sum_cons, List.length_cons, Nat.add_mul, Nat.one_mul]
    omega
theorem join_sm {y : Str} {l : List Str} {n : Nat} (hy : Lo y) (hl : ∀ z ∈ l, Lo z) (hn : (l.map (·.length)).sum + l.length * y.length ≤ n) : Sm n (Txt.join y l) := by
  rw [TL.join_eq]
  have e := TL.tl_join y l
  refine ⟨?_, fun c hc => ?_⟩
  · have h := joinL_len (s := TL.tl y) (l.map TL.tl)
    rw [← e, List.map_map, List.length_map] at h
    rw [strLen]
    refine Nat.le_trans h ?_
    rw [show (l.map ((fun x : List Nat => x.length) ∘ TL.tl)) = l.map (·.length) from List.map_congr_left fun z _ => by simp [TL.tl, strLen], show (TL.tl y).length = y.length by rw [strLen]]
    exact hn
  · have hc' : c ∈ TL.tl (Str.join y l) := hc
    rw [e] at hc'
    rcases joinL_mem hc' with z | ⟨cs, h1, h2⟩
    · exact hy c z
    · obtain ⟨p, hp, rfl⟩ := List.mem_map.mp h1
      exact hl p hp c h2
theorem repl_sm {x z : Str} {c n : Nat} (hx : Lo x) (hz : Lo z) (hn : x.length + 1 + (x.length + 1) * z.length ≤ n) : Sm n (Txt.replace x ⟨#[c]⟩ z) := by
  rw [StrLaws.replace_one, ← TL.join_eq]
  have h1 : 1 ≤ (⟨#[c]⟩ : Str).length := Nat.le_refl _
  have hw := wt_split (x := x) (y := ⟨#[c]⟩) h1
  unfold wt at hw
  refine join_sm hz (fun p hp d hd => ?_) ?_
  · exact (sm_part ⟨Nat.le_refl _, hx⟩ h1 hp).sig d hd
  · refine Nat.le_trans (Nat.add_le_add (Nat.le_trans (Nat.le_add_right _ _) hw) (Nat.mul_le_mul_right _ (Nat.le_trans (Nat.le_add_left _ _) hw))) hn
theorem join_w {y : Str} {l : List Str} {n : Nat} (hy : Lo y) (h1 : y.length = 1) (hl : ∀ z ∈ l, Lo z) (hn : wt l ≤ n) : Sm n (Txt.join y l) := join_sm hy hl (by rw [h1, Nat.mul_one]; exact hn)
/-! ### a written line, taken apart -/
theorem empty_app (x : Str) : Str.empty ++ x = x := TL.ext_tl (by
  show (Str.empty ++ x).cps.toList = x.cps.toList
  have := TL.tl_append Str.empty x
  have e : TL.tl Str.empty = [] := by decide +kernel
  rw [e] at this
  exact this)
theorem str_assoc (x y z : Str) : x ++ y ++ z = x ++ (y ++ z) := TL.ext_tl (by
  show TL.tl (x ++ y ++ z) = TL.tl (x ++ (y ++ z))
  rw [TL.tl_append, TL.tl_append, TL.tl_append, TL.tl_append, List.append_assoc])
theorem app_empty (x : Str) : x ++ Str.ofString "" = x := TL.ext_tl (by
  show TL.tl (x ++ Str.ofString "") = TL.tl x
  have e : TL.tl (Str.ofString "") = [] := by decide +kernel
  rw [TL.tl_append, e, List.append_nil])
theorem join_cat (a : Str) : ∀ (l : List Str), Txt.join " " (a :: l) = a ++ Txt.join "" (l.map fun z => Str.ofString " " ++ z) := by
  intro l
  rw [TL.join_eq, TL.join_eq]
  refine TL.ext_tl ?_
  show TL.tl (Str.join (Str.ofString " ") (a :: l)) = TL.tl (a ++ Str.join (Str.ofString "") (l.map fun z => Str.ofString " " ++ z))
  rw [TL.tl_append, TL.tl_join, TL.tl_join, List.map_cons]
  have e : TL.tl (Str.ofString "") = [] := by decide +kernel
  rw [e, joinL_nil]
  induction l generalizing a with
  | nil => simp [TL.joinL]
  | cons b l ih =>
    rw [List.map_cons, TL.joinL, List.map_cons, List.map_cons, List.flatten_cons, TL.tl_append, ih b]
    simp [List.append_assoc]
theorem writ_line (n : Nat) (rs : List Pr) : writS n rs = lineS n rs := by
  unfold writS lineS
  rw [join_cat]
  have h1 : headS n = nS n ++ Str.ofString ":" := by unfold headS; rw [empty_app]
  have h2 : rs.map wroadS = (rs.map roadS).map fun z => Str.ofString " " ++ z := by
    rw [List.map_map]
    refine List.map_congr_left fun p _ => ?_
    show wroadS p = Str.ofString " " ++ roadS p
    unfold wroadS roadS
    rw [empty_app, str_assoc, str_assoc, str_assoc]
  rw [h1, h2]
theorem nS_dig : ∀ n, n < 66 → ((nS ((n : Nat) : Int)).cps.toList.all fun c => decide (48 ≤ c ∧ c ≤ 57)) = true := by decide +kernel
theorem nS_digs {i : Int} (h0 : 0 ≤ i) (h : i ≤ 65) : ∀ c ∈ TL.tl (nS i), 48 ≤ c ∧ c ≤ 57 := by
  obtain ⟨n, rfl⟩ := nat_of h0
  intro c hc
  have := List.all_eq_true.mp (nS_dig n (by omega)) c hc
  simpa using this
theorem tl_road (p : Pr) : TL.tl (roadS p) = TL.tl (nS p.1) ++ [45] ++ TL.tl (nS p.2) := by
  unfold roadS
  rw [empty_app, TL.tl_append, TL.tl_append]
  have e : TL.tl (Str.ofString "-") = [45] := by decide +kernel
  rw [show TL.tl ("-" : Str) = [45] from e]
theorem tl_head (n : Int) : TL.tl (headS n) = TL.tl (nS n) ++ [58] := by
  unfold headS
  rw [empty_app, TL.tl_append]
  have e : TL.tl (Str.ofString ":") = [58] := by decide +kernel
  rw [show TL.tl (":" : Str) = [58] from e]
theorem line_split {n : Nat} {rs : List Pr} (hn : n ≤ 65) (h : In65 rs) : Txt.split (lineS n rs) " " = headS n :: rs.map roadS := by
  unfold lineS
  refine TL.split_join (s := 32) (S := []) (by decide +kernel) (by decide +kernel) (by simp) fun p hp => ?_
  rcases List.mem_cons.mp hp with z | z
  · rw [z, tl_head]
    intro hc
    rcases List.mem_append.mp hc with c | c
    · have := nS_digs (i := (n : Int)) (by omega) (by omega) 32 c
      omega
    · simp at c
  · obtain ⟨q, hq, rfl⟩ := List.mem_map.mp z
    obtain ⟨a, b, c, d⟩ := h q hq
    rw [tl_road]
    intro hc
    rcases List.mem_append.mp hc with e | e
    · rcases List.mem_append.mp e with f | f
      · have := nS_digs a b 32 f; omega
      · simp at f
    · have := nS_digs c d 32 e; omega
theorem road_nums {p : Pr} (h : 0 ≤ p.1 ∧ p.1 ≤ 65 ∧ 0 ≤ p.2 ∧ p.2 ≤ 65) : numsO (roadS p) = prO p := by
  have e : roadS p = Txt.join "-" [nS p.1, nS p.2] := by
    rw [TL.join_eq]
    refine TL.ext_tl ?_
    show TL.tl (roadS p) = TL.tl (Str.join (Str.ofString "-") [nS p.1, nS p.2])
    rw [tl_road, TL.tl_join]
    have e : TL.tl (Str.ofString "-") = [45] := by decide +kernel
    rw [e]
    simp [TL.joinL]
  unfold numsO prO
  rw [e, TL.split_join (s := 45) (S := []) (by decide +kernel) (by decide +kernel) (by simp) fun q hq hc => ?_]
  · obtain ⟨a, ha⟩ := nat_of h.1
    obtain ⟨b, hb⟩ := nat_of h.2.2.1
    rw [List.map_cons, List.map_cons, List.map_nil, ha, hb, cnt_nS a (by omega), cnt_nS b (by omega)]
  · simp only [List.mem_cons, List.not_mem_nil, or_false] at hq
    rcases hq with z | z
    · rw [z] at hc
      have := nS_digs h.1 h.2.1 45 hc
      omega
    · rw [z] at hc
      have := nS_digs h.2.2.1 h.2.2.2 45 hc
      omega
theorem head_hs {n : Nat} (hn : n ≤ 65) : hs (headS n) = some (n : Int) := by
  have e := tl_head (n : Int)
  unfold hs
  rw [if_pos (ends_is.mpr ⟨_, e⟩)]
  have : cutS (headS n) none (some (-1)) = nS n := TL.ext_tl (cut_but e)
  rw [this]
  exact cnt_nS n (by omega)
theorem in65_of {n : Nat} {rs : List Pr} (hn : n ≤ 65) (h : InR n rs) : In65 rs := fun p hp => by
  have := h p hp
  omega
/-- a tree's line is read as the tree -/
theorem parse_line {n : Nat} {rs : List Pr} (t : TreeOk n rs) : Parse (lineS n rs) n rs := by
  have hin := in65_of (by have := t.h2; omega) (roads_in t.ok)
  refine ⟨_, _, line_split (by have := t.h2; omega) hin, head_hs (by have := t.h2; omega), ?_, t⟩
  rw [List.map_map]
  exact List.map_congr_left fun p hp => road_nums (hin p hp)
/-- .. and what is read as a tree is the tree's line -/
theorem line_parse {z : Str} {n : Nat} {rs : List Pr} (hz : z.length ≤ 4000) (h : Parse z n rs) : z = lineS n rs := by
  obtain ⟨first, words, p⟩ := h
  have hin := in65_of (by have := p.t.h2; omega) (roads_in p.t.ok)
  have hpt : ∀ q ∈ Txt.split z " ", q.length ≤ z.length := fun q hq => split_part (by decide +kernel) hq
  rw [p.sp] at hpt
  have ef : first = headS n := by
    have hh := p.h
    unfold hs at hh
    split at hh
    · rename_i e
      obtain ⟨l, hl⟩ := ends_is.mp e
      have h1 := num_small (Nat.le_trans (cutS_length _ _ _) (Nat.le_trans (hpt first (by simp)) hz)) (cnt_num hh) (by have := p.t.h2; omega)
      refine TL.ext_tl ?_
      rw [tl_head, ← h1.2.1]
      show first.cps.toList = (cutS first none (some (-1))).cps.toList ++ [58]
      rw [cut_but hl, hl]
    · cases hh
  have ew : words = rs.map roadS := by
    have hr := p.r
    have hw : ∀ q ∈ words, q.length ≤ 4000 := fun q hq => Nat.le_trans (hpt q (by simp [hq])) hz
    clear hpt ef
    have key : ∀ (ws : List Str) (rs : List Pr), (∀ q ∈ ws, q.length ≤ 4000) → In65 rs → (∀ p ∈ rs, p.1 ≤ 64 ∧ p.2 ≤ 64) → ws.map numsO = rs.map prO → ws = rs.map roadS := by
      intro ws
      induction ws with
      | nil => intro rs _ _ _ h; cases rs with | nil => rfl | cons _ _ => cases h
      | cons q ws ih =>
        intro rs hq hin h64 h
        cases rs with
        | nil => cases h
        | cons p rs =>
          rw [List.map_cons, List.map_cons, List.cons.injEq] at h
          rw [List.map_cons, ← ih rs (fun x hx => hq x (by simp [hx])) (fun x hx => hin x (by simp [hx])) (fun x hx => h64 x (by simp [hx])) h.2]
          congr 1
          have h1 := h.1
          have hql := hq q (by simp)
          have part : ∀ x ∈ Txt.split q "-", x.length ≤ q.length := fun x hx => split_part (by decide +kernel) hx
          have hj := StrLaws.join_split q "-"
          unfold numsO prO at h1
          match hs : Txt.split q "-", h1 with
          | [x, y], h1 =>
            rw [hs] at part hj
            simp only [List.map_cons, List.map_nil, List.cons.injEq, and_true] at h1
            have a1 := num_small (Nat.le_trans (part x (by simp)) hql) (cnt_num h1.1) (h64 p (by simp)).1
            have a2 := num_small (Nat.le_trans (part y (by simp)) hql) (cnt_num h1.2) (h64 p (by simp)).2
            rw [← hj]
            refine TL.ext_tl ?_
            rw [tl_road, TL.tl_join, ← a1.2.1, ← a2.2.1]
            have e : TL.tl (Str.ofString "-") = [45] := by decide +kernel
            rw [e]
            simp [TL.joinL]
          | [], h1 => simp at h1
          | [_], h1 => simp at h1
          | _ :: _ :: _ :: _, h1 => simp at h1
    exact key words rs hw hin (fun q hq => by have := roads_in p.t.ok q hq; have := p.t.h2; omega) hr
  have hj := StrLaws.join_split z " "
  rw [p.sp, ef, ew] at hj
  unfold lineS
  rw [TL.join_eq]
  exact hj.symm
end K03
namespace K03
open PySem PySem.Spec PyProof.Rows L2 DL
local macro_rules | `(tactic| walk_at "hyp") => `(tactic| (first
  | (simp only [Bool.not_eq_true', Bool.not_eq_false', decide_eq_true_eq, decide_eq_false_iff_not, Bool.or_eq_true, Bool.and_eq_true, Bool.or_eq_false_iff, Bool.not_true, Bool.not_false, Bool.and_eq_false_iff] at *)
  | skip))
local macro_rules | `(tactic| walk_at "d1") => `(tactic| first
  | with_reducible refine ds_seq ?_
  | with_reducible refine ds_if ?_
  | with_reducible refine ds_ret ?_
  | with_reducible refine ds_set ?_
  | with_reducible refine ds_drop ?_
  | with_reducible refine ds_par ?_
  | with_reducible refine ds_par3 ?_
  | with_reducible refine ds_next ?_
  | with_reducible refine de_var rfl ?_
  | with_reducible refine de_int ?_
  | with_reducible refine de_str ?_
  | with_reducible refine de_bl ?_
  | with_reducible refine de_non ?_
  | with_reducible refine de_ty ?_
  | with_reducible refine de_ref ?_
  | with_reducible refine de_op ?_
  | with_reducible refine de_chain ?_
  | with_reducible refine de_un ?_
  | with_reducible refine de_dnew ?_
  | with_reducible refine de_disp1 ?_
  | with_reducible refine de_cb ?_
  | with_reducible refine de_bm ?_
  | with_reducible refine de_sl ?_
  | with_reducible refine de_tup ?_
  | with_reducible refine de_lst ?_
  | with_reducible refine de_fstr ?_
  | with_reducible refine de_fmtS ?_
  | with_reducible refine dj_cons ?_
  | with_reducible refine dj_nil ?_
  | with_reducible refine do_none ?_
  | with_reducible refine do_some ?_
  | with_reducible refine de_g0 (dds := []) (fun _ => .nil) ?_
  | with_reducible refine de_g (dds := []) (fun _ => .nil) ?_
  | with_reducible refine de_lc ?_
  | with_reducible refine di_str ?_
  | with_reducible refine di_tup ?_
  | with_reducible refine de_notV ?_
  | with_reducible refine de_andV ?_
  | with_reducible refine de_orV ?_
  | with_reducible refine de_if ?_
  | with_reducible refine dt_test ?_
  | with_reducible refine dt_B ?_
  | with_reducible refine dt_and ?_
  | with_reducible refine dt_or ?_
  | with_reducible refine dt_not ?_
  | with_reducible refine dt_yes ?_
  | with_reducible refine da_cons ?_
  | with_reducible refine da_nil ?_
  | with_reducible refine d2_leI ?_
  | with_reducible refine d2_ltI ?_
  | with_reducible refine d2_geI ?_
  | with_reducible refine d2_gtI ?_
  | with_reducible refine d2_addI ?_
  | with_reducible refine d2_sub ?_
  | ((with_reducible refine' d2_leS1 (sign1_cps _) ?hs1 ?_); (case hs1 => first | exact sg_a | exact sg_z | exact sg_sp | exact sg_ti))
  | ((with_reducible refine' d2_leS1 ?hs1 (sign1_cps _) ?_); (case hs1 => first | exact sg_a | exact sg_z | exact sg_sp | exact sg_ti))
  | with_reducible refine dr_int ?_
  | with_reducible refine dr_abs ?_
  | with_reducible refine dg_sub ?_
  | ((with_reducible refine' d2_ix ?hsq ?hix ?_); (case hsq => assumption); (case hix => rfl))
  | ((with_reducible refine' d2_mod ?hmod ?_); (case hmod => first | decide | omega))
  | ((with_reducible refine' d2_mul ?hmul ?_); (case hmul => exact mul_ok (by omega) (by omega)))
  | ((with_reducible refine' d2_div ?hdiv ?_); (case hdiv => exact div_ok (by first | decide | omega) (by omega)))
  | ((with_reducible refine' d2_pow ?hpow ?_); (case hpow => exact pow_ok (by decide) (by decide) (by omega)))
  | with_reducible refine d2_notI ?_
  | with_reducible refine d2_notSt ?_
  | with_reducible refine d2_notNn ?_
  | with_reducible refine d2_notT ?_
  | with_reducible refine d2_isI ?_
  | with_reducible refine d2_isNn ?_
  | with_reducible refine d2_isT ?_
  | with_reducible refine d2_neI ?_
  | with_reducible refine d2_eqI ?_
  | with_reducible refine d2_eqS ?_
  | with_reducible refine d2_neS ?_
  | with_reducible refine dr_isiK (by assumption) (by decide) (by first | assumption | exact isTyD_str _ | exact isTyD_tup _ | rfl) ?_
  | with_reducible refine dr_lenT ?_
  | with_reducible refine dr_lenL ?_
  | with_reducible refine dr_lenR ?_
  | with_reducible refine dr_lenC (by assumption) ?_
  | with_reducible refine ds_to ?_
  | with_reducible refine dg_name (by decide) ?_
  | with_reducible refine dg_tup2 ?_
  | with_reducible refine dg_tup3 ?_
  | with_reducible refine dg_tup4 ?_
  | with_reducible refine dgs_cons ?_
  | with_reducible refine dgs_nil ?_
  | with_reducible refine dr_lenS (by omega) ?_
  | with_reducible refine ⟨⟨by simp only [List.length_cons, List.length_nil], by simp only [List.length_cons, List.length_nil]; omega⟩, ?_⟩
  | with_reducible refine ⟨_, rfl, ?_⟩
  | with_reducible refine ⟨_, _, rfl, ?_⟩
  | with_reducible refine ⟨tyD_str, ?_⟩
  | with_reducible refine ⟨by omega, ?_⟩
  | with_reducible refine ⟨by (simp only [PySem.Str.length_append, len_empty, len_sp, List.length_cons, List.length_nil, List.length_append]; omega), ?_⟩
  | with_reducible refine bothT ?_
  | with_reducible refine bothF ?_
  | with_reducible refine bothNT ?_
  | with_reducible refine bothNF ?_
  | (with_reducible refine both (fun hc => ?_) (fun hc => ?_) <;> (try simp only [Bool.not_eq_true', Bool.not_eq_false', decide_eq_true_eq, decide_eq_false_iff_not] at hc) <;> (try (exfalso; omega)) <;> (try exact absurd rfl hc) <;> (try exact absurd trivial hc)))

local macro_rules | `(tactic| walk_at "sm") => `(tactic| first
  | with_reducible refine di_lst ?_
  | with_reducible refine as_lst ?_
  | ((with_reducible refine' d2_addSm ?hs1 ?hs2 ?hs3 (fun hs => ?_)); (case hs1 => assumption); (case hs2 => assumption); (case hs3 => omega))
  | ((with_reducible refine' d2_addL ?hal ?_); (case hal => (simp; try omega)))
  | with_reducible refine d1_neg ?_)

abbrev s__law_spoilt_sign : Stmt := (topS 32)
theorem sc__law_spoilt_sign : FnScope ["box", "text", "menu", "way", "place", "sign"] ["box", "text"] (defScope s__law_spoilt_sign) := ⟨rfl, rfl, rfl, by decide +kernel, rfl, by decide +kernel, by decide +kernel⟩
abbrev s__law_spoilt_word : Stmt := (topS 33)
theorem sc__law_spoilt_word : FnScope ["box", "text", "words", "kind", "place", "word", "head", "tail", "rows", "turned", "first"] ["box", "text"] (defScope s__law_spoilt_word) := ⟨rfl, rfl, rfl, by decide +kernel, rfl, by decide +kernel, by decide +kernel⟩
abbrev s__law_other_road : Stmt := (topS 34)
theorem sc__law_other_road : FnScope ["box", "houses", "roads", "place", "u", "v"] ["box", "houses", "roads"] (defScope s__law_other_road) := ⟨rfl, rfl, rfl, by decide +kernel, rfl, by decide +kernel, by decide +kernel⟩
section
variable {P : Program} {w : World} {K : PySem.W.Frag} {mg : Str → Option Value} {base : Heap}
def menu : List Str := ["0", "1", "9", "6", " ", ":", "-", "+", "_", "x", ".", "\n", "\t", "~"]
theorem all_sm {n : Nat} {l : List Str} (h : (l.all fun z => decide (z.length ≤ n) && z.cps.toList.all fun c => decide (c < 128)) = true) : ∀ z ∈ l, Sm n z := fun z hz => Sm.lit (List.all_eq_true.mp h z hz)
theorem menu_sm : ∀ z ∈ menu, Sm 1 z := all_sm (by decide +kernel)
theorem at_any {l : List Str} {Z : Str → Prop} {r : Int} (h : ∀ z ∈ l, Z z) (h0 : 0 ≤ r) (h1 : r < l.length) : ∃ z, atI (l.map Dat.str) r = some (.str z) ∧ Z z := by
  obtain ⟨a, ha, e⟩ := atI_map Dat.str h0 h1
  exact ⟨a, e, h a ha⟩
theorem cut_l (z : Str) (p : Nat) : (cutS z none (some (p : Int))).length ≤ p := by
  rw [strLen]
  unfold cutS
  rw [HT.sIx_none, HT.sIx_nat]
  simp
  omega
theorem cut_r (z : Str) (p : Nat) : (cutS z (some (p : Int)) none).length ≤ z.length - p := by
  rw [strLen]
  unfold cutS
  rw [HT.sIx_none, HT.sIx_nat]
  simp
  omega
theorem at_str {l : List Str} {n : Nat} {r : Int} (h : ∀ z ∈ l, Sm n z) (h0 : 0 ≤ r) (h1 : r < l.length) : ∃ z, atI (l.map Dat.str) r = some (.str z) ∧ Sm n z := by
  obtain ⟨a, ha, e⟩ := atI_map Dat.str h0 h1
  exact ⟨a, e, h a ha⟩
def pm_ssign (K : PySem.W.Frag) : Pm := fun ds ms P X => ∃ (k c : Nat) (xs : List Dat) (z : Str), ds = [.cell k, .str z] ∧ ms[k]? = some (.lst xs) ∧ BoxOk c xs ∧ c ≤ 90000 ∧ Sm 550 z ∧
  ∀ z' ys c', Sm 600 z' → BoxOk c' ys → c' ≤ c + 10 → P (.str z') (ms.set k (.lst ys))
theorem ok_spoilt_sign {f : Addr} {fd : FuncData}  {g0 : Addr} {fd0 : FuncData} (D__law_take : Df K mg "_law_take" g0) (G__law_take : FnG P w K mg base (L2N.CX P w) 1 g0 fd0 ["box", "many"] (spD K (pm_take K))) (b__law_take : Binds K fd0 ["box", "many"] []) (F : Fun K "_law_spoilt_sign" "_law_spoilt_sign" s__law_spoilt_sign f fd) (T : Txt K mg) :
    FnG P w K mg base (L2N.CX P w) 2 f fd ["box", "text"] (spD K (pm_ssign K)) := by
  refine fn_dl F sc__law_spoilt_sign (fun ds ms Pd X h => by obtain ⟨_, _, _, _, rfl, _⟩ := h; rfl) (fun cdv Ar outer s H E hr hq => ?_)
  have tk := (L2N.takes_of (X := cxOf (L2N.CX P w) P w K mg base ["box", "text", "menu", "way", "place", "sign"] "_law_spoilt_sign" (defScope s__law_spoilt_sign) f cdv Ar outer s H E) (E := E) rfl rfl rfl rfl)
  refine ⟨_, (pss_cons (ps_set (i := 2) sc__law_spoilt_sign.nd rfl (by first | exact Or.inl rfl | exact Or.inr rfl) (pe_lst (pa_cons pe_str (pa_cons pe_str (pa_cons pe_str (pa_cons pe_str (pa_cons pe_str (pa_cons pe_str (pa_cons pe_str (pa_cons pe_str (pa_cons pe_str (pa_cons pe_str (pa_cons pe_str (pa_cons pe_str (pa_cons pe_str (pa_cons pe_str pa_nil)))))))))))))))) (pss_cons (ps_par3 (i := 3) (j := 4) (l := 5) rfl sc__law_spoilt_sign.nd rfl rfl rfl (by decide) (by decide) (by decide) rfl rfl rfl (pa_cons (pe_g G__law_take (hr.mono (by decide)) hq rfl D__law_take.m D__law_take.k b__law_take .nil (fun σ => L2N.passAt tk σ) (pa_cons (pv 0) (pa_cons pe_int pa_nil))) (pa_cons (pe_g G__law_take (hr.mono (by decide)) hq rfl D__law_take.m D__law_take.k b__law_take .nil (fun σ => L2N.passAt tk σ) (pa_cons (pv 0) (pa_cons (pe_op op_addA (pe_callB (crK (K := K) (r := rLenK) rfl call_len) (by rfl) T.b_len bt_len (pa_cons (pv 1) pa_nil)) pe_int) pa_nil))) (pa_cons (pe_ix (ixK (K := K) (r := rIx) rfl ix_seq) (pv 2) (pe_g G__law_take (hr.mono (by decide)) hq rfl D__law_take.m D__law_take.k b__law_take .nil (fun σ => L2N.passAt tk σ) (pa_cons (pv 0) (pa_cons pe_int pa_nil))) (fun _ _ => rfl)) pa_nil))) (by rfl)) (pss_one (ps_ret (pe_op op_addA (pe_slice (slK (K := K) (r := rSlA) rfl sl_A) (pv 1) po_none (po_some (pv 4))) (pe_ix (ixK (K := K) (r := rIx) rfl ix_seq) (pe_lst (pa_cons (pe_op op_addA (pv 5) (pe_slice (slK (K := K) (r := rSlA) rfl sl_A) (pv 1) (po_some (pe_op op_addA (pv 4) pe_int)) po_none)) (pa_cons (pe_op op_addA (pv 5) (pe_slice (slK (K := K) (r := rSlA) rfl sl_A) (pv 1) (po_some (pv 4)) po_none)) (pa_cons (pe_slice (slK (K := K) (r := rSlA) rfl sl_A) (pv 1) (po_some (pe_op op_addA (pv 4) pe_int)) po_none) pa_nil)))) (pv 3) (fun _ _ => rfl))))))), ?_⟩
  try simp only [cxK]
  rintro _ ms Pd Xd ⟨k, c, xs, z, rfl, hk, hb, hc, hz, q⟩ bl mb
  have hzl := hz.len
  have em : [Dat.str "0", .str "1", .str "9", .str "6", .str " ", .str ":", .str "-", .str "+", .str "_", .str "x", .str ".", .str "\n", .str "\t", .str "~"] = menu.map Dat.str := rfl
  repeat' walk_at "d1"
  refine ⟨k, c, 3, xs, rfl, by decide, by decide, hk, hb, by omega, fun way ys hw0 hw1 hb1 => ?_⟩
  repeat' walk_at "d1"
  refine ⟨k, c + 1, (z.length : Int) + 1, ys, rfl, by omega, by omega, setS hk, hb1, by omega, fun place ys2 hp0 hp1 hb2 => ?_⟩
  rw [List.set_set]
  repeat' walk_at "d1"
  refine ⟨k, c + 2, 14, ys2, rfl, by decide, by decide, setS hk, hb2, by omega, fun r ys3 hr0 hr1 hb3 => ?_⟩
  rw [List.set_set]
  repeat' walk_at "d1"
  obtain ⟨g, hg, hgs⟩ := at_str menu_sm hr0 (by exact hr1)
  rw [← em] at hg
  refine d2_ix (.inl rfl) hg ?_
  repeat' walk_at "d1"
  obtain ⟨p, rfl⟩ := nat_of hp0
  have c1 := cut_l z p
  have c2 := cut_r z p
  have c3 := cut_r z (p + 1)
  have e1 : ((p + 1 : Nat) : Int) = (p : Int) + 1 := by omega
  rw [e1] at c3
  have lo : ∀ a b, Lo (cutS z a b) := fun a b => (hz.cut a b).sig
  have gl := hgs.len
  refine ⟨_, _, _, rfl, ds_ret ?_⟩
  repeat' walk_at "d1"
  refine dsl_Sm hz (by omega) fun s1 => ?_
  repeat' walk_at "d1"
  refine dsl_Sm hz (by omega) fun s2 => ?_
  refine d2_addSm hgs s2 (by omega) fun s3 => ?_
  repeat' walk_at "d1"
  refine dsl_Sm hz (by omega) fun s4 => ?_
  refine d2_addSm hgs s4 (by omega) fun s5 => ?_
  repeat' walk_at "d1"
  refine dsl_Sm hz (by omega) fun s6 => ?_
  repeat' walk_at "d1"
  obtain ⟨g2, hg2, hs2, hl2⟩ := at_any (l := [g ++ cutS z (some ((p : Int) + 1)) none, g ++ cutS z (some (p : Int)) none, cutS z (some ((p : Int) + 1)) none]) (Z := fun y => Lo y ∧ y.length ≤ z.length - p + 1) (by
    intro y hy
    simp only [List.mem_cons, List.not_mem_nil, or_false] at hy
    rcases hy with h | h | h <;> subst h
    · exact ⟨s3.sig, by rw [Str.length_append]; omega⟩
    · exact ⟨s5.sig, by rw [Str.length_append]; omega⟩
    · exact ⟨s6.sig, by omega⟩) hw0 (by exact hw1)
  refine d2_ix (.inl rfl) hg2 ?_
  refine d2_addS (by omega) (.inl (q _ ys3 (c + 3) ⟨by rw [Str.length_append]; omega, ((⟨Nat.le_refl _, s1.sig⟩ : Sm _ _).app ⟨Nat.le_refl _, hs2⟩).sig⟩ hb3 (by omega)))
theorem cut_take1 (l : List Str) : DL.cutD (l.map Dat.str) none (some 1) = (l.take 1).map Dat.str := cut_take Dat.str l 1
theorem cut_drop1 (l : List Str) : DL.cutD (l.map Dat.str) (some 1) none = (l.drop 1).map Dat.str := cut_drop Dat.str l 1
def firsts : List Str := ["0:", "65:", "1:", "64:", "2:", "9999999999999999999:", "00:", ":", "-1:"]
theorem firsts_sm : ∀ z ∈ firsts, Sm 21 z := all_sm (by decide +kernel)
def pm_sword (K : PySem.W.Frag) : Pm := fun ds ms P X => ∃ (k c : Nat) (xs : List Dat) (z : Str), ds = [.cell k, .str z] ∧ ms[k]? = some (.lst xs) ∧ BoxOk c xs ∧ c ≤ 90000 ∧ Sm 400 z ∧ (∀ p ∈ Txt.split z " ", p.length ≤ 5) ∧
  ∀ z' ys c', Sm 500 z' → BoxOk c' ys → c' ≤ c + 10 → P (.str z') (ms.set k (.lst ys))
theorem ok_spoilt_word {f : Addr} {fd : FuncData}  {g0 : Addr} {fd0 : FuncData} (D__law_take : Df K mg "_law_take" g0) (G__law_take : FnG P w K mg base (L2N.CX P w) 1 g0 fd0 ["box", "many"] (spD K (pm_take K))) (b__law_take : Binds K fd0 ["box", "many"] []) (F : Fun K "_law_spoilt_word" "_law_spoilt_word" s__law_spoilt_word f fd) (T : Txt K mg) :
    FnG P w K mg base (L2N.CX P w) 2 f fd ["box", "text"] (spD K (pm_sword K)) := by
  refine fn_dl F sc__law_spoilt_word (fun ds ms Pd X h => by obtain ⟨_, _, _, _, rfl, _⟩ := h; rfl) (fun cdv Ar outer s H E hr hq => ?_)
  have tk := (L2N.takes_of (X := cxOf (L2N.CX P w) P w K mg base ["box", "text", "words", "kind", "place", "word", "head", "tail", "rows", "turned", "first"] "_law_spoilt_word" (defScope s__law_spoilt_word) f cdv Ar outer s H E) (E := E) rfl rfl rfl rfl)
  refine ⟨_, (pss_cons (ps_set (i := 2) sc__law_spoilt_word.nd rfl (by first | exact Or.inl rfl | exact Or.inr rfl) (pe_bmK (K := K) rfl PySem.F.plainAttrs_str PySem.F.slot_str_split PySem.F.type_str_split mt_split (pv 1) (pa_cons pe_str pa_nil))) (pss_cons (ps_par (i := 3) (j := 4) rfl sc__law_spoilt_word.nd rfl rfl (by decide) rfl rfl (pa_cons (pe_g G__law_take (hr.mono (by decide)) hq rfl D__law_take.m D__law_take.k b__law_take .nil (fun σ => L2N.passAt tk σ) (pa_cons (pv 0) (pa_cons pe_int pa_nil))) (pa_cons (pe_g G__law_take (hr.mono (by decide)) hq rfl D__law_take.m D__law_take.k b__law_take .nil (fun σ => L2N.passAt tk σ) (pa_cons (pv 0) (pa_cons (pe_callB (crK (K := K) (r := rLenK) rfl call_len) (by rfl) T.b_len bt_len (pa_cons (pv 2) pa_nil)) pa_nil))) pa_nil)) (by rfl)) (pss_cons (ps_par3 (i := 5) (j := 6) (l := 7) rfl sc__law_spoilt_word.nd rfl rfl rfl (by decide) (by decide) (by decide) rfl rfl rfl (pa_cons (pe_ix (ixK (K := K) (r := rIx) rfl ix_seq) (pv 2) (pv 4) (fun _ _ => rfl)) (pa_cons (pe_slice (slK (K := K) (r := rSlA) rfl sl_A) (pv 2) po_none (po_some (pv 4))) (pa_cons (pe_slice (slK (K := K) (r := rSlA) rfl sl_A) (pv 2) (po_some (pe_op op_addA (pv 4) pe_int)) po_none) pa_nil))) (by rfl)) (pss_cons (ps_if (pt_cmpR op_ltA (pv 3) pe_int (nomark _)) (pss_cons (ps_set (i := 8) sc__law_spoilt_word.nd rfl (by first | exact Or.inl rfl | exact Or.inr rfl) (pe_lst (pa_cons (pe_op op_addA (pe_op op_addA (pv 6) (pe_lst (pa_cons (pv 5) (pa_cons (pv 5) pa_nil)))) (pv 7)) (pa_cons (pe_op op_addA (pv 6) (pv 7)) (pa_cons (pe_op op_addA (pe_op op_addA (pe_op op_addA (pv 6) (pe_slice (slK (K := K) (r := rSlA) rfl sl_A) (pv 7) po_none (po_some pe_int))) (pe_lst (pa_cons (pv 5) pa_nil))) (pe_slice (slK (K := K) (r := rSlA) rfl sl_A) (pv 7) (po_some pe_int) po_none)) (pa_cons (pe_op op_addA (pe_op op_addA (pv 6) (pv 7)) (pe_lst (pa_cons (pv 5) pa_nil))) pa_nil)))))) (pss_one (ps_ret (pe_bmK (K := K) rfl PySem.F.plainAttrs_str PySem.F.slot_str_join PySem.F.type_str_join mt_join pe_str (pa_cons (pe_ix (ixK (K := K) (r := rIx) rfl ix_seq) (pv 8) (pv 3) (fun _ _ => rfl)) pa_nil))))) pss_nil) (pss_cons (ps_if (pt_cmpR op_ltA (pv 3) pe_int (nomark _)) (pss_cons (ps_set (i := 9) sc__law_spoilt_word.nd rfl (by first | exact Or.inl rfl | exact Or.inr rfl) (pe_bmK (K := K) rfl PySem.F.plainAttrs_str PySem.F.slot_str_join PySem.F.type_str_join mt_join pe_str (pa_cons (pe_revL (pe_bmK (K := K) rfl PySem.F.plainAttrs_str PySem.F.slot_str_split PySem.F.type_str_split mt_split (pv 5) (pa_cons pe_str pa_nil))) pa_nil))) (pss_one (ps_ret (pe_bmK (K := K) rfl PySem.F.plainAttrs_str PySem.F.slot_str_join PySem.F.type_str_join mt_join pe_str (pa_cons (pe_op op_addA (pe_op op_addA (pv 6) (pe_lst (pa_cons (pe_ix (ixK (K := K) (r := rIx) rfl ix_seq) (pe_lst (pa_cons (pv 9) (DL.pa_consB (DL.peb_op op_addA (pv 5)) (DL.pat_cons (CwR.pet_replC (pv 5)) (DL.pat_of (pa_cons (pe_op op_addA (pv 5) pe_str) pa_nil)))))) (pe_op op_subA (pv 3) pe_int) (fun _ _ => rfl)) pa_nil))) (pv 7)) pa_nil))))) pss_nil) (pss_cons (ps_set (i := 10) sc__law_spoilt_word.nd rfl (by first | exact Or.inl rfl | exact Or.inr rfl) (pe_ix (ixK (K := K) (r := rIx) rfl ix_seq) (pe_lst (pa_cons pe_str (pa_cons pe_str (pa_cons pe_str (pa_cons pe_str (pa_cons pe_str (pa_cons pe_str (pa_cons pe_str (pa_cons pe_str (pa_cons pe_str pa_nil)))))))))) (pe_g G__law_take (hr.mono (by decide)) hq rfl D__law_take.m D__law_take.k b__law_take .nil (fun σ => L2N.passAt tk σ) (pa_cons (pv 0) (pa_cons pe_int pa_nil))) (fun _ _ => rfl))) (pss_cons (ps_if (pt_cmpR (opK (K := K) (r := rEqA) rfl (op_eqA hr.units)) (pv 3) pe_int (nomark _)) (pss_one (ps_ret (pe_bmK (K := K) rfl PySem.F.plainAttrs_str PySem.F.slot_str_join PySem.F.type_str_join mt_join pe_str (pa_cons (pe_op op_addA (pe_lst (pa_cons (pv 10) pa_nil)) (pe_slice (slK (K := K) (r := rSlA) rfl sl_A) (pv 2) (po_some pe_int) po_none)) pa_nil)))) pss_nil) (pss_one (ps_ret (pe_ix (ixK (K := K) (r := rIx) rfl ix_seq) (pe_lst (DL.pa_consB (DL.peb_op op_addA (pv 1)) (DL.pat_cons (CwR.PET.of (pe_op op_addA pe_str (pv 1))) (DL.pat_cons (CwR.pet_replC (pv 1)) (DL.pat_of (pa_cons (pe_op op_addA (pv 1) pe_str) (pa_cons (pe_op op_addA (pv 1) pe_str) pa_nil))))))) (pe_g G__law_take (hr.mono (by decide)) hq rfl D__law_take.m D__law_take.k b__law_take .nil (fun σ => L2N.passAt tk σ) (pa_cons (pv 0) (pa_cons pe_int pa_nil))) (fun _ _ => rfl))))))))))), ?_⟩
  try simp only [cxK]
  rintro _ ms Pd Xd ⟨k, c, xs, z, rfl, hk, hb, hc, hz, h5, q⟩ bl mb
  have hzl := hz.len
  have hw := wt_split (x := z) (y := " ") (by decide +kernel)
  have hlo : ∀ p ∈ Txt.split z " ", Lo p := fun p hp => (sm_part hz (by decide +kernel) hp).sig
  obtain ⟨w0, ws0, hsp⟩ := split_cons z " " (by decide +kernel) (by decide +kernel)
  repeat' walk_at "d1"
  refine dr_split (by decide +kernel) (by omega) ?_
  generalize hws : Txt.split z (Str.ofString " ") = words at hw hlo h5 hsp
  have hwl : words.length ≤ 401 := by unfold wt at hw; omega
  have hwp : 1 ≤ words.length := by rw [hsp]; simp
  repeat' walk_at "d1"
  refine ⟨k, c, 10, xs, rfl, by decide, by decide, hk, hb, by omega, fun kind ys hk0 hk1 hb1 => ?_⟩
  repeat' walk_at "d1"
  rw [List.length_map]
  refine ⟨k, c + 1, words.length, ys, rfl, by omega, by omega, setS hk, hb1, by omega, fun place ys2 hp0 hp1 hb2 => ?_⟩
  rw [List.set_set]
  obtain ⟨p, rfl⟩ := nat_of hp0
  have hp : p < words.length := by omega
  repeat' walk_at "d1"
  have hsplit : words = words.take p ++ words[p] :: words.drop (p + 1) := by rw [List.getElem_cons_drop, List.take_append_drop]
  have hwt : wt words = wt (words.take p) + (words[p].length + 1 + wt (words.drop (p + 1))) := by
    have := congrArg wt hsplit
    rw [wt_app, wt_cons] at this
    exact this
  have hwd5 := h5 _ (List.getElem_mem hp)
  have lwd := hlo _ (List.getElem_mem hp)
  have lhd : ∀ z ∈ words.take p, Lo z := fun z hz => hlo z (List.mem_of_mem_take hz)
  have ltl : ∀ z ∈ words.drop (p + 1), Lo z := fun z hz => hlo z (List.mem_of_mem_drop hz)
  have at_p : atI (words.map Dat.str) (p : Int) = some (.str words[p]) := at_nat (by rw [List.getElem?_map, List.getElem?_eq_getElem hp]; rfl)
  have ct := cut_take Dat.str words p
  have cd : DL.cutD (words.map Dat.str) (some ((p : Int) + 1)) none = (words.drop (p + 1)).map Dat.str := cut_drop Dat.str words (p + 1)
  generalize words[p] = wd at hwt hwd5 lwd at_p
  generalize words.take p = hd at hwt lhd ct
  generalize words.drop (p + 1) = tl at hwt ltl cd
  have ll := hw
  rw [hwt] at ll
  have hdl : hd.length ≤ 401 := by unfold wt at ll; omega
  have tll : tl.length ≤ 401 := by unfold wt at ll; omega
  repeat' walk_at "d1"
  refine d2_ix (.inl rfl) at_p ?_
  repeat' walk_at "d1"
  refine dsl_list (.inl rfl) ?_
  rw [ct]
  repeat' walk_at "d1"
  refine dsl_list (.inl rfl) ?_
  rw [cd]
  repeat' walk_at "d1"
  have lsp : Lo (Str.ofString " ") := by unfold Lo; decide +kernel
  have fin : ∀ (D : List Dat) (l : List Str) (xs3 : List Dat) (c3 : Nat), D = l.map Dat.str → (∀ z ∈ l, Lo z) → wt l ≤ 500 → BoxOk c3 xs3 → c3 ≤ c + 10 → DR K (fun vs => match vs with | v :: ws => (fun x xs H Q => ∃ a p, ∃ ys : List Str, x = V.str a ∧ xs = [V.ref p] ∧ (SqL K H p (ys.map V.str) ∨ SqT K H p (ys.map V.str)) ∧ (ys.map (·.length)).sum + ys.length * a.length ≤ 16777216 ∧ Q (.str (Txt.join a ys)) H) v ws | [] => fun _ _ => False) [.str (Str.ofString " "), .lst D] (ms.set k (.lst xs3)) (bodyOut ms.length Pd Xd).rt := fun D l xs3 c3 e h1 h2 h3 h4 => by
    subst e
    refine dr_join ?_ (Or.inl (q _ xs3 c3 (join_w lsp len1.2.2.2 h1 h2) h3 h4))
    rw [len1.2.2.2, Nat.mul_one]
    exact Nat.le_trans h2 (by decide)
  have l2 : ∀ {a b : List Str}, (∀ z ∈ a, Lo z) → (∀ z ∈ b, Lo z) → ∀ z ∈ a ++ b, Lo z := fun h1 h2 z hz => (List.mem_append.mp hz).elim (h1 z) (h2 z)
  have l1 : ∀ {a : Str}, Lo a → ∀ z ∈ [a], Lo z := fun h z hz => by rw [List.mem_singleton.mp hz]; exact h
  refine ⟨_, _, _, rfl, ?_⟩
  by_cases k4 : kind < 4
  · repeat' first
      | walk_at "d1"
      | walk_at "sm"
    refine dsl_list (.inl rfl) ?_
    rw [cut_take1]
    have t1 : (tl.take 1).length ≤ 401 := Nat.le_trans (List.length_take_le' _ _) tll
    have t2 : (tl.drop 1).length ≤ 401 := by rw [List.length_drop]; omega
    repeat' first
      | walk_at "d1"
      | walk_at "sm"
    refine dsl_list (.inl rfl) ?_
    rw [cut_drop1]
    repeat' first
      | walk_at "d1"
      | walk_at "sm"
    have h4 : kind = 0 ∨ kind = 1 ∨ kind = 2 ∨ kind = 3 := by omega
    have w1 : wt (tl.take 1) + wt (tl.drop 1) = wt tl := by rw [← wt_app, List.take_append_drop]
    rcases h4 with h | h | h | h <;> subst h
    · refine d2_ix (.inl rfl) rfl (da_nil (fin _ (hd ++ [wd, wd] ++ tl) ys2 (c + 2) (by simp) (l2 (l2 lhd (l2 (l1 lwd) (l1 lwd))) ltl) ?_ hb2 (by omega)))
      simp only [wt_app, wt_cons, wt_nil]; omega
    · refine d2_ix (.inl rfl) rfl (da_nil (fin _ (hd ++ tl) ys2 (c + 2) (by simp) (l2 lhd ltl) ?_ hb2 (by omega)))
      simp only [wt_app]; omega
    · refine d2_ix (.inl rfl) rfl (da_nil (fin _ (hd ++ tl.take 1 ++ [wd] ++ tl.drop 1) ys2 (c + 2) (by simp only [List.map_append]; rfl) (l2 (l2 (l2 lhd fun z hz => ltl z (List.mem_of_mem_take hz)) (l1 lwd)) fun z hz => ltl z (List.mem_of_mem_drop hz)) ?_ hb2 (by omega)))
      simp only [wt_app, wt_cons, wt_nil]; omega
    · refine d2_ix (.inl rfl) rfl (da_nil (fin _ (hd ++ tl ++ [wd]) ys2 (c + 2) (by simp) (l2 (l2 lhd ltl) (l1 lwd)) ?_ hb2 (by omega)))
      simp only [wt_app, wt_cons, wt_nil]; omega
  by_cases k8 : kind < 8
  · repeat' walk_at "d1"
    refine de_revL ?_
    repeat' walk_at "d1"
    refine dr_split (by decide +kernel) (by omega) ⟨_, .inl rfl, ?_⟩
    rw [← List.map_reverse]
    have ldash : Lo (Str.ofString "-") := by unfold Lo; decide +kernel
    have ldash0 : Lo (Str.ofString "-0") := by unfold Lo; decide +kernel
    have wsp := wt_split (x := wd) (y := "-") (by decide +kernel)
    have lsp2 : ∀ z ∈ (Txt.split wd "-").reverse, Lo z := fun z hz => (sm_part (⟨Nat.le_refl _, lwd⟩ : Sm _ wd) (by decide +kernel) (List.mem_reverse.mp hz)).sig
    have tsm : Sm 6 (Txt.join "-" (Txt.split wd "-").reverse) := join_w ldash len1.2.1 lsp2 (by rw [wt_rev]; omega)
    repeat' walk_at "d1"
    refine dr_join (a := Str.ofString "-") (ys := (Txt.split wd "-").reverse) ?_ ?_
    · have := wt_rev (Txt.split wd "-")
      unfold wt at this wsp
      rw [len1.2.1]
      omega
    generalize Txt.join (Str.ofString "-") (Txt.split wd (Str.ofString "-")).reverse = tn at tsm
    repeat' walk_at "d1"
    have swd : Sm 5 wd := ⟨hwd5, lwd⟩
    have s0 : Sm 1 (Str.ofString "0") := Sm.lit (by decide +kernel)
    have s1 : Sm 2 (Str.ofString "-1") := Sm.lit (by decide +kernel)
    have srp : Sm 20 (Txt.replace wd (Str.ofString "-") (Str.ofString "-0")) := by
      have e : Str.ofString "-" = ⟨#[45]⟩ := by decide +kernel
      have e2 : (Str.ofString "-0").length = 2 := by decide +kernel
      have := repl_sm (x := wd) (z := Str.ofString "-0") (c := 45) (n := 20) lwd ldash0 (by rw [e2]; omega)
      rw [e]
      exact this
    have e2 : (Str.ofString "-0").length = 2 := by decide +kernel
    refine d2_addSm s0 swd (by omega) fun s2 => ?_
    refine da_cons (de_repl (de_var rfl ⟨wd, rfl, by rw [e2]; omega, ?_⟩))
    repeat' walk_at "d1"
    refine d2_addSm swd s1 (by omega) fun s3 => ?_
    repeat' walk_at "d1"
    obtain ⟨g, hg, gs⟩ := at_any (l := [tn, Str.ofString "0" ++ wd, Txt.replace wd (Str.ofString "-") (Str.ofString "-0"), wd ++ Str.ofString "-1"]) (Z := Sm 20) (r := kind - 4) (by
      intro y hy
      simp only [List.mem_cons, List.not_mem_nil, or_false] at hy
      rcases hy with h | h | h | h <;> subst h
      · exact tsm.mono (by decide)
      · exact s2.mono (by decide)
      · exact srp
      · exact s3.mono (by decide)) (by omega) (by show kind - 4 < 4; omega)
    refine d2_ix (.inl rfl) hg ?_
    repeat' first
      | walk_at "d1"
      | walk_at "sm"
    refine fin _ (hd ++ [g] ++ tl) ys2 (c + 2) (by simp) (l2 (l2 lhd (l1 gs.sig)) ltl) ?_ hb2 (by omega)
    have := gs.len
    simp only [wt_app, wt_cons, wt_nil]; omega
  · repeat' walk_at "d1"
    refine ⟨k, c + 2, 9, ys2, rfl, by decide, by decide, setS hk, hb2, by omega, fun r ys3 hr0 hr1 hb3 => ?_⟩
    rw [List.set_set]
    repeat' walk_at "d1"
    obtain ⟨g, hg, gs⟩ := at_any (l := firsts) (Z := Sm 21) firsts_sm hr0 (by exact hr1)
    refine d2_ix (.inl rfl) hg ?_
    by_cases k9 : kind = 8
    · repeat' walk_at "d1"
      refine dsl_list (.inl rfl) ?_
      rw [cut_drop1]
      have wdl : (words.drop 1).length ≤ 401 := by rw [List.length_drop]; omega
      have ww : wt (words.take 1) + wt (words.drop 1) = wt words := by rw [← wt_app, List.take_append_drop]
      repeat' first
        | walk_at "d1"
        | walk_at "sm"
      refine fin _ ([g] ++ words.drop 1) ys3 (c + 3) (by simp) (l2 (l1 gs.sig) fun z hz => hlo z (List.mem_of_mem_drop hz)) ?_ hb3 (by omega)
      have := gs.len
      simp only [wt_app, wt_cons, wt_nil]; omega
    · have sa : Sm 1 (Str.ofString " ") := Sm.lit (by decide +kernel)
      have sb : Sm 1 (Str.ofString "\n") := Sm.lit (by decide +kernel)
      have srp : Sm 450 (Txt.replace z (Str.ofString ":") (Str.ofString "")) := by
        have e : Str.ofString ":" = ⟨#[58]⟩ := by decide +kernel
        have e2 : (Str.ofString "").length = 0 := by decide +kernel
        have e3 : Lo (Str.ofString "") := by unfold Lo; decide +kernel
        have := repl_sm (x := z) (z := Str.ofString "") (c := 58) (n := 450) hz.sig e3 (by rw [e2]; omega)
        rw [e]
        exact this
      repeat' walk_at "d1"
      refine d2_addSm sa hz (by omega) fun t1 => ?_
      repeat' walk_at "d1"
      refine d2_addSm sb hz (by omega) fun t2 => ?_
      refine da_cons (de_repl (de_var rfl ⟨z, rfl, by rw [show (Str.ofString "").length = 0 by decide +kernel]; omega, ?_⟩))
      repeat' walk_at "d1"
      refine d2_addSm hz sa (by omega) fun t3 => ?_
      repeat' walk_at "d1"
      refine d2_addSm hz sb (by omega) fun t4 => ?_
      repeat' walk_at "d1"
      refine ⟨k, c + 3, 5, ys3, rfl, by decide, by decide, setS hk, hb3, by omega, fun r2 ys4 hq0 hq1 hb4 => ?_⟩
      rw [List.set_set]
      repeat' walk_at "d1"
      obtain ⟨g2, hg2, gs2⟩ := at_any (l := [Str.ofString " " ++ z, Str.ofString "\n" ++ z, Txt.replace z (Str.ofString ":") (Str.ofString ""), z ++ Str.ofString " ", z ++ Str.ofString "\n"]) (Z := Sm 500) (r := r2) (by
        intro y hy
        simp only [List.mem_cons, List.not_mem_nil, or_false] at hy
        rcases hy with h | h | h | h | h <;> subst h
        · exact t1.mono (by decide)
        · exact t2.mono (by decide)
        · exact srp.mono (by decide)
        · exact t3.mono (by decide)
        · exact t4.mono (by decide)) hq0 (by exact hq1)
      exact d2_ix (.inl rfl) hg2 (.inl (q _ ys4 (c + 4) gs2 hb4 (by omega)))
/-! ### another road -/
def pm_oroad (K : PySem.W.Frag) : Pm := fun ds ms P X => ∃ (k c n : Nat) (xs : List Dat) (rs : List Pr), ds = [.cell k, .int n, .lst (rs.map dpPr)] ∧ ms[k]? = some (.lst xs) ∧ BoxOk c xs ∧ c ≤ 90000 ∧ 1 ≤ n ∧ n ≤ 64 ∧ rs.length ≤ 63 ∧ InR n rs ∧
  ∀ rs' ys c', rs'.length ≤ 64 → InR n rs' → BoxOk c' ys → c' ≤ c + 10 → P (.lst (rs'.map dpPr)) (ms.set k (.lst ys))
theorem ok_other_road {f : Addr} {fd : FuncData}  {g0 : Addr} {fd0 : FuncData} (D__law_take : Df K mg "_law_take" g0) (G__law_take : FnG P w K mg base (L2N.CX P w) 1 g0 fd0 ["box", "many"] (spD K (pm_take K))) (b__law_take : Binds K fd0 ["box", "many"] []) (F : Fun K "_law_other_road" "_law_other_road" s__law_other_road f fd) (T : Txt K mg) :
    FnG P w K mg base (L2N.CX P w) 2 f fd ["box", "houses", "roads"] (spD K (pm_oroad K)) := by
  refine fn_dl F sc__law_other_road (fun ds ms Pd X h => by obtain ⟨_, _, _, _, _, rfl, _⟩ := h; rfl) (fun cdv Ar outer s H E hr hq => ?_)
  have tk := (L2N.takes_of (X := cxOf (L2N.CX P w) P w K mg base ["box", "houses", "roads", "place", "u", "v"] "_law_other_road" (defScope s__law_other_road) f cdv Ar outer s H E) (E := E) rfl rfl rfl rfl)
  refine ⟨_, (pss_cons (ps_par (i := 3) (j := 4) rfl sc__law_other_road.nd rfl rfl (by decide) rfl rfl (pa_cons (pe_g G__law_take (hr.mono (by decide)) hq rfl D__law_take.m D__law_take.k b__law_take .nil (fun σ => L2N.passAt tk σ) (pa_cons (pv 0) (pa_cons (pe_callB (call_max2 rfl) (by rfl) T.b_max bt_max (pa_cons pe_int (pa_cons (pe_callB (crK (K := K) (r := rLenK) rfl call_len) (by rfl) T.b_len bt_len (pa_cons (pv 2) pa_nil)) pa_nil))) pa_nil))) (pa_cons (pe_g G__law_take (hr.mono (by decide)) hq rfl D__law_take.m D__law_take.k b__law_take .nil (fun σ => L2N.passAt tk σ) (pa_cons (pv 0) (pa_cons (pv 1) pa_nil))) pa_nil)) (by rfl)) (pss_cons (ps_set (i := 5) sc__law_other_road.nd rfl (by first | exact Or.inl rfl | exact Or.inr rfl) (pe_op op_modA (pe_op op_addA (pe_op op_addA (pv 4) pe_int) (pe_g G__law_take (hr.mono (by decide)) hq rfl D__law_take.m D__law_take.k b__law_take .nil (fun σ => L2N.passAt tk σ) (pa_cons (pv 0) (pa_cons (pe_callB (call_max2 rfl) (by rfl) T.b_max bt_max (pa_cons pe_int (pa_cons (pe_op op_subA (pv 1) pe_int) pa_nil))) pa_nil)))) (pv 1))) (pss_one (ps_ret (pe_callB (crK (K := K) (r := rSortedR) rfl cr_sortedR) (by rfl) T.b_sorted bt_sorted (pa_cons (pe_op op_addA (pe_op op_addA (pe_slice (slK (K := K) (r := rSlA) rfl sl_A) (pv 2) po_none (po_some (pv 3))) (pe_slice (slK (K := K) (r := rSlA) rfl sl_A) (pv 2) (po_some (pe_op op_addA (pv 3) pe_int)) po_none)) (pe_lst (pa_cons (pe_tup (pa_cons (pe_callB (call_min2 rfl) (by rfl) T.b_min bt_min (pa_cons (pv 4) (pa_cons (pv 5) pa_nil))) (pa_cons (pe_callB (call_max2 rfl) (by rfl) T.b_max bt_max (pa_cons (pv 4) (pa_cons (pv 5) pa_nil))) pa_nil))) pa_nil))) pa_nil)))))), ?_⟩
  try simp only [cxK]
  rintro _ ms Pd Xd ⟨k, c, n, xs, rs, rfl, hk, hb, hc, hn1, hn2, hl, hin, q⟩ bl mb
  repeat' walk_at "d1"
  refine dr_max ?_
  rw [ifmax, List.length_map]
  repeat' walk_at "d1"
  refine ⟨k, c, max 1 (rs.length : Int), xs, rfl, by omega, by omega, hk, hb, by omega, fun place ys hp0 hp1 hb1 => ?_⟩
  obtain ⟨p, rfl⟩ := nat_of hp0
  repeat' walk_at "d1"
  refine ⟨k, c + 1, n, ys, rfl, by omega, by omega, setS hk, hb1, by omega, fun u ys2 hu0 hu1 hb2 => ?_⟩
  rw [List.set_set]
  repeat' walk_at "d1"
  refine dr_max ?_
  rw [ifmax]
  repeat' walk_at "d1"
  refine ⟨k, c + 2, max 1 ((n : Int) - 1), ys2, rfl, by omega, by omega, setS hk, hb2, by omega, fun r ys3 hr0 hr1 hb3 => ?_⟩
  rw [List.set_set]
  repeat' walk_at "d1"
  have hv0 := Int.emod_nonneg (u + 1 + r) (b := (n : Int)) (by omega)
  have hv1 := Int.emod_lt_of_pos (u + 1 + r) (b := (n : Int)) (by omega)
  generalize (u + 1 + r) % (n : Int) = v at hv0 hv1 ⊢
  refine dsl_list (.inl rfl) ?_
  rw [cut_take]
  repeat' walk_at "d1"
  refine dsl_list (.inl rfl) ?_
  rw [show ((p : Int) + 1) = ((p + 1 : Nat) : Int) by omega, cut_drop]
  have t1 : (rs.take p).length ≤ 63 := Nat.le_trans (List.length_take_le' _ _) hl
  have t2 : (rs.drop (p + 1)).length ≤ 63 := by rw [List.length_drop]; omega
  have t3 : (rs.take p).length + (rs.drop (p + 1)).length ≤ 63 := by rw [List.length_drop, List.length_take]; omega
  repeat' first
    | walk_at "d1"
    | walk_at "sm"
  refine dr_min ?_
  rw [ifmin]
  repeat' walk_at "d1"
  refine dr_max ?_
  rw [ifmax]
  repeat' first
    | walk_at "d1"
    | walk_at "sm"
  refine dr_sortedP (ps := rs.take p ++ rs.drop (p + 1) ++ [(min u v, max u v)]) (.inl (by simp [dpPr])) fun rs' hp _ => ?_
  refine .inl (q rs' ys3 (c + 3) (by rw [hp.length_eq]; simp; omega) (fun x hx => ?_) hb3 (by omega))
  rcases List.mem_append.mp (hp.mem_iff.mp hx) with h | h
  · rcases List.mem_append.mp h with h | h
    · exact hin x (List.mem_of_mem_take h)
    · exact hin x (List.mem_of_mem_drop h)
  · rw [List.mem_singleton.mp h]
    simp only
    omega
end
end K03
namespace K03
open PySem PySem.Spec PyProof.Rows L2 DL
local macro_rules | `(tactic| walk_at "hyp") => `(tactic| (first
  | (simp only [Bool.not_eq_true', Bool.not_eq_false', decide_eq_true_eq, decide_eq_false_iff_not, Bool.or_eq_true, Bool.and_eq_true, Bool.or_eq_false_iff, Bool.not_true, Bool.not_false, Bool.and_eq_false_iff] at *)
  | skip))
local macro_rules | `(tactic| walk_at "d1") => `(tactic| first
  | with_reducible refine ds_seq ?_
  | with_reducible refine ds_if ?_
  | with_reducible refine ds_ret ?_
  | with_reducible refine ds_set ?_
  | with_reducible refine ds_drop ?_
  | with_reducible refine ds_par ?_
  | with_reducible refine ds_par3 ?_
  | with_reducible refine ds_next ?_
  | with_reducible refine de_var rfl ?_
  | with_reducible refine de_int ?_
  | with_reducible refine de_str ?_
  | with_reducible refine de_bl ?_
  | with_reducible refine de_non ?_
  | with_reducible refine de_ty ?_
  | with_reducible refine de_ref ?_
  | with_reducible refine de_op ?_
  | with_reducible refine de_chain ?_
  | with_reducible refine de_un ?_
  | with_reducible refine de_dnew ?_
  | with_reducible refine de_disp1 ?_
  | with_reducible refine de_cb ?_
  | with_reducible refine de_bm ?_
  | with_reducible refine de_sl ?_
  | with_reducible refine de_tup ?_
  | with_reducible refine de_lst ?_
  | with_reducible refine de_fstr ?_
  | with_reducible refine de_fmtS ?_
  | with_reducible refine dj_cons ?_
  | with_reducible refine dj_nil ?_
  | with_reducible refine do_none ?_
  | with_reducible refine do_some ?_
  | with_reducible refine de_g0 (dds := []) (fun _ => .nil) ?_
  | with_reducible refine de_g (dds := []) (fun _ => .nil) ?_
  | with_reducible refine de_lc ?_
  | with_reducible refine di_str ?_
  | with_reducible refine di_tup ?_
  | with_reducible refine de_notV ?_
  | with_reducible refine de_andV ?_
  | with_reducible refine de_orV ?_
  | with_reducible refine de_if ?_
  | with_reducible refine dt_test ?_
  | with_reducible refine dt_B ?_
  | with_reducible refine dt_and ?_
  | with_reducible refine dt_or ?_
  | with_reducible refine dt_not ?_
  | with_reducible refine dt_yes ?_
  | with_reducible refine da_cons ?_
  | with_reducible refine da_nil ?_
  | with_reducible refine d2_leI ?_
  | with_reducible refine d2_ltI ?_
  | with_reducible refine d2_geI ?_
  | with_reducible refine d2_gtI ?_
  | with_reducible refine d2_addI ?_
  | with_reducible refine d2_sub ?_
  | ((with_reducible refine' d2_leS1 (sign1_cps _) ?hs1 ?_); (case hs1 => first | exact sg_a | exact sg_z | exact sg_sp | exact sg_ti))
  | ((with_reducible refine' d2_leS1 ?hs1 (sign1_cps _) ?_); (case hs1 => first | exact sg_a | exact sg_z | exact sg_sp | exact sg_ti))
  | with_reducible refine dr_int ?_
  | with_reducible refine dr_abs ?_
  | with_reducible refine dg_sub ?_
  | ((with_reducible refine' d2_ix ?hsq ?hix ?_); (case hsq => assumption); (case hix => rfl))
  | ((with_reducible refine' d2_mod ?hmod ?_); (case hmod => first | decide | omega))
  | ((with_reducible refine' d2_mul ?hmul ?_); (case hmul => exact mul_ok (by omega) (by omega)))
  | ((with_reducible refine' d2_div ?hdiv ?_); (case hdiv => exact div_ok (by first | decide | omega) (by omega)))
  | ((with_reducible refine' d2_pow ?hpow ?_); (case hpow => exact pow_ok (by decide) (by decide) (by omega)))
  | with_reducible refine d2_notI ?_
  | with_reducible refine d2_notSt ?_
  | with_reducible refine d2_notNn ?_
  | with_reducible refine d2_notT ?_
  | with_reducible refine d2_isI ?_
  | with_reducible refine d2_isNn ?_
  | with_reducible refine d2_isT ?_
  | with_reducible refine d2_neI ?_
  | with_reducible refine d2_eqI ?_
  | with_reducible refine d2_eqS ?_
  | with_reducible refine d2_neS ?_
  | with_reducible refine dr_isiK (by assumption) (by decide) (by first | assumption | exact isTyD_str _ | exact isTyD_tup _ | rfl) ?_
  | with_reducible refine dr_lenT ?_
  | with_reducible refine dr_lenL ?_
  | with_reducible refine dr_lenR ?_
  | with_reducible refine dr_lenC (by assumption) ?_
  | with_reducible refine ds_to ?_
  | with_reducible refine dg_name (by decide) ?_
  | with_reducible refine dg_tup2 ?_
  | with_reducible refine dg_tup3 ?_
  | with_reducible refine dg_tup4 ?_
  | with_reducible refine dgs_cons ?_
  | with_reducible refine dgs_nil ?_
  | with_reducible refine dr_lenS (by omega) ?_
  | with_reducible refine ⟨⟨by simp only [List.length_cons, List.length_nil], by simp only [List.length_cons, List.length_nil]; omega⟩, ?_⟩
  | with_reducible refine ⟨_, rfl, ?_⟩
  | with_reducible refine ⟨_, _, rfl, ?_⟩
  | with_reducible refine ⟨tyD_str, ?_⟩
  | with_reducible refine ⟨by omega, ?_⟩
  | with_reducible refine ⟨by (simp only [PySem.Str.length_append, len_empty, len_sp, List.length_cons, List.length_nil, List.length_append]; omega), ?_⟩
  | with_reducible refine bothT ?_
  | with_reducible refine bothF ?_
  | with_reducible refine bothNT ?_
  | with_reducible refine bothNF ?_
  | (with_reducible refine both (fun hc => ?_) (fun hc => ?_) <;> (try simp only [Bool.not_eq_true', Bool.not_eq_false', decide_eq_true_eq, decide_eq_false_iff_not] at hc) <;> (try (exfalso; omega)) <;> (try exact absurd rfl hc) <;> (try exact absurd trivial hc)))

local macro_rules | `(tactic| walk_at "sm") => `(tactic| first
  | with_reducible refine di_lst ?_
  | with_reducible refine as_lst ?_
  | ((with_reducible refine' d2_addSm ?hs1 ?hs2 ?hs3 (fun hs => ?_)); (case hs1 => assumption); (case hs2 => assumption); (case hs3 => omega))
  | ((with_reducible refine' d2_addL ?hal ?_); (case hal => (simp; try omega)))
  | with_reducible refine d1_neg ?_)

abbrev s__law_asked_right : Stmt := (topS 35)
theorem sc__law_asked_right : FnScope ["value", "by_name", "due", "tree", "e"] ["value", "by_name"] (defScope s__law_asked_right) := ⟨rfl, rfl, rfl, by decide +kernel, rfl, by decide +kernel, by decide +kernel⟩
section
variable {P : Program} {w : World} {K : PySem.W.Frag} {mg : Str → Option Value} {base : Heap}
/-- repr shows it as t -/
def RpOk (K : PySem.W.Frag) (ms : Ms) (d : Dat) (t : Str) : Prop := ∀ Q : Dat → Ms → Prop, Q (.str t) ms → DR K (rReprX K) [d] ms Q
/-- a value that is no text and no list, and that repr shows -/
structure Odd (K : PySem.W.Frag) (ms : Ms) (d : Dat) : Prop where
  v : VOk K ms d
  s : isTyD ms d "str" = false
  l : isTyD ms d "list" = false
  r : ∃ t, RpOk K ms d t
def theOne : List Dat := [.str (Str.ofString "1:")]
def theTwo : List Dat := [.str (Str.ofString "1:"), .str (Str.ofString "more")]
def pm_asked (K : PySem.W.Frag) : Pm := fun ds ms P X => ∃ (d : Dat) (b : Bool), ds = [d, .bl b] ∧
  (((∃ z, d = .str z ∧ Sm 600 z) ∨ Odd K ms d) ∧ P (.bl true) ms ∨ (∃ j, d = .cell j ∧ ms[j]? = some (.lst theOne) ∧ P (.bl true) (ms.set j (.lst theTwo))))
theorem rp_str {ms : Ms} {z : Str} (h : Sm 600 z) : ∃ t, RpOk K ms (.str z) t := by
  obtain ⟨p, a, b, c, d, e⟩ := (cm_str (n := 10000) (k := 1) h (by decide) (by decide)).ex
  exact ⟨p.shown, fun Q q => dr_reprX (.inl a) ⟨b, c, by omega, by omega⟩ q⟩
theorem rp_two {ms : Ms} {j : Nat} (h : ms[j]? = some (.lst theTwo)) : ∃ t, RpOk K ms (.cell j) t := by
  have s1 : Sm 2 (Str.ofString "1:") := Sm.lit (by decide +kernel)
  have s2 : Sm 4 (Str.ofString "more") := Sm.lit (by decide +kernel)
  have hl := CmL.cons (cm_str (n := 100) (k := 1) s1 (by decide) (by decide)) (CmL.cons (cm_str (n := 100) (k := 1) s2 (by decide) (by decide)) .nil)
  obtain ⟨⟨ps, a, b, c, d, e⟩, _⟩ := hl
  refine ⟨(PyData.list ps).shown, fun Q q => dr_reprX (.inr ⟨j, theTwo, ps, rfl, h, a, rfl⟩) ⟨b, c, ?_, ?_⟩ q⟩
  · show PyData.depthAll ps + 1 ≤ 40; omega
  · show (listText (PyData.shownAll ps)).length ≤ _
    have := PySem.listText_len_le (PyData.shownAll ps)
    omega
theorem d2_isL {ms : Ms} {Q : Dat → Ms → Prop} {xs : List Dat} (q : Q (.bl false) ms) : D2 K rIsA (.lst xs) .non ms Q := d2_isN q
theorem small_int : ∀ n, n < 66 → (decide ((((n : Nat) : Int)).natAbs.log2 < 1920) && decide ((PyData.int ((n : Nat) : Int)).shown.length ≤ 3)) = true := by decide +kernel
theorem cm_small {i : Int} {k : Nat} (h0 : 0 ≤ i) (h : i ≤ 65) : Cm (.int i) 3 k := by
  obtain ⟨n, rfl⟩ := nat_of h0
  exact cm_int (small_int n (by omega))
theorem cm_prs : ∀ {rs : List Pr}, In65 rs → CmL (rs.map dpPr) (20 * rs.length) 5
  | [], _ => .nil
  | p :: rs, h => by
    have h1 := h p (List.mem_cons_self ..)
    have ih := cm_prs (rs := rs) fun x hx => h x (List.mem_cons_of_mem _ hx)
    have a : Cm (dpPr p) 18 5 := (CmL.tup (CmL.cons (cm_small (k := 4) h1.1 h1.2.1) (CmL.cons (cm_small h1.2.2.1 h1.2.2.2) .nil))).mono (by decide) (by decide)
    have := CmL.cons a ih
    rw [show 18 + 20 * rs.length + 2 = 20 * (p :: rs).length by rw [List.length_cons]; omega] at this
    exact this
theorem rp_tree {ms : Ms} {n : Nat} {rs : List Pr} {z : Str} (hn : n ≤ 64) (hl : rs.length ≤ 64) (h : In65 rs) (hz : Sm 600 z) : ∃ t, RpOk K ms (.lst [.int (n : Int), .tup (rs.map dpPr), .str z]) t := by
  have a := CmL.lst (CmL.cons (cm_small (i := (n : Int)) (k := 6) (by omega) (by omega)) (CmL.cons (CmL.tup (cm_prs h)) (CmL.cons (cm_str (n := 10000) (k := 6) hz (by decide) (by decide)) .nil)))
  obtain ⟨p, a, b, c, d, e⟩ := a.ex
  exact ⟨p.shown, fun Q q => dr_reprX (.inl a) ⟨b, c, by omega, by omega⟩ q⟩
theorem parse_one {z : Str} {n n' : Nat} {rs rs' : List Pr} (hp : Parse z n rs) (hp' : Parse z n' rs') : n' = n ∧ rs' = rs := by
  obtain ⟨f1, w1, p1⟩ := hp
  obtain ⟨f2, w2, p2⟩ := hp'
  have e := p1.sp.symm.trans p2.sp
  cases e
  have e1 := p1.h.symm.trans p2.h
  exact ⟨by have := Option.some.inj e1; omega, prs_inj (p2.r.symm.trans p1.r)⟩
theorem ok_asked {f : Addr} {fd : FuncData}  {g0 : Addr} {fd0 : FuncData} (D__law_read : Df K mg "_law_read" g0) (G__law_read : FnG P w K mg base (L2N.CX P w) 2 g0 fd0 ["text"] (spD K (pm_lread K))) (b__law_read : Binds K fd0 ["text"] []) {CE_InvalidText I_InvalidText : Addr} {fI_InvalidText : FuncData} (E_InvalidText : ErrT K mg "InvalidText" "given" CE_InvalidText I_InvalidText fI_InvalidText) (I_InvalidText : FnOk P w K mg base (L2N.CX P w) 1 I_InvalidText fI_InvalidText ["self", "given"] (spIni1 K "given")) {C : Addr} (TT : TreeT K C) (M_Tree : mg "Tree" = some (.ref C)) (C_Tree : Cls K C) {gr : Addr} {fdr : FuncData} (D_read_tree : Df K mg "read_tree" gr) (G_read_tree : FnG P w K mg base (L2N.CX P w) 7 gr fdr ["text"] (spD K (pm_read K C CE_InvalidText))) (b_read_tree : Binds K fdr ["text"] []) (kb_read_tree : KwB K fdr ["text"]) {gl : Addr} {fdl : FuncData} (Mt_Tree_line : Meth K C "line" gl) (G_Tree_line : FnG P w K mg base (L2N.CX P w) 1 gl fdl ["self"] (spD K (pm_line K C))) (b_Tree_line : Binds K fdl ["self"] []) (M_InvalidText : mg "InvalidText" = some (.ref CE_InvalidText)) (xT : PySem.W.exmOne K (.ref CE_InvalidText) (.ref CE_InvalidText) = some true) (F : Fun K "_law_asked_right" "_law_asked_right" s__law_asked_right f fd) (T : Txt K mg) :
    FnG P w K mg base (L2N.CX P w) 8 f fd ["value", "by_name"] (spD K (pm_asked K)) := by
  refine fn_dl F sc__law_asked_right (fun ds ms Pd X h => by obtain ⟨_, _, rfl, _⟩ := h; rfl) (fun cdv Ar outer s H E hr hq => ?_)
  have tk := (L2N.takes_of (X := cxOf (L2N.CX P w) P w K mg base ["value", "by_name", "due", "tree", "e"] "_law_asked_right" (defScope s__law_asked_right) f cdv Ar outer s H E) (E := E) rfl rfl rfl rfl)
  refine ⟨_, (pss_cons (ps_set (i := 2) sc__law_asked_right.nd rfl (by first | exact Or.inl rfl | exact Or.inr rfl) (pe_g G__law_read (hr.mono (by decide)) hq rfl D__law_read.m D__law_read.k b__law_read .nil (fun σ => L2N.passAt tk σ) (pa_cons (pv 0) pa_nil))) (pss_cons (ps_tryK (K := K) (i := 4) rfl rfl rfl sc__law_asked_right.nd rfl rfl (c := .ref _) ⟨rfl, by decide, .inl M_InvalidText⟩ tk (fun W pn xe tk _ => (pss_one (ps_set (i := 3) sc__law_asked_right.nd rfl (by first | exact Or.inl rfl | exact Or.inr rfl) (pe_ifExp (pt_val (pv 1)) (pe_gk G_read_tree (hr.mono (by decide)) hq rfl D_read_tree.m D_read_tree.k kb_read_tree (fun σ => L2N.passAt tk σ) (pk_cons (pv 0) pk_nil)) (pe_g G_read_tree (hr.mono (by decide)) hq rfl D_read_tree.m D_read_tree.k b_read_tree .nil (fun σ => L2N.passAt tk σ) (pa_cons (pv 0) pa_nil)))))) (fun a oe cls d pn hz hf => (pss_cons (ps_if (pt_val (pe_callB (crK (K := K) (r := rIsiX) rfl call_isiX) (by rfl) T.b_isinstance bt_isinstance (pa_cons (pv 0) (pa_cons (pe_bltn (v := .ty "list") rfl T.b_list bt_list rfl) pa_nil)))) (pss_one (ps_expr (pe_bmK (K := K) rfl PySem.F.plainAttrs_list PySem.F.slot_list_append PySem.F.type_list_append mtA_append (pv 0) (pa_cons pe_str pa_nil)))) pss_nil) (pss_one (ps_ret (pe_and (pe_cmpR op_isA (pv 2) pe_non (nomark _)) (pe_one (pe_cmpR (opK (K := K) (r := rEqA) rfl (op_eqA hr.units)) (pe_callB (crK (K := K) (r := rReprX) rfl (call_reprX (hq.mark _) hr.units)) (by rfl) T.b_repr bt_repr (pa_cons (pe_xf E_InvalidText.t.x E_InvalidText.no hz.zc hf (pv 4)) pa_nil)) (pe_callB (crK (K := K) (r := rReprX) rfl (call_reprX (hq.mark _) hr.units)) (by rfl) T.b_repr bt_repr (pa_cons (pv 0) pa_nil)) (nomark _))))))))) (pss_cons (ps_if (PW.pt (pw_or (pt_cmpR op_isA (pv 2) pe_non (nomark _)) (pw_or1 (pt_not (pt_val (pe_callB (crK (K := K) (r := rIsiX) rfl call_isiX) (by rfl) T.b_isinstance bt_isinstance (pa_cons (pv 3) (pa_cons (pe_glob (v := .ref _) rfl M_Tree rfl) pa_nil)))))))) (pss_one (ps_ret pe_bl)) pss_nil) (pss_one (ps_ret (pe_cmpR (opK (K := K) (r := rEqA) rfl (op_eqA hr.units)) (pe_callB (crK (K := K) (r := rReprX) rfl (call_reprX hq hr.units)) (by rfl) T.b_repr bt_repr (pa_cons (pe_lst (pa_cons (pe_fld (pv 3) (by rfl)) (pa_cons (pe_fld (pv 3) (by rfl)) (pa_cons (pe_methG0 (pv 3) C_Tree Mt_Tree_line G_Tree_line (hr.mono (by decide)) hq b_Tree_line .nil (fun σ => L2N.passAt tk σ)) pa_nil)))) pa_nil)) (pe_callB (crK (K := K) (r := rReprX) rfl (call_reprX hq hr.units)) (by rfl) T.b_repr bt_repr (pa_cons (pe_lst (pa_cons (pe_ix (ixK (K := K) (r := rIx) rfl ix_seq) (pv 2) pe_int (fun _ _ => rfl)) (pa_cons (pe_callTy call_tuple_of (by rfl) T.b_tuple bt_tuple (pa_cons (pe_ix (ixK (K := K) (r := rIx) rfl ix_seq) (pv 2) pe_int (fun _ _ => rfl)) pa_nil)) (pa_cons (pv 0) pa_nil)))) pa_nil)) (nomark _))))))), ?_⟩
  try simp only [cxK]
  rintro _ ms Pd Xd ⟨d, b, rfl, q⟩ bl mb
  rcases q with ⟨⟨z, rfl, hz⟩ | hod, q⟩ | ⟨j, rfl, hj, q⟩
  · have hzl := hz.len
    obtain ⟨tz, rz⟩ := rp_str (K := K) (ms := ms) hz
    rcases Classical.em (∃ n rs, Parse z n rs) with ⟨n, rs, hp⟩ | hno
    · repeat' walk_at "d1"
      refine ⟨_, rfl, .inl ⟨z, rfl, hz, fun n' rs' hp' => ?_, fun h => absurd ⟨n, rs, hp⟩ h⟩⟩
      obtain ⟨rfl, rfl⟩ := parse_one hp hp'
      have ez := line_parse (by omega) hp
      have ht : TreeOk n' rs' := by obtain ⟨_, _, p1⟩ := hp; exact p1.t
      have hin := roads_in ht.ok
      have hlr := roads_len ht.ok
      have h1 := ht.h1
      have h2 := ht.h2
      refine ds_seq (ds_tryK fun R' => ?_)
      cases b
      all_goals
        repeat' walk_at "d1"
        refine ⟨_, rfl, .inl ⟨z, rfl, by omega, fun n2 rs2 hp2 near ways hn hw => ?_, fun h => absurd ⟨_, _, hp⟩ h⟩⟩
        obtain ⟨rfl, rfl⟩ := parse_one hp hp2
        obtain ⟨t, rt⟩ := rp_tree (K := K) (ms := ms ++ [.ins C (treeF n2 rs2 near ways)]) h2 (by omega) (in65_of (by omega) hin) hz
        repeat' first
          | walk_at "d1"
          | with_reducible refine d2_isL ?_
        refine dr_isiIns TT.i one0 TT.own ?_
        repeat' walk_at "d1"
        refine de_fld TT.c TT.n1 (de_var rfl ⟨ms.length, _, _, rfl, one0, lk1, ?_⟩)
        refine da_cons (de_fld TT.c TT.n2 (de_var rfl ⟨ms.length, _, _, rfl, one0, lk2, ?_⟩))
        refine da_cons (de_meth (dds := []) (fun _ => .nil) (de_var rfl ⟨ms.length, _, rfl, one0, lkl, da_nil ?_⟩))
        refine ⟨ms.length, n2, rs2, near, ways, rfl, one0, h2, by omega, hin, ?_⟩
        rw [← ez]
        repeat' walk_at "d1"
        refine rt _ ?_
        repeat' walk_at "d1"
        refine d2_ix (.inl rfl) (at_nat (u := 0) rfl) ?_
        repeat' walk_at "d1"
        refine d2_ix (.inl rfl) (at_nat (u := 1) rfl) ?_
        repeat' walk_at "d1"
        refine dr_tupOf (.inl rfl) ?_
        repeat' walk_at "d1"
        refine rt _ ?_
        refine d2_eqS ?_
        rw [show decide (t = t) = true from decide_eq_true rfl]
        exact ret_bel rfl mb (.bl true) q
    · have vz : VOk K ms (.str z) := .ty rfl ⟨by omega, hz.sig⟩
      have hl : isTyD ms (.str z) "list" = false := rfl
      repeat' walk_at "d1"
      refine ⟨_, rfl, .inl ⟨z, rfl, hz, fun n rs hp => absurd ⟨n, rs, hp⟩ hno, fun _ => ?_⟩⟩
      refine ds_seq (ds_tryK fun R' => ?_)
      cases b
      all_goals
        repeat' walk_at "d1"
        refine ⟨_, rfl, .inl ⟨z, rfl, by omega, fun n rs hp => absurd ⟨n, rs, hp⟩ hno, fun _ => ?_⟩⟩
        refine ⟨true, xT, fun _ a dd => ?_, fun z => by cases z⟩
        repeat' walk_at "d1"
        refine de_xf (fs := [(Str.ofString "given", .str z)]) (d := .str z) rfl ?_
        repeat' walk_at "d1"
        refine ⟨rfl, ?_⟩
        refine da_nil ?_
        refine rz _ ?_
        repeat' walk_at "d1"
        refine rz _ ?_
        refine d2_eqS ?_
        rw [show decide (tz = tz) = true from decide_eq_true rfl]
        exact .inl q
  · have hs := hod.s
    have hl := hod.l
    have hv := hod.v
    obtain ⟨tz, rz⟩ := hod.r
    repeat' walk_at "d1"
    refine ⟨_, rfl, .inr ⟨hv, hs, ?_⟩⟩
    refine ds_seq (ds_tryK fun R' => ?_)
    cases b
    all_goals
        repeat' walk_at "d1"
        refine ⟨_, rfl, .inr ⟨hv, hs, ?_⟩⟩
        refine ⟨true, xT, fun _ a dd => ?_, fun z => by cases z⟩
        repeat' walk_at "d1"
        refine de_xf (fs := [(Str.ofString "given", d)]) (d := d) rfl ?_
        repeat' walk_at "d1"
        refine ⟨rfl, ?_⟩
        refine da_nil ?_
        refine rz _ ?_
        repeat' walk_at "d1"
        refine rz _ ?_
        refine d2_eqS ?_
        rw [show decide (tz = tz) = true from decide_eq_true rfl]
        exact .inl q
  · have ty : tyOf ms (.cell j) = some "list" := by simp [tyOf, hj]
    have hv : VOk K ms (.cell j) := .ty ty True.intro
    have hs : isTyD ms (.cell j) "str" = false := by unfold isTyD; rw [ty]; decide
    have hl : isTyD ms (.cell j) "list" = true := by unfold isTyD; rw [ty]; decide
    repeat' walk_at "d1"
    refine ⟨_, rfl, .inr ⟨hv, hs, ?_⟩⟩
    refine ds_seq (ds_tryK fun R' => ?_)
    cases b
    all_goals
        repeat' walk_at "d1"
        refine ⟨_, rfl, .inr ⟨hv, hs, ?_⟩⟩
        refine ⟨true, xT, fun _ a dd => ?_, fun z => by cases z⟩
        repeat' walk_at "d1"
        refine ⟨tyD_cell hj, ?_⟩
        repeat' walk_at "d1"
        refine dr_append hj (by decide) ?_
        have h2 : (ms.set j (.lst theTwo))[j]? = some (.lst theTwo) := setS hj
        obtain ⟨tz, rz⟩ := rp_two (K := K) h2
        repeat' walk_at "d1"
        refine de_xf (fs := [(Str.ofString "given", .cell j)]) (d := .cell j) rfl ?_
        repeat' walk_at "d1"
        refine ⟨rfl, ?_⟩
        refine da_nil ?_
        refine rz _ ?_
        repeat' walk_at "d1"
        refine rz _ ?_
        refine d2_eqS ?_
        rw [show decide (tz = tz) = true from decide_eq_true rfl]
        exact .inl q
end
end K03
namespace K03
open PySem PySem.Spec PyProof.Rows L2 DL
local macro_rules | `(tactic| walk_at "hyp") => `(tactic| (first
  | (simp only [Bool.not_eq_true', Bool.not_eq_false', decide_eq_true_eq, decide_eq_false_iff_not, Bool.or_eq_true, Bool.and_eq_true, Bool.or_eq_false_iff, Bool.not_true, Bool.not_false, Bool.and_eq_false_iff] at *)
  | skip))
local macro_rules | `(tactic| walk_at "d1") => `(tactic| first
  | with_reducible refine ds_seq ?_
  | with_reducible refine ds_if ?_
  | with_reducible refine ds_ret ?_
  | with_reducible refine ds_set ?_
  | with_reducible refine ds_drop ?_
  | with_reducible refine ds_par ?_
  | with_reducible refine ds_par3 ?_
  | with_reducible refine ds_next ?_
  | with_reducible refine de_var rfl ?_
  | with_reducible refine de_int ?_
  | with_reducible refine de_str ?_
  | with_reducible refine de_bl ?_
  | with_reducible refine de_non ?_
  | with_reducible refine de_ty ?_
  | with_reducible refine de_ref ?_
  | with_reducible refine de_op ?_
  | with_reducible refine de_chain ?_
  | with_reducible refine de_un ?_
  | with_reducible refine de_dnew ?_
  | with_reducible refine de_disp1 ?_
  | with_reducible refine de_cb ?_
  | with_reducible refine de_bm ?_
  | with_reducible refine de_sl ?_
  | with_reducible refine de_tup ?_
  | with_reducible refine de_lst ?_
  | with_reducible refine de_fstr ?_
  | with_reducible refine de_fmtS ?_
  | with_reducible refine dj_cons ?_
  | with_reducible refine dj_nil ?_
  | with_reducible refine do_none ?_
  | with_reducible refine do_some ?_
  | with_reducible refine de_g0 (dds := []) (fun _ => .nil) ?_
  | with_reducible refine de_g (dds := []) (fun _ => .nil) ?_
  | with_reducible refine de_lc ?_
  | with_reducible refine di_str ?_
  | with_reducible refine di_tup ?_
  | with_reducible refine de_notV ?_
  | with_reducible refine de_andV ?_
  | with_reducible refine de_orV ?_
  | with_reducible refine de_if ?_
  | with_reducible refine dt_test ?_
  | with_reducible refine dt_B ?_
  | with_reducible refine dt_and ?_
  | with_reducible refine dt_or ?_
  | with_reducible refine dt_not ?_
  | with_reducible refine dt_yes ?_
  | with_reducible refine da_cons ?_
  | with_reducible refine da_nil ?_
  | with_reducible refine d2_leI ?_
  | with_reducible refine d2_ltI ?_
  | with_reducible refine d2_geI ?_
  | with_reducible refine d2_gtI ?_
  | with_reducible refine d2_addI ?_
  | with_reducible refine d2_sub ?_
  | ((with_reducible refine' d2_leS1 (sign1_cps _) ?hs1 ?_); (case hs1 => first | exact sg_a | exact sg_z | exact sg_sp | exact sg_ti))
  | ((with_reducible refine' d2_leS1 ?hs1 (sign1_cps _) ?_); (case hs1 => first | exact sg_a | exact sg_z | exact sg_sp | exact sg_ti))
  | with_reducible refine dr_int ?_
  | with_reducible refine dr_abs ?_
  | with_reducible refine dg_sub ?_
  | ((with_reducible refine' d2_ix ?hsq ?hix ?_); (case hsq => assumption); (case hix => rfl))
  | ((with_reducible refine' d2_mod ?hmod ?_); (case hmod => first | decide | omega))
  | ((with_reducible refine' d2_mul ?hmul ?_); (case hmul => exact mul_ok (by omega) (by omega)))
  | ((with_reducible refine' d2_div ?hdiv ?_); (case hdiv => exact div_ok (by first | decide | omega) (by omega)))
  | ((with_reducible refine' d2_pow ?hpow ?_); (case hpow => exact pow_ok (by decide) (by decide) (by omega)))
  | with_reducible refine d2_notI ?_
  | with_reducible refine d2_notSt ?_
  | with_reducible refine d2_notNn ?_
  | with_reducible refine d2_notT ?_
  | with_reducible refine d2_isI ?_
  | with_reducible refine d2_isNn ?_
  | with_reducible refine d2_isT ?_
  | with_reducible refine d2_neI ?_
  | with_reducible refine d2_eqI ?_
  | with_reducible refine d2_eqS ?_
  | with_reducible refine d2_neS ?_
  | with_reducible refine dr_isiK (by assumption) (by decide) (by first | assumption | exact isTyD_str _ | exact isTyD_tup _ | rfl) ?_
  | with_reducible refine dr_lenT ?_
  | with_reducible refine dr_lenL ?_
  | with_reducible refine dr_lenR ?_
  | with_reducible refine dr_lenC (by assumption) ?_
  | with_reducible refine ds_to ?_
  | with_reducible refine dg_name (by decide) ?_
  | with_reducible refine dg_tup2 ?_
  | with_reducible refine dg_tup3 ?_
  | with_reducible refine dg_tup4 ?_
  | with_reducible refine dgs_cons ?_
  | with_reducible refine dgs_nil ?_
  | with_reducible refine dr_lenS (by omega) ?_
  | with_reducible refine ⟨⟨by simp only [List.length_cons, List.length_nil], by simp only [List.length_cons, List.length_nil]; omega⟩, ?_⟩
  | with_reducible refine ⟨_, rfl, ?_⟩
  | with_reducible refine ⟨_, _, rfl, ?_⟩
  | with_reducible refine ⟨tyD_str, ?_⟩
  | with_reducible refine ⟨by omega, ?_⟩
  | with_reducible refine ⟨by (simp only [PySem.Str.length_append, len_empty, len_sp, List.length_cons, List.length_nil, List.length_append]; omega), ?_⟩
  | with_reducible refine bothT ?_
  | with_reducible refine bothF ?_
  | with_reducible refine bothNT ?_
  | with_reducible refine bothNF ?_
  | (with_reducible refine both (fun hc => ?_) (fun hc => ?_) <;> (try simp only [Bool.not_eq_true', Bool.not_eq_false', decide_eq_true_eq, decide_eq_false_iff_not] at hc) <;> (try (exfalso; omega)) <;> (try exact absurd rfl hc) <;> (try exact absurd trivial hc)))

local macro_rules | `(tactic| walk_at "sm") => `(tactic| first
  | with_reducible refine di_lst ?_
  | with_reducible refine as_lst ?_
  | ((with_reducible refine' d2_addSm ?hs1 ?hs2 ?hs3 (fun hs => ?_)); (case hs1 => assumption); (case hs2 => assumption); (case hs3 => omega))
  | ((with_reducible refine' d2_addL ?hal ?_); (case hal => (simp; try omega)))
  | with_reducible refine d1_neg ?_)

abbrev s__law_world_right : Stmt := (topS 36)
theorem sc__law_world_right : FnScope ["box", "houses", "roads", "by_name", "text", "texts", "k", "one"] ["box", "houses", "roads"] (defScope s__law_world_right) := ⟨rfl, rfl, rfl, by decide +kernel, rfl, by decide +kernel, by decide +kernel⟩
section
variable {P : Program} {w : World} {K : PySem.W.Frag} {mg : Str → Option Value} {base : Heap}
theorem oneL {ms : Ms} {A B : MO} : (ms ++ [A] ++ [B])[ms.length]? = some A := by
  rw [List.append_assoc, List.getElem?_append_right (by omega), Nat.sub_self]; rfl
def JT (N : Ms) (k c0 : Nat) (i : Nat) (acc : List Dat) (m : Ms) : Prop := ∃ (zs : List Str) (ys : List Dat) (c' : Nat), acc = zs.map Dat.str ∧ zs.length = i ∧ (∀ z ∈ zs, Sm 600 z) ∧ BoxOk c' ys ∧ c' ≤ c0 + 20 * i ∧ m = N.set k (.lst ys)
theorem jt_step {N : Ms} {k c0 i c' : Nat} {zs : List Str} {ys' : List Dat} {z : Str} (hl : zs.length = i) (hs : ∀ z ∈ zs, Sm 600 z) (hz : Sm 600 z) (hb : BoxOk c' ys') (hc : c' ≤ c0 + 20 * (i + 1)) : JT N k c0 (i + 1) (zs.map Dat.str ++ [.str z]) (N.set k (.lst ys')) :=
  ⟨zs ++ [z], ys', c', by rw [List.map_append]; rfl, by simp [hl], fun x hx => (List.mem_append.mp hx).elim (hs x) fun h => by rw [List.mem_singleton.mp h]; exact hz, hb, hc, rfl⟩
def pm_world (K : PySem.W.Frag) : Pm := fun ds ms P X => ∃ (k c n : Nat) (xs : List Dat) (rs : List Pr), ds = [.cell k, .int n, .lst (rs.map dpPr)] ∧ ms[k]? = some (.lst xs) ∧ BoxOk c xs ∧ c ≤ 50000 ∧ TreeOk n rs ∧
  ∀ ys c', BoxOk c' ys → c' ≤ c + 300 → P (.bl true) (ms.set k (.lst ys))
theorem ok_world {f : Addr} {fd : FuncData}  {C : Addr} (TT : TreeT K C) (M_Tree : mg "Tree" = some (.ref C)) (C_Tree : Cls K C) {g9 : Addr} {fd9 : FuncData} (K_Tree : Mk K C g9) (G_Tree___init__ : FnG P w K mg base (L2N.CX P w) 5 g9 fd9 ["self", "houses", "roads"] (spD K (pm_init K C))) (b_Tree___init__ : Binds K fd9 ["self", "houses", "roads"] []) {gl : Addr} {fdl : FuncData} (Mt_Tree_line : Meth K C "line" gl) (G_Tree_line : FnG P w K mg base (L2N.CX P w) 1 gl fdl ["self"] (spD K (pm_line K C))) (b_Tree_line : Binds K fdl ["self"] []) {ge : Addr} {fde : FuncData} (Q_Tree : EqC K C ge) (G_Tree___eq__ : FnG P w K mg base (L2N.CX P w) 1 ge fde ["self", "other"] (spD K (pm_eq K C))) (b_Tree___eq__ : Binds K fde ["self", "other"] []) {CE_InvalidText gr : Addr} {fdr : FuncData} (D_read_tree : Df K mg "read_tree" gr) (G_read_tree : FnG P w K mg base (L2N.CX P w) 7 gr fdr ["text"] (spD K (pm_read K C CE_InvalidText))) (b_read_tree : Binds K fdr ["text"] []) {g0 : Addr} {fd0 : FuncData} (D__law_take : Df K mg "_law_take" g0) (G__law_take : FnG P w K mg base (L2N.CX P w) 1 g0 fd0 ["box", "many"] (spD K (pm_take K))) (b__law_take : Binds K fd0 ["box", "many"] []) {g1 : Addr} {fd1 : FuncData} (D__law_written : Df K mg "_law_written" g1) (G__law_written : FnG P w K mg base (L2N.CX P w) 1 g1 fd1 ["houses", "roads"] (spD K (pm_written K))) (b__law_written : Binds K fd1 ["houses", "roads"] []) {g2 : Addr} {fd2 : FuncData} (D__law_other_road : Df K mg "_law_other_road" g2) (G__law_other_road : FnG P w K mg base (L2N.CX P w) 2 g2 fd2 ["box", "houses", "roads"] (spD K (pm_oroad K))) (b__law_other_road : Binds K fd2 ["box", "houses", "roads"] []) {g3 : Addr} {fd3 : FuncData} (D__law_spoilt_sign : Df K mg "_law_spoilt_sign" g3) (G__law_spoilt_sign : FnG P w K mg base (L2N.CX P w) 2 g3 fd3 ["box", "text"] (spD K (pm_ssign K))) (b__law_spoilt_sign : Binds K fd3 ["box", "text"] []) {g4 : Addr} {fd4 : FuncData} (D__law_spoilt_word : Df K mg "_law_spoilt_word" g4) (G__law_spoilt_word : FnG P w K mg base (L2N.CX P w) 2 g4 fd4 ["box", "text"] (spD K (pm_sword K))) (b__law_spoilt_word : Binds K fd4 ["box", "text"] []) {g5 : Addr} {fd5 : FuncData} (D__law_asked_right : Df K mg "_law_asked_right" g5) (G__law_asked_right : FnG P w K mg base (L2N.CX P w) 8 g5 fd5 ["value", "by_name"] (spD K (pm_asked K))) (b__law_asked_right : Binds K fd5 ["value", "by_name"] []) (F : Fun K "_law_world_right" "_law_world_right" s__law_world_right f fd) (T : Txt K mg) :
    FnG P w K mg base (L2N.CX P w) 9 f fd ["box", "houses", "roads"] (spD K (pm_world K)) := by
  refine fn_dl F sc__law_world_right (fun ds ms Pd X h => by obtain ⟨_, _, _, _, _, rfl, _⟩ := h; rfl) (fun cdv Ar outer s H E hr hq => ?_)
  have tk := (L2N.takes_of (X := cxOf (L2N.CX P w) P w K mg base ["box", "houses", "roads", "by_name", "text", "texts", "k", "one"] "_law_world_right" (defScope s__law_world_right) f cdv Ar outer s H E) (E := E) rfl rfl rfl rfl)
  refine ⟨_, (pss_cons (ps_set (i := 3) sc__law_world_right.nd rfl (by first | exact Or.inl rfl | exact Or.inr rfl) (pe_cmpR (opK (K := K) (r := rEqA) rfl (op_eqA hr.units)) (pe_g G__law_take (hr.mono (by decide)) hq rfl D__law_take.m D__law_take.k b__law_take .nil (fun σ => L2N.passAt tk σ) (pa_cons (pv 0) (pa_cons pe_int pa_nil))) pe_int (nomark _))) (pss_cons (ps_set (i := 4) sc__law_world_right.nd rfl (by first | exact Or.inl rfl | exact Or.inr rfl) (pe_g G__law_written (hr.mono (by decide)) hq rfl D__law_written.m D__law_written.k b__law_written .nil (fun σ => L2N.passAt tk σ) (pa_cons (pv 1) (pa_cons (pv 2) pa_nil)))) (pss_cons (ps_if (PW.pt (pw_or (pt_cmpR (opK (K := K) (r := rNeA) rfl (op_neA hr.units)) (pe_methG0 (pe_makeG K_Tree G_Tree___init__ (hr.mono (by decide)) hq rfl M_Tree b_Tree___init__ .nil (fun σ => L2N.passAt tk σ) (pa_cons (pv 1) (pa_cons (pe_callTy call_list_of (by rfl) T.b_list bt_list (pa_cons (pv 2) pa_nil)) pa_nil))) C_Tree Mt_Tree_line G_Tree_line (hr.mono (by decide)) hq b_Tree_line .nil (fun σ => L2N.passAt tk σ)) (pv 4) (nomark _)) (pw_or1 (pt_cmpR (op_neOwn G_Tree___eq__ (hr.mono (by decide)) hq b_Tree___eq__ Q_Tree) (pe_g G_read_tree (hr.mono (by decide)) hq rfl D_read_tree.m D_read_tree.k b_read_tree .nil (fun σ => L2N.passAt tk σ) (pa_cons (pv 4) pa_nil)) (pe_makeG K_Tree G_Tree___init__ (hr.mono (by decide)) hq rfl M_Tree b_Tree___init__ .nil (fun σ => L2N.passAt tk σ) (pa_cons (pv 1) (pa_cons (pe_callTy call_tuple_of (by rfl) T.b_tuple bt_tuple (pa_cons (pv 2) pa_nil)) pa_nil))) (nomark _))))) (pss_one (ps_ret pe_bl)) pss_nil) (pss_cons (ps_setLc (i := 5) (own := [("k", 6)]) rfl sc__law_world_right.nd rfl rfl (sw_true rfl rfl rfl (by decide +kernel)) (pi_range1 rfl T.b_range (pa_cons pe_int pa_nil)) (blkOk_by (own := [("k", 6)]) (N := ["box", "houses", "roads", "by_name", "text", "texts", "k", "one"]) (sc := defScope s__law_world_right) (by decide +kernel)) (fun _ _ _ _ _ => (pg_name (i := 6) sc__law_world_right.nd rfl (by first | exact Or.inl rfl | exact Or.inr rfl))) (fun _ _ _ _ _ => pts_nil) (fun _ _ _ _ _ => (pe_g G__law_written (hr.mono (by decide)) hq rfl D__law_written.m D__law_written.k b__law_written .nil (fun σ => passN σ) (pa_cons (pv 1) (pa_cons (pe_g G__law_other_road (hr.mono (by decide)) hq rfl D__law_other_road.m D__law_other_road.k b__law_other_road .nil (fun σ => passN σ) (pa_cons (pv 0) (pa_cons (pv 1) (pa_cons (pv 2) pa_nil)))) pa_nil))))) (pss_cons (ps_set (i := 5) sc__law_world_right.nd rfl (by first | exact Or.inl rfl | exact Or.inr rfl) (pe_op op_addA (pe_op op_addA (pv 5) (pe_lc (own := [("k", 6)]) rfl sc__law_world_right.nd (pi_range1 rfl T.b_range (pa_cons pe_int pa_nil)) (blkOk_by (own := [("k", 6)]) (N := ["box", "houses", "roads", "by_name", "text", "texts", "k", "one"]) (sc := defScope s__law_world_right) (by decide +kernel)) (fun _ _ _ _ _ => (pg_name (i := 6) sc__law_world_right.nd rfl (by first | exact Or.inl rfl | exact Or.inr rfl))) (fun _ _ _ _ _ => pts_nil) (fun _ _ _ _ _ => (pe_g G__law_spoilt_sign (hr.mono (by decide)) hq rfl D__law_spoilt_sign.m D__law_spoilt_sign.k b__law_spoilt_sign .nil (fun σ => passN σ) (pa_cons (pv 0) (pa_cons (pv 4) pa_nil)))))) (pe_lc (own := [("k", 6)]) rfl sc__law_world_right.nd (pi_range1 rfl T.b_range (pa_cons pe_int pa_nil)) (blkOk_by (own := [("k", 6)]) (N := ["box", "houses", "roads", "by_name", "text", "texts", "k", "one"]) (sc := defScope s__law_world_right) (by decide +kernel)) (fun _ _ _ _ _ => (pg_name (i := 6) sc__law_world_right.nd rfl (by first | exact Or.inl rfl | exact Or.inr rfl))) (fun _ _ _ _ _ => pts_nil) (fun _ _ _ _ _ => (pe_g G__law_spoilt_word (hr.mono (by decide)) hq rfl D__law_spoilt_word.m D__law_spoilt_word.k b__law_spoilt_word .nil (fun σ => passN σ) (pa_cons (pv 0) (pa_cons (pv 4) pa_nil))))))) (pss_cons (ps_set (i := 5) sc__law_world_right.nd rfl (by first | exact Or.inl rfl | exact Or.inr rfl) (pe_op op_addA (pv 5) (pe_lst (pa_cons (pe_g G__law_spoilt_sign (hr.mono (by decide)) hq rfl D__law_spoilt_sign.m D__law_spoilt_sign.k b__law_spoilt_sign .nil (fun σ => L2N.passAt tk σ) (pa_cons (pv 0) (pa_cons (pe_g G__law_spoilt_word (hr.mono (by decide)) hq rfl D__law_spoilt_word.m D__law_spoilt_word.k b__law_spoilt_word .nil (fun σ => L2N.passAt tk σ) (pa_cons (pv 0) (pa_cons (pv 4) pa_nil))) pa_nil))) (pa_cons (pe_g G__law_written (hr.mono (by decide)) hq rfl D__law_written.m D__law_written.k b__law_written .nil (fun σ => L2N.passAt tk σ) (pa_cons (pe_op op_addA (pv 1) pe_int) (pa_cons (pv 2) pa_nil))) (pa_cons (pv 4) pa_nil)))))) (pss_one (ps_ret (pe_cmpR (opK (K := K) (r := rEqA) rfl (op_eqA hr.units)) (pe_lc (own := [("one", 7)]) rfl sc__law_world_right.nd (pi_list (pv 5)) (blkOk_by (own := [("one", 7)]) (N := ["box", "houses", "roads", "by_name", "text", "texts", "k", "one"]) (sc := defScope s__law_world_right) (by decide +kernel)) (fun _ _ _ _ _ => (pg_name (i := 7) sc__law_world_right.nd rfl (by first | exact Or.inl rfl | exact Or.inr rfl))) (fun _ _ _ _ _ => pts_one (pt_not (pt_val (pe_g G__law_asked_right (hr.mono (by decide)) hq rfl D__law_asked_right.m D__law_asked_right.k b__law_asked_right .nil (fun σ => passN σ) (pa_cons (pv 7) (pa_cons (pv 3) pa_nil)))))) (fun _ _ _ _ _ => (pv 7))) (pe_lst pa_nil) (nomark _)))))))))), ?_⟩
  try simp only [cxK]
  rintro _ ms Pd Xd ⟨k, c, n, xs, rs, rfl, hk, hb, hc, ht, q⟩ bl mb
  have h1 := ht.h1
  have h2 := ht.h2
  have hin := roads_in ht.ok
  have hlr := roads_len ht.ok
  have h65 := in65_of (by omega) hin
  have lt := ms_lt hk
  repeat' walk_at "d1"
  refine ⟨k, c, 2, xs, rfl, by decide, by decide, hk, hb, by omega, fun r ys hr0 hr1 hb1 => ?_⟩
  repeat' walk_at "d1"
  refine ⟨n, rs, rfl, by omega, by omega, by omega, h65, fun hsm => ?_⟩
  repeat' walk_at "d1"
  rw [writ_line] at hsm ⊢
  have hsl := hsm.len
  refine de_meth (dds := []) (fun _ => .nil) (de_make (dds := []) (fun _ => .nil) ?_)
  repeat' walk_at "d1"
  refine dr_listF (.inl rfl) ?_
  repeat' walk_at "d1"
  refine ⟨_, n, _, rs, rfl, one0, .inl rfl, ht, fun near1 ways1 hn1 hw1 => ⟨rfl, ?_⟩⟩
  rw [oneS]
  refine ⟨_, _, rfl, one0, lkl, da_nil ?_⟩
  refine ⟨_, n, rs, near1, ways1, rfl, one0, h2, by omega, hin, ?_⟩
  generalize hT1 : MO.ins C (treeF n rs near1 ways1) = T1
  repeat' walk_at "d1"
  refine ⟨_, rfl, .inl ⟨_, rfl, by omega, fun n' rs' hp' near2 ways2 hn2 hw2 => ?_, fun h => absurd ⟨n, rs, parse_line ht⟩ h⟩⟩
  obtain ⟨e1, e2⟩ := parse_one (parse_line ht) hp'
  rw [e1, e2] at hn2 hw2 ⊢
  generalize hT2 : MO.ins C (treeF n rs near2 ways2) = T2
  refine de_make (dds := []) (fun _ => .nil) ?_
  repeat' walk_at "d1"
  refine dr_tupOf (.inl rfl) ?_
  repeat' walk_at "d1"
  refine ⟨_, n, _, rs, rfl, one0, .inr rfl, ht, fun near3 ways3 hn3 hw3 => ⟨rfl, ?_⟩⟩
  rw [oneS]
  generalize hT3 : MO.ins C (treeF n rs near3 ways3) = T3
  refine d2_neOwn (by rw [oneL, ← hT2]) (by rw [one0, ← hT3]) ⟨_, _, n, rs, near2, near3, ways2, ways3, rfl, by rw [oneL, hT2], by rw [one0, hT3], true, rfl, ?_⟩
  have eM : ms.set k (.lst ys) ++ [T1] ++ [T2] ++ [T3] = (ms ++ [T1, T2, T3]).set k (.lst ys) := by
    rw [List.set_append_left _ _ lt, List.append_assoc, List.append_assoc]; rfl
  rw [eM]
  have hN : (ms ++ [T1, T2, T3])[k]? = some (.lst xs) := by rw [List.getElem?_append_left lt]; exact hk
  have fin : ∀ zs c', BoxOk c' zs → c' ≤ c + 300 → RetOk ms.length Pd (.bl true) ((ms ++ [T1, T2, T3]).set k (.lst zs)) := fun zs c' h1 h2 => by
    rw [List.set_append_left _ _ lt]
    exact ret_bel (by rw [List.length_set]) (msbel_set mb (.lst (box_bel h1))) (.bl true) (q zs c' h1 h2)
  generalize ms ++ [T1, T2, T3] = N at hN fin ⊢
  repeat' walk_at "d1"
  refine di_rng1 ?_
  repeat' walk_at "d1"
  refine ⟨by decide, JT N k (c + 1), ⟨[], ys, c + 1, rfl, rfl, (fun z hz => by cases hz), hb1, by omega, rfl⟩, ?_, ?_⟩
  · rintro i acc m hi _ ⟨zs, ys, c', rfl, hzl, hzs, hb, hc', rfl⟩
    refine dg_name (by decide) (dt_yes ⟨fun _ => ?_, fun z => nomatch z⟩)
    repeat' walk_at "d1"
    refine ⟨k, c', n, ys, rs, rfl, setS hN, hb, by omega, h1, h2, by omega, hin, fun rs' ys' c'' hl' hin' hb' hc2 => ?_⟩
    rw [List.set_set]
    repeat' walk_at "d1"
    exact ⟨n, rs', rfl, by omega, by omega, hl', in65_of (by omega) hin', fun hs => jt_step hzl hzs (hs.mono (by decide)) hb' (by omega)⟩
  rintro acc m _ ⟨zs1, ys1, c1, rfl, hzl1, hzs1, hb1', hc1, rfl⟩
  have hw5 : ∀ p ∈ Txt.split (lineS n rs) " ", p.length ≤ 5 := by
    rw [line_split (by omega) h65]
    intro p hp
    rcases List.mem_cons.mp hp with h | h
    · rw [h]; exact Nat.le_trans (headS_len (by omega) (by omega)) (by decide)
    · obtain ⟨x, hx, rfl⟩ := List.mem_map.mp h
      exact roadS_len (n := n) (by omega) (hin x hx)
  repeat' walk_at "d1"
  refine di_rng1 ?_
  repeat' walk_at "d1"
  refine ⟨by decide, JT N k c1, ⟨[], ys1, c1, rfl, rfl, (fun z hz => by cases hz), hb1', by omega, rfl⟩, ?_, ?_⟩
  · rintro i acc m hi _ ⟨zs, ys, c', rfl, hzl, hzs, hb, hc', rfl⟩
    refine dg_name (by decide) (dt_yes ⟨fun _ => ?_, fun z => nomatch z⟩)
    repeat' walk_at "d1"
    refine ⟨k, c', ys, lineS n rs, rfl, setS hN, hb, by omega, hsm.mono (by decide), fun z' ys' c'' hz' hb' hc2 => ?_⟩
    rw [List.set_set]
    exact jt_step hzl hzs hz' hb' (by omega)
  rintro acc m _ ⟨zs2, ys2, c2, rfl, hzl2, hzs2, hb2', hc2, rfl⟩
  refine d2_addL (by rw [List.length_map, List.length_map]; omega) ?_
  repeat' walk_at "d1"
  refine di_rng1 ?_
  repeat' walk_at "d1"
  refine ⟨by decide, JT N k c2, ⟨[], ys2, c2, rfl, rfl, (fun z hz => by cases hz), hb2', by omega, rfl⟩, ?_, ?_⟩
  · rintro i acc m hi _ ⟨zs, ys, c', rfl, hzl, hzs, hb, hc', rfl⟩
    refine dg_name (by decide) (dt_yes ⟨fun _ => ?_, fun z => nomatch z⟩)
    repeat' walk_at "d1"
    refine ⟨k, c', ys, lineS n rs, rfl, setS hN, hb, by omega, hsm, hw5, fun z' ys' c'' hz' hb' hc2 => ?_⟩
    rw [List.set_set]
    exact jt_step hzl hzs (hz'.mono (by decide)) hb' (by omega)
  rintro acc m _ ⟨zs3, ys3, c3, rfl, hzl3, hzs3, hb3', hc3, rfl⟩
  refine d2_addL (by rw [List.length_append, List.length_map, List.length_map, List.length_map]; omega) ?_
  repeat' walk_at "d1"
  refine ⟨k, c3, ys3, lineS n rs, rfl, setS hN, hb3', by omega, hsm, hw5, fun z4 ys4 c4 hz4 hb4 hc4 => ?_⟩
  rw [show (N.set k (.lst ys3)).set k (.lst ys4) = N.set k (.lst ys4) from List.set_set ..]
  repeat' walk_at "d1"
  refine ⟨k, c4, ys4, z4, rfl, setS hN, hb4, by omega, hz4.mono (by decide), fun z5 ys5 c5 hz5 hb5 hc5 => ?_⟩
  rw [show (N.set k (.lst ys4)).set k (.lst ys5) = N.set k (.lst ys5) from List.set_set ..]
  repeat' walk_at "d1"
  refine ⟨(n : Int) + 1, rs, rfl, by omega, by omega, by omega, h65, fun hs6 => ?_⟩
  repeat' walk_at "d1"
  refine d2_addL (by simp; omega) ?_
  have et : (zs1.map Dat.str ++ zs2.map Dat.str ++ zs3.map Dat.str ++ [.str z5, .str (writS ((n : Int) + 1) rs), .str (lineS n rs)]) = (zs1 ++ zs2 ++ zs3 ++ [z5, writS ((n : Int) + 1) rs, lineS n rs]).map Dat.str := by simp
  rw [et]
  have hall : ∀ z ∈ zs1 ++ zs2 ++ zs3 ++ [z5, writS ((n : Int) + 1) rs, lineS n rs], Sm 600 z := by
    intro z hz
    simp only [List.mem_append, List.mem_cons, List.not_mem_nil, or_false] at hz
    rcases hz with ((h | h) | h) | h | h | h
    · exact hzs1 z h
    · exact hzs2 z h
    · exact hzs3 z h
    · rw [h]; exact hz5
    · rw [h]; exact hs6.mono (by decide)
    · rw [h]; exact hsm.mono (by decide)
  have hal : (zs1 ++ zs2 ++ zs3 ++ [z5, writS ((n : Int) + 1) rs, lineS n rs]).length ≤ 1000 := by simp; omega
  generalize zs1 ++ zs2 ++ zs3 ++ [z5, writS ((n : Int) + 1) rs, lineS n rs] = zs at hall hal
  repeat' walk_at "d1"
  refine di_lst (de_var rfl (as_lst ?_))
  rw [List.length_map]
  refine lcw_map (by omega) (fun _ => false) (fun _ => .non) (fun i hi => dg_name (by decide) ?_) ?_
  · rw [itD hi]
    repeat' walk_at "d1"
    refine ⟨.str zs[i], _, rfl, .inl ⟨.inl ⟨_, rfl, hall _ (List.getElem_mem hi)⟩, ?_⟩⟩
    repeat' walk_at "d1"
    exact ⟨rfl, rfl, fun z => nomatch z⟩
  · rw [show ((List.range zs.length).filter fun _ => false) = [] by simp, List.map_nil]
    repeat' walk_at "d1"
    refine d2_eqNilS (cs := []) rfl (fun z hz => by cases hz) ?_
    exact fin ys5 c5 hb5 (by simp at hc1 hc2 hc3; omega)
end
end K03
namespace DL
open PySem PySem.Spec PyProof.Rows L2
section
variable {K : PySem.W.Frag} {R : WX} {e : Ev} {ms : Ms} {g : TG} {tt : TT} {te ta : TE} {X : XP} {P : Dat → Ms → Prop}
/-- a comprehension over a list that may change, but stays as it is throughout -/
def LcC (K : PySem.W.Frag) (R : WX) (g : TG) (tt : TT) (te : TE) (vs : List Nat) (e : Ev) (c : Nat) (xs : List Dat) (m : Ms) (Fin : List Dat → Ms → Prop) : Prop :=
  xs.length ≤ 1000000 ∧ ∃ J : Nat → List Dat → Ms → Prop, J 0 [] m ∧ (∀ i acc m', i ≤ xs.length → J i acc m' → m'[c]? = some (.lst xs)) ∧
    (∀ i acc m', i < xs.length → acc.length ≤ i → J i acc m' → DG K g (itL xs i) (wipeE e vs) m' vs (fun e2 m2 => DT K R tt e2 m2 (fun b m3 => (b = true → DE K R te e2 m3 (fun y m4 => J (i + 1) (acc ++ [y]) m4) (fun _ _ _ => False)) ∧ (b = false → J (i + 1) acc m3)) (fun _ _ _ => False))) ∧
    ∀ acc m', acc.length ≤ xs.length → J xs.length acc m' → Fin acc m'
theorem lc_runC {vs : List Nat} {Fin : List Dat → Ms → Prop} (h : DE K R ta e ms (fun x m => ∃ c xs, x = .cell c ∧ LcC K R g tt te vs e c xs m Fin) X) {W : Wd} {G : Hp} {σ : L2.St} {H : Hp} {Q : VK} (gd : Good K W G H ms) (s : Slots K W σ e)
    (k : ∀ (W' : Wd) (D : Addr) (ys : List V) (acc : List Dat) (H' : Hp) (m' : Ms), Le W W' → Good K W' (upd G D (.lst ys)) H' m' → G D = none → RepL K W' ys acc → Fin acc m' → Q (.ref D) H') (x : ExC K W G X (fun c d H' => R c d σ H')) : tLc (iList K ta) g tt te vs σ H Q := by
  refine h W G σ H _ gd s (fun W1 v d H1 m1 l1 g1 r1 ⟨c, xs, hx, hn, Jv, j0, still, step, fin⟩ => ?_) x
  subst hx
  have at_ : ∀ {W2 : Wd} {G' H' : Hp} {m2 : Ms} {a : Addr}, Le W1 W2 → Good K W2 G' H' m2 → Rep K W1 (.ref a) (.cell c) → m2[c]? = some (.lst xs) → ∃ ws, SqL K H' a ws ∧ RepL K W2 ws xs := fun {W2 G' H' m2 a} l2 g2 r e2 => by
    have r2 := Rep.mono l2 _ _ r
    cases r2 with
    | cell e1 =>
      obtain ⟨ws, h1, h2⟩ := (show MoOk K W2 H' _ (.lst xs) from g2.cl _ _ _ e1 e2)
      exact ⟨ws, SqL.of h1, h2⟩
  obtain ⟨a, rfl⟩ : ∃ a, v = .ref a := by cases r1; exact ⟨_, rfl⟩
  obtain ⟨ws0, q0, _⟩ := at_ (Le.refl _) g1 r1 (still 0 [] m1 (Nat.zero_le _) j0)
  refine ⟨a, rfl, ⟨ws0, q0⟩, fun D hD => ?_⟩
  have gD : G D = none := g1.gd.free hD
  refine ⟨fun i m H' => m = xs.length - i ∧ i ≤ xs.length ∧ ∃ W2 ys acc m2, Le W1 W2 ∧ Good K W2 (upd G D (.lst ys)) H' m2 ∧ RepL K W2 ys acc ∧ acc.length ≤ i ∧ Jv i acc m2, ⟨xs.length, rfl, Nat.zero_le _, W1, [], [], m1, Le.refl _, g1.hold hD, .nil, Nat.zero_le _, j0⟩, ?_⟩
  rintro i m H' ⟨rfl, hi, W2, ys, acc, m2, l2, g2, r2, ha, j2⟩
  obtain ⟨ws, hq, hr⟩ := at_ l2 g2 r1 (still i acc m2 hi j2)
  have hwl := hr.length
  by_cases hlt : i < xs.length
  · have hiw : i < ws.length := by rw [hwl]; exact hlt
    refine .inr ⟨⟨ws, ws[i], hq, List.getElem?_eq_getElem hiw⟩, fun H'' => i + 1 ≤ xs.length ∧ ∃ W3 ys acc m3, Le W1 W3 ∧ Good K W3 (upd G D (.lst ys)) H'' m3 ∧ RepL K W3 ys acc ∧ acc.length ≤ i + 1 ∧ Jv (i + 1) acc m3, fun H'' hh => ⟨xs.length - (i + 1), by omega, rfl, hh⟩, fun v H3 hy => ?_⟩
    obtain ⟨y1, y2⟩ := hy
    subst y1
    obtain ⟨d, hd, rd⟩ := hr.get i (y2 ws hq)
    rw [← itL_get hd] at rd
    have sw := (s.mono (l1.trans l2)).wipe vs
    refine step i acc m2 hlt ha j2 W2 _ (wipe σ vs) _ v _ g2 sw rd fun W4 σ4 e4 H4 m4 l4 g4 s4 o4 p4 => ⟨?_, ?_⟩
    · exact wipe_same (o4.1.trans (wipe_length σ vs)) o4.2
    · refine p4 W4 _ σ4 H4 _ g4 s4 (fun W5 b H5 m5 l5 g5 ⟨pb1, pb2⟩ => ?_) (fun _ _ _ _ _ _ _ _ _ _ _ z => z.elim)
      cases b with
      | true =>
        refine pb1 rfl W5 _ σ4 H5 _ g5 (s4.mono l5) (fun W6 y d H6 m6 l6 g6 r6 q6 => ?_) (fun _ _ _ _ _ _ _ _ _ _ _ z => z.elim)
        have lw : Le W2 W6 := l4.trans (l5.trans l6)
        refine ⟨ys, g6.gd D _ upd_same, ?_, ?_⟩
        · rw [r2.length]
          exact Nat.lt_of_lt_of_le (show acc.length < 1000001 by omega) (by decide)
        · have g7 := g6.held (.lst (ys ++ [y]))
          exact ⟨hlt, W6, ys ++ [y], acc ++ [d], m6, l2.trans lw, g7, RepL.append (RepL.mono lw _ _ r2) r6, by rw [List.length_append, List.length_singleton]; omega, q6⟩
      | false => exact ⟨hlt, W5, ys, acc, m5, l2.trans (l4.trans l5), g5, RepL.mono (l4.trans l5) _ _ r2, by omega, pb2 rfl⟩
  · have e' : i = xs.length := by omega
    subst e'
    exact .inl ⟨⟨ws, hq, by rw [hwl]; exact Nat.le_refl _⟩, k W2 D ys acc H' m2 (l1.trans l2) g2 gD r2 (fin acc m2 ha j2)⟩
theorem de_lcV {vs : List Nat} (h : DE K R ta e ms (fun x m => ∃ c xs, x = .cell c ∧ LcC K R g tt te vs e c xs m (fun acc m' => P (.lst acc) m')) X) : DE K R (tLc (iList K ta) g tt te vs) e ms P X := fun W G σ H Q gd s k x =>
  lc_runC h gd s (fun W' D ys acc H' m' l g' n r p => by
    obtain ⟨g2, l2⟩ := g'.frozen n
    exact k _ _ _ _ _ (l.trans l2) g2 (.lst upd_same (RepL.mono l2 _ _ r)) p) x
/-- list(x), its reading told by K -/
def rLstOf (K : PySem.W.Frag) : List V → Hp → VK → Prop := fun xs H Q => ∃ a vs, xs = [V.ref a] ∧ (SqL K H a vs ∨ SqT K H a vs) ∧ ∀ b : Addr, H b = none → Q (.ref b) (upd H b (HO.lst vs))
theorem dr_lstK {Q : Dat → Ms → Prop} {x : Dat} {xs : List Dat} (s : SeqV ms x xs) (q : Q (.lst xs) ms) : DR K (rLstOf K) [x] ms Q := dr_listF s q
end
end DL
namespace K03
open PySem PySem.Spec PyProof.Rows L2 DL
local macro_rules | `(tactic| walk_at "hyp") => `(tactic| (first
  | (simp only [Bool.not_eq_true', Bool.not_eq_false', decide_eq_true_eq, decide_eq_false_iff_not, Bool.or_eq_true, Bool.and_eq_true, Bool.or_eq_false_iff, Bool.not_true, Bool.not_false, Bool.and_eq_false_iff] at *)
  | skip))
local macro_rules | `(tactic| walk_at "d1") => `(tactic| first
  | with_reducible refine ds_seq ?_
  | with_reducible refine ds_if ?_
  | with_reducible refine ds_ret ?_
  | with_reducible refine ds_set ?_
  | with_reducible refine ds_drop ?_
  | with_reducible refine ds_par ?_
  | with_reducible refine ds_par3 ?_
  | with_reducible refine ds_next ?_
  | with_reducible refine de_var rfl ?_
  | with_reducible refine de_int ?_
  | with_reducible refine de_str ?_
  | with_reducible refine de_bl ?_
  | with_reducible refine de_non ?_
  | with_reducible refine de_ty ?_
  | with_reducible refine de_ref ?_
  | with_reducible refine de_op ?_
  | with_reducible refine de_chain ?_
  | with_reducible refine de_un ?_
  | with_reducible refine de_dnew ?_
  | with_reducible refine de_disp1 ?_
  | with_reducible refine de_cb ?_
  | with_reducible refine de_bm ?_
  | with_reducible refine de_sl ?_
  | with_reducible refine de_tup ?_
  | with_reducible refine de_lst ?_
  | with_reducible refine de_fstr ?_
  | with_reducible refine de_fmtS ?_
  | with_reducible refine dj_cons ?_
  | with_reducible refine dj_nil ?_
  | with_reducible refine do_none ?_
  | with_reducible refine do_some ?_
  | with_reducible refine de_g0 (dds := []) (fun _ => .nil) ?_
  | with_reducible refine de_g (dds := []) (fun _ => .nil) ?_
  | with_reducible refine de_lc ?_
  | with_reducible refine di_str ?_
  | with_reducible refine di_tup ?_
  | with_reducible refine de_notV ?_
  | with_reducible refine de_andV ?_
  | with_reducible refine de_orV ?_
  | with_reducible refine de_if ?_
  | with_reducible refine dt_test ?_
  | with_reducible refine dt_B ?_
  | with_reducible refine dt_and ?_
  | with_reducible refine dt_or ?_
  | with_reducible refine dt_not ?_
  | with_reducible refine dt_yes ?_
  | with_reducible refine da_cons ?_
  | with_reducible refine da_nil ?_
  | with_reducible refine d2_leI ?_
  | with_reducible refine d2_ltI ?_
  | with_reducible refine d2_geI ?_
  | with_reducible refine d2_gtI ?_
  | with_reducible refine d2_addI ?_
  | with_reducible refine d2_sub ?_
  | ((with_reducible refine' d2_leS1 (sign1_cps _) ?hs1 ?_); (case hs1 => first | exact sg_a | exact sg_z | exact sg_sp | exact sg_ti))
  | ((with_reducible refine' d2_leS1 ?hs1 (sign1_cps _) ?_); (case hs1 => first | exact sg_a | exact sg_z | exact sg_sp | exact sg_ti))
  | with_reducible refine dr_int ?_
  | with_reducible refine dr_abs ?_
  | with_reducible refine dg_sub ?_
  | ((with_reducible refine' d2_ix ?hsq ?hix ?_); (case hsq => assumption); (case hix => rfl))
  | ((with_reducible refine' d2_mod ?hmod ?_); (case hmod => first | decide | omega))
  | ((with_reducible refine' d2_mul ?hmul ?_); (case hmul => exact mul_ok (by omega) (by omega)))
  | ((with_reducible refine' d2_div ?hdiv ?_); (case hdiv => exact div_ok (by first | decide | omega) (by omega)))
  | ((with_reducible refine' d2_pow ?hpow ?_); (case hpow => exact pow_ok (by decide) (by decide) (by omega)))
  | with_reducible refine d2_notI ?_
  | with_reducible refine d2_notSt ?_
  | with_reducible refine d2_notNn ?_
  | with_reducible refine d2_notT ?_
  | with_reducible refine d2_isI ?_
  | with_reducible refine d2_isNn ?_
  | with_reducible refine d2_isT ?_
  | with_reducible refine d2_neI ?_
  | with_reducible refine d2_eqI ?_
  | with_reducible refine d2_eqS ?_
  | with_reducible refine d2_neS ?_
  | with_reducible refine dr_isiK (by assumption) (by decide) (by first | assumption | exact isTyD_str _ | exact isTyD_tup _ | rfl) ?_
  | with_reducible refine dr_lenT ?_
  | with_reducible refine dr_lenL ?_
  | with_reducible refine dr_lenR ?_
  | with_reducible refine dr_lenC (by assumption) ?_
  | with_reducible refine ds_to ?_
  | with_reducible refine dg_name (by decide) ?_
  | with_reducible refine dg_tup2 ?_
  | with_reducible refine dg_tup3 ?_
  | with_reducible refine dg_tup4 ?_
  | with_reducible refine dgs_cons ?_
  | with_reducible refine dgs_nil ?_
  | with_reducible refine dr_lenS (by omega) ?_
  | with_reducible refine ⟨⟨by simp only [List.length_cons, List.length_nil], by simp only [List.length_cons, List.length_nil]; omega⟩, ?_⟩
  | with_reducible refine ⟨_, rfl, ?_⟩
  | with_reducible refine ⟨_, _, rfl, ?_⟩
  | with_reducible refine ⟨tyD_str, ?_⟩
  | with_reducible refine ⟨by omega, ?_⟩
  | with_reducible refine ⟨by (simp only [PySem.Str.length_append, len_empty, len_sp, List.length_cons, List.length_nil, List.length_append]; omega), ?_⟩
  | with_reducible refine bothT ?_
  | with_reducible refine bothF ?_
  | with_reducible refine bothNT ?_
  | with_reducible refine bothNF ?_
  | (with_reducible refine both (fun hc => ?_) (fun hc => ?_) <;> (try simp only [Bool.not_eq_true', Bool.not_eq_false', decide_eq_true_eq, decide_eq_false_iff_not] at hc) <;> (try (exfalso; omega)) <;> (try exact absurd rfl hc) <;> (try exact absurd trivial hc)))

local macro_rules | `(tactic| walk_at "sm") => `(tactic| first
  | with_reducible refine di_lst ?_
  | with_reducible refine as_lst ?_
  | ((with_reducible refine' d2_addSm ?hs1 ?hs2 ?hs3 (fun hs => ?_)); (case hs1 => assumption); (case hs2 => assumption); (case hs3 => omega))
  | ((with_reducible refine' d2_addL ?hal ?_); (case hal => (simp; try omega)))
  | with_reducible refine d1_neg ?_)

abbrev s__law_cell_right : Stmt := (topS 37)
theorem sc__law_cell_right : FnScope ["box", "worlds", "turn", "houses", "trees", "star", "values", "world", "k", "value"] ["box"] (defScope s__law_cell_right) := ⟨rfl, rfl, rfl, by decide +kernel, rfl, by decide +kernel, by decide +kernel⟩
abbrev s_law : Stmt := (topS 38)
theorem sc_law : FnScope ["script", "k"] ["script"] (defScope s_law) := ⟨rfl, rfl, rfl, by decide +kernel, rfl, by decide +kernel, by decide +kernel⟩
section
variable {P : Program} {w : World} {K : PySem.W.Frag} {mg : Str → Option Value} {base : Heap}
def pm_cellr (K : PySem.W.Frag) : Pm := fun ds ms P X => ∃ (k : Nat) (xs : List Dat), ds = [.cell k] ∧ ms[k]? = some (.lst xs) ∧ BoxOk 0 xs ∧ ∀ ys, P (.bl true) (ms.set k (.lst ys))
/-- the cells: those of before with the box turned, and new ones -/
def Stt (ms : Ms) (k : Nat) (ys : List Dat) (ext : Ms) : Ms := ms.set k (.lst ys) ++ ext
section
variable {ms ext : Ms} {k t : Nat} {ys zs : List Dat} {v : MO}
theorem stt_box (lt : k < ms.length) : (Stt ms k ys ext)[k]? = some (.lst ys) := by
  unfold Stt; rw [List.getElem?_append_left (by rw [List.length_set]; exact lt), List.getElem?_set_self lt]
theorem stt_setk (lt : k < ms.length) : (Stt ms k ys ext).set k (.lst zs) = Stt ms k zs ext := by
  unfold Stt; rw [List.set_append_left _ _ (by rw [List.length_set]; exact lt), List.set_set]
theorem stt_at : (Stt ms k ys ext)[ms.length + t]? = ext[t]? := by
  unfold Stt; rw [List.getElem?_append_right (by rw [List.length_set]; omega), List.length_set, Nat.add_sub_cancel_left]
theorem stt_set : (Stt ms k ys ext).set (ms.length + t) v = Stt ms k ys (ext.set t v) := by
  unfold Stt; rw [List.set_append_right _ _ (by rw [List.length_set]; omega), List.length_set, Nat.add_sub_cancel_left]
theorem stt_app : Stt ms k ys ext ++ [v] = Stt ms k ys (ext ++ [v]) := by unfold Stt; rw [List.append_assoc]
theorem stt_len : (Stt ms k ys ext).length = ms.length + ext.length := by unfold Stt; rw [List.length_append, List.length_set]
theorem stt_0 (h : ms[k]? = some (.lst ys)) : ms ++ [v] = Stt ms k ys [v] := by
  unfold Stt
  obtain ⟨h1, h2⟩ := List.getElem?_eq_some_iff.mp h
  rw [← h2, List.set_getElem_self]
end
abbrev Wl := List (Nat × List Pr)
def worldD (p : Nat × List Pr) : Dat := .lst [.int (p.1 : Int), .lst (p.2.map dpPr)]
theorem writ_sm {n : Int} {rs : List Pr} (h0 : 0 ≤ n) (h1 : n ≤ 65) (hl : rs.length ≤ 64) (hin : In65 rs) : Sm 400 (writS n rs) := by
  have hj : ∀ z ∈ rs.map wroadS, Sm 6 z := fun z hz => by
    obtain ⟨p, hp, rfl⟩ := List.mem_map.mp hz
    exact sm_wroad (hin p hp)
  refine (((sm_nS h0 h1).app (Sm.lit (n := 1) (z := Str.ofString ":") (by decide +kernel))).app (sm_join hj)).mono ?_
  rw [List.length_map]; omega
theorem line_sm {n : Nat} {rs : List Pr} (t : TreeOk n rs) : Sm 400 (lineS n rs) := by
  rw [← writ_line]
  have := t.h2
  have := roads_len t.ok
  exact writ_sm (by omega) (by omega) (by omega) (in65_of (by omega) (roads_in t.ok))
theorem eqv_strs (a b : Str) : PyData.eqv (.list [.str a, .str b]) (.list [.str a, .str b]) = true := by simp [PyData.eqv, PyData.eqvAll]
theorem line_of {p1 p2 : Nat × List Pr} {i : Nat} {p : Nat × List Pr} (hi : i < 2) (h : [p1, p2][i]? = some p) : lineS p.1 p.2 = if i = 0 then lineS p1.1 p1.2 else lineS p2.1 p2.2 := by
  have h2 : i = 0 ∨ i = 1 := by omega
  rcases h2 with e | e <;> subst e <;> cases h <;> rfl
def valsD (j : Nat) (star : Str) : List Dat := [.non, .bl true, .int 1, .cell j, .tup [.str (Str.ofString "1:")], .dct [(.inr (Str.ofString "1:"), .int 0)], .str (Str.ofString ""), .str (Str.ofString ":"), .str (Str.ofString "1"), .str (Str.ofString "1:"), .str (Str.ofString "0:"), .str star]
theorem odd_cm {ms : Ms} {d : Dat} {n : Nat} (h : Cm d n 5) (hn : n ≤ 1000000) (hs : isTyD ms d "str" = false) (hl : isTyD ms d "list" = false) : Odd K ms d := by
  have v := h.v (K := K) (ms := ms)
  obtain ⟨p, a, b, c, e, f⟩ := h.ex
  exact ⟨v, hs, hl, p.shown, fun Q q => dr_reprX (.inl a) ⟨b, c, by omega, by omega⟩ q⟩
theorem kinds (star : Str) (hs : Sm 600 star) (j : Nat) (ms : Ms) : ∀ i, i < 12 → i ≠ 3 → (∃ z, itL (valsD j star) i = .str z ∧ Sm 600 z) ∨ Odd K ms (itL (valsD j star) i)
  | 0, _, _ => .inr (odd_cm (d := .non) (cm_non (n := 4) (by decide)) (by decide) rfl rfl)
  | 1, _, _ => .inr (odd_cm (d := .bl true) (cm_bl (n := 5) (by decide)) (by decide) rfl rfl)
  | 2, _, _ => .inr (odd_cm (d := .int 1) (cm_small (i := 1) (by decide) (by decide)) (by decide) rfl rfl)
  | 3, _, h => absurd rfl h
  | 4, _, _ => .inr (odd_cm (d := .tup [.str (Str.ofString "1:")]) ((CmL.tup (CmL.cons (cm_str (m := 2) (n := 100) (k := 4) (Sm.lit (by decide +kernel)) (by decide) (by decide)) .nil))) (by decide) rfl rfl)
  | 5, _, _ => .inr ⟨.ty (T := "dict") rfl True.intro, rfl, rfl, (dictD [Str.ofString "1:"] [.int 0]).shown, fun Q q => dr_reprKx (.cons (.int 0) .nil) (by decide +kernel) q⟩
  | 6, _, _ => .inl ⟨_, rfl, Sm.lit (by decide +kernel)⟩
  | 7, _, _ => .inl ⟨_, rfl, Sm.lit (by decide +kernel)⟩
  | 8, _, _ => .inl ⟨_, rfl, Sm.lit (by decide +kernel)⟩
  | 9, _, _ => .inl ⟨_, rfl, Sm.lit (by decide +kernel)⟩
  | 10, _, _ => .inl ⟨_, rfl, Sm.lit (by decide +kernel)⟩
  | 11, _, _ => .inl ⟨_, rfl, hs⟩
  | n + 12, h, _ => absurd h (by omega)
def JV (ms : Ms) (k : Nat) (e1 e2 : Ms) (i : Nat) (acc : List Dat) (m : Ms) : Prop := acc = [] ∧ ∃ (ys : List Dat) (c : Nat), BoxOk c ys ∧ c ≤ 1300 + 10 * i ∧ m = Stt ms k ys (if i ≤ 3 then e1 else e2)
def starL : List Str := (List.range 64).map fun (i : Nat) => Str.ofString " 0-" ++ nS (1 + (i : Int))
theorem starL_sm : ∀ z ∈ starL, Sm 5 z := fun z hz => by
  unfold starL at hz
  obtain ⟨i, hi, rfl⟩ := List.mem_map.mp hz
  rw [List.mem_range] at hi
  exact (Sm.lit (n := 3) (by decide +kernel)).app (sm_nS (by omega) (by omega))
def JTr (C : Addr) (ms : Ms) (k : Nat) (ys : List Dat) (p1 p2 : Nat × List Pr) (i : Nat) (acc : List Dat) (m : Ms) : Prop := ∃ ts : Ms, ts.length = i ∧ acc = (List.range i).map (fun t => Dat.cell (ms.length + (1 + t))) ∧ m = Stt ms k ys (.lst [worldD p1, worldD p2] :: ts) ∧
  ∀ (t : Nat) T, ts[t]? = some T → ∃ p near ways, [p1, p2][t]? = some p ∧ T = .ins C (treeF p.1 p.2 near ways)
def JBx (ms : Ms) (k : Nat) (ext : Ms) (c0 : Nat) (i : Nat) (acc : List Dat) (m : Ms) : Prop := acc = [] ∧ ∃ (ys : List Dat) (c : Nat), BoxOk c ys ∧ c ≤ c0 + 300 * i ∧ m = Stt ms k ys ext
theorem two_of {p1 p2 : Nat × List Pr} (t1 : TreeOk p1.1 p1.2) (t2 : TreeOk p2.1 p2.2) {i : Nat} (hi : i < 2) : ∃ p, [p1, p2][i]? = some p ∧ TreeOk p.1 p.2 ∧ itL [worldD p1, worldD p2] i = .lst [.int (p.1 : Int), .lst (p.2.map dpPr)] ∧ atI [worldD p1, worldD p2] (0 + (i : Int)) = some (.lst [.int (p.1 : Int), .lst (p.2.map dpPr)]) := by
  have h : i = 0 ∨ i = 1 := by omega
  rcases h with h | h <;> subst h
  · exact ⟨p1, rfl, t1, rfl, rfl⟩
  · exact ⟨p2, rfl, t2, rfl, rfl⟩
def JWl (ms : Ms) (k : Nat) (i : Nat) (e : Ev) (m : Ms) : Prop := ∃ (wl : Wl) (ys : List Dat) (c : Nat) (a b : Option Dat), wl.length = i ∧ (∀ p ∈ wl, TreeOk p.1 p.2) ∧ BoxOk c ys ∧ c ≤ 300 * i ∧
  e = [some (.cell k), some (.cell ms.length), a, b, none, none, none, none, none, none] ∧ m = Stt ms k ys [.lst (wl.map worldD)]
theorem ok_cellr {f : Addr} {fd : FuncData}  {C : Addr} (TT : TreeT K C) (M_Tree : mg "Tree" = some (.ref C)) (C_Tree : Cls K C) {g9 : Addr} {fd9 : FuncData} (K_Tree : Mk K C g9) (G_Tree___init__ : FnG P w K mg base (L2N.CX P w) 5 g9 fd9 ["self", "houses", "roads"] (spD K (pm_init K C))) (b_Tree___init__ : Binds K fd9 ["self", "houses", "roads"] []) {gl : Addr} {fdl : FuncData} (Mt_Tree_line : Meth K C "line" gl) (G_Tree_line : FnG P w K mg base (L2N.CX P w) 1 gl fdl ["self"] (spD K (pm_line K C))) (b_Tree_line : Binds K fdl ["self"] []) {g0 : Addr} {fd0 : FuncData} (D__law_take : Df K mg "_law_take" g0) (G__law_take : FnG P w K mg base (L2N.CX P w) 1 g0 fd0 ["box", "many"] (spD K (pm_take K))) (b__law_take : Binds K fd0 ["box", "many"] []) {g1 : Addr} {fd1 : FuncData} (D__law_written : Df K mg "_law_written" g1) (G__law_written : FnG P w K mg base (L2N.CX P w) 1 g1 fd1 ["houses", "roads"] (spD K (pm_written K))) (b__law_written : Binds K fd1 ["houses", "roads"] []) {g2 : Addr} {fd2 : FuncData} (D__law_roads : Df K mg "_law_roads" g2) (G__law_roads : FnG P w K mg base (L2N.CX P w) 2 g2 fd2 ["box", "houses"] (spD K (pm_roads K))) (b__law_roads : Binds K fd2 ["box", "houses"] []) {g3 : Addr} {fd3 : FuncData} (D__law_world_right : Df K mg "_law_world_right" g3) (G__law_world_right : FnG P w K mg base (L2N.CX P w) 9 g3 fd3 ["box", "houses", "roads"] (spD K (pm_world K))) (b__law_world_right : Binds K fd3 ["box", "houses", "roads"] []) {g5 : Addr} {fd5 : FuncData} (D__law_asked_right : Df K mg "_law_asked_right" g5) (G__law_asked_right : FnG P w K mg base (L2N.CX P w) 8 g5 fd5 ["value", "by_name"] (spD K (pm_asked K))) (b__law_asked_right : Binds K fd5 ["value", "by_name"] []) (F : Fun K "_law_cell_right" "_law_cell_right" s__law_cell_right f fd) (T : Txt K mg) :
    FnG P w K mg base (L2N.CX P w) 10 f fd ["box"] (spD K (pm_cellr K)) := by
  refine fn_dl F sc__law_cell_right (fun ds ms Pd X h => by obtain ⟨_, _, rfl, _⟩ := h; rfl) (fun cdv Ar outer s H E hr hq => ?_)
  have tk := (L2N.takes_of (X := cxOf (L2N.CX P w) P w K mg base ["box", "worlds", "turn", "houses", "trees", "star", "values", "world", "k", "value"] "_law_cell_right" (defScope s__law_cell_right) f cdv Ar outer s H E) (E := E) rfl rfl rfl rfl)
  refine ⟨_, (pss_cons (ps_set (i := 1) sc__law_cell_right.nd rfl (by first | exact Or.inl rfl | exact Or.inr rfl) (pe_lst pa_nil)) (pss_cons (ps_for (by first | exact PassesOwn.never | assumption | exact passes_of rfl) rfl (pi_range1 rfl T.b_range (pa_cons pe_int pa_nil)) (pg_name (i := 2) sc__law_cell_right.nd rfl (by first | exact Or.inl rfl | exact Or.inr rfl)) (pss_cons (ps_set (i := 3) sc__law_cell_right.nd rfl (by first | exact Or.inl rfl | exact Or.inr rfl) (pe_ix (ixK (K := K) (r := rIx) rfl ix_seq) (pe_lst (pa_cons pe_int (pa_cons pe_int (pa_cons pe_int (pa_cons (pe_op op_addA pe_int (pe_g G__law_take (hr.mono (by decide)) hq rfl D__law_take.m D__law_take.k b__law_take .nil (fun σ => L2N.passAt tk σ) (pa_cons (pv 0) (pa_cons pe_int pa_nil)))) (pa_cons (pe_op op_addA pe_int (pe_g G__law_take (hr.mono (by decide)) hq rfl D__law_take.m D__law_take.k b__law_take .nil (fun σ => L2N.passAt tk σ) (pa_cons (pv 0) (pa_cons pe_int pa_nil)))) (pa_cons pe_int pa_nil))))))) (pe_g G__law_take (hr.mono (by decide)) hq rfl D__law_take.m D__law_take.k b__law_take .nil (fun σ => L2N.passAt tk σ) (pa_cons (pv 0) (pa_cons pe_int pa_nil))) (fun _ _ => rfl))) (pss_one (ps_expr (pe_bmK (K := K) rfl PySem.F.plainAttrs_list PySem.F.slot_list_append PySem.F.type_list_append mtA_append (pv 1) (pa_cons (pe_lst (pa_cons (pv 3) (pa_cons (pe_g G__law_roads (hr.mono (by decide)) hq rfl D__law_roads.m D__law_roads.k b__law_roads .nil (fun σ => L2N.passAt tk σ) (pa_cons (pv 0) (pa_cons (pv 3) pa_nil))) pa_nil))) pa_nil)))))) (pss_cons (ps_set (i := 4) sc__law_cell_right.nd rfl (by first | exact Or.inl rfl | exact Or.inr rfl) (pe_lc (own := [("world", 7)]) rfl sc__law_cell_right.nd (pi_list (pv 1)) (blkOk_by (own := [("world", 7)]) (N := ["box", "worlds", "turn", "houses", "trees", "star", "values", "world", "k", "value"]) (sc := defScope s__law_cell_right) (by decide +kernel)) (fun _ _ _ _ _ => (pg_name (i := 7) sc__law_cell_right.nd rfl (by first | exact Or.inl rfl | exact Or.inr rfl))) (fun _ _ _ _ _ => pts_nil) (fun _ _ _ _ _ => (pe_makeG K_Tree G_Tree___init__ (hr.mono (by decide)) hq rfl M_Tree b_Tree___init__ .nil (fun σ => passN σ) (pa_cons (pe_ix (ixK (K := K) (r := rIx) rfl ix_seq) (pv 7) pe_int (fun _ _ => rfl)) (pa_cons (pe_callTy (crK (K := K) (r := rLstOf) rfl call_list_of) (by rfl) T.b_list bt_list (pa_cons (pe_ix (ixK (K := K) (r := rIx) rfl ix_seq) (pv 7) pe_int (fun _ _ => rfl)) pa_nil)) pa_nil)))))) (pss_cons (ps_if (pt_cmpR (opK (K := K) (r := rNeA) rfl (op_neA hr.units)) (pe_lc (own := [("k", 8)]) rfl sc__law_cell_right.nd (pi_range1 rfl T.b_range (pa_cons pe_int pa_nil)) (blkOk_by (own := [("k", 8)]) (N := ["box", "worlds", "turn", "houses", "trees", "star", "values", "world", "k", "value"]) (sc := defScope s__law_cell_right) (by decide +kernel)) (fun _ _ _ _ _ => (pg_name (i := 8) sc__law_cell_right.nd rfl (by first | exact Or.inl rfl | exact Or.inr rfl))) (fun _ _ _ _ _ => pts_one (pt_not (pt_val (pe_g G__law_world_right (hr.mono (by decide)) hq rfl D__law_world_right.m D__law_world_right.k b__law_world_right .nil (fun σ => passN σ) (pa_cons (pv 0) (pa_cons (pe_ix (ixK (K := K) (r := rIx) rfl ix_seq) (pe_ix (ixK (K := K) (r := rIx) rfl ix_seq) (pv 1) (pv 8) (fun _ _ => rfl)) pe_int (fun _ _ => rfl)) (pa_cons (pe_ix (ixK (K := K) (r := rIx) rfl ix_seq) (pe_ix (ixK (K := K) (r := rIx) rfl ix_seq) (pv 1) (pv 8) (fun _ _ => rfl)) pe_int (fun _ _ => rfl)) pa_nil))))))) (fun _ _ _ _ _ => (pv 8))) (pe_lst pa_nil) (nomark _)) (pss_one (ps_ret pe_bl)) pss_nil) (pss_cons (ps_if (pt_cmpR (opK (K := K) (r := rNeA) rfl (op_neA hr.units)) (pe_lc (own := [("k", 8)]) rfl sc__law_cell_right.nd (pi_range1 rfl T.b_range (pa_cons pe_int pa_nil)) (blkOk_by (own := [("k", 8)]) (N := ["box", "worlds", "turn", "houses", "trees", "star", "values", "world", "k", "value"]) (sc := defScope s__law_cell_right) (by decide +kernel)) (fun _ _ _ _ _ => (pg_name (i := 8) sc__law_cell_right.nd rfl (by first | exact Or.inl rfl | exact Or.inr rfl))) (fun _ _ _ _ _ => pts_nil) (fun _ _ _ _ _ => (pe_methG0 (pe_ix (ixK (K := K) (r := rIx) rfl ix_seq) (pv 4) (pv 8) (fun _ _ => rfl)) C_Tree Mt_Tree_line G_Tree_line (hr.mono (by decide)) hq b_Tree_line .nil (fun σ => passN σ)))) (pe_lc (own := [("world", 7)]) rfl sc__law_cell_right.nd (pi_list (pv 1)) (blkOk_by (own := [("world", 7)]) (N := ["box", "worlds", "turn", "houses", "trees", "star", "values", "world", "k", "value"]) (sc := defScope s__law_cell_right) (by decide +kernel)) (fun _ _ _ _ _ => (pg_name (i := 7) sc__law_cell_right.nd rfl (by first | exact Or.inl rfl | exact Or.inr rfl))) (fun _ _ _ _ _ => pts_nil) (fun _ _ _ _ _ => (pe_g G__law_written (hr.mono (by decide)) hq rfl D__law_written.m D__law_written.k b__law_written .nil (fun σ => passN σ) (pa_cons (pe_ix (ixK (K := K) (r := rIx) rfl ix_seq) (pv 7) pe_int (fun _ _ => rfl)) (pa_cons (pe_ix (ixK (K := K) (r := rIx) rfl ix_seq) (pv 7) pe_int (fun _ _ => rfl)) pa_nil))))) (nomark _)) (pss_one (ps_ret pe_bl)) pss_nil) (pss_cons (ps_set (i := 5) sc__law_cell_right.nd rfl (by first | exact Or.inl rfl | exact Or.inr rfl) (pe_op op_addA pe_str (pe_bmK (K := K) rfl PySem.F.plainAttrs_str PySem.F.slot_str_join PySem.F.type_str_join mt_join pe_str (pa_cons (pe_lc (own := [("k", 8)]) rfl sc__law_cell_right.nd (pi_range2 rfl T.b_range (pa_cons pe_int (pa_cons pe_int pa_nil))) (blkOk_by (own := [("k", 8)]) (N := ["box", "worlds", "turn", "houses", "trees", "star", "values", "world", "k", "value"]) (sc := defScope s__law_cell_right) (by decide +kernel)) (fun _ _ _ _ _ => (pg_name (i := 8) sc__law_cell_right.nd rfl (by first | exact Or.inl rfl | exact Or.inr rfl))) (fun _ _ _ _ _ => pts_nil) (fun _ _ _ _ _ => (pe_op op_addA pe_str (pe_callTy call_str_int (by rfl) T.b_str bt_str (pa_cons (pv 8) pa_nil))))) pa_nil)))) (pss_cons (ps_set (i := 6) sc__law_cell_right.nd rfl (by first | exact Or.inl rfl | exact Or.inr rfl) (pe_lst (pa_cons pe_non (pa_cons pe_bl (pa_cons pe_int (pa_cons (pe_lst (pa_cons pe_str pa_nil)) (pa_cons (pe_tup (pa_cons pe_str pa_nil)) (pa_cons (pe_disp (pps_cons pe_str pe_int pps_nil) (by rfl) (by rfl) (fun z => by cases z) (by decide)) (pa_cons pe_str (pa_cons pe_str (pa_cons pe_str (pa_cons pe_str (pa_cons pe_str (pa_cons (pv 5) pa_nil)))))))))))))) (pss_one (ps_ret (pe_cmpR (opK (K := K) (r := rEqA) rfl (op_eqA hr.units)) (pe_lc (own := [("value", 9)]) rfl sc__law_cell_right.nd (pi_list (pv 6)) (blkOk_by (own := [("value", 9)]) (N := ["box", "worlds", "turn", "houses", "trees", "star", "values", "world", "k", "value"]) (sc := defScope s__law_cell_right) (by decide +kernel)) (fun _ _ _ _ _ => (pg_name (i := 9) sc__law_cell_right.nd rfl (by first | exact Or.inl rfl | exact Or.inr rfl))) (fun _ _ _ _ _ => pts_one (pt_not (pt_val (pe_g G__law_asked_right (hr.mono (by decide)) hq rfl D__law_asked_right.m D__law_asked_right.k b__law_asked_right .nil (fun σ => passN σ) (pa_cons (pv 9) (pa_cons (pe_cmpR (opK (K := K) (r := rEqA) rfl (op_eqA hr.units)) (pe_g G__law_take (hr.mono (by decide)) hq rfl D__law_take.m D__law_take.k b__law_take .nil (fun σ => passN σ) (pa_cons (pv 0) (pa_cons pe_int pa_nil))) pe_int (nomark _)) pa_nil)))))) (fun _ _ _ _ _ => (pv 9))) (pe_lst pa_nil) (nomark _))))))))))), ?_⟩
  try simp only [cxK]
  rintro _ ms Pd Xd ⟨k, xs, rfl, hk, hb, q⟩ bl mb
  have lt := ms_lt hk
  refine ds_seq (ds_set (de_lstC (da_nil ⟨by simp, ?_⟩)))
  rw [stt_0 hk]
  refine ds_seq (ds_for (vs := List.range 20) (di_rng1 ?_))
  repeat' walk_at "d1"
  refine ⟨JWl ms k, ⟨[], xs, 0, none, none, rfl, fun p hp => (by cases hp), hb, by omega, rfl, rfl⟩, ?_, ?_⟩
  · rintro i e m hi ⟨wl, ys, c, a, b, hwl, hok, hb, hc, rfl, rfl⟩
    have hi : i < 2 := hi
    refine dg_name (by decide) ?_
    repeat' walk_at "d1"
    refine ⟨k, c, 9, ys, rfl, by decide, by decide, stt_box lt, hb, by omega, fun r1 ys1 p0 p1 hb1 => ?_⟩
    rw [stt_setk lt]
    repeat' walk_at "d1"
    refine ⟨k, c + 1, 64, ys1, rfl, by decide, by decide, stt_box lt, hb1, by omega, fun r2 ys2 q0 q1 hb2 => ?_⟩
    rw [stt_setk lt]
    repeat' walk_at "d1"
    refine ⟨k, c + 2, 6, ys2, rfl, by decide, by decide, stt_box lt, hb2, by omega, fun r3 ys3 o0 o1 hb3 => ?_⟩
    rw [stt_setk lt]
    repeat' walk_at "d1"
    obtain ⟨n, hn, hn1, hn2⟩ : ∃ n : Nat, atI [Dat.int 3, .int 2, .int 1, .int (4 + r1), .int (1 + r2), .int 64] r3 = some (.int n) ∧ 1 ≤ n ∧ n ≤ 64 := by
      have h6 : r3 = 0 ∨ r3 = 1 ∨ r3 = 2 ∨ r3 = 3 ∨ r3 = 4 ∨ r3 = 5 := by omega
      obtain ⟨r1, rfl⟩ := nat_of p0
      obtain ⟨r2, rfl⟩ := nat_of q0
      rcases h6 with h | h | h | h | h | h <;> subst h
      · exact ⟨3, rfl, by decide, by decide⟩
      · exact ⟨2, rfl, by decide, by decide⟩
      · exact ⟨1, rfl, by decide, by decide⟩
      · exact ⟨4 + r1, by show some (Dat.int (4 + (r1 : Int))) = _; rw [show ((4 + r1 : Nat) : Int) = 4 + (r1 : Int) by omega], by omega, by omega⟩
      · exact ⟨1 + r2, by show some (Dat.int (1 + (r2 : Int))) = _; rw [show ((1 + r2 : Nat) : Int) = 1 + (r2 : Int) by omega], by omega, by omega⟩
      · exact ⟨64, rfl, by decide, by decide⟩
    refine d2_ix (.inl rfl) hn ?_
    repeat' walk_at "d1"
    have w0 : ∀ ys, (Stt ms k ys [MO.lst (wl.map worldD)])[ms.length]? = some (.lst (wl.map worldD)) := fun ys => stt_at (t := 0)
    refine ⟨tyD_cell (w0 _), ?_⟩
    repeat' walk_at "d1"
    refine ⟨k, c + 3, n, ys3, rfl, stt_box lt, hb3, by omega, hn1, hn2, fun rs ys4 c4 ht hb4 hc4 => ?_⟩
    rw [stt_setk lt]
    repeat' walk_at "d1"
    refine dr_append (w0 _) (by rw [List.length_map]; omega) ?_
    have := stt_set (ms := ms) (k := k) (ys := ys4) (ext := [MO.lst (wl.map worldD)]) (t := 0) (v := .lst (wl.map worldD ++ [.lst [.int (n : Int), .lst (rs.map dpPr)]]))
    rw [show (Stt ms k ys4 [MO.lst (wl.map worldD)]).set ms.length (.lst (wl.map worldD ++ [.lst [.int (n : Int), .lst (rs.map dpPr)]])) = Stt ms k ys4 [.lst ((wl ++ [(n, rs)]).map worldD)] by rw [List.map_append]; exact this]
    refine ⟨wl ++ [(n, rs)], ys4, c4, _, _, by simp [hwl], fun p hp => ?_, hb4, by omega, rfl, rfl⟩
    rcases List.mem_append.mp hp with h | h
    · exact hok p h
    · rw [List.mem_singleton.mp h]; exact ht
  · rintro e m ⟨wl, ys, c, a, b, hwl, hok, hb, hc, rfl, rfl⟩
    have hwl : wl.length = 2 := hwl
    obtain ⟨p1, p2, rfl⟩ : ∃ p1 p2, wl = [p1, p2] := by
      match wl, hwl with
      | [p1, p2], _ => exact ⟨p1, p2, rfl⟩
    have t1 := hok p1 (by simp)
    have t2 := hok p2 (by simp)
    have hc : c ≤ 600 := by simpa using hc
    refine ds_seq (ds_set (de_lcV (de_var rfl ⟨ms.length, [worldD p1, worldD p2], rfl, by simp, JTr C ms k ys p1 p2, ⟨[], rfl, rfl, rfl, fun t T h => by simp at h⟩, ?_, ?_, ?_⟩)))
    · rintro i acc m hi ⟨ts, _, _, rfl, _⟩
      exact stt_at (t := 0)
    · rintro i acc m hi _ ⟨ts, hts, rfl, rfl, hT⟩
      have hi : i < 2 := hi
      obtain ⟨p, hp, tp, hit, _⟩ := two_of t1 t2 hi
      rw [hit]
      refine dg_name (by decide) (dt_yes ⟨fun _ => ?_, fun z => nomatch z⟩)
      refine de_make0 (dds := []) (fun _ => .nil) ?_
      repeat' walk_at "d1"
      refine d2_ix (.inl rfl) (at_nat (u := 0) rfl) ?_
      repeat' walk_at "d1"
      refine d2_ix (.inl rfl) (at_nat (u := 1) rfl) ?_
      repeat' walk_at "d1"
      refine dr_lstK (.inl rfl) ?_
      repeat' walk_at "d1"
      refine ⟨_, p.1, _, p.2, rfl, one0, .inl rfl, tp, fun near ways hn hw => ⟨rfl, ?_⟩⟩
      rw [oneS, stt_app, stt_len]
      refine ⟨ts ++ [.ins C (treeF p.1 p.2 near ways)], by simp [hts], ?_, rfl, fun t T h => ?_⟩
      · rw [List.range_succ, List.map_append, List.length_cons, hts, Nat.add_comm i 1]; rfl
      · rw [List.getElem?_append] at h
        split at h
        · exact hT t T h
        · have ht : t = i := by
            have := (List.getElem?_eq_some_iff.mp h).1
            simp at this
            omega
          subst ht
          rw [hts, Nat.sub_self] at h
          cases h
          exact ⟨p, near, ways, hp, rfl⟩
    rintro acc m _ ⟨ts, hts, rfl, rfl, hT⟩
    have hts : ts.length = 2 := hts
    obtain ⟨T1, T2, rfl⟩ : ∃ T1 T2, ts = [T1, T2] := by
      match ts, hts with
      | [T1, T2], _ => exact ⟨T1, T2, rfl⟩
    repeat' walk_at "d1"
    refine di_rng1 ?_
    repeat' walk_at "d1"
    refine ⟨by decide, JBx ms k [.lst [worldD p1, worldD p2], T1, T2] c, ⟨rfl, ys, c, hb, by omega, rfl⟩, ?_, ?_⟩
    · rintro i acc m hi _ ⟨rfl, ys, c', hb, hc', rfl⟩
      have hi : i < 2 := hi
      obtain ⟨p, hp, tp, _, hat⟩ := two_of t1 t2 hi
      refine dg_name (by decide) ?_
      repeat' walk_at "d1"
      refine d2_ix (.inr (.inr (.inr ⟨_, rfl, stt_at (t := 0)⟩))) hat ?_
      repeat' walk_at "d1"
      refine d2_ix (.inl rfl) (at_nat (u := 0) rfl) ?_
      repeat' walk_at "d1"
      refine d2_ix (.inr (.inr (.inr ⟨_, rfl, stt_at (t := 0)⟩))) hat ?_
      repeat' walk_at "d1"
      refine d2_ix (.inl rfl) (at_nat (u := 1) rfl) ?_
      repeat' walk_at "d1"
      refine ⟨k, c', p.1, ys, p.2, rfl, stt_box lt, hb, by omega, tp, fun zs c2 hb2 hc2 => ?_⟩
      rw [stt_setk lt]
      repeat' walk_at "d1"
      exact ⟨rfl, zs, c2, hb2, by omega, rfl⟩
    rintro acc m _ ⟨rfl, ys2, c2, hb2, hc2, rfl⟩
    have hc2 : c2 ≤ 1300 := by simp at hc2; omega
    repeat' walk_at "d1"
    refine d2_neNilS (cs := []) rfl (fun z hz => by cases hz) ?_
    simp only [List.isEmpty_nil, Bool.not_true]
    repeat' walk_at "d1"
    refine di_rng1 ?_
    repeat' walk_at "d1"
    refine lcw_map (by decide) (fun _ => true) (fun i => .str (if i = 0 then lineS p1.1 p1.2 else lineS p2.1 p2.2)) (fun i hi => dg_name (by decide) (dt_yes ⟨rfl, rfl, fun _ => ?_⟩)) ?_
    · have hi : i < 2 := hi
      obtain ⟨T, hTi⟩ : ∃ T, [T1, T2][i]? = some T := ⟨_, List.getElem?_eq_getElem hi⟩
      obtain ⟨p, near, ways, hp, hTe⟩ := hT i T hTi
      obtain ⟨p', hp', tp, _, _⟩ := two_of t1 t2 hi
      cases hp.symm.trans hp'
      have h1 := tp.h1
      have h2 := tp.h2
      have hlr := roads_len tp.ok
      subst hTe
      refine de_meth0 (dds := []) (fun _ => .nil) ?_
      repeat' walk_at "d1"
      have hat : atI ((List.range [worldD p1, worldD p2].length).map fun t => Dat.cell (ms.length + (1 + t))) (0 + (i : Int)) = some (.cell (ms.length + (1 + i))) := by
        rw [Int.zero_add]
        refine at_nat ?_
        rw [List.getElem?_map]
        show Option.map _ (List.range 2)[i]? = _
        rw [List.getElem?_range hi]; rfl
      have hcell : (Stt ms k ys2 [.lst [worldD p1, worldD p2], T1, T2])[ms.length + (1 + i)]? = some (.ins C (treeF p.1 p.2 near ways)) := by
        rw [stt_at, Nat.add_comm 1 i, List.getElem?_cons_succ]
        exact hTi
      refine d2_ix (.inl rfl) hat ⟨_, _, rfl, hcell, lkl, da_nil ?_⟩
      refine ⟨_, p.1, p.2, near, ways, rfl, hcell, h2, by omega, roads_in tp.ok, ?_⟩
      exact ⟨by rw [line_of hi hp], rfl⟩
    refine de_lcV (de_var rfl ⟨ms.length, [worldD p1, worldD p2], rfl, by simp, fun i acc m => acc = (List.range i).map (fun i => Dat.str (if i = 0 then lineS p1.1 p1.2 else lineS p2.1 p2.2)) ∧ m = Stt ms k ys2 [.lst [worldD p1, worldD p2], T1, T2], ⟨rfl, rfl⟩, ?_, ?_, ?_⟩)
    · rintro i acc m hi ⟨_, rfl⟩
      exact stt_at (t := 0)
    · rintro i acc m hi _ ⟨rfl, rfl⟩
      have hi : i < 2 := hi
      obtain ⟨p, hp, tp, hit, _⟩ := two_of t1 t2 hi
      have h1 := tp.h1
      have h2 := tp.h2
      have hlr := roads_len tp.ok
      rw [hit]
      refine dg_name (by decide) (dt_yes ⟨fun _ => ?_, fun z => nomatch z⟩)
      repeat' walk_at "d1"
      refine d2_ix (.inl rfl) (at_nat (u := 0) rfl) ?_
      repeat' walk_at "d1"
      refine d2_ix (.inl rfl) (at_nat (u := 1) rfl) ?_
      repeat' walk_at "d1"
      refine ⟨(p.1 : Int), p.2, rfl, by omega, by omega, by omega, in65_of (by omega) (roads_in tp.ok), fun _ => ?_⟩
      refine ⟨?_, rfl⟩
      rw [List.range_succ, List.map_append, writ_line, line_of hi hp]
      rfl
    rintro acc m _ ⟨rfl, rfl⟩
    have el : ((List.range (Int.toNat 2)).filter (fun _ => true)).map (fun i => Dat.str (if i = 0 then lineS p1.1 p1.2 else lineS p2.1 p2.2)) = [.str (lineS p1.1 p1.2), .str (lineS p2.1 p2.2)] := rfl
    have er : (List.range [worldD p1, worldD p2].length).map (fun i => Dat.str (if i = 0 then lineS p1.1 p1.2 else lineS p2.1 p2.2)) = [.str (lineS p1.1 p1.2), .str (lineS p2.1 p2.2)] := rfl
    rw [el, er]
    have s1 := line_sm t1
    have s2 := line_sm t2
    have lo2 : ∀ z ∈ [lineS p1.1 p1.2, lineS p2.1 p2.2], ∀ c ∈ z.cps.toList, c < 128 := fun z hz => by
      simp only [List.mem_cons, List.not_mem_nil, or_false] at hz
      rcases hz with h | h
      · rw [h]; exact s1.sig
      · rw [h]; exact s2.sig
    refine d2_neD (.lst (pydl_str [lineS p1.1 p1.2, lineS p2.1 p2.2])) (.lst (pydl_str [lineS p1.1 p1.2, lineS p2.1 p2.2])) (shaped_strs lo2) (shaped_strs lo2) ?_
    rw [show (List.map PyData.str [lineS p1.1 p1.2, lineS p2.1 p2.2]) = [PyData.str (lineS p1.1 p1.2), .str (lineS p2.1 p2.2)] from rfl, eqv_strs]
    simp only [Bool.not_true]
    repeat' walk_at "d1"
    refine di_rng2 ?_
    repeat' walk_at "d1"
    refine lcw_map (by decide) (fun _ => true) (fun i => .str (Str.ofString " 0-" ++ nS (1 + (i : Int)))) (fun i hi => dg_name (by decide) (dt_yes ⟨rfl, rfl, fun _ => ?_⟩)) ?_
    · have hi : i < 64 := hi
      have l0 : (Str.ofString " 0-").length = 3 := by decide +kernel
      have l1 := (sm_nS (i := 1 + (i : Int)) (by omega) (by omega)).len
      repeat' walk_at "d1"
      refine dr_strI (log_small (by omega) (by omega)) ?_
      refine d2_addS (by show _ + (nS (1 + (i : Int))).length ≤ _; rw [l0]; omega) ⟨rfl, rfl⟩
    have es : ((List.range (Int.toNat (65 - 1))).filter (fun _ => true)).map (fun (i : Nat) => Dat.str (Str.ofString " 0-" ++ nS (1 + (i : Int)))) = starL.map Dat.str := by
      rw [List.filter_eq_self.mpr (fun _ _ => rfl)]
      unfold starL
      rw [List.map_map]
      rfl
    rw [es]
    have ssm : Sm 400 (Str.ofString "65:" ++ Txt.join (Str.ofString "") starL) := ((Sm.lit (n := 3) (by decide +kernel)).app (sm_join starL_sm)).mono (by unfold starL; rw [List.length_map, List.length_range]; decide)
    have ssum := sum_le fun z hz => (starL_sm z hz).len
    have sl : starL.length = 64 := by unfold starL; rw [List.length_map, List.length_range]
    have z0 : (Str.ofString "").length = 0 := by decide +kernel
    have jl := (sm_join starL_sm).len
    refine da_nil (dr_join (a := Str.ofString "") (ys := starL) (by rw [z0, sl]; omega) ?_)
    refine d2_addS (by have : (Str.ofString "65:").length = 3 := by decide +kernel
                       rw [this]; rw [sl] at jl; exact Nat.le_trans (Nat.add_le_add_left jl 3) (by decide)) ?_
    generalize Str.ofString "65:" ++ Txt.join (Str.ofString "") starL = star at ssm
    refine ds_seq (ds_set (de_lst (da_cons (de_non (da_cons (de_bl (da_cons (de_int (da_cons (de_lstC (da_cons (de_str (da_nil ⟨by simp, ?_⟩)))))))))))))
    rw [stt_app, stt_len]
    repeat' walk_at "d1"
    refine di_lst (de_var rfl (as_lst ?_))
    refine ⟨by simp, JV ms k [.lst [worldD p1, worldD p2], T1, T2, .lst theOne] [.lst [worldD p1, worldD p2], T1, T2, .lst theTwo], ⟨rfl, ys2, c2, hb2, by omega, rfl⟩, ?_, ?_⟩
    · rintro i acc m hi _ ⟨rfl, ys3, c3, hb3, hc3, rfl⟩
      have hi : i < 12 := hi
      show DG K (gName 9) (itL (valsD (ms.length + 3) star) i) _ _ _ _
      refine dg_name (by decide) ?_
      repeat' walk_at "d1"
      refine ⟨k, c3, 2, ys3, rfl, by decide, by decide, stt_box lt, hb3, by omega, fun r ys4 hr0 hr1 hb4 => ?_⟩
      rw [stt_setk lt]
      repeat' walk_at "d1"
      by_cases h3 : i = 3
      · subst h3
        refine ⟨_, _, rfl, .inr ⟨ms.length + 3, rfl, by rw [stt_at]; rfl, ?_⟩⟩
        rw [stt_set]
        repeat' walk_at "d1"
        exact ⟨rfl, ys4, c3 + 1, hb4, by omega, rfl⟩
      · have e : (if i ≤ 3 then [MO.lst [worldD p1, worldD p2], T1, T2, .lst theOne] else [.lst [worldD p1, worldD p2], T1, T2, .lst theTwo]) = (if i + 1 ≤ 3 then [MO.lst [worldD p1, worldD p2], T1, T2, .lst theOne] else [.lst [worldD p1, worldD p2], T1, T2, .lst theTwo]) := by
          by_cases h : i ≤ 3
          · rw [if_pos h, if_pos (by omega)]
          · rw [if_neg h, if_neg (by omega)]
        refine ⟨_, _, rfl, .inl ⟨kinds star (ssm.mono (by decide)) _ _ i hi h3, ?_⟩⟩
        repeat' walk_at "d1"
        exact ⟨rfl, ys4, c3 + 1, hb4, by omega, by rw [e]⟩
    rintro acc m _ ⟨rfl, ys3, c3, hb3, hc3, rfl⟩
    repeat' walk_at "d1"
    refine d2_eqNilS (cs := []) rfl (fun z hz => by cases hz) ?_
    unfold Stt
    exact ret_bel (by rw [List.length_set]) (msbel_set mb (.lst (box_bel hb3))) (.bl true) (q ys3)
def JLw (zs : List Int) (i : Nat) (e : Ev) (m : Ms) : Prop := ∃ x : Option Dat, e = [some (.rol (zs.map Dat.int)), x]
def pm_law (K : PySem.W.Frag) : Pm := fun ds ms P X => ∃ (zs : List Int), ds = [.rol (zs.map Dat.int)] ∧ zs.length ≤ 63 ∧ ∀ ms', P (.bl true) ms'
theorem ok_law {f : Addr} {fd : FuncData}  {g0 : Addr} {fd0 : FuncData} (D__law_box : Df K mg "_law_box" g0) (G__law_box : FnG P w K mg base (L2N.CX P w) 1 g0 fd0 ["great"] (spD K (pm_box K))) (b__law_box : Binds K fd0 ["great"] []) {g1 : Addr} {fd1 : FuncData} (D__law_cell : Df K mg "_law_cell" g1) (G__law_cell : FnG P w K mg base (L2N.CX P w) 1 g1 fd1 ["script", "k"] (spD K (pm_cell K))) (b__law_cell : Binds K fd1 ["script", "k"] []) {g2 : Addr} {fd2 : FuncData} (D__law_cell_right : Df K mg "_law_cell_right" g2) (G__law_cell_right : FnG P w K mg base (L2N.CX P w) 10 g2 fd2 ["box"] (spD K (pm_cellr K))) (b__law_cell_right : Binds K fd2 ["box"] []) (F : Fun K "law" "law" s_law f fd) (T : Txt K mg) :
    FnG P w K mg base (L2N.CX P w) 11 f fd ["script"] (spD K (pm_law K)) := by
  refine fn_dl F sc_law (fun ds ms Pd X h => by obtain ⟨_, rfl, _⟩ := h; rfl) (fun cdv Ar outer s H E hr hq => ?_)
  have tk := (L2N.takes_of (X := cxOf (L2N.CX P w) P w K mg base ["script", "k"] "law" (defScope s_law) f cdv Ar outer s H E) (E := E) rfl rfl rfl rfl)
  refine ⟨_, (pss_cons (ps_for (by first | exact PassesOwn.never | assumption | exact passes_of rfl) rfl (pi_range1 rfl T.b_range (pa_cons (pe_callB (call_max2 rfl) (by rfl) T.b_max bt_max (pa_cons pe_int (pa_cons (pe_callB (call_min2 rfl) (by rfl) T.b_min bt_min (pa_cons pe_int (pa_cons (pe_callB (crK (K := K) (r := rLenK) rfl call_len) (by rfl) T.b_len bt_len (pa_cons (pv 0) pa_nil)) pa_nil))) pa_nil))) pa_nil)) (pg_name (i := 1) sc_law.nd rfl (by first | exact Or.inl rfl | exact Or.inr rfl)) (pss_one (ps_if (pt_not (pt_val (pe_g G__law_cell_right (hr.mono (by decide)) hq rfl D__law_cell_right.m D__law_cell_right.k b__law_cell_right .nil (fun σ => L2N.passAt tk σ) (pa_cons (pe_g G__law_box (hr.mono (by decide)) hq rfl D__law_box.m D__law_box.k b__law_box .nil (fun σ => L2N.passAt tk σ) (pa_cons (pe_g G__law_cell (hr.mono (by decide)) hq rfl D__law_cell.m D__law_cell.k b__law_cell .nil (fun σ => L2N.passAt tk σ) (pa_cons (pv 0) (pa_cons (pv 1) pa_nil))) pa_nil)) pa_nil)))) (pss_one (ps_ret pe_bl)) pss_nil))) (pss_one (ps_ret pe_bl))), ?_⟩
  try simp only [cxK]
  rintro _ ms Pd Xd ⟨zs, rfl, hz, q⟩ bl mb
  refine ds_seq (ds_for (vs := List.range 10) (di_rng1 ?_))
  repeat' walk_at "d1"
  refine dr_min ?_
  repeat' walk_at "d1"
  refine dr_max ?_
  rw [List.length_map, ifmin, ifmax]
  refine da_nil ⟨_, rfl, by omega, by omega, JLw zs, ⟨none, rfl⟩, ?_, ?_⟩
  · rintro i e m hi ⟨x, rfl⟩
    have hi : i < (max (2 : Int) (min 3 (zs.length : Int))).toNat := hi
    refine dg_name (by decide) ?_
    repeat' walk_at "d1"
    refine ⟨zs, _, rfl, by omega, by omega, by omega, fun z => ?_⟩
    repeat' walk_at "d1"
    refine ⟨_, rfl, fun xs hx => ?_⟩
    repeat' walk_at "d1"
    refine ⟨m.length, xs, rfl, one0, hx, fun ys => ?_⟩
    repeat' walk_at "d1"
    exact ⟨_, rfl⟩
  · rintro e m ⟨x, rfl⟩
    refine ds_ret (de_bl ?_)
    exact .inl (q m)
end
end K03
namespace K03
open PySem PySem.Spec PyProof.Rows L2 DL
abbrev s_InvalidText___init__ : Stmt := (inClass (topS 2) 0)
theorem sc_InvalidText___init__ : FnScope ["self", "given"] ["self", "given"] (defScope s_InvalidText___init__) := ⟨rfl, rfl, rfl, by decide +kernel, rfl, by decide +kernel, by decide +kernel⟩
abbrev s_InvalidHouses___init__ : Stmt := (inClass (topS 3) 0)
theorem sc_InvalidHouses___init__ : FnScope ["self", "given"] ["self", "given"] (defScope s_InvalidHouses___init__) := ⟨rfl, rfl, rfl, by decide +kernel, rfl, by decide +kernel, by decide +kernel⟩
abbrev s_InvalidRoads___init__ : Stmt := (inClass (topS 4) 0)
theorem sc_InvalidRoads___init__ : FnScope ["self", "given"] ["self", "given"] (defScope s_InvalidRoads___init__) := ⟨rfl, rfl, rfl, by decide +kernel, rfl, by decide +kernel, by decide +kernel⟩
abbrev s_NotJoined___init__ : Stmt := (inClass (topS 5) 0)
theorem sc_NotJoined___init__ : FnScope ["self", "house"] ["self", "house"] (defScope s_NotJoined___init__) := ⟨rfl, rfl, rfl, by decide +kernel, rfl, by decide +kernel, by decide +kernel⟩
section
variable {P : Program} {w : World} {K : PySem.W.Frag} {mg : Str → Option Value} {base : Heap}
/-- what all classes share -/
structure Sh (K : PySem.W.Frag) (mg : Str → Option Value) (L : Addr) : Prop where
  l : LoT K mg "LostError" L
  sp : PySem.W.specialIn K (.builtin "object.__class__") "__get__" = some (some (.builtin "getset_descriptor.__get__"))
  tk : PySem.W.takesIn K (.builtin "object.__class__") = some true
theorem kwb {x qual : Str} {st : Stmt} {f : Addr} {fd : FuncData} {ps : List Str} (F : Fun K x qual st f fd)
    (h : ∀ (kV doc pm : Value) (an : Option Addr) (cdv ct : Value) (ws : List Value), ws.length = ps.length → bindArgs (PySem.W.fnOf x qual (defArgs st) (defBody st) (defScope st) .none kV doc pm an cdv ct) ⟨[], ps.zip ws⟩ = pure (ps.zip ws)) : KwB K fd ps := by
  obtain ⟨a, b, kV, c, pm, an, cdv, ct, sl, e, lk, cd⟩ := F.ex
  subst e
  exact ⟨fun s ws _ hl => .of_eq (h kV c pm an cdv ct ws hl)⟩
theorem eb_self {L D : Addr} (h : EB K L D) : PySem.W.exmOne K (.ref D) (.ref D) = some true := by
  have hb : PySem.W.subIn K (.ref D) (.type "BaseException") = some true := by
    show PySem.W.mroIn K D (.type "BaseException") = _
    rw [h.mro]
    refine congrArg some ?_
    simp [bmL]
  unfold PySem.W.exmOne
  rw [if_pos (by rw [hb]; rfl)]
  refine cls_rule h.cs h.ty ?_
  show PySem.W.mroIn K D (.ref D) = _
  rw [h.mro]
  refine congrArg some ?_
  simp
theorem ini_InvalidText {f L : Addr} {fd : FuncData} (F : Fun K "__init__" "InvalidText.__init__" s_InvalidText___init__ f fd) (TL : LoT K mg "LostError" L) : FnOk P w K mg base (L2N.CX P w) 1 f fd ["self", "given"] (spIni1 K "given") := by
  refine okN F sc_InvalidText___init__ (fun vs H Q E h => by obtain ⟨a, C, v, rfl, _⟩ := h; rfl) (fun cdv Ar outer s H vs Q E hr h => ?_)
  exact ⟨_, pss_cons (ps_expr (pe_linit TL rfl (pa_cons (pv 0) (pa_cons pe_str pa_nil)))) (pss_one (ps_ost (pv 0) (pv 1))), ini1_run h⟩
theorem mk_InvalidText {h : Heap} {C I N L : Addr} {nm q : Str} {bs : List Value} {sn : List Str} {sub : List Value} {ab : Bool} {col : Option Bool} {dd : Option Addr} {x0 x1 x2 x3 x5 : Option Value} {iod ian : Option Addr} {isl : Array (Option Value)} {ioc ikV idc ipm icd ict : Value}
    (X : K.In h) (G : h.Ns mainGlobals mg) (eA : PySem.W.nsIn K mainGlobals "InvalidText" = some (some (.ref C))) (eX : K.lookup C = some (excClassObj nm q C N bs (bmL L) true sn sub ab col dd x0 x1 x2 x3 x5 "ValueError.__new__"))
    (eS : PySem.W.findIn K (.ref C) "__setattr__" = some (some (.builtin "object.__setattr__"))) (eK : PySem.W.keepIn K (.ref C) = true) (ega : PySem.W.findIn K (.ref C) "__getattribute__" = some (some (.builtin "BaseException.__getattribute__")))
    (egg : PySem.W.findIn K (.ref C) "__getattr__" = some none) (ecl : PySem.W.findIn K (.ref C) "__class__" = some (some (.builtin "object.__class__"))) (eno : PySem.W.findIn K (.ref C) "given" = some none)
    (ei : PySem.W.findIn K (.ref C) "__init__" = some (some (.ref I))) (eti : PySem.W.typeIn K (.ref I) = some (.type "function"))
    (eli : K.lookup I = some ⟨ioc, iod, .func (PySem.W.fnOf "__init__" "InvalidText.__init__" (defArgs s_InvalidText___init__) (defBody s_InvalidText___init__) (defScope s_InvalidText___init__) .none ikV idc ipm ian icd ict), isl⟩) (eci : PySem.W.codeIn K icd "InvalidText.__init__" = true) (eki : PySem.W.keepIn K (.ref I) = true)
    (S : Sh K mg L) : E1 P w K mg L "InvalidText" "given" C := by
  have F := fun_mk (st := s_InvalidText___init__) eli eci eki
  have B := eb_mk eX eS eK ega egg ecl S.sp S.tk
  exact ⟨B, I, _, ⟨B.t, PySem.W.mg_of X G eA, eno, ei, eti, F.binds (ps := ["self", "given"]) fun _ _ _ _ _ _ us hl => match us, hl with | [_, _], _ => rfl, kwi1 F fun _ _ _ _ _ _ _ _ => rfl⟩, fun base => ini_InvalidText F S.l⟩
theorem ini_InvalidHouses {f L : Addr} {fd : FuncData} (F : Fun K "__init__" "InvalidHouses.__init__" s_InvalidHouses___init__ f fd) (TL : LoT K mg "LostError" L) : FnOk P w K mg base (L2N.CX P w) 1 f fd ["self", "given"] (spIni1 K "given") := by
  refine okN F sc_InvalidHouses___init__ (fun vs H Q E h => by obtain ⟨a, C, v, rfl, _⟩ := h; rfl) (fun cdv Ar outer s H vs Q E hr h => ?_)
  exact ⟨_, pss_cons (ps_expr (pe_linit TL rfl (pa_cons (pv 0) (pa_cons pe_str pa_nil)))) (pss_one (ps_ost (pv 0) (pv 1))), ini1_run h⟩
theorem mk_InvalidHouses {h : Heap} {C I N L : Addr} {nm q : Str} {bs : List Value} {sn : List Str} {sub : List Value} {ab : Bool} {col : Option Bool} {dd : Option Addr} {x0 x1 x2 x3 x5 : Option Value} {iod ian : Option Addr} {isl : Array (Option Value)} {ioc ikV idc ipm icd ict : Value}
    (X : K.In h) (G : h.Ns mainGlobals mg) (eA : PySem.W.nsIn K mainGlobals "InvalidHouses" = some (some (.ref C))) (eX : K.lookup C = some (excClassObj nm q C N bs (bmL L) true sn sub ab col dd x0 x1 x2 x3 x5 "ValueError.__new__"))
    (eS : PySem.W.findIn K (.ref C) "__setattr__" = some (some (.builtin "object.__setattr__"))) (eK : PySem.W.keepIn K (.ref C) = true) (ega : PySem.W.findIn K (.ref C) "__getattribute__" = some (some (.builtin "BaseException.__getattribute__")))
    (egg : PySem.W.findIn K (.ref C) "__getattr__" = some none) (ecl : PySem.W.findIn K (.ref C) "__class__" = some (some (.builtin "object.__class__"))) (eno : PySem.W.findIn K (.ref C) "given" = some none)
    (ei : PySem.W.findIn K (.ref C) "__init__" = some (some (.ref I))) (eti : PySem.W.typeIn K (.ref I) = some (.type "function"))
    (eli : K.lookup I = some ⟨ioc, iod, .func (PySem.W.fnOf "__init__" "InvalidHouses.__init__" (defArgs s_InvalidHouses___init__) (defBody s_InvalidHouses___init__) (defScope s_InvalidHouses___init__) .none ikV idc ipm ian icd ict), isl⟩) (eci : PySem.W.codeIn K icd "InvalidHouses.__init__" = true) (eki : PySem.W.keepIn K (.ref I) = true)
    (S : Sh K mg L) : E1 P w K mg L "InvalidHouses" "given" C := by
  have F := fun_mk (st := s_InvalidHouses___init__) eli eci eki
  have B := eb_mk eX eS eK ega egg ecl S.sp S.tk
  exact ⟨B, I, _, ⟨B.t, PySem.W.mg_of X G eA, eno, ei, eti, F.binds (ps := ["self", "given"]) fun _ _ _ _ _ _ us hl => match us, hl with | [_, _], _ => rfl, kwi1 F fun _ _ _ _ _ _ _ _ => rfl⟩, fun base => ini_InvalidHouses F S.l⟩
theorem ini_InvalidRoads {f L : Addr} {fd : FuncData} (F : Fun K "__init__" "InvalidRoads.__init__" s_InvalidRoads___init__ f fd) (TL : LoT K mg "LostError" L) : FnOk P w K mg base (L2N.CX P w) 1 f fd ["self", "given"] (spIni1 K "given") := by
  refine okN F sc_InvalidRoads___init__ (fun vs H Q E h => by obtain ⟨a, C, v, rfl, _⟩ := h; rfl) (fun cdv Ar outer s H vs Q E hr h => ?_)
  exact ⟨_, pss_cons (ps_expr (pe_linit TL rfl (pa_cons (pv 0) (pa_cons pe_str pa_nil)))) (pss_one (ps_ost (pv 0) (pv 1))), ini1_run h⟩
theorem mk_InvalidRoads {h : Heap} {C I N L : Addr} {nm q : Str} {bs : List Value} {sn : List Str} {sub : List Value} {ab : Bool} {col : Option Bool} {dd : Option Addr} {x0 x1 x2 x3 x5 : Option Value} {iod ian : Option Addr} {isl : Array (Option Value)} {ioc ikV idc ipm icd ict : Value}
    (X : K.In h) (G : h.Ns mainGlobals mg) (eA : PySem.W.nsIn K mainGlobals "InvalidRoads" = some (some (.ref C))) (eX : K.lookup C = some (excClassObj nm q C N bs (bmL L) true sn sub ab col dd x0 x1 x2 x3 x5 "ValueError.__new__"))
    (eS : PySem.W.findIn K (.ref C) "__setattr__" = some (some (.builtin "object.__setattr__"))) (eK : PySem.W.keepIn K (.ref C) = true) (ega : PySem.W.findIn K (.ref C) "__getattribute__" = some (some (.builtin "BaseException.__getattribute__")))
    (egg : PySem.W.findIn K (.ref C) "__getattr__" = some none) (ecl : PySem.W.findIn K (.ref C) "__class__" = some (some (.builtin "object.__class__"))) (eno : PySem.W.findIn K (.ref C) "given" = some none)
    (ei : PySem.W.findIn K (.ref C) "__init__" = some (some (.ref I))) (eti : PySem.W.typeIn K (.ref I) = some (.type "function"))
    (eli : K.lookup I = some ⟨ioc, iod, .func (PySem.W.fnOf "__init__" "InvalidRoads.__init__" (defArgs s_InvalidRoads___init__) (defBody s_InvalidRoads___init__) (defScope s_InvalidRoads___init__) .none ikV idc ipm ian icd ict), isl⟩) (eci : PySem.W.codeIn K icd "InvalidRoads.__init__" = true) (eki : PySem.W.keepIn K (.ref I) = true)
    (S : Sh K mg L) : E1 P w K mg L "InvalidRoads" "given" C := by
  have F := fun_mk (st := s_InvalidRoads___init__) eli eci eki
  have B := eb_mk eX eS eK ega egg ecl S.sp S.tk
  exact ⟨B, I, _, ⟨B.t, PySem.W.mg_of X G eA, eno, ei, eti, F.binds (ps := ["self", "given"]) fun _ _ _ _ _ _ us hl => match us, hl with | [_, _], _ => rfl, kwi1 F fun _ _ _ _ _ _ _ _ => rfl⟩, fun base => ini_InvalidRoads F S.l⟩
theorem ini_NotJoined {f L : Addr} {fd : FuncData} (F : Fun K "__init__" "NotJoined.__init__" s_NotJoined___init__ f fd) (TL : LoT K mg "LostError" L) : FnOk P w K mg base (L2N.CX P w) 1 f fd ["self", "house"] (spIni1 K "house") := by
  refine okN F sc_NotJoined___init__ (fun vs H Q E h => by obtain ⟨a, C, v, rfl, _⟩ := h; rfl) (fun cdv Ar outer s H vs Q E hr h => ?_)
  exact ⟨_, pss_cons (ps_expr (pe_linit TL rfl (pa_cons (pv 0) (pa_cons pe_str pa_nil)))) (pss_one (ps_ost (pv 0) (pv 1))), ini1_run h⟩
theorem mk_NotJoined {h : Heap} {C I N L : Addr} {nm q : Str} {bs : List Value} {sn : List Str} {sub : List Value} {ab : Bool} {col : Option Bool} {dd : Option Addr} {x0 x1 x2 x3 x5 : Option Value} {iod ian : Option Addr} {isl : Array (Option Value)} {ioc ikV idc ipm icd ict : Value}
    (X : K.In h) (G : h.Ns mainGlobals mg) (eA : PySem.W.nsIn K mainGlobals "NotJoined" = some (some (.ref C))) (eX : K.lookup C = some (excClassObj nm q C N bs (bmL L) true sn sub ab col dd x0 x1 x2 x3 x5 "ValueError.__new__"))
    (eS : PySem.W.findIn K (.ref C) "__setattr__" = some (some (.builtin "object.__setattr__"))) (eK : PySem.W.keepIn K (.ref C) = true) (ega : PySem.W.findIn K (.ref C) "__getattribute__" = some (some (.builtin "BaseException.__getattribute__")))
    (egg : PySem.W.findIn K (.ref C) "__getattr__" = some none) (ecl : PySem.W.findIn K (.ref C) "__class__" = some (some (.builtin "object.__class__"))) (eno : PySem.W.findIn K (.ref C) "house" = some none)
    (ei : PySem.W.findIn K (.ref C) "__init__" = some (some (.ref I))) (eti : PySem.W.typeIn K (.ref I) = some (.type "function"))
    (eli : K.lookup I = some ⟨ioc, iod, .func (PySem.W.fnOf "__init__" "NotJoined.__init__" (defArgs s_NotJoined___init__) (defBody s_NotJoined___init__) (defScope s_NotJoined___init__) .none ikV idc ipm ian icd ict), isl⟩) (eci : PySem.W.codeIn K icd "NotJoined.__init__" = true) (eki : PySem.W.keepIn K (.ref I) = true)
    (S : Sh K mg L) : E1 P w K mg L "NotJoined" "house" C := by
  have F := fun_mk (st := s_NotJoined___init__) eli eci eki
  have B := eb_mk eX eS eK ega egg ecl S.sp S.tk
  exact ⟨B, I, _, ⟨B.t, PySem.W.mg_of X G eA, eno, ei, eti, F.binds (ps := ["self", "house"]) fun _ _ _ _ _ _ us hl => match us, hl with | [_, _], _ => rfl, kwi1 F fun _ _ _ _ _ _ _ _ => rfl⟩, fun base => ini_NotJoined F S.l⟩
theorem all_mk {mg : Str → Option Value} {h : Heap} {fa : Addr} (X : K.In h) (G : h.Ns mainGlobals mg) (hfa : mg "law" = some (.ref fa))
    {L CT : Addr}
    {C0 C1 C2 C3 : Addr}
    {tk0 tk1 tk2 : Tok}
    {A0 : Addr} {od0 an0 : Option Addr} {sl0 : Array (Option Value)} {oc0 kV0 dc0 pm0 cd0 ct0 : Value}
    {A1 : Addr} {od1 an1 : Option Addr} {sl1 : Array (Option Value)} {oc1 kV1 dc1 pm1 cd1 ct1 : Value}
    {A2 : Addr} {od2 an2 : Option Addr} {sl2 : Array (Option Value)} {oc2 kV2 dc2 pm2 cd2 ct2 : Value}
    {A3 : Addr} {od3 an3 : Option Addr} {sl3 : Array (Option Value)} {oc3 kV3 dc3 pm3 cd3 ct3 : Value}
    {A4 : Addr} {od4 an4 : Option Addr} {sl4 : Array (Option Value)} {oc4 kV4 dc4 pm4 cd4 ct4 : Value}
    {A5 : Addr} {od5 an5 : Option Addr} {sl5 : Array (Option Value)} {oc5 kV5 dc5 pm5 cd5 ct5 : Value}
    {A6 : Addr} {od6 an6 : Option Addr} {sl6 : Array (Option Value)} {oc6 kV6 dc6 pm6 cd6 ct6 : Value}
    {A7 : Addr} {od7 an7 : Option Addr} {sl7 : Array (Option Value)} {oc7 kV7 dc7 pm7 cd7 ct7 : Value}
    {A8 : Addr} {od8 an8 : Option Addr} {sl8 : Array (Option Value)} {oc8 kV8 dc8 pm8 cd8 ct8 : Value}
    {A9 : Addr} {od9 an9 : Option Addr} {sl9 : Array (Option Value)} {oc9 kV9 dc9 pm9 cd9 ct9 : Value}
    {A10 : Addr} {od10 an10 : Option Addr} {sl10 : Array (Option Value)} {oc10 kV10 dc10 pm10 cd10 ct10 : Value}
    {A11 : Addr} {od11 an11 : Option Addr} {sl11 : Array (Option Value)} {oc11 kV11 dc11 pm11 cd11 ct11 : Value}
    {A12 : Addr} {od12 an12 : Option Addr} {sl12 : Array (Option Value)} {oc12 kV12 dc12 pm12 cd12 ct12 : Value}
    {A13 : Addr} {od13 an13 : Option Addr} {sl13 : Array (Option Value)} {oc13 kV13 dc13 pm13 cd13 ct13 : Value}
    {A14 : Addr} {od14 an14 : Option Addr} {sl14 : Array (Option Value)} {oc14 kV14 dc14 pm14 cd14 ct14 : Value}
    {A15 : Addr} {od15 an15 : Option Addr} {sl15 : Array (Option Value)} {oc15 kV15 dc15 pm15 cd15 ct15 : Value}
    {A16 : Addr} {od16 an16 : Option Addr} {sl16 : Array (Option Value)} {oc16 kV16 dc16 pm16 cd16 ct16 : Value}
    {A17 : Addr} {od17 an17 : Option Addr} {sl17 : Array (Option Value)} {oc17 kV17 dc17 pm17 cd17 ct17 : Value}
    {A18 : Addr} {od18 an18 : Option Addr} {sl18 : Array (Option Value)} {oc18 kV18 dc18 pm18 cd18 ct18 : Value}
    {A19 : Addr} {od19 an19 : Option Addr} {sl19 : Array (Option Value)} {oc19 kV19 dc19 pm19 cd19 ct19 : Value}
    {A20 : Addr} {od20 an20 : Option Addr} {sl20 : Array (Option Value)} {oc20 kV20 dc20 pm20 cd20 ct20 : Value}
    {A21 : Addr} {od21 an21 : Option Addr} {sl21 : Array (Option Value)} {oc21 kV21 dc21 pm21 cd21 ct21 : Value}
    {A22 : Addr} {od22 an22 : Option Addr} {sl22 : Array (Option Value)} {oc22 kV22 dc22 pm22 cd22 ct22 : Value}
    {A23 : Addr} {od23 an23 : Option Addr} {sl23 : Array (Option Value)} {oc23 kV23 dc23 pm23 cd23 ct23 : Value}
    {A24 : Addr} {od24 an24 : Option Addr} {sl24 : Array (Option Value)} {oc24 kV24 dc24 pm24 cd24 ct24 : Value}
    {A25 : Addr} {od25 an25 : Option Addr} {sl25 : Array (Option Value)} {oc25 kV25 dc25 pm25 cd25 ct25 : Value}
    {MA0 : Addr} {mod0 man0 : Option Addr} {msl0 : Array (Option Value)} {moc0 mkV0 mdc0 mpm0 mcd0 mct0 : Value}
    {MA1 : Addr} {mod1 man1 : Option Addr} {msl1 : Array (Option Value)} {moc1 mkV1 mdc1 mpm1 mcd1 mct1 : Value}
    {MA2 : Addr} {mod2 man2 : Option Addr} {msl2 : Array (Option Value)} {moc2 mkV2 mdc2 mpm2 mcd2 mct2 : Value}
    (eL : PySem.W.nsIn K mainGlobals "LostError" = some (some (.ref L)))
    (lcs : PySem.W.isClsIn K L = true)
    (lsg : PySem.W.specialIn K (.ref L) "__getattribute__" = some (some (.builtin "type.__getattribute__")))
    (ltp : PySem.W.typeIn K (.ref L) = some (.type "type"))
    (lrd : PySem.W.readsIn K L (.type "type") = true)
    (lfc : PySem.W.findCls K (.ref L) (.type "type") "__init__" = some (.val (.builtin "ValueError.__init__")))
    (csp : PySem.W.specialIn K (.builtin "object.__class__") "__get__" = some (some (.builtin "getset_descriptor.__get__")))
    (ctk : PySem.W.takesIn K (.builtin "object.__class__") = some true)
    (a0 : PySem.W.nsIn K mainGlobals "is_integer" = some (some (.ref A0)))
    (l0 : K.lookup A0 = some ⟨oc0, od0, .func (PySem.W.fnOf "is_integer" "is_integer" (defArgs s_is_integer) (defBody s_is_integer) (defScope s_is_integer) .none kV0 dc0 pm0 an0 cd0 ct0), sl0⟩)
    (c0 : PySem.W.codeIn K cd0 "is_integer" = true)
    (k0 : PySem.W.keepIn K (.ref A0) = true)
    (a1 : PySem.W.nsIn K mainGlobals "is_index" = some (some (.ref A1)))
    (l1 : K.lookup A1 = some ⟨oc1, od1, .func (PySem.W.fnOf "is_index" "is_index" (defArgs s_is_index) (defBody s_is_index) (defScope s_is_index) .none kV1 dc1 pm1 an1 cd1 ct1), sl1⟩)
    (c1 : PySem.W.codeIn K cd1 "is_index" = true)
    (k1 : PySem.W.keepIn K (.ref A1) = true)
    (a2 : PySem.W.nsIn K mainGlobals "is_list" = some (some (.ref A2)))
    (l2 : K.lookup A2 = some ⟨oc2, od2, .func (PySem.W.fnOf "is_list" "is_list" (defArgs s_is_list) (defBody s_is_list) (defScope s_is_list) .none kV2 dc2 pm2 an2 cd2 ct2), sl2⟩)
    (c2 : PySem.W.codeIn K cd2 "is_list" = true)
    (k2 : PySem.W.keepIn K (.ref A2) = true)
    (a3 : PySem.W.nsIn K mainGlobals "ascends" = some (some (.ref A3)))
    (l3 : K.lookup A3 = some ⟨oc3, od3, .func (PySem.W.fnOf "ascends" "ascends" (defArgs s_ascends) (defBody s_ascends) (defScope s_ascends) .none kV3 dc3 pm3 an3 cd3 ct3), sl3⟩)
    (c3 : PySem.W.codeIn K cd3 "ascends" = true)
    (k3 : PySem.W.keepIn K (.ref A3) = true)
    (a4 : PySem.W.nsIn K mainGlobals "count_in" = some (some (.ref A4)))
    (l4 : K.lookup A4 = some ⟨oc4, od4, .func (PySem.W.fnOf "count_in" "count_in" (defArgs s_count_in) (defBody s_count_in) (defScope s_count_in) .none kV4 dc4 pm4 an4 cd4 ct4), sl4⟩)
    (c4 : PySem.W.codeIn K cd4 "count_in" = true)
    (k4 : PySem.W.keepIn K (.ref A4) = true)
    (a5 : PySem.W.nsIn K mainGlobals "is_road" = some (some (.ref A5)))
    (l5 : K.lookup A5 = some ⟨oc5, od5, .func (PySem.W.fnOf "is_road" "is_road" (defArgs s_is_road) (defBody s_is_road) (defScope s_is_road) .none kV5 dc5 pm5 an5 cd5 ct5), sl5⟩)
    (c5 : PySem.W.codeIn K cd5 "is_road" = true)
    (k5 : PySem.W.keepIn K (.ref A5) = true)
    (a6 : PySem.W.nsIn K mainGlobals "are_roads" = some (some (.ref A6)))
    (l6 : K.lookup A6 = some ⟨oc6, od6, .func (PySem.W.fnOf "are_roads" "are_roads" (defArgs s_are_roads) (defBody s_are_roads) (defScope s_are_roads) .none kV6 dc6 pm6 an6 cd6 ct6), sl6⟩)
    (c6 : PySem.W.codeIn K cd6 "are_roads" = true)
    (k6 : PySem.W.keepIn K (.ref A6) = true)
    (a7 : PySem.W.nsIn K mainGlobals "joined_by" = some (some (.ref A7)))
    (l7 : K.lookup A7 = some ⟨oc7, od7, .func (PySem.W.fnOf "joined_by" "joined_by" (defArgs s_joined_by) (defBody s_joined_by) (defScope s_joined_by) .none kV7 dc7 pm7 an7 cd7 ct7), sl7⟩)
    (c7 : PySem.W.codeIn K cd7 "joined_by" = true)
    (k7 : PySem.W.keepIn K (.ref A7) = true)
    (a8 : PySem.W.nsIn K mainGlobals "ways_from" = some (some (.ref A8)))
    (l8 : K.lookup A8 = some ⟨oc8, od8, .func (PySem.W.fnOf "ways_from" "ways_from" (defArgs s_ways_from) (defBody s_ways_from) (defScope s_ways_from) .none kV8 dc8 pm8 an8 cd8 ct8), sl8⟩)
    (c8 : PySem.W.codeIn K cd8 "ways_from" = true)
    (k8 : PySem.W.keepIn K (.ref A8) = true)
    (a9 : PySem.W.nsIn K mainGlobals "numbers_in" = some (some (.ref A9)))
    (l9 : K.lookup A9 = some ⟨oc9, od9, .func (PySem.W.fnOf "numbers_in" "numbers_in" (defArgs s_numbers_in) (defBody s_numbers_in) (defScope s_numbers_in) .none kV9 dc9 pm9 an9 cd9 ct9), sl9⟩)
    (c9 : PySem.W.codeIn K cd9 "numbers_in" = true)
    (k9 : PySem.W.keepIn K (.ref A9) = true)
    (a10 : PySem.W.nsIn K mainGlobals "read_tree" = some (some (.ref A10)))
    (l10 : K.lookup A10 = some ⟨oc10, od10, .func (PySem.W.fnOf "read_tree" "read_tree" (defArgs s_read_tree) (defBody s_read_tree) (defScope s_read_tree) .none kV10 dc10 pm10 an10 cd10 ct10), sl10⟩)
    (c10 : PySem.W.codeIn K cd10 "read_tree" = true)
    (k10 : PySem.W.keepIn K (.ref A10) = true)
    (a11 : PySem.W.nsIn K mainGlobals "_law_cell" = some (some (.ref A11)))
    (l11 : K.lookup A11 = some ⟨oc11, od11, .func (PySem.W.fnOf "_law_cell" "_law_cell" (defArgs s__law_cell) (defBody s__law_cell) (defScope s__law_cell) .none kV11 dc11 pm11 an11 cd11 ct11), sl11⟩)
    (c11 : PySem.W.codeIn K cd11 "_law_cell" = true)
    (k11 : PySem.W.keepIn K (.ref A11) = true)
    (a12 : PySem.W.nsIn K mainGlobals "_law_box" = some (some (.ref A12)))
    (l12 : K.lookup A12 = some ⟨oc12, od12, .func (PySem.W.fnOf "_law_box" "_law_box" (defArgs s__law_box) (defBody s__law_box) (defScope s__law_box) .none kV12 dc12 pm12 an12 cd12 ct12), sl12⟩)
    (c12 : PySem.W.codeIn K cd12 "_law_box" = true)
    (k12 : PySem.W.keepIn K (.ref A12) = true)
    (a13 : PySem.W.nsIn K mainGlobals "_law_take" = some (some (.ref A13)))
    (l13 : K.lookup A13 = some ⟨oc13, od13, .func (PySem.W.fnOf "_law_take" "_law_take" (defArgs s__law_take) (defBody s__law_take) (defScope s__law_take) .none kV13 dc13 pm13 an13 cd13 ct13), sl13⟩)
    (c13 : PySem.W.codeIn K cd13 "_law_take" = true)
    (k13 : PySem.W.keepIn K (.ref A13) = true)
    (a14 : PySem.W.nsIn K mainGlobals "_law_roads" = some (some (.ref A14)))
    (l14 : K.lookup A14 = some ⟨oc14, od14, .func (PySem.W.fnOf "_law_roads" "_law_roads" (defArgs s__law_roads) (defBody s__law_roads) (defScope s__law_roads) .none kV14 dc14 pm14 an14 cd14 ct14), sl14⟩)
    (c14 : PySem.W.codeIn K cd14 "_law_roads" = true)
    (k14 : PySem.W.keepIn K (.ref A14) = true)
    (a15 : PySem.W.nsIn K mainGlobals "_law_written" = some (some (.ref A15)))
    (l15 : K.lookup A15 = some ⟨oc15, od15, .func (PySem.W.fnOf "_law_written" "_law_written" (defArgs s__law_written) (defBody s__law_written) (defScope s__law_written) .none kV15 dc15 pm15 an15 cd15 ct15), sl15⟩)
    (c15 : PySem.W.codeIn K cd15 "_law_written" = true)
    (k15 : PySem.W.keepIn K (.ref A15) = true)
    (a16 : PySem.W.nsIn K mainGlobals "_law_number" = some (some (.ref A16)))
    (l16 : K.lookup A16 = some ⟨oc16, od16, .func (PySem.W.fnOf "_law_number" "_law_number" (defArgs s__law_number) (defBody s__law_number) (defScope s__law_number) .none kV16 dc16 pm16 an16 cd16 ct16), sl16⟩)
    (c16 : PySem.W.codeIn K cd16 "_law_number" = true)
    (k16 : PySem.W.keepIn K (.ref A16) = true)
    (a17 : PySem.W.nsIn K mainGlobals "_law_joined" = some (some (.ref A17)))
    (l17 : K.lookup A17 = some ⟨oc17, od17, .func (PySem.W.fnOf "_law_joined" "_law_joined" (defArgs s__law_joined) (defBody s__law_joined) (defScope s__law_joined) .none kV17 dc17 pm17 an17 cd17 ct17), sl17⟩)
    (c17 : PySem.W.codeIn K cd17 "_law_joined" = true)
    (k17 : PySem.W.keepIn K (.ref A17) = true)
    (a18 : PySem.W.nsIn K mainGlobals "_law_read" = some (some (.ref A18)))
    (l18 : K.lookup A18 = some ⟨oc18, od18, .func (PySem.W.fnOf "_law_read" "_law_read" (defArgs s__law_read) (defBody s__law_read) (defScope s__law_read) .none kV18 dc18 pm18 an18 cd18 ct18), sl18⟩)
    (c18 : PySem.W.codeIn K cd18 "_law_read" = true)
    (k18 : PySem.W.keepIn K (.ref A18) = true)
    (a19 : PySem.W.nsIn K mainGlobals "_law_spoilt_sign" = some (some (.ref A19)))
    (l19 : K.lookup A19 = some ⟨oc19, od19, .func (PySem.W.fnOf "_law_spoilt_sign" "_law_spoilt_sign" (defArgs s__law_spoilt_sign) (defBody s__law_spoilt_sign) (defScope s__law_spoilt_sign) .none kV19 dc19 pm19 an19 cd19 ct19), sl19⟩)
    (c19 : PySem.W.codeIn K cd19 "_law_spoilt_sign" = true)
    (k19 : PySem.W.keepIn K (.ref A19) = true)
    (a20 : PySem.W.nsIn K mainGlobals "_law_spoilt_word" = some (some (.ref A20)))
    (l20 : K.lookup A20 = some ⟨oc20, od20, .func (PySem.W.fnOf "_law_spoilt_word" "_law_spoilt_word" (defArgs s__law_spoilt_word) (defBody s__law_spoilt_word) (defScope s__law_spoilt_word) .none kV20 dc20 pm20 an20 cd20 ct20), sl20⟩)
    (c20 : PySem.W.codeIn K cd20 "_law_spoilt_word" = true)
    (k20 : PySem.W.keepIn K (.ref A20) = true)
    (a21 : PySem.W.nsIn K mainGlobals "_law_other_road" = some (some (.ref A21)))
    (l21 : K.lookup A21 = some ⟨oc21, od21, .func (PySem.W.fnOf "_law_other_road" "_law_other_road" (defArgs s__law_other_road) (defBody s__law_other_road) (defScope s__law_other_road) .none kV21 dc21 pm21 an21 cd21 ct21), sl21⟩)
    (c21 : PySem.W.codeIn K cd21 "_law_other_road" = true)
    (k21 : PySem.W.keepIn K (.ref A21) = true)
    (a22 : PySem.W.nsIn K mainGlobals "_law_asked_right" = some (some (.ref A22)))
    (l22 : K.lookup A22 = some ⟨oc22, od22, .func (PySem.W.fnOf "_law_asked_right" "_law_asked_right" (defArgs s__law_asked_right) (defBody s__law_asked_right) (defScope s__law_asked_right) .none kV22 dc22 pm22 an22 cd22 ct22), sl22⟩)
    (c22 : PySem.W.codeIn K cd22 "_law_asked_right" = true)
    (k22 : PySem.W.keepIn K (.ref A22) = true)
    (a23 : PySem.W.nsIn K mainGlobals "_law_world_right" = some (some (.ref A23)))
    (l23 : K.lookup A23 = some ⟨oc23, od23, .func (PySem.W.fnOf "_law_world_right" "_law_world_right" (defArgs s__law_world_right) (defBody s__law_world_right) (defScope s__law_world_right) .none kV23 dc23 pm23 an23 cd23 ct23), sl23⟩)
    (c23 : PySem.W.codeIn K cd23 "_law_world_right" = true)
    (k23 : PySem.W.keepIn K (.ref A23) = true)
    (a24 : PySem.W.nsIn K mainGlobals "_law_cell_right" = some (some (.ref A24)))
    (l24 : K.lookup A24 = some ⟨oc24, od24, .func (PySem.W.fnOf "_law_cell_right" "_law_cell_right" (defArgs s__law_cell_right) (defBody s__law_cell_right) (defScope s__law_cell_right) .none kV24 dc24 pm24 an24 cd24 ct24), sl24⟩)
    (c24 : PySem.W.codeIn K cd24 "_law_cell_right" = true)
    (k24 : PySem.W.keepIn K (.ref A24) = true)
    (a25 : PySem.W.nsIn K mainGlobals "law" = some (some (.ref A25)))
    (l25 : K.lookup A25 = some ⟨oc25, od25, .func (PySem.W.fnOf "law" "law" (defArgs s_law) (defBody s_law) (defScope s_law) .none kV25 dc25 pm25 an25 cd25 ct25), sl25⟩)
    (c25 : PySem.W.codeIn K cd25 "law" = true)
    (k25 : PySem.W.keepIn K (.ref A25) = true)
    (tA : PySem.W.nsIn K mainGlobals "Tree" = some (some (.ref CT)))
    (tpg : PySem.W.plainGet K CT Str.empty = true)
    (thd : PySem.W.hasDictIn K CT = true)
    (tpo : PySem.W.plainOver K CT = true)
    (tsa : PySem.W.findIn K (.ref CT) "__setattr__" = some (some (.builtin "object.__setattr__")))
    (tcl : PySem.W.findIn K (.ref CT) "__class__" = some (some (.builtin "object.__class__")))
    (tmo : PySem.W.mroIn K CT (.type "object") = some true)
    (tn0 : PySem.W.findIn K (.ref CT) "houses" = some none)
    (tn1 : PySem.W.findIn K (.ref CT) "roads" = some none)
    (tn2 : PySem.W.findIn K (.ref CT) "near" = some none)
    (tn3 : PySem.W.findIn K (.ref CT) "ways" = some none)
    (tmk : PySem.W.makesIn K CT = true)
    (tkp : PySem.W.keepIn K (.ref CT) = true)
    (tne : PySem.W.findIn K (.ref CT) "__ne__" = some (some (.builtin "object.__ne__")))
    (ma0 : PySem.W.findIn K (.ref CT) "__init__" = some (some (.ref MA0)))
    (mf0 : PySem.W.isFn K (.ref MA0) = true)
    (ml0 : K.lookup MA0 = some ⟨moc0, mod0, .func (PySem.W.fnOf "__init__" "Tree.__init__" (defArgs s_Tree___init__) (defBody s_Tree___init__) (defScope s_Tree___init__) .none mkV0 mdc0 mpm0 man0 mcd0 mct0), msl0⟩)
    (mc0 : PySem.W.codeIn K mcd0 "Tree.__init__" = true)
    (mk0 : PySem.W.keepIn K (.ref MA0) = true)
    (ma1 : PySem.W.findIn K (.ref CT) "__eq__" = some (some (.ref MA1)))
    (mf1 : PySem.W.isFn K (.ref MA1) = true)
    (ml1 : K.lookup MA1 = some ⟨moc1, mod1, .func (PySem.W.fnOf "__eq__" "Tree.__eq__" (defArgs s_Tree___eq__) (defBody s_Tree___eq__) (defScope s_Tree___eq__) .none mkV1 mdc1 mpm1 man1 mcd1 mct1), msl1⟩)
    (mc1 : PySem.W.codeIn K mcd1 "Tree.__eq__" = true)
    (mk1 : PySem.W.keepIn K (.ref MA1) = true)
    (ma2 : PySem.W.findIn K (.ref CT) "line" = some (some (.ref MA2)))
    (mf2 : PySem.W.isFn K (.ref MA2) = true)
    (ml2 : K.lookup MA2 = some ⟨moc2, mod2, .func (PySem.W.fnOf "line" "Tree.line" (defArgs s_Tree_line) (defBody s_Tree_line) (defScope s_Tree_line) .none mkV2 mdc2 mpm2 man2 mcd2 mct2), msl2⟩)
    (mc2 : PySem.W.codeIn K mcd2 "Tree.line" = true)
    (mk2 : PySem.W.keepIn K (.ref MA2) = true)
    (cv0 : PySem.W.nsIn K mainGlobals "DIGITS" = some (some (.str "0123456789" tk0)))
    (cv1 : PySem.W.nsIn K mainGlobals "MOST_DIGITS" = some (some (.int 20 tk1)))
    (cv2 : PySem.W.nsIn K mainGlobals "MOST_HOUSES" = some (some (.int 64 tk2)))
    (z_isinstance : PySem.W.nsIn K mainGlobals "isinstance" = some none)
    (z_all : PySem.W.nsIn K mainGlobals "all" = some none)
    (z_range : PySem.W.nsIn K mainGlobals "range" = some none)
    (z_len : PySem.W.nsIn K mainGlobals "len" = some none)
    (z_int : PySem.W.nsIn K mainGlobals "int" = some none)
    (z_tuple : PySem.W.nsIn K mainGlobals "tuple" = some none)
    (z_sorted : PySem.W.nsIn K mainGlobals "sorted" = some none)
    (z_list : PySem.W.nsIn K mainGlobals "list" = some none)
    (z_str : PySem.W.nsIn K mainGlobals "str" = some none)
    (z_ord : PySem.W.nsIn K mainGlobals "ord" = some none)
    (z_min : PySem.W.nsIn K mainGlobals "min" = some none)
    (z_max : PySem.W.nsIn K mainGlobals "max" = some none)
    (z_abs : PySem.W.nsIn K mainGlobals "abs" = some none)
    (z_sum : PySem.W.nsIn K mainGlobals "sum" = some none)
    (z_bool : PySem.W.nsIn K mainGlobals "bool" = some none)
    (z_repr : PySem.W.nsIn K mainGlobals "repr" = some none)
    (Y0 : Sh K mg L → E1 P w K mg L "InvalidText" "given" C0)
    (Y1 : Sh K mg L → E1 P w K mg L "InvalidHouses" "given" C1)
    (Y2 : Sh K mg L → E1 P w K mg L "InvalidRoads" "given" C2)
    (Y3 : Sh K mg L → E1 P w K mg L "NotJoined" "house" C3) :
    ∃ fd : FuncData, (∀ (s : Shared) (u : Value), BindsTo s fd ⟨[u], []⟩ [("script", u)]) ∧ ∀ base : Heap, K.In base → base.Ns mainGlobals mg → FnG P w K mg base (L2N.CX P w) 11 fa fd ["script"] (spD K (pm_law K)) := by
  have e := hfa.symm.trans (PySem.W.mg_of X G a25)
  cases e
  have T : Txt K mg := { b_isinstance := PySem.W.mg_none_of X G z_isinstance, b_all := PySem.W.mg_none_of X G z_all, b_range := PySem.W.mg_none_of X G z_range, b_len := PySem.W.mg_none_of X G z_len, b_int := PySem.W.mg_none_of X G z_int, b_tuple := PySem.W.mg_none_of X G z_tuple, b_sorted := PySem.W.mg_none_of X G z_sorted, b_list := PySem.W.mg_none_of X G z_list, b_str := PySem.W.mg_none_of X G z_str, b_ord := PySem.W.mg_none_of X G z_ord, b_min := PySem.W.mg_none_of X G z_min, b_max := PySem.W.mg_none_of X G z_max, b_abs := PySem.W.mg_none_of X G z_abs, b_sum := PySem.W.mg_none_of X G z_sum, b_bool := PySem.W.mg_none_of X G z_bool, b_repr := PySem.W.mg_none_of X G z_repr, c_DIGITS := ⟨_, PySem.W.mg_of X G cv0, ⟨_, rfl⟩⟩, c_MOST_DIGITS := ⟨_, PySem.W.mg_of X G cv1, ⟨_, rfl⟩⟩, c_MOST_HOUSES := ⟨_, PySem.W.mg_of X G cv2, ⟨_, rfl⟩⟩ }
  have TL : LoT K mg "LostError" L := ⟨PySem.W.mg_of X G eL, lsg, ltp, lrd, lfc⟩
  have S : Sh K mg L := ⟨TL, csp, ctk⟩
  obtain ⟨B0, I0, fI0, E_InvalidText, J_InvalidText⟩ := Y0 S
  obtain ⟨B1, I1, fI1, E_InvalidHouses, J_InvalidHouses⟩ := Y1 S
  obtain ⟨B2, I2, fI2, E_InvalidRoads, J_InvalidRoads⟩ := Y2 S
  obtain ⟨B3, I3, fI3, E_NotJoined, J_NotJoined⟩ := Y3 S
  have xT := eb_self B0
  have M_InvalidText := E_InvalidText.m
  have M_Tree := PySem.W.mg_of X G tA
  have C_Tree : L2.Cls K CT := ⟨tpg, thd, tpo, tsa⟩
  have TT : TreeT K CT := ⟨C_Tree, ⟨C_Tree, tcl, csp, ctk, tmo⟩, tn0, tn1, tn2, tn3, one_self⟩
  have K_Tree : Mk K CT MA0 := ⟨tmk, ma0, mf0, tkp⟩
  have Q_Tree : EqC K CT MA1 := ⟨tmo, tne, ma1, mf1⟩
  have Mt_Tree_line : Meth K CT "line" MA2 := ⟨ma2, mf2, mk2⟩
  have D_is_integer : Df K mg "is_integer" A0 := ⟨PySem.W.mg_of X G a0, k0⟩
  have F_is_integer := fun_mk (st := s_is_integer) l0 c0 k0
  have b_is_integer := F_is_integer.binds (ps := ["value"]) fun _ _ _ _ _ _ us hl => match us, hl with | [_], _ => rfl
  have D_is_index : Df K mg "is_index" A1 := ⟨PySem.W.mg_of X G a1, k1⟩
  have F_is_index := fun_mk (st := s_is_index) l1 c1 k1
  have b_is_index := F_is_index.binds (ps := ["value", "many"]) fun _ _ _ _ _ _ us hl => match us, hl with | [_, _], _ => rfl
  have D_is_list : Df K mg "is_list" A2 := ⟨PySem.W.mg_of X G a2, k2⟩
  have F_is_list := fun_mk (st := s_is_list) l2 c2 k2
  have b_is_list := F_is_list.binds (ps := ["value"]) fun _ _ _ _ _ _ us hl => match us, hl with | [_], _ => rfl
  have D_ascends : Df K mg "ascends" A3 := ⟨PySem.W.mg_of X G a3, k3⟩
  have F_ascends := fun_mk (st := s_ascends) l3 c3 k3
  have b_ascends := F_ascends.binds (ps := ["items"]) fun _ _ _ _ _ _ us hl => match us, hl with | [_], _ => rfl
  have D_count_in : Df K mg "count_in" A4 := ⟨PySem.W.mg_of X G a4, k4⟩
  have F_count_in := fun_mk (st := s_count_in) l4 c4 k4
  have b_count_in := F_count_in.binds (ps := ["word"]) fun _ _ _ _ _ _ us hl => match us, hl with | [_], _ => rfl
  have D_is_road : Df K mg "is_road" A5 := ⟨PySem.W.mg_of X G a5, k5⟩
  have F_is_road := fun_mk (st := s_is_road) l5 c5 k5
  have b_is_road := F_is_road.binds (ps := ["value", "houses"]) fun _ _ _ _ _ _ us hl => match us, hl with | [_, _], _ => rfl
  have D_are_roads : Df K mg "are_roads" A6 := ⟨PySem.W.mg_of X G a6, k6⟩
  have F_are_roads := fun_mk (st := s_are_roads) l6 c6 k6
  have b_are_roads := F_are_roads.binds (ps := ["value", "houses"]) fun _ _ _ _ _ _ us hl => match us, hl with | [_, _], _ => rfl
  have D_joined_by : Df K mg "joined_by" A7 := ⟨PySem.W.mg_of X G a7, k7⟩
  have F_joined_by := fun_mk (st := s_joined_by) l7 c7 k7
  have b_joined_by := F_joined_by.binds (ps := ["houses", "roads"]) fun _ _ _ _ _ _ us hl => match us, hl with | [_, _], _ => rfl
  have D_ways_from : Df K mg "ways_from" A8 := ⟨PySem.W.mg_of X G a8, k8⟩
  have F_ways_from := fun_mk (st := s_ways_from) l8 c8 k8
  have b_ways_from := F_ways_from.binds (ps := ["near", "house"]) fun _ _ _ _ _ _ us hl => match us, hl with | [_, _], _ => rfl
  have D_numbers_in : Df K mg "numbers_in" A9 := ⟨PySem.W.mg_of X G a9, k9⟩
  have F_numbers_in := fun_mk (st := s_numbers_in) l9 c9 k9
  have b_numbers_in := F_numbers_in.binds (ps := ["word"]) fun _ _ _ _ _ _ us hl => match us, hl with | [_], _ => rfl
  have D_read_tree : Df K mg "read_tree" A10 := ⟨PySem.W.mg_of X G a10, k10⟩
  have F_read_tree := fun_mk (st := s_read_tree) l10 c10 k10
  have b_read_tree := F_read_tree.binds (ps := ["text"]) fun _ _ _ _ _ _ us hl => match us, hl with | [_], _ => rfl
  have D__law_cell : Df K mg "_law_cell" A11 := ⟨PySem.W.mg_of X G a11, k11⟩
  have F__law_cell := fun_mk (st := s__law_cell) l11 c11 k11
  have b__law_cell := F__law_cell.binds (ps := ["script", "k"]) fun _ _ _ _ _ _ us hl => match us, hl with | [_, _], _ => rfl
  have D__law_box : Df K mg "_law_box" A12 := ⟨PySem.W.mg_of X G a12, k12⟩
  have F__law_box := fun_mk (st := s__law_box) l12 c12 k12
  have b__law_box := F__law_box.binds (ps := ["great"]) fun _ _ _ _ _ _ us hl => match us, hl with | [_], _ => rfl
  have D__law_take : Df K mg "_law_take" A13 := ⟨PySem.W.mg_of X G a13, k13⟩
  have F__law_take := fun_mk (st := s__law_take) l13 c13 k13
  have b__law_take := F__law_take.binds (ps := ["box", "many"]) fun _ _ _ _ _ _ us hl => match us, hl with | [_, _], _ => rfl
  have D__law_roads : Df K mg "_law_roads" A14 := ⟨PySem.W.mg_of X G a14, k14⟩
  have F__law_roads := fun_mk (st := s__law_roads) l14 c14 k14
  have b__law_roads := F__law_roads.binds (ps := ["box", "houses"]) fun _ _ _ _ _ _ us hl => match us, hl with | [_, _], _ => rfl
  have D__law_written : Df K mg "_law_written" A15 := ⟨PySem.W.mg_of X G a15, k15⟩
  have F__law_written := fun_mk (st := s__law_written) l15 c15 k15
  have b__law_written := F__law_written.binds (ps := ["houses", "roads"]) fun _ _ _ _ _ _ us hl => match us, hl with | [_, _], _ => rfl
  have D__law_number : Df K mg "_law_number" A16 := ⟨PySem.W.mg_of X G a16, k16⟩
  have F__law_number := fun_mk (st := s__law_number) l16 c16 k16
  have b__law_number := F__law_number.binds (ps := ["word"]) fun _ _ _ _ _ _ us hl => match us, hl with | [_], _ => rfl
  have D__law_joined : Df K mg "_law_joined" A17 := ⟨PySem.W.mg_of X G a17, k17⟩
  have F__law_joined := fun_mk (st := s__law_joined) l17 c17 k17
  have b__law_joined := F__law_joined.binds (ps := ["houses", "roads"]) fun _ _ _ _ _ _ us hl => match us, hl with | [_, _], _ => rfl
  have D__law_read : Df K mg "_law_read" A18 := ⟨PySem.W.mg_of X G a18, k18⟩
  have F__law_read := fun_mk (st := s__law_read) l18 c18 k18
  have b__law_read := F__law_read.binds (ps := ["text"]) fun _ _ _ _ _ _ us hl => match us, hl with | [_], _ => rfl
  have D__law_spoilt_sign : Df K mg "_law_spoilt_sign" A19 := ⟨PySem.W.mg_of X G a19, k19⟩
  have F__law_spoilt_sign := fun_mk (st := s__law_spoilt_sign) l19 c19 k19
  have b__law_spoilt_sign := F__law_spoilt_sign.binds (ps := ["box", "text"]) fun _ _ _ _ _ _ us hl => match us, hl with | [_, _], _ => rfl
  have D__law_spoilt_word : Df K mg "_law_spoilt_word" A20 := ⟨PySem.W.mg_of X G a20, k20⟩
  have F__law_spoilt_word := fun_mk (st := s__law_spoilt_word) l20 c20 k20
  have b__law_spoilt_word := F__law_spoilt_word.binds (ps := ["box", "text"]) fun _ _ _ _ _ _ us hl => match us, hl with | [_, _], _ => rfl
  have D__law_other_road : Df K mg "_law_other_road" A21 := ⟨PySem.W.mg_of X G a21, k21⟩
  have F__law_other_road := fun_mk (st := s__law_other_road) l21 c21 k21
  have b__law_other_road := F__law_other_road.binds (ps := ["box", "houses", "roads"]) fun _ _ _ _ _ _ us hl => match us, hl with | [_, _, _], _ => rfl
  have D__law_asked_right : Df K mg "_law_asked_right" A22 := ⟨PySem.W.mg_of X G a22, k22⟩
  have F__law_asked_right := fun_mk (st := s__law_asked_right) l22 c22 k22
  have b__law_asked_right := F__law_asked_right.binds (ps := ["value", "by_name"]) fun _ _ _ _ _ _ us hl => match us, hl with | [_, _], _ => rfl
  have D__law_world_right : Df K mg "_law_world_right" A23 := ⟨PySem.W.mg_of X G a23, k23⟩
  have F__law_world_right := fun_mk (st := s__law_world_right) l23 c23 k23
  have b__law_world_right := F__law_world_right.binds (ps := ["box", "houses", "roads"]) fun _ _ _ _ _ _ us hl => match us, hl with | [_, _, _], _ => rfl
  have D__law_cell_right : Df K mg "_law_cell_right" A24 := ⟨PySem.W.mg_of X G a24, k24⟩
  have F__law_cell_right := fun_mk (st := s__law_cell_right) l24 c24 k24
  have b__law_cell_right := F__law_cell_right.binds (ps := ["box"]) fun _ _ _ _ _ _ us hl => match us, hl with | [_], _ => rfl
  have F_law := fun_mk (st := s_law) l25 c25 k25
  have b_law := F_law.binds (ps := ["script"]) fun _ _ _ _ _ _ us hl => match us, hl with | [_], _ => rfl
  have F_Tree___init__ := fun_mk (st := s_Tree___init__) ml0 mc0 mk0
  have b_Tree___init__ := F_Tree___init__.binds (ps := ["self", "houses", "roads"]) fun _ _ _ _ _ _ us hl => match us, hl with | [_, _, _], _ => rfl
  have F_Tree___eq__ := fun_mk (st := s_Tree___eq__) ml1 mc1 mk1
  have b_Tree___eq__ := F_Tree___eq__.binds (ps := ["self", "other"]) fun _ _ _ _ _ _ us hl => match us, hl with | [_, _], _ => rfl
  have F_Tree_line := fun_mk (st := s_Tree_line) ml2 mc2 mk2
  have b_Tree_line := F_Tree_line.binds (ps := ["self"]) fun _ _ _ _ _ _ us hl => match us, hl with | [_], _ => rfl
  have kb_read_tree := kwb (ps := ["text"]) F_read_tree fun _ _ _ _ _ _ ws hl => match ws, hl with | [_], _ => rfl
  refine ⟨PySem.W.fnOf "law" "law" (defArgs s_law) (defBody s_law) (defScope s_law) .none kV25 dc25 pm25 an25 cd25 ct25, fun s v => .of_eq rfl, fun base _ _ => ?_⟩
  have I_InvalidText := J_InvalidText base
  have I_InvalidHouses := J_InvalidHouses base
  have I_InvalidRoads := J_InvalidRoads base
  have I_NotJoined := J_NotJoined base
  have G_is_integer := ok_is_integer (P := P) (w := w) (base := base)  F_is_integer T
  have G_is_index := ok_is_index (P := P) (w := w) (base := base) D_is_integer G_is_integer b_is_integer F_is_index T
  have G_is_list := ok_is_list (P := P) (w := w) (base := base)  F_is_list T
  have G_ascends := ok_ascends (P := P) (w := w) (base := base)  F_ascends T
  have G_count_in := ok_count_in (P := P) (w := w) (base := base)  F_count_in T
  have G_is_road := ok_is_road (P := P) (w := w) (base := base) D_is_index G_is_index b_is_index F_is_road T
  have G_are_roads := ok_are_roads (P := P) (w := w) (base := base) D_is_list G_is_list b_is_list D_is_road G_is_road b_is_road D_ascends G_ascends b_ascends F_are_roads T
  have G_joined_by := ok_joined_by (P := P) (w := w) (base := base)  F_joined_by T
  have G_ways_from := ok_ways_from (P := P) (w := w) (base := base)  F_ways_from T
  have G_numbers_in := ok_numbers_in (P := P) (w := w) (base := base) D_count_in G_count_in b_count_in F_numbers_in T
  have G_Tree___init__ := ok_Tree___init__ (P := P) (w := w) (base := base) D_is_integer G_is_integer b_is_integer D_are_roads G_are_roads b_are_roads D_joined_by G_joined_by b_joined_by D_ways_from G_ways_from b_ways_from E_InvalidHouses I_InvalidHouses E_InvalidRoads I_InvalidRoads E_NotJoined I_NotJoined TT F_Tree___init__ T
  have G_Tree_line := ok_Tree_line (P := P) (w := w) (base := base) TT F_Tree_line T
  have G_Tree___eq__ := ok_Tree___eq__ (P := P) (w := w) (base := base) TT M_Tree F_Tree___eq__ T
  have G_read_tree := ok_read_tree (P := P) (w := w) (base := base) D_count_in G_count_in b_count_in D_numbers_in G_numbers_in b_numbers_in D_are_roads G_are_roads b_are_roads D_joined_by G_joined_by b_joined_by D_ways_from G_ways_from b_ways_from E_InvalidText I_InvalidText TT M_Tree K_Tree G_Tree___init__ b_Tree___init__ F_read_tree T
  have G__law_cell := ok_cell (P := P) (w := w) (base := base)  F__law_cell T
  have G__law_box := ok_box (P := P) (w := w) (base := base)  F__law_box T
  have G__law_take := ok_take (P := P) (w := w) (base := base)  F__law_take T
  have G__law_roads := ok_law_roads (P := P) (w := w) (base := base) D__law_take G__law_take b__law_take F__law_roads T
  have G__law_written := ok_law_written (P := P) (w := w) (base := base)  F__law_written T
  have G__law_number := ok_law_number (P := P) (w := w) (base := base)  F__law_number T
  have G__law_joined := ok_law_joined (P := P) (w := w) (base := base)  F__law_joined T
  have G__law_read := ok_law_read (P := P) (w := w) (base := base) D__law_number G__law_number b__law_number D__law_joined G__law_joined b__law_joined F__law_read T
  have G__law_spoilt_sign := ok_spoilt_sign (P := P) (w := w) (base := base) D__law_take G__law_take b__law_take F__law_spoilt_sign T
  have G__law_spoilt_word := ok_spoilt_word (P := P) (w := w) (base := base) D__law_take G__law_take b__law_take F__law_spoilt_word T
  have G__law_other_road := ok_other_road (P := P) (w := w) (base := base) D__law_take G__law_take b__law_take F__law_other_road T
  have G__law_asked_right := ok_asked (P := P) (w := w) (base := base) D__law_read G__law_read b__law_read E_InvalidText I_InvalidText TT M_Tree C_Tree D_read_tree G_read_tree b_read_tree kb_read_tree Mt_Tree_line G_Tree_line b_Tree_line M_InvalidText xT F__law_asked_right T
  have G__law_world_right := ok_world (P := P) (w := w) (base := base) TT M_Tree C_Tree K_Tree G_Tree___init__ b_Tree___init__ Mt_Tree_line G_Tree_line b_Tree_line Q_Tree G_Tree___eq__ b_Tree___eq__ D_read_tree G_read_tree b_read_tree D__law_take G__law_take b__law_take D__law_written G__law_written b__law_written D__law_other_road G__law_other_road b__law_other_road D__law_spoilt_sign G__law_spoilt_sign b__law_spoilt_sign D__law_spoilt_word G__law_spoilt_word b__law_spoilt_word D__law_asked_right G__law_asked_right b__law_asked_right F__law_world_right T
  have G__law_cell_right := ok_cellr (P := P) (w := w) (base := base) TT M_Tree C_Tree K_Tree G_Tree___init__ b_Tree___init__ Mt_Tree_line G_Tree_line b_Tree_line D__law_take G__law_take b__law_take D__law_written G__law_written b__law_written D__law_roads G__law_roads b__law_roads D__law_world_right G__law_world_right b__law_world_right D__law_asked_right G__law_asked_right b__law_asked_right F__law_cell_right T
  exact ok_law D__law_box G__law_box b__law_box D__law_cell G__law_cell b__law_cell D__law_cell_right G__law_cell_right b__law_cell_right F_law T
end
end K03
open PySem PySem.W PyProof.Rows in
set_option Elab.async false in
set_option linter.all false in
set_option maxRecDepth 100000 in
set_option maxHeartbeats 0 in
theorem PySem.Challenge.cw_maplost_k03_tree_lines_holds : PySem.Challenge.rw_maplost_k03_tree_lines.Holds := by
  w_on; o_law; k_head; (case hw => w_witness2)
  k_fill
  refine DL.walkG (l := PySem.Challenge.rw_maplost_k03_tree_lines) (n := 63) (k := 11) (x := "script") (A := K03.pm_law) rfl (by decide) rfl ⟨rfl, by decide, by decide⟩ (fun w h Y => PySem.W.kIn_of Y) ?F (fun K ns hl => ⟨ns, rfl, hl, fun _ => rfl⟩)
  case F =>
    intro w mg fa h KX G hmg
    refine' K03.all_mk KX G hmg ?eL ?lcs ?lsg ?ltp ?lrd ?lfc ?csp ?ctk ?a0 ?l0 ?c0 ?k0 ?a1 ?l1 ?c1 ?k1 ?a2 ?l2 ?c2 ?k2 ?a3 ?l3 ?c3 ?k3 ?a4 ?l4 ?c4 ?k4 ?a5 ?l5 ?c5 ?k5 ?a6 ?l6 ?c6 ?k6 ?a7 ?l7 ?c7 ?k7 ?a8 ?l8 ?c8 ?k8 ?a9 ?l9 ?c9 ?k9 ?a10 ?l10 ?c10 ?k10 ?a11 ?l11 ?c11 ?k11 ?a12 ?l12 ?c12 ?k12 ?a13 ?l13 ?c13 ?k13 ?a14 ?l14 ?c14 ?k14 ?a15 ?l15 ?c15 ?k15 ?a16 ?l16 ?c16 ?k16 ?a17 ?l17 ?c17 ?k17 ?a18 ?l18 ?c18 ?k18 ?a19 ?l19 ?c19 ?k19 ?a20 ?l20 ?c20 ?k20 ?a21 ?l21 ?c21 ?k21 ?a22 ?l22 ?c22 ?k22 ?a23 ?l23 ?c23 ?k23 ?a24 ?l24 ?c24 ?k24 ?a25 ?l25 ?c25 ?k25 ?tA ?tpg ?thd ?tpo ?tsa ?tcl ?tmo ?tn0 ?tn1 ?tn2 ?tn3 ?tmk ?tkp ?tne ?ma0 ?mf0 ?ml0 ?mc0 ?mk0 ?ma1 ?mf1 ?ml1 ?mc1 ?mk1 ?ma2 ?mf2 ?ml2 ?mc2 ?mk2 ?cv0 ?cv1 ?cv2 ?z_isinstance ?z_all ?z_range ?z_len ?z_int ?z_tuple ?z_sorted ?z_list ?z_str ?z_ord ?z_min ?z_max ?z_abs ?z_sum ?z_bool ?z_repr ?Y0 ?Y1 ?Y2 ?Y3
    (case eL => k_is)
    (case lcs => k_is)
    (case lsg => k_is)
    (case ltp => k_is)
    (case lrd => k_is)
    (case lfc => k_is)
    (case csp => k_is)
    (case ctk => k_is)
    (case a0 => k_is)
    (case l0 => k_is)
    (case c0 => k_is)
    (case k0 => k_is)
    (case a1 => k_is)
    (case l1 => k_is)
    (case c1 => k_is)
    (case k1 => k_is)
    (case a2 => k_is)
    (case l2 => k_is)
    (case c2 => k_is)
    (case k2 => k_is)
    (case a3 => k_is)
    (case l3 => k_is)
    (case c3 => k_is)
    (case k3 => k_is)
    (case a4 => k_is)
    (case l4 => k_is)
    (case c4 => k_is)
    (case k4 => k_is)
    (case a5 => k_is)
    (case l5 => k_is)
    (case c5 => k_is)
    (case k5 => k_is)
    (case a6 => k_is)
    (case l6 => k_is)
    (case c6 => k_is)
    (case k6 => k_is)
    (case a7 => k_is)
    (case l7 => k_is)
    (case c7 => k_is)
    (case k7 => k_is)
    (case a8 => k_is)
    (case l8 => k_is)
    (case c8 => k_is)
    (case k8 => k_is)
    (case a9 => k_is)
    (case l9 => k_is)
    (case c9 => k_is)
    (case k9 => k_is)
    (case a10 => k_is)
    (case l10 => k_is)
    (case c10 => k_is)
    (case k10 => k_is)
    (case a11 => k_is)
    (case l11 => k_is)
    (case c11 => k_is)
    (case k11 => k_is)
    (case a12 => k_is)
    (case l12 => k_is)
    (case c12 => k_is)
    (case k12 => k_is)
    (case a13 => k_is)
    (case l13 => k_is)
    (case c13 => k_is)
    (case k13 => k_is)
    (case a14 => k_is)
    (case l14 => k_is)
    (case c14 => k_is)
    (case k14 => k_is)
    (case a15 => k_is)
    (case l15 => k_is)
    (case c15 => k_is)
    (case k15 => k_is)
    (case a16 => k_is)
    (case l16 => k_is)
    (case c16 => k_is)
    (case k16 => k_is)
    (case a17 => k_is)
    (case l17 => k_is)
    (case c17 => k_is)
    (case k17 => k_is)
    (case a18 => k_is)
    (case l18 => k_is)
    (case c18 => k_is)
    (case k18 => k_is)
    (case a19 => k_is)
    (case l19 => k_is)
    (case c19 => k_is)
    (case k19 => k_is)
    (case a20 => k_is)
    (case l20 => k_is)
    (case c20 => k_is)
    (case k20 => k_is)
    (case a21 => k_is)
    (case l21 => k_is)
    (case c21 => k_is)
    (case k21 => k_is)
    (case a22 => k_is)
    (case l22 => k_is)
    (case c22 => k_is)
    (case k22 => k_is)
    (case a23 => k_is)
    (case l23 => k_is)
    (case c23 => k_is)
    (case k23 => k_is)
    (case a24 => k_is)
    (case l24 => k_is)
    (case c24 => k_is)
    (case k24 => k_is)
    (case a25 => k_is)
    (case l25 => k_is)
    (case c25 => k_is)
    (case k25 => k_is)
    (case tA => k_is)
    (case tpg => k_is)
    (case thd => k_is)
    (case tpo => k_is)
    (case tsa => k_is)
    (case tcl => k_is)
    (case tmo => k_is)
    (case tn0 => k_is)
    (case tn1 => k_is)
    (case tn2 => k_is)
    (case tn3 => k_is)
    (case tmk => k_is)
    (case tkp => k_is)
    (case tne => k_is)
    (case ma0 => k_is)
    (case mf0 => k_is)
    (case ml0 => k_is)
    (case mc0 => k_is)
    (case mk0 => k_is)
    (case ma1 => k_is)
    (case mf1 => k_is)
    (case ml1 => k_is)
    (case mc1 => k_is)
    (case mk1 => k_is)
    (case ma2 => k_is)
    (case mf2 => k_is)
    (case ml2 => k_is)
    (case mc2 => k_is)
    (case mk2 => k_is)
    (case cv0 => k_is)
    (case cv1 => k_is)
    (case cv2 => k_is)
    (case z_isinstance => k_is)
    (case z_all => k_is)
    (case z_range => k_is)
    (case z_len => k_is)
    (case z_int => k_is)
    (case z_tuple => k_is)
    (case z_sorted => k_is)
    (case z_list => k_is)
    (case z_str => k_is)
    (case z_ord => k_is)
    (case z_min => k_is)
    (case z_max => k_is)
    (case z_abs => k_is)
    (case z_sum => k_is)
    (case z_bool => k_is)
    (case z_repr => k_is)
    (case Y0 => refine' K03.mk_InvalidText KX G ?eA ?eX ?eS ?eK ?ega ?egg ?ecl ?eno ?ei ?eti ?eli ?eci ?eki; (case eA => k_is); (case eX => k_is); (case eS => k_is); (case eK => k_is); (case ega => k_is); (case egg => k_is); (case ecl => k_is); (case eno => k_is); (case ei => k_is); (case eti => k_is); (case eli => k_is); (case eci => k_is); (case eki => k_is))
    (case Y1 => refine' K03.mk_InvalidHouses KX G ?eA ?eX ?eS ?eK ?ega ?egg ?ecl ?eno ?ei ?eti ?eli ?eci ?eki; (case eA => k_is); (case eX => k_is); (case eS => k_is); (case eK => k_is); (case ega => k_is); (case egg => k_is); (case ecl => k_is); (case eno => k_is); (case ei => k_is); (case eti => k_is); (case eli => k_is); (case eci => k_is); (case eki => k_is))
    (case Y2 => refine' K03.mk_InvalidRoads KX G ?eA ?eX ?eS ?eK ?ega ?egg ?ecl ?eno ?ei ?eti ?eli ?eci ?eki; (case eA => k_is); (case eX => k_is); (case eS => k_is); (case eK => k_is); (case ega => k_is); (case egg => k_is); (case ecl => k_is); (case eno => k_is); (case ei => k_is); (case eti => k_is); (case eli => k_is); (case eci => k_is); (case eki => k_is))
    (case Y3 => refine' K03.mk_NotJoined KX G ?eA ?eX ?eS ?eK ?ega ?egg ?ecl ?eno ?ei ?eti ?eli ?eci ?eki; (case eA => k_is); (case eX => k_is); (case eS => k_is); (case eK => k_is); (case ega => k_is); (case egg => k_is); (case ecl => k_is); (case eno => k_is); (case ei => k_is); (case eti => k_is); (case eli => k_is); (case eci => k_is); (case eki => k_is))
