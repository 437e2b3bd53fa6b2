import PyProof.Rows.All
import Wide.All
import OpenK.AllK
import Wide.FinOn
import HandS.ForMost
import HandS.DictComp
import HandS.Defaults
import HandS.Walk
import HandS.MakeKw
import HandS.Flow
import HandS.Wide
import HandS.IsInst
import HandS.Text
import HandS.Codes
import HandS.Conv
import HandS.Strs
import HandS.Style
import HandS.TupAny
import KE.KUnpackStar
import HandS.ExcOwn
import HandS.Slots
import HandS.Small
import KE.KEqDict
import KE.GoesMore
import KE.GoesEnum
import HandS.More
import HandS.Iter
import PySem.Challenge.RW_crowdsay_k96_whole_throngs_say_it_after
set_option Elab.async false
set_option linter.all false
set_option maxRecDepth 100000
/-! A small language of pure values (D) and mutable cells, its meaning (ev), and what ties it to the layer: core. -/
namespace DP
open PySem PySem.Spec L2

inductive D where
  | non | bl (b : Bool) | int (i : Int) | str (x : Str)
  | tup (ds : List D) | lst (ds : List D) | obj (C : Str) (fs : List (Str × D)) | cell (n : Nat) | scr (is : List Int)
instance : Inhabited D := ⟨.non⟩
inductive Cel where
  | lst (ds : List D) | dct (kvs : List (Key × D)) | ins (C : Str) (fs : List (Str × D)) | dead
abbrev Sto := List Cel
abbrev Rho := List (Option D)

/-! ### how a value stands for a datum -/
inductive Rep (K : PySem.W.Frag) (ca : Str → Option Addr) (α : List Addr) (F : Hp) : V → D → Prop
  | non : Rep K ca α F .non .non
  | bl (b : Bool) : Rep K ca α F (.bl b) (.bl b)
  | int (i : Int) : Rep K ca α F (.int i) (.int i)
  | str (x : Str) : Rep K ca α F (.str x) (.str x)
  | tup {a : Addr} {vs : List V} {ds : List D} : SqT K F a vs → vs.length = ds.length → (∀ (i : Nat) (v : V) (d : D), vs[i]? = some v → ds[i]? = some d → Rep K ca α F v d) → Rep K ca α F (.ref a) (.tup ds)
  | scr {a : Addr} {is : List Int} : SqL K F a (is.map V.int) → Rep K ca α F (.ref a) (.scr is)
  | lst {a : Addr} {vs : List V} {ds : List D} : F a = some (.lst vs) → vs.length = ds.length → (∀ (i : Nat) (v : V) (d : D), vs[i]? = some v → ds[i]? = some d → Rep K ca α F v d) → Rep K ca α F (.ref a) (.lst ds)
  | obj {a : Addr} {C : Str} {c dx : Addr} {fs : List (Str × V)} {gs : List (Str × D)} (vv : Str → V) : ca C = some c → F a = some (.ins c dx fs) → (∀ f, gs.lookup f = none → fs.lookup f = none) →
      (∀ f d, gs.lookup f = some d → fs.lookup f = some (vv f)) → (∀ f d, gs.lookup f = some d → Rep K ca α F (vv f) d) → Rep K ca α F (.ref a) (.obj C gs)
  | cell {a : Addr} {n : Nat} : α[n]? = some a → Rep K ca α F (.ref a) (.cell n)

def Reps (K : PySem.W.Frag) (ca : Str → Option Addr) (α : List Addr) (F : Hp) (vs : List V) (ds : List D) : Prop :=
  vs.length = ds.length ∧ ∀ (i : Nat) (v : V) (d : D), vs[i]? = some v → ds[i]? = some d → Rep K ca α F v d

def FRel (K : PySem.W.Frag) (ca : Str → Option Addr) (α : List Addr) (F : Hp) (fs : List (Str × V)) (gs : List (Str × D)) : Prop :=
  ∀ f, (gs.lookup f = none → fs.lookup f = none) ∧ ∀ d, gs.lookup f = some d → ∃ v, fs.lookup f = some v ∧ Rep K ca α F v d

def KRel (K : PySem.W.Frag) (ca : Str → Option Addr) (α : List Addr) (F : Hp) (vs : List (Key × V)) (ds : List (Key × D)) : Prop :=
  vs.map (·.1) = ds.map (·.1) ∧ Reps K ca α F (vs.map (·.2)) (ds.map (·.2))

structure Ext (α : List Addr) (F : Hp) (α' : List Addr) (F' : Hp) : Prop where
  pre : ∃ β, α' = α ++ β
  fr : ∀ a o, F a = some o → F' a = some o
theorem Ext.refl (α : List Addr) (F : Hp) : Ext α F α F := ⟨⟨[], by simp⟩, fun _ _ h => h⟩
theorem Ext.trans {α F α' F' α'' F''} (x : Ext α F α' F') (y : Ext α' F' α'' F'') : Ext α F α'' F'' := by
  obtain ⟨β, rfl⟩ := x.pre
  obtain ⟨γ, rfl⟩ := y.pre
  exact ⟨⟨β ++ γ, by simp⟩, fun a o h => y.fr a o (x.fr a o h)⟩
theorem Ext.at {α F α' F'} (x : Ext α F α' F') {n : Nat} {a : Addr} (h : α[n]? = some a) : α'[n]? = some a := by
  obtain ⟨β, rfl⟩ := x.pre
  have hl := (List.getElem?_eq_some_iff.mp h).1
  rw [List.getElem?_append_left hl]; exact h
theorem seqL_sub {K : PySem.W.Frag} {F F' : Hp} (s : ∀ a o, F a = some o → F' a = some o) {a : Addr} {xs : List V} (h : SqL K F a xs) : SqL K F' a xs := Same.seq (H := F) (H' := F') s h
theorem seqT_sub {K : PySem.W.Frag} {F F' : Hp} (s : ∀ a o, F a = some o → F' a = some o) {a : Addr} {xs : List V} (h : SqT K F a xs) : SqT K F' a xs := by
  rcases h with (h | ⟨o, h⟩) | h
  · exact .inl (.inl (s _ _ h))
  · exact .inl (.inr ⟨o, s _ _ h⟩)
  · exact .inr h
section
variable {K : PySem.W.Frag} {ca : Str → Option Addr} {α α' α'' : List Addr} {F F' F'' : Hp} {v w : V} {d : D}
theorem Rep.mono (r : Rep K ca α F v d) (x : Ext α F α' F') : Rep K ca α' F' v d := by
  induction r with
  | non => exact .non
  | bl b => exact .bl b
  | int i => exact .int i
  | str z => exact .str z
  | tup h l _ ih => exact .tup (seqT_sub x.fr h) l ih
  | lst h l _ ih => exact .lst (x.fr _ _ h) l ih
  | scr h => exact .scr (seqL_sub x.fr h)
  | obj vv h1 h2 h3 h4 _ ih => exact .obj vv h1 (x.fr _ _ h2) h3 h4 ih
  | cell h => exact .cell (x.at h)
theorem Reps.mono {vs : List V} {ds : List D} (r : Reps K ca α F vs ds) (x : Ext α F α' F') : Reps K ca α' F' vs ds := ⟨r.1, fun i v d h1 h2 => (r.2 i v d h1 h2).mono x⟩
theorem FRel.mono {fs : List (Str × V)} {gs : List (Str × D)} (r : FRel K ca α F fs gs) (x : Ext α F α' F') : FRel K ca α' F' fs gs := fun f => ⟨(r f).1, fun d e => by
  obtain ⟨v, h1, h2⟩ := (r f).2 d e
  exact ⟨v, h1, h2.mono x⟩⟩
theorem KRel.mono {fs : List (Key × V)} {gs : List (Key × D)} (r : KRel K ca α F fs gs) (x : Ext α F α' F') : KRel K ca α' F' fs gs := ⟨r.1, r.2.mono x⟩
theorem Reps.nil : Reps K ca α F [] [] := ⟨rfl, fun i v d h => by simp at h⟩
theorem Reps.cons {vs : List V} {ds : List D} (r : Rep K ca α F v d) (rs : Reps K ca α F vs ds) : Reps K ca α F (v :: vs) (d :: ds) := by
  refine ⟨by simp [rs.1], fun i u e h1 h2 => ?_⟩
  cases i with
  | zero => simp at h1 h2; subst h1; subst h2; exact r
  | succ i => exact rs.2 i u e (by simpa using h1) (by simpa using h2)
theorem Reps.head {vs : List V} {ds : List D} (rs : Reps K ca α F (v :: vs) (d :: ds)) : Rep K ca α F v d := rs.2 0 v d rfl rfl
theorem Reps.tail {vs : List V} {ds : List D} (rs : Reps K ca α F (v :: vs) (d :: ds)) : Reps K ca α F vs ds :=
  ⟨by have := rs.1; simpa using this, fun i u e h1 h2 => rs.2 (i + 1) u e (by simpa using h1) (by simpa using h2)⟩
theorem Reps.nil_iff {vs : List V} (rs : Reps K ca α F vs []) : vs = [] := by
  have := rs.1; simpa using this
theorem Reps.cons_inv {vs : List V} {ds : List D} (rs : Reps K ca α F vs (d :: ds)) : ∃ v vr, vs = v :: vr ∧ Rep K ca α F v d ∧ Reps K ca α F vr ds := by
  cases vs with
  | nil => have := rs.1; simp at this
  | cons v vr => exact ⟨v, vr, rfl, rs.head, rs.tail⟩
theorem Reps.get {vs : List V} {ds : List D} (rs : Reps K ca α F vs ds) {i : Nat} (h : ds[i]? = some d) : ∃ v, vs[i]? = some v ∧ Rep K ca α F v d := by
  have hl := (List.getElem?_eq_some_iff.mp h).1
  have hl' : i < vs.length := by rw [rs.1]; exact hl
  exact ⟨vs[i], by simp [hl'], rs.2 i _ d (by simp [hl']) h⟩
theorem Reps.append {vs ws : List V} {ds es : List D} (r : Reps K ca α F vs ds) (s : Reps K ca α F ws es) : Reps K ca α F (vs ++ ws) (ds ++ es) := by
  refine ⟨by simp [r.1, s.1], fun i u e h1 h2 => ?_⟩
  by_cases hi : i < ds.length
  · rw [List.getElem?_append_left (by rw [r.1]; exact hi)] at h1
    rw [List.getElem?_append_left hi] at h2
    exact r.2 i u e h1 h2
  · rw [List.getElem?_append_right (by rw [r.1]; omega)] at h1
    rw [List.getElem?_append_right (by omega)] at h2
    rw [r.1] at h1
    exact s.2 _ u e h1 h2
theorem Reps.drop {vs : List V} {ds : List D} (r : Reps K ca α F vs ds) (n : Nat) : Reps K ca α F (vs.drop n) (ds.drop n) :=
  ⟨by simp [r.1], fun i u e h1 h2 => r.2 (n + i) u e (by simpa using h1) (by simpa using h2)⟩
theorem Reps.take {vs : List V} {ds : List D} (r : Reps K ca α F vs ds) (n : Nat) : Reps K ca α F (vs.take n) (ds.take n) := by
  refine ⟨by simp [r.1], fun i u e h1 h2 => ?_⟩
  rw [List.getElem?_take] at h1 h2
  split at h1
  · rename_i h; rw [if_pos h] at h2; exact r.2 i u e h1 h2
  · cases h1
theorem Reps.set {vs : List V} {ds : List D} (r : Reps K ca α F vs ds) (n : Nat) (q : Rep K ca α F v d) : Reps K ca α F (vs.set n v) (ds.set n d) := by
  refine ⟨by simp [r.1], fun i u e h1 h2 => ?_⟩
  by_cases hi : n = i
  · subst hi
    have l1 : n < vs.length := by have := (List.getElem?_eq_some_iff.mp h1).1; simpa using this
    have l2 : n < ds.length := by have := (List.getElem?_eq_some_iff.mp h2).1; simpa using this
    rw [List.getElem?_set_self l1] at h1
    rw [List.getElem?_set_self l2] at h2
    cases h1; cases h2; exact q
  · rw [List.getElem?_set_ne hi] at h1 h2
    exact r.2 i u e h1 h2
theorem Reps.reverse {vs : List V} {ds : List D} (r : Reps K ca α F vs ds) : Reps K ca α F vs.reverse ds.reverse := by
  refine ⟨by simp [r.1], fun i u e h1 h2 => ?_⟩
  have l1 : i < vs.length := by have := (List.getElem?_eq_some_iff.mp h1).1; simpa using this
  have l2 : i < ds.length := by have := (List.getElem?_eq_some_iff.mp h2).1; simpa using this
  rw [List.getElem?_reverse l1] at h1
  rw [List.getElem?_reverse l2] at h2
  rw [r.1] at h1
  exact r.2 _ u e h1 h2
theorem Reps.eraseIdx {vs : List V} {ds : List D} (r : Reps K ca α F vs ds) (n : Nat) : Reps K ca α F (vs.eraseIdx n) (ds.eraseIdx n) := by
  refine ⟨by simp [List.length_eraseIdx, r.1], fun i u e h1 h2 => ?_⟩
  rw [List.getElem?_eraseIdx] at h1 h2
  split at h1
  · rename_i h; rw [if_pos h] at h2; exact r.2 i u e h1 h2
  · rename_i h; rw [if_neg h] at h2; exact r.2 _ u e h1 h2
end

/-! ### how the store stands in the heap -/
/-- what is marked stands for itself; a mark is a thing that no datum stands for -/
def un : HO → HO
  | .frz _ (.frz _ u) => u
  | o => o
def mark (u : HO) : HO := .frz default (.frz default u)
theorem un_mark (u : HO) : un (mark u) = u := rfl
theorem mark_ne {o u : HO} (h : un o = o) : o ≠ mark u := fun e => by
  subst e
  have e : u = mark u := h
  have := congrArg sizeOf e
  simp only [mark, HO.frz.sizeOf_spec] at this
  omega
theorem seqL_un {K : PySem.W.Frag} {F H : Hp} (s : ∀ a o, F a = some o → H a = some (un o)) {a : Addr} {xs : List V} (h : SqL K F a xs) : SqL K H a xs := by
  rcases h with (h | ⟨o, h⟩) | h
  · exact .inl (.inl (s _ _ h))
  · exact .inl (.inr ⟨o, s _ _ h⟩)
  · exact .inr h
theorem seqT_un {K : PySem.W.Frag} {F H : Hp} (s : ∀ a o, F a = some o → H a = some (un o)) {a : Addr} {xs : List V} (h : SqT K F a xs) : SqT K H a xs := by
  rcases h with (h | ⟨o, h⟩) | h
  · exact .inl (.inl (s _ _ h))
  · exact .inl (.inr ⟨o, s _ _ h⟩)
  · exact .inr h
def CelOk (K : PySem.W.Frag) (ca : Str → Option Addr) (α : List Addr) (F H : Hp) (a : Addr) : Cel → Prop
  | .lst ds => ∃ vs, H a = some (.lst vs) ∧ Reps K ca α F vs ds
  | .dct kvs => ∃ vs, H a = some (.dK vs) ∧ KRel K ca α F vs kvs
  | .ins C gs => ∃ c dx fs, ca C = some c ∧ H a = some (.ins c dx fs) ∧ FRel K ca α F fs gs ∧ fs.length = gs.length
  | .dead => True
structure Sim (K : PySem.W.Frag) (ca : Str → Option Addr) (α : List Addr) (F : Hp) (μ : Sto) (H : Hp) : Prop where
  len : α.length = μ.length
  sub : ∀ a o, F a = some o → H a = some (un o)
  cel : ∀ (n : Nat) c a, μ[n]? = some c → α[n]? = some a → CelOk K ca α F H a c
  inj : ∀ (n m : Nat) a, α[n]? = some a → α[m]? = some a → n = m
  off : ∀ (n : Nat) c a, μ[n]? = some c → c ≠ .dead → α[n]? = some a → F a = none
  trk : ∀ (n : Nat) a, α[n]? = some a → H a ≠ none
  mrk : ∀ (n : Nat) a u, α[n]? = some a → F a ≠ some (mark u)
def RE (K : PySem.W.Frag) (ca : Str → Option Addr) (α : List Addr) (F : Hp) (σ : St) (ρ : Rho) : Prop :=
  σ.length = ρ.length ∧ ∀ (i : Nat) d, ρ[i]? = some (some d) → ∃ v, σ[i]? = some (some v) ∧ Rep K ca α F v d
section
variable {K : PySem.W.Frag} {ca : Str → Option Addr} {α α' α'' : List Addr} {F F' F'' H : Hp} {v w : V} {d : D} {μ : Sto} {σ : St} {ρ : Rho}
theorem CelOk.mono {a : Addr} {c : Cel} (x : Ext α F α' F') (h : CelOk K ca α F H a c) : CelOk K ca α' F' H a c := by
  cases c with
  | lst ds => obtain ⟨vs, h1, h2⟩ := h; exact ⟨vs, h1, h2.mono x⟩
  | dct ds => obtain ⟨vs, h1, h2⟩ := h; exact ⟨vs, h1, h2.mono x⟩
  | ins C gs => obtain ⟨c, dx, fs, h1, h2, h3, h4⟩ := h; exact ⟨c, dx, fs, h1, h2, h3.mono x, h4⟩
  | dead => trivial
theorem CelOk.heap {a : Addr} {c : Cel} {H' : Hp} (e : ∀ o, H a = some o → H' a = some o) (h : CelOk K ca α F H a c) : CelOk K ca α F H' a c := by
  cases c with
  | lst ds => obtain ⟨vs, h1, h2⟩ := h; exact ⟨vs, e _ h1, h2⟩
  | dct ds => obtain ⟨vs, h1, h2⟩ := h; exact ⟨vs, e _ h1, h2⟩
  | ins C gs => obtain ⟨c, dx, fs, h1, h2, h3, h4⟩ := h; exact ⟨c, dx, fs, h1, e _ h2, h3, h4⟩
  | dead => trivial
theorem RE.mono (r : RE K ca α F σ ρ) (x : Ext α F α' F') : RE K ca α' F' σ ρ := ⟨r.1, fun i d h => by
  obtain ⟨v, h1, h2⟩ := r.2 i d h
  exact ⟨v, h1, h2.mono x⟩⟩
theorem RE.set (r : RE K ca α F σ ρ) (i : Nat) (q : Rep K ca α F v d) : RE K ca α F (σ.set i (some v)) (ρ.set i (some d)) := by
  refine ⟨by simp [r.1], fun j e h => ?_⟩
  by_cases hi : i = j
  · subst hi
    have l2 : i < ρ.length := by have := (List.getElem?_eq_some_iff.mp h).1; simpa using this
    rw [List.getElem?_set_self l2] at h
    cases h
    exact ⟨v, by rw [List.getElem?_set_self (by rw [r.1]; exact l2)], q⟩
  · rw [List.getElem?_set_ne hi] at h
    obtain ⟨u, h1, h2⟩ := r.2 j e h
    exact ⟨u, by rw [List.getElem?_set_ne hi]; exact h1, h2⟩
/-- a new object that is frozen at once -/
theorem Sim.laid {p : Addr} {o : HO} (s : Sim K ca α F μ H) (hp : H p = none) (hu : un o = o := by rfl) : Sim K ca α (upd F p o) μ (upd H p o) ∧ Ext α F α (upd F p o) := by
  have hF : F p = none := by
    cases q : F p with
    | none => rfl
    | some u => have := s.sub _ _ q; rw [hp] at this; cases this
  have x : Ext α F α (upd F p o) := ⟨⟨[], by simp⟩, fun a u h => by rw [upd_ne (ne_of_none h hF)]; exact h⟩
  have ne : ∀ (n : Nat) a, α[n]? = some a → a ≠ p := fun n a h e => s.trk n a h (e ▸ hp)
  refine ⟨⟨s.len, fun a u h => ?_, fun n c a h1 h2 => ?_, s.inj, fun n c a h1 h2 h3 => ?_, fun n a h => ?_, fun n a u h => by rw [upd_ne (ne n a h)]; exact s.mrk n a u h⟩, x⟩
  · by_cases e : a = p
    · subst e; rw [upd_same] at h ⊢; cases h; rw [hu]
    · rw [upd_ne e] at h ⊢; exact s.sub a u h
  · exact ((s.cel n c a h1 h2).mono x).heap fun u hu => by rw [upd_ne (ne n a h2)]; exact hu
  · rw [upd_ne (ne n a h3)]; exact s.off n c a h1 h2 h3
  · rw [upd_ne (ne n a h)]; exact s.trk n a h
/-- a new object that is a cell -/
theorem Sim.cellNew {p : Addr} {o : HO} {c : Cel} (s : Sim K ca α F μ H) (hp : H p = none) (hc : CelOk K ca (α ++ [p]) F (upd H p o) p c) :
    Sim K ca (α ++ [p]) F (μ ++ [c]) (upd H p o) ∧ Ext α F (α ++ [p]) F ∧ (α ++ [p])[μ.length]? = some p := by
  have hF : F p = none := by
    cases q : F p with
    | none => rfl
    | some u => have := s.sub _ _ q; rw [hp] at this; cases this
  have x : Ext α F (α ++ [p]) F := ⟨⟨[p], rfl⟩, fun a u h => h⟩
  have ne : ∀ (n : Nat) a, α[n]? = some a → a ≠ p := fun n a h e => s.trk n a h (e ▸ hp)
  have inv : ∀ (n : Nat) a, (α ++ [p])[n]? = some a → (n < α.length ∧ α[n]? = some a) ∨ (n = α.length ∧ a = p) := fun n a h => by
    by_cases hn : n < α.length
    · rw [List.getElem?_append_left hn] at h; exact .inl ⟨hn, h⟩
    · rw [List.getElem?_append_right (by omega)] at h
      have : n - α.length = 0 := by
        have := (List.getElem?_eq_some_iff.mp h).1; simp at this; omega
      rw [this] at h
      simp at h
      exact .inr ⟨by omega, h.symm⟩
  refine ⟨⟨by simp [s.len], fun a u h => ?_, fun n c' a h1 h2 => ?_, fun n m a h1 h2 => ?_, fun n c' a h1 h2 h3 => ?_, fun n a h => ?_, fun n a u h => ?_⟩, x, ?_⟩
  · rw [upd_ne (ne_of_none h hF)]; exact s.sub a u h
  · rcases inv n a h2 with ⟨hn, h2'⟩ | ⟨hn, ha⟩
    · rw [List.getElem?_append_left (by rw [← s.len]; exact hn)] at h1
      exact ((s.cel n c' a h1 h2').mono x).heap fun u hu => by rw [upd_ne (ne n a h2')]; exact hu
    · subst ha
      rw [List.getElem?_append_right (by rw [← s.len]; omega), hn, s.len] at h1
      simp at h1; subst h1; exact hc
  · rcases inv n a h1 with ⟨hn, h1'⟩ | ⟨hn, ha⟩ <;> rcases inv m a h2 with ⟨hm, h2'⟩ | ⟨hm, ha'⟩
    · exact s.inj n m a h1' h2'
    · exact absurd ha' (ne n a h1')
    · exact absurd ha (ne m a h2')
    · omega
  · rcases inv n a h3 with ⟨hn, h3'⟩ | ⟨hn, ha⟩
    · rw [List.getElem?_append_left (by rw [← s.len]; exact hn)] at h1
      exact s.off n c' a h1 h2 h3'
    · subst ha; exact hF
  · rcases inv n a h with ⟨hn, h'⟩ | ⟨hn, ha⟩
    · rw [upd_ne (ne n a h')]; exact s.trk n a h'
    · subst ha; rw [upd_same]; exact fun z => nomatch z
  · rcases inv n a h with ⟨hn, h'⟩ | ⟨hn, ha⟩
    · exact s.mrk n a u h'
    · subst ha; rw [hF]; exact fun z => nomatch z
  · rw [← s.len]; simp
/-- a cell's content is changed -/
theorem Sim.write {n : Nat} {a : Addr} {o : HO} {c c' : Cel} (s : Sim K ca α F μ H) (hn : μ[n]? = some c) (hd : c ≠ .dead) (ha : α[n]? = some a) (hc : CelOk K ca α F (upd H a o) a c') (hd' : c' ≠ .dead) :
    Sim K ca α F (μ.set n c') (upd H a o) := by
  have hF := s.off n c a hn hd ha
  have hl : n < μ.length := (List.getElem?_eq_some_iff.mp hn).1
  refine ⟨by simp [s.len], fun b u h => ?_, fun m e b h1 h2 => ?_, s.inj, fun m e b h1 h2 h3 => ?_, fun m b h => ?_, s.mrk⟩
  · rw [upd_ne (ne_of_none h hF)]; exact s.sub b u h
  · by_cases hm : n = m
    · subst hm
      rw [ha] at h2; cases h2
      rw [List.getElem?_set_self hl] at h1; cases h1
      exact hc
    · rw [List.getElem?_set_ne hm] at h1
      exact (s.cel m e b h1 h2).heap fun u hu => by
        rw [upd_ne (show b ≠ a from fun q => hm (s.inj n m a ha (by rw [← q]; exact h2)))]; exact hu
  · by_cases hm : n = m
    · subst hm; rw [ha] at h3; cases h3; exact hF
    · rw [List.getElem?_set_ne hm] at h1; exact s.off m e b h1 h2 h3
  · by_cases e : b = a
    · subst e; rw [upd_same]; exact fun z => nomatch z
    · rw [upd_ne e]; exact s.trk m b h
/-- a cell is given up: its content is frozen as it stands -/
theorem Sim.freeze {n : Nat} {a : Addr} {o : HO} {c : Cel} (s : Sim K ca α F μ H) (hn : μ[n]? = some c) (hd : c ≠ .dead) (ha : α[n]? = some a) (ho : H a = some o) (hu : un o = o := by rfl) :
    Sim K ca α (upd F a o) (μ.set n .dead) H ∧ Ext α F α (upd F a o) := by
  have hF := s.off n c a hn hd ha
  have hl : n < μ.length := (List.getElem?_eq_some_iff.mp hn).1
  have x : Ext α F α (upd F a o) := ⟨⟨[], by simp⟩, fun b u h => by rw [upd_ne (ne_of_none h hF)]; exact h⟩
  refine ⟨⟨by simp [s.len], fun b u h => ?_, fun m e b h1 h2 => ?_, s.inj, fun m e b h1 h2 h3 => ?_, s.trk, fun m b u h => ?_⟩, x⟩
  · by_cases e : b = a
    · subst e; rw [upd_same] at h; cases h; rw [hu]; exact ho
    · rw [upd_ne e] at h; exact s.sub b u h
  · by_cases hm : n = m
    · subst hm; rw [List.getElem?_set_self hl] at h1; cases h1; trivial
    · rw [List.getElem?_set_ne hm] at h1; exact (s.cel m e b h1 h2).mono x
  · by_cases hm : n = m
    · subst hm; rw [List.getElem?_set_self hl] at h1; cases h1; exact absurd rfl h2
    · rw [List.getElem?_set_ne hm] at h1
      rw [upd_ne (show b ≠ a from fun q => hm (s.inj n m a ha (by rw [← q]; exact h3)))]
      exact s.off m e b h1 h2 h3
  · by_cases e : b = a
    · subst e; rw [upd_same]; exact fun z => mark_ne hu (Option.some.inj z)
    · rw [upd_ne e]; exact s.mrk m b u h
end
end DP

/-! The language: syntax E, S and its meaning. -/
namespace DP
open PySem PySem.Spec L2

inductive Op2 where | add | sub | mul | fdiv | mod | pow
inductive Cmp where | eq | ne | lt | le | gt | ge | isN | notN | mem | nmem
inductive Bi where
  | len | sum | maxL | minL | max2 | min2 | abs | int1 | str1 | list1 | tuple1 | all | any | dict1 | isInt | isBool
  | append | pop | pop0 | index | range1 | listR | listK | insert | maxT
/-- where a thing is stored: a name, an attribute of a name's instance -/
inductive Leaf where | n (i : Nat) | f (o : Nat) (a : Str)
inductive Tg where | one (l : Leaf) | tup (ls : List Leaf) | star (pre : List Leaf) (s : Leaf) (post : List Leaf)

/-- the slots that a target sets -/
def Leaf.sl : Leaf → List Nat | .n i => [i] | .f _ _ => []
def Tg.sl : Tg → List Nat
  | .one l => l.sl
  | .tup ls => ls.flatMap Leaf.sl
  | .star pre s post => (pre ++ [s] ++ post).flatMap Leaf.sl
inductive E where
  | v (i : Nat) | c (d : D) | g (x : Str)
  | bin (o : Op2) (a b : E) | neg (a : E) | cmp (o : Cmp) (a b : E) | chn (o o' : Cmp) (a b c : E)
  | and (a b : E) | or (a b : E) | not (a : E) | ife (c a b : E)
  | nil | cons (a as : E)
  | tup (as : E) | lst (m : Bool) (as : E) | cat (m : Bool) (a b : E) | rep (m : Bool) (a b : E)
  | ix (a b : E) | sl (m : Bool) (a lo hi : E) | rev (m : Bool) (a : E) | noP
  | fld (a : E) (f : Str) | call (f : Str) (as : E) | meth (a : E) (f : Str) (as : E) | make (fr : Bool) (C : Str) (as : E)
  | bi (b : Bi) (m : Bool) (as : E) | mt (b : Bi) (a as : E) | isi (a : E) (C : Str) | lenO (a : E)
  | frz (a : E)
  | lc (m : Bool) (own : List Nat) (tg : Tg) (it cs elt : E)
  | lc2 (m : Bool) (own : List Nat) (tg : Tg) (it cs : E) (tg1 : Tg) (it1 cs1 elt : E)
  | dc (own : List Nat) (tg : Tg) (it cs ke ve : E)
  | dcs (i j w : Nat) (f : Str)
  | rng (lo hi : E) | zip2 (a b : E) | zip3 (a b c : E) | enm (a : E)

/-- what is fixed while a def runs: the while's fuel, the constants, the attributes' names by class, what calls tell -/
structure Pr where
  wf : Nat
  gv : Str → Option D
  att : Str → List Str
  call : Str → List D → Sto → Option (D × Sto)
  meth : Str → Str → List D → Sto → Option (D × Sto)

def bnd {α β : Type} (x : Option (α × Sto)) (f : α → Sto → Option β) : Option β := match x with
  | some (a, μ) => f a μ
  | none => none
@[simp] theorem bnd_some {α β : Type} (a : α) (μ : Sto) (f : α → Sto → Option β) : bnd (some (a, μ)) f = f a μ := rfl
@[simp] theorem bnd_none {α β : Type} (f : α → Sto → Option β) : bnd none f = none := rfl
theorem bnd_eq {α β : Type} {x : Option (α × Sto)} {f : α → Sto → Option β} {r : β} (h : bnd x f = some r) : ∃ a μ, x = some (a, μ) ∧ f a μ = some r := by
  cases x with
  | none => cases h
  | some p => exact ⟨p.1, p.2, rfl, h⟩

mutual
def D.py : D → Option PyData
  | .non => some .none | .bl b => some (.bool b) | .int i => some (.int i) | .str x => some (.str x)
  | .tup ds => (D.pys ds).map .tuple | .lst ds => (D.pys ds).map .list
  | .obj _ _ => none | .cell _ => none | .scr _ => none
def D.pys : List D → Option (List PyData)
  | [] => some []
  | d :: ds => match D.py d, D.pys ds with
    | some x, some xs => some (x :: xs)
    | _, _ => none
end
mutual
def D.beq : D → D → Bool
  | .non, .non => true | .bl a, .bl b => a == b | .int a, .int b => a == b | .str a, .str b => a == b
  | .tup a, .tup b => D.beqs a b | .lst a, .lst b => D.beqs a b | .obj C f, .obj C' g => C == C' && D.beqf f g | .cell a, .cell b => a == b | .scr a, .scr b => a == b
  | _, _ => false
def D.beqs : List D → List D → Bool
  | [], [] => true
  | a :: as, b :: bs => D.beq a b && D.beqs as bs
  | _, _ => false
def D.beqf : List (Str × D) → List (Str × D) → Bool
  | [], [] => true
  | a :: as, b :: bs => a.1 == b.1 && D.beq a.2 b.2 && D.beqf as bs
  | _, _ => false
end
mutual
theorem D.beq_of : ∀ (x y : D), D.beq x y = true → x = y
  | .non, y, h => by cases y <;> simp [D.beq] at h; rfl
  | .bl a, y, h => by cases y <;> simp [D.beq] at h; rw [h]
  | .int a, y, h => by cases y <;> simp [D.beq] at h; rw [h]
  | .str a, y, h => by cases y <;> simp [D.beq] at h; rw [h]
  | .cell a, y, h => by cases y <;> simp [D.beq] at h; rw [h]
  | .scr a, y, h => by cases y <;> simp [D.beq] at h; rw [h]
  | .tup a, y, h => by cases y <;> simp [D.beq] at h; rw [D.beqs_of _ _ h]
  | .lst a, y, h => by cases y <;> simp [D.beq] at h; rw [D.beqs_of _ _ h]
  | .obj C f, y, h => by cases y <;> simp [D.beq] at h; rw [h.1, D.beqf_of _ _ h.2]
theorem D.beqs_of : ∀ (x y : List D), D.beqs x y = true → x = y
  | [], y, h => by cases y <;> simp [D.beqs] at h; rfl
  | a :: as, y, h => by
    cases y with
    | nil => simp [D.beqs] at h
    | cons b bs => simp [D.beqs] at h; rw [D.beq_of _ _ h.1, D.beqs_of _ _ h.2]
theorem D.beqf_of : ∀ (x y : List (Str × D)), D.beqf x y = true → x = y
  | [], y, h => by cases y <;> simp [D.beqf] at h; rfl
  | (f, a) :: as, y, h => by
    cases y with
    | nil => simp [D.beqf] at h
    | cons b bs => obtain ⟨g, b⟩ := b; simp [D.beqf] at h; rw [h.1.1, D.beq_of _ _ h.1.2, D.beqf_of _ _ h.2]
end
mutual
@[simp] theorem D.beq_self : ∀ (x : D), D.beq x x = true
  | .non => rfl | .bl a => by simp [D.beq] | .int a => by simp [D.beq] | .str a => by simp [D.beq] | .cell a => by simp [D.beq] | .scr a => by simp [D.beq]
  | .tup a => by simp [D.beq, D.beqs_self a] | .lst a => by simp [D.beq, D.beqs_self a] | .obj C f => by simp [D.beq, D.beqf_self f]
@[simp] theorem D.beqs_self : ∀ (x : List D), D.beqs x x = true
  | [] => rfl
  | a :: as => by simp [D.beqs, D.beq_self a, D.beqs_self as]
@[simp] theorem D.beqf_self : ∀ (x : List (Str × D)), D.beqf x x = true
  | [] => rfl
  | (f, a) :: as => by simp [D.beqf, D.beq_self a, D.beqf_self as]
end
/-- a cell that a loop walks: it stays as it is -/
abbrev Wt := Option (Nat × List D)
def watch (w : Wt) (μ : Sto) : Bool := match w with
  | none => true
  | some (n, ds) => match μ[n]? with
    | some (.lst es) => D.beqs ds es
    | _ => false
/-- no cell from the n-th on is spoken of -/
def D.under (n : Nat) : D → Bool
  | .cell m => decide (m < n)
  | .tup ds => D.unders n ds
  | .lst ds => D.unders n ds
  | .obj _ fs => D.underF n fs
  | _ => true
where
  D.unders (n : Nat) : List D → Bool
    | [] => true
    | d :: ds => D.under n d && D.unders n ds
  D.underF (n : Nat) : List (Str × D) → Bool
    | [] => true
    | d :: ds => D.under n d.2 && D.underF n ds

def mulOk (i j : Int) : Bool := decide (-(2 ^ 64) < i ∧ i < 2 ^ 64) || decide (-(2 ^ 64) < j ∧ j < 2 ^ 64) || decide (i.natAbs.log2 + j.natAbs.log2 < 1000000)
def divOk (j : Int) : Bool := decide (j ≠ 0 ∧ j.natAbs < 1073741824) || decide (0 < j ∧ j.natAbs.log2 < 9000)
def op2 : Op2 → D → D → Option D
  | .add, .int i, .int j => some (.int (i + j))
  | .add, .str x, .str y => if x.length + y.length ≤ sizeLine then some (.str (x ++ y)) else none
  | .add, .tup a, .tup b => if a.length + b.length ≤ sizeLine then some (.tup (a ++ b)) else none
  | .sub, .int i, .int j => some (.int (i - j))
  | .mul, .int i, .int j => if mulOk i j then some (.int (i * j)) else none
  | .fdiv, .int i, .int j => if divOk j then some (.int (i.fdiv j)) else none
  | .mod, .int i, .int j => if j ≠ 0 then some (.int (i.fmod j)) else none
  | .pow, .int i, .int j => if 0 ≤ j ∧ j ≤ 1000000 ∧ i.natAbs < 2 ^ 64 then some (.int (i ^ j.toNat)) else none
  | _, _, _ => none
def D.flat : D → Bool
  | .non => true | .bl _ => true | .int _ => true | .str _ => true | _ => false
def D.toV : D → V
  | .bl b => .bl b | .int i => .int i | .str x => .str x | _ => .non
def eqF (x y : D) : Bool := eqV x.toV y.toV
def eqD (x y : D) : Option Bool := match x.py, y.py with
  | some a, some b => if SeqAt.shaped a && SeqAt.shaped b then some (a.eqv b) else none
  | _, _ => none
def key : D → Option Key
  | .int i => some (.inl i) | .str x => some (.inr x) | _ => none
def lookK {β : Type} (kvs : List (Key × β)) (k : Key) : Option β := (kvs.find? fun kv => decide (kv.1 = k)).map (·.2)
def putKD (kvs : List (Key × D)) (k : Key) (v : D) : List (Key × D) :=
  if kvs.any (fun kv => decide (kv.1 = k)) then kvs.map (fun kv => if kv.1 = k then (kv.1, v) else kv) else kvs ++ [(k, v)]
def memD (x y : D) (μ : Sto) : Option Bool := match y with
  | .tup ds => if x.flat && ds.all D.flat then some (ds.any fun z => eqF z x) else none
  | .lst ds => if x.flat && ds.all D.flat then some (ds.any fun z => eqF z x) else none
  | .cell n => match μ[n]? with
    | some (.dct kvs) => (key x).map fun k => (lookK kvs k).isSome
    | _ => none
  | _ => none
/-- == and != of two instances of own classes: by the class's own __eq__ -/
def cls (d : D) (μ : Sto) : Option Str := match d with
  | .obj C _ => some C
  | .cell n => match μ[n]? with
    | some (.ins C _) => some C
    | _ => none
  | _ => none
def isNon : D → Bool | .non => true | _ => false
def dictOf (d : D) (μ : Sto) : Option (List (Key × D)) := match d with
  | .cell n => match μ[n]? with | some (.dct kvs) => some kvs | _ => none
  | _ => none
/-- == of two dicts of flat values -/
def eqDict (a b : List (Key × D)) : Bool := a.length == b.length && a.all fun kv => match lookK b kv.1 with | some d => eqF kv.2 d | none => false
def eqA (Γ : Pr) (x y : D) (μ : Sto) : Option (Bool × Sto) := match cls x μ with
  | some C => match cls y μ with
    | some C' => if C' = C then bnd (Γ.meth C "__eq__" [x, y] μ) fun d μ => match d with | .bl b => some (b, μ) | _ => none else none
    | none => none
  | none => match dictOf x μ with
    | some a => match dictOf y μ with
      | some b => if (a.all fun kv => kv.2.flat) && (b.all fun kv => kv.2.flat) then some (eqDict a b, μ) else none
      | none => none
    | none => (eqD x y).map fun b => (b, μ)
/-- the class of an instance that has no attribute of that name -/
def recv (d : D) (m : Str) (μ : Sto) : Option Str := match d with
  | .obj C fs => match fs.lookup m with | none => some C | _ => none
  | .cell n => match μ[n]? with
    | some (.ins C fs) => match fs.lookup m with | none => some C | _ => none
    | _ => none
  | _ => none
def cmpD (Γ : Pr) (o : Cmp) (x y : D) (μ : Sto) : Option (Bool × Sto) := match o with
  | .eq => eqA Γ x y μ
  | .ne => (eqA Γ x y μ).map fun p => (!p.1, p.2)
  | .lt => match x, y with | .int i, .int j => some (decide (i < j), μ) | _, _ => none
  | .le => match x, y with | .int i, .int j => some (decide (i ≤ j), μ) | _, _ => none
  | .gt => match x, y with | .int i, .int j => some (decide (j < i), μ) | _, _ => none
  | .ge => match x, y with | .int i, .int j => some (decide (j ≤ i), μ) | _, _ => none
  | .isN => match y with | .non => some (isNon x, μ) | _ => none
  | .notN => match y with | .non => some (!isNon x, μ) | _ => none
  | .mem => (memD x y μ).map fun b => (b, μ)
  | .nmem => (memD x y μ).map fun b => (!b, μ)
def alloc (m : Bool) (ds : List D) (μ : Sto) : Option (D × Sto) := if ds.length ≤ sizeLine then (if m then some (.cell μ.length, μ ++ [.lst ds]) else some (.lst ds, μ)) else none
/-- what a list, a tuple holds -/
def items (d : D) (μ : Sto) : Option (List D) := match d with
  | .scr is => some (is.map .int)
  | .tup ds => some ds
  | .lst ds => some ds
  | .cell n => match μ[n]? with | some (.lst ds) => some ds | _ => none
  | _ => none
def listed (d : D) (μ : Sto) : Option (List D) := match d with
  | .scr is => some (is.map .int)
  | .lst ds => some ds
  | .cell n => match μ[n]? with | some (.lst ds) => some ds | _ => none
  | _ => none
def lstOf (d : D) (μ : Sto) : Option (List D) := match d with
  | .lst ds => some ds
  | .cell n => match μ[n]? with | some (.lst ds) => some ds | _ => none
  | _ => none
def truth (d : D) (μ : Sto) : Option Bool := match d with
  | .non => some false | .bl b => some b | .int i => some (i != 0)
  | .str x => if x.length ≤ sizeLine then some ((x.length : Int) != 0) else none
  | d => (items d μ).map fun ds => !ds.isEmpty
def ixD (x y : D) (μ : Sto) : Option D := match x, y with
  | .str z, .int i => if z.length ≤ sizeLine then (atI z.cps.toList i).map fun c => .str ⟨#[c]⟩ else none
  | .cell n, y => match μ[n]? with
    | some (.lst ds) => match y with | .int i => atI ds i | _ => none
    | some (.dct kvs) => (key y).bind (lookK kvs)
    | _ => none
  | x, .int i => (items x μ).bind fun ds => atI ds i
  | _, _ => none
def sIx := HT.sIx
def cutD (xs : List D) (lo hi : Option Int) : List D := (xs.drop (HT.sIx xs.length 0 lo)).take (HT.sIx xs.length xs.length hi - HT.sIx xs.length 0 lo)
def slD (m : Bool) (x : D) (lo hi : Option Int) (μ : Sto) : Option (D × Sto) := match x with
  | .tup ds => some (.tup (cutD ds lo hi), μ)
  | .str z => if z.length ≤ sizeLine then some (.str (cutS z lo hi), μ) else none
  | x => (listed x μ).bind fun ds => alloc m (cutD ds lo hi) μ
def fldD (Γ : Pr) (x : D) (f : Str) (μ : Sto) : Option D := match x with
  | .obj C fs => if f ∈ Γ.att C then fs.lookup f else none
  | .cell n => match μ[n]? with
    | some (.ins C fs) => if f ∈ Γ.att C then fs.lookup f else none
    | _ => none
  | _ => none
def intsD : List D → Option (List Int)
  | [] => some []
  | .int i :: ds => (intsD ds).map (i :: ·)
  | _ => none
def bls : List D → Option (List Bool)
  | [] => some []
  | .bl i :: ds => (bls ds).map (i :: ·)
  | _ => none
def maxI : Int → List Int → Int
  | m, [] => m
  | m, i :: is => maxI (if m < i then i else m) is
def minI : Int → List Int → Int
  | m, [] => m
  | m, i :: is => minI (if i < m then i else m) is
def dKey : Key → D
  | .inl i => .int i
  | .inr x => .str x
def biD (b : Bi) (m : Bool) (as : List D) (μ : Sto) : Option (D × Sto) := match b, as with
  | .len, [.str x] => if x.length ≤ sizeLine then some (.int x.length, μ) else none
  | .len, [x] => (items x μ).map fun ds => (.int ds.length, μ)
  | .sum, [x] => ((listed x μ).bind intsD).map fun is => (.int is.sum, μ)
  | .maxL, [x] => ((listed x μ).bind intsD).bind fun is => match is with | [] => none | i :: is => some (.int (maxI i is), μ)
  | .minL, [x] => ((listed x μ).bind intsD).bind fun is => match is with | [] => none | i :: is => some (.int (minI i is), μ)
  | .max2, [.int i, .int j] => some (.int (if j > i then j else i), μ)
  | .min2, [.int i, .int j] => some (.int (if j < i then j else i), μ)
  | .abs, [.int i] => some (.int (if i < 0 then -i else i), μ)
  | .int1, [.int i] => some (.int i, μ)
  | .int1, [.bl b] => some (.int (if b then 1 else 0), μ)
  | .list1, [x] => (items x μ).bind fun ds => alloc m ds μ
  | .listK, [.cell n] => match μ[n]? with
    | some (.dct kvs) => alloc m (kvs.map fun kv => dKey kv.1) μ
    | _ => none
  | .dict1, [.cell n] => match μ[n]? with
    | some (.dct kvs) => some (.cell μ.length, μ ++ [.dct kvs])
    | _ => none
  | .index, [x, y] => (listed x μ).bind fun ds => if y.flat && ds.all D.flat then (ds.findIdx? fun z => eqF z y).map fun i => (.int (i : Nat), μ) else none
  | .tuple1, [x] => (listed x μ).map fun ds => (.tup ds, μ)
  | .all, [x] => ((listed x μ).bind bls).map fun is => (.bl (is.all id), μ)
  | .any, [x] => ((listed x μ).bind bls).map fun is => (.bl (is.any id), μ)
  | .isInt, [.int _] => some (.bl true, μ)
  | .isInt, [.bl _] => some (.bl true, μ)
  | .isBool, [.int _] => some (.bl false, μ)
  | .isBool, [.bl _] => some (.bl true, μ)
  | .append, [.cell n, x] => match μ[n]? with
    | some (.lst ds) => if ds.length < sizeLine then some (.non, μ.set n (.lst (ds ++ [x]))) else none
    | _ => none
  | .pop, [.cell n] => match μ[n]? with
    | some (.lst ds) => (ds[ds.length - 1]?).map fun y => (y, μ.set n (.lst ds.dropLast))
    | _ => none
  | .pop0, [.cell n, .int i] => match μ[n]? with
    | some (.lst ds) => if -(2 ^ 63) ≤ i ∧ i < 2 ^ 63 then (seqIndex? i ds.length).bind fun k => (ds[k]?).map fun y => (y, μ.set n (.lst (ds.eraseIdx k))) else none
    | _ => none
  | .listR, [.int i, .int j] => if -(2 ^ 62) ≤ i ∧ i < 2 ^ 62 ∧ -(2 ^ 62) ≤ j ∧ j < 2 ^ 62 ∧ (j - i).toNat ≤ 2 ^ 24 then alloc m ((List.range (j - i).toNat).map fun (k : Nat) => D.int (i + (k : Int))) μ else none
  | .insert, [.cell n, .int i, x] => match μ[n]? with
    | some (.lst ds) => if ds.length < sizeLine ∧ 0 ≤ i ∧ i < 2 ^ 63 then some (.non, μ.set n (.lst (ds.take i.toNat ++ [x] ++ ds.drop i.toNat))) else none
    | _ => none
  | .maxT, [.tup ds] => (intsD ds).bind fun is => match is with | [] => none | i :: is => some (.int (maxI i is), μ)
  | .range1, [.int j] => if 0 ≤ j ∧ j < 16777216 then alloc m ((List.range j.toNat).map fun (i : Nat) => D.int (i : Int)) μ else none
  | _, _ => none
/-- the sums, key by key, of two dicts of ints -/
def sumK (kvs : List (Key × D)) : List (Key × D) → Option (List (Key × D))
  | [] => some []
  | (k, .int i) :: r => match lookK kvs k with
    | some (.int j) => (sumK kvs r).map fun z => (k, .int (i + j)) :: z
    | _ => none
  | _ => none
def storeLeaf (Γ : Pr) (l : Leaf) (d : D) (ρ : Rho) (μ : Sto) : Option (Rho × Sto) := match l with
  | .n i => some (ρ.set i (some d), μ)
  | .f o a => match ρ[o]? with
    | some (some (.cell n)) => match μ[n]? with
      | some (.ins C fs) => if a ∈ Γ.att C ∧ fs.length < 40 then some (ρ, μ.set n (.ins C (putF' a d fs))) else none
      | _ => none
    | _ => none
where
  putF' (f : Str) (v : D) : List (Str × D) → List (Str × D)
    | [] => [(f, v)]
    | (g, u) :: r => if g = f then (f, v) :: r else (g, u) :: putF' f v r
def storeAll (Γ : Pr) : List Leaf → List D → Rho → Sto → Option (Rho × Sto)
  | [], [], ρ, μ => some (ρ, μ)
  | l :: ls, d :: ds, ρ, μ => (storeLeaf Γ l d ρ μ).bind fun p => storeAll Γ ls ds p.1 p.2
  | _, _, _, _ => none
def bind (Γ : Pr) (t : Tg) (d : D) (ρ : Rho) (μ : Sto) : Option (Rho × Sto) := match t with
  | .one l => storeLeaf Γ l d ρ μ
  | .tup ls => match d with
    | .tup ds => storeAll Γ ls ds ρ μ
    | _ => none
  | .star pre s post => (match d with | .tup ds => some ds | .lst ds => some ds | _ => none).bind fun ds =>
      if pre.length + post.length ≤ ds.length ∧ ds.length ≤ 16384 then
        storeAll Γ (pre ++ [s] ++ post) (ds.take pre.length ++ [D.lst ((ds.drop pre.length).take (ds.length - pre.length - post.length))] ++ ds.drop (ds.length - post.length)) ρ μ
      else none
def wipeD (ρ : Rho) : List Nat → Rho
  | [] => ρ
  | i :: is => (wipeD ρ is).set i none
def lcLoop (w : Wt) (f : D → Sto → Option (List D × Sto)) : List D → Sto → Option (List D × Sto)
  | [], μ => some ([], μ)
  | x :: xs, μ => bnd (f x μ) fun ys μ => if watch w μ then bnd (lcLoop w f xs μ) fun zs μ => some (ys ++ zs, μ) else none
def dcLoop (w : Wt) (f : D → Sto → Option (Option (Key × D) × Sto)) : List D → List (Key × D) → Sto → Option (List (Key × D) × Sto)
  | [], acc, μ => some (acc, μ)
  | x :: xs, acc, μ => bnd (f x μ) fun o μ => if watch w μ then match o with
    | some kv => if acc.length < sizeLine then dcLoop w f xs (putKD acc kv.1 kv.2) μ else none
    | none => dcLoop w f xs acc μ else none
def optI (o : Option (D × Sto)) (k : Option Int → Sto → Option (D × Sto)) : Option (D × Sto) := match o with
  | some (.int i, μ) => k (some i) μ
  | _ => none
def freezeD (n : Nat) (μ : Sto) : Option (D × Sto) := match μ[n]? with
  | some (.lst ds) => some (.lst ds, μ.set n .dead)
  | some (.ins C fs) => some (.obj C fs, μ.set n .dead)
  | _ => none
/-- the store down to its first n cells, where nothing speaks of the others -/
def cutOk (n : Nat) : Cel → Bool
  | .lst ds => D.under.D.unders n ds
  | .dct kvs => kvs.all fun kv => D.under n kv.2
  | .ins _ fs => D.under.D.underF n fs
  | .dead => true

mutual
def ev (Γ : Pr) : E → Rho → Sto → Option (D × Sto)
  | .v i, ρ, μ => match ρ[i]? with | some (some d) => some (d, μ) | _ => none
  | .c d, _, μ => some (d, μ)
  | .g x, _, μ => (Γ.gv x).map fun d => (d, μ)
  | .bin o a b, ρ, μ => bnd (ev Γ a ρ μ) fun x μ => bnd (ev Γ b ρ μ) fun y μ => (op2 o x y).map fun z => (z, μ)
  | .neg a, ρ, μ => bnd (ev Γ a ρ μ) fun x μ => match x with | .int i => some (.int (-i), μ) | _ => none
  | .cmp o a b, ρ, μ => bnd (ev Γ a ρ μ) fun x μ => bnd (ev Γ b ρ μ) fun y μ => (cmpD Γ o x y μ).map fun p => (.bl p.1, p.2)
  | .chn o o' a b c, ρ, μ => bnd (ev Γ a ρ μ) fun x μ => bnd (ev Γ b ρ μ) fun y μ => bnd (cmpD Γ o x y μ) fun k μ =>
      if k then bnd (ev Γ c ρ μ) fun z μ => (cmpD Γ o' y z μ).map fun p => (.bl p.1, p.2) else some (.bl false, μ)
  | .and a b, ρ, μ => bnd (ev Γ a ρ μ) fun x μ => match truth x μ with
    | some true => ev Γ b ρ μ
    | some false => some (x, μ)
    | none => none
  | .or a b, ρ, μ => bnd (ev Γ a ρ μ) fun x μ => match truth x μ with
    | some true => some (x, μ)
    | some false => ev Γ b ρ μ
    | none => none
  | .not a, ρ, μ => bnd (ev Γ a ρ μ) fun x μ => (truth x μ).map fun b => (.bl (!b), μ)
  | .ife c a b, ρ, μ => bnd (evT Γ c ρ μ) fun k μ => if k then ev Γ a ρ μ else ev Γ b ρ μ
  | .tup as, ρ, μ => bnd (evs Γ as ρ μ) fun ds μ => if ds.length ≤ sizeLine then some (.tup ds, μ) else none
  | .lst m as, ρ, μ => bnd (evs Γ as ρ μ) fun ds μ => alloc m ds μ
  | .cat m a b, ρ, μ => bnd (ev Γ a ρ μ) fun x μ => bnd (ev Γ b ρ μ) fun y μ => (lstOf x μ).bind fun ds => (lstOf y μ).bind fun es => alloc m (ds ++ es) μ
  | .rep m a b, ρ, μ => bnd (ev Γ a ρ μ) fun x μ => bnd (ev Γ b ρ μ) fun y μ => (lstOf x μ).bind fun ds => match y with
    | .int k => if -(2 ^ 63) ≤ k ∧ k < 2 ^ 63 then alloc m (List.replicate k.toNat ds).flatten μ else none
    | _ => none
  | .ix a b, ρ, μ => bnd (ev Γ a ρ μ) fun x μ => bnd (ev Γ b ρ μ) fun y μ => (ixD x y μ).map fun d => (d, μ)
  | .sl m a lo hi, ρ, μ => bnd (ev Γ a ρ μ) fun x μ => bnd (evP Γ lo ρ μ) fun l μ => bnd (evP Γ hi ρ μ) fun h μ => slD m x l h μ
  | .rev m a, ρ, μ => bnd (ev Γ a ρ μ) fun x μ => (listed x μ).bind fun ds => alloc m ds.reverse μ
  | .fld a f, ρ, μ => bnd (ev Γ a ρ μ) fun x μ => (fldD Γ x f μ).map fun d => (d, μ)
  | .call f as, ρ, μ => bnd (evs Γ as ρ μ) fun ds μ => Γ.call f ds μ
  | .meth a f as, ρ, μ => bnd (ev Γ a ρ μ) fun x μ => (recv x f μ).bind fun C => bnd (evs Γ as ρ μ) fun ds μ => Γ.meth C f (x :: ds) μ
  | .make fr C as, ρ, μ => bnd (evs Γ as ρ μ) fun ds μ => bnd (Γ.meth C "__init__" (.cell μ.length :: ds) (μ ++ [.ins C []])) fun r μ' =>
      if isNon r then (if fr then freezeD μ.length μ' else some (.cell μ.length, μ')) else none
  | .bi b m as, ρ, μ => bnd (evs Γ as ρ μ) fun ds μ => biD b m ds μ
  | .mt b a as, ρ, μ => bnd (ev Γ a ρ μ) fun x μ => if (listed x μ).isSome then bnd (evs Γ as ρ μ) fun ds μ => biD b false (x :: ds) μ else none
  | .isi a C, ρ, μ => bnd (ev Γ a ρ μ) fun x μ => (cls x μ).map fun C' => (.bl (decide (C' = C)), μ)
  | .lenO a, ρ, μ => bnd (ev Γ a ρ μ) fun x μ => (cls x μ).bind fun C => bnd (Γ.meth C "__len__" [x] μ) fun r μ => match r with | .int n => if 0 ≤ n ∧ n < 2 ^ 63 then some (.int n, μ) else none | _ => none
  | .frz a, ρ, μ => bnd (ev Γ a ρ μ) fun x μ => match x with | .cell n => freezeD n μ | _ => none
  | .lc m own tg it cs elt, ρ, μ => bnd (evI Γ it ρ μ) fun xs μ => bnd (lcLoop xs.2 (fun x μ => (bind Γ tg x (wipeD ρ own) μ).bind fun p =>
      bnd (evT Γ cs p.1 p.2) fun k μ => if k then bnd (ev Γ elt p.1 μ) fun y μ => some ([y], μ) else some ([], μ)) xs.1 μ) fun ds μ => alloc m ds μ
  | .lc2 m own tg it cs tg1 it1 cs1 elt, ρ, μ => bnd (evI Γ it ρ μ) fun xs μ => bnd (lcLoop xs.2 (fun x μ => (bind Γ tg x (wipeD ρ own) μ).bind fun p =>
      bnd (evT Γ cs p.1 p.2) fun k μ => if k then bnd (evI Γ it1 p.1 μ) fun ys μ => lcLoop ys.2 (fun y μ => (bind Γ tg1 y (wipeD p.1 tg1.sl) μ).bind fun q =>
        bnd (evT Γ cs1 q.1 q.2) fun k μ => if k then bnd (ev Γ elt q.1 μ) fun z μ => some ([z], μ) else some ([], μ)) ys.1 μ else some ([], μ)) xs.1 μ) fun ds μ => alloc m ds μ
  | .dc own tg it cs ke ve, ρ, μ => bnd (evI Γ it ρ μ) fun xs μ => bnd (dcLoop xs.2 (fun x μ => (bind Γ tg x (wipeD ρ own) μ).bind fun p =>
      bnd (evT Γ cs p.1 p.2) fun k μ => if k then bnd (ev Γ ke p.1 μ) fun y μ => bnd (ev Γ ve p.1 μ) fun z μ => (key y).map fun k => (some (k, z), μ) else some (none, μ)) xs.1 [] μ) fun kvs μ =>
        some (.cell μ.length, μ ++ [.dct kvs])
  | .dcs i j w f, ρ, μ => match ρ[i]?, ρ[j]? with
    | some (some x), some (some y) => match fldD Γ x f μ, fldD Γ y f μ with
      | some (.cell n), some (.cell m) => match μ[n]?, μ[m]? with
        | some (.dct kvs), some (.dct kws) => (sumK kws kvs).bind fun z => if kvs.length ≤ 1000 ∧ (kvs.map (·.1)).Nodup ∧ w < ρ.length then some (.cell μ.length, μ ++ [.dct z]) else none
        | _, _ => none
      | _, _ => none
    | _, _ => none
  | _, _, _ => none
def evs (Γ : Pr) : E → Rho → Sto → Option (List D × Sto)
  | .nil, _, μ => some ([], μ)
  | .cons a as, ρ, μ => bnd (ev Γ a ρ μ) fun x μ => bnd (evs Γ as ρ μ) fun xs μ => some (x :: xs, μ)
  | _, _, _ => none
def evP (Γ : Pr) : E → Rho → Sto → Option (Option Int × Sto)
  | .noP, _, μ => some (none, μ)
  | .cons a .nil, ρ, μ => bnd (ev Γ a ρ μ) fun x μ => match x with | .int i => some (some i, μ) | _ => none
  | _, _, _ => none
def evT (Γ : Pr) : E → Rho → Sto → Option (Bool × Sto)
  | .and a b, ρ, μ => bnd (evT Γ a ρ μ) fun k μ => if k then evT Γ b ρ μ else some (false, μ)
  | .or a b, ρ, μ => bnd (evT Γ a ρ μ) fun k μ => if k then some (true, μ) else evT Γ b ρ μ
  | .not a, ρ, μ => bnd (evT Γ a ρ μ) fun k μ => some (!k, μ)
  | .cmp o a b, ρ, μ => bnd (ev Γ a ρ μ) fun x μ => bnd (ev Γ b ρ μ) fun y μ => cmpD Γ o x y μ
  | .chn o o' a b c, ρ, μ => bnd (ev Γ a ρ μ) fun x μ => bnd (ev Γ b ρ μ) fun y μ => bnd (cmpD Γ o x y μ) fun k μ =>
      if k then bnd (ev Γ c ρ μ) fun z μ => cmpD Γ o' y z μ else some (false, μ)
  | .nil, _, μ => some (true, μ)
  | .cons a as, ρ, μ => bnd (ev Γ a ρ μ) fun x μ => (truth x μ).map fun k => (k, μ)
  | _, _, _ => none
def evI (Γ : Pr) : E → Rho → Sto → Option ((List D × Wt) × Sto)
  | .cons a .nil, ρ, μ => bnd (ev Γ a ρ μ) fun x μ => match x with
    | .tup ds => some ((ds, none), μ)
    | .lst ds => some ((ds, none), μ)
    | .scr is => some ((is.map D.int, none), μ)
    | .cell n => match μ[n]? with | some (.lst ds) => some ((ds, some (n, ds)), μ) | _ => none
    | _ => none
  | .rng lo hi, ρ, μ => bnd (ev Γ lo ρ μ) fun x μ => bnd (ev Γ hi ρ μ) fun y μ => match x, y with
    | .int i, .int j => if -(2 ^ 62) ≤ i ∧ i < 2 ^ 62 ∧ -(2 ^ 62) ≤ j ∧ j < 2 ^ 62 then some (((List.range (j - i).toNat).map fun (k : Nat) => D.int (i + (k : Int)), none), μ) else none
    | _, _ => none
  | .zip2 a b, ρ, μ => bnd (ev Γ a ρ μ) fun x μ => bnd (ev Γ b ρ μ) fun y μ => match x, y with
    | .lst ds, .lst es => some (((ds.zip es).map fun p => D.tup [p.1, p.2], none), μ)
    | .tup ds, .cell n => match μ[n]? with | some (.lst es) => some (((ds.zip es).map fun p => D.tup [p.1, p.2], some (n, es)), μ) | _ => none
    | _, _ => none
  | .zip3 a b c, ρ, μ => bnd (ev Γ a ρ μ) fun x μ => bnd (ev Γ b ρ μ) fun y μ => bnd (ev Γ c ρ μ) fun z μ => match x, y, z with
    | .lst ds, .lst es, .lst fs => some (((ds.zip (es.zip fs)).map fun p => D.tup [p.1, p.2.1, p.2.2], none), μ)
    | _, _, _ => none
  | .enm a, ρ, μ => bnd (ev Γ a ρ μ) fun x μ => match x with
    | .lst ds => some ((((List.range ds.length).zip ds).map fun p => D.tup [.int (p.1 : Int), p.2], none), μ)
    | _ => none
  | _, _, _ => none
end
end DP

/-! The language: statements, defs, runs. -/
namespace DP
open PySem PySem.Spec L2

inductive S where
  | set (t : Tg) (e : E) | fld (o : E) (f : Str) (e : E) | setIx (o i e : E) | setSl (o e : E)
  | augN (i : Nat) (o : Op2) (e : E) | augIx (o i : E) (op : Op2) (e : E)
  | ex (e : E) | ret (e : E) | retN | ife (c : E) (a b : S)
  | for_ (sc : Bool) (t : Tg) (it : E) (b : S) | whl (c : E) (b : S)
  | nil | seq (a b : S) | pass | brk | cont | never
/-- what x op= y leaves -/
def augOp : Op2 → D → D → Option D
  | .add, .int i, .int j => some (.int (i + j))
  | .sub, .int i, .int j => some (.int (i - j))
  | .mod, .int i, .int j => if j ≠ 0 then some (.int (i.fmod j)) else none
  | _, _, _ => none
inductive Flw where | next | brk | cont | ret (d : D)
abbrev Fr := Option (Flw × Rho × Sto)

def cut (n : Nat) (ρ : Rho) (μ : Sto) : Option (Rho × Sto) :=
  if (μ.take n).all (cutOk n) then some (ρ.map fun o => match o with | some d => if D.under n d then some d else none | none => none, μ.take n) else none
def forL (sc : Bool) (n : Nat) (w : Wt) (f : D → Rho → Sto → Fr) : List D → Rho → Sto → Fr
  | [], ρ, μ => some (.next, ρ, μ)
  | x :: xs, ρ, μ => match f x ρ μ with
    | some (.next, ρ, μ) => if watch w μ then (if sc then (cut n ρ μ).bind fun p => forL sc n w f xs p.1 p.2 else forL sc n w f xs ρ μ) else none
    | some (.cont, ρ, μ) => if watch w μ then (if sc then (cut n ρ μ).bind fun p => forL sc n w f xs p.1 p.2 else forL sc n w f xs ρ μ) else none
    | some (.brk, ρ, μ) => some (.next, ρ, μ)
    | some (.ret d, ρ, μ) => some (.ret d, ρ, μ)
    | none => none
def whileL (c : Rho → Sto → Option (Bool × Sto)) (b : Rho → Sto → Fr) : Nat → Rho → Sto → Fr
  | 0, _, _ => none
  | n + 1, ρ, μ => match c ρ μ with
    | some (true, μ) => match b ρ μ with
      | some (.next, ρ, μ) => whileL c b n ρ μ
      | some (.cont, ρ, μ) => whileL c b n ρ μ
      | some (.brk, ρ, μ) => some (.next, ρ, μ)
      | some (.ret d, ρ, μ) => some (.ret d, ρ, μ)
      | none => none
    | some (false, μ) => some (.next, ρ, μ)
    | none => none
def setIxD (o i v : D) (μ : Sto) : Option Sto := match o with
  | .cell n => match μ[n]? with
    | some (.lst ds) => match i with | .int k => (ixN ds.length k).map fun j => μ.set n (.lst (ds.set j v)) | _ => none
    | some (.dct kvs) => (key i).bind fun k => if kvs.length < sizeLine then some (μ.set n (.dct (putKD kvs k v))) else none
    | _ => none
  | _ => none
def evS (Γ : Pr) : S → Rho → Sto → Fr
  | .set t e, ρ, μ => bnd (ev Γ e ρ μ) fun x μ => (bind Γ t x ρ μ).map fun p => (.next, p.1, p.2)
  | .fld o f e, ρ, μ => bnd (ev Γ e ρ μ) fun y μ => bnd (ev Γ o ρ μ) fun x μ => match x with
    | .cell n => match μ[n]? with
      | some (.ins C fs) => if f ∈ Γ.att C ∧ fs.length < 40 then some (.next, ρ, μ.set n (.ins C (storeLeaf.putF' f y fs))) else none
      | _ => none
    | _ => none
  | .setIx o i e, ρ, μ => bnd (ev Γ e ρ μ) fun v μ => bnd (ev Γ o ρ μ) fun x μ => bnd (ev Γ i ρ μ) fun y μ => (setIxD x y v μ).map fun μ => (.next, ρ, μ)
  | .setSl o e, ρ, μ => bnd (ev Γ e ρ μ) fun v μ => bnd (ev Γ o ρ μ) fun x μ => match x, v with
    | .cell n, .lst ds => match μ[n]? with
      | some (.lst es) => if es.length + ds.length ≤ sizeLine then some (.next, ρ, μ.set n (.lst ds)) else none
      | _ => none
    | _, _ => none
  | .augN i o e, ρ, μ => match ρ[i]? with
    | some (some x) => bnd (ev Γ e ρ μ) fun y μ => (augOp o x y).map fun z => (.next, ρ.set i (some z), μ)
    | _ => none
  | .augIx o i op e, ρ, μ => bnd (ev Γ o ρ μ) fun x μ => bnd (ev Γ i ρ μ) fun y μ => (ixD x y μ).bind fun old => bnd (ev Γ e ρ μ) fun v μ => (augOp op old v).bind fun z => (setIxD x y z μ).map fun μ => (.next, ρ, μ)
  | .ex e, ρ, μ => bnd (ev Γ e ρ μ) fun _ μ => some (.next, ρ, μ)
  | .ret e, ρ, μ => bnd (ev Γ e ρ μ) fun x μ => some (.ret x, ρ, μ)
  | .retN, ρ, μ => some (.ret .non, ρ, μ)
  | .ife c a b, ρ, μ => bnd (evT Γ c ρ μ) fun k μ => if k then evS Γ a ρ μ else evS Γ b ρ μ
  | .for_ sc t it b, ρ, μ => bnd (evI Γ it ρ μ) fun xs μ => forL sc μ.length xs.2 (fun x ρ μ => (bind Γ t x ρ μ).bind fun p => evS Γ b p.1 p.2) xs.1 ρ μ
  | .whl c b, ρ, μ => whileL (evT Γ c) (evS Γ b) Γ.wf ρ μ
  | .nil, ρ, μ => some (.next, ρ, μ)
  | .seq a b, ρ, μ => match evS Γ a ρ μ with
    | some (.next, ρ, μ) => evS Γ b ρ μ
    | r => r
  | .pass, ρ, μ => some (.next, ρ, μ)
  | .brk, ρ, μ => some (.brk, ρ, μ)
  | .cont, ρ, μ => some (.cont, ρ, μ)
  | .never, _, _ => none
structure Def where
  np : Nat
  n : Nat
  own : Bool
  body : S
def finD (sc : Bool) (n : Nat) (r : D) (μ : Sto) : Option (D × Sto) :=
  if sc then (if D.under n r && (μ.take n).all (cutOk n) then some (r, μ.take n) else none) else some (r, μ)
def runDef (Γ : Pr) (d : Def) (as : List D) (μ : Sto) : Option (D × Sto) :=
  if as.length = d.np then
    match evS Γ d.body (as.map some ++ List.replicate (d.n - d.np) none) μ with
    | some (.ret r, _, μ') => finD d.own μ.length r μ'
    | some (.next, _, μ') => finD d.own μ.length .non μ'
    | _ => none
  else none
/-- a whole program: defs by name, methods by their name and their class's, constants, attributes' names -/
structure Prog where
  defs : Str → Option Def
  mets : Str → List (Str × Def)
  gv : Str → Option D
  att : Str → List Str
def Prog.go (G : Prog) (wf : Nat) : Nat → (Str → List D → Sto → Option (D × Sto)) × (Str → Str → List D → Sto → Option (D × Sto))
  | 0 => (fun _ _ _ => none, fun _ _ _ _ => none)
  | k + 1 => (fun f as μ => match G.defs f with | some d => runDef ⟨wf, G.gv, G.att, (G.go wf k).1, (G.go wf k).2⟩ d as μ | none => none,
      fun C m as μ => match (G.mets m).lookup C with | some d => runDef ⟨wf, G.gv, G.att, (G.go wf k).1, (G.go wf k).2⟩ d as μ | none => none)
def Prog.pr (G : Prog) (wf k : Nat) : Pr := ⟨wf, G.gv, G.att, (G.go wf k).1, (G.go wf k).2⟩
end DP

/-! From the meaning to the layer: judgements and the rules of expressions. -/
namespace DP
open PySem PySem.Spec L2

theorem _root_.L2.PE.mono {X : Cx} {e : Expr} {t t' : TE} (h : PE X e t) (w : ∀ σ H Q, t' σ H Q → t σ H Q) : PE X e t' := ⟨fun pins s σ H Q I q => h.run pins s σ H Q I (w σ H Q q)⟩
theorem _root_.L2.PT.mono {X : Cx} {e : Expr} {t t' : TT} (h : PT X e t) (w : ∀ σ H Q, t' σ H Q → t σ H Q) : PT X e t' := ⟨fun pins s σ H Q I q => h.run pins s σ H Q I (w σ H Q q)⟩
theorem _root_.L2.PW.mono {X : Cx} {e : Expr} {t t' : TT} (h : PW X e t) (w : ∀ σ H Q, t' σ H Q → t σ H Q) : PW X e t' := ⟨fun wh pins s σ H Q I q => h.run wh pins s σ H Q I (w σ H Q q)⟩
theorem _root_.L2.PA.mono {X : Cx} {es : List Expr} {t t' : TA} (h : PA X es t) (w : ∀ σ H Q, t' σ H Q → t σ H Q) : PA X es t' := ⟨fun pos pins s σ H Q I q => h.run pos pins s σ H Q I (w σ H Q q)⟩
theorem _root_.L2.PK.mono {X : Cx} {es : List Keyword} {t t' : TA} (h : PK X es t) (w : ∀ σ H Q, t' σ H Q → t σ H Q) : PK X es t' := ⟨fun pos pins s σ H Q I q => h.run pos pins s σ H Q I (w σ H Q q)⟩
theorem _root_.L2.PS.mono {X : Cx} {st : Stmt} {t t' : TS} (h : PS X st t) (w : ∀ D σ H, t' D σ H → t D σ H) : PS X st t' := ⟨fun pins s σ H D I q => h.run pins s σ H D I (w D σ H q)⟩
theorem _root_.L2.PSs.mono {X : Cx} {st : List Stmt} {t t' : TS} (h : PSs X st t) (w : ∀ D σ H, t' D σ H → t D σ H) : PSs X st t' := ⟨fun pins s σ H D I q => h.run pins s σ H D I (w D σ H q)⟩
theorem _root_.L2.PG.mono {X : Cx} {e : Expr} {t t' : TG} (h : PG X e t) (w : ∀ v σ H Q, t' v σ H Q → t v σ H Q) : PG X e t' := ⟨fun pins s σ H v u Q I r q => h.run pins s σ H v u Q I r (w v σ H Q q)⟩
theorem _root_.L2.PGs.mono {X : Cx} {e : List Expr} {t t' : TGs} (h : PGs X e t) (w : ∀ v σ H Q, t' v σ H Q → t v σ H Q) : PGs X e t' := ⟨fun pins s σ H v u Q I r q => h.run pins s σ H v u Q I r (w v σ H Q q)⟩
theorem _root_.L2.PI.mono {X : Cx} {tg e : Expr} {t t' : TI} (h : PI X tg e t) (w : ∀ σ H R, t' σ H R → t σ H R) : PI X tg e t' := ⟨fun pins s σ H R I q => h.run pins s σ H R I (w σ H R q)⟩
theorem _root_.L2.PO.mono {X : Cx} {e : Option Expr} {t t' : TO} (h : PO X e t) (w : ∀ σ H Q, t' σ H Q → t σ H Q) : PO X e t' := ⟨fun pins s σ H Q I q => h.run pins s σ H Q I (w σ H Q q)⟩
theorem _root_.L2.PTs.mono {X : Cx} {e : List Expr} {t t' : TT} (h : PTs X e t) (w : ∀ σ H Q, t' σ H Q → t σ H Q) : PTs X e t' := ⟨fun pins s σ H Q I q => h.run pins s σ H Q I (w σ H Q q)⟩

section
variable (K : PySem.W.Frag) (ca : Str → Option Addr)
/-- what goes on with a value that stands for d, the store being μ' -/
def Kon (α : List Addr) (F : Hp) (d : D) (μ' : Sto) (Q : VK) : Prop := ∀ v α' F' H', Ext α F α' F' → Sim K ca α' F' μ' H' → Rep K ca α' F' v d → Q v H'
def tD (ρ : Rho) (μ : Sto) (d : D) (μ' : Sto) : TE := fun σ H Q => ∃ α F, Sim K ca α F μ H ∧ RE K ca α F σ ρ ∧ Kon K ca α F d μ' Q
def tDs (ρ : Rho) (μ : Sto) (ds : List D) (μ' : Sto) : TA := fun σ H Q => ∃ α F, Sim K ca α F μ H ∧ RE K ca α F σ ρ ∧ ∀ vs α' F' H', Ext α F α' F' → Sim K ca α' F' μ' H' → Reps K ca α' F' vs ds → Q vs H'
def tDT (ρ : Rho) (μ : Sto) (b : Bool) (μ' : Sto) : TT := fun σ H Q => ∃ α F, Sim K ca α F μ H ∧ RE K ca α F σ ρ ∧ ∀ α' F' H', Ext α F α' F' → Sim K ca α' F' μ' H' → Q b H'
def tDP (ρ : Rho) (μ : Sto) (o : Option Int) (μ' : Sto) : TO := fun σ H Q => ∃ α F, Sim K ca α F μ H ∧ RE K ca α F σ ρ ∧ ∀ α' F' H', Ext α F α' F' → Sim K ca α' F' μ' H' → Q o H'
end
/-- what a context must be -/
structure Good (ca : Str → Option Addr) (k : Nat) (X : Cx) : Prop where
  calm : X.calm = true
  room : Room k X.A
  nd : X.N.Nodup
theorem Good.blk {ca k X} (G : Good ca k X) {s H scope cenv fp} : Good ca k (X.blk s H scope cenv fp) := ⟨G.calm, G.room, G.nd⟩

def PEd (ca : Str → Option Addr) (Γ : Pr) (X : Cx) (e : Expr) (E : E) : Prop := ∀ ρ μ d μ', ev Γ E ρ μ = some (d, μ') → PE X e (tD X.K ca ρ μ d μ')
def PAd (ca : Str → Option Addr) (Γ : Pr) (X : Cx) (es : List Expr) (E : E) : Prop := ∀ ρ μ ds μ', evs Γ E ρ μ = some (ds, μ') → PA X es (tDs X.K ca ρ μ ds μ')
def PKd (ca : Str → Option Addr) (Γ : Pr) (X : Cx) (es : List Keyword) (E : E) : Prop := ∀ ρ μ ds μ', evs Γ E ρ μ = some (ds, μ') → PK X es (tDs X.K ca ρ μ ds μ')
def PTd (ca : Str → Option Addr) (Γ : Pr) (X : Cx) (e : Expr) (E : E) : Prop := ∀ ρ μ b μ', evT Γ E ρ μ = some (b, μ') → PT X e (tDT X.K ca ρ μ b μ')
def PWd (ca : Str → Option Addr) (Γ : Pr) (X : Cx) (e : Expr) (E : E) : Prop := ∀ ρ μ b μ', evT Γ E ρ μ = some (b, μ') → PW X e (tDT X.K ca ρ μ b μ')
def PTsd (ca : Str → Option Addr) (Γ : Pr) (X : Cx) (es : List Expr) (E : E) : Prop := ∀ ρ μ b μ', evT Γ E ρ μ = some (b, μ') → PTs X es (tDT X.K ca ρ μ b μ')
def POd (ca : Str → Option Addr) (Γ : Pr) (X : Cx) (e : Option Expr) (E : E) : Prop := ∀ ρ μ o μ', evP Γ E ρ μ = some (o, μ') → PO X e (tDP X.K ca ρ μ o μ')

section
variable {K : PySem.W.Frag} {ca : Str → Option Addr} {α α' : List Addr} {F F' H : Hp} {μ μ' : Sto} {d : D} {Q : VK}
theorem Kon.ext {α' F'} (k : Kon K ca α F d μ' Q) (x : Ext α F α' F') : Kon K ca α' F' d μ' Q := fun v α2 F2 H2 x2 s2 r2 => k v α2 F2 H2 (x.trans x2) s2 r2
theorem Kon.now (k : Kon K ca α F d μ Q) (s : Sim K ca α F μ H) {v : V} (r : Rep K ca α F v d) : Q v H := k v α F H (Ext.refl _ _) s r
/-- an operator by values, and what it tells of data -/
def OpS (K : PySem.W.Frag) (ca : Str → Option Addr) (r : R2) (f : D → D → Sto → Option (D × Sto)) : Prop :=
  ∀ x y μ z μ', f x y μ = some (z, μ') → ∀ α F H v w Q, Sim K ca α F μ H → Rep K ca α F v x → Rep K ca α F w y → Kon K ca α F z μ' Q → r v w H Q
theorem op_comb {r : R2} {ρ : Rho} {μ μ1 μ2 μ3 : Sto} {x y z : D}
    (h : ∀ α F H v w Q, Sim K ca α F μ2 H → Rep K ca α F v x → Rep K ca α F w y → Kon K ca α F z μ3 Q → r v w H Q) :
    ∀ σ H Q, tD K ca ρ μ z μ3 σ H Q → tOp r (tD K ca ρ μ x μ1) (tD K ca ρ μ1 y μ2) σ H Q := fun σ H Q ⟨α, F, s, re, k⟩ =>
  ⟨α, F, s, re, fun v α1 F1 H1 x1 s1 r1 => ⟨α1, F1, s1, re.mono x1, fun w α2 F2 H2 x2 s2 r2 => h α2 F2 H2 v w Q s2 (r1.mono x2) r2 (k.ext (x1.trans x2))⟩⟩
/-- a step on a value -/
theorem un_comb {r : V → Hp → VK → Prop} {ρ : Rho} {μ μ1 μ3 : Sto} {x z : D}
    (h : ∀ α F H v Q, Sim K ca α F μ1 H → Rep K ca α F v x → Kon K ca α F z μ3 Q → r v H Q) :
    ∀ σ H Q, tD K ca ρ μ z μ3 σ H Q → tD K ca ρ μ x μ1 σ H (fun v H1 => r v H1 Q) := fun σ H Q ⟨α, F, s, re, k⟩ =>
  ⟨α, F, s, re, fun v α1 F1 H1 x1 s1 r1 => h α1 F1 H1 v Q s1 r1 (k.ext x1)⟩
/-- a new tuple -/
theorem new_tup {vs : List V} {ds : List D} (s : Sim K ca α F μ H) (r : Reps K ca α F vs ds) (k : Kon K ca α F (.tup ds) μ Q) {p : Addr} (hp : H p = none) : Q (.ref p) (upd H p (.tup vs)) := by
  obtain ⟨s', x⟩ := s.laid (o := .tup vs) hp
  refine k _ _ _ _ x s' (.tup (SqT.of upd_same) r.1 fun i v d h1 h2 => (r.2 i v d h1 h2).mono x)
/-- a new list, a frozen one or a cell -/
theorem new_lst {m : Bool} {vs : List V} {ds : List D} (s : Sim K ca α F μ H) (r : Reps K ca α F vs ds) (h : alloc m ds μ = some (d, μ')) (k : Kon K ca α F d μ' Q) {p : Addr} (hp : H p = none) : Q (.ref p) (upd H p (.lst vs)) := by
  unfold alloc at h
  split at h
  · cases m with
    | true =>
      simp only [if_true, Option.some.injEq, Prod.mk.injEq] at h
      obtain ⟨rfl, rfl⟩ := h
      have x0 : Ext α F (α ++ [p]) F := ⟨⟨[p], rfl⟩, fun _ _ q => q⟩
      obtain ⟨s', x, e⟩ := s.cellNew (o := .lst vs) (c := .lst ds) hp ⟨vs, upd_same, r.mono x0⟩
      exact k _ _ _ _ x s' (.cell e)
    | false =>
      simp only [if_false, Option.some.injEq, Prod.mk.injEq, Bool.false_eq_true] at h
      obtain ⟨rfl, rfl⟩ := h
      obtain ⟨s', x⟩ := s.laid (o := .lst vs) hp
      exact k _ _ _ _ x s' (.lst upd_same r.1 fun i v d h1 h2 => (r.2 i v d h1 h2).mono x)
  · cases h
theorem alloc_len {m : Bool} {ds : List D} (h : alloc m ds μ = some (d, μ')) : ds.length ≤ sizeLine := by
  unfold alloc at h
  split at h
  · assumption
  · cases h
theorem reps_ints {K : PySem.W.Frag} {ca α F} : ∀ is : List Int, Reps K ca α F (is.map V.int) (is.map D.int)
  | [] => .nil
  | i :: is => .cons (.int i) (reps_ints is)
/-- what may be read as a list -/
theorem listed_read {ds : List D} {v : V} (s : Sim K ca α F μ H) (r : Rep K ca α F v d) (h : listed d μ = some ds) : ∃ a vs, v = .ref a ∧ SqL K H a vs ∧ Reps K ca α F vs ds := by
  cases r with
  | lst h1 h2 h3 => simp [listed] at h; subst h; exact ⟨_, _, rfl, SqL.of (s.sub _ _ h1), h2, h3⟩
  | scr h1 => simp [listed] at h; subst h; exact ⟨_, _, rfl, seqL_un s.sub h1, reps_ints _⟩
  | @cell a n h1 =>
    simp only [listed] at h
    split at h
    · rename_i ds' e
      cases h
      obtain ⟨vs, q1, q2⟩ := s.cel _ _ _ e h1
      exact ⟨_, vs, rfl, SqL.of q1, q2⟩
    · cases h
  | _ => simp [listed] at h
theorem lst_read {ds : List D} {v : V} (s : Sim K ca α F μ H) (r : Rep K ca α F v d) (h : lstOf d μ = some ds) : ∃ a vs, v = .ref a ∧ H a = some (.lst vs) ∧ Reps K ca α F vs ds := by
  cases r with
  | lst h1 h2 h3 => simp [lstOf] at h; subst h; exact ⟨_, _, rfl, s.sub _ _ h1, h2, h3⟩
  | @cell a n h1 =>
    simp only [lstOf] at h
    split at h
    · rename_i ds' e
      cases h
      obtain ⟨vs, q1, q2⟩ := s.cel _ _ _ e h1
      exact ⟨_, vs, rfl, q1, q2⟩
    · cases h
  | _ => simp [lstOf] at h
theorem items_read {ds : List D} {v : V} (s : Sim K ca α F μ H) (r : Rep K ca α F v d) (h : items d μ = some ds) : ∃ a vs, v = .ref a ∧ (SqL K H a vs ∨ SqT K H a vs) ∧ Reps K ca α F vs ds := by
  cases r with
  | lst h1 h2 h3 => simp [items] at h; subst h; exact ⟨_, _, rfl, .inl (SqL.of (s.sub _ _ h1)), h2, h3⟩
  | scr h1 => simp [items] at h; subst h; exact ⟨_, _, rfl, .inl (seqL_un s.sub h1), reps_ints _⟩
  | tup h1 h2 h3 => simp [items] at h; subst h; exact ⟨_, _, rfl, .inr (seqT_un s.sub h1), h2, h3⟩
  | @cell a n h1 =>
    simp only [items] at h
    split at h
    · rename_i ds' e
      cases h
      obtain ⟨vs, q1, q2⟩ := s.cel _ _ _ e h1
      exact ⟨_, vs, rfl, .inl (SqL.of q1), q2⟩
    · cases h
  | _ => simp [items] at h
end

section
variable {ca : Str → Option Addr} {Γ : Pr} {X : Cx} {a b c : Expr} {A B C : E} {pos p : Pos}
/-! ### names and constants -/
theorem pd_v (i : Nat) {x : Str} {pos : Pos} (hN : X.N[i]? = some x := by rfl) (hv : Vis X.env.scope x := by first | exact Or.inl rfl | exact Or.inr (Or.inl rfl) | exact Or.inr (Or.inr rfl)) (hd : (x == ("__debug__" : Str)) = false := by decide)
    (hcd : (x == ("__classdict__" : Str)) = false := by decide) : PEd ca Γ X (.Name x pos) (.v i) := by
  intro ρ μ d μ' h
  refine (pe_var (i := i) hN hv hd hcd).mono fun σ H Q ⟨α, F, s, re, k⟩ => ?_
  simp only [ev] at h
  split at h
  · rename_i d' e
    simp only [Option.some.injEq, Prod.mk.injEq] at h
    obtain ⟨rfl, rfl⟩ := h
    obtain ⟨v, h1, h2⟩ := re.2 i _ e
    exact ⟨v, h1, k.now s h2⟩
  · cases h
theorem pd_c {d : D} {v : V} (h : PE X a (tC v)) (r : ∀ α F, Rep X.K ca α F v d) : PEd ca Γ X a (.c d) := by
  intro ρ μ d' μ' e
  simp only [ev, Option.some.injEq, Prod.mk.injEq] at e
  obtain ⟨rfl, rfl⟩ := e
  exact h.mono fun σ H Q ⟨α, F, s, re, k⟩ => k.now s (r α F)
theorem pd_int {i : Int} {j pos} : PEd ca Γ X (.Constant (.int i) j pos) (.c (.int i)) := pd_c pe_int fun _ _ => .int i
theorem pd_str {x : Str} {j pos} : PEd ca Γ X (.Constant (.str x) j pos) (.c (.str x)) := pd_c pe_str fun _ _ => .str x
theorem pd_bl {x : Bool} {j pos} : PEd ca Γ X (.Constant (.bool x) j pos) (.c (.bl x)) := pd_c pe_bl fun _ _ => .bl x
theorem pd_non {j pos} : PEd ca Γ X (.Constant .none j pos) (.c .non) := pd_c pe_non fun _ _ => .non
theorem pd_g {x : Str} {pos : Pos} {d : D} {v : V} {u : Value} (hg : Gl X x) (hm : X.mg x = some u) (hr : RelV v u) (hd : Γ.gv x = some d) (r : ∀ α F, Rep X.K ca α F v d) (hdb : (x == ("__debug__" : Str)) = false := by decide) : PEd ca Γ X (.Name x pos) (.g x) := by
  intro ρ μ d' μ' e
  simp only [ev, hd, Option.map_some, Option.some.injEq, Prod.mk.injEq] at e
  obtain ⟨rfl, rfl⟩ := e
  exact (pe_glob hg hm hr hdb).mono fun σ H Q ⟨α, F, s, re, k⟩ => k.now s (r α F)
/-! ### operators -/
theorem bin_of {op : Operator} {o : Op2} {r : R2} (ho : OpR X (binaryOp op) r) (hs : OpS X.K ca r (fun x y μ => (op2 o x y).map fun z => (z, μ))) (ha : PEd ca Γ X a A) (hb : PEd ca Γ X b B) : PEd ca Γ X (.BinOp a op b pos) (.bin o A B) := by
  intro ρ μ d μ' h
  obtain ⟨x, μ1, e1, h⟩ := bnd_eq h
  obtain ⟨y, μ2, e2, h⟩ := bnd_eq h
  exact (pe_op ho (ha _ _ _ _ e1) (hb _ _ _ _ e2)).mono (op_comb fun α F H v w Q s r1 r2 k => hs x y μ2 d μ' h α F H v w Q s r1 r2 k)
theorem op2_some {o : Op2} {x y z : D} {μ μ' : Sto} (h : (op2 o x y).map (fun z => (z, μ)) = some (z, μ')) : op2 o x y = some z ∧ μ' = μ := by
  cases e : op2 o x y with
  | none => rw [e] at h; cases h
  | some u => rw [e] at h; cases h; exact ⟨rfl, rfl⟩
theorem opS_add : OpS X.K ca (fun x y H Q => (rI0 (fun i j => .int (i + j)) x y H Q ∨ (∃ i j, x = .str i ∧ y = .str j ∧ i.length + j.length ≤ sizeLine ∧ Q (.str (i ++ j)) H)) ∨ rCatA X.K x y H Q) (fun x y μ => (op2 .add x y).map fun z => (z, μ)) := by
  intro x y μ z μ' h α F H v w Q s r1 r2 k
  obtain ⟨h', rfl⟩ := op2_some h
  clear h
  have h := h'
  clear h'
  cases r1 with
  | int i => cases r2 with
    | int j => simp only [op2, Option.some.injEq] at h; subst h; exact .inl (.inl ⟨i, j, rfl, rfl, k.now s (.int _)⟩)
    | _ => simp [op2] at h
  | str i => cases r2 with
    | str j =>
      simp only [op2] at h
      split at h
      · rename_i hl; cases h; exact .inl (.inr ⟨i, j, rfl, rfl, hl, k.now s (.str _)⟩)
      · cases h
    | _ => simp [op2] at h
  | @tup a vs ds q1 q2 q3 => cases r2 with
    | @tup b ws es p1 p2 p3 =>
      simp only [op2] at h
      split at h
      · rename_i hl; cases h
        refine .inr ⟨a, b, vs, ws, rfl, rfl, seqT_un s.sub q1, seqT_un s.sub p1, by rw [q2, p2]; exact hl, fun z => ?_, fun _ z => ?_, fun _ _ p hp => new_tup s (Reps.append ⟨q2, q3⟩ ⟨p2, p3⟩) k hp⟩
        · subst z
          have e : ds = [] := List.length_eq_zero_iff.mp q2.symm
          subst e
          exact k.now s (.tup p1 p2 p3)
        · subst z
          have e : es = [] := List.length_eq_zero_iff.mp p2.symm
          subst e
          rw [List.append_nil] at k
          exact k.now s (.tup q1 q2 q3)
      · cases h
    | _ => simp [op2] at h
  | _ => simp [op2] at h
theorem pd_bin_add (ha : PEd ca Γ X a A) (hb : PEd ca Γ X b B) : PEd ca Γ X (.BinOp a .Add b pos) (.bin .add A B) := bin_of ((op_add.or op_add_str).or op_catA) opS_add ha hb
theorem opS_I {C : Int → Int → Prop} {g : Int → Int → Int} {o : Op2} (h : ∀ x y z, op2 o x y = some z → ∃ i j, x = .int i ∧ y = .int j ∧ C i j ∧ z = .int (g i j)) : OpS X.K ca (rI C fun i j => .int (g i j)) (fun x y μ => (op2 o x y).map fun z => (z, μ)) := by
  intro x y μ z μ' e α F H v w Q s r1 r2 k
  obtain ⟨e', rfl⟩ := op2_some e
  obtain ⟨i, j, rfl, rfl, c, rfl⟩ := h x y z e'
  cases r1; cases r2
  exact ⟨i, j, rfl, rfl, c, k.now s (.int _)⟩
theorem op_subC : OpR X (binaryOp .Sub) (rI (fun _ _ => True) fun i j => .int (i - j)) := fun pins s σ H x y v u Q I rx ry h => by
  obtain ⟨i, j, e1, e2, _, q⟩ := h
  exact op_sub pins s σ H x y v u Q I rx ry ⟨i, j, e1, e2, q⟩
theorem pd_bin_sub (ha : PEd ca Γ X a A) (hb : PEd ca Γ X b B) : PEd ca Γ X (.BinOp a .Sub b pos) (.bin .sub A B) := bin_of op_subC (opS_I fun x y z e => by
  cases x <;> cases y <;> simp [op2] at e
  exact ⟨_, _, rfl, rfl, trivial, e.symm⟩) ha hb
theorem op_mulD : OpR X (binaryOp .Mult) (rI (fun i j => mulOk i j = true) fun i j => .int (i * j)) := fun pins s σ H x y v u Q I rx ry h => by
  obtain ⟨i, j, e1, e2, c, q⟩ := h
  simp only [mulOk, Bool.or_eq_true, decide_eq_true_eq] at c
  rcases c with (c | c) | c
  · exact op_mul pins s σ H x y v u Q I rx ry ⟨i, j, e1, e2, .inl c, q⟩
  · exact op_mul pins s σ H x y v u Q I rx ry ⟨i, j, e1, e2, .inr c, q⟩
  · exact op_mulW pins s σ H x y v u Q I rx ry ⟨i, j, e1, e2, c, q⟩
theorem pd_bin_mul (ha : PEd ca Γ X a A) (hb : PEd ca Γ X b B) : PEd ca Γ X (.BinOp a .Mult b pos) (.bin .mul A B) := bin_of op_mulD (opS_I fun x y z e => by
  cases x <;> cases y <;> simp [op2] at e
  exact ⟨_, _, rfl, rfl, e.1, e.2.symm⟩) ha hb
theorem op_fdivD : OpR X (binaryOp .FloorDiv) (rI (fun i j => divOk j = true) fun i j => .int (i.fdiv j)) := fun pins s σ H x y v u Q I rx ry h => by
  obtain ⟨i, j, e1, e2, c, q⟩ := h
  simp only [divOk, Bool.or_eq_true, decide_eq_true_eq] at c
  rcases c with c | c
  · exact op_fdivN pins s σ H x y v u Q I rx ry ⟨i, j, e1, e2, c, q⟩
  · refine op_fdivW pins s σ H x y v u Q I rx ry ⟨i, j, e1, e2, c, ?_⟩
    show Q (V.int (i / j)) H
    rw [← Int.fdiv_eq_ediv_of_nonneg i (Int.le_of_lt c.1)]
    exact q
theorem pd_bin_fdiv (ha : PEd ca Γ X a A) (hb : PEd ca Γ X b B) : PEd ca Γ X (.BinOp a .FloorDiv b pos) (.bin .fdiv A B) := bin_of op_fdivD (opS_I fun x y z e => by
  cases x <;> cases y <;> simp [op2] at e
  exact ⟨_, _, rfl, rfl, e.1, e.2.symm⟩) ha hb
theorem pd_bin_mod (ha : PEd ca Γ X a A) (hb : PEd ca Γ X b B) : PEd ca Γ X (.BinOp a .Mod b pos) (.bin .mod A B) := bin_of op_modN (opS_I fun x y z e => by
  cases x <;> cases y <;> simp [op2] at e
  exact ⟨_, _, rfl, rfl, e.1, e.2.symm⟩) ha hb
theorem pd_bin_pow (ha : PEd ca Γ X a A) (hb : PEd ca Γ X b B) : PEd ca Γ X (.BinOp a .Pow b pos) (.bin .pow A B) := bin_of op_pow (opS_I fun x y z e => by
  cases x <;> cases y <;> simp [op2] at e
  exact ⟨_, _, rfl, rfl, e.1, e.2.symm⟩) ha hb
theorem pd_neg (ha : PEd ca Γ X a A) : PEd ca Γ X (.UnaryOp .USub a pos) (.neg A) := by
  intro ρ μ d μ' h
  obtain ⟨x, μ1, e1, h⟩ := bnd_eq h
  refine (pe_un un_neg (ha _ _ _ _ e1)).mono (un_comb (r := rU fun i => .int (-i)) fun α F H v Q s r k => ?_)
  split at h
  · cases h; cases r; exact ⟨_, rfl, k.now s (.int _)⟩
  · cases h
/-! ### lists of expressions -/
theorem pl_nil : PAd ca Γ X [] .nil := by
  intro ρ μ ds μ' h
  simp only [evs, Option.some.injEq, Prod.mk.injEq] at h
  obtain ⟨rfl, rfl⟩ := h
  exact pa_nil.mono fun σ H Q ⟨α, F, s, re, k⟩ => k [] α F H (Ext.refl _ _) s .nil
theorem pl_cons {e : Expr} {es : List Expr} (ha : PEd ca Γ X e A) (hb : PAd ca Γ X es B) (hs : starEach (e :: es) X.env = (false, eval e X.env) :: starEach es X.env := by rfl) : PAd ca Γ X (e :: es) (.cons A B) := by
  intro ρ μ ds μ' h
  obtain ⟨x, μ1, e1, h⟩ := bnd_eq h
  obtain ⟨xs, μ2, e2, h⟩ := bnd_eq h
  simp only [Option.some.injEq, Prod.mk.injEq] at h
  obtain ⟨rfl, rfl⟩ := h
  exact (pa_cons (ha _ _ _ _ e1) (hb _ _ _ _ e2) hs).mono fun σ H Q ⟨α, F, s, re, k⟩ =>
    ⟨α, F, s, re, fun v α1 F1 H1 x1 s1 r1 => ⟨α1, F1, s1, re.mono x1, fun vs α2 F2 H2 x2 s2 r2 => k (v :: vs) α2 F2 H2 (x1.trans x2) s2 (.cons (r1.mono x2) r2)⟩⟩
theorem pd_tup {es : List Expr} {x1} (ha : PAd ca Γ X es A) : PEd ca Γ X (.Tuple es x1 pos) (.tup A) := by
  intro ρ μ d μ' h
  obtain ⟨ds, μ1, e1, h⟩ := bnd_eq h
  split at h
  · rename_i hl
    cases h
    exact (pe_tup (ha _ _ _ _ e1)).mono fun σ H Q ⟨α, F, s, re, k⟩ => ⟨α, F, s, re, fun vs α1 F1 H1 x1 s1 r1 => ⟨by rw [r1.1]; exact hl, fun p hp => new_tup s1 r1 (k.ext x1) hp⟩⟩
  · cases h
theorem pd_lst {es : List Expr} {m : Bool} (ha : PAd ca Γ X es A) : PEd ca Γ X (.List es pos) (.lst m A) := by
  intro ρ μ d μ' h
  obtain ⟨ds, μ1, e1, h⟩ := bnd_eq h
  exact (pe_lst (ha _ _ _ _ e1)).mono fun σ H Q ⟨α, F, s, re, k⟩ => ⟨α, F, s, re, fun vs α1 F1 H1 x1 s1 r1 => ⟨by rw [r1.1]; exact alloc_len h, fun p hp => new_lst s1 r1 h (k.ext x1) hp⟩⟩
end
end DP

/-! Rules of expressions, continued: comparisons, tests, subscripts, fields. -/
namespace DP
open PySem PySem.Spec L2

section
variable {ca : Str → Option Addr} {Γ : Pr} {X : Cx} {a b c : Expr} {A B C : E} {pos p : Pos}
/-! ### comparisons -/
def rCmp (K : PySem.W.Frag) (ca : Str → Option Addr) (Γ : Pr) (o : Cmp) : R2 := fun v w H Q => ∃ α F μ x y b μ', Sim K ca α F μ H ∧ Rep K ca α F v x ∧ Rep K ca α F w y ∧ cmpD Γ o x y μ = some (b, μ') ∧ Kon K ca α F (.bl b) μ' Q
abbrev CmpOk (ca : Str → Option Addr) (Γ : Pr) (X : Cx) (op : CmpOp) (o : Cmp) : Prop := OpR X (compareOp op) (rCmp X.K ca Γ o)
theorem pd_cmp {op : CmpOp} {o : Cmp} (ho : CmpOk ca Γ X op o) (ha : PEd ca Γ X a A) (hb : PEd ca Γ X b B) (hm : behindInMarks op b = false := by rfl) : PEd ca Γ X (.Compare a [op] [b] pos) (.cmp o A B) := by
  intro ρ μ d μ' h
  obtain ⟨x, μ1, e1, h⟩ := bnd_eq h
  obtain ⟨y, μ2, e2, h⟩ := bnd_eq h
  cases e : cmpD Γ o x y μ2 with
  | none => rw [e] at h; cases h
  | some p =>
    rw [e] at h; cases h
    exact (pe_cmpR ho (ha _ _ _ _ e1) (hb _ _ _ _ e2) hm).mono (op_comb fun α F H v w Q s r1 r2 k => ⟨α, F, μ2, x, y, p.1, p.2, s, r1, r2, e, k⟩)
theorem pt_cmpD {op : CmpOp} {o : Cmp} (ho : CmpOk ca Γ X op o) (ha : PEd ca Γ X a A) (hb : PEd ca Γ X b B) (hm : behindInMarks op b = false := by rfl) : PTd ca Γ X (.Compare a [op] [b] pos) (.cmp o A B) := by
  intro ρ μ k μ' h
  obtain ⟨x, μ1, e1, h⟩ := bnd_eq h
  obtain ⟨y, μ2, e2, h⟩ := bnd_eq h
  refine (pt_cmpR ho (ha _ _ _ _ e1) (hb _ _ _ _ e2) hm).mono fun σ H Q ⟨α, F, s, re, kk⟩ => ?_
  refine op_comb (z := .bl k) (μ3 := μ') (fun α F H v w Q s r1 r2 k' => ⟨α, F, μ2, x, y, k, μ', s, r1, r2, h, k'⟩) σ H _ ⟨α, F, s, re, fun v α1 F1 H1 x1 s1 r1 => ?_⟩
  cases r1
  exact ⟨k, rfl, kk α1 F1 H1 x1 s1⟩
theorem cmp_int {op : CmpOp} {o : Cmp} {g : Int → Int → Bool} (ho : OpR X (compareOp op) (rI0 fun i j => .bl (g i j)))
    (h : ∀ x y μ b μ', cmpD Γ o x y μ = some (b, μ') → ∃ i j, x = .int i ∧ y = .int j ∧ b = g i j ∧ μ' = μ) : CmpOk ca Γ X op o := fun pins s σ H v w u1 u2 Q I rx ry q => by
  obtain ⟨α, F, μ, x, y, b, μ', sm, r1, r2, e, k⟩ := q
  obtain ⟨i, j, rfl, rfl, rfl, rfl⟩ := h _ _ _ _ _ e
  cases r1; cases r2
  exact ho pins s σ H _ _ u1 u2 Q I rx ry ⟨i, j, rfl, rfl, k.now sm (.bl _)⟩
theorem co_lt : CmpOk ca Γ X .Lt .lt := cmp_int op_lt fun x y μ b μ' h => by cases x <;> cases y <;> simp [cmpD] at h; exact ⟨_, _, rfl, rfl, h.1.symm, h.2.symm⟩
theorem co_le : CmpOk ca Γ X .LtE .le := cmp_int op_le fun x y μ b μ' h => by cases x <;> cases y <;> simp [cmpD] at h; exact ⟨_, _, rfl, rfl, h.1.symm, h.2.symm⟩
theorem co_gt : CmpOk ca Γ X .Gt .gt := cmp_int op_gt fun x y μ b μ' h => by cases x <;> cases y <;> simp [cmpD] at h; exact ⟨_, _, rfl, rfl, h.1.symm, h.2.symm⟩
theorem co_ge : CmpOk ca Γ X .GtE .ge := cmp_int op_ge fun x y μ b μ' h => by cases x <;> cases y <;> simp [cmpD] at h; exact ⟨_, _, rfl, rfl, h.1.symm, h.2.symm⟩
theorem rep_non {K : PySem.W.Frag} {α F v d} (r : Rep K ca α F v d) : decide (v = .non) = isNon d := by
  cases r <;> simp [isNon]
theorem co_isN : CmpOk ca Γ X .Is .isN := fun pins s σ H v w u1 u2 Q I rx ry q => by
  obtain ⟨α, F, μ, x, y, b, μ', sm, r1, r2, e, k⟩ := q
  cases r2 <;> simp [cmpD] at e
  obtain ⟨e1, rfl⟩ := e
  refine op_isN pins s σ H _ _ u1 u2 Q I rx ry ⟨rfl, ?_⟩
  rw [rep_non r1, e1]
  exact k.now sm (.bl _)
theorem co_notN : CmpOk ca Γ X .IsNot .notN := fun pins s σ H v w u1 u2 Q I rx ry q => by
  obtain ⟨α, F, μ, x, y, b, μ', sm, r1, r2, e, k⟩ := q
  cases r2 <;> simp [cmpD] at e
  obtain ⟨e1, rfl⟩ := e
  refine op_notN pins s σ H _ _ u1 u2 Q I rx ry ⟨rfl, ?_⟩
  rw [rep_non r1, e1, Bool.not_not]
  exact k.now sm (.bl _)
theorem rep_flat {K : PySem.W.Frag} {α F v d} (r : Rep K ca α F v d) (h : D.flat d = true) : v = d.toV ∧ flatV v = true := by
  cases r <;> first | exact ⟨rfl, rfl⟩ | exact absurd h Bool.false_ne_true
theorem reps_flat {K : PySem.W.Frag} {α F} : ∀ {vs : List V} {ds : List D}, Reps K ca α F vs ds → ds.all D.flat = true → vs = ds.map D.toV ∧ vs.all flatV = true
  | vs, [], r, _ => by have := r.nil_iff; subst this; exact ⟨rfl, rfl⟩
  | vs, d :: ds, r, h => by
    obtain ⟨v, vr, rfl, r1, r2⟩ := r.cons_inv
    simp only [List.all_cons, Bool.and_eq_true] at h
    obtain ⟨h1, h2⟩ := rep_flat r1 h.1
    obtain ⟨h3, h4⟩ := reps_flat r2 h.2
    exact ⟨by rw [h1, h3]; rfl, by simp [h2, h4]⟩
theorem inV_map (x : D) (ds : List D) : inV x.toV (ds.map D.toV) = ds.any fun z => eqF z x := by
  unfold inV eqF; rw [List.any_map]; rfl
theorem look_val {K : PySem.W.Frag} {α F} {vs : List (Key × V)} {ds : List (Key × D)} (r : KRel K ca α F vs ds) (k : Key) :
    (valV vs k = none ∧ lookK ds k = none) ∨ ∃ v d, valV vs k = some v ∧ lookK ds k = some d ∧ Rep K ca α F v d := by
  induction vs generalizing ds with
  | nil =>
    have : ds = [] := by have := r.1; simpa using this.symm
    subst this; exact .inl ⟨rfl, rfl⟩
  | cons p vs ih =>
    cases ds with
    | nil => have := r.1; simp at this
    | cons q ds =>
      obtain ⟨k1, v1⟩ := p
      obtain ⟨k2, d1⟩ := q
      have e : k1 = k2 := by have := r.1; simp at this; exact this.1
      subst e
      have rt : KRel K ca α F vs ds := ⟨by have := r.1; simpa using this, r.2.tail⟩
      by_cases hk : k1 = k
      · exact .inr ⟨v1, d1, by rw [valV_pos hk], by simp [lookK, List.find?_cons, hk], r.2.head⟩
      · rw [valV_neg hk]
        have : lookK ((k1, d1) :: ds) k = lookK ds k := by simp [lookK, List.find?_cons, hk]
        rw [this]
        exact ih rt
theorem key_kV {K : PySem.W.Frag} {α F v d k} (r : Rep K ca α F v d) (h : key d = some k) : v = kV k := by
  cases r <;> simp [key] at h <;> subst h <;> rfl
theorem mem_run {neg : Bool} {op : CmpOp} {pins s σ H v w u1 u2} {Q : VK} {α F μ x y b} (hin : OpR X (compareOp op) (rIn X.K neg)) (hdict : ∀ (pins : List (Addr × Obj)) (s : Shared) (σ : L2.St) (H : Hp) (y : V) (a : Addr) (o : Option V) (u : Value) (Q : VK), L2.Inv X pins σ H s → RelV y u → DGet H a y o →
      Q (.bl (if neg then !o.isSome else o.isSome)) H → wpAny (model X.prog X.w) X.A (compareOp op u (.ref a)) (EP X pins σ Q) X.xe s)
    (I : L2.Inv X pins σ H s) (rx : RelV v u1) (ry : RelV w u2) (sm : Sim X.K ca α F μ H) (r1 : Rep X.K ca α F v x) (r2 : Rep X.K ca α F w y) (e : memD x y μ = some b) (k : Q (.bl (if neg then !b else b)) H) :
    wpAny (model X.prog X.w) X.A (compareOp op u1 u2) (EP X pins σ Q) X.xe s := by
  cases r2 with
  | @tup a vs ds q1 q2 q3 =>
    simp only [memD] at e
    split at e
    · rename_i hf
      simp only [Bool.and_eq_true] at hf
      cases e
      obtain ⟨h1, h2⟩ := rep_flat r1 hf.1
      obtain ⟨h3, h4⟩ := reps_flat ⟨q2, q3⟩ hf.2
      refine hin pins s σ H v (.ref a) u1 u2 Q I rx ry ⟨a, vs, rfl, .inr (seqT_un sm.sub q1), h2, h4, ?_⟩
      rw [h3, h1, inV_map]; exact k
    · cases e
  | @lst a vs ds q1 q2 q3 =>
    simp only [memD] at e
    split at e
    · rename_i hf
      simp only [Bool.and_eq_true] at hf
      cases e
      obtain ⟨h1, h2⟩ := rep_flat r1 hf.1
      obtain ⟨h3, h4⟩ := reps_flat ⟨q2, q3⟩ hf.2
      refine hin pins s σ H v (.ref a) u1 u2 Q I rx ry ⟨a, vs, rfl, .inl (SqL.of (sm.sub _ _ q1)), h2, h4, ?_⟩
      rw [h3, h1, inV_map]; exact k
    · cases e
  | @cell a n q =>
    simp only [memD] at e
    split at e
    · rename_i kvs hc
      cases hk : key x with
      | none => rw [hk] at e; cases e
      | some kk =>
        rw [hk] at e; cases e
        dsimp only at k
        obtain ⟨vs, h1, h2⟩ := sm.cel _ _ _ hc q
        have hv := key_kV r1 hk
        cases ry
        refine hdict pins s σ H v a (valV vs kk) u1 Q I rx ?_ ?_
        · rw [hv]; exact DGet.k h1
        · rcases look_val h2 kk with ⟨e1, e2⟩ | ⟨v', d', e1, e2, _⟩
          · rw [e1]; rw [e2] at k; exact k
          · rw [e1]; rw [e2] at k; exact k
    · cases e
  | _ => simp [memD] at e
theorem co_mem (hr : Room 1 X.A) : CmpOk ca Γ X .In .mem := fun pins s σ H v w u1 u2 Q I rx ry q => by
  obtain ⟨α, F, μ, x, y, b, μ', sm, r1, r2, e, k⟩ := q
  simp only [cmpD] at e
  cases hm : memD x y μ with
  | none => rw [hm] at e; cases e
  | some b' =>
    rw [hm] at e; cases e
    exact mem_run (neg := false) op_in_seq (fun pins s σ H y a o u Q I ry g q => d_in (hu_of hr) I g ry fun s' I' => ⟨.bl o.isSome, H, I', rfl, q⟩) I rx ry sm r1 r2 hm (k.now sm (.bl _))
theorem co_nmem (hr : Room 1 X.A) : CmpOk ca Γ X .NotIn .nmem := fun pins s σ H v w u1 u2 Q I rx ry q => by
  obtain ⟨α, F, μ, x, y, b, μ', sm, r1, r2, e, k⟩ := q
  simp only [cmpD] at e
  cases hm : memD x y μ with
  | none => rw [hm] at e; cases e
  | some b' =>
    rw [hm] at e; cases e
    exact mem_run (neg := true) op_notIn_seq (fun pins s σ H y a o u Q I ry g q => d_notIn (hu_of hr) I g ry fun s' I' => ⟨.bl (!o.isSome), H, I', rfl, q⟩) I rx ry sm r1 r2 hm (k.now sm (.bl _))
end
end DP

/-! Rules of expressions, continued: tests, and, or, not, subscripts, slices, fields, frozen cells. -/
namespace DP
open PySem PySem.Spec L2

section
variable {ca : Str → Option Addr} {Γ : Pr} {X : Cx} {a b c : Expr} {A B C : E} {pos p : Pos}
theorem truth_tru {K : PySem.W.Frag} {α F μ H v d k} (s : Sim K ca α F μ H) (r : Rep K ca α F v d) (h : truth d μ = some k) : TruV K v H k := by
  have it : ∀ {d}, Rep K ca α F v d → (items d μ).map (fun ds => !ds.isEmpty) = some k → TruV K v H k := fun {d} r h => by
    cases e : items d μ with
    | none => rw [e] at h; cases h
    | some ds =>
      rw [e] at h; cases h
      obtain ⟨a, vs, rfl, q, rs⟩ := items_read s r e
      have he : vs.isEmpty = ds.isEmpty := by
        have := rs.1
        cases vs <;> cases ds <;> simp at this ⊢
      rcases q with q | q
      · exact .inl ⟨vs, q, by rw [he]⟩
      · exact .inr (.inl ⟨vs, q, by rw [he]⟩)
  cases r with
  | non => simp [truth] at h; subst h; rfl
  | bl b => simp [truth] at h; subst h; rfl
  | int i => simp [truth] at h; subst h; rfl
  | str z =>
    simp only [truth] at h
    split at h
    · cases h; exact ⟨by assumption, rfl⟩
    · cases h
  | tup h1 h2 h3 => exact it (.tup h1 h2 h3) (by simpa [truth] using h)
  | lst h1 h2 h3 => exact it (.lst h1 h2 h3) (by simpa [truth] using h)
  | scr h1 => exact it (.scr h1) (by simpa [truth] using h)
  | obj vv h1 h2 h3 h4 h5 => simp [truth, items] at h
  | cell h1 => exact it (.cell h1) (by simpa [truth] using h)
/-! ### tests -/
theorem pt_tru (ha : PEd ca Γ X a A) (he : ∀ whole, isTrue a X.env whole = (do let v ← whole; standAt a.pos; holding [v] (truthy v)) := by intro _; rfl) : PTd ca Γ X a (.cons A .nil) := by
  intro ρ μ b μ' h
  simp only [evT] at h
  obtain ⟨x, μ1, e1, h⟩ := bnd_eq h
  cases e : truth x μ1 with
  | none => rw [e] at h; cases h
  | some k =>
    rw [e] at h; cases h
    exact (pt_truth (ha _ _ _ _ e1) he).mono fun σ H Q ⟨α, F, s, re, kk⟩ => ⟨α, F, s, re, fun v α1 F1 H1 x1 s1 r1 => ⟨b, truth_tru s1 r1 e, kk α1 F1 H1 x1 s1⟩⟩
theorem pw_and1D (ha : PTd ca Γ X a A) : PWd ca Γ X (.BoolOp .And [a] pos) A := fun ρ μ b μ' h => pw_and1 (ha _ _ _ _ h)
theorem pw_or1D (ha : PTd ca Γ X a A) : PWd ca Γ X (.BoolOp .Or [a] pos) A := fun ρ μ b μ' h => pw_or1 (ha _ _ _ _ h)
theorem tDT_bind {K : PySem.W.Frag} {ρ : Rho} {μ μ1 μ2 : Sto} {k b : Bool} {u : Bool → TT} (h : ∀ σ H Q, tDT K ca ρ μ1 b μ2 σ H Q → u k σ H Q) :
    ∀ σ H Q, tDT K ca ρ μ b μ2 σ H Q → tDT K ca ρ μ k μ1 σ H (fun c H1 => u c σ H1 Q) := fun σ H Q ⟨α, F, s, re, kk⟩ =>
  ⟨α, F, s, re, fun α1 F1 H1 x1 s1 => h σ H1 Q ⟨α1, F1, s1, re.mono x1, fun α2 F2 H2 x2 s2 => kk α2 F2 H2 (x1.trans x2) s2⟩⟩
theorem tDT_end {K : PySem.W.Frag} {ρ : Rho} {μ : Sto} {b : Bool} {σ H Q} (h : tDT K ca ρ μ b μ σ H Q) : Q b H := by
  obtain ⟨α, F, s, re, kk⟩ := h
  exact kk α F H (Ext.refl _ _) s
theorem PW.ff {X : Cx} {e : Expr} : PW X e (fun _ _ _ => False) := ⟨fun _ _ _ _ _ _ _ h => h.elim⟩
theorem pw_and2 {rest : List Expr} (ha : PTd ca Γ X a A) (hb : PWd ca Γ X (.BoolOp .And (b :: rest) pos) B) : PWd ca Γ X (.BoolOp .And (a :: b :: rest) pos) (.and A B) := by
  intro ρ μ k μ' h
  simp only [evT] at h
  obtain ⟨x, μ1, e1, h⟩ := bnd_eq h
  cases x with
  | true =>
    refine (pw_and (ha _ _ _ _ e1) (hb _ _ _ _ h)).mono fun σ H Q q => ?_
    exact tDT_bind (k := true) (u := fun c σ H Q => if c = true then tDT X.K ca ρ μ1 k μ' σ H Q else Q false H) (fun σ H Q q => by rw [if_pos rfl]; exact q) σ H Q q
  | false =>
    simp only [Bool.false_eq_true, if_false, Option.some.injEq, Prod.mk.injEq] at h
    obtain ⟨rfl, rfl⟩ := h
    refine (pw_and (ha _ _ _ _ e1) PW.ff).mono fun σ H Q q => ?_
    exact tDT_bind (k := false) (u := fun c σ H Q => if c = true then False else Q false H) (fun σ H Q q => by rw [if_neg Bool.false_ne_true]; exact tDT_end q) σ H Q q
theorem pw_or2 {rest : List Expr} (ha : PTd ca Γ X a A) (hb : PWd ca Γ X (.BoolOp .Or (b :: rest) pos) B) : PWd ca Γ X (.BoolOp .Or (a :: b :: rest) pos) (.or A B) := by
  intro ρ μ k μ' h
  simp only [evT] at h
  obtain ⟨x, μ1, e1, h⟩ := bnd_eq h
  cases x with
  | false =>
    refine (pw_or (ha _ _ _ _ e1) (hb _ _ _ _ h)).mono fun σ H Q q => ?_
    exact tDT_bind (k := false) (u := fun c σ H Q => if c = true then Q true H else tDT X.K ca ρ μ1 k μ' σ H Q) (fun σ H Q q => by rw [if_neg Bool.false_ne_true]; exact q) σ H Q q
  | true =>
    simp only [if_true, Option.some.injEq, Prod.mk.injEq] at h
    obtain ⟨rfl, rfl⟩ := h
    refine (pw_or (ha _ _ _ _ e1) PW.ff).mono fun σ H Q q => ?_
    exact tDT_bind (k := true) (u := fun c σ H Q => if c = true then Q true H else False) (fun σ H Q q => by rw [if_pos rfl]; exact tDT_end q) σ H Q q
theorem pt_w (h : PWd ca Γ X a A) : PTd ca Γ X a A := fun ρ μ b μ' e => (h _ _ _ _ e).pt
theorem pt_notD (ha : PTd ca Γ X a A) : PTd ca Γ X (.UnaryOp .Not a pos) (.not A) := by
  intro ρ μ k μ' h
  simp only [evT] at h
  obtain ⟨x, μ1, e1, h⟩ := bnd_eq h
  cases h
  exact (pt_not (ha _ _ _ _ e1)).mono fun σ H Q q => tDT_bind (k := x) (u := fun c σ H Q => Q (!c) H) (fun σ H Q q => tDT_end q) σ H Q q
theorem pc_nil : PTsd ca Γ X [] .nil := by
  intro ρ μ k μ' h
  simp only [evT, Option.some.injEq, Prod.mk.injEq] at h
  obtain ⟨rfl, rfl⟩ := h
  exact pts_nil.mono fun σ H Q q => tDT_end q
theorem pc_one (h : PTd ca Γ X a A) : PTsd ca Γ X [a] A := fun ρ μ k μ' e => pts_one (h _ _ _ _ e)
/-! ### and, or, not, if as values -/
theorem pd_one {op} (h : PEd ca Γ X a A) : PEd ca Γ X (.BoolOp op [a] pos) A := fun ρ μ d μ' e => pe_one (h _ _ _ _ e)
theorem PE.ff {X : Cx} {e : Expr} : PE X e (fun _ _ _ => False) := ⟨fun _ _ _ _ _ _ h => h.elim⟩
theorem pd_and {rest : List Expr} (ha : PEd ca Γ X a A) (hb : PEd ca Γ X (.BoolOp .And (b :: rest) pos) B) : PEd ca Γ X (.BoolOp .And (a :: b :: rest) pos) (.and A B) := by
  intro ρ μ d μ' h
  simp only [ev] at h
  obtain ⟨x, μ1, e1, h⟩ := bnd_eq h
  split at h
  · rename_i et
    refine (pe_andT (ha _ _ _ _ e1) (hb _ _ _ _ h)).mono fun σ H Q ⟨α, F, s, re, k⟩ => ⟨α, F, s, re, fun v α1 F1 H1 x1 s1 r1 => ⟨true, truth_tru s1 r1 et, ?_⟩⟩
    rw [if_pos rfl]
    exact ⟨α1, F1, s1, re.mono x1, k.ext x1⟩
  · rename_i et
    cases h
    refine (pe_andT (ha _ _ _ _ e1) PE.ff).mono fun σ H Q ⟨α, F, s, re, k⟩ => ⟨α, F, s, re, fun v α1 F1 H1 x1 s1 r1 => ⟨false, truth_tru s1 r1 et, ?_⟩⟩
    rw [if_neg Bool.false_ne_true]
    exact (k.ext x1).now s1 r1
  · cases h
theorem pd_or {rest : List Expr} (ha : PEd ca Γ X a A) (hb : PEd ca Γ X (.BoolOp .Or (b :: rest) pos) B) : PEd ca Γ X (.BoolOp .Or (a :: b :: rest) pos) (.or A B) := by
  intro ρ μ d μ' h
  simp only [ev] at h
  obtain ⟨x, μ1, e1, h⟩ := bnd_eq h
  split at h
  · rename_i et
    cases h
    refine (pe_orT (ha _ _ _ _ e1) PE.ff).mono fun σ H Q ⟨α, F, s, re, k⟩ => ⟨α, F, s, re, fun v α1 F1 H1 x1 s1 r1 => ⟨true, truth_tru s1 r1 et, ?_⟩⟩
    rw [if_pos rfl]
    exact (k.ext x1).now s1 r1
  · rename_i et
    refine (pe_orT (ha _ _ _ _ e1) (hb _ _ _ _ h)).mono fun σ H Q ⟨α, F, s, re, k⟩ => ⟨α, F, s, re, fun v α1 F1 H1 x1 s1 r1 => ⟨false, truth_tru s1 r1 et, ?_⟩⟩
    rw [if_neg Bool.false_ne_true]
    exact ⟨α1, F1, s1, re.mono x1, k.ext x1⟩
  · cases h
theorem pd_not (ha : PEd ca Γ X a A) : PEd ca Γ X (.UnaryOp .Not a pos) (.not A) := by
  intro ρ μ d μ' h
  simp only [ev] at h
  obtain ⟨x, μ1, e1, h⟩ := bnd_eq h
  cases et : truth x μ1 with
  | none => rw [et] at h; cases h
  | some k =>
    rw [et] at h; cases h
    exact (pe_notT (ha _ _ _ _ e1)).mono fun σ H Q ⟨α, F, s, re, kk⟩ => ⟨α, F, s, re, fun v α1 F1 H1 x1 s1 r1 => ⟨k, truth_tru s1 r1 et, (kk.ext x1).now s1 (.bl _)⟩⟩
theorem pd_ife (hc : PTd ca Γ X c C) (ha : PEd ca Γ X a A) (hb : PEd ca Γ X b B) : PEd ca Γ X (.IfExp c a b pos) (.ife C A B) := by
  intro ρ μ d μ' h
  simp only [ev] at h
  obtain ⟨x, μ1, e1, h⟩ := bnd_eq h
  cases x with
  | true =>
    simp only [if_true] at h
    refine (pe_ifExp (hc _ _ _ _ e1) (ha _ _ _ _ h) PE.ff).mono fun σ H Q ⟨α, F, s, re, k⟩ => ⟨α, F, s, re, fun α1 F1 H1 x1 s1 => ?_⟩
    exact iteT ⟨α1, F1, s1, re.mono x1, k.ext x1⟩
  | false =>
    simp only [Bool.false_eq_true, if_false] at h
    refine (pe_ifExp (hc _ _ _ _ e1) PE.ff (hb _ _ _ _ h)).mono fun σ H Q ⟨α, F, s, re, k⟩ => ⟨α, F, s, re, fun α1 F1 H1 x1 s1 => ?_⟩
    exact iteF ⟨α1, F1, s1, re.mono x1, k.ext x1⟩
/-! ### chains -/
theorem chain_read {op op' : CmpOp} {o o' : Cmp} {ρ μ d μ'} {A B C : E} {K : PySem.W.Frag} (h : ev Γ (.chn o o' A B C) ρ μ = some (d, μ')) :
    ∃ x y μ1 μ2, ev Γ A ρ μ = some (x, μ1) ∧ ev Γ B ρ μ1 = some (y, μ2) ∧ ∃ tc : TE, ((tc = fun _ _ _ => False) ∨ ∃ z μ3 μ4, ev Γ C ρ μ3 = some (z, μ4) ∧ tc = tD K ca ρ μ3 z μ4) ∧
      ∀ σ H Q, tD K ca ρ μ d μ' σ H Q → tChain (rCmp K ca Γ o) (rCmp K ca Γ o') (tD K ca ρ μ x μ1) (tD K ca ρ μ1 y μ2) tc σ H Q := by
  simp only [ev] at h
  obtain ⟨x, μ1, e1, h⟩ := bnd_eq h
  obtain ⟨y, μ2, e2, h⟩ := bnd_eq h
  obtain ⟨k, μ3, e3, h⟩ := bnd_eq h
  refine ⟨x, y, μ1, μ2, e1, e2, ?_⟩
  cases k with
  | true =>
    simp only [if_true] at h
    obtain ⟨z, μ4, e4, h⟩ := bnd_eq h
    cases e : cmpD Γ o' y z μ4 with
    | none => rw [e] at h; cases h
    | some q =>
      rw [e] at h; cases h
      refine ⟨_, .inr ⟨z, μ3, μ4, e4, rfl⟩, fun σ H Q ⟨α, F, s, re, k⟩ =>
        ⟨α, F, s, re, fun v α1 F1 H1 x1 s1 r1 => ⟨α1, F1, s1, re.mono x1, fun w α2 F2 H2 x2 s2 r2 => ⟨α2, F2, μ2, x, y, true, μ3, s2, r1.mono x2, r2, e3, fun u α3 F3 H3 x3 s3 r3 => ?_⟩⟩⟩⟩
      cases r3
      have x23 := x2.trans x3
      exact ⟨true, rfl, iteT ⟨α3, F3, s3, re.mono (x1.trans x23), fun w2 α4 F4 H4 x4 s4 r4 => ⟨α4, F4, μ4, y, z, q.1, q.2, s4, r2.mono (x3.trans x4), r4, e, k.ext ((x1.trans x23).trans x4)⟩⟩⟩
  | false =>
    simp only [Bool.false_eq_true, if_false, Option.some.injEq, Prod.mk.injEq] at h
    obtain ⟨rfl, rfl⟩ := h
    refine ⟨_, .inl rfl, fun σ H Q ⟨α, F, s, re, k⟩ =>
        ⟨α, F, s, re, fun v α1 F1 H1 x1 s1 r1 => ⟨α1, F1, s1, re.mono x1, fun w α2 F2 H2 x2 s2 r2 => ⟨α2, F2, μ2, x, y, false, μ3, s2, r1.mono x2, r2, e3, fun u α3 F3 H3 x3 s3 r3 => ?_⟩⟩⟩⟩
    cases r3
    exact ⟨false, rfl, iteF ((k.ext (x1.trans (x2.trans x3))).now s3 (.bl false))⟩
theorem pd_chn {op op' : CmpOp} {o o' : Cmp} (ho : CmpOk ca Γ X op o) (ho' : CmpOk ca Γ X op' o') (ha : PEd ca Γ X a A) (hb : PEd ca Γ X b B) (hc : PEd ca Γ X c C)
    (hm : lastMarks [op, op'] [b, c] = false := by with_unfolding_all rfl) : PEd ca Γ X (.Compare a [op, op'] [b, c] pos) (.chn o o' A B C) := by
  intro ρ μ d μ' h
  obtain ⟨x, y, μ1, μ2, e1, e2, tc, ht, rd⟩ := chain_read (ca := ca) (op := op) (op' := op') (K := X.K) h
  have hc' : PE X c tc := by
    rcases ht with rfl | ⟨z, μ3, μ4, e4, rfl⟩
    · exact PE.ff
    · exact hc _ _ _ _ e4
  exact (pe_chain ho ho' (ha _ _ _ _ e1) (hb _ _ _ _ e2) hc' hm).mono rd
theorem pt_chnD {op op' : CmpOp} {o o' : Cmp} (ho : CmpOk ca Γ X op o) (ho' : CmpOk ca Γ X op' o') (ha : PEd ca Γ X a A) (hb : PEd ca Γ X b B) (hc : PEd ca Γ X c C)
    (hm : lastMarks [op, op'] [b, c] = false := by with_unfolding_all rfl) : PTd ca Γ X (.Compare a [op, op'] [b, c] pos) (.chn o o' A B C) := by
  intro ρ μ k μ' h
  have hv : ev Γ (.chn o o' A B C) ρ μ = some (.bl k, μ') := by
    simp only [evT] at h
    simp only [ev]
    obtain ⟨x, μ1, e1, h⟩ := bnd_eq h
    obtain ⟨y, μ2, e2, h⟩ := bnd_eq h
    obtain ⟨j, μ3, e3, h⟩ := bnd_eq h
    rw [e1, bnd_some, e2, bnd_some, e3, bnd_some]
    cases j with
    | true =>
      simp only [if_true] at h ⊢
      obtain ⟨z, μ4, e4, h⟩ := bnd_eq h
      rw [e4, bnd_some, h]; rfl
    | false => simp at h ⊢; exact h
  obtain ⟨x, y, μ1, μ2, e1, e2, tc, ht, rd⟩ := chain_read (ca := ca) (op := op) (op' := op') (K := X.K) hv
  have hc' : PE X c tc := by
    rcases ht with rfl | ⟨z, μ3, μ4, e4, rfl⟩
    · exact PE.ff
    · exact hc _ _ _ _ e4
  refine (pt_chain ho ho' (ha _ _ _ _ e1) (hb _ _ _ _ e2) hc' hm).mono fun σ H Q ⟨α, F, s, re, kk⟩ => rd σ H _ ⟨α, F, s, re, fun v α1 F1 H1 x1 s1 r1 => ?_⟩
  cases r1
  exact ⟨k, rfl, kk α1 F1 H1 x1 s1⟩
/-! ### subscripts -/
theorem reps_at {K : PySem.W.Frag} {α F} {vs : List V} {ds : List D} (r : Reps K ca α F vs ds) {i : Int} {d : D} (h : atI ds i = some d) : ∃ v, atI vs i = some v ∧ Rep K ca α F v d := by
  unfold atI at h ⊢
  rw [r.1]
  cases e : ixN ds.length i with
  | none => rw [e] at h; cases h
  | some j => rw [e] at h; exact r.get h
theorem pd_ix (hr : Room 1 X.A) (ha : PEd ca Γ X a A) (hb : PEd ca Γ X b B) (hs : PlainIx b := by exact fun _ _ => rfl) : PEd ca Γ X (.Subscript a b pos) (.ix A B) := by
  intro ρ μ d μ' h
  simp only [ev] at h
  obtain ⟨x, μ1, e1, h⟩ := bnd_eq h
  obtain ⟨y, μ2, e2, h⟩ := bnd_eq h
  cases e : ixD x y μ2 with
  | none => rw [e] at h; cases h
  | some z =>
    rw [e] at h; cases h
    by_cases hd : ∃ n kvs, x = .cell n ∧ μ'[n]? = some (.dct kvs)
    · obtain ⟨n, kvs, rfl, hn⟩ := hd
      refine (pe_dget (hu_of hr) (ha _ _ _ _ e1) (hb _ _ _ _ e2) hs).mono fun σ H Q ⟨α, F, s, re, k⟩ =>
        ⟨α, F, s, re, fun v α1 F1 H1 x1 s1 r1 => ⟨α1, F1, s1, re.mono x1, fun w α2 F2 H2 x2 s2 r2 => ?_⟩⟩
      have r1 := r1.mono x2
      cases r1 with
      | @cell a _ q =>
        simp only [ixD, hn] at e
        cases hk : key y with
        | none => rw [hk] at e; cases e
        | some kk =>
          rw [hk] at e
          obtain ⟨vs, h1, h2⟩ := s2.cel _ _ _ hn q
          have hv := key_kV r2 hk
          subst hv
          rcases look_val h2 kk with ⟨_, e4⟩ | ⟨v', d', e3, e4, r4⟩
          · have e : lookK kvs kk = some d := e
            rw [e4] at e; cases e
          · have e : lookK kvs kk = some d := e
            rw [e4] at e; cases e
            exact ⟨a, v', rfl, by have g := DGet.k (k := kk) h1; rw [e3] at g; exact g, (k.ext (x1.trans x2)).now s2 r4⟩
    · refine (pe_ix ix_seq (ha _ _ _ _ e1) (hb _ _ _ _ e2) hs).mono (op_comb fun α F H v w Q s r1 r2 k => ?_)
      cases r2 with
      | int i =>
        cases r1 with
        | str z =>
          simp only [ixD] at e
          split at e
          · rename_i hl
            cases hc : atI z.cps.toList i with
            | none => rw [hc] at e; cases e
            | some c => rw [hc] at e; cases e; exact .inr (.inr ⟨z, i, c, rfl, rfl, hl, hc, k.now s (.str _)⟩)
          · cases e
        | @tup a vs ds q1 q2 q3 =>
          obtain ⟨v, h1, h2⟩ := reps_at (r := ⟨q2, q3⟩) (show atI ds i = some d from e)
          exact .inr (.inl ⟨a, vs, i, v, rfl, rfl, seqT_un s.sub q1, h1, k.now s h2⟩)
        | @lst a vs ds q1 q2 q3 =>
          obtain ⟨v, h1, h2⟩ := reps_at (r := ⟨q2, q3⟩) (show atI ds i = some d from e)
          exact .inl ⟨a, vs, i, v, rfl, rfl, SqL.of (s.sub _ _ q1), h1, k.now s h2⟩
        | @scr a is q1 =>
          obtain ⟨v, h1, h2⟩ := reps_at (r := reps_ints is) (show atI (is.map D.int) i = some d from e)
          exact .inl ⟨a, _, i, v, rfl, rfl, seqL_un s.sub q1, h1, k.now s h2⟩
        | @cell a n q =>
          cases hc : μ'[n]? with
          | none => simp [ixD, hc] at e
          | some cc =>
            cases cc with
            | lst ds =>
              simp only [ixD, hc] at e
              obtain ⟨vs, p1, p2⟩ := s.cel _ _ _ hc q
              obtain ⟨v, h1, h2⟩ := reps_at p2 e
              exact .inl ⟨a, vs, i, v, rfl, rfl, SqL.of p1, h1, k.now s h2⟩
            | dct kvs => exact absurd ⟨n, kvs, rfl, hc⟩ hd
            | ins C fs => simp [ixD, hc] at e
            | dead => simp [ixD, hc] at e
        | _ => simp [ixD, items] at e
      | _ =>
        exfalso
        cases r1 with
        | @cell a n q =>
          cases hc : μ'[n]? with
          | none => simp [ixD, hc] at e
          | some cc =>
            cases cc with
            | dct kvs => exact hd ⟨n, kvs, rfl, hc⟩
            | _ => simp [ixD, hc] at e
        | _ => simp [ixD] at e
end
end DP

/-! Rules of expressions, continued: slices, joined lists, fields, frozen cells, built-in functions and methods. -/
namespace DP
open PySem PySem.Spec L2

section
variable {ca : Str → Option Addr} {Γ : Pr} {X : Cx} {a b c : Expr} {A B C : E} {pos p : Pos}
/-! ### slices -/
theorem pp_no : POd ca Γ X none .noP := by
  intro ρ μ o μ' h
  simp only [evP, Option.some.injEq, Prod.mk.injEq] at h
  obtain ⟨rfl, rfl⟩ := h
  exact po_none.mono fun σ H Q ⟨α, F, s, re, k⟩ => k α F H (Ext.refl _ _) s
theorem pp_some (ha : PEd ca Γ X a A) : POd ca Γ X (some a) (.cons A .nil) := by
  intro ρ μ o μ' h
  simp only [evP] at h
  obtain ⟨x, μ1, e1, h⟩ := bnd_eq h
  split at h
  · cases h
    refine (po_some (ha _ _ _ _ e1)).mono fun σ H Q ⟨α, F, s, re, k⟩ => ⟨α, F, s, re, fun v α1 F1 H1 x1 s1 r1 => ?_⟩
    cases r1
    exact ⟨_, rfl, k α1 F1 H1 x1 s1⟩
  · cases h
theorem reps_cut {K : PySem.W.Frag} {α F} {vs : List V} {ds : List D} (r : Reps K ca α F vs ds) (lo hi : Option Int) : Reps K ca α F (cutV vs lo hi) (cutD ds lo hi) := by
  unfold cutV cutD
  rw [r.1]
  exact (r.drop _).take _
def rSl3 (K : PySem.W.Frag) : V → Option Int → Option Int → Hp → VK → Prop := fun x lo hi H Q => (rSlA K x lo hi H Q ∨ rSlL K x lo hi H Q) ∨ rSlS x lo hi H Q
theorem sl_any : SlR X (rSl3 X.K) := (sl_tupA.or sl_list).or sl_str
theorem cut_whole {ds : List D} {lo hi : Option Int} (h : HT.sIx ds.length 0 lo = 0 ∧ HT.sIx ds.length ds.length hi = ds.length) : cutD ds lo hi = ds := by
  unfold cutD; rw [h.1, h.2]; simp
theorem pd_sl {m : Bool} {lo hi : Option Expr} {L U : E} {p2 : Pos} (ha : PEd ca Γ X a A) (hl : POd ca Γ X lo L) (hu : POd ca Γ X hi U) : PEd ca Γ X (.Subscript a (.Slice lo hi none p2) pos) (.sl m A L U) := by
  intro ρ μ d μ' h
  simp only [ev] at h
  obtain ⟨x, μ1, e1, h⟩ := bnd_eq h
  obtain ⟨l, μ2, e2, h⟩ := bnd_eq h
  obtain ⟨u, μ3, e3, h⟩ := bnd_eq h
  refine (pe_slice sl_any (ha _ _ _ _ e1) (hl _ _ _ _ e2) (hu _ _ _ _ e3)).mono fun σ H Q ⟨α, F, s, re, k⟩ =>
    ⟨α, F, s, re, fun v α1 F1 H1 x1 s1 r1 => ⟨α1, F1, s1, re.mono x1, fun α2 F2 H2 x2 s2 => ⟨α2, F2, s2, re.mono (x1.trans x2), fun α3 F3 H3 x3 s3 => ?_⟩⟩⟩
  have r := r1.mono (x2.trans x3)
  have kk := k.ext (x1.trans (x2.trans x3))
  have lst : ∀ ds, listed x μ3 = some ds → alloc m (cutD ds l u) μ3 = some (d, μ') → rSl3 X.K v l u H3 Q := fun ds e h => by
    obtain ⟨a, vs, rfl, q, rs⟩ := listed_read s3 r e
    exact .inl (.inr ⟨a, vs, rfl, q, fun p hp => new_lst s3 (reps_cut rs l u) h kk hp⟩)
  cases r with
  | @tup a vs ds q1 q2 q3 =>
    simp only [slD, Option.some.injEq, Prod.mk.injEq] at h
    obtain ⟨rfl, rfl⟩ := h
    refine .inl (.inl ⟨a, vs, rfl, seqT_un s3.sub q1, fun e => ?_, fun _ p hp => new_tup s3 (reps_cut ⟨q2, q3⟩ l u) kk hp⟩)
    rw [q2] at e
    rw [cut_whole e] at kk
    exact kk.now s3 (.tup q1 q2 q3)
  | str z =>
    simp only [slD] at h
    split at h
    · cases h; exact .inr ⟨z, rfl, by assumption, kk.now s3 (.str _)⟩
    · cases h
  | lst h1 h2 h3 =>
    simp only [slD] at h
    obtain ⟨ds, e, h⟩ := Option.bind_eq_some_iff.mp h
    exact lst ds e h
  | scr h1 =>
    simp only [slD] at h
    obtain ⟨ds, e, h⟩ := Option.bind_eq_some_iff.mp h
    exact lst ds e h
  | cell h1 =>
    simp only [slD] at h
    obtain ⟨ds, e, h⟩ := Option.bind_eq_some_iff.mp h
    exact lst ds e h
  | _ => simp [slD, listed] at h
theorem pd_rev {m : Bool} {k : Nat} {p1 p2 p3 : Pos} (ha : PEd ca Γ X a A) : PEd ca Γ X (.Subscript a (.Slice none none (some (.UnaryOp .USub (.Constant (.int 1) k p1) p2)) p3) pos) (.rev m A) := by
  intro ρ μ d μ' h
  simp only [ev] at h
  obtain ⟨x, μ1, e1, h⟩ := bnd_eq h
  obtain ⟨ds, e2, h⟩ := Option.bind_eq_some_iff.mp h
  refine (pe_revL (ha _ _ _ _ e1)).mono fun σ H Q ⟨α, F, s, re, k⟩ => ⟨α, F, s, re, fun v α1 F1 H1 x1 s1 r1 => ?_⟩
  obtain ⟨a, vs, rfl, q, rs⟩ := listed_read s1 r1 e2
  exact ⟨a, vs, rfl, q, fun p hp => new_lst s1 rs.reverse h (k.ext x1) hp⟩
/-! ### fields, frozen cells -/
theorem pd_fld {f : Str} (hc : ∀ C c, ca C = some c → Cls X.K c ∧ ∀ f ∈ Γ.att C, NoAttr X.K c f) (ha : PEd ca Γ X a A) (hb : attributeBase a f X.env (eval a X.env) = eval a X.env := by rfl) : PEd ca Γ X (.Attribute a f pos) (.fld A f) := by
  intro ρ μ d μ' h
  simp only [ev] at h
  obtain ⟨x, μ1, e1, h⟩ := bnd_eq h
  cases e : fldD Γ x f μ1 with
  | none => rw [e] at h; cases h
  | some z =>
    rw [e] at h; cases h
    refine (pe_fld (ha _ _ _ _ e1) hb).mono fun σ H Q ⟨α, F, s, re, k⟩ => ⟨α, F, s, re, fun v α1 F1 H1 x1 s1 r1 => ?_⟩
    cases r1 with
    | @obj a C c dx fs gs vv q1 q2 q3 q4 q5 =>
      simp only [fldD] at e
      split at e
      · rename_i hm
        exact ⟨a, c, dx, fs, vv f, rfl, s1.sub _ _ q2, (hc C c q1).1, (hc C c q1).2 f hm, q4 f _ e, (k.ext x1).now s1 (q5 f _ e)⟩
      · cases e
    | @cell a n q =>
      simp only [fldD] at e
      split at e
      · rename_i C gs hn
        split at e
        · rename_i hm
          obtain ⟨c, dx, fs, p1, p2, p3, p4⟩ := s1.cel _ _ _ hn q
          obtain ⟨w, h1, h2⟩ := (p3 f).2 _ e
          exact ⟨a, c, dx, fs, w, rfl, p2, (hc C c p1).1, (hc C c p1).2 f hm, h1, (k.ext x1).now s1 h2⟩
        · cases e
      · cases e
    | _ => simp [fldD] at e
theorem FRel.vv {K : PySem.W.Frag} {α F fs gs} (r : FRel K ca α F fs gs) : ∃ vv : Str → V, (∀ f d, gs.lookup f = some d → fs.lookup f = some (vv f)) ∧ ∀ f d, gs.lookup f = some d → Rep K ca α F (vv f) d := by
  refine ⟨fun f => (fs.lookup f).getD .non, fun f d h => ?_, fun f d h => ?_⟩
  · obtain ⟨v, h1, h2⟩ := (r f).2 d h
    simp [h1]
  · obtain ⟨v, h1, h2⟩ := (r f).2 d h
    show Rep K ca α F ((fs.lookup f).getD .non) d
    rw [h1]; exact h2
theorem freeze_run {K : PySem.W.Frag} {α F H μ n d μ' Q a} (s : Sim K ca α F μ H) (hn : α[n]? = some a) (h : freezeD n μ = some (d, μ')) (k : Kon K ca α F d μ' Q) : Q (.ref a) H := by
  unfold freezeD at h
  split at h
  · rename_i ds e
    cases h
    obtain ⟨vs, h1, h2⟩ := s.cel _ _ _ e hn
    obtain ⟨s', x⟩ := s.freeze e (fun z => nomatch z) hn h1
    exact k _ _ _ _ x s' (.lst upd_same h2.1 fun i v d q1 q2 => (h2.2 i v d q1 q2).mono x)
  · rename_i C fs e
    cases h
    obtain ⟨c, dx, gs, h1, h2, h3, h4⟩ := s.cel _ _ _ e hn
    obtain ⟨s', x⟩ := s.freeze e (fun z => nomatch z) hn h2
    obtain ⟨vv, w1, w2⟩ := (h3.mono x).vv
    exact k _ _ _ _ x s' (.obj vv h1 upd_same (fun f => (h3 f).1) w1 w2)
  · cases h
theorem pd_frz (ha : PEd ca Γ X a A) : PEd ca Γ X a (.frz A) := by
  intro ρ μ d μ' h
  simp only [ev] at h
  obtain ⟨x, μ1, e1, h⟩ := bnd_eq h
  split at h
  · rename_i n
    refine (ha _ _ _ _ e1).mono fun σ H Q ⟨α, F, s, re, k⟩ => ⟨α, F, s, re, fun v α1 F1 H1 x1 s1 r1 => ?_⟩
    cases r1 with
    | cell q => exact freeze_run s1 q h (k.ext x1)
  · cases h
end
end DP

/-! Rules: built-in functions, types and methods by values. -/
namespace DP
open PySem PySem.Spec L2

section
variable {ca : Str → Option Addr} {Γ : Pr} {X : Cx} {a b c e : Expr} {A B C : E} {pos p : Pos} {es : List Expr}
/-- what a call by values asks -/
def BiS (K : PySem.W.Frag) (ca : Str → Option Addr) (r : List V → Hp → VK → Prop) (f : List D → Sto → Option (D × Sto)) : Prop :=
  ∀ ds μ d μ', f ds μ = some (d, μ') → ∀ α F H vs Q, Sim K ca α F μ H → Reps K ca α F vs ds → Kon K ca α F d μ' Q → r vs H Q
theorem biB {k : Bi} {m : Bool} {x : Str} {id : String} {r} (hs : BiS X.K ca r (biD k m)) (hc : CallR X (.builtin id) r) (hg : Gl X x) (hm : X.mg x = none) (hv : bootBuiltins x = some (.builtin id)) (ha : PAd ca Γ X (e :: es) A) (hn : x ≠ "__name__" := by decide) (hdb : (x == ("__debug__" : Str)) = false := by decide)
    (he : starEach (e :: es) X.env = (false, eval e X.env) :: starEach es X.env := by rfl) (hpl : (backTo pos (starEach es X.env)).any (·.1) = false := by rfl) : PEd ca Γ X (.Call (.Name x p) (e :: es) [] pos) (.bi k m A) := by
  intro ρ μ d μ' h
  simp only [ev] at h
  obtain ⟨ds, μ1, e1, h⟩ := bnd_eq h
  exact (pe_callB hc hg hm hv (ha _ _ _ _ e1) hn hdb he hpl).mono fun σ H Q ⟨α, F, s, re, k⟩ => ⟨α, F, s, re, fun vs α1 F1 H1 x1 s1 r1 => hs _ _ _ _ h α1 F1 H1 vs Q s1 r1 (k.ext x1)⟩
theorem biT {k : Bi} {m : Bool} {x : Str} {T : String} {r} (hs : BiS X.K ca r (biD k m)) (hc : CallR X (.type T) r) (hg : Gl X x) (hm : X.mg x = none) (hv : bootBuiltins x = some (.type T)) (ha : PAd ca Γ X (e :: es) A) (hn : x ≠ "__name__" := by decide) (hdb : (x == ("__debug__" : Str)) = false := by decide)
    (he : starEach (e :: es) X.env = (false, eval e X.env) :: starEach es X.env := by rfl) (hpl : (backTo pos (starEach es X.env)).any (·.1) = false := by rfl) : PEd ca Γ X (.Call (.Name x p) (e :: es) [] pos) (.bi k m A) := by
  intro ρ μ d μ' h
  simp only [ev] at h
  obtain ⟨ds, μ1, e1, h⟩ := bnd_eq h
  exact (pe_callTy hc hg hm hv (ha _ _ _ _ e1) hn hdb he hpl).mono fun σ H Q ⟨α, F, s, re, k⟩ => ⟨α, F, s, re, fun vs α1 F1 H1 x1 s1 r1 => hs _ _ _ _ h α1 F1 H1 vs Q s1 r1 (k.ext x1)⟩

theorem ints_read {K : PySem.W.Frag} {α F} : ∀ {vs : List V} {ds : List D} {is : List Int}, Reps K ca α F vs ds → intsD ds = some is → vs = is.map V.int
  | vs, [], is, r, h => by simp [intsD] at h; subst h; have := r.nil_iff; subst this; rfl
  | vs, d :: ds, is, r, h => by
    obtain ⟨v, vr, rfl, r1, r2⟩ := r.cons_inv
    cases r1 with
    | int i =>
      simp only [intsD] at h
      cases e : intsD ds with
      | none => rw [e] at h; cases h
      | some js => rw [e] at h; cases h; rw [ints_read r2 e]; rfl
    | _ => simp [intsD] at h
theorem bls_read {K : PySem.W.Frag} {α F} : ∀ {vs : List V} {ds : List D} {is : List Bool}, Reps K ca α F vs ds → bls ds = some is → vs = is.map V.bl
  | vs, [], is, r, h => by simp [bls] at h; subst h; have := r.nil_iff; subst this; rfl
  | vs, d :: ds, is, r, h => by
    obtain ⟨v, vr, rfl, r1, r2⟩ := r.cons_inv
    cases r1 with
    | bl i =>
      simp only [bls] at h
      cases e : bls ds with
      | none => rw [e] at h; cases h
      | some js => rw [e] at h; cases h; rw [bls_read r2 e]; rfl
    | _ => simp [bls] at h
theorem one_read {K : PySem.W.Frag} {α F} {vs : List V} {d : D} (r : Reps K ca α F vs [d]) : ∃ v, vs = [v] ∧ Rep K ca α F v d := by
  obtain ⟨v, vr, rfl, r1, r2⟩ := r.cons_inv
  have := r2.nil_iff; subst this
  exact ⟨v, rfl, r1⟩
theorem two_read {K : PySem.W.Frag} {α F} {vs : List V} {d d' : D} (r : Reps K ca α F vs [d, d']) : ∃ v w, vs = [v, w] ∧ Rep K ca α F v d ∧ Rep K ca α F w d' := by
  obtain ⟨v, vr, rfl, r1, r2⟩ := r.cons_inv
  obtain ⟨w, rfl, r3⟩ := one_read r2
  exact ⟨v, w, rfl, r1, r3⟩
theorem maxI_mem : ∀ (m : Int) (is : List Int), maxI m is ∈ m :: is ∧ ∀ y ∈ m :: is, y ≤ maxI m is
  | m, [] => by simp [maxI]
  | m, i :: is => by
    by_cases hlt : m < i
    · have ih := maxI_mem i is
      simp only [maxI, if_pos hlt, List.mem_cons] at ih ⊢
      refine ⟨.inr ih.1, fun y hy => ?_⟩
      have h0 := ih.2 _ (.inl rfl)
      rcases hy with rfl | hy
      · omega
      · exact ih.2 _ hy
    · have ih := maxI_mem m is
      simp only [maxI, if_neg hlt, List.mem_cons] at ih ⊢
      refine ⟨ih.1.elim .inl fun z => .inr (.inr z), fun y hy => ?_⟩
      have h0 := ih.2 _ (.inl rfl)
      rcases hy with rfl | rfl | hy
      · exact h0
      · omega
      · exact ih.2 _ (.inr hy)
theorem minI_mem : ∀ (m : Int) (is : List Int), minI m is ∈ m :: is ∧ ∀ y ∈ m :: is, minI m is ≤ y
  | m, [] => by simp [minI]
  | m, i :: is => by
    by_cases hlt : i < m
    · have ih := minI_mem i is
      simp only [minI, if_pos hlt, List.mem_cons] at ih ⊢
      refine ⟨.inr ih.1, fun y hy => ?_⟩
      have h0 := ih.2 _ (.inl rfl)
      rcases hy with rfl | hy
      · omega
      · exact ih.2 _ hy
    · have ih := minI_mem m is
      simp only [minI, if_neg hlt, List.mem_cons] at ih ⊢
      refine ⟨ih.1.elim .inl fun z => .inr (.inr z), fun y hy => ?_⟩
      have h0 := ih.2 _ (.inl rfl)
      rcases hy with rfl | rfl | hy
      · exact h0
      · omega
      · exact ih.2 _ (.inr hy)
/-! ### len -/
def rLenA (K : PySem.W.Frag) : List V → Hp → VK → Prop := fun xs H Q => (∃ p ys, xs = [.ref p] ∧ (SqL K H p ys ∨ SqT K H p ys) ∧ Q (.int ys.length) H) ∨ ∃ z, xs = [.str z] ∧ z.length ≤ sizeLine ∧ Q (.int z.length) H
theorem cr_len : CallR X (.builtin "len") (rLenA X.K) := call_len_seq.or call_len_str
theorem bs_len {m} : BiS X.K ca (rLenA X.K) (biD .len m) := fun ds μ d μ' h α F H vs Q s r k => by
  match ds, h with
  | [.str x], h =>
    simp only [biD] at h
    split at h
    · cases h
      obtain ⟨v, rfl, r1⟩ := one_read r
      cases r1
      exact .inr ⟨x, rfl, by assumption, k.now s (.int _)⟩
    · cases h
  | [.tup es], h => exact it s k r h
  | [.lst es], h => exact it s k r h
  | [.cell n], h => exact it s k r h
  | [.scr es], h => exact it s k r h
  | [.non], h => simp [biD, items] at h
  | [.bl _], h => simp [biD, items] at h
  | [.int _], h => simp [biD, items] at h
  | [.obj _ _], h => simp [biD, items] at h
  | [], h => simp [biD] at h
  | _ :: _ :: _, h => simp [biD] at h
where
  it {α F H vs μ Q d μ' x} (s : Sim X.K ca α F μ H) (k : Kon X.K ca α F d μ' Q) (r : Reps X.K ca α F vs [x]) (h : (items x μ).map (fun ds => (D.int ds.length, μ)) = some (d, μ')) : rLenA X.K vs H Q := by
    cases e : items x μ with
    | none => rw [e] at h; cases h
    | some ds =>
      rw [e] at h; cases h
      obtain ⟨v, rfl, r1⟩ := one_read r
      obtain ⟨a, ws, rfl, q, rs⟩ := items_read s r1 e
      refine .inl ⟨a, ws, rfl, q, ?_⟩
      rw [rs.1]; exact k.now s (.int _)
theorem pb_len {m} (hm : X.mg "len" = none) (ha : PAd ca Γ X (e :: es) A) (hg : Gl X "len" := by rfl) (he : starEach (e :: es) X.env = (false, eval e X.env) :: starEach es X.env := by rfl) (hpl : (backTo pos (starEach es X.env)).any (·.1) = false := by rfl) : PEd ca Γ X (.Call (.Name "len" p) (e :: es) [] pos) (.bi .len m A) :=
  biB bs_len cr_len hg hm PySem.boot_len ha (by decide) (by decide) he hpl
/-! ### sum, max, min, abs -/
theorem listed_one {K : PySem.W.Frag} {α F H vs μ x ds} (s : Sim K ca α F μ H) (r : Reps K ca α F vs [x]) (h : listed x μ = some ds) : ∃ a ws, vs = [.ref a] ∧ SqL K H a ws ∧ Reps K ca α F ws ds := by
  obtain ⟨v, rfl, r1⟩ := one_read r
  obtain ⟨a, ws, rfl, q, rs⟩ := listed_read s r1 h
  exact ⟨a, ws, rfl, q, rs⟩
theorem bs_sum {m} : BiS X.K ca (rSum X.K) (biD .sum m) := fun ds μ d μ' h α F H vs Q s r k => by
  match ds, h with
  | [x], h =>
    simp only [biD] at h
    cases e : (listed x μ).bind intsD with
    | none => rw [e] at h; cases h
    | some is =>
      rw [e] at h; cases h
      obtain ⟨es, e1, e2⟩ := Option.bind_eq_some_iff.mp e
      obtain ⟨a, ws, rfl, q, rs⟩ := listed_one s r e1
      have := ints_read rs e2; subst this
      exact ⟨a, is, rfl, q, k.now s (.int _)⟩
  | [], h => simp [biD] at h
  | _ :: _ :: _, h => simp [biD] at h
theorem pb_sum {m} (hc : X.calm = true) (hm : X.mg "sum" = none) (ha : PAd ca Γ X (e :: es) A) (hg : Gl X "sum" := by rfl) (he : starEach (e :: es) X.env = (false, eval e X.env) :: starEach es X.env := by rfl) (hpl : (backTo pos (starEach es X.env)).any (·.1) = false := by rfl) : PEd ca Γ X (.Call (.Name "sum" p) (e :: es) [] pos) (.bi .sum m A) :=
  biB bs_sum (cr_sum hc) hg hm (by decide +kernel) ha (by decide) (by decide) he hpl
theorem bs_maxL {m} : BiS X.K ca (rMax X.K) (biD .maxL m) := fun ds μ d μ' h α F H vs Q s r k => by
  match ds, h with
  | [x], h =>
    simp only [biD] at h
    obtain ⟨is, e, h⟩ := Option.bind_eq_some_iff.mp h
    obtain ⟨es, e1, e2⟩ := Option.bind_eq_some_iff.mp e
    obtain ⟨a, ws, rfl, q, rs⟩ := listed_one s r e1
    have := ints_read rs e2; subst this
    cases is with
    | nil => cases h
    | cons i is =>
      cases h
      refine ⟨a, i :: is, rfl, q, by simp, fun j hj hy => ?_⟩
      have := maxI_mem i is
      have e : j = maxI i is := Int.le_antisymm (this.2 _ hj) (hy _ this.1)
      subst e
      exact k.now s (.int _)
  | [], h => simp [biD] at h
  | _ :: _ :: _, h => simp [biD] at h
theorem pb_maxL {m} (hc : X.calm = true) (hm : X.mg "max" = none) (ha : PAd ca Γ X (e :: es) A) (hg : Gl X "max" := by rfl) (he : starEach (e :: es) X.env = (false, eval e X.env) :: starEach es X.env := by rfl) (hpl : (backTo pos (starEach es X.env)).any (·.1) = false := by rfl) : PEd ca Γ X (.Call (.Name "max" p) (e :: es) [] pos) (.bi .maxL m A) :=
  biB bs_maxL (cr_max hc) hg hm (by decide +kernel) ha (by decide) (by decide) he hpl
theorem bs_minL {m} : BiS X.K ca (rMin X.K) (biD .minL m) := fun ds μ d μ' h α F H vs Q s r k => by
  match ds, h with
  | [x], h =>
    simp only [biD] at h
    obtain ⟨is, e, h⟩ := Option.bind_eq_some_iff.mp h
    obtain ⟨es, e1, e2⟩ := Option.bind_eq_some_iff.mp e
    obtain ⟨a, ws, rfl, q, rs⟩ := listed_one s r e1
    have := ints_read rs e2; subst this
    cases is with
    | nil => cases h
    | cons i is =>
      cases h
      refine ⟨a, i :: is, rfl, q, by simp, fun j hj hy => ?_⟩
      have := minI_mem i is
      have e : j = minI i is := Int.le_antisymm (hy _ this.1) (this.2 _ hj)
      subst e
      exact k.now s (.int _)
  | [], h => simp [biD] at h
  | _ :: _ :: _, h => simp [biD] at h
theorem pb_minL {m} (hc : X.calm = true) (hm : X.mg "min" = none) (ha : PAd ca Γ X (e :: es) A) (hg : Gl X "min" := by rfl) (he : starEach (e :: es) X.env = (false, eval e X.env) :: starEach es X.env := by rfl) (hpl : (backTo pos (starEach es X.env)).any (·.1) = false := by rfl) : PEd ca Γ X (.Call (.Name "min" p) (e :: es) [] pos) (.bi .minL m A) :=
  biB bs_minL (cr_min hc) hg hm (by decide +kernel) ha (by decide) (by decide) he hpl
/-- two ints -/
theorem bs_2 {k : Bi} {m} {g : Int → Int → Int} (hb : ∀ ds μ r, biD k m ds μ = some r → ∃ i j, ds = [.int i, .int j] ∧ r = (.int (g i j), μ)) : BiS X.K ca (fun xs H Q => ∃ i j, xs = [.int i, .int j] ∧ Q (.int (g i j)) H) (biD k m) := fun ds μ d μ' h α F H vs Q s r kk => by
  obtain ⟨i, j, rfl, e⟩ := hb _ _ _ h
  cases e
  obtain ⟨v, w, rfl, r1, r2⟩ := two_read r
  cases r1; cases r2
  exact ⟨i, j, rfl, kk.now s (.int _)⟩
theorem pb_max2 {m} (hc : X.calm = true) (hm : X.mg "max" = none) (ha : PAd ca Γ X (e :: es) A) (hg : Gl X "max" := by rfl) (he : starEach (e :: es) X.env = (false, eval e X.env) :: starEach es X.env := by rfl) (hpl : (backTo pos (starEach es X.env)).any (·.1) = false := by rfl) : PEd ca Γ X (.Call (.Name "max" p) (e :: es) [] pos) (.bi .max2 m A) :=
  biB (bs_2 fun ds μ r h => by
    match ds, h with
    | [.int i, .int j], h => simp only [biD, Option.some.injEq] at h; exact ⟨i, j, rfl, h.symm⟩) (call_max2 hc) hg hm (by decide +kernel) ha (by decide) (by decide) he hpl
theorem pb_min2 {m} (hc : X.calm = true) (hm : X.mg "min" = none) (ha : PAd ca Γ X (e :: es) A) (hg : Gl X "min" := by rfl) (he : starEach (e :: es) X.env = (false, eval e X.env) :: starEach es X.env := by rfl) (hpl : (backTo pos (starEach es X.env)).any (·.1) = false := by rfl) : PEd ca Γ X (.Call (.Name "min" p) (e :: es) [] pos) (.bi .min2 m A) :=
  biB (bs_2 fun ds μ r h => by
    match ds, h with
    | [.int i, .int j], h => simp only [biD, Option.some.injEq] at h; exact ⟨i, j, rfl, h.symm⟩) (call_min2 hc) hg hm (by decide +kernel) ha (by decide) (by decide) he hpl
theorem pb_abs {m} (hm : X.mg "abs" = none) (ha : PAd ca Γ X (e :: es) A) (hg : Gl X "abs" := by rfl) (he : starEach (e :: es) X.env = (false, eval e X.env) :: starEach es X.env := by rfl) (hpl : (backTo pos (starEach es X.env)).any (·.1) = false := by rfl) : PEd ca Γ X (.Call (.Name "abs" p) (e :: es) [] pos) (.bi .abs m A) :=
  biB (fun ds μ d μ' h α F H vs Q s r kk => by
    match ds, h with
    | [.int i], h =>
      simp only [biD, Option.some.injEq, Prod.mk.injEq] at h
      obtain ⟨rfl, rfl⟩ := h
      obtain ⟨v, rfl, r1⟩ := one_read r
      cases r1
      exact ⟨i, rfl, kk.now s (.int _)⟩) call_abs hg hm (by decide +kernel) ha (by decide) (by decide) he hpl
theorem pb_int1 {m} (hm : X.mg "int" = none) (ha : PAd ca Γ X (e :: es) A) (hg : Gl X "int" := by rfl) (he : starEach (e :: es) X.env = (false, eval e X.env) :: starEach es X.env := by rfl) (hpl : (backTo pos (starEach es X.env)).any (·.1) = false := by rfl) : PEd ca Γ X (.Call (.Name "int" p) (e :: es) [] pos) (.bi .int1 m A) :=
  biT (fun ds μ d μ' h α F H vs Q s r kk => by
    match ds, h with
    | [.int i], h =>
      simp only [biD, Option.some.injEq, Prod.mk.injEq] at h
      obtain ⟨rfl, rfl⟩ := h
      obtain ⟨v, rfl, r1⟩ := one_read r
      cases r1
      exact .inl ⟨i, rfl, kk.now s (.int _)⟩
    | [.bl i], h =>
      simp only [biD, Option.some.injEq, Prod.mk.injEq] at h
      obtain ⟨rfl, rfl⟩ := h
      obtain ⟨v, rfl, r1⟩ := one_read r
      cases r1
      exact .inr ⟨i, rfl, kk.now s (.int _)⟩) call_int1 hg hm (by decide +kernel) ha (by decide) (by decide) he hpl
/-! ### all, any -/
theorem pb_all {m} (hc : X.calm = true) (hm : X.mg "all" = none) (ha : PAd ca Γ X (e :: es) A) (hg : Gl X "all" := by rfl) (he : starEach (e :: es) X.env = (false, eval e X.env) :: starEach es X.env := by rfl) (hpl : (backTo pos (starEach es X.env)).any (·.1) = false := by rfl) : PEd ca Γ X (.Call (.Name "all" p) (e :: es) [] pos) (.bi .all m A) :=
  biB (fun ds μ d μ' h α F H vs Q s r k => by
    match ds, h with
    | [x], h =>
      simp only [biD] at h
      cases e : (listed x μ).bind bls with
      | none => rw [e] at h; cases h
      | some is =>
        rw [e] at h; cases h
        obtain ⟨es, e1, e2⟩ := Option.bind_eq_some_iff.mp e
        obtain ⟨a, ws, rfl, q, rs⟩ := listed_one s r e1
        have := bls_read rs e2; subst this
        exact ⟨a, is, rfl, q, k.now s (.bl _)⟩) (cr_all hc) hg hm (by decide +kernel) ha (by decide) (by decide) he hpl
theorem pb_any {m} (hc : X.calm = true) (hm : X.mg "any" = none) (ha : PAd ca Γ X (e :: es) A) (hg : Gl X "any" := by rfl) (he : starEach (e :: es) X.env = (false, eval e X.env) :: starEach es X.env := by rfl) (hpl : (backTo pos (starEach es X.env)).any (·.1) = false := by rfl) : PEd ca Γ X (.Call (.Name "any" p) (e :: es) [] pos) (.bi .any m A) :=
  biB (fun ds μ d μ' h α F H vs Q s r k => by
    match ds, h with
    | [x], h =>
      simp only [biD] at h
      cases e : (listed x μ).bind bls with
      | none => rw [e] at h; cases h
      | some is =>
        rw [e] at h; cases h
        obtain ⟨es, e1, e2⟩ := Option.bind_eq_some_iff.mp e
        obtain ⟨a, ws, rfl, q, rs⟩ := listed_one s r e1
        have := bls_read rs e2; subst this
        exact ⟨a, is, rfl, q, k.now s (.bl _)⟩) (cr_any hc) hg hm (by decide +kernel) ha (by decide) (by decide) he hpl
/-! ### list(..), tuple(..), dict(..) -/
theorem pb_list1 {m} (hm : X.mg "list" = none) (ha : PAd ca Γ X (e :: es) A) (hg : Gl X "list" := by rfl) (he : starEach (e :: es) X.env = (false, eval e X.env) :: starEach es X.env := by rfl) (hpl : (backTo pos (starEach es X.env)).any (·.1) = false := by rfl) : PEd ca Γ X (.Call (.Name "list" p) (e :: es) [] pos) (.bi .list1 m A) :=
  biT (fun ds μ d μ' h α F H vs Q s r k => by
    match ds, h with
    | [x], h =>
      simp only [biD] at h
      obtain ⟨es, e, h⟩ := Option.bind_eq_some_iff.mp h
      obtain ⟨v, rfl, r1⟩ := one_read r
      obtain ⟨a, ws, rfl, q, rs⟩ := items_read s r1 e
      exact ⟨a, ws, rfl, q, fun l hl => new_lst s rs h k hl⟩) call_list_of hg hm (by decide +kernel) ha (by decide) (by decide) he hpl
theorem reps_keys {K : PySem.W.Frag} {α F} : ∀ (ks : List Key), Reps K ca α F (ks.map kV) (ks.map dKey)
  | [] => .nil
  | .inl i :: ks => .cons (.int i) (reps_keys ks)
  | .inr x :: ks => .cons (.str x) (reps_keys ks)
theorem pb_listK {m} (hc : X.calm = true) (hm : X.mg "list" = none) (ha : PAd ca Γ X (e :: es) A) (hg : Gl X "list" := by rfl) (he : starEach (e :: es) X.env = (false, eval e X.env) :: starEach es X.env := by rfl) (hpl : (backTo pos (starEach es X.env)).any (·.1) = false := by rfl) : PEd ca Γ X (.Call (.Name "list" p) (e :: es) [] pos) (.bi .listK m A) :=
  biT (fun ds μ d μ' h α F H vs Q s r k => by
    match ds, h with
    | [.cell n], h =>
      simp only [biD] at h
      split at h
      · rename_i kvs e
        obtain ⟨v, rfl, r1⟩ := one_read r
        cases r1 with
        | @cell a _ q =>
          obtain ⟨vs, h1, h2⟩ := s.cel _ _ _ e q
          refine ⟨a, vs, rfl, h1, fun l hl => new_lst s ?_ h k hl⟩
          have := reps_keys (K := X.K) (ca := ca) (α := α) (F := F) (vs.map (·.1))
          rw [List.map_map, h2.1, List.map_map] at this
          exact this
      · cases h) (call_list_dK hc) hg hm (by decide +kernel) ha (by decide) (by decide) he hpl
theorem pb_tuple1 {m} (hm : X.mg "tuple" = none) (ha : PAd ca Γ X (e :: es) A) (hg : Gl X "tuple" := by rfl) (he : starEach (e :: es) X.env = (false, eval e X.env) :: starEach es X.env := by rfl) (hpl : (backTo pos (starEach es X.env)).any (·.1) = false := by rfl) : PEd ca Γ X (.Call (.Name "tuple" p) (e :: es) [] pos) (.bi .tuple1 m A) :=
  biT (fun ds μ d μ' h α F H vs Q s r k => by
    match ds, h with
    | [x], h =>
      simp only [biD] at h
      cases e : listed x μ with
      | none => rw [e] at h; cases h
      | some es =>
        rw [e] at h; cases h
        obtain ⟨a, ws, rfl, q, rs⟩ := listed_one s r e
        exact ⟨a, ws, rfl, .inl ⟨q, fun l hl => new_tup s rs k hl⟩⟩) call_tuple_of hg hm (by decide +kernel) ha (by decide) (by decide) he hpl
def rDictC : List V → Hp → VK → Prop := fun xs H Q => ∃ a kvs, xs = [.ref a] ∧ H a = some (.dK kvs) ∧ ∀ p, H p = none → Q (.ref p) (upd H p (.dK kvs))
theorem cr_dictC : CallR X (.type "dict") rDictC := fun pins s σ H xs us Q I r h => by
  obtain ⟨a, kvs, rfl, ha, q⟩ := h
  cases r with
  | cons r rr =>
    cases rr
    cases r
    exact d_copyOf I (.inl ha) fun p s' hp I' => ⟨.ref p, _, I', rfl, q p hp⟩
theorem pb_dict1 {m} (hm : X.mg "dict" = none) (ha : PAd ca Γ X (e :: es) A) (hg : Gl X "dict" := by rfl) (he : starEach (e :: es) X.env = (false, eval e X.env) :: starEach es X.env := by rfl) (hpl : (backTo pos (starEach es X.env)).any (·.1) = false := by rfl) : PEd ca Γ X (.Call (.Name "dict" p) (e :: es) [] pos) (.bi .dict1 m A) :=
  biT (fun ds μ d μ' h α F H vs Q s r k => by
    match ds, h with
    | [.cell n], h =>
      simp only [biD] at h
      split at h
      · rename_i kvs e
        cases h
        obtain ⟨v, rfl, r1⟩ := one_read r
        cases r1 with
        | @cell a _ q =>
          obtain ⟨vs, h1, h2⟩ := s.cel _ _ _ e q
          refine ⟨a, vs, rfl, h1, fun l hl => ?_⟩
          have x0 : Ext α F (α ++ [l]) F := ⟨⟨[l], rfl⟩, fun _ _ q => q⟩
          obtain ⟨s', x, e⟩ := s.cellNew (o := .dK vs) (c := .dct kvs) hl ⟨vs, upd_same, h2.mono x0⟩
          exact k _ _ _ _ x s' (.cell e)
      · cases h) cr_dictC hg hm (by decide +kernel) ha (by decide) (by decide) he hpl
end
end DP

/-! Rules: joined and repeated lists, list(range(..)), isinstance, methods of lists. -/
namespace DP
open PySem PySem.Spec L2

section
variable {ca : Str → Option Addr} {Γ : Pr} {X : Cx} {a b c e : Expr} {A B C : E} {pos p apos cpos : Pos} {es : List Expr}
theorem pd_cat {m : Bool} (ha : PEd ca Γ X a A) (hb : PEd ca Γ X b B) : PEd ca Γ X (.BinOp a .Add b pos) (.cat m A B) := by
  intro ρ μ d μ' h
  simp only [ev] at h
  obtain ⟨x, μ1, e1, h⟩ := bnd_eq h
  obtain ⟨y, μ2, e2, h⟩ := bnd_eq h
  obtain ⟨ds, e3, h⟩ := Option.bind_eq_some_iff.mp h
  obtain ⟨es, e4, h⟩ := Option.bind_eq_some_iff.mp h
  refine (pe_op op_cat (ha _ _ _ _ e1) (hb _ _ _ _ e2)).mono (op_comb fun α F H v w Q s r1 r2 k => ?_)
  obtain ⟨l, xs, rfl, q1, rs1⟩ := lst_read s r1 e3
  obtain ⟨l', ys, rfl, q2, rs2⟩ := lst_read s r2 e4
  exact ⟨l, l', xs, ys, rfl, rfl, q1, q2, by have := alloc_len h; rw [List.length_append] at this; rw [rs1.1, rs2.1]; exact this, fun p hp => new_lst s (rs1.append rs2) h k hp⟩
theorem reps_rep {K : PySem.W.Frag} {α F} {vs : List V} {ds : List D} (r : Reps K ca α F vs ds) : ∀ n : Nat, Reps K ca α F (List.replicate n vs).flatten (List.replicate n ds).flatten
  | 0 => by simp only [List.replicate_zero, List.flatten_nil]; exact .nil
  | n + 1 => by
    rw [List.replicate_succ, List.replicate_succ, List.flatten_cons, List.flatten_cons]
    exact r.append (reps_rep r n)
theorem pd_rep {m : Bool} (ha : PEd ca Γ X a A) (hb : PEd ca Γ X b B) : PEd ca Γ X (.BinOp a .Mult b pos) (.rep m A B) := by
  intro ρ μ d μ' h
  simp only [ev] at h
  obtain ⟨x, μ1, e1, h⟩ := bnd_eq h
  obtain ⟨y, μ2, e2, h⟩ := bnd_eq h
  obtain ⟨ds, e3, h⟩ := Option.bind_eq_some_iff.mp h
  split at h
  · rename_i k
    split at h
    · rename_i hk
      refine (pe_op op_rep (ha _ _ _ _ e1) (hb _ _ _ _ e2)).mono (op_comb fun α F H v w Q s r1 r2 kk => ?_)
      obtain ⟨l, xs, rfl, q1, rs1⟩ := lst_read s r1 e3
      cases r2
      refine ⟨l, _, xs, rfl, rfl, q1, hk.1, hk.2, ?_, fun p hp => new_lst s (reps_rep rs1 _) h kk hp⟩
      have := alloc_len h
      simp only [List.length_flatten, List.map_replicate, List.sum_replicate_nat] at this
      rw [rs1.1, Nat.mul_comm]; exact this
    · cases h
  · cases h
theorem rgV_reps {K : PySem.W.Frag} {α F} (i j : Int) : Reps K ca α F (rgV i j) ((List.range (j - i).toNat).map fun (k : Nat) => D.int (i + (k : Int))) := by
  unfold rgV
  refine ⟨by simp, fun n v d h1 h2 => ?_⟩
  simp only [List.getElem?_map, List.getElem?_range'] at h1 h2
  cases e : (List.range (j - i).toNat)[n]? with
  | none => rw [e] at h1; cases h1
  | some q => rw [e] at h1 h2; cases h1; cases h2; exact .int _
theorem pb_listR {m : Bool} {p2 pos2 : Pos} (hc : X.calm = true) (hm : X.mg "list" = none) (hm2 : X.mg "range" = none) (ha : PEd ca Γ X a A) (hb : PEd ca Γ X b B) (hg : Gl X "list" := by rfl) (hg2 : Gl X "range" := by rfl)
    (na : starEach [a, b] X.env = (false, eval a X.env) :: starEach [b] X.env := by rfl) (nb : starEach [b] X.env = (false, eval b X.env) :: starEach [] X.env := by rfl) (hp : (backTo pos2 (starEach [b] X.env)).any (·.1) = false := by rfl)
    (nl : starEach [.Call (.Name "range" p2) [a, b] [] pos2] X.env = (false, eval (.Call (.Name "range" p2) [a, b] [] pos2) X.env) :: starEach [] X.env := by rfl) :
    PEd ca Γ X (.Call (.Name "list" p) [.Call (.Name "range" p2) [a, b] [] pos2] [] pos) (.bi .listR m (.cons A (.cons B .nil))) := by
  intro ρ μ d μ' h
  simp only [ev, evs] at h
  obtain ⟨ds, μ1, e1, h⟩ := bnd_eq h
  obtain ⟨x, μ2, e2, e1⟩ := bnd_eq e1
  obtain ⟨xs, μ3, e3, e1⟩ := bnd_eq e1
  obtain ⟨y, μ4, e4, e3⟩ := bnd_eq e3
  simp only [bnd_some, Option.some.injEq, Prod.mk.injEq] at e3
  obtain ⟨rfl, rfl⟩ := e3
  simp only [Option.some.injEq, Prod.mk.injEq] at e1
  obtain ⟨rfl, rfl⟩ := e1
  obtain ⟨i, j, rfl, rfl⟩ : ∃ i j, x = .int i ∧ y = .int j := by
    cases x <;> cases y <;> first | exact ⟨_, _, rfl, rfl⟩ | (simp [biD] at h)
  simp only [biD] at h
  split at h
  · rename_i hb'
    refine (pe_listRg hc hg hm (prg_2 hg2 hm2 (ha _ _ _ _ e2) (hb _ _ _ _ e4) na nb hp) nl).mono fun σ H Q ⟨α, F, s, re, k⟩ =>
      ⟨α, F, s, re, fun v α1 F1 H1 x1 s1 r1 => ⟨α1, F1, s1, re.mono x1, fun w α2 F2 H2 x2 s2 r2 => ?_⟩⟩
    cases r1; cases r2
    exact ⟨i, j, rfl, rfl, hb', fun q hq => new_lst s2 (rgV_reps i j) h (k.ext (x1.trans x2)) hq⟩
  · cases h
/-! ### isinstance of ints and truths -/
theorem pd_isIB {k : Bi} {T : String} (f : D → Option Bool) (hk : ∀ ds μ r, biD k false ds μ = some r → ∃ d b, ds = [d] ∧ f d = some b ∧ r = (.bl b, μ))
    (hf : ∀ d b, f d = some b → (∃ i, d = .int i ∧ kitB "int" T = some b) ∨ ∃ i, d = .bl i ∧ kitB "bool" T = some b)
    (hm : X.mg "isinstance" = none) (ha : PEd ca Γ X a A) (hty : PE X b (tC (.ty T))) (hg : Gl X "isinstance") (he : starEach (a :: [b]) X.env = (false, eval a X.env) :: starEach [b] X.env)
    (hb : starEach (b :: []) X.env = (false, eval b X.env) :: starEach [] X.env) (hpl : (backTo pos (starEach [b] X.env)).any (·.1) = false) :
    PEd ca Γ X (.Call (.Name "isinstance" p) [a, b] [] pos) (.bi k false (.cons A .nil)) := by
  intro ρ μ d μ' h
  simp only [ev, evs] at h
  obtain ⟨ds, μ1, e1, h⟩ := bnd_eq h
  obtain ⟨x, μ2, e2, e1⟩ := bnd_eq e1
  simp only [bnd_some, Option.some.injEq, Prod.mk.injEq] at e1
  obtain ⟨rfl, rfl⟩ := e1
  obtain ⟨d', b', e3, e4, e5⟩ := hk _ _ _ h
  cases e3; cases e5
  refine (pe_callB call_isi hg hm (by decide +kernel) (pa_cons (ha _ _ _ _ e2) (pa_cons hty pa_nil hb) he) (by decide) (by decide) he hpl).mono fun σ H Q ⟨α, F, s, re, kk⟩ =>
    ⟨α, F, s, re, fun v α1 F1 H1 x1 s1 r1 => ?_⟩
  rcases hf _ _ e4 with ⟨i, rfl, hb⟩ | ⟨i, rfl, hb⟩
  · cases r1
    exact ⟨.int i, .ty T, .type "int", .type T, b', rfl, .ty T, .base (.int i), kit_ty hb, (kk.ext x1).now s1 (.bl _)⟩
  · cases r1
    exact ⟨.bl i, .ty T, .type "bool", .type T, b', rfl, .ty T, .base (.bl i), kit_ty hb, (kk.ext x1).now s1 (.bl _)⟩
theorem pd_isInt {p2} (hm : X.mg "isinstance" = none) (hm2 : X.mg "int" = none) (ha : PEd ca Γ X a A) (hg : Gl X "isinstance" := by rfl) (hg2 : Gl X "int" := by rfl) (he : starEach (a :: [.Name "int" p2]) X.env = (false, eval a X.env) :: starEach [.Name "int" p2] X.env := by rfl)
    (hb : starEach (.Name "int" p2 :: []) X.env = (false, eval (.Name "int" p2) X.env) :: starEach [] X.env := by rfl) (hpl : (backTo pos (starEach [.Name "int" p2] X.env)).any (·.1) = false := by rfl) :
    PEd ca Γ X (.Call (.Name "isinstance" p) [a, .Name "int" p2] [] pos) (.bi .isInt false (.cons A .nil)) :=
  pd_isIB (T := "int") (fun d => match d with | .int _ => some true | .bl _ => some true | _ => none) (fun ds μ r h => by
    match ds, h with
    | [.int i], h => simp only [biD, Option.some.injEq] at h; exact ⟨_, true, rfl, rfl, h.symm⟩
    | [.bl i], h => simp only [biD, Option.some.injEq] at h; exact ⟨_, true, rfl, rfl, h.symm⟩) (fun d b h => by
    cases d <;> simp at h
    · subst h; exact .inr ⟨_, rfl, by decide +kernel⟩
    · subst h; exact .inl ⟨_, rfl, by decide +kernel⟩) hm ha (pe_bltn (v := .ty "int") hg2 hm2 (by decide +kernel) rfl) hg he hb hpl
theorem pd_isBool {p2} (hm : X.mg "isinstance" = none) (hm2 : X.mg "bool" = none) (ha : PEd ca Γ X a A) (hg : Gl X "isinstance" := by rfl) (hg2 : Gl X "bool" := by rfl) (he : starEach (a :: [.Name "bool" p2]) X.env = (false, eval a X.env) :: starEach [.Name "bool" p2] X.env := by rfl)
    (hb : starEach (.Name "bool" p2 :: []) X.env = (false, eval (.Name "bool" p2) X.env) :: starEach [] X.env := by rfl) (hpl : (backTo pos (starEach [.Name "bool" p2] X.env)).any (·.1) = false := by rfl) :
    PEd ca Γ X (.Call (.Name "isinstance" p) [a, .Name "bool" p2] [] pos) (.bi .isBool false (.cons A .nil)) :=
  pd_isIB (T := "bool") (fun d => match d with | .int _ => some false | .bl _ => some true | _ => none) (fun ds μ r h => by
    match ds, h with
    | [.int i], h => simp only [biD, Option.some.injEq] at h; exact ⟨_, false, rfl, rfl, h.symm⟩
    | [.bl i], h => simp only [biD, Option.some.injEq] at h; exact ⟨_, true, rfl, rfl, h.symm⟩) (fun d b h => by
    cases d <;> simp at h
    · subst h; exact .inr ⟨_, rfl, by decide +kernel⟩
    · subst h; exact .inl ⟨_, rfl, by decide +kernel⟩) hm ha (pe_bltn (v := .ty "bool") hg2 hm2 (by decide +kernel) rfl) hg he hb hpl
/-- what a class must have for isinstance -/
structure IsiC (K : PySem.W.Frag) (c : Addr) : Prop where
  cl : Cls K c
  ha : PySem.W.findIn K (.ref c) "__class__" = some (some (.builtin "object.__class__"))
  hn : PySem.W.specialIn K (.builtin "object.__class__") "__get__" = some (some (.builtin "getset_descriptor.__get__"))
  htk : PySem.W.takesIn K (.builtin "object.__class__") = some true
  hm : PySem.W.mroIn K c (.type "object") = some true
theorem ins_at {K : PySem.W.Frag} {α F H μ x v C'} (s : Sim K ca α F μ H) (r : Rep K ca α F v x) (h : cls x μ = some C') : ∃ a c dx fs, v = .ref a ∧ ca C' = some c ∧ H a = some (.ins c dx fs) := by
  cases r with
  | @obj a C c dx fs gs vv q1 q2 => simp [cls] at h; subst h; exact ⟨a, c, dx, fs, rfl, q1, s.sub _ _ q2⟩
  | @cell a n q =>
    simp only [cls] at h
    split at h
    · rename_i C gs hn
      cases h
      obtain ⟨c, dx, fs, p1, p2, _⟩ := s.cel _ _ _ hn q
      exact ⟨a, c, dx, fs, rfl, p1, p2⟩
    · cases h
  | _ => simp [cls] at h
theorem pd_isi {C : Str} {cc : Addr} {p2} (hm : X.mg "isinstance" = none) (hC : X.mg C = some (.ref cc)) (hi : ∀ C' c, ca C' = some c → IsiC X.K c ∧ PySem.W.kitOne X.K (.ref c) (.ref cc) = some (decide (C' = C))) (ha : PEd ca Γ X a A)
    (hg : Gl X "isinstance" := by rfl) (hg2 : Gl X C := by rfl) (hdb : (C == ("__debug__" : Str)) = false := by decide) (he : starEach (a :: [.Name C p2]) X.env = (false, eval a X.env) :: starEach [.Name C p2] X.env := by rfl)
    (hb : starEach (.Name C p2 :: []) X.env = (false, eval (.Name C p2) X.env) :: starEach [] X.env := by rfl) (hpl : (backTo pos (starEach [.Name C p2] X.env)).any (·.1) = false := by rfl) :
    PEd ca Γ X (.Call (.Name "isinstance" p) [a, .Name C p2] [] pos) (.isi A C) := by
  intro ρ μ d μ' h
  simp only [ev] at h
  obtain ⟨x, μ1, e1, h⟩ := bnd_eq h
  cases e : cls x μ1 with
  | none => rw [e] at h; cases h
  | some C' =>
    rw [e] at h; cases h
    refine (pe_callB call_isi hg hm (by decide +kernel) (pa_cons (ha _ _ _ _ e1) (pa_cons (pe_glob (v := .ref cc) hg2 hC rfl hdb) pa_nil hb) he) (by decide) (by decide) he hpl).mono fun σ H Q ⟨α, F, s, re, kk⟩ =>
      ⟨α, F, s, re, fun v α1 F1 H1 x1 s1 r1 => ?_⟩
    obtain ⟨a', c, dx, fs, rfl, hc, ho⟩ := ins_at s1 r1 e
    obtain ⟨I, hk⟩ := hi _ _ hc
    exact ⟨.ref a', .ref cc, .ref c, .ref cc, _, rfl, .own cc, .base (.ins ho I.cl I.ha I.hn I.htk I.hm), hk, (kk.ext x1).now s1 (.bl _)⟩
/-! ### methods of lists -/
theorem ty_list {K : PySem.W.Frag} {H a xs} (h : H a = some (.lst xs)) : tyV K "list" (.ref a) H := .inl ⟨rfl, xs, SqL.of h⟩
theorem cel_lst {K : PySem.W.Frag} {α F H μ n ds v} (s : Sim K ca α F μ H) (r : Rep K ca α F v (.cell n)) (h : μ[n]? = some (.lst ds)) : ∃ a vs, v = .ref a ∧ α[n]? = some a ∧ H a = some (.lst vs) ∧ Reps K ca α F vs ds := by
  cases r with
  | @cell a _ q => obtain ⟨vs, h1, h2⟩ := s.cel _ _ _ h q; exact ⟨a, vs, rfl, q, h1, h2⟩
theorem mt_of {k : Bi} {name : Str} {id : String} {r} (hs : ∀ x ds μ d μ', biD k false (x :: ds) μ = some (d, μ') → ∀ α F H v vs Q, Sim X.K ca α F μ H → Rep X.K ca α F v x → Reps X.K ca α F vs ds → Kon X.K ca α F d μ' Q → r v vs H Q)
    (slot : Slot "list" name id) (hty : typeOf (.builtin id) = pure (.type "method_descriptor")) (hm : MtR X id r) (ha : PEd ca Γ X a A) (he : PAd ca Γ X (e :: es) B) (hbase : attributeBase a name X.env (eval a X.env) = eval a X.env)
    (hfew : ((backTo cpos (starEach (e :: es) X.env)).all (fun x => !x.1) && (backToKw cpos (keywordEach [] X.env)).all (fun x => x.1.isSome) && decide ((e :: es).length + ([] : List Keyword).length + (if ([] : List Keyword).isEmpty then 0 else 1) < 30)) = true)
    (hline : (apos.endLine == cpos.line) = true) (hst : starEach (e :: es) X.env = (false, eval e X.env) :: starEach es X.env) (hplain : (backTo cpos (starEach es X.env)).any (·.1) = false) :
    PEd ca Γ X (.Call (.Attribute a name apos) (e :: es) [] cpos) (.mt k A B) := by
  intro ρ μ d μ' h
  simp only [ev] at h
  obtain ⟨x, μ1, e1, h⟩ := bnd_eq h
  split at h
  · rename_i hl
    obtain ⟨ds, μ2, e2, h⟩ := bnd_eq h
    obtain ⟨xs, hxs⟩ := Option.isSome_iff_exists.mp hl
    refine (pe_bm PySem.F.plainAttrs_list slot hty hm (ha _ _ _ _ e1) (he _ _ _ _ e2) hbase hfew hline hst hplain).mono fun σ H Q ⟨α, F, s, re, k⟩ =>
      ⟨α, F, s, re, fun v α1 F1 H1 x1 s1 r1 => ⟨?_, α1, F1, s1, re.mono x1, fun vs α2 F2 H2 x2 s2 r2 => hs _ _ _ _ _ h α2 F2 H2 v vs Q s2 (r1.mono x2) r2 (k.ext (x1.trans x2))⟩⟩
    obtain ⟨a', vs, rfl, q, _⟩ := listed_read s1 r1 hxs
    exact .inl ⟨rfl, vs, q⟩
  · cases h
theorem mt_of0 {k : Bi} {name : Str} {id : String} {r} (hs : ∀ x μ d μ', biD k false [x] μ = some (d, μ') → ∀ α F H v Q, Sim X.K ca α F μ H → Rep X.K ca α F v x → Kon X.K ca α F d μ' Q → r v [] H Q)
    (slot : Slot "list" name id) (hty : typeOf (.builtin id) = pure (.type "method_descriptor")) (hm : MtR X id r) (ha : PEd ca Γ X a A) (hbase : attributeBase a name X.env (eval a X.env) = eval a X.env) (hline : (apos.endLine == cpos.line) = true) :
    PEd ca Γ X (.Call (.Attribute a name apos) [] [] cpos) (.mt k A .nil) := by
  intro ρ μ d μ' h
  simp only [ev] at h
  obtain ⟨x, μ1, e1, h⟩ := bnd_eq h
  split at h
  · rename_i hl
    simp only [evs, bnd_some] at h
    obtain ⟨xs, hxs⟩ := Option.isSome_iff_exists.mp hl
    refine (pe_bm0 PySem.F.plainAttrs_list slot hty hm (ha _ _ _ _ e1) hbase hline).mono fun σ H Q ⟨α, F, s, re, k⟩ =>
      ⟨α, F, s, re, fun v α1 F1 H1 x1 s1 r1 => ⟨?_, hs _ _ _ _ h α1 F1 H1 v Q s1 r1 (k.ext x1)⟩⟩
    obtain ⟨a', vs, rfl, q, _⟩ := listed_read s1 r1 hxs
    exact .inl ⟨rfl, vs, q⟩
  · cases h
theorem wr_lst {K : PySem.W.Frag} {α F H μ n a ds ds' d Q} {vs' : List V} (s : Sim K ca α F μ H) (hn : μ[n]? = some (.lst ds)) (ha : α[n]? = some a) (rs : Reps K ca α F vs' ds') {v : V} (rd : Rep K ca α F v d) (k : Kon K ca α F d (μ.set n (.lst ds')) Q) : Q v (upd H a (.lst vs')) :=
  k _ _ _ _ (Ext.refl _ _) (s.write hn (fun z => nomatch z) ha ⟨vs', upd_same, rs⟩ (fun z => nomatch z)) rd
theorem pm_append (ha : PEd ca Γ X a A) (he : PAd ca Γ X (e :: es) B) (hbase : attributeBase a "append" X.env (eval a X.env) = eval a X.env := by rfl)
    (hfew : ((backTo cpos (starEach (e :: es) X.env)).all (fun x => !x.1) && (backToKw cpos (keywordEach [] X.env)).all (fun x => x.1.isSome) && decide ((e :: es).length + ([] : List Keyword).length + (if ([] : List Keyword).isEmpty then 0 else 1) < 30)) = true := by rfl)
    (hline : (apos.endLine == cpos.line) = true := by rfl) (hst : starEach (e :: es) X.env = (false, eval e X.env) :: starEach es X.env := by rfl) (hplain : (backTo cpos (starEach es X.env)).any (·.1) = false := by rfl) :
    PEd ca Γ X (.Call (.Attribute a "append" apos) (e :: es) [] cpos) (.mt .append A B) :=
  mt_of (r := rAppend) (fun x ds μ d μ' h α F H v vs Q s r1 r2 k => by
    match x, ds, h with
    | .cell n, [y], h =>
      simp only [biD] at h
      split at h
      · rename_i es hn
        split at h
        · rename_i hl
          cases h
          obtain ⟨a', ws, rfl, hα, h1, rs⟩ := cel_lst s r1 hn
          obtain ⟨w, rfl, r3⟩ := one_read r2
          exact ⟨a', ws, w, rfl, rfl, h1, by rw [rs.1]; exact hl, wr_lst s hn hα (rs.append (.cons r3 .nil)) .non k⟩
        · cases h
      · cases h) PySem.F.slot_list_append PySem.F.type_list_append mt_append ha he hbase hfew hline hst hplain
theorem reps_dropLast {K : PySem.W.Frag} {α F} {vs : List V} {ds : List D} (r : Reps K ca α F vs ds) : Reps K ca α F vs.dropLast ds.dropLast := by
  rw [List.dropLast_eq_take, List.dropLast_eq_take, r.1]; exact r.take _
theorem pm_pop (ha : PEd ca Γ X a A) (hbase : attributeBase a "pop" X.env (eval a X.env) = eval a X.env := by rfl) (hline : (apos.endLine == cpos.line) = true := by rfl) :
    PEd ca Γ X (.Call (.Attribute a "pop" apos) [] [] cpos) (.mt .pop A .nil) :=
  mt_of0 (r := rPop) (fun x μ d μ' h α F H v Q s r1 k => by
    match x, h with
    | .cell n, h =>
      simp only [biD] at h
      split at h
      · rename_i es hn
        cases e : es[es.length - 1]? with
        | none => rw [e] at h; cases h
        | some y =>
          rw [e] at h; cases h
          obtain ⟨a', ws, rfl, hα, h1, rs⟩ := cel_lst s r1 hn
          obtain ⟨w, h2, r3⟩ := rs.get e
          exact ⟨a', ws, w, rfl, rfl, h1, by rw [rs.1]; exact h2, wr_lst s hn hα (reps_dropLast rs) r3 k⟩
      · cases h) PySem.F.slot_list_pop PySem.F.type_list_pop mt_pop ha hbase hline
theorem pm_pop0 (ha : PEd ca Γ X a A) (he : PAd ca Γ X (e :: es) B) (hbase : attributeBase a "pop" X.env (eval a X.env) = eval a X.env := by rfl)
    (hfew : ((backTo cpos (starEach (e :: es) X.env)).all (fun x => !x.1) && (backToKw cpos (keywordEach [] X.env)).all (fun x => x.1.isSome) && decide ((e :: es).length + ([] : List Keyword).length + (if ([] : List Keyword).isEmpty then 0 else 1) < 30)) = true := by rfl)
    (hline : (apos.endLine == cpos.line) = true := by rfl) (hst : starEach (e :: es) X.env = (false, eval e X.env) :: starEach es X.env := by rfl) (hplain : (backTo cpos (starEach es X.env)).any (·.1) = false := by rfl) :
    PEd ca Γ X (.Call (.Attribute a "pop" apos) (e :: es) [] cpos) (.mt .pop0 A B) :=
  mt_of (r := rPopAt) (fun x ds μ d μ' h α F H v vs Q s r1 r2 k => by
    match x, ds, h with
    | .cell n, [.int i], h =>
      simp only [biD] at h
      split at h
      · rename_i es hn
        split at h
        · rename_i hl
          obtain ⟨j, e3, h⟩ := Option.bind_eq_some_iff.mp h
          cases e : es[j]? with
          | none => rw [e] at h; cases h
          | some y =>
            rw [e] at h; cases h
            obtain ⟨a', ws, rfl, hα, h1, rs⟩ := cel_lst s r1 hn
            obtain ⟨w, rfl, r3⟩ := one_read r2
            cases r3
            obtain ⟨w', h2, r4⟩ := rs.get e
            exact ⟨a', ws, i, j, w', rfl, rfl, h1, hl.1, hl.2, by rw [rs.1]; exact e3, h2, wr_lst s hn hα (rs.eraseIdx j) r4 k⟩
        · cases h
      · cases h) PySem.F.slot_list_pop PySem.F.type_list_pop mt_popAt ha he hbase hfew hline hst hplain
theorem pm_index (ha : PEd ca Γ X a A) (he : PAd ca Γ X (e :: es) B) (hbase : attributeBase a "index" X.env (eval a X.env) = eval a X.env := by rfl)
    (hfew : ((backTo cpos (starEach (e :: es) X.env)).all (fun x => !x.1) && (backToKw cpos (keywordEach [] X.env)).all (fun x => x.1.isSome) && decide ((e :: es).length + ([] : List Keyword).length + (if ([] : List Keyword).isEmpty then 0 else 1) < 30)) = true := by rfl)
    (hline : (apos.endLine == cpos.line) = true := by rfl) (hst : starEach (e :: es) X.env = (false, eval e X.env) :: starEach es X.env := by rfl) (hplain : (backTo cpos (starEach es X.env)).any (·.1) = false := by rfl) :
    PEd ca Γ X (.Call (.Attribute a "index" apos) (e :: es) [] cpos) (.mt .index A B) :=
  mt_of (r := rIndex X.K) (fun x ds μ d μ' h α F H v vs Q s r1 r2 k => by
    match ds, h with
    | [y], h =>
      simp only [biD] at h
      obtain ⟨es, e3, h⟩ := Option.bind_eq_some_iff.mp h
      split at h
      · rename_i hf
        simp only [Bool.and_eq_true] at hf
        cases e : es.findIdx? (fun z => eqF z y) with
        | none => rw [e] at h; cases h
        | some i =>
          rw [e] at h; cases h
          obtain ⟨a', ws, rfl, q, rs⟩ := listed_read s r1 e3
          obtain ⟨w, rfl, r3⟩ := one_read r2
          obtain ⟨h1, h2⟩ := rep_flat r3 hf.1
          obtain ⟨h3, h4⟩ := reps_flat rs hf.2
          obtain ⟨hi, hz, hno⟩ := List.findIdx?_eq_some_iff_getElem.mp e
          subst h1 h3
          refine ⟨a', _, _, i, (es[i]).toV, rfl, rfl, q, h2, h4, by simp [hi], hz, fun m z' hm hz' => ?_, k.now s (.int _)⟩
          rw [List.getElem?_map] at hz'
          cases e5 : es[m]? with
          | none => rw [e5] at hz'; cases hz'
          | some u =>
            rw [e5] at hz'; cases hz'
            have hml : m < es.length := (List.getElem?_eq_some_iff.mp e5).1
            have := hno m hm
            have e6 : es[m] = u := by have := (List.getElem?_eq_some_iff.mp e5).2; exact this
            simp only [eqF] at this
            rw [e6] at this
            cases hq : eqV u.toV y.toV with
            | false => rfl
            | true => exact absurd hq (by simpa using this)
      · cases h) PySem.F.slot_list_index PySem.F.type_list_index mt_index ha he hbase hfew hline hst hplain
end
end DP

/-! Rules: calls of defs, methods, classes. -/
namespace DP
open PySem PySem.Spec L2

/-- what a def promises that does f to data -/
def spD (K : PySem.W.Frag) (ca : Str → Option Addr) (f : List D → Sto → Option (D × Sto)) (n : Nat) : Sp := fun vs H Q _ =>
  vs.length = n ∧ ∃ α F μ ds r μ', Sim K ca α F μ H ∧ Reps K ca α F vs ds ∧ f ds μ = some (r, μ') ∧ Kon K ca α F r μ' Q
/-- how a call binds: n positional values, keywords ks, the constants that fill up -/
def BindOf (K : PySem.W.Frag) (fd : FuncData) (ps : List Str) (n : Nat) (ks : List Str) (dds : List D) : Prop :=
  ∃ (dvs : List V) (dus : List Value), Vals dvs dus ∧ (∀ ca α F, Reps K ca α F dvs dds) ∧ n + (ks.length + dds.length) = ps.length ∧ ∀ (s : Shared) (us ws : List Value), K.In s.heap → us.length = n → ws.length = ks.length → BindsTo s fd ⟨us, ks.zip ws⟩ (ps.zip (us ++ (ws ++ dus)))
section
variable {ca : Str → Option Addr} {Γ : Pr} {X : Cx} {a b c e o : Expr} {A B C : E} {pos p apos : Pos} {es : List Expr} {kws : List Keyword} {k : Nat} {f : Addr} {fd : FuncData} {ps ks : List Str} {dds : List D}
/-- the arguments: positional ones, keywords, what fills up -/
def PArgs (ca : Str → Option Addr) (Γ : Pr) (X : Cx) (es : List Expr) (kws : List Keyword) (dds : List D) (A : E) : Prop := ∀ ρ μ ds μ', evs Γ A ρ μ = some (ds, μ') →
  ∃ ds1 ds2 μ1, ds = ds1 ++ (ds2 ++ dds) ∧ ds1.length = es.length ∧ ds2.length = kws.length ∧ PA X es (tDs X.K ca ρ μ ds1 μ1) ∧ PK X kws (tDs X.K ca ρ μ1 ds2 μ')
def constE : List D → E
  | [] => .nil
  | d :: ds => .cons (.c d) (constE ds)
theorem evs_const (ρ : Rho) (μ : Sto) : ∀ ds : List D, evs Γ (constE ds) ρ μ = some (ds, μ)
  | [] => by simp [constE, evs]
  | d :: ds => by simp [constE, evs, ev, evs_const ρ μ ds]
theorem pk_nilD {ρ : Rho} {μ : Sto} : PK X [] (tDs X.K ca ρ μ [] μ) := pk_nil.mono fun σ H Q ⟨α, F, s, re, k⟩ => k [] α F H (Ext.refl _ _) s .nil
theorem pa_nilD {ρ : Rho} {μ : Sto} : PA X [] (tDs X.K ca ρ μ [] μ) := pa_nil.mono fun σ H Q ⟨α, F, s, re, k⟩ => k [] α F H (Ext.refl _ _) s .nil
def PKw (ca : Str → Option Addr) (Γ : Pr) (X : Cx) (kws : List Keyword) (dds : List D) (A : E) : Prop := ∀ ρ μ ds μ', evs Γ A ρ μ = some (ds, μ') →
  ∃ ds2, ds = ds2 ++ dds ∧ ds2.length = kws.length ∧ PK X kws (tDs X.K ca ρ μ ds2 μ')
theorem kw_d (dds : List D) : PKw ca Γ X [] dds (constE dds) := fun ρ μ ds μ' h => by
  rw [evs_const] at h
  cases h
  exact ⟨[], rfl, rfl, pk_nilD⟩
theorem kw_0 : PKw ca Γ X [] [] .nil := kw_d []
theorem kw_1 {d : D} : PKw ca Γ X [] [d] (.cons (.c d) .nil) := kw_d [d]
theorem kw_2 {d d' : D} : PKw ca Γ X [] [d, d'] (.cons (.c d) (.cons (.c d') .nil)) := kw_d [d, d']
theorem kw_c {nm : Option Str} {kpos : Pos} (he : PEd ca Γ X e A) (h : PKw ca Γ X kws dds B) : PKw ca Γ X (⟨nm, e, kpos⟩ :: kws) dds (.cons A B) := fun ρ μ ds μ' h' => by
  simp only [evs] at h'
  obtain ⟨x, μ1, e1, h'⟩ := bnd_eq h'
  obtain ⟨xs, μ2, e2, h'⟩ := bnd_eq h'
  cases h'
  obtain ⟨ds2, rfl, l2, hk⟩ := h _ _ _ _ e2
  refine ⟨x :: ds2, rfl, by simp [l2], ?_⟩
  exact (pk_cons (he _ _ _ _ e1) hk).mono fun σ H Q ⟨α, F, s, re, k⟩ =>
    ⟨α, F, s, re, fun v α1 F1 H1 x1 s1 r1 => ⟨α1, F1, s1, re.mono x1, fun vs α2 F2 H2 x2 s2 r2 => k (v :: vs) α2 F2 H2 (x1.trans x2) s2 (.cons (r1.mono x2) r2)⟩⟩
theorem ag_n (h : PKw ca Γ X kws dds B) : PArgs ca Γ X [] kws dds B := fun ρ μ ds μ' h' => by
  obtain ⟨ds2, rfl, l2, hk⟩ := h _ _ _ _ h'
  exact ⟨[], ds2, μ, rfl, rfl, l2, pa_nilD, hk⟩
theorem ag_c (he : PEd ca Γ X e A) (h : PArgs ca Γ X es kws dds B) (hs : starEach (e :: es) X.env = (false, eval e X.env) :: starEach es X.env := by rfl) : PArgs ca Γ X (e :: es) kws dds (.cons A B) := fun ρ μ ds μ' h' => by
  simp only [evs] at h'
  obtain ⟨x, μ1, e1, h'⟩ := bnd_eq h'
  obtain ⟨xs, μ2, e2, h'⟩ := bnd_eq h'
  cases h'
  obtain ⟨ds1, ds2, μ3, rfl, l1, l2, hp, hk⟩ := h _ _ _ _ e2
  refine ⟨x :: ds1, ds2, μ3, rfl, by simp [l1], l2, ?_, hk⟩
  exact (pa_cons (he _ _ _ _ e1) hp hs).mono fun σ H Q ⟨α, F, s, re, k⟩ =>
    ⟨α, F, s, re, fun v α1 F1 H1 x1 s1 r1 => ⟨α1, F1, s1, re.mono x1, fun vs α2 F2 H2 x2 s2 r2 => k (v :: vs) α2 F2 H2 (x1.trans x2) s2 (.cons (r1.mono x2) r2)⟩⟩
/-- .. without keywords -/
def PAdd (ca : Str → Option Addr) (Γ : Pr) (X : Cx) (es : List Expr) (dds : List D) (A : E) : Prop := ∀ ρ μ ds μ', evs Γ A ρ μ = some (ds, μ') →
  ∃ ds1, ds = ds1 ++ dds ∧ ds1.length = es.length ∧ PA X es (tDs X.K ca ρ μ ds1 μ')
theorem ad_d (dds : List D) : PAdd ca Γ X [] dds (constE dds) := fun ρ μ ds μ' h => by
  rw [evs_const] at h
  cases h
  exact ⟨[], rfl, rfl, pa_nilD⟩
theorem ad_0 : PAdd ca Γ X [] [] .nil := ad_d []
theorem ad_1 {d : D} : PAdd ca Γ X [] [d] (.cons (.c d) .nil) := ad_d [d]
theorem ad_2 {d d' : D} : PAdd ca Γ X [] [d, d'] (.cons (.c d) (.cons (.c d') .nil)) := ad_d [d, d']
theorem ad_c (he : PEd ca Γ X e A) (h : PAdd ca Γ X es dds B) (hs : starEach (e :: es) X.env = (false, eval e X.env) :: starEach es X.env := by rfl) : PAdd ca Γ X (e :: es) dds (.cons A B) := fun ρ μ ds μ' h' => by
  simp only [evs] at h'
  obtain ⟨x, μ1, e1, h'⟩ := bnd_eq h'
  obtain ⟨xs, μ2, e2, h'⟩ := bnd_eq h'
  cases h'
  obtain ⟨ds1, rfl, l1, hp⟩ := h _ _ _ _ e2
  refine ⟨x :: ds1, rfl, by simp [l1], ?_⟩
  exact (pa_cons (he _ _ _ _ e1) hp hs).mono fun σ H Q ⟨α, F, s, re, k⟩ =>
    ⟨α, F, s, re, fun v α1 F1 H1 x1 s1 r1 => ⟨α1, F1, s1, re.mono x1, fun vs α2 F2 H2 x2 s2 r2 => k (v :: vs) α2 F2 H2 (x1.trans x2) s2 (.cons (r1.mono x2) r2)⟩⟩
/-- the callee runs -/
theorem run_fnG {sp : Sp} {pins : List (Addr × Obj)} {σ : L2.St} {H : Hp} {s : Shared} {Q : VK} {us bs : List Value} {vs : List V} {kw : List (Str × Value)} (F : FnOk X.prog X.w X.K X.mg X.base CX0 k f fd ps sp) (hr : Room k X.A) (hb : BindsTo s fd ⟨us, kw⟩ (ps.zip bs))
    (I : L2.Inv X pins σ H s) (r : Vals vs bs) (h : sp vs H Q E0) : wpAny (model X.prog X.w) X.A (call (.ref f) us kw) (EP X pins σ Q) X.xe s := by
  refine wpAny_call (codeAny_mono (F.run X.A X.stack s H ⟨us, kw⟩ bs vs Q E0 hr I.env0 hb r h) fun r s' hq => ?_)
  cases r with
  | error e => exact False.elim hq
  | ok fl =>
    cases fl with
    | ret u => exact I.after hq
    | next => exact False.elim hq
    | brk => exact False.elim hq
    | cont => exact False.elim hq
/-- behind the arguments -/
theorem args_run {g : List D → Sto → Option (D × Sto)} {pins : List (Addr × Obj)} {σ : L2.St} {H : Hp} {s : Shared} {Q : VK} {first us ws : List Value} {fvs vs zs : List V} {α F μ fds ds1 ds2 d μ'}
    (G : FnOk X.prog X.w X.K X.mg X.base CX0 k f fd ps (spD X.K ca g ps.length)) (hr : Room k X.A) (hb : BindOf X.K fd ps (fds.length + ds1.length) ks dds) (hk : ds2.length = ks.length)
    (I : L2.Inv X pins σ H s) (rf : Vals fvs first) (r1 : Vals vs us) (r2 : Vals zs ws) (sm : Sim X.K ca α F μ H) (q0 : Reps X.K ca α F fvs fds) (q1 : Reps X.K ca α F vs ds1) (q2 : Reps X.K ca α F zs ds2) (e : g (fds ++ (ds1 ++ (ds2 ++ dds))) μ = some (d, μ')) (kk : Kon X.K ca α F d μ' Q) :
    wpAny (model X.prog X.w) X.A (call (.ref f) (first ++ us) (ks.zip ws)) (EP X pins σ Q) X.xe s := by
  obtain ⟨dvs, dus, rd, qd, hl, hbt⟩ := hb
  have l1 : (first ++ us).length = fds.length + ds1.length := by rw [List.length_append, ← rf.length, ← r1.length, q0.1, q1.1]
  have l2 : ws.length = ks.length := by rw [← r2.length, q2.1, hk]
  have rv : Vals ((fvs ++ vs) ++ (zs ++ dvs)) ((first ++ us) ++ (ws ++ dus)) := (rf.append r1).append (r2.append rd)
  refine run_fnG (vs := (fvs ++ vs) ++ (zs ++ dvs)) G hr (hbt s _ _ I.kIn l1 l2) I rv ⟨?_, α, F, μ, (fds ++ ds1) ++ (ds2 ++ dds), d, μ', sm, (q0.append q1).append (q2.append (qd ca α F)), by rw [List.append_assoc]; exact e, kk⟩
  rw [List.length_append, List.length_append, List.length_append, q0.1, q1.1, q2.1, (qd ca α F).1, hk]; omega

/-! ### defs of the module -/
structure FnI (P : Program) (w : World) (K : PySem.W.Frag) (mg : Str → Option Value) (base : Heap) (ca : Str → Option Addr) (k : Nat) (x : Str) (g : List D → Sto → Option (D × Sto)) (n : Nat) (ks : List Str) (dds : List D) : Prop where
  ex : ∃ f fd ps, FnOk P w K mg base CX0 k f fd ps (spD K ca g ps.length) ∧ mg x = some (.ref f) ∧ PySem.W.keepIn K (.ref f) = true ∧ BindOf K fd ps n ks dds
/-- what stands behind a step of arguments -/
def Got (K : PySem.W.Frag) (ca : Str → Option Addr) (α : List Addr) (F : Hp) (ds : List D) (μ' : Sto) (vs : List V) (H1 : Hp) : Prop := ∃ α1 F1, Ext α F α1 F1 ∧ Sim K ca α1 F1 μ' H1 ∧ Reps K ca α1 F1 vs ds
theorem tDs_got {K : PySem.W.Frag} {ρ μ ds μ' σ H α F} (s : Sim K ca α F μ H) (re : RE K ca α F σ ρ) : tDs K ca ρ μ ds μ' σ H (Got K ca α F ds μ') := ⟨α, F, s, re, fun vs α1 F1 H1 x1 s1 r1 => ⟨α1, F1, x1, s1, r1⟩⟩
theorem pd_call {x : Str} {n : Nat} (G : FnI X.prog X.w X.K X.mg X.base ca k x (Γ.call x) n [] dds) (hr : Room k X.A) (ha : PAdd ca Γ X (e :: es) dds A) (hn : (e :: es).length = n := by rfl) (hg : Gl X x := by rfl)
    (hdb : (x == ("__debug__" : Str)) = false := by decide) (he : starEach (e :: es) X.env = (false, eval e X.env) :: starEach es X.env := by rfl) (hpl : (backTo pos (starEach es X.env)).any (·.1) = false := by rfl) :
    PEd ca Γ X (.Call (.Name x p) (e :: es) [] pos) (.call x A) := by
  obtain ⟨f, fd, ps, G, hm, hk, hb⟩ := G.ex
  intro ρ μ d μ' h
  simp only [ev] at h
  obtain ⟨ds, μ1, e1, h⟩ := bnd_eq h
  obtain ⟨ds1, rfl, l1, hp⟩ := ha _ _ _ _ e1
  refine ⟨fun pins s σ H Q I ⟨α, F, sm, re, kk⟩ => ?_⟩
  refine wpAny_Call_Name_kw (ld_glob I hg hm ?_ hdb)
  refine PySem.W.callWith_K (h₀ := X.base) I.ok.mod.kin hk (thn (hp.run pos pins s σ H _ I (tDs_got sm re)) fun us s1 ⟨vs, H1, I1, r, α1, F1, x1, s1', q⟩ => ⟨I1.kIn, ?_⟩) he hpl
  have := args_run (first := []) (fvs := []) (fds := []) (zs := []) (ws := []) (ks := []) (ds2 := []) G hr (by rw [← hn, ← l1] at hb; simpa using hb) rfl I1 .nil r .nil s1' .nil q .nil (by simpa using h) (kk.ext x1)
  simpa using this
/-! ### f(e, .., k = v) -/
theorem pd_callK {x : Str} {n : Nat} (G : FnI X.prog X.w X.K X.mg X.base ca k x (Γ.call x) n ks dds) (hr : Room k X.A) (ha : PArgs ca Γ X (e :: es) kws dds A) (hn : (e :: es).length = n := by rfl) (hkl : kws.length = ks.length := by rfl) (hg : Gl X x := by rfl)
    (hall : (backToKw pos (keywordEach kws X.env)).all (·.1.isSome) = true := by rfl) (hks : (backToKw pos (keywordEach kws X.env)).filterMap (·.1) = ks := by rfl)
    (hdb : (x == ("__debug__" : Str)) = false := by decide) (he : starEach (e :: es) X.env = (false, eval e X.env) :: starEach es X.env := by rfl)
    (hpl : ((backTo pos (starEach (e :: es) X.env)).any (·.1) || (backToKw pos (keywordEach kws X.env)).any (·.1.isNone)) = false := by rfl) :
    PEd ca Γ X (.Call (.Name x p) (e :: es) kws pos) (.call x A) := by
  obtain ⟨f, fd, ps, G, hm, hk, hb⟩ := G.ex
  intro ρ μ d μ' h
  simp only [ev] at h
  obtain ⟨ds, μ1, e1, h⟩ := bnd_eq h
  obtain ⟨ds1, ds2, μ2, rfl, l1, l2, hp, hkw⟩ := ha _ _ _ _ e1
  refine ⟨fun pins s σ H Q I ⟨α, F, sm, re, kk⟩ => ?_⟩
  refine wpAny_Call_Name_kw (ld_glob I hg hm ?_ hdb)
  refine PySem.W.callWith_KW (h₀ := X.base) I.ok.mod.kin hk hall (thn (hp.run pos pins s σ H _ I (tDs_got sm re)) fun us s1 ⟨vs, H1, I1, r, α1, F1, x1, s1', q⟩ => ?_) hpl he
  refine thn (hkw.run pos pins s1 σ H1 _ I1 (tDs_got s1' (re.mono x1))) fun ws s2 ⟨zs, H2, I2, rz, α2, F2, x2, s2', q2⟩ => ⟨I2.kIn, ?_⟩
  rw [hks]
  have := args_run (first := []) (fvs := []) (fds := []) G hr (by rw [← hn, ← l1] at hb; simpa using hb) (by rw [l2, hkl]) I2 .nil r rz s2' .nil (q.mono x2) q2 (by simpa using h) (kk.ext (x1.trans x2))
  simpa using this
/-! ### methods -/
structure MethI (P : Program) (w : World) (K : PySem.W.Frag) (mg : Str → Option Value) (base : Heap) (ca : Str → Option Addr) (k : Nat) (m : Str) (g : Str → List D → Sto → Option (D × Sto)) (n : Nat) (ks : List Str) (dds : List D) : Prop where
  ex : ∀ C ds μ r, g C ds μ = some r → ∃ c f fd ps, ca C = some c ∧ Cls K c ∧ Meth K c m f ∧ FnOk P w K mg base CX0 k f fd ps (spD K ca (g C) ps.length) ∧ BindOf K fd ps (n + 1) ks dds
theorem recv_at {K : PySem.W.Frag} {α F H μ x v C m} (s : Sim K ca α F μ H) (r : Rep K ca α F v x) (h : recv x m μ = some C) : ∃ a c dx fs, v = .ref a ∧ ca C = some c ∧ H a = some (.ins c dx fs) ∧ fs.lookup m = none := by
  cases r with
  | @obj a C c dx fs gs vv q1 q2 q3 =>
    simp only [recv] at h
    split at h
    · rename_i e; cases h; exact ⟨a, c, dx, fs, rfl, q1, s.sub _ _ q2, q3 m e⟩
    · cases h
  | @cell a n q =>
    simp only [recv] at h
    split at h
    · rename_i C gs hn
      split at h
      · rename_i e
        cases h
        obtain ⟨c, dx, fs, p1, p2, p3, _⟩ := s.cel _ _ _ hn q
        exact ⟨a, c, dx, fs, rfl, p1, p2, (p3 m).1 e⟩
      · cases h
    · cases h
  | _ => simp [recv] at h
theorem pd_meth {m : Str} {n : Nat} {pl : Sem Bool} (G : MethI X.prog X.w X.K X.mg X.base ca k m (fun C => Γ.meth C m) n [] dds) (hr : Room k X.A) (ho : PEd ca Γ X o B) (ha : PAdd ca Γ X (e :: es) dds A) (hn : (e :: es).length = n := by rfl)
    (hst : starEach (e :: es) X.env = (false, eval e X.env) :: starEach es X.env := by rfl) (hpl : (backTo pos (starEach es X.env)).any (·.1) = false := by rfl)
    (ht : eval (.Call (.Attribute o m apos) (e :: es) [] pos) X.env = (do
      let ov ← eval o X.env
      standAt apos.atName
      let (f, first) ← holding [ov] (getMethod ov m pl)
      callWith pos f first (backTo pos (starEach (e :: es) X.env)) (backToKw pos (keywordEach [] X.env))) := by rfl) :
    PEd ca Γ X (.Call (.Attribute o m apos) (e :: es) [] pos) (.meth B m A) := by
  intro ρ μ d μ' h
  simp only [ev] at h
  obtain ⟨x, μ1, e1, h⟩ := bnd_eq h
  obtain ⟨C, e2, h⟩ := Option.bind_eq_some_iff.mp h
  obtain ⟨ds, μ2, e3, h⟩ := bnd_eq h
  obtain ⟨ds1, rfl, l1, hp⟩ := ha _ _ _ _ e3
  obtain ⟨c, f, fd, ps, hc, hcl, hm, G, hb⟩ := G.ex _ _ _ _ h
  refine ⟨fun pins s σ H Q I ⟨α, F, sm, re, kk⟩ => ?_⟩
  refine PySem.W.methodCall_KW (pl := pl) (thn ((ho _ _ _ _ e1).run pins s σ H (fun v H1 => ∃ α1 F1, Ext α F α1 F1 ∧ Sim X.K ca α1 F1 μ1 H1 ∧ Rep X.K ca α1 F1 v x) I ⟨α, F, sm, re, fun v α1 F1 H1 x1 s1 r1 => ⟨α1, F1, x1, s1, r1⟩⟩) fun u s1 ⟨v, H1, I1, rx, α1, F1, x1, s1', r1⟩ => ?_) ht
  obtain ⟨a, c', dx, fs, rfl, hc', ea, l⟩ := recv_at s1' r1 e2
  rw [hc] at hc'; cases hc'
  obtain rfl : u = Value.ref a := rx
  refine getmeth_ok I1 ea hcl hm l ?_
  refine PySem.W.callWith_K (first := [.ref a]) (h₀ := X.base) I.ok.mod.kin hm.kp (thn (hp.run pos pins s1 σ H1 _ I1 (tDs_got s1' (re.mono x1))) fun us s2 ⟨vs, H2, I2, r, α2, F2, x2, s2', q⟩ => ⟨I2.kIn, ?_⟩) hst hpl
  have := args_run (first := [.ref a]) (fvs := [.ref a]) (fds := [x]) (zs := []) (ws := []) (ks := []) (ds2 := []) G hr (by rw [← hn, ← l1, Nat.add_comm] at hb; exact hb) rfl I2 (.cons rfl .nil) r .nil s2' (.cons (r1.mono x2) .nil) q .nil (by simpa using h) (kk.ext (x1.trans x2))
  simpa using this
theorem pd_meth0 {m : Str} {pl : Sem Bool} (G : MethI X.prog X.w X.K X.mg X.base ca k m (fun C => Γ.meth C m) 0 [] dds) (hr : Room k X.A) (ho : PEd ca Γ X o B)
    (ht : eval (.Call (.Attribute o m apos) [] [] pos) X.env = (do
      let ov ← eval o X.env
      standAt apos.atName
      let (f, first) ← holding [ov] (getMethod ov m pl)
      callWith pos f first (backTo pos (starEach [] X.env)) (backToKw pos (keywordEach [] X.env))) := by rfl) :
    PEd ca Γ X (.Call (.Attribute o m apos) [] [] pos) (.meth B m (constE dds)) := by
  intro ρ μ d μ' h
  simp only [ev] at h
  obtain ⟨x, μ1, e1, h⟩ := bnd_eq h
  obtain ⟨C, e2, h⟩ := Option.bind_eq_some_iff.mp h
  rw [evs_const, bnd_some] at h
  obtain ⟨c, f, fd, ps, hc, hcl, hm, G, hb⟩ := G.ex _ _ _ _ h
  refine ⟨fun pins s σ H Q I ⟨α, F, sm, re, kk⟩ => ?_⟩
  refine PySem.W.methodCall_KW (pl := pl) (thn ((ho _ _ _ _ e1).run pins s σ H (fun v H1 => ∃ α1 F1, Ext α F α1 F1 ∧ Sim X.K ca α1 F1 μ1 H1 ∧ Rep X.K ca α1 F1 v x) I ⟨α, F, sm, re, fun v α1 F1 H1 x1 s1 r1 => ⟨α1, F1, x1, s1, r1⟩⟩) fun u s1 ⟨v, H1, I1, rx, α1, F1, x1, s1', r1⟩ => ?_) ht
  obtain ⟨a, c', dx, fs, rfl, hc', ea, l⟩ := recv_at s1' r1 e2
  rw [hc] at hc'; cases hc'
  obtain rfl : u = Value.ref a := rx
  refine getmeth_ok I1 ea hcl hm l ?_
  refine PySem.W.callWith_K0 (first := [.ref a]) I1.kIn hm.kp ?_
  have := args_run (first := [.ref a]) (fvs := [.ref a]) (fds := [x]) (us := []) (vs := []) (ds1 := []) (zs := []) (ws := []) (ks := []) (ds2 := []) G hr hb rfl I1 (.cons rfl .nil) .nil .nil s1' (.cons r1 .nil) .nil .nil (by simpa using h) (kk.ext x1)
  simpa using this
theorem pd_methK {m : Str} {n : Nat} {pl : Sem Bool} (G : MethI X.prog X.w X.K X.mg X.base ca k m (fun C => Γ.meth C m) n ks dds) (hr : Room k X.A) (ho : PEd ca Γ X o B) (ha : PArgs ca Γ X (e :: es) kws dds A) (hn : (e :: es).length = n := by rfl) (hkl : kws.length = ks.length := by rfl)
    (hall : (backToKw pos (keywordEach kws X.env)).all (·.1.isSome) = true := by rfl) (hks : (backToKw pos (keywordEach kws X.env)).filterMap (·.1) = ks := by rfl)
    (hst : starEach (e :: es) X.env = (false, eval e X.env) :: starEach es X.env := by rfl) (hpl : ((backTo pos (starEach (e :: es) X.env)).any (·.1) || (backToKw pos (keywordEach kws X.env)).any (·.1.isNone)) = false := by rfl)
    (ht : eval (.Call (.Attribute o m apos) (e :: es) kws pos) X.env = (do
      let ov ← eval o X.env
      standAt apos.atName
      let (f, first) ← holding [ov] (getMethod ov m pl)
      callWith pos f first (backTo pos (starEach (e :: es) X.env)) (backToKw pos (keywordEach kws X.env))) := by rfl) :
    PEd ca Γ X (.Call (.Attribute o m apos) (e :: es) kws pos) (.meth B m A) := by
  intro ρ μ d μ' h
  simp only [ev] at h
  obtain ⟨x, μ1, e1, h⟩ := bnd_eq h
  obtain ⟨C, e2, h⟩ := Option.bind_eq_some_iff.mp h
  obtain ⟨ds, μ2, e3, h⟩ := bnd_eq h
  obtain ⟨ds1, ds2, μ3, rfl, l1, l2, hp, hkw⟩ := ha _ _ _ _ e3
  obtain ⟨c, f, fd, ps, hc, hcl, hm, G, hb⟩ := G.ex _ _ _ _ h
  refine ⟨fun pins s σ H Q I ⟨α, F, sm, re, kk⟩ => ?_⟩
  refine PySem.W.methodCall_KW (pl := pl) (thn ((ho _ _ _ _ e1).run pins s σ H (fun v H1 => ∃ α1 F1, Ext α F α1 F1 ∧ Sim X.K ca α1 F1 μ1 H1 ∧ Rep X.K ca α1 F1 v x) I ⟨α, F, sm, re, fun v α1 F1 H1 x1 s1 r1 => ⟨α1, F1, x1, s1, r1⟩⟩) fun u s1 ⟨v, H1, I1, rx, α1, F1, x1, s1', r1⟩ => ?_) ht
  obtain ⟨a, c', dx, fs, rfl, hc', ea, l⟩ := recv_at s1' r1 e2
  rw [hc] at hc'; cases hc'
  obtain rfl : u = Value.ref a := rx
  refine getmeth_ok I1 ea hcl hm l ?_
  refine PySem.W.callWith_KW (first := [.ref a]) (h₀ := X.base) I.ok.mod.kin hm.kp hall (thn (hp.run pos pins s1 σ H1 _ I1 (tDs_got s1' (re.mono x1))) fun us s2 ⟨vs, H2, I2, r, α2, F2, x2, s2', q⟩ => ?_) hpl hst
  refine thn (hkw.run pos pins s2 σ H2 _ I2 (tDs_got s2' (re.mono (x1.trans x2)))) fun ws s3 ⟨zs, H3, I3, rz, α3, F3, x3, s3', q3⟩ => ⟨I3.kIn, ?_⟩
  rw [hks]
  have := args_run (first := [.ref a]) (fvs := [.ref a]) (fds := [x]) G hr (by rw [← hn, ← l1, Nat.add_comm] at hb; exact hb) (by rw [l2, hkl]) I3 (.cons rfl .nil) r rz s3' (.cons ((r1.mono x2).mono x3) .nil) (q.mono x3) q3 (by simpa using h) (kk.ext ((x1.trans x2).trans x3))
  simpa using this
theorem pd_methK0 {m : Str} {pl : Sem Bool} (G : MethI X.prog X.w X.K X.mg X.base ca k m (fun C => Γ.meth C m) 0 ks dds) (hr : Room k X.A) (ho : PEd ca Γ X o B) (ha : PKw ca Γ X kws dds A) (hkl : kws.length = ks.length := by rfl)
    (hall : (backToKw pos (keywordEach kws X.env)).all (·.1.isSome) = true := by rfl) (hks : (backToKw pos (keywordEach kws X.env)).filterMap (·.1) = ks := by rfl)
    (hpl : ((backTo pos (starEach [] X.env)).any (·.1) || (backToKw pos (keywordEach kws X.env)).any (·.1.isNone)) = false := by rfl)
    (ht : eval (.Call (.Attribute o m apos) [] kws pos) X.env = (do
      let ov ← eval o X.env
      standAt apos.atName
      let (f, first) ← holding [ov] (getMethod ov m pl)
      callWith pos f first (backTo pos (starEach [] X.env)) (backToKw pos (keywordEach kws X.env))) := by rfl) :
    PEd ca Γ X (.Call (.Attribute o m apos) [] kws pos) (.meth B m A) := by
  intro ρ μ d μ' h
  simp only [ev] at h
  obtain ⟨x, μ1, e1, h⟩ := bnd_eq h
  obtain ⟨C, e2, h⟩ := Option.bind_eq_some_iff.mp h
  obtain ⟨ds, μ2, e3, h⟩ := bnd_eq h
  obtain ⟨ds2, rfl, l2, hkw⟩ := ha _ _ _ _ e3
  obtain ⟨c, f, fd, ps, hc, hcl, hm, G, hb⟩ := G.ex _ _ _ _ h
  refine ⟨fun pins s σ H Q I ⟨α, F, sm, re, kk⟩ => ?_⟩
  refine PySem.W.methodCall_KW (pl := pl) (thn ((ho _ _ _ _ e1).run pins s σ H (fun v H1 => ∃ α1 F1, Ext α F α1 F1 ∧ Sim X.K ca α1 F1 μ1 H1 ∧ Rep X.K ca α1 F1 v x) I ⟨α, F, sm, re, fun v α1 F1 H1 x1 s1 r1 => ⟨α1, F1, x1, s1, r1⟩⟩) fun u s1 ⟨v, H1, I1, rx, α1, F1, x1, s1', r1⟩ => ?_) ht
  obtain ⟨a, c', dx, fs, rfl, hc', ea, l⟩ := recv_at s1' r1 e2
  rw [hc] at hc'; cases hc'
  obtain rfl : u = Value.ref a := rx
  refine getmeth_ok I1 ea hcl hm l ?_
  refine PySem.W.callWith_KW0 (first := [.ref a]) (h₀ := X.base) I.ok.mod.kin hm.kp hall ?_ hpl
  refine thn (hkw.run pos pins s1 σ H1 _ I1 (tDs_got s1' (re.mono x1))) fun ws s3 ⟨zs, H3, I3, rz, α3, F3, x3, s3', q3⟩ => ⟨I3.kIn, ?_⟩
  rw [hks]
  have := args_run (first := [.ref a]) (fvs := [.ref a]) (fds := [x]) (us := []) (vs := []) (ds1 := []) G hr hb (by rw [l2, hkl]) I3 (.cons rfl .nil) .nil rz s3' (.cons (r1.mono x3) .nil) .nil q3 (by simpa using h) (kk.ext (x1.trans x3))
  simpa using this
/-! ### classes -/
structure MakeI (P : Program) (w : World) (K : PySem.W.Frag) (mg : Str → Option Value) (base : Heap) (ca : Str → Option Addr) (k : Nat) (C : Str) (g : List D → Sto → Option (D × Sto)) (n : Nat) (dds : List D) : Prop where
  ex : ∃ c f fd ps, ca C = some c ∧ Mk K c f ∧ mg C = some (.ref c) ∧ FnOk P w K mg base CX0 k f fd ps (spD K ca g ps.length) ∧ BindOf K fd ps (n + 1) [] dds
theorem pd_make {x : Str} {n : Nat} {fr : Bool} (G : MakeI X.prog X.w X.K X.mg X.base ca k x (Γ.meth x "__init__") n dds) (hr : Room (k + 1) X.A) (ha : PAdd ca Γ X (e :: es) dds A) (hn : (e :: es).length = n := by rfl) (hg : Gl X x := by rfl)
    (hdb : (x == ("__debug__" : Str)) = false := by decide) (he : starEach (e :: es) X.env = (false, eval e X.env) :: starEach es X.env := by rfl) (hpl : (backTo pos (starEach es X.env)).any (·.1) = false := by rfl) :
    PEd ca Γ X (.Call (.Name x p) (e :: es) [] pos) (.make fr x A) := by
  obtain ⟨c, f, fd, ps, hc, M, hm, G, hb⟩ := G.ex
  obtain ⟨dvs, dus, rd, qd, hl, hbt⟩ := hb
  intro ρ μ d μ' h
  simp only [ev] at h
  obtain ⟨ds, μ1, e1, h⟩ := bnd_eq h
  obtain ⟨ds1, rfl, l1, hp⟩ := ha _ _ _ _ e1
  obtain ⟨r, μ2, e2, h⟩ := bnd_eq h
  have hB : Binds X.K fd ps dus := fun s us X hl' => by
    have l2 : us.length = n + 1 := by
      have := rd.length; have := (qd (fun _ => none) [] (fun _ => none)).1
      rw [List.length_append] at hl'; simp at hl; omega
    have := hbt s us [] X l2 rfl
    simpa using this
  refine (pe_make M G hr hg hm hB rd pass0 (hp) hdb he hpl).mono fun σ H Q ⟨α, F, sm, re, kk⟩ => ⟨α, F, sm, re, fun vs α1 F1 H1 x1 s1 r1 => ?_⟩
  intro y dx ny ndx nxy
  -- the new instance is a cell
  have hF : ∀ a, H1 a = none → F1 a = none := fun a ha => by
    cases q : F1 a with
    | none => rfl
    | some u => have := s1.sub _ _ q; rw [ha] at this; cases this
  have s1d : Sim X.K ca α1 F1 μ1 (upd H1 dx (.own y)) := by
    have ne : ∀ (n : Nat) a, α1[n]? = some a → a ≠ dx := fun n a h e => s1.trk n a h (e ▸ ndx)
    refine ⟨s1.len, fun a u h => ?_, fun n c a h1 h2 => ?_, s1.inj, s1.off, fun n a h => ?_, s1.mrk⟩
    · rw [upd_ne (ne_of_none h (hF _ ndx))]; exact s1.sub a u h
    · exact (s1.cel n c a h1 h2).heap fun u hu => by rw [upd_ne (ne n a h2)]; exact hu
    · rw [upd_ne (ne n a h)]; exact s1.trk n a h
  have ny' : upd H1 dx (.own y) y = none := by rw [upd_ne nxy.symm]; exact ny
  obtain ⟨s2, x2, e3⟩ := s1d.cellNew (o := .ins c dx []) (c := .ins x []) ny' ⟨c, dx, [], hc, upd_same, fun f => ⟨fun _ => rfl, fun d h => by cases h⟩, rfl⟩
  refine ⟨?_, α1 ++ [y], F1, μ1 ++ [.ins x []], .cell μ1.length :: (ds1 ++ dds), r, μ2, s2, .cons (.cell e3) (((r1.mono x2)).append (qd _ _ _)), e2, fun v α3 F3 H3 x3 s3 r3 => ?_⟩
  · have := (qd ca α1 F1).1
    simp only [List.length_cons, List.length_append, r1.1, l1, hn, this]; simp at hl; omega
  · split at h
    · rename_i hr'
      cases r <;> first | exact absurd hr' Bool.false_ne_true | skip
      cases r3
      refine ⟨rfl, ?_⟩
      have xx := x1.trans (x2.trans x3)
      have e4 := x3.at e3
      split at h
      · exact freeze_run s3 e4 h (kk.ext xx)
      · cases h; exact (kk.ext xx).now s3 (.cell e4)
    · cases h
end
end DP

/-! Rules: targets. -/
namespace DP
open PySem PySem.Spec L2

/-- slots but these are as they were -/
def Out (is : List Nat) (σ σ' : L2.St) : Prop := σ'.length = σ.length ∧ ∀ i, i ∉ is → σ'[i]? = σ[i]?
theorem Out.refl (is : List Nat) (σ : L2.St) : Out is σ σ := ⟨rfl, fun _ _ => rfl⟩
theorem Out.trans {is js : List Nat} {σ σ1 σ2 : L2.St} (a : Out is σ σ1) (b : Out js σ1 σ2) : Out (is ++ js) σ σ2 := ⟨b.1.trans a.1, fun i h => by
  simp only [List.mem_append, not_or] at h
  exact (b.2 i h.2).trans (a.2 i h.1)⟩
theorem Out.set (i : Nat) (v : V) (σ : L2.St) : Out [i] σ (σ.set i (some v)) := ⟨by simp, fun j h => by
  rw [List.getElem?_set_ne]; intro e; exact h (by simp [e])⟩
section
variable (K : PySem.W.Frag) (ca : Str → Option Addr)
def tG (is : List Nat) (ρ : Rho) (μ : Sto) (d : D) (ρ' : Rho) (μ' : Sto) : TG := fun v σ H Q => ∃ α F, Sim K ca α F μ H ∧ RE K ca α F σ ρ ∧ Rep K ca α F v d ∧
  ∀ σ' α' F' H', Ext α F α' F' → Sim K ca α' F' μ' H' → RE K ca α' F' σ' ρ' → Out is σ σ' → Q σ' H'
def tGs (is : List Nat) (ρ : Rho) (μ : Sto) (ds : List D) (ρ' : Rho) (μ' : Sto) : TGs := fun vs σ H Q => ∃ α F, Sim K ca α F μ H ∧ RE K ca α F σ ρ ∧ Reps K ca α F vs ds ∧
  ∀ σ' α' F' H', Ext α F α' F' → Sim K ca α' F' μ' H' → RE K ca α' F' σ' ρ' → Out is σ σ' → Q σ' H'
end
def PLd (ca : Str → Option Addr) (Γ : Pr) (X : Cx) (t : Expr) (l : Leaf) : Prop := ∀ ρ μ d ρ' μ', storeLeaf Γ l d ρ μ = some (ρ', μ') → PG X t (tG X.K ca l.sl ρ μ d ρ' μ')
def PLsd (ca : Str → Option Addr) (Γ : Pr) (X : Cx) (ts : List Expr) (ls : List Leaf) : Prop := ∀ ρ μ ds ρ' μ', storeAll Γ ls ds ρ μ = some (ρ', μ') → PGs X ts (tGs X.K ca (ls.flatMap Leaf.sl) ρ μ ds ρ' μ')
def PGd (ca : Str → Option Addr) (Γ : Pr) (X : Cx) (t : Expr) (T : Tg) : Prop := ∀ ρ μ d ρ' μ', bind Γ T d ρ μ = some (ρ', μ') → PG X t (tG X.K ca T.sl ρ μ d ρ' μ')
section
variable {ca : Str → Option Addr} {Γ : Pr} {X : Cx} {e o t : Expr} {es ts : List Expr} {pos p : Pos}
theorem lf_n (i : Nat) {x : Str} (hN : X.N.Nodup) (hi : X.N[i]? = some x := by rfl) (hx : Loc X.env.scope x := by first | exact Or.inl rfl | exact Or.inr rfl) (hf : X.fn x = true ∨ X.env.scope.names.lookup x = some .local := by first | exact .inl rfl | exact .inr rfl) : PLd ca Γ X (.Name x pos) (.n i) := by
  intro ρ μ d ρ' μ' h
  simp only [storeLeaf, Option.some.injEq, Prod.mk.injEq] at h
  obtain ⟨rfl, rfl⟩ := h
  exact (pg_name hN hi hx hf).mono fun v σ H Q ⟨α, F, s, re, r, k⟩ => k _ α F H (Ext.refl _ _) s (re.set i r) (Out.set i v σ)
theorem look_put (f : Str) (d : D) : ∀ (gs : List (Str × D)) (g : Str), (storeLeaf.putF' f d gs).lookup g = if g = f then some d else gs.lookup g
  | [], g => by
    by_cases h : g = f
    · subst h; simp [storeLeaf.putF', List.lookup]
    · have : (g == f) = false := by simp [h]
      simp [storeLeaf.putF', List.lookup, this, h]
  | (k, u) :: r, g => by
    unfold storeLeaf.putF'
    by_cases hk : k = f
    · subst hk
      simp only [if_true]
      by_cases h : g = k
      · subst h; simp [List.lookup]
      · have : (g == k) = false := by simp [h]
        simp [List.lookup, this, h]
    · simp only [if_neg hk]
      by_cases h : g = k
      · subst h; simp [List.lookup, hk]
      · have : (g == k) = false := by simp [h]
        simp only [List.lookup, this]
        exact look_put f d r g
theorem frel_put {K : PySem.W.Frag} {α F fs gs v d} (r : FRel K ca α F fs gs) (f : Str) (q : Rep K ca α F v d) : FRel K ca α F (putF f v fs) (storeLeaf.putF' f d gs) := fun g => by
  rw [lookup_putF, look_put]
  by_cases h : g = f
  · rw [if_pos h, if_pos h]; exact ⟨fun z => (nomatch z), fun d' z => ⟨v, rfl, by cases z; exact q⟩⟩
  · rw [if_neg h, if_neg h]; exact r g
theorem len_putF (f : Str) (v : V) : ∀ fs : List (Str × V), (putF f v fs).length = if (fs.lookup f).isSome then fs.length else fs.length + 1
  | [] => rfl
  | (k, u) :: r => by
    unfold putF
    by_cases hk : k = f
    · subst hk; simp [List.lookup]
    · have : (f == k) = false := by simp; exact fun e => hk e.symm
      simp only [if_neg hk, List.lookup, this, List.length_cons, len_putF f v r]
      split <;> rfl
theorem len_put' (f : Str) (v : D) : ∀ fs : List (Str × D), (storeLeaf.putF' f v fs).length = if (fs.lookup f).isSome then fs.length else fs.length + 1
  | [] => rfl
  | (k, u) :: r => by
    unfold storeLeaf.putF'
    by_cases hk : k = f
    · subst hk; simp [List.lookup]
    · have : (f == k) = false := by simp; exact fun e => hk e.symm
      simp only [if_neg hk, List.lookup, this, List.length_cons, len_put' f v r]
      split <;> rfl
theorem FRel.some_eq {K : PySem.W.Frag} {α F fs gs} (r : FRel K ca α F fs gs) (f : Str) : (fs.lookup f).isSome = (gs.lookup f).isSome := by
  cases e : gs.lookup f with
  | none => rw [(r f).1 e]; rfl
  | some d => obtain ⟨v, h, _⟩ := (r f).2 d e; rw [h]; rfl
theorem fld_write {K : PySem.W.Frag} {α F μ H n a C gs c dx fs v d f} (s : Sim K ca α F μ H) (hn : μ[n]? = some (.ins C gs)) (ha : α[n]? = some a) (hc : ca C = some c) (h : H a = some (.ins c dx fs)) (fr : FRel K ca α F fs gs) (q : Rep K ca α F v d) (hl : fs.length = gs.length) :
    Sim K ca α F (μ.set n (.ins C (storeLeaf.putF' f d gs))) (upd H a (.ins c dx (putF f v fs))) :=
  s.write hn (fun z => nomatch z) ha ⟨c, dx, _, hc, upd_same, frel_put fr f q, by rw [len_putF, len_put', fr.some_eq f, hl]⟩ (fun z => nomatch z)
/-- o.f as a target, o a name -/
theorem lf_f (i : Nat) {x : Str} {f : Str} {p2 : Pos} (hcl : ∀ C c, ca C = some c → Cls X.K c ∧ ∀ f ∈ Γ.att C, NoAttr X.K c f) (hN : X.N[i]? = some x := by rfl) (hv : Vis X.env.scope x := by first | exact Or.inl rfl | exact Or.inr (Or.inl rfl) | exact Or.inr (Or.inr rfl)) (hd : (x == ("__debug__" : Str)) = false := by decide)
    (hcd : (x == ("__classdict__" : Str)) = false := by decide) : PLd ca Γ X (.Attribute (.Name x pos) f p2) (.f i f) := by
  intro ρ μ d ρ' μ' h
  simp only [storeLeaf] at h
  refine ⟨fun pins s σ H v u Q I r ⟨α, F, sm, re, rd, k⟩ => ?_⟩
  split at h
  · rename_i n hn
    split at h
    · rename_i C gs hc
      split at h
      · rename_i hf
        cases h
        obtain ⟨w, e1, e2⟩ := re.2 i _ hn
        cases e2 with
        | @cell a _ q =>
          obtain ⟨c, dx, fs, h1, h2, h3, h4⟩ := sm.cel _ _ _ hc q
          show wpAny _ _ (do let ov ← holding [u] (eval (.Name x pos) X.env); standAt p2.atName; holding [u, ov] (setAttr ov f u); release [u, ov] []) _ _ _
          refine wpAny_bind (wpAny_holding (thn ((pe_var (i := i) hN hv hd hcd).run pins s σ H (fun y H1 => y = .ref a ∧ H1 = H) I ⟨_, e1, rfl, rfl⟩) fun ov s1 ⟨y, H1, I1, ry, ey, eH⟩ => ?_))
          subst ey eH
          obtain rfl : ov = Value.ref a := ry
          refine wpAny_bind (wpAny_standAt (wpAny_bind (wpAny_holding (setattr_ok I1 h2 (hcl _ _ h1).1 ((hcl _ _ h1).2 f hf.1) (by omega) r fun s2 I2 => ?_))))
          exact wpAny_release ⟨σ, _, I2, k σ α F _ (Ext.refl _ _) (fld_write sm hc q h1 h2 h3 rd h4) re (Out.refl _ _)⟩
      · cases h
    · cases h
  · cases h
theorem lfs_nil : PLsd ca Γ X [] [] := by
  intro ρ μ ds ρ' μ' h
  cases ds with
  | nil =>
    simp only [storeAll, Option.some.injEq, Prod.mk.injEq] at h
    obtain ⟨rfl, rfl⟩ := h
    exact pgs_nil.mono fun vs σ H Q ⟨α, F, s, re, r, k⟩ => ⟨r.nil_iff, k σ α F H (Ext.refl _ _) s re (Out.refl _ _)⟩
  | cons d ds => simp [storeAll] at h
theorem lfs_cons' {l : Leaf} {ls : List Leaf} (h1 : PLd ca Γ X t l) (h2 : PLsd ca Γ X ts ls) {t' : Expr} (hs : (assignEach (t' :: ts) X.env).map (·.2) = assign t X.env :: (assignEach ts X.env).map (·.2)) : PLsd ca Γ X (t' :: ts) (l :: ls) := by
  intro ρ μ ds ρ' μ' h
  cases ds with
  | nil => simp [storeAll] at h
  | cons d ds =>
    simp only [storeAll] at h
    obtain ⟨q, e1, h⟩ := Option.bind_eq_some_iff.mp h
    refine ⟨fun pins s σ H vs us Q I rv ⟨α, F, sm, re, rs, k⟩ => ?_⟩
    obtain ⟨v, vr, rfl, r1, r2⟩ := rs.cons_inv
    cases rv with
    | cons rv rr =>
      rw [hs]
      refine PyProof.Rows.assignInOrder_cons (thn ((h1 _ _ _ _ _ e1).run pins s σ H v _ (fun σ1 H1 => ∃ α1 F1, Ext α F α1 F1 ∧ Sim X.K ca α1 F1 q.2 H1 ∧ RE X.K ca α1 F1 σ1 q.1 ∧ Out l.sl σ σ1) I rv ⟨α, F, sm, re, r1, fun σ1 α1 F1 H1 x1 s1 re1 o1 => ⟨α1, F1, x1, s1, re1, o1⟩⟩) fun _ s1 ⟨σ1, H1, I1, α1, F1, x1, s1', re1, o1⟩ => ?_)
      exact (h2 _ _ _ _ _ h).run pins s1 σ1 H1 vr _ Q I1 rr ⟨α1, F1, s1', re1, r2.mono x1, fun σ2 α2 F2 H2 x2 s2 re2 o2 => k σ2 α2 F2 H2 (x1.trans x2) s2 re2 (o1.trans o2)⟩
theorem lfs_cons {l : Leaf} {ls : List Leaf} (h1 : PLd ca Γ X t l) (h2 : PLsd ca Γ X ts ls) (hs : (assignEach (t :: ts) X.env).map (·.2) = assign t X.env :: (assignEach ts X.env).map (·.2) := by rfl) : PLsd ca Γ X (t :: ts) (l :: ls) := lfs_cons' h1 h2 hs
theorem lfs_star {l : Leaf} {ls : List Leaf} {sp : Pos} (h1 : PLd ca Γ X t l) (h2 : PLsd ca Γ X ts ls) : PLsd ca Γ X (.Starred t sp :: ts) (l :: ls) := lfs_cons' h1 h2 rfl
theorem tg_one {l : Leaf} (h : PLd ca Γ X t l) : PGd ca Γ X t (.one l) := fun ρ μ d ρ' μ' e => h _ _ _ _ _ e
theorem storeAll_len (Γ : Pr) : ∀ (ls : List Leaf) (ds : List D) (ρ : Rho) (μ : Sto) r, storeAll Γ ls ds ρ μ = some r → ls.length = ds.length
  | [], [], _, _, _, _ => rfl
  | [], _ :: _, _, _, _, h => by simp [storeAll] at h
  | _ :: _, [], _, _, _, h => by simp [storeAll] at h
  | l :: ls, d :: ds, ρ, μ, r, h => by
    simp only [storeAll] at h
    obtain ⟨q, _, h⟩ := Option.bind_eq_some_iff.mp h
    simp [storeAll_len Γ ls ds _ _ r h]
theorem tg_tup {ls : List Leaf} {k : Nat} (hc : X.calm = true) (h : PLsd ca Γ X ts ls) (hn : (assignEach ts X.env).length = ls.length := by rfl) (hst : (assignEach ts X.env).findIdx? (·.1) = none := by rfl) : PGd ca Γ X (.Tuple ts k pos) (.tup ls) := by
  intro ρ μ d ρ' μ' e
  simp only [bind] at e
  split at e
  · rename_i ds
    have hl := storeAll_len _ _ _ _ _ _ e
    refine (pg_tup hc (h _ _ _ _ _ e) hn hst).mono fun v σ H Q ⟨α, F, s, re, r, k⟩ => ?_
    cases r with
    | @tup a vs _ q1 q2 q3 => exact ⟨a, vs, rfl, seqT_un s.sub q1, by rw [q2, ← hl], α, F, s, re, ⟨q2, q3⟩, k⟩
  · cases e
/-- news are laid: the state goes on -/
theorem inv_news {pins : List (Addr × Obj)} {σ : L2.St} {H : Hp} {s : Shared} {h' : Heap} {tk : Nat} {m : Str → Option Value} {D : Addr} {its : List Value} {vs : List V} (I : L2.Inv X pins σ H s) (F : PyProof.Rows.Fr X.base X.env.locals s.heap m) (F' : PyProof.Rows.Fr X.base X.env.locals h' m)
    (N' : PyProof.Rows.News X.base X.env.locals h' ((D, PySem.W.listOf its.toArray 0) :: allNews X.base s.heap X.env.locals)) (hlt : ∀ p ∈ allNews X.base s.heap X.env.locals, p.1 < D) (rv : Vals vs its) (hz : vs.length ≤ sizeLine) :
    H D = none ∧ L2.Inv X pins σ (upd H D (.lst vs)) { s with heap := h', toks := tk } := by
  have kp : ∀ b o, b ≠ X.env.locals → s.heap.get? b = some o → h'.get? b = some o := fun b o hb e => by
    cases q : X.base.get? b with
    | some u => have := I.bk b u q; rw [this] at e; cases e; exact F'.keep b _ q
    | none => exact (N' (b, o) (List.mem_cons_of_mem _ (mem_allNews hb q e))).1
  obtain ⟨hD, hDL, hDb⟩ := N' _ List.mem_cons_self
  have hD : h'.get? D = some (PySem.W.listOf its.toArray 0) := hD
  have fresh : H D = none := by
    cases q : H D with
    | none => rfl
    | some u =>
      obtain ⟨o, ho⟩ : ∃ o, s.heap.get? D = some o := by
        exact objOk_get (I.hok D u q)
      exact absurd (hlt (D, o) (mem_allNews hDL hDb ho)) (Nat.lt_irrefl _)
  refine ⟨fresh, ?_⟩
  have trkL : ∀ b u, H b = some u → b ≠ X.env.locals := fun b u e z => by rw [z, I.free] at e; cases e
  have big : ∀ b u, s.heap.get? b = some u → H b = none → upd H D (.lst vs) b = none := fun b u e n => by
    by_cases hb : b = D
    · subst hb
      by_cases hq : X.base.get? b = none
      · exact absurd (hlt (b, u) (mem_allNews hDL hq e)) (Nat.lt_irrefl _)
      · exact absurd hDb hq
    · rw [upd_ne hb]; exact n
  refine I.step (g' := s.gens) (d' := s.drawn) (ch := []) (fun _ z => (nomatch z)) (fun b o hb _ _ e _ => kp b o hb e) (fun b o hb _ _ e _ => ⟨o.slots, kp b o hb e⟩) (fun b o _ e n => big b o e n) (fun b o _ e => ?_)
    (fun b xs e => by rw [upd_ne (ne_of_none e fresh)]; exact e) (fun b o u e => by rw [upd_ne (ne_of_none e fresh)]; exact e) (fun b ps e => ⟨#[], by rw [upd_ne (ne_of_none e fresh), e]; simp⟩) (fun m' hm => ?_) (fun b u e => ?_) I.bare
  · by_cases hb : b = X.env.locals
    · subst hb
      obtain ⟨o', _, _, e', _⟩ := F'.ns
      exact ⟨o', e'⟩
    · exact ⟨o, kp b o hb e⟩
  · rw [SlX.ns_only hm F.ns]; exact F'.ns
  · by_cases hb : b = D
    · subst hb
      rw [upd_same] at e
      cases e
      exact ⟨hz, its, 0, rv, hD⟩
    · rw [upd_ne hb] at e
      refine (I.hok b u e).stay (fun c v hc q => kp c v ?_ q) (fun c q => by rw [upd_ne (ne_of_none q fresh)]; exact q) (fun c xs q => by rw [upd_ne (ne_of_none q fresh)]; exact q)
      rcases hc with rfl | hc
      · exact trkL _ _ e
      · exact trkL _ _ hc
/-- a, *b, c = .. -/
theorem tg_star {ls : List Leaf} {k : Nat} (i j : Nat) (hc : X.calm = true) (h : PLsd ca Γ X ts ls) {pre post : List Leaf} {l : Leaf} (hls : ls = pre ++ [l] ++ post := by rfl) (hi : pre.length = i := by rfl) (hj : post.length = j := by rfl)
    (hn : (assignEach ts X.env).length = i + j + 1 := by rfl) (hst : (assignEach ts X.env).findIdx? (·.1) = some i := by rfl) : PGd ca Γ X (.Tuple ts k pos) (.star pre l post) := by
  intro ρ μ d ρ' μ' e
  subst hls hi hj
  simp only [bind] at e
  obtain ⟨ds, e1, e⟩ := Option.bind_eq_some_iff.mp e
  split at e
  · rename_i hl
    refine ⟨fun pins s σ H v u Q I rv ⟨α, F, sm, re, r, kk⟩ => ?_⟩
    have fin : ∀ (a : Addr) (vs : List V) (its : List Value), Vals vs its → Reps X.K ca α F vs ds → ∀ D h' tk m, PyProof.Rows.Fr X.base X.env.locals s.heap m → PyProof.Rows.Fr X.base X.env.locals h' m →
        PyProof.Rows.News X.base X.env.locals h' ((D, PySem.W.listOf ((its.drop pre.length).take (its.length + 1 - (pre.length + post.length + 1))).toArray 0) :: allNews X.base s.heap X.env.locals) → (∀ p ∈ allNews X.base s.heap X.env.locals, p.1 < D) →
        wpAny (model X.prog X.w) X.A (assignInOrder ((assignEach ts X.env).map (·.2)) (its.take pre.length ++ [.ref D] ++ (its.drop pre.length).drop (its.length + 1 - (pre.length + post.length + 1)))) (fun _ s' => ∃ σ' H', L2.Inv X pins σ' H' s' ∧ Q σ' H') X.xe { s with heap := h', toks := tk } := fun a vs its rvs rs D h' tk m Fm F' N' hlt => by
      have hlen : its.length = ds.length := by rw [← rvs.length, rs.1]
      have hmid : its.length + 1 - (pre.length + post.length + 1) = ds.length - pre.length - post.length := by omega
      rw [hmid] at N' ⊢
      have rmid : Vals ((vs.drop pre.length).take (ds.length - pre.length - post.length)) ((its.drop pre.length).take (ds.length - pre.length - post.length)) := (rvs.drop _).take _
      have hz : ((vs.drop pre.length).take (ds.length - pre.length - post.length)).length ≤ sizeLine := by rw [List.length_take, List.length_drop, rs.1, sizeLine_eq]; omega
      obtain ⟨fresh, I'⟩ := inv_news (tk := tk) I Fm F' N' hlt rmid hz
      obtain ⟨s', x⟩ := sm.laid (o := .lst ((vs.drop pre.length).take (ds.length - pre.length - post.length))) fresh
      have rsm := rs.mono x
      have rm : Reps X.K ca α (upd F D (.lst ((vs.drop pre.length).take (ds.length - pre.length - post.length)))) ((vs.drop pre.length).take (ds.length - pre.length - post.length)) ((ds.drop pre.length).take (ds.length - pre.length - post.length)) := (rsm.drop _).take _
      have hd2 : (ds.drop pre.length).drop (ds.length - pre.length - post.length) = ds.drop (ds.length - post.length) := by rw [List.drop_drop]; congr 1; omega
      have rall := ((rsm.take pre.length).append (.cons (.lst upd_same rm.1 rm.2) .nil)).append ((rsm.drop pre.length).drop (ds.length - pre.length - post.length))
      rw [hd2] at rall
      refine (h _ _ _ _ _ e).run pins _ σ _ (vs.take pre.length ++ [.ref D] ++ (vs.drop pre.length).drop (ds.length - pre.length - post.length)) _ Q I' ((Vals.append (rvs.take _) (.cons (show RelV (.ref D) (.ref D) from rfl) .nil)).append ((rvs.drop _).drop _)) ⟨α, _, s', re.mono x, rall, fun σ2 α2 F2 H2 x2 s2 re2 o2 => kk σ2 α2 F2 H2 (x.trans x2) s2 re2 o2⟩
    obtain ⟨m, Fm⟩ := I.fr
    have hls : pre.length < pre.length + post.length + 1 := by omega
    cases r with
    | @tup a vs _ q1 q2 q3 =>
      cases e1
      obtain ⟨its, rvs, ht, _⟩ := I.tuple (seqT_un sm.sub q1)
      cases rv
      have hlen : its.length = ds.length := by rw [← rvs.length, q2]
      exact PySem.W.kun_assignT Fm news_all ht (I.ok.hd hc) hn hst hls (by rw [List.size_toArray]; omega) (by rw [List.size_toArray]; omega) rfl rfl rfl fun D h' tk F' N' hlt => fin a vs its rvs ⟨q2, q3⟩ D h' tk m Fm F' (by simpa using N') hlt
    | @lst a vs _ q1 q2 q3 =>
      cases e1
      obtain ⟨its, rvs, ht, _⟩ := I.list (SqL.of (sm.sub _ _ q1))
      cases rv
      have hlen : its.length = ds.length := by rw [← rvs.length, q2]
      exact PySem.W.kun_assignL Fm news_all ht.isList (I.ok.hd hc) hn hst hls (by rw [List.size_toArray]; omega) (by rw [List.size_toArray]; omega) rfl rfl rfl fun D h' tk F' N' hlt => fin a vs its rvs ⟨q2, q3⟩ D h' tk m Fm F' (by simpa using N') hlt
    | _ => cases e1
  · cases e
end
end DP

/-! Rules: what a loop walks. -/
namespace DP
open PySem PySem.Spec L2

/-! ### the weaker order: marks may change -/
structure Wxt (α : List Addr) (F : Hp) (α' : List Addr) (F' : Hp) : Prop where
  pre : ∃ β, α' = α ++ β
  fr : ∀ a o, F a = some o → (∀ u, o ≠ mark u) → F' a = some o
theorem Ext.w {α F α' F'} (x : Ext α F α' F') : Wxt α F α' F' := ⟨x.pre, fun a o h _ => x.fr a o h⟩
theorem Wxt.trans {α F α' F' α'' F''} (x : Wxt α F α' F') (y : Wxt α' F' α'' F'') : Wxt α F α'' F'' := by
  obtain ⟨β, rfl⟩ := x.pre
  obtain ⟨γ, rfl⟩ := y.pre
  exact ⟨⟨β ++ γ, by simp⟩, fun a o h n => y.fr a o (x.fr a o h n) n⟩
theorem Wxt.at {α F α' F'} (x : Wxt α F α' F') {n : Nat} {a : Addr} (h : α[n]? = some a) : α'[n]? = some a := by
  obtain ⟨β, rfl⟩ := x.pre
  have hl := (List.getElem?_eq_some_iff.mp h).1
  rw [List.getElem?_append_left hl]; exact h
section
variable {K : PySem.W.Frag} {ca : Str → Option Addr} {α α' : List Addr} {F F' H H' : Hp} {v : V} {d : D} {σ : L2.St} {ρ : Rho} {μ : Sto}
theorem Wxt.seqL (x : Wxt α F α' F') {a : Addr} {xs : List V} (h : SqL K F a xs) : SqL K F' a xs := by
  rcases h with (h | ⟨o, h⟩) | h
  · exact .inl (.inl (x.fr _ _ h (fun u => by simp [mark])))
  · exact .inl (.inr ⟨o, x.fr _ _ h (fun u => by simp [mark])⟩)
  · exact .inr h
theorem Wxt.seqT (x : Wxt α F α' F') {a : Addr} {xs : List V} (h : SqT K F a xs) : SqT K F' a xs := by
  rcases h with (h | ⟨o, h⟩) | h
  · exact .inl (.inl (x.fr _ _ h (fun u => by simp [mark])))
  · exact .inl (.inr ⟨o, x.fr _ _ h (fun u => by simp [mark])⟩)
  · exact .inr h
theorem Rep.monoW (r : Rep K ca α F v d) (x : Wxt α F α' F') : Rep K ca α' F' v d := by
  induction r with
  | non => exact .non
  | bl b => exact .bl b
  | int i => exact .int i
  | str z => exact .str z
  | tup h l _ ih => exact .tup (x.seqT h) l ih
  | lst h l _ ih => exact .lst (x.fr _ _ h (fun u => by simp [mark])) l ih
  | scr h => exact .scr (x.seqL h)
  | obj vv h1 h2 h3 h4 _ ih => exact .obj vv h1 (x.fr _ _ h2 (fun u => by simp [mark])) h3 h4 ih
  | cell h => exact .cell (x.at h)
theorem Reps.monoW {vs : List V} {ds : List D} (r : Reps K ca α F vs ds) (x : Wxt α F α' F') : Reps K ca α' F' vs ds := ⟨r.1, fun i v d h1 h2 => (r.2 i v d h1 h2).monoW x⟩
theorem FRel.monoW {fs : List (Str × V)} {gs : List (Str × D)} (r : FRel K ca α F fs gs) (x : Wxt α F α' F') : FRel K ca α' F' fs gs := fun f => ⟨(r f).1, fun d e => by
  obtain ⟨v, h1, h2⟩ := (r f).2 d e
  exact ⟨v, h1, h2.monoW x⟩⟩
theorem KRel.monoW {fs : List (Key × V)} {gs : List (Key × D)} (r : KRel K ca α F fs gs) (x : Wxt α F α' F') : KRel K ca α' F' fs gs := ⟨r.1, r.2.monoW x⟩
theorem RE.monoW (r : RE K ca α F σ ρ) (x : Wxt α F α' F') : RE K ca α' F' σ ρ := ⟨r.1, fun i d h => by
  obtain ⟨v, h1, h2⟩ := r.2 i d h
  exact ⟨v, h1, h2.monoW x⟩⟩
theorem CelOk.monoW {a : Addr} {c : Cel} (x : Wxt α F α' F') (h : CelOk K ca α F H a c) : CelOk K ca α' F' H a c := by
  cases c with
  | lst ds => obtain ⟨vs, h1, h2⟩ := h; exact ⟨vs, h1, h2.monoW x⟩
  | dct ds => obtain ⟨vs, h1, h2⟩ := h; exact ⟨vs, h1, h2.monoW x⟩
  | ins C gs => obtain ⟨c, dx, fs, h1, h2, h3, h4⟩ := h; exact ⟨c, dx, fs, h1, h2, h3.monoW x, h4⟩
  | dead => trivial
/-- what is marked changes, its mark with it -/
theorem Sim.swap {L : Addr} {u : HO} (s : Sim K ca α F μ H) (hD : F L = some (mark u)) (hF : ∀ a, a ≠ L → F' a = F a) (hH : ∀ a, a ≠ L → H' a = H a) (hs : ∀ o, F' L = some o → H' L = some (un o)) :
    Sim K ca α F' μ H' ∧ Wxt α F α F' := by
  have x : Wxt α F α F' := ⟨⟨[], by simp⟩, fun a o h n => by
    rw [hF a]; exact h
    intro e; subst e; rw [hD] at h; cases h; exact n u rfl⟩
  have ne : ∀ (n : Nat) a, α[n]? = some a → a ≠ L := fun n a h e => s.mrk n a u h (by rw [e]; exact hD)
  refine ⟨⟨s.len, fun a o h => ?_, fun n c a h1 h2 => ?_, s.inj, fun n c a h1 h2 h3 => ?_, fun n a h => ?_, fun n a u h => ?_⟩, x⟩
  · by_cases e : a = L
    · subst e; exact hs o h
    · rw [hH a e]; rw [hF a e] at h; exact s.sub a o h
  · exact ((s.cel n c a h1 h2).monoW x).heap fun u hu => by rw [hH a (ne n a h2)]; exact hu
  · rw [hF a (ne n a h3)]; exact s.off n c a h1 h2 h3
  · rw [hH a (ne n a h)]; exact s.trk n a h
  · rw [hF a (ne n a h)]; exact s.mrk n a u h
/-- a new thing, marked -/
theorem Sim.marked {L : Addr} {u : HO} (s : Sim K ca α F μ H) (hL : H L = none) : Sim K ca α (upd F L (mark u)) μ (upd H L u) ∧ Ext α F α (upd F L (mark u)) ∧ F L = none := by
  have hF : F L = none := by
    cases q : F L with
    | none => rfl
    | some u => have := s.sub _ _ q; rw [hL] at this; cases this
  have x : Ext α F α (upd F L (mark u)) := ⟨⟨[], by simp⟩, fun a u h => by rw [upd_ne (ne_of_none h hF)]; exact h⟩
  have ne : ∀ (n : Nat) a, α[n]? = some a → a ≠ L := fun n a h e => s.trk n a h (e ▸ hL)
  refine ⟨⟨s.len, fun a o h => ?_, fun n c a h1 h2 => ?_, s.inj, fun n c a h1 h2 h3 => ?_, fun n a h => ?_, fun n a u h => by rw [upd_ne (ne n a h)]; exact s.mrk n a u h⟩, x, hF⟩
  · by_cases e : a = L
    · subst e; rw [upd_same] at h ⊢; cases h; rfl
    · rw [upd_ne e] at h ⊢; exact s.sub a o h
  · exact ((s.cel n c a h1 h2).mono x).heap fun u hu => by rw [upd_ne (ne n a h2)]; exact hu
  · rw [upd_ne (ne n a h3)]; exact s.off n c a h1 h2 h3
  · rw [upd_ne (ne n a h)]; exact s.trk n a h
/-- a mark becomes a cell -/
theorem Sim.cellOf {L : Addr} {u : HO} {c : Cel} (s : Sim K ca α F μ H) (hD : F L = some (mark u)) (hF : ∀ a, a ≠ L → F' a = F a) (hz : F' L = none) (hc : CelOk K ca α F H L c) :
    Sim K ca (α ++ [L]) F' (μ ++ [c]) H ∧ Wxt α F (α ++ [L]) F' ∧ (α ++ [L])[μ.length]? = some L := by
  have x : Wxt α F (α ++ [L]) F' := ⟨⟨[L], rfl⟩, fun a o h n => by
    rw [hF a]; exact h
    intro e; subst e; rw [hD] at h; cases h; exact n u rfl⟩
  have ne : ∀ (n : Nat) a, α[n]? = some a → a ≠ L := fun n a h e => s.mrk n a u h (by rw [e]; exact hD)
  have inv : ∀ (n : Nat) a, (α ++ [L])[n]? = some a → (n < α.length ∧ α[n]? = some a) ∨ (n = α.length ∧ a = L) := fun n a h => by
    by_cases hn : n < α.length
    · rw [List.getElem?_append_left hn] at h; exact .inl ⟨hn, h⟩
    · rw [List.getElem?_append_right (by omega)] at h
      have : n - α.length = 0 := by
        have := (List.getElem?_eq_some_iff.mp h).1; simp at this; omega
      rw [this] at h
      simp at h
      exact .inr ⟨by omega, h.symm⟩
  refine ⟨⟨by simp [s.len], fun a o h => ?_, fun n c' a h1 h2 => ?_, fun n m a h1 h2 => ?_, fun n c' a h1 h2 h3 => ?_, fun n a h => ?_, fun n a u h => ?_⟩, x, ?_⟩
  · by_cases e : a = L
    · subst e; rw [hz] at h; cases h
    · rw [hF a e] at h; exact s.sub a o h
  · rcases inv n a h2 with ⟨hn, h2'⟩ | ⟨hn, ha⟩
    · rw [List.getElem?_append_left (by rw [← s.len]; exact hn)] at h1
      exact (s.cel n c' a h1 h2').monoW x
    · subst ha
      rw [List.getElem?_append_right (by rw [← s.len]; omega), hn, s.len] at h1
      simp at h1; subst h1; exact hc.monoW x
  · rcases inv n a h1 with ⟨hn, h1'⟩ | ⟨hn, ha⟩ <;> rcases inv m a h2 with ⟨hm, h2'⟩ | ⟨hm, ha'⟩
    · exact s.inj n m a h1' h2'
    · exact absurd ha' (ne n a h1')
    · exact absurd ha (ne m a h2')
    · omega
  · rcases inv n a h3 with ⟨hn, h3'⟩ | ⟨hn', ha⟩
    · rw [List.getElem?_append_left (by rw [← s.len]; exact hn)] at h1
      rw [hF a (ne n a h3')]; exact s.off n c' a h1 h2 h3'
    · subst ha; exact hz
  · rcases inv n a h with ⟨hn, h'⟩ | ⟨hn, ha⟩
    · exact s.trk n a h'
    · subst ha; intro z; have := s.sub _ _ hD; rw [z] at this; cases this
  · rcases inv n a h with ⟨hn', h'⟩ | ⟨hn', ha⟩
    · rw [hF a (ne n a h')]; exact s.mrk n a u h'
    · subst ha; rw [hz]; exact fun z => nomatch z
  · rw [← s.len]; simp
end
structure WalkD (K : PySem.W.Frag) (ca : Str → Option Addr) (α : List Addr) (F : Hp) (J : It) (xs : List D) (w : Wt) : Prop where
  goes : ∀ i α' F' μ' H', i < xs.length → Wxt α F α' F' → Sim K ca α' F' μ' H' → watch w μ' = true → J.go i H'
  stops : ∀ α' F' μ' H', Wxt α F α' F' → Sim K ca α' F' μ' H' → watch w μ' = true → J.stop xs.length H'
  yields : ∀ i d v α' F' μ' H' H'', xs[i]? = some d → Wxt α F α' F' → Sim K ca α' F' μ' H' → watch w μ' = true → J.yld i H' v H'' → ∃ F'', Ext α' F' α' F'' ∧ Sim K ca α' F'' μ' H'' ∧ Rep K ca α' F'' v d
def tDI (K : PySem.W.Frag) (ca : Str → Option Addr) (ρ : Rho) (μ : Sto) (xs : List D) (w : Wt) (μ' : Sto) : TI := fun σ H R => ∃ α F, Sim K ca α F μ H ∧ RE K ca α F σ ρ ∧
  ∀ J α' F' H', Ext α F α' F' → Sim K ca α' F' μ' H' → watch w μ' = true → WalkD K ca α' F' J xs w → R J H'
def PId (ca : Str → Option Addr) (Γ : Pr) (X : Cx) (tg it : Expr) (E : E) : Prop := ∀ ρ μ xs w μ', evI Γ E ρ μ = some ((xs, w), μ') → PI X tg it (tDI X.K ca ρ μ xs w μ')
section
variable {K : PySem.W.Frag} {ca : Str → Option Addr} {α : List Addr} {F : Hp} {a b : Addr} {vs ws : List V} {ds es : List D}
theorem Reps.lt {i : Nat} (r : Reps K ca α F vs ds) (h : i < ds.length) : ∃ v, vs[i]? = some v := ⟨vs[i]'(by rw [r.1]; exact h), by simp [r.1, h]⟩
theorem wd_list (h : SqL K F a vs) (r : Reps K ca α F vs ds) : WalkD K ca α F (Itl K a) ds none := by
  refine ⟨fun i α' F' μ' H' hi x s _ => ?_, fun α' F' μ' H' x s _ => ?_, fun i d v α' F' μ' H' H'' hd x s _ y => ?_⟩
  · obtain ⟨v, hv⟩ := r.lt hi
    exact ⟨vs, v, seqL_un s.sub (x.seqL h), hv⟩
  · exact ⟨vs, seqL_un s.sub (x.seqL h), by rw [r.1]; exact Nat.le_refl _⟩
  · obtain ⟨rfl, y⟩ := y
    obtain ⟨u, h1, h2⟩ := r.get hd
    have := y vs (seqL_un s.sub (x.seqL h))
    rw [h1] at this; cases this
    exact ⟨F', Ext.refl _ _, s, h2.monoW x⟩
theorem wd_tup (h : SqT K F a vs) (r : Reps K ca α F vs ds) : WalkD K ca α F (Itt K a) ds none := by
  refine ⟨fun i α' F' μ' H' hi x s _ => ?_, fun α' F' μ' H' x s _ => ?_, fun i d v α' F' μ' H' H'' hd x s _ y => ?_⟩
  · obtain ⟨v, hv⟩ := r.lt hi
    exact ⟨vs, v, seqT_un s.sub (x.seqT h), hv⟩
  · exact ⟨vs, seqT_un s.sub (x.seqT h), by rw [r.1]; exact Nat.le_refl _⟩
  · obtain ⟨rfl, y⟩ := y
    obtain ⟨u, h1, h2⟩ := r.get hd
    have := y vs (seqT_un s.sub (x.seqT h))
    rw [h1] at this; cases this
    exact ⟨F', Ext.refl _ _, s, h2.monoW x⟩
theorem watch_at {n : Nat} {μ : Sto} (h : watch (some (n, ds)) μ = true) : μ[n]? = some (.lst ds) := by
  simp only [watch] at h
  split at h
  · rename_i es e
    rw [e, D.beqs_of _ _ h]
  · cases h
theorem wd_cell {n : Nat} (h : α[n]? = some a) : WalkD K ca α F (Itl K a) ds (some (n, ds)) := by
  refine ⟨fun i α' F' μ' H' hi x s hw => ?_, fun α' F' μ' H' x s hw => ?_, fun i d v α' F' μ' H' H'' hd x s hw y => ?_⟩ <;> obtain ⟨vs, q1, q2⟩ := s.cel _ _ _ (watch_at hw) (x.at h)
  · obtain ⟨v, hv⟩ := q2.lt hi
    exact ⟨vs, v, SqL.of q1, hv⟩
  · exact ⟨vs, SqL.of q1, by rw [q2.1]; exact Nat.le_refl _⟩
  · obtain ⟨rfl, y⟩ := y
    obtain ⟨u, h1, h2⟩ := q2.get hd
    have := y vs (SqL.of q1)
    rw [h1] at this; cases this
    exact ⟨F', Ext.refl _ _, s, h2⟩
theorem wd_range (lo : Int) (n : Nat) : WalkD K ca α F (Itr lo n) ((List.range n).map fun (k : Nat) => D.int (lo + (k : Int))) none := by
  refine ⟨fun i α' F' μ' H' hi x s _ => ?_, fun α' F' μ' H' x s _ => ?_, fun i d v α' F' μ' H' H'' hd x s _ y => ?_⟩
  · show i < n; simpa using hi
  · show n ≤ _; simp
  · obtain ⟨rfl, rfl⟩ := y
    rw [List.getElem?_map] at hd
    obtain ⟨k, h1, h2⟩ := Option.map_eq_some_iff.mp hd
    have : k = i := by
      obtain ⟨hl, e⟩ := List.getElem?_eq_some_iff.mp h1
      simpa using e.symm
    subst this; subst h2
    exact ⟨F', Ext.refl _ _, s, .int _⟩
/-- a new pair -/
theorem wd_pair {T : Addr} {v w : V} {d e : D} {α' F' μ' H'} (s : Sim K ca α' F' μ' H') (hT : H' T = none) (r1 : Rep K ca α' F' v d) (r2 : Rep K ca α' F' w e) :
    ∃ F'', Ext α' F' α' F'' ∧ Sim K ca α' F'' μ' (upd H' T (.tup [v, w])) ∧ Rep K ca α' F'' (.ref T) (.tup [d, e]) := by
  obtain ⟨s', x⟩ := s.laid (o := .tup [v, w]) hT
  have q : Reps K ca α' F' [v, w] [d, e] := .cons r1 (.cons r2 .nil)
  exact ⟨_, x, s', .tup (SqT.of upd_same) q.1 (q.mono x).2⟩
theorem wd_zip (h : SqL K F a vs) (r : Reps K ca α F vs ds) (h' : SqL K F b ws) (r' : Reps K ca α F ws es) : WalkD K ca α F (Itz K a b) ((ds.zip es).map fun p => D.tup [p.1, p.2]) none := by
  refine ⟨fun i α' F' μ' H' hi x s _ => ?_, fun α' F' μ' H' x s _ => ?_, fun i d v α' F' μ' H' H'' hd x s _ y => ?_⟩
  · have : i < ds.length ∧ i < es.length := by simp at hi; omega
    obtain ⟨v, hv⟩ := r.lt this.1
    obtain ⟨w, hw⟩ := r'.lt this.2
    exact ⟨vs, ws, v, w, seqL_un s.sub (x.seqL h), seqL_un s.sub (x.seqL h'), hv, hw⟩
  · refine ⟨vs, ws, seqL_un s.sub (x.seqL h), seqL_un s.sub (x.seqL h'), ?_⟩
    simp [r.1, r'.1]; omega
  · obtain ⟨T, u, z, rfl, hT, rfl, y1, y2⟩ := y
    rw [List.getElem?_map] at hd
    obtain ⟨p, h1, h2⟩ := Option.map_eq_some_iff.mp hd
    obtain ⟨k1, k2⟩ := List.getElem?_zip_eq_some.mp h1
    obtain ⟨u', g1, g2⟩ := r.get k1
    obtain ⟨z', g3, g4⟩ := r'.get k2
    have e1 := y1 vs (seqL_un s.sub (x.seqL h))
    have e2 := y2 ws (seqL_un s.sub (x.seqL h'))
    rw [g1] at e1; cases e1
    rw [g3] at e2; cases e2
    subst h2
    exact wd_pair s hT (g2.monoW x) (g4.monoW x)
theorem wd_enum (h : SqL K F a vs) (r : Reps K ca α F vs ds) : WalkD K ca α F (Ite K a) (((List.range ds.length).zip ds).map fun p => D.tup [.int (p.1 : Int), p.2]) none := by
  refine ⟨fun i α' F' μ' H' hi x s _ => ?_, fun α' F' μ' H' x s _ => ?_, fun i d v α' F' μ' H' H'' hd x s _ y => ?_⟩
  · have : i < ds.length := by simpa using hi
    obtain ⟨v, hv⟩ := r.lt this
    exact ⟨vs, v, seqL_un s.sub (x.seqL h), hv⟩
  · refine ⟨vs, seqL_un s.sub (x.seqL h), ?_⟩
    simp [r.1]
  · obtain ⟨T, z, rfl, hT, rfl, y2⟩ := y
    rw [List.getElem?_map] at hd
    obtain ⟨p, h1, h2⟩ := Option.map_eq_some_iff.mp hd
    obtain ⟨k1, k2⟩ := List.getElem?_zip_eq_some.mp h1
    obtain ⟨z', g3, g4⟩ := r.get k2
    have e2 := y2 vs (seqL_un s.sub (x.seqL h))
    rw [g3] at e2; cases e2
    subst h2
    have : p.1 = i := by
      obtain ⟨hl, e⟩ := List.getElem?_eq_some_iff.mp k1
      simpa using e.symm
    subst this
    exact wd_pair s hT (.int _) (g4.monoW x)
end
section
variable {ca : Str → Option Addr} {Γ : Pr} {X : Cx} {tg e e2 : Expr} {A B : E} {pos p : Pos}
theorem _root_.L2.PI.at {X : Cx} {tg e : Expr} {t : TI} (h : ∀ σ H R, t σ H R → ∃ t', PI X tg e t' ∧ t' σ H R) : PI X tg e t := ⟨fun pins s σ H R I q => by
  obtain ⟨t', p, q'⟩ := h σ H R q
  exact p.run pins s σ H R I q'⟩
/-- a list, a tuple -/
theorem pi_any (h : PEd ca Γ X e A) : PId ca Γ X tg e (.cons A .nil) := by
  intro ρ μ xs w μ' q
  simp only [evI] at q
  obtain ⟨d, μ1, e1, q⟩ := bnd_eq q
  have lst : ∀ ds, d = .lst ds → (xs, w) = (ds, none) ∧ μ' = μ1 → PI X tg e (tDI X.K ca ρ μ xs w μ') := fun ds hd hx => by
    subst hd
    obtain ⟨hx, rfl⟩ := hx
    cases hx
    exact (pi_list (h _ _ _ _ e1)).mono fun σ H R ⟨α, F, s, re, k⟩ => ⟨α, F, s, re, fun v α1 F1 H1 x1 s1 r1 => by
      cases r1 with
      | @lst a vs _ q1 q2 q3 => exact ⟨a, rfl, ⟨vs, SqL.of (s1.sub _ _ q1)⟩, k _ α1 F1 H1 x1 s1 rfl (wd_list (SqL.of q1) ⟨q2, q3⟩)⟩⟩
  cases d with
  | lst ds => simp only [Option.some.injEq, Prod.mk.injEq] at q; exact lst ds rfl ⟨by rw [q.1.1, q.1.2], q.2.symm⟩
  | tup ds =>
    simp only [Option.some.injEq, Prod.mk.injEq] at q
    obtain ⟨⟨rfl, rfl⟩, rfl⟩ := q
    exact (pi_tup (h _ _ _ _ e1)).mono fun σ H R ⟨α, F, s, re, k⟩ => ⟨α, F, s, re, fun v α1 F1 H1 x1 s1 r1 => by
      cases r1 with
      | @tup a vs _ q1 q2 q3 => exact ⟨a, rfl, ⟨vs, seqT_un s1.sub q1⟩, k _ α1 F1 H1 x1 s1 rfl (wd_tup q1 ⟨q2, q3⟩)⟩⟩
  | scr is =>
    simp only [Option.some.injEq, Prod.mk.injEq] at q
    obtain ⟨⟨rfl, rfl⟩, rfl⟩ := q
    exact (pi_list (h _ _ _ _ e1)).mono fun σ H R ⟨α, F, s, re, k⟩ => ⟨α, F, s, re, fun v α1 F1 H1 x1 s1 r1 => by
      cases r1 with
      | @scr a _ q1 => exact ⟨a, rfl, ⟨_, seqL_un s1.sub q1⟩, k _ α1 F1 H1 x1 s1 rfl (wd_list q1 (reps_ints is))⟩⟩
  | cell n =>
    simp only at q
    split at q
    · rename_i ds hn
      simp only [Option.some.injEq, Prod.mk.injEq] at q
      obtain ⟨⟨rfl, rfl⟩, rfl⟩ := q
      exact (pi_list (h _ _ _ _ e1)).mono fun σ H R ⟨α, F, s, re, k⟩ => ⟨α, F, s, re, fun v α1 F1 H1 x1 s1 r1 => by
        cases r1 with
        | @cell a _ q1 =>
          obtain ⟨vs, p1, p2⟩ := s1.cel _ _ _ hn q1
          exact ⟨a, rfl, ⟨_, SqL.of p1⟩, k _ α1 F1 H1 x1 s1 (by simp [watch, hn]) (wd_cell q1)⟩⟩
    · cases q
  | _ => cases q
theorem pi_rng1 (hg : Gl X "range") (hm : X.mg "range" = none) (ha : PAd ca Γ X [e] (.cons A .nil)) (hs : starEach [e] X.env = [(false, eval e X.env)] := by rfl) : PId ca Γ X tg (.Call (.Name "range" p) [e] [] pos) (.rng (.c (.int 0)) A) := by
  intro ρ μ xs w μ' q
  simp only [evI, ev, bnd_some] at q
  obtain ⟨y, μ1, e1, q⟩ := bnd_eq q
  split at q
  · rename_i i j h1
    cases h1
    split at q
    · rename_i hb
      simp only [Option.some.injEq, Prod.mk.injEq] at q
      obtain ⟨⟨rfl, rfl⟩, rfl⟩ := q
      exact (pi_range1 hg hm (ha _ _ _ _ (by simp only [evs, e1, bnd_some]; rfl)) hs).mono fun σ H R ⟨α, F, s, re, k⟩ => ⟨α, F, s, re, fun vs α1 F1 H1 x1 s1 r1 => by
        obtain ⟨v, vr, ev0, r4, r2⟩ := r1.cons_inv; subst ev0
        cases r2.nil_iff
        cases r4
        refine ⟨_, rfl, hb.2.2.1, hb.2.2.2, k _ α1 F1 H1 x1 s1 rfl ?_⟩
        simpa using wd_range (K := X.K) (ca := ca) (α := α1) (F := F1) 0 _⟩
    · cases q
  · cases q
theorem pi_rng2 (hg : Gl X "range") (hm : X.mg "range" = none) (ha : PAd ca Γ X [e, e2] (.cons A (.cons B .nil))) (hs : starEach [e, e2] X.env = [(false, eval e X.env), (false, eval e2 X.env)] := by rfl) (hs2 : starEach [e2] X.env = [(false, eval e2 X.env)] := by rfl) : PId ca Γ X tg (.Call (.Name "range" p) [e, e2] [] pos) (.rng A B) := by
  intro ρ μ xs w μ' q
  simp only [evI] at q
  obtain ⟨x, μ0, e0, q⟩ := bnd_eq q
  obtain ⟨y, μ1, e1, q⟩ := bnd_eq q
  split at q
  · split at q
    · rename_i hb
      simp only [Option.some.injEq, Prod.mk.injEq] at q
      obtain ⟨⟨rfl, rfl⟩, rfl⟩ := q
      exact (pi_range2 hg hm (ha _ _ _ _ (by simp only [evs, e0, e1, bnd_some]; rfl)) hs hs2).mono fun σ H R ⟨α, F, s, re, k⟩ => ⟨α, F, s, re, fun vs α1 F1 H1 x1 s1 r1 => by
        obtain ⟨v, vr, ev0, r4, r2⟩ := r1.cons_inv; subst ev0
        obtain ⟨v', vr', ev1, r3, r5⟩ := r2.cons_inv; subst ev1
        cases r5.nil_iff
        cases r4; cases r3
        exact ⟨_, _, rfl, hb, k _ α1 F1 H1 x1 s1 rfl (wd_range _ _)⟩⟩
    · cases q
  · cases q
theorem pi_enm {elts : List Expr} {kk : Nat} {tpos : Pos} (hg : Gl X "enumerate") (hm : X.mg "enumerate" = none) (ha : PAd ca Γ X [e] (.cons A .nil))
    (hs : starEach [e] X.env = [(false, eval e X.env)] := by rfl) : PId ca Γ X (.Tuple elts kk tpos) (.Call (.Name "enumerate" p) [e] [] pos) (.enm A) := by
  intro ρ μ xs w μ' q
  simp only [evI] at q
  obtain ⟨x, μ0, e0, q⟩ := bnd_eq q
  split at q
  · simp only [Option.some.injEq, Prod.mk.injEq] at q
    obtain ⟨⟨rfl, rfl⟩, rfl⟩ := q
    exact (pi_enum hg hm (ha _ _ _ _ (by simp only [evs, e0, bnd_some]; rfl)) hs).mono fun σ H R ⟨α, F, s, re, k⟩ => ⟨α, F, s, re, fun vs α1 F1 H1 x1 s1 r1 => by
      obtain ⟨v, vr, ev0, r4, r2⟩ := r1.cons_inv; subst ev0
      cases r2.nil_iff
      cases r4 with
      | @lst a vs _ q1 q2 q3 => exact ⟨a, vs, rfl, SqL.of (s1.sub _ _ q1), k _ α1 F1 H1 x1 s1 rfl (wd_enum (SqL.of q1) ⟨q2, q3⟩)⟩⟩
  · cases q
end
end DP

/-! Rules: comprehensions. -/
namespace DP
open PySem PySem.Spec L2

/-! ### transformers that speak of all data at once -/
section
variable (K : PySem.W.Frag) (ca : Str → Option Addr) (Γ : Pr)
def uE (E : E) : TE := fun σ H Q => ∃ ρ μ d μ', ev Γ E ρ μ = some (d, μ') ∧ tD K ca ρ μ d μ' σ H Q
def uT (E : E) : TT := fun σ H Q => ∃ ρ μ b μ', evT Γ E ρ μ = some (b, μ') ∧ tDT K ca ρ μ b μ' σ H Q
def uG (T : Tg) : TG := fun v σ H Q => ∃ ρ μ d ρ' μ', bind Γ T d ρ μ = some (ρ', μ') ∧ tG K ca T.sl ρ μ d ρ' μ' v σ H Q
def uI (E : E) : TI := fun σ H R => ∃ ρ μ xs w μ', evI Γ E ρ μ = some ((xs, w), μ') ∧ tDI K ca ρ μ xs w μ' σ H R
end
section
variable {ca : Str → Option Addr} {Γ : Pr} {X : Cx} {e it tg : Expr} {ifs : List Expr} {A I C : E} {T : Tg}
theorem PEd.u (h : PEd ca Γ X e A) : PE X e (uE X.K ca Γ A) := ⟨fun pins s σ H Q I ⟨ρ, μ, d, μ', q, t⟩ => (h _ _ _ _ q).run pins s σ H Q I t⟩
theorem PTd.u (h : PTd ca Γ X e A) : PT X e (uT X.K ca Γ A) := ⟨fun pins s σ H Q I ⟨ρ, μ, d, μ', q, t⟩ => (h _ _ _ _ q).run pins s σ H Q I t⟩
theorem PTsd.u (h : PTsd ca Γ X ifs A) : PTs X ifs (uT X.K ca Γ A) := ⟨fun pins s σ H Q I ⟨ρ, μ, d, μ', q, t⟩ => (h _ _ _ _ q).run pins s σ H Q I t⟩
theorem PGd.u (h : PGd ca Γ X tg T) : PG X tg (uG X.K ca Γ T) := ⟨fun pins s σ H v u Q I r ⟨ρ, μ, d, ρ', μ', q, t⟩ => (h _ _ _ _ _ q).run pins s σ H v u Q I r t⟩
theorem PId.u (h : PId ca Γ X tg it A) : PI X tg it (uI X.K ca Γ A) := ⟨fun pins s σ H R I ⟨ρ, μ, xs, w, μ', q, t⟩ => (h _ _ _ _ _ q).run pins s σ H R I t⟩
end

/-! ### names of a block -/
theorem wipe_at (σ : L2.St) : ∀ (vs : List Nat) (i : Nat), (wipe σ vs)[i]? = if i ∈ vs then (if i < σ.length then some none else none) else σ[i]?
  | [], i => by simp [wipe]
  | v :: vs, i => by
    have ih := wipe_at σ vs i
    have hl := wipe_length σ vs
    unfold wipe
    by_cases h : v = i
    · subst h
      rw [if_pos (by simp)]
      by_cases hv : v < σ.length
      · rw [if_pos hv, List.getElem?_set_self (by rw [hl]; exact hv)]
      · rw [if_neg hv]; apply List.getElem?_eq_none; rw [List.length_set, hl]; omega
    · rw [List.getElem?_set_ne h, ih]
      have : (i ∈ v :: vs) ↔ i ∈ vs := by simp; exact fun e => absurd e.symm h
      simp only [this]
theorem wipeD_len (ρ : Rho) : ∀ vs, (wipeD ρ vs).length = ρ.length
  | [] => rfl
  | v :: vs => by unfold wipeD; rw [List.length_set, wipeD_len ρ vs]
theorem wipeD_some {ρ : Rho} {i : Nat} {d : D} : ∀ {vs : List Nat}, (wipeD ρ vs)[i]? = some (some d) → ρ[i]? = some (some d) ∧ i ∉ vs
  | [], h => ⟨h, by simp⟩
  | v :: vs, h => by
    unfold wipeD at h
    by_cases hi : v = i
    · subst hi
      by_cases hv : v < (wipeD ρ vs).length
      · rw [List.getElem?_set_self hv] at h; cases h
      · rw [List.getElem?_eq_none (by rw [List.length_set]; omega)] at h; cases h
    · rw [List.getElem?_set_ne hi] at h
      obtain ⟨h1, h2⟩ := wipeD_some h
      exact ⟨h1, by simp only [List.mem_cons, not_or]; exact ⟨fun e => hi e.symm, h2⟩⟩
theorem wipe_same {σ σ' : L2.St} {is vs : List Nat} (o : Out is (wipe σ vs) σ') (h : ∀ i ∈ is, i ∈ vs) : wipe σ' vs = wipe σ vs := by
  apply List.ext_getElem?
  intro i
  have hl := o.1
  rw [wipe_length] at hl
  rw [wipe_at, wipe_at, hl]
  by_cases hi : i ∈ vs
  · rw [if_pos hi, if_pos hi]
  · rw [if_neg hi, if_neg hi, o.2 i fun q => hi (h i q), wipe_at, if_neg hi]
theorem wipe_same' {σ : L2.St} {σ' : L2.St} {is vs : List Nat} (o : Out is σ σ') (h : ∀ i ∈ is, i ∈ vs) : wipe σ' vs = wipe σ vs := by
  apply List.ext_getElem?
  intro i
  rw [wipe_at, wipe_at, o.1]
  by_cases hi : i ∈ vs
  · rw [if_pos hi, if_pos hi]
  · rw [if_neg hi, if_neg hi, o.2 i fun q => hi (h i q)]
section
variable {K : PySem.W.Frag} {ca : Str → Option Addr} {α αs αw : List Addr} {F Fs Fw H : Hp} {σ : L2.St} {ρ : Rho} {μ μ' : Sto} {L : Addr} {J : It} {xs : List D} {w : Wt}
theorem RE.wipe (r : RE K ca α F σ ρ) (vs : List Nat) : RE K ca α F (wipe σ vs) (wipeD ρ vs) := ⟨by rw [wipe_length, wipeD_len]; exact r.1, fun i d h => by
  obtain ⟨h1, h2⟩ := wipeD_some h
  obtain ⟨v, g1, g2⟩ := r.2 i d h1
  exact ⟨v, by rw [wipe_out h2]; exact g1, g2⟩⟩

/-- what stands while a new list L grows: the marks, the state, what is gathered -/
structure Gro (K : PySem.W.Frag) (ca : Str → Option Addr) (α : List Addr) (F : Hp) (αw : List Addr) (Fw : Hp) (L : Addr) (μ : Sto) (accd : List D) (H : Hp) (α' : List Addr) (F' : Hp) (acc : List V) : Prop where
  x : Ext α F α' F'
  w : Wxt αw Fw α' F'
  s : Sim K ca α' F' μ H
  m : F' L = some (mark (.lst acc))
  r : Reps K ca α' F' acc accd
theorem Gro.go {accd acc H α' F' α2 F2 H2 μ2} (g : Gro K ca α F αw Fw L μ accd H α' F' acc) (x : Ext α' F' α2 F2) (s : Sim K ca α2 F2 μ2 H2) : Gro K ca α F αw Fw L μ2 accd H2 α2 F2 acc :=
  ⟨g.x.trans x, g.w.trans x.w, s, x.fr _ _ g.m, g.r.mono x⟩
theorem Gro.at {accd acc H α' F'} (g : Gro K ca α F αw Fw L μ accd H α' F' acc) : H L = some (.lst acc) := g.s.sub _ _ g.m
/-- one more -/
theorem Gro.add {accd acc H α' F' y d} (hF : F L = none) (g : Gro K ca α F αw Fw L μ accd H α' F' acc) (r : Rep K ca α' F' y d) :
    Gro K ca α F αw Fw L μ (accd ++ [d]) (upd H L (.lst (acc ++ [y]))) α' (upd F' L (mark (.lst (acc ++ [y])))) (acc ++ [y]) := by
  obtain ⟨s, x⟩ := g.s.swap (F' := upd F' L (mark (.lst (acc ++ [y])))) (H' := upd H L (.lst (acc ++ [y]))) g.m (fun a h => upd_ne h) (fun a h => upd_ne h) fun o h => by rw [upd_same] at h ⊢; cases h; rfl
  refine ⟨⟨g.x.pre, fun a o h => ?_⟩, g.w.trans x, s, upd_same, (g.r.monoW x).append (.cons (r.monoW x) .nil)⟩
  rw [upd_ne (ne_of_none h hF)]; exact g.x.fr a o h
/-- the loop -/
theorem lc_gen {f : D → Sto → Option (List D × Sto)} {accd0 ys : List D} {acc0 : List V} (hF : F L = none) (T : V → Hp → (Hp → Prop) → Prop) (Q : Hp → Prop)
    (g0 : Gro K ca α F αw Fw L μ accd0 H αs Fs acc0) (hw : watch w μ = true) (W : WalkD K ca αw Fw J xs w) (hr : lcLoop w f xs μ = some (ys, μ')) (hz : accd0.length + ys.length ≤ sizeLine)
    (turn : ∀ d v α1 F1 μ1 H1 acc accd outs μ2 (Nx : Hp → Prop), Gro K ca α F αw Fw L μ1 accd H1 α1 F1 acc → Rep K ca α1 F1 v d → f d μ1 = some (outs, μ2) → accd.length + outs.length ≤ sizeLine →
      (∀ α2 F2 H2 acc2, Gro K ca α F αw Fw L μ2 (accd ++ outs) H2 α2 F2 acc2 → Nx H2) → T v H1 Nx)
    (done : ∀ α2 F2 H2 acc2, Gro K ca α F αw Fw L μ' (accd0 ++ ys) H2 α2 F2 acc2 → Q H2) :
    ∃ W : Nat → Nat → Hp → Prop, (∃ m, W 0 m H) ∧ ∀ i m H, W i m H → (J.stop i H ∧ Q H) ∨ (J.go i H ∧ ∃ Nx : Hp → Prop, (∀ H', Nx H' → ∃ m', m' < m ∧ W (i + 1) m' H') ∧ ∀ x H', J.yld i H x H' → T x H' Nx) := by
  refine ⟨fun i m H => m = xs.length - i ∧ i ≤ xs.length ∧ ∃ α1 F1 μ1 acc accd rest, Gro K ca α F αw Fw L μ1 accd H α1 F1 acc ∧ watch w μ1 = true ∧ lcLoop w f (xs.drop i) μ1 = some (rest, μ') ∧ accd ++ rest = accd0 ++ ys, ⟨xs.length, by simp, Nat.zero_le _, αs, Fs, μ, acc0, accd0, ys, g0, hw, by simpa using hr, rfl⟩, ?_⟩
  rintro i m H ⟨rfl, hi, α1, F1, μ1, acc, accd, rest, g, hw1, hr1, he⟩
  by_cases hlt : i < xs.length
  · refine .inr ⟨W.goes i _ _ _ _ hlt g.w g.s hw1, fun H' => ∃ α1 F1 μ1 acc accd rest, Gro K ca α F αw Fw L μ1 accd H' α1 F1 acc ∧ watch w μ1 = true ∧ lcLoop w f (xs.drop (i + 1)) μ1 = some (rest, μ') ∧ accd ++ rest = accd0 ++ ys,
      fun H' p => ⟨xs.length - (i + 1), by omega, rfl, hlt, p⟩, fun v H' y => ?_⟩
    have hd : xs[i]? = some (xs[i]) := by simp [hlt]
    obtain ⟨F2, x2, s2, r2⟩ := W.yields i _ v _ _ _ _ _ hd g.w g.s hw1 y
    rw [List.drop_eq_getElem_cons hlt] at hr1
    simp only [lcLoop] at hr1
    obtain ⟨o1, μ2, e1, hr1⟩ := bnd_eq hr1
    split at hr1
    · rename_i hw2
      obtain ⟨o2, μ3, e2, hr1⟩ := bnd_eq hr1
      cases hr1
      have hlen : accd.length + (o1 ++ o2).length = accd0.length + ys.length := by have := congrArg List.length he; simp only [List.length_append] at this ⊢; omega
      exact turn _ v _ _ _ _ _ _ _ _ _ (g.go x2 s2) r2 e1 (by simp only [List.length_append] at hlen; omega) fun α3 F3 H3 acc3 g3 => ⟨α3, F3, μ2, acc3, accd ++ o1, o2, g3, hw2, e2, by rw [← he]; simp⟩
    · cases hr1
  · have e : i = xs.length := by omega
    subst e
    rw [List.drop_length] at hr1
    cases hr1
    rw [List.append_nil] at he
    subst he
    exact .inl ⟨W.stops _ _ _ _ g.w g.s hw1, done _ _ _ _ g⟩
/-- the new list is done with -/
theorem Gro.fin {m : Bool} {ys : List D} {acc : List V} {H α' F' d μ2} {Q : VK} (hF : F L = none) (g : Gro K ca α F αw Fw L μ ys H α' F' acc) (h : alloc m ys μ = some (d, μ2)) (k : Kon K ca α F d μ2 Q) : Q (.ref L) H := by
  unfold alloc at h
  split at h
  · cases m with
    | true =>
      simp only [if_true, Option.some.injEq, Prod.mk.injEq] at h
      obtain ⟨rfl, rfl⟩ := h
      obtain ⟨s, x, e⟩ := g.s.cellOf (F' := fun a => if a = L then none else F' a) (c := .lst ys) g.m (fun a h => if_neg h) (if_pos rfl) ⟨acc, g.at, g.r⟩
      refine k _ _ _ _ ⟨?_, fun a o h => ?_⟩ s (.cell e)
      · obtain ⟨β, rfl⟩ := g.x.pre; exact ⟨β ++ [L], by simp⟩
      · rw [if_neg (ne_of_none h hF)]; exact g.x.fr a o h
    | false =>
      simp only [if_false, Option.some.injEq, Prod.mk.injEq, Bool.false_eq_true] at h
      obtain ⟨rfl, rfl⟩ := h
      obtain ⟨s, x⟩ := g.s.swap (F' := upd F' L (.lst acc)) (H' := H) g.m (fun a h => upd_ne h) (fun a h => rfl) fun o h => by rw [upd_same] at h; cases h; exact g.at
      have r := g.r.monoW x
      exact k _ _ _ _ ⟨g.x.pre, fun a o h => by rw [upd_ne (ne_of_none h hF)]; exact g.x.fr a o h⟩ s (.lst upd_same r.1 r.2)
  · cases h
end

/-! ### list comprehensions -/
section
variable {K : PySem.W.Frag} {ca : Str → Option Addr} {Γ : Pr} {ρ : Rho} {μ μ' : Sto} {d : D}
theorem lc_reads {m : Bool} {vs : List Nat} {T : Tg} {I C A : E} (hsl : ∀ i ∈ T.sl, i ∈ vs) (h : ev Γ (.lc m vs T I C A) ρ μ = some (d, μ')) (σ : L2.St) (H : Hp) (Q : VK) (t : tD K ca ρ μ d μ' σ H Q) :
    tLc (uI K ca Γ I) (uG K ca Γ T) (uT K ca Γ C) (uE K ca Γ A) vs σ H Q := by
  simp only [ev] at h
  obtain ⟨⟨xs, w⟩, μ1, e1, h⟩ := bnd_eq h
  obtain ⟨ys, μ2, e2, h⟩ := bnd_eq h
  obtain ⟨α, F, s, re, k⟩ := t
  refine ⟨ρ, μ, xs, w, μ1, e1, α, F, s, re, fun J α1 F1 H1 x1 s1 hw W => ?_⟩
  intro L hL
  obtain ⟨sm, xm, hF⟩ := s1.marked (u := .lst []) hL
  refine lc_gen (acc0 := []) (accd0 := []) hF (fun v H' Nx => uG K ca Γ T v (wipe σ vs) H' fun σ2 H2 => wipe σ2 vs = wipe σ vs ∧ uT K ca Γ C σ2 H2 fun b H3 =>
      if b = true then uE K ca Γ A σ2 H3 fun y H4 => ∃ acc, H4 L = some (.lst acc) ∧ acc.length < sizeLine ∧ Nx (upd H4 L (.lst (acc ++ [y]))) else Nx H3) (fun H => Q (.ref L) H)
    ⟨xm, xm.w, sm, upd_same, .nil⟩ hw W e2 (by have := alloc_len h; simpa using this) (fun dd v α1' F1' μa Ha acc accd outs μb Nx g r e hl hn => ?_) fun α2 F2 H2 acc2 g => g.fin hF h (k.ext x1)
  obtain ⟨p, b1, e⟩ := Option.bind_eq_some_iff.mp e
  obtain ⟨kk, μc, b2, e⟩ := bnd_eq e
  refine ⟨wipeD ρ vs, μa, dd, p.1, p.2, b1, α1', F1', g.s, ((re.mono x1).monoW g.w).wipe vs, r, fun σ2 α2 F2 H2 x2 s2 re2 o2 => ⟨wipe_same o2 hsl, p.1, p.2, kk, μc, b2, α2, F2, s2, re2, fun α3 F3 H3 x3 s3 => ?_⟩⟩
  cases kk with
  | true =>
    simp only [if_true] at e ⊢
    obtain ⟨y, μd, b3, e⟩ := bnd_eq e
    cases e
    refine ⟨p.1, μc, y, _, b3, α3, F3, s3, re2.mono x3, fun yv α4 F4 H4 x4 s4 r4 => ?_⟩
    have g4 := g.go (x2.trans (x3.trans x4)) s4
    exact ⟨acc, g4.at, by rw [g4.r.1]; simp at hl; omega, hn _ _ _ _ (g4.add hF r4)⟩
  | false =>
    simp only [Bool.false_eq_true, if_false] at e ⊢
    cases e
    have g3 := g.go (x2.trans x3) s3
    exact hn _ _ _ _ (by rw [List.append_nil]; exact g3)
theorem lc2_reads {m : Bool} {vs : List Nat} {T T1 : Tg} {I C I1 C1 A : E} (hsl : ∀ i ∈ T.sl, i ∈ vs) (h : ev Γ (.lc2 m vs T I C T1 I1 C1 A) ρ μ = some (d, μ')) (σ : L2.St) (H : Hp) (Q : VK) (t : tD K ca ρ μ d μ' σ H Q) :
    tLc2 (uI K ca Γ I) (uG K ca Γ T) (uT K ca Γ C) (uI K ca Γ I1) (uG K ca Γ T1) (uT K ca Γ C1) (uE K ca Γ A) vs T1.sl σ H Q := by
  simp only [ev] at h
  obtain ⟨⟨xs, w⟩, μ1, e1, h⟩ := bnd_eq h
  obtain ⟨ys, μ2, e2, h⟩ := bnd_eq h
  obtain ⟨α, F, s, re, k⟩ := t
  refine ⟨ρ, μ, xs, w, μ1, e1, α, F, s, re, fun J α1 F1 H1 x1 s1 hw W => ?_⟩
  intro L hL
  obtain ⟨sm, xm, hF⟩ := s1.marked (u := .lst []) hL
  refine lc_gen (acc0 := []) (accd0 := []) hF (fun v H' Nx => uG K ca Γ T v (wipe σ vs) H' fun σ2 H2 => wipe σ2 vs = wipe σ vs ∧ uT K ca Γ C σ2 H2 fun b H3 =>
    if b = true then uI K ca Γ I1 σ2 H3 fun J1 H4 => ∃ W1 : Nat → Nat → Hp → Prop, (∃ m, W1 0 m H4) ∧ ∀ j k H, W1 j k H →
      (J1.stop j H ∧ Nx H) ∨ (J1.go j H ∧ ∃ Nx1 : Hp → Prop, (∀ H', Nx1 H' → ∃ k', k' < k ∧ W1 (j + 1) k' H') ∧ ∀ x H', J1.yld j H x H' → uG K ca Γ T1 x (wipe σ2 T1.sl) H' fun σ3 H5 => wipe σ3 T1.sl = wipe σ2 T1.sl ∧ uT K ca Γ C1 σ3 H5 fun b H6 =>
        if b = true then uE K ca Γ A σ3 H6 fun y H7 => ∃ acc, H7 L = some (.lst acc) ∧ acc.length < sizeLine ∧ Nx1 (upd H7 L (.lst (acc ++ [y]))) else Nx1 H6)
    else Nx H3) (fun H => Q (.ref L) H)
    ⟨xm, xm.w, sm, upd_same, .nil⟩ hw W e2 (by have := alloc_len h; simpa using this) (fun dd v α1' F1' μa Ha acc accd outs μb Nx g r e hl hn => ?_) fun α2 F2 H2 acc2 g => g.fin hF h (k.ext x1)
  obtain ⟨p, b1, e⟩ := Option.bind_eq_some_iff.mp e
  obtain ⟨kk, μc, b2, e⟩ := bnd_eq e
  refine ⟨wipeD ρ vs, μa, dd, p.1, p.2, b1, α1', F1', g.s, ((re.mono x1).monoW g.w).wipe vs, r, fun σ2 α2 F2 H2 x2 s2 re2 o2 => ⟨wipe_same o2 hsl, p.1, p.2, kk, μc, b2, α2, F2, s2, re2, fun α3 F3 H3 x3 s3 => ?_⟩⟩
  cases kk with
  | true =>
    simp only [if_true] at e ⊢
    obtain ⟨⟨xs1, w1⟩, μd, b3, e⟩ := bnd_eq e
    refine ⟨p.1, μc, xs1, w1, μd, b3, α3, F3, s3, re2.mono x3, fun J1 α4 F4 H4 x4 s4 hw4 W4 => ?_⟩
    have g4 := g.go (x2.trans (x3.trans x4)) s4
    have re4 := (re2.mono x3).mono x4
    refine lc_gen (αw := α4) (Fw := F4) hF (fun x H' Nx1 => uG K ca Γ T1 x (wipe σ2 T1.sl) H' fun σ3 H5 => wipe σ3 T1.sl = wipe σ2 T1.sl ∧ uT K ca Γ C1 σ3 H5 fun b H6 =>
        if b = true then uE K ca Γ A σ3 H6 fun y H7 => ∃ acc, H7 L = some (.lst acc) ∧ acc.length < sizeLine ∧ Nx1 (upd H7 L (.lst (acc ++ [y]))) else Nx1 H6) Nx
      ⟨g4.x, (Ext.refl _ _).w, s4, g4.m, g4.r⟩ hw4 W4 e hl (fun dd v α1' F1' μa Ha acc accd outs μb Nx g5 r e hl hn => ?_) fun α2 F2 H2 acc2 g6 => hn _ _ _ _ ⟨g6.x, g4.w.trans g6.w, g6.s, g6.m, g6.r⟩
    obtain ⟨p5, b1, e⟩ := Option.bind_eq_some_iff.mp e
    obtain ⟨kk, μc, b2, e⟩ := bnd_eq e
    refine ⟨wipeD p.1 T1.sl, μa, dd, p5.1, p5.2, b1, α1', F1', g5.s, (re4.monoW g5.w).wipe _, r, fun σ2 α2 F2 H2 x2 s2 re2 o2 => ⟨wipe_same o2 fun _ z => z, p5.1, p5.2, kk, μc, b2, α2, F2, s2, re2, fun α3 F3 H3 x3 s3 => ?_⟩⟩
    cases kk with
    | true =>
      simp only [if_true] at e ⊢
      obtain ⟨y, μd, b3, e⟩ := bnd_eq e
      cases e
      refine ⟨p5.1, μc, y, _, b3, α3, F3, s3, re2.mono x3, fun yv α4 F4 H4 x4 s4 r4 => ?_⟩
      have g4 := g5.go (x2.trans (x3.trans x4)) s4
      exact ⟨acc, g4.at, by rw [g4.r.1]; simp at hl; omega, hn _ _ _ _ (g4.add hF r4)⟩
    | false =>
      simp only [Bool.false_eq_true, if_false] at e ⊢
      cases e
      have g3 := g5.go (x2.trans x3) s3
      exact hn _ _ _ _ (by rw [List.append_nil]; exact g3)
  | false =>
    simp only [Bool.false_eq_true, if_false] at e ⊢
    cases e
    have g3 := g.go (x2.trans x3) s3
    exact hn _ _ _ _ (by rw [List.append_nil]; exact g3)
end
section
variable {ca : Str → Option Addr} {Γ : Pr} {X : Cx} {elt tg iter tg1 iter1 : Expr} {ifs ifs1 : List Expr} {scope : Scope} {pos : Pos} {T T1 : Tg} {I C I1 C1 A : E} {m : Bool}
theorem pd_lc (own : List (Str × Nat)) {vs : List Nat} (hc : X.calm = true) (hN : X.N.Nodup) (ok : BlkOk X.N X.env.scope scope own) (hi : PId ca Γ X tg iter I)
    (hg : ∀ (s : Shared) (H : Hp) (C : Addr) (cl : List (Str × Addr)) (fp : List Addr), PGd ca Γ (X.blk s H scope (compEnvC scope cl C X.env) fp) tg T) (ht : ∀ (s : Shared) (H : Hp) (C' : Addr) (cl : List (Str × Addr)) (fp : List Addr), PTsd ca Γ (X.blk s H scope (compEnvC scope cl C' X.env) fp) ifs C)
    (he : ∀ (s : Shared) (H : Hp) (C : Addr) (cl : List (Str × Addr)) (fp : List Addr), PEd ca Γ (X.blk s H scope (compEnvC scope cl C X.env) fp) elt A) (hs : ∀ x, foldedSetIterable iter X.env x = pure x := by intro _; rfl)
    (hv : own.map (·.2) = vs := by rfl) (hsl : T.sl.all (fun i => vs.contains i) = true := by rfl) : PEd ca Γ X (.ListComp elt [⟨tg, iter, ifs, 0⟩] scope pos) (.lc m vs T I C A) := by
  intro ρ μ d μ' h
  subst hv
  exact (pe_lc hc hN hi.u ok (fun s H C cl fp => (hg s H C cl fp).u) (fun s H C cl fp => (ht s H C cl fp).u) (fun s H C cl fp => (he s H C cl fp).u) hs).mono fun σ H Q t => lc_reads (by simpa using hsl) h σ H Q t
theorem pd_lc2 (own : List (Str × Nat)) {vs : List Nat} (hc : X.calm = true) (hN : X.N.Nodup) (ok : BlkOk X.N X.env.scope scope own) (hi : PId ca Γ X tg iter I)
    (hg : ∀ (s : Shared) (H : Hp) (C : Addr) (cl : List (Str × Addr)) (fp : List Addr), PGd ca Γ (X.blk s H scope (compEnvC scope cl C X.env) fp) tg T) (ht : ∀ (s : Shared) (H : Hp) (C' : Addr) (cl : List (Str × Addr)) (fp : List Addr), PTsd ca Γ (X.blk s H scope (compEnvC scope cl C' X.env) fp) ifs C)
    (hi1 : ∀ (s : Shared) (H : Hp) (C : Addr) (cl : List (Str × Addr)) (fp : List Addr), PId ca Γ (X.blk s H scope (compEnvC scope cl C X.env) fp) tg1 iter1 I1)
    (hg1 : ∀ (s : Shared) (H : Hp) (C : Addr) (cl : List (Str × Addr)) (fp : List Addr), PGd ca Γ (X.blk s H scope (compEnvC scope cl C X.env) fp) tg1 T1) (ht1 : ∀ (s : Shared) (H : Hp) (C' : Addr) (cl : List (Str × Addr)) (fp : List Addr), PTsd ca Γ (X.blk s H scope (compEnvC scope cl C' X.env) fp) ifs1 C1)
    (he : ∀ (s : Shared) (H : Hp) (C : Addr) (cl : List (Str × Addr)) (fp : List Addr), PEd ca Γ (X.blk s H scope (compEnvC scope cl C X.env) fp) elt A) (hs : ∀ x, foldedSetIterable iter X.env x = pure x := by intro _; rfl) (hs1 : ∀ env x, foldedSetIterable iter1 env x = pure x := by intro _ _; rfl)
    (hv : own.map (·.2) = vs := by rfl) (hsl : T.sl.all (fun i => vs.contains i) = true := by rfl) (hsl1 : T1.sl.all (fun i => vs.contains i) = true := by rfl) : PEd ca Γ X (.ListComp elt [⟨tg, iter, ifs, 0⟩, ⟨tg1, iter1, ifs1, 0⟩] scope pos) (.lc2 m vs T I C T1 I1 C1 A) := by
  intro ρ μ d μ' h
  subst hv
  exact (pe_lc2 hc hN hi.u ok (by simpa using hsl1) (fun s H C cl fp => (hg s H C cl fp).u) (fun s H C cl fp => (ht s H C cl fp).u) (fun s H C cl fp => (hi1 s H C cl fp).u) (fun s H C cl fp => (hg1 s H C cl fp).u) (fun s H C cl fp => (ht1 s H C cl fp).u) (fun s H C cl fp => (he s H C cl fp).u) hs hs1).mono fun σ H Q t => lc2_reads (by simpa using hsl) h σ H Q t
end
end DP

/-! Rules: statements. -/
namespace DP
open PySem PySem.Spec L2

/-! ### the store down to its first cells -/
mutual
theorem under_get (n : Nat) : ∀ (ds : List D), D.under.D.unders n ds = true → ∀ (i : Nat) d, ds[i]? = some d → D.under n d = true
  | [], _, i, d, h => by simp at h
  | x :: ds, hu, 0, d, h => by simp [D.under.D.unders] at hu; simp at h; rw [← h]; exact hu.1
  | x :: ds, hu, i + 1, d, h => by simp [D.under.D.unders] at hu; exact under_get n ds hu.2 i d (by simpa using h)
end
theorem under_look (n : Nat) : ∀ (fs : List (Str × D)), D.under.D.underF n fs = true → ∀ f d, fs.lookup f = some d → D.under n d = true
  | [], _, f, d, h => by simp at h
  | (g, x) :: fs, hu, f, d, h => by
    simp [D.under.D.underF] at hu
    by_cases e : f = g
    · subst e; simp at h; rw [← h]; exact hu.1
    · have : (f == g) = false := by simp [e]
      simp only [List.lookup, this] at h
      exact under_look n fs hu.2 f d h
section
variable {K : PySem.W.Frag} {ca : Str → Option Addr} {α β : List Addr} {F H : Hp} {v : V} {d : D} {μ : Sto} {σ : L2.St} {ρ : Rho}
theorem Rep.under {α' : List Addr} (r : Rep K ca α' F v d) (h : D.under α.length d = true) (e : α' = α ++ β) : Rep K ca α F v d := by
  induction r with
  | non => exact .non
  | bl b => exact .bl b
  | int i => exact .int i
  | str z => exact .str z
  | tup h1 l _ ih => exact .tup h1 l fun i v d q1 q2 => ih i v d q1 q2 (under_get _ _ h i d q2)
  | lst h1 l _ ih => exact .lst h1 l fun i v d q1 q2 => ih i v d q1 q2 (under_get _ _ h i d q2)
  | scr h1 => exact .scr h1
  | obj vv h1 h2 h3 h4 _ ih => exact .obj vv h1 h2 h3 h4 fun f d q => ih f d q (under_look _ _ h f d q)
  | @cell a n q =>
    subst e
    have hn : n < α.length := by simpa [D.under] using h
    rw [List.getElem?_append_left hn] at q
    exact .cell q
theorem Reps.under {vs : List V} {ds : List D} (r : Reps K ca (α ++ β) F vs ds) (h : D.under.D.unders α.length ds = true) : Reps K ca α F vs ds := ⟨r.1, fun i v d h1 h2 => (r.2 i v d h1 h2).under (under_get _ _ h i d h2) rfl⟩
theorem unders_map (n : Nat) : ∀ kvs : List (Key × D), (kvs.all fun kv => D.under n kv.2) = true → D.under.D.unders n (kvs.map (·.2)) = true
  | [], _ => rfl
  | p :: r, h => by
    simp only [List.all_cons, Bool.and_eq_true] at h
    simp [D.under.D.unders, h.1, unders_map n r h.2]
theorem Sim.cut {n : Nat} (s : Sim K ca (α ++ β) F μ H) (hn : n = α.length) (hc : (μ.take n).all (cutOk n) = true) : Sim K ca α F (μ.take n) H := by
  subst hn
  have hl := s.len
  have lt : ∀ (m : Nat) a, α[m]? = some a → m < α.length ∧ (α ++ β)[m]? = some a := fun m a h => by
    have := (List.getElem?_eq_some_iff.mp h).1
    exact ⟨this, by rw [List.getElem?_append_left this]; exact h⟩
  have tk : ∀ (m : Nat) c, (μ.take α.length)[m]? = some c → μ[m]? = some c ∧ c ∈ μ.take α.length := fun m c h => by
    refine ⟨?_, List.mem_of_getElem? h⟩
    rw [List.getElem?_take] at h
    split at h
    · exact h
    · cases h
  refine ⟨by rw [List.length_take, ← hl]; simp, s.sub, fun m c a h1 h2 => ?_, fun m k a h1 h2 => s.inj m k a (lt m a h1).2 (lt k a h2).2, fun m c a h1 h2 h3 => s.off m c a (tk m c h1).1 h2 (lt m a h3).2, fun m a h => s.trk m a (lt m a h).2, fun m a u h => s.mrk m a u (lt m a h).2⟩
  obtain ⟨g1, g2⟩ := tk m c h1
  have q := s.cel m c a g1 (lt m a h2).2
  have hu : cutOk α.length c = true := List.all_eq_true.mp hc c g2
  cases c with
  | lst ds => obtain ⟨vs, p1, p2⟩ := q; exact ⟨vs, p1, p2.under hu⟩
  | dct kvs =>
    obtain ⟨vs, p1, p2⟩ := q
    exact ⟨vs, p1, p2.1, p2.2.under (unders_map _ _ hu)⟩
  | ins C gs =>
    obtain ⟨c, dx, fs, p1, p2, p3, p4⟩ := q
    exact ⟨c, dx, fs, p1, p2, fun f => ⟨(p3 f).1, fun d e => by
      obtain ⟨v, k1, k2⟩ := (p3 f).2 d e
      exact ⟨v, k1, k2.under (under_look _ _ hu f d e) rfl⟩⟩, p4⟩
  | dead => trivial
theorem RE.cut {n : Nat} (r : RE K ca (α ++ β) F σ ρ) (hn : n = α.length) : RE K ca α F σ (ρ.map fun o => match o with | some d => if D.under n d then some d else none | none => none) := by
  subst hn
  refine ⟨by rw [List.length_map]; exact r.1, fun i d h => ?_⟩
  rw [List.getElem?_map] at h
  obtain ⟨o, h1, h2⟩ := Option.map_eq_some_iff.mp h
  cases o with
  | none => cases h2
  | some d' =>
    simp only at h2
    split at h2
    · rename_i hu
      cases h2
      obtain ⟨v, g1, g2⟩ := r.2 i _ h1
      exact ⟨v, g1, g2.under hu rfl⟩
    · cases h2
end

/-! ### statements -/
section
variable (K : PySem.W.Frag) (ca : Str → Option Addr)
/-- where a statement may end -/
def Fin (α : List Addr) (F : Hp) (fl : Flw) (ρ' : Rho) (μ' : Sto) (D : Ends) : Prop := match fl with
  | .next => ∀ σ' α' F' H', Ext α F α' F' → Sim K ca α' F' μ' H' → RE K ca α' F' σ' ρ' → D.nx σ' H'
  | .brk => ∀ σ' α' F' H', Ext α F α' F' → Sim K ca α' F' μ' H' → RE K ca α' F' σ' ρ' → D.bk σ' H'
  | .cont => ∀ σ' α' F' H', Ext α F α' F' → Sim K ca α' F' μ' H' → RE K ca α' F' σ' ρ' → D.ct σ' H'
  | .ret d => ∀ v α' F' H', Ext α F α' F' → Sim K ca α' F' μ' H' → Rep K ca α' F' v d → D.rt v H'
def tSd (ρ : Rho) (μ : Sto) (fl : Flw) (ρ' : Rho) (μ' : Sto) : TS := fun D σ H => ∃ α F, Sim K ca α F μ H ∧ RE K ca α F σ ρ ∧ Fin K ca α F fl ρ' μ' D
def uS (Γ : Pr) (B : S) : TS := fun D σ H => ∃ ρ μ fl ρ' μ', evS Γ B ρ μ = some (fl, ρ', μ') ∧ tSd K ca ρ μ fl ρ' μ' D σ H
end
def PSd (ca : Str → Option Addr) (Γ : Pr) (X : Cx) (st : Stmt) (B : S) : Prop := ∀ ρ μ fl ρ' μ', evS Γ B ρ μ = some (fl, ρ', μ') → PS X st (tSd X.K ca ρ μ fl ρ' μ')
def PSsd (ca : Str → Option Addr) (Γ : Pr) (X : Cx) (st : List Stmt) (B : S) : Prop := ∀ ρ μ fl ρ' μ', evS Γ B ρ μ = some (fl, ρ', μ') → PSs X st (tSd X.K ca ρ μ fl ρ' μ')
section
variable {K : PySem.W.Frag} {ca : Str → Option Addr} {α α' : List Addr} {F F' : Hp} {fl : Flw} {ρ : Rho} {μ : Sto} {D : Ends}
theorem Fin.ext (k : Fin K ca α F fl ρ μ D) (x : Ext α F α' F') : Fin K ca α' F' fl ρ μ D := by
  cases fl <;> (intro a b c d e f g; exact k a b c d (x.trans e) f g)
end
section
variable {ca : Str → Option Addr} {Γ : Pr} {X : Cx} {st : Stmt} {rest body : List Stmt} {e o i tg it c : Expr} {A B C I : E} {T : Tg} {P Q : S} {pos p p' : Pos}
theorem PSsd.u (h : PSsd ca Γ X rest P) : PSs X rest (uS X.K ca Γ P) := ⟨fun pins s σ H D I ⟨ρ, μ, fl, ρ', μ', q, t⟩ => (h _ _ _ _ _ q).run pins s σ H D I t⟩
theorem ss_nil : PSsd ca Γ X [] .nil := by
  intro ρ μ fl ρ' μ' h
  simp only [evS, Option.some.injEq, Prod.mk.injEq] at h
  obtain ⟨rfl, rfl, rfl⟩ := h
  exact pss_nil.mono fun D σ H ⟨α, F, s, re, k⟩ => k σ α F H (Ext.refl _ _) s re
theorem ss_cons (h1 : PSd ca Γ X st P) (h2 : PSsd ca Γ X rest Q) : PSsd ca Γ X (st :: rest) (.seq P Q) := by
  intro ρ μ fl ρ' μ' h
  simp only [evS] at h
  cases e1 : evS Γ P ρ μ with
  | none => rw [e1] at h; cases h
  | some r =>
    obtain ⟨f1, ρ1, μ1⟩ := r
    rw [e1] at h
    cases f1 with
    | next =>
      simp only at h
      exact (pss_cons (h1 _ _ _ _ _ e1) (h2 _ _ _ _ _ h)).mono fun D σ H ⟨α, F, s, re, k⟩ => ⟨α, F, s, re, fun σ' α' F' H' x s' re' => ⟨α', F', s', re', k.ext x⟩⟩
    | brk => simp only at h; cases h; exact (pss_cons (h1 _ _ _ _ _ e1) pss_never).mono fun D σ H ⟨α, F, s, re, k⟩ => ⟨α, F, s, re, k⟩
    | cont => simp only at h; cases h; exact (pss_cons (h1 _ _ _ _ _ e1) pss_never).mono fun D σ H ⟨α, F, s, re, k⟩ => ⟨α, F, s, re, k⟩
    | ret d => simp only at h; cases h; exact (pss_cons (h1 _ _ _ _ _ e1) pss_never).mono fun D σ H ⟨α, F, s, re, k⟩ => ⟨α, F, s, re, k⟩
/-- the last statement -/
theorem ss_never : PSsd ca Γ X rest .never := by intro ρ μ fl ρ' μ' h; simp [evS] at h
theorem sd_never : PSd ca Γ X st .never := by intro ρ μ fl ρ' μ' h; simp [evS] at h
theorem sd_pass : PSd ca Γ X (.Pass pos) .pass := by
  intro ρ μ fl ρ' μ' h
  simp only [evS, Option.some.injEq, Prod.mk.injEq] at h
  obtain ⟨rfl, rfl, rfl⟩ := h
  exact ps_pass.mono fun D σ H ⟨α, F, s, re, k⟩ => k σ α F H (Ext.refl _ _) s re
theorem sd_doc {x : Str} {j} : PSd ca Γ X (.Expr (.Constant (.str x) j p) pos) .pass := by
  intro ρ μ fl ρ' μ' h
  simp only [evS, Option.some.injEq, Prod.mk.injEq] at h
  obtain ⟨rfl, rfl, rfl⟩ := h
  exact ps_doc.mono fun D σ H ⟨α, F, s, re, k⟩ => k σ α F H (Ext.refl _ _) s re
theorem sd_brk : PSd ca Γ X (.Break pos) .brk := by
  intro ρ μ fl ρ' μ' h
  simp only [evS, Option.some.injEq, Prod.mk.injEq] at h
  obtain ⟨rfl, rfl, rfl⟩ := h
  exact ps_break.mono fun D σ H ⟨α, F, s, re, k⟩ => k σ α F H (Ext.refl _ _) s re
theorem sd_cont : PSd ca Γ X (.Continue pos) .cont := by
  intro ρ μ fl ρ' μ' h
  simp only [evS, Option.some.injEq, Prod.mk.injEq] at h
  obtain ⟨rfl, rfl, rfl⟩ := h
  exact ps_continue.mono fun D σ H ⟨α, F, s, re, k⟩ => k σ α F H (Ext.refl _ _) s re
theorem sd_ret (h : PEd ca Γ X e A) : PSd ca Γ X (.Return (some e) pos) (.ret A) := by
  intro ρ μ fl ρ' μ' q
  simp only [evS] at q
  obtain ⟨d, μ1, e1, q⟩ := bnd_eq q
  cases q
  exact (ps_ret (h _ _ _ _ e1)).mono fun D σ H ⟨α, F, s, re, k⟩ => ⟨α, F, s, re, fun v α1 F1 H1 x1 s1 r1 => k v α1 F1 H1 x1 s1 r1⟩
theorem sd_retN : PSd ca Γ X (.Return none pos) .retN := by
  intro ρ μ fl ρ' μ' q
  simp only [evS] at q
  cases q
  exact ps_retN.mono fun D σ H ⟨α, F, s, re, k⟩ => k .non α F H (Ext.refl _ _) s .non
theorem sd_ex (h : PEd ca Γ X e A) (hs : swapsWith e none pos.line X.env = pure false := by rfl) : PSd ca Γ X (.Expr e pos) (.ex A) := by
  intro ρ μ fl ρ' μ' q
  simp only [evS] at q
  obtain ⟨d, μ1, e1, q⟩ := bnd_eq q
  cases q
  exact (ps_expr (h _ _ _ _ e1) hs).mono fun D σ H ⟨α, F, s, re, k⟩ => ⟨α, F, s, re, fun v α1 F1 H1 x1 s1 r1 => k σ α1 F1 H1 x1 s1 (re.mono x1)⟩
theorem sd_if (hc : PTd ca Γ X c C) (ha : PSsd ca Γ X body P) (hb : PSsd ca Γ X rest Q) : PSd ca Γ X (.If c body rest pos) (.ife C P Q) := by
  intro ρ μ fl ρ' μ' q
  simp only [evS] at q
  obtain ⟨k, μ1, e1, q⟩ := bnd_eq q
  cases k with
  | true =>
    simp only [if_true] at q
    exact (ps_if (hc _ _ _ _ e1) (ha _ _ _ _ _ q) pss_never).mono fun D σ H ⟨α, F, s, re, k⟩ => ⟨α, F, s, re, fun α1 F1 H1 x1 s1 => by
      simp only [if_true]; exact ⟨α1, F1, s1, re.mono x1, k.ext x1⟩⟩
  | false =>
    simp only [Bool.false_eq_true, if_false] at q
    exact (ps_if (hc _ _ _ _ e1) pss_never (hb _ _ _ _ _ q)).mono fun D σ H ⟨α, F, s, re, k⟩ => ⟨α, F, s, re, fun α1 F1 H1 x1 s1 => by
      simp only [Bool.false_eq_true, if_false]; exact ⟨α1, F1, s1, re.mono x1, k.ext x1⟩⟩
/-- target = value -/
theorem set_mono {te : TE} {g : TG} {ρ ρ' : Rho} {μ μ1 μ' : Sto} {d : D} (ht : ∀ σ H Q, tD X.K ca ρ μ d μ1 σ H Q → te σ H Q) (hg : ∀ v σ H Q, tG X.K ca T.sl ρ μ1 d ρ' μ' v σ H Q → g v σ H Q) (D : Ends) (σ : L2.St) (H : Hp)
    (t : tSd X.K ca ρ μ .next ρ' μ' D σ H) : tAsg te g D σ H := by
  obtain ⟨α, F, s, re, k⟩ := t
  exact ht _ _ _ ⟨α, F, s, re, fun v α1 F1 H1 x1 s1 r1 => hg _ _ _ _ ⟨α1, F1, s1, re.mono x1, r1, fun σ2 α2 F2 H2 x2 s2 re2 _ => k σ2 α2 F2 H2 (x1.trans x2) s2 re2⟩⟩
theorem sd_set (he : PEd ca Γ X e A) (hg : PGd ca Γ X tg T) (hs : swapsWithSole [tg] e pos.line X.env = pure false := by rfl) (hw : swappedStores [tg] e X.env = pure none := by rfl)
    (h1 : (assignEach [tg] X.env).map (·.2) = [assign tg X.env] := by rfl) : PSd ca Γ X (.Assign [tg] e pos) (.set T A) := by
  intro ρ μ fl ρ' μ' q
  simp only [evS] at q
  obtain ⟨d, μ1, e1, q⟩ := bnd_eq q
  obtain ⟨r, e2, q⟩ := Option.map_eq_some_iff.mp q
  cases q
  exact (ps_asg (he _ _ _ _ e1) (hg _ _ _ _ _ e2) hs hw h1).mono (set_mono (fun _ _ _ t => t) fun _ _ _ _ t => t)
theorem gname_mono {ρ ρ' : Rho} {μ μ' : Sto} {d : D} {i : Nat} (h : bind Γ (.one (.n i)) d ρ μ = some (ρ', μ')) (v : V) (σ : L2.St) (H : Hp) (Q : L2.St → Hp → Prop) (t : tG X.K ca (Tg.one (.n i)).sl ρ μ d ρ' μ' v σ H Q) : gName i v σ H Q := by
  obtain ⟨α, F, s, re, r, k⟩ := t
  simp only [bind, storeLeaf, Option.some.injEq, Prod.mk.injEq] at h
  obtain ⟨rfl, rfl⟩ := h
  exact k _ α F H (Ext.refl _ _) s (re.set i r) (Out.set i v σ)
/-- y = [.. for ..] on one line -/
theorem sd_setLc (own : List (Str × Nat)) {vs : List Nat} {j : Nat} {y : Str} {py spos : Pos} {elt tg iter : Expr} {ifs : List Expr} {scope : Scope} {m : Bool} (hc : X.calm = true) (hN : X.N.Nodup) (hy : X.N[j]? = some y) (hyl : X.env.scope.names.lookup y = some .local)
    (hsw : swapsWith (.ListComp elt [⟨tg, iter, ifs, 0⟩] scope pos) (some (.Name y py)) spos.line X.env = pure true) (ok : BlkOk X.N X.env.scope scope own) (hi : PId ca Γ X tg iter I)
    (hg : ∀ (s : Shared) (H : Hp) (C : Addr) (cl : List (Str × Addr)) (fp : List Addr), PGd ca Γ (X.blk s H scope (compEnvC scope cl C X.env) fp) tg T) (ht : ∀ (s : Shared) (H : Hp) (C' : Addr) (cl : List (Str × Addr)) (fp : List Addr), PTsd ca Γ (X.blk s H scope (compEnvC scope cl C' X.env) fp) ifs C)
    (he : ∀ (s : Shared) (H : Hp) (C : Addr) (cl : List (Str × Addr)) (fp : List Addr), PEd ca Γ (X.blk s H scope (compEnvC scope cl C X.env) fp) elt A) (hs : ∀ x, foldedSetIterable iter X.env x = pure x := by intro _; rfl)
    (hv : own.map (·.2) = vs := by rfl) (hsl : T.sl.all (fun i => vs.contains i) = true := by rfl) : PSd ca Γ X (.Assign [.Name y py] (.ListComp elt [⟨tg, iter, ifs, 0⟩] scope pos) spos) (.set (.one (.n j)) (.lc m vs T I C A)) := by
  intro ρ μ fl ρ' μ' q
  subst hv
  simp only [evS] at q
  obtain ⟨d, μ1, e1, q⟩ := bnd_eq q
  obtain ⟨r, e2, q⟩ := Option.map_eq_some_iff.mp q
  cases q
  exact (ps_setLc hc hN hy hyl hsw hi.u ok (fun s H C cl fp => (hg s H C cl fp).u) (fun s H C cl fp => (ht s H C cl fp).u) (fun s H C cl fp => (he s H C cl fp).u) hs).mono
    (set_mono (T := .one (.n j)) (fun σ H Q t => lc_reads (by simpa using hsl) e1 σ H Q t) fun v σ H Q t => gname_mono e2 v σ H Q t)
theorem sd_setLc2 (own : List (Str × Nat)) {vs : List Nat} {j : Nat} {y : Str} {py spos : Pos} {elt tg iter tg1 iter1 : Expr} {ifs ifs1 : List Expr} {scope : Scope} {m : Bool} {T1 : Tg} {I1 C1 : E} (hc : X.calm = true) (hN : X.N.Nodup) (hy : X.N[j]? = some y) (hyl : X.env.scope.names.lookup y = some .local)
    (hsw : swapsWith (.ListComp elt [⟨tg, iter, ifs, 0⟩, ⟨tg1, iter1, ifs1, 0⟩] scope pos) (some (.Name y py)) spos.line X.env = pure true) (ok : BlkOk X.N X.env.scope scope own) (hi : PId ca Γ X tg iter I)
    (hg : ∀ (s : Shared) (H : Hp) (C : Addr) (cl : List (Str × Addr)) (fp : List Addr), PGd ca Γ (X.blk s H scope (compEnvC scope cl C X.env) fp) tg T) (ht : ∀ (s : Shared) (H : Hp) (C' : Addr) (cl : List (Str × Addr)) (fp : List Addr), PTsd ca Γ (X.blk s H scope (compEnvC scope cl C' X.env) fp) ifs C)
    (hi1 : ∀ (s : Shared) (H : Hp) (C : Addr) (cl : List (Str × Addr)) (fp : List Addr), PId ca Γ (X.blk s H scope (compEnvC scope cl C X.env) fp) tg1 iter1 I1)
    (hg1 : ∀ (s : Shared) (H : Hp) (C : Addr) (cl : List (Str × Addr)) (fp : List Addr), PGd ca Γ (X.blk s H scope (compEnvC scope cl C X.env) fp) tg1 T1) (ht1 : ∀ (s : Shared) (H : Hp) (C' : Addr) (cl : List (Str × Addr)) (fp : List Addr), PTsd ca Γ (X.blk s H scope (compEnvC scope cl C' X.env) fp) ifs1 C1)
    (he : ∀ (s : Shared) (H : Hp) (C : Addr) (cl : List (Str × Addr)) (fp : List Addr), PEd ca Γ (X.blk s H scope (compEnvC scope cl C X.env) fp) elt A) (hs : ∀ x, foldedSetIterable iter X.env x = pure x := by intro _; rfl) (hs1 : ∀ env x, foldedSetIterable iter1 env x = pure x := by intro _ _; rfl)
    (hv : own.map (·.2) = vs := by rfl) (hsl : T.sl.all (fun i => vs.contains i) = true := by rfl) (hsl1 : T1.sl.all (fun i => vs.contains i) = true := by rfl) :
    PSd ca Γ X (.Assign [.Name y py] (.ListComp elt [⟨tg, iter, ifs, 0⟩, ⟨tg1, iter1, ifs1, 0⟩] scope pos) spos) (.set (.one (.n j)) (.lc2 m vs T I C T1 I1 C1 A)) := by
  intro ρ μ fl ρ' μ' q
  subst hv
  simp only [evS] at q
  obtain ⟨d, μ1, e1, q⟩ := bnd_eq q
  obtain ⟨r, e2, q⟩ := Option.map_eq_some_iff.mp q
  cases q
  exact (ps_setLc2 hc hN hy hyl hsw hi.u ok (by simpa using hsl1) (fun s H C cl fp => (hg s H C cl fp).u) (fun s H C cl fp => (ht s H C cl fp).u) (fun s H C cl fp => (hi1 s H C cl fp).u) (fun s H C cl fp => (hg1 s H C cl fp).u) (fun s H C cl fp => (ht1 s H C cl fp).u) (fun s H C cl fp => (he s H C cl fp).u) hs hs1).mono
    (set_mono (T := .one (.n j)) (fun σ H Q t => lc2_reads (by simpa using hsl) e1 σ H Q t) fun v σ H Q t => gname_mono e2 v σ H Q t)
/-- a, b = x, y -/
theorem sd_par {j l : Nat} {x y : Str} {a b : Expr} {px py pt : Pos} {kt k2 pt2} (hc : X.calm = true) (hN : X.N.Nodup) (ha : PAd ca Γ X [a, b] A) (hw : swappedStores [.Tuple [.Name x px, .Name y py] kt pt] (.Tuple [a, b] k2 pt2) X.env = pure (some [x, y]) := by rfl) (hi : X.N[j]? = some x := by rfl) (hj : X.N[l]? = some y := by rfl) (hij : j ≠ l := by decide)
    (hx : X.env.scope.names.lookup x = some .local := by rfl) (hy : X.env.scope.names.lookup y = some .local := by rfl)
    (hs : swapsWithSole [.Tuple [.Name x px, .Name y py] kt pt] (.Tuple [a, b] k2 pt2) pos.line X.env = pure false := by rfl) :
    PSd ca Γ X (.Assign [.Tuple [.Name x px, .Name y py] kt pt] (.Tuple [a, b] k2 pt2) pos) (.set (.tup [.n j, .n l]) (.tup A)) := by
  intro ρ μ fl ρ' μ' q
  simp only [evS, ev] at q
  obtain ⟨d, μ1, e1, q⟩ := bnd_eq q
  obtain ⟨ds, μ2, e3, e1⟩ := bnd_eq e1
  obtain ⟨r, e2, q⟩ := Option.map_eq_some_iff.mp q
  cases q
  split at e1
  · cases e1
    exact (ps_par hc hN hi hj hij hx hy (ha _ _ _ _ e3) hw hs).mono fun D σ H ⟨α, F, s, re, k⟩ => ⟨α, F, s, re, fun vs α1 F1 H1 x1 s1 r1 => by
      simp only [bind] at e2
      match ds, e2, r1 with
      | [d1, d2], e2, r1 =>
        simp only [storeAll, storeLeaf, Option.bind_some, Option.some.injEq] at e2
        obtain ⟨v, vr, ev, r3, r4⟩ := r1.cons_inv; subst ev
        obtain ⟨w, wr, ew, r5, r6⟩ := r4.cons_inv; subst ew
        cases r6.nil_iff
        subst e2
        exact ⟨v, w, rfl, k _ α1 F1 H1 x1 s1 (((re.mono x1).set j r3).set l r5)⟩⟩
  · cases e1
/-- o.f = value -/
theorem sd_fld {f : Str} (hcl : ∀ C c, ca C = some c → Cls X.K c ∧ ∀ f ∈ Γ.att C, NoAttr X.K c f) (ho : PEd ca Γ X o B) (he : PEd ca Γ X e A) (hs : swapsWith e (some (.Attribute o f p')) pos.line X.env = pure false := by rfl) : PSd ca Γ X (.Assign [.Attribute o f p'] e pos) (.fld B f A) := by
  intro ρ μ fl ρ' μ' q
  simp only [evS] at q
  obtain ⟨d, μ1, e1, q⟩ := bnd_eq q
  obtain ⟨x, μ2, e2, q⟩ := bnd_eq q
  refine (ps_fld (ho _ _ _ _ e2) (he _ _ _ _ e1) hs).mono fun D σ H ⟨α, F, s, re, k⟩ => ⟨α, F, s, re, fun v α1 F1 H1 x1 s1 r1 => ⟨α1, F1, s1, re.mono x1, fun w α2 F2 H2 x2 s2 r2 => ?_⟩⟩
  split at q
  · rename_i n
    split at q
    · rename_i C gs hc
      split at q
      · rename_i hf
        cases q
        cases r2 with
        | @cell a _ q =>
          obtain ⟨c, dx, fs, h1, h2, h3, h4⟩ := s2.cel _ _ _ hc q
          refine ⟨a, c, dx, fs, rfl, h2, (hcl _ _ h1).1, (hcl _ _ h1).2 f hf.1, by omega, k σ α2 F2 _ (x1.trans x2) (fld_write s2 hc q h1 h2 h3 (r1.mono x2) h4) ((re.mono x1).mono x2)⟩
      · cases q
    · cases q
  · cases q
end
end DP

/-! Rules: stores at indices, augmented stores, loops. -/
namespace DP
open PySem PySem.Spec L2

section
variable {K : PySem.W.Frag} {ca : Str → Option Addr} {α : List Addr} {F H : Hp} {μ : Sto}
theorem ixN_len {n : Nat} {i : Int} {j : Nat} (h : ixN n i = some j) : j < n := (ixN_seq h).2.1
theorem krel_put {vs : List (Key × V)} {ds : List (Key × D)} (r : KRel K ca α F vs ds) (k : Key) {v : V} {d : D} (q : Rep K ca α F v d) : KRel K ca α F (putK vs k v) (putKD ds k d) := by
  have hany : (vs.any fun kv => decide (kv.1 = k)) = (ds.any fun kv => decide (kv.1 = k)) := by
    have e1 : (vs.any fun kv => decide (kv.1 = k)) = (vs.map (·.1)).any fun j => decide (j = k) := by rw [List.any_map]; rfl
    have e2 : (ds.any fun kv => decide (kv.1 = k)) = (ds.map (·.1)).any fun j => decide (j = k) := by rw [List.any_map]; rfl
    rw [e1, e2, r.1]
  unfold putK putKD
  rw [hany]
  split
  · rename_i ha
    clear ha hany
    obtain ⟨h1, h2⟩ := r
    induction vs generalizing ds with
    | nil => cases ds with
      | nil => exact ⟨rfl, .nil⟩
      | cons _ _ => simp at h1
    | cons p vs ih => cases ds with
      | nil => simp at h1
      | cons p' ds =>
        obtain ⟨k1, v1⟩ := p
        obtain ⟨k2, d1⟩ := p'
        simp only [List.map_cons, List.cons.injEq] at h1
        obtain ⟨h1, h3⟩ := h1
        have h1 : k1 = k2 := h1
        subst h1
        have ih := ih h3 h2.tail
        by_cases e : k1 = k
        · simp only [List.map_cons, e, if_true]
          exact ⟨by simp only [List.map_cons]; rw [ih.1], .cons q ih.2⟩
        · simp only [List.map_cons, if_neg e]
          exact ⟨by simp only [List.map_cons]; rw [ih.1], .cons h2.head ih.2⟩
  · exact ⟨by simp [r.1], by simp only [List.map_append, List.map_cons, List.map_nil]; exact r.2.append (.cons q .nil)⟩
end
section
variable {ca : Str → Option Addr} {Γ : Pr} {X : Cx} {st : Stmt} {rest body : List Stmt} {e o i tg it c : Expr} {A B C I : E} {T : Tg} {P Q : S} {pos p p' : Pos}
theorem PSet.or {t t' : TSet} (h : PSet X t) (h' : PSet X t') : PSet X (fun o i v H Q => t o i v H Q ∨ t' o i v H Q) := by
  intro pins s σ H o i v ov iv u Q I ro ri rv q
  rcases q with q | q
  · exact h pins s σ H o i v ov iv u Q I ro ri rv q
  · exact h' pins s σ H o i v ov iv u Q I ro ri rv q
def rSet : TSet := fun o i v H Q => rSetL o i v H Q ∨ rSetD o i v H Q
theorem set_any (hu : X.A.units + 1 < cLine) : PSet X rSet := PSet.or set_list (set_dict hu)
theorem set_run {K : PySem.W.Frag} {α F μ H v w u x y d} {μ' : Sto} {Q : Hp → Prop} (s : Sim K ca α F μ H) (r1 : Rep K ca α F v x) (r2 : Rep K ca α F w y) (r3 : Rep K ca α F u d) (h : setIxD x y d μ = some μ')
    (k : ∀ H', Sim K ca α F μ' H' → Q H') : rSet v w u H Q := by
  unfold setIxD at h
  split at h
  · rename_i n
    cases r1 with
    | @cell a _ q =>
      split at h
      · rename_i ds hn
        obtain ⟨vs, h1, h2⟩ := s.cel _ _ _ hn q
        split at h
        · rename_i kk
          obtain ⟨j, e1, e2⟩ := Option.map_eq_some_iff.mp h
          subst e2
          cases r2
          refine .inl ⟨a, vs, kk, j, rfl, rfl, h1, by rw [h2.1]; exact e1, k _ (s.write hn (fun z => nomatch z) q ⟨_, upd_same, h2.set j r3⟩ fun z => nomatch z)⟩
        · cases h
      · rename_i kvs hn
        obtain ⟨vs, h1, h2⟩ := s.cel _ _ _ hn q
        obtain ⟨kk, e1, e2⟩ := Option.bind_eq_some_iff.mp h
        split at e2
        · rename_i hl
          cases e2
          have hv := key_kV r2 e1
          subst hv
          have hlen : vs.length = kvs.length := by have := congrArg List.length h2.1; simpa using this
          refine .inr ⟨a, _, rfl, DPut.k h1 (by rw [hlen]; exact hl), k _ (s.write hn (fun z => nomatch z) q ⟨_, upd_same, krel_put h2 kk r3⟩ fun z => nomatch z)⟩
        · cases e2
      · cases h
  · cases h
theorem hu_one {k : Nat} (hr : Room k X.A) : X.A.units + 1 < cLine := hu_of hr
/-- o[i] = value -/
theorem sd_setIx {k : Nat} (hr : Room k X.A) (ho : PEd ca Γ X o A) (hi : PEd ca Γ X i B) (he : PEd ca Γ X e C)
    (ha : ∀ v, assign (.Subscript o i p) X.env v = (do
      let ov ← holding [v] (eval o X.env)
      let iv ← holding [v, ov] (eval i X.env)
      standAt p
      holding [v, ov, iv] (setItem ov iv v)
      release [v, ov, iv] []) := by intro _; rfl) (hs : swapsWithSole [.Subscript o i p] e pos.line X.env = pure false := by rfl) (hw : swappedStores [.Subscript o i p] e X.env = pure none := by rfl)
    (h1 : (assignEach [.Subscript o i p] X.env).map (·.2) = [assign (.Subscript o i p) X.env] := by rfl) : PSd ca Γ X (.Assign [.Subscript o i p] e pos) (.setIx A B C) := by
  intro ρ μ fl ρ' μ' q
  simp only [evS] at q
  obtain ⟨d, μ1, e1, q⟩ := bnd_eq q
  obtain ⟨x, μ2, e2, q⟩ := bnd_eq q
  obtain ⟨y, μ3, e3, q⟩ := bnd_eq q
  obtain ⟨μ4, e4, q⟩ := Option.map_eq_some_iff.mp q
  cases q
  exact (ps_asg (he _ _ _ _ e1) (pg_sub (ho _ _ _ _ e2) (hi _ _ _ _ e3) (set_any (hu_of hr)) ha) hs hw h1).mono fun D σ H ⟨α, F, s, re, k⟩ => ⟨α, F, s, re, fun v α1 F1 H1 x1 s1 r1 =>
    ⟨α1, F1, s1, re.mono x1, fun w α2 F2 H2 x2 s2 r2 => ⟨α2, F2, s2, (re.mono x1).mono x2, fun u α3 F3 H3 x3 s3 r3 =>
      set_run s3 (r2.mono x3) r3 ((r1.mono x2).mono x3) e4 fun H4 s4 => k σ α3 F3 H4 ((x1.trans x2).trans x3) s4 (((re.mono x1).mono x2).mono x3)⟩⟩⟩
/-! ### op= -/
/-- what an operator's rule must tell -/
def AugR (X : Cx) (op : Operator) (o : Op2) : Prop := ∃ r, OpR X (inplaceOp op) r ∧ ∀ K ca α F μ H v w x y z Q, Sim K ca α F μ H → Rep K ca α F v x → Rep K ca α F w y → augOp o x y = some z → Kon K ca α F z μ Q → r v w H Q
theorem au_add : AugR X .Add .add := ⟨_, iop_add, fun K ca α F μ H v w x y z Q s r1 r2 e k => by
  cases r1 <;> cases r2 <;> simp only [augOp, Option.some.injEq, reduceCtorEq] at e
  subst e
  exact ⟨_, _, rfl, rfl, k.now s (.int _)⟩⟩
theorem au_sub : AugR X .Sub .sub := ⟨_, iop_sub, fun K ca α F μ H v w x y z Q s r1 r2 e k => by
  cases r1 <;> cases r2 <;> simp only [augOp, Option.some.injEq, reduceCtorEq] at e
  subst e
  exact ⟨_, _, rfl, rfl, k.now s (.int _)⟩⟩
theorem iop_modN : OpR X (inplaceOp .Mod) (rI (fun _ j => j ≠ 0) fun i j => .int (i.fmod j)) := by
  intro pins s σ H x y v u Q I rx ry h
  obtain ⟨i, j, rfl, rfl, hc, q⟩ := h
  obtain ⟨t, rfl⟩ := rx
  obtain ⟨t', rfl⟩ := ry
  exact PyProof.Rows.imod_int hc ⟨.int _, H, I.tok _, ⟨_, rfl⟩, q⟩
theorem au_mod : AugR X .Mod .mod := ⟨_, iop_modN, fun K ca α F μ H v w x y z Q s r1 r2 e k => by
  cases r1 <;> cases r2 <;> simp only [augOp, reduceCtorEq] at e
  split at e
  · rename_i hj; cases e; exact ⟨_, _, rfl, rfl, hj, k.now s (.int _)⟩
  · cases e⟩
theorem sd_augN (j : Nat) {x : Str} {op : Operator} {o2 : Op2} (hN : X.N.Nodup) (ho : AugR X op o2) (he : PEd ca Γ X e A) (hi : X.N[j]? = some x := by rfl) (hx : Loc X.env.scope x := by first | exact Or.inl rfl | exact Or.inr rfl) (hf : X.fn x = true ∨ X.env.scope.names.lookup x = some .local := by first | exact .inl rfl | exact .inr rfl) :
    PSd ca Γ X (.AugAssign (.Name x p') op e pos) (.augN j o2 A) := by
  intro ρ μ fl ρ' μ' q
  simp only [evS] at q
  split at q
  · rename_i dx hd
    obtain ⟨y, μ1, e1, q⟩ := bnd_eq q
    obtain ⟨z, e2, q⟩ := Option.map_eq_some_iff.mp q
    cases q
    obtain ⟨r, h1, h2⟩ := ho
    refine (ps_aug hN hi hx (he _ _ _ _ e1) h1 hf).mono fun D σ H ⟨α, F, s, re, k⟩ => ?_
    obtain ⟨v, g1, g2⟩ := re.2 j _ hd
    exact ⟨v, g1, α, F, s, re, fun w α1 F1 H1 x1 s1 r1 => h2 _ _ _ _ _ _ _ _ _ _ _ _ s1 (g2.mono x1) r1 e2 fun u α2 F2 H2 x2 s2 r2 => k _ α2 F2 H2 (x1.trans x2) s2 (((re.mono x1).mono x2).set j r2)⟩
  · cases q
/-- o[i] of a list, of a dict -/
def rGet (K : PySem.W.Frag) : V → V → Hp → VK → Prop := fun x y H Q => rIxL K x y H Q ∨ ∃ a v, x = .ref a ∧ DGet H a y (some v) ∧ Q v H
theorem get_any (hu : X.A.units + 1 < cLine) : PGet X (rGet X.K) := by
  intro pins s σ H o i ov iv Q I ro ri h
  rcases h with h | ⟨a, v, rfl, g, q⟩
  · obtain ⟨p, xs, k, z, rfl, rfl, hq, he, q⟩ := h
    cases ro
    obtain ⟨t, rfl⟩ := ri
    obtain ⟨its, r, pl, hz⟩ := I.list hq
    obtain ⟨j, h1, h2, h3, h4, h5⟩ := atI_get he
    obtain ⟨w, ew, rw'⟩ := r.get h2
    have hl := r.length
    have hn := line63
    have fin : EP X pins σ Q w s := ⟨z, H, I, rw', q⟩
    by_cases h0 : 0 ≤ k
    · have hj : k.toNat = j := by
        rw [seqIndex_of h0 h5] at h1
        exact Option.some.inj h1
      exact wpAny_getItem_list pl.isList h0 (by omega) (by rw [hj]; simpa using ew) fin
    · have hj : (k + (its.toArray.size : Int)).toNat = j := by
        rw [seqIndex_neg (by omega) h4] at h1
        rw [List.size_toArray, ← hl]
        exact Option.some.inj h1
      exact wpAny_getItem_list_neg pl.isList (by omega) (by rw [List.size_toArray] <;> omega) (by omega) (by rw [hj]; simpa using ew) fin
  · cases (show ov = Value.ref a from ro)
    exact d_getItem hu I g ri fun w' s3 I3 rw' => ⟨v, H, I3, rw', q⟩
theorem get_run {K : PySem.W.Frag} {α F μ H v w x y z} {Q : VK} (s : Sim K ca α F μ H) (r1 : Rep K ca α F v x) (r2 : Rep K ca α F w y) {n : Nat} (hx : x = .cell n) (h : ixD x y μ = some z)
    (k : ∀ u, Rep K ca α F u z → Q u H) : rGet K v w H Q := by
  subst hx
  cases r1 with
  | @cell a _ q =>
    simp only [ixD] at h
    split at h
    · rename_i ds hn
      obtain ⟨vs, h1, h2⟩ := s.cel _ _ _ hn q
      cases r2 with
      | int i =>
        obtain ⟨u, g1, g2⟩ := reps_at h2 h
        exact .inl ⟨a, vs, i, u, rfl, rfl, SqL.of h1, g1, k u g2⟩
      | _ => cases h
    · rename_i kvs hn
      obtain ⟨vs, h1, h2⟩ := s.cel _ _ _ hn q
      obtain ⟨kk, e1, e2⟩ := Option.bind_eq_some_iff.mp h
      have hv := key_kV r2 e1
      subst hv
      rcases look_val h2 kk with ⟨_, e4⟩ | ⟨v', d', e3, e4, r4⟩
      · rw [e4] at e2; cases e2
      · rw [e4] at e2; cases e2
        exact .inr ⟨a, v', rfl, by have g := DGet.k (k := kk) h1; rw [e3] at g; exact g, k _ r4⟩
    · cases h
theorem setIxD_cell {x y d : D} {μ μ' : Sto} (h : setIxD x y d μ = some μ') : ∃ n, x = .cell n := by
  unfold setIxD at h
  split at h
  · exact ⟨_, rfl⟩
  · cases h
theorem sd_augIx {k : Nat} {op : Operator} {o2 : Op2} (hr : Room k X.A) (hop : AugR X op o2) (ho : PEd ca Γ X o A) (hi : PEd ca Γ X i B) (he : PEd ca Γ X e C)
    (ha : ∀ ov iv new, augStore i ov iv new = (do holding [new, ov, iv] (setItem ov iv new); release [new, ov, iv] []; pure .next) := by intros; rfl) : PSd ca Γ X (.AugAssign (.Subscript o i p) op e pos) (.augIx A B o2 C) := by
  intro ρ μ fl ρ' μ' q
  simp only [evS] at q
  obtain ⟨x, μ1, e1, q⟩ := bnd_eq q
  obtain ⟨y, μ2, e2, q⟩ := bnd_eq q
  obtain ⟨old, e3, q⟩ := Option.bind_eq_some_iff.mp q
  obtain ⟨v, μ3, e4, q⟩ := bnd_eq q
  obtain ⟨z, e5, q⟩ := Option.bind_eq_some_iff.mp q
  obtain ⟨μ4, e6, q⟩ := Option.map_eq_some_iff.mp q
  cases q
  obtain ⟨n, hn⟩ := setIxD_cell e6
  obtain ⟨r, h1, h2⟩ := hop
  exact (ps_augS (ho _ _ _ _ e1) (hi _ _ _ _ e2) (get_any (hu_of hr)) (he _ _ _ _ e4) h1 (set_any (hu_of hr)) ha).mono fun D σ H ⟨α, F, s, re, k⟩ => ⟨α, F, s, re, fun xv α1 F1 H1 x1 s1 r1 =>
    ⟨α1, F1, s1, re.mono x1, fun yv α2 F2 H2 x2 s2 r2 => get_run s2 (r1.mono x2) r2 hn e3 fun u ru => ⟨α2, F2, s2, (re.mono x1).mono x2, fun vv α3 F3 H3 x3 s3 r3 =>
      h2 _ _ _ _ _ _ _ _ _ _ _ _ s3 (ru.mono x3) r3 e5 fun zv α4 F4 H4 x4 s4 r4 => set_run s4 (((r1.mono x2).mono x3).mono x4) ((r2.mono x3).mono x4) r4 e6 fun H5 s5 =>
        k σ α4 F4 H5 (((x1.trans x2).trans x3).trans x4) s5 ((((re.mono x1).mono x2).mono x3).mono x4)⟩⟩⟩
/-! ### loops -/
theorem sd_whl (hp : PassesOwn (model X.prog X.w) X.A X.env X.xe) (hc : PTd ca Γ X c C) (hb : PSsd ca Γ X body P) : PSd ca Γ X (.While c body [] pos) (.whl C P) := by
  intro ρ μ fl ρ' μ' q
  simp only [evS] at q
  refine (ps_while hp hc.u hb.u).mono fun D σ H ⟨α, F, s, re, k⟩ => ?_
  refine ⟨fun m σ H => ∃ α1 F1 ρ1 μ1, Ext α F α1 F1 ∧ Sim X.K ca α1 F1 μ1 H ∧ RE X.K ca α1 F1 σ ρ1 ∧ whileL (evT Γ C) (evS Γ P) m ρ1 μ1 = some (fl, ρ', μ'), ⟨Γ.wf, α, F, ρ, μ, Ext.refl _ _, s, re, q⟩, ?_⟩
  rintro m σ1 H1 ⟨α1, F1, ρ1, μ1, x1, s1, re1, q1⟩
  cases m with
  | zero => cases q1
  | succ m =>
    simp only [whileL] at q1
    cases e1 : evT Γ C ρ1 μ1 with
    | none => rw [e1] at q1; cases q1
    | some r =>
      obtain ⟨b, μ2⟩ := r
      rw [e1] at q1
      refine ⟨ρ1, μ1, b, μ2, e1, α1, F1, s1, re1, fun α2 F2 H2 x2 s2 => ?_⟩
      cases b with
      | false =>
        cases q1
        simp only [Bool.false_eq_true, if_false]
        exact k σ1 α2 F2 H2 (x1.trans x2) s2 (re1.mono x2)
      | true =>
        simp only [if_true] at q1 ⊢
        refine ⟨fun σ H => ∃ α1 F1 ρ1 μ1, Ext α F α1 F1 ∧ Sim X.K ca α1 F1 μ1 H ∧ RE X.K ca α1 F1 σ ρ1 ∧ whileL (evT Γ C) (evS Γ P) m ρ1 μ1 = some (fl, ρ', μ'), fun σ' H' z => ⟨m, Nat.lt_succ_self m, z⟩, ?_⟩
        cases e2 : evS Γ P ρ1 μ2 with
        | none => rw [e2] at q1; cases q1
        | some r =>
          obtain ⟨f1, ρ2, μ3⟩ := r
          rw [e2] at q1
          refine ⟨ρ1, μ2, f1, ρ2, μ3, e2, α2, F2, s2, re1.mono x2, ?_⟩
          cases f1 with
          | next => exact fun σ3 α3 F3 H3 x3 s3 re3 => ⟨α3, F3, ρ2, μ3, (x1.trans x2).trans x3, s3, re3, q1⟩
          | cont => exact fun σ3 α3 F3 H3 x3 s3 re3 => ⟨α3, F3, ρ2, μ3, (x1.trans x2).trans x3, s3, re3, q1⟩
          | brk => cases q1; exact fun σ3 α3 F3 H3 x3 s3 re3 => k σ3 α3 F3 H3 ((x1.trans x2).trans x3) s3 re3
          | ret d => cases q1; exact fun v α3 F3 H3 x3 s3 r3 => k v α3 F3 H3 ((x1.trans x2).trans x3) s3 r3
theorem sd_for {sc : Bool} (hp : PassesOwn (model X.prog X.w) X.A X.env X.xe) (hc : X.calm = true) (hi : PId ca Γ X tg it I) (hg : PGd ca Γ X tg T) (hb : PSsd ca Γ X body P)
    (hs : ∀ x, foldedSetIterable it X.env x = pure x := by intro _; rfl) : PSd ca Γ X (.For tg it body [] pos) (.for_ sc T I P) := by
  intro ρ μ fl ρ' μ' q
  simp only [evS] at q
  obtain ⟨⟨xs, w⟩, μ1, e1, q⟩ := bnd_eq q
  refine (ps_for hp hc (hi _ _ _ _ _ e1) hg.u hb.u hs).mono fun D σ H ⟨α0, F0, s0, re0, k0⟩ => ⟨α0, F0, s0, re0, fun J α F H1 x0 s hw W => ?_⟩
  have re := re0.mono x0
  have k := k0.ext x0
  refine for_it (n := xs.length) (G := fun H => ∃ α1 F1 μ2, Ext α F α1 F1 ∧ Sim X.K ca α1 F1 μ2 H ∧ watch w μ2 = true) (Y := J.yld) ⟨fun i H hi ⟨α1, F1, μ2, x1, s1, w1⟩ => W.goes i _ _ _ _ hi x1.w s1 w1, fun H ⟨α1, F1, μ2, x1, s1, w1⟩ => W.stops _ _ _ _ x1.w s1 w1, fun _ _ _ _ _ _ y => y⟩
    (fun i σ H => ∃ α1 F1 ρ1 μ2, Ext α F α1 F1 ∧ Sim X.K ca α1 F1 μ2 H ∧ RE X.K ca α1 F1 σ ρ1 ∧ watch w μ2 = true ∧ forL sc μ1.length w (fun x ρ μ => (bind Γ T x ρ μ).bind fun p => evS Γ P p.1 p.2) (xs.drop i) ρ1 μ2 = some (fl, ρ', μ'))
    ⟨α, F, ρ, μ1, Ext.refl _ _, s, re, hw, by simpa using q⟩ (fun i σ H hi ⟨α1, F1, ρ1, μ2, x1, s1, re1, w1, q1⟩ => ⟨α1, F1, μ2, x1, s1, w1⟩) ?_ ?_
  · rintro i v σ1 H1 H2 hi ⟨α1, F1, ρ1, μ2, x1, s1, re1, w1, q1⟩ y
    have hd : xs[i]? = some (xs[i]) := by simp [hi]
    obtain ⟨F2, x2, s2, r2⟩ := W.yields i _ v _ _ _ _ _ hd x1.w s1 w1 y
    rw [List.drop_eq_getElem_cons hi] at q1
    simp only [forL] at q1
    cases eb : bind Γ T xs[i] ρ1 μ2 with
    | none => rw [eb] at q1; cases q1
    | some p =>
      rw [eb] at q1
      simp only [Option.bind_some] at q1
      refine ⟨ρ1, μ2, xs[i], p.1, p.2, eb, α1, F2, s2, re1.mono x2, r2, fun σ3 α3 F3 H3 x3 s3 re3 _ => ?_⟩
      cases es : evS Γ P p.1 p.2 with
      | none => rw [es] at q1; cases q1
      | some r =>
        obtain ⟨f1, ρ2, μ3⟩ := r
        rw [es] at q1
        refine ⟨p.1, p.2, f1, ρ2, μ3, es, α3, F3, s3, re3, ?_⟩
        have xx := (x1.trans x2).trans x3
        have again : (if watch w μ3 = true then if sc = true then (cut μ1.length ρ2 μ3).bind fun p => forL sc μ1.length w (fun x ρ μ => (bind Γ T x ρ μ).bind fun p => evS Γ P p.1 p.2) (xs.drop (i + 1)) p.1 p.2
            else forL sc μ1.length w (fun x ρ μ => (bind Γ T x ρ μ).bind fun p => evS Γ P p.1 p.2) (xs.drop (i + 1)) ρ2 μ3 else none) = some (fl, ρ', μ') →
            ∀ σ4 α4 F4 H4, Ext α3 F3 α4 F4 → Sim X.K ca α4 F4 μ3 H4 → RE X.K ca α4 F4 σ4 ρ2 → ∃ α1 F1 ρ1 μ2, Ext α F α1 F1 ∧ Sim X.K ca α1 F1 μ2 H4 ∧ RE X.K ca α1 F1 σ4 ρ1 ∧ watch w μ2 = true ∧ forL sc μ1.length w (fun x ρ μ => (bind Γ T x ρ μ).bind fun p => evS Γ P p.1 p.2) (xs.drop (i + 1)) ρ1 μ2 = some (fl, ρ', μ') := by
          intro q2 σ4 α4 F4 H4 x4 s4 re4
          split at q2
          · rename_i w3
            cases sc with
            | false => exact ⟨α4, F4, ρ2, μ3, xx.trans x4, s4, re4, w3, by simpa using q2⟩
            | true =>
              simp only [if_true] at q2
              obtain ⟨p2, c1, c2⟩ := Option.bind_eq_some_iff.mp q2
              unfold cut at c1
              split at c1
              · rename_i hcut
                cases c1
                obtain ⟨β, hβ⟩ := (xx.trans x4).pre
                have hfr := (xx.trans x4).fr
                subst hβ
                have hn : μ1.length = α.length := s.len.symm
                refine ⟨α, F4, _, _, ⟨⟨[], by simp⟩, hfr⟩, s4.cut hn hcut, re4.cut hn, ?_, c2⟩
                cases w with
                | none => rfl
                | some wp =>
                  have g1 := watch_at hw
                  have g2 := watch_at w3
                  have hl := (List.getElem?_eq_some_iff.mp g1).1
                  simp only [watch]
                  rw [List.getElem?_take, if_pos hl, g2]
                  simp
              · cases c1
          · cases q2
        cases f1 with
        | next => exact fun σ4 α4 F4 H4 x4 s4 re4 => again q1 σ4 α4 F4 H4 x4 s4 re4
        | cont => exact fun σ4 α4 F4 H4 x4 s4 re4 => again q1 σ4 α4 F4 H4 x4 s4 re4
        | brk => cases q1; exact fun σ4 α4 F4 H4 x4 s4 re4 => k σ4 α4 F4 H4 (xx.trans x4) s4 re4
        | ret d => cases q1; exact fun u α4 F4 H4 x4 s4 r4 => k u α4 F4 H4 (xx.trans x4) s4 r4
  · rintro σ1 H1 ⟨α1, F1, ρ1, μ2, x1, s1, re1, w1, q1⟩
    rw [List.drop_length] at q1
    cases q1
    exact k σ1 α1 F1 H1 x1 s1 re1
end
end DP

/-! Whole defs. -/
namespace DP
open PySem PySem.Spec L2

section
variable {K : PySem.W.Frag} {ca : Str → Option Addr} {α : List Addr} {F : Hp} {P : Program} {w : World} {mg : Str → Option Value} {base : Heap}
theorem re_map : ∀ {vs : List V} {ds : List D} (i : Nat) (d : D), Reps K ca α F vs ds → (ds.map some)[i]? = some (some d) → ∃ v, (vs.map some)[i]? = some (some v) ∧ Rep K ca α F v d := fun i d r h => by
  rw [List.getElem?_map] at h
  obtain ⟨d', h1, h2⟩ := Option.map_eq_some_iff.mp h
  cases h2
  obtain ⟨v, g1, g2⟩ := r.get h1
  exact ⟨v, by rw [List.getElem?_map, g1]; rfl, g2⟩
theorem re_start {N : List Str} {vs : List V} {ds : List D} {n np : Nat} (r : Reps K ca α F vs ds) (hn : n = N.length) (hp : ds.length = np) : RE K ca α F (L2.start N vs) (ds.map some ++ List.replicate (n - np) none) := by
  subst hn hp
  refine ⟨by simp [L2.start, r.1], fun i d h => ?_⟩
  unfold L2.start
  by_cases hi : i < ds.length
  · rw [List.getElem?_append_left (by simpa using hi)] at h
    obtain ⟨v, g1, g2⟩ := re_map i d r h
    exact ⟨v, by rw [List.getElem?_append_left (by simpa [r.1] using hi)]; exact g1, g2⟩
  · rw [List.getElem?_append_right (by simpa using hi)] at h
    rw [List.getElem?_replicate] at h
    split at h <;> cases h
theorem fin_run {sc : Bool} {μ μ1 μ' : Sto} {r d : D} {H' : Hp} {α' : List Addr} {F' : Hp} {v : V} {Q : VK} (hn : μ.length = α.length) (h : finD sc μ.length r μ1 = some (d, μ')) (x : Ext α F α' F') (s : Sim K ca α' F' μ1 H') (q : Rep K ca α' F' v r) (k : Kon K ca α F d μ' Q) : Q v H' := by
  unfold finD at h
  cases sc with
  | false => simp only [Bool.false_eq_true, if_false] at h; cases h; exact k _ _ _ _ x s q
  | true =>
    simp only [if_true] at h
    split at h
    · rename_i hc
      simp only [Bool.and_eq_true] at hc
      cases h
      obtain ⟨β, rfl⟩ := x.pre
      rw [hn] at hc k
      exact k v α F' H' ⟨⟨[], by simp⟩, x.fr⟩ (s.cut rfl hc.2) (q.under hc.1 rfl)
    · cases h
theorem fn_ok {Γ : Pr} {k : Nat} {x qual : Str} {params : Arguments} {body : List Stmt} {scope : Scope} {dvs : List V} {kws : List (Str × V)} {f : Addr} {fd : FuncData} {N ps : List Str} {d : Def} (FD : FunD K x qual params body scope dvs kws f fd) (S : FnScope N ps scope) (hp : ps.length = d.np) (hn : d.n = N.length)
    (hb : ∀ (cdv : Value) (A : Around) (outer : List Env) (s : Shared) (H : Hp) (E : XK), Room k (A.deeper (PyProof.Rows.envOfC qual scope s.heap.objs.size f cdv)) → PSsd ca Γ (cxOf CX0 P w K mg base N qual scope f cdv A outer s H E).nox body d.body) :
    FnOk P w K mg base CX0 (k + 1) f fd ps (spD K ca (runDef Γ d) ps.length) := by
  refine FD.ok S (fun vs H Q E h => h.1) fun cdv A outer s H vs Q E hr h => ?_
  obtain ⟨hl, α, F, μ, ds, r, μ', sm, rs, e, kk⟩ := h
  have hal : μ.length = α.length := sm.len.symm
  unfold runDef at e
  split at e
  · rename_i hlen
    have re := re_start (N := N) rs hn hlen
    split at e
    · rename_i r1 ρ1 μ1 es
      exact ⟨_, PSs.nox (hb cdv A outer s H E hr _ _ _ _ _ es), α, F, sm, re, fun v α' F' H' x s' q => fin_run hal e x s' q kk⟩
    · rename_i ρ1 μ1 es
      exact ⟨_, PSs.nox (hb cdv A outer s H E hr _ _ _ _ _ es), α, F, sm, re, fun σ' α' F' H' x s' _ => fin_run hal e x s' .non kk⟩
    · cases e
  · cases e
/-- a def that tells nothing -/
theorem fn_none {k : Nat} {x qual : Str} {params : Arguments} {body : List Stmt} {scope : Scope} {dvs : List V} {kws : List (Str × V)} {f : Addr} {fd : FuncData} {N ps : List Str} (FD : FunD K x qual params body scope dvs kws f fd) (S : FnScope N ps scope) {g : List D → Sto → Option (D × Sto)} (hg : ∀ as μ, g as μ = none) :
    FnOk P w K mg base CX0 k f fd ps (spD K ca g ps.length) := by
  refine FnOk.mono (FnOk.imp (sp := fun _ _ _ _ => False) ?_ fun vs H Q E h => ?_) (Nat.zero_le k)
  · exact ⟨fun _ _ _ _ h => h.elim, fun _ _ _ _ _ _ _ _ _ _ _ _ _ h => h.elim⟩
  · obtain ⟨hl, α, F, μ, ds, r, μ', sm, rs, e, kk⟩ := h
    rw [hg] at e; cases e
end
/-! ### a program, call by call deeper -/
theorem Prog.call_zero (G : Prog) (wf : Nat) (x : Str) (as : List D) (μ : Sto) : (G.pr wf 0).call x as μ = none := rfl
theorem Prog.meth_zero (G : Prog) (wf : Nat) (C m : Str) (as : List D) (μ : Sto) : (G.pr wf 0).meth C m as μ = none := rfl
theorem Prog.call_succ {G : Prog} {x : Str} {d : Def} (h : G.defs x = some d) (wf k : Nat) : (G.pr wf (k + 1)).call x = runDef (G.pr wf k) d := by
  funext as μ
  show (match G.defs x with | some d => runDef (G.pr wf k) d as μ | none => none) = _
  rw [h]
theorem Prog.meth_succ {G : Prog} {C m : Str} {d : Def} (h : (G.mets m).lookup C = some d) (wf k : Nat) : (G.pr wf (k + 1)).meth C m = runDef (G.pr wf k) d := by
  funext as μ
  show (match (G.mets m).lookup C with | some d => runDef (G.pr wf k) d as μ | none => none) = _
  rw [h]
theorem lookup_mem {C : Str} {d : Def} : ∀ {l : List (Str × Def)}, l.lookup C = some d → C ∈ l.map (·.1)
  | [], h => by simp at h
  | (k, e) :: l, h => by
    by_cases hk : C = k
    · subst hk; simp
    · have : (C == k) = false := by simp [hk]
      simp only [List.lookup, this] at h
      simp only [List.map_cons, List.mem_cons]
      exact .inr (lookup_mem h)
theorem Prog.meth_in {G : Prog} {C m : Str} {wf k : Nat} {as : List D} {μ : Sto} {r} (h : (G.pr wf k).meth C m as μ = some r) : C ∈ (G.mets m).map (·.1) := by
  cases k with
  | zero => cases h
  | succ k =>
    cases e : (G.mets m).lookup C with
    | none =>
      have : (match (G.mets m).lookup C with | some d => runDef (G.pr wf k) d as μ | none => none) = some r := h
      rw [e] at this; cases this
    | some d => exact lookup_mem e
section
variable {K : PySem.W.Frag} {ca : Str → Option Addr} {P : Program} {w : World} {mg : Str → Option Value} {base : Heap} {G : Prog} {wf : Nat}
/-- a def at every depth -/
theorem fn_all {k : Nat} {x qual : Str} {params : Arguments} {body : List Stmt} {scope : Scope} {dvs : List V} {kws : List (Str × V)} {f : Addr} {fd : FuncData} {N ps : List Str} {nm : Str} {d : Def} (FD : FunD K x qual params body scope dvs kws f fd) (S : FnScope N ps scope) (hd : G.defs nm = some d)
    (ok : ∀ j, j + 1 = k → FnOk P w K mg base CX0 (2 * j + 2) f fd ps (spD K ca (runDef (G.pr wf j) d) ps.length)) : FnOk P w K mg base CX0 (2 * k) f fd ps (spD K ca ((G.pr wf k).call nm) ps.length) := by
  cases k with
  | zero => exact fn_none FD S (Prog.call_zero G wf nm)
  | succ k => rw [Prog.call_succ hd]; exact ok k rfl
theorem mt_all {k : Nat} {x qual : Str} {params : Arguments} {body : List Stmt} {scope : Scope} {dvs : List V} {kws : List (Str × V)} {f : Addr} {fd : FuncData} {N ps : List Str} {C m : Str} {d : Def} (FD : FunD K x qual params body scope dvs kws f fd) (S : FnScope N ps scope) (hd : (G.mets m).lookup C = some d)
    (ok : ∀ j, j + 1 = k → FnOk P w K mg base CX0 (2 * j + 2) f fd ps (spD K ca (runDef (G.pr wf j) d) ps.length)) : FnOk P w K mg base CX0 (2 * k) f fd ps (spD K ca ((G.pr wf k).meth C m) ps.length) := by
  cases k with
  | zero => exact fn_none FD S (Prog.meth_zero G wf C m)
  | succ k => rw [Prog.meth_succ hd]; exact ok k rfl
/-! ### how defs bind -/
theorem bo_N {x qual : Str} {params : Arguments} {body : List Stmt} {scope : Scope} {kws : List (Str × V)} {f : Addr} {fd : FuncData} {ps : List Str} (FD : FunD K x qual params body scope [] kws f fd) (n : Nat) (hn : n = ps.length)
    (h : ∀ (kV doc pm : Value) (an : Option Addr) (cdv ct : Value) (us : List Value), us.length = n → bindArgs (PySem.W.fnOf x qual params body scope .none kV doc pm an cdv ct) ⟨us, []⟩ = pure (ps.zip us)) : BindOf K fd ps n [] [] := by
  obtain ⟨oc, od, dV, kV, doc, pm, an, cdv, ct, osl, rfl, lk, hcd, hD, hK⟩ := FD.ex
  rcases hD with ⟨_, rfl⟩ | ⟨e, _⟩
  · refine ⟨[], [], .nil, fun _ _ _ => .nil, by simp [hn], fun s us ws X l1 l2 => ?_⟩
    have : ws = [] := List.length_eq_zero_iff.mp l2
    subst this
    simp only [List.append_nil, List.zip_nil_right]
    exact .of_eq (h kV doc pm an cdv ct us l1)
  · exact absurd rfl e
theorem bo_K {x qual : Str} {params : Arguments} {body : List Stmt} {scope : Scope} {kws : List (Str × V)} {f : Addr} {fd : FuncData} {ps : List Str} (FD : FunD K x qual params body scope [] kws f fd) (n : Nat) (ks : List Str) (hn : n + ks.length = ps.length)
    (h : ∀ (kV doc pm : Value) (an : Option Addr) (cdv ct : Value) (us ws : List Value), us.length = n → ws.length = ks.length → bindArgs (PySem.W.fnOf x qual params body scope .none kV doc pm an cdv ct) ⟨us, ks.zip ws⟩ = pure (ps.zip (us ++ ws))) : BindOf K fd ps n ks [] := by
  obtain ⟨oc, od, dV, kV, doc, pm, an, cdv, ct, osl, rfl, lk, hcd, hD, hK⟩ := FD.ex
  rcases hD with ⟨_, rfl⟩ | ⟨e, _⟩
  · refine ⟨[], [], .nil, fun _ _ _ => .nil, by simp; omega, fun s us ws X l1 l2 => ?_⟩
    rw [List.append_nil]
    exact .of_eq (h kV doc pm an cdv ct us ws l1 l2)
  · exact absurd rfl e
theorem bo_0 {x qual : Str} {params : Arguments} {body : List Stmt} {scope : Scope} {kws : List (Str × V)} {f : Addr} {fd : FuncData} {ps : List Str} {dds : List D} (FD : FunD K x qual params body scope [] kws f fd) (n : Nat) (hk : kws ≠ []) (hn : n + kws.length = ps.length) (hd : ∀ ca α F, Reps K ca α F (kws.map (·.2)) dds)
    (h : ∀ (D : Addr) (doc pm : Value) (an : Option Addr) (cdv ct : Value) (us ks : List Value), us.length = n → ks.length = kws.length →
      KwChain D ((kws.map (·.1)).zip ks) (bindArgs (PySem.W.fnOf x qual params body scope .none (.ref D) doc pm an cdv ct) ⟨us, []⟩) (ps.zip (us ++ ks))) : BindOf K fd ps n [] dds := by
  obtain ⟨ds, rv, hb⟩ := FD.binds0 n hk hn h
  have hl := (hd (fun _ => none) [] (fun _ => none)).1
  rw [List.length_map] at hl
  refine ⟨_, ds, rv, hd, by simp; omega, fun s us ws X l1 l2 => ?_⟩
  have : ws = [] := List.length_eq_zero_iff.mp l2
  subst this
  have hlen := rv.length
  rw [List.length_map] at hlen
  exact hb s us X (by rw [List.length_append]; omega)
end
end DP

/-! Rules: == and !=, len of an instance. -/
namespace DP
open PySem PySem.Spec L2

section
variable {prog : Program} {w : World} {A : Around} {E : Value → Shared → Prop} {s : Shared} {K : PySem.W.Frag} {x y C f L : Addr} {ox oy : Obj} {od : Option Obj} {h₀ : Heap} {m : Str → Option Value}
theorem ifBound_objNe {M : Model} {args : List Value} {Q : Option Value → Shared → Prop} (X : K.In s.heap) (I : PySem.W.InstAt s.heap x ox C od) (hs : PySem.W.findIn K (.ref C) "__ne__" = some (some (.builtin "object.__ne__")))
    (h : wpAny M A (call (.builtin "object.__ne__") (.ref x :: args)) (fun v => Q (some v)) E s) : wpAny M A (callSpecialIfBound? (.ref x) "__ne__" args) Q E s := by
  simp only [callSpecialIfBound?, bindSpecialIfBound?]
  refine wpAny_holding (wpAny_bind (wpAny_bind (wpAny_bind (I.type.here ((PySem.W.looks_findIn X hs).here ?_)))))
  refine wpAny_bind (wpAny_askSetting (wpAny_ite ?_))
  have fin : wpAny M A (call (.builtin "object.__ne__") ([.ref x] ++ args) >>= fun v => pure (some v)) Q E s := wpAny_bind (wpAny_mono h (fun v s' h' => wpAny_pure h') fun _ _ h' => h')
  split
  · exact wpAny_bind (wpAny_of_eq (F.cmp_object.ne.bind _) (wpAny_pure (by exact fin)))
  · exact wpAny_tryCatch (wpAny_bind (wpAny_of_eq (F.cmp_object.ne.bind _) (wpAny_pure (by exact fin))))
theorem entry_objNe {Q : PySem.Fin → Shared → Prop} (X : K.In s.heap) (I : PySem.W.InstAt s.heap x ox C od) (hs : PySem.W.findIn K (.ref C) "__eq__" = some (some (.ref f))) (hf : PySem.W.isFn K (.ref f) = true) (hu : A.units < cLine)
    (hcall : wpAny (model prog w) A (call (.ref f) [.ref x, .ref y]) (fun v s' => ∃ b, v = .bool b ∧ Q (.done (.ret (.bool (!b)))) s') E s) : wpAny (model prog w) A (Builtin.«object.__ne__» ⟨[.ref x, .ref y], []⟩) Q E s := by
  obtain ⟨hp, g, d, t, os⟩ := s
  unfold Builtin.«object.__ne__»
  repeat (first
    | with_reducible refine wpAny_cRoomFor hu ?_
    | (refine wpAny_bind (m := callSpecialIfBound? (.ref x) (Str.ofString "__eq__") [.ref y])
        (PySem.W.ifBound_K X I hs hf (wpAny_mono hcall (fun r s' hr => by
          obtain ⟨b, rfl, hq⟩ := hr
          repeat (first | exact hq | exact wpAny_pure hq | exact wpAny_truthy_bool hq | (refine wpAny_bind (m := truthy (.bool _)) (wpAny_truthy_bool ?_)) | wp_step)) fun _ _ e => e)))
    | wp_step)
theorem rc_objNe {Q : Value → Shared → Prop} (hu : A.units + 1 < cLine) (X : K.In s.heap) (I : PySem.W.InstAt s.heap x ox C od) (J : PySem.W.Looks (model prog w) s.heap (typeOf (.ref y)) (.ref C)) (hs : PySem.W.findIn K (.ref C) "__eq__" = some (some (.ref f))) (hf : PySem.W.isFn K (.ref f) = true)
    (hn : PySem.W.findIn K (.ref C) "__ne__" = some (some (.builtin "object.__ne__"))) (hm : PySem.W.mroIn K C (.type "object") = some true)
    (hcall : wpAny (model prog w) A.in1 (call (.ref f) [.ref x, .ref y]) (fun v s' => ∃ b, v = .bool b ∧ Q (.bool (!b)) s') E s) : wpAny (model prog w) A (richCompare .NotEq (.ref x) (.ref y)) Q E s := by
  have one : wpAny (model prog w) A (tryCompare (.ref x) "__ne__" (.ref y)) (fun r s' => ∃ v, r = some v ∧ Q v s') E s := by
    unfold tryCompare
    refine wpAny_bind (ifBound_objNe X I hn (wpAny_call (codeAny_call_builtin F.cmp_object.ne.plain F.cmpEntry_ne (PySem.W.check_slot F.cmpKind_ne F.cmpSplit_ne (I.type.andThen (PySem.W.looks_mroIn X hm)) (F.cmpArgs_ne _ _)
      (entry_objNe (A := A.in1) X I hs hf hu (wpAny_mono hcall (fun v s' hv => ?_) fun _ _ e => e))))))
    obtain ⟨b, rfl, hq⟩ := hv
    exact ⟨b, rfl, wpAny_pure ⟨_, rfl, hq⟩⟩
  unfold richCompare
  simp only [oneThing_ref]
  refine wpAny_holding (wpAny_bind (wpAny_cRoomFor (Nat.lt_of_succ_lt hu) ?_))
  refine wpAny_bind (I.type.here (wpAny_bind (J.here ?_)))
  rw [cmpInfo_NotEq]
  dsimp only
  rw [show (Value.ref C != Value.ref C) = false from by simp]
  simp only [Bool.false_eq_true, if_false]
  refine wpAny_bind (wpAny_pure ?_)
  simp only [Bool.false_eq_true, if_false]
  refine wpAny_bind (wpAny_mono one (fun r s' z => ?_) fun _ _ e => e)
  obtain ⟨v, rfl, hq⟩ := z
  exact wpAny_pure hq
end

section
variable {K : PySem.W.Frag} {ca : Str → Option Addr} {α : List Addr} {F H : Hp} {v : V} {d : D} {μ : Sto}
theorem all_dp : ∀ (ds : List D) (vs : List V) (ps : List PyData), vs.length = ds.length → (∀ (i : Nat) v d, vs[i]? = some v → ds[i]? = some d → ∀ p, d.py = some p → Dp K H v p) → D.pys ds = some ps → DpAll K H vs ps
  | [], vs, ps, hl, _, h => by
    have : vs = [] := List.length_eq_zero_iff.mp hl
    subst this
    simp [D.pys] at h; subst h; exact .nil
  | d :: ds, vs, ps, hl, hd, h => by
    cases vs with
    | nil => simp at hl
    | cons v vs =>
      simp only [D.pys] at h
      split at h
      · rename_i x xs e1 e2
        cases h
        exact .cons (hd 0 v d rfl rfl _ e1) (all_dp ds vs _ (by simpa using hl) (fun i v d h1 h2 => hd (i + 1) v d (by simpa using h1) (by simpa using h2)) e2)
      · cases h
theorem rep_dp (s : Sim K ca α F μ H) (r : Rep K ca α F v d) : ∀ p, d.py = some p → Dp K H v p := by
  induction r with
  | non => intro p h; simp [D.py] at h; subst h; exact .non
  | bl b => intro p h; simp [D.py] at h; subst h; exact .bl b
  | int b => intro p h; simp [D.py] at h; subst h; exact .int b
  | str b => intro p h; simp [D.py] at h; subst h; exact .str b
  | tup h l _ ih =>
    intro p hp
    simp only [D.py] at hp
    obtain ⟨ps, h1, h2⟩ := Option.map_eq_some_iff.mp hp
    subst h2
    exact .tup (seqT_un s.sub h) (all_dp _ _ _ l ih h1)
  | lst h l _ ih =>
    intro p hp
    simp only [D.py] at hp
    obtain ⟨ps, h1, h2⟩ := Option.map_eq_some_iff.mp hp
    subst h2
    exact .lst (SqL.of (s.sub _ _ h)) (all_dp _ _ _ l ih h1)
  | scr h => intro p hp; simp [D.py] at hp
  | obj => intro p hp; simp [D.py] at hp
  | cell h => intro p hp; simp [D.py] at hp
theorem rep_cls (s : Sim K ca α F μ H) (r : Rep K ca α F v d) {C : Str} (h : cls d μ = some C) : ∃ a c dx fs, v = .ref a ∧ ca C = some c ∧ H a = some (.ins c dx fs) := by
  cases r with
  | @obj a C c dx fs gs vv q1 q2 => simp [cls] at h; subst h; exact ⟨a, c, dx, fs, rfl, q1, s.sub _ _ q2⟩
  | @cell a n q =>
    simp only [cls] at h
    split at h
    · rename_i C gs hn
      cases h
      obtain ⟨c, dx, fs, h1, h2, _⟩ := s.cel _ _ _ hn q
      exact ⟨a, c, dx, fs, rfl, h1, h2⟩
    · cases h
  | _ => simp [cls] at h
theorem rep_dict (s : Sim K ca α F μ H) (r : Rep K ca α F v d) {kvs : List (Key × D)} (h : dictOf d μ = some kvs) : ∃ a vs, v = .ref a ∧ H a = some (.dK vs) ∧ KRel K ca α F vs kvs := by
  cases r with
  | @cell a n q =>
    simp only [dictOf] at h
    split at h
    · rename_i ds hn
      cases h
      obtain ⟨vs, h1, h2⟩ := s.cel _ _ _ hn q
      exact ⟨a, vs, rfl, h1, h2⟩
    · cases h
  | _ => simp [dictOf] at h
/-- the items of two dicts of flat values -/
theorem hits_flat {A : Around} {s : Shared} {ks : List (Key × V)} {kb : List (Key × D)} {vb : List (Key × Value)} (rb : KV ks vb) (qb : KRel K ca α F ks kb) (fb : (kb.all fun kv => kv.2.flat) = true) :
    ∀ {ls : List (Key × V)} {la : List (Key × D)} {va : List (Key × Value)}, KV ls va → KRel K ca α F ls la → (la.all fun kv => kv.2.flat) = true →
      PySem.W.KeqHits A s vb va (la.all fun kv => match lookK kb kv.1 with | some d => eqF kv.2 d | none => false) := by
  intro ls la va ra
  unfold KV at ra
  induction ra generalizing la with
  | nil => intro q _; have : la = [] := by have := q.1; simpa using this.symm
           subst this; exact .nil
  | @cons p q ps qs h t ih =>
    intro r fl
    cases la with
    | nil => have := r.1; simp at this
    | cons pd la =>
      obtain ⟨h1, h2⟩ := h
      obtain ⟨k1, v1⟩ := p
      obtain ⟨k2, u1⟩ := q
      obtain ⟨k3, d1⟩ := pd
      have h1 : k1 = k2 := h1
      subst h1
      have e : k1 = k3 := by have := r.1; simp at this; exact this.1
      subst e
      simp only [List.all_cons, Bool.and_eq_true] at fl
      have rt : KRel K ca α F ps la := ⟨by have := r.1; simpa using this, r.2.tail⟩
      have ih := ih rt fl.2
      have rv := rb.val k1
      simp only [List.all_cons]
      rcases look_val qb k1 with ⟨e1, e2⟩ | ⟨w, d', e1, e2, r2⟩
      · rw [e1] at rv
        have hn : valueAt vb k1 = none := by
          cases hq : valueAt vb k1 with
          | none => rfl
          | some y => rw [hq] at rv; exact rv.elim
        rw [e2]
        simp only [Bool.false_and]
        exact .miss hn
      · rw [e1] at rv
        obtain ⟨y, hy, ry⟩ : ∃ y, valueAt vb k1 = some y ∧ RelV w y := by
          cases hq : valueAt vb k1 with
          | none => rw [hq] at rv; exact rv.elim
          | some y => rw [hq] at rv; exact ⟨y, rfl, rv⟩
        rw [e2]
        have f2 : d'.flat = true := by
          have : (k1, d') ∈ kb := by
            unfold lookK at e2
            obtain ⟨kv, g1, g2⟩ := Option.map_eq_some_iff.mp e2
            have g3 := List.find?_some g1
            have g4 := List.mem_of_find?_eq_some g1
            simp at g3
            obtain ⟨k', d''⟩ := kv
            simp at g2 g3
            subst g2 g3
            exact g4
          exact List.all_eq_true.mp fb _ this
        obtain ⟨g1, g2⟩ := rep_flat r.2.head fl.1
        obtain ⟨g3, g4⟩ := rep_flat r2 f2
        have q := eqAt_V (A := A) (s := s) h2 ry g2 g4
        have g1 : v1 = d1.toV := g1
        rw [g1, g3] at q
        exact .hit hy q ih
end
section
variable {ca : Str → Option Addr} {Γ : Pr} {X : Cx} {a b c e o : Expr} {A B C : E} {pos p apos : Pos} {k : Nat}
/-- a call of a def at any room -/
theorem run_at {sp : Sp} {f : Addr} {fd : FuncData} {ps : List Str} {A : Around} {pins : List (Addr × Obj)} {σ : L2.St} {H : Hp} {s : Shared} {Q : VK} {us bs : List Value} {vs : List V} (F : FnOk X.prog X.w X.K X.mg X.base CX0 k f fd ps sp) (hr : Room k A) (he : Env0 X.prog X.w X.K X.mg X.base A X.stack s H)
    (hb : BindsTo s fd ⟨us, []⟩ (ps.zip bs)) (I : L2.Inv X pins σ H s) (r : Vals vs bs) (h : sp vs H Q E0) : wpAny (model X.prog X.w) A (call (.ref f) us) (EP X pins σ Q) X.xe s := by
  refine wpAny_call (codeAny_mono (F.run A X.stack s H ⟨us, []⟩ bs vs Q E0 hr he hb r h) fun r s' hq => ?_)
  cases r with
  | error e => exact False.elim hq
  | ok fl =>
    cases fl with
    | ret u => exact I.after hq
    | next => exact False.elim hq
    | brk => exact False.elim hq
    | cont => exact False.elim hq
/-- a method of an instance by its name, the instance and the rest behind -/
theorem meth_at {m : Str} {g : Str → List D → Sto → Option (D × Sto)} {n : Nat} (M : MethI X.prog X.w X.K X.mg X.base ca k m g n [] []) {A : Around} {C : Str} {c : Addr} {ds : List D} {vs : List V} {us : List Value} {α F H μ d μ'} {pins : List (Addr × Obj)} {σ : L2.St} {s : Shared} {Q : VK} (hc : ca C = some c) (hr : Room k A) (he : Env0 X.prog X.w X.K X.mg X.base A X.stack s H)
    (I : L2.Inv X pins σ H s) (sm : Sim X.K ca α F μ H) (r : Reps X.K ca α F vs ds) (rv : Vals vs us) (hl : ds.length = n + 1) (e : g C ds μ = some (d, μ')) (kk : Kon X.K ca α F d μ' Q) :
    ∃ f, PySem.W.findIn X.K (.ref c) m = some (some (.ref f)) ∧ PySem.W.isFn X.K (.ref f) = true ∧ wpAny (model X.prog X.w) A (call (.ref f) us) (EP X pins σ Q) X.xe s := by
  obtain ⟨c', f, fd, ps, h1, h2, h3, G, hb⟩ := M.ex C ds μ _ e
  rw [hc] at h1; cases h1
  obtain ⟨dvs, dus, rd, qd, hl2, hbt⟩ := hb
  have hds : dvs = [] := by have := (qd (fun _ => none) [] (fun _ => none)).1; simpa using this
  subst hds
  cases rd
  have hlu : us.length = n + 1 := by rw [← rv.length, r.1, hl]
  have hbb := hbt s us [] I.kIn hlu rfl
  simp only [List.append_nil, List.zip_nil_right] at hbb
  refine ⟨f, h3.at_, h3.fn, run_at G hr he hbb I rv ⟨by simp at hl2; rw [r.1]; omega, α, F, μ, ds, d, μ', sm, r, e, kk⟩⟩
/-- only a truth value comes back -/
theorem kon_bl {K : PySem.W.Frag} {α F b μ'} {Q : VK} (kk : Kon K ca α F (.bl b) μ' Q) : Kon K ca α F (.bl b) μ' fun v H => v = .bl b ∧ Q v H := fun v α' F' H' x s r => ⟨by cases r; rfl, kk v α' F' H' x s r⟩
theorem own_run {m : Str} (M : MethI X.prog X.w X.K X.mg X.base ca k m (fun C => Γ.meth C m) 1 [] []) {A : Around} {C : Str} {x y : D} {v w : V} {u1 u2 : Value} {α F H μ b μ'} {pins : List (Addr × Obj)} {σ : L2.St} {s : Shared} {Q : VK} (hr : Room k A) (he : Env0 X.prog X.w X.K X.mg X.base A X.stack s H)
    (I : L2.Inv X pins σ H s) (sm : Sim X.K ca α F μ H) (r1 : Rep X.K ca α F v x) (r2 : Rep X.K ca α F w y) (rx : RelV v u1) (ry : RelV w u2) (hC : cls x μ = some C) (hC' : cls y μ = some C) (e : Γ.meth C m [x, y] μ = some (.bl b, μ')) (kk : Kon X.K ca α F (.bl b) μ' Q) :
    ∃ (a1 a2 c : Addr) (f : Addr) (o1 o2 : Obj) (od1 od2 : Option Obj) (mm : Str → Option Value), u1 = .ref a1 ∧ u2 = .ref a2 ∧ ca C = some c ∧ PySem.W.findIn X.K (.ref c) m = some (some (.ref f)) ∧ PySem.W.isFn X.K (.ref f) = true ∧ PySem.W.InstAt s.heap a1 o1 c od1 ∧ PySem.W.InstAt s.heap a2 o2 c od2 ∧
      PyProof.Rows.Fr X.base X.env.locals s.heap mm ∧ wpAny (model X.prog X.w) A (call (.ref f) [.ref a1, .ref a2]) (fun z s' => z = .bool b ∧ EP X pins σ Q (.bool b) s') X.xe s := by
  obtain ⟨a1, c1, dx1, fs1, rfl, hc1, h1⟩ := rep_cls sm r1 hC
  obtain ⟨a2, c2, dx2, fs2, rfl, hc2, h2⟩ := rep_cls sm r2 hC'
  rw [hc1] at hc2; cases hc2
  cases (show u1 = Value.ref a1 from rx)
  cases (show u2 = Value.ref a2 from ry)
  have rv : Vals [V.ref a1, V.ref a2] [Value.ref a1, Value.ref a2] := .cons rfl (.cons rfl .nil)
  obtain ⟨f, hf, hfn, hrun⟩ := meth_at (us := [.ref a1, .ref a2]) M hc1 hr he I sm (.cons r1 (.cons r2 .nil)) rv rfl e (kon_bl kk)
  obtain ⟨mA, J, _⟩ := ins_get I.hok h1
  obtain ⟨mB, J', _⟩ := ins_get I.hok h2
  obtain ⟨od, J, _⟩ := J.look
  obtain ⟨od', J', _⟩ := J'.look
  obtain ⟨m, hF⟩ := I.fr
  refine ⟨a1, a2, c1, f, _, _, _, _, m, rfl, rfl, hc1, hf, hfn, J, J', hF, wpAny_mono hrun (fun r s' hq => ?_) fun _ _ z => z⟩
  obtain ⟨z, H', I', rz, rfl, qz⟩ := hq
  cases (show r = Value.bool b from rz)
  exact ⟨rfl, .bl b, H', I', rfl, qz⟩
theorem dict_at {pins : List (Addr × Obj)} {σ : L2.St} {H : Hp} {s : Shared} (I : L2.Inv X pins σ H s) {a : Addr} {vs : List (Key × V)} (h : H a = some (.dK vs)) : (a == sysModules) = false ∧ ∃ va, KV vs va ∧ s.heap.DictOf (mixKind X.prog X.w) a va := by
  obtain ⟨_, ya, va, ra, da⟩ := (show ObjOk X.prog X.w H s.heap a (.dK vs) from I.hok a _ h)
  exact ⟨ya, va, ra, da⟩
theorem dict_len {K : PySem.W.Frag} {α F} {vs : List (Key × V)} {va : List (Key × Value)} {kvs : List (Key × D)} (r : KV vs va) (q : KRel K ca α F vs kvs) : va.length = kvs.length := by
  have h1 := r.length
  have h2 := congrArg List.length q.1
  simp only [List.length_map] at h2
  omega
theorem data_eq {x y : D} {b : Bool} (h : eqD x y = some b) : ∃ pa pb, x.py = some pa ∧ y.py = some pb ∧ SeqAt.shaped pa = true ∧ SeqAt.shaped pb = true ∧ b = pa.eqv pb := by
  unfold eqD at h
  split at h
  · rename_i pa pb ha hb
    split at h
    · rename_i hs
      cases h
      simp only [Bool.and_eq_true] at hs
      exact ⟨pa, pb, ha, hb, hs.1, hs.2, rfl⟩
    · cases h
  · cases h
theorem co_eq (M : MethI X.prog X.w X.K X.mg X.base ca k "__eq__" (fun C => Γ.meth C "__eq__") 1 [] []) (hr : Room (k + 1) X.A) : CmpOk ca Γ X .Eq .eq := fun pins s σ H v w u1 u2 Q I rx ry q => by
  obtain ⟨α, F, μ, x, y, b, μ', sm, r1, r2, e, kk⟩ := q
  have hu : X.A.units + 64 < cLine := by have := hr.un; omega
  simp only [cmpD] at e
  unfold eqA at e
  split at e
  · rename_i C hC
    split at e
    · rename_i C' hC'
      split at e
      · rename_i hcc
        subst hcc
        obtain ⟨d, μ1, e1, e⟩ := bnd_eq e
        split at e
        · cases e
          obtain ⟨a1, a2, c, f, o1, o2, od1, od2, mm, rfl, rfl, hc, hf, hfn, J, J', hF, hrun⟩ := own_run M (hr.mono (Nat.le_succ k)) I.env0 I sm r1 r2 rx ry hC hC' e1 kk
          exact PySem.W.cmp_K (op := .Eq) (tb := .ref c) (by omega) hF I.ok.mod.kin J J'.type (by simp [PySem.W.notFirst]) hf hfn (wpAny_mono hrun (fun r s' hq => by
            obtain ⟨rfl, hq⟩ := hq
            exact hq) fun _ _ z => z)
        · cases e
      · cases e
    · cases e
  · split at e
    · rename_i ka hka
      split at e
      · rename_i kb hkb
        split at e
        · rename_i hfl
          cases e
          simp only [Bool.and_eq_true] at hfl
          obtain ⟨a1, vs1, rfl, h1, q1⟩ := rep_dict sm r1 hka
          obtain ⟨a2, vs2, rfl, h2, q2⟩ := rep_dict sm r2 hkb
          cases (show u1 = Value.ref a1 from rx)
          cases (show u2 = Value.ref a2 from ry)
          obtain ⟨y1, va1, k1, d1⟩ := dict_at I h1
          obtain ⟨y2, va2, k2, d2⟩ := dict_at I h2
          refine PySem.W.keq_eq (knd := mixKind X.prog X.w) y1 y2 d1 d2 (by omega) (fun _ => hits_flat k2 q2 hfl.2 k1 q1 hfl.1) ?_
          rw [dict_len k1 q1, dict_len k2 q2]
          exact ⟨.bl _, H, I, rfl, kk.now sm (.bl _)⟩
        · cases e
      · cases e
    · obtain ⟨b', e1, e2⟩ := Option.map_eq_some_iff.mp e
      cases e2
      obtain ⟨pa, pb, ha, hb, hs1, hs2, rfl⟩ := data_eq e1
      exact op_eqD hu pins s σ H v w u1 u2 Q I rx ry ⟨pa, pb, rep_dp sm r1 _ ha, rep_dp sm r2 _ hb, hs1, hs2, kk.now sm (.bl _)⟩
/-- != by object's own, where only == is one's own -/
def NeOk (X : Cx) (ca : Str → Option Addr) : Prop := ∀ C c f, ca C = some c → PySem.W.findIn X.K (.ref c) "__eq__" = some (some (.ref f)) → PySem.W.findIn X.K (.ref c) "__ne__" = some (some (.builtin "object.__ne__")) ∧ PySem.W.mroIn X.K c (.type "object") = some true
theorem co_ne (N : NeOk X ca) (M : MethI X.prog X.w X.K X.mg X.base ca k "__eq__" (fun C => Γ.meth C "__eq__") 1 [] []) (hr : Room (k + 1) X.A) : CmpOk ca Γ X .NotEq .ne := fun pins s σ H v w u1 u2 Q I rx ry q => by
  obtain ⟨α, F, μ, x, y, b, μ', sm, r1, r2, e, kk⟩ := q
  have hu : X.A.units + 64 < cLine := by have := hr.un; omega
  simp only [cmpD] at e
  obtain ⟨⟨b0, μ0⟩, e', e0⟩ := Option.map_eq_some_iff.mp e
  cases e0
  clear e
  have e := e'
  clear e'
  unfold eqA at e
  split at e
  · rename_i C hC
    split at e
    · rename_i C' hC'
      split at e
      · rename_i hcc
        subst hcc
        obtain ⟨d, μ1, e1, e⟩ := bnd_eq e
        split at e
        · cases e
          obtain ⟨a1, a2, c, f, o1, o2, od1, od2, mm, rfl, rfl, hc, hf, hfn, J, J', hF, hrun⟩ := own_run (A := X.A.in1) (Q := fun _ H' => ∃ α' F', Ext α F α' F' ∧ Sim X.K ca α' F' μ0 H') M hr.in1 I.env0.in1 I sm r1 r2 rx ry hC hC' e1 fun v α' F' H' x s r => ⟨α', F', x, s⟩
          obtain ⟨n1, n2⟩ := N _ _ f hc hf
          exact rc_objNe (by omega) (I.ok.mod.kin.keeps hF.keep) J J'.type hf hfn n1 n2 (wpAny_mono hrun (fun r s' hq => by
            obtain ⟨rfl, z, H', I', rz, α', F', x', s'⟩ := hq
            exact ⟨b0, rfl, .bl (!b0), H', I', rfl, kk _ α' F' H' x' s' (.bl _)⟩) fun _ _ z => z)
        · cases e
      · cases e
    · cases e
  · split at e
    · rename_i ka hka
      split at e
      · rename_i kb hkb
        split at e
        · rename_i hfl
          cases e
          simp only [Bool.and_eq_true] at hfl
          obtain ⟨a1, vs1, rfl, h1, q1⟩ := rep_dict sm r1 hka
          obtain ⟨a2, vs2, rfl, h2, q2⟩ := rep_dict sm r2 hkb
          cases (show u1 = Value.ref a1 from rx)
          cases (show u2 = Value.ref a2 from ry)
          obtain ⟨y1, va1, k1, d1⟩ := dict_at I h1
          obtain ⟨y2, va2, k2, d2⟩ := dict_at I h2
          refine PySem.W.keq_ne (knd := mixKind X.prog X.w) y1 y2 d1 d2 (by omega) (fun _ => hits_flat k2 q2 hfl.2 k1 q1 hfl.1) ?_
          rw [dict_len k1 q1, dict_len k2 q2]
          exact ⟨.bl _, H, I, rfl, kk.now sm (.bl _)⟩
        · cases e
      · cases e
    · obtain ⟨b', e1, e2⟩ := Option.map_eq_some_iff.mp e
      cases e2
      obtain ⟨pa, pb, ha, hb, hs1, hs2, rfl⟩ := data_eq e1
      exact op_neD hu pins s σ H v w u1 u2 Q I rx ry ⟨pa, pb, rep_dp sm r1 _ ha, rep_dp sm r2 _ hb, hs1, hs2, kk.now sm (.bl _)⟩
end
end DP

/-! zip of three lists; len of an instance; dict comprehensions. -/
namespace DP
open PySem PySem.Spec L2

/-- the lists at a, b, c as they stand at each turn, the items in new triples -/
def Itz3 (K : PySem.W.Frag) (a b c : Addr) : It :=
  ⟨fun i H => ∃ (xs ys zs : List V) (x y z : V), SqL K H a xs ∧ SqL K H b ys ∧ SqL K H c zs ∧ xs[i]? = some x ∧ ys[i]? = some y ∧ zs[i]? = some z,
    fun i H v H' => ∃ T x y z, v = .ref T ∧ H T = none ∧ H' = upd H T (.tup [x, y, z]) ∧ (∀ xs, SqL K H a xs → xs[i]? = some x) ∧ (∀ ys, SqL K H b ys → ys[i]? = some y) ∧ ∀ zs, SqL K H c zs → zs[i]? = some z,
    fun i H => ∃ xs ys zs : List V, SqL K H a xs ∧ SqL K H b ys ∧ SqL K H c zs ∧ (i ≤ xs.length ∧ i ≤ ys.length ∧ i ≤ zs.length) ∧ (i = xs.length ∨ i = ys.length ∨ i = zs.length)⟩
structure Apart3 (z TI TO i1 i2 i3 a b c : Addr) : Prop where
  sep : ZipSep3 z TI TO i1 i2 i3 [i1, a] [i2, b] [i3, c]
  n1 : a ≠ i1
  n2 : b ≠ i2
  n3 : c ≠ i3
theorem turn_zip3 {P : Program} {w : World} {K : PySem.W.Frag} {elts : List Expr} {kk : Nat} {tpos : Pos} {a b c z TI TO i1 i2 i3 : Addr} (D : Apart3 z TI TO i1 i2 i3 a b c) :
    Turn P w K (.Tuple elts kk tpos) (Itz3 K a b c) [z, TI, TO, i1, i2, i3] z (fun i h => IsZip h z TI TO .none ∧ IsTupOf3 h TI (.ref i1) (.ref i2) (.ref i3) ∧ (∃ x y u, IsTupOf3 h TO x y u) ∧ h.IsListIter i1 a i ∧ h.IsListIter i2 b i ∧ h.IsListIter i3 c i) where
  mem := by simp
  obj := fun i h st c hc => by
    obtain ⟨hz, hTI, ⟨x, y, u, hTO⟩, ⟨o1, e1, _, d1⟩, ⟨o2, e2, _, d2⟩, ⟨o3, e3, _, d3⟩⟩ := st
    have e' : c = z ∨ c = TI ∨ c = TO ∨ c = i1 ∨ c = i2 ∨ c = i3 := by simpa using hc
    rcases e' with q | q | q | q | q | q
    · rw [q]; exact ⟨_, hz, fun v q => nomatch q⟩
    · rw [q]; exact ⟨_, hTI, fun v q => nomatch q⟩
    · rw [q]; exact ⟨_, hTO, fun v q => nomatch q⟩
    · rw [q]; exact ⟨o1, e1, fun v q => by rw [d1] at q; cases q⟩
    · rw [q]; exact ⟨o2, e2, fun v q => by rw [d2] at q; cases q⟩
    · rw [q]; exact ⟨o3, e3, fun v q => by rw [d3] at q; cases q⟩
  keep := fun i h h' st k => by
    obtain ⟨hz, hTI, ⟨x, y, u, hTO⟩, h1, h2, h3⟩ := st
    exact ⟨k z (by simp) _ hz, k TI (by simp) _ hTI, ⟨x, y, u, k TO (by simp) _ hTO⟩, h1.at fun o q => k i1 (by simp) o q, h2.at fun o q => k i2 (by simp) o q, h3.at fun o q => k i3 (by simp) o q⟩
  item := by
    intro X hP hw hK hc i pins s σ H E I hf st hg
    subst hP hw hK
    obtain ⟨hz, hTI, ⟨x0, y0, u0, hTO⟩, h1, h2, h3⟩ := st
    obtain ⟨xs, ys, zs, x, y, u, hqx, hqy, hqz, hx, hy, hu⟩ := hg
    obtain ⟨its, rv, p, _⟩ := I.list hqx
    obtain ⟨its2, rv2, p2, _⟩ := I.list hqy
    obtain ⟨its3, rv3, p3, _⟩ := I.list hqz
    obtain ⟨v1, hv1, ru⟩ := rv.get hx
    obtain ⟨v2, hv2, ru2⟩ := rv2.get hy
    obtain ⟨v3, hv3, ru3⟩ := rv3.get hu
    have hzl : z < s.heap.objs.size := Heap.lt_size hz
    have hh : X.A.in1.handled = none := I.ok.hd hc
    have l1 : i < its.toArray.size := by have := (List.getElem?_eq_some_iff.mp hv1).1; simpa using this
    have l2 : i < its2.toArray.size := by have := (List.getElem?_eq_some_iff.mp hv2).1; simpa using this
    have l3 : i < its3.toArray.size := by have := (List.getElem?_eq_some_iff.mp hv3).1; simpa using this
    refine wpAny_pyNext_zipD3_item D.sep (Draws.list hh i1 a D.n1 its.toArray) (Draws.list hh i2 b D.n2 its2.toArray) (Draws.list hh i3 c D.n3 its3.toArray) hz hTI hTO ⟨h1, p.isList⟩ ⟨h2, p2.isList⟩ ⟨h3, p3.isList⟩ l1 l2 l3
      fun w1 w2 w3 h' tk q1 q2 q3 z' TO' st1 st2 st3 hT hsz hk => ?_
    have e1 : v1 = w1 := by simp only [List.getElem?_toArray] at q1; rw [hv1] at q1; exact Option.some.inj q1
    have e2 : v2 = w2 := by simp only [List.getElem?_toArray] at q2; rw [hv2] at q2; exact Option.some.inj q2
    have e3 : v3 = w3 := by simp only [List.getElem?_toArray] at q3; rw [hv3] at q3; exact Option.some.inj q3
    subst e1 e2 e3
    refine ⟨_, rfl, wpAny_letOwnedTupleGo_zip (s := { s with heap := h', toks := tk }) z' fun h'' z'' sb => ?_⟩
    have hT2 : h''.get? s.heap.objs.size = some { cls := .type "tuple", data := .seq #[v1, v2, v3] } := (sb.2 _ (Nat.ne_of_gt hzl)).trans hT
    have new : ObjOk X.prog X.w (upd H s.heap.objs.size (.tup [x, y, u])) h'' s.heap.objs.size (.tup [x, y, u]) :=
      ⟨by show 3 ≤ sizeLine; decide, [v1, v2, v3], .cons ru (.cons ru2 (.cons ru3 .nil)), ⟨_, hT2, rfl, _, rfl⟩⟩
    have I1 : Inv X pins σ (upd H s.heap.objs.size (.tup [x, y, u])) { s with heap := h'', toks := tk } :=
      I.turnedNew (t' := tk) (ch := [z, TI, TO, i1, i2, i3]) (fun c o hb q => (sb.2 c (fun q' => hb (by simp [q']))).trans (hk c o (fun q' => hb (by simp [q'])) (fun q' => hb (by simp [q'])) (fun q' => hb (by simp [q'])) (fun q' => hb (by simp [q'])) (fun q' => hb (by simp [q'])) q)) hf (Nat.le_refl _) new
    refine ⟨.ref s.heap.objs.size, _, I1, rfl, ⟨_, x, y, u, rfl, I.hok.fresh (Nat.le_refl _), rfl, fun l hl => by rw [I.list_inj hl hqx]; exact hx, fun l hl => by rw [I.list_inj hl hqy]; exact hy, fun l hl => by rw [I.list_inj hl hqz]; exact hu⟩, ⟨z'', ?_, ⟨v1, v2, v3, ?_⟩, ?_, ?_, ?_⟩, fun c hcm => ?_⟩
    · exact (sb.2 _ D.sep.TIz).trans (hk _ _ D.sep.TIz D.sep.TITO D.sep.TIi1 D.sep.TIi2 D.sep.TIi3 hTI)
    · exact (sb.2 _ D.sep.TOz).trans TO'
    · exact st1.1.at fun o q => (sb.2 _ (Ne.symm D.sep.zi1)).trans q
    · exact st2.1.at fun o q => (sb.2 _ (Ne.symm D.sep.zi2)).trans q
    · exact st3.1.at fun o q => (sb.2 _ (Ne.symm D.sep.zi3)).trans q
    · have hlt : c < s.heap.objs.size := by
        have e' : c = z ∨ c = TI ∨ c = TO ∨ c = i1 ∨ c = i2 ∨ c = i3 := by simpa using hcm
        rcases e' with q | q | q | q | q | q
        · rw [q]; exact hzl
        · rw [q]; exact Heap.lt_size hTI
        · rw [q]; exact Heap.lt_size hTO
        · rw [q]; obtain ⟨_, e1, _⟩ := h1; exact Heap.lt_size e1
        · rw [q]; obtain ⟨_, e2, _⟩ := h2; exact Heap.lt_size e2
        · rw [q]; obtain ⟨_, e3, _⟩ := h3; exact Heap.lt_size e3
      rw [upd_ne (Nat.ne_of_lt hlt)]
      exact (hf c hcm).1
  done := by
    intro X hP hw hK hc i pins s σ H E I hf st hg
    subst hP hw hK
    obtain ⟨hz, hTI, ⟨x0, y0, u0, hTO⟩, h1, h2, h3⟩ := st
    obtain ⟨xs, ys, zs, hqx, hqy, hqz, ⟨g1, g2, g3⟩, hend⟩ := hg
    obtain ⟨its, rv, p, _⟩ := I.list hqx
    obtain ⟨its2, rv2, p2, _⟩ := I.list hqy
    obtain ⟨its3, rv3, p3, _⟩ := I.list hqz
    have l1 := rv.length
    have l2 := rv2.length
    have l3 := rv3.length
    have hh : X.A.in1.handled = none := I.ok.hd hc
    exact wpAny_pyNext_zipD3_end D.sep (Draws.list hh i1 a D.n1 its.toArray) (Draws.list hh i2 b D.n2 its2.toArray) (Draws.list hh i3 c D.n3 its3.toArray) hz hTI hTO ⟨h1, p.isList⟩ ⟨h2, p2.isList⟩ ⟨h3, p3.isList⟩ (by simp; omega) (by simp; omega) (by simp; omega) (by simp; omega)
      fun h' tk hk => ⟨rfl, I.turnedL (t' := tk) (ch := [z, TI, TO, i1, i2, i3]) (fun c o hb q =>
        hk c o (fun q' => hb (by simp [q'])) (fun q' => hb (by simp [q'])) (fun q' => hb (by simp [q'])) (fun q' => hb (by simp [q'])) (fun q' => hb (by simp [q'])) q) hf⟩
  self := fun A i s Q E st h => wpAny_pyIter_zip st.1 h
def iZip3 (K : PySem.W.Frag) (ta : TA) : TI := fun σ H R => ta σ H fun vs H1 => ∃ a b c xs ys zs, vs = [.ref a, .ref b, .ref c] ∧ SqL K H1 a xs ∧ SqL K H1 b ys ∧ SqL K H1 c zs ∧ R (Itz3 K a b c) H1
theorem apart3 {N a b c : Nat} (la : a < N) (lb : b < N) (lc : c < N) : Apart3 (N + 5) (N + 3) (N + 4) N (N + 1) (N + 2) a b c :=
  ⟨zip_sep3 (fp1 := [a]) (fp2 := [b]) (fp3 := [c]) (by simpa using la) (by simpa using lb) (by simpa using lc), show (a : Nat) ≠ N by omega, show (b : Nat) ≠ N + 1 by omega, show (c : Nat) ≠ N + 2 by omega⟩
theorem pi_zip3' {X : Cx} {e e2 e3 : Expr} {ta : TA} {p pos tpos : Pos} {elts : List Expr} {kk : Nat} (hg : Gl X "zip") (hm : X.mg "zip" = none) (ha : PA X [e, e2, e3] ta)
    (hs : starEach [e, e2, e3] X.env = (false, eval e X.env) :: starEach [e2, e3] X.env := by rfl) (hpl : (backTo pos (starEach [e2, e3] X.env)).any (·.1) = false := by rfl) :
    PI X (.Tuple elts kk tpos) (.Call (.Name "zip" p) [e, e2, e3] [] pos) (iZip3 X.K ta) := by
  refine ⟨fun pins s σ H R I h => ?_⟩
  refine PyProof.Rows.Call_ (ld_blt I hg hm PyProof.Rows.boot_zip (PyProof.Rows.callWith_type1 (thn (ha.run pos pins s σ H _ I h) fun us s1 ⟨vs, H1, I1, r1, q1⟩ => ?_) hs hpl))
  obtain ⟨a, b, c, xs, ys, zs, ex, hqx, hqy, hqz, q⟩ := q1
  subst ex
  cases r1 with
  | cons r rr =>
    cases rr with
    | cons r' rr =>
      cases rr with
      | cons r'' rr =>
        cases rr
        cases r
        cases r'
        cases r''
        obtain ⟨its, rv, p1, _⟩ := I1.list hqx
        obtain ⟨its2, rv2, p2, _⟩ := I1.list hqy
        obtain ⟨its3, rv3, p3, _⟩ := I1.list hqz
        have la : a < s1.heap.objs.size := p1.lt
        have lb : b < s1.heap.objs.size := p2.lt
        have lc : c < s1.heap.objs.size := p3.lt
        refine zip_begins3 (begins_list a its.toArray) (begins_list b its2.toArray) (begins_list c its3.toArray) p1.isList p2.isList p3.isList fun h' hz hTI hTO h1 h2 h3 hsz hk => wpAny_pyIter_zip hz ?_
        have I2 : Inv X pins σ H1 { s1 with heap := h' } := I1.kept (t' := s1.toks) hk
        refine ⟨s1.heap.objs.size + 5, [s1.heap.objs.size + 5, s1.heap.objs.size + 3, s1.heap.objs.size + 4, s1.heap.objs.size, s1.heap.objs.size + 1, s1.heap.objs.size + 2], _, _, H1, rfl, I2, turn_zip3 (apart3 la lb lc), ⟨hz, hTI, ⟨_, _, _, hTO⟩, ⟨_, h1, rfl, rfl⟩, ⟨_, h2, rfl, rfl⟩, ⟨_, h3, rfl, rfl⟩⟩, fun c hcm => ?_, q⟩
        have hle : s1.heap.objs.size ≤ c := by
          have e' : c = s1.heap.objs.size + 5 ∨ c = s1.heap.objs.size + 3 ∨ c = s1.heap.objs.size + 4 ∨ c = s1.heap.objs.size ∨ c = s1.heap.objs.size + 1 ∨ c = s1.heap.objs.size + 2 := by simpa using hcm
          rcases e' with z | z | z | z | z | z
          · rw [z]; exact Nat.le_add_right _ _
          · rw [z]; exact Nat.le_add_right _ _
          · rw [z]; exact Nat.le_add_right _ _
          · rw [z]; exact Nat.le_refl _
          · rw [z]; exact Nat.le_add_right _ _
          · rw [z]; exact Nat.le_add_right _ _
        exact I1.fpOk hle (I1.hok.fresh hle)

section
variable {K : PySem.W.Frag} {ca : Str → Option Addr} {α : List Addr} {F : Hp} {a b c : Addr} {vs ws us : List V} {ds es fs : List D}
theorem wd_triple {T : Addr} {v w u : V} {d e f : D} {α' F' μ' H'} (s : Sim K ca α' F' μ' H') (hT : H' T = none) (r1 : Rep K ca α' F' v d) (r2 : Rep K ca α' F' w e) (r3 : Rep K ca α' F' u f) :
    ∃ F'', Ext α' F' α' F'' ∧ Sim K ca α' F'' μ' (upd H' T (.tup [v, w, u])) ∧ Rep K ca α' F'' (.ref T) (.tup [d, e, f]) := by
  obtain ⟨s', x⟩ := s.laid (o := .tup [v, w, u]) hT
  have q : Reps K ca α' F' [v, w, u] [d, e, f] := .cons r1 (.cons r2 (.cons r3 .nil))
  exact ⟨_, x, s', .tup (SqT.of upd_same) q.1 (q.mono x).2⟩
theorem wd_zip3 (h : SqL K F a vs) (r : Reps K ca α F vs ds) (h' : SqL K F b ws) (r' : Reps K ca α F ws es) (h'' : SqL K F c us) (r'' : Reps K ca α F us fs) : WalkD K ca α F (Itz3 K a b c) ((ds.zip (es.zip fs)).map fun p => D.tup [p.1, p.2.1, p.2.2]) none := by
  refine ⟨fun i α' F' μ' H' hi x s _ => ?_, fun α' F' μ' H' x s _ => ?_, fun i d v α' F' μ' H' H'' hd x s _ y => ?_⟩
  · have : i < ds.length ∧ i < es.length ∧ i < fs.length := by simp at hi; omega
    obtain ⟨v, hv⟩ := r.lt this.1
    obtain ⟨w, hw⟩ := r'.lt this.2.1
    obtain ⟨u, hu⟩ := r''.lt this.2.2
    exact ⟨vs, ws, us, v, w, u, seqL_un s.sub (x.seqL h), seqL_un s.sub (x.seqL h'), seqL_un s.sub (x.seqL h''), hv, hw, hu⟩
  · refine ⟨vs, ws, us, seqL_un s.sub (x.seqL h), seqL_un s.sub (x.seqL h'), seqL_un s.sub (x.seqL h''), ?_, ?_⟩ <;> simp [r.1, r'.1, r''.1] <;> omega
  · obtain ⟨T, u1, u2, u3, rfl, hT, rfl, y1, y2, y3⟩ := y
    rw [List.getElem?_map] at hd
    obtain ⟨p, h1, h2⟩ := Option.map_eq_some_iff.mp hd
    obtain ⟨k1, k2⟩ := List.getElem?_zip_eq_some.mp h1
    obtain ⟨k3, k4⟩ := List.getElem?_zip_eq_some.mp k2
    obtain ⟨v1, g1, g2⟩ := r.get k1
    obtain ⟨v2, g3, g4⟩ := r'.get k3
    obtain ⟨v3, g5, g6⟩ := r''.get k4
    have e1 := y1 vs (seqL_un s.sub (x.seqL h))
    have e2 := y2 ws (seqL_un s.sub (x.seqL h'))
    have e3 := y3 us (seqL_un s.sub (x.seqL h''))
    rw [g1] at e1; cases e1
    rw [g3] at e2; cases e2
    rw [g5] at e3; cases e3
    subst h2
    exact wd_triple s hT (g2.monoW x) (g4.monoW x) (g6.monoW x)
end
section
variable {ca : Str → Option Addr} {Γ : Pr} {X : Cx} {tg e e2 e3 : Expr} {A B C : E} {pos p : Pos} {k : Nat}
theorem pi_zip3 {elts : List Expr} {kk : Nat} {tpos : Pos} (hm : X.mg "zip" = none) (ha : PAd ca Γ X [e, e2, e3] (.cons A (.cons B (.cons C .nil)))) (hg : Gl X "zip" := by rfl)
    (hs : starEach [e, e2, e3] X.env = (false, eval e X.env) :: starEach [e2, e3] X.env := by rfl) (hpl : (backTo pos (starEach [e2, e3] X.env)).any (·.1) = false := by rfl) : PId ca Γ X (.Tuple elts kk tpos) (.Call (.Name "zip" p) [e, e2, e3] [] pos) (.zip3 A B C) := by
  intro ρ μ xs w μ' q
  simp only [evI] at q
  obtain ⟨x, μ0, e0, q⟩ := bnd_eq q
  obtain ⟨y, μ1, e1, q⟩ := bnd_eq q
  obtain ⟨z, μ2, e2, q⟩ := bnd_eq q
  split at q
  · simp only [Option.some.injEq, Prod.mk.injEq] at q
    obtain ⟨⟨rfl, rfl⟩, rfl⟩ := q
    exact (pi_zip3' hg hm (ha _ _ _ _ (by simp only [evs, e0, e1, e2, bnd_some]; rfl)) hs hpl).mono fun σ H R ⟨α, F, s, re, k⟩ => ⟨α, F, s, re, fun vs α1 F1 H1 x1 s1 r1 => by
      obtain ⟨v, vr, ev0, r4, r2⟩ := r1.cons_inv; subst ev0
      obtain ⟨v', vr', ev1, r3, r5⟩ := r2.cons_inv; subst ev1
      obtain ⟨v'', vr'', ev2, r6, r7⟩ := r5.cons_inv; subst ev2
      cases r7.nil_iff
      cases r4 with
      | @lst a vs _ q1 q2 q3 => cases r3 with
        | @lst b ws _ p1 p2 p3 => cases r6 with
          | @lst c us _ o1 o2 o3 =>
            exact ⟨a, b, c, vs, ws, us, rfl, SqL.of (s1.sub _ _ q1), SqL.of (s1.sub _ _ p1), SqL.of (s1.sub _ _ o1), k _ α1 F1 H1 x1 s1 rfl (wd_zip3 (SqL.of q1) ⟨q2, q3⟩ (SqL.of p1) ⟨p2, p3⟩ (SqL.of o1) ⟨o2, o3⟩)⟩⟩
  · cases q
/-- len of an instance by its own __len__ -/
theorem pd_lenO (hm : X.mg "len" = none) (M : MethI X.prog X.w X.K X.mg X.base ca k "__len__" (fun C => Γ.meth C "__len__") 0 [] []) (hr : Room (k + 1) X.A) (ha : PEd ca Γ X e A) (hg : Gl X "len" := by rfl)
    (hs : starEach [e] X.env = (false, eval e X.env) :: starEach [] X.env := by rfl) (hpl : (backTo pos (starEach [] X.env)).any (·.1) = false := by rfl) : PEd ca Γ X (.Call (.Name "len" p) [e] [] pos) (.lenO A) := by
  intro ρ μ d μ' h
  simp only [ev] at h
  obtain ⟨x, μ1, e1, h⟩ := bnd_eq h
  obtain ⟨C, hC, h⟩ := Option.bind_eq_some_iff.mp h
  obtain ⟨r, μ2, e2, h⟩ := bnd_eq h
  split at h
  · rename_i n
    split at h
    · rename_i hn
      cases h
      have ha' : PAd ca Γ X [e] (.cons A .nil) := pl_cons ha pl_nil hs
      refine (pe_callB (r := fun vs H Q => ∃ α F x, Sim X.K ca α F μ1 H ∧ Reps X.K ca α F vs [x] ∧ cls x μ1 = some C ∧ Γ.meth C "__len__" [x] μ1 = some (.int n, μ') ∧ Kon X.K ca α F (.int n) μ' Q) (fun pins s σ H vs us Q I rv q => ?_) hg hm PySem.boot_len (ha' _ _ _ _ (by simp only [evs, e1, bnd_some])) (by decide) (by decide) hs hpl).mono
        fun σ H Q ⟨α, F, s, re, kk⟩ => ⟨α, F, s, re, fun vs α1 F1 H1 x1 s1 r1 => ⟨α1, F1, x, s1, r1, hC, e2, kk.ext x1⟩⟩
      obtain ⟨α, F, y, sm, r1, hc, e3, kk⟩ := q
      obtain ⟨v, rfl, r1'⟩ := one_read r1
      obtain ⟨a1, c1, dx1, fs1, rfl, hc1, h1⟩ := rep_cls sm r1' hc
      obtain ⟨u, rfl, rx⟩ := vals1 rv
      cases (show u = Value.ref a1 from rx)
      obtain ⟨f, hf, hfn, hrun⟩ := meth_at (us := [.ref a1]) (Q := fun v H => v = .int n ∧ Q v H) M hc1 hr.in1 I.env0.in1 I sm r1 (.cons rfl .nil) rfl e3 fun v α' F' H' x s r => ⟨by cases r; rfl, kk v α' F' H' x s r⟩
      obtain ⟨mA, J, _⟩ := ins_get I.hok h1
      obtain ⟨od, J, _⟩ := J.look
      obtain ⟨m, hF⟩ := I.fr
      refine PySem.W.len_K hF I.ok.mod.kin J hf hfn (wpAny_mono hrun (fun r s' hq => ?_) fun _ _ z => z)
      obtain ⟨z, H', I', rz, rfl, qz⟩ := hq
      obtain ⟨t, rfl⟩ := (show ∃ t, r = Value.int n t from rz)
      exact ⟨hn, .int n, H', I'.tok _, ⟨_, rfl⟩, qz⟩
    · cases h
  · cases h
end
end DP

/-! Dict comprehensions. -/
namespace DP
open PySem PySem.Spec L2

section
variable {K : PySem.W.Frag} {ca : Str → Option Addr} {α αs αw : List Addr} {F Fs Fw H : Hp} {μ μ' : Sto} {L : Addr} {J : It} {xs : List D} {w : Wt}
structure GroK (K : PySem.W.Frag) (ca : Str → Option Addr) (α : List Addr) (F : Hp) (αw : List Addr) (Fw : Hp) (L : Addr) (μ : Sto) (accd : List (Key × D)) (H : Hp) (α' : List Addr) (F' : Hp) (acc : List (Key × V)) : Prop where
  x : Ext α F α' F'
  w : Wxt αw Fw α' F'
  s : Sim K ca α' F' μ H
  m : F' L = some (mark (.dK acc))
  r : KRel K ca α' F' acc accd
theorem GroK.go {accd acc H α' F' α2 F2 H2 μ2} (g : GroK K ca α F αw Fw L μ accd H α' F' acc) (x : Ext α' F' α2 F2) (s : Sim K ca α2 F2 μ2 H2) : GroK K ca α F αw Fw L μ2 accd H2 α2 F2 acc :=
  ⟨g.x.trans x, g.w.trans x.w, s, x.fr _ _ g.m, g.r.mono x⟩
theorem GroK.at {accd acc H α' F'} (g : GroK K ca α F αw Fw L μ accd H α' F' acc) : H L = some (.dK acc) := g.s.sub _ _ g.m
theorem GroK.add {accd acc H α' F' y d} (hF : F L = none) (g : GroK K ca α F αw Fw L μ accd H α' F' acc) (k : Key) (r : Rep K ca α' F' y d) :
    GroK K ca α F αw Fw L μ (putKD accd k d) (upd H L (.dK (putK acc k y))) α' (upd F' L (mark (.dK (putK acc k y)))) (putK acc k y) := by
  obtain ⟨s, x⟩ := g.s.swap (F' := upd F' L (mark (.dK (putK acc k y)))) (H' := upd H L (.dK (putK acc k y))) g.m (fun a h => upd_ne h) (fun a h => upd_ne h) fun o h => by rw [upd_same] at h ⊢; cases h; rfl
  refine ⟨⟨g.x.pre, fun a o h => ?_⟩, g.w.trans x, s, upd_same, krel_put (g.r.monoW x) k (r.monoW x)⟩
  rw [upd_ne (ne_of_none h hF)]; exact g.x.fr a o h
theorem dc_gen {f : D → Sto → Option (Option (Key × D) × Sto)} {accd0 ys : List (Key × D)} {acc0 : List (Key × V)} (hF : F L = none) (T : V → Hp → (Hp → Prop) → Prop) (Q : Hp → Prop)
    (g0 : GroK K ca α F αw Fw L μ accd0 H αs Fs acc0) (hw : watch w μ = true) (W : WalkD K ca αw Fw J xs w) (hr : dcLoop w f xs accd0 μ = some (ys, μ'))
    (turn : ∀ d v α1 F1 μ1 H1 acc accd o μ2 (Nx : Hp → Prop), GroK K ca α F αw Fw L μ1 accd H1 α1 F1 acc → Rep K ca α1 F1 v d → f d μ1 = some (o, μ2) → (o.isSome = true → accd.length < sizeLine) →
      (∀ α2 F2 H2 acc2, GroK K ca α F αw Fw L μ2 (match o with | some kv => putKD accd kv.1 kv.2 | none => accd) H2 α2 F2 acc2 → Nx H2) → T v H1 Nx)
    (done : ∀ α2 F2 H2 acc2, GroK K ca α F αw Fw L μ' ys H2 α2 F2 acc2 → Q H2) :
    ∃ W : Nat → Nat → Hp → Prop, (∃ m, W 0 m H) ∧ ∀ i m H, W i m H → (J.stop i H ∧ Q H) ∨ (J.go i H ∧ ∃ Nx : Hp → Prop, (∀ H', Nx H' → ∃ m', m' < m ∧ W (i + 1) m' H') ∧ ∀ x H', J.yld i H x H' → T x H' Nx) := by
  refine ⟨fun i m H => m = xs.length - i ∧ i ≤ xs.length ∧ ∃ α1 F1 μ1 acc accd, GroK K ca α F αw Fw L μ1 accd H α1 F1 acc ∧ watch w μ1 = true ∧ dcLoop w f (xs.drop i) accd μ1 = some (ys, μ'), ⟨xs.length, by simp, Nat.zero_le _, αs, Fs, μ, acc0, accd0, g0, hw, by simpa using hr⟩, ?_⟩
  rintro i m H ⟨rfl, hi, α1, F1, μ1, acc, accd, g, hw1, hr1⟩
  by_cases hlt : i < xs.length
  · refine .inr ⟨W.goes i _ _ _ _ hlt g.w g.s hw1, fun H' => ∃ α1 F1 μ1 acc accd, GroK K ca α F αw Fw L μ1 accd H' α1 F1 acc ∧ watch w μ1 = true ∧ dcLoop w f (xs.drop (i + 1)) accd μ1 = some (ys, μ'),
      fun H' p => ⟨xs.length - (i + 1), by omega, rfl, hlt, p⟩, fun v H' y => ?_⟩
    have hd : xs[i]? = some (xs[i]) := by simp [hlt]
    obtain ⟨F2, x2, s2, r2⟩ := W.yields i _ v _ _ _ _ _ hd g.w g.s hw1 y
    rw [List.drop_eq_getElem_cons hlt] at hr1
    simp only [dcLoop] at hr1
    obtain ⟨o1, μ2, e1, hr1⟩ := bnd_eq hr1
    split at hr1
    · rename_i hw2
      split at hr1
      · rename_i kv
        split at hr1
        · rename_i hz
          exact turn _ v _ _ _ _ _ _ _ _ _ (g.go x2 s2) r2 e1 (fun _ => hz) fun α3 F3 H3 acc3 g3 => ⟨α3, F3, μ2, acc3, _, g3, hw2, hr1⟩
        · cases hr1
      · exact turn _ v _ _ _ _ _ _ _ _ _ (g.go x2 s2) r2 e1 (fun h => by cases h) fun α3 F3 H3 acc3 g3 => ⟨α3, F3, μ2, acc3, _, g3, hw2, hr1⟩
    · cases hr1
  · have e : i = xs.length := by omega
    subst e
    rw [List.drop_length] at hr1
    cases hr1
    exact .inl ⟨W.stops _ _ _ _ g.w g.s hw1, done _ _ _ _ g⟩
theorem GroK.fin {ys : List (Key × D)} {acc : List (Key × V)} {H α' F'} {Q : VK} (hF : F L = none) (g : GroK K ca α F αw Fw L μ ys H α' F' acc) (k : Kon K ca α F (.cell μ.length) (μ ++ [.dct ys]) Q) : Q (.ref L) H := by
  obtain ⟨s, x, e⟩ := g.s.cellOf (F' := fun a => if a = L then none else F' a) (c := .dct ys) g.m (fun a h => if_neg h) (if_pos rfl) ⟨acc, g.at, g.r⟩
  refine k _ _ _ _ ⟨?_, fun a o h => ?_⟩ s (.cell e)
  · obtain ⟨β, rfl⟩ := g.x.pre; exact ⟨β ++ [L], by simp⟩
  · rw [if_neg (ne_of_none h hF)]; exact g.x.fr a o h
end
section
variable {K : PySem.W.Frag} {ca : Str → Option Addr} {Γ : Pr} {ρ : Rho} {μ μ' : Sto} {d : D}
theorem dc_reads {vs : List Nat} {T : Tg} {I C A B : E} (hsl : ∀ i ∈ T.sl, i ∈ vs) (h : ev Γ (.dc vs T I C A B) ρ μ = some (d, μ')) (σ : L2.St) (H : Hp) (Q : VK) (t : tD K ca ρ μ d μ' σ H Q) :
    tDc (uI K ca Γ I) (uG K ca Γ T) (uT K ca Γ C) (uE K ca Γ A) (uE K ca Γ B) vs σ H Q := by
  simp only [ev] at h
  obtain ⟨⟨xs, w⟩, μ1, e1, h⟩ := bnd_eq h
  obtain ⟨ys, μ2, e2, h⟩ := bnd_eq h
  cases h
  obtain ⟨α, F, s, re, k⟩ := t
  refine ⟨ρ, μ, xs, w, μ1, e1, α, F, s, re, fun J α1 F1 H1 x1 s1 hw W => ?_⟩
  intro L hL
  obtain ⟨sm, xm, hF⟩ := s1.marked (u := .dK []) hL
  refine dc_gen (acc0 := []) (accd0 := []) hF (fun v H' Nx => uG K ca Γ T v (wipe σ vs) H' fun σ2 H2 => wipe σ2 vs = wipe σ vs ∧ uT K ca Γ C σ2 H2 fun b H3 =>
      if b = true then uE K ca Γ A σ2 H3 fun y H4 => uE K ca Γ B σ2 H4 fun z H5 => ∃ kvs k, y = kV k ∧ H5 L = some (.dK kvs) ∧ kvs.length < sizeLine ∧ Nx (upd H5 L (.dK (putK kvs k z))) else Nx H3) (fun H => Q (.ref L) H)
    ⟨xm, xm.w, sm, upd_same, ⟨rfl, .nil⟩⟩ hw W e2 (fun dd v α1' F1' μa Ha acc accd o μb Nx g r e hl hn => ?_) fun α2 F2 H2 acc2 g => g.fin hF (k.ext x1)
  obtain ⟨p, b1, e⟩ := Option.bind_eq_some_iff.mp e
  obtain ⟨kk, μc, b2, e⟩ := bnd_eq e
  refine ⟨wipeD ρ vs, μa, dd, p.1, p.2, b1, α1', F1', g.s, ((re.mono x1).monoW g.w).wipe vs, r, fun σ2 α2 F2 H2 x2 s2 re2 o2 => ⟨wipe_same o2 hsl, p.1, p.2, kk, μc, b2, α2, F2, s2, re2, fun α3 F3 H3 x3 s3 => ?_⟩⟩
  cases kk with
  | true =>
    simp only [if_true] at e ⊢
    obtain ⟨y, μd, b3, e⟩ := bnd_eq e
    obtain ⟨z, μe, b4, e⟩ := bnd_eq e
    obtain ⟨ky, b5, e⟩ := Option.map_eq_some_iff.mp e
    cases e
    refine ⟨p.1, μc, y, _, b3, α3, F3, s3, re2.mono x3, fun yv α4 F4 H4 x4 s4 r4 => ⟨p.1, μd, z, _, b4, α4, F4, s4, (re2.mono x3).mono x4, fun zv α5 F5 H5 x5 s5 r5 => ?_⟩⟩
    have g5 := g.go (((x2.trans x3).trans x4).trans x5) s5
    have hlen : acc.length < sizeLine := by
      have h1 := hl rfl
      have h2 := congrArg List.length g.r.1
      simp only [List.length_map] at h2
      omega
    exact ⟨acc, ky, key_kV r4 b5, g5.at, hlen, hn _ _ _ _ (g5.add hF ky r5)⟩
  | false =>
    simp only [Bool.false_eq_true, if_false] at e ⊢
    cases e
    exact hn _ _ _ _ (g.go (x2.trans x3) s3)
end
section
variable {ca : Str → Option Addr} {Γ : Pr} {X : Cx} {kx vx tg iter : Expr} {ifs : List Expr} {scope : Scope} {pos : Pos} {T : Tg} {I C A B : E}
theorem pd_dc (own : List (Str × Nat)) {vs : List Nat} (hc : X.calm = true) (hN : X.N.Nodup) (ok : BlkOk X.N X.env.scope scope own) (hi : PId ca Γ X tg iter I)
    (hg : ∀ (s : Shared) (H : Hp) (C : Addr) (cl : List (Str × Addr)) (fp : List Addr), PGd ca Γ (X.blk s H scope (compEnvC scope cl C X.env) fp) tg T) (ht : ∀ (s : Shared) (H : Hp) (C' : Addr) (cl : List (Str × Addr)) (fp : List Addr), PTsd ca Γ (X.blk s H scope (compEnvC scope cl C' X.env) fp) ifs C)
    (hk : ∀ (s : Shared) (H : Hp) (C : Addr) (cl : List (Str × Addr)) (fp : List Addr), PEd ca Γ (X.blk s H scope (compEnvC scope cl C X.env) fp) kx A)
    (he : ∀ (s : Shared) (H : Hp) (C : Addr) (cl : List (Str × Addr)) (fp : List Addr), PEd ca Γ (X.blk s H scope (compEnvC scope cl C X.env) fp) vx B) (hs : ∀ x, foldedSetIterable iter X.env x = pure x := by intro _; rfl)
    (hv : own.map (·.2) = vs := by rfl) (hsl : T.sl.all (fun i => vs.contains i) = true := by rfl) : PEd ca Γ X (.DictComp kx vx [⟨tg, iter, ifs, 0⟩] scope pos) (.dc vs T I C A B) := by
  intro ρ μ d μ' h
  subst hv
  exact (pe_dc hc hN hi.u ok (fun s H C cl fp => (hg s H C cl fp).u) (fun s H C cl fp => (ht s H C cl fp).u) (fun s H C cl fp => (hk s H C cl fp).u) (fun s H C cl fp => (he s H C cl fp).u) hs).mono fun σ H Q t => dc_reads (by simpa using hsl) h σ H Q t
end
end DP

/-! What the printed texts call. -/
namespace DP
open PySem PySem.Spec L2

section
variable {ca : Str → Option Addr} {Γ : Pr} {X : Cx} {a : Expr} {A : E} {pos p : Pos}
theorem pd_gx {x : Str} {d : D} (h : ∃ v u, X.mg x = some u ∧ RelV v u ∧ ∀ α F, Rep X.K ca α F v d) (hd : Γ.gv x = some d := by rfl) (hg : Gl X x := by rfl) (hdb : (x == ("__debug__" : Str)) = false := by decide) : PEd ca Γ X (.Name x pos) (.g x) := by
  obtain ⟨v, u, h1, h2, h3⟩ := h
  exact pd_g hg h1 h2 hd h3 hdb
theorem pd_isx {C : Str} {p2} (hm : X.mg "isinstance" = none) (h : ∃ cc, X.mg C = some (.ref cc) ∧ ∀ C' c, ca C' = some c → IsiC X.K c ∧ PySem.W.kitOne X.K (.ref c) (.ref cc) = some (decide (C' = C))) (ha : PEd ca Γ X a A)
    (hg : Gl X "isinstance" := by rfl) (hg2 : Gl X C := by rfl) (hdb : (C == ("__debug__" : Str)) = false := by decide) (he : starEach (a :: [.Name C p2]) X.env = (false, eval a X.env) :: starEach [.Name C p2] X.env := by rfl)
    (hb : starEach (.Name C p2 :: []) X.env = (false, eval (.Name C p2) X.env) :: starEach [] X.env := by rfl) (hpl : (backTo pos (starEach [.Name C p2] X.env)).any (·.1) = false := by rfl) :
    PEd ca Γ X (.Call (.Name "isinstance" p) [a, .Name C p2] [] pos) (.isi A C) := by
  obtain ⟨cc, h1, h2⟩ := h
  exact pd_isi hm h1 h2 ha hg hg2 hdb he hb hpl
end
section
variable {ca : Str → Option Addr} {Γ : Pr} {X : Cx} {o : Expr} {B : E} {pos apos : Pos} {k : Nat}
theorem pd_meth0_0 {m : Str} {pl : Sem Bool} (G : MethI X.prog X.w X.K X.mg X.base ca k m (fun C => Γ.meth C m) 0 [] []) (hr : Room k X.A) (ho : PEd ca Γ X o B)
    (ht : eval (.Call (.Attribute o m apos) [] [] pos) X.env = (do
      let ov ← eval o X.env
      standAt apos.atName
      let (f, first) ← holding [ov] (getMethod ov m pl)
      callWith pos f first (backTo pos (starEach [] X.env)) (backToKw pos (keywordEach [] X.env))) := by rfl) :
    PEd ca Γ X (.Call (.Attribute o m apos) [] [] pos) (.meth B m .nil) := pd_meth0 G hr ho ht
theorem pd_meth0_1 {m : Str} {pl : Sem Bool} {d : D} (G : MethI X.prog X.w X.K X.mg X.base ca k m (fun C => Γ.meth C m) 0 [] [d]) (hr : Room k X.A) (ho : PEd ca Γ X o B)
    (ht : eval (.Call (.Attribute o m apos) [] [] pos) X.env = (do
      let ov ← eval o X.env
      standAt apos.atName
      let (f, first) ← holding [ov] (getMethod ov m pl)
      callWith pos f first (backTo pos (starEach [] X.env)) (backToKw pos (keywordEach [] X.env))) := by rfl) :
    PEd ca Γ X (.Call (.Attribute o m apos) [] [] pos) (.meth B m (.cons (.c d) .nil)) := pd_meth0 G hr ho ht
end
theorem kit_of {K : PySem.W.Frag} {c cc : Addr} {b : Bool} (h : PySem.W.mroIn K c (.ref cc) = some b) (hc : PySem.W.mroIn K cc (.ref cc) = some true) (ht : PySem.W.typeIn K (.ref cc) = some (.type "type")) : PySem.W.kitOne K (.ref c) (.ref cc) = some b := by
  unfold PySem.W.kitOne
  by_cases e : c = cc
  · subst e; rw [hc] at h; cases h; simp
  · rw [if_neg (by simp [e])]
    unfold PySem.W.kitCls
    have hs : (PySem.W.clsIn K cc).isSome = true := by
      unfold PySem.W.mroIn at hc
      cases q : PySem.W.clsIn K cc with
      | none => rw [q] at hc; cases hc
      | some _ => rfl
    simp only [hs, ht, Bool.true_and]
    exact h
/-- the classes' addresses, by the module's names -/
def caOf (cs : List Str) (K : PySem.W.Frag) : Str → Option Addr := fun C => if C ∈ cs then (match PySem.W.nsIn K mainGlobals C with | some (some (.ref c)) => some c | _ => none) else none
theorem caOf_at {cs : List Str} {K : PySem.W.Frag} {C : Str} {c : Addr} (h : PySem.W.nsIn K mainGlobals C = some (some (.ref c))) (hm : C ∈ cs) : caOf cs K C = some c := by
  unfold caOf; rw [if_pos hm, h]
theorem caOf_in {cs : List Str} {K : PySem.W.Frag} {C : Str} {c : Addr} (h : caOf cs K C = some c) : C ∈ cs := by
  unfold caOf at h
  split at h
  · assumption
  · cases h
/-- nothing is marked -/
def bareF (H : Hp) : Hp := fun b => match H b with | some (.frz _ (.frz _ _)) => none | o => o
theorem law_start {K : PySem.W.Frag} {ca : Str → Option Addr} {f : List D → Sto → Option (D × Sto)} {H : Hp} {a : Addr} {ns : List Int} {μ' : Sto} (h : SqL K H a (ns.map V.int)) (e : f [.scr ns] [] = some (.bl true, μ')) {E : XK} :
    spD K ca f 1 [.ref a] H (fun v _ => v = .bl true) E := by
  have sub : ∀ b o, bareF H b = some o → H b = some (un o) := fun b o q => by
    unfold bareF at q
    split at q
    · cases q
    · rename_i o' hne
      rw [q]
      congr 1
      cases o with
      | frz p u => cases u with
        | frz p' u' => exact absurd q (by intro z; exact hne p p' u' z)
        | _ => rfl
      | _ => rfl
  have sq : SqL K (bareF H) a (ns.map V.int) := by
    rcases h with (h | ⟨o, h⟩) | h
    · exact .inl (.inl (by unfold bareF; rw [h]))
    · exact .inl (.inr ⟨o, by unfold bareF; rw [h]⟩)
    · exact .inr h
  refine ⟨rfl, [], bareF H, [], [.scr ns], .bl true, μ', ⟨rfl, sub, fun n c a h => by simp at h, fun n m a h => by simp at h, fun n c a h => by simp at h, fun n a h => by simp at h, fun n a u h => by simp at h⟩, .cons (.scr sq) .nil, e, fun v α' F' H' x s r => ?_⟩
  cases r; rfl
end DP

/-! Rules: insert, max of a tuple, zip of a tuple and a list, slice stores. -/
namespace DP
open PySem PySem.Spec PyProof.Rows L2

section
variable {ca : Str → Option Addr} {Γ : Pr} {X : Cx} {a e : Expr} {es : List Expr} {A B : E} {pos p apos cpos : Pos}
def rInsert : V → List V → Hp → VK → Prop := fun x vs H Q => ∃ (l : Addr) (xs : List V) (i : Int) (y : V), x = .ref l ∧ vs = [.int i, y] ∧ H l = some (.lst xs) ∧ xs.length < sizeLine ∧ 0 ≤ i ∧ i < 2 ^ 63 ∧
  Q .non (upd H l (.lst (xs.take i.toNat ++ [y] ++ xs.drop i.toNat)))
theorem pm_insert (ha : PEd ca Γ X a A) (he : PAd ca Γ X (e :: es) B) (hbase : attributeBase a "insert" X.env (eval a X.env) = eval a X.env := by rfl)
    (hfew : ((backTo cpos (starEach (e :: es) X.env)).all (fun x => !x.1) && (backToKw cpos (keywordEach [] X.env)).all (fun x => x.1.isSome) && decide ((e :: es).length + ([] : List Keyword).length + (if ([] : List Keyword).isEmpty then 0 else 1) < 30)) = true := by rfl)
    (hline : (apos.endLine == cpos.line) = true := by rfl) (hst : starEach (e :: es) X.env = (false, eval e X.env) :: starEach es X.env := by rfl) (hplain : (backTo cpos (starEach es X.env)).any (·.1) = false := by rfl) :
    PEd ca Γ X (.Call (.Attribute a "insert" apos) (e :: es) [] cpos) (.mt .insert A B) :=
  mt_of (r := rInsert) (fun x ds μ d μ' h α F H v vs Q s r1 r2 k => by
    match x, ds, h with
    | .cell n, [.int i, y], h =>
      simp only [biD] at h
      split at h
      · rename_i es hn
        split at h
        · rename_i hl
          cases h
          obtain ⟨a', ws, rfl, hα, h1, rs⟩ := cel_lst s r1 hn
          obtain ⟨w1, w2, rfl, r3, r4⟩ := two_read r2
          cases r3
          exact ⟨a', ws, i, w2, rfl, rfl, h1, by rw [rs.1]; exact hl.1, hl.2.1, hl.2.2, wr_lst s hn hα (((rs.take _).append (.cons r4 .nil)).append (rs.drop _)) .non k⟩
        · cases h
      · cases h) PySem.F.slot_list_insert PySem.F.type_list_insert mt_insert ha he hbase hfew hline hst hplain
end
/-! ### max of a tuple of ints -/
section
variable {prog : Program} {w : World} {A : Around} {E : Value → Shared → Prop} {s : Shared} {l : Addr}
theorem max_tupI {its : List Value} {ns : List Int} {Q : Value → Shared → Prop} (hh : A.handled = none) (hl : s.heap.IsTuple l its.toArray) (hi : PyProof.Rows.IntsAre its ns) (hne : 0 < ns.length)
    (h : ∀ h' tk M t', (∀ b o, s.heap.get? b = some o → h'.get? b = some o) → M ∈ ns → (∀ a, a ∈ ns → a ≤ M) → Q (.int M t') { s with heap := h', toks := tk }) : wpAny (model prog w) A (call (.builtin "max") [.ref l]) Q E s := by
  obtain ⟨xs, e⟩ := hi.allInts.items
  have hn : numsOf (PySem.intItems xs).toList = ns := by rw [← e]; exact hi.numsOf
  rw [nums_intItems] at hn
  subst hn
  rw [e] at hl
  have hsz : 0 < xs.size := by simpa using hne
  have hlt : l < s.heap.objs.size := by obtain ⟨_, e0, _⟩ := hl; exact Heap.lt_size e0
  have hl2 : (s.heap.push { cls := .type "tuple_iterator", data := .fields #[.ref l, .int 0 0] }).IsTuple l (PySem.intItems xs) := by
    obtain ⟨o, e0, e1⟩ := hl
    exact ⟨o, Heap.get?_push_of_some _ e0, e1⟩
  refine call_max_walk (wpAny_pyIter_tuple hl ?_)
  refine ⟨_, _, _, _, _, _, _, rfl, Walks.tuple (A := A.in1) hh _ l (Nat.ne_of_lt hlt) (PySem.intItems xs), ⟨⟨_, Heap.get?_push_size _ rfl, rfl, rfl⟩, hl2⟩, fun b hb => ?_, by simpa [PySem.intItems] using hsz, CmpOf.ints_gt (numAt xs) (fun _ _ => intItems_at), fun v h' tk hP hk => ?_⟩
  · show b < (s.heap.push _).objs.size
    rw [Heap.size_push]
    simp only [List.mem_cons, List.not_mem_nil, or_false] at hb
    rcases hb with rfl | rfl
    · exact Nat.lt_succ_self _
    · exact Nat.lt_succ_of_lt hlt
  · have hv : (PySem.intItems xs)[argBest (fun i j => decide (numAt xs i > numAt xs j)) (xs.size - 1)]? = some v := by simpa [PySem.intItems] using hP
    obtain ⟨t, rfl⟩ := intItems_at hv
    obtain ⟨h1, h2⟩ := argBest_gt (numAt xs) (xs.size - 1)
    refine h h' tk _ t (fun b o e => hk b o (fun hm => ?_) (Heap.get?_push_of_some _ e)) ?_ fun a ha => ?_
    · simp only [List.mem_cons, List.not_mem_nil, or_false] at hm
      exact absurd (hm ▸ Heap.lt_size e) (Nat.lt_irrefl _)
    · rw [numAt_eq]; exact PySem.getD_mem (by rw [List.length_map, Array.length_toList]; omega)
    · obtain ⟨j, hj, rfl⟩ := mem_getD ha
      rw [List.length_map, Array.length_toList] at hj
      rw [← numAt_eq]; exact h2 j (by omega)
end
section
variable {ca : Str → Option Addr} {Γ : Pr} {X : Cx} {a e e2 : Expr} {es : List Expr} {A B : E} {pos p apos cpos : Pos}
def rMaxT (K : PySem.W.Frag) : List V → Hp → VK → Prop := fun vs H Q => ∃ (a : Addr) (ns : List Int), vs = [V.ref a] ∧ SqT K H a (ns.map V.int) ∧ 0 < ns.length ∧ ∀ m, m ∈ ns → (∀ y, y ∈ ns → y ≤ m) → Q (.int m) H
theorem cr_maxT (hc : X.calm = true) : CallR X (.builtin "max") (rMaxT X.K) := by
  intro pins s σ H vs us Q I r h
  obtain ⟨a, ns, rfl, hs, hne, q⟩ := h
  obtain ⟨its, rv, hl, _⟩ := I.tuple hs
  rw [Vals.ref1 r]
  exact max_tupI (I.ok.hd hc) hl rv.ints hne fun h' tk m t' hk h1 h2 => ⟨.int _, H, I.kept hk, ⟨_, rfl⟩, q m h1 h2⟩
theorem bs_maxT {m} : BiS X.K ca (rMaxT X.K) (biD .maxT m) := fun ds μ d μ' h α F H vs Q s r k => by
  match ds, h with
  | [.tup es], h =>
    simp only [biD] at h
    obtain ⟨is, e, h⟩ := Option.bind_eq_some_iff.mp h
    obtain ⟨v, rfl, r1⟩ := one_read r
    cases r1 with
    | @tup a ws _ q1 q2 q3 =>
      have := ints_read ⟨q2, q3⟩ e; subst this
      cases is with
      | nil => cases h
      | cons i is =>
        cases h
        refine ⟨a, i :: is, rfl, seqT_un s.sub q1, by simp, fun j hj hy => ?_⟩
        have := maxI_mem i is
        have e : j = maxI i is := Int.le_antisymm (this.2 _ hj) (hy _ this.1)
        subst e
        exact k.now s (.int _)
theorem pb_maxT {m} (hc : X.calm = true) (hm : X.mg "max" = none) (ha : PAd ca Γ X (e :: es) A) (hg : Gl X "max" := by rfl) (he : starEach (e :: es) X.env = (false, eval e X.env) :: starEach es X.env := by rfl) (hpl : (backTo pos (starEach es X.env)).any (·.1) = false := by rfl) : PEd ca Γ X (.Call (.Name "max" p) (e :: es) [] pos) (.bi .maxT m A) :=
  biB bs_maxT (cr_maxT hc) hg hm (by decide +kernel) ha (by decide) (by decide) he hpl
end
end DP

/-! Rules: zip of a tuple and a list. -/
namespace DP
open PySem PySem.Spec L2

/-- the tuple at a, the list at b as they stand at each turn, the items in new pairs -/
def ItzM (K : PySem.W.Frag) (a b : Addr) : It :=
  ⟨fun i H => ∃ (xs ys : List V) (x y : V), SqT K H a xs ∧ SqL K H b ys ∧ xs[i]? = some x ∧ ys[i]? = some y,
    fun i H v H' => ∃ T x y, v = .ref T ∧ H T = none ∧ H' = upd H T (.tup [x, y]) ∧ (∀ xs, SqT K H a xs → xs[i]? = some x) ∧ ∀ ys, SqL K H b ys → ys[i]? = some y,
    fun i H => ∃ xs ys : List V, SqT K H a xs ∧ SqL K H b ys ∧ (i ≤ xs.length ∧ i ≤ ys.length) ∧ (i = xs.length ∨ i = ys.length)⟩
structure ApartM (z TI TO i1 i2 a b : Addr) : Prop where
  sep : ZipSep2 z TI TO i1 i2 [i1, a] [i2, b]
  n1 : a ≠ i1
  n2 : b ≠ i2
theorem turn_zipM {P : Program} {w : World} {K : PySem.W.Frag} {elts : List Expr} {kk : Nat} {tpos : Pos} {a b z TI TO i1 i2 : Addr} (D : ApartM z TI TO i1 i2 a b) :
    Turn P w K (.Tuple elts kk tpos) (ItzM K a b) [z, TI, TO, i1, i2] z (fun i h => IsZip h z TI TO .none ∧ IsTupOf2 h TI (.ref i1) (.ref i2) ∧ (∃ x y, IsTupOf2 h TO x y) ∧ h.IsTupleIter i1 a i ∧ h.IsListIter i2 b i) where
  mem := by simp
  obj := fun i h st c hc => by
    obtain ⟨hz, hTI, ⟨x, y, hTO⟩, ⟨o1, e1, _, d1⟩, ⟨o2, e2, _, d2⟩⟩ := st
    have e' : c = z ∨ c = TI ∨ c = TO ∨ c = i1 ∨ c = i2 := by simpa using hc
    rcases e' with q | q | q | q | q
    · rw [q]; exact ⟨_, hz, fun v q => nomatch q⟩
    · rw [q]; exact ⟨_, hTI, fun v q => nomatch q⟩
    · rw [q]; exact ⟨_, hTO, fun v q => nomatch q⟩
    · rw [q]; exact ⟨o1, e1, fun v q => by rw [d1] at q; cases q⟩
    · rw [q]; exact ⟨o2, e2, fun v q => by rw [d2] at q; cases q⟩
  keep := fun i h h' st k => by
    obtain ⟨hz, hTI, ⟨x, y, hTO⟩, h1, h2⟩ := st
    exact ⟨k z (by simp) _ hz, k TI (by simp) _ hTI, ⟨x, y, k TO (by simp) _ hTO⟩, h1.at fun o q => k i1 (by simp) o q, h2.at fun o q => k i2 (by simp) o q⟩
  item := by
    intro X hP hw hK hc i pins s σ H E I hf st hg
    subst hP hw hK
    obtain ⟨hz, hTI, ⟨x0, y0, hTO⟩, h1, h2⟩ := st
    obtain ⟨xs, ys, x, y, hqx, hqy, hx, hy⟩ := hg
    obtain ⟨its, rv, p, _⟩ := I.tuple hqx
    obtain ⟨its2, rv2, p2, _⟩ := I.list hqy
    obtain ⟨v1, hv1, ru⟩ := rv.get hx
    obtain ⟨v2, hv2, ru2⟩ := rv2.get hy
    have hzl : z < s.heap.objs.size := Heap.lt_size hz
    have hh : X.A.in1.handled = none := I.ok.hd hc
    have l1 : i < its.toArray.size := by have := (List.getElem?_eq_some_iff.mp hv1).1; simpa using this
    have l2 : i < its2.toArray.size := by have := (List.getElem?_eq_some_iff.mp hv2).1; simpa using this
    refine wpAny_pyNext_zipD2_item D.sep (Draws.tuple hh i1 a D.n1 its.toArray) (Draws.list hh i2 b D.n2 its2.toArray) hz hTI hTO ⟨h1, p⟩ ⟨h2, p2.isList⟩ l1 l2
      fun w1 w2 h' tk q1 q2 z' TO' st1 st2 hT hsz hk => ?_
    have e1 : v1 = w1 := by simp only [List.getElem?_toArray] at q1; rw [hv1] at q1; exact Option.some.inj q1
    have e2 : v2 = w2 := by simp only [List.getElem?_toArray] at q2; rw [hv2] at q2; exact Option.some.inj q2
    subst e1 e2
    refine ⟨_, rfl, wpAny_letOwnedTupleGo_zip (s := { s with heap := h', toks := tk }) z' fun h'' z'' sb => ?_⟩
    have hT2 : h''.get? s.heap.objs.size = some { cls := .type "tuple", data := .seq #[v1, v2] } := (sb.2 _ (Nat.ne_of_gt hzl)).trans hT
    have new : ObjOk X.prog X.w (upd H s.heap.objs.size (.tup [x, y])) h'' s.heap.objs.size (.tup [x, y]) :=
      ⟨by show 2 ≤ sizeLine; decide, [v1, v2], .cons ru (.cons ru2 .nil), ⟨_, hT2, rfl, _, rfl⟩⟩
    have I1 : Inv X pins σ (upd H s.heap.objs.size (.tup [x, y])) { s with heap := h'', toks := tk } :=
      I.turnedNew (t' := tk) (ch := [z, TI, TO, i1, i2]) (fun c o hb q => (sb.2 c (fun q' => hb (by simp [q']))).trans (hk c o (fun q' => hb (by simp [q'])) (fun q' => hb (by simp [q'])) (fun q' => hb (by simp [q'])) (fun q' => hb (by simp [q'])) q)) hf (Nat.le_refl _) new
    refine ⟨.ref s.heap.objs.size, _, I1, rfl, ⟨_, x, y, rfl, I.hok.fresh (Nat.le_refl _), rfl, fun l hl => by rw [I.tuple_inj hl hqx]; exact hx, fun l hl => by rw [I.list_inj hl hqy]; exact hy⟩, ⟨z'', ?_, ⟨v1, v2, ?_⟩, ?_, ?_⟩, fun c hcm => ?_⟩
    · exact (sb.2 _ D.sep.TIz).trans (hk _ _ D.sep.TIz D.sep.TITO D.sep.TIi1 D.sep.TIi2 hTI)
    · exact (sb.2 _ D.sep.TOz).trans TO'
    · exact st1.1.at fun o q => (sb.2 _ fun z => D.sep.zf1 (by rw [← z]; exact D.sep.mem1)).trans q
    · exact st2.1.at fun o q => (sb.2 _ fun z => D.sep.zf2 (by rw [← z]; exact D.sep.mem2)).trans q
    · have hlt : c < s.heap.objs.size := by
        have e' : c = z ∨ c = TI ∨ c = TO ∨ c = i1 ∨ c = i2 := by simpa using hcm
        rcases e' with q | q | q | q | q
        · rw [q]; exact hzl
        · rw [q]; exact Heap.lt_size hTI
        · rw [q]; exact Heap.lt_size hTO
        · rw [q]; obtain ⟨_, e1, _⟩ := h1; exact Heap.lt_size e1
        · rw [q]; obtain ⟨_, e2, _⟩ := h2; exact Heap.lt_size e2
      rw [upd_ne (Nat.ne_of_lt hlt)]
      exact (hf c hcm).1
  done := by
    intro X hP hw hK hc i pins s σ H E I hf st hg
    subst hP hw hK
    obtain ⟨hz, hTI, ⟨x0, y0, hTO⟩, h1, h2⟩ := st
    obtain ⟨xs, ys, hqx, hqy, ⟨g1, g2⟩, hend⟩ := hg
    obtain ⟨its, rv, p, _⟩ := I.tuple hqx
    obtain ⟨its2, rv2, p2, _⟩ := I.list hqy
    have l1 := rv.length
    have l2 := rv2.length
    have hh : X.A.in1.handled = none := I.ok.hd hc
    exact wpAny_pyNext_zipD2_end D.sep (Draws.tuple hh i1 a D.n1 its.toArray) (Draws.list hh i2 b D.n2 its2.toArray) hz hTI hTO ⟨h1, p⟩ ⟨h2, p2.isList⟩ (by simp; omega) (by simp; omega) (by simp; omega)
      fun h' tk hk => ⟨rfl, I.turnedL (t' := tk) (ch := [z, TI, TO, i1, i2]) (fun c o hb q =>
        hk c o (fun q' => hb (by simp [q'])) (fun q' => hb (by simp [q'])) (fun q' => hb (by simp [q'])) (fun q' => hb (by simp [q'])) q) hf⟩
  self := fun A i s Q E st h => wpAny_pyIter_zip st.1 h
def iZipM (K : PySem.W.Frag) (ta : TA) : TI := fun σ H R => ta σ H fun vs H1 => ∃ a b xs ys, vs = [.ref a, .ref b] ∧ SqT K H1 a xs ∧ SqL K H1 b ys ∧ R (ItzM K a b) H1
theorem apartM {N a b : Nat} (la : a < N) (lb : b < N) : ApartM (N + 4) (N + 2) (N + 3) N (N + 1) a b :=
  ⟨zip_sep2 (fp1 := [a]) (fp2 := [b]) (by simpa using la) (by simpa using lb), show (a : Nat) ≠ N by omega, show (b : Nat) ≠ N + 1 by omega⟩
theorem pi_zipM {X : Cx} {e e2 : Expr} {ta : TA} {p pos tpos : Pos} {elts : List Expr} {kk : Nat} (hg : Gl X "zip") (hm : X.mg "zip" = none) (ha : PA X [e, e2] ta)
    (hs : starEach [e, e2] X.env = (false, eval e X.env) :: starEach [e2] X.env := by rfl) (hpl : (backTo pos (starEach [e2] X.env)).any (·.1) = false := by rfl) :
    PI X (.Tuple elts kk tpos) (.Call (.Name "zip" p) [e, e2] [] pos) (iZipM X.K ta) := by
  refine ⟨fun pins s σ H R I h => ?_⟩
  refine PyProof.Rows.Call_ (ld_blt I hg hm PyProof.Rows.boot_zip (PyProof.Rows.callWith_type1 (thn (ha.run pos pins s σ H _ I h) fun us s1 ⟨vs, H1, I1, r1, q1⟩ => ?_) hs hpl))
  obtain ⟨a, b, xs, ys, ex, hqx, hqy, q⟩ := q1
  subst ex
  cases r1 with
  | cons r rr =>
    cases rr with
    | cons r' rr =>
      cases rr
      cases r
      cases r'
      obtain ⟨its, rv, p1, _⟩ := I1.tuple hqx
      obtain ⟨its2, rv2, p2, _⟩ := I1.list hqy
      have la : a < s1.heap.objs.size := by obtain ⟨_, e0, _⟩ := p1; exact Heap.lt_size e0
      have lb : b < s1.heap.objs.size := p2.lt
      refine zip_begins2 (begins_tuple a its.toArray) (begins_list b its2.toArray) p1 p2.isList fun h' hz hTI hTO h1 h2 hsz hk => wpAny_pyIter_zip hz ?_
      have I2 : Inv X pins σ H1 { s1 with heap := h' } := I1.kept (t' := s1.toks) hk
      refine ⟨s1.heap.objs.size + 4, [s1.heap.objs.size + 4, s1.heap.objs.size + 2, s1.heap.objs.size + 3, s1.heap.objs.size, s1.heap.objs.size + 1], _, _, H1, rfl, I2, turn_zipM (apartM la lb), ⟨hz, hTI, ⟨_, _, hTO⟩, ⟨_, h1, rfl, rfl⟩, ⟨_, h2, rfl, rfl⟩⟩, fun c hcm => ?_, q⟩
      have hle : s1.heap.objs.size ≤ c := by
        have e' : c = s1.heap.objs.size + 4 ∨ c = s1.heap.objs.size + 2 ∨ c = s1.heap.objs.size + 3 ∨ c = s1.heap.objs.size ∨ c = s1.heap.objs.size + 1 := by simpa using hcm
        rcases e' with z | z | z | z | z
        · rw [z]; exact Nat.le_add_right _ _
        · rw [z]; exact Nat.le_add_right _ _
        · rw [z]; exact Nat.le_add_right _ _
        · rw [z]; exact Nat.le_refl _
        · rw [z]; exact Nat.le_add_right _ _
      exact I1.fpOk hle (I1.hok.fresh hle)
section
variable {K : PySem.W.Frag} {ca : Str → Option Addr} {α : List Addr} {F : Hp} {a b : Addr} {vs : List V} {ds es : List D}
theorem wd_zipM {n : Nat} (h : SqT K F a vs) (r : Reps K ca α F vs ds) (hn : α[n]? = some b) : WalkD K ca α F (ItzM K a b) ((ds.zip es).map fun p => D.tup [p.1, p.2]) (some (n, es)) := by
  refine ⟨fun i α' F' μ' H' hi x s hw => ?_, fun α' F' μ' H' x s hw => ?_, fun i d v α' F' μ' H' H'' hd x s hw y => ?_⟩ <;> obtain ⟨ws, q1, q2⟩ := s.cel _ _ _ (watch_at hw) (x.at hn)
  · have : i < ds.length ∧ i < es.length := by simp at hi; omega
    obtain ⟨v, hv⟩ := r.lt this.1
    obtain ⟨w, hw⟩ := q2.lt this.2
    exact ⟨vs, ws, v, w, seqT_un s.sub (x.seqT h), SqL.of q1, hv, hw⟩
  · refine ⟨vs, ws, seqT_un s.sub (x.seqT h), SqL.of q1, ?_, ?_⟩ <;> simp [r.1, q2.1] <;> omega
  · obtain ⟨T, u, z, rfl, hT, rfl, y1, y2⟩ := y
    rw [List.getElem?_map] at hd
    obtain ⟨p, h1, h2⟩ := Option.map_eq_some_iff.mp hd
    obtain ⟨k1, k2⟩ := List.getElem?_zip_eq_some.mp h1
    obtain ⟨u', g1, g2⟩ := r.get k1
    obtain ⟨z', g3, g4⟩ := q2.get k2
    have e1 := y1 vs (seqT_un s.sub (x.seqT h))
    have e2 := y2 ws (SqL.of q1)
    rw [g1] at e1; cases e1
    rw [g3] at e2; cases e2
    subst h2
    exact wd_pair s hT (g2.monoW x) g4
end
section
variable {ca : Str → Option Addr} {Γ : Pr} {X : Cx} {tg e e2 : Expr} {A B : E} {pos p : Pos}
theorem pi_zip2 {elts : List Expr} {kk : Nat} {tpos : Pos} (hg : Gl X "zip") (hm : X.mg "zip" = none) (ha : PAd ca Γ X [e, e2] (.cons A (.cons B .nil)))
    (hs : starEach [e, e2] X.env = (false, eval e X.env) :: starEach [e2] X.env := by rfl) (hpl : (backTo pos (starEach [e2] X.env)).any (·.1) = false := by rfl) : PId ca Γ X (.Tuple elts kk tpos) (.Call (.Name "zip" p) [e, e2] [] pos) (.zip2 A B) := by
  intro ρ μ xs w μ' q
  simp only [evI] at q
  obtain ⟨x, μ0, e0, q⟩ := bnd_eq q
  obtain ⟨y, μ1, e1, q⟩ := bnd_eq q
  split at q
  · simp only [Option.some.injEq, Prod.mk.injEq] at q
    obtain ⟨⟨rfl, rfl⟩, rfl⟩ := q
    exact (pi_zip hg hm (ha _ _ _ _ (by simp only [evs, e0, e1, bnd_some]; rfl)) hs hpl).mono fun σ H R ⟨α, F, s, re, k⟩ => ⟨α, F, s, re, fun vs α1 F1 H1 x1 s1 r1 => by
      obtain ⟨v, vr, ev0, r4, r2⟩ := r1.cons_inv; subst ev0
      obtain ⟨v', vr', ev1, r3, r5⟩ := r2.cons_inv; subst ev1
      cases r5.nil_iff
      cases r4 with
      | @lst a vs _ q1 q2 q3 => cases r3 with
        | @lst b ws _ p1 p2 p3 => exact ⟨a, b, vs, ws, rfl, SqL.of (s1.sub _ _ q1), SqL.of (s1.sub _ _ p1), k _ α1 F1 H1 x1 s1 rfl (wd_zip (SqL.of q1) ⟨q2, q3⟩ (SqL.of p1) ⟨p2, p3⟩)⟩⟩
  · split at q
    · rename_i n es hn
      simp only [Option.some.injEq, Prod.mk.injEq] at q
      obtain ⟨⟨rfl, rfl⟩, rfl⟩ := q
      exact (pi_zipM hg hm (ha _ _ _ _ (by simp only [evs, e0, e1, bnd_some]; rfl)) hs hpl).mono fun σ H R ⟨α, F, s, re, k⟩ => ⟨α, F, s, re, fun vs α1 F1 H1 x1 s1 r1 => by
        obtain ⟨v, vr, ev0, r4, r2⟩ := r1.cons_inv; subst ev0
        obtain ⟨v', vr', ev1, r3, r5⟩ := r2.cons_inv; subst ev1
        cases r5.nil_iff
        cases r4 with
        | @tup a vs _ q1 q2 q3 => cases r3 with
          | @cell b _ p1 =>
            obtain ⟨ws, g1, g2⟩ := s1.cel _ _ _ hn p1
            exact ⟨a, b, vs, ws, rfl, seqT_un s1.sub q1, SqL.of g1, k _ α1 F1 H1 x1 s1 (by simp [watch, hn]) (wd_zipM q1 ⟨q2, q3⟩ p1)⟩⟩
    · cases q
  · cases q
end
end DP

/-! Rules: o[:] = a list. -/
namespace DP
open PySem PySem.Spec PyProof.Rows L2

theorem bounds_all (n : Nat) : sliceBounds none none none n = ((0 : Int), (n : Int), 1) := by
  simp only [sliceBounds, Option.getD_none, show (1 : Int) > 0 by decide, if_true]
section
variable {prog : Program} {w : World} {A : Around} {E : Value → Shared → Prop} {s : Shared}
theorem setItem_all {l b sl : Addr} {items new : Array Value} {n n2 : Nat} {Q : Unit → Shared → Prop} (e : s.heap.get? l = some { cls := .type "list", data := .seq items n }) (e2 : s.heap.get? b = some { cls := .type "list", data := .seq new n2 }) (hne : l ≠ b)
    (hs : s.heap.IsSliceOf sl .none .none .none) (hsz : items.size + new.size ≤ sizeLine) (h : Q () { s with heap := s.heap.update l (Obj.mapSeq fun xs => xs.extract 0 (0 : Int).toNat ++ new ++ xs.extract (max (0 : Int) (items.size : Int)).toNat xs.size) }) :
    wpAny (model prog w) A (setItem (.ref l) (.ref sl) (.ref b)) Q E s := by
  have hl : s.heap.IsList l items := PySem.IsL.isList e; have hb : s.heap.IsList b new := PySem.IsL.isList e2
  obtain ⟨os, hos, hcs, hds⟩ := id hs
  have hTs : s.TypeIs (.ref sl) "slice" := ⟨os, hos, hcs⟩; have hstep : ¬ ((rawPart none == rawInt 0) = true) := Bool.false_ne_true
  have hsame : Builtin.List.listSameRef (.ref l) (.ref b) = false := by
    unfold Builtin.List.listSameRef; exact beq_eq_false_iff_ne.mpr hne
  have hz' : ((fun xs : Array Value => xs.extract 0 (0 : Int).toNat ++ new ++ xs.extract (max (0 : Int) (items.size : Int)).toNat xs.size) items).size ≤ sizeLine + 1 := by
    simp only [Array.size_append, Array.size_extract]; omega
  unfold setItem; try with_reducible refine wpAny_holding ?_
  first | refine wpAny_bind (wpAny_pure ?_) | skip
  refine wpAny_bind (wpAny_sequenceKey hl.typeIs (by decide) ?_); refine wpAny_bind (wpAny_callSpecial?_slot (name := Str.ofString "__setitem__") hl.typeIs slot_list_setitem (wpAny_call_entry slot_list_setitem hl.typeIs entry_list_setitem ?_ (args_list_setitem _ _ _)))
  show wpAny _ _ (Builtin.List.listSubscript? (.ref sl) >>= _) _ _ s; refine wpAny_bind ?_
  unfold Builtin.List.listSubscript?; refine wpAny_bind (wpAny_specialOf hTs slice_no_index ?_); simp only [Option.isNone_none, if_true]
  refine wpAny_pure ?_; show wpAny _ _ (typeOf (.ref sl) >>= _) _ _ s
  refine wpAny_bind (wpAny_typeOf hTs ?_)
  first
    | rw [if_neg (by decide)]
    | refine PySem.W.KFB.if_not (by decide) ?_
  rw [listSliceParts_eq]; refine wpAny_bind (wpAny_bind (wpAny_field hos hds (x := .none) rfl (wpAny_bind (wpAny_listPart .none ?_))))
  rw [if_neg hstep]; refine wpAny_bind (wpAny_field hos hds (x := .none) rfl (wpAny_bind (wpAny_listPart .none ?_))); refine wpAny_bind (wpAny_field hos hds (x := .none) rfl (wpAny_bind (wpAny_listPart .none (wpAny_pure ?_))))
  first
    | simp only [hsame, Bool.false_eq_true, if_false]
    | refine PySem.W.KFB.if_not hsame ?_
    | (dsimp only; rw [if_neg (by rw [hsame]; exact Bool.false_ne_true)])
  refine wpAny_bind (m := Builtin.List.listAllItems (.ref b) "must assign iterable to extended slice") ?_; unfold Builtin.List.listAllItems
  refine wpAny_bind (wpAny_typeOf hb.typeIs ?_)
  first
    | refine PySem.W.KFB.if_so (by decide) ?_
    | rw [if_pos (by decide)]
    | simp only [beq_self_eq_true, Bool.true_or, if_true]
  unfold Builtin.List.listItems; refine wpAny_bind (wpAny_seqItems e2 rfl (wpAny_pure ?_)); refine wpAny_bind (wpAny_bind (wpAny_seqItems e rfl (wpAny_pure ?_)))
  refine wpAny_bind (wpAny_of_eq ((sliceIndices_raw none none none items.size (by simp)).trans (congrArg (pure : Int × Int × Int → Sem (Int × Int × Int)) (bounds_all items.size))) ?_)
  show wpAny _ _ (if ((1 : Int) == 1) = true then _ else _) _ _ s; rw [if_pos (by decide)]
  refine wpAny_bind (wpAny_rule ?_)
  first
    | simp only [notLongL hsz, Bool.false_eq_true, if_false]
    | refine PySem.W.KFB.if_not (notLongL hsz) ?_
  first | refine wpAny_bind (wpAny_pure ?_) | skip
  show wpAny _ _ (updateSeq l (fun xs => xs.extract 0 (0 : Int).toNat ++ new ++ xs.extract (max (0 : Int) (items.size : Int)).toNat xs.size) >>= _) _ _ s
  refine wpAny_bind (wpAny_updateSeq (hz := Nat.le_trans (Nat.le_add_right _ _) hsz) (_hz' := hz') e rfl ?_); refine wpAny_bind (wpAny_letGo ?_)
  first
    | exact wpAny_bind (wpAny_pure (wpAny_pure ⟨.none, rfl, wpAny_pure h⟩))
    | exact wpAny_pure ⟨.none, rfl, wpAny_pure h⟩
end
def gSlA (to : TE) : TG := fun v σ H Q => to σ H fun x H1 => ∃ (l b : Addr) (xs ys : List V), x = .ref l ∧ v = .ref b ∧ l ≠ b ∧ H1 l = some (.lst xs) ∧ H1 b = some (.lst ys) ∧ xs.length + ys.length ≤ sizeLine ∧ Q σ (upd H1 l (.lst ys))
theorem pg_slA {X : Cx} {o : Expr} {to : TE} {p2 pos : Pos} (ho : PE X o to)
    (ha : ∀ v, assign (.Subscript o (.Slice none none none p2) pos) X.env v = (do
      let ov ← holding [v] (eval o X.env)
      let iv ← holding [v, ov] (eval (.Slice none none none p2) X.env)
      standAt pos
      holding [v, ov, iv] (setItem ov iv v)
      release [iv, v, ov] []) := by intro _; rfl) : PG X (.Subscript o (.Slice none none none p2) pos) (gSlA to) := by
  refine ⟨fun pins s σ H v u Q I r h => ?_⟩
  rw [ha]
  refine wpAny_bind (wpAny_holding (thn (ho.run pins s σ H _ I h) fun ov s1 ⟨x, H1, I1, r1, l, b, xs, ys, ex, ev, hne, hl, hb, hz, q⟩ => ?_))
  subst ex ev
  cases r1
  cases r
  refine wpAny_bind (wpAny_holding (wpAny_Slice (thn ((po_none (X := X)).run pins s1 σ H1 (fun l H2 => l = none ∧ H2 = H1) I1 ⟨rfl, rfl⟩) fun vl s2 ⟨l1, H2, I2, pl, el⟩ => thn ((po_none (X := X)).run pins s2 σ H2 (fun l H3 => l = none ∧ H3 = H2) I2 ⟨rfl, rfl⟩) fun vu s3 ⟨l2, H3, I3, pu, eu⟩ => ?_)))
  obtain ⟨rfl, rfl⟩ := el
  obtain ⟨rfl, rfl⟩ := eu
  cases pl
  cases pu
  rw [evalPart_none]
  refine wpAny_pure ?_
  have I4 : Inv X pins σ H3 { s3 with heap := s3.heap.push { cls := .type "slice", data := .fields #[.none, .none, .none] } } := I3.kept (t' := s3.toks) fun b ob q => Heap.get?_push_of_some _ q
  obtain ⟨z, its, n, rv, hl1, e⟩ := I4.lstM hl
  obtain ⟨z2, its2, n2, rv2, hl2, e2⟩ := I4.lstM hb
  refine wpAny_bind (wpAny_standAt (wpAny_bind (wpAny_holding (setItem_all e e2 hne (Heap.IsSliceOf.new ..) (by rw [List.size_toArray, List.size_toArray, ← rv.length, ← rv2.length]; exact hz) ?_))))
  refine wpAny_release ⟨σ, _, I4.lset (its' := its2) (t' := s3.toks) hl e ?_ rv2 (by omega), q⟩
  have h0 : (max (0 : Int) ((its.toArray.size : Nat) : Int)).toNat = its.toArray.size := by omega
  rw [h0]
  simp
section
variable {ca : Str → Option Addr} {Γ : Pr} {X : Cx} {o e : Expr} {A C : E} {pos p p2 : Pos}
theorem sd_setSl (ho : PEd ca Γ X o A) (he : PEd ca Γ X e C)
    (ha : ∀ v, assign (.Subscript o (.Slice none none none p2) p) X.env v = (do
      let ov ← holding [v] (eval o X.env)
      let iv ← holding [v, ov] (eval (.Slice none none none p2) X.env)
      standAt p
      holding [v, ov, iv] (setItem ov iv v)
      release [iv, v, ov] []) := by intro _; rfl) (hs : swapsWithSole [.Subscript o (.Slice none none none p2) p] e pos.line X.env = pure false := by rfl) (hw : swappedStores [.Subscript o (.Slice none none none p2) p] e X.env = pure none := by rfl)
    (h1 : (assignEach [.Subscript o (.Slice none none none p2) p] X.env).map (·.2) = [assign (.Subscript o (.Slice none none none p2) p) X.env] := by rfl) : PSd ca Γ X (.Assign [.Subscript o (.Slice none none none p2) p] e pos) (.setSl A C) := by
  intro ρ μ fl ρ' μ' q
  simp only [evS] at q
  obtain ⟨d, μ1, e1, q⟩ := bnd_eq q
  obtain ⟨x, μ2, e2, q⟩ := bnd_eq q
  split at q
  · rename_i n ds hh
    split at q
    · rename_i es hn
      split at q
      · rename_i hz
        cases q
        exact (ps_asg (he _ _ _ _ e1) (pg_slA (ho _ _ _ _ e2) ha) hs hw h1).mono fun D σ H ⟨α, F, s, re, k⟩ => ⟨α, F, s, re, fun v α1 F1 H1 x1 s1 r1 =>
          ⟨α1, F1, s1, re.mono x1, fun w α2 F2 H2 x2 s2 r2 => by
            obtain ⟨a, vs, rfl, hα, h3, rs⟩ := cel_lst s2 r2 hn
            cases (r1.mono x2) with
            | @lst b ws _ g1 g2 g3 =>
              have hb : H2 b = some (.lst ws) := s2.sub _ _ g1
              have hne : a ≠ b := fun z => by
                have := s2.off n _ a hn (fun z => nomatch z) hα
                rw [z] at this
                rw [this] at g1; cases g1
              exact ⟨a, b, vs, ws, rfl, rfl, hne, h3, hb, by rw [rs.1, g2]; exact hz, k σ α2 F2 _ (x1.trans x2) (s2.write hn (fun z => nomatch z) hα ⟨ws, upd_same, ⟨g2, g3⟩⟩ fun z => nomatch z) ((re.mono x1).mono x2)⟩⟩⟩
      · cases q
    · cases q
  · cases q
end
end DP

/-! Rules: the sums of two dicts, key by key. -/
namespace DP
open PySem PySem.Spec L2

theorem val_at : ∀ {vs : List (Key × V)} {i : Nat} {p : Key × V}, (vs.map (·.1)).Nodup → vs[i]? = some p → valV vs p.1 = some p.2
  | [], _, _, _, h => by simp at h
  | q :: vs, 0, p, _, h => by
    simp only [List.getElem?_cons_zero, Option.some.injEq] at h
    subst h
    simp [valV, List.find?_cons]
  | q :: vs, i + 1, p, hn, h => by
    simp only [List.getElem?_cons_succ] at h
    simp only [List.map_cons, List.nodup_cons] at hn
    have hm : p.1 ∈ vs.map (·.1) := List.mem_map.mpr ⟨p, List.mem_of_getElem? h, rfl⟩
    have hne : q.1 ≠ p.1 := fun e => hn.1 (e ▸ hm)
    have ih := val_at hn.2 h
    simp only [valV, List.find?_cons, hne, decide_false] at ih ⊢
    exact ih
theorem put_new {vs : List (Key × V)} {k : Key} {v : V} (h : k ∉ vs.map (·.1)) : putK vs k v = vs ++ [(k, v)] := by
  have : (vs.any fun kv => decide (kv.1 = k)) = false := by
    rw [List.any_eq_false]
    intro p hp
    simp only [decide_eq_true_eq]
    exact fun e => h (List.mem_map.mpr ⟨p, hp, e⟩)
  simp [putK, this]
section
variable {K : PySem.W.Frag} {ca : Str → Option Addr} {α : List Addr} {F : Hp}
theorem sum_read {ws : List (Key × V)} {kws : List (Key × D)} (hw : KRel K ca α F ws kws) : ∀ {kvs z : List (Key × D)} {vs : List (Key × V)}, KRel K ca α F vs kvs → sumK kws kvs = some z →
    ∃ zs : List (Key × V), zs.map (·.1) = vs.map (·.1) ∧ KRel K ca α F zs z ∧ ∀ (i : Nat) (p : Key × V), vs[i]? = some p → ∃ a b : Int, p.2 = .int a ∧ valV ws p.1 = some (.int b) ∧ zs[i]? = some (p.1, .int (a + b))
  | [], z, vs, h, e => by
    simp only [sumK, Option.some.injEq] at e
    subst e
    cases vs with
    | nil => exact ⟨[], rfl, h, fun i p q => by simp at q⟩
    | cons q vs => have := h.1; simp at this
  | (k, d) :: kvs, z, vs, h, e => by
    cases vs with
    | nil => have := h.1; simp at this
    | cons q vs =>
      obtain ⟨k', v⟩ := q
      have h1 := h.1
      simp only [List.map_cons, List.cons.injEq] at h1
      obtain ⟨hk, h2⟩ := h1
      have hk : k' = k := hk
      subst hk
      have hr := h.2
      simp only [List.map_cons] at hr
      cases d with
      | int i =>
        simp only [sumK] at e
        rcases look_val hw k' with ⟨_, e4⟩ | ⟨v', d', e3, e4, r4⟩
        · rw [e4] at e; cases e
        · rw [e4] at e
          cases d' with
          | int j =>
            cases hz : sumK kws kvs with
            | none => rw [hz] at e; cases e
            | some z' =>
              rw [hz] at e
              cases e
              obtain ⟨zs, g1, g2, g3⟩ := sum_read hw (z := z') ⟨h2, hr.tail⟩ hz
              cases r4
              have hv : v = .int i := by cases hr.head; rfl
              subst hv
              refine ⟨(k', .int (i + j)) :: zs, by simp [g1], ⟨by simp only [List.map_cons]; rw [g2.1], .cons (.int _) g2.2⟩, fun m p q => ?_⟩
              cases m with
              | zero =>
                simp only [List.getElem?_cons_zero, Option.some.injEq] at q
                subst q
                exact ⟨i, j, rfl, e3, rfl⟩
              | succ m =>
                simp only [List.getElem?_cons_succ] at q ⊢
                exact g3 m p q
          | _ => cases e
      | _ => simp [sumK] at e
theorem fld_read {Γ : Pr} {X : Cx} {x z : D} {f : Str} {v : V} {μ : Sto} {H : Hp} (hc : ∀ C c, ca C = some c → Cls X.K c ∧ ∀ f ∈ Γ.att C, NoAttr X.K c f) (s : Sim X.K ca α F μ H) (r : Rep X.K ca α F v x) (e : fldD Γ x f μ = some z) :
    ∃ a c dx fs u, v = .ref a ∧ H a = some (.ins c dx fs) ∧ Cls X.K c ∧ NoAttr X.K c f ∧ fs.lookup f = some u ∧ Rep X.K ca α F u z := by
  cases r with
  | @obj a C c dx fs gs vv q1 q2 q3 q4 q5 =>
    simp only [fldD] at e
    split at e
    · rename_i hm
      exact ⟨a, c, dx, fs, vv f, rfl, s.sub _ _ q2, (hc C c q1).1, (hc C c q1).2 f hm, q4 f _ e, q5 f _ e⟩
    · cases e
  | @cell a n q =>
    simp only [fldD] at e
    split at e
    · rename_i C gs hn
      split at e
      · rename_i hm
        obtain ⟨c, dx, fs, h1, h2, h3, h4⟩ := s.cel _ _ _ hn q
        obtain ⟨u, g1, g2⟩ := (h3 f).2 _ e
        exact ⟨a, c, dx, fs, u, rfl, h2, (hc C c h1).1, (hc C c h1).2 f hm, g1, g2⟩
      · cases e
    · cases e
  | _ => simp [fldD] at e
end
def tDcs (K : PySem.W.Frag) (i j k : Nat) (f : Str) : TE := tLockE (tDc (iKeys (tFld K (tVar i) f)) (gName k) tYes (tVar k) (tOp (rI0 fun a b => .int (a + b)) (tDGet (tFld K (tVar i) f) (tVar k)) (tDGet (tFld K (tVar j) f) (tVar k))) [k])
theorem dcs_reads {ca : Str → Option Addr} {Γ : Pr} {X : Cx} {i j k : Nat} {f : Str} {ρ : Rho} {μ μ' : Sto} {d : D} (hc : ∀ C c, ca C = some c → Cls X.K c ∧ ∀ f ∈ Γ.att C, NoAttr X.K c f) (hik : i ≠ k) (hjk : j ≠ k)
    (h : ev Γ (.dcs i j k f) ρ μ = some (d, μ')) (σ : L2.St) (H : Hp) (Q : VK) (t : tD X.K ca ρ μ d μ' σ H Q) : tDcs X.K i j k f σ H Q := by
  simp only [ev] at h
  split at h
  · rename_i x y hx hy
    split at h
    · rename_i n m hfx hfy
      split at h
      · rename_i kvs kws hn hm
        obtain ⟨z, hz, h⟩ := Option.bind_eq_some_iff.mp h
        split at h
        · rename_i hb
          cases h
          obtain ⟨α, F, s, re, kk⟩ := t
          obtain ⟨vx, sx, rx⟩ := re.2 i _ hx
          obtain ⟨vy, sy, ry⟩ := re.2 j _ hy
          obtain ⟨ax, cx, dx, fx, ux, rfl, hax, cx1, cx2, cx3, rux⟩ := fld_read hc s rx hfx
          obtain ⟨ay, cy, dy, fy, uy, rfl, hay, cy1, cy2, cy3, ruy⟩ := fld_read hc s ry hfy
          cases rux with
          | @cell an _ qn =>
          cases ruy with
          | @cell am _ qm =>
          obtain ⟨vs, hvs, rvs⟩ := s.cel _ _ _ hn qn
          obtain ⟨ws, hws, rws⟩ := s.cel _ _ _ hm qm
          obtain ⟨zs, z1, z2, z3⟩ := sum_read rws rvs hz
          have hlen : vs.length = kvs.length := by have := congrArg List.length rvs.1; simpa using this
          have hzl : zs.length = vs.length := by have := congrArg List.length z1; simpa using this
          have hnd : (vs.map (·.1)).Nodup := by rw [rvs.1]; exact hb.2.1
          have hk : k < σ.length := by rw [re.1]; exact hb.2.2
          refine ⟨an, .dK vs, hvs, trivial, fun od => ?_⟩
          have hxn : ax ≠ an := fun e => by rw [e, hvs] at hax; cases hax
          have hyn : ay ≠ an := fun e => by rw [e, hvs] at hay; cases hay
          refine ⟨.ref ax, sx, ax, cx, dx, fx, _, rfl, by rw [upd_ne hxn]; exact hax, cx1, cx2, cx3, an, od, rfl, .inl ⟨vs, upd_same, fun L hL => ?_⟩⟩
          have hLn : L ≠ an := fun e => by rw [e, upd_same] at hL; cases hL
          have hL0 : H L = none := by rw [upd_ne hLn] at hL; exact hL
          have hxL : ax ≠ L := fun e => by rw [e, hL0] at hax; cases hax
          have hyL : ay ≠ L := fun e => by rw [e, hL0] at hay; cases hay
          refine ⟨fun q r H' => r = vs.length - q ∧ q ≤ vs.length ∧ H' = upd (upd H an (.frz od (.dK vs))) L (.dK (zs.take q)), ⟨vs.length, by simp, Nat.zero_le _, by simp⟩, ?_⟩
          rintro q r H' ⟨rfl, hq, rfl⟩
          have han : (upd (upd H an (.frz od (.dK vs))) L (.dK (zs.take q))) an = some (.frz od (.dK vs)) := by rw [upd_ne (Ne.symm hLn), upd_same]
          by_cases hlt : q < vs.length
          · refine .inr ⟨⟨han, hlt⟩, fun H'' => H'' = upd (upd H an (.frz od (.dK vs))) L (.dK (zs.take (q + 1))), fun H'' e => ⟨vs.length - (q + 1), by omega, rfl, hlt, e⟩, fun xv H'' yl => ?_⟩
            obtain ⟨rfl, k1, v1, e1, rfl⟩ := yl
            obtain ⟨a, b, e2, e3, e4⟩ := z3 q _ e1
            have e2 : v1 = .int a := e2
            subst e2
            have hs2 : ∀ i', i' ≠ k → ((wipe σ [k]).set k (some (kV k1)))[i']? = σ[i']? := fun i' hi => by
              rw [List.getElem?_set_ne (Ne.symm hi)]
              show (σ.set k none)[i']? = _
              rw [List.getElem?_set_ne (Ne.symm hi)]
            have hsk : ((wipe σ [k]).set k (some (kV k1)))[k]? = some (some (kV k1)) := by
              rw [List.getElem?_set_self]
              rw [wipe_length]; exact hk
            refine ⟨?_, ?_⟩
            · show (((σ.set k none).set k (some (kV k1))).set k none) = σ.set k none
              rw [List.set_set, List.set_set]
            · dsimp only [tYes]
              rw [if_pos rfl]
              refine ⟨kV k1, hsk, ?_⟩
              have g1 : DGet (upd (upd H an (.frz od (.dK vs))) L (.dK (zs.take q))) an (kV k1) (some (.int a)) := .inl ⟨vs, k1, .inr ⟨od, han⟩, rfl, (val_at hnd e1).symm⟩
              have g2 : DGet (upd (upd H an (.frz od (.dK vs))) L (.dK (zs.take q))) am (kV k1) (some (.int b)) := by
                by_cases e : am = an
                · subst e
                  rw [hvs] at hws
                  cases hws
                  exact .inl ⟨vs, k1, .inr ⟨od, han⟩, rfl, e3.symm⟩
                · have hmL : am ≠ L := fun e => by rw [e, hL0] at hws; cases hws
                  exact .inl ⟨ws, k1, .inl (by rw [upd_ne hmL, upd_ne e]; exact hws), rfl, e3.symm⟩
              refine ⟨.ref ax, (hs2 i hik).trans sx, ax, cx, dx, fx, _, rfl, by rw [upd_ne hxL, upd_ne hxn]; exact hax, cx1, cx2, cx3, kV k1, hsk, an, _, rfl, g1, ?_⟩
              refine ⟨.ref ay, (hs2 j hjk).trans sy, ay, cy, dy, fy, _, rfl, by rw [upd_ne hyL, upd_ne hyn]; exact hay, cy1, cy2, cy3, kV k1, hsk, am, _, rfl, g2, ?_⟩
              refine ⟨a, b, rfl, rfl, zs.take q, k1, rfl, upd_same, ?_, ?_⟩
              · have : (zs.take q).length ≤ 1000 := by rw [List.length_take]; omega
                exact Nat.lt_of_le_of_lt this (by decide)
              · have hnot : k1 ∉ (zs.take q).map (·.1) := by
                  rw [List.map_take, z1]
                  intro hm'
                  obtain ⟨w, hw⟩ := List.getElem?_of_mem hm'
                  have hwq : w < q := by
                    have := (List.getElem?_eq_some_iff.mp hw).1
                    rw [List.length_take] at this; omega
                  rw [List.getElem?_take, if_pos hwq] at hw
                  have e5 : (vs.map (·.1))[q]? = some k1 := by rw [List.getElem?_map, e1]; rfl
                  obtain ⟨p1, p2⟩ := List.getElem?_eq_some_iff.mp hw
                  obtain ⟨p3, p4⟩ := List.getElem?_eq_some_iff.mp e5
                  have := (List.getElem_inj hnd).mp (p2.trans p4.symm)
                  omega
                rw [put_new hnot]
                have e6 : zs.take (q + 1) = zs.take q ++ [(k1, .int (a + b))] := by
                  obtain ⟨p1, p2⟩ := List.getElem?_eq_some_iff.mp e4
                  rw [List.take_add_one, e4]; rfl
                rw [e6]
                funext w
                by_cases hw : w = L
                · subst hw; rw [upd_same, upd_same]
                · rw [upd_ne hw, upd_ne hw, upd_ne hw]
          · have e : q = vs.length := by omega
            subst e
            refine .inl ⟨⟨han, Nat.le_refl _⟩, han, ?_⟩
            have hH : upd (upd (upd H an (.frz od (.dK vs))) L (.dK (zs.take vs.length))) an (.dK vs) = upd H L (.dK zs) := by
              rw [List.take_of_length_le (by omega)]
              funext w
              by_cases hw : w = an
              · subst hw; rw [upd_same, upd_ne (Ne.symm hLn), hvs]
              · rw [upd_ne hw]
                by_cases hw2 : w = L
                · subst hw2; rw [upd_same, upd_same]
                · rw [upd_ne hw2, upd_ne hw, upd_ne hw2]
            rw [hH]
            have x0 : Ext α F (α ++ [L]) F := ⟨⟨[L], rfl⟩, fun _ _ q => q⟩
            obtain ⟨s', x, e⟩ := s.cellNew (o := .dK zs) (c := .dct z) hL0 ⟨zs, upd_same, z2.mono x0⟩
            exact kk _ _ _ _ x s' (.cell e)
        · cases h
      · cases h
    · cases h
  · cases h
section
variable {ca : Str → Option Addr} {Γ : Pr} {X : Cx} {x y w f : Str} {i j k : Nat} {p1 p2 p3 p4 p5 p6 p7 p8 p9 p10 p11 p12 p13 pos : Pos} {scope : Scope}
theorem pd_dcs (hcl : ∀ C c, ca C = some c → Cls X.K c ∧ ∀ f ∈ Γ.att C, NoAttr X.K c f) (hr : Room 1 X.A) (hc : X.calm = true) (hN : X.N.Nodup) (ok : BlkOk X.N X.env.scope scope [(w, k)])
    (h0 : PE X (.Name x p12) (tVar i)) (hg : ∀ (s : Shared) (H : Hp) (C : Addr) (cl : List (Str × Addr)) (fp : List Addr), PG (X.blk s H scope (compEnvC scope cl C X.env) fp) (.Name w p11) (gName k))
    (hk1 : ∀ (s : Shared) (H : Hp) (C : Addr) (cl : List (Str × Addr)) (fp : List Addr), PE (X.blk s H scope (compEnvC scope cl C X.env) fp) (.Name w p1) (tVar k))
    (hv : ∀ (s : Shared) (H : Hp) (C : Addr) (cl : List (Str × Addr)) (fp : List Addr), PE (X.blk s H scope (compEnvC scope cl C X.env) fp) (.BinOp (.Subscript (.Attribute (.Name x p2) f p3) (.Name w p4) p5) .Add (.Subscript (.Attribute (.Name y p6) f p7) (.Name w p8) p9) p10) (tOp (rI0 fun a b => .int (a + b)) (tDGet (tFld X.K (tVar i) f) (tVar k)) (tDGet (tFld X.K (tVar j) f) (tVar k))))
    (hik : i ≠ k) (hjk : j ≠ k) (hb : attributeBase (.Name x p12) f X.env (eval (.Name x p12) X.env) = eval (.Name x p12) X.env := by rfl) (hs : ∀ z, foldedSetIterable (.Attribute (.Name x p12) f p13) X.env z = pure z := by intro _; rfl) :
    PEd ca Γ X (.DictComp (.Name w p1) (.BinOp (.Subscript (.Attribute (.Name x p2) f p3) (.Name w p4) p5) .Add (.Subscript (.Attribute (.Name y p6) f p7) (.Name w p8) p9) p10) [⟨.Name w p11, .Attribute (.Name x p12) f p13, [], 0⟩] scope pos) (.dcs i j k f) := by
  intro ρ μ d μ' h
  refine (pe_lock (pe_dc (own := [(w, k)]) hc hN (pi_keys (pe_fld h0 hb)) ok hg (fun _ _ _ _ _ => pts_nil) hk1 hv hs)).mono fun σ H Q t => ?_
  exact dcs_reads hcl hik hjk h σ H Q t
end
end DP

/-! The defs of the text, in the language of DP (printed). -/
namespace LW
open PySem PySem.Spec L2 DP
abbrev WF : Nat := 200
abbrev KD : Nat := 14
def b_Leastu_initu : S :=
  (.seq (.set (.tup [(.n 2), (.n 3), (.f 0 "bound")]) (.v 1)) (.seq (.fld (.v 0) "most" (.bi .maxL false (.cons (.cat false (.lc false [4] (.one (.n 4)) (.cons (.v 3) .nil) .nil (.bi .abs false (.cons (.v 4) .nil))) (.lst false (.cons (.bin .add (.bi .abs false (.cons (.fld (.v 0) "bound") .nil)) (.c (.int 1))) .nil))) .nil))) .nil))
def d_Leastu_initu : Def := ⟨2, 5, false, b_Leastu_initu⟩
abbrev N_Leastu_initu : List Str := ["self", "sentence", "word", "weights", "weight"]
abbrev p_Leastu_initu : List Str := ["self", "sentence"]
def b_Least_led : S :=
  (.seq (.ret (.tup (.cons (.c (.str "leads")) (.cons (.v 1) (.cons (.cmp .ge (.v 1) (.fld (.v 0) "bound")) .nil))))) .nil)
def d_Least_led : Def := ⟨2, 2, false, b_Least_led⟩
abbrev N_Least_led : List Str := ["self", "number"]
abbrev p_Least_led : List Str := ["self", "number"]
def b_Least_met : S :=
  (.seq (.ife (.cmp .nmem (.c (.str "leads")) (.tup (.cons (.ix (.v 1) (.c (.int 0))) (.cons (.ix (.v 2) (.c (.int 0))) .nil)))) (.seq (.ret (.lst false (.cons (.v 1) (.cons (.v 2) .nil)))) .nil) .nil) (.seq (.set (.one (.n 3)) (.bin .add (.ix (.v 1) (.c (.int 1))) (.ix (.v 2) (.c (.int 1))))) (.seq (.set (.one (.n 4)) (.meth (.v 0) "led" (.cons (.bi .max2 false (.cons (.neg (.fld (.v 0) "most")) (.cons (.bi .min2 false (.cons (.fld (.v 0) "most") (.cons (.v 3) .nil))) .nil))) .nil))) (.seq (.set (.one (.n 5)) (.tup (.cons (.c (.str "follows")) (.cons (.bin .sub (.v 3) (.ix (.v 4) (.c (.int 1)))) (.cons (.ix (.v 4) (.c (.int 2))) .nil))))) (.seq (.ret (.ife (.cmp .eq (.ix (.v 1) (.c (.int 0))) (.c (.str "leads"))) (.lst false (.cons (.v 4) (.cons (.v 5) .nil))) (.lst false (.cons (.v 5) (.cons (.v 4) .nil))))) .nil)))))
def d_Least_met : Def := ⟨3, 6, false, b_Least_met⟩
abbrev N_Least_met : List Str := ["self", "one", "other", "both", "first", "left"]
abbrev p_Least_met : List Str := ["self", "one", "other"]
def b_Restu_initu : S :=
  (.seq (.set (.tup [(.n 2), (.n 3), (.f 0 "wheel"), (.f 0 "rest")]) (.v 1)) .nil)
def d_Restu_initu : Def := ⟨2, 4, false, b_Restu_initu⟩
abbrev N_Restu_initu : List Str := ["self", "sentence", "word", "weights"]
abbrev p_Restu_initu : List Str := ["self", "sentence"]
def b_Rest_led : S :=
  (.seq (.augN 1 .mod (.fld (.v 0) "wheel")) (.seq (.ret (.tup (.cons (.c (.str "leads")) (.cons (.v 1) (.cons (.cmp .eq (.v 1) (.fld (.v 0) "rest")) .nil))))) .nil))
def d_Rest_led : Def := ⟨2, 2, false, b_Rest_led⟩
abbrev N_Rest_led : List Str := ["self", "number"]
abbrev p_Rest_led : List Str := ["self", "number"]
def b_Rest_met : S :=
  (.seq (.ife (.cmp .nmem (.c (.str "leads")) (.tup (.cons (.ix (.v 1) (.c (.int 0))) (.cons (.ix (.v 2) (.c (.int 0))) .nil)))) (.seq (.ret (.lst false (.cons (.v 1) (.cons (.v 2) .nil)))) .nil) .nil) (.seq (.set (.one (.n 3)) (.meth (.v 0) "led" (.cons (.bin .add (.ix (.v 1) (.c (.int 1))) (.ix (.v 2) (.c (.int 1)))) .nil))) (.seq (.set (.one (.n 4)) (.tup (.cons (.c (.str "follows")) (.cons (.c (.int 0)) (.cons (.ix (.v 3) (.c (.int 2))) .nil))))) (.seq (.ret (.ife (.cmp .eq (.ix (.v 1) (.c (.int 0))) (.c (.str "leads"))) (.lst false (.cons (.v 3) (.cons (.v 4) .nil))) (.lst false (.cons (.v 4) (.cons (.v 3) .nil))))) .nil))))
def d_Rest_met : Def := ⟨3, 5, false, b_Rest_met⟩
abbrev N_Rest_met : List Str := ["self", "one", "other", "first", "left"]
abbrev p_Rest_met : List Str := ["self", "one", "other"]
def b_made_of : S :=
  (.seq (.set (.one (.n 1)) (.ife (.cmp .eq (.ix (.v 0) (.c (.int 0))) (.c (.str "least"))) (.make true "Least" (.cons (.v 0) .nil)) (.make true "Rest" (.cons (.v 0) .nil)))) (.seq (.ret (.tup (.cons (.v 1) (.cons (.lc false [2] (.one (.n 2)) (.cons (.ix (.v 0) (.c (.int 1))) .nil) .nil (.meth (.v 1) "led" (.cons (.v 2) .nil))) .nil)))) .nil))
def d_made_of : Def := ⟨1, 3, true, b_made_of⟩
abbrev N_made_of : List Str := ["sentence", "kind", "weight"]
abbrev p_made_of : List Str := ["sentence"]
def b_many_of : S :=
  (.seq (.whl (.cmp .nmem (.ix (.v 0) (.c (.int 0))) (.tup (.cons (.c (.str "least")) (.cons (.c (.str "rest")) .nil)))) (.seq (.set (.one (.n 0)) (.ix (.v 0) (.c (.int 1)))) .nil)) (.seq (.ret (.bi .len false (.cons (.ix (.v 0) (.c (.int 1))) .nil))) .nil))
def d_many_of : Def := ⟨1, 1, false, b_many_of⟩
abbrev N_many_of : List Str := ["sentence"]
abbrev p_many_of : List Str := ["sentence"]
def b_atoms_of : S :=
  (.seq (.ife (.cmp .mem (.ix (.v 0) (.c (.int 0))) (.tup (.cons (.c (.str "least")) (.cons (.c (.str "rest")) .nil)))) (.seq (.ret (.lst false (.cons (.v 0) .nil))) .nil) .nil) (.seq (.ret (.lc2 false [1,2] (.one (.n 1)) (.cons (.sl false (.v 0) (.cons (.c (.int 1)) .nil) .noP) .nil) .nil (.one (.n 2)) (.cons (.call "atoms_of" (.cons (.v 1) .nil)) .nil) .nil (.v 2))) .nil))
def d_atoms_of : Def := ⟨1, 3, false, b_atoms_of⟩
abbrev N_atoms_of : List Str := ["sentence", "part", "one"]
abbrev p_atoms_of : List Str := ["sentence"]
def b_truth_of : S :=
  (.seq (.set (.star [(.n 2)] (.n 3) []) (.v 0)) (.seq (.ife (.cmp .mem (.v 2) (.tup (.cons (.c (.str "least")) (.cons (.c (.str "rest")) .nil)))) (.seq (.ret (.mt .pop0 (.v 1) (.cons (.c (.int 0)) .nil))) .nil) .nil) (.seq (.set (.one (.n 4)) (.lc false [5] (.one (.n 5)) (.cons (.v 3) .nil) .nil (.call "truth_of" (.cons (.v 5) (.cons (.v 1) .nil))))) (.seq (.ife (.cmp .eq (.v 2) (.c (.str "not"))) (.seq (.ret (.not (.ix (.v 4) (.c (.int 0))))) .nil) .nil) (.seq (.ret (.ife (.cmp .eq (.v 2) (.c (.str "and"))) (.bi .all false (.cons (.v 4) .nil)) (.bi .any false (.cons (.v 4) .nil)))) .nil)))))
def d_truth_of : Def := ⟨2, 6, false, b_truth_of⟩
abbrev N_truth_of : List Str := ["sentence", "truths", "word", "parts", "told", "one"]
abbrev p_truth_of : List Str := ["sentence", "truths"]
def b_pairs_of_folk : S :=
  (.seq (.set (.one (.n 2)) (.lc2 false [3,4] (.one (.n 3)) (.rng (.c (.int 0)) (.v 0)) .nil (.one (.n 4)) (.rng (.bin .add (.v 3) (.c (.int 1))) (.v 0)) .nil (.tup (.cons (.v 3) (.cons (.v 4) .nil))))) (.seq (.ret (.ife (.cons (.v 1) .nil) (.lc false [3,4] (.tup [(.n 3), (.n 4)]) (.cons (.rev false (.v 2)) .nil) .nil (.tup (.cons (.v 4) (.cons (.v 3) .nil)))) (.v 2))) .nil))
def d_pairs_of_folk : Def := ⟨2, 5, false, b_pairs_of_folk⟩
abbrev N_pairs_of_folk : List Str := ["many", "backward", "pairs", "one", "other"]
abbrev p_pairs_of_folk : List Str := ["many", "backward"]
def b_Throngu_initu : S :=
  (.seq (.fld (.v 0) "sentence" (.v 1)) (.seq (.fld (.v 0) "parts" (.lc false [2] (.one (.n 2)) (.cons (.call "atoms_of" (.cons (.v 1) .nil)) .nil) .nil (.call "made_of" (.cons (.v 2) .nil)))) (.seq (.fld (.v 0) "folk" (.lst true .nil)) (.seq (.fld (.v 0) "by_gate" (.dc [3] (.one (.n 3)) (.cons (.sl false (.g "GATE_WORDS") .noP (.cons (.call "many_of" (.cons (.v 1) .nil)) .nil)) .nil) .nil (.v 3) (.c (.int 0)))) (.seq (.fld (.v 0) "marks" (.lst true .nil)) .nil)))))
def d_Throngu_initu : Def := ⟨2, 4, false, b_Throngu_initu⟩
abbrev N_Throngu_initu : List Str := ["self", "sentence", "atom", "word"]
abbrev p_Throngu_initu : List Str := ["self", "sentence"]
def b_Throngu_equ : S :=
  (.seq (.ife (.or (.not (.cons (.isi (.v 1) "Throng") .nil)) (.or (.cmp .ne (.fld (.v 0) "sentence") (.fld (.v 1) "sentence")) (.cmp .ne (.fld (.v 0) "by_gate") (.fld (.v 1) "by_gate")))) (.seq (.ret (.c (.bl false))) .nil) .nil) (.seq (.ret (.cmp .eq (.meth (.v 0) "words" .nil) (.meth (.v 1) "words" .nil))) .nil))
def d_Throngu_equ : Def := ⟨2, 2, false, b_Throngu_equ⟩
abbrev N_Throngu_equ : List Str := ["self", "other"]
abbrev p_Throngu_equ : List Str := ["self", "other"]
def b_Throngu_lenu : S :=
  (.seq (.ret (.bi .len false (.cons (.fld (.v 0) "folk") .nil))) .nil)
def d_Throngu_lenu : Def := ⟨1, 1, false, b_Throngu_lenu⟩
abbrev N_Throngu_lenu : List Str := ["self"]
abbrev p_Throngu_lenu : List Str := ["self"]
def b_Throng_words : S :=
  (.seq (.ret (.lc false [1] (.one (.n 1)) (.cons (.fld (.v 0) "folk") .nil) .nil (.meth (.v 0) "word_of_folk" (.cons (.v 1) .nil)))) .nil)
def d_Throng_words : Def := ⟨1, 2, false, b_Throng_words⟩
abbrev N_Throng_words : List Str := ["self", "things"]
abbrev p_Throng_words : List Str := ["self"]
def b_Throng_word_of_folk : S :=
  (.seq (.ret (.ife (.cons (.call "truth_of" (.cons (.fld (.v 0) "sentence") (.cons (.lc true [2] (.one (.n 2)) (.cons (.v 1) .nil) .nil (.ix (.v 2) (.c (.int 2)))) .nil))) .nil) (.c (.str "yes")) (.c (.str "no")))) .nil)
def d_Throng_word_of_folk : Def := ⟨2, 3, true, b_Throng_word_of_folk⟩
abbrev N_Throng_word_of_folk : List Str := ["self", "things", "thing"]
abbrev p_Throng_word_of_folk : List Str := ["self", "things"]
def b_Throng_come : S :=
  (.seq (.ife (.cmp .nmem (.v 1) (.fld (.v 0) "by_gate")) (.seq .never .nil) .nil) (.seq (.set (.one (.n 3)) (.mt .index (.bi .listK false (.cons (.fld (.v 0) "by_gate") .nil)) (.cons (.v 1) .nil))) (.seq (.set (.one (.n 4)) (.bi .len false (.cons (.fld (.v 0) "folk") .nil))) (.seq (.for_ false (.one (.n 5)) (.rng (.c (.int 0)) (.v 2)) (.seq (.ex (.mt .append (.fld (.v 0) "folk") (.cons (.lc false [6,7] (.tup [(.n 6), (.n 7)]) (.cons (.fld (.v 0) "parts") .nil) .nil (.ix (.v 7) (.v 3))) .nil))) .nil)) (.seq (.augIx (.fld (.v 0) "by_gate") (.v 1) .add (.v 2)) (.seq (.ret (.bi .listR false (.cons (.v 4) (.cons (.bi .len false (.cons (.fld (.v 0) "folk") .nil)) .nil)))) .nil))))))
def d_Throng_come : Def := ⟨3, 8, false, b_Throng_come⟩
abbrev N_Throng_come : List Str := ["self", "gate", "many", "at", "first", "number", "kind", "begins"]
abbrev p_Throng_come : List Str := ["self", "gate", "many"]
def b_Throng_need_folk : S :=
  (.seq (.ife (.not (.chn .le .lt (.c (.int 0)) (.v 1) (.bi .len false (.cons (.fld (.v 0) "folk") .nil)))) (.seq .never .nil) .nil) .nil)
def d_Throng_need_folk : Def := ⟨2, 2, false, b_Throng_need_folk⟩
abbrev N_Throng_need_folk : List Str := ["self", "number"]
abbrev p_Throng_need_folk : List Str := ["self", "number"]
def b_Throng_changed : S :=
  (.seq (.set (.one (.n 3)) (.tup (.cons (.ix (.fld (.v 0) "folk") (.v 1)) (.cons (.ix (.fld (.v 0) "folk") (.v 2)) .nil)))) (.seq (.set (.one (.n 4)) (.lc false [5,6] (.tup [(.n 5), (.n 6)]) (.cons (.fld (.v 0) "parts") .nil) .nil (.v 5))) (.seq (.set (.one (.n 7)) (.lc false [5,8,9] (.tup [(.n 5), (.n 8), (.n 9)]) (.zip3 (.v 4) (.ix (.v 3) (.c (.int 0))) (.ix (.v 3) (.c (.int 1)))) .nil (.meth (.v 5) "met" (.cons (.v 8) (.cons (.v 9) .nil))))) (.seq (.setIx (.fld (.v 0) "folk") (.v 1) (.lc false [10] (.one (.n 10)) (.cons (.v 7) .nil) .nil (.ix (.v 10) (.c (.int 0))))) (.seq (.setIx (.fld (.v 0) "folk") (.v 2) (.lc false [10] (.one (.n 10)) (.cons (.v 7) .nil) .nil (.ix (.v 10) (.c (.int 1))))) (.seq (.ret (.cmp .ne (.v 3) (.tup (.cons (.ix (.fld (.v 0) "folk") (.v 1)) (.cons (.ix (.fld (.v 0) "folk") (.v 2)) .nil))))) .nil))))))
def d_Throng_changed : Def := ⟨3, 11, false, b_Throng_changed⟩
abbrev N_Throng_changed : List Str := ["self", "one", "other", "before", "kinds", "kind", "begins", "behind", "first", "second", "pair"]
abbrev p_Throng_changed : List Str := ["self", "one", "other"]
def b_Throng_meet : S :=
  (.seq (.ex (.meth (.v 0) "need_folk" (.cons (.v 1) .nil))) (.seq (.ex (.meth (.v 0) "need_folk" (.cons (.v 2) .nil))) (.seq (.ife (.cmp .eq (.v 1) (.v 2)) (.seq .never .nil) .nil) (.seq (.ex (.meth (.v 0) "changed" (.cons (.v 1) (.cons (.v 2) .nil)))) .nil))))
def d_Throng_meet : Def := ⟨3, 3, false, b_Throng_meet⟩
abbrev N_Throng_meet : List Str := ["self", "one", "other"]
abbrev p_Throng_meet : List Str := ["self", "one", "other"]
def b_Throng_says : S :=
  (.seq (.ex (.meth (.v 0) "need_folk" (.cons (.v 1) .nil))) (.seq (.ret (.meth (.v 0) "word_of_folk" (.cons (.ix (.fld (.v 0) "folk") (.v 1)) .nil))) .nil))
def d_Throng_says : Def := ⟨2, 2, false, b_Throng_says⟩
abbrev N_Throng_says : List Str := ["self", "number"]
abbrev p_Throng_says : List Str := ["self", "number"]
def b_Throng_said : S :=
  (.seq (.set (.star [(.n 1)] (.n 2) []) (.or (.meth (.v 0) "words" .nil) (.lst false (.cons (.c .non) .nil)))) (.seq (.ret (.ife (.cons (.bi .all false (.cons (.lc false [3] (.one (.n 3)) (.cons (.v 2) .nil) .nil (.cmp .eq (.v 3) (.v 1))) .nil)) .nil) (.v 1) (.c .non))) .nil))
def d_Throng_said : Def := ⟨1, 4, false, b_Throng_said⟩
abbrev N_Throng_said : List Str := ["self", "first", "others", "one"]
abbrev p_Throng_said : List Str := ["self"]
def b_Throng_pour : S :=
  (.seq (.ife (.cmp .ne (.fld (.v 0) "sentence") (.fld (.v 1) "sentence")) (.seq .never .nil) .nil) (.seq (.fld (.v 0) "folk" (.cat true (.fld (.v 0) "folk") (.lc false [2] (.one (.n 2)) (.cons (.fld (.v 1) "folk") .nil) .nil (.bi .list1 false (.cons (.v 2) .nil))))) (.seq (.fld (.v 0) "by_gate" (.dcs 0 1 3 "by_gate")) .nil)))
def d_Throng_pour : Def := ⟨2, 4, false, b_Throng_pour⟩
abbrev N_Throng_pour : List Str := ["self", "other", "things", "word"]
abbrev p_Throng_pour : List Str := ["self", "other"]
def b_Throng_stretch : S :=
  (.seq (.ret (.bi .sum false (.cons (.lc false [2,3] (.tup [(.n 2), (.n 3)]) (.cons (.call "pairs_of_folk" (.cons (.bi .len false (.cons (.fld (.v 0) "folk") .nil)) (.cons (.v 1) .nil))) .nil) .nil (.bi .int1 false (.cons (.meth (.v 0) "changed" (.cons (.v 2) (.cons (.v 3) .nil))) .nil))) .nil))) .nil)
def d_Throng_stretch : Def := ⟨2, 4, false, b_Throng_stretch⟩
abbrev N_Throng_stretch : List Str := ["self", "backward", "one", "other"]
abbrev p_Throng_stretch : List Str := ["self", "backward"]
def b_Throng_mark : S :=
  (.seq (.ex (.mt .append (.fld (.v 0) "marks") (.cons (.tup (.cons (.lc false [1] (.one (.n 1)) (.cons (.fld (.v 0) "folk") .nil) .nil (.bi .list1 false (.cons (.v 1) .nil))) (.cons (.bi .dict1 false (.cons (.fld (.v 0) "by_gate") .nil)) .nil))) .nil))) (.seq (.ret (.bin .sub (.bi .len false (.cons (.fld (.v 0) "marks") .nil)) (.c (.int 1)))) .nil))
def d_Throng_mark : Def := ⟨1, 2, false, b_Throng_mark⟩
abbrev N_Throng_mark : List Str := ["self", "things"]
abbrev p_Throng_mark : List Str := ["self"]
def b_Throng_back : S :=
  (.seq (.ife (.not (.chn .le .lt (.c (.int 0)) (.v 1) (.bi .len false (.cons (.fld (.v 0) "marks") .nil)))) (.seq .never .nil) .nil) (.seq (.set (.tup [(.n 2), (.n 3)]) (.ix (.fld (.v 0) "marks") (.v 1))) (.seq (.fld (.v 0) "folk" (.lc true [4] (.one (.n 4)) (.cons (.v 2) .nil) .nil (.bi .list1 false (.cons (.v 4) .nil)))) (.seq (.fld (.v 0) "by_gate" (.bi .dict1 true (.cons (.v 3) .nil))) (.seq (.fld (.v 0) "marks" (.sl true (.fld (.v 0) "marks") .noP (.cons (.bin .add (.v 1) (.c (.int 1))) .nil))) .nil)))))
def d_Throng_back : Def := ⟨2, 5, false, b_Throng_back⟩
abbrev N_Throng_back : List Str := ["self", "number", "folk", "by_gate", "things"]
abbrev p_Throng_back : List Str := ["self", "number"]
def b__law_cell_at : S :=
  (.seq (.ife (.cmp .lt (.v 1) (.bi .len false (.cons (.v 0) .nil))) (.seq (.ret (.ix (.v 0) (.v 1))) .nil) .nil) (.seq (.ret (.c (.int 0))) .nil))
def d__law_cell_at : Def := ⟨2, 2, false, b__law_cell_at⟩
abbrev N__law_cell_at : List Str := ["script", "k"]
abbrev p__law_cell_at : List Str := ["script", "k"]
def b__law_tape : S :=
  (.seq (.set (.one (.n 2)) (.call "_law_cell_at" (.cons (.v 0) (.cons (.v 1) .nil)))) (.seq (.ife (.cmp .eq (.v 2) (.c (.int 0))) (.seq (.ret (.lst true (.cons (.c (.int 0)) .nil))) .nil) .nil) (.seq (.ife (.cmp .ge (.v 2) (.bin .pow (.c (.int 10)) (.c (.int 18)))) (.seq (.ret (.lst true (.cons (.bin .sub (.v 2) (.bin .pow (.c (.int 10)) (.c (.int 18)))) .nil))) .nil) .nil) (.seq (.set (.one (.n 3)) (.c (.int 2305843009213693951))) (.seq (.set (.one (.n 4)) (.bin .mod (.bin .add (.bin .add (.bin .mul (.v 2) (.c (.int 48271))) (.bin .mul (.c (.int 40692)) (.v 1))) (.c (.int 31))) (.v 3))) (.seq (.set (.one (.n 5)) (.v 4)) (.seq (.for_ false (.one (.n 6)) (.rng (.c (.int 0)) (.c (.int 24))) (.seq (.set (.one (.n 4)) (.bin .mod (.bin .add (.bin .add (.bin .mul (.v 4) (.v 4)) (.bin .mul (.bin .mul (.c (.int 69621)) (.bin .add (.v 6) (.c (.int 1)))) (.bin .add (.v 1) (.c (.int 1))))) (.v 2)) (.v 3))) (.seq (.set (.one (.n 5)) (.bin .add (.bin .mul (.v 5) (.v 3)) (.v 4))) .nil))) (.seq (.ret (.lst true (.cons (.v 5) .nil))) .nil))))))))
def d__law_tape : Def := ⟨2, 7, false, b__law_tape⟩
abbrev N__law_tape : List Str := ["script", "k", "cell", "p", "one", "found", "turn"]
abbrev p__law_tape : List Str := ["script", "k"]
def b__law_digit : S :=
  (.seq (.set (.one (.n 2)) (.bin .mod (.ix (.v 0) (.c (.int 0))) (.v 1))) (.seq (.setIx (.v 0) (.c (.int 0)) (.bin .fdiv (.ix (.v 0) (.c (.int 0))) (.v 1))) (.seq (.ret (.v 2)) .nil)))
def d__law_digit : Def := ⟨2, 3, false, b__law_digit⟩
abbrev N__law_digit : List Str := ["tape", "total", "found"]
abbrev p__law_digit : List Str := ["tape", "total"]
def b__law_weights : S :=
  (.seq (.ret (.bi .tuple1 false (.cons (.lc false [2] (.one (.n 2)) (.rng (.c (.int 0)) (.v 1)) .nil (.ix (.lst false (.cons (.c (.int 1)) (.cons (.neg (.c (.int 1))) (.cons (.c (.int 0)) (.cons (.c (.int 2)) (.cons (.neg (.c (.int 2))) (.cons (.c (.int 3)) (.cons (.c (.int 1)) (.cons (.c (.int 1)) .nil))))))))) (.call "_law_digit" (.cons (.v 0) (.cons (.c (.int 8)) .nil))))) .nil))) .nil)
def d__law_weights : Def := ⟨2, 3, false, b__law_weights⟩
abbrev N__law_weights : List Str := ["tape", "total", "k"]
abbrev p__law_weights : List Str := ["tape", "total"]
def b__law_atom : S :=
  (.seq (.ife (.cmp .eq (.call "_law_digit" (.cons (.v 0) (.cons (.c (.int 2)) .nil))) (.c (.int 0))) (.seq (.ret (.tup (.cons (.c (.str "least")) (.cons (.call "_law_weights" (.cons (.v 0) (.cons (.v 1) .nil))) (.cons (.ix (.lst false (.cons (.c (.int 1)) (.cons (.c (.int 0)) (.cons (.c (.int 2)) (.cons (.neg (.c (.int 1))) (.cons (.c (.int 3)) .nil)))))) (.call "_law_digit" (.cons (.v 0) (.cons (.c (.int 5)) .nil)))) .nil))))) .nil) .nil) (.seq (.set (.one (.n 2)) (.ix (.lst false (.cons (.c (.int 2)) (.cons (.c (.int 3)) (.cons (.c (.int 2)) (.cons (.c (.int 4)) (.cons (.c (.int 5)) .nil)))))) (.call "_law_digit" (.cons (.v 0) (.cons (.c (.int 5)) .nil))))) (.seq (.ret (.tup (.cons (.c (.str "rest")) (.cons (.call "_law_weights" (.cons (.v 0) (.cons (.v 1) .nil))) (.cons (.v 2) (.cons (.call "_law_digit" (.cons (.v 0) (.cons (.v 2) .nil))) .nil)))))) .nil)))
def d__law_atom : Def := ⟨2, 3, false, b__law_atom⟩
abbrev N__law_atom : List Str := ["tape", "total", "m"]
abbrev p__law_atom : List Str := ["tape", "total"]
def b__law_is_so : S :=
  (.seq (.ife (.cmp .mem (.ix (.v 0) (.c (.int 0))) (.tup (.cons (.c (.str "least")) (.cons (.c (.str "rest")) .nil)))) (.seq (.set (.one (.n 2)) (.bi .sum false (.cons (.lc false [3,4] (.tup [(.n 3), (.n 4)]) (.zip2 (.ix (.v 0) (.c (.int 1))) (.v 1)) .nil (.bin .mul (.v 3) (.v 4))) .nil))) (.seq (.ife (.cmp .eq (.ix (.v 0) (.c (.int 0))) (.c (.str "least"))) (.seq (.ret (.cmp .ge (.v 2) (.ix (.v 0) (.c (.int 2))))) .nil) .nil) (.seq (.ret (.cmp .eq (.bin .mod (.v 2) (.ix (.v 0) (.c (.int 2)))) (.ix (.v 0) (.c (.int 3))))) .nil))) .nil) (.seq (.set (.one (.n 5)) (.lc false [6] (.one (.n 6)) (.cons (.sl false (.v 0) (.cons (.c (.int 1)) .nil) .noP) .nil) .nil (.call "_law_is_so" (.cons (.v 6) (.cons (.v 1) .nil))))) (.seq (.ife (.cmp .eq (.ix (.v 0) (.c (.int 0))) (.c (.str "not"))) (.seq (.ret (.not (.ix (.v 5) (.c (.int 0))))) .nil) .nil) (.seq (.ret (.ife (.cmp .eq (.ix (.v 0) (.c (.int 0))) (.c (.str "and"))) (.bi .all false (.cons (.v 5) .nil)) (.bi .any false (.cons (.v 5) .nil)))) .nil))))
def d__law_is_so : Def := ⟨2, 7, false, b__law_is_so⟩
abbrev N__law_is_so : List Str := ["sentence", "counts", "found", "weight", "count", "parts", "one"]
abbrev p__law_is_so : List Str := ["sentence", "counts"]
def b__law_wide_sentence : S :=
  (.seq (.set (.one (.n 4)) (.call "_law_digit" (.cons (.v 0) (.cons (.c (.int 6)) .nil)))) (.seq (.ife (.or (.cmp .eq (.v 2) (.c (.int 1))) (.cmp .eq (.v 3) (.c (.int 0)))) (.seq (.ret (.call "_law_atom" (.cons (.v 0) (.cons (.v 1) .nil)))) .nil) .nil) (.seq (.ife (.cmp .eq (.v 4) (.c (.int 0))) (.seq (.ret (.tup (.cons (.c (.str "not")) (.cons (.call "_law_wide_sentence" (.cons (.v 0) (.cons (.v 1) (.cons (.v 2) (.cons (.bin .sub (.v 3) (.c (.int 1))) .nil))))) .nil)))) .nil) .nil) (.seq (.set (.one (.n 5)) (.bin .add (.c (.int 1)) (.call "_law_digit" (.cons (.v 0) (.cons (.bin .sub (.v 2) (.c (.int 1))) .nil))))) (.seq (.set (.one (.n 6)) (.call "_law_wide_sentence" (.cons (.v 0) (.cons (.v 1) (.cons (.v 5) (.cons (.bin .sub (.v 3) (.c (.int 1))) .nil)))))) (.seq (.set (.one (.n 7)) (.call "_law_wide_sentence" (.cons (.v 0) (.cons (.v 1) (.cons (.bin .sub (.v 2) (.v 5)) (.cons (.bin .sub (.v 3) (.c (.int 1))) .nil)))))) (.seq (.ret (.tup (.cons (.ix (.lst false (.cons (.c (.str "and")) (.cons (.c (.str "or")) .nil))) (.bin .mod (.v 4) (.c (.int 2)))) (.cons (.v 6) (.cons (.v 7) .nil))))) .nil)))))))
def d__law_wide_sentence : Def := ⟨4, 8, false, b__law_wide_sentence⟩
abbrev N__law_wide_sentence : List Str := ["tape", "total", "parts", "deep", "option", "left", "one", "other"]
abbrev p__law_wide_sentence : List Str := ["tape", "total", "parts", "deep"]
def b__law_stretches : S :=
  (.seq (.ife (.cmp .eq (.ix (.v 0) (.c (.int 0))) (.c (.str "least"))) (.seq (.set (.one (.n 2)) (.bi .maxL false (.cons (.cat false (.lc false [3] (.one (.n 3)) (.cons (.ix (.v 0) (.c (.int 1))) .nil) .nil (.bi .abs false (.cons (.v 3) .nil))) (.lst false (.cons (.bin .add (.bi .abs false (.cons (.ix (.v 0) (.c (.int 2))) .nil)) (.c (.int 1))) .nil))) .nil))) (.seq (.ret (.bin .add (.bin .mul (.bin .mul (.c (.int 3)) (.v 2)) (.v 1)) (.c (.int 2)))) .nil)) .nil) (.seq (.ife (.cmp .eq (.ix (.v 0) (.c (.int 0))) (.c (.str "rest"))) (.seq (.ret (.c (.int 2))) .nil) .nil) (.seq (.ret (.bi .maxL false (.cons (.lc false [4] (.one (.n 4)) (.cons (.sl false (.v 0) (.cons (.c (.int 1)) .nil) .noP) .nil) .nil (.call "_law_stretches" (.cons (.v 4) (.cons (.v 1) .nil)))) .nil))) .nil)))
def d__law_stretches : Def := ⟨2, 5, false, b__law_stretches⟩
abbrev N__law_stretches : List Str := ["sentence", "folk", "s", "weight", "one"]
abbrev p__law_stretches : List Str := ["sentence", "folk"]
def b__law_settled_throng : S :=
  (.seq (.set (.one (.n 4)) (.lenO (.v 1))) (.seq (.set (.one (.n 5)) (.ix (.lst false (.cons (.c (.str "no")) (.cons (.c (.str "yes")) .nil))) (.bi .int1 false (.cons (.call "_law_is_so" (.cons (.v 2) (.cons (.v 3) .nil))) .nil)))) (.seq (.set (.one (.n 6)) (.call "_law_digit" (.cons (.v 0) (.cons (.c (.int 3)) .nil)))) (.seq (.set (.one (.n 7)) (.call "_law_order_of_pairs" (.cons (.v 0) (.cons (.v 4) .nil)))) (.seq (.set (.one (.n 8)) (.lst false .nil)) (.seq (.for_ false (.one (.n 9)) (.rng (.c (.int 0)) (.call "_law_stretches" (.cons (.v 2) (.cons (.v 4) .nil)))) (.seq (.ife (.cmp .eq (.v 6) (.c (.int 0))) (.seq (.ex (.call "_law_met_in_order" (.cons (.v 1) (.cons (.v 7) .nil)))) .nil) (.seq (.ife (.and (.cmp .eq (.v 6) (.c (.int 1))) (.cmp .eq (.bin .mod (.v 9) (.c (.int 3))) (.c (.int 2)))) (.seq (.ex (.call "_law_met_in_order" (.cons (.v 1) (.cons (.cat false (.call "_law_order_of_pairs" (.cons (.v 0) (.cons (.v 4) .nil))) (.sl false (.v 7) .noP (.cons (.c (.int 1)) .nil))) .nil)))) (.seq (.set (.one (.n 8)) (.lst false .nil)) .nil)) (.seq (.ife (.cmp .lt (.bi .len false (.cons (.v 8) .nil)) (.c (.int 2))) (.seq (.set (.one (.n 10)) (.meth (.v 1) "stretch" (.cons (.cmp .eq (.bin .mod (.v 9) (.c (.int 2))) (.c (.int 1))) .nil))) (.seq (.set (.one (.n 8)) (.ife (.cmp .eq (.v 10) (.c (.int 0))) (.cat false (.v 8) (.lst false (.cons (.v 9) .nil))) (.lst false .nil))) .nil)) .nil) .nil)) .nil)) .nil)) (.seq (.for_ false (.one (.n 9)) (.rng (.c (.int 0)) (.c (.int 2))) (.seq (.ife (.not (.cons (.call "_law_all_say" (.cons (.v 1) (.cons (.v 5) .nil))) .nil)) (.seq (.ret (.c (.bl false))) .nil) .nil) (.seq (.ex (.call "_law_met_in_order" (.cons (.v 1) (.cons (.call "_law_order_of_pairs" (.cons (.v 0) (.cons (.v 4) .nil))) .nil)))) .nil))) (.seq (.ret (.call "_law_all_say" (.cons (.v 1) (.cons (.v 5) .nil)))) .nil))))))))
def d__law_settled_throng : Def := ⟨4, 11, false, b__law_settled_throng⟩
abbrev N__law_settled_throng : List Str := ["tape", "throng", "sentence", "by", "folk", "due", "option", "pairs", "quiet", "turn", "found"]
abbrev p__law_settled_throng : List Str := ["tape", "throng", "sentence", "by"]
def b__law_order_of_pairs : S :=
  (.seq (.set (.one (.n 2)) (.lst true .nil)) (.seq (.for_ false (.one (.n 3)) (.rng (.c (.int 0)) (.v 1)) (.seq (.for_ false (.one (.n 4)) (.rng (.c (.int 0)) (.v 3)) (.seq (.set (.one (.n 5)) (.ix (.lst false (.cons (.tup (.cons (.v 3) (.cons (.v 4) .nil))) (.cons (.tup (.cons (.v 4) (.cons (.v 3) .nil))) .nil))) (.call "_law_digit" (.cons (.v 0) (.cons (.c (.int 2)) .nil))))) (.seq (.ex (.mt .insert (.v 2) (.cons (.call "_law_digit" (.cons (.v 0) (.cons (.bin .add (.bi .len false (.cons (.v 2) .nil)) (.c (.int 1))) .nil))) (.cons (.v 5) .nil)))) .nil))) .nil)) (.seq (.ife (.and (.cmp .gt (.v 1) (.c (.int 2))) (.cmp .eq (.call "_law_digit" (.cons (.v 0) (.cons (.c (.int 3)) .nil))) (.c (.int 0)))) (.seq (.set (.one (.n 6)) (.lst false (.cons (.tup (.cons (.c (.int 2)) (.cons (.c (.int 0)) .nil))) (.cons (.tup (.cons (.c (.int 0)) (.cons (.c (.int 1)) .nil))) (.cons (.tup (.cons (.c (.int 1)) (.cons (.c (.int 2)) .nil))) .nil))))) (.seq (.set (.one (.n 2)) (.cat true (.v 6) (.lc false [5] (.one (.n 5)) (.cons (.frz (.v 2)) .nil) (.cmp .gt (.bi .maxT false (.cons (.v 5) .nil)) (.c (.int 2))) (.v 5)))) .nil)) .nil) (.seq (.ret (.frz (.v 2))) .nil))))
def d__law_order_of_pairs : Def := ⟨2, 7, true, b__law_order_of_pairs⟩
abbrev N__law_order_of_pairs : List Str := ["tape", "folk", "pairs", "one", "other", "pair", "first"]
abbrev p__law_order_of_pairs : List Str := ["tape", "folk"]
def b__law_met_in_order : S :=
  (.seq (.for_ false (.tup [(.n 2), (.n 3)]) (.cons (.v 1) .nil) (.seq (.ex (.meth (.v 0) "meet" (.cons (.v 2) (.cons (.v 3) .nil)))) .nil)) .nil)
def d__law_met_in_order : Def := ⟨2, 4, false, b__law_met_in_order⟩
abbrev N__law_met_in_order : List Str := ["throng", "pairs", "one", "other"]
abbrev p__law_met_in_order : List Str := ["throng", "pairs"]
def b__law_all_say : S :=
  (.seq (.set (.one (.n 2)) (.lenO (.v 0))) (.seq (.ret (.and (.cmp .eq (.meth (.v 0) "said" .nil) (.v 1)) (.cmp .eq (.lc false [3] (.one (.n 3)) (.rng (.c (.int 0)) (.v 2)) .nil (.meth (.v 0) "says" (.cons (.v 3) .nil))) (.rep false (.lst false (.cons (.v 1) .nil)) (.v 2))))) .nil))
def d__law_all_say : Def := ⟨2, 4, false, b__law_all_say⟩
abbrev N__law_all_say : List Str := ["throng", "due", "folk", "k"]
abbrev p__law_all_say : List Str := ["throng", "due"]
def b__law_history : S :=
  (.seq (.set (.one (.n 5)) (.lst false .nil)) (.seq (.for_ false (.one (.n 6)) (.rng (.c (.int 0)) (.c (.int 10))) (.seq (.set (.one (.n 7)) (.call "_law_digit" (.cons (.v 0) (.cons (.c (.int 8)) .nil)))) (.seq (.set (.one (.n 8)) (.call "_law_digit" (.cons (.v 0) (.cons (.v 4) .nil)))) (.seq (.ife (.and (.cmp .lt (.v 7) (.c (.int 2))) (.cmp .lt (.lenO (.v 1)) (.c (.int 5)))) (.seq (.ex (.meth (.v 1) "come" (.cons (.sl false (.c (.str "abc")) (.cons (.v 8) .nil) (.cons (.bin .add (.v 8) (.c (.int 1))) .nil)) (.cons (.c (.int 1)) .nil)))) (.seq (.setIx (.v 2) (.v 8) (.bin .add (.ix (.v 2) (.v 8)) (.c (.int 1)))) .nil)) (.seq (.ife (.and (.cmp .eq (.v 7) (.c (.int 2))) (.cmp .lt (.lenO (.v 1)) (.c (.int 4)))) (.seq (.set (.one (.n 9)) (.make false "Throng" (.cons (.v 3) .nil))) (.seq (.ex (.meth (.v 9) "come" (.cons (.sl false (.c (.str "abc")) (.cons (.v 8) .nil) (.cons (.bin .add (.v 8) (.c (.int 1))) .nil)) (.cons (.c (.int 2)) .nil)))) (.seq (.ex (.meth (.v 9) "meet" (.cons (.c (.int 0)) (.cons (.c (.int 1)) .nil)))) (.seq (.ex (.meth (.v 1) "pour" (.cons (.v 9) .nil))) (.seq (.setIx (.v 2) (.v 8) (.bin .add (.ix (.v 2) (.v 8)) (.c (.int 2)))) .nil))))) (.seq (.ife (.cmp .eq (.v 7) (.c (.int 3))) (.seq (.set (.one (.n 5)) (.cat false (.sl false (.v 5) .noP (.cons (.meth (.v 1) "mark" .nil) .nil)) (.lst false (.cons (.bi .list1 false (.cons (.v 2) .nil)) .nil)))) .nil) (.seq (.ife (.and (.cmp .eq (.v 7) (.c (.int 4))) (.cmp .ne (.v 5) (.lst false .nil))) (.seq (.set (.one (.n 10)) (.call "_law_digit" (.cons (.v 0) (.cons (.bi .len false (.cons (.v 5) .nil)) .nil)))) (.seq (.ex (.meth (.v 1) "back" (.cons (.v 10) .nil))) (.seq (.setSl (.v 2) (.ix (.v 5) (.v 10))) (.seq (.set (.one (.n 5)) (.sl false (.v 5) .noP (.cons (.bin .add (.v 10) (.c (.int 1))) .nil))) .nil)))) (.seq (.ife (.cmp .gt (.lenO (.v 1)) (.c (.int 1))) (.seq (.set (.one (.n 11)) (.call "_law_digit" (.cons (.v 0) (.cons (.lenO (.v 1)) .nil)))) (.seq (.set (.one (.n 12)) (.call "_law_digit" (.cons (.v 0) (.cons (.bin .sub (.lenO (.v 1)) (.c (.int 1))) .nil)))) (.seq (.ex (.meth (.v 1) "meet" (.cons (.v 11) (.cons (.bin .add (.v 12) (.bi .int1 false (.cons (.cmp .ge (.v 12) (.v 11)) .nil))) .nil)))) .nil))) .nil) .nil)) .nil)) .nil)) .nil)) .nil)))) (.seq (.ret (.v 2)) .nil)))
def d__law_history : Def := ⟨5, 13, false, b__law_history⟩
abbrev N__law_history : List Str := ["tape", "throng", "by", "sentence", "total", "kept", "turn", "option", "at", "other", "number", "one", "two"]
abbrev p__law_history : List Str := ["tape", "throng", "by", "sentence", "total"]
def b__law_many_right : S :=
  (.seq (.set (.one (.n 1)) (.bin .add (.c (.int 1)) (.call "_law_digit" (.cons (.v 0) (.cons (.c (.int 2)) .nil))))) (.seq (.set (.one (.n 2)) (.call "_law_wide_sentence" (.cons (.v 0) (.cons (.v 1) (.cons (.bin .add (.c (.int 1)) (.call "_law_digit" (.cons (.v 0) (.cons (.c (.int 2)) .nil)))) (.cons (.c (.int 1)) .nil)))))) (.seq (.set (.one (.n 3)) (.make false "Throng" (.cons (.v 2) .nil))) (.seq (.set (.one (.n 4)) (.rep true (.lst false (.cons (.c (.int 0)) .nil)) (.v 1))) (.seq (.for_ false (.one (.n 5)) (.rng (.c (.int 0)) (.c (.int 4))) (.seq (.set (.one (.n 6)) (.call "_law_digit" (.cons (.v 0) (.cons (.v 1) .nil)))) (.seq (.set (.one (.n 7)) (.bin .add (.c (.int 2)) (.call "_law_digit" (.cons (.v 0) (.cons (.c (.int 4)) .nil))))) (.seq (.ex (.meth (.v 3) "come" (.cons (.sl false (.c (.str "abc")) (.cons (.v 6) .nil) (.cons (.bin .add (.v 6) (.c (.int 1))) .nil)) (.cons (.v 7) .nil)))) (.seq (.setIx (.v 4) (.v 6) (.bin .add (.ix (.v 4) (.v 6)) (.v 7))) .nil))))) (.seq (.ex (.meth (.v 3) "come" (.cons (.c (.str "a")) (.cons (.c (.int 2)) .nil)))) (.seq (.setIx (.v 4) (.c (.int 0)) (.bin .add (.ix (.v 4) (.c (.int 0))) (.c (.int 2)))) (.seq (.set (.one (.n 8)) (.lst false .nil)) (.seq (.for_ false (.one (.n 5)) (.rng (.c (.int 0)) (.call "_law_stretches" (.cons (.v 2) (.cons (.bi .sum false (.cons (.v 4) .nil)) .nil)))) (.seq (.ife (.cmp .lt (.bi .len false (.cons (.v 8) .nil)) (.c (.int 2))) (.seq (.set (.one (.n 9)) (.meth (.v 3) "stretch" (.cons (.cmp .eq (.bin .mod (.v 5) (.c (.int 2))) (.c (.int 0))) .nil))) (.seq (.set (.one (.n 8)) (.ife (.cmp .eq (.v 9) (.c (.int 0))) (.cat false (.v 8) (.lst false (.cons (.v 5) .nil))) (.lst false .nil))) .nil)) .nil) .nil)) (.seq (.ret (.call "_law_all_say" (.cons (.v 3) (.cons (.ix (.lst false (.cons (.c (.str "no")) (.cons (.c (.str "yes")) .nil))) (.bi .int1 false (.cons (.call "_law_is_so" (.cons (.v 2) (.cons (.v 4) .nil))) .nil))) .nil)))) .nil))))))))))
def d__law_many_right : Def := ⟨1, 10, true, b__law_many_right⟩
abbrev N__law_many_right : List Str := ["tape", "total", "sentence", "throng", "by", "turn", "at", "often", "quiet", "found"]
abbrev p__law_many_right : List Str := ["tape"]
def b_law : S :=
  (.seq (.ife (.not (.cons (.call "_law_many_right" (.cons (.call "_law_tape" (.cons (.v 0) (.cons (.c (.int 4)) .nil))) .nil)) .nil)) (.seq (.ret (.c (.bl false))) .nil) .nil) (.seq (.for_ true (.one (.n 1)) (.rng (.c (.int 0)) (.bi .max2 false (.cons (.c (.int 2)) (.cons (.bi .min2 false (.cons (.c (.int 4)) (.cons (.bi .len false (.cons (.v 0) .nil)) .nil))) .nil)))) (.seq (.set (.one (.n 2)) (.call "_law_tape" (.cons (.v 0) (.cons (.v 1) .nil)))) (.seq (.set (.one (.n 3)) (.bin .add (.c (.int 1)) (.call "_law_digit" (.cons (.v 2) (.cons (.c (.int 3)) .nil))))) (.seq (.set (.one (.n 4)) (.ix (.lst false (.cons (.c (.int 1)) (.cons (.c (.int 2)) (.cons (.c (.int 3)) (.cons (.c (.int 4)) (.cons (.c (.int 2)) (.cons (.c (.int 12)) .nil))))))) (.call "_law_digit" (.cons (.v 2) (.cons (.c (.int 6)) .nil))))) (.seq (.set (.one (.n 5)) (.call "_law_wide_sentence" (.cons (.v 2) (.cons (.v 3) (.cons (.v 4) (.cons (.c (.int 5)) .nil)))))) (.seq (.set (.one (.n 6)) (.make false "Throng" (.cons (.v 5) .nil))) (.seq (.set (.one (.n 7)) (.call "_law_history" (.cons (.v 2) (.cons (.v 6) (.cons (.rep true (.lst false (.cons (.c (.int 0)) .nil)) (.v 3)) (.cons (.v 5) (.cons (.v 3) .nil))))))) (.seq (.ife (.cmp .eq (.lenO (.v 6)) (.c (.int 0))) (.seq (.ex (.meth (.v 6) "come" (.cons (.c (.str "a")) (.cons (.c (.int 1)) .nil)))) (.seq (.setIx (.v 7) (.c (.int 0)) (.bin .add (.ix (.v 7) (.c (.int 0))) (.c (.int 1)))) .nil)) .nil) (.seq (.ife (.not (.cons (.call "_law_settled_throng" (.cons (.v 2) (.cons (.v 6) (.cons (.v 5) (.cons (.v 7) .nil))))) .nil)) (.seq (.ret (.c (.bl false))) .nil) .nil) (.seq (.ex (.meth (.v 6) "come" (.cons (.c (.str "a")) (.cons (.c (.int 1)) .nil)))) (.seq (.setIx (.v 7) (.c (.int 0)) (.bin .add (.ix (.v 7) (.c (.int 0))) (.c (.int 1)))) (.seq (.ife (.not (.cons (.call "_law_settled_throng" (.cons (.v 2) (.cons (.v 6) (.cons (.v 5) (.cons (.v 7) .nil))))) .nil)) (.seq (.ret (.c (.bl false))) .nil) .nil) .nil)))))))))))) (.seq (.ret (.c (.bl true))) .nil)))
def d_law : Def := ⟨1, 8, true, b_law⟩
abbrev N_law : List Str := ["script", "k", "tape", "total", "parts", "sentence", "throng", "by"]
abbrev p_law : List Str := ["script"]
def defs : List (Str × Def) := [(("made_of" : Str), d_made_of), (("many_of" : Str), d_many_of), (("atoms_of" : Str), d_atoms_of), (("truth_of" : Str), d_truth_of), (("pairs_of_folk" : Str), d_pairs_of_folk), (("_law_cell_at" : Str), d__law_cell_at), (("_law_tape" : Str), d__law_tape), (("_law_digit" : Str), d__law_digit), (("_law_weights" : Str), d__law_weights), (("_law_atom" : Str), d__law_atom), (("_law_is_so" : Str), d__law_is_so), (("_law_wide_sentence" : Str), d__law_wide_sentence), (("_law_stretches" : Str), d__law_stretches), (("_law_settled_throng" : Str), d__law_settled_throng), (("_law_order_of_pairs" : Str), d__law_order_of_pairs), (("_law_met_in_order" : Str), d__law_met_in_order), (("_law_all_say" : Str), d__law_all_say), (("_law_history" : Str), d__law_history), (("_law_many_right" : Str), d__law_many_right), (("law" : Str), d_law)]
def mets : List (Str × List (Str × Def)) := [(("__init__" : Str), [(("Least" : Str), d_Leastu_initu), (("Rest" : Str), d_Restu_initu), (("Throng" : Str), d_Throngu_initu)]), (("led" : Str), [(("Least" : Str), d_Least_led), (("Rest" : Str), d_Rest_led)]), (("met" : Str), [(("Least" : Str), d_Least_met), (("Rest" : Str), d_Rest_met)]), (("__eq__" : Str), [(("Throng" : Str), d_Throngu_equ)]), (("__len__" : Str), [(("Throng" : Str), d_Throngu_lenu)]), (("words" : Str), [(("Throng" : Str), d_Throng_words)]), (("word_of_folk" : Str), [(("Throng" : Str), d_Throng_word_of_folk)]), (("come" : Str), [(("Throng" : Str), d_Throng_come)]), (("need_folk" : Str), [(("Throng" : Str), d_Throng_need_folk)]), (("changed" : Str), [(("Throng" : Str), d_Throng_changed)]), (("meet" : Str), [(("Throng" : Str), d_Throng_meet)]), (("says" : Str), [(("Throng" : Str), d_Throng_says)]), (("said" : Str), [(("Throng" : Str), d_Throng_said)]), (("pour" : Str), [(("Throng" : Str), d_Throng_pour)]), (("stretch" : Str), [(("Throng" : Str), d_Throng_stretch)]), (("mark" : Str), [(("Throng" : Str), d_Throng_mark)]), (("back" : Str), [(("Throng" : Str), d_Throng_back)])]
def gvs : List (Str × D) := [(("GATE_WORDS" : Str), .tup [.str "a", .str "b", .str "c"])]
def atts : List (Str × List Str) := [(("Least" : Str), ["most", "bound"]), (("Rest" : Str), ["wheel", "rest"]), (("Throng" : Str), ["sentence", "parts", "folk", "by_gate", "marks"])]
def G : Prog := ⟨fun x => defs.lookup x, fun m => (mets.lookup m).getD [], fun x => gvs.lookup x, fun C => (atts.lookup C).getD []⟩
abbrev clsL : List Str := ["Least", "Rest", "Throng"]

end LW

/-! k96 in plain Lean: what the defs compute. -/
namespace P96
open PySem PySem.Spec L2 DP LW

/-! ### calls and statements, step by step -/
theorem call_s (wf k : Nat) (f : Str) {d : Def} (h : G.defs f = some d) (as : List D) (μ : Sto) : (G.pr wf (k + 1)).call f as μ = runDef (G.pr wf k) d as μ := by
  show (match G.defs f with | some d => runDef (G.pr wf k) d as μ | none => none) = _
  rw [h]
theorem meth_s (wf k : Nat) (C m : Str) {d : Def} (h : (G.mets m).lookup C = some d) (as : List D) (μ : Sto) : (G.pr wf (k + 1)).meth C m as μ = runDef (G.pr wf k) d as μ := by
  show (match (G.mets m).lookup C with | some d => runDef (G.pr wf k) d as μ | none => none) = _
  rw [h]
section
variable {Γ : Pr} {a b : S} {e : E} {ρ ρ' : Rho} {μ μ' μ'' : Sto} {d : D} {r : Fr}
theorem sq (h1 : evS Γ a ρ μ = some (.next, ρ', μ')) (h2 : evS Γ b ρ' μ' = r) : evS Γ (.seq a b) ρ μ = r := by simp only [evS, h1]; exact h2
theorem sq_ret (h1 : evS Γ a ρ μ = some (.ret d, ρ', μ')) : evS Γ (.seq a b) ρ μ = some (.ret d, ρ', μ') := by simp only [evS, h1]
theorem s_ret (h : ev Γ e ρ μ = some (d, μ')) : evS Γ (.ret e) ρ μ = some (.ret d, ρ, μ') := by simp only [evS, h, bnd_some]
theorem s_ex (h : ev Γ e ρ μ = some (d, μ')) : evS Γ (.ex e) ρ μ = some (.next, ρ, μ') := by simp only [evS, h, bnd_some]
theorem s_set {i : Nat} (h : ev Γ e ρ μ = some (d, μ')) : evS Γ (.set (.one (.n i)) e) ρ μ = some (.next, ρ.set i (some d), μ') := by simp only [evS, h, bnd_some, DP.bind, storeLeaf, Option.map_some]
theorem s_setT {t : Tg} (h : ev Γ e ρ μ = some (d, μ')) (hb : bind Γ t d ρ μ' = some (ρ', μ'')) : evS Γ (.set t e) ρ μ = some (.next, ρ', μ'') := by simp only [evS, h, bnd_some, hb, Option.map_some]
theorem s_if {c : E} {k : Bool} (h : evT Γ c ρ μ = some (k, μ')) : evS Γ (.ife c a b) ρ μ = if k then evS Γ a ρ μ' else evS Γ b ρ μ' := by simp only [evS, h, bnd_some]
theorem run_ret {df : Def} {as : List D} (hl : as.length = df.np) (ho : df.own = false) (h : evS Γ df.body (as.map some ++ List.replicate (df.n - df.np) none) μ = some (.ret d, ρ', μ')) : runDef Γ df as μ = some (d, μ') := by
  simp only [runDef, hl, if_true, h, finD, ho, Bool.false_eq_true, if_false]
theorem run_retX {df : Def} {as : List D} (ρ0 : Rho) (hl : as.length = df.np) (ho : df.own = false) (hρ : as.map some ++ List.replicate (df.n - df.np) none = ρ0) (h : evS Γ df.body ρ0 μ = some (.ret d, ρ', μ')) : runDef Γ df as μ = some (d, μ') := by
  subst hρ
  simp only [runDef, hl, if_true, h, finD, ho, Bool.false_eq_true, if_false]
theorem run_next {df : Def} {as : List D} (hl : as.length = df.np) (ho : df.own = false) (h : evS Γ df.body (as.map some ++ List.replicate (df.n - df.np) none) μ = some (.next, ρ', μ')) : runDef Γ df as μ = some (.non, μ') := by
  simp only [runDef, hl, if_true, h, finD, ho, Bool.false_eq_true, if_false]
/-- .. of a def that cuts -/
theorem run_retC {df : Def} {as : List D} (hl : as.length = df.np) (ho : df.own = true) (h : evS Γ df.body (as.map some ++ List.replicate (df.n - df.np) none) μ = some (.ret d, ρ', μ')) (hu : D.under μ.length d = true) (hc : (μ'.take μ.length).all (cutOk μ.length) = true) : runDef Γ df as μ = some (d, μ'.take μ.length) := by
  simp only [runDef, hl, if_true, h, finD, ho, hu, hc, Bool.and_self]
end
/-! ### loops -/
section
variable {w : Wt} {μ : Sto}
theorem lc_flat {f : D → Sto → Option (List D × Sto)} {g : D → List D} (hw : watch w μ = true) : ∀ (xs : List D), (∀ x ∈ xs, f x μ = some (g x, μ)) → lcLoop w f xs μ = some (xs.flatMap g, μ)
  | [], _ => rfl
  | x :: xs, h => by
    simp only [lcLoop, h x (by simp), bnd_some, hw, if_true, lc_flat hw xs (fun y hy => h y (by simp [hy])), List.flatMap_cons]
theorem lc_map {f : D → Sto → Option (List D × Sto)} {g : D → D} (hw : watch w μ = true) (xs : List D) (h : ∀ x ∈ xs, f x μ = some ([g x], μ)) : lcLoop w f xs μ = some (xs.map g, μ) := by
  rw [lc_flat (g := fun x => [g x]) hw xs h]
  simp [List.flatMap_singleton']
  induction xs with
  | nil => rfl
  | cons x xs ih => simp [ih (fun y hy => h y (by simp [hy]))]
end
/-! ### digits -/
theorem ixT {m : Nat} {μ : Sto} {v : Int} (h : μ[m]? = some (.lst [.int v])) : ixD (.cell m) (.int 0) μ = some (.int v) := by
  simp only [ixD, h]; rfl
theorem divOk_of {t : Int} (h1 : 0 < t) (h2 : t < 1073741824) : divOk t = true := by
  unfold divOk
  have : t ≠ 0 ∧ t.natAbs < 1073741824 := by omega
  simp [this]
theorem run_digit (wf k : Nat) {m : Nat} {μ : Sto} {v t : Int} (h : μ[m]? = some (.lst [.int v])) (h1 : 0 < t) (h2 : t < 1073741824) :
    (G.pr wf (k + 1)).call "_law_digit" [.cell m, .int t] μ = some (.int (v.fmod t), μ.set m (.lst [.int (v.fdiv t)])) := by
  rw [call_s wf k "_law_digit" (d := d__law_digit) rfl]
  refine run_ret (ρ' := [some (.cell m), some (.int t), some (.int (v.fmod t))]) rfl rfl ?_
  have hm : op2 .mod (.int v) (.int t) = some (.int (v.fmod t)) := by simp only [op2]; rw [if_pos (by omega)]
  have hd : op2 .fdiv (.int v) (.int t) = some (.int (v.fdiv t)) := by simp only [op2, divOk_of h1 h2, if_true]
  have hs : setIxD (.cell m) (.int 0) (.int (v.fdiv t)) μ = some (μ.set m (.lst [.int (v.fdiv t)])) := by simp only [setIxD, h]; rfl
  refine sq (s_set (d := .int (v.fmod t)) (μ' := μ) ?_) (sq (ρ' := [some (.cell m), some (.int t), some (.int (v.fmod t))]) (μ' := μ.set m (.lst [.int (v.fdiv t)])) ?_ (sq_ret (s_ret ?_)))
  · show bnd (bnd (some (D.cell m, μ)) fun x μ => bnd (some (D.int 0, μ)) fun y μ => (ixD x y μ).map fun d => (d, μ)) (fun x μ => bnd (some (D.int t, μ)) fun y μ => (op2 .mod x y).map fun z => (z, μ)) = _
    simp only [bnd_some, ixT h, Option.map_some, hm]
  · show bnd (bnd (bnd (some (D.cell m, μ)) fun x μ => bnd (some (D.int 0, μ)) fun y μ => (ixD x y μ).map fun d => (d, μ)) (fun x μ => bnd (some (D.int t, μ)) fun y μ => (op2 .fdiv x y).map fun z => (z, μ))) (fun v' μ => bnd (some (D.cell m, μ)) fun x μ => bnd (some (D.int 0, μ)) fun y μ => (setIxD x y v' μ).map fun μ => (Flw.next, [some (D.cell m), some (D.int t), some (D.int (v.fmod t))], μ)) = _
    simp only [bnd_some, ixT h, Option.map_some, hd, hs]
  · rfl

structure Th where
  l : Bool
  n : Int
  y : Bool
def Th.e (t : Th) : D := .tup [.str (if t.l then "leads" else "follows"), .int t.n, .bl t.y]
/-- an atom; the wheel is one more than w -/
inductive At where
  | least (ws : List Int) (b : Int)
  | rest (ws : List Int) (w : Nat) (r : Int)
def absI (i : Int) : Int := if i < 0 then -i else i
def mostL (ws : List Int) (b : Int) : Int := match ws.map absI ++ [absI b + 1] with
  | [] => 0
  | i :: is => maxI i is
def At.k : At → D
  | .least ws b => .obj "Least" [("bound", .int b), ("most", .int (mostL ws b))]
  | .rest ws w r => .obj "Rest" [("wheel", .int (Int.ofNat (w + 1))), ("rest", .int r)]
def At.cls : At → Str
  | .least .. => "Least"
  | .rest .. => "Rest"
def At.ws : At → List Int
  | .least ws _ => ws
  | .rest ws _ _ => ws
def At.led : At → Int → Th
  | .least _ b, n => ⟨true, n, decide (b ≤ n)⟩
  | .rest _ w r, n => ⟨true, n.fmod (Int.ofNat (w + 1)), n.fmod (Int.ofNat (w + 1)) == r⟩
def clip (m v : Int) : Int := let u := if v < m then v else m; if u > -m then u else -m
def At.met : At → Th → Th → Th × Th
  | .least ws b, t, u => if t.l || u.l then
      let f := (At.least ws b).led (clip (mostL ws b) (t.n + u.n))
      let g : Th := ⟨false, t.n + u.n - f.n, f.y⟩
      if t.l then (f, g) else (g, f) else (t, u)
  | .rest ws w r, t, u => if t.l || u.l then
      let f := (At.rest ws w r).led (t.n + u.n)
      let g : Th := ⟨false, 0, f.y⟩
      if t.l then (f, g) else (g, f) else (t, u)
theorem run_led (wf k : Nat) (a : At) (n : Int) (μ : Sto) : (G.pr wf (k + 1)).meth a.cls "led" [a.k, .int n] μ = some ((a.led n).e, μ) := by
  cases a with
  | least ws b => rfl
  | rest ws w r => kernel_rfl
theorem run_met (wf k : Nat) (a : At) (t u : Th) (μ : Sto) : (G.pr wf (k + 2)).meth a.cls "met" [a.k, t.e, u.e] μ = some (.lst [(a.met t u).1.e, (a.met t u).2.e], μ) := by
  obtain ⟨l1, n1, y1⟩ := t
  obtain ⟨l2, n2, y2⟩ := u
  cases a with
  | least ws b => cases l1 <;> cases l2 <;> kernel_rfl
  | rest ws w r => cases l1 <;> cases l2 <;> kernel_rfl

/-! ### comprehensions -/
def lcStep (Γ : Pr) (own : List Nat) (tg : Tg) (cs elt : E) (ρ : Rho) (x : D) (μ : Sto) : Option (List D × Sto) := (DP.bind Γ tg x (wipeD ρ own) μ).bind fun p =>
  bnd (evT Γ cs p.1 p.2) fun k μ => if k then bnd (ev Γ elt p.1 μ) fun y μ => some ([y], μ) else some ([], μ)
section
variable {Γ : Pr} {own : List Nat} {tg : Tg} {it cs elt : E} {ρ : Rho} {μ : Sto} {xs : List D} {w : Wt}
theorem ev_lc1 {g : D → D} (hi : evI Γ it ρ μ = some ((xs, w), μ)) (hw : watch w μ = true) (hz : xs.length ≤ sizeLine) (h : ∀ x ∈ xs, lcStep Γ own tg cs elt ρ x μ = some ([g x], μ)) : ev Γ (.lc false own tg it cs elt) ρ μ = some (.lst (xs.map g), μ) := by
  have e := lc_map (f := lcStep Γ own tg cs elt ρ) (g := g) hw xs h
  simp only [ev, hi, bnd_some]
  show bnd (lcLoop w (lcStep Γ own tg cs elt ρ) xs μ) _ = _
  rw [e]
  simp only [bnd_some, DP.alloc, List.length_map, hz, if_true, Bool.false_eq_true, if_false]
theorem ev_lcM {g : D → D} (hi : evI Γ it ρ μ = some ((xs, w), μ)) (hw : watch w μ = true) (hz : xs.length ≤ sizeLine) (h : ∀ x ∈ xs, lcStep Γ own tg cs elt ρ x μ = some ([g x], μ)) : ev Γ (.lc true own tg it cs elt) ρ μ = some (.cell μ.length, μ ++ [.lst (xs.map g)]) := by
  have e := lc_map (f := lcStep Γ own tg cs elt ρ) (g := g) hw xs h
  simp only [ev, hi, bnd_some]
  show bnd (lcLoop w (lcStep Γ own tg cs elt ρ) xs μ) _ = _
  rw [e]
  simp only [bnd_some, DP.alloc, List.length_map, hz, if_true]
end
theorem small {n : Nat} (h : n ≤ 1000000) : n ≤ sizeLine := Nat.le_trans h (by decide)
/-! ### sentences -/
def At.e : At → D
  | .least ws b => .tup [.str "least", .tup (ws.map .int), .int b]
  | .rest ws w r => .tup [.str "rest", .tup (ws.map .int), .int (Int.ofNat (w + 1)), .int r]
inductive Sen where
  | atom (a : At)
  | not (s : Sen)
  | two (c : Bool) (a b : Sen)
def Sen.e : Sen → D
  | .atom a => a.e
  | .not s => .tup [.str "not", s.e]
  | .two c a b => .tup [.str (if c then "and" else "or"), a.e, b.e]
def Sen.ats : Sen → List At
  | .atom a => [a]
  | .not s => s.ats
  | .two _ a b => a.ats ++ b.ats
/-- what a sentence says, the atoms' truths given; and what is left of them -/
def Sen.say : Sen → List Bool → Option (Bool × List Bool)
  | .atom _, [] => none
  | .atom _, b :: bs => some (b, bs)
  | .not s, bs => (s.say bs).map fun p => (!p.1, p.2)
  | .two c a b, bs => (a.say bs).bind fun p => (b.say p.2).map fun q => (if c then p.1 && q.1 else p.1 || q.1, q.2)
theorem set_last (μ : Sto) (c c' : Cel) : (μ ++ [c]).set μ.length c' = μ ++ [c'] := by
  rw [List.set_append_right _ _ (Nat.le_refl _)]; simp
theorem at_last (μ : Sto) (c : Cel) : (μ ++ [c])[μ.length]? = some c := by
  rw [List.getElem?_append_right (Nat.le_refl _)]; simp
theorem intsD_map : ∀ ws : List Int, intsD (ws.map D.int) = some ws
  | [] => rfl
  | w :: ws => by simp [intsD, intsD_map ws]
/-! ### expressions, step by step -/
section
variable {Γ : Pr} {a b : E} {ρ : Rho} {μ μ1 μ2 μ3 : Sto} {d d1 d2 : D} {ds : List D}
theorem e_v {i : Nat} (h : ρ[i]? = some (some d)) : ev Γ (.v i) ρ μ = some (d, μ) := by simp only [ev, h]
theorem e_c : ev Γ (.c d) ρ μ = some (d, μ) := by simp only [ev]
theorem es_nil : evs Γ .nil ρ μ = some ([], μ) := by simp only [evs]
theorem es_cons (h1 : ev Γ a ρ μ = some (d, μ1)) (h2 : evs Γ b ρ μ1 = some (ds, μ2)) : evs Γ (.cons a b) ρ μ = some (d :: ds, μ2) := by simp only [evs, h1, bnd_some, h2]
theorem es_1 (h1 : ev Γ a ρ μ = some (d, μ1)) : evs Γ (.cons a .nil) ρ μ = some ([d], μ1) := es_cons h1 es_nil
theorem es_2 (h1 : ev Γ a ρ μ = some (d, μ1)) (h2 : ev Γ b ρ μ1 = some (d2, μ2)) : evs Γ (.cons a (.cons b .nil)) ρ μ = some ([d, d2], μ2) := es_cons h1 (es_1 h2)
theorem e_bi {k : Bi} {m : Bool} (h1 : evs Γ a ρ μ = some (ds, μ1)) (h2 : biD k m ds μ1 = some (d, μ2)) : ev Γ (.bi k m a) ρ μ = some (d, μ2) := by simp only [ev, h1, bnd_some, h2]
theorem e_bin {o : Op2} (h1 : ev Γ a ρ μ = some (d1, μ1)) (h2 : ev Γ b ρ μ1 = some (d2, μ2)) (h : op2 o d1 d2 = some d) : ev Γ (.bin o a b) ρ μ = some (d, μ2) := by simp only [ev, h1, bnd_some, h2, h, Option.map_some]
theorem e_tup (h1 : evs Γ a ρ μ = some (ds, μ1)) (hz : ds.length ≤ sizeLine) : ev Γ (.tup a) ρ μ = some (.tup ds, μ1) := by simp only [ev, h1, bnd_some, hz, if_true]
theorem e_lst (h1 : evs Γ a ρ μ = some (ds, μ1)) (hz : ds.length ≤ sizeLine) : ev Γ (.lst false a) ρ μ = some (.lst ds, μ1) := by simp only [ev, h1, bnd_some, DP.alloc, hz, if_true, Bool.false_eq_true, if_false]
theorem e_lstM (h1 : evs Γ a ρ μ = some (ds, μ1)) (hz : ds.length ≤ sizeLine) : ev Γ (.lst true a) ρ μ = some (.cell μ1.length, μ1 ++ [.lst ds]) := by simp only [ev, h1, bnd_some, DP.alloc, hz, if_true]
theorem e_cat {es : List D} (h1 : ev Γ a ρ μ = some (d1, μ1)) (h2 : ev Γ b ρ μ1 = some (d2, μ2)) (g1 : lstOf d1 μ2 = some ds) (g2 : lstOf d2 μ2 = some es) (hz : (ds ++ es).length ≤ sizeLine) : ev Γ (.cat false a b) ρ μ = some (.lst (ds ++ es), μ2) := by
  simp only [ev, h1, bnd_some, h2, g1, g2, Option.bind_some, DP.alloc, hz, if_true, Bool.false_eq_true, if_false]
theorem e_ix (h1 : ev Γ a ρ μ = some (d1, μ1)) (h2 : ev Γ b ρ μ1 = some (d2, μ2)) (h : ixD d1 d2 μ2 = some d) : ev Γ (.ix a b) ρ μ = some (d, μ2) := by simp only [ev, h1, bnd_some, h2, h, Option.map_some]
theorem e_call {f : Str} (h1 : evs Γ a ρ μ = some (ds, μ1)) (h : Γ.call f ds μ1 = some (d, μ2)) : ev Γ (.call f a) ρ μ = some (d, μ2) := by simp only [ev, h1, bnd_some, h]
theorem e_meth {f C : Str} (h1 : ev Γ a ρ μ = some (d1, μ1)) (hr : recv d1 f μ1 = some C) (h2 : evs Γ b ρ μ1 = some (ds, μ2)) (h : Γ.meth C f (d1 :: ds) μ2 = some (d, μ3)) : ev Γ (.meth a f b) ρ μ = some (d, μ3) := by
  simp only [ev, h1, bnd_some, hr, Option.bind_some, h2, h]
theorem e_make {fr : Bool} {C : Str} (h1 : evs Γ a ρ μ = some (ds, μ1)) (h : Γ.meth C "__init__" (.cell μ1.length :: ds) (μ1 ++ [.ins C []]) = some (.non, μ2)) : ev Γ (.make fr C a) ρ μ = if fr then freezeD μ1.length μ2 else some (.cell μ1.length, μ2) := by
  simp only [ev, h1, bnd_some, h, DP.isNon, if_true]
theorem e_ife {c : E} {k : Bool} (h : evT Γ c ρ μ = some (k, μ1)) : ev Γ (.ife c a b) ρ μ = if k then ev Γ a ρ μ1 else ev Γ b ρ μ1 := by simp only [ev, h, bnd_some]
theorem t_cmp {o : Cmp} {k : Bool} (h1 : ev Γ a ρ μ = some (d1, μ1)) (h2 : ev Γ b ρ μ1 = some (d2, μ2)) (h : cmpD Γ o d1 d2 μ2 = some (k, μ3)) : evT Γ (.cmp o a b) ρ μ = some (k, μ3) := by simp only [evT, h1, bnd_some, h2, h]
theorem e_cmp {o : Cmp} {k : Bool} (h1 : ev Γ a ρ μ = some (d1, μ1)) (h2 : ev Γ b ρ μ1 = some (d2, μ2)) (h : cmpD Γ o d1 d2 μ2 = some (k, μ3)) : ev Γ (.cmp o a b) ρ μ = some (.bl k, μ3) := by simp only [ev, h1, bnd_some, h2, h, Option.map_some]
end
theorem st_fld {Γ : Pr} {o n : Nat} {a C : Str} {d : D} {ρ : Rho} {μ : Sto} {fs : List (Str × D)} (h : ρ[o]? = some (some (.cell n))) (hn : μ[n]? = some (.ins C fs)) (ha : a ∈ Γ.att C) (hl : fs.length < 40) :
    storeLeaf Γ (.f o a) d ρ μ = some (ρ, μ.set n (.ins C (storeLeaf.putF' a d fs))) := by simp only [storeLeaf, h, hn, ha, hl, and_self, if_true]
theorem s_fld {Γ : Pr} {n : Nat} {o e : E} {f C : Str} {d : D} {ρ : Rho} {μ μ1 μ2 : Sto} {fs : List (Str × D)} (he : ev Γ e ρ μ = some (d, μ1)) (ho : ev Γ o ρ μ1 = some (.cell n, μ2)) (hn : μ2[n]? = some (.ins C fs)) (ha : f ∈ Γ.att C) (hl : fs.length < 40) :
    evS Γ (.fld o f e) ρ μ = some (.next, ρ, μ2.set n (.ins C (storeLeaf.putF' f d fs))) := by simp only [evS, he, bnd_some, ho, hn, ha, hl, and_self, if_true]
theorem fld_c {Γ : Pr} {n : Nat} {f C : Str} {d : D} {μ : Sto} {fs : List (Str × D)} (hn : μ[n]? = some (.ins C fs)) (ha : f ∈ Γ.att C) (hf : fs.lookup f = some d) : fldD Γ (.cell n) f μ = some d := by simp only [fldD, hn, ha, if_true, hf]
theorem e_fld {Γ : Pr} {o : E} {n : Nat} {f C : Str} {d : D} {ρ : Rho} {μ μ1 : Sto} {fs : List (Str × D)} (ho : ev Γ o ρ μ = some (.cell n, μ1)) (hn : μ1[n]? = some (.ins C fs)) (ha : f ∈ Γ.att C) (hf : fs.lookup f = some d) : ev Γ (.fld o f) ρ μ = some (d, μ1) := by
  simp only [ev, ho, bnd_some, fld_c hn ha hf, Option.map_some]
theorem set_at {μ : Sto} {n : Nat} {c c' : Cel} (h : μ[n]? = some c) : (μ.set n c')[n]? = some c' := by
  rw [List.getElem?_set_self (List.getElem?_eq_some_iff.mp h).1]
theorem att_Least (wf k : Nat) : (G.pr wf k).att "Least" = (["most", "bound"] : List Str) := rfl
theorem att_Rest (wf k : Nat) : (G.pr wf k).att "Rest" = (["wheel", "rest"] : List Str) := rfl
section
variable (wf k : Nat) {n : Nat} {μ : Sto}
theorem run_initL (ws : List Int) (b : Int) (hl : ws.length ≤ 10) (h : μ[n]? = some (.ins "Least" [])) : (G.pr wf (k + 1)).meth "Least" "__init__" [.cell n, (At.least ws b).e] μ = some (.non, μ.set n (.ins "Least" [("bound", .int b), ("most", .int (mostL ws b))])) := by
  rw [meth_s wf k "Least" "__init__" (d := d_Leastu_initu) rfl]
  have f0 : DP.bind (G.pr wf k) (.tup [(.n 2), (.n 3), (.f 0 "bound")]) (At.least ws b).e [some (.cell n), some (At.least ws b).e, none, none, none] μ =
      some ([some (.cell n), some (At.least ws b).e, some (.str "least"), some (.tup (ws.map .int)), none], μ.set n (.ins "Least" [("bound", .int b)])) := by
    show (storeLeaf (G.pr wf k) (.f 0 "bound") (.int b) [some (.cell n), some (At.least ws b).e, some (.str "least"), some (.tup (ws.map .int)), none] μ).bind _ = _
    rw [st_fld (n := n) (C := "Least") (fs := []) rfl h (by rw [att_Least]; decide) (by simp)]
    rfl
  have h1 := set_at (c' := .ins "Least" [("bound", D.int b)]) h
  have g1 : ev (G.pr wf k) (.lc false [4] (.one (.n 4)) (.cons (.v 3) .nil) .nil (.bi .abs false (.cons (.v 4) .nil))) [some (.cell n), some (At.least ws b).e, some (.str "least"), some (.tup (ws.map .int)), none] (μ.set n (.ins "Least" [("bound", .int b)])) = some (.lst ((ws.map D.int).map fun x => match x with | .int i => .int (absI i) | x => x), μ.set n (.ins "Least" [("bound", .int b)])) := by
    refine ev_lc1 (w := none) rfl rfl (small (by simp; omega)) fun x hx => ?_
    obtain ⟨i, _, rfl⟩ := List.mem_map.mp hx
    rfl
  have g2 : ev (G.pr wf k) (.bi .maxL false (.cons (.cat false (.lc false [4] (.one (.n 4)) (.cons (.v 3) .nil) .nil (.bi .abs false (.cons (.v 4) .nil))) (.lst false (.cons (.bin .add (.bi .abs false (.cons (.fld (.v 0) "bound") .nil)) (.c (.int 1))) .nil))) .nil)) [some (.cell n), some (At.least ws b).e, some (.str "least"), some (.tup (ws.map .int)), none] (μ.set n (.ins "Least" [("bound", .int b)])) = some (.int (mostL ws b), μ.set n (.ins "Least" [("bound", .int b)])) := by
    have e1 : ev (G.pr wf k) (.fld (.v 0) "bound") [some (.cell n), some (At.least ws b).e, some (.str "least"), some (.tup (ws.map .int)), none] (μ.set n (.ins "Least" [("bound", .int b)])) = some (.int b, μ.set n (.ins "Least" [("bound", .int b)])) := e_fld (e_v rfl) h1 (by rw [att_Least]; decide) rfl
    have e2 : ((ws.map D.int).map fun x => match x with | .int i => .int (absI i) | x => x) = (ws.map absI).map D.int := by simp [List.map_map, Function.comp_def]
    rw [e2] at g1
    have e4 : (intsD ((ws.map absI).map D.int ++ [D.int (absI b + 1)])) = some (ws.map absI ++ [absI b + 1]) := by
      have := intsD_map (ws.map absI ++ [absI b + 1])
      simpa using this
    have hz : ((ws.map absI).map D.int ++ [D.int (absI b + 1)]).length ≤ sizeLine := small (by simp; omega)
    refine e_bi (es_1 (e_cat g1 (e_lst (es_1 (e_bin (e_bi (es_1 e1) rfl) e_c rfl)) (small (by simp))) rfl rfl hz)) ?_
    show ((intsD ((ws.map absI).map D.int ++ [D.int (absI b + 1)])).bind fun is => match is with | [] => none | i :: is => some (D.int (maxI i is), _)) = _
    rw [e4]
    unfold mostL
    cases ws <;> rfl
  refine run_next (ρ' := [some (.cell n), some (At.least ws b).e, some (.str "least"), some (.tup (ws.map .int)), none]) rfl rfl ?_
  refine sq (s_setT (d := (At.least ws b).e) (μ' := μ) rfl f0) (sq (ρ' := [some (.cell n), some (At.least ws b).e, some (.str "least"), some (.tup (ws.map .int)), none]) (s_fld g2 (e_v rfl) h1 (by rw [att_Least]; decide) (by simp)) ?_)
  show some _ = some _
  rw [List.set_set]
  rfl
theorem run_initR (ws : List Int) (w : Nat) (r : Int) (h : μ[n]? = some (.ins "Rest" [])) : (G.pr wf (k + 1)).meth "Rest" "__init__" [.cell n, (At.rest ws w r).e] μ = some (.non, μ.set n (.ins "Rest" [("wheel", .int (Int.ofNat (w + 1))), ("rest", .int r)])) := by
  rw [meth_s wf k "Rest" "__init__" (d := d_Restu_initu) rfl]
  have h1 := set_at (c' := .ins "Rest" [("wheel", D.int (Int.ofNat (w + 1)))]) h
  have f0 : DP.bind (G.pr wf k) (.tup [(.n 2), (.n 3), (.f 0 "wheel"), (.f 0 "rest")]) (At.rest ws w r).e [some (.cell n), some (At.rest ws w r).e, none, none] μ =
      some ([some (.cell n), some (At.rest ws w r).e, some (.str "rest"), some (.tup (ws.map .int))], μ.set n (.ins "Rest" [("wheel", .int (Int.ofNat (w + 1))), ("rest", .int r)])) := by
    show (storeLeaf (G.pr wf k) (.f 0 "wheel") (.int (Int.ofNat (w + 1))) [some (.cell n), some (At.rest ws w r).e, some (.str "rest"), some (.tup (ws.map .int))] μ).bind (fun p => storeAll (G.pr wf k) [.f 0 "rest"] [.int r] p.1 p.2) = _
    rw [st_fld (n := n) (C := "Rest") (fs := []) rfl h (by rw [att_Rest]; decide) (by simp)]
    show (storeLeaf (G.pr wf k) (.f 0 "rest") (.int r) [some (.cell n), some (At.rest ws w r).e, some (.str "rest"), some (.tup (ws.map .int))] (μ.set n (.ins "Rest" [("wheel", D.int (Int.ofNat (w + 1)))]))).bind (fun p => storeAll (G.pr wf k) [] [] p.1 p.2) = _
    rw [st_fld (n := n) (C := "Rest") rfl h1 (by rw [att_Rest]; decide) (by simp)]
    show some _ = some _
    rw [List.set_set]; rfl
  refine run_next (ρ' := [some (.cell n), some (At.rest ws w r).e, some (.str "rest"), some (.tup (ws.map .int))]) rfl rfl ?_
  exact sq (s_setT (d := (At.rest ws w r).e) (μ' := μ) rfl f0) rfl
end

/-! ### the parts -/
def Ok (μ : Sto) : Prop := μ.all (cutOk μ.length) = true
theorem unders_map {β : Type} (n : Nat) (f : β → D) (h : ∀ x, D.under n (f x) = true) : ∀ xs : List β, D.under.D.unders n (xs.map f) = true
  | [] => rfl
  | x :: xs => by simp [D.under.D.unders, h x, unders_map n f h xs]
theorem under_th (n : Nat) (t : Th) : D.under n t.e = true := rfl
theorem under_k (n : Nat) (a : At) : D.under n a.k = true := by cases a <;> rfl
def At.kf : At → List (Str × D)
  | .least ws b => [("bound", .int b), ("most", .int (mostL ws b))]
  | .rest ws w r => [("wheel", .int (Int.ofNat (w + 1))), ("rest", .int r)]
theorem k_obj (a : At) : a.k = .obj a.cls a.kf := by cases a <;> rfl
def At.begins (a : At) : D := .lst (a.ws.map fun w => (a.led w).e)
def At.part (a : At) : D := .tup [a.k, a.begins]
theorem run_init (wf k : Nat) (a : At) (μ : Sto) (hl : a.ws.length ≤ 10) : (G.pr wf (k + 1)).meth a.cls "__init__" [.cell μ.length, a.e] (μ ++ [.ins a.cls []]) = some (.non, μ ++ [.ins a.cls a.kf]) := by
  cases a with
  | least ws b => have := run_initL wf k ws b hl (at_last μ (.ins "Least" [])); rw [set_last] at this; exact this
  | rest ws w r => have := run_initR wf k ws w r (at_last μ (.ins "Rest" [])); rw [set_last] at this; exact this
theorem run_made (wf k : Nat) (a : At) (μ : Sto) (hl : a.ws.length ≤ 10) (ok : Ok μ) : (G.pr wf (k + 2)).call "made_of" [a.e] μ = some (a.part, μ) := by
  rw [call_s wf (k + 1) "made_of" (d := d_made_of) rfl]
  have hm : ev (G.pr wf (k + 1)) (.ife (.cmp .eq (.ix (.v 0) (.c (.int 0))) (.c (.str "least"))) (.make true "Least" (.cons (.v 0) .nil)) (.make true "Rest" (.cons (.v 0) .nil))) [some a.e, none, none] μ = some (a.k, μ ++ [.dead]) := by
    have fz : freezeD μ.length (μ ++ [.ins a.cls a.kf]) = some (.obj a.cls a.kf, μ ++ [.dead]) := by simp only [freezeD, at_last, set_last]
    rw [k_obj, ← fz]
    cases a with
    | least ws b =>
      rw [e_ife (k := true) (t_cmp (e_ix (d := .str "least") (e_v rfl) e_c rfl) e_c (by kernel_rfl))]
      exact e_make (es_1 (e_v rfl)) (run_init wf k (.least ws b) μ hl)
    | rest ws w r =>
      rw [e_ife (k := false) (t_cmp (e_ix (d := .str "rest") (e_v rfl) e_c rfl) e_c (by kernel_rfl))]
      exact e_make (es_1 (e_v rfl)) (run_init wf k (.rest ws w r) μ hl)
  have hix : ixD a.e (.int 1) (μ ++ [.dead]) = some (.tup (a.ws.map .int)) := by cases a <;> rfl
  have hb : ev (G.pr wf (k + 1)) (.lc false [2] (.one (.n 2)) (.cons (.ix (.v 0) (.c (.int 1))) .nil) .nil (.meth (.v 1) "led" (.cons (.v 2) .nil))) [some a.e, some a.k, none] (μ ++ [.dead]) = some (a.begins, μ ++ [.dead]) := by
    have h0 : evI (G.pr wf (k + 1)) (.cons (.ix (.v 0) (.c (.int 1))) .nil) [some a.e, some a.k, none] (μ ++ [.dead]) = some ((a.ws.map .int, none), μ ++ [.dead]) := by
      simp only [evI, e_ix (e_v (i := 0) (ρ := [some a.e, some a.k, none]) rfl) e_c hix, bnd_some]
    have := ev_lc1 (own := [2]) (tg := .one (.n 2)) (cs := .nil) (elt := .meth (.v 1) "led" (.cons (.v 2) .nil)) (g := fun x => match x with | .int i => (a.led i).e | x => x) h0 rfl (small (by simp; omega)) fun x hx => by
      obtain ⟨i, _, rfl⟩ := List.mem_map.mp hx
      have e1 : ev (G.pr wf (k + 1)) (.meth (.v 1) "led" (.cons (.v 2) .nil)) [some a.e, some a.k, some (.int i)] (μ ++ [.dead]) = some ((a.led i).e, μ ++ [.dead]) :=
        e_meth (e_v rfl) (by cases a <;> rfl) (es_1 (e_v rfl)) (run_led wf k a i _)
      show (bnd (ev (G.pr wf (k + 1)) (.meth (.v 1) "led" (.cons (.v 2) .nil)) [some a.e, some a.k, some (.int i)] (μ ++ [.dead])) fun y μ => some ([y], μ)) = _
      rw [e1]; rfl
    rw [this]
    simp [At.begins, List.map_map, Function.comp_def]
  have := run_retC (Γ := G.pr wf (k + 1)) (df := d_made_of) (as := [a.e]) (μ := μ) (d := a.part) (ρ' := [some a.e, some a.k, none]) (μ' := μ ++ [.dead]) rfl rfl
    (sq (ρ' := [some a.e, some a.k, none]) (μ' := μ ++ [Cel.dead]) (s_set hm) (sq_ret (s_ret (e_tup (es_2 (e_v rfl) hb) (small (by simp)))))) (by
      show (D.under _ a.k && (D.under _ a.begins && true)) = true
      rw [under_k]
      show (true && (D.under.D.unders _ (a.ws.map fun w => (a.led w).e) && true)) = true
      rw [unders_map _ (fun w => (a.led w).e) fun _ => rfl]; rfl) (by rw [List.take_left]; exact ok)
  rw [this, List.take_left]
/-! ### trees -/
theorem wipeD_len' (ρ : Rho) : ∀ vs, (wipeD ρ vs).length = ρ.length
  | [] => rfl
  | v :: vs => by unfold wipeD; rw [List.length_set, wipeD_len' ρ vs]
def Sen.dep : Sen → Nat
  | .atom _ => 0
  | .not s => s.dep + 1
  | .two _ a b => max a.dep b.dep + 1
def lcStep2 (Γ : Pr) (own : List Nat) (tg : Tg) (cs : E) (tg1 : Tg) (it1 cs1 elt : E) (ρ : Rho) (x : D) (μ : Sto) : Option (List D × Sto) := (DP.bind Γ tg x (wipeD ρ own) μ).bind fun p =>
  bnd (evT Γ cs p.1 p.2) fun k μ => if k then bnd (evI Γ it1 p.1 μ) fun ys μ => lcLoop ys.2 (fun y μ => (DP.bind Γ tg1 y (wipeD p.1 tg1.sl) μ).bind fun q =>
    bnd (evT Γ cs1 q.1 q.2) fun k μ => if k then bnd (ev Γ elt q.1 μ) fun z μ => some ([z], μ) else some ([], μ)) ys.1 μ else some ([], μ)
theorem ev_lc2 {Γ : Pr} {own : List Nat} {tg tg1 : Tg} {it cs it1 cs1 elt : E} {ρ : Rho} {μ : Sto} {xs : List D} {w : Wt} {g : D → List D} (hi : evI Γ it ρ μ = some ((xs, w), μ)) (hw : watch w μ = true) (hz : (xs.flatMap g).length ≤ sizeLine) (h : ∀ x ∈ xs, lcStep2 Γ own tg cs tg1 it1 cs1 elt ρ x μ = some (g x, μ)) :
    ev Γ (.lc2 false own tg it cs tg1 it1 cs1 elt) ρ μ = some (.lst (xs.flatMap g), μ) := by
  have e := lc_flat (f := lcStep2 Γ own tg cs tg1 it1 cs1 elt ρ) (g := g) hw xs h
  simp only [ev, hi, bnd_some]
  show bnd (lcLoop w (lcStep2 Γ own tg cs tg1 it1 cs1 elt ρ) xs μ) _ = _
  rw [e]
  simp only [bnd_some, DP.alloc, hz, if_true, Bool.false_eq_true, if_false]
theorem lc_id {Γ : Pr} {i : Nat} {ρ : Rho} {μ : Sto} (hi : i < ρ.length) (ys : List D) : lcLoop none (fun y μ => (DP.bind Γ (.one (.n i)) y (wipeD ρ (Tg.one (.n i)).sl) μ).bind fun q => bnd (evT Γ .nil q.1 q.2) fun k μ => if k then bnd (ev Γ (.v i) q.1 μ) fun z μ => some ([z], μ) else some ([], μ)) ys μ = some (ys, μ) := by
  have := lc_map (w := none) (μ := μ) (f := fun y μ => (DP.bind Γ (.one (.n i)) y (wipeD ρ (Tg.one (.n i)).sl) μ).bind fun q => bnd (evT Γ .nil q.1 q.2) fun k μ => if k then bnd (ev Γ (.v i) q.1 μ) fun z μ => some ([z], μ) else some ([], μ)) (g := fun y => y) rfl ys fun y _ => by
    have hl : i < (wipeD ρ (Tg.one (.n i)).sl).length := by rw [wipeD_len']; exact hi
    simp only [DP.bind, storeLeaf, Option.bind_some, evT, bnd_some, if_true, ev, List.getElem?_set_self hl]
  rw [this]; simp

theorem run_atoms (wf : Nat) (μ : Sto) : ∀ (s : Sen) (k : Nat), s.dep < k → s.ats.length ≤ 1000 → (G.pr wf k).call "atoms_of" [s.e] μ = some (.lst (s.ats.map At.e), μ)
  | .atom a, k + 1, h, _ => by
    rw [call_s wf k "atoms_of" (d := d_atoms_of) rfl]
    cases a <;> kernel_rfl
  | .not s, k + 1, h, hl => by
    have ih := run_atoms wf μ s k (by simp only [Sen.dep] at h; omega) hl
    rw [call_s wf k "atoms_of" (d := d_atoms_of) rfl]
    refine run_ret (ρ' := [some (Sen.not s).e, none, none]) rfl rfl (sq (ρ' := [some (Sen.not s).e, none, none]) (μ' := μ) ?_ (sq_ret (s_ret ?_)))
    · kernel_rfl
    · have h0 : evI (G.pr wf k) (.cons (.sl false (.v 0) (.cons (.c (.int 1)) .nil) .noP) .nil) [some (Sen.not s).e, none, none] μ = some (([s.e], none), μ) := by kernel_rfl
      have := ev_lc2 (own := [1, 2]) (tg := .one (.n 1)) (cs := .nil) (tg1 := .one (.n 2)) (it1 := .cons (.call "atoms_of" (.cons (.v 1) .nil)) .nil) (cs1 := .nil) (elt := .v 2) (g := fun _ => s.ats.map At.e) h0 rfl (small (by have hl' : s.ats.length ≤ 1000 := hl; simp; omega)) fun x hx => by
        simp only [List.mem_singleton] at hx
        subst hx
        have e1 : evI (G.pr wf k) (.cons (.call "atoms_of" (.cons (.v 1) .nil)) .nil) [some (Sen.not s).e, some s.e, none] μ = some ((s.ats.map At.e, none), μ) := by
          simp only [evI, e_call (es_1 (e_v (i := 1) (ρ := [some (Sen.not s).e, some s.e, none]) rfl)) ih, bnd_some]
        show (bnd (evI (G.pr wf k) (.cons (.call "atoms_of" (.cons (.v 1) .nil)) .nil) [some (Sen.not s).e, some s.e, none] μ) _) = _
        rw [e1]
        exact lc_id (by show 2 < 3; decide) _
      rw [this]; simp [Sen.ats]
  | .two c a b, k + 1, h, hl => by
    have hd : a.dep < k ∧ b.dep < k := by simp only [Sen.dep] at h; omega
    have hle : a.ats.length ≤ 1000 ∧ b.ats.length ≤ 1000 ∧ a.ats.length + b.ats.length ≤ 1000 := by simp only [Sen.ats, List.length_append] at hl; omega
    have ih1 := run_atoms wf μ a k hd.1 hle.1
    have ih2 := run_atoms wf μ b k hd.2 hle.2.1
    rw [call_s wf k "atoms_of" (d := d_atoms_of) rfl]
    refine run_ret (ρ' := [some (Sen.two c a b).e, none, none]) rfl rfl (sq (ρ' := [some (Sen.two c a b).e, none, none]) (μ' := μ) ?_ (sq_ret (s_ret ?_)))
    · cases c <;> kernel_rfl
    · have h0 : evI (G.pr wf k) (.cons (.sl false (.v 0) (.cons (.c (.int 1)) .nil) .noP) .nil) [some (Sen.two c a b).e, none, none] μ = some (([a.e, b.e], none), μ) := by kernel_rfl
      have step : ∀ (s : Sen), (G.pr wf k).call "atoms_of" [s.e] μ = some (.lst (s.ats.map At.e), μ) → lcStep2 (G.pr wf k) [1, 2] (.one (.n 1)) .nil (.one (.n 2)) (.cons (.call "atoms_of" (.cons (.v 1) .nil)) .nil) .nil (.v 2) [some (Sen.two c a b).e, none, none] s.e μ = some (s.ats.map At.e, μ) := fun s ih => by
        have e1 : evI (G.pr wf k) (.cons (.call "atoms_of" (.cons (.v 1) .nil)) .nil) [some (Sen.two c a b).e, some s.e, none] μ = some ((s.ats.map At.e, none), μ) := by
          simp only [evI, e_call (es_1 (e_v (i := 1) (ρ := [some (Sen.two c a b).e, some s.e, none]) rfl)) ih, bnd_some]
        show (bnd (evI (G.pr wf k) (.cons (.call "atoms_of" (.cons (.v 1) .nil)) .nil) [some (Sen.two c a b).e, some s.e, none] μ) _) = _
        rw [e1]
        exact lc_id (by show 2 < 3; decide) _
      have e1 := step a ih1
      have e2 := step b ih2
      have hz : (a.ats.map At.e ++ b.ats.map At.e).length ≤ sizeLine := small (by simp; omega)
      simp only [ev, h0, bnd_some]
      show bnd (lcLoop none (lcStep2 (G.pr wf k) [1, 2] (.one (.n 1)) .nil (.one (.n 2)) (.cons (.call "atoms_of" (.cons (.v 1) .nil)) .nil) .nil (.v 2) [some (Sen.two c a b).e, none, none]) [a.e, b.e] μ) _ = _
      simp only [lcLoop, e1, e2, bnd_some, watch, if_true, List.append_nil, DP.alloc, hz, Bool.false_eq_true, if_false, Sen.ats, List.map_append]

/-- the first atom -/
def Sen.first : Sen → At
  | .atom a => a
  | .not s => s.first
  | .two _ a _ => a.first
theorem run_many (wf k : Nat) (μ : Sto) (s : Sen) (h : s.dep < wf) (hl : s.first.ws.length ≤ 10) : (G.pr wf (k + 1)).call "many_of" [s.e] μ = some (.int (s.first.ws.length : Nat), μ) := by
  rw [call_s wf k "many_of" (d := d_many_of) rfl]
  have loop : ∀ (s : Sen) (n : Nat), s.dep < n → whileL (evT (G.pr wf k) (.cmp .nmem (.ix (.v 0) (.c (.int 0))) (.tup (.cons (.c (.str "least")) (.cons (.c (.str "rest")) .nil))))) (evS (G.pr wf k) (.seq (.set (.one (.n 0)) (.ix (.v 0) (.c (.int 1)))) .nil)) n [some s.e] μ = some (.next, [some s.first.e], μ) := by
    intro s
    induction s with
    | atom a => intro n hn; cases n with
      | zero => omega
      | succ n => cases a <;> kernel_rfl
    | not s ih => intro n hn; cases n with
      | zero => omega
      | succ n =>
        have ih := ih n (by simp only [Sen.dep] at hn; omega)
        rw [← show whileL _ _ n [some s.e] μ = some (.next, [some (Sen.not s).first.e], μ) from ih]
        kernel_rfl
    | two c a b iha ihb => intro n hn; cases n with
      | zero => omega
      | succ n =>
        have ih := iha n (by simp only [Sen.dep] at hn; omega)
        rw [← show whileL _ _ n [some a.e] μ = some (.next, [some (Sen.two c a b).first.e], μ) from ih]
        cases c <;> kernel_rfl
  have lw : evS (G.pr wf k) (.whl (.cmp .nmem (.ix (.v 0) (.c (.int 0))) (.tup (.cons (.c (.str "least")) (.cons (.c (.str "rest")) .nil)))) (.seq (.set (.one (.n 0)) (.ix (.v 0) (.c (.int 1)))) .nil)) [some s.e] μ = some (.next, [some s.first.e], μ) := by
    simp only [evS]
    exact loop s wf h
  have hix : ixD s.first.e (.int 1) μ = some (.tup (s.first.ws.map .int)) := by cases s.first <;> rfl
  refine run_ret (ρ' := [some s.first.e]) rfl rfl (sq lw (sq_ret (s_ret (e_bi (es_1 (e_ix (e_v rfl) e_c hix)) ?_))))
  simp only [biD, items, Option.map_some, List.length_map]
theorem e_mt {Γ : Pr} {k : Bi} {a b : E} {ρ : Rho} {μ μ1 μ2 μ3 : Sto} {d d1 : D} {ds : List D} (h1 : ev Γ a ρ μ = some (d1, μ1)) (hl : (listed d1 μ1).isSome = true) (h2 : evs Γ b ρ μ1 = some (ds, μ2)) (h : biD k false (d1 :: ds) μ2 = some (d, μ3)) : ev Γ (.mt k a b) ρ μ = some (d, μ3) := by
  simp only [ev, h1, bnd_some, hl, if_true, h2, h]
theorem bi_pop {m : Nat} {μ : Sto} {x : D} {xs : List D} (hm : μ[m]? = some (.lst (x :: xs))) : biD .pop0 false [.cell m, .int 0] μ = some (x, μ.set m (.lst xs)) := by
  have e : seqIndex? 0 (x :: xs).length = some 0 := by simp [seqIndex?]
  simp only [biD, hm]
  rw [if_pos (by decide), e]
  rfl
theorem listed_at {m : Nat} {μ : Sto} {xs : List D} (hm : μ[m]? = some (.lst xs)) : (listed (.cell m) μ).isSome = true := by simp only [listed, hm]; rfl
def truthC : E := .lc false [5] (.one (.n 5)) (.cons (.v 3) .nil) .nil (.call "truth_of" (.cons (.v 5) (.cons (.v 1) .nil)))
def truthR : S := .seq (.ife (.cmp .eq (.v 2) (.c (.str "not"))) (.seq (.ret (.not (.ix (.v 4) (.c (.int 0))))) .nil) .nil) (.seq (.ret (.ife (.cmp .eq (.v 2) (.c (.str "and"))) (.bi .all false (.cons (.v 4) .nil)) (.bi .any false (.cons (.v 4) .nil)))) .nil)
/-- what a sentence says -/
theorem run_truth (wf : Nat) : ∀ (s : Sen) (k m : Nat) (μ : Sto) (bs : List Bool) (b : Bool) (rest : List Bool), s.dep < k → μ[m]? = some (.lst (bs.map D.bl)) → s.say bs = some (b, rest) →
    (G.pr wf k).call "truth_of" [s.e, .cell m] μ = some (.bl b, μ.set m (.lst (rest.map D.bl)))
  | .atom a, k + 1, m, μ, bs, b, rest, h, hm, hs => by
    cases bs with
    | nil => cases hs
    | cons b' bs =>
      simp only [Sen.say, Option.some.injEq, Prod.mk.injEq] at hs
      obtain ⟨rfl, rfl⟩ := hs
      rw [call_s wf k "truth_of" (d := d_truth_of) rfl]
      have hp : ∀ R : Rho, R[1]? = some (some (.cell m)) → ev (G.pr wf k) (.mt .pop0 (.v 1) (.cons (.c (.int 0)) .nil)) R μ = some (.bl b', μ.set m (.lst (bs.map D.bl))) := fun R hR => e_mt (e_v hR) (listed_at hm) (es_1 e_c) (bi_pop hm)
      cases a with
      | least ws c =>
        refine run_ret (ρ' := [some (At.least ws c).e, some (.cell m), some (.str "least"), some (.lst [.tup (ws.map .int), .int c]), none, none]) rfl rfl (sq (ρ' := [some (At.least ws c).e, some (.cell m), some (.str "least"), some (.lst [.tup (ws.map .int), .int c]), none, none]) (μ' := μ) (by kernel_rfl) (sq_ret ?_))
        rw [s_if (k := true) (μ' := μ) (by kernel_rfl)]
        exact sq_ret (s_ret (hp _ rfl))
      | rest ws w r =>
        refine run_ret (ρ' := [some (At.rest ws w r).e, some (.cell m), some (.str "rest"), some (.lst [.tup (ws.map .int), .int (Int.ofNat (w + 1)), .int r]), none, none]) rfl rfl (sq (ρ' := [some (At.rest ws w r).e, some (.cell m), some (.str "rest"), some (.lst [.tup (ws.map .int), .int (Int.ofNat (w + 1)), .int r]), none, none]) (μ' := μ) (by kernel_rfl) (sq_ret ?_))
        rw [s_if (k := true) (μ' := μ) (by kernel_rfl)]
        exact sq_ret (s_ret (hp _ rfl))
  | .not s, k + 1, m, μ, bs, b, rest, h, hm, hs => by
    simp only [Sen.say] at hs
    obtain ⟨⟨b1, r1⟩, h1, h2⟩ := Option.map_eq_some_iff.mp hs
    cases h2
    have ih := run_truth wf s k m μ bs b1 r1 (by simp only [Sen.dep] at h; omega) hm h1
    rw [call_s wf k "truth_of" (d := d_truth_of) rfl]
    have hc : ev (G.pr wf k) truthC [some (Sen.not s).e, some (.cell m), some (.str "not"), some (.lst [s.e]), none, none] μ = some (.lst [.bl b1], μ.set m (.lst (r1.map D.bl))) := by
      have e1 : lcStep (G.pr wf k) [5] (.one (.n 5)) .nil (.call "truth_of" (.cons (.v 5) (.cons (.v 1) .nil))) [some (Sen.not s).e, some (.cell m), some (.str "not"), some (.lst [s.e]), none, none] s.e μ = some ([.bl b1], μ.set m (.lst (r1.map D.bl))) := by
        have := e_call (Γ := G.pr wf k) (f := "truth_of") (es_2 (e_v (i := 5) (ρ := [some (Sen.not s).e, some (.cell m), some (.str "not"), some (.lst [s.e]), none, some s.e]) (μ := μ) rfl) (e_v (i := 1) rfl)) ih
        show (bnd (ev (G.pr wf k) (.call "truth_of" (.cons (.v 5) (.cons (.v 1) .nil))) [some (Sen.not s).e, some (.cell m), some (.str "not"), some (.lst [s.e]), none, some s.e] μ) fun y μ => some ([y], μ)) = _
        rw [this]; rfl
      simp only [truthC, ev, evI, List.getElem?_cons_succ, List.getElem?_cons_zero, bnd_some]
      show bnd (lcLoop none (lcStep (G.pr wf k) [5] (.one (.n 5)) .nil (.call "truth_of" (.cons (.v 5) (.cons (.v 1) .nil))) _) [s.e] μ) _ = _
      simp only [lcLoop, e1, bnd_some, watch, if_true]
      rfl
    refine run_ret (ρ' := [some (Sen.not s).e, some (.cell m), some (.str "not"), some (.lst [s.e]), some (.lst [.bl b1]), none]) rfl rfl (sq (ρ' := [some (Sen.not s).e, some (.cell m), some (.str "not"), some (.lst [s.e]), none, none]) (μ' := μ) (by kernel_rfl)
      (sq (ρ' := [some (Sen.not s).e, some (.cell m), some (.str "not"), some (.lst [s.e]), none, none]) (μ' := μ) (by kernel_rfl) (sq (s_set hc) (sq_ret ?_))))
    kernel_rfl
  | .two c x y, k + 1, m, μ, bs, b, rest, h, hm, hs => by
    simp only [Sen.say] at hs
    obtain ⟨⟨b1, r1⟩, h1, hs⟩ := Option.bind_eq_some_iff.mp hs
    obtain ⟨⟨b2, r2⟩, h2, h3⟩ := Option.map_eq_some_iff.mp hs
    cases h3
    have hd : x.dep < k ∧ y.dep < k := by simp only [Sen.dep] at h; omega
    have ih1 := run_truth wf x k m μ bs b1 r1 hd.1 hm h1
    have ih2 := run_truth wf y k m (μ.set m (.lst (r1.map D.bl))) r1 b2 r2 hd.2 (set_at hm) h2
    rw [List.set_set] at ih2
    rw [call_s wf k "truth_of" (d := d_truth_of) rfl]
    let W : D := .str (if c then "and" else "or")
    have st : ∀ (s : Sen) (μ1 μ2 : Sto) (b : Bool), (G.pr wf k).call "truth_of" [s.e, .cell m] μ1 = some (.bl b, μ2) → lcStep (G.pr wf k) [5] (.one (.n 5)) .nil (.call "truth_of" (.cons (.v 5) (.cons (.v 1) .nil))) [some (Sen.two c x y).e, some (.cell m), some W, some (.lst [x.e, y.e]), none, none] s.e μ1 = some ([.bl b], μ2) := fun s μ1 μ2 b ih => by
      have := e_call (Γ := G.pr wf k) (f := "truth_of") (es_2 (e_v (i := 5) (ρ := [some (Sen.two c x y).e, some (.cell m), some W, some (.lst [x.e, y.e]), none, some s.e]) (μ := μ1) rfl) (e_v (i := 1) rfl)) ih
      show (bnd (ev (G.pr wf k) (.call "truth_of" (.cons (.v 5) (.cons (.v 1) .nil))) [some (Sen.two c x y).e, some (.cell m), some W, some (.lst [x.e, y.e]), none, some s.e] μ1) fun y μ => some ([y], μ)) = _
      rw [this]; rfl
    have hc : ev (G.pr wf k) truthC [some (Sen.two c x y).e, some (.cell m), some W, some (.lst [x.e, y.e]), none, none] μ = some (.lst [.bl b1, .bl b2], μ.set m (.lst (r2.map D.bl))) := by
      simp only [truthC, ev, evI, List.getElem?_cons_succ, List.getElem?_cons_zero, bnd_some]
      show bnd (lcLoop none (lcStep (G.pr wf k) [5] (.one (.n 5)) .nil (.call "truth_of" (.cons (.v 5) (.cons (.v 1) .nil))) _) [x.e, y.e] μ) _ = _
      simp only [lcLoop, st x _ _ _ ih1, st y _ _ _ ih2, bnd_some, watch, if_true]
      rfl
    refine run_ret (ρ' := [some (Sen.two c x y).e, some (.cell m), some W, some (.lst [x.e, y.e]), some (.lst [.bl b1, .bl b2]), none]) rfl rfl (sq (ρ' := [some (Sen.two c x y).e, some (.cell m), some W, some (.lst [x.e, y.e]), none, none]) (μ' := μ) (by kernel_rfl)
      (sq (ρ' := [some (Sen.two c x y).e, some (.cell m), some W, some (.lst [x.e, y.e]), none, none]) (μ' := μ) (by cases c <;> kernel_rfl) (sq (s_set hc) ?_)))
    cases c <;> cases b1 <;> cases b2 <;> kernel_rfl

theorem b62 {i : Int} (h1 : -1000000 ≤ i) (h2 : i ≤ 1000000) : -(2 ^ 62) ≤ i ∧ i < 2 ^ 62 := ⟨Int.le_trans (by decide) h1, Int.lt_of_le_of_lt h2 (by decide)⟩
theorem i_rng {Γ : Pr} {a b : E} {ρ : Rho} {μ μ1 μ2 : Sto} {i j : Int} (h1 : ev Γ a ρ μ = some (.int i, μ1)) (h2 : ev Γ b ρ μ1 = some (.int j, μ2)) (hi : -(2 ^ 62) ≤ i ∧ i < 2 ^ 62) (hj : -(2 ^ 62) ≤ j ∧ j < 2 ^ 62) :
    evI Γ (.rng a b) ρ μ = some (((List.range (j - i).toNat).map fun (k : Nat) => D.int (i + (k : Int)), none), μ2) := by
  simp only [evI, h1, bnd_some, h2]
  rw [if_pos ⟨hi.1, hi.2, hj.1, hj.2⟩]
/-- of small numbers -/
def Small (a : At) : Prop := (∀ w ∈ a.ws, -10 ≤ w ∧ w ≤ 10) ∧ (match a with | .least _ b => -10 ≤ b ∧ b ≤ 10 | .rest _ _ _ => True)
/-! ### what the law draws -/
def tp (μ : Sto) (m : Nat) (v : Int) : Sto := μ.set m (.lst [.int v])
theorem tp_at {μ : Sto} {m : Nat} (h : m < μ.length) (v : Int) : (tp μ m v)[m]? = some (.lst [.int v]) := List.getElem?_set_self h
theorem tp_tp (μ : Sto) (m : Nat) (v w : Int) : (tp μ m v).set m (.lst [.int w]) = tp μ m w := List.set_set ..
section
variable (wf : Nat) {μ : Sto} {m : Nat} (hm : m < μ.length)
include hm
theorem digit (k : Nat) (v : Int) {t : Int} (h1 : 0 < t) (h2 : t < 1073741824) : ∃ (d v' : Int), 0 ≤ d ∧ d < t ∧ (G.pr wf (k + 1)).call "_law_digit" [.cell m, .int t] (tp μ m v) = some (.int d, tp μ m v') :=
  ⟨v.fmod t, v.fdiv t, Int.fmod_nonneg_of_pos _ h1, Int.fmod_lt_of_pos _ h1, by rw [run_digit wf k (tp_at hm v) h1 h2, tp_tp]⟩
def wTab : List D := [.int 1, .int (-1), .int 0, .int 2, .int (-2), .int 3, .int 1, .int 1]
omit hm in
theorem wTab_at (d : Int) (h1 : 0 ≤ d) (h2 : d < 8) (μ : Sto) : ∃ w : Int, (-10 ≤ w ∧ w ≤ 10) ∧ ixD (.lst wTab) (.int d) μ = some (.int w) := by
  have : d = 0 ∨ d = 1 ∨ d = 2 ∨ d = 3 ∨ d = 4 ∨ d = 5 ∨ d = 6 ∨ d = 7 := by omega
  rcases this with rfl | rfl | rfl | rfl | rfl | rfl | rfl | rfl <;> refine ⟨_, ?_, rfl⟩ <;> decide
def wE : E := .ix (.lst false (.cons (.c (.int 1)) (.cons (.neg (.c (.int 1))) (.cons (.c (.int 0)) (.cons (.c (.int 2)) (.cons (.neg (.c (.int 2))) (.cons (.c (.int 3)) (.cons (.c (.int 1)) (.cons (.c (.int 1)) .nil))))))))) (.call "_law_digit" (.cons (.v 0) (.cons (.c (.int 8)) .nil)))
theorem weights (k : Nat) (v : Int) (t : Nat) (ht : t ≤ 10) : ∃ (ws : List Int) (v' : Int), ws.length = t ∧ (∀ w ∈ ws, -10 ≤ w ∧ w ≤ 10) ∧ (G.pr wf (k + 2)).call "_law_weights" [.cell m, .int (t : Nat)] (tp μ m v) = some (.tup (ws.map D.int), tp μ m v') := by
  have loop : ∀ (xs : List D) (v : Int), ∃ (ws : List Int) (v' : Int), ws.length = xs.length ∧ (∀ w ∈ ws, -10 ≤ w ∧ w ≤ 10) ∧ lcLoop none (lcStep (G.pr wf (k + 1)) [2] (.one (.n 2)) .nil wE [some (.cell m), some (.int (t : Nat)), none]) xs (tp μ m v) = some (ws.map D.int, tp μ m v') := by
    intro xs
    induction xs with
    | nil => exact fun v => ⟨[], v, rfl, by simp, rfl⟩
    | cons x xs ih =>
      intro v
      obtain ⟨d, v1, d1, d2, e1⟩ := digit wf hm k v (t := 8) (by omega) (by omega)
      obtain ⟨w, hw, e2⟩ := wTab_at d d1 d2 (tp μ m v1)
      obtain ⟨ws, v2, l, hb, e3⟩ := ih v1
      refine ⟨w :: ws, v2, by simp [l], fun q hq => (List.mem_cons.mp hq).elim (fun e => e ▸ hw) (hb q), ?_⟩
      have e4 : ev (G.pr wf (k + 1)) wE [some (.cell m), some (.int (t : Nat)), some x] (tp μ m v) = some (.int w, tp μ m v1) :=
        e_ix (d1 := .lst wTab) (μ1 := tp μ m v) (by kernel_rfl) (e_call (es_2 (e_v rfl) e_c) e1) e2
      have e5 : lcStep (G.pr wf (k + 1)) [2] (.one (.n 2)) .nil wE [some (.cell m), some (.int (t : Nat)), none] x (tp μ m v) = some ([.int w], tp μ m v1) := by
        show (bnd (ev (G.pr wf (k + 1)) wE [some (.cell m), some (.int (t : Nat)), some x] (tp μ m v)) fun y μ => some ([y], μ)) = _
        rw [e4]; rfl
      simp only [lcLoop, e5, bnd_some, watch, if_true, e3, List.map_cons]
      rfl
  obtain ⟨ws, v', l, hb, e⟩ := loop ((List.range ((t : Int) - 0).toNat).map fun (k : Nat) => D.int (0 + (k : Int))) v
  have l : ws.length = t := by simpa using l
  refine ⟨ws, v', l, hb, ?_⟩
  rw [call_s wf (k + 1) "_law_weights" (d := d__law_weights) rfl]
  have hi : evI (G.pr wf (k + 1)) (.rng (.c (.int 0)) (.v 1)) [some (.cell m), some (.int (t : Nat)), none] (tp μ m v) = some (((List.range ((t : Int) - 0).toNat).map fun (k : Nat) => D.int (0 + (k : Int)), none), tp μ m v) := by
    exact i_rng e_c (e_v rfl) (b62 (by omega) (by omega)) (b62 (by omega) (by omega))
  have hz : (ws.map D.int).length ≤ sizeLine := small (by simp; omega)
  have hc : ev (G.pr wf (k + 1)) (.lc false [2] (.one (.n 2)) (.rng (.c (.int 0)) (.v 1)) .nil wE) [some (.cell m), some (.int (t : Nat)), none] (tp μ m v) = some (.lst (ws.map D.int), tp μ m v') := by
    simp only [ev, hi, bnd_some]
    show bnd (lcLoop none (lcStep (G.pr wf (k + 1)) [2] (.one (.n 2)) .nil wE _) _ _) _ = _
    rw [e]
    simp only [bnd_some, DP.alloc, hz, if_true, Bool.false_eq_true, if_false]
  exact run_retX [some (.cell m), some (.int (t : Nat)), none] rfl rfl rfl (sq_ret (s_ret (e_bi (es_1 hc) (by simp only [biD, listed, Option.map_some]))))
omit hm in
theorem tab5 (xs : List D) (h : xs.length = 5) (d : Int) (h1 : 0 ≤ d) (h2 : d < 5) (μ : Sto) : ∃ w ∈ xs, ixD (.lst xs) (.int d) μ = some w := by
  match xs, h with
  | [a, b, c, e, f], _ =>
    have : d = 0 ∨ d = 1 ∨ d = 2 ∨ d = 3 ∨ d = 4 := by omega
    rcases this with rfl | rfl | rfl | rfl | rfl
    · exact ⟨a, by simp, rfl⟩
    · exact ⟨b, by simp, rfl⟩
    · exact ⟨c, by simp, rfl⟩
    · exact ⟨e, by simp, rfl⟩
    · exact ⟨f, by simp, rfl⟩
theorem atom (k : Nat) (v : Int) (t : Nat) (ht : t ≤ 10) : ∃ (a : At) (v' : Int), a.ws.length = t ∧ Small a ∧ (G.pr wf (k + 3)).call "_law_atom" [.cell m, .int (t : Nat)] (tp μ m v) = some (a.e, tp μ m v') := by
  rw [call_s wf (k + 2) "_law_atom" (d := d__law_atom) rfl]
  obtain ⟨d, v1, d1, d2, e1⟩ := digit wf hm (k + 1) v (t := 2) (by omega) (by omega)
  have hc : evT (G.pr wf (k + 2)) (.cmp .eq (.call "_law_digit" (.cons (.v 0) (.cons (.c (.int 2)) .nil))) (.c (.int 0))) [some (.cell m), some (.int (t : Nat)), none] (tp μ m v) = some (d == 0, tp μ m v1) :=
    t_cmp (e_call (es_2 (e_v rfl) e_c) e1) e_c (by kernel_rfl)
  by_cases h0 : d = 0
  · have hd : (d == 0) = true := by simp [h0]
    rw [hd] at hc
    obtain ⟨ws, v2, l, hb, e2⟩ := weights wf hm k v1 t ht
    obtain ⟨d', v3, d3, d4, e3⟩ := digit wf hm (k + 1) v2 (t := 5) (by omega) (by omega)
    obtain ⟨w, hw, e4⟩ := tab5 [.int 1, .int 0, .int 2, .int (-1), .int 3] rfl d' d3 d4 (tp μ m v3)
    obtain ⟨b, rfl⟩ : ∃ b, w = .int b := by simp only [List.mem_cons, List.not_mem_nil, or_false] at hw; rcases hw with h | h | h | h | h <;> exact ⟨_, h⟩
    have hbb : -10 ≤ b ∧ b ≤ 10 := by simp at hw; omega
    refine ⟨.least ws b, v3, l, ⟨hb, hbb⟩, run_retX [some (.cell m), some (.int (t : Nat)), none] rfl rfl rfl (sq_ret (ρ' := [some (.cell m), some (.int (t : Nat)), none]) ?_)⟩
    rw [s_if hc, if_pos rfl]
    refine sq_ret (s_ret (e_tup (ds := [.str "least", .tup (ws.map .int), .int b]) (es_cons e_c (es_2 (e_call (es_2 (e_v rfl) (e_v rfl)) e2) (e_ix (d1 := .lst [.int 1, .int 0, .int 2, .int (-1), .int 3]) (μ1 := tp μ m v2) (by kernel_rfl) (e_call (es_2 (e_v rfl) e_c) e3) e4))) (small (by simp))))
  · obtain ⟨d', v2, d3, d4, e3⟩ := digit wf hm (k + 1) v1 (t := 5) (by omega) (by omega)
    obtain ⟨w, hw, e4⟩ := tab5 [.int 2, .int 3, .int 2, .int 4, .int 5] rfl d' d3 d4 (tp μ m v2)
    obtain ⟨b, hwb, hb⟩ : ∃ b : Nat, w = .int (Int.ofNat (b + 1)) ∧ b < 10 := by
      simp only [List.mem_cons, List.not_mem_nil, or_false] at hw
      rcases hw with h | h | h | h | h
      · exact ⟨1, h, by omega⟩
      · exact ⟨2, h, by omega⟩
      · exact ⟨1, h, by omega⟩
      · exact ⟨3, h, by omega⟩
      · exact ⟨4, h, by omega⟩
    subst hwb
    obtain ⟨ws, v3, l, hb', e5⟩ := weights wf hm k v2 t ht
    obtain ⟨r, v4, d5, d6, e6⟩ := digit wf hm (k + 1) v3 (t := Int.ofNat (b + 1)) (by have e : Int.ofNat (b + 1) = (b : Int) + 1 := rfl; omega) (by have e : Int.ofNat (b + 1) = (b : Int) + 1 := rfl; omega)
    refine ⟨.rest ws b r, v4, l, ⟨hb', trivial⟩, run_retX [some (.cell m), some (.int (t : Nat)), none] (ρ' := [some (.cell m), some (.int (t : Nat)), some (.int (Int.ofNat (b + 1)))]) rfl rfl rfl (sq (ρ' := [some (.cell m), some (.int (t : Nat)), none]) (μ' := tp μ m v1) ?_ (sq (ρ' := [some (.cell m), some (.int (t : Nat)), some (.int (Int.ofNat (b + 1)))]) (μ' := tp μ m v2) (s_set (e_ix (d1 := .lst [.int 2, .int 3, .int 2, .int 4, .int 5]) (μ1 := tp μ m v1) (by kernel_rfl) (e_call (es_2 (e_v rfl) e_c) e3) e4)) (sq_ret ?_)))⟩
    · have : (d == 0) = false := by simp [h0]
      rw [this] at hc
      rw [s_if hc, if_neg Bool.false_ne_true]
      rfl
    · exact s_ret (e_tup (ds := [.str "rest", .tup (ws.map .int), .int (Int.ofNat (b + 1)), .int r]) (es_cons e_c (es_cons (e_call (es_2 (e_v rfl) (e_v rfl)) e5) (es_2 (e_v rfl) (e_call (es_2 (e_v rfl) (e_v rfl)) e6)))) (small (by simp)))
omit hm in
theorem c_eqI (Γ : Pr) (i j : Int) (μ : Sto) : cmpD Γ .eq (.int i) (.int j) μ = some (i == j, μ) := by kernel_rfl
omit hm in
theorem t_or {Γ : Pr} {a b : E} {ρ : Rho} {μ μ1 : Sto} {x y : Bool} (h1 : evT Γ a ρ μ = some (x, μ1)) (h2 : evT Γ b ρ μ1 = some (y, μ1)) : evT Γ (.or a b) ρ μ = some (x || y, μ1) := by
  cases x with
  | true => simp only [evT, h1, bnd_some, if_true, Bool.true_or]
  | false => simp only [evT, h1, bnd_some, Bool.false_eq_true, if_false, h2, Bool.false_or]
/-- a sentence of at most p parts, at most e deep -/
theorem wide (t : Nat) (ht : t ≤ 10) : ∀ (e k : Nat) (v : Int) (p : Nat), 1 ≤ p → p ≤ 20 → ∃ (s : Sen) (v' : Int), (∀ a ∈ s.ats, a.ws.length = t ∧ Small a) ∧ s.dep ≤ e ∧ 1 ≤ s.ats.length ∧ s.ats.length ≤ p ∧
    (G.pr wf (k + e + 4)).call "_law_wide_sentence" [.cell m, .int (t : Nat), .int (p : Nat), .int (e : Nat)] (tp μ m v) = some (s.e, tp μ m v') := by
  intro e
  induction e with
  | zero =>
    intro k v p hp1 hp2
    obtain ⟨d, v1, d1, d2, e1⟩ := digit wf hm (k + 2) v (t := 6) (by omega) (by omega)
    obtain ⟨a, v2, l, sm, e2⟩ := atom wf hm k v1 t ht
    refine ⟨.atom a, v2, by simp [Sen.ats, l, sm], Nat.le_refl _, by simp [Sen.ats], by simp [Sen.ats]; omega, ?_⟩
    rw [call_s wf (k + 0 + 3) "_law_wide_sentence" (d := d__law_wide_sentence) rfl]
    let R : Rho := [some (.cell m), some (.int (t : Nat)), some (.int (p : Nat)), some (.int ((0 : Nat) : Int)), some (.int d), none, none, none]
    have hc : evT (G.pr wf (k + 3)) (.or (.cmp .eq (.v 2) (.c (.int 1))) (.cmp .eq (.v 3) (.c (.int 0)))) R (tp μ m v1) = some (true, tp μ m v1) := by
      have := t_or (Γ := G.pr wf (k + 3)) (ρ := R) (t_cmp (e_v (i := 2) rfl) e_c (c_eqI _ (p : Nat) 1 (tp μ m v1))) (t_cmp (e_v (i := 3) rfl) e_c (c_eqI _ ((0 : Nat) : Int) 0 (tp μ m v1)))
      simpa using this
    refine run_retX [some (.cell m), some (.int (t : Nat)), some (.int (p : Nat)), some (.int ((0 : Nat) : Int)), none, none, none, none] (ρ' := R) rfl rfl rfl (sq (ρ' := R) (μ' := tp μ m v1) (s_set (e_call (es_2 (e_v rfl) e_c) e1)) (sq_ret ?_))
    rw [s_if hc, if_pos rfl]
    exact sq_ret (s_ret (e_call (es_2 (e_v rfl) (e_v rfl)) e2))
  | succ e ih =>
    intro k v p hp1 hp2
    obtain ⟨d, v1, d1, d2, e1⟩ := digit wf hm (k + e + 3) v (t := 6) (by omega) (by omega)
    rw [show k + (e + 1) + 4 = (k + e + 4) + 1 by omega]
    simp only [call_s wf (k + e + 4) "_law_wide_sentence" (d := d__law_wide_sentence) rfl]
    let R : Rho := [some (.cell m), some (.int (t : Nat)), some (.int (p : Nat)), some (.int ((e + 1 : Nat) : Int)), some (.int d), none, none, none]
    have hset : evS (G.pr wf (k + e + 4)) (.set (.one (.n 4)) (.call "_law_digit" (.cons (.v 0) (.cons (.c (.int 6)) .nil)))) [some (.cell m), some (.int (t : Nat)), some (.int (p : Nat)), some (.int ((e + 1 : Nat) : Int)), none, none, none, none] (tp μ m v) = some (.next, R, tp μ m v1) := s_set (e_call (es_2 (e_v rfl) e_c) e1)
    have hc : evT (G.pr wf (k + e + 4)) (.or (.cmp .eq (.v 2) (.c (.int 1))) (.cmp .eq (.v 3) (.c (.int 0)))) R (tp μ m v1) = some (((p : Int) == 1), tp μ m v1) := by
      have := t_or (Γ := G.pr wf (k + e + 4)) (ρ := R) (t_cmp (e_v (i := 2) rfl) e_c (c_eqI _ (p : Nat) 1 (tp μ m v1))) (t_cmp (e_v (i := 3) rfl) e_c (c_eqI _ ((e + 1 : Nat) : Int) 0 (tp μ m v1)))
      have h0 : (((e + 1 : Nat) : Int) == 0) = false := by simp; omega
      rw [h0, Bool.or_false] at this
      exact this
    have hsub : ∀ (R : Rho) (μ1 : Sto), R[3]? = some (some (.int ((e + 1 : Nat) : Int))) → ev (G.pr wf (k + e + 4)) (.bin .sub (.v 3) (.c (.int 1))) R μ1 = some (.int (e : Nat), μ1) := fun R μ1 h => e_bin (e_v h) e_c (by show some (D.int (((e + 1 : Nat) : Int) - 1)) = _; congr 2; omega)
    by_cases hp : p = 1
    · have h1 : ((p : Int) == 1) = true := by simp [hp]
      rw [h1] at hc
      obtain ⟨a, v2, l, sm, e2⟩ := atom wf hm (k + e + 1) v1 t ht
      refine ⟨.atom a, v2, by simp [Sen.ats, l, sm], by simp [Sen.dep], by simp [Sen.ats], by simp [Sen.ats]; omega, ?_⟩
      refine run_retX [some (.cell m), some (.int (t : Nat)), some (.int (p : Nat)), some (.int ((e + 1 : Nat) : Int)), none, none, none, none] (ρ' := R) rfl rfl rfl (sq (ρ' := R) (μ' := tp μ m v1) hset (sq_ret ?_))
      rw [s_if hc, if_pos rfl]
      exact sq_ret (s_ret (e_call (es_2 (e_v rfl) (e_v rfl)) e2))
    · have h1 : ((p : Int) == 1) = false := by simp; omega
      rw [h1] at hc
      have hd : evT (G.pr wf (k + e + 4)) (.cmp .eq (.v 4) (.c (.int 0))) R (tp μ m v1) = some (d == 0, tp μ m v1) := t_cmp (e_v rfl) e_c (c_eqI _ d 0 _)
      by_cases h0 : d = 0
      · have hd1 : (d == 0) = true := by simp [h0]
        rw [hd1] at hd
        obtain ⟨s, v2, g1, g2, g3, g4, e2⟩ := ih k v1 p hp1 hp2
        refine ⟨.not s, v2, g1, by simp only [Sen.dep]; omega, g3, g4, ?_⟩
        refine run_retX [some (.cell m), some (.int (t : Nat)), some (.int (p : Nat)), some (.int ((e + 1 : Nat) : Int)), none, none, none, none] (ρ' := R) rfl rfl rfl (sq (ρ' := R) (μ' := tp μ m v1) hset (sq (ρ' := R) (μ' := tp μ m v1) ?_ (sq_ret ?_)))
        · rw [s_if hc, if_neg Bool.false_ne_true]; rfl
        · rw [s_if hd, if_pos rfl]
          exact sq_ret (s_ret (e_tup (ds := [.str "not", s.e]) (es_2 e_c (e_call (es_cons (e_v rfl) (es_cons (e_v rfl) (es_2 (e_v rfl) (hsub _ _ rfl)))) e2)) (small (by simp))))
      · have hd1 : (d == 0) = false := by simp [h0]
        rw [hd1] at hd
        obtain ⟨d', v2, d3, d4, e3⟩ := digit wf hm (k + e + 3) v1 (t := (p : Int) - 1) (by omega) (by omega)
        obtain ⟨n, hn⟩ : ∃ n : Nat, (n : Int) = 1 + d' := ⟨(1 + d').toNat, by omega⟩
        obtain ⟨x, v3, g1, g2, g3, g4, e4⟩ := ih k v2 n (by omega) (by omega)
        obtain ⟨y, v4, q1, q2, q3, q4, e5⟩ := ih k v3 (p - n) (by omega) (by omega)
        have hpn : ((p - n : Nat) : Int) = (p : Int) - (n : Int) := by omega
        let c : Bool := d.fmod 2 == 0
        have hw : ixD (.lst [.str "and", .str "or"]) (.int (d.fmod 2)) (tp μ m v4) = some (.str (if c then "and" else "or")) := by
          have : d.fmod 2 = 0 ∨ d.fmod 2 = 1 := by
            have := Int.fmod_nonneg_of_pos d (show (0 : Int) < 2 by omega)
            have := Int.fmod_lt_of_pos d (show (0 : Int) < 2 by omega)
            omega
          rcases this with h | h
          · have hc : c = true := by simp [c, h]
            rw [h, hc]; rfl
          · have hc : c = false := by simp [c, h]
            rw [h, hc]; rfl
        refine ⟨.two c x y, v4, ?_, by simp only [Sen.dep]; omega, by simp only [Sen.ats, List.length_append]; omega, by simp only [Sen.ats, List.length_append]; omega, ?_⟩
        · intro a ha
          simp only [Sen.ats, List.mem_append] at ha
          exact ha.elim (g1 a) (q1 a)
        · let R5 : Rho := [some (.cell m), some (.int (t : Nat)), some (.int (p : Nat)), some (.int ((e + 1 : Nat) : Int)), some (.int d), some (.int (n : Int)), none, none]
          let R6 : Rho := [some (.cell m), some (.int (t : Nat)), some (.int (p : Nat)), some (.int ((e + 1 : Nat) : Int)), some (.int d), some (.int (n : Int)), some x.e, none]
          let R7 : Rho := [some (.cell m), some (.int (t : Nat)), some (.int (p : Nat)), some (.int ((e + 1 : Nat) : Int)), some (.int d), some (.int (n : Int)), some x.e, some y.e]
          have s5 : evS (G.pr wf (k + e + 4)) (.set (.one (.n 5)) (.bin .add (.c (.int 1)) (.call "_law_digit" (.cons (.v 0) (.cons (.bin .sub (.v 2) (.c (.int 1))) .nil))))) R (tp μ m v1) = some (.next, R5, tp μ m v2) := by
            have := s_set (i := 5) (e_bin (Γ := G.pr wf (k + e + 4)) (o := .add) (d := .int (n : Int)) (ρ := R) (e_c (d := .int 1)) (e_call (es_2 (e_v (i := 0) rfl) (e_bin (o := .sub) (d := .int ((p : Int) - 1)) (e_v (i := 2) rfl) (e_c (d := .int 1)) rfl)) e3) (by rw [hn]; rfl))
            exact this
          have s6 : evS (G.pr wf (k + e + 4)) (.set (.one (.n 6)) (.call "_law_wide_sentence" (.cons (.v 0) (.cons (.v 1) (.cons (.v 5) (.cons (.bin .sub (.v 3) (.c (.int 1))) .nil)))))) R5 (tp μ m v2) = some (.next, R6, tp μ m v3) :=
            s_set (e_call (es_cons (e_v rfl) (es_cons (e_v rfl) (es_2 (e_v rfl) (hsub _ _ rfl)))) e4)
          have s7 : evS (G.pr wf (k + e + 4)) (.set (.one (.n 7)) (.call "_law_wide_sentence" (.cons (.v 0) (.cons (.v 1) (.cons (.bin .sub (.v 2) (.v 5)) (.cons (.bin .sub (.v 3) (.c (.int 1))) .nil)))))) R6 (tp μ m v3) = some (.next, R7, tp μ m v4) :=
            s_set (e_call (es_cons (e_v rfl) (es_cons (e_v rfl) (es_2 (e_bin (o := .sub) (d1 := .int (p : Int)) (d2 := .int (n : Int)) (e_v rfl) (e_v rfl) (by rw [hpn]; rfl)) (hsub _ _ rfl)))) e5)
          refine run_retX [some (.cell m), some (.int (t : Nat)), some (.int (p : Nat)), some (.int ((e + 1 : Nat) : Int)), none, none, none, none] (ρ' := R7) rfl rfl rfl (sq (ρ' := R) (μ' := tp μ m v1) hset (sq (ρ' := R) (μ' := tp μ m v1) ?_ (sq (ρ' := R) (μ' := tp μ m v1) ?_ (sq s5 (sq s6 (sq s7 (sq_ret (s_ret (e_tup (ds := [.str (if c then "and" else "or"), x.e, y.e]) (es_cons (e_ix (d1 := .lst [.str "and", .str "or"]) (μ1 := tp μ m v4) (by kernel_rfl) (e_bin (o := .mod) (d := .int (d.fmod 2)) (e_v rfl) (e_c (d := .int 2)) rfl) hw) (es_2 (e_v rfl) (e_v rfl))) (small (by simp)))))))))))
          · rw [s_if hc, if_neg Bool.false_ne_true]; rfl
          · rw [s_if hd, if_neg Bool.false_ne_true]; rfl
end

/-! ### throngs -/
theorem att_Throng (wf k : Nat) : (G.pr wf k).att "Throng" = (["sentence", "parts", "folk", "by_gate", "marks"] : List Str) := rfl
def thF (sen parts : D) (nf ng : Nat) (marks : D) : List (Str × D) := [("sentence", sen), ("parts", parts), ("folk", .cell nf), ("by_gate", .cell ng), ("marks", marks)]
/-- a throng in its three cells -/
structure Has (μ : Sto) (n nf ng : Nat) (s : Sen) (folk : List (List Th)) (by_ : List (Key × D)) (marks : D) : Prop where
  ins : μ[n]? = some (.ins "Throng" (thF s.e (.lst (s.ats.map At.part)) nf ng marks))
  folk : μ[nf]? = some (.lst (folk.map fun ts => D.lst (ts.map Th.e)))
  gate : μ[ng]? = some (.dct by_)
section
variable {wf k n nf ng : Nat} {μ : Sto} {s : Sen} {folk : List (List Th)} {by_ : List (Key × D)} {marks : D} {ρ : Rho}
theorem Has.e_folk (h : Has μ n nf ng s folk by_ marks) {o : E} (ho : ev (G.pr wf k) o ρ μ = some (.cell n, μ)) : ev (G.pr wf k) (.fld o "folk") ρ μ = some (.cell nf, μ) := e_fld ho h.ins (by rw [att_Throng]; decide) rfl
theorem Has.e_sen (h : Has μ n nf ng s folk by_ marks) {o : E} (ho : ev (G.pr wf k) o ρ μ = some (.cell n, μ)) : ev (G.pr wf k) (.fld o "sentence") ρ μ = some (s.e, μ) := e_fld ho h.ins (by rw [att_Throng]; decide) rfl
theorem Has.e_parts (h : Has μ n nf ng s folk by_ marks) {o : E} (ho : ev (G.pr wf k) o ρ μ = some (.cell n, μ)) : ev (G.pr wf k) (.fld o "parts") ρ μ = some (.lst (s.ats.map At.part), μ) := e_fld ho h.ins (by rw [att_Throng]; decide) rfl
theorem Has.e_gate (h : Has μ n nf ng s folk by_ marks) {o : E} (ho : ev (G.pr wf k) o ρ μ = some (.cell n, μ)) : ev (G.pr wf k) (.fld o "by_gate") ρ μ = some (.cell ng, μ) := e_fld ho h.ins (by rw [att_Throng]; decide) rfl
theorem Has.len (h : Has μ n nf ng s folk by_ marks) {o : E} (ho : ev (G.pr wf k) o ρ μ = some (.cell n, μ)) : ev (G.pr wf k) (.bi .len false (.cons (.fld o "folk") .nil)) ρ μ = some (.int (folk.length : Nat), μ) :=
  e_bi (es_1 (h.e_folk ho)) (by simp only [biD, items, h.folk, Option.map_some, List.length_map])
theorem run_len (h : Has μ n nf ng s folk by_ marks) : (G.pr wf (k + 1)).meth "Throng" "__len__" [.cell n] μ = some (.int (folk.length : Nat), μ) := by
  rw [meth_s wf k "Throng" "__len__" (d := d_Throngu_lenu) rfl]
  exact run_retX [some (.cell n)] rfl rfl rfl (sq_ret (s_ret (h.len (e_v rfl))))
theorem run_word (h : Has μ n nf ng s folk by_ marks) (ok : Ok μ) (ts : List Th) {b : Bool} {rest : List Bool} (hs : s.say (ts.map Th.y) = some (b, rest)) (hk : s.dep < k) (hl : ts.length ≤ 1000) :
    (G.pr wf (k + 1)).meth "Throng" "word_of_folk" [.cell n, .lst (ts.map Th.e)] μ = some (.str (if b then "yes" else "no"), μ) := by
  rw [meth_s wf k "Throng" "word_of_folk" (d := d_Throng_word_of_folk) rfl]
  let R : Rho := [some (.cell n), some (.lst (ts.map Th.e)), none]
  have h1 : ev (G.pr wf k) (.lc true [2] (.one (.n 2)) (.cons (.v 1) .nil) .nil (.ix (.v 2) (.c (.int 2)))) R μ = some (.cell μ.length, μ ++ [.lst ((ts.map Th.y).map D.bl)]) := by
    have := ev_lcM (Γ := G.pr wf k) (own := [2]) (tg := .one (.n 2)) (it := .cons (.v 1) .nil) (cs := .nil) (elt := .ix (.v 2) (.c (.int 2))) (ρ := R) (μ := μ) (xs := ts.map Th.e) (w := none) (g := fun x => match x with | .tup [_, _, y] => y | x => x) rfl rfl (small (by simp; omega)) fun x hx => by
      obtain ⟨t, _, rfl⟩ := List.mem_map.mp hx
      rfl
    rw [this]
    congr 4
    simp only [List.map_map]
    rfl
  have h2 := run_truth wf s k μ.length (μ ++ [.lst ((ts.map Th.y).map D.bl)]) (ts.map Th.y) b rest hk (at_last μ _) hs
  rw [set_last] at h2
  have h3 : evT (G.pr wf k) (.cons (.call "truth_of" (.cons (.fld (.v 0) "sentence") (.cons (.lc true [2] (.one (.n 2)) (.cons (.v 1) .nil) .nil (.ix (.v 2) (.c (.int 2)))) .nil))) .nil) R μ = some (b, μ ++ [.lst (rest.map D.bl)]) := by
    simp only [evT, e_call (es_2 (h.e_sen (e_v (i := 0) (ρ := R) rfl)) h1) h2, bnd_some]
    rfl
  have h4 : ev (G.pr wf k) (.ife (.cons (.call "truth_of" (.cons (.fld (.v 0) "sentence") (.cons (.lc true [2] (.one (.n 2)) (.cons (.v 1) .nil) .nil (.ix (.v 2) (.c (.int 2)))) .nil))) .nil) (.c (.str "yes")) (.c (.str "no"))) R μ = some (.str (if b then "yes" else "no"), μ ++ [.lst (rest.map D.bl)]) := by
    rw [e_ife h3]
    cases b
    · rw [if_neg Bool.false_ne_true]; exact e_c
    · rw [if_pos rfl]; exact e_c
  have := run_retC (Γ := G.pr wf k) (df := d_Throng_word_of_folk) (as := [.cell n, .lst (ts.map Th.e)]) (μ := μ) (d := .str (if b then "yes" else "no")) (ρ' := R) (μ' := μ ++ [Cel.lst (rest.map D.bl)]) rfl rfl (sq_ret (s_ret h4)) rfl (by rw [List.take_left]; exact ok)
  rw [this, List.take_left]
theorem say_all (bs : List Bool) : ∀ (s : Sen) (bs : List Bool), s.ats.length ≤ bs.length → ∃ b, s.say bs = some (b, bs.drop s.ats.length)
  | .atom a, [], h => by simp [Sen.ats] at h
  | .atom a, b :: bs, _ => ⟨b, rfl⟩
  | .not s, bs, h => by
    obtain ⟨b, e⟩ := say_all bs s bs h
    exact ⟨!b, by simp only [Sen.say, e, Option.map_some, Sen.ats]⟩
  | .two c x y, bs, h => by
    simp only [Sen.ats, List.length_append] at h
    obtain ⟨b1, e1⟩ := say_all bs x bs (by omega)
    obtain ⟨b2, e2⟩ := say_all bs y (bs.drop x.ats.length) (by rw [List.length_drop]; omega)
    exact ⟨_, by simp only [Sen.say, e1, Option.bind_some, e2, Option.map_some, Sen.ats, List.length_append, List.drop_drop]; rfl⟩
def Sen.word (s : Sen) (ts : List Th) : Bool := match s.say (ts.map Th.y) with | some (b, _) => b | none => false
def wordD (b : Bool) : D := .str (if b then "yes" else "no")
/-- everybody has a thing of each part -/
def Fits (s : Sen) (folk : List (List Th)) : Prop := ∀ ts ∈ folk, ts.length = s.ats.length
theorem run_word' (h : Has μ n nf ng s folk by_ marks) (ok : Ok μ) (ts : List Th) (hf : ts.length = s.ats.length) (hk : s.dep < k) (hl : s.ats.length ≤ 1000) :
    (G.pr wf (k + 1)).meth "Throng" "word_of_folk" [.cell n, .lst (ts.map Th.e)] μ = some (wordD (s.word ts), μ) := by
  obtain ⟨b, e⟩ := say_all [] s (ts.map Th.y) (by simp [hf])
  have : s.word ts = b := by simp only [Sen.word, e]
  rw [this]
  exact run_word h ok ts e hk (by omega)
theorem recv_T (h : Has μ n nf ng s folk by_ marks) {m : Str} (hm : (thF s.e (.lst (s.ats.map At.part)) nf ng marks).lookup m = none) : recv (.cell n) m μ = some ("Throng" : Str) := by simp only [recv, h.ins, hm]
theorem run_words (h : Has μ n nf ng s folk by_ marks) (ok : Ok μ) (hf : Fits s folk) (hk : s.dep < k) (hl : s.ats.length ≤ 1000) (hz : folk.length ≤ 1000) :
    (G.pr wf (k + 2)).meth "Throng" "words" [.cell n] μ = some (.lst (folk.map fun ts => wordD (s.word ts)), μ) := by
  rw [meth_s wf (k + 1) "Throng" "words" (d := d_Throng_words) rfl]
  have hi : evI (G.pr wf (k + 1)) (.cons (.fld (.v 0) "folk") .nil) [some (.cell n), none] μ = some ((folk.map fun ts => D.lst (ts.map Th.e), some (nf, folk.map fun ts => D.lst (ts.map Th.e))), μ) := by
    simp only [evI, h.e_folk (e_v (i := 0) (ρ := [some (.cell n), none]) rfl), bnd_some, h.folk]
  have hc := ev_lc1 (Γ := G.pr wf (k + 1)) (own := [1]) (tg := .one (.n 1)) (cs := .nil) (elt := .meth (.v 0) "word_of_folk" (.cons (.v 1) .nil)) (g := fun x => match x with | .lst ds => (match (G.pr wf (k + 1)).meth "Throng" "word_of_folk" [.cell n, .lst ds] μ with | some (d, _) => d | none => .non) | x => x) hi (by simp [watch, h.folk]) (small (by simp; omega)) fun x hx => by
    obtain ⟨ts, ht, rfl⟩ := List.mem_map.mp hx
    have e1 := run_word' (wf := wf) h ok ts (hf ts ht) hk hl
    have e2 : ev (G.pr wf (k + 1)) (.meth (.v 0) "word_of_folk" (.cons (.v 1) .nil)) [some (.cell n), some (.lst (ts.map Th.e))] μ = some (wordD (s.word ts), μ) := e_meth (e_v rfl) (recv_T h rfl) (es_1 (e_v rfl)) e1
    show (bnd (ev (G.pr wf (k + 1)) (.meth (.v 0) "word_of_folk" (.cons (.v 1) .nil)) [some (.cell n), some (.lst (ts.map Th.e))] μ) fun y μ => some ([y], μ)) = _
    rw [e2]
    simp only [bnd_some, e1]
  refine run_retX [some (.cell n), none] rfl rfl rfl (sq_ret (s_ret (ρ := [some (.cell n), none]) ?_))
  refine hc.trans ?_
  congr 3
  rw [List.map_map]
  apply List.map_congr_left
  intro ts ht
  simp only [Function.comp, run_word' (wf := wf) h ok ts (hf ts ht) hk hl]
theorem run_need (h : Has μ n nf ng s folk by_ marks) (i : Nat) (hi : i < folk.length) : (G.pr wf (k + 1)).meth "Throng" "need_folk" [.cell n, .int (i : Nat)] μ = some (.non, μ) := by
  rw [meth_s wf k "Throng" "need_folk" (d := d_Throng_need_folk) rfl]
  have hc : evT (G.pr wf k) (.not (.chn .le .lt (.c (.int 0)) (.v 1) (.bi .len false (.cons (.fld (.v 0) "folk") .nil)))) [some (.cell n), some (.int (i : Nat))] μ = some (false, μ) := by
    have h1 : decide ((0 : Int) ≤ (i : Int)) = true := by simp
    have h2 : decide ((i : Int) < (folk.length : Int)) = true := by simp; omega
    simp only [evT, e_c, e_v (i := 1) (ρ := [some (.cell n), some (.int (i : Nat))]) (μ := μ) rfl, bnd_some, cmpD, h1, if_true, h.len (e_v (i := 0) (ρ := [some (.cell n), some (.int (i : Nat))]) rfl), h2, Bool.not_true]
  refine run_next (ρ' := [some (.cell n), some (.int (i : Nat))]) rfl rfl (sq (ρ' := [some (.cell n), some (.int (i : Nat))]) (μ' := μ) ?_ rfl)
  show evS (G.pr wf k) (.ife (.not (.chn .le .lt (.c (.int 0)) (.v 1) (.bi .len false (.cons (.fld (.v 0) "folk") .nil)))) (.seq .never .nil) .nil) [some (.cell n), some (.int (i : Nat))] μ = _
  rw [s_if hc, if_neg Bool.false_ne_true]
  rfl
theorem folk_at (h : Has μ n nf ng s folk by_ marks) {i : Nat} {ts : List Th} (hi : folk[i]? = some ts) : ixD (.cell nf) (.int (i : Nat)) μ = some (.lst (ts.map Th.e)) := by
  simp only [ixD, h.folk]
  have e : (folk.map fun ts => D.lst (ts.map Th.e))[i]? = some (.lst (ts.map Th.e)) := by rw [List.getElem?_map, hi]; rfl
  exact atI_nat e
theorem run_says (h : Has μ n nf ng s folk by_ marks) (ok : Ok μ) (hf : Fits s folk) (hk : s.dep < k) (hl : s.ats.length ≤ 1000) {i : Nat} {ts : List Th} (hi : folk[i]? = some ts) :
    (G.pr wf (k + 2)).meth "Throng" "says" [.cell n, .int (i : Nat)] μ = some (wordD (s.word ts), μ) := by
  rw [meth_s wf (k + 1) "Throng" "says" (d := d_Throng_says) rfl]
  have hlt := (List.getElem?_eq_some_iff.mp hi).1
  let R : Rho := [some (.cell n), some (.int (i : Nat))]
  have e1 : ev (G.pr wf (k + 1)) (.meth (.v 0) "need_folk" (.cons (.v 1) .nil)) R μ = some (.non, μ) := e_meth (e_v rfl) (recv_T h rfl) (es_1 (e_v rfl)) (run_need h i hlt)
  have e2 : ev (G.pr wf (k + 1)) (.meth (.v 0) "word_of_folk" (.cons (.ix (.fld (.v 0) "folk") (.v 1)) .nil)) R μ = some (wordD (s.word ts), μ) :=
    e_meth (e_v rfl) (recv_T h rfl) (es_1 (e_ix (h.e_folk (e_v rfl)) (e_v rfl) (folk_at h hi))) (run_word' h ok ts (hf ts (List.mem_of_getElem? hi)) hk hl)
  exact run_retX R rfl rfl rfl (sq (s_ex e1) (sq_ret (s_ret e2)))
end
end P96

/-! k96 in plain Lean, continued: things compared. -/
namespace P96
open PySem PySem.Spec L2 DP LW

def Th.p (t : Th) : PyData := .tuple [.str (if t.l then "leads" else "follows"), .int t.n, .bool t.y]
def eqT (a b : List Th) : Bool := PyData.eqvAll (a.map Th.p) (b.map Th.p)
theorem py_th (t : Th) : t.e.py = some t.p := by
  simp only [Th.e, D.py, D.pys, Option.map_some, Th.p]
theorem pys_ts : ∀ ts : List Th, D.pys (ts.map Th.e) = some (ts.map Th.p)
  | [] => rfl
  | t :: ts => by simp only [List.map_cons, D.pys, py_th t, pys_ts ts]
theorem lay_th (t : Th) : t.p.canLay0 = true := by
  obtain ⟨l, n, y⟩ := t
  cases l <;> kernel_rfl
theorem lay_ts : ∀ ts : List Th, PyData.canLayAll0 (ts.map Th.p) = true
  | [] => rfl
  | t :: ts => by simp only [List.map_cons, PyData.canLayAll0, lay_th t, lay_ts ts, Bool.and_self]
theorem dep_ts : ∀ ts : List Th, PyData.depthAll (ts.map Th.p) ≤ 1
  | [] => by simp [PyData.depthAll]
  | t :: ts => by
    have := dep_ts ts
    simp only [List.map_cons, PyData.depthAll, Th.p, PyData.depth]
    omega
theorem eq_pair (a b c d : List Th) : eqD (.tup [.lst (a.map Th.e), .lst (b.map Th.e)]) (.tup [.lst (c.map Th.e), .lst (d.map Th.e)]) = some (eqT a c && eqT b d) := by
  have py : ∀ a b : List Th, D.py (.tup [.lst (a.map Th.e), .lst (b.map Th.e)]) = some (.tuple [.list (a.map Th.p), .list (b.map Th.p)]) := fun a b => by
    simp only [D.py, D.pys, pys_ts, Option.map_some]
  have sh : ∀ a b : List Th, SeqAt.shaped (.tuple [.list (a.map Th.p), .list (b.map Th.p)]) = true := fun a b => by
    have h1 := dep_ts a
    have h2 := dep_ts b
    have h3 : PyData.depth (.tuple [.list (a.map Th.p), .list (b.map Th.p)]) ≤ 64 := by simp only [PyData.depth, PyData.depthAll]; omega
    have h4 : PyData.canLay0 (.tuple [.list (a.map Th.p), .list (b.map Th.p)]) = true := by simp only [PyData.canLay0, PyData.canLayAll0, lay_ts, Bool.and_self]
    unfold SeqAt.shaped
    rw [h4, decide_eq_true h3]
    rfl
  simp only [eqD, py, sh, Bool.and_self, if_true, PyData.eqv, PyData.eqvAll, Bool.and_true, eqT]
theorem eqv_th (t u : Th) : PyData.eqv t.p u.p = true ↔ t = u := by
  obtain ⟨l, n, y⟩ := t
  obtain ⟨l', n', y'⟩ := u
  have hs : ((if l = true then ("leads" : Str) else "follows") == (if l' = true then ("leads" : Str) else "follows")) = (l == l') := by
    cases l <;> cases l' <;> decide +kernel
  simp only [Th.p, PyData.eqv, PyData.eqvAll, hs, Bool.and_true, Bool.and_eq_true, beq_iff_eq, Th.mk.injEq]
theorem eqT_iff : ∀ a b : List Th, eqT a b = true ↔ a = b
  | [], [] => by simp [eqT, PyData.eqvAll]
  | [], _ :: _ => by simp [eqT, PyData.eqvAll]
  | _ :: _, [] => by simp [eqT, PyData.eqvAll]
  | t :: a, u :: b => by
    have ih := eqT_iff a b
    simp only [eqT] at ih
    simp only [eqT, List.map_cons, PyData.eqvAll, Bool.and_eq_true, eqv_th, ih, List.cons.injEq]

/-! ### a meeting -/
/-- the two rows behind a meeting -/
def metAll : List At → List Th → List Th → List (Th × Th)
  | a :: as, t :: ts, u :: us => a.met t u :: metAll as ts us
  | _, _, _ => []
theorem metAll_len : ∀ (as : List At) (ts us : List Th), ts.length = as.length → us.length = as.length → (metAll as ts us).length = as.length
  | [], _, _, _, _ => by simp [metAll]
  | a :: as, t :: ts, u :: us, h1, h2 => by simp [metAll, metAll_len as ts us (by simpa using h1) (by simpa using h2)]
  | a :: as, [], _, h1, _ => by simp at h1
  | a :: as, _ :: _, [], _, h2 => by simp at h2
def trip (a : At) (t u : Th) : D := .tup [a.k, t.e, u.e]
theorem zip_trip : ∀ (as : List At) (ts us : List Th), (((as.map At.k).zip ((ts.map Th.e).zip (us.map Th.e))).map fun p => D.tup [p.1, p.2.1, p.2.2]) = ((as.zip (ts.zip us)).map fun p => trip p.1 p.2.1 p.2.2)
  | [], _, _ => by simp
  | a :: as, [], _ => by simp
  | a :: as, t :: ts, [] => by simp
  | a :: as, t :: ts, u :: us => by simp only [List.map_cons, List.zip_cons_cons, zip_trip as ts us]; rfl
theorem metAll_zip : ∀ (as : List At) (ts us : List Th), metAll as ts us = (as.zip (ts.zip us)).map fun p => p.1.met p.2.1 p.2.2
  | [], _, _ => by simp [metAll]
  | a :: as, [], _ => by simp [metAll]
  | a :: as, t :: ts, [] => by simp [metAll]
  | a :: as, t :: ts, u :: us => by simp only [metAll, List.zip_cons_cons, List.map_cons, metAll_zip as ts us]

theorem i_one {Γ : Pr} {a : E} {ds : List D} {ρ : Rho} {μ μ1 : Sto} (h : ev Γ a ρ μ = some (.lst ds, μ1)) : evI Γ (.cons a .nil) ρ μ = some ((ds, none), μ1) := by simp only [evI, h, bnd_some]
section
variable {wf k n nf ng : Nat} {μ : Sto} {s : Sen} {folk : List (List Th)} {by_ : List (Key × D)} {marks : D} {i j : Nat} {bf : D}
/-- the kinds of the parts -/
theorem ch_kinds (h : Has μ n nf ng s folk by_ marks) (hl : s.ats.length ≤ 1000) :
    ev (G.pr wf k) (.lc false [5, 6] (.tup [(.n 5), (.n 6)]) (.cons (.fld (.v 0) "parts") .nil) .nil (.v 5)) [some (.cell n), some (.int (i : Nat)), some (.int (j : Nat)), some bf, none, none, none, none, none, none, none] μ = some (.lst (s.ats.map At.k), μ) := by
  have := ev_lc1 (Γ := G.pr wf k) (own := [5, 6]) (tg := .tup [(.n 5), (.n 6)]) (cs := .nil) (elt := .v 5) (g := fun x => match x with | .tup [x, _] => x | x => x) (i_one (h.e_parts (e_v (i := 0) (ρ := [some (.cell n), some (.int (i : Nat)), some (.int (j : Nat)), some bf, none, none, none, none, none, none, none]) rfl))) rfl (small (by simp; omega)) fun x hx => by
    obtain ⟨a, _, rfl⟩ := List.mem_map.mp hx
    rfl
  rw [this]
  simp only [List.map_map]
  rfl
def pairT2 (a b : List Th) : D := .tup [.lst (a.map Th.e), .lst (b.map Th.e)]
/-- the things behind -/
theorem ch_met (a b : List Th) (hl : s.ats.length ≤ 1000) :
    ev (G.pr wf (k + 2)) (.lc false [5, 8, 9] (.tup [(.n 5), (.n 8), (.n 9)]) (.zip3 (.v 4) (.ix (.v 3) (.c (.int 0))) (.ix (.v 3) (.c (.int 1)))) .nil (.meth (.v 5) "met" (.cons (.v 8) (.cons (.v 9) .nil))))
      [some (.cell n), some (.int (i : Nat)), some (.int (j : Nat)), some (pairT2 a b), some (.lst (s.ats.map At.k)), none, none, none, none, none, none] μ = some (.lst ((metAll s.ats a b).map fun p => D.lst [p.1.e, p.2.e]), μ) := by
  have hi : evI (G.pr wf (k + 2)) (.zip3 (.v 4) (.ix (.v 3) (.c (.int 0))) (.ix (.v 3) (.c (.int 1)))) [some (.cell n), some (.int (i : Nat)), some (.int (j : Nat)), some (pairT2 a b), some (.lst (s.ats.map At.k)), none, none, none, none, none, none] μ = some (((s.ats.zip (a.zip b)).map fun p => trip p.1 p.2.1 p.2.2, none), μ) := by
    rw [← zip_trip]
    rfl
  have := ev_lc1 (Γ := G.pr wf (k + 2)) (own := [5, 8, 9]) (tg := .tup [(.n 5), (.n 8), (.n 9)]) (cs := .nil) (elt := .meth (.v 5) "met" (.cons (.v 8) (.cons (.v 9) .nil))) (g := fun x => match x with | .tup [k', t, u] => (match recv k' "met" μ with | some C => (match (G.pr wf (k + 2)).meth C "met" [k', t, u] μ with | some (d, _) => d | none => .non) | none => .non) | x => x) hi rfl (small (by simp; omega)) fun x hx => by
    obtain ⟨⟨c, t, u⟩, _, rfl⟩ := List.mem_map.mp hx
    have hr : recv c.k "met" μ = some c.cls := by cases c <;> rfl
    have e1 := run_met wf k c t u μ
    have e2 : ev (G.pr wf (k + 2)) (.meth (.v 5) "met" (.cons (.v 8) (.cons (.v 9) .nil))) [some (.cell n), some (.int (i : Nat)), some (.int (j : Nat)), some (pairT2 a b), some (.lst (s.ats.map At.k)), some c.k, none, none, some t.e, some u.e, none] μ = some (.lst [(c.met t u).1.e, (c.met t u).2.e], μ) :=
      e_meth (e_v rfl) hr (es_2 (e_v rfl) (e_v rfl)) e1
    show (bnd (ev (G.pr wf (k + 2)) (.meth (.v 5) "met" (.cons (.v 8) (.cons (.v 9) .nil))) [some (.cell n), some (.int (i : Nat)), some (.int (j : Nat)), some (pairT2 a b), some (.lst (s.ats.map At.k)), some c.k, none, none, some t.e, some u.e, none] μ) fun y μ => some ([y], μ)) = _
    rw [e2]
    simp only [bnd_some, trip, hr, e1]
  rw [this, metAll_zip, List.map_map, List.map_map]
  congr 3
  apply List.map_congr_left
  rintro ⟨c, t, u⟩ _
  have hr : recv c.k "met" μ = some c.cls := by cases c <;> rfl
  simp only [Function.comp, trip, hr, run_met wf k c t u μ]
theorem s_setIx {Γ : Pr} {o i e : E} {x y d : D} {ρ : Rho} {μ μ1 μ2 μ3 μ4 : Sto} (he : ev Γ e ρ μ = some (d, μ1)) (ho : ev Γ o ρ μ1 = some (x, μ2)) (hi : ev Γ i ρ μ2 = some (y, μ3)) (h : setIxD x y d μ3 = some μ4) : evS Γ (.setIx o i e) ρ μ = some (.next, ρ, μ4) := by
  simp only [evS, he, bnd_some, ho, hi, h, Option.map_some]
theorem ixN_nat {n i : Nat} (h : i < n) : ixN n (i : Int) = some i := by
  unfold ixN
  rw [if_pos (by omega), if_pos (by omega)]
  simp
/-- one of the two rows of what is behind -/
theorem ch_row (q : Bool) (a b : List Th) (ps : List (Th × Th)) (hl : ps.length ≤ 1000) {ks : D} :
    ev (G.pr wf k) (.lc false [10] (.one (.n 10)) (.cons (.v 7) .nil) .nil (.ix (.v 10) (.c (.int (if q then 1 else 0)))))
      [some (.cell n), some (.int (i : Nat)), some (.int (j : Nat)), some (pairT2 a b), some ks, none, none, some (.lst (ps.map fun p => D.lst [p.1.e, p.2.e])), none, none, none] μ = some (.lst ((ps.map fun p => if q then p.2 else p.1).map Th.e), μ) := by
  have := ev_lc1 (Γ := G.pr wf k) (μ := μ) (own := [10]) (tg := .one (.n 10)) (cs := .nil) (elt := .ix (.v 10) (.c (.int (if q then 1 else 0)))) (g := fun x => match x with | .lst [t, u] => if q then u else t | x => x) (i_one (e_v (i := 7) (ρ := [some (.cell n), some (.int (i : Nat)), some (.int (j : Nat)), some (pairT2 a b), some ks, none, none, some (.lst (ps.map fun p => D.lst [p.1.e, p.2.e])), none, none, none]) rfl)) rfl (small (by simp; omega)) fun x hx => by
    obtain ⟨p, _, rfl⟩ := List.mem_map.mp hx
    cases q <;> rfl
  rw [this, List.map_map, List.map_map]
  congr 3
  apply List.map_congr_left
  intro p _
  cases q <;> rfl
def fD (folk : List (List Th)) : List D := folk.map fun ts => D.lst (ts.map Th.e)
theorem fD_set (folk : List (List Th)) (i : Nat) (ts : List Th) : (fD folk).set i (.lst (ts.map Th.e)) = fD (folk.set i ts) := by simp only [fD, List.map_set]
theorem Has.put (h : Has μ n nf ng s folk by_ marks) (hn : nf ≠ n) (hg : nf ≠ ng) (folk' : List (List Th)) : Has (μ.set nf (.lst (fD folk'))) n nf ng s folk' by_ marks :=
  ⟨by rw [List.getElem?_set_ne hn]; exact h.ins, set_at h.folk, by rw [List.getElem?_set_ne hg]; exact h.gate⟩
theorem set_folk (h : Has μ n nf ng s folk by_ marks) (ts : List Th) (hi : i < folk.length) : setIxD (.cell nf) (.int (i : Nat)) (.lst (ts.map Th.e)) μ = some (μ.set nf (.lst (fD (folk.set i ts)))) := by
  simp only [setIxD, h.folk, List.length_map]
  rw [ixN_nat hi, ← fD_set]
  rfl
def one1 (as : List At) (a b : List Th) : List Th := (metAll as a b).map fun p => p.1
def two2 (as : List At) (a b : List Th) : List Th := (metAll as a b).map fun p => p.2
theorem ch_pair (h : Has μ n nf ng s folk by_ marks) {a b : List Th} (hi : folk[i]? = some a) (hj : folk[j]? = some b) {ρ : Rho} (h0 : ρ[0]? = some (some (.cell n))) (h1 : ρ[1]? = some (some (.int (i : Nat)))) (h2 : ρ[2]? = some (some (.int (j : Nat)))) :
    ev (G.pr wf k) (.tup (.cons (.ix (.fld (.v 0) "folk") (.v 1)) (.cons (.ix (.fld (.v 0) "folk") (.v 2)) .nil))) ρ μ = some (pairT2 a b, μ) :=
  e_tup (es_2 (e_ix (h.e_folk (e_v h0)) (e_v h1) (folk_at h hi)) (e_ix (h.e_folk (e_v h0)) (e_v h2) (folk_at h hj))) (small (by simp))
theorem run_changed (h : Has μ n nf ng s folk by_ marks) (hn : nf ≠ n) (hg : nf ≠ ng) {a b : List Th} (hi : folk[i]? = some a) (hj : folk[j]? = some b) (hij : i ≠ j) (hl : s.ats.length ≤ 1000) (hla : a.length = s.ats.length) (hlb : b.length = s.ats.length) :
    (G.pr wf (k + 3)).meth "Throng" "changed" [.cell n, .int (i : Nat), .int (j : Nat)] μ =
      some (.bl (!(eqT a (one1 s.ats a b) && eqT b (two2 s.ats a b))), μ.set nf (.lst (fD ((folk.set i (one1 s.ats a b)).set j (two2 s.ats a b))))) := by
  rw [meth_s wf (k + 2) "Throng" "changed" (d := d_Throng_changed) rfl]
  have hi' := (List.getElem?_eq_some_iff.mp hi).1
  have hj' := (List.getElem?_eq_some_iff.mp hj).1
  let ps := metAll s.ats a b
  have hps : ps.length ≤ 1000 := by rw [metAll_len _ _ _ hla hlb]; exact hl
  have H1 := h.put hn hg (folk.set i (one1 s.ats a b))
  have H2 := H1.put hn hg ((folk.set i (one1 s.ats a b)).set j (two2 s.ats a b))
  let μ1 := μ.set nf (.lst (fD (folk.set i (one1 s.ats a b))))
  let μ2 := μ1.set nf (.lst (fD ((folk.set i (one1 s.ats a b)).set j (two2 s.ats a b))))
  have hμ : μ2 = μ.set nf (.lst (fD ((folk.set i (one1 s.ats a b)).set j (two2 s.ats a b)))) := List.set_set ..
  have g1 : ((folk.set i (one1 s.ats a b)).set j (two2 s.ats a b))[i]? = some (one1 s.ats a b) := by
    rw [List.getElem?_set_ne (Ne.symm hij), List.getElem?_set_self hi']
  have g2 : ((folk.set i (one1 s.ats a b)).set j (two2 s.ats a b))[j]? = some (two2 s.ats a b) := by
    rw [List.getElem?_set_self (by simpa using hj')]
  let K : D := .lst (s.ats.map At.k)
  let B : D := .lst (ps.map fun p => D.lst [p.1.e, p.2.e])
  let R0 : Rho := [some (.cell n), some (.int (i : Nat)), some (.int (j : Nat)), none, none, none, none, none, none, none, none]
  let R1 : Rho := [some (.cell n), some (.int (i : Nat)), some (.int (j : Nat)), some (pairT2 a b), none, none, none, none, none, none, none]
  let R2 : Rho := [some (.cell n), some (.int (i : Nat)), some (.int (j : Nat)), some (pairT2 a b), some K, none, none, none, none, none, none]
  let R3 : Rho := [some (.cell n), some (.int (i : Nat)), some (.int (j : Nat)), some (pairT2 a b), some K, none, none, some B, none, none, none]
  have hcmp : cmpD (G.pr wf (k + 2)) .ne (pairT2 a b) (pairT2 (one1 s.ats a b) (two2 s.ats a b)) μ2 = some (!(eqT a (one1 s.ats a b) && eqT b (two2 s.ats a b)), μ2) := by
    show (eqA _ _ _ _).map _ = _
    show ((eqD (pairT2 a b) (pairT2 (one1 s.ats a b) (two2 s.ats a b))).map fun b => (b, μ2)).map _ = _
    simp only [pairT2, eq_pair, Option.map_some]
  have t1 : evS (G.pr wf (k + 2)) (.set (.one (.n 3)) (.tup (.cons (.ix (.fld (.v 0) "folk") (.v 1)) (.cons (.ix (.fld (.v 0) "folk") (.v 2)) .nil)))) R0 μ = some (.next, R1, μ) := s_set (ch_pair h hi hj rfl rfl rfl)
  rw [← hμ]
  refine run_retX R0 (ρ' := R3) rfl rfl rfl (sq t1 (sq (ρ' := R2) (μ' := μ) (s_set (ch_kinds h hl)) (sq (ρ' := R3) (μ' := μ) (s_set (ch_met a b hl)) (sq (ρ' := R3) (μ' := μ1) (s_setIx (ch_row false a b ps hps) (h.e_folk (e_v rfl)) (e_v rfl) (set_folk h _ hi')) (sq (ρ' := R3) (μ' := μ2) (s_setIx (ch_row true a b ps hps) (H1.e_folk (e_v rfl)) (e_v rfl) (set_folk H1 _ (by simpa using hj'))) (sq_ret (s_ret (e_cmp (e_v rfl) (ch_pair H2 g1 g2 rfl rfl rfl) hcmp))))))))
theorem run_meet (h : Has μ n nf ng s folk by_ marks) (hn : nf ≠ n) (hg : nf ≠ ng) {a b : List Th} (hi : folk[i]? = some a) (hj : folk[j]? = some b) (hij : i ≠ j) (hl : s.ats.length ≤ 1000) (hla : a.length = s.ats.length) (hlb : b.length = s.ats.length) :
    (G.pr wf (k + 4)).meth "Throng" "meet" [.cell n, .int (i : Nat), .int (j : Nat)] μ = some (.non, μ.set nf (.lst (fD ((folk.set i (one1 s.ats a b)).set j (two2 s.ats a b))))) := by
  rw [meth_s wf (k + 3) "Throng" "meet" (d := d_Throng_meet) rfl]
  have hi' := (List.getElem?_eq_some_iff.mp hi).1
  have hj' := (List.getElem?_eq_some_iff.mp hj).1
  let R : Rho := [some (.cell n), some (.int (i : Nat)), some (.int (j : Nat))]
  have e1 : ev (G.pr wf (k + 3)) (.meth (.v 0) "need_folk" (.cons (.v 1) .nil)) R μ = some (.non, μ) := e_meth (e_v rfl) (recv_T h rfl) (es_1 (e_v rfl)) (run_need h i hi')
  have e2 : ev (G.pr wf (k + 3)) (.meth (.v 0) "need_folk" (.cons (.v 2) .nil)) R μ = some (.non, μ) := e_meth (e_v rfl) (recv_T h rfl) (es_1 (e_v rfl)) (run_need h j hj')
  have hc : evT (G.pr wf (k + 3)) (.cmp .eq (.v 1) (.v 2)) R μ = some (false, μ) := by
    have := t_cmp (Γ := G.pr wf (k + 3)) (ρ := R) (e_v (i := 1) rfl) (e_v (i := 2) rfl) (c_eqI _ (i : Nat) (j : Nat) μ)
    have hf : (((i : Nat) : Int) == ((j : Nat) : Int)) = false := by simp; omega
    rw [hf] at this
    exact this
  have e3 : ev (G.pr wf (k + 3)) (.meth (.v 0) "changed" (.cons (.v 1) (.cons (.v 2) .nil))) R μ = some (.bl (!(eqT a (one1 s.ats a b) && eqT b (two2 s.ats a b))), μ.set nf (.lst (fD ((folk.set i (one1 s.ats a b)).set j (two2 s.ats a b))))) :=
    e_meth (e_v rfl) (recv_T h rfl) (es_2 (e_v rfl) (e_v rfl)) (run_changed h hn hg hi hj hij hl hla hlb)
  refine run_next (ρ' := R) rfl rfl (sq (ρ' := R) (μ' := μ) (s_ex e1) (sq (ρ' := R) (μ' := μ) (s_ex e2) (sq (ρ' := R) (μ' := μ) ?_ (sq (s_ex e3) rfl))))
  rw [s_if hc, if_neg Bool.false_ne_true]
  rfl
end
/-! ### a sequence of meetings -/
def chg (as : List At) (f : List (List Th)) (p : Nat × Nat) : List (List Th) × Bool := match f[p.1]?, f[p.2]? with
  | some a, some b => ((f.set p.1 (one1 as a b)).set p.2 (two2 as a b), !(eqT a (one1 as a b) && eqT b (two2 as a b)))
  | _, _ => (f, false)
def seqF (as : List At) : List (List Th) → List (Nat × Nat) → List (List Th)
  | f, [] => f
  | f, p :: ps => seqF as (chg as f p).1 ps
def seqB (as : List At) : List (List Th) → List (Nat × Nat) → List Bool
  | _, [] => []
  | f, p :: ps => (chg as f p).2 :: seqB as (chg as f p).1 ps
def PairOk (m : Nat) (p : Nat × Nat) : Prop := p.1 < m ∧ p.2 < m ∧ p.1 ≠ p.2
theorem chg_len (as : List At) (f : List (List Th)) (p : Nat × Nat) : (chg as f p).1.length = f.length := by
  unfold chg; split <;> simp
theorem chg_fits {s : Sen} {f : List (List Th)} (h : Fits s f) (p : Nat × Nat) : Fits s (chg s.ats f p).1 := by
  unfold chg
  split
  · rename_i a b ha hb
    have la := h a (List.mem_of_getElem? ha)
    have lb := h b (List.mem_of_getElem? hb)
    intro ts ht
    rcases List.mem_or_eq_of_mem_set ht with ht | rfl
    · rcases List.mem_or_eq_of_mem_set ht with ht | rfl
      · exact h ts ht
      · simp [one1, metAll_len _ _ _ la lb]
    · simp [two2, metAll_len _ _ _ la lb]
  · exact h
theorem set_same {μ : Sto} {n : Nat} {c : Cel} (h : μ[n]? = some c) : μ.set n c = μ := by
  obtain ⟨hl, e⟩ := List.getElem?_eq_some_iff.mp h
  apply List.ext_getElem?
  intro i
  by_cases hi : n = i
  · subst hi; rw [List.getElem?_set_self hl, h]
  · rw [List.getElem?_set_ne hi]
theorem chg_run {wf k n nf ng : Nat} {μ : Sto} {s : Sen} {f : List (List Th)} {by_ : List (Key × D)} {marks : D} (h : Has μ n nf ng s f by_ marks) (hn : nf ≠ n) (hg : nf ≠ ng) (hl : s.ats.length ≤ 1000) (hf : Fits s f) {p : Nat × Nat} (hp : PairOk f.length p) :
    (G.pr wf (k + 3)).meth "Throng" "changed" [.cell n, .int (p.1 : Nat), .int (p.2 : Nat)] μ = some (.bl (chg s.ats f p).2, μ.set nf (.lst (fD (chg s.ats f p).1))) := by
  obtain ⟨h1, h2, h3⟩ := hp
  have e1 : f[p.1]? = some f[p.1] := by simp [h1]
  have e2 : f[p.2]? = some f[p.2] := by simp [h2]
  have := run_changed (wf := wf) (k := k) h hn hg e1 e2 h3 hl (hf _ (List.mem_of_getElem? e1)) (hf _ (List.mem_of_getElem? e2))
  rw [this]
  simp only [chg, e1, e2]
def prD (p : Nat × Nat) : D := .tup [.int (p.1 : Nat), .int (p.2 : Nat)]
def stE : E := .bi .int1 false (.cons (.meth (.v 0) "changed" (.cons (.v 2) (.cons (.v 3) .nil))) .nil)
theorem seq_run {wf k n nf ng : Nat} {s : Sen} {by_ : List (Key × D)} {marks b : D} (hn : nf ≠ n) (hg : nf ≠ ng) (hl : s.ats.length ≤ 1000) : ∀ (ps : List (Nat × Nat)) (f : List (List Th)) (μ : Sto), Has μ n nf ng s f by_ marks → Fits s f → (∀ p ∈ ps, PairOk f.length p) →
    lcLoop none (lcStep (G.pr wf (k + 3)) [2, 3] (.tup [(.n 2), (.n 3)]) .nil stE [some (.cell n), some b, none, none]) (ps.map prD) μ = some ((seqB s.ats f ps).map fun b => D.int (if b then 1 else 0), μ.set nf (.lst (fD (seqF s.ats f ps))))
  | [], f, μ, h, _, _ => by
    have e : μ.set nf (.lst (fD f)) = μ := set_same h.folk
    simp only [List.map_nil, lcLoop, seqB, seqF, e]
  | p :: ps, f, μ, h, hf, hp => by
    have hc := chg_run (wf := wf) (k := k) h hn hg hl hf (hp p (by simp))
    have ih := seq_run (wf := wf) (k := k) (b := b) hn hg hl ps (chg s.ats f p).1 _ (h.put hn hg _) (chg_fits hf p) (fun q hq => by rw [chg_len]; exact hp q (by simp [hq]))
    rw [List.set_set] at ih
    have e1 : ev (G.pr wf (k + 3)) stE [some (.cell n), some b, some (.int (p.1 : Nat)), some (.int (p.2 : Nat))] μ = some (.int (if (chg s.ats f p).2 then 1 else 0), μ.set nf (.lst (fD (chg s.ats f p).1))) :=
      e_bi (es_1 (e_meth (e_v rfl) (recv_T h rfl) (es_2 (e_v rfl) (e_v rfl)) hc)) rfl
    have e2 : lcStep (G.pr wf (k + 3)) [2, 3] (.tup [(.n 2), (.n 3)]) .nil stE [some (.cell n), some b, none, none] (prD p) μ = some ([.int (if (chg s.ats f p).2 then 1 else 0)], μ.set nf (.lst (fD (chg s.ats f p).1))) := by
      show (bnd (ev (G.pr wf (k + 3)) stE [some (.cell n), some b, some (.int (p.1 : Nat)), some (.int (p.2 : Nat))] μ) fun y μ => some ([y], μ)) = _
      rw [e1]; rfl
    simp only [List.map_cons, lcLoop, e2, bnd_some, watch, if_true, ih, seqB, seqF]
    rfl
/-! ### the pairs -/
def prs (m : Nat) : List (Nat × Nat) := (List.range m).flatMap fun a => (List.range (m - (a + 1))).map fun b => (a, a + 1 + b)
def prsB (back : Bool) (m : Nat) : List (Nat × Nat) := if back then (prs m).reverse.map fun p => (p.2, p.1) else prs m
theorem prs_ok {m : Nat} {p : Nat × Nat} (h : p ∈ prs m) : PairOk m p := by
  simp only [prs, List.mem_flatMap, List.mem_map, List.mem_range] at h
  obtain ⟨a, ha, b, hb, rfl⟩ := h
  refine ⟨ha, ?_, ?_⟩ <;> simp only <;> omega
theorem prsB_ok {back : Bool} {m : Nat} {p : Nat × Nat} (h : p ∈ prsB back m) : PairOk m p := by
  unfold prsB at h
  split at h
  · obtain ⟨q, hq, rfl⟩ := List.mem_map.mp h
    obtain ⟨h1, h2, h3⟩ := prs_ok (List.mem_reverse.mp hq)
    exact ⟨h2, h1, Ne.symm h3⟩
  · exact prs_ok h
end P96

/-! k96 in plain Lean, continued: pairs, stretch. -/
namespace P96
open PySem PySem.Spec L2 DP LW

theorem prs_len (m : Nat) : (prs m).length ≤ m * m := by
  unfold prs
  rw [List.length_flatMap]
  have : ∀ l : List Nat, (l.map fun a => ((List.range (m - (a + 1))).map fun b => (a, a + 1 + b)).length).sum ≤ l.length * m := by
    intro l
    induction l with
    | nil => simp
    | cons x l ih => simp only [List.map_cons, List.sum_cons, List.length_map, List.length_range, List.length_cons, Nat.succ_mul] at ih ⊢; omega
  simpa using this (List.range m)
theorem prsB_len (b : Bool) (m : Nat) : (prsB b m).length = (prs m).length := by
  unfold prsB; split <;> simp
theorem small_prs {m : Nat} (hm : m ≤ 100) (b : Bool) : (prsB b m).length ≤ 10000 := by
  rw [prsB_len]
  exact Nat.le_trans (prs_len m) (Nat.le_trans (Nat.mul_le_mul hm hm) (by decide))
def gP (m : Nat) : D → List D
  | .int a => (List.range (m - (a.toNat + 1))).map fun b => prD (a.toNat, a.toNat + 1 + b)
  | _ => []
theorem gP_prs (m : Nat) : ∀ l : List Nat, (l.map fun a => D.int (a : Nat)).flatMap (gP m) = (l.flatMap fun a => (List.range (m - (a + 1))).map fun b => (a, a + 1 + b)).map prD
  | [] => rfl
  | a :: l => by
    simp only [List.map_cons, List.flatMap_cons, List.map_append, gP_prs m l, List.map_map, gP, Int.toNat_natCast]
    rfl
theorem rng0 (m : Nat) : (List.range ((m : Int) - 0).toNat).map (fun (k : Nat) => D.int (0 + (k : Int))) = (List.range m).map fun a => D.int (a : Nat) := by simp
theorem lc2_step {Γ : Pr} {own : List Nat} {tg tg1 : Tg} {cs it1 cs1 elt : E} {ρ ρ1 : Rho} {x : D} {μ : Sto} {ys zs : List D} {w : Wt} (hb : DP.bind Γ tg x (wipeD ρ own) μ = some (ρ1, μ)) (hc : evT Γ cs ρ1 μ = some (true, μ)) (hi : evI Γ it1 ρ1 μ = some ((ys, w), μ))
    (hl : lcLoop w (lcStep Γ tg1.sl tg1 cs1 elt ρ1) ys μ = some (zs, μ)) : lcStep2 Γ own tg cs tg1 it1 cs1 elt ρ x μ = some (zs, μ) := by
  simp only [lcStep2, hb, Option.bind_some, hc, bnd_some, if_true, hi]
  exact hl
theorem lc_step {Γ : Pr} {own : List Nat} {tg : Tg} {elt : E} {ρ ρ1 : Rho} {x y : D} {μ μ1 : Sto} (hb : DP.bind Γ tg x (wipeD ρ own) μ = some (ρ1, μ)) (he : ev Γ elt ρ1 μ = some (y, μ1)) : lcStep Γ own tg .nil elt ρ x μ = some ([y], μ1) := by
  simp only [lcStep, hb, Option.bind_some, evT, bnd_some, if_true, he]
theorem run_pairs0 (wf k : Nat) (m : Nat) (hm : m ≤ 100) (b : D) (μ : Sto) : ev (G.pr wf k) (.lc2 false [3,4] (.one (.n 3)) (.rng (.c (.int 0)) (.v 0)) .nil (.one (.n 4)) (.rng (.bin .add (.v 3) (.c (.int 1))) (.v 0)) .nil (.tup (.cons (.v 3) (.cons (.v 4) .nil)))) [some (.int (m : Nat)), some b, none, none, none] μ = some (.lst ((prs m).map prD), μ) := by
  have hi := i_rng (Γ := G.pr wf k) (ρ := [some (.int (m : Nat)), some b, none, none, none]) (μ := μ) (e_c (d := .int 0)) (e_v (i := 0) (d := .int (m : Nat)) rfl) (b62 (by omega) (by omega)) (b62 (by omega) (by omega))
  rw [rng0] at hi
  have hg : ((List.range m).map fun a => D.int (a : Nat)).flatMap (gP m) = (prs m).map prD := gP_prs m (List.range m)
  have hz : ((prs m).map prD).length ≤ sizeLine := small (by
    have := small_prs hm false
    rw [List.length_map]
    rw [prsB_len] at this
    omega)
  rw [← hg] at hz ⊢
  refine ev_lc2 hi rfl hz fun x hx => ?_
  obtain ⟨a, ha, rfl⟩ := List.mem_map.mp hx
  have ha := List.mem_range.mp ha
  have hi2 := i_rng (Γ := G.pr wf k) (ρ := [some (.int (m : Nat)), some b, none, some (.int (a : Nat)), none]) (μ := μ) (e_bin (o := .add) (d := .int ((a : Int) + 1)) (e_v (i := 3) rfl) (e_c (d := .int 1)) rfl) (e_v (i := 0) (d := .int (m : Nat)) rfl) (b62 (by omega) (by omega)) (b62 (by omega) (by omega))
  have hn : ((m : Int) - ((a : Int) + 1)).toNat = m - (a + 1) := by omega
  rw [hn] at hi2
  refine lc2_step rfl rfl hi2 ?_
  have hl := lc_map (w := none) (μ := μ) (f := lcStep (G.pr wf k) (Tg.one (.n 4)).sl (.one (.n 4)) .nil (.tup (.cons (.v 3) (.cons (.v 4) .nil))) [some (.int (m : Nat)), some b, none, some (.int (a : Nat)), none]) (g := fun y => D.tup [.int (a : Nat), y]) rfl ((List.range (m - (a + 1))).map fun (k : Nat) => D.int ((a : Int) + 1 + (k : Int))) fun y _ =>
    lc_step (ρ1 := [some (.int (m : Nat)), some b, none, some (.int (a : Nat)), some y]) rfl (e_tup (es_2 (e_v rfl) (e_v rfl)) (small (by simp)))
  refine hl.trans ?_
  rw [List.map_map]
  simp only [gP, Int.toNat_natCast]
  congr 2
theorem e_rev {Γ : Pr} {a : E} {ρ : Rho} {μ μ1 : Sto} {ds : List D} (h : ev Γ a ρ μ = some (.lst ds, μ1)) (hz : ds.length ≤ sizeLine) : ev Γ (.rev false a) ρ μ = some (.lst ds.reverse, μ1) := by
  simp only [ev, h, bnd_some, listed, Option.bind_some, DP.alloc, List.length_reverse, hz, if_true, Bool.false_eq_true, if_false]
theorem t_bl {Γ : Pr} {a : E} {ρ : Rho} {μ μ1 : Sto} {b : Bool} (h : ev Γ a ρ μ = some (.bl b, μ1)) : evT Γ (.cons a .nil) ρ μ = some (b, μ1) := by
  simp only [evT, h, bnd_some, truth, Option.map_some]
def swD : D → D
  | .tup [x, y] => .tup [y, x]
  | x => x
theorem sw_prs (m : Nat) : (((prs m).map prD).reverse.map swD) = (prsB true m).map prD := by
  simp only [prsB, if_true, List.map_reverse, List.map_map]
  rfl
theorem run_pairs (wf k m : Nat) (hm : m ≤ 100) (b : Bool) (μ : Sto) : (G.pr wf (k + 1)).call "pairs_of_folk" [.int (m : Nat), .bl b] μ = some (.lst ((prsB b m).map prD), μ) := by
  rw [call_s wf k "pairs_of_folk" (d := d_pairs_of_folk) rfl]
  have e1 := run_pairs0 wf k m hm (.bl b) μ
  have hl := small_prs hm false
  rw [prsB_len] at hl
  let R : Rho := [some (.int (m : Nat)), some (.bl b), some (.lst ((prs m).map prD)), none, none]
  refine run_retX [some (.int (m : Nat)), some (.bl b), none, none, none] (ρ' := R) rfl rfl rfl (sq (ρ' := R) (μ' := μ) (s_set e1) (sq_ret (s_ret ?_)))
  rw [e_ife (t_bl (e_v (i := 1) (ρ := R) rfl))]
  cases b with
  | false => rw [if_neg Bool.false_ne_true]; exact e_v rfl
  | true =>
    rw [if_pos rfl, ← sw_prs]
    exact ev_lc1 (w := none) (i_one (e_rev (e_v (i := 2) (ρ := R) rfl) (small (by rw [List.length_map]; omega)))) rfl (small (by rw [List.length_reverse, List.length_map]; omega)) fun x hx => by
      obtain ⟨p, _, rfl⟩ := List.mem_map.mp (List.mem_reverse.mp hx)
      exact lc_step (ρ1 := [some (.int (m : Nat)), some (.bl true), some (.lst ((prs m).map prD)), some (.int (p.1 : Nat)), some (.int (p.2 : Nat))]) rfl (e_tup (es_2 (e_v rfl) (e_v rfl)) (small (by simp)))
/-! ### a stretch -/
def cnt (bs : List Bool) : Int := (bs.map fun b => if b then (1 : Int) else 0).sum
theorem seqB_len (as : List At) : ∀ (ps : List (Nat × Nat)) (f : List (List Th)), (seqB as f ps).length = ps.length
  | [], _ => rfl
  | p :: ps, f => by simp [seqB, seqB_len as ps]
theorem seqF_len (as : List At) : ∀ (ps : List (Nat × Nat)) (f : List (List Th)), (seqF as f ps).length = f.length
  | [], _ => rfl
  | p :: ps, f => by rw [seqF, seqF_len as ps, chg_len]
theorem seqF_fits {s : Sen} : ∀ (ps : List (Nat × Nat)) (f : List (List Th)), Fits s f → Fits s (seqF s.ats f ps)
  | [], _, h => h
  | p :: ps, f, h => seqF_fits ps _ (chg_fits h p)
theorem ev_lcS {Γ : Pr} {own : List Nat} {tg : Tg} {it cs elt : E} {ρ : Rho} {μ μ1 μ2 : Sto} {xs ds : List D} {w : Wt} (hi : evI Γ it ρ μ = some ((xs, w), μ1)) (hl : lcLoop w (lcStep Γ own tg cs elt ρ) xs μ1 = some (ds, μ2)) (hz : ds.length ≤ sizeLine) : ev Γ (.lc false own tg it cs elt) ρ μ = some (.lst ds, μ2) := by
  simp only [ev, hi, bnd_some]
  show bnd (lcLoop w (lcStep Γ own tg cs elt ρ) xs μ1) _ = _
  rw [hl]
  simp only [bnd_some, DP.alloc, hz, if_true, Bool.false_eq_true, if_false]
theorem run_stretch {wf k n nf ng : Nat} {μ : Sto} {s : Sen} {folk : List (List Th)} {by_ : List (Key × D)} {marks : D} (h : Has μ n nf ng s folk by_ marks) (hn : nf ≠ n) (hg : nf ≠ ng) (hl : s.ats.length ≤ 1000) (hf : Fits s folk) (hm : folk.length ≤ 100) (b : Bool) :
    (G.pr wf (k + 4)).meth "Throng" "stretch" [.cell n, .bl b] μ = some (.int (cnt (seqB s.ats folk (prsB b folk.length))), μ.set nf (.lst (fD (seqF s.ats folk (prsB b folk.length))))) := by
  rw [meth_s wf (k + 3) "Throng" "stretch" (d := d_Throng_stretch) rfl]
  let R : Rho := [some (.cell n), some (.bl b), none, none]
  have hp := run_pairs wf (k + 2) folk.length hm b μ
  have hi : evI (G.pr wf (k + 3)) (.cons (.call "pairs_of_folk" (.cons (.bi .len false (.cons (.fld (.v 0) "folk") .nil)) (.cons (.v 1) .nil))) .nil) R μ = some (((prsB b folk.length).map prD, none), μ) :=
    i_one (e_call (es_2 (h.len (e_v (i := 0) (ρ := R) rfl)) (e_v (i := 1) (ρ := R) rfl)) hp)
  have hr := seq_run (wf := wf) (k := k) (b := D.bl b) hn hg hl (prsB b folk.length) folk μ h hf fun p hp => prsB_ok hp
  have hz : ((seqB s.ats folk (prsB b folk.length)).map fun b => D.int (if b then 1 else 0)).length ≤ sizeLine := small (by
    have := small_prs hm b
    rw [List.length_map, seqB_len]; omega)
  have hc := ev_lcS hi hr hz
  have hs : intsD ((seqB s.ats folk (prsB b folk.length)).map fun b => D.int (if b then 1 else 0)) = some ((seqB s.ats folk (prsB b folk.length)).map fun b => if b then (1 : Int) else 0) := by
    rw [← intsD_map, List.map_map]; rfl
  refine run_retX R rfl rfl rfl (sq_ret (s_ret (e_bi (es_1 hc) ?_)))
  simp only [biD, listed, Option.bind_some, hs, Option.map_some]
  rfl
end P96

/-! k96 in plain Lean, continued: throngs made, copied, compared. -/
namespace P96
open PySem PySem.Spec L2 DP LW

/-! ### stores -/
theorem at_mid (μ r : Sto) (c : Cel) : (μ ++ c :: r)[μ.length]? = some c := by
  rw [List.getElem?_append_right (Nat.le_refl _)]; simp
theorem set_mid (μ r : Sto) (c c' : Cel) : (μ ++ c :: r).set μ.length c' = μ ++ c' :: r := by
  rw [List.set_append_right _ _ (Nat.le_refl _)]; simp
mutual
theorem under_mono {n m : Nat} (h : n ≤ m) : ∀ d : D, D.under n d = true → D.under m d = true
  | .cell i, g => by simp only [D.under, decide_eq_true_eq] at g ⊢; omega
  | .tup ds, g => by simp only [D.under] at g ⊢; exact unders_mono h ds g
  | .lst ds, g => by simp only [D.under] at g ⊢; exact unders_mono h ds g
  | .obj C fs, g => by simp only [D.under] at g ⊢; exact underF_mono h fs g
  | .non, _ => rfl | .bl _, _ => rfl | .int _, _ => rfl | .str _, _ => rfl | .scr _, _ => rfl
theorem unders_mono {n m : Nat} (h : n ≤ m) : ∀ ds : List D, D.under.D.unders n ds = true → D.under.D.unders m ds = true
  | [], _ => rfl
  | d :: ds, g => by
    simp only [D.under.D.unders, Bool.and_eq_true] at g ⊢
    exact ⟨under_mono h d g.1, unders_mono h ds g.2⟩
theorem underF_mono {n m : Nat} (h : n ≤ m) : ∀ fs : List (Str × D), D.under.D.underF n fs = true → D.under.D.underF m fs = true
  | [], _ => rfl
  | (f, d) :: fs, g => by
    simp only [D.under.D.underF, Bool.and_eq_true] at g ⊢
    exact ⟨under_mono h d g.1, underF_mono h fs g.2⟩
end
theorem cutOk_mono {n m : Nat} (h : n ≤ m) {c : Cel} (g : cutOk n c = true) : cutOk m c = true := by
  cases c with
  | lst ds => exact unders_mono h ds g
  | ins C fs => exact underF_mono h fs g
  | dead => rfl
  | dct kvs =>
    simp only [cutOk, List.all_eq_true] at g ⊢
    exact fun kv hk => under_mono h _ (g kv hk)
theorem Ok.app {μ r : Sto} (ok : Ok μ) (h : ∀ c ∈ r, cutOk (μ.length + r.length) c = true) : Ok (μ ++ r) := by
  unfold Ok at ok ⊢
  simp only [List.all_eq_true, List.mem_append, List.length_append] at ok ⊢
  rintro c (hc | hc)
  · exact cutOk_mono (by omega) (ok c hc)
  · exact h c hc
theorem Ok.set {μ : Sto} (ok : Ok μ) {n : Nat} {c : Cel} (h : cutOk μ.length c = true) : Ok (μ.set n c) := by
  unfold Ok at ok ⊢
  simp only [List.all_eq_true, List.length_set] at ok ⊢
  intro c' hc
  rcases List.mem_or_eq_of_mem_set hc with hc | rfl
  · exact ok c' hc
  · exact h
theorem under_at (n : Nat) (a : At) : D.under n a.e = true := by
  cases a with
  | least ws b => simp only [At.e, D.under, D.under.D.unders, unders_map n D.int (fun _ => rfl) ws, Bool.and_self]
  | rest ws w r => simp only [At.e, D.under, D.under.D.unders, unders_map n D.int (fun _ => rfl) ws, Bool.and_self]
theorem under_sen (n : Nat) : ∀ s : Sen, D.under n s.e = true
  | .atom a => under_at n a
  | .not s => by simp only [Sen.e, D.under, D.under.D.unders, under_sen n s, Bool.and_self]
  | .two c a b => by simp only [Sen.e, D.under, D.under.D.unders, under_sen n a, under_sen n b, Bool.and_self]
theorem under_part (n : Nat) (a : At) : D.under n a.part = true := by
  show (D.under n a.k && (D.under n a.begins && true)) = true
  rw [under_k]
  show (true && (D.under.D.unders n (a.ws.map fun w => (a.led w).e) && true)) = true
  rw [unders_map n (fun w => (a.led w).e) fun _ => rfl]; rfl
theorem under_parts (n : Nat) (s : Sen) : D.under n (.lst (s.ats.map At.part)) = true := unders_map n At.part (under_part n) s.ats
theorem under_fD (n : Nat) (f : List (List Th)) : cutOk n (.lst (fD f)) = true :=
  unders_map n (fun ts : List Th => D.lst (ts.map Th.e)) (fun ts => unders_map n Th.e (fun _ => rfl) ts) f
/-! ### things compared -/
theorem eqv_self : ∀ s : Sen, ∃ p : PyData, s.e.py = some p ∧ PyData.canLay0 p = true ∧ PyData.depth p ≤ s.dep + 2 ∧ PyData.eqv p p = true
  | .atom a => by
    have hi : ∀ ws : List Int, D.pys (ws.map D.int) = some (ws.map PyData.int) := fun ws => by
      induction ws with
      | nil => rfl
      | cons w ws ih => simp only [List.map_cons, D.pys, D.py, ih]
    have hd : ∀ ws : List Int, PyData.depthAll (ws.map PyData.int) = 0 := fun ws => by
      induction ws with
      | nil => rfl
      | cons w ws ih => simp only [List.map_cons, PyData.depthAll, PyData.depth, ih]; rfl
    have hc : ∀ ws : List Int, PyData.canLayAll0 (ws.map PyData.int) = true := fun ws => by
      induction ws with
      | nil => rfl
      | cons w ws ih => simp only [List.map_cons, PyData.canLayAll0, PyData.canLay0, ih]; rfl
    have he : ∀ ws : List Int, PyData.eqvAll (ws.map PyData.int) (ws.map PyData.int) = true := fun ws => by
      induction ws with
      | nil => rfl
      | cons w ws ih => simp only [List.map_cons, PyData.eqvAll, PyData.eqv, ih, beq_self_eq_true, Bool.and_self]
    cases a with
    | least ws b =>
      refine ⟨.tuple [.str "least", .tuple (ws.map PyData.int), .int b], ?_, ?_, ?_, ?_⟩
      · simp only [Sen.e, At.e, D.py, D.pys, hi, Option.map_some]
      · have : PyData.canLay0 (.str "least") = true := by kernel_rfl
        simp only [PyData.canLay0, PyData.canLayAll0, hc] at this ⊢
        simp only [this, Bool.and_self, Bool.true_and]
      · simp only [PyData.depth, PyData.depthAll, hd, Sen.dep]; omega
      · simp only [PyData.eqv, PyData.eqvAll, he, beq_self_eq_true, Bool.and_self]
    | rest ws w r =>
      refine ⟨.tuple [.str "rest", .tuple (ws.map PyData.int), .int (Int.ofNat (w + 1)), .int r], ?_, ?_, ?_, ?_⟩
      · simp only [Sen.e, At.e, D.py, D.pys, hi, Option.map_some]
      · have : PyData.canLay0 (.str "rest") = true := by kernel_rfl
        simp only [PyData.canLay0, PyData.canLayAll0, hc] at this ⊢
        simp only [this, Bool.and_self, Bool.true_and]
      · simp only [PyData.depth, PyData.depthAll, hd, Sen.dep]; omega
      · simp only [PyData.eqv, PyData.eqvAll, he, beq_self_eq_true, Bool.and_self]
  | .not s => by
    obtain ⟨p, h1, h2, h3, h4⟩ := eqv_self s
    refine ⟨.tuple [.str "not", p], ?_, ?_, ?_, ?_⟩
    · simp only [Sen.e, D.py, D.pys, h1, Option.map_some]
    · have : PyData.canLay0 (.str "not") = true := by kernel_rfl
      simp only [PyData.canLay0, PyData.canLayAll0, h2] at this ⊢
      simp only [this, Bool.and_self, Bool.true_and]
    · simp only [PyData.depth, PyData.depthAll, Sen.dep]; omega
    · simp only [PyData.eqv, PyData.eqvAll, h4, beq_self_eq_true, Bool.and_self]
  | .two c a b => by
    obtain ⟨p, h1, h2, h3, h4⟩ := eqv_self a
    obtain ⟨q, g1, g2, g3, g4⟩ := eqv_self b
    refine ⟨.tuple [.str (if c then "and" else "or"), p, q], ?_, ?_, ?_, ?_⟩
    · simp only [Sen.e, D.py, D.pys, h1, g1, Option.map_some]
    · have : PyData.canLay0 (.str (if c then "and" else "or")) = true := by cases c <;> kernel_rfl
      simp only [PyData.canLay0, PyData.canLayAll0, h2, g2] at this ⊢
      simp only [this, Bool.and_self, Bool.true_and]
    · simp only [PyData.depth, PyData.depthAll, Sen.dep]; omega
    · simp only [PyData.eqv, PyData.eqvAll, h4, g4, beq_self_eq_true, Bool.and_self]
theorem eq_sen (s : Sen) (h : s.dep ≤ 60) : eqD s.e s.e = some true := by
  obtain ⟨p, h1, h2, h3, h4⟩ := eqv_self s
  have h5 : SeqAt.shaped p = true := by
    unfold SeqAt.shaped
    rw [h2, decide_eq_true (show PyData.depth p ≤ 64 by omega)]
    rfl
  simp only [eqD, h1, h5, Bool.and_self, if_true, h4]
def wS (b : Bool) : Str := if b then "yes" else "no"
theorem wS_eq (b c : Bool) : (wS b == wS c) = (b == c) := by cases b <;> cases c <;> decide +kernel
theorem pys_words : ∀ bs : List Bool, D.pys (bs.map wordD) = some (bs.map fun b => PyData.str (wS b))
  | [] => rfl
  | b :: bs => by simp only [List.map_cons, D.pys, wordD, D.py, pys_words bs]; rfl
theorem lay_words : ∀ bs : List Bool, PyData.canLayAll0 (bs.map fun b => PyData.str (wS b)) = true
  | [] => rfl
  | b :: bs => by
    have : PyData.canLay0 (.str (wS b)) = true := by cases b <;> kernel_rfl
    simp only [List.map_cons, PyData.canLayAll0, this, lay_words bs, Bool.and_self]
theorem dep_words : ∀ bs : List Bool, PyData.depthAll (bs.map fun b => PyData.str (wS b)) = 0
  | [] => rfl
  | b :: bs => by simp only [List.map_cons, PyData.depthAll, PyData.depth, dep_words bs]; rfl
theorem eqv_words : ∀ bs cs : List Bool, PyData.eqvAll (bs.map fun b => PyData.str (wS b)) (cs.map fun b => PyData.str (wS b)) = (bs == cs)
  | [], [] => rfl
  | [], _ :: _ => rfl
  | _ :: _, [] => rfl
  | b :: bs, c :: cs => by simp only [List.map_cons, PyData.eqvAll, PyData.eqv, wS_eq, eqv_words bs cs]; rfl
theorem eq_words (bs cs : List Bool) : eqD (.lst (bs.map wordD)) (.lst (cs.map wordD)) = some (bs == cs) := by
  have sh : ∀ bs : List Bool, SeqAt.shaped (.list (bs.map fun b => PyData.str (wS b))) = true := fun bs => by
    have h1 : PyData.canLay0 (.list (bs.map fun b => PyData.str (wS b))) = true := by simp only [PyData.canLay0, lay_words]
    have h2 : PyData.depth (.list (bs.map fun b => PyData.str (wS b))) ≤ 64 := by simp only [PyData.depth, dep_words]; omega
    unfold SeqAt.shaped
    rw [h1, decide_eq_true h2]; rfl
  simp only [eqD, D.py, pys_words, Option.map_some, sh, Bool.and_self, if_true, PyData.eqv, eqv_words]
theorem c_eqW (Γ : Pr) (b c : Bool) (μ : Sto) : cmpD Γ .eq (wordD b) (wordD c) μ = some (b == c, μ) := by cases b <;> cases c <;> kernel_rfl
theorem c_words (Γ : Pr) (bs cs : List Bool) (μ : Sto) : cmpD Γ .ne (.lst (bs.map wordD)) (.lst (cs.map wordD)) μ = some (!(bs == cs), μ) := by
  show ((eqD (.lst (bs.map wordD)) (.lst (cs.map wordD))).map fun b => (b, μ)).map _ = _
  simp only [eq_words, Option.map_some]
theorem c_wordsE (Γ : Pr) (bs cs : List Bool) (μ : Sto) : cmpD Γ .eq (.lst (bs.map wordD)) (.lst (cs.map wordD)) μ = some (bs == cs, μ) := by
  show ((eqD (.lst (bs.map wordD)) (.lst (cs.map wordD))).map fun b => (b, μ)) = _
  simp only [eq_words, Option.map_some]
theorem c_sen (Γ : Pr) (s : Sen) (h : s.dep ≤ 60) (μ : Sto) : cmpD Γ .ne s.e s.e μ = some (false, μ) := by
  have e : eqA Γ s.e s.e μ = (eqD s.e s.e).map fun b => (b, μ) := by cases s <;> first | rfl | (rename_i a; cases a <;> rfl)
  show (eqA Γ s.e s.e μ).map _ = _
  rw [e, eq_sen s h]; rfl
/-! ### what a throng says -/
def wordsL (s : Sen) (folk : List (List Th)) : List Bool := folk.map s.word
section
variable {wf k n nf ng : Nat} {μ : Sto} {s : Sen} {folk : List (List Th)} {by_ : List (Key × D)} {marks : D} {ρ : Rho}
theorem wipe1 (ρ : Rho) (j : Nat) (d : D) : (wipeD ρ [j]).set j (some d) = ρ.set j (some d) := by
  show (ρ.set j none).set j (some d) = _
  rw [List.set_set]
/-- what all say, asked one by one -/
theorem ev_says (h : Has μ n nf ng s folk by_ marks) (ok : Ok μ) (hf : Fits s folk) (hk : s.dep < k) (hl : s.ats.length ≤ 1000) (hm : folk.length ≤ 1000) {t j : Nat} {M : E} (ht : ρ[t]? = some (some (.cell n))) (htj : j ≠ t) (hj : j < ρ.length)
    (hM : ev (G.pr wf (k + 2)) M ρ μ = some (.int (folk.length : Nat), μ)) : ev (G.pr wf (k + 2)) (.lc false [j] (.one (.n j)) (.rng (.c (.int 0)) M) .nil (.meth (.v t) "says" (.cons (.v j) .nil))) ρ μ = some (.lst ((wordsL s folk).map wordD), μ) := by
  have hi := i_rng (Γ := G.pr wf (k + 2)) (ρ := ρ) (μ := μ) (e_c (d := .int 0)) hM (b62 (by omega) (by omega)) (b62 (by omega) (by omega))
  rw [rng0] at hi
  have hc := ev_lc1 (own := [j]) (tg := .one (.n j)) (cs := .nil) (elt := .meth (.v t) "says" (.cons (.v j) .nil)) (g := fun x => match x with | .int i => (match folk[i.toNat]? with | some ts => wordD (s.word ts) | none => .non) | x => x) hi rfl (small (by simp; omega)) fun x hx => by
    obtain ⟨i, hi, rfl⟩ := List.mem_map.mp hx
    have hi := List.mem_range.mp hi
    have e : folk[i]? = some folk[i] := by simp [hi]
    have e1 := run_says (wf := wf) (k := k) h ok hf hk hl e
    refine lc_step (ρ1 := ρ.set j (some (.int (i : Nat)))) ?_ ?_
    · show some ((wipeD ρ [j]).set j (some (.int (i : Nat))), μ) = _
      rw [wipe1]
    · simp only [Int.toNat_natCast, e]
      refine e_meth (e_v (by rw [List.getElem?_set_ne htj]; exact ht)) (recv_T h rfl) (es_1 (e_v (by rw [List.getElem?_set_self hj]))) e1
  refine hc.trans ?_
  congr 3
  rw [List.map_map]
  apply List.ext_getElem?
  intro i
  simp only [List.getElem?_map, wordsL]
  by_cases hi : i < folk.length
  · simp [hi]
  · simp [hi]
def saidW : List Bool → D
  | [] => .non
  | w :: r => if r.all (· == w) then wordD w else .non
theorem bls_map : ∀ bs : List Bool, bls (bs.map D.bl) = some bs
  | [] => rfl
  | b :: bs => by simp only [List.map_cons, bls, bls_map bs, Option.map_some]
theorem e_or {Γ : Pr} {a b : E} {ρ : Rho} {μ μ1 μ2 : Sto} {x y : D} {t : Bool} (h1 : ev Γ a ρ μ = some (x, μ1)) (ht : truth x μ1 = some t) (h2 : t = false → ev Γ b ρ μ1 = some (y, μ2)) : ev Γ (.or a b) ρ μ = if t then some (x, μ1) else some (y, μ2) := by
  cases t with
  | true => simp only [ev, h1, bnd_some, ht, if_true]
  | false => simp only [ev, h1, bnd_some, ht, h2 rfl]; rfl
theorem run_said (h : Has μ n nf ng s folk by_ marks) (ok : Ok μ) (hf : Fits s folk) (hk : s.dep < k) (hl : s.ats.length ≤ 1000) (hm : folk.length ≤ 1000) :
    (G.pr wf (k + 3)).meth "Throng" "said" [.cell n] μ = some (saidW (wordsL s folk), μ) := by
  rw [meth_s wf (k + 2) "Throng" "said" (d := d_Throng_said) rfl]
  have hw : (G.pr wf (k + 2)).meth "Throng" "words" [.cell n] μ = some (.lst ((wordsL s folk).map wordD), μ) := by
    rw [run_words h ok hf hk hl hm, wordsL, List.map_map]; rfl
  have hl1 : (wordsL s folk).length ≤ 1000 := by simp [wordsL]; omega
  generalize wordsL s folk = ws at hw hl1
  let R0 : Rho := [some (.cell n), none, none, none]
  have e1 : ev (G.pr wf (k + 2)) (.meth (.v 0) "words" .nil) R0 μ = some (.lst (ws.map wordD), μ) := e_meth (e_v rfl) (recv_T h rfl) es_nil hw
  cases ws with
  | nil =>
    have e2 := e_or (y := .lst [.non]) (μ2 := μ) (b := .lst false (.cons (.c .non) .nil)) e1 (t := false) rfl fun _ => e_lst (es_1 e_c) (small (by simp))
    rw [if_neg Bool.false_ne_true] at e2
    refine run_retX R0 (ρ' := [some (.cell n), some .non, some (.lst []), none]) rfl rfl rfl (sq (ρ' := [some (.cell n), some .non, some (.lst []), none]) (μ' := μ) (s_setT e2 ?_) (sq_ret (s_ret ?_)))
    · rfl
    · kernel_rfl
  | cons w r =>
    have e2 := e_or (y := .non) (μ2 := μ) (b := .lst false (.cons (.c .non) .nil)) e1 (t := true) rfl fun h => by cases h
    rw [if_pos rfl] at e2
    let R : Rho := [some (.cell n), some (wordD w), some (.lst (r.map wordD)), none]
    have hb : DP.bind (G.pr wf (k + 2)) (.star [(.n 1)] (.n 2) []) (.lst ((w :: r).map wordD)) R0 μ = some (R, μ) := by
      simp only [DP.bind, List.map_cons, Option.bind_some]
      rw [if_pos (by simp at hl1 ⊢; omega)]
      have e : ((List.drop 1 (wordD w :: r.map wordD)).take ((wordD w :: r.map wordD).length - [Leaf.n 1].length - ([] : List Leaf).length)) = r.map wordD := by
        simp
        exact List.take_of_length_le (by rw [List.length_map]; exact Nat.le_refl _)
      have e' : List.drop ((wordD w :: r.map wordD).length - ([] : List Leaf).length) (wordD w :: r.map wordD) = [] := by simp
      show storeAll _ _ (List.take 1 (wordD w :: r.map wordD) ++ [D.lst ((List.drop 1 (wordD w :: r.map wordD)).take ((wordD w :: r.map wordD).length - [Leaf.n 1].length - ([] : List Leaf).length))] ++ List.drop ((wordD w :: r.map wordD).length - ([] : List Leaf).length) (wordD w :: r.map wordD)) _ _ = _
      rw [e, e']
      rfl
    have e3 : ev (G.pr wf (k + 2)) (.lc false [3] (.one (.n 3)) (.cons (.v 2) .nil) .nil (.cmp .eq (.v 3) (.v 1))) R μ = some (.lst ((r.map (· == w)).map D.bl), μ) := by
      have := ev_lc1 (Γ := G.pr wf (k + 2)) (own := [3]) (tg := .one (.n 3)) (cs := .nil) (elt := .cmp .eq (.v 3) (.v 1)) (ρ := R) (μ := μ) (w := none) (xs := r.map wordD) (g := fun x => match cmpD (G.pr wf (k + 2)) .eq x (wordD w) μ with | some (b, _) => .bl b | none => x) (i_one (e_v (i := 2) (ρ := R) rfl)) rfl (small (by simp at hl1 ⊢; omega)) fun x hx => by
        obtain ⟨b, _, rfl⟩ := List.mem_map.mp hx
        have e := c_eqW (G.pr wf (k + 2)) b w μ
        refine lc_step (ρ1 := [some (.cell n), some (wordD w), some (.lst (r.map wordD)), some (wordD b)]) rfl ?_
        simp only [e]
        exact e_cmp (e_v rfl) (e_v rfl) e
      rw [this, List.map_map, List.map_map]
      congr 3
      apply List.map_congr_left
      intro b _
      simp only [Function.comp, c_eqW]
    have e4 : evT (G.pr wf (k + 2)) (.cons (.bi .all false (.cons (.lc false [3] (.one (.n 3)) (.cons (.v 2) .nil) .nil (.cmp .eq (.v 3) (.v 1))) .nil)) .nil) R μ = some (r.all (· == w), μ) :=
      t_bl (e_bi (es_1 e3) (by simp only [biD, listed, Option.bind_some, bls_map, Option.map_some, List.all_map]; rfl))
    refine run_retX R0 (ρ' := R) rfl rfl rfl (sq (ρ' := R) (μ' := μ) (s_setT e2 hb) (sq_ret (s_ret ?_)))
    rw [e_ife e4, saidW]
    split
    · exact e_v rfl
    · exact e_c
end
end P96

/-! k96 in plain Lean, continued: throngs made, copied, compared, come to. -/
namespace P96
open PySem PySem.Spec L2 DP LW

/-! ### who came by the gates -/
def gw : Nat → Str
  | 0 => "a"
  | 1 => "b"
  | _ => "c"
def byD : List Int → List (Key × D)
  | [x] => [(.inr "a", .int x)]
  | [x, y] => [(.inr "a", .int x), (.inr "b", .int y)]
  | [x, y, z] => [(.inr "a", .int x), (.inr "b", .int y), (.inr "c", .int z)]
  | _ => []
theorem three {α : Type} {P : List α → Prop} (h1 : ∀ x, P [x]) (h2 : ∀ x y, P [x, y]) (h3 : ∀ x y z, P [x, y, z]) (cs : List α) (h : 1 ≤ cs.length ∧ cs.length ≤ 3) : P cs := by
  match cs, h with
  | [x], _ => exact h1 x
  | [x, y], _ => exact h2 x y
  | [x, y, z], _ => exact h3 x y z
theorem by_flat (cs : List Int) : ((byD cs).all fun kv => kv.2.flat) = true := by
  unfold byD; split <;> rfl
theorem by_eq (cs : List Int) : eqDict (byD cs) (byD cs) = true := by
  have e : ∀ x : Int, eqF (.int x) (.int x) = true := fun x => by simp [eqF, D.toV, eqV]
  have ha : ∀ (r : List (Key × D)) (x : D), lookK ((.inr "a", x) :: r) (.inr "a") = some x := fun r x => by kernel_rfl
  have hb : ∀ (r : List (Key × D)) (x y : D), lookK ((.inr "a", x) :: (.inr "b", y) :: r) (.inr "b") = some y := fun r x y => by kernel_rfl
  have hc : ∀ (r : List (Key × D)) (x y z : D), lookK ((.inr "a", x) :: (.inr "b", y) :: (.inr "c", z) :: r) (.inr "c") = some z := fun r x y z => by kernel_rfl
  unfold byD eqDict
  split
  · simp [ha, e]
  · simp [ha, hb, e]
  · simp [ha, hb, hc, e]
  · rfl
theorem by_under (n : Nat) (cs : List Int) : cutOk n (.dct (byD cs)) = true := by
  unfold byD; split <;> rfl
theorem by_mem {cs : List Int} {i : Nat} (h1 : i < cs.length) (h2 : cs.length ≤ 3) : ∃ c, cs[i]? = some c ∧ lookK (byD cs) (.inr (gw i)) = some (.int c) := by
  have h0 : 1 ≤ cs.length := by omega
  revert h1
  refine three (P := fun cs => i < cs.length → ∃ c, cs[i]? = some c ∧ lookK (byD cs) (.inr (gw i)) = some (.int c)) ?_ ?_ ?_ cs ⟨h0, h2⟩
  · intro x h; obtain rfl : i = 0 := by simpa using h
    exact ⟨x, rfl, by kernel_rfl⟩
  · intro x y h
    have h : i < 2 := h
    rcases (show i = 0 ∨ i = 1 by omega) with rfl | rfl
    · exact ⟨x, rfl, by kernel_rfl⟩
    · exact ⟨y, rfl, by kernel_rfl⟩
  · intro x y z h
    have h : i < 3 := h
    rcases (show i = 0 ∨ i = 1 ∨ i = 2 by omega) with rfl | rfl | rfl
    · exact ⟨x, rfl, by kernel_rfl⟩
    · exact ⟨y, rfl, by kernel_rfl⟩
    · exact ⟨z, rfl, by kernel_rfl⟩
theorem by_put {cs : List Int} {i : Nat} (h1 : i < cs.length) (h2 : cs.length ≤ 3) (v : Int) : putKD (byD cs) (.inr (gw i)) (.int v) = byD (cs.set i v) := by
  have h0 : 1 ≤ cs.length := by omega
  revert h1
  refine three (P := fun cs => i < cs.length → putKD (byD cs) (.inr (gw i)) (.int v) = byD (cs.set i v)) ?_ ?_ ?_ cs ⟨h0, h2⟩
  · intro x h; obtain rfl : i = 0 := by simpa using h
    kernel_rfl
  · intro x y h
    have h : i < 2 := h
    rcases (show i = 0 ∨ i = 1 by omega) with rfl | rfl <;> kernel_rfl
  · intro x y z h
    have h : i < 3 := h
    rcases (show i = 0 ∨ i = 1 ∨ i = 2 by omega) with rfl | rfl | rfl <;> kernel_rfl
theorem by_index {cs : List Int} {i : Nat} (h1 : i < cs.length) (h2 : cs.length ≤ 3) (μ : Sto) : biD .index false [.lst ((byD cs).map fun kv => dKey kv.1), .str (gw i)] μ = some (.int (i : Nat), μ) := by
  have h0 : 1 ≤ cs.length := by omega
  revert h1
  refine three (P := fun cs => i < cs.length → biD .index false [.lst ((byD cs).map fun kv => dKey kv.1), .str (gw i)] μ = some (.int (i : Nat), μ)) ?_ ?_ ?_ cs ⟨h0, h2⟩
  · intro x h; obtain rfl : i = 0 := by simpa using h
    kernel_rfl
  · intro x y h
    have h : i < 2 := h
    rcases (show i = 0 ∨ i = 1 by omega) with rfl | rfl <;> kernel_rfl
  · intro x y z h
    have h : i < 3 := h
    rcases (show i = 0 ∨ i = 1 ∨ i = 2 by omega) with rfl | rfl | rfl <;> kernel_rfl
theorem by_len (cs : List Int) : (byD cs).length ≤ 3 := by unfold byD; split <;> simp
/-! ### a throng made -/
def insT (fs : List (Str × D)) : Cel := .ins "Throng" fs
theorem first_mem : ∀ s : Sen, s.first ∈ s.ats
  | .atom a => by simp [Sen.first, Sen.ats]
  | .not s => first_mem s
  | .two _ a b => by simp only [Sen.first, Sen.ats, List.mem_append]; exact .inl (first_mem a)
theorem Ok.app1 {μ : Sto} (ok : Ok μ) {c : Cel} (h : cutOk (μ.length + 1) c = true) : Ok (μ ++ [c]) := ok.app (r := [c]) (by simpa using h)
theorem s_fldT {wf k : Nat} {o e : E} {f : Str} {d : D} {ρ : Rho} {r r1 μ0 : Sto} {fs : List (Str × D)} (he : ev (G.pr wf k) e ρ (μ0 ++ insT fs :: r) = some (d, μ0 ++ insT fs :: r1)) (ho : ev (G.pr wf k) o ρ (μ0 ++ insT fs :: r1) = some (.cell μ0.length, μ0 ++ insT fs :: r1))
    (ha : f ∈ (["sentence", "parts", "folk", "by_gate", "marks"] : List Str)) (hl : fs.length < 40) : evS (G.pr wf k) (.fld o f e) ρ (μ0 ++ insT fs :: r) = some (.next, ρ, μ0 ++ insT (storeLeaf.putF' f d fs) :: r1) := by
  have := s_fld (Γ := G.pr wf k) (f := f) (C := "Throng") he ho (at_mid μ0 r1 (insT fs)) (by rw [att_Throng]; exact ha) hl
  rw [this, set_mid]; rfl
theorem ev_gates {wf k t : Nat} (ht : 1 ≤ t ∧ t ≤ 3) {ρ : Rho} {μ : Sto} {a b : D} (hρ : ρ = [some a, some b, none, none]) (hm : ev (G.pr wf k) (.call "many_of" (.cons (.v 1) .nil)) ρ μ = some (.int (t : Nat), μ)) :
    ev (G.pr wf k) (.dc [3] (.one (.n 3)) (.cons (.sl false (.g "GATE_WORDS") .noP (.cons (.call "many_of" (.cons (.v 1) .nil)) .nil)) .nil) .nil (.v 3) (.c (.int 0))) ρ μ = some (.cell μ.length, μ ++ [.dct (byD (List.replicate t 0))]) := by
  have hi : evI (G.pr wf k) (.cons (.sl false (.g "GATE_WORDS") .noP (.cons (.call "many_of" (.cons (.v 1) .nil)) .nil)) .nil) ρ μ = some (((["a", "b", "c"] : List Str).take t |>.map D.str, none), μ) := by
    have e : ev (G.pr wf k) (.sl false (.g "GATE_WORDS") .noP (.cons (.call "many_of" (.cons (.v 1) .nil)) .nil)) ρ μ = some (.tup ((["a", "b", "c"] : List Str).take t |>.map D.str), μ) := by
      have hg : ev (G.pr wf k) (.g "GATE_WORDS") ρ μ = some (.tup [.str "a", .str "b", .str "c"], μ) := by kernel_rfl
      have hp : evP (G.pr wf k) (.cons (.call "many_of" (.cons (.v 1) .nil)) .nil) ρ μ = some (some ((t : Nat) : Int), μ) := by simp only [evP, hm, bnd_some]
      simp only [ev, hg, evP, bnd_some, hp]
      show bnd (bnd (ev (G.pr wf k) (.call "many_of" (.cons (.v 1) .nil)) ρ μ) _) _ = _
      rw [hm]
      rcases (show t = 1 ∨ t = 2 ∨ t = 3 by omega) with rfl | rfl | rfl <;> kernel_rfl
    simp only [evI, e, bnd_some]
  subst hρ
  show bnd (evI (G.pr wf k) (.cons (.sl false (.g "GATE_WORDS") .noP (.cons (.call "many_of" (.cons (.v 1) .nil)) .nil)) .nil) [some a, some b, none, none] μ) _ = _
  rw [hi]
  rcases (show t = 1 ∨ t = 2 ∨ t = 3 by omega) with rfl | rfl | rfl <;> kernel_rfl
/-- a sentence that the law draws -/
structure SenOk (s : Sen) (t : Nat) : Prop where
  ws : ∀ a ∈ s.ats, a.ws.length = t
  t1 : 1 ≤ t
  t3 : t ≤ 3
  dep : s.dep ≤ 5
  at1 : 1 ≤ s.ats.length
  at4 : s.ats.length ≤ 12
  sm : ∀ a ∈ s.ats, Small a
def partsD (s : Sen) : D := .lst (s.ats.map At.part)
/-- a throng's four cells, one behind the other -/
def thr (n : Nat) (s : Sen) (folk : List (List Th)) (cs : List Int) : Sto := [insT (thF s.e (partsD s) (n + 1) (n + 2) (.cell (n + 3))), .lst (fD folk), .dct (byD cs), .lst []]
theorem run_initT {s : Sen} {t : Nat} (h : SenOk s t) (wf k : Nat) (hw : 5 < wf) (μ : Sto) (ok : Ok μ) : (G.pr wf (k + 7)).meth "Throng" "__init__" [.cell μ.length, s.e] (μ ++ [.ins "Throng" []]) =
    some (.non, μ ++ [insT (thF s.e (partsD s) (μ.length + 1) (μ.length + 2) (.cell (μ.length + 3))), .lst [], .dct (byD (List.replicate t 0)), .lst []]) := by
  rw [meth_s wf (k + 6) "Throng" "__init__" (d := d_Throngu_initu) rfl]
  have hd := h.dep
  have h4 := h.at4
  let R : Rho := [some (.cell μ.length), some s.e, none, none]
  have ok1 : Ok (μ ++ [insT [("sentence", s.e)]]) := ok.app1 (by show (D.under _ s.e && true) = true; rw [under_sen]; rfl)
  have ep : ev (G.pr wf (k + 6)) (.lc false [2] (.one (.n 2)) (.cons (.call "atoms_of" (.cons (.v 1) .nil)) .nil) .nil (.call "made_of" (.cons (.v 2) .nil))) R (μ ++ [insT [("sentence", s.e)]]) = some (partsD s, μ ++ [insT [("sentence", s.e)]]) := by
    have ea := run_atoms wf (μ ++ [insT [("sentence", s.e)]]) s (k + 6) (by omega) (by omega)
    have hi : evI (G.pr wf (k + 6)) (.cons (.call "atoms_of" (.cons (.v 1) .nil)) .nil) R (μ ++ [insT [("sentence", s.e)]]) = some ((s.ats.map At.e, none), μ ++ [insT [("sentence", s.e)]]) := i_one (e_call (es_1 (e_v rfl)) ea)
    have := ev_lc1 (own := [2]) (tg := .one (.n 2)) (cs := .nil) (elt := .call "made_of" (.cons (.v 2) .nil)) (g := fun x => match (G.pr wf (k + 6)).call "made_of" [x] (μ ++ [insT [("sentence", s.e)]]) with | some (d, _) => d | none => x) hi rfl (small (by simp; omega)) fun x hx => by
      obtain ⟨a, ha, rfl⟩ := List.mem_map.mp hx
      have e := run_made wf (k + 4) a (μ ++ [insT [("sentence", s.e)]]) (by rw [h.ws a ha]; have := h.t3; omega) ok1
      refine lc_step (ρ1 := [some (.cell μ.length), some s.e, some a.e, none]) rfl ?_
      simp only [e]
      exact e_call (es_1 (e_v rfl)) e
    rw [this, List.map_map, partsD]
    congr 3
    apply List.map_congr_left
    intro a ha
    have e := run_made wf (k + 4) a (μ ++ [insT [("sentence", s.e)]]) (by rw [h.ws a ha]; have := h.t3; omega) ok1
    simp only [Function.comp, e]
  have em : ∀ μ', ev (G.pr wf (k + 6)) (.call "many_of" (.cons (.v 1) .nil)) R μ' = some (.int (t : Nat), μ') := fun μ' => by
    have hf := h.ws _ (first_mem s)
    have := run_many wf (k + 5) μ' s (by omega) (by have := h.t3; omega)
    rw [hf] at this
    exact e_call (es_1 (e_v rfl)) this
  have st1 : evS (G.pr wf (k + 6)) (.fld (.v 0) "sentence" (.v 1)) R (μ ++ [insT []]) = some (.next, R, μ ++ [insT [("sentence", s.e)]]) := s_fldT (fs := []) (e_v rfl) (e_v rfl) (by decide) (by simp)
  have st2 : evS (G.pr wf (k + 6)) (.fld (.v 0) "parts" (.lc false [2] (.one (.n 2)) (.cons (.call "atoms_of" (.cons (.v 1) .nil)) .nil) .nil (.call "made_of" (.cons (.v 2) .nil)))) R (μ ++ [insT [("sentence", s.e)]]) = some (.next, R, μ ++ [insT [("sentence", s.e), ("parts", partsD s)]]) :=
    s_fldT (fs := [("sentence", s.e)]) ep (e_v rfl) (by decide) (by simp)
  have e3 : ev (G.pr wf (k + 6)) (.lst true .nil) R (μ ++ [insT [("sentence", s.e), ("parts", partsD s)]]) = some (.cell (μ.length + 1), μ ++ [insT [("sentence", s.e), ("parts", partsD s)], .lst []]) := by
    have := e_lstM (Γ := G.pr wf (k + 6)) (ρ := R) (es_nil (μ := μ ++ [insT [("sentence", s.e), ("parts", partsD s)]])) (small (by simp))
    rw [this]; simp
  have st3 : evS (G.pr wf (k + 6)) (.fld (.v 0) "folk" (.lst true .nil)) R (μ ++ [insT [("sentence", s.e), ("parts", partsD s)]]) = some (.next, R, μ ++ [insT [("sentence", s.e), ("parts", partsD s), ("folk", .cell (μ.length + 1))], .lst []]) :=
    s_fldT (fs := [("sentence", s.e), ("parts", partsD s)]) (r := []) (r1 := [.lst []]) e3 (e_v rfl) (by decide) (by simp)
  have e4 := ev_gates (wf := wf) (k := k + 6) (t := t) ⟨h.t1, h.t3⟩ (ρ := R) (μ := μ ++ [insT [("sentence", s.e), ("parts", partsD s), ("folk", .cell (μ.length + 1))], .lst []]) rfl (em _)
  have l4 : (μ ++ [insT [("sentence", s.e), ("parts", partsD s), ("folk", .cell (μ.length + 1))], .lst []]).length = μ.length + 2 := by simp
  rw [l4, List.append_assoc] at e4
  have st4 := s_fldT (o := .v 0) (f := "by_gate") (fs := [("sentence", s.e), ("parts", partsD s), ("folk", .cell (μ.length + 1))]) (r := [.lst []]) (r1 := [.lst [], .dct (byD (List.replicate t 0))]) e4 (e_v rfl) (by decide) (by simp)
  have e5 : ev (G.pr wf (k + 6)) (.lst true .nil) R (μ ++ [insT [("sentence", s.e), ("parts", partsD s), ("folk", .cell (μ.length + 1)), ("by_gate", .cell (μ.length + 2))], .lst [], .dct (byD (List.replicate t 0))]) = some (.cell (μ.length + 3), μ ++ [insT [("sentence", s.e), ("parts", partsD s), ("folk", .cell (μ.length + 1)), ("by_gate", .cell (μ.length + 2))], .lst [], .dct (byD (List.replicate t 0)), .lst []]) := by
    have := e_lstM (Γ := G.pr wf (k + 6)) (ρ := R) (es_nil (μ := μ ++ [insT [("sentence", s.e), ("parts", partsD s), ("folk", .cell (μ.length + 1)), ("by_gate", .cell (μ.length + 2))], .lst [], .dct (byD (List.replicate t 0))])) (small (by simp))
    rw [this]; simp
  have st5 : evS (G.pr wf (k + 6)) (.fld (.v 0) "marks" (.lst true .nil)) R (μ ++ [insT [("sentence", s.e), ("parts", partsD s), ("folk", .cell (μ.length + 1)), ("by_gate", .cell (μ.length + 2))], .lst [], .dct (byD (List.replicate t 0))]) = some (.next, R, μ ++ thr μ.length s [] (List.replicate t 0)) :=
    s_fldT (fs := [("sentence", s.e), ("parts", partsD s), ("folk", .cell (μ.length + 1)), ("by_gate", .cell (μ.length + 2))]) (r := [.lst [], .dct (byD (List.replicate t 0))]) (r1 := [.lst [], .dct (byD (List.replicate t 0)), .lst []]) e5 (e_v rfl) (by decide) (by simp)
  exact run_next (ρ' := R) rfl rfl (sq st1 (sq st2 (sq st3 (sq st4 (sq st5 rfl)))))
theorem ev_make {s : Sen} {t : Nat} (h : SenOk s t) (wf k : Nat) (hw : 5 < wf) {μ μ1 : Sto} {ρ : Rho} {e : E} (ok : Ok μ1) (he : ev (G.pr wf (k + 7)) e ρ μ = some (s.e, μ1)) : ev (G.pr wf (k + 7)) (.make false "Throng" (.cons e .nil)) ρ μ = some (.cell μ1.length, μ1 ++ thr μ1.length s [] (List.replicate t 0)) := by
  rw [e_make (es_1 he) (run_initT h wf k hw μ1 ok), if_neg Bool.false_ne_true]
  rfl
theorem Has.app {n nf ng : Nat} {μ : Sto} {s : Sen} {folk : List (List Th)} {by_ : List (Key × D)} {marks : D} (h : Has μ n nf ng s folk by_ marks) (r : Sto) : Has (μ ++ r) n nf ng s folk by_ marks := by
  have g : ∀ {i : Nat} {c : Cel}, μ[i]? = some c → (μ ++ r)[i]? = some c := fun {i c} h => by
    rw [List.getElem?_append_left (List.getElem?_eq_some_iff.mp h).1]; exact h
  exact ⟨g h.ins, g h.folk, g h.gate⟩
end P96

/-! k96 in plain Lean, continued: copies, ==, who comes, the law's pairs. -/
namespace P96
open PySem PySem.Spec L2 DP LW

theorem watch_self {μ : Sto} {n : Nat} {ds : List D} (h : μ[n]? = some (.lst ds)) : watch (some (n, ds)) μ = true := by simp [watch, h]
theorem i_folk {wf k n nf ng : Nat} {μ : Sto} {s : Sen} {folk : List (List Th)} {by_ : List (Key × D)} {marks : D} {ρ : Rho} (h : Has μ n nf ng s folk by_ marks) {o : E} (ho : ev (G.pr wf k) o ρ μ = some (.cell n, μ)) : evI (G.pr wf k) (.cons (.fld o "folk") .nil) ρ μ = some ((fD folk, some (nf, fD folk)), μ) := by
  simp only [evI, h.e_folk ho, bnd_some, h.folk]
  rfl
theorem cut_ins {m : Nat} {s : Sen} {nf ng nm : Nat} (h1 : nf < m) (h2 : ng < m) (h3 : nm < m) : cutOk m (insT (thF s.e (partsD s) nf ng (.cell nm))) = true := by
  show (D.under m s.e && (D.under m (partsD s) && (decide (nf < m) && (decide (ng < m) && (decide (nm < m) && true))))) = true
  rw [under_sen, show D.under m (partsD s) = true from under_parts m s, decide_eq_true h1, decide_eq_true h2, decide_eq_true h3]; rfl
/-! ### == -/
theorem e_isi {Γ : Pr} {a : E} {C : Str} {ρ : Rho} {μ μ1 : Sto} {d : D} (h : ev Γ a ρ μ = some (d, μ1)) (hc : cls d μ1 = some C) : ev Γ (.isi a C) ρ μ = some (.bl true, μ1) := by
  simp only [ev, h, bnd_some, hc, Option.map_some, decide_true]
theorem t_not {Γ : Pr} {a : E} {ρ : Rho} {μ μ1 : Sto} {k : Bool} (h : evT Γ a ρ μ = some (k, μ1)) : evT Γ (.not a) ρ μ = some (!k, μ1) := by simp only [evT, h, bnd_some]
section
variable {wf k n nf ng n' nf' ng' : Nat} {μ : Sto} {s : Sen} {folk : List (List Th)} {cs : List Int} {m m' : D} {ρ : Rho}
theorem cls_T {by_ : List (Key × D)} (h : Has μ n nf ng s folk by_ m) : cls (.cell n) μ = some ("Throng" : Str) := by simp only [cls, h.ins]
theorem words_T {by_ : List (Key × D)} (h : Has μ n nf ng s folk by_ m) (ok : Ok μ) (hf : Fits s folk) (hk : s.dep < k) (hl : s.ats.length ≤ 1000) (hm : folk.length ≤ 1000) : (G.pr wf (k + 2)).meth "Throng" "words" [.cell n] μ = some (.lst ((wordsL s folk).map wordD), μ) := by
  rw [run_words h ok hf hk hl hm, wordsL, List.map_map]; rfl
theorem run_eq (h : Has μ n nf ng s folk (byD cs) m) (h' : Has μ n' nf' ng' s folk (byD cs) m') (ok : Ok μ) (hf : Fits s folk) (hk : s.dep < k) (hd : s.dep ≤ 60) (hl : s.ats.length ≤ 1000) (hm : folk.length ≤ 1000) :
    (G.pr wf (k + 3)).meth "Throng" "__eq__" [.cell n, .cell n'] μ = some (.bl true, μ) := by
  rw [meth_s wf (k + 2) "Throng" "__eq__" (d := d_Throngu_equ) rfl]
  let R : Rho := [some (.cell n), some (.cell n')]
  have t1 : evT (G.pr wf (k + 2)) (.not (.cons (.isi (.v 1) "Throng") .nil)) R μ = some (false, μ) := t_not (t_bl (e_isi (e_v rfl) (cls_T h')))
  have t2 : evT (G.pr wf (k + 2)) (.cmp .ne (.fld (.v 0) "sentence") (.fld (.v 1) "sentence")) R μ = some (false, μ) := t_cmp (h.e_sen (e_v rfl)) (h'.e_sen (e_v rfl)) (c_sen _ s hd μ)
  have hg : cmpD (G.pr wf (k + 2)) .ne (.cell ng) (.cell ng') μ = some (false, μ) := by
    have e : eqA (G.pr wf (k + 2)) (.cell ng) (.cell ng') μ = some (true, μ) := by
      simp only [eqA, cls, h.gate, dictOf, h'.gate, by_flat, Bool.and_self, if_true, by_eq]
    simp only [cmpD, e]; rfl
  have t3 : evT (G.pr wf (k + 2)) (.cmp .ne (.fld (.v 0) "by_gate") (.fld (.v 1) "by_gate")) R μ = some (false, μ) := t_cmp (h.e_gate (e_v rfl)) (h'.e_gate (e_v rfl)) hg
  have tt := t_or t1 (t_or t2 t3)
  refine run_retX R (ρ' := R) rfl rfl rfl (sq (ρ' := R) (μ' := μ) ?_ (sq_ret (s_ret ?_)))
  · rw [s_if tt]
    show (if false = true then _ else _) = _
    rw [if_neg Bool.false_ne_true]; rfl
  · have := e_cmp (Γ := G.pr wf (k + 2)) (o := .eq) (ρ := R) (e_meth (e_v (i := 0) rfl) (recv_T h rfl) es_nil (words_T (wf := wf) h ok hf hk hl hm)) (e_meth (e_v (i := 1) rfl) (recv_T h' rfl) es_nil (words_T (wf := wf) h' ok hf hk hl hm)) (c_wordsE _ _ _ μ)
    rw [beq_self_eq_true] at this
    exact this
theorem c_eqT (h : Has μ n nf ng s folk (byD cs) m) (h' : Has μ n' nf' ng' s folk (byD cs) m') (ok : Ok μ) (hf : Fits s folk) (hk : s.dep < k) (hd : s.dep ≤ 60) (hl : s.ats.length ≤ 1000) (hm : folk.length ≤ 1000) :
    cmpD (G.pr wf (k + 3)) .eq (.cell n) (.cell n') μ = some (true, μ) := by
  simp only [cmpD, eqA, cls_T h, cls_T h', if_true, run_eq (wf := wf) h h' ok hf hk hd hl hm, bnd_some]
theorem c_neT (h : Has μ n nf ng s folk (byD cs) m) (h' : Has μ n' nf' ng' s folk (byD cs) m') (ok : Ok μ) (hf : Fits s folk) (hk : s.dep < k) (hd : s.dep ≤ 60) (hl : s.ats.length ≤ 1000) (hm : folk.length ≤ 1000) :
    cmpD (G.pr wf (k + 3)) .ne (.cell n) (.cell n') μ = some (false, μ) := by
  simp only [cmpD, eqA, cls_T h, cls_T h', if_true, run_eq (wf := wf) h h' ok hf hk hd hl hm, bnd_some]
  rfl
end
/-! ### loops -/
theorem forL_inv {sc : Bool} {n : Nat} {w : Wt} {f : D → Rho → Sto → Fr} (P : List D → Rho → Sto → Prop)
    (hf : ∀ x xs ρ μ, P (x :: xs) ρ μ → ∃ ρ1 μ1 ρ2 μ2, f x ρ μ = some (.next, ρ1, μ1) ∧ watch w μ1 = true ∧ (if sc then cut n ρ1 μ1 else some (ρ1, μ1)) = some (ρ2, μ2) ∧ P xs ρ2 μ2) :
    ∀ xs ρ μ, P xs ρ μ → ∃ ρ' μ', forL sc n w f xs ρ μ = some (.next, ρ', μ') ∧ P [] ρ' μ'
  | [], ρ, μ, h => ⟨ρ, μ, rfl, h⟩
  | x :: xs, ρ, μ, h => by
    obtain ⟨ρ1, μ1, ρ2, μ2, e1, e2, e3, h2⟩ := hf x xs ρ μ h
    obtain ⟨ρ', μ', e4, h3⟩ := forL_inv P hf xs ρ2 μ2 h2
    refine ⟨ρ', μ', ?_, h3⟩
    cases sc with
    | true =>
      rw [if_pos rfl] at e3
      simp only [forL, e1, e2, if_true, e3, Option.bind_some, e4]
    | false =>
      rw [if_neg Bool.false_ne_true] at e3
      cases e3
      simp only [forL, e1, e2, if_true, e4, Bool.false_eq_true, if_false]
theorem s_for {Γ : Pr} {sc : Bool} {t : Tg} {it : E} {b : S} {ρ : Rho} {μ μ1 : Sto} {xs : List D} {w : Wt} {r : Fr} (hi : evI Γ it ρ μ = some ((xs, w), μ1)) (hl : forL sc μ1.length w (fun x ρ μ => (DP.bind Γ t x ρ μ).bind fun p => evS Γ b p.1 p.2) xs ρ μ1 = r) : evS Γ (.for_ sc t it b) ρ μ = r := by
  simp only [evS, hi, bnd_some]; exact hl
theorem s_augIx {Γ : Pr} {o i e : E} {op : Op2} {x y old v z : D} {ρ : Rho} {μ μ1 μ2 μ3 μ4 : Sto} (ho : ev Γ o ρ μ = some (x, μ1)) (hi : ev Γ i ρ μ1 = some (y, μ2)) (hx : ixD x y μ2 = some old) (he : ev Γ e ρ μ2 = some (v, μ3)) (ha : augOp op old v = some z) (hs : setIxD x y z μ3 = some μ4) : evS Γ (.augIx o i op e) ρ μ = some (.next, ρ, μ4) := by
  simp only [evS, ho, bnd_some, hi, hx, Option.bind_some, he, ha, hs, Option.map_some]
/-! ### who comes -/
def beg (s : Sen) (i : Nat) : List Th := s.ats.map fun a => a.led (a.ws[i]?.getD 0)
theorem beg_fits (s : Sen) (i : Nat) : (beg s i).length = s.ats.length := by simp [beg]
theorem e_iiC {i j : Int} (hi : -1000000 ≤ i ∧ i ≤ 1000000) (hj : -1000000 ≤ j ∧ j ≤ 1000000) (μ : Sto) : ∃ d, biD .listR false [.int i, .int j] μ = some (d, μ) := by
  have h1 := b62 hi.1 hi.2
  have h2 := b62 hj.1 hj.2
  have h3 : (j - i).toNat ≤ 2 ^ 24 := Nat.le_trans (show (j - i).toNat ≤ 2000000 by omega) (by decide)
  have hz : ((List.range (j - i).toNat).map fun (k : Nat) => D.int (i + (k : Int))).length ≤ sizeLine := by
    rw [List.length_map, List.length_range]
    exact Nat.le_trans h3 (by decide)
  simp only [biD]
  rw [if_pos ⟨h1.1, h1.2, h2.1, h2.2, h3⟩]
  simp only [DP.alloc, hz, if_true, Bool.false_eq_true, if_false]
  exact ⟨_, rfl⟩
theorem bi_app {μ : Sto} {n : Nat} {ds : List D} {x : D} (h : μ[n]? = some (.lst ds)) (hz : ds.length < 1000000) : biD .append false [.cell n, x] μ = some (.non, μ.set n (.lst (ds ++ [x]))) := by
  have hz : ds.length < sizeLine := Nat.lt_of_lt_of_le hz (by decide)
  simp only [biD, h, hz, if_true]
section
variable {wf k n nf ng : Nat} {μ : Sto} {s : Sen} {folk : List (List Th)} {cs : List Int} {marks : D}
theorem Has.gput {by_ by' : List (Key × D)} (h : Has μ n nf ng s folk by_ marks) (hn : ng ≠ n) (hg : ng ≠ nf) : Has (μ.set ng (.dct by')) n nf ng s folk by' marks :=
  ⟨by rw [List.getElem?_set_ne hn]; exact h.ins, by rw [List.getElem?_set_ne hg]; exact h.folk, set_at h.gate⟩
theorem run_come {t : Nat} (h : Has μ n nf ng s folk (byD cs) marks) (hn : nf ≠ n) (hg : nf ≠ ng) (hgn : ng ≠ n) (hs : SenOk s t) (hc : cs.length = t) {i : Nat} (hi : i < t) (many : Nat) (hm : many ≤ 1000) (hfl : folk.length ≤ 1000) :
    ∃ d c, cs[i]? = some c ∧ (G.pr wf (k + 1)).meth "Throng" "come" [.cell n, .str (gw i), .int (many : Nat)] μ =
      some (d, (μ.set nf (.lst (fD (folk ++ List.replicate many (beg s i))))).set ng (.dct (byD (cs.set i (c + many))))) := by
  have h3 := hs.t3
  have h4 := hs.at4
  obtain ⟨c, hc1, hc2⟩ := by_mem (cs := cs) (i := i) (by omega) (by omega)
  rw [meth_s wf k "Throng" "come" (d := d_Throng_come) rfl]
  let Γ := G.pr wf k
  let R0 : Rho := [some (.cell n), some (.str (gw i)), some (.int (many : Nat)), none, none, none, none, none]
  let R1 : Rho := [some (.cell n), some (.str (gw i)), some (.int (many : Nat)), some (.int (i : Nat)), none, none, none, none]
  let R2 : Rho := [some (.cell n), some (.str (gw i)), some (.int (many : Nat)), some (.int (i : Nat)), some (.int (folk.length : Nat)), none, none, none]
  have st1 : evS Γ (.ife (.cmp .nmem (.v 1) (.fld (.v 0) "by_gate")) (.seq .never .nil) .nil) R0 μ = some (.next, R0, μ) := by
    have e : evT Γ (.cmp .nmem (.v 1) (.fld (.v 0) "by_gate")) R0 μ = some (false, μ) := t_cmp (e_v rfl) (h.e_gate (e_v rfl)) (by simp only [cmpD, memD, h.gate, key, Option.map_some, hc2, Option.isSome_some]; rfl)
    rw [s_if e, if_neg Bool.false_ne_true]; rfl
  have hzk : ((byD cs).map fun kv => dKey kv.1).length ≤ sizeLine := small (by rw [List.length_map]; have := by_len cs; omega)
  have st2 : evS Γ (.set (.one (.n 3)) (.mt .index (.bi .listK false (.cons (.fld (.v 0) "by_gate") .nil)) (.cons (.v 1) .nil))) R0 μ = some (.next, R1, μ) := by
    refine s_set (e_mt (d1 := .lst ((byD cs).map fun kv => dKey kv.1)) (μ1 := μ) (e_bi (es_1 (h.e_gate (e_v rfl))) ?_) rfl (es_1 (e_v rfl)) (by_index (cs := cs) (i := i) (by omega) (by omega) μ))
    simp only [biD, h.gate, DP.alloc, hzk, if_true, Bool.false_eq_true, if_false]
  have st3 : evS Γ (.set (.one (.n 4)) (.bi .len false (.cons (.fld (.v 0) "folk") .nil))) R1 μ = some (.next, R2, μ) := s_set (h.len (e_v rfl))
  have hi0 : evI Γ (.rng (.c (.int 0)) (.v 2)) R2 μ = some (((List.range many).map fun a => D.int (a : Nat), none), μ) := by
    have := i_rng (Γ := Γ) (ρ := R2) (μ := μ) (e_c (d := .int 0)) (e_v (i := 2) (d := .int (many : Nat)) rfl) (b62 (by omega) (by omega)) (b62 (by omega) (by omega))
    rw [rng0] at this
    exact this
  let body : S := .seq (.ex (.mt .append (.fld (.v 0) "folk") (.cons (.lc false [6,7] (.tup [(.n 6), (.n 7)]) (.cons (.fld (.v 0) "parts") .nil) .nil (.ix (.v 7) (.v 3))) .nil))) .nil
  let P : List D → Rho → Sto → Prop := fun xs ρ μ' => ∃ x5, ρ = [some (.cell n), some (.str (gw i)), some (.int (many : Nat)), some (.int (i : Nat)), some (.int (folk.length : Nat)), x5, none, none] ∧ xs.length ≤ many ∧ μ' = μ.set nf (.lst (fD (folk ++ List.replicate (many - xs.length) (beg s i))))
  obtain ⟨R3, μ3, e3, x5, rfl, _, rfl⟩ := forL_inv (sc := false) (n := μ.length) (w := none) (f := fun x ρ μ => (DP.bind Γ (.one (.n 5)) x ρ μ).bind fun p => evS Γ body p.1 p.2) P (by
    rintro x xs ρ μ' ⟨x5, rfl, hl, rfl⟩
    simp only [List.length_cons] at hl
    let q := many - (xs.length + 1)
    have H : Has (μ.set nf (.lst (fD (folk ++ List.replicate q (beg s i))))) n nf ng s (folk ++ List.replicate q (beg s i)) (byD cs) marks := h.put hn hg _
    let R4 : Rho := [some (.cell n), some (.str (gw i)), some (.int (many : Nat)), some (.int (i : Nat)), some (.int (folk.length : Nat)), some x, none, none]
    refine ⟨R4, μ.set nf (.lst (fD (folk ++ List.replicate (q + 1) (beg s i)))), R4, _, ?_, rfl, rfl, some x, rfl, by omega, by rw [show many - xs.length = q + 1 by simp only [q]; omega]⟩
    have e1 : ev Γ (.lc false [6,7] (.tup [(.n 6), (.n 7)]) (.cons (.fld (.v 0) "parts") .nil) .nil (.ix (.v 7) (.v 3))) R4 (μ.set nf (.lst (fD (folk ++ List.replicate q (beg s i))))) = some (.lst ((beg s i).map Th.e), μ.set nf (.lst (fD (folk ++ List.replicate q (beg s i))))) := by
      have step : ∀ a ∈ s.ats, ∀ μ', ixD a.begins (.int (i : Nat)) μ' = some (a.led (a.ws[i]?.getD 0)).e := fun a ha μ' => by
        have hw := hs.ws a ha
        have hlt : i < a.ws.length := by omega
        have hix : (a.ws.map fun w => (a.led w).e)[i]? = some (a.led (a.ws[i]?.getD 0)).e := by
          rw [List.getElem?_map, List.getElem?_eq_getElem hlt]; rfl
        exact atI_nat hix
      let g : D → D := fun x => match x with | .tup [_, b] => (match ixD b (.int (i : Nat)) [] with | some d => d | none => .non) | x => x
      have hg : ∀ a ∈ s.ats, g a.part = (a.led (a.ws[i]?.getD 0)).e := fun a ha => by
        simp only [g, At.part, step a ha]
      have hgm : (s.ats.map At.part).map g = (beg s i).map Th.e := by
        rw [List.map_map, beg, List.map_map]
        exact List.map_congr_left fun a ha => hg a ha
      have := ev_lc1 (Γ := Γ) (own := [6, 7]) (tg := .tup [(.n 6), (.n 7)]) (cs := .nil) (elt := .ix (.v 7) (.v 3)) (g := g) (i_one (H.e_parts (e_v (i := 0) (ρ := R4) rfl))) rfl (small (by simp; omega)) fun y hy => by
        obtain ⟨a, ha, rfl⟩ := List.mem_map.mp hy
        rw [hg a ha]
        exact lc_step (ρ1 := [some (.cell n), some (.str (gw i)), some (.int (many : Nat)), some (.int (i : Nat)), some (.int (folk.length : Nat)), some x, some a.k, some a.begins]) rfl (e_ix (e_v rfl) (e_v rfl) (step a ha _))
      rw [hgm] at this
      exact this
    have e2 := bi_app (x := .lst ((beg s i).map Th.e)) H.folk (by simp; omega)
    rw [List.set_set] at e2
    have e3 : (folk ++ List.replicate q (beg s i)).map (fun ts => D.lst (ts.map Th.e)) ++ [D.lst ((beg s i).map Th.e)] = fD (folk ++ List.replicate (q + 1) (beg s i)) := by
      rw [fD, List.replicate_succ', ← List.append_assoc, List.map_append (l₂ := [beg s i])]; rfl
    rw [e3] at e2
    show evS Γ body R4 _ = _
    exact sq (s_ex (e_mt (H.e_folk (e_v rfl)) (listed_at H.folk) (es_1 e1) e2)) rfl) ((List.range many).map fun a => D.int (a : Nat)) R2 μ ⟨none, rfl, by simp, by simp [set_same h.folk, fD]⟩
  simp only [List.length_nil, Nat.sub_zero] at e3
  let R3 : Rho := [some (.cell n), some (.str (gw i)), some (.int (many : Nat)), some (.int (i : Nat)), some (.int (folk.length : Nat)), x5, none, none]
  let μ3 := μ.set nf (.lst (fD (folk ++ List.replicate many (beg s i))))
  have H3 : Has μ3 n nf ng s (folk ++ List.replicate many (beg s i)) (byD cs) marks := h.put hn hg _
  let μ4 := μ3.set ng (.dct (byD (cs.set i (c + many))))
  have st4 : evS Γ (.for_ false (.one (.n 5)) (.rng (.c (.int 0)) (.v 2)) body) R2 μ = some (.next, R3, μ3) := s_for hi0 e3
  have st5 : evS Γ (.augIx (.fld (.v 0) "by_gate") (.v 1) .add (.v 2)) R3 μ3 = some (.next, R3, μ4) := by
    have e1 : ixD (.cell ng) (.str (gw i)) μ3 = some (.int c) := by simp only [ixD, H3.gate, key, Option.bind_some, hc2]
    have e2 : setIxD (.cell ng) (.str (gw i)) (.int (c + many)) μ3 = some μ4 := by
      have hz : (byD cs).length < sizeLine := Nat.lt_of_le_of_lt (by_len cs) (by decide)
      simp only [setIxD, H3.gate, key, Option.bind_some, hz, if_true]
      rw [by_put (cs := cs) (i := i) (by omega) (by omega)]
    exact s_augIx (H3.e_gate (e_v rfl)) (e_v rfl) e1 (e_v rfl) rfl e2
  have H4 : Has μ4 n nf ng s (folk ++ List.replicate many (beg s i)) (byD (cs.set i (c + many))) marks := H3.gput hgn (Ne.symm hg)
  have hl4 : (folk ++ List.replicate many (beg s i)).length ≤ 2000 := by simp; omega
  obtain ⟨d, e6⟩ := e_iiC (i := (folk.length : Nat)) (j := ((folk ++ List.replicate many (beg s i)).length : Nat)) (by omega) (by omega) μ4
  exact ⟨d, c, hc1, run_retX R0 (ρ' := R3) rfl rfl rfl (sq st1 (sq st2 (sq st3 (sq st4 (sq st5 (sq_ret (s_ret (e_bi (es_2 (e_v rfl) (H4.len (e_v rfl))) e6))))))))⟩
end
theorem forL_cons {n : Nat} {w : Wt} {f : D → Rho → Sto → Fr} {x : D} {xs : List D} {ρ ρ1 : Rho} {μ μ1 : Sto} {r : Fr} (hf : f x ρ μ = some (.next, ρ1, μ1)) (hw : watch w μ1 = true) (hr : forL false n w f xs ρ1 μ1 = r) : forL false n w f (x :: xs) ρ μ = r := by
  simp only [forL, hf, hw, if_true, Bool.false_eq_true, if_false]; exact hr
theorem forB_cons {Γ : Pr} {t : Tg} {b : S} {n : Nat} {w : Wt} {x : D} {xs : List D} {ρ ρ1 ρ2 : Rho} {μ μ1 μ2 : Sto} {r : Fr} (hb : DP.bind Γ t x ρ μ = some (ρ1, μ1)) (he : evS Γ b ρ1 μ1 = some (.next, ρ2, μ2)) (hw : watch w μ2 = true)
    (hr : forL false n w (fun x ρ μ => (DP.bind Γ t x ρ μ).bind fun p => evS Γ b p.1 p.2) xs ρ2 μ2 = r) : forL false n w (fun x ρ μ => (DP.bind Γ t x ρ μ).bind fun p => evS Γ b p.1 p.2) (x :: xs) ρ μ = r := by
  simp only [forL, hb, Option.bind_some, he, hw, if_true, Bool.false_eq_true, if_false]; exact hr
theorem b63 {i : Int} (h1 : 0 ≤ i) (h2 : i ≤ 1000000) : 0 ≤ i ∧ i < 2 ^ 63 := ⟨h1, Int.lt_of_le_of_lt h2 (by decide)⟩
theorem e_lenO {Γ : Pr} {a : E} {C : Str} {d : D} {n : Int} {ρ : Rho} {μ μ1 μ2 : Sto} (h : ev Γ a ρ μ = some (d, μ1)) (hc : cls d μ1 = some C) (hl : Γ.meth C "__len__" [d] μ1 = some (.int n, μ2)) (hn : 0 ≤ n ∧ n < 2 ^ 63) : ev Γ (.lenO a) ρ μ = some (.int n, μ2) := by
  simp only [ev, h, bnd_some, hc, Option.bind_some, hl]
  rw [if_pos hn]
theorem e_frz {Γ : Pr} {a : E} {n : Nat} {ρ : Rho} {μ μ1 : Sto} {ds : List D} (h : ev Γ a ρ μ = some (.cell n, μ1)) (hn : μ1[n]? = some (.lst ds)) : ev Γ (.frz a) ρ μ = some (.lst ds, μ1.set n .dead) := by
  simp only [ev, h, bnd_some, freezeD, hn]
theorem e_revC {Γ : Pr} {a : E} {n : Nat} {ρ : Rho} {μ μ1 : Sto} {ds : List D} (h : ev Γ a ρ μ = some (.cell n, μ1)) (hn : μ1[n]? = some (.lst ds)) (hz : ds.length ≤ sizeLine) : ev Γ (.rev false a) ρ μ = some (.lst ds.reverse, μ1) := by
  simp only [ev, h, bnd_some, listed, hn, Option.bind_some, DP.alloc, List.length_reverse, hz, if_true, Bool.false_eq_true, if_false]
theorem cnt_le : ∀ bs : List Bool, 0 ≤ cnt bs ∧ cnt bs ≤ bs.length
  | [] => by simp [cnt]
  | b :: bs => by
    have := cnt_le bs
    simp only [cnt, List.map_cons, List.sum_cons, List.length_cons] at this ⊢
    cases b <;> simp <;> omega
theorem cnt_cons (b : Bool) (bs : List Bool) : cnt (b :: bs) = (if b then 1 else 0) + cnt bs := by simp [cnt]
theorem lc_stepF {Γ : Pr} {own : List Nat} {tg : Tg} {cs elt : E} {ρ ρ1 : Rho} {x : D} {μ μ1 : Sto} (hb : DP.bind Γ tg x (wipeD ρ own) μ = some (ρ1, μ)) (hc : evT Γ cs ρ1 μ = some (false, μ1)) : lcStep Γ own tg cs elt ρ x μ = some ([], μ1) := by
  simp only [lcStep, hb, Option.bind_some, hc, bnd_some, Bool.false_eq_true, if_false]
theorem lc_stepT {Γ : Pr} {own : List Nat} {tg : Tg} {cs elt : E} {ρ ρ1 : Rho} {x y : D} {μ μ1 μ2 : Sto} (hb : DP.bind Γ tg x (wipeD ρ own) μ = some (ρ1, μ)) (hc : evT Γ cs ρ1 μ = some (true, μ1)) (he : ev Γ elt ρ1 μ1 = some (y, μ2)) : lcStep Γ own tg cs elt ρ x μ = some ([y], μ2) := by
  simp only [lcStep, hb, Option.bind_some, hc, bnd_some, if_true, he]
theorem ix_words {ws : List Bool} {q : Nat} {w : Bool} (h : ws[q]? = some w) (μ : Sto) : ixD (.lst (ws.map wordD)) (.int (q : Nat)) μ = some (wordD w) := by
  have e : (ws.map wordD)[q]? = some (wordD w) := by rw [List.getElem?_map, h]; rfl
  exact atI_nat e
section
variable {wf k n nf ng : Nat} {μ : Sto} {s : Sen} {folk : List (List Th)} {by_ : List (Key × D)} {marks : D} {ρ : Rho}
theorem e_lenT (h : Has μ n nf ng s folk by_ marks) {o : E} (ho : ev (G.pr wf (k + 1)) o ρ μ = some (.cell n, μ)) (hm : folk.length ≤ 1000) : ev (G.pr wf (k + 1)) (.lenO o) ρ μ = some (.int (folk.length : Nat), μ) := by
  exact e_lenO ho (cls_T h) (run_len h) (b63 (by omega) (by omega))
end
def saysE (t j : Nat) (M : E) : E := .lc false [j] (.one (.n j)) (.rng (.c (.int 0)) M) .nil (.meth (.v t) "says" (.cons (.v j) .nil))
theorem mulOkL {i j : Int} (h : -(2 ^ 64) < i ∧ i < 2 ^ 64) : mulOk i j = true := by
  unfold mulOk; rw [decide_eq_true h]; rfl
theorem mulOkR {i j : Int} (h : -(2 ^ 64) < j ∧ j < 2 ^ 64) : mulOk i j = true := by
  unfold mulOk; rw [decide_eq_true h, Bool.or_true, Bool.true_or]
theorem b64 {i : Int} (h1 : -4000000000000000000 ≤ i) (h2 : i ≤ 4000000000000000000) : -(2 ^ 64) < i ∧ i < 2 ^ 64 := ⟨Int.lt_of_lt_of_le (by decide) h1, Int.lt_of_le_of_lt h2 (by decide)⟩
theorem o_mulL {i j : Int} (h1 : -4000000000000000000 ≤ i) (h2 : i ≤ 4000000000000000000) : op2 .mul (.int i) (.int j) = some (.int (i * j)) := by simp only [op2, mulOkL (b64 h1 h2), if_true]
theorem o_mulR {i j : Int} (h1 : -4000000000000000000 ≤ j) (h2 : j ≤ 4000000000000000000) : op2 .mul (.int i) (.int j) = some (.int (i * j)) := by simp only [op2, mulOkR (b64 h1 h2), if_true]
theorem o_mod {i j : Int} (h : j ≠ 0) : op2 .mod (.int i) (.int j) = some (.int (i.fmod j)) := by simp only [op2]; rw [if_pos h]
theorem o_div {i j : Int} (h1 : 0 < j) (h2 : j < 1073741824) : op2 .fdiv (.int i) (.int j) = some (.int (i.fdiv j)) := by simp only [op2, divOk_of h1 h2, if_true]
theorem e_andT {Γ : Pr} {a b : E} {ρ : Rho} {μ μ1 μ2 : Sto} {d : D} (h1 : ev Γ a ρ μ = some (.bl true, μ1)) (h2 : ev Γ b ρ μ1 = some (d, μ2)) : ev Γ (.and a b) ρ μ = some (d, μ2) := by
  simp only [ev, h1, bnd_some, truth]; exact h2
theorem t_chn {Γ : Pr} {o o' : Cmp} {a b c : E} {ρ : Rho} {μ μ1 μ2 μ3 μ4 μ5 : Sto} {x y z : D} {k : Bool} (h1 : ev Γ a ρ μ = some (x, μ1)) (h2 : ev Γ b ρ μ1 = some (y, μ2)) (h3 : cmpD Γ o x y μ2 = some (true, μ3)) (h4 : ev Γ c ρ μ3 = some (z, μ4)) (h5 : cmpD Γ o' y z μ4 = some (k, μ5)) : evT Γ (.chn o o' a b c) ρ μ = some (k, μ5) := by
  simp only [evT, h1, bnd_some, h2, h3, if_true, h4, h5]
theorem c_leI (Γ : Pr) {i j : Int} (h : i ≤ j) (μ : Sto) : cmpD Γ .le (.int i) (.int j) μ = some (true, μ) := by simp only [cmpD, decide_eq_true h]
theorem Has.other {n nf ng i : Nat} {c : Cel} {μ : Sto} {s : Sen} {folk : List (List Th)} {by_ : List (Key × D)} {marks : D} (h : Has μ n nf ng s folk by_ marks) (h1 : i ≠ n) (h2 : i ≠ nf) (h3 : i ≠ ng) : Has (μ.set i c) n nf ng s folk by_ marks :=
  ⟨by rw [List.getElem?_set_ne h1]; exact h.ins, by rw [List.getElem?_set_ne h2]; exact h.folk, by rw [List.getElem?_set_ne h3]; exact h.gate⟩
/-! ### the tape -/
theorem run_cell (wf k : Nat) (ns : List Int) (j : Nat) (hn : ns.length ≤ 63) (μ : Sto) : ∃ v, (G.pr wf (k + 1)).call "_law_cell_at" [.scr ns, .int (j : Nat)] μ = some (.int v, μ) := by
  rw [call_s wf k "_law_cell_at" (d := d__law_cell_at) rfl]
  let R : Rho := [some (.scr ns), some (.int (j : Nat))]
  have hc : evT (G.pr wf k) (.cmp .lt (.v 1) (.bi .len false (.cons (.v 0) .nil))) R μ = some (decide ((j : Int) < ((ns.map D.int).length : Nat)), μ) := t_cmp (e_v rfl) (e_bi (es_1 (e_v rfl)) rfl) rfl
  by_cases h : j < ns.length
  · rw [decide_eq_true (by rw [List.length_map]; omega)] at hc
    have hix : (ns.map D.int)[j]? = some (.int ns[j]) := by rw [List.getElem?_map, List.getElem?_eq_getElem h]; rfl
    refine ⟨ns[j], run_retX R (ρ' := R) rfl rfl rfl (sq_ret ?_)⟩
    rw [s_if hc, if_pos rfl]
    exact sq_ret (s_ret (e_ix (e_v rfl) (e_v rfl) (atI_nat hix)))
  · rw [decide_eq_false (by rw [List.length_map]; omega)] at hc
    refine ⟨0, run_retX R (ρ' := R) rfl rfl rfl (sq (ρ' := R) (μ' := μ) ?_ (sq_ret (s_ret e_c)))⟩
    rw [s_if hc, if_neg Bool.false_ne_true]; rfl
def tapeB : S := (.seq (.set (.one (.n 4)) (.bin .mod (.bin .add (.bin .add (.bin .mul (.v 4) (.v 4)) (.bin .mul (.bin .mul (.c (.int 69621)) (.bin .add (.v 6) (.c (.int 1)))) (.bin .add (.v 1) (.c (.int 1))))) (.v 2)) (.v 3))) (.seq (.set (.one (.n 5)) (.bin .add (.bin .mul (.v 5) (.v 3)) (.v 4))) .nil))
theorem run_tape (wf k : Nat) (ns : List Int) (j : Nat) (hn : ns.length ≤ 63) (hj : j ≤ 100) (μ : Sto) : ∃ v, (G.pr wf (k + 2)).call "_law_tape" [.scr ns, .int (j : Nat)] μ = some (.cell μ.length, μ ++ [.lst [.int v]]) := by
  obtain ⟨v, hv⟩ := run_cell wf k ns j hn μ
  simp only [call_s wf (k + 1) "_law_tape" (d := d__law_tape) rfl]
  let Γ := G.pr wf (k + 1)
  let q : Int := 2305843009213693951
  let R0 : Rho := [some (.scr ns), some (.int (j : Nat)), none, none, none, none, none]
  let R1 : Rho := [some (.scr ns), some (.int (j : Nat)), some (.int v), none, none, none, none]
  let R2 : Rho := [some (.scr ns), some (.int (j : Nat)), some (.int v), some (.int q), none, none, none]
  have st1 : evS Γ (.set (.one (.n 2)) (.call "_law_cell_at" (.cons (.v 0) (.cons (.v 1) .nil)))) R0 μ = some (.next, R1, μ) := s_set (e_call (es_2 (e_v rfl) (e_v rfl)) hv)
  have hc1 : evT Γ (.cmp .eq (.v 2) (.c (.int 0))) R1 μ = some (v == 0, μ) := t_cmp (e_v rfl) e_c (c_eqI _ v 0 μ)
  by_cases h0 : v = 0
  · refine ⟨0, run_retX R0 (ρ' := R1) rfl rfl rfl (sq st1 (sq_ret ?_))⟩
    rw [s_if hc1, if_pos (by simp [h0])]
    exact sq_ret (s_ret (e_lstM (es_1 e_c) (small (by simp))))
  · have st2 : evS Γ (.ife (.cmp .eq (.v 2) (.c (.int 0))) (.seq (.ret (.lst true (.cons (.c (.int 0)) .nil))) .nil) .nil) R1 μ = some (.next, R1, μ) := by
      rw [s_if hc1, if_neg (by simpa using h0)]; rfl
    have hp : ev Γ (.bin .pow (.c (.int 10)) (.c (.int 18))) R1 μ = some (.int (10 ^ 18), μ) := by kernel_rfl
    have hc2 : evT Γ (.cmp .ge (.v 2) (.bin .pow (.c (.int 10)) (.c (.int 18)))) R1 μ = some (decide ((10 : Int) ^ 18 ≤ v), μ) := t_cmp (e_v rfl) hp rfl
    by_cases h1 : (10 : Int) ^ 18 ≤ v
    · rw [decide_eq_true h1] at hc2
      refine ⟨v - 10 ^ 18, run_retX R0 (ρ' := R1) rfl rfl rfl (sq st1 (sq st2 (sq_ret ?_)))⟩
      rw [s_if hc2, if_pos rfl]
      exact sq_ret (s_ret (e_lstM (es_1 (e_bin (o := .sub) (d := .int (v - 10 ^ 18)) (e_v rfl) hp rfl)) (small (by simp))))
    · rw [decide_eq_false h1] at hc2
      have st3 : evS Γ (.ife (.cmp .ge (.v 2) (.bin .pow (.c (.int 10)) (.c (.int 18)))) (.seq (.ret (.lst true (.cons (.bin .sub (.v 2) (.bin .pow (.c (.int 10)) (.c (.int 18)))) .nil))) .nil) .nil) R1 μ = some (.next, R1, μ) := by
        rw [s_if hc2, if_neg Bool.false_ne_true]; rfl
      have st4 : evS Γ (.set (.one (.n 3)) (.c (.int 2305843009213693951))) R1 μ = some (.next, R2, μ) := s_set e_c
      let o0 : Int := (v * 48271 + 40692 * (j : Int) + 31).fmod q
      let R3 : Rho := [some (.scr ns), some (.int (j : Nat)), some (.int v), some (.int q), some (.int o0), none, none]
      let R4 : Rho := [some (.scr ns), some (.int (j : Nat)), some (.int v), some (.int q), some (.int o0), some (.int o0), none]
      have st5 : evS Γ (.set (.one (.n 4)) (.bin .mod (.bin .add (.bin .add (.bin .mul (.v 2) (.c (.int 48271))) (.bin .mul (.c (.int 40692)) (.v 1))) (.c (.int 31))) (.v 3))) R2 μ = some (.next, R3, μ) :=
        s_set (e_bin (d1 := .int (v * 48271 + 40692 * (j : Int) + 31)) (e_bin (d1 := .int (v * 48271 + 40692 * (j : Int))) (e_bin (e_bin (e_v rfl) e_c (o_mulR (by decide) (by decide))) (e_bin e_c (e_v rfl) (o_mulL (by decide) (by decide))) rfl) e_c rfl) (e_v rfl) (o_mod (by decide)))
      have st6 : evS Γ (.set (.one (.n 5)) (.v 4)) R3 μ = some (.next, R4, μ) := s_set (e_v rfl)
      let P : List D → Rho → Sto → Prop := fun xs ρ μ' => ∃ (one found : Int) (x6 : Option D), (∀ x ∈ xs, ∃ t : Int, x = .int t) ∧ ρ = [some (.scr ns), some (.int (j : Nat)), some (.int v), some (.int q), some (.int one), some (.int found), x6] ∧ 0 ≤ one ∧ one < q ∧ μ' = μ
      have hm0 : ∀ x : Int, 0 ≤ x.fmod q ∧ x.fmod q < q := fun x => ⟨Int.fmod_nonneg_of_pos _ (by decide), Int.fmod_lt_of_pos _ (by decide)⟩
      have hi : evI Γ (.rng (.c (.int 0)) (.c (.int 24))) R4 μ = some (((List.range 24).map fun a => D.int (a : Nat), none), μ) := by
        have := i_rng (Γ := Γ) (ρ := R4) (μ := μ) (e_c (d := .int 0)) (e_c (d := .int 24)) (b62 (by omega) (by omega)) (b62 (by omega) (by omega))
        exact this
      obtain ⟨R5, μ5, e5, one, found, x6, _, rfl, _, _, rfl⟩ := forL_inv (sc := false) (n := μ.length) (w := none) (f := fun x ρ μ => (DP.bind Γ (.one (.n 6)) x ρ μ).bind fun p => evS Γ tapeB p.1 p.2) P (by
        rintro x xs ρ μ' ⟨one, found, x6, hx, rfl, g1, g2, rfl⟩
        obtain ⟨t, rfl⟩ := hx x (by simp)
        let one' : Int := (one * one + 69621 * (t + 1) * ((j : Int) + 1) + v).fmod q
        let RA : Rho := [some (.scr ns), some (.int (j : Nat)), some (.int v), some (.int q), some (.int one), some (.int found), some (.int t)]
        let RB : Rho := [some (.scr ns), some (.int (j : Nat)), some (.int v), some (.int q), some (.int one'), some (.int found), some (.int t)]
        let RC : Rho := [some (.scr ns), some (.int (j : Nat)), some (.int v), some (.int q), some (.int one'), some (.int (found * q + one')), some (.int t)]
        have a1 : evS Γ (.set (.one (.n 4)) (.bin .mod (.bin .add (.bin .add (.bin .mul (.v 4) (.v 4)) (.bin .mul (.bin .mul (.c (.int 69621)) (.bin .add (.v 6) (.c (.int 1)))) (.bin .add (.v 1) (.c (.int 1))))) (.v 2)) (.v 3))) RA μ' = some (.next, RB, μ') :=
          s_set (e_bin (d1 := .int (one * one + 69621 * (t + 1) * ((j : Int) + 1) + v)) (e_bin (d1 := .int (one * one + 69621 * (t + 1) * ((j : Int) + 1))) (e_bin (d1 := .int (one * one)) (d2 := .int (69621 * (t + 1) * ((j : Int) + 1))) (e_bin (e_v rfl) (e_v rfl) (o_mulL (by omega) (by simp only [q] at g2; omega)))
            (e_bin (d1 := .int (69621 * (t + 1))) (d2 := .int ((j : Int) + 1)) (e_bin (d2 := .int (t + 1)) e_c (e_bin (e_v rfl) e_c rfl) (o_mulL (by decide) (by decide))) (e_bin (e_v rfl) e_c rfl) (o_mulR (by omega) (by omega))) rfl) (e_v rfl) rfl) (e_v rfl) (o_mod (by decide)))
        have a2 : evS Γ (.set (.one (.n 5)) (.bin .add (.bin .mul (.v 5) (.v 3)) (.v 4))) RB μ' = some (.next, RC, μ') := s_set (e_bin (d1 := .int (found * q)) (e_bin (e_v rfl) (e_v rfl) (o_mulR (by decide) (by decide))) (e_v rfl) rfl)
        have a3 : evS Γ tapeB RA μ' = some (.next, RC, μ') := sq a1 (sq a2 rfl)
        exact ⟨RC, μ', RC, μ', a3, rfl, rfl, one', found * q + one', some (.int t), fun y hy => hx y (by simp [hy]), rfl, (hm0 _).1, (hm0 _).2, rfl⟩) _ R4 μ ⟨o0, o0, none, fun x hx => by
          obtain ⟨a, _, rfl⟩ := List.mem_map.mp hx
          exact ⟨(a : Nat), rfl⟩, rfl, (hm0 _).1, (hm0 _).2, rfl⟩
      have st7 : evS Γ (.for_ false (.one (.n 6)) (.rng (.c (.int 0)) (.c (.int 24))) tapeB) R4 μ5 = some (.next, [some (.scr ns), some (.int (j : Nat)), some (.int v), some (.int q), some (.int one), some (.int found), x6], μ5) := s_for hi e5
      exact ⟨found, run_retX R0 rfl rfl rfl (sq st1 (sq st2 (sq st3 (sq st4 (sq st5 (sq st6 (sq st7 (sq_ret (s_ret (e_lstM (es_1 (e_v rfl)) (small (by simp))))))))))))⟩
theorem forL_of {sc : Bool} {n : Nat} {w : Wt} {f : D → Rho → Sto → Fr} {P : List D → Rho → Sto → Prop} {xs : List D} {ρ : Rho} {μ : Sto} (h : P xs ρ μ)
    (hf : ∀ x xs ρ μ, P (x :: xs) ρ μ → ∃ ρ1 μ1 ρ2 μ2, f x ρ μ = some (.next, ρ1, μ1) ∧ watch w μ1 = true ∧ (if sc then cut n ρ1 μ1 else some (ρ1, μ1)) = some (ρ2, μ2) ∧ P xs ρ2 μ2) :
    ∃ ρ' μ', forL sc n w f xs ρ μ = some (.next, ρ', μ') ∧ P [] ρ' μ' := forL_inv P hf xs ρ μ h
def cutV (n : Nat) (o : Option D) : Option D := match o with | some d => if D.under n d then some d else none | none => none
theorem cut_eq {n : Nat} {ρ : Rho} {μ : Sto} (h : (μ.take n).all (cutOk n) = true) : cut n ρ μ = some (ρ.map (cutV n), μ.take n) := by
  simp only [cut, h, if_true]; rfl
theorem cut_ok {n : Nat} {ρ : Rho} {μ μ' : Sto} (hμ : μ.take n = μ') (hn : μ'.length = n) (ok : Ok μ') : cut n ρ μ = some (ρ.map (cutV n), μ') := by
  subst hμ
  refine cut_eq ?_
  unfold Ok at ok
  rw [hn] at ok
  exact ok
theorem gw_str (wf k i : Nat) (hi : i < 3) {ρ : Rho} {μ : Sto} {j : Nat} (hj : ρ[j]? = some (some (.int (i : Nat)))) : ev (G.pr wf k) (.sl false (.c (.str "abc")) (.cons (.v j) .nil) (.cons (.bin .add (.v j) (.c (.int 1))) .nil)) ρ μ = some (.str (gw i), μ) := by
  have e1 : ev (G.pr wf k) (.v j) ρ μ = some (.int (i : Nat), μ) := e_v hj
  have e2 : ev (G.pr wf k) (.bin .add (.v j) (.c (.int 1))) ρ μ = some (.int ((i : Int) + 1), μ) := e_bin e1 e_c rfl
  have e3 : slD false (.str "abc") (some (i : Nat)) (some ((i : Int) + 1)) μ = some (.str (gw i), μ) := by
    rcases (show i = 0 ∨ i = 1 ∨ i = 2 by omega) with rfl | rfl | rfl <;> kernel_rfl
  have e4 : evP (G.pr wf k) (.cons (.v j) .nil) ρ μ = some (some ((i : Nat) : Int), μ) := by simp only [evP, e1, bnd_some]
  have e5 : evP (G.pr wf k) (.cons (.bin .add (.v j) (.c (.int 1))) .nil) ρ μ = some (some ((i : Int) + 1), μ) := by
    show bnd (ev (G.pr wf k) (.bin .add (.v j) (.c (.int 1))) ρ μ) _ = _
    rw [e2]; rfl
  show bnd (ev (G.pr wf k) (.c (.str "abc")) ρ μ) _ = _
  rw [e_c]
  show bnd (evP (G.pr wf k) (.cons (.v j) .nil) ρ μ) _ = _
  rw [e4]
  show bnd (evP (G.pr wf k) (.cons (.bin .add (.v j) (.c (.int 1))) .nil) ρ μ) _ = _
  rw [e5]
  exact e3
theorem natD {d : Int} (h : 0 ≤ d) : ∃ n : Nat, d = (n : Int) := ⟨d.toNat, by omega⟩
theorem c_neI (Γ : Pr) (i j : Int) (μ : Sto) : cmpD Γ .ne (.int i) (.int j) μ = some (!(i == j), μ) := by kernel_rfl
theorem fbody {Γ : Pr} {t : Tg} {b : S} {x : D} {ρ ρ1 : Rho} {μ μ1 : Sto} {r : Fr} (hb : DP.bind Γ t x ρ μ = some (ρ1, μ1)) (he : evS Γ b ρ1 μ1 = r) : ((DP.bind Γ t x ρ μ).bind fun p => evS Γ b p.1 p.2) = r := by rw [hb]; exact he
end P96

/-! k96: crowds come to rest. One part of a sentence at a time: a column of things. -/
namespace P96
open PySem PySem.Spec L2 DP LW

/-! ### a column -/
def say1 : At → Int → Bool
  | .least _ b, v => decide (b ≤ v)
  | .rest _ _ r, v => v == r
def cl : At → Int → Int
  | .least ws b, x => clip (mostL ws b) x
  | .rest _ w _, x => x.fmod (Int.ofNat (w + 1))
def rm : At → Int → Int
  | .least ws b, x => x - clip (mostL ws b) x
  | .rest _ _ _, _ => 0
theorem met_eq (a : At) (t u : Th) : a.met t u = if t.l || u.l then
    (if t.l then (⟨true, cl a (t.n + u.n), say1 a (cl a (t.n + u.n))⟩, ⟨false, rm a (t.n + u.n), say1 a (cl a (t.n + u.n))⟩) else (⟨false, rm a (t.n + u.n), say1 a (cl a (t.n + u.n))⟩, ⟨true, cl a (t.n + u.n), say1 a (cl a (t.n + u.n))⟩)) else (t, u) := by
  cases a with
  | least ws b => rfl
  | rest ws w r => rfl
def cmet (a : At) (c : List Th) (p : Nat × Nat) : List Th := match c[p.1]?, c[p.2]? with
  | some t, some u => (c.set p.1 (a.met t u).1).set p.2 (a.met t u).2
  | _, _ => c
def cseq (a : At) : List Th → List (Nat × Nat) → List Th
  | c, [] => c
  | c, p :: ps => cseq a (cmet a c p) ps
theorem cmet_len (a : At) (c : List Th) (p : Nat × Nat) : (cmet a c p).length = c.length := by unfold cmet; split <;> simp
theorem cseq_len (a : At) : ∀ (ps : List (Nat × Nat)) (c : List Th), (cseq a c ps).length = c.length
  | [], _ => rfl
  | p :: ps, c => by rw [cseq, cseq_len a ps, cmet_len]
def Lead (c : List Th) (i : Nat) : Prop := ∃ t, c[i]? = some t ∧ t.l = true
/-- at two places -/
theorem two_at {c : List Th} {i j q : Nat} {t u : Th} (hi : i < c.length) (hj : j < c.length) (hij : i ≠ j) : ((c.set i t).set j u)[q]? = if q = j then some u else if q = i then some t else c[q]? := by
  by_cases h1 : q = j
  · subst h1; rw [if_pos rfl, List.getElem?_set_self (by simpa using hj)]
  · rw [if_neg h1, List.getElem?_set_ne (Ne.symm h1)]
    by_cases h2 : q = i
    · subst h2; rw [if_pos rfl, List.getElem?_set_self hi]
    · rw [if_neg h2, List.getElem?_set_ne (Ne.symm h2)]
theorem cmet_at {a : At} {c : List Th} {p : Nat × Nat} (hp : PairOk c.length p) : ∃ t u, c[p.1]? = some t ∧ c[p.2]? = some u ∧ cmet a c p = (c.set p.1 (a.met t u).1).set p.2 (a.met t u).2 := by
  have e1 : c[p.1]? = some (c[p.1]'hp.1) := List.getElem?_eq_getElem hp.1
  have e2 : c[p.2]? = some (c[p.2]'hp.2.1) := List.getElem?_eq_getElem hp.2.1
  exact ⟨_, _, e1, e2, by simp only [cmet, e1, e2]⟩
theorem lead_back {a : At} {c : List Th} {p : Nat × Nat} (hp : PairOk c.length p) {q : Nat} (h : Lead (cmet a c p) q) : Lead c q := by
  obtain ⟨t, u, e1, e2, e⟩ := cmet_at (a := a) hp
  obtain ⟨x, hx, hl⟩ := h
  rw [e, two_at hp.1 hp.2.1 hp.2.2] at hx
  rw [met_eq] at hx
  split at hx
  · rename_i hq
    simp only [Option.some.injEq] at hx
    subst hq hx
    refine ⟨u, e2, ?_⟩
    cases h1 : t.l <;> cases h2 : u.l <;> simp [h1, h2] at hl ⊢
  · split at hx
    · rename_i hq
      simp only [Option.some.injEq] at hx
      subst hq hx
      refine ⟨t, e1, ?_⟩
      cases h1 : t.l <;> cases h2 : u.l <;> simp [h1, h2] at hl ⊢
    · exact ⟨x, hx, hl⟩
theorem lead_not2 {a : At} {c : List Th} {p : Nat × Nat} (hp : PairOk c.length p) : ¬(Lead (cmet a c p) p.1 ∧ Lead (cmet a c p) p.2) := by
  obtain ⟨t, u, e1, e2, e⟩ := cmet_at (a := a) hp
  rintro ⟨⟨x, hx, hxl⟩, ⟨y, hy, hyl⟩⟩
  rw [e, two_at hp.1 hp.2.1 hp.2.2, if_neg hp.2.2, if_pos rfl] at hx
  rw [e, two_at hp.1 hp.2.1 hp.2.2, if_pos rfl] at hy
  rw [met_eq] at hx hy
  cases hx; cases hy
  cases h1 : t.l <;> cases h2 : u.l <;> simp [h1, h2] at hxl hyl
theorem lead_some {a : At} {c : List Th} {p : Nat × Nat} (hp : PairOk c.length p) (h : ∃ q, Lead c q) : ∃ q, Lead (cmet a c p) q := by
  obtain ⟨t, u, e1, e2, e⟩ := cmet_at (a := a) hp
  obtain ⟨q, x, hx, hl⟩ := h
  have g := fun q => two_at (q := q) (t := (a.met t u).1) (u := (a.met t u).2) hp.1 hp.2.1 hp.2.2
  cases h1 : t.l with
  | true => exact ⟨p.1, (a.met t u).1, by rw [e, g, if_neg hp.2.2, if_pos rfl], by rw [met_eq]; simp [h1]⟩
  | false =>
    cases h2 : u.l with
    | true => exact ⟨p.2, (a.met t u).2, by rw [e, g, if_pos rfl], by rw [met_eq]; simp [h1, h2]⟩
    | false =>
      refine ⟨q, x, ?_, hl⟩
      rw [e, g]
      have n1 : q ≠ p.1 := fun z => by subst z; rw [e1] at hx; cases hx; rw [h1] at hl; cases hl
      have n2 : q ≠ p.2 := fun z => by subst z; rw [e2] at hx; cases hx; rw [h2] at hl; cases hl
      rw [if_neg n2, if_neg n1]; exact hx
/-- each two meet -/
def Cover (N : Nat) (ps : List (Nat × Nat)) : Prop := ∀ i j, i < N → j < N → i ≠ j → (i, j) ∈ ps ∨ (j, i) ∈ ps
theorem lead_seq {a : At} : ∀ (ps : List (Nat × Nat)) (c : List Th), (∀ p ∈ ps, PairOk c.length p) → (∀ q, Lead (cseq a c ps) q → Lead c q) ∧ (∀ p ∈ ps, ¬(Lead (cseq a c ps) p.1 ∧ Lead (cseq a c ps) p.2)) ∧ ((∃ q, Lead c q) → ∃ q, Lead (cseq a c ps) q)
  | [], c, _ => ⟨fun q h => h, fun p hp => by simp at hp, fun h => h⟩
  | p :: ps, c, hp => by
    have hp0 := hp p (by simp)
    obtain ⟨h1, h2, h3⟩ := lead_seq (a := a) ps (cmet a c p) fun q hq => by rw [cmet_len]; exact hp q (by simp [hq])
    refine ⟨fun q h => lead_back hp0 (h1 q h), fun q hq => ?_, fun h => h3 (lead_some hp0 h)⟩
    rcases List.mem_cons.mp hq with rfl | hq
    · exact fun h => lead_not2 hp0 ⟨h1 _ h.1, h1 _ h.2⟩
    · exact h2 q hq
/-- one alone leads -/
def One (c : List Th) (i : Nat) : Prop := Lead c i ∧ ∀ j, Lead c j → j = i
theorem one_of {a : At} {c : List Th} {ps : List (Nat × Nat)} (hp : ∀ p ∈ ps, PairOk c.length p) (hc : Cover c.length ps) (h : ∃ q, Lead c q) : ∃ i, One (cseq a c ps) i := by
  obtain ⟨h1, h2, h3⟩ := lead_seq (a := a) ps c hp
  obtain ⟨i, hi⟩ := h3 h
  refine ⟨i, hi, fun j hj => ?_⟩
  refine Decidable.byContradiction fun hne => ?_
  have lt : ∀ q, Lead (cseq a c ps) q → q < c.length := fun q hq => by
    obtain ⟨t, ht, _⟩ := hq
    have := (List.getElem?_eq_some_iff.mp ht).1
    rwa [cseq_len] at this
  rcases hc j i (lt j hj) (lt i hi) hne with h | h
  · exact h2 _ h ⟨hj, hi⟩
  · exact h2 _ h ⟨hi, hj⟩
/-- a meeting where one alone leads -/
def stp (a : At) (c : List Th) (i j : Nat) (x : Int) : List Th := (c.set i ⟨true, cl a x, say1 a (cl a x)⟩).set j ⟨false, rm a x, say1 a (cl a x)⟩
theorem one_met {a : At} {c : List Th} {i : Nat} {p : Nat × Nat} (hp : PairOk c.length p) (h : One c i) :
    (i ≠ p.1 ∧ i ≠ p.2 ∧ cmet a c p = c) ∨ ∃ j t u, i ≠ j ∧ (p = (i, j) ∨ p = (j, i)) ∧ c[i]? = some t ∧ c[j]? = some u ∧ t.l = true ∧ u.l = false ∧ cmet a c p = stp a c i j (t.n + u.n) := by
  obtain ⟨p1, p2⟩ := p
  obtain ⟨t, u, e1, e2, e⟩ := cmet_at (a := a) hp
  obtain ⟨x, hx, hxl⟩ := h.1
  have hn := hp.2.2
  simp only at e1 e2 e hn
  have same : ∀ {c : List Th} {i : Nat} {t : Th}, c[i]? = some t → c.set i t = c := fun {c i t} h => by
    apply List.ext_getElem?
    intro q
    by_cases hq : i = q
    · subst hq; rw [List.getElem?_set_self (List.getElem?_eq_some_iff.mp h).1, h]
    · rw [List.getElem?_set_ne hq]
  by_cases hi1 : i = p1
  · subst hi1
    have hl : t.l = true := by rw [e1] at hx; cases hx; exact hxl
    have hu : u.l = false := by
      cases hu : u.l with
      | false => rfl
      | true => exact absurd (h.2 p2 ⟨u, e2, hu⟩).symm hn
    refine .inr ⟨p2, t, u, hn, .inl rfl, e1, e2, hl, hu, ?_⟩
    rw [e, met_eq]; simp only [hl, Bool.true_or, if_true]; rfl
  · by_cases hi2 : i = p2
    · subst hi2
      have hl : u.l = true := by rw [e2] at hx; cases hx; exact hxl
      have ht : t.l = false := by
        cases ht : t.l with
        | false => rfl
        | true => exact absurd (h.2 p1 ⟨t, e1, ht⟩) hn
      refine .inr ⟨p1, u, t, Ne.symm hn, .inr rfl, e2, e1, hl, ht, ?_⟩
      rw [e, met_eq]; simp only [hl, ht, Bool.or_true, if_true, Bool.false_eq_true, if_false]
      rw [List.set_comm _ _ hn, Int.add_comm u.n]; rfl
    · refine .inl ⟨hi1, hi2, ?_⟩
      have ht : t.l = false := by
        cases ht : t.l with
        | false => rfl
        | true => exact absurd (h.2 p1 ⟨t, e1, ht⟩).symm hi1
      have hu : u.l = false := by
        cases hu : u.l with
        | false => rfl
        | true => exact absurd (h.2 p2 ⟨u, e2, hu⟩).symm hi2
      rw [e, met_eq]; simp only [ht, hu, Bool.or_self, Bool.false_eq_true, if_false]
      rw [same e1, same e2]
theorem one_keep {a : At} {c : List Th} {i : Nat} {p : Nat × Nat} (hp : PairOk c.length p) (h : One c i) : One (cmet a c p) i := by
  obtain ⟨q, hq⟩ := lead_some (a := a) hp ⟨i, h.1⟩
  have := h.2 q (lead_back hp hq)
  subst this
  exact ⟨hq, fun j hj => h.2 j (lead_back hp hj)⟩
theorem one_seq {a : At} {i : Nat} : ∀ (ps : List (Nat × Nat)) (c : List Th), (∀ p ∈ ps, PairOk c.length p) → One c i → One (cseq a c ps) i
  | [], c, _, h => h
  | p :: ps, c, hp, h => one_seq ps _ (fun q hq => by rw [cmet_len]; exact hp q (by simp [hq])) (one_keep (hp p (by simp)) h)
/-! ### sums -/
def Gs (g : Th → Int) (c : List Th) : Int := (c.map g).sum
theorem G_set (g : Th → Int) : ∀ (c : List Th) (i : Nat) (t u : Th), c[i]? = some t → Gs g (c.set i u) = Gs g c - g t + g u
  | [], i, t, u, h => by simp at h
  | x :: c, 0, t, u, h => by
    simp only [List.getElem?_cons_zero, Option.some.injEq] at h
    subst h
    simp only [Gs, List.set_cons_zero, List.map_cons, List.sum_cons]
    omega
  | x :: c, i + 1, t, u, h => by
    have ih := G_set g c i t u (by simpa using h)
    simp only [Gs, List.set_cons_succ, List.map_cons, List.sum_cons] at ih ⊢
    omega
theorem G_stp (g : Th → Int) {a : At} {c : List Th} {i j : Nat} {t u : Th} (hij : i ≠ j) (hi : c[i]? = some t) (hj : c[j]? = some u) (x : Int) :
    Gs g (stp a c i j x) = Gs g c - g t - g u + g ⟨true, cl a x, say1 a (cl a x)⟩ + g ⟨false, rm a x, say1 a (cl a x)⟩ := by
  unfold stp
  rw [G_set g _ j u _ (by rw [List.getElem?_set_ne hij]; exact hj), G_set g _ i t _ hi]
  omega
theorem G_nonneg (g : Th → Int) : ∀ (c : List Th), (∀ t ∈ c, 0 ≤ g t) → 0 ≤ Gs g c ∧ ∀ t ∈ c, g t ≤ Gs g c
  | [], _ => by simp [Gs]
  | x :: c, h => by
    obtain ⟨h1, h2⟩ := G_nonneg g c fun t ht => h t (by simp [ht])
    have hx := h x (by simp)
    simp only [Gs, List.map_cons, List.sum_cons] at h1 h2 ⊢
    refine ⟨by omega, fun t ht => ?_⟩
    rcases List.mem_cons.mp ht with rfl | ht
    · omega
    · have := h2 t ht; omega
theorem G_zero (g : Th → Int) : ∀ (c : List Th), (∀ t ∈ c, g t = 0) → Gs g c = 0
  | [], _ => rfl
  | x :: c, h => by
    have := G_zero g c fun t ht => h t (by simp [ht])
    simp only [Gs, List.map_cons, List.sum_cons, h x (by simp)] at this ⊢
    omega
theorem G_le (g : Th → Int) (B : Int) : ∀ (c : List Th), (∀ t ∈ c, g t ≤ B) → Gs g c ≤ B * (c.length : Int)
  | [], _ => by simp [Gs]
  | x :: c, h => by
    have ih := G_le g B c fun t ht => h t (by simp [ht])
    have hx := h x (by simp)
    simp only [Gs, List.map_cons, List.sum_cons, List.length_cons] at ih ⊢
    have : B * ((c.length + 1 : Nat) : Int) = B * (c.length : Int) + B := by
      rw [Int.natCast_succ, Int.mul_add, Int.mul_one]
    omega
theorem G_neg (g : Th → Int) : ∀ (c : List Th), Gs (fun t => -(g t)) c = -(Gs g c)
  | [] => rfl
  | x :: c => by
    have := G_neg g c
    simp only [Gs, List.map_cons, List.sum_cons] at this ⊢
    omega
theorem G_app (g : Th → Int) (c d : List Th) : Gs g (c ++ d) = Gs g c + Gs g d := by simp [Gs]
/-! ### what stays, whatever meets -/
def inR : At → Th → Prop
  | .least ws b, t => -(mostL ws b) ≤ t.n ∧ t.n ≤ mostL ws b
  | .rest _ w _, t => if t.l then 0 ≤ t.n ∧ t.n < Int.ofNat (w + 1) else t.n = 0
def sumOk : At → Int → Int → Prop
  | .least _ _, W, S => S = W
  | .rest _ w _, W, S => S.fmod (Int.ofNat (w + 1)) = W.fmod (Int.ofNat (w + 1))
structure CI (a : At) (W : Int) (c : List Th) : Prop where
  ld : ∀ t ∈ c, t.l = true → t.y = say1 a t.n
  rg : ∀ t ∈ c, inR a t
  sm : sumOk a W (Gs Th.n c)
theorem maxI_ge : ∀ (is : List Int) (m : Int), m ≤ maxI m is ∧ ∀ i ∈ is, i ≤ maxI m is
  | [], m => by simp [maxI]
  | i :: is, m => by
    simp only [maxI]
    obtain ⟨h1, h2⟩ := maxI_ge is (if m < i then i else m)
    have h3 : m ≤ (if m < i then i else m) ∧ i ≤ (if m < i then i else m) := by split <;> omega
    refine ⟨by omega, fun q hq => ?_⟩
    rcases List.mem_cons.mp hq with rfl | hq
    · omega
    · exact h2 q hq
theorem most_ge (ws : List Int) (b : Int) : absI b + 1 ≤ mostL ws b ∧ ∀ w ∈ ws, absI w ≤ mostL ws b := by
  unfold mostL
  cases ws with
  | nil => simp [maxI]
  | cons w ws =>
    simp only [List.map_cons, List.cons_append]
    obtain ⟨h1, h2⟩ := maxI_ge (ws.map absI ++ [absI b + 1]) (absI w)
    refine ⟨h2 _ (by simp), fun q hq => ?_⟩
    rcases List.mem_cons.mp hq with rfl | hq
    · exact h1
    · exact h2 _ (by simp; exact .inl ⟨q, hq, rfl⟩)
theorem most_pos (ws : List Int) (b : Int) : 1 ≤ mostL ws b := by
  have := (most_ge ws b).1
  have h : 0 ≤ absI b := by unfold absI; split <;> omega
  omega
theorem clip_in {m : Int} (h : 0 ≤ m) (x : Int) : -m ≤ clip m x ∧ clip m x ≤ m := by
  unfold clip; simp only; split <;> split <;> omega
theorem clip_id {m x : Int} (h1 : -m ≤ x) (h2 : x ≤ m) : clip m x = x := by
  unfold clip; simp only; split <;> split <;> omega
theorem fm (x : Int) (w : Nat) : x.fmod (Int.ofNat (w + 1)) = x % ((w + 1 : Nat) : Int) := Int.fmod_eq_emod_of_nonneg x (by show (0 : Int) ≤ ((w + 1 : Nat) : Int); omega)
theorem fm_in (x : Int) (w : Nat) : 0 ≤ x.fmod (Int.ofNat (w + 1)) ∧ x.fmod (Int.ofNat (w + 1)) < Int.ofNat (w + 1) := by
  rw [fm]
  have hp : (0 : Int) < ((w + 1 : Nat) : Int) := by omega
  exact ⟨Int.emod_nonneg _ (by omega), Int.emod_lt_of_pos _ hp⟩
theorem mem_set2 {c : List Th} {i j : Nat} {t u x : Th} (h : x ∈ (c.set i t).set j u) : x ∈ c ∨ x = t ∨ x = u := by
  rcases List.mem_or_eq_of_mem_set h with h | h
  · rcases List.mem_or_eq_of_mem_set h with h | h
    · exact .inl h
    · exact .inr (.inl h)
  · exact .inr (.inr h)
theorem ci_met {a : At} {W : Int} {c : List Th} {p : Nat × Nat} (h : CI a W c) (hp : PairOk c.length p) : CI a W (cmet a c p) := by
  obtain ⟨t, u, e1, e2, e⟩ := cmet_at (a := a) hp
  have rt := h.rg t (List.mem_of_getElem? e1)
  have ru := h.rg u (List.mem_of_getElem? e2)
  by_cases hl : (t.l || u.l) = true
  · have key : ∃ A B : Th, cmet a c p = (c.set p.1 A).set p.2 B ∧ A.n + B.n = cl a (t.n + u.n) + rm a (t.n + u.n) ∧ (A.l = true → A.y = say1 a A.n) ∧ (B.l = true → B.y = say1 a B.n) ∧ inR a A ∧ inR a B := by
      have r1 : inR a ⟨true, cl a (t.n + u.n), say1 a (cl a (t.n + u.n))⟩ := by
        cases a with
        | least ws b => exact clip_in (by have := most_pos ws b; omega) _
        | rest ws w r => simp only [inR, if_true]; exact fm_in _ _
      have r2 : inR a ⟨false, rm a (t.n + u.n), say1 a (cl a (t.n + u.n))⟩ := by
        cases a with
        | least ws b =>
          simp only [inR] at rt ru ⊢
          simp only [rm, clip]
          have := most_pos ws b
          split <;> split <;> omega
        | rest ws w r => simp [inR, rm]
      rw [met_eq, if_pos hl] at e
      cases ht : t.l with
      | true =>
        rw [ht, if_pos rfl] at e
        exact ⟨_, _, e, rfl, fun _ => rfl, fun h => absurd h Bool.false_ne_true, r1, r2⟩
      | false =>
        rw [ht, if_neg Bool.false_ne_true] at e
        exact ⟨_, _, e, Int.add_comm _ _, fun h => absurd h Bool.false_ne_true, fun _ => rfl, r2, r1⟩
    obtain ⟨A, B, eq, hs, ha, hb, ra, rb⟩ := key
    rw [eq]
    refine ⟨fun x hx hxl => ?_, fun x hx => ?_, ?_⟩
    · rcases mem_set2 hx with hx | rfl | rfl
      · exact h.ld x hx hxl
      · exact ha hxl
      · exact hb hxl
    · rcases mem_set2 hx with hx | rfl | rfl
      · exact h.rg x hx
      · exact ra
      · exact rb
    · rw [G_set Th.n _ p.2 u _ (by rw [List.getElem?_set_ne hp.2.2]; exact e2), G_set Th.n _ p.1 t _ e1]
      have sm := h.sm
      cases a with
      | least ws b =>
        simp only [sumOk, cl, rm] at sm hs ⊢
        omega
      | rest ws w r =>
        simp only [sumOk, cl, rm] at sm hs ⊢
        rw [fm] at sm hs ⊢
        rw [← sm]
        have e3 : Gs Th.n c - t.n + A.n - u.n + B.n = Gs Th.n c + ((t.n + u.n) % ((w + 1 : Nat) : Int) - (t.n + u.n)) := by omega
        rw [e3]
        have e4 : ((t.n + u.n) % ((w + 1 : Nat) : Int) - (t.n + u.n)) = ((w + 1 : Nat) : Int) * (-((t.n + u.n) / ((w + 1 : Nat) : Int))) := by
          have := Int.emod_add_mul_ediv (t.n + u.n) ((w + 1 : Nat) : Int)
          rw [Int.mul_neg]
          omega
        rw [e4, Int.add_mul_emod_self_left]
  · have hl : (t.l || u.l) = false := by simpa using hl
    have : cmet a c p = c := by
      rw [e, met_eq, hl, if_neg Bool.false_ne_true]
      apply List.ext_getElem?
      intro q
      rw [two_at hp.1 hp.2.1 hp.2.2]
      split
      · rename_i hq; subst hq; exact e2.symm
      · split
        · rename_i hq; subst hq; exact e1.symm
        · rfl
    rw [this]; exact h
theorem ci_seq {a : At} {W : Int} : ∀ (ps : List (Nat × Nat)) (c : List Th), (∀ p ∈ ps, PairOk c.length p) → CI a W c → CI a W (cseq a c ps)
  | [], c, _, h => h
  | p :: ps, c, hp, h => ci_seq ps _ (fun q hq => by rw [cmet_len]; exact hp q (by simp [hq])) (ci_met h (hp p (by simp)))
end P96

/-! k96: crowds come to rest, continued: the stages. -/
namespace P96
open PySem PySem.Spec L2 DP LW

theorem mem_at {c : List Th} {t : Th} (h : t ∈ c) : ∃ q : Nat, c[q]? = some t := List.getElem?_of_mem h
theorem stp_at {a : At} {c : List Th} {i j : Nat} {t u : Th} (hij : i ≠ j) (hi : c[i]? = some t) (hj : c[j]? = some u) (x : Int) (q : Nat) : (stp a c i j x)[q]? = if q = j then some ⟨false, rm a x, say1 a (cl a x)⟩ else if q = i then some ⟨true, cl a x, say1 a (cl a x)⟩ else c[q]? :=
  two_at (List.getElem?_eq_some_iff.mp hi).1 (List.getElem?_eq_some_iff.mp hj).1 hij
/-! ### what changes no more but by hearing -/
structure Stab (a : At) (c : List Th) (i : Nat) (v : Int) : Prop where
  one : One c i
  at' : ∀ t, c[i]? = some t → t.n = v
  oth : ∀ j u, j ≠ i → c[j]? = some u → cl a (v + u.n) = v ∧ rm a (v + u.n) = u.n
def yOk (a : At) (v : Int) (c : List Th) (q : Nat) : Prop := ∀ x, c[q]? = some x → x.y = say1 a v
theorem stab_met {a : At} {c : List Th} {i : Nat} {v : Int} {p : Nat × Nat} (h : Stab a c i v) (hp : PairOk c.length p) :
    Stab a (cmet a c p) i v ∧ (∀ q, yOk a v c q → yOk a v (cmet a c p) q) ∧ ((p.1 = i ∨ p.2 = i) → yOk a v (cmet a c p) p.1 ∧ yOk a v (cmet a c p) p.2) := by
  have ho := one_keep (a := a) hp h.one
  rcases one_met (a := a) hp h.one with ⟨n1, n2, e⟩ | ⟨j, t, u, hij, hpp, hi, hj, hl, hul, e⟩
  · rw [e]
    exact ⟨h, fun q hq => hq, fun hh => hh.elim (fun hh => absurd hh.symm n1) fun hh => absurd hh.symm n2⟩
  · have hv := h.at' t hi
    obtain ⟨o1, o2⟩ := h.oth j u (Ne.symm hij) hj
    rw [hv] at e
    have g := stp_at (a := a) hij hi hj (v + u.n)
    rw [o1, o2] at g
    rw [← e] at g
    refine ⟨⟨ho, fun x hx => ?_, fun q x hq hx => ?_⟩, fun q hq x hx => ?_, fun _ => ?_⟩
    · rw [g, if_neg hij, if_pos rfl] at hx; cases hx; rfl
    · rw [g] at hx
      split at hx
      · cases hx; exact ⟨o1, o2⟩
      · exact h.oth q x hq hx
    · rw [g] at hx
      split at hx
      · cases hx; rfl
      · split at hx
        · cases hx; rfl
        · exact hq x hx
    · have yi : yOk a v (cmet a c p) i := fun x hx => by rw [g, if_neg hij, if_pos rfl] at hx; cases hx; rfl
      have yj : yOk a v (cmet a c p) j := fun x hx => by rw [g, if_pos rfl] at hx; cases hx; rfl
      rcases hpp with rfl | rfl
      · exact ⟨yi, yj⟩
      · exact ⟨yj, yi⟩
theorem stab_seq {a : At} {i : Nat} {v : Int} : ∀ (ps : List (Nat × Nat)) (c : List Th), (∀ p ∈ ps, PairOk c.length p) → Stab a c i v →
    Stab a (cseq a c ps) i v ∧ (∀ q, yOk a v c q → yOk a v (cseq a c ps) q) ∧ (∀ p ∈ ps, (p.1 = i ∨ p.2 = i) → yOk a v (cseq a c ps) p.1 ∧ yOk a v (cseq a c ps) p.2)
  | [], c, _, h => ⟨h, fun q hq => hq, fun p hp => by simp at hp⟩
  | p :: ps, c, hp, h => by
    obtain ⟨h1, h2, h3⟩ := stab_met h (hp p (by simp))
    obtain ⟨g1, g2, g3⟩ := stab_seq ps _ (fun q hq => by rw [cmet_len]; exact hp q (by simp [hq])) h1
    refine ⟨g1, fun q hq => g2 q (h2 q hq), fun q hq hh => ?_⟩
    rcases List.mem_cons.mp hq with rfl | hq
    · exact ⟨g2 _ (h3 hh).1, g2 _ (h3 hh).2⟩
    · exact g3 q hq hh
def Done (a : At) (W : Int) (c : List Th) : Prop := (∃ i, Stab a c i (cl a W)) ∧ ∀ q, yOk a (cl a W) c q
theorem done_seq {a : At} {W : Int} {c : List Th} {ps : List (Nat × Nat)} (hp : ∀ p ∈ ps, PairOk c.length p) (h : Done a W c) : Done a W (cseq a c ps) := by
  obtain ⟨⟨i, hi⟩, hy⟩ := h
  obtain ⟨g1, g2, _⟩ := stab_seq ps c hp hi
  exact ⟨⟨i, g1⟩, fun q => g2 q (hy q)⟩
theorem done_of {a : At} {W : Int} {c : List Th} {ps : List (Nat × Nat)} {i : Nat} (hp : ∀ p ∈ ps, PairOk c.length p) (hc : Cover c.length ps) (h : Stab a c i (cl a W)) (ci : CI a W c) : Done a W (cseq a c ps) := by
  obtain ⟨g1, g2, g3⟩ := stab_seq ps c hp h
  obtain ⟨t, ht, hl⟩ := h.one.1
  have hiN := (List.getElem?_eq_some_iff.mp ht).1
  refine ⟨⟨i, g1⟩, fun q => ?_⟩
  by_cases hq : q = i
  · subst hq
    refine g2 q fun x hx => ?_
    rw [ht] at hx; cases hx
    rw [ci.ld t (List.mem_of_getElem? ht) hl, h.at' t ht]
  · by_cases hqN : q < c.length
    · rcases hc i q hiN hqN (Ne.symm hq) with hm | hm
      · exact (g3 _ hm (.inl rfl)).2
      · exact (g3 _ hm (.inr rfl)).1
    · intro x hx
      have := (List.getElem?_eq_some_iff.mp hx).1
      rw [cseq_len] at this
      exact absurd this hqN
/-- all but one are nought -/
theorem G_one (g : Th → Int) (z : Th) (hz : g z = 0) {c : List Th} {i : Nat} {t : Th} (hi : c[i]? = some t) (ho : ∀ j u, j ≠ i → c[j]? = some u → g u = 0) : Gs g c = g t := by
  have h1 := G_set g c i t z hi
  have h2 : Gs g (c.set i z) = 0 := G_zero g _ fun x hx => by
    obtain ⟨q, hq⟩ := mem_at hx
    by_cases hqi : q = i
    · subst hqi
      rw [List.getElem?_set_self (List.getElem?_eq_some_iff.mp hi).1] at hq
      cases hq; exact hz
    · rw [List.getElem?_set_ne (Ne.symm hqi)] at hq
      exact ho q x hqi hq
  omega
/-! ### rests -/
theorem rest_stab {ws : List Int} {w : Nat} {r W : Int} {c : List Th} {i : Nat} (h : One c i) (ci : CI (.rest ws w r) W c) : Stab (.rest ws w r) c i (cl (.rest ws w r) W) := by
  obtain ⟨t, ht, hl⟩ := h.1
  have rt := ci.rg t (List.mem_of_getElem? ht)
  simp only [inR, hl, if_true] at rt
  have ho : ∀ j u, j ≠ i → c[j]? = some u → u.n = 0 := fun j u hj hu => by
    have ru := ci.rg u (List.mem_of_getElem? hu)
    have hul : u.l = false := by
      cases hul : u.l with
      | false => rfl
      | true => exact absurd (h.2 j ⟨u, hu, hul⟩) hj
    simpa [inR, hul] using ru
  have hs := G_one Th.n ⟨false, 0, false⟩ rfl ht ho
  have sm := ci.sm
  simp only [sumOk, hs] at sm
  have hid : t.n.fmod (Int.ofNat (w + 1)) = t.n := by rw [fm]; exact Int.emod_eq_of_lt rt.1 rt.2
  have hv : t.n = cl (.rest ws w r) W := by simp only [cl]; rw [← sm, hid]
  refine ⟨h, fun x hx => by rw [ht] at hx; cases hx; exact hv, fun j u hj hu => ?_⟩
  rw [ho j u hj hu, Int.add_zero, ← hv]
  exact ⟨hid, rfl⟩
/-! ### leasts -/
theorem clip_cases {m : Int} (h : 0 ≤ m) (x : Int) : (-m ≤ x ∧ x ≤ m ∧ clip m x = x) ∨ (m < x ∧ clip m x = m) ∨ (x < -m ∧ clip m x = -m) := by
  unfold clip; simp only; split <;> split <;> omega
def ab (t : Th) : Int := absI t.n
theorem ab_nonneg (t : Th) : 0 ≤ ab t := by unfold ab absI; split <;> omega
section
variable {ws : List Int} {b : Int}
/-- so far, where nothing was lost -/
def PM (c : List Th) (i : Nat) (M : Nat → Prop) : Prop := ∃ t, c[i]? = some t ∧ ((t.n = 0 ∧ ∀ j u, j ≠ i → M j → c[j]? = some u → u.n = 0) ∨ (0 < t.n ∧ ∀ j u, j ≠ i → M j → c[j]? = some u → 0 ≤ u.n) ∨ (t.n < 0 ∧ ∀ j u, j ≠ i → M j → c[j]? = some u → u.n ≤ 0))
theorem pm_met {W : Int} {c : List Th} {i : Nat} {p : Nat × Nat} {M : Nat → Prop} (hp : PairOk c.length p) (h : One c i) (ci : CI (.least ws b) W c) :
    Gs ab (cmet (.least ws b) c p) ≤ Gs ab c ∧ (Gs ab (cmet (.least ws b) c p) < Gs ab c ∨ (PM c i M → PM (cmet (.least ws b) c p) i fun j => M j ∨ p = (i, j) ∨ p = (j, i))) := by
  rcases one_met (a := .least ws b) hp h with ⟨n1, n2, e⟩ | ⟨j, t, u, hij, hpp, hi, hj, hl, hul, e⟩
  · rw [e]
    refine ⟨Int.le_refl _, .inr fun ⟨t, ht, hh⟩ => ⟨t, ht, ?_⟩⟩
    have red : ∀ q, (M q ∨ p = (i, q) ∨ p = (q, i)) → M q := fun q hq => by
      rcases hq with hq | hq | hq
      · exact hq
      · exact absurd (congrArg Prod.fst hq).symm n1
      · exact absurd (congrArg Prod.snd hq).symm n2
    rcases hh with ⟨h1, h2⟩ | ⟨h1, h2⟩ | ⟨h1, h2⟩
    · exact .inl ⟨h1, fun q x hq hm => h2 q x hq (red q hm)⟩
    · exact .inr (.inl ⟨h1, fun q x hq hm => h2 q x hq (red q hm)⟩)
    · exact .inr (.inr ⟨h1, fun q x hq hm => h2 q x hq (red q hm)⟩)
  · have rt := ci.rg t (List.mem_of_getElem? hi)
    have ru := ci.rg u (List.mem_of_getElem? hj)
    simp only [inR] at rt ru
    have hm := most_pos ws b
    have g := stp_at (a := .least ws b) hij hi hj (t.n + u.n)
    have hG := G_stp ab (a := .least ws b) hij hi hj (t.n + u.n)
    rw [← e] at g hG
    simp only [ab, cl, rm] at hG
    have hc := clip_cases (m := mostL ws b) (by omega) (t.n + u.n)
    simp only [cl, rm] at g
    generalize clip (mostL ws b) (t.n + u.n) = k at hc hG g
    have habs : ∀ z : Int, (0 ≤ z ∧ absI z = z) ∨ (z < 0 ∧ absI z = -z) := fun z => by unfold absI; split <;> omega
    have a1 := habs t.n
    have a2 := habs u.n
    have a3 := habs k
    have a4 := habs (t.n + u.n - k)
    have hle : absI k + absI (t.n + u.n - k) ≤ absI t.n + absI u.n := by omega
    refine ⟨by omega, ?_⟩
    by_cases hlt : absI k + absI (t.n + u.n - k) < absI t.n + absI u.n
    · exact .inl (by omega)
    · refine .inr fun ⟨t', ht', hh⟩ => ?_
      rw [hi] at ht'; cases ht'
      have old : ∀ q x, q ≠ i → q ≠ j → (cmet (.least ws b) c p)[q]? = some x → c[q]? = some x := fun q x h1 h2 hx => by rw [g, if_neg h2, if_neg h1] at hx; exact hx
      have red : ∀ q, q ≠ j → q ≠ i → (M q ∨ p = (i, q) ∨ p = (q, i)) → M q := fun q h1 h2 hq => by
        rcases hq with hq | hq | hq
        · exact hq
        · rcases hpp with rfl | rfl
          · exact absurd (congrArg Prod.snd hq).symm h1
          · exact absurd (congrArg Prod.snd hq).symm h2
        · rcases hpp with rfl | rfl
          · exact absurd (congrArg Prod.fst hq).symm h2
          · exact absurd (congrArg Prod.fst hq).symm h1
      have newi : (cmet (.least ws b) c p)[i]? = some ⟨true, k, say1 (.least ws b) k⟩ := by rw [g, if_neg hij, if_pos rfl]
      have newj : ∀ x, (cmet (.least ws b) c p)[j]? = some x → x.n = t.n + u.n - k := fun x hx => by rw [g, if_pos rfl] at hx; cases hx; rfl
      refine ⟨_, newi, ?_⟩
      show (k = 0 ∧ _) ∨ (0 < k ∧ _) ∨ (k < 0 ∧ _)
      by_cases k0 : k = 0
      · refine .inl ⟨k0, fun q x hq hMq hx => ?_⟩
        by_cases hqj : q = j
        · subst hqj; have := newj x hx; omega
        · have hx' := old q x hq hqj hx
          have hMq := red q hqj hq hMq
          rcases hh with ⟨h1, h2⟩ | ⟨h1, h2⟩ | ⟨h1, h2⟩
          · exact h2 q x hq hMq hx'
          · omega
          · omega
      · by_cases kp : 0 < k
        · refine .inr (.inl ⟨kp, fun q x hq hMq hx => ?_⟩)
          by_cases hqj : q = j
          · subst hqj; have := newj x hx; omega
          · have hx' := old q x hq hqj hx
            have hMq := red q hqj hq hMq
            rcases hh with ⟨h1, h2⟩ | ⟨h1, h2⟩ | ⟨h1, h2⟩
            · have := h2 q x hq hMq hx'; omega
            · exact h2 q x hq hMq hx'
            · omega
        · refine .inr (.inr ⟨by omega, fun q x hq hMq hx => ?_⟩)
          by_cases hqj : q = j
          · subst hqj; have := newj x hx; omega
          · have hx' := old q x hq hqj hx
            have hMq := red q hqj hq hMq
            rcases hh with ⟨h1, h2⟩ | ⟨h1, h2⟩ | ⟨h1, h2⟩
            · have := h2 q x hq hMq hx'; omega
            · omega
            · exact h2 q x hq hMq hx'
theorem pm_seq {W : Int} {i : Nat} : ∀ (ps : List (Nat × Nat)) (c : List Th) (M : Nat → Prop), (∀ p ∈ ps, PairOk c.length p) → One c i → CI (.least ws b) W c →
    Gs ab (cseq (.least ws b) c ps) ≤ Gs ab c ∧ (Gs ab (cseq (.least ws b) c ps) < Gs ab c ∨ (PM c i M → PM (cseq (.least ws b) c ps) i fun j => M j ∨ (i, j) ∈ ps ∨ (j, i) ∈ ps))
  | [], c, M, _, _, _ => ⟨Int.le_refl _, .inr fun ⟨t, ht, hh⟩ => ⟨t, ht, by
      simpa [cseq] using hh⟩⟩
  | p :: ps, c, M, hp, h, ci => by
    have hp0 := hp p (by simp)
    obtain ⟨h1, h2⟩ := pm_met (M := M) hp0 h ci
    obtain ⟨g1, g2⟩ := pm_seq ps (cmet (.least ws b) c p) (fun j => M j ∨ p = (i, j) ∨ p = (j, i)) (fun q hq => by rw [cmet_len]; exact hp q (by simp [hq])) (one_keep hp0 h) (ci_met ci hp0)
    simp only [cseq]
    refine ⟨Int.le_trans g1 h1, ?_⟩
    rcases h2 with h2 | h2
    · exact .inl (by omega)
    · rcases g2 with g2 | g2
      · exact .inl (by omega)
      · refine .inr fun hh => ?_
        have := g2 (h2 hh)
        have e : (fun j => (M j ∨ p = (i, j) ∨ p = (j, i)) ∨ (i, j) ∈ ps ∨ (j, i) ∈ ps) = fun j => M j ∨ (i, j) ∈ p :: ps ∨ (j, i) ∈ p :: ps := by
          funext j
          apply propext
          simp only [List.mem_cons]
          constructor
          · rintro ((h | h | h) | h | h)
            · exact .inl h
            · exact .inr (.inl (.inl h.symm))
            · exact .inr (.inr (.inl h.symm))
            · exact .inr (.inl (.inr h))
            · exact .inr (.inr (.inr h))
          · rintro (h | (h | h) | (h | h))
            · exact .inl (.inl h)
            · exact .inl (.inr (.inl h.symm))
            · exact .inr (.inl h)
            · exact .inl (.inr (.inr h.symm))
            · exact .inr (.inr h)
        rw [e] at this
        exact this
def Same (σ : Int) (c : List Th) : Prop := (σ = 1 ∨ σ = -1) ∧ ∀ t ∈ c, 0 ≤ σ * t.n
theorem same_or {W : Int} {i : Nat} {c : List Th} {ps : List (Nat × Nat)} (hp : ∀ p ∈ ps, PairOk c.length p) (hc : Cover c.length ps) (h : One c i) (ci : CI (.least ws b) W c) :
    Gs ab (cseq (.least ws b) c ps) + 1 ≤ Gs ab c ∨ ∃ σ, Same σ (cseq (.least ws b) c ps) := by
  obtain ⟨t, ht, _⟩ := h.1
  have hiN := (List.getElem?_eq_some_iff.mp ht).1
  have h0 : PM c i fun _ => False := ⟨t, ht, by
    rcases Int.lt_trichotomy t.n 0 with hh | hh | hh
    · exact .inr (.inr ⟨hh, fun _ _ _ f => f.elim⟩)
    · exact .inl ⟨hh, fun _ _ _ f => f.elim⟩
    · exact .inr (.inl ⟨hh, fun _ _ _ f => f.elim⟩)⟩
  rcases (pm_seq ps c (fun _ => False) hp h ci).2 with g | g
  · exact .inl (by omega)
  · obtain ⟨t', ht', hh⟩ := g h0
    have cov : ∀ q x, q ≠ i → (cseq (.least ws b) c ps)[q]? = some x → (False ∨ (i, q) ∈ ps ∨ (q, i) ∈ ps) := fun q x hq hx => by
      have := (List.getElem?_eq_some_iff.mp hx).1
      rw [cseq_len] at this
      exact .inr (hc i q hiN this (Ne.symm hq))
    refine .inr ?_
    rcases hh with ⟨h1, h2⟩ | ⟨h1, h2⟩ | ⟨h1, h2⟩
    · refine ⟨1, .inl rfl, fun x hx => ?_⟩
      obtain ⟨q, hq⟩ := mem_at hx
      by_cases hqi : q = i
      · subst hqi; rw [ht'] at hq; cases hq; omega
      · have := h2 q x hqi (cov q x hqi hq) hq; omega
    · refine ⟨1, .inl rfl, fun x hx => ?_⟩
      obtain ⟨q, hq⟩ := mem_at hx
      by_cases hqi : q = i
      · subst hqi; rw [ht'] at hq; cases hq; omega
      · have := h2 q x hqi (cov q x hqi hq) hq; omega
    · refine ⟨-1, .inr rfl, fun x hx => ?_⟩
      obtain ⟨q, hq⟩ := mem_at hx
      by_cases hqi : q = i
      · subst hqi; rw [ht'] at hq; cases hq; omega
      · have := h2 q x hqi (cov q x hqi hq) hq; omega
/-- of one sign: what the one has by then -/
def QM (ws : List Int) (b σ : Int) (c : List Th) (i : Nat) (M : Nat → Prop) : Prop := ∃ t, c[i]? = some t ∧ (σ * t.n = mostL ws b ∨ ∀ j u, j ≠ i → M j → c[j]? = some u → u.n = 0)
theorem qm_met {σ : Int} {c : List Th} {i : Nat} {p : Nat × Nat} {M : Nat → Prop} (hp : PairOk c.length p) (h : One c i) (hs : Same σ c) (hq : QM ws b σ c i M) :
    Same σ (cmet (.least ws b) c p) ∧ QM ws b σ (cmet (.least ws b) c p) i fun j => M j ∨ p = (i, j) ∨ p = (j, i) := by
  rcases one_met (a := .least ws b) hp h with ⟨n1, n2, e⟩ | ⟨j, t, u, hij, hpp, hi, hj, hl, hul, e⟩
  · rw [e]
    obtain ⟨t, ht, hh⟩ := hq
    refine ⟨hs, t, ht, ?_⟩
    rcases hh with hh | hh
    · exact .inl hh
    · refine .inr fun q x hqi hM hx => hh q x hqi ?_ hx
      rcases hM with hM | hM | hM
      · exact hM
      · exact absurd (congrArg Prod.fst hM).symm n1
      · exact absurd (congrArg Prod.snd hM).symm n2
  · have hm := most_pos ws b
    have g := stp_at (a := .least ws b) hij hi hj (t.n + u.n)
    rw [← e] at g
    have hc := clip_cases (m := mostL ws b) (by omega) (t.n + u.n)
    simp only [cl, rm] at g
    generalize clip (mostL ws b) (t.n + u.n) = k at hc g
    have st := hs.2 t (List.mem_of_getElem? hi)
    have su := hs.2 u (List.mem_of_getElem? hj)
    have newi : (cmet (.least ws b) c p)[i]? = some ⟨true, k, say1 (.least ws b) k⟩ := by rw [g, if_neg hij, if_pos rfl]
    refine ⟨⟨hs.1, fun x hx => ?_⟩, _, newi, ?_⟩
    · obtain ⟨q, hx⟩ := mem_at hx
      rw [g] at hx
      split at hx
      · cases hx
        show 0 ≤ σ * (t.n + u.n - k)
        rcases hs.1 with rfl | rfl <;> omega
      · split at hx
        · cases hx
          show 0 ≤ σ * k
          rcases hs.1 with rfl | rfl <;> omega
        · exact hs.2 x (List.mem_of_getElem? hx)
    · obtain ⟨t', ht', hh⟩ := hq
      rw [hi] at ht'; cases ht'
      show σ * k = mostL ws b ∨ _
      by_cases hk : σ * k = mostL ws b
      · exact .inl hk
      · refine .inr fun q x hqi hM hx => ?_
        rw [g] at hx
        split at hx
        · cases hx
          show t.n + u.n - k = 0
          rcases hs.1 with rfl | rfl <;> omega
        · rename_i hqj
          rcases hh with hh | hh
          · exfalso; rcases hs.1 with rfl | rfl <;> omega
          · refine hh q x hqi ?_ hx
            rcases hM with hM | hM | hM
            · exact hM
            · rcases hpp with rfl | rfl
              · exact absurd (congrArg Prod.snd hM).symm hqj
              · exact absurd (congrArg Prod.snd hM).symm hqi
            · rcases hpp with rfl | rfl
              · exact absurd (congrArg Prod.fst hM).symm hqi
              · exact absurd (congrArg Prod.fst hM).symm hqj
theorem qm_seq {σ : Int} {i : Nat} : ∀ (ps : List (Nat × Nat)) (c : List Th) (M : Nat → Prop), (∀ p ∈ ps, PairOk c.length p) → One c i → Same σ c → QM ws b σ c i M →
    Same σ (cseq (.least ws b) c ps) ∧ QM ws b σ (cseq (.least ws b) c ps) i fun j => M j ∨ (i, j) ∈ ps ∨ (j, i) ∈ ps
  | [], c, M, _, _, hs, ⟨t, ht, hh⟩ => ⟨hs, t, ht, by simpa [cseq] using hh⟩
  | p :: ps, c, M, hp, h, hs, hq => by
    have hp0 := hp p (by simp)
    obtain ⟨h1, h2⟩ := qm_met hp0 h hs hq
    obtain ⟨g1, t, ht, hh⟩ := qm_seq ps _ _ (fun q hq => by rw [cmet_len]; exact hp q (by simp [hq])) (one_keep hp0 h) h1 h2
    refine ⟨g1, t, ht, ?_⟩
    rcases hh with hh | hh
    · exact .inl hh
    · refine .inr fun q x hqi hM hx => hh q x hqi ?_ hx
      simp only [List.mem_cons] at hM
      rcases hM with h | (h | h) | (h | h)
      · exact .inl (.inl h)
      · exact .inl (.inr (.inl h.symm))
      · exact .inr (.inl h)
      · exact .inl (.inr (.inr h.symm))
      · exact .inr (.inr h)
theorem same_stab {W σ : Int} {i : Nat} {c : List Th} {ps : List (Nat × Nat)} (hp : ∀ p ∈ ps, PairOk c.length p) (hc : Cover c.length ps) (h : One c i) (ci : CI (.least ws b) W c) (hs : Same σ c) :
    Stab (.least ws b) (cseq (.least ws b) c ps) i (cl (.least ws b) W) := by
  obtain ⟨t0, ht0, _⟩ := h.1
  have hiN := (List.getElem?_eq_some_iff.mp ht0).1
  have h1 := one_seq (a := .least ws b) ps c hp h
  have ci1 := ci_seq ps c hp ci
  obtain ⟨s1, t, ht, hh⟩ := qm_seq (ws := ws) (b := b) ps c (fun _ => False) hp h hs ⟨t0, ht0, .inr fun _ _ _ f => f.elim⟩
  generalize hc1 : cseq (.least ws b) c ps = c1 at *
  have hlen : c1.length = c.length := by rw [← hc1, cseq_len]
  have hm := most_pos ws b
  have rt := ci1.rg t (List.mem_of_getElem? ht)
  simp only [inR] at rt
  have sm : Gs Th.n c1 = W := ci1.sm
  have hcw := clip_cases (m := mostL ws b) (by omega) W
  rcases hh with hh | hh
  · have hV : clip (mostL ws b) W = t.n := by
      rcases s1.1 with rfl | rfl
      · have := (G_nonneg Th.n c1 fun x hx => by have := s1.2 x hx; omega).2 t (List.mem_of_getElem? ht)
        omega
      · have := (G_nonneg (fun t => -(t.n)) c1 fun x hx => by have := s1.2 x hx; omega).2 t (List.mem_of_getElem? ht)
        rw [G_neg Th.n] at this
        omega
    refine ⟨h1, fun x hx => by rw [ht] at hx; cases hx; exact hV.symm, fun j u hj hu => ?_⟩
    have su := s1.2 u (List.mem_of_getElem? hu)
    simp only [cl, rm, hV]
    have hcx := clip_cases (m := mostL ws b) (by omega) (t.n + u.n)
    rcases s1.1 with rfl | rfl <;> omega
  · have ho : ∀ j u, j ≠ i → c1[j]? = some u → u.n = 0 := fun j u hj hu => by
      have := (List.getElem?_eq_some_iff.mp hu).1
      exact hh j u hj (.inr (hc i j hiN (by omega) (Ne.symm hj))) hu
    have hG := G_one Th.n ⟨false, 0, false⟩ rfl ht ho
    have hV : clip (mostL ws b) W = t.n := by omega
    refine ⟨h1, fun x hx => by rw [ht] at hx; cases hx; exact hV.symm, fun j u hj hu => ?_⟩
    simp only [cl, rm, hV, ho j u hj hu]
    have hcx := clip_cases (m := mostL ws b) (by omega) (t.n + 0)
    omega
end
/-! ### how many stretches are enough -/
def Suff (a : At) (W : Int) (N : Nat) : Nat → List Th → Prop
  | 0, c => Done a W c
  | k + 1, c => ∀ ps, (∀ p ∈ ps, PairOk N p) → Cover N ps → Suff a W N k (cseq a c ps)
theorem suff_mono {a : At} {W : Int} {N : Nat} : ∀ (k : Nat) (c : List Th), c.length = N → Suff a W N k c → Suff a W N (k + 1) c
  | 0, c, hN, h => fun ps hp _ => done_seq (by rw [hN]; exact hp) h
  | k + 1, c, hN, h => fun ps hp hc => suff_mono k _ (by rw [cseq_len]; exact hN) (h ps hp hc)
theorem suff_le {a : At} {W : Int} {N : Nat} {c : List Th} (hN : c.length = N) {k m : Nat} (h : Suff a W N k c) (hk : k ≤ m) : Suff a W N m c := by
  induction m with
  | zero => have : k = 0 := by omega
            subst this; exact h
  | succ m ih =>
    by_cases hkm : k = m + 1
    · subst hkm; exact h
    · exact suff_mono m c hN (ih (by omega))
theorem suff_least {ws : List Int} {b W : Int} {N i : Nat} : ∀ (m : Nat) (c : List Th), c.length = N → One c i → CI (.least ws b) W c → Gs ab c ≤ (m : Int) → Suff (.least ws b) W N (m + 3) c
  | m, c, hN, h, ci, hm => fun ps hp hc => by
    have hp' : ∀ p ∈ ps, PairOk c.length p := by rw [hN]; exact hp
    have hc' : Cover c.length ps := by rw [hN]; exact hc
    have h1 := one_seq (a := .least ws b) ps c hp' h
    have ci1 := ci_seq ps c hp' ci
    have hN1 : (cseq (.least ws b) c ps).length = N := by rw [cseq_len]; exact hN
    rcases same_or hp' hc' h ci with g | ⟨σ, g⟩
    · cases m with
      | zero =>
        have := (G_nonneg ab (cseq (.least ws b) c ps) fun t _ => ab_nonneg t).1
        omega
      | succ m => exact suff_least m _ hN1 h1 ci1 (by omega)
    · refine suff_le hN1 (k := 2) (fun ps2 hp2 hc2 => ?_) (by omega)
      have st := same_stab (c := cseq (.least ws b) c ps) (ps := ps2) (by rw [hN1]; exact hp2) (by rw [hN1]; exact hc2) h1 ci1 g
      have ci2 := ci_seq ps2 _ (by rw [hN1]; exact hp2) ci1
      have hN2 : (cseq (.least ws b) (cseq (.least ws b) c ps) ps2).length = N := by rw [cseq_len]; exact hN1
      exact fun ps3 hp3 hc3 => done_of (by rw [hN2]; exact hp3) (by rw [hN2]; exact hc3) st ci2
/-- what the law allows -/
def need (a : At) (N : Nat) : Int := match a with
  | .least ws b => 3 * mostL ws b * (N : Int) + 2
  | .rest _ _ _ => 2
theorem suff_all {a : At} {W : Int} {N : Nat} {c : List Th} (hN : c.length = N) (h1 : 1 ≤ N) (hl : ∃ q, Lead c q) (ci : CI a W c) : Suff a W N (need a N).toNat c := by
  cases a with
  | rest ws w r =>
    refine suff_le hN (k := 2) (fun ps hp hc => ?_) (by simp [need])
    obtain ⟨i, hi⟩ := one_of (a := .rest ws w r) (c := c) (by rw [hN]; exact hp) (by rw [hN]; exact hc) hl
    have ci1 := ci_seq ps c (by rw [hN]; exact hp) ci
    have hN1 : (cseq (.rest ws w r) c ps).length = N := by rw [cseq_len]; exact hN
    exact fun ps2 hp2 hc2 => done_of (by rw [hN1]; exact hp2) (by rw [hN1]; exact hc2) (rest_stab hi ci1) ci1
  | least ws b =>
    have hm := most_pos ws b
    have hsN : ∀ c : List Th, c.length = N → CI (.least ws b) W c → Gs ab c ≤ ((mostL ws b * (N : Int)).toNat : Int) := fun c hN ci => by
      have := G_le ab (mostL ws b) c fun t ht => by
        have := ci.rg t ht
        simp only [inR] at this
        unfold ab absI; split <;> omega
      rw [hN] at this
      have h0 : 0 ≤ mostL ws b * (N : Int) := Int.mul_nonneg (by omega) (by omega)
      omega
    have hpos : (1 : Int) ≤ mostL ws b * (N : Int) := by
      have := Int.mul_le_mul hm (show (1 : Int) ≤ (N : Int) by omega) (by decide) (by omega)
      omega
    refine suff_le hN (k := (mostL ws b * (N : Int)).toNat + 4) (fun ps hp hc => ?_) (by
      simp only [need]
      have e : 3 * mostL ws b * (N : Int) = 3 * (mostL ws b * (N : Int)) := Int.mul_assoc _ _ _
      rw [e]
      omega)
    obtain ⟨i, hi⟩ := one_of (a := .least ws b) (c := c) (by rw [hN]; exact hp) (by rw [hN]; exact hc) hl
    have ci1 := ci_seq ps c (by rw [hN]; exact hp) ci
    have hN1 : (cseq (.least ws b) c ps).length = N := by rw [cseq_len]; exact hN
    exact suff_least _ _ hN1 hi ci1 (hsN _ hN1 ci1)
end P96

/-! k96: folk, column by column. -/
namespace P96
open PySem PySem.Spec L2 DP LW

def z0 : Th := ⟨false, 0, false⟩
def colF (k : Nat) (f : List (List Th)) : List Th := f.map fun ts => (ts[k]?).getD z0
theorem metAll_get : ∀ (as : List At) (ts us : List Th) (k : Nat) (a : At) (t u : Th), as[k]? = some a → ts[k]? = some t → us[k]? = some u → (metAll as ts us)[k]? = some (a.met t u)
  | [], _, _, k, a, t, u, h, _, _ => by simp at h
  | a' :: as, [], _, k, a, t, u, _, h, _ => by simp at h
  | a' :: as, _ :: _, [], k, a, t, u, _, _, h => by simp at h
  | a' :: as, t' :: ts, u' :: us, 0, a, t, u, h1, h2, h3 => by
    simp only [List.getElem?_cons_zero, Option.some.injEq] at h1 h2 h3
    subst h1 h2 h3
    rfl
  | a' :: as, t' :: ts, u' :: us, k + 1, a, t, u, h1, h2, h3 => by
    simp only [List.getElem?_cons_succ] at h1 h2 h3
    simp only [metAll, List.getElem?_cons_succ]
    exact metAll_get as ts us k a t u h1 h2 h3
theorem col_chg {s : Sen} {f : List (List Th)} {k : Nat} {a : At} {p : Nat × Nat} (hf : Fits s f) (ha : s.ats[k]? = some a) (hp : PairOk f.length p) : colF k (chg s.ats f p).1 = cmet a (colF k f) p := by
  have e1 : f[p.1]? = some (f[p.1]'hp.1) := List.getElem?_eq_getElem hp.1
  have e2 : f[p.2]? = some (f[p.2]'hp.2.1) := List.getElem?_eq_getElem hp.2.1
  have l1 := hf _ (List.mem_of_getElem? e1)
  have l2 := hf _ (List.mem_of_getElem? e2)
  have hk := (List.getElem?_eq_some_iff.mp ha).1
  generalize f[p.1]'hp.1 = x at e1 l1
  generalize f[p.2]'hp.2.1 = y at e2 l2
  have hx : x[k]? = some (x[k]'(by omega)) := List.getElem?_eq_getElem _
  have hy : y[k]? = some (y[k]'(by omega)) := List.getElem?_eq_getElem _
  have hm := metAll_get s.ats x y k a _ _ ha hx hy
  have c1 : (colF k f)[p.1]? = some (x[k]'(by omega)) := by simp only [colF, List.getElem?_map, e1, Option.map_some, hx, Option.getD_some]
  have c2 : (colF k f)[p.2]? = some (y[k]'(by omega)) := by simp only [colF, List.getElem?_map, e2, Option.map_some, hy, Option.getD_some]
  simp only [chg, e1, e2, cmet, c1, c2]
  simp only [colF, List.map_set, one1, two2, List.getElem?_map, hm, Option.map_some, Option.getD_some]
theorem col_seq {s : Sen} {k : Nat} {a : At} (ha : s.ats[k]? = some a) : ∀ (ps : List (Nat × Nat)) (f : List (List Th)), Fits s f → (∀ p ∈ ps, PairOk f.length p) → colF k (seqF s.ats f ps) = cseq a (colF k f) ps
  | [], _, _, _ => rfl
  | p :: ps, f, hf, hp => by
    have h0 := hp p (by simp)
    simp only [seqF, cseq]
    rw [col_seq ha ps _ (chg_fits hf p) fun q hq => by rw [chg_len]; exact hp q (by simp [hq])]
    rw [col_chg hf ha h0]
theorem col_len (k : Nat) (f : List (List Th)) : (colF k f).length = f.length := by simp [colF]
def tot (a : At) (bs : List Int) : Int := ((a.ws.zip bs).map fun p => p.1 * p.2).sum
structure FI (s : Sen) (bs : List Int) (f : List (List Th)) : Prop where
  fit : Fits s f
  ci : ∀ k a, s.ats[k]? = some a → CI a (tot a bs) (colF k f)
  ld : ∀ k a, s.ats[k]? = some a → f ≠ [] → ∃ q, Lead (colF k f) q
theorem fi_chg {s : Sen} {bs : List Int} {f : List (List Th)} {p : Nat × Nat} (h : FI s bs f) (hp : PairOk f.length p) : FI s bs (chg s.ats f p).1 := by
  refine ⟨chg_fits h.fit p, fun k a ha => ?_, fun k a ha hne => ?_⟩
  · rw [col_chg h.fit ha hp]
    exact ci_met (h.ci k a ha) (by rw [col_len]; exact hp)
  · rw [col_chg h.fit ha hp]
    refine lead_some (by rw [col_len]; exact hp) (h.ld k a ha ?_)
    intro e
    subst e
    exact absurd hp.1 (by simp)
theorem fi_seq {s : Sen} {bs : List Int} : ∀ (ps : List (Nat × Nat)) (f : List (List Th)), (∀ p ∈ ps, PairOk f.length p) → FI s bs f → FI s bs (seqF s.ats f ps)
  | [], _, _, h => h
  | p :: ps, f, hp, h => fi_seq ps _ (fun q hq => by rw [chg_len]; exact hp q (by simp [hq])) (fi_chg h (hp p (by simp)))
theorem fi_nil (s : Sen) {bs : List Int} (h : ∀ a ∈ s.ats, tot a bs = 0) : FI s bs [] := by
  refine ⟨fun ts h => by simp at h, fun k a ha => ⟨fun t h => by simp [colF] at h, fun t h => by simp [colF] at h, ?_⟩, fun k a _ h => absurd rfl h⟩
  rw [h a (List.mem_of_getElem? ha)]
  cases a with
  | least ws b => rfl
  | rest ws w r => rfl
theorem sum_app {a : At} {W1 W2 S1 S2 : Int} (h1 : sumOk a W1 S1) (h2 : sumOk a W2 S2) : sumOk a (W1 + W2) (S1 + S2) := by
  cases a with
  | least ws b => simp only [sumOk] at h1 h2 ⊢; omega
  | rest ws w r =>
    simp only [sumOk, fm] at h1 h2 ⊢
    rw [Int.add_emod, h1, h2, ← Int.add_emod]
theorem ci_app {a : At} {W1 W2 : Int} {c d : List Th} (h1 : CI a W1 c) (h2 : CI a W2 d) : CI a (W1 + W2) (c ++ d) := by
  refine ⟨fun t ht hl => ?_, fun t ht => ?_, ?_⟩
  · rcases List.mem_append.mp ht with ht | ht
    · exact h1.ld t ht hl
    · exact h2.ld t ht hl
  · rcases List.mem_append.mp ht with ht | ht
    · exact h1.rg t ht
    · exact h2.rg t ht
  · rw [G_app]; exact sum_app h1.sm h2.sm
theorem fi_app {s : Sen} {bs cs ds : List Int} {f g : List (List Th)} (h1 : FI s bs f) (h2 : FI s cs g) (ht : ∀ a ∈ s.ats, tot a ds = tot a bs + tot a cs) : FI s ds (f ++ g) := by
  have hc : ∀ k, colF k (f ++ g) = colF k f ++ colF k g := fun k => by simp [colF]
  refine ⟨fun ts h => ?_, fun k a ha => ?_, fun k a ha hne => ?_⟩
  · rcases List.mem_append.mp h with h | h
    · exact h1.fit ts h
    · exact h2.fit ts h
  · rw [hc, ht a (List.mem_of_getElem? ha)]
    exact ci_app (h1.ci k a ha) (h2.ci k a ha)
  · rw [hc]
    by_cases hf : f = []
    · subst hf
      have hg : g ≠ [] := by simpa using hne
      obtain ⟨q, hq⟩ := h2.ld k a ha hg
      exact ⟨q, by simpa [colF] using hq⟩
    · obtain ⟨q, t, e, hl⟩ := h1.ld k a ha hf
      exact ⟨q, t, by rw [List.getElem?_append_left (List.getElem?_eq_some_iff.mp e).1]; exact e, hl⟩
/-- what one begins with -/
theorem led_ci (a : At) {w : Int} (hw : w ∈ a.ws) : CI a w [a.led w] := by
  refine ⟨fun t ht _ => ?_, fun t ht => ?_, ?_⟩
  · simp only [List.mem_singleton] at ht
    subst ht
    cases a <;> rfl
  · simp only [List.mem_singleton] at ht
    subst ht
    cases a with
    | least ws b =>
      have := (most_ge ws b).2 w hw
      simp only [inR, At.led]
      unfold absI at this
      split at this <;> omega
    | rest ws m r =>
      simp only [inR, At.led, if_true]
      exact fm_in _ _
  · cases a with
    | least ws b => simp [sumOk, Gs, At.led]
    | rest ws m r =>
      simp only [sumOk, Gs, At.led, List.map_cons, List.map_nil, List.sum_cons, List.sum_nil, Int.add_zero, fm]
      exact Int.emod_emod_of_dvd w (Int.dvd_refl _)
theorem led_many (a : At) {w : Int} (hw : w ∈ a.ws) : ∀ m : Nat, CI a (w * (m : Int)) (List.replicate m (a.led w))
  | 0 => ⟨fun t h => by simp at h, fun t h => by simp at h, by cases a <;> simp [sumOk, Gs]⟩
  | m + 1 => by
    have := ci_app (led_ci a hw) (led_many a hw m)
    have e : w * ((m + 1 : Nat) : Int) = w + w * (m : Int) := by rw [Int.natCast_succ, Int.mul_add, Int.mul_one, Int.add_comm]
    rw [e]
    exact this
theorem tot_set : ∀ (ws bs : List Int) (i : Nat) (w b v : Int), ws[i]? = some w → bs[i]? = some b → ((ws.zip (bs.set i v)).map fun p => p.1 * p.2).sum = ((ws.zip bs).map fun p => p.1 * p.2).sum + w * (v - b)
  | [], _, i, _, _, _, h, _ => by simp at h
  | _ :: _, [], i, _, _, _, _, h => by simp at h
  | x :: ws, y :: bs, 0, w, b, v, h1, h2 => by
    simp only [List.getElem?_cons_zero, Option.some.injEq] at h1 h2
    subst h1 h2
    simp only [List.set_cons_zero, List.zip_cons_cons, List.map_cons, List.sum_cons, Int.mul_sub]
    omega
  | x :: ws, y :: bs, i + 1, w, b, v, h1, h2 => by
    simp only [List.getElem?_cons_succ] at h1 h2
    have ih := tot_set ws bs i w b v h1 h2
    simp only [List.set_cons_succ, List.zip_cons_cons, List.map_cons, List.sum_cons, ih]
    omega
theorem tot_zero (a : At) (t : Nat) : tot a (List.replicate t 0) = 0 := by
  have : ∀ (ws : List Int) (t : Nat), ((ws.zip (List.replicate t 0)).map fun p => p.1 * p.2).sum = 0 := by
    intro ws
    induction ws with
    | nil => intro t; simp
    | cons w ws ih =>
      intro t
      cases t with
      | zero => simp
      | succ t =>
        simp only [List.replicate_succ, List.zip_cons_cons, List.map_cons, List.sum_cons, Int.mul_zero, Int.zero_add]
        exact ih t
  exact this a.ws t
theorem fi_beg {s : Sen} {t : Nat} (hs : SenOk s t) {i : Nat} (hi : i < t) (many : Nat) : FI s ((List.replicate t (0 : Int)).set i (many : Int)) (List.replicate many (beg s i)) := by
  refine ⟨fun ts h => by rw [(List.mem_replicate.mp h).2]; exact beg_fits s i, fun k a ha => ?_, fun k a ha hne => ?_⟩
  · have hl := hs.ws a (List.mem_of_getElem? ha)
    have hw : a.ws[i]? = some (a.ws[i]'(by omega)) := List.getElem?_eq_getElem _
    have e : colF k (List.replicate many (beg s i)) = List.replicate many (a.led (a.ws[i]'(by omega))) := by
      simp only [colF, List.map_replicate, beg, List.getElem?_map, ha, Option.map_some, Option.getD_some, hw]
    rw [e]
    have e2 : tot a ((List.replicate t (0 : Int)).set i (many : Int)) = (a.ws[i]'(by omega)) * (many : Int) := by
      have := tot_set a.ws (List.replicate t (0 : Int)) i _ 0 (many : Int) hw (by simp [hi])
      rw [tot, this]
      have h0 := tot_zero a t
      simp only [tot] at h0
      rw [h0]; simp
    rw [e2]
    exact led_many a (List.mem_of_getElem? hw) many
  · have hl := hs.ws a (List.mem_of_getElem? ha)
    have hw : a.ws[i]? = some (a.ws[i]'(by omega)) := List.getElem?_eq_getElem _
    cases many with
    | zero => exact absurd rfl hne
    | succ many =>
      refine ⟨0, a.led (a.ws[i]'(by omega)), ?_, by cases a <;> rfl⟩
      simp only [colF, List.replicate_succ, List.map_cons, List.getElem?_cons_zero, beg, List.getElem?_map, ha, Option.map_some, Option.getD_some, hw]
theorem tot_add {s : Sen} {t : Nat} (hs : SenOk s t) {i : Nat} (hi : i < t) {bs : List Int} (hb : bs.length = t) {b : Int} (hbi : bs[i]? = some b) (many : Nat) : ∀ a ∈ s.ats, tot a (bs.set i (b + many)) = tot a bs + tot a ((List.replicate t (0 : Int)).set i (many : Int)) := fun a ha => by
  have hl := hs.ws a ha
  have hw : a.ws[i]? = some (a.ws[i]'(by omega)) := List.getElem?_eq_getElem _
  have e1 := tot_set a.ws bs i _ b (b + many) hw hbi
  have e2 := tot_set a.ws (List.replicate t (0 : Int)) i _ 0 (many : Int) hw (by simp [hi])
  have h0 := tot_zero a t
  simp only [tot] at h0 ⊢
  rw [e1, e2, h0]
  have : b + (many : Int) - b = (many : Int) - 0 := by omega
  rw [this]; omega
theorem fi_come {s : Sen} {t : Nat} (hs : SenOk s t) {i : Nat} (hi : i < t) {bs : List Int} (hb : bs.length = t) {b : Int} (hbi : bs[i]? = some b) {f : List (List Th)} (h : FI s bs f) (many : Nat) : FI s (bs.set i (b + many)) (f ++ List.replicate many (beg s i)) :=
  fi_app h (fi_beg hs hi many) (tot_add hs hi hb hbi many)
/-! ### what all say in the end -/
def tr : At → Int → Bool
  | .least _ b, W => decide (b ≤ W)
  | .rest _ w r, W => W.fmod (Int.ofNat (w + 1)) == r
theorem say_cl (a : At) (W : Int) : say1 a (cl a W) = tr a W := by
  cases a with
  | rest ws w r => rfl
  | least ws b =>
    show decide (b ≤ clip (mostL ws b) W) = decide (b ≤ W)
    have h1 := (most_ge ws b).1
    have h0 := most_pos ws b
    have hc := clip_cases (m := mostL ws b) (by omega) W
    have ha : (0 ≤ b ∧ absI b = b) ∨ (b < 0 ∧ absI b = -b) := by unfold absI; split <;> omega
    exact decide_eq_decide.mpr (by omega)
def so : Sen → (At → Bool) → Bool
  | .atom a, v => v a
  | .not s, v => !so s v
  | .two c a b, v => if c then so a v && so b v else so a v || so b v
theorem say_so (v : At → Bool) : ∀ (s : Sen) (r : List Bool), s.say (s.ats.map v ++ r) = some (so s v, r)
  | .atom a, r => rfl
  | .not s, r => by simp only [Sen.say, Sen.ats, say_so v s r, Option.map_some, so]
  | .two c a b, r => by
    simp only [Sen.say, Sen.ats, List.map_append, List.append_assoc, say_so v a, Option.bind_some, say_so v b, Option.map_some, so]
def due (s : Sen) (bs : List Int) : Bool := so s fun a => tr a (tot a bs)
def SuffF (s : Sen) (bs : List Int) (N k : Nat) (f : List (List Th)) : Prop := Fits s f ∧ f.length = N ∧ ∀ j a, s.ats[j]? = some a → Suff a (tot a bs) N k (colF j f)
theorem suff_step {s : Sen} {bs : List Int} {N k : Nat} {f : List (List Th)} (h : SuffF s bs N (k + 1) f) {ps : List (Nat × Nat)} (hp : ∀ p ∈ ps, PairOk N p) (hc : Cover N ps) : SuffF s bs N k (seqF s.ats f ps) := by
  obtain ⟨h1, h2, h3⟩ := h
  refine ⟨seqF_fits ps f h1, by rw [seqF_len]; exact h2, fun j a ha => ?_⟩
  rw [col_seq ha ps f h1 (by rw [h2]; exact hp)]
  exact h3 j a ha ps hp hc
theorem suff_done {s : Sen} {bs : List Int} {N : Nat} {f : List (List Th)} (h : SuffF s bs N 0 f) {ps : List (Nat × Nat)} (hp : ∀ p ∈ ps, PairOk N p) : SuffF s bs N 0 (seqF s.ats f ps) := by
  obtain ⟨h1, h2, h3⟩ := h
  refine ⟨seqF_fits ps f h1, by rw [seqF_len]; exact h2, fun j a ha => ?_⟩
  rw [col_seq ha ps f h1 (by rw [h2]; exact hp)]
  exact done_seq (by rw [col_len, h2]; exact hp) (h3 j a ha)
theorem suff_word {s : Sen} {bs : List Int} {N : Nat} {f : List (List Th)} (h : SuffF s bs N 0 f) : ∀ ts ∈ f, s.word ts = due s bs := by
  obtain ⟨h1, h2, h3⟩ := h
  intro ts hts
  obtain ⟨q, hq⟩ := List.getElem?_of_mem hts
  have hl := h1 ts hts
  have e : ts.map Th.y = s.ats.map fun a => tr a (tot a bs) := by
    apply List.ext_getElem?
    intro k
    by_cases hk : k < s.ats.length
    · have ha : s.ats[k]? = some (s.ats[k]'hk) := List.getElem?_eq_getElem hk
      have ht : ts[k]? = some (ts[k]'(by omega)) := List.getElem?_eq_getElem _
      have hc : (colF k f)[q]? = some (ts[k]'(by omega)) := by simp only [colF, List.getElem?_map, hq, Option.map_some, ht, Option.getD_some]
      have := (h3 k _ ha).2 q _ hc
      simp only [List.getElem?_map, ha, ht, Option.map_some, this, say_cl]
    · simp only [List.getElem?_map]
      rw [List.getElem?_eq_none (by omega), List.getElem?_eq_none (by omega)]
      rfl
  have := say_so (fun a => tr a (tot a bs)) s []
  rw [List.append_nil, ← e] at this
  simp only [Sen.word, this, due]
/-- the most of what the parts need -/
def stret (N : Nat) : Sen → Int
  | .atom a => need a N
  | .not s => stret N s
  | .two _ a b => if stret N a < stret N b then stret N b else stret N a
theorem stret_ge (N : Nat) : ∀ (s : Sen), ∀ a ∈ s.ats, need a N ≤ stret N s
  | .atom a, a', h => by
    simp only [Sen.ats, List.mem_singleton] at h
    subst h; exact Int.le_refl _
  | .not s, a, h => stret_ge N s a h
  | .two c x y, a, h => by
    simp only [Sen.ats, List.mem_append] at h
    simp only [stret]
    rcases h with h | h
    · have := stret_ge N x a h; split <;> omega
    · have := stret_ge N y a h; split <;> omega
theorem suff_start {s : Sen} {bs : List Int} {f : List (List Th)} (h : FI s bs f) (hN : 1 ≤ f.length) : SuffF s bs f.length (stret f.length s).toNat f := by
  refine ⟨h.fit, rfl, fun j a ha => ?_⟩
  have hne : f ≠ [] := by intro e; subst e; simp at hN
  have := suff_all (col_len j f) hN (h.ld j a ha hne) (h.ci j a ha)
  have hg := stret_ge f.length s a (List.mem_of_getElem? ha)
  exact suff_le (col_len j f) this (by omega)
theorem chg_same {as : List At} {f : List (List Th)} {p : Nat × Nat} (h : (chg as f p).2 = false) : (chg as f p).1 = f := by
  unfold chg at h ⊢
  split at h
  · rename_i a b ha hb
    simp only [Bool.not_eq_false', Bool.and_eq_true, eqT_iff] at h
    simp only [ha, hb]
    rw [← h.1, ← h.2]
    have e1 : f.set p.1 a = f := by
      apply List.ext_getElem?
      intro i
      by_cases hi : p.1 = i
      · subst hi; rw [List.getElem?_set_self (List.getElem?_eq_some_iff.mp ha).1, ha]
      · rw [List.getElem?_set_ne hi]
    rw [e1]
    apply List.ext_getElem?
    intro i
    by_cases hi : p.2 = i
    · subst hi; rw [List.getElem?_set_self (List.getElem?_eq_some_iff.mp hb).1, hb]
    · rw [List.getElem?_set_ne hi]
  · rfl
/-- where nothing changed, nothing is otherwise -/
theorem quiet {as : List At} : ∀ (ps : List (Nat × Nat)) (f : List (List Th)), cnt (seqB as f ps) = 0 → seqF as f ps = f
  | [], _, _ => rfl
  | p :: ps, f, h => by
    simp only [seqB, cnt_cons] at h
    have h0 := (cnt_le (seqB as (chg as f p).1 ps)).1
    have hb : (chg as f p).2 = false := by
      cases hb : (chg as f p).2 with
      | false => rfl
      | true => rw [hb] at h; simp at h; omega
    rw [hb] at h
    have hs := chg_same hb
    simp only [seqF]
    rw [hs] at h ⊢
    exact quiet ps f (by simpa using h)
theorem prs_cover (b : Bool) (N : Nat) : Cover N (prsB b N) := by
  have h : ∀ i j, i < j → j < N → (i, j) ∈ prs N := fun i j h1 h2 => by
    simp only [prs, List.mem_flatMap, List.mem_map, List.mem_range]
    exact ⟨i, by omega, j - (i + 1), by omega, by simp; omega⟩
  intro i j hi hj hij
  cases b with
  | false =>
    show (i, j) ∈ prs N ∨ (j, i) ∈ prs N
    rcases Nat.lt_or_gt_of_ne hij with hlt | hlt
    · exact .inl (h i j hlt hj)
    · exact .inr (h j i hlt hi)
  | true =>
    show (i, j) ∈ (prs N).reverse.map _ ∨ (j, i) ∈ (prs N).reverse.map _
    rcases Nat.lt_or_gt_of_ne hij with hlt | hlt
    · exact .inr (List.mem_map.mpr ⟨(i, j), List.mem_reverse.mpr (h i j hlt hj), rfl⟩)
    · exact .inl (List.mem_map.mpr ⟨(j, i), List.mem_reverse.mpr (h j i hlt hi), rfl⟩)
end P96

/-! k96 in plain Lean: the law's own defs. -/
namespace P96
open PySem PySem.Spec L2 DP LW

theorem e_frzL {Γ : Pr} {a : E} {n : Nat} {ρ : Rho} {μ μ1 : Sto} {ds : List D} (h : ev Γ a ρ μ = some (.cell n, μ1)) (hn : μ1[n]? = some (.lst ds)) : ev Γ (.frz a) ρ μ = some (.lst ds, μ1.set n .dead) := by
  simp only [ev, h, bnd_some, freezeD, hn]
theorem c_mem2 (Γ : Pr) (x a b : Str) (μ : Sto) : cmpD Γ .mem (.str x) (.tup [.str a, .str b]) μ = some ((a == x || (b == x || false)), μ) := rfl
theorem i_zipM {Γ : Pr} {a b : E} {ρ : Rho} {μ μ1 μ2 : Sto} {ds es : List D} {n : Nat} (h1 : ev Γ a ρ μ = some (.tup ds, μ1)) (h2 : ev Γ b ρ μ1 = some (.cell n, μ2)) (hn : μ2[n]? = some (.lst es)) : evI Γ (.zip2 a b) ρ μ = some (((ds.zip es).map fun p => D.tup [p.1, p.2], some (n, es)), μ2) := by
  simp only [evI, h1, bnd_some, h2, hn]
theorem e_rep {Γ : Pr} {a b : E} {ρ : Rho} {μ μ1 μ2 : Sto} {d : D} {ds : List D} {k : Int} (h1 : ev Γ a ρ μ = some (d, μ1)) (h2 : ev Γ b ρ μ1 = some (.int k, μ2)) (hl : lstOf d μ2 = some ds) (hk : -(2 ^ 63) ≤ k ∧ k < 2 ^ 63) (hz : (List.replicate k.toNat ds).flatten.length ≤ sizeLine) : ev Γ (.rep false a b) ρ μ = some (.lst (List.replicate k.toNat ds).flatten, μ2) := by
  simp only [ev, h1, bnd_some, h2, hl, Option.bind_some]
  rw [if_pos hk]
  simp only [DP.alloc, hz, if_true, Bool.false_eq_true, if_false]
theorem e_repC {Γ : Pr} {a b : E} {ρ : Rho} {μ μ1 μ2 : Sto} {d : D} {ds : List D} {k : Int} (h1 : ev Γ a ρ μ = some (d, μ1)) (h2 : ev Γ b ρ μ1 = some (.int k, μ2)) (hl : lstOf d μ2 = some ds) (hk : -(2 ^ 63) ≤ k ∧ k < 2 ^ 63) (hz : (List.replicate k.toNat ds).flatten.length ≤ sizeLine) : ev Γ (.rep true a b) ρ μ = some (.cell μ2.length, μ2 ++ [.lst (List.replicate k.toNat ds).flatten]) := by
  simp only [ev, h1, bnd_some, h2, hl, Option.bind_some]
  rw [if_pos hk]
  simp only [DP.alloc, hz, if_true]
theorem c63 {i : Int} (h1 : -1000000 ≤ i) (h2 : i ≤ 1000000) : -(2 ^ 63) ≤ i ∧ i < 2 ^ 63 := ⟨Int.le_trans (by decide) h1, Int.lt_of_le_of_lt h2 (by decide)⟩
def isoC : E := .lc false [6] (.one (.n 6)) (.cons (.sl false (.v 0) (.cons (.c (.int 1)) .nil) .noP) .nil) .nil (.call "_law_is_so" (.cons (.v 6) (.cons (.v 1) .nil)))
theorem run_is_so (wf mb : Nat) (bs : List Int) (μ : Sto) (hb : μ[mb]? = some (.lst (bs.map D.int))) : ∀ (s : Sen) (k : Nat), s.dep < k → (∀ a ∈ s.ats, Small a ∧ a.ws.length ≤ 10) → (G.pr wf k).call "_law_is_so" [s.e, .cell mb] μ = some (.bl (due s bs), μ)
  | .atom a, k + 1, _, hsm => by
    obtain ⟨sm, hl⟩ := hsm a (by simp [Sen.ats])
    rw [call_s wf k "_law_is_so" (d := d__law_is_so) rfl]
    let Γ := G.pr wf k
    let R0 : Rho := [some a.e, some (.cell mb), none, none, none, none, none]
    let S := tot a bs
    let R1 : Rho := [some a.e, some (.cell mb), some (.int S), none, none, none, none]
    have hw : ev Γ (.ix (.v 0) (.c (.int 1))) R0 μ = some (.tup (a.ws.map D.int), μ) := e_ix (e_v rfl) e_c (by cases a <;> rfl)
    have hi := i_zipM (Γ := Γ) (b := .v 1) hw (e_v (i := 1) (ρ := R0) rfl) hb
    have hlc := ev_lc1 (Γ := Γ) (own := [3, 4]) (tg := .tup [(.n 3), (.n 4)]) (cs := .nil) (elt := .bin .mul (.v 3) (.v 4)) (g := fun x => match x with | .tup [.int x, .int y] => .int (x * y) | x => x) hi (watch_self hb) (small (by simp; omega)) fun x hx => by
      obtain ⟨p, hp, rfl⟩ := List.mem_map.mp hx
      obtain ⟨p1, p2⟩ := p
      obtain ⟨h1, h2⟩ := List.of_mem_zip hp
      obtain ⟨w, hw, rfl⟩ := List.mem_map.mp h1
      obtain ⟨y, hy, rfl⟩ := List.mem_map.mp h2
      have := sm.1 w hw
      exact lc_step (ρ1 := [some a.e, some (.cell mb), none, some (.int w), some (.int y), none, none]) rfl (e_bin (e_v rfl) (e_v rfl) (o_mulL (by omega) (by omega)))
    have hm : ((((a.ws.map D.int).zip (bs.map D.int)).map fun p => D.tup [p.1, p.2]).map fun x => match x with | .tup [.int x, .int y] => .int (x * y) | x => x) = ((a.ws.zip bs).map fun p => p.1 * p.2).map D.int := by
      rw [List.zip_map, List.map_map, List.map_map, List.map_map]
      apply List.map_congr_left
      rintro ⟨x, y⟩ _
      rfl
    rw [hm] at hlc
    have t1 : evS Γ (.set (.one (.n 2)) (.bi .sum false (.cons (.lc false [3,4] (.tup [(.n 3), (.n 4)]) (.zip2 (.ix (.v 0) (.c (.int 1))) (.v 1)) .nil (.bin .mul (.v 3) (.v 4))) .nil))) R0 μ = some (.next, R1, μ) :=
      s_set (e_bi (es_1 hlc) (by simp only [biD, listed, Option.bind_some, intsD_map, Option.map_some]; rfl))
    have hmem : evT Γ (.cmp .mem (.ix (.v 0) (.c (.int 0))) (.tup (.cons (.c (.str "least")) (.cons (.c (.str "rest")) .nil)))) R0 μ = some (true, μ) := by cases a <;> kernel_rfl
    refine run_retX R0 (ρ' := R1) rfl rfl rfl (sq_ret ?_)
    rw [s_if hmem, if_pos rfl]
    refine sq t1 ?_
    cases a with
    | least ws b =>
      refine sq_ret ?_
      rw [s_if (k := true) (μ' := μ) (by kernel_rfl), if_pos rfl]
      exact sq_ret (s_ret (e_cmp (e_v rfl) (e_ix (d := .int b) (e_v rfl) e_c rfl) rfl))
    | rest ws w r =>
      refine sq (ρ' := R1) (μ' := μ) ?_ (sq_ret (s_ret ?_))
      · rw [s_if (k := false) (μ' := μ) (by kernel_rfl), if_neg Bool.false_ne_true]; rfl
      · exact e_cmp (e_bin (d := .int (S.fmod (Int.ofNat (w + 1)))) (e_v rfl) (e_ix (d := .int (Int.ofNat (w + 1))) (e_v rfl) e_c rfl) (o_mod (fun h => by have : ((w + 1 : Nat) : Int) = 0 := h; omega))) (e_ix (d := .int r) (e_v rfl) e_c rfl) (c_eqI _ _ _ _)
  | .not s, k + 1, h, hsm => by
    have ih := run_is_so wf mb bs μ hb s k (by simp only [Sen.dep] at h; omega) hsm
    rw [call_s wf k "_law_is_so" (d := d__law_is_so) rfl]
    let R0 : Rho := [some (Sen.not s).e, some (.cell mb), none, none, none, none, none]
    let R1 : Rho := [some (Sen.not s).e, some (.cell mb), none, none, none, some (.lst [.bl (due s bs)]), none]
    have hi : evI (G.pr wf k) (.cons (.sl false (.v 0) (.cons (.c (.int 1)) .nil) .noP) .nil) R0 μ = some (([s.e], none), μ) := by kernel_rfl
    have hc : ev (G.pr wf k) isoC R0 μ = some (.lst [.bl (due s bs)], μ) := ev_lcS hi (by
      have := lc_step (Γ := G.pr wf k) (own := [6]) (tg := .one (.n 6)) (ρ := R0) (ρ1 := [some (Sen.not s).e, some (.cell mb), none, none, none, none, some s.e]) (x := s.e) rfl (e_call (es_2 (e_v (i := 6) rfl) (e_v (i := 1) rfl)) ih)
      simp only [lcLoop, this, bnd_some, watch, if_true]; rfl) (small (by simp))
    refine run_retX R0 (ρ' := R1) rfl rfl rfl (sq (ρ' := R0) (μ' := μ) (by kernel_rfl) (sq (s_set hc) (sq_ret ?_)))
    show evS (G.pr wf k) (.ife (.cmp .eq (.ix (.v 0) (.c (.int 0))) (.c (.str "not"))) (.seq (.ret (.not (.ix (.v 5) (.c (.int 0))))) .nil) .nil) R1 μ = _
    rw [s_if (k := true) (μ' := μ) (by kernel_rfl), if_pos rfl]
    rfl
  | .two c x y, k + 1, h, hsm => by
    have hd : x.dep < k ∧ y.dep < k := by simp only [Sen.dep] at h; omega
    have ih1 := run_is_so wf mb bs μ hb x k hd.1 fun a ha => hsm a (by simp [Sen.ats, ha])
    have ih2 := run_is_so wf mb bs μ hb y k hd.2 fun a ha => hsm a (by simp [Sen.ats, ha])
    have hdu : due (Sen.two c x y) bs = if c then due x bs && due y bs else due x bs || due y bs := rfl
    rw [hdu]
    generalize due x bs = d1 at ih1
    generalize due y bs = d2 at ih2
    rw [call_s wf k "_law_is_so" (d := d__law_is_so) rfl]
    let R0 : Rho := [some (Sen.two c x y).e, some (.cell mb), none, none, none, none, none]
    let R1 : Rho := [some (Sen.two c x y).e, some (.cell mb), none, none, none, some (.lst [.bl d1, .bl d2]), none]
    have hi : evI (G.pr wf k) (.cons (.sl false (.v 0) (.cons (.c (.int 1)) .nil) .noP) .nil) R0 μ = some (([x.e, y.e], none), μ) := by kernel_rfl
    have hc : ev (G.pr wf k) isoC R0 μ = some (.lst [.bl d1, .bl d2], μ) := ev_lcS hi (by
      have h1 := lc_step (Γ := G.pr wf k) (own := [6]) (tg := .one (.n 6)) (ρ := R0) (ρ1 := [some (Sen.two c x y).e, some (.cell mb), none, none, none, none, some x.e]) (x := x.e) rfl (e_call (es_2 (e_v (i := 6) rfl) (e_v (i := 1) rfl)) ih1)
      have h2 := lc_step (Γ := G.pr wf k) (own := [6]) (tg := .one (.n 6)) (ρ := R0) (ρ1 := [some (Sen.two c x y).e, some (.cell mb), none, none, none, none, some y.e]) (x := y.e) rfl (e_call (es_2 (e_v (i := 6) rfl) (e_v (i := 1) rfl)) ih2)
      simp only [lcLoop, h1, h2, bnd_some, watch, if_true]; rfl) (small (by simp))
    refine run_retX R0 (ρ' := R1) rfl rfl rfl (sq (ρ' := R0) (μ' := μ) (by cases c <;> kernel_rfl) (sq (s_set hc) ?_))
    cases c <;> cases d1 <;> cases d2 <;> kernel_rfl
/-! ### how many stretches -/
def absC : E := .lc false [3] (.one (.n 3)) (.cons (.ix (.v 0) (.c (.int 1))) .nil) .nil (.bi .abs false (.cons (.v 3) .nil))
theorem run_stretches (wf N : Nat) (hN : N ≤ 1000) (μ : Sto) : ∀ (s : Sen) (k : Nat), s.dep < k → (∀ a ∈ s.ats, a.ws.length ≤ 10) → (G.pr wf k).call "_law_stretches" [s.e, .int (N : Nat)] μ = some (.int (stret N s), μ)
  | .atom a, k + 1, _, hl => by
    have hl := hl a (by simp [Sen.ats])
    rw [call_s wf k "_law_stretches" (d := d__law_stretches) rfl]
    let Γ := G.pr wf k
    let R0 : Rho := [some a.e, some (.int (N : Nat)), none, none, none]
    cases a with
    | rest ws w r =>
      refine run_retX R0 (ρ' := R0) rfl rfl rfl (sq (ρ' := R0) (μ' := μ) ?_ (sq_ret ?_))
      · show evS Γ (.ife (.cmp .eq (.ix (.v 0) (.c (.int 0))) (.c (.str "least"))) _ .nil) R0 μ = _
        rw [s_if (k := false) (μ' := μ) (by kernel_rfl), if_neg Bool.false_ne_true]; rfl
      · rw [s_if (k := true) (μ' := μ) (by kernel_rfl), if_pos rfl]
        rfl
    | least ws b =>
      let R1 : Rho := [some (At.least ws b).e, some (.int (N : Nat)), some (.int (mostL ws b)), none, none]
      have hw : ev Γ (.ix (.v 0) (.c (.int 1))) R0 μ = some (.tup (ws.map D.int), μ) := e_ix (e_v rfl) e_c rfl
      have hi : evI Γ (.cons (.ix (.v 0) (.c (.int 1))) .nil) R0 μ = some ((ws.map D.int, none), μ) := by simp only [evI, hw, bnd_some]
      have g1 := ev_lc1 (Γ := Γ) (own := [3]) (tg := .one (.n 3)) (cs := .nil) (elt := .bi .abs false (.cons (.v 3) .nil)) (g := fun x => match x with | .int i => .int (absI i) | x => x) hi rfl (small (by have : ws.length ≤ 10 := hl; simp; omega)) fun x hx => by
        obtain ⟨i, _, rfl⟩ := List.mem_map.mp hx
        exact lc_step (ρ1 := [some (At.least ws b).e, some (.int (N : Nat)), none, some (.int i), none]) rfl (e_bi (es_1 (e_v rfl)) rfl)
      have e2 : ((ws.map D.int).map fun x => match x with | .int i => .int (absI i) | x => x) = (ws.map absI).map D.int := by simp [List.map_map, Function.comp_def]
      rw [e2] at g1
      have e4 : (intsD ((ws.map absI).map D.int ++ [D.int (absI b + 1)])) = some (ws.map absI ++ [absI b + 1]) := by
        have := intsD_map (ws.map absI ++ [absI b + 1])
        simpa using this
      have hz : ((ws.map absI).map D.int ++ [D.int (absI b + 1)]).length ≤ sizeLine := small (by have : ws.length ≤ 10 := hl; simp; omega)
      have g2 : ev Γ (.bi .maxL false (.cons (.cat false absC (.lst false (.cons (.bin .add (.bi .abs false (.cons (.ix (.v 0) (.c (.int 2))) .nil)) (.c (.int 1))) .nil))) .nil)) R0 μ = some (.int (mostL ws b), μ) := by
        refine e_bi (es_1 (e_cat g1 (e_lst (es_1 (e_bin (d1 := .int (absI b)) (e_bi (es_1 (e_ix (d := .int b) (e_v rfl) e_c rfl)) rfl) e_c rfl)) (small (by simp))) rfl rfl hz)) ?_
        show ((intsD ((ws.map absI).map D.int ++ [D.int (absI b + 1)])).bind fun is => match is with | [] => none | i :: is => some (D.int (maxI i is), _)) = _
        rw [e4]
        unfold mostL
        cases ws <;> rfl
      refine run_retX R0 (ρ' := R1) rfl rfl rfl (sq_ret ?_)
      rw [s_if (k := true) (μ' := μ) (by kernel_rfl), if_pos rfl]
      refine sq (s_set g2) (sq_ret (s_ret ?_))
      exact e_bin (d1 := .int (3 * mostL ws b * (N : Int))) (e_bin (d1 := .int (3 * mostL ws b)) (e_bin e_c (e_v rfl) (o_mulL (by omega) (by omega))) (e_v rfl) (o_mulR (by omega) (by omega))) e_c rfl
  | .not s, k + 1, h, hl => by
    have ih := run_stretches wf N hN μ s k (by simp only [Sen.dep] at h; omega) hl
    rw [call_s wf k "_law_stretches" (d := d__law_stretches) rfl]
    let R0 : Rho := [some (Sen.not s).e, some (.int (N : Nat)), none, none, none]
    have hi : evI (G.pr wf k) (.cons (.sl false (.v 0) (.cons (.c (.int 1)) .nil) .noP) .nil) R0 μ = some (([s.e], none), μ) := by kernel_rfl
    have hc := ev_lcS (Γ := G.pr wf k) (own := [4]) (tg := .one (.n 4)) (cs := .nil) (elt := .call "_law_stretches" (.cons (.v 4) (.cons (.v 1) .nil))) (ds := [.int (stret N s)]) (μ2 := μ) hi (by
      have := lc_step (Γ := G.pr wf k) (own := [4]) (tg := .one (.n 4)) (ρ := R0) (ρ1 := [some (Sen.not s).e, some (.int (N : Nat)), none, none, some s.e]) (x := s.e) rfl (e_call (es_2 (e_v (i := 4) rfl) (e_v (i := 1) rfl)) ih)
      simp only [lcLoop, this, bnd_some, watch, if_true]; rfl) (small (by simp))
    exact run_retX R0 (ρ' := R0) rfl rfl rfl (sq (ρ' := R0) (μ' := μ) (by kernel_rfl) (sq (ρ' := R0) (μ' := μ) (by kernel_rfl) (sq_ret (s_ret (e_bi (es_1 hc) rfl)))))
  | .two c x y, k + 1, h, hl => by
    have hd : x.dep < k ∧ y.dep < k := by simp only [Sen.dep] at h; omega
    have ih1 := run_stretches wf N hN μ x k hd.1 fun a ha => hl a (by simp [Sen.ats, ha])
    have ih2 := run_stretches wf N hN μ y k hd.2 fun a ha => hl a (by simp [Sen.ats, ha])
    rw [call_s wf k "_law_stretches" (d := d__law_stretches) rfl]
    let R0 : Rho := [some (Sen.two c x y).e, some (.int (N : Nat)), none, none, none]
    have hi : evI (G.pr wf k) (.cons (.sl false (.v 0) (.cons (.c (.int 1)) .nil) .noP) .nil) R0 μ = some (([x.e, y.e], none), μ) := by kernel_rfl
    have hc := ev_lcS (Γ := G.pr wf k) (own := [4]) (tg := .one (.n 4)) (cs := .nil) (elt := .call "_law_stretches" (.cons (.v 4) (.cons (.v 1) .nil))) (ds := [.int (stret N x), .int (stret N y)]) (μ2 := μ) hi (by
      have h1 := lc_step (Γ := G.pr wf k) (own := [4]) (tg := .one (.n 4)) (ρ := R0) (ρ1 := [some (Sen.two c x y).e, some (.int (N : Nat)), none, none, some x.e]) (x := x.e) rfl (e_call (es_2 (e_v (i := 4) rfl) (e_v (i := 1) rfl)) ih1)
      have h2 := lc_step (Γ := G.pr wf k) (own := [4]) (tg := .one (.n 4)) (ρ := R0) (ρ1 := [some (Sen.two c x y).e, some (.int (N : Nat)), none, none, some y.e]) (x := y.e) rfl (e_call (es_2 (e_v (i := 4) rfl) (e_v (i := 1) rfl)) ih2)
      simp only [lcLoop, h1, h2, bnd_some, watch, if_true]; rfl) (small (by simp))
    exact run_retX R0 (ρ' := R0) rfl rfl rfl (sq (ρ' := R0) (μ' := μ) (by cases c <;> kernel_rfl) (sq (ρ' := R0) (μ' := μ) (by cases c <;> kernel_rfl) (sq_ret (s_ret (e_bi (es_1 hc) rfl)))))
theorem stret_le {N : Nat} (hN : N ≤ 100) : ∀ s : Sen, (∀ a ∈ s.ats, Small a) → 2 ≤ stret N s ∧ stret N s ≤ 4000
  | .atom a, h => by
    have sm := h a (by simp [Sen.ats])
    cases a with
    | rest ws w r => simp [stret, need]
    | least ws b =>
      have h1 : mostL ws b ≤ 11 := by
        unfold mostL
        have hb : absI b ≤ 10 := by have := sm.2; simp only at this; unfold absI; split <;> omega
        have key : ∀ (is : List Int) (m : Int), m ≤ 11 → (∀ i ∈ is, i ≤ 11) → maxI m is ≤ 11 := by
          intro is
          induction is with
          | nil => intro m h _; exact h
          | cons i is ih =>
            intro m hm hi
            have := hi i (by simp)
            exact ih _ (by split <;> omega) fun q hq => hi q (by simp [hq])
        have hws : ∀ q ∈ ws.map absI, q ≤ 11 := fun q hq => by
          obtain ⟨w, hw, rfl⟩ := List.mem_map.mp hq
          have := sm.1 w hw
          unfold absI; split <;> omega
        split
        · omega
        · rename_i i is heq
          have hall : ∀ q ∈ i :: is, q ≤ 11 := fun q hq => by
            rw [← heq] at hq
            rcases List.mem_append.mp hq with hq | hq
            · exact hws q hq
            · simp at hq; omega
          exact key is i (hall i (by simp)) fun q hq => hall q (by simp [hq])
      have h0 := most_pos ws b
      simp only [stret, need]
      have h2 : mostL ws b * (N : Int) ≤ 11 * 100 := Int.mul_le_mul h1 (by omega) (by omega) (by decide)
      have h3 : 0 ≤ mostL ws b * (N : Int) := Int.mul_nonneg (by omega) (by omega)
      have e : 3 * mostL ws b * (N : Int) = 3 * (mostL ws b * (N : Int)) := Int.mul_assoc _ _ _
      rw [e]; omega
  | .not s, h => stret_le hN s h
  | .two c x y, h => by
    have h1 := stret_le hN x fun a ha => h a (by simp [Sen.ats, ha])
    have h2 := stret_le hN y fun a ha => h a (by simp [Sen.ats, ha])
    simp only [stret]; split <;> omega
/-! ### meetings in order -/
theorem run_order {wf k n nf ng : Nat} {s : Sen} {by_ : List (Key × D)} {marks : D} {f : List (List Th)} {μ : Sto} {ps : List (Nat × Nat)} (h : Has μ n nf ng s f by_ marks) (hn : nf ≠ n) (hg : nf ≠ ng) (hl : s.ats.length ≤ 1000) (hf : Fits s f) (hp : ∀ p ∈ ps, PairOk f.length p) :
    (G.pr wf (k + 5)).call "_law_met_in_order" [.cell n, .lst (ps.map prD)] μ = some (.non, μ.set nf (.lst (fD (seqF s.ats f ps)))) := by
  rw [call_s wf (k + 4) "_law_met_in_order" (d := d__law_met_in_order) rfl]
  let Γ := G.pr wf (k + 4)
  let b : S := .seq (.ex (.meth (.v 0) "meet" (.cons (.v 2) (.cons (.v 3) .nil)))) .nil
  have loop : ∀ (N : Nat) (PL : D) (ps : List (Nat × Nat)) (f : List (List Th)) (μ : Sto) (x2 x3 : Option D), Has μ n nf ng s f by_ marks → Fits s f → (∀ p ∈ ps, PairOk f.length p) →
      ∃ x2' x3', forL false N none (fun x ρ μ => (DP.bind Γ (.tup [(.n 2), (.n 3)]) x ρ μ).bind fun p => evS Γ b p.1 p.2) (ps.map prD) [some (.cell n), some PL, x2, x3] μ = some (.next, [some (.cell n), some PL, x2', x3'], μ.set nf (.lst (fD (seqF s.ats f ps)))) := by
    intro N PL ps
    induction ps with
    | nil =>
      intro f μ x2 x3 h _ _
      have e : μ.set nf (.lst (fD f)) = μ := set_same h.folk
      exact ⟨x2, x3, by simp only [List.map_nil, forL, seqF, e]⟩
    | cons p ps ih =>
      intro f μ x2 x3 h hf hp
      have h0 := hp p (by simp)
      have e1 : f[p.1]? = some (f[p.1]'h0.1) := List.getElem?_eq_getElem h0.1
      have e2 : f[p.2]? = some (f[p.2]'h0.2.1) := List.getElem?_eq_getElem h0.2.1
      have hm := run_meet (wf := wf) (k := k) h hn hg e1 e2 h0.2.2 hl (hf _ (List.mem_of_getElem? e1)) (hf _ (List.mem_of_getElem? e2))
      have hc : (f.set p.1 (one1 s.ats (f[p.1]'h0.1) (f[p.2]'h0.2.1))).set p.2 (two2 s.ats (f[p.1]'h0.1) (f[p.2]'h0.2.1)) = (chg s.ats f p).1 := by simp only [chg, e1, e2]
      rw [hc] at hm
      obtain ⟨x2', x3', e⟩ := ih (chg s.ats f p).1 _ (some (.int (p.1 : Nat))) (some (.int (p.2 : Nat))) (h.put hn hg _) (chg_fits hf p) fun q hq => by rw [chg_len]; exact hp q (by simp [hq])
      rw [List.set_set] at e
      refine ⟨x2', x3', ?_⟩
      have eb : evS Γ b [some (.cell n), some PL, some (.int (p.1 : Nat)), some (.int (p.2 : Nat))] μ = some (.next, [some (.cell n), some PL, some (.int (p.1 : Nat)), some (.int (p.2 : Nat))], μ.set nf (.lst (fD (chg s.ats f p).1))) :=
        sq (s_ex (e_meth (e_v rfl) (recv_T h rfl) (es_2 (e_v rfl) (e_v rfl)) hm)) rfl
      exact forB_cons rfl eb rfl e
  obtain ⟨x2, x3, e⟩ := loop μ.length (.lst (ps.map prD)) ps f μ none none h hf hp
  exact run_next (ρ' := [some (.cell n), some (.lst (ps.map prD)), x2, x3]) rfl rfl (sq (s_for (i_one (e_v rfl)) e) rfl)
/-! ### all say it -/
theorem said_all {b : Bool} : ∀ {N : Nat}, 1 ≤ N → saidW (List.replicate N b) = wordD b
  | N + 1, _ => by
    simp only [List.replicate_succ, saidW]
    rw [if_pos]
    simp
theorem run_all_say {wf k n nf ng : Nat} {s : Sen} {by_ : List (Key × D)} {marks : D} {f : List (List Th)} {μ : Sto} {b : Bool} (h : Has μ n nf ng s f by_ marks) (ok : Ok μ) (hf : Fits s f) (hd : s.dep ≤ 5) (hl : s.ats.length ≤ 1000) (h1 : 1 ≤ f.length) (hm : f.length ≤ 1000) (hw : ∀ ts ∈ f, s.word ts = b) :
    (G.pr wf (k + 10)).call "_law_all_say" [.cell n, wordD b] μ = some (.bl true, μ) := by
  rw [call_s wf (k + 9) "_law_all_say" (d := d__law_all_say) rfl]
  let Γ := G.pr wf (k + 9)
  have hws : wordsL s f = List.replicate f.length b := by
    rw [wordsL]
    apply List.ext_getElem?
    intro i
    simp only [List.getElem?_map, List.getElem?_replicate]
    by_cases hi : i < f.length
    · rw [List.getElem?_eq_getElem hi, if_pos hi, Option.map_some, hw _ (List.getElem_mem hi)]
    · rw [List.getElem?_eq_none (by omega), if_neg hi]; rfl
  let R0 : Rho := [some (.cell n), some (wordD b), none, none]
  let R1 : Rho := [some (.cell n), some (wordD b), some (.int (f.length : Nat)), none]
  have e1 := run_said (wf := wf) (k := k + 6) h ok hf (by omega) hl hm
  rw [hws, said_all h1] at e1
  have e2 : ev Γ (saysE 0 3 (.v 2)) R1 μ = some (.lst ((wordsL s f).map wordD), μ) := ev_says (k := k + 7) h ok hf (by omega) hl hm (t := 0) (j := 3) rfl (by decide) (by show 3 < 4; decide) (e_v rfl)
  have hfl : (List.replicate f.length [wordD b]).flatten = (List.replicate f.length b).map wordD := by
    generalize f.length = N
    induction N with
    | zero => rfl
    | succ N ih => simp only [List.replicate_succ, List.flatten_cons, ih, List.map_cons]; rfl
  have e3 : ev Γ (.rep false (.lst false (.cons (.v 1) .nil)) (.v 2)) R1 μ = some (.lst ((wordsL s f).map wordD), μ) := by
    have ha : ev Γ (.lst false (.cons (.v 1) .nil)) R1 μ = some (.lst [wordD b], μ) := e_lst (es_1 (e_v rfl)) (small (by simp))
    have := e_rep ha (e_v (i := 2) (d := .int (f.length : Nat)) (ρ := R1) rfl) rfl (c63 (by omega) (by omega)) (by rw [Int.toNat_natCast, hfl]; exact small (by simp; omega))
    rw [Int.toNat_natCast, hfl, ← hws] at this
    exact this
  have e4 : ev Γ (.cmp .eq (saysE 0 3 (.v 2)) (.rep false (.lst false (.cons (.v 1) .nil)) (.v 2))) R1 μ = some (.bl true, μ) := by
    have := e_cmp e2 e3 (c_wordsE Γ (wordsL s f) (wordsL s f) μ)
    rw [beq_self_eq_true] at this
    exact this
  have e5 : ev Γ (.cmp .eq (.meth (.v 0) "said" .nil) (.v 1)) R1 μ = some (.bl true, μ) := by
    have := e_cmp (Γ := Γ) (ρ := R1) (e_meth (e_v (i := 0) rfl) (recv_T h rfl) es_nil e1) (e_v (i := 1) rfl) (c_eqW Γ b b μ)
    rw [beq_self_eq_true] at this
    exact this
  exact run_retX R0 rfl rfl rfl (sq (ρ' := R1) (μ' := μ) (s_set (e_lenT h (e_v rfl) hm)) (sq_ret (s_ret (e_andT e5 e4))))
end P96

/-! k96 in plain Lean: an order of pairs. -/
namespace P96
open PySem PySem.Spec L2 DP LW

theorem tp_app {μ r : Sto} {m : Nat} (h : m < μ.length) (v : Int) : tp (μ ++ r) m v = tp μ m v ++ r := List.set_append_left _ _ h
theorem tp_len (μ : Sto) (m : Nat) (v : Int) : (tp μ m v).length = μ.length := by simp [tp]
theorem bi_ins {μ : Sto} {n : Nat} {ds : List D} {x : D} {i : Int} (h : μ[n]? = some (.lst ds)) (hz : ds.length < 1000000) (h0 : 0 ≤ i) (h1 : i ≤ 1000000) : biD .insert false [.cell n, .int i, x] μ = some (.non, μ.set n (.lst (ds.take i.toNat ++ [x] ++ ds.drop i.toNat))) := by
  have hz : ds.length < sizeLine := Nat.lt_of_lt_of_le hz (by decide)
  have hb := c63 (i := i) (by omega) h1
  simp only [biD, h]
  rw [if_pos ⟨hz, h0, hb.2⟩]
theorem ins_mem {α : Type} {x y : α} {l : List α} {d : Nat} : x ∈ l.take d ++ [y] ++ l.drop d ↔ x = y ∨ x ∈ l := by
  have h : x ∈ l ↔ x ∈ l.take d ∨ x ∈ l.drop d := by
    rw [← List.mem_append, List.take_append_drop]
  simp only [List.mem_append, List.mem_singleton, h]
  constructor
  · rintro ((h | h) | h)
    · exact .inr (.inl h)
    · exact .inl h
    · exact .inr (.inr h)
  · rintro (h | h | h)
    · exact .inl (.inr h)
    · exact .inl (.inl h)
    · exact .inr h
def Cv (acc : List (Nat × Nat)) (a b : Nat) : Prop := (a, b) ∈ acc ∨ (b, a) ∈ acc
theorem t_and {Γ : Pr} {a b : E} {ρ : Rho} {μ μ1 μ2 : Sto} {x y : Bool} (h1 : evT Γ a ρ μ = some (x, μ1)) (h2 : x = true → evT Γ b ρ μ1 = some (y, μ2)) (h3 : x = false → μ2 = μ1 ∧ y = false) : evT Γ (.and a b) ρ μ = some (y, μ2) := by
  cases x with
  | true => simp only [evT, h1, bnd_some, if_true, h2 rfl]
  | false => obtain ⟨rfl, rfl⟩ := h3 rfl; simp only [evT, h1, bnd_some, Bool.false_eq_true, if_false]
theorem c_gtI (Γ : Pr) (i j : Int) (μ : Sto) : cmpD Γ .gt (.int i) (.int j) μ = some (decide (j < i), μ) := rfl
theorem e_catC {Γ : Pr} {a b : E} {ρ : Rho} {μ μ1 μ2 : Sto} {d1 d2 : D} {ds es : List D} (h1 : ev Γ a ρ μ = some (d1, μ1)) (h2 : ev Γ b ρ μ1 = some (d2, μ2)) (g1 : lstOf d1 μ2 = some ds) (g2 : lstOf d2 μ2 = some es) (hz : (ds ++ es).length ≤ sizeLine) : ev Γ (.cat true a b) ρ μ = some (.cell μ2.length, μ2 ++ [.lst (ds ++ es)]) := by
  simp only [ev, h1, bnd_some, h2, g1, g2, Option.bind_some, DP.alloc, hz, if_true]
def gtF : D → List D
  | .tup [.int a, .int b] => if decide (2 < maxI a [b]) then [.tup [.int a, .int b]] else []
  | _ => []
theorem gtF_pr (p : Nat × Nat) : gtF (prD p) = if decide (2 < maxI (p.1 : Int) [(p.2 : Int)]) then [prD p] else [] := rfl
theorem gtF_map : ∀ l : List (Nat × Nat), (l.map prD).flatMap gtF = (l.filter fun p => decide (2 < maxI (p.1 : Int) [(p.2 : Int)])).map prD
  | [] => rfl
  | p :: l => by
    rw [List.map_cons, List.flatMap_cons, gtF_map l, List.filter_cons, gtF_pr]
    split <;> rfl
def ordI : S := (.seq (.set (.one (.n 5)) (.ix (.lst false (.cons (.tup (.cons (.v 3) (.cons (.v 4) .nil))) (.cons (.tup (.cons (.v 4) (.cons (.v 3) .nil))) .nil))) (.call "_law_digit" (.cons (.v 0) (.cons (.c (.int 2)) .nil))))) (.seq (.ex (.mt .insert (.v 2) (.cons (.call "_law_digit" (.cons (.v 0) (.cons (.bin .add (.bi .len false (.cons (.v 2) .nil)) (.c (.int 1))) .nil))) (.cons (.v 5) .nil)))) .nil))
theorem run_ord (wf k N : Nat) (hN : N ≤ 100) {μ : Sto} (ok : Ok μ) {mt : Nat} (hm : mt < μ.length) (v : Int) : ∃ (ps : List (Nat × Nat)) (v' : Int), (∀ p ∈ ps, PairOk N p) ∧ Cover N ps ∧ ps.length ≤ 20000 ∧ (G.pr wf (k + 2)).call "_law_order_of_pairs" [.cell mt, .int (N : Nat)] (tp μ mt v) = some (.lst (ps.map prD), tp μ mt v') := by
  simp only [call_s wf (k + 1) "_law_order_of_pairs" (d := d__law_order_of_pairs) rfl]
  let Γ := G.pr wf (k + 1)
  let L := μ.length
  let st : Int → List (Nat × Nat) → Sto := fun v acc => tp μ mt v ++ [Cel.lst (acc.map prD)]
  have hat : ∀ v acc, (st v acc)[L]? = some (.lst (acc.map prD)) := fun v acc => by
    have := at_last (tp μ mt v) (.lst (acc.map prD))
    rw [tp_len] at this; exact this
  have dig : ∀ (acc : List (Nat × Nat)) (v : Int) (t : Int), 0 < t → t < 1073741824 → ∃ (d v' : Int), 0 ≤ d ∧ d < t ∧ (G.pr wf (k + 1)).call "_law_digit" [.cell mt, .int t] (st v acc) = some (.int d, st v' acc) := fun acc v t h1 h2 => by
    obtain ⟨d, v', a1, a2, e⟩ := digit wf (μ := μ ++ [Cel.lst (acc.map prD)]) (m := mt) (by simp; omega) k v h1 h2
    rw [tp_app hm, tp_app hm] at e
    exact ⟨d, v', a1, a2, e⟩
  have inner : ∀ (M i : Nat) (Lr : List Nat), i < N → ∀ (l : List Nat) (v : Int) (acc : List (Nat × Nat)) (x4 x5 : Option D), (∀ j ∈ l, j < i) → (∀ p ∈ acc, PairOk N p) → (∀ a b, a < N → b < a → a ∈ Lr ∨ (a = i ∧ b ∈ l) ∨ Cv acc a b) → acc.length + l.length ≤ 20000 →
      ∃ (v' : Int) (acc' : List (Nat × Nat)) (y4 y5 : Option D), (∀ p ∈ acc', PairOk N p) ∧ (∀ a b, a < N → b < a → a ∈ Lr ∨ Cv acc' a b) ∧ acc'.length = acc.length + l.length ∧
        forL false M none (fun x ρ μ => (DP.bind Γ (.one (.n 4)) x ρ μ).bind fun p => evS Γ ordI p.1 p.2) (l.map fun a => D.int (a : Nat)) [some (.cell mt), some (.int (N : Nat)), some (.cell L), some (.int (i : Nat)), x4, x5, none] (st v acc) = some (.next, [some (.cell mt), some (.int (N : Nat)), some (.cell L), some (.int (i : Nat)), y4, y5, none], st v' acc') := by
    intro M i Lr hi l
    induction l with
    | nil =>
      intro v acc x4 x5 _ hp hc _
      exact ⟨v, acc, x4, x5, hp, fun a b h1 h2 => by rcases hc a b h1 h2 with h | h | h; exact .inl h; simp at h; exact .inr h, by simp, rfl⟩
    | cons j l ih =>
      intro v acc x4 x5 hl hp hc hz
      simp only [List.length_cons] at hz
      have hj := hl j (by simp)
      obtain ⟨d1, v1, a1, a2, e1⟩ := dig acc v 2 (by decide) (by decide)
      obtain ⟨d2, v2, b1, b2, e2⟩ := dig acc v1 ((acc.length : Int) + 1) (by omega) (by omega)
      have hpick : ∃ p : Nat × Nat, (p = (i, j) ∨ p = (j, i)) ∧ ixD (.lst [.tup [.int (i : Nat), .int (j : Nat)], .tup [.int (j : Nat), .int (i : Nat)]]) (.int d1) (st v1 acc) = some (prD p) := by
        rcases (show d1 = 0 ∨ d1 = 1 by omega) with rfl | rfl
        · exact ⟨(i, j), .inl rfl, rfl⟩
        · exact ⟨(j, i), .inr rfl, rfl⟩
      obtain ⟨p, hpp, hix⟩ := hpick
      let acc' := acc.take d2.toNat ++ [p] ++ acc.drop d2.toNat
      have hacc : (acc.map prD).take d2.toNat ++ [prD p] ++ (acc.map prD).drop d2.toNat = acc'.map prD := by simp [acc', List.map_take, List.map_drop]
      have hlen : acc'.length = acc.length + 1 := by
        have : d2.toNat ≤ acc.length := by omega
        simp [acc']; omega
      have hpk : PairOk N p := by
        rcases hpp with rfl | rfl
        · exact ⟨by omega, by simp only; omega, by simp only; omega⟩
        · exact ⟨by simp only; omega, by simp only; omega, by simp only; omega⟩
      have hi5 := bi_ins (x := prD p) (i := d2) (hat v2 acc) (by rw [List.length_map]; omega) b1 (by omega)
      have hst : (st v2 acc).set L (.lst (acc'.map prD)) = st v2 acc' := by
        have := set_last (tp μ mt v2) (.lst (acc.map prD)) (.lst (acc'.map prD))
        rw [tp_len] at this; exact this
      rw [hacc, hst] at hi5
      let RA : Rho := [some (.cell mt), some (.int (N : Nat)), some (.cell L), some (.int (i : Nat)), some (.int (j : Nat)), x5, none]
      let RB : Rho := [some (.cell mt), some (.int (N : Nat)), some (.cell L), some (.int (i : Nat)), some (.int (j : Nat)), some (prD p), none]
      have hlenv : ev Γ (.bi .len false (.cons (.v 2) .nil)) RB (st v1 acc) = some (.int (acc.length : Nat), st v1 acc) := e_bi (es_1 (e_v rfl)) (by simp only [biD, items, hat, Option.map_some, List.length_map])
      have eb : evS Γ ordI RA (st v acc) = some (.next, RB, st v2 acc') :=
        sq (s_set (e_ix (d1 := .lst [.tup [.int (i : Nat), .int (j : Nat)], .tup [.int (j : Nat), .int (i : Nat)]]) (e_lst (es_2 (e_tup (es_2 (e_v rfl) (e_v rfl)) (small (by simp))) (e_tup (es_2 (e_v rfl) (e_v rfl)) (small (by simp)))) (small (by simp))) (e_call (es_2 (e_v rfl) e_c) e1) hix))
          (sq (s_ex (e_mt (e_v rfl) (listed_at (hat v1 acc)) (es_2 (e_call (es_2 (e_v rfl) (e_bin (d := .int ((acc.length : Int) + 1)) hlenv (e_c (d := .int 1)) rfl)) e2) (e_v rfl)) hi5)) rfl)
      obtain ⟨v', acc2, y4, y5, g1, g2, g3, e⟩ := ih v2 acc' (some (.int (j : Nat))) (some (prD p)) (fun q hq => hl q (by simp [hq])) (fun q hq => by
          rcases ins_mem.mp hq with rfl | hq
          · exact hpk
          · exact hp q hq) (fun a b h1 h2 => by
          rcases hc a b h1 h2 with h | ⟨rfl, h⟩ | h
          · exact .inl h
          · rcases List.mem_cons.mp h with rfl | h
            · refine .inr (.inr ?_)
              rcases hpp with rfl | rfl
              · exact .inl (ins_mem.mpr (.inl rfl))
              · exact .inr (ins_mem.mpr (.inl rfl))
            · exact .inr (.inl ⟨rfl, h⟩)
          · refine .inr (.inr ?_)
            rcases h with h | h
            · exact .inl (ins_mem.mpr (.inr h))
            · exact .inr (ins_mem.mpr (.inr h))) (by omega)
      exact ⟨v', acc2, y4, y5, g1, g2, by simp only [List.length_cons]; omega, forB_cons rfl eb rfl e⟩
  let ordO : S := .seq (.for_ false (.one (.n 4)) (.rng (.c (.int 0)) (.v 3)) ordI) .nil
  have outer : ∀ (M : Nat) (l : List Nat) (v : Int) (acc : List (Nat × Nat)) (x3 x4 x5 : Option D), (∀ j ∈ l, j < N) → (∀ p ∈ acc, PairOk N p) → (∀ a b, a < N → b < a → a ∈ l ∨ Cv acc a b) → acc.length + 100 * l.length ≤ 10000 →
      ∃ (v' : Int) (acc' : List (Nat × Nat)) (y3 y4 y5 : Option D), (∀ p ∈ acc', PairOk N p) ∧ (∀ a b, a < N → b < a → Cv acc' a b) ∧ acc'.length ≤ 10000 ∧
        forL false M none (fun x ρ μ => (DP.bind Γ (.one (.n 3)) x ρ μ).bind fun p => evS Γ ordO p.1 p.2) (l.map fun a => D.int (a : Nat)) [some (.cell mt), some (.int (N : Nat)), some (.cell L), x3, x4, x5, none] (st v acc) = some (.next, [some (.cell mt), some (.int (N : Nat)), some (.cell L), y3, y4, y5, none], st v' acc') := by
    intro M l
    induction l with
    | nil =>
      intro v acc x3 x4 x5 _ hp hc hz
      exact ⟨v, acc, x3, x4, x5, hp, fun a b h1 h2 => by rcases hc a b h1 h2 with h | h; simp at h; exact h, by omega, rfl⟩
    | cons i l ih =>
      intro v acc x3 x4 x5 hl hp hc hz
      simp only [List.length_cons] at hz
      have hi := hl i (by simp)
      obtain ⟨v1, acc1, y4, y5, g1, g2, g3, e1⟩ := inner (st v acc).length i l hi (List.range i) v acc x4 x5 (fun j hj => List.mem_range.mp hj) hp (fun a b h1 h2 => by
        rcases hc a b h1 h2 with h | h
        · rcases List.mem_cons.mp h with rfl | h
          · exact .inr (.inl ⟨rfl, List.mem_range.mpr h2⟩)
          · exact .inl h
        · exact .inr (.inr h)) (by simp; omega)
      simp only [List.length_range] at g3
      obtain ⟨v2, acc2, z3, z4, z5, f1, f2, f3, e2⟩ := ih v1 acc1 (some (.int (i : Nat))) y4 y5 (fun j hj => hl j (by simp [hj])) g1 g2 (by omega)
      have hr := i_rng (Γ := Γ) (ρ := [some (.cell mt), some (.int (N : Nat)), some (.cell L), some (.int (i : Nat)), x4, x5, none]) (μ := st v acc) (e_c (d := .int 0)) (e_v (i := 3) (d := .int (i : Nat)) rfl) (b62 (by omega) (by omega)) (b62 (by omega) (by omega))
      rw [rng0] at hr
      have eb : evS Γ ordO [some (.cell mt), some (.int (N : Nat)), some (.cell L), some (.int (i : Nat)), x4, x5, none] (st v acc) = some (.next, [some (.cell mt), some (.int (N : Nat)), some (.cell L), some (.int (i : Nat)), y4, y5, none], st v1 acc1) := sq (s_for hr e1) rfl
      exact ⟨v2, acc2, z3, z4, z5, f1, f2, f3, forB_cons rfl eb rfl e2⟩
  let R0 : Rho := [some (.cell mt), some (.int (N : Nat)), none, none, none, none, none]
  let R1 : Rho := [some (.cell mt), some (.int (N : Nat)), some (.cell L), none, none, none, none]
  have s1 : evS Γ (.set (.one (.n 2)) (.lst true .nil)) R0 (tp μ mt v) = some (.next, R1, st v []) := by
    have := e_lstM (Γ := Γ) (ρ := R0) (es_nil (μ := tp μ mt v)) (small (by simp))
    rw [tp_len] at this
    exact s_set this
  have hr0 := i_rng (Γ := Γ) (ρ := R1) (μ := st v []) (e_c (d := .int 0)) (e_v (i := 1) (d := .int (N : Nat)) rfl) (b62 (by omega) (by omega)) (b62 (by omega) (by omega))
  rw [rng0] at hr0
  obtain ⟨v1, acc, y3, y4, y5, g1, g2, g3, e2⟩ := outer (st v []).length (List.range N) v [] none none none (fun j hj => List.mem_range.mp hj) (fun p hp => by simp at hp) (fun a b h1 _ => .inl (List.mem_range.mpr h1)) (by simp; omega)
  have s2 := s_for hr0 e2
  let R2 : Rho := [some (.cell mt), some (.int (N : Nat)), some (.cell L), y3, y4, y5, none]
  have okv : ∀ v, Ok (tp μ mt v) := fun v => ok.set rfl
  have hall : ∀ v, (tp μ mt v).all (cutOk (tp μ mt v).length) = true := okv
  have hun : ∀ (n : Nat) (ps : List (Nat × Nat)), D.under n (.lst (ps.map prD)) = true := fun n ps => unders_map _ prD (fun _ => rfl) ps
  -- how it ends
  have fin : ∀ (v2 : Int) (R : Rho) (qs : List (Nat × Nat)) (r : Sto) (c : Nat), R[2]? = some (some (.cell c)) → c = (tp μ mt v2 ++ r).length → ∀ e : evS Γ b__law_order_of_pairs R0 (tp μ mt v) = some (.ret (.lst (qs.map prD)), R, (tp μ mt v2 ++ r) ++ [Cel.dead]), runDef Γ d__law_order_of_pairs [.cell mt, .int (N : Nat)] (tp μ mt v) = some (.lst (qs.map prD), tp μ mt v2) := fun v2 R qs r c h1 h2 e => by
    have htk : (((tp μ mt v2 ++ r) ++ [Cel.dead]).take (tp μ mt v).length) = tp μ mt v2 := by
      rw [List.append_assoc, tp_len, ← tp_len μ mt v2, List.take_left]
    have := run_retC (Γ := Γ) (df := d__law_order_of_pairs) (as := [.cell mt, .int (N : Nat)]) (μ := tp μ mt v) rfl rfl e (hun _ qs) (by rw [htk, tp_len, ← tp_len μ mt v2]; exact hall v2)
    rw [this, htk]
  have cov : Cover N acc := fun i j hi hj hij => by
    rcases Nat.lt_or_gt_of_ne hij with h | h
    · rcases g2 j i hj h with h | h
      · exact .inr h
      · exact .inl h
    · exact g2 i j hi h
  by_cases hN2 : 2 < N
  · obtain ⟨d, v2, a1, a2, e3⟩ := dig acc v1 3 (by decide) (by decide)
    have hcond : evT Γ (.and (.cmp .gt (.v 1) (.c (.int 2))) (.cmp .eq (.call "_law_digit" (.cons (.v 0) (.cons (.c (.int 3)) .nil))) (.c (.int 0)))) R2 (st v1 acc) = some (d == 0, st v2 acc) :=
      t_and (x := true) (t_cmp (e_v (i := 1) rfl) e_c (by rw [c_gtI, decide_eq_true (by omega)])) (fun _ => t_cmp (e_call (es_2 (e_v rfl) e_c) e3) e_c (c_eqI _ d 0 _)) (fun h => by cases h)
    by_cases hd : d = 0
    · subst hd
      let fs : List (Nat × Nat) := [(2, 0), (0, 1), (1, 2)]
      let qs := fs ++ acc.filter fun p => decide (2 < maxI (p.1 : Int) [(p.2 : Int)])
      let R3 : Rho := [some (.cell mt), some (.int (N : Nat)), some (.cell L), y3, y4, y5, some (.lst (fs.map prD))]
      have c1 : evS Γ (.set (.one (.n 6)) (.lst false (.cons (.tup (.cons (.c (.int 2)) (.cons (.c (.int 0)) .nil))) (.cons (.tup (.cons (.c (.int 0)) (.cons (.c (.int 1)) .nil))) (.cons (.tup (.cons (.c (.int 1)) (.cons (.c (.int 2)) .nil))) .nil))))) R2 (st v2 acc) = some (.next, R3, st v2 acc) :=
        s_set (e_lst (ds := fs.map prD) (es_cons (e_tup (es_2 e_c e_c) (small (by simp))) (es_2 (e_tup (es_2 e_c e_c) (small (by simp))) (e_tup (es_2 e_c e_c) (small (by simp))))) (small (by simp [fs])))
      have hdead : (st v2 acc).set L .dead = tp μ mt v2 ++ [Cel.dead] := by
        have := set_last (tp μ mt v2) (.lst (acc.map prD)) .dead
        rw [tp_len] at this; exact this
      have hfz : ev Γ (.frz (.v 2)) R3 (st v2 acc) = some (.lst (acc.map prD), tp μ mt v2 ++ [Cel.dead]) := by
        rw [e_frzL (e_v (i := 2) (ρ := R3) rfl) (hat v2 acc), hdead]
      have hfl := List.length_filter_le (fun p : Nat × Nat => decide (2 < maxI (p.1 : Int) [(p.2 : Int)])) acc
      have hlc := ev_lcS (Γ := Γ) (own := [5]) (tg := .one (.n 5)) (cs := .cmp .gt (.bi .maxT false (.cons (.v 5) .nil)) (.c (.int 2))) (elt := .v 5) (ρ := R3) (i_one hfz) (lc_flat (g := gtF) (w := none) rfl (acc.map prD) fun x hx => by
        obtain ⟨p, hp, rfl⟩ := List.mem_map.mp hx
        have hcc : evT Γ (.cmp .gt (.bi .maxT false (.cons (.v 5) .nil)) (.c (.int 2))) [some (.cell mt), some (.int (N : Nat)), some (.cell L), y3, y4, some (prD p), some (.lst (fs.map prD))] (tp μ mt v2 ++ [Cel.dead]) = some (decide (2 < maxI (p.1 : Int) [(p.2 : Int)]), tp μ mt v2 ++ [Cel.dead]) := t_cmp (e_bi (es_1 (e_v rfl)) rfl) e_c (c_gtI _ _ _ _)
        rw [gtF_pr]
        cases hk : decide (2 < maxI (p.1 : Int) [(p.2 : Int)]) with
        | true =>
          rw [hk] at hcc
          exact lc_stepT rfl hcc (e_v rfl)
        | false =>
          rw [hk] at hcc
          exact lc_stepF rfl hcc) (small (by rw [gtF_map, List.length_map]; omega))
      rw [gtF_map] at hlc
      have hql : qs.length ≤ 10003 := by
        simp only [qs, fs, List.length_append, List.length_cons, List.length_nil]; omega
      have c2 : evS Γ (.set (.one (.n 2)) (.cat true (.v 6) (.lc false [5] (.one (.n 5)) (.cons (.frz (.v 2)) .nil) (.cmp .gt (.bi .maxT false (.cons (.v 5) .nil)) (.c (.int 2))) (.v 5)))) R3 (st v2 acc) = some (.next, [some (.cell mt), some (.int (N : Nat)), some (.cell (tp μ mt v2 ++ [Cel.dead]).length), y3, y4, y5, some (.lst (fs.map prD))], (tp μ mt v2 ++ [Cel.dead]) ++ [.lst (qs.map prD)]) := by
        have hz : (fs.map prD ++ (acc.filter fun p => decide (2 < maxI (p.1 : Int) [(p.2 : Int)])).map prD).length ≤ sizeLine := small (by
          have : (fs.map prD ++ (acc.filter fun p => decide (2 < maxI (p.1 : Int) [(p.2 : Int)])).map prD).length = qs.length := by simp [qs]
          omega)
        have hq : qs.map prD = fs.map prD ++ (acc.filter fun p => decide (2 < maxI (p.1 : Int) [(p.2 : Int)])).map prD := by simp [qs]
        rw [hq]
        exact s_set (e_catC (e_v rfl) hlc rfl rfl hz)
      have e4 : evS Γ (.ife (.and (.cmp .gt (.v 1) (.c (.int 2))) (.cmp .eq (.call "_law_digit" (.cons (.v 0) (.cons (.c (.int 3)) .nil))) (.c (.int 0)))) (.seq (.set (.one (.n 6)) (.lst false (.cons (.tup (.cons (.c (.int 2)) (.cons (.c (.int 0)) .nil))) (.cons (.tup (.cons (.c (.int 0)) (.cons (.c (.int 1)) .nil))) (.cons (.tup (.cons (.c (.int 1)) (.cons (.c (.int 2)) .nil))) .nil))))) (.seq (.set (.one (.n 2)) (.cat true (.v 6) (.lc false [5] (.one (.n 5)) (.cons (.frz (.v 2)) .nil) (.cmp .gt (.bi .maxT false (.cons (.v 5) .nil)) (.c (.int 2))) (.v 5)))) .nil)) .nil) R2 (st v1 acc) = some (.next, [some (.cell mt), some (.int (N : Nat)), some (.cell (tp μ mt v2 ++ [Cel.dead]).length), y3, y4, y5, some (.lst (fs.map prD))], (tp μ mt v2 ++ [Cel.dead]) ++ [.lst (qs.map prD)]) := by
        rw [s_if hcond, if_pos (by decide)]
        exact sq c1 (sq c2 rfl)
      have e5 : ev Γ (.frz (.v 2)) [some (.cell mt), some (.int (N : Nat)), some (.cell (tp μ mt v2 ++ [Cel.dead]).length), y3, y4, y5, some (.lst (fs.map prD))] ((tp μ mt v2 ++ [Cel.dead]) ++ [.lst (qs.map prD)]) = some (.lst (qs.map prD), (tp μ mt v2 ++ [Cel.dead]) ++ [Cel.dead]) := by
        rw [e_frzL (e_v (i := 2) rfl) (at_last _ _), set_last]
      refine ⟨qs, v2, fun p hp => ?_, fun i j hi hj hij => ?_, by omega, fin v2 _ qs [Cel.dead] _ rfl rfl (sq s1 (sq s2 (sq e4 (sq_ret (s_ret e5)))))⟩
      · rcases List.mem_append.mp hp with hp | hp
        · simp only [fs, List.mem_cons, List.not_mem_nil, or_false] at hp
          rcases hp with rfl | rfl | rfl <;> refine ⟨?_, ?_, ?_⟩ <;> simp only <;> omega
        · exact g1 p (List.mem_filter.mp hp).1
      · have big : ∀ a b : Nat, (a, b) ∈ acc → (2 < a ∨ 2 < b) → (a, b) ∈ qs := fun a b h hb => List.mem_append_right _ (List.mem_filter.mpr ⟨h, by
          simp only [maxI, decide_eq_true_eq]
          split <;> omega⟩)
        by_cases hb : 2 < i ∨ 2 < j
        · rcases cov i j hi hj hij with h | h
          · exact .inl (big i j h hb)
          · exact .inr (big j i h (by omega))
        · have hf : ∀ p ∈ fs, p ∈ qs := fun p hp => List.mem_append_left _ hp
          have hi3 : i = 0 ∨ i = 1 ∨ i = 2 := by omega
          have hj3 : j = 0 ∨ j = 1 ∨ j = 2 := by omega
          rcases hi3 with rfl | rfl | rfl <;> rcases hj3 with rfl | rfl | rfl
          · exact absurd rfl hij
          · exact .inl (hf _ (by simp [fs]))
          · exact .inr (hf _ (by simp [fs]))
          · exact .inr (hf _ (by simp [fs]))
          · exact absurd rfl hij
          · exact .inl (hf _ (by simp [fs]))
          · exact .inl (hf _ (by simp [fs]))
          · exact .inr (hf _ (by simp [fs]))
          · exact absurd rfl hij
    · have e4 : evS Γ (.ife (.and (.cmp .gt (.v 1) (.c (.int 2))) (.cmp .eq (.call "_law_digit" (.cons (.v 0) (.cons (.c (.int 3)) .nil))) (.c (.int 0)))) (.seq (.set (.one (.n 6)) (.lst false (.cons (.tup (.cons (.c (.int 2)) (.cons (.c (.int 0)) .nil))) (.cons (.tup (.cons (.c (.int 0)) (.cons (.c (.int 1)) .nil))) (.cons (.tup (.cons (.c (.int 1)) (.cons (.c (.int 2)) .nil))) .nil))))) (.seq (.set (.one (.n 2)) (.cat true (.v 6) (.lc false [5] (.one (.n 5)) (.cons (.frz (.v 2)) .nil) (.cmp .gt (.bi .maxT false (.cons (.v 5) .nil)) (.c (.int 2))) (.v 5)))) .nil)) .nil) R2 (st v1 acc) = some (.next, R2, st v2 acc) := by
        rw [s_if hcond, if_neg (by simpa using hd)]; rfl
      have e5 : ev Γ (.frz (.v 2)) R2 (st v2 acc) = some (.lst (acc.map prD), (tp μ mt v2 ++ []) ++ [Cel.dead]) := by
        have := set_last (tp μ mt v2) (.lst (acc.map prD)) .dead
        rw [tp_len] at this
        rw [e_frzL (e_v (i := 2) (ρ := R2) rfl) (hat v2 acc), List.append_nil]
        exact congrArg (fun z => some (D.lst (acc.map prD), z)) this
      exact ⟨acc, v2, g1, cov, by omega, fin v2 R2 acc [] L rfl (by rw [List.append_nil, tp_len]) (sq s1 (sq s2 (sq e4 (sq_ret (s_ret e5)))))⟩
  · have hcond : evT Γ (.and (.cmp .gt (.v 1) (.c (.int 2))) (.cmp .eq (.call "_law_digit" (.cons (.v 0) (.cons (.c (.int 3)) .nil))) (.c (.int 0)))) R2 (st v1 acc) = some (false, st v1 acc) :=
      t_and (x := false) (t_cmp (e_v (i := 1) rfl) e_c (by rw [c_gtI, decide_eq_false (by omega)])) (fun h => by cases h) (fun _ => ⟨rfl, rfl⟩)
    have e4 : evS Γ (.ife (.and (.cmp .gt (.v 1) (.c (.int 2))) (.cmp .eq (.call "_law_digit" (.cons (.v 0) (.cons (.c (.int 3)) .nil))) (.c (.int 0)))) (.seq (.set (.one (.n 6)) (.lst false (.cons (.tup (.cons (.c (.int 2)) (.cons (.c (.int 0)) .nil))) (.cons (.tup (.cons (.c (.int 0)) (.cons (.c (.int 1)) .nil))) (.cons (.tup (.cons (.c (.int 1)) (.cons (.c (.int 2)) .nil))) .nil))))) (.seq (.set (.one (.n 2)) (.cat true (.v 6) (.lc false [5] (.one (.n 5)) (.cons (.frz (.v 2)) .nil) (.cmp .gt (.bi .maxT false (.cons (.v 5) .nil)) (.c (.int 2))) (.v 5)))) .nil)) .nil) R2 (st v1 acc) = some (.next, R2, st v1 acc) := by
      rw [s_if hcond, if_neg Bool.false_ne_true]; rfl
    have e5 : ev Γ (.frz (.v 2)) R2 (st v1 acc) = some (.lst (acc.map prD), (tp μ mt v1 ++ []) ++ [Cel.dead]) := by
      have := set_last (tp μ mt v1) (.lst (acc.map prD)) .dead
      rw [tp_len] at this
      rw [e_frzL (e_v (i := 2) (ρ := R2) rfl) (hat v1 acc), List.append_nil]
      exact congrArg (fun z => some (D.lst (acc.map prD), z)) this
    exact ⟨acc, v1, g1, cov, by omega, fin v1 R2 acc [] L rfl (by rw [List.append_nil, tp_len]) (sq s1 (sq s2 (sq e4 (sq_ret (s_ret e5)))))⟩
end P96

/-! k96 in plain Lean: marks, goings back, throngs poured in. -/
namespace P96
open PySem PySem.Spec L2 DP LW

structure Mk where
  f : List (List Th)
  nd : Nat
  cs : List Int
  bs : List Int
def Mk.e (m : Mk) : D := .tup [.lst (fD m.f), .cell m.nd]
/-- a throng, marks and all -/
structure TS (μ : Sto) (n nf ng nm : Nat) (s : Sen) (t : Nat) (f : List (List Th)) (cs : List Int) (ms : List Mk) : Prop where
  has : Has μ n nf ng s f (byD cs) (.cell nm)
  mrk : μ[nm]? = some (.lst (ms.map Mk.e))
  md : ∀ m ∈ ms, μ[m.nd]? = some (.dct (byD m.cs)) ∧ m.nd ≠ ng ∧ m.cs.length = t
  d1 : nf ≠ n
  d2 : ng ≠ n
  d3 : nm ≠ n
  d4 : nf ≠ ng
  d5 : nf ≠ nm
  d6 : ng ≠ nm
  ct : cs.length = t
theorem at_app {μ r : Sto} {i : Nat} {c : Cel} (h : μ[i]? = some c) : (μ ++ r)[i]? = some c := by
  rw [List.getElem?_append_left (List.getElem?_eq_some_iff.mp h).1]; exact h
theorem at_lt {μ : Sto} {i : Nat} {c : Cel} (h : μ[i]? = some c) : i < μ.length := (List.getElem?_eq_some_iff.mp h).1
theorem at_k (μ r : Sto) (k : Nat) : (μ ++ r)[μ.length + k]? = r[k]? := by
  rw [List.getElem?_append_right (by omega)]
  rw [show μ.length + k - μ.length = k by omega]
theorem set_app {μ r : Sto} {i : Nat} {c : Cel} (h : i < μ.length) : (μ ++ r).set i c = μ.set i c ++ r := List.set_append_left _ _ h
theorem at_set {μ : Sto} {i j : Nat} {c c' : Cel} (h : μ[i]? = some c) (hij : j ≠ i) : (μ.set j c')[i]? = some c := by rw [List.getElem?_set_ne hij]; exact h
section
variable {wf k n nf ng nm t : Nat} {μ : Sto} {s : Sen} {f : List (List Th)} {cs : List Int} {ms : List Mk} {ρ : Rho}
theorem TS.e_marks (h : TS μ n nf ng nm s t f cs ms) {o : E} (ho : ev (G.pr wf k) o ρ μ = some (.cell n, μ)) : ev (G.pr wf k) (.fld o "marks") ρ μ = some (.cell nm, μ) := e_fld ho h.has.ins (by rw [att_Throng]; decide) rfl
/-- the folk, each list anew -/
theorem ev_lists {Γ : Pr} {it : E} {j : Nat} {μ1 : Sto} {w : Wt} {g : List (List Th)} (hi : evI Γ it ρ μ = some ((fD g, w), μ1)) (hw : watch w μ1 = true) (hf : ∀ ts ∈ g, ts.length ≤ 1000) (hm : g.length ≤ 1000) (hj : j < ρ.length) :
    lcLoop w (lcStep Γ [j] (.one (.n j)) .nil (.bi .list1 false (.cons (.v j) .nil)) ρ) (fD g) μ1 = some (fD g, μ1) := by
  have := lc_map (f := lcStep Γ [j] (.one (.n j)) .nil (.bi .list1 false (.cons (.v j) .nil)) ρ) (g := fun x => x) hw (fD g) fun x hx => by
    obtain ⟨ts, ht, rfl⟩ := List.mem_map.mp hx
    have hz : (ts.map Th.e).length ≤ sizeLine := small (by rw [List.length_map]; have := hf ts ht; omega)
    refine lc_step (ρ1 := ρ.set j (some (.lst (ts.map Th.e)))) ?_ (e_bi (es_1 (e_v (by rw [List.getElem?_set_self hj]))) ?_)
    · show some ((wipeD ρ [j]).set j (some (.lst (ts.map Th.e))), μ1) = _
      rw [wipe1]
    · simp only [biD, items, Option.bind_some, DP.alloc, hz, if_true, Bool.false_eq_true, if_false]
  rw [this]; simp
theorem fits_le {s : Sen} {g : List (List Th)} (hf : Fits s g) (hl : s.ats.length ≤ 1000) : ∀ ts ∈ g, ts.length ≤ 1000 := fun ts h => by rw [hf ts h]; exact hl
theorem fD_len (g : List (List Th)) : (fD g).length = g.length := by simp [fD]
theorem ev_listsF {Γ : Pr} {it : E} {j : Nat} {μ1 : Sto} {w : Wt} {g : List (List Th)} (hi : evI Γ it ρ μ = some ((fD g, w), μ1)) (hw : watch w μ1 = true) (hf : ∀ ts ∈ g, ts.length ≤ 1000) (hm : g.length ≤ 1000) (hj : j < ρ.length) :
    ev Γ (.lc false [j] (.one (.n j)) it .nil (.bi .list1 false (.cons (.v j) .nil))) ρ μ = some (.lst (fD g), μ1) := ev_lcS hi (ev_lists hi hw hf hm hj) (small (by rw [fD_len]; omega))
theorem ev_listsM {Γ : Pr} {it : E} {j : Nat} {μ1 : Sto} {w : Wt} {g : List (List Th)} (hi : evI Γ it ρ μ = some ((fD g, w), μ1)) (hw : watch w μ1 = true) (hf : ∀ ts ∈ g, ts.length ≤ 1000) (hm : g.length ≤ 1000) (hj : j < ρ.length) :
    ev Γ (.lc true [j] (.one (.n j)) it .nil (.bi .list1 false (.cons (.v j) .nil))) ρ μ = some (.cell μ1.length, μ1 ++ [.lst (fD g)]) := by
  have hz : (fD g).length ≤ sizeLine := small (by rw [fD_len]; omega)
  have hl := ev_lists hi hw hf hm hj
  simp only [ev, hi, bnd_some]
  show bnd (lcLoop w (lcStep Γ [j] (.one (.n j)) .nil (.bi .list1 false (.cons (.v j) .nil)) ρ) (fD g) μ1) _ = _
  rw [hl]
  simp only [bnd_some, DP.alloc, hz, if_true]
def markS (μ : Sto) (nm : Nat) (f : List (List Th)) (cs : List Int) (ms : List Mk) : Sto := (μ ++ [Cel.dct (byD cs)]).set nm (Cel.lst (ms.map Mk.e ++ [D.tup [.lst (fD f), .cell μ.length]]))
theorem run_mark (h : TS μ n nf ng nm s t f cs ms) (hf : Fits s f) (hl : s.ats.length ≤ 1000) (hm : f.length ≤ 1000) (hms : ms.length ≤ 1000) :
    (G.pr wf (k + 1)).meth "Throng" "mark" [.cell n] μ = some (.int (ms.length : Nat), markS μ nm f cs ms) := by
  rw [meth_s wf k "Throng" "mark" (d := d_Throng_mark) rfl]
  let Γ := G.pr wf k
  let R : Rho := [some (.cell n), none]
  have hi : evI Γ (.cons (.fld (.v 0) "folk") .nil) R μ = some ((fD f, some (nf, fD f)), μ) := i_folk h.has (o := .v 0) (e_v (i := 0) rfl)
  have e1 : ev Γ (.tup (.cons (.lc false [1] (.one (.n 1)) (.cons (.fld (.v 0) "folk") .nil) .nil (.bi .list1 false (.cons (.v 1) .nil))) (.cons (.bi .dict1 false (.cons (.fld (.v 0) "by_gate") .nil)) .nil))) R μ = some (.tup [.lst (fD f), .cell μ.length], μ ++ [.dct (byD cs)]) :=
    e_tup (es_2 (ev_listsF hi (watch_self h.has.folk) (fits_le hf hl) hm (by show 1 < 2; decide)) (e_bi (es_1 (h.has.e_gate (e_v rfl))) (by simp only [biD, h.has.gate]))) (small (by simp))
  have hap := bi_app (x := .tup [.lst (fD f), .cell μ.length]) (at_app (r := [.dct (byD cs)]) h.mrk) (by rw [List.length_map]; omega)
  have st1 : evS Γ (.ex (.mt .append (.fld (.v 0) "marks") (.cons (.tup (.cons (.lc false [1] (.one (.n 1)) (.cons (.fld (.v 0) "folk") .nil) .nil (.bi .list1 false (.cons (.v 1) .nil))) (.cons (.bi .dict1 false (.cons (.fld (.v 0) "by_gate") .nil)) .nil))) .nil))) R μ = some (.next, R, markS μ nm f cs ms) :=
    s_ex (e_mt (h.e_marks (e_v rfl)) (listed_at h.mrk) (es_1 e1) hap)
  have hins : (markS μ nm f cs ms)[n]? = some (.ins "Throng" (thF s.e (partsD s) nf ng (.cell nm))) := at_set (at_app h.has.ins) h.d3
  have hmk : (markS μ nm f cs ms)[nm]? = some (.lst (ms.map Mk.e ++ [.tup [.lst (fD f), .cell μ.length]])) := set_at (at_app h.mrk)
  have e2 : ev Γ (.bi .len false (.cons (.fld (.v 0) "marks") .nil)) R (markS μ nm f cs ms) = some (.int ((ms.length : Int) + 1), markS μ nm f cs ms) :=
    e_bi (es_1 (e_fld (e_v rfl) hins (by rw [att_Throng]; decide) rfl)) (by simp only [biD, items, hmk, Option.map_some]; simp)
  have e3 : ev Γ (.bin .sub (.bi .len false (.cons (.fld (.v 0) "marks") .nil)) (.c (.int 1))) R (markS μ nm f cs ms) = some (.int (ms.length : Nat), markS μ nm f cs ms) :=
    e_bin e2 (e_c (d := .int 1)) (by show some (D.int ((ms.length : Int) + 1 - 1)) = _; congr 2; omega)
  exact run_retX R rfl rfl rfl (sq st1 (sq_ret (s_ret e3)))
theorem ts_mark (h : TS μ n nf ng nm s t f cs ms) (bs : List Int) : TS (markS μ nm f cs ms) n nf ng nm s t f cs (ms ++ [⟨f, μ.length, cs, bs⟩]) := by
  refine ⟨⟨at_set (at_app h.has.ins) h.d3, at_set (at_app h.has.folk) (Ne.symm h.d5), at_set (at_app h.has.gate) (Ne.symm h.d6)⟩, ?_, fun m hm => ?_, h.d1, h.d2, h.d3, h.d4, h.d5, h.d6, h.ct⟩
  · have := set_at (c' := .lst (ms.map Mk.e ++ [.tup [.lst (fD f), .cell μ.length]])) (at_app (r := [.dct (byD cs)]) h.mrk)
    rw [List.map_append]
    exact this
  · rcases List.mem_append.mp hm with hm | hm
    · obtain ⟨g1, g2, g3⟩ := h.md m hm
      refine ⟨at_set (at_app g1) ?_, g2, g3⟩
      intro e; rw [← e] at g1; rw [h.mrk] at g1; cases g1
    · simp only [List.mem_singleton] at hm
      subst hm
      refine ⟨at_set (at_last μ _) ?_, ?_, h.ct⟩
      · have := at_lt h.mrk; simp only; omega
      · have := at_lt h.has.gate; simp only; omega
theorem cut_take {ds : List D} {i : Nat} (h : i ≤ ds.length) : cutD ds none (some (i : Int)) = ds.take i := by
  simp only [cutD, HT.sIx_none, HT.sIx_nat, List.drop_zero, Nat.sub_zero, Nat.min_eq_left h]
end
end P96

/-! k96 in plain Lean: goings back, throngs poured in. -/
namespace P96
open PySem PySem.Spec L2 DP LW

def XS (μ : Sto) (n : Nat) (c : Cel) (r : Sto) : Sto := μ.set n c ++ r
section
variable {μ : Sto} {n : Nat} {c c' z : Cel} {r r' : Sto} (hn : n < μ.length)
include hn
theorem xs_n : (XS μ n c r)[n]? = some c := by
  unfold XS
  rw [List.getElem?_append_left (by simpa using hn), List.getElem?_set_self hn]
theorem xs_s : (XS μ n c r).set n c' = XS μ n c' r := by
  unfold XS
  rw [List.set_append_left _ _ (by simpa using hn), List.set_set]
omit hn in
theorem xs_a : XS μ n c r ++ r' = XS μ n c (r ++ r') := by unfold XS; rw [List.append_assoc]
omit hn in
theorem xs_l : (XS μ n c r).length = μ.length + r.length := by unfold XS; simp
omit hn in
theorem xs_o {i : Nat} (h : μ[i]? = some z) (hi : n ≠ i) : (XS μ n c r)[i]? = some z := by
  unfold XS
  exact at_app (at_set h hi)
omit hn in
theorem xs_k (k : Nat) : (XS μ n c r)[μ.length + k]? = r[k]? := by
  unfold XS
  have := at_k (μ.set n c) r k
  rwa [List.length_set] at this
end
theorem xs_0 {μ : Sto} {n : Nat} {c : Cel} (h : μ[n]? = some c) : XS μ n c [] = μ := by
  unfold XS; rw [List.append_nil]; exact set_same h
theorem e_slC {Γ : Pr} {a b : E} {ρ : Rho} {μ μ1 μ2 : Sto} {c i : Nat} {ds : List D} (h1 : ev Γ a ρ μ = some (.cell c, μ1)) (h2 : ev Γ b ρ μ1 = some (.int (i : Nat), μ2)) (hc : μ2[c]? = some (.lst ds)) (hi : i ≤ ds.length) (hz : ds.length ≤ 1000000) : ev Γ (.sl true a .noP (.cons b .nil)) ρ μ = some (.cell μ2.length, μ2 ++ [.lst (ds.take i)]) := by
  have hz : (ds.take i).length ≤ sizeLine := small (by rw [List.length_take]; omega)
  simp only [ev, h1, bnd_some, evP, h2, slD, listed, hc, Option.bind_some, cut_take hi, DP.alloc, hz, if_true]
theorem e_slF {Γ : Pr} {a b : E} {ρ : Rho} {μ μ1 μ2 : Sto} {i : Nat} {ds : List D} (h1 : ev Γ a ρ μ = some (.lst ds, μ1)) (h2 : ev Γ b ρ μ1 = some (.int (i : Nat), μ2)) (hi : i ≤ ds.length) (hz : ds.length ≤ 1000000) : ev Γ (.sl false a .noP (.cons b .nil)) ρ μ = some (.lst (ds.take i), μ2) := by
  have hz : (ds.take i).length ≤ sizeLine := small (by rw [List.length_take]; omega)
  simp only [ev, h1, bnd_some, evP, h2, slD, listed, Option.bind_some, cut_take hi, DP.alloc, hz, if_true, Bool.false_eq_true, if_false]
section
variable {wf k n nf ng nm t : Nat} {μ : Sto} {s : Sen} {f : List (List Th)} {cs : List Int} {ms : List Mk} {ρ : Rho}
def insS (s : Sen) (nf ng nm : Nat) : Cel := insT (thF s.e (partsD s) nf ng (.cell nm))
def backS (μ : Sto) (n : Nat) (s : Sen) (m : Mk) (ms : List Mk) (i : Nat) : Sto := XS μ n (insS s μ.length (μ.length + 1) (μ.length + 2)) [.lst (fD m.f), .dct (byD m.cs), .lst ((ms.take (i + 1)).map Mk.e)]
theorem run_back (h : TS μ n nf ng nm s t f cs ms) {i : Nat} {m : Mk} (hi : ms[i]? = some m) (hf : Fits s m.f) (hl : s.ats.length ≤ 1000) (hm : m.f.length ≤ 1000) (hms : ms.length ≤ 1000) :
    (G.pr wf (k + 1)).meth "Throng" "back" [.cell n, .int (i : Nat)] μ = some (.non, backS μ n s m ms i) := by
  rw [meth_s wf k "Throng" "back" (d := d_Throng_back) rfl]
  let Γ := G.pr wf k
  have hilt := (List.getElem?_eq_some_iff.mp hi).1
  have hn := at_lt h.has.ins
  obtain ⟨mg, mn, _⟩ := h.md m (List.mem_of_getElem? hi)
  have hnd : n ≠ m.nd := fun e => by rw [← e, h.has.ins] at mg; cases mg
  let L := μ.length
  let R0 : Rho := [some (.cell n), some (.int (i : Nat)), none, none, none]
  let R1 : Rho := [some (.cell n), some (.int (i : Nat)), some (.lst (fD m.f)), some (.cell m.nd), none]
  have hlenm : ev Γ (.bi .len false (.cons (.fld (.v 0) "marks") .nil)) R0 μ = some (.int (ms.length : Nat), μ) := e_bi (es_1 (h.e_marks (e_v rfl))) (by simp only [biD, items, h.mrk, Option.map_some, List.length_map])
  have s0 : evS Γ (.ife (.not (.chn .le .lt (.c (.int 0)) (.v 1) (.bi .len false (.cons (.fld (.v 0) "marks") .nil)))) (.seq .never .nil) .nil) R0 μ = some (.next, R0, μ) := by
    have e := t_not (t_chn (Γ := Γ) (o := .le) (o' := .lt) (k := true) (e_c (d := .int 0) (ρ := R0) (μ := μ)) (e_v (i := 1) rfl) (c_leI Γ (show (0 : Int) ≤ ((i : Nat) : Int) by omega) μ) hlenm (by show some (decide ((i : Int) < (ms.length : Int)), μ) = _; rw [decide_eq_true (by omega)]))
    rw [s_if e]; rfl
  have hix : ixD (.cell nm) (.int (i : Nat)) μ = some m.e := by
    have e : (ms.map Mk.e)[i]? = some m.e := by rw [List.getElem?_map, hi]; rfl
    simp only [ixD, h.mrk]
    exact atI_nat e
  have s1 : evS Γ (.set (.tup [(.n 2), (.n 3)]) (.ix (.fld (.v 0) "marks") (.v 1))) R0 μ = some (.next, R1, μ) := s_setT (e_ix (h.e_marks (e_v rfl)) (e_v rfl) hix) rfl
  have hins0 : μ[n]? = some (insS s nf ng nm) := h.has.ins
  have e0 := xs_0 hins0
  have s2 : evS Γ (.fld (.v 0) "folk" (.lc true [4] (.one (.n 4)) (.cons (.v 2) .nil) .nil (.bi .list1 false (.cons (.v 4) .nil)))) R1 μ = some (.next, R1, XS μ n (insS s L ng nm) [.lst (fD m.f)]) := by
    have hlc := ev_listsM (Γ := Γ) (it := .cons (.v 2) .nil) (j := 4) (ρ := R1) (μ := μ) (g := m.f) (w := none) (i_one (e_v rfl)) rfl (fits_le hf hl) hm (by show 4 < 5; decide)
    have hst : μ ++ [Cel.lst (fD m.f)] = XS μ n (insS s nf ng nm) [.lst (fD m.f)] := by
      have := xs_a (μ := μ) (n := n) (c := insS s nf ng nm) (r := []) (r' := [.lst (fD m.f)])
      rw [e0] at this
      exact this
    rw [hst] at hlc
    have := s_fld (Γ := Γ) (f := "folk") (C := "Throng") hlc (e_v (i := 0) (d := .cell n) rfl) (xs_n hn) (by rw [att_Throng]; decide) (by simp [thF])
    rw [this, xs_s hn]
    rfl
  have hg2 : (XS μ n (insS s L ng nm) [.lst (fD m.f)])[m.nd]? = some (.dct (byD m.cs)) := xs_o mg hnd
  have s3 : evS Γ (.fld (.v 0) "by_gate" (.bi .dict1 true (.cons (.v 3) .nil))) R1 (XS μ n (insS s L ng nm) [.lst (fD m.f)]) = some (.next, R1, XS μ n (insS s L (L + 1) nm) [.lst (fD m.f), .dct (byD m.cs)]) := by
    have hd : ev Γ (.bi .dict1 true (.cons (.v 3) .nil)) R1 (XS μ n (insS s L ng nm) [.lst (fD m.f)]) = some (.cell (L + 1), XS μ n (insS s L ng nm) [.lst (fD m.f), .dct (byD m.cs)]) :=
      e_bi (es_1 (e_v rfl)) (by simp only [biD, hg2, xs_l, xs_a]; rfl)
    have := s_fld (Γ := Γ) (f := "by_gate") (C := "Throng") hd (e_v (i := 0) (d := .cell n) rfl) (xs_n hn) (by rw [att_Throng]; decide) (by simp [thF])
    rw [this, xs_s hn]
    rfl
  have hmk3 : (XS μ n (insS s L (L + 1) nm) [.lst (fD m.f), .dct (byD m.cs)])[nm]? = some (.lst (ms.map Mk.e)) := xs_o h.mrk (Ne.symm h.d3)
  have s4 : evS Γ (.fld (.v 0) "marks" (.sl true (.fld (.v 0) "marks") .noP (.cons (.bin .add (.v 1) (.c (.int 1))) .nil))) R1 (XS μ n (insS s L (L + 1) nm) [.lst (fD m.f), .dct (byD m.cs)]) = some (.next, R1, backS μ n s m ms i) := by
    have hmk : ev Γ (.fld (.v 0) "marks") R1 (XS μ n (insS s L (L + 1) nm) [.lst (fD m.f), .dct (byD m.cs)]) = some (.cell nm, XS μ n (insS s L (L + 1) nm) [.lst (fD m.f), .dct (byD m.cs)]) := e_fld (e_v rfl) (xs_n hn) (by rw [att_Throng]; decide) rfl
    have hsl := e_slC (Γ := Γ) (b := .bin .add (.v 1) (.c (.int 1))) (i := i + 1) hmk (e_bin (e_v (i := 1) rfl) (e_c (d := .int 1)) (by show some (D.int ((i : Int) + 1)) = some (.int ((i + 1 : Nat) : Int)); congr 2)) hmk3 (by rw [List.length_map]; omega) (by rw [List.length_map]; omega)
    rw [xs_l, xs_a, ← List.map_take] at hsl
    have := s_fld (Γ := Γ) (f := "marks") (C := "Throng") hsl (e_v (i := 0) (d := .cell n) rfl) (xs_n hn) (by rw [att_Throng]; decide) (by simp [thF])
    rw [this, xs_s hn]
    rfl
  exact run_next (ρ' := R1) rfl rfl (sq s0 (sq s1 (sq s2 (sq s3 (sq s4 rfl)))))
theorem ts_back (h : TS μ n nf ng nm s t f cs ms) {i : Nat} {m : Mk} (hi : ms[i]? = some m) : TS (backS μ n s m ms i) n μ.length (μ.length + 1) (μ.length + 2) s t m.f m.cs (ms.take (i + 1)) := by
  have hn := at_lt h.has.ins
  refine ⟨⟨xs_n hn, xs_k 0, xs_k 1⟩, xs_k 2, fun m' hm' => ?_, by omega, by omega, by omega, by omega, by omega, by omega, (h.md m (List.mem_of_getElem? hi)).2.2⟩
  obtain ⟨g1, g2, g3⟩ := h.md m' (List.mem_of_mem_take hm')
  refine ⟨xs_o g1 (fun e => by rw [← e, h.has.ins] at g1; cases g1), ?_, g3⟩
  have := at_lt g1
  omega
/-! ### another throng poured in -/
def addL : List Int → List Int → List Int
  | x :: xs, y :: ys => (x + y) :: addL xs ys
  | _, _ => []
theorem addL_len : ∀ (a b : List Int), a.length = b.length → (addL a b).length = a.length
  | [], _, _ => rfl
  | x :: a, y :: b, h => by simp [addL, addL_len a b (by simpa using h)]
  | _ :: _, [], h => by simp at h
theorem by_sum {a b : List Int} (h : 1 ≤ a.length ∧ a.length ≤ 3) (hb : b.length = a.length) : sumK (byD b) (byD a) = some (byD (addL a b)) ∧ ((byD a).map (·.1)).Nodup := by
  match a, b, h, hb with
  | [x], [y], _, _ => exact ⟨by kernel_rfl, by show [(Sum.inr (Str.ofString "a") : Key)].Nodup; decide⟩
  | [x, x2], [y, y2], _, _ => exact ⟨by kernel_rfl, by show [(Sum.inr (Str.ofString "a") : Key), Sum.inr (Str.ofString "b")].Nodup; decide⟩
  | [x, x2, x3], [y, y2, y3], _, _ => exact ⟨by kernel_rfl, by show [(Sum.inr (Str.ofString "a") : Key), Sum.inr (Str.ofString "b"), Sum.inr (Str.ofString "c")].Nodup; decide⟩
theorem e_dcs {Γ : Pr} {i j w n m : Nat} {f : Str} {ρ : Rho} {μ : Sto} {x y : D} {kvs kws z : List (Key × D)} (hx : ρ[i]? = some (some x)) (hy : ρ[j]? = some (some y)) (f1 : fldD Γ x f μ = some (.cell n)) (f2 : fldD Γ y f μ = some (.cell m)) (h1 : μ[n]? = some (.dct kvs)) (h2 : μ[m]? = some (.dct kws)) (hz : sumK kws kvs = some z) (hl : kvs.length ≤ 1000) (hnd : (kvs.map (·.1)).Nodup) (hw : w < ρ.length) :
    ev Γ (.dcs i j w f) ρ μ = some (.cell μ.length, μ ++ [.dct z]) := by
  simp only [ev, hx, hy, f1, f2, h1, h2, hz, Option.bind_some]
  rw [if_pos ⟨hl, hnd, hw⟩]
def pourS (μ : Sto) (n : Nat) (s : Sen) (nm : Nat) (f g : List (List Th)) (cs ds : List Int) : Sto := XS μ n (insS s μ.length (μ.length + 1) nm) [.lst (fD (f ++ g)), .dct (byD (addL cs ds))]
theorem run_pour {n2 nf2 ng2 : Nat} {g : List (List Th)} {ds : List Int} {mk2 : D} (h : TS μ n nf ng nm s t f cs ms) (h2 : Has μ n2 nf2 ng2 s g (byD ds) mk2) (hn2 : n ≠ n2) (hs : SenOk s t) (hds : ds.length = t) (hf : Fits s g) (hm : f.length + g.length ≤ 1000) :
    (G.pr wf (k + 1)).meth "Throng" "pour" [.cell n, .cell n2] μ = some (.non, pourS μ n s nm f g cs ds) := by
  rw [meth_s wf k "Throng" "pour" (d := d_Throng_pour) rfl]
  let Γ := G.pr wf k
  have hn := at_lt h.has.ins
  have h4 := hs.at4
  have hd := hs.dep
  have h1 := hs.t1
  have h3 := hs.t3
  have hct := h.ct
  let L := μ.length
  let R0 : Rho := [some (.cell n), some (.cell n2), none, none]
  have s0 : evS Γ (.ife (.cmp .ne (.fld (.v 0) "sentence") (.fld (.v 1) "sentence")) (.seq .never .nil) .nil) R0 μ = some (.next, R0, μ) := by
    rw [s_if (t_cmp (h.has.e_sen (e_v rfl)) (h2.e_sen (e_v rfl)) (c_sen Γ s (by omega) μ)), if_neg Bool.false_ne_true]; rfl
  have hi : evI Γ (.cons (.fld (.v 1) "folk") .nil) R0 μ = some ((fD g, some (nf2, fD g)), μ) := i_folk h2 (o := .v 1) (e_v (i := 1) rfl)
  have hlc := ev_listsF (Γ := Γ) (j := 2) (ρ := R0) hi (watch_self h2.folk) (fits_le hf (by omega)) (by omega) (by show 2 < 4; decide)
  have hz : (fD f ++ fD g).length ≤ sizeLine := small (by rw [List.length_append, fD_len, fD_len]; omega)
  have hcat := e_catC (Γ := Γ) (ρ := R0) (h.has.e_folk (o := .v 0) (e_v rfl)) hlc (by simp only [lstOf, h.has.folk]; rfl) rfl hz
  have hfg : fD f ++ fD g = fD (f ++ g) := by simp [fD]
  have e0 := xs_0 (show μ[n]? = some (insS s nf ng nm) from h.has.ins)
  have s1 : evS Γ (.fld (.v 0) "folk" (.cat true (.fld (.v 0) "folk") (.lc false [2] (.one (.n 2)) (.cons (.fld (.v 1) "folk") .nil) .nil (.bi .list1 false (.cons (.v 2) .nil))))) R0 μ = some (.next, R0, XS μ n (insS s L ng nm) [.lst (fD (f ++ g))]) := by
    have hst : μ ++ [Cel.lst (fD f ++ fD g)] = XS μ n (insS s nf ng nm) [.lst (fD (f ++ g))] := by
      have := xs_a (μ := μ) (n := n) (c := insS s nf ng nm) (r := []) (r' := [.lst (fD (f ++ g))])
      rw [e0] at this
      rw [hfg]; exact this
    rw [hst] at hcat
    have := s_fld (Γ := Γ) (f := "folk") (C := "Throng") hcat (e_v (i := 0) (d := .cell n) rfl) (xs_n hn) (by rw [att_Throng]; decide) (by simp [thF])
    rw [this, xs_s hn]
    rfl
  let μ1 := XS μ n (insS s L ng nm) [.lst (fD (f ++ g))]
  have hg1 : μ1[ng]? = some (.dct (byD cs)) := xs_o h.has.gate (Ne.symm h.d2)
  have hng2 : n ≠ ng2 := fun e => by have := h2.gate; rw [← e, h.has.ins] at this; cases this
  have hg2 : μ1[ng2]? = some (.dct (byD ds)) := xs_o h2.gate hng2
  have hi2 : μ1[n2]? = some (.ins "Throng" (thF s.e (.lst (s.ats.map At.part)) nf2 ng2 mk2)) := xs_o h2.ins hn2
  obtain ⟨q1, q2⟩ := by_sum (a := cs) (b := ds) (by omega) (by omega)
  have f1 : fldD Γ (.cell n) "by_gate" μ1 = some (.cell ng) := fld_c (xs_n hn) (by rw [att_Throng]; decide) rfl
  have f2 : fldD Γ (.cell n2) "by_gate" μ1 = some (.cell ng2) := fld_c hi2 (by rw [att_Throng]; decide) rfl
  have hdc : ev Γ (.dcs 0 1 3 "by_gate") R0 μ1 = some (.cell (L + 1), XS μ n (insS s L ng nm) [.lst (fD (f ++ g)), .dct (byD (addL cs ds))]) := by
    have hle := by_len cs
    have := e_dcs (Γ := Γ) (i := 0) (j := 1) (w := 3) (ρ := R0) rfl rfl f1 f2 hg1 hg2 q1 (by omega) q2 (by show 3 < 4; decide)
    rw [this]
    simp only [μ1, xs_l, xs_a]
    rfl
  have s2 : evS Γ (.fld (.v 0) "by_gate" (.dcs 0 1 3 "by_gate")) R0 μ1 = some (.next, R0, pourS μ n s nm f g cs ds) := by
    have := s_fld (Γ := Γ) (f := "by_gate") (C := "Throng") hdc (e_v (i := 0) (d := .cell n) rfl) (xs_n hn) (by rw [att_Throng]; decide) (by simp [thF])
    rw [this, xs_s hn]
    rfl
  exact run_next (ρ' := R0) rfl rfl (sq s0 (sq s1 (sq s2 rfl)))
theorem ts_pour {g : List (List Th)} {ds : List Int} (h : TS μ n nf ng nm s t f cs ms) (hds : ds.length = t) : TS (pourS μ n s nm f g cs ds) n μ.length (μ.length + 1) nm s t (f ++ g) (addL cs ds) ms := by
  have hn := at_lt h.has.ins
  have hm := at_lt h.mrk
  refine ⟨⟨xs_n hn, xs_k 0, xs_k 1⟩, xs_o h.mrk (Ne.symm h.d3), fun m' hm' => ?_, by omega, by omega, h.d3, by omega, by omega, by omega, by rw [addL_len _ _ (by rw [h.ct, hds])]; exact h.ct⟩
  obtain ⟨g1, g2, g3⟩ := h.md m' hm'
  refine ⟨xs_o g1 (fun e => by rw [← e, h.has.ins] at g1; cases g1), ?_, g3⟩
  have := at_lt g1
  omega
end
end P96

/-! k96 in plain Lean: what a history keeps. -/
namespace P96
open PySem PySem.Spec L2 DP LW

def Apart (μ : Sto) (nf nm i : Nat) (ds : List D) : Prop := μ[i]? = some (.lst ds) ∧ i ≠ nf ∧ i ≠ nm
structure HS (μ : Sto) (u : Int) (mt mb n nf ng nm : Nat) (v : Int) (bs : List Int) (s : Sen) (t : Nat) (f : List (List Th)) (cs : List Int) (ms : List Mk) : Prop where
  ts : TS μ n nf ng nm s t f cs ms
  z : Apart μ nf nm 0 [.int u]
  tape : Apart μ nf nm mt [.int v]
  by_ : Apart μ nf nm mb (bs.map D.int)
  m1 : 0 ≠ mt
  m2 : 0 ≠ mb
  m3 : mt ≠ mb
  ok : Ok μ
  fi : FI s bs f
  bl : bs.length = t
  mfi : ∀ m ∈ ms, FI s m.bs m.f ∧ m.bs.length = t ∧ m.f.length ≤ 5
section
variable {μ : Sto} {u : Int} {mt mb n nf ng nm : Nat} {v : Int} {bs : List Int} {s : Sen} {t : Nat} {f : List (List Th)} {cs : List Int} {ms : List Mk}
theorem ts_set (h : TS μ n nf ng nm s t f cs ms) {i : Nat} {ds : List D} {c : Cel} (hi : μ[i]? = some (.lst ds)) (h1 : i ≠ nf) (h2 : i ≠ nm) : TS (μ.set i c) n nf ng nm s t f cs ms := by
  have k1 : i ≠ n := fun e => by rw [e, h.has.ins] at hi; cases hi
  have k2 : i ≠ ng := fun e => by rw [e, h.has.gate] at hi; cases hi
  refine ⟨h.has.other k1 h1 k2, at_set h.mrk h2, fun m hm => ?_, h.d1, h.d2, h.d3, h.d4, h.d5, h.d6, h.ct⟩
  obtain ⟨g1, g2, g3⟩ := h.md m hm
  exact ⟨at_set g1 (fun e => by rw [e, g1] at hi; cases hi), g2, g3⟩
theorem ap_set {i j : Nat} {ds : List D} {c : Cel} (h : Apart μ nf nm i ds) (hij : j ≠ i) : Apart (μ.set j c) nf nm i ds := ⟨at_set h.1 hij, h.2⟩
theorem ap_self {i : Nat} {ds ds' : List D} (h : Apart μ nf nm i ds) : Apart (μ.set i (.lst ds')) nf nm i ds' := ⟨set_at h.1, h.2⟩
theorem ap_app {i : Nat} {ds : List D} (h : Apart μ nf nm i ds) (r : Sto) : Apart (μ ++ r) nf nm i ds := ⟨at_app h.1, h.2⟩
theorem ap_gate (h : TS μ n nf ng nm s t f cs ms) {i : Nat} {ds : List D} (ha : Apart μ nf nm i ds) : ng ≠ i := fun e => by have := ha.1; rw [← e, h.has.gate] at this; cases this
theorem ap_ins (h : TS μ n nf ng nm s t f cs ms) {i : Nat} {ds : List D} (ha : Apart μ nf nm i ds) : n ≠ i := fun e => by have := ha.1; rw [← e, h.has.ins] at this; cases this
/-- a digit of the tape -/
theorem hs_digit (h : HS μ u mt mb n nf ng nm v bs s t f cs ms) (wf k : Nat) {q : Int} (h1 : 0 < q) (h2 : q < 1073741824) : ∃ (d v' : Int) (μ' : Sto), 0 ≤ d ∧ d < q ∧ (G.pr wf (k + 1)).call "_law_digit" [.cell mt, .int q] μ = some (.int d, μ') ∧ HS μ' u mt mb n nf ng nm v' bs s t f cs ms := by
  obtain ⟨d, v', a1, a2, e⟩ := digit wf (at_lt h.tape.1) k v h1 h2
  have e0 : tp μ mt v = μ := set_same h.tape.1
  rw [e0] at e
  refine ⟨d, v', tp μ mt v', a1, a2, e, ⟨ts_set h.ts h.tape.1 h.tape.2.1 h.tape.2.2, ap_set h.z (Ne.symm h.m1), ap_self h.tape, ap_set h.by_ h.m3, h.m1, h.m2, h.m3, h.ok.set rfl, h.fi, h.bl, h.mfi⟩⟩
theorem ints_cut (m : Nat) (bs : List Int) : cutOk m (.lst (bs.map D.int)) = true := unders_map m D.int (fun _ => rfl) bs
/-- the throng alone changes: meetings -/
theorem hs_folk (h : HS μ u mt mb n nf ng nm v bs s t f cs ms) {f' : List (List Th)} (fi : FI s bs f') : HS (μ.set nf (.lst (fD f'))) u mt mb n nf ng nm v bs s t f' cs ms := by
  have ts := h.ts
  refine ⟨⟨ts.has.put ts.d1 ts.d4 f', at_set ts.mrk ts.d5, fun m hm => ?_, ts.d1, ts.d2, ts.d3, ts.d4, ts.d5, ts.d6, ts.ct⟩, ap_set h.z (Ne.symm h.z.2.1), ap_set h.tape (Ne.symm h.tape.2.1), ap_set h.by_ (Ne.symm h.by_.2.1), h.m1, h.m2, h.m3, h.ok.set (under_fD _ _), fi, h.bl, h.mfi⟩
  obtain ⟨g1, g2, g3⟩ := ts.md m hm
  exact ⟨at_set g1 (fun e => by rw [← e, ts.has.folk] at g1; cases g1), g2, g3⟩
/-- somebody comes; the law's own count follows -/
theorem hs_come (h : HS μ u mt mb n nf ng nm v bs s t f cs ms) (hs : SenOk s t) {i : Nat} (hi : i < t) {c b : Int} (hb : bs[i]? = some b) (many : Nat) :
    HS ((((μ.set nf (.lst (fD (f ++ List.replicate many (beg s i))))).set ng (.dct (byD (cs.set i (c + many)))))).set mb (.lst ((bs.set i (b + many)).map D.int))) u mt mb n nf ng nm v (bs.set i (b + many)) s t (f ++ List.replicate many (beg s i)) (cs.set i (c + many)) ms := by
  have ts := h.ts
  have g0 := ap_gate ts h.z
  have g1 := ap_gate ts h.tape
  have g2 := ap_gate ts h.by_
  let F := f ++ List.replicate many (beg s i)
  have t1 : TS (μ.set nf (.lst (fD F))) n nf ng nm s t F cs ms := by
    refine ⟨ts.has.put ts.d1 ts.d4 F, at_set ts.mrk ts.d5, fun m hm => ?_, ts.d1, ts.d2, ts.d3, ts.d4, ts.d5, ts.d6, ts.ct⟩
    obtain ⟨k1, k2, k3⟩ := ts.md m hm
    exact ⟨at_set k1 (fun e => by rw [← e, ts.has.folk] at k1; cases k1), k2, k3⟩
  have t2 : TS ((μ.set nf (.lst (fD F))).set ng (.dct (byD (cs.set i (c + many))))) n nf ng nm s t F (cs.set i (c + many)) ms := by
    refine ⟨t1.has.gput ts.d2 (Ne.symm ts.d4), at_set t1.mrk ts.d6, fun m hm => ?_, ts.d1, ts.d2, ts.d3, ts.d4, ts.d5, ts.d6, by rw [List.length_set]; exact ts.ct⟩
    obtain ⟨k1, k2, k3⟩ := t1.md m hm
    exact ⟨at_set k1 (Ne.symm k2), k2, k3⟩
  have b2 : Apart ((μ.set nf (.lst (fD F))).set ng (.dct (byD (cs.set i (c + many))))) nf nm mb (bs.map D.int) := ap_set (ap_set h.by_ (Ne.symm h.by_.2.1)) g2
  refine ⟨ts_set t2 b2.1 b2.2.1 b2.2.2, ap_set (ap_set (ap_set h.z (Ne.symm h.z.2.1)) g0) (Ne.symm h.m2), ap_set (ap_set (ap_set h.tape (Ne.symm h.tape.2.1)) g1) (Ne.symm h.m3), ap_self b2, h.m1, h.m2, h.m3, ((h.ok.set (under_fD _ _)).set (by_under _ _)).set (ints_cut _ _), fi_come hs hi h.bl hb h.fi many, by rw [List.length_set]; exact h.bl, h.mfi⟩
/-- how the law's own count is put -/
theorem by_put2 {wf k : Nat} {ρ : Rho} {o i e : E} {j : Nat} {b : Int} (hb : μ[mb]? = some (.lst (bs.map D.int))) (hj : bs[j]? = some b) {d : Int} (ho : ∀ μ', ev (G.pr wf k) o ρ μ' = some (.cell mb, μ')) (hi : ∀ μ', ev (G.pr wf k) i ρ μ' = some (.int (j : Nat), μ')) (he : ∀ μ', ev (G.pr wf k) e ρ μ' = some (.int d, μ')) :
    evS (G.pr wf k) (.setIx o i (.bin .add (.ix o i) e)) ρ μ = some (.next, ρ, μ.set mb (.lst ((bs.set j (b + d)).map D.int))) := by
  have hlt := (List.getElem?_eq_some_iff.mp hj).1
  have hix : ixD (.cell mb) (.int (j : Nat)) μ = some (.int b) := by
    have e : (bs.map D.int)[j]? = some (.int b) := by rw [List.getElem?_map, hj]; rfl
    simp only [ixD, hb]
    exact atI_nat e
  refine s_setIx (d := .int (b + d)) (e_bin (e_ix (ho μ) (hi μ) hix) (he μ) rfl) (ho μ) (hi μ) ?_
  simp only [setIxD, hb, List.length_map]
  rw [ixN_nat hlt, List.map_set]
  rfl
theorem hs_mark (h : HS μ u mt mb n nf ng nm v bs s t f cs ms) (hfl : f.length ≤ 5) : HS (markS μ nm f cs ms) u mt mb n nf ng nm v bs s t f cs (ms ++ [⟨f, μ.length, cs, bs⟩]) := by
  refine ⟨ts_mark h.ts bs, ap_set (ap_app h.z _) (Ne.symm h.z.2.2), ap_set (ap_app h.tape _) (Ne.symm h.tape.2.2), ap_set (ap_app h.by_ _) (Ne.symm h.by_.2.2), h.m1, h.m2, h.m3, ?_, h.fi, h.bl, fun m hm => ?_⟩
  · have ok1 : Ok (μ ++ [.dct (byD cs)]) := h.ok.app1 (by_under _ _)
    refine ok1.set ?_
    have : ∀ (l : List Mk), (∀ m ∈ l, m.nd < μ.length + 1) → D.under.D.unders (μ.length + 1) (l.map Mk.e) = true := by
      intro l
      induction l with
      | nil => intro _; rfl
      | cons m l ih =>
        intro hl
        have h1 := hl m (by simp)
        have h2 : D.under (μ.length + 1) (.lst (fD m.f)) = true := under_fD _ _
        simp only [List.map_cons, D.under.D.unders, Mk.e, D.under, Bool.and_true, Bool.and_eq_true]
        exact ⟨⟨h2, decide_eq_true h1⟩, ih fun q hq => hl q (by simp [hq])⟩
    have hl := this (ms ++ [⟨f, μ.length, cs, bs⟩]) fun m hm => by
      rcases List.mem_append.mp hm with hm | hm
      · have := at_lt (h.ts.md m hm).1; omega
      · simp only [List.mem_singleton] at hm; subst hm; simp
    rw [List.map_append] at hl
    have e : (μ ++ [Cel.dct (byD cs)]).length = μ.length + 1 := by simp
    rw [e]
    exact hl
  · rcases List.mem_append.mp hm with hm | hm
    · exact h.mfi m hm
    · simp only [List.mem_singleton] at hm
      subst hm
      exact ⟨h.fi, h.bl, hfl⟩
theorem xs_cut {c : Cel} {r : Sto} (ok : Ok μ) (hc : cutOk (μ.length + r.length) c = true) (hr : ∀ z ∈ r, cutOk (μ.length + r.length) z = true) : Ok (XS μ n c r) := by
  unfold Ok at ok ⊢
  rw [xs_l]
  simp only [List.all_eq_true] at ok ⊢
  intro z hz
  unfold XS at hz
  rcases List.mem_append.mp hz with hz | hz
  · rcases List.mem_or_eq_of_mem_set hz with hz | rfl
    · exact cutOk_mono (by omega) (ok z hz)
    · exact hc
  · exact hr z hz
theorem ap_xs (h : TS μ n nf ng nm s t f cs ms) {i : Nat} {ds : List D} {c : Cel} {r : Sto} {nf' nm' : Nat} (ha : Apart μ nf nm i ds) (h1 : nf' = nf ∨ μ.length ≤ nf') (h2 : nm' = nm ∨ μ.length ≤ nm') : Apart (XS μ n c r) nf' nm' i ds := by
  have hl := at_lt ha.1
  refine ⟨xs_o ha.1 (ap_ins h ha), ?_, ?_⟩
  · rcases h1 with rfl | h1
    · exact ha.2.1
    · omega
  · rcases h2 with rfl | h2
    · exact ha.2.2
    · omega
theorem hs_back (h : HS μ u mt mb n nf ng nm v bs s t f cs ms) {i : Nat} {m : Mk} (hi : ms[i]? = some m) :
    HS ((backS μ n s m ms i).set mb (.lst (m.bs.map D.int))) u mt mb n μ.length (μ.length + 1) (μ.length + 2) v m.bs s t m.f m.cs (ms.take (i + 1)) := by
  have hmem := List.mem_of_getElem? hi
  obtain ⟨q1, q2, q3⟩ := h.mfi m hmem
  have t1 := ts_back h.ts hi
  have b1 : Apart (backS μ n s m ms i) μ.length (μ.length + 2) mb (bs.map D.int) := ap_xs h.ts h.by_ (.inr (Nat.le_refl _)) (.inr (by omega))
  have ok1 : Ok (backS μ n s m ms i) := by
    refine xs_cut h.ok (cut_ins (by simp) (by simp) (by simp)) fun z hz => ?_
    simp only [List.mem_cons, List.not_mem_nil, or_false] at hz
    rcases hz with rfl | rfl | rfl
    · exact under_fD _ _
    · exact by_under _ _
    · have : ∀ (l : List Mk), (∀ m ∈ l, m.nd < μ.length + 3) → D.under.D.unders (μ.length + 3) (l.map Mk.e) = true := by
        intro l
        induction l with
        | nil => intro _; rfl
        | cons m l ih =>
          intro hl
          have h1 := hl m (by simp)
          have h2 : D.under (μ.length + 3) (.lst (fD m.f)) = true := under_fD _ _
          simp only [List.map_cons, D.under.D.unders, Mk.e, D.under, Bool.and_true, Bool.and_eq_true]
          exact ⟨⟨h2, decide_eq_true h1⟩, ih fun q hq => hl q (by simp [hq])⟩
      exact this _ fun m' hm' => by have := at_lt (h.ts.md m' (List.mem_of_mem_take hm')).1; omega
  refine ⟨ts_set t1 b1.1 b1.2.1 b1.2.2, ap_set (ap_xs h.ts h.z (.inr (Nat.le_refl _)) (.inr (by omega))) (Ne.symm h.m2), ap_set (ap_xs h.ts h.tape (.inr (Nat.le_refl _)) (.inr (by omega))) (Ne.symm h.m3), ap_self b1, h.m1, h.m2, h.m3, ok1.set (ints_cut _ _), q1, q2, fun m' hm' => h.mfi m' (List.mem_of_mem_take hm')⟩
theorem ts_app (h : TS μ n nf ng nm s t f cs ms) (r : Sto) : TS (μ ++ r) n nf ng nm s t f cs ms :=
  ⟨h.has.app r, at_app h.mrk, fun m hm => ⟨at_app (h.md m hm).1, (h.md m hm).2⟩, h.d1, h.d2, h.d3, h.d4, h.d5, h.d6, h.ct⟩
theorem hs_app (h : HS μ u mt mb n nf ng nm v bs s t f cs ms) {r : Sto} (ok : Ok (μ ++ r)) : HS (μ ++ r) u mt mb n nf ng nm v bs s t f cs ms :=
  ⟨ts_app h.ts r, ap_app h.z r, ap_app h.tape r, ap_app h.by_ r, h.m1, h.m2, h.m3, ok, h.fi, h.bl, h.mfi⟩
theorem hs_pour (h : HS μ u mt mb n nf ng nm v bs s t f cs ms) {g : List (List Th)} {ds : List Int} {bs' : List Int} (hds : ds.length = t) (hbl : bs'.length = t) (fi : FI s bs' (f ++ g)) :
    HS ((pourS μ n s nm f g cs ds).set mb (.lst (bs'.map D.int))) u mt mb n μ.length (μ.length + 1) nm v bs' s t (f ++ g) (addL cs ds) ms := by
  have hm := at_lt h.ts.mrk
  have t1 := ts_pour (g := g) h.ts hds
  have b1 : Apart (pourS μ n s nm f g cs ds) μ.length nm mb (bs.map D.int) := ap_xs h.ts h.by_ (.inr (Nat.le_refl _)) (.inl rfl)
  have ok1 : Ok (pourS μ n s nm f g cs ds) := by
    refine xs_cut h.ok (cut_ins (by simp) (by simp) (by simp; omega)) fun z hz => ?_
    simp only [List.mem_cons, List.not_mem_nil, or_false] at hz
    rcases hz with rfl | rfl
    · exact under_fD _ _
    · exact by_under _ _
  exact ⟨ts_set t1 b1.1 b1.2.1 b1.2.2, ap_set (ap_xs h.ts h.z (.inr (Nat.le_refl _)) (.inl rfl)) (Ne.symm h.m2), ap_set (ap_xs h.ts h.tape (.inr (Nat.le_refl _)) (.inl rfl)) (Ne.symm h.m3), ap_self b1, h.m1, h.m2, h.m3, ok1.set (ints_cut _ _), fi, hbl, h.mfi⟩
end
end P96

/-! k96 in plain Lean: a history. -/
namespace P96
open PySem PySem.Spec L2 DP LW

def hComeC : E := (.and (.cmp .lt (.v 7) (.c (.int 2))) (.cmp .lt (.lenO (.v 1)) (.c (.int 5))))
def hCome : S := (.seq (.ex (.meth (.v 1) "come" (.cons (.sl false (.c (.str "abc")) (.cons (.v 8) .nil) (.cons (.bin .add (.v 8) (.c (.int 1))) .nil)) (.cons (.c (.int 1)) .nil)))) (.seq (.setIx (.v 2) (.v 8) (.bin .add (.ix (.v 2) (.v 8)) (.c (.int 1)))) .nil))
def hPourC : E := (.and (.cmp .eq (.v 7) (.c (.int 2))) (.cmp .lt (.lenO (.v 1)) (.c (.int 4))))
def hPour : S := (.seq (.set (.one (.n 9)) (.make false "Throng" (.cons (.v 3) .nil))) (.seq (.ex (.meth (.v 9) "come" (.cons (.sl false (.c (.str "abc")) (.cons (.v 8) .nil) (.cons (.bin .add (.v 8) (.c (.int 1))) .nil)) (.cons (.c (.int 2)) .nil)))) (.seq (.ex (.meth (.v 9) "meet" (.cons (.c (.int 0)) (.cons (.c (.int 1)) .nil)))) (.seq (.ex (.meth (.v 1) "pour" (.cons (.v 9) .nil))) (.seq (.setIx (.v 2) (.v 8) (.bin .add (.ix (.v 2) (.v 8)) (.c (.int 2)))) .nil)))))
def hMarkC : E := (.cmp .eq (.v 7) (.c (.int 3)))
def hMark : S := (.seq (.set (.one (.n 5)) (.cat false (.sl false (.v 5) .noP (.cons (.meth (.v 1) "mark" .nil) .nil)) (.lst false (.cons (.bi .list1 false (.cons (.v 2) .nil)) .nil)))) .nil)
def hBackC : E := (.and (.cmp .eq (.v 7) (.c (.int 4))) (.cmp .ne (.v 5) (.lst false .nil)))
def hBack : S := (.seq (.set (.one (.n 10)) (.call "_law_digit" (.cons (.v 0) (.cons (.bi .len false (.cons (.v 5) .nil)) .nil)))) (.seq (.ex (.meth (.v 1) "back" (.cons (.v 10) .nil))) (.seq (.setSl (.v 2) (.ix (.v 5) (.v 10))) (.seq (.set (.one (.n 5)) (.sl false (.v 5) .noP (.cons (.bin .add (.v 10) (.c (.int 1))) .nil))) .nil))))
def hMeetC : E := (.cmp .gt (.lenO (.v 1)) (.c (.int 1)))
def hMeet : S := (.seq (.set (.one (.n 11)) (.call "_law_digit" (.cons (.v 0) (.cons (.lenO (.v 1)) .nil)))) (.seq (.set (.one (.n 12)) (.call "_law_digit" (.cons (.v 0) (.cons (.bin .sub (.lenO (.v 1)) (.c (.int 1))) .nil)))) (.seq (.ex (.meth (.v 1) "meet" (.cons (.v 11) (.cons (.bin .add (.v 12) (.bi .int1 false (.cons (.cmp .ge (.v 12) (.v 11)) .nil))) .nil)))) .nil)))
def histB : S := (.seq (.set (.one (.n 7)) (.call "_law_digit" (.cons (.v 0) (.cons (.c (.int 8)) .nil)))) (.seq (.set (.one (.n 8)) (.call "_law_digit" (.cons (.v 0) (.cons (.v 4) .nil)))) (.seq (.ife hComeC hCome (.seq (.ife hPourC hPour (.seq (.ife hMarkC hMark (.seq (.ife hBackC hBack (.seq (.ife hMeetC hMeet .nil) .nil)) .nil)) .nil)) .nil)) .nil)))

def kD (ms : List Mk) : D := .lst (ms.map fun m => .lst (m.bs.map D.int))
def hR (mt n mb : Nat) (s : Sen) (t : Nat) (ms : List Mk) (x6 x7 x8 x9 x10 x11 x12 : Option D) : Rho := [some (.cell mt), some (.cell n), some (.cell mb), some s.e, some (.int (t : Nat)), some (kD ms), x6, x7, x8, x9, x10, x11, x12]
def HP (u : Int) (mt mb n : Nat) (s : Sen) (t q : Nat) (ρ : Rho) (μ : Sto) : Prop := ∃ (nf ng nm : Nat) (v : Int) (bs : List Int) (f : List (List Th)) (cs : List Int) (ms : List Mk) (x6 x7 x8 x9 x10 x11 x12 : Option D), ρ = hR mt n mb s t ms x6 x7 x8 x9 x10 x11 x12 ∧ HS μ u mt mb n nf ng nm v bs s t f cs ms ∧ f.length ≤ 5 ∧ ms.length ≤ q
theorem t_andB {Γ : Pr} {a b : E} {ρ : Rho} {μ : Sto} {x y : Bool} (h1 : evT Γ a ρ μ = some (x, μ)) (h2 : evT Γ b ρ μ = some (y, μ)) : evT Γ (.and a b) ρ μ = some (x && y, μ) := by
  cases x with
  | true => simp only [evT, h1, bnd_some, if_true, h2, Bool.true_and]
  | false => simp only [evT, h1, bnd_some, Bool.false_eq_true, if_false, Bool.false_and]
theorem c_ltI (Γ : Pr) (i j : Int) (μ : Sto) : cmpD Γ .lt (.int i) (.int j) μ = some (decide (i < j), μ) := rfl
theorem s_setSl {Γ : Pr} {o e : E} {n : Nat} {ds es : List D} {ρ : Rho} {μ μ1 μ2 : Sto} (he : ev Γ e ρ μ = some (.lst ds, μ1)) (ho : ev Γ o ρ μ1 = some (.cell n, μ2)) (hn : μ2[n]? = some (.lst es)) (hz : es.length + ds.length ≤ sizeLine) : evS Γ (.setSl o e) ρ μ = some (.next, ρ, μ2.set n (.lst ds)) := by
  simp only [evS, he, bnd_some, ho, hn, hz, if_true]
theorem c_kept (Γ : Pr) (ms : List Mk) (μ : Sto) : cmpD Γ .ne (kD ms) (.lst []) μ = some (!ms.isEmpty, μ) := by
  have hi : ∀ ws : List Int, D.pys (ws.map D.int) = some (ws.map PyData.int) := fun ws => by
    induction ws with
    | nil => rfl
    | cons w ws ih => simp only [List.map_cons, D.pys, D.py, ih]
  have hd : ∀ ws : List Int, PyData.depthAll (ws.map PyData.int) = 0 := fun ws => by
    induction ws with
    | nil => rfl
    | cons w ws ih => simp only [List.map_cons, PyData.depthAll, PyData.depth, ih]; rfl
  have hc : ∀ ws : List Int, PyData.canLayAll0 (ws.map PyData.int) = true := fun ws => by
    induction ws with
    | nil => rfl
    | cons w ws ih => simp only [List.map_cons, PyData.canLayAll0, PyData.canLay0, ih]; rfl
  have h1 : D.pys (ms.map fun m => D.lst (m.bs.map D.int)) = some (ms.map fun m => PyData.list (m.bs.map PyData.int)) := by
    induction ms with
    | nil => rfl
    | cons m ms ih => simp only [List.map_cons, D.pys, D.py, hi, Option.map_some, ih]
  have h2 : PyData.canLayAll0 (ms.map fun m => PyData.list (m.bs.map PyData.int)) = true := by
    clear h1
    induction ms with
    | nil => rfl
    | cons m ms ih => simp only [List.map_cons, PyData.canLayAll0, PyData.canLay0, hc, ih]; rfl
  have h3 : PyData.depthAll (ms.map fun m => PyData.list (m.bs.map PyData.int)) ≤ 1 := by
    clear h1 h2
    induction ms with
    | nil => simp [PyData.depthAll]
    | cons m ms ih => simp only [List.map_cons, PyData.depthAll, PyData.depth, hd]; omega
  have sh : SeqAt.shaped (.list (ms.map fun m => PyData.list (m.bs.map PyData.int))) = true := by
    have g1 : PyData.canLay0 (.list (ms.map fun m => PyData.list (m.bs.map PyData.int))) = true := by simp only [PyData.canLay0, h2]
    have g2 : PyData.depth (.list (ms.map fun m => PyData.list (m.bs.map PyData.int))) ≤ 64 := by simp only [PyData.depth]; omega
    unfold SeqAt.shaped
    rw [g1, decide_eq_true g2]; rfl
  have sh0 : SeqAt.shaped (.list []) = true := by kernel_rfl
  have e : eqD (kD ms) (.lst []) = some ms.isEmpty := by
    simp only [eqD, kD, D.py, h1, Option.map_some, D.pys, sh, sh0, Bool.and_self, if_true, PyData.eqv]
    cases ms <;> rfl
  show ((eqD (kD ms) (.lst [])).map fun b => (b, μ)).map _ = _
  simp only [e, Option.map_some]
/-! ### another throng, two folk of which met -/
section
variable {wf k : Nat} {μ : Sto} {s : Sen} {t : Nat} {g : List (List Th)} {ds : List Int}
theorem thr_has : Has (μ ++ thr μ.length s g ds) μ.length (μ.length + 1) (μ.length + 2) s g (byD ds) (.cell (μ.length + 3)) := ⟨at_k μ _ 0, at_k μ _ 1, at_k μ _ 2⟩
theorem thr_ok (ok : Ok μ) : Ok (μ ++ thr μ.length s g ds) := by
  refine ok.app fun c hc => ?_
  simp only [thr, List.mem_cons, List.not_mem_nil, or_false] at hc
  rcases hc with rfl | rfl | rfl | rfl
  · exact cut_ins (by simp [thr]) (by simp [thr]) (by simp [thr])
  · exact under_fD _ _
  · exact by_under _ _
  · rfl
theorem thr_f (g' : List (List Th)) : (μ ++ thr μ.length s g ds).set (μ.length + 1) (.lst (fD g')) = μ ++ thr μ.length s g' ds := by
  rw [List.set_append_right _ _ (by omega), show μ.length + 1 - μ.length = 1 by omega]; rfl
theorem thr_g (ds' : List Int) : (μ ++ thr μ.length s g ds).set (μ.length + 2) (.dct (byD ds')) = μ ++ thr μ.length s g ds' := by
  rw [List.set_append_right _ _ (by omega), show μ.length + 2 - μ.length = 2 by omega]; rfl
theorem thr_come (hs : SenOk s t) (hds : ds.length = t) {i : Nat} (hi : i < t) (many : Nat) (hm : many ≤ 1000) (hg : g.length ≤ 1000) : ∃ d c, ds[i]? = some c ∧ (G.pr wf (k + 1)).meth "Throng" "come" [.cell μ.length, .str (gw i), .int (many : Nat)] (μ ++ thr μ.length s g ds) = some (d, μ ++ thr μ.length s (g ++ List.replicate many (beg s i)) (ds.set i (c + many))) := by
  obtain ⟨d, c, hc, e⟩ := run_come (wf := wf) (k := k) (thr_has (μ := μ) (s := s) (g := g) (ds := ds)) (by omega) (by omega) (by omega) hs hds hi many hm hg
  rw [thr_f, thr_g] at e
  exact ⟨d, c, hc, e⟩
end
section
variable {wf k : Nat} {μ : Sto} {u : Int} {mt mb n nf ng nm : Nat} {v : Int} {bs : List Int} {s : Sen} {t : Nat} {f : List (List Th)} {cs : List Int} {ms : List Mk}
theorem h_come (h : HS μ u mt mb n nf ng nm v bs s t f cs ms) (hs : SenOk s t) {i : Nat} (hi : i < t) (hf : f.length < 5) {q : Nat} (hq : ms.length ≤ q) (x6 x7 x9 x10 x11 x12 : Option D) :
    ∃ ρ' μ', evS (G.pr wf (k + 7)) hCome (hR mt n mb s t ms x6 x7 (some (.int (i : Nat))) x9 x10 x11 x12) μ = some (.next, ρ', μ') ∧ HP u mt mb n s t (q + 1) ρ' μ' := by
  have h3 := hs.t3
  have hbl := h.bl
  obtain ⟨d, c, hc, e⟩ := run_come (wf := wf) (k := k + 6) h.ts.has h.ts.d1 h.ts.d4 h.ts.d2 hs h.ts.ct hi 1 (by omega) (by omega)
  have hb : bs[i]? = some (bs[i]'(by omega)) := List.getElem?_eq_getElem _
  have H := hs_come h hs hi (c := c) hb 1
  have hb2 := at_set (c' := Cel.dct (byD (cs.set i (c + (1 : Nat))))) (at_set (c' := Cel.lst (fD (f ++ List.replicate 1 (beg s i)))) h.by_.1 (Ne.symm h.by_.2.1)) (ap_gate h.ts h.by_)
  let R := hR mt n mb s t ms x6 x7 (some (.int (i : Nat))) x9 x10 x11 x12
  have e1 := s_ex (e_meth (Γ := G.pr wf (k + 7)) (a := .v 1) (ρ := R) (e_v (i := 1) rfl) (recv_T h.ts.has rfl) (es_2 (gw_str wf (k + 7) i (by omega) (ρ := R) (j := 8) rfl) (e_c (d := .int ((1 : Nat) : Int)))) e)
  have e2 := by_put2 (wf := wf) (k := k + 7) (ρ := R) (o := .v 2) (i := .v 8) (e := .c (.int 1)) (d := ((1 : Nat) : Int)) hb2 hb (fun _ => e_v rfl) (fun _ => e_v rfl) (fun _ => e_c)
  exact ⟨R, _, sq e1 (sq e2 rfl), nf, ng, nm, v, _, _, _, ms, x6, x7, some (.int (i : Nat)), x9, x10, x11, x12, rfl, H, by simp; omega, by omega⟩
theorem h_mark (h : HS μ u mt mb n nf ng nm v bs s t f cs ms) (hs : SenOk s t) (hf : f.length ≤ 5) {q : Nat} (hq : ms.length ≤ q) (hq2 : q ≤ 100) (x6 x7 x8 x9 x10 x11 x12 : Option D) :
    ∃ ρ' μ', evS (G.pr wf (k + 7)) hMark (hR mt n mb s t ms x6 x7 x8 x9 x10 x11 x12) μ = some (.next, ρ', μ') ∧ HP u mt mb n s t (q + 1) ρ' μ' := by
  have h4 := hs.at4
  have h3 := hs.t3
  have hbl := h.bl
  let R := hR mt n mb s t ms x6 x7 x8 x9 x10 x11 x12
  have e := run_mark (wf := wf) (k := k + 6) h.ts h.fi.fit (by omega) (by omega) (by omega)
  have H := hs_mark h hf
  have e1 := e_slF (Γ := G.pr wf (k + 7)) (a := .v 5) (b := .meth (.v 1) "mark" .nil) (ρ := R) (ds := ms.map fun m => D.lst (m.bs.map D.int)) (i := ms.length) (e_v (i := 5) rfl) (e_meth (e_v (i := 1) rfl) (recv_T h.ts.has rfl) es_nil e) (by simp) (by simp; omega)
  have e2 : ev (G.pr wf (k + 7)) (.bi .list1 false (.cons (.v 2) .nil)) R (markS μ nm f cs ms) = some (.lst (bs.map D.int), markS μ nm f cs ms) := by
    have hz : (bs.map D.int).length ≤ sizeLine := small (by simp; omega)
    exact e_bi (es_1 (e_v rfl)) (by simp only [biD, items, H.by_.1, Option.bind_some, DP.alloc, hz, if_true, Bool.false_eq_true, if_false])
  have htk : (ms.map fun m => D.lst (m.bs.map D.int)).take ms.length = ms.map fun m => D.lst (m.bs.map D.int) := List.take_of_length_le (by simp)
  rw [htk] at e1
  have e3 := e_cat (Γ := G.pr wf (k + 7)) e1 (e_lst (es_1 e2) (small (by simp))) rfl rfl (small (by simp; omega))
  have hk : kD (ms ++ [⟨f, μ.length, cs, bs⟩]) = .lst ((ms.map fun m => D.lst (m.bs.map D.int)) ++ [.lst (bs.map D.int)]) := by simp [kD]
  rw [← hk] at e3
  exact ⟨hR mt n mb s t (ms ++ [⟨f, μ.length, cs, bs⟩]) x6 x7 x8 x9 x10 x11 x12, _, sq (s_set e3) rfl, nf, ng, nm, v, bs, f, cs, _, x6, x7, x8, x9, x10, x11, x12, rfl, H, hf, by simp; omega⟩
theorem h_back (h : HS μ u mt mb n nf ng nm v bs s t f cs ms) (hs : SenOk s t) (hne : 0 < ms.length) {q : Nat} (hq : ms.length ≤ q) (hq2 : q ≤ 100) (x6 x7 x8 x9 x10 x11 x12 : Option D) :
    ∃ ρ' μ', evS (G.pr wf (k + 7)) hBack (hR mt n mb s t ms x6 x7 x8 x9 x10 x11 x12) μ = some (.next, ρ', μ') ∧ HP u mt mb n s t (q + 1) ρ' μ' := by
  have h4 := hs.at4
  have h3 := hs.t3
  let R := hR mt n mb s t ms x6 x7 x8 x9 x10 x11 x12
  obtain ⟨d, v', μ1, a1, a2, e1, H1⟩ := hs_digit h wf (k + 6) (q := (ms.length : Int)) (by omega) (by omega)
  obtain ⟨i, rfl⟩ := natD a1
  have hi : ms[i]? = some (ms[i]'(by omega)) := List.getElem?_eq_getElem _
  generalize ms[i]'(by omega) = m at hi
  obtain ⟨q1, q2, q3⟩ := h.mfi m (List.mem_of_getElem? hi)
  have e2 := run_back (wf := wf) (k := k + 6) H1.ts hi q1.fit (by omega) (by omega) (by omega)
  have H2 := hs_back H1 hi
  have b2 : (backS μ1 n s m ms i)[mb]? = some (.lst (bs.map D.int)) := (ap_xs H1.ts H1.by_ (nf' := μ1.length) (nm' := μ1.length + 2) (.inr (Nat.le_refl _)) (.inr (by omega))).1
  let R1 := hR mt n mb s t ms x6 x7 x8 x9 (some (.int (i : Nat))) x11 x12
  have hlen : ev (G.pr wf (k + 7)) (.bi .len false (.cons (.v 5) .nil)) R μ = some (.int (ms.length : Nat), μ) := e_bi (es_1 (e_v rfl)) (by simp only [biD, kD, items, Option.map_some, List.length_map])
  have s1 : evS (G.pr wf (k + 7)) (.set (.one (.n 10)) (.call "_law_digit" (.cons (.v 0) (.cons (.bi .len false (.cons (.v 5) .nil)) .nil)))) R μ = some (.next, R1, μ1) := s_set (e_call (es_2 (e_v rfl) hlen) e1)
  have s2 := s_ex (e_meth (Γ := G.pr wf (k + 7)) (a := .v 1) (ρ := R1) (e_v (i := 1) rfl) (recv_T H1.ts.has rfl) (es_1 (e_v (i := 10) rfl)) e2)
  have hix : ixD (kD ms) (.int (i : Nat)) (backS μ1 n s m ms i) = some (.lst (m.bs.map D.int)) := by
    have e : (ms.map fun m => D.lst (m.bs.map D.int))[i]? = some (.lst (m.bs.map D.int)) := by rw [List.getElem?_map, hi]; rfl
    exact atI_nat e
  have s3 := s_setSl (Γ := G.pr wf (k + 7)) (o := .v 2) (ρ := R1) (e_ix (e_v (i := 5) rfl) (e_v (i := 10) rfl) hix) (e_v (i := 2) rfl) b2 (small (by have := h.bl; simp; omega))
  have e4 := e_slF (Γ := G.pr wf (k + 7)) (a := .v 5) (b := .bin .add (.v 10) (.c (.int 1))) (ρ := R1) (μ := (backS μ1 n s m ms i).set mb (.lst (m.bs.map D.int))) (ds := ms.map fun m => D.lst (m.bs.map D.int)) (i := i + 1) (e_v (i := 5) rfl) (e_bin (e_v (i := 10) rfl) (e_c (d := .int 1)) (by show some (D.int ((i : Int) + 1)) = some (.int ((i + 1 : Nat) : Int)); congr 2)) (by simp; omega) (by simp; omega)
  rw [← List.map_take] at e4
  exact ⟨hR mt n mb s t (ms.take (i + 1)) x6 x7 x8 x9 (some (.int (i : Nat))) x11 x12, _, sq s1 (sq s2 (sq s3 (sq (s_set e4) rfl))), _, _, _, v', m.bs, m.f, m.cs, _, x6, x7, x8, x9, some (.int (i : Nat)), x11, x12, rfl, H2, q3, by rw [List.length_take]; omega⟩
theorem h_meet (h : HS μ u mt mb n nf ng nm v bs s t f cs ms) (hs : SenOk s t) (hf : f.length ≤ 5) (h1 : 1 < f.length) {q : Nat} (hq : ms.length ≤ q) (x6 x7 x8 x9 x10 x11 x12 : Option D) :
    ∃ ρ' μ', evS (G.pr wf (k + 7)) hMeet (hR mt n mb s t ms x6 x7 x8 x9 x10 x11 x12) μ = some (.next, ρ', μ') ∧ HP u mt mb n s t (q + 1) ρ' μ' := by
  have h4 := hs.at4
  let Γ := G.pr wf (k + 7)
  obtain ⟨d1, v1, μ1, a1, a2, e1, H1⟩ := hs_digit h wf (k + 6) (q := (f.length : Int)) (by omega) (by omega)
  obtain ⟨i, rfl⟩ := natD a1
  obtain ⟨d2, v2, μ2, b1, b2, e2, H2⟩ := hs_digit H1 wf (k + 6) (q := (f.length : Int) - 1) (by omega) (by omega)
  obtain ⟨j0, rfl⟩ := natD b1
  let j : Nat := j0 + (if i ≤ j0 then 1 else 0)
  have hj : j < f.length ∧ i ≠ j := by
    simp only [j]
    split <;> omega
  have g1 : f[i]? = some (f[i]'(by omega)) := by rw [List.getElem?_eq_getElem]
  have g2 : f[j]? = some (f[j]'hj.1) := by rw [List.getElem?_eq_getElem]
  have hmt := run_meet (wf := wf) (k := k + 3) H2.ts.has H2.ts.d1 H2.ts.d4 g1 g2 hj.2 (by omega) (h.fi.fit _ (List.mem_of_getElem? g1)) (h.fi.fit _ (List.mem_of_getElem? g2))
  have hcg : (f.set i (one1 s.ats (f[i]'(by omega)) (f[j]'hj.1))).set j (two2 s.ats (f[i]'(by omega)) (f[j]'hj.1)) = (chg s.ats f (i, j)).1 := by simp only [chg, g1, g2]
  rw [hcg] at hmt
  have H3 := hs_folk H2 (fi_chg h.fi (p := (i, j)) ⟨by simp only; omega, hj.1, hj.2⟩)
  let R0 := hR mt n mb s t ms x6 x7 x8 x9 x10 x11 x12
  let R1 := hR mt n mb s t ms x6 x7 x8 x9 x10 (some (.int (i : Nat))) x12
  let R2 := hR mt n mb s t ms x6 x7 x8 x9 x10 (some (.int (i : Nat))) (some (.int (j0 : Nat)))
  have ej : ev Γ (.bin .add (.v 12) (.bi .int1 false (.cons (.cmp .ge (.v 12) (.v 11)) .nil))) R2 μ2 = some (.int (j : Nat), μ2) := by
    refine e_bin (d2 := .int (if decide ((i : Int) ≤ (j0 : Int)) then 1 else 0)) (e_v rfl) (e_bi (es_1 (e_cmp (k := decide ((i : Int) ≤ (j0 : Int))) (e_v rfl) (e_v rfl) rfl)) rfl) ?_
    show some (D.int ((j0 : Int) + (if decide ((i : Int) ≤ (j0 : Int)) then 1 else 0))) = _
    congr 2
    simp only [j]
    by_cases h : i ≤ j0
    · rw [if_pos h, decide_eq_true (show (i : Int) ≤ (j0 : Int) by omega), if_pos rfl]; omega
    · rw [if_neg h, decide_eq_false (show ¬(i : Int) ≤ (j0 : Int) by omega), if_neg Bool.false_ne_true]; omega
  have s1 : evS Γ (.set (.one (.n 11)) (.call "_law_digit" (.cons (.v 0) (.cons (.lenO (.v 1)) .nil)))) R0 μ = some (.next, R1, μ1) := s_set (e_call (es_2 (e_v rfl) (e_lenT h.ts.has (e_v rfl) (by omega))) e1)
  have s2 : evS Γ (.set (.one (.n 12)) (.call "_law_digit" (.cons (.v 0) (.cons (.bin .sub (.lenO (.v 1)) (.c (.int 1))) .nil)))) R1 μ1 = some (.next, R2, μ2) := s_set (e_call (es_2 (e_v rfl) (e_bin (d := .int ((f.length : Int) - 1)) (e_lenT H1.ts.has (e_v rfl) (by omega)) (e_c (d := .int 1)) rfl)) e2)
  have s3 := s_ex (e_meth (Γ := Γ) (a := .v 1) (ρ := R2) (e_v (i := 1) rfl) (recv_T H2.ts.has rfl) (es_2 (e_v (i := 11) rfl) ej) hmt)
  exact ⟨R2, _, sq s1 (sq s2 (sq s3 rfl)), nf, ng, nm, v2, bs, _, cs, ms, x6, x7, x8, x9, x10, _, _, rfl, H3, by rw [chg_len]; exact hf, by omega⟩
theorem h_pour (h : HS μ u mt mb n nf ng nm v bs s t f cs ms) (hs : SenOk s t) (hw : 5 < wf) {i : Nat} (hi : i < t) (hf : f.length < 4) {q : Nat} (hq : ms.length ≤ q) (x6 x7 x9 x10 x11 x12 : Option D) :
    ∃ ρ' μ', evS (G.pr wf (k + 7)) hPour (hR mt n mb s t ms x6 x7 (some (.int (i : Nat))) x9 x10 x11 x12) μ = some (.next, ρ', μ') ∧ HP u mt mb n s t (q + 1) ρ' μ' := by
  have h3 := hs.t3
  have h4 := hs.at4
  have hbl := h.bl
  let Γ := G.pr wf (k + 7)
  let R0 := hR mt n mb s t ms x6 x7 (some (.int (i : Nat))) x9 x10 x11 x12
  let R1 := hR mt n mb s t ms x6 x7 (some (.int (i : Nat))) (some (.cell μ.length)) x10 x11 x12
  let ds0 := List.replicate t (0 : Int)
  have s1 : evS Γ (.set (.one (.n 9)) (.make false "Throng" (.cons (.v 3) .nil))) R0 μ = some (.next, R1, μ ++ thr μ.length s [] ds0) := s_set (ev_make hs wf k hw h.ok (e_v rfl))
  obtain ⟨d, c, hc, e2⟩ := thr_come (wf := wf) (k := k + 6) (μ := μ) (g := []) (ds := ds0) hs (by simp [ds0]) hi 2 (by omega) (by simp)
  have hc0 : c = 0 := by
    have : ds0[i]? = some 0 := by simp [ds0, hi]
    rw [this] at hc; cases hc; rfl
  subst hc0
  let g0 := ([] : List (List Th)) ++ List.replicate 2 (beg s i)
  let ds1 := ds0.set i (0 + ((2 : Nat) : Int))
  have s2 := s_ex (e_meth (Γ := Γ) (a := .v 9) (ρ := R1) (e_v (i := 9) rfl) (recv_T thr_has rfl) (es_2 (gw_str wf (k + 7) i (by omega) (ρ := R1) (j := 8) rfl) (e_c (d := .int ((2 : Nat) : Int)))) e2)
  have fi0 : FI s ds1 g0 := by
    have := fi_beg hs hi 2
    have e : ds1 = (List.replicate t (0 : Int)).set i ((2 : Nat) : Int) := by simp [ds1, ds0]
    rw [e]; exact this
  have hg0 : g0.length = 2 := by simp [g0]
  have p0 : g0[0]? = some (beg s i) := rfl
  have p1 : g0[1]? = some (beg s i) := rfl
  have hmt := run_meet (wf := wf) (k := k + 3) (thr_has (μ := μ) (s := s) (g := g0) (ds := ds1)) (by omega) (by omega) p0 p1 (by decide) (by omega) (beg_fits s i) (beg_fits s i)
  have hcg : (g0.set 0 (one1 s.ats (beg s i) (beg s i))).set 1 (two2 s.ats (beg s i) (beg s i)) = (chg s.ats g0 (0, 1)).1 := by simp only [chg, p0, p1]
  rw [hcg, thr_f] at hmt
  let g1 := (chg s.ats g0 (0, 1)).1
  have fi1 : FI s ds1 g1 := fi_chg fi0 ⟨by rw [hg0]; decide, by rw [hg0]; decide, by decide⟩
  have hg1 : g1.length = 2 := by rw [chg_len]; exact hg0
  have s3 := s_ex (e_meth (Γ := Γ) (a := .v 9) (ρ := R1) (e_v (i := 9) rfl) (recv_T thr_has rfl) (es_2 (e_c (d := .int ((0 : Nat) : Int))) (e_c (d := .int ((1 : Nat) : Int)))) hmt)
  have hdl : ds1.length = t := by simp [ds1, ds0]
  have ok1 : Ok (μ ++ thr μ.length s g1 ds1) := thr_ok h.ok
  have H1 := hs_app h ok1
  have hnl := at_lt h.ts.has.ins
  have e4 := run_pour (wf := wf) (k := k + 6) H1.ts (thr_has (μ := μ) (s := s) (g := g1) (ds := ds1)) (by omega) hs hdl fi1.fit (by omega)
  have s4 := s_ex (e_meth (Γ := Γ) (a := .v 1) (ρ := R1) (e_v (i := 1) rfl) (recv_T H1.ts.has rfl) (es_1 (e_v (i := 9) rfl)) e4)
  have hb : bs[i]? = some (bs[i]'(by omega)) := List.getElem?_eq_getElem _
  have fi2 : FI s (bs.set i (bs[i]'(by omega) + ((2 : Nat) : Int))) (f ++ g1) := by
    refine fi_app h.fi fi1 ?_
    have e : ds1 = (List.replicate t (0 : Int)).set i ((2 : Nat) : Int) := by simp [ds1, ds0]
    rw [e]
    exact tot_add hs hi h.bl hb 2
  have H2 := hs_pour H1 (g := g1) (ds := ds1) (bs' := bs.set i (bs[i]'(by omega) + ((2 : Nat) : Int))) hdl (by rw [List.length_set]; exact h.bl) fi2
  have hb2 : (pourS (μ ++ thr μ.length s g1 ds1) n s nm f g1 cs ds1)[mb]? = some (.lst (bs.map D.int)) := (ap_xs H1.ts H1.by_ (nf' := (μ ++ thr μ.length s g1 ds1).length) (nm' := nm) (.inr (Nat.le_refl _)) (.inl rfl)).1
  have s5 := by_put2 (wf := wf) (k := k + 7) (ρ := R1) (o := .v 2) (i := .v 8) (e := .c (.int 2)) (d := ((2 : Nat) : Int)) hb2 hb (fun _ => e_v rfl) (fun _ => e_v rfl) (fun _ => e_c)
  exact ⟨R1, _, sq s1 (sq s2 (sq s3 (sq s4 (sq s5 rfl)))), _, _, _, v, _, _, _, ms, x6, x7, some (.int (i : Nat)), _, x10, x11, x12, rfl, H2, by rw [List.length_append]; omega, by omega⟩
theorem hist_step {q : Nat} (hs : SenOk s t) (hw : 5 < wf) (hq : q ≤ 100) {ρ : Rho} (h : HP u mt mb n s t q ρ μ) (x : D) : ∃ ρ' μ', evS (G.pr wf (k + 7)) histB (ρ.set 6 (some x)) μ = some (.next, ρ', μ') ∧ HP u mt mb n s t (q + 1) ρ' μ' := by
  obtain ⟨nf, ng, nm, v, bs, f, cs, ms, x6, x7, x8, x9, x10, x11, x12, rfl, h, hf, hms⟩ := h
  have h1 := hs.t1
  have h3 := hs.t3
  let Γ := G.pr wf (k + 7)
  obtain ⟨o, v1, μ1, a1, a2, e1, H1⟩ := hs_digit h wf (k + 6) (q := 8) (by decide) (by decide)
  obtain ⟨d, v2, μ2, b1, b2, e2, H2⟩ := hs_digit H1 wf (k + 6) (q := (t : Int)) (by omega) (by omega)
  obtain ⟨i, rfl⟩ := natD b1
  let R0 := hR mt n mb s t ms (some x) x7 x8 x9 x10 x11 x12
  let R1 := hR mt n mb s t ms (some x) (some (.int o)) x8 x9 x10 x11 x12
  let R2 := hR mt n mb s t ms (some x) (some (.int o)) (some (.int (i : Nat))) x9 x10 x11 x12
  have s1 : evS Γ (.set (.one (.n 7)) (.call "_law_digit" (.cons (.v 0) (.cons (.c (.int 8)) .nil)))) R0 μ = some (.next, R1, μ1) := s_set (e_call (es_2 (e_v rfl) e_c) e1)
  have s2 : evS Γ (.set (.one (.n 8)) (.call "_law_digit" (.cons (.v 0) (.cons (.v 4) .nil)))) R1 μ1 = some (.next, R2, μ2) := s_set (e_call (es_2 (e_v rfl) (e_v rfl)) e2)
  have hlen : ev Γ (.lenO (.v 1)) R2 μ2 = some (.int (f.length : Nat), μ2) := e_lenT H2.ts.has (e_v rfl) (by omega)
  have c1 : evT Γ hComeC R2 μ2 = some (decide (o < 2) && decide ((f.length : Int) < 5), μ2) := t_andB (t_cmp (e_v rfl) e_c (c_ltI _ _ _ _)) (t_cmp hlen e_c (c_ltI _ _ _ _))
  have c2 : evT Γ hPourC R2 μ2 = some ((o == 2) && decide ((f.length : Int) < 4), μ2) := t_andB (t_cmp (e_v rfl) e_c (c_eqI _ _ _ _)) (t_cmp hlen e_c (c_ltI _ _ _ _))
  have c3 : evT Γ hMarkC R2 μ2 = some ((o == 3), μ2) := t_cmp (e_v rfl) e_c (c_eqI _ _ _ _)
  have c4 : evT Γ hBackC R2 μ2 = some ((o == 4) && !ms.isEmpty, μ2) := t_andB (t_cmp (e_v rfl) e_c (c_eqI _ _ _ _)) (t_cmp (e_v rfl) (e_lst es_nil (small (by simp))) (c_kept _ _ _))
  have c5 : evT Γ hMeetC R2 μ2 = some (decide ((1 : Int) < (f.length : Int)), μ2) := t_cmp hlen e_c (c_gtI _ _ _ _)
  have key : ∃ ρ' μ', evS Γ (.ife hComeC hCome (.seq (.ife hPourC hPour (.seq (.ife hMarkC hMark (.seq (.ife hBackC hBack (.seq (.ife hMeetC hMeet .nil) .nil)) .nil)) .nil)) .nil)) R2 μ2 = some (.next, ρ', μ') ∧ HP u mt mb n s t (q + 1) ρ' μ' := by
    have keep : HP u mt mb n s t (q + 1) R2 μ2 := ⟨nf, ng, nm, v2, bs, f, cs, ms, some x, some (.int o), some (.int (i : Nat)), x9, x10, x11, x12, rfl, H2, hf, by omega⟩
    cases k1 : (decide (o < 2) && decide ((f.length : Int) < 5)) with
    | true =>
      rw [k1] at c1
      obtain ⟨ρ', μ', e, hh⟩ := h_come (wf := wf) (k := k) H2 hs (i := i) (by omega) (by simp at k1; omega) hms (some x) (some (.int o)) x9 x10 x11 x12
      exact ⟨ρ', μ', by rw [s_if c1, if_pos rfl]; exact e, hh⟩
    | false =>
      rw [k1] at c1
      cases k2 : ((o == 2) && decide ((f.length : Int) < 4)) with
      | true =>
        rw [k2] at c2
        obtain ⟨ρ', μ', e, hh⟩ := h_pour (wf := wf) (k := k) H2 hs hw (i := i) (by omega) (by simp at k2; omega) hms (some x) (some (.int o)) x9 x10 x11 x12
        exact ⟨ρ', μ', by rw [s_if c1, if_neg Bool.false_ne_true]; exact sq (by rw [s_if c2, if_pos rfl]; exact e) rfl, hh⟩
      | false =>
        rw [k2] at c2
        cases k3 : (o == 3) with
        | true =>
          rw [k3] at c3
          obtain ⟨ρ', μ', e, hh⟩ := h_mark (wf := wf) (k := k) H2 hs hf hms hq (some x) (some (.int o)) (some (.int (i : Nat))) x9 x10 x11 x12
          exact ⟨ρ', μ', by rw [s_if c1, if_neg Bool.false_ne_true]; exact sq (by rw [s_if c2, if_neg Bool.false_ne_true]; exact sq (by rw [s_if c3, if_pos rfl]; exact e) rfl) rfl, hh⟩
        | false =>
          rw [k3] at c3
          cases k4 : ((o == 4) && !ms.isEmpty) with
          | true =>
            rw [k4] at c4
            obtain ⟨ρ', μ', e, hh⟩ := h_back (wf := wf) (k := k) H2 hs (by cases ms with | nil => simp at k4 | cons _ _ => simp) hms hq (some x) (some (.int o)) (some (.int (i : Nat))) x9 x10 x11 x12
            exact ⟨ρ', μ', by rw [s_if c1, if_neg Bool.false_ne_true]; exact sq (by rw [s_if c2, if_neg Bool.false_ne_true]; exact sq (by rw [s_if c3, if_neg Bool.false_ne_true]; exact sq (by rw [s_if c4, if_pos rfl]; exact e) rfl) rfl) rfl, hh⟩
          | false =>
            rw [k4] at c4
            cases k5 : decide ((1 : Int) < (f.length : Int)) with
            | true =>
              rw [k5] at c5
              obtain ⟨ρ', μ', e, hh⟩ := h_meet (wf := wf) (k := k) H2 hs hf (by simp at k5; omega) hms (some x) (some (.int o)) (some (.int (i : Nat))) x9 x10 x11 x12
              exact ⟨ρ', μ', by rw [s_if c1, if_neg Bool.false_ne_true]; exact sq (by rw [s_if c2, if_neg Bool.false_ne_true]; exact sq (by rw [s_if c3, if_neg Bool.false_ne_true]; exact sq (by rw [s_if c4, if_neg Bool.false_ne_true]; exact sq (by rw [s_if c5, if_pos rfl]; exact e) rfl) rfl) rfl) rfl, hh⟩
            | false =>
              rw [k5] at c5
              exact ⟨R2, μ2, by rw [s_if c1, if_neg Bool.false_ne_true]; exact sq (by rw [s_if c2, if_neg Bool.false_ne_true]; exact sq (by rw [s_if c3, if_neg Bool.false_ne_true]; exact sq (by rw [s_if c4, if_neg Bool.false_ne_true]; exact sq (by rw [s_if c5, if_neg Bool.false_ne_true]; rfl) rfl) rfl) rfl) rfl, keep⟩
  obtain ⟨ρ', μ', e, hh⟩ := key
  exact ⟨ρ', μ', sq s1 (sq s2 (sq e rfl)), hh⟩
end
theorem run_history {wf k : Nat} {μ : Sto} {u : Int} {mt mb n nf ng nm : Nat} {v : Int} {bs : List Int} {s : Sen} {t : Nat} {f : List (List Th)} {cs : List Int} (hs : SenOk s t) (hw : 5 < wf) (h : HS μ u mt mb n nf ng nm v bs s t f cs []) (hf : f.length ≤ 5) :
    ∃ (μ' : Sto) (nf' ng' nm' : Nat) (v' : Int) (bs' : List Int) (f' : List (List Th)) (cs' : List Int) (ms' : List Mk), (G.pr wf (k + 8)).call "_law_history" [.cell mt, .cell n, .cell mb, s.e, .int (t : Nat)] μ = some (.cell mb, μ') ∧ HS μ' u mt mb n nf' ng' nm' v' bs' s t f' cs' ms' ∧ f'.length ≤ 5 := by
  simp only [call_s wf (k + 7) "_law_history" (d := d__law_history) rfl]
  let Γ := G.pr wf (k + 7)
  let R0 : Rho := [some (.cell mt), some (.cell n), some (.cell mb), some s.e, some (.int (t : Nat)), none, none, none, none, none, none, none, none]
  have s1 : evS Γ (.set (.one (.n 5)) (.lst false .nil)) R0 μ = some (.next, hR mt n mb s t [] none none none none none none none, μ) := s_set (e_lst es_nil (small (by simp)))
  have hi : evI Γ (.rng (.c (.int 0)) (.c (.int 10))) (hR mt n mb s t [] none none none none none none none) μ = some (((List.range 10).map fun a => D.int (a : Nat), none), μ) := by
    have := i_rng (Γ := Γ) (ρ := hR mt n mb s t [] none none none none none none none) (μ := μ) (e_c (d := .int 0)) (e_c (d := .int 10)) (b62 (by omega) (by omega)) (b62 (by omega) (by omega))
    exact this
  obtain ⟨ρ1, μ1, e1, q, hq, hp⟩ := forL_of (sc := false) (n := μ.length) (w := none) (f := fun x ρ μ => (DP.bind Γ (.one (.n 6)) x ρ μ).bind fun p => evS Γ histB p.1 p.2) (P := fun xs ρ μ => ∃ q, q + xs.length ≤ 10 ∧ HP u mt mb n s t q ρ μ)
    (xs := (List.range 10).map fun a => D.int (a : Nat)) (ρ := hR mt n mb s t [] none none none none none none none) (μ := μ) ⟨0, by simp, nf, ng, nm, v, bs, f, cs, [], none, none, none, none, none, none, none, rfl, h, hf, by simp⟩ (by
    rintro x xs ρ μ ⟨q, hq, hp⟩
    simp only [List.length_cons] at hq
    obtain ⟨ρ', μ', e, hh⟩ := hist_step (wf := wf) (k := k) hs hw (by omega) hp x
    exact ⟨ρ', μ', ρ', μ', fbody rfl e, rfl, rfl, q + 1, by omega, hh⟩)
  obtain ⟨nf', ng', nm', v', bs', f', cs', ms', x6, x7, x8, x9, x10, x11, x12, rfl, H, hf', _⟩ := hp
  exact ⟨μ1, nf', ng', nm', v', bs', f', cs', ms', run_retX R0 rfl rfl rfl (sq s1 (sq (s_for hi e1) (sq_ret (s_ret (e_v rfl))))), H, hf'⟩
end P96

/-! k96 in plain Lean: throngs settled. -/
namespace P96
open PySem PySem.Spec L2 DP LW

theorem cut_take' (ds : List D) (i : Nat) : cutD ds none (some (i : Int)) = ds.take i := by
  simp only [cutD, HT.sIx_none, HT.sIx_nat, List.drop_zero, Nat.sub_zero]
  by_cases h : i ≤ ds.length
  · rw [Nat.min_eq_left h]
  · rw [Nat.min_eq_right (by omega), List.take_of_length_le (Nat.le_refl _), List.take_of_length_le (by omega)]
theorem e_slA {Γ : Pr} {a b : E} {ρ : Rho} {μ μ1 μ2 : Sto} {i : Nat} {ds : List D} (h1 : ev Γ a ρ μ = some (.lst ds, μ1)) (h2 : ev Γ b ρ μ1 = some (.int (i : Nat), μ2)) (hz : ds.length ≤ 1000000) : ev Γ (.sl false a .noP (.cons b .nil)) ρ μ = some (.lst (ds.take i), μ2) := by
  have hz : (ds.take i).length ≤ sizeLine := small (by rw [List.length_take]; omega)
  simp only [ev, h1, bnd_some, evP, h2, slD, listed, Option.bind_some, cut_take', DP.alloc, hz, if_true, Bool.false_eq_true, if_false]
theorem ix_due (b : Bool) (μ : Sto) : ixD (.lst [.str "no", .str "yes"]) (.int (if b then 1 else 0)) μ = some (wordD b) := by cases b <;> rfl
section
variable {μ : Sto} {u : Int} {mt mb n nf ng nm : Nat} {v : Int} {bs : List Int} {s : Sen} {t : Nat} {f : List (List Th)} {cs : List Int} {ms : List Mk}
theorem hs_ord (h : HS μ u mt mb n nf ng nm v bs s t f cs ms) (wf k N : Nat) (hN : N ≤ 100) : ∃ (ps : List (Nat × Nat)) (v' : Int) (μ' : Sto), (∀ p ∈ ps, PairOk N p) ∧ Cover N ps ∧ ps.length ≤ 20000 ∧ (G.pr wf (k + 2)).call "_law_order_of_pairs" [.cell mt, .int (N : Nat)] μ = some (.lst (ps.map prD), μ') ∧ HS μ' u mt mb n nf ng nm v' bs s t f cs ms := by
  obtain ⟨ps, v', g1, g2, g3, e⟩ := run_ord wf k N hN h.ok (at_lt h.tape.1) v
  have e0 : tp μ mt v = μ := set_same h.tape.1
  rw [e0] at e
  exact ⟨ps, v', tp μ mt v', g1, g2, g3, e, ⟨ts_set h.ts h.tape.1 h.tape.2.1 h.tape.2.2, ap_set h.z (Ne.symm h.m1), ap_self h.tape, ap_set h.by_ h.m3, h.m1, h.m2, h.m3, h.ok.set rfl, h.fi, h.bl, h.mfi⟩⟩
def Fix (s : Sen) (N : Nat) (f : List (List Th)) : Prop := ∃ ps, (∀ p ∈ ps, PairOk N p) ∧ Cover N ps ∧ seqF s.ats f ps = f
def setB : S := (.seq (.ife (.cmp .eq (.v 6) (.c (.int 0))) (.seq (.ex (.call "_law_met_in_order" (.cons (.v 1) (.cons (.v 7) .nil)))) .nil) (.seq (.ife (.and (.cmp .eq (.v 6) (.c (.int 1))) (.cmp .eq (.bin .mod (.v 9) (.c (.int 3))) (.c (.int 2)))) (.seq (.ex (.call "_law_met_in_order" (.cons (.v 1) (.cons (.cat false (.call "_law_order_of_pairs" (.cons (.v 0) (.cons (.v 4) .nil))) (.sl false (.v 7) .noP (.cons (.c (.int 1)) .nil))) .nil)))) (.seq (.set (.one (.n 8)) (.lst false .nil)) .nil)) (.seq (.ife (.cmp .lt (.bi .len false (.cons (.v 8) .nil)) (.c (.int 2))) (.seq (.set (.one (.n 10)) (.meth (.v 1) "stretch" (.cons (.cmp .eq (.bin .mod (.v 9) (.c (.int 2))) (.c (.int 1))) .nil))) (.seq (.set (.one (.n 8)) (.ife (.cmp .eq (.v 10) (.c (.int 0))) (.cat false (.v 8) (.lst false (.cons (.v 9) .nil))) (.lst false .nil))) .nil)) .nil) .nil)) .nil)) .nil)
def sR (mt n mb : Nat) (s : Sen) (N : Nat) (d : Bool) (o : Int) (ps : List (Nat × Nat)) (q : List D) (x9 x10 : Option D) : Rho := [some (.cell mt), some (.cell n), some s.e, some (.cell mb), some (.int (N : Nat)), some (wordD d), some (.int o), some (.lst (ps.map prD)), some (.lst q), x9, x10]
theorem set_step {wf k : Nat} (hs : SenOk s t) {N r : Nat} {d : Bool} {o : Int} {ps : List (Nat × Nat)} {q : List D} {x10 : Option D} (hN : N ≤ 100) (hp : ∀ p ∈ ps, PairOk N p) (hc : Cover N ps) (hpl : ps.length ≤ 20000) (h : HS μ u mt mb n nf ng nm v bs s t f cs ms) (hS : SuffF s bs N (r + 1) f) (hq : q ≠ [] → Fix s N f) (ho : o = 0 → q = []) (hql : q.length ≤ 2) (j : Nat) :
    ∃ (v' : Int) (f' : List (List Th)) (q' : List D) (y10 : Option D) (μ' : Sto), evS (G.pr wf (k + 10)) setB (sR mt n mb s N d o ps q (some (.int (j : Nat))) x10) μ = some (.next, sR mt n mb s N d o ps q' (some (.int (j : Nat))) y10, μ') ∧ HS μ' u mt mb n nf ng nm v' bs s t f' cs ms ∧ SuffF s bs N r f' ∧ (q' ≠ [] → Fix s N f') ∧ (o = 0 → q' = []) ∧ q'.length ≤ 2 := by
  have h4 := hs.at4
  let Γ := G.pr wf (k + 10)
  let R0 := sR mt n mb s N d o ps q (some (.int (j : Nat))) x10
  have hfl : f.length = N := hS.2.1
  have c1 : evT Γ (.cmp .eq (.v 6) (.c (.int 0))) R0 μ = some (o == 0, μ) := t_cmp (e_v rfl) e_c (c_eqI _ _ _ _)
  by_cases h0 : o = 0
  · have e := run_order (wf := wf) (k := k + 5) (ps := ps) h.ts.has h.ts.d1 h.ts.d4 (by omega) h.fi.fit (by rw [hfl]; exact hp)
    have H := hs_folk h (fi_seq ps f (by rw [hfl]; exact hp) h.fi)
    have hq0 := ho h0
    subst hq0
    refine ⟨v, _, [], x10, _, sq (ρ' := R0) ?_ rfl, H, suff_step hS hp hc, fun hh => absurd rfl hh, fun _ => rfl, by simp⟩
    rw [s_if c1, if_pos (by simp [h0])]
    exact sq (s_ex (e_call (es_2 (e_v rfl) (e_v rfl)) e)) rfl
  · have c1f : (o == 0) = false := by simp [h0]
    rw [c1f] at c1
    have hm3 : ev Γ (.bin .mod (.v 9) (.c (.int 3))) R0 μ = some (.int ((j : Int).fmod 3), μ) := e_bin (e_v rfl) e_c (o_mod (by decide))
    have c2 : evT Γ (.and (.cmp .eq (.v 6) (.c (.int 1))) (.cmp .eq (.bin .mod (.v 9) (.c (.int 3))) (.c (.int 2)))) R0 μ = some ((o == 1) && ((j : Int).fmod 3 == 2), μ) := t_andB (t_cmp (e_v rfl) e_c (c_eqI _ _ _ _)) (t_cmp hm3 e_c (c_eqI _ _ _ _))
    cases k2 : ((o == 1) && ((j : Int).fmod 3 == 2)) with
    | true =>
      rw [k2] at c2
      obtain ⟨ps2, v', μ1, g1, g2, g3, e1, H1⟩ := hs_ord h wf (k + 8) N hN
      have e2 := e_slA (Γ := Γ) (a := .v 7) (b := .c (.int 1)) (ρ := R0) (μ := μ1) (ds := ps.map prD) (i := 1) (e_v rfl) (e_c (d := .int ((1 : Nat) : Int))) (by rw [List.length_map]; omega)
      rw [← List.map_take] at e2
      have e3 := e_cat (Γ := Γ) (e_call (es_2 (e_v (i := 0) (ρ := R0) rfl) (e_v (i := 4) rfl)) e1) e2 rfl rfl (small (by rw [List.length_append, List.length_map, List.length_map, List.length_take]; omega))
      rw [← List.map_append] at e3
      have hp2 : ∀ p ∈ ps2 ++ ps.take 1, PairOk N p := fun p hpp => by
        rcases List.mem_append.mp hpp with hpp | hpp
        · exact g1 p hpp
        · exact hp p (List.mem_of_mem_take hpp)
      have hc2 : Cover N (ps2 ++ ps.take 1) := fun a b ha hb hab => by
        rcases g2 a b ha hb hab with hh | hh
        · exact .inl (List.mem_append_left _ hh)
        · exact .inr (List.mem_append_left _ hh)
      have e4 := run_order (wf := wf) (k := k + 5) (ps := ps2 ++ ps.take 1) H1.ts.has H1.ts.d1 H1.ts.d4 (by omega) H1.fi.fit (by rw [hfl]; exact hp2)
      have H2 := hs_folk H1 (fi_seq (ps2 ++ ps.take 1) f (by rw [hfl]; exact hp2) h.fi)
      refine ⟨v', _, [], x10, _, sq (ρ' := sR mt n mb s N d o ps [] (some (.int (j : Nat))) x10) ?_ rfl, H2, suff_step hS hp2 hc2, fun hh => absurd rfl hh, fun _ => rfl, by simp⟩
      rw [s_if c1, if_neg Bool.false_ne_true]
      refine sq (ρ' := sR mt n mb s N d o ps [] (some (.int (j : Nat))) x10) ?_ rfl
      rw [s_if c2, if_pos rfl]
      exact sq (s_ex (e_call (es_2 (e_v rfl) e3) e4)) (sq (s_set (e_lst es_nil (small (by simp)))) rfl)
    | false =>
      rw [k2] at c2
      have c3 : evT Γ (.cmp .lt (.bi .len false (.cons (.v 8) .nil)) (.c (.int 2))) R0 μ = some (decide ((q.length : Int) < 2), μ) := t_cmp (e_bi (es_1 (e_v rfl)) (by simp only [biD, items, Option.map_some])) e_c (c_ltI _ _ _ _)
      by_cases k3 : (q.length : Int) < 2
      · rw [decide_eq_true k3] at c3
        have hm2 : ev Γ (.bin .mod (.v 9) (.c (.int 2))) R0 μ = some (.int ((j : Int).fmod 2), μ) := e_bin (e_v rfl) e_c (o_mod (by decide))
        let b : Bool := (j : Int).fmod 2 == 1
        have e1 := run_stretch (wf := wf) (k := k + 6) h.ts.has h.ts.d1 h.ts.d4 (by omega) h.fi.fit (by omega) b
        have hp1 : ∀ p ∈ prsB b f.length, PairOk f.length p := fun p hp => prsB_ok hp
        have H1 := hs_folk h (fi_seq (prsB b f.length) f hp1 h.fi)
        let T := cnt (seqB s.ats f (prsB b f.length))
        let R1 := sR mt n mb s N d o ps q (some (.int (j : Nat))) (some (.int T))
        let μ1 := μ.set nf (.lst (fD (seqF s.ats f (prsB b f.length))))
        have s1 : evS Γ (.set (.one (.n 10)) (.meth (.v 1) "stretch" (.cons (.cmp .eq (.bin .mod (.v 9) (.c (.int 2))) (.c (.int 1))) .nil))) R0 μ = some (.next, R1, μ1) := s_set (e_meth (e_v rfl) (recv_T h.ts.has rfl) (es_1 (e_cmp hm2 e_c (c_eqI _ _ _ _))) e1)
        have c4 : evT Γ (.cmp .eq (.v 10) (.c (.int 0))) R1 μ1 = some (T == 0, μ1) := t_cmp (e_v rfl) e_c (c_eqI _ _ _ _)
        have hS1 : SuffF s bs N r (seqF s.ats f (prsB b f.length)) := suff_step hS (by rw [← hfl]; exact hp1) (by rw [← hfl]; exact prs_cover b _)
        by_cases hT : T = 0
        · have c4t : (T == 0) = true := by simp [hT]
          rw [c4t] at c4
          have hfix := quiet (prsB b f.length) f hT
          have e5 : ev Γ (.ife (.cmp .eq (.v 10) (.c (.int 0))) (.cat false (.v 8) (.lst false (.cons (.v 9) .nil))) (.lst false .nil)) R1 μ1 = some (.lst (q ++ [.int (j : Nat)]), μ1) := by
            rw [e_ife c4, if_pos rfl]
            exact e_cat (e_v rfl) (e_lst (es_1 (e_v rfl)) (small (by simp))) rfl rfl (small (by simp; omega))
          refine ⟨v, _, q ++ [.int (j : Nat)], some (.int T), μ1, sq (ρ' := sR mt n mb s N d o ps (q ++ [.int (j : Nat)]) (some (.int (j : Nat))) (some (.int T))) (μ' := μ1) ?_ rfl, H1, hS1, fun _ => ⟨prsB b f.length, by rw [← hfl]; exact hp1, by rw [← hfl]; exact prs_cover b _, by rw [hfix, hfix]⟩, fun hh => absurd hh h0, by simp; omega⟩
          rw [s_if c1, if_neg Bool.false_ne_true]
          refine sq (ρ' := sR mt n mb s N d o ps (q ++ [.int (j : Nat)]) (some (.int (j : Nat))) (some (.int T))) (μ' := μ1) ?_ rfl
          rw [s_if c2, if_neg Bool.false_ne_true]
          refine sq (ρ' := sR mt n mb s N d o ps (q ++ [.int (j : Nat)]) (some (.int (j : Nat))) (some (.int T))) (μ' := μ1) ?_ rfl
          rw [s_if c3, if_pos rfl]
          exact sq s1 (sq (s_set e5) rfl)
        · have c4f : (T == 0) = false := by simp [hT]
          rw [c4f] at c4
          have e5 : ev Γ (.ife (.cmp .eq (.v 10) (.c (.int 0))) (.cat false (.v 8) (.lst false (.cons (.v 9) .nil))) (.lst false .nil)) R1 μ1 = some (.lst [], μ1) := by
            rw [e_ife c4, if_neg Bool.false_ne_true]
            exact e_lst es_nil (small (by simp))
          refine ⟨v, _, [], some (.int T), μ1, sq (ρ' := sR mt n mb s N d o ps [] (some (.int (j : Nat))) (some (.int T))) (μ' := μ1) ?_ rfl, H1, hS1, fun hh => absurd rfl hh, fun _ => rfl, by simp⟩
          rw [s_if c1, if_neg Bool.false_ne_true]
          refine sq (ρ' := sR mt n mb s N d o ps [] (some (.int (j : Nat))) (some (.int T))) (μ' := μ1) ?_ rfl
          rw [s_if c2, if_neg Bool.false_ne_true]
          refine sq (ρ' := sR mt n mb s N d o ps [] (some (.int (j : Nat))) (some (.int T))) (μ' := μ1) ?_ rfl
          rw [s_if c3, if_pos rfl]
          exact sq s1 (sq (s_set e5) rfl)
      · rw [decide_eq_false k3] at c3
        have hne : q ≠ [] := by intro e; subst e; simp at k3
        obtain ⟨qs, q1, q2, q3⟩ := hq hne
        have hS1 := suff_step hS q1 q2
        rw [q3] at hS1
        refine ⟨v, f, q, x10, μ, sq (ρ' := R0) (μ' := μ) ?_ rfl, h, hS1, hq, ho, hql⟩
        rw [s_if c1, if_neg Bool.false_ne_true]
        refine sq (ρ' := R0) (μ' := μ) ?_ rfl
        rw [s_if c2, if_neg Bool.false_ne_true]
        refine sq (ρ' := R0) (μ' := μ) ?_ rfl
        rw [s_if c3, if_neg Bool.false_ne_true]
        rfl
def setB2 : S := (.seq (.ife (.not (.cons (.call "_law_all_say" (.cons (.v 1) (.cons (.v 5) .nil))) .nil)) (.seq (.ret (.c (.bl false))) .nil) .nil) (.seq (.ex (.call "_law_met_in_order" (.cons (.v 1) (.cons (.call "_law_order_of_pairs" (.cons (.v 0) (.cons (.v 4) .nil))) .nil)))) .nil))
theorem run_settled {wf k : Nat} (hs : SenOk s t) (h : HS μ u mt mb n nf ng nm v bs s t f cs ms) (h1 : 1 ≤ f.length) (hN : f.length ≤ 100) :
    ∃ (μ' : Sto) (v' : Int) (f' : List (List Th)), (G.pr wf (k + 11)).call "_law_settled_throng" [.cell mt, .cell n, s.e, .cell mb] μ = some (.bl true, μ') ∧ HS μ' u mt mb n nf ng nm v' bs s t f' cs ms ∧ f'.length = f.length := by
  simp only [call_s wf (k + 10) "_law_settled_throng" (d := d__law_settled_throng) rfl]
  have h4 := hs.at4
  have hd := hs.dep
  let Γ := G.pr wf (k + 10)
  let N := f.length
  let du := due s bs
  have hsl : ∀ a ∈ s.ats, Small a ∧ a.ws.length ≤ 10 := fun a ha => ⟨hs.sm a ha, by rw [hs.ws a ha]; have := hs.t3; omega⟩
  let R0 : Rho := [some (.cell mt), some (.cell n), some s.e, some (.cell mb), none, none, none, none, none, none, none]
  let R1 : Rho := [some (.cell mt), some (.cell n), some s.e, some (.cell mb), some (.int (N : Nat)), none, none, none, none, none, none]
  let R2 : Rho := [some (.cell mt), some (.cell n), some s.e, some (.cell mb), some (.int (N : Nat)), some (wordD du), none, none, none, none, none]
  have s1 : evS Γ (.set (.one (.n 4)) (.lenO (.v 1))) R0 μ = some (.next, R1, μ) := s_set (e_lenT h.ts.has (e_v rfl) (by omega))
  have hso := run_is_so wf mb bs μ h.by_.1 s (k + 10) (by omega) hsl
  have s2 : evS Γ (.set (.one (.n 5)) (.ix (.lst false (.cons (.c (.str "no")) (.cons (.c (.str "yes")) .nil))) (.bi .int1 false (.cons (.call "_law_is_so" (.cons (.v 2) (.cons (.v 3) .nil))) .nil)))) R1 μ = some (.next, R2, μ) :=
    s_set (e_ix (d1 := .lst [.str "no", .str "yes"]) (e_lst (es_2 e_c e_c) (small (by simp))) (e_bi (es_1 (e_call (es_2 (e_v rfl) (e_v rfl)) hso)) rfl) (ix_due du μ))
  obtain ⟨o, v1, μ1, a1, a2, e3, H1⟩ := hs_digit h wf (k + 9) (q := 3) (by decide) (by decide)
  obtain ⟨ps, v2, μ2, g1, g2, g3, e4, H2⟩ := hs_ord H1 wf (k + 8) N hN
  let R3 : Rho := [some (.cell mt), some (.cell n), some s.e, some (.cell mb), some (.int (N : Nat)), some (wordD du), some (.int o), none, none, none, none]
  let R4 : Rho := [some (.cell mt), some (.cell n), some s.e, some (.cell mb), some (.int (N : Nat)), some (wordD du), some (.int o), some (.lst (ps.map prD)), none, none, none]
  let R5 := sR mt n mb s N du o ps [] none none
  have s3 : evS Γ (.set (.one (.n 6)) (.call "_law_digit" (.cons (.v 0) (.cons (.c (.int 3)) .nil)))) R2 μ = some (.next, R3, μ1) := s_set (e_call (es_2 (e_v rfl) e_c) e3)
  have s4 : evS Γ (.set (.one (.n 7)) (.call "_law_order_of_pairs" (.cons (.v 0) (.cons (.v 4) .nil)))) R3 μ1 = some (.next, R4, μ2) := s_set (e_call (es_2 (e_v rfl) (e_v rfl)) e4)
  have s5 : evS Γ (.set (.one (.n 8)) (.lst false .nil)) R4 μ2 = some (.next, R5, μ2) := s_set (e_lst es_nil (small (by simp)))
  have hst := run_stretches wf N (by omega) μ2 s (k + 10) (by omega) fun a ha => (hsl a ha).2
  obtain ⟨t1, t2⟩ : 2 ≤ stret N s ∧ stret N s ≤ 4000 := stret_le hN s hs.sm
  have hT : ((stret N s).toNat : Int) = stret N s := by omega
  have hi : evI Γ (.rng (.c (.int 0)) (.call "_law_stretches" (.cons (.v 2) (.cons (.v 4) .nil)))) R5 μ2 = some (((List.range (stret N s).toNat).map fun a => D.int (a : Nat), none), μ2) := by
    have := i_rng (Γ := Γ) (ρ := R5) (μ := μ2) (e_c (d := .int 0)) (e_call (es_2 (e_v (i := 2) rfl) (e_v (i := 4) rfl)) hst) (b62 (by omega) (by omega)) (b62 (by omega) (by omega))
    rw [← hT, rng0] at this
    exact this
  have hS0 := suff_start H2.fi h1
  let P : List D → Rho → Sto → Prop := fun xs ρ μ => ∃ (v : Int) (f : List (List Th)) (q : List D) (x9 x10 : Option D), (∀ x ∈ xs, ∃ j : Nat, x = .int (j : Nat)) ∧ ρ = sR mt n mb s N du o ps q x9 x10 ∧ HS μ u mt mb n nf ng nm v bs s t f cs ms ∧ SuffF s bs N xs.length f ∧ (q ≠ [] → Fix s N f) ∧ (o = 0 → q = []) ∧ q.length ≤ 2
  obtain ⟨ρ6, μ6, e6, v6, f6, q6, x9, x10, _, rfl, H6, S6, _⟩ := forL_of (sc := false) (n := μ2.length) (w := none) (f := fun x ρ μ => (DP.bind Γ (.one (.n 9)) x ρ μ).bind fun p => evS Γ setB p.1 p.2) (P := P)
    (xs := (List.range (stret N s).toNat).map fun a => D.int (a : Nat)) (ρ := R5) (μ := μ2) ⟨v2, f, [], none, none, fun x hx => by
      obtain ⟨j, _, rfl⟩ := List.mem_map.mp hx
      exact ⟨j, rfl⟩, rfl, H2, by simp only [List.length_map, List.length_range]; exact hS0, fun hh => absurd rfl hh, fun _ => rfl, by simp⟩ (by
    rintro x xs ρ μ ⟨v, f, q, x9, x10, hx, rfl, H, S, hq, ho, hql⟩
    obtain ⟨j, rfl⟩ := hx x (by simp)
    obtain ⟨v', f', q', y10, μ', e, H', S', hq', ho', hql'⟩ := set_step (wf := wf) (k := k) (d := du) (x10 := x10) hs hN g1 g2 g3 H S hq ho hql j
    exact ⟨_, μ', _, μ', fbody rfl e, rfl, rfl, v', f', q', some (.int (j : Nat)), y10, fun y hy => hx y (by simp [hy]), rfl, H', S', hq', ho', hql'⟩)
  have s6 := s_for hi e6
  -- all say it, and go on saying it
  have sayit : ∀ {μ : Sto} {v : Int} {f : List (List Th)}, HS μ u mt mb n nf ng nm v bs s t f cs ms → SuffF s bs N 0 f → (G.pr wf (k + 10)).call "_law_all_say" [.cell n, wordD du] μ = some (.bl true, μ) := fun H S => run_all_say (k := k) H.ts.has H.ok H.fi.fit hd (by omega) (by rw [S.2.1]; exact h1) (by rw [S.2.1]; omega) (suff_word S)
  let P2 : List D → Rho → Sto → Prop := fun xs ρ μ => ∃ (v : Int) (f : List (List Th)) (x9 : Option D), ρ = sR mt n mb s N du o ps q6 x9 x10 ∧ HS μ u mt mb n nf ng nm v bs s t f cs ms ∧ SuffF s bs N 0 f
  have hi7 : evI Γ (.rng (.c (.int 0)) (.c (.int 2))) (sR mt n mb s N du o ps q6 x9 x10) μ6 = some (((List.range 2).map fun a => D.int (a : Nat), none), μ6) := by
    have := i_rng (Γ := Γ) (ρ := sR mt n mb s N du o ps q6 x9 x10) (μ := μ6) (e_c (d := .int 0)) (e_c (d := .int 2)) (b62 (by omega) (by omega)) (b62 (by omega) (by omega))
    exact this
  obtain ⟨ρ7, μ7, e7, v7, f7, y9, rfl, H7, S7⟩ := forL_of (sc := false) (n := μ6.length) (w := none) (f := fun x ρ μ => (DP.bind Γ (.one (.n 9)) x ρ μ).bind fun p => evS Γ setB2 p.1 p.2) (P := P2)
    (xs := (List.range 2).map fun a => D.int (a : Nat)) (ρ := sR mt n mb s N du o ps q6 x9 x10) (μ := μ6) ⟨v6, f6, x9, rfl, H6, S6⟩ (by
    rintro x xs ρ μ ⟨v, f, x9, rfl, H, S⟩
    let R := sR mt n mb s N du o ps q6 (some x) x10
    obtain ⟨qs, v', μ', k1, k2, k3, e, H'⟩ := hs_ord H wf (k + 8) N hN
    have hfl : f.length = N := S.2.1
    have eo := run_order (wf := wf) (k := k + 5) (ps := qs) H'.ts.has H'.ts.d1 H'.ts.d4 (by omega) H'.fi.fit (by rw [hfl]; exact k1)
    have H'' := hs_folk H' (fi_seq qs f (by rw [hfl]; exact k1) H.fi)
    have ec := t_not (t_bl (e_call (es_2 (e_v (i := 1) (ρ := R) rfl) (e_v (i := 5) rfl)) (sayit H S)))
    have st1 : evS Γ (.ife (.not (.cons (.call "_law_all_say" (.cons (.v 1) (.cons (.v 5) .nil))) .nil)) (.seq (.ret (.c (.bl false))) .nil) .nil) R μ = some (.next, R, μ) := by
      rw [s_if ec]; rfl
    have st2 := s_ex (e_call (Γ := Γ) (ρ := R) (es_2 (e_v (i := 1) rfl) (e_call (es_2 (e_v (i := 0) rfl) (e_v (i := 4) rfl)) e)) eo)
    exact ⟨R, _, R, _, fbody rfl (sq st1 (sq st2 rfl)), rfl, rfl, v', _, some x, rfl, H'', suff_done S k1⟩)
  have s7 := s_for hi7 e7
  exact ⟨μ7, v7, f7, run_retX R0 rfl rfl rfl (sq s1 (sq s2 (sq s3 (sq s4 (sq s5 (sq s6 (sq s7 (sq_ret (s_ret (e_call (es_2 (e_v rfl) (e_v rfl)) (sayit H7 S7))))))))))), H7, S7.2.1⟩
end
end P96

/-! k96 in plain Lean: a throng of many. -/
namespace P96
open PySem PySem.Spec L2 DP LW

theorem sum_set : ∀ (bs : List Int) (i : Nat) (b d : Int), bs[i]? = some b → (bs.set i (b + d)).sum = bs.sum + d
  | [], i, b, d, h => by simp at h
  | x :: bs, 0, b, d, h => by
    simp only [List.getElem?_cons_zero, Option.some.injEq] at h
    subst h
    simp only [List.set_cons_zero, List.sum_cons]; omega
  | x :: bs, i + 1, b, d, h => by
    simp only [List.getElem?_cons_succ] at h
    simp only [List.set_cons_succ, List.sum_cons, sum_set bs i b d h]; omega
theorem rep_ints (t : Nat) : (List.replicate t [D.int 0]).flatten = (List.replicate t (0 : Int)).map D.int := by
  rw [List.flatten_replicate_singleton, List.map_replicate]
def gm (v : Int) (s : Sen) (f : List (List Th)) (cs bs : List Int) : Sto := [Cel.lst [D.int v]] ++ thr 1 s f cs ++ [Cel.lst (bs.map D.int)]
section
variable {wf k : Nat} {v : Int} {s : Sen} {f : List (List Th)} {cs bs : List Int} {t : Nat}
theorem gm_has : Has (gm v s f cs bs) 1 2 3 s f (byD cs) (.cell 4) := ⟨rfl, rfl, rfl⟩
theorem gm_ok : Ok (gm v s f cs bs) := by
  have h1 : Ok [Cel.lst [D.int v]] := rfl
  have h2 : Ok ([Cel.lst [D.int v]] ++ thr 1 s f cs) := thr_ok (μ := [Cel.lst [D.int v]]) h1
  exact h2.app1 (ints_cut _ bs)
theorem gm_digit (v : Int) {q : Int} (h1 : 0 < q) (h2 : q < 1073741824) : ∃ (d v' : Int), 0 ≤ d ∧ d < q ∧ (G.pr wf (k + 1)).call "_law_digit" [.cell 0, .int q] (gm v s f cs bs) = some (.int d, gm v' s f cs bs) := by
  obtain ⟨d, v', a1, a2, e⟩ := digit wf (μ := gm v s f cs bs) (m := 0) (at_lt (show (gm v s f cs bs)[0]? = some (.lst [.int v]) from rfl)) k v h1 h2
  exact ⟨d, v', a1, a2, e⟩
theorem c0_digit (v : Int) {q : Int} (h1 : 0 < q) (h2 : q < 1073741824) : ∃ (d v' : Int), 0 ≤ d ∧ d < q ∧ (G.pr wf (k + 1)).call "_law_digit" [.cell 0, .int q] [.lst [.int v]] = some (.int d, [.lst [.int v']]) := by
  obtain ⟨d, v', a1, a2, e⟩ := digit wf (μ := [Cel.lst [D.int v]]) (m := 0) Nat.zero_lt_one k v h1 h2
  exact ⟨d, v', a1, a2, e⟩
theorem gm_come (hs : SenOk s t) (hc : cs.length = t) {i : Nat} (hi : i < t) (many : Nat) (hm : many ≤ 1000) (hf : f.length ≤ 1000) : ∃ d cs', cs'.length = t ∧ (G.pr wf (k + 1)).meth "Throng" "come" [.cell 1, .str (gw i), .int (many : Nat)] (gm v s f cs bs) = some (d, gm v s (f ++ List.replicate many (beg s i)) cs' bs) := by
  obtain ⟨d, c, hc1, e⟩ := run_come (wf := wf) (k := k) (gm_has (v := v) (s := s) (f := f) (cs := cs) (bs := bs)) (by decide) (by decide) (by decide) hs hc hi many hm hf
  exact ⟨d, cs.set i (c + many), by rw [List.length_set]; exact hc, e⟩
theorem gm_sum (bs : List Int) : biD .sum false [.cell 5] (gm v s f cs bs) = some (.int bs.sum, gm v s f cs bs) := by
  have e : listed (.cell 5) (gm v s f cs bs) = some (bs.map D.int) := rfl
  simp only [biD, e, Option.bind_some, intsD_map, Option.map_some]
end
def manyB1 : S := (.seq (.set (.one (.n 6)) (.call "_law_digit" (.cons (.v 0) (.cons (.v 1) .nil)))) (.seq (.set (.one (.n 7)) (.bin .add (.c (.int 2)) (.call "_law_digit" (.cons (.v 0) (.cons (.c (.int 4)) .nil))))) (.seq (.ex (.meth (.v 3) "come" (.cons (.sl false (.c (.str "abc")) (.cons (.v 6) .nil) (.cons (.bin .add (.v 6) (.c (.int 1))) .nil)) (.cons (.v 7) .nil)))) (.seq (.setIx (.v 4) (.v 6) (.bin .add (.ix (.v 4) (.v 6)) (.v 7))) .nil))))
def manyB2 : S := (.seq (.ife (.cmp .lt (.bi .len false (.cons (.v 8) .nil)) (.c (.int 2))) (.seq (.set (.one (.n 9)) (.meth (.v 3) "stretch" (.cons (.cmp .eq (.bin .mod (.v 5) (.c (.int 2))) (.c (.int 0))) .nil))) (.seq (.set (.one (.n 8)) (.ife (.cmp .eq (.v 9) (.c (.int 0))) (.cat false (.v 8) (.lst false (.cons (.v 5) .nil))) (.lst false .nil))) .nil)) .nil) .nil)
def mR (t : Nat) (s : Sen) (x5 x6 x7 x8 x9 : Option D) : Rho := [some (.cell 0), some (.int (t : Nat)), some s.e, some (.cell 1), some (.cell 5), x5, x6, x7, x8, x9]
def MI (s : Sen) (t : Nat) (r : Nat) (f : List (List Th)) (cs bs : List Int) : Prop := FI s bs f ∧ cs.length = t ∧ bs.length = t ∧ bs.sum = (f.length : Nat) ∧ f.length ≤ 5 * r ∧ 2 * r ≤ f.length
theorem many_come {wf k t : Nat} {s : Sen} (hs : SenOk s t) {r : Nat} (hr : r < 6) {v : Int} {f : List (List Th)} {cs bs : List Int} (h : MI s t r f cs bs) (x : D) (x6 x7 x8 x9 : Option D) :
    ∃ v' f' cs' bs' y6 y7, evS (G.pr wf (k + 10)) manyB1 (mR t s (some x) x6 x7 x8 x9) (gm v s f cs bs) = some (.next, mR t s (some x) y6 y7 x8 x9, gm v' s f' cs' bs') ∧ MI s t (r + 1) f' cs' bs' := by
  obtain ⟨fi, hc, hb, hsum, l1, l2⟩ := h
  have h1 := hs.t1
  have h3 := hs.t3
  let Γ := G.pr wf (k + 10)
  obtain ⟨d1, v1, a1, a2, e1⟩ := gm_digit (wf := wf) (k := k + 9) (s := s) (f := f) (cs := cs) (bs := bs) v (q := (t : Int)) (by omega) (by omega)
  obtain ⟨i, rfl⟩ := natD a1
  obtain ⟨d2, v2, b1, b2, e2⟩ := gm_digit (wf := wf) (k := k + 9) (s := s) (f := f) (cs := cs) (bs := bs) v1 (q := 4) (by decide) (by decide)
  obtain ⟨j, rfl⟩ := natD b1
  have hi : i < t := by omega
  let w : Nat := 2 + j
  obtain ⟨d, cs', hc', e3⟩ := gm_come (wf := wf) (k := k + 9) (v := v2) (f := f) (bs := bs) hs hc hi w (by omega) (by omega)
  let R0 := mR t s (some x) x6 x7 x8 x9
  let R1 := mR t s (some x) (some (.int (i : Nat))) x7 x8 x9
  let R2 := mR t s (some x) (some (.int (i : Nat))) (some (.int (w : Nat))) x8 x9
  have s1 : evS Γ (.set (.one (.n 6)) (.call "_law_digit" (.cons (.v 0) (.cons (.v 1) .nil)))) R0 (gm v s f cs bs) = some (.next, R1, gm v1 s f cs bs) := s_set (e_call (es_2 (e_v rfl) (e_v rfl)) e1)
  have ew : op2 .add (.int 2) (.int (j : Nat)) = some (.int (w : Nat)) := by
    show some (D.int (2 + (j : Int))) = _
    congr 2
  have s2 : evS Γ (.set (.one (.n 7)) (.bin .add (.c (.int 2)) (.call "_law_digit" (.cons (.v 0) (.cons (.c (.int 4)) .nil))))) R1 (gm v1 s f cs bs) = some (.next, R2, gm v2 s f cs bs) := s_set (e_bin (d1 := .int 2) e_c (e_call (es_2 (e_v rfl) e_c) e2) ew)
  have s3 := s_ex (e_meth (Γ := Γ) (a := .v 3) (ρ := R2) (e_v (i := 3) rfl) (recv_T gm_has rfl) (es_2 (gw_str wf (k + 10) i (by omega) (ρ := R2) (j := 6) rfl) (e_v (i := 7) rfl)) e3)
  have hbi : bs[i]? = some (bs[i]'(by omega)) := List.getElem?_eq_getElem _
  have s4 := by_put2 (wf := wf) (k := k + 10) (ρ := R2) (o := .v 4) (i := .v 6) (e := .v 7) (mb := 5) (μ := gm v2 s (f ++ List.replicate w (beg s i)) cs' bs) (d := (w : Nat)) rfl hbi (fun _ => e_v rfl) (fun _ => e_v rfl) (fun _ => e_v rfl)
  refine ⟨v2, f ++ List.replicate w (beg s i), cs', bs.set i (bs[i]'(by omega) + (w : Nat)), _, _, sq s1 (sq s2 (sq s3 (sq s4 rfl))), fi_come hs hi hb hbi fi w, hc', by rw [List.length_set]; exact hb, ?_, ?_, ?_⟩
  · rw [sum_set bs i _ _ hbi, hsum, List.length_append, List.length_replicate]; omega
  · rw [List.length_append, List.length_replicate]; omega
  · rw [List.length_append, List.length_replicate]; omega
theorem many_str {wf k t : Nat} {s : Sen} (hs : SenOk s t) {N r : Nat} (hN : N ≤ 100) {v : Int} {f : List (List Th)} {cs bs : List Int} {q : List D} (hS : SuffF s bs N (r + 1) f) (hq : q ≠ [] → Fix s N f) (hql : q.length ≤ 2) (j : Nat) (x6 x7 x9 : Option D) :
    ∃ f' q' y9, evS (G.pr wf (k + 10)) manyB2 (mR t s (some (.int (j : Nat))) x6 x7 (some (.lst q)) x9) (gm v s f cs bs) = some (.next, mR t s (some (.int (j : Nat))) x6 x7 (some (.lst q')) y9, gm v s f' cs bs) ∧ SuffF s bs N r f' ∧ (q' ≠ [] → Fix s N f') ∧ q'.length ≤ 2 := by
  have h4 := hs.at4
  let Γ := G.pr wf (k + 10)
  let μ := gm v s f cs bs
  let R0 := mR t s (some (.int (j : Nat))) x6 x7 (some (.lst q)) x9
  have hfl : f.length = N := hS.2.1
  have c3 : evT Γ (.cmp .lt (.bi .len false (.cons (.v 8) .nil)) (.c (.int 2))) R0 μ = some (decide ((q.length : Int) < 2), μ) := t_cmp (e_bi (es_1 (e_v rfl)) (by simp only [biD, items, Option.map_some])) e_c (c_ltI _ _ _ _)
  by_cases k3 : (q.length : Int) < 2
  · rw [decide_eq_true k3] at c3
    have hm2 : ev Γ (.bin .mod (.v 5) (.c (.int 2))) R0 μ = some (.int ((j : Int).fmod 2), μ) := e_bin (e_v rfl) e_c (o_mod (by decide))
    let b : Bool := (j : Int).fmod 2 == 0
    have e1 : (G.pr wf (k + 10)).meth "Throng" "stretch" [.cell 1, .bl b] μ = some (.int (cnt (seqB s.ats f (prsB b f.length))), gm v s (seqF s.ats f (prsB b f.length)) cs bs) := run_stretch (wf := wf) (k := k + 6) (gm_has (v := v) (s := s) (f := f) (cs := cs) (bs := bs)) (by decide) (by decide) (by omega) hS.1 (by omega) b
    have hp1 : ∀ p ∈ prsB b f.length, PairOk f.length p := fun p hp => prsB_ok hp
    let T := cnt (seqB s.ats f (prsB b f.length))
    let f1 := seqF s.ats f (prsB b f.length)
    let μ1 := gm v s f1 cs bs
    let R1 := mR t s (some (.int (j : Nat))) x6 x7 (some (.lst q)) (some (.int T))
    have s1 : evS Γ (.set (.one (.n 9)) (.meth (.v 3) "stretch" (.cons (.cmp .eq (.bin .mod (.v 5) (.c (.int 2))) (.c (.int 0))) .nil))) R0 μ = some (.next, R1, μ1) := s_set (e_meth (e_v rfl) (recv_T gm_has rfl) (es_1 (e_cmp hm2 e_c (c_eqI _ _ _ _))) e1)
    have c4 : evT Γ (.cmp .eq (.v 9) (.c (.int 0))) R1 μ1 = some (T == 0, μ1) := t_cmp (e_v rfl) e_c (c_eqI _ _ _ _)
    have hS1 : SuffF s bs N r f1 := suff_step hS (by rw [← hfl]; exact hp1) (by rw [← hfl]; exact prs_cover b _)
    by_cases hT : T = 0
    · have c4t : (T == 0) = true := by simp [hT]
      rw [c4t] at c4
      have hfix := quiet (prsB b f.length) f hT
      have e5 : ev Γ (.ife (.cmp .eq (.v 9) (.c (.int 0))) (.cat false (.v 8) (.lst false (.cons (.v 5) .nil))) (.lst false .nil)) R1 μ1 = some (.lst (q ++ [.int (j : Nat)]), μ1) := by
        rw [e_ife c4, if_pos rfl]
        exact e_cat (e_v rfl) (e_lst (es_1 (e_v rfl)) (small (by simp))) rfl rfl (small (by simp; omega))
      refine ⟨f1, q ++ [.int (j : Nat)], some (.int T), sq (ρ' := mR t s (some (.int (j : Nat))) x6 x7 (some (.lst (q ++ [.int (j : Nat)]))) (some (.int T))) (μ' := μ1) ?_ rfl, hS1, fun _ => ⟨prsB b f.length, by rw [← hfl]; exact hp1, by rw [← hfl]; exact prs_cover b _, by show seqF s.ats (seqF s.ats f (prsB b f.length)) (prsB b f.length) = seqF s.ats f (prsB b f.length); rw [hfix, hfix]⟩, by simp; omega⟩
      rw [s_if c3, if_pos rfl]
      exact sq s1 (sq (s_set e5) rfl)
    · have c4f : (T == 0) = false := by simp [hT]
      rw [c4f] at c4
      have e5 : ev Γ (.ife (.cmp .eq (.v 9) (.c (.int 0))) (.cat false (.v 8) (.lst false (.cons (.v 5) .nil))) (.lst false .nil)) R1 μ1 = some (.lst [], μ1) := by
        rw [e_ife c4, if_neg Bool.false_ne_true]
        exact e_lst es_nil (small (by simp))
      refine ⟨f1, [], some (.int T), sq (ρ' := mR t s (some (.int (j : Nat))) x6 x7 (some (.lst [])) (some (.int T))) (μ' := μ1) ?_ rfl, hS1, fun hh => absurd rfl hh, by simp⟩
      rw [s_if c3, if_pos rfl]
      exact sq s1 (sq (s_set e5) rfl)
  · rw [decide_eq_false k3] at c3
    have hne : q ≠ [] := by intro e; subst e; simp at k3
    obtain ⟨qs, q1, q2, q3⟩ := hq hne
    have hS1 := suff_step hS q1 q2
    rw [q3] at hS1
    refine ⟨f, q, x9, sq (ρ' := R0) (μ' := μ) ?_ rfl, hS1, hq, hql⟩
    rw [s_if c3, if_neg Bool.false_ne_true]
    rfl
theorem run_many_right (wf k : Nat) (hw : 5 < wf) (v : Int) : ∃ v', (G.pr wf (k + 11)).call "_law_many_right" [.cell 0] [.lst [.int v]] = some (.bl true, [.lst [.int v']]) := by
  simp only [call_s wf (k + 10) "_law_many_right" (d := d__law_many_right) rfl]
  let Γ := G.pr wf (k + 10)
  let c := fun v : Int => [Cel.lst [D.int v]]
  obtain ⟨d1, v1, a1, a2, e1⟩ := c0_digit (wf := wf) (k := k + 9) v (q := 2) (by decide) (by decide)
  obtain ⟨i1, rfl⟩ := natD a1
  let t : Nat := 1 + i1
  have h1 : 1 ≤ t := by omega
  have h3 : t ≤ 3 := by omega
  obtain ⟨d2, v2, b1, b2, e2⟩ := c0_digit (wf := wf) (k := k + 9) v1 (q := 2) (by decide) (by decide)
  obtain ⟨i2, rfl⟩ := natD b1
  let p : Nat := 1 + i2
  obtain ⟨s, v3, w1, w2, w3, w4, e3⟩ := wide wf (μ := c v2) (m := 0) Nat.zero_lt_one t (by omega) 1 (k + 5) v2 p (by omega) (by omega)
  have hs : SenOk s t := ⟨fun a ha => (w1 a ha).1, h1, h3, by omega, w3, by omega, fun a ha => (w1 a ha).2⟩
  have h4 := hs.at4
  have hd := hs.dep
  have hsl : ∀ a ∈ s.ats, Small a ∧ a.ws.length ≤ 10 := fun a ha => ⟨hs.sm a ha, by rw [hs.ws a ha]; have := hs.t3; omega⟩
  let R0 : Rho := [some (.cell 0), none, none, none, none, none, none, none, none, none]
  let R1 : Rho := [some (.cell 0), some (.int (t : Nat)), none, none, none, none, none, none, none, none]
  let R2 : Rho := [some (.cell 0), some (.int (t : Nat)), some s.e, none, none, none, none, none, none, none]
  let R3 : Rho := [some (.cell 0), some (.int (t : Nat)), some s.e, some (.cell 1), none, none, none, none, none, none]
  have et : op2 .add (.int 1) (.int (i1 : Nat)) = some (.int (t : Nat)) := by
    show some (D.int (1 + (i1 : Int))) = _
    congr 2
  have ep : op2 .add (.int 1) (.int (i2 : Nat)) = some (.int (p : Nat)) := by
    show some (D.int (1 + (i2 : Int))) = _
    congr 2
  have s1 : evS Γ (.set (.one (.n 1)) (.bin .add (.c (.int 1)) (.call "_law_digit" (.cons (.v 0) (.cons (.c (.int 2)) .nil))))) R0 (c v) = some (.next, R1, c v1) := s_set (e_bin (d1 := .int 1) e_c (e_call (es_2 (e_v rfl) e_c) e1) et)
  have s2 : evS Γ (.set (.one (.n 2)) (.call "_law_wide_sentence" (.cons (.v 0) (.cons (.v 1) (.cons (.bin .add (.c (.int 1)) (.call "_law_digit" (.cons (.v 0) (.cons (.c (.int 2)) .nil)))) (.cons (.c (.int 1)) .nil)))))) R1 (c v1) = some (.next, R2, c v3) :=
    s_set (e_call (es_cons (e_v rfl) (es_cons (e_v rfl) (es_2 (e_bin (d1 := .int 1) e_c (e_call (es_2 (e_v rfl) e_c) e2) ep) (e_c (d := .int ((1 : Nat) : Int)))))) e3)
  have s3 : evS Γ (.set (.one (.n 3)) (.make false "Throng" (.cons (.v 2) .nil))) R2 (c v3) = some (.next, R3, c v3 ++ thr 1 s [] (List.replicate t 0)) := s_set (ev_make hs wf (k + 3) hw (rfl : Ok (c v3)) (e_v rfl))
  have s4 : evS Γ (.set (.one (.n 4)) (.rep true (.lst false (.cons (.c (.int 0)) .nil)) (.v 1))) R3 (c v3 ++ thr 1 s [] (List.replicate t 0)) = some (.next, mR t s none none none none none, gm v3 s [] (List.replicate t 0) (List.replicate t 0)) := by
    have := e_repC (Γ := Γ) (ρ := R3) (μ := c v3 ++ thr 1 s [] (List.replicate t 0)) (e_lst (es_1 (e_c (d := .int 0))) (small (by simp))) (e_v (i := 1) (d := .int (t : Nat)) rfl) rfl (c63 (by omega) (by omega)) (small (by rw [Int.toNat_natCast, rep_ints]; simp; omega))
    rw [Int.toNat_natCast, rep_ints] at this
    exact s_set this
  have m0 : MI s t 0 [] (List.replicate t 0) (List.replicate t 0) := ⟨fi_nil s fun a _ => tot_zero a t, by simp, by simp, by simp, by simp, by simp⟩
  have hi5 : evI Γ (.rng (.c (.int 0)) (.c (.int 4))) (mR t s none none none none none) (gm v3 s [] (List.replicate t 0) (List.replicate t 0)) = some (((List.range 4).map fun a => D.int (a : Nat), none), gm v3 s [] (List.replicate t 0) (List.replicate t 0)) := by
    have := i_rng (Γ := Γ) (ρ := mR t s none none none none none) (μ := gm v3 s [] (List.replicate t 0) (List.replicate t 0)) (e_c (d := .int 0)) (e_c (d := .int 4)) (b62 (by omega) (by omega)) (b62 (by omega) (by omega))
    exact this
  obtain ⟨ρ5, μ5, e5, v5, f5, cs5, bs5, x5, x6, x7, r5, rfl, rfl, hr5, m5⟩ := forL_of (sc := false) (n := (gm v3 s [] (List.replicate t 0) (List.replicate t 0)).length) (w := none) (f := fun x ρ μ => (DP.bind Γ (.one (.n 5)) x ρ μ).bind fun p => evS Γ manyB1 p.1 p.2)
    (P := fun xs ρ μ => ∃ v f cs bs x5 x6 x7 r, ρ = mR t s x5 x6 x7 none none ∧ μ = gm v s f cs bs ∧ r + xs.length = 4 ∧ MI s t r f cs bs)
    (xs := (List.range 4).map fun a => D.int (a : Nat)) (ρ := mR t s none none none none none) (μ := gm v3 s [] (List.replicate t 0) (List.replicate t 0)) ⟨v3, [], _, _, none, none, none, 0, rfl, rfl, by simp, m0⟩ (by
    rintro x xs ρ μ ⟨v, f, cs, bs, x5, x6, x7, r, rfl, rfl, hr, m⟩
    simp only [List.length_cons] at hr
    obtain ⟨v', f', cs', bs', y6, y7, e, m'⟩ := many_come (wf := wf) (k := k) hs (by omega) m (v := v) x x6 x7 none none
    exact ⟨_, _, _, _, fbody rfl e, rfl, rfl, v', f', cs', bs', some x, y6, y7, r + 1, rfl, rfl, by omega, m'⟩)
  simp only [List.length_nil, Nat.add_zero] at hr5
  subst hr5
  have s5 := s_for hi5 e5
  obtain ⟨fi5, hc5, hb5, hs5, l1, l2⟩ := m5
  let R5 := mR t s x5 x6 x7 none none
  obtain ⟨d6, cs6, hc6, e6⟩ := gm_come (wf := wf) (k := k + 9) (v := v5) (f := f5) (bs := bs5) hs hc5 (i := 0) (by omega) 2 (by omega) (by omega)
  have s6 := s_ex (e_meth (Γ := Γ) (a := .v 3) (ρ := R5) (e_v (i := 3) rfl) (recv_T gm_has rfl) (es_2 (e_c (d := .str (gw 0))) (e_c (d := .int ((2 : Nat) : Int)))) e6)
  have hbi : bs5[0]? = some (bs5[0]'(by omega)) := List.getElem?_eq_getElem _
  let f7 := f5 ++ List.replicate 2 (beg s 0)
  let bs7 := bs5.set 0 (bs5[0]'(by omega) + ((2 : Nat) : Int))
  have s7 : evS Γ (.setIx (.v 4) (.c (.int 0)) (.bin .add (.ix (.v 4) (.c (.int 0))) (.c (.int 2)))) R5 (gm v5 s f7 cs6 bs5) = some (.next, R5, gm v5 s f7 cs6 bs7) := by_put2 (wf := wf) (k := k + 10) (ρ := R5) (o := .v 4) (i := .c (.int 0)) (e := .c (.int 2)) (mb := 5) (μ := gm v5 s f7 cs6 bs5) (d := ((2 : Nat) : Int)) rfl hbi (fun _ => e_v rfl) (fun _ => e_c (d := .int ((0 : Nat) : Int))) (fun _ => e_c)
  have fi7 : FI s bs7 f7 := fi_come hs (by omega) hb5 hbi fi5 2
  let N := f7.length
  have hN : N = f5.length + 2 := by simp only [N, f7, List.length_append, List.length_replicate]
  have hsum : bs7.sum = (N : Nat) := by rw [sum_set bs5 0 _ _ hbi, hs5, hN]; omega
  let R6 := mR t s x5 x6 x7 (some (.lst [])) none
  let μ7 := gm v5 s f7 cs6 bs7
  have s8 : evS Γ (.set (.one (.n 8)) (.lst false .nil)) R5 μ7 = some (.next, R6, μ7) := s_set (e_lst es_nil (small (by simp)))
  have hst := run_stretches wf N (by omega) μ7 s (k + 10) (by omega) fun a ha => (hsl a ha).2
  obtain ⟨t1, t2⟩ : 2 ≤ stret N s ∧ stret N s ≤ 4000 := stret_le (by omega) s hs.sm
  have hT : ((stret N s).toNat : Int) = stret N s := by omega
  have esum : ev Γ (.bi .sum false (.cons (.v 4) .nil)) R6 μ7 = some (.int (N : Nat), μ7) := by
    have := e_bi (Γ := Γ) (ρ := R6) (μ := μ7) (es_1 (e_v (i := 4) (d := .cell 5) rfl)) (gm_sum (v := v5) (s := s) (f := f7) (cs := cs6) bs7)
    rw [hsum] at this
    exact this
  have hi : evI Γ (.rng (.c (.int 0)) (.call "_law_stretches" (.cons (.v 2) (.cons (.bi .sum false (.cons (.v 4) .nil)) .nil)))) R6 μ7 = some (((List.range (stret N s).toNat).map fun a => D.int (a : Nat), none), μ7) := by
    have := i_rng (Γ := Γ) (ρ := R6) (μ := μ7) (e_c (d := .int 0)) (e_call (es_2 (e_v (i := 2) rfl) esum) hst) (b62 (by omega) (by omega)) (b62 (by omega) (by omega))
    rw [← hT, rng0] at this
    exact this
  have hS0 : SuffF s bs7 N (stret N s).toNat f7 := suff_start fi7 (by omega)
  obtain ⟨ρ9, μ9, e9, f9, q9, y5, y9, _, rfl, rfl, S9, _⟩ := forL_of (sc := false) (n := μ7.length) (w := none) (f := fun x ρ μ => (DP.bind Γ (.one (.n 5)) x ρ μ).bind fun p => evS Γ manyB2 p.1 p.2)
    (P := fun xs ρ μ => ∃ (f : List (List Th)) (q : List D) (y5 y9 : Option D), (∀ x ∈ xs, ∃ j : Nat, x = .int (j : Nat)) ∧ ρ = mR t s y5 x6 x7 (some (.lst q)) y9 ∧ μ = gm v5 s f cs6 bs7 ∧ SuffF s bs7 N xs.length f ∧ (q ≠ [] → Fix s N f) ∧ q.length ≤ 2)
    (xs := (List.range (stret N s).toNat).map fun a => D.int (a : Nat)) (ρ := R6) (μ := μ7) ⟨f7, [], x5, none, fun x hx => by
      obtain ⟨j, _, rfl⟩ := List.mem_map.mp hx
      exact ⟨j, rfl⟩, rfl, rfl, by simp only [List.length_map, List.length_range]; exact hS0, fun hh => absurd rfl hh, by simp⟩ (by
    rintro x xs ρ μ ⟨f, q, y5, y9, hx, rfl, rfl, S, hq, hql⟩
    obtain ⟨j, rfl⟩ := hx x (by simp)
    obtain ⟨f', q', z9, e, S', hq', hql'⟩ := many_str (wf := wf) (k := k) (v := v5) (cs := cs6) hs (by omega) S hq hql j x6 x7 y9
    exact ⟨_, _, _, _, fbody rfl e, rfl, rfl, f', q', some (.int (j : Nat)), z9, fun y hy => hx y (by simp [hy]), rfl, rfl, S', hq', hql'⟩)
  have s9 := s_for hi e9
  let R9 := mR t s y5 x6 x7 (some (.lst q9)) y9
  let μ9 := gm v5 s f9 cs6 bs7
  have hso := run_is_so wf 5 bs7 μ9 rfl s (k + 10) (by omega) hsl
  have esay : (G.pr wf (k + 10)).call "_law_all_say" [.cell 1, wordD (due s bs7)] μ9 = some (.bl true, μ9) := run_all_say (k := k) gm_has gm_ok S9.1 hd (by omega) (by rw [S9.2.1]; omega) (by rw [S9.2.1]; omega) (suff_word S9)
  have e10 : ev Γ (.call "_law_all_say" (.cons (.v 3) (.cons (.ix (.lst false (.cons (.c (.str "no")) (.cons (.c (.str "yes")) .nil))) (.bi .int1 false (.cons (.call "_law_is_so" (.cons (.v 2) (.cons (.v 4) .nil))) .nil))) .nil))) R9 μ9 = some (.bl true, μ9) := e_call (es_2 (e_v (i := 3) rfl) (e_ix (d1 := .lst [.str "no", .str "yes"]) (e_lst (es_2 e_c e_c) (small (by simp))) (e_bi (es_1 (e_call (es_2 (e_v (i := 2) rfl) (e_v (i := 4) rfl)) hso)) rfl) (ix_due (due s bs7) μ9))) esay
  have hC := run_retC (Γ := Γ) (df := d__law_many_right) (as := [.cell 0]) (μ := c v) rfl rfl (sq s1 (sq s2 (sq s3 (sq s4 (sq s5 (sq s6 (sq s7 (sq s8 (sq s9 (sq_ret (s_ret e10))))))))))) rfl rfl
  exact ⟨v5, hC⟩
end P96

/-! k96 in plain Lean: the law. -/
namespace P96
open PySem PySem.Spec L2 DP LW

def pTab : List D := [.int 1, .int 2, .int 3, .int 4, .int 2, .int 12]
theorem pTab_at (d : Int) (h1 : 0 ≤ d) (h2 : d < 6) (μ : Sto) : ∃ p : Nat, 1 ≤ p ∧ p ≤ 12 ∧ ixD (.lst pTab) (.int d) μ = some (.int (p : Nat)) := by
  have : d = 0 ∨ d = 1 ∨ d = 2 ∨ d = 3 ∨ d = 4 ∨ d = 5 := by omega
  rcases this with rfl | rfl | rfl | rfl | rfl | rfl
  · exact ⟨1, by decide, by decide, rfl⟩
  · exact ⟨2, by decide, by decide, rfl⟩
  · exact ⟨3, by decide, by decide, rfl⟩
  · exact ⟨4, by decide, by decide, rfl⟩
  · exact ⟨2, by decide, by decide, rfl⟩
  · exact ⟨12, by decide, by decide, rfl⟩
def lawA : S := .ex (.meth (.v 6) "come" (.cons (.c (.str "a")) (.cons (.c (.int 1)) .nil)))
def lawP : S := .setIx (.v 7) (.c (.int 0)) (.bin .add (.ix (.v 7) (.c (.int 0))) (.c (.int 1)))
def lawS : S := .ife (.not (.cons (.call "_law_settled_throng" (.cons (.v 2) (.cons (.v 6) (.cons (.v 5) (.cons (.v 7) .nil))))) .nil)) (.seq (.ret (.c (.bl false))) .nil) .nil
def lawI : S := .ife (.cmp .eq (.lenO (.v 6)) (.c (.int 0))) (.seq lawA (.seq lawP .nil)) .nil
def lawB : S := (.seq (.set (.one (.n 2)) (.call "_law_tape" (.cons (.v 0) (.cons (.v 1) .nil)))) (.seq (.set (.one (.n 3)) (.bin .add (.c (.int 1)) (.call "_law_digit" (.cons (.v 2) (.cons (.c (.int 3)) .nil))))) (.seq (.set (.one (.n 4)) (.ix (.lst false (.cons (.c (.int 1)) (.cons (.c (.int 2)) (.cons (.c (.int 3)) (.cons (.c (.int 4)) (.cons (.c (.int 2)) (.cons (.c (.int 12)) .nil))))))) (.call "_law_digit" (.cons (.v 2) (.cons (.c (.int 6)) .nil))))) (.seq (.set (.one (.n 5)) (.call "_law_wide_sentence" (.cons (.v 2) (.cons (.v 3) (.cons (.v 4) (.cons (.c (.int 5)) .nil)))))) (.seq (.set (.one (.n 6)) (.make false "Throng" (.cons (.v 5) .nil))) (.seq (.set (.one (.n 7)) (.call "_law_history" (.cons (.v 2) (.cons (.v 6) (.cons (.rep true (.lst false (.cons (.c (.int 0)) .nil)) (.v 3)) (.cons (.v 5) (.cons (.v 3) .nil))))))) (.seq lawI (.seq lawS (.seq lawA (.seq lawP (.seq lawS .nil)))))))))))
def lR (ns : List Int) (x1 : Option D) (t p : Nat) (s : Sen) : Rho := [some (.scr ns), x1, some (.cell 1), some (.int (t : Nat)), some (.int (p : Nat)), some s.e, some (.cell 2), some (.cell 6)]
section
variable {μ : Sto} {u : Int} {nf ng nm : Nat} {v : Int} {bs : List Int} {s : Sen} {t : Nat} {f : List (List Th)} {cs : List Int} {ms : List Mk} {wf k : Nat}
theorem law_come (h : HS μ u 1 6 2 nf ng nm v bs s t f cs ms) (hs : SenOk s t) (hf : f.length ≤ 50) (ns : List Int) (x1 : Option D) (p : Nat) :
    ∃ μ1 μ' bs' cs', evS (G.pr wf (k + 1)) lawA (lR ns x1 t p s) μ = some (.next, lR ns x1 t p s, μ1) ∧ evS (G.pr wf (k + 1)) lawP (lR ns x1 t p s) μ1 = some (.next, lR ns x1 t p s, μ') ∧ HS μ' u 1 6 2 nf ng nm v bs' s t (f ++ List.replicate 1 (beg s 0)) cs' ms := by
  have h1 := hs.t1
  have hbl := h.bl
  obtain ⟨d, c, hc, e⟩ := run_come (wf := wf) (k := k) h.ts.has h.ts.d1 h.ts.d4 h.ts.d2 hs h.ts.ct (i := 0) (by omega) 1 (by omega) (by omega)
  have hb : bs[0]? = some (bs[0]'(by omega)) := List.getElem?_eq_getElem _
  have H := hs_come h hs (by omega) (c := c) hb 1
  have hb2 := at_set (c' := Cel.dct (byD (cs.set 0 (c + (1 : Nat))))) (at_set (c' := Cel.lst (fD (f ++ List.replicate 1 (beg s 0)))) h.by_.1 (Ne.symm h.by_.2.1)) (ap_gate h.ts h.by_)
  let R := lR ns x1 t p s
  have e1 := s_ex (e_meth (Γ := G.pr wf (k + 1)) (a := .v 6) (ρ := R) (e_v (i := 6) rfl) (recv_T h.ts.has rfl) (es_2 (e_c (d := .str (gw 0))) (e_c (d := .int ((1 : Nat) : Int)))) e)
  have e2 := by_put2 (wf := wf) (k := k + 1) (ρ := R) (o := .v 7) (i := .c (.int 0)) (e := .c (.int 1)) (d := ((1 : Nat) : Int)) hb2 hb (fun _ => e_v rfl) (fun _ => e_c (d := .int ((0 : Nat) : Int))) (fun _ => e_c)
  exact ⟨_, _, _, _, e1, e2, H⟩
theorem law_set (h : HS μ u 1 6 2 nf ng nm v bs s t f cs ms) (hs : SenOk s t) (h1 : 1 ≤ f.length) (hf : f.length ≤ 50) (ns : List Int) (x1 : Option D) (p : Nat) :
    ∃ μ' v' f', evS (G.pr wf (k + 11)) lawS (lR ns x1 t p s) μ = some (.next, lR ns x1 t p s, μ') ∧ HS μ' u 1 6 2 nf ng nm v' bs s t f' cs ms ∧ f'.length = f.length := by
  obtain ⟨μ', v', f', e, H, hl⟩ := run_settled (wf := wf) (k := k) hs h h1 (by omega)
  refine ⟨μ', v', f', ?_, H, hl⟩
  let R := lR ns x1 t p s
  have ec : evT (G.pr wf (k + 11)) (.not (.cons (.call "_law_settled_throng" (.cons (.v 2) (.cons (.v 6) (.cons (.v 5) (.cons (.v 7) .nil))))) .nil)) R μ = some (!true, μ') := t_not (t_bl (e_call (es_cons (e_v (i := 2) (ρ := R) rfl) (es_cons (e_v (i := 6) rfl) (es_2 (e_v (i := 5) rfl) (e_v (i := 7) rfl)))) e))
  show evS _ (.ife _ _ _) _ _ = _
  rw [s_if ec]
  rfl
end
def h0 (u v : Int) (s : Sen) (t : Nat) : Sto := [Cel.lst [D.int u], Cel.lst [D.int v]] ++ thr 2 s [] (List.replicate t 0) ++ [Cel.lst ((List.replicate t (0 : Int)).map D.int)]
theorem h0_hs (u v : Int) {s : Sen} {t : Nat} : HS (h0 u v s t) u 1 6 2 3 4 5 v (List.replicate t 0) s t [] (List.replicate t 0) [] := by
  refine ⟨⟨⟨rfl, rfl, rfl⟩, rfl, (fun m hm => by simp at hm), by decide, by decide, by decide, by decide, by decide, by decide, by simp⟩, ⟨rfl, by decide, by decide⟩, ⟨rfl, by decide, by decide⟩, ⟨rfl, by decide, by decide⟩, by decide, by decide, by decide, ?_, fi_nil s fun a _ => tot_zero a t, by simp, fun m hm => by simp at hm⟩
  have h1 : Ok [Cel.lst [D.int u], Cel.lst [D.int v]] := rfl
  have h2 : Ok ([Cel.lst [D.int u], Cel.lst [D.int v]] ++ thr 2 s [] (List.replicate t 0)) := thr_ok (μ := [Cel.lst [D.int u], Cel.lst [D.int v]]) h1
  exact h2.app1 (ints_cut _ _)
theorem law_body (wf : Nat) (hw : 5 < wf) (ns : List Int) (hn : ns.length ≤ 63) (j : Nat) (hj : j ≤ 10) (u : Int) (x2 x3 x4 x5 x6 x7 : Option D) :
    ∃ (μ' : Sto) (z2 z3 z4 z5 z6 z7 : Option D), evS (G.pr wf 13) lawB [some (.scr ns), some (.int (j : Nat)), x2, x3, x4, x5, x6, x7] [.lst [.int u]] = some (.next, [some (.scr ns), some (.int (j : Nat)), z2, z3, z4, z5, z6, z7], μ') ∧ μ'[0]? = some (.lst [.int u]) := by
  let Γ := G.pr wf 13
  let c := fun v : Int => [Cel.lst [D.int u], Cel.lst [D.int v]]
  obtain ⟨v0, e0⟩ := run_tape wf 11 ns j hn (by omega) [.lst [.int u]]
  obtain ⟨d1, v1, a1, a2, e1⟩ := digit wf (μ := c v0) (m := 1) (Nat.lt_succ_self 1) 12 v0 (t := 3) (by decide) (by decide)
  obtain ⟨i1, rfl⟩ := natD a1
  let t : Nat := 1 + i1
  have h1 : 1 ≤ t := by omega
  have h3 : t ≤ 3 := by omega
  obtain ⟨d2, v2, b1, b2, e2⟩ := digit wf (μ := c v0) (m := 1) (Nat.lt_succ_self 1) 12 v1 (t := 6) (by decide) (by decide)
  obtain ⟨p, p1, p2, ep⟩ := pTab_at d2 b1 b2 (c v2)
  obtain ⟨s, v3, w1, w2, w3, w4, e3⟩ := wide wf (μ := c v0) (m := 1) (Nat.lt_succ_self 1) t (by omega) 5 4 v2 p (by omega) (by omega)
  have hs : SenOk s t := ⟨fun a ha => (w1 a ha).1, h1, h3, w2, w3, by omega, fun a ha => (w1 a ha).2⟩
  let S0 : Option D := some (.scr ns)
  let J : Option D := some (.int (j : Nat))
  let R0 : Rho := [S0, J, x2, x3, x4, x5, x6, x7]
  let R1 : Rho := [S0, J, some (.cell 1), x3, x4, x5, x6, x7]
  let R2 : Rho := [S0, J, some (.cell 1), some (.int (t : Nat)), x4, x5, x6, x7]
  let R3 : Rho := [S0, J, some (.cell 1), some (.int (t : Nat)), some (.int (p : Nat)), x5, x6, x7]
  let R4 : Rho := [S0, J, some (.cell 1), some (.int (t : Nat)), some (.int (p : Nat)), some s.e, x6, x7]
  let R5 : Rho := [S0, J, some (.cell 1), some (.int (t : Nat)), some (.int (p : Nat)), some s.e, some (.cell 2), x7]
  let R6 := lR ns J t p s
  have et : op2 .add (.int 1) (.int (i1 : Nat)) = some (.int (t : Nat)) := by
    show some (D.int (1 + (i1 : Int))) = _
    congr 2
  have s0 : evS Γ (.set (.one (.n 2)) (.call "_law_tape" (.cons (.v 0) (.cons (.v 1) .nil)))) R0 [.lst [.int u]] = some (.next, R1, c v0) := s_set (e_call (es_2 (e_v rfl) (e_v rfl)) e0)
  have s1 : evS Γ (.set (.one (.n 3)) (.bin .add (.c (.int 1)) (.call "_law_digit" (.cons (.v 2) (.cons (.c (.int 3)) .nil))))) R1 (c v0) = some (.next, R2, c v1) := s_set (e_bin (d1 := .int 1) e_c (e_call (es_2 (e_v rfl) e_c) e1) et)
  have s2 : evS Γ (.set (.one (.n 4)) (.ix (.lst false (.cons (.c (.int 1)) (.cons (.c (.int 2)) (.cons (.c (.int 3)) (.cons (.c (.int 4)) (.cons (.c (.int 2)) (.cons (.c (.int 12)) .nil))))))) (.call "_law_digit" (.cons (.v 2) (.cons (.c (.int 6)) .nil))))) R2 (c v1) = some (.next, R3, c v2) :=
    s_set (e_ix (d1 := .lst pTab) (e_lst (es_cons e_c (es_cons e_c (es_cons e_c (es_cons e_c (es_2 e_c e_c))))) (small (show pTab.length ≤ 1000000 by decide))) (e_call (es_2 (e_v rfl) e_c) e2) ep)
  have s3 : evS Γ (.set (.one (.n 5)) (.call "_law_wide_sentence" (.cons (.v 2) (.cons (.v 3) (.cons (.v 4) (.cons (.c (.int 5)) .nil)))))) R3 (c v2) = some (.next, R4, c v3) :=
    s_set (e_call (es_cons (e_v rfl) (es_cons (e_v rfl) (es_2 (e_v rfl) (e_c (d := .int ((5 : Nat) : Int)))))) e3)
  have s4 : evS Γ (.set (.one (.n 6)) (.make false "Throng" (.cons (.v 5) .nil))) R4 (c v3) = some (.next, R5, c v3 ++ thr 2 s [] (List.replicate t 0)) := s_set (ev_make hs wf 6 hw (rfl : Ok (c v3)) (e_v rfl))
  have er : ev Γ (.rep true (.lst false (.cons (.c (.int 0)) .nil)) (.v 3)) R5 (c v3 ++ thr 2 s [] (List.replicate t 0)) = some (.cell 6, h0 u v3 s t) := by
    have := e_repC (Γ := Γ) (ρ := R5) (μ := c v3 ++ thr 2 s [] (List.replicate t 0)) (e_lst (es_1 (e_c (d := .int 0))) (small (by simp))) (e_v (i := 3) (d := .int (t : Nat)) rfl) rfl (c63 (by omega) (by omega)) (small (by rw [Int.toNat_natCast, rep_ints]; simp; omega))
    rw [Int.toNat_natCast, rep_ints] at this
    exact this
  obtain ⟨μ5, nf, ng, nm, v5, bs5, f5, cs5, ms5, e5, H5, l5⟩ := run_history (wf := wf) (k := 5) hs hw (h0_hs u v3 (s := s) (t := t)) (by simp)
  have s5 : evS Γ (.set (.one (.n 7)) (.call "_law_history" (.cons (.v 2) (.cons (.v 6) (.cons (.rep true (.lst false (.cons (.c (.int 0)) .nil)) (.v 3)) (.cons (.v 5) (.cons (.v 3) .nil))))))) R5 (c v3 ++ thr 2 s [] (List.replicate t 0)) = some (.next, R6, μ5) :=
    s_set (e_call (es_cons (e_v rfl) (es_cons (e_v rfl) (es_cons er (es_2 (e_v rfl) (e_v rfl))))) e5)
  have hI : ∃ μ6 bs6 f6 cs6, evS Γ lawI R6 μ5 = some (.next, R6, μ6) ∧ HS μ6 u 1 6 2 nf ng nm v5 bs6 s t f6 cs6 ms5 ∧ 1 ≤ f6.length ∧ f6.length ≤ 6 := by
    have hc : evT Γ (.cmp .eq (.lenO (.v 6)) (.c (.int 0))) R6 μ5 = some (((f5.length : Nat) : Int) == 0, μ5) := t_cmp (e_lenT (k := 12) H5.ts.has (e_v rfl) (by omega)) e_c (c_eqI _ _ _ _)
    by_cases hf : f5.length = 0
    · have ht : (((f5.length : Nat) : Int) == 0) = true := by rw [hf]; rfl
      rw [ht] at hc
      obtain ⟨μa, μb, bs6, cs6, ea, eb, H6⟩ := law_come (wf := wf) (k := 12) H5 hs (by omega) ns J p
      refine ⟨μb, bs6, _, cs6, ?_, H6, by simp, by simp; omega⟩
      show evS _ (.ife _ _ _) _ _ = _
      rw [s_if hc, if_pos rfl]
      exact sq ea (sq eb rfl)
    · have ht : (((f5.length : Nat) : Int) == 0) = false := beq_eq_false_iff_ne.mpr (by omega)
      rw [ht] at hc
      refine ⟨μ5, bs5, f5, cs5, ?_, H5, by omega, by omega⟩
      show evS _ (.ife _ _ _) _ _ = _
      rw [s_if hc, if_neg Bool.false_ne_true]
      rfl
  obtain ⟨μ6, bs6, f6, cs6, s6, H6, g1, g2⟩ := hI
  obtain ⟨μ7, v7, f7, s7, H7, l7⟩ := law_set (wf := wf) (k := 2) H6 hs g1 (by omega) ns J p
  obtain ⟨μa, μ8, bs8, cs8, s8, s9, H8⟩ := law_come (wf := wf) (k := 12) H7 hs (by omega) ns J p
  obtain ⟨μ9, v9, f9, s10, H9, l9⟩ := law_set (wf := wf) (k := 2) H8 hs (by simp) (by simp; omega) ns J p
  exact ⟨μ9, _, _, _, _, _, _, sq s0 (sq s1 (sq s2 (sq s3 (sq s4 (sq s5 (sq s6 (sq s7 (sq s8 (sq s9 (sq s10 rfl)))))))))), H9.z.1⟩
theorem law_true' (ns : List Int) (h : ns.length ≤ 63) : ∃ μ, (G.pr WF KD).call "law" [.scr ns] [] = some (.bl true, μ) := by
  show ∃ μ, (G.pr 200 (13 + 1)).call "law" [.scr ns] [] = some (.bl true, μ)
  let Γ := G.pr 200 13
  obtain ⟨v, e1⟩ := run_tape 200 11 ns 4 h (by omega) []
  obtain ⟨u, e2⟩ := run_many_right 200 2 (by omega) v
  let R : Rho := [some (.scr ns), none, none, none, none, none, none, none]
  have s1 : evS Γ (.ife (.not (.cons (.call "_law_many_right" (.cons (.call "_law_tape" (.cons (.v 0) (.cons (.c (.int 4)) .nil))) .nil)) .nil)) (.seq (.ret (.c (.bl false))) .nil) .nil) R [] = some (.next, R, [.lst [.int u]]) := by
    have e : evT Γ (.not (.cons (.call "_law_many_right" (.cons (.call "_law_tape" (.cons (.v 0) (.cons (.c (.int 4)) .nil))) .nil)) .nil)) R [] = some (!true, [.lst [.int u]]) := t_not (t_bl (e_call (es_1 (e_call (es_2 (e_v (i := 0) (ρ := R) rfl) (e_c (d := .int ((4 : Nat) : Int)))) e1)) e2))
    rw [s_if e]
    rfl
  obtain ⟨q, hq, eq⟩ : ∃ q : Nat, q ≤ 4 ∧ ev Γ (.bi .max2 false (.cons (.c (.int 2)) (.cons (.bi .min2 false (.cons (.c (.int 4)) (.cons (.bi .len false (.cons (.v 0) .nil)) .nil))) .nil))) R [.lst [.int u]] = some (.int (q : Nat), [.lst [.int u]]) := by
    have hl : ev Γ (.bi .len false (.cons (.v 0) .nil)) R [.lst [.int u]] = some (.int ((ns.length : Nat) : Int), [.lst [.int u]]) := e_bi (es_1 (e_v rfl)) (by simp only [biD, items, Option.map_some, List.length_map])
    have h1 := e_bi (Γ := Γ) (k := .min2) (m := false) (es_2 (e_c (d := .int 4)) hl) rfl
    have h2 := e_bi (Γ := Γ) (k := .max2) (m := false) (es_2 (e_c (d := .int 2)) h1) rfl
    refine ⟨max 2 (min 4 ns.length), by omega, h2.trans ?_⟩
    congr 3
    split <;> split <;> omega
  have hi : evI Γ (.rng (.c (.int 0)) (.bi .max2 false (.cons (.c (.int 2)) (.cons (.bi .min2 false (.cons (.c (.int 4)) (.cons (.bi .len false (.cons (.v 0) .nil)) .nil))) .nil)))) R [.lst [.int u]] = some (((List.range q).map fun a => D.int (a : Nat), none), [.lst [.int u]]) := by
    have := i_rng (Γ := Γ) (ρ := R) (μ := [.lst [.int u]]) (e_c (d := .int 0)) eq (b62 (by omega) (by omega)) (b62 (by omega) (by omega))
    rw [rng0] at this
    exact this
  let P : List D → Rho → Sto → Prop := fun xs ρ μ => ∃ (y1 y2 y3 y4 y5 y6 y7 : Option D), (∀ x ∈ xs, ∃ j : Nat, j ≤ 10 ∧ x = .int (j : Nat)) ∧ ρ = [some (.scr ns), y1, y2, y3, y4, y5, y6, y7] ∧ μ = [.lst [.int u]]
  obtain ⟨ρ', μ', e3, y1, y2, y3, y4, y5, y6, y7, _, rfl, rfl⟩ := forL_of (sc := true) (n := ([.lst [.int u]] : Sto).length) (w := none) (f := fun x ρ μ => (DP.bind Γ (.one (.n 1)) x ρ μ).bind fun p => evS Γ lawB p.1 p.2) (P := P)
    (xs := (List.range q).map fun a => D.int (a : Nat)) (ρ := R) (μ := [.lst [.int u]]) ⟨none, none, none, none, none, none, none, fun x hx => by
      obtain ⟨j, hj, rfl⟩ := List.mem_map.mp hx
      have := List.mem_range.mp hj
      exact ⟨j, by omega, rfl⟩, rfl, rfl⟩ (by
    rintro x xs ρ μ ⟨y1, y2, y3, y4, y5, y6, y7, hx, rfl, rfl⟩
    obtain ⟨j, hj, rfl⟩ := hx x (by simp)
    obtain ⟨μ', z2, z3, z4, z5, z6, z7, eb, hz⟩ := law_body 200 (by omega) ns h j hj u y2 y3 y4 y5 y6 y7
    let C : Rho := [some (.scr ns), some (.int (j : Nat)), z2, z3, z4, z5, z6, z7]
    have htk : μ'.take 1 = [.lst [.int u]] := by
      cases μ' with
      | nil => simp at hz
      | cons a r => simp only [List.getElem?_cons_zero, Option.some.injEq] at hz; subst hz; rfl
    refine ⟨C, μ', C.map (cutV 1), [.lst [.int u]], fbody rfl eb, rfl, ?_, some (.int (j : Nat)), cutV 1 z2, cutV 1 z3, cutV 1 z4, cutV 1 z5, cutV 1 z6, cutV 1 z7, fun y hy => hx y (by simp [hy]), rfl, rfl⟩
    rw [if_pos rfl]
    exact cut_ok (n := 1) htk rfl rfl)
  have s2 := s_for hi e3
  rw [call_s 200 13 "law" (d := d_law) rfl]
  have := run_retC (Γ := Γ) (df := d_law) (as := [.scr ns]) (μ := []) (d := .bl true) rfl rfl (show evS Γ b_law _ _ = _ from (sq s1 (sq s2 (sq_ret (s_ret e_c))))) rfl rfl
  exact ⟨[], this⟩
end P96

section
set_option maxHeartbeats 4000000
/-! The walk: each def of the text, read by the rules of DP. -/
namespace LW
open PySem PySem.Spec L2 DP

def top (i : Nat) : Stmt := PySem.Challenge.pw_crowdsay_k96_whole_throngs_say_it_after.main.body.getD i (.Pass ⟨0, 0, 0, 0⟩)
abbrev s_Leastu_initu : Stmt := inClass (top 8) 0
abbrev s_Least_led : Stmt := inClass (top 8) 1
abbrev s_Least_met : Stmt := inClass (top 8) 2
abbrev s_Restu_initu : Stmt := inClass (top 9) 0
abbrev s_Rest_led : Stmt := inClass (top 9) 1
abbrev s_Rest_met : Stmt := inClass (top 9) 2
abbrev s_made_of : Stmt := top 10
abbrev s_many_of : Stmt := top 12
abbrev s_atoms_of : Stmt := top 13
abbrev s_truth_of : Stmt := top 15
abbrev s_pairs_of_folk : Stmt := top 16
abbrev s_Throngu_initu : Stmt := inClass (top 17) 0
abbrev s_Throngu_equ : Stmt := inClass (top 17) 1
abbrev s_Throngu_lenu : Stmt := inClass (top 17) 2
abbrev s_Throng_words : Stmt := inClass (top 17) 3
abbrev s_Throng_word_of_folk : Stmt := inClass (top 17) 4
abbrev s_Throng_come : Stmt := inClass (top 17) 5
abbrev s_Throng_need_folk : Stmt := inClass (top 17) 6
abbrev s_Throng_changed : Stmt := inClass (top 17) 7
abbrev s_Throng_meet : Stmt := inClass (top 17) 8
abbrev s_Throng_says : Stmt := inClass (top 17) 9
abbrev s_Throng_said : Stmt := inClass (top 17) 10
abbrev s_Throng_pour : Stmt := inClass (top 17) 12
abbrev s_Throng_stretch : Stmt := inClass (top 17) 13
abbrev s_Throng_mark : Stmt := inClass (top 17) 14
abbrev s_Throng_back : Stmt := inClass (top 17) 15
abbrev s__law_cell_at : Stmt := top 19
abbrev s__law_tape : Stmt := top 20
abbrev s__law_digit : Stmt := top 21
abbrev s__law_weights : Stmt := top 22
abbrev s__law_atom : Stmt := top 23
abbrev s__law_is_so : Stmt := top 24
abbrev s__law_wide_sentence : Stmt := top 25
abbrev s__law_stretches : Stmt := top 26
abbrev s__law_settled_throng : Stmt := top 27
abbrev s__law_order_of_pairs : Stmt := top 28
abbrev s__law_met_in_order : Stmt := top 29
abbrev s__law_all_say : Stmt := top 30
abbrev s__law_history : Stmt := top 31
abbrev s__law_many_right : Stmt := top 32
abbrev s_law : Stmt := top 33
/-- what the module's names and classes are -/
structure Kn (K : PySem.W.Frag) (mg : Str → Option Value) (ca : Str → Option Addr) : Prop where
  cls : ∀ C c, ca C = some c → Cls K c ∧ ∀ f ∈ G.att C, NoAttr K c f
  ne : ∀ C c f, ca C = some c → PySem.W.findIn K (.ref c) "__eq__" = some (some (.ref f)) → PySem.W.findIn K (.ref c) "__ne__" = some (some (.builtin "object.__ne__")) ∧ PySem.W.mroIn K c (.type "object") = some true
  b_abs : mg "abs" = none
  b_all : mg "all" = none
  b_any : mg "any" = none
  b_dict : mg "dict" = none
  b_int : mg "int" = none
  b_isinstance : mg "isinstance" = none
  b_len : mg "len" = none
  b_list : mg "list" = none
  b_max : mg "max" = none
  b_min : mg "min" = none
  b_range : mg "range" = none
  b_sum : mg "sum" = none
  b_tuple : mg "tuple" = none
  b_zip : mg "zip" = none
  g_GATE_WORDS : ∃ v u, mg "GATE_WORDS" = some u ∧ RelV v u ∧ ∀ α F, Rep K ca α F v (.tup [.str "a", .str "b", .str "c"])
  isi_Throng : ∃ cc, mg "Throng" = some (.ref cc) ∧ ∀ C' c, ca C' = some c → IsiC K c ∧ PySem.W.kitOne K (.ref c) (.ref cc) = some (decide (C' = "Throng"))
/-- where the defs stand -/
structure Fx (K : PySem.W.Frag) (mg : Str → Option Value) (ca : Str → Option Addr) : Prop where
  x_Leastu_initu : ∃ c f fd, ca "Least" = some c ∧ Mk K c f ∧ mg "Least" = some (.ref c) ∧ FunD K "__init__" "Least.__init__" (defArgs s_Leastu_initu) (defBody s_Leastu_initu) (defScope s_Leastu_initu) [] [] f fd
  x_Least_led : ∃ c f fd, ca "Least" = some c ∧ Meth K c "led" f ∧ FunD K "led" "Least.led" (defArgs s_Least_led) (defBody s_Least_led) (defScope s_Least_led) [] [] f fd
  x_Least_met : ∃ c f fd, ca "Least" = some c ∧ Meth K c "met" f ∧ FunD K "met" "Least.met" (defArgs s_Least_met) (defBody s_Least_met) (defScope s_Least_met) [] [] f fd
  x_Restu_initu : ∃ c f fd, ca "Rest" = some c ∧ Mk K c f ∧ mg "Rest" = some (.ref c) ∧ FunD K "__init__" "Rest.__init__" (defArgs s_Restu_initu) (defBody s_Restu_initu) (defScope s_Restu_initu) [] [] f fd
  x_Rest_led : ∃ c f fd, ca "Rest" = some c ∧ Meth K c "led" f ∧ FunD K "led" "Rest.led" (defArgs s_Rest_led) (defBody s_Rest_led) (defScope s_Rest_led) [] [] f fd
  x_Rest_met : ∃ c f fd, ca "Rest" = some c ∧ Meth K c "met" f ∧ FunD K "met" "Rest.met" (defArgs s_Rest_met) (defBody s_Rest_met) (defScope s_Rest_met) [] [] f fd
  x_made_of : ∃ f fd, FunD K "made_of" "made_of" (defArgs s_made_of) (defBody s_made_of) (defScope s_made_of) [] [] f fd ∧ mg "made_of" = some (.ref f)
  x_many_of : ∃ f fd, FunD K "many_of" "many_of" (defArgs s_many_of) (defBody s_many_of) (defScope s_many_of) [] [] f fd ∧ mg "many_of" = some (.ref f)
  x_atoms_of : ∃ f fd, FunD K "atoms_of" "atoms_of" (defArgs s_atoms_of) (defBody s_atoms_of) (defScope s_atoms_of) [] [] f fd ∧ mg "atoms_of" = some (.ref f)
  x_truth_of : ∃ f fd, FunD K "truth_of" "truth_of" (defArgs s_truth_of) (defBody s_truth_of) (defScope s_truth_of) [] [] f fd ∧ mg "truth_of" = some (.ref f)
  x_pairs_of_folk : ∃ f fd, FunD K "pairs_of_folk" "pairs_of_folk" (defArgs s_pairs_of_folk) (defBody s_pairs_of_folk) (defScope s_pairs_of_folk) [] [(("backward" : Str), (.bl false : V))] f fd ∧ mg "pairs_of_folk" = some (.ref f)
  x_Throngu_initu : ∃ c f fd, ca "Throng" = some c ∧ Mk K c f ∧ mg "Throng" = some (.ref c) ∧ FunD K "__init__" "Throng.__init__" (defArgs s_Throngu_initu) (defBody s_Throngu_initu) (defScope s_Throngu_initu) [] [] f fd
  x_Throngu_equ : ∃ c f fd, ca "Throng" = some c ∧ Meth K c "__eq__" f ∧ FunD K "__eq__" "Throng.__eq__" (defArgs s_Throngu_equ) (defBody s_Throngu_equ) (defScope s_Throngu_equ) [] [] f fd
  x_Throngu_lenu : ∃ c f fd, ca "Throng" = some c ∧ Meth K c "__len__" f ∧ FunD K "__len__" "Throng.__len__" (defArgs s_Throngu_lenu) (defBody s_Throngu_lenu) (defScope s_Throngu_lenu) [] [] f fd
  x_Throng_words : ∃ c f fd, ca "Throng" = some c ∧ Meth K c "words" f ∧ FunD K "words" "Throng.words" (defArgs s_Throng_words) (defBody s_Throng_words) (defScope s_Throng_words) [] [] f fd
  x_Throng_word_of_folk : ∃ c f fd, ca "Throng" = some c ∧ Meth K c "word_of_folk" f ∧ FunD K "word_of_folk" "Throng.word_of_folk" (defArgs s_Throng_word_of_folk) (defBody s_Throng_word_of_folk) (defScope s_Throng_word_of_folk) [] [] f fd
  x_Throng_come : ∃ c f fd, ca "Throng" = some c ∧ Meth K c "come" f ∧ FunD K "come" "Throng.come" (defArgs s_Throng_come) (defBody s_Throng_come) (defScope s_Throng_come) [] [(("many" : Str), (.int 1 : V))] f fd
  x_Throng_need_folk : ∃ c f fd, ca "Throng" = some c ∧ Meth K c "need_folk" f ∧ FunD K "need_folk" "Throng.need_folk" (defArgs s_Throng_need_folk) (defBody s_Throng_need_folk) (defScope s_Throng_need_folk) [] [] f fd
  x_Throng_changed : ∃ c f fd, ca "Throng" = some c ∧ Meth K c "changed" f ∧ FunD K "changed" "Throng.changed" (defArgs s_Throng_changed) (defBody s_Throng_changed) (defScope s_Throng_changed) [] [] f fd
  x_Throng_meet : ∃ c f fd, ca "Throng" = some c ∧ Meth K c "meet" f ∧ FunD K "meet" "Throng.meet" (defArgs s_Throng_meet) (defBody s_Throng_meet) (defScope s_Throng_meet) [] [] f fd
  x_Throng_says : ∃ c f fd, ca "Throng" = some c ∧ Meth K c "says" f ∧ FunD K "says" "Throng.says" (defArgs s_Throng_says) (defBody s_Throng_says) (defScope s_Throng_says) [] [] f fd
  x_Throng_said : ∃ c f fd, ca "Throng" = some c ∧ Meth K c "said" f ∧ FunD K "said" "Throng.said" (defArgs s_Throng_said) (defBody s_Throng_said) (defScope s_Throng_said) [] [] f fd
  x_Throng_pour : ∃ c f fd, ca "Throng" = some c ∧ Meth K c "pour" f ∧ FunD K "pour" "Throng.pour" (defArgs s_Throng_pour) (defBody s_Throng_pour) (defScope s_Throng_pour) [] [] f fd
  x_Throng_stretch : ∃ c f fd, ca "Throng" = some c ∧ Meth K c "stretch" f ∧ FunD K "stretch" "Throng.stretch" (defArgs s_Throng_stretch) (defBody s_Throng_stretch) (defScope s_Throng_stretch) [] [(("backward" : Str), (.bl false : V))] f fd
  x_Throng_mark : ∃ c f fd, ca "Throng" = some c ∧ Meth K c "mark" f ∧ FunD K "mark" "Throng.mark" (defArgs s_Throng_mark) (defBody s_Throng_mark) (defScope s_Throng_mark) [] [] f fd
  x_Throng_back : ∃ c f fd, ca "Throng" = some c ∧ Meth K c "back" f ∧ FunD K "back" "Throng.back" (defArgs s_Throng_back) (defBody s_Throng_back) (defScope s_Throng_back) [] [] f fd
  x__law_cell_at : ∃ f fd, FunD K "_law_cell_at" "_law_cell_at" (defArgs s__law_cell_at) (defBody s__law_cell_at) (defScope s__law_cell_at) [] [] f fd ∧ mg "_law_cell_at" = some (.ref f)
  x__law_tape : ∃ f fd, FunD K "_law_tape" "_law_tape" (defArgs s__law_tape) (defBody s__law_tape) (defScope s__law_tape) [] [] f fd ∧ mg "_law_tape" = some (.ref f)
  x__law_digit : ∃ f fd, FunD K "_law_digit" "_law_digit" (defArgs s__law_digit) (defBody s__law_digit) (defScope s__law_digit) [] [] f fd ∧ mg "_law_digit" = some (.ref f)
  x__law_weights : ∃ f fd, FunD K "_law_weights" "_law_weights" (defArgs s__law_weights) (defBody s__law_weights) (defScope s__law_weights) [] [] f fd ∧ mg "_law_weights" = some (.ref f)
  x__law_atom : ∃ f fd, FunD K "_law_atom" "_law_atom" (defArgs s__law_atom) (defBody s__law_atom) (defScope s__law_atom) [] [] f fd ∧ mg "_law_atom" = some (.ref f)
  x__law_is_so : ∃ f fd, FunD K "_law_is_so" "_law_is_so" (defArgs s__law_is_so) (defBody s__law_is_so) (defScope s__law_is_so) [] [] f fd ∧ mg "_law_is_so" = some (.ref f)
  x__law_wide_sentence : ∃ f fd, FunD K "_law_wide_sentence" "_law_wide_sentence" (defArgs s__law_wide_sentence) (defBody s__law_wide_sentence) (defScope s__law_wide_sentence) [] [] f fd ∧ mg "_law_wide_sentence" = some (.ref f)
  x__law_stretches : ∃ f fd, FunD K "_law_stretches" "_law_stretches" (defArgs s__law_stretches) (defBody s__law_stretches) (defScope s__law_stretches) [] [] f fd ∧ mg "_law_stretches" = some (.ref f)
  x__law_settled_throng : ∃ f fd, FunD K "_law_settled_throng" "_law_settled_throng" (defArgs s__law_settled_throng) (defBody s__law_settled_throng) (defScope s__law_settled_throng) [] [] f fd ∧ mg "_law_settled_throng" = some (.ref f)
  x__law_order_of_pairs : ∃ f fd, FunD K "_law_order_of_pairs" "_law_order_of_pairs" (defArgs s__law_order_of_pairs) (defBody s__law_order_of_pairs) (defScope s__law_order_of_pairs) [] [] f fd ∧ mg "_law_order_of_pairs" = some (.ref f)
  x__law_met_in_order : ∃ f fd, FunD K "_law_met_in_order" "_law_met_in_order" (defArgs s__law_met_in_order) (defBody s__law_met_in_order) (defScope s__law_met_in_order) [] [] f fd ∧ mg "_law_met_in_order" = some (.ref f)
  x__law_all_say : ∃ f fd, FunD K "_law_all_say" "_law_all_say" (defArgs s__law_all_say) (defBody s__law_all_say) (defScope s__law_all_say) [] [] f fd ∧ mg "_law_all_say" = some (.ref f)
  x__law_history : ∃ f fd, FunD K "_law_history" "_law_history" (defArgs s__law_history) (defBody s__law_history) (defScope s__law_history) [] [] f fd ∧ mg "_law_history" = some (.ref f)
  x__law_many_right : ∃ f fd, FunD K "_law_many_right" "_law_many_right" (defArgs s__law_many_right) (defBody s__law_many_right) (defScope s__law_many_right) [] [] f fd ∧ mg "_law_many_right" = some (.ref f)
  x_law : ∃ f fd, FunD K "law" "law" (defArgs s_law) (defBody s_law) (defScope s_law) [] [] f fd ∧ mg "law" = some (.ref f)
/-- every def that is called, one call less deep -/
structure Lv (P : Program) (w : World) (K : PySem.W.Frag) (mg : Str → Option Value) (base : Heap) (ca : Str → Option Addr) (wf k : Nat) : Prop where
  m_led : MethI P w K mg base ca (2 * k) "led" (fun C => (G.pr wf k).meth C "led") 1 [] []
  k_Least : MakeI P w K mg base ca (2 * k) "Least" ((G.pr wf k).meth "Least" "__init__") 1 []
  k_Rest : MakeI P w K mg base ca (2 * k) "Rest" ((G.pr wf k).meth "Rest" "__init__") 1 []
  f_atoms_of : FnI P w K mg base ca (2 * k) "atoms_of" ((G.pr wf k).call "atoms_of") 1 [] []
  f_truth_of : FnI P w K mg base ca (2 * k) "truth_of" ((G.pr wf k).call "truth_of") 2 [] []
  f_many_of : FnI P w K mg base ca (2 * k) "many_of" ((G.pr wf k).call "many_of") 1 [] []
  f_made_of : FnI P w K mg base ca (2 * k) "made_of" ((G.pr wf k).call "made_of") 1 [] []
  m_words : MethI P w K mg base ca (2 * k) "words" (fun C => (G.pr wf k).meth C "words") 0 [] []
  m_word_of_folk : MethI P w K mg base ca (2 * k) "word_of_folk" (fun C => (G.pr wf k).meth C "word_of_folk") 1 [] []
  m_met : MethI P w K mg base ca (2 * k) "met" (fun C => (G.pr wf k).meth C "met") 2 [] []
  m_changed : MethI P w K mg base ca (2 * k) "changed" (fun C => (G.pr wf k).meth C "changed") 2 [] []
  m_need_folk : MethI P w K mg base ca (2 * k) "need_folk" (fun C => (G.pr wf k).meth C "need_folk") 1 [] []
  f_pairs_of_folk : FnI P w K mg base ca (2 * k) "pairs_of_folk" ((G.pr wf k).call "pairs_of_folk") 1 ["backward"] []
  f__law_cell_at : FnI P w K mg base ca (2 * k) "_law_cell_at" ((G.pr wf k).call "_law_cell_at") 2 [] []
  f__law_digit : FnI P w K mg base ca (2 * k) "_law_digit" ((G.pr wf k).call "_law_digit") 2 [] []
  f__law_weights : FnI P w K mg base ca (2 * k) "_law_weights" ((G.pr wf k).call "_law_weights") 2 [] []
  f__law_is_so : FnI P w K mg base ca (2 * k) "_law_is_so" ((G.pr wf k).call "_law_is_so") 2 [] []
  f__law_wide_sentence : FnI P w K mg base ca (2 * k) "_law_wide_sentence" ((G.pr wf k).call "_law_wide_sentence") 4 [] []
  f__law_atom : FnI P w K mg base ca (2 * k) "_law_atom" ((G.pr wf k).call "_law_atom") 2 [] []
  f__law_stretches : FnI P w K mg base ca (2 * k) "_law_stretches" ((G.pr wf k).call "_law_stretches") 2 [] []
  f__law_all_say : FnI P w K mg base ca (2 * k) "_law_all_say" ((G.pr wf k).call "_law_all_say") 2 [] []
  f__law_order_of_pairs : FnI P w K mg base ca (2 * k) "_law_order_of_pairs" ((G.pr wf k).call "_law_order_of_pairs") 2 [] []
  f__law_met_in_order : FnI P w K mg base ca (2 * k) "_law_met_in_order" ((G.pr wf k).call "_law_met_in_order") 2 [] []
  m_stretch : MethI P w K mg base ca (2 * k) "stretch" (fun C => (G.pr wf k).meth C "stretch") 0 ["backward"] []
  m_ulenu : MethI P w K mg base ca (2 * k) "__len__" (fun C => (G.pr wf k).meth C "__len__") 0 [] []
  m_meet : MethI P w K mg base ca (2 * k) "meet" (fun C => (G.pr wf k).meth C "meet") 2 [] []
  m_said : MethI P w K mg base ca (2 * k) "said" (fun C => (G.pr wf k).meth C "said") 0 [] []
  m_says : MethI P w K mg base ca (2 * k) "says" (fun C => (G.pr wf k).meth C "says") 1 [] []
  m_come : MethI P w K mg base ca (2 * k) "come" (fun C => (G.pr wf k).meth C "come") 1 [] [(.int 1)]
  m_come_1 : MethI P w K mg base ca (2 * k) "come" (fun C => (G.pr wf k).meth C "come") 1 ["many"] []
  m_pour : MethI P w K mg base ca (2 * k) "pour" (fun C => (G.pr wf k).meth C "pour") 1 [] []
  k_Throng : MakeI P w K mg base ca (2 * k) "Throng" ((G.pr wf k).meth "Throng" "__init__") 1 []
  m_mark : MethI P w K mg base ca (2 * k) "mark" (fun C => (G.pr wf k).meth C "mark") 0 [] []
  m_back : MethI P w K mg base ca (2 * k) "back" (fun C => (G.pr wf k).meth C "back") 1 [] []
  f__law_settled_throng : FnI P w K mg base ca (2 * k) "_law_settled_throng" ((G.pr wf k).call "_law_settled_throng") 4 [] []
  f__law_history : FnI P w K mg base ca (2 * k) "_law_history" ((G.pr wf k).call "_law_history") 5 [] []
  f__law_tape : FnI P w K mg base ca (2 * k) "_law_tape" ((G.pr wf k).call "_law_tape") 2 [] []
  f__law_many_right : FnI P w K mg base ca (2 * k) "_law_many_right" ((G.pr wf k).call "_law_many_right") 1 [] []
  m_uequ : MethI P w K mg base ca (2 * k) "__eq__" (fun C => (G.pr wf k).meth C "__eq__") 1 [] []
section
variable {P : Program} {w : World} {K : PySem.W.Frag} {mg : Str → Option Value} {base : Heap} {ca : Str → Option Addr} {wf k : Nat} {f : Addr} {fd : FuncData}
theorem sc_Leastu_initu : FnScope N_Leastu_initu p_Leastu_initu (defScope s_Leastu_initu) := ⟨rfl, rfl, rfl, by decide +kernel, rfl, by decide +kernel, by decide +kernel⟩
theorem ok_Leastu_initu {kws : List (Str × V)} (T : Kn K mg ca) (L : Lv P w K mg base ca wf k) (FD : FunD K "__init__" "Least.__init__" (defArgs s_Leastu_initu) (defBody s_Leastu_initu) (defScope s_Leastu_initu) [] kws f fd) :
    FnOk P w K mg base CX0 (2 * k + 2) f fd p_Leastu_initu (spD K ca (runDef (G.pr wf k) d_Leastu_initu) (p_Leastu_initu).length) :=
  have S := sc_Leastu_initu
  fn_ok FD sc_Leastu_initu rfl rfl fun cdv A outer s H E hr =>
    have hr0 : Room (2 * k) _ := hr.mono (Nat.le_succ _)
    have hr1 : Room 1 _ := hr.mono (by omega)
    show PSsd ca (G.pr wf k) (cxOf CX0 P w K mg base N_Leastu_initu "Least.__init__" (defScope s_Leastu_initu) f cdv A outer s H E).nox (defBody s_Leastu_initu) b_Leastu_initu from
    (ss_cons (sd_set (pd_v 1) (tg_tup rfl (lfs_cons (lf_n 2 S.nd) (lfs_cons (lf_n 3 S.nd) (lfs_cons (lf_f 0 T.cls) lfs_nil))))) (ss_cons (sd_fld T.cls (pd_v 0) (pb_maxL rfl T.b_max (pl_cons (pd_cat (pd_lc [("weight", 4)] rfl S.nd (blkOk_by (N := N_Leastu_initu) (sc := defScope s_Leastu_initu) (by decide +kernel)) (pi_any (pd_v 3)) (fun _ _ _ _ _ => (tg_one (lf_n 4 S.nd))) (fun _ _ _ _ _ => pc_nil) (fun _ _ _ _ _ => (pb_abs T.b_abs (pl_cons (pd_v 4) pl_nil)))) (pd_lst (pl_cons (pd_bin_add (pb_abs T.b_abs (pl_cons (pd_fld T.cls (pd_v 0)) pl_nil)) pd_int) pl_nil))) pl_nil))) ss_nil))
theorem sc_Least_led : FnScope N_Least_led p_Least_led (defScope s_Least_led) := ⟨rfl, rfl, rfl, by decide +kernel, rfl, by decide +kernel, by decide +kernel⟩
theorem ok_Least_led {kws : List (Str × V)} (T : Kn K mg ca) (L : Lv P w K mg base ca wf k) (FD : FunD K "led" "Least.led" (defArgs s_Least_led) (defBody s_Least_led) (defScope s_Least_led) [] kws f fd) :
    FnOk P w K mg base CX0 (2 * k + 2) f fd p_Least_led (spD K ca (runDef (G.pr wf k) d_Least_led) (p_Least_led).length) :=
  have S := sc_Least_led
  fn_ok FD sc_Least_led rfl rfl fun cdv A outer s H E hr =>
    have hr0 : Room (2 * k) _ := hr.mono (Nat.le_succ _)
    have hr1 : Room 1 _ := hr.mono (by omega)
    show PSsd ca (G.pr wf k) (cxOf CX0 P w K mg base N_Least_led "Least.led" (defScope s_Least_led) f cdv A outer s H E).nox (defBody s_Least_led) b_Least_led from
    (ss_cons (sd_ret (pd_tup (pl_cons pd_str (pl_cons (pd_v 1) (pl_cons (pd_cmp co_ge (pd_v 1) (pd_fld T.cls (pd_v 0))) pl_nil))))) ss_nil)
theorem sc_Least_met : FnScope N_Least_met p_Least_met (defScope s_Least_met) := ⟨rfl, rfl, rfl, by decide +kernel, rfl, by decide +kernel, by decide +kernel⟩
theorem ok_Least_met {kws : List (Str × V)} (T : Kn K mg ca) (L : Lv P w K mg base ca wf k) (FD : FunD K "met" "Least.met" (defArgs s_Least_met) (defBody s_Least_met) (defScope s_Least_met) [] kws f fd) :
    FnOk P w K mg base CX0 (2 * k + 2) f fd p_Least_met (spD K ca (runDef (G.pr wf k) d_Least_met) (p_Least_met).length) :=
  have S := sc_Least_met
  fn_ok FD sc_Least_met rfl rfl fun cdv A outer s H E hr =>
    have hr0 : Room (2 * k) _ := hr.mono (Nat.le_succ _)
    have hr1 : Room 1 _ := hr.mono (by omega)
    show PSsd ca (G.pr wf k) (cxOf CX0 P w K mg base N_Least_met "Least.met" (defScope s_Least_met) f cdv A outer s H E).nox (defBody s_Least_met) b_Least_met from
    (ss_cons (sd_if (pt_cmpD (co_nmem hr1) pd_str (pd_tup (pl_cons (pd_ix hr1 (pd_v 1) pd_int) (pl_cons (pd_ix hr1 (pd_v 2) pd_int) pl_nil)))) (ss_cons (sd_ret (pd_lst (pl_cons (pd_v 1) (pl_cons (pd_v 2) pl_nil)))) ss_nil) ss_nil) (ss_cons (sd_set (pd_bin_add (pd_ix hr1 (pd_v 1) pd_int) (pd_ix hr1 (pd_v 2) pd_int)) (tg_one (lf_n 3 S.nd))) (ss_cons (sd_set (pd_meth L.m_led hr0 (pd_v 0) (ad_c (pb_max2 rfl T.b_max (pl_cons (pd_neg (pd_fld T.cls (pd_v 0))) (pl_cons (pb_min2 rfl T.b_min (pl_cons (pd_fld T.cls (pd_v 0)) (pl_cons (pd_v 3) pl_nil))) pl_nil))) ad_0)) (tg_one (lf_n 4 S.nd))) (ss_cons (sd_set (pd_tup (pl_cons pd_str (pl_cons (pd_bin_sub (pd_v 3) (pd_ix hr1 (pd_v 4) pd_int)) (pl_cons (pd_ix hr1 (pd_v 4) pd_int) pl_nil)))) (tg_one (lf_n 5 S.nd))) (ss_cons (sd_ret (pd_ife (pt_cmpD (co_eq L.m_uequ hr) (pd_ix hr1 (pd_v 1) pd_int) pd_str) (pd_lst (pl_cons (pd_v 4) (pl_cons (pd_v 5) pl_nil))) (pd_lst (pl_cons (pd_v 5) (pl_cons (pd_v 4) pl_nil))))) ss_nil)))))
theorem sc_Restu_initu : FnScope N_Restu_initu p_Restu_initu (defScope s_Restu_initu) := ⟨rfl, rfl, rfl, by decide +kernel, rfl, by decide +kernel, by decide +kernel⟩
theorem ok_Restu_initu {kws : List (Str × V)} (T : Kn K mg ca) (L : Lv P w K mg base ca wf k) (FD : FunD K "__init__" "Rest.__init__" (defArgs s_Restu_initu) (defBody s_Restu_initu) (defScope s_Restu_initu) [] kws f fd) :
    FnOk P w K mg base CX0 (2 * k + 2) f fd p_Restu_initu (spD K ca (runDef (G.pr wf k) d_Restu_initu) (p_Restu_initu).length) :=
  have S := sc_Restu_initu
  fn_ok FD sc_Restu_initu rfl rfl fun cdv A outer s H E hr =>
    have hr0 : Room (2 * k) _ := hr.mono (Nat.le_succ _)
    have hr1 : Room 1 _ := hr.mono (by omega)
    show PSsd ca (G.pr wf k) (cxOf CX0 P w K mg base N_Restu_initu "Rest.__init__" (defScope s_Restu_initu) f cdv A outer s H E).nox (defBody s_Restu_initu) b_Restu_initu from
    (ss_cons (sd_set (pd_v 1) (tg_tup rfl (lfs_cons (lf_n 2 S.nd) (lfs_cons (lf_n 3 S.nd) (lfs_cons (lf_f 0 T.cls) (lfs_cons (lf_f 0 T.cls) lfs_nil)))))) ss_nil)
theorem sc_Rest_led : FnScope N_Rest_led p_Rest_led (defScope s_Rest_led) := ⟨rfl, rfl, rfl, by decide +kernel, rfl, by decide +kernel, by decide +kernel⟩
theorem ok_Rest_led {kws : List (Str × V)} (T : Kn K mg ca) (L : Lv P w K mg base ca wf k) (FD : FunD K "led" "Rest.led" (defArgs s_Rest_led) (defBody s_Rest_led) (defScope s_Rest_led) [] kws f fd) :
    FnOk P w K mg base CX0 (2 * k + 2) f fd p_Rest_led (spD K ca (runDef (G.pr wf k) d_Rest_led) (p_Rest_led).length) :=
  have S := sc_Rest_led
  fn_ok FD sc_Rest_led rfl rfl fun cdv A outer s H E hr =>
    have hr0 : Room (2 * k) _ := hr.mono (Nat.le_succ _)
    have hr1 : Room 1 _ := hr.mono (by omega)
    show PSsd ca (G.pr wf k) (cxOf CX0 P w K mg base N_Rest_led "Rest.led" (defScope s_Rest_led) f cdv A outer s H E).nox (defBody s_Rest_led) b_Rest_led from
    (ss_cons (sd_augN 1 S.nd au_mod (pd_fld T.cls (pd_v 0))) (ss_cons (sd_ret (pd_tup (pl_cons pd_str (pl_cons (pd_v 1) (pl_cons (pd_cmp (co_eq L.m_uequ hr) (pd_v 1) (pd_fld T.cls (pd_v 0))) pl_nil))))) ss_nil))
theorem sc_Rest_met : FnScope N_Rest_met p_Rest_met (defScope s_Rest_met) := ⟨rfl, rfl, rfl, by decide +kernel, rfl, by decide +kernel, by decide +kernel⟩
theorem ok_Rest_met {kws : List (Str × V)} (T : Kn K mg ca) (L : Lv P w K mg base ca wf k) (FD : FunD K "met" "Rest.met" (defArgs s_Rest_met) (defBody s_Rest_met) (defScope s_Rest_met) [] kws f fd) :
    FnOk P w K mg base CX0 (2 * k + 2) f fd p_Rest_met (spD K ca (runDef (G.pr wf k) d_Rest_met) (p_Rest_met).length) :=
  have S := sc_Rest_met
  fn_ok FD sc_Rest_met rfl rfl fun cdv A outer s H E hr =>
    have hr0 : Room (2 * k) _ := hr.mono (Nat.le_succ _)
    have hr1 : Room 1 _ := hr.mono (by omega)
    show PSsd ca (G.pr wf k) (cxOf CX0 P w K mg base N_Rest_met "Rest.met" (defScope s_Rest_met) f cdv A outer s H E).nox (defBody s_Rest_met) b_Rest_met from
    (ss_cons (sd_if (pt_cmpD (co_nmem hr1) pd_str (pd_tup (pl_cons (pd_ix hr1 (pd_v 1) pd_int) (pl_cons (pd_ix hr1 (pd_v 2) pd_int) pl_nil)))) (ss_cons (sd_ret (pd_lst (pl_cons (pd_v 1) (pl_cons (pd_v 2) pl_nil)))) ss_nil) ss_nil) (ss_cons (sd_set (pd_meth L.m_led hr0 (pd_v 0) (ad_c (pd_bin_add (pd_ix hr1 (pd_v 1) pd_int) (pd_ix hr1 (pd_v 2) pd_int)) ad_0)) (tg_one (lf_n 3 S.nd))) (ss_cons (sd_set (pd_tup (pl_cons pd_str (pl_cons pd_int (pl_cons (pd_ix hr1 (pd_v 3) pd_int) pl_nil)))) (tg_one (lf_n 4 S.nd))) (ss_cons (sd_ret (pd_ife (pt_cmpD (co_eq L.m_uequ hr) (pd_ix hr1 (pd_v 1) pd_int) pd_str) (pd_lst (pl_cons (pd_v 3) (pl_cons (pd_v 4) pl_nil))) (pd_lst (pl_cons (pd_v 4) (pl_cons (pd_v 3) pl_nil))))) ss_nil))))
theorem sc_made_of : FnScope N_made_of p_made_of (defScope s_made_of) := ⟨rfl, rfl, rfl, by decide +kernel, rfl, by decide +kernel, by decide +kernel⟩
theorem ok_made_of {kws : List (Str × V)} (T : Kn K mg ca) (L : Lv P w K mg base ca wf k) (FD : FunD K "made_of" "made_of" (defArgs s_made_of) (defBody s_made_of) (defScope s_made_of) [] kws f fd) :
    FnOk P w K mg base CX0 (2 * k + 2) f fd p_made_of (spD K ca (runDef (G.pr wf k) d_made_of) (p_made_of).length) :=
  have S := sc_made_of
  fn_ok FD sc_made_of rfl rfl fun cdv A outer s H E hr =>
    have hr0 : Room (2 * k) _ := hr.mono (Nat.le_succ _)
    have hr1 : Room 1 _ := hr.mono (by omega)
    show PSsd ca (G.pr wf k) (cxOf CX0 P w K mg base N_made_of "made_of" (defScope s_made_of) f cdv A outer s H E).nox (defBody s_made_of) b_made_of from
    (ss_cons (sd_set (pd_ife (pt_cmpD (co_eq L.m_uequ hr) (pd_ix hr1 (pd_v 0) pd_int) pd_str) (pd_make L.k_Least hr (ad_c (pd_v 0) ad_0)) (pd_make L.k_Rest hr (ad_c (pd_v 0) ad_0))) (tg_one (lf_n 1 S.nd))) (ss_cons (sd_ret (pd_tup (pl_cons (pd_v 1) (pl_cons (pd_lc [("weight", 2)] rfl S.nd (blkOk_by (N := N_made_of) (sc := defScope s_made_of) (by decide +kernel)) (pi_any (pd_ix hr1 (pd_v 0) pd_int)) (fun _ _ _ _ _ => (tg_one (lf_n 2 S.nd))) (fun _ _ _ _ _ => pc_nil) (fun _ _ _ _ _ => (pd_meth L.m_led hr0 (pd_v 1) (ad_c (pd_v 2) ad_0)))) pl_nil)))) ss_nil))
theorem sc_many_of : FnScope N_many_of p_many_of (defScope s_many_of) := ⟨rfl, rfl, rfl, by decide +kernel, rfl, by decide +kernel, by decide +kernel⟩
theorem ok_many_of {kws : List (Str × V)} (T : Kn K mg ca) (L : Lv P w K mg base ca wf k) (FD : FunD K "many_of" "many_of" (defArgs s_many_of) (defBody s_many_of) (defScope s_many_of) [] kws f fd) :
    FnOk P w K mg base CX0 (2 * k + 2) f fd p_many_of (spD K ca (runDef (G.pr wf k) d_many_of) (p_many_of).length) :=
  have S := sc_many_of
  fn_ok FD sc_many_of rfl rfl fun cdv A outer s H E hr =>
    have hr0 : Room (2 * k) _ := hr.mono (Nat.le_succ _)
    have hr1 : Room 1 _ := hr.mono (by omega)
    show PSsd ca (G.pr wf k) (cxOf CX0 P w K mg base N_many_of "many_of" (defScope s_many_of) f cdv A outer s H E).nox (defBody s_many_of) b_many_of from
    (ss_cons (sd_whl PassesOwn.never (pt_cmpD (co_nmem hr1) (pd_ix hr1 (pd_v 0) pd_int) (pd_tup (pl_cons pd_str (pl_cons pd_str pl_nil)))) (ss_cons (sd_set (pd_ix hr1 (pd_v 0) pd_int) (tg_one (lf_n 0 S.nd))) ss_nil)) (ss_cons (sd_ret (pb_len T.b_len (pl_cons (pd_ix hr1 (pd_v 0) pd_int) pl_nil))) ss_nil))
theorem sc_atoms_of : FnScope N_atoms_of p_atoms_of (defScope s_atoms_of) := ⟨rfl, rfl, rfl, by decide +kernel, rfl, by decide +kernel, by decide +kernel⟩
theorem ok_atoms_of {kws : List (Str × V)} (T : Kn K mg ca) (L : Lv P w K mg base ca wf k) (FD : FunD K "atoms_of" "atoms_of" (defArgs s_atoms_of) (defBody s_atoms_of) (defScope s_atoms_of) [] kws f fd) :
    FnOk P w K mg base CX0 (2 * k + 2) f fd p_atoms_of (spD K ca (runDef (G.pr wf k) d_atoms_of) (p_atoms_of).length) :=
  have S := sc_atoms_of
  fn_ok FD sc_atoms_of rfl rfl fun cdv A outer s H E hr =>
    have hr0 : Room (2 * k) _ := hr.mono (Nat.le_succ _)
    have hr1 : Room 1 _ := hr.mono (by omega)
    show PSsd ca (G.pr wf k) (cxOf CX0 P w K mg base N_atoms_of "atoms_of" (defScope s_atoms_of) f cdv A outer s H E).nox (defBody s_atoms_of) b_atoms_of from
    (ss_cons (sd_if (pt_cmpD (co_mem hr1) (pd_ix hr1 (pd_v 0) pd_int) (pd_tup (pl_cons pd_str (pl_cons pd_str pl_nil)))) (ss_cons (sd_ret (pd_lst (pl_cons (pd_v 0) pl_nil))) ss_nil) ss_nil) (ss_cons (sd_ret (pd_lc2 [("part", 1), ("one", 2)] rfl S.nd (blkOk_by (N := N_atoms_of) (sc := defScope s_atoms_of) (by decide +kernel)) (pi_any (pd_sl (pd_v 0) (pp_some pd_int) pp_no)) (fun _ _ _ _ _ => (tg_one (lf_n 1 S.nd))) (fun _ _ _ _ _ => pc_nil) (fun _ _ _ _ _ => (pi_any (pd_call L.f_atoms_of hr0 (ad_c (pd_v 1) ad_0)))) (fun _ _ _ _ _ => (tg_one (lf_n 2 S.nd))) (fun _ _ _ _ _ => pc_nil) (fun _ _ _ _ _ => (pd_v 2)))) ss_nil))
theorem sc_truth_of : FnScope N_truth_of p_truth_of (defScope s_truth_of) := ⟨rfl, rfl, rfl, by decide +kernel, rfl, by decide +kernel, by decide +kernel⟩
theorem ok_truth_of {kws : List (Str × V)} (T : Kn K mg ca) (L : Lv P w K mg base ca wf k) (FD : FunD K "truth_of" "truth_of" (defArgs s_truth_of) (defBody s_truth_of) (defScope s_truth_of) [] kws f fd) :
    FnOk P w K mg base CX0 (2 * k + 2) f fd p_truth_of (spD K ca (runDef (G.pr wf k) d_truth_of) (p_truth_of).length) :=
  have S := sc_truth_of
  fn_ok FD sc_truth_of rfl rfl fun cdv A outer s H E hr =>
    have hr0 : Room (2 * k) _ := hr.mono (Nat.le_succ _)
    have hr1 : Room 1 _ := hr.mono (by omega)
    show PSsd ca (G.pr wf k) (cxOf CX0 P w K mg base N_truth_of "truth_of" (defScope s_truth_of) f cdv A outer s H E).nox (defBody s_truth_of) b_truth_of from
    (ss_cons (sd_set (pd_v 0) (tg_star 1 0 rfl (lfs_cons (lf_n 2 S.nd) (lfs_star (lf_n 3 S.nd) lfs_nil)))) (ss_cons (sd_if (pt_cmpD (co_mem hr1) (pd_v 2) (pd_tup (pl_cons pd_str (pl_cons pd_str pl_nil)))) (ss_cons (sd_ret (pm_pop0 (pd_v 1) (pl_cons pd_int pl_nil))) ss_nil) ss_nil) (ss_cons (sd_setLc [("one", 5)] rfl S.nd rfl rfl (sw_true rfl rfl rfl rfl) (blkOk_by (N := N_truth_of) (sc := defScope s_truth_of) (by decide +kernel)) (pi_any (pd_v 3)) (fun _ _ _ _ _ => (tg_one (lf_n 5 S.nd))) (fun _ _ _ _ _ => pc_nil) (fun _ _ _ _ _ => (pd_call L.f_truth_of hr0 (ad_c (pd_v 5) (ad_c (pd_v 1) ad_0))))) (ss_cons (sd_if (pt_cmpD (co_eq L.m_uequ hr) (pd_v 2) pd_str) (ss_cons (sd_ret (pd_not (pd_ix hr1 (pd_v 4) pd_int))) ss_nil) ss_nil) (ss_cons (sd_ret (pd_ife (pt_cmpD (co_eq L.m_uequ hr) (pd_v 2) pd_str) (pb_all rfl T.b_all (pl_cons (pd_v 4) pl_nil)) (pb_any rfl T.b_any (pl_cons (pd_v 4) pl_nil)))) ss_nil)))))
theorem sc_pairs_of_folk : FnScope N_pairs_of_folk p_pairs_of_folk (defScope s_pairs_of_folk) := ⟨rfl, rfl, rfl, by decide +kernel, rfl, by decide +kernel, by decide +kernel⟩
theorem ok_pairs_of_folk {kws : List (Str × V)} (T : Kn K mg ca) (L : Lv P w K mg base ca wf k) (FD : FunD K "pairs_of_folk" "pairs_of_folk" (defArgs s_pairs_of_folk) (defBody s_pairs_of_folk) (defScope s_pairs_of_folk) [] kws f fd) :
    FnOk P w K mg base CX0 (2 * k + 2) f fd p_pairs_of_folk (spD K ca (runDef (G.pr wf k) d_pairs_of_folk) (p_pairs_of_folk).length) :=
  have S := sc_pairs_of_folk
  fn_ok FD sc_pairs_of_folk rfl rfl fun cdv A outer s H E hr =>
    have hr0 : Room (2 * k) _ := hr.mono (Nat.le_succ _)
    have hr1 : Room 1 _ := hr.mono (by omega)
    show PSsd ca (G.pr wf k) (cxOf CX0 P w K mg base N_pairs_of_folk "pairs_of_folk" (defScope s_pairs_of_folk) f cdv A outer s H E).nox (defBody s_pairs_of_folk) b_pairs_of_folk from
    (ss_cons (sd_setLc2 [("one", 3), ("other", 4)] rfl S.nd rfl rfl (sw_true rfl rfl rfl rfl) (blkOk_by (N := N_pairs_of_folk) (sc := defScope s_pairs_of_folk) (by decide +kernel)) (pi_rng1 rfl T.b_range (pl_cons (pd_v 0) pl_nil)) (fun _ _ _ _ _ => (tg_one (lf_n 3 S.nd))) (fun _ _ _ _ _ => pc_nil) (fun _ _ _ _ _ => (pi_rng2 rfl T.b_range (pl_cons (pd_bin_add (pd_v 3) pd_int) (pl_cons (pd_v 0) pl_nil)))) (fun _ _ _ _ _ => (tg_one (lf_n 4 S.nd))) (fun _ _ _ _ _ => pc_nil) (fun _ _ _ _ _ => (pd_tup (pl_cons (pd_v 3) (pl_cons (pd_v 4) pl_nil))))) (ss_cons (sd_ret (pd_ife (pt_tru (pd_v 1)) (pd_lc [("one", 3), ("other", 4)] rfl S.nd (blkOk_by (N := N_pairs_of_folk) (sc := defScope s_pairs_of_folk) (by decide +kernel)) (pi_any (pd_rev (pd_v 2))) (fun _ _ _ _ _ => (tg_tup rfl (lfs_cons (lf_n 3 S.nd) (lfs_cons (lf_n 4 S.nd) lfs_nil)))) (fun _ _ _ _ _ => pc_nil) (fun _ _ _ _ _ => (pd_tup (pl_cons (pd_v 4) (pl_cons (pd_v 3) pl_nil))))) (pd_v 2))) ss_nil))
theorem sc_Throngu_initu : FnScope N_Throngu_initu p_Throngu_initu (defScope s_Throngu_initu) := ⟨rfl, rfl, rfl, by decide +kernel, rfl, by decide +kernel, by decide +kernel⟩
theorem ok_Throngu_initu {kws : List (Str × V)} (T : Kn K mg ca) (L : Lv P w K mg base ca wf k) (FD : FunD K "__init__" "Throng.__init__" (defArgs s_Throngu_initu) (defBody s_Throngu_initu) (defScope s_Throngu_initu) [] kws f fd) :
    FnOk P w K mg base CX0 (2 * k + 2) f fd p_Throngu_initu (spD K ca (runDef (G.pr wf k) d_Throngu_initu) (p_Throngu_initu).length) :=
  have S := sc_Throngu_initu
  fn_ok FD sc_Throngu_initu rfl rfl fun cdv A outer s H E hr =>
    have hr0 : Room (2 * k) _ := hr.mono (Nat.le_succ _)
    have hr1 : Room 1 _ := hr.mono (by omega)
    show PSsd ca (G.pr wf k) (cxOf CX0 P w K mg base N_Throngu_initu "Throng.__init__" (defScope s_Throngu_initu) f cdv A outer s H E).nox (defBody s_Throngu_initu) b_Throngu_initu from
    (ss_cons (sd_fld T.cls (pd_v 0) (pd_v 1)) (ss_cons (sd_fld T.cls (pd_v 0) (pd_lc [("atom", 2)] rfl S.nd (blkOk_by (N := N_Throngu_initu) (sc := defScope s_Throngu_initu) (by decide +kernel)) (pi_any (pd_call L.f_atoms_of hr0 (ad_c (pd_v 1) ad_0))) (fun _ _ _ _ _ => (tg_one (lf_n 2 S.nd))) (fun _ _ _ _ _ => pc_nil) (fun _ _ _ _ _ => (pd_call L.f_made_of hr0 (ad_c (pd_v 2) ad_0))))) (ss_cons (sd_fld T.cls (pd_v 0) (pd_lst pl_nil)) (ss_cons (sd_fld T.cls (pd_v 0) (pd_dc [("word", 3)] rfl S.nd (blkOk_by (N := N_Throngu_initu) (sc := defScope s_Throngu_initu) (by decide +kernel)) (pi_any (pd_sl (pd_gx T.g_GATE_WORDS) pp_no (pp_some (pd_call L.f_many_of hr0 (ad_c (pd_v 1) ad_0))))) (fun _ _ _ _ _ => (tg_one (lf_n 3 S.nd))) (fun _ _ _ _ _ => pc_nil) (fun _ _ _ _ _ => (pd_v 3)) (fun _ _ _ _ _ => pd_int))) (ss_cons (sd_fld T.cls (pd_v 0) (pd_lst pl_nil)) ss_nil)))))
theorem sc_Throngu_equ : FnScope N_Throngu_equ p_Throngu_equ (defScope s_Throngu_equ) := ⟨rfl, rfl, rfl, by decide +kernel, rfl, by decide +kernel, by decide +kernel⟩
theorem ok_Throngu_equ {kws : List (Str × V)} (T : Kn K mg ca) (L : Lv P w K mg base ca wf k) (FD : FunD K "__eq__" "Throng.__eq__" (defArgs s_Throngu_equ) (defBody s_Throngu_equ) (defScope s_Throngu_equ) [] kws f fd) :
    FnOk P w K mg base CX0 (2 * k + 2) f fd p_Throngu_equ (spD K ca (runDef (G.pr wf k) d_Throngu_equ) (p_Throngu_equ).length) :=
  have S := sc_Throngu_equ
  fn_ok FD sc_Throngu_equ rfl rfl fun cdv A outer s H E hr =>
    have hr0 : Room (2 * k) _ := hr.mono (Nat.le_succ _)
    have hr1 : Room 1 _ := hr.mono (by omega)
    show PSsd ca (G.pr wf k) (cxOf CX0 P w K mg base N_Throngu_equ "Throng.__eq__" (defScope s_Throngu_equ) f cdv A outer s H E).nox (defBody s_Throngu_equ) b_Throngu_equ from
    (ss_cons (sd_if (pt_w (pw_or2 (pt_notD (pt_tru (pd_isx T.b_isinstance T.isi_Throng (pd_v 1)))) (pw_or2 (pt_cmpD (co_ne T.ne L.m_uequ hr) (pd_fld T.cls (pd_v 0)) (pd_fld T.cls (pd_v 1))) (pw_or1D (pt_cmpD (co_ne T.ne L.m_uequ hr) (pd_fld T.cls (pd_v 0)) (pd_fld T.cls (pd_v 1))))))) (ss_cons (sd_ret pd_bl) ss_nil) ss_nil) (ss_cons (sd_ret (pd_cmp (co_eq L.m_uequ hr) (pd_meth0_0 L.m_words hr0 (pd_v 0) ) (pd_meth0_0 L.m_words hr0 (pd_v 1) ))) ss_nil))
theorem sc_Throngu_lenu : FnScope N_Throngu_lenu p_Throngu_lenu (defScope s_Throngu_lenu) := ⟨rfl, rfl, rfl, by decide +kernel, rfl, by decide +kernel, by decide +kernel⟩
theorem ok_Throngu_lenu {kws : List (Str × V)} (T : Kn K mg ca) (L : Lv P w K mg base ca wf k) (FD : FunD K "__len__" "Throng.__len__" (defArgs s_Throngu_lenu) (defBody s_Throngu_lenu) (defScope s_Throngu_lenu) [] kws f fd) :
    FnOk P w K mg base CX0 (2 * k + 2) f fd p_Throngu_lenu (spD K ca (runDef (G.pr wf k) d_Throngu_lenu) (p_Throngu_lenu).length) :=
  have S := sc_Throngu_lenu
  fn_ok FD sc_Throngu_lenu rfl rfl fun cdv A outer s H E hr =>
    have hr0 : Room (2 * k) _ := hr.mono (Nat.le_succ _)
    have hr1 : Room 1 _ := hr.mono (by omega)
    show PSsd ca (G.pr wf k) (cxOf CX0 P w K mg base N_Throngu_lenu "Throng.__len__" (defScope s_Throngu_lenu) f cdv A outer s H E).nox (defBody s_Throngu_lenu) b_Throngu_lenu from
    (ss_cons (sd_ret (pb_len T.b_len (pl_cons (pd_fld T.cls (pd_v 0)) pl_nil))) ss_nil)
theorem sc_Throng_words : FnScope N_Throng_words p_Throng_words (defScope s_Throng_words) := ⟨rfl, rfl, rfl, by decide +kernel, rfl, by decide +kernel, by decide +kernel⟩
theorem ok_Throng_words {kws : List (Str × V)} (T : Kn K mg ca) (L : Lv P w K mg base ca wf k) (FD : FunD K "words" "Throng.words" (defArgs s_Throng_words) (defBody s_Throng_words) (defScope s_Throng_words) [] kws f fd) :
    FnOk P w K mg base CX0 (2 * k + 2) f fd p_Throng_words (spD K ca (runDef (G.pr wf k) d_Throng_words) (p_Throng_words).length) :=
  have S := sc_Throng_words
  fn_ok FD sc_Throng_words rfl rfl fun cdv A outer s H E hr =>
    have hr0 : Room (2 * k) _ := hr.mono (Nat.le_succ _)
    have hr1 : Room 1 _ := hr.mono (by omega)
    show PSsd ca (G.pr wf k) (cxOf CX0 P w K mg base N_Throng_words "Throng.words" (defScope s_Throng_words) f cdv A outer s H E).nox (defBody s_Throng_words) b_Throng_words from
    (ss_cons (sd_ret (pd_lc [("things", 1)] rfl S.nd (blkOk_by (N := N_Throng_words) (sc := defScope s_Throng_words) (by decide +kernel)) (pi_any (pd_fld T.cls (pd_v 0))) (fun _ _ _ _ _ => (tg_one (lf_n 1 S.nd))) (fun _ _ _ _ _ => pc_nil) (fun _ _ _ _ _ => (pd_meth L.m_word_of_folk hr0 (pd_v 0) (ad_c (pd_v 1) ad_0))))) ss_nil)
theorem sc_Throng_word_of_folk : FnScope N_Throng_word_of_folk p_Throng_word_of_folk (defScope s_Throng_word_of_folk) := ⟨rfl, rfl, rfl, by decide +kernel, rfl, by decide +kernel, by decide +kernel⟩
theorem ok_Throng_word_of_folk {kws : List (Str × V)} (T : Kn K mg ca) (L : Lv P w K mg base ca wf k) (FD : FunD K "word_of_folk" "Throng.word_of_folk" (defArgs s_Throng_word_of_folk) (defBody s_Throng_word_of_folk) (defScope s_Throng_word_of_folk) [] kws f fd) :
    FnOk P w K mg base CX0 (2 * k + 2) f fd p_Throng_word_of_folk (spD K ca (runDef (G.pr wf k) d_Throng_word_of_folk) (p_Throng_word_of_folk).length) :=
  have S := sc_Throng_word_of_folk
  fn_ok FD sc_Throng_word_of_folk rfl rfl fun cdv A outer s H E hr =>
    have hr0 : Room (2 * k) _ := hr.mono (Nat.le_succ _)
    have hr1 : Room 1 _ := hr.mono (by omega)
    show PSsd ca (G.pr wf k) (cxOf CX0 P w K mg base N_Throng_word_of_folk "Throng.word_of_folk" (defScope s_Throng_word_of_folk) f cdv A outer s H E).nox (defBody s_Throng_word_of_folk) b_Throng_word_of_folk from
    (ss_cons (sd_ret (pd_ife (pt_tru (pd_call L.f_truth_of hr0 (ad_c (pd_fld T.cls (pd_v 0)) (ad_c (pd_lc [("thing", 2)] rfl S.nd (blkOk_by (N := N_Throng_word_of_folk) (sc := defScope s_Throng_word_of_folk) (by decide +kernel)) (pi_any (pd_v 1)) (fun _ _ _ _ _ => (tg_one (lf_n 2 S.nd))) (fun _ _ _ _ _ => pc_nil) (fun _ _ _ _ _ => (pd_ix hr1 (pd_v 2) pd_int))) ad_0)))) pd_str pd_str)) ss_nil)
theorem sc_Throng_come : FnScope N_Throng_come p_Throng_come (defScope s_Throng_come) := ⟨rfl, rfl, rfl, by decide +kernel, rfl, by decide +kernel, by decide +kernel⟩
theorem ok_Throng_come {kws : List (Str × V)} (T : Kn K mg ca) (L : Lv P w K mg base ca wf k) (FD : FunD K "come" "Throng.come" (defArgs s_Throng_come) (defBody s_Throng_come) (defScope s_Throng_come) [] kws f fd) :
    FnOk P w K mg base CX0 (2 * k + 2) f fd p_Throng_come (spD K ca (runDef (G.pr wf k) d_Throng_come) (p_Throng_come).length) :=
  have S := sc_Throng_come
  fn_ok FD sc_Throng_come rfl rfl fun cdv A outer s H E hr =>
    have hr0 : Room (2 * k) _ := hr.mono (Nat.le_succ _)
    have hr1 : Room 1 _ := hr.mono (by omega)
    show PSsd ca (G.pr wf k) (cxOf CX0 P w K mg base N_Throng_come "Throng.come" (defScope s_Throng_come) f cdv A outer s H E).nox (defBody s_Throng_come) b_Throng_come from
    (ss_cons (sd_if (pt_cmpD (co_nmem hr1) (pd_v 1) (pd_fld T.cls (pd_v 0))) (ss_cons sd_never ss_nil) ss_nil) (ss_cons (sd_set (pm_index (pb_listK rfl T.b_list (pl_cons (pd_fld T.cls (pd_v 0)) pl_nil)) (pl_cons (pd_v 1) pl_nil)) (tg_one (lf_n 3 S.nd))) (ss_cons (sd_set (pb_len T.b_len (pl_cons (pd_fld T.cls (pd_v 0)) pl_nil)) (tg_one (lf_n 4 S.nd))) (ss_cons (sd_for PassesOwn.never rfl (pi_rng1 rfl T.b_range (pl_cons (pd_v 2) pl_nil)) (tg_one (lf_n 5 S.nd)) (ss_cons (sd_ex (pm_append (pd_fld T.cls (pd_v 0)) (pl_cons (pd_lc [("kind", 6), ("begins", 7)] rfl S.nd (blkOk_by (N := N_Throng_come) (sc := defScope s_Throng_come) (by decide +kernel)) (pi_any (pd_fld T.cls (pd_v 0))) (fun _ _ _ _ _ => (tg_tup rfl (lfs_cons (lf_n 6 S.nd) (lfs_cons (lf_n 7 S.nd) lfs_nil)))) (fun _ _ _ _ _ => pc_nil) (fun _ _ _ _ _ => (pd_ix hr1 (pd_v 7) (pd_v 3)))) pl_nil))) ss_nil)) (ss_cons (sd_augIx hr au_add (pd_fld T.cls (pd_v 0)) (pd_v 1) (pd_v 2)) (ss_cons (sd_ret (pb_listR rfl T.b_list T.b_range (pd_v 4) (pb_len T.b_len (pl_cons (pd_fld T.cls (pd_v 0)) pl_nil)))) ss_nil))))))
theorem sc_Throng_need_folk : FnScope N_Throng_need_folk p_Throng_need_folk (defScope s_Throng_need_folk) := ⟨rfl, rfl, rfl, by decide +kernel, rfl, by decide +kernel, by decide +kernel⟩
theorem ok_Throng_need_folk {kws : List (Str × V)} (T : Kn K mg ca) (L : Lv P w K mg base ca wf k) (FD : FunD K "need_folk" "Throng.need_folk" (defArgs s_Throng_need_folk) (defBody s_Throng_need_folk) (defScope s_Throng_need_folk) [] kws f fd) :
    FnOk P w K mg base CX0 (2 * k + 2) f fd p_Throng_need_folk (spD K ca (runDef (G.pr wf k) d_Throng_need_folk) (p_Throng_need_folk).length) :=
  have S := sc_Throng_need_folk
  fn_ok FD sc_Throng_need_folk rfl rfl fun cdv A outer s H E hr =>
    have hr0 : Room (2 * k) _ := hr.mono (Nat.le_succ _)
    have hr1 : Room 1 _ := hr.mono (by omega)
    show PSsd ca (G.pr wf k) (cxOf CX0 P w K mg base N_Throng_need_folk "Throng.need_folk" (defScope s_Throng_need_folk) f cdv A outer s H E).nox (defBody s_Throng_need_folk) b_Throng_need_folk from
    (ss_cons (sd_if (pt_notD (pt_chnD co_le co_lt pd_int (pd_v 1) (pb_len T.b_len (pl_cons (pd_fld T.cls (pd_v 0)) pl_nil)))) (ss_cons sd_never ss_nil) ss_nil) ss_nil)
theorem sc_Throng_changed : FnScope N_Throng_changed p_Throng_changed (defScope s_Throng_changed) := ⟨rfl, rfl, rfl, by decide +kernel, rfl, by decide +kernel, by decide +kernel⟩
theorem ok_Throng_changed {kws : List (Str × V)} (T : Kn K mg ca) (L : Lv P w K mg base ca wf k) (FD : FunD K "changed" "Throng.changed" (defArgs s_Throng_changed) (defBody s_Throng_changed) (defScope s_Throng_changed) [] kws f fd) :
    FnOk P w K mg base CX0 (2 * k + 2) f fd p_Throng_changed (spD K ca (runDef (G.pr wf k) d_Throng_changed) (p_Throng_changed).length) :=
  have S := sc_Throng_changed
  fn_ok FD sc_Throng_changed rfl rfl fun cdv A outer s H E hr =>
    have hr0 : Room (2 * k) _ := hr.mono (Nat.le_succ _)
    have hr1 : Room 1 _ := hr.mono (by omega)
    show PSsd ca (G.pr wf k) (cxOf CX0 P w K mg base N_Throng_changed "Throng.changed" (defScope s_Throng_changed) f cdv A outer s H E).nox (defBody s_Throng_changed) b_Throng_changed from
    (ss_cons (sd_set (pd_tup (pl_cons (pd_ix hr1 (pd_fld T.cls (pd_v 0)) (pd_v 1)) (pl_cons (pd_ix hr1 (pd_fld T.cls (pd_v 0)) (pd_v 2)) pl_nil))) (tg_one (lf_n 3 S.nd))) (ss_cons (sd_setLc [("kind", 5), ("begins", 6)] rfl S.nd rfl rfl (sw_true rfl rfl rfl rfl) (blkOk_by (N := N_Throng_changed) (sc := defScope s_Throng_changed) (by decide +kernel)) (pi_any (pd_fld T.cls (pd_v 0))) (fun _ _ _ _ _ => (tg_tup rfl (lfs_cons (lf_n 5 S.nd) (lfs_cons (lf_n 6 S.nd) lfs_nil)))) (fun _ _ _ _ _ => pc_nil) (fun _ _ _ _ _ => (pd_v 5))) (ss_cons (sd_setLc [("kind", 5), ("first", 8), ("second", 9)] rfl S.nd rfl rfl (sw_true rfl rfl rfl rfl) (blkOk_by (N := N_Throng_changed) (sc := defScope s_Throng_changed) (by decide +kernel)) (pi_zip3 T.b_zip (pl_cons (pd_v 4) (pl_cons (pd_ix hr1 (pd_v 3) pd_int) (pl_cons (pd_ix hr1 (pd_v 3) pd_int) pl_nil)))) (fun _ _ _ _ _ => (tg_tup rfl (lfs_cons (lf_n 5 S.nd) (lfs_cons (lf_n 8 S.nd) (lfs_cons (lf_n 9 S.nd) lfs_nil))))) (fun _ _ _ _ _ => pc_nil) (fun _ _ _ _ _ => (pd_meth L.m_met hr0 (pd_v 5) (ad_c (pd_v 8) (ad_c (pd_v 9) ad_0))))) (ss_cons (sd_setIx hr (pd_fld T.cls (pd_v 0)) (pd_v 1) (pd_lc [("pair", 10)] rfl S.nd (blkOk_by (N := N_Throng_changed) (sc := defScope s_Throng_changed) (by decide +kernel)) (pi_any (pd_v 7)) (fun _ _ _ _ _ => (tg_one (lf_n 10 S.nd))) (fun _ _ _ _ _ => pc_nil) (fun _ _ _ _ _ => (pd_ix hr1 (pd_v 10) pd_int)))) (ss_cons (sd_setIx hr (pd_fld T.cls (pd_v 0)) (pd_v 2) (pd_lc [("pair", 10)] rfl S.nd (blkOk_by (N := N_Throng_changed) (sc := defScope s_Throng_changed) (by decide +kernel)) (pi_any (pd_v 7)) (fun _ _ _ _ _ => (tg_one (lf_n 10 S.nd))) (fun _ _ _ _ _ => pc_nil) (fun _ _ _ _ _ => (pd_ix hr1 (pd_v 10) pd_int)))) (ss_cons (sd_ret (pd_cmp (co_ne T.ne L.m_uequ hr) (pd_v 3) (pd_tup (pl_cons (pd_ix hr1 (pd_fld T.cls (pd_v 0)) (pd_v 1)) (pl_cons (pd_ix hr1 (pd_fld T.cls (pd_v 0)) (pd_v 2)) pl_nil))))) ss_nil))))))
theorem sc_Throng_meet : FnScope N_Throng_meet p_Throng_meet (defScope s_Throng_meet) := ⟨rfl, rfl, rfl, by decide +kernel, rfl, by decide +kernel, by decide +kernel⟩
theorem ok_Throng_meet {kws : List (Str × V)} (T : Kn K mg ca) (L : Lv P w K mg base ca wf k) (FD : FunD K "meet" "Throng.meet" (defArgs s_Throng_meet) (defBody s_Throng_meet) (defScope s_Throng_meet) [] kws f fd) :
    FnOk P w K mg base CX0 (2 * k + 2) f fd p_Throng_meet (spD K ca (runDef (G.pr wf k) d_Throng_meet) (p_Throng_meet).length) :=
  have S := sc_Throng_meet
  fn_ok FD sc_Throng_meet rfl rfl fun cdv A outer s H E hr =>
    have hr0 : Room (2 * k) _ := hr.mono (Nat.le_succ _)
    have hr1 : Room 1 _ := hr.mono (by omega)
    show PSsd ca (G.pr wf k) (cxOf CX0 P w K mg base N_Throng_meet "Throng.meet" (defScope s_Throng_meet) f cdv A outer s H E).nox (defBody s_Throng_meet) b_Throng_meet from
    (ss_cons (sd_ex (pd_meth L.m_need_folk hr0 (pd_v 0) (ad_c (pd_v 1) ad_0))) (ss_cons (sd_ex (pd_meth L.m_need_folk hr0 (pd_v 0) (ad_c (pd_v 2) ad_0))) (ss_cons (sd_if (pt_cmpD (co_eq L.m_uequ hr) (pd_v 1) (pd_v 2)) (ss_cons sd_never ss_nil) ss_nil) (ss_cons (sd_ex (pd_meth L.m_changed hr0 (pd_v 0) (ad_c (pd_v 1) (ad_c (pd_v 2) ad_0)))) ss_nil))))
theorem sc_Throng_says : FnScope N_Throng_says p_Throng_says (defScope s_Throng_says) := ⟨rfl, rfl, rfl, by decide +kernel, rfl, by decide +kernel, by decide +kernel⟩
theorem ok_Throng_says {kws : List (Str × V)} (T : Kn K mg ca) (L : Lv P w K mg base ca wf k) (FD : FunD K "says" "Throng.says" (defArgs s_Throng_says) (defBody s_Throng_says) (defScope s_Throng_says) [] kws f fd) :
    FnOk P w K mg base CX0 (2 * k + 2) f fd p_Throng_says (spD K ca (runDef (G.pr wf k) d_Throng_says) (p_Throng_says).length) :=
  have S := sc_Throng_says
  fn_ok FD sc_Throng_says rfl rfl fun cdv A outer s H E hr =>
    have hr0 : Room (2 * k) _ := hr.mono (Nat.le_succ _)
    have hr1 : Room 1 _ := hr.mono (by omega)
    show PSsd ca (G.pr wf k) (cxOf CX0 P w K mg base N_Throng_says "Throng.says" (defScope s_Throng_says) f cdv A outer s H E).nox (defBody s_Throng_says) b_Throng_says from
    (ss_cons (sd_ex (pd_meth L.m_need_folk hr0 (pd_v 0) (ad_c (pd_v 1) ad_0))) (ss_cons (sd_ret (pd_meth L.m_word_of_folk hr0 (pd_v 0) (ad_c (pd_ix hr1 (pd_fld T.cls (pd_v 0)) (pd_v 1)) ad_0))) ss_nil))
theorem sc_Throng_said : FnScope N_Throng_said p_Throng_said (defScope s_Throng_said) := ⟨rfl, rfl, rfl, by decide +kernel, rfl, by decide +kernel, by decide +kernel⟩
theorem ok_Throng_said {kws : List (Str × V)} (T : Kn K mg ca) (L : Lv P w K mg base ca wf k) (FD : FunD K "said" "Throng.said" (defArgs s_Throng_said) (defBody s_Throng_said) (defScope s_Throng_said) [] kws f fd) :
    FnOk P w K mg base CX0 (2 * k + 2) f fd p_Throng_said (spD K ca (runDef (G.pr wf k) d_Throng_said) (p_Throng_said).length) :=
  have S := sc_Throng_said
  fn_ok FD sc_Throng_said rfl rfl fun cdv A outer s H E hr =>
    have hr0 : Room (2 * k) _ := hr.mono (Nat.le_succ _)
    have hr1 : Room 1 _ := hr.mono (by omega)
    show PSsd ca (G.pr wf k) (cxOf CX0 P w K mg base N_Throng_said "Throng.said" (defScope s_Throng_said) f cdv A outer s H E).nox (defBody s_Throng_said) b_Throng_said from
    (ss_cons (sd_set (pd_or (pd_meth0_0 L.m_words hr0 (pd_v 0) ) (pd_one (pd_lst (pl_cons pd_non pl_nil)))) (tg_star 1 0 rfl (lfs_cons (lf_n 1 S.nd) (lfs_star (lf_n 2 S.nd) lfs_nil)))) (ss_cons (sd_ret (pd_ife (pt_tru (pb_all rfl T.b_all (pl_cons (pd_lc [("one", 3)] rfl S.nd (blkOk_by (N := N_Throng_said) (sc := defScope s_Throng_said) (by decide +kernel)) (pi_any (pd_v 2)) (fun _ _ _ _ _ => (tg_one (lf_n 3 S.nd))) (fun _ _ _ _ _ => pc_nil) (fun _ _ _ _ _ => (pd_cmp (co_eq L.m_uequ hr) (pd_v 3) (pd_v 1)))) pl_nil))) (pd_v 1) pd_non)) ss_nil))
theorem sc_Throng_pour : FnScope N_Throng_pour p_Throng_pour (defScope s_Throng_pour) := ⟨rfl, rfl, rfl, by decide +kernel, rfl, by decide +kernel, by decide +kernel⟩
theorem ok_Throng_pour {kws : List (Str × V)} (T : Kn K mg ca) (L : Lv P w K mg base ca wf k) (FD : FunD K "pour" "Throng.pour" (defArgs s_Throng_pour) (defBody s_Throng_pour) (defScope s_Throng_pour) [] kws f fd) :
    FnOk P w K mg base CX0 (2 * k + 2) f fd p_Throng_pour (spD K ca (runDef (G.pr wf k) d_Throng_pour) (p_Throng_pour).length) :=
  have S := sc_Throng_pour
  fn_ok FD sc_Throng_pour rfl rfl fun cdv A outer s H E hr =>
    have hr0 : Room (2 * k) _ := hr.mono (Nat.le_succ _)
    have hr1 : Room 1 _ := hr.mono (by omega)
    show PSsd ca (G.pr wf k) (cxOf CX0 P w K mg base N_Throng_pour "Throng.pour" (defScope s_Throng_pour) f cdv A outer s H E).nox (defBody s_Throng_pour) b_Throng_pour from
    (ss_cons (sd_if (pt_cmpD (co_ne T.ne L.m_uequ hr) (pd_fld T.cls (pd_v 0)) (pd_fld T.cls (pd_v 1))) (ss_cons sd_never ss_nil) ss_nil) (ss_cons (sd_fld T.cls (pd_v 0) (pd_cat (pd_fld T.cls (pd_v 0)) (pd_lc [("things", 2)] rfl S.nd (blkOk_by (N := N_Throng_pour) (sc := defScope s_Throng_pour) (by decide +kernel)) (pi_any (pd_fld T.cls (pd_v 1))) (fun _ _ _ _ _ => (tg_one (lf_n 2 S.nd))) (fun _ _ _ _ _ => pc_nil) (fun _ _ _ _ _ => (pb_list1 T.b_list (pl_cons (pd_v 2) pl_nil)))))) (ss_cons (sd_fld T.cls (pd_v 0) (pd_dcs T.cls hr1 rfl S.nd (blkOk_by (N := N_Throng_pour) (sc := defScope s_Throng_pour) (by decide +kernel)) (pe_var rfl (by first | exact Or.inl rfl | exact Or.inr (Or.inl rfl) | exact Or.inr (Or.inr rfl))) (fun _ _ _ _ _ => pg_name S.nd rfl (by first | exact Or.inl rfl | exact Or.inr rfl)) (fun _ _ _ _ _ => (pe_var rfl (by first | exact Or.inl rfl | exact Or.inr (Or.inl rfl) | exact Or.inr (Or.inr rfl)))) (fun _ _ _ _ _ => pe_op op_add (pe_dget (hu_of hr1) (pe_fld (pe_var rfl (by first | exact Or.inl rfl | exact Or.inr (Or.inl rfl) | exact Or.inr (Or.inr rfl))) rfl) (pe_var rfl (by first | exact Or.inl rfl | exact Or.inr (Or.inl rfl) | exact Or.inr (Or.inr rfl))) (fun _ _ => rfl)) (pe_dget (hu_of hr1) (pe_fld (pe_var rfl (by first | exact Or.inl rfl | exact Or.inr (Or.inl rfl) | exact Or.inr (Or.inr rfl))) rfl) (pe_var rfl (by first | exact Or.inl rfl | exact Or.inr (Or.inl rfl) | exact Or.inr (Or.inr rfl))) (fun _ _ => rfl))) (by decide) (by decide))) ss_nil)))
theorem sc_Throng_stretch : FnScope N_Throng_stretch p_Throng_stretch (defScope s_Throng_stretch) := ⟨rfl, rfl, rfl, by decide +kernel, rfl, by decide +kernel, by decide +kernel⟩
theorem ok_Throng_stretch {kws : List (Str × V)} (T : Kn K mg ca) (L : Lv P w K mg base ca wf k) (FD : FunD K "stretch" "Throng.stretch" (defArgs s_Throng_stretch) (defBody s_Throng_stretch) (defScope s_Throng_stretch) [] kws f fd) :
    FnOk P w K mg base CX0 (2 * k + 2) f fd p_Throng_stretch (spD K ca (runDef (G.pr wf k) d_Throng_stretch) (p_Throng_stretch).length) :=
  have S := sc_Throng_stretch
  fn_ok FD sc_Throng_stretch rfl rfl fun cdv A outer s H E hr =>
    have hr0 : Room (2 * k) _ := hr.mono (Nat.le_succ _)
    have hr1 : Room 1 _ := hr.mono (by omega)
    show PSsd ca (G.pr wf k) (cxOf CX0 P w K mg base N_Throng_stretch "Throng.stretch" (defScope s_Throng_stretch) f cdv A outer s H E).nox (defBody s_Throng_stretch) b_Throng_stretch from
    (ss_cons (sd_ret (pb_sum rfl T.b_sum (pl_cons (pd_lc [("one", 2), ("other", 3)] rfl S.nd (blkOk_by (N := N_Throng_stretch) (sc := defScope s_Throng_stretch) (by decide +kernel)) (pi_any (pd_callK L.f_pairs_of_folk hr0 (ag_c (pb_len T.b_len (pl_cons (pd_fld T.cls (pd_v 0)) pl_nil)) (ag_n (kw_c (pd_v 1) kw_0))))) (fun _ _ _ _ _ => (tg_tup rfl (lfs_cons (lf_n 2 S.nd) (lfs_cons (lf_n 3 S.nd) lfs_nil)))) (fun _ _ _ _ _ => pc_nil) (fun _ _ _ _ _ => (pb_int1 T.b_int (pl_cons (pd_meth L.m_changed hr0 (pd_v 0) (ad_c (pd_v 2) (ad_c (pd_v 3) ad_0))) pl_nil)))) pl_nil))) ss_nil)
theorem sc_Throng_mark : FnScope N_Throng_mark p_Throng_mark (defScope s_Throng_mark) := ⟨rfl, rfl, rfl, by decide +kernel, rfl, by decide +kernel, by decide +kernel⟩
theorem ok_Throng_mark {kws : List (Str × V)} (T : Kn K mg ca) (L : Lv P w K mg base ca wf k) (FD : FunD K "mark" "Throng.mark" (defArgs s_Throng_mark) (defBody s_Throng_mark) (defScope s_Throng_mark) [] kws f fd) :
    FnOk P w K mg base CX0 (2 * k + 2) f fd p_Throng_mark (spD K ca (runDef (G.pr wf k) d_Throng_mark) (p_Throng_mark).length) :=
  have S := sc_Throng_mark
  fn_ok FD sc_Throng_mark rfl rfl fun cdv A outer s H E hr =>
    have hr0 : Room (2 * k) _ := hr.mono (Nat.le_succ _)
    have hr1 : Room 1 _ := hr.mono (by omega)
    show PSsd ca (G.pr wf k) (cxOf CX0 P w K mg base N_Throng_mark "Throng.mark" (defScope s_Throng_mark) f cdv A outer s H E).nox (defBody s_Throng_mark) b_Throng_mark from
    (ss_cons (sd_ex (pm_append (pd_fld T.cls (pd_v 0)) (pl_cons (pd_tup (pl_cons (pd_lc [("things", 1)] rfl S.nd (blkOk_by (N := N_Throng_mark) (sc := defScope s_Throng_mark) (by decide +kernel)) (pi_any (pd_fld T.cls (pd_v 0))) (fun _ _ _ _ _ => (tg_one (lf_n 1 S.nd))) (fun _ _ _ _ _ => pc_nil) (fun _ _ _ _ _ => (pb_list1 T.b_list (pl_cons (pd_v 1) pl_nil)))) (pl_cons (pb_dict1 T.b_dict (pl_cons (pd_fld T.cls (pd_v 0)) pl_nil)) pl_nil))) pl_nil))) (ss_cons (sd_ret (pd_bin_sub (pb_len T.b_len (pl_cons (pd_fld T.cls (pd_v 0)) pl_nil)) pd_int)) ss_nil))
theorem sc_Throng_back : FnScope N_Throng_back p_Throng_back (defScope s_Throng_back) := ⟨rfl, rfl, rfl, by decide +kernel, rfl, by decide +kernel, by decide +kernel⟩
theorem ok_Throng_back {kws : List (Str × V)} (T : Kn K mg ca) (L : Lv P w K mg base ca wf k) (FD : FunD K "back" "Throng.back" (defArgs s_Throng_back) (defBody s_Throng_back) (defScope s_Throng_back) [] kws f fd) :
    FnOk P w K mg base CX0 (2 * k + 2) f fd p_Throng_back (spD K ca (runDef (G.pr wf k) d_Throng_back) (p_Throng_back).length) :=
  have S := sc_Throng_back
  fn_ok FD sc_Throng_back rfl rfl fun cdv A outer s H E hr =>
    have hr0 : Room (2 * k) _ := hr.mono (Nat.le_succ _)
    have hr1 : Room 1 _ := hr.mono (by omega)
    show PSsd ca (G.pr wf k) (cxOf CX0 P w K mg base N_Throng_back "Throng.back" (defScope s_Throng_back) f cdv A outer s H E).nox (defBody s_Throng_back) b_Throng_back from
    (ss_cons (sd_if (pt_notD (pt_chnD co_le co_lt pd_int (pd_v 1) (pb_len T.b_len (pl_cons (pd_fld T.cls (pd_v 0)) pl_nil)))) (ss_cons sd_never ss_nil) ss_nil) (ss_cons (sd_set (pd_ix hr1 (pd_fld T.cls (pd_v 0)) (pd_v 1)) (tg_tup rfl (lfs_cons (lf_n 2 S.nd) (lfs_cons (lf_n 3 S.nd) lfs_nil)))) (ss_cons (sd_fld T.cls (pd_v 0) (pd_lc [("things", 4)] rfl S.nd (blkOk_by (N := N_Throng_back) (sc := defScope s_Throng_back) (by decide +kernel)) (pi_any (pd_v 2)) (fun _ _ _ _ _ => (tg_one (lf_n 4 S.nd))) (fun _ _ _ _ _ => pc_nil) (fun _ _ _ _ _ => (pb_list1 T.b_list (pl_cons (pd_v 4) pl_nil))))) (ss_cons (sd_fld T.cls (pd_v 0) (pb_dict1 T.b_dict (pl_cons (pd_v 3) pl_nil))) (ss_cons (sd_fld T.cls (pd_v 0) (pd_sl (pd_fld T.cls (pd_v 0)) pp_no (pp_some (pd_bin_add (pd_v 1) pd_int)))) ss_nil)))))
theorem sc__law_cell_at : FnScope N__law_cell_at p__law_cell_at (defScope s__law_cell_at) := ⟨rfl, rfl, rfl, by decide +kernel, rfl, by decide +kernel, by decide +kernel⟩
theorem ok__law_cell_at {kws : List (Str × V)} (T : Kn K mg ca) (L : Lv P w K mg base ca wf k) (FD : FunD K "_law_cell_at" "_law_cell_at" (defArgs s__law_cell_at) (defBody s__law_cell_at) (defScope s__law_cell_at) [] kws f fd) :
    FnOk P w K mg base CX0 (2 * k + 2) f fd p__law_cell_at (spD K ca (runDef (G.pr wf k) d__law_cell_at) (p__law_cell_at).length) :=
  have S := sc__law_cell_at
  fn_ok FD sc__law_cell_at rfl rfl fun cdv A outer s H E hr =>
    have hr0 : Room (2 * k) _ := hr.mono (Nat.le_succ _)
    have hr1 : Room 1 _ := hr.mono (by omega)
    show PSsd ca (G.pr wf k) (cxOf CX0 P w K mg base N__law_cell_at "_law_cell_at" (defScope s__law_cell_at) f cdv A outer s H E).nox (defBody s__law_cell_at) b__law_cell_at from
    (ss_cons (sd_if (pt_cmpD co_lt (pd_v 1) (pb_len T.b_len (pl_cons (pd_v 0) pl_nil))) (ss_cons (sd_ret (pd_ix hr1 (pd_v 0) (pd_v 1))) ss_nil) ss_nil) (ss_cons (sd_ret pd_int) ss_nil))
theorem sc__law_tape : FnScope N__law_tape p__law_tape (defScope s__law_tape) := ⟨rfl, rfl, rfl, by decide +kernel, rfl, by decide +kernel, by decide +kernel⟩
theorem ok__law_tape {kws : List (Str × V)} (T : Kn K mg ca) (L : Lv P w K mg base ca wf k) (FD : FunD K "_law_tape" "_law_tape" (defArgs s__law_tape) (defBody s__law_tape) (defScope s__law_tape) [] kws f fd) :
    FnOk P w K mg base CX0 (2 * k + 2) f fd p__law_tape (spD K ca (runDef (G.pr wf k) d__law_tape) (p__law_tape).length) :=
  have S := sc__law_tape
  fn_ok FD sc__law_tape rfl rfl fun cdv A outer s H E hr =>
    have hr0 : Room (2 * k) _ := hr.mono (Nat.le_succ _)
    have hr1 : Room 1 _ := hr.mono (by omega)
    show PSsd ca (G.pr wf k) (cxOf CX0 P w K mg base N__law_tape "_law_tape" (defScope s__law_tape) f cdv A outer s H E).nox (defBody s__law_tape) b__law_tape from
    (ss_cons (sd_set (pd_call L.f__law_cell_at hr0 (ad_c (pd_v 0) (ad_c (pd_v 1) ad_0))) (tg_one (lf_n 2 S.nd))) (ss_cons (sd_if (pt_cmpD (co_eq L.m_uequ hr) (pd_v 2) pd_int) (ss_cons (sd_ret (pd_lst (pl_cons pd_int pl_nil))) ss_nil) ss_nil) (ss_cons (sd_if (pt_cmpD co_ge (pd_v 2) (pd_bin_pow pd_int pd_int)) (ss_cons (sd_ret (pd_lst (pl_cons (pd_bin_sub (pd_v 2) (pd_bin_pow pd_int pd_int)) pl_nil))) ss_nil) ss_nil) (ss_cons (sd_set pd_int (tg_one (lf_n 3 S.nd))) (ss_cons (sd_set (pd_bin_mod (pd_bin_add (pd_bin_add (pd_bin_mul (pd_v 2) pd_int) (pd_bin_mul pd_int (pd_v 1))) pd_int) (pd_v 3)) (tg_one (lf_n 4 S.nd))) (ss_cons (sd_set (pd_v 4) (tg_one (lf_n 5 S.nd))) (ss_cons (sd_for PassesOwn.never rfl (pi_rng1 rfl T.b_range (pl_cons pd_int pl_nil)) (tg_one (lf_n 6 S.nd)) (ss_cons (sd_set (pd_bin_mod (pd_bin_add (pd_bin_add (pd_bin_mul (pd_v 4) (pd_v 4)) (pd_bin_mul (pd_bin_mul pd_int (pd_bin_add (pd_v 6) pd_int)) (pd_bin_add (pd_v 1) pd_int))) (pd_v 2)) (pd_v 3)) (tg_one (lf_n 4 S.nd))) (ss_cons (sd_set (pd_bin_add (pd_bin_mul (pd_v 5) (pd_v 3)) (pd_v 4)) (tg_one (lf_n 5 S.nd))) ss_nil))) (ss_cons (sd_ret (pd_lst (pl_cons (pd_v 5) pl_nil))) ss_nil))))))))
theorem sc__law_digit : FnScope N__law_digit p__law_digit (defScope s__law_digit) := ⟨rfl, rfl, rfl, by decide +kernel, rfl, by decide +kernel, by decide +kernel⟩
theorem ok__law_digit {kws : List (Str × V)} (T : Kn K mg ca) (L : Lv P w K mg base ca wf k) (FD : FunD K "_law_digit" "_law_digit" (defArgs s__law_digit) (defBody s__law_digit) (defScope s__law_digit) [] kws f fd) :
    FnOk P w K mg base CX0 (2 * k + 2) f fd p__law_digit (spD K ca (runDef (G.pr wf k) d__law_digit) (p__law_digit).length) :=
  have S := sc__law_digit
  fn_ok FD sc__law_digit rfl rfl fun cdv A outer s H E hr =>
    have hr0 : Room (2 * k) _ := hr.mono (Nat.le_succ _)
    have hr1 : Room 1 _ := hr.mono (by omega)
    show PSsd ca (G.pr wf k) (cxOf CX0 P w K mg base N__law_digit "_law_digit" (defScope s__law_digit) f cdv A outer s H E).nox (defBody s__law_digit) b__law_digit from
    (ss_cons (sd_set (pd_bin_mod (pd_ix hr1 (pd_v 0) pd_int) (pd_v 1)) (tg_one (lf_n 2 S.nd))) (ss_cons (sd_setIx hr (pd_v 0) pd_int (pd_bin_fdiv (pd_ix hr1 (pd_v 0) pd_int) (pd_v 1))) (ss_cons (sd_ret (pd_v 2)) ss_nil)))
theorem sc__law_weights : FnScope N__law_weights p__law_weights (defScope s__law_weights) := ⟨rfl, rfl, rfl, by decide +kernel, rfl, by decide +kernel, by decide +kernel⟩
theorem ok__law_weights {kws : List (Str × V)} (T : Kn K mg ca) (L : Lv P w K mg base ca wf k) (FD : FunD K "_law_weights" "_law_weights" (defArgs s__law_weights) (defBody s__law_weights) (defScope s__law_weights) [] kws f fd) :
    FnOk P w K mg base CX0 (2 * k + 2) f fd p__law_weights (spD K ca (runDef (G.pr wf k) d__law_weights) (p__law_weights).length) :=
  have S := sc__law_weights
  fn_ok FD sc__law_weights rfl rfl fun cdv A outer s H E hr =>
    have hr0 : Room (2 * k) _ := hr.mono (Nat.le_succ _)
    have hr1 : Room 1 _ := hr.mono (by omega)
    show PSsd ca (G.pr wf k) (cxOf CX0 P w K mg base N__law_weights "_law_weights" (defScope s__law_weights) f cdv A outer s H E).nox (defBody s__law_weights) b__law_weights from
    (ss_cons (sd_ret (pb_tuple1 T.b_tuple (pl_cons (pd_lc [("k", 2)] rfl S.nd (blkOk_by (N := N__law_weights) (sc := defScope s__law_weights) (by decide +kernel)) (pi_rng1 rfl T.b_range (pl_cons (pd_v 1) pl_nil)) (fun _ _ _ _ _ => (tg_one (lf_n 2 S.nd))) (fun _ _ _ _ _ => pc_nil) (fun _ _ _ _ _ => (pd_ix hr1 (pd_lst (pl_cons pd_int (pl_cons (pd_neg pd_int) (pl_cons pd_int (pl_cons pd_int (pl_cons (pd_neg pd_int) (pl_cons pd_int (pl_cons pd_int (pl_cons pd_int pl_nil))))))))) (pd_call L.f__law_digit hr0 (ad_c (pd_v 0) (ad_c pd_int ad_0)))))) pl_nil))) ss_nil)
theorem sc__law_atom : FnScope N__law_atom p__law_atom (defScope s__law_atom) := ⟨rfl, rfl, rfl, by decide +kernel, rfl, by decide +kernel, by decide +kernel⟩
theorem ok__law_atom {kws : List (Str × V)} (T : Kn K mg ca) (L : Lv P w K mg base ca wf k) (FD : FunD K "_law_atom" "_law_atom" (defArgs s__law_atom) (defBody s__law_atom) (defScope s__law_atom) [] kws f fd) :
    FnOk P w K mg base CX0 (2 * k + 2) f fd p__law_atom (spD K ca (runDef (G.pr wf k) d__law_atom) (p__law_atom).length) :=
  have S := sc__law_atom
  fn_ok FD sc__law_atom rfl rfl fun cdv A outer s H E hr =>
    have hr0 : Room (2 * k) _ := hr.mono (Nat.le_succ _)
    have hr1 : Room 1 _ := hr.mono (by omega)
    show PSsd ca (G.pr wf k) (cxOf CX0 P w K mg base N__law_atom "_law_atom" (defScope s__law_atom) f cdv A outer s H E).nox (defBody s__law_atom) b__law_atom from
    (ss_cons (sd_if (pt_cmpD (co_eq L.m_uequ hr) (pd_call L.f__law_digit hr0 (ad_c (pd_v 0) (ad_c pd_int ad_0))) pd_int) (ss_cons (sd_ret (pd_tup (pl_cons pd_str (pl_cons (pd_call L.f__law_weights hr0 (ad_c (pd_v 0) (ad_c (pd_v 1) ad_0))) (pl_cons (pd_ix hr1 (pd_lst (pl_cons pd_int (pl_cons pd_int (pl_cons pd_int (pl_cons (pd_neg pd_int) (pl_cons pd_int pl_nil)))))) (pd_call L.f__law_digit hr0 (ad_c (pd_v 0) (ad_c pd_int ad_0)))) pl_nil))))) ss_nil) ss_nil) (ss_cons (sd_set (pd_ix hr1 (pd_lst (pl_cons pd_int (pl_cons pd_int (pl_cons pd_int (pl_cons pd_int (pl_cons pd_int pl_nil)))))) (pd_call L.f__law_digit hr0 (ad_c (pd_v 0) (ad_c pd_int ad_0)))) (tg_one (lf_n 2 S.nd))) (ss_cons (sd_ret (pd_tup (pl_cons pd_str (pl_cons (pd_call L.f__law_weights hr0 (ad_c (pd_v 0) (ad_c (pd_v 1) ad_0))) (pl_cons (pd_v 2) (pl_cons (pd_call L.f__law_digit hr0 (ad_c (pd_v 0) (ad_c (pd_v 2) ad_0))) pl_nil)))))) ss_nil)))
theorem sc__law_is_so : FnScope N__law_is_so p__law_is_so (defScope s__law_is_so) := ⟨rfl, rfl, rfl, by decide +kernel, rfl, by decide +kernel, by decide +kernel⟩
theorem ok__law_is_so {kws : List (Str × V)} (T : Kn K mg ca) (L : Lv P w K mg base ca wf k) (FD : FunD K "_law_is_so" "_law_is_so" (defArgs s__law_is_so) (defBody s__law_is_so) (defScope s__law_is_so) [] kws f fd) :
    FnOk P w K mg base CX0 (2 * k + 2) f fd p__law_is_so (spD K ca (runDef (G.pr wf k) d__law_is_so) (p__law_is_so).length) :=
  have S := sc__law_is_so
  fn_ok FD sc__law_is_so rfl rfl fun cdv A outer s H E hr =>
    have hr0 : Room (2 * k) _ := hr.mono (Nat.le_succ _)
    have hr1 : Room 1 _ := hr.mono (by omega)
    show PSsd ca (G.pr wf k) (cxOf CX0 P w K mg base N__law_is_so "_law_is_so" (defScope s__law_is_so) f cdv A outer s H E).nox (defBody s__law_is_so) b__law_is_so from
    (ss_cons (sd_if (pt_cmpD (co_mem hr1) (pd_ix hr1 (pd_v 0) pd_int) (pd_tup (pl_cons pd_str (pl_cons pd_str pl_nil)))) (ss_cons (sd_set (pb_sum rfl T.b_sum (pl_cons (pd_lc [("weight", 3), ("count", 4)] rfl S.nd (blkOk_by (N := N__law_is_so) (sc := defScope s__law_is_so) (by decide +kernel)) (pi_zip2 rfl T.b_zip (pl_cons (pd_ix hr1 (pd_v 0) pd_int) (pl_cons (pd_v 1) pl_nil))) (fun _ _ _ _ _ => (tg_tup rfl (lfs_cons (lf_n 3 S.nd) (lfs_cons (lf_n 4 S.nd) lfs_nil)))) (fun _ _ _ _ _ => pc_nil) (fun _ _ _ _ _ => (pd_bin_mul (pd_v 3) (pd_v 4)))) pl_nil)) (tg_one (lf_n 2 S.nd))) (ss_cons (sd_if (pt_cmpD (co_eq L.m_uequ hr) (pd_ix hr1 (pd_v 0) pd_int) pd_str) (ss_cons (sd_ret (pd_cmp co_ge (pd_v 2) (pd_ix hr1 (pd_v 0) pd_int))) ss_nil) ss_nil) (ss_cons (sd_ret (pd_cmp (co_eq L.m_uequ hr) (pd_bin_mod (pd_v 2) (pd_ix hr1 (pd_v 0) pd_int)) (pd_ix hr1 (pd_v 0) pd_int))) ss_nil))) ss_nil) (ss_cons (sd_setLc [("one", 6)] rfl S.nd rfl rfl (sw_true rfl rfl rfl rfl) (blkOk_by (N := N__law_is_so) (sc := defScope s__law_is_so) (by decide +kernel)) (pi_any (pd_sl (pd_v 0) (pp_some pd_int) pp_no)) (fun _ _ _ _ _ => (tg_one (lf_n 6 S.nd))) (fun _ _ _ _ _ => pc_nil) (fun _ _ _ _ _ => (pd_call L.f__law_is_so hr0 (ad_c (pd_v 6) (ad_c (pd_v 1) ad_0))))) (ss_cons (sd_if (pt_cmpD (co_eq L.m_uequ hr) (pd_ix hr1 (pd_v 0) pd_int) pd_str) (ss_cons (sd_ret (pd_not (pd_ix hr1 (pd_v 5) pd_int))) ss_nil) ss_nil) (ss_cons (sd_ret (pd_ife (pt_cmpD (co_eq L.m_uequ hr) (pd_ix hr1 (pd_v 0) pd_int) pd_str) (pb_all rfl T.b_all (pl_cons (pd_v 5) pl_nil)) (pb_any rfl T.b_any (pl_cons (pd_v 5) pl_nil)))) ss_nil))))
theorem sc__law_wide_sentence : FnScope N__law_wide_sentence p__law_wide_sentence (defScope s__law_wide_sentence) := ⟨rfl, rfl, rfl, by decide +kernel, rfl, by decide +kernel, by decide +kernel⟩
theorem ok__law_wide_sentence {kws : List (Str × V)} (T : Kn K mg ca) (L : Lv P w K mg base ca wf k) (FD : FunD K "_law_wide_sentence" "_law_wide_sentence" (defArgs s__law_wide_sentence) (defBody s__law_wide_sentence) (defScope s__law_wide_sentence) [] kws f fd) :
    FnOk P w K mg base CX0 (2 * k + 2) f fd p__law_wide_sentence (spD K ca (runDef (G.pr wf k) d__law_wide_sentence) (p__law_wide_sentence).length) :=
  have S := sc__law_wide_sentence
  fn_ok FD sc__law_wide_sentence rfl rfl fun cdv A outer s H E hr =>
    have hr0 : Room (2 * k) _ := hr.mono (Nat.le_succ _)
    have hr1 : Room 1 _ := hr.mono (by omega)
    show PSsd ca (G.pr wf k) (cxOf CX0 P w K mg base N__law_wide_sentence "_law_wide_sentence" (defScope s__law_wide_sentence) f cdv A outer s H E).nox (defBody s__law_wide_sentence) b__law_wide_sentence from
    (ss_cons (sd_set (pd_call L.f__law_digit hr0 (ad_c (pd_v 0) (ad_c pd_int ad_0))) (tg_one (lf_n 4 S.nd))) (ss_cons (sd_if (pt_w (pw_or2 (pt_cmpD (co_eq L.m_uequ hr) (pd_v 2) pd_int) (pw_or1D (pt_cmpD (co_eq L.m_uequ hr) (pd_v 3) pd_int)))) (ss_cons (sd_ret (pd_call L.f__law_atom hr0 (ad_c (pd_v 0) (ad_c (pd_v 1) ad_0)))) ss_nil) ss_nil) (ss_cons (sd_if (pt_cmpD (co_eq L.m_uequ hr) (pd_v 4) pd_int) (ss_cons (sd_ret (pd_tup (pl_cons pd_str (pl_cons (pd_call L.f__law_wide_sentence hr0 (ad_c (pd_v 0) (ad_c (pd_v 1) (ad_c (pd_v 2) (ad_c (pd_bin_sub (pd_v 3) pd_int) ad_0))))) pl_nil)))) ss_nil) ss_nil) (ss_cons (sd_set (pd_bin_add pd_int (pd_call L.f__law_digit hr0 (ad_c (pd_v 0) (ad_c (pd_bin_sub (pd_v 2) pd_int) ad_0)))) (tg_one (lf_n 5 S.nd))) (ss_cons (sd_set (pd_call L.f__law_wide_sentence hr0 (ad_c (pd_v 0) (ad_c (pd_v 1) (ad_c (pd_v 5) (ad_c (pd_bin_sub (pd_v 3) pd_int) ad_0))))) (tg_one (lf_n 6 S.nd))) (ss_cons (sd_set (pd_call L.f__law_wide_sentence hr0 (ad_c (pd_v 0) (ad_c (pd_v 1) (ad_c (pd_bin_sub (pd_v 2) (pd_v 5)) (ad_c (pd_bin_sub (pd_v 3) pd_int) ad_0))))) (tg_one (lf_n 7 S.nd))) (ss_cons (sd_ret (pd_tup (pl_cons (pd_ix hr1 (pd_lst (pl_cons pd_str (pl_cons pd_str pl_nil))) (pd_bin_mod (pd_v 4) pd_int)) (pl_cons (pd_v 6) (pl_cons (pd_v 7) pl_nil))))) ss_nil)))))))
theorem sc__law_stretches : FnScope N__law_stretches p__law_stretches (defScope s__law_stretches) := ⟨rfl, rfl, rfl, by decide +kernel, rfl, by decide +kernel, by decide +kernel⟩
theorem ok__law_stretches {kws : List (Str × V)} (T : Kn K mg ca) (L : Lv P w K mg base ca wf k) (FD : FunD K "_law_stretches" "_law_stretches" (defArgs s__law_stretches) (defBody s__law_stretches) (defScope s__law_stretches) [] kws f fd) :
    FnOk P w K mg base CX0 (2 * k + 2) f fd p__law_stretches (spD K ca (runDef (G.pr wf k) d__law_stretches) (p__law_stretches).length) :=
  have S := sc__law_stretches
  fn_ok FD sc__law_stretches rfl rfl fun cdv A outer s H E hr =>
    have hr0 : Room (2 * k) _ := hr.mono (Nat.le_succ _)
    have hr1 : Room 1 _ := hr.mono (by omega)
    show PSsd ca (G.pr wf k) (cxOf CX0 P w K mg base N__law_stretches "_law_stretches" (defScope s__law_stretches) f cdv A outer s H E).nox (defBody s__law_stretches) b__law_stretches from
    (ss_cons (sd_if (pt_cmpD (co_eq L.m_uequ hr) (pd_ix hr1 (pd_v 0) pd_int) pd_str) (ss_cons (sd_set (pb_maxL rfl T.b_max (pl_cons (pd_cat (pd_lc [("weight", 3)] rfl S.nd (blkOk_by (N := N__law_stretches) (sc := defScope s__law_stretches) (by decide +kernel)) (pi_any (pd_ix hr1 (pd_v 0) pd_int)) (fun _ _ _ _ _ => (tg_one (lf_n 3 S.nd))) (fun _ _ _ _ _ => pc_nil) (fun _ _ _ _ _ => (pb_abs T.b_abs (pl_cons (pd_v 3) pl_nil)))) (pd_lst (pl_cons (pd_bin_add (pb_abs T.b_abs (pl_cons (pd_ix hr1 (pd_v 0) pd_int) pl_nil)) pd_int) pl_nil))) pl_nil)) (tg_one (lf_n 2 S.nd))) (ss_cons (sd_ret (pd_bin_add (pd_bin_mul (pd_bin_mul pd_int (pd_v 2)) (pd_v 1)) pd_int)) ss_nil)) ss_nil) (ss_cons (sd_if (pt_cmpD (co_eq L.m_uequ hr) (pd_ix hr1 (pd_v 0) pd_int) pd_str) (ss_cons (sd_ret pd_int) ss_nil) ss_nil) (ss_cons (sd_ret (pb_maxL rfl T.b_max (pl_cons (pd_lc [("one", 4)] rfl S.nd (blkOk_by (N := N__law_stretches) (sc := defScope s__law_stretches) (by decide +kernel)) (pi_any (pd_sl (pd_v 0) (pp_some pd_int) pp_no)) (fun _ _ _ _ _ => (tg_one (lf_n 4 S.nd))) (fun _ _ _ _ _ => pc_nil) (fun _ _ _ _ _ => (pd_call L.f__law_stretches hr0 (ad_c (pd_v 4) (ad_c (pd_v 1) ad_0))))) pl_nil))) ss_nil)))
theorem sc__law_settled_throng : FnScope N__law_settled_throng p__law_settled_throng (defScope s__law_settled_throng) := ⟨rfl, rfl, rfl, by decide +kernel, rfl, by decide +kernel, by decide +kernel⟩
theorem ok__law_settled_throng {kws : List (Str × V)} (T : Kn K mg ca) (L : Lv P w K mg base ca wf k) (FD : FunD K "_law_settled_throng" "_law_settled_throng" (defArgs s__law_settled_throng) (defBody s__law_settled_throng) (defScope s__law_settled_throng) [] kws f fd) :
    FnOk P w K mg base CX0 (2 * k + 2) f fd p__law_settled_throng (spD K ca (runDef (G.pr wf k) d__law_settled_throng) (p__law_settled_throng).length) :=
  have S := sc__law_settled_throng
  fn_ok FD sc__law_settled_throng rfl rfl fun cdv A outer s H E hr =>
    have hr0 : Room (2 * k) _ := hr.mono (Nat.le_succ _)
    have hr1 : Room 1 _ := hr.mono (by omega)
    show PSsd ca (G.pr wf k) (cxOf CX0 P w K mg base N__law_settled_throng "_law_settled_throng" (defScope s__law_settled_throng) f cdv A outer s H E).nox (defBody s__law_settled_throng) b__law_settled_throng from
    (ss_cons (sd_set (pd_lenO T.b_len L.m_ulenu hr (pd_v 1)) (tg_one (lf_n 4 S.nd))) (ss_cons (sd_set (pd_ix hr1 (pd_lst (pl_cons pd_str (pl_cons pd_str pl_nil))) (pb_int1 T.b_int (pl_cons (pd_call L.f__law_is_so hr0 (ad_c (pd_v 2) (ad_c (pd_v 3) ad_0))) pl_nil))) (tg_one (lf_n 5 S.nd))) (ss_cons (sd_set (pd_call L.f__law_digit hr0 (ad_c (pd_v 0) (ad_c pd_int ad_0))) (tg_one (lf_n 6 S.nd))) (ss_cons (sd_set (pd_call L.f__law_order_of_pairs hr0 (ad_c (pd_v 0) (ad_c (pd_v 4) ad_0))) (tg_one (lf_n 7 S.nd))) (ss_cons (sd_set (pd_lst pl_nil) (tg_one (lf_n 8 S.nd))) (ss_cons (sd_for PassesOwn.never rfl (pi_rng1 rfl T.b_range (pl_cons (pd_call L.f__law_stretches hr0 (ad_c (pd_v 2) (ad_c (pd_v 4) ad_0))) pl_nil)) (tg_one (lf_n 9 S.nd)) (ss_cons (sd_if (pt_cmpD (co_eq L.m_uequ hr) (pd_v 6) pd_int) (ss_cons (sd_ex (pd_call L.f__law_met_in_order hr0 (ad_c (pd_v 1) (ad_c (pd_v 7) ad_0)))) ss_nil) (ss_cons (sd_if (pt_w (pw_and2 (pt_cmpD (co_eq L.m_uequ hr) (pd_v 6) pd_int) (pw_and1D (pt_cmpD (co_eq L.m_uequ hr) (pd_bin_mod (pd_v 9) pd_int) pd_int)))) (ss_cons (sd_ex (pd_call L.f__law_met_in_order hr0 (ad_c (pd_v 1) (ad_c (pd_cat (pd_call L.f__law_order_of_pairs hr0 (ad_c (pd_v 0) (ad_c (pd_v 4) ad_0))) (pd_sl (pd_v 7) pp_no (pp_some pd_int))) ad_0)))) (ss_cons (sd_set (pd_lst pl_nil) (tg_one (lf_n 8 S.nd))) ss_nil)) (ss_cons (sd_if (pt_cmpD co_lt (pb_len T.b_len (pl_cons (pd_v 8) pl_nil)) pd_int) (ss_cons (sd_set (pd_methK0 L.m_stretch hr0 (pd_v 1) (kw_c (pd_cmp (co_eq L.m_uequ hr) (pd_bin_mod (pd_v 9) pd_int) pd_int) kw_0)) (tg_one (lf_n 10 S.nd))) (ss_cons (sd_set (pd_ife (pt_cmpD (co_eq L.m_uequ hr) (pd_v 10) pd_int) (pd_cat (pd_v 8) (pd_lst (pl_cons (pd_v 9) pl_nil))) (pd_lst pl_nil)) (tg_one (lf_n 8 S.nd))) ss_nil)) ss_nil) ss_nil)) ss_nil)) ss_nil)) (ss_cons (sd_for PassesOwn.never rfl (pi_rng1 rfl T.b_range (pl_cons pd_int pl_nil)) (tg_one (lf_n 9 S.nd)) (ss_cons (sd_if (pt_notD (pt_tru (pd_call L.f__law_all_say hr0 (ad_c (pd_v 1) (ad_c (pd_v 5) ad_0))))) (ss_cons (sd_ret pd_bl) ss_nil) ss_nil) (ss_cons (sd_ex (pd_call L.f__law_met_in_order hr0 (ad_c (pd_v 1) (ad_c (pd_call L.f__law_order_of_pairs hr0 (ad_c (pd_v 0) (ad_c (pd_v 4) ad_0))) ad_0)))) ss_nil))) (ss_cons (sd_ret (pd_call L.f__law_all_say hr0 (ad_c (pd_v 1) (ad_c (pd_v 5) ad_0)))) ss_nil))))))))
theorem sc__law_order_of_pairs : FnScope N__law_order_of_pairs p__law_order_of_pairs (defScope s__law_order_of_pairs) := ⟨rfl, rfl, rfl, by decide +kernel, rfl, by decide +kernel, by decide +kernel⟩
theorem ok__law_order_of_pairs {kws : List (Str × V)} (T : Kn K mg ca) (L : Lv P w K mg base ca wf k) (FD : FunD K "_law_order_of_pairs" "_law_order_of_pairs" (defArgs s__law_order_of_pairs) (defBody s__law_order_of_pairs) (defScope s__law_order_of_pairs) [] kws f fd) :
    FnOk P w K mg base CX0 (2 * k + 2) f fd p__law_order_of_pairs (spD K ca (runDef (G.pr wf k) d__law_order_of_pairs) (p__law_order_of_pairs).length) :=
  have S := sc__law_order_of_pairs
  fn_ok FD sc__law_order_of_pairs rfl rfl fun cdv A outer s H E hr =>
    have hr0 : Room (2 * k) _ := hr.mono (Nat.le_succ _)
    have hr1 : Room 1 _ := hr.mono (by omega)
    show PSsd ca (G.pr wf k) (cxOf CX0 P w K mg base N__law_order_of_pairs "_law_order_of_pairs" (defScope s__law_order_of_pairs) f cdv A outer s H E).nox (defBody s__law_order_of_pairs) b__law_order_of_pairs from
    (ss_cons (sd_set (pd_lst pl_nil) (tg_one (lf_n 2 S.nd))) (ss_cons (sd_for PassesOwn.never rfl (pi_rng1 rfl T.b_range (pl_cons (pd_v 1) pl_nil)) (tg_one (lf_n 3 S.nd)) (ss_cons (sd_for PassesOwn.never rfl (pi_rng1 rfl T.b_range (pl_cons (pd_v 3) pl_nil)) (tg_one (lf_n 4 S.nd)) (ss_cons (sd_set (pd_ix hr1 (pd_lst (pl_cons (pd_tup (pl_cons (pd_v 3) (pl_cons (pd_v 4) pl_nil))) (pl_cons (pd_tup (pl_cons (pd_v 4) (pl_cons (pd_v 3) pl_nil))) pl_nil))) (pd_call L.f__law_digit hr0 (ad_c (pd_v 0) (ad_c pd_int ad_0)))) (tg_one (lf_n 5 S.nd))) (ss_cons (sd_ex (pm_insert (pd_v 2) (pl_cons (pd_call L.f__law_digit hr0 (ad_c (pd_v 0) (ad_c (pd_bin_add (pb_len T.b_len (pl_cons (pd_v 2) pl_nil)) pd_int) ad_0))) (pl_cons (pd_v 5) pl_nil)))) ss_nil))) ss_nil)) (ss_cons (sd_if (pt_w (pw_and2 (pt_cmpD co_gt (pd_v 1) pd_int) (pw_and1D (pt_cmpD (co_eq L.m_uequ hr) (pd_call L.f__law_digit hr0 (ad_c (pd_v 0) (ad_c pd_int ad_0))) pd_int)))) (ss_cons (sd_set (pd_lst (pl_cons (pd_tup (pl_cons pd_int (pl_cons pd_int pl_nil))) (pl_cons (pd_tup (pl_cons pd_int (pl_cons pd_int pl_nil))) (pl_cons (pd_tup (pl_cons pd_int (pl_cons pd_int pl_nil))) pl_nil)))) (tg_one (lf_n 6 S.nd))) (ss_cons (sd_set (pd_cat (pd_v 6) (pd_lc [("pair", 5)] rfl S.nd (blkOk_by (N := N__law_order_of_pairs) (sc := defScope s__law_order_of_pairs) (by decide +kernel)) (pi_any (pd_frz (pd_v 2))) (fun _ _ _ _ _ => (tg_one (lf_n 5 S.nd))) (fun _ _ _ _ _ => (pc_one (pt_cmpD co_gt (pb_maxT rfl T.b_max (pl_cons (pd_v 5) pl_nil)) pd_int))) (fun _ _ _ _ _ => (pd_v 5)))) (tg_one (lf_n 2 S.nd))) ss_nil)) ss_nil) (ss_cons (sd_ret (pd_frz (pd_v 2))) ss_nil))))
theorem sc__law_met_in_order : FnScope N__law_met_in_order p__law_met_in_order (defScope s__law_met_in_order) := ⟨rfl, rfl, rfl, by decide +kernel, rfl, by decide +kernel, by decide +kernel⟩
theorem ok__law_met_in_order {kws : List (Str × V)} (T : Kn K mg ca) (L : Lv P w K mg base ca wf k) (FD : FunD K "_law_met_in_order" "_law_met_in_order" (defArgs s__law_met_in_order) (defBody s__law_met_in_order) (defScope s__law_met_in_order) [] kws f fd) :
    FnOk P w K mg base CX0 (2 * k + 2) f fd p__law_met_in_order (spD K ca (runDef (G.pr wf k) d__law_met_in_order) (p__law_met_in_order).length) :=
  have S := sc__law_met_in_order
  fn_ok FD sc__law_met_in_order rfl rfl fun cdv A outer s H E hr =>
    have hr0 : Room (2 * k) _ := hr.mono (Nat.le_succ _)
    have hr1 : Room 1 _ := hr.mono (by omega)
    show PSsd ca (G.pr wf k) (cxOf CX0 P w K mg base N__law_met_in_order "_law_met_in_order" (defScope s__law_met_in_order) f cdv A outer s H E).nox (defBody s__law_met_in_order) b__law_met_in_order from
    (ss_cons (sd_for PassesOwn.never rfl (pi_any (pd_v 1)) (tg_tup rfl (lfs_cons (lf_n 2 S.nd) (lfs_cons (lf_n 3 S.nd) lfs_nil))) (ss_cons (sd_ex (pd_meth L.m_meet hr0 (pd_v 0) (ad_c (pd_v 2) (ad_c (pd_v 3) ad_0)))) ss_nil)) ss_nil)
theorem sc__law_all_say : FnScope N__law_all_say p__law_all_say (defScope s__law_all_say) := ⟨rfl, rfl, rfl, by decide +kernel, rfl, by decide +kernel, by decide +kernel⟩
theorem ok__law_all_say {kws : List (Str × V)} (T : Kn K mg ca) (L : Lv P w K mg base ca wf k) (FD : FunD K "_law_all_say" "_law_all_say" (defArgs s__law_all_say) (defBody s__law_all_say) (defScope s__law_all_say) [] kws f fd) :
    FnOk P w K mg base CX0 (2 * k + 2) f fd p__law_all_say (spD K ca (runDef (G.pr wf k) d__law_all_say) (p__law_all_say).length) :=
  have S := sc__law_all_say
  fn_ok FD sc__law_all_say rfl rfl fun cdv A outer s H E hr =>
    have hr0 : Room (2 * k) _ := hr.mono (Nat.le_succ _)
    have hr1 : Room 1 _ := hr.mono (by omega)
    show PSsd ca (G.pr wf k) (cxOf CX0 P w K mg base N__law_all_say "_law_all_say" (defScope s__law_all_say) f cdv A outer s H E).nox (defBody s__law_all_say) b__law_all_say from
    (ss_cons (sd_set (pd_lenO T.b_len L.m_ulenu hr (pd_v 0)) (tg_one (lf_n 2 S.nd))) (ss_cons (sd_ret (pd_and (pd_cmp (co_eq L.m_uequ hr) (pd_meth0_0 L.m_said hr0 (pd_v 0) ) (pd_v 1)) (pd_one (pd_cmp (co_eq L.m_uequ hr) (pd_lc [("k", 3)] rfl S.nd (blkOk_by (N := N__law_all_say) (sc := defScope s__law_all_say) (by decide +kernel)) (pi_rng1 rfl T.b_range (pl_cons (pd_v 2) pl_nil)) (fun _ _ _ _ _ => (tg_one (lf_n 3 S.nd))) (fun _ _ _ _ _ => pc_nil) (fun _ _ _ _ _ => (pd_meth L.m_says hr0 (pd_v 0) (ad_c (pd_v 3) ad_0)))) (pd_rep (pd_lst (pl_cons (pd_v 1) pl_nil)) (pd_v 2)))))) ss_nil))
theorem sc__law_history : FnScope N__law_history p__law_history (defScope s__law_history) := ⟨rfl, rfl, rfl, by decide +kernel, rfl, by decide +kernel, by decide +kernel⟩
theorem ok__law_history {kws : List (Str × V)} (T : Kn K mg ca) (L : Lv P w K mg base ca wf k) (FD : FunD K "_law_history" "_law_history" (defArgs s__law_history) (defBody s__law_history) (defScope s__law_history) [] kws f fd) :
    FnOk P w K mg base CX0 (2 * k + 2) f fd p__law_history (spD K ca (runDef (G.pr wf k) d__law_history) (p__law_history).length) :=
  have S := sc__law_history
  fn_ok FD sc__law_history rfl rfl fun cdv A outer s H E hr =>
    have hr0 : Room (2 * k) _ := hr.mono (Nat.le_succ _)
    have hr1 : Room 1 _ := hr.mono (by omega)
    show PSsd ca (G.pr wf k) (cxOf CX0 P w K mg base N__law_history "_law_history" (defScope s__law_history) f cdv A outer s H E).nox (defBody s__law_history) b__law_history from
    (ss_cons (sd_set (pd_lst pl_nil) (tg_one (lf_n 5 S.nd))) (ss_cons (sd_for PassesOwn.never rfl (pi_rng1 rfl T.b_range (pl_cons pd_int pl_nil)) (tg_one (lf_n 6 S.nd)) (ss_cons (sd_set (pd_call L.f__law_digit hr0 (ad_c (pd_v 0) (ad_c pd_int ad_0))) (tg_one (lf_n 7 S.nd))) (ss_cons (sd_set (pd_call L.f__law_digit hr0 (ad_c (pd_v 0) (ad_c (pd_v 4) ad_0))) (tg_one (lf_n 8 S.nd))) (ss_cons (sd_if (pt_w (pw_and2 (pt_cmpD co_lt (pd_v 7) pd_int) (pw_and1D (pt_cmpD co_lt (pd_lenO T.b_len L.m_ulenu hr (pd_v 1)) pd_int)))) (ss_cons (sd_ex (pd_meth L.m_come hr0 (pd_v 1) (ad_c (pd_sl pd_str (pp_some (pd_v 8)) (pp_some (pd_bin_add (pd_v 8) pd_int))) ad_1))) (ss_cons (sd_setIx hr (pd_v 2) (pd_v 8) (pd_bin_add (pd_ix hr1 (pd_v 2) (pd_v 8)) pd_int)) ss_nil)) (ss_cons (sd_if (pt_w (pw_and2 (pt_cmpD (co_eq L.m_uequ hr) (pd_v 7) pd_int) (pw_and1D (pt_cmpD co_lt (pd_lenO T.b_len L.m_ulenu hr (pd_v 1)) pd_int)))) (ss_cons (sd_set (pd_make L.k_Throng hr (ad_c (pd_v 3) ad_0)) (tg_one (lf_n 9 S.nd))) (ss_cons (sd_ex (pd_methK L.m_come_1 hr0 (pd_v 9) (ag_c (pd_sl pd_str (pp_some (pd_v 8)) (pp_some (pd_bin_add (pd_v 8) pd_int))) (ag_n (kw_c pd_int kw_0))))) (ss_cons (sd_ex (pd_meth L.m_meet hr0 (pd_v 9) (ad_c pd_int (ad_c pd_int ad_0)))) (ss_cons (sd_ex (pd_meth L.m_pour hr0 (pd_v 1) (ad_c (pd_v 9) ad_0))) (ss_cons (sd_setIx hr (pd_v 2) (pd_v 8) (pd_bin_add (pd_ix hr1 (pd_v 2) (pd_v 8)) pd_int)) ss_nil))))) (ss_cons (sd_if (pt_cmpD (co_eq L.m_uequ hr) (pd_v 7) pd_int) (ss_cons (sd_set (pd_cat (pd_sl (pd_v 5) pp_no (pp_some (pd_meth0_0 L.m_mark hr0 (pd_v 1) ))) (pd_lst (pl_cons (pb_list1 T.b_list (pl_cons (pd_v 2) pl_nil)) pl_nil))) (tg_one (lf_n 5 S.nd))) ss_nil) (ss_cons (sd_if (pt_w (pw_and2 (pt_cmpD (co_eq L.m_uequ hr) (pd_v 7) pd_int) (pw_and1D (pt_cmpD (co_ne T.ne L.m_uequ hr) (pd_v 5) (pd_lst pl_nil))))) (ss_cons (sd_set (pd_call L.f__law_digit hr0 (ad_c (pd_v 0) (ad_c (pb_len T.b_len (pl_cons (pd_v 5) pl_nil)) ad_0))) (tg_one (lf_n 10 S.nd))) (ss_cons (sd_ex (pd_meth L.m_back hr0 (pd_v 1) (ad_c (pd_v 10) ad_0))) (ss_cons (sd_setSl (pd_v 2) (pd_ix hr1 (pd_v 5) (pd_v 10))) (ss_cons (sd_set (pd_sl (pd_v 5) pp_no (pp_some (pd_bin_add (pd_v 10) pd_int))) (tg_one (lf_n 5 S.nd))) ss_nil)))) (ss_cons (sd_if (pt_cmpD co_gt (pd_lenO T.b_len L.m_ulenu hr (pd_v 1)) pd_int) (ss_cons (sd_set (pd_call L.f__law_digit hr0 (ad_c (pd_v 0) (ad_c (pd_lenO T.b_len L.m_ulenu hr (pd_v 1)) ad_0))) (tg_one (lf_n 11 S.nd))) (ss_cons (sd_set (pd_call L.f__law_digit hr0 (ad_c (pd_v 0) (ad_c (pd_bin_sub (pd_lenO T.b_len L.m_ulenu hr (pd_v 1)) pd_int) ad_0))) (tg_one (lf_n 12 S.nd))) (ss_cons (sd_ex (pd_meth L.m_meet hr0 (pd_v 1) (ad_c (pd_v 11) (ad_c (pd_bin_add (pd_v 12) (pb_int1 T.b_int (pl_cons (pd_cmp co_ge (pd_v 12) (pd_v 11)) pl_nil))) ad_0)))) ss_nil))) ss_nil) ss_nil)) ss_nil)) ss_nil)) ss_nil)) ss_nil)))) (ss_cons (sd_ret (pd_v 2)) ss_nil)))
theorem sc__law_many_right : FnScope N__law_many_right p__law_many_right (defScope s__law_many_right) := ⟨rfl, rfl, rfl, by decide +kernel, rfl, by decide +kernel, by decide +kernel⟩
theorem ok__law_many_right {kws : List (Str × V)} (T : Kn K mg ca) (L : Lv P w K mg base ca wf k) (FD : FunD K "_law_many_right" "_law_many_right" (defArgs s__law_many_right) (defBody s__law_many_right) (defScope s__law_many_right) [] kws f fd) :
    FnOk P w K mg base CX0 (2 * k + 2) f fd p__law_many_right (spD K ca (runDef (G.pr wf k) d__law_many_right) (p__law_many_right).length) :=
  have S := sc__law_many_right
  fn_ok FD sc__law_many_right rfl rfl fun cdv A outer s H E hr =>
    have hr0 : Room (2 * k) _ := hr.mono (Nat.le_succ _)
    have hr1 : Room 1 _ := hr.mono (by omega)
    show PSsd ca (G.pr wf k) (cxOf CX0 P w K mg base N__law_many_right "_law_many_right" (defScope s__law_many_right) f cdv A outer s H E).nox (defBody s__law_many_right) b__law_many_right from
    (ss_cons (sd_set (pd_bin_add pd_int (pd_call L.f__law_digit hr0 (ad_c (pd_v 0) (ad_c pd_int ad_0)))) (tg_one (lf_n 1 S.nd))) (ss_cons (sd_set (pd_call L.f__law_wide_sentence hr0 (ad_c (pd_v 0) (ad_c (pd_v 1) (ad_c (pd_bin_add pd_int (pd_call L.f__law_digit hr0 (ad_c (pd_v 0) (ad_c pd_int ad_0)))) (ad_c pd_int ad_0))))) (tg_one (lf_n 2 S.nd))) (ss_cons (sd_set (pd_make L.k_Throng hr (ad_c (pd_v 2) ad_0)) (tg_one (lf_n 3 S.nd))) (ss_cons (sd_set (pd_rep (pd_lst (pl_cons pd_int pl_nil)) (pd_v 1)) (tg_one (lf_n 4 S.nd))) (ss_cons (sd_for PassesOwn.never rfl (pi_rng1 rfl T.b_range (pl_cons pd_int pl_nil)) (tg_one (lf_n 5 S.nd)) (ss_cons (sd_set (pd_call L.f__law_digit hr0 (ad_c (pd_v 0) (ad_c (pd_v 1) ad_0))) (tg_one (lf_n 6 S.nd))) (ss_cons (sd_set (pd_bin_add pd_int (pd_call L.f__law_digit hr0 (ad_c (pd_v 0) (ad_c pd_int ad_0)))) (tg_one (lf_n 7 S.nd))) (ss_cons (sd_ex (pd_methK L.m_come_1 hr0 (pd_v 3) (ag_c (pd_sl pd_str (pp_some (pd_v 6)) (pp_some (pd_bin_add (pd_v 6) pd_int))) (ag_n (kw_c (pd_v 7) kw_0))))) (ss_cons (sd_setIx hr (pd_v 4) (pd_v 6) (pd_bin_add (pd_ix hr1 (pd_v 4) (pd_v 6)) (pd_v 7))) ss_nil))))) (ss_cons (sd_ex (pd_methK L.m_come_1 hr0 (pd_v 3) (ag_c pd_str (ag_n (kw_c pd_int kw_0))))) (ss_cons (sd_setIx hr (pd_v 4) pd_int (pd_bin_add (pd_ix hr1 (pd_v 4) pd_int) pd_int)) (ss_cons (sd_set (pd_lst pl_nil) (tg_one (lf_n 8 S.nd))) (ss_cons (sd_for PassesOwn.never rfl (pi_rng1 rfl T.b_range (pl_cons (pd_call L.f__law_stretches hr0 (ad_c (pd_v 2) (ad_c (pb_sum rfl T.b_sum (pl_cons (pd_v 4) pl_nil)) ad_0))) pl_nil)) (tg_one (lf_n 5 S.nd)) (ss_cons (sd_if (pt_cmpD co_lt (pb_len T.b_len (pl_cons (pd_v 8) pl_nil)) pd_int) (ss_cons (sd_set (pd_methK0 L.m_stretch hr0 (pd_v 3) (kw_c (pd_cmp (co_eq L.m_uequ hr) (pd_bin_mod (pd_v 5) pd_int) pd_int) kw_0)) (tg_one (lf_n 9 S.nd))) (ss_cons (sd_set (pd_ife (pt_cmpD (co_eq L.m_uequ hr) (pd_v 9) pd_int) (pd_cat (pd_v 8) (pd_lst (pl_cons (pd_v 5) pl_nil))) (pd_lst pl_nil)) (tg_one (lf_n 8 S.nd))) ss_nil)) ss_nil) ss_nil)) (ss_cons (sd_ret (pd_call L.f__law_all_say hr0 (ad_c (pd_v 3) (ad_c (pd_ix hr1 (pd_lst (pl_cons pd_str (pl_cons pd_str pl_nil))) (pb_int1 T.b_int (pl_cons (pd_call L.f__law_is_so hr0 (ad_c (pd_v 2) (ad_c (pd_v 4) ad_0))) pl_nil))) ad_0)))) ss_nil))))))))))
theorem sc_law : FnScope N_law p_law (defScope s_law) := ⟨rfl, rfl, rfl, by decide +kernel, rfl, by decide +kernel, by decide +kernel⟩
theorem ok_law {kws : List (Str × V)} (T : Kn K mg ca) (L : Lv P w K mg base ca wf k) (FD : FunD K "law" "law" (defArgs s_law) (defBody s_law) (defScope s_law) [] kws f fd) :
    FnOk P w K mg base CX0 (2 * k + 2) f fd p_law (spD K ca (runDef (G.pr wf k) d_law) (p_law).length) :=
  have S := sc_law
  fn_ok FD sc_law rfl rfl fun cdv A outer s H E hr =>
    have hr0 : Room (2 * k) _ := hr.mono (Nat.le_succ _)
    have hr1 : Room 1 _ := hr.mono (by omega)
    show PSsd ca (G.pr wf k) (cxOf CX0 P w K mg base N_law "law" (defScope s_law) f cdv A outer s H E).nox (defBody s_law) b_law from
    (ss_cons (sd_if (pt_notD (pt_tru (pd_call L.f__law_many_right hr0 (ad_c (pd_call L.f__law_tape hr0 (ad_c (pd_v 0) (ad_c pd_int ad_0))) ad_0)))) (ss_cons (sd_ret pd_bl) ss_nil) ss_nil) (ss_cons (sd_for PassesOwn.never rfl (pi_rng2 rfl T.b_range (pl_cons pd_int (pl_cons (pb_max2 rfl T.b_max (pl_cons pd_int (pl_cons (pb_min2 rfl T.b_min (pl_cons pd_int (pl_cons (pb_len T.b_len (pl_cons (pd_v 0) pl_nil)) pl_nil))) pl_nil))) pl_nil))) (tg_one (lf_n 1 S.nd)) (ss_cons (sd_set (pd_call L.f__law_tape hr0 (ad_c (pd_v 0) (ad_c (pd_v 1) ad_0))) (tg_one (lf_n 2 S.nd))) (ss_cons (sd_set (pd_bin_add pd_int (pd_call L.f__law_digit hr0 (ad_c (pd_v 2) (ad_c pd_int ad_0)))) (tg_one (lf_n 3 S.nd))) (ss_cons (sd_set (pd_ix hr1 (pd_lst (pl_cons pd_int (pl_cons pd_int (pl_cons pd_int (pl_cons pd_int (pl_cons pd_int (pl_cons pd_int pl_nil))))))) (pd_call L.f__law_digit hr0 (ad_c (pd_v 2) (ad_c pd_int ad_0)))) (tg_one (lf_n 4 S.nd))) (ss_cons (sd_set (pd_call L.f__law_wide_sentence hr0 (ad_c (pd_v 2) (ad_c (pd_v 3) (ad_c (pd_v 4) (ad_c pd_int ad_0))))) (tg_one (lf_n 5 S.nd))) (ss_cons (sd_set (pd_make L.k_Throng hr (ad_c (pd_v 5) ad_0)) (tg_one (lf_n 6 S.nd))) (ss_cons (sd_set (pd_call L.f__law_history hr0 (ad_c (pd_v 2) (ad_c (pd_v 6) (ad_c (pd_rep (pd_lst (pl_cons pd_int pl_nil)) (pd_v 3)) (ad_c (pd_v 5) (ad_c (pd_v 3) ad_0)))))) (tg_one (lf_n 7 S.nd))) (ss_cons (sd_if (pt_cmpD (co_eq L.m_uequ hr) (pd_lenO T.b_len L.m_ulenu hr (pd_v 6)) pd_int) (ss_cons (sd_ex (pd_meth L.m_come hr0 (pd_v 6) (ad_c pd_str ad_1))) (ss_cons (sd_setIx hr (pd_v 7) pd_int (pd_bin_add (pd_ix hr1 (pd_v 7) pd_int) pd_int)) ss_nil)) ss_nil) (ss_cons (sd_if (pt_notD (pt_tru (pd_call L.f__law_settled_throng hr0 (ad_c (pd_v 2) (ad_c (pd_v 6) (ad_c (pd_v 5) (ad_c (pd_v 7) ad_0))))))) (ss_cons (sd_ret pd_bl) ss_nil) ss_nil) (ss_cons (sd_ex (pd_meth L.m_come hr0 (pd_v 6) (ad_c pd_str ad_1))) (ss_cons (sd_setIx hr (pd_v 7) pd_int (pd_bin_add (pd_ix hr1 (pd_v 7) pd_int) pd_int)) (ss_cons (sd_if (pt_notD (pt_tru (pd_call L.f__law_settled_throng hr0 (ad_c (pd_v 2) (ad_c (pd_v 6) (ad_c (pd_v 5) (ad_c (pd_v 7) ad_0))))))) (ss_cons (sd_ret pd_bl) ss_nil) ss_nil) ss_nil)))))))))))) (ss_cons (sd_ret pd_bl) ss_nil)))
theorem lv_step (T : Kn K mg ca) (Y : Fx K mg ca) (k : Nat) (ih : ∀ j, j + 1 = k → Lv P w K mg base ca wf j) : Lv P w K mg base ca wf k where
  m_led := ⟨fun C ds μ r h => by
    have hC : C ∈ [("Least" : Str), ("Rest" : Str)] := Prog.meth_in h
    simp only [List.mem_cons, List.not_mem_nil, or_false] at hC
    rcases hC with rfl | rfl
    · obtain ⟨c, f, fd, hc, hM, FD⟩ := Y.x_Least_led
      exact ⟨c, f, fd, p_Least_led, hc, (T.cls _ _ hc).1, hM, mt_all FD sc_Least_led rfl (fun j hj => ok_Least_led T (ih j hj) FD), bo_N FD 2 rfl (fun _ _ _ _ _ _ us hl => match us, hl with | [_, _], _ => rfl)⟩
    · obtain ⟨c, f, fd, hc, hM, FD⟩ := Y.x_Rest_led
      exact ⟨c, f, fd, p_Rest_led, hc, (T.cls _ _ hc).1, hM, mt_all FD sc_Rest_led rfl (fun j hj => ok_Rest_led T (ih j hj) FD), bo_N FD 2 rfl (fun _ _ _ _ _ _ us hl => match us, hl with | [_, _], _ => rfl)⟩⟩
  k_Least := by
    obtain ⟨c, f, fd, hc, hM, hm, FD⟩ := Y.x_Leastu_initu
    exact ⟨c, f, fd, p_Leastu_initu, hc, hM, hm, mt_all FD sc_Leastu_initu rfl (fun j hj => ok_Leastu_initu T (ih j hj) FD), bo_N FD 2 rfl (fun _ _ _ _ _ _ us hl => match us, hl with | [_, _], _ => rfl)⟩
  k_Rest := by
    obtain ⟨c, f, fd, hc, hM, hm, FD⟩ := Y.x_Restu_initu
    exact ⟨c, f, fd, p_Restu_initu, hc, hM, hm, mt_all FD sc_Restu_initu rfl (fun j hj => ok_Restu_initu T (ih j hj) FD), bo_N FD 2 rfl (fun _ _ _ _ _ _ us hl => match us, hl with | [_, _], _ => rfl)⟩
  f_atoms_of := by
    obtain ⟨f, fd, FD, hm⟩ := Y.x_atoms_of
    exact ⟨f, fd, p_atoms_of, fn_all FD sc_atoms_of rfl (fun j hj => ok_atoms_of T (ih j hj) FD), hm, FD.kp, bo_N FD 1 rfl (fun _ _ _ _ _ _ us hl => match us, hl with | [_], _ => rfl)⟩
  f_truth_of := by
    obtain ⟨f, fd, FD, hm⟩ := Y.x_truth_of
    exact ⟨f, fd, p_truth_of, fn_all FD sc_truth_of rfl (fun j hj => ok_truth_of T (ih j hj) FD), hm, FD.kp, bo_N FD 2 rfl (fun _ _ _ _ _ _ us hl => match us, hl with | [_, _], _ => rfl)⟩
  f_many_of := by
    obtain ⟨f, fd, FD, hm⟩ := Y.x_many_of
    exact ⟨f, fd, p_many_of, fn_all FD sc_many_of rfl (fun j hj => ok_many_of T (ih j hj) FD), hm, FD.kp, bo_N FD 1 rfl (fun _ _ _ _ _ _ us hl => match us, hl with | [_], _ => rfl)⟩
  f_made_of := by
    obtain ⟨f, fd, FD, hm⟩ := Y.x_made_of
    exact ⟨f, fd, p_made_of, fn_all FD sc_made_of rfl (fun j hj => ok_made_of T (ih j hj) FD), hm, FD.kp, bo_N FD 1 rfl (fun _ _ _ _ _ _ us hl => match us, hl with | [_], _ => rfl)⟩
  m_words := ⟨fun C ds μ r h => by
    have hC : C ∈ [("Throng" : Str)] := Prog.meth_in h
    simp only [List.mem_cons, List.not_mem_nil, or_false] at hC
    rcases hC with rfl
    · obtain ⟨c, f, fd, hc, hM, FD⟩ := Y.x_Throng_words
      exact ⟨c, f, fd, p_Throng_words, hc, (T.cls _ _ hc).1, hM, mt_all FD sc_Throng_words rfl (fun j hj => ok_Throng_words T (ih j hj) FD), bo_N FD 1 rfl (fun _ _ _ _ _ _ us hl => match us, hl with | [_], _ => rfl)⟩⟩
  m_word_of_folk := ⟨fun C ds μ r h => by
    have hC : C ∈ [("Throng" : Str)] := Prog.meth_in h
    simp only [List.mem_cons, List.not_mem_nil, or_false] at hC
    rcases hC with rfl
    · obtain ⟨c, f, fd, hc, hM, FD⟩ := Y.x_Throng_word_of_folk
      exact ⟨c, f, fd, p_Throng_word_of_folk, hc, (T.cls _ _ hc).1, hM, mt_all FD sc_Throng_word_of_folk rfl (fun j hj => ok_Throng_word_of_folk T (ih j hj) FD), bo_N FD 2 rfl (fun _ _ _ _ _ _ us hl => match us, hl with | [_, _], _ => rfl)⟩⟩
  m_met := ⟨fun C ds μ r h => by
    have hC : C ∈ [("Least" : Str), ("Rest" : Str)] := Prog.meth_in h
    simp only [List.mem_cons, List.not_mem_nil, or_false] at hC
    rcases hC with rfl | rfl
    · obtain ⟨c, f, fd, hc, hM, FD⟩ := Y.x_Least_met
      exact ⟨c, f, fd, p_Least_met, hc, (T.cls _ _ hc).1, hM, mt_all FD sc_Least_met rfl (fun j hj => ok_Least_met T (ih j hj) FD), bo_N FD 3 rfl (fun _ _ _ _ _ _ us hl => match us, hl with | [_, _, _], _ => rfl)⟩
    · obtain ⟨c, f, fd, hc, hM, FD⟩ := Y.x_Rest_met
      exact ⟨c, f, fd, p_Rest_met, hc, (T.cls _ _ hc).1, hM, mt_all FD sc_Rest_met rfl (fun j hj => ok_Rest_met T (ih j hj) FD), bo_N FD 3 rfl (fun _ _ _ _ _ _ us hl => match us, hl with | [_, _, _], _ => rfl)⟩⟩
  m_changed := ⟨fun C ds μ r h => by
    have hC : C ∈ [("Throng" : Str)] := Prog.meth_in h
    simp only [List.mem_cons, List.not_mem_nil, or_false] at hC
    rcases hC with rfl
    · obtain ⟨c, f, fd, hc, hM, FD⟩ := Y.x_Throng_changed
      exact ⟨c, f, fd, p_Throng_changed, hc, (T.cls _ _ hc).1, hM, mt_all FD sc_Throng_changed rfl (fun j hj => ok_Throng_changed T (ih j hj) FD), bo_N FD 3 rfl (fun _ _ _ _ _ _ us hl => match us, hl with | [_, _, _], _ => rfl)⟩⟩
  m_need_folk := ⟨fun C ds μ r h => by
    have hC : C ∈ [("Throng" : Str)] := Prog.meth_in h
    simp only [List.mem_cons, List.not_mem_nil, or_false] at hC
    rcases hC with rfl
    · obtain ⟨c, f, fd, hc, hM, FD⟩ := Y.x_Throng_need_folk
      exact ⟨c, f, fd, p_Throng_need_folk, hc, (T.cls _ _ hc).1, hM, mt_all FD sc_Throng_need_folk rfl (fun j hj => ok_Throng_need_folk T (ih j hj) FD), bo_N FD 2 rfl (fun _ _ _ _ _ _ us hl => match us, hl with | [_, _], _ => rfl)⟩⟩
  f_pairs_of_folk := by
    obtain ⟨f, fd, FD, hm⟩ := Y.x_pairs_of_folk
    exact ⟨f, fd, p_pairs_of_folk, fn_all FD sc_pairs_of_folk rfl (fun j hj => ok_pairs_of_folk T (ih j hj) FD), hm, FD.kp, bo_K FD 1 ["backward"] rfl (fun _ _ _ _ _ _ us ws h1 h2 => match us, ws, h1, h2 with | [_], [_], _, _ => rfl)⟩
  f__law_cell_at := by
    obtain ⟨f, fd, FD, hm⟩ := Y.x__law_cell_at
    exact ⟨f, fd, p__law_cell_at, fn_all FD sc__law_cell_at rfl (fun j hj => ok__law_cell_at T (ih j hj) FD), hm, FD.kp, bo_N FD 2 rfl (fun _ _ _ _ _ _ us hl => match us, hl with | [_, _], _ => rfl)⟩
  f__law_digit := by
    obtain ⟨f, fd, FD, hm⟩ := Y.x__law_digit
    exact ⟨f, fd, p__law_digit, fn_all FD sc__law_digit rfl (fun j hj => ok__law_digit T (ih j hj) FD), hm, FD.kp, bo_N FD 2 rfl (fun _ _ _ _ _ _ us hl => match us, hl with | [_, _], _ => rfl)⟩
  f__law_weights := by
    obtain ⟨f, fd, FD, hm⟩ := Y.x__law_weights
    exact ⟨f, fd, p__law_weights, fn_all FD sc__law_weights rfl (fun j hj => ok__law_weights T (ih j hj) FD), hm, FD.kp, bo_N FD 2 rfl (fun _ _ _ _ _ _ us hl => match us, hl with | [_, _], _ => rfl)⟩
  f__law_is_so := by
    obtain ⟨f, fd, FD, hm⟩ := Y.x__law_is_so
    exact ⟨f, fd, p__law_is_so, fn_all FD sc__law_is_so rfl (fun j hj => ok__law_is_so T (ih j hj) FD), hm, FD.kp, bo_N FD 2 rfl (fun _ _ _ _ _ _ us hl => match us, hl with | [_, _], _ => rfl)⟩
  f__law_wide_sentence := by
    obtain ⟨f, fd, FD, hm⟩ := Y.x__law_wide_sentence
    exact ⟨f, fd, p__law_wide_sentence, fn_all FD sc__law_wide_sentence rfl (fun j hj => ok__law_wide_sentence T (ih j hj) FD), hm, FD.kp, bo_N FD 4 rfl (fun _ _ _ _ _ _ us hl => match us, hl with | [_, _, _, _], _ => rfl)⟩
  f__law_atom := by
    obtain ⟨f, fd, FD, hm⟩ := Y.x__law_atom
    exact ⟨f, fd, p__law_atom, fn_all FD sc__law_atom rfl (fun j hj => ok__law_atom T (ih j hj) FD), hm, FD.kp, bo_N FD 2 rfl (fun _ _ _ _ _ _ us hl => match us, hl with | [_, _], _ => rfl)⟩
  f__law_stretches := by
    obtain ⟨f, fd, FD, hm⟩ := Y.x__law_stretches
    exact ⟨f, fd, p__law_stretches, fn_all FD sc__law_stretches rfl (fun j hj => ok__law_stretches T (ih j hj) FD), hm, FD.kp, bo_N FD 2 rfl (fun _ _ _ _ _ _ us hl => match us, hl with | [_, _], _ => rfl)⟩
  f__law_all_say := by
    obtain ⟨f, fd, FD, hm⟩ := Y.x__law_all_say
    exact ⟨f, fd, p__law_all_say, fn_all FD sc__law_all_say rfl (fun j hj => ok__law_all_say T (ih j hj) FD), hm, FD.kp, bo_N FD 2 rfl (fun _ _ _ _ _ _ us hl => match us, hl with | [_, _], _ => rfl)⟩
  f__law_order_of_pairs := by
    obtain ⟨f, fd, FD, hm⟩ := Y.x__law_order_of_pairs
    exact ⟨f, fd, p__law_order_of_pairs, fn_all FD sc__law_order_of_pairs rfl (fun j hj => ok__law_order_of_pairs T (ih j hj) FD), hm, FD.kp, bo_N FD 2 rfl (fun _ _ _ _ _ _ us hl => match us, hl with | [_, _], _ => rfl)⟩
  f__law_met_in_order := by
    obtain ⟨f, fd, FD, hm⟩ := Y.x__law_met_in_order
    exact ⟨f, fd, p__law_met_in_order, fn_all FD sc__law_met_in_order rfl (fun j hj => ok__law_met_in_order T (ih j hj) FD), hm, FD.kp, bo_N FD 2 rfl (fun _ _ _ _ _ _ us hl => match us, hl with | [_, _], _ => rfl)⟩
  m_stretch := ⟨fun C ds μ r h => by
    have hC : C ∈ [("Throng" : Str)] := Prog.meth_in h
    simp only [List.mem_cons, List.not_mem_nil, or_false] at hC
    rcases hC with rfl
    · obtain ⟨c, f, fd, hc, hM, FD⟩ := Y.x_Throng_stretch
      exact ⟨c, f, fd, p_Throng_stretch, hc, (T.cls _ _ hc).1, hM, mt_all FD sc_Throng_stretch rfl (fun j hj => ok_Throng_stretch T (ih j hj) FD), bo_K FD 1 ["backward"] rfl (fun _ _ _ _ _ _ us ws h1 h2 => match us, ws, h1, h2 with | [_], [_], _, _ => rfl)⟩⟩
  m_ulenu := ⟨fun C ds μ r h => by
    have hC : C ∈ [("Throng" : Str)] := Prog.meth_in h
    simp only [List.mem_cons, List.not_mem_nil, or_false] at hC
    rcases hC with rfl
    · obtain ⟨c, f, fd, hc, hM, FD⟩ := Y.x_Throngu_lenu
      exact ⟨c, f, fd, p_Throngu_lenu, hc, (T.cls _ _ hc).1, hM, mt_all FD sc_Throngu_lenu rfl (fun j hj => ok_Throngu_lenu T (ih j hj) FD), bo_N FD 1 rfl (fun _ _ _ _ _ _ us hl => match us, hl with | [_], _ => rfl)⟩⟩
  m_meet := ⟨fun C ds μ r h => by
    have hC : C ∈ [("Throng" : Str)] := Prog.meth_in h
    simp only [List.mem_cons, List.not_mem_nil, or_false] at hC
    rcases hC with rfl
    · obtain ⟨c, f, fd, hc, hM, FD⟩ := Y.x_Throng_meet
      exact ⟨c, f, fd, p_Throng_meet, hc, (T.cls _ _ hc).1, hM, mt_all FD sc_Throng_meet rfl (fun j hj => ok_Throng_meet T (ih j hj) FD), bo_N FD 3 rfl (fun _ _ _ _ _ _ us hl => match us, hl with | [_, _, _], _ => rfl)⟩⟩
  m_said := ⟨fun C ds μ r h => by
    have hC : C ∈ [("Throng" : Str)] := Prog.meth_in h
    simp only [List.mem_cons, List.not_mem_nil, or_false] at hC
    rcases hC with rfl
    · obtain ⟨c, f, fd, hc, hM, FD⟩ := Y.x_Throng_said
      exact ⟨c, f, fd, p_Throng_said, hc, (T.cls _ _ hc).1, hM, mt_all FD sc_Throng_said rfl (fun j hj => ok_Throng_said T (ih j hj) FD), bo_N FD 1 rfl (fun _ _ _ _ _ _ us hl => match us, hl with | [_], _ => rfl)⟩⟩
  m_says := ⟨fun C ds μ r h => by
    have hC : C ∈ [("Throng" : Str)] := Prog.meth_in h
    simp only [List.mem_cons, List.not_mem_nil, or_false] at hC
    rcases hC with rfl
    · obtain ⟨c, f, fd, hc, hM, FD⟩ := Y.x_Throng_says
      exact ⟨c, f, fd, p_Throng_says, hc, (T.cls _ _ hc).1, hM, mt_all FD sc_Throng_says rfl (fun j hj => ok_Throng_says T (ih j hj) FD), bo_N FD 2 rfl (fun _ _ _ _ _ _ us hl => match us, hl with | [_, _], _ => rfl)⟩⟩
  m_come := ⟨fun C ds μ r h => by
    have hC : C ∈ [("Throng" : Str)] := Prog.meth_in h
    simp only [List.mem_cons, List.not_mem_nil, or_false] at hC
    rcases hC with rfl
    · obtain ⟨c, f, fd, hc, hM, FD⟩ := Y.x_Throng_come
      exact ⟨c, f, fd, p_Throng_come, hc, (T.cls _ _ hc).1, hM, mt_all FD sc_Throng_come rfl (fun j hj => ok_Throng_come T (ih j hj) FD), bo_0 FD 2 (by simp) rfl (fun _ _ _ => .cons (.int _) (.nil)) (fun _ _ _ _ _ _ us ks h1 h2 => match us, ks, h1, h2 with | [_, _], [_], _, _ => ⟨_, _, _, _, _, _, rfl, rfl, rfl⟩)⟩⟩
  m_come_1 := ⟨fun C ds μ r h => by
    have hC : C ∈ [("Throng" : Str)] := Prog.meth_in h
    simp only [List.mem_cons, List.not_mem_nil, or_false] at hC
    rcases hC with rfl
    · obtain ⟨c, f, fd, hc, hM, FD⟩ := Y.x_Throng_come
      exact ⟨c, f, fd, p_Throng_come, hc, (T.cls _ _ hc).1, hM, mt_all FD sc_Throng_come rfl (fun j hj => ok_Throng_come T (ih j hj) FD), bo_K FD 2 ["many"] rfl (fun _ _ _ _ _ _ us ws h1 h2 => match us, ws, h1, h2 with | [_, _], [_], _, _ => rfl)⟩⟩
  m_pour := ⟨fun C ds μ r h => by
    have hC : C ∈ [("Throng" : Str)] := Prog.meth_in h
    simp only [List.mem_cons, List.not_mem_nil, or_false] at hC
    rcases hC with rfl
    · obtain ⟨c, f, fd, hc, hM, FD⟩ := Y.x_Throng_pour
      exact ⟨c, f, fd, p_Throng_pour, hc, (T.cls _ _ hc).1, hM, mt_all FD sc_Throng_pour rfl (fun j hj => ok_Throng_pour T (ih j hj) FD), bo_N FD 2 rfl (fun _ _ _ _ _ _ us hl => match us, hl with | [_, _], _ => rfl)⟩⟩
  k_Throng := by
    obtain ⟨c, f, fd, hc, hM, hm, FD⟩ := Y.x_Throngu_initu
    exact ⟨c, f, fd, p_Throngu_initu, hc, hM, hm, mt_all FD sc_Throngu_initu rfl (fun j hj => ok_Throngu_initu T (ih j hj) FD), bo_N FD 2 rfl (fun _ _ _ _ _ _ us hl => match us, hl with | [_, _], _ => rfl)⟩
  m_mark := ⟨fun C ds μ r h => by
    have hC : C ∈ [("Throng" : Str)] := Prog.meth_in h
    simp only [List.mem_cons, List.not_mem_nil, or_false] at hC
    rcases hC with rfl
    · obtain ⟨c, f, fd, hc, hM, FD⟩ := Y.x_Throng_mark
      exact ⟨c, f, fd, p_Throng_mark, hc, (T.cls _ _ hc).1, hM, mt_all FD sc_Throng_mark rfl (fun j hj => ok_Throng_mark T (ih j hj) FD), bo_N FD 1 rfl (fun _ _ _ _ _ _ us hl => match us, hl with | [_], _ => rfl)⟩⟩
  m_back := ⟨fun C ds μ r h => by
    have hC : C ∈ [("Throng" : Str)] := Prog.meth_in h
    simp only [List.mem_cons, List.not_mem_nil, or_false] at hC
    rcases hC with rfl
    · obtain ⟨c, f, fd, hc, hM, FD⟩ := Y.x_Throng_back
      exact ⟨c, f, fd, p_Throng_back, hc, (T.cls _ _ hc).1, hM, mt_all FD sc_Throng_back rfl (fun j hj => ok_Throng_back T (ih j hj) FD), bo_N FD 2 rfl (fun _ _ _ _ _ _ us hl => match us, hl with | [_, _], _ => rfl)⟩⟩
  f__law_settled_throng := by
    obtain ⟨f, fd, FD, hm⟩ := Y.x__law_settled_throng
    exact ⟨f, fd, p__law_settled_throng, fn_all FD sc__law_settled_throng rfl (fun j hj => ok__law_settled_throng T (ih j hj) FD), hm, FD.kp, bo_N FD 4 rfl (fun _ _ _ _ _ _ us hl => match us, hl with | [_, _, _, _], _ => rfl)⟩
  f__law_history := by
    obtain ⟨f, fd, FD, hm⟩ := Y.x__law_history
    exact ⟨f, fd, p__law_history, fn_all FD sc__law_history rfl (fun j hj => ok__law_history T (ih j hj) FD), hm, FD.kp, bo_N FD 5 rfl (fun _ _ _ _ _ _ us hl => match us, hl with | [_, _, _, _, _], _ => rfl)⟩
  f__law_tape := by
    obtain ⟨f, fd, FD, hm⟩ := Y.x__law_tape
    exact ⟨f, fd, p__law_tape, fn_all FD sc__law_tape rfl (fun j hj => ok__law_tape T (ih j hj) FD), hm, FD.kp, bo_N FD 2 rfl (fun _ _ _ _ _ _ us hl => match us, hl with | [_, _], _ => rfl)⟩
  f__law_many_right := by
    obtain ⟨f, fd, FD, hm⟩ := Y.x__law_many_right
    exact ⟨f, fd, p__law_many_right, fn_all FD sc__law_many_right rfl (fun j hj => ok__law_many_right T (ih j hj) FD), hm, FD.kp, bo_N FD 1 rfl (fun _ _ _ _ _ _ us hl => match us, hl with | [_], _ => rfl)⟩
  m_uequ := ⟨fun C ds μ r h => by
    have hC : C ∈ [("Throng" : Str)] := Prog.meth_in h
    simp only [List.mem_cons, List.not_mem_nil, or_false] at hC
    rcases hC with rfl
    · obtain ⟨c, f, fd, hc, hM, FD⟩ := Y.x_Throngu_equ
      exact ⟨c, f, fd, p_Throngu_equ, hc, (T.cls _ _ hc).1, hM, mt_all FD sc_Throngu_equ rfl (fun j hj => ok_Throngu_equ T (ih j hj) FD), bo_N FD 2 rfl (fun _ _ _ _ _ _ us hl => match us, hl with | [_, _], _ => rfl)⟩⟩
theorem lv (T : Kn K mg ca) (Y : Fx K mg ca) : ∀ k, Lv P w K mg base ca wf k
  | 0 => lv_step T Y 0 fun j h => absurd h (by omega)
  | k + 1 => lv_step T Y (k + 1) fun j h => by
    have e : j = k := by omega
    subst e; exact lv T Y j
end
end LW
end

section
set_option maxHeartbeats 4000000
namespace LW
open PySem PySem.Spec L2 DP
theorem law_true (ns : List Int) (h : ns.length ≤ 63) : ∃ μ, (G.pr WF KD).call "law" [.scr ns] [] = some (.bl true, μ) := P96.law_true' ns h
def spLaw (K : PySem.W.Frag) : Sp := spD K (caOf clsL K) ((G.pr WF KD).call "law") 1
theorem all_mk {l : PySem.W.OpenLaw} {w : World} {K : PySem.W.Frag} {h : Heap} {mg : Str → Option Value} {fa C_Least C_Rest C_Throng A_GATE_WORDS f_Leastu_initu f_Least_led f_Least_met f_Restu_initu f_Rest_led f_Rest_met f_made_of f_many_of f_atoms_of f_truth_of f_pairs_of_folk f_Throngu_initu f_Throngu_equ f_Throngu_lenu f_Throng_words f_Throng_word_of_folk f_Throng_come f_Throng_need_folk f_Throng_changed f_Throng_meet f_Throng_says f_Throng_said f_Throng_pour f_Throng_stretch f_Throng_mark f_Throng_back f__law_cell_at f__law_tape f__law_digit f__law_weights f__law_atom f__law_is_so f__law_wide_sentence f__law_stretches f__law_settled_throng f__law_order_of_pairs f__law_met_in_order f__law_all_say f__law_history f__law_many_right f_law D_pairs_of_folk D_Throng_come D_Throng_stretch : Addr} (X : K.In h) (GN : h.Ns mainGlobals mg) (hfa : mg "law" = some (.ref fa))
    {od_Leastu_initu an_Leastu_initu od_Least_led an_Least_led od_Least_met an_Least_met od_Restu_initu an_Restu_initu od_Rest_led an_Rest_led od_Rest_met an_Rest_met od_made_of an_made_of od_many_of an_many_of od_atoms_of an_atoms_of od_truth_of an_truth_of od_pairs_of_folk an_pairs_of_folk od_Throngu_initu an_Throngu_initu od_Throngu_equ an_Throngu_equ od_Throngu_lenu an_Throngu_lenu od_Throng_words an_Throng_words od_Throng_word_of_folk an_Throng_word_of_folk od_Throng_come an_Throng_come od_Throng_need_folk an_Throng_need_folk od_Throng_changed an_Throng_changed od_Throng_meet an_Throng_meet od_Throng_says an_Throng_says od_Throng_said an_Throng_said od_Throng_pour an_Throng_pour od_Throng_stretch an_Throng_stretch od_Throng_mark an_Throng_mark od_Throng_back an_Throng_back od__law_cell_at an__law_cell_at od__law_tape an__law_tape od__law_digit an__law_digit od__law_weights an__law_weights od__law_atom an__law_atom od__law_is_so an__law_is_so od__law_wide_sentence an__law_wide_sentence od__law_stretches an__law_stretches od__law_settled_throng an__law_settled_throng od__law_order_of_pairs an__law_order_of_pairs od__law_met_in_order an__law_met_in_order od__law_all_say an__law_all_say od__law_history an__law_history od__law_many_right an__law_many_right od_law an_law gd_GATE_WORDS : Option Addr} {sl_Leastu_initu sl_Least_led sl_Least_met sl_Restu_initu sl_Rest_led sl_Rest_met sl_made_of sl_many_of sl_atoms_of sl_truth_of sl_pairs_of_folk sl_Throngu_initu sl_Throngu_equ sl_Throngu_lenu sl_Throng_words sl_Throng_word_of_folk sl_Throng_come sl_Throng_need_folk sl_Throng_changed sl_Throng_meet sl_Throng_says sl_Throng_said sl_Throng_pour sl_Throng_stretch sl_Throng_mark sl_Throng_back sl__law_cell_at sl__law_tape sl__law_digit sl__law_weights sl__law_atom sl__law_is_so sl__law_wide_sentence sl__law_stretches sl__law_settled_throng sl__law_order_of_pairs sl__law_met_in_order sl__law_all_say sl__law_history sl__law_many_right sl_law gs_GATE_WORDS : Array (Option Value)} {oc_Leastu_initu dc_Leastu_initu pm_Leastu_initu cd_Leastu_initu ct_Leastu_initu kV_Leastu_initu oc_Least_led dc_Least_led pm_Least_led cd_Least_led ct_Least_led kV_Least_led oc_Least_met dc_Least_met pm_Least_met cd_Least_met ct_Least_met kV_Least_met oc_Restu_initu dc_Restu_initu pm_Restu_initu cd_Restu_initu ct_Restu_initu kV_Restu_initu oc_Rest_led dc_Rest_led pm_Rest_led cd_Rest_led ct_Rest_led kV_Rest_led oc_Rest_met dc_Rest_met pm_Rest_met cd_Rest_met ct_Rest_met kV_Rest_met oc_made_of dc_made_of pm_made_of cd_made_of ct_made_of kV_made_of oc_many_of dc_many_of pm_many_of cd_many_of ct_many_of kV_many_of oc_atoms_of dc_atoms_of pm_atoms_of cd_atoms_of ct_atoms_of kV_atoms_of oc_truth_of dc_truth_of pm_truth_of cd_truth_of ct_truth_of kV_truth_of oc_pairs_of_folk dc_pairs_of_folk pm_pairs_of_folk cd_pairs_of_folk ct_pairs_of_folk oc_Throngu_initu dc_Throngu_initu pm_Throngu_initu cd_Throngu_initu ct_Throngu_initu kV_Throngu_initu oc_Throngu_equ dc_Throngu_equ pm_Throngu_equ cd_Throngu_equ ct_Throngu_equ kV_Throngu_equ oc_Throngu_lenu dc_Throngu_lenu pm_Throngu_lenu cd_Throngu_lenu ct_Throngu_lenu kV_Throngu_lenu oc_Throng_words dc_Throng_words pm_Throng_words cd_Throng_words ct_Throng_words kV_Throng_words oc_Throng_word_of_folk dc_Throng_word_of_folk pm_Throng_word_of_folk cd_Throng_word_of_folk ct_Throng_word_of_folk kV_Throng_word_of_folk oc_Throng_come dc_Throng_come pm_Throng_come cd_Throng_come ct_Throng_come oc_Throng_need_folk dc_Throng_need_folk pm_Throng_need_folk cd_Throng_need_folk ct_Throng_need_folk kV_Throng_need_folk oc_Throng_changed dc_Throng_changed pm_Throng_changed cd_Throng_changed ct_Throng_changed kV_Throng_changed oc_Throng_meet dc_Throng_meet pm_Throng_meet cd_Throng_meet ct_Throng_meet kV_Throng_meet oc_Throng_says dc_Throng_says pm_Throng_says cd_Throng_says ct_Throng_says kV_Throng_says oc_Throng_said dc_Throng_said pm_Throng_said cd_Throng_said ct_Throng_said kV_Throng_said oc_Throng_pour dc_Throng_pour pm_Throng_pour cd_Throng_pour ct_Throng_pour kV_Throng_pour oc_Throng_stretch dc_Throng_stretch pm_Throng_stretch cd_Throng_stretch ct_Throng_stretch oc_Throng_mark dc_Throng_mark pm_Throng_mark cd_Throng_mark ct_Throng_mark kV_Throng_mark oc_Throng_back dc_Throng_back pm_Throng_back cd_Throng_back ct_Throng_back kV_Throng_back oc__law_cell_at dc__law_cell_at pm__law_cell_at cd__law_cell_at ct__law_cell_at kV__law_cell_at oc__law_tape dc__law_tape pm__law_tape cd__law_tape ct__law_tape kV__law_tape oc__law_digit dc__law_digit pm__law_digit cd__law_digit ct__law_digit kV__law_digit oc__law_weights dc__law_weights pm__law_weights cd__law_weights ct__law_weights kV__law_weights oc__law_atom dc__law_atom pm__law_atom cd__law_atom ct__law_atom kV__law_atom oc__law_is_so dc__law_is_so pm__law_is_so cd__law_is_so ct__law_is_so kV__law_is_so oc__law_wide_sentence dc__law_wide_sentence pm__law_wide_sentence cd__law_wide_sentence ct__law_wide_sentence kV__law_wide_sentence oc__law_stretches dc__law_stretches pm__law_stretches cd__law_stretches ct__law_stretches kV__law_stretches oc__law_settled_throng dc__law_settled_throng pm__law_settled_throng cd__law_settled_throng ct__law_settled_throng kV__law_settled_throng oc__law_order_of_pairs dc__law_order_of_pairs pm__law_order_of_pairs cd__law_order_of_pairs ct__law_order_of_pairs kV__law_order_of_pairs oc__law_met_in_order dc__law_met_in_order pm__law_met_in_order cd__law_met_in_order ct__law_met_in_order kV__law_met_in_order oc__law_all_say dc__law_all_say pm__law_all_say cd__law_all_say ct__law_all_say kV__law_all_say oc__law_history dc__law_history pm__law_history cd__law_history ct__law_history kV__law_history oc__law_many_right dc__law_many_right pm__law_many_right cd__law_many_right ct__law_many_right kV__law_many_right oc_law dc_law pm_law cd_law ct_law kV_law : Value} {tk_GATE_WORDS_0 tk_GATE_WORDS_1 tk_GATE_WORDS_2 tk_Throng_come_many : Tok} {gn_GATE_WORDS : Nat}
    (a_Least : PySem.W.nsIn K mainGlobals "Least" = some (some (.ref C_Least)))
    (pg_Least : PySem.W.plainGet K C_Least Str.empty = true)
    (hd_Least : PySem.W.hasDictIn K C_Least = true)
    (po_Least : PySem.W.plainOver K C_Least = true)
    (sa_Least : PySem.W.findIn K (.ref C_Least) "__setattr__" = some (some (.builtin "object.__setattr__")))
    (mk_Least : PySem.W.makesIn K C_Least = true)
    (kc_Least : PySem.W.keepIn K (.ref C_Least) = true)
    (ne_Least : PySem.W.findIn K (.ref C_Least) "__ne__" = some (some (.builtin "object.__ne__")))
    (mo_Least : PySem.W.mroIn K C_Least (.type "object") = some true)
    (n_Least_most : PySem.W.findIn K (.ref C_Least) "most" = some none)
    (n_Least_bound : PySem.W.findIn K (.ref C_Least) "bound" = some none)
    (hc_Least : PySem.W.findIn K (.ref C_Least) "__class__" = some (some (.builtin "object.__class__")))
    (a_Rest : PySem.W.nsIn K mainGlobals "Rest" = some (some (.ref C_Rest)))
    (pg_Rest : PySem.W.plainGet K C_Rest Str.empty = true)
    (hd_Rest : PySem.W.hasDictIn K C_Rest = true)
    (po_Rest : PySem.W.plainOver K C_Rest = true)
    (sa_Rest : PySem.W.findIn K (.ref C_Rest) "__setattr__" = some (some (.builtin "object.__setattr__")))
    (mk_Rest : PySem.W.makesIn K C_Rest = true)
    (kc_Rest : PySem.W.keepIn K (.ref C_Rest) = true)
    (ne_Rest : PySem.W.findIn K (.ref C_Rest) "__ne__" = some (some (.builtin "object.__ne__")))
    (mo_Rest : PySem.W.mroIn K C_Rest (.type "object") = some true)
    (n_Rest_wheel : PySem.W.findIn K (.ref C_Rest) "wheel" = some none)
    (n_Rest_rest : PySem.W.findIn K (.ref C_Rest) "rest" = some none)
    (hc_Rest : PySem.W.findIn K (.ref C_Rest) "__class__" = some (some (.builtin "object.__class__")))
    (a_Throng : PySem.W.nsIn K mainGlobals "Throng" = some (some (.ref C_Throng)))
    (pg_Throng : PySem.W.plainGet K C_Throng Str.empty = true)
    (hd_Throng : PySem.W.hasDictIn K C_Throng = true)
    (po_Throng : PySem.W.plainOver K C_Throng = true)
    (sa_Throng : PySem.W.findIn K (.ref C_Throng) "__setattr__" = some (some (.builtin "object.__setattr__")))
    (mk_Throng : PySem.W.makesIn K C_Throng = true)
    (kc_Throng : PySem.W.keepIn K (.ref C_Throng) = true)
    (ne_Throng : PySem.W.findIn K (.ref C_Throng) "__ne__" = some (some (.builtin "object.__ne__")))
    (mo_Throng : PySem.W.mroIn K C_Throng (.type "object") = some true)
    (n_Throng_sentence : PySem.W.findIn K (.ref C_Throng) "sentence" = some none)
    (n_Throng_parts : PySem.W.findIn K (.ref C_Throng) "parts" = some none)
    (n_Throng_folk : PySem.W.findIn K (.ref C_Throng) "folk" = some none)
    (n_Throng_by_gate : PySem.W.findIn K (.ref C_Throng) "by_gate" = some none)
    (n_Throng_marks : PySem.W.findIn K (.ref C_Throng) "marks" = some none)
    (hc_Throng : PySem.W.findIn K (.ref C_Throng) "__class__" = some (some (.builtin "object.__class__")))
    (mq_Least_Throng : PySem.W.mroIn K C_Least (.ref C_Throng) = some false)
    (mq_Rest_Throng : PySem.W.mroIn K C_Rest (.ref C_Throng) = some false)
    (mq_Throng_Throng : PySem.W.mroIn K C_Throng (.ref C_Throng) = some true)
    (ty_Throng : PySem.W.typeIn K (.ref C_Throng) = some (.type "type"))
    (hn_ : PySem.W.specialIn K (.builtin "object.__class__") "__get__" = some (some (.builtin "getset_descriptor.__get__")))
    (ht_ : PySem.W.takesIn K (.builtin "object.__class__") = some true)
    (z_abs : PySem.W.nsIn K mainGlobals "abs" = some none)
    (z_all : PySem.W.nsIn K mainGlobals "all" = some none)
    (z_any : PySem.W.nsIn K mainGlobals "any" = some none)
    (z_dict : PySem.W.nsIn K mainGlobals "dict" = some none)
    (z_int : PySem.W.nsIn K mainGlobals "int" = some none)
    (z_isinstance : PySem.W.nsIn K mainGlobals "isinstance" = some none)
    (z_len : PySem.W.nsIn K mainGlobals "len" = some none)
    (z_list : PySem.W.nsIn K mainGlobals "list" = some none)
    (z_max : PySem.W.nsIn K mainGlobals "max" = some none)
    (z_min : PySem.W.nsIn K mainGlobals "min" = some none)
    (z_range : PySem.W.nsIn K mainGlobals "range" = some none)
    (z_sum : PySem.W.nsIn K mainGlobals "sum" = some none)
    (z_tuple : PySem.W.nsIn K mainGlobals "tuple" = some none)
    (z_zip : PySem.W.nsIn K mainGlobals "zip" = some none)
    (ga_GATE_WORDS : PySem.W.nsIn K mainGlobals "GATE_WORDS" = some (some (.ref A_GATE_WORDS)))
    (gl_GATE_WORDS : K.lookup A_GATE_WORDS = some ⟨.type "tuple", gd_GATE_WORDS, .seq #[.str "a" tk_GATE_WORDS_0, .str "b" tk_GATE_WORDS_1, .str "c" tk_GATE_WORDS_2] gn_GATE_WORDS, gs_GATE_WORDS⟩)
    (a_Leastu_initu : PySem.W.findIn K (.ref C_Least) "__init__" = some (some (.ref f_Leastu_initu)))
    (i_Leastu_initu : PySem.W.isFn K (.ref f_Leastu_initu) = true)
    (l_Leastu_initu : K.lookup f_Leastu_initu = some ⟨oc_Leastu_initu, od_Leastu_initu, .func (PySem.W.fnOf "__init__" "Least.__init__" (defArgs s_Leastu_initu) (defBody s_Leastu_initu) (defScope s_Leastu_initu) .none kV_Leastu_initu dc_Leastu_initu pm_Leastu_initu an_Leastu_initu cd_Leastu_initu ct_Leastu_initu), sl_Leastu_initu⟩)
    (c_Leastu_initu : PySem.W.codeIn K cd_Leastu_initu "Least.__init__" = true)
    (k_Leastu_initu : PySem.W.keepIn K (.ref f_Leastu_initu) = true)
    (a_Least_led : PySem.W.findIn K (.ref C_Least) "led" = some (some (.ref f_Least_led)))
    (i_Least_led : PySem.W.isFn K (.ref f_Least_led) = true)
    (l_Least_led : K.lookup f_Least_led = some ⟨oc_Least_led, od_Least_led, .func (PySem.W.fnOf "led" "Least.led" (defArgs s_Least_led) (defBody s_Least_led) (defScope s_Least_led) .none kV_Least_led dc_Least_led pm_Least_led an_Least_led cd_Least_led ct_Least_led), sl_Least_led⟩)
    (c_Least_led : PySem.W.codeIn K cd_Least_led "Least.led" = true)
    (k_Least_led : PySem.W.keepIn K (.ref f_Least_led) = true)
    (a_Least_met : PySem.W.findIn K (.ref C_Least) "met" = some (some (.ref f_Least_met)))
    (i_Least_met : PySem.W.isFn K (.ref f_Least_met) = true)
    (l_Least_met : K.lookup f_Least_met = some ⟨oc_Least_met, od_Least_met, .func (PySem.W.fnOf "met" "Least.met" (defArgs s_Least_met) (defBody s_Least_met) (defScope s_Least_met) .none kV_Least_met dc_Least_met pm_Least_met an_Least_met cd_Least_met ct_Least_met), sl_Least_met⟩)
    (c_Least_met : PySem.W.codeIn K cd_Least_met "Least.met" = true)
    (k_Least_met : PySem.W.keepIn K (.ref f_Least_met) = true)
    (a_Restu_initu : PySem.W.findIn K (.ref C_Rest) "__init__" = some (some (.ref f_Restu_initu)))
    (i_Restu_initu : PySem.W.isFn K (.ref f_Restu_initu) = true)
    (l_Restu_initu : K.lookup f_Restu_initu = some ⟨oc_Restu_initu, od_Restu_initu, .func (PySem.W.fnOf "__init__" "Rest.__init__" (defArgs s_Restu_initu) (defBody s_Restu_initu) (defScope s_Restu_initu) .none kV_Restu_initu dc_Restu_initu pm_Restu_initu an_Restu_initu cd_Restu_initu ct_Restu_initu), sl_Restu_initu⟩)
    (c_Restu_initu : PySem.W.codeIn K cd_Restu_initu "Rest.__init__" = true)
    (k_Restu_initu : PySem.W.keepIn K (.ref f_Restu_initu) = true)
    (a_Rest_led : PySem.W.findIn K (.ref C_Rest) "led" = some (some (.ref f_Rest_led)))
    (i_Rest_led : PySem.W.isFn K (.ref f_Rest_led) = true)
    (l_Rest_led : K.lookup f_Rest_led = some ⟨oc_Rest_led, od_Rest_led, .func (PySem.W.fnOf "led" "Rest.led" (defArgs s_Rest_led) (defBody s_Rest_led) (defScope s_Rest_led) .none kV_Rest_led dc_Rest_led pm_Rest_led an_Rest_led cd_Rest_led ct_Rest_led), sl_Rest_led⟩)
    (c_Rest_led : PySem.W.codeIn K cd_Rest_led "Rest.led" = true)
    (k_Rest_led : PySem.W.keepIn K (.ref f_Rest_led) = true)
    (a_Rest_met : PySem.W.findIn K (.ref C_Rest) "met" = some (some (.ref f_Rest_met)))
    (i_Rest_met : PySem.W.isFn K (.ref f_Rest_met) = true)
    (l_Rest_met : K.lookup f_Rest_met = some ⟨oc_Rest_met, od_Rest_met, .func (PySem.W.fnOf "met" "Rest.met" (defArgs s_Rest_met) (defBody s_Rest_met) (defScope s_Rest_met) .none kV_Rest_met dc_Rest_met pm_Rest_met an_Rest_met cd_Rest_met ct_Rest_met), sl_Rest_met⟩)
    (c_Rest_met : PySem.W.codeIn K cd_Rest_met "Rest.met" = true)
    (k_Rest_met : PySem.W.keepIn K (.ref f_Rest_met) = true)
    (a_made_of : PySem.W.nsIn K mainGlobals "made_of" = some (some (.ref f_made_of)))
    (l_made_of : K.lookup f_made_of = some ⟨oc_made_of, od_made_of, .func (PySem.W.fnOf "made_of" "made_of" (defArgs s_made_of) (defBody s_made_of) (defScope s_made_of) .none kV_made_of dc_made_of pm_made_of an_made_of cd_made_of ct_made_of), sl_made_of⟩)
    (c_made_of : PySem.W.codeIn K cd_made_of "made_of" = true)
    (k_made_of : PySem.W.keepIn K (.ref f_made_of) = true)
    (a_many_of : PySem.W.nsIn K mainGlobals "many_of" = some (some (.ref f_many_of)))
    (l_many_of : K.lookup f_many_of = some ⟨oc_many_of, od_many_of, .func (PySem.W.fnOf "many_of" "many_of" (defArgs s_many_of) (defBody s_many_of) (defScope s_many_of) .none kV_many_of dc_many_of pm_many_of an_many_of cd_many_of ct_many_of), sl_many_of⟩)
    (c_many_of : PySem.W.codeIn K cd_many_of "many_of" = true)
    (k_many_of : PySem.W.keepIn K (.ref f_many_of) = true)
    (a_atoms_of : PySem.W.nsIn K mainGlobals "atoms_of" = some (some (.ref f_atoms_of)))
    (l_atoms_of : K.lookup f_atoms_of = some ⟨oc_atoms_of, od_atoms_of, .func (PySem.W.fnOf "atoms_of" "atoms_of" (defArgs s_atoms_of) (defBody s_atoms_of) (defScope s_atoms_of) .none kV_atoms_of dc_atoms_of pm_atoms_of an_atoms_of cd_atoms_of ct_atoms_of), sl_atoms_of⟩)
    (c_atoms_of : PySem.W.codeIn K cd_atoms_of "atoms_of" = true)
    (k_atoms_of : PySem.W.keepIn K (.ref f_atoms_of) = true)
    (a_truth_of : PySem.W.nsIn K mainGlobals "truth_of" = some (some (.ref f_truth_of)))
    (l_truth_of : K.lookup f_truth_of = some ⟨oc_truth_of, od_truth_of, .func (PySem.W.fnOf "truth_of" "truth_of" (defArgs s_truth_of) (defBody s_truth_of) (defScope s_truth_of) .none kV_truth_of dc_truth_of pm_truth_of an_truth_of cd_truth_of ct_truth_of), sl_truth_of⟩)
    (c_truth_of : PySem.W.codeIn K cd_truth_of "truth_of" = true)
    (k_truth_of : PySem.W.keepIn K (.ref f_truth_of) = true)
    (a_pairs_of_folk : PySem.W.nsIn K mainGlobals "pairs_of_folk" = some (some (.ref f_pairs_of_folk)))
    (l_pairs_of_folk : K.lookup f_pairs_of_folk = some ⟨oc_pairs_of_folk, od_pairs_of_folk, .func (PySem.W.fnOf "pairs_of_folk" "pairs_of_folk" (defArgs s_pairs_of_folk) (defBody s_pairs_of_folk) (defScope s_pairs_of_folk) .none (.ref D_pairs_of_folk) dc_pairs_of_folk pm_pairs_of_folk an_pairs_of_folk cd_pairs_of_folk ct_pairs_of_folk), sl_pairs_of_folk⟩)
    (c_pairs_of_folk : PySem.W.codeIn K cd_pairs_of_folk "pairs_of_folk" = true)
    (k_pairs_of_folk : PySem.W.keepIn K (.ref f_pairs_of_folk) = true)
    (w_pairs_of_folk_backward : PySem.W.nsIn K D_pairs_of_folk "backward" = some (some (.bool false)))
    (a_Throngu_initu : PySem.W.findIn K (.ref C_Throng) "__init__" = some (some (.ref f_Throngu_initu)))
    (i_Throngu_initu : PySem.W.isFn K (.ref f_Throngu_initu) = true)
    (l_Throngu_initu : K.lookup f_Throngu_initu = some ⟨oc_Throngu_initu, od_Throngu_initu, .func (PySem.W.fnOf "__init__" "Throng.__init__" (defArgs s_Throngu_initu) (defBody s_Throngu_initu) (defScope s_Throngu_initu) .none kV_Throngu_initu dc_Throngu_initu pm_Throngu_initu an_Throngu_initu cd_Throngu_initu ct_Throngu_initu), sl_Throngu_initu⟩)
    (c_Throngu_initu : PySem.W.codeIn K cd_Throngu_initu "Throng.__init__" = true)
    (k_Throngu_initu : PySem.W.keepIn K (.ref f_Throngu_initu) = true)
    (a_Throngu_equ : PySem.W.findIn K (.ref C_Throng) "__eq__" = some (some (.ref f_Throngu_equ)))
    (i_Throngu_equ : PySem.W.isFn K (.ref f_Throngu_equ) = true)
    (l_Throngu_equ : K.lookup f_Throngu_equ = some ⟨oc_Throngu_equ, od_Throngu_equ, .func (PySem.W.fnOf "__eq__" "Throng.__eq__" (defArgs s_Throngu_equ) (defBody s_Throngu_equ) (defScope s_Throngu_equ) .none kV_Throngu_equ dc_Throngu_equ pm_Throngu_equ an_Throngu_equ cd_Throngu_equ ct_Throngu_equ), sl_Throngu_equ⟩)
    (c_Throngu_equ : PySem.W.codeIn K cd_Throngu_equ "Throng.__eq__" = true)
    (k_Throngu_equ : PySem.W.keepIn K (.ref f_Throngu_equ) = true)
    (a_Throngu_lenu : PySem.W.findIn K (.ref C_Throng) "__len__" = some (some (.ref f_Throngu_lenu)))
    (i_Throngu_lenu : PySem.W.isFn K (.ref f_Throngu_lenu) = true)
    (l_Throngu_lenu : K.lookup f_Throngu_lenu = some ⟨oc_Throngu_lenu, od_Throngu_lenu, .func (PySem.W.fnOf "__len__" "Throng.__len__" (defArgs s_Throngu_lenu) (defBody s_Throngu_lenu) (defScope s_Throngu_lenu) .none kV_Throngu_lenu dc_Throngu_lenu pm_Throngu_lenu an_Throngu_lenu cd_Throngu_lenu ct_Throngu_lenu), sl_Throngu_lenu⟩)
    (c_Throngu_lenu : PySem.W.codeIn K cd_Throngu_lenu "Throng.__len__" = true)
    (k_Throngu_lenu : PySem.W.keepIn K (.ref f_Throngu_lenu) = true)
    (a_Throng_words : PySem.W.findIn K (.ref C_Throng) "words" = some (some (.ref f_Throng_words)))
    (i_Throng_words : PySem.W.isFn K (.ref f_Throng_words) = true)
    (l_Throng_words : K.lookup f_Throng_words = some ⟨oc_Throng_words, od_Throng_words, .func (PySem.W.fnOf "words" "Throng.words" (defArgs s_Throng_words) (defBody s_Throng_words) (defScope s_Throng_words) .none kV_Throng_words dc_Throng_words pm_Throng_words an_Throng_words cd_Throng_words ct_Throng_words), sl_Throng_words⟩)
    (c_Throng_words : PySem.W.codeIn K cd_Throng_words "Throng.words" = true)
    (k_Throng_words : PySem.W.keepIn K (.ref f_Throng_words) = true)
    (a_Throng_word_of_folk : PySem.W.findIn K (.ref C_Throng) "word_of_folk" = some (some (.ref f_Throng_word_of_folk)))
    (i_Throng_word_of_folk : PySem.W.isFn K (.ref f_Throng_word_of_folk) = true)
    (l_Throng_word_of_folk : K.lookup f_Throng_word_of_folk = some ⟨oc_Throng_word_of_folk, od_Throng_word_of_folk, .func (PySem.W.fnOf "word_of_folk" "Throng.word_of_folk" (defArgs s_Throng_word_of_folk) (defBody s_Throng_word_of_folk) (defScope s_Throng_word_of_folk) .none kV_Throng_word_of_folk dc_Throng_word_of_folk pm_Throng_word_of_folk an_Throng_word_of_folk cd_Throng_word_of_folk ct_Throng_word_of_folk), sl_Throng_word_of_folk⟩)
    (c_Throng_word_of_folk : PySem.W.codeIn K cd_Throng_word_of_folk "Throng.word_of_folk" = true)
    (k_Throng_word_of_folk : PySem.W.keepIn K (.ref f_Throng_word_of_folk) = true)
    (a_Throng_come : PySem.W.findIn K (.ref C_Throng) "come" = some (some (.ref f_Throng_come)))
    (i_Throng_come : PySem.W.isFn K (.ref f_Throng_come) = true)
    (l_Throng_come : K.lookup f_Throng_come = some ⟨oc_Throng_come, od_Throng_come, .func (PySem.W.fnOf "come" "Throng.come" (defArgs s_Throng_come) (defBody s_Throng_come) (defScope s_Throng_come) .none (.ref D_Throng_come) dc_Throng_come pm_Throng_come an_Throng_come cd_Throng_come ct_Throng_come), sl_Throng_come⟩)
    (c_Throng_come : PySem.W.codeIn K cd_Throng_come "Throng.come" = true)
    (k_Throng_come : PySem.W.keepIn K (.ref f_Throng_come) = true)
    (w_Throng_come_many : PySem.W.nsIn K D_Throng_come "many" = some (some (.int 1 tk_Throng_come_many)))
    (a_Throng_need_folk : PySem.W.findIn K (.ref C_Throng) "need_folk" = some (some (.ref f_Throng_need_folk)))
    (i_Throng_need_folk : PySem.W.isFn K (.ref f_Throng_need_folk) = true)
    (l_Throng_need_folk : K.lookup f_Throng_need_folk = some ⟨oc_Throng_need_folk, od_Throng_need_folk, .func (PySem.W.fnOf "need_folk" "Throng.need_folk" (defArgs s_Throng_need_folk) (defBody s_Throng_need_folk) (defScope s_Throng_need_folk) .none kV_Throng_need_folk dc_Throng_need_folk pm_Throng_need_folk an_Throng_need_folk cd_Throng_need_folk ct_Throng_need_folk), sl_Throng_need_folk⟩)
    (c_Throng_need_folk : PySem.W.codeIn K cd_Throng_need_folk "Throng.need_folk" = true)
    (k_Throng_need_folk : PySem.W.keepIn K (.ref f_Throng_need_folk) = true)
    (a_Throng_changed : PySem.W.findIn K (.ref C_Throng) "changed" = some (some (.ref f_Throng_changed)))
    (i_Throng_changed : PySem.W.isFn K (.ref f_Throng_changed) = true)
    (l_Throng_changed : K.lookup f_Throng_changed = some ⟨oc_Throng_changed, od_Throng_changed, .func (PySem.W.fnOf "changed" "Throng.changed" (defArgs s_Throng_changed) (defBody s_Throng_changed) (defScope s_Throng_changed) .none kV_Throng_changed dc_Throng_changed pm_Throng_changed an_Throng_changed cd_Throng_changed ct_Throng_changed), sl_Throng_changed⟩)
    (c_Throng_changed : PySem.W.codeIn K cd_Throng_changed "Throng.changed" = true)
    (k_Throng_changed : PySem.W.keepIn K (.ref f_Throng_changed) = true)
    (a_Throng_meet : PySem.W.findIn K (.ref C_Throng) "meet" = some (some (.ref f_Throng_meet)))
    (i_Throng_meet : PySem.W.isFn K (.ref f_Throng_meet) = true)
    (l_Throng_meet : K.lookup f_Throng_meet = some ⟨oc_Throng_meet, od_Throng_meet, .func (PySem.W.fnOf "meet" "Throng.meet" (defArgs s_Throng_meet) (defBody s_Throng_meet) (defScope s_Throng_meet) .none kV_Throng_meet dc_Throng_meet pm_Throng_meet an_Throng_meet cd_Throng_meet ct_Throng_meet), sl_Throng_meet⟩)
    (c_Throng_meet : PySem.W.codeIn K cd_Throng_meet "Throng.meet" = true)
    (k_Throng_meet : PySem.W.keepIn K (.ref f_Throng_meet) = true)
    (a_Throng_says : PySem.W.findIn K (.ref C_Throng) "says" = some (some (.ref f_Throng_says)))
    (i_Throng_says : PySem.W.isFn K (.ref f_Throng_says) = true)
    (l_Throng_says : K.lookup f_Throng_says = some ⟨oc_Throng_says, od_Throng_says, .func (PySem.W.fnOf "says" "Throng.says" (defArgs s_Throng_says) (defBody s_Throng_says) (defScope s_Throng_says) .none kV_Throng_says dc_Throng_says pm_Throng_says an_Throng_says cd_Throng_says ct_Throng_says), sl_Throng_says⟩)
    (c_Throng_says : PySem.W.codeIn K cd_Throng_says "Throng.says" = true)
    (k_Throng_says : PySem.W.keepIn K (.ref f_Throng_says) = true)
    (a_Throng_said : PySem.W.findIn K (.ref C_Throng) "said" = some (some (.ref f_Throng_said)))
    (i_Throng_said : PySem.W.isFn K (.ref f_Throng_said) = true)
    (l_Throng_said : K.lookup f_Throng_said = some ⟨oc_Throng_said, od_Throng_said, .func (PySem.W.fnOf "said" "Throng.said" (defArgs s_Throng_said) (defBody s_Throng_said) (defScope s_Throng_said) .none kV_Throng_said dc_Throng_said pm_Throng_said an_Throng_said cd_Throng_said ct_Throng_said), sl_Throng_said⟩)
    (c_Throng_said : PySem.W.codeIn K cd_Throng_said "Throng.said" = true)
    (k_Throng_said : PySem.W.keepIn K (.ref f_Throng_said) = true)
    (a_Throng_pour : PySem.W.findIn K (.ref C_Throng) "pour" = some (some (.ref f_Throng_pour)))
    (i_Throng_pour : PySem.W.isFn K (.ref f_Throng_pour) = true)
    (l_Throng_pour : K.lookup f_Throng_pour = some ⟨oc_Throng_pour, od_Throng_pour, .func (PySem.W.fnOf "pour" "Throng.pour" (defArgs s_Throng_pour) (defBody s_Throng_pour) (defScope s_Throng_pour) .none kV_Throng_pour dc_Throng_pour pm_Throng_pour an_Throng_pour cd_Throng_pour ct_Throng_pour), sl_Throng_pour⟩)
    (c_Throng_pour : PySem.W.codeIn K cd_Throng_pour "Throng.pour" = true)
    (k_Throng_pour : PySem.W.keepIn K (.ref f_Throng_pour) = true)
    (a_Throng_stretch : PySem.W.findIn K (.ref C_Throng) "stretch" = some (some (.ref f_Throng_stretch)))
    (i_Throng_stretch : PySem.W.isFn K (.ref f_Throng_stretch) = true)
    (l_Throng_stretch : K.lookup f_Throng_stretch = some ⟨oc_Throng_stretch, od_Throng_stretch, .func (PySem.W.fnOf "stretch" "Throng.stretch" (defArgs s_Throng_stretch) (defBody s_Throng_stretch) (defScope s_Throng_stretch) .none (.ref D_Throng_stretch) dc_Throng_stretch pm_Throng_stretch an_Throng_stretch cd_Throng_stretch ct_Throng_stretch), sl_Throng_stretch⟩)
    (c_Throng_stretch : PySem.W.codeIn K cd_Throng_stretch "Throng.stretch" = true)
    (k_Throng_stretch : PySem.W.keepIn K (.ref f_Throng_stretch) = true)
    (w_Throng_stretch_backward : PySem.W.nsIn K D_Throng_stretch "backward" = some (some (.bool false)))
    (a_Throng_mark : PySem.W.findIn K (.ref C_Throng) "mark" = some (some (.ref f_Throng_mark)))
    (i_Throng_mark : PySem.W.isFn K (.ref f_Throng_mark) = true)
    (l_Throng_mark : K.lookup f_Throng_mark = some ⟨oc_Throng_mark, od_Throng_mark, .func (PySem.W.fnOf "mark" "Throng.mark" (defArgs s_Throng_mark) (defBody s_Throng_mark) (defScope s_Throng_mark) .none kV_Throng_mark dc_Throng_mark pm_Throng_mark an_Throng_mark cd_Throng_mark ct_Throng_mark), sl_Throng_mark⟩)
    (c_Throng_mark : PySem.W.codeIn K cd_Throng_mark "Throng.mark" = true)
    (k_Throng_mark : PySem.W.keepIn K (.ref f_Throng_mark) = true)
    (a_Throng_back : PySem.W.findIn K (.ref C_Throng) "back" = some (some (.ref f_Throng_back)))
    (i_Throng_back : PySem.W.isFn K (.ref f_Throng_back) = true)
    (l_Throng_back : K.lookup f_Throng_back = some ⟨oc_Throng_back, od_Throng_back, .func (PySem.W.fnOf "back" "Throng.back" (defArgs s_Throng_back) (defBody s_Throng_back) (defScope s_Throng_back) .none kV_Throng_back dc_Throng_back pm_Throng_back an_Throng_back cd_Throng_back ct_Throng_back), sl_Throng_back⟩)
    (c_Throng_back : PySem.W.codeIn K cd_Throng_back "Throng.back" = true)
    (k_Throng_back : PySem.W.keepIn K (.ref f_Throng_back) = true)
    (a__law_cell_at : PySem.W.nsIn K mainGlobals "_law_cell_at" = some (some (.ref f__law_cell_at)))
    (l__law_cell_at : K.lookup f__law_cell_at = some ⟨oc__law_cell_at, od__law_cell_at, .func (PySem.W.fnOf "_law_cell_at" "_law_cell_at" (defArgs s__law_cell_at) (defBody s__law_cell_at) (defScope s__law_cell_at) .none kV__law_cell_at dc__law_cell_at pm__law_cell_at an__law_cell_at cd__law_cell_at ct__law_cell_at), sl__law_cell_at⟩)
    (c__law_cell_at : PySem.W.codeIn K cd__law_cell_at "_law_cell_at" = true)
    (k__law_cell_at : PySem.W.keepIn K (.ref f__law_cell_at) = true)
    (a__law_tape : PySem.W.nsIn K mainGlobals "_law_tape" = some (some (.ref f__law_tape)))
    (l__law_tape : K.lookup f__law_tape = some ⟨oc__law_tape, od__law_tape, .func (PySem.W.fnOf "_law_tape" "_law_tape" (defArgs s__law_tape) (defBody s__law_tape) (defScope s__law_tape) .none kV__law_tape dc__law_tape pm__law_tape an__law_tape cd__law_tape ct__law_tape), sl__law_tape⟩)
    (c__law_tape : PySem.W.codeIn K cd__law_tape "_law_tape" = true)
    (k__law_tape : PySem.W.keepIn K (.ref f__law_tape) = true)
    (a__law_digit : PySem.W.nsIn K mainGlobals "_law_digit" = some (some (.ref f__law_digit)))
    (l__law_digit : K.lookup f__law_digit = some ⟨oc__law_digit, od__law_digit, .func (PySem.W.fnOf "_law_digit" "_law_digit" (defArgs s__law_digit) (defBody s__law_digit) (defScope s__law_digit) .none kV__law_digit dc__law_digit pm__law_digit an__law_digit cd__law_digit ct__law_digit), sl__law_digit⟩)
    (c__law_digit : PySem.W.codeIn K cd__law_digit "_law_digit" = true)
    (k__law_digit : PySem.W.keepIn K (.ref f__law_digit) = true)
    (a__law_weights : PySem.W.nsIn K mainGlobals "_law_weights" = some (some (.ref f__law_weights)))
    (l__law_weights : K.lookup f__law_weights = some ⟨oc__law_weights, od__law_weights, .func (PySem.W.fnOf "_law_weights" "_law_weights" (defArgs s__law_weights) (defBody s__law_weights) (defScope s__law_weights) .none kV__law_weights dc__law_weights pm__law_weights an__law_weights cd__law_weights ct__law_weights), sl__law_weights⟩)
    (c__law_weights : PySem.W.codeIn K cd__law_weights "_law_weights" = true)
    (k__law_weights : PySem.W.keepIn K (.ref f__law_weights) = true)
    (a__law_atom : PySem.W.nsIn K mainGlobals "_law_atom" = some (some (.ref f__law_atom)))
    (l__law_atom : K.lookup f__law_atom = some ⟨oc__law_atom, od__law_atom, .func (PySem.W.fnOf "_law_atom" "_law_atom" (defArgs s__law_atom) (defBody s__law_atom) (defScope s__law_atom) .none kV__law_atom dc__law_atom pm__law_atom an__law_atom cd__law_atom ct__law_atom), sl__law_atom⟩)
    (c__law_atom : PySem.W.codeIn K cd__law_atom "_law_atom" = true)
    (k__law_atom : PySem.W.keepIn K (.ref f__law_atom) = true)
    (a__law_is_so : PySem.W.nsIn K mainGlobals "_law_is_so" = some (some (.ref f__law_is_so)))
    (l__law_is_so : K.lookup f__law_is_so = some ⟨oc__law_is_so, od__law_is_so, .func (PySem.W.fnOf "_law_is_so" "_law_is_so" (defArgs s__law_is_so) (defBody s__law_is_so) (defScope s__law_is_so) .none kV__law_is_so dc__law_is_so pm__law_is_so an__law_is_so cd__law_is_so ct__law_is_so), sl__law_is_so⟩)
    (c__law_is_so : PySem.W.codeIn K cd__law_is_so "_law_is_so" = true)
    (k__law_is_so : PySem.W.keepIn K (.ref f__law_is_so) = true)
    (a__law_wide_sentence : PySem.W.nsIn K mainGlobals "_law_wide_sentence" = some (some (.ref f__law_wide_sentence)))
    (l__law_wide_sentence : K.lookup f__law_wide_sentence = some ⟨oc__law_wide_sentence, od__law_wide_sentence, .func (PySem.W.fnOf "_law_wide_sentence" "_law_wide_sentence" (defArgs s__law_wide_sentence) (defBody s__law_wide_sentence) (defScope s__law_wide_sentence) .none kV__law_wide_sentence dc__law_wide_sentence pm__law_wide_sentence an__law_wide_sentence cd__law_wide_sentence ct__law_wide_sentence), sl__law_wide_sentence⟩)
    (c__law_wide_sentence : PySem.W.codeIn K cd__law_wide_sentence "_law_wide_sentence" = true)
    (k__law_wide_sentence : PySem.W.keepIn K (.ref f__law_wide_sentence) = true)
    (a__law_stretches : PySem.W.nsIn K mainGlobals "_law_stretches" = some (some (.ref f__law_stretches)))
    (l__law_stretches : K.lookup f__law_stretches = some ⟨oc__law_stretches, od__law_stretches, .func (PySem.W.fnOf "_law_stretches" "_law_stretches" (defArgs s__law_stretches) (defBody s__law_stretches) (defScope s__law_stretches) .none kV__law_stretches dc__law_stretches pm__law_stretches an__law_stretches cd__law_stretches ct__law_stretches), sl__law_stretches⟩)
    (c__law_stretches : PySem.W.codeIn K cd__law_stretches "_law_stretches" = true)
    (k__law_stretches : PySem.W.keepIn K (.ref f__law_stretches) = true)
    (a__law_settled_throng : PySem.W.nsIn K mainGlobals "_law_settled_throng" = some (some (.ref f__law_settled_throng)))
    (l__law_settled_throng : K.lookup f__law_settled_throng = some ⟨oc__law_settled_throng, od__law_settled_throng, .func (PySem.W.fnOf "_law_settled_throng" "_law_settled_throng" (defArgs s__law_settled_throng) (defBody s__law_settled_throng) (defScope s__law_settled_throng) .none kV__law_settled_throng dc__law_settled_throng pm__law_settled_throng an__law_settled_throng cd__law_settled_throng ct__law_settled_throng), sl__law_settled_throng⟩)
    (c__law_settled_throng : PySem.W.codeIn K cd__law_settled_throng "_law_settled_throng" = true)
    (k__law_settled_throng : PySem.W.keepIn K (.ref f__law_settled_throng) = true)
    (a__law_order_of_pairs : PySem.W.nsIn K mainGlobals "_law_order_of_pairs" = some (some (.ref f__law_order_of_pairs)))
    (l__law_order_of_pairs : K.lookup f__law_order_of_pairs = some ⟨oc__law_order_of_pairs, od__law_order_of_pairs, .func (PySem.W.fnOf "_law_order_of_pairs" "_law_order_of_pairs" (defArgs s__law_order_of_pairs) (defBody s__law_order_of_pairs) (defScope s__law_order_of_pairs) .none kV__law_order_of_pairs dc__law_order_of_pairs pm__law_order_of_pairs an__law_order_of_pairs cd__law_order_of_pairs ct__law_order_of_pairs), sl__law_order_of_pairs⟩)
    (c__law_order_of_pairs : PySem.W.codeIn K cd__law_order_of_pairs "_law_order_of_pairs" = true)
    (k__law_order_of_pairs : PySem.W.keepIn K (.ref f__law_order_of_pairs) = true)
    (a__law_met_in_order : PySem.W.nsIn K mainGlobals "_law_met_in_order" = some (some (.ref f__law_met_in_order)))
    (l__law_met_in_order : K.lookup f__law_met_in_order = some ⟨oc__law_met_in_order, od__law_met_in_order, .func (PySem.W.fnOf "_law_met_in_order" "_law_met_in_order" (defArgs s__law_met_in_order) (defBody s__law_met_in_order) (defScope s__law_met_in_order) .none kV__law_met_in_order dc__law_met_in_order pm__law_met_in_order an__law_met_in_order cd__law_met_in_order ct__law_met_in_order), sl__law_met_in_order⟩)
    (c__law_met_in_order : PySem.W.codeIn K cd__law_met_in_order "_law_met_in_order" = true)
    (k__law_met_in_order : PySem.W.keepIn K (.ref f__law_met_in_order) = true)
    (a__law_all_say : PySem.W.nsIn K mainGlobals "_law_all_say" = some (some (.ref f__law_all_say)))
    (l__law_all_say : K.lookup f__law_all_say = some ⟨oc__law_all_say, od__law_all_say, .func (PySem.W.fnOf "_law_all_say" "_law_all_say" (defArgs s__law_all_say) (defBody s__law_all_say) (defScope s__law_all_say) .none kV__law_all_say dc__law_all_say pm__law_all_say an__law_all_say cd__law_all_say ct__law_all_say), sl__law_all_say⟩)
    (c__law_all_say : PySem.W.codeIn K cd__law_all_say "_law_all_say" = true)
    (k__law_all_say : PySem.W.keepIn K (.ref f__law_all_say) = true)
    (a__law_history : PySem.W.nsIn K mainGlobals "_law_history" = some (some (.ref f__law_history)))
    (l__law_history : K.lookup f__law_history = some ⟨oc__law_history, od__law_history, .func (PySem.W.fnOf "_law_history" "_law_history" (defArgs s__law_history) (defBody s__law_history) (defScope s__law_history) .none kV__law_history dc__law_history pm__law_history an__law_history cd__law_history ct__law_history), sl__law_history⟩)
    (c__law_history : PySem.W.codeIn K cd__law_history "_law_history" = true)
    (k__law_history : PySem.W.keepIn K (.ref f__law_history) = true)
    (a__law_many_right : PySem.W.nsIn K mainGlobals "_law_many_right" = some (some (.ref f__law_many_right)))
    (l__law_many_right : K.lookup f__law_many_right = some ⟨oc__law_many_right, od__law_many_right, .func (PySem.W.fnOf "_law_many_right" "_law_many_right" (defArgs s__law_many_right) (defBody s__law_many_right) (defScope s__law_many_right) .none kV__law_many_right dc__law_many_right pm__law_many_right an__law_many_right cd__law_many_right ct__law_many_right), sl__law_many_right⟩)
    (c__law_many_right : PySem.W.codeIn K cd__law_many_right "_law_many_right" = true)
    (k__law_many_right : PySem.W.keepIn K (.ref f__law_many_right) = true)
    (a_law : PySem.W.nsIn K mainGlobals "law" = some (some (.ref f_law)))
    (l_law : K.lookup f_law = some ⟨oc_law, od_law, .func (PySem.W.fnOf "law" "law" (defArgs s_law) (defBody s_law) (defScope s_law) .none kV_law dc_law pm_law an_law cd_law ct_law), sl_law⟩)
    (c_law : PySem.W.codeIn K cd_law "law" = true)
    (k_law : PySem.W.keepIn K (.ref f_law) = true) :
    ∃ fd : FuncData, (∀ (s : Shared) (v : Value), BindsTo s fd ⟨[v], []⟩ [("script", v)]) ∧ ∀ base : Heap, K.In base → base.Ns mainGlobals mg → FnOk l.prog w K mg base CX0 (2 * KD) fa fd ["script"] (spLaw K) := by
  have q_Least : caOf clsL K "Least" = some C_Least := caOf_at a_Least (by decide)
  have q_Rest : caOf clsL K "Rest" = some C_Rest := caOf_at a_Rest (by decide)
  have q_Throng : caOf clsL K "Throng" = some C_Throng := caOf_at a_Throng (by decide)
  have tC : ∀ C c, caOf clsL K C = some c → Cls K c ∧ ∀ f ∈ G.att C, NoAttr K c f := by
    intro C c h
    have hm : C ∈ [("Least" : Str), ("Rest" : Str), ("Throng" : Str)] := caOf_in h
    simp only [List.mem_cons, List.not_mem_nil, or_false] at hm
    rcases hm with rfl | rfl | rfl
    · rw [q_Least] at h
      cases h
      refine ⟨⟨pg_Least, hd_Least, po_Least, sa_Least⟩, fun f hf => ?_⟩
      have hf : f ∈ [("most" : Str), ("bound" : Str)] := hf
      simp only [List.mem_cons, List.not_mem_nil, or_false] at hf
      rcases hf with rfl | rfl
      · exact n_Least_most
      · exact n_Least_bound
    · rw [q_Rest] at h
      cases h
      refine ⟨⟨pg_Rest, hd_Rest, po_Rest, sa_Rest⟩, fun f hf => ?_⟩
      have hf : f ∈ [("wheel" : Str), ("rest" : Str)] := hf
      simp only [List.mem_cons, List.not_mem_nil, or_false] at hf
      rcases hf with rfl | rfl
      · exact n_Rest_wheel
      · exact n_Rest_rest
    · rw [q_Throng] at h
      cases h
      refine ⟨⟨pg_Throng, hd_Throng, po_Throng, sa_Throng⟩, fun f hf => ?_⟩
      have hf : f ∈ [("sentence" : Str), ("parts" : Str), ("folk" : Str), ("by_gate" : Str), ("marks" : Str)] := hf
      simp only [List.mem_cons, List.not_mem_nil, or_false] at hf
      rcases hf with rfl | rfl | rfl | rfl | rfl
      · exact n_Throng_sentence
      · exact n_Throng_parts
      · exact n_Throng_folk
      · exact n_Throng_by_gate
      · exact n_Throng_marks
  have tN : ∀ C c, caOf clsL K C = some c → PySem.W.findIn K (.ref c) "__ne__" = some (some (.builtin "object.__ne__")) ∧ PySem.W.mroIn K c (.type "object") = some true := by
    intro C c h
    have hm : C ∈ [("Least" : Str), ("Rest" : Str), ("Throng" : Str)] := caOf_in h
    simp only [List.mem_cons, List.not_mem_nil, or_false] at hm
    rcases hm with rfl | rfl | rfl
    · rw [q_Least] at h
      cases h
      exact ⟨ne_Least, mo_Least⟩
    · rw [q_Rest] at h
      cases h
      exact ⟨ne_Rest, mo_Rest⟩
    · rw [q_Throng] at h
      cases h
      exact ⟨ne_Throng, mo_Throng⟩
  have tI_Throng : ∀ C c, caOf clsL K C = some c → IsiC K c ∧ PySem.W.kitOne K (.ref c) (.ref C_Throng) = some (decide (C = "Throng")) := by
    intro C c h
    have hm : C ∈ [("Least" : Str), ("Rest" : Str), ("Throng" : Str)] := caOf_in h
    simp only [List.mem_cons, List.not_mem_nil, or_false] at hm
    rcases hm with rfl | rfl | rfl
    · rw [q_Least] at h
      cases h
      exact ⟨⟨⟨pg_Least, hd_Least, po_Least, sa_Least⟩, hc_Least, hn_, ht_, mo_Least⟩, (kit_of mq_Least_Throng mq_Throng_Throng ty_Throng).trans (by decide)⟩
    · rw [q_Rest] at h
      cases h
      exact ⟨⟨⟨pg_Rest, hd_Rest, po_Rest, sa_Rest⟩, hc_Rest, hn_, ht_, mo_Rest⟩, (kit_of mq_Rest_Throng mq_Throng_Throng ty_Throng).trans (by decide)⟩
    · rw [q_Throng] at h
      cases h
      exact ⟨⟨⟨pg_Throng, hd_Throng, po_Throng, sa_Throng⟩, hc_Throng, hn_, ht_, mo_Throng⟩, (kit_of mq_Throng_Throng mq_Throng_Throng ty_Throng).trans (by decide)⟩
  have T : Kn K mg (caOf clsL K) := { cls := tC, ne := fun C c f h _ => tN C c h, b_abs := PySem.W.mg_none_of X GN z_abs, b_all := PySem.W.mg_none_of X GN z_all, b_any := PySem.W.mg_none_of X GN z_any, b_dict := PySem.W.mg_none_of X GN z_dict, b_int := PySem.W.mg_none_of X GN z_int, b_isinstance := PySem.W.mg_none_of X GN z_isinstance, b_len := PySem.W.mg_none_of X GN z_len, b_list := PySem.W.mg_none_of X GN z_list, b_max := PySem.W.mg_none_of X GN z_max, b_min := PySem.W.mg_none_of X GN z_min, b_range := PySem.W.mg_none_of X GN z_range, b_sum := PySem.W.mg_none_of X GN z_sum, b_tuple := PySem.W.mg_none_of X GN z_tuple, b_zip := PySem.W.mg_none_of X GN z_zip, g_GATE_WORDS := ⟨.ref A_GATE_WORDS, .ref A_GATE_WORDS, PySem.W.mg_of X GN ga_GATE_WORDS, rfl, fun α F => have r : Reps K (caOf clsL K) α F [V.str "a", V.str "b", V.str "c"] [D.str "a", D.str "b", D.str "c"] := .cons (.str _) (.cons (.str _) (.cons (.str _) (.nil))); have va : Vals [V.str "a", V.str "b", V.str "c"] [Value.str "a" tk_GATE_WORDS_0, Value.str "b" tk_GATE_WORDS_1, Value.str "c" tk_GATE_WORDS_2] := .cons ⟨_, rfl⟩ (.cons ⟨_, rfl⟩ (.cons ⟨_, rfl⟩ (.nil))); .tup (.inr ⟨_, _, _, gl_GATE_WORDS, rfl, rfl, (by show 3 ≤ sizeLine; decide), va⟩) r.1 r.2⟩, isi_Throng := ⟨C_Throng, PySem.W.mg_of X GN a_Throng, tI_Throng⟩ }
  have FD_Leastu_initu : FunD K "__init__" "Least.__init__" (defArgs s_Leastu_initu) (defBody s_Leastu_initu) (defScope s_Leastu_initu) [] [] f_Leastu_initu _ := ⟨⟨_, _, _, _, _, _, _, _, _, _, rfl, l_Leastu_initu, c_Leastu_initu, .inl ⟨rfl, rfl⟩, .inl rfl⟩, k_Leastu_initu⟩
  have FD_Least_led : FunD K "led" "Least.led" (defArgs s_Least_led) (defBody s_Least_led) (defScope s_Least_led) [] [] f_Least_led _ := ⟨⟨_, _, _, _, _, _, _, _, _, _, rfl, l_Least_led, c_Least_led, .inl ⟨rfl, rfl⟩, .inl rfl⟩, k_Least_led⟩
  have FD_Least_met : FunD K "met" "Least.met" (defArgs s_Least_met) (defBody s_Least_met) (defScope s_Least_met) [] [] f_Least_met _ := ⟨⟨_, _, _, _, _, _, _, _, _, _, rfl, l_Least_met, c_Least_met, .inl ⟨rfl, rfl⟩, .inl rfl⟩, k_Least_met⟩
  have FD_Restu_initu : FunD K "__init__" "Rest.__init__" (defArgs s_Restu_initu) (defBody s_Restu_initu) (defScope s_Restu_initu) [] [] f_Restu_initu _ := ⟨⟨_, _, _, _, _, _, _, _, _, _, rfl, l_Restu_initu, c_Restu_initu, .inl ⟨rfl, rfl⟩, .inl rfl⟩, k_Restu_initu⟩
  have FD_Rest_led : FunD K "led" "Rest.led" (defArgs s_Rest_led) (defBody s_Rest_led) (defScope s_Rest_led) [] [] f_Rest_led _ := ⟨⟨_, _, _, _, _, _, _, _, _, _, rfl, l_Rest_led, c_Rest_led, .inl ⟨rfl, rfl⟩, .inl rfl⟩, k_Rest_led⟩
  have FD_Rest_met : FunD K "met" "Rest.met" (defArgs s_Rest_met) (defBody s_Rest_met) (defScope s_Rest_met) [] [] f_Rest_met _ := ⟨⟨_, _, _, _, _, _, _, _, _, _, rfl, l_Rest_met, c_Rest_met, .inl ⟨rfl, rfl⟩, .inl rfl⟩, k_Rest_met⟩
  have FD_made_of : FunD K "made_of" "made_of" (defArgs s_made_of) (defBody s_made_of) (defScope s_made_of) [] [] f_made_of _ := ⟨⟨_, _, _, _, _, _, _, _, _, _, rfl, l_made_of, c_made_of, .inl ⟨rfl, rfl⟩, .inl rfl⟩, k_made_of⟩
  have FD_many_of : FunD K "many_of" "many_of" (defArgs s_many_of) (defBody s_many_of) (defScope s_many_of) [] [] f_many_of _ := ⟨⟨_, _, _, _, _, _, _, _, _, _, rfl, l_many_of, c_many_of, .inl ⟨rfl, rfl⟩, .inl rfl⟩, k_many_of⟩
  have FD_atoms_of : FunD K "atoms_of" "atoms_of" (defArgs s_atoms_of) (defBody s_atoms_of) (defScope s_atoms_of) [] [] f_atoms_of _ := ⟨⟨_, _, _, _, _, _, _, _, _, _, rfl, l_atoms_of, c_atoms_of, .inl ⟨rfl, rfl⟩, .inl rfl⟩, k_atoms_of⟩
  have FD_truth_of : FunD K "truth_of" "truth_of" (defArgs s_truth_of) (defBody s_truth_of) (defScope s_truth_of) [] [] f_truth_of _ := ⟨⟨_, _, _, _, _, _, _, _, _, _, rfl, l_truth_of, c_truth_of, .inl ⟨rfl, rfl⟩, .inl rfl⟩, k_truth_of⟩
  have FD_pairs_of_folk : FunD K "pairs_of_folk" "pairs_of_folk" (defArgs s_pairs_of_folk) (defBody s_pairs_of_folk) (defScope s_pairs_of_folk) [] [(("backward" : Str), (.bl false : V))] f_pairs_of_folk _ := ⟨⟨_, _, _, _, _, _, _, _, _, _, rfl, l_pairs_of_folk, c_pairs_of_folk, .inl ⟨rfl, rfl⟩, .inr ⟨D_pairs_of_folk, rfl, by
    intro q hq
    simp only [List.mem_cons, List.not_mem_nil, or_false] at hq
    rcases hq with rfl
    · exact ⟨_, w_pairs_of_folk_backward, rfl⟩⟩⟩, k_pairs_of_folk⟩
  have FD_Throngu_initu : FunD K "__init__" "Throng.__init__" (defArgs s_Throngu_initu) (defBody s_Throngu_initu) (defScope s_Throngu_initu) [] [] f_Throngu_initu _ := ⟨⟨_, _, _, _, _, _, _, _, _, _, rfl, l_Throngu_initu, c_Throngu_initu, .inl ⟨rfl, rfl⟩, .inl rfl⟩, k_Throngu_initu⟩
  have FD_Throngu_equ : FunD K "__eq__" "Throng.__eq__" (defArgs s_Throngu_equ) (defBody s_Throngu_equ) (defScope s_Throngu_equ) [] [] f_Throngu_equ _ := ⟨⟨_, _, _, _, _, _, _, _, _, _, rfl, l_Throngu_equ, c_Throngu_equ, .inl ⟨rfl, rfl⟩, .inl rfl⟩, k_Throngu_equ⟩
  have FD_Throngu_lenu : FunD K "__len__" "Throng.__len__" (defArgs s_Throngu_lenu) (defBody s_Throngu_lenu) (defScope s_Throngu_lenu) [] [] f_Throngu_lenu _ := ⟨⟨_, _, _, _, _, _, _, _, _, _, rfl, l_Throngu_lenu, c_Throngu_lenu, .inl ⟨rfl, rfl⟩, .inl rfl⟩, k_Throngu_lenu⟩
  have FD_Throng_words : FunD K "words" "Throng.words" (defArgs s_Throng_words) (defBody s_Throng_words) (defScope s_Throng_words) [] [] f_Throng_words _ := ⟨⟨_, _, _, _, _, _, _, _, _, _, rfl, l_Throng_words, c_Throng_words, .inl ⟨rfl, rfl⟩, .inl rfl⟩, k_Throng_words⟩
  have FD_Throng_word_of_folk : FunD K "word_of_folk" "Throng.word_of_folk" (defArgs s_Throng_word_of_folk) (defBody s_Throng_word_of_folk) (defScope s_Throng_word_of_folk) [] [] f_Throng_word_of_folk _ := ⟨⟨_, _, _, _, _, _, _, _, _, _, rfl, l_Throng_word_of_folk, c_Throng_word_of_folk, .inl ⟨rfl, rfl⟩, .inl rfl⟩, k_Throng_word_of_folk⟩
  have FD_Throng_come : FunD K "come" "Throng.come" (defArgs s_Throng_come) (defBody s_Throng_come) (defScope s_Throng_come) [] [(("many" : Str), (.int 1 : V))] f_Throng_come _ := ⟨⟨_, _, _, _, _, _, _, _, _, _, rfl, l_Throng_come, c_Throng_come, .inl ⟨rfl, rfl⟩, .inr ⟨D_Throng_come, rfl, by
    intro q hq
    simp only [List.mem_cons, List.not_mem_nil, or_false] at hq
    rcases hq with rfl
    · exact ⟨_, w_Throng_come_many, ⟨_, rfl⟩⟩⟩⟩, k_Throng_come⟩
  have FD_Throng_need_folk : FunD K "need_folk" "Throng.need_folk" (defArgs s_Throng_need_folk) (defBody s_Throng_need_folk) (defScope s_Throng_need_folk) [] [] f_Throng_need_folk _ := ⟨⟨_, _, _, _, _, _, _, _, _, _, rfl, l_Throng_need_folk, c_Throng_need_folk, .inl ⟨rfl, rfl⟩, .inl rfl⟩, k_Throng_need_folk⟩
  have FD_Throng_changed : FunD K "changed" "Throng.changed" (defArgs s_Throng_changed) (defBody s_Throng_changed) (defScope s_Throng_changed) [] [] f_Throng_changed _ := ⟨⟨_, _, _, _, _, _, _, _, _, _, rfl, l_Throng_changed, c_Throng_changed, .inl ⟨rfl, rfl⟩, .inl rfl⟩, k_Throng_changed⟩
  have FD_Throng_meet : FunD K "meet" "Throng.meet" (defArgs s_Throng_meet) (defBody s_Throng_meet) (defScope s_Throng_meet) [] [] f_Throng_meet _ := ⟨⟨_, _, _, _, _, _, _, _, _, _, rfl, l_Throng_meet, c_Throng_meet, .inl ⟨rfl, rfl⟩, .inl rfl⟩, k_Throng_meet⟩
  have FD_Throng_says : FunD K "says" "Throng.says" (defArgs s_Throng_says) (defBody s_Throng_says) (defScope s_Throng_says) [] [] f_Throng_says _ := ⟨⟨_, _, _, _, _, _, _, _, _, _, rfl, l_Throng_says, c_Throng_says, .inl ⟨rfl, rfl⟩, .inl rfl⟩, k_Throng_says⟩
  have FD_Throng_said : FunD K "said" "Throng.said" (defArgs s_Throng_said) (defBody s_Throng_said) (defScope s_Throng_said) [] [] f_Throng_said _ := ⟨⟨_, _, _, _, _, _, _, _, _, _, rfl, l_Throng_said, c_Throng_said, .inl ⟨rfl, rfl⟩, .inl rfl⟩, k_Throng_said⟩
  have FD_Throng_pour : FunD K "pour" "Throng.pour" (defArgs s_Throng_pour) (defBody s_Throng_pour) (defScope s_Throng_pour) [] [] f_Throng_pour _ := ⟨⟨_, _, _, _, _, _, _, _, _, _, rfl, l_Throng_pour, c_Throng_pour, .inl ⟨rfl, rfl⟩, .inl rfl⟩, k_Throng_pour⟩
  have FD_Throng_stretch : FunD K "stretch" "Throng.stretch" (defArgs s_Throng_stretch) (defBody s_Throng_stretch) (defScope s_Throng_stretch) [] [(("backward" : Str), (.bl false : V))] f_Throng_stretch _ := ⟨⟨_, _, _, _, _, _, _, _, _, _, rfl, l_Throng_stretch, c_Throng_stretch, .inl ⟨rfl, rfl⟩, .inr ⟨D_Throng_stretch, rfl, by
    intro q hq
    simp only [List.mem_cons, List.not_mem_nil, or_false] at hq
    rcases hq with rfl
    · exact ⟨_, w_Throng_stretch_backward, rfl⟩⟩⟩, k_Throng_stretch⟩
  have FD_Throng_mark : FunD K "mark" "Throng.mark" (defArgs s_Throng_mark) (defBody s_Throng_mark) (defScope s_Throng_mark) [] [] f_Throng_mark _ := ⟨⟨_, _, _, _, _, _, _, _, _, _, rfl, l_Throng_mark, c_Throng_mark, .inl ⟨rfl, rfl⟩, .inl rfl⟩, k_Throng_mark⟩
  have FD_Throng_back : FunD K "back" "Throng.back" (defArgs s_Throng_back) (defBody s_Throng_back) (defScope s_Throng_back) [] [] f_Throng_back _ := ⟨⟨_, _, _, _, _, _, _, _, _, _, rfl, l_Throng_back, c_Throng_back, .inl ⟨rfl, rfl⟩, .inl rfl⟩, k_Throng_back⟩
  have FD__law_cell_at : FunD K "_law_cell_at" "_law_cell_at" (defArgs s__law_cell_at) (defBody s__law_cell_at) (defScope s__law_cell_at) [] [] f__law_cell_at _ := ⟨⟨_, _, _, _, _, _, _, _, _, _, rfl, l__law_cell_at, c__law_cell_at, .inl ⟨rfl, rfl⟩, .inl rfl⟩, k__law_cell_at⟩
  have FD__law_tape : FunD K "_law_tape" "_law_tape" (defArgs s__law_tape) (defBody s__law_tape) (defScope s__law_tape) [] [] f__law_tape _ := ⟨⟨_, _, _, _, _, _, _, _, _, _, rfl, l__law_tape, c__law_tape, .inl ⟨rfl, rfl⟩, .inl rfl⟩, k__law_tape⟩
  have FD__law_digit : FunD K "_law_digit" "_law_digit" (defArgs s__law_digit) (defBody s__law_digit) (defScope s__law_digit) [] [] f__law_digit _ := ⟨⟨_, _, _, _, _, _, _, _, _, _, rfl, l__law_digit, c__law_digit, .inl ⟨rfl, rfl⟩, .inl rfl⟩, k__law_digit⟩
  have FD__law_weights : FunD K "_law_weights" "_law_weights" (defArgs s__law_weights) (defBody s__law_weights) (defScope s__law_weights) [] [] f__law_weights _ := ⟨⟨_, _, _, _, _, _, _, _, _, _, rfl, l__law_weights, c__law_weights, .inl ⟨rfl, rfl⟩, .inl rfl⟩, k__law_weights⟩
  have FD__law_atom : FunD K "_law_atom" "_law_atom" (defArgs s__law_atom) (defBody s__law_atom) (defScope s__law_atom) [] [] f__law_atom _ := ⟨⟨_, _, _, _, _, _, _, _, _, _, rfl, l__law_atom, c__law_atom, .inl ⟨rfl, rfl⟩, .inl rfl⟩, k__law_atom⟩
  have FD__law_is_so : FunD K "_law_is_so" "_law_is_so" (defArgs s__law_is_so) (defBody s__law_is_so) (defScope s__law_is_so) [] [] f__law_is_so _ := ⟨⟨_, _, _, _, _, _, _, _, _, _, rfl, l__law_is_so, c__law_is_so, .inl ⟨rfl, rfl⟩, .inl rfl⟩, k__law_is_so⟩
  have FD__law_wide_sentence : FunD K "_law_wide_sentence" "_law_wide_sentence" (defArgs s__law_wide_sentence) (defBody s__law_wide_sentence) (defScope s__law_wide_sentence) [] [] f__law_wide_sentence _ := ⟨⟨_, _, _, _, _, _, _, _, _, _, rfl, l__law_wide_sentence, c__law_wide_sentence, .inl ⟨rfl, rfl⟩, .inl rfl⟩, k__law_wide_sentence⟩
  have FD__law_stretches : FunD K "_law_stretches" "_law_stretches" (defArgs s__law_stretches) (defBody s__law_stretches) (defScope s__law_stretches) [] [] f__law_stretches _ := ⟨⟨_, _, _, _, _, _, _, _, _, _, rfl, l__law_stretches, c__law_stretches, .inl ⟨rfl, rfl⟩, .inl rfl⟩, k__law_stretches⟩
  have FD__law_settled_throng : FunD K "_law_settled_throng" "_law_settled_throng" (defArgs s__law_settled_throng) (defBody s__law_settled_throng) (defScope s__law_settled_throng) [] [] f__law_settled_throng _ := ⟨⟨_, _, _, _, _, _, _, _, _, _, rfl, l__law_settled_throng, c__law_settled_throng, .inl ⟨rfl, rfl⟩, .inl rfl⟩, k__law_settled_throng⟩
  have FD__law_order_of_pairs : FunD K "_law_order_of_pairs" "_law_order_of_pairs" (defArgs s__law_order_of_pairs) (defBody s__law_order_of_pairs) (defScope s__law_order_of_pairs) [] [] f__law_order_of_pairs _ := ⟨⟨_, _, _, _, _, _, _, _, _, _, rfl, l__law_order_of_pairs, c__law_order_of_pairs, .inl ⟨rfl, rfl⟩, .inl rfl⟩, k__law_order_of_pairs⟩
  have FD__law_met_in_order : FunD K "_law_met_in_order" "_law_met_in_order" (defArgs s__law_met_in_order) (defBody s__law_met_in_order) (defScope s__law_met_in_order) [] [] f__law_met_in_order _ := ⟨⟨_, _, _, _, _, _, _, _, _, _, rfl, l__law_met_in_order, c__law_met_in_order, .inl ⟨rfl, rfl⟩, .inl rfl⟩, k__law_met_in_order⟩
  have FD__law_all_say : FunD K "_law_all_say" "_law_all_say" (defArgs s__law_all_say) (defBody s__law_all_say) (defScope s__law_all_say) [] [] f__law_all_say _ := ⟨⟨_, _, _, _, _, _, _, _, _, _, rfl, l__law_all_say, c__law_all_say, .inl ⟨rfl, rfl⟩, .inl rfl⟩, k__law_all_say⟩
  have FD__law_history : FunD K "_law_history" "_law_history" (defArgs s__law_history) (defBody s__law_history) (defScope s__law_history) [] [] f__law_history _ := ⟨⟨_, _, _, _, _, _, _, _, _, _, rfl, l__law_history, c__law_history, .inl ⟨rfl, rfl⟩, .inl rfl⟩, k__law_history⟩
  have FD__law_many_right : FunD K "_law_many_right" "_law_many_right" (defArgs s__law_many_right) (defBody s__law_many_right) (defScope s__law_many_right) [] [] f__law_many_right _ := ⟨⟨_, _, _, _, _, _, _, _, _, _, rfl, l__law_many_right, c__law_many_right, .inl ⟨rfl, rfl⟩, .inl rfl⟩, k__law_many_right⟩
  have FD_law : FunD K "law" "law" (defArgs s_law) (defBody s_law) (defScope s_law) [] [] f_law _ := ⟨⟨_, _, _, _, _, _, _, _, _, _, rfl, l_law, c_law, .inl ⟨rfl, rfl⟩, .inl rfl⟩, k_law⟩
  have Y : Fx K mg (caOf clsL K) := { x_Leastu_initu := ⟨_, _, _, q_Least, ⟨mk_Least, a_Leastu_initu, i_Leastu_initu, kc_Least⟩, PySem.W.mg_of X GN a_Least, FD_Leastu_initu⟩, x_Least_led := ⟨_, _, _, q_Least, ⟨a_Least_led, i_Least_led, k_Least_led⟩, FD_Least_led⟩, x_Least_met := ⟨_, _, _, q_Least, ⟨a_Least_met, i_Least_met, k_Least_met⟩, FD_Least_met⟩, x_Restu_initu := ⟨_, _, _, q_Rest, ⟨mk_Rest, a_Restu_initu, i_Restu_initu, kc_Rest⟩, PySem.W.mg_of X GN a_Rest, FD_Restu_initu⟩, x_Rest_led := ⟨_, _, _, q_Rest, ⟨a_Rest_led, i_Rest_led, k_Rest_led⟩, FD_Rest_led⟩, x_Rest_met := ⟨_, _, _, q_Rest, ⟨a_Rest_met, i_Rest_met, k_Rest_met⟩, FD_Rest_met⟩, x_made_of := ⟨_, _, FD_made_of, PySem.W.mg_of X GN a_made_of⟩, x_many_of := ⟨_, _, FD_many_of, PySem.W.mg_of X GN a_many_of⟩, x_atoms_of := ⟨_, _, FD_atoms_of, PySem.W.mg_of X GN a_atoms_of⟩, x_truth_of := ⟨_, _, FD_truth_of, PySem.W.mg_of X GN a_truth_of⟩, x_pairs_of_folk := ⟨_, _, FD_pairs_of_folk, PySem.W.mg_of X GN a_pairs_of_folk⟩, x_Throngu_initu := ⟨_, _, _, q_Throng, ⟨mk_Throng, a_Throngu_initu, i_Throngu_initu, kc_Throng⟩, PySem.W.mg_of X GN a_Throng, FD_Throngu_initu⟩, x_Throngu_equ := ⟨_, _, _, q_Throng, ⟨a_Throngu_equ, i_Throngu_equ, k_Throngu_equ⟩, FD_Throngu_equ⟩, x_Throngu_lenu := ⟨_, _, _, q_Throng, ⟨a_Throngu_lenu, i_Throngu_lenu, k_Throngu_lenu⟩, FD_Throngu_lenu⟩, x_Throng_words := ⟨_, _, _, q_Throng, ⟨a_Throng_words, i_Throng_words, k_Throng_words⟩, FD_Throng_words⟩, x_Throng_word_of_folk := ⟨_, _, _, q_Throng, ⟨a_Throng_word_of_folk, i_Throng_word_of_folk, k_Throng_word_of_folk⟩, FD_Throng_word_of_folk⟩, x_Throng_come := ⟨_, _, _, q_Throng, ⟨a_Throng_come, i_Throng_come, k_Throng_come⟩, FD_Throng_come⟩, x_Throng_need_folk := ⟨_, _, _, q_Throng, ⟨a_Throng_need_folk, i_Throng_need_folk, k_Throng_need_folk⟩, FD_Throng_need_folk⟩, x_Throng_changed := ⟨_, _, _, q_Throng, ⟨a_Throng_changed, i_Throng_changed, k_Throng_changed⟩, FD_Throng_changed⟩, x_Throng_meet := ⟨_, _, _, q_Throng, ⟨a_Throng_meet, i_Throng_meet, k_Throng_meet⟩, FD_Throng_meet⟩, x_Throng_says := ⟨_, _, _, q_Throng, ⟨a_Throng_says, i_Throng_says, k_Throng_says⟩, FD_Throng_says⟩, x_Throng_said := ⟨_, _, _, q_Throng, ⟨a_Throng_said, i_Throng_said, k_Throng_said⟩, FD_Throng_said⟩, x_Throng_pour := ⟨_, _, _, q_Throng, ⟨a_Throng_pour, i_Throng_pour, k_Throng_pour⟩, FD_Throng_pour⟩, x_Throng_stretch := ⟨_, _, _, q_Throng, ⟨a_Throng_stretch, i_Throng_stretch, k_Throng_stretch⟩, FD_Throng_stretch⟩, x_Throng_mark := ⟨_, _, _, q_Throng, ⟨a_Throng_mark, i_Throng_mark, k_Throng_mark⟩, FD_Throng_mark⟩, x_Throng_back := ⟨_, _, _, q_Throng, ⟨a_Throng_back, i_Throng_back, k_Throng_back⟩, FD_Throng_back⟩, x__law_cell_at := ⟨_, _, FD__law_cell_at, PySem.W.mg_of X GN a__law_cell_at⟩, x__law_tape := ⟨_, _, FD__law_tape, PySem.W.mg_of X GN a__law_tape⟩, x__law_digit := ⟨_, _, FD__law_digit, PySem.W.mg_of X GN a__law_digit⟩, x__law_weights := ⟨_, _, FD__law_weights, PySem.W.mg_of X GN a__law_weights⟩, x__law_atom := ⟨_, _, FD__law_atom, PySem.W.mg_of X GN a__law_atom⟩, x__law_is_so := ⟨_, _, FD__law_is_so, PySem.W.mg_of X GN a__law_is_so⟩, x__law_wide_sentence := ⟨_, _, FD__law_wide_sentence, PySem.W.mg_of X GN a__law_wide_sentence⟩, x__law_stretches := ⟨_, _, FD__law_stretches, PySem.W.mg_of X GN a__law_stretches⟩, x__law_settled_throng := ⟨_, _, FD__law_settled_throng, PySem.W.mg_of X GN a__law_settled_throng⟩, x__law_order_of_pairs := ⟨_, _, FD__law_order_of_pairs, PySem.W.mg_of X GN a__law_order_of_pairs⟩, x__law_met_in_order := ⟨_, _, FD__law_met_in_order, PySem.W.mg_of X GN a__law_met_in_order⟩, x__law_all_say := ⟨_, _, FD__law_all_say, PySem.W.mg_of X GN a__law_all_say⟩, x__law_history := ⟨_, _, FD__law_history, PySem.W.mg_of X GN a__law_history⟩, x__law_many_right := ⟨_, _, FD__law_many_right, PySem.W.mg_of X GN a__law_many_right⟩, x_law := ⟨_, _, FD_law, PySem.W.mg_of X GN a_law⟩ }
  have e := hfa.symm.trans (PySem.W.mg_of X GN a_law)
  cases e
  exact ⟨_, fun s v => .of_eq rfl, fun base _ _ => fn_all FD_law sc_law rfl fun j _ => ok_law T (lv T Y j) FD_law⟩
theorem walk {l : PySem.W.OpenLaw} {q : Program} {loose : List Str} {XP : (Str → Option Value) → Heap → Prop} {YP : World → Heap → Prop} {d : DefRec} {K : Params → PySem.W.Frag} (hn : l.most = some 63) (hdf : d.params.defaults = [])
    (hY : ∀ (w : World) (h : Heap), YP w h → (K w.params).In h)
    (F : ∀ (w : World) (mg : Str → Option Value) (fa : Addr) (h : Heap), (K w.params).In h → h.Ns mainGlobals mg → mg d.name = some (.ref fa) →
      ∃ fd : FuncData, (∀ (s : Shared) (u : Value), BindsTo s fd ⟨[u], []⟩ [("script", u)]) ∧ ∀ base : Heap, (K w.params).In base → base.Ns mainGlobals mg → FnOk l.prog w (K w.params) mg base CX0 (2 * KD) fa fd ["script"] (spLaw (K w.params))) :
    PySem.W.WalkO q loose XP YP l.row.toRowW d [] (fun f vs => PySem.call f vs) :=
  L2.walk_of (n := 63) (k := 2 * KD) (x := "script") (CX := fun _ => CX0) (sp := fun w => spLaw (K w.params)) hn (by decide) hdf ⟨rfl, by decide, by decide⟩ hY F (fun _ _ a ns hl _ hS => by
    obtain ⟨μ, e⟩ := law_true ns hl
    exact law_start hS e) fun _ _ _ _ _ z => z
end LW
open PySem PySem.W PyProof.Rows in
theorem PySem.Challenge.cw_crowdsay_k96_whole_throngs_say_it_after_holds : PySem.Challenge.rw_crowdsay_k96_whole_throngs_say_it_after.Holds := by
  w_on; o_law; k_head; (case hw => w_witness2)
  k_fill
  refine LW.walk (l := PySem.Challenge.rw_crowdsay_k96_whole_throngs_say_it_after) rfl rfl (fun w h Y => PySem.W.kIn_of Y) ?F
  case F =>
    intro w mg fa h KX GN hmg
    refine' LW.all_mk KX GN hmg ?a_Least ?pg_Least ?hd_Least ?po_Least ?sa_Least ?mk_Least ?kc_Least ?ne_Least ?mo_Least ?n_Least_most ?n_Least_bound ?hc_Least ?a_Rest ?pg_Rest ?hd_Rest ?po_Rest ?sa_Rest ?mk_Rest ?kc_Rest ?ne_Rest ?mo_Rest ?n_Rest_wheel ?n_Rest_rest ?hc_Rest ?a_Throng ?pg_Throng ?hd_Throng ?po_Throng ?sa_Throng ?mk_Throng ?kc_Throng ?ne_Throng ?mo_Throng ?n_Throng_sentence ?n_Throng_parts ?n_Throng_folk ?n_Throng_by_gate ?n_Throng_marks ?hc_Throng ?mq_Least_Throng ?mq_Rest_Throng ?mq_Throng_Throng ?ty_Throng ?hn_ ?ht_ ?z_abs ?z_all ?z_any ?z_dict ?z_int ?z_isinstance ?z_len ?z_list ?z_max ?z_min ?z_range ?z_sum ?z_tuple ?z_zip ?ga_GATE_WORDS ?gl_GATE_WORDS ?a_Leastu_initu ?i_Leastu_initu ?l_Leastu_initu ?c_Leastu_initu ?k_Leastu_initu ?a_Least_led ?i_Least_led ?l_Least_led ?c_Least_led ?k_Least_led ?a_Least_met ?i_Least_met ?l_Least_met ?c_Least_met ?k_Least_met ?a_Restu_initu ?i_Restu_initu ?l_Restu_initu ?c_Restu_initu ?k_Restu_initu ?a_Rest_led ?i_Rest_led ?l_Rest_led ?c_Rest_led ?k_Rest_led ?a_Rest_met ?i_Rest_met ?l_Rest_met ?c_Rest_met ?k_Rest_met ?a_made_of ?l_made_of ?c_made_of ?k_made_of ?a_many_of ?l_many_of ?c_many_of ?k_many_of ?a_atoms_of ?l_atoms_of ?c_atoms_of ?k_atoms_of ?a_truth_of ?l_truth_of ?c_truth_of ?k_truth_of ?a_pairs_of_folk ?l_pairs_of_folk ?c_pairs_of_folk ?k_pairs_of_folk ?w_pairs_of_folk_backward ?a_Throngu_initu ?i_Throngu_initu ?l_Throngu_initu ?c_Throngu_initu ?k_Throngu_initu ?a_Throngu_equ ?i_Throngu_equ ?l_Throngu_equ ?c_Throngu_equ ?k_Throngu_equ ?a_Throngu_lenu ?i_Throngu_lenu ?l_Throngu_lenu ?c_Throngu_lenu ?k_Throngu_lenu ?a_Throng_words ?i_Throng_words ?l_Throng_words ?c_Throng_words ?k_Throng_words ?a_Throng_word_of_folk ?i_Throng_word_of_folk ?l_Throng_word_of_folk ?c_Throng_word_of_folk ?k_Throng_word_of_folk ?a_Throng_come ?i_Throng_come ?l_Throng_come ?c_Throng_come ?k_Throng_come ?w_Throng_come_many ?a_Throng_need_folk ?i_Throng_need_folk ?l_Throng_need_folk ?c_Throng_need_folk ?k_Throng_need_folk ?a_Throng_changed ?i_Throng_changed ?l_Throng_changed ?c_Throng_changed ?k_Throng_changed ?a_Throng_meet ?i_Throng_meet ?l_Throng_meet ?c_Throng_meet ?k_Throng_meet ?a_Throng_says ?i_Throng_says ?l_Throng_says ?c_Throng_says ?k_Throng_says ?a_Throng_said ?i_Throng_said ?l_Throng_said ?c_Throng_said ?k_Throng_said ?a_Throng_pour ?i_Throng_pour ?l_Throng_pour ?c_Throng_pour ?k_Throng_pour ?a_Throng_stretch ?i_Throng_stretch ?l_Throng_stretch ?c_Throng_stretch ?k_Throng_stretch ?w_Throng_stretch_backward ?a_Throng_mark ?i_Throng_mark ?l_Throng_mark ?c_Throng_mark ?k_Throng_mark ?a_Throng_back ?i_Throng_back ?l_Throng_back ?c_Throng_back ?k_Throng_back ?a__law_cell_at ?l__law_cell_at ?c__law_cell_at ?k__law_cell_at ?a__law_tape ?l__law_tape ?c__law_tape ?k__law_tape ?a__law_digit ?l__law_digit ?c__law_digit ?k__law_digit ?a__law_weights ?l__law_weights ?c__law_weights ?k__law_weights ?a__law_atom ?l__law_atom ?c__law_atom ?k__law_atom ?a__law_is_so ?l__law_is_so ?c__law_is_so ?k__law_is_so ?a__law_wide_sentence ?l__law_wide_sentence ?c__law_wide_sentence ?k__law_wide_sentence ?a__law_stretches ?l__law_stretches ?c__law_stretches ?k__law_stretches ?a__law_settled_throng ?l__law_settled_throng ?c__law_settled_throng ?k__law_settled_throng ?a__law_order_of_pairs ?l__law_order_of_pairs ?c__law_order_of_pairs ?k__law_order_of_pairs ?a__law_met_in_order ?l__law_met_in_order ?c__law_met_in_order ?k__law_met_in_order ?a__law_all_say ?l__law_all_say ?c__law_all_say ?k__law_all_say ?a__law_history ?l__law_history ?c__law_history ?k__law_history ?a__law_many_right ?l__law_many_right ?c__law_many_right ?k__law_many_right ?a_law ?l_law ?c_law ?k_law
    (case a_Least => k_is)
    (case pg_Least => k_is)
    (case hd_Least => k_is)
    (case po_Least => k_is)
    (case sa_Least => k_is)
    (case mk_Least => k_is)
    (case kc_Least => k_is)
    (case ne_Least => k_is)
    (case mo_Least => k_is)
    (case n_Least_most => k_is)
    (case n_Least_bound => k_is)
    (case hc_Least => k_is)
    (case a_Rest => k_is)
    (case pg_Rest => k_is)
    (case hd_Rest => k_is)
    (case po_Rest => k_is)
    (case sa_Rest => k_is)
    (case mk_Rest => k_is)
    (case kc_Rest => k_is)
    (case ne_Rest => k_is)
    (case mo_Rest => k_is)
    (case n_Rest_wheel => k_is)
    (case n_Rest_rest => k_is)
    (case hc_Rest => k_is)
    (case a_Throng => k_is)
    (case pg_Throng => k_is)
    (case hd_Throng => k_is)
    (case po_Throng => k_is)
    (case sa_Throng => k_is)
    (case mk_Throng => k_is)
    (case kc_Throng => k_is)
    (case ne_Throng => k_is)
    (case mo_Throng => k_is)
    (case n_Throng_sentence => k_is)
    (case n_Throng_parts => k_is)
    (case n_Throng_folk => k_is)
    (case n_Throng_by_gate => k_is)
    (case n_Throng_marks => k_is)
    (case hc_Throng => k_is)
    (case mq_Least_Throng => k_is)
    (case mq_Rest_Throng => k_is)
    (case mq_Throng_Throng => k_is)
    (case ty_Throng => k_is)
    (case hn_ => k_is)
    (case ht_ => k_is)
    (case z_abs => k_is)
    (case z_all => k_is)
    (case z_any => k_is)
    (case z_dict => k_is)
    (case z_int => k_is)
    (case z_isinstance => k_is)
    (case z_len => k_is)
    (case z_list => k_is)
    (case z_max => k_is)
    (case z_min => k_is)
    (case z_range => k_is)
    (case z_sum => k_is)
    (case z_tuple => k_is)
    (case z_zip => k_is)
    (case ga_GATE_WORDS => k_is)
    (case gl_GATE_WORDS => k_is)
    (case a_Leastu_initu => k_is)
    (case i_Leastu_initu => k_is)
    (case l_Leastu_initu => k_is)
    (case c_Leastu_initu => k_is)
    (case k_Leastu_initu => k_is)
    (case a_Least_led => k_is)
    (case i_Least_led => k_is)
    (case l_Least_led => k_is)
    (case c_Least_led => k_is)
    (case k_Least_led => k_is)
    (case a_Least_met => k_is)
    (case i_Least_met => k_is)
    (case l_Least_met => k_is)
    (case c_Least_met => k_is)
    (case k_Least_met => k_is)
    (case a_Restu_initu => k_is)
    (case i_Restu_initu => k_is)
    (case l_Restu_initu => k_is)
    (case c_Restu_initu => k_is)
    (case k_Restu_initu => k_is)
    (case a_Rest_led => k_is)
    (case i_Rest_led => k_is)
    (case l_Rest_led => k_is)
    (case c_Rest_led => k_is)
    (case k_Rest_led => k_is)
    (case a_Rest_met => k_is)
    (case i_Rest_met => k_is)
    (case l_Rest_met => k_is)
    (case c_Rest_met => k_is)
    (case k_Rest_met => k_is)
    (case a_made_of => k_is)
    (case l_made_of => k_is)
    (case c_made_of => k_is)
    (case k_made_of => k_is)
    (case a_many_of => k_is)
    (case l_many_of => k_is)
    (case c_many_of => k_is)
    (case k_many_of => k_is)
    (case a_atoms_of => k_is)
    (case l_atoms_of => k_is)
    (case c_atoms_of => k_is)
    (case k_atoms_of => k_is)
    (case a_truth_of => k_is)
    (case l_truth_of => k_is)
    (case c_truth_of => k_is)
    (case k_truth_of => k_is)
    (case a_pairs_of_folk => k_is)
    (case l_pairs_of_folk => k_is)
    (case c_pairs_of_folk => k_is)
    (case k_pairs_of_folk => k_is)
    (case w_pairs_of_folk_backward => k_is)
    (case a_Throngu_initu => k_is)
    (case i_Throngu_initu => k_is)
    (case l_Throngu_initu => k_is)
    (case c_Throngu_initu => k_is)
    (case k_Throngu_initu => k_is)
    (case a_Throngu_equ => k_is)
    (case i_Throngu_equ => k_is)
    (case l_Throngu_equ => k_is)
    (case c_Throngu_equ => k_is)
    (case k_Throngu_equ => k_is)
    (case a_Throngu_lenu => k_is)
    (case i_Throngu_lenu => k_is)
    (case l_Throngu_lenu => k_is)
    (case c_Throngu_lenu => k_is)
    (case k_Throngu_lenu => k_is)
    (case a_Throng_words => k_is)
    (case i_Throng_words => k_is)
    (case l_Throng_words => k_is)
    (case c_Throng_words => k_is)
    (case k_Throng_words => k_is)
    (case a_Throng_word_of_folk => k_is)
    (case i_Throng_word_of_folk => k_is)
    (case l_Throng_word_of_folk => k_is)
    (case c_Throng_word_of_folk => k_is)
    (case k_Throng_word_of_folk => k_is)
    (case a_Throng_come => k_is)
    (case i_Throng_come => k_is)
    (case l_Throng_come => k_is)
    (case c_Throng_come => k_is)
    (case k_Throng_come => k_is)
    (case w_Throng_come_many => k_is)
    (case a_Throng_need_folk => k_is)
    (case i_Throng_need_folk => k_is)
    (case l_Throng_need_folk => k_is)
    (case c_Throng_need_folk => k_is)
    (case k_Throng_need_folk => k_is)
    (case a_Throng_changed => k_is)
    (case i_Throng_changed => k_is)
    (case l_Throng_changed => k_is)
    (case c_Throng_changed => k_is)
    (case k_Throng_changed => k_is)
    (case a_Throng_meet => k_is)
    (case i_Throng_meet => k_is)
    (case l_Throng_meet => k_is)
    (case c_Throng_meet => k_is)
    (case k_Throng_meet => k_is)
    (case a_Throng_says => k_is)
    (case i_Throng_says => k_is)
    (case l_Throng_says => k_is)
    (case c_Throng_says => k_is)
    (case k_Throng_says => k_is)
    (case a_Throng_said => k_is)
    (case i_Throng_said => k_is)
    (case l_Throng_said => k_is)
    (case c_Throng_said => k_is)
    (case k_Throng_said => k_is)
    (case a_Throng_pour => k_is)
    (case i_Throng_pour => k_is)
    (case l_Throng_pour => k_is)
    (case c_Throng_pour => k_is)
    (case k_Throng_pour => k_is)
    (case a_Throng_stretch => k_is)
    (case i_Throng_stretch => k_is)
    (case l_Throng_stretch => k_is)
    (case c_Throng_stretch => k_is)
    (case k_Throng_stretch => k_is)
    (case w_Throng_stretch_backward => k_is)
    (case a_Throng_mark => k_is)
    (case i_Throng_mark => k_is)
    (case l_Throng_mark => k_is)
    (case c_Throng_mark => k_is)
    (case k_Throng_mark => k_is)
    (case a_Throng_back => k_is)
    (case i_Throng_back => k_is)
    (case l_Throng_back => k_is)
    (case c_Throng_back => k_is)
    (case k_Throng_back => k_is)
    (case a__law_cell_at => k_is)
    (case l__law_cell_at => k_is)
    (case c__law_cell_at => k_is)
    (case k__law_cell_at => k_is)
    (case a__law_tape => k_is)
    (case l__law_tape => k_is)
    (case c__law_tape => k_is)
    (case k__law_tape => k_is)
    (case a__law_digit => k_is)
    (case l__law_digit => k_is)
    (case c__law_digit => k_is)
    (case k__law_digit => k_is)
    (case a__law_weights => k_is)
    (case l__law_weights => k_is)
    (case c__law_weights => k_is)
    (case k__law_weights => k_is)
    (case a__law_atom => k_is)
    (case l__law_atom => k_is)
    (case c__law_atom => k_is)
    (case k__law_atom => k_is)
    (case a__law_is_so => k_is)
    (case l__law_is_so => k_is)
    (case c__law_is_so => k_is)
    (case k__law_is_so => k_is)
    (case a__law_wide_sentence => k_is)
    (case l__law_wide_sentence => k_is)
    (case c__law_wide_sentence => k_is)
    (case k__law_wide_sentence => k_is)
    (case a__law_stretches => k_is)
    (case l__law_stretches => k_is)
    (case c__law_stretches => k_is)
    (case k__law_stretches => k_is)
    (case a__law_settled_throng => k_is)
    (case l__law_settled_throng => k_is)
    (case c__law_settled_throng => k_is)
    (case k__law_settled_throng => k_is)
    (case a__law_order_of_pairs => k_is)
    (case l__law_order_of_pairs => k_is)
    (case c__law_order_of_pairs => k_is)
    (case k__law_order_of_pairs => k_is)
    (case a__law_met_in_order => k_is)
    (case l__law_met_in_order => k_is)
    (case c__law_met_in_order => k_is)
    (case k__law_met_in_order => k_is)
    (case a__law_all_say => k_is)
    (case l__law_all_say => k_is)
    (case c__law_all_say => k_is)
    (case k__law_all_say => k_is)
    (case a__law_history => k_is)
    (case l__law_history => k_is)
    (case c__law_history => k_is)
    (case k__law_history => k_is)
    (case a__law_many_right => k_is)
    (case l__law_many_right => k_is)
    (case c__law_many_right => k_is)
    (case k__law_many_right => k_is)
    (case a_law => k_is)
    (case l_law => k_is)
    (case c_law => k_is)
    (case k_law => k_is)
end
