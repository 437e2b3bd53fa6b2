import PyProof.Rows.All
import Wide.All
import OpenK.AllK
import Wide.FinOn
import HandS.ForMost
import HandS.DictComp
import HandS.Defaults
import HandS.Walk
import HandS.MakeKw
import HandS.Flow
import HandS.Wide
import HandS.IsInst
import HandS.Text
import HandS.Codes
import HandS.Conv
import HandS.Strs
import HandS.Style
import HandS.TupAny
import KE.KUnpackStar
import HandS.ExcOwn
import HandS.Slots
import HandS.Small
import KE.KEqDict
import KE.GoesMore
import KE.GoesEnum
import PySem.Challenge.RW_crowdsay_k99_stretches_meeting_by_meetin
set_option Elab.async false
set_option linter.all false
set_option maxRecDepth 100000
/-! A small language of pure values (D) and mutable cells, its meaning (ev), and what ties it to the layer: core. -/
namespace DP
open PySem PySem.Spec L2

inductive D where
  | non | bl (b : Bool) | int (i : Int) | str (x : Str)
  | tup (ds : List D) | lst (ds : List D) | obj (C : Str) (fs : List (Str × D)) | cell (n : Nat) | scr (is : List Int)
instance : Inhabited D := ⟨.non⟩
inductive Cel where
  | lst (ds : List D) | dct (kvs : List (Key × D)) | ins (C : Str) (fs : List (Str × D)) | dead
abbrev Sto := List Cel
abbrev Rho := List (Option D)

/-! ### how a value stands for a datum -/
inductive Rep (K : PySem.W.Frag) (ca : Str → Option Addr) (α : List Addr) (F : Hp) : V → D → Prop
  | non : Rep K ca α F .non .non
  | bl (b : Bool) : Rep K ca α F (.bl b) (.bl b)
  | int (i : Int) : Rep K ca α F (.int i) (.int i)
  | str (x : Str) : Rep K ca α F (.str x) (.str x)
  | tup {a : Addr} {vs : List V} {ds : List D} : SqT K F a vs → vs.length = ds.length → (∀ (i : Nat) (v : V) (d : D), vs[i]? = some v → ds[i]? = some d → Rep K ca α F v d) → Rep K ca α F (.ref a) (.tup ds)
  | scr {a : Addr} {is : List Int} : SqL K F a (is.map V.int) → Rep K ca α F (.ref a) (.scr is)
  | lst {a : Addr} {vs : List V} {ds : List D} : F a = some (.lst vs) → vs.length = ds.length → (∀ (i : Nat) (v : V) (d : D), vs[i]? = some v → ds[i]? = some d → Rep K ca α F v d) → Rep K ca α F (.ref a) (.lst ds)
  | obj {a : Addr} {C : Str} {c dx : Addr} {fs : List (Str × V)} {gs : List (Str × D)} (vv : Str → V) : ca C = some c → F a = some (.ins c dx fs) → (∀ f, gs.lookup f = none → fs.lookup f = none) →
      (∀ f d, gs.lookup f = some d → fs.lookup f = some (vv f)) → (∀ f d, gs.lookup f = some d → Rep K ca α F (vv f) d) → Rep K ca α F (.ref a) (.obj C gs)
  | cell {a : Addr} {n : Nat} : α[n]? = some a → Rep K ca α F (.ref a) (.cell n)

def Reps (K : PySem.W.Frag) (ca : Str → Option Addr) (α : List Addr) (F : Hp) (vs : List V) (ds : List D) : Prop :=
  vs.length = ds.length ∧ ∀ (i : Nat) (v : V) (d : D), vs[i]? = some v → ds[i]? = some d → Rep K ca α F v d

def FRel (K : PySem.W.Frag) (ca : Str → Option Addr) (α : List Addr) (F : Hp) (fs : List (Str × V)) (gs : List (Str × D)) : Prop :=
  ∀ f, (gs.lookup f = none → fs.lookup f = none) ∧ ∀ d, gs.lookup f = some d → ∃ v, fs.lookup f = some v ∧ Rep K ca α F v d

def KRel (K : PySem.W.Frag) (ca : Str → Option Addr) (α : List Addr) (F : Hp) (vs : List (Key × V)) (ds : List (Key × D)) : Prop :=
  vs.map (·.1) = ds.map (·.1) ∧ Reps K ca α F (vs.map (·.2)) (ds.map (·.2))

structure Ext (α : List Addr) (F : Hp) (α' : List Addr) (F' : Hp) : Prop where
  pre : ∃ β, α' = α ++ β
  fr : ∀ a o, F a = some o → F' a = some o
theorem Ext.refl (α : List Addr) (F : Hp) : Ext α F α F := ⟨⟨[], by simp⟩, fun _ _ h => h⟩
theorem Ext.trans {α F α' F' α'' F''} (x : Ext α F α' F') (y : Ext α' F' α'' F'') : Ext α F α'' F'' := by
  obtain ⟨β, rfl⟩ := x.pre
  obtain ⟨γ, rfl⟩ := y.pre
  exact ⟨⟨β ++ γ, by simp⟩, fun a o h => y.fr a o (x.fr a o h)⟩
theorem Ext.at {α F α' F'} (x : Ext α F α' F') {n : Nat} {a : Addr} (h : α[n]? = some a) : α'[n]? = some a := by
  obtain ⟨β, rfl⟩ := x.pre
  have hl := (List.getElem?_eq_some_iff.mp h).1
  rw [List.getElem?_append_left hl]; exact h
theorem seqL_sub {K : PySem.W.Frag} {F F' : Hp} (s : ∀ a o, F a = some o → F' a = some o) {a : Addr} {xs : List V} (h : SqL K F a xs) : SqL K F' a xs := Same.seq (H := F) (H' := F') s h
theorem seqT_sub {K : PySem.W.Frag} {F F' : Hp} (s : ∀ a o, F a = some o → F' a = some o) {a : Addr} {xs : List V} (h : SqT K F a xs) : SqT K F' a xs := by
  rcases h with (h | ⟨o, h⟩) | h
  · exact .inl (.inl (s _ _ h))
  · exact .inl (.inr ⟨o, s _ _ h⟩)
  · exact .inr h
section
variable {K : PySem.W.Frag} {ca : Str → Option Addr} {α α' α'' : List Addr} {F F' F'' : Hp} {v w : V} {d : D}
theorem Rep.mono (r : Rep K ca α F v d) (x : Ext α F α' F') : Rep K ca α' F' v d := by
  induction r with
  | non => exact .non
  | bl b => exact .bl b
  | int i => exact .int i
  | str z => exact .str z
  | tup h l _ ih => exact .tup (seqT_sub x.fr h) l ih
  | lst h l _ ih => exact .lst (x.fr _ _ h) l ih
  | scr h => exact .scr (seqL_sub x.fr h)
  | obj vv h1 h2 h3 h4 _ ih => exact .obj vv h1 (x.fr _ _ h2) h3 h4 ih
  | cell h => exact .cell (x.at h)
theorem Reps.mono {vs : List V} {ds : List D} (r : Reps K ca α F vs ds) (x : Ext α F α' F') : Reps K ca α' F' vs ds := ⟨r.1, fun i v d h1 h2 => (r.2 i v d h1 h2).mono x⟩
theorem FRel.mono {fs : List (Str × V)} {gs : List (Str × D)} (r : FRel K ca α F fs gs) (x : Ext α F α' F') : FRel K ca α' F' fs gs := fun f => ⟨(r f).1, fun d e => by
  obtain ⟨v, h1, h2⟩ := (r f).2 d e
  exact ⟨v, h1, h2.mono x⟩⟩
theorem KRel.mono {fs : List (Key × V)} {gs : List (Key × D)} (r : KRel K ca α F fs gs) (x : Ext α F α' F') : KRel K ca α' F' fs gs := ⟨r.1, r.2.mono x⟩
theorem Reps.nil : Reps K ca α F [] [] := ⟨rfl, fun i v d h => by simp at h⟩
theorem Reps.cons {vs : List V} {ds : List D} (r : Rep K ca α F v d) (rs : Reps K ca α F vs ds) : Reps K ca α F (v :: vs) (d :: ds) := by
  refine ⟨by simp [rs.1], fun i u e h1 h2 => ?_⟩
  cases i with
  | zero => simp at h1 h2; subst h1; subst h2; exact r
  | succ i => exact rs.2 i u e (by simpa using h1) (by simpa using h2)
theorem Reps.head {vs : List V} {ds : List D} (rs : Reps K ca α F (v :: vs) (d :: ds)) : Rep K ca α F v d := rs.2 0 v d rfl rfl
theorem Reps.tail {vs : List V} {ds : List D} (rs : Reps K ca α F (v :: vs) (d :: ds)) : Reps K ca α F vs ds :=
  ⟨by have := rs.1; simpa using this, fun i u e h1 h2 => rs.2 (i + 1) u e (by simpa using h1) (by simpa using h2)⟩
theorem Reps.nil_iff {vs : List V} (rs : Reps K ca α F vs []) : vs = [] := by
  have := rs.1; simpa using this
theorem Reps.cons_inv {vs : List V} {ds : List D} (rs : Reps K ca α F vs (d :: ds)) : ∃ v vr, vs = v :: vr ∧ Rep K ca α F v d ∧ Reps K ca α F vr ds := by
  cases vs with
  | nil => have := rs.1; simp at this
  | cons v vr => exact ⟨v, vr, rfl, rs.head, rs.tail⟩
theorem Reps.get {vs : List V} {ds : List D} (rs : Reps K ca α F vs ds) {i : Nat} (h : ds[i]? = some d) : ∃ v, vs[i]? = some v ∧ Rep K ca α F v d := by
  have hl := (List.getElem?_eq_some_iff.mp h).1
  have hl' : i < vs.length := by rw [rs.1]; exact hl
  exact ⟨vs[i], by simp [hl'], rs.2 i _ d (by simp [hl']) h⟩
theorem Reps.append {vs ws : List V} {ds es : List D} (r : Reps K ca α F vs ds) (s : Reps K ca α F ws es) : Reps K ca α F (vs ++ ws) (ds ++ es) := by
  refine ⟨by simp [r.1, s.1], fun i u e h1 h2 => ?_⟩
  by_cases hi : i < ds.length
  · rw [List.getElem?_append_left (by rw [r.1]; exact hi)] at h1
    rw [List.getElem?_append_left hi] at h2
    exact r.2 i u e h1 h2
  · rw [List.getElem?_append_right (by rw [r.1]; omega)] at h1
    rw [List.getElem?_append_right (by omega)] at h2
    rw [r.1] at h1
    exact s.2 _ u e h1 h2
theorem Reps.drop {vs : List V} {ds : List D} (r : Reps K ca α F vs ds) (n : Nat) : Reps K ca α F (vs.drop n) (ds.drop n) :=
  ⟨by simp [r.1], fun i u e h1 h2 => r.2 (n + i) u e (by simpa using h1) (by simpa using h2)⟩
theorem Reps.take {vs : List V} {ds : List D} (r : Reps K ca α F vs ds) (n : Nat) : Reps K ca α F (vs.take n) (ds.take n) := by
  refine ⟨by simp [r.1], fun i u e h1 h2 => ?_⟩
  rw [List.getElem?_take] at h1 h2
  split at h1
  · rename_i h; rw [if_pos h] at h2; exact r.2 i u e h1 h2
  · cases h1
theorem Reps.set {vs : List V} {ds : List D} (r : Reps K ca α F vs ds) (n : Nat) (q : Rep K ca α F v d) : Reps K ca α F (vs.set n v) (ds.set n d) := by
  refine ⟨by simp [r.1], fun i u e h1 h2 => ?_⟩
  by_cases hi : n = i
  · subst hi
    have l1 : n < vs.length := by have := (List.getElem?_eq_some_iff.mp h1).1; simpa using this
    have l2 : n < ds.length := by have := (List.getElem?_eq_some_iff.mp h2).1; simpa using this
    rw [List.getElem?_set_self l1] at h1
    rw [List.getElem?_set_self l2] at h2
    cases h1; cases h2; exact q
  · rw [List.getElem?_set_ne hi] at h1 h2
    exact r.2 i u e h1 h2
theorem Reps.reverse {vs : List V} {ds : List D} (r : Reps K ca α F vs ds) : Reps K ca α F vs.reverse ds.reverse := by
  refine ⟨by simp [r.1], fun i u e h1 h2 => ?_⟩
  have l1 : i < vs.length := by have := (List.getElem?_eq_some_iff.mp h1).1; simpa using this
  have l2 : i < ds.length := by have := (List.getElem?_eq_some_iff.mp h2).1; simpa using this
  rw [List.getElem?_reverse l1] at h1
  rw [List.getElem?_reverse l2] at h2
  rw [r.1] at h1
  exact r.2 _ u e h1 h2
theorem Reps.eraseIdx {vs : List V} {ds : List D} (r : Reps K ca α F vs ds) (n : Nat) : Reps K ca α F (vs.eraseIdx n) (ds.eraseIdx n) := by
  refine ⟨by simp [List.length_eraseIdx, r.1], fun i u e h1 h2 => ?_⟩
  rw [List.getElem?_eraseIdx] at h1 h2
  split at h1
  · rename_i h; rw [if_pos h] at h2; exact r.2 i u e h1 h2
  · rename_i h; rw [if_neg h] at h2; exact r.2 _ u e h1 h2
end

/-! ### how the store stands in the heap -/
/-- what is marked stands for itself; a mark is a thing that no datum stands for -/
def un : HO → HO
  | .frz _ (.frz _ u) => u
  | o => o
def mark (u : HO) : HO := .frz default (.frz default u)
theorem un_mark (u : HO) : un (mark u) = u := rfl
theorem mark_ne {o u : HO} (h : un o = o) : o ≠ mark u := fun e => by
  subst e
  have e : u = mark u := h
  have := congrArg sizeOf e
  simp only [mark, HO.frz.sizeOf_spec] at this
  omega
theorem seqL_un {K : PySem.W.Frag} {F H : Hp} (s : ∀ a o, F a = some o → H a = some (un o)) {a : Addr} {xs : List V} (h : SqL K F a xs) : SqL K H a xs := by
  rcases h with (h | ⟨o, h⟩) | h
  · exact .inl (.inl (s _ _ h))
  · exact .inl (.inr ⟨o, s _ _ h⟩)
  · exact .inr h
theorem seqT_un {K : PySem.W.Frag} {F H : Hp} (s : ∀ a o, F a = some o → H a = some (un o)) {a : Addr} {xs : List V} (h : SqT K F a xs) : SqT K H a xs := by
  rcases h with (h | ⟨o, h⟩) | h
  · exact .inl (.inl (s _ _ h))
  · exact .inl (.inr ⟨o, s _ _ h⟩)
  · exact .inr h
def CelOk (K : PySem.W.Frag) (ca : Str → Option Addr) (α : List Addr) (F H : Hp) (a : Addr) : Cel → Prop
  | .lst ds => ∃ vs, H a = some (.lst vs) ∧ Reps K ca α F vs ds
  | .dct kvs => ∃ vs, H a = some (.dK vs) ∧ KRel K ca α F vs kvs
  | .ins C gs => ∃ c dx fs, ca C = some c ∧ H a = some (.ins c dx fs) ∧ FRel K ca α F fs gs ∧ fs.length = gs.length
  | .dead => True
structure Sim (K : PySem.W.Frag) (ca : Str → Option Addr) (α : List Addr) (F : Hp) (μ : Sto) (H : Hp) : Prop where
  len : α.length = μ.length
  sub : ∀ a o, F a = some o → H a = some (un o)
  cel : ∀ (n : Nat) c a, μ[n]? = some c → α[n]? = some a → CelOk K ca α F H a c
  inj : ∀ (n m : Nat) a, α[n]? = some a → α[m]? = some a → n = m
  off : ∀ (n : Nat) c a, μ[n]? = some c → c ≠ .dead → α[n]? = some a → F a = none
  trk : ∀ (n : Nat) a, α[n]? = some a → H a ≠ none
  mrk : ∀ (n : Nat) a u, α[n]? = some a → F a ≠ some (mark u)
def RE (K : PySem.W.Frag) (ca : Str → Option Addr) (α : List Addr) (F : Hp) (σ : St) (ρ : Rho) : Prop :=
  σ.length = ρ.length ∧ ∀ (i : Nat) d, ρ[i]? = some (some d) → ∃ v, σ[i]? = some (some v) ∧ Rep K ca α F v d
section
variable {K : PySem.W.Frag} {ca : Str → Option Addr} {α α' α'' : List Addr} {F F' F'' H : Hp} {v w : V} {d : D} {μ : Sto} {σ : St} {ρ : Rho}
theorem CelOk.mono {a : Addr} {c : Cel} (x : Ext α F α' F') (h : CelOk K ca α F H a c) : CelOk K ca α' F' H a c := by
  cases c with
  | lst ds => obtain ⟨vs, h1, h2⟩ := h; exact ⟨vs, h1, h2.mono x⟩
  | dct ds => obtain ⟨vs, h1, h2⟩ := h; exact ⟨vs, h1, h2.mono x⟩
  | ins C gs => obtain ⟨c, dx, fs, h1, h2, h3, h4⟩ := h; exact ⟨c, dx, fs, h1, h2, h3.mono x, h4⟩
  | dead => trivial
theorem CelOk.heap {a : Addr} {c : Cel} {H' : Hp} (e : ∀ o, H a = some o → H' a = some o) (h : CelOk K ca α F H a c) : CelOk K ca α F H' a c := by
  cases c with
  | lst ds => obtain ⟨vs, h1, h2⟩ := h; exact ⟨vs, e _ h1, h2⟩
  | dct ds => obtain ⟨vs, h1, h2⟩ := h; exact ⟨vs, e _ h1, h2⟩
  | ins C gs => obtain ⟨c, dx, fs, h1, h2, h3, h4⟩ := h; exact ⟨c, dx, fs, h1, e _ h2, h3, h4⟩
  | dead => trivial
theorem RE.mono (r : RE K ca α F σ ρ) (x : Ext α F α' F') : RE K ca α' F' σ ρ := ⟨r.1, fun i d h => by
  obtain ⟨v, h1, h2⟩ := r.2 i d h
  exact ⟨v, h1, h2.mono x⟩⟩
theorem RE.set (r : RE K ca α F σ ρ) (i : Nat) (q : Rep K ca α F v d) : RE K ca α F (σ.set i (some v)) (ρ.set i (some d)) := by
  refine ⟨by simp [r.1], fun j e h => ?_⟩
  by_cases hi : i = j
  · subst hi
    have l2 : i < ρ.length := by have := (List.getElem?_eq_some_iff.mp h).1; simpa using this
    rw [List.getElem?_set_self l2] at h
    cases h
    exact ⟨v, by rw [List.getElem?_set_self (by rw [r.1]; exact l2)], q⟩
  · rw [List.getElem?_set_ne hi] at h
    obtain ⟨u, h1, h2⟩ := r.2 j e h
    exact ⟨u, by rw [List.getElem?_set_ne hi]; exact h1, h2⟩
/-- a new object that is frozen at once -/
theorem Sim.laid {p : Addr} {o : HO} (s : Sim K ca α F μ H) (hp : H p = none) (hu : un o = o := by rfl) : Sim K ca α (upd F p o) μ (upd H p o) ∧ Ext α F α (upd F p o) := by
  have hF : F p = none := by
    cases q : F p with
    | none => rfl
    | some u => have := s.sub _ _ q; rw [hp] at this; cases this
  have x : Ext α F α (upd F p o) := ⟨⟨[], by simp⟩, fun a u h => by rw [upd_ne (ne_of_none h hF)]; exact h⟩
  have ne : ∀ (n : Nat) a, α[n]? = some a → a ≠ p := fun n a h e => s.trk n a h (e ▸ hp)
  refine ⟨⟨s.len, fun a u h => ?_, fun n c a h1 h2 => ?_, s.inj, fun n c a h1 h2 h3 => ?_, fun n a h => ?_, fun n a u h => by rw [upd_ne (ne n a h)]; exact s.mrk n a u h⟩, x⟩
  · by_cases e : a = p
    · subst e; rw [upd_same] at h ⊢; cases h; rw [hu]
    · rw [upd_ne e] at h ⊢; exact s.sub a u h
  · exact ((s.cel n c a h1 h2).mono x).heap fun u hu => by rw [upd_ne (ne n a h2)]; exact hu
  · rw [upd_ne (ne n a h3)]; exact s.off n c a h1 h2 h3
  · rw [upd_ne (ne n a h)]; exact s.trk n a h
/-- a new object that is a cell -/
theorem Sim.cellNew {p : Addr} {o : HO} {c : Cel} (s : Sim K ca α F μ H) (hp : H p = none) (hc : CelOk K ca (α ++ [p]) F (upd H p o) p c) :
    Sim K ca (α ++ [p]) F (μ ++ [c]) (upd H p o) ∧ Ext α F (α ++ [p]) F ∧ (α ++ [p])[μ.length]? = some p := by
  have hF : F p = none := by
    cases q : F p with
    | none => rfl
    | some u => have := s.sub _ _ q; rw [hp] at this; cases this
  have x : Ext α F (α ++ [p]) F := ⟨⟨[p], rfl⟩, fun a u h => h⟩
  have ne : ∀ (n : Nat) a, α[n]? = some a → a ≠ p := fun n a h e => s.trk n a h (e ▸ hp)
  have inv : ∀ (n : Nat) a, (α ++ [p])[n]? = some a → (n < α.length ∧ α[n]? = some a) ∨ (n = α.length ∧ a = p) := fun n a h => by
    by_cases hn : n < α.length
    · rw [List.getElem?_append_left hn] at h; exact .inl ⟨hn, h⟩
    · rw [List.getElem?_append_right (by omega)] at h
      have : n - α.length = 0 := by
        have := (List.getElem?_eq_some_iff.mp h).1; simp at this; omega
      rw [this] at h
      simp at h
      exact .inr ⟨by omega, h.symm⟩
  refine ⟨⟨by simp [s.len], fun a u h => ?_, fun n c' a h1 h2 => ?_, fun n m a h1 h2 => ?_, fun n c' a h1 h2 h3 => ?_, fun n a h => ?_, fun n a u h => ?_⟩, x, ?_⟩
  · rw [upd_ne (ne_of_none h hF)]; exact s.sub a u h
  · rcases inv n a h2 with ⟨hn, h2'⟩ | ⟨hn, ha⟩
    · rw [List.getElem?_append_left (by rw [← s.len]; exact hn)] at h1
      exact ((s.cel n c' a h1 h2').mono x).heap fun u hu => by rw [upd_ne (ne n a h2')]; exact hu
    · subst ha
      rw [List.getElem?_append_right (by rw [← s.len]; omega), hn, s.len] at h1
      simp at h1; subst h1; exact hc
  · rcases inv n a h1 with ⟨hn, h1'⟩ | ⟨hn, ha⟩ <;> rcases inv m a h2 with ⟨hm, h2'⟩ | ⟨hm, ha'⟩
    · exact s.inj n m a h1' h2'
    · exact absurd ha' (ne n a h1')
    · exact absurd ha (ne m a h2')
    · omega
  · rcases inv n a h3 with ⟨hn, h3'⟩ | ⟨hn, ha⟩
    · rw [List.getElem?_append_left (by rw [← s.len]; exact hn)] at h1
      exact s.off n c' a h1 h2 h3'
    · subst ha; exact hF
  · rcases inv n a h with ⟨hn, h'⟩ | ⟨hn, ha⟩
    · rw [upd_ne (ne n a h')]; exact s.trk n a h'
    · subst ha; rw [upd_same]; exact fun z => nomatch z
  · rcases inv n a h with ⟨hn, h'⟩ | ⟨hn, ha⟩
    · exact s.mrk n a u h'
    · subst ha; rw [hF]; exact fun z => nomatch z
  · rw [← s.len]; simp
/-- a cell's content is changed -/
theorem Sim.write {n : Nat} {a : Addr} {o : HO} {c c' : Cel} (s : Sim K ca α F μ H) (hn : μ[n]? = some c) (hd : c ≠ .dead) (ha : α[n]? = some a) (hc : CelOk K ca α F (upd H a o) a c') (hd' : c' ≠ .dead) :
    Sim K ca α F (μ.set n c') (upd H a o) := by
  have hF := s.off n c a hn hd ha
  have hl : n < μ.length := (List.getElem?_eq_some_iff.mp hn).1
  refine ⟨by simp [s.len], fun b u h => ?_, fun m e b h1 h2 => ?_, s.inj, fun m e b h1 h2 h3 => ?_, fun m b h => ?_, s.mrk⟩
  · rw [upd_ne (ne_of_none h hF)]; exact s.sub b u h
  · by_cases hm : n = m
    · subst hm
      rw [ha] at h2; cases h2
      rw [List.getElem?_set_self hl] at h1; cases h1
      exact hc
    · rw [List.getElem?_set_ne hm] at h1
      exact (s.cel m e b h1 h2).heap fun u hu => by
        rw [upd_ne (show b ≠ a from fun q => hm (s.inj n m a ha (by rw [← q]; exact h2)))]; exact hu
  · by_cases hm : n = m
    · subst hm; rw [ha] at h3; cases h3; exact hF
    · rw [List.getElem?_set_ne hm] at h1; exact s.off m e b h1 h2 h3
  · by_cases e : b = a
    · subst e; rw [upd_same]; exact fun z => nomatch z
    · rw [upd_ne e]; exact s.trk m b h
/-- a cell is given up: its content is frozen as it stands -/
theorem Sim.freeze {n : Nat} {a : Addr} {o : HO} {c : Cel} (s : Sim K ca α F μ H) (hn : μ[n]? = some c) (hd : c ≠ .dead) (ha : α[n]? = some a) (ho : H a = some o) (hu : un o = o := by rfl) :
    Sim K ca α (upd F a o) (μ.set n .dead) H ∧ Ext α F α (upd F a o) := by
  have hF := s.off n c a hn hd ha
  have hl : n < μ.length := (List.getElem?_eq_some_iff.mp hn).1
  have x : Ext α F α (upd F a o) := ⟨⟨[], by simp⟩, fun b u h => by rw [upd_ne (ne_of_none h hF)]; exact h⟩
  refine ⟨⟨by simp [s.len], fun b u h => ?_, fun m e b h1 h2 => ?_, s.inj, fun m e b h1 h2 h3 => ?_, s.trk, fun m b u h => ?_⟩, x⟩
  · by_cases e : b = a
    · subst e; rw [upd_same] at h; cases h; rw [hu]; exact ho
    · rw [upd_ne e] at h; exact s.sub b u h
  · by_cases hm : n = m
    · subst hm; rw [List.getElem?_set_self hl] at h1; cases h1; trivial
    · rw [List.getElem?_set_ne hm] at h1; exact (s.cel m e b h1 h2).mono x
  · by_cases hm : n = m
    · subst hm; rw [List.getElem?_set_self hl] at h1; cases h1; exact absurd rfl h2
    · rw [List.getElem?_set_ne hm] at h1
      rw [upd_ne (show b ≠ a from fun q => hm (s.inj n m a ha (by rw [← q]; exact h3)))]
      exact s.off m e b h1 h2 h3
  · by_cases e : b = a
    · subst e; rw [upd_same]; exact fun z => mark_ne hu (Option.some.inj z)
    · rw [upd_ne e]; exact s.mrk m b u h
end
end DP

/-! The language: syntax E, S and its meaning. -/
namespace DP
open PySem PySem.Spec L2

inductive Op2 where | add | sub | mul | fdiv | mod | pow
inductive Cmp where | eq | ne | lt | le | gt | ge | isN | notN | mem | nmem
inductive Bi where
  | len | sum | maxL | minL | max2 | min2 | abs | int1 | str1 | list1 | tuple1 | all | any | dict1 | isInt | isBool
  | append | pop | pop0 | index | range1 | listR | listK
/-- where a thing is stored: a name, an attribute of a name's instance -/
inductive Leaf where | n (i : Nat) | f (o : Nat) (a : Str)
inductive Tg where | one (l : Leaf) | tup (ls : List Leaf) | star (pre : List Leaf) (s : Leaf) (post : List Leaf)

/-- the slots that a target sets -/
def Leaf.sl : Leaf → List Nat | .n i => [i] | .f _ _ => []
def Tg.sl : Tg → List Nat
  | .one l => l.sl
  | .tup ls => ls.flatMap Leaf.sl
  | .star pre s post => (pre ++ [s] ++ post).flatMap Leaf.sl
inductive E where
  | v (i : Nat) | c (d : D) | g (x : Str)
  | bin (o : Op2) (a b : E) | neg (a : E) | cmp (o : Cmp) (a b : E) | chn (o o' : Cmp) (a b c : E)
  | and (a b : E) | or (a b : E) | not (a : E) | ife (c a b : E)
  | nil | cons (a as : E)
  | tup (as : E) | lst (m : Bool) (as : E) | cat (m : Bool) (a b : E) | rep (m : Bool) (a b : E)
  | ix (a b : E) | sl (m : Bool) (a lo hi : E) | rev (m : Bool) (a : E) | noP
  | fld (a : E) (f : Str) | call (f : Str) (as : E) | meth (a : E) (f : Str) (as : E) | make (fr : Bool) (C : Str) (as : E)
  | bi (b : Bi) (m : Bool) (as : E) | mt (b : Bi) (a as : E) | isi (a : E) (C : Str) | lenO (a : E)
  | frz (a : E)
  | lc (m : Bool) (own : List Nat) (tg : Tg) (it cs elt : E)
  | lc2 (m : Bool) (own : List Nat) (tg : Tg) (it cs : E) (tg1 : Tg) (it1 cs1 elt : E)
  | dc (own : List Nat) (tg : Tg) (it cs ke ve : E)
  | rng (lo hi : E) | zip2 (a b : E) | zip3 (a b c : E) | enm (a : E)

/-- what is fixed while a def runs: the while's fuel, the constants, the attributes' names by class, what calls tell -/
structure Pr where
  wf : Nat
  gv : Str → Option D
  att : Str → List Str
  call : Str → List D → Sto → Option (D × Sto)
  meth : Str → Str → List D → Sto → Option (D × Sto)

def bnd {α β : Type} (x : Option (α × Sto)) (f : α → Sto → Option β) : Option β := match x with
  | some (a, μ) => f a μ
  | none => none
@[simp] theorem bnd_some {α β : Type} (a : α) (μ : Sto) (f : α → Sto → Option β) : bnd (some (a, μ)) f = f a μ := rfl
@[simp] theorem bnd_none {α β : Type} (f : α → Sto → Option β) : bnd none f = none := rfl
theorem bnd_eq {α β : Type} {x : Option (α × Sto)} {f : α → Sto → Option β} {r : β} (h : bnd x f = some r) : ∃ a μ, x = some (a, μ) ∧ f a μ = some r := by
  cases x with
  | none => cases h
  | some p => exact ⟨p.1, p.2, rfl, h⟩

mutual
def D.py : D → Option PyData
  | .non => some .none | .bl b => some (.bool b) | .int i => some (.int i) | .str x => some (.str x)
  | .tup ds => (D.pys ds).map .tuple | .lst ds => (D.pys ds).map .list
  | .obj _ _ => none | .cell _ => none | .scr _ => none
def D.pys : List D → Option (List PyData)
  | [] => some []
  | d :: ds => match D.py d, D.pys ds with
    | some x, some xs => some (x :: xs)
    | _, _ => none
end
mutual
def D.beq : D → D → Bool
  | .non, .non => true | .bl a, .bl b => a == b | .int a, .int b => a == b | .str a, .str b => a == b
  | .tup a, .tup b => D.beqs a b | .lst a, .lst b => D.beqs a b | .obj C f, .obj C' g => C == C' && D.beqf f g | .cell a, .cell b => a == b | .scr a, .scr b => a == b
  | _, _ => false
def D.beqs : List D → List D → Bool
  | [], [] => true
  | a :: as, b :: bs => D.beq a b && D.beqs as bs
  | _, _ => false
def D.beqf : List (Str × D) → List (Str × D) → Bool
  | [], [] => true
  | a :: as, b :: bs => a.1 == b.1 && D.beq a.2 b.2 && D.beqf as bs
  | _, _ => false
end
mutual
theorem D.beq_of : ∀ (x y : D), D.beq x y = true → x = y
  | .non, y, h => by cases y <;> simp [D.beq] at h; rfl
  | .bl a, y, h => by cases y <;> simp [D.beq] at h; rw [h]
  | .int a, y, h => by cases y <;> simp [D.beq] at h; rw [h]
  | .str a, y, h => by cases y <;> simp [D.beq] at h; rw [h]
  | .cell a, y, h => by cases y <;> simp [D.beq] at h; rw [h]
  | .scr a, y, h => by cases y <;> simp [D.beq] at h; rw [h]
  | .tup a, y, h => by cases y <;> simp [D.beq] at h; rw [D.beqs_of _ _ h]
  | .lst a, y, h => by cases y <;> simp [D.beq] at h; rw [D.beqs_of _ _ h]
  | .obj C f, y, h => by cases y <;> simp [D.beq] at h; rw [h.1, D.beqf_of _ _ h.2]
theorem D.beqs_of : ∀ (x y : List D), D.beqs x y = true → x = y
  | [], y, h => by cases y <;> simp [D.beqs] at h; rfl
  | a :: as, y, h => by
    cases y with
    | nil => simp [D.beqs] at h
    | cons b bs => simp [D.beqs] at h; rw [D.beq_of _ _ h.1, D.beqs_of _ _ h.2]
theorem D.beqf_of : ∀ (x y : List (Str × D)), D.beqf x y = true → x = y
  | [], y, h => by cases y <;> simp [D.beqf] at h; rfl
  | (f, a) :: as, y, h => by
    cases y with
    | nil => simp [D.beqf] at h
    | cons b bs => obtain ⟨g, b⟩ := b; simp [D.beqf] at h; rw [h.1.1, D.beq_of _ _ h.1.2, D.beqf_of _ _ h.2]
end
mutual
@[simp] theorem D.beq_self : ∀ (x : D), D.beq x x = true
  | .non => rfl | .bl a => by simp [D.beq] | .int a => by simp [D.beq] | .str a => by simp [D.beq] | .cell a => by simp [D.beq] | .scr a => by simp [D.beq]
  | .tup a => by simp [D.beq, D.beqs_self a] | .lst a => by simp [D.beq, D.beqs_self a] | .obj C f => by simp [D.beq, D.beqf_self f]
@[simp] theorem D.beqs_self : ∀ (x : List D), D.beqs x x = true
  | [] => rfl
  | a :: as => by simp [D.beqs, D.beq_self a, D.beqs_self as]
@[simp] theorem D.beqf_self : ∀ (x : List (Str × D)), D.beqf x x = true
  | [] => rfl
  | (f, a) :: as => by simp [D.beqf, D.beq_self a, D.beqf_self as]
end
/-- a cell that a loop walks: it stays as it is -/
abbrev Wt := Option (Nat × List D)
def watch (w : Wt) (μ : Sto) : Bool := match w with
  | none => true
  | some (n, ds) => match μ[n]? with
    | some (.lst es) => D.beqs ds es
    | _ => false
/-- no cell from the n-th on is spoken of -/
def D.under (n : Nat) : D → Bool
  | .cell m => decide (m < n)
  | .tup ds => D.unders n ds
  | .lst ds => D.unders n ds
  | .obj _ fs => D.underF n fs
  | _ => true
where
  D.unders (n : Nat) : List D → Bool
    | [] => true
    | d :: ds => D.under n d && D.unders n ds
  D.underF (n : Nat) : List (Str × D) → Bool
    | [] => true
    | d :: ds => D.under n d.2 && D.underF n ds

def mulOk (i j : Int) : Bool := decide (-(2 ^ 64) < i ∧ i < 2 ^ 64) || decide (-(2 ^ 64) < j ∧ j < 2 ^ 64) || decide (i.natAbs.log2 + j.natAbs.log2 < 1000000)
def divOk (j : Int) : Bool := decide (j ≠ 0 ∧ j.natAbs < 1073741824) || decide (0 < j ∧ j.natAbs.log2 < 9000)
def op2 : Op2 → D → D → Option D
  | .add, .int i, .int j => some (.int (i + j))
  | .add, .str x, .str y => if x.length + y.length ≤ sizeLine then some (.str (x ++ y)) else none
  | .add, .tup a, .tup b => if a.length + b.length ≤ sizeLine then some (.tup (a ++ b)) else none
  | .sub, .int i, .int j => some (.int (i - j))
  | .mul, .int i, .int j => if mulOk i j then some (.int (i * j)) else none
  | .fdiv, .int i, .int j => if divOk j then some (.int (i.fdiv j)) else none
  | .mod, .int i, .int j => if j ≠ 0 then some (.int (i.fmod j)) else none
  | .pow, .int i, .int j => if 0 ≤ j ∧ j ≤ 1000000 ∧ i.natAbs < 2 ^ 64 then some (.int (i ^ j.toNat)) else none
  | _, _, _ => none
def D.flat : D → Bool
  | .non => true | .bl _ => true | .int _ => true | .str _ => true | _ => false
def D.toV : D → V
  | .bl b => .bl b | .int i => .int i | .str x => .str x | _ => .non
def eqF (x y : D) : Bool := eqV x.toV y.toV
def eqD (x y : D) : Option Bool := match x.py, y.py with
  | some a, some b => if SeqAt.shaped a && SeqAt.shaped b then some (a.eqv b) else none
  | _, _ => none
def key : D → Option Key
  | .int i => some (.inl i) | .str x => some (.inr x) | _ => none
def lookK {β : Type} (kvs : List (Key × β)) (k : Key) : Option β := (kvs.find? fun kv => decide (kv.1 = k)).map (·.2)
def putKD (kvs : List (Key × D)) (k : Key) (v : D) : List (Key × D) :=
  if kvs.any (fun kv => decide (kv.1 = k)) then kvs.map (fun kv => if kv.1 = k then (kv.1, v) else kv) else kvs ++ [(k, v)]
def memD (x y : D) (μ : Sto) : Option Bool := match y with
  | .tup ds => if x.flat && ds.all D.flat then some (ds.any fun z => eqF z x) else none
  | .lst ds => if x.flat && ds.all D.flat then some (ds.any fun z => eqF z x) else none
  | .cell n => match μ[n]? with
    | some (.dct kvs) => (key x).map fun k => (lookK kvs k).isSome
    | _ => none
  | _ => none
/-- == and != of two instances of own classes: by the class's own __eq__ -/
def cls (d : D) (μ : Sto) : Option Str := match d with
  | .obj C _ => some C
  | .cell n => match μ[n]? with
    | some (.ins C _) => some C
    | _ => none
  | _ => none
def isNon : D → Bool | .non => true | _ => false
def dictOf (d : D) (μ : Sto) : Option (List (Key × D)) := match d with
  | .cell n => match μ[n]? with | some (.dct kvs) => some kvs | _ => none
  | _ => none
/-- == of two dicts of flat values -/
def eqDict (a b : List (Key × D)) : Bool := a.length == b.length && a.all fun kv => match lookK b kv.1 with | some d => eqF kv.2 d | none => false
def eqA (Γ : Pr) (x y : D) (μ : Sto) : Option (Bool × Sto) := match cls x μ with
  | some C => match cls y μ with
    | some C' => if C' = C then bnd (Γ.meth C "__eq__" [x, y] μ) fun d μ => match d with | .bl b => some (b, μ) | _ => none else none
    | none => none
  | none => match dictOf x μ with
    | some a => match dictOf y μ with
      | some b => if (a.all fun kv => kv.2.flat) && (b.all fun kv => kv.2.flat) then some (eqDict a b, μ) else none
      | none => none
    | none => (eqD x y).map fun b => (b, μ)
/-- the class of an instance that has no attribute of that name -/
def recv (d : D) (m : Str) (μ : Sto) : Option Str := match d with
  | .obj C fs => match fs.lookup m with | none => some C | _ => none
  | .cell n => match μ[n]? with
    | some (.ins C fs) => match fs.lookup m with | none => some C | _ => none
    | _ => none
  | _ => none
def cmpD (Γ : Pr) (o : Cmp) (x y : D) (μ : Sto) : Option (Bool × Sto) := match o with
  | .eq => eqA Γ x y μ
  | .ne => (eqA Γ x y μ).map fun p => (!p.1, p.2)
  | .lt => match x, y with | .int i, .int j => some (decide (i < j), μ) | _, _ => none
  | .le => match x, y with | .int i, .int j => some (decide (i ≤ j), μ) | _, _ => none
  | .gt => match x, y with | .int i, .int j => some (decide (j < i), μ) | _, _ => none
  | .ge => match x, y with | .int i, .int j => some (decide (j ≤ i), μ) | _, _ => none
  | .isN => match y with | .non => some (isNon x, μ) | _ => none
  | .notN => match y with | .non => some (!isNon x, μ) | _ => none
  | .mem => (memD x y μ).map fun b => (b, μ)
  | .nmem => (memD x y μ).map fun b => (!b, μ)
def alloc (m : Bool) (ds : List D) (μ : Sto) : Option (D × Sto) := if ds.length ≤ sizeLine then (if m then some (.cell μ.length, μ ++ [.lst ds]) else some (.lst ds, μ)) else none
/-- what a list, a tuple holds -/
def items (d : D) (μ : Sto) : Option (List D) := match d with
  | .scr is => some (is.map .int)
  | .tup ds => some ds
  | .lst ds => some ds
  | .cell n => match μ[n]? with | some (.lst ds) => some ds | _ => none
  | _ => none
def listed (d : D) (μ : Sto) : Option (List D) := match d with
  | .scr is => some (is.map .int)
  | .lst ds => some ds
  | .cell n => match μ[n]? with | some (.lst ds) => some ds | _ => none
  | _ => none
def lstOf (d : D) (μ : Sto) : Option (List D) := match d with
  | .lst ds => some ds
  | .cell n => match μ[n]? with | some (.lst ds) => some ds | _ => none
  | _ => none
def truth (d : D) (μ : Sto) : Option Bool := match d with
  | .non => some false | .bl b => some b | .int i => some (i != 0)
  | .str x => if x.length ≤ sizeLine then some ((x.length : Int) != 0) else none
  | d => (items d μ).map fun ds => !ds.isEmpty
def ixD (x y : D) (μ : Sto) : Option D := match x, y with
  | .str z, .int i => if z.length ≤ sizeLine then (atI z.cps.toList i).map fun c => .str ⟨#[c]⟩ else none
  | .cell n, y => match μ[n]? with
    | some (.lst ds) => match y with | .int i => atI ds i | _ => none
    | some (.dct kvs) => (key y).bind (lookK kvs)
    | _ => none
  | x, .int i => (items x μ).bind fun ds => atI ds i
  | _, _ => none
def sIx := HT.sIx
def cutD (xs : List D) (lo hi : Option Int) : List D := (xs.drop (HT.sIx xs.length 0 lo)).take (HT.sIx xs.length xs.length hi - HT.sIx xs.length 0 lo)
def slD (m : Bool) (x : D) (lo hi : Option Int) (μ : Sto) : Option (D × Sto) := match x with
  | .tup ds => some (.tup (cutD ds lo hi), μ)
  | .str z => if z.length ≤ sizeLine then some (.str (cutS z lo hi), μ) else none
  | x => (listed x μ).bind fun ds => alloc m (cutD ds lo hi) μ
def fldD (Γ : Pr) (x : D) (f : Str) (μ : Sto) : Option D := match x with
  | .obj C fs => if f ∈ Γ.att C then fs.lookup f else none
  | .cell n => match μ[n]? with
    | some (.ins C fs) => if f ∈ Γ.att C then fs.lookup f else none
    | _ => none
  | _ => none
def intsD : List D → Option (List Int)
  | [] => some []
  | .int i :: ds => (intsD ds).map (i :: ·)
  | _ => none
def bls : List D → Option (List Bool)
  | [] => some []
  | .bl i :: ds => (bls ds).map (i :: ·)
  | _ => none
def maxI : Int → List Int → Int
  | m, [] => m
  | m, i :: is => maxI (if m < i then i else m) is
def minI : Int → List Int → Int
  | m, [] => m
  | m, i :: is => minI (if i < m then i else m) is
def dKey : Key → D
  | .inl i => .int i
  | .inr x => .str x
def biD (b : Bi) (m : Bool) (as : List D) (μ : Sto) : Option (D × Sto) := match b, as with
  | .len, [.str x] => if x.length ≤ sizeLine then some (.int x.length, μ) else none
  | .len, [x] => (items x μ).map fun ds => (.int ds.length, μ)
  | .sum, [x] => ((listed x μ).bind intsD).map fun is => (.int is.sum, μ)
  | .maxL, [x] => ((listed x μ).bind intsD).bind fun is => match is with | [] => none | i :: is => some (.int (maxI i is), μ)
  | .minL, [x] => ((listed x μ).bind intsD).bind fun is => match is with | [] => none | i :: is => some (.int (minI i is), μ)
  | .max2, [.int i, .int j] => some (.int (if j > i then j else i), μ)
  | .min2, [.int i, .int j] => some (.int (if j < i then j else i), μ)
  | .abs, [.int i] => some (.int (if i < 0 then -i else i), μ)
  | .int1, [.int i] => some (.int i, μ)
  | .int1, [.bl b] => some (.int (if b then 1 else 0), μ)
  | .list1, [x] => (items x μ).bind fun ds => alloc m ds μ
  | .listK, [.cell n] => match μ[n]? with
    | some (.dct kvs) => alloc m (kvs.map fun kv => dKey kv.1) μ
    | _ => none
  | .dict1, [.cell n] => match μ[n]? with
    | some (.dct kvs) => some (.cell μ.length, μ ++ [.dct kvs])
    | _ => none
  | .index, [x, y] => (listed x μ).bind fun ds => if y.flat && ds.all D.flat then (ds.findIdx? fun z => eqF z y).map fun i => (.int (i : Nat), μ) else none
  | .tuple1, [x] => (listed x μ).map fun ds => (.tup ds, μ)
  | .all, [x] => ((listed x μ).bind bls).map fun is => (.bl (is.all id), μ)
  | .any, [x] => ((listed x μ).bind bls).map fun is => (.bl (is.any id), μ)
  | .isInt, [.int _] => some (.bl true, μ)
  | .isInt, [.bl _] => some (.bl true, μ)
  | .isBool, [.int _] => some (.bl false, μ)
  | .isBool, [.bl _] => some (.bl true, μ)
  | .append, [.cell n, x] => match μ[n]? with
    | some (.lst ds) => if ds.length < sizeLine then some (.non, μ.set n (.lst (ds ++ [x]))) else none
    | _ => none
  | .pop, [.cell n] => match μ[n]? with
    | some (.lst ds) => (ds[ds.length - 1]?).map fun y => (y, μ.set n (.lst ds.dropLast))
    | _ => none
  | .pop0, [.cell n, .int i] => match μ[n]? with
    | some (.lst ds) => if -(2 ^ 63) ≤ i ∧ i < 2 ^ 63 then (seqIndex? i ds.length).bind fun k => (ds[k]?).map fun y => (y, μ.set n (.lst (ds.eraseIdx k))) else none
    | _ => none
  | .listR, [.int i, .int j] => if -(2 ^ 62) ≤ i ∧ i < 2 ^ 62 ∧ -(2 ^ 62) ≤ j ∧ j < 2 ^ 62 ∧ (j - i).toNat ≤ 2 ^ 24 then alloc m ((List.range (j - i).toNat).map fun (k : Nat) => D.int (i + (k : Int))) μ else none
  | .range1, [.int j] => if 0 ≤ j ∧ j < 16777216 then alloc m ((List.range j.toNat).map fun (i : Nat) => D.int (i : Int)) μ else none
  | _, _ => none
def storeLeaf (Γ : Pr) (l : Leaf) (d : D) (ρ : Rho) (μ : Sto) : Option (Rho × Sto) := match l with
  | .n i => some (ρ.set i (some d), μ)
  | .f o a => match ρ[o]? with
    | some (some (.cell n)) => match μ[n]? with
      | some (.ins C fs) => if a ∈ Γ.att C ∧ fs.length < 40 then some (ρ, μ.set n (.ins C (putF' a d fs))) else none
      | _ => none
    | _ => none
where
  putF' (f : Str) (v : D) : List (Str × D) → List (Str × D)
    | [] => [(f, v)]
    | (g, u) :: r => if g = f then (f, v) :: r else (g, u) :: putF' f v r
def storeAll (Γ : Pr) : List Leaf → List D → Rho → Sto → Option (Rho × Sto)
  | [], [], ρ, μ => some (ρ, μ)
  | l :: ls, d :: ds, ρ, μ => (storeLeaf Γ l d ρ μ).bind fun p => storeAll Γ ls ds p.1 p.2
  | _, _, _, _ => none
def bind (Γ : Pr) (t : Tg) (d : D) (ρ : Rho) (μ : Sto) : Option (Rho × Sto) := match t with
  | .one l => storeLeaf Γ l d ρ μ
  | .tup ls => match d with
    | .tup ds => storeAll Γ ls ds ρ μ
    | _ => none
  | .star pre s post => (match d with | .tup ds => some ds | .lst ds => some ds | _ => none).bind fun ds =>
      if pre.length + post.length ≤ ds.length ∧ ds.length ≤ 16384 then
        storeAll Γ (pre ++ [s] ++ post) (ds.take pre.length ++ [D.lst ((ds.drop pre.length).take (ds.length - pre.length - post.length))] ++ ds.drop (ds.length - post.length)) ρ μ
      else none
def wipeD (ρ : Rho) : List Nat → Rho
  | [] => ρ
  | i :: is => (wipeD ρ is).set i none
def lcLoop (w : Wt) (f : D → Sto → Option (List D × Sto)) : List D → Sto → Option (List D × Sto)
  | [], μ => some ([], μ)
  | x :: xs, μ => bnd (f x μ) fun ys μ => if watch w μ then bnd (lcLoop w f xs μ) fun zs μ => some (ys ++ zs, μ) else none
def dcLoop (w : Wt) (f : D → Sto → Option (Option (Key × D) × Sto)) : List D → List (Key × D) → Sto → Option (List (Key × D) × Sto)
  | [], acc, μ => some (acc, μ)
  | x :: xs, acc, μ => bnd (f x μ) fun o μ => if watch w μ then match o with
    | some kv => if acc.length < sizeLine then dcLoop w f xs (putKD acc kv.1 kv.2) μ else none
    | none => dcLoop w f xs acc μ else none
def optI (o : Option (D × Sto)) (k : Option Int → Sto → Option (D × Sto)) : Option (D × Sto) := match o with
  | some (.int i, μ) => k (some i) μ
  | _ => none
def freezeD (n : Nat) (μ : Sto) : Option (D × Sto) := match μ[n]? with
  | some (.lst ds) => some (.lst ds, μ.set n .dead)
  | some (.ins C fs) => some (.obj C fs, μ.set n .dead)
  | _ => none
/-- the store down to its first n cells, where nothing speaks of the others -/
def cutOk (n : Nat) : Cel → Bool
  | .lst ds => D.under.D.unders n ds
  | .dct kvs => kvs.all fun kv => D.under n kv.2
  | .ins _ fs => D.under.D.underF n fs
  | .dead => true

mutual
def ev (Γ : Pr) : E → Rho → Sto → Option (D × Sto)
  | .v i, ρ, μ => match ρ[i]? with | some (some d) => some (d, μ) | _ => none
  | .c d, _, μ => some (d, μ)
  | .g x, _, μ => (Γ.gv x).map fun d => (d, μ)
  | .bin o a b, ρ, μ => bnd (ev Γ a ρ μ) fun x μ => bnd (ev Γ b ρ μ) fun y μ => (op2 o x y).map fun z => (z, μ)
  | .neg a, ρ, μ => bnd (ev Γ a ρ μ) fun x μ => match x with | .int i => some (.int (-i), μ) | _ => none
  | .cmp o a b, ρ, μ => bnd (ev Γ a ρ μ) fun x μ => bnd (ev Γ b ρ μ) fun y μ => (cmpD Γ o x y μ).map fun p => (.bl p.1, p.2)
  | .chn o o' a b c, ρ, μ => bnd (ev Γ a ρ μ) fun x μ => bnd (ev Γ b ρ μ) fun y μ => bnd (cmpD Γ o x y μ) fun k μ =>
      if k then bnd (ev Γ c ρ μ) fun z μ => (cmpD Γ o' y z μ).map fun p => (.bl p.1, p.2) else some (.bl false, μ)
  | .and a b, ρ, μ => bnd (ev Γ a ρ μ) fun x μ => match truth x μ with
    | some true => ev Γ b ρ μ
    | some false => some (x, μ)
    | none => none
  | .or a b, ρ, μ => bnd (ev Γ a ρ μ) fun x μ => match truth x μ with
    | some true => some (x, μ)
    | some false => ev Γ b ρ μ
    | none => none
  | .not a, ρ, μ => bnd (ev Γ a ρ μ) fun x μ => (truth x μ).map fun b => (.bl (!b), μ)
  | .ife c a b, ρ, μ => bnd (evT Γ c ρ μ) fun k μ => if k then ev Γ a ρ μ else ev Γ b ρ μ
  | .tup as, ρ, μ => bnd (evs Γ as ρ μ) fun ds μ => if ds.length ≤ sizeLine then some (.tup ds, μ) else none
  | .lst m as, ρ, μ => bnd (evs Γ as ρ μ) fun ds μ => alloc m ds μ
  | .cat m a b, ρ, μ => bnd (ev Γ a ρ μ) fun x μ => bnd (ev Γ b ρ μ) fun y μ => (lstOf x μ).bind fun ds => (lstOf y μ).bind fun es => alloc m (ds ++ es) μ
  | .rep m a b, ρ, μ => bnd (ev Γ a ρ μ) fun x μ => bnd (ev Γ b ρ μ) fun y μ => (lstOf x μ).bind fun ds => match y with
    | .int k => if -(2 ^ 63) ≤ k ∧ k < 2 ^ 63 then alloc m (List.replicate k.toNat ds).flatten μ else none
    | _ => none
  | .ix a b, ρ, μ => bnd (ev Γ a ρ μ) fun x μ => bnd (ev Γ b ρ μ) fun y μ => (ixD x y μ).map fun d => (d, μ)
  | .sl m a lo hi, ρ, μ => bnd (ev Γ a ρ μ) fun x μ => bnd (evP Γ lo ρ μ) fun l μ => bnd (evP Γ hi ρ μ) fun h μ => slD m x l h μ
  | .rev m a, ρ, μ => bnd (ev Γ a ρ μ) fun x μ => (listed x μ).bind fun ds => alloc m ds.reverse μ
  | .fld a f, ρ, μ => bnd (ev Γ a ρ μ) fun x μ => (fldD Γ x f μ).map fun d => (d, μ)
  | .call f as, ρ, μ => bnd (evs Γ as ρ μ) fun ds μ => Γ.call f ds μ
  | .meth a f as, ρ, μ => bnd (ev Γ a ρ μ) fun x μ => (recv x f μ).bind fun C => bnd (evs Γ as ρ μ) fun ds μ => Γ.meth C f (x :: ds) μ
  | .make fr C as, ρ, μ => bnd (evs Γ as ρ μ) fun ds μ => bnd (Γ.meth C "__init__" (.cell μ.length :: ds) (μ ++ [.ins C []])) fun r μ' =>
      if isNon r then (if fr then freezeD μ.length μ' else some (.cell μ.length, μ')) else none
  | .bi b m as, ρ, μ => bnd (evs Γ as ρ μ) fun ds μ => biD b m ds μ
  | .mt b a as, ρ, μ => bnd (ev Γ a ρ μ) fun x μ => if (listed x μ).isSome then bnd (evs Γ as ρ μ) fun ds μ => biD b false (x :: ds) μ else none
  | .isi a C, ρ, μ => bnd (ev Γ a ρ μ) fun x μ => (cls x μ).map fun C' => (.bl (decide (C' = C)), μ)
  | .lenO a, ρ, μ => bnd (ev Γ a ρ μ) fun x μ => (cls x μ).bind fun C => bnd (Γ.meth C "__len__" [x] μ) fun r μ => match r with | .int n => if 0 ≤ n ∧ n < 2 ^ 63 then some (.int n, μ) else none | _ => none
  | .frz a, ρ, μ => bnd (ev Γ a ρ μ) fun x μ => match x with | .cell n => freezeD n μ | _ => none
  | .lc m own tg it cs elt, ρ, μ => bnd (evI Γ it ρ μ) fun xs μ => bnd (lcLoop xs.2 (fun x μ => (bind Γ tg x (wipeD ρ own) μ).bind fun p =>
      bnd (evT Γ cs p.1 p.2) fun k μ => if k then bnd (ev Γ elt p.1 μ) fun y μ => some ([y], μ) else some ([], μ)) xs.1 μ) fun ds μ => alloc m ds μ
  | .lc2 m own tg it cs tg1 it1 cs1 elt, ρ, μ => bnd (evI Γ it ρ μ) fun xs μ => bnd (lcLoop xs.2 (fun x μ => (bind Γ tg x (wipeD ρ own) μ).bind fun p =>
      bnd (evT Γ cs p.1 p.2) fun k μ => if k then bnd (evI Γ it1 p.1 μ) fun ys μ => lcLoop ys.2 (fun y μ => (bind Γ tg1 y (wipeD p.1 tg1.sl) μ).bind fun q =>
        bnd (evT Γ cs1 q.1 q.2) fun k μ => if k then bnd (ev Γ elt q.1 μ) fun z μ => some ([z], μ) else some ([], μ)) ys.1 μ else some ([], μ)) xs.1 μ) fun ds μ => alloc m ds μ
  | .dc own tg it cs ke ve, ρ, μ => bnd (evI Γ it ρ μ) fun xs μ => bnd (dcLoop xs.2 (fun x μ => (bind Γ tg x (wipeD ρ own) μ).bind fun p =>
      bnd (evT Γ cs p.1 p.2) fun k μ => if k then bnd (ev Γ ke p.1 μ) fun y μ => bnd (ev Γ ve p.1 μ) fun z μ => (key y).map fun k => (some (k, z), μ) else some (none, μ)) xs.1 [] μ) fun kvs μ =>
        some (.cell μ.length, μ ++ [.dct kvs])
  | _, _, _ => none
def evs (Γ : Pr) : E → Rho → Sto → Option (List D × Sto)
  | .nil, _, μ => some ([], μ)
  | .cons a as, ρ, μ => bnd (ev Γ a ρ μ) fun x μ => bnd (evs Γ as ρ μ) fun xs μ => some (x :: xs, μ)
  | _, _, _ => none
def evP (Γ : Pr) : E → Rho → Sto → Option (Option Int × Sto)
  | .noP, _, μ => some (none, μ)
  | .cons a .nil, ρ, μ => bnd (ev Γ a ρ μ) fun x μ => match x with | .int i => some (some i, μ) | _ => none
  | _, _, _ => none
def evT (Γ : Pr) : E → Rho → Sto → Option (Bool × Sto)
  | .and a b, ρ, μ => bnd (evT Γ a ρ μ) fun k μ => if k then evT Γ b ρ μ else some (false, μ)
  | .or a b, ρ, μ => bnd (evT Γ a ρ μ) fun k μ => if k then some (true, μ) else evT Γ b ρ μ
  | .not a, ρ, μ => bnd (evT Γ a ρ μ) fun k μ => some (!k, μ)
  | .cmp o a b, ρ, μ => bnd (ev Γ a ρ μ) fun x μ => bnd (ev Γ b ρ μ) fun y μ => cmpD Γ o x y μ
  | .chn o o' a b c, ρ, μ => bnd (ev Γ a ρ μ) fun x μ => bnd (ev Γ b ρ μ) fun y μ => bnd (cmpD Γ o x y μ) fun k μ =>
      if k then bnd (ev Γ c ρ μ) fun z μ => cmpD Γ o' y z μ else some (false, μ)
  | .nil, _, μ => some (true, μ)
  | .cons a as, ρ, μ => bnd (ev Γ a ρ μ) fun x μ => (truth x μ).map fun k => (k, μ)
  | _, _, _ => none
def evI (Γ : Pr) : E → Rho → Sto → Option ((List D × Wt) × Sto)
  | .cons a .nil, ρ, μ => bnd (ev Γ a ρ μ) fun x μ => match x with
    | .tup ds => some ((ds, none), μ)
    | .lst ds => some ((ds, none), μ)
    | .scr is => some ((is.map D.int, none), μ)
    | .cell n => match μ[n]? with | some (.lst ds) => some ((ds, some (n, ds)), μ) | _ => none
    | _ => none
  | .rng lo hi, ρ, μ => bnd (ev Γ lo ρ μ) fun x μ => bnd (ev Γ hi ρ μ) fun y μ => match x, y with
    | .int i, .int j => if -(2 ^ 62) ≤ i ∧ i < 2 ^ 62 ∧ -(2 ^ 62) ≤ j ∧ j < 2 ^ 62 then some (((List.range (j - i).toNat).map fun (k : Nat) => D.int (i + (k : Int)), none), μ) else none
    | _, _ => none
  | .zip2 a b, ρ, μ => bnd (ev Γ a ρ μ) fun x μ => bnd (ev Γ b ρ μ) fun y μ => match x, y with
    | .lst ds, .lst es => some (((ds.zip es).map fun p => D.tup [p.1, p.2], none), μ)
    | _, _ => none
  | .zip3 a b c, ρ, μ => bnd (ev Γ a ρ μ) fun x μ => bnd (ev Γ b ρ μ) fun y μ => bnd (ev Γ c ρ μ) fun z μ => match x, y, z with
    | .lst ds, .lst es, .lst fs => some (((ds.zip (es.zip fs)).map fun p => D.tup [p.1, p.2.1, p.2.2], none), μ)
    | _, _, _ => none
  | .enm a, ρ, μ => bnd (ev Γ a ρ μ) fun x μ => match x with
    | .lst ds => some ((((List.range ds.length).zip ds).map fun p => D.tup [.int (p.1 : Int), p.2], none), μ)
    | _ => none
  | _, _, _ => none
end
end DP

/-! The language: statements, defs, runs. -/
namespace DP
open PySem PySem.Spec L2

inductive S where
  | set (t : Tg) (e : E) | fld (o : E) (f : Str) (e : E) | setIx (o i e : E)
  | augN (i : Nat) (o : Op2) (e : E) | augIx (o i : E) (op : Op2) (e : E)
  | ex (e : E) | ret (e : E) | retN | ife (c : E) (a b : S)
  | for_ (sc : Bool) (t : Tg) (it : E) (b : S) | whl (c : E) (b : S)
  | nil | seq (a b : S) | pass | brk | cont | never
/-- what x op= y leaves -/
def augOp : Op2 → D → D → Option D
  | .add, .int i, .int j => some (.int (i + j))
  | .sub, .int i, .int j => some (.int (i - j))
  | .mod, .int i, .int j => if j ≠ 0 then some (.int (i.fmod j)) else none
  | _, _, _ => none
inductive Flw where | next | brk | cont | ret (d : D)
abbrev Fr := Option (Flw × Rho × Sto)

def cut (n : Nat) (ρ : Rho) (μ : Sto) : Option (Rho × Sto) :=
  if (μ.take n).all (cutOk n) then some (ρ.map fun o => match o with | some d => if D.under n d then some d else none | none => none, μ.take n) else none
def forL (sc : Bool) (n : Nat) (w : Wt) (f : D → Rho → Sto → Fr) : List D → Rho → Sto → Fr
  | [], ρ, μ => some (.next, ρ, μ)
  | x :: xs, ρ, μ => match f x ρ μ with
    | some (.next, ρ, μ) => if watch w μ then (if sc then (cut n ρ μ).bind fun p => forL sc n w f xs p.1 p.2 else forL sc n w f xs ρ μ) else none
    | some (.cont, ρ, μ) => if watch w μ then (if sc then (cut n ρ μ).bind fun p => forL sc n w f xs p.1 p.2 else forL sc n w f xs ρ μ) else none
    | some (.brk, ρ, μ) => some (.next, ρ, μ)
    | some (.ret d, ρ, μ) => some (.ret d, ρ, μ)
    | none => none
def whileL (c : Rho → Sto → Option (Bool × Sto)) (b : Rho → Sto → Fr) : Nat → Rho → Sto → Fr
  | 0, _, _ => none
  | n + 1, ρ, μ => match c ρ μ with
    | some (true, μ) => match b ρ μ with
      | some (.next, ρ, μ) => whileL c b n ρ μ
      | some (.cont, ρ, μ) => whileL c b n ρ μ
      | some (.brk, ρ, μ) => some (.next, ρ, μ)
      | some (.ret d, ρ, μ) => some (.ret d, ρ, μ)
      | none => none
    | some (false, μ) => some (.next, ρ, μ)
    | none => none
def setIxD (o i v : D) (μ : Sto) : Option Sto := match o with
  | .cell n => match μ[n]? with
    | some (.lst ds) => match i with | .int k => (ixN ds.length k).map fun j => μ.set n (.lst (ds.set j v)) | _ => none
    | some (.dct kvs) => (key i).bind fun k => if kvs.length < sizeLine then some (μ.set n (.dct (putKD kvs k v))) else none
    | _ => none
  | _ => none
def evS (Γ : Pr) : S → Rho → Sto → Fr
  | .set t e, ρ, μ => bnd (ev Γ e ρ μ) fun x μ => (bind Γ t x ρ μ).map fun p => (.next, p.1, p.2)
  | .fld o f e, ρ, μ => bnd (ev Γ e ρ μ) fun y μ => bnd (ev Γ o ρ μ) fun x μ => match x with
    | .cell n => match μ[n]? with
      | some (.ins C fs) => if f ∈ Γ.att C ∧ fs.length < 40 then some (.next, ρ, μ.set n (.ins C (storeLeaf.putF' f y fs))) else none
      | _ => none
    | _ => none
  | .setIx o i e, ρ, μ => bnd (ev Γ e ρ μ) fun v μ => bnd (ev Γ o ρ μ) fun x μ => bnd (ev Γ i ρ μ) fun y μ => (setIxD x y v μ).map fun μ => (.next, ρ, μ)
  | .augN i o e, ρ, μ => match ρ[i]? with
    | some (some x) => bnd (ev Γ e ρ μ) fun y μ => (augOp o x y).map fun z => (.next, ρ.set i (some z), μ)
    | _ => none
  | .augIx o i op e, ρ, μ => bnd (ev Γ o ρ μ) fun x μ => bnd (ev Γ i ρ μ) fun y μ => (ixD x y μ).bind fun old => bnd (ev Γ e ρ μ) fun v μ => (augOp op old v).bind fun z => (setIxD x y z μ).map fun μ => (.next, ρ, μ)
  | .ex e, ρ, μ => bnd (ev Γ e ρ μ) fun _ μ => some (.next, ρ, μ)
  | .ret e, ρ, μ => bnd (ev Γ e ρ μ) fun x μ => some (.ret x, ρ, μ)
  | .retN, ρ, μ => some (.ret .non, ρ, μ)
  | .ife c a b, ρ, μ => bnd (evT Γ c ρ μ) fun k μ => if k then evS Γ a ρ μ else evS Γ b ρ μ
  | .for_ sc t it b, ρ, μ => bnd (evI Γ it ρ μ) fun xs μ => forL sc μ.length xs.2 (fun x ρ μ => (bind Γ t x ρ μ).bind fun p => evS Γ b p.1 p.2) xs.1 ρ μ
  | .whl c b, ρ, μ => whileL (evT Γ c) (evS Γ b) Γ.wf ρ μ
  | .nil, ρ, μ => some (.next, ρ, μ)
  | .seq a b, ρ, μ => match evS Γ a ρ μ with
    | some (.next, ρ, μ) => evS Γ b ρ μ
    | r => r
  | .pass, ρ, μ => some (.next, ρ, μ)
  | .brk, ρ, μ => some (.brk, ρ, μ)
  | .cont, ρ, μ => some (.cont, ρ, μ)
  | .never, _, _ => none
structure Def where
  np : Nat
  n : Nat
  own : Bool
  body : S
def finD (sc : Bool) (n : Nat) (r : D) (μ : Sto) : Option (D × Sto) :=
  if sc then (if D.under n r && (μ.take n).all (cutOk n) then some (r, μ.take n) else none) else some (r, μ)
def runDef (Γ : Pr) (d : Def) (as : List D) (μ : Sto) : Option (D × Sto) :=
  if as.length = d.np then
    match evS Γ d.body (as.map some ++ List.replicate (d.n - d.np) none) μ with
    | some (.ret r, _, μ') => finD d.own μ.length r μ'
    | some (.next, _, μ') => finD d.own μ.length .non μ'
    | _ => none
  else none
/-- a whole program: defs by name, methods by their name and their class's, constants, attributes' names -/
structure Prog where
  defs : Str → Option Def
  mets : Str → List (Str × Def)
  gv : Str → Option D
  att : Str → List Str
def Prog.go (G : Prog) (wf : Nat) : Nat → (Str → List D → Sto → Option (D × Sto)) × (Str → Str → List D → Sto → Option (D × Sto))
  | 0 => (fun _ _ _ => none, fun _ _ _ _ => none)
  | k + 1 => (fun f as μ => match G.defs f with | some d => runDef ⟨wf, G.gv, G.att, (G.go wf k).1, (G.go wf k).2⟩ d as μ | none => none,
      fun C m as μ => match (G.mets m).lookup C with | some d => runDef ⟨wf, G.gv, G.att, (G.go wf k).1, (G.go wf k).2⟩ d as μ | none => none)
def Prog.pr (G : Prog) (wf k : Nat) : Pr := ⟨wf, G.gv, G.att, (G.go wf k).1, (G.go wf k).2⟩
end DP

/-! From the meaning to the layer: judgements and the rules of expressions. -/
namespace DP
open PySem PySem.Spec L2

theorem _root_.L2.PE.mono {X : Cx} {e : Expr} {t t' : TE} (h : PE X e t) (w : ∀ σ H Q, t' σ H Q → t σ H Q) : PE X e t' := ⟨fun pins s σ H Q I q => h.run pins s σ H Q I (w σ H Q q)⟩
theorem _root_.L2.PT.mono {X : Cx} {e : Expr} {t t' : TT} (h : PT X e t) (w : ∀ σ H Q, t' σ H Q → t σ H Q) : PT X e t' := ⟨fun pins s σ H Q I q => h.run pins s σ H Q I (w σ H Q q)⟩
theorem _root_.L2.PW.mono {X : Cx} {e : Expr} {t t' : TT} (h : PW X e t) (w : ∀ σ H Q, t' σ H Q → t σ H Q) : PW X e t' := ⟨fun wh pins s σ H Q I q => h.run wh pins s σ H Q I (w σ H Q q)⟩
theorem _root_.L2.PA.mono {X : Cx} {es : List Expr} {t t' : TA} (h : PA X es t) (w : ∀ σ H Q, t' σ H Q → t σ H Q) : PA X es t' := ⟨fun pos pins s σ H Q I q => h.run pos pins s σ H Q I (w σ H Q q)⟩
theorem _root_.L2.PK.mono {X : Cx} {es : List Keyword} {t t' : TA} (h : PK X es t) (w : ∀ σ H Q, t' σ H Q → t σ H Q) : PK X es t' := ⟨fun pos pins s σ H Q I q => h.run pos pins s σ H Q I (w σ H Q q)⟩
theorem _root_.L2.PS.mono {X : Cx} {st : Stmt} {t t' : TS} (h : PS X st t) (w : ∀ D σ H, t' D σ H → t D σ H) : PS X st t' := ⟨fun pins s σ H D I q => h.run pins s σ H D I (w D σ H q)⟩
theorem _root_.L2.PSs.mono {X : Cx} {st : List Stmt} {t t' : TS} (h : PSs X st t) (w : ∀ D σ H, t' D σ H → t D σ H) : PSs X st t' := ⟨fun pins s σ H D I q => h.run pins s σ H D I (w D σ H q)⟩
theorem _root_.L2.PG.mono {X : Cx} {e : Expr} {t t' : TG} (h : PG X e t) (w : ∀ v σ H Q, t' v σ H Q → t v σ H Q) : PG X e t' := ⟨fun pins s σ H v u Q I r q => h.run pins s σ H v u Q I r (w v σ H Q q)⟩
theorem _root_.L2.PGs.mono {X : Cx} {e : List Expr} {t t' : TGs} (h : PGs X e t) (w : ∀ v σ H Q, t' v σ H Q → t v σ H Q) : PGs X e t' := ⟨fun pins s σ H v u Q I r q => h.run pins s σ H v u Q I r (w v σ H Q q)⟩
theorem _root_.L2.PI.mono {X : Cx} {tg e : Expr} {t t' : TI} (h : PI X tg e t) (w : ∀ σ H R, t' σ H R → t σ H R) : PI X tg e t' := ⟨fun pins s σ H R I q => h.run pins s σ H R I (w σ H R q)⟩
theorem _root_.L2.PO.mono {X : Cx} {e : Option Expr} {t t' : TO} (h : PO X e t) (w : ∀ σ H Q, t' σ H Q → t σ H Q) : PO X e t' := ⟨fun pins s σ H Q I q => h.run pins s σ H Q I (w σ H Q q)⟩
theorem _root_.L2.PTs.mono {X : Cx} {e : List Expr} {t t' : TT} (h : PTs X e t) (w : ∀ σ H Q, t' σ H Q → t σ H Q) : PTs X e t' := ⟨fun pins s σ H Q I q => h.run pins s σ H Q I (w σ H Q q)⟩

section
variable (K : PySem.W.Frag) (ca : Str → Option Addr)
/-- what goes on with a value that stands for d, the store being μ' -/
def Kon (α : List Addr) (F : Hp) (d : D) (μ' : Sto) (Q : VK) : Prop := ∀ v α' F' H', Ext α F α' F' → Sim K ca α' F' μ' H' → Rep K ca α' F' v d → Q v H'
def tD (ρ : Rho) (μ : Sto) (d : D) (μ' : Sto) : TE := fun σ H Q => ∃ α F, Sim K ca α F μ H ∧ RE K ca α F σ ρ ∧ Kon K ca α F d μ' Q
def tDs (ρ : Rho) (μ : Sto) (ds : List D) (μ' : Sto) : TA := fun σ H Q => ∃ α F, Sim K ca α F μ H ∧ RE K ca α F σ ρ ∧ ∀ vs α' F' H', Ext α F α' F' → Sim K ca α' F' μ' H' → Reps K ca α' F' vs ds → Q vs H'
def tDT (ρ : Rho) (μ : Sto) (b : Bool) (μ' : Sto) : TT := fun σ H Q => ∃ α F, Sim K ca α F μ H ∧ RE K ca α F σ ρ ∧ ∀ α' F' H', Ext α F α' F' → Sim K ca α' F' μ' H' → Q b H'
def tDP (ρ : Rho) (μ : Sto) (o : Option Int) (μ' : Sto) : TO := fun σ H Q => ∃ α F, Sim K ca α F μ H ∧ RE K ca α F σ ρ ∧ ∀ α' F' H', Ext α F α' F' → Sim K ca α' F' μ' H' → Q o H'
end
/-- what a context must be -/
structure Good (ca : Str → Option Addr) (k : Nat) (X : Cx) : Prop where
  calm : X.calm = true
  room : Room k X.A
  nd : X.N.Nodup
theorem Good.blk {ca k X} (G : Good ca k X) {s H scope cenv fp} : Good ca k (X.blk s H scope cenv fp) := ⟨G.calm, G.room, G.nd⟩

def PEd (ca : Str → Option Addr) (Γ : Pr) (X : Cx) (e : Expr) (E : E) : Prop := ∀ ρ μ d μ', ev Γ E ρ μ = some (d, μ') → PE X e (tD X.K ca ρ μ d μ')
def PAd (ca : Str → Option Addr) (Γ : Pr) (X : Cx) (es : List Expr) (E : E) : Prop := ∀ ρ μ ds μ', evs Γ E ρ μ = some (ds, μ') → PA X es (tDs X.K ca ρ μ ds μ')
def PKd (ca : Str → Option Addr) (Γ : Pr) (X : Cx) (es : List Keyword) (E : E) : Prop := ∀ ρ μ ds μ', evs Γ E ρ μ = some (ds, μ') → PK X es (tDs X.K ca ρ μ ds μ')
def PTd (ca : Str → Option Addr) (Γ : Pr) (X : Cx) (e : Expr) (E : E) : Prop := ∀ ρ μ b μ', evT Γ E ρ μ = some (b, μ') → PT X e (tDT X.K ca ρ μ b μ')
def PWd (ca : Str → Option Addr) (Γ : Pr) (X : Cx) (e : Expr) (E : E) : Prop := ∀ ρ μ b μ', evT Γ E ρ μ = some (b, μ') → PW X e (tDT X.K ca ρ μ b μ')
def PTsd (ca : Str → Option Addr) (Γ : Pr) (X : Cx) (es : List Expr) (E : E) : Prop := ∀ ρ μ b μ', evT Γ E ρ μ = some (b, μ') → PTs X es (tDT X.K ca ρ μ b μ')
def POd (ca : Str → Option Addr) (Γ : Pr) (X : Cx) (e : Option Expr) (E : E) : Prop := ∀ ρ μ o μ', evP Γ E ρ μ = some (o, μ') → PO X e (tDP X.K ca ρ μ o μ')

section
variable {K : PySem.W.Frag} {ca : Str → Option Addr} {α α' : List Addr} {F F' H : Hp} {μ μ' : Sto} {d : D} {Q : VK}
theorem Kon.ext {α' F'} (k : Kon K ca α F d μ' Q) (x : Ext α F α' F') : Kon K ca α' F' d μ' Q := fun v α2 F2 H2 x2 s2 r2 => k v α2 F2 H2 (x.trans x2) s2 r2
theorem Kon.now (k : Kon K ca α F d μ Q) (s : Sim K ca α F μ H) {v : V} (r : Rep K ca α F v d) : Q v H := k v α F H (Ext.refl _ _) s r
/-- an operator by values, and what it tells of data -/
def OpS (K : PySem.W.Frag) (ca : Str → Option Addr) (r : R2) (f : D → D → Sto → Option (D × Sto)) : Prop :=
  ∀ x y μ z μ', f x y μ = some (z, μ') → ∀ α F H v w Q, Sim K ca α F μ H → Rep K ca α F v x → Rep K ca α F w y → Kon K ca α F z μ' Q → r v w H Q
theorem op_comb {r : R2} {ρ : Rho} {μ μ1 μ2 μ3 : Sto} {x y z : D}
    (h : ∀ α F H v w Q, Sim K ca α F μ2 H → Rep K ca α F v x → Rep K ca α F w y → Kon K ca α F z μ3 Q → r v w H Q) :
    ∀ σ H Q, tD K ca ρ μ z μ3 σ H Q → tOp r (tD K ca ρ μ x μ1) (tD K ca ρ μ1 y μ2) σ H Q := fun σ H Q ⟨α, F, s, re, k⟩ =>
  ⟨α, F, s, re, fun v α1 F1 H1 x1 s1 r1 => ⟨α1, F1, s1, re.mono x1, fun w α2 F2 H2 x2 s2 r2 => h α2 F2 H2 v w Q s2 (r1.mono x2) r2 (k.ext (x1.trans x2))⟩⟩
/-- a step on a value -/
theorem un_comb {r : V → Hp → VK → Prop} {ρ : Rho} {μ μ1 μ3 : Sto} {x z : D}
    (h : ∀ α F H v Q, Sim K ca α F μ1 H → Rep K ca α F v x → Kon K ca α F z μ3 Q → r v H Q) :
    ∀ σ H Q, tD K ca ρ μ z μ3 σ H Q → tD K ca ρ μ x μ1 σ H (fun v H1 => r v H1 Q) := fun σ H Q ⟨α, F, s, re, k⟩ =>
  ⟨α, F, s, re, fun v α1 F1 H1 x1 s1 r1 => h α1 F1 H1 v Q s1 r1 (k.ext x1)⟩
/-- a new tuple -/
theorem new_tup {vs : List V} {ds : List D} (s : Sim K ca α F μ H) (r : Reps K ca α F vs ds) (k : Kon K ca α F (.tup ds) μ Q) {p : Addr} (hp : H p = none) : Q (.ref p) (upd H p (.tup vs)) := by
  obtain ⟨s', x⟩ := s.laid (o := .tup vs) hp
  refine k _ _ _ _ x s' (.tup (SqT.of upd_same) r.1 fun i v d h1 h2 => (r.2 i v d h1 h2).mono x)
/-- a new list, a frozen one or a cell -/
theorem new_lst {m : Bool} {vs : List V} {ds : List D} (s : Sim K ca α F μ H) (r : Reps K ca α F vs ds) (h : alloc m ds μ = some (d, μ')) (k : Kon K ca α F d μ' Q) {p : Addr} (hp : H p = none) : Q (.ref p) (upd H p (.lst vs)) := by
  unfold alloc at h
  split at h
  · cases m with
    | true =>
      simp only [if_true, Option.some.injEq, Prod.mk.injEq] at h
      obtain ⟨rfl, rfl⟩ := h
      have x0 : Ext α F (α ++ [p]) F := ⟨⟨[p], rfl⟩, fun _ _ q => q⟩
      obtain ⟨s', x, e⟩ := s.cellNew (o := .lst vs) (c := .lst ds) hp ⟨vs, upd_same, r.mono x0⟩
      exact k _ _ _ _ x s' (.cell e)
    | false =>
      simp only [if_false, Option.some.injEq, Prod.mk.injEq, Bool.false_eq_true] at h
      obtain ⟨rfl, rfl⟩ := h
      obtain ⟨s', x⟩ := s.laid (o := .lst vs) hp
      exact k _ _ _ _ x s' (.lst upd_same r.1 fun i v d h1 h2 => (r.2 i v d h1 h2).mono x)
  · cases h
theorem alloc_len {m : Bool} {ds : List D} (h : alloc m ds μ = some (d, μ')) : ds.length ≤ sizeLine := by
  unfold alloc at h
  split at h
  · assumption
  · cases h
theorem reps_ints {K : PySem.W.Frag} {ca α F} : ∀ is : List Int, Reps K ca α F (is.map V.int) (is.map D.int)
  | [] => .nil
  | i :: is => .cons (.int i) (reps_ints is)
/-- what may be read as a list -/
theorem listed_read {ds : List D} {v : V} (s : Sim K ca α F μ H) (r : Rep K ca α F v d) (h : listed d μ = some ds) : ∃ a vs, v = .ref a ∧ SqL K H a vs ∧ Reps K ca α F vs ds := by
  cases r with
  | lst h1 h2 h3 => simp [listed] at h; subst h; exact ⟨_, _, rfl, SqL.of (s.sub _ _ h1), h2, h3⟩
  | scr h1 => simp [listed] at h; subst h; exact ⟨_, _, rfl, seqL_un s.sub h1, reps_ints _⟩
  | @cell a n h1 =>
    simp only [listed] at h
    split at h
    · rename_i ds' e
      cases h
      obtain ⟨vs, q1, q2⟩ := s.cel _ _ _ e h1
      exact ⟨_, vs, rfl, SqL.of q1, q2⟩
    · cases h
  | _ => simp [listed] at h
theorem lst_read {ds : List D} {v : V} (s : Sim K ca α F μ H) (r : Rep K ca α F v d) (h : lstOf d μ = some ds) : ∃ a vs, v = .ref a ∧ H a = some (.lst vs) ∧ Reps K ca α F vs ds := by
  cases r with
  | lst h1 h2 h3 => simp [lstOf] at h; subst h; exact ⟨_, _, rfl, s.sub _ _ h1, h2, h3⟩
  | @cell a n h1 =>
    simp only [lstOf] at h
    split at h
    · rename_i ds' e
      cases h
      obtain ⟨vs, q1, q2⟩ := s.cel _ _ _ e h1
      exact ⟨_, vs, rfl, q1, q2⟩
    · cases h
  | _ => simp [lstOf] at h
theorem items_read {ds : List D} {v : V} (s : Sim K ca α F μ H) (r : Rep K ca α F v d) (h : items d μ = some ds) : ∃ a vs, v = .ref a ∧ (SqL K H a vs ∨ SqT K H a vs) ∧ Reps K ca α F vs ds := by
  cases r with
  | lst h1 h2 h3 => simp [items] at h; subst h; exact ⟨_, _, rfl, .inl (SqL.of (s.sub _ _ h1)), h2, h3⟩
  | scr h1 => simp [items] at h; subst h; exact ⟨_, _, rfl, .inl (seqL_un s.sub h1), reps_ints _⟩
  | tup h1 h2 h3 => simp [items] at h; subst h; exact ⟨_, _, rfl, .inr (seqT_un s.sub h1), h2, h3⟩
  | @cell a n h1 =>
    simp only [items] at h
    split at h
    · rename_i ds' e
      cases h
      obtain ⟨vs, q1, q2⟩ := s.cel _ _ _ e h1
      exact ⟨_, vs, rfl, .inl (SqL.of q1), q2⟩
    · cases h
  | _ => simp [items] at h
end

section
variable {ca : Str → Option Addr} {Γ : Pr} {X : Cx} {a b c : Expr} {A B C : E} {pos p : Pos}
/-! ### names and constants -/
theorem pd_v (i : Nat) {x : Str} {pos : Pos} (hN : X.N[i]? = some x := by rfl) (hv : Vis X.env.scope x := by first | exact Or.inl rfl | exact Or.inr (Or.inl rfl) | exact Or.inr (Or.inr rfl)) (hd : (x == ("__debug__" : Str)) = false := by decide)
    (hcd : (x == ("__classdict__" : Str)) = false := by decide) : PEd ca Γ X (.Name x pos) (.v i) := by
  intro ρ μ d μ' h
  refine (pe_var (i := i) hN hv hd hcd).mono fun σ H Q ⟨α, F, s, re, k⟩ => ?_
  simp only [ev] at h
  split at h
  · rename_i d' e
    simp only [Option.some.injEq, Prod.mk.injEq] at h
    obtain ⟨rfl, rfl⟩ := h
    obtain ⟨v, h1, h2⟩ := re.2 i _ e
    exact ⟨v, h1, k.now s h2⟩
  · cases h
theorem pd_c {d : D} {v : V} (h : PE X a (tC v)) (r : ∀ α F, Rep X.K ca α F v d) : PEd ca Γ X a (.c d) := by
  intro ρ μ d' μ' e
  simp only [ev, Option.some.injEq, Prod.mk.injEq] at e
  obtain ⟨rfl, rfl⟩ := e
  exact h.mono fun σ H Q ⟨α, F, s, re, k⟩ => k.now s (r α F)
theorem pd_int {i : Int} {j pos} : PEd ca Γ X (.Constant (.int i) j pos) (.c (.int i)) := pd_c pe_int fun _ _ => .int i
theorem pd_str {x : Str} {j pos} : PEd ca Γ X (.Constant (.str x) j pos) (.c (.str x)) := pd_c pe_str fun _ _ => .str x
theorem pd_bl {x : Bool} {j pos} : PEd ca Γ X (.Constant (.bool x) j pos) (.c (.bl x)) := pd_c pe_bl fun _ _ => .bl x
theorem pd_non {j pos} : PEd ca Γ X (.Constant .none j pos) (.c .non) := pd_c pe_non fun _ _ => .non
theorem pd_g {x : Str} {pos : Pos} {d : D} {v : V} {u : Value} (hg : Gl X x) (hm : X.mg x = some u) (hr : RelV v u) (hd : Γ.gv x = some d) (r : ∀ α F, Rep X.K ca α F v d) (hdb : (x == ("__debug__" : Str)) = false := by decide) : PEd ca Γ X (.Name x pos) (.g x) := by
  intro ρ μ d' μ' e
  simp only [ev, hd, Option.map_some, Option.some.injEq, Prod.mk.injEq] at e
  obtain ⟨rfl, rfl⟩ := e
  exact (pe_glob hg hm hr hdb).mono fun σ H Q ⟨α, F, s, re, k⟩ => k.now s (r α F)
/-! ### operators -/
theorem bin_of {op : Operator} {o : Op2} {r : R2} (ho : OpR X (binaryOp op) r) (hs : OpS X.K ca r (fun x y μ => (op2 o x y).map fun z => (z, μ))) (ha : PEd ca Γ X a A) (hb : PEd ca Γ X b B) : PEd ca Γ X (.BinOp a op b pos) (.bin o A B) := by
  intro ρ μ d μ' h
  obtain ⟨x, μ1, e1, h⟩ := bnd_eq h
  obtain ⟨y, μ2, e2, h⟩ := bnd_eq h
  exact (pe_op ho (ha _ _ _ _ e1) (hb _ _ _ _ e2)).mono (op_comb fun α F H v w Q s r1 r2 k => hs x y μ2 d μ' h α F H v w Q s r1 r2 k)
theorem op2_some {o : Op2} {x y z : D} {μ μ' : Sto} (h : (op2 o x y).map (fun z => (z, μ)) = some (z, μ')) : op2 o x y = some z ∧ μ' = μ := by
  cases e : op2 o x y with
  | none => rw [e] at h; cases h
  | some u => rw [e] at h; cases h; exact ⟨rfl, rfl⟩
theorem opS_add : OpS X.K ca (fun x y H Q => (rI0 (fun i j => .int (i + j)) x y H Q ∨ (∃ i j, x = .str i ∧ y = .str j ∧ i.length + j.length ≤ sizeLine ∧ Q (.str (i ++ j)) H)) ∨ rCatA X.K x y H Q) (fun x y μ => (op2 .add x y).map fun z => (z, μ)) := by
  intro x y μ z μ' h α F H v w Q s r1 r2 k
  obtain ⟨h', rfl⟩ := op2_some h
  clear h
  have h := h'
  clear h'
  cases r1 with
  | int i => cases r2 with
    | int j => simp only [op2, Option.some.injEq] at h; subst h; exact .inl (.inl ⟨i, j, rfl, rfl, k.now s (.int _)⟩)
    | _ => simp [op2] at h
  | str i => cases r2 with
    | str j =>
      simp only [op2] at h
      split at h
      · rename_i hl; cases h; exact .inl (.inr ⟨i, j, rfl, rfl, hl, k.now s (.str _)⟩)
      · cases h
    | _ => simp [op2] at h
  | @tup a vs ds q1 q2 q3 => cases r2 with
    | @tup b ws es p1 p2 p3 =>
      simp only [op2] at h
      split at h
      · rename_i hl; cases h
        refine .inr ⟨a, b, vs, ws, rfl, rfl, seqT_un s.sub q1, seqT_un s.sub p1, by rw [q2, p2]; exact hl, fun z => ?_, fun _ z => ?_, fun _ _ p hp => new_tup s (Reps.append ⟨q2, q3⟩ ⟨p2, p3⟩) k hp⟩
        · subst z
          have e : ds = [] := List.length_eq_zero_iff.mp q2.symm
          subst e
          exact k.now s (.tup p1 p2 p3)
        · subst z
          have e : es = [] := List.length_eq_zero_iff.mp p2.symm
          subst e
          rw [List.append_nil] at k
          exact k.now s (.tup q1 q2 q3)
      · cases h
    | _ => simp [op2] at h
  | _ => simp [op2] at h
theorem pd_bin_add (ha : PEd ca Γ X a A) (hb : PEd ca Γ X b B) : PEd ca Γ X (.BinOp a .Add b pos) (.bin .add A B) := bin_of ((op_add.or op_add_str).or op_catA) opS_add ha hb
theorem opS_I {C : Int → Int → Prop} {g : Int → Int → Int} {o : Op2} (h : ∀ x y z, op2 o x y = some z → ∃ i j, x = .int i ∧ y = .int j ∧ C i j ∧ z = .int (g i j)) : OpS X.K ca (rI C fun i j => .int (g i j)) (fun x y μ => (op2 o x y).map fun z => (z, μ)) := by
  intro x y μ z μ' e α F H v w Q s r1 r2 k
  obtain ⟨e', rfl⟩ := op2_some e
  obtain ⟨i, j, rfl, rfl, c, rfl⟩ := h x y z e'
  cases r1; cases r2
  exact ⟨i, j, rfl, rfl, c, k.now s (.int _)⟩
theorem op_subC : OpR X (binaryOp .Sub) (rI (fun _ _ => True) fun i j => .int (i - j)) := fun pins s σ H x y v u Q I rx ry h => by
  obtain ⟨i, j, e1, e2, _, q⟩ := h
  exact op_sub pins s σ H x y v u Q I rx ry ⟨i, j, e1, e2, q⟩
theorem pd_bin_sub (ha : PEd ca Γ X a A) (hb : PEd ca Γ X b B) : PEd ca Γ X (.BinOp a .Sub b pos) (.bin .sub A B) := bin_of op_subC (opS_I fun x y z e => by
  cases x <;> cases y <;> simp [op2] at e
  exact ⟨_, _, rfl, rfl, trivial, e.symm⟩) ha hb
theorem op_mulD : OpR X (binaryOp .Mult) (rI (fun i j => mulOk i j = true) fun i j => .int (i * j)) := fun pins s σ H x y v u Q I rx ry h => by
  obtain ⟨i, j, e1, e2, c, q⟩ := h
  simp only [mulOk, Bool.or_eq_true, decide_eq_true_eq] at c
  rcases c with (c | c) | c
  · exact op_mul pins s σ H x y v u Q I rx ry ⟨i, j, e1, e2, .inl c, q⟩
  · exact op_mul pins s σ H x y v u Q I rx ry ⟨i, j, e1, e2, .inr c, q⟩
  · exact op_mulW pins s σ H x y v u Q I rx ry ⟨i, j, e1, e2, c, q⟩
theorem pd_bin_mul (ha : PEd ca Γ X a A) (hb : PEd ca Γ X b B) : PEd ca Γ X (.BinOp a .Mult b pos) (.bin .mul A B) := bin_of op_mulD (opS_I fun x y z e => by
  cases x <;> cases y <;> simp [op2] at e
  exact ⟨_, _, rfl, rfl, e.1, e.2.symm⟩) ha hb
theorem op_fdivD : OpR X (binaryOp .FloorDiv) (rI (fun i j => divOk j = true) fun i j => .int (i.fdiv j)) := fun pins s σ H x y v u Q I rx ry h => by
  obtain ⟨i, j, e1, e2, c, q⟩ := h
  simp only [divOk, Bool.or_eq_true, decide_eq_true_eq] at c
  rcases c with c | c
  · exact op_fdivN pins s σ H x y v u Q I rx ry ⟨i, j, e1, e2, c, q⟩
  · refine op_fdivW pins s σ H x y v u Q I rx ry ⟨i, j, e1, e2, c, ?_⟩
    show Q (V.int (i / j)) H
    rw [← Int.fdiv_eq_ediv_of_nonneg i (Int.le_of_lt c.1)]
    exact q
theorem pd_bin_fdiv (ha : PEd ca Γ X a A) (hb : PEd ca Γ X b B) : PEd ca Γ X (.BinOp a .FloorDiv b pos) (.bin .fdiv A B) := bin_of op_fdivD (opS_I fun x y z e => by
  cases x <;> cases y <;> simp [op2] at e
  exact ⟨_, _, rfl, rfl, e.1, e.2.symm⟩) ha hb
theorem pd_bin_mod (ha : PEd ca Γ X a A) (hb : PEd ca Γ X b B) : PEd ca Γ X (.BinOp a .Mod b pos) (.bin .mod A B) := bin_of op_modN (opS_I fun x y z e => by
  cases x <;> cases y <;> simp [op2] at e
  exact ⟨_, _, rfl, rfl, e.1, e.2.symm⟩) ha hb
theorem pd_bin_pow (ha : PEd ca Γ X a A) (hb : PEd ca Γ X b B) : PEd ca Γ X (.BinOp a .Pow b pos) (.bin .pow A B) := bin_of op_pow (opS_I fun x y z e => by
  cases x <;> cases y <;> simp [op2] at e
  exact ⟨_, _, rfl, rfl, e.1, e.2.symm⟩) ha hb
theorem pd_neg (ha : PEd ca Γ X a A) : PEd ca Γ X (.UnaryOp .USub a pos) (.neg A) := by
  intro ρ μ d μ' h
  obtain ⟨x, μ1, e1, h⟩ := bnd_eq h
  refine (pe_un un_neg (ha _ _ _ _ e1)).mono (un_comb (r := rU fun i => .int (-i)) fun α F H v Q s r k => ?_)
  split at h
  · cases h; cases r; exact ⟨_, rfl, k.now s (.int _)⟩
  · cases h
/-! ### lists of expressions -/
theorem pl_nil : PAd ca Γ X [] .nil := by
  intro ρ μ ds μ' h
  simp only [evs, Option.some.injEq, Prod.mk.injEq] at h
  obtain ⟨rfl, rfl⟩ := h
  exact pa_nil.mono fun σ H Q ⟨α, F, s, re, k⟩ => k [] α F H (Ext.refl _ _) s .nil
theorem pl_cons {e : Expr} {es : List Expr} (ha : PEd ca Γ X e A) (hb : PAd ca Γ X es B) (hs : starEach (e :: es) X.env = (false, eval e X.env) :: starEach es X.env := by rfl) : PAd ca Γ X (e :: es) (.cons A B) := by
  intro ρ μ ds μ' h
  obtain ⟨x, μ1, e1, h⟩ := bnd_eq h
  obtain ⟨xs, μ2, e2, h⟩ := bnd_eq h
  simp only [Option.some.injEq, Prod.mk.injEq] at h
  obtain ⟨rfl, rfl⟩ := h
  exact (pa_cons (ha _ _ _ _ e1) (hb _ _ _ _ e2) hs).mono fun σ H Q ⟨α, F, s, re, k⟩ =>
    ⟨α, F, s, re, fun v α1 F1 H1 x1 s1 r1 => ⟨α1, F1, s1, re.mono x1, fun vs α2 F2 H2 x2 s2 r2 => k (v :: vs) α2 F2 H2 (x1.trans x2) s2 (.cons (r1.mono x2) r2)⟩⟩
theorem pd_tup {es : List Expr} {x1} (ha : PAd ca Γ X es A) : PEd ca Γ X (.Tuple es x1 pos) (.tup A) := by
  intro ρ μ d μ' h
  obtain ⟨ds, μ1, e1, h⟩ := bnd_eq h
  split at h
  · rename_i hl
    cases h
    exact (pe_tup (ha _ _ _ _ e1)).mono fun σ H Q ⟨α, F, s, re, k⟩ => ⟨α, F, s, re, fun vs α1 F1 H1 x1 s1 r1 => ⟨by rw [r1.1]; exact hl, fun p hp => new_tup s1 r1 (k.ext x1) hp⟩⟩
  · cases h
theorem pd_lst {es : List Expr} {m : Bool} (ha : PAd ca Γ X es A) : PEd ca Γ X (.List es pos) (.lst m A) := by
  intro ρ μ d μ' h
  obtain ⟨ds, μ1, e1, h⟩ := bnd_eq h
  exact (pe_lst (ha _ _ _ _ e1)).mono fun σ H Q ⟨α, F, s, re, k⟩ => ⟨α, F, s, re, fun vs α1 F1 H1 x1 s1 r1 => ⟨by rw [r1.1]; exact alloc_len h, fun p hp => new_lst s1 r1 h (k.ext x1) hp⟩⟩
end
end DP

/-! Rules of expressions, continued: comparisons, tests, subscripts, fields. -/
namespace DP
open PySem PySem.Spec L2

section
variable {ca : Str → Option Addr} {Γ : Pr} {X : Cx} {a b c : Expr} {A B C : E} {pos p : Pos}
/-! ### comparisons -/
def rCmp (K : PySem.W.Frag) (ca : Str → Option Addr) (Γ : Pr) (o : Cmp) : R2 := fun v w H Q => ∃ α F μ x y b μ', Sim K ca α F μ H ∧ Rep K ca α F v x ∧ Rep K ca α F w y ∧ cmpD Γ o x y μ = some (b, μ') ∧ Kon K ca α F (.bl b) μ' Q
abbrev CmpOk (ca : Str → Option Addr) (Γ : Pr) (X : Cx) (op : CmpOp) (o : Cmp) : Prop := OpR X (compareOp op) (rCmp X.K ca Γ o)
theorem pd_cmp {op : CmpOp} {o : Cmp} (ho : CmpOk ca Γ X op o) (ha : PEd ca Γ X a A) (hb : PEd ca Γ X b B) (hm : behindInMarks op b = false := by rfl) : PEd ca Γ X (.Compare a [op] [b] pos) (.cmp o A B) := by
  intro ρ μ d μ' h
  obtain ⟨x, μ1, e1, h⟩ := bnd_eq h
  obtain ⟨y, μ2, e2, h⟩ := bnd_eq h
  cases e : cmpD Γ o x y μ2 with
  | none => rw [e] at h; cases h
  | some p =>
    rw [e] at h; cases h
    exact (pe_cmpR ho (ha _ _ _ _ e1) (hb _ _ _ _ e2) hm).mono (op_comb fun α F H v w Q s r1 r2 k => ⟨α, F, μ2, x, y, p.1, p.2, s, r1, r2, e, k⟩)
theorem pt_cmpD {op : CmpOp} {o : Cmp} (ho : CmpOk ca Γ X op o) (ha : PEd ca Γ X a A) (hb : PEd ca Γ X b B) (hm : behindInMarks op b = false := by rfl) : PTd ca Γ X (.Compare a [op] [b] pos) (.cmp o A B) := by
  intro ρ μ k μ' h
  obtain ⟨x, μ1, e1, h⟩ := bnd_eq h
  obtain ⟨y, μ2, e2, h⟩ := bnd_eq h
  refine (pt_cmpR ho (ha _ _ _ _ e1) (hb _ _ _ _ e2) hm).mono fun σ H Q ⟨α, F, s, re, kk⟩ => ?_
  refine op_comb (z := .bl k) (μ3 := μ') (fun α F H v w Q s r1 r2 k' => ⟨α, F, μ2, x, y, k, μ', s, r1, r2, h, k'⟩) σ H _ ⟨α, F, s, re, fun v α1 F1 H1 x1 s1 r1 => ?_⟩
  cases r1
  exact ⟨k, rfl, kk α1 F1 H1 x1 s1⟩
theorem cmp_int {op : CmpOp} {o : Cmp} {g : Int → Int → Bool} (ho : OpR X (compareOp op) (rI0 fun i j => .bl (g i j)))
    (h : ∀ x y μ b μ', cmpD Γ o x y μ = some (b, μ') → ∃ i j, x = .int i ∧ y = .int j ∧ b = g i j ∧ μ' = μ) : CmpOk ca Γ X op o := fun pins s σ H v w u1 u2 Q I rx ry q => by
  obtain ⟨α, F, μ, x, y, b, μ', sm, r1, r2, e, k⟩ := q
  obtain ⟨i, j, rfl, rfl, rfl, rfl⟩ := h _ _ _ _ _ e
  cases r1; cases r2
  exact ho pins s σ H _ _ u1 u2 Q I rx ry ⟨i, j, rfl, rfl, k.now sm (.bl _)⟩
theorem co_lt : CmpOk ca Γ X .Lt .lt := cmp_int op_lt fun x y μ b μ' h => by cases x <;> cases y <;> simp [cmpD] at h; exact ⟨_, _, rfl, rfl, h.1.symm, h.2.symm⟩
theorem co_le : CmpOk ca Γ X .LtE .le := cmp_int op_le fun x y μ b μ' h => by cases x <;> cases y <;> simp [cmpD] at h; exact ⟨_, _, rfl, rfl, h.1.symm, h.2.symm⟩
theorem co_gt : CmpOk ca Γ X .Gt .gt := cmp_int op_gt fun x y μ b μ' h => by cases x <;> cases y <;> simp [cmpD] at h; exact ⟨_, _, rfl, rfl, h.1.symm, h.2.symm⟩
theorem co_ge : CmpOk ca Γ X .GtE .ge := cmp_int op_ge fun x y μ b μ' h => by cases x <;> cases y <;> simp [cmpD] at h; exact ⟨_, _, rfl, rfl, h.1.symm, h.2.symm⟩
theorem rep_non {K : PySem.W.Frag} {α F v d} (r : Rep K ca α F v d) : decide (v = .non) = isNon d := by
  cases r <;> simp [isNon]
theorem co_isN : CmpOk ca Γ X .Is .isN := fun pins s σ H v w u1 u2 Q I rx ry q => by
  obtain ⟨α, F, μ, x, y, b, μ', sm, r1, r2, e, k⟩ := q
  cases r2 <;> simp [cmpD] at e
  obtain ⟨e1, rfl⟩ := e
  refine op_isN pins s σ H _ _ u1 u2 Q I rx ry ⟨rfl, ?_⟩
  rw [rep_non r1, e1]
  exact k.now sm (.bl _)
theorem co_notN : CmpOk ca Γ X .IsNot .notN := fun pins s σ H v w u1 u2 Q I rx ry q => by
  obtain ⟨α, F, μ, x, y, b, μ', sm, r1, r2, e, k⟩ := q
  cases r2 <;> simp [cmpD] at e
  obtain ⟨e1, rfl⟩ := e
  refine op_notN pins s σ H _ _ u1 u2 Q I rx ry ⟨rfl, ?_⟩
  rw [rep_non r1, e1, Bool.not_not]
  exact k.now sm (.bl _)
theorem rep_flat {K : PySem.W.Frag} {α F v d} (r : Rep K ca α F v d) (h : D.flat d = true) : v = d.toV ∧ flatV v = true := by
  cases r <;> first | exact ⟨rfl, rfl⟩ | exact absurd h Bool.false_ne_true
theorem reps_flat {K : PySem.W.Frag} {α F} : ∀ {vs : List V} {ds : List D}, Reps K ca α F vs ds → ds.all D.flat = true → vs = ds.map D.toV ∧ vs.all flatV = true
  | vs, [], r, _ => by have := r.nil_iff; subst this; exact ⟨rfl, rfl⟩
  | vs, d :: ds, r, h => by
    obtain ⟨v, vr, rfl, r1, r2⟩ := r.cons_inv
    simp only [List.all_cons, Bool.and_eq_true] at h
    obtain ⟨h1, h2⟩ := rep_flat r1 h.1
    obtain ⟨h3, h4⟩ := reps_flat r2 h.2
    exact ⟨by rw [h1, h3]; rfl, by simp [h2, h4]⟩
theorem inV_map (x : D) (ds : List D) : inV x.toV (ds.map D.toV) = ds.any fun z => eqF z x := by
  unfold inV eqF; rw [List.any_map]; rfl
theorem look_val {K : PySem.W.Frag} {α F} {vs : List (Key × V)} {ds : List (Key × D)} (r : KRel K ca α F vs ds) (k : Key) :
    (valV vs k = none ∧ lookK ds k = none) ∨ ∃ v d, valV vs k = some v ∧ lookK ds k = some d ∧ Rep K ca α F v d := by
  induction vs generalizing ds with
  | nil =>
    have : ds = [] := by have := r.1; simpa using this.symm
    subst this; exact .inl ⟨rfl, rfl⟩
  | cons p vs ih =>
    cases ds with
    | nil => have := r.1; simp at this
    | cons q ds =>
      obtain ⟨k1, v1⟩ := p
      obtain ⟨k2, d1⟩ := q
      have e : k1 = k2 := by have := r.1; simp at this; exact this.1
      subst e
      have rt : KRel K ca α F vs ds := ⟨by have := r.1; simpa using this, r.2.tail⟩
      by_cases hk : k1 = k
      · exact .inr ⟨v1, d1, by rw [valV_pos hk], by simp [lookK, List.find?_cons, hk], r.2.head⟩
      · rw [valV_neg hk]
        have : lookK ((k1, d1) :: ds) k = lookK ds k := by simp [lookK, List.find?_cons, hk]
        rw [this]
        exact ih rt
theorem key_kV {K : PySem.W.Frag} {α F v d k} (r : Rep K ca α F v d) (h : key d = some k) : v = kV k := by
  cases r <;> simp [key] at h <;> subst h <;> rfl
theorem mem_run {neg : Bool} {op : CmpOp} {pins s σ H v w u1 u2} {Q : VK} {α F μ x y b} (hin : OpR X (compareOp op) (rIn X.K neg)) (hdict : ∀ (pins : List (Addr × Obj)) (s : Shared) (σ : L2.St) (H : Hp) (y : V) (a : Addr) (o : Option V) (u : Value) (Q : VK), L2.Inv X pins σ H s → RelV y u → DGet H a y o →
      Q (.bl (if neg then !o.isSome else o.isSome)) H → wpAny (model X.prog X.w) X.A (compareOp op u (.ref a)) (EP X pins σ Q) X.xe s)
    (I : L2.Inv X pins σ H s) (rx : RelV v u1) (ry : RelV w u2) (sm : Sim X.K ca α F μ H) (r1 : Rep X.K ca α F v x) (r2 : Rep X.K ca α F w y) (e : memD x y μ = some b) (k : Q (.bl (if neg then !b else b)) H) :
    wpAny (model X.prog X.w) X.A (compareOp op u1 u2) (EP X pins σ Q) X.xe s := by
  cases r2 with
  | @tup a vs ds q1 q2 q3 =>
    simp only [memD] at e
    split at e
    · rename_i hf
      simp only [Bool.and_eq_true] at hf
      cases e
      obtain ⟨h1, h2⟩ := rep_flat r1 hf.1
      obtain ⟨h3, h4⟩ := reps_flat ⟨q2, q3⟩ hf.2
      refine hin pins s σ H v (.ref a) u1 u2 Q I rx ry ⟨a, vs, rfl, .inr (seqT_un sm.sub q1), h2, h4, ?_⟩
      rw [h3, h1, inV_map]; exact k
    · cases e
  | @lst a vs ds q1 q2 q3 =>
    simp only [memD] at e
    split at e
    · rename_i hf
      simp only [Bool.and_eq_true] at hf
      cases e
      obtain ⟨h1, h2⟩ := rep_flat r1 hf.1
      obtain ⟨h3, h4⟩ := reps_flat ⟨q2, q3⟩ hf.2
      refine hin pins s σ H v (.ref a) u1 u2 Q I rx ry ⟨a, vs, rfl, .inl (SqL.of (sm.sub _ _ q1)), h2, h4, ?_⟩
      rw [h3, h1, inV_map]; exact k
    · cases e
  | @cell a n q =>
    simp only [memD] at e
    split at e
    · rename_i kvs hc
      cases hk : key x with
      | none => rw [hk] at e; cases e
      | some kk =>
        rw [hk] at e; cases e
        dsimp only at k
        obtain ⟨vs, h1, h2⟩ := sm.cel _ _ _ hc q
        have hv := key_kV r1 hk
        cases ry
        refine hdict pins s σ H v a (valV vs kk) u1 Q I rx ?_ ?_
        · rw [hv]; exact DGet.k h1
        · rcases look_val h2 kk with ⟨e1, e2⟩ | ⟨v', d', e1, e2, _⟩
          · rw [e1]; rw [e2] at k; exact k
          · rw [e1]; rw [e2] at k; exact k
    · cases e
  | _ => simp [memD] at e
theorem co_mem (hr : Room 1 X.A) : CmpOk ca Γ X .In .mem := fun pins s σ H v w u1 u2 Q I rx ry q => by
  obtain ⟨α, F, μ, x, y, b, μ', sm, r1, r2, e, k⟩ := q
  simp only [cmpD] at e
  cases hm : memD x y μ with
  | none => rw [hm] at e; cases e
  | some b' =>
    rw [hm] at e; cases e
    exact mem_run (neg := false) op_in_seq (fun pins s σ H y a o u Q I ry g q => d_in (hu_of hr) I g ry fun s' I' => ⟨.bl o.isSome, H, I', rfl, q⟩) I rx ry sm r1 r2 hm (k.now sm (.bl _))
theorem co_nmem (hr : Room 1 X.A) : CmpOk ca Γ X .NotIn .nmem := fun pins s σ H v w u1 u2 Q I rx ry q => by
  obtain ⟨α, F, μ, x, y, b, μ', sm, r1, r2, e, k⟩ := q
  simp only [cmpD] at e
  cases hm : memD x y μ with
  | none => rw [hm] at e; cases e
  | some b' =>
    rw [hm] at e; cases e
    exact mem_run (neg := true) op_notIn_seq (fun pins s σ H y a o u Q I ry g q => d_notIn (hu_of hr) I g ry fun s' I' => ⟨.bl (!o.isSome), H, I', rfl, q⟩) I rx ry sm r1 r2 hm (k.now sm (.bl _))
end
end DP

/-! Rules of expressions, continued: tests, and, or, not, subscripts, slices, fields, frozen cells. -/
namespace DP
open PySem PySem.Spec L2

section
variable {ca : Str → Option Addr} {Γ : Pr} {X : Cx} {a b c : Expr} {A B C : E} {pos p : Pos}
theorem truth_tru {K : PySem.W.Frag} {α F μ H v d k} (s : Sim K ca α F μ H) (r : Rep K ca α F v d) (h : truth d μ = some k) : TruV K v H k := by
  have it : ∀ {d}, Rep K ca α F v d → (items d μ).map (fun ds => !ds.isEmpty) = some k → TruV K v H k := fun {d} r h => by
    cases e : items d μ with
    | none => rw [e] at h; cases h
    | some ds =>
      rw [e] at h; cases h
      obtain ⟨a, vs, rfl, q, rs⟩ := items_read s r e
      have he : vs.isEmpty = ds.isEmpty := by
        have := rs.1
        cases vs <;> cases ds <;> simp at this ⊢
      rcases q with q | q
      · exact .inl ⟨vs, q, by rw [he]⟩
      · exact .inr (.inl ⟨vs, q, by rw [he]⟩)
  cases r with
  | non => simp [truth] at h; subst h; rfl
  | bl b => simp [truth] at h; subst h; rfl
  | int i => simp [truth] at h; subst h; rfl
  | str z =>
    simp only [truth] at h
    split at h
    · cases h; exact ⟨by assumption, rfl⟩
    · cases h
  | tup h1 h2 h3 => exact it (.tup h1 h2 h3) (by simpa [truth] using h)
  | lst h1 h2 h3 => exact it (.lst h1 h2 h3) (by simpa [truth] using h)
  | scr h1 => exact it (.scr h1) (by simpa [truth] using h)
  | obj vv h1 h2 h3 h4 h5 => simp [truth, items] at h
  | cell h1 => exact it (.cell h1) (by simpa [truth] using h)
/-! ### tests -/
theorem pt_tru (ha : PEd ca Γ X a A) (he : ∀ whole, isTrue a X.env whole = (do let v ← whole; standAt a.pos; holding [v] (truthy v)) := by intro _; rfl) : PTd ca Γ X a (.cons A .nil) := by
  intro ρ μ b μ' h
  simp only [evT] at h
  obtain ⟨x, μ1, e1, h⟩ := bnd_eq h
  cases e : truth x μ1 with
  | none => rw [e] at h; cases h
  | some k =>
    rw [e] at h; cases h
    exact (pt_truth (ha _ _ _ _ e1) he).mono fun σ H Q ⟨α, F, s, re, kk⟩ => ⟨α, F, s, re, fun v α1 F1 H1 x1 s1 r1 => ⟨b, truth_tru s1 r1 e, kk α1 F1 H1 x1 s1⟩⟩
theorem pw_and1D (ha : PTd ca Γ X a A) : PWd ca Γ X (.BoolOp .And [a] pos) A := fun ρ μ b μ' h => pw_and1 (ha _ _ _ _ h)
theorem pw_or1D (ha : PTd ca Γ X a A) : PWd ca Γ X (.BoolOp .Or [a] pos) A := fun ρ μ b μ' h => pw_or1 (ha _ _ _ _ h)
theorem tDT_bind {K : PySem.W.Frag} {ρ : Rho} {μ μ1 μ2 : Sto} {k b : Bool} {u : Bool → TT} (h : ∀ σ H Q, tDT K ca ρ μ1 b μ2 σ H Q → u k σ H Q) :
    ∀ σ H Q, tDT K ca ρ μ b μ2 σ H Q → tDT K ca ρ μ k μ1 σ H (fun c H1 => u c σ H1 Q) := fun σ H Q ⟨α, F, s, re, kk⟩ =>
  ⟨α, F, s, re, fun α1 F1 H1 x1 s1 => h σ H1 Q ⟨α1, F1, s1, re.mono x1, fun α2 F2 H2 x2 s2 => kk α2 F2 H2 (x1.trans x2) s2⟩⟩
theorem tDT_end {K : PySem.W.Frag} {ρ : Rho} {μ : Sto} {b : Bool} {σ H Q} (h : tDT K ca ρ μ b μ σ H Q) : Q b H := by
  obtain ⟨α, F, s, re, kk⟩ := h
  exact kk α F H (Ext.refl _ _) s
theorem PW.ff {X : Cx} {e : Expr} : PW X e (fun _ _ _ => False) := ⟨fun _ _ _ _ _ _ _ h => h.elim⟩
theorem pw_and2 {rest : List Expr} (ha : PTd ca Γ X a A) (hb : PWd ca Γ X (.BoolOp .And (b :: rest) pos) B) : PWd ca Γ X (.BoolOp .And (a :: b :: rest) pos) (.and A B) := by
  intro ρ μ k μ' h
  simp only [evT] at h
  obtain ⟨x, μ1, e1, h⟩ := bnd_eq h
  cases x with
  | true =>
    refine (pw_and (ha _ _ _ _ e1) (hb _ _ _ _ h)).mono fun σ H Q q => ?_
    exact tDT_bind (k := true) (u := fun c σ H Q => if c = true then tDT X.K ca ρ μ1 k μ' σ H Q else Q false H) (fun σ H Q q => by rw [if_pos rfl]; exact q) σ H Q q
  | false =>
    simp only [Bool.false_eq_true, if_false, Option.some.injEq, Prod.mk.injEq] at h
    obtain ⟨rfl, rfl⟩ := h
    refine (pw_and (ha _ _ _ _ e1) PW.ff).mono fun σ H Q q => ?_
    exact tDT_bind (k := false) (u := fun c σ H Q => if c = true then False else Q false H) (fun σ H Q q => by rw [if_neg Bool.false_ne_true]; exact tDT_end q) σ H Q q
theorem pw_or2 {rest : List Expr} (ha : PTd ca Γ X a A) (hb : PWd ca Γ X (.BoolOp .Or (b :: rest) pos) B) : PWd ca Γ X (.BoolOp .Or (a :: b :: rest) pos) (.or A B) := by
  intro ρ μ k μ' h
  simp only [evT] at h
  obtain ⟨x, μ1, e1, h⟩ := bnd_eq h
  cases x with
  | false =>
    refine (pw_or (ha _ _ _ _ e1) (hb _ _ _ _ h)).mono fun σ H Q q => ?_
    exact tDT_bind (k := false) (u := fun c σ H Q => if c = true then Q true H else tDT X.K ca ρ μ1 k μ' σ H Q) (fun σ H Q q => by rw [if_neg Bool.false_ne_true]; exact q) σ H Q q
  | true =>
    simp only [if_true, Option.some.injEq, Prod.mk.injEq] at h
    obtain ⟨rfl, rfl⟩ := h
    refine (pw_or (ha _ _ _ _ e1) PW.ff).mono fun σ H Q q => ?_
    exact tDT_bind (k := true) (u := fun c σ H Q => if c = true then Q true H else False) (fun σ H Q q => by rw [if_pos rfl]; exact tDT_end q) σ H Q q
theorem pt_w (h : PWd ca Γ X a A) : PTd ca Γ X a A := fun ρ μ b μ' e => (h _ _ _ _ e).pt
theorem pt_notD (ha : PTd ca Γ X a A) : PTd ca Γ X (.UnaryOp .Not a pos) (.not A) := by
  intro ρ μ k μ' h
  simp only [evT] at h
  obtain ⟨x, μ1, e1, h⟩ := bnd_eq h
  cases h
  exact (pt_not (ha _ _ _ _ e1)).mono fun σ H Q q => tDT_bind (k := x) (u := fun c σ H Q => Q (!c) H) (fun σ H Q q => tDT_end q) σ H Q q
theorem pc_nil : PTsd ca Γ X [] .nil := by
  intro ρ μ k μ' h
  simp only [evT, Option.some.injEq, Prod.mk.injEq] at h
  obtain ⟨rfl, rfl⟩ := h
  exact pts_nil.mono fun σ H Q q => tDT_end q
theorem pc_one (h : PTd ca Γ X a A) : PTsd ca Γ X [a] A := fun ρ μ k μ' e => pts_one (h _ _ _ _ e)
/-! ### and, or, not, if as values -/
theorem pd_one {op} (h : PEd ca Γ X a A) : PEd ca Γ X (.BoolOp op [a] pos) A := fun ρ μ d μ' e => pe_one (h _ _ _ _ e)
theorem PE.ff {X : Cx} {e : Expr} : PE X e (fun _ _ _ => False) := ⟨fun _ _ _ _ _ _ h => h.elim⟩
theorem pd_and {rest : List Expr} (ha : PEd ca Γ X a A) (hb : PEd ca Γ X (.BoolOp .And (b :: rest) pos) B) : PEd ca Γ X (.BoolOp .And (a :: b :: rest) pos) (.and A B) := by
  intro ρ μ d μ' h
  simp only [ev] at h
  obtain ⟨x, μ1, e1, h⟩ := bnd_eq h
  split at h
  · rename_i et
    refine (pe_andT (ha _ _ _ _ e1) (hb _ _ _ _ h)).mono fun σ H Q ⟨α, F, s, re, k⟩ => ⟨α, F, s, re, fun v α1 F1 H1 x1 s1 r1 => ⟨true, truth_tru s1 r1 et, ?_⟩⟩
    rw [if_pos rfl]
    exact ⟨α1, F1, s1, re.mono x1, k.ext x1⟩
  · rename_i et
    cases h
    refine (pe_andT (ha _ _ _ _ e1) PE.ff).mono fun σ H Q ⟨α, F, s, re, k⟩ => ⟨α, F, s, re, fun v α1 F1 H1 x1 s1 r1 => ⟨false, truth_tru s1 r1 et, ?_⟩⟩
    rw [if_neg Bool.false_ne_true]
    exact (k.ext x1).now s1 r1
  · cases h
theorem pd_or {rest : List Expr} (ha : PEd ca Γ X a A) (hb : PEd ca Γ X (.BoolOp .Or (b :: rest) pos) B) : PEd ca Γ X (.BoolOp .Or (a :: b :: rest) pos) (.or A B) := by
  intro ρ μ d μ' h
  simp only [ev] at h
  obtain ⟨x, μ1, e1, h⟩ := bnd_eq h
  split at h
  · rename_i et
    cases h
    refine (pe_orT (ha _ _ _ _ e1) PE.ff).mono fun σ H Q ⟨α, F, s, re, k⟩ => ⟨α, F, s, re, fun v α1 F1 H1 x1 s1 r1 => ⟨true, truth_tru s1 r1 et, ?_⟩⟩
    rw [if_pos rfl]
    exact (k.ext x1).now s1 r1
  · rename_i et
    refine (pe_orT (ha _ _ _ _ e1) (hb _ _ _ _ h)).mono fun σ H Q ⟨α, F, s, re, k⟩ => ⟨α, F, s, re, fun v α1 F1 H1 x1 s1 r1 => ⟨false, truth_tru s1 r1 et, ?_⟩⟩
    rw [if_neg Bool.false_ne_true]
    exact ⟨α1, F1, s1, re.mono x1, k.ext x1⟩
  · cases h
theorem pd_not (ha : PEd ca Γ X a A) : PEd ca Γ X (.UnaryOp .Not a pos) (.not A) := by
  intro ρ μ d μ' h
  simp only [ev] at h
  obtain ⟨x, μ1, e1, h⟩ := bnd_eq h
  cases et : truth x μ1 with
  | none => rw [et] at h; cases h
  | some k =>
    rw [et] at h; cases h
    exact (pe_notT (ha _ _ _ _ e1)).mono fun σ H Q ⟨α, F, s, re, kk⟩ => ⟨α, F, s, re, fun v α1 F1 H1 x1 s1 r1 => ⟨k, truth_tru s1 r1 et, (kk.ext x1).now s1 (.bl _)⟩⟩
theorem pd_ife (hc : PTd ca Γ X c C) (ha : PEd ca Γ X a A) (hb : PEd ca Γ X b B) : PEd ca Γ X (.IfExp c a b pos) (.ife C A B) := by
  intro ρ μ d μ' h
  simp only [ev] at h
  obtain ⟨x, μ1, e1, h⟩ := bnd_eq h
  cases x with
  | true =>
    simp only [if_true] at h
    refine (pe_ifExp (hc _ _ _ _ e1) (ha _ _ _ _ h) PE.ff).mono fun σ H Q ⟨α, F, s, re, k⟩ => ⟨α, F, s, re, fun α1 F1 H1 x1 s1 => ?_⟩
    exact iteT ⟨α1, F1, s1, re.mono x1, k.ext x1⟩
  | false =>
    simp only [Bool.false_eq_true, if_false] at h
    refine (pe_ifExp (hc _ _ _ _ e1) PE.ff (hb _ _ _ _ h)).mono fun σ H Q ⟨α, F, s, re, k⟩ => ⟨α, F, s, re, fun α1 F1 H1 x1 s1 => ?_⟩
    exact iteF ⟨α1, F1, s1, re.mono x1, k.ext x1⟩
/-! ### chains -/
theorem chain_read {op op' : CmpOp} {o o' : Cmp} {ρ μ d μ'} {A B C : E} {K : PySem.W.Frag} (h : ev Γ (.chn o o' A B C) ρ μ = some (d, μ')) :
    ∃ x y μ1 μ2, ev Γ A ρ μ = some (x, μ1) ∧ ev Γ B ρ μ1 = some (y, μ2) ∧ ∃ tc : TE, ((tc = fun _ _ _ => False) ∨ ∃ z μ3 μ4, ev Γ C ρ μ3 = some (z, μ4) ∧ tc = tD K ca ρ μ3 z μ4) ∧
      ∀ σ H Q, tD K ca ρ μ d μ' σ H Q → tChain (rCmp K ca Γ o) (rCmp K ca Γ o') (tD K ca ρ μ x μ1) (tD K ca ρ μ1 y μ2) tc σ H Q := by
  simp only [ev] at h
  obtain ⟨x, μ1, e1, h⟩ := bnd_eq h
  obtain ⟨y, μ2, e2, h⟩ := bnd_eq h
  obtain ⟨k, μ3, e3, h⟩ := bnd_eq h
  refine ⟨x, y, μ1, μ2, e1, e2, ?_⟩
  cases k with
  | true =>
    simp only [if_true] at h
    obtain ⟨z, μ4, e4, h⟩ := bnd_eq h
    cases e : cmpD Γ o' y z μ4 with
    | none => rw [e] at h; cases h
    | some q =>
      rw [e] at h; cases h
      refine ⟨_, .inr ⟨z, μ3, μ4, e4, rfl⟩, fun σ H Q ⟨α, F, s, re, k⟩ =>
        ⟨α, F, s, re, fun v α1 F1 H1 x1 s1 r1 => ⟨α1, F1, s1, re.mono x1, fun w α2 F2 H2 x2 s2 r2 => ⟨α2, F2, μ2, x, y, true, μ3, s2, r1.mono x2, r2, e3, fun u α3 F3 H3 x3 s3 r3 => ?_⟩⟩⟩⟩
      cases r3
      have x23 := x2.trans x3
      exact ⟨true, rfl, iteT ⟨α3, F3, s3, re.mono (x1.trans x23), fun w2 α4 F4 H4 x4 s4 r4 => ⟨α4, F4, μ4, y, z, q.1, q.2, s4, r2.mono (x3.trans x4), r4, e, k.ext ((x1.trans x23).trans x4)⟩⟩⟩
  | false =>
    simp only [Bool.false_eq_true, if_false, Option.some.injEq, Prod.mk.injEq] at h
    obtain ⟨rfl, rfl⟩ := h
    refine ⟨_, .inl rfl, fun σ H Q ⟨α, F, s, re, k⟩ =>
        ⟨α, F, s, re, fun v α1 F1 H1 x1 s1 r1 => ⟨α1, F1, s1, re.mono x1, fun w α2 F2 H2 x2 s2 r2 => ⟨α2, F2, μ2, x, y, false, μ3, s2, r1.mono x2, r2, e3, fun u α3 F3 H3 x3 s3 r3 => ?_⟩⟩⟩⟩
    cases r3
    exact ⟨false, rfl, iteF ((k.ext (x1.trans (x2.trans x3))).now s3 (.bl false))⟩
theorem pd_chn {op op' : CmpOp} {o o' : Cmp} (ho : CmpOk ca Γ X op o) (ho' : CmpOk ca Γ X op' o') (ha : PEd ca Γ X a A) (hb : PEd ca Γ X b B) (hc : PEd ca Γ X c C)
    (hm : lastMarks [op, op'] [b, c] = false := by with_unfolding_all rfl) : PEd ca Γ X (.Compare a [op, op'] [b, c] pos) (.chn o o' A B C) := by
  intro ρ μ d μ' h
  obtain ⟨x, y, μ1, μ2, e1, e2, tc, ht, rd⟩ := chain_read (ca := ca) (op := op) (op' := op') (K := X.K) h
  have hc' : PE X c tc := by
    rcases ht with rfl | ⟨z, μ3, μ4, e4, rfl⟩
    · exact PE.ff
    · exact hc _ _ _ _ e4
  exact (pe_chain ho ho' (ha _ _ _ _ e1) (hb _ _ _ _ e2) hc' hm).mono rd
theorem pt_chnD {op op' : CmpOp} {o o' : Cmp} (ho : CmpOk ca Γ X op o) (ho' : CmpOk ca Γ X op' o') (ha : PEd ca Γ X a A) (hb : PEd ca Γ X b B) (hc : PEd ca Γ X c C)
    (hm : lastMarks [op, op'] [b, c] = false := by with_unfolding_all rfl) : PTd ca Γ X (.Compare a [op, op'] [b, c] pos) (.chn o o' A B C) := by
  intro ρ μ k μ' h
  have hv : ev Γ (.chn o o' A B C) ρ μ = some (.bl k, μ') := by
    simp only [evT] at h
    simp only [ev]
    obtain ⟨x, μ1, e1, h⟩ := bnd_eq h
    obtain ⟨y, μ2, e2, h⟩ := bnd_eq h
    obtain ⟨j, μ3, e3, h⟩ := bnd_eq h
    rw [e1, bnd_some, e2, bnd_some, e3, bnd_some]
    cases j with
    | true =>
      simp only [if_true] at h ⊢
      obtain ⟨z, μ4, e4, h⟩ := bnd_eq h
      rw [e4, bnd_some, h]; rfl
    | false => simp at h ⊢; exact h
  obtain ⟨x, y, μ1, μ2, e1, e2, tc, ht, rd⟩ := chain_read (ca := ca) (op := op) (op' := op') (K := X.K) hv
  have hc' : PE X c tc := by
    rcases ht with rfl | ⟨z, μ3, μ4, e4, rfl⟩
    · exact PE.ff
    · exact hc _ _ _ _ e4
  refine (pt_chain ho ho' (ha _ _ _ _ e1) (hb _ _ _ _ e2) hc' hm).mono fun σ H Q ⟨α, F, s, re, kk⟩ => rd σ H _ ⟨α, F, s, re, fun v α1 F1 H1 x1 s1 r1 => ?_⟩
  cases r1
  exact ⟨k, rfl, kk α1 F1 H1 x1 s1⟩
/-! ### subscripts -/
theorem reps_at {K : PySem.W.Frag} {α F} {vs : List V} {ds : List D} (r : Reps K ca α F vs ds) {i : Int} {d : D} (h : atI ds i = some d) : ∃ v, atI vs i = some v ∧ Rep K ca α F v d := by
  unfold atI at h ⊢
  rw [r.1]
  cases e : ixN ds.length i with
  | none => rw [e] at h; cases h
  | some j => rw [e] at h; exact r.get h
theorem pd_ix (hr : Room 1 X.A) (ha : PEd ca Γ X a A) (hb : PEd ca Γ X b B) (hs : PlainIx b := by exact fun _ _ => rfl) : PEd ca Γ X (.Subscript a b pos) (.ix A B) := by
  intro ρ μ d μ' h
  simp only [ev] at h
  obtain ⟨x, μ1, e1, h⟩ := bnd_eq h
  obtain ⟨y, μ2, e2, h⟩ := bnd_eq h
  cases e : ixD x y μ2 with
  | none => rw [e] at h; cases h
  | some z =>
    rw [e] at h; cases h
    by_cases hd : ∃ n kvs, x = .cell n ∧ μ'[n]? = some (.dct kvs)
    · obtain ⟨n, kvs, rfl, hn⟩ := hd
      refine (pe_dget (hu_of hr) (ha _ _ _ _ e1) (hb _ _ _ _ e2) hs).mono fun σ H Q ⟨α, F, s, re, k⟩ =>
        ⟨α, F, s, re, fun v α1 F1 H1 x1 s1 r1 => ⟨α1, F1, s1, re.mono x1, fun w α2 F2 H2 x2 s2 r2 => ?_⟩⟩
      have r1 := r1.mono x2
      cases r1 with
      | @cell a _ q =>
        simp only [ixD, hn] at e
        cases hk : key y with
        | none => rw [hk] at e; cases e
        | some kk =>
          rw [hk] at e
          obtain ⟨vs, h1, h2⟩ := s2.cel _ _ _ hn q
          have hv := key_kV r2 hk
          subst hv
          rcases look_val h2 kk with ⟨_, e4⟩ | ⟨v', d', e3, e4, r4⟩
          · have e : lookK kvs kk = some d := e
            rw [e4] at e; cases e
          · have e : lookK kvs kk = some d := e
            rw [e4] at e; cases e
            exact ⟨a, v', rfl, by have g := DGet.k (k := kk) h1; rw [e3] at g; exact g, (k.ext (x1.trans x2)).now s2 r4⟩
    · refine (pe_ix ix_seq (ha _ _ _ _ e1) (hb _ _ _ _ e2) hs).mono (op_comb fun α F H v w Q s r1 r2 k => ?_)
      cases r2 with
      | int i =>
        cases r1 with
        | str z =>
          simp only [ixD] at e
          split at e
          · rename_i hl
            cases hc : atI z.cps.toList i with
            | none => rw [hc] at e; cases e
            | some c => rw [hc] at e; cases e; exact .inr (.inr ⟨z, i, c, rfl, rfl, hl, hc, k.now s (.str _)⟩)
          · cases e
        | @tup a vs ds q1 q2 q3 =>
          obtain ⟨v, h1, h2⟩ := reps_at (r := ⟨q2, q3⟩) (show atI ds i = some d from e)
          exact .inr (.inl ⟨a, vs, i, v, rfl, rfl, seqT_un s.sub q1, h1, k.now s h2⟩)
        | @lst a vs ds q1 q2 q3 =>
          obtain ⟨v, h1, h2⟩ := reps_at (r := ⟨q2, q3⟩) (show atI ds i = some d from e)
          exact .inl ⟨a, vs, i, v, rfl, rfl, SqL.of (s.sub _ _ q1), h1, k.now s h2⟩
        | @scr a is q1 =>
          obtain ⟨v, h1, h2⟩ := reps_at (r := reps_ints is) (show atI (is.map D.int) i = some d from e)
          exact .inl ⟨a, _, i, v, rfl, rfl, seqL_un s.sub q1, h1, k.now s h2⟩
        | @cell a n q =>
          cases hc : μ'[n]? with
          | none => simp [ixD, hc] at e
          | some cc =>
            cases cc with
            | lst ds =>
              simp only [ixD, hc] at e
              obtain ⟨vs, p1, p2⟩ := s.cel _ _ _ hc q
              obtain ⟨v, h1, h2⟩ := reps_at p2 e
              exact .inl ⟨a, vs, i, v, rfl, rfl, SqL.of p1, h1, k.now s h2⟩
            | dct kvs => exact absurd ⟨n, kvs, rfl, hc⟩ hd
            | ins C fs => simp [ixD, hc] at e
            | dead => simp [ixD, hc] at e
        | _ => simp [ixD, items] at e
      | _ =>
        exfalso
        cases r1 with
        | @cell a n q =>
          cases hc : μ'[n]? with
          | none => simp [ixD, hc] at e
          | some cc =>
            cases cc with
            | dct kvs => exact hd ⟨n, kvs, rfl, hc⟩
            | _ => simp [ixD, hc] at e
        | _ => simp [ixD] at e
end
end DP

/-! Rules of expressions, continued: slices, joined lists, fields, frozen cells, built-in functions and methods. -/
namespace DP
open PySem PySem.Spec L2

section
variable {ca : Str → Option Addr} {Γ : Pr} {X : Cx} {a b c : Expr} {A B C : E} {pos p : Pos}
/-! ### slices -/
theorem pp_no : POd ca Γ X none .noP := by
  intro ρ μ o μ' h
  simp only [evP, Option.some.injEq, Prod.mk.injEq] at h
  obtain ⟨rfl, rfl⟩ := h
  exact po_none.mono fun σ H Q ⟨α, F, s, re, k⟩ => k α F H (Ext.refl _ _) s
theorem pp_some (ha : PEd ca Γ X a A) : POd ca Γ X (some a) (.cons A .nil) := by
  intro ρ μ o μ' h
  simp only [evP] at h
  obtain ⟨x, μ1, e1, h⟩ := bnd_eq h
  split at h
  · cases h
    refine (po_some (ha _ _ _ _ e1)).mono fun σ H Q ⟨α, F, s, re, k⟩ => ⟨α, F, s, re, fun v α1 F1 H1 x1 s1 r1 => ?_⟩
    cases r1
    exact ⟨_, rfl, k α1 F1 H1 x1 s1⟩
  · cases h
theorem reps_cut {K : PySem.W.Frag} {α F} {vs : List V} {ds : List D} (r : Reps K ca α F vs ds) (lo hi : Option Int) : Reps K ca α F (cutV vs lo hi) (cutD ds lo hi) := by
  unfold cutV cutD
  rw [r.1]
  exact (r.drop _).take _
def rSl3 (K : PySem.W.Frag) : V → Option Int → Option Int → Hp → VK → Prop := fun x lo hi H Q => (rSlA K x lo hi H Q ∨ rSlL K x lo hi H Q) ∨ rSlS x lo hi H Q
theorem sl_any : SlR X (rSl3 X.K) := (sl_tupA.or sl_list).or sl_str
theorem cut_whole {ds : List D} {lo hi : Option Int} (h : HT.sIx ds.length 0 lo = 0 ∧ HT.sIx ds.length ds.length hi = ds.length) : cutD ds lo hi = ds := by
  unfold cutD; rw [h.1, h.2]; simp
theorem pd_sl {m : Bool} {lo hi : Option Expr} {L U : E} {p2 : Pos} (ha : PEd ca Γ X a A) (hl : POd ca Γ X lo L) (hu : POd ca Γ X hi U) : PEd ca Γ X (.Subscript a (.Slice lo hi none p2) pos) (.sl m A L U) := by
  intro ρ μ d μ' h
  simp only [ev] at h
  obtain ⟨x, μ1, e1, h⟩ := bnd_eq h
  obtain ⟨l, μ2, e2, h⟩ := bnd_eq h
  obtain ⟨u, μ3, e3, h⟩ := bnd_eq h
  refine (pe_slice sl_any (ha _ _ _ _ e1) (hl _ _ _ _ e2) (hu _ _ _ _ e3)).mono fun σ H Q ⟨α, F, s, re, k⟩ =>
    ⟨α, F, s, re, fun v α1 F1 H1 x1 s1 r1 => ⟨α1, F1, s1, re.mono x1, fun α2 F2 H2 x2 s2 => ⟨α2, F2, s2, re.mono (x1.trans x2), fun α3 F3 H3 x3 s3 => ?_⟩⟩⟩
  have r := r1.mono (x2.trans x3)
  have kk := k.ext (x1.trans (x2.trans x3))
  have lst : ∀ ds, listed x μ3 = some ds → alloc m (cutD ds l u) μ3 = some (d, μ') → rSl3 X.K v l u H3 Q := fun ds e h => by
    obtain ⟨a, vs, rfl, q, rs⟩ := listed_read s3 r e
    exact .inl (.inr ⟨a, vs, rfl, q, fun p hp => new_lst s3 (reps_cut rs l u) h kk hp⟩)
  cases r with
  | @tup a vs ds q1 q2 q3 =>
    simp only [slD, Option.some.injEq, Prod.mk.injEq] at h
    obtain ⟨rfl, rfl⟩ := h
    refine .inl (.inl ⟨a, vs, rfl, seqT_un s3.sub q1, fun e => ?_, fun _ p hp => new_tup s3 (reps_cut ⟨q2, q3⟩ l u) kk hp⟩)
    rw [q2] at e
    rw [cut_whole e] at kk
    exact kk.now s3 (.tup q1 q2 q3)
  | str z =>
    simp only [slD] at h
    split at h
    · cases h; exact .inr ⟨z, rfl, by assumption, kk.now s3 (.str _)⟩
    · cases h
  | lst h1 h2 h3 =>
    simp only [slD] at h
    obtain ⟨ds, e, h⟩ := Option.bind_eq_some_iff.mp h
    exact lst ds e h
  | scr h1 =>
    simp only [slD] at h
    obtain ⟨ds, e, h⟩ := Option.bind_eq_some_iff.mp h
    exact lst ds e h
  | cell h1 =>
    simp only [slD] at h
    obtain ⟨ds, e, h⟩ := Option.bind_eq_some_iff.mp h
    exact lst ds e h
  | _ => simp [slD, listed] at h
theorem pd_rev {m : Bool} {k : Nat} {p1 p2 p3 : Pos} (ha : PEd ca Γ X a A) : PEd ca Γ X (.Subscript a (.Slice none none (some (.UnaryOp .USub (.Constant (.int 1) k p1) p2)) p3) pos) (.rev m A) := by
  intro ρ μ d μ' h
  simp only [ev] at h
  obtain ⟨x, μ1, e1, h⟩ := bnd_eq h
  obtain ⟨ds, e2, h⟩ := Option.bind_eq_some_iff.mp h
  refine (pe_revL (ha _ _ _ _ e1)).mono fun σ H Q ⟨α, F, s, re, k⟩ => ⟨α, F, s, re, fun v α1 F1 H1 x1 s1 r1 => ?_⟩
  obtain ⟨a, vs, rfl, q, rs⟩ := listed_read s1 r1 e2
  exact ⟨a, vs, rfl, q, fun p hp => new_lst s1 rs.reverse h (k.ext x1) hp⟩
/-! ### fields, frozen cells -/
theorem pd_fld {f : Str} (hc : ∀ C c, ca C = some c → Cls X.K c ∧ ∀ f ∈ Γ.att C, NoAttr X.K c f) (ha : PEd ca Γ X a A) (hb : attributeBase a f X.env (eval a X.env) = eval a X.env := by rfl) : PEd ca Γ X (.Attribute a f pos) (.fld A f) := by
  intro ρ μ d μ' h
  simp only [ev] at h
  obtain ⟨x, μ1, e1, h⟩ := bnd_eq h
  cases e : fldD Γ x f μ1 with
  | none => rw [e] at h; cases h
  | some z =>
    rw [e] at h; cases h
    refine (pe_fld (ha _ _ _ _ e1) hb).mono fun σ H Q ⟨α, F, s, re, k⟩ => ⟨α, F, s, re, fun v α1 F1 H1 x1 s1 r1 => ?_⟩
    cases r1 with
    | @obj a C c dx fs gs vv q1 q2 q3 q4 q5 =>
      simp only [fldD] at e
      split at e
      · rename_i hm
        exact ⟨a, c, dx, fs, vv f, rfl, s1.sub _ _ q2, (hc C c q1).1, (hc C c q1).2 f hm, q4 f _ e, (k.ext x1).now s1 (q5 f _ e)⟩
      · cases e
    | @cell a n q =>
      simp only [fldD] at e
      split at e
      · rename_i C gs hn
        split at e
        · rename_i hm
          obtain ⟨c, dx, fs, p1, p2, p3, p4⟩ := s1.cel _ _ _ hn q
          obtain ⟨w, h1, h2⟩ := (p3 f).2 _ e
          exact ⟨a, c, dx, fs, w, rfl, p2, (hc C c p1).1, (hc C c p1).2 f hm, h1, (k.ext x1).now s1 h2⟩
        · cases e
      · cases e
    | _ => simp [fldD] at e
theorem FRel.vv {K : PySem.W.Frag} {α F fs gs} (r : FRel K ca α F fs gs) : ∃ vv : Str → V, (∀ f d, gs.lookup f = some d → fs.lookup f = some (vv f)) ∧ ∀ f d, gs.lookup f = some d → Rep K ca α F (vv f) d := by
  refine ⟨fun f => (fs.lookup f).getD .non, fun f d h => ?_, fun f d h => ?_⟩
  · obtain ⟨v, h1, h2⟩ := (r f).2 d h
    simp [h1]
  · obtain ⟨v, h1, h2⟩ := (r f).2 d h
    show Rep K ca α F ((fs.lookup f).getD .non) d
    rw [h1]; exact h2
theorem freeze_run {K : PySem.W.Frag} {α F H μ n d μ' Q a} (s : Sim K ca α F μ H) (hn : α[n]? = some a) (h : freezeD n μ = some (d, μ')) (k : Kon K ca α F d μ' Q) : Q (.ref a) H := by
  unfold freezeD at h
  split at h
  · rename_i ds e
    cases h
    obtain ⟨vs, h1, h2⟩ := s.cel _ _ _ e hn
    obtain ⟨s', x⟩ := s.freeze e (fun z => nomatch z) hn h1
    exact k _ _ _ _ x s' (.lst upd_same h2.1 fun i v d q1 q2 => (h2.2 i v d q1 q2).mono x)
  · rename_i C fs e
    cases h
    obtain ⟨c, dx, gs, h1, h2, h3, h4⟩ := s.cel _ _ _ e hn
    obtain ⟨s', x⟩ := s.freeze e (fun z => nomatch z) hn h2
    obtain ⟨vv, w1, w2⟩ := (h3.mono x).vv
    exact k _ _ _ _ x s' (.obj vv h1 upd_same (fun f => (h3 f).1) w1 w2)
  · cases h
theorem pd_frz (ha : PEd ca Γ X a A) : PEd ca Γ X a (.frz A) := by
  intro ρ μ d μ' h
  simp only [ev] at h
  obtain ⟨x, μ1, e1, h⟩ := bnd_eq h
  split at h
  · rename_i n
    refine (ha _ _ _ _ e1).mono fun σ H Q ⟨α, F, s, re, k⟩ => ⟨α, F, s, re, fun v α1 F1 H1 x1 s1 r1 => ?_⟩
    cases r1 with
    | cell q => exact freeze_run s1 q h (k.ext x1)
  · cases h
end
end DP

/-! Rules: built-in functions, types and methods by values. -/
namespace DP
open PySem PySem.Spec L2

section
variable {ca : Str → Option Addr} {Γ : Pr} {X : Cx} {a b c e : Expr} {A B C : E} {pos p : Pos} {es : List Expr}
/-- what a call by values asks -/
def BiS (K : PySem.W.Frag) (ca : Str → Option Addr) (r : List V → Hp → VK → Prop) (f : List D → Sto → Option (D × Sto)) : Prop :=
  ∀ ds μ d μ', f ds μ = some (d, μ') → ∀ α F H vs Q, Sim K ca α F μ H → Reps K ca α F vs ds → Kon K ca α F d μ' Q → r vs H Q
theorem biB {k : Bi} {m : Bool} {x : Str} {id : String} {r} (hs : BiS X.K ca r (biD k m)) (hc : CallR X (.builtin id) r) (hg : Gl X x) (hm : X.mg x = none) (hv : bootBuiltins x = some (.builtin id)) (ha : PAd ca Γ X (e :: es) A) (hn : x ≠ "__name__" := by decide) (hdb : (x == ("__debug__" : Str)) = false := by decide)
    (he : starEach (e :: es) X.env = (false, eval e X.env) :: starEach es X.env := by rfl) (hpl : (backTo pos (starEach es X.env)).any (·.1) = false := by rfl) : PEd ca Γ X (.Call (.Name x p) (e :: es) [] pos) (.bi k m A) := by
  intro ρ μ d μ' h
  simp only [ev] at h
  obtain ⟨ds, μ1, e1, h⟩ := bnd_eq h
  exact (pe_callB hc hg hm hv (ha _ _ _ _ e1) hn hdb he hpl).mono fun σ H Q ⟨α, F, s, re, k⟩ => ⟨α, F, s, re, fun vs α1 F1 H1 x1 s1 r1 => hs _ _ _ _ h α1 F1 H1 vs Q s1 r1 (k.ext x1)⟩
theorem biT {k : Bi} {m : Bool} {x : Str} {T : String} {r} (hs : BiS X.K ca r (biD k m)) (hc : CallR X (.type T) r) (hg : Gl X x) (hm : X.mg x = none) (hv : bootBuiltins x = some (.type T)) (ha : PAd ca Γ X (e :: es) A) (hn : x ≠ "__name__" := by decide) (hdb : (x == ("__debug__" : Str)) = false := by decide)
    (he : starEach (e :: es) X.env = (false, eval e X.env) :: starEach es X.env := by rfl) (hpl : (backTo pos (starEach es X.env)).any (·.1) = false := by rfl) : PEd ca Γ X (.Call (.Name x p) (e :: es) [] pos) (.bi k m A) := by
  intro ρ μ d μ' h
  simp only [ev] at h
  obtain ⟨ds, μ1, e1, h⟩ := bnd_eq h
  exact (pe_callTy hc hg hm hv (ha _ _ _ _ e1) hn hdb he hpl).mono fun σ H Q ⟨α, F, s, re, k⟩ => ⟨α, F, s, re, fun vs α1 F1 H1 x1 s1 r1 => hs _ _ _ _ h α1 F1 H1 vs Q s1 r1 (k.ext x1)⟩

theorem ints_read {K : PySem.W.Frag} {α F} : ∀ {vs : List V} {ds : List D} {is : List Int}, Reps K ca α F vs ds → intsD ds = some is → vs = is.map V.int
  | vs, [], is, r, h => by simp [intsD] at h; subst h; have := r.nil_iff; subst this; rfl
  | vs, d :: ds, is, r, h => by
    obtain ⟨v, vr, rfl, r1, r2⟩ := r.cons_inv
    cases r1 with
    | int i =>
      simp only [intsD] at h
      cases e : intsD ds with
      | none => rw [e] at h; cases h
      | some js => rw [e] at h; cases h; rw [ints_read r2 e]; rfl
    | _ => simp [intsD] at h
theorem bls_read {K : PySem.W.Frag} {α F} : ∀ {vs : List V} {ds : List D} {is : List Bool}, Reps K ca α F vs ds → bls ds = some is → vs = is.map V.bl
  | vs, [], is, r, h => by simp [bls] at h; subst h; have := r.nil_iff; subst this; rfl
  | vs, d :: ds, is, r, h => by
    obtain ⟨v, vr, rfl, r1, r2⟩ := r.cons_inv
    cases r1 with
    | bl i =>
      simp only [bls] at h
      cases e : bls ds with
      | none => rw [e] at h; cases h
      | some js => rw [e] at h; cases h; rw [bls_read r2 e]; rfl
    | _ => simp [bls] at h
theorem one_read {K : PySem.W.Frag} {α F} {vs : List V} {d : D} (r : Reps K ca α F vs [d]) : ∃ v, vs = [v] ∧ Rep K ca α F v d := by
  obtain ⟨v, vr, rfl, r1, r2⟩ := r.cons_inv
  have := r2.nil_iff; subst this
  exact ⟨v, rfl, r1⟩
theorem two_read {K : PySem.W.Frag} {α F} {vs : List V} {d d' : D} (r : Reps K ca α F vs [d, d']) : ∃ v w, vs = [v, w] ∧ Rep K ca α F v d ∧ Rep K ca α F w d' := by
  obtain ⟨v, vr, rfl, r1, r2⟩ := r.cons_inv
  obtain ⟨w, rfl, r3⟩ := one_read r2
  exact ⟨v, w, rfl, r1, r3⟩
theorem maxI_mem : ∀ (m : Int) (is : List Int), maxI m is ∈ m :: is ∧ ∀ y ∈ m :: is, y ≤ maxI m is
  | m, [] => by simp [maxI]
  | m, i :: is => by
    by_cases hlt : m < i
    · have ih := maxI_mem i is
      simp only [maxI, if_pos hlt, List.mem_cons] at ih ⊢
      refine ⟨.inr ih.1, fun y hy => ?_⟩
      have h0 := ih.2 _ (.inl rfl)
      rcases hy with rfl | hy
      · omega
      · exact ih.2 _ hy
    · have ih := maxI_mem m is
      simp only [maxI, if_neg hlt, List.mem_cons] at ih ⊢
      refine ⟨ih.1.elim .inl fun z => .inr (.inr z), fun y hy => ?_⟩
      have h0 := ih.2 _ (.inl rfl)
      rcases hy with rfl | rfl | hy
      · exact h0
      · omega
      · exact ih.2 _ (.inr hy)
theorem minI_mem : ∀ (m : Int) (is : List Int), minI m is ∈ m :: is ∧ ∀ y ∈ m :: is, minI m is ≤ y
  | m, [] => by simp [minI]
  | m, i :: is => by
    by_cases hlt : i < m
    · have ih := minI_mem i is
      simp only [minI, if_pos hlt, List.mem_cons] at ih ⊢
      refine ⟨.inr ih.1, fun y hy => ?_⟩
      have h0 := ih.2 _ (.inl rfl)
      rcases hy with rfl | hy
      · omega
      · exact ih.2 _ hy
    · have ih := minI_mem m is
      simp only [minI, if_neg hlt, List.mem_cons] at ih ⊢
      refine ⟨ih.1.elim .inl fun z => .inr (.inr z), fun y hy => ?_⟩
      have h0 := ih.2 _ (.inl rfl)
      rcases hy with rfl | rfl | hy
      · exact h0
      · omega
      · exact ih.2 _ (.inr hy)
/-! ### len -/
def rLenA (K : PySem.W.Frag) : List V → Hp → VK → Prop := fun xs H Q => (∃ p ys, xs = [.ref p] ∧ (SqL K H p ys ∨ SqT K H p ys) ∧ Q (.int ys.length) H) ∨ ∃ z, xs = [.str z] ∧ z.length ≤ sizeLine ∧ Q (.int z.length) H
theorem cr_len : CallR X (.builtin "len") (rLenA X.K) := call_len_seq.or call_len_str
theorem bs_len {m} : BiS X.K ca (rLenA X.K) (biD .len m) := fun ds μ d μ' h α F H vs Q s r k => by
  match ds, h with
  | [.str x], h =>
    simp only [biD] at h
    split at h
    · cases h
      obtain ⟨v, rfl, r1⟩ := one_read r
      cases r1
      exact .inr ⟨x, rfl, by assumption, k.now s (.int _)⟩
    · cases h
  | [.tup es], h => exact it s k r h
  | [.lst es], h => exact it s k r h
  | [.cell n], h => exact it s k r h
  | [.scr es], h => exact it s k r h
  | [.non], h => simp [biD, items] at h
  | [.bl _], h => simp [biD, items] at h
  | [.int _], h => simp [biD, items] at h
  | [.obj _ _], h => simp [biD, items] at h
  | [], h => simp [biD] at h
  | _ :: _ :: _, h => simp [biD] at h
where
  it {α F H vs μ Q d μ' x} (s : Sim X.K ca α F μ H) (k : Kon X.K ca α F d μ' Q) (r : Reps X.K ca α F vs [x]) (h : (items x μ).map (fun ds => (D.int ds.length, μ)) = some (d, μ')) : rLenA X.K vs H Q := by
    cases e : items x μ with
    | none => rw [e] at h; cases h
    | some ds =>
      rw [e] at h; cases h
      obtain ⟨v, rfl, r1⟩ := one_read r
      obtain ⟨a, ws, rfl, q, rs⟩ := items_read s r1 e
      refine .inl ⟨a, ws, rfl, q, ?_⟩
      rw [rs.1]; exact k.now s (.int _)
theorem pb_len {m} (hm : X.mg "len" = none) (ha : PAd ca Γ X (e :: es) A) (hg : Gl X "len" := by rfl) (he : starEach (e :: es) X.env = (false, eval e X.env) :: starEach es X.env := by rfl) (hpl : (backTo pos (starEach es X.env)).any (·.1) = false := by rfl) : PEd ca Γ X (.Call (.Name "len" p) (e :: es) [] pos) (.bi .len m A) :=
  biB bs_len cr_len hg hm PySem.boot_len ha (by decide) (by decide) he hpl
/-! ### sum, max, min, abs -/
theorem listed_one {K : PySem.W.Frag} {α F H vs μ x ds} (s : Sim K ca α F μ H) (r : Reps K ca α F vs [x]) (h : listed x μ = some ds) : ∃ a ws, vs = [.ref a] ∧ SqL K H a ws ∧ Reps K ca α F ws ds := by
  obtain ⟨v, rfl, r1⟩ := one_read r
  obtain ⟨a, ws, rfl, q, rs⟩ := listed_read s r1 h
  exact ⟨a, ws, rfl, q, rs⟩
theorem bs_sum {m} : BiS X.K ca (rSum X.K) (biD .sum m) := fun ds μ d μ' h α F H vs Q s r k => by
  match ds, h with
  | [x], h =>
    simp only [biD] at h
    cases e : (listed x μ).bind intsD with
    | none => rw [e] at h; cases h
    | some is =>
      rw [e] at h; cases h
      obtain ⟨es, e1, e2⟩ := Option.bind_eq_some_iff.mp e
      obtain ⟨a, ws, rfl, q, rs⟩ := listed_one s r e1
      have := ints_read rs e2; subst this
      exact ⟨a, is, rfl, q, k.now s (.int _)⟩
  | [], h => simp [biD] at h
  | _ :: _ :: _, h => simp [biD] at h
theorem pb_sum {m} (hc : X.calm = true) (hm : X.mg "sum" = none) (ha : PAd ca Γ X (e :: es) A) (hg : Gl X "sum" := by rfl) (he : starEach (e :: es) X.env = (false, eval e X.env) :: starEach es X.env := by rfl) (hpl : (backTo pos (starEach es X.env)).any (·.1) = false := by rfl) : PEd ca Γ X (.Call (.Name "sum" p) (e :: es) [] pos) (.bi .sum m A) :=
  biB bs_sum (cr_sum hc) hg hm (by decide +kernel) ha (by decide) (by decide) he hpl
theorem bs_maxL {m} : BiS X.K ca (rMax X.K) (biD .maxL m) := fun ds μ d μ' h α F H vs Q s r k => by
  match ds, h with
  | [x], h =>
    simp only [biD] at h
    obtain ⟨is, e, h⟩ := Option.bind_eq_some_iff.mp h
    obtain ⟨es, e1, e2⟩ := Option.bind_eq_some_iff.mp e
    obtain ⟨a, ws, rfl, q, rs⟩ := listed_one s r e1
    have := ints_read rs e2; subst this
    cases is with
    | nil => cases h
    | cons i is =>
      cases h
      refine ⟨a, i :: is, rfl, q, by simp, fun j hj hy => ?_⟩
      have := maxI_mem i is
      have e : j = maxI i is := Int.le_antisymm (this.2 _ hj) (hy _ this.1)
      subst e
      exact k.now s (.int _)
  | [], h => simp [biD] at h
  | _ :: _ :: _, h => simp [biD] at h
theorem pb_maxL {m} (hc : X.calm = true) (hm : X.mg "max" = none) (ha : PAd ca Γ X (e :: es) A) (hg : Gl X "max" := by rfl) (he : starEach (e :: es) X.env = (false, eval e X.env) :: starEach es X.env := by rfl) (hpl : (backTo pos (starEach es X.env)).any (·.1) = false := by rfl) : PEd ca Γ X (.Call (.Name "max" p) (e :: es) [] pos) (.bi .maxL m A) :=
  biB bs_maxL (cr_max hc) hg hm (by decide +kernel) ha (by decide) (by decide) he hpl
theorem bs_minL {m} : BiS X.K ca (rMin X.K) (biD .minL m) := fun ds μ d μ' h α F H vs Q s r k => by
  match ds, h with
  | [x], h =>
    simp only [biD] at h
    obtain ⟨is, e, h⟩ := Option.bind_eq_some_iff.mp h
    obtain ⟨es, e1, e2⟩ := Option.bind_eq_some_iff.mp e
    obtain ⟨a, ws, rfl, q, rs⟩ := listed_one s r e1
    have := ints_read rs e2; subst this
    cases is with
    | nil => cases h
    | cons i is =>
      cases h
      refine ⟨a, i :: is, rfl, q, by simp, fun j hj hy => ?_⟩
      have := minI_mem i is
      have e : j = minI i is := Int.le_antisymm (hy _ this.1) (this.2 _ hj)
      subst e
      exact k.now s (.int _)
  | [], h => simp [biD] at h
  | _ :: _ :: _, h => simp [biD] at h
theorem pb_minL {m} (hc : X.calm = true) (hm : X.mg "min" = none) (ha : PAd ca Γ X (e :: es) A) (hg : Gl X "min" := by rfl) (he : starEach (e :: es) X.env = (false, eval e X.env) :: starEach es X.env := by rfl) (hpl : (backTo pos (starEach es X.env)).any (·.1) = false := by rfl) : PEd ca Γ X (.Call (.Name "min" p) (e :: es) [] pos) (.bi .minL m A) :=
  biB bs_minL (cr_min hc) hg hm (by decide +kernel) ha (by decide) (by decide) he hpl
/-- two ints -/
theorem bs_2 {k : Bi} {m} {g : Int → Int → Int} (hb : ∀ ds μ r, biD k m ds μ = some r → ∃ i j, ds = [.int i, .int j] ∧ r = (.int (g i j), μ)) : BiS X.K ca (fun xs H Q => ∃ i j, xs = [.int i, .int j] ∧ Q (.int (g i j)) H) (biD k m) := fun ds μ d μ' h α F H vs Q s r kk => by
  obtain ⟨i, j, rfl, e⟩ := hb _ _ _ h
  cases e
  obtain ⟨v, w, rfl, r1, r2⟩ := two_read r
  cases r1; cases r2
  exact ⟨i, j, rfl, kk.now s (.int _)⟩
theorem pb_max2 {m} (hc : X.calm = true) (hm : X.mg "max" = none) (ha : PAd ca Γ X (e :: es) A) (hg : Gl X "max" := by rfl) (he : starEach (e :: es) X.env = (false, eval e X.env) :: starEach es X.env := by rfl) (hpl : (backTo pos (starEach es X.env)).any (·.1) = false := by rfl) : PEd ca Γ X (.Call (.Name "max" p) (e :: es) [] pos) (.bi .max2 m A) :=
  biB (bs_2 fun ds μ r h => by
    match ds, h with
    | [.int i, .int j], h => simp only [biD, Option.some.injEq] at h; exact ⟨i, j, rfl, h.symm⟩) (call_max2 hc) hg hm (by decide +kernel) ha (by decide) (by decide) he hpl
theorem pb_min2 {m} (hc : X.calm = true) (hm : X.mg "min" = none) (ha : PAd ca Γ X (e :: es) A) (hg : Gl X "min" := by rfl) (he : starEach (e :: es) X.env = (false, eval e X.env) :: starEach es X.env := by rfl) (hpl : (backTo pos (starEach es X.env)).any (·.1) = false := by rfl) : PEd ca Γ X (.Call (.Name "min" p) (e :: es) [] pos) (.bi .min2 m A) :=
  biB (bs_2 fun ds μ r h => by
    match ds, h with
    | [.int i, .int j], h => simp only [biD, Option.some.injEq] at h; exact ⟨i, j, rfl, h.symm⟩) (call_min2 hc) hg hm (by decide +kernel) ha (by decide) (by decide) he hpl
theorem pb_abs {m} (hm : X.mg "abs" = none) (ha : PAd ca Γ X (e :: es) A) (hg : Gl X "abs" := by rfl) (he : starEach (e :: es) X.env = (false, eval e X.env) :: starEach es X.env := by rfl) (hpl : (backTo pos (starEach es X.env)).any (·.1) = false := by rfl) : PEd ca Γ X (.Call (.Name "abs" p) (e :: es) [] pos) (.bi .abs m A) :=
  biB (fun ds μ d μ' h α F H vs Q s r kk => by
    match ds, h with
    | [.int i], h =>
      simp only [biD, Option.some.injEq, Prod.mk.injEq] at h
      obtain ⟨rfl, rfl⟩ := h
      obtain ⟨v, rfl, r1⟩ := one_read r
      cases r1
      exact ⟨i, rfl, kk.now s (.int _)⟩) call_abs hg hm (by decide +kernel) ha (by decide) (by decide) he hpl
theorem pb_int1 {m} (hm : X.mg "int" = none) (ha : PAd ca Γ X (e :: es) A) (hg : Gl X "int" := by rfl) (he : starEach (e :: es) X.env = (false, eval e X.env) :: starEach es X.env := by rfl) (hpl : (backTo pos (starEach es X.env)).any (·.1) = false := by rfl) : PEd ca Γ X (.Call (.Name "int" p) (e :: es) [] pos) (.bi .int1 m A) :=
  biT (fun ds μ d μ' h α F H vs Q s r kk => by
    match ds, h with
    | [.int i], h =>
      simp only [biD, Option.some.injEq, Prod.mk.injEq] at h
      obtain ⟨rfl, rfl⟩ := h
      obtain ⟨v, rfl, r1⟩ := one_read r
      cases r1
      exact .inl ⟨i, rfl, kk.now s (.int _)⟩
    | [.bl i], h =>
      simp only [biD, Option.some.injEq, Prod.mk.injEq] at h
      obtain ⟨rfl, rfl⟩ := h
      obtain ⟨v, rfl, r1⟩ := one_read r
      cases r1
      exact .inr ⟨i, rfl, kk.now s (.int _)⟩) call_int1 hg hm (by decide +kernel) ha (by decide) (by decide) he hpl
/-! ### all, any -/
theorem pb_all {m} (hc : X.calm = true) (hm : X.mg "all" = none) (ha : PAd ca Γ X (e :: es) A) (hg : Gl X "all" := by rfl) (he : starEach (e :: es) X.env = (false, eval e X.env) :: starEach es X.env := by rfl) (hpl : (backTo pos (starEach es X.env)).any (·.1) = false := by rfl) : PEd ca Γ X (.Call (.Name "all" p) (e :: es) [] pos) (.bi .all m A) :=
  biB (fun ds μ d μ' h α F H vs Q s r k => by
    match ds, h with
    | [x], h =>
      simp only [biD] at h
      cases e : (listed x μ).bind bls with
      | none => rw [e] at h; cases h
      | some is =>
        rw [e] at h; cases h
        obtain ⟨es, e1, e2⟩ := Option.bind_eq_some_iff.mp e
        obtain ⟨a, ws, rfl, q, rs⟩ := listed_one s r e1
        have := bls_read rs e2; subst this
        exact ⟨a, is, rfl, q, k.now s (.bl _)⟩) (cr_all hc) hg hm (by decide +kernel) ha (by decide) (by decide) he hpl
theorem pb_any {m} (hc : X.calm = true) (hm : X.mg "any" = none) (ha : PAd ca Γ X (e :: es) A) (hg : Gl X "any" := by rfl) (he : starEach (e :: es) X.env = (false, eval e X.env) :: starEach es X.env := by rfl) (hpl : (backTo pos (starEach es X.env)).any (·.1) = false := by rfl) : PEd ca Γ X (.Call (.Name "any" p) (e :: es) [] pos) (.bi .any m A) :=
  biB (fun ds μ d μ' h α F H vs Q s r k => by
    match ds, h with
    | [x], h =>
      simp only [biD] at h
      cases e : (listed x μ).bind bls with
      | none => rw [e] at h; cases h
      | some is =>
        rw [e] at h; cases h
        obtain ⟨es, e1, e2⟩ := Option.bind_eq_some_iff.mp e
        obtain ⟨a, ws, rfl, q, rs⟩ := listed_one s r e1
        have := bls_read rs e2; subst this
        exact ⟨a, is, rfl, q, k.now s (.bl _)⟩) (cr_any hc) hg hm (by decide +kernel) ha (by decide) (by decide) he hpl
/-! ### list(..), tuple(..), dict(..) -/
theorem pb_list1 {m} (hm : X.mg "list" = none) (ha : PAd ca Γ X (e :: es) A) (hg : Gl X "list" := by rfl) (he : starEach (e :: es) X.env = (false, eval e X.env) :: starEach es X.env := by rfl) (hpl : (backTo pos (starEach es X.env)).any (·.1) = false := by rfl) : PEd ca Γ X (.Call (.Name "list" p) (e :: es) [] pos) (.bi .list1 m A) :=
  biT (fun ds μ d μ' h α F H vs Q s r k => by
    match ds, h with
    | [x], h =>
      simp only [biD] at h
      obtain ⟨es, e, h⟩ := Option.bind_eq_some_iff.mp h
      obtain ⟨v, rfl, r1⟩ := one_read r
      obtain ⟨a, ws, rfl, q, rs⟩ := items_read s r1 e
      exact ⟨a, ws, rfl, q, fun l hl => new_lst s rs h k hl⟩) call_list_of hg hm (by decide +kernel) ha (by decide) (by decide) he hpl
theorem reps_keys {K : PySem.W.Frag} {α F} : ∀ (ks : List Key), Reps K ca α F (ks.map kV) (ks.map dKey)
  | [] => .nil
  | .inl i :: ks => .cons (.int i) (reps_keys ks)
  | .inr x :: ks => .cons (.str x) (reps_keys ks)
theorem pb_listK {m} (hc : X.calm = true) (hm : X.mg "list" = none) (ha : PAd ca Γ X (e :: es) A) (hg : Gl X "list" := by rfl) (he : starEach (e :: es) X.env = (false, eval e X.env) :: starEach es X.env := by rfl) (hpl : (backTo pos (starEach es X.env)).any (·.1) = false := by rfl) : PEd ca Γ X (.Call (.Name "list" p) (e :: es) [] pos) (.bi .listK m A) :=
  biT (fun ds μ d μ' h α F H vs Q s r k => by
    match ds, h with
    | [.cell n], h =>
      simp only [biD] at h
      split at h
      · rename_i kvs e
        obtain ⟨v, rfl, r1⟩ := one_read r
        cases r1 with
        | @cell a _ q =>
          obtain ⟨vs, h1, h2⟩ := s.cel _ _ _ e q
          refine ⟨a, vs, rfl, h1, fun l hl => new_lst s ?_ h k hl⟩
          have := reps_keys (K := X.K) (ca := ca) (α := α) (F := F) (vs.map (·.1))
          rw [List.map_map, h2.1, List.map_map] at this
          exact this
      · cases h) (call_list_dK hc) hg hm (by decide +kernel) ha (by decide) (by decide) he hpl
theorem pb_tuple1 {m} (hm : X.mg "tuple" = none) (ha : PAd ca Γ X (e :: es) A) (hg : Gl X "tuple" := by rfl) (he : starEach (e :: es) X.env = (false, eval e X.env) :: starEach es X.env := by rfl) (hpl : (backTo pos (starEach es X.env)).any (·.1) = false := by rfl) : PEd ca Γ X (.Call (.Name "tuple" p) (e :: es) [] pos) (.bi .tuple1 m A) :=
  biT (fun ds μ d μ' h α F H vs Q s r k => by
    match ds, h with
    | [x], h =>
      simp only [biD] at h
      cases e : listed x μ with
      | none => rw [e] at h; cases h
      | some es =>
        rw [e] at h; cases h
        obtain ⟨a, ws, rfl, q, rs⟩ := listed_one s r e
        exact ⟨a, ws, rfl, .inl ⟨q, fun l hl => new_tup s rs k hl⟩⟩) call_tuple_of hg hm (by decide +kernel) ha (by decide) (by decide) he hpl
def rDictC : List V → Hp → VK → Prop := fun xs H Q => ∃ a kvs, xs = [.ref a] ∧ H a = some (.dK kvs) ∧ ∀ p, H p = none → Q (.ref p) (upd H p (.dK kvs))
theorem cr_dictC : CallR X (.type "dict") rDictC := fun pins s σ H xs us Q I r h => by
  obtain ⟨a, kvs, rfl, ha, q⟩ := h
  cases r with
  | cons r rr =>
    cases rr
    cases r
    exact d_copyOf I (.inl ha) fun p s' hp I' => ⟨.ref p, _, I', rfl, q p hp⟩
theorem pb_dict1 {m} (hm : X.mg "dict" = none) (ha : PAd ca Γ X (e :: es) A) (hg : Gl X "dict" := by rfl) (he : starEach (e :: es) X.env = (false, eval e X.env) :: starEach es X.env := by rfl) (hpl : (backTo pos (starEach es X.env)).any (·.1) = false := by rfl) : PEd ca Γ X (.Call (.Name "dict" p) (e :: es) [] pos) (.bi .dict1 m A) :=
  biT (fun ds μ d μ' h α F H vs Q s r k => by
    match ds, h with
    | [.cell n], h =>
      simp only [biD] at h
      split at h
      · rename_i kvs e
        cases h
        obtain ⟨v, rfl, r1⟩ := one_read r
        cases r1 with
        | @cell a _ q =>
          obtain ⟨vs, h1, h2⟩ := s.cel _ _ _ e q
          refine ⟨a, vs, rfl, h1, fun l hl => ?_⟩
          have x0 : Ext α F (α ++ [l]) F := ⟨⟨[l], rfl⟩, fun _ _ q => q⟩
          obtain ⟨s', x, e⟩ := s.cellNew (o := .dK vs) (c := .dct kvs) hl ⟨vs, upd_same, h2.mono x0⟩
          exact k _ _ _ _ x s' (.cell e)
      · cases h) cr_dictC hg hm (by decide +kernel) ha (by decide) (by decide) he hpl
end
end DP

/-! Rules: joined and repeated lists, list(range(..)), isinstance, methods of lists. -/
namespace DP
open PySem PySem.Spec L2

section
variable {ca : Str → Option Addr} {Γ : Pr} {X : Cx} {a b c e : Expr} {A B C : E} {pos p apos cpos : Pos} {es : List Expr}
theorem pd_cat {m : Bool} (ha : PEd ca Γ X a A) (hb : PEd ca Γ X b B) : PEd ca Γ X (.BinOp a .Add b pos) (.cat m A B) := by
  intro ρ μ d μ' h
  simp only [ev] at h
  obtain ⟨x, μ1, e1, h⟩ := bnd_eq h
  obtain ⟨y, μ2, e2, h⟩ := bnd_eq h
  obtain ⟨ds, e3, h⟩ := Option.bind_eq_some_iff.mp h
  obtain ⟨es, e4, h⟩ := Option.bind_eq_some_iff.mp h
  refine (pe_op op_cat (ha _ _ _ _ e1) (hb _ _ _ _ e2)).mono (op_comb fun α F H v w Q s r1 r2 k => ?_)
  obtain ⟨l, xs, rfl, q1, rs1⟩ := lst_read s r1 e3
  obtain ⟨l', ys, rfl, q2, rs2⟩ := lst_read s r2 e4
  exact ⟨l, l', xs, ys, rfl, rfl, q1, q2, by have := alloc_len h; rw [List.length_append] at this; rw [rs1.1, rs2.1]; exact this, fun p hp => new_lst s (rs1.append rs2) h k hp⟩
theorem reps_rep {K : PySem.W.Frag} {α F} {vs : List V} {ds : List D} (r : Reps K ca α F vs ds) : ∀ n : Nat, Reps K ca α F (List.replicate n vs).flatten (List.replicate n ds).flatten
  | 0 => by simp only [List.replicate_zero, List.flatten_nil]; exact .nil
  | n + 1 => by
    rw [List.replicate_succ, List.replicate_succ, List.flatten_cons, List.flatten_cons]
    exact r.append (reps_rep r n)
theorem pd_rep {m : Bool} (ha : PEd ca Γ X a A) (hb : PEd ca Γ X b B) : PEd ca Γ X (.BinOp a .Mult b pos) (.rep m A B) := by
  intro ρ μ d μ' h
  simp only [ev] at h
  obtain ⟨x, μ1, e1, h⟩ := bnd_eq h
  obtain ⟨y, μ2, e2, h⟩ := bnd_eq h
  obtain ⟨ds, e3, h⟩ := Option.bind_eq_some_iff.mp h
  split at h
  · rename_i k
    split at h
    · rename_i hk
      refine (pe_op op_rep (ha _ _ _ _ e1) (hb _ _ _ _ e2)).mono (op_comb fun α F H v w Q s r1 r2 kk => ?_)
      obtain ⟨l, xs, rfl, q1, rs1⟩ := lst_read s r1 e3
      cases r2
      refine ⟨l, _, xs, rfl, rfl, q1, hk.1, hk.2, ?_, fun p hp => new_lst s (reps_rep rs1 _) h kk hp⟩
      have := alloc_len h
      simp only [List.length_flatten, List.map_replicate, List.sum_replicate_nat] at this
      rw [rs1.1, Nat.mul_comm]; exact this
    · cases h
  · cases h
theorem rgV_reps {K : PySem.W.Frag} {α F} (i j : Int) : Reps K ca α F (rgV i j) ((List.range (j - i).toNat).map fun (k : Nat) => D.int (i + (k : Int))) := by
  unfold rgV
  refine ⟨by simp, fun n v d h1 h2 => ?_⟩
  simp only [List.getElem?_map, List.getElem?_range'] at h1 h2
  cases e : (List.range (j - i).toNat)[n]? with
  | none => rw [e] at h1; cases h1
  | some q => rw [e] at h1 h2; cases h1; cases h2; exact .int _
theorem pb_listR {m : Bool} {p2 pos2 : Pos} (hc : X.calm = true) (hm : X.mg "list" = none) (hm2 : X.mg "range" = none) (ha : PEd ca Γ X a A) (hb : PEd ca Γ X b B) (hg : Gl X "list" := by rfl) (hg2 : Gl X "range" := by rfl)
    (na : starEach [a, b] X.env = (false, eval a X.env) :: starEach [b] X.env := by rfl) (nb : starEach [b] X.env = (false, eval b X.env) :: starEach [] X.env := by rfl) (hp : (backTo pos2 (starEach [b] X.env)).any (·.1) = false := by rfl)
    (nl : starEach [.Call (.Name "range" p2) [a, b] [] pos2] X.env = (false, eval (.Call (.Name "range" p2) [a, b] [] pos2) X.env) :: starEach [] X.env := by rfl) :
    PEd ca Γ X (.Call (.Name "list" p) [.Call (.Name "range" p2) [a, b] [] pos2] [] pos) (.bi .listR m (.cons A (.cons B .nil))) := by
  intro ρ μ d μ' h
  simp only [ev, evs] at h
  obtain ⟨ds, μ1, e1, h⟩ := bnd_eq h
  obtain ⟨x, μ2, e2, e1⟩ := bnd_eq e1
  obtain ⟨xs, μ3, e3, e1⟩ := bnd_eq e1
  obtain ⟨y, μ4, e4, e3⟩ := bnd_eq e3
  simp only [bnd_some, Option.some.injEq, Prod.mk.injEq] at e3
  obtain ⟨rfl, rfl⟩ := e3
  simp only [Option.some.injEq, Prod.mk.injEq] at e1
  obtain ⟨rfl, rfl⟩ := e1
  obtain ⟨i, j, rfl, rfl⟩ : ∃ i j, x = .int i ∧ y = .int j := by
    cases x <;> cases y <;> first | exact ⟨_, _, rfl, rfl⟩ | (simp [biD] at h)
  simp only [biD] at h
  split at h
  · rename_i hb'
    refine (pe_listRg hc hg hm (prg_2 hg2 hm2 (ha _ _ _ _ e2) (hb _ _ _ _ e4) na nb hp) nl).mono fun σ H Q ⟨α, F, s, re, k⟩ =>
      ⟨α, F, s, re, fun v α1 F1 H1 x1 s1 r1 => ⟨α1, F1, s1, re.mono x1, fun w α2 F2 H2 x2 s2 r2 => ?_⟩⟩
    cases r1; cases r2
    exact ⟨i, j, rfl, rfl, hb', fun q hq => new_lst s2 (rgV_reps i j) h (k.ext (x1.trans x2)) hq⟩
  · cases h
/-! ### isinstance of ints and truths -/
theorem pd_isIB {k : Bi} {T : String} (f : D → Option Bool) (hk : ∀ ds μ r, biD k false ds μ = some r → ∃ d b, ds = [d] ∧ f d = some b ∧ r = (.bl b, μ))
    (hf : ∀ d b, f d = some b → (∃ i, d = .int i ∧ kitB "int" T = some b) ∨ ∃ i, d = .bl i ∧ kitB "bool" T = some b)
    (hm : X.mg "isinstance" = none) (ha : PEd ca Γ X a A) (hty : PE X b (tC (.ty T))) (hg : Gl X "isinstance") (he : starEach (a :: [b]) X.env = (false, eval a X.env) :: starEach [b] X.env)
    (hb : starEach (b :: []) X.env = (false, eval b X.env) :: starEach [] X.env) (hpl : (backTo pos (starEach [b] X.env)).any (·.1) = false) :
    PEd ca Γ X (.Call (.Name "isinstance" p) [a, b] [] pos) (.bi k false (.cons A .nil)) := by
  intro ρ μ d μ' h
  simp only [ev, evs] at h
  obtain ⟨ds, μ1, e1, h⟩ := bnd_eq h
  obtain ⟨x, μ2, e2, e1⟩ := bnd_eq e1
  simp only [bnd_some, Option.some.injEq, Prod.mk.injEq] at e1
  obtain ⟨rfl, rfl⟩ := e1
  obtain ⟨d', b', e3, e4, e5⟩ := hk _ _ _ h
  cases e3; cases e5
  refine (pe_callB call_isi hg hm (by decide +kernel) (pa_cons (ha _ _ _ _ e2) (pa_cons hty pa_nil hb) he) (by decide) (by decide) he hpl).mono fun σ H Q ⟨α, F, s, re, kk⟩ =>
    ⟨α, F, s, re, fun v α1 F1 H1 x1 s1 r1 => ?_⟩
  rcases hf _ _ e4 with ⟨i, rfl, hb⟩ | ⟨i, rfl, hb⟩
  · cases r1
    exact ⟨.int i, .ty T, .type "int", .type T, b', rfl, .ty T, .base (.int i), kit_ty hb, (kk.ext x1).now s1 (.bl _)⟩
  · cases r1
    exact ⟨.bl i, .ty T, .type "bool", .type T, b', rfl, .ty T, .base (.bl i), kit_ty hb, (kk.ext x1).now s1 (.bl _)⟩
theorem pd_isInt {p2} (hm : X.mg "isinstance" = none) (hm2 : X.mg "int" = none) (ha : PEd ca Γ X a A) (hg : Gl X "isinstance" := by rfl) (hg2 : Gl X "int" := by rfl) (he : starEach (a :: [.Name "int" p2]) X.env = (false, eval a X.env) :: starEach [.Name "int" p2] X.env := by rfl)
    (hb : starEach (.Name "int" p2 :: []) X.env = (false, eval (.Name "int" p2) X.env) :: starEach [] X.env := by rfl) (hpl : (backTo pos (starEach [.Name "int" p2] X.env)).any (·.1) = false := by rfl) :
    PEd ca Γ X (.Call (.Name "isinstance" p) [a, .Name "int" p2] [] pos) (.bi .isInt false (.cons A .nil)) :=
  pd_isIB (T := "int") (fun d => match d with | .int _ => some true | .bl _ => some true | _ => none) (fun ds μ r h => by
    match ds, h with
    | [.int i], h => simp only [biD, Option.some.injEq] at h; exact ⟨_, true, rfl, rfl, h.symm⟩
    | [.bl i], h => simp only [biD, Option.some.injEq] at h; exact ⟨_, true, rfl, rfl, h.symm⟩) (fun d b h => by
    cases d <;> simp at h
    · subst h; exact .inr ⟨_, rfl, by decide +kernel⟩
    · subst h; exact .inl ⟨_, rfl, by decide +kernel⟩) hm ha (pe_bltn (v := .ty "int") hg2 hm2 (by decide +kernel) rfl) hg he hb hpl
theorem pd_isBool {p2} (hm : X.mg "isinstance" = none) (hm2 : X.mg "bool" = none) (ha : PEd ca Γ X a A) (hg : Gl X "isinstance" := by rfl) (hg2 : Gl X "bool" := by rfl) (he : starEach (a :: [.Name "bool" p2]) X.env = (false, eval a X.env) :: starEach [.Name "bool" p2] X.env := by rfl)
    (hb : starEach (.Name "bool" p2 :: []) X.env = (false, eval (.Name "bool" p2) X.env) :: starEach [] X.env := by rfl) (hpl : (backTo pos (starEach [.Name "bool" p2] X.env)).any (·.1) = false := by rfl) :
    PEd ca Γ X (.Call (.Name "isinstance" p) [a, .Name "bool" p2] [] pos) (.bi .isBool false (.cons A .nil)) :=
  pd_isIB (T := "bool") (fun d => match d with | .int _ => some false | .bl _ => some true | _ => none) (fun ds μ r h => by
    match ds, h with
    | [.int i], h => simp only [biD, Option.some.injEq] at h; exact ⟨_, false, rfl, rfl, h.symm⟩
    | [.bl i], h => simp only [biD, Option.some.injEq] at h; exact ⟨_, true, rfl, rfl, h.symm⟩) (fun d b h => by
    cases d <;> simp at h
    · subst h; exact .inr ⟨_, rfl, by decide +kernel⟩
    · subst h; exact .inl ⟨_, rfl, by decide +kernel⟩) hm ha (pe_bltn (v := .ty "bool") hg2 hm2 (by decide +kernel) rfl) hg he hb hpl
/-- what a class must have for isinstance -/
structure IsiC (K : PySem.W.Frag) (c : Addr) : Prop where
  cl : Cls K c
  ha : PySem.W.findIn K (.ref c) "__class__" = some (some (.builtin "object.__class__"))
  hn : PySem.W.specialIn K (.builtin "object.__class__") "__get__" = some (some (.builtin "getset_descriptor.__get__"))
  htk : PySem.W.takesIn K (.builtin "object.__class__") = some true
  hm : PySem.W.mroIn K c (.type "object") = some true
theorem ins_at {K : PySem.W.Frag} {α F H μ x v C'} (s : Sim K ca α F μ H) (r : Rep K ca α F v x) (h : cls x μ = some C') : ∃ a c dx fs, v = .ref a ∧ ca C' = some c ∧ H a = some (.ins c dx fs) := by
  cases r with
  | @obj a C c dx fs gs vv q1 q2 => simp [cls] at h; subst h; exact ⟨a, c, dx, fs, rfl, q1, s.sub _ _ q2⟩
  | @cell a n q =>
    simp only [cls] at h
    split at h
    · rename_i C gs hn
      cases h
      obtain ⟨c, dx, fs, p1, p2, _⟩ := s.cel _ _ _ hn q
      exact ⟨a, c, dx, fs, rfl, p1, p2⟩
    · cases h
  | _ => simp [cls] at h
theorem pd_isi {C : Str} {cc : Addr} {p2} (hm : X.mg "isinstance" = none) (hC : X.mg C = some (.ref cc)) (hi : ∀ C' c, ca C' = some c → IsiC X.K c ∧ PySem.W.kitOne X.K (.ref c) (.ref cc) = some (decide (C' = C))) (ha : PEd ca Γ X a A)
    (hg : Gl X "isinstance" := by rfl) (hg2 : Gl X C := by rfl) (hdb : (C == ("__debug__" : Str)) = false := by decide) (he : starEach (a :: [.Name C p2]) X.env = (false, eval a X.env) :: starEach [.Name C p2] X.env := by rfl)
    (hb : starEach (.Name C p2 :: []) X.env = (false, eval (.Name C p2) X.env) :: starEach [] X.env := by rfl) (hpl : (backTo pos (starEach [.Name C p2] X.env)).any (·.1) = false := by rfl) :
    PEd ca Γ X (.Call (.Name "isinstance" p) [a, .Name C p2] [] pos) (.isi A C) := by
  intro ρ μ d μ' h
  simp only [ev] at h
  obtain ⟨x, μ1, e1, h⟩ := bnd_eq h
  cases e : cls x μ1 with
  | none => rw [e] at h; cases h
  | some C' =>
    rw [e] at h; cases h
    refine (pe_callB call_isi hg hm (by decide +kernel) (pa_cons (ha _ _ _ _ e1) (pa_cons (pe_glob (v := .ref cc) hg2 hC rfl hdb) pa_nil hb) he) (by decide) (by decide) he hpl).mono fun σ H Q ⟨α, F, s, re, kk⟩ =>
      ⟨α, F, s, re, fun v α1 F1 H1 x1 s1 r1 => ?_⟩
    obtain ⟨a', c, dx, fs, rfl, hc, ho⟩ := ins_at s1 r1 e
    obtain ⟨I, hk⟩ := hi _ _ hc
    exact ⟨.ref a', .ref cc, .ref c, .ref cc, _, rfl, .own cc, .base (.ins ho I.cl I.ha I.hn I.htk I.hm), hk, (kk.ext x1).now s1 (.bl _)⟩
/-! ### methods of lists -/
theorem ty_list {K : PySem.W.Frag} {H a xs} (h : H a = some (.lst xs)) : tyV K "list" (.ref a) H := .inl ⟨rfl, xs, SqL.of h⟩
theorem cel_lst {K : PySem.W.Frag} {α F H μ n ds v} (s : Sim K ca α F μ H) (r : Rep K ca α F v (.cell n)) (h : μ[n]? = some (.lst ds)) : ∃ a vs, v = .ref a ∧ α[n]? = some a ∧ H a = some (.lst vs) ∧ Reps K ca α F vs ds := by
  cases r with
  | @cell a _ q => obtain ⟨vs, h1, h2⟩ := s.cel _ _ _ h q; exact ⟨a, vs, rfl, q, h1, h2⟩
theorem mt_of {k : Bi} {name : Str} {id : String} {r} (hs : ∀ x ds μ d μ', biD k false (x :: ds) μ = some (d, μ') → ∀ α F H v vs Q, Sim X.K ca α F μ H → Rep X.K ca α F v x → Reps X.K ca α F vs ds → Kon X.K ca α F d μ' Q → r v vs H Q)
    (slot : Slot "list" name id) (hty : typeOf (.builtin id) = pure (.type "method_descriptor")) (hm : MtR X id r) (ha : PEd ca Γ X a A) (he : PAd ca Γ X (e :: es) B) (hbase : attributeBase a name X.env (eval a X.env) = eval a X.env)
    (hfew : ((backTo cpos (starEach (e :: es) X.env)).all (fun x => !x.1) && (backToKw cpos (keywordEach [] X.env)).all (fun x => x.1.isSome) && decide ((e :: es).length + ([] : List Keyword).length + (if ([] : List Keyword).isEmpty then 0 else 1) < 30)) = true)
    (hline : (apos.endLine == cpos.line) = true) (hst : starEach (e :: es) X.env = (false, eval e X.env) :: starEach es X.env) (hplain : (backTo cpos (starEach es X.env)).any (·.1) = false) :
    PEd ca Γ X (.Call (.Attribute a name apos) (e :: es) [] cpos) (.mt k A B) := by
  intro ρ μ d μ' h
  simp only [ev] at h
  obtain ⟨x, μ1, e1, h⟩ := bnd_eq h
  split at h
  · rename_i hl
    obtain ⟨ds, μ2, e2, h⟩ := bnd_eq h
    obtain ⟨xs, hxs⟩ := Option.isSome_iff_exists.mp hl
    refine (pe_bm PySem.F.plainAttrs_list slot hty hm (ha _ _ _ _ e1) (he _ _ _ _ e2) hbase hfew hline hst hplain).mono fun σ H Q ⟨α, F, s, re, k⟩ =>
      ⟨α, F, s, re, fun v α1 F1 H1 x1 s1 r1 => ⟨?_, α1, F1, s1, re.mono x1, fun vs α2 F2 H2 x2 s2 r2 => hs _ _ _ _ _ h α2 F2 H2 v vs Q s2 (r1.mono x2) r2 (k.ext (x1.trans x2))⟩⟩
    obtain ⟨a', vs, rfl, q, _⟩ := listed_read s1 r1 hxs
    exact .inl ⟨rfl, vs, q⟩
  · cases h
theorem mt_of0 {k : Bi} {name : Str} {id : String} {r} (hs : ∀ x μ d μ', biD k false [x] μ = some (d, μ') → ∀ α F H v Q, Sim X.K ca α F μ H → Rep X.K ca α F v x → Kon X.K ca α F d μ' Q → r v [] H Q)
    (slot : Slot "list" name id) (hty : typeOf (.builtin id) = pure (.type "method_descriptor")) (hm : MtR X id r) (ha : PEd ca Γ X a A) (hbase : attributeBase a name X.env (eval a X.env) = eval a X.env) (hline : (apos.endLine == cpos.line) = true) :
    PEd ca Γ X (.Call (.Attribute a name apos) [] [] cpos) (.mt k A .nil) := by
  intro ρ μ d μ' h
  simp only [ev] at h
  obtain ⟨x, μ1, e1, h⟩ := bnd_eq h
  split at h
  · rename_i hl
    simp only [evs, bnd_some] at h
    obtain ⟨xs, hxs⟩ := Option.isSome_iff_exists.mp hl
    refine (pe_bm0 PySem.F.plainAttrs_list slot hty hm (ha _ _ _ _ e1) hbase hline).mono fun σ H Q ⟨α, F, s, re, k⟩ =>
      ⟨α, F, s, re, fun v α1 F1 H1 x1 s1 r1 => ⟨?_, hs _ _ _ _ h α1 F1 H1 v Q s1 r1 (k.ext x1)⟩⟩
    obtain ⟨a', vs, rfl, q, _⟩ := listed_read s1 r1 hxs
    exact .inl ⟨rfl, vs, q⟩
  · cases h
theorem wr_lst {K : PySem.W.Frag} {α F H μ n a ds ds' d Q} {vs' : List V} (s : Sim K ca α F μ H) (hn : μ[n]? = some (.lst ds)) (ha : α[n]? = some a) (rs : Reps K ca α F vs' ds') {v : V} (rd : Rep K ca α F v d) (k : Kon K ca α F d (μ.set n (.lst ds')) Q) : Q v (upd H a (.lst vs')) :=
  k _ _ _ _ (Ext.refl _ _) (s.write hn (fun z => nomatch z) ha ⟨vs', upd_same, rs⟩ (fun z => nomatch z)) rd
theorem pm_append (ha : PEd ca Γ X a A) (he : PAd ca Γ X (e :: es) B) (hbase : attributeBase a "append" X.env (eval a X.env) = eval a X.env := by rfl)
    (hfew : ((backTo cpos (starEach (e :: es) X.env)).all (fun x => !x.1) && (backToKw cpos (keywordEach [] X.env)).all (fun x => x.1.isSome) && decide ((e :: es).length + ([] : List Keyword).length + (if ([] : List Keyword).isEmpty then 0 else 1) < 30)) = true := by rfl)
    (hline : (apos.endLine == cpos.line) = true := by rfl) (hst : starEach (e :: es) X.env = (false, eval e X.env) :: starEach es X.env := by rfl) (hplain : (backTo cpos (starEach es X.env)).any (·.1) = false := by rfl) :
    PEd ca Γ X (.Call (.Attribute a "append" apos) (e :: es) [] cpos) (.mt .append A B) :=
  mt_of (r := rAppend) (fun x ds μ d μ' h α F H v vs Q s r1 r2 k => by
    match x, ds, h with
    | .cell n, [y], h =>
      simp only [biD] at h
      split at h
      · rename_i es hn
        split at h
        · rename_i hl
          cases h
          obtain ⟨a', ws, rfl, hα, h1, rs⟩ := cel_lst s r1 hn
          obtain ⟨w, rfl, r3⟩ := one_read r2
          exact ⟨a', ws, w, rfl, rfl, h1, by rw [rs.1]; exact hl, wr_lst s hn hα (rs.append (.cons r3 .nil)) .non k⟩
        · cases h
      · cases h) PySem.F.slot_list_append PySem.F.type_list_append mt_append ha he hbase hfew hline hst hplain
theorem reps_dropLast {K : PySem.W.Frag} {α F} {vs : List V} {ds : List D} (r : Reps K ca α F vs ds) : Reps K ca α F vs.dropLast ds.dropLast := by
  rw [List.dropLast_eq_take, List.dropLast_eq_take, r.1]; exact r.take _
theorem pm_pop (ha : PEd ca Γ X a A) (hbase : attributeBase a "pop" X.env (eval a X.env) = eval a X.env := by rfl) (hline : (apos.endLine == cpos.line) = true := by rfl) :
    PEd ca Γ X (.Call (.Attribute a "pop" apos) [] [] cpos) (.mt .pop A .nil) :=
  mt_of0 (r := rPop) (fun x μ d μ' h α F H v Q s r1 k => by
    match x, h with
    | .cell n, h =>
      simp only [biD] at h
      split at h
      · rename_i es hn
        cases e : es[es.length - 1]? with
        | none => rw [e] at h; cases h
        | some y =>
          rw [e] at h; cases h
          obtain ⟨a', ws, rfl, hα, h1, rs⟩ := cel_lst s r1 hn
          obtain ⟨w, h2, r3⟩ := rs.get e
          exact ⟨a', ws, w, rfl, rfl, h1, by rw [rs.1]; exact h2, wr_lst s hn hα (reps_dropLast rs) r3 k⟩
      · cases h) PySem.F.slot_list_pop PySem.F.type_list_pop mt_pop ha hbase hline
theorem pm_pop0 (ha : PEd ca Γ X a A) (he : PAd ca Γ X (e :: es) B) (hbase : attributeBase a "pop" X.env (eval a X.env) = eval a X.env := by rfl)
    (hfew : ((backTo cpos (starEach (e :: es) X.env)).all (fun x => !x.1) && (backToKw cpos (keywordEach [] X.env)).all (fun x => x.1.isSome) && decide ((e :: es).length + ([] : List Keyword).length + (if ([] : List Keyword).isEmpty then 0 else 1) < 30)) = true := by rfl)
    (hline : (apos.endLine == cpos.line) = true := by rfl) (hst : starEach (e :: es) X.env = (false, eval e X.env) :: starEach es X.env := by rfl) (hplain : (backTo cpos (starEach es X.env)).any (·.1) = false := by rfl) :
    PEd ca Γ X (.Call (.Attribute a "pop" apos) (e :: es) [] cpos) (.mt .pop0 A B) :=
  mt_of (r := rPopAt) (fun x ds μ d μ' h α F H v vs Q s r1 r2 k => by
    match x, ds, h with
    | .cell n, [.int i], h =>
      simp only [biD] at h
      split at h
      · rename_i es hn
        split at h
        · rename_i hl
          obtain ⟨j, e3, h⟩ := Option.bind_eq_some_iff.mp h
          cases e : es[j]? with
          | none => rw [e] at h; cases h
          | some y =>
            rw [e] at h; cases h
            obtain ⟨a', ws, rfl, hα, h1, rs⟩ := cel_lst s r1 hn
            obtain ⟨w, rfl, r3⟩ := one_read r2
            cases r3
            obtain ⟨w', h2, r4⟩ := rs.get e
            exact ⟨a', ws, i, j, w', rfl, rfl, h1, hl.1, hl.2, by rw [rs.1]; exact e3, h2, wr_lst s hn hα (rs.eraseIdx j) r4 k⟩
        · cases h
      · cases h) PySem.F.slot_list_pop PySem.F.type_list_pop mt_popAt ha he hbase hfew hline hst hplain
theorem pm_index (ha : PEd ca Γ X a A) (he : PAd ca Γ X (e :: es) B) (hbase : attributeBase a "index" X.env (eval a X.env) = eval a X.env := by rfl)
    (hfew : ((backTo cpos (starEach (e :: es) X.env)).all (fun x => !x.1) && (backToKw cpos (keywordEach [] X.env)).all (fun x => x.1.isSome) && decide ((e :: es).length + ([] : List Keyword).length + (if ([] : List Keyword).isEmpty then 0 else 1) < 30)) = true := by rfl)
    (hline : (apos.endLine == cpos.line) = true := by rfl) (hst : starEach (e :: es) X.env = (false, eval e X.env) :: starEach es X.env := by rfl) (hplain : (backTo cpos (starEach es X.env)).any (·.1) = false := by rfl) :
    PEd ca Γ X (.Call (.Attribute a "index" apos) (e :: es) [] cpos) (.mt .index A B) :=
  mt_of (r := rIndex X.K) (fun x ds μ d μ' h α F H v vs Q s r1 r2 k => by
    match ds, h with
    | [y], h =>
      simp only [biD] at h
      obtain ⟨es, e3, h⟩ := Option.bind_eq_some_iff.mp h
      split at h
      · rename_i hf
        simp only [Bool.and_eq_true] at hf
        cases e : es.findIdx? (fun z => eqF z y) with
        | none => rw [e] at h; cases h
        | some i =>
          rw [e] at h; cases h
          obtain ⟨a', ws, rfl, q, rs⟩ := listed_read s r1 e3
          obtain ⟨w, rfl, r3⟩ := one_read r2
          obtain ⟨h1, h2⟩ := rep_flat r3 hf.1
          obtain ⟨h3, h4⟩ := reps_flat rs hf.2
          obtain ⟨hi, hz, hno⟩ := List.findIdx?_eq_some_iff_getElem.mp e
          subst h1 h3
          refine ⟨a', _, _, i, (es[i]).toV, rfl, rfl, q, h2, h4, by simp [hi], hz, fun m z' hm hz' => ?_, k.now s (.int _)⟩
          rw [List.getElem?_map] at hz'
          cases e5 : es[m]? with
          | none => rw [e5] at hz'; cases hz'
          | some u =>
            rw [e5] at hz'; cases hz'
            have hml : m < es.length := (List.getElem?_eq_some_iff.mp e5).1
            have := hno m hm
            have e6 : es[m] = u := by have := (List.getElem?_eq_some_iff.mp e5).2; exact this
            simp only [eqF] at this
            rw [e6] at this
            cases hq : eqV u.toV y.toV with
            | false => rfl
            | true => exact absurd hq (by simpa using this)
      · cases h) PySem.F.slot_list_index PySem.F.type_list_index mt_index ha he hbase hfew hline hst hplain
end
end DP

/-! Rules: calls of defs, methods, classes. -/
namespace DP
open PySem PySem.Spec L2

/-- what a def promises that does f to data -/
def spD (K : PySem.W.Frag) (ca : Str → Option Addr) (f : List D → Sto → Option (D × Sto)) (n : Nat) : Sp := fun vs H Q _ =>
  vs.length = n ∧ ∃ α F μ ds r μ', Sim K ca α F μ H ∧ Reps K ca α F vs ds ∧ f ds μ = some (r, μ') ∧ Kon K ca α F r μ' Q
/-- how a call binds: n positional values, keywords ks, the constants that fill up -/
def BindOf (K : PySem.W.Frag) (fd : FuncData) (ps : List Str) (n : Nat) (ks : List Str) (dds : List D) : Prop :=
  ∃ (dvs : List V) (dus : List Value), Vals dvs dus ∧ (∀ ca α F, Reps K ca α F dvs dds) ∧ n + (ks.length + dds.length) = ps.length ∧ ∀ (s : Shared) (us ws : List Value), K.In s.heap → us.length = n → ws.length = ks.length → BindsTo s fd ⟨us, ks.zip ws⟩ (ps.zip (us ++ (ws ++ dus)))
section
variable {ca : Str → Option Addr} {Γ : Pr} {X : Cx} {a b c e o : Expr} {A B C : E} {pos p apos : Pos} {es : List Expr} {kws : List Keyword} {k : Nat} {f : Addr} {fd : FuncData} {ps ks : List Str} {dds : List D}
/-- the arguments: positional ones, keywords, what fills up -/
def PArgs (ca : Str → Option Addr) (Γ : Pr) (X : Cx) (es : List Expr) (kws : List Keyword) (dds : List D) (A : E) : Prop := ∀ ρ μ ds μ', evs Γ A ρ μ = some (ds, μ') →
  ∃ ds1 ds2 μ1, ds = ds1 ++ (ds2 ++ dds) ∧ ds1.length = es.length ∧ ds2.length = kws.length ∧ PA X es (tDs X.K ca ρ μ ds1 μ1) ∧ PK X kws (tDs X.K ca ρ μ1 ds2 μ')
def constE : List D → E
  | [] => .nil
  | d :: ds => .cons (.c d) (constE ds)
theorem evs_const (ρ : Rho) (μ : Sto) : ∀ ds : List D, evs Γ (constE ds) ρ μ = some (ds, μ)
  | [] => by simp [constE, evs]
  | d :: ds => by simp [constE, evs, ev, evs_const ρ μ ds]
theorem pk_nilD {ρ : Rho} {μ : Sto} : PK X [] (tDs X.K ca ρ μ [] μ) := pk_nil.mono fun σ H Q ⟨α, F, s, re, k⟩ => k [] α F H (Ext.refl _ _) s .nil
theorem pa_nilD {ρ : Rho} {μ : Sto} : PA X [] (tDs X.K ca ρ μ [] μ) := pa_nil.mono fun σ H Q ⟨α, F, s, re, k⟩ => k [] α F H (Ext.refl _ _) s .nil
def PKw (ca : Str → Option Addr) (Γ : Pr) (X : Cx) (kws : List Keyword) (dds : List D) (A : E) : Prop := ∀ ρ μ ds μ', evs Γ A ρ μ = some (ds, μ') →
  ∃ ds2, ds = ds2 ++ dds ∧ ds2.length = kws.length ∧ PK X kws (tDs X.K ca ρ μ ds2 μ')
theorem kw_d (dds : List D) : PKw ca Γ X [] dds (constE dds) := fun ρ μ ds μ' h => by
  rw [evs_const] at h
  cases h
  exact ⟨[], rfl, rfl, pk_nilD⟩
theorem kw_0 : PKw ca Γ X [] [] .nil := kw_d []
theorem kw_1 {d : D} : PKw ca Γ X [] [d] (.cons (.c d) .nil) := kw_d [d]
theorem kw_2 {d d' : D} : PKw ca Γ X [] [d, d'] (.cons (.c d) (.cons (.c d') .nil)) := kw_d [d, d']
theorem kw_c {nm : Option Str} {kpos : Pos} (he : PEd ca Γ X e A) (h : PKw ca Γ X kws dds B) : PKw ca Γ X (⟨nm, e, kpos⟩ :: kws) dds (.cons A B) := fun ρ μ ds μ' h' => by
  simp only [evs] at h'
  obtain ⟨x, μ1, e1, h'⟩ := bnd_eq h'
  obtain ⟨xs, μ2, e2, h'⟩ := bnd_eq h'
  cases h'
  obtain ⟨ds2, rfl, l2, hk⟩ := h _ _ _ _ e2
  refine ⟨x :: ds2, rfl, by simp [l2], ?_⟩
  exact (pk_cons (he _ _ _ _ e1) hk).mono fun σ H Q ⟨α, F, s, re, k⟩ =>
    ⟨α, F, s, re, fun v α1 F1 H1 x1 s1 r1 => ⟨α1, F1, s1, re.mono x1, fun vs α2 F2 H2 x2 s2 r2 => k (v :: vs) α2 F2 H2 (x1.trans x2) s2 (.cons (r1.mono x2) r2)⟩⟩
theorem ag_n (h : PKw ca Γ X kws dds B) : PArgs ca Γ X [] kws dds B := fun ρ μ ds μ' h' => by
  obtain ⟨ds2, rfl, l2, hk⟩ := h _ _ _ _ h'
  exact ⟨[], ds2, μ, rfl, rfl, l2, pa_nilD, hk⟩
theorem ag_c (he : PEd ca Γ X e A) (h : PArgs ca Γ X es kws dds B) (hs : starEach (e :: es) X.env = (false, eval e X.env) :: starEach es X.env := by rfl) : PArgs ca Γ X (e :: es) kws dds (.cons A B) := fun ρ μ ds μ' h' => by
  simp only [evs] at h'
  obtain ⟨x, μ1, e1, h'⟩ := bnd_eq h'
  obtain ⟨xs, μ2, e2, h'⟩ := bnd_eq h'
  cases h'
  obtain ⟨ds1, ds2, μ3, rfl, l1, l2, hp, hk⟩ := h _ _ _ _ e2
  refine ⟨x :: ds1, ds2, μ3, rfl, by simp [l1], l2, ?_, hk⟩
  exact (pa_cons (he _ _ _ _ e1) hp hs).mono fun σ H Q ⟨α, F, s, re, k⟩ =>
    ⟨α, F, s, re, fun v α1 F1 H1 x1 s1 r1 => ⟨α1, F1, s1, re.mono x1, fun vs α2 F2 H2 x2 s2 r2 => k (v :: vs) α2 F2 H2 (x1.trans x2) s2 (.cons (r1.mono x2) r2)⟩⟩
/-- .. without keywords -/
def PAdd (ca : Str → Option Addr) (Γ : Pr) (X : Cx) (es : List Expr) (dds : List D) (A : E) : Prop := ∀ ρ μ ds μ', evs Γ A ρ μ = some (ds, μ') →
  ∃ ds1, ds = ds1 ++ dds ∧ ds1.length = es.length ∧ PA X es (tDs X.K ca ρ μ ds1 μ')
theorem ad_d (dds : List D) : PAdd ca Γ X [] dds (constE dds) := fun ρ μ ds μ' h => by
  rw [evs_const] at h
  cases h
  exact ⟨[], rfl, rfl, pa_nilD⟩
theorem ad_0 : PAdd ca Γ X [] [] .nil := ad_d []
theorem ad_1 {d : D} : PAdd ca Γ X [] [d] (.cons (.c d) .nil) := ad_d [d]
theorem ad_2 {d d' : D} : PAdd ca Γ X [] [d, d'] (.cons (.c d) (.cons (.c d') .nil)) := ad_d [d, d']
theorem ad_c (he : PEd ca Γ X e A) (h : PAdd ca Γ X es dds B) (hs : starEach (e :: es) X.env = (false, eval e X.env) :: starEach es X.env := by rfl) : PAdd ca Γ X (e :: es) dds (.cons A B) := fun ρ μ ds μ' h' => by
  simp only [evs] at h'
  obtain ⟨x, μ1, e1, h'⟩ := bnd_eq h'
  obtain ⟨xs, μ2, e2, h'⟩ := bnd_eq h'
  cases h'
  obtain ⟨ds1, rfl, l1, hp⟩ := h _ _ _ _ e2
  refine ⟨x :: ds1, rfl, by simp [l1], ?_⟩
  exact (pa_cons (he _ _ _ _ e1) hp hs).mono fun σ H Q ⟨α, F, s, re, k⟩ =>
    ⟨α, F, s, re, fun v α1 F1 H1 x1 s1 r1 => ⟨α1, F1, s1, re.mono x1, fun vs α2 F2 H2 x2 s2 r2 => k (v :: vs) α2 F2 H2 (x1.trans x2) s2 (.cons (r1.mono x2) r2)⟩⟩
/-- the callee runs -/
theorem run_fnG {sp : Sp} {pins : List (Addr × Obj)} {σ : L2.St} {H : Hp} {s : Shared} {Q : VK} {us bs : List Value} {vs : List V} {kw : List (Str × Value)} (F : FnOk X.prog X.w X.K X.mg X.base CX0 k f fd ps sp) (hr : Room k X.A) (hb : BindsTo s fd ⟨us, kw⟩ (ps.zip bs))
    (I : L2.Inv X pins σ H s) (r : Vals vs bs) (h : sp vs H Q E0) : wpAny (model X.prog X.w) X.A (call (.ref f) us kw) (EP X pins σ Q) X.xe s := by
  refine wpAny_call (codeAny_mono (F.run X.A X.stack s H ⟨us, kw⟩ bs vs Q E0 hr I.env0 hb r h) fun r s' hq => ?_)
  cases r with
  | error e => exact False.elim hq
  | ok fl =>
    cases fl with
    | ret u => exact I.after hq
    | next => exact False.elim hq
    | brk => exact False.elim hq
    | cont => exact False.elim hq
/-- behind the arguments -/
theorem args_run {g : List D → Sto → Option (D × Sto)} {pins : List (Addr × Obj)} {σ : L2.St} {H : Hp} {s : Shared} {Q : VK} {first us ws : List Value} {fvs vs zs : List V} {α F μ fds ds1 ds2 d μ'}
    (G : FnOk X.prog X.w X.K X.mg X.base CX0 k f fd ps (spD X.K ca g ps.length)) (hr : Room k X.A) (hb : BindOf X.K fd ps (fds.length + ds1.length) ks dds) (hk : ds2.length = ks.length)
    (I : L2.Inv X pins σ H s) (rf : Vals fvs first) (r1 : Vals vs us) (r2 : Vals zs ws) (sm : Sim X.K ca α F μ H) (q0 : Reps X.K ca α F fvs fds) (q1 : Reps X.K ca α F vs ds1) (q2 : Reps X.K ca α F zs ds2) (e : g (fds ++ (ds1 ++ (ds2 ++ dds))) μ = some (d, μ')) (kk : Kon X.K ca α F d μ' Q) :
    wpAny (model X.prog X.w) X.A (call (.ref f) (first ++ us) (ks.zip ws)) (EP X pins σ Q) X.xe s := by
  obtain ⟨dvs, dus, rd, qd, hl, hbt⟩ := hb
  have l1 : (first ++ us).length = fds.length + ds1.length := by rw [List.length_append, ← rf.length, ← r1.length, q0.1, q1.1]
  have l2 : ws.length = ks.length := by rw [← r2.length, q2.1, hk]
  have rv : Vals ((fvs ++ vs) ++ (zs ++ dvs)) ((first ++ us) ++ (ws ++ dus)) := (rf.append r1).append (r2.append rd)
  refine run_fnG (vs := (fvs ++ vs) ++ (zs ++ dvs)) G hr (hbt s _ _ I.kIn l1 l2) I rv ⟨?_, α, F, μ, (fds ++ ds1) ++ (ds2 ++ dds), d, μ', sm, (q0.append q1).append (q2.append (qd ca α F)), by rw [List.append_assoc]; exact e, kk⟩
  rw [List.length_append, List.length_append, List.length_append, q0.1, q1.1, q2.1, (qd ca α F).1, hk]; omega

/-! ### defs of the module -/
structure FnI (P : Program) (w : World) (K : PySem.W.Frag) (mg : Str → Option Value) (base : Heap) (ca : Str → Option Addr) (k : Nat) (x : Str) (g : List D → Sto → Option (D × Sto)) (n : Nat) (ks : List Str) (dds : List D) : Prop where
  ex : ∃ f fd ps, FnOk P w K mg base CX0 k f fd ps (spD K ca g ps.length) ∧ mg x = some (.ref f) ∧ PySem.W.keepIn K (.ref f) = true ∧ BindOf K fd ps n ks dds
/-- what stands behind a step of arguments -/
def Got (K : PySem.W.Frag) (ca : Str → Option Addr) (α : List Addr) (F : Hp) (ds : List D) (μ' : Sto) (vs : List V) (H1 : Hp) : Prop := ∃ α1 F1, Ext α F α1 F1 ∧ Sim K ca α1 F1 μ' H1 ∧ Reps K ca α1 F1 vs ds
theorem tDs_got {K : PySem.W.Frag} {ρ μ ds μ' σ H α F} (s : Sim K ca α F μ H) (re : RE K ca α F σ ρ) : tDs K ca ρ μ ds μ' σ H (Got K ca α F ds μ') := ⟨α, F, s, re, fun vs α1 F1 H1 x1 s1 r1 => ⟨α1, F1, x1, s1, r1⟩⟩
theorem pd_call {x : Str} {n : Nat} (G : FnI X.prog X.w X.K X.mg X.base ca k x (Γ.call x) n [] dds) (hr : Room k X.A) (ha : PAdd ca Γ X (e :: es) dds A) (hn : (e :: es).length = n := by rfl) (hg : Gl X x := by rfl)
    (hdb : (x == ("__debug__" : Str)) = false := by decide) (he : starEach (e :: es) X.env = (false, eval e X.env) :: starEach es X.env := by rfl) (hpl : (backTo pos (starEach es X.env)).any (·.1) = false := by rfl) :
    PEd ca Γ X (.Call (.Name x p) (e :: es) [] pos) (.call x A) := by
  obtain ⟨f, fd, ps, G, hm, hk, hb⟩ := G.ex
  intro ρ μ d μ' h
  simp only [ev] at h
  obtain ⟨ds, μ1, e1, h⟩ := bnd_eq h
  obtain ⟨ds1, rfl, l1, hp⟩ := ha _ _ _ _ e1
  refine ⟨fun pins s σ H Q I ⟨α, F, sm, re, kk⟩ => ?_⟩
  refine wpAny_Call_Name_kw (ld_glob I hg hm ?_ hdb)
  refine PySem.W.callWith_K (h₀ := X.base) I.ok.mod.kin hk (thn (hp.run pos pins s σ H _ I (tDs_got sm re)) fun us s1 ⟨vs, H1, I1, r, α1, F1, x1, s1', q⟩ => ⟨I1.kIn, ?_⟩) he hpl
  have := args_run (first := []) (fvs := []) (fds := []) (zs := []) (ws := []) (ks := []) (ds2 := []) G hr (by rw [← hn, ← l1] at hb; simpa using hb) rfl I1 .nil r .nil s1' .nil q .nil (by simpa using h) (kk.ext x1)
  simpa using this
/-! ### f(e, .., k = v) -/
theorem pd_callK {x : Str} {n : Nat} (G : FnI X.prog X.w X.K X.mg X.base ca k x (Γ.call x) n ks dds) (hr : Room k X.A) (ha : PArgs ca Γ X (e :: es) kws dds A) (hn : (e :: es).length = n := by rfl) (hkl : kws.length = ks.length := by rfl) (hg : Gl X x := by rfl)
    (hall : (backToKw pos (keywordEach kws X.env)).all (·.1.isSome) = true := by rfl) (hks : (backToKw pos (keywordEach kws X.env)).filterMap (·.1) = ks := by rfl)
    (hdb : (x == ("__debug__" : Str)) = false := by decide) (he : starEach (e :: es) X.env = (false, eval e X.env) :: starEach es X.env := by rfl)
    (hpl : ((backTo pos (starEach (e :: es) X.env)).any (·.1) || (backToKw pos (keywordEach kws X.env)).any (·.1.isNone)) = false := by rfl) :
    PEd ca Γ X (.Call (.Name x p) (e :: es) kws pos) (.call x A) := by
  obtain ⟨f, fd, ps, G, hm, hk, hb⟩ := G.ex
  intro ρ μ d μ' h
  simp only [ev] at h
  obtain ⟨ds, μ1, e1, h⟩ := bnd_eq h
  obtain ⟨ds1, ds2, μ2, rfl, l1, l2, hp, hkw⟩ := ha _ _ _ _ e1
  refine ⟨fun pins s σ H Q I ⟨α, F, sm, re, kk⟩ => ?_⟩
  refine wpAny_Call_Name_kw (ld_glob I hg hm ?_ hdb)
  refine PySem.W.callWith_KW (h₀ := X.base) I.ok.mod.kin hk hall (thn (hp.run pos pins s σ H _ I (tDs_got sm re)) fun us s1 ⟨vs, H1, I1, r, α1, F1, x1, s1', q⟩ => ?_) hpl he
  refine thn (hkw.run pos pins s1 σ H1 _ I1 (tDs_got s1' (re.mono x1))) fun ws s2 ⟨zs, H2, I2, rz, α2, F2, x2, s2', q2⟩ => ⟨I2.kIn, ?_⟩
  rw [hks]
  have := args_run (first := []) (fvs := []) (fds := []) G hr (by rw [← hn, ← l1] at hb; simpa using hb) (by rw [l2, hkl]) I2 .nil r rz s2' .nil (q.mono x2) q2 (by simpa using h) (kk.ext (x1.trans x2))
  simpa using this
/-! ### methods -/
structure MethI (P : Program) (w : World) (K : PySem.W.Frag) (mg : Str → Option Value) (base : Heap) (ca : Str → Option Addr) (k : Nat) (m : Str) (g : Str → List D → Sto → Option (D × Sto)) (n : Nat) (ks : List Str) (dds : List D) : Prop where
  ex : ∀ C ds μ r, g C ds μ = some r → ∃ c f fd ps, ca C = some c ∧ Cls K c ∧ Meth K c m f ∧ FnOk P w K mg base CX0 k f fd ps (spD K ca (g C) ps.length) ∧ BindOf K fd ps (n + 1) ks dds
theorem recv_at {K : PySem.W.Frag} {α F H μ x v C m} (s : Sim K ca α F μ H) (r : Rep K ca α F v x) (h : recv x m μ = some C) : ∃ a c dx fs, v = .ref a ∧ ca C = some c ∧ H a = some (.ins c dx fs) ∧ fs.lookup m = none := by
  cases r with
  | @obj a C c dx fs gs vv q1 q2 q3 =>
    simp only [recv] at h
    split at h
    · rename_i e; cases h; exact ⟨a, c, dx, fs, rfl, q1, s.sub _ _ q2, q3 m e⟩
    · cases h
  | @cell a n q =>
    simp only [recv] at h
    split at h
    · rename_i C gs hn
      split at h
      · rename_i e
        cases h
        obtain ⟨c, dx, fs, p1, p2, p3, _⟩ := s.cel _ _ _ hn q
        exact ⟨a, c, dx, fs, rfl, p1, p2, (p3 m).1 e⟩
      · cases h
    · cases h
  | _ => simp [recv] at h
theorem pd_meth {m : Str} {n : Nat} {pl : Sem Bool} (G : MethI X.prog X.w X.K X.mg X.base ca k m (fun C => Γ.meth C m) n [] dds) (hr : Room k X.A) (ho : PEd ca Γ X o B) (ha : PAdd ca Γ X (e :: es) dds A) (hn : (e :: es).length = n := by rfl)
    (hst : starEach (e :: es) X.env = (false, eval e X.env) :: starEach es X.env := by rfl) (hpl : (backTo pos (starEach es X.env)).any (·.1) = false := by rfl)
    (ht : eval (.Call (.Attribute o m apos) (e :: es) [] pos) X.env = (do
      let ov ← eval o X.env
      standAt apos.atName
      let (f, first) ← holding [ov] (getMethod ov m pl)
      callWith pos f first (backTo pos (starEach (e :: es) X.env)) (backToKw pos (keywordEach [] X.env))) := by rfl) :
    PEd ca Γ X (.Call (.Attribute o m apos) (e :: es) [] pos) (.meth B m A) := by
  intro ρ μ d μ' h
  simp only [ev] at h
  obtain ⟨x, μ1, e1, h⟩ := bnd_eq h
  obtain ⟨C, e2, h⟩ := Option.bind_eq_some_iff.mp h
  obtain ⟨ds, μ2, e3, h⟩ := bnd_eq h
  obtain ⟨ds1, rfl, l1, hp⟩ := ha _ _ _ _ e3
  obtain ⟨c, f, fd, ps, hc, hcl, hm, G, hb⟩ := G.ex _ _ _ _ h
  refine ⟨fun pins s σ H Q I ⟨α, F, sm, re, kk⟩ => ?_⟩
  refine PySem.W.methodCall_KW (pl := pl) (thn ((ho _ _ _ _ e1).run pins s σ H (fun v H1 => ∃ α1 F1, Ext α F α1 F1 ∧ Sim X.K ca α1 F1 μ1 H1 ∧ Rep X.K ca α1 F1 v x) I ⟨α, F, sm, re, fun v α1 F1 H1 x1 s1 r1 => ⟨α1, F1, x1, s1, r1⟩⟩) fun u s1 ⟨v, H1, I1, rx, α1, F1, x1, s1', r1⟩ => ?_) ht
  obtain ⟨a, c', dx, fs, rfl, hc', ea, l⟩ := recv_at s1' r1 e2
  rw [hc] at hc'; cases hc'
  obtain rfl : u = Value.ref a := rx
  refine getmeth_ok I1 ea hcl hm l ?_
  refine PySem.W.callWith_K (first := [.ref a]) (h₀ := X.base) I.ok.mod.kin hm.kp (thn (hp.run pos pins s1 σ H1 _ I1 (tDs_got s1' (re.mono x1))) fun us s2 ⟨vs, H2, I2, r, α2, F2, x2, s2', q⟩ => ⟨I2.kIn, ?_⟩) hst hpl
  have := args_run (first := [.ref a]) (fvs := [.ref a]) (fds := [x]) (zs := []) (ws := []) (ks := []) (ds2 := []) G hr (by rw [← hn, ← l1, Nat.add_comm] at hb; exact hb) rfl I2 (.cons rfl .nil) r .nil s2' (.cons (r1.mono x2) .nil) q .nil (by simpa using h) (kk.ext (x1.trans x2))
  simpa using this
theorem pd_meth0 {m : Str} {pl : Sem Bool} (G : MethI X.prog X.w X.K X.mg X.base ca k m (fun C => Γ.meth C m) 0 [] dds) (hr : Room k X.A) (ho : PEd ca Γ X o B)
    (ht : eval (.Call (.Attribute o m apos) [] [] pos) X.env = (do
      let ov ← eval o X.env
      standAt apos.atName
      let (f, first) ← holding [ov] (getMethod ov m pl)
      callWith pos f first (backTo pos (starEach [] X.env)) (backToKw pos (keywordEach [] X.env))) := by rfl) :
    PEd ca Γ X (.Call (.Attribute o m apos) [] [] pos) (.meth B m (constE dds)) := by
  intro ρ μ d μ' h
  simp only [ev] at h
  obtain ⟨x, μ1, e1, h⟩ := bnd_eq h
  obtain ⟨C, e2, h⟩ := Option.bind_eq_some_iff.mp h
  rw [evs_const, bnd_some] at h
  obtain ⟨c, f, fd, ps, hc, hcl, hm, G, hb⟩ := G.ex _ _ _ _ h
  refine ⟨fun pins s σ H Q I ⟨α, F, sm, re, kk⟩ => ?_⟩
  refine PySem.W.methodCall_KW (pl := pl) (thn ((ho _ _ _ _ e1).run pins s σ H (fun v H1 => ∃ α1 F1, Ext α F α1 F1 ∧ Sim X.K ca α1 F1 μ1 H1 ∧ Rep X.K ca α1 F1 v x) I ⟨α, F, sm, re, fun v α1 F1 H1 x1 s1 r1 => ⟨α1, F1, x1, s1, r1⟩⟩) fun u s1 ⟨v, H1, I1, rx, α1, F1, x1, s1', r1⟩ => ?_) ht
  obtain ⟨a, c', dx, fs, rfl, hc', ea, l⟩ := recv_at s1' r1 e2
  rw [hc] at hc'; cases hc'
  obtain rfl : u = Value.ref a := rx
  refine getmeth_ok I1 ea hcl hm l ?_
  refine PySem.W.callWith_K0 (first := [.ref a]) I1.kIn hm.kp ?_
  have := args_run (first := [.ref a]) (fvs := [.ref a]) (fds := [x]) (us := []) (vs := []) (ds1 := []) (zs := []) (ws := []) (ks := []) (ds2 := []) G hr hb rfl I1 (.cons rfl .nil) .nil .nil s1' (.cons r1 .nil) .nil .nil (by simpa using h) (kk.ext x1)
  simpa using this
theorem pd_methK {m : Str} {n : Nat} {pl : Sem Bool} (G : MethI X.prog X.w X.K X.mg X.base ca k m (fun C => Γ.meth C m) n ks dds) (hr : Room k X.A) (ho : PEd ca Γ X o B) (ha : PArgs ca Γ X (e :: es) kws dds A) (hn : (e :: es).length = n := by rfl) (hkl : kws.length = ks.length := by rfl)
    (hall : (backToKw pos (keywordEach kws X.env)).all (·.1.isSome) = true := by rfl) (hks : (backToKw pos (keywordEach kws X.env)).filterMap (·.1) = ks := by rfl)
    (hst : starEach (e :: es) X.env = (false, eval e X.env) :: starEach es X.env := by rfl) (hpl : ((backTo pos (starEach (e :: es) X.env)).any (·.1) || (backToKw pos (keywordEach kws X.env)).any (·.1.isNone)) = false := by rfl)
    (ht : eval (.Call (.Attribute o m apos) (e :: es) kws pos) X.env = (do
      let ov ← eval o X.env
      standAt apos.atName
      let (f, first) ← holding [ov] (getMethod ov m pl)
      callWith pos f first (backTo pos (starEach (e :: es) X.env)) (backToKw pos (keywordEach kws X.env))) := by rfl) :
    PEd ca Γ X (.Call (.Attribute o m apos) (e :: es) kws pos) (.meth B m A) := by
  intro ρ μ d μ' h
  simp only [ev] at h
  obtain ⟨x, μ1, e1, h⟩ := bnd_eq h
  obtain ⟨C, e2, h⟩ := Option.bind_eq_some_iff.mp h
  obtain ⟨ds, μ2, e3, h⟩ := bnd_eq h
  obtain ⟨ds1, ds2, μ3, rfl, l1, l2, hp, hkw⟩ := ha _ _ _ _ e3
  obtain ⟨c, f, fd, ps, hc, hcl, hm, G, hb⟩ := G.ex _ _ _ _ h
  refine ⟨fun pins s σ H Q I ⟨α, F, sm, re, kk⟩ => ?_⟩
  refine PySem.W.methodCall_KW (pl := pl) (thn ((ho _ _ _ _ e1).run pins s σ H (fun v H1 => ∃ α1 F1, Ext α F α1 F1 ∧ Sim X.K ca α1 F1 μ1 H1 ∧ Rep X.K ca α1 F1 v x) I ⟨α, F, sm, re, fun v α1 F1 H1 x1 s1 r1 => ⟨α1, F1, x1, s1, r1⟩⟩) fun u s1 ⟨v, H1, I1, rx, α1, F1, x1, s1', r1⟩ => ?_) ht
  obtain ⟨a, c', dx, fs, rfl, hc', ea, l⟩ := recv_at s1' r1 e2
  rw [hc] at hc'; cases hc'
  obtain rfl : u = Value.ref a := rx
  refine getmeth_ok I1 ea hcl hm l ?_
  refine PySem.W.callWith_KW (first := [.ref a]) (h₀ := X.base) I.ok.mod.kin hm.kp hall (thn (hp.run pos pins s1 σ H1 _ I1 (tDs_got s1' (re.mono x1))) fun us s2 ⟨vs, H2, I2, r, α2, F2, x2, s2', q⟩ => ?_) hpl hst
  refine thn (hkw.run pos pins s2 σ H2 _ I2 (tDs_got s2' (re.mono (x1.trans x2)))) fun ws s3 ⟨zs, H3, I3, rz, α3, F3, x3, s3', q3⟩ => ⟨I3.kIn, ?_⟩
  rw [hks]
  have := args_run (first := [.ref a]) (fvs := [.ref a]) (fds := [x]) G hr (by rw [← hn, ← l1, Nat.add_comm] at hb; exact hb) (by rw [l2, hkl]) I3 (.cons rfl .nil) r rz s3' (.cons ((r1.mono x2).mono x3) .nil) (q.mono x3) q3 (by simpa using h) (kk.ext ((x1.trans x2).trans x3))
  simpa using this
theorem pd_methK0 {m : Str} {pl : Sem Bool} (G : MethI X.prog X.w X.K X.mg X.base ca k m (fun C => Γ.meth C m) 0 ks dds) (hr : Room k X.A) (ho : PEd ca Γ X o B) (ha : PKw ca Γ X kws dds A) (hkl : kws.length = ks.length := by rfl)
    (hall : (backToKw pos (keywordEach kws X.env)).all (·.1.isSome) = true := by rfl) (hks : (backToKw pos (keywordEach kws X.env)).filterMap (·.1) = ks := by rfl)
    (hpl : ((backTo pos (starEach [] X.env)).any (·.1) || (backToKw pos (keywordEach kws X.env)).any (·.1.isNone)) = false := by rfl)
    (ht : eval (.Call (.Attribute o m apos) [] kws pos) X.env = (do
      let ov ← eval o X.env
      standAt apos.atName
      let (f, first) ← holding [ov] (getMethod ov m pl)
      callWith pos f first (backTo pos (starEach [] X.env)) (backToKw pos (keywordEach kws X.env))) := by rfl) :
    PEd ca Γ X (.Call (.Attribute o m apos) [] kws pos) (.meth B m A) := by
  intro ρ μ d μ' h
  simp only [ev] at h
  obtain ⟨x, μ1, e1, h⟩ := bnd_eq h
  obtain ⟨C, e2, h⟩ := Option.bind_eq_some_iff.mp h
  obtain ⟨ds, μ2, e3, h⟩ := bnd_eq h
  obtain ⟨ds2, rfl, l2, hkw⟩ := ha _ _ _ _ e3
  obtain ⟨c, f, fd, ps, hc, hcl, hm, G, hb⟩ := G.ex _ _ _ _ h
  refine ⟨fun pins s σ H Q I ⟨α, F, sm, re, kk⟩ => ?_⟩
  refine PySem.W.methodCall_KW (pl := pl) (thn ((ho _ _ _ _ e1).run pins s σ H (fun v H1 => ∃ α1 F1, Ext α F α1 F1 ∧ Sim X.K ca α1 F1 μ1 H1 ∧ Rep X.K ca α1 F1 v x) I ⟨α, F, sm, re, fun v α1 F1 H1 x1 s1 r1 => ⟨α1, F1, x1, s1, r1⟩⟩) fun u s1 ⟨v, H1, I1, rx, α1, F1, x1, s1', r1⟩ => ?_) ht
  obtain ⟨a, c', dx, fs, rfl, hc', ea, l⟩ := recv_at s1' r1 e2
  rw [hc] at hc'; cases hc'
  obtain rfl : u = Value.ref a := rx
  refine getmeth_ok I1 ea hcl hm l ?_
  refine PySem.W.callWith_KW0 (first := [.ref a]) (h₀ := X.base) I.ok.mod.kin hm.kp hall ?_ hpl
  refine thn (hkw.run pos pins s1 σ H1 _ I1 (tDs_got s1' (re.mono x1))) fun ws s3 ⟨zs, H3, I3, rz, α3, F3, x3, s3', q3⟩ => ⟨I3.kIn, ?_⟩
  rw [hks]
  have := args_run (first := [.ref a]) (fvs := [.ref a]) (fds := [x]) (us := []) (vs := []) (ds1 := []) G hr hb (by rw [l2, hkl]) I3 (.cons rfl .nil) .nil rz s3' (.cons (r1.mono x3) .nil) .nil q3 (by simpa using h) (kk.ext (x1.trans x3))
  simpa using this
/-! ### classes -/
structure MakeI (P : Program) (w : World) (K : PySem.W.Frag) (mg : Str → Option Value) (base : Heap) (ca : Str → Option Addr) (k : Nat) (C : Str) (g : List D → Sto → Option (D × Sto)) (n : Nat) (dds : List D) : Prop where
  ex : ∃ c f fd ps, ca C = some c ∧ Mk K c f ∧ mg C = some (.ref c) ∧ FnOk P w K mg base CX0 k f fd ps (spD K ca g ps.length) ∧ BindOf K fd ps (n + 1) [] dds
theorem pd_make {x : Str} {n : Nat} {fr : Bool} (G : MakeI X.prog X.w X.K X.mg X.base ca k x (Γ.meth x "__init__") n dds) (hr : Room (k + 1) X.A) (ha : PAdd ca Γ X (e :: es) dds A) (hn : (e :: es).length = n := by rfl) (hg : Gl X x := by rfl)
    (hdb : (x == ("__debug__" : Str)) = false := by decide) (he : starEach (e :: es) X.env = (false, eval e X.env) :: starEach es X.env := by rfl) (hpl : (backTo pos (starEach es X.env)).any (·.1) = false := by rfl) :
    PEd ca Γ X (.Call (.Name x p) (e :: es) [] pos) (.make fr x A) := by
  obtain ⟨c, f, fd, ps, hc, M, hm, G, hb⟩ := G.ex
  obtain ⟨dvs, dus, rd, qd, hl, hbt⟩ := hb
  intro ρ μ d μ' h
  simp only [ev] at h
  obtain ⟨ds, μ1, e1, h⟩ := bnd_eq h
  obtain ⟨ds1, rfl, l1, hp⟩ := ha _ _ _ _ e1
  obtain ⟨r, μ2, e2, h⟩ := bnd_eq h
  have hB : Binds X.K fd ps dus := fun s us X hl' => by
    have l2 : us.length = n + 1 := by
      have := rd.length; have := (qd (fun _ => none) [] (fun _ => none)).1
      rw [List.length_append] at hl'; simp at hl; omega
    have := hbt s us [] X l2 rfl
    simpa using this
  refine (pe_make M G hr hg hm hB rd pass0 (hp) hdb he hpl).mono fun σ H Q ⟨α, F, sm, re, kk⟩ => ⟨α, F, sm, re, fun vs α1 F1 H1 x1 s1 r1 => ?_⟩
  intro y dx ny ndx nxy
  -- the new instance is a cell
  have hF : ∀ a, H1 a = none → F1 a = none := fun a ha => by
    cases q : F1 a with
    | none => rfl
    | some u => have := s1.sub _ _ q; rw [ha] at this; cases this
  have s1d : Sim X.K ca α1 F1 μ1 (upd H1 dx (.own y)) := by
    have ne : ∀ (n : Nat) a, α1[n]? = some a → a ≠ dx := fun n a h e => s1.trk n a h (e ▸ ndx)
    refine ⟨s1.len, fun a u h => ?_, fun n c a h1 h2 => ?_, s1.inj, s1.off, fun n a h => ?_, s1.mrk⟩
    · rw [upd_ne (ne_of_none h (hF _ ndx))]; exact s1.sub a u h
    · exact (s1.cel n c a h1 h2).heap fun u hu => by rw [upd_ne (ne n a h2)]; exact hu
    · rw [upd_ne (ne n a h)]; exact s1.trk n a h
  have ny' : upd H1 dx (.own y) y = none := by rw [upd_ne nxy.symm]; exact ny
  obtain ⟨s2, x2, e3⟩ := s1d.cellNew (o := .ins c dx []) (c := .ins x []) ny' ⟨c, dx, [], hc, upd_same, fun f => ⟨fun _ => rfl, fun d h => by cases h⟩, rfl⟩
  refine ⟨?_, α1 ++ [y], F1, μ1 ++ [.ins x []], .cell μ1.length :: (ds1 ++ dds), r, μ2, s2, .cons (.cell e3) (((r1.mono x2)).append (qd _ _ _)), e2, fun v α3 F3 H3 x3 s3 r3 => ?_⟩
  · have := (qd ca α1 F1).1
    simp only [List.length_cons, List.length_append, r1.1, l1, hn, this]; simp at hl; omega
  · split at h
    · rename_i hr'
      cases r <;> first | exact absurd hr' Bool.false_ne_true | skip
      cases r3
      refine ⟨rfl, ?_⟩
      have xx := x1.trans (x2.trans x3)
      have e4 := x3.at e3
      split at h
      · exact freeze_run s3 e4 h (kk.ext xx)
      · cases h; exact (kk.ext xx).now s3 (.cell e4)
    · cases h
end
end DP

/-! Rules: targets. -/
namespace DP
open PySem PySem.Spec L2

/-- slots but these are as they were -/
def Out (is : List Nat) (σ σ' : L2.St) : Prop := σ'.length = σ.length ∧ ∀ i, i ∉ is → σ'[i]? = σ[i]?
theorem Out.refl (is : List Nat) (σ : L2.St) : Out is σ σ := ⟨rfl, fun _ _ => rfl⟩
theorem Out.trans {is js : List Nat} {σ σ1 σ2 : L2.St} (a : Out is σ σ1) (b : Out js σ1 σ2) : Out (is ++ js) σ σ2 := ⟨b.1.trans a.1, fun i h => by
  simp only [List.mem_append, not_or] at h
  exact (b.2 i h.2).trans (a.2 i h.1)⟩
theorem Out.set (i : Nat) (v : V) (σ : L2.St) : Out [i] σ (σ.set i (some v)) := ⟨by simp, fun j h => by
  rw [List.getElem?_set_ne]; intro e; exact h (by simp [e])⟩
section
variable (K : PySem.W.Frag) (ca : Str → Option Addr)
def tG (is : List Nat) (ρ : Rho) (μ : Sto) (d : D) (ρ' : Rho) (μ' : Sto) : TG := fun v σ H Q => ∃ α F, Sim K ca α F μ H ∧ RE K ca α F σ ρ ∧ Rep K ca α F v d ∧
  ∀ σ' α' F' H', Ext α F α' F' → Sim K ca α' F' μ' H' → RE K ca α' F' σ' ρ' → Out is σ σ' → Q σ' H'
def tGs (is : List Nat) (ρ : Rho) (μ : Sto) (ds : List D) (ρ' : Rho) (μ' : Sto) : TGs := fun vs σ H Q => ∃ α F, Sim K ca α F μ H ∧ RE K ca α F σ ρ ∧ Reps K ca α F vs ds ∧
  ∀ σ' α' F' H', Ext α F α' F' → Sim K ca α' F' μ' H' → RE K ca α' F' σ' ρ' → Out is σ σ' → Q σ' H'
end
def PLd (ca : Str → Option Addr) (Γ : Pr) (X : Cx) (t : Expr) (l : Leaf) : Prop := ∀ ρ μ d ρ' μ', storeLeaf Γ l d ρ μ = some (ρ', μ') → PG X t (tG X.K ca l.sl ρ μ d ρ' μ')
def PLsd (ca : Str → Option Addr) (Γ : Pr) (X : Cx) (ts : List Expr) (ls : List Leaf) : Prop := ∀ ρ μ ds ρ' μ', storeAll Γ ls ds ρ μ = some (ρ', μ') → PGs X ts (tGs X.K ca (ls.flatMap Leaf.sl) ρ μ ds ρ' μ')
def PGd (ca : Str → Option Addr) (Γ : Pr) (X : Cx) (t : Expr) (T : Tg) : Prop := ∀ ρ μ d ρ' μ', bind Γ T d ρ μ = some (ρ', μ') → PG X t (tG X.K ca T.sl ρ μ d ρ' μ')
section
variable {ca : Str → Option Addr} {Γ : Pr} {X : Cx} {e o t : Expr} {es ts : List Expr} {pos p : Pos}
theorem lf_n (i : Nat) {x : Str} (hN : X.N.Nodup) (hi : X.N[i]? = some x := by rfl) (hx : Loc X.env.scope x := by first | exact Or.inl rfl | exact Or.inr rfl) (hf : X.fn x = true ∨ X.env.scope.names.lookup x = some .local := by first | exact .inl rfl | exact .inr rfl) : PLd ca Γ X (.Name x pos) (.n i) := by
  intro ρ μ d ρ' μ' h
  simp only [storeLeaf, Option.some.injEq, Prod.mk.injEq] at h
  obtain ⟨rfl, rfl⟩ := h
  exact (pg_name hN hi hx hf).mono fun v σ H Q ⟨α, F, s, re, r, k⟩ => k _ α F H (Ext.refl _ _) s (re.set i r) (Out.set i v σ)
theorem look_put (f : Str) (d : D) : ∀ (gs : List (Str × D)) (g : Str), (storeLeaf.putF' f d gs).lookup g = if g = f then some d else gs.lookup g
  | [], g => by
    by_cases h : g = f
    · subst h; simp [storeLeaf.putF', List.lookup]
    · have : (g == f) = false := by simp [h]
      simp [storeLeaf.putF', List.lookup, this, h]
  | (k, u) :: r, g => by
    unfold storeLeaf.putF'
    by_cases hk : k = f
    · subst hk
      simp only [if_true]
      by_cases h : g = k
      · subst h; simp [List.lookup]
      · have : (g == k) = false := by simp [h]
        simp [List.lookup, this, h]
    · simp only [if_neg hk]
      by_cases h : g = k
      · subst h; simp [List.lookup, hk]
      · have : (g == k) = false := by simp [h]
        simp only [List.lookup, this]
        exact look_put f d r g
theorem frel_put {K : PySem.W.Frag} {α F fs gs v d} (r : FRel K ca α F fs gs) (f : Str) (q : Rep K ca α F v d) : FRel K ca α F (putF f v fs) (storeLeaf.putF' f d gs) := fun g => by
  rw [lookup_putF, look_put]
  by_cases h : g = f
  · rw [if_pos h, if_pos h]; exact ⟨fun z => (nomatch z), fun d' z => ⟨v, rfl, by cases z; exact q⟩⟩
  · rw [if_neg h, if_neg h]; exact r g
theorem len_putF (f : Str) (v : V) : ∀ fs : List (Str × V), (putF f v fs).length = if (fs.lookup f).isSome then fs.length else fs.length + 1
  | [] => rfl
  | (k, u) :: r => by
    unfold putF
    by_cases hk : k = f
    · subst hk; simp [List.lookup]
    · have : (f == k) = false := by simp; exact fun e => hk e.symm
      simp only [if_neg hk, List.lookup, this, List.length_cons, len_putF f v r]
      split <;> rfl
theorem len_put' (f : Str) (v : D) : ∀ fs : List (Str × D), (storeLeaf.putF' f v fs).length = if (fs.lookup f).isSome then fs.length else fs.length + 1
  | [] => rfl
  | (k, u) :: r => by
    unfold storeLeaf.putF'
    by_cases hk : k = f
    · subst hk; simp [List.lookup]
    · have : (f == k) = false := by simp; exact fun e => hk e.symm
      simp only [if_neg hk, List.lookup, this, List.length_cons, len_put' f v r]
      split <;> rfl
theorem FRel.some_eq {K : PySem.W.Frag} {α F fs gs} (r : FRel K ca α F fs gs) (f : Str) : (fs.lookup f).isSome = (gs.lookup f).isSome := by
  cases e : gs.lookup f with
  | none => rw [(r f).1 e]; rfl
  | some d => obtain ⟨v, h, _⟩ := (r f).2 d e; rw [h]; rfl
theorem fld_write {K : PySem.W.Frag} {α F μ H n a C gs c dx fs v d f} (s : Sim K ca α F μ H) (hn : μ[n]? = some (.ins C gs)) (ha : α[n]? = some a) (hc : ca C = some c) (h : H a = some (.ins c dx fs)) (fr : FRel K ca α F fs gs) (q : Rep K ca α F v d) (hl : fs.length = gs.length) :
    Sim K ca α F (μ.set n (.ins C (storeLeaf.putF' f d gs))) (upd H a (.ins c dx (putF f v fs))) :=
  s.write hn (fun z => nomatch z) ha ⟨c, dx, _, hc, upd_same, frel_put fr f q, by rw [len_putF, len_put', fr.some_eq f, hl]⟩ (fun z => nomatch z)
/-- o.f as a target, o a name -/
theorem lf_f (i : Nat) {x : Str} {f : Str} {p2 : Pos} (hcl : ∀ C c, ca C = some c → Cls X.K c ∧ ∀ f ∈ Γ.att C, NoAttr X.K c f) (hN : X.N[i]? = some x := by rfl) (hv : Vis X.env.scope x := by first | exact Or.inl rfl | exact Or.inr (Or.inl rfl) | exact Or.inr (Or.inr rfl)) (hd : (x == ("__debug__" : Str)) = false := by decide)
    (hcd : (x == ("__classdict__" : Str)) = false := by decide) : PLd ca Γ X (.Attribute (.Name x pos) f p2) (.f i f) := by
  intro ρ μ d ρ' μ' h
  simp only [storeLeaf] at h
  refine ⟨fun pins s σ H v u Q I r ⟨α, F, sm, re, rd, k⟩ => ?_⟩
  split at h
  · rename_i n hn
    split at h
    · rename_i C gs hc
      split at h
      · rename_i hf
        cases h
        obtain ⟨w, e1, e2⟩ := re.2 i _ hn
        cases e2 with
        | @cell a _ q =>
          obtain ⟨c, dx, fs, h1, h2, h3, h4⟩ := sm.cel _ _ _ hc q
          show wpAny _ _ (do let ov ← holding [u] (eval (.Name x pos) X.env); standAt p2.atName; holding [u, ov] (setAttr ov f u); release [u, ov] []) _ _ _
          refine wpAny_bind (wpAny_holding (thn ((pe_var (i := i) hN hv hd hcd).run pins s σ H (fun y H1 => y = .ref a ∧ H1 = H) I ⟨_, e1, rfl, rfl⟩) fun ov s1 ⟨y, H1, I1, ry, ey, eH⟩ => ?_))
          subst ey eH
          obtain rfl : ov = Value.ref a := ry
          refine wpAny_bind (wpAny_standAt (wpAny_bind (wpAny_holding (setattr_ok I1 h2 (hcl _ _ h1).1 ((hcl _ _ h1).2 f hf.1) (by omega) r fun s2 I2 => ?_))))
          exact wpAny_release ⟨σ, _, I2, k σ α F _ (Ext.refl _ _) (fld_write sm hc q h1 h2 h3 rd h4) re (Out.refl _ _)⟩
      · cases h
    · cases h
  · cases h
theorem lfs_nil : PLsd ca Γ X [] [] := by
  intro ρ μ ds ρ' μ' h
  cases ds with
  | nil =>
    simp only [storeAll, Option.some.injEq, Prod.mk.injEq] at h
    obtain ⟨rfl, rfl⟩ := h
    exact pgs_nil.mono fun vs σ H Q ⟨α, F, s, re, r, k⟩ => ⟨r.nil_iff, k σ α F H (Ext.refl _ _) s re (Out.refl _ _)⟩
  | cons d ds => simp [storeAll] at h
theorem lfs_cons' {l : Leaf} {ls : List Leaf} (h1 : PLd ca Γ X t l) (h2 : PLsd ca Γ X ts ls) {t' : Expr} (hs : (assignEach (t' :: ts) X.env).map (·.2) = assign t X.env :: (assignEach ts X.env).map (·.2)) : PLsd ca Γ X (t' :: ts) (l :: ls) := by
  intro ρ μ ds ρ' μ' h
  cases ds with
  | nil => simp [storeAll] at h
  | cons d ds =>
    simp only [storeAll] at h
    obtain ⟨q, e1, h⟩ := Option.bind_eq_some_iff.mp h
    refine ⟨fun pins s σ H vs us Q I rv ⟨α, F, sm, re, rs, k⟩ => ?_⟩
    obtain ⟨v, vr, rfl, r1, r2⟩ := rs.cons_inv
    cases rv with
    | cons rv rr =>
      rw [hs]
      refine PyProof.Rows.assignInOrder_cons (thn ((h1 _ _ _ _ _ e1).run pins s σ H v _ (fun σ1 H1 => ∃ α1 F1, Ext α F α1 F1 ∧ Sim X.K ca α1 F1 q.2 H1 ∧ RE X.K ca α1 F1 σ1 q.1 ∧ Out l.sl σ σ1) I rv ⟨α, F, sm, re, r1, fun σ1 α1 F1 H1 x1 s1 re1 o1 => ⟨α1, F1, x1, s1, re1, o1⟩⟩) fun _ s1 ⟨σ1, H1, I1, α1, F1, x1, s1', re1, o1⟩ => ?_)
      exact (h2 _ _ _ _ _ h).run pins s1 σ1 H1 vr _ Q I1 rr ⟨α1, F1, s1', re1, r2.mono x1, fun σ2 α2 F2 H2 x2 s2 re2 o2 => k σ2 α2 F2 H2 (x1.trans x2) s2 re2 (o1.trans o2)⟩
theorem lfs_cons {l : Leaf} {ls : List Leaf} (h1 : PLd ca Γ X t l) (h2 : PLsd ca Γ X ts ls) (hs : (assignEach (t :: ts) X.env).map (·.2) = assign t X.env :: (assignEach ts X.env).map (·.2) := by rfl) : PLsd ca Γ X (t :: ts) (l :: ls) := lfs_cons' h1 h2 hs
theorem lfs_star {l : Leaf} {ls : List Leaf} {sp : Pos} (h1 : PLd ca Γ X t l) (h2 : PLsd ca Γ X ts ls) : PLsd ca Γ X (.Starred t sp :: ts) (l :: ls) := lfs_cons' h1 h2 rfl
theorem tg_one {l : Leaf} (h : PLd ca Γ X t l) : PGd ca Γ X t (.one l) := fun ρ μ d ρ' μ' e => h _ _ _ _ _ e
theorem storeAll_len (Γ : Pr) : ∀ (ls : List Leaf) (ds : List D) (ρ : Rho) (μ : Sto) r, storeAll Γ ls ds ρ μ = some r → ls.length = ds.length
  | [], [], _, _, _, _ => rfl
  | [], _ :: _, _, _, _, h => by simp [storeAll] at h
  | _ :: _, [], _, _, _, h => by simp [storeAll] at h
  | l :: ls, d :: ds, ρ, μ, r, h => by
    simp only [storeAll] at h
    obtain ⟨q, _, h⟩ := Option.bind_eq_some_iff.mp h
    simp [storeAll_len Γ ls ds _ _ r h]
theorem tg_tup {ls : List Leaf} {k : Nat} (hc : X.calm = true) (h : PLsd ca Γ X ts ls) (hn : (assignEach ts X.env).length = ls.length := by rfl) (hst : (assignEach ts X.env).findIdx? (·.1) = none := by rfl) : PGd ca Γ X (.Tuple ts k pos) (.tup ls) := by
  intro ρ μ d ρ' μ' e
  simp only [bind] at e
  split at e
  · rename_i ds
    have hl := storeAll_len _ _ _ _ _ _ e
    refine (pg_tup hc (h _ _ _ _ _ e) hn hst).mono fun v σ H Q ⟨α, F, s, re, r, k⟩ => ?_
    cases r with
    | @tup a vs _ q1 q2 q3 => exact ⟨a, vs, rfl, seqT_un s.sub q1, by rw [q2, ← hl], α, F, s, re, ⟨q2, q3⟩, k⟩
  · cases e
/-- news are laid: the state goes on -/
theorem inv_news {pins : List (Addr × Obj)} {σ : L2.St} {H : Hp} {s : Shared} {h' : Heap} {tk : Nat} {m : Str → Option Value} {D : Addr} {its : List Value} {vs : List V} (I : L2.Inv X pins σ H s) (F : PyProof.Rows.Fr X.base X.env.locals s.heap m) (F' : PyProof.Rows.Fr X.base X.env.locals h' m)
    (N' : PyProof.Rows.News X.base X.env.locals h' ((D, PySem.W.listOf its.toArray 0) :: allNews X.base s.heap X.env.locals)) (hlt : ∀ p ∈ allNews X.base s.heap X.env.locals, p.1 < D) (rv : Vals vs its) (hz : vs.length ≤ sizeLine) :
    H D = none ∧ L2.Inv X pins σ (upd H D (.lst vs)) { s with heap := h', toks := tk } := by
  have kp : ∀ b o, b ≠ X.env.locals → s.heap.get? b = some o → h'.get? b = some o := fun b o hb e => by
    cases q : X.base.get? b with
    | some u => have := I.bk b u q; rw [this] at e; cases e; exact F'.keep b _ q
    | none => exact (N' (b, o) (List.mem_cons_of_mem _ (mem_allNews hb q e))).1
  obtain ⟨hD, hDL, hDb⟩ := N' _ List.mem_cons_self
  have hD : h'.get? D = some (PySem.W.listOf its.toArray 0) := hD
  have fresh : H D = none := by
    cases q : H D with
    | none => rfl
    | some u =>
      obtain ⟨o, ho⟩ : ∃ o, s.heap.get? D = some o := by
        exact objOk_get (I.hok D u q)
      exact absurd (hlt (D, o) (mem_allNews hDL hDb ho)) (Nat.lt_irrefl _)
  refine ⟨fresh, ?_⟩
  have trkL : ∀ b u, H b = some u → b ≠ X.env.locals := fun b u e z => by rw [z, I.free] at e; cases e
  have big : ∀ b u, s.heap.get? b = some u → H b = none → upd H D (.lst vs) b = none := fun b u e n => by
    by_cases hb : b = D
    · subst hb
      by_cases hq : X.base.get? b = none
      · exact absurd (hlt (b, u) (mem_allNews hDL hq e)) (Nat.lt_irrefl _)
      · exact absurd hDb hq
    · rw [upd_ne hb]; exact n
  refine I.step (g' := s.gens) (d' := s.drawn) (ch := []) (fun _ z => (nomatch z)) (fun b o hb _ _ e _ => kp b o hb e) (fun b o hb _ _ e _ => ⟨o.slots, kp b o hb e⟩) (fun b o _ e n => big b o e n) (fun b o _ e => ?_)
    (fun b xs e => by rw [upd_ne (ne_of_none e fresh)]; exact e) (fun b o u e => by rw [upd_ne (ne_of_none e fresh)]; exact e) (fun b ps e => ⟨#[], by rw [upd_ne (ne_of_none e fresh), e]; simp⟩) (fun m' hm => ?_) (fun b u e => ?_) I.bare
  · by_cases hb : b = X.env.locals
    · subst hb
      obtain ⟨o', _, _, e', _⟩ := F'.ns
      exact ⟨o', e'⟩
    · exact ⟨o, kp b o hb e⟩
  · rw [SlX.ns_only hm F.ns]; exact F'.ns
  · by_cases hb : b = D
    · subst hb
      rw [upd_same] at e
      cases e
      exact ⟨hz, its, 0, rv, hD⟩
    · rw [upd_ne hb] at e
      refine (I.hok b u e).stay (fun c v hc q => kp c v ?_ q) (fun c q => by rw [upd_ne (ne_of_none q fresh)]; exact q) (fun c xs q => by rw [upd_ne (ne_of_none q fresh)]; exact q)
      rcases hc with rfl | hc
      · exact trkL _ _ e
      · exact trkL _ _ hc
/-- a, *b, c = .. -/
theorem tg_star {ls : List Leaf} {k : Nat} (i j : Nat) (hc : X.calm = true) (h : PLsd ca Γ X ts ls) {pre post : List Leaf} {l : Leaf} (hls : ls = pre ++ [l] ++ post := by rfl) (hi : pre.length = i := by rfl) (hj : post.length = j := by rfl)
    (hn : (assignEach ts X.env).length = i + j + 1 := by rfl) (hst : (assignEach ts X.env).findIdx? (·.1) = some i := by rfl) : PGd ca Γ X (.Tuple ts k pos) (.star pre l post) := by
  intro ρ μ d ρ' μ' e
  subst hls hi hj
  simp only [bind] at e
  obtain ⟨ds, e1, e⟩ := Option.bind_eq_some_iff.mp e
  split at e
  · rename_i hl
    refine ⟨fun pins s σ H v u Q I rv ⟨α, F, sm, re, r, kk⟩ => ?_⟩
    have fin : ∀ (a : Addr) (vs : List V) (its : List Value), Vals vs its → Reps X.K ca α F vs ds → ∀ D h' tk m, PyProof.Rows.Fr X.base X.env.locals s.heap m → PyProof.Rows.Fr X.base X.env.locals h' m →
        PyProof.Rows.News X.base X.env.locals h' ((D, PySem.W.listOf ((its.drop pre.length).take (its.length + 1 - (pre.length + post.length + 1))).toArray 0) :: allNews X.base s.heap X.env.locals) → (∀ p ∈ allNews X.base s.heap X.env.locals, p.1 < D) →
        wpAny (model X.prog X.w) X.A (assignInOrder ((assignEach ts X.env).map (·.2)) (its.take pre.length ++ [.ref D] ++ (its.drop pre.length).drop (its.length + 1 - (pre.length + post.length + 1)))) (fun _ s' => ∃ σ' H', L2.Inv X pins σ' H' s' ∧ Q σ' H') X.xe { s with heap := h', toks := tk } := fun a vs its rvs rs D h' tk m Fm F' N' hlt => by
      have hlen : its.length = ds.length := by rw [← rvs.length, rs.1]
      have hmid : its.length + 1 - (pre.length + post.length + 1) = ds.length - pre.length - post.length := by omega
      rw [hmid] at N' ⊢
      have rmid : Vals ((vs.drop pre.length).take (ds.length - pre.length - post.length)) ((its.drop pre.length).take (ds.length - pre.length - post.length)) := (rvs.drop _).take _
      have hz : ((vs.drop pre.length).take (ds.length - pre.length - post.length)).length ≤ sizeLine := by rw [List.length_take, List.length_drop, rs.1, sizeLine_eq]; omega
      obtain ⟨fresh, I'⟩ := inv_news (tk := tk) I Fm F' N' hlt rmid hz
      obtain ⟨s', x⟩ := sm.laid (o := .lst ((vs.drop pre.length).take (ds.length - pre.length - post.length))) fresh
      have rsm := rs.mono x
      have rm : Reps X.K ca α (upd F D (.lst ((vs.drop pre.length).take (ds.length - pre.length - post.length)))) ((vs.drop pre.length).take (ds.length - pre.length - post.length)) ((ds.drop pre.length).take (ds.length - pre.length - post.length)) := (rsm.drop _).take _
      have hd2 : (ds.drop pre.length).drop (ds.length - pre.length - post.length) = ds.drop (ds.length - post.length) := by rw [List.drop_drop]; congr 1; omega
      have rall := ((rsm.take pre.length).append (.cons (.lst upd_same rm.1 rm.2) .nil)).append ((rsm.drop pre.length).drop (ds.length - pre.length - post.length))
      rw [hd2] at rall
      refine (h _ _ _ _ _ e).run pins _ σ _ (vs.take pre.length ++ [.ref D] ++ (vs.drop pre.length).drop (ds.length - pre.length - post.length)) _ Q I' ((Vals.append (rvs.take _) (.cons (show RelV (.ref D) (.ref D) from rfl) .nil)).append ((rvs.drop _).drop _)) ⟨α, _, s', re.mono x, rall, fun σ2 α2 F2 H2 x2 s2 re2 o2 => kk σ2 α2 F2 H2 (x.trans x2) s2 re2 o2⟩
    obtain ⟨m, Fm⟩ := I.fr
    have hls : pre.length < pre.length + post.length + 1 := by omega
    cases r with
    | @tup a vs _ q1 q2 q3 =>
      cases e1
      obtain ⟨its, rvs, ht, _⟩ := I.tuple (seqT_un sm.sub q1)
      cases rv
      have hlen : its.length = ds.length := by rw [← rvs.length, q2]
      exact PySem.W.kun_assignT Fm news_all ht (I.ok.hd hc) hn hst hls (by rw [List.size_toArray]; omega) (by rw [List.size_toArray]; omega) rfl rfl rfl fun D h' tk F' N' hlt => fin a vs its rvs ⟨q2, q3⟩ D h' tk m Fm F' (by simpa using N') hlt
    | @lst a vs _ q1 q2 q3 =>
      cases e1
      obtain ⟨its, rvs, ht, _⟩ := I.list (SqL.of (sm.sub _ _ q1))
      cases rv
      have hlen : its.length = ds.length := by rw [← rvs.length, q2]
      exact PySem.W.kun_assignL Fm news_all ht.isList (I.ok.hd hc) hn hst hls (by rw [List.size_toArray]; omega) (by rw [List.size_toArray]; omega) rfl rfl rfl fun D h' tk F' N' hlt => fin a vs its rvs ⟨q2, q3⟩ D h' tk m Fm F' (by simpa using N') hlt
    | _ => cases e1
  · cases e
end
end DP

/-! Rules: what a loop walks. -/
namespace DP
open PySem PySem.Spec L2

/-! ### the weaker order: marks may change -/
structure Wxt (α : List Addr) (F : Hp) (α' : List Addr) (F' : Hp) : Prop where
  pre : ∃ β, α' = α ++ β
  fr : ∀ a o, F a = some o → (∀ u, o ≠ mark u) → F' a = some o
theorem Ext.w {α F α' F'} (x : Ext α F α' F') : Wxt α F α' F' := ⟨x.pre, fun a o h _ => x.fr a o h⟩
theorem Wxt.trans {α F α' F' α'' F''} (x : Wxt α F α' F') (y : Wxt α' F' α'' F'') : Wxt α F α'' F'' := by
  obtain ⟨β, rfl⟩ := x.pre
  obtain ⟨γ, rfl⟩ := y.pre
  exact ⟨⟨β ++ γ, by simp⟩, fun a o h n => y.fr a o (x.fr a o h n) n⟩
theorem Wxt.at {α F α' F'} (x : Wxt α F α' F') {n : Nat} {a : Addr} (h : α[n]? = some a) : α'[n]? = some a := by
  obtain ⟨β, rfl⟩ := x.pre
  have hl := (List.getElem?_eq_some_iff.mp h).1
  rw [List.getElem?_append_left hl]; exact h
section
variable {K : PySem.W.Frag} {ca : Str → Option Addr} {α α' : List Addr} {F F' H H' : Hp} {v : V} {d : D} {σ : L2.St} {ρ : Rho} {μ : Sto}
theorem Wxt.seqL (x : Wxt α F α' F') {a : Addr} {xs : List V} (h : SqL K F a xs) : SqL K F' a xs := by
  rcases h with (h | ⟨o, h⟩) | h
  · exact .inl (.inl (x.fr _ _ h (fun u => by simp [mark])))
  · exact .inl (.inr ⟨o, x.fr _ _ h (fun u => by simp [mark])⟩)
  · exact .inr h
theorem Wxt.seqT (x : Wxt α F α' F') {a : Addr} {xs : List V} (h : SqT K F a xs) : SqT K F' a xs := by
  rcases h with (h | ⟨o, h⟩) | h
  · exact .inl (.inl (x.fr _ _ h (fun u => by simp [mark])))
  · exact .inl (.inr ⟨o, x.fr _ _ h (fun u => by simp [mark])⟩)
  · exact .inr h
theorem Rep.monoW (r : Rep K ca α F v d) (x : Wxt α F α' F') : Rep K ca α' F' v d := by
  induction r with
  | non => exact .non
  | bl b => exact .bl b
  | int i => exact .int i
  | str z => exact .str z
  | tup h l _ ih => exact .tup (x.seqT h) l ih
  | lst h l _ ih => exact .lst (x.fr _ _ h (fun u => by simp [mark])) l ih
  | scr h => exact .scr (x.seqL h)
  | obj vv h1 h2 h3 h4 _ ih => exact .obj vv h1 (x.fr _ _ h2 (fun u => by simp [mark])) h3 h4 ih
  | cell h => exact .cell (x.at h)
theorem Reps.monoW {vs : List V} {ds : List D} (r : Reps K ca α F vs ds) (x : Wxt α F α' F') : Reps K ca α' F' vs ds := ⟨r.1, fun i v d h1 h2 => (r.2 i v d h1 h2).monoW x⟩
theorem FRel.monoW {fs : List (Str × V)} {gs : List (Str × D)} (r : FRel K ca α F fs gs) (x : Wxt α F α' F') : FRel K ca α' F' fs gs := fun f => ⟨(r f).1, fun d e => by
  obtain ⟨v, h1, h2⟩ := (r f).2 d e
  exact ⟨v, h1, h2.monoW x⟩⟩
theorem KRel.monoW {fs : List (Key × V)} {gs : List (Key × D)} (r : KRel K ca α F fs gs) (x : Wxt α F α' F') : KRel K ca α' F' fs gs := ⟨r.1, r.2.monoW x⟩
theorem RE.monoW (r : RE K ca α F σ ρ) (x : Wxt α F α' F') : RE K ca α' F' σ ρ := ⟨r.1, fun i d h => by
  obtain ⟨v, h1, h2⟩ := r.2 i d h
  exact ⟨v, h1, h2.monoW x⟩⟩
theorem CelOk.monoW {a : Addr} {c : Cel} (x : Wxt α F α' F') (h : CelOk K ca α F H a c) : CelOk K ca α' F' H a c := by
  cases c with
  | lst ds => obtain ⟨vs, h1, h2⟩ := h; exact ⟨vs, h1, h2.monoW x⟩
  | dct ds => obtain ⟨vs, h1, h2⟩ := h; exact ⟨vs, h1, h2.monoW x⟩
  | ins C gs => obtain ⟨c, dx, fs, h1, h2, h3, h4⟩ := h; exact ⟨c, dx, fs, h1, h2, h3.monoW x, h4⟩
  | dead => trivial
/-- what is marked changes, its mark with it -/
theorem Sim.swap {L : Addr} {u : HO} (s : Sim K ca α F μ H) (hD : F L = some (mark u)) (hF : ∀ a, a ≠ L → F' a = F a) (hH : ∀ a, a ≠ L → H' a = H a) (hs : ∀ o, F' L = some o → H' L = some (un o)) :
    Sim K ca α F' μ H' ∧ Wxt α F α F' := by
  have x : Wxt α F α F' := ⟨⟨[], by simp⟩, fun a o h n => by
    rw [hF a]; exact h
    intro e; subst e; rw [hD] at h; cases h; exact n u rfl⟩
  have ne : ∀ (n : Nat) a, α[n]? = some a → a ≠ L := fun n a h e => s.mrk n a u h (by rw [e]; exact hD)
  refine ⟨⟨s.len, fun a o h => ?_, fun n c a h1 h2 => ?_, s.inj, fun n c a h1 h2 h3 => ?_, fun n a h => ?_, fun n a u h => ?_⟩, x⟩
  · by_cases e : a = L
    · subst e; exact hs o h
    · rw [hH a e]; rw [hF a e] at h; exact s.sub a o h
  · exact ((s.cel n c a h1 h2).monoW x).heap fun u hu => by rw [hH a (ne n a h2)]; exact hu
  · rw [hF a (ne n a h3)]; exact s.off n c a h1 h2 h3
  · rw [hH a (ne n a h)]; exact s.trk n a h
  · rw [hF a (ne n a h)]; exact s.mrk n a u h
/-- a new thing, marked -/
theorem Sim.marked {L : Addr} {u : HO} (s : Sim K ca α F μ H) (hL : H L = none) : Sim K ca α (upd F L (mark u)) μ (upd H L u) ∧ Ext α F α (upd F L (mark u)) ∧ F L = none := by
  have hF : F L = none := by
    cases q : F L with
    | none => rfl
    | some u => have := s.sub _ _ q; rw [hL] at this; cases this
  have x : Ext α F α (upd F L (mark u)) := ⟨⟨[], by simp⟩, fun a u h => by rw [upd_ne (ne_of_none h hF)]; exact h⟩
  have ne : ∀ (n : Nat) a, α[n]? = some a → a ≠ L := fun n a h e => s.trk n a h (e ▸ hL)
  refine ⟨⟨s.len, fun a o h => ?_, fun n c a h1 h2 => ?_, s.inj, fun n c a h1 h2 h3 => ?_, fun n a h => ?_, fun n a u h => by rw [upd_ne (ne n a h)]; exact s.mrk n a u h⟩, x, hF⟩
  · by_cases e : a = L
    · subst e; rw [upd_same] at h ⊢; cases h; rfl
    · rw [upd_ne e] at h ⊢; exact s.sub a o h
  · exact ((s.cel n c a h1 h2).mono x).heap fun u hu => by rw [upd_ne (ne n a h2)]; exact hu
  · rw [upd_ne (ne n a h3)]; exact s.off n c a h1 h2 h3
  · rw [upd_ne (ne n a h)]; exact s.trk n a h
/-- a mark becomes a cell -/
theorem Sim.cellOf {L : Addr} {u : HO} {c : Cel} (s : Sim K ca α F μ H) (hD : F L = some (mark u)) (hF : ∀ a, a ≠ L → F' a = F a) (hz : F' L = none) (hc : CelOk K ca α F H L c) :
    Sim K ca (α ++ [L]) F' (μ ++ [c]) H ∧ Wxt α F (α ++ [L]) F' ∧ (α ++ [L])[μ.length]? = some L := by
  have x : Wxt α F (α ++ [L]) F' := ⟨⟨[L], rfl⟩, fun a o h n => by
    rw [hF a]; exact h
    intro e; subst e; rw [hD] at h; cases h; exact n u rfl⟩
  have ne : ∀ (n : Nat) a, α[n]? = some a → a ≠ L := fun n a h e => s.mrk n a u h (by rw [e]; exact hD)
  have inv : ∀ (n : Nat) a, (α ++ [L])[n]? = some a → (n < α.length ∧ α[n]? = some a) ∨ (n = α.length ∧ a = L) := fun n a h => by
    by_cases hn : n < α.length
    · rw [List.getElem?_append_left hn] at h; exact .inl ⟨hn, h⟩
    · rw [List.getElem?_append_right (by omega)] at h
      have : n - α.length = 0 := by
        have := (List.getElem?_eq_some_iff.mp h).1; simp at this; omega
      rw [this] at h
      simp at h
      exact .inr ⟨by omega, h.symm⟩
  refine ⟨⟨by simp [s.len], fun a o h => ?_, fun n c' a h1 h2 => ?_, fun n m a h1 h2 => ?_, fun n c' a h1 h2 h3 => ?_, fun n a h => ?_, fun n a u h => ?_⟩, x, ?_⟩
  · by_cases e : a = L
    · subst e; rw [hz] at h; cases h
    · rw [hF a e] at h; exact s.sub a o h
  · rcases inv n a h2 with ⟨hn, h2'⟩ | ⟨hn, ha⟩
    · rw [List.getElem?_append_left (by rw [← s.len]; exact hn)] at h1
      exact (s.cel n c' a h1 h2').monoW x
    · subst ha
      rw [List.getElem?_append_right (by rw [← s.len]; omega), hn, s.len] at h1
      simp at h1; subst h1; exact hc.monoW x
  · rcases inv n a h1 with ⟨hn, h1'⟩ | ⟨hn, ha⟩ <;> rcases inv m a h2 with ⟨hm, h2'⟩ | ⟨hm, ha'⟩
    · exact s.inj n m a h1' h2'
    · exact absurd ha' (ne n a h1')
    · exact absurd ha (ne m a h2')
    · omega
  · rcases inv n a h3 with ⟨hn, h3'⟩ | ⟨hn', ha⟩
    · rw [List.getElem?_append_left (by rw [← s.len]; exact hn)] at h1
      rw [hF a (ne n a h3')]; exact s.off n c' a h1 h2 h3'
    · subst ha; exact hz
  · rcases inv n a h with ⟨hn, h'⟩ | ⟨hn, ha⟩
    · exact s.trk n a h'
    · subst ha; intro z; have := s.sub _ _ hD; rw [z] at this; cases this
  · rcases inv n a h with ⟨hn', h'⟩ | ⟨hn', ha⟩
    · rw [hF a (ne n a h')]; exact s.mrk n a u h'
    · subst ha; rw [hz]; exact fun z => nomatch z
  · rw [← s.len]; simp
end
structure WalkD (K : PySem.W.Frag) (ca : Str → Option Addr) (α : List Addr) (F : Hp) (J : It) (xs : List D) (w : Wt) : Prop where
  goes : ∀ i α' F' μ' H', i < xs.length → Wxt α F α' F' → Sim K ca α' F' μ' H' → watch w μ' = true → J.go i H'
  stops : ∀ α' F' μ' H', Wxt α F α' F' → Sim K ca α' F' μ' H' → watch w μ' = true → J.stop xs.length H'
  yields : ∀ i d v α' F' μ' H' H'', xs[i]? = some d → Wxt α F α' F' → Sim K ca α' F' μ' H' → watch w μ' = true → J.yld i H' v H'' → ∃ F'', Ext α' F' α' F'' ∧ Sim K ca α' F'' μ' H'' ∧ Rep K ca α' F'' v d
def tDI (K : PySem.W.Frag) (ca : Str → Option Addr) (ρ : Rho) (μ : Sto) (xs : List D) (w : Wt) (μ' : Sto) : TI := fun σ H R => ∃ α F, Sim K ca α F μ H ∧ RE K ca α F σ ρ ∧
  ∀ J α' F' H', Ext α F α' F' → Sim K ca α' F' μ' H' → watch w μ' = true → WalkD K ca α' F' J xs w → R J H'
def PId (ca : Str → Option Addr) (Γ : Pr) (X : Cx) (tg it : Expr) (E : E) : Prop := ∀ ρ μ xs w μ', evI Γ E ρ μ = some ((xs, w), μ') → PI X tg it (tDI X.K ca ρ μ xs w μ')
section
variable {K : PySem.W.Frag} {ca : Str → Option Addr} {α : List Addr} {F : Hp} {a b : Addr} {vs ws : List V} {ds es : List D}
theorem Reps.lt {i : Nat} (r : Reps K ca α F vs ds) (h : i < ds.length) : ∃ v, vs[i]? = some v := ⟨vs[i]'(by rw [r.1]; exact h), by simp [r.1, h]⟩
theorem wd_list (h : SqL K F a vs) (r : Reps K ca α F vs ds) : WalkD K ca α F (Itl K a) ds none := by
  refine ⟨fun i α' F' μ' H' hi x s _ => ?_, fun α' F' μ' H' x s _ => ?_, fun i d v α' F' μ' H' H'' hd x s _ y => ?_⟩
  · obtain ⟨v, hv⟩ := r.lt hi
    exact ⟨vs, v, seqL_un s.sub (x.seqL h), hv⟩
  · exact ⟨vs, seqL_un s.sub (x.seqL h), by rw [r.1]; exact Nat.le_refl _⟩
  · obtain ⟨rfl, y⟩ := y
    obtain ⟨u, h1, h2⟩ := r.get hd
    have := y vs (seqL_un s.sub (x.seqL h))
    rw [h1] at this; cases this
    exact ⟨F', Ext.refl _ _, s, h2.monoW x⟩
theorem wd_tup (h : SqT K F a vs) (r : Reps K ca α F vs ds) : WalkD K ca α F (Itt K a) ds none := by
  refine ⟨fun i α' F' μ' H' hi x s _ => ?_, fun α' F' μ' H' x s _ => ?_, fun i d v α' F' μ' H' H'' hd x s _ y => ?_⟩
  · obtain ⟨v, hv⟩ := r.lt hi
    exact ⟨vs, v, seqT_un s.sub (x.seqT h), hv⟩
  · exact ⟨vs, seqT_un s.sub (x.seqT h), by rw [r.1]; exact Nat.le_refl _⟩
  · obtain ⟨rfl, y⟩ := y
    obtain ⟨u, h1, h2⟩ := r.get hd
    have := y vs (seqT_un s.sub (x.seqT h))
    rw [h1] at this; cases this
    exact ⟨F', Ext.refl _ _, s, h2.monoW x⟩
theorem watch_at {n : Nat} {μ : Sto} (h : watch (some (n, ds)) μ = true) : μ[n]? = some (.lst ds) := by
  simp only [watch] at h
  split at h
  · rename_i es e
    rw [e, D.beqs_of _ _ h]
  · cases h
theorem wd_cell {n : Nat} (h : α[n]? = some a) : WalkD K ca α F (Itl K a) ds (some (n, ds)) := by
  refine ⟨fun i α' F' μ' H' hi x s hw => ?_, fun α' F' μ' H' x s hw => ?_, fun i d v α' F' μ' H' H'' hd x s hw y => ?_⟩ <;> obtain ⟨vs, q1, q2⟩ := s.cel _ _ _ (watch_at hw) (x.at h)
  · obtain ⟨v, hv⟩ := q2.lt hi
    exact ⟨vs, v, SqL.of q1, hv⟩
  · exact ⟨vs, SqL.of q1, by rw [q2.1]; exact Nat.le_refl _⟩
  · obtain ⟨rfl, y⟩ := y
    obtain ⟨u, h1, h2⟩ := q2.get hd
    have := y vs (SqL.of q1)
    rw [h1] at this; cases this
    exact ⟨F', Ext.refl _ _, s, h2⟩
theorem wd_range (lo : Int) (n : Nat) : WalkD K ca α F (Itr lo n) ((List.range n).map fun (k : Nat) => D.int (lo + (k : Int))) none := by
  refine ⟨fun i α' F' μ' H' hi x s _ => ?_, fun α' F' μ' H' x s _ => ?_, fun i d v α' F' μ' H' H'' hd x s _ y => ?_⟩
  · show i < n; simpa using hi
  · show n ≤ _; simp
  · obtain ⟨rfl, rfl⟩ := y
    rw [List.getElem?_map] at hd
    obtain ⟨k, h1, h2⟩ := Option.map_eq_some_iff.mp hd
    have : k = i := by
      obtain ⟨hl, e⟩ := List.getElem?_eq_some_iff.mp h1
      simpa using e.symm
    subst this; subst h2
    exact ⟨F', Ext.refl _ _, s, .int _⟩
/-- a new pair -/
theorem wd_pair {T : Addr} {v w : V} {d e : D} {α' F' μ' H'} (s : Sim K ca α' F' μ' H') (hT : H' T = none) (r1 : Rep K ca α' F' v d) (r2 : Rep K ca α' F' w e) :
    ∃ F'', Ext α' F' α' F'' ∧ Sim K ca α' F'' μ' (upd H' T (.tup [v, w])) ∧ Rep K ca α' F'' (.ref T) (.tup [d, e]) := by
  obtain ⟨s', x⟩ := s.laid (o := .tup [v, w]) hT
  have q : Reps K ca α' F' [v, w] [d, e] := .cons r1 (.cons r2 .nil)
  exact ⟨_, x, s', .tup (SqT.of upd_same) q.1 (q.mono x).2⟩
theorem wd_zip (h : SqL K F a vs) (r : Reps K ca α F vs ds) (h' : SqL K F b ws) (r' : Reps K ca α F ws es) : WalkD K ca α F (Itz K a b) ((ds.zip es).map fun p => D.tup [p.1, p.2]) none := by
  refine ⟨fun i α' F' μ' H' hi x s _ => ?_, fun α' F' μ' H' x s _ => ?_, fun i d v α' F' μ' H' H'' hd x s _ y => ?_⟩
  · have : i < ds.length ∧ i < es.length := by simp at hi; omega
    obtain ⟨v, hv⟩ := r.lt this.1
    obtain ⟨w, hw⟩ := r'.lt this.2
    exact ⟨vs, ws, v, w, seqL_un s.sub (x.seqL h), seqL_un s.sub (x.seqL h'), hv, hw⟩
  · refine ⟨vs, ws, seqL_un s.sub (x.seqL h), seqL_un s.sub (x.seqL h'), ?_⟩
    simp [r.1, r'.1]; omega
  · obtain ⟨T, u, z, rfl, hT, rfl, y1, y2⟩ := y
    rw [List.getElem?_map] at hd
    obtain ⟨p, h1, h2⟩ := Option.map_eq_some_iff.mp hd
    obtain ⟨k1, k2⟩ := List.getElem?_zip_eq_some.mp h1
    obtain ⟨u', g1, g2⟩ := r.get k1
    obtain ⟨z', g3, g4⟩ := r'.get k2
    have e1 := y1 vs (seqL_un s.sub (x.seqL h))
    have e2 := y2 ws (seqL_un s.sub (x.seqL h'))
    rw [g1] at e1; cases e1
    rw [g3] at e2; cases e2
    subst h2
    exact wd_pair s hT (g2.monoW x) (g4.monoW x)
theorem wd_enum (h : SqL K F a vs) (r : Reps K ca α F vs ds) : WalkD K ca α F (Ite K a) (((List.range ds.length).zip ds).map fun p => D.tup [.int (p.1 : Int), p.2]) none := by
  refine ⟨fun i α' F' μ' H' hi x s _ => ?_, fun α' F' μ' H' x s _ => ?_, fun i d v α' F' μ' H' H'' hd x s _ y => ?_⟩
  · have : i < ds.length := by simpa using hi
    obtain ⟨v, hv⟩ := r.lt this
    exact ⟨vs, v, seqL_un s.sub (x.seqL h), hv⟩
  · refine ⟨vs, seqL_un s.sub (x.seqL h), ?_⟩
    simp [r.1]
  · obtain ⟨T, z, rfl, hT, rfl, y2⟩ := y
    rw [List.getElem?_map] at hd
    obtain ⟨p, h1, h2⟩ := Option.map_eq_some_iff.mp hd
    obtain ⟨k1, k2⟩ := List.getElem?_zip_eq_some.mp h1
    obtain ⟨z', g3, g4⟩ := r.get k2
    have e2 := y2 vs (seqL_un s.sub (x.seqL h))
    rw [g3] at e2; cases e2
    subst h2
    have : p.1 = i := by
      obtain ⟨hl, e⟩ := List.getElem?_eq_some_iff.mp k1
      simpa using e.symm
    subst this
    exact wd_pair s hT (.int _) (g4.monoW x)
end
section
variable {ca : Str → Option Addr} {Γ : Pr} {X : Cx} {tg e e2 : Expr} {A B : E} {pos p : Pos}
theorem _root_.L2.PI.at {X : Cx} {tg e : Expr} {t : TI} (h : ∀ σ H R, t σ H R → ∃ t', PI X tg e t' ∧ t' σ H R) : PI X tg e t := ⟨fun pins s σ H R I q => by
  obtain ⟨t', p, q'⟩ := h σ H R q
  exact p.run pins s σ H R I q'⟩
/-- a list, a tuple -/
theorem pi_any (h : PEd ca Γ X e A) : PId ca Γ X tg e (.cons A .nil) := by
  intro ρ μ xs w μ' q
  simp only [evI] at q
  obtain ⟨d, μ1, e1, q⟩ := bnd_eq q
  have lst : ∀ ds, d = .lst ds → (xs, w) = (ds, none) ∧ μ' = μ1 → PI X tg e (tDI X.K ca ρ μ xs w μ') := fun ds hd hx => by
    subst hd
    obtain ⟨hx, rfl⟩ := hx
    cases hx
    exact (pi_list (h _ _ _ _ e1)).mono fun σ H R ⟨α, F, s, re, k⟩ => ⟨α, F, s, re, fun v α1 F1 H1 x1 s1 r1 => by
      cases r1 with
      | @lst a vs _ q1 q2 q3 => exact ⟨a, rfl, ⟨vs, SqL.of (s1.sub _ _ q1)⟩, k _ α1 F1 H1 x1 s1 rfl (wd_list (SqL.of q1) ⟨q2, q3⟩)⟩⟩
  cases d with
  | lst ds => simp only [Option.some.injEq, Prod.mk.injEq] at q; exact lst ds rfl ⟨by rw [q.1.1, q.1.2], q.2.symm⟩
  | tup ds =>
    simp only [Option.some.injEq, Prod.mk.injEq] at q
    obtain ⟨⟨rfl, rfl⟩, rfl⟩ := q
    exact (pi_tup (h _ _ _ _ e1)).mono fun σ H R ⟨α, F, s, re, k⟩ => ⟨α, F, s, re, fun v α1 F1 H1 x1 s1 r1 => by
      cases r1 with
      | @tup a vs _ q1 q2 q3 => exact ⟨a, rfl, ⟨vs, seqT_un s1.sub q1⟩, k _ α1 F1 H1 x1 s1 rfl (wd_tup q1 ⟨q2, q3⟩)⟩⟩
  | scr is =>
    simp only [Option.some.injEq, Prod.mk.injEq] at q
    obtain ⟨⟨rfl, rfl⟩, rfl⟩ := q
    exact (pi_list (h _ _ _ _ e1)).mono fun σ H R ⟨α, F, s, re, k⟩ => ⟨α, F, s, re, fun v α1 F1 H1 x1 s1 r1 => by
      cases r1 with
      | @scr a _ q1 => exact ⟨a, rfl, ⟨_, seqL_un s1.sub q1⟩, k _ α1 F1 H1 x1 s1 rfl (wd_list q1 (reps_ints is))⟩⟩
  | cell n =>
    simp only at q
    split at q
    · rename_i ds hn
      simp only [Option.some.injEq, Prod.mk.injEq] at q
      obtain ⟨⟨rfl, rfl⟩, rfl⟩ := q
      exact (pi_list (h _ _ _ _ e1)).mono fun σ H R ⟨α, F, s, re, k⟩ => ⟨α, F, s, re, fun v α1 F1 H1 x1 s1 r1 => by
        cases r1 with
        | @cell a _ q1 =>
          obtain ⟨vs, p1, p2⟩ := s1.cel _ _ _ hn q1
          exact ⟨a, rfl, ⟨_, SqL.of p1⟩, k _ α1 F1 H1 x1 s1 (by simp [watch, hn]) (wd_cell q1)⟩⟩
    · cases q
  | _ => cases q
theorem pi_rng1 (hg : Gl X "range") (hm : X.mg "range" = none) (ha : PAd ca Γ X [e] (.cons A .nil)) (hs : starEach [e] X.env = [(false, eval e X.env)] := by rfl) : PId ca Γ X tg (.Call (.Name "range" p) [e] [] pos) (.rng (.c (.int 0)) A) := by
  intro ρ μ xs w μ' q
  simp only [evI, ev, bnd_some] at q
  obtain ⟨y, μ1, e1, q⟩ := bnd_eq q
  split at q
  · rename_i i j h1
    cases h1
    split at q
    · rename_i hb
      simp only [Option.some.injEq, Prod.mk.injEq] at q
      obtain ⟨⟨rfl, rfl⟩, rfl⟩ := q
      exact (pi_range1 hg hm (ha _ _ _ _ (by simp only [evs, e1, bnd_some]; rfl)) hs).mono fun σ H R ⟨α, F, s, re, k⟩ => ⟨α, F, s, re, fun vs α1 F1 H1 x1 s1 r1 => by
        obtain ⟨v, vr, ev0, r4, r2⟩ := r1.cons_inv; subst ev0
        cases r2.nil_iff
        cases r4
        refine ⟨_, rfl, hb.2.2.1, hb.2.2.2, k _ α1 F1 H1 x1 s1 rfl ?_⟩
        simpa using wd_range (K := X.K) (ca := ca) (α := α1) (F := F1) 0 _⟩
    · cases q
  · cases q
theorem pi_rng2 (hg : Gl X "range") (hm : X.mg "range" = none) (ha : PAd ca Γ X [e, e2] (.cons A (.cons B .nil))) (hs : starEach [e, e2] X.env = [(false, eval e X.env), (false, eval e2 X.env)] := by rfl) (hs2 : starEach [e2] X.env = [(false, eval e2 X.env)] := by rfl) : PId ca Γ X tg (.Call (.Name "range" p) [e, e2] [] pos) (.rng A B) := by
  intro ρ μ xs w μ' q
  simp only [evI] at q
  obtain ⟨x, μ0, e0, q⟩ := bnd_eq q
  obtain ⟨y, μ1, e1, q⟩ := bnd_eq q
  split at q
  · split at q
    · rename_i hb
      simp only [Option.some.injEq, Prod.mk.injEq] at q
      obtain ⟨⟨rfl, rfl⟩, rfl⟩ := q
      exact (pi_range2 hg hm (ha _ _ _ _ (by simp only [evs, e0, e1, bnd_some]; rfl)) hs hs2).mono fun σ H R ⟨α, F, s, re, k⟩ => ⟨α, F, s, re, fun vs α1 F1 H1 x1 s1 r1 => by
        obtain ⟨v, vr, ev0, r4, r2⟩ := r1.cons_inv; subst ev0
        obtain ⟨v', vr', ev1, r3, r5⟩ := r2.cons_inv; subst ev1
        cases r5.nil_iff
        cases r4; cases r3
        exact ⟨_, _, rfl, hb, k _ α1 F1 H1 x1 s1 rfl (wd_range _ _)⟩⟩
    · cases q
  · cases q
theorem pi_zip2 {elts : List Expr} {kk : Nat} {tpos : Pos} (hg : Gl X "zip") (hm : X.mg "zip" = none) (ha : PAd ca Γ X [e, e2] (.cons A (.cons B .nil)))
    (hs : starEach [e, e2] X.env = (false, eval e X.env) :: starEach [e2] X.env := by rfl) (hpl : (backTo pos (starEach [e2] X.env)).any (·.1) = false := by rfl) : PId ca Γ X (.Tuple elts kk tpos) (.Call (.Name "zip" p) [e, e2] [] pos) (.zip2 A B) := by
  intro ρ μ xs w μ' q
  simp only [evI] at q
  obtain ⟨x, μ0, e0, q⟩ := bnd_eq q
  obtain ⟨y, μ1, e1, q⟩ := bnd_eq q
  split at q
  · simp only [Option.some.injEq, Prod.mk.injEq] at q
    obtain ⟨⟨rfl, rfl⟩, rfl⟩ := q
    exact (pi_zip hg hm (ha _ _ _ _ (by simp only [evs, e0, e1, bnd_some]; rfl)) hs hpl).mono fun σ H R ⟨α, F, s, re, k⟩ => ⟨α, F, s, re, fun vs α1 F1 H1 x1 s1 r1 => by
      obtain ⟨v, vr, ev0, r4, r2⟩ := r1.cons_inv; subst ev0
      obtain ⟨v', vr', ev1, r3, r5⟩ := r2.cons_inv; subst ev1
      cases r5.nil_iff
      cases r4 with
      | @lst a vs _ q1 q2 q3 => cases r3 with
        | @lst b ws _ p1 p2 p3 => exact ⟨a, b, vs, ws, rfl, SqL.of (s1.sub _ _ q1), SqL.of (s1.sub _ _ p1), k _ α1 F1 H1 x1 s1 rfl (wd_zip (SqL.of q1) ⟨q2, q3⟩ (SqL.of p1) ⟨p2, p3⟩)⟩⟩
  · cases q
theorem pi_enm {elts : List Expr} {kk : Nat} {tpos : Pos} (hg : Gl X "enumerate") (hm : X.mg "enumerate" = none) (ha : PAd ca Γ X [e] (.cons A .nil))
    (hs : starEach [e] X.env = [(false, eval e X.env)] := by rfl) : PId ca Γ X (.Tuple elts kk tpos) (.Call (.Name "enumerate" p) [e] [] pos) (.enm A) := by
  intro ρ μ xs w μ' q
  simp only [evI] at q
  obtain ⟨x, μ0, e0, q⟩ := bnd_eq q
  split at q
  · simp only [Option.some.injEq, Prod.mk.injEq] at q
    obtain ⟨⟨rfl, rfl⟩, rfl⟩ := q
    exact (pi_enum hg hm (ha _ _ _ _ (by simp only [evs, e0, bnd_some]; rfl)) hs).mono fun σ H R ⟨α, F, s, re, k⟩ => ⟨α, F, s, re, fun vs α1 F1 H1 x1 s1 r1 => by
      obtain ⟨v, vr, ev0, r4, r2⟩ := r1.cons_inv; subst ev0
      cases r2.nil_iff
      cases r4 with
      | @lst a vs _ q1 q2 q3 => exact ⟨a, vs, rfl, SqL.of (s1.sub _ _ q1), k _ α1 F1 H1 x1 s1 rfl (wd_enum (SqL.of q1) ⟨q2, q3⟩)⟩⟩
  · cases q
end
end DP

/-! Rules: comprehensions. -/
namespace DP
open PySem PySem.Spec L2

/-! ### transformers that speak of all data at once -/
section
variable (K : PySem.W.Frag) (ca : Str → Option Addr) (Γ : Pr)
def uE (E : E) : TE := fun σ H Q => ∃ ρ μ d μ', ev Γ E ρ μ = some (d, μ') ∧ tD K ca ρ μ d μ' σ H Q
def uT (E : E) : TT := fun σ H Q => ∃ ρ μ b μ', evT Γ E ρ μ = some (b, μ') ∧ tDT K ca ρ μ b μ' σ H Q
def uG (T : Tg) : TG := fun v σ H Q => ∃ ρ μ d ρ' μ', bind Γ T d ρ μ = some (ρ', μ') ∧ tG K ca T.sl ρ μ d ρ' μ' v σ H Q
def uI (E : E) : TI := fun σ H R => ∃ ρ μ xs w μ', evI Γ E ρ μ = some ((xs, w), μ') ∧ tDI K ca ρ μ xs w μ' σ H R
end
section
variable {ca : Str → Option Addr} {Γ : Pr} {X : Cx} {e it tg : Expr} {ifs : List Expr} {A I C : E} {T : Tg}
theorem PEd.u (h : PEd ca Γ X e A) : PE X e (uE X.K ca Γ A) := ⟨fun pins s σ H Q I ⟨ρ, μ, d, μ', q, t⟩ => (h _ _ _ _ q).run pins s σ H Q I t⟩
theorem PTd.u (h : PTd ca Γ X e A) : PT X e (uT X.K ca Γ A) := ⟨fun pins s σ H Q I ⟨ρ, μ, d, μ', q, t⟩ => (h _ _ _ _ q).run pins s σ H Q I t⟩
theorem PTsd.u (h : PTsd ca Γ X ifs A) : PTs X ifs (uT X.K ca Γ A) := ⟨fun pins s σ H Q I ⟨ρ, μ, d, μ', q, t⟩ => (h _ _ _ _ q).run pins s σ H Q I t⟩
theorem PGd.u (h : PGd ca Γ X tg T) : PG X tg (uG X.K ca Γ T) := ⟨fun pins s σ H v u Q I r ⟨ρ, μ, d, ρ', μ', q, t⟩ => (h _ _ _ _ _ q).run pins s σ H v u Q I r t⟩
theorem PId.u (h : PId ca Γ X tg it A) : PI X tg it (uI X.K ca Γ A) := ⟨fun pins s σ H R I ⟨ρ, μ, xs, w, μ', q, t⟩ => (h _ _ _ _ _ q).run pins s σ H R I t⟩
end

/-! ### names of a block -/
theorem wipe_at (σ : L2.St) : ∀ (vs : List Nat) (i : Nat), (wipe σ vs)[i]? = if i ∈ vs then (if i < σ.length then some none else none) else σ[i]?
  | [], i => by simp [wipe]
  | v :: vs, i => by
    have ih := wipe_at σ vs i
    have hl := wipe_length σ vs
    unfold wipe
    by_cases h : v = i
    · subst h
      rw [if_pos (by simp)]
      by_cases hv : v < σ.length
      · rw [if_pos hv, List.getElem?_set_self (by rw [hl]; exact hv)]
      · rw [if_neg hv]; apply List.getElem?_eq_none; rw [List.length_set, hl]; omega
    · rw [List.getElem?_set_ne h, ih]
      have : (i ∈ v :: vs) ↔ i ∈ vs := by simp; exact fun e => absurd e.symm h
      simp only [this]
theorem wipeD_len (ρ : Rho) : ∀ vs, (wipeD ρ vs).length = ρ.length
  | [] => rfl
  | v :: vs => by unfold wipeD; rw [List.length_set, wipeD_len ρ vs]
theorem wipeD_some {ρ : Rho} {i : Nat} {d : D} : ∀ {vs : List Nat}, (wipeD ρ vs)[i]? = some (some d) → ρ[i]? = some (some d) ∧ i ∉ vs
  | [], h => ⟨h, by simp⟩
  | v :: vs, h => by
    unfold wipeD at h
    by_cases hi : v = i
    · subst hi
      by_cases hv : v < (wipeD ρ vs).length
      · rw [List.getElem?_set_self hv] at h; cases h
      · rw [List.getElem?_eq_none (by rw [List.length_set]; omega)] at h; cases h
    · rw [List.getElem?_set_ne hi] at h
      obtain ⟨h1, h2⟩ := wipeD_some h
      exact ⟨h1, by simp only [List.mem_cons, not_or]; exact ⟨fun e => hi e.symm, h2⟩⟩
theorem wipe_same {σ σ' : L2.St} {is vs : List Nat} (o : Out is (wipe σ vs) σ') (h : ∀ i ∈ is, i ∈ vs) : wipe σ' vs = wipe σ vs := by
  apply List.ext_getElem?
  intro i
  have hl := o.1
  rw [wipe_length] at hl
  rw [wipe_at, wipe_at, hl]
  by_cases hi : i ∈ vs
  · rw [if_pos hi, if_pos hi]
  · rw [if_neg hi, if_neg hi, o.2 i fun q => hi (h i q), wipe_at, if_neg hi]
theorem wipe_same' {σ : L2.St} {σ' : L2.St} {is vs : List Nat} (o : Out is σ σ') (h : ∀ i ∈ is, i ∈ vs) : wipe σ' vs = wipe σ vs := by
  apply List.ext_getElem?
  intro i
  rw [wipe_at, wipe_at, o.1]
  by_cases hi : i ∈ vs
  · rw [if_pos hi, if_pos hi]
  · rw [if_neg hi, if_neg hi, o.2 i fun q => hi (h i q)]
section
variable {K : PySem.W.Frag} {ca : Str → Option Addr} {α αs αw : List Addr} {F Fs Fw H : Hp} {σ : L2.St} {ρ : Rho} {μ μ' : Sto} {L : Addr} {J : It} {xs : List D} {w : Wt}
theorem RE.wipe (r : RE K ca α F σ ρ) (vs : List Nat) : RE K ca α F (wipe σ vs) (wipeD ρ vs) := ⟨by rw [wipe_length, wipeD_len]; exact r.1, fun i d h => by
  obtain ⟨h1, h2⟩ := wipeD_some h
  obtain ⟨v, g1, g2⟩ := r.2 i d h1
  exact ⟨v, by rw [wipe_out h2]; exact g1, g2⟩⟩

/-- what stands while a new list L grows: the marks, the state, what is gathered -/
structure Gro (K : PySem.W.Frag) (ca : Str → Option Addr) (α : List Addr) (F : Hp) (αw : List Addr) (Fw : Hp) (L : Addr) (μ : Sto) (accd : List D) (H : Hp) (α' : List Addr) (F' : Hp) (acc : List V) : Prop where
  x : Ext α F α' F'
  w : Wxt αw Fw α' F'
  s : Sim K ca α' F' μ H
  m : F' L = some (mark (.lst acc))
  r : Reps K ca α' F' acc accd
theorem Gro.go {accd acc H α' F' α2 F2 H2 μ2} (g : Gro K ca α F αw Fw L μ accd H α' F' acc) (x : Ext α' F' α2 F2) (s : Sim K ca α2 F2 μ2 H2) : Gro K ca α F αw Fw L μ2 accd H2 α2 F2 acc :=
  ⟨g.x.trans x, g.w.trans x.w, s, x.fr _ _ g.m, g.r.mono x⟩
theorem Gro.at {accd acc H α' F'} (g : Gro K ca α F αw Fw L μ accd H α' F' acc) : H L = some (.lst acc) := g.s.sub _ _ g.m
/-- one more -/
theorem Gro.add {accd acc H α' F' y d} (hF : F L = none) (g : Gro K ca α F αw Fw L μ accd H α' F' acc) (r : Rep K ca α' F' y d) :
    Gro K ca α F αw Fw L μ (accd ++ [d]) (upd H L (.lst (acc ++ [y]))) α' (upd F' L (mark (.lst (acc ++ [y])))) (acc ++ [y]) := by
  obtain ⟨s, x⟩ := g.s.swap (F' := upd F' L (mark (.lst (acc ++ [y])))) (H' := upd H L (.lst (acc ++ [y]))) g.m (fun a h => upd_ne h) (fun a h => upd_ne h) fun o h => by rw [upd_same] at h ⊢; cases h; rfl
  refine ⟨⟨g.x.pre, fun a o h => ?_⟩, g.w.trans x, s, upd_same, (g.r.monoW x).append (.cons (r.monoW x) .nil)⟩
  rw [upd_ne (ne_of_none h hF)]; exact g.x.fr a o h
/-- the loop -/
theorem lc_gen {f : D → Sto → Option (List D × Sto)} {accd0 ys : List D} {acc0 : List V} (hF : F L = none) (T : V → Hp → (Hp → Prop) → Prop) (Q : Hp → Prop)
    (g0 : Gro K ca α F αw Fw L μ accd0 H αs Fs acc0) (hw : watch w μ = true) (W : WalkD K ca αw Fw J xs w) (hr : lcLoop w f xs μ = some (ys, μ')) (hz : accd0.length + ys.length ≤ sizeLine)
    (turn : ∀ d v α1 F1 μ1 H1 acc accd outs μ2 (Nx : Hp → Prop), Gro K ca α F αw Fw L μ1 accd H1 α1 F1 acc → Rep K ca α1 F1 v d → f d μ1 = some (outs, μ2) → accd.length + outs.length ≤ sizeLine →
      (∀ α2 F2 H2 acc2, Gro K ca α F αw Fw L μ2 (accd ++ outs) H2 α2 F2 acc2 → Nx H2) → T v H1 Nx)
    (done : ∀ α2 F2 H2 acc2, Gro K ca α F αw Fw L μ' (accd0 ++ ys) H2 α2 F2 acc2 → Q H2) :
    ∃ W : Nat → Nat → Hp → Prop, (∃ m, W 0 m H) ∧ ∀ i m H, W i m H → (J.stop i H ∧ Q H) ∨ (J.go i H ∧ ∃ Nx : Hp → Prop, (∀ H', Nx H' → ∃ m', m' < m ∧ W (i + 1) m' H') ∧ ∀ x H', J.yld i H x H' → T x H' Nx) := by
  refine ⟨fun i m H => m = xs.length - i ∧ i ≤ xs.length ∧ ∃ α1 F1 μ1 acc accd rest, Gro K ca α F αw Fw L μ1 accd H α1 F1 acc ∧ watch w μ1 = true ∧ lcLoop w f (xs.drop i) μ1 = some (rest, μ') ∧ accd ++ rest = accd0 ++ ys, ⟨xs.length, by simp, Nat.zero_le _, αs, Fs, μ, acc0, accd0, ys, g0, hw, by simpa using hr, rfl⟩, ?_⟩
  rintro i m H ⟨rfl, hi, α1, F1, μ1, acc, accd, rest, g, hw1, hr1, he⟩
  by_cases hlt : i < xs.length
  · refine .inr ⟨W.goes i _ _ _ _ hlt g.w g.s hw1, fun H' => ∃ α1 F1 μ1 acc accd rest, Gro K ca α F αw Fw L μ1 accd H' α1 F1 acc ∧ watch w μ1 = true ∧ lcLoop w f (xs.drop (i + 1)) μ1 = some (rest, μ') ∧ accd ++ rest = accd0 ++ ys,
      fun H' p => ⟨xs.length - (i + 1), by omega, rfl, hlt, p⟩, fun v H' y => ?_⟩
    have hd : xs[i]? = some (xs[i]) := by simp [hlt]
    obtain ⟨F2, x2, s2, r2⟩ := W.yields i _ v _ _ _ _ _ hd g.w g.s hw1 y
    rw [List.drop_eq_getElem_cons hlt] at hr1
    simp only [lcLoop] at hr1
    obtain ⟨o1, μ2, e1, hr1⟩ := bnd_eq hr1
    split at hr1
    · rename_i hw2
      obtain ⟨o2, μ3, e2, hr1⟩ := bnd_eq hr1
      cases hr1
      have hlen : accd.length + (o1 ++ o2).length = accd0.length + ys.length := by have := congrArg List.length he; simp only [List.length_append] at this ⊢; omega
      exact turn _ v _ _ _ _ _ _ _ _ _ (g.go x2 s2) r2 e1 (by simp only [List.length_append] at hlen; omega) fun α3 F3 H3 acc3 g3 => ⟨α3, F3, μ2, acc3, accd ++ o1, o2, g3, hw2, e2, by rw [← he]; simp⟩
    · cases hr1
  · have e : i = xs.length := by omega
    subst e
    rw [List.drop_length] at hr1
    cases hr1
    rw [List.append_nil] at he
    subst he
    exact .inl ⟨W.stops _ _ _ _ g.w g.s hw1, done _ _ _ _ g⟩
/-- the new list is done with -/
theorem Gro.fin {m : Bool} {ys : List D} {acc : List V} {H α' F' d μ2} {Q : VK} (hF : F L = none) (g : Gro K ca α F αw Fw L μ ys H α' F' acc) (h : alloc m ys μ = some (d, μ2)) (k : Kon K ca α F d μ2 Q) : Q (.ref L) H := by
  unfold alloc at h
  split at h
  · cases m with
    | true =>
      simp only [if_true, Option.some.injEq, Prod.mk.injEq] at h
      obtain ⟨rfl, rfl⟩ := h
      obtain ⟨s, x, e⟩ := g.s.cellOf (F' := fun a => if a = L then none else F' a) (c := .lst ys) g.m (fun a h => if_neg h) (if_pos rfl) ⟨acc, g.at, g.r⟩
      refine k _ _ _ _ ⟨?_, fun a o h => ?_⟩ s (.cell e)
      · obtain ⟨β, rfl⟩ := g.x.pre; exact ⟨β ++ [L], by simp⟩
      · rw [if_neg (ne_of_none h hF)]; exact g.x.fr a o h
    | false =>
      simp only [if_false, Option.some.injEq, Prod.mk.injEq, Bool.false_eq_true] at h
      obtain ⟨rfl, rfl⟩ := h
      obtain ⟨s, x⟩ := g.s.swap (F' := upd F' L (.lst acc)) (H' := H) g.m (fun a h => upd_ne h) (fun a h => rfl) fun o h => by rw [upd_same] at h; cases h; exact g.at
      have r := g.r.monoW x
      exact k _ _ _ _ ⟨g.x.pre, fun a o h => by rw [upd_ne (ne_of_none h hF)]; exact g.x.fr a o h⟩ s (.lst upd_same r.1 r.2)
  · cases h
end

/-! ### list comprehensions -/
section
variable {K : PySem.W.Frag} {ca : Str → Option Addr} {Γ : Pr} {ρ : Rho} {μ μ' : Sto} {d : D}
theorem lc_reads {m : Bool} {vs : List Nat} {T : Tg} {I C A : E} (hsl : ∀ i ∈ T.sl, i ∈ vs) (h : ev Γ (.lc m vs T I C A) ρ μ = some (d, μ')) (σ : L2.St) (H : Hp) (Q : VK) (t : tD K ca ρ μ d μ' σ H Q) :
    tLc (uI K ca Γ I) (uG K ca Γ T) (uT K ca Γ C) (uE K ca Γ A) vs σ H Q := by
  simp only [ev] at h
  obtain ⟨⟨xs, w⟩, μ1, e1, h⟩ := bnd_eq h
  obtain ⟨ys, μ2, e2, h⟩ := bnd_eq h
  obtain ⟨α, F, s, re, k⟩ := t
  refine ⟨ρ, μ, xs, w, μ1, e1, α, F, s, re, fun J α1 F1 H1 x1 s1 hw W => ?_⟩
  intro L hL
  obtain ⟨sm, xm, hF⟩ := s1.marked (u := .lst []) hL
  refine lc_gen (acc0 := []) (accd0 := []) hF (fun v H' Nx => uG K ca Γ T v (wipe σ vs) H' fun σ2 H2 => wipe σ2 vs = wipe σ vs ∧ uT K ca Γ C σ2 H2 fun b H3 =>
      if b = true then uE K ca Γ A σ2 H3 fun y H4 => ∃ acc, H4 L = some (.lst acc) ∧ acc.length < sizeLine ∧ Nx (upd H4 L (.lst (acc ++ [y]))) else Nx H3) (fun H => Q (.ref L) H)
    ⟨xm, xm.w, sm, upd_same, .nil⟩ hw W e2 (by have := alloc_len h; simpa using this) (fun dd v α1' F1' μa Ha acc accd outs μb Nx g r e hl hn => ?_) fun α2 F2 H2 acc2 g => g.fin hF h (k.ext x1)
  obtain ⟨p, b1, e⟩ := Option.bind_eq_some_iff.mp e
  obtain ⟨kk, μc, b2, e⟩ := bnd_eq e
  refine ⟨wipeD ρ vs, μa, dd, p.1, p.2, b1, α1', F1', g.s, ((re.mono x1).monoW g.w).wipe vs, r, fun σ2 α2 F2 H2 x2 s2 re2 o2 => ⟨wipe_same o2 hsl, p.1, p.2, kk, μc, b2, α2, F2, s2, re2, fun α3 F3 H3 x3 s3 => ?_⟩⟩
  cases kk with
  | true =>
    simp only [if_true] at e ⊢
    obtain ⟨y, μd, b3, e⟩ := bnd_eq e
    cases e
    refine ⟨p.1, μc, y, _, b3, α3, F3, s3, re2.mono x3, fun yv α4 F4 H4 x4 s4 r4 => ?_⟩
    have g4 := g.go (x2.trans (x3.trans x4)) s4
    exact ⟨acc, g4.at, by rw [g4.r.1]; simp at hl; omega, hn _ _ _ _ (g4.add hF r4)⟩
  | false =>
    simp only [Bool.false_eq_true, if_false] at e ⊢
    cases e
    have g3 := g.go (x2.trans x3) s3
    exact hn _ _ _ _ (by rw [List.append_nil]; exact g3)
theorem lc2_reads {m : Bool} {vs : List Nat} {T T1 : Tg} {I C I1 C1 A : E} (hsl : ∀ i ∈ T.sl, i ∈ vs) (h : ev Γ (.lc2 m vs T I C T1 I1 C1 A) ρ μ = some (d, μ')) (σ : L2.St) (H : Hp) (Q : VK) (t : tD K ca ρ μ d μ' σ H Q) :
    tLc2 (uI K ca Γ I) (uG K ca Γ T) (uT K ca Γ C) (uI K ca Γ I1) (uG K ca Γ T1) (uT K ca Γ C1) (uE K ca Γ A) vs T1.sl σ H Q := by
  simp only [ev] at h
  obtain ⟨⟨xs, w⟩, μ1, e1, h⟩ := bnd_eq h
  obtain ⟨ys, μ2, e2, h⟩ := bnd_eq h
  obtain ⟨α, F, s, re, k⟩ := t
  refine ⟨ρ, μ, xs, w, μ1, e1, α, F, s, re, fun J α1 F1 H1 x1 s1 hw W => ?_⟩
  intro L hL
  obtain ⟨sm, xm, hF⟩ := s1.marked (u := .lst []) hL
  refine lc_gen (acc0 := []) (accd0 := []) hF (fun v H' Nx => uG K ca Γ T v (wipe σ vs) H' fun σ2 H2 => wipe σ2 vs = wipe σ vs ∧ uT K ca Γ C σ2 H2 fun b H3 =>
    if b = true then uI K ca Γ I1 σ2 H3 fun J1 H4 => ∃ W1 : Nat → Nat → Hp → Prop, (∃ m, W1 0 m H4) ∧ ∀ j k H, W1 j k H →
      (J1.stop j H ∧ Nx H) ∨ (J1.go j H ∧ ∃ Nx1 : Hp → Prop, (∀ H', Nx1 H' → ∃ k', k' < k ∧ W1 (j + 1) k' H') ∧ ∀ x H', J1.yld j H x H' → uG K ca Γ T1 x (wipe σ2 T1.sl) H' fun σ3 H5 => wipe σ3 T1.sl = wipe σ2 T1.sl ∧ uT K ca Γ C1 σ3 H5 fun b H6 =>
        if b = true then uE K ca Γ A σ3 H6 fun y H7 => ∃ acc, H7 L = some (.lst acc) ∧ acc.length < sizeLine ∧ Nx1 (upd H7 L (.lst (acc ++ [y]))) else Nx1 H6)
    else Nx H3) (fun H => Q (.ref L) H)
    ⟨xm, xm.w, sm, upd_same, .nil⟩ hw W e2 (by have := alloc_len h; simpa using this) (fun dd v α1' F1' μa Ha acc accd outs μb Nx g r e hl hn => ?_) fun α2 F2 H2 acc2 g => g.fin hF h (k.ext x1)
  obtain ⟨p, b1, e⟩ := Option.bind_eq_some_iff.mp e
  obtain ⟨kk, μc, b2, e⟩ := bnd_eq e
  refine ⟨wipeD ρ vs, μa, dd, p.1, p.2, b1, α1', F1', g.s, ((re.mono x1).monoW g.w).wipe vs, r, fun σ2 α2 F2 H2 x2 s2 re2 o2 => ⟨wipe_same o2 hsl, p.1, p.2, kk, μc, b2, α2, F2, s2, re2, fun α3 F3 H3 x3 s3 => ?_⟩⟩
  cases kk with
  | true =>
    simp only [if_true] at e ⊢
    obtain ⟨⟨xs1, w1⟩, μd, b3, e⟩ := bnd_eq e
    refine ⟨p.1, μc, xs1, w1, μd, b3, α3, F3, s3, re2.mono x3, fun J1 α4 F4 H4 x4 s4 hw4 W4 => ?_⟩
    have g4 := g.go (x2.trans (x3.trans x4)) s4
    have re4 := (re2.mono x3).mono x4
    refine lc_gen (αw := α4) (Fw := F4) hF (fun x H' Nx1 => uG K ca Γ T1 x (wipe σ2 T1.sl) H' fun σ3 H5 => wipe σ3 T1.sl = wipe σ2 T1.sl ∧ uT K ca Γ C1 σ3 H5 fun b H6 =>
        if b = true then uE K ca Γ A σ3 H6 fun y H7 => ∃ acc, H7 L = some (.lst acc) ∧ acc.length < sizeLine ∧ Nx1 (upd H7 L (.lst (acc ++ [y]))) else Nx1 H6) Nx
      ⟨g4.x, (Ext.refl _ _).w, s4, g4.m, g4.r⟩ hw4 W4 e hl (fun dd v α1' F1' μa Ha acc accd outs μb Nx g5 r e hl hn => ?_) fun α2 F2 H2 acc2 g6 => hn _ _ _ _ ⟨g6.x, g4.w.trans g6.w, g6.s, g6.m, g6.r⟩
    obtain ⟨p5, b1, e⟩ := Option.bind_eq_some_iff.mp e
    obtain ⟨kk, μc, b2, e⟩ := bnd_eq e
    refine ⟨wipeD p.1 T1.sl, μa, dd, p5.1, p5.2, b1, α1', F1', g5.s, (re4.monoW g5.w).wipe _, r, fun σ2 α2 F2 H2 x2 s2 re2 o2 => ⟨wipe_same o2 fun _ z => z, p5.1, p5.2, kk, μc, b2, α2, F2, s2, re2, fun α3 F3 H3 x3 s3 => ?_⟩⟩
    cases kk with
    | true =>
      simp only [if_true] at e ⊢
      obtain ⟨y, μd, b3, e⟩ := bnd_eq e
      cases e
      refine ⟨p5.1, μc, y, _, b3, α3, F3, s3, re2.mono x3, fun yv α4 F4 H4 x4 s4 r4 => ?_⟩
      have g4 := g5.go (x2.trans (x3.trans x4)) s4
      exact ⟨acc, g4.at, by rw [g4.r.1]; simp at hl; omega, hn _ _ _ _ (g4.add hF r4)⟩
    | false =>
      simp only [Bool.false_eq_true, if_false] at e ⊢
      cases e
      have g3 := g5.go (x2.trans x3) s3
      exact hn _ _ _ _ (by rw [List.append_nil]; exact g3)
  | false =>
    simp only [Bool.false_eq_true, if_false] at e ⊢
    cases e
    have g3 := g.go (x2.trans x3) s3
    exact hn _ _ _ _ (by rw [List.append_nil]; exact g3)
end
section
variable {ca : Str → Option Addr} {Γ : Pr} {X : Cx} {elt tg iter tg1 iter1 : Expr} {ifs ifs1 : List Expr} {scope : Scope} {pos : Pos} {T T1 : Tg} {I C I1 C1 A : E} {m : Bool}
theorem pd_lc (own : List (Str × Nat)) {vs : List Nat} (hc : X.calm = true) (hN : X.N.Nodup) (ok : BlkOk X.N X.env.scope scope own) (hi : PId ca Γ X tg iter I)
    (hg : ∀ (s : Shared) (H : Hp) (C : Addr) (cl : List (Str × Addr)) (fp : List Addr), PGd ca Γ (X.blk s H scope (compEnvC scope cl C X.env) fp) tg T) (ht : ∀ (s : Shared) (H : Hp) (C' : Addr) (cl : List (Str × Addr)) (fp : List Addr), PTsd ca Γ (X.blk s H scope (compEnvC scope cl C' X.env) fp) ifs C)
    (he : ∀ (s : Shared) (H : Hp) (C : Addr) (cl : List (Str × Addr)) (fp : List Addr), PEd ca Γ (X.blk s H scope (compEnvC scope cl C X.env) fp) elt A) (hs : ∀ x, foldedSetIterable iter X.env x = pure x := by intro _; rfl)
    (hv : own.map (·.2) = vs := by rfl) (hsl : T.sl.all (fun i => vs.contains i) = true := by rfl) : PEd ca Γ X (.ListComp elt [⟨tg, iter, ifs, 0⟩] scope pos) (.lc m vs T I C A) := by
  intro ρ μ d μ' h
  subst hv
  exact (pe_lc hc hN hi.u ok (fun s H C cl fp => (hg s H C cl fp).u) (fun s H C cl fp => (ht s H C cl fp).u) (fun s H C cl fp => (he s H C cl fp).u) hs).mono fun σ H Q t => lc_reads (by simpa using hsl) h σ H Q t
theorem pd_lc2 (own : List (Str × Nat)) {vs : List Nat} (hc : X.calm = true) (hN : X.N.Nodup) (ok : BlkOk X.N X.env.scope scope own) (hi : PId ca Γ X tg iter I)
    (hg : ∀ (s : Shared) (H : Hp) (C : Addr) (cl : List (Str × Addr)) (fp : List Addr), PGd ca Γ (X.blk s H scope (compEnvC scope cl C X.env) fp) tg T) (ht : ∀ (s : Shared) (H : Hp) (C' : Addr) (cl : List (Str × Addr)) (fp : List Addr), PTsd ca Γ (X.blk s H scope (compEnvC scope cl C' X.env) fp) ifs C)
    (hi1 : ∀ (s : Shared) (H : Hp) (C : Addr) (cl : List (Str × Addr)) (fp : List Addr), PId ca Γ (X.blk s H scope (compEnvC scope cl C X.env) fp) tg1 iter1 I1)
    (hg1 : ∀ (s : Shared) (H : Hp) (C : Addr) (cl : List (Str × Addr)) (fp : List Addr), PGd ca Γ (X.blk s H scope (compEnvC scope cl C X.env) fp) tg1 T1) (ht1 : ∀ (s : Shared) (H : Hp) (C' : Addr) (cl : List (Str × Addr)) (fp : List Addr), PTsd ca Γ (X.blk s H scope (compEnvC scope cl C' X.env) fp) ifs1 C1)
    (he : ∀ (s : Shared) (H : Hp) (C : Addr) (cl : List (Str × Addr)) (fp : List Addr), PEd ca Γ (X.blk s H scope (compEnvC scope cl C X.env) fp) elt A) (hs : ∀ x, foldedSetIterable iter X.env x = pure x := by intro _; rfl) (hs1 : ∀ env x, foldedSetIterable iter1 env x = pure x := by intro _ _; rfl)
    (hv : own.map (·.2) = vs := by rfl) (hsl : T.sl.all (fun i => vs.contains i) = true := by rfl) (hsl1 : T1.sl.all (fun i => vs.contains i) = true := by rfl) : PEd ca Γ X (.ListComp elt [⟨tg, iter, ifs, 0⟩, ⟨tg1, iter1, ifs1, 0⟩] scope pos) (.lc2 m vs T I C T1 I1 C1 A) := by
  intro ρ μ d μ' h
  subst hv
  exact (pe_lc2 hc hN hi.u ok (by simpa using hsl1) (fun s H C cl fp => (hg s H C cl fp).u) (fun s H C cl fp => (ht s H C cl fp).u) (fun s H C cl fp => (hi1 s H C cl fp).u) (fun s H C cl fp => (hg1 s H C cl fp).u) (fun s H C cl fp => (ht1 s H C cl fp).u) (fun s H C cl fp => (he s H C cl fp).u) hs hs1).mono fun σ H Q t => lc2_reads (by simpa using hsl) h σ H Q t
end
end DP

/-! Rules: statements. -/
namespace DP
open PySem PySem.Spec L2

/-! ### the store down to its first cells -/
mutual
theorem under_get (n : Nat) : ∀ (ds : List D), D.under.D.unders n ds = true → ∀ (i : Nat) d, ds[i]? = some d → D.under n d = true
  | [], _, i, d, h => by simp at h
  | x :: ds, hu, 0, d, h => by simp [D.under.D.unders] at hu; simp at h; rw [← h]; exact hu.1
  | x :: ds, hu, i + 1, d, h => by simp [D.under.D.unders] at hu; exact under_get n ds hu.2 i d (by simpa using h)
end
theorem under_look (n : Nat) : ∀ (fs : List (Str × D)), D.under.D.underF n fs = true → ∀ f d, fs.lookup f = some d → D.under n d = true
  | [], _, f, d, h => by simp at h
  | (g, x) :: fs, hu, f, d, h => by
    simp [D.under.D.underF] at hu
    by_cases e : f = g
    · subst e; simp at h; rw [← h]; exact hu.1
    · have : (f == g) = false := by simp [e]
      simp only [List.lookup, this] at h
      exact under_look n fs hu.2 f d h
section
variable {K : PySem.W.Frag} {ca : Str → Option Addr} {α β : List Addr} {F H : Hp} {v : V} {d : D} {μ : Sto} {σ : L2.St} {ρ : Rho}
theorem Rep.under {α' : List Addr} (r : Rep K ca α' F v d) (h : D.under α.length d = true) (e : α' = α ++ β) : Rep K ca α F v d := by
  induction r with
  | non => exact .non
  | bl b => exact .bl b
  | int i => exact .int i
  | str z => exact .str z
  | tup h1 l _ ih => exact .tup h1 l fun i v d q1 q2 => ih i v d q1 q2 (under_get _ _ h i d q2)
  | lst h1 l _ ih => exact .lst h1 l fun i v d q1 q2 => ih i v d q1 q2 (under_get _ _ h i d q2)
  | scr h1 => exact .scr h1
  | obj vv h1 h2 h3 h4 _ ih => exact .obj vv h1 h2 h3 h4 fun f d q => ih f d q (under_look _ _ h f d q)
  | @cell a n q =>
    subst e
    have hn : n < α.length := by simpa [D.under] using h
    rw [List.getElem?_append_left hn] at q
    exact .cell q
theorem Reps.under {vs : List V} {ds : List D} (r : Reps K ca (α ++ β) F vs ds) (h : D.under.D.unders α.length ds = true) : Reps K ca α F vs ds := ⟨r.1, fun i v d h1 h2 => (r.2 i v d h1 h2).under (under_get _ _ h i d h2) rfl⟩
theorem unders_map (n : Nat) : ∀ kvs : List (Key × D), (kvs.all fun kv => D.under n kv.2) = true → D.under.D.unders n (kvs.map (·.2)) = true
  | [], _ => rfl
  | p :: r, h => by
    simp only [List.all_cons, Bool.and_eq_true] at h
    simp [D.under.D.unders, h.1, unders_map n r h.2]
theorem Sim.cut {n : Nat} (s : Sim K ca (α ++ β) F μ H) (hn : n = α.length) (hc : (μ.take n).all (cutOk n) = true) : Sim K ca α F (μ.take n) H := by
  subst hn
  have hl := s.len
  have lt : ∀ (m : Nat) a, α[m]? = some a → m < α.length ∧ (α ++ β)[m]? = some a := fun m a h => by
    have := (List.getElem?_eq_some_iff.mp h).1
    exact ⟨this, by rw [List.getElem?_append_left this]; exact h⟩
  have tk : ∀ (m : Nat) c, (μ.take α.length)[m]? = some c → μ[m]? = some c ∧ c ∈ μ.take α.length := fun m c h => by
    refine ⟨?_, List.mem_of_getElem? h⟩
    rw [List.getElem?_take] at h
    split at h
    · exact h
    · cases h
  refine ⟨by rw [List.length_take, ← hl]; simp, s.sub, fun m c a h1 h2 => ?_, fun m k a h1 h2 => s.inj m k a (lt m a h1).2 (lt k a h2).2, fun m c a h1 h2 h3 => s.off m c a (tk m c h1).1 h2 (lt m a h3).2, fun m a h => s.trk m a (lt m a h).2, fun m a u h => s.mrk m a u (lt m a h).2⟩
  obtain ⟨g1, g2⟩ := tk m c h1
  have q := s.cel m c a g1 (lt m a h2).2
  have hu : cutOk α.length c = true := List.all_eq_true.mp hc c g2
  cases c with
  | lst ds => obtain ⟨vs, p1, p2⟩ := q; exact ⟨vs, p1, p2.under hu⟩
  | dct kvs =>
    obtain ⟨vs, p1, p2⟩ := q
    exact ⟨vs, p1, p2.1, p2.2.under (unders_map _ _ hu)⟩
  | ins C gs =>
    obtain ⟨c, dx, fs, p1, p2, p3, p4⟩ := q
    exact ⟨c, dx, fs, p1, p2, fun f => ⟨(p3 f).1, fun d e => by
      obtain ⟨v, k1, k2⟩ := (p3 f).2 d e
      exact ⟨v, k1, k2.under (under_look _ _ hu f d e) rfl⟩⟩, p4⟩
  | dead => trivial
theorem RE.cut {n : Nat} (r : RE K ca (α ++ β) F σ ρ) (hn : n = α.length) : RE K ca α F σ (ρ.map fun o => match o with | some d => if D.under n d then some d else none | none => none) := by
  subst hn
  refine ⟨by rw [List.length_map]; exact r.1, fun i d h => ?_⟩
  rw [List.getElem?_map] at h
  obtain ⟨o, h1, h2⟩ := Option.map_eq_some_iff.mp h
  cases o with
  | none => cases h2
  | some d' =>
    simp only at h2
    split at h2
    · rename_i hu
      cases h2
      obtain ⟨v, g1, g2⟩ := r.2 i _ h1
      exact ⟨v, g1, g2.under hu rfl⟩
    · cases h2
end

/-! ### statements -/
section
variable (K : PySem.W.Frag) (ca : Str → Option Addr)
/-- where a statement may end -/
def Fin (α : List Addr) (F : Hp) (fl : Flw) (ρ' : Rho) (μ' : Sto) (D : Ends) : Prop := match fl with
  | .next => ∀ σ' α' F' H', Ext α F α' F' → Sim K ca α' F' μ' H' → RE K ca α' F' σ' ρ' → D.nx σ' H'
  | .brk => ∀ σ' α' F' H', Ext α F α' F' → Sim K ca α' F' μ' H' → RE K ca α' F' σ' ρ' → D.bk σ' H'
  | .cont => ∀ σ' α' F' H', Ext α F α' F' → Sim K ca α' F' μ' H' → RE K ca α' F' σ' ρ' → D.ct σ' H'
  | .ret d => ∀ v α' F' H', Ext α F α' F' → Sim K ca α' F' μ' H' → Rep K ca α' F' v d → D.rt v H'
def tSd (ρ : Rho) (μ : Sto) (fl : Flw) (ρ' : Rho) (μ' : Sto) : TS := fun D σ H => ∃ α F, Sim K ca α F μ H ∧ RE K ca α F σ ρ ∧ Fin K ca α F fl ρ' μ' D
def uS (Γ : Pr) (B : S) : TS := fun D σ H => ∃ ρ μ fl ρ' μ', evS Γ B ρ μ = some (fl, ρ', μ') ∧ tSd K ca ρ μ fl ρ' μ' D σ H
end
def PSd (ca : Str → Option Addr) (Γ : Pr) (X : Cx) (st : Stmt) (B : S) : Prop := ∀ ρ μ fl ρ' μ', evS Γ B ρ μ = some (fl, ρ', μ') → PS X st (tSd X.K ca ρ μ fl ρ' μ')
def PSsd (ca : Str → Option Addr) (Γ : Pr) (X : Cx) (st : List Stmt) (B : S) : Prop := ∀ ρ μ fl ρ' μ', evS Γ B ρ μ = some (fl, ρ', μ') → PSs X st (tSd X.K ca ρ μ fl ρ' μ')
section
variable {K : PySem.W.Frag} {ca : Str → Option Addr} {α α' : List Addr} {F F' : Hp} {fl : Flw} {ρ : Rho} {μ : Sto} {D : Ends}
theorem Fin.ext (k : Fin K ca α F fl ρ μ D) (x : Ext α F α' F') : Fin K ca α' F' fl ρ μ D := by
  cases fl <;> (intro a b c d e f g; exact k a b c d (x.trans e) f g)
end
section
variable {ca : Str → Option Addr} {Γ : Pr} {X : Cx} {st : Stmt} {rest body : List Stmt} {e o i tg it c : Expr} {A B C I : E} {T : Tg} {P Q : S} {pos p p' : Pos}
theorem PSsd.u (h : PSsd ca Γ X rest P) : PSs X rest (uS X.K ca Γ P) := ⟨fun pins s σ H D I ⟨ρ, μ, fl, ρ', μ', q, t⟩ => (h _ _ _ _ _ q).run pins s σ H D I t⟩
theorem ss_nil : PSsd ca Γ X [] .nil := by
  intro ρ μ fl ρ' μ' h
  simp only [evS, Option.some.injEq, Prod.mk.injEq] at h
  obtain ⟨rfl, rfl, rfl⟩ := h
  exact pss_nil.mono fun D σ H ⟨α, F, s, re, k⟩ => k σ α F H (Ext.refl _ _) s re
theorem ss_cons (h1 : PSd ca Γ X st P) (h2 : PSsd ca Γ X rest Q) : PSsd ca Γ X (st :: rest) (.seq P Q) := by
  intro ρ μ fl ρ' μ' h
  simp only [evS] at h
  cases e1 : evS Γ P ρ μ with
  | none => rw [e1] at h; cases h
  | some r =>
    obtain ⟨f1, ρ1, μ1⟩ := r
    rw [e1] at h
    cases f1 with
    | next =>
      simp only at h
      exact (pss_cons (h1 _ _ _ _ _ e1) (h2 _ _ _ _ _ h)).mono fun D σ H ⟨α, F, s, re, k⟩ => ⟨α, F, s, re, fun σ' α' F' H' x s' re' => ⟨α', F', s', re', k.ext x⟩⟩
    | brk => simp only at h; cases h; exact (pss_cons (h1 _ _ _ _ _ e1) pss_never).mono fun D σ H ⟨α, F, s, re, k⟩ => ⟨α, F, s, re, k⟩
    | cont => simp only at h; cases h; exact (pss_cons (h1 _ _ _ _ _ e1) pss_never).mono fun D σ H ⟨α, F, s, re, k⟩ => ⟨α, F, s, re, k⟩
    | ret d => simp only at h; cases h; exact (pss_cons (h1 _ _ _ _ _ e1) pss_never).mono fun D σ H ⟨α, F, s, re, k⟩ => ⟨α, F, s, re, k⟩
/-- the last statement -/
theorem ss_never : PSsd ca Γ X rest .never := by intro ρ μ fl ρ' μ' h; simp [evS] at h
theorem sd_never : PSd ca Γ X st .never := by intro ρ μ fl ρ' μ' h; simp [evS] at h
theorem sd_pass : PSd ca Γ X (.Pass pos) .pass := by
  intro ρ μ fl ρ' μ' h
  simp only [evS, Option.some.injEq, Prod.mk.injEq] at h
  obtain ⟨rfl, rfl, rfl⟩ := h
  exact ps_pass.mono fun D σ H ⟨α, F, s, re, k⟩ => k σ α F H (Ext.refl _ _) s re
theorem sd_doc {x : Str} {j} : PSd ca Γ X (.Expr (.Constant (.str x) j p) pos) .pass := by
  intro ρ μ fl ρ' μ' h
  simp only [evS, Option.some.injEq, Prod.mk.injEq] at h
  obtain ⟨rfl, rfl, rfl⟩ := h
  exact ps_doc.mono fun D σ H ⟨α, F, s, re, k⟩ => k σ α F H (Ext.refl _ _) s re
theorem sd_brk : PSd ca Γ X (.Break pos) .brk := by
  intro ρ μ fl ρ' μ' h
  simp only [evS, Option.some.injEq, Prod.mk.injEq] at h
  obtain ⟨rfl, rfl, rfl⟩ := h
  exact ps_break.mono fun D σ H ⟨α, F, s, re, k⟩ => k σ α F H (Ext.refl _ _) s re
theorem sd_cont : PSd ca Γ X (.Continue pos) .cont := by
  intro ρ μ fl ρ' μ' h
  simp only [evS, Option.some.injEq, Prod.mk.injEq] at h
  obtain ⟨rfl, rfl, rfl⟩ := h
  exact ps_continue.mono fun D σ H ⟨α, F, s, re, k⟩ => k σ α F H (Ext.refl _ _) s re
theorem sd_ret (h : PEd ca Γ X e A) : PSd ca Γ X (.Return (some e) pos) (.ret A) := by
  intro ρ μ fl ρ' μ' q
  simp only [evS] at q
  obtain ⟨d, μ1, e1, q⟩ := bnd_eq q
  cases q
  exact (ps_ret (h _ _ _ _ e1)).mono fun D σ H ⟨α, F, s, re, k⟩ => ⟨α, F, s, re, fun v α1 F1 H1 x1 s1 r1 => k v α1 F1 H1 x1 s1 r1⟩
theorem sd_retN : PSd ca Γ X (.Return none pos) .retN := by
  intro ρ μ fl ρ' μ' q
  simp only [evS] at q
  cases q
  exact ps_retN.mono fun D σ H ⟨α, F, s, re, k⟩ => k .non α F H (Ext.refl _ _) s .non
theorem sd_ex (h : PEd ca Γ X e A) (hs : swapsWith e none pos.line X.env = pure false := by rfl) : PSd ca Γ X (.Expr e pos) (.ex A) := by
  intro ρ μ fl ρ' μ' q
  simp only [evS] at q
  obtain ⟨d, μ1, e1, q⟩ := bnd_eq q
  cases q
  exact (ps_expr (h _ _ _ _ e1) hs).mono fun D σ H ⟨α, F, s, re, k⟩ => ⟨α, F, s, re, fun v α1 F1 H1 x1 s1 r1 => k σ α1 F1 H1 x1 s1 (re.mono x1)⟩
theorem sd_if (hc : PTd ca Γ X c C) (ha : PSsd ca Γ X body P) (hb : PSsd ca Γ X rest Q) : PSd ca Γ X (.If c body rest pos) (.ife C P Q) := by
  intro ρ μ fl ρ' μ' q
  simp only [evS] at q
  obtain ⟨k, μ1, e1, q⟩ := bnd_eq q
  cases k with
  | true =>
    simp only [if_true] at q
    exact (ps_if (hc _ _ _ _ e1) (ha _ _ _ _ _ q) pss_never).mono fun D σ H ⟨α, F, s, re, k⟩ => ⟨α, F, s, re, fun α1 F1 H1 x1 s1 => by
      simp only [if_true]; exact ⟨α1, F1, s1, re.mono x1, k.ext x1⟩⟩
  | false =>
    simp only [Bool.false_eq_true, if_false] at q
    exact (ps_if (hc _ _ _ _ e1) pss_never (hb _ _ _ _ _ q)).mono fun D σ H ⟨α, F, s, re, k⟩ => ⟨α, F, s, re, fun α1 F1 H1 x1 s1 => by
      simp only [Bool.false_eq_true, if_false]; exact ⟨α1, F1, s1, re.mono x1, k.ext x1⟩⟩
/-- target = value -/
theorem set_mono {te : TE} {g : TG} {ρ ρ' : Rho} {μ μ1 μ' : Sto} {d : D} (ht : ∀ σ H Q, tD X.K ca ρ μ d μ1 σ H Q → te σ H Q) (hg : ∀ v σ H Q, tG X.K ca T.sl ρ μ1 d ρ' μ' v σ H Q → g v σ H Q) (D : Ends) (σ : L2.St) (H : Hp)
    (t : tSd X.K ca ρ μ .next ρ' μ' D σ H) : tAsg te g D σ H := by
  obtain ⟨α, F, s, re, k⟩ := t
  exact ht _ _ _ ⟨α, F, s, re, fun v α1 F1 H1 x1 s1 r1 => hg _ _ _ _ ⟨α1, F1, s1, re.mono x1, r1, fun σ2 α2 F2 H2 x2 s2 re2 _ => k σ2 α2 F2 H2 (x1.trans x2) s2 re2⟩⟩
theorem sd_set (he : PEd ca Γ X e A) (hg : PGd ca Γ X tg T) (hs : swapsWithSole [tg] e pos.line X.env = pure false := by rfl) (hw : swappedStores [tg] e X.env = pure none := by rfl)
    (h1 : (assignEach [tg] X.env).map (·.2) = [assign tg X.env] := by rfl) : PSd ca Γ X (.Assign [tg] e pos) (.set T A) := by
  intro ρ μ fl ρ' μ' q
  simp only [evS] at q
  obtain ⟨d, μ1, e1, q⟩ := bnd_eq q
  obtain ⟨r, e2, q⟩ := Option.map_eq_some_iff.mp q
  cases q
  exact (ps_asg (he _ _ _ _ e1) (hg _ _ _ _ _ e2) hs hw h1).mono (set_mono (fun _ _ _ t => t) fun _ _ _ _ t => t)
theorem gname_mono {ρ ρ' : Rho} {μ μ' : Sto} {d : D} {i : Nat} (h : bind Γ (.one (.n i)) d ρ μ = some (ρ', μ')) (v : V) (σ : L2.St) (H : Hp) (Q : L2.St → Hp → Prop) (t : tG X.K ca (Tg.one (.n i)).sl ρ μ d ρ' μ' v σ H Q) : gName i v σ H Q := by
  obtain ⟨α, F, s, re, r, k⟩ := t
  simp only [bind, storeLeaf, Option.some.injEq, Prod.mk.injEq] at h
  obtain ⟨rfl, rfl⟩ := h
  exact k _ α F H (Ext.refl _ _) s (re.set i r) (Out.set i v σ)
/-- y = [.. for ..] on one line -/
theorem sd_setLc (own : List (Str × Nat)) {vs : List Nat} {j : Nat} {y : Str} {py spos : Pos} {elt tg iter : Expr} {ifs : List Expr} {scope : Scope} {m : Bool} (hc : X.calm = true) (hN : X.N.Nodup) (hy : X.N[j]? = some y) (hyl : X.env.scope.names.lookup y = some .local)
    (hsw : swapsWith (.ListComp elt [⟨tg, iter, ifs, 0⟩] scope pos) (some (.Name y py)) spos.line X.env = pure true) (ok : BlkOk X.N X.env.scope scope own) (hi : PId ca Γ X tg iter I)
    (hg : ∀ (s : Shared) (H : Hp) (C : Addr) (cl : List (Str × Addr)) (fp : List Addr), PGd ca Γ (X.blk s H scope (compEnvC scope cl C X.env) fp) tg T) (ht : ∀ (s : Shared) (H : Hp) (C' : Addr) (cl : List (Str × Addr)) (fp : List Addr), PTsd ca Γ (X.blk s H scope (compEnvC scope cl C' X.env) fp) ifs C)
    (he : ∀ (s : Shared) (H : Hp) (C : Addr) (cl : List (Str × Addr)) (fp : List Addr), PEd ca Γ (X.blk s H scope (compEnvC scope cl C X.env) fp) elt A) (hs : ∀ x, foldedSetIterable iter X.env x = pure x := by intro _; rfl)
    (hv : own.map (·.2) = vs := by rfl) (hsl : T.sl.all (fun i => vs.contains i) = true := by rfl) : PSd ca Γ X (.Assign [.Name y py] (.ListComp elt [⟨tg, iter, ifs, 0⟩] scope pos) spos) (.set (.one (.n j)) (.lc m vs T I C A)) := by
  intro ρ μ fl ρ' μ' q
  subst hv
  simp only [evS] at q
  obtain ⟨d, μ1, e1, q⟩ := bnd_eq q
  obtain ⟨r, e2, q⟩ := Option.map_eq_some_iff.mp q
  cases q
  exact (ps_setLc hc hN hy hyl hsw hi.u ok (fun s H C cl fp => (hg s H C cl fp).u) (fun s H C cl fp => (ht s H C cl fp).u) (fun s H C cl fp => (he s H C cl fp).u) hs).mono
    (set_mono (T := .one (.n j)) (fun σ H Q t => lc_reads (by simpa using hsl) e1 σ H Q t) fun v σ H Q t => gname_mono e2 v σ H Q t)
theorem sd_setLc2 (own : List (Str × Nat)) {vs : List Nat} {j : Nat} {y : Str} {py spos : Pos} {elt tg iter tg1 iter1 : Expr} {ifs ifs1 : List Expr} {scope : Scope} {m : Bool} {T1 : Tg} {I1 C1 : E} (hc : X.calm = true) (hN : X.N.Nodup) (hy : X.N[j]? = some y) (hyl : X.env.scope.names.lookup y = some .local)
    (hsw : swapsWith (.ListComp elt [⟨tg, iter, ifs, 0⟩, ⟨tg1, iter1, ifs1, 0⟩] scope pos) (some (.Name y py)) spos.line X.env = pure true) (ok : BlkOk X.N X.env.scope scope own) (hi : PId ca Γ X tg iter I)
    (hg : ∀ (s : Shared) (H : Hp) (C : Addr) (cl : List (Str × Addr)) (fp : List Addr), PGd ca Γ (X.blk s H scope (compEnvC scope cl C X.env) fp) tg T) (ht : ∀ (s : Shared) (H : Hp) (C' : Addr) (cl : List (Str × Addr)) (fp : List Addr), PTsd ca Γ (X.blk s H scope (compEnvC scope cl C' X.env) fp) ifs C)
    (hi1 : ∀ (s : Shared) (H : Hp) (C : Addr) (cl : List (Str × Addr)) (fp : List Addr), PId ca Γ (X.blk s H scope (compEnvC scope cl C X.env) fp) tg1 iter1 I1)
    (hg1 : ∀ (s : Shared) (H : Hp) (C : Addr) (cl : List (Str × Addr)) (fp : List Addr), PGd ca Γ (X.blk s H scope (compEnvC scope cl C X.env) fp) tg1 T1) (ht1 : ∀ (s : Shared) (H : Hp) (C' : Addr) (cl : List (Str × Addr)) (fp : List Addr), PTsd ca Γ (X.blk s H scope (compEnvC scope cl C' X.env) fp) ifs1 C1)
    (he : ∀ (s : Shared) (H : Hp) (C : Addr) (cl : List (Str × Addr)) (fp : List Addr), PEd ca Γ (X.blk s H scope (compEnvC scope cl C X.env) fp) elt A) (hs : ∀ x, foldedSetIterable iter X.env x = pure x := by intro _; rfl) (hs1 : ∀ env x, foldedSetIterable iter1 env x = pure x := by intro _ _; rfl)
    (hv : own.map (·.2) = vs := by rfl) (hsl : T.sl.all (fun i => vs.contains i) = true := by rfl) (hsl1 : T1.sl.all (fun i => vs.contains i) = true := by rfl) :
    PSd ca Γ X (.Assign [.Name y py] (.ListComp elt [⟨tg, iter, ifs, 0⟩, ⟨tg1, iter1, ifs1, 0⟩] scope pos) spos) (.set (.one (.n j)) (.lc2 m vs T I C T1 I1 C1 A)) := by
  intro ρ μ fl ρ' μ' q
  subst hv
  simp only [evS] at q
  obtain ⟨d, μ1, e1, q⟩ := bnd_eq q
  obtain ⟨r, e2, q⟩ := Option.map_eq_some_iff.mp q
  cases q
  exact (ps_setLc2 hc hN hy hyl hsw hi.u ok (by simpa using hsl1) (fun s H C cl fp => (hg s H C cl fp).u) (fun s H C cl fp => (ht s H C cl fp).u) (fun s H C cl fp => (hi1 s H C cl fp).u) (fun s H C cl fp => (hg1 s H C cl fp).u) (fun s H C cl fp => (ht1 s H C cl fp).u) (fun s H C cl fp => (he s H C cl fp).u) hs hs1).mono
    (set_mono (T := .one (.n j)) (fun σ H Q t => lc2_reads (by simpa using hsl) e1 σ H Q t) fun v σ H Q t => gname_mono e2 v σ H Q t)
/-- a, b = x, y -/
theorem sd_par {j l : Nat} {x y : Str} {a b : Expr} {px py pt : Pos} {kt k2 pt2} (hc : X.calm = true) (hN : X.N.Nodup) (ha : PAd ca Γ X [a, b] A) (hw : swappedStores [.Tuple [.Name x px, .Name y py] kt pt] (.Tuple [a, b] k2 pt2) X.env = pure (some [x, y]) := by rfl) (hi : X.N[j]? = some x := by rfl) (hj : X.N[l]? = some y := by rfl) (hij : j ≠ l := by decide)
    (hx : X.env.scope.names.lookup x = some .local := by rfl) (hy : X.env.scope.names.lookup y = some .local := by rfl)
    (hs : swapsWithSole [.Tuple [.Name x px, .Name y py] kt pt] (.Tuple [a, b] k2 pt2) pos.line X.env = pure false := by rfl) :
    PSd ca Γ X (.Assign [.Tuple [.Name x px, .Name y py] kt pt] (.Tuple [a, b] k2 pt2) pos) (.set (.tup [.n j, .n l]) (.tup A)) := by
  intro ρ μ fl ρ' μ' q
  simp only [evS, ev] at q
  obtain ⟨d, μ1, e1, q⟩ := bnd_eq q
  obtain ⟨ds, μ2, e3, e1⟩ := bnd_eq e1
  obtain ⟨r, e2, q⟩ := Option.map_eq_some_iff.mp q
  cases q
  split at e1
  · cases e1
    exact (ps_par hc hN hi hj hij hx hy (ha _ _ _ _ e3) hw hs).mono fun D σ H ⟨α, F, s, re, k⟩ => ⟨α, F, s, re, fun vs α1 F1 H1 x1 s1 r1 => by
      simp only [bind] at e2
      match ds, e2, r1 with
      | [d1, d2], e2, r1 =>
        simp only [storeAll, storeLeaf, Option.bind_some, Option.some.injEq] at e2
        obtain ⟨v, vr, ev, r3, r4⟩ := r1.cons_inv; subst ev
        obtain ⟨w, wr, ew, r5, r6⟩ := r4.cons_inv; subst ew
        cases r6.nil_iff
        subst e2
        exact ⟨v, w, rfl, k _ α1 F1 H1 x1 s1 (((re.mono x1).set j r3).set l r5)⟩⟩
  · cases e1
/-- o.f = value -/
theorem sd_fld {f : Str} (hcl : ∀ C c, ca C = some c → Cls X.K c ∧ ∀ f ∈ Γ.att C, NoAttr X.K c f) (ho : PEd ca Γ X o B) (he : PEd ca Γ X e A) (hs : swapsWith e (some (.Attribute o f p')) pos.line X.env = pure false := by rfl) : PSd ca Γ X (.Assign [.Attribute o f p'] e pos) (.fld B f A) := by
  intro ρ μ fl ρ' μ' q
  simp only [evS] at q
  obtain ⟨d, μ1, e1, q⟩ := bnd_eq q
  obtain ⟨x, μ2, e2, q⟩ := bnd_eq q
  refine (ps_fld (ho _ _ _ _ e2) (he _ _ _ _ e1) hs).mono fun D σ H ⟨α, F, s, re, k⟩ => ⟨α, F, s, re, fun v α1 F1 H1 x1 s1 r1 => ⟨α1, F1, s1, re.mono x1, fun w α2 F2 H2 x2 s2 r2 => ?_⟩⟩
  split at q
  · rename_i n
    split at q
    · rename_i C gs hc
      split at q
      · rename_i hf
        cases q
        cases r2 with
        | @cell a _ q =>
          obtain ⟨c, dx, fs, h1, h2, h3, h4⟩ := s2.cel _ _ _ hc q
          refine ⟨a, c, dx, fs, rfl, h2, (hcl _ _ h1).1, (hcl _ _ h1).2 f hf.1, by omega, k σ α2 F2 _ (x1.trans x2) (fld_write s2 hc q h1 h2 h3 (r1.mono x2) h4) ((re.mono x1).mono x2)⟩
      · cases q
    · cases q
  · cases q
end
end DP

/-! Rules: stores at indices, augmented stores, loops. -/
namespace DP
open PySem PySem.Spec L2

section
variable {K : PySem.W.Frag} {ca : Str → Option Addr} {α : List Addr} {F H : Hp} {μ : Sto}
theorem ixN_len {n : Nat} {i : Int} {j : Nat} (h : ixN n i = some j) : j < n := (ixN_seq h).2.1
theorem krel_put {vs : List (Key × V)} {ds : List (Key × D)} (r : KRel K ca α F vs ds) (k : Key) {v : V} {d : D} (q : Rep K ca α F v d) : KRel K ca α F (putK vs k v) (putKD ds k d) := by
  have hany : (vs.any fun kv => decide (kv.1 = k)) = (ds.any fun kv => decide (kv.1 = k)) := by
    have e1 : (vs.any fun kv => decide (kv.1 = k)) = (vs.map (·.1)).any fun j => decide (j = k) := by rw [List.any_map]; rfl
    have e2 : (ds.any fun kv => decide (kv.1 = k)) = (ds.map (·.1)).any fun j => decide (j = k) := by rw [List.any_map]; rfl
    rw [e1, e2, r.1]
  unfold putK putKD
  rw [hany]
  split
  · rename_i ha
    clear ha hany
    obtain ⟨h1, h2⟩ := r
    induction vs generalizing ds with
    | nil => cases ds with
      | nil => exact ⟨rfl, .nil⟩
      | cons _ _ => simp at h1
    | cons p vs ih => cases ds with
      | nil => simp at h1
      | cons p' ds =>
        obtain ⟨k1, v1⟩ := p
        obtain ⟨k2, d1⟩ := p'
        simp only [List.map_cons, List.cons.injEq] at h1
        obtain ⟨h1, h3⟩ := h1
        have h1 : k1 = k2 := h1
        subst h1
        have ih := ih h3 h2.tail
        by_cases e : k1 = k
        · simp only [List.map_cons, e, if_true]
          exact ⟨by simp only [List.map_cons]; rw [ih.1], .cons q ih.2⟩
        · simp only [List.map_cons, if_neg e]
          exact ⟨by simp only [List.map_cons]; rw [ih.1], .cons h2.head ih.2⟩
  · exact ⟨by simp [r.1], by simp only [List.map_append, List.map_cons, List.map_nil]; exact r.2.append (.cons q .nil)⟩
end
section
variable {ca : Str → Option Addr} {Γ : Pr} {X : Cx} {st : Stmt} {rest body : List Stmt} {e o i tg it c : Expr} {A B C I : E} {T : Tg} {P Q : S} {pos p p' : Pos}
theorem PSet.or {t t' : TSet} (h : PSet X t) (h' : PSet X t') : PSet X (fun o i v H Q => t o i v H Q ∨ t' o i v H Q) := by
  intro pins s σ H o i v ov iv u Q I ro ri rv q
  rcases q with q | q
  · exact h pins s σ H o i v ov iv u Q I ro ri rv q
  · exact h' pins s σ H o i v ov iv u Q I ro ri rv q
def rSet : TSet := fun o i v H Q => rSetL o i v H Q ∨ rSetD o i v H Q
theorem set_any (hu : X.A.units + 1 < cLine) : PSet X rSet := PSet.or set_list (set_dict hu)
theorem set_run {K : PySem.W.Frag} {α F μ H v w u x y d} {μ' : Sto} {Q : Hp → Prop} (s : Sim K ca α F μ H) (r1 : Rep K ca α F v x) (r2 : Rep K ca α F w y) (r3 : Rep K ca α F u d) (h : setIxD x y d μ = some μ')
    (k : ∀ H', Sim K ca α F μ' H' → Q H') : rSet v w u H Q := by
  unfold setIxD at h
  split at h
  · rename_i n
    cases r1 with
    | @cell a _ q =>
      split at h
      · rename_i ds hn
        obtain ⟨vs, h1, h2⟩ := s.cel _ _ _ hn q
        split at h
        · rename_i kk
          obtain ⟨j, e1, e2⟩ := Option.map_eq_some_iff.mp h
          subst e2
          cases r2
          refine .inl ⟨a, vs, kk, j, rfl, rfl, h1, by rw [h2.1]; exact e1, k _ (s.write hn (fun z => nomatch z) q ⟨_, upd_same, h2.set j r3⟩ fun z => nomatch z)⟩
        · cases h
      · rename_i kvs hn
        obtain ⟨vs, h1, h2⟩ := s.cel _ _ _ hn q
        obtain ⟨kk, e1, e2⟩ := Option.bind_eq_some_iff.mp h
        split at e2
        · rename_i hl
          cases e2
          have hv := key_kV r2 e1
          subst hv
          have hlen : vs.length = kvs.length := by have := congrArg List.length h2.1; simpa using this
          refine .inr ⟨a, _, rfl, DPut.k h1 (by rw [hlen]; exact hl), k _ (s.write hn (fun z => nomatch z) q ⟨_, upd_same, krel_put h2 kk r3⟩ fun z => nomatch z)⟩
        · cases e2
      · cases h
  · cases h
theorem hu_one {k : Nat} (hr : Room k X.A) : X.A.units + 1 < cLine := hu_of hr
/-- o[i] = value -/
theorem sd_setIx {k : Nat} (hr : Room k X.A) (ho : PEd ca Γ X o A) (hi : PEd ca Γ X i B) (he : PEd ca Γ X e C)
    (ha : ∀ v, assign (.Subscript o i p) X.env v = (do
      let ov ← holding [v] (eval o X.env)
      let iv ← holding [v, ov] (eval i X.env)
      standAt p
      holding [v, ov, iv] (setItem ov iv v)
      release [v, ov, iv] []) := by intro _; rfl) (hs : swapsWithSole [.Subscript o i p] e pos.line X.env = pure false := by rfl) (hw : swappedStores [.Subscript o i p] e X.env = pure none := by rfl)
    (h1 : (assignEach [.Subscript o i p] X.env).map (·.2) = [assign (.Subscript o i p) X.env] := by rfl) : PSd ca Γ X (.Assign [.Subscript o i p] e pos) (.setIx A B C) := by
  intro ρ μ fl ρ' μ' q
  simp only [evS] at q
  obtain ⟨d, μ1, e1, q⟩ := bnd_eq q
  obtain ⟨x, μ2, e2, q⟩ := bnd_eq q
  obtain ⟨y, μ3, e3, q⟩ := bnd_eq q
  obtain ⟨μ4, e4, q⟩ := Option.map_eq_some_iff.mp q
  cases q
  exact (ps_asg (he _ _ _ _ e1) (pg_sub (ho _ _ _ _ e2) (hi _ _ _ _ e3) (set_any (hu_of hr)) ha) hs hw h1).mono fun D σ H ⟨α, F, s, re, k⟩ => ⟨α, F, s, re, fun v α1 F1 H1 x1 s1 r1 =>
    ⟨α1, F1, s1, re.mono x1, fun w α2 F2 H2 x2 s2 r2 => ⟨α2, F2, s2, (re.mono x1).mono x2, fun u α3 F3 H3 x3 s3 r3 =>
      set_run s3 (r2.mono x3) r3 ((r1.mono x2).mono x3) e4 fun H4 s4 => k σ α3 F3 H4 ((x1.trans x2).trans x3) s4 (((re.mono x1).mono x2).mono x3)⟩⟩⟩
/-! ### op= -/
/-- what an operator's rule must tell -/
def AugR (X : Cx) (op : Operator) (o : Op2) : Prop := ∃ r, OpR X (inplaceOp op) r ∧ ∀ K ca α F μ H v w x y z Q, Sim K ca α F μ H → Rep K ca α F v x → Rep K ca α F w y → augOp o x y = some z → Kon K ca α F z μ Q → r v w H Q
theorem au_add : AugR X .Add .add := ⟨_, iop_add, fun K ca α F μ H v w x y z Q s r1 r2 e k => by
  cases r1 <;> cases r2 <;> simp only [augOp, Option.some.injEq, reduceCtorEq] at e
  subst e
  exact ⟨_, _, rfl, rfl, k.now s (.int _)⟩⟩
theorem au_sub : AugR X .Sub .sub := ⟨_, iop_sub, fun K ca α F μ H v w x y z Q s r1 r2 e k => by
  cases r1 <;> cases r2 <;> simp only [augOp, Option.some.injEq, reduceCtorEq] at e
  subst e
  exact ⟨_, _, rfl, rfl, k.now s (.int _)⟩⟩
theorem iop_modN : OpR X (inplaceOp .Mod) (rI (fun _ j => j ≠ 0) fun i j => .int (i.fmod j)) := by
  intro pins s σ H x y v u Q I rx ry h
  obtain ⟨i, j, rfl, rfl, hc, q⟩ := h
  obtain ⟨t, rfl⟩ := rx
  obtain ⟨t', rfl⟩ := ry
  exact PyProof.Rows.imod_int hc ⟨.int _, H, I.tok _, ⟨_, rfl⟩, q⟩
theorem au_mod : AugR X .Mod .mod := ⟨_, iop_modN, fun K ca α F μ H v w x y z Q s r1 r2 e k => by
  cases r1 <;> cases r2 <;> simp only [augOp, reduceCtorEq] at e
  split at e
  · rename_i hj; cases e; exact ⟨_, _, rfl, rfl, hj, k.now s (.int _)⟩
  · cases e⟩
theorem sd_augN (j : Nat) {x : Str} {op : Operator} {o2 : Op2} (hN : X.N.Nodup) (ho : AugR X op o2) (he : PEd ca Γ X e A) (hi : X.N[j]? = some x := by rfl) (hx : Loc X.env.scope x := by first | exact Or.inl rfl | exact Or.inr rfl) (hf : X.fn x = true ∨ X.env.scope.names.lookup x = some .local := by first | exact .inl rfl | exact .inr rfl) :
    PSd ca Γ X (.AugAssign (.Name x p') op e pos) (.augN j o2 A) := by
  intro ρ μ fl ρ' μ' q
  simp only [evS] at q
  split at q
  · rename_i dx hd
    obtain ⟨y, μ1, e1, q⟩ := bnd_eq q
    obtain ⟨z, e2, q⟩ := Option.map_eq_some_iff.mp q
    cases q
    obtain ⟨r, h1, h2⟩ := ho
    refine (ps_aug hN hi hx (he _ _ _ _ e1) h1 hf).mono fun D σ H ⟨α, F, s, re, k⟩ => ?_
    obtain ⟨v, g1, g2⟩ := re.2 j _ hd
    exact ⟨v, g1, α, F, s, re, fun w α1 F1 H1 x1 s1 r1 => h2 _ _ _ _ _ _ _ _ _ _ _ _ s1 (g2.mono x1) r1 e2 fun u α2 F2 H2 x2 s2 r2 => k _ α2 F2 H2 (x1.trans x2) s2 (((re.mono x1).mono x2).set j r2)⟩
  · cases q
/-- o[i] of a list, of a dict -/
def rGet (K : PySem.W.Frag) : V → V → Hp → VK → Prop := fun x y H Q => rIxL K x y H Q ∨ ∃ a v, x = .ref a ∧ DGet H a y (some v) ∧ Q v H
theorem get_any (hu : X.A.units + 1 < cLine) : PGet X (rGet X.K) := by
  intro pins s σ H o i ov iv Q I ro ri h
  rcases h with h | ⟨a, v, rfl, g, q⟩
  · obtain ⟨p, xs, k, z, rfl, rfl, hq, he, q⟩ := h
    cases ro
    obtain ⟨t, rfl⟩ := ri
    obtain ⟨its, r, pl, hz⟩ := I.list hq
    obtain ⟨j, h1, h2, h3, h4, h5⟩ := atI_get he
    obtain ⟨w, ew, rw'⟩ := r.get h2
    have hl := r.length
    have hn := line63
    have fin : EP X pins σ Q w s := ⟨z, H, I, rw', q⟩
    by_cases h0 : 0 ≤ k
    · have hj : k.toNat = j := by
        rw [seqIndex_of h0 h5] at h1
        exact Option.some.inj h1
      exact wpAny_getItem_list pl.isList h0 (by omega) (by rw [hj]; simpa using ew) fin
    · have hj : (k + (its.toArray.size : Int)).toNat = j := by
        rw [seqIndex_neg (by omega) h4] at h1
        rw [List.size_toArray, ← hl]
        exact Option.some.inj h1
      exact wpAny_getItem_list_neg pl.isList (by omega) (by rw [List.size_toArray] <;> omega) (by omega) (by rw [hj]; simpa using ew) fin
  · cases (show ov = Value.ref a from ro)
    exact d_getItem hu I g ri fun w' s3 I3 rw' => ⟨v, H, I3, rw', q⟩
theorem get_run {K : PySem.W.Frag} {α F μ H v w x y z} {Q : VK} (s : Sim K ca α F μ H) (r1 : Rep K ca α F v x) (r2 : Rep K ca α F w y) {n : Nat} (hx : x = .cell n) (h : ixD x y μ = some z)
    (k : ∀ u, Rep K ca α F u z → Q u H) : rGet K v w H Q := by
  subst hx
  cases r1 with
  | @cell a _ q =>
    simp only [ixD] at h
    split at h
    · rename_i ds hn
      obtain ⟨vs, h1, h2⟩ := s.cel _ _ _ hn q
      cases r2 with
      | int i =>
        obtain ⟨u, g1, g2⟩ := reps_at h2 h
        exact .inl ⟨a, vs, i, u, rfl, rfl, SqL.of h1, g1, k u g2⟩
      | _ => cases h
    · rename_i kvs hn
      obtain ⟨vs, h1, h2⟩ := s.cel _ _ _ hn q
      obtain ⟨kk, e1, e2⟩ := Option.bind_eq_some_iff.mp h
      have hv := key_kV r2 e1
      subst hv
      rcases look_val h2 kk with ⟨_, e4⟩ | ⟨v', d', e3, e4, r4⟩
      · rw [e4] at e2; cases e2
      · rw [e4] at e2; cases e2
        exact .inr ⟨a, v', rfl, by have g := DGet.k (k := kk) h1; rw [e3] at g; exact g, k _ r4⟩
    · cases h
theorem setIxD_cell {x y d : D} {μ μ' : Sto} (h : setIxD x y d μ = some μ') : ∃ n, x = .cell n := by
  unfold setIxD at h
  split at h
  · exact ⟨_, rfl⟩
  · cases h
theorem sd_augIx {k : Nat} {op : Operator} {o2 : Op2} (hr : Room k X.A) (hop : AugR X op o2) (ho : PEd ca Γ X o A) (hi : PEd ca Γ X i B) (he : PEd ca Γ X e C)
    (ha : ∀ ov iv new, augStore i ov iv new = (do holding [new, ov, iv] (setItem ov iv new); release [new, ov, iv] []; pure .next) := by intros; rfl) : PSd ca Γ X (.AugAssign (.Subscript o i p) op e pos) (.augIx A B o2 C) := by
  intro ρ μ fl ρ' μ' q
  simp only [evS] at q
  obtain ⟨x, μ1, e1, q⟩ := bnd_eq q
  obtain ⟨y, μ2, e2, q⟩ := bnd_eq q
  obtain ⟨old, e3, q⟩ := Option.bind_eq_some_iff.mp q
  obtain ⟨v, μ3, e4, q⟩ := bnd_eq q
  obtain ⟨z, e5, q⟩ := Option.bind_eq_some_iff.mp q
  obtain ⟨μ4, e6, q⟩ := Option.map_eq_some_iff.mp q
  cases q
  obtain ⟨n, hn⟩ := setIxD_cell e6
  obtain ⟨r, h1, h2⟩ := hop
  exact (ps_augS (ho _ _ _ _ e1) (hi _ _ _ _ e2) (get_any (hu_of hr)) (he _ _ _ _ e4) h1 (set_any (hu_of hr)) ha).mono fun D σ H ⟨α, F, s, re, k⟩ => ⟨α, F, s, re, fun xv α1 F1 H1 x1 s1 r1 =>
    ⟨α1, F1, s1, re.mono x1, fun yv α2 F2 H2 x2 s2 r2 => get_run s2 (r1.mono x2) r2 hn e3 fun u ru => ⟨α2, F2, s2, (re.mono x1).mono x2, fun vv α3 F3 H3 x3 s3 r3 =>
      h2 _ _ _ _ _ _ _ _ _ _ _ _ s3 (ru.mono x3) r3 e5 fun zv α4 F4 H4 x4 s4 r4 => set_run s4 (((r1.mono x2).mono x3).mono x4) ((r2.mono x3).mono x4) r4 e6 fun H5 s5 =>
        k σ α4 F4 H5 (((x1.trans x2).trans x3).trans x4) s5 ((((re.mono x1).mono x2).mono x3).mono x4)⟩⟩⟩
/-! ### loops -/
theorem sd_whl (hp : PassesOwn (model X.prog X.w) X.A X.env X.xe) (hc : PTd ca Γ X c C) (hb : PSsd ca Γ X body P) : PSd ca Γ X (.While c body [] pos) (.whl C P) := by
  intro ρ μ fl ρ' μ' q
  simp only [evS] at q
  refine (ps_while hp hc.u hb.u).mono fun D σ H ⟨α, F, s, re, k⟩ => ?_
  refine ⟨fun m σ H => ∃ α1 F1 ρ1 μ1, Ext α F α1 F1 ∧ Sim X.K ca α1 F1 μ1 H ∧ RE X.K ca α1 F1 σ ρ1 ∧ whileL (evT Γ C) (evS Γ P) m ρ1 μ1 = some (fl, ρ', μ'), ⟨Γ.wf, α, F, ρ, μ, Ext.refl _ _, s, re, q⟩, ?_⟩
  rintro m σ1 H1 ⟨α1, F1, ρ1, μ1, x1, s1, re1, q1⟩
  cases m with
  | zero => cases q1
  | succ m =>
    simp only [whileL] at q1
    cases e1 : evT Γ C ρ1 μ1 with
    | none => rw [e1] at q1; cases q1
    | some r =>
      obtain ⟨b, μ2⟩ := r
      rw [e1] at q1
      refine ⟨ρ1, μ1, b, μ2, e1, α1, F1, s1, re1, fun α2 F2 H2 x2 s2 => ?_⟩
      cases b with
      | false =>
        cases q1
        simp only [Bool.false_eq_true, if_false]
        exact k σ1 α2 F2 H2 (x1.trans x2) s2 (re1.mono x2)
      | true =>
        simp only [if_true] at q1 ⊢
        refine ⟨fun σ H => ∃ α1 F1 ρ1 μ1, Ext α F α1 F1 ∧ Sim X.K ca α1 F1 μ1 H ∧ RE X.K ca α1 F1 σ ρ1 ∧ whileL (evT Γ C) (evS Γ P) m ρ1 μ1 = some (fl, ρ', μ'), fun σ' H' z => ⟨m, Nat.lt_succ_self m, z⟩, ?_⟩
        cases e2 : evS Γ P ρ1 μ2 with
        | none => rw [e2] at q1; cases q1
        | some r =>
          obtain ⟨f1, ρ2, μ3⟩ := r
          rw [e2] at q1
          refine ⟨ρ1, μ2, f1, ρ2, μ3, e2, α2, F2, s2, re1.mono x2, ?_⟩
          cases f1 with
          | next => exact fun σ3 α3 F3 H3 x3 s3 re3 => ⟨α3, F3, ρ2, μ3, (x1.trans x2).trans x3, s3, re3, q1⟩
          | cont => exact fun σ3 α3 F3 H3 x3 s3 re3 => ⟨α3, F3, ρ2, μ3, (x1.trans x2).trans x3, s3, re3, q1⟩
          | brk => cases q1; exact fun σ3 α3 F3 H3 x3 s3 re3 => k σ3 α3 F3 H3 ((x1.trans x2).trans x3) s3 re3
          | ret d => cases q1; exact fun v α3 F3 H3 x3 s3 r3 => k v α3 F3 H3 ((x1.trans x2).trans x3) s3 r3
theorem sd_for {sc : Bool} (hp : PassesOwn (model X.prog X.w) X.A X.env X.xe) (hc : X.calm = true) (hi : PId ca Γ X tg it I) (hg : PGd ca Γ X tg T) (hb : PSsd ca Γ X body P)
    (hs : ∀ x, foldedSetIterable it X.env x = pure x := by intro _; rfl) : PSd ca Γ X (.For tg it body [] pos) (.for_ sc T I P) := by
  intro ρ μ fl ρ' μ' q
  simp only [evS] at q
  obtain ⟨⟨xs, w⟩, μ1, e1, q⟩ := bnd_eq q
  refine (ps_for hp hc (hi _ _ _ _ _ e1) hg.u hb.u hs).mono fun D σ H ⟨α0, F0, s0, re0, k0⟩ => ⟨α0, F0, s0, re0, fun J α F H1 x0 s hw W => ?_⟩
  have re := re0.mono x0
  have k := k0.ext x0
  refine for_it (n := xs.length) (G := fun H => ∃ α1 F1 μ2, Ext α F α1 F1 ∧ Sim X.K ca α1 F1 μ2 H ∧ watch w μ2 = true) (Y := J.yld) ⟨fun i H hi ⟨α1, F1, μ2, x1, s1, w1⟩ => W.goes i _ _ _ _ hi x1.w s1 w1, fun H ⟨α1, F1, μ2, x1, s1, w1⟩ => W.stops _ _ _ _ x1.w s1 w1, fun _ _ _ _ _ _ y => y⟩
    (fun i σ H => ∃ α1 F1 ρ1 μ2, Ext α F α1 F1 ∧ Sim X.K ca α1 F1 μ2 H ∧ RE X.K ca α1 F1 σ ρ1 ∧ watch w μ2 = true ∧ forL sc μ1.length w (fun x ρ μ => (bind Γ T x ρ μ).bind fun p => evS Γ P p.1 p.2) (xs.drop i) ρ1 μ2 = some (fl, ρ', μ'))
    ⟨α, F, ρ, μ1, Ext.refl _ _, s, re, hw, by simpa using q⟩ (fun i σ H hi ⟨α1, F1, ρ1, μ2, x1, s1, re1, w1, q1⟩ => ⟨α1, F1, μ2, x1, s1, w1⟩) ?_ ?_
  · rintro i v σ1 H1 H2 hi ⟨α1, F1, ρ1, μ2, x1, s1, re1, w1, q1⟩ y
    have hd : xs[i]? = some (xs[i]) := by simp [hi]
    obtain ⟨F2, x2, s2, r2⟩ := W.yields i _ v _ _ _ _ _ hd x1.w s1 w1 y
    rw [List.drop_eq_getElem_cons hi] at q1
    simp only [forL] at q1
    cases eb : bind Γ T xs[i] ρ1 μ2 with
    | none => rw [eb] at q1; cases q1
    | some p =>
      rw [eb] at q1
      simp only [Option.bind_some] at q1
      refine ⟨ρ1, μ2, xs[i], p.1, p.2, eb, α1, F2, s2, re1.mono x2, r2, fun σ3 α3 F3 H3 x3 s3 re3 _ => ?_⟩
      cases es : evS Γ P p.1 p.2 with
      | none => rw [es] at q1; cases q1
      | some r =>
        obtain ⟨f1, ρ2, μ3⟩ := r
        rw [es] at q1
        refine ⟨p.1, p.2, f1, ρ2, μ3, es, α3, F3, s3, re3, ?_⟩
        have xx := (x1.trans x2).trans x3
        have again : (if watch w μ3 = true then if sc = true then (cut μ1.length ρ2 μ3).bind fun p => forL sc μ1.length w (fun x ρ μ => (bind Γ T x ρ μ).bind fun p => evS Γ P p.1 p.2) (xs.drop (i + 1)) p.1 p.2
            else forL sc μ1.length w (fun x ρ μ => (bind Γ T x ρ μ).bind fun p => evS Γ P p.1 p.2) (xs.drop (i + 1)) ρ2 μ3 else none) = some (fl, ρ', μ') →
            ∀ σ4 α4 F4 H4, Ext α3 F3 α4 F4 → Sim X.K ca α4 F4 μ3 H4 → RE X.K ca α4 F4 σ4 ρ2 → ∃ α1 F1 ρ1 μ2, Ext α F α1 F1 ∧ Sim X.K ca α1 F1 μ2 H4 ∧ RE X.K ca α1 F1 σ4 ρ1 ∧ watch w μ2 = true ∧ forL sc μ1.length w (fun x ρ μ => (bind Γ T x ρ μ).bind fun p => evS Γ P p.1 p.2) (xs.drop (i + 1)) ρ1 μ2 = some (fl, ρ', μ') := by
          intro q2 σ4 α4 F4 H4 x4 s4 re4
          split at q2
          · rename_i w3
            cases sc with
            | false => exact ⟨α4, F4, ρ2, μ3, xx.trans x4, s4, re4, w3, by simpa using q2⟩
            | true =>
              simp only [if_true] at q2
              obtain ⟨p2, c1, c2⟩ := Option.bind_eq_some_iff.mp q2
              unfold cut at c1
              split at c1
              · rename_i hcut
                cases c1
                obtain ⟨β, hβ⟩ := (xx.trans x4).pre
                have hfr := (xx.trans x4).fr
                subst hβ
                have hn : μ1.length = α.length := s.len.symm
                refine ⟨α, F4, _, _, ⟨⟨[], by simp⟩, hfr⟩, s4.cut hn hcut, re4.cut hn, ?_, c2⟩
                cases w with
                | none => rfl
                | some wp =>
                  have g1 := watch_at hw
                  have g2 := watch_at w3
                  have hl := (List.getElem?_eq_some_iff.mp g1).1
                  simp only [watch]
                  rw [List.getElem?_take, if_pos hl, g2]
                  simp
              · cases c1
          · cases q2
        cases f1 with
        | next => exact fun σ4 α4 F4 H4 x4 s4 re4 => again q1 σ4 α4 F4 H4 x4 s4 re4
        | cont => exact fun σ4 α4 F4 H4 x4 s4 re4 => again q1 σ4 α4 F4 H4 x4 s4 re4
        | brk => cases q1; exact fun σ4 α4 F4 H4 x4 s4 re4 => k σ4 α4 F4 H4 (xx.trans x4) s4 re4
        | ret d => cases q1; exact fun u α4 F4 H4 x4 s4 r4 => k u α4 F4 H4 (xx.trans x4) s4 r4
  · rintro σ1 H1 ⟨α1, F1, ρ1, μ2, x1, s1, re1, w1, q1⟩
    rw [List.drop_length] at q1
    cases q1
    exact k σ1 α1 F1 H1 x1 s1 re1
end
end DP

/-! Whole defs. -/
namespace DP
open PySem PySem.Spec L2

section
variable {K : PySem.W.Frag} {ca : Str → Option Addr} {α : List Addr} {F : Hp} {P : Program} {w : World} {mg : Str → Option Value} {base : Heap}
theorem re_map : ∀ {vs : List V} {ds : List D} (i : Nat) (d : D), Reps K ca α F vs ds → (ds.map some)[i]? = some (some d) → ∃ v, (vs.map some)[i]? = some (some v) ∧ Rep K ca α F v d := fun i d r h => by
  rw [List.getElem?_map] at h
  obtain ⟨d', h1, h2⟩ := Option.map_eq_some_iff.mp h
  cases h2
  obtain ⟨v, g1, g2⟩ := r.get h1
  exact ⟨v, by rw [List.getElem?_map, g1]; rfl, g2⟩
theorem re_start {N : List Str} {vs : List V} {ds : List D} {n np : Nat} (r : Reps K ca α F vs ds) (hn : n = N.length) (hp : ds.length = np) : RE K ca α F (L2.start N vs) (ds.map some ++ List.replicate (n - np) none) := by
  subst hn hp
  refine ⟨by simp [L2.start, r.1], fun i d h => ?_⟩
  unfold L2.start
  by_cases hi : i < ds.length
  · rw [List.getElem?_append_left (by simpa using hi)] at h
    obtain ⟨v, g1, g2⟩ := re_map i d r h
    exact ⟨v, by rw [List.getElem?_append_left (by simpa [r.1] using hi)]; exact g1, g2⟩
  · rw [List.getElem?_append_right (by simpa using hi)] at h
    rw [List.getElem?_replicate] at h
    split at h <;> cases h
theorem fin_run {sc : Bool} {μ μ1 μ' : Sto} {r d : D} {H' : Hp} {α' : List Addr} {F' : Hp} {v : V} {Q : VK} (hn : μ.length = α.length) (h : finD sc μ.length r μ1 = some (d, μ')) (x : Ext α F α' F') (s : Sim K ca α' F' μ1 H') (q : Rep K ca α' F' v r) (k : Kon K ca α F d μ' Q) : Q v H' := by
  unfold finD at h
  cases sc with
  | false => simp only [Bool.false_eq_true, if_false] at h; cases h; exact k _ _ _ _ x s q
  | true =>
    simp only [if_true] at h
    split at h
    · rename_i hc
      simp only [Bool.and_eq_true] at hc
      cases h
      obtain ⟨β, rfl⟩ := x.pre
      rw [hn] at hc k
      exact k v α F' H' ⟨⟨[], by simp⟩, x.fr⟩ (s.cut rfl hc.2) (q.under hc.1 rfl)
    · cases h
theorem fn_ok {Γ : Pr} {k : Nat} {x qual : Str} {params : Arguments} {body : List Stmt} {scope : Scope} {dvs : List V} {kws : List (Str × V)} {f : Addr} {fd : FuncData} {N ps : List Str} {d : Def} (FD : FunD K x qual params body scope dvs kws f fd) (S : FnScope N ps scope) (hp : ps.length = d.np) (hn : d.n = N.length)
    (hb : ∀ (cdv : Value) (A : Around) (outer : List Env) (s : Shared) (H : Hp) (E : XK), Room k (A.deeper (PyProof.Rows.envOfC qual scope s.heap.objs.size f cdv)) → PSsd ca Γ (cxOf CX0 P w K mg base N qual scope f cdv A outer s H E).nox body d.body) :
    FnOk P w K mg base CX0 (k + 1) f fd ps (spD K ca (runDef Γ d) ps.length) := by
  refine FD.ok S (fun vs H Q E h => h.1) fun cdv A outer s H vs Q E hr h => ?_
  obtain ⟨hl, α, F, μ, ds, r, μ', sm, rs, e, kk⟩ := h
  have hal : μ.length = α.length := sm.len.symm
  unfold runDef at e
  split at e
  · rename_i hlen
    have re := re_start (N := N) rs hn hlen
    split at e
    · rename_i r1 ρ1 μ1 es
      exact ⟨_, PSs.nox (hb cdv A outer s H E hr _ _ _ _ _ es), α, F, sm, re, fun v α' F' H' x s' q => fin_run hal e x s' q kk⟩
    · rename_i ρ1 μ1 es
      exact ⟨_, PSs.nox (hb cdv A outer s H E hr _ _ _ _ _ es), α, F, sm, re, fun σ' α' F' H' x s' _ => fin_run hal e x s' .non kk⟩
    · cases e
  · cases e
/-- a def that tells nothing -/
theorem fn_none {k : Nat} {x qual : Str} {params : Arguments} {body : List Stmt} {scope : Scope} {dvs : List V} {kws : List (Str × V)} {f : Addr} {fd : FuncData} {N ps : List Str} (FD : FunD K x qual params body scope dvs kws f fd) (S : FnScope N ps scope) {g : List D → Sto → Option (D × Sto)} (hg : ∀ as μ, g as μ = none) :
    FnOk P w K mg base CX0 k f fd ps (spD K ca g ps.length) := by
  refine FnOk.mono (FnOk.imp (sp := fun _ _ _ _ => False) ?_ fun vs H Q E h => ?_) (Nat.zero_le k)
  · exact ⟨fun _ _ _ _ h => h.elim, fun _ _ _ _ _ _ _ _ _ _ _ _ _ h => h.elim⟩
  · obtain ⟨hl, α, F, μ, ds, r, μ', sm, rs, e, kk⟩ := h
    rw [hg] at e; cases e
end
/-! ### a program, call by call deeper -/
theorem Prog.call_zero (G : Prog) (wf : Nat) (x : Str) (as : List D) (μ : Sto) : (G.pr wf 0).call x as μ = none := rfl
theorem Prog.meth_zero (G : Prog) (wf : Nat) (C m : Str) (as : List D) (μ : Sto) : (G.pr wf 0).meth C m as μ = none := rfl
theorem Prog.call_succ {G : Prog} {x : Str} {d : Def} (h : G.defs x = some d) (wf k : Nat) : (G.pr wf (k + 1)).call x = runDef (G.pr wf k) d := by
  funext as μ
  show (match G.defs x with | some d => runDef (G.pr wf k) d as μ | none => none) = _
  rw [h]
theorem Prog.meth_succ {G : Prog} {C m : Str} {d : Def} (h : (G.mets m).lookup C = some d) (wf k : Nat) : (G.pr wf (k + 1)).meth C m = runDef (G.pr wf k) d := by
  funext as μ
  show (match (G.mets m).lookup C with | some d => runDef (G.pr wf k) d as μ | none => none) = _
  rw [h]
theorem lookup_mem {C : Str} {d : Def} : ∀ {l : List (Str × Def)}, l.lookup C = some d → C ∈ l.map (·.1)
  | [], h => by simp at h
  | (k, e) :: l, h => by
    by_cases hk : C = k
    · subst hk; simp
    · have : (C == k) = false := by simp [hk]
      simp only [List.lookup, this] at h
      simp only [List.map_cons, List.mem_cons]
      exact .inr (lookup_mem h)
theorem Prog.meth_in {G : Prog} {C m : Str} {wf k : Nat} {as : List D} {μ : Sto} {r} (h : (G.pr wf k).meth C m as μ = some r) : C ∈ (G.mets m).map (·.1) := by
  cases k with
  | zero => cases h
  | succ k =>
    cases e : (G.mets m).lookup C with
    | none =>
      have : (match (G.mets m).lookup C with | some d => runDef (G.pr wf k) d as μ | none => none) = some r := h
      rw [e] at this; cases this
    | some d => exact lookup_mem e
section
variable {K : PySem.W.Frag} {ca : Str → Option Addr} {P : Program} {w : World} {mg : Str → Option Value} {base : Heap} {G : Prog} {wf : Nat}
/-- a def at every depth -/
theorem fn_all {k : Nat} {x qual : Str} {params : Arguments} {body : List Stmt} {scope : Scope} {dvs : List V} {kws : List (Str × V)} {f : Addr} {fd : FuncData} {N ps : List Str} {nm : Str} {d : Def} (FD : FunD K x qual params body scope dvs kws f fd) (S : FnScope N ps scope) (hd : G.defs nm = some d)
    (ok : ∀ j, j + 1 = k → FnOk P w K mg base CX0 (2 * j + 2) f fd ps (spD K ca (runDef (G.pr wf j) d) ps.length)) : FnOk P w K mg base CX0 (2 * k) f fd ps (spD K ca ((G.pr wf k).call nm) ps.length) := by
  cases k with
  | zero => exact fn_none FD S (Prog.call_zero G wf nm)
  | succ k => rw [Prog.call_succ hd]; exact ok k rfl
theorem mt_all {k : Nat} {x qual : Str} {params : Arguments} {body : List Stmt} {scope : Scope} {dvs : List V} {kws : List (Str × V)} {f : Addr} {fd : FuncData} {N ps : List Str} {C m : Str} {d : Def} (FD : FunD K x qual params body scope dvs kws f fd) (S : FnScope N ps scope) (hd : (G.mets m).lookup C = some d)
    (ok : ∀ j, j + 1 = k → FnOk P w K mg base CX0 (2 * j + 2) f fd ps (spD K ca (runDef (G.pr wf j) d) ps.length)) : FnOk P w K mg base CX0 (2 * k) f fd ps (spD K ca ((G.pr wf k).meth C m) ps.length) := by
  cases k with
  | zero => exact fn_none FD S (Prog.meth_zero G wf C m)
  | succ k => rw [Prog.meth_succ hd]; exact ok k rfl
/-! ### how defs bind -/
theorem bo_N {x qual : Str} {params : Arguments} {body : List Stmt} {scope : Scope} {kws : List (Str × V)} {f : Addr} {fd : FuncData} {ps : List Str} (FD : FunD K x qual params body scope [] kws f fd) (n : Nat) (hn : n = ps.length)
    (h : ∀ (kV doc pm : Value) (an : Option Addr) (cdv ct : Value) (us : List Value), us.length = n → bindArgs (PySem.W.fnOf x qual params body scope .none kV doc pm an cdv ct) ⟨us, []⟩ = pure (ps.zip us)) : BindOf K fd ps n [] [] := by
  obtain ⟨oc, od, dV, kV, doc, pm, an, cdv, ct, osl, rfl, lk, hcd, hD, hK⟩ := FD.ex
  rcases hD with ⟨_, rfl⟩ | ⟨e, _⟩
  · refine ⟨[], [], .nil, fun _ _ _ => .nil, by simp [hn], fun s us ws X l1 l2 => ?_⟩
    have : ws = [] := List.length_eq_zero_iff.mp l2
    subst this
    simp only [List.append_nil, List.zip_nil_right]
    exact .of_eq (h kV doc pm an cdv ct us l1)
  · exact absurd rfl e
theorem bo_K {x qual : Str} {params : Arguments} {body : List Stmt} {scope : Scope} {kws : List (Str × V)} {f : Addr} {fd : FuncData} {ps : List Str} (FD : FunD K x qual params body scope [] kws f fd) (n : Nat) (ks : List Str) (hn : n + ks.length = ps.length)
    (h : ∀ (kV doc pm : Value) (an : Option Addr) (cdv ct : Value) (us ws : List Value), us.length = n → ws.length = ks.length → bindArgs (PySem.W.fnOf x qual params body scope .none kV doc pm an cdv ct) ⟨us, ks.zip ws⟩ = pure (ps.zip (us ++ ws))) : BindOf K fd ps n ks [] := by
  obtain ⟨oc, od, dV, kV, doc, pm, an, cdv, ct, osl, rfl, lk, hcd, hD, hK⟩ := FD.ex
  rcases hD with ⟨_, rfl⟩ | ⟨e, _⟩
  · refine ⟨[], [], .nil, fun _ _ _ => .nil, by simp; omega, fun s us ws X l1 l2 => ?_⟩
    rw [List.append_nil]
    exact .of_eq (h kV doc pm an cdv ct us ws l1 l2)
  · exact absurd rfl e
theorem bo_0 {x qual : Str} {params : Arguments} {body : List Stmt} {scope : Scope} {kws : List (Str × V)} {f : Addr} {fd : FuncData} {ps : List Str} {dds : List D} (FD : FunD K x qual params body scope [] kws f fd) (n : Nat) (hk : kws ≠ []) (hn : n + kws.length = ps.length) (hd : ∀ ca α F, Reps K ca α F (kws.map (·.2)) dds)
    (h : ∀ (D : Addr) (doc pm : Value) (an : Option Addr) (cdv ct : Value) (us ks : List Value), us.length = n → ks.length = kws.length →
      KwChain D ((kws.map (·.1)).zip ks) (bindArgs (PySem.W.fnOf x qual params body scope .none (.ref D) doc pm an cdv ct) ⟨us, []⟩) (ps.zip (us ++ ks))) : BindOf K fd ps n [] dds := by
  obtain ⟨ds, rv, hb⟩ := FD.binds0 n hk hn h
  have hl := (hd (fun _ => none) [] (fun _ => none)).1
  rw [List.length_map] at hl
  refine ⟨_, ds, rv, hd, by simp; omega, fun s us ws X l1 l2 => ?_⟩
  have : ws = [] := List.length_eq_zero_iff.mp l2
  subst this
  have hlen := rv.length
  rw [List.length_map] at hlen
  exact hb s us X (by rw [List.length_append]; omega)
end
end DP

/-! Rules: == and !=, len of an instance. -/
namespace DP
open PySem PySem.Spec L2

section
variable {prog : Program} {w : World} {A : Around} {E : Value → Shared → Prop} {s : Shared} {K : PySem.W.Frag} {x y C f L : Addr} {ox oy : Obj} {od : Option Obj} {h₀ : Heap} {m : Str → Option Value}
theorem ifBound_objNe {M : Model} {args : List Value} {Q : Option Value → Shared → Prop} (X : K.In s.heap) (I : PySem.W.InstAt s.heap x ox C od) (hs : PySem.W.findIn K (.ref C) "__ne__" = some (some (.builtin "object.__ne__")))
    (h : wpAny M A (call (.builtin "object.__ne__") (.ref x :: args)) (fun v => Q (some v)) E s) : wpAny M A (callSpecialIfBound? (.ref x) "__ne__" args) Q E s := by
  simp only [callSpecialIfBound?, bindSpecialIfBound?]
  refine wpAny_holding (wpAny_bind (wpAny_bind (wpAny_bind (I.type.here ((PySem.W.looks_findIn X hs).here ?_)))))
  refine wpAny_bind (wpAny_askSetting (wpAny_ite ?_))
  have fin : wpAny M A (call (.builtin "object.__ne__") ([.ref x] ++ args) >>= fun v => pure (some v)) Q E s := wpAny_bind (wpAny_mono h (fun v s' h' => wpAny_pure h') fun _ _ h' => h')
  split
  · exact wpAny_bind (wpAny_of_eq (F.cmp_object.ne.bind _) (wpAny_pure (by exact fin)))
  · exact wpAny_tryCatch (wpAny_bind (wpAny_of_eq (F.cmp_object.ne.bind _) (wpAny_pure (by exact fin))))
theorem entry_objNe {Q : PySem.Fin → Shared → Prop} (X : K.In s.heap) (I : PySem.W.InstAt s.heap x ox C od) (hs : PySem.W.findIn K (.ref C) "__eq__" = some (some (.ref f))) (hf : PySem.W.isFn K (.ref f) = true) (hu : A.units < cLine)
    (hcall : wpAny (model prog w) A (call (.ref f) [.ref x, .ref y]) (fun v s' => ∃ b, v = .bool b ∧ Q (.done (.ret (.bool (!b)))) s') E s) : wpAny (model prog w) A (Builtin.«object.__ne__» ⟨[.ref x, .ref y], []⟩) Q E s := by
  obtain ⟨hp, g, d, t, os⟩ := s
  unfold Builtin.«object.__ne__»
  repeat (first
    | with_reducible refine wpAny_cRoomFor hu ?_
    | (refine wpAny_bind (m := callSpecialIfBound? (.ref x) (Str.ofString "__eq__") [.ref y])
        (PySem.W.ifBound_K X I hs hf (wpAny_mono hcall (fun r s' hr => by
          obtain ⟨b, rfl, hq⟩ := hr
          repeat (first | exact hq | exact wpAny_pure hq | exact wpAny_truthy_bool hq | (refine wpAny_bind (m := truthy (.bool _)) (wpAny_truthy_bool ?_)) | wp_step)) fun _ _ e => e)))
    | wp_step)
theorem rc_objNe {Q : Value → Shared → Prop} (hu : A.units + 1 < cLine) (X : K.In s.heap) (I : PySem.W.InstAt s.heap x ox C od) (J : PySem.W.Looks (model prog w) s.heap (typeOf (.ref y)) (.ref C)) (hs : PySem.W.findIn K (.ref C) "__eq__" = some (some (.ref f))) (hf : PySem.W.isFn K (.ref f) = true)
    (hn : PySem.W.findIn K (.ref C) "__ne__" = some (some (.builtin "object.__ne__"))) (hm : PySem.W.mroIn K C (.type "object") = some true)
    (hcall : wpAny (model prog w) A.in1 (call (.ref f) [.ref x, .ref y]) (fun v s' => ∃ b, v = .bool b ∧ Q (.bool (!b)) s') E s) : wpAny (model prog w) A (richCompare .NotEq (.ref x) (.ref y)) Q E s := by
  have one : wpAny (model prog w) A (tryCompare (.ref x) "__ne__" (.ref y)) (fun r s' => ∃ v, r = some v ∧ Q v s') E s := by
    unfold tryCompare
    refine wpAny_bind (ifBound_objNe X I hn (wpAny_call (codeAny_call_builtin F.cmp_object.ne.plain F.cmpEntry_ne (PySem.W.check_slot F.cmpKind_ne F.cmpSplit_ne (I.type.andThen (PySem.W.looks_mroIn X hm)) (F.cmpArgs_ne _ _)
      (entry_objNe (A := A.in1) X I hs hf hu (wpAny_mono hcall (fun v s' hv => ?_) fun _ _ e => e))))))
    obtain ⟨b, rfl, hq⟩ := hv
    exact ⟨b, rfl, wpAny_pure ⟨_, rfl, hq⟩⟩
  unfold richCompare
  simp only [oneThing_ref]
  refine wpAny_holding (wpAny_bind (wpAny_cRoomFor (Nat.lt_of_succ_lt hu) ?_))
  refine wpAny_bind (I.type.here (wpAny_bind (J.here ?_)))
  rw [cmpInfo_NotEq]
  dsimp only
  rw [show (Value.ref C != Value.ref C) = false from by simp]
  simp only [Bool.false_eq_true, if_false]
  refine wpAny_bind (wpAny_pure ?_)
  simp only [Bool.false_eq_true, if_false]
  refine wpAny_bind (wpAny_mono one (fun r s' z => ?_) fun _ _ e => e)
  obtain ⟨v, rfl, hq⟩ := z
  exact wpAny_pure hq
end

section
variable {K : PySem.W.Frag} {ca : Str → Option Addr} {α : List Addr} {F H : Hp} {v : V} {d : D} {μ : Sto}
theorem all_dp : ∀ (ds : List D) (vs : List V) (ps : List PyData), vs.length = ds.length → (∀ (i : Nat) v d, vs[i]? = some v → ds[i]? = some d → ∀ p, d.py = some p → Dp K H v p) → D.pys ds = some ps → DpAll K H vs ps
  | [], vs, ps, hl, _, h => by
    have : vs = [] := List.length_eq_zero_iff.mp hl
    subst this
    simp [D.pys] at h; subst h; exact .nil
  | d :: ds, vs, ps, hl, hd, h => by
    cases vs with
    | nil => simp at hl
    | cons v vs =>
      simp only [D.pys] at h
      split at h
      · rename_i x xs e1 e2
        cases h
        exact .cons (hd 0 v d rfl rfl _ e1) (all_dp ds vs _ (by simpa using hl) (fun i v d h1 h2 => hd (i + 1) v d (by simpa using h1) (by simpa using h2)) e2)
      · cases h
theorem rep_dp (s : Sim K ca α F μ H) (r : Rep K ca α F v d) : ∀ p, d.py = some p → Dp K H v p := by
  induction r with
  | non => intro p h; simp [D.py] at h; subst h; exact .non
  | bl b => intro p h; simp [D.py] at h; subst h; exact .bl b
  | int b => intro p h; simp [D.py] at h; subst h; exact .int b
  | str b => intro p h; simp [D.py] at h; subst h; exact .str b
  | tup h l _ ih =>
    intro p hp
    simp only [D.py] at hp
    obtain ⟨ps, h1, h2⟩ := Option.map_eq_some_iff.mp hp
    subst h2
    exact .tup (seqT_un s.sub h) (all_dp _ _ _ l ih h1)
  | lst h l _ ih =>
    intro p hp
    simp only [D.py] at hp
    obtain ⟨ps, h1, h2⟩ := Option.map_eq_some_iff.mp hp
    subst h2
    exact .lst (SqL.of (s.sub _ _ h)) (all_dp _ _ _ l ih h1)
  | scr h => intro p hp; simp [D.py] at hp
  | obj => intro p hp; simp [D.py] at hp
  | cell h => intro p hp; simp [D.py] at hp
theorem rep_cls (s : Sim K ca α F μ H) (r : Rep K ca α F v d) {C : Str} (h : cls d μ = some C) : ∃ a c dx fs, v = .ref a ∧ ca C = some c ∧ H a = some (.ins c dx fs) := by
  cases r with
  | @obj a C c dx fs gs vv q1 q2 => simp [cls] at h; subst h; exact ⟨a, c, dx, fs, rfl, q1, s.sub _ _ q2⟩
  | @cell a n q =>
    simp only [cls] at h
    split at h
    · rename_i C gs hn
      cases h
      obtain ⟨c, dx, fs, h1, h2, _⟩ := s.cel _ _ _ hn q
      exact ⟨a, c, dx, fs, rfl, h1, h2⟩
    · cases h
  | _ => simp [cls] at h
theorem rep_dict (s : Sim K ca α F μ H) (r : Rep K ca α F v d) {kvs : List (Key × D)} (h : dictOf d μ = some kvs) : ∃ a vs, v = .ref a ∧ H a = some (.dK vs) ∧ KRel K ca α F vs kvs := by
  cases r with
  | @cell a n q =>
    simp only [dictOf] at h
    split at h
    · rename_i ds hn
      cases h
      obtain ⟨vs, h1, h2⟩ := s.cel _ _ _ hn q
      exact ⟨a, vs, rfl, h1, h2⟩
    · cases h
  | _ => simp [dictOf] at h
/-- the items of two dicts of flat values -/
theorem hits_flat {A : Around} {s : Shared} {ks : List (Key × V)} {kb : List (Key × D)} {vb : List (Key × Value)} (rb : KV ks vb) (qb : KRel K ca α F ks kb) (fb : (kb.all fun kv => kv.2.flat) = true) :
    ∀ {ls : List (Key × V)} {la : List (Key × D)} {va : List (Key × Value)}, KV ls va → KRel K ca α F ls la → (la.all fun kv => kv.2.flat) = true →
      PySem.W.KeqHits A s vb va (la.all fun kv => match lookK kb kv.1 with | some d => eqF kv.2 d | none => false) := by
  intro ls la va ra
  unfold KV at ra
  induction ra generalizing la with
  | nil => intro q _; have : la = [] := by have := q.1; simpa using this.symm
           subst this; exact .nil
  | @cons p q ps qs h t ih =>
    intro r fl
    cases la with
    | nil => have := r.1; simp at this
    | cons pd la =>
      obtain ⟨h1, h2⟩ := h
      obtain ⟨k1, v1⟩ := p
      obtain ⟨k2, u1⟩ := q
      obtain ⟨k3, d1⟩ := pd
      have h1 : k1 = k2 := h1
      subst h1
      have e : k1 = k3 := by have := r.1; simp at this; exact this.1
      subst e
      simp only [List.all_cons, Bool.and_eq_true] at fl
      have rt : KRel K ca α F ps la := ⟨by have := r.1; simpa using this, r.2.tail⟩
      have ih := ih rt fl.2
      have rv := rb.val k1
      simp only [List.all_cons]
      rcases look_val qb k1 with ⟨e1, e2⟩ | ⟨w, d', e1, e2, r2⟩
      · rw [e1] at rv
        have hn : valueAt vb k1 = none := by
          cases hq : valueAt vb k1 with
          | none => rfl
          | some y => rw [hq] at rv; exact rv.elim
        rw [e2]
        simp only [Bool.false_and]
        exact .miss hn
      · rw [e1] at rv
        obtain ⟨y, hy, ry⟩ : ∃ y, valueAt vb k1 = some y ∧ RelV w y := by
          cases hq : valueAt vb k1 with
          | none => rw [hq] at rv; exact rv.elim
          | some y => rw [hq] at rv; exact ⟨y, rfl, rv⟩
        rw [e2]
        have f2 : d'.flat = true := by
          have : (k1, d') ∈ kb := by
            unfold lookK at e2
            obtain ⟨kv, g1, g2⟩ := Option.map_eq_some_iff.mp e2
            have g3 := List.find?_some g1
            have g4 := List.mem_of_find?_eq_some g1
            simp at g3
            obtain ⟨k', d''⟩ := kv
            simp at g2 g3
            subst g2 g3
            exact g4
          exact List.all_eq_true.mp fb _ this
        obtain ⟨g1, g2⟩ := rep_flat r.2.head fl.1
        obtain ⟨g3, g4⟩ := rep_flat r2 f2
        have q := eqAt_V (A := A) (s := s) h2 ry g2 g4
        have g1 : v1 = d1.toV := g1
        rw [g1, g3] at q
        exact .hit hy q ih
end
section
variable {ca : Str → Option Addr} {Γ : Pr} {X : Cx} {a b c e o : Expr} {A B C : E} {pos p apos : Pos} {k : Nat}
/-- a call of a def at any room -/
theorem run_at {sp : Sp} {f : Addr} {fd : FuncData} {ps : List Str} {A : Around} {pins : List (Addr × Obj)} {σ : L2.St} {H : Hp} {s : Shared} {Q : VK} {us bs : List Value} {vs : List V} (F : FnOk X.prog X.w X.K X.mg X.base CX0 k f fd ps sp) (hr : Room k A) (he : Env0 X.prog X.w X.K X.mg X.base A X.stack s H)
    (hb : BindsTo s fd ⟨us, []⟩ (ps.zip bs)) (I : L2.Inv X pins σ H s) (r : Vals vs bs) (h : sp vs H Q E0) : wpAny (model X.prog X.w) A (call (.ref f) us) (EP X pins σ Q) X.xe s := by
  refine wpAny_call (codeAny_mono (F.run A X.stack s H ⟨us, []⟩ bs vs Q E0 hr he hb r h) fun r s' hq => ?_)
  cases r with
  | error e => exact False.elim hq
  | ok fl =>
    cases fl with
    | ret u => exact I.after hq
    | next => exact False.elim hq
    | brk => exact False.elim hq
    | cont => exact False.elim hq
/-- a method of an instance by its name, the instance and the rest behind -/
theorem meth_at {m : Str} {g : Str → List D → Sto → Option (D × Sto)} {n : Nat} (M : MethI X.prog X.w X.K X.mg X.base ca k m g n [] []) {A : Around} {C : Str} {c : Addr} {ds : List D} {vs : List V} {us : List Value} {α F H μ d μ'} {pins : List (Addr × Obj)} {σ : L2.St} {s : Shared} {Q : VK} (hc : ca C = some c) (hr : Room k A) (he : Env0 X.prog X.w X.K X.mg X.base A X.stack s H)
    (I : L2.Inv X pins σ H s) (sm : Sim X.K ca α F μ H) (r : Reps X.K ca α F vs ds) (rv : Vals vs us) (hl : ds.length = n + 1) (e : g C ds μ = some (d, μ')) (kk : Kon X.K ca α F d μ' Q) :
    ∃ f, PySem.W.findIn X.K (.ref c) m = some (some (.ref f)) ∧ PySem.W.isFn X.K (.ref f) = true ∧ wpAny (model X.prog X.w) A (call (.ref f) us) (EP X pins σ Q) X.xe s := by
  obtain ⟨c', f, fd, ps, h1, h2, h3, G, hb⟩ := M.ex C ds μ _ e
  rw [hc] at h1; cases h1
  obtain ⟨dvs, dus, rd, qd, hl2, hbt⟩ := hb
  have hds : dvs = [] := by have := (qd (fun _ => none) [] (fun _ => none)).1; simpa using this
  subst hds
  cases rd
  have hlu : us.length = n + 1 := by rw [← rv.length, r.1, hl]
  have hbb := hbt s us [] I.kIn hlu rfl
  simp only [List.append_nil, List.zip_nil_right] at hbb
  refine ⟨f, h3.at_, h3.fn, run_at G hr he hbb I rv ⟨by simp at hl2; rw [r.1]; omega, α, F, μ, ds, d, μ', sm, r, e, kk⟩⟩
/-- only a truth value comes back -/
theorem kon_bl {K : PySem.W.Frag} {α F b μ'} {Q : VK} (kk : Kon K ca α F (.bl b) μ' Q) : Kon K ca α F (.bl b) μ' fun v H => v = .bl b ∧ Q v H := fun v α' F' H' x s r => ⟨by cases r; rfl, kk v α' F' H' x s r⟩
theorem own_run {m : Str} (M : MethI X.prog X.w X.K X.mg X.base ca k m (fun C => Γ.meth C m) 1 [] []) {A : Around} {C : Str} {x y : D} {v w : V} {u1 u2 : Value} {α F H μ b μ'} {pins : List (Addr × Obj)} {σ : L2.St} {s : Shared} {Q : VK} (hr : Room k A) (he : Env0 X.prog X.w X.K X.mg X.base A X.stack s H)
    (I : L2.Inv X pins σ H s) (sm : Sim X.K ca α F μ H) (r1 : Rep X.K ca α F v x) (r2 : Rep X.K ca α F w y) (rx : RelV v u1) (ry : RelV w u2) (hC : cls x μ = some C) (hC' : cls y μ = some C) (e : Γ.meth C m [x, y] μ = some (.bl b, μ')) (kk : Kon X.K ca α F (.bl b) μ' Q) :
    ∃ (a1 a2 c : Addr) (f : Addr) (o1 o2 : Obj) (od1 od2 : Option Obj) (mm : Str → Option Value), u1 = .ref a1 ∧ u2 = .ref a2 ∧ ca C = some c ∧ PySem.W.findIn X.K (.ref c) m = some (some (.ref f)) ∧ PySem.W.isFn X.K (.ref f) = true ∧ PySem.W.InstAt s.heap a1 o1 c od1 ∧ PySem.W.InstAt s.heap a2 o2 c od2 ∧
      PyProof.Rows.Fr X.base X.env.locals s.heap mm ∧ wpAny (model X.prog X.w) A (call (.ref f) [.ref a1, .ref a2]) (fun z s' => z = .bool b ∧ EP X pins σ Q (.bool b) s') X.xe s := by
  obtain ⟨a1, c1, dx1, fs1, rfl, hc1, h1⟩ := rep_cls sm r1 hC
  obtain ⟨a2, c2, dx2, fs2, rfl, hc2, h2⟩ := rep_cls sm r2 hC'
  rw [hc1] at hc2; cases hc2
  cases (show u1 = Value.ref a1 from rx)
  cases (show u2 = Value.ref a2 from ry)
  have rv : Vals [V.ref a1, V.ref a2] [Value.ref a1, Value.ref a2] := .cons rfl (.cons rfl .nil)
  obtain ⟨f, hf, hfn, hrun⟩ := meth_at (us := [.ref a1, .ref a2]) M hc1 hr he I sm (.cons r1 (.cons r2 .nil)) rv rfl e (kon_bl kk)
  obtain ⟨mA, J, _⟩ := ins_get I.hok h1
  obtain ⟨mB, J', _⟩ := ins_get I.hok h2
  obtain ⟨od, J, _⟩ := J.look
  obtain ⟨od', J', _⟩ := J'.look
  obtain ⟨m, hF⟩ := I.fr
  refine ⟨a1, a2, c1, f, _, _, _, _, m, rfl, rfl, hc1, hf, hfn, J, J', hF, wpAny_mono hrun (fun r s' hq => ?_) fun _ _ z => z⟩
  obtain ⟨z, H', I', rz, rfl, qz⟩ := hq
  cases (show r = Value.bool b from rz)
  exact ⟨rfl, .bl b, H', I', rfl, qz⟩
theorem dict_at {pins : List (Addr × Obj)} {σ : L2.St} {H : Hp} {s : Shared} (I : L2.Inv X pins σ H s) {a : Addr} {vs : List (Key × V)} (h : H a = some (.dK vs)) : (a == sysModules) = false ∧ ∃ va, KV vs va ∧ s.heap.DictOf (mixKind X.prog X.w) a va := by
  obtain ⟨_, ya, va, ra, da⟩ := (show ObjOk X.prog X.w H s.heap a (.dK vs) from I.hok a _ h)
  exact ⟨ya, va, ra, da⟩
theorem dict_len {K : PySem.W.Frag} {α F} {vs : List (Key × V)} {va : List (Key × Value)} {kvs : List (Key × D)} (r : KV vs va) (q : KRel K ca α F vs kvs) : va.length = kvs.length := by
  have h1 := r.length
  have h2 := congrArg List.length q.1
  simp only [List.length_map] at h2
  omega
theorem data_eq {x y : D} {b : Bool} (h : eqD x y = some b) : ∃ pa pb, x.py = some pa ∧ y.py = some pb ∧ SeqAt.shaped pa = true ∧ SeqAt.shaped pb = true ∧ b = pa.eqv pb := by
  unfold eqD at h
  split at h
  · rename_i pa pb ha hb
    split at h
    · rename_i hs
      cases h
      simp only [Bool.and_eq_true] at hs
      exact ⟨pa, pb, ha, hb, hs.1, hs.2, rfl⟩
    · cases h
  · cases h
theorem co_eq (M : MethI X.prog X.w X.K X.mg X.base ca k "__eq__" (fun C => Γ.meth C "__eq__") 1 [] []) (hr : Room (k + 1) X.A) : CmpOk ca Γ X .Eq .eq := fun pins s σ H v w u1 u2 Q I rx ry q => by
  obtain ⟨α, F, μ, x, y, b, μ', sm, r1, r2, e, kk⟩ := q
  have hu : X.A.units + 64 < cLine := by have := hr.un; omega
  simp only [cmpD] at e
  unfold eqA at e
  split at e
  · rename_i C hC
    split at e
    · rename_i C' hC'
      split at e
      · rename_i hcc
        subst hcc
        obtain ⟨d, μ1, e1, e⟩ := bnd_eq e
        split at e
        · cases e
          obtain ⟨a1, a2, c, f, o1, o2, od1, od2, mm, rfl, rfl, hc, hf, hfn, J, J', hF, hrun⟩ := own_run M (hr.mono (Nat.le_succ k)) I.env0 I sm r1 r2 rx ry hC hC' e1 kk
          exact PySem.W.cmp_K (op := .Eq) (tb := .ref c) (by omega) hF I.ok.mod.kin J J'.type (by simp [PySem.W.notFirst]) hf hfn (wpAny_mono hrun (fun r s' hq => by
            obtain ⟨rfl, hq⟩ := hq
            exact hq) fun _ _ z => z)
        · cases e
      · cases e
    · cases e
  · split at e
    · rename_i ka hka
      split at e
      · rename_i kb hkb
        split at e
        · rename_i hfl
          cases e
          simp only [Bool.and_eq_true] at hfl
          obtain ⟨a1, vs1, rfl, h1, q1⟩ := rep_dict sm r1 hka
          obtain ⟨a2, vs2, rfl, h2, q2⟩ := rep_dict sm r2 hkb
          cases (show u1 = Value.ref a1 from rx)
          cases (show u2 = Value.ref a2 from ry)
          obtain ⟨y1, va1, k1, d1⟩ := dict_at I h1
          obtain ⟨y2, va2, k2, d2⟩ := dict_at I h2
          refine PySem.W.keq_eq (knd := mixKind X.prog X.w) y1 y2 d1 d2 (by omega) (fun _ => hits_flat k2 q2 hfl.2 k1 q1 hfl.1) ?_
          rw [dict_len k1 q1, dict_len k2 q2]
          exact ⟨.bl _, H, I, rfl, kk.now sm (.bl _)⟩
        · cases e
      · cases e
    · obtain ⟨b', e1, e2⟩ := Option.map_eq_some_iff.mp e
      cases e2
      obtain ⟨pa, pb, ha, hb, hs1, hs2, rfl⟩ := data_eq e1
      exact op_eqD hu pins s σ H v w u1 u2 Q I rx ry ⟨pa, pb, rep_dp sm r1 _ ha, rep_dp sm r2 _ hb, hs1, hs2, kk.now sm (.bl _)⟩
/-- != by object's own, where only == is one's own -/
def NeOk (X : Cx) (ca : Str → Option Addr) : Prop := ∀ C c f, ca C = some c → PySem.W.findIn X.K (.ref c) "__eq__" = some (some (.ref f)) → PySem.W.findIn X.K (.ref c) "__ne__" = some (some (.builtin "object.__ne__")) ∧ PySem.W.mroIn X.K c (.type "object") = some true
theorem co_ne (N : NeOk X ca) (M : MethI X.prog X.w X.K X.mg X.base ca k "__eq__" (fun C => Γ.meth C "__eq__") 1 [] []) (hr : Room (k + 1) X.A) : CmpOk ca Γ X .NotEq .ne := fun pins s σ H v w u1 u2 Q I rx ry q => by
  obtain ⟨α, F, μ, x, y, b, μ', sm, r1, r2, e, kk⟩ := q
  have hu : X.A.units + 64 < cLine := by have := hr.un; omega
  simp only [cmpD] at e
  obtain ⟨⟨b0, μ0⟩, e', e0⟩ := Option.map_eq_some_iff.mp e
  cases e0
  clear e
  have e := e'
  clear e'
  unfold eqA at e
  split at e
  · rename_i C hC
    split at e
    · rename_i C' hC'
      split at e
      · rename_i hcc
        subst hcc
        obtain ⟨d, μ1, e1, e⟩ := bnd_eq e
        split at e
        · cases e
          obtain ⟨a1, a2, c, f, o1, o2, od1, od2, mm, rfl, rfl, hc, hf, hfn, J, J', hF, hrun⟩ := own_run (A := X.A.in1) (Q := fun _ H' => ∃ α' F', Ext α F α' F' ∧ Sim X.K ca α' F' μ0 H') M hr.in1 I.env0.in1 I sm r1 r2 rx ry hC hC' e1 fun v α' F' H' x s r => ⟨α', F', x, s⟩
          obtain ⟨n1, n2⟩ := N _ _ f hc hf
          exact rc_objNe (by omega) (I.ok.mod.kin.keeps hF.keep) J J'.type hf hfn n1 n2 (wpAny_mono hrun (fun r s' hq => by
            obtain ⟨rfl, z, H', I', rz, α', F', x', s'⟩ := hq
            exact ⟨b0, rfl, .bl (!b0), H', I', rfl, kk _ α' F' H' x' s' (.bl _)⟩) fun _ _ z => z)
        · cases e
      · cases e
    · cases e
  · split at e
    · rename_i ka hka
      split at e
      · rename_i kb hkb
        split at e
        · rename_i hfl
          cases e
          simp only [Bool.and_eq_true] at hfl
          obtain ⟨a1, vs1, rfl, h1, q1⟩ := rep_dict sm r1 hka
          obtain ⟨a2, vs2, rfl, h2, q2⟩ := rep_dict sm r2 hkb
          cases (show u1 = Value.ref a1 from rx)
          cases (show u2 = Value.ref a2 from ry)
          obtain ⟨y1, va1, k1, d1⟩ := dict_at I h1
          obtain ⟨y2, va2, k2, d2⟩ := dict_at I h2
          refine PySem.W.keq_ne (knd := mixKind X.prog X.w) y1 y2 d1 d2 (by omega) (fun _ => hits_flat k2 q2 hfl.2 k1 q1 hfl.1) ?_
          rw [dict_len k1 q1, dict_len k2 q2]
          exact ⟨.bl _, H, I, rfl, kk.now sm (.bl _)⟩
        · cases e
      · cases e
    · obtain ⟨b', e1, e2⟩ := Option.map_eq_some_iff.mp e
      cases e2
      obtain ⟨pa, pb, ha, hb, hs1, hs2, rfl⟩ := data_eq e1
      exact op_neD hu pins s σ H v w u1 u2 Q I rx ry ⟨pa, pb, rep_dp sm r1 _ ha, rep_dp sm r2 _ hb, hs1, hs2, kk.now sm (.bl _)⟩
end
end DP

/-! zip of three lists; len of an instance; dict comprehensions. -/
namespace DP
open PySem PySem.Spec L2

/-- the lists at a, b, c as they stand at each turn, the items in new triples -/
def Itz3 (K : PySem.W.Frag) (a b c : Addr) : It :=
  ⟨fun i H => ∃ (xs ys zs : List V) (x y z : V), SqL K H a xs ∧ SqL K H b ys ∧ SqL K H c zs ∧ xs[i]? = some x ∧ ys[i]? = some y ∧ zs[i]? = some z,
    fun i H v H' => ∃ T x y z, v = .ref T ∧ H T = none ∧ H' = upd H T (.tup [x, y, z]) ∧ (∀ xs, SqL K H a xs → xs[i]? = some x) ∧ (∀ ys, SqL K H b ys → ys[i]? = some y) ∧ ∀ zs, SqL K H c zs → zs[i]? = some z,
    fun i H => ∃ xs ys zs : List V, SqL K H a xs ∧ SqL K H b ys ∧ SqL K H c zs ∧ (i ≤ xs.length ∧ i ≤ ys.length ∧ i ≤ zs.length) ∧ (i = xs.length ∨ i = ys.length ∨ i = zs.length)⟩
structure Apart3 (z TI TO i1 i2 i3 a b c : Addr) : Prop where
  sep : ZipSep3 z TI TO i1 i2 i3 [i1, a] [i2, b] [i3, c]
  n1 : a ≠ i1
  n2 : b ≠ i2
  n3 : c ≠ i3
theorem turn_zip3 {P : Program} {w : World} {K : PySem.W.Frag} {elts : List Expr} {kk : Nat} {tpos : Pos} {a b c z TI TO i1 i2 i3 : Addr} (D : Apart3 z TI TO i1 i2 i3 a b c) :
    Turn P w K (.Tuple elts kk tpos) (Itz3 K a b c) [z, TI, TO, i1, i2, i3] z (fun i h => IsZip h z TI TO .none ∧ IsTupOf3 h TI (.ref i1) (.ref i2) (.ref i3) ∧ (∃ x y u, IsTupOf3 h TO x y u) ∧ h.IsListIter i1 a i ∧ h.IsListIter i2 b i ∧ h.IsListIter i3 c i) where
  mem := by simp
  obj := fun i h st c hc => by
    obtain ⟨hz, hTI, ⟨x, y, u, hTO⟩, ⟨o1, e1, _, d1⟩, ⟨o2, e2, _, d2⟩, ⟨o3, e3, _, d3⟩⟩ := st
    have e' : c = z ∨ c = TI ∨ c = TO ∨ c = i1 ∨ c = i2 ∨ c = i3 := by simpa using hc
    rcases e' with q | q | q | q | q | q
    · rw [q]; exact ⟨_, hz, fun v q => nomatch q⟩
    · rw [q]; exact ⟨_, hTI, fun v q => nomatch q⟩
    · rw [q]; exact ⟨_, hTO, fun v q => nomatch q⟩
    · rw [q]; exact ⟨o1, e1, fun v q => by rw [d1] at q; cases q⟩
    · rw [q]; exact ⟨o2, e2, fun v q => by rw [d2] at q; cases q⟩
    · rw [q]; exact ⟨o3, e3, fun v q => by rw [d3] at q; cases q⟩
  keep := fun i h h' st k => by
    obtain ⟨hz, hTI, ⟨x, y, u, hTO⟩, h1, h2, h3⟩ := st
    exact ⟨k z (by simp) _ hz, k TI (by simp) _ hTI, ⟨x, y, u, k TO (by simp) _ hTO⟩, h1.at fun o q => k i1 (by simp) o q, h2.at fun o q => k i2 (by simp) o q, h3.at fun o q => k i3 (by simp) o q⟩
  item := by
    intro X hP hw hK hc i pins s σ H E I hf st hg
    subst hP hw hK
    obtain ⟨hz, hTI, ⟨x0, y0, u0, hTO⟩, h1, h2, h3⟩ := st
    obtain ⟨xs, ys, zs, x, y, u, hqx, hqy, hqz, hx, hy, hu⟩ := hg
    obtain ⟨its, rv, p, _⟩ := I.list hqx
    obtain ⟨its2, rv2, p2, _⟩ := I.list hqy
    obtain ⟨its3, rv3, p3, _⟩ := I.list hqz
    obtain ⟨v1, hv1, ru⟩ := rv.get hx
    obtain ⟨v2, hv2, ru2⟩ := rv2.get hy
    obtain ⟨v3, hv3, ru3⟩ := rv3.get hu
    have hzl : z < s.heap.objs.size := Heap.lt_size hz
    have hh : X.A.in1.handled = none := I.ok.hd hc
    have l1 : i < its.toArray.size := by have := (List.getElem?_eq_some_iff.mp hv1).1; simpa using this
    have l2 : i < its2.toArray.size := by have := (List.getElem?_eq_some_iff.mp hv2).1; simpa using this
    have l3 : i < its3.toArray.size := by have := (List.getElem?_eq_some_iff.mp hv3).1; simpa using this
    refine wpAny_pyNext_zipD3_item D.sep (Draws.list hh i1 a D.n1 its.toArray) (Draws.list hh i2 b D.n2 its2.toArray) (Draws.list hh i3 c D.n3 its3.toArray) hz hTI hTO ⟨h1, p.isList⟩ ⟨h2, p2.isList⟩ ⟨h3, p3.isList⟩ l1 l2 l3
      fun w1 w2 w3 h' tk q1 q2 q3 z' TO' st1 st2 st3 hT hsz hk => ?_
    have e1 : v1 = w1 := by simp only [List.getElem?_toArray] at q1; rw [hv1] at q1; exact Option.some.inj q1
    have e2 : v2 = w2 := by simp only [List.getElem?_toArray] at q2; rw [hv2] at q2; exact Option.some.inj q2
    have e3 : v3 = w3 := by simp only [List.getElem?_toArray] at q3; rw [hv3] at q3; exact Option.some.inj q3
    subst e1 e2 e3
    refine ⟨_, rfl, wpAny_letOwnedTupleGo_zip (s := { s with heap := h', toks := tk }) z' fun h'' z'' sb => ?_⟩
    have hT2 : h''.get? s.heap.objs.size = some { cls := .type "tuple", data := .seq #[v1, v2, v3] } := (sb.2 _ (Nat.ne_of_gt hzl)).trans hT
    have new : ObjOk X.prog X.w (upd H s.heap.objs.size (.tup [x, y, u])) h'' s.heap.objs.size (.tup [x, y, u]) :=
      ⟨by show 3 ≤ sizeLine; decide, [v1, v2, v3], .cons ru (.cons ru2 (.cons ru3 .nil)), ⟨_, hT2, rfl, _, rfl⟩⟩
    have I1 : Inv X pins σ (upd H s.heap.objs.size (.tup [x, y, u])) { s with heap := h'', toks := tk } :=
      I.turnedNew (t' := tk) (ch := [z, TI, TO, i1, i2, i3]) (fun c o hb q => (sb.2 c (fun q' => hb (by simp [q']))).trans (hk c o (fun q' => hb (by simp [q'])) (fun q' => hb (by simp [q'])) (fun q' => hb (by simp [q'])) (fun q' => hb (by simp [q'])) (fun q' => hb (by simp [q'])) q)) hf (Nat.le_refl _) new
    refine ⟨.ref s.heap.objs.size, _, I1, rfl, ⟨_, x, y, u, rfl, I.hok.fresh (Nat.le_refl _), rfl, fun l hl => by rw [I.list_inj hl hqx]; exact hx, fun l hl => by rw [I.list_inj hl hqy]; exact hy, fun l hl => by rw [I.list_inj hl hqz]; exact hu⟩, ⟨z'', ?_, ⟨v1, v2, v3, ?_⟩, ?_, ?_, ?_⟩, fun c hcm => ?_⟩
    · exact (sb.2 _ D.sep.TIz).trans (hk _ _ D.sep.TIz D.sep.TITO D.sep.TIi1 D.sep.TIi2 D.sep.TIi3 hTI)
    · exact (sb.2 _ D.sep.TOz).trans TO'
    · exact st1.1.at fun o q => (sb.2 _ (Ne.symm D.sep.zi1)).trans q
    · exact st2.1.at fun o q => (sb.2 _ (Ne.symm D.sep.zi2)).trans q
    · exact st3.1.at fun o q => (sb.2 _ (Ne.symm D.sep.zi3)).trans q
    · have hlt : c < s.heap.objs.size := by
        have e' : c = z ∨ c = TI ∨ c = TO ∨ c = i1 ∨ c = i2 ∨ c = i3 := by simpa using hcm
        rcases e' with q | q | q | q | q | q
        · rw [q]; exact hzl
        · rw [q]; exact Heap.lt_size hTI
        · rw [q]; exact Heap.lt_size hTO
        · rw [q]; obtain ⟨_, e1, _⟩ := h1; exact Heap.lt_size e1
        · rw [q]; obtain ⟨_, e2, _⟩ := h2; exact Heap.lt_size e2
        · rw [q]; obtain ⟨_, e3, _⟩ := h3; exact Heap.lt_size e3
      rw [upd_ne (Nat.ne_of_lt hlt)]
      exact (hf c hcm).1
  done := by
    intro X hP hw hK hc i pins s σ H E I hf st hg
    subst hP hw hK
    obtain ⟨hz, hTI, ⟨x0, y0, u0, hTO⟩, h1, h2, h3⟩ := st
    obtain ⟨xs, ys, zs, hqx, hqy, hqz, ⟨g1, g2, g3⟩, hend⟩ := hg
    obtain ⟨its, rv, p, _⟩ := I.list hqx
    obtain ⟨its2, rv2, p2, _⟩ := I.list hqy
    obtain ⟨its3, rv3, p3, _⟩ := I.list hqz
    have l1 := rv.length
    have l2 := rv2.length
    have l3 := rv3.length
    have hh : X.A.in1.handled = none := I.ok.hd hc
    exact wpAny_pyNext_zipD3_end D.sep (Draws.list hh i1 a D.n1 its.toArray) (Draws.list hh i2 b D.n2 its2.toArray) (Draws.list hh i3 c D.n3 its3.toArray) hz hTI hTO ⟨h1, p.isList⟩ ⟨h2, p2.isList⟩ ⟨h3, p3.isList⟩ (by simp; omega) (by simp; omega) (by simp; omega) (by simp; omega)
      fun h' tk hk => ⟨rfl, I.turnedL (t' := tk) (ch := [z, TI, TO, i1, i2, i3]) (fun c o hb q =>
        hk c o (fun q' => hb (by simp [q'])) (fun q' => hb (by simp [q'])) (fun q' => hb (by simp [q'])) (fun q' => hb (by simp [q'])) (fun q' => hb (by simp [q'])) q) hf⟩
  self := fun A i s Q E st h => wpAny_pyIter_zip st.1 h
def iZip3 (K : PySem.W.Frag) (ta : TA) : TI := fun σ H R => ta σ H fun vs H1 => ∃ a b c xs ys zs, vs = [.ref a, .ref b, .ref c] ∧ SqL K H1 a xs ∧ SqL K H1 b ys ∧ SqL K H1 c zs ∧ R (Itz3 K a b c) H1
theorem apart3 {N a b c : Nat} (la : a < N) (lb : b < N) (lc : c < N) : Apart3 (N + 5) (N + 3) (N + 4) N (N + 1) (N + 2) a b c :=
  ⟨zip_sep3 (fp1 := [a]) (fp2 := [b]) (fp3 := [c]) (by simpa using la) (by simpa using lb) (by simpa using lc), show (a : Nat) ≠ N by omega, show (b : Nat) ≠ N + 1 by omega, show (c : Nat) ≠ N + 2 by omega⟩
theorem pi_zip3' {X : Cx} {e e2 e3 : Expr} {ta : TA} {p pos tpos : Pos} {elts : List Expr} {kk : Nat} (hg : Gl X "zip") (hm : X.mg "zip" = none) (ha : PA X [e, e2, e3] ta)
    (hs : starEach [e, e2, e3] X.env = (false, eval e X.env) :: starEach [e2, e3] X.env := by rfl) (hpl : (backTo pos (starEach [e2, e3] X.env)).any (·.1) = false := by rfl) :
    PI X (.Tuple elts kk tpos) (.Call (.Name "zip" p) [e, e2, e3] [] pos) (iZip3 X.K ta) := by
  refine ⟨fun pins s σ H R I h => ?_⟩
  refine PyProof.Rows.Call_ (ld_blt I hg hm PyProof.Rows.boot_zip (PyProof.Rows.callWith_type1 (thn (ha.run pos pins s σ H _ I h) fun us s1 ⟨vs, H1, I1, r1, q1⟩ => ?_) hs hpl))
  obtain ⟨a, b, c, xs, ys, zs, ex, hqx, hqy, hqz, q⟩ := q1
  subst ex
  cases r1 with
  | cons r rr =>
    cases rr with
    | cons r' rr =>
      cases rr with
      | cons r'' rr =>
        cases rr
        cases r
        cases r'
        cases r''
        obtain ⟨its, rv, p1, _⟩ := I1.list hqx
        obtain ⟨its2, rv2, p2, _⟩ := I1.list hqy
        obtain ⟨its3, rv3, p3, _⟩ := I1.list hqz
        have la : a < s1.heap.objs.size := p1.lt
        have lb : b < s1.heap.objs.size := p2.lt
        have lc : c < s1.heap.objs.size := p3.lt
        refine zip_begins3 (begins_list a its.toArray) (begins_list b its2.toArray) (begins_list c its3.toArray) p1.isList p2.isList p3.isList fun h' hz hTI hTO h1 h2 h3 hsz hk => wpAny_pyIter_zip hz ?_
        have I2 : Inv X pins σ H1 { s1 with heap := h' } := I1.kept (t' := s1.toks) hk
        refine ⟨s1.heap.objs.size + 5, [s1.heap.objs.size + 5, s1.heap.objs.size + 3, s1.heap.objs.size + 4, s1.heap.objs.size, s1.heap.objs.size + 1, s1.heap.objs.size + 2], _, _, H1, rfl, I2, turn_zip3 (apart3 la lb lc), ⟨hz, hTI, ⟨_, _, _, hTO⟩, ⟨_, h1, rfl, rfl⟩, ⟨_, h2, rfl, rfl⟩, ⟨_, h3, rfl, rfl⟩⟩, fun c hcm => ?_, q⟩
        have hle : s1.heap.objs.size ≤ c := by
          have e' : c = s1.heap.objs.size + 5 ∨ c = s1.heap.objs.size + 3 ∨ c = s1.heap.objs.size + 4 ∨ c = s1.heap.objs.size ∨ c = s1.heap.objs.size + 1 ∨ c = s1.heap.objs.size + 2 := by simpa using hcm
          rcases e' with z | z | z | z | z | z
          · rw [z]; exact Nat.le_add_right _ _
          · rw [z]; exact Nat.le_add_right _ _
          · rw [z]; exact Nat.le_add_right _ _
          · rw [z]; exact Nat.le_refl _
          · rw [z]; exact Nat.le_add_right _ _
          · rw [z]; exact Nat.le_add_right _ _
        exact I1.fpOk hle (I1.hok.fresh hle)

section
variable {K : PySem.W.Frag} {ca : Str → Option Addr} {α : List Addr} {F : Hp} {a b c : Addr} {vs ws us : List V} {ds es fs : List D}
theorem wd_triple {T : Addr} {v w u : V} {d e f : D} {α' F' μ' H'} (s : Sim K ca α' F' μ' H') (hT : H' T = none) (r1 : Rep K ca α' F' v d) (r2 : Rep K ca α' F' w e) (r3 : Rep K ca α' F' u f) :
    ∃ F'', Ext α' F' α' F'' ∧ Sim K ca α' F'' μ' (upd H' T (.tup [v, w, u])) ∧ Rep K ca α' F'' (.ref T) (.tup [d, e, f]) := by
  obtain ⟨s', x⟩ := s.laid (o := .tup [v, w, u]) hT
  have q : Reps K ca α' F' [v, w, u] [d, e, f] := .cons r1 (.cons r2 (.cons r3 .nil))
  exact ⟨_, x, s', .tup (SqT.of upd_same) q.1 (q.mono x).2⟩
theorem wd_zip3 (h : SqL K F a vs) (r : Reps K ca α F vs ds) (h' : SqL K F b ws) (r' : Reps K ca α F ws es) (h'' : SqL K F c us) (r'' : Reps K ca α F us fs) : WalkD K ca α F (Itz3 K a b c) ((ds.zip (es.zip fs)).map fun p => D.tup [p.1, p.2.1, p.2.2]) none := by
  refine ⟨fun i α' F' μ' H' hi x s _ => ?_, fun α' F' μ' H' x s _ => ?_, fun i d v α' F' μ' H' H'' hd x s _ y => ?_⟩
  · have : i < ds.length ∧ i < es.length ∧ i < fs.length := by simp at hi; omega
    obtain ⟨v, hv⟩ := r.lt this.1
    obtain ⟨w, hw⟩ := r'.lt this.2.1
    obtain ⟨u, hu⟩ := r''.lt this.2.2
    exact ⟨vs, ws, us, v, w, u, seqL_un s.sub (x.seqL h), seqL_un s.sub (x.seqL h'), seqL_un s.sub (x.seqL h''), hv, hw, hu⟩
  · refine ⟨vs, ws, us, seqL_un s.sub (x.seqL h), seqL_un s.sub (x.seqL h'), seqL_un s.sub (x.seqL h''), ?_, ?_⟩ <;> simp [r.1, r'.1, r''.1] <;> omega
  · obtain ⟨T, u1, u2, u3, rfl, hT, rfl, y1, y2, y3⟩ := y
    rw [List.getElem?_map] at hd
    obtain ⟨p, h1, h2⟩ := Option.map_eq_some_iff.mp hd
    obtain ⟨k1, k2⟩ := List.getElem?_zip_eq_some.mp h1
    obtain ⟨k3, k4⟩ := List.getElem?_zip_eq_some.mp k2
    obtain ⟨v1, g1, g2⟩ := r.get k1
    obtain ⟨v2, g3, g4⟩ := r'.get k3
    obtain ⟨v3, g5, g6⟩ := r''.get k4
    have e1 := y1 vs (seqL_un s.sub (x.seqL h))
    have e2 := y2 ws (seqL_un s.sub (x.seqL h'))
    have e3 := y3 us (seqL_un s.sub (x.seqL h''))
    rw [g1] at e1; cases e1
    rw [g3] at e2; cases e2
    rw [g5] at e3; cases e3
    subst h2
    exact wd_triple s hT (g2.monoW x) (g4.monoW x) (g6.monoW x)
end
section
variable {ca : Str → Option Addr} {Γ : Pr} {X : Cx} {tg e e2 e3 : Expr} {A B C : E} {pos p : Pos} {k : Nat}
theorem pi_zip3 {elts : List Expr} {kk : Nat} {tpos : Pos} (hm : X.mg "zip" = none) (ha : PAd ca Γ X [e, e2, e3] (.cons A (.cons B (.cons C .nil)))) (hg : Gl X "zip" := by rfl)
    (hs : starEach [e, e2, e3] X.env = (false, eval e X.env) :: starEach [e2, e3] X.env := by rfl) (hpl : (backTo pos (starEach [e2, e3] X.env)).any (·.1) = false := by rfl) : PId ca Γ X (.Tuple elts kk tpos) (.Call (.Name "zip" p) [e, e2, e3] [] pos) (.zip3 A B C) := by
  intro ρ μ xs w μ' q
  simp only [evI] at q
  obtain ⟨x, μ0, e0, q⟩ := bnd_eq q
  obtain ⟨y, μ1, e1, q⟩ := bnd_eq q
  obtain ⟨z, μ2, e2, q⟩ := bnd_eq q
  split at q
  · simp only [Option.some.injEq, Prod.mk.injEq] at q
    obtain ⟨⟨rfl, rfl⟩, rfl⟩ := q
    exact (pi_zip3' hg hm (ha _ _ _ _ (by simp only [evs, e0, e1, e2, bnd_some]; rfl)) hs hpl).mono fun σ H R ⟨α, F, s, re, k⟩ => ⟨α, F, s, re, fun vs α1 F1 H1 x1 s1 r1 => by
      obtain ⟨v, vr, ev0, r4, r2⟩ := r1.cons_inv; subst ev0
      obtain ⟨v', vr', ev1, r3, r5⟩ := r2.cons_inv; subst ev1
      obtain ⟨v'', vr'', ev2, r6, r7⟩ := r5.cons_inv; subst ev2
      cases r7.nil_iff
      cases r4 with
      | @lst a vs _ q1 q2 q3 => cases r3 with
        | @lst b ws _ p1 p2 p3 => cases r6 with
          | @lst c us _ o1 o2 o3 =>
            exact ⟨a, b, c, vs, ws, us, rfl, SqL.of (s1.sub _ _ q1), SqL.of (s1.sub _ _ p1), SqL.of (s1.sub _ _ o1), k _ α1 F1 H1 x1 s1 rfl (wd_zip3 (SqL.of q1) ⟨q2, q3⟩ (SqL.of p1) ⟨p2, p3⟩ (SqL.of o1) ⟨o2, o3⟩)⟩⟩
  · cases q
/-- len of an instance by its own __len__ -/
theorem pd_lenO (hm : X.mg "len" = none) (M : MethI X.prog X.w X.K X.mg X.base ca k "__len__" (fun C => Γ.meth C "__len__") 0 [] []) (hr : Room (k + 1) X.A) (ha : PEd ca Γ X e A) (hg : Gl X "len" := by rfl)
    (hs : starEach [e] X.env = (false, eval e X.env) :: starEach [] X.env := by rfl) (hpl : (backTo pos (starEach [] X.env)).any (·.1) = false := by rfl) : PEd ca Γ X (.Call (.Name "len" p) [e] [] pos) (.lenO A) := by
  intro ρ μ d μ' h
  simp only [ev] at h
  obtain ⟨x, μ1, e1, h⟩ := bnd_eq h
  obtain ⟨C, hC, h⟩ := Option.bind_eq_some_iff.mp h
  obtain ⟨r, μ2, e2, h⟩ := bnd_eq h
  split at h
  · rename_i n
    split at h
    · rename_i hn
      cases h
      have ha' : PAd ca Γ X [e] (.cons A .nil) := pl_cons ha pl_nil hs
      refine (pe_callB (r := fun vs H Q => ∃ α F x, Sim X.K ca α F μ1 H ∧ Reps X.K ca α F vs [x] ∧ cls x μ1 = some C ∧ Γ.meth C "__len__" [x] μ1 = some (.int n, μ') ∧ Kon X.K ca α F (.int n) μ' Q) (fun pins s σ H vs us Q I rv q => ?_) hg hm PySem.boot_len (ha' _ _ _ _ (by simp only [evs, e1, bnd_some])) (by decide) (by decide) hs hpl).mono
        fun σ H Q ⟨α, F, s, re, kk⟩ => ⟨α, F, s, re, fun vs α1 F1 H1 x1 s1 r1 => ⟨α1, F1, x, s1, r1, hC, e2, kk.ext x1⟩⟩
      obtain ⟨α, F, y, sm, r1, hc, e3, kk⟩ := q
      obtain ⟨v, rfl, r1'⟩ := one_read r1
      obtain ⟨a1, c1, dx1, fs1, rfl, hc1, h1⟩ := rep_cls sm r1' hc
      obtain ⟨u, rfl, rx⟩ := vals1 rv
      cases (show u = Value.ref a1 from rx)
      obtain ⟨f, hf, hfn, hrun⟩ := meth_at (us := [.ref a1]) (Q := fun v H => v = .int n ∧ Q v H) M hc1 hr.in1 I.env0.in1 I sm r1 (.cons rfl .nil) rfl e3 fun v α' F' H' x s r => ⟨by cases r; rfl, kk v α' F' H' x s r⟩
      obtain ⟨mA, J, _⟩ := ins_get I.hok h1
      obtain ⟨od, J, _⟩ := J.look
      obtain ⟨m, hF⟩ := I.fr
      refine PySem.W.len_K hF I.ok.mod.kin J hf hfn (wpAny_mono hrun (fun r s' hq => ?_) fun _ _ z => z)
      obtain ⟨z, H', I', rz, rfl, qz⟩ := hq
      obtain ⟨t, rfl⟩ := (show ∃ t, r = Value.int n t from rz)
      exact ⟨hn, .int n, H', I'.tok _, ⟨_, rfl⟩, qz⟩
    · cases h
  · cases h
end
end DP

/-! Dict comprehensions. -/
namespace DP
open PySem PySem.Spec L2

section
variable {K : PySem.W.Frag} {ca : Str → Option Addr} {α αs αw : List Addr} {F Fs Fw H : Hp} {μ μ' : Sto} {L : Addr} {J : It} {xs : List D} {w : Wt}
structure GroK (K : PySem.W.Frag) (ca : Str → Option Addr) (α : List Addr) (F : Hp) (αw : List Addr) (Fw : Hp) (L : Addr) (μ : Sto) (accd : List (Key × D)) (H : Hp) (α' : List Addr) (F' : Hp) (acc : List (Key × V)) : Prop where
  x : Ext α F α' F'
  w : Wxt αw Fw α' F'
  s : Sim K ca α' F' μ H
  m : F' L = some (mark (.dK acc))
  r : KRel K ca α' F' acc accd
theorem GroK.go {accd acc H α' F' α2 F2 H2 μ2} (g : GroK K ca α F αw Fw L μ accd H α' F' acc) (x : Ext α' F' α2 F2) (s : Sim K ca α2 F2 μ2 H2) : GroK K ca α F αw Fw L μ2 accd H2 α2 F2 acc :=
  ⟨g.x.trans x, g.w.trans x.w, s, x.fr _ _ g.m, g.r.mono x⟩
theorem GroK.at {accd acc H α' F'} (g : GroK K ca α F αw Fw L μ accd H α' F' acc) : H L = some (.dK acc) := g.s.sub _ _ g.m
theorem GroK.add {accd acc H α' F' y d} (hF : F L = none) (g : GroK K ca α F αw Fw L μ accd H α' F' acc) (k : Key) (r : Rep K ca α' F' y d) :
    GroK K ca α F αw Fw L μ (putKD accd k d) (upd H L (.dK (putK acc k y))) α' (upd F' L (mark (.dK (putK acc k y)))) (putK acc k y) := by
  obtain ⟨s, x⟩ := g.s.swap (F' := upd F' L (mark (.dK (putK acc k y)))) (H' := upd H L (.dK (putK acc k y))) g.m (fun a h => upd_ne h) (fun a h => upd_ne h) fun o h => by rw [upd_same] at h ⊢; cases h; rfl
  refine ⟨⟨g.x.pre, fun a o h => ?_⟩, g.w.trans x, s, upd_same, krel_put (g.r.monoW x) k (r.monoW x)⟩
  rw [upd_ne (ne_of_none h hF)]; exact g.x.fr a o h
theorem dc_gen {f : D → Sto → Option (Option (Key × D) × Sto)} {accd0 ys : List (Key × D)} {acc0 : List (Key × V)} (hF : F L = none) (T : V → Hp → (Hp → Prop) → Prop) (Q : Hp → Prop)
    (g0 : GroK K ca α F αw Fw L μ accd0 H αs Fs acc0) (hw : watch w μ = true) (W : WalkD K ca αw Fw J xs w) (hr : dcLoop w f xs accd0 μ = some (ys, μ'))
    (turn : ∀ d v α1 F1 μ1 H1 acc accd o μ2 (Nx : Hp → Prop), GroK K ca α F αw Fw L μ1 accd H1 α1 F1 acc → Rep K ca α1 F1 v d → f d μ1 = some (o, μ2) → (o.isSome = true → accd.length < sizeLine) →
      (∀ α2 F2 H2 acc2, GroK K ca α F αw Fw L μ2 (match o with | some kv => putKD accd kv.1 kv.2 | none => accd) H2 α2 F2 acc2 → Nx H2) → T v H1 Nx)
    (done : ∀ α2 F2 H2 acc2, GroK K ca α F αw Fw L μ' ys H2 α2 F2 acc2 → Q H2) :
    ∃ W : Nat → Nat → Hp → Prop, (∃ m, W 0 m H) ∧ ∀ i m H, W i m H → (J.stop i H ∧ Q H) ∨ (J.go i H ∧ ∃ Nx : Hp → Prop, (∀ H', Nx H' → ∃ m', m' < m ∧ W (i + 1) m' H') ∧ ∀ x H', J.yld i H x H' → T x H' Nx) := by
  refine ⟨fun i m H => m = xs.length - i ∧ i ≤ xs.length ∧ ∃ α1 F1 μ1 acc accd, GroK K ca α F αw Fw L μ1 accd H α1 F1 acc ∧ watch w μ1 = true ∧ dcLoop w f (xs.drop i) accd μ1 = some (ys, μ'), ⟨xs.length, by simp, Nat.zero_le _, αs, Fs, μ, acc0, accd0, g0, hw, by simpa using hr⟩, ?_⟩
  rintro i m H ⟨rfl, hi, α1, F1, μ1, acc, accd, g, hw1, hr1⟩
  by_cases hlt : i < xs.length
  · refine .inr ⟨W.goes i _ _ _ _ hlt g.w g.s hw1, fun H' => ∃ α1 F1 μ1 acc accd, GroK K ca α F αw Fw L μ1 accd H' α1 F1 acc ∧ watch w μ1 = true ∧ dcLoop w f (xs.drop (i + 1)) accd μ1 = some (ys, μ'),
      fun H' p => ⟨xs.length - (i + 1), by omega, rfl, hlt, p⟩, fun v H' y => ?_⟩
    have hd : xs[i]? = some (xs[i]) := by simp [hlt]
    obtain ⟨F2, x2, s2, r2⟩ := W.yields i _ v _ _ _ _ _ hd g.w g.s hw1 y
    rw [List.drop_eq_getElem_cons hlt] at hr1
    simp only [dcLoop] at hr1
    obtain ⟨o1, μ2, e1, hr1⟩ := bnd_eq hr1
    split at hr1
    · rename_i hw2
      split at hr1
      · rename_i kv
        split at hr1
        · rename_i hz
          exact turn _ v _ _ _ _ _ _ _ _ _ (g.go x2 s2) r2 e1 (fun _ => hz) fun α3 F3 H3 acc3 g3 => ⟨α3, F3, μ2, acc3, _, g3, hw2, hr1⟩
        · cases hr1
      · exact turn _ v _ _ _ _ _ _ _ _ _ (g.go x2 s2) r2 e1 (fun h => by cases h) fun α3 F3 H3 acc3 g3 => ⟨α3, F3, μ2, acc3, _, g3, hw2, hr1⟩
    · cases hr1
  · have e : i = xs.length := by omega
    subst e
    rw [List.drop_length] at hr1
    cases hr1
    exact .inl ⟨W.stops _ _ _ _ g.w g.s hw1, done _ _ _ _ g⟩
theorem GroK.fin {ys : List (Key × D)} {acc : List (Key × V)} {H α' F'} {Q : VK} (hF : F L = none) (g : GroK K ca α F αw Fw L μ ys H α' F' acc) (k : Kon K ca α F (.cell μ.length) (μ ++ [.dct ys]) Q) : Q (.ref L) H := by
  obtain ⟨s, x, e⟩ := g.s.cellOf (F' := fun a => if a = L then none else F' a) (c := .dct ys) g.m (fun a h => if_neg h) (if_pos rfl) ⟨acc, g.at, g.r⟩
  refine k _ _ _ _ ⟨?_, fun a o h => ?_⟩ s (.cell e)
  · obtain ⟨β, rfl⟩ := g.x.pre; exact ⟨β ++ [L], by simp⟩
  · rw [if_neg (ne_of_none h hF)]; exact g.x.fr a o h
end
section
variable {K : PySem.W.Frag} {ca : Str → Option Addr} {Γ : Pr} {ρ : Rho} {μ μ' : Sto} {d : D}
theorem dc_reads {vs : List Nat} {T : Tg} {I C A B : E} (hsl : ∀ i ∈ T.sl, i ∈ vs) (h : ev Γ (.dc vs T I C A B) ρ μ = some (d, μ')) (σ : L2.St) (H : Hp) (Q : VK) (t : tD K ca ρ μ d μ' σ H Q) :
    tDc (uI K ca Γ I) (uG K ca Γ T) (uT K ca Γ C) (uE K ca Γ A) (uE K ca Γ B) vs σ H Q := by
  simp only [ev] at h
  obtain ⟨⟨xs, w⟩, μ1, e1, h⟩ := bnd_eq h
  obtain ⟨ys, μ2, e2, h⟩ := bnd_eq h
  cases h
  obtain ⟨α, F, s, re, k⟩ := t
  refine ⟨ρ, μ, xs, w, μ1, e1, α, F, s, re, fun J α1 F1 H1 x1 s1 hw W => ?_⟩
  intro L hL
  obtain ⟨sm, xm, hF⟩ := s1.marked (u := .dK []) hL
  refine dc_gen (acc0 := []) (accd0 := []) hF (fun v H' Nx => uG K ca Γ T v (wipe σ vs) H' fun σ2 H2 => wipe σ2 vs = wipe σ vs ∧ uT K ca Γ C σ2 H2 fun b H3 =>
      if b = true then uE K ca Γ A σ2 H3 fun y H4 => uE K ca Γ B σ2 H4 fun z H5 => ∃ kvs k, y = kV k ∧ H5 L = some (.dK kvs) ∧ kvs.length < sizeLine ∧ Nx (upd H5 L (.dK (putK kvs k z))) else Nx H3) (fun H => Q (.ref L) H)
    ⟨xm, xm.w, sm, upd_same, ⟨rfl, .nil⟩⟩ hw W e2 (fun dd v α1' F1' μa Ha acc accd o μb Nx g r e hl hn => ?_) fun α2 F2 H2 acc2 g => g.fin hF (k.ext x1)
  obtain ⟨p, b1, e⟩ := Option.bind_eq_some_iff.mp e
  obtain ⟨kk, μc, b2, e⟩ := bnd_eq e
  refine ⟨wipeD ρ vs, μa, dd, p.1, p.2, b1, α1', F1', g.s, ((re.mono x1).monoW g.w).wipe vs, r, fun σ2 α2 F2 H2 x2 s2 re2 o2 => ⟨wipe_same o2 hsl, p.1, p.2, kk, μc, b2, α2, F2, s2, re2, fun α3 F3 H3 x3 s3 => ?_⟩⟩
  cases kk with
  | true =>
    simp only [if_true] at e ⊢
    obtain ⟨y, μd, b3, e⟩ := bnd_eq e
    obtain ⟨z, μe, b4, e⟩ := bnd_eq e
    obtain ⟨ky, b5, e⟩ := Option.map_eq_some_iff.mp e
    cases e
    refine ⟨p.1, μc, y, _, b3, α3, F3, s3, re2.mono x3, fun yv α4 F4 H4 x4 s4 r4 => ⟨p.1, μd, z, _, b4, α4, F4, s4, (re2.mono x3).mono x4, fun zv α5 F5 H5 x5 s5 r5 => ?_⟩⟩
    have g5 := g.go (((x2.trans x3).trans x4).trans x5) s5
    have hlen : acc.length < sizeLine := by
      have h1 := hl rfl
      have h2 := congrArg List.length g.r.1
      simp only [List.length_map] at h2
      omega
    exact ⟨acc, ky, key_kV r4 b5, g5.at, hlen, hn _ _ _ _ (g5.add hF ky r5)⟩
  | false =>
    simp only [Bool.false_eq_true, if_false] at e ⊢
    cases e
    exact hn _ _ _ _ (g.go (x2.trans x3) s3)
end
section
variable {ca : Str → Option Addr} {Γ : Pr} {X : Cx} {kx vx tg iter : Expr} {ifs : List Expr} {scope : Scope} {pos : Pos} {T : Tg} {I C A B : E}
theorem pd_dc (own : List (Str × Nat)) {vs : List Nat} (hc : X.calm = true) (hN : X.N.Nodup) (ok : BlkOk X.N X.env.scope scope own) (hi : PId ca Γ X tg iter I)
    (hg : ∀ (s : Shared) (H : Hp) (C : Addr) (cl : List (Str × Addr)) (fp : List Addr), PGd ca Γ (X.blk s H scope (compEnvC scope cl C X.env) fp) tg T) (ht : ∀ (s : Shared) (H : Hp) (C' : Addr) (cl : List (Str × Addr)) (fp : List Addr), PTsd ca Γ (X.blk s H scope (compEnvC scope cl C' X.env) fp) ifs C)
    (hk : ∀ (s : Shared) (H : Hp) (C : Addr) (cl : List (Str × Addr)) (fp : List Addr), PEd ca Γ (X.blk s H scope (compEnvC scope cl C X.env) fp) kx A)
    (he : ∀ (s : Shared) (H : Hp) (C : Addr) (cl : List (Str × Addr)) (fp : List Addr), PEd ca Γ (X.blk s H scope (compEnvC scope cl C X.env) fp) vx B) (hs : ∀ x, foldedSetIterable iter X.env x = pure x := by intro _; rfl)
    (hv : own.map (·.2) = vs := by rfl) (hsl : T.sl.all (fun i => vs.contains i) = true := by rfl) : PEd ca Γ X (.DictComp kx vx [⟨tg, iter, ifs, 0⟩] scope pos) (.dc vs T I C A B) := by
  intro ρ μ d μ' h
  subst hv
  exact (pe_dc hc hN hi.u ok (fun s H C cl fp => (hg s H C cl fp).u) (fun s H C cl fp => (ht s H C cl fp).u) (fun s H C cl fp => (hk s H C cl fp).u) (fun s H C cl fp => (he s H C cl fp).u) hs).mono fun σ H Q t => dc_reads (by simpa using hsl) h σ H Q t
end
end DP

/-! What the printed texts call. -/
namespace DP
open PySem PySem.Spec L2

section
variable {ca : Str → Option Addr} {Γ : Pr} {X : Cx} {a : Expr} {A : E} {pos p : Pos}
theorem pd_gx {x : Str} {d : D} (h : ∃ v u, X.mg x = some u ∧ RelV v u ∧ ∀ α F, Rep X.K ca α F v d) (hd : Γ.gv x = some d := by rfl) (hg : Gl X x := by rfl) (hdb : (x == ("__debug__" : Str)) = false := by decide) : PEd ca Γ X (.Name x pos) (.g x) := by
  obtain ⟨v, u, h1, h2, h3⟩ := h
  exact pd_g hg h1 h2 hd h3 hdb
theorem pd_isx {C : Str} {p2} (hm : X.mg "isinstance" = none) (h : ∃ cc, X.mg C = some (.ref cc) ∧ ∀ C' c, ca C' = some c → IsiC X.K c ∧ PySem.W.kitOne X.K (.ref c) (.ref cc) = some (decide (C' = C))) (ha : PEd ca Γ X a A)
    (hg : Gl X "isinstance" := by rfl) (hg2 : Gl X C := by rfl) (hdb : (C == ("__debug__" : Str)) = false := by decide) (he : starEach (a :: [.Name C p2]) X.env = (false, eval a X.env) :: starEach [.Name C p2] X.env := by rfl)
    (hb : starEach (.Name C p2 :: []) X.env = (false, eval (.Name C p2) X.env) :: starEach [] X.env := by rfl) (hpl : (backTo pos (starEach [.Name C p2] X.env)).any (·.1) = false := by rfl) :
    PEd ca Γ X (.Call (.Name "isinstance" p) [a, .Name C p2] [] pos) (.isi A C) := by
  obtain ⟨cc, h1, h2⟩ := h
  exact pd_isi hm h1 h2 ha hg hg2 hdb he hb hpl
end
section
variable {ca : Str → Option Addr} {Γ : Pr} {X : Cx} {o : Expr} {B : E} {pos apos : Pos} {k : Nat}
theorem pd_meth0_0 {m : Str} {pl : Sem Bool} (G : MethI X.prog X.w X.K X.mg X.base ca k m (fun C => Γ.meth C m) 0 [] []) (hr : Room k X.A) (ho : PEd ca Γ X o B)
    (ht : eval (.Call (.Attribute o m apos) [] [] pos) X.env = (do
      let ov ← eval o X.env
      standAt apos.atName
      let (f, first) ← holding [ov] (getMethod ov m pl)
      callWith pos f first (backTo pos (starEach [] X.env)) (backToKw pos (keywordEach [] X.env))) := by rfl) :
    PEd ca Γ X (.Call (.Attribute o m apos) [] [] pos) (.meth B m .nil) := pd_meth0 G hr ho ht
theorem pd_meth0_1 {m : Str} {pl : Sem Bool} {d : D} (G : MethI X.prog X.w X.K X.mg X.base ca k m (fun C => Γ.meth C m) 0 [] [d]) (hr : Room k X.A) (ho : PEd ca Γ X o B)
    (ht : eval (.Call (.Attribute o m apos) [] [] pos) X.env = (do
      let ov ← eval o X.env
      standAt apos.atName
      let (f, first) ← holding [ov] (getMethod ov m pl)
      callWith pos f first (backTo pos (starEach [] X.env)) (backToKw pos (keywordEach [] X.env))) := by rfl) :
    PEd ca Γ X (.Call (.Attribute o m apos) [] [] pos) (.meth B m (.cons (.c d) .nil)) := pd_meth0 G hr ho ht
end
theorem kit_of {K : PySem.W.Frag} {c cc : Addr} {b : Bool} (h : PySem.W.mroIn K c (.ref cc) = some b) (hc : PySem.W.mroIn K cc (.ref cc) = some true) (ht : PySem.W.typeIn K (.ref cc) = some (.type "type")) : PySem.W.kitOne K (.ref c) (.ref cc) = some b := by
  unfold PySem.W.kitOne
  by_cases e : c = cc
  · subst e; rw [hc] at h; cases h; simp
  · rw [if_neg (by simp [e])]
    unfold PySem.W.kitCls
    have hs : (PySem.W.clsIn K cc).isSome = true := by
      unfold PySem.W.mroIn at hc
      cases q : PySem.W.clsIn K cc with
      | none => rw [q] at hc; cases hc
      | some _ => rfl
    simp only [hs, ht, Bool.true_and]
    exact h
/-- the classes' addresses, by the module's names -/
def caOf (cs : List Str) (K : PySem.W.Frag) : Str → Option Addr := fun C => if C ∈ cs then (match PySem.W.nsIn K mainGlobals C with | some (some (.ref c)) => some c | _ => none) else none
theorem caOf_at {cs : List Str} {K : PySem.W.Frag} {C : Str} {c : Addr} (h : PySem.W.nsIn K mainGlobals C = some (some (.ref c))) (hm : C ∈ cs) : caOf cs K C = some c := by
  unfold caOf; rw [if_pos hm, h]
theorem caOf_in {cs : List Str} {K : PySem.W.Frag} {C : Str} {c : Addr} (h : caOf cs K C = some c) : C ∈ cs := by
  unfold caOf at h
  split at h
  · assumption
  · cases h
/-- nothing is marked -/
def bareF (H : Hp) : Hp := fun b => match H b with | some (.frz _ (.frz _ _)) => none | o => o
theorem law_start {K : PySem.W.Frag} {ca : Str → Option Addr} {f : List D → Sto → Option (D × Sto)} {H : Hp} {a : Addr} {ns : List Int} {μ' : Sto} (h : SqL K H a (ns.map V.int)) (e : f [.scr ns] [] = some (.bl true, μ')) {E : XK} :
    spD K ca f 1 [.ref a] H (fun v _ => v = .bl true) E := by
  have sub : ∀ b o, bareF H b = some o → H b = some (un o) := fun b o q => by
    unfold bareF at q
    split at q
    · cases q
    · rename_i o' hne
      rw [q]
      congr 1
      cases o with
      | frz p u => cases u with
        | frz p' u' => exact absurd q (by intro z; exact hne p p' u' z)
        | _ => rfl
      | _ => rfl
  have sq : SqL K (bareF H) a (ns.map V.int) := by
    rcases h with (h | ⟨o, h⟩) | h
    · exact .inl (.inl (by unfold bareF; rw [h]))
    · exact .inl (.inr ⟨o, by unfold bareF; rw [h]⟩)
    · exact .inr h
  refine ⟨rfl, [], bareF H, [], [.scr ns], .bl true, μ', ⟨rfl, sub, fun n c a h => by simp at h, fun n m a h => by simp at h, fun n c a h => by simp at h, fun n a h => by simp at h, fun n a u h => by simp at h⟩, .cons (.scr sq) .nil, e, fun v α' F' H' x s r => ?_⟩
  cases r; rfl
end DP

/-! The defs of the text, in the language of DP (printed). -/
namespace LW
open PySem PySem.Spec L2 DP
abbrev WF : Nat := 200
abbrev KD : Nat := 14
def b_Leastu_initu : S :=
  (.seq (.set (.tup [(.n 2), (.n 3), (.f 0 "bound")]) (.v 1)) (.seq (.fld (.v 0) "most" (.bi .maxL false (.cons (.cat false (.lc false [4] (.one (.n 4)) (.cons (.v 3) .nil) .nil (.bi .abs false (.cons (.v 4) .nil))) (.lst false (.cons (.bin .add (.bi .abs false (.cons (.fld (.v 0) "bound") .nil)) (.c (.int 1))) .nil))) .nil))) .nil))
def d_Leastu_initu : Def := ⟨2, 5, false, b_Leastu_initu⟩
abbrev N_Leastu_initu : List Str := ["self", "sentence", "word", "weights", "weight"]
abbrev p_Leastu_initu : List Str := ["self", "sentence"]
def b_Least_led : S :=
  (.seq (.ret (.tup (.cons (.c (.str "leads")) (.cons (.v 1) (.cons (.cmp .ge (.v 1) (.fld (.v 0) "bound")) .nil))))) .nil)
def d_Least_led : Def := ⟨2, 2, false, b_Least_led⟩
abbrev N_Least_led : List Str := ["self", "number"]
abbrev p_Least_led : List Str := ["self", "number"]
def b_Least_met : S :=
  (.seq (.ife (.cmp .nmem (.c (.str "leads")) (.tup (.cons (.ix (.v 1) (.c (.int 0))) (.cons (.ix (.v 2) (.c (.int 0))) .nil)))) (.seq (.ret (.lst false (.cons (.v 1) (.cons (.v 2) .nil)))) .nil) .nil) (.seq (.set (.one (.n 3)) (.bin .add (.ix (.v 1) (.c (.int 1))) (.ix (.v 2) (.c (.int 1))))) (.seq (.set (.one (.n 4)) (.meth (.v 0) "led" (.cons (.bi .max2 false (.cons (.neg (.fld (.v 0) "most")) (.cons (.bi .min2 false (.cons (.fld (.v 0) "most") (.cons (.v 3) .nil))) .nil))) .nil))) (.seq (.set (.one (.n 5)) (.tup (.cons (.c (.str "follows")) (.cons (.bin .sub (.v 3) (.ix (.v 4) (.c (.int 1)))) (.cons (.ix (.v 4) (.c (.int 2))) .nil))))) (.seq (.ret (.ife (.cmp .eq (.ix (.v 1) (.c (.int 0))) (.c (.str "leads"))) (.lst false (.cons (.v 4) (.cons (.v 5) .nil))) (.lst false (.cons (.v 5) (.cons (.v 4) .nil))))) .nil)))))
def d_Least_met : Def := ⟨3, 6, false, b_Least_met⟩
abbrev N_Least_met : List Str := ["self", "one", "other", "both", "first", "left"]
abbrev p_Least_met : List Str := ["self", "one", "other"]
def b_Restu_initu : S :=
  (.seq (.set (.tup [(.n 2), (.n 3), (.f 0 "wheel"), (.f 0 "rest")]) (.v 1)) .nil)
def d_Restu_initu : Def := ⟨2, 4, false, b_Restu_initu⟩
abbrev N_Restu_initu : List Str := ["self", "sentence", "word", "weights"]
abbrev p_Restu_initu : List Str := ["self", "sentence"]
def b_Rest_led : S :=
  (.seq (.augN 1 .mod (.fld (.v 0) "wheel")) (.seq (.ret (.tup (.cons (.c (.str "leads")) (.cons (.v 1) (.cons (.cmp .eq (.v 1) (.fld (.v 0) "rest")) .nil))))) .nil))
def d_Rest_led : Def := ⟨2, 2, false, b_Rest_led⟩
abbrev N_Rest_led : List Str := ["self", "number"]
abbrev p_Rest_led : List Str := ["self", "number"]
def b_Rest_met : S :=
  (.seq (.ife (.cmp .nmem (.c (.str "leads")) (.tup (.cons (.ix (.v 1) (.c (.int 0))) (.cons (.ix (.v 2) (.c (.int 0))) .nil)))) (.seq (.ret (.lst false (.cons (.v 1) (.cons (.v 2) .nil)))) .nil) .nil) (.seq (.set (.one (.n 3)) (.meth (.v 0) "led" (.cons (.bin .add (.ix (.v 1) (.c (.int 1))) (.ix (.v 2) (.c (.int 1)))) .nil))) (.seq (.set (.one (.n 4)) (.tup (.cons (.c (.str "follows")) (.cons (.c (.int 0)) (.cons (.ix (.v 3) (.c (.int 2))) .nil))))) (.seq (.ret (.ife (.cmp .eq (.ix (.v 1) (.c (.int 0))) (.c (.str "leads"))) (.lst false (.cons (.v 3) (.cons (.v 4) .nil))) (.lst false (.cons (.v 4) (.cons (.v 3) .nil))))) .nil))))
def d_Rest_met : Def := ⟨3, 5, false, b_Rest_met⟩
abbrev N_Rest_met : List Str := ["self", "one", "other", "first", "left"]
abbrev p_Rest_met : List Str := ["self", "one", "other"]
def b_made_of : S :=
  (.seq (.set (.one (.n 1)) (.ife (.cmp .eq (.ix (.v 0) (.c (.int 0))) (.c (.str "least"))) (.make true "Least" (.cons (.v 0) .nil)) (.make true "Rest" (.cons (.v 0) .nil)))) (.seq (.ret (.tup (.cons (.v 1) (.cons (.lc false [2] (.one (.n 2)) (.cons (.ix (.v 0) (.c (.int 1))) .nil) .nil (.meth (.v 1) "led" (.cons (.v 2) .nil))) .nil)))) .nil))
def d_made_of : Def := ⟨1, 3, true, b_made_of⟩
abbrev N_made_of : List Str := ["sentence", "kind", "weight"]
abbrev p_made_of : List Str := ["sentence"]
def b_many_of : S :=
  (.seq (.whl (.cmp .nmem (.ix (.v 0) (.c (.int 0))) (.tup (.cons (.c (.str "least")) (.cons (.c (.str "rest")) .nil)))) (.seq (.set (.one (.n 0)) (.ix (.v 0) (.c (.int 1)))) .nil)) (.seq (.ret (.bi .len false (.cons (.ix (.v 0) (.c (.int 1))) .nil))) .nil))
def d_many_of : Def := ⟨1, 1, false, b_many_of⟩
abbrev N_many_of : List Str := ["sentence"]
abbrev p_many_of : List Str := ["sentence"]
def b_atoms_of : S :=
  (.seq (.ife (.cmp .mem (.ix (.v 0) (.c (.int 0))) (.tup (.cons (.c (.str "least")) (.cons (.c (.str "rest")) .nil)))) (.seq (.ret (.lst false (.cons (.v 0) .nil))) .nil) .nil) (.seq (.ret (.lc2 false [1,2] (.one (.n 1)) (.cons (.sl false (.v 0) (.cons (.c (.int 1)) .nil) .noP) .nil) .nil (.one (.n 2)) (.cons (.call "atoms_of" (.cons (.v 1) .nil)) .nil) .nil (.v 2))) .nil))
def d_atoms_of : Def := ⟨1, 3, false, b_atoms_of⟩
abbrev N_atoms_of : List Str := ["sentence", "part", "one"]
abbrev p_atoms_of : List Str := ["sentence"]
def b_truth_of : S :=
  (.seq (.set (.star [(.n 2)] (.n 3) []) (.v 0)) (.seq (.ife (.cmp .mem (.v 2) (.tup (.cons (.c (.str "least")) (.cons (.c (.str "rest")) .nil)))) (.seq (.ret (.mt .pop0 (.v 1) (.cons (.c (.int 0)) .nil))) .nil) .nil) (.seq (.set (.one (.n 4)) (.lc false [5] (.one (.n 5)) (.cons (.v 3) .nil) .nil (.call "truth_of" (.cons (.v 5) (.cons (.v 1) .nil))))) (.seq (.ife (.cmp .eq (.v 2) (.c (.str "not"))) (.seq (.ret (.not (.ix (.v 4) (.c (.int 0))))) .nil) .nil) (.seq (.ret (.ife (.cmp .eq (.v 2) (.c (.str "and"))) (.bi .all false (.cons (.v 4) .nil)) (.bi .any false (.cons (.v 4) .nil)))) .nil)))))
def d_truth_of : Def := ⟨2, 6, false, b_truth_of⟩
abbrev N_truth_of : List Str := ["sentence", "truths", "word", "parts", "told", "one"]
abbrev p_truth_of : List Str := ["sentence", "truths"]
def b_pairs_of_folk : S :=
  (.seq (.set (.one (.n 2)) (.lc2 false [3,4] (.one (.n 3)) (.rng (.c (.int 0)) (.v 0)) .nil (.one (.n 4)) (.rng (.bin .add (.v 3) (.c (.int 1))) (.v 0)) .nil (.tup (.cons (.v 3) (.cons (.v 4) .nil))))) (.seq (.ret (.ife (.cons (.v 1) .nil) (.lc false [3,4] (.tup [(.n 3), (.n 4)]) (.cons (.rev false (.v 2)) .nil) .nil (.tup (.cons (.v 4) (.cons (.v 3) .nil)))) (.v 2))) .nil))
def d_pairs_of_folk : Def := ⟨2, 5, false, b_pairs_of_folk⟩
abbrev N_pairs_of_folk : List Str := ["many", "backward", "pairs", "one", "other"]
abbrev p_pairs_of_folk : List Str := ["many", "backward"]
def b_Throngu_initu : S :=
  (.seq (.fld (.v 0) "sentence" (.v 1)) (.seq (.fld (.v 0) "parts" (.lc false [2] (.one (.n 2)) (.cons (.call "atoms_of" (.cons (.v 1) .nil)) .nil) .nil (.call "made_of" (.cons (.v 2) .nil)))) (.seq (.fld (.v 0) "folk" (.lst true .nil)) (.seq (.fld (.v 0) "by_gate" (.dc [3] (.one (.n 3)) (.cons (.sl false (.g "GATE_WORDS") .noP (.cons (.call "many_of" (.cons (.v 1) .nil)) .nil)) .nil) .nil (.v 3) (.c (.int 0)))) (.seq (.fld (.v 0) "marks" (.lst false .nil)) .nil)))))
def d_Throngu_initu : Def := ⟨2, 4, false, b_Throngu_initu⟩
abbrev N_Throngu_initu : List Str := ["self", "sentence", "atom", "word"]
abbrev p_Throngu_initu : List Str := ["self", "sentence"]
def b_Throngu_equ : S :=
  (.seq (.ife (.or (.not (.cons (.isi (.v 1) "Throng") .nil)) (.or (.cmp .ne (.fld (.v 0) "sentence") (.fld (.v 1) "sentence")) (.cmp .ne (.fld (.v 0) "by_gate") (.fld (.v 1) "by_gate")))) (.seq (.ret (.c (.bl false))) .nil) .nil) (.seq (.ret (.cmp .eq (.meth (.v 0) "words" .nil) (.meth (.v 1) "words" .nil))) .nil))
def d_Throngu_equ : Def := ⟨2, 2, false, b_Throngu_equ⟩
abbrev N_Throngu_equ : List Str := ["self", "other"]
abbrev p_Throngu_equ : List Str := ["self", "other"]
def b_Throngu_lenu : S :=
  (.seq (.ret (.bi .len false (.cons (.fld (.v 0) "folk") .nil))) .nil)
def d_Throngu_lenu : Def := ⟨1, 1, false, b_Throngu_lenu⟩
abbrev N_Throngu_lenu : List Str := ["self"]
abbrev p_Throngu_lenu : List Str := ["self"]
def b_Throng_words : S :=
  (.seq (.ret (.lc false [1] (.one (.n 1)) (.cons (.fld (.v 0) "folk") .nil) .nil (.meth (.v 0) "word_of_folk" (.cons (.v 1) .nil)))) .nil)
def d_Throng_words : Def := ⟨1, 2, false, b_Throng_words⟩
abbrev N_Throng_words : List Str := ["self", "things"]
abbrev p_Throng_words : List Str := ["self"]
def b_Throng_word_of_folk : S :=
  (.seq (.ret (.ife (.cons (.call "truth_of" (.cons (.fld (.v 0) "sentence") (.cons (.lc true [2] (.one (.n 2)) (.cons (.v 1) .nil) .nil (.ix (.v 2) (.c (.int 2)))) .nil))) .nil) (.c (.str "yes")) (.c (.str "no")))) .nil)
def d_Throng_word_of_folk : Def := ⟨2, 3, true, b_Throng_word_of_folk⟩
abbrev N_Throng_word_of_folk : List Str := ["self", "things", "thing"]
abbrev p_Throng_word_of_folk : List Str := ["self", "things"]
def b_Throng_come : S :=
  (.seq (.ife (.cmp .nmem (.v 1) (.fld (.v 0) "by_gate")) (.seq .never .nil) .nil) (.seq (.set (.one (.n 3)) (.mt .index (.bi .listK false (.cons (.fld (.v 0) "by_gate") .nil)) (.cons (.v 1) .nil))) (.seq (.set (.one (.n 4)) (.bi .len false (.cons (.fld (.v 0) "folk") .nil))) (.seq (.for_ false (.one (.n 5)) (.rng (.c (.int 0)) (.v 2)) (.seq (.ex (.mt .append (.fld (.v 0) "folk") (.cons (.lc false [6,7] (.tup [(.n 6), (.n 7)]) (.cons (.fld (.v 0) "parts") .nil) .nil (.ix (.v 7) (.v 3))) .nil))) .nil)) (.seq (.augIx (.fld (.v 0) "by_gate") (.v 1) .add (.v 2)) (.seq (.ret (.bi .listR false (.cons (.v 4) (.cons (.bi .len false (.cons (.fld (.v 0) "folk") .nil)) .nil)))) .nil))))))
def d_Throng_come : Def := ⟨3, 8, false, b_Throng_come⟩
abbrev N_Throng_come : List Str := ["self", "gate", "many", "at", "first", "number", "kind", "begins"]
abbrev p_Throng_come : List Str := ["self", "gate", "many"]
def b_Throng_need_folk : S :=
  (.seq (.ife (.not (.chn .le .lt (.c (.int 0)) (.v 1) (.bi .len false (.cons (.fld (.v 0) "folk") .nil)))) (.seq .never .nil) .nil) .nil)
def d_Throng_need_folk : Def := ⟨2, 2, false, b_Throng_need_folk⟩
abbrev N_Throng_need_folk : List Str := ["self", "number"]
abbrev p_Throng_need_folk : List Str := ["self", "number"]
def b_Throng_changed : S :=
  (.seq (.set (.one (.n 3)) (.tup (.cons (.ix (.fld (.v 0) "folk") (.v 1)) (.cons (.ix (.fld (.v 0) "folk") (.v 2)) .nil)))) (.seq (.set (.one (.n 4)) (.lc false [5,6] (.tup [(.n 5), (.n 6)]) (.cons (.fld (.v 0) "parts") .nil) .nil (.v 5))) (.seq (.set (.one (.n 7)) (.lc false [5,8,9] (.tup [(.n 5), (.n 8), (.n 9)]) (.zip3 (.v 4) (.ix (.v 3) (.c (.int 0))) (.ix (.v 3) (.c (.int 1)))) .nil (.meth (.v 5) "met" (.cons (.v 8) (.cons (.v 9) .nil))))) (.seq (.setIx (.fld (.v 0) "folk") (.v 1) (.lc false [10] (.one (.n 10)) (.cons (.v 7) .nil) .nil (.ix (.v 10) (.c (.int 0))))) (.seq (.setIx (.fld (.v 0) "folk") (.v 2) (.lc false [10] (.one (.n 10)) (.cons (.v 7) .nil) .nil (.ix (.v 10) (.c (.int 1))))) (.seq (.ret (.cmp .ne (.v 3) (.tup (.cons (.ix (.fld (.v 0) "folk") (.v 1)) (.cons (.ix (.fld (.v 0) "folk") (.v 2)) .nil))))) .nil))))))
def d_Throng_changed : Def := ⟨3, 11, false, b_Throng_changed⟩
abbrev N_Throng_changed : List Str := ["self", "one", "other", "before", "kinds", "kind", "begins", "behind", "first", "second", "pair"]
abbrev p_Throng_changed : List Str := ["self", "one", "other"]
def b_Throng_meet : S :=
  (.seq (.ex (.meth (.v 0) "need_folk" (.cons (.v 1) .nil))) (.seq (.ex (.meth (.v 0) "need_folk" (.cons (.v 2) .nil))) (.seq (.ife (.cmp .eq (.v 1) (.v 2)) (.seq .never .nil) .nil) (.seq (.ex (.meth (.v 0) "changed" (.cons (.v 1) (.cons (.v 2) .nil)))) .nil))))
def d_Throng_meet : Def := ⟨3, 3, false, b_Throng_meet⟩
abbrev N_Throng_meet : List Str := ["self", "one", "other"]
abbrev p_Throng_meet : List Str := ["self", "one", "other"]
def b_Throng_says : S :=
  (.seq (.ex (.meth (.v 0) "need_folk" (.cons (.v 1) .nil))) (.seq (.ret (.meth (.v 0) "word_of_folk" (.cons (.ix (.fld (.v 0) "folk") (.v 1)) .nil))) .nil))
def d_Throng_says : Def := ⟨2, 2, false, b_Throng_says⟩
abbrev N_Throng_says : List Str := ["self", "number"]
abbrev p_Throng_says : List Str := ["self", "number"]
def b_Throng_said : S :=
  (.seq (.set (.star [(.n 1)] (.n 2) []) (.or (.meth (.v 0) "words" .nil) (.lst false (.cons (.c .non) .nil)))) (.seq (.ret (.ife (.cons (.bi .all false (.cons (.lc false [3] (.one (.n 3)) (.cons (.v 2) .nil) .nil (.cmp .eq (.v 3) (.v 1))) .nil)) .nil) (.v 1) (.c .non))) .nil))
def d_Throng_said : Def := ⟨1, 4, false, b_Throng_said⟩
abbrev N_Throng_said : List Str := ["self", "first", "others", "one"]
abbrev p_Throng_said : List Str := ["self"]
def b_Throng_stretch : S :=
  (.seq (.ret (.bi .sum false (.cons (.lc false [2,3] (.tup [(.n 2), (.n 3)]) (.cons (.call "pairs_of_folk" (.cons (.bi .len false (.cons (.fld (.v 0) "folk") .nil)) (.cons (.v 1) .nil))) .nil) .nil (.bi .int1 false (.cons (.meth (.v 0) "changed" (.cons (.v 2) (.cons (.v 3) .nil))) .nil))) .nil))) .nil)
def d_Throng_stretch : Def := ⟨2, 4, false, b_Throng_stretch⟩
abbrev N_Throng_stretch : List Str := ["self", "backward", "one", "other"]
abbrev p_Throng_stretch : List Str := ["self", "backward"]
def b_Throng_copy : S :=
  (.seq (.set (.one (.n 1)) (.make false "Throng" (.cons (.fld (.v 0) "sentence") .nil))) (.seq (.fld (.v 1) "folk" (.lc true [2] (.one (.n 2)) (.cons (.fld (.v 0) "folk") .nil) .nil (.bi .list1 false (.cons (.v 2) .nil)))) (.seq (.fld (.v 1) "by_gate" (.bi .dict1 true (.cons (.fld (.v 0) "by_gate") .nil))) (.seq (.fld (.v 1) "marks" (.bi .list1 false (.cons (.fld (.v 0) "marks") .nil))) (.seq (.ret (.v 1)) .nil)))))
def d_Throng_copy : Def := ⟨1, 3, false, b_Throng_copy⟩
abbrev N_Throng_copy : List Str := ["self", "other", "things"]
abbrev p_Throng_copy : List Str := ["self"]
def b__law_cell_at : S :=
  (.seq (.ife (.cmp .lt (.v 1) (.bi .len false (.cons (.v 0) .nil))) (.seq (.ret (.ix (.v 0) (.v 1))) .nil) .nil) (.seq (.ret (.c (.int 0))) .nil))
def d__law_cell_at : Def := ⟨2, 2, false, b__law_cell_at⟩
abbrev N__law_cell_at : List Str := ["script", "k"]
abbrev p__law_cell_at : List Str := ["script", "k"]
def b__law_tape : S :=
  (.seq (.set (.one (.n 2)) (.call "_law_cell_at" (.cons (.v 0) (.cons (.v 1) .nil)))) (.seq (.ife (.cmp .eq (.v 2) (.c (.int 0))) (.seq (.ret (.lst true (.cons (.c (.int 0)) .nil))) .nil) .nil) (.seq (.ife (.cmp .ge (.v 2) (.bin .pow (.c (.int 10)) (.c (.int 18)))) (.seq (.ret (.lst true (.cons (.bin .sub (.v 2) (.bin .pow (.c (.int 10)) (.c (.int 18)))) .nil))) .nil) .nil) (.seq (.set (.one (.n 3)) (.c (.int 2305843009213693951))) (.seq (.set (.one (.n 4)) (.bin .mod (.bin .add (.bin .add (.bin .mul (.v 2) (.c (.int 48271))) (.bin .mul (.c (.int 40692)) (.v 1))) (.c (.int 31))) (.v 3))) (.seq (.set (.one (.n 5)) (.v 4)) (.seq (.for_ false (.one (.n 6)) (.rng (.c (.int 0)) (.c (.int 24))) (.seq (.set (.one (.n 4)) (.bin .mod (.bin .add (.bin .add (.bin .mul (.v 4) (.v 4)) (.bin .mul (.bin .mul (.c (.int 69621)) (.bin .add (.v 6) (.c (.int 1)))) (.bin .add (.v 1) (.c (.int 1))))) (.v 2)) (.v 3))) (.seq (.set (.one (.n 5)) (.bin .add (.bin .mul (.v 5) (.v 3)) (.v 4))) .nil))) (.seq (.ret (.lst true (.cons (.v 5) .nil))) .nil))))))))
def d__law_tape : Def := ⟨2, 7, false, b__law_tape⟩
abbrev N__law_tape : List Str := ["script", "k", "cell", "p", "one", "found", "turn"]
abbrev p__law_tape : List Str := ["script", "k"]
def b__law_digit : S :=
  (.seq (.set (.one (.n 2)) (.bin .mod (.ix (.v 0) (.c (.int 0))) (.v 1))) (.seq (.setIx (.v 0) (.c (.int 0)) (.bin .fdiv (.ix (.v 0) (.c (.int 0))) (.v 1))) (.seq (.ret (.v 2)) .nil)))
def d__law_digit : Def := ⟨2, 3, false, b__law_digit⟩
abbrev N__law_digit : List Str := ["tape", "total", "found"]
abbrev p__law_digit : List Str := ["tape", "total"]
def b__law_weights : S :=
  (.seq (.ret (.bi .tuple1 false (.cons (.lc false [2] (.one (.n 2)) (.rng (.c (.int 0)) (.v 1)) .nil (.ix (.lst false (.cons (.c (.int 1)) (.cons (.neg (.c (.int 1))) (.cons (.c (.int 0)) (.cons (.c (.int 2)) (.cons (.neg (.c (.int 2))) (.cons (.c (.int 3)) (.cons (.c (.int 1)) (.cons (.c (.int 1)) .nil))))))))) (.call "_law_digit" (.cons (.v 0) (.cons (.c (.int 8)) .nil))))) .nil))) .nil)
def d__law_weights : Def := ⟨2, 3, false, b__law_weights⟩
abbrev N__law_weights : List Str := ["tape", "total", "k"]
abbrev p__law_weights : List Str := ["tape", "total"]
def b__law_atom : S :=
  (.seq (.ife (.cmp .eq (.call "_law_digit" (.cons (.v 0) (.cons (.c (.int 2)) .nil))) (.c (.int 0))) (.seq (.ret (.tup (.cons (.c (.str "least")) (.cons (.call "_law_weights" (.cons (.v 0) (.cons (.v 1) .nil))) (.cons (.ix (.lst false (.cons (.c (.int 1)) (.cons (.c (.int 0)) (.cons (.c (.int 2)) (.cons (.neg (.c (.int 1))) (.cons (.c (.int 3)) .nil)))))) (.call "_law_digit" (.cons (.v 0) (.cons (.c (.int 5)) .nil)))) .nil))))) .nil) .nil) (.seq (.set (.one (.n 2)) (.ix (.lst false (.cons (.c (.int 2)) (.cons (.c (.int 3)) (.cons (.c (.int 2)) (.cons (.c (.int 4)) (.cons (.c (.int 5)) .nil)))))) (.call "_law_digit" (.cons (.v 0) (.cons (.c (.int 5)) .nil))))) (.seq (.ret (.tup (.cons (.c (.str "rest")) (.cons (.call "_law_weights" (.cons (.v 0) (.cons (.v 1) .nil))) (.cons (.v 2) (.cons (.call "_law_digit" (.cons (.v 0) (.cons (.v 2) .nil))) .nil)))))) .nil)))
def d__law_atom : Def := ⟨2, 3, false, b__law_atom⟩
abbrev N__law_atom : List Str := ["tape", "total", "m"]
abbrev p__law_atom : List Str := ["tape", "total"]
def b__law_wide_sentence : S :=
  (.seq (.set (.one (.n 4)) (.call "_law_digit" (.cons (.v 0) (.cons (.c (.int 6)) .nil)))) (.seq (.ife (.or (.cmp .eq (.v 2) (.c (.int 1))) (.cmp .eq (.v 3) (.c (.int 0)))) (.seq (.ret (.call "_law_atom" (.cons (.v 0) (.cons (.v 1) .nil)))) .nil) .nil) (.seq (.ife (.cmp .eq (.v 4) (.c (.int 0))) (.seq (.ret (.tup (.cons (.c (.str "not")) (.cons (.call "_law_wide_sentence" (.cons (.v 0) (.cons (.v 1) (.cons (.v 2) (.cons (.bin .sub (.v 3) (.c (.int 1))) .nil))))) .nil)))) .nil) .nil) (.seq (.set (.one (.n 5)) (.bin .add (.c (.int 1)) (.call "_law_digit" (.cons (.v 0) (.cons (.bin .sub (.v 2) (.c (.int 1))) .nil))))) (.seq (.set (.one (.n 6)) (.call "_law_wide_sentence" (.cons (.v 0) (.cons (.v 1) (.cons (.v 5) (.cons (.bin .sub (.v 3) (.c (.int 1))) .nil)))))) (.seq (.set (.one (.n 7)) (.call "_law_wide_sentence" (.cons (.v 0) (.cons (.v 1) (.cons (.bin .sub (.v 2) (.v 5)) (.cons (.bin .sub (.v 3) (.c (.int 1))) .nil)))))) (.seq (.ret (.tup (.cons (.ix (.lst false (.cons (.c (.str "and")) (.cons (.c (.str "or")) .nil))) (.bin .mod (.v 4) (.c (.int 2)))) (.cons (.v 6) (.cons (.v 7) .nil))))) .nil)))))))
def d__law_wide_sentence : Def := ⟨4, 8, false, b__law_wide_sentence⟩
abbrev N__law_wide_sentence : List Str := ["tape", "total", "parts", "deep", "option", "left", "one", "other"]
abbrev p__law_wide_sentence : List Str := ["tape", "total", "parts", "deep"]
def b__law_pairs : S :=
  (.seq (.set (.one (.n 2)) (.lst true .nil)) (.seq (.for_ false (.one (.n 3)) (.rng (.c (.int 0)) (.v 0)) (.seq (.for_ false (.one (.n 4)) (.rng (.bin .add (.v 3) (.c (.int 1))) (.v 0)) (.seq (.ex (.mt .append (.v 2) (.cons (.tup (.cons (.v 3) (.cons (.v 4) .nil))) .nil))) .nil)) .nil)) (.seq (.ife (.cons (.v 1) .nil) (.seq (.set (.one (.n 2)) (.lc true [3,4] (.tup [(.n 3), (.n 4)]) (.cons (.rev false (.v 2)) .nil) .nil (.tup (.cons (.v 4) (.cons (.v 3) .nil))))) .nil) .nil) (.seq (.ret (.frz (.v 2))) .nil))))
def d__law_pairs : Def := ⟨2, 5, true, b__law_pairs⟩
abbrev N__law_pairs : List Str := ["folk", "option", "found", "one", "other"]
abbrev p__law_pairs : List Str := ["folk", "option"]
def b__law_met_one_by_one : S :=
  (.seq (.set (.one (.n 2)) (.lenO (.v 0))) (.seq (.set (.one (.n 3)) (.c (.int 0))) (.seq (.for_ false (.tup [(.n 4), (.n 5)]) (.cons (.v 1) .nil) (.seq (.set (.one (.n 6)) (.lc false [7] (.one (.n 7)) (.rng (.c (.int 0)) (.v 2)) .nil (.meth (.v 0) "says" (.cons (.v 7) .nil)))) (.seq (.ex (.meth (.v 0) "meet" (.cons (.v 4) (.cons (.v 5) .nil)))) (.seq (.set (.one (.n 8)) (.lc false [7] (.one (.n 7)) (.rng (.c (.int 0)) (.v 2)) .nil (.meth (.v 0) "says" (.cons (.v 7) .nil)))) (.seq (.set (.one (.n 3)) (.bin .add (.v 3) (.bi .int1 false (.cons (.cmp .ne (.v 6) (.v 8)) .nil)))) (.seq (.ife (.not (.cons (.bi .all false (.cons (.lc false [7] (.one (.n 7)) (.rng (.c (.int 0)) (.v 2)) (.cmp .nmem (.v 7) (.tup (.cons (.v 4) (.cons (.v 5) .nil)))) (.cmp .eq (.ix (.v 8) (.v 7)) (.ix (.v 6) (.v 7)))) .nil)) .nil)) (.seq (.ret (.bin .mul (.v 2) (.v 2))) .nil) .nil) .nil)))))) (.seq (.ret (.v 3)) .nil))))
def d__law_met_one_by_one : Def := ⟨2, 9, false, b__law_met_one_by_one⟩
abbrev N__law_met_one_by_one : List Str := ["throng", "pairs", "folk", "found", "one", "other", "words", "k", "later"]
abbrev p__law_met_one_by_one : List Str := ["throng", "pairs"]
def b__law_stretch_right : S :=
  (.seq (.set (.one (.n 3)) (.lenO (.v 0))) (.seq (.set (.one (.n 4)) (.call "_law_met_one_by_one" (.cons (.v 1) (.cons (.call "_law_pairs" (.cons (.v 3) (.cons (.cmp .eq (.v 2) (.c (.int 2))) .nil))) .nil)))) (.seq (.ife (.cmp .eq (.v 2) (.c (.int 0))) (.seq (.set (.one (.n 5)) (.meth (.v 0) "stretch" (.cons (.c (.bl false)) .nil))) .nil) (.seq (.set (.one (.n 5)) (.meth (.v 0) "stretch" (.cons (.cmp .eq (.v 2) (.c (.int 2))) .nil))) .nil)) (.seq (.ife (.or (.not (.cons (.bi .isInt false (.cons (.v 5) .nil)) .nil)) (.cons (.bi .isBool false (.cons (.v 5) .nil)) .nil)) (.seq (.ret (.c (.bl false))) .nil) .nil) (.seq (.ife (.not (.chn .le .le (.v 4) (.v 5) (.bin .fdiv (.bin .mul (.v 3) (.bin .sub (.v 3) (.c (.int 1)))) (.c (.int 2))))) (.seq (.ret (.c (.bl false))) .nil) .nil) (.seq (.set (.one (.n 6)) (.lc false [7] (.one (.n 7)) (.rng (.c (.int 0)) (.v 3)) .nil (.meth (.v 1) "says" (.cons (.v 7) .nil)))) (.seq (.ife (.cmp .ne (.lc false [7] (.one (.n 7)) (.rng (.c (.int 0)) (.v 3)) .nil (.meth (.v 0) "says" (.cons (.v 7) .nil))) (.v 6)) (.seq (.ret (.c (.bl false))) .nil) .nil) (.seq (.ret (.and (.cmp .eq (.v 0) (.v 1)) (.cmp .eq (.meth (.v 0) "said" .nil) (.meth (.v 1) "said" .nil)))) .nil))))))))
def d__law_stretch_right : Def := ⟨3, 8, false, b__law_stretch_right⟩
abbrev N__law_stretch_right : List Str := ["throng", "other", "option", "folk", "fewest", "told", "words", "k"]
abbrev p__law_stretch_right : List Str := ["throng", "other", "option"]
def b__law_great_right : S :=
  (.seq (.set (.one (.n 1)) (.bin .add (.c (.int 1)) (.call "_law_digit" (.cons (.v 0) (.cons (.c (.int 2)) .nil))))) (.seq (.set (.one (.n 2)) (.make false "Throng" (.cons (.call "_law_atom" (.cons (.v 0) (.cons (.v 1) .nil))) .nil))) (.seq (.set (.one (.n 3)) (.bin .add (.c (.int 31)) (.call "_law_digit" (.cons (.v 0) (.cons (.c (.int 30)) .nil))))) (.seq (.for_ true (.one (.n 4)) (.rng (.c (.int 0)) (.v 1)) (.seq (.ex (.meth (.v 2) "come" (.cons (.sl false (.c (.str "abc")) (.cons (.v 4) .nil) (.cons (.bin .add (.v 4) (.c (.int 1))) .nil)) (.cons (.ix (.lst false (.cons (.bin .sub (.v 3) (.c (.int 15))) (.cons (.c (.int 15)) .nil))) (.v 4)) .nil)))) .nil)) (.seq (.for_ true (.one (.n 5)) (.rng (.c (.int 0)) (.c (.int 2))) (.seq (.set (.one (.n 6)) (.meth (.v 2) "copy" .nil)) (.seq (.for_ true (.tup [(.n 7), (.n 8)]) (.cons (.call "_law_pairs" (.cons (.lenO (.v 2)) (.cons (.cmp .eq (.v 5) (.c (.int 1))) .nil))) .nil) (.seq (.ex (.meth (.v 6) "meet" (.cons (.v 7) (.cons (.v 8) .nil)))) .nil)) (.seq (.ex (.meth (.v 2) "stretch" (.cons (.cmp .eq (.v 5) (.c (.int 1))) .nil))) (.seq (.set (.one (.n 9)) (.lc false [10] (.one (.n 10)) (.rng (.c (.int 0)) (.lenO (.v 6))) .nil (.meth (.v 6) "says" (.cons (.v 10) .nil)))) (.seq (.ife (.or (.cmp .ne (.lc false [10] (.one (.n 10)) (.rng (.c (.int 0)) (.lenO (.v 2))) .nil (.meth (.v 2) "says" (.cons (.v 10) .nil))) (.v 9)) (.cmp .ne (.v 2) (.v 6))) (.seq (.ret (.c (.bl false))) .nil) .nil) .nil)))))) (.seq (.ret (.c (.bl true))) .nil))))))
def d__law_great_right : Def := ⟨1, 11, true, b__law_great_right⟩
abbrev N__law_great_right : List Str := ["tape", "total", "throng", "folk", "at", "turn", "other", "one", "two", "words", "k"]
abbrev p__law_great_right : List Str := ["tape"]
def b_law : S :=
  (.seq (.ife (.not (.cons (.call "_law_great_right" (.cons (.call "_law_tape" (.cons (.v 0) (.cons (.c (.int 6)) .nil))) .nil)) .nil)) (.seq (.ret (.c (.bl false))) .nil) .nil) (.seq (.for_ true (.one (.n 1)) (.rng (.c (.int 0)) (.bi .max2 false (.cons (.c (.int 3)) (.cons (.bi .min2 false (.cons (.c (.int 6)) (.cons (.bi .len false (.cons (.v 0) .nil)) .nil))) .nil)))) (.seq (.set (.one (.n 2)) (.call "_law_tape" (.cons (.v 0) (.cons (.v 1) .nil)))) (.seq (.set (.one (.n 3)) (.bin .add (.c (.int 1)) (.call "_law_digit" (.cons (.v 2) (.cons (.c (.int 3)) .nil))))) (.seq (.set (.one (.n 4)) (.call "_law_wide_sentence" (.cons (.v 2) (.cons (.v 3) (.cons (.bin .add (.c (.int 1)) (.call "_law_digit" (.cons (.v 2) (.cons (.c (.int 4)) .nil)))) (.cons (.c (.int 3)) .nil)))))) (.seq (.set (.one (.n 5)) (.make false "Throng" (.cons (.v 4) .nil))) (.seq (.ife (.or (.cmp .ne (.meth (.v 5) "stretch" (.cons (.c (.bl false)) .nil)) (.c (.int 0))) (.cmp .notN (.meth (.v 5) "said" .nil) (.c .non))) (.seq (.ret (.c (.bl false))) .nil) .nil) (.seq (.ex (.meth (.v 5) "come" (.cons (.c (.str "a")) (.cons (.c (.int 1)) .nil)))) (.seq (.ife (.cmp .ne (.meth (.v 5) "stretch" (.cons (.c (.bl true)) .nil)) (.c (.int 0))) (.seq (.ret (.c (.bl false))) .nil) .nil) (.seq (.for_ true (.one (.n 6)) (.rng (.c (.int 0)) (.bin .add (.c (.int 1)) (.call "_law_digit" (.cons (.v 2) (.cons (.c (.int 8)) .nil))))) (.seq (.set (.one (.n 7)) (.call "_law_digit" (.cons (.v 2) (.cons (.v 3) .nil)))) (.seq (.ex (.meth (.v 5) "come" (.cons (.sl false (.c (.str "abc")) (.cons (.v 7) .nil) (.cons (.bin .add (.v 7) (.c (.int 1))) .nil)) (.cons (.c (.int 1)) .nil)))) .nil))) (.seq (.set (.one (.n 8)) (.lenO (.v 5))) (.seq (.for_ true (.one (.n 6)) (.rng (.c (.int 0)) (.call "_law_digit" (.cons (.v 2) (.cons (.c (.int 9)) .nil)))) (.seq (.set (.one (.n 9)) (.call "_law_digit" (.cons (.v 2) (.cons (.v 8) .nil)))) (.seq (.set (.one (.n 10)) (.call "_law_digit" (.cons (.v 2) (.cons (.bin .sub (.v 8) (.c (.int 1))) .nil)))) (.seq (.ex (.meth (.v 5) "meet" (.cons (.v 9) (.cons (.bin .add (.v 10) (.bi .int1 false (.cons (.cmp .ge (.v 10) (.v 9)) .nil))) .nil)))) .nil)))) (.seq (.set (.one (.n 11)) (.meth (.v 5) "copy" .nil)) (.seq (.for_ true (.one (.n 6)) (.rng (.c (.int 0)) (.c (.int 4))) (.seq (.ife (.not (.cons (.call "_law_stretch_right" (.cons (.v 5) (.cons (.v 11) (.cons (.call "_law_digit" (.cons (.v 2) (.cons (.c (.int 3)) .nil))) .nil)))) .nil)) (.seq (.ret (.c (.bl false))) .nil) .nil) .nil)) .nil))))))))))))) (.seq (.ret (.c (.bl true))) .nil)))
def d_law : Def := ⟨1, 12, true, b_law⟩
abbrev N_law : List Str := ["script", "k", "tape", "total", "sentence", "throng", "turn", "at", "folk", "one", "two", "other"]
abbrev p_law : List Str := ["script"]
def defs : List (Str × Def) := [(("made_of" : Str), d_made_of), (("many_of" : Str), d_many_of), (("atoms_of" : Str), d_atoms_of), (("truth_of" : Str), d_truth_of), (("pairs_of_folk" : Str), d_pairs_of_folk), (("_law_cell_at" : Str), d__law_cell_at), (("_law_tape" : Str), d__law_tape), (("_law_digit" : Str), d__law_digit), (("_law_weights" : Str), d__law_weights), (("_law_atom" : Str), d__law_atom), (("_law_wide_sentence" : Str), d__law_wide_sentence), (("_law_pairs" : Str), d__law_pairs), (("_law_met_one_by_one" : Str), d__law_met_one_by_one), (("_law_stretch_right" : Str), d__law_stretch_right), (("_law_great_right" : Str), d__law_great_right), (("law" : Str), d_law)]
def mets : List (Str × List (Str × Def)) := [(("__init__" : Str), [(("Least" : Str), d_Leastu_initu), (("Rest" : Str), d_Restu_initu), (("Throng" : Str), d_Throngu_initu)]), (("led" : Str), [(("Least" : Str), d_Least_led), (("Rest" : Str), d_Rest_led)]), (("met" : Str), [(("Least" : Str), d_Least_met), (("Rest" : Str), d_Rest_met)]), (("__eq__" : Str), [(("Throng" : Str), d_Throngu_equ)]), (("__len__" : Str), [(("Throng" : Str), d_Throngu_lenu)]), (("words" : Str), [(("Throng" : Str), d_Throng_words)]), (("word_of_folk" : Str), [(("Throng" : Str), d_Throng_word_of_folk)]), (("come" : Str), [(("Throng" : Str), d_Throng_come)]), (("need_folk" : Str), [(("Throng" : Str), d_Throng_need_folk)]), (("changed" : Str), [(("Throng" : Str), d_Throng_changed)]), (("meet" : Str), [(("Throng" : Str), d_Throng_meet)]), (("says" : Str), [(("Throng" : Str), d_Throng_says)]), (("said" : Str), [(("Throng" : Str), d_Throng_said)]), (("stretch" : Str), [(("Throng" : Str), d_Throng_stretch)]), (("copy" : Str), [(("Throng" : Str), d_Throng_copy)])]
def gvs : List (Str × D) := [(("GATE_WORDS" : Str), .tup [.str "a", .str "b", .str "c"])]
def atts : List (Str × List Str) := [(("Least" : Str), ["most", "bound"]), (("Rest" : Str), ["wheel", "rest"]), (("Throng" : Str), ["sentence", "parts", "folk", "by_gate", "marks"])]
def G : Prog := ⟨fun x => defs.lookup x, fun m => (mets.lookup m).getD [], fun x => gvs.lookup x, fun C => (atts.lookup C).getD []⟩
abbrev clsL : List Str := ["Least", "Rest", "Throng"]

end LW

/-! k99 in plain Lean: what the defs compute. -/
namespace P99
open PySem PySem.Spec L2 DP LW

/-! ### calls and statements, step by step -/
theorem call_s (wf k : Nat) (f : Str) {d : Def} (h : G.defs f = some d) (as : List D) (μ : Sto) : (G.pr wf (k + 1)).call f as μ = runDef (G.pr wf k) d as μ := by
  show (match G.defs f with | some d => runDef (G.pr wf k) d as μ | none => none) = _
  rw [h]
theorem meth_s (wf k : Nat) (C m : Str) {d : Def} (h : (G.mets m).lookup C = some d) (as : List D) (μ : Sto) : (G.pr wf (k + 1)).meth C m as μ = runDef (G.pr wf k) d as μ := by
  show (match (G.mets m).lookup C with | some d => runDef (G.pr wf k) d as μ | none => none) = _
  rw [h]
section
variable {Γ : Pr} {a b : S} {e : E} {ρ ρ' : Rho} {μ μ' μ'' : Sto} {d : D} {r : Fr}
theorem sq (h1 : evS Γ a ρ μ = some (.next, ρ', μ')) (h2 : evS Γ b ρ' μ' = r) : evS Γ (.seq a b) ρ μ = r := by simp only [evS, h1]; exact h2
theorem sq_ret (h1 : evS Γ a ρ μ = some (.ret d, ρ', μ')) : evS Γ (.seq a b) ρ μ = some (.ret d, ρ', μ') := by simp only [evS, h1]
theorem s_ret (h : ev Γ e ρ μ = some (d, μ')) : evS Γ (.ret e) ρ μ = some (.ret d, ρ, μ') := by simp only [evS, h, bnd_some]
theorem s_ex (h : ev Γ e ρ μ = some (d, μ')) : evS Γ (.ex e) ρ μ = some (.next, ρ, μ') := by simp only [evS, h, bnd_some]
theorem s_set {i : Nat} (h : ev Γ e ρ μ = some (d, μ')) : evS Γ (.set (.one (.n i)) e) ρ μ = some (.next, ρ.set i (some d), μ') := by simp only [evS, h, bnd_some, DP.bind, storeLeaf, Option.map_some]
theorem s_setT {t : Tg} (h : ev Γ e ρ μ = some (d, μ')) (hb : bind Γ t d ρ μ' = some (ρ', μ'')) : evS Γ (.set t e) ρ μ = some (.next, ρ', μ'') := by simp only [evS, h, bnd_some, hb, Option.map_some]
theorem s_if {c : E} {k : Bool} (h : evT Γ c ρ μ = some (k, μ')) : evS Γ (.ife c a b) ρ μ = if k then evS Γ a ρ μ' else evS Γ b ρ μ' := by simp only [evS, h, bnd_some]
theorem run_ret {df : Def} {as : List D} (hl : as.length = df.np) (ho : df.own = false) (h : evS Γ df.body (as.map some ++ List.replicate (df.n - df.np) none) μ = some (.ret d, ρ', μ')) : runDef Γ df as μ = some (d, μ') := by
  simp only [runDef, hl, if_true, h, finD, ho, Bool.false_eq_true, if_false]
theorem run_retX {df : Def} {as : List D} (ρ0 : Rho) (hl : as.length = df.np) (ho : df.own = false) (hρ : as.map some ++ List.replicate (df.n - df.np) none = ρ0) (h : evS Γ df.body ρ0 μ = some (.ret d, ρ', μ')) : runDef Γ df as μ = some (d, μ') := by
  subst hρ
  simp only [runDef, hl, if_true, h, finD, ho, Bool.false_eq_true, if_false]
theorem run_next {df : Def} {as : List D} (hl : as.length = df.np) (ho : df.own = false) (h : evS Γ df.body (as.map some ++ List.replicate (df.n - df.np) none) μ = some (.next, ρ', μ')) : runDef Γ df as μ = some (.non, μ') := by
  simp only [runDef, hl, if_true, h, finD, ho, Bool.false_eq_true, if_false]
/-- .. of a def that cuts -/
theorem run_retC {df : Def} {as : List D} (hl : as.length = df.np) (ho : df.own = true) (h : evS Γ df.body (as.map some ++ List.replicate (df.n - df.np) none) μ = some (.ret d, ρ', μ')) (hu : D.under μ.length d = true) (hc : (μ'.take μ.length).all (cutOk μ.length) = true) : runDef Γ df as μ = some (d, μ'.take μ.length) := by
  simp only [runDef, hl, if_true, h, finD, ho, hu, hc, Bool.and_self]
end
/-! ### loops -/
section
variable {w : Wt} {μ : Sto}
theorem lc_flat {f : D → Sto → Option (List D × Sto)} {g : D → List D} (hw : watch w μ = true) : ∀ (xs : List D), (∀ x ∈ xs, f x μ = some (g x, μ)) → lcLoop w f xs μ = some (xs.flatMap g, μ)
  | [], _ => rfl
  | x :: xs, h => by
    simp only [lcLoop, h x (by simp), bnd_some, hw, if_true, lc_flat hw xs (fun y hy => h y (by simp [hy])), List.flatMap_cons]
theorem lc_map {f : D → Sto → Option (List D × Sto)} {g : D → D} (hw : watch w μ = true) (xs : List D) (h : ∀ x ∈ xs, f x μ = some ([g x], μ)) : lcLoop w f xs μ = some (xs.map g, μ) := by
  rw [lc_flat (g := fun x => [g x]) hw xs h]
  simp [List.flatMap_singleton']
  induction xs with
  | nil => rfl
  | cons x xs ih => simp [ih (fun y hy => h y (by simp [hy]))]
end
/-! ### digits -/
theorem ixT {m : Nat} {μ : Sto} {v : Int} (h : μ[m]? = some (.lst [.int v])) : ixD (.cell m) (.int 0) μ = some (.int v) := by
  simp only [ixD, h]; rfl
theorem divOk_of {t : Int} (h1 : 0 < t) (h2 : t < 1073741824) : divOk t = true := by
  unfold divOk
  have : t ≠ 0 ∧ t.natAbs < 1073741824 := by omega
  simp [this]
theorem run_digit (wf k : Nat) {m : Nat} {μ : Sto} {v t : Int} (h : μ[m]? = some (.lst [.int v])) (h1 : 0 < t) (h2 : t < 1073741824) :
    (G.pr wf (k + 1)).call "_law_digit" [.cell m, .int t] μ = some (.int (v.fmod t), μ.set m (.lst [.int (v.fdiv t)])) := by
  rw [call_s wf k "_law_digit" (d := d__law_digit) rfl]
  refine run_ret (ρ' := [some (.cell m), some (.int t), some (.int (v.fmod t))]) rfl rfl ?_
  have hm : op2 .mod (.int v) (.int t) = some (.int (v.fmod t)) := by simp only [op2]; rw [if_pos (by omega)]
  have hd : op2 .fdiv (.int v) (.int t) = some (.int (v.fdiv t)) := by simp only [op2, divOk_of h1 h2, if_true]
  have hs : setIxD (.cell m) (.int 0) (.int (v.fdiv t)) μ = some (μ.set m (.lst [.int (v.fdiv t)])) := by simp only [setIxD, h]; rfl
  refine sq (s_set (d := .int (v.fmod t)) (μ' := μ) ?_) (sq (ρ' := [some (.cell m), some (.int t), some (.int (v.fmod t))]) (μ' := μ.set m (.lst [.int (v.fdiv t)])) ?_ (sq_ret (s_ret ?_)))
  · show bnd (bnd (some (D.cell m, μ)) fun x μ => bnd (some (D.int 0, μ)) fun y μ => (ixD x y μ).map fun d => (d, μ)) (fun x μ => bnd (some (D.int t, μ)) fun y μ => (op2 .mod x y).map fun z => (z, μ)) = _
    simp only [bnd_some, ixT h, Option.map_some, hm]
  · show bnd (bnd (bnd (some (D.cell m, μ)) fun x μ => bnd (some (D.int 0, μ)) fun y μ => (ixD x y μ).map fun d => (d, μ)) (fun x μ => bnd (some (D.int t, μ)) fun y μ => (op2 .fdiv x y).map fun z => (z, μ))) (fun v' μ => bnd (some (D.cell m, μ)) fun x μ => bnd (some (D.int 0, μ)) fun y μ => (setIxD x y v' μ).map fun μ => (Flw.next, [some (D.cell m), some (D.int t), some (D.int (v.fmod t))], μ)) = _
    simp only [bnd_some, ixT h, Option.map_some, hd, hs]
  · rfl

structure Th where
  l : Bool
  n : Int
  y : Bool
def Th.e (t : Th) : D := .tup [.str (if t.l then "leads" else "follows"), .int t.n, .bl t.y]
/-- an atom; the wheel is one more than w -/
inductive At where
  | least (ws : List Int) (b : Int)
  | rest (ws : List Int) (w : Nat) (r : Int)
def absI (i : Int) : Int := if i < 0 then -i else i
def mostL (ws : List Int) (b : Int) : Int := match ws.map absI ++ [absI b + 1] with
  | [] => 0
  | i :: is => maxI i is
def At.k : At → D
  | .least ws b => .obj "Least" [("bound", .int b), ("most", .int (mostL ws b))]
  | .rest ws w r => .obj "Rest" [("wheel", .int (Int.ofNat (w + 1))), ("rest", .int r)]
def At.cls : At → Str
  | .least .. => "Least"
  | .rest .. => "Rest"
def At.ws : At → List Int
  | .least ws _ => ws
  | .rest ws _ _ => ws
def At.led : At → Int → Th
  | .least _ b, n => ⟨true, n, decide (b ≤ n)⟩
  | .rest _ w r, n => ⟨true, n.fmod (Int.ofNat (w + 1)), n.fmod (Int.ofNat (w + 1)) == r⟩
def clip (m v : Int) : Int := let u := if v < m then v else m; if u > -m then u else -m
def At.met : At → Th → Th → Th × Th
  | .least ws b, t, u => if t.l || u.l then
      let f := (At.least ws b).led (clip (mostL ws b) (t.n + u.n))
      let g : Th := ⟨false, t.n + u.n - f.n, f.y⟩
      if t.l then (f, g) else (g, f) else (t, u)
  | .rest ws w r, t, u => if t.l || u.l then
      let f := (At.rest ws w r).led (t.n + u.n)
      let g : Th := ⟨false, 0, f.y⟩
      if t.l then (f, g) else (g, f) else (t, u)
theorem run_led (wf k : Nat) (a : At) (n : Int) (μ : Sto) : (G.pr wf (k + 1)).meth a.cls "led" [a.k, .int n] μ = some ((a.led n).e, μ) := by
  cases a with
  | least ws b => rfl
  | rest ws w r => kernel_rfl
theorem run_met (wf k : Nat) (a : At) (t u : Th) (μ : Sto) : (G.pr wf (k + 2)).meth a.cls "met" [a.k, t.e, u.e] μ = some (.lst [(a.met t u).1.e, (a.met t u).2.e], μ) := by
  obtain ⟨l1, n1, y1⟩ := t
  obtain ⟨l2, n2, y2⟩ := u
  cases a with
  | least ws b => cases l1 <;> cases l2 <;> kernel_rfl
  | rest ws w r => cases l1 <;> cases l2 <;> kernel_rfl

/-! ### comprehensions -/
def lcStep (Γ : Pr) (own : List Nat) (tg : Tg) (cs elt : E) (ρ : Rho) (x : D) (μ : Sto) : Option (List D × Sto) := (DP.bind Γ tg x (wipeD ρ own) μ).bind fun p =>
  bnd (evT Γ cs p.1 p.2) fun k μ => if k then bnd (ev Γ elt p.1 μ) fun y μ => some ([y], μ) else some ([], μ)
section
variable {Γ : Pr} {own : List Nat} {tg : Tg} {it cs elt : E} {ρ : Rho} {μ : Sto} {xs : List D} {w : Wt}
theorem ev_lc1 {g : D → D} (hi : evI Γ it ρ μ = some ((xs, w), μ)) (hw : watch w μ = true) (hz : xs.length ≤ sizeLine) (h : ∀ x ∈ xs, lcStep Γ own tg cs elt ρ x μ = some ([g x], μ)) : ev Γ (.lc false own tg it cs elt) ρ μ = some (.lst (xs.map g), μ) := by
  have e := lc_map (f := lcStep Γ own tg cs elt ρ) (g := g) hw xs h
  simp only [ev, hi, bnd_some]
  show bnd (lcLoop w (lcStep Γ own tg cs elt ρ) xs μ) _ = _
  rw [e]
  simp only [bnd_some, DP.alloc, List.length_map, hz, if_true, Bool.false_eq_true, if_false]
theorem ev_lcM {g : D → D} (hi : evI Γ it ρ μ = some ((xs, w), μ)) (hw : watch w μ = true) (hz : xs.length ≤ sizeLine) (h : ∀ x ∈ xs, lcStep Γ own tg cs elt ρ x μ = some ([g x], μ)) : ev Γ (.lc true own tg it cs elt) ρ μ = some (.cell μ.length, μ ++ [.lst (xs.map g)]) := by
  have e := lc_map (f := lcStep Γ own tg cs elt ρ) (g := g) hw xs h
  simp only [ev, hi, bnd_some]
  show bnd (lcLoop w (lcStep Γ own tg cs elt ρ) xs μ) _ = _
  rw [e]
  simp only [bnd_some, DP.alloc, List.length_map, hz, if_true]
end
theorem small {n : Nat} (h : n ≤ 1000000) : n ≤ sizeLine := Nat.le_trans h (by decide)
/-! ### sentences -/
def At.e : At → D
  | .least ws b => .tup [.str "least", .tup (ws.map .int), .int b]
  | .rest ws w r => .tup [.str "rest", .tup (ws.map .int), .int (Int.ofNat (w + 1)), .int r]
inductive Sen where
  | atom (a : At)
  | not (s : Sen)
  | two (c : Bool) (a b : Sen)
def Sen.e : Sen → D
  | .atom a => a.e
  | .not s => .tup [.str "not", s.e]
  | .two c a b => .tup [.str (if c then "and" else "or"), a.e, b.e]
def Sen.ats : Sen → List At
  | .atom a => [a]
  | .not s => s.ats
  | .two _ a b => a.ats ++ b.ats
/-- what a sentence says, the atoms' truths given; and what is left of them -/
def Sen.say : Sen → List Bool → Option (Bool × List Bool)
  | .atom _, [] => none
  | .atom _, b :: bs => some (b, bs)
  | .not s, bs => (s.say bs).map fun p => (!p.1, p.2)
  | .two c a b, bs => (a.say bs).bind fun p => (b.say p.2).map fun q => (if c then p.1 && q.1 else p.1 || q.1, q.2)
theorem set_last (μ : Sto) (c c' : Cel) : (μ ++ [c]).set μ.length c' = μ ++ [c'] := by
  rw [List.set_append_right _ _ (Nat.le_refl _)]; simp
theorem at_last (μ : Sto) (c : Cel) : (μ ++ [c])[μ.length]? = some c := by
  rw [List.getElem?_append_right (Nat.le_refl _)]; simp
theorem intsD_map : ∀ ws : List Int, intsD (ws.map D.int) = some ws
  | [] => rfl
  | w :: ws => by simp [intsD, intsD_map ws]
/-! ### expressions, step by step -/
section
variable {Γ : Pr} {a b : E} {ρ : Rho} {μ μ1 μ2 μ3 : Sto} {d d1 d2 : D} {ds : List D}
theorem e_v {i : Nat} (h : ρ[i]? = some (some d)) : ev Γ (.v i) ρ μ = some (d, μ) := by simp only [ev, h]
theorem e_c : ev Γ (.c d) ρ μ = some (d, μ) := by simp only [ev]
theorem es_nil : evs Γ .nil ρ μ = some ([], μ) := by simp only [evs]
theorem es_cons (h1 : ev Γ a ρ μ = some (d, μ1)) (h2 : evs Γ b ρ μ1 = some (ds, μ2)) : evs Γ (.cons a b) ρ μ = some (d :: ds, μ2) := by simp only [evs, h1, bnd_some, h2]
theorem es_1 (h1 : ev Γ a ρ μ = some (d, μ1)) : evs Γ (.cons a .nil) ρ μ = some ([d], μ1) := es_cons h1 es_nil
theorem es_2 (h1 : ev Γ a ρ μ = some (d, μ1)) (h2 : ev Γ b ρ μ1 = some (d2, μ2)) : evs Γ (.cons a (.cons b .nil)) ρ μ = some ([d, d2], μ2) := es_cons h1 (es_1 h2)
theorem e_bi {k : Bi} {m : Bool} (h1 : evs Γ a ρ μ = some (ds, μ1)) (h2 : biD k m ds μ1 = some (d, μ2)) : ev Γ (.bi k m a) ρ μ = some (d, μ2) := by simp only [ev, h1, bnd_some, h2]
theorem e_bin {o : Op2} (h1 : ev Γ a ρ μ = some (d1, μ1)) (h2 : ev Γ b ρ μ1 = some (d2, μ2)) (h : op2 o d1 d2 = some d) : ev Γ (.bin o a b) ρ μ = some (d, μ2) := by simp only [ev, h1, bnd_some, h2, h, Option.map_some]
theorem e_tup (h1 : evs Γ a ρ μ = some (ds, μ1)) (hz : ds.length ≤ sizeLine) : ev Γ (.tup a) ρ μ = some (.tup ds, μ1) := by simp only [ev, h1, bnd_some, hz, if_true]
theorem e_lst (h1 : evs Γ a ρ μ = some (ds, μ1)) (hz : ds.length ≤ sizeLine) : ev Γ (.lst false a) ρ μ = some (.lst ds, μ1) := by simp only [ev, h1, bnd_some, DP.alloc, hz, if_true, Bool.false_eq_true, if_false]
theorem e_lstM (h1 : evs Γ a ρ μ = some (ds, μ1)) (hz : ds.length ≤ sizeLine) : ev Γ (.lst true a) ρ μ = some (.cell μ1.length, μ1 ++ [.lst ds]) := by simp only [ev, h1, bnd_some, DP.alloc, hz, if_true]
theorem e_cat {es : List D} (h1 : ev Γ a ρ μ = some (d1, μ1)) (h2 : ev Γ b ρ μ1 = some (d2, μ2)) (g1 : lstOf d1 μ2 = some ds) (g2 : lstOf d2 μ2 = some es) (hz : (ds ++ es).length ≤ sizeLine) : ev Γ (.cat false a b) ρ μ = some (.lst (ds ++ es), μ2) := by
  simp only [ev, h1, bnd_some, h2, g1, g2, Option.bind_some, DP.alloc, hz, if_true, Bool.false_eq_true, if_false]
theorem e_ix (h1 : ev Γ a ρ μ = some (d1, μ1)) (h2 : ev Γ b ρ μ1 = some (d2, μ2)) (h : ixD d1 d2 μ2 = some d) : ev Γ (.ix a b) ρ μ = some (d, μ2) := by simp only [ev, h1, bnd_some, h2, h, Option.map_some]
theorem e_call {f : Str} (h1 : evs Γ a ρ μ = some (ds, μ1)) (h : Γ.call f ds μ1 = some (d, μ2)) : ev Γ (.call f a) ρ μ = some (d, μ2) := by simp only [ev, h1, bnd_some, h]
theorem e_meth {f C : Str} (h1 : ev Γ a ρ μ = some (d1, μ1)) (hr : recv d1 f μ1 = some C) (h2 : evs Γ b ρ μ1 = some (ds, μ2)) (h : Γ.meth C f (d1 :: ds) μ2 = some (d, μ3)) : ev Γ (.meth a f b) ρ μ = some (d, μ3) := by
  simp only [ev, h1, bnd_some, hr, Option.bind_some, h2, h]
theorem e_make {fr : Bool} {C : Str} (h1 : evs Γ a ρ μ = some (ds, μ1)) (h : Γ.meth C "__init__" (.cell μ1.length :: ds) (μ1 ++ [.ins C []]) = some (.non, μ2)) : ev Γ (.make fr C a) ρ μ = if fr then freezeD μ1.length μ2 else some (.cell μ1.length, μ2) := by
  simp only [ev, h1, bnd_some, h, DP.isNon, if_true]
theorem e_ife {c : E} {k : Bool} (h : evT Γ c ρ μ = some (k, μ1)) : ev Γ (.ife c a b) ρ μ = if k then ev Γ a ρ μ1 else ev Γ b ρ μ1 := by simp only [ev, h, bnd_some]
theorem t_cmp {o : Cmp} {k : Bool} (h1 : ev Γ a ρ μ = some (d1, μ1)) (h2 : ev Γ b ρ μ1 = some (d2, μ2)) (h : cmpD Γ o d1 d2 μ2 = some (k, μ3)) : evT Γ (.cmp o a b) ρ μ = some (k, μ3) := by simp only [evT, h1, bnd_some, h2, h]
theorem e_cmp {o : Cmp} {k : Bool} (h1 : ev Γ a ρ μ = some (d1, μ1)) (h2 : ev Γ b ρ μ1 = some (d2, μ2)) (h : cmpD Γ o d1 d2 μ2 = some (k, μ3)) : ev Γ (.cmp o a b) ρ μ = some (.bl k, μ3) := by simp only [ev, h1, bnd_some, h2, h, Option.map_some]
end
theorem st_fld {Γ : Pr} {o n : Nat} {a C : Str} {d : D} {ρ : Rho} {μ : Sto} {fs : List (Str × D)} (h : ρ[o]? = some (some (.cell n))) (hn : μ[n]? = some (.ins C fs)) (ha : a ∈ Γ.att C) (hl : fs.length < 40) :
    storeLeaf Γ (.f o a) d ρ μ = some (ρ, μ.set n (.ins C (storeLeaf.putF' a d fs))) := by simp only [storeLeaf, h, hn, ha, hl, and_self, if_true]
theorem s_fld {Γ : Pr} {n : Nat} {o e : E} {f C : Str} {d : D} {ρ : Rho} {μ μ1 μ2 : Sto} {fs : List (Str × D)} (he : ev Γ e ρ μ = some (d, μ1)) (ho : ev Γ o ρ μ1 = some (.cell n, μ2)) (hn : μ2[n]? = some (.ins C fs)) (ha : f ∈ Γ.att C) (hl : fs.length < 40) :
    evS Γ (.fld o f e) ρ μ = some (.next, ρ, μ2.set n (.ins C (storeLeaf.putF' f d fs))) := by simp only [evS, he, bnd_some, ho, hn, ha, hl, and_self, if_true]
theorem fld_c {Γ : Pr} {n : Nat} {f C : Str} {d : D} {μ : Sto} {fs : List (Str × D)} (hn : μ[n]? = some (.ins C fs)) (ha : f ∈ Γ.att C) (hf : fs.lookup f = some d) : fldD Γ (.cell n) f μ = some d := by simp only [fldD, hn, ha, if_true, hf]
theorem e_fld {Γ : Pr} {o : E} {n : Nat} {f C : Str} {d : D} {ρ : Rho} {μ μ1 : Sto} {fs : List (Str × D)} (ho : ev Γ o ρ μ = some (.cell n, μ1)) (hn : μ1[n]? = some (.ins C fs)) (ha : f ∈ Γ.att C) (hf : fs.lookup f = some d) : ev Γ (.fld o f) ρ μ = some (d, μ1) := by
  simp only [ev, ho, bnd_some, fld_c hn ha hf, Option.map_some]
theorem set_at {μ : Sto} {n : Nat} {c c' : Cel} (h : μ[n]? = some c) : (μ.set n c')[n]? = some c' := by
  rw [List.getElem?_set_self (List.getElem?_eq_some_iff.mp h).1]
theorem att_Least (wf k : Nat) : (G.pr wf k).att "Least" = (["most", "bound"] : List Str) := rfl
theorem att_Rest (wf k : Nat) : (G.pr wf k).att "Rest" = (["wheel", "rest"] : List Str) := rfl
section
variable (wf k : Nat) {n : Nat} {μ : Sto}
theorem run_initL (ws : List Int) (b : Int) (hl : ws.length ≤ 10) (h : μ[n]? = some (.ins "Least" [])) : (G.pr wf (k + 1)).meth "Least" "__init__" [.cell n, (At.least ws b).e] μ = some (.non, μ.set n (.ins "Least" [("bound", .int b), ("most", .int (mostL ws b))])) := by
  rw [meth_s wf k "Least" "__init__" (d := d_Leastu_initu) rfl]
  have f0 : DP.bind (G.pr wf k) (.tup [(.n 2), (.n 3), (.f 0 "bound")]) (At.least ws b).e [some (.cell n), some (At.least ws b).e, none, none, none] μ =
      some ([some (.cell n), some (At.least ws b).e, some (.str "least"), some (.tup (ws.map .int)), none], μ.set n (.ins "Least" [("bound", .int b)])) := by
    show (storeLeaf (G.pr wf k) (.f 0 "bound") (.int b) [some (.cell n), some (At.least ws b).e, some (.str "least"), some (.tup (ws.map .int)), none] μ).bind _ = _
    rw [st_fld (n := n) (C := "Least") (fs := []) rfl h (by rw [att_Least]; decide) (by simp)]
    rfl
  have h1 := set_at (c' := .ins "Least" [("bound", D.int b)]) h
  have g1 : ev (G.pr wf k) (.lc false [4] (.one (.n 4)) (.cons (.v 3) .nil) .nil (.bi .abs false (.cons (.v 4) .nil))) [some (.cell n), some (At.least ws b).e, some (.str "least"), some (.tup (ws.map .int)), none] (μ.set n (.ins "Least" [("bound", .int b)])) = some (.lst ((ws.map D.int).map fun x => match x with | .int i => .int (absI i) | x => x), μ.set n (.ins "Least" [("bound", .int b)])) := by
    refine ev_lc1 (w := none) rfl rfl (small (by simp; omega)) fun x hx => ?_
    obtain ⟨i, _, rfl⟩ := List.mem_map.mp hx
    rfl
  have g2 : ev (G.pr wf k) (.bi .maxL false (.cons (.cat false (.lc false [4] (.one (.n 4)) (.cons (.v 3) .nil) .nil (.bi .abs false (.cons (.v 4) .nil))) (.lst false (.cons (.bin .add (.bi .abs false (.cons (.fld (.v 0) "bound") .nil)) (.c (.int 1))) .nil))) .nil)) [some (.cell n), some (At.least ws b).e, some (.str "least"), some (.tup (ws.map .int)), none] (μ.set n (.ins "Least" [("bound", .int b)])) = some (.int (mostL ws b), μ.set n (.ins "Least" [("bound", .int b)])) := by
    have e1 : ev (G.pr wf k) (.fld (.v 0) "bound") [some (.cell n), some (At.least ws b).e, some (.str "least"), some (.tup (ws.map .int)), none] (μ.set n (.ins "Least" [("bound", .int b)])) = some (.int b, μ.set n (.ins "Least" [("bound", .int b)])) := e_fld (e_v rfl) h1 (by rw [att_Least]; decide) rfl
    have e2 : ((ws.map D.int).map fun x => match x with | .int i => .int (absI i) | x => x) = (ws.map absI).map D.int := by simp [List.map_map, Function.comp_def]
    rw [e2] at g1
    have e4 : (intsD ((ws.map absI).map D.int ++ [D.int (absI b + 1)])) = some (ws.map absI ++ [absI b + 1]) := by
      have := intsD_map (ws.map absI ++ [absI b + 1])
      simpa using this
    have hz : ((ws.map absI).map D.int ++ [D.int (absI b + 1)]).length ≤ sizeLine := small (by simp; omega)
    refine e_bi (es_1 (e_cat g1 (e_lst (es_1 (e_bin (e_bi (es_1 e1) rfl) e_c rfl)) (small (by simp))) rfl rfl hz)) ?_
    show ((intsD ((ws.map absI).map D.int ++ [D.int (absI b + 1)])).bind fun is => match is with | [] => none | i :: is => some (D.int (maxI i is), _)) = _
    rw [e4]
    unfold mostL
    cases ws <;> rfl
  refine run_next (ρ' := [some (.cell n), some (At.least ws b).e, some (.str "least"), some (.tup (ws.map .int)), none]) rfl rfl ?_
  refine sq (s_setT (d := (At.least ws b).e) (μ' := μ) rfl f0) (sq (ρ' := [some (.cell n), some (At.least ws b).e, some (.str "least"), some (.tup (ws.map .int)), none]) (s_fld g2 (e_v rfl) h1 (by rw [att_Least]; decide) (by simp)) ?_)
  show some _ = some _
  rw [List.set_set]
  rfl
theorem run_initR (ws : List Int) (w : Nat) (r : Int) (h : μ[n]? = some (.ins "Rest" [])) : (G.pr wf (k + 1)).meth "Rest" "__init__" [.cell n, (At.rest ws w r).e] μ = some (.non, μ.set n (.ins "Rest" [("wheel", .int (Int.ofNat (w + 1))), ("rest", .int r)])) := by
  rw [meth_s wf k "Rest" "__init__" (d := d_Restu_initu) rfl]
  have h1 := set_at (c' := .ins "Rest" [("wheel", D.int (Int.ofNat (w + 1)))]) h
  have f0 : DP.bind (G.pr wf k) (.tup [(.n 2), (.n 3), (.f 0 "wheel"), (.f 0 "rest")]) (At.rest ws w r).e [some (.cell n), some (At.rest ws w r).e, none, none] μ =
      some ([some (.cell n), some (At.rest ws w r).e, some (.str "rest"), some (.tup (ws.map .int))], μ.set n (.ins "Rest" [("wheel", .int (Int.ofNat (w + 1))), ("rest", .int r)])) := by
    show (storeLeaf (G.pr wf k) (.f 0 "wheel") (.int (Int.ofNat (w + 1))) [some (.cell n), some (At.rest ws w r).e, some (.str "rest"), some (.tup (ws.map .int))] μ).bind (fun p => storeAll (G.pr wf k) [.f 0 "rest"] [.int r] p.1 p.2) = _
    rw [st_fld (n := n) (C := "Rest") (fs := []) rfl h (by rw [att_Rest]; decide) (by simp)]
    show (storeLeaf (G.pr wf k) (.f 0 "rest") (.int r) [some (.cell n), some (At.rest ws w r).e, some (.str "rest"), some (.tup (ws.map .int))] (μ.set n (.ins "Rest" [("wheel", D.int (Int.ofNat (w + 1)))]))).bind (fun p => storeAll (G.pr wf k) [] [] p.1 p.2) = _
    rw [st_fld (n := n) (C := "Rest") rfl h1 (by rw [att_Rest]; decide) (by simp)]
    show some _ = some _
    rw [List.set_set]; rfl
  refine run_next (ρ' := [some (.cell n), some (At.rest ws w r).e, some (.str "rest"), some (.tup (ws.map .int))]) rfl rfl ?_
  exact sq (s_setT (d := (At.rest ws w r).e) (μ' := μ) rfl f0) rfl
end

/-! ### the parts -/
def Ok (μ : Sto) : Prop := μ.all (cutOk μ.length) = true
theorem unders_map {β : Type} (n : Nat) (f : β → D) (h : ∀ x, D.under n (f x) = true) : ∀ xs : List β, D.under.D.unders n (xs.map f) = true
  | [] => rfl
  | x :: xs => by simp [D.under.D.unders, h x, unders_map n f h xs]
theorem under_th (n : Nat) (t : Th) : D.under n t.e = true := rfl
theorem under_k (n : Nat) (a : At) : D.under n a.k = true := by cases a <;> rfl
def At.kf : At → List (Str × D)
  | .least ws b => [("bound", .int b), ("most", .int (mostL ws b))]
  | .rest ws w r => [("wheel", .int (Int.ofNat (w + 1))), ("rest", .int r)]
theorem k_obj (a : At) : a.k = .obj a.cls a.kf := by cases a <;> rfl
def At.begins (a : At) : D := .lst (a.ws.map fun w => (a.led w).e)
def At.part (a : At) : D := .tup [a.k, a.begins]
theorem run_init (wf k : Nat) (a : At) (μ : Sto) (hl : a.ws.length ≤ 10) : (G.pr wf (k + 1)).meth a.cls "__init__" [.cell μ.length, a.e] (μ ++ [.ins a.cls []]) = some (.non, μ ++ [.ins a.cls a.kf]) := by
  cases a with
  | least ws b => have := run_initL wf k ws b hl (at_last μ (.ins "Least" [])); rw [set_last] at this; exact this
  | rest ws w r => have := run_initR wf k ws w r (at_last μ (.ins "Rest" [])); rw [set_last] at this; exact this
theorem run_made (wf k : Nat) (a : At) (μ : Sto) (hl : a.ws.length ≤ 10) (ok : Ok μ) : (G.pr wf (k + 2)).call "made_of" [a.e] μ = some (a.part, μ) := by
  rw [call_s wf (k + 1) "made_of" (d := d_made_of) rfl]
  have hm : ev (G.pr wf (k + 1)) (.ife (.cmp .eq (.ix (.v 0) (.c (.int 0))) (.c (.str "least"))) (.make true "Least" (.cons (.v 0) .nil)) (.make true "Rest" (.cons (.v 0) .nil))) [some a.e, none, none] μ = some (a.k, μ ++ [.dead]) := by
    have fz : freezeD μ.length (μ ++ [.ins a.cls a.kf]) = some (.obj a.cls a.kf, μ ++ [.dead]) := by simp only [freezeD, at_last, set_last]
    rw [k_obj, ← fz]
    cases a with
    | least ws b =>
      rw [e_ife (k := true) (t_cmp (e_ix (d := .str "least") (e_v rfl) e_c rfl) e_c (by kernel_rfl))]
      exact e_make (es_1 (e_v rfl)) (run_init wf k (.least ws b) μ hl)
    | rest ws w r =>
      rw [e_ife (k := false) (t_cmp (e_ix (d := .str "rest") (e_v rfl) e_c rfl) e_c (by kernel_rfl))]
      exact e_make (es_1 (e_v rfl)) (run_init wf k (.rest ws w r) μ hl)
  have hix : ixD a.e (.int 1) (μ ++ [.dead]) = some (.tup (a.ws.map .int)) := by cases a <;> rfl
  have hb : ev (G.pr wf (k + 1)) (.lc false [2] (.one (.n 2)) (.cons (.ix (.v 0) (.c (.int 1))) .nil) .nil (.meth (.v 1) "led" (.cons (.v 2) .nil))) [some a.e, some a.k, none] (μ ++ [.dead]) = some (a.begins, μ ++ [.dead]) := by
    have h0 : evI (G.pr wf (k + 1)) (.cons (.ix (.v 0) (.c (.int 1))) .nil) [some a.e, some a.k, none] (μ ++ [.dead]) = some ((a.ws.map .int, none), μ ++ [.dead]) := by
      simp only [evI, e_ix (e_v (i := 0) (ρ := [some a.e, some a.k, none]) rfl) e_c hix, bnd_some]
    have := ev_lc1 (own := [2]) (tg := .one (.n 2)) (cs := .nil) (elt := .meth (.v 1) "led" (.cons (.v 2) .nil)) (g := fun x => match x with | .int i => (a.led i).e | x => x) h0 rfl (small (by simp; omega)) fun x hx => by
      obtain ⟨i, _, rfl⟩ := List.mem_map.mp hx
      have e1 : ev (G.pr wf (k + 1)) (.meth (.v 1) "led" (.cons (.v 2) .nil)) [some a.e, some a.k, some (.int i)] (μ ++ [.dead]) = some ((a.led i).e, μ ++ [.dead]) :=
        e_meth (e_v rfl) (by cases a <;> rfl) (es_1 (e_v rfl)) (run_led wf k a i _)
      show (bnd (ev (G.pr wf (k + 1)) (.meth (.v 1) "led" (.cons (.v 2) .nil)) [some a.e, some a.k, some (.int i)] (μ ++ [.dead])) fun y μ => some ([y], μ)) = _
      rw [e1]; rfl
    rw [this]
    simp [At.begins, List.map_map, Function.comp_def]
  have := run_retC (Γ := G.pr wf (k + 1)) (df := d_made_of) (as := [a.e]) (μ := μ) (d := a.part) (ρ' := [some a.e, some a.k, none]) (μ' := μ ++ [.dead]) rfl rfl
    (sq (ρ' := [some a.e, some a.k, none]) (μ' := μ ++ [Cel.dead]) (s_set hm) (sq_ret (s_ret (e_tup (es_2 (e_v rfl) hb) (small (by simp)))))) (by
      show (D.under _ a.k && (D.under _ a.begins && true)) = true
      rw [under_k]
      show (true && (D.under.D.unders _ (a.ws.map fun w => (a.led w).e) && true)) = true
      rw [unders_map _ (fun w => (a.led w).e) fun _ => rfl]; rfl) (by rw [List.take_left]; exact ok)
  rw [this, List.take_left]
/-! ### trees -/
theorem wipeD_len' (ρ : Rho) : ∀ vs, (wipeD ρ vs).length = ρ.length
  | [] => rfl
  | v :: vs => by unfold wipeD; rw [List.length_set, wipeD_len' ρ vs]
def Sen.dep : Sen → Nat
  | .atom _ => 0
  | .not s => s.dep + 1
  | .two _ a b => max a.dep b.dep + 1
def lcStep2 (Γ : Pr) (own : List Nat) (tg : Tg) (cs : E) (tg1 : Tg) (it1 cs1 elt : E) (ρ : Rho) (x : D) (μ : Sto) : Option (List D × Sto) := (DP.bind Γ tg x (wipeD ρ own) μ).bind fun p =>
  bnd (evT Γ cs p.1 p.2) fun k μ => if k then bnd (evI Γ it1 p.1 μ) fun ys μ => lcLoop ys.2 (fun y μ => (DP.bind Γ tg1 y (wipeD p.1 tg1.sl) μ).bind fun q =>
    bnd (evT Γ cs1 q.1 q.2) fun k μ => if k then bnd (ev Γ elt q.1 μ) fun z μ => some ([z], μ) else some ([], μ)) ys.1 μ else some ([], μ)
theorem ev_lc2 {Γ : Pr} {own : List Nat} {tg tg1 : Tg} {it cs it1 cs1 elt : E} {ρ : Rho} {μ : Sto} {xs : List D} {w : Wt} {g : D → List D} (hi : evI Γ it ρ μ = some ((xs, w), μ)) (hw : watch w μ = true) (hz : (xs.flatMap g).length ≤ sizeLine) (h : ∀ x ∈ xs, lcStep2 Γ own tg cs tg1 it1 cs1 elt ρ x μ = some (g x, μ)) :
    ev Γ (.lc2 false own tg it cs tg1 it1 cs1 elt) ρ μ = some (.lst (xs.flatMap g), μ) := by
  have e := lc_flat (f := lcStep2 Γ own tg cs tg1 it1 cs1 elt ρ) (g := g) hw xs h
  simp only [ev, hi, bnd_some]
  show bnd (lcLoop w (lcStep2 Γ own tg cs tg1 it1 cs1 elt ρ) xs μ) _ = _
  rw [e]
  simp only [bnd_some, DP.alloc, hz, if_true, Bool.false_eq_true, if_false]
theorem lc_id {Γ : Pr} {i : Nat} {ρ : Rho} {μ : Sto} (hi : i < ρ.length) (ys : List D) : lcLoop none (fun y μ => (DP.bind Γ (.one (.n i)) y (wipeD ρ (Tg.one (.n i)).sl) μ).bind fun q => bnd (evT Γ .nil q.1 q.2) fun k μ => if k then bnd (ev Γ (.v i) q.1 μ) fun z μ => some ([z], μ) else some ([], μ)) ys μ = some (ys, μ) := by
  have := lc_map (w := none) (μ := μ) (f := fun y μ => (DP.bind Γ (.one (.n i)) y (wipeD ρ (Tg.one (.n i)).sl) μ).bind fun q => bnd (evT Γ .nil q.1 q.2) fun k μ => if k then bnd (ev Γ (.v i) q.1 μ) fun z μ => some ([z], μ) else some ([], μ)) (g := fun y => y) rfl ys fun y _ => by
    have hl : i < (wipeD ρ (Tg.one (.n i)).sl).length := by rw [wipeD_len']; exact hi
    simp only [DP.bind, storeLeaf, Option.bind_some, evT, bnd_some, if_true, ev, List.getElem?_set_self hl]
  rw [this]; simp

theorem run_atoms (wf : Nat) (μ : Sto) : ∀ (s : Sen) (k : Nat), s.dep < k → s.ats.length ≤ 1000 → (G.pr wf k).call "atoms_of" [s.e] μ = some (.lst (s.ats.map At.e), μ)
  | .atom a, k + 1, h, _ => by
    rw [call_s wf k "atoms_of" (d := d_atoms_of) rfl]
    cases a <;> kernel_rfl
  | .not s, k + 1, h, hl => by
    have ih := run_atoms wf μ s k (by simp only [Sen.dep] at h; omega) hl
    rw [call_s wf k "atoms_of" (d := d_atoms_of) rfl]
    refine run_ret (ρ' := [some (Sen.not s).e, none, none]) rfl rfl (sq (ρ' := [some (Sen.not s).e, none, none]) (μ' := μ) ?_ (sq_ret (s_ret ?_)))
    · kernel_rfl
    · have h0 : evI (G.pr wf k) (.cons (.sl false (.v 0) (.cons (.c (.int 1)) .nil) .noP) .nil) [some (Sen.not s).e, none, none] μ = some (([s.e], none), μ) := by kernel_rfl
      have := ev_lc2 (own := [1, 2]) (tg := .one (.n 1)) (cs := .nil) (tg1 := .one (.n 2)) (it1 := .cons (.call "atoms_of" (.cons (.v 1) .nil)) .nil) (cs1 := .nil) (elt := .v 2) (g := fun _ => s.ats.map At.e) h0 rfl (small (by have hl' : s.ats.length ≤ 1000 := hl; simp; omega)) fun x hx => by
        simp only [List.mem_singleton] at hx
        subst hx
        have e1 : evI (G.pr wf k) (.cons (.call "atoms_of" (.cons (.v 1) .nil)) .nil) [some (Sen.not s).e, some s.e, none] μ = some ((s.ats.map At.e, none), μ) := by
          simp only [evI, e_call (es_1 (e_v (i := 1) (ρ := [some (Sen.not s).e, some s.e, none]) rfl)) ih, bnd_some]
        show (bnd (evI (G.pr wf k) (.cons (.call "atoms_of" (.cons (.v 1) .nil)) .nil) [some (Sen.not s).e, some s.e, none] μ) _) = _
        rw [e1]
        exact lc_id (by show 2 < 3; decide) _
      rw [this]; simp [Sen.ats]
  | .two c a b, k + 1, h, hl => by
    have hd : a.dep < k ∧ b.dep < k := by simp only [Sen.dep] at h; omega
    have hle : a.ats.length ≤ 1000 ∧ b.ats.length ≤ 1000 ∧ a.ats.length + b.ats.length ≤ 1000 := by simp only [Sen.ats, List.length_append] at hl; omega
    have ih1 := run_atoms wf μ a k hd.1 hle.1
    have ih2 := run_atoms wf μ b k hd.2 hle.2.1
    rw [call_s wf k "atoms_of" (d := d_atoms_of) rfl]
    refine run_ret (ρ' := [some (Sen.two c a b).e, none, none]) rfl rfl (sq (ρ' := [some (Sen.two c a b).e, none, none]) (μ' := μ) ?_ (sq_ret (s_ret ?_)))
    · cases c <;> kernel_rfl
    · have h0 : evI (G.pr wf k) (.cons (.sl false (.v 0) (.cons (.c (.int 1)) .nil) .noP) .nil) [some (Sen.two c a b).e, none, none] μ = some (([a.e, b.e], none), μ) := by kernel_rfl
      have step : ∀ (s : Sen), (G.pr wf k).call "atoms_of" [s.e] μ = some (.lst (s.ats.map At.e), μ) → lcStep2 (G.pr wf k) [1, 2] (.one (.n 1)) .nil (.one (.n 2)) (.cons (.call "atoms_of" (.cons (.v 1) .nil)) .nil) .nil (.v 2) [some (Sen.two c a b).e, none, none] s.e μ = some (s.ats.map At.e, μ) := fun s ih => by
        have e1 : evI (G.pr wf k) (.cons (.call "atoms_of" (.cons (.v 1) .nil)) .nil) [some (Sen.two c a b).e, some s.e, none] μ = some ((s.ats.map At.e, none), μ) := by
          simp only [evI, e_call (es_1 (e_v (i := 1) (ρ := [some (Sen.two c a b).e, some s.e, none]) rfl)) ih, bnd_some]
        show (bnd (evI (G.pr wf k) (.cons (.call "atoms_of" (.cons (.v 1) .nil)) .nil) [some (Sen.two c a b).e, some s.e, none] μ) _) = _
        rw [e1]
        exact lc_id (by show 2 < 3; decide) _
      have e1 := step a ih1
      have e2 := step b ih2
      have hz : (a.ats.map At.e ++ b.ats.map At.e).length ≤ sizeLine := small (by simp; omega)
      simp only [ev, h0, bnd_some]
      show bnd (lcLoop none (lcStep2 (G.pr wf k) [1, 2] (.one (.n 1)) .nil (.one (.n 2)) (.cons (.call "atoms_of" (.cons (.v 1) .nil)) .nil) .nil (.v 2) [some (Sen.two c a b).e, none, none]) [a.e, b.e] μ) _ = _
      simp only [lcLoop, e1, e2, bnd_some, watch, if_true, List.append_nil, DP.alloc, hz, Bool.false_eq_true, if_false, Sen.ats, List.map_append]

/-- the first atom -/
def Sen.first : Sen → At
  | .atom a => a
  | .not s => s.first
  | .two _ a _ => a.first
theorem run_many (wf k : Nat) (μ : Sto) (s : Sen) (h : s.dep < wf) (hl : s.first.ws.length ≤ 10) : (G.pr wf (k + 1)).call "many_of" [s.e] μ = some (.int (s.first.ws.length : Nat), μ) := by
  rw [call_s wf k "many_of" (d := d_many_of) rfl]
  have loop : ∀ (s : Sen) (n : Nat), s.dep < n → whileL (evT (G.pr wf k) (.cmp .nmem (.ix (.v 0) (.c (.int 0))) (.tup (.cons (.c (.str "least")) (.cons (.c (.str "rest")) .nil))))) (evS (G.pr wf k) (.seq (.set (.one (.n 0)) (.ix (.v 0) (.c (.int 1)))) .nil)) n [some s.e] μ = some (.next, [some s.first.e], μ) := by
    intro s
    induction s with
    | atom a => intro n hn; cases n with
      | zero => omega
      | succ n => cases a <;> kernel_rfl
    | not s ih => intro n hn; cases n with
      | zero => omega
      | succ n =>
        have ih := ih n (by simp only [Sen.dep] at hn; omega)
        rw [← show whileL _ _ n [some s.e] μ = some (.next, [some (Sen.not s).first.e], μ) from ih]
        kernel_rfl
    | two c a b iha ihb => intro n hn; cases n with
      | zero => omega
      | succ n =>
        have ih := iha n (by simp only [Sen.dep] at hn; omega)
        rw [← show whileL _ _ n [some a.e] μ = some (.next, [some (Sen.two c a b).first.e], μ) from ih]
        cases c <;> kernel_rfl
  have lw : evS (G.pr wf k) (.whl (.cmp .nmem (.ix (.v 0) (.c (.int 0))) (.tup (.cons (.c (.str "least")) (.cons (.c (.str "rest")) .nil)))) (.seq (.set (.one (.n 0)) (.ix (.v 0) (.c (.int 1)))) .nil)) [some s.e] μ = some (.next, [some s.first.e], μ) := by
    simp only [evS]
    exact loop s wf h
  have hix : ixD s.first.e (.int 1) μ = some (.tup (s.first.ws.map .int)) := by cases s.first <;> rfl
  refine run_ret (ρ' := [some s.first.e]) rfl rfl (sq lw (sq_ret (s_ret (e_bi (es_1 (e_ix (e_v rfl) e_c hix)) ?_))))
  simp only [biD, items, Option.map_some, List.length_map]
theorem e_mt {Γ : Pr} {k : Bi} {a b : E} {ρ : Rho} {μ μ1 μ2 μ3 : Sto} {d d1 : D} {ds : List D} (h1 : ev Γ a ρ μ = some (d1, μ1)) (hl : (listed d1 μ1).isSome = true) (h2 : evs Γ b ρ μ1 = some (ds, μ2)) (h : biD k false (d1 :: ds) μ2 = some (d, μ3)) : ev Γ (.mt k a b) ρ μ = some (d, μ3) := by
  simp only [ev, h1, bnd_some, hl, if_true, h2, h]
theorem bi_pop {m : Nat} {μ : Sto} {x : D} {xs : List D} (hm : μ[m]? = some (.lst (x :: xs))) : biD .pop0 false [.cell m, .int 0] μ = some (x, μ.set m (.lst xs)) := by
  have e : seqIndex? 0 (x :: xs).length = some 0 := by simp [seqIndex?]
  simp only [biD, hm]
  rw [if_pos (by decide), e]
  rfl
theorem listed_at {m : Nat} {μ : Sto} {xs : List D} (hm : μ[m]? = some (.lst xs)) : (listed (.cell m) μ).isSome = true := by simp only [listed, hm]; rfl
def truthC : E := .lc false [5] (.one (.n 5)) (.cons (.v 3) .nil) .nil (.call "truth_of" (.cons (.v 5) (.cons (.v 1) .nil)))
def truthR : S := .seq (.ife (.cmp .eq (.v 2) (.c (.str "not"))) (.seq (.ret (.not (.ix (.v 4) (.c (.int 0))))) .nil) .nil) (.seq (.ret (.ife (.cmp .eq (.v 2) (.c (.str "and"))) (.bi .all false (.cons (.v 4) .nil)) (.bi .any false (.cons (.v 4) .nil)))) .nil)
/-- what a sentence says -/
theorem run_truth (wf : Nat) : ∀ (s : Sen) (k m : Nat) (μ : Sto) (bs : List Bool) (b : Bool) (rest : List Bool), s.dep < k → μ[m]? = some (.lst (bs.map D.bl)) → s.say bs = some (b, rest) →
    (G.pr wf k).call "truth_of" [s.e, .cell m] μ = some (.bl b, μ.set m (.lst (rest.map D.bl)))
  | .atom a, k + 1, m, μ, bs, b, rest, h, hm, hs => by
    cases bs with
    | nil => cases hs
    | cons b' bs =>
      simp only [Sen.say, Option.some.injEq, Prod.mk.injEq] at hs
      obtain ⟨rfl, rfl⟩ := hs
      rw [call_s wf k "truth_of" (d := d_truth_of) rfl]
      have hp : ∀ R : Rho, R[1]? = some (some (.cell m)) → ev (G.pr wf k) (.mt .pop0 (.v 1) (.cons (.c (.int 0)) .nil)) R μ = some (.bl b', μ.set m (.lst (bs.map D.bl))) := fun R hR => e_mt (e_v hR) (listed_at hm) (es_1 e_c) (bi_pop hm)
      cases a with
      | least ws c =>
        refine run_ret (ρ' := [some (At.least ws c).e, some (.cell m), some (.str "least"), some (.lst [.tup (ws.map .int), .int c]), none, none]) rfl rfl (sq (ρ' := [some (At.least ws c).e, some (.cell m), some (.str "least"), some (.lst [.tup (ws.map .int), .int c]), none, none]) (μ' := μ) (by kernel_rfl) (sq_ret ?_))
        rw [s_if (k := true) (μ' := μ) (by kernel_rfl)]
        exact sq_ret (s_ret (hp _ rfl))
      | rest ws w r =>
        refine run_ret (ρ' := [some (At.rest ws w r).e, some (.cell m), some (.str "rest"), some (.lst [.tup (ws.map .int), .int (Int.ofNat (w + 1)), .int r]), none, none]) rfl rfl (sq (ρ' := [some (At.rest ws w r).e, some (.cell m), some (.str "rest"), some (.lst [.tup (ws.map .int), .int (Int.ofNat (w + 1)), .int r]), none, none]) (μ' := μ) (by kernel_rfl) (sq_ret ?_))
        rw [s_if (k := true) (μ' := μ) (by kernel_rfl)]
        exact sq_ret (s_ret (hp _ rfl))
  | .not s, k + 1, m, μ, bs, b, rest, h, hm, hs => by
    simp only [Sen.say] at hs
    obtain ⟨⟨b1, r1⟩, h1, h2⟩ := Option.map_eq_some_iff.mp hs
    cases h2
    have ih := run_truth wf s k m μ bs b1 r1 (by simp only [Sen.dep] at h; omega) hm h1
    rw [call_s wf k "truth_of" (d := d_truth_of) rfl]
    have hc : ev (G.pr wf k) truthC [some (Sen.not s).e, some (.cell m), some (.str "not"), some (.lst [s.e]), none, none] μ = some (.lst [.bl b1], μ.set m (.lst (r1.map D.bl))) := by
      have e1 : lcStep (G.pr wf k) [5] (.one (.n 5)) .nil (.call "truth_of" (.cons (.v 5) (.cons (.v 1) .nil))) [some (Sen.not s).e, some (.cell m), some (.str "not"), some (.lst [s.e]), none, none] s.e μ = some ([.bl b1], μ.set m (.lst (r1.map D.bl))) := by
        have := e_call (Γ := G.pr wf k) (f := "truth_of") (es_2 (e_v (i := 5) (ρ := [some (Sen.not s).e, some (.cell m), some (.str "not"), some (.lst [s.e]), none, some s.e]) (μ := μ) rfl) (e_v (i := 1) rfl)) ih
        show (bnd (ev (G.pr wf k) (.call "truth_of" (.cons (.v 5) (.cons (.v 1) .nil))) [some (Sen.not s).e, some (.cell m), some (.str "not"), some (.lst [s.e]), none, some s.e] μ) fun y μ => some ([y], μ)) = _
        rw [this]; rfl
      simp only [truthC, ev, evI, List.getElem?_cons_succ, List.getElem?_cons_zero, bnd_some]
      show bnd (lcLoop none (lcStep (G.pr wf k) [5] (.one (.n 5)) .nil (.call "truth_of" (.cons (.v 5) (.cons (.v 1) .nil))) _) [s.e] μ) _ = _
      simp only [lcLoop, e1, bnd_some, watch, if_true]
      rfl
    refine run_ret (ρ' := [some (Sen.not s).e, some (.cell m), some (.str "not"), some (.lst [s.e]), some (.lst [.bl b1]), none]) rfl rfl (sq (ρ' := [some (Sen.not s).e, some (.cell m), some (.str "not"), some (.lst [s.e]), none, none]) (μ' := μ) (by kernel_rfl)
      (sq (ρ' := [some (Sen.not s).e, some (.cell m), some (.str "not"), some (.lst [s.e]), none, none]) (μ' := μ) (by kernel_rfl) (sq (s_set hc) (sq_ret ?_))))
    kernel_rfl
  | .two c x y, k + 1, m, μ, bs, b, rest, h, hm, hs => by
    simp only [Sen.say] at hs
    obtain ⟨⟨b1, r1⟩, h1, hs⟩ := Option.bind_eq_some_iff.mp hs
    obtain ⟨⟨b2, r2⟩, h2, h3⟩ := Option.map_eq_some_iff.mp hs
    cases h3
    have hd : x.dep < k ∧ y.dep < k := by simp only [Sen.dep] at h; omega
    have ih1 := run_truth wf x k m μ bs b1 r1 hd.1 hm h1
    have ih2 := run_truth wf y k m (μ.set m (.lst (r1.map D.bl))) r1 b2 r2 hd.2 (set_at hm) h2
    rw [List.set_set] at ih2
    rw [call_s wf k "truth_of" (d := d_truth_of) rfl]
    let W : D := .str (if c then "and" else "or")
    have st : ∀ (s : Sen) (μ1 μ2 : Sto) (b : Bool), (G.pr wf k).call "truth_of" [s.e, .cell m] μ1 = some (.bl b, μ2) → lcStep (G.pr wf k) [5] (.one (.n 5)) .nil (.call "truth_of" (.cons (.v 5) (.cons (.v 1) .nil))) [some (Sen.two c x y).e, some (.cell m), some W, some (.lst [x.e, y.e]), none, none] s.e μ1 = some ([.bl b], μ2) := fun s μ1 μ2 b ih => by
      have := e_call (Γ := G.pr wf k) (f := "truth_of") (es_2 (e_v (i := 5) (ρ := [some (Sen.two c x y).e, some (.cell m), some W, some (.lst [x.e, y.e]), none, some s.e]) (μ := μ1) rfl) (e_v (i := 1) rfl)) ih
      show (bnd (ev (G.pr wf k) (.call "truth_of" (.cons (.v 5) (.cons (.v 1) .nil))) [some (Sen.two c x y).e, some (.cell m), some W, some (.lst [x.e, y.e]), none, some s.e] μ1) fun y μ => some ([y], μ)) = _
      rw [this]; rfl
    have hc : ev (G.pr wf k) truthC [some (Sen.two c x y).e, some (.cell m), some W, some (.lst [x.e, y.e]), none, none] μ = some (.lst [.bl b1, .bl b2], μ.set m (.lst (r2.map D.bl))) := by
      simp only [truthC, ev, evI, List.getElem?_cons_succ, List.getElem?_cons_zero, bnd_some]
      show bnd (lcLoop none (lcStep (G.pr wf k) [5] (.one (.n 5)) .nil (.call "truth_of" (.cons (.v 5) (.cons (.v 1) .nil))) _) [x.e, y.e] μ) _ = _
      simp only [lcLoop, st x _ _ _ ih1, st y _ _ _ ih2, bnd_some, watch, if_true]
      rfl
    refine run_ret (ρ' := [some (Sen.two c x y).e, some (.cell m), some W, some (.lst [x.e, y.e]), some (.lst [.bl b1, .bl b2]), none]) rfl rfl (sq (ρ' := [some (Sen.two c x y).e, some (.cell m), some W, some (.lst [x.e, y.e]), none, none]) (μ' := μ) (by kernel_rfl)
      (sq (ρ' := [some (Sen.two c x y).e, some (.cell m), some W, some (.lst [x.e, y.e]), none, none]) (μ' := μ) (by cases c <;> kernel_rfl) (sq (s_set hc) ?_)))
    cases c <;> cases b1 <;> cases b2 <;> kernel_rfl

theorem b62 {i : Int} (h1 : -1000000 ≤ i) (h2 : i ≤ 1000000) : -(2 ^ 62) ≤ i ∧ i < 2 ^ 62 := ⟨Int.le_trans (by decide) h1, Int.lt_of_le_of_lt h2 (by decide)⟩
theorem i_rng {Γ : Pr} {a b : E} {ρ : Rho} {μ μ1 μ2 : Sto} {i j : Int} (h1 : ev Γ a ρ μ = some (.int i, μ1)) (h2 : ev Γ b ρ μ1 = some (.int j, μ2)) (hi : -(2 ^ 62) ≤ i ∧ i < 2 ^ 62) (hj : -(2 ^ 62) ≤ j ∧ j < 2 ^ 62) :
    evI Γ (.rng a b) ρ μ = some (((List.range (j - i).toNat).map fun (k : Nat) => D.int (i + (k : Int)), none), μ2) := by
  simp only [evI, h1, bnd_some, h2]
  rw [if_pos ⟨hi.1, hi.2, hj.1, hj.2⟩]
/-! ### what the law draws -/
def tp (μ : Sto) (m : Nat) (v : Int) : Sto := μ.set m (.lst [.int v])
theorem tp_at {μ : Sto} {m : Nat} (h : m < μ.length) (v : Int) : (tp μ m v)[m]? = some (.lst [.int v]) := List.getElem?_set_self h
theorem tp_tp (μ : Sto) (m : Nat) (v w : Int) : (tp μ m v).set m (.lst [.int w]) = tp μ m w := List.set_set ..
section
variable (wf : Nat) {μ : Sto} {m : Nat} (hm : m < μ.length)
include hm
theorem digit (k : Nat) (v : Int) {t : Int} (h1 : 0 < t) (h2 : t < 1073741824) : ∃ (d v' : Int), 0 ≤ d ∧ d < t ∧ (G.pr wf (k + 1)).call "_law_digit" [.cell m, .int t] (tp μ m v) = some (.int d, tp μ m v') :=
  ⟨v.fmod t, v.fdiv t, Int.fmod_nonneg_of_pos _ h1, Int.fmod_lt_of_pos _ h1, by rw [run_digit wf k (tp_at hm v) h1 h2, tp_tp]⟩
def wTab : List D := [.int 1, .int (-1), .int 0, .int 2, .int (-2), .int 3, .int 1, .int 1]
omit hm in
theorem wTab_at (d : Int) (h1 : 0 ≤ d) (h2 : d < 8) (μ : Sto) : ∃ w, ixD (.lst wTab) (.int d) μ = some (.int w) := by
  have : d = 0 ∨ d = 1 ∨ d = 2 ∨ d = 3 ∨ d = 4 ∨ d = 5 ∨ d = 6 ∨ d = 7 := by omega
  rcases this with rfl | rfl | rfl | rfl | rfl | rfl | rfl | rfl <;> exact ⟨_, rfl⟩
def wE : E := .ix (.lst false (.cons (.c (.int 1)) (.cons (.neg (.c (.int 1))) (.cons (.c (.int 0)) (.cons (.c (.int 2)) (.cons (.neg (.c (.int 2))) (.cons (.c (.int 3)) (.cons (.c (.int 1)) (.cons (.c (.int 1)) .nil))))))))) (.call "_law_digit" (.cons (.v 0) (.cons (.c (.int 8)) .nil)))
theorem weights (k : Nat) (v : Int) (t : Nat) (ht : t ≤ 10) : ∃ (ws : List Int) (v' : Int), ws.length = t ∧ (G.pr wf (k + 2)).call "_law_weights" [.cell m, .int (t : Nat)] (tp μ m v) = some (.tup (ws.map D.int), tp μ m v') := by
  have loop : ∀ (xs : List D) (v : Int), ∃ (ws : List Int) (v' : Int), ws.length = xs.length ∧ lcLoop none (lcStep (G.pr wf (k + 1)) [2] (.one (.n 2)) .nil wE [some (.cell m), some (.int (t : Nat)), none]) xs (tp μ m v) = some (ws.map D.int, tp μ m v') := by
    intro xs
    induction xs with
    | nil => exact fun v => ⟨[], v, rfl, rfl⟩
    | cons x xs ih =>
      intro v
      obtain ⟨d, v1, d1, d2, e1⟩ := digit wf hm k v (t := 8) (by omega) (by omega)
      obtain ⟨w, e2⟩ := wTab_at d d1 d2 (tp μ m v1)
      obtain ⟨ws, v2, l, e3⟩ := ih v1
      refine ⟨w :: ws, v2, by simp [l], ?_⟩
      have e4 : ev (G.pr wf (k + 1)) wE [some (.cell m), some (.int (t : Nat)), some x] (tp μ m v) = some (.int w, tp μ m v1) :=
        e_ix (d1 := .lst wTab) (μ1 := tp μ m v) (by kernel_rfl) (e_call (es_2 (e_v rfl) e_c) e1) e2
      have e5 : lcStep (G.pr wf (k + 1)) [2] (.one (.n 2)) .nil wE [some (.cell m), some (.int (t : Nat)), none] x (tp μ m v) = some ([.int w], tp μ m v1) := by
        show (bnd (ev (G.pr wf (k + 1)) wE [some (.cell m), some (.int (t : Nat)), some x] (tp μ m v)) fun y μ => some ([y], μ)) = _
        rw [e4]; rfl
      simp only [lcLoop, e5, bnd_some, watch, if_true, e3, List.map_cons]
      rfl
  obtain ⟨ws, v', l, e⟩ := loop ((List.range ((t : Int) - 0).toNat).map fun (k : Nat) => D.int (0 + (k : Int))) v
  have l : ws.length = t := by simpa using l
  refine ⟨ws, v', l, ?_⟩
  rw [call_s wf (k + 1) "_law_weights" (d := d__law_weights) rfl]
  have hi : evI (G.pr wf (k + 1)) (.rng (.c (.int 0)) (.v 1)) [some (.cell m), some (.int (t : Nat)), none] (tp μ m v) = some (((List.range ((t : Int) - 0).toNat).map fun (k : Nat) => D.int (0 + (k : Int)), none), tp μ m v) := by
    exact i_rng e_c (e_v rfl) (b62 (by omega) (by omega)) (b62 (by omega) (by omega))
  have hz : (ws.map D.int).length ≤ sizeLine := small (by simp; omega)
  have hc : ev (G.pr wf (k + 1)) (.lc false [2] (.one (.n 2)) (.rng (.c (.int 0)) (.v 1)) .nil wE) [some (.cell m), some (.int (t : Nat)), none] (tp μ m v) = some (.lst (ws.map D.int), tp μ m v') := by
    simp only [ev, hi, bnd_some]
    show bnd (lcLoop none (lcStep (G.pr wf (k + 1)) [2] (.one (.n 2)) .nil wE _) _ _) _ = _
    rw [e]
    simp only [bnd_some, DP.alloc, hz, if_true, Bool.false_eq_true, if_false]
  exact run_retX [some (.cell m), some (.int (t : Nat)), none] rfl rfl rfl (sq_ret (s_ret (e_bi (es_1 hc) (by simp only [biD, listed, Option.map_some]))))
omit hm in
theorem tab5 (xs : List D) (h : xs.length = 5) (d : Int) (h1 : 0 ≤ d) (h2 : d < 5) (μ : Sto) : ∃ w ∈ xs, ixD (.lst xs) (.int d) μ = some w := by
  match xs, h with
  | [a, b, c, e, f], _ =>
    have : d = 0 ∨ d = 1 ∨ d = 2 ∨ d = 3 ∨ d = 4 := by omega
    rcases this with rfl | rfl | rfl | rfl | rfl
    · exact ⟨a, by simp, rfl⟩
    · exact ⟨b, by simp, rfl⟩
    · exact ⟨c, by simp, rfl⟩
    · exact ⟨e, by simp, rfl⟩
    · exact ⟨f, by simp, rfl⟩
theorem atom (k : Nat) (v : Int) (t : Nat) (ht : t ≤ 10) : ∃ (a : At) (v' : Int), a.ws.length = t ∧ (G.pr wf (k + 3)).call "_law_atom" [.cell m, .int (t : Nat)] (tp μ m v) = some (a.e, tp μ m v') := by
  rw [call_s wf (k + 2) "_law_atom" (d := d__law_atom) rfl]
  obtain ⟨d, v1, d1, d2, e1⟩ := digit wf hm (k + 1) v (t := 2) (by omega) (by omega)
  have hc : evT (G.pr wf (k + 2)) (.cmp .eq (.call "_law_digit" (.cons (.v 0) (.cons (.c (.int 2)) .nil))) (.c (.int 0))) [some (.cell m), some (.int (t : Nat)), none] (tp μ m v) = some (d == 0, tp μ m v1) :=
    t_cmp (e_call (es_2 (e_v rfl) e_c) e1) e_c (by kernel_rfl)
  by_cases h0 : d = 0
  · have hd : (d == 0) = true := by simp [h0]
    rw [hd] at hc
    obtain ⟨ws, v2, l, e2⟩ := weights wf hm k v1 t ht
    obtain ⟨d', v3, d3, d4, e3⟩ := digit wf hm (k + 1) v2 (t := 5) (by omega) (by omega)
    obtain ⟨w, hw, e4⟩ := tab5 [.int 1, .int 0, .int 2, .int (-1), .int 3] rfl d' d3 d4 (tp μ m v3)
    obtain ⟨b, rfl⟩ : ∃ b, w = .int b := by simp only [List.mem_cons, List.not_mem_nil, or_false] at hw; rcases hw with h | h | h | h | h <;> exact ⟨_, h⟩
    refine ⟨.least ws b, v3, l, run_retX [some (.cell m), some (.int (t : Nat)), none] rfl rfl rfl (sq_ret (ρ' := [some (.cell m), some (.int (t : Nat)), none]) ?_)⟩
    rw [s_if hc, if_pos rfl]
    refine sq_ret (s_ret (e_tup (ds := [.str "least", .tup (ws.map .int), .int b]) (es_cons e_c (es_2 (e_call (es_2 (e_v rfl) (e_v rfl)) e2) (e_ix (d1 := .lst [.int 1, .int 0, .int 2, .int (-1), .int 3]) (μ1 := tp μ m v2) (by kernel_rfl) (e_call (es_2 (e_v rfl) e_c) e3) e4))) (small (by simp))))
  · obtain ⟨d', v2, d3, d4, e3⟩ := digit wf hm (k + 1) v1 (t := 5) (by omega) (by omega)
    obtain ⟨w, hw, e4⟩ := tab5 [.int 2, .int 3, .int 2, .int 4, .int 5] rfl d' d3 d4 (tp μ m v2)
    obtain ⟨b, hwb, hb⟩ : ∃ b : Nat, w = .int (Int.ofNat (b + 1)) ∧ b < 10 := by
      simp only [List.mem_cons, List.not_mem_nil, or_false] at hw
      rcases hw with h | h | h | h | h
      · exact ⟨1, h, by omega⟩
      · exact ⟨2, h, by omega⟩
      · exact ⟨1, h, by omega⟩
      · exact ⟨3, h, by omega⟩
      · exact ⟨4, h, by omega⟩
    subst hwb
    obtain ⟨ws, v3, l, e5⟩ := weights wf hm k v2 t ht
    obtain ⟨r, v4, d5, d6, e6⟩ := digit wf hm (k + 1) v3 (t := Int.ofNat (b + 1)) (by have e : Int.ofNat (b + 1) = (b : Int) + 1 := rfl; omega) (by have e : Int.ofNat (b + 1) = (b : Int) + 1 := rfl; omega)
    refine ⟨.rest ws b r, v4, l, run_retX [some (.cell m), some (.int (t : Nat)), none] (ρ' := [some (.cell m), some (.int (t : Nat)), some (.int (Int.ofNat (b + 1)))]) rfl rfl rfl (sq (ρ' := [some (.cell m), some (.int (t : Nat)), none]) (μ' := tp μ m v1) ?_ (sq (ρ' := [some (.cell m), some (.int (t : Nat)), some (.int (Int.ofNat (b + 1)))]) (μ' := tp μ m v2) (s_set (e_ix (d1 := .lst [.int 2, .int 3, .int 2, .int 4, .int 5]) (μ1 := tp μ m v1) (by kernel_rfl) (e_call (es_2 (e_v rfl) e_c) e3) e4)) (sq_ret ?_)))⟩
    · have : (d == 0) = false := by simp [h0]
      rw [this] at hc
      rw [s_if hc, if_neg Bool.false_ne_true]
      rfl
    · exact s_ret (e_tup (ds := [.str "rest", .tup (ws.map .int), .int (Int.ofNat (b + 1)), .int r]) (es_cons e_c (es_cons (e_call (es_2 (e_v rfl) (e_v rfl)) e5) (es_2 (e_v rfl) (e_call (es_2 (e_v rfl) (e_v rfl)) e6)))) (small (by simp)))
omit hm in
theorem c_eqI (Γ : Pr) (i j : Int) (μ : Sto) : cmpD Γ .eq (.int i) (.int j) μ = some (i == j, μ) := by kernel_rfl
omit hm in
theorem t_or {Γ : Pr} {a b : E} {ρ : Rho} {μ μ1 : Sto} {x y : Bool} (h1 : evT Γ a ρ μ = some (x, μ1)) (h2 : evT Γ b ρ μ1 = some (y, μ1)) : evT Γ (.or a b) ρ μ = some (x || y, μ1) := by
  cases x with
  | true => simp only [evT, h1, bnd_some, if_true, Bool.true_or]
  | false => simp only [evT, h1, bnd_some, Bool.false_eq_true, if_false, h2, Bool.false_or]
/-- a sentence of at most p parts, at most e deep -/
theorem wide (t : Nat) (ht : t ≤ 10) : ∀ (e k : Nat) (v : Int) (p : Nat), 1 ≤ p → p ≤ 10 → ∃ (s : Sen) (v' : Int), (∀ a ∈ s.ats, a.ws.length = t) ∧ s.dep ≤ e ∧ 1 ≤ s.ats.length ∧ s.ats.length ≤ p ∧
    (G.pr wf (k + e + 4)).call "_law_wide_sentence" [.cell m, .int (t : Nat), .int (p : Nat), .int (e : Nat)] (tp μ m v) = some (s.e, tp μ m v') := by
  intro e
  induction e with
  | zero =>
    intro k v p hp1 hp2
    obtain ⟨d, v1, d1, d2, e1⟩ := digit wf hm (k + 2) v (t := 6) (by omega) (by omega)
    obtain ⟨a, v2, l, e2⟩ := atom wf hm k v1 t ht
    refine ⟨.atom a, v2, by simp [Sen.ats, l], Nat.le_refl _, by simp [Sen.ats], by simp [Sen.ats]; omega, ?_⟩
    rw [call_s wf (k + 0 + 3) "_law_wide_sentence" (d := d__law_wide_sentence) rfl]
    let R : Rho := [some (.cell m), some (.int (t : Nat)), some (.int (p : Nat)), some (.int ((0 : Nat) : Int)), some (.int d), none, none, none]
    have hc : evT (G.pr wf (k + 3)) (.or (.cmp .eq (.v 2) (.c (.int 1))) (.cmp .eq (.v 3) (.c (.int 0)))) R (tp μ m v1) = some (true, tp μ m v1) := by
      have := t_or (Γ := G.pr wf (k + 3)) (ρ := R) (t_cmp (e_v (i := 2) rfl) e_c (c_eqI _ (p : Nat) 1 (tp μ m v1))) (t_cmp (e_v (i := 3) rfl) e_c (c_eqI _ ((0 : Nat) : Int) 0 (tp μ m v1)))
      simpa using this
    refine run_retX [some (.cell m), some (.int (t : Nat)), some (.int (p : Nat)), some (.int ((0 : Nat) : Int)), none, none, none, none] (ρ' := R) rfl rfl rfl (sq (ρ' := R) (μ' := tp μ m v1) (s_set (e_call (es_2 (e_v rfl) e_c) e1)) (sq_ret ?_))
    rw [s_if hc, if_pos rfl]
    exact sq_ret (s_ret (e_call (es_2 (e_v rfl) (e_v rfl)) e2))
  | succ e ih =>
    intro k v p hp1 hp2
    obtain ⟨d, v1, d1, d2, e1⟩ := digit wf hm (k + e + 3) v (t := 6) (by omega) (by omega)
    rw [show k + (e + 1) + 4 = (k + e + 4) + 1 by omega]
    simp only [call_s wf (k + e + 4) "_law_wide_sentence" (d := d__law_wide_sentence) rfl]
    let R : Rho := [some (.cell m), some (.int (t : Nat)), some (.int (p : Nat)), some (.int ((e + 1 : Nat) : Int)), some (.int d), none, none, none]
    have hset : evS (G.pr wf (k + e + 4)) (.set (.one (.n 4)) (.call "_law_digit" (.cons (.v 0) (.cons (.c (.int 6)) .nil)))) [some (.cell m), some (.int (t : Nat)), some (.int (p : Nat)), some (.int ((e + 1 : Nat) : Int)), none, none, none, none] (tp μ m v) = some (.next, R, tp μ m v1) := s_set (e_call (es_2 (e_v rfl) e_c) e1)
    have hc : evT (G.pr wf (k + e + 4)) (.or (.cmp .eq (.v 2) (.c (.int 1))) (.cmp .eq (.v 3) (.c (.int 0)))) R (tp μ m v1) = some (((p : Int) == 1), tp μ m v1) := by
      have := t_or (Γ := G.pr wf (k + e + 4)) (ρ := R) (t_cmp (e_v (i := 2) rfl) e_c (c_eqI _ (p : Nat) 1 (tp μ m v1))) (t_cmp (e_v (i := 3) rfl) e_c (c_eqI _ ((e + 1 : Nat) : Int) 0 (tp μ m v1)))
      have h0 : (((e + 1 : Nat) : Int) == 0) = false := by simp; omega
      rw [h0, Bool.or_false] at this
      exact this
    have hsub : ∀ (R : Rho) (μ1 : Sto), R[3]? = some (some (.int ((e + 1 : Nat) : Int))) → ev (G.pr wf (k + e + 4)) (.bin .sub (.v 3) (.c (.int 1))) R μ1 = some (.int (e : Nat), μ1) := fun R μ1 h => e_bin (e_v h) e_c (by show some (D.int (((e + 1 : Nat) : Int) - 1)) = _; congr 2; omega)
    by_cases hp : p = 1
    · have h1 : ((p : Int) == 1) = true := by simp [hp]
      rw [h1] at hc
      obtain ⟨a, v2, l, e2⟩ := atom wf hm (k + e + 1) v1 t ht
      refine ⟨.atom a, v2, by simp [Sen.ats, l], by simp [Sen.dep], by simp [Sen.ats], by simp [Sen.ats]; omega, ?_⟩
      refine run_retX [some (.cell m), some (.int (t : Nat)), some (.int (p : Nat)), some (.int ((e + 1 : Nat) : Int)), none, none, none, none] (ρ' := R) rfl rfl rfl (sq (ρ' := R) (μ' := tp μ m v1) hset (sq_ret ?_))
      rw [s_if hc, if_pos rfl]
      exact sq_ret (s_ret (e_call (es_2 (e_v rfl) (e_v rfl)) e2))
    · have h1 : ((p : Int) == 1) = false := by simp; omega
      rw [h1] at hc
      have hd : evT (G.pr wf (k + e + 4)) (.cmp .eq (.v 4) (.c (.int 0))) R (tp μ m v1) = some (d == 0, tp μ m v1) := t_cmp (e_v rfl) e_c (c_eqI _ d 0 _)
      by_cases h0 : d = 0
      · have hd1 : (d == 0) = true := by simp [h0]
        rw [hd1] at hd
        obtain ⟨s, v2, g1, g2, g3, g4, e2⟩ := ih k v1 p hp1 hp2
        refine ⟨.not s, v2, g1, by simp only [Sen.dep]; omega, g3, g4, ?_⟩
        refine run_retX [some (.cell m), some (.int (t : Nat)), some (.int (p : Nat)), some (.int ((e + 1 : Nat) : Int)), none, none, none, none] (ρ' := R) rfl rfl rfl (sq (ρ' := R) (μ' := tp μ m v1) hset (sq (ρ' := R) (μ' := tp μ m v1) ?_ (sq_ret ?_)))
        · rw [s_if hc, if_neg Bool.false_ne_true]; rfl
        · rw [s_if hd, if_pos rfl]
          exact sq_ret (s_ret (e_tup (ds := [.str "not", s.e]) (es_2 e_c (e_call (es_cons (e_v rfl) (es_cons (e_v rfl) (es_2 (e_v rfl) (hsub _ _ rfl)))) e2)) (small (by simp))))
      · have hd1 : (d == 0) = false := by simp [h0]
        rw [hd1] at hd
        obtain ⟨d', v2, d3, d4, e3⟩ := digit wf hm (k + e + 3) v1 (t := (p : Int) - 1) (by omega) (by omega)
        obtain ⟨n, hn⟩ : ∃ n : Nat, (n : Int) = 1 + d' := ⟨(1 + d').toNat, by omega⟩
        obtain ⟨x, v3, g1, g2, g3, g4, e4⟩ := ih k v2 n (by omega) (by omega)
        obtain ⟨y, v4, q1, q2, q3, q4, e5⟩ := ih k v3 (p - n) (by omega) (by omega)
        have hpn : ((p - n : Nat) : Int) = (p : Int) - (n : Int) := by omega
        let c : Bool := d.fmod 2 == 0
        have hw : ixD (.lst [.str "and", .str "or"]) (.int (d.fmod 2)) (tp μ m v4) = some (.str (if c then "and" else "or")) := by
          have : d.fmod 2 = 0 ∨ d.fmod 2 = 1 := by
            have := Int.fmod_nonneg_of_pos d (show (0 : Int) < 2 by omega)
            have := Int.fmod_lt_of_pos d (show (0 : Int) < 2 by omega)
            omega
          rcases this with h | h
          · have hc : c = true := by simp [c, h]
            rw [h, hc]; rfl
          · have hc : c = false := by simp [c, h]
            rw [h, hc]; rfl
        refine ⟨.two c x y, v4, ?_, by simp only [Sen.dep]; omega, by simp only [Sen.ats, List.length_append]; omega, by simp only [Sen.ats, List.length_append]; omega, ?_⟩
        · intro a ha
          simp only [Sen.ats, List.mem_append] at ha
          exact ha.elim (g1 a) (q1 a)
        · let R5 : Rho := [some (.cell m), some (.int (t : Nat)), some (.int (p : Nat)), some (.int ((e + 1 : Nat) : Int)), some (.int d), some (.int (n : Int)), none, none]
          let R6 : Rho := [some (.cell m), some (.int (t : Nat)), some (.int (p : Nat)), some (.int ((e + 1 : Nat) : Int)), some (.int d), some (.int (n : Int)), some x.e, none]
          let R7 : Rho := [some (.cell m), some (.int (t : Nat)), some (.int (p : Nat)), some (.int ((e + 1 : Nat) : Int)), some (.int d), some (.int (n : Int)), some x.e, some y.e]
          have s5 : evS (G.pr wf (k + e + 4)) (.set (.one (.n 5)) (.bin .add (.c (.int 1)) (.call "_law_digit" (.cons (.v 0) (.cons (.bin .sub (.v 2) (.c (.int 1))) .nil))))) R (tp μ m v1) = some (.next, R5, tp μ m v2) := by
            have := s_set (i := 5) (e_bin (Γ := G.pr wf (k + e + 4)) (o := .add) (d := .int (n : Int)) (ρ := R) (e_c (d := .int 1)) (e_call (es_2 (e_v (i := 0) rfl) (e_bin (o := .sub) (d := .int ((p : Int) - 1)) (e_v (i := 2) rfl) (e_c (d := .int 1)) rfl)) e3) (by rw [hn]; rfl))
            exact this
          have s6 : evS (G.pr wf (k + e + 4)) (.set (.one (.n 6)) (.call "_law_wide_sentence" (.cons (.v 0) (.cons (.v 1) (.cons (.v 5) (.cons (.bin .sub (.v 3) (.c (.int 1))) .nil)))))) R5 (tp μ m v2) = some (.next, R6, tp μ m v3) :=
            s_set (e_call (es_cons (e_v rfl) (es_cons (e_v rfl) (es_2 (e_v rfl) (hsub _ _ rfl)))) e4)
          have s7 : evS (G.pr wf (k + e + 4)) (.set (.one (.n 7)) (.call "_law_wide_sentence" (.cons (.v 0) (.cons (.v 1) (.cons (.bin .sub (.v 2) (.v 5)) (.cons (.bin .sub (.v 3) (.c (.int 1))) .nil)))))) R6 (tp μ m v3) = some (.next, R7, tp μ m v4) :=
            s_set (e_call (es_cons (e_v rfl) (es_cons (e_v rfl) (es_2 (e_bin (o := .sub) (d1 := .int (p : Int)) (d2 := .int (n : Int)) (e_v rfl) (e_v rfl) (by rw [hpn]; rfl)) (hsub _ _ rfl)))) e5)
          refine run_retX [some (.cell m), some (.int (t : Nat)), some (.int (p : Nat)), some (.int ((e + 1 : Nat) : Int)), none, none, none, none] (ρ' := R7) rfl rfl rfl (sq (ρ' := R) (μ' := tp μ m v1) hset (sq (ρ' := R) (μ' := tp μ m v1) ?_ (sq (ρ' := R) (μ' := tp μ m v1) ?_ (sq s5 (sq s6 (sq s7 (sq_ret (s_ret (e_tup (ds := [.str (if c then "and" else "or"), x.e, y.e]) (es_cons (e_ix (d1 := .lst [.str "and", .str "or"]) (μ1 := tp μ m v4) (by kernel_rfl) (e_bin (o := .mod) (d := .int (d.fmod 2)) (e_v rfl) (e_c (d := .int 2)) rfl) hw) (es_2 (e_v rfl) (e_v rfl))) (small (by simp)))))))))))
          · rw [s_if hc, if_neg Bool.false_ne_true]; rfl
          · rw [s_if hd, if_neg Bool.false_ne_true]; rfl
end

/-! ### throngs -/
theorem att_Throng (wf k : Nat) : (G.pr wf k).att "Throng" = (["sentence", "parts", "folk", "by_gate", "marks"] : List Str) := rfl
def thF (sen parts : D) (nf ng : Nat) (marks : D) : List (Str × D) := [("sentence", sen), ("parts", parts), ("folk", .cell nf), ("by_gate", .cell ng), ("marks", marks)]
/-- a throng in its three cells -/
structure Has (μ : Sto) (n nf ng : Nat) (s : Sen) (folk : List (List Th)) (by_ : List (Key × D)) (marks : D) : Prop where
  ins : μ[n]? = some (.ins "Throng" (thF s.e (.lst (s.ats.map At.part)) nf ng marks))
  folk : μ[nf]? = some (.lst (folk.map fun ts => D.lst (ts.map Th.e)))
  gate : μ[ng]? = some (.dct by_)
section
variable {wf k n nf ng : Nat} {μ : Sto} {s : Sen} {folk : List (List Th)} {by_ : List (Key × D)} {marks : D} {ρ : Rho}
theorem Has.e_folk (h : Has μ n nf ng s folk by_ marks) {o : E} (ho : ev (G.pr wf k) o ρ μ = some (.cell n, μ)) : ev (G.pr wf k) (.fld o "folk") ρ μ = some (.cell nf, μ) := e_fld ho h.ins (by rw [att_Throng]; decide) rfl
theorem Has.e_sen (h : Has μ n nf ng s folk by_ marks) {o : E} (ho : ev (G.pr wf k) o ρ μ = some (.cell n, μ)) : ev (G.pr wf k) (.fld o "sentence") ρ μ = some (s.e, μ) := e_fld ho h.ins (by rw [att_Throng]; decide) rfl
theorem Has.e_parts (h : Has μ n nf ng s folk by_ marks) {o : E} (ho : ev (G.pr wf k) o ρ μ = some (.cell n, μ)) : ev (G.pr wf k) (.fld o "parts") ρ μ = some (.lst (s.ats.map At.part), μ) := e_fld ho h.ins (by rw [att_Throng]; decide) rfl
theorem Has.e_gate (h : Has μ n nf ng s folk by_ marks) {o : E} (ho : ev (G.pr wf k) o ρ μ = some (.cell n, μ)) : ev (G.pr wf k) (.fld o "by_gate") ρ μ = some (.cell ng, μ) := e_fld ho h.ins (by rw [att_Throng]; decide) rfl
theorem Has.len (h : Has μ n nf ng s folk by_ marks) {o : E} (ho : ev (G.pr wf k) o ρ μ = some (.cell n, μ)) : ev (G.pr wf k) (.bi .len false (.cons (.fld o "folk") .nil)) ρ μ = some (.int (folk.length : Nat), μ) :=
  e_bi (es_1 (h.e_folk ho)) (by simp only [biD, items, h.folk, Option.map_some, List.length_map])
theorem run_len (h : Has μ n nf ng s folk by_ marks) : (G.pr wf (k + 1)).meth "Throng" "__len__" [.cell n] μ = some (.int (folk.length : Nat), μ) := by
  rw [meth_s wf k "Throng" "__len__" (d := d_Throngu_lenu) rfl]
  exact run_retX [some (.cell n)] rfl rfl rfl (sq_ret (s_ret (h.len (e_v rfl))))
theorem run_word (h : Has μ n nf ng s folk by_ marks) (ok : Ok μ) (ts : List Th) {b : Bool} {rest : List Bool} (hs : s.say (ts.map Th.y) = some (b, rest)) (hk : s.dep < k) (hl : ts.length ≤ 1000) :
    (G.pr wf (k + 1)).meth "Throng" "word_of_folk" [.cell n, .lst (ts.map Th.e)] μ = some (.str (if b then "yes" else "no"), μ) := by
  rw [meth_s wf k "Throng" "word_of_folk" (d := d_Throng_word_of_folk) rfl]
  let R : Rho := [some (.cell n), some (.lst (ts.map Th.e)), none]
  have h1 : ev (G.pr wf k) (.lc true [2] (.one (.n 2)) (.cons (.v 1) .nil) .nil (.ix (.v 2) (.c (.int 2)))) R μ = some (.cell μ.length, μ ++ [.lst ((ts.map Th.y).map D.bl)]) := by
    have := ev_lcM (Γ := G.pr wf k) (own := [2]) (tg := .one (.n 2)) (it := .cons (.v 1) .nil) (cs := .nil) (elt := .ix (.v 2) (.c (.int 2))) (ρ := R) (μ := μ) (xs := ts.map Th.e) (w := none) (g := fun x => match x with | .tup [_, _, y] => y | x => x) rfl rfl (small (by simp; omega)) fun x hx => by
      obtain ⟨t, _, rfl⟩ := List.mem_map.mp hx
      rfl
    rw [this]
    congr 4
    simp only [List.map_map]
    rfl
  have h2 := run_truth wf s k μ.length (μ ++ [.lst ((ts.map Th.y).map D.bl)]) (ts.map Th.y) b rest hk (at_last μ _) hs
  rw [set_last] at h2
  have h3 : evT (G.pr wf k) (.cons (.call "truth_of" (.cons (.fld (.v 0) "sentence") (.cons (.lc true [2] (.one (.n 2)) (.cons (.v 1) .nil) .nil (.ix (.v 2) (.c (.int 2)))) .nil))) .nil) R μ = some (b, μ ++ [.lst (rest.map D.bl)]) := by
    simp only [evT, e_call (es_2 (h.e_sen (e_v (i := 0) (ρ := R) rfl)) h1) h2, bnd_some]
    rfl
  have h4 : ev (G.pr wf k) (.ife (.cons (.call "truth_of" (.cons (.fld (.v 0) "sentence") (.cons (.lc true [2] (.one (.n 2)) (.cons (.v 1) .nil) .nil (.ix (.v 2) (.c (.int 2)))) .nil))) .nil) (.c (.str "yes")) (.c (.str "no"))) R μ = some (.str (if b then "yes" else "no"), μ ++ [.lst (rest.map D.bl)]) := by
    rw [e_ife h3]
    cases b
    · rw [if_neg Bool.false_ne_true]; exact e_c
    · rw [if_pos rfl]; exact e_c
  have := run_retC (Γ := G.pr wf k) (df := d_Throng_word_of_folk) (as := [.cell n, .lst (ts.map Th.e)]) (μ := μ) (d := .str (if b then "yes" else "no")) (ρ' := R) (μ' := μ ++ [Cel.lst (rest.map D.bl)]) rfl rfl (sq_ret (s_ret h4)) rfl (by rw [List.take_left]; exact ok)
  rw [this, List.take_left]
theorem say_all (bs : List Bool) : ∀ (s : Sen) (bs : List Bool), s.ats.length ≤ bs.length → ∃ b, s.say bs = some (b, bs.drop s.ats.length)
  | .atom a, [], h => by simp [Sen.ats] at h
  | .atom a, b :: bs, _ => ⟨b, rfl⟩
  | .not s, bs, h => by
    obtain ⟨b, e⟩ := say_all bs s bs h
    exact ⟨!b, by simp only [Sen.say, e, Option.map_some, Sen.ats]⟩
  | .two c x y, bs, h => by
    simp only [Sen.ats, List.length_append] at h
    obtain ⟨b1, e1⟩ := say_all bs x bs (by omega)
    obtain ⟨b2, e2⟩ := say_all bs y (bs.drop x.ats.length) (by rw [List.length_drop]; omega)
    exact ⟨_, by simp only [Sen.say, e1, Option.bind_some, e2, Option.map_some, Sen.ats, List.length_append, List.drop_drop]; rfl⟩
def Sen.word (s : Sen) (ts : List Th) : Bool := match s.say (ts.map Th.y) with | some (b, _) => b | none => false
def wordD (b : Bool) : D := .str (if b then "yes" else "no")
/-- everybody has a thing of each part -/
def Fits (s : Sen) (folk : List (List Th)) : Prop := ∀ ts ∈ folk, ts.length = s.ats.length
theorem run_word' (h : Has μ n nf ng s folk by_ marks) (ok : Ok μ) (ts : List Th) (hf : ts.length = s.ats.length) (hk : s.dep < k) (hl : s.ats.length ≤ 1000) :
    (G.pr wf (k + 1)).meth "Throng" "word_of_folk" [.cell n, .lst (ts.map Th.e)] μ = some (wordD (s.word ts), μ) := by
  obtain ⟨b, e⟩ := say_all [] s (ts.map Th.y) (by simp [hf])
  have : s.word ts = b := by simp only [Sen.word, e]
  rw [this]
  exact run_word h ok ts e hk (by omega)
theorem recv_T (h : Has μ n nf ng s folk by_ marks) {m : Str} (hm : (thF s.e (.lst (s.ats.map At.part)) nf ng marks).lookup m = none) : recv (.cell n) m μ = some ("Throng" : Str) := by simp only [recv, h.ins, hm]
theorem run_words (h : Has μ n nf ng s folk by_ marks) (ok : Ok μ) (hf : Fits s folk) (hk : s.dep < k) (hl : s.ats.length ≤ 1000) (hz : folk.length ≤ 1000) :
    (G.pr wf (k + 2)).meth "Throng" "words" [.cell n] μ = some (.lst (folk.map fun ts => wordD (s.word ts)), μ) := by
  rw [meth_s wf (k + 1) "Throng" "words" (d := d_Throng_words) rfl]
  have hi : evI (G.pr wf (k + 1)) (.cons (.fld (.v 0) "folk") .nil) [some (.cell n), none] μ = some ((folk.map fun ts => D.lst (ts.map Th.e), some (nf, folk.map fun ts => D.lst (ts.map Th.e))), μ) := by
    simp only [evI, h.e_folk (e_v (i := 0) (ρ := [some (.cell n), none]) rfl), bnd_some, h.folk]
  have hc := ev_lc1 (Γ := G.pr wf (k + 1)) (own := [1]) (tg := .one (.n 1)) (cs := .nil) (elt := .meth (.v 0) "word_of_folk" (.cons (.v 1) .nil)) (g := fun x => match x with | .lst ds => (match (G.pr wf (k + 1)).meth "Throng" "word_of_folk" [.cell n, .lst ds] μ with | some (d, _) => d | none => .non) | x => x) hi (by simp [watch, h.folk]) (small (by simp; omega)) fun x hx => by
    obtain ⟨ts, ht, rfl⟩ := List.mem_map.mp hx
    have e1 := run_word' (wf := wf) h ok ts (hf ts ht) hk hl
    have e2 : ev (G.pr wf (k + 1)) (.meth (.v 0) "word_of_folk" (.cons (.v 1) .nil)) [some (.cell n), some (.lst (ts.map Th.e))] μ = some (wordD (s.word ts), μ) := e_meth (e_v rfl) (recv_T h rfl) (es_1 (e_v rfl)) e1
    show (bnd (ev (G.pr wf (k + 1)) (.meth (.v 0) "word_of_folk" (.cons (.v 1) .nil)) [some (.cell n), some (.lst (ts.map Th.e))] μ) fun y μ => some ([y], μ)) = _
    rw [e2]
    simp only [bnd_some, e1]
  refine run_retX [some (.cell n), none] rfl rfl rfl (sq_ret (s_ret (ρ := [some (.cell n), none]) ?_))
  refine hc.trans ?_
  congr 3
  rw [List.map_map]
  apply List.map_congr_left
  intro ts ht
  simp only [Function.comp, run_word' (wf := wf) h ok ts (hf ts ht) hk hl]
theorem run_need (h : Has μ n nf ng s folk by_ marks) (i : Nat) (hi : i < folk.length) : (G.pr wf (k + 1)).meth "Throng" "need_folk" [.cell n, .int (i : Nat)] μ = some (.non, μ) := by
  rw [meth_s wf k "Throng" "need_folk" (d := d_Throng_need_folk) rfl]
  have hc : evT (G.pr wf k) (.not (.chn .le .lt (.c (.int 0)) (.v 1) (.bi .len false (.cons (.fld (.v 0) "folk") .nil)))) [some (.cell n), some (.int (i : Nat))] μ = some (false, μ) := by
    have h1 : decide ((0 : Int) ≤ (i : Int)) = true := by simp
    have h2 : decide ((i : Int) < (folk.length : Int)) = true := by simp; omega
    simp only [evT, e_c, e_v (i := 1) (ρ := [some (.cell n), some (.int (i : Nat))]) (μ := μ) rfl, bnd_some, cmpD, h1, if_true, h.len (e_v (i := 0) (ρ := [some (.cell n), some (.int (i : Nat))]) rfl), h2, Bool.not_true]
  refine run_next (ρ' := [some (.cell n), some (.int (i : Nat))]) rfl rfl (sq (ρ' := [some (.cell n), some (.int (i : Nat))]) (μ' := μ) ?_ rfl)
  show evS (G.pr wf k) (.ife (.not (.chn .le .lt (.c (.int 0)) (.v 1) (.bi .len false (.cons (.fld (.v 0) "folk") .nil)))) (.seq .never .nil) .nil) [some (.cell n), some (.int (i : Nat))] μ = _
  rw [s_if hc, if_neg Bool.false_ne_true]
  rfl
theorem folk_at (h : Has μ n nf ng s folk by_ marks) {i : Nat} {ts : List Th} (hi : folk[i]? = some ts) : ixD (.cell nf) (.int (i : Nat)) μ = some (.lst (ts.map Th.e)) := by
  simp only [ixD, h.folk]
  have e : (folk.map fun ts => D.lst (ts.map Th.e))[i]? = some (.lst (ts.map Th.e)) := by rw [List.getElem?_map, hi]; rfl
  exact atI_nat e
theorem run_says (h : Has μ n nf ng s folk by_ marks) (ok : Ok μ) (hf : Fits s folk) (hk : s.dep < k) (hl : s.ats.length ≤ 1000) {i : Nat} {ts : List Th} (hi : folk[i]? = some ts) :
    (G.pr wf (k + 2)).meth "Throng" "says" [.cell n, .int (i : Nat)] μ = some (wordD (s.word ts), μ) := by
  rw [meth_s wf (k + 1) "Throng" "says" (d := d_Throng_says) rfl]
  have hlt := (List.getElem?_eq_some_iff.mp hi).1
  let R : Rho := [some (.cell n), some (.int (i : Nat))]
  have e1 : ev (G.pr wf (k + 1)) (.meth (.v 0) "need_folk" (.cons (.v 1) .nil)) R μ = some (.non, μ) := e_meth (e_v rfl) (recv_T h rfl) (es_1 (e_v rfl)) (run_need h i hlt)
  have e2 : ev (G.pr wf (k + 1)) (.meth (.v 0) "word_of_folk" (.cons (.ix (.fld (.v 0) "folk") (.v 1)) .nil)) R μ = some (wordD (s.word ts), μ) :=
    e_meth (e_v rfl) (recv_T h rfl) (es_1 (e_ix (h.e_folk (e_v rfl)) (e_v rfl) (folk_at h hi))) (run_word' h ok ts (hf ts (List.mem_of_getElem? hi)) hk hl)
  exact run_retX R rfl rfl rfl (sq (s_ex e1) (sq_ret (s_ret e2)))
end
end P99

/-! k99 in plain Lean, continued: things compared. -/
namespace P99
open PySem PySem.Spec L2 DP LW

def Th.p (t : Th) : PyData := .tuple [.str (if t.l then "leads" else "follows"), .int t.n, .bool t.y]
def eqT (a b : List Th) : Bool := PyData.eqvAll (a.map Th.p) (b.map Th.p)
theorem py_th (t : Th) : t.e.py = some t.p := by
  simp only [Th.e, D.py, D.pys, Option.map_some, Th.p]
theorem pys_ts : ∀ ts : List Th, D.pys (ts.map Th.e) = some (ts.map Th.p)
  | [] => rfl
  | t :: ts => by simp only [List.map_cons, D.pys, py_th t, pys_ts ts]
theorem lay_th (t : Th) : t.p.canLay0 = true := by
  obtain ⟨l, n, y⟩ := t
  cases l <;> kernel_rfl
theorem lay_ts : ∀ ts : List Th, PyData.canLayAll0 (ts.map Th.p) = true
  | [] => rfl
  | t :: ts => by simp only [List.map_cons, PyData.canLayAll0, lay_th t, lay_ts ts, Bool.and_self]
theorem dep_ts : ∀ ts : List Th, PyData.depthAll (ts.map Th.p) ≤ 1
  | [] => by simp [PyData.depthAll]
  | t :: ts => by
    have := dep_ts ts
    simp only [List.map_cons, PyData.depthAll, Th.p, PyData.depth]
    omega
theorem eq_pair (a b c d : List Th) : eqD (.tup [.lst (a.map Th.e), .lst (b.map Th.e)]) (.tup [.lst (c.map Th.e), .lst (d.map Th.e)]) = some (eqT a c && eqT b d) := by
  have py : ∀ a b : List Th, D.py (.tup [.lst (a.map Th.e), .lst (b.map Th.e)]) = some (.tuple [.list (a.map Th.p), .list (b.map Th.p)]) := fun a b => by
    simp only [D.py, D.pys, pys_ts, Option.map_some]
  have sh : ∀ a b : List Th, SeqAt.shaped (.tuple [.list (a.map Th.p), .list (b.map Th.p)]) = true := fun a b => by
    have h1 := dep_ts a
    have h2 := dep_ts b
    have h3 : PyData.depth (.tuple [.list (a.map Th.p), .list (b.map Th.p)]) ≤ 64 := by simp only [PyData.depth, PyData.depthAll]; omega
    have h4 : PyData.canLay0 (.tuple [.list (a.map Th.p), .list (b.map Th.p)]) = true := by simp only [PyData.canLay0, PyData.canLayAll0, lay_ts, Bool.and_self]
    unfold SeqAt.shaped
    rw [h4, decide_eq_true h3]
    rfl
  simp only [eqD, py, sh, Bool.and_self, if_true, PyData.eqv, PyData.eqvAll, Bool.and_true, eqT]
theorem eqv_th (t u : Th) : PyData.eqv t.p u.p = true ↔ t = u := by
  obtain ⟨l, n, y⟩ := t
  obtain ⟨l', n', y'⟩ := u
  have hs : ((if l = true then ("leads" : Str) else "follows") == (if l' = true then ("leads" : Str) else "follows")) = (l == l') := by
    cases l <;> cases l' <;> decide +kernel
  simp only [Th.p, PyData.eqv, PyData.eqvAll, hs, Bool.and_true, Bool.and_eq_true, beq_iff_eq, Th.mk.injEq]
theorem eqT_iff : ∀ a b : List Th, eqT a b = true ↔ a = b
  | [], [] => by simp [eqT, PyData.eqvAll]
  | [], _ :: _ => by simp [eqT, PyData.eqvAll]
  | _ :: _, [] => by simp [eqT, PyData.eqvAll]
  | t :: a, u :: b => by
    have ih := eqT_iff a b
    simp only [eqT] at ih
    simp only [eqT, List.map_cons, PyData.eqvAll, Bool.and_eq_true, eqv_th, ih, List.cons.injEq]

/-! ### a meeting -/
/-- the two rows behind a meeting -/
def metAll : List At → List Th → List Th → List (Th × Th)
  | a :: as, t :: ts, u :: us => a.met t u :: metAll as ts us
  | _, _, _ => []
theorem metAll_len : ∀ (as : List At) (ts us : List Th), ts.length = as.length → us.length = as.length → (metAll as ts us).length = as.length
  | [], _, _, _, _ => by simp [metAll]
  | a :: as, t :: ts, u :: us, h1, h2 => by simp [metAll, metAll_len as ts us (by simpa using h1) (by simpa using h2)]
  | a :: as, [], _, h1, _ => by simp at h1
  | a :: as, _ :: _, [], _, h2 => by simp at h2
def trip (a : At) (t u : Th) : D := .tup [a.k, t.e, u.e]
theorem zip_trip : ∀ (as : List At) (ts us : List Th), (((as.map At.k).zip ((ts.map Th.e).zip (us.map Th.e))).map fun p => D.tup [p.1, p.2.1, p.2.2]) = ((as.zip (ts.zip us)).map fun p => trip p.1 p.2.1 p.2.2)
  | [], _, _ => by simp
  | a :: as, [], _ => by simp
  | a :: as, t :: ts, [] => by simp
  | a :: as, t :: ts, u :: us => by simp only [List.map_cons, List.zip_cons_cons, zip_trip as ts us]; rfl
theorem metAll_zip : ∀ (as : List At) (ts us : List Th), metAll as ts us = (as.zip (ts.zip us)).map fun p => p.1.met p.2.1 p.2.2
  | [], _, _ => by simp [metAll]
  | a :: as, [], _ => by simp [metAll]
  | a :: as, t :: ts, [] => by simp [metAll]
  | a :: as, t :: ts, u :: us => by simp only [metAll, List.zip_cons_cons, List.map_cons, metAll_zip as ts us]

theorem i_one {Γ : Pr} {a : E} {ds : List D} {ρ : Rho} {μ μ1 : Sto} (h : ev Γ a ρ μ = some (.lst ds, μ1)) : evI Γ (.cons a .nil) ρ μ = some ((ds, none), μ1) := by simp only [evI, h, bnd_some]
section
variable {wf k n nf ng : Nat} {μ : Sto} {s : Sen} {folk : List (List Th)} {by_ : List (Key × D)} {marks : D} {i j : Nat} {bf : D}
/-- the kinds of the parts -/
theorem ch_kinds (h : Has μ n nf ng s folk by_ marks) (hl : s.ats.length ≤ 1000) :
    ev (G.pr wf k) (.lc false [5, 6] (.tup [(.n 5), (.n 6)]) (.cons (.fld (.v 0) "parts") .nil) .nil (.v 5)) [some (.cell n), some (.int (i : Nat)), some (.int (j : Nat)), some bf, none, none, none, none, none, none, none] μ = some (.lst (s.ats.map At.k), μ) := by
  have := ev_lc1 (Γ := G.pr wf k) (own := [5, 6]) (tg := .tup [(.n 5), (.n 6)]) (cs := .nil) (elt := .v 5) (g := fun x => match x with | .tup [x, _] => x | x => x) (i_one (h.e_parts (e_v (i := 0) (ρ := [some (.cell n), some (.int (i : Nat)), some (.int (j : Nat)), some bf, none, none, none, none, none, none, none]) rfl))) rfl (small (by simp; omega)) fun x hx => by
    obtain ⟨a, _, rfl⟩ := List.mem_map.mp hx
    rfl
  rw [this]
  simp only [List.map_map]
  rfl
def pairT2 (a b : List Th) : D := .tup [.lst (a.map Th.e), .lst (b.map Th.e)]
/-- the things behind -/
theorem ch_met (a b : List Th) (hl : s.ats.length ≤ 1000) :
    ev (G.pr wf (k + 2)) (.lc false [5, 8, 9] (.tup [(.n 5), (.n 8), (.n 9)]) (.zip3 (.v 4) (.ix (.v 3) (.c (.int 0))) (.ix (.v 3) (.c (.int 1)))) .nil (.meth (.v 5) "met" (.cons (.v 8) (.cons (.v 9) .nil))))
      [some (.cell n), some (.int (i : Nat)), some (.int (j : Nat)), some (pairT2 a b), some (.lst (s.ats.map At.k)), none, none, none, none, none, none] μ = some (.lst ((metAll s.ats a b).map fun p => D.lst [p.1.e, p.2.e]), μ) := by
  have hi : evI (G.pr wf (k + 2)) (.zip3 (.v 4) (.ix (.v 3) (.c (.int 0))) (.ix (.v 3) (.c (.int 1)))) [some (.cell n), some (.int (i : Nat)), some (.int (j : Nat)), some (pairT2 a b), some (.lst (s.ats.map At.k)), none, none, none, none, none, none] μ = some (((s.ats.zip (a.zip b)).map fun p => trip p.1 p.2.1 p.2.2, none), μ) := by
    rw [← zip_trip]
    rfl
  have := ev_lc1 (Γ := G.pr wf (k + 2)) (own := [5, 8, 9]) (tg := .tup [(.n 5), (.n 8), (.n 9)]) (cs := .nil) (elt := .meth (.v 5) "met" (.cons (.v 8) (.cons (.v 9) .nil))) (g := fun x => match x with | .tup [k', t, u] => (match recv k' "met" μ with | some C => (match (G.pr wf (k + 2)).meth C "met" [k', t, u] μ with | some (d, _) => d | none => .non) | none => .non) | x => x) hi rfl (small (by simp; omega)) fun x hx => by
    obtain ⟨⟨c, t, u⟩, _, rfl⟩ := List.mem_map.mp hx
    have hr : recv c.k "met" μ = some c.cls := by cases c <;> rfl
    have e1 := run_met wf k c t u μ
    have e2 : ev (G.pr wf (k + 2)) (.meth (.v 5) "met" (.cons (.v 8) (.cons (.v 9) .nil))) [some (.cell n), some (.int (i : Nat)), some (.int (j : Nat)), some (pairT2 a b), some (.lst (s.ats.map At.k)), some c.k, none, none, some t.e, some u.e, none] μ = some (.lst [(c.met t u).1.e, (c.met t u).2.e], μ) :=
      e_meth (e_v rfl) hr (es_2 (e_v rfl) (e_v rfl)) e1
    show (bnd (ev (G.pr wf (k + 2)) (.meth (.v 5) "met" (.cons (.v 8) (.cons (.v 9) .nil))) [some (.cell n), some (.int (i : Nat)), some (.int (j : Nat)), some (pairT2 a b), some (.lst (s.ats.map At.k)), some c.k, none, none, some t.e, some u.e, none] μ) fun y μ => some ([y], μ)) = _
    rw [e2]
    simp only [bnd_some, trip, hr, e1]
  rw [this, metAll_zip, List.map_map, List.map_map]
  congr 3
  apply List.map_congr_left
  rintro ⟨c, t, u⟩ _
  have hr : recv c.k "met" μ = some c.cls := by cases c <;> rfl
  simp only [Function.comp, trip, hr, run_met wf k c t u μ]
theorem s_setIx {Γ : Pr} {o i e : E} {x y d : D} {ρ : Rho} {μ μ1 μ2 μ3 μ4 : Sto} (he : ev Γ e ρ μ = some (d, μ1)) (ho : ev Γ o ρ μ1 = some (x, μ2)) (hi : ev Γ i ρ μ2 = some (y, μ3)) (h : setIxD x y d μ3 = some μ4) : evS Γ (.setIx o i e) ρ μ = some (.next, ρ, μ4) := by
  simp only [evS, he, bnd_some, ho, hi, h, Option.map_some]
theorem ixN_nat {n i : Nat} (h : i < n) : ixN n (i : Int) = some i := by
  unfold ixN
  rw [if_pos (by omega), if_pos (by omega)]
  simp
/-- one of the two rows of what is behind -/
theorem ch_row (q : Bool) (a b : List Th) (ps : List (Th × Th)) (hl : ps.length ≤ 1000) {ks : D} :
    ev (G.pr wf k) (.lc false [10] (.one (.n 10)) (.cons (.v 7) .nil) .nil (.ix (.v 10) (.c (.int (if q then 1 else 0)))))
      [some (.cell n), some (.int (i : Nat)), some (.int (j : Nat)), some (pairT2 a b), some ks, none, none, some (.lst (ps.map fun p => D.lst [p.1.e, p.2.e])), none, none, none] μ = some (.lst ((ps.map fun p => if q then p.2 else p.1).map Th.e), μ) := by
  have := ev_lc1 (Γ := G.pr wf k) (μ := μ) (own := [10]) (tg := .one (.n 10)) (cs := .nil) (elt := .ix (.v 10) (.c (.int (if q then 1 else 0)))) (g := fun x => match x with | .lst [t, u] => if q then u else t | x => x) (i_one (e_v (i := 7) (ρ := [some (.cell n), some (.int (i : Nat)), some (.int (j : Nat)), some (pairT2 a b), some ks, none, none, some (.lst (ps.map fun p => D.lst [p.1.e, p.2.e])), none, none, none]) rfl)) rfl (small (by simp; omega)) fun x hx => by
    obtain ⟨p, _, rfl⟩ := List.mem_map.mp hx
    cases q <;> rfl
  rw [this, List.map_map, List.map_map]
  congr 3
  apply List.map_congr_left
  intro p _
  cases q <;> rfl
def fD (folk : List (List Th)) : List D := folk.map fun ts => D.lst (ts.map Th.e)
theorem fD_set (folk : List (List Th)) (i : Nat) (ts : List Th) : (fD folk).set i (.lst (ts.map Th.e)) = fD (folk.set i ts) := by simp only [fD, List.map_set]
theorem Has.put (h : Has μ n nf ng s folk by_ marks) (hn : nf ≠ n) (hg : nf ≠ ng) (folk' : List (List Th)) : Has (μ.set nf (.lst (fD folk'))) n nf ng s folk' by_ marks :=
  ⟨by rw [List.getElem?_set_ne hn]; exact h.ins, set_at h.folk, by rw [List.getElem?_set_ne hg]; exact h.gate⟩
theorem set_folk (h : Has μ n nf ng s folk by_ marks) (ts : List Th) (hi : i < folk.length) : setIxD (.cell nf) (.int (i : Nat)) (.lst (ts.map Th.e)) μ = some (μ.set nf (.lst (fD (folk.set i ts)))) := by
  simp only [setIxD, h.folk, List.length_map]
  rw [ixN_nat hi, ← fD_set]
  rfl
def one1 (as : List At) (a b : List Th) : List Th := (metAll as a b).map fun p => p.1
def two2 (as : List At) (a b : List Th) : List Th := (metAll as a b).map fun p => p.2
theorem ch_pair (h : Has μ n nf ng s folk by_ marks) {a b : List Th} (hi : folk[i]? = some a) (hj : folk[j]? = some b) {ρ : Rho} (h0 : ρ[0]? = some (some (.cell n))) (h1 : ρ[1]? = some (some (.int (i : Nat)))) (h2 : ρ[2]? = some (some (.int (j : Nat)))) :
    ev (G.pr wf k) (.tup (.cons (.ix (.fld (.v 0) "folk") (.v 1)) (.cons (.ix (.fld (.v 0) "folk") (.v 2)) .nil))) ρ μ = some (pairT2 a b, μ) :=
  e_tup (es_2 (e_ix (h.e_folk (e_v h0)) (e_v h1) (folk_at h hi)) (e_ix (h.e_folk (e_v h0)) (e_v h2) (folk_at h hj))) (small (by simp))
theorem run_changed (h : Has μ n nf ng s folk by_ marks) (hn : nf ≠ n) (hg : nf ≠ ng) {a b : List Th} (hi : folk[i]? = some a) (hj : folk[j]? = some b) (hij : i ≠ j) (hl : s.ats.length ≤ 1000) (hla : a.length = s.ats.length) (hlb : b.length = s.ats.length) :
    (G.pr wf (k + 3)).meth "Throng" "changed" [.cell n, .int (i : Nat), .int (j : Nat)] μ =
      some (.bl (!(eqT a (one1 s.ats a b) && eqT b (two2 s.ats a b))), μ.set nf (.lst (fD ((folk.set i (one1 s.ats a b)).set j (two2 s.ats a b))))) := by
  rw [meth_s wf (k + 2) "Throng" "changed" (d := d_Throng_changed) rfl]
  have hi' := (List.getElem?_eq_some_iff.mp hi).1
  have hj' := (List.getElem?_eq_some_iff.mp hj).1
  let ps := metAll s.ats a b
  have hps : ps.length ≤ 1000 := by rw [metAll_len _ _ _ hla hlb]; exact hl
  have H1 := h.put hn hg (folk.set i (one1 s.ats a b))
  have H2 := H1.put hn hg ((folk.set i (one1 s.ats a b)).set j (two2 s.ats a b))
  let μ1 := μ.set nf (.lst (fD (folk.set i (one1 s.ats a b))))
  let μ2 := μ1.set nf (.lst (fD ((folk.set i (one1 s.ats a b)).set j (two2 s.ats a b))))
  have hμ : μ2 = μ.set nf (.lst (fD ((folk.set i (one1 s.ats a b)).set j (two2 s.ats a b)))) := List.set_set ..
  have g1 : ((folk.set i (one1 s.ats a b)).set j (two2 s.ats a b))[i]? = some (one1 s.ats a b) := by
    rw [List.getElem?_set_ne (Ne.symm hij), List.getElem?_set_self hi']
  have g2 : ((folk.set i (one1 s.ats a b)).set j (two2 s.ats a b))[j]? = some (two2 s.ats a b) := by
    rw [List.getElem?_set_self (by simpa using hj')]
  let K : D := .lst (s.ats.map At.k)
  let B : D := .lst (ps.map fun p => D.lst [p.1.e, p.2.e])
  let R0 : Rho := [some (.cell n), some (.int (i : Nat)), some (.int (j : Nat)), none, none, none, none, none, none, none, none]
  let R1 : Rho := [some (.cell n), some (.int (i : Nat)), some (.int (j : Nat)), some (pairT2 a b), none, none, none, none, none, none, none]
  let R2 : Rho := [some (.cell n), some (.int (i : Nat)), some (.int (j : Nat)), some (pairT2 a b), some K, none, none, none, none, none, none]
  let R3 : Rho := [some (.cell n), some (.int (i : Nat)), some (.int (j : Nat)), some (pairT2 a b), some K, none, none, some B, none, none, none]
  have hcmp : cmpD (G.pr wf (k + 2)) .ne (pairT2 a b) (pairT2 (one1 s.ats a b) (two2 s.ats a b)) μ2 = some (!(eqT a (one1 s.ats a b) && eqT b (two2 s.ats a b)), μ2) := by
    show (eqA _ _ _ _).map _ = _
    show ((eqD (pairT2 a b) (pairT2 (one1 s.ats a b) (two2 s.ats a b))).map fun b => (b, μ2)).map _ = _
    simp only [pairT2, eq_pair, Option.map_some]
  have t1 : evS (G.pr wf (k + 2)) (.set (.one (.n 3)) (.tup (.cons (.ix (.fld (.v 0) "folk") (.v 1)) (.cons (.ix (.fld (.v 0) "folk") (.v 2)) .nil)))) R0 μ = some (.next, R1, μ) := s_set (ch_pair h hi hj rfl rfl rfl)
  rw [← hμ]
  refine run_retX R0 (ρ' := R3) rfl rfl rfl (sq t1 (sq (ρ' := R2) (μ' := μ) (s_set (ch_kinds h hl)) (sq (ρ' := R3) (μ' := μ) (s_set (ch_met a b hl)) (sq (ρ' := R3) (μ' := μ1) (s_setIx (ch_row false a b ps hps) (h.e_folk (e_v rfl)) (e_v rfl) (set_folk h _ hi')) (sq (ρ' := R3) (μ' := μ2) (s_setIx (ch_row true a b ps hps) (H1.e_folk (e_v rfl)) (e_v rfl) (set_folk H1 _ (by simpa using hj'))) (sq_ret (s_ret (e_cmp (e_v rfl) (ch_pair H2 g1 g2 rfl rfl rfl) hcmp))))))))
theorem run_meet (h : Has μ n nf ng s folk by_ marks) (hn : nf ≠ n) (hg : nf ≠ ng) {a b : List Th} (hi : folk[i]? = some a) (hj : folk[j]? = some b) (hij : i ≠ j) (hl : s.ats.length ≤ 1000) (hla : a.length = s.ats.length) (hlb : b.length = s.ats.length) :
    (G.pr wf (k + 4)).meth "Throng" "meet" [.cell n, .int (i : Nat), .int (j : Nat)] μ = some (.non, μ.set nf (.lst (fD ((folk.set i (one1 s.ats a b)).set j (two2 s.ats a b))))) := by
  rw [meth_s wf (k + 3) "Throng" "meet" (d := d_Throng_meet) rfl]
  have hi' := (List.getElem?_eq_some_iff.mp hi).1
  have hj' := (List.getElem?_eq_some_iff.mp hj).1
  let R : Rho := [some (.cell n), some (.int (i : Nat)), some (.int (j : Nat))]
  have e1 : ev (G.pr wf (k + 3)) (.meth (.v 0) "need_folk" (.cons (.v 1) .nil)) R μ = some (.non, μ) := e_meth (e_v rfl) (recv_T h rfl) (es_1 (e_v rfl)) (run_need h i hi')
  have e2 : ev (G.pr wf (k + 3)) (.meth (.v 0) "need_folk" (.cons (.v 2) .nil)) R μ = some (.non, μ) := e_meth (e_v rfl) (recv_T h rfl) (es_1 (e_v rfl)) (run_need h j hj')
  have hc : evT (G.pr wf (k + 3)) (.cmp .eq (.v 1) (.v 2)) R μ = some (false, μ) := by
    have := t_cmp (Γ := G.pr wf (k + 3)) (ρ := R) (e_v (i := 1) rfl) (e_v (i := 2) rfl) (c_eqI _ (i : Nat) (j : Nat) μ)
    have hf : (((i : Nat) : Int) == ((j : Nat) : Int)) = false := by simp; omega
    rw [hf] at this
    exact this
  have e3 : ev (G.pr wf (k + 3)) (.meth (.v 0) "changed" (.cons (.v 1) (.cons (.v 2) .nil))) R μ = some (.bl (!(eqT a (one1 s.ats a b) && eqT b (two2 s.ats a b))), μ.set nf (.lst (fD ((folk.set i (one1 s.ats a b)).set j (two2 s.ats a b))))) :=
    e_meth (e_v rfl) (recv_T h rfl) (es_2 (e_v rfl) (e_v rfl)) (run_changed h hn hg hi hj hij hl hla hlb)
  refine run_next (ρ' := R) rfl rfl (sq (ρ' := R) (μ' := μ) (s_ex e1) (sq (ρ' := R) (μ' := μ) (s_ex e2) (sq (ρ' := R) (μ' := μ) ?_ (sq (s_ex e3) rfl))))
  rw [s_if hc, if_neg Bool.false_ne_true]
  rfl
end
/-! ### a sequence of meetings -/
def chg (as : List At) (f : List (List Th)) (p : Nat × Nat) : List (List Th) × Bool := match f[p.1]?, f[p.2]? with
  | some a, some b => ((f.set p.1 (one1 as a b)).set p.2 (two2 as a b), !(eqT a (one1 as a b) && eqT b (two2 as a b)))
  | _, _ => (f, false)
def seqF (as : List At) : List (List Th) → List (Nat × Nat) → List (List Th)
  | f, [] => f
  | f, p :: ps => seqF as (chg as f p).1 ps
def seqB (as : List At) : List (List Th) → List (Nat × Nat) → List Bool
  | _, [] => []
  | f, p :: ps => (chg as f p).2 :: seqB as (chg as f p).1 ps
def PairOk (m : Nat) (p : Nat × Nat) : Prop := p.1 < m ∧ p.2 < m ∧ p.1 ≠ p.2
theorem chg_len (as : List At) (f : List (List Th)) (p : Nat × Nat) : (chg as f p).1.length = f.length := by
  unfold chg; split <;> simp
theorem chg_fits {s : Sen} {f : List (List Th)} (h : Fits s f) (p : Nat × Nat) : Fits s (chg s.ats f p).1 := by
  unfold chg
  split
  · rename_i a b ha hb
    have la := h a (List.mem_of_getElem? ha)
    have lb := h b (List.mem_of_getElem? hb)
    intro ts ht
    rcases List.mem_or_eq_of_mem_set ht with ht | rfl
    · rcases List.mem_or_eq_of_mem_set ht with ht | rfl
      · exact h ts ht
      · simp [one1, metAll_len _ _ _ la lb]
    · simp [two2, metAll_len _ _ _ la lb]
  · exact h
theorem set_same {μ : Sto} {n : Nat} {c : Cel} (h : μ[n]? = some c) : μ.set n c = μ := by
  obtain ⟨hl, e⟩ := List.getElem?_eq_some_iff.mp h
  apply List.ext_getElem?
  intro i
  by_cases hi : n = i
  · subst hi; rw [List.getElem?_set_self hl, h]
  · rw [List.getElem?_set_ne hi]
theorem chg_run {wf k n nf ng : Nat} {μ : Sto} {s : Sen} {f : List (List Th)} {by_ : List (Key × D)} {marks : D} (h : Has μ n nf ng s f by_ marks) (hn : nf ≠ n) (hg : nf ≠ ng) (hl : s.ats.length ≤ 1000) (hf : Fits s f) {p : Nat × Nat} (hp : PairOk f.length p) :
    (G.pr wf (k + 3)).meth "Throng" "changed" [.cell n, .int (p.1 : Nat), .int (p.2 : Nat)] μ = some (.bl (chg s.ats f p).2, μ.set nf (.lst (fD (chg s.ats f p).1))) := by
  obtain ⟨h1, h2, h3⟩ := hp
  have e1 : f[p.1]? = some f[p.1] := by simp [h1]
  have e2 : f[p.2]? = some f[p.2] := by simp [h2]
  have := run_changed (wf := wf) (k := k) h hn hg e1 e2 h3 hl (hf _ (List.mem_of_getElem? e1)) (hf _ (List.mem_of_getElem? e2))
  rw [this]
  simp only [chg, e1, e2]
def prD (p : Nat × Nat) : D := .tup [.int (p.1 : Nat), .int (p.2 : Nat)]
def stE : E := .bi .int1 false (.cons (.meth (.v 0) "changed" (.cons (.v 2) (.cons (.v 3) .nil))) .nil)
theorem seq_run {wf k n nf ng : Nat} {s : Sen} {by_ : List (Key × D)} {marks b : D} (hn : nf ≠ n) (hg : nf ≠ ng) (hl : s.ats.length ≤ 1000) : ∀ (ps : List (Nat × Nat)) (f : List (List Th)) (μ : Sto), Has μ n nf ng s f by_ marks → Fits s f → (∀ p ∈ ps, PairOk f.length p) →
    lcLoop none (lcStep (G.pr wf (k + 3)) [2, 3] (.tup [(.n 2), (.n 3)]) .nil stE [some (.cell n), some b, none, none]) (ps.map prD) μ = some ((seqB s.ats f ps).map fun b => D.int (if b then 1 else 0), μ.set nf (.lst (fD (seqF s.ats f ps))))
  | [], f, μ, h, _, _ => by
    have e : μ.set nf (.lst (fD f)) = μ := set_same h.folk
    simp only [List.map_nil, lcLoop, seqB, seqF, e]
  | p :: ps, f, μ, h, hf, hp => by
    have hc := chg_run (wf := wf) (k := k) h hn hg hl hf (hp p (by simp))
    have ih := seq_run (wf := wf) (k := k) (b := b) hn hg hl ps (chg s.ats f p).1 _ (h.put hn hg _) (chg_fits hf p) (fun q hq => by rw [chg_len]; exact hp q (by simp [hq]))
    rw [List.set_set] at ih
    have e1 : ev (G.pr wf (k + 3)) stE [some (.cell n), some b, some (.int (p.1 : Nat)), some (.int (p.2 : Nat))] μ = some (.int (if (chg s.ats f p).2 then 1 else 0), μ.set nf (.lst (fD (chg s.ats f p).1))) :=
      e_bi (es_1 (e_meth (e_v rfl) (recv_T h rfl) (es_2 (e_v rfl) (e_v rfl)) hc)) rfl
    have e2 : lcStep (G.pr wf (k + 3)) [2, 3] (.tup [(.n 2), (.n 3)]) .nil stE [some (.cell n), some b, none, none] (prD p) μ = some ([.int (if (chg s.ats f p).2 then 1 else 0)], μ.set nf (.lst (fD (chg s.ats f p).1))) := by
      show (bnd (ev (G.pr wf (k + 3)) stE [some (.cell n), some b, some (.int (p.1 : Nat)), some (.int (p.2 : Nat))] μ) fun y μ => some ([y], μ)) = _
      rw [e1]; rfl
    simp only [List.map_cons, lcLoop, e2, bnd_some, watch, if_true, ih, seqB, seqF]
    rfl
/-! ### the pairs -/
def prs (m : Nat) : List (Nat × Nat) := (List.range m).flatMap fun a => (List.range (m - (a + 1))).map fun b => (a, a + 1 + b)
def prsB (back : Bool) (m : Nat) : List (Nat × Nat) := if back then (prs m).reverse.map fun p => (p.2, p.1) else prs m
theorem prs_ok {m : Nat} {p : Nat × Nat} (h : p ∈ prs m) : PairOk m p := by
  simp only [prs, List.mem_flatMap, List.mem_map, List.mem_range] at h
  obtain ⟨a, ha, b, hb, rfl⟩ := h
  refine ⟨ha, ?_, ?_⟩ <;> simp only <;> omega
theorem prsB_ok {back : Bool} {m : Nat} {p : Nat × Nat} (h : p ∈ prsB back m) : PairOk m p := by
  unfold prsB at h
  split at h
  · obtain ⟨q, hq, rfl⟩ := List.mem_map.mp h
    obtain ⟨h1, h2, h3⟩ := prs_ok (List.mem_reverse.mp hq)
    exact ⟨h2, h1, Ne.symm h3⟩
  · exact prs_ok h
end P99

/-! k99 in plain Lean, continued: pairs, stretch. -/
namespace P99
open PySem PySem.Spec L2 DP LW

theorem prs_len (m : Nat) : (prs m).length ≤ m * m := by
  unfold prs
  rw [List.length_flatMap]
  have : ∀ l : List Nat, (l.map fun a => ((List.range (m - (a + 1))).map fun b => (a, a + 1 + b)).length).sum ≤ l.length * m := by
    intro l
    induction l with
    | nil => simp
    | cons x l ih => simp only [List.map_cons, List.sum_cons, List.length_map, List.length_range, List.length_cons, Nat.succ_mul] at ih ⊢; omega
  simpa using this (List.range m)
theorem prsB_len (b : Bool) (m : Nat) : (prsB b m).length = (prs m).length := by
  unfold prsB; split <;> simp
theorem small_prs {m : Nat} (hm : m ≤ 100) (b : Bool) : (prsB b m).length ≤ 10000 := by
  rw [prsB_len]
  exact Nat.le_trans (prs_len m) (Nat.le_trans (Nat.mul_le_mul hm hm) (by decide))
def gP (m : Nat) : D → List D
  | .int a => (List.range (m - (a.toNat + 1))).map fun b => prD (a.toNat, a.toNat + 1 + b)
  | _ => []
theorem gP_prs (m : Nat) : ∀ l : List Nat, (l.map fun a => D.int (a : Nat)).flatMap (gP m) = (l.flatMap fun a => (List.range (m - (a + 1))).map fun b => (a, a + 1 + b)).map prD
  | [] => rfl
  | a :: l => by
    simp only [List.map_cons, List.flatMap_cons, List.map_append, gP_prs m l, List.map_map, gP, Int.toNat_natCast]
    rfl
theorem rng0 (m : Nat) : (List.range ((m : Int) - 0).toNat).map (fun (k : Nat) => D.int (0 + (k : Int))) = (List.range m).map fun a => D.int (a : Nat) := by simp
theorem lc2_step {Γ : Pr} {own : List Nat} {tg tg1 : Tg} {cs it1 cs1 elt : E} {ρ ρ1 : Rho} {x : D} {μ : Sto} {ys zs : List D} {w : Wt} (hb : DP.bind Γ tg x (wipeD ρ own) μ = some (ρ1, μ)) (hc : evT Γ cs ρ1 μ = some (true, μ)) (hi : evI Γ it1 ρ1 μ = some ((ys, w), μ))
    (hl : lcLoop w (lcStep Γ tg1.sl tg1 cs1 elt ρ1) ys μ = some (zs, μ)) : lcStep2 Γ own tg cs tg1 it1 cs1 elt ρ x μ = some (zs, μ) := by
  simp only [lcStep2, hb, Option.bind_some, hc, bnd_some, if_true, hi]
  exact hl
theorem lc_step {Γ : Pr} {own : List Nat} {tg : Tg} {elt : E} {ρ ρ1 : Rho} {x y : D} {μ μ1 : Sto} (hb : DP.bind Γ tg x (wipeD ρ own) μ = some (ρ1, μ)) (he : ev Γ elt ρ1 μ = some (y, μ1)) : lcStep Γ own tg .nil elt ρ x μ = some ([y], μ1) := by
  simp only [lcStep, hb, Option.bind_some, evT, bnd_some, if_true, he]
theorem run_pairs0 (wf k : Nat) (m : Nat) (hm : m ≤ 100) (b : D) (μ : Sto) : ev (G.pr wf k) (.lc2 false [3,4] (.one (.n 3)) (.rng (.c (.int 0)) (.v 0)) .nil (.one (.n 4)) (.rng (.bin .add (.v 3) (.c (.int 1))) (.v 0)) .nil (.tup (.cons (.v 3) (.cons (.v 4) .nil)))) [some (.int (m : Nat)), some b, none, none, none] μ = some (.lst ((prs m).map prD), μ) := by
  have hi := i_rng (Γ := G.pr wf k) (ρ := [some (.int (m : Nat)), some b, none, none, none]) (μ := μ) (e_c (d := .int 0)) (e_v (i := 0) (d := .int (m : Nat)) rfl) (b62 (by omega) (by omega)) (b62 (by omega) (by omega))
  rw [rng0] at hi
  have hg : ((List.range m).map fun a => D.int (a : Nat)).flatMap (gP m) = (prs m).map prD := gP_prs m (List.range m)
  have hz : ((prs m).map prD).length ≤ sizeLine := small (by
    have := small_prs hm false
    rw [List.length_map]
    rw [prsB_len] at this
    omega)
  rw [← hg] at hz ⊢
  refine ev_lc2 hi rfl hz fun x hx => ?_
  obtain ⟨a, ha, rfl⟩ := List.mem_map.mp hx
  have ha := List.mem_range.mp ha
  have hi2 := i_rng (Γ := G.pr wf k) (ρ := [some (.int (m : Nat)), some b, none, some (.int (a : Nat)), none]) (μ := μ) (e_bin (o := .add) (d := .int ((a : Int) + 1)) (e_v (i := 3) rfl) (e_c (d := .int 1)) rfl) (e_v (i := 0) (d := .int (m : Nat)) rfl) (b62 (by omega) (by omega)) (b62 (by omega) (by omega))
  have hn : ((m : Int) - ((a : Int) + 1)).toNat = m - (a + 1) := by omega
  rw [hn] at hi2
  refine lc2_step rfl rfl hi2 ?_
  have hl := lc_map (w := none) (μ := μ) (f := lcStep (G.pr wf k) (Tg.one (.n 4)).sl (.one (.n 4)) .nil (.tup (.cons (.v 3) (.cons (.v 4) .nil))) [some (.int (m : Nat)), some b, none, some (.int (a : Nat)), none]) (g := fun y => D.tup [.int (a : Nat), y]) rfl ((List.range (m - (a + 1))).map fun (k : Nat) => D.int ((a : Int) + 1 + (k : Int))) fun y _ =>
    lc_step (ρ1 := [some (.int (m : Nat)), some b, none, some (.int (a : Nat)), some y]) rfl (e_tup (es_2 (e_v rfl) (e_v rfl)) (small (by simp)))
  refine hl.trans ?_
  rw [List.map_map]
  simp only [gP, Int.toNat_natCast]
  congr 2
theorem e_rev {Γ : Pr} {a : E} {ρ : Rho} {μ μ1 : Sto} {ds : List D} (h : ev Γ a ρ μ = some (.lst ds, μ1)) (hz : ds.length ≤ sizeLine) : ev Γ (.rev false a) ρ μ = some (.lst ds.reverse, μ1) := by
  simp only [ev, h, bnd_some, listed, Option.bind_some, DP.alloc, List.length_reverse, hz, if_true, Bool.false_eq_true, if_false]
theorem t_bl {Γ : Pr} {a : E} {ρ : Rho} {μ μ1 : Sto} {b : Bool} (h : ev Γ a ρ μ = some (.bl b, μ1)) : evT Γ (.cons a .nil) ρ μ = some (b, μ1) := by
  simp only [evT, h, bnd_some, truth, Option.map_some]
def swD : D → D
  | .tup [x, y] => .tup [y, x]
  | x => x
theorem sw_prs (m : Nat) : (((prs m).map prD).reverse.map swD) = (prsB true m).map prD := by
  simp only [prsB, if_true, List.map_reverse, List.map_map]
  rfl
theorem run_pairs (wf k m : Nat) (hm : m ≤ 100) (b : Bool) (μ : Sto) : (G.pr wf (k + 1)).call "pairs_of_folk" [.int (m : Nat), .bl b] μ = some (.lst ((prsB b m).map prD), μ) := by
  rw [call_s wf k "pairs_of_folk" (d := d_pairs_of_folk) rfl]
  have e1 := run_pairs0 wf k m hm (.bl b) μ
  have hl := small_prs hm false
  rw [prsB_len] at hl
  let R : Rho := [some (.int (m : Nat)), some (.bl b), some (.lst ((prs m).map prD)), none, none]
  refine run_retX [some (.int (m : Nat)), some (.bl b), none, none, none] (ρ' := R) rfl rfl rfl (sq (ρ' := R) (μ' := μ) (s_set e1) (sq_ret (s_ret ?_)))
  rw [e_ife (t_bl (e_v (i := 1) (ρ := R) rfl))]
  cases b with
  | false => rw [if_neg Bool.false_ne_true]; exact e_v rfl
  | true =>
    rw [if_pos rfl, ← sw_prs]
    exact ev_lc1 (w := none) (i_one (e_rev (e_v (i := 2) (ρ := R) rfl) (small (by rw [List.length_map]; omega)))) rfl (small (by rw [List.length_reverse, List.length_map]; omega)) fun x hx => by
      obtain ⟨p, _, rfl⟩ := List.mem_map.mp (List.mem_reverse.mp hx)
      exact lc_step (ρ1 := [some (.int (m : Nat)), some (.bl true), some (.lst ((prs m).map prD)), some (.int (p.1 : Nat)), some (.int (p.2 : Nat))]) rfl (e_tup (es_2 (e_v rfl) (e_v rfl)) (small (by simp)))
/-! ### a stretch -/
def cnt (bs : List Bool) : Int := (bs.map fun b => if b then (1 : Int) else 0).sum
theorem seqB_len (as : List At) : ∀ (ps : List (Nat × Nat)) (f : List (List Th)), (seqB as f ps).length = ps.length
  | [], _ => rfl
  | p :: ps, f => by simp [seqB, seqB_len as ps]
theorem seqF_len (as : List At) : ∀ (ps : List (Nat × Nat)) (f : List (List Th)), (seqF as f ps).length = f.length
  | [], _ => rfl
  | p :: ps, f => by rw [seqF, seqF_len as ps, chg_len]
theorem seqF_fits {s : Sen} : ∀ (ps : List (Nat × Nat)) (f : List (List Th)), Fits s f → Fits s (seqF s.ats f ps)
  | [], _, h => h
  | p :: ps, f, h => seqF_fits ps _ (chg_fits h p)
theorem ev_lcS {Γ : Pr} {own : List Nat} {tg : Tg} {it cs elt : E} {ρ : Rho} {μ μ1 μ2 : Sto} {xs ds : List D} {w : Wt} (hi : evI Γ it ρ μ = some ((xs, w), μ1)) (hl : lcLoop w (lcStep Γ own tg cs elt ρ) xs μ1 = some (ds, μ2)) (hz : ds.length ≤ sizeLine) : ev Γ (.lc false own tg it cs elt) ρ μ = some (.lst ds, μ2) := by
  simp only [ev, hi, bnd_some]
  show bnd (lcLoop w (lcStep Γ own tg cs elt ρ) xs μ1) _ = _
  rw [hl]
  simp only [bnd_some, DP.alloc, hz, if_true, Bool.false_eq_true, if_false]
theorem run_stretch {wf k n nf ng : Nat} {μ : Sto} {s : Sen} {folk : List (List Th)} {by_ : List (Key × D)} {marks : D} (h : Has μ n nf ng s folk by_ marks) (hn : nf ≠ n) (hg : nf ≠ ng) (hl : s.ats.length ≤ 1000) (hf : Fits s folk) (hm : folk.length ≤ 100) (b : Bool) :
    (G.pr wf (k + 4)).meth "Throng" "stretch" [.cell n, .bl b] μ = some (.int (cnt (seqB s.ats folk (prsB b folk.length))), μ.set nf (.lst (fD (seqF s.ats folk (prsB b folk.length))))) := by
  rw [meth_s wf (k + 3) "Throng" "stretch" (d := d_Throng_stretch) rfl]
  let R : Rho := [some (.cell n), some (.bl b), none, none]
  have hp := run_pairs wf (k + 2) folk.length hm b μ
  have hi : evI (G.pr wf (k + 3)) (.cons (.call "pairs_of_folk" (.cons (.bi .len false (.cons (.fld (.v 0) "folk") .nil)) (.cons (.v 1) .nil))) .nil) R μ = some (((prsB b folk.length).map prD, none), μ) :=
    i_one (e_call (es_2 (h.len (e_v (i := 0) (ρ := R) rfl)) (e_v (i := 1) (ρ := R) rfl)) hp)
  have hr := seq_run (wf := wf) (k := k) (b := D.bl b) hn hg hl (prsB b folk.length) folk μ h hf fun p hp => prsB_ok hp
  have hz : ((seqB s.ats folk (prsB b folk.length)).map fun b => D.int (if b then 1 else 0)).length ≤ sizeLine := small (by
    have := small_prs hm b
    rw [List.length_map, seqB_len]; omega)
  have hc := ev_lcS hi hr hz
  have hs : intsD ((seqB s.ats folk (prsB b folk.length)).map fun b => D.int (if b then 1 else 0)) = some ((seqB s.ats folk (prsB b folk.length)).map fun b => if b then (1 : Int) else 0) := by
    rw [← intsD_map, List.map_map]; rfl
  refine run_retX R rfl rfl rfl (sq_ret (s_ret (e_bi (es_1 hc) ?_)))
  simp only [biD, listed, Option.bind_some, hs, Option.map_some]
  rfl
end P99

/-! k99 in plain Lean, continued: throngs made, copied, compared. -/
namespace P99
open PySem PySem.Spec L2 DP LW

/-! ### stores -/
theorem at_mid (μ r : Sto) (c : Cel) : (μ ++ c :: r)[μ.length]? = some c := by
  rw [List.getElem?_append_right (Nat.le_refl _)]; simp
theorem set_mid (μ r : Sto) (c c' : Cel) : (μ ++ c :: r).set μ.length c' = μ ++ c' :: r := by
  rw [List.set_append_right _ _ (Nat.le_refl _)]; simp
mutual
theorem under_mono {n m : Nat} (h : n ≤ m) : ∀ d : D, D.under n d = true → D.under m d = true
  | .cell i, g => by simp only [D.under, decide_eq_true_eq] at g ⊢; omega
  | .tup ds, g => by simp only [D.under] at g ⊢; exact unders_mono h ds g
  | .lst ds, g => by simp only [D.under] at g ⊢; exact unders_mono h ds g
  | .obj C fs, g => by simp only [D.under] at g ⊢; exact underF_mono h fs g
  | .non, _ => rfl | .bl _, _ => rfl | .int _, _ => rfl | .str _, _ => rfl | .scr _, _ => rfl
theorem unders_mono {n m : Nat} (h : n ≤ m) : ∀ ds : List D, D.under.D.unders n ds = true → D.under.D.unders m ds = true
  | [], _ => rfl
  | d :: ds, g => by
    simp only [D.under.D.unders, Bool.and_eq_true] at g ⊢
    exact ⟨under_mono h d g.1, unders_mono h ds g.2⟩
theorem underF_mono {n m : Nat} (h : n ≤ m) : ∀ fs : List (Str × D), D.under.D.underF n fs = true → D.under.D.underF m fs = true
  | [], _ => rfl
  | (f, d) :: fs, g => by
    simp only [D.under.D.underF, Bool.and_eq_true] at g ⊢
    exact ⟨under_mono h d g.1, underF_mono h fs g.2⟩
end
theorem cutOk_mono {n m : Nat} (h : n ≤ m) {c : Cel} (g : cutOk n c = true) : cutOk m c = true := by
  cases c with
  | lst ds => exact unders_mono h ds g
  | ins C fs => exact underF_mono h fs g
  | dead => rfl
  | dct kvs =>
    simp only [cutOk, List.all_eq_true] at g ⊢
    exact fun kv hk => under_mono h _ (g kv hk)
theorem Ok.app {μ r : Sto} (ok : Ok μ) (h : ∀ c ∈ r, cutOk (μ.length + r.length) c = true) : Ok (μ ++ r) := by
  unfold Ok at ok ⊢
  simp only [List.all_eq_true, List.mem_append, List.length_append] at ok ⊢
  rintro c (hc | hc)
  · exact cutOk_mono (by omega) (ok c hc)
  · exact h c hc
theorem Ok.set {μ : Sto} (ok : Ok μ) {n : Nat} {c : Cel} (h : cutOk μ.length c = true) : Ok (μ.set n c) := by
  unfold Ok at ok ⊢
  simp only [List.all_eq_true, List.length_set] at ok ⊢
  intro c' hc
  rcases List.mem_or_eq_of_mem_set hc with hc | rfl
  · exact ok c' hc
  · exact h
theorem under_at (n : Nat) (a : At) : D.under n a.e = true := by
  cases a with
  | least ws b => simp only [At.e, D.under, D.under.D.unders, unders_map n D.int (fun _ => rfl) ws, Bool.and_self]
  | rest ws w r => simp only [At.e, D.under, D.under.D.unders, unders_map n D.int (fun _ => rfl) ws, Bool.and_self]
theorem under_sen (n : Nat) : ∀ s : Sen, D.under n s.e = true
  | .atom a => under_at n a
  | .not s => by simp only [Sen.e, D.under, D.under.D.unders, under_sen n s, Bool.and_self]
  | .two c a b => by simp only [Sen.e, D.under, D.under.D.unders, under_sen n a, under_sen n b, Bool.and_self]
theorem under_part (n : Nat) (a : At) : D.under n a.part = true := by
  show (D.under n a.k && (D.under n a.begins && true)) = true
  rw [under_k]
  show (true && (D.under.D.unders n (a.ws.map fun w => (a.led w).e) && true)) = true
  rw [unders_map n (fun w => (a.led w).e) fun _ => rfl]; rfl
theorem under_parts (n : Nat) (s : Sen) : D.under n (.lst (s.ats.map At.part)) = true := unders_map n At.part (under_part n) s.ats
theorem under_fD (n : Nat) (f : List (List Th)) : cutOk n (.lst (fD f)) = true :=
  unders_map n (fun ts : List Th => D.lst (ts.map Th.e)) (fun ts => unders_map n Th.e (fun _ => rfl) ts) f
/-! ### things compared -/
theorem eqv_self : ∀ s : Sen, ∃ p : PyData, s.e.py = some p ∧ PyData.canLay0 p = true ∧ PyData.depth p ≤ s.dep + 2 ∧ PyData.eqv p p = true
  | .atom a => by
    have hi : ∀ ws : List Int, D.pys (ws.map D.int) = some (ws.map PyData.int) := fun ws => by
      induction ws with
      | nil => rfl
      | cons w ws ih => simp only [List.map_cons, D.pys, D.py, ih]
    have hd : ∀ ws : List Int, PyData.depthAll (ws.map PyData.int) = 0 := fun ws => by
      induction ws with
      | nil => rfl
      | cons w ws ih => simp only [List.map_cons, PyData.depthAll, PyData.depth, ih]; rfl
    have hc : ∀ ws : List Int, PyData.canLayAll0 (ws.map PyData.int) = true := fun ws => by
      induction ws with
      | nil => rfl
      | cons w ws ih => simp only [List.map_cons, PyData.canLayAll0, PyData.canLay0, ih]; rfl
    have he : ∀ ws : List Int, PyData.eqvAll (ws.map PyData.int) (ws.map PyData.int) = true := fun ws => by
      induction ws with
      | nil => rfl
      | cons w ws ih => simp only [List.map_cons, PyData.eqvAll, PyData.eqv, ih, beq_self_eq_true, Bool.and_self]
    cases a with
    | least ws b =>
      refine ⟨.tuple [.str "least", .tuple (ws.map PyData.int), .int b], ?_, ?_, ?_, ?_⟩
      · simp only [Sen.e, At.e, D.py, D.pys, hi, Option.map_some]
      · have : PyData.canLay0 (.str "least") = true := by kernel_rfl
        simp only [PyData.canLay0, PyData.canLayAll0, hc] at this ⊢
        simp only [this, Bool.and_self, Bool.true_and]
      · simp only [PyData.depth, PyData.depthAll, hd, Sen.dep]; omega
      · simp only [PyData.eqv, PyData.eqvAll, he, beq_self_eq_true, Bool.and_self]
    | rest ws w r =>
      refine ⟨.tuple [.str "rest", .tuple (ws.map PyData.int), .int (Int.ofNat (w + 1)), .int r], ?_, ?_, ?_, ?_⟩
      · simp only [Sen.e, At.e, D.py, D.pys, hi, Option.map_some]
      · have : PyData.canLay0 (.str "rest") = true := by kernel_rfl
        simp only [PyData.canLay0, PyData.canLayAll0, hc] at this ⊢
        simp only [this, Bool.and_self, Bool.true_and]
      · simp only [PyData.depth, PyData.depthAll, hd, Sen.dep]; omega
      · simp only [PyData.eqv, PyData.eqvAll, he, beq_self_eq_true, Bool.and_self]
  | .not s => by
    obtain ⟨p, h1, h2, h3, h4⟩ := eqv_self s
    refine ⟨.tuple [.str "not", p], ?_, ?_, ?_, ?_⟩
    · simp only [Sen.e, D.py, D.pys, h1, Option.map_some]
    · have : PyData.canLay0 (.str "not") = true := by kernel_rfl
      simp only [PyData.canLay0, PyData.canLayAll0, h2] at this ⊢
      simp only [this, Bool.and_self, Bool.true_and]
    · simp only [PyData.depth, PyData.depthAll, Sen.dep]; omega
    · simp only [PyData.eqv, PyData.eqvAll, h4, beq_self_eq_true, Bool.and_self]
  | .two c a b => by
    obtain ⟨p, h1, h2, h3, h4⟩ := eqv_self a
    obtain ⟨q, g1, g2, g3, g4⟩ := eqv_self b
    refine ⟨.tuple [.str (if c then "and" else "or"), p, q], ?_, ?_, ?_, ?_⟩
    · simp only [Sen.e, D.py, D.pys, h1, g1, Option.map_some]
    · have : PyData.canLay0 (.str (if c then "and" else "or")) = true := by cases c <;> kernel_rfl
      simp only [PyData.canLay0, PyData.canLayAll0, h2, g2] at this ⊢
      simp only [this, Bool.and_self, Bool.true_and]
    · simp only [PyData.depth, PyData.depthAll, Sen.dep]; omega
    · simp only [PyData.eqv, PyData.eqvAll, h4, g4, beq_self_eq_true, Bool.and_self]
theorem eq_sen (s : Sen) (h : s.dep ≤ 60) : eqD s.e s.e = some true := by
  obtain ⟨p, h1, h2, h3, h4⟩ := eqv_self s
  have h5 : SeqAt.shaped p = true := by
    unfold SeqAt.shaped
    rw [h2, decide_eq_true (show PyData.depth p ≤ 64 by omega)]
    rfl
  simp only [eqD, h1, h5, Bool.and_self, if_true, h4]
def wS (b : Bool) : Str := if b then "yes" else "no"
theorem wS_eq (b c : Bool) : (wS b == wS c) = (b == c) := by cases b <;> cases c <;> decide +kernel
theorem pys_words : ∀ bs : List Bool, D.pys (bs.map wordD) = some (bs.map fun b => PyData.str (wS b))
  | [] => rfl
  | b :: bs => by simp only [List.map_cons, D.pys, wordD, D.py, pys_words bs]; rfl
theorem lay_words : ∀ bs : List Bool, PyData.canLayAll0 (bs.map fun b => PyData.str (wS b)) = true
  | [] => rfl
  | b :: bs => by
    have : PyData.canLay0 (.str (wS b)) = true := by cases b <;> kernel_rfl
    simp only [List.map_cons, PyData.canLayAll0, this, lay_words bs, Bool.and_self]
theorem dep_words : ∀ bs : List Bool, PyData.depthAll (bs.map fun b => PyData.str (wS b)) = 0
  | [] => rfl
  | b :: bs => by simp only [List.map_cons, PyData.depthAll, PyData.depth, dep_words bs]; rfl
theorem eqv_words : ∀ bs cs : List Bool, PyData.eqvAll (bs.map fun b => PyData.str (wS b)) (cs.map fun b => PyData.str (wS b)) = (bs == cs)
  | [], [] => rfl
  | [], _ :: _ => rfl
  | _ :: _, [] => rfl
  | b :: bs, c :: cs => by simp only [List.map_cons, PyData.eqvAll, PyData.eqv, wS_eq, eqv_words bs cs]; rfl
theorem eq_words (bs cs : List Bool) : eqD (.lst (bs.map wordD)) (.lst (cs.map wordD)) = some (bs == cs) := by
  have sh : ∀ bs : List Bool, SeqAt.shaped (.list (bs.map fun b => PyData.str (wS b))) = true := fun bs => by
    have h1 : PyData.canLay0 (.list (bs.map fun b => PyData.str (wS b))) = true := by simp only [PyData.canLay0, lay_words]
    have h2 : PyData.depth (.list (bs.map fun b => PyData.str (wS b))) ≤ 64 := by simp only [PyData.depth, dep_words]; omega
    unfold SeqAt.shaped
    rw [h1, decide_eq_true h2]; rfl
  simp only [eqD, D.py, pys_words, Option.map_some, sh, Bool.and_self, if_true, PyData.eqv, eqv_words]
theorem c_eqW (Γ : Pr) (b c : Bool) (μ : Sto) : cmpD Γ .eq (wordD b) (wordD c) μ = some (b == c, μ) := by cases b <;> cases c <;> kernel_rfl
theorem c_words (Γ : Pr) (bs cs : List Bool) (μ : Sto) : cmpD Γ .ne (.lst (bs.map wordD)) (.lst (cs.map wordD)) μ = some (!(bs == cs), μ) := by
  show ((eqD (.lst (bs.map wordD)) (.lst (cs.map wordD))).map fun b => (b, μ)).map _ = _
  simp only [eq_words, Option.map_some]
theorem c_wordsE (Γ : Pr) (bs cs : List Bool) (μ : Sto) : cmpD Γ .eq (.lst (bs.map wordD)) (.lst (cs.map wordD)) μ = some (bs == cs, μ) := by
  show ((eqD (.lst (bs.map wordD)) (.lst (cs.map wordD))).map fun b => (b, μ)) = _
  simp only [eq_words, Option.map_some]
theorem c_sen (Γ : Pr) (s : Sen) (h : s.dep ≤ 60) (μ : Sto) : cmpD Γ .ne s.e s.e μ = some (false, μ) := by
  have e : eqA Γ s.e s.e μ = (eqD s.e s.e).map fun b => (b, μ) := by cases s <;> first | rfl | (rename_i a; cases a <;> rfl)
  show (eqA Γ s.e s.e μ).map _ = _
  rw [e, eq_sen s h]; rfl
/-! ### what a throng says -/
def wordsL (s : Sen) (folk : List (List Th)) : List Bool := folk.map s.word
section
variable {wf k n nf ng : Nat} {μ : Sto} {s : Sen} {folk : List (List Th)} {by_ : List (Key × D)} {marks : D} {ρ : Rho}
theorem wipe1 (ρ : Rho) (j : Nat) (d : D) : (wipeD ρ [j]).set j (some d) = ρ.set j (some d) := by
  show (ρ.set j none).set j (some d) = _
  rw [List.set_set]
/-- what all say, asked one by one -/
theorem ev_says (h : Has μ n nf ng s folk by_ marks) (ok : Ok μ) (hf : Fits s folk) (hk : s.dep < k) (hl : s.ats.length ≤ 1000) (hm : folk.length ≤ 1000) {t j : Nat} {M : E} (ht : ρ[t]? = some (some (.cell n))) (htj : j ≠ t) (hj : j < ρ.length)
    (hM : ev (G.pr wf (k + 2)) M ρ μ = some (.int (folk.length : Nat), μ)) : ev (G.pr wf (k + 2)) (.lc false [j] (.one (.n j)) (.rng (.c (.int 0)) M) .nil (.meth (.v t) "says" (.cons (.v j) .nil))) ρ μ = some (.lst ((wordsL s folk).map wordD), μ) := by
  have hi := i_rng (Γ := G.pr wf (k + 2)) (ρ := ρ) (μ := μ) (e_c (d := .int 0)) hM (b62 (by omega) (by omega)) (b62 (by omega) (by omega))
  rw [rng0] at hi
  have hc := ev_lc1 (own := [j]) (tg := .one (.n j)) (cs := .nil) (elt := .meth (.v t) "says" (.cons (.v j) .nil)) (g := fun x => match x with | .int i => (match folk[i.toNat]? with | some ts => wordD (s.word ts) | none => .non) | x => x) hi rfl (small (by simp; omega)) fun x hx => by
    obtain ⟨i, hi, rfl⟩ := List.mem_map.mp hx
    have hi := List.mem_range.mp hi
    have e : folk[i]? = some folk[i] := by simp [hi]
    have e1 := run_says (wf := wf) (k := k) h ok hf hk hl e
    refine lc_step (ρ1 := ρ.set j (some (.int (i : Nat)))) ?_ ?_
    · show some ((wipeD ρ [j]).set j (some (.int (i : Nat))), μ) = _
      rw [wipe1]
    · simp only [Int.toNat_natCast, e]
      refine e_meth (e_v (by rw [List.getElem?_set_ne htj]; exact ht)) (recv_T h rfl) (es_1 (e_v (by rw [List.getElem?_set_self hj]))) e1
  refine hc.trans ?_
  congr 3
  rw [List.map_map]
  apply List.ext_getElem?
  intro i
  simp only [List.getElem?_map, wordsL]
  by_cases hi : i < folk.length
  · simp [hi]
  · simp [hi]
def saidW : List Bool → D
  | [] => .non
  | w :: r => if r.all (· == w) then wordD w else .non
theorem bls_map : ∀ bs : List Bool, bls (bs.map D.bl) = some bs
  | [] => rfl
  | b :: bs => by simp only [List.map_cons, bls, bls_map bs, Option.map_some]
theorem e_or {Γ : Pr} {a b : E} {ρ : Rho} {μ μ1 μ2 : Sto} {x y : D} {t : Bool} (h1 : ev Γ a ρ μ = some (x, μ1)) (ht : truth x μ1 = some t) (h2 : t = false → ev Γ b ρ μ1 = some (y, μ2)) : ev Γ (.or a b) ρ μ = if t then some (x, μ1) else some (y, μ2) := by
  cases t with
  | true => simp only [ev, h1, bnd_some, ht, if_true]
  | false => simp only [ev, h1, bnd_some, ht, h2 rfl]; rfl
theorem run_said (h : Has μ n nf ng s folk by_ marks) (ok : Ok μ) (hf : Fits s folk) (hk : s.dep < k) (hl : s.ats.length ≤ 1000) (hm : folk.length ≤ 1000) :
    (G.pr wf (k + 3)).meth "Throng" "said" [.cell n] μ = some (saidW (wordsL s folk), μ) := by
  rw [meth_s wf (k + 2) "Throng" "said" (d := d_Throng_said) rfl]
  have hw : (G.pr wf (k + 2)).meth "Throng" "words" [.cell n] μ = some (.lst ((wordsL s folk).map wordD), μ) := by
    rw [run_words h ok hf hk hl hm, wordsL, List.map_map]; rfl
  have hl1 : (wordsL s folk).length ≤ 1000 := by simp [wordsL]; omega
  generalize wordsL s folk = ws at hw hl1
  let R0 : Rho := [some (.cell n), none, none, none]
  have e1 : ev (G.pr wf (k + 2)) (.meth (.v 0) "words" .nil) R0 μ = some (.lst (ws.map wordD), μ) := e_meth (e_v rfl) (recv_T h rfl) es_nil hw
  cases ws with
  | nil =>
    have e2 := e_or (y := .lst [.non]) (μ2 := μ) (b := .lst false (.cons (.c .non) .nil)) e1 (t := false) rfl fun _ => e_lst (es_1 e_c) (small (by simp))
    rw [if_neg Bool.false_ne_true] at e2
    refine run_retX R0 (ρ' := [some (.cell n), some .non, some (.lst []), none]) rfl rfl rfl (sq (ρ' := [some (.cell n), some .non, some (.lst []), none]) (μ' := μ) (s_setT e2 ?_) (sq_ret (s_ret ?_)))
    · rfl
    · kernel_rfl
  | cons w r =>
    have e2 := e_or (y := .non) (μ2 := μ) (b := .lst false (.cons (.c .non) .nil)) e1 (t := true) rfl fun h => by cases h
    rw [if_pos rfl] at e2
    let R : Rho := [some (.cell n), some (wordD w), some (.lst (r.map wordD)), none]
    have hb : DP.bind (G.pr wf (k + 2)) (.star [(.n 1)] (.n 2) []) (.lst ((w :: r).map wordD)) R0 μ = some (R, μ) := by
      simp only [DP.bind, List.map_cons, Option.bind_some]
      rw [if_pos (by simp at hl1 ⊢; omega)]
      have e : ((List.drop 1 (wordD w :: r.map wordD)).take ((wordD w :: r.map wordD).length - [Leaf.n 1].length - ([] : List Leaf).length)) = r.map wordD := by
        simp
        exact List.take_of_length_le (by rw [List.length_map]; exact Nat.le_refl _)
      have e' : List.drop ((wordD w :: r.map wordD).length - ([] : List Leaf).length) (wordD w :: r.map wordD) = [] := by simp
      show storeAll _ _ (List.take 1 (wordD w :: r.map wordD) ++ [D.lst ((List.drop 1 (wordD w :: r.map wordD)).take ((wordD w :: r.map wordD).length - [Leaf.n 1].length - ([] : List Leaf).length))] ++ List.drop ((wordD w :: r.map wordD).length - ([] : List Leaf).length) (wordD w :: r.map wordD)) _ _ = _
      rw [e, e']
      rfl
    have e3 : ev (G.pr wf (k + 2)) (.lc false [3] (.one (.n 3)) (.cons (.v 2) .nil) .nil (.cmp .eq (.v 3) (.v 1))) R μ = some (.lst ((r.map (· == w)).map D.bl), μ) := by
      have := ev_lc1 (Γ := G.pr wf (k + 2)) (own := [3]) (tg := .one (.n 3)) (cs := .nil) (elt := .cmp .eq (.v 3) (.v 1)) (ρ := R) (μ := μ) (w := none) (xs := r.map wordD) (g := fun x => match cmpD (G.pr wf (k + 2)) .eq x (wordD w) μ with | some (b, _) => .bl b | none => x) (i_one (e_v (i := 2) (ρ := R) rfl)) rfl (small (by simp at hl1 ⊢; omega)) fun x hx => by
        obtain ⟨b, _, rfl⟩ := List.mem_map.mp hx
        have e := c_eqW (G.pr wf (k + 2)) b w μ
        refine lc_step (ρ1 := [some (.cell n), some (wordD w), some (.lst (r.map wordD)), some (wordD b)]) rfl ?_
        simp only [e]
        exact e_cmp (e_v rfl) (e_v rfl) e
      rw [this, List.map_map, List.map_map]
      congr 3
      apply List.map_congr_left
      intro b _
      simp only [Function.comp, c_eqW]
    have e4 : evT (G.pr wf (k + 2)) (.cons (.bi .all false (.cons (.lc false [3] (.one (.n 3)) (.cons (.v 2) .nil) .nil (.cmp .eq (.v 3) (.v 1))) .nil)) .nil) R μ = some (r.all (· == w), μ) :=
      t_bl (e_bi (es_1 e3) (by simp only [biD, listed, Option.bind_some, bls_map, Option.map_some, List.all_map]; rfl))
    refine run_retX R0 (ρ' := R) rfl rfl rfl (sq (ρ' := R) (μ' := μ) (s_setT e2 hb) (sq_ret (s_ret ?_)))
    rw [e_ife e4, saidW]
    split
    · exact e_v rfl
    · exact e_c
end
end P99

/-! k99 in plain Lean, continued: throngs made, copied, compared, come to. -/
namespace P99
open PySem PySem.Spec L2 DP LW

/-! ### who came by the gates -/
def gw : Nat → Str
  | 0 => "a"
  | 1 => "b"
  | _ => "c"
def byD : List Int → List (Key × D)
  | [x] => [(.inr "a", .int x)]
  | [x, y] => [(.inr "a", .int x), (.inr "b", .int y)]
  | [x, y, z] => [(.inr "a", .int x), (.inr "b", .int y), (.inr "c", .int z)]
  | _ => []
theorem three {α : Type} {P : List α → Prop} (h1 : ∀ x, P [x]) (h2 : ∀ x y, P [x, y]) (h3 : ∀ x y z, P [x, y, z]) (cs : List α) (h : 1 ≤ cs.length ∧ cs.length ≤ 3) : P cs := by
  match cs, h with
  | [x], _ => exact h1 x
  | [x, y], _ => exact h2 x y
  | [x, y, z], _ => exact h3 x y z
theorem by_flat (cs : List Int) : ((byD cs).all fun kv => kv.2.flat) = true := by
  unfold byD; split <;> rfl
theorem by_eq (cs : List Int) : eqDict (byD cs) (byD cs) = true := by
  have e : ∀ x : Int, eqF (.int x) (.int x) = true := fun x => by simp [eqF, D.toV, eqV]
  have ha : ∀ (r : List (Key × D)) (x : D), lookK ((.inr "a", x) :: r) (.inr "a") = some x := fun r x => by kernel_rfl
  have hb : ∀ (r : List (Key × D)) (x y : D), lookK ((.inr "a", x) :: (.inr "b", y) :: r) (.inr "b") = some y := fun r x y => by kernel_rfl
  have hc : ∀ (r : List (Key × D)) (x y z : D), lookK ((.inr "a", x) :: (.inr "b", y) :: (.inr "c", z) :: r) (.inr "c") = some z := fun r x y z => by kernel_rfl
  unfold byD eqDict
  split
  · simp [ha, e]
  · simp [ha, hb, e]
  · simp [ha, hb, hc, e]
  · rfl
theorem by_under (n : Nat) (cs : List Int) : cutOk n (.dct (byD cs)) = true := by
  unfold byD; split <;> rfl
theorem by_mem {cs : List Int} {i : Nat} (h1 : i < cs.length) (h2 : cs.length ≤ 3) : ∃ c, cs[i]? = some c ∧ lookK (byD cs) (.inr (gw i)) = some (.int c) := by
  have h0 : 1 ≤ cs.length := by omega
  revert h1
  refine three (P := fun cs => i < cs.length → ∃ c, cs[i]? = some c ∧ lookK (byD cs) (.inr (gw i)) = some (.int c)) ?_ ?_ ?_ cs ⟨h0, h2⟩
  · intro x h; obtain rfl : i = 0 := by simpa using h
    exact ⟨x, rfl, by kernel_rfl⟩
  · intro x y h
    have h : i < 2 := h
    rcases (show i = 0 ∨ i = 1 by omega) with rfl | rfl
    · exact ⟨x, rfl, by kernel_rfl⟩
    · exact ⟨y, rfl, by kernel_rfl⟩
  · intro x y z h
    have h : i < 3 := h
    rcases (show i = 0 ∨ i = 1 ∨ i = 2 by omega) with rfl | rfl | rfl
    · exact ⟨x, rfl, by kernel_rfl⟩
    · exact ⟨y, rfl, by kernel_rfl⟩
    · exact ⟨z, rfl, by kernel_rfl⟩
theorem by_put {cs : List Int} {i : Nat} (h1 : i < cs.length) (h2 : cs.length ≤ 3) (v : Int) : putKD (byD cs) (.inr (gw i)) (.int v) = byD (cs.set i v) := by
  have h0 : 1 ≤ cs.length := by omega
  revert h1
  refine three (P := fun cs => i < cs.length → putKD (byD cs) (.inr (gw i)) (.int v) = byD (cs.set i v)) ?_ ?_ ?_ cs ⟨h0, h2⟩
  · intro x h; obtain rfl : i = 0 := by simpa using h
    kernel_rfl
  · intro x y h
    have h : i < 2 := h
    rcases (show i = 0 ∨ i = 1 by omega) with rfl | rfl <;> kernel_rfl
  · intro x y z h
    have h : i < 3 := h
    rcases (show i = 0 ∨ i = 1 ∨ i = 2 by omega) with rfl | rfl | rfl <;> kernel_rfl
theorem by_index {cs : List Int} {i : Nat} (h1 : i < cs.length) (h2 : cs.length ≤ 3) (μ : Sto) : biD .index false [.lst ((byD cs).map fun kv => dKey kv.1), .str (gw i)] μ = some (.int (i : Nat), μ) := by
  have h0 : 1 ≤ cs.length := by omega
  revert h1
  refine three (P := fun cs => i < cs.length → biD .index false [.lst ((byD cs).map fun kv => dKey kv.1), .str (gw i)] μ = some (.int (i : Nat), μ)) ?_ ?_ ?_ cs ⟨h0, h2⟩
  · intro x h; obtain rfl : i = 0 := by simpa using h
    kernel_rfl
  · intro x y h
    have h : i < 2 := h
    rcases (show i = 0 ∨ i = 1 by omega) with rfl | rfl <;> kernel_rfl
  · intro x y z h
    have h : i < 3 := h
    rcases (show i = 0 ∨ i = 1 ∨ i = 2 by omega) with rfl | rfl | rfl <;> kernel_rfl
theorem by_len (cs : List Int) : (byD cs).length ≤ 3 := by unfold byD; split <;> simp
/-! ### a throng made -/
def insT (fs : List (Str × D)) : Cel := .ins "Throng" fs
theorem first_mem : ∀ s : Sen, s.first ∈ s.ats
  | .atom a => by simp [Sen.first, Sen.ats]
  | .not s => first_mem s
  | .two _ a b => by simp only [Sen.first, Sen.ats, List.mem_append]; exact .inl (first_mem a)
theorem Ok.app1 {μ : Sto} (ok : Ok μ) {c : Cel} (h : cutOk (μ.length + 1) c = true) : Ok (μ ++ [c]) := ok.app (r := [c]) (by simpa using h)
theorem s_fldT {wf k : Nat} {o e : E} {f : Str} {d : D} {ρ : Rho} {r r1 μ0 : Sto} {fs : List (Str × D)} (he : ev (G.pr wf k) e ρ (μ0 ++ insT fs :: r) = some (d, μ0 ++ insT fs :: r1)) (ho : ev (G.pr wf k) o ρ (μ0 ++ insT fs :: r1) = some (.cell μ0.length, μ0 ++ insT fs :: r1))
    (ha : f ∈ (["sentence", "parts", "folk", "by_gate", "marks"] : List Str)) (hl : fs.length < 40) : evS (G.pr wf k) (.fld o f e) ρ (μ0 ++ insT fs :: r) = some (.next, ρ, μ0 ++ insT (storeLeaf.putF' f d fs) :: r1) := by
  have := s_fld (Γ := G.pr wf k) (f := f) (C := "Throng") he ho (at_mid μ0 r1 (insT fs)) (by rw [att_Throng]; exact ha) hl
  rw [this, set_mid]; rfl
theorem ev_gates {wf k t : Nat} (ht : 1 ≤ t ∧ t ≤ 3) {ρ : Rho} {μ : Sto} {a b : D} (hρ : ρ = [some a, some b, none, none]) (hm : ev (G.pr wf k) (.call "many_of" (.cons (.v 1) .nil)) ρ μ = some (.int (t : Nat), μ)) :
    ev (G.pr wf k) (.dc [3] (.one (.n 3)) (.cons (.sl false (.g "GATE_WORDS") .noP (.cons (.call "many_of" (.cons (.v 1) .nil)) .nil)) .nil) .nil (.v 3) (.c (.int 0))) ρ μ = some (.cell μ.length, μ ++ [.dct (byD (List.replicate t 0))]) := by
  have hi : evI (G.pr wf k) (.cons (.sl false (.g "GATE_WORDS") .noP (.cons (.call "many_of" (.cons (.v 1) .nil)) .nil)) .nil) ρ μ = some (((["a", "b", "c"] : List Str).take t |>.map D.str, none), μ) := by
    have e : ev (G.pr wf k) (.sl false (.g "GATE_WORDS") .noP (.cons (.call "many_of" (.cons (.v 1) .nil)) .nil)) ρ μ = some (.tup ((["a", "b", "c"] : List Str).take t |>.map D.str), μ) := by
      have hg : ev (G.pr wf k) (.g "GATE_WORDS") ρ μ = some (.tup [.str "a", .str "b", .str "c"], μ) := by kernel_rfl
      have hp : evP (G.pr wf k) (.cons (.call "many_of" (.cons (.v 1) .nil)) .nil) ρ μ = some (some ((t : Nat) : Int), μ) := by simp only [evP, hm, bnd_some]
      simp only [ev, hg, evP, bnd_some, hp]
      show bnd (bnd (ev (G.pr wf k) (.call "many_of" (.cons (.v 1) .nil)) ρ μ) _) _ = _
      rw [hm]
      rcases (show t = 1 ∨ t = 2 ∨ t = 3 by omega) with rfl | rfl | rfl <;> kernel_rfl
    simp only [evI, e, bnd_some]
  subst hρ
  show bnd (evI (G.pr wf k) (.cons (.sl false (.g "GATE_WORDS") .noP (.cons (.call "many_of" (.cons (.v 1) .nil)) .nil)) .nil) [some a, some b, none, none] μ) _ = _
  rw [hi]
  rcases (show t = 1 ∨ t = 2 ∨ t = 3 by omega) with rfl | rfl | rfl <;> kernel_rfl
/-- a sentence that the law draws -/
structure SenOk (s : Sen) (t : Nat) : Prop where
  ws : ∀ a ∈ s.ats, a.ws.length = t
  t1 : 1 ≤ t
  t3 : t ≤ 3
  dep : s.dep ≤ 3
  at1 : 1 ≤ s.ats.length
  at4 : s.ats.length ≤ 4
def partsD (s : Sen) : D := .lst (s.ats.map At.part)
theorem run_initT {s : Sen} {t : Nat} (h : SenOk s t) (wf k : Nat) (hw : 3 < wf) (μ : Sto) (ok : Ok μ) : (G.pr wf (k + 5)).meth "Throng" "__init__" [.cell μ.length, s.e] (μ ++ [.ins "Throng" []]) =
    some (.non, μ ++ [insT (thF s.e (partsD s) (μ.length + 1) (μ.length + 2) (.lst [])), .lst [], .dct (byD (List.replicate t 0))]) := by
  rw [meth_s wf (k + 4) "Throng" "__init__" (d := d_Throngu_initu) rfl]
  have hd := h.dep
  have h4 := h.at4
  let R : Rho := [some (.cell μ.length), some s.e, none, none]
  have ok1 : Ok (μ ++ [insT [("sentence", s.e)]]) := ok.app1 (by show (D.under _ s.e && true) = true; rw [under_sen]; rfl)
  have ep : ev (G.pr wf (k + 4)) (.lc false [2] (.one (.n 2)) (.cons (.call "atoms_of" (.cons (.v 1) .nil)) .nil) .nil (.call "made_of" (.cons (.v 2) .nil))) R (μ ++ [insT [("sentence", s.e)]]) = some (partsD s, μ ++ [insT [("sentence", s.e)]]) := by
    have ea := run_atoms wf (μ ++ [insT [("sentence", s.e)]]) s (k + 4) (by omega) (by omega)
    have hi : evI (G.pr wf (k + 4)) (.cons (.call "atoms_of" (.cons (.v 1) .nil)) .nil) R (μ ++ [insT [("sentence", s.e)]]) = some ((s.ats.map At.e, none), μ ++ [insT [("sentence", s.e)]]) := i_one (e_call (es_1 (e_v rfl)) ea)
    have := ev_lc1 (own := [2]) (tg := .one (.n 2)) (cs := .nil) (elt := .call "made_of" (.cons (.v 2) .nil)) (g := fun x => match (G.pr wf (k + 4)).call "made_of" [x] (μ ++ [insT [("sentence", s.e)]]) with | some (d, _) => d | none => x) hi rfl (small (by simp; omega)) fun x hx => by
      obtain ⟨a, ha, rfl⟩ := List.mem_map.mp hx
      have e := run_made wf (k + 2) a (μ ++ [insT [("sentence", s.e)]]) (by rw [h.ws a ha]; have := h.t3; omega) ok1
      refine lc_step (ρ1 := [some (.cell μ.length), some s.e, some a.e, none]) rfl ?_
      simp only [e]
      exact e_call (es_1 (e_v rfl)) e
    rw [this, List.map_map, partsD]
    congr 3
    apply List.map_congr_left
    intro a ha
    have e := run_made wf (k + 2) a (μ ++ [insT [("sentence", s.e)]]) (by rw [h.ws a ha]; have := h.t3; omega) ok1
    simp only [Function.comp, e]
  have em : ∀ μ', ev (G.pr wf (k + 4)) (.call "many_of" (.cons (.v 1) .nil)) R μ' = some (.int (t : Nat), μ') := fun μ' => by
    have hf := h.ws _ (first_mem s)
    have := run_many wf (k + 3) μ' s (by omega) (by have := h.t3; omega)
    rw [hf] at this
    exact e_call (es_1 (e_v rfl)) this
  have st1 : evS (G.pr wf (k + 4)) (.fld (.v 0) "sentence" (.v 1)) R (μ ++ [insT []]) = some (.next, R, μ ++ [insT [("sentence", s.e)]]) := s_fldT (fs := []) (e_v rfl) (e_v rfl) (by decide) (by simp)
  have st2 : evS (G.pr wf (k + 4)) (.fld (.v 0) "parts" (.lc false [2] (.one (.n 2)) (.cons (.call "atoms_of" (.cons (.v 1) .nil)) .nil) .nil (.call "made_of" (.cons (.v 2) .nil)))) R (μ ++ [insT [("sentence", s.e)]]) = some (.next, R, μ ++ [insT [("sentence", s.e), ("parts", partsD s)]]) :=
    s_fldT (fs := [("sentence", s.e)]) ep (e_v rfl) (by decide) (by simp)
  have e3 : ev (G.pr wf (k + 4)) (.lst true .nil) R (μ ++ [insT [("sentence", s.e), ("parts", partsD s)]]) = some (.cell (μ.length + 1), μ ++ [insT [("sentence", s.e), ("parts", partsD s)], .lst []]) := by
    have := e_lstM (Γ := G.pr wf (k + 4)) (ρ := R) (es_nil (μ := μ ++ [insT [("sentence", s.e), ("parts", partsD s)]])) (small (by simp))
    rw [this]; simp
  have st3 : evS (G.pr wf (k + 4)) (.fld (.v 0) "folk" (.lst true .nil)) R (μ ++ [insT [("sentence", s.e), ("parts", partsD s)]]) = some (.next, R, μ ++ [insT [("sentence", s.e), ("parts", partsD s), ("folk", .cell (μ.length + 1))], .lst []]) :=
    s_fldT (fs := [("sentence", s.e), ("parts", partsD s)]) (r := []) (r1 := [.lst []]) e3 (e_v rfl) (by decide) (by simp)
  have e4 := ev_gates (wf := wf) (k := k + 4) (t := t) ⟨h.t1, h.t3⟩ (ρ := R) (μ := μ ++ [insT [("sentence", s.e), ("parts", partsD s), ("folk", .cell (μ.length + 1))], .lst []]) rfl (em _)
  have l4 : (μ ++ [insT [("sentence", s.e), ("parts", partsD s), ("folk", .cell (μ.length + 1))], .lst []]).length = μ.length + 2 := by simp
  rw [l4, List.append_assoc] at e4
  have st4 := s_fldT (o := .v 0) (f := "by_gate") (fs := [("sentence", s.e), ("parts", partsD s), ("folk", .cell (μ.length + 1))]) (r := [.lst []]) (r1 := [.lst [], .dct (byD (List.replicate t 0))]) e4 (e_v rfl) (by decide) (by simp)
  have st5 : evS (G.pr wf (k + 4)) (.fld (.v 0) "marks" (.lst false .nil)) R (μ ++ [insT [("sentence", s.e), ("parts", partsD s), ("folk", .cell (μ.length + 1)), ("by_gate", .cell (μ.length + 2))], .lst [], .dct (byD (List.replicate t 0))]) = some (.next, R, μ ++ [insT (thF s.e (partsD s) (μ.length + 1) (μ.length + 2) (.lst [])), .lst [], .dct (byD (List.replicate t 0))]) :=
    s_fldT (fs := [("sentence", s.e), ("parts", partsD s), ("folk", .cell (μ.length + 1)), ("by_gate", .cell (μ.length + 2))]) (r := [.lst [], .dct (byD (List.replicate t 0))]) (r1 := [.lst [], .dct (byD (List.replicate t 0))]) (e_lst es_nil (small (by simp))) (e_v rfl) (by decide) (by simp)
  exact run_next (ρ' := R) rfl rfl (sq st1 (sq st2 (sq st3 (sq st4 (sq st5 rfl)))))
/-- a throng's three cells, one behind the other -/
def thr (n : Nat) (s : Sen) (folk : List (List Th)) (cs : List Int) : Sto := [insT (thF s.e (partsD s) (n + 1) (n + 2) (.lst [])), .lst (fD folk), .dct (byD cs)]
theorem ev_make {s : Sen} {t : Nat} (h : SenOk s t) (wf k : Nat) (hw : 3 < wf) {μ μ1 : Sto} {ρ : Rho} {e : E} (ok : Ok μ1) (he : ev (G.pr wf (k + 5)) e ρ μ = some (s.e, μ1)) : ev (G.pr wf (k + 5)) (.make false "Throng" (.cons e .nil)) ρ μ = some (.cell μ1.length, μ1 ++ thr μ1.length s [] (List.replicate t 0)) := by
  rw [e_make (es_1 he) (run_initT h wf k hw μ1 ok), if_neg Bool.false_ne_true]
  rfl
theorem Has.app {n nf ng : Nat} {μ : Sto} {s : Sen} {folk : List (List Th)} {by_ : List (Key × D)} {marks : D} (h : Has μ n nf ng s folk by_ marks) (r : Sto) : Has (μ ++ r) n nf ng s folk by_ marks := by
  have g : ∀ {i : Nat} {c : Cel}, μ[i]? = some c → (μ ++ r)[i]? = some c := fun {i c} h => by
    rw [List.getElem?_append_left (List.getElem?_eq_some_iff.mp h).1]; exact h
  exact ⟨g h.ins, g h.folk, g h.gate⟩
end P99

/-! k99 in plain Lean, continued: copies, ==, who comes, the law's pairs. -/
namespace P99
open PySem PySem.Spec L2 DP LW

theorem watch_self {μ : Sto} {n : Nat} {ds : List D} (h : μ[n]? = some (.lst ds)) : watch (some (n, ds)) μ = true := by simp [watch, h]
theorem i_folk {wf k n nf ng : Nat} {μ : Sto} {s : Sen} {folk : List (List Th)} {by_ : List (Key × D)} {marks : D} {ρ : Rho} (h : Has μ n nf ng s folk by_ marks) {o : E} (ho : ev (G.pr wf k) o ρ μ = some (.cell n, μ)) : evI (G.pr wf k) (.cons (.fld o "folk") .nil) ρ μ = some ((fD folk, some (nf, fD folk)), μ) := by
  simp only [evI, h.e_folk ho, bnd_some, h.folk]
  rfl
def copyR (L : Nat) (s : Sen) (t : Nat) (folk : List (List Th)) (cs : List Int) : Sto := [insT (thF s.e (partsD s) (L + 3) (L + 4) (.lst [])), .lst [], .dct (byD (List.replicate t 0)), .lst (fD folk), .dct (byD cs)]
theorem run_copy {wf k n nf ng t : Nat} {μ : Sto} {s : Sen} {folk : List (List Th)} {cs : List Int} (h : Has μ n nf ng s folk (byD cs) (.lst [])) (ok : Ok μ) (hs : SenOk s t) (hw : 3 < wf) (hm : folk.length ≤ 1000) (hf : Fits s folk) :
    (G.pr wf (k + 6)).meth "Throng" "copy" [.cell n] μ = some (.cell μ.length, μ ++ copyR μ.length s t folk cs) := by
  rw [meth_s wf (k + 5) "Throng" "copy" (d := d_Throng_copy) rfl]
  have h4 := hs.at4
  let R0 : Rho := [some (.cell n), none, none]
  let R : Rho := [some (.cell n), some (.cell μ.length), none]
  let B0 : Cel := .dct (byD (List.replicate t 0))
  let f0 := thF s.e (partsD s) (μ.length + 1) (μ.length + 2) (.lst [])
  let f1 := thF s.e (partsD s) (μ.length + 3) (μ.length + 2) (.lst [])
  let f2 := thF s.e (partsD s) (μ.length + 3) (μ.length + 4) (.lst [])
  have st1 : evS (G.pr wf (k + 5)) (.set (.one (.n 1)) (.make false "Throng" (.cons (.fld (.v 0) "sentence") .nil))) R0 μ = some (.next, R, μ ++ [insT f0, .lst [], B0]) :=
    s_set (ev_make hs wf k hw ok (h.e_sen (e_v rfl)))
  have h1 := h.app [insT f0, .lst [], B0]
  have e2 : ev (G.pr wf (k + 5)) (.lc true [2] (.one (.n 2)) (.cons (.fld (.v 0) "folk") .nil) .nil (.bi .list1 false (.cons (.v 2) .nil))) R (μ ++ [insT f0, .lst [], B0]) = some (.cell (μ.length + 3), μ ++ [insT f0, .lst [], B0, .lst (fD folk)]) := by
    have := ev_lcM (own := [2]) (tg := .one (.n 2)) (cs := .nil) (elt := .bi .list1 false (.cons (.v 2) .nil)) (g := fun x => x) (i_folk (wf := wf) (k := k + 5) (ρ := R) h1 (o := .v 0) (e_v (i := 0) rfl)) (watch_self h1.folk) (small (by simp [fD]; omega)) fun x hx => by
      obtain ⟨ts, ht, rfl⟩ := List.mem_map.mp hx
      have hz : (ts.map Th.e).length ≤ sizeLine := small (by rw [List.length_map, hf ts ht]; omega)
      refine lc_step (ρ1 := [some (.cell n), some (.cell μ.length), some (.lst (ts.map Th.e))]) rfl (e_bi (es_1 (e_v rfl)) ?_)
      simp only [biD, items, Option.bind_some, DP.alloc, hz, if_true, Bool.false_eq_true, if_false]
    rw [this]
    simp
  have st2 : evS (G.pr wf (k + 5)) (.fld (.v 1) "folk" (.lc true [2] (.one (.n 2)) (.cons (.fld (.v 0) "folk") .nil) .nil (.bi .list1 false (.cons (.v 2) .nil)))) R (μ ++ [insT f0, .lst [], B0]) = some (.next, R, μ ++ [insT f1, .lst [], B0, .lst (fD folk)]) :=
    s_fldT (fs := f0) (r := [.lst [], B0]) (r1 := [.lst [], B0, .lst (fD folk)]) e2 (e_v rfl) (by decide) (by simp [f0, thF])
  have h2 := h.app [insT f1, .lst [], B0, .lst (fD folk)]
  have e3 : ev (G.pr wf (k + 5)) (.bi .dict1 true (.cons (.fld (.v 0) "by_gate") .nil)) R (μ ++ [insT f1, .lst [], B0, .lst (fD folk)]) = some (.cell (μ.length + 4), μ ++ [insT f1, .lst [], B0, .lst (fD folk), .dct (byD cs)]) :=
    e_bi (es_1 (h2.e_gate (e_v rfl))) (by simp only [biD, h2.gate]; simp)
  have st3 : evS (G.pr wf (k + 5)) (.fld (.v 1) "by_gate" (.bi .dict1 true (.cons (.fld (.v 0) "by_gate") .nil))) R (μ ++ [insT f1, .lst [], B0, .lst (fD folk)]) = some (.next, R, μ ++ [insT f2, .lst [], B0, .lst (fD folk), .dct (byD cs)]) :=
    s_fldT (fs := f1) (r := [.lst [], B0, .lst (fD folk)]) (r1 := [.lst [], B0, .lst (fD folk), .dct (byD cs)]) e3 (e_v rfl) (by decide) (by simp [f1, thF])
  have h3 := h.app [insT f2, .lst [], B0, .lst (fD folk), .dct (byD cs)]
  have e4 : ev (G.pr wf (k + 5)) (.bi .list1 false (.cons (.fld (.v 0) "marks") .nil)) R (μ ++ [insT f2, .lst [], B0, .lst (fD folk), .dct (byD cs)]) = some (.lst [], μ ++ [insT f2, .lst [], B0, .lst (fD folk), .dct (byD cs)]) := by
    have hz : ([] : List D).length ≤ sizeLine := small (by simp)
    refine e_bi (es_1 (e_fld (e_v rfl) h3.ins (by rw [att_Throng]; decide) rfl)) ?_
    simp only [biD, items, Option.bind_some, DP.alloc, hz, if_true, Bool.false_eq_true, if_false]
  have st4 : evS (G.pr wf (k + 5)) (.fld (.v 1) "marks" (.bi .list1 false (.cons (.fld (.v 0) "marks") .nil))) R (μ ++ [insT f2, .lst [], B0, .lst (fD folk), .dct (byD cs)]) = some (.next, R, μ ++ [insT f2, .lst [], B0, .lst (fD folk), .dct (byD cs)]) :=
    s_fldT (fs := f2) (r := [.lst [], B0, .lst (fD folk), .dct (byD cs)]) (r1 := [.lst [], B0, .lst (fD folk), .dct (byD cs)]) e4 (e_v rfl) (by decide) (by simp [f2, thF])
  exact run_retX R0 (ρ' := R) rfl rfl rfl (sq st1 (sq st2 (sq st3 (sq st4 (sq_ret (s_ret (e_v rfl)))))))
theorem copy_has {μ : Sto} {s : Sen} {t : Nat} {folk : List (List Th)} {cs : List Int} : Has (μ ++ copyR μ.length s t folk cs) μ.length (μ.length + 3) (μ.length + 4) s folk (byD cs) (.lst []) := by
  refine ⟨at_mid _ _ _, ?_, ?_⟩
  · rw [List.getElem?_append_right (by omega)]
    rw [show μ.length + 3 - μ.length = 3 by omega]; rfl
  · rw [List.getElem?_append_right (by omega)]
    rw [show μ.length + 4 - μ.length = 4 by omega]; rfl
theorem cut_ins {m : Nat} {s : Sen} {nf ng : Nat} (h1 : nf < m) (h2 : ng < m) : cutOk m (insT (thF s.e (partsD s) nf ng (.lst []))) = true := by
  show (D.under m s.e && (D.under m (partsD s) && (decide (nf < m) && (decide (ng < m) && (true && true))))) = true
  rw [under_sen, show D.under m (partsD s) = true from under_parts m s, decide_eq_true h1, decide_eq_true h2]; rfl
theorem copy_ok {μ : Sto} (ok : Ok μ) {s : Sen} {t : Nat} {folk : List (List Th)} {cs : List Int} : Ok (μ ++ copyR μ.length s t folk cs) := by
  refine ok.app fun c hc => ?_
  simp only [copyR, List.mem_cons, List.not_mem_nil, or_false] at hc
  rcases hc with rfl | rfl | rfl | rfl | rfl
  · exact cut_ins (by simp [copyR]) (by simp [copyR])
  · rfl
  · exact by_under _ _
  · exact under_fD _ _
  · exact by_under _ _
/-! ### == -/
theorem e_isi {Γ : Pr} {a : E} {C : Str} {ρ : Rho} {μ μ1 : Sto} {d : D} (h : ev Γ a ρ μ = some (d, μ1)) (hc : cls d μ1 = some C) : ev Γ (.isi a C) ρ μ = some (.bl true, μ1) := by
  simp only [ev, h, bnd_some, hc, Option.map_some, decide_true]
theorem t_not {Γ : Pr} {a : E} {ρ : Rho} {μ μ1 : Sto} {k : Bool} (h : evT Γ a ρ μ = some (k, μ1)) : evT Γ (.not a) ρ μ = some (!k, μ1) := by simp only [evT, h, bnd_some]
section
variable {wf k n nf ng n' nf' ng' : Nat} {μ : Sto} {s : Sen} {folk : List (List Th)} {cs : List Int} {m m' : D} {ρ : Rho}
theorem cls_T {by_ : List (Key × D)} (h : Has μ n nf ng s folk by_ m) : cls (.cell n) μ = some ("Throng" : Str) := by simp only [cls, h.ins]
theorem words_T {by_ : List (Key × D)} (h : Has μ n nf ng s folk by_ m) (ok : Ok μ) (hf : Fits s folk) (hk : s.dep < k) (hl : s.ats.length ≤ 1000) (hm : folk.length ≤ 1000) : (G.pr wf (k + 2)).meth "Throng" "words" [.cell n] μ = some (.lst ((wordsL s folk).map wordD), μ) := by
  rw [run_words h ok hf hk hl hm, wordsL, List.map_map]; rfl
theorem run_eq (h : Has μ n nf ng s folk (byD cs) m) (h' : Has μ n' nf' ng' s folk (byD cs) m') (ok : Ok μ) (hf : Fits s folk) (hk : s.dep < k) (hd : s.dep ≤ 60) (hl : s.ats.length ≤ 1000) (hm : folk.length ≤ 1000) :
    (G.pr wf (k + 3)).meth "Throng" "__eq__" [.cell n, .cell n'] μ = some (.bl true, μ) := by
  rw [meth_s wf (k + 2) "Throng" "__eq__" (d := d_Throngu_equ) rfl]
  let R : Rho := [some (.cell n), some (.cell n')]
  have t1 : evT (G.pr wf (k + 2)) (.not (.cons (.isi (.v 1) "Throng") .nil)) R μ = some (false, μ) := t_not (t_bl (e_isi (e_v rfl) (cls_T h')))
  have t2 : evT (G.pr wf (k + 2)) (.cmp .ne (.fld (.v 0) "sentence") (.fld (.v 1) "sentence")) R μ = some (false, μ) := t_cmp (h.e_sen (e_v rfl)) (h'.e_sen (e_v rfl)) (c_sen _ s hd μ)
  have hg : cmpD (G.pr wf (k + 2)) .ne (.cell ng) (.cell ng') μ = some (false, μ) := by
    have e : eqA (G.pr wf (k + 2)) (.cell ng) (.cell ng') μ = some (true, μ) := by
      simp only [eqA, cls, h.gate, dictOf, h'.gate, by_flat, Bool.and_self, if_true, by_eq]
    simp only [cmpD, e]; rfl
  have t3 : evT (G.pr wf (k + 2)) (.cmp .ne (.fld (.v 0) "by_gate") (.fld (.v 1) "by_gate")) R μ = some (false, μ) := t_cmp (h.e_gate (e_v rfl)) (h'.e_gate (e_v rfl)) hg
  have tt := t_or t1 (t_or t2 t3)
  refine run_retX R (ρ' := R) rfl rfl rfl (sq (ρ' := R) (μ' := μ) ?_ (sq_ret (s_ret ?_)))
  · rw [s_if tt]
    show (if false = true then _ else _) = _
    rw [if_neg Bool.false_ne_true]; rfl
  · have := e_cmp (Γ := G.pr wf (k + 2)) (o := .eq) (ρ := R) (e_meth (e_v (i := 0) rfl) (recv_T h rfl) es_nil (words_T (wf := wf) h ok hf hk hl hm)) (e_meth (e_v (i := 1) rfl) (recv_T h' rfl) es_nil (words_T (wf := wf) h' ok hf hk hl hm)) (c_wordsE _ _ _ μ)
    rw [beq_self_eq_true] at this
    exact this
theorem c_eqT (h : Has μ n nf ng s folk (byD cs) m) (h' : Has μ n' nf' ng' s folk (byD cs) m') (ok : Ok μ) (hf : Fits s folk) (hk : s.dep < k) (hd : s.dep ≤ 60) (hl : s.ats.length ≤ 1000) (hm : folk.length ≤ 1000) :
    cmpD (G.pr wf (k + 3)) .eq (.cell n) (.cell n') μ = some (true, μ) := by
  simp only [cmpD, eqA, cls_T h, cls_T h', if_true, run_eq (wf := wf) h h' ok hf hk hd hl hm, bnd_some]
theorem c_neT (h : Has μ n nf ng s folk (byD cs) m) (h' : Has μ n' nf' ng' s folk (byD cs) m') (ok : Ok μ) (hf : Fits s folk) (hk : s.dep < k) (hd : s.dep ≤ 60) (hl : s.ats.length ≤ 1000) (hm : folk.length ≤ 1000) :
    cmpD (G.pr wf (k + 3)) .ne (.cell n) (.cell n') μ = some (false, μ) := by
  simp only [cmpD, eqA, cls_T h, cls_T h', if_true, run_eq (wf := wf) h h' ok hf hk hd hl hm, bnd_some]
  rfl
end
/-! ### loops -/
theorem forL_inv {sc : Bool} {n : Nat} {w : Wt} {f : D → Rho → Sto → Fr} (P : List D → Rho → Sto → Prop)
    (hf : ∀ x xs ρ μ, P (x :: xs) ρ μ → ∃ ρ1 μ1 ρ2 μ2, f x ρ μ = some (.next, ρ1, μ1) ∧ watch w μ1 = true ∧ (if sc then cut n ρ1 μ1 else some (ρ1, μ1)) = some (ρ2, μ2) ∧ P xs ρ2 μ2) :
    ∀ xs ρ μ, P xs ρ μ → ∃ ρ' μ', forL sc n w f xs ρ μ = some (.next, ρ', μ') ∧ P [] ρ' μ'
  | [], ρ, μ, h => ⟨ρ, μ, rfl, h⟩
  | x :: xs, ρ, μ, h => by
    obtain ⟨ρ1, μ1, ρ2, μ2, e1, e2, e3, h2⟩ := hf x xs ρ μ h
    obtain ⟨ρ', μ', e4, h3⟩ := forL_inv P hf xs ρ2 μ2 h2
    refine ⟨ρ', μ', ?_, h3⟩
    cases sc with
    | true =>
      rw [if_pos rfl] at e3
      simp only [forL, e1, e2, if_true, e3, Option.bind_some, e4]
    | false =>
      rw [if_neg Bool.false_ne_true] at e3
      cases e3
      simp only [forL, e1, e2, if_true, e4, Bool.false_eq_true, if_false]
theorem s_for {Γ : Pr} {sc : Bool} {t : Tg} {it : E} {b : S} {ρ : Rho} {μ μ1 : Sto} {xs : List D} {w : Wt} {r : Fr} (hi : evI Γ it ρ μ = some ((xs, w), μ1)) (hl : forL sc μ1.length w (fun x ρ μ => (DP.bind Γ t x ρ μ).bind fun p => evS Γ b p.1 p.2) xs ρ μ1 = r) : evS Γ (.for_ sc t it b) ρ μ = r := by
  simp only [evS, hi, bnd_some]; exact hl
theorem s_augIx {Γ : Pr} {o i e : E} {op : Op2} {x y old v z : D} {ρ : Rho} {μ μ1 μ2 μ3 μ4 : Sto} (ho : ev Γ o ρ μ = some (x, μ1)) (hi : ev Γ i ρ μ1 = some (y, μ2)) (hx : ixD x y μ2 = some old) (he : ev Γ e ρ μ2 = some (v, μ3)) (ha : augOp op old v = some z) (hs : setIxD x y z μ3 = some μ4) : evS Γ (.augIx o i op e) ρ μ = some (.next, ρ, μ4) := by
  simp only [evS, ho, bnd_some, hi, hx, Option.bind_some, he, ha, hs, Option.map_some]
/-! ### who comes -/
def beg (s : Sen) (i : Nat) : List Th := s.ats.map fun a => a.led (a.ws[i]?.getD 0)
theorem beg_fits (s : Sen) (i : Nat) : (beg s i).length = s.ats.length := by simp [beg]
theorem e_iiC {i j : Int} (hi : -1000000 ≤ i ∧ i ≤ 1000000) (hj : -1000000 ≤ j ∧ j ≤ 1000000) (μ : Sto) : ∃ d, biD .listR false [.int i, .int j] μ = some (d, μ) := by
  have h1 := b62 hi.1 hi.2
  have h2 := b62 hj.1 hj.2
  have h3 : (j - i).toNat ≤ 2 ^ 24 := Nat.le_trans (show (j - i).toNat ≤ 2000000 by omega) (by decide)
  have hz : ((List.range (j - i).toNat).map fun (k : Nat) => D.int (i + (k : Int))).length ≤ sizeLine := by
    rw [List.length_map, List.length_range]
    exact Nat.le_trans h3 (by decide)
  simp only [biD]
  rw [if_pos ⟨h1.1, h1.2, h2.1, h2.2, h3⟩]
  simp only [DP.alloc, hz, if_true, Bool.false_eq_true, if_false]
  exact ⟨_, rfl⟩
theorem bi_app {μ : Sto} {n : Nat} {ds : List D} {x : D} (h : μ[n]? = some (.lst ds)) (hz : ds.length < 1000000) : biD .append false [.cell n, x] μ = some (.non, μ.set n (.lst (ds ++ [x]))) := by
  have hz : ds.length < sizeLine := Nat.lt_of_lt_of_le hz (by decide)
  simp only [biD, h, hz, if_true]
section
variable {wf k n nf ng : Nat} {μ : Sto} {s : Sen} {folk : List (List Th)} {cs : List Int} {marks : D}
theorem Has.gput {by_ by' : List (Key × D)} (h : Has μ n nf ng s folk by_ marks) (hn : ng ≠ n) (hg : ng ≠ nf) : Has (μ.set ng (.dct by')) n nf ng s folk by' marks :=
  ⟨by rw [List.getElem?_set_ne hn]; exact h.ins, by rw [List.getElem?_set_ne hg]; exact h.folk, set_at h.gate⟩
theorem run_come {t : Nat} (h : Has μ n nf ng s folk (byD cs) marks) (hn : nf ≠ n) (hg : nf ≠ ng) (hgn : ng ≠ n) (hs : SenOk s t) (hc : cs.length = t) {i : Nat} (hi : i < t) (many : Nat) (hm : many ≤ 1000) (hfl : folk.length ≤ 1000) :
    ∃ d c, cs[i]? = some c ∧ (G.pr wf (k + 1)).meth "Throng" "come" [.cell n, .str (gw i), .int (many : Nat)] μ =
      some (d, (μ.set nf (.lst (fD (folk ++ List.replicate many (beg s i))))).set ng (.dct (byD (cs.set i (c + many))))) := by
  have h3 := hs.t3
  have h4 := hs.at4
  obtain ⟨c, hc1, hc2⟩ := by_mem (cs := cs) (i := i) (by omega) (by omega)
  rw [meth_s wf k "Throng" "come" (d := d_Throng_come) rfl]
  let Γ := G.pr wf k
  let R0 : Rho := [some (.cell n), some (.str (gw i)), some (.int (many : Nat)), none, none, none, none, none]
  let R1 : Rho := [some (.cell n), some (.str (gw i)), some (.int (many : Nat)), some (.int (i : Nat)), none, none, none, none]
  let R2 : Rho := [some (.cell n), some (.str (gw i)), some (.int (many : Nat)), some (.int (i : Nat)), some (.int (folk.length : Nat)), none, none, none]
  have st1 : evS Γ (.ife (.cmp .nmem (.v 1) (.fld (.v 0) "by_gate")) (.seq .never .nil) .nil) R0 μ = some (.next, R0, μ) := by
    have e : evT Γ (.cmp .nmem (.v 1) (.fld (.v 0) "by_gate")) R0 μ = some (false, μ) := t_cmp (e_v rfl) (h.e_gate (e_v rfl)) (by simp only [cmpD, memD, h.gate, key, Option.map_some, hc2, Option.isSome_some]; rfl)
    rw [s_if e, if_neg Bool.false_ne_true]; rfl
  have hzk : ((byD cs).map fun kv => dKey kv.1).length ≤ sizeLine := small (by rw [List.length_map]; have := by_len cs; omega)
  have st2 : evS Γ (.set (.one (.n 3)) (.mt .index (.bi .listK false (.cons (.fld (.v 0) "by_gate") .nil)) (.cons (.v 1) .nil))) R0 μ = some (.next, R1, μ) := by
    refine s_set (e_mt (d1 := .lst ((byD cs).map fun kv => dKey kv.1)) (μ1 := μ) (e_bi (es_1 (h.e_gate (e_v rfl))) ?_) rfl (es_1 (e_v rfl)) (by_index (cs := cs) (i := i) (by omega) (by omega) μ))
    simp only [biD, h.gate, DP.alloc, hzk, if_true, Bool.false_eq_true, if_false]
  have st3 : evS Γ (.set (.one (.n 4)) (.bi .len false (.cons (.fld (.v 0) "folk") .nil))) R1 μ = some (.next, R2, μ) := s_set (h.len (e_v rfl))
  have hi0 : evI Γ (.rng (.c (.int 0)) (.v 2)) R2 μ = some (((List.range many).map fun a => D.int (a : Nat), none), μ) := by
    have := i_rng (Γ := Γ) (ρ := R2) (μ := μ) (e_c (d := .int 0)) (e_v (i := 2) (d := .int (many : Nat)) rfl) (b62 (by omega) (by omega)) (b62 (by omega) (by omega))
    rw [rng0] at this
    exact this
  let body : S := .seq (.ex (.mt .append (.fld (.v 0) "folk") (.cons (.lc false [6,7] (.tup [(.n 6), (.n 7)]) (.cons (.fld (.v 0) "parts") .nil) .nil (.ix (.v 7) (.v 3))) .nil))) .nil
  let P : List D → Rho → Sto → Prop := fun xs ρ μ' => ∃ x5, ρ = [some (.cell n), some (.str (gw i)), some (.int (many : Nat)), some (.int (i : Nat)), some (.int (folk.length : Nat)), x5, none, none] ∧ xs.length ≤ many ∧ μ' = μ.set nf (.lst (fD (folk ++ List.replicate (many - xs.length) (beg s i))))
  obtain ⟨R3, μ3, e3, x5, rfl, _, rfl⟩ := forL_inv (sc := false) (n := μ.length) (w := none) (f := fun x ρ μ => (DP.bind Γ (.one (.n 5)) x ρ μ).bind fun p => evS Γ body p.1 p.2) P (by
    rintro x xs ρ μ' ⟨x5, rfl, hl, rfl⟩
    simp only [List.length_cons] at hl
    let q := many - (xs.length + 1)
    have H : Has (μ.set nf (.lst (fD (folk ++ List.replicate q (beg s i))))) n nf ng s (folk ++ List.replicate q (beg s i)) (byD cs) marks := h.put hn hg _
    let R4 : Rho := [some (.cell n), some (.str (gw i)), some (.int (many : Nat)), some (.int (i : Nat)), some (.int (folk.length : Nat)), some x, none, none]
    refine ⟨R4, μ.set nf (.lst (fD (folk ++ List.replicate (q + 1) (beg s i)))), R4, _, ?_, rfl, rfl, some x, rfl, by omega, by rw [show many - xs.length = q + 1 by simp only [q]; omega]⟩
    have e1 : ev Γ (.lc false [6,7] (.tup [(.n 6), (.n 7)]) (.cons (.fld (.v 0) "parts") .nil) .nil (.ix (.v 7) (.v 3))) R4 (μ.set nf (.lst (fD (folk ++ List.replicate q (beg s i))))) = some (.lst ((beg s i).map Th.e), μ.set nf (.lst (fD (folk ++ List.replicate q (beg s i))))) := by
      have step : ∀ a ∈ s.ats, ∀ μ', ixD a.begins (.int (i : Nat)) μ' = some (a.led (a.ws[i]?.getD 0)).e := fun a ha μ' => by
        have hw := hs.ws a ha
        have hlt : i < a.ws.length := by omega
        have hix : (a.ws.map fun w => (a.led w).e)[i]? = some (a.led (a.ws[i]?.getD 0)).e := by
          rw [List.getElem?_map, List.getElem?_eq_getElem hlt]; rfl
        exact atI_nat hix
      let g : D → D := fun x => match x with | .tup [_, b] => (match ixD b (.int (i : Nat)) [] with | some d => d | none => .non) | x => x
      have hg : ∀ a ∈ s.ats, g a.part = (a.led (a.ws[i]?.getD 0)).e := fun a ha => by
        simp only [g, At.part, step a ha]
      have hgm : (s.ats.map At.part).map g = (beg s i).map Th.e := by
        rw [List.map_map, beg, List.map_map]
        exact List.map_congr_left fun a ha => hg a ha
      have := ev_lc1 (Γ := Γ) (own := [6, 7]) (tg := .tup [(.n 6), (.n 7)]) (cs := .nil) (elt := .ix (.v 7) (.v 3)) (g := g) (i_one (H.e_parts (e_v (i := 0) (ρ := R4) rfl))) rfl (small (by simp; omega)) fun y hy => by
        obtain ⟨a, ha, rfl⟩ := List.mem_map.mp hy
        rw [hg a ha]
        exact lc_step (ρ1 := [some (.cell n), some (.str (gw i)), some (.int (many : Nat)), some (.int (i : Nat)), some (.int (folk.length : Nat)), some x, some a.k, some a.begins]) rfl (e_ix (e_v rfl) (e_v rfl) (step a ha _))
      rw [hgm] at this
      exact this
    have e2 := bi_app (x := .lst ((beg s i).map Th.e)) H.folk (by simp; omega)
    rw [List.set_set] at e2
    have e3 : (folk ++ List.replicate q (beg s i)).map (fun ts => D.lst (ts.map Th.e)) ++ [D.lst ((beg s i).map Th.e)] = fD (folk ++ List.replicate (q + 1) (beg s i)) := by
      rw [fD, List.replicate_succ', ← List.append_assoc, List.map_append (l₂ := [beg s i])]; rfl
    rw [e3] at e2
    show evS Γ body R4 _ = _
    exact sq (s_ex (e_mt (H.e_folk (e_v rfl)) (listed_at H.folk) (es_1 e1) e2)) rfl) ((List.range many).map fun a => D.int (a : Nat)) R2 μ ⟨none, rfl, by simp, by simp [set_same h.folk, fD]⟩
  simp only [List.length_nil, Nat.sub_zero] at e3
  let R3 : Rho := [some (.cell n), some (.str (gw i)), some (.int (many : Nat)), some (.int (i : Nat)), some (.int (folk.length : Nat)), x5, none, none]
  let μ3 := μ.set nf (.lst (fD (folk ++ List.replicate many (beg s i))))
  have H3 : Has μ3 n nf ng s (folk ++ List.replicate many (beg s i)) (byD cs) marks := h.put hn hg _
  let μ4 := μ3.set ng (.dct (byD (cs.set i (c + many))))
  have st4 : evS Γ (.for_ false (.one (.n 5)) (.rng (.c (.int 0)) (.v 2)) body) R2 μ = some (.next, R3, μ3) := s_for hi0 e3
  have st5 : evS Γ (.augIx (.fld (.v 0) "by_gate") (.v 1) .add (.v 2)) R3 μ3 = some (.next, R3, μ4) := by
    have e1 : ixD (.cell ng) (.str (gw i)) μ3 = some (.int c) := by simp only [ixD, H3.gate, key, Option.bind_some, hc2]
    have e2 : setIxD (.cell ng) (.str (gw i)) (.int (c + many)) μ3 = some μ4 := by
      have hz : (byD cs).length < sizeLine := Nat.lt_of_le_of_lt (by_len cs) (by decide)
      simp only [setIxD, H3.gate, key, Option.bind_some, hz, if_true]
      rw [by_put (cs := cs) (i := i) (by omega) (by omega)]
    exact s_augIx (H3.e_gate (e_v rfl)) (e_v rfl) e1 (e_v rfl) rfl e2
  have H4 : Has μ4 n nf ng s (folk ++ List.replicate many (beg s i)) (byD (cs.set i (c + many))) marks := H3.gput hgn (Ne.symm hg)
  have hl4 : (folk ++ List.replicate many (beg s i)).length ≤ 2000 := by simp; omega
  obtain ⟨d, e6⟩ := e_iiC (i := (folk.length : Nat)) (j := ((folk ++ List.replicate many (beg s i)).length : Nat)) (by omega) (by omega) μ4
  exact ⟨d, c, hc1, run_retX R0 (ρ' := R3) rfl rfl rfl (sq st1 (sq st2 (sq st3 (sq st4 (sq st5 (sq_ret (s_ret (e_bi (es_2 (e_v rfl) (H4.len (e_v rfl))) e6))))))))⟩
end
end P99

/-! k99 in plain Lean, continued: the law's own defs. -/
namespace P99
open PySem PySem.Spec L2 DP LW

theorem forL_cons {n : Nat} {w : Wt} {f : D → Rho → Sto → Fr} {x : D} {xs : List D} {ρ ρ1 : Rho} {μ μ1 : Sto} {r : Fr} (hf : f x ρ μ = some (.next, ρ1, μ1)) (hw : watch w μ1 = true) (hr : forL false n w f xs ρ1 μ1 = r) : forL false n w f (x :: xs) ρ μ = r := by
  simp only [forL, hf, hw, if_true, Bool.false_eq_true, if_false]; exact hr
theorem forB_cons {Γ : Pr} {t : Tg} {b : S} {n : Nat} {w : Wt} {x : D} {xs : List D} {ρ ρ1 ρ2 : Rho} {μ μ1 μ2 : Sto} {r : Fr} (hb : DP.bind Γ t x ρ μ = some (ρ1, μ1)) (he : evS Γ b ρ1 μ1 = some (.next, ρ2, μ2)) (hw : watch w μ2 = true)
    (hr : forL false n w (fun x ρ μ => (DP.bind Γ t x ρ μ).bind fun p => evS Γ b p.1 p.2) xs ρ2 μ2 = r) : forL false n w (fun x ρ μ => (DP.bind Γ t x ρ μ).bind fun p => evS Γ b p.1 p.2) (x :: xs) ρ μ = r := by
  simp only [forL, hb, Option.bind_some, he, hw, if_true, Bool.false_eq_true, if_false]; exact hr
theorem b63 {i : Int} (h1 : 0 ≤ i) (h2 : i ≤ 1000000) : 0 ≤ i ∧ i < 2 ^ 63 := ⟨h1, Int.lt_of_le_of_lt h2 (by decide)⟩
theorem e_lenO {Γ : Pr} {a : E} {C : Str} {d : D} {n : Int} {ρ : Rho} {μ μ1 μ2 : Sto} (h : ev Γ a ρ μ = some (d, μ1)) (hc : cls d μ1 = some C) (hl : Γ.meth C "__len__" [d] μ1 = some (.int n, μ2)) (hn : 0 ≤ n ∧ n < 2 ^ 63) : ev Γ (.lenO a) ρ μ = some (.int n, μ2) := by
  simp only [ev, h, bnd_some, hc, Option.bind_some, hl]
  rw [if_pos hn]
theorem e_frz {Γ : Pr} {a : E} {n : Nat} {ρ : Rho} {μ μ1 : Sto} {ds : List D} (h : ev Γ a ρ μ = some (.cell n, μ1)) (hn : μ1[n]? = some (.lst ds)) : ev Γ (.frz a) ρ μ = some (.lst ds, μ1.set n .dead) := by
  simp only [ev, h, bnd_some, freezeD, hn]
theorem e_revC {Γ : Pr} {a : E} {n : Nat} {ρ : Rho} {μ μ1 : Sto} {ds : List D} (h : ev Γ a ρ μ = some (.cell n, μ1)) (hn : μ1[n]? = some (.lst ds)) (hz : ds.length ≤ sizeLine) : ev Γ (.rev false a) ρ μ = some (.lst ds.reverse, μ1) := by
  simp only [ev, h, bnd_some, listed, hn, Option.bind_some, DP.alloc, List.length_reverse, hz, if_true, Bool.false_eq_true, if_false]
def rowP (m a : Nat) : List (Nat × Nat) := (List.range (m - (a + 1))).map fun b => (a, a + 1 + b)
theorem prs_row (m : Nat) : prs m = (List.range m).flatMap (rowP m) := rfl
theorem prD_c (a c : Nat) : prD (a, a + 1 + c) = .tup [.int (a : Nat), .int ((a : Int) + 1 + (c : Int))] := by
  show D.tup [.int ((a : Nat) : Int), .int ((a + 1 + c : Nat) : Int)] = _
  rw [show ((a + 1 + c : Nat) : Int) = (a : Int) + 1 + (c : Int) by omega]
theorem run_lpairs (wf k m : Nat) (hm : m ≤ 100) (b : Bool) (μ : Sto) (ok : Ok μ) : (G.pr wf (k + 1)).call "_law_pairs" [.int (m : Nat), .bl b] μ = some (.lst ((prsB b m).map prD), μ) := by
  rw [call_s wf k "_law_pairs" (d := d__law_pairs) rfl]
  have hml := small_prs hm false
  rw [prsB_len] at hml
  let Γ := G.pr wf k
  let st : List (Nat × Nat) → Sto := fun acc => μ ++ [Cel.lst (acc.map prD)]
  let RR : Option D → Option D → Rho := fun x3 x4 => [some (.int (m : Nat)), some (.bl b), some (.cell μ.length), x3, x4]
  let bI : S := .seq (.ex (.mt .append (.v 2) (.cons (.tup (.cons (.v 3) (.cons (.v 4) .nil))) .nil))) .nil
  let bO : S := .seq (.for_ false (.one (.n 4)) (.rng (.bin .add (.v 3) (.c (.int 1))) (.v 0)) bI) .nil
  have inner : ∀ (N a : Nat) (tot : List (Nat × Nat)) (l : List Nat) (acc : List (Nat × Nat)) (x4 : Option D), acc ++ l.map (fun c => (a, a + 1 + c)) = tot → tot.length ≤ 20000 →
      ∃ x4', forL false N none (fun x ρ μ => (DP.bind Γ (.one (.n 4)) x ρ μ).bind fun p => evS Γ bI p.1 p.2) (l.map fun (c : Nat) => D.int ((a : Int) + 1 + (c : Int))) (RR (some (.int (a : Nat))) x4) (st acc) = some (.next, RR (some (.int (a : Nat))) x4', st tot) := by
    intro N a tot l
    induction l with
    | nil => intro acc x4 h _; exact ⟨x4, by simp at h; subst h; rfl⟩
    | cons c l ih =>
      intro acc x4 h hz
      obtain ⟨x4', e⟩ := ih (acc ++ [(a, a + 1 + c)]) (some (.int ((a : Int) + 1 + (c : Int)))) (by rw [← h]; simp) hz
      refine ⟨x4', ?_⟩
      have e0 : biD .append false [.cell μ.length, .tup [.int (a : Nat), .int ((a : Int) + 1 + (c : Int))]] (st acc) = some (.non, st (acc ++ [(a, a + 1 + c)])) := by
        have := bi_app (x := .tup [.int (a : Nat), .int ((a : Int) + 1 + (c : Int))]) (at_last μ (.lst (acc.map prD))) (by rw [List.length_map]; have := congrArg List.length h; simp at this; omega)
        rw [set_last, ← prD_c] at this
        simp only [st, List.map_append, List.map_cons, List.map_nil, ← prD_c]
        exact this
      have e1 : evS Γ bI (RR (some (.int (a : Nat))) (some (.int ((a : Int) + 1 + (c : Int))))) (st acc) = some (.next, RR (some (.int (a : Nat))) (some (.int ((a : Int) + 1 + (c : Int)))), st (acc ++ [(a, a + 1 + c)])) :=
        sq (s_ex (e_mt (e_v rfl) (listed_at (at_last μ _)) (es_1 (e_tup (es_2 (e_v rfl) (e_v rfl)) (small (by simp)))) e0)) rfl
      exact forB_cons rfl e1 rfl e
  have outer : ∀ (N : Nat) (tot : List (Nat × Nat)) (l : List Nat) (acc : List (Nat × Nat)) (x3 x4 : Option D), (∀ a ∈ l, a < m) → acc ++ l.flatMap (rowP m) = tot → tot.length ≤ 20000 →
      ∃ x3' x4', forL false N none (fun x ρ μ => (DP.bind Γ (.one (.n 3)) x ρ μ).bind fun p => evS Γ bO p.1 p.2) (l.map fun (a : Nat) => D.int (a : Nat)) (RR x3 x4) (st acc) = some (.next, RR x3' x4', st tot) := by
    intro N tot l
    induction l with
    | nil => intro acc x3 x4 _ h _; exact ⟨x3, x4, by simp at h; subst h; rfl⟩
    | cons a l ih =>
      intro acc x3 x4 hlt h hz
      have ha := hlt a (by simp)
      have hr : (acc ++ rowP m a).length ≤ 20000 := by
        have := congrArg List.length h
        simp only [List.flatMap_cons, List.length_append] at this ⊢; omega
      obtain ⟨y4, e1⟩ := inner (st acc).length a (acc ++ rowP m a) (List.range (m - (a + 1))) acc x4 rfl hr
      obtain ⟨x3', x4', e2⟩ := ih (acc ++ rowP m a) (some (.int (a : Nat))) y4 (fun b hb => hlt b (by simp [hb])) (by rw [← h]; simp) hz
      refine ⟨x3', x4', ?_⟩
      have hi := i_rng (Γ := Γ) (ρ := RR (some (.int (a : Nat))) x4) (μ := st acc) (e_bin (o := .add) (d := .int ((a : Int) + 1)) (e_v (i := 3) rfl) (e_c (d := .int 1)) rfl) (e_v (i := 0) (d := .int (m : Nat)) rfl) (b62 (by omega) (by omega)) (b62 (by omega) (by omega))
      have hn : ((m : Int) - ((a : Int) + 1)).toNat = m - (a + 1) := by omega
      rw [hn] at hi
      have e3 : evS Γ bO (RR (some (.int (a : Nat))) x4) (st acc) = some (.next, RR (some (.int (a : Nat))) y4, st (acc ++ rowP m a)) := sq (s_for hi e1) rfl
      exact forB_cons rfl e3 rfl e2
  let R0 : Rho := [some (.int (m : Nat)), some (.bl b), none, none, none]
  have st1 : evS Γ (.set (.one (.n 2)) (.lst true .nil)) R0 μ = some (.next, RR none none, st []) := s_set (e_lstM es_nil (small (by simp)))
  have hi0 : evI Γ (.rng (.c (.int 0)) (.v 0)) (RR none none) (st []) = some (((List.range m).map fun a => D.int (a : Nat), none), st []) := by
    have := i_rng (Γ := Γ) (ρ := RR none none) (μ := st []) (e_c (d := .int 0)) (e_v (i := 0) (d := .int (m : Nat)) rfl) (b62 (by omega) (by omega)) (b62 (by omega) (by omega))
    rw [rng0] at this
    exact this
  obtain ⟨x3, x4, e2⟩ := outer (st []).length (prs m) (List.range m) [] none none (fun a ha => List.mem_range.mp ha) (by rw [prs_row]; rfl) (by omega)
  have st2 : evS Γ (.for_ false (.one (.n 3)) (.rng (.c (.int 0)) (.v 0)) bO) (RR none none) (st []) = some (.next, RR x3 x4, st (prs m)) := s_for hi0 e2
  have hcond : evT Γ (.cons (.v 1) .nil) (RR x3 x4) (st (prs m)) = some (b, st (prs m)) := t_bl (e_v rfl)
  have hu : ∀ ps : List (Nat × Nat), D.under μ.length (.lst (ps.map prD)) = true := fun ps => unders_map _ prD (fun _ => rfl) ps
  have hall : μ.all (cutOk μ.length) = true := ok
  cases b with
  | false =>
    have st3 : evS Γ (.ife (.cons (.v 1) .nil) (.seq (.set (.one (.n 2)) (.lc true [3,4] (.tup [(.n 3), (.n 4)]) (.cons (.rev false (.v 2)) .nil) .nil (.tup (.cons (.v 4) (.cons (.v 3) .nil))))) .nil) .nil) (RR x3 x4) (st (prs m)) = some (.next, RR x3 x4, st (prs m)) := by
      rw [s_if hcond, if_neg Bool.false_ne_true]; rfl
    have e3 : ev Γ (.frz (.v 2)) (RR x3 x4) (st (prs m)) = some (.lst ((prsB false m).map prD), μ ++ [Cel.dead]) := by
      rw [e_frz (ds := (prs m).map prD) (e_v rfl) (at_last μ _)]
      rw [set_last]; rfl
    have := run_retC (Γ := Γ) (df := d__law_pairs) (as := [.int (m : Nat), .bl false]) rfl rfl (sq st1 (sq st2 (sq st3 (sq_ret (s_ret e3))))) (hu _) (by rw [List.take_left]; exact hall)
    rw [this, List.take_left]
  | true =>
    have hsw : (((prs m).map prD).reverse.map swD) = (prsB true m).map prD := sw_prs m
    let μ2 : Sto := st (prs m) ++ [Cel.lst ((prsB true m).map prD)]
    let R2 : Rho := [some (.int (m : Nat)), some (.bl true), some (.cell (st (prs m)).length), x3, x4]
    have st3 : evS Γ (.ife (.cons (.v 1) .nil) (.seq (.set (.one (.n 2)) (.lc true [3,4] (.tup [(.n 3), (.n 4)]) (.cons (.rev false (.v 2)) .nil) .nil (.tup (.cons (.v 4) (.cons (.v 3) .nil))))) .nil) .nil) (RR x3 x4) (st (prs m)) = some (.next, R2, μ2) := by
      rw [s_if hcond, if_pos rfl]
      have := ev_lcM (own := [3, 4]) (tg := .tup [(.n 3), (.n 4)]) (cs := .nil) (elt := .tup (.cons (.v 4) (.cons (.v 3) .nil))) (g := swD) (i_one (e_revC (Γ := Γ) (a := .v 2) (ρ := RR x3 x4) (e_v (i := 2) (d := .cell μ.length) (μ := st (prs m)) rfl) (at_last μ (.lst ((prs m).map prD))) (small (by rw [List.length_map]; omega)))) rfl (small (by rw [List.length_reverse, List.length_map]; omega)) fun x hx => by
        obtain ⟨p, _, rfl⟩ := List.mem_map.mp (List.mem_reverse.mp hx)
        exact lc_step (ρ1 := [some (.int (m : Nat)), some (.bl true), some (.cell μ.length), some (.int (p.1 : Nat)), some (.int (p.2 : Nat))]) rfl (e_tup (es_2 (e_v rfl) (e_v rfl)) (small (by simp)))
      rw [hsw] at this
      exact sq (s_set this) rfl
    have e3 : ev Γ (.frz (.v 2)) R2 μ2 = some (.lst ((prsB true m).map prD), st (prs m) ++ [Cel.dead]) := by
      rw [e_frz (ds := (prsB true m).map prD) (e_v rfl) (at_last (st (prs m)) _)]
      rw [set_last]
    have htk : (st (prs m) ++ [Cel.dead]).take μ.length = μ := by
      show ((μ ++ [Cel.lst ((prs m).map prD)]) ++ [Cel.dead]).take μ.length = μ
      rw [List.append_assoc, List.take_left]
    have := run_retC (Γ := Γ) (df := d__law_pairs) (as := [.int (m : Nat), .bl true]) (μ := μ) rfl rfl (sq st1 (sq st2 (sq st3 (sq_ret (s_ret e3))))) (hu _) (by rw [htk]; exact hall)
    rw [this, htk]
/-! ### what turns -/
theorem chg_same {as : List At} {f : List (List Th)} {p : Nat × Nat} (h : (chg as f p).2 = false) : (chg as f p).1 = f := by
  unfold chg at h ⊢
  split at h
  · rename_i a b ha hb
    simp only [Bool.not_eq_false', Bool.and_eq_true, eqT_iff] at h
    simp only [ha, hb]
    rw [← h.1, ← h.2]
    have e1 : f.set p.1 a = f := by
      apply List.ext_getElem?
      intro i
      by_cases hi : p.1 = i
      · subst hi; rw [List.getElem?_set_self (List.getElem?_eq_some_iff.mp ha).1, ha]
      · rw [List.getElem?_set_ne hi]
    rw [e1]
    apply List.ext_getElem?
    intro i
    by_cases hi : p.2 = i
    · subst hi; rw [List.getElem?_set_self (List.getElem?_eq_some_iff.mp hb).1, hb]
    · rw [List.getElem?_set_ne hi]
  · rfl
theorem chg_other {as : List At} {f : List (List Th)} {p : Nat × Nat} {q : Nat} (h1 : p.1 ≠ q) (h2 : p.2 ≠ q) : (chg as f p).1[q]? = f[q]? := by
  unfold chg
  split
  · rw [List.getElem?_set_ne h2, List.getElem?_set_ne h1]
  · rfl
theorem cnt_le : ∀ bs : List Bool, 0 ≤ cnt bs ∧ cnt bs ≤ bs.length
  | [] => by simp [cnt]
  | b :: bs => by
    have := cnt_le bs
    simp only [cnt, List.map_cons, List.sum_cons, List.length_cons] at this ⊢
    cases b <;> simp <;> omega
theorem cnt_cons (b : Bool) (bs : List Bool) : cnt (b :: bs) = (if b then 1 else 0) + cnt bs := by simp [cnt]
theorem lc_stepF {Γ : Pr} {own : List Nat} {tg : Tg} {cs elt : E} {ρ ρ1 : Rho} {x : D} {μ μ1 : Sto} (hb : DP.bind Γ tg x (wipeD ρ own) μ = some (ρ1, μ)) (hc : evT Γ cs ρ1 μ = some (false, μ1)) : lcStep Γ own tg cs elt ρ x μ = some ([], μ1) := by
  simp only [lcStep, hb, Option.bind_some, hc, bnd_some, Bool.false_eq_true, if_false]
theorem lc_stepT {Γ : Pr} {own : List Nat} {tg : Tg} {cs elt : E} {ρ ρ1 : Rho} {x y : D} {μ μ1 μ2 : Sto} (hb : DP.bind Γ tg x (wipeD ρ own) μ = some (ρ1, μ)) (hc : evT Γ cs ρ1 μ = some (true, μ1)) (he : ev Γ elt ρ1 μ1 = some (y, μ2)) : lcStep Γ own tg cs elt ρ x μ = some ([y], μ2) := by
  simp only [lcStep, hb, Option.bind_some, hc, bnd_some, if_true, he]
theorem all_flat {g : D → List D} (hg : ∀ x, g x = [] ∨ g x = [.bl true]) : ∀ xs : List D, ∃ bs : List Bool, xs.flatMap g = bs.map D.bl ∧ bs.all id = true ∧ bs.length ≤ xs.length
  | [] => ⟨[], rfl, rfl, Nat.le_refl _⟩
  | x :: xs => by
    obtain ⟨bs, h1, h2, h3⟩ := all_flat hg xs
    rcases hg x with e | e
    · exact ⟨bs, by rw [List.flatMap_cons, e, h1]; rfl, h2, by simp; omega⟩
    · exact ⟨true :: bs, by rw [List.flatMap_cons, e, h1]; rfl, by simpa using h2, by simp; omega⟩
theorem c_nmem2 (Γ : Pr) (q a b : Int) (μ : Sto) : cmpD Γ .nmem (.int q) (.tup [.int a, .int b]) μ = some (!(a == q || (b == q || false)), μ) := rfl
theorem ix_words {ws : List Bool} {q : Nat} {w : Bool} (h : ws[q]? = some w) (μ : Sto) : ixD (.lst (ws.map wordD)) (.int (q : Nat)) μ = some (wordD w) := by
  have e : (ws.map wordD)[q]? = some (wordD w) := by rw [List.getElem?_map, h]; rfl
  exact atI_nat e
section
variable {wf k n nf ng : Nat} {μ : Sto} {s : Sen} {folk : List (List Th)} {by_ : List (Key × D)} {marks : D} {ρ : Rho}
theorem e_lenT (h : Has μ n nf ng s folk by_ marks) {o : E} (ho : ev (G.pr wf (k + 1)) o ρ μ = some (.cell n, μ)) (hm : folk.length ≤ 1000) : ev (G.pr wf (k + 1)) (.lenO o) ρ μ = some (.int (folk.length : Nat), μ) := by
  exact e_lenO ho (cls_T h) (run_len h) (b63 (by omega) (by omega))
end
def saysE (t j : Nat) (M : E) : E := .lc false [j] (.one (.n j)) (.rng (.c (.int 0)) M) .nil (.meth (.v t) "says" (.cons (.v j) .nil))
def metB : S := (.seq (.set (.one (.n 6)) (saysE 0 7 (.v 2))) (.seq (.ex (.meth (.v 0) "meet" (.cons (.v 4) (.cons (.v 5) .nil)))) (.seq (.set (.one (.n 8)) (saysE 0 7 (.v 2))) (.seq (.set (.one (.n 3)) (.bin .add (.v 3) (.bi .int1 false (.cons (.cmp .ne (.v 6) (.v 8)) .nil)))) (.seq (.ife (.not (.cons (.bi .all false (.cons (.lc false [7] (.one (.n 7)) (.rng (.c (.int 0)) (.v 2)) (.cmp .nmem (.v 7) (.tup (.cons (.v 4) (.cons (.v 5) .nil)))) (.cmp .eq (.ix (.v 8) (.v 7)) (.ix (.v 6) (.v 7)))) .nil)) .nil)) (.seq (.ret (.bin .mul (.v 2) (.v 2))) .nil) .nil) .nil)))))
section
variable {wf k n nf ng : Nat} {s : Sen} {by_ : List (Key × D)} {marks : D}
theorem met_loop (N : Nat) (PL : D) (hn : nf ≠ n) (hg : nf ≠ ng) (hl : s.ats.length ≤ 1000) (hd : s.dep ≤ 3) : ∀ (ps : List (Nat × Nat)) (f : List (List Th)) (μ : Sto) (c : Int) (x4 x5 x6 x8 : Option D), Has μ n nf ng s f by_ marks → Ok μ → Fits s f → (∀ p ∈ ps, PairOk f.length p) → f.length ≤ 100 →
    ∃ (c' : Int) (x4' x5' x6' x8' : Option D), c' ≤ c + cnt (seqB s.ats f ps) ∧ forL false N none (fun x ρ μ => (DP.bind (G.pr wf (k + 6)) (.tup [(.n 4), (.n 5)]) x ρ μ).bind fun p => evS (G.pr wf (k + 6)) metB p.1 p.2) (ps.map prD) [some (.cell n), some PL, some (.int (f.length : Nat)), some (.int c), x4, x5, x6, none, x8] μ =
      some (.next, [some (.cell n), some PL, some (.int (f.length : Nat)), some (.int c'), x4', x5', x6', none, x8'], μ.set nf (.lst (fD (seqF s.ats f ps))))
  | [], f, μ, c, x4, x5, x6, x8, h, _, _, _, _ => ⟨c, x4, x5, x6, x8, by simp [seqB, cnt], by
      have e : μ.set nf (.lst (fD f)) = μ := set_same h.folk
      simp only [List.map_nil, forL, seqF, e]⟩
  | p :: ps, f, μ, c, x4, x5, x6, x8, h, ok, hf, hp, hm => by
    let Γ := G.pr wf (k + 6)
    obtain ⟨p1, p2⟩ := p
    have hpk := hp (p1, p2) (by simp)
    let F := (chg s.ats f (p1, p2)).1
    have hF : F.length = f.length := chg_len _ _ _
    let μ1 := μ.set nf (.lst (fD F))
    have h1 : Has μ1 n nf ng s F by_ marks := h.put hn hg _
    have ok1 : Ok μ1 := ok.set (under_fD _ _)
    have hf1 : Fits s F := chg_fits hf _
    let w1 := wordsL s f
    let w2 := wordsL s F
    let c1 : Int := c + (if !(w1 == w2) then 1 else 0)
    obtain ⟨c', x4', x5', x6', x8', hc', e⟩ := met_loop N PL hn hg hl hd ps F μ1 c1 (some (.int (p1 : Nat))) (some (.int (p2 : Nat))) (some (.lst (w1.map wordD))) (some (.lst (w2.map wordD))) h1 ok1 hf1 (fun q hq => by rw [hF]; exact hp q (by simp [hq])) (by omega)
    rw [hF] at e
    have hset : μ1.set nf (.lst (fD (seqF s.ats F ps))) = μ.set nf (.lst (fD (seqF s.ats F ps))) := List.set_set ..
    rw [hset] at e
    refine ⟨c', x4', x5', x6', x8', ?_, ?_⟩
    · have hflag : (!(w1 == w2)) = true → (chg s.ats f (p1, p2)).2 = true := fun hw => by
        cases hb : (chg s.ats f (p1, p2)).2 with
        | true => rfl
        | false =>
          have : F = f := chg_same hb
          simp only [w1, w2, this, beq_self_eq_true] at hw
          cases hw
      simp only [seqB, cnt_cons]
      have hle : (if !(w1 == w2) then (1 : Int) else 0) ≤ (if (chg s.ats f (p1, p2)).2 then 1 else 0) := by
        by_cases hw : (!(w1 == w2)) = true
        · rw [if_pos hw, if_pos (hflag hw)]; exact Int.le_refl _
        · rw [if_neg hw]; split <;> decide
      simp only [c1] at hc'
      show c' ≤ c + ((if (chg s.ats f (p1, p2)).2 then 1 else 0) + cnt (seqB s.ats F ps))
      omega
    · let RA : Rho := [some (.cell n), some PL, some (.int (f.length : Nat)), some (.int c), some (.int (p1 : Nat)), some (.int (p2 : Nat)), x6, none, x8]
      let RB : Rho := [some (.cell n), some PL, some (.int (f.length : Nat)), some (.int c), some (.int (p1 : Nat)), some (.int (p2 : Nat)), some (.lst (w1.map wordD)), none, x8]
      let RC : Rho := [some (.cell n), some PL, some (.int (f.length : Nat)), some (.int c), some (.int (p1 : Nat)), some (.int (p2 : Nat)), some (.lst (w1.map wordD)), none, some (.lst (w2.map wordD))]
      let RD : Rho := [some (.cell n), some PL, some (.int (f.length : Nat)), some (.int c1), some (.int (p1 : Nat)), some (.int (p2 : Nat)), some (.lst (w1.map wordD)), none, some (.lst (w2.map wordD))]
      have t1 : evS Γ (.set (.one (.n 6)) (saysE 0 7 (.v 2))) RA μ = some (.next, RB, μ) := s_set (ev_says (k := k + 4) h ok hf (by omega) hl (by omega) (t := 0) (j := 7) (M := .v 2) rfl (by decide) (by show 7 < 9; decide) (e_v rfl))
      have t2 : evS Γ (.ex (.meth (.v 0) "meet" (.cons (.v 4) (.cons (.v 5) .nil)))) RB μ = some (.next, RB, μ1) := by
        have e1 : f[p1]? = some (f[p1]'hpk.1) := by rw [List.getElem?_eq_getElem]
        have e2 : f[p2]? = some (f[p2]'hpk.2.1) := by rw [List.getElem?_eq_getElem]
        have := run_meet (wf := wf) (k := k + 2) h hn hg e1 e2 hpk.2.2 hl (hf _ (List.mem_of_getElem? e1)) (hf _ (List.mem_of_getElem? e2))
        have hF' : (f.set p1 (one1 s.ats (f[p1]'hpk.1) (f[p2]'hpk.2.1))).set p2 (two2 s.ats (f[p1]'hpk.1) (f[p2]'hpk.2.1)) = F := by simp only [F, chg, e1, e2]
        rw [hF'] at this
        exact s_ex (e_meth (e_v rfl) (recv_T h rfl) (es_2 (e_v rfl) (e_v rfl)) this)
      have t3 : evS Γ (.set (.one (.n 8)) (saysE 0 7 (.v 2))) RB μ1 = some (.next, RC, μ1) := s_set (ev_says (k := k + 4) h1 ok1 hf1 (by omega) hl (by omega) (t := 0) (j := 7) (M := .v 2) rfl (by decide) (by show 7 < 9; decide) (e_v (by rw [hF]; rfl)))
      have t4 : evS Γ (.set (.one (.n 3)) (.bin .add (.v 3) (.bi .int1 false (.cons (.cmp .ne (.v 6) (.v 8)) .nil)))) RC μ1 = some (.next, RD, μ1) :=
        s_set (e_bin (d2 := .int (if !(w1 == w2) then 1 else 0)) (e_v rfl) (e_bi (es_1 (e_cmp (e_v rfl) (e_v rfl) (c_words Γ w1 w2 μ1))) rfl) rfl)
      have hi := i_rng (Γ := Γ) (ρ := RD) (μ := μ1) (e_c (d := .int 0)) (e_v (i := 2) (d := .int (f.length : Nat)) rfl) (b62 (by omega) (by omega)) (b62 (by omega) (by omega))
      rw [rng0] at hi
      let g : D → List D := fun x => match x with
        | .int q => if !((p1 : Int) == q || ((p2 : Int) == q || false)) then [.bl true] else []
        | _ => []
      have hstep : ∀ x ∈ ((List.range f.length).map fun a => D.int (a : Nat)), lcStep Γ [7] (.one (.n 7)) (.cmp .nmem (.v 7) (.tup (.cons (.v 4) (.cons (.v 5) .nil)))) (.cmp .eq (.ix (.v 8) (.v 7)) (.ix (.v 6) (.v 7))) RD x μ1 = some (g x, μ1) := fun x hx => by
        obtain ⟨q, hq, rfl⟩ := List.mem_map.mp hx
        have hq := List.mem_range.mp hq
        let RE : Rho := [some (.cell n), some PL, some (.int (f.length : Nat)), some (.int c1), some (.int (p1 : Nat)), some (.int (p2 : Nat)), some (.lst (w1.map wordD)), some (.int (q : Nat)), some (.lst (w2.map wordD))]
        have hb : DP.bind Γ (.one (.n 7)) (.int (q : Nat)) (wipeD RD [7]) μ1 = some (RE, μ1) := rfl
        have hc : evT Γ (.cmp .nmem (.v 7) (.tup (.cons (.v 4) (.cons (.v 5) .nil)))) RE μ1 = some (!((p1 : Int) == (q : Int) || ((p2 : Int) == (q : Int) || false)), μ1) := t_cmp (e_v rfl) (e_tup (es_2 (e_v rfl) (e_v rfl)) (small (by simp))) (c_nmem2 Γ _ _ _ _)
        cases hk : !((p1 : Int) == (q : Int) || ((p2 : Int) == (q : Int) || false)) with
        | false =>
          rw [hk] at hc
          rw [lc_stepF hb hc]
          simp only [g, hk, Bool.false_eq_true, if_false]
        | true =>
          rw [hk] at hc
          have hne : p1 ≠ q ∧ p2 ≠ q := by
            simp at hk
            omega
          have ew : w2[q]? = w1[q]? := by
            simp only [w1, w2, wordsL, List.getElem?_map, F, chg_other (as := s.ats) (f := f) (p := (p1, p2)) hne.1 hne.2]
          have e1 : w1[q]? = some (s.word f[q]) := by simp only [w1, wordsL, List.getElem?_map, List.getElem?_eq_getElem hq]; rfl
          rw [lc_stepT hb hc (e_cmp (e_ix (e_v rfl) (e_v rfl) (ix_words (ew.trans e1) μ1)) (e_ix (e_v rfl) (e_v rfl) (ix_words e1 μ1)) (c_eqW Γ _ _ μ1))]
          simp only [g, hk, if_true, beq_self_eq_true]
      obtain ⟨bs, hb1, hb2, hb3⟩ := all_flat (g := g) (fun x => by
        simp only [g]
        split
        · split
          · exact .inr rfl
          · exact .inl rfl
        · exact .inl rfl) ((List.range f.length).map fun a => D.int (a : Nat))
      have hlc := ev_lcS hi ((lc_flat (w := none) rfl _ hstep).trans (by rw [hb1])) (small (by rw [List.length_map]; rw [List.length_map, List.length_range] at hb3; omega))
      have hall : evT Γ (.not (.cons (.bi .all false (.cons (.lc false [7] (.one (.n 7)) (.rng (.c (.int 0)) (.v 2)) (.cmp .nmem (.v 7) (.tup (.cons (.v 4) (.cons (.v 5) .nil)))) (.cmp .eq (.ix (.v 8) (.v 7)) (.ix (.v 6) (.v 7)))) .nil)) .nil)) RD μ1 = some (!true, μ1) :=
        t_not (t_bl (e_bi (es_1 hlc) (by simp only [biD, listed, Option.bind_some, bls_map, Option.map_some, hb2])))
      have t5 : evS Γ (.ife (.not (.cons (.bi .all false (.cons (.lc false [7] (.one (.n 7)) (.rng (.c (.int 0)) (.v 2)) (.cmp .nmem (.v 7) (.tup (.cons (.v 4) (.cons (.v 5) .nil)))) (.cmp .eq (.ix (.v 8) (.v 7)) (.ix (.v 6) (.v 7)))) .nil)) .nil)) (.seq (.ret (.bin .mul (.v 2) (.v 2))) .nil) .nil) RD μ1 = some (.next, RD, μ1) := by
        rw [s_if hall]; rfl
      have eb : evS Γ metB RA μ = some (.next, RD, μ1) := sq t1 (sq t2 (sq t3 (sq t4 (sq t5 rfl))))
      exact forB_cons rfl eb rfl e
theorem run_met1 {f : List (List Th)} {μ : Sto} {ps : List (Nat × Nat)} (h : Has μ n nf ng s f by_ marks) (ok : Ok μ) (hn : nf ≠ n) (hg : nf ≠ ng) (hl : s.ats.length ≤ 1000) (hd : s.dep ≤ 3) (hf : Fits s f) (hp : ∀ p ∈ ps, PairOk f.length p) (hm : f.length ≤ 100) :
    ∃ c : Int, c ≤ cnt (seqB s.ats f ps) ∧ (G.pr wf (k + 7)).call "_law_met_one_by_one" [.cell n, .lst (ps.map prD)] μ = some (.int c, μ.set nf (.lst (fD (seqF s.ats f ps)))) := by
  rw [call_s wf (k + 6) "_law_met_one_by_one" (d := d__law_met_one_by_one) rfl]
  obtain ⟨c, x4, x5, x6, x8, hc, e⟩ := met_loop (wf := wf) (k := k) μ.length (.lst (ps.map prD)) hn hg hl hd ps f μ 0 none none none none h ok hf hp hm
  refine ⟨c, by omega, ?_⟩
  let PL : D := .lst (ps.map prD)
  let R0 : Rho := [some (.cell n), some PL, none, none, none, none, none, none, none]
  let R1 : Rho := [some (.cell n), some PL, some (.int (f.length : Nat)), none, none, none, none, none, none]
  let R2 : Rho := [some (.cell n), some PL, some (.int (f.length : Nat)), some (.int 0), none, none, none, none, none]
  exact run_retX R0 rfl rfl rfl (sq (ρ' := R1) (μ' := μ) (s_set (e_lenT h (e_v rfl) (by omega))) (sq (ρ' := R2) (μ' := μ) (s_set e_c) (sq (s_for (i_one (e_v rfl)) e) (sq_ret (s_ret (e_v rfl))))))
end
end P99

/-! k99 in plain Lean, continued: a stretch is right; the tape. -/
namespace P99
open PySem PySem.Spec L2 DP LW

theorem prs_sum : ∀ m, m < 13 → (prs m).length * 2 = m * (m - 1) := by decide
theorem prs_bound {m : Nat} (hm : m ≤ 12) (b : Bool) : ((prsB b m).length : Int) = ((m : Int) * ((m : Int) - 1)).fdiv 2 := by
  rw [prsB_len]
  have h := prs_sum m (by omega)
  cases m with
  | zero => rfl
  | succ m =>
    have h2 : ((m + 1 : Nat) : Int) * (((m + 1 : Nat) : Int) - 1) = 2 * ((prs (m + 1)).length : Int) := by
      have : ((m + 1 : Nat) : Int) - 1 = (m : Nat) := by omega
      rw [this]
      have h3 : (prs (m + 1)).length * 2 = (m + 1) * m := h
      have h4 : (((prs (m + 1)).length * 2 : Nat) : Int) = (((m + 1) * m : Nat) : Int) := by rw [h3]
      rw [Int.natCast_mul, Int.natCast_mul] at h4
      rw [← h4, Int.mul_comm]; rfl
    rw [h2, Int.mul_fdiv_cancel_left _ (by decide)]
theorem mulOkL {i j : Int} (h : -(2 ^ 64) < i ∧ i < 2 ^ 64) : mulOk i j = true := by
  unfold mulOk; rw [decide_eq_true h]; rfl
theorem mulOkR {i j : Int} (h : -(2 ^ 64) < j ∧ j < 2 ^ 64) : mulOk i j = true := by
  unfold mulOk; rw [decide_eq_true h, Bool.or_true, Bool.true_or]
theorem b64 {i : Int} (h1 : -4000000000000000000 ≤ i) (h2 : i ≤ 4000000000000000000) : -(2 ^ 64) < i ∧ i < 2 ^ 64 := ⟨Int.lt_of_lt_of_le (by decide) h1, Int.lt_of_le_of_lt h2 (by decide)⟩
theorem o_mulL {i j : Int} (h1 : -4000000000000000000 ≤ i) (h2 : i ≤ 4000000000000000000) : op2 .mul (.int i) (.int j) = some (.int (i * j)) := by simp only [op2, mulOkL (b64 h1 h2), if_true]
theorem o_mulR {i j : Int} (h1 : -4000000000000000000 ≤ j) (h2 : j ≤ 4000000000000000000) : op2 .mul (.int i) (.int j) = some (.int (i * j)) := by simp only [op2, mulOkR (b64 h1 h2), if_true]
theorem o_mod {i j : Int} (h : j ≠ 0) : op2 .mod (.int i) (.int j) = some (.int (i.fmod j)) := by simp only [op2]; rw [if_pos h]
theorem o_div {i j : Int} (h1 : 0 < j) (h2 : j < 1073741824) : op2 .fdiv (.int i) (.int j) = some (.int (i.fdiv j)) := by simp only [op2, divOk_of h1 h2, if_true]
theorem e_andT {Γ : Pr} {a b : E} {ρ : Rho} {μ μ1 μ2 : Sto} {d : D} (h1 : ev Γ a ρ μ = some (.bl true, μ1)) (h2 : ev Γ b ρ μ1 = some (d, μ2)) : ev Γ (.and a b) ρ μ = some (d, μ2) := by
  simp only [ev, h1, bnd_some, truth]; exact h2
theorem t_chn {Γ : Pr} {o o' : Cmp} {a b c : E} {ρ : Rho} {μ μ1 μ2 μ3 μ4 μ5 : Sto} {x y z : D} {k : Bool} (h1 : ev Γ a ρ μ = some (x, μ1)) (h2 : ev Γ b ρ μ1 = some (y, μ2)) (h3 : cmpD Γ o x y μ2 = some (true, μ3)) (h4 : ev Γ c ρ μ3 = some (z, μ4)) (h5 : cmpD Γ o' y z μ4 = some (k, μ5)) : evT Γ (.chn o o' a b c) ρ μ = some (k, μ5) := by
  simp only [evT, h1, bnd_some, h2, h3, if_true, h4, h5]
theorem c_said (Γ : Pr) (ws : List Bool) (μ : Sto) : cmpD Γ .eq (saidW ws) (saidW ws) μ = some (true, μ) := by
  unfold saidW
  split
  · kernel_rfl
  · split
    · rw [c_eqW, beq_self_eq_true]
    · kernel_rfl
theorem c_leI (Γ : Pr) {i j : Int} (h : i ≤ j) (μ : Sto) : cmpD Γ .le (.int i) (.int j) μ = some (true, μ) := by simp only [cmpD, decide_eq_true h]
theorem Has.other {n nf ng i : Nat} {c : Cel} {μ : Sto} {s : Sen} {folk : List (List Th)} {by_ : List (Key × D)} {marks : D} (h : Has μ n nf ng s folk by_ marks) (h1 : i ≠ n) (h2 : i ≠ nf) (h3 : i ≠ ng) : Has (μ.set i c) n nf ng s folk by_ marks :=
  ⟨by rw [List.getElem?_set_ne h1]; exact h.ins, by rw [List.getElem?_set_ne h2]; exact h.folk, by rw [List.getElem?_set_ne h3]; exact h.gate⟩
/-- the six cells of two throngs are six -/
structure Six (n nf ng n' nf' ng' : Nat) : Prop where
  a1 : nf ≠ n
  a2 : nf ≠ ng
  a3 : nf' ≠ n'
  a4 : nf' ≠ ng'
  a5 : nf' ≠ n
  a6 : nf' ≠ nf
  a7 : nf' ≠ ng
  a8 : nf ≠ n'
  a9 : nf ≠ ng'
theorem run_right {wf k n nf ng n' nf' ng' t : Nat} {μ : Sto} {s : Sen} {f : List (List Th)} {cs : List Int} {m m' : D} (h : Has μ n nf ng s f (byD cs) m) (h' : Has μ n' nf' ng' s f (byD cs) m') (six : Six n nf ng n' nf' ng') (ok : Ok μ) (hs : SenOk s t) (hf : Fits s f) (hm : f.length ≤ 12) (opt : Int) :
    (G.pr wf (k + 8)).call "_law_stretch_right" [.cell n, .cell n', .int opt] μ = some (.bl true, (μ.set nf' (.lst (fD (seqF s.ats f (prsB (opt == 2) f.length))))).set nf (.lst (fD (seqF s.ats f (prsB (opt == 2) f.length))))) := by
  rw [call_s wf (k + 7) "_law_stretch_right" (d := d__law_stretch_right) rfl]
  have h4 := hs.at4
  have hd := hs.dep
  let Γ := G.pr wf (k + 7)
  let b : Bool := opt == 2
  let ps := prsB b f.length
  let F := seqF s.ats f ps
  have hF : F.length = f.length := seqF_len _ _ _
  have hfF : Fits s F := seqF_fits ps f hf
  have hps : ∀ p ∈ ps, PairOk f.length p := fun p hp => prsB_ok hp
  let μ1 := μ.set nf' (.lst (fD F))
  let μ2 := μ1.set nf (.lst (fD F))
  have h1 : Has μ1 n nf ng s f (byD cs) m := h.other six.a5 six.a6 six.a7
  have h1' : Has μ1 n' nf' ng' s F (byD cs) m' := h'.put six.a3 six.a4 _
  have h2 : Has μ2 n nf ng s F (byD cs) m := h1.put six.a1 six.a2 _
  have h2' : Has μ2 n' nf' ng' s F (byD cs) m' := h1'.other six.a8 (Ne.symm six.a6) six.a9
  have ok1 : Ok μ1 := ok.set (under_fD _ _)
  have ok2 : Ok μ2 := ok1.set (under_fD _ _)
  obtain ⟨c, hc, e1⟩ := run_met1 (wf := wf) (k := k) (ps := ps) h' ok six.a3 six.a4 (by omega) (by omega) hf hps (by omega)
  let T := cnt (seqB s.ats f ps)
  have hT : T ≤ ((f.length : Int) * ((f.length : Int) - 1)).fdiv 2 := by
    have := (cnt_le (seqB s.ats f ps)).2
    rw [seqB_len] at this
    rw [← prs_bound hm b]
    exact this
  let R0 : Rho := [some (.cell n), some (.cell n'), some (.int opt), none, none, none, none, none]
  let R1 : Rho := [some (.cell n), some (.cell n'), some (.int opt), some (.int (f.length : Nat)), none, none, none, none]
  let R2 : Rho := [some (.cell n), some (.cell n'), some (.int opt), some (.int (f.length : Nat)), some (.int c), none, none, none]
  let R3 : Rho := [some (.cell n), some (.cell n'), some (.int opt), some (.int (f.length : Nat)), some (.int c), some (.int T), none, none]
  let R4 : Rho := [some (.cell n), some (.cell n'), some (.int opt), some (.int (f.length : Nat)), some (.int c), some (.int T), some (.lst ((wordsL s F).map wordD)), none]
  have st1 : evS Γ (.set (.one (.n 3)) (.lenO (.v 0))) R0 μ = some (.next, R1, μ) := s_set (e_lenT h (e_v rfl) (by omega))
  have st2 : evS Γ (.set (.one (.n 4)) (.call "_law_met_one_by_one" (.cons (.v 1) (.cons (.call "_law_pairs" (.cons (.v 3) (.cons (.cmp .eq (.v 2) (.c (.int 2))) .nil))) .nil)))) R1 μ = some (.next, R2, μ1) :=
    s_set (e_call (es_2 (e_v rfl) (e_call (es_2 (e_v rfl) (e_cmp (e_v rfl) e_c (c_eqI _ opt 2 μ))) (run_lpairs wf (k + 6) f.length (by omega) b μ ok))) e1)
  have hstr := run_stretch (wf := wf) (k := k + 3) h1 six.a1 six.a2 (by omega) hf (by omega) b
  have st3 : evS Γ (.ife (.cmp .eq (.v 2) (.c (.int 0))) (.seq (.set (.one (.n 5)) (.meth (.v 0) "stretch" (.cons (.c (.bl false)) .nil))) .nil) (.seq (.set (.one (.n 5)) (.meth (.v 0) "stretch" (.cons (.cmp .eq (.v 2) (.c (.int 2))) .nil))) .nil)) R2 μ1 = some (.next, R3, μ2) := by
    rw [s_if (t_cmp (e_v (i := 2) rfl) e_c (c_eqI _ opt 0 μ1))]
    by_cases h0 : opt = 0
    · have hb : b = false := by simp [b, h0]
      rw [hb] at hstr
      rw [if_pos (by simp [h0])]
      have : R3 = R2.set 5 (some (.int (cnt (seqB s.ats f (prsB false f.length))))) := by simp only [R3, R2, T, ps, hb]; rfl
      rw [this]
      have hμ : μ2 = μ1.set nf (.lst (fD (seqF s.ats f (prsB false f.length)))) := by simp only [μ2, F, ps, hb]
      rw [hμ]
      exact sq (s_set (e_meth (e_v rfl) (recv_T h1 rfl) (es_1 e_c) hstr)) rfl
    · rw [if_neg (by simpa using h0)]
      exact sq (s_set (e_meth (e_v rfl) (recv_T h1 rfl) (es_1 (e_cmp (e_v rfl) e_c (c_eqI _ opt 2 μ1))) hstr)) rfl
  have st4 : evS Γ (.ife (.or (.not (.cons (.bi .isInt false (.cons (.v 5) .nil)) .nil)) (.cons (.bi .isBool false (.cons (.v 5) .nil)) .nil)) (.seq (.ret (.c (.bl false))) .nil) .nil) R3 μ2 = some (.next, R3, μ2) := by
    rw [s_if (t_or (t_not (t_bl (e_bi (es_1 (e_v (i := 5) (ρ := R3) rfl)) rfl))) (t_bl (e_bi (es_1 (e_v (i := 5) (ρ := R3) rfl)) rfl)))]
    rfl
  have st5 : evS Γ (.ife (.not (.chn .le .le (.v 4) (.v 5) (.bin .fdiv (.bin .mul (.v 3) (.bin .sub (.v 3) (.c (.int 1)))) (.c (.int 2))))) (.seq (.ret (.c (.bl false))) .nil) .nil) R3 μ2 = some (.next, R3, μ2) := by
    have e := t_not (t_chn (Γ := Γ) (o := .le) (o' := .le) (e_v (i := 4) (ρ := R3) (μ := μ2) rfl) (e_v (i := 5) (ρ := R3) rfl) (c_leI Γ hc μ2) (e_bin (o := .fdiv) (e_bin (o := .mul) (e_v (i := 3) (ρ := R3) rfl) (e_bin (o := .sub) (d := .int ((f.length : Int) - 1)) (e_v (i := 3) (ρ := R3) rfl) (e_c (d := .int 1)) rfl) (o_mulL (by omega) (by omega))) (e_c (d := .int 2)) (o_div (by decide) (by decide))) (c_leI Γ hT μ2))
    rw [s_if e]; rfl
  have st6 : evS Γ (.set (.one (.n 6)) (saysE 1 7 (.v 3))) R3 μ2 = some (.next, R4, μ2) := s_set (ev_says (k := k + 5) h2' ok2 hfF (by omega) (by omega) (by omega) (t := 1) (j := 7) (M := .v 3) rfl (by decide) (by show 7 < 8; decide) (e_v (by rw [hF]; rfl)))
  have e7 : ev Γ (saysE 0 7 (.v 3)) R4 μ2 = some (.lst ((wordsL s F).map wordD), μ2) := ev_says (k := k + 5) h2 ok2 hfF (by omega) (by omega) (by omega) (t := 0) (j := 7) (M := .v 3) rfl (by decide) (by show 7 < 8; decide) (e_v (by rw [hF]; rfl))
  have st7 : evS Γ (.ife (.cmp .ne (saysE 0 7 (.v 3)) (.v 6)) (.seq (.ret (.c (.bl false))) .nil) .nil) R4 μ2 = some (.next, R4, μ2) := by
    have e := t_cmp e7 (e_v (i := 6) (ρ := R4) rfl) (c_words Γ (wordsL s F) (wordsL s F) μ2)
    rw [beq_self_eq_true] at e
    rw [s_if e]; rfl
  have e8 : ev Γ (.cmp .eq (.v 0) (.v 1)) R4 μ2 = some (.bl true, μ2) := e_cmp (e_v rfl) (e_v rfl) (c_eqT (k := k + 4) h2 h2' ok2 hfF (by omega) (by omega) (by omega) (by omega))
  have e9 : ev Γ (.cmp .eq (.meth (.v 0) "said" .nil) (.meth (.v 1) "said" .nil)) R4 μ2 = some (.bl true, μ2) :=
    e_cmp (e_meth (e_v rfl) (recv_T h2 rfl) es_nil (run_said (k := k + 4) h2 ok2 hfF (by omega) (by omega) (by omega))) (e_meth (e_v rfl) (recv_T h2' rfl) es_nil (run_said (k := k + 4) h2' ok2 hfF (by omega) (by omega) (by omega))) (c_said Γ _ μ2)
  exact run_retX R0 rfl rfl rfl (sq st1 (sq st2 (sq st3 (sq st4 (sq st5 (sq st6 (sq st7 (sq_ret (s_ret (e_andT e8 e9))))))))))
/-! ### the tape -/
theorem run_cell (wf k : Nat) (ns : List Int) (j : Nat) (hn : ns.length ≤ 63) (μ : Sto) : ∃ v, (G.pr wf (k + 1)).call "_law_cell_at" [.scr ns, .int (j : Nat)] μ = some (.int v, μ) := by
  rw [call_s wf k "_law_cell_at" (d := d__law_cell_at) rfl]
  let R : Rho := [some (.scr ns), some (.int (j : Nat))]
  have hc : evT (G.pr wf k) (.cmp .lt (.v 1) (.bi .len false (.cons (.v 0) .nil))) R μ = some (decide ((j : Int) < ((ns.map D.int).length : Nat)), μ) := t_cmp (e_v rfl) (e_bi (es_1 (e_v rfl)) rfl) rfl
  by_cases h : j < ns.length
  · rw [decide_eq_true (by rw [List.length_map]; omega)] at hc
    have hix : (ns.map D.int)[j]? = some (.int ns[j]) := by rw [List.getElem?_map, List.getElem?_eq_getElem h]; rfl
    refine ⟨ns[j], run_retX R (ρ' := R) rfl rfl rfl (sq_ret ?_)⟩
    rw [s_if hc, if_pos rfl]
    exact sq_ret (s_ret (e_ix (e_v rfl) (e_v rfl) (atI_nat hix)))
  · rw [decide_eq_false (by rw [List.length_map]; omega)] at hc
    refine ⟨0, run_retX R (ρ' := R) rfl rfl rfl (sq (ρ' := R) (μ' := μ) ?_ (sq_ret (s_ret e_c)))⟩
    rw [s_if hc, if_neg Bool.false_ne_true]; rfl
def tapeB : S := (.seq (.set (.one (.n 4)) (.bin .mod (.bin .add (.bin .add (.bin .mul (.v 4) (.v 4)) (.bin .mul (.bin .mul (.c (.int 69621)) (.bin .add (.v 6) (.c (.int 1)))) (.bin .add (.v 1) (.c (.int 1))))) (.v 2)) (.v 3))) (.seq (.set (.one (.n 5)) (.bin .add (.bin .mul (.v 5) (.v 3)) (.v 4))) .nil))
theorem run_tape (wf k : Nat) (ns : List Int) (j : Nat) (hn : ns.length ≤ 63) (hj : j ≤ 100) (μ : Sto) : ∃ v, (G.pr wf (k + 2)).call "_law_tape" [.scr ns, .int (j : Nat)] μ = some (.cell μ.length, μ ++ [.lst [.int v]]) := by
  obtain ⟨v, hv⟩ := run_cell wf k ns j hn μ
  simp only [call_s wf (k + 1) "_law_tape" (d := d__law_tape) rfl]
  let Γ := G.pr wf (k + 1)
  let q : Int := 2305843009213693951
  let R0 : Rho := [some (.scr ns), some (.int (j : Nat)), none, none, none, none, none]
  let R1 : Rho := [some (.scr ns), some (.int (j : Nat)), some (.int v), none, none, none, none]
  let R2 : Rho := [some (.scr ns), some (.int (j : Nat)), some (.int v), some (.int q), none, none, none]
  have st1 : evS Γ (.set (.one (.n 2)) (.call "_law_cell_at" (.cons (.v 0) (.cons (.v 1) .nil)))) R0 μ = some (.next, R1, μ) := s_set (e_call (es_2 (e_v rfl) (e_v rfl)) hv)
  have hc1 : evT Γ (.cmp .eq (.v 2) (.c (.int 0))) R1 μ = some (v == 0, μ) := t_cmp (e_v rfl) e_c (c_eqI _ v 0 μ)
  by_cases h0 : v = 0
  · refine ⟨0, run_retX R0 (ρ' := R1) rfl rfl rfl (sq st1 (sq_ret ?_))⟩
    rw [s_if hc1, if_pos (by simp [h0])]
    exact sq_ret (s_ret (e_lstM (es_1 e_c) (small (by simp))))
  · have st2 : evS Γ (.ife (.cmp .eq (.v 2) (.c (.int 0))) (.seq (.ret (.lst true (.cons (.c (.int 0)) .nil))) .nil) .nil) R1 μ = some (.next, R1, μ) := by
      rw [s_if hc1, if_neg (by simpa using h0)]; rfl
    have hp : ev Γ (.bin .pow (.c (.int 10)) (.c (.int 18))) R1 μ = some (.int (10 ^ 18), μ) := by kernel_rfl
    have hc2 : evT Γ (.cmp .ge (.v 2) (.bin .pow (.c (.int 10)) (.c (.int 18)))) R1 μ = some (decide ((10 : Int) ^ 18 ≤ v), μ) := t_cmp (e_v rfl) hp rfl
    by_cases h1 : (10 : Int) ^ 18 ≤ v
    · rw [decide_eq_true h1] at hc2
      refine ⟨v - 10 ^ 18, run_retX R0 (ρ' := R1) rfl rfl rfl (sq st1 (sq st2 (sq_ret ?_)))⟩
      rw [s_if hc2, if_pos rfl]
      exact sq_ret (s_ret (e_lstM (es_1 (e_bin (o := .sub) (d := .int (v - 10 ^ 18)) (e_v rfl) hp rfl)) (small (by simp))))
    · rw [decide_eq_false h1] at hc2
      have st3 : evS Γ (.ife (.cmp .ge (.v 2) (.bin .pow (.c (.int 10)) (.c (.int 18)))) (.seq (.ret (.lst true (.cons (.bin .sub (.v 2) (.bin .pow (.c (.int 10)) (.c (.int 18)))) .nil))) .nil) .nil) R1 μ = some (.next, R1, μ) := by
        rw [s_if hc2, if_neg Bool.false_ne_true]; rfl
      have st4 : evS Γ (.set (.one (.n 3)) (.c (.int 2305843009213693951))) R1 μ = some (.next, R2, μ) := s_set e_c
      let o0 : Int := (v * 48271 + 40692 * (j : Int) + 31).fmod q
      let R3 : Rho := [some (.scr ns), some (.int (j : Nat)), some (.int v), some (.int q), some (.int o0), none, none]
      let R4 : Rho := [some (.scr ns), some (.int (j : Nat)), some (.int v), some (.int q), some (.int o0), some (.int o0), none]
      have st5 : evS Γ (.set (.one (.n 4)) (.bin .mod (.bin .add (.bin .add (.bin .mul (.v 2) (.c (.int 48271))) (.bin .mul (.c (.int 40692)) (.v 1))) (.c (.int 31))) (.v 3))) R2 μ = some (.next, R3, μ) :=
        s_set (e_bin (d1 := .int (v * 48271 + 40692 * (j : Int) + 31)) (e_bin (d1 := .int (v * 48271 + 40692 * (j : Int))) (e_bin (e_bin (e_v rfl) e_c (o_mulR (by decide) (by decide))) (e_bin e_c (e_v rfl) (o_mulL (by decide) (by decide))) rfl) e_c rfl) (e_v rfl) (o_mod (by decide)))
      have st6 : evS Γ (.set (.one (.n 5)) (.v 4)) R3 μ = some (.next, R4, μ) := s_set (e_v rfl)
      let P : List D → Rho → Sto → Prop := fun xs ρ μ' => ∃ (one found : Int) (x6 : Option D), (∀ x ∈ xs, ∃ t : Int, x = .int t) ∧ ρ = [some (.scr ns), some (.int (j : Nat)), some (.int v), some (.int q), some (.int one), some (.int found), x6] ∧ 0 ≤ one ∧ one < q ∧ μ' = μ
      have hm0 : ∀ x : Int, 0 ≤ x.fmod q ∧ x.fmod q < q := fun x => ⟨Int.fmod_nonneg_of_pos _ (by decide), Int.fmod_lt_of_pos _ (by decide)⟩
      have hi : evI Γ (.rng (.c (.int 0)) (.c (.int 24))) R4 μ = some (((List.range 24).map fun a => D.int (a : Nat), none), μ) := by
        have := i_rng (Γ := Γ) (ρ := R4) (μ := μ) (e_c (d := .int 0)) (e_c (d := .int 24)) (b62 (by omega) (by omega)) (b62 (by omega) (by omega))
        exact this
      obtain ⟨R5, μ5, e5, one, found, x6, _, rfl, _, _, rfl⟩ := forL_inv (sc := false) (n := μ.length) (w := none) (f := fun x ρ μ => (DP.bind Γ (.one (.n 6)) x ρ μ).bind fun p => evS Γ tapeB p.1 p.2) P (by
        rintro x xs ρ μ' ⟨one, found, x6, hx, rfl, g1, g2, rfl⟩
        obtain ⟨t, rfl⟩ := hx x (by simp)
        let one' : Int := (one * one + 69621 * (t + 1) * ((j : Int) + 1) + v).fmod q
        let RA : Rho := [some (.scr ns), some (.int (j : Nat)), some (.int v), some (.int q), some (.int one), some (.int found), some (.int t)]
        let RB : Rho := [some (.scr ns), some (.int (j : Nat)), some (.int v), some (.int q), some (.int one'), some (.int found), some (.int t)]
        let RC : Rho := [some (.scr ns), some (.int (j : Nat)), some (.int v), some (.int q), some (.int one'), some (.int (found * q + one')), some (.int t)]
        have a1 : evS Γ (.set (.one (.n 4)) (.bin .mod (.bin .add (.bin .add (.bin .mul (.v 4) (.v 4)) (.bin .mul (.bin .mul (.c (.int 69621)) (.bin .add (.v 6) (.c (.int 1)))) (.bin .add (.v 1) (.c (.int 1))))) (.v 2)) (.v 3))) RA μ' = some (.next, RB, μ') :=
          s_set (e_bin (d1 := .int (one * one + 69621 * (t + 1) * ((j : Int) + 1) + v)) (e_bin (d1 := .int (one * one + 69621 * (t + 1) * ((j : Int) + 1))) (e_bin (d1 := .int (one * one)) (d2 := .int (69621 * (t + 1) * ((j : Int) + 1))) (e_bin (e_v rfl) (e_v rfl) (o_mulL (by omega) (by simp only [q] at g2; omega)))
            (e_bin (d1 := .int (69621 * (t + 1))) (d2 := .int ((j : Int) + 1)) (e_bin (d2 := .int (t + 1)) e_c (e_bin (e_v rfl) e_c rfl) (o_mulL (by decide) (by decide))) (e_bin (e_v rfl) e_c rfl) (o_mulR (by omega) (by omega))) rfl) (e_v rfl) rfl) (e_v rfl) (o_mod (by decide)))
        have a2 : evS Γ (.set (.one (.n 5)) (.bin .add (.bin .mul (.v 5) (.v 3)) (.v 4))) RB μ' = some (.next, RC, μ') := s_set (e_bin (d1 := .int (found * q)) (e_bin (e_v rfl) (e_v rfl) (o_mulR (by decide) (by decide))) (e_v rfl) rfl)
        have a3 : evS Γ tapeB RA μ' = some (.next, RC, μ') := sq a1 (sq a2 rfl)
        exact ⟨RC, μ', RC, μ', a3, rfl, rfl, one', found * q + one', some (.int t), fun y hy => hx y (by simp [hy]), rfl, (hm0 _).1, (hm0 _).2, rfl⟩) _ R4 μ ⟨o0, o0, none, fun x hx => by
          obtain ⟨a, _, rfl⟩ := List.mem_map.mp hx
          exact ⟨(a : Nat), rfl⟩, rfl, (hm0 _).1, (hm0 _).2, rfl⟩
      have st7 : evS Γ (.for_ false (.one (.n 6)) (.rng (.c (.int 0)) (.c (.int 24))) tapeB) R4 μ5 = some (.next, [some (.scr ns), some (.int (j : Nat)), some (.int v), some (.int q), some (.int one), some (.int found), x6], μ5) := s_for hi e5
      exact ⟨found, run_retX R0 rfl rfl rfl (sq st1 (sq st2 (sq st3 (sq st4 (sq st5 (sq st6 (sq st7 (sq_ret (s_ret (e_lstM (es_1 (e_v rfl)) (small (by simp))))))))))))⟩
end P99

/-! k99 in plain Lean: great crowds; the law. -/
namespace P99
open PySem PySem.Spec L2 DP LW

theorem forL_of {sc : Bool} {n : Nat} {w : Wt} {f : D → Rho → Sto → Fr} {P : List D → Rho → Sto → Prop} {xs : List D} {ρ : Rho} {μ : Sto} (h : P xs ρ μ)
    (hf : ∀ x xs ρ μ, P (x :: xs) ρ μ → ∃ ρ1 μ1 ρ2 μ2, f x ρ μ = some (.next, ρ1, μ1) ∧ watch w μ1 = true ∧ (if sc then cut n ρ1 μ1 else some (ρ1, μ1)) = some (ρ2, μ2) ∧ P xs ρ2 μ2) :
    ∃ ρ' μ', forL sc n w f xs ρ μ = some (.next, ρ', μ') ∧ P [] ρ' μ' := forL_inv P hf xs ρ μ h
def cutV (n : Nat) (o : Option D) : Option D := match o with | some d => if D.under n d then some d else none | none => none
theorem cut_eq {n : Nat} {ρ : Rho} {μ : Sto} (h : (μ.take n).all (cutOk n) = true) : cut n ρ μ = some (ρ.map (cutV n), μ.take n) := by
  simp only [cut, h, if_true]; rfl
theorem cut_ok {n : Nat} {ρ : Rho} {μ μ' : Sto} (hμ : μ.take n = μ') (hn : μ'.length = n) (ok : Ok μ') : cut n ρ μ = some (ρ.map (cutV n), μ') := by
  subst hμ
  refine cut_eq ?_
  unfold Ok at ok
  rw [hn] at ok
  exact ok
theorem thr_cut (m n : Nat) (hn : n + 2 < m) (s : Sen) (f : List (List Th)) (cs : List Int) : ∀ c ∈ thr n s f cs, cutOk m c = true := by
  intro c hc
  simp only [thr, List.mem_cons, List.not_mem_nil, or_false] at hc
  rcases hc with rfl | rfl | rfl
  · exact cut_ins (by omega) (by omega)
  · exact under_fD _ _
  · exact by_under _ _
theorem copy_cut (m L : Nat) (hn : L + 4 < m) (s : Sen) (t : Nat) (f : List (List Th)) (cs : List Int) : ∀ c ∈ copyR L s t f cs, cutOk m c = true := by
  intro c hc
  simp only [copyR, List.mem_cons, List.not_mem_nil, or_false] at hc
  rcases hc with rfl | rfl | rfl | rfl | rfl
  · exact cut_ins (by omega) (by omega)
  · rfl
  · exact by_under _ _
  · exact under_fD _ _
  · exact by_under _ _
theorem gw_str (wf k i : Nat) (hi : i < 3) {ρ : Rho} {μ : Sto} {j : Nat} (hj : ρ[j]? = some (some (.int (i : Nat)))) : ev (G.pr wf k) (.sl false (.c (.str "abc")) (.cons (.v j) .nil) (.cons (.bin .add (.v j) (.c (.int 1))) .nil)) ρ μ = some (.str (gw i), μ) := by
  have e1 : ev (G.pr wf k) (.v j) ρ μ = some (.int (i : Nat), μ) := e_v hj
  have e2 : ev (G.pr wf k) (.bin .add (.v j) (.c (.int 1))) ρ μ = some (.int ((i : Int) + 1), μ) := e_bin e1 e_c rfl
  have e3 : slD false (.str "abc") (some (i : Nat)) (some ((i : Int) + 1)) μ = some (.str (gw i), μ) := by
    rcases (show i = 0 ∨ i = 1 ∨ i = 2 by omega) with rfl | rfl | rfl <;> kernel_rfl
  have e4 : evP (G.pr wf k) (.cons (.v j) .nil) ρ μ = some (some ((i : Nat) : Int), μ) := by simp only [evP, e1, bnd_some]
  have e5 : evP (G.pr wf k) (.cons (.bin .add (.v j) (.c (.int 1))) .nil) ρ μ = some (some ((i : Int) + 1), μ) := by
    show bnd (ev (G.pr wf k) (.bin .add (.v j) (.c (.int 1))) ρ μ) _ = _
    rw [e2]; rfl
  show bnd (ev (G.pr wf k) (.c (.str "abc")) ρ μ) _ = _
  rw [e_c]
  show bnd (evP (G.pr wf k) (.cons (.v j) .nil) ρ μ) _ = _
  rw [e4]
  show bnd (evP (G.pr wf k) (.cons (.bin .add (.v j) (.c (.int 1))) .nil) ρ μ) _ = _
  rw [e5]
  exact e3
theorem atomOk {a : At} {t : Nat} (h : a.ws.length = t) (h1 : 1 ≤ t) (h3 : t ≤ 3) : SenOk (.atom a) t := ⟨by simp [Sen.ats, h], h1, h3, by simp [Sen.dep], by simp [Sen.ats], by simp [Sen.ats]⟩
/-- the store of a great throng, alone and with its copy -/
def g1 (v : Int) (s : Sen) (f : List (List Th)) (cs : List Int) : Sto := .lst [.int v] :: thr 1 s f cs
def g2 (v : Int) (s : Sen) (t : Nat) (f g : List (List Th)) (cs : List Int) : Sto := g1 v s f cs ++ copyR 4 s t g cs
section
variable {v : Int} {s : Sen} {t : Nat} {f g : List (List Th)} {cs : List Int}
theorem g1_has : Has (g1 v s f cs) 1 2 3 s f (byD cs) (.lst []) := ⟨rfl, rfl, rfl⟩
theorem g1_ok : Ok (g1 v s f cs) := by
  have := thr_cut 4 1 (by omega) s f cs
  show (g1 v s f cs).all (cutOk 4) = true
  simp only [List.all_eq_true, g1, List.mem_cons]
  rintro c (rfl | hc)
  · rfl
  · exact this c hc
theorem g2_has : Has (g2 v s t f g cs) 1 2 3 s f (byD cs) (.lst []) := ⟨rfl, rfl, rfl⟩
theorem g2_has' : Has (g2 v s t f g cs) 4 7 8 s g (byD cs) (.lst []) := ⟨rfl, rfl, rfl⟩
theorem g2_ok : Ok (g2 v s t f g cs) := by
  have h1 := thr_cut 9 1 (by omega) s f cs
  have h2 := copy_cut 9 4 (by omega) s t g cs
  show (g2 v s t f g cs).all (cutOk 9) = true
  simp only [List.all_eq_true, g2, g1, List.mem_append, List.mem_cons]
  rintro c ((rfl | hc) | hc)
  · rfl
  · exact h1 c hc
  · exact h2 c hc
end
theorem g_digit (wf k : Nat) (v : Int) (s : Sen) (f : List (List Th)) (cs : List Int) {t : Int} (h1 : 0 < t) (h2 : t < 1073741824) : ∃ (d v' : Int), 0 ≤ d ∧ d < t ∧ (G.pr wf (k + 1)).call "_law_digit" [.cell 0, .int t] (g1 v s f cs) = some (.int d, g1 v' s f cs) :=
  digit wf (μ := g1 0 s f cs) (m := 0) (by show 0 < 4; decide) k v h1 h2
def comB : S := (.seq (.ex (.meth (.v 2) "come" (.cons (.sl false (.c (.str "abc")) (.cons (.v 4) .nil) (.cons (.bin .add (.v 4) (.c (.int 1))) .nil)) (.cons (.ix (.lst false (.cons (.bin .sub (.v 3) (.c (.int 15))) (.cons (.c (.int 15)) .nil))) (.v 4)) .nil)))) .nil)
def grtB : S := (.seq (.set (.one (.n 6)) (.meth (.v 2) "copy" .nil)) (.seq (.for_ true (.tup [(.n 7), (.n 8)]) (.cons (.call "_law_pairs" (.cons (.lenO (.v 2)) (.cons (.cmp .eq (.v 5) (.c (.int 1))) .nil))) .nil) (.seq (.ex (.meth (.v 6) "meet" (.cons (.v 7) (.cons (.v 8) .nil)))) .nil)) (.seq (.ex (.meth (.v 2) "stretch" (.cons (.cmp .eq (.v 5) (.c (.int 1))) .nil))) (.seq (.set (.one (.n 9)) (saysE 6 10 (.lenO (.v 6)))) (.seq (.ife (.or (.cmp .ne (saysE 2 10 (.lenO (.v 2))) (.v 9)) (.cmp .ne (.v 2) (.v 6))) (.seq (.ret (.c (.bl false))) .nil) .nil) .nil)))))
/-- one turn of a great throng -/
theorem great_turn {wf k t : Nat} {v : Int} {s : Sen} {f : List (List Th)} {cs : List Int} (hs : SenOk s t) (hw : 3 < wf) (hf : Fits s f) (hm : f.length ≤ 100) (fo turn : Int) (x4 x6 x7 x8 x9 x10 : Option D) :
    ∃ (f' : List (List Th)) (y4 y7 y8 y9 y10 : Option D), Fits s f' ∧ f'.length = f.length ∧ evS (G.pr wf (k + 8)) grtB [some (.cell 0), some (.int (t : Nat)), some (.cell 1), some (.int fo), x4, some (.int turn), x6, x7, x8, x9, x10] (g1 v s f cs) =
      some (.next, [some (.cell 0), some (.int (t : Nat)), some (.cell 1), some (.int fo), y4, some (.int turn), some (.cell 4), y7, y8, y9, y10], g2 v s t f' f' cs) := by
  let Γ := G.pr wf (k + 8)
  have hd := hs.dep
  have h4 := hs.at4
  let b : Bool := turn == 1
  let ps := prsB b f.length
  let F := seqF s.ats f ps
  have hF : F.length = f.length := seqF_len _ _ _
  have hfF : Fits s F := seqF_fits ps f hf
  let A : Rho := [some (.cell 0), some (.int (t : Nat)), some (.cell 1), some (.int fo), x4, some (.int turn), x6, x7, x8, x9, x10]
  let B : Rho := [some (.cell 0), some (.int (t : Nat)), some (.cell 1), some (.int fo), x4, some (.int turn), some (.cell 4), x7, x8, x9, x10]
  have t1 : evS Γ (.set (.one (.n 6)) (.meth (.v 2) "copy" .nil)) A (g1 v s f cs) = some (.next, B, g2 v s t f f cs) :=
    s_set (e_meth (e_v rfl) (recv_T g1_has rfl) es_nil (run_copy (k := k + 2) g1_has g1_ok hs hw (by omega) hf))
  let P : List D → Rho → Sto → Prop := fun xs ρ μ => ∃ (l : List (Nat × Nat)) (g : List (List Th)) (y4 y7 y8 y9 y10 : Option D), xs = l.map prD ∧ ρ = [some (.cell 0), some (.int (t : Nat)), some (.cell 1), some (.int fo), y4, some (.int turn), some (.cell 4), y7, y8, y9, y10] ∧ μ = g2 v s t f g cs ∧ seqF s.ats g l = F ∧ Fits s g ∧ g.length = f.length ∧ (∀ p ∈ l, PairOk f.length p)
  have hlp : evI Γ (.cons (.call "_law_pairs" (.cons (.lenO (.v 2)) (.cons (.cmp .eq (.v 5) (.c (.int 1))) .nil))) .nil) B (g2 v s t f f cs) = some ((ps.map prD, none), g2 v s t f f cs) :=
    i_one (e_call (es_2 (e_lenT g2_has (e_v rfl) (by omega)) (e_cmp (e_v rfl) e_c (c_eqI _ turn 1 _))) (run_lpairs wf (k + 7) f.length hm b _ g2_ok))
  obtain ⟨ρ2, μ2, e2, l, g, y4, y7, y8, y9, y10, hl, rfl, rfl, hg, hfg, hgl, _⟩ := forL_of (sc := true) (n := (g2 v s t f f cs).length) (w := none) (f := fun x ρ μ => (DP.bind Γ (.tup [(.n 7), (.n 8)]) x ρ μ).bind fun p => evS Γ (.seq (.ex (.meth (.v 6) "meet" (.cons (.v 7) (.cons (.v 8) .nil)))) .nil) p.1 p.2) (P := P)
    (xs := ps.map prD) (ρ := B) (μ := g2 v s t f f cs) ⟨ps, f, x4, x7, x8, x9, x10, rfl, rfl, rfl, rfl, hf, rfl, fun p hp => prsB_ok hp⟩ (by
    rintro x xs ρ μ ⟨l, g, y4, y7, y8, y9, y10, hl, rfl, rfl, hg, hfg, hgl, hp⟩
    cases l with
    | nil => cases hl
    | cons p l =>
      simp only [List.map_cons, List.cons.injEq] at hl
      obtain ⟨rfl, rfl⟩ := hl
      have hpk := hp p (by simp)
      have e1 : g[p.1]? = some (g[p.1]'(by rw [hgl]; exact hpk.1)) := by rw [List.getElem?_eq_getElem]
      have e2 : g[p.2]? = some (g[p.2]'(by rw [hgl]; exact hpk.2.1)) := by rw [List.getElem?_eq_getElem]
      have hmt := run_meet (wf := wf) (k := k + 4) (g2_has' (v := v) (t := t) (f := f) (g := g) (cs := cs) (s := s)) (by decide) (by decide) e1 e2 hpk.2.2 (by omega) (hfg _ (List.mem_of_getElem? e1)) (hfg _ (List.mem_of_getElem? e2))
      let g' := (chg s.ats g p).1
      have hg' : (g.set p.1 (one1 s.ats (g[p.1]'(by rw [hgl]; exact hpk.1)) (g[p.2]'(by rw [hgl]; exact hpk.2.1)))).set p.2 (two2 s.ats (g[p.1]'(by rw [hgl]; exact hpk.1)) (g[p.2]'(by rw [hgl]; exact hpk.2.1))) = g' := by simp only [g', chg, e1, e2]
      rw [hg'] at hmt
      let C : Rho := [some (.cell 0), some (.int (t : Nat)), some (.cell 1), some (.int fo), y4, some (.int turn), some (.cell 4), some (.int (p.1 : Nat)), some (.int (p.2 : Nat)), y9, y10]
      have e3 : evS Γ (.seq (.ex (.meth (.v 6) "meet" (.cons (.v 7) (.cons (.v 8) .nil)))) .nil) C (g2 v s t f g cs) = some (.next, C, g2 v s t f g' cs) :=
        sq (s_ex (e_meth (e_v rfl) (recv_T g2_has' rfl) (es_2 (e_v rfl) (e_v rfl)) hmt)) rfl
      refine ⟨C, g2 v s t f g' cs, C.map (cutV 9), g2 v s t f g' cs, e3, rfl, ?_, l, g', cutV 9 y4, some (.int (p.1 : Nat)), some (.int (p.2 : Nat)), cutV 9 y9, cutV 9 y10, rfl, rfl, rfl, hg, chg_fits hfg p, (chg_len _ _ _).trans hgl, fun q hq => hp q (by simp [hq])⟩
      rw [if_pos rfl]
      exact cut_ok (n := 9) rfl rfl g2_ok)
  cases l with
  | cons p l => cases hl
  | nil =>
  obtain rfl : g = F := hg
  let C : Rho := [some (.cell 0), some (.int (t : Nat)), some (.cell 1), some (.int fo), y4, some (.int turn), some (.cell 4), y7, y8, y9, y10]
  let W := (wordsL s F).map wordD
  let D' : Rho := [some (.cell 0), some (.int (t : Nat)), some (.cell 1), some (.int fo), y4, some (.int turn), some (.cell 4), y7, y8, some (.lst W), y10]
  have t2 : evS Γ (.for_ true (.tup [(.n 7), (.n 8)]) (.cons (.call "_law_pairs" (.cons (.lenO (.v 2)) (.cons (.cmp .eq (.v 5) (.c (.int 1))) .nil))) .nil) (.seq (.ex (.meth (.v 6) "meet" (.cons (.v 7) (.cons (.v 8) .nil)))) .nil)) B (g2 v s t f f cs) = some (.next, C, g2 v s t f F cs) := s_for hlp e2
  have t3 : evS Γ (.ex (.meth (.v 2) "stretch" (.cons (.cmp .eq (.v 5) (.c (.int 1))) .nil))) C (g2 v s t f F cs) = some (.next, C, g2 v s t F F cs) :=
    s_ex (e_meth (e_v rfl) (recv_T g2_has rfl) (es_1 (e_cmp (e_v rfl) e_c (c_eqI _ turn 1 _))) (run_stretch (wf := wf) (k := k + 4) (g2_has (v := v) (t := t) (f := f) (g := F) (cs := cs) (s := s)) (by decide) (by decide) (by omega) hf hm b))
  have t4 : evS Γ (.set (.one (.n 9)) (saysE 6 10 (.lenO (.v 6)))) C (g2 v s t F F cs) = some (.next, D', g2 v s t F F cs) :=
    s_set (ev_says (k := k + 6) g2_has' g2_ok hfF (by omega) (by omega) (by omega) (t := 6) (j := 10) rfl (by decide) (by show 10 < 11; decide) (e_lenT g2_has' (e_v rfl) (by omega)))
  have e5 : ev Γ (saysE 2 10 (.lenO (.v 2))) D' (g2 v s t F F cs) = some (.lst W, g2 v s t F F cs) :=
    ev_says (k := k + 6) g2_has g2_ok hfF (by omega) (by omega) (by omega) (t := 2) (j := 10) rfl (by decide) (by show 10 < 11; decide) (e_lenT g2_has (e_v rfl) (by omega))
  have t5 : evS Γ (.ife (.or (.cmp .ne (saysE 2 10 (.lenO (.v 2))) (.v 9)) (.cmp .ne (.v 2) (.v 6))) (.seq (.ret (.c (.bl false))) .nil) .nil) D' (g2 v s t F F cs) = some (.next, D', g2 v s t F F cs) := by
    have e := t_cmp e5 (e_v (i := 9) (ρ := D') rfl) (c_words Γ (wordsL s F) (wordsL s F) (g2 v s t F F cs))
    rw [beq_self_eq_true] at e
    rw [s_if (t_or e (t_cmp (e_v (i := 2) (ρ := D') rfl) (e_v (i := 6) (ρ := D') rfl) (c_neT (k := k + 5) g2_has g2_has' g2_ok hfF (by omega) (by omega) (by omega) (by omega))))]
    rfl
  exact ⟨F, y4, y7, y8, some (.lst W), y10, hfF, hF, sq t1 (sq t2 (sq t3 (sq t4 (sq t5 rfl))))⟩
theorem natD {d : Int} (h : 0 ≤ d) : ∃ n : Nat, d = (n : Int) := ⟨d.toNat, by omega⟩
theorem run_great (wf k : Nat) (hw : 3 < wf) (v : Int) : ∃ v', (G.pr wf (k + 9)).call "_law_great_right" [.cell 0] [.lst [.int v]] = some (.bl true, [.lst [.int v']]) := by
  simp only [call_s wf (k + 8) "_law_great_right" (d := d__law_great_right) rfl]
  let Γ := G.pr wf (k + 8)
  obtain ⟨d1, v1, a1, a2, e1⟩ := digit wf (μ := [.dead]) (m := 0) (by show 0 < 1; decide) (k + 7) v (t := 2) (by omega) (by omega)
  obtain ⟨n1, rfl⟩ := natD a1
  let t := 1 + n1
  have ht : 1 ≤ t ∧ t ≤ 2 := by simp only [t]; omega
  obtain ⟨a, v2, ha, e2⟩ := atom wf (μ := [.dead]) (m := 0) (by show 0 < 1; decide) (k + 5) v1 t (by omega)
  have hs : SenOk (.atom a) t := atomOk ha ht.1 (by omega)
  let s : Sen := .atom a
  obtain ⟨d3, v3, b1, b2, e3⟩ := g_digit wf (k + 7) v2 s [] (List.replicate t 0) (t := 30) (by omega) (by omega)
  obtain ⟨n3, rfl⟩ := natD b1
  let q := 16 + n3
  let fo : Int := 31 + (n3 : Int)
  let R0 : Rho := [some (.cell 0), none, none, none, none, none, none, none, none, none, none]
  let R1 : Rho := [some (.cell 0), some (.int (t : Nat)), none, none, none, none, none, none, none, none, none]
  let R2 : Rho := [some (.cell 0), some (.int (t : Nat)), some (.cell 1), none, none, none, none, none, none, none, none]
  let R3 : Rho := [some (.cell 0), some (.int (t : Nat)), some (.cell 1), some (.int fo), none, none, none, none, none, none, none]
  have st1 : evS Γ (.set (.one (.n 1)) (.bin .add (.c (.int 1)) (.call "_law_digit" (.cons (.v 0) (.cons (.c (.int 2)) .nil))))) R0 [.lst [.int v]] = some (.next, R1, [.lst [.int v1]]) :=
    s_set (e_bin (d := .int (t : Nat)) (e_c (d := .int 1)) (e_call (es_2 (e_v rfl) e_c) e1) (by show some (D.int (1 + (n1 : Int))) = some (.int ((1 + n1 : Nat) : Int)); congr 2))
  have st2 : evS Γ (.set (.one (.n 2)) (.make false "Throng" (.cons (.call "_law_atom" (.cons (.v 0) (.cons (.v 1) .nil))) .nil))) R1 [.lst [.int v1]] = some (.next, R2, g1 v2 s [] (List.replicate t 0)) :=
    s_set (ev_make hs wf (k + 3) hw (μ1 := [.lst [.int v2]]) rfl (e_call (es_2 (e_v rfl) (e_v rfl)) e2))
  have st3 : evS Γ (.set (.one (.n 3)) (.bin .add (.c (.int 31)) (.call "_law_digit" (.cons (.v 0) (.cons (.c (.int 30)) .nil))))) R2 (g1 v2 s [] (List.replicate t 0)) = some (.next, R3, g1 v3 s [] (List.replicate t 0)) :=
    s_set (e_bin (d := .int fo) (e_c (d := .int 31)) (e_call (es_2 (e_v rfl) e_c) e3) rfl)
  have hi4 : evI Γ (.rng (.c (.int 0)) (.v 1)) R3 (g1 v3 s [] (List.replicate t 0)) = some (((List.range t).map fun a => D.int (a : Nat), none), g1 v3 s [] (List.replicate t 0)) := by
    have := i_rng (Γ := Γ) (ρ := R3) (μ := g1 v3 s [] (List.replicate t 0)) (e_c (d := .int 0)) (e_v (i := 1) (d := .int (t : Nat)) rfl) (b62 (by omega) (by omega)) (b62 (by omega) (by omega))
    rw [rng0] at this
    exact this
  let P4 : List D → Rho → Sto → Prop := fun xs ρ μ => ∃ (l : List Nat) (f : List (List Th)) (cs : List Int) (x4 : Option D), xs = l.map (fun a => D.int (a : Nat)) ∧ (∀ i ∈ l, i < t) ∧ ρ = [some (.cell 0), some (.int (t : Nat)), some (.cell 1), some (.int fo), x4, none, none, none, none, none, none] ∧ μ = g1 v3 s f cs ∧ cs.length = t ∧ Fits s f ∧ f.length + 50 * l.length ≤ 100
  obtain ⟨ρ4, μ4, e4, l4, f4, cs4, x4, _, _, rfl, rfl, hc4, hf4, hm4⟩ := forL_of (sc := true) (n := (g1 v3 s [] (List.replicate t 0)).length) (w := none) (f := fun x ρ μ => (DP.bind Γ (.one (.n 4)) x ρ μ).bind fun p => evS Γ comB p.1 p.2) (P := P4)
    (xs := (List.range t).map fun a => D.int (a : Nat)) (ρ := R3) (μ := g1 v3 s [] (List.replicate t 0)) ⟨List.range t, [], List.replicate t 0, none, rfl, fun i hi => List.mem_range.mp hi, rfl, rfl, by simp, fun ts h => by simp at h, by simp; omega⟩ (by
    rintro x xs ρ μ ⟨l, f, cs, x4, hl, hlt, rfl, rfl, hc, hf, hm⟩
    cases l with
    | nil => cases hl
    | cons i l =>
      simp only [List.map_cons, List.cons.injEq] at hl
      obtain ⟨rfl, rfl⟩ := hl
      have hi := hlt i (by simp)
      let C : Rho := [some (.cell 0), some (.int (t : Nat)), some (.cell 1), some (.int fo), some (.int (i : Nat)), none, none, none, none, none, none]
      simp only [List.length_cons] at hm
      have hmany : ∃ many : Nat, many ≤ 50 ∧ ixD (.lst [.int (fo - 15), .int 15]) (.int (i : Nat)) (g1 v3 s f cs) = some (.int (many : Nat)) := by
        rcases (show i = 0 ∨ i = 1 by omega) with rfl | rfl
        · refine ⟨q, by simp only [q]; omega, ?_⟩
          have : fo - 15 = (q : Int) := by simp only [fo, q]; omega
          rw [this]; rfl
        · exact ⟨15, by omega, rfl⟩
      obtain ⟨many, hmy, hix⟩ := hmany
      obtain ⟨d, c, hcc, ec⟩ := run_come (wf := wf) (k := k + 7) (g1_has (v := v3) (s := s) (f := f) (cs := cs)) (by decide) (by decide) (by decide) hs hc hi many (by omega) (by omega)
      let f' := f ++ List.replicate many (beg s i)
      let cs' := cs.set i (c + many)
      have eb : evS Γ comB C (g1 v3 s f cs) = some (.next, C, g1 v3 s f' cs') :=
        sq (s_ex (e_meth (e_v rfl) (recv_T g1_has rfl) (es_2 (gw_str wf (k + 8) i (by omega) rfl) (e_ix (d1 := .lst [.int (fo - 15), .int 15]) (e_lst (es_2 (e_bin (e_v rfl) e_c rfl) e_c) (small (by simp))) (e_v rfl) hix)) ec)) rfl
      refine ⟨C, g1 v3 s f' cs', C.map (cutV 4), g1 v3 s f' cs', eb, rfl, ?_, l, f', cs', some (.int (i : Nat)), rfl, fun j hj => hlt j (by simp [hj]), rfl, rfl, by simp [cs', hc], ?_, by simp [f']; omega⟩
      · rw [if_pos rfl]
        exact cut_ok (n := 4) rfl rfl g1_ok
      · intro ts hts
        simp only [f', List.mem_append] at hts
        rcases hts with hts | hts
        · exact hf ts hts
        · rw [(List.mem_replicate.mp hts).2]; exact beg_fits s i)
  let R4 : Rho := [some (.cell 0), some (.int (t : Nat)), some (.cell 1), some (.int fo), x4, none, none, none, none, none, none]
  have st4 : evS Γ (.for_ true (.one (.n 4)) (.rng (.c (.int 0)) (.v 1)) comB) R3 (g1 v3 s [] (List.replicate t 0)) = some (.next, R4, g1 v3 s f4 cs4) := s_for hi4 e4
  have hi5 : evI Γ (.rng (.c (.int 0)) (.c (.int 2))) R4 (g1 v3 s f4 cs4) = some (((List.range 2).map fun a => D.int (a : Nat), none), g1 v3 s f4 cs4) := by
    have := i_rng (Γ := Γ) (ρ := R4) (μ := g1 v3 s f4 cs4) (e_c (d := .int 0)) (e_c (d := .int 2)) (b62 (by omega) (by omega)) (b62 (by omega) (by omega))
    exact this
  let P5 : List D → Rho → Sto → Prop := fun xs ρ μ => ∃ (f : List (List Th)) (y4 y5 y6 y7 y8 y9 y10 : Option D), (∀ x ∈ xs, ∃ j : Nat, x = .int (j : Nat)) ∧ ρ = [some (.cell 0), some (.int (t : Nat)), some (.cell 1), some (.int fo), y4, y5, y6, y7, y8, y9, y10] ∧ μ = g1 v3 s f cs4 ∧ Fits s f ∧ f.length ≤ 100
  obtain ⟨ρ5, μ5, e5, f5, y4, y5, y6, y7, y8, y9, y10, _, rfl, rfl, _, _⟩ := forL_of (sc := true) (n := (g1 v3 s f4 cs4).length) (w := none) (f := fun x ρ μ => (DP.bind Γ (.one (.n 5)) x ρ μ).bind fun p => evS Γ grtB p.1 p.2) (P := P5)
    (xs := (List.range 2).map fun a => D.int (a : Nat)) (ρ := R4) (μ := g1 v3 s f4 cs4) ⟨f4, x4, none, none, none, none, none, none, fun x hx => by
      obtain ⟨j, _, rfl⟩ := List.mem_map.mp hx
      exact ⟨j, rfl⟩, rfl, rfl, hf4, by omega⟩ (by
    rintro x xs ρ μ ⟨f, y4, y5, y6, y7, y8, y9, y10, hx, rfl, rfl, hf, hm⟩
    obtain ⟨j, rfl⟩ := hx x (by simp)
    obtain ⟨f', z4, z7, z8, z9, z10, hf', hl', eb⟩ := great_turn (wf := wf) (k := k) (v := v3) (cs := cs4) hs hw hf hm fo (j : Nat) y4 y6 y7 y8 y9 y10
    let C : Rho := [some (.cell 0), some (.int (t : Nat)), some (.cell 1), some (.int fo), z4, some (.int (j : Nat)), some (.cell 4), z7, z8, z9, z10]
    refine ⟨C, g2 v3 s t f' f' cs4, C.map (cutV 4), g1 v3 s f' cs4, eb, rfl, ?_, f', cutV 4 z4, some (.int (j : Nat)), none, cutV 4 z7, cutV 4 z8, cutV 4 z9, cutV 4 z10, fun y hy => hx y (by simp [hy]), rfl, rfl, hf', by omega⟩
    rw [if_pos rfl]
    exact cut_ok (n := 4) rfl rfl g1_ok)
  have st5 : evS Γ (.for_ true (.one (.n 5)) (.rng (.c (.int 0)) (.c (.int 2))) grtB) R4 (g1 v3 s f4 cs4) = some (.next, [some (.cell 0), some (.int (t : Nat)), some (.cell 1), some (.int fo), y4, y5, y6, y7, y8, y9, y10], g1 v3 s f5 cs4) := s_for hi5 e5
  have := run_retC (Γ := Γ) (df := d__law_great_right) (as := [.cell 0]) (μ := [.lst [.int v]]) (d := .bl true) rfl rfl (sq st1 (sq st2 (sq st3 (sq st4 (sq st5 (sq_ret (s_ret e_c))))))) rfl rfl
  exact ⟨v3, this⟩
end P99

/-! k99 in plain Lean: the law. -/
namespace P99
open PySem PySem.Spec L2 DP LW

def l1 (u v : Int) (s : Sen) (f : List (List Th)) (cs : List Int) : Sto := .lst [.int u] :: .lst [.int v] :: thr 2 s f cs
def l2 (u v : Int) (s : Sen) (t : Nat) (f g : List (List Th)) (cs : List Int) : Sto := l1 u v s f cs ++ copyR 5 s t g cs
section
variable {u v : Int} {s : Sen} {t : Nat} {f g : List (List Th)} {cs : List Int}
theorem l1_has : Has (l1 u v s f cs) 2 3 4 s f (byD cs) (.lst []) := ⟨rfl, rfl, rfl⟩
theorem l1_ok : Ok (l1 u v s f cs) := by
  have := thr_cut 5 2 (by omega) s f cs
  show (l1 u v s f cs).all (cutOk 5) = true
  simp only [List.all_eq_true, l1, List.mem_cons]
  rintro c (rfl | rfl | hc)
  · rfl
  · rfl
  · exact this c hc
theorem l2_has : Has (l2 u v s t f g cs) 2 3 4 s f (byD cs) (.lst []) := ⟨rfl, rfl, rfl⟩
theorem l2_has' : Has (l2 u v s t f g cs) 5 8 9 s g (byD cs) (.lst []) := ⟨rfl, rfl, rfl⟩
theorem l2_ok : Ok (l2 u v s t f g cs) := by
  have h1 := thr_cut 10 2 (by omega) s f cs
  have h2 := copy_cut 10 5 (by omega) s t g cs
  show (l2 u v s t f g cs).all (cutOk 10) = true
  simp only [List.all_eq_true, l2, l1, List.mem_append, List.mem_cons]
  rintro c ((rfl | rfl | hc) | hc)
  · rfl
  · rfl
  · exact h1 c hc
  · exact h2 c hc
theorem l1_digit (wf k : Nat) {t : Int} (h1 : 0 < t) (h2 : t < 1073741824) : ∃ (d v' : Int), 0 ≤ d ∧ d < t ∧ (G.pr wf (k + 1)).call "_law_digit" [.cell 1, .int t] (l1 u v s f cs) = some (.int d, l1 u v' s f cs) :=
  digit wf (μ := l1 u 0 s f cs) (m := 1) (by show 1 < 5; decide) k v h1 h2
theorem l2_digit (wf k : Nat) {t' : Int} (h1 : 0 < t') (h2 : t' < 1073741824) : ∃ (d v' : Int), 0 ≤ d ∧ d < t' ∧ (G.pr wf (k + 1)).call "_law_digit" [.cell 1, .int t'] (l2 u v s t f g cs) = some (.int d, l2 u v' s t f g cs) :=
  digit wf (μ := l2 u 0 s t f g cs) (m := 1) (by show 1 < 10; decide) k v h1 h2
end
def lawB1 : S := (.seq (.set (.one (.n 7)) (.call "_law_digit" (.cons (.v 2) (.cons (.v 3) .nil)))) (.seq (.ex (.meth (.v 5) "come" (.cons (.sl false (.c (.str "abc")) (.cons (.v 7) .nil) (.cons (.bin .add (.v 7) (.c (.int 1))) .nil)) (.cons (.c (.int 1)) .nil)))) .nil))
def lawB2 : S := (.seq (.set (.one (.n 9)) (.call "_law_digit" (.cons (.v 2) (.cons (.v 8) .nil)))) (.seq (.set (.one (.n 10)) (.call "_law_digit" (.cons (.v 2) (.cons (.bin .sub (.v 8) (.c (.int 1))) .nil)))) (.seq (.ex (.meth (.v 5) "meet" (.cons (.v 9) (.cons (.bin .add (.v 10) (.bi .int1 false (.cons (.cmp .ge (.v 10) (.v 9)) .nil))) .nil)))) .nil)))
def lawB3 : S := (.seq (.ife (.not (.cons (.call "_law_stretch_right" (.cons (.v 5) (.cons (.v 11) (.cons (.call "_law_digit" (.cons (.v 2) (.cons (.c (.int 3)) .nil))) .nil)))) .nil)) (.seq (.ret (.c (.bl false))) .nil) .nil) .nil)
def lawB : S := (.seq (.set (.one (.n 2)) (.call "_law_tape" (.cons (.v 0) (.cons (.v 1) .nil)))) (.seq (.set (.one (.n 3)) (.bin .add (.c (.int 1)) (.call "_law_digit" (.cons (.v 2) (.cons (.c (.int 3)) .nil))))) (.seq (.set (.one (.n 4)) (.call "_law_wide_sentence" (.cons (.v 2) (.cons (.v 3) (.cons (.bin .add (.c (.int 1)) (.call "_law_digit" (.cons (.v 2) (.cons (.c (.int 4)) .nil)))) (.cons (.c (.int 3)) .nil)))))) (.seq (.set (.one (.n 5)) (.make false "Throng" (.cons (.v 4) .nil))) (.seq (.ife (.or (.cmp .ne (.meth (.v 5) "stretch" (.cons (.c (.bl false)) .nil)) (.c (.int 0))) (.cmp .notN (.meth (.v 5) "said" .nil) (.c .non))) (.seq (.ret (.c (.bl false))) .nil) .nil) (.seq (.ex (.meth (.v 5) "come" (.cons (.c (.str "a")) (.cons (.c (.int 1)) .nil)))) (.seq (.ife (.cmp .ne (.meth (.v 5) "stretch" (.cons (.c (.bl true)) .nil)) (.c (.int 0))) (.seq (.ret (.c (.bl false))) .nil) .nil) (.seq (.for_ true (.one (.n 6)) (.rng (.c (.int 0)) (.bin .add (.c (.int 1)) (.call "_law_digit" (.cons (.v 2) (.cons (.c (.int 8)) .nil))))) lawB1) (.seq (.set (.one (.n 8)) (.lenO (.v 5))) (.seq (.for_ true (.one (.n 6)) (.rng (.c (.int 0)) (.call "_law_digit" (.cons (.v 2) (.cons (.c (.int 9)) .nil)))) lawB2) (.seq (.set (.one (.n 11)) (.meth (.v 5) "copy" .nil)) (.seq (.for_ true (.one (.n 6)) (.rng (.c (.int 0)) (.c (.int 4))) lawB3) .nil))))))))))))
theorem b_law_eq : b_law = (.seq (.ife (.not (.cons (.call "_law_great_right" (.cons (.call "_law_tape" (.cons (.v 0) (.cons (.c (.int 6)) .nil))) .nil)) .nil)) (.seq (.ret (.c (.bl false))) .nil) .nil) (.seq (.for_ true (.one (.n 1)) (.rng (.c (.int 0)) (.bi .max2 false (.cons (.c (.int 3)) (.cons (.bi .min2 false (.cons (.c (.int 6)) (.cons (.bi .len false (.cons (.v 0) .nil)) .nil))) .nil)))) lawB) (.seq (.ret (.c (.bl true))) .nil))) := rfl
theorem c_neI (Γ : Pr) (i j : Int) (μ : Sto) : cmpD Γ .ne (.int i) (.int j) μ = some (!(i == j), μ) := by kernel_rfl
/-- who comes one by one -/
theorem law_come (wf k : Nat) {u v : Int} {s : Sen} {t : Nat} {f : List (List Th)} {cs : List Int} (hs : SenOk s t) (hc : cs.length = t) (hf : Fits s f) (hm : f.length ≤ 20) (X x4 x6 x7 x8 x9 x10 x11 : Option D) (J : Int) :
    ∃ (v' : Int) (f' : List (List Th)) (cs' : List Int) (y7 : Option D), cs'.length = t ∧ Fits s f' ∧ f'.length = f.length + 1 ∧ evS (G.pr wf (k + 1)) lawB1 [X, some (.int J), some (.cell 1), some (.int (t : Nat)), x4, some (.cell 2), x6, x7, x8, x9, x10, x11] (l1 u v s f cs) =
      some (.next, [X, some (.int J), some (.cell 1), some (.int (t : Nat)), x4, some (.cell 2), x6, y7, x8, x9, x10, x11], l1 u v' s f' cs') := by
  have h1 := hs.t1
  have h3 := hs.t3
  obtain ⟨d, v1, a1, a2, e1⟩ := l1_digit (u := u) (v := v) (s := s) (f := f) (cs := cs) wf k (t := (t : Nat)) (by omega) (by omega)
  obtain ⟨i, rfl⟩ := natD a1
  obtain ⟨d, c, hcc, ec⟩ := run_come (wf := wf) (k := k) (l1_has (u := u) (v := v1) (s := s) (f := f) (cs := cs)) (by decide) (by decide) (by decide) hs hc (i := i) (by omega) 1 (by omega) (by omega)
  refine ⟨v1, f ++ List.replicate 1 (beg s i), cs.set i (c + (1 : Nat)), some (.int (i : Nat)), by simp [hc], ?_, by simp, ?_⟩
  · intro ts hts
    simp only [List.mem_append] at hts
    rcases hts with hts | hts
    · exact hf ts hts
    · rw [(List.mem_replicate.mp hts).2]; exact beg_fits s i
  · let R1 : Rho := [X, some (.int J), some (.cell 1), some (.int (t : Nat)), x4, some (.cell 2), x6, some (.int (i : Nat)), x8, x9, x10, x11]
    exact sq (ρ' := R1) (s_set (e_call (es_2 (e_v rfl) (e_v rfl)) e1)) (sq (s_ex (e_meth (e_v rfl) (recv_T l1_has rfl) (es_2 (gw_str wf (k + 1) i (by omega) rfl) e_c) ec)) rfl)
/-- a drawn meeting -/
theorem law_meet (wf k : Nat) {u v : Int} {s : Sen} {t : Nat} {f : List (List Th)} {cs : List Int} (hs : SenOk s t) (hf : Fits s f) (h2 : 2 ≤ f.length) (hm : f.length ≤ 20) (X x3 x4 x6 x7 x9 x10 x11 : Option D) (J : Int) :
    ∃ (v' : Int) (f' : List (List Th)) (y9 y10 : Option D), Fits s f' ∧ f'.length = f.length ∧ evS (G.pr wf (k + 4)) lawB2 [X, some (.int J), some (.cell 1), x3, x4, some (.cell 2), x6, x7, some (.int (f.length : Nat)), x9, x10, x11] (l1 u v s f cs) =
      some (.next, [X, some (.int J), some (.cell 1), x3, x4, some (.cell 2), x6, x7, some (.int (f.length : Nat)), y9, y10, x11], l1 u v' s f' cs) := by
  have h4 := hs.at4
  obtain ⟨d1, v1, a1, a2, e1⟩ := l1_digit (u := u) (v := v) (s := s) (f := f) (cs := cs) wf (k + 3) (t := (f.length : Nat)) (by omega) (by omega)
  obtain ⟨i, rfl⟩ := natD a1
  obtain ⟨d2, v2, b1, b2, e2⟩ := l1_digit (u := u) (v := v1) (s := s) (f := f) (cs := cs) wf (k + 3) (t := (f.length : Int) - 1) (by omega) (by omega)
  obtain ⟨j0, rfl⟩ := natD b1
  let j : Nat := j0 + (if i ≤ j0 then 1 else 0)
  have hj : j < f.length ∧ i ≠ j := by
    simp only [j]
    split <;> omega
  have g1 : f[i]? = some (f[i]'(by omega)) := by rw [List.getElem?_eq_getElem]
  have g2 : f[j]? = some (f[j]'hj.1) := by rw [List.getElem?_eq_getElem]
  have hmt := run_meet (wf := wf) (k := k) (l1_has (u := u) (v := v2) (s := s) (f := f) (cs := cs)) (by decide) (by decide) g1 g2 hj.2 (by omega) (hf _ (List.mem_of_getElem? g1)) (hf _ (List.mem_of_getElem? g2))
  let R1 : Rho := [X, some (.int J), some (.cell 1), x3, x4, some (.cell 2), x6, x7, some (.int (f.length : Nat)), some (.int (i : Nat)), x10, x11]
  let R2 : Rho := [X, some (.int J), some (.cell 1), x3, x4, some (.cell 2), x6, x7, some (.int (f.length : Nat)), some (.int (i : Nat)), some (.int (j0 : Nat)), x11]
  have ej : ev (G.pr wf (k + 4)) (.bin .add (.v 10) (.bi .int1 false (.cons (.cmp .ge (.v 10) (.v 9)) .nil))) R2 (l1 u v2 s f cs) = some (.int (j : Nat), l1 u v2 s f cs) := by
    refine e_bin (d2 := .int (if decide ((i : Int) ≤ (j0 : Int)) then 1 else 0)) (e_v rfl) (e_bi (es_1 (e_cmp (k := decide ((i : Int) ≤ (j0 : Int))) (e_v rfl) (e_v rfl) rfl)) rfl) ?_
    show some (D.int ((j0 : Int) + (if decide ((i : Int) ≤ (j0 : Int)) then 1 else 0))) = _
    congr 2
    simp only [j]
    by_cases h : i ≤ j0
    · rw [if_pos h, decide_eq_true (show (i : Int) ≤ (j0 : Int) by omega), if_pos rfl]; omega
    · rw [if_neg h, decide_eq_false (show ¬(i : Int) ≤ (j0 : Int) by omega), if_neg Bool.false_ne_true]; omega
  have e3 : evS (G.pr wf (k + 4)) lawB2 [X, some (.int J), some (.cell 1), x3, x4, some (.cell 2), x6, x7, some (.int (f.length : Nat)), x9, x10, x11] (l1 u v s f cs) = some (.next, R2, l1 u v2 s ((f.set i (one1 s.ats (f[i]'(by omega)) (f[j]'hj.1))).set j (two2 s.ats (f[i]'(by omega)) (f[j]'hj.1))) cs) :=
    sq (ρ' := R1) (s_set (e_call (es_2 (e_v rfl) (e_v rfl)) e1)) (sq (ρ' := R2) (s_set (e_call (es_2 (e_v rfl) (e_bin (d := .int ((f.length : Int) - 1)) (e_v (i := 8) rfl) (e_c (d := .int 1)) rfl)) e2)) (sq (s_ex (e_meth (e_v rfl) (recv_T l1_has rfl) (es_2 (e_v rfl) ej) hmt)) rfl))
  refine ⟨v2, _, some (.int (i : Nat)), some (.int (j0 : Nat)), ?_, ?_, e3⟩
  · have := chg_fits hf (i, j)
    simp only [chg, g1, g2] at this
    exact this
  · simp
/-- a stretch, either way, and the same meeting by meeting -/
theorem law_st (wf k : Nat) {u v : Int} {s : Sen} {t : Nat} {f : List (List Th)} {cs : List Int} (hs : SenOk s t) (hf : Fits s f) (hm : f.length ≤ 12) (X x1 x3 x4 x6 x7 x8 x9 x10 : Option D) :
    ∃ (v' : Int) (f' : List (List Th)), Fits s f' ∧ f'.length = f.length ∧ evS (G.pr wf (k + 8)) lawB3 [X, x1, some (.cell 1), x3, x4, some (.cell 2), x6, x7, x8, x9, x10, some (.cell 5)] (l2 u v s t f f cs) =
      some (.next, [X, x1, some (.cell 1), x3, x4, some (.cell 2), x6, x7, x8, x9, x10, some (.cell 5)], l2 u v' s t f' f' cs) := by
  obtain ⟨d, v1, a1, a2, e1⟩ := l2_digit (u := u) (v := v) (s := s) (t := t) (f := f) (g := f) (cs := cs) wf (k + 7) (t' := 3) (by omega) (by omega)
  have hr := run_right (wf := wf) (k := k) (l2_has (u := u) (v := v1) (s := s) (t := t) (f := f) (g := f) (cs := cs)) l2_has' ⟨by decide, by decide, by decide, by decide, by decide, by decide, by decide, by decide, by decide⟩ l2_ok hs hf hm d
  refine ⟨v1, seqF s.ats f (prsB (d == 2) f.length), seqF_fits _ _ hf, seqF_len _ _ _, ?_⟩
  have ec := t_not (t_bl (e_call (es_cons (e_v (i := 5) (ρ := [X, x1, some (.cell 1), x3, x4, some (.cell 2), x6, x7, x8, x9, x10, some (.cell 5)]) rfl) (es_2 (e_v (i := 11) rfl) (e_call (es_2 (e_v (i := 2) rfl) e_c) e1))) hr))
  refine sq (ρ' := [X, x1, some (.cell 1), x3, x4, some (.cell 2), x6, x7, x8, x9, x10, some (.cell 5)]) (μ' := l2 u v1 s t (seqF s.ats f (prsB (d == 2) f.length)) (seqF s.ats f (prsB (d == 2) f.length)) cs) ?_ rfl
  rw [s_if ec]
  rfl
end P99

/-! k99 in plain Lean: the law, put together. -/
namespace P99
open PySem PySem.Spec L2 DP LW

theorem fbody {Γ : Pr} {t : Tg} {b : S} {x : D} {ρ ρ1 : Rho} {μ μ1 : Sto} {r : Fr} (hb : DP.bind Γ t x ρ μ = some (ρ1, μ1)) (he : evS Γ b ρ1 μ1 = r) : ((DP.bind Γ t x ρ μ).bind fun p => evS Γ b p.1 p.2) = r := by rw [hb]; exact he
theorem law_body (wf k : Nat) (hw : 3 < wf) (ns : List Int) (hn : ns.length ≤ 63) (J : Nat) (hJ : J ≤ 10) (u : Int) (y2 y3 y4 y5 y6 y7 y8 y9 y10 y11 : Option D) :
    ∃ (v : Int) (s : Sen) (t : Nat) (f : List (List Th)) (cs : List Int) (z2 z3 z4 z5 z6 z7 z8 z9 z10 z11 : Option D), evS (G.pr wf (k + 9)) lawB [some (.scr ns), some (.int (J : Nat)), y2, y3, y4, y5, y6, y7, y8, y9, y10, y11] [.lst [.int u]] =
      some (.next, [some (.scr ns), some (.int (J : Nat)), z2, z3, z4, z5, z6, z7, z8, z9, z10, z11], l2 u v s t f f cs) := by
  let Γ := G.pr wf (k + 9)
  let X : Option D := some (.scr ns)
  let Jx : Option D := some (.int (J : Nat))
  obtain ⟨v0, e0⟩ := run_tape wf (k + 7) ns J hn (by omega) [.lst [.int u]]
  let R1 : Rho := [X, Jx, some (.cell 1), y3, y4, y5, y6, y7, y8, y9, y10, y11]
  have s1 : evS Γ (.set (.one (.n 2)) (.call "_law_tape" (.cons (.v 0) (.cons (.v 1) .nil)))) [X, Jx, y2, y3, y4, y5, y6, y7, y8, y9, y10, y11] [.lst [.int u]] = some (.next, R1, [.lst [.int u], .lst [.int v0]]) := s_set (e_call (es_2 (e_v rfl) (e_v rfl)) e0)
  have hm : 1 < ([.lst [.int u], .dead] : Sto).length := by show 1 < 2; decide
  obtain ⟨d1, v1, a1, a2, e1⟩ := digit wf hm (k + 8) v0 (t := 3) (by omega) (by omega)
  obtain ⟨n1, rfl⟩ := natD a1
  let t := 1 + n1
  have ht : 1 ≤ t ∧ t ≤ 3 := by simp only [t]; omega
  let R2 : Rho := [X, Jx, some (.cell 1), some (.int (t : Nat)), y4, y5, y6, y7, y8, y9, y10, y11]
  have s2 : evS Γ (.set (.one (.n 3)) (.bin .add (.c (.int 1)) (.call "_law_digit" (.cons (.v 2) (.cons (.c (.int 3)) .nil))))) R1 [.lst [.int u], .lst [.int v0]] = some (.next, R2, [.lst [.int u], .lst [.int v1]]) :=
    s_set (e_bin (d := .int (t : Nat)) (e_c (d := .int 1)) (e_call (es_2 (e_v rfl) e_c) e1) (by show some (D.int (1 + (n1 : Int))) = some (.int ((1 + n1 : Nat) : Int)); congr 2))
  obtain ⟨d2, v2, b1, b2, e2⟩ := digit wf hm (k + 8) v1 (t := 4) (by omega) (by omega)
  obtain ⟨n2, rfl⟩ := natD b1
  obtain ⟨s, v3, g1, g2, g3, g4, e3⟩ := wide wf hm t (by omega) 3 (k + 2) v2 (1 + n2) (by omega) (by omega)
  have hs : SenOk s t := ⟨g1, ht.1, ht.2, g2, g3, by omega⟩
  let R3 : Rho := [X, Jx, some (.cell 1), some (.int (t : Nat)), some s.e, y5, y6, y7, y8, y9, y10, y11]
  have s3 : evS Γ (.set (.one (.n 4)) (.call "_law_wide_sentence" (.cons (.v 2) (.cons (.v 3) (.cons (.bin .add (.c (.int 1)) (.call "_law_digit" (.cons (.v 2) (.cons (.c (.int 4)) .nil)))) (.cons (.c (.int 3)) .nil)))))) R2 [.lst [.int u], .lst [.int v1]] = some (.next, R3, [.lst [.int u], .lst [.int v3]]) :=
    s_set (e_call (es_cons (e_v rfl) (es_cons (e_v rfl) (es_2 (e_bin (d := .int ((1 + n2 : Nat) : Int)) (e_c (d := .int 1)) (e_call (es_2 (e_v rfl) e_c) e2) (by show some (D.int (1 + (n2 : Int))) = some (.int ((1 + n2 : Nat) : Int)); congr 2)) (e_c (d := .int ((3 : Nat) : Int)))))) e3)
  have okT : Ok [.lst [.int u], .lst [.int v3]] := rfl
  let R4 : Rho := [X, Jx, some (.cell 1), some (.int (t : Nat)), some s.e, some (.cell 2), y6, y7, y8, y9, y10, y11]
  have s4 : evS Γ (.set (.one (.n 5)) (.make false "Throng" (.cons (.v 4) .nil))) R3 [.lst [.int u], .lst [.int v3]] = some (.next, R4, l1 u v3 s [] (List.replicate t 0)) := s_set (ev_make hs wf (k + 4) hw okT (e_v rfl))
  have fit0 : Fits s [] := fun ts h => by simp at h
  have e5 : (G.pr wf (k + 9)).meth "Throng" "stretch" [.cell 2, .bl false] (l1 u v3 s [] (List.replicate t 0)) = some (.int 0, l1 u v3 s [] (List.replicate t 0)) := run_stretch (wf := wf) (k := k + 5) l1_has (by decide) (by decide) (by omega) fit0 (by simp) false
  have e5' : (G.pr wf (k + 9)).meth "Throng" "said" [.cell 2] (l1 u v3 s [] (List.replicate t 0)) = some (.non, l1 u v3 s [] (List.replicate t 0)) := run_said (wf := wf) (k := k + 6) l1_has l1_ok fit0 (by omega) (by omega) (by simp)
  have s5 : evS Γ (.ife (.or (.cmp .ne (.meth (.v 5) "stretch" (.cons (.c (.bl false)) .nil)) (.c (.int 0))) (.cmp .notN (.meth (.v 5) "said" .nil) (.c .non))) (.seq (.ret (.c (.bl false))) .nil) .nil) R4 (l1 u v3 s [] (List.replicate t 0)) = some (.next, R4, l1 u v3 s [] (List.replicate t 0)) := by
    rw [s_if (t_or (t_cmp (e_meth (e_v (i := 5) (ρ := R4) rfl) (recv_T l1_has rfl) (es_1 e_c) e5) e_c (c_neI Γ 0 0 _)) (t_cmp (k := false) (e_meth (e_v (i := 5) (ρ := R4) rfl) (recv_T l1_has rfl) es_nil e5') e_c rfl))]
    rfl
  obtain ⟨dc, c, hcc, ec⟩ := run_come (wf := wf) (k := k + 8) (l1_has (u := u) (v := v3) (s := s) (f := []) (cs := List.replicate t 0)) (by decide) (by decide) (by decide) hs (by simp) (i := 0) (by omega) 1 (by omega) (by simp)
  let cs1 := (List.replicate t (0 : Int)).set 0 (c + (1 : Nat))
  have s6 : evS Γ (.ex (.meth (.v 5) "come" (.cons (.c (.str "a")) (.cons (.c (.int 1)) .nil)))) R4 (l1 u v3 s [] (List.replicate t 0)) = some (.next, R4, l1 u v3 s [beg s 0] cs1) :=
    s_ex (e_meth (e_v rfl) (recv_T l1_has rfl) (es_2 (e_c (d := .str (gw 0))) (e_c (d := .int ((1 : Nat) : Int)))) ec)
  have fit1 : Fits s [beg s 0] := fun ts h => by rw [List.mem_singleton.mp h]; exact beg_fits s 0
  have e7 : (G.pr wf (k + 9)).meth "Throng" "stretch" [.cell 2, .bl true] (l1 u v3 s [beg s 0] cs1) = some (.int 0, l1 u v3 s [beg s 0] cs1) := run_stretch (wf := wf) (k := k + 5) l1_has (by decide) (by decide) (by omega) fit1 (by simp) true
  have s7 : evS Γ (.ife (.cmp .ne (.meth (.v 5) "stretch" (.cons (.c (.bl true)) .nil)) (.c (.int 0))) (.seq (.ret (.c (.bl false))) .nil) .nil) R4 (l1 u v3 s [beg s 0] cs1) = some (.next, R4, l1 u v3 s [beg s 0] cs1) := by
    rw [s_if (t_cmp (e_meth (e_v (i := 5) (ρ := R4) rfl) (recv_T l1_has rfl) (es_1 e_c) e7) e_c (c_neI Γ 0 0 _))]
    rfl
  -- who comes
  obtain ⟨d8, v8, q1, q2, e8⟩ := l1_digit (u := u) (v := v3) (s := s) (f := [beg s 0]) (cs := cs1) wf (k + 8) (t := 8) (by omega) (by omega)
  obtain ⟨n8, rfl⟩ := natD q1
  let K := 2 + n8
  have hi8 : evI Γ (.rng (.c (.int 0)) (.bin .add (.c (.int 1)) (.call "_law_digit" (.cons (.v 2) (.cons (.c (.int 8)) .nil))))) R4 (l1 u v3 s [beg s 0] cs1) = some (((List.range (1 + n8)).map fun a => D.int (a : Nat), none), l1 u v8 s [beg s 0] cs1) := by
    have := i_rng (Γ := Γ) (ρ := R4) (μ := l1 u v3 s [beg s 0] cs1) (e_c (d := .int 0)) (e_bin (o := .add) (d := .int ((1 + n8 : Nat) : Int)) (e_c (d := .int 1)) (e_call (es_2 (e_v (i := 2) rfl) e_c) e8) (by show some (D.int (1 + (n8 : Int))) = some (.int ((1 + n8 : Nat) : Int)); congr 2)) (b62 (by omega) (by omega)) (b62 (by omega) (by omega))
    rw [rng0] at this
    exact this
  let P8 : List D → Rho → Sto → Prop := fun xs ρ μ => ∃ (v : Int) (f : List (List Th)) (cs : List Int) (z4 z6 z7 z8 z9 z10 z11 : Option D), ρ = [X, Jx, some (.cell 1), some (.int (t : Nat)), z4, some (.cell 2), z6, z7, z8, z9, z10, z11] ∧ μ = l1 u v s f cs ∧ cs.length = t ∧ Fits s f ∧ f.length + xs.length = K
  obtain ⟨ρ8, μ8, f8, w8, F8, cs8, z4, z6, z7, z8, z9, z10, z11, rfl, rfl, hc8, hf8, hl8⟩ := forL_of (sc := true) (n := (l1 u v8 s [beg s 0] cs1).length) (w := none) (f := fun x ρ μ => (DP.bind Γ (.one (.n 6)) x ρ μ).bind fun p => evS Γ lawB1 p.1 p.2) (P := P8)
    (xs := (List.range (1 + n8)).map fun a => D.int (a : Nat)) (ρ := R4) (μ := l1 u v8 s [beg s 0] cs1) ⟨v8, [beg s 0], cs1, some s.e, y6, y7, y8, y9, y10, y11, rfl, rfl, by simp [cs1], fit1, by simp [K]; omega⟩ (by
    rintro x xs ρ μ ⟨v, f, cs, z4, z6, z7, z8, z9, z10, z11, rfl, rfl, hc, hf, hl⟩
    simp only [List.length_cons] at hl
    obtain ⟨v', f', cs', x7, hc', hf', hl', eb⟩ := law_come wf (k + 8) (u := u) (v := v) hs hc hf (by simp only [K] at hl; omega) X z4 (some x) z7 z8 z9 z10 z11 (J : Nat)
    let C : Rho := [X, Jx, some (.cell 1), some (.int (t : Nat)), z4, some (.cell 2), some x, x7, z8, z9, z10, z11]
    refine ⟨C, l1 u v' s f' cs', C.map (cutV 5), l1 u v' s f' cs', eb, rfl, ?_, v', f', cs', cutV 5 z4, cutV 5 (some x), cutV 5 x7, cutV 5 z8, cutV 5 z9, cutV 5 z10, cutV 5 z11, rfl, rfl, hc', hf', by omega⟩
    rw [if_pos rfl]
    exact cut_ok (n := 5) rfl rfl l1_ok)
  simp only [List.length_nil, Nat.add_zero] at hl8
  have hK : 2 ≤ F8.length ∧ F8.length ≤ 9 := by simp only [K] at hl8; omega
  have s8 := s_for hi8 f8
  let R9 : Rho := [X, Jx, some (.cell 1), some (.int (t : Nat)), z4, some (.cell 2), z6, z7, some (.int (F8.length : Nat)), z9, z10, z11]
  have s9 : evS Γ (.set (.one (.n 8)) (.lenO (.v 5))) [X, Jx, some (.cell 1), some (.int (t : Nat)), z4, some (.cell 2), z6, z7, z8, z9, z10, z11] (l1 u w8 s F8 cs8) = some (.next, R9, l1 u w8 s F8 cs8) := s_set (e_lenT l1_has (e_v rfl) (by omega))
  -- who meets
  obtain ⟨d9, v9, r1, r2, e9⟩ := l1_digit (u := u) (v := w8) (s := s) (f := F8) (cs := cs8) wf (k + 8) (t := 9) (by omega) (by omega)
  obtain ⟨n9, rfl⟩ := natD r1
  have hi9 : evI Γ (.rng (.c (.int 0)) (.call "_law_digit" (.cons (.v 2) (.cons (.c (.int 9)) .nil)))) R9 (l1 u w8 s F8 cs8) = some (((List.range n9).map fun a => D.int (a : Nat), none), l1 u v9 s F8 cs8) := by
    have := i_rng (Γ := Γ) (ρ := R9) (μ := l1 u w8 s F8 cs8) (e_c (d := .int 0)) (e_call (es_2 (e_v (i := 2) rfl) e_c) e9) (b62 (by omega) (by omega)) (b62 (by omega) (by omega))
    rw [rng0] at this
    exact this
  let P9 : List D → Rho → Sto → Prop := fun xs ρ μ => ∃ (v : Int) (f : List (List Th)) (z3 z4 z6 z7 z9 z10 z11 : Option D), ρ = [X, Jx, some (.cell 1), z3, z4, some (.cell 2), z6, z7, some (.int (F8.length : Nat)), z9, z10, z11] ∧ μ = l1 u v s f cs8 ∧ Fits s f ∧ f.length = F8.length
  obtain ⟨ρ9, μ9, f9, w9, F9, o3, o4, o6, o7, o9, o10, o11, rfl, rfl, hf9, hl9⟩ := forL_of (sc := true) (n := (l1 u v9 s F8 cs8).length) (w := none) (f := fun x ρ μ => (DP.bind Γ (.one (.n 6)) x ρ μ).bind fun p => evS Γ lawB2 p.1 p.2) (P := P9)
    (xs := (List.range n9).map fun a => D.int (a : Nat)) (ρ := R9) (μ := l1 u v9 s F8 cs8) ⟨v9, F8, some (.int (t : Nat)), z4, z6, z7, z9, z10, z11, rfl, rfl, hf8, rfl⟩ (by
    rintro x xs ρ μ ⟨v, f, z3, z4, z6, z7, z9, z10, z11, rfl, rfl, hf, hl⟩
    obtain ⟨v', f', x9, x10, hf', hl', eb⟩ := law_meet wf (k + 5) (u := u) (v := v) (cs := cs8) hs hf (by omega) (by omega) X z3 z4 (some x) z7 z9 z10 z11 (J : Nat)
    rw [hl] at eb hl'
    let C : Rho := [X, Jx, some (.cell 1), z3, z4, some (.cell 2), some x, z7, some (.int (F8.length : Nat)), x9, x10, z11]
    refine ⟨C, l1 u v' s f' cs8, C.map (cutV 5), l1 u v' s f' cs8, eb, rfl, ?_, v', f', cutV 5 z3, cutV 5 z4, cutV 5 (some x), cutV 5 z7, cutV 5 x9, cutV 5 x10, cutV 5 z11, rfl, rfl, hf', hl'⟩
    rw [if_pos rfl]
    exact cut_ok (n := 5) rfl rfl l1_ok)
  have s10 := s_for hi9 f9
  -- the copy
  let R11 : Rho := [X, Jx, some (.cell 1), o3, o4, some (.cell 2), o6, o7, some (.int (F8.length : Nat)), o9, o10, some (.cell 5)]
  have s11 : evS Γ (.set (.one (.n 11)) (.meth (.v 5) "copy" .nil)) [X, Jx, some (.cell 1), o3, o4, some (.cell 2), o6, o7, some (.int (F8.length : Nat)), o9, o10, o11] (l1 u w9 s F9 cs8) = some (.next, R11, l2 u w9 s t F9 F9 cs8) :=
    s_set (e_meth (e_v rfl) (recv_T l1_has rfl) es_nil (run_copy (k := k + 3) l1_has l1_ok hs hw (by omega) hf9))
  have hi12 : evI Γ (.rng (.c (.int 0)) (.c (.int 4))) R11 (l2 u w9 s t F9 F9 cs8) = some (((List.range 4).map fun a => D.int (a : Nat), none), l2 u w9 s t F9 F9 cs8) := by
    have := i_rng (Γ := Γ) (ρ := R11) (μ := l2 u w9 s t F9 F9 cs8) (e_c (d := .int 0)) (e_c (d := .int 4)) (b62 (by omega) (by omega)) (b62 (by omega) (by omega))
    exact this
  let P12 : List D → Rho → Sto → Prop := fun xs ρ μ => ∃ (v : Int) (f : List (List Th)) (z3 z4 z6 z7 z8 z9 z10 : Option D), ρ = [X, Jx, some (.cell 1), z3, z4, some (.cell 2), z6, z7, z8, z9, z10, some (.cell 5)] ∧ μ = l2 u v s t f f cs8 ∧ Fits s f ∧ f.length ≤ 9
  obtain ⟨ρ12, μ12, f12, w12, F12, p3, p4, p6, p7, p8, p9, p10, rfl, rfl, _, _⟩ := forL_of (sc := true) (n := (l2 u w9 s t F9 F9 cs8).length) (w := none) (f := fun x ρ μ => (DP.bind Γ (.one (.n 6)) x ρ μ).bind fun p => evS Γ lawB3 p.1 p.2) (P := P12)
    (xs := (List.range 4).map fun a => D.int (a : Nat)) (ρ := R11) (μ := l2 u w9 s t F9 F9 cs8) ⟨w9, F9, o3, o4, o6, o7, some (.int (F8.length : Nat)), o9, o10, rfl, rfl, hf9, by omega⟩ (by
    rintro x xs ρ μ ⟨v, f, z3, z4, z6, z7, z8, z9, z10, rfl, rfl, hf, hl⟩
    obtain ⟨v', f', hf', hl', eb⟩ := law_st wf (k + 1) (u := u) (v := v) (cs := cs8) hs hf (by omega) X Jx z3 z4 (some x) z7 z8 z9 z10
    rw [show k + 1 + 8 = k + 9 by omega] at eb
    let C : Rho := [X, Jx, some (.cell 1), z3, z4, some (.cell 2), some x, z7, z8, z9, z10, some (.cell 5)]
    refine ⟨C, l2 u v' s t f' f' cs8, C.map (cutV 10), l2 u v' s t f' f' cs8, fbody (Γ := Γ) rfl eb, rfl, ?_, v', f', cutV 10 z3, cutV 10 z4, cutV 10 (some x), cutV 10 z7, cutV 10 z8, cutV 10 z9, cutV 10 z10, rfl, rfl, hf', by omega⟩
    rw [if_pos rfl]
    exact cut_ok (n := 10) rfl rfl l2_ok)
  have s12 := s_for hi12 f12
  exact ⟨w12, s, t, F12, cs8, some (.cell 1), p3, p4, some (.cell 2), p6, p7, p8, p9, p10, some (.cell 5), sq s1 (sq s2 (sq s3 (sq s4 (sq s5 (sq s6 (sq s7 (sq s8 (sq s9 (sq s10 (sq s11 (sq s12 rfl)))))))))))⟩
theorem law_true' (ns : List Int) (h : ns.length ≤ 63) : ∃ μ, (G.pr WF KD).call "law" [.scr ns] [] = some (.bl true, μ) := by
  show ∃ μ, (G.pr 200 (13 + 1)).call "law" [.scr ns] [] = some (.bl true, μ)
  let Γ := G.pr 200 13
  obtain ⟨v, e1⟩ := run_tape 200 11 ns 6 h (by omega) []
  obtain ⟨u, e2⟩ := run_great 200 4 (by omega) v
  let R : Rho := [some (.scr ns), none, none, none, none, none, none, none, none, none, none, none]
  have s1 : evS Γ (.ife (.not (.cons (.call "_law_great_right" (.cons (.call "_law_tape" (.cons (.v 0) (.cons (.c (.int 6)) .nil))) .nil)) .nil)) (.seq (.ret (.c (.bl false))) .nil) .nil) R [] = some (.next, R, [.lst [.int u]]) := by
    have e : evT Γ (.not (.cons (.call "_law_great_right" (.cons (.call "_law_tape" (.cons (.v 0) (.cons (.c (.int 6)) .nil))) .nil)) .nil)) R [] = some (!true, [.lst [.int u]]) := t_not (t_bl (e_call (es_1 (e_call (es_2 (e_v (i := 0) (ρ := R) rfl) (e_c (d := .int ((6 : Nat) : Int)))) e1)) e2))
    rw [s_if e]
    rfl
  obtain ⟨q, hq, eq⟩ : ∃ q : Nat, q ≤ 6 ∧ ev Γ (.bi .max2 false (.cons (.c (.int 3)) (.cons (.bi .min2 false (.cons (.c (.int 6)) (.cons (.bi .len false (.cons (.v 0) .nil)) .nil))) .nil))) R [.lst [.int u]] = some (.int (q : Nat), [.lst [.int u]]) := by
    have hl : ev Γ (.bi .len false (.cons (.v 0) .nil)) R [.lst [.int u]] = some (.int ((ns.length : Nat) : Int), [.lst [.int u]]) := e_bi (es_1 (e_v rfl)) (by simp only [biD, items, Option.map_some, List.length_map])
    have h1 := e_bi (Γ := Γ) (k := .min2) (m := false) (es_2 (e_c (d := .int 6)) hl) rfl
    have h2 := e_bi (Γ := Γ) (k := .max2) (m := false) (es_2 (e_c (d := .int 3)) h1) rfl
    refine ⟨max 3 (min 6 ns.length), by omega, h2.trans ?_⟩
    congr 3
    split <;> split <;> omega
  have hi : evI Γ (.rng (.c (.int 0)) (.bi .max2 false (.cons (.c (.int 3)) (.cons (.bi .min2 false (.cons (.c (.int 6)) (.cons (.bi .len false (.cons (.v 0) .nil)) .nil))) .nil)))) R [.lst [.int u]] = some (((List.range q).map fun a => D.int (a : Nat), none), [.lst [.int u]]) := by
    have := i_rng (Γ := Γ) (ρ := R) (μ := [.lst [.int u]]) (e_c (d := .int 0)) eq (b62 (by omega) (by omega)) (b62 (by omega) (by omega))
    rw [rng0] at this
    exact this
  let P : List D → Rho → Sto → Prop := fun xs ρ μ => ∃ (y1 y2 y3 y4 y5 y6 y7 y8 y9 y10 y11 : Option D), (∀ x ∈ xs, ∃ j : Nat, j ≤ 10 ∧ x = .int (j : Nat)) ∧ ρ = [some (.scr ns), y1, y2, y3, y4, y5, y6, y7, y8, y9, y10, y11] ∧ μ = [.lst [.int u]]
  obtain ⟨ρ', μ', e3, y1, y2, y3, y4, y5, y6, y7, y8, y9, y10, y11, _, rfl, rfl⟩ := forL_of (sc := true) (n := ([.lst [.int u]] : Sto).length) (w := none) (f := fun x ρ μ => (DP.bind Γ (.one (.n 1)) x ρ μ).bind fun p => evS Γ lawB p.1 p.2) (P := P)
    (xs := (List.range q).map fun a => D.int (a : Nat)) (ρ := R) (μ := [.lst [.int u]]) ⟨none, none, none, none, none, none, none, none, none, none, none, fun x hx => by
      obtain ⟨j, hj, rfl⟩ := List.mem_map.mp hx
      have := List.mem_range.mp hj
      exact ⟨j, by omega, rfl⟩, rfl, rfl⟩ (by
    rintro x xs ρ μ ⟨y1, y2, y3, y4, y5, y6, y7, y8, y9, y10, y11, hx, rfl, rfl⟩
    obtain ⟨j, hj, rfl⟩ := hx x (by simp)
    obtain ⟨v, s, t, f, cs, z2, z3, z4, z5, z6, z7, z8, z9, z10, z11, eb⟩ := law_body 200 4 (by omega) ns h j hj u y2 y3 y4 y5 y6 y7 y8 y9 y10 y11
    let C : Rho := [some (.scr ns), some (.int (j : Nat)), z2, z3, z4, z5, z6, z7, z8, z9, z10, z11]
    refine ⟨C, l2 u v s t f f cs, C.map (cutV 1), [.lst [.int u]], eb, rfl, ?_, some (.int (j : Nat)), cutV 1 z2, cutV 1 z3, cutV 1 z4, cutV 1 z5, cutV 1 z6, cutV 1 z7, cutV 1 z8, cutV 1 z9, cutV 1 z10, cutV 1 z11, fun y hy => hx y (by simp [hy]), rfl, rfl⟩
    rw [if_pos rfl]
    exact cut_ok (n := 1) rfl rfl rfl)
  have s2 := s_for hi e3
  rw [call_s 200 13 "law" (d := d_law) rfl]
  have := run_retC (Γ := Γ) (df := d_law) (as := [.scr ns]) (μ := []) (d := .bl true) rfl rfl (show evS Γ b_law _ _ = _ from (sq s1 (sq s2 (sq_ret (s_ret e_c))))) rfl rfl
  exact ⟨[], this⟩
end P99

section
set_option maxHeartbeats 4000000
/-! The walk: each def of the text, read by the rules of DP. -/
namespace LW
open PySem PySem.Spec L2 DP

def top (i : Nat) : Stmt := PySem.Challenge.pw_crowdsay_k99_stretches_meeting_by_meetin.main.body.getD i (.Pass ⟨0, 0, 0, 0⟩)
abbrev s_Leastu_initu : Stmt := inClass (top 6) 0
abbrev s_Least_led : Stmt := inClass (top 6) 1
abbrev s_Least_met : Stmt := inClass (top 6) 2
abbrev s_Restu_initu : Stmt := inClass (top 7) 0
abbrev s_Rest_led : Stmt := inClass (top 7) 1
abbrev s_Rest_met : Stmt := inClass (top 7) 2
abbrev s_made_of : Stmt := top 8
abbrev s_many_of : Stmt := top 10
abbrev s_atoms_of : Stmt := top 11
abbrev s_truth_of : Stmt := top 13
abbrev s_pairs_of_folk : Stmt := top 14
abbrev s_Throngu_initu : Stmt := inClass (top 15) 0
abbrev s_Throngu_equ : Stmt := inClass (top 15) 1
abbrev s_Throngu_lenu : Stmt := inClass (top 15) 2
abbrev s_Throng_words : Stmt := inClass (top 15) 3
abbrev s_Throng_word_of_folk : Stmt := inClass (top 15) 4
abbrev s_Throng_come : Stmt := inClass (top 15) 5
abbrev s_Throng_need_folk : Stmt := inClass (top 15) 6
abbrev s_Throng_changed : Stmt := inClass (top 15) 7
abbrev s_Throng_meet : Stmt := inClass (top 15) 8
abbrev s_Throng_says : Stmt := inClass (top 15) 9
abbrev s_Throng_said : Stmt := inClass (top 15) 10
abbrev s_Throng_stretch : Stmt := inClass (top 15) 13
abbrev s_Throng_copy : Stmt := inClass (top 15) 16
abbrev s__law_cell_at : Stmt := top 17
abbrev s__law_tape : Stmt := top 18
abbrev s__law_digit : Stmt := top 19
abbrev s__law_weights : Stmt := top 20
abbrev s__law_atom : Stmt := top 21
abbrev s__law_wide_sentence : Stmt := top 22
abbrev s__law_pairs : Stmt := top 23
abbrev s__law_met_one_by_one : Stmt := top 24
abbrev s__law_stretch_right : Stmt := top 25
abbrev s__law_great_right : Stmt := top 26
abbrev s_law : Stmt := top 27
/-- what the module's names and classes are -/
structure Kn (K : PySem.W.Frag) (mg : Str → Option Value) (ca : Str → Option Addr) : Prop where
  cls : ∀ C c, ca C = some c → Cls K c ∧ ∀ f ∈ G.att C, NoAttr K c f
  ne : ∀ C c f, ca C = some c → PySem.W.findIn K (.ref c) "__eq__" = some (some (.ref f)) → PySem.W.findIn K (.ref c) "__ne__" = some (some (.builtin "object.__ne__")) ∧ PySem.W.mroIn K c (.type "object") = some true
  b_abs : mg "abs" = none
  b_all : mg "all" = none
  b_any : mg "any" = none
  b_bool : mg "bool" = none
  b_dict : mg "dict" = none
  b_int : mg "int" = none
  b_isinstance : mg "isinstance" = none
  b_len : mg "len" = none
  b_list : mg "list" = none
  b_max : mg "max" = none
  b_min : mg "min" = none
  b_range : mg "range" = none
  b_sum : mg "sum" = none
  b_tuple : mg "tuple" = none
  b_zip : mg "zip" = none
  g_GATE_WORDS : ∃ v u, mg "GATE_WORDS" = some u ∧ RelV v u ∧ ∀ α F, Rep K ca α F v (.tup [.str "a", .str "b", .str "c"])
  isi_Throng : ∃ cc, mg "Throng" = some (.ref cc) ∧ ∀ C' c, ca C' = some c → IsiC K c ∧ PySem.W.kitOne K (.ref c) (.ref cc) = some (decide (C' = "Throng"))
/-- where the defs stand -/
structure Fx (K : PySem.W.Frag) (mg : Str → Option Value) (ca : Str → Option Addr) : Prop where
  x_Leastu_initu : ∃ c f fd, ca "Least" = some c ∧ Mk K c f ∧ mg "Least" = some (.ref c) ∧ FunD K "__init__" "Least.__init__" (defArgs s_Leastu_initu) (defBody s_Leastu_initu) (defScope s_Leastu_initu) [] [] f fd
  x_Least_led : ∃ c f fd, ca "Least" = some c ∧ Meth K c "led" f ∧ FunD K "led" "Least.led" (defArgs s_Least_led) (defBody s_Least_led) (defScope s_Least_led) [] [] f fd
  x_Least_met : ∃ c f fd, ca "Least" = some c ∧ Meth K c "met" f ∧ FunD K "met" "Least.met" (defArgs s_Least_met) (defBody s_Least_met) (defScope s_Least_met) [] [] f fd
  x_Restu_initu : ∃ c f fd, ca "Rest" = some c ∧ Mk K c f ∧ mg "Rest" = some (.ref c) ∧ FunD K "__init__" "Rest.__init__" (defArgs s_Restu_initu) (defBody s_Restu_initu) (defScope s_Restu_initu) [] [] f fd
  x_Rest_led : ∃ c f fd, ca "Rest" = some c ∧ Meth K c "led" f ∧ FunD K "led" "Rest.led" (defArgs s_Rest_led) (defBody s_Rest_led) (defScope s_Rest_led) [] [] f fd
  x_Rest_met : ∃ c f fd, ca "Rest" = some c ∧ Meth K c "met" f ∧ FunD K "met" "Rest.met" (defArgs s_Rest_met) (defBody s_Rest_met) (defScope s_Rest_met) [] [] f fd
  x_made_of : ∃ f fd, FunD K "made_of" "made_of" (defArgs s_made_of) (defBody s_made_of) (defScope s_made_of) [] [] f fd ∧ mg "made_of" = some (.ref f)
  x_many_of : ∃ f fd, FunD K "many_of" "many_of" (defArgs s_many_of) (defBody s_many_of) (defScope s_many_of) [] [] f fd ∧ mg "many_of" = some (.ref f)
  x_atoms_of : ∃ f fd, FunD K "atoms_of" "atoms_of" (defArgs s_atoms_of) (defBody s_atoms_of) (defScope s_atoms_of) [] [] f fd ∧ mg "atoms_of" = some (.ref f)
  x_truth_of : ∃ f fd, FunD K "truth_of" "truth_of" (defArgs s_truth_of) (defBody s_truth_of) (defScope s_truth_of) [] [] f fd ∧ mg "truth_of" = some (.ref f)
  x_pairs_of_folk : ∃ f fd, FunD K "pairs_of_folk" "pairs_of_folk" (defArgs s_pairs_of_folk) (defBody s_pairs_of_folk) (defScope s_pairs_of_folk) [] [(("backward" : Str), (.bl false : V))] f fd ∧ mg "pairs_of_folk" = some (.ref f)
  x_Throngu_initu : ∃ c f fd, ca "Throng" = some c ∧ Mk K c f ∧ mg "Throng" = some (.ref c) ∧ FunD K "__init__" "Throng.__init__" (defArgs s_Throngu_initu) (defBody s_Throngu_initu) (defScope s_Throngu_initu) [] [] f fd
  x_Throngu_equ : ∃ c f fd, ca "Throng" = some c ∧ Meth K c "__eq__" f ∧ FunD K "__eq__" "Throng.__eq__" (defArgs s_Throngu_equ) (defBody s_Throngu_equ) (defScope s_Throngu_equ) [] [] f fd
  x_Throngu_lenu : ∃ c f fd, ca "Throng" = some c ∧ Meth K c "__len__" f ∧ FunD K "__len__" "Throng.__len__" (defArgs s_Throngu_lenu) (defBody s_Throngu_lenu) (defScope s_Throngu_lenu) [] [] f fd
  x_Throng_words : ∃ c f fd, ca "Throng" = some c ∧ Meth K c "words" f ∧ FunD K "words" "Throng.words" (defArgs s_Throng_words) (defBody s_Throng_words) (defScope s_Throng_words) [] [] f fd
  x_Throng_word_of_folk : ∃ c f fd, ca "Throng" = some c ∧ Meth K c "word_of_folk" f ∧ FunD K "word_of_folk" "Throng.word_of_folk" (defArgs s_Throng_word_of_folk) (defBody s_Throng_word_of_folk) (defScope s_Throng_word_of_folk) [] [] f fd
  x_Throng_come : ∃ c f fd, ca "Throng" = some c ∧ Meth K c "come" f ∧ FunD K "come" "Throng.come" (defArgs s_Throng_come) (defBody s_Throng_come) (defScope s_Throng_come) [] [(("many" : Str), (.int 1 : V))] f fd
  x_Throng_need_folk : ∃ c f fd, ca "Throng" = some c ∧ Meth K c "need_folk" f ∧ FunD K "need_folk" "Throng.need_folk" (defArgs s_Throng_need_folk) (defBody s_Throng_need_folk) (defScope s_Throng_need_folk) [] [] f fd
  x_Throng_changed : ∃ c f fd, ca "Throng" = some c ∧ Meth K c "changed" f ∧ FunD K "changed" "Throng.changed" (defArgs s_Throng_changed) (defBody s_Throng_changed) (defScope s_Throng_changed) [] [] f fd
  x_Throng_meet : ∃ c f fd, ca "Throng" = some c ∧ Meth K c "meet" f ∧ FunD K "meet" "Throng.meet" (defArgs s_Throng_meet) (defBody s_Throng_meet) (defScope s_Throng_meet) [] [] f fd
  x_Throng_says : ∃ c f fd, ca "Throng" = some c ∧ Meth K c "says" f ∧ FunD K "says" "Throng.says" (defArgs s_Throng_says) (defBody s_Throng_says) (defScope s_Throng_says) [] [] f fd
  x_Throng_said : ∃ c f fd, ca "Throng" = some c ∧ Meth K c "said" f ∧ FunD K "said" "Throng.said" (defArgs s_Throng_said) (defBody s_Throng_said) (defScope s_Throng_said) [] [] f fd
  x_Throng_stretch : ∃ c f fd, ca "Throng" = some c ∧ Meth K c "stretch" f ∧ FunD K "stretch" "Throng.stretch" (defArgs s_Throng_stretch) (defBody s_Throng_stretch) (defScope s_Throng_stretch) [] [(("backward" : Str), (.bl false : V))] f fd
  x_Throng_copy : ∃ c f fd, ca "Throng" = some c ∧ Meth K c "copy" f ∧ FunD K "copy" "Throng.copy" (defArgs s_Throng_copy) (defBody s_Throng_copy) (defScope s_Throng_copy) [] [] f fd
  x__law_cell_at : ∃ f fd, FunD K "_law_cell_at" "_law_cell_at" (defArgs s__law_cell_at) (defBody s__law_cell_at) (defScope s__law_cell_at) [] [] f fd ∧ mg "_law_cell_at" = some (.ref f)
  x__law_tape : ∃ f fd, FunD K "_law_tape" "_law_tape" (defArgs s__law_tape) (defBody s__law_tape) (defScope s__law_tape) [] [] f fd ∧ mg "_law_tape" = some (.ref f)
  x__law_digit : ∃ f fd, FunD K "_law_digit" "_law_digit" (defArgs s__law_digit) (defBody s__law_digit) (defScope s__law_digit) [] [] f fd ∧ mg "_law_digit" = some (.ref f)
  x__law_weights : ∃ f fd, FunD K "_law_weights" "_law_weights" (defArgs s__law_weights) (defBody s__law_weights) (defScope s__law_weights) [] [] f fd ∧ mg "_law_weights" = some (.ref f)
  x__law_atom : ∃ f fd, FunD K "_law_atom" "_law_atom" (defArgs s__law_atom) (defBody s__law_atom) (defScope s__law_atom) [] [] f fd ∧ mg "_law_atom" = some (.ref f)
  x__law_wide_sentence : ∃ f fd, FunD K "_law_wide_sentence" "_law_wide_sentence" (defArgs s__law_wide_sentence) (defBody s__law_wide_sentence) (defScope s__law_wide_sentence) [] [] f fd ∧ mg "_law_wide_sentence" = some (.ref f)
  x__law_pairs : ∃ f fd, FunD K "_law_pairs" "_law_pairs" (defArgs s__law_pairs) (defBody s__law_pairs) (defScope s__law_pairs) [] [] f fd ∧ mg "_law_pairs" = some (.ref f)
  x__law_met_one_by_one : ∃ f fd, FunD K "_law_met_one_by_one" "_law_met_one_by_one" (defArgs s__law_met_one_by_one) (defBody s__law_met_one_by_one) (defScope s__law_met_one_by_one) [] [] f fd ∧ mg "_law_met_one_by_one" = some (.ref f)
  x__law_stretch_right : ∃ f fd, FunD K "_law_stretch_right" "_law_stretch_right" (defArgs s__law_stretch_right) (defBody s__law_stretch_right) (defScope s__law_stretch_right) [] [] f fd ∧ mg "_law_stretch_right" = some (.ref f)
  x__law_great_right : ∃ f fd, FunD K "_law_great_right" "_law_great_right" (defArgs s__law_great_right) (defBody s__law_great_right) (defScope s__law_great_right) [] [] f fd ∧ mg "_law_great_right" = some (.ref f)
  x_law : ∃ f fd, FunD K "law" "law" (defArgs s_law) (defBody s_law) (defScope s_law) [] [] f fd ∧ mg "law" = some (.ref f)
/-- every def that is called, one call less deep -/
structure Lv (P : Program) (w : World) (K : PySem.W.Frag) (mg : Str → Option Value) (base : Heap) (ca : Str → Option Addr) (wf k : Nat) : Prop where
  m_led : MethI P w K mg base ca (2 * k) "led" (fun C => (G.pr wf k).meth C "led") 1 [] []
  k_Least : MakeI P w K mg base ca (2 * k) "Least" ((G.pr wf k).meth "Least" "__init__") 1 []
  k_Rest : MakeI P w K mg base ca (2 * k) "Rest" ((G.pr wf k).meth "Rest" "__init__") 1 []
  f_atoms_of : FnI P w K mg base ca (2 * k) "atoms_of" ((G.pr wf k).call "atoms_of") 1 [] []
  f_truth_of : FnI P w K mg base ca (2 * k) "truth_of" ((G.pr wf k).call "truth_of") 2 [] []
  f_many_of : FnI P w K mg base ca (2 * k) "many_of" ((G.pr wf k).call "many_of") 1 [] []
  f_made_of : FnI P w K mg base ca (2 * k) "made_of" ((G.pr wf k).call "made_of") 1 [] []
  m_words : MethI P w K mg base ca (2 * k) "words" (fun C => (G.pr wf k).meth C "words") 0 [] []
  m_word_of_folk : MethI P w K mg base ca (2 * k) "word_of_folk" (fun C => (G.pr wf k).meth C "word_of_folk") 1 [] []
  m_met : MethI P w K mg base ca (2 * k) "met" (fun C => (G.pr wf k).meth C "met") 2 [] []
  m_changed : MethI P w K mg base ca (2 * k) "changed" (fun C => (G.pr wf k).meth C "changed") 2 [] []
  m_need_folk : MethI P w K mg base ca (2 * k) "need_folk" (fun C => (G.pr wf k).meth C "need_folk") 1 [] []
  f_pairs_of_folk : FnI P w K mg base ca (2 * k) "pairs_of_folk" ((G.pr wf k).call "pairs_of_folk") 1 ["backward"] []
  k_Throng : MakeI P w K mg base ca (2 * k) "Throng" ((G.pr wf k).meth "Throng" "__init__") 1 []
  f__law_cell_at : FnI P w K mg base ca (2 * k) "_law_cell_at" ((G.pr wf k).call "_law_cell_at") 2 [] []
  f__law_digit : FnI P w K mg base ca (2 * k) "_law_digit" ((G.pr wf k).call "_law_digit") 2 [] []
  f__law_weights : FnI P w K mg base ca (2 * k) "_law_weights" ((G.pr wf k).call "_law_weights") 2 [] []
  f__law_wide_sentence : FnI P w K mg base ca (2 * k) "_law_wide_sentence" ((G.pr wf k).call "_law_wide_sentence") 4 [] []
  f__law_atom : FnI P w K mg base ca (2 * k) "_law_atom" ((G.pr wf k).call "_law_atom") 2 [] []
  m_says : MethI P w K mg base ca (2 * k) "says" (fun C => (G.pr wf k).meth C "says") 1 [] []
  m_meet : MethI P w K mg base ca (2 * k) "meet" (fun C => (G.pr wf k).meth C "meet") 2 [] []
  m_ulenu : MethI P w K mg base ca (2 * k) "__len__" (fun C => (G.pr wf k).meth C "__len__") 0 [] []
  m_said : MethI P w K mg base ca (2 * k) "said" (fun C => (G.pr wf k).meth C "said") 0 [] []
  m_stretch : MethI P w K mg base ca (2 * k) "stretch" (fun C => (G.pr wf k).meth C "stretch") 0 [] [(.bl false)]
  m_stretch_1 : MethI P w K mg base ca (2 * k) "stretch" (fun C => (G.pr wf k).meth C "stretch") 0 ["backward"] []
  f__law_pairs : FnI P w K mg base ca (2 * k) "_law_pairs" ((G.pr wf k).call "_law_pairs") 2 [] []
  f__law_met_one_by_one : FnI P w K mg base ca (2 * k) "_law_met_one_by_one" ((G.pr wf k).call "_law_met_one_by_one") 2 [] []
  m_copy : MethI P w K mg base ca (2 * k) "copy" (fun C => (G.pr wf k).meth C "copy") 0 [] []
  m_come : MethI P w K mg base ca (2 * k) "come" (fun C => (G.pr wf k).meth C "come") 1 ["many"] []
  m_come_1 : MethI P w K mg base ca (2 * k) "come" (fun C => (G.pr wf k).meth C "come") 1 [] [(.int 1)]
  f__law_stretch_right : FnI P w K mg base ca (2 * k) "_law_stretch_right" ((G.pr wf k).call "_law_stretch_right") 3 [] []
  f__law_tape : FnI P w K mg base ca (2 * k) "_law_tape" ((G.pr wf k).call "_law_tape") 2 [] []
  f__law_great_right : FnI P w K mg base ca (2 * k) "_law_great_right" ((G.pr wf k).call "_law_great_right") 1 [] []
  m_uequ : MethI P w K mg base ca (2 * k) "__eq__" (fun C => (G.pr wf k).meth C "__eq__") 1 [] []
section
variable {P : Program} {w : World} {K : PySem.W.Frag} {mg : Str → Option Value} {base : Heap} {ca : Str → Option Addr} {wf k : Nat} {f : Addr} {fd : FuncData}
theorem sc_Leastu_initu : FnScope N_Leastu_initu p_Leastu_initu (defScope s_Leastu_initu) := ⟨rfl, rfl, rfl, by decide +kernel, rfl, by decide +kernel, by decide +kernel⟩
theorem ok_Leastu_initu {kws : List (Str × V)} (T : Kn K mg ca) (L : Lv P w K mg base ca wf k) (FD : FunD K "__init__" "Least.__init__" (defArgs s_Leastu_initu) (defBody s_Leastu_initu) (defScope s_Leastu_initu) [] kws f fd) :
    FnOk P w K mg base CX0 (2 * k + 2) f fd p_Leastu_initu (spD K ca (runDef (G.pr wf k) d_Leastu_initu) (p_Leastu_initu).length) :=
  have S := sc_Leastu_initu
  fn_ok FD sc_Leastu_initu rfl rfl fun cdv A outer s H E hr =>
    have hr0 : Room (2 * k) _ := hr.mono (Nat.le_succ _)
    have hr1 : Room 1 _ := hr.mono (by omega)
    show PSsd ca (G.pr wf k) (cxOf CX0 P w K mg base N_Leastu_initu "Least.__init__" (defScope s_Leastu_initu) f cdv A outer s H E).nox (defBody s_Leastu_initu) b_Leastu_initu from
    (ss_cons (sd_set (pd_v 1) (tg_tup rfl (lfs_cons (lf_n 2 S.nd) (lfs_cons (lf_n 3 S.nd) (lfs_cons (lf_f 0 T.cls) lfs_nil))))) (ss_cons (sd_fld T.cls (pd_v 0) (pb_maxL rfl T.b_max (pl_cons (pd_cat (pd_lc [("weight", 4)] rfl S.nd (blkOk_by (N := N_Leastu_initu) (sc := defScope s_Leastu_initu) (by decide +kernel)) (pi_any (pd_v 3)) (fun _ _ _ _ _ => (tg_one (lf_n 4 S.nd))) (fun _ _ _ _ _ => pc_nil) (fun _ _ _ _ _ => (pb_abs T.b_abs (pl_cons (pd_v 4) pl_nil)))) (pd_lst (pl_cons (pd_bin_add (pb_abs T.b_abs (pl_cons (pd_fld T.cls (pd_v 0)) pl_nil)) pd_int) pl_nil))) pl_nil))) ss_nil))
theorem sc_Least_led : FnScope N_Least_led p_Least_led (defScope s_Least_led) := ⟨rfl, rfl, rfl, by decide +kernel, rfl, by decide +kernel, by decide +kernel⟩
theorem ok_Least_led {kws : List (Str × V)} (T : Kn K mg ca) (L : Lv P w K mg base ca wf k) (FD : FunD K "led" "Least.led" (defArgs s_Least_led) (defBody s_Least_led) (defScope s_Least_led) [] kws f fd) :
    FnOk P w K mg base CX0 (2 * k + 2) f fd p_Least_led (spD K ca (runDef (G.pr wf k) d_Least_led) (p_Least_led).length) :=
  have S := sc_Least_led
  fn_ok FD sc_Least_led rfl rfl fun cdv A outer s H E hr =>
    have hr0 : Room (2 * k) _ := hr.mono (Nat.le_succ _)
    have hr1 : Room 1 _ := hr.mono (by omega)
    show PSsd ca (G.pr wf k) (cxOf CX0 P w K mg base N_Least_led "Least.led" (defScope s_Least_led) f cdv A outer s H E).nox (defBody s_Least_led) b_Least_led from
    (ss_cons (sd_ret (pd_tup (pl_cons pd_str (pl_cons (pd_v 1) (pl_cons (pd_cmp co_ge (pd_v 1) (pd_fld T.cls (pd_v 0))) pl_nil))))) ss_nil)
theorem sc_Least_met : FnScope N_Least_met p_Least_met (defScope s_Least_met) := ⟨rfl, rfl, rfl, by decide +kernel, rfl, by decide +kernel, by decide +kernel⟩
theorem ok_Least_met {kws : List (Str × V)} (T : Kn K mg ca) (L : Lv P w K mg base ca wf k) (FD : FunD K "met" "Least.met" (defArgs s_Least_met) (defBody s_Least_met) (defScope s_Least_met) [] kws f fd) :
    FnOk P w K mg base CX0 (2 * k + 2) f fd p_Least_met (spD K ca (runDef (G.pr wf k) d_Least_met) (p_Least_met).length) :=
  have S := sc_Least_met
  fn_ok FD sc_Least_met rfl rfl fun cdv A outer s H E hr =>
    have hr0 : Room (2 * k) _ := hr.mono (Nat.le_succ _)
    have hr1 : Room 1 _ := hr.mono (by omega)
    show PSsd ca (G.pr wf k) (cxOf CX0 P w K mg base N_Least_met "Least.met" (defScope s_Least_met) f cdv A outer s H E).nox (defBody s_Least_met) b_Least_met from
    (ss_cons (sd_if (pt_cmpD (co_nmem hr1) pd_str (pd_tup (pl_cons (pd_ix hr1 (pd_v 1) pd_int) (pl_cons (pd_ix hr1 (pd_v 2) pd_int) pl_nil)))) (ss_cons (sd_ret (pd_lst (pl_cons (pd_v 1) (pl_cons (pd_v 2) pl_nil)))) ss_nil) ss_nil) (ss_cons (sd_set (pd_bin_add (pd_ix hr1 (pd_v 1) pd_int) (pd_ix hr1 (pd_v 2) pd_int)) (tg_one (lf_n 3 S.nd))) (ss_cons (sd_set (pd_meth L.m_led hr0 (pd_v 0) (ad_c (pb_max2 rfl T.b_max (pl_cons (pd_neg (pd_fld T.cls (pd_v 0))) (pl_cons (pb_min2 rfl T.b_min (pl_cons (pd_fld T.cls (pd_v 0)) (pl_cons (pd_v 3) pl_nil))) pl_nil))) ad_0)) (tg_one (lf_n 4 S.nd))) (ss_cons (sd_set (pd_tup (pl_cons pd_str (pl_cons (pd_bin_sub (pd_v 3) (pd_ix hr1 (pd_v 4) pd_int)) (pl_cons (pd_ix hr1 (pd_v 4) pd_int) pl_nil)))) (tg_one (lf_n 5 S.nd))) (ss_cons (sd_ret (pd_ife (pt_cmpD (co_eq L.m_uequ hr) (pd_ix hr1 (pd_v 1) pd_int) pd_str) (pd_lst (pl_cons (pd_v 4) (pl_cons (pd_v 5) pl_nil))) (pd_lst (pl_cons (pd_v 5) (pl_cons (pd_v 4) pl_nil))))) ss_nil)))))
theorem sc_Restu_initu : FnScope N_Restu_initu p_Restu_initu (defScope s_Restu_initu) := ⟨rfl, rfl, rfl, by decide +kernel, rfl, by decide +kernel, by decide +kernel⟩
theorem ok_Restu_initu {kws : List (Str × V)} (T : Kn K mg ca) (L : Lv P w K mg base ca wf k) (FD : FunD K "__init__" "Rest.__init__" (defArgs s_Restu_initu) (defBody s_Restu_initu) (defScope s_Restu_initu) [] kws f fd) :
    FnOk P w K mg base CX0 (2 * k + 2) f fd p_Restu_initu (spD K ca (runDef (G.pr wf k) d_Restu_initu) (p_Restu_initu).length) :=
  have S := sc_Restu_initu
  fn_ok FD sc_Restu_initu rfl rfl fun cdv A outer s H E hr =>
    have hr0 : Room (2 * k) _ := hr.mono (Nat.le_succ _)
    have hr1 : Room 1 _ := hr.mono (by omega)
    show PSsd ca (G.pr wf k) (cxOf CX0 P w K mg base N_Restu_initu "Rest.__init__" (defScope s_Restu_initu) f cdv A outer s H E).nox (defBody s_Restu_initu) b_Restu_initu from
    (ss_cons (sd_set (pd_v 1) (tg_tup rfl (lfs_cons (lf_n 2 S.nd) (lfs_cons (lf_n 3 S.nd) (lfs_cons (lf_f 0 T.cls) (lfs_cons (lf_f 0 T.cls) lfs_nil)))))) ss_nil)
theorem sc_Rest_led : FnScope N_Rest_led p_Rest_led (defScope s_Rest_led) := ⟨rfl, rfl, rfl, by decide +kernel, rfl, by decide +kernel, by decide +kernel⟩
theorem ok_Rest_led {kws : List (Str × V)} (T : Kn K mg ca) (L : Lv P w K mg base ca wf k) (FD : FunD K "led" "Rest.led" (defArgs s_Rest_led) (defBody s_Rest_led) (defScope s_Rest_led) [] kws f fd) :
    FnOk P w K mg base CX0 (2 * k + 2) f fd p_Rest_led (spD K ca (runDef (G.pr wf k) d_Rest_led) (p_Rest_led).length) :=
  have S := sc_Rest_led
  fn_ok FD sc_Rest_led rfl rfl fun cdv A outer s H E hr =>
    have hr0 : Room (2 * k) _ := hr.mono (Nat.le_succ _)
    have hr1 : Room 1 _ := hr.mono (by omega)
    show PSsd ca (G.pr wf k) (cxOf CX0 P w K mg base N_Rest_led "Rest.led" (defScope s_Rest_led) f cdv A outer s H E).nox (defBody s_Rest_led) b_Rest_led from
    (ss_cons (sd_augN 1 S.nd au_mod (pd_fld T.cls (pd_v 0))) (ss_cons (sd_ret (pd_tup (pl_cons pd_str (pl_cons (pd_v 1) (pl_cons (pd_cmp (co_eq L.m_uequ hr) (pd_v 1) (pd_fld T.cls (pd_v 0))) pl_nil))))) ss_nil))
theorem sc_Rest_met : FnScope N_Rest_met p_Rest_met (defScope s_Rest_met) := ⟨rfl, rfl, rfl, by decide +kernel, rfl, by decide +kernel, by decide +kernel⟩
theorem ok_Rest_met {kws : List (Str × V)} (T : Kn K mg ca) (L : Lv P w K mg base ca wf k) (FD : FunD K "met" "Rest.met" (defArgs s_Rest_met) (defBody s_Rest_met) (defScope s_Rest_met) [] kws f fd) :
    FnOk P w K mg base CX0 (2 * k + 2) f fd p_Rest_met (spD K ca (runDef (G.pr wf k) d_Rest_met) (p_Rest_met).length) :=
  have S := sc_Rest_met
  fn_ok FD sc_Rest_met rfl rfl fun cdv A outer s H E hr =>
    have hr0 : Room (2 * k) _ := hr.mono (Nat.le_succ _)
    have hr1 : Room 1 _ := hr.mono (by omega)
    show PSsd ca (G.pr wf k) (cxOf CX0 P w K mg base N_Rest_met "Rest.met" (defScope s_Rest_met) f cdv A outer s H E).nox (defBody s_Rest_met) b_Rest_met from
    (ss_cons (sd_if (pt_cmpD (co_nmem hr1) pd_str (pd_tup (pl_cons (pd_ix hr1 (pd_v 1) pd_int) (pl_cons (pd_ix hr1 (pd_v 2) pd_int) pl_nil)))) (ss_cons (sd_ret (pd_lst (pl_cons (pd_v 1) (pl_cons (pd_v 2) pl_nil)))) ss_nil) ss_nil) (ss_cons (sd_set (pd_meth L.m_led hr0 (pd_v 0) (ad_c (pd_bin_add (pd_ix hr1 (pd_v 1) pd_int) (pd_ix hr1 (pd_v 2) pd_int)) ad_0)) (tg_one (lf_n 3 S.nd))) (ss_cons (sd_set (pd_tup (pl_cons pd_str (pl_cons pd_int (pl_cons (pd_ix hr1 (pd_v 3) pd_int) pl_nil)))) (tg_one (lf_n 4 S.nd))) (ss_cons (sd_ret (pd_ife (pt_cmpD (co_eq L.m_uequ hr) (pd_ix hr1 (pd_v 1) pd_int) pd_str) (pd_lst (pl_cons (pd_v 3) (pl_cons (pd_v 4) pl_nil))) (pd_lst (pl_cons (pd_v 4) (pl_cons (pd_v 3) pl_nil))))) ss_nil))))
theorem sc_made_of : FnScope N_made_of p_made_of (defScope s_made_of) := ⟨rfl, rfl, rfl, by decide +kernel, rfl, by decide +kernel, by decide +kernel⟩
theorem ok_made_of {kws : List (Str × V)} (T : Kn K mg ca) (L : Lv P w K mg base ca wf k) (FD : FunD K "made_of" "made_of" (defArgs s_made_of) (defBody s_made_of) (defScope s_made_of) [] kws f fd) :
    FnOk P w K mg base CX0 (2 * k + 2) f fd p_made_of (spD K ca (runDef (G.pr wf k) d_made_of) (p_made_of).length) :=
  have S := sc_made_of
  fn_ok FD sc_made_of rfl rfl fun cdv A outer s H E hr =>
    have hr0 : Room (2 * k) _ := hr.mono (Nat.le_succ _)
    have hr1 : Room 1 _ := hr.mono (by omega)
    show PSsd ca (G.pr wf k) (cxOf CX0 P w K mg base N_made_of "made_of" (defScope s_made_of) f cdv A outer s H E).nox (defBody s_made_of) b_made_of from
    (ss_cons (sd_set (pd_ife (pt_cmpD (co_eq L.m_uequ hr) (pd_ix hr1 (pd_v 0) pd_int) pd_str) (pd_make L.k_Least hr (ad_c (pd_v 0) ad_0)) (pd_make L.k_Rest hr (ad_c (pd_v 0) ad_0))) (tg_one (lf_n 1 S.nd))) (ss_cons (sd_ret (pd_tup (pl_cons (pd_v 1) (pl_cons (pd_lc [("weight", 2)] rfl S.nd (blkOk_by (N := N_made_of) (sc := defScope s_made_of) (by decide +kernel)) (pi_any (pd_ix hr1 (pd_v 0) pd_int)) (fun _ _ _ _ _ => (tg_one (lf_n 2 S.nd))) (fun _ _ _ _ _ => pc_nil) (fun _ _ _ _ _ => (pd_meth L.m_led hr0 (pd_v 1) (ad_c (pd_v 2) ad_0)))) pl_nil)))) ss_nil))
theorem sc_many_of : FnScope N_many_of p_many_of (defScope s_many_of) := ⟨rfl, rfl, rfl, by decide +kernel, rfl, by decide +kernel, by decide +kernel⟩
theorem ok_many_of {kws : List (Str × V)} (T : Kn K mg ca) (L : Lv P w K mg base ca wf k) (FD : FunD K "many_of" "many_of" (defArgs s_many_of) (defBody s_many_of) (defScope s_many_of) [] kws f fd) :
    FnOk P w K mg base CX0 (2 * k + 2) f fd p_many_of (spD K ca (runDef (G.pr wf k) d_many_of) (p_many_of).length) :=
  have S := sc_many_of
  fn_ok FD sc_many_of rfl rfl fun cdv A outer s H E hr =>
    have hr0 : Room (2 * k) _ := hr.mono (Nat.le_succ _)
    have hr1 : Room 1 _ := hr.mono (by omega)
    show PSsd ca (G.pr wf k) (cxOf CX0 P w K mg base N_many_of "many_of" (defScope s_many_of) f cdv A outer s H E).nox (defBody s_many_of) b_many_of from
    (ss_cons (sd_whl PassesOwn.never (pt_cmpD (co_nmem hr1) (pd_ix hr1 (pd_v 0) pd_int) (pd_tup (pl_cons pd_str (pl_cons pd_str pl_nil)))) (ss_cons (sd_set (pd_ix hr1 (pd_v 0) pd_int) (tg_one (lf_n 0 S.nd))) ss_nil)) (ss_cons (sd_ret (pb_len T.b_len (pl_cons (pd_ix hr1 (pd_v 0) pd_int) pl_nil))) ss_nil))
theorem sc_atoms_of : FnScope N_atoms_of p_atoms_of (defScope s_atoms_of) := ⟨rfl, rfl, rfl, by decide +kernel, rfl, by decide +kernel, by decide +kernel⟩
theorem ok_atoms_of {kws : List (Str × V)} (T : Kn K mg ca) (L : Lv P w K mg base ca wf k) (FD : FunD K "atoms_of" "atoms_of" (defArgs s_atoms_of) (defBody s_atoms_of) (defScope s_atoms_of) [] kws f fd) :
    FnOk P w K mg base CX0 (2 * k + 2) f fd p_atoms_of (spD K ca (runDef (G.pr wf k) d_atoms_of) (p_atoms_of).length) :=
  have S := sc_atoms_of
  fn_ok FD sc_atoms_of rfl rfl fun cdv A outer s H E hr =>
    have hr0 : Room (2 * k) _ := hr.mono (Nat.le_succ _)
    have hr1 : Room 1 _ := hr.mono (by omega)
    show PSsd ca (G.pr wf k) (cxOf CX0 P w K mg base N_atoms_of "atoms_of" (defScope s_atoms_of) f cdv A outer s H E).nox (defBody s_atoms_of) b_atoms_of from
    (ss_cons (sd_if (pt_cmpD (co_mem hr1) (pd_ix hr1 (pd_v 0) pd_int) (pd_tup (pl_cons pd_str (pl_cons pd_str pl_nil)))) (ss_cons (sd_ret (pd_lst (pl_cons (pd_v 0) pl_nil))) ss_nil) ss_nil) (ss_cons (sd_ret (pd_lc2 [("part", 1), ("one", 2)] rfl S.nd (blkOk_by (N := N_atoms_of) (sc := defScope s_atoms_of) (by decide +kernel)) (pi_any (pd_sl (pd_v 0) (pp_some pd_int) pp_no)) (fun _ _ _ _ _ => (tg_one (lf_n 1 S.nd))) (fun _ _ _ _ _ => pc_nil) (fun _ _ _ _ _ => (pi_any (pd_call L.f_atoms_of hr0 (ad_c (pd_v 1) ad_0)))) (fun _ _ _ _ _ => (tg_one (lf_n 2 S.nd))) (fun _ _ _ _ _ => pc_nil) (fun _ _ _ _ _ => (pd_v 2)))) ss_nil))
theorem sc_truth_of : FnScope N_truth_of p_truth_of (defScope s_truth_of) := ⟨rfl, rfl, rfl, by decide +kernel, rfl, by decide +kernel, by decide +kernel⟩
theorem ok_truth_of {kws : List (Str × V)} (T : Kn K mg ca) (L : Lv P w K mg base ca wf k) (FD : FunD K "truth_of" "truth_of" (defArgs s_truth_of) (defBody s_truth_of) (defScope s_truth_of) [] kws f fd) :
    FnOk P w K mg base CX0 (2 * k + 2) f fd p_truth_of (spD K ca (runDef (G.pr wf k) d_truth_of) (p_truth_of).length) :=
  have S := sc_truth_of
  fn_ok FD sc_truth_of rfl rfl fun cdv A outer s H E hr =>
    have hr0 : Room (2 * k) _ := hr.mono (Nat.le_succ _)
    have hr1 : Room 1 _ := hr.mono (by omega)
    show PSsd ca (G.pr wf k) (cxOf CX0 P w K mg base N_truth_of "truth_of" (defScope s_truth_of) f cdv A outer s H E).nox (defBody s_truth_of) b_truth_of from
    (ss_cons (sd_set (pd_v 0) (tg_star 1 0 rfl (lfs_cons (lf_n 2 S.nd) (lfs_star (lf_n 3 S.nd) lfs_nil)))) (ss_cons (sd_if (pt_cmpD (co_mem hr1) (pd_v 2) (pd_tup (pl_cons pd_str (pl_cons pd_str pl_nil)))) (ss_cons (sd_ret (pm_pop0 (pd_v 1) (pl_cons pd_int pl_nil))) ss_nil) ss_nil) (ss_cons (sd_setLc [("one", 5)] rfl S.nd rfl rfl (sw_true rfl rfl rfl rfl) (blkOk_by (N := N_truth_of) (sc := defScope s_truth_of) (by decide +kernel)) (pi_any (pd_v 3)) (fun _ _ _ _ _ => (tg_one (lf_n 5 S.nd))) (fun _ _ _ _ _ => pc_nil) (fun _ _ _ _ _ => (pd_call L.f_truth_of hr0 (ad_c (pd_v 5) (ad_c (pd_v 1) ad_0))))) (ss_cons (sd_if (pt_cmpD (co_eq L.m_uequ hr) (pd_v 2) pd_str) (ss_cons (sd_ret (pd_not (pd_ix hr1 (pd_v 4) pd_int))) ss_nil) ss_nil) (ss_cons (sd_ret (pd_ife (pt_cmpD (co_eq L.m_uequ hr) (pd_v 2) pd_str) (pb_all rfl T.b_all (pl_cons (pd_v 4) pl_nil)) (pb_any rfl T.b_any (pl_cons (pd_v 4) pl_nil)))) ss_nil)))))
theorem sc_pairs_of_folk : FnScope N_pairs_of_folk p_pairs_of_folk (defScope s_pairs_of_folk) := ⟨rfl, rfl, rfl, by decide +kernel, rfl, by decide +kernel, by decide +kernel⟩
theorem ok_pairs_of_folk {kws : List (Str × V)} (T : Kn K mg ca) (L : Lv P w K mg base ca wf k) (FD : FunD K "pairs_of_folk" "pairs_of_folk" (defArgs s_pairs_of_folk) (defBody s_pairs_of_folk) (defScope s_pairs_of_folk) [] kws f fd) :
    FnOk P w K mg base CX0 (2 * k + 2) f fd p_pairs_of_folk (spD K ca (runDef (G.pr wf k) d_pairs_of_folk) (p_pairs_of_folk).length) :=
  have S := sc_pairs_of_folk
  fn_ok FD sc_pairs_of_folk rfl rfl fun cdv A outer s H E hr =>
    have hr0 : Room (2 * k) _ := hr.mono (Nat.le_succ _)
    have hr1 : Room 1 _ := hr.mono (by omega)
    show PSsd ca (G.pr wf k) (cxOf CX0 P w K mg base N_pairs_of_folk "pairs_of_folk" (defScope s_pairs_of_folk) f cdv A outer s H E).nox (defBody s_pairs_of_folk) b_pairs_of_folk from
    (ss_cons (sd_setLc2 [("one", 3), ("other", 4)] rfl S.nd rfl rfl (sw_true rfl rfl rfl rfl) (blkOk_by (N := N_pairs_of_folk) (sc := defScope s_pairs_of_folk) (by decide +kernel)) (pi_rng1 rfl T.b_range (pl_cons (pd_v 0) pl_nil)) (fun _ _ _ _ _ => (tg_one (lf_n 3 S.nd))) (fun _ _ _ _ _ => pc_nil) (fun _ _ _ _ _ => (pi_rng2 rfl T.b_range (pl_cons (pd_bin_add (pd_v 3) pd_int) (pl_cons (pd_v 0) pl_nil)))) (fun _ _ _ _ _ => (tg_one (lf_n 4 S.nd))) (fun _ _ _ _ _ => pc_nil) (fun _ _ _ _ _ => (pd_tup (pl_cons (pd_v 3) (pl_cons (pd_v 4) pl_nil))))) (ss_cons (sd_ret (pd_ife (pt_tru (pd_v 1)) (pd_lc [("one", 3), ("other", 4)] rfl S.nd (blkOk_by (N := N_pairs_of_folk) (sc := defScope s_pairs_of_folk) (by decide +kernel)) (pi_any (pd_rev (pd_v 2))) (fun _ _ _ _ _ => (tg_tup rfl (lfs_cons (lf_n 3 S.nd) (lfs_cons (lf_n 4 S.nd) lfs_nil)))) (fun _ _ _ _ _ => pc_nil) (fun _ _ _ _ _ => (pd_tup (pl_cons (pd_v 4) (pl_cons (pd_v 3) pl_nil))))) (pd_v 2))) ss_nil))
theorem sc_Throngu_initu : FnScope N_Throngu_initu p_Throngu_initu (defScope s_Throngu_initu) := ⟨rfl, rfl, rfl, by decide +kernel, rfl, by decide +kernel, by decide +kernel⟩
theorem ok_Throngu_initu {kws : List (Str × V)} (T : Kn K mg ca) (L : Lv P w K mg base ca wf k) (FD : FunD K "__init__" "Throng.__init__" (defArgs s_Throngu_initu) (defBody s_Throngu_initu) (defScope s_Throngu_initu) [] kws f fd) :
    FnOk P w K mg base CX0 (2 * k + 2) f fd p_Throngu_initu (spD K ca (runDef (G.pr wf k) d_Throngu_initu) (p_Throngu_initu).length) :=
  have S := sc_Throngu_initu
  fn_ok FD sc_Throngu_initu rfl rfl fun cdv A outer s H E hr =>
    have hr0 : Room (2 * k) _ := hr.mono (Nat.le_succ _)
    have hr1 : Room 1 _ := hr.mono (by omega)
    show PSsd ca (G.pr wf k) (cxOf CX0 P w K mg base N_Throngu_initu "Throng.__init__" (defScope s_Throngu_initu) f cdv A outer s H E).nox (defBody s_Throngu_initu) b_Throngu_initu from
    (ss_cons (sd_fld T.cls (pd_v 0) (pd_v 1)) (ss_cons (sd_fld T.cls (pd_v 0) (pd_lc [("atom", 2)] rfl S.nd (blkOk_by (N := N_Throngu_initu) (sc := defScope s_Throngu_initu) (by decide +kernel)) (pi_any (pd_call L.f_atoms_of hr0 (ad_c (pd_v 1) ad_0))) (fun _ _ _ _ _ => (tg_one (lf_n 2 S.nd))) (fun _ _ _ _ _ => pc_nil) (fun _ _ _ _ _ => (pd_call L.f_made_of hr0 (ad_c (pd_v 2) ad_0))))) (ss_cons (sd_fld T.cls (pd_v 0) (pd_lst pl_nil)) (ss_cons (sd_fld T.cls (pd_v 0) (pd_dc [("word", 3)] rfl S.nd (blkOk_by (N := N_Throngu_initu) (sc := defScope s_Throngu_initu) (by decide +kernel)) (pi_any (pd_sl (pd_gx T.g_GATE_WORDS) pp_no (pp_some (pd_call L.f_many_of hr0 (ad_c (pd_v 1) ad_0))))) (fun _ _ _ _ _ => (tg_one (lf_n 3 S.nd))) (fun _ _ _ _ _ => pc_nil) (fun _ _ _ _ _ => (pd_v 3)) (fun _ _ _ _ _ => pd_int))) (ss_cons (sd_fld T.cls (pd_v 0) (pd_lst pl_nil)) ss_nil)))))
theorem sc_Throngu_equ : FnScope N_Throngu_equ p_Throngu_equ (defScope s_Throngu_equ) := ⟨rfl, rfl, rfl, by decide +kernel, rfl, by decide +kernel, by decide +kernel⟩
theorem ok_Throngu_equ {kws : List (Str × V)} (T : Kn K mg ca) (L : Lv P w K mg base ca wf k) (FD : FunD K "__eq__" "Throng.__eq__" (defArgs s_Throngu_equ) (defBody s_Throngu_equ) (defScope s_Throngu_equ) [] kws f fd) :
    FnOk P w K mg base CX0 (2 * k + 2) f fd p_Throngu_equ (spD K ca (runDef (G.pr wf k) d_Throngu_equ) (p_Throngu_equ).length) :=
  have S := sc_Throngu_equ
  fn_ok FD sc_Throngu_equ rfl rfl fun cdv A outer s H E hr =>
    have hr0 : Room (2 * k) _ := hr.mono (Nat.le_succ _)
    have hr1 : Room 1 _ := hr.mono (by omega)
    show PSsd ca (G.pr wf k) (cxOf CX0 P w K mg base N_Throngu_equ "Throng.__eq__" (defScope s_Throngu_equ) f cdv A outer s H E).nox (defBody s_Throngu_equ) b_Throngu_equ from
    (ss_cons (sd_if (pt_w (pw_or2 (pt_notD (pt_tru (pd_isx T.b_isinstance T.isi_Throng (pd_v 1)))) (pw_or2 (pt_cmpD (co_ne T.ne L.m_uequ hr) (pd_fld T.cls (pd_v 0)) (pd_fld T.cls (pd_v 1))) (pw_or1D (pt_cmpD (co_ne T.ne L.m_uequ hr) (pd_fld T.cls (pd_v 0)) (pd_fld T.cls (pd_v 1))))))) (ss_cons (sd_ret pd_bl) ss_nil) ss_nil) (ss_cons (sd_ret (pd_cmp (co_eq L.m_uequ hr) (pd_meth0_0 L.m_words hr0 (pd_v 0) ) (pd_meth0_0 L.m_words hr0 (pd_v 1) ))) ss_nil))
theorem sc_Throngu_lenu : FnScope N_Throngu_lenu p_Throngu_lenu (defScope s_Throngu_lenu) := ⟨rfl, rfl, rfl, by decide +kernel, rfl, by decide +kernel, by decide +kernel⟩
theorem ok_Throngu_lenu {kws : List (Str × V)} (T : Kn K mg ca) (L : Lv P w K mg base ca wf k) (FD : FunD K "__len__" "Throng.__len__" (defArgs s_Throngu_lenu) (defBody s_Throngu_lenu) (defScope s_Throngu_lenu) [] kws f fd) :
    FnOk P w K mg base CX0 (2 * k + 2) f fd p_Throngu_lenu (spD K ca (runDef (G.pr wf k) d_Throngu_lenu) (p_Throngu_lenu).length) :=
  have S := sc_Throngu_lenu
  fn_ok FD sc_Throngu_lenu rfl rfl fun cdv A outer s H E hr =>
    have hr0 : Room (2 * k) _ := hr.mono (Nat.le_succ _)
    have hr1 : Room 1 _ := hr.mono (by omega)
    show PSsd ca (G.pr wf k) (cxOf CX0 P w K mg base N_Throngu_lenu "Throng.__len__" (defScope s_Throngu_lenu) f cdv A outer s H E).nox (defBody s_Throngu_lenu) b_Throngu_lenu from
    (ss_cons (sd_ret (pb_len T.b_len (pl_cons (pd_fld T.cls (pd_v 0)) pl_nil))) ss_nil)
theorem sc_Throng_words : FnScope N_Throng_words p_Throng_words (defScope s_Throng_words) := ⟨rfl, rfl, rfl, by decide +kernel, rfl, by decide +kernel, by decide +kernel⟩
theorem ok_Throng_words {kws : List (Str × V)} (T : Kn K mg ca) (L : Lv P w K mg base ca wf k) (FD : FunD K "words" "Throng.words" (defArgs s_Throng_words) (defBody s_Throng_words) (defScope s_Throng_words) [] kws f fd) :
    FnOk P w K mg base CX0 (2 * k + 2) f fd p_Throng_words (spD K ca (runDef (G.pr wf k) d_Throng_words) (p_Throng_words).length) :=
  have S := sc_Throng_words
  fn_ok FD sc_Throng_words rfl rfl fun cdv A outer s H E hr =>
    have hr0 : Room (2 * k) _ := hr.mono (Nat.le_succ _)
    have hr1 : Room 1 _ := hr.mono (by omega)
    show PSsd ca (G.pr wf k) (cxOf CX0 P w K mg base N_Throng_words "Throng.words" (defScope s_Throng_words) f cdv A outer s H E).nox (defBody s_Throng_words) b_Throng_words from
    (ss_cons (sd_ret (pd_lc [("things", 1)] rfl S.nd (blkOk_by (N := N_Throng_words) (sc := defScope s_Throng_words) (by decide +kernel)) (pi_any (pd_fld T.cls (pd_v 0))) (fun _ _ _ _ _ => (tg_one (lf_n 1 S.nd))) (fun _ _ _ _ _ => pc_nil) (fun _ _ _ _ _ => (pd_meth L.m_word_of_folk hr0 (pd_v 0) (ad_c (pd_v 1) ad_0))))) ss_nil)
theorem sc_Throng_word_of_folk : FnScope N_Throng_word_of_folk p_Throng_word_of_folk (defScope s_Throng_word_of_folk) := ⟨rfl, rfl, rfl, by decide +kernel, rfl, by decide +kernel, by decide +kernel⟩
theorem ok_Throng_word_of_folk {kws : List (Str × V)} (T : Kn K mg ca) (L : Lv P w K mg base ca wf k) (FD : FunD K "word_of_folk" "Throng.word_of_folk" (defArgs s_Throng_word_of_folk) (defBody s_Throng_word_of_folk) (defScope s_Throng_word_of_folk) [] kws f fd) :
    FnOk P w K mg base CX0 (2 * k + 2) f fd p_Throng_word_of_folk (spD K ca (runDef (G.pr wf k) d_Throng_word_of_folk) (p_Throng_word_of_folk).length) :=
  have S := sc_Throng_word_of_folk
  fn_ok FD sc_Throng_word_of_folk rfl rfl fun cdv A outer s H E hr =>
    have hr0 : Room (2 * k) _ := hr.mono (Nat.le_succ _)
    have hr1 : Room 1 _ := hr.mono (by omega)
    show PSsd ca (G.pr wf k) (cxOf CX0 P w K mg base N_Throng_word_of_folk "Throng.word_of_folk" (defScope s_Throng_word_of_folk) f cdv A outer s H E).nox (defBody s_Throng_word_of_folk) b_Throng_word_of_folk from
    (ss_cons (sd_ret (pd_ife (pt_tru (pd_call L.f_truth_of hr0 (ad_c (pd_fld T.cls (pd_v 0)) (ad_c (pd_lc [("thing", 2)] rfl S.nd (blkOk_by (N := N_Throng_word_of_folk) (sc := defScope s_Throng_word_of_folk) (by decide +kernel)) (pi_any (pd_v 1)) (fun _ _ _ _ _ => (tg_one (lf_n 2 S.nd))) (fun _ _ _ _ _ => pc_nil) (fun _ _ _ _ _ => (pd_ix hr1 (pd_v 2) pd_int))) ad_0)))) pd_str pd_str)) ss_nil)
theorem sc_Throng_come : FnScope N_Throng_come p_Throng_come (defScope s_Throng_come) := ⟨rfl, rfl, rfl, by decide +kernel, rfl, by decide +kernel, by decide +kernel⟩
theorem ok_Throng_come {kws : List (Str × V)} (T : Kn K mg ca) (L : Lv P w K mg base ca wf k) (FD : FunD K "come" "Throng.come" (defArgs s_Throng_come) (defBody s_Throng_come) (defScope s_Throng_come) [] kws f fd) :
    FnOk P w K mg base CX0 (2 * k + 2) f fd p_Throng_come (spD K ca (runDef (G.pr wf k) d_Throng_come) (p_Throng_come).length) :=
  have S := sc_Throng_come
  fn_ok FD sc_Throng_come rfl rfl fun cdv A outer s H E hr =>
    have hr0 : Room (2 * k) _ := hr.mono (Nat.le_succ _)
    have hr1 : Room 1 _ := hr.mono (by omega)
    show PSsd ca (G.pr wf k) (cxOf CX0 P w K mg base N_Throng_come "Throng.come" (defScope s_Throng_come) f cdv A outer s H E).nox (defBody s_Throng_come) b_Throng_come from
    (ss_cons (sd_if (pt_cmpD (co_nmem hr1) (pd_v 1) (pd_fld T.cls (pd_v 0))) (ss_cons sd_never ss_nil) ss_nil) (ss_cons (sd_set (pm_index (pb_listK rfl T.b_list (pl_cons (pd_fld T.cls (pd_v 0)) pl_nil)) (pl_cons (pd_v 1) pl_nil)) (tg_one (lf_n 3 S.nd))) (ss_cons (sd_set (pb_len T.b_len (pl_cons (pd_fld T.cls (pd_v 0)) pl_nil)) (tg_one (lf_n 4 S.nd))) (ss_cons (sd_for PassesOwn.never rfl (pi_rng1 rfl T.b_range (pl_cons (pd_v 2) pl_nil)) (tg_one (lf_n 5 S.nd)) (ss_cons (sd_ex (pm_append (pd_fld T.cls (pd_v 0)) (pl_cons (pd_lc [("kind", 6), ("begins", 7)] rfl S.nd (blkOk_by (N := N_Throng_come) (sc := defScope s_Throng_come) (by decide +kernel)) (pi_any (pd_fld T.cls (pd_v 0))) (fun _ _ _ _ _ => (tg_tup rfl (lfs_cons (lf_n 6 S.nd) (lfs_cons (lf_n 7 S.nd) lfs_nil)))) (fun _ _ _ _ _ => pc_nil) (fun _ _ _ _ _ => (pd_ix hr1 (pd_v 7) (pd_v 3)))) pl_nil))) ss_nil)) (ss_cons (sd_augIx hr au_add (pd_fld T.cls (pd_v 0)) (pd_v 1) (pd_v 2)) (ss_cons (sd_ret (pb_listR rfl T.b_list T.b_range (pd_v 4) (pb_len T.b_len (pl_cons (pd_fld T.cls (pd_v 0)) pl_nil)))) ss_nil))))))
theorem sc_Throng_need_folk : FnScope N_Throng_need_folk p_Throng_need_folk (defScope s_Throng_need_folk) := ⟨rfl, rfl, rfl, by decide +kernel, rfl, by decide +kernel, by decide +kernel⟩
theorem ok_Throng_need_folk {kws : List (Str × V)} (T : Kn K mg ca) (L : Lv P w K mg base ca wf k) (FD : FunD K "need_folk" "Throng.need_folk" (defArgs s_Throng_need_folk) (defBody s_Throng_need_folk) (defScope s_Throng_need_folk) [] kws f fd) :
    FnOk P w K mg base CX0 (2 * k + 2) f fd p_Throng_need_folk (spD K ca (runDef (G.pr wf k) d_Throng_need_folk) (p_Throng_need_folk).length) :=
  have S := sc_Throng_need_folk
  fn_ok FD sc_Throng_need_folk rfl rfl fun cdv A outer s H E hr =>
    have hr0 : Room (2 * k) _ := hr.mono (Nat.le_succ _)
    have hr1 : Room 1 _ := hr.mono (by omega)
    show PSsd ca (G.pr wf k) (cxOf CX0 P w K mg base N_Throng_need_folk "Throng.need_folk" (defScope s_Throng_need_folk) f cdv A outer s H E).nox (defBody s_Throng_need_folk) b_Throng_need_folk from
    (ss_cons (sd_if (pt_notD (pt_chnD co_le co_lt pd_int (pd_v 1) (pb_len T.b_len (pl_cons (pd_fld T.cls (pd_v 0)) pl_nil)))) (ss_cons sd_never ss_nil) ss_nil) ss_nil)
theorem sc_Throng_changed : FnScope N_Throng_changed p_Throng_changed (defScope s_Throng_changed) := ⟨rfl, rfl, rfl, by decide +kernel, rfl, by decide +kernel, by decide +kernel⟩
theorem ok_Throng_changed {kws : List (Str × V)} (T : Kn K mg ca) (L : Lv P w K mg base ca wf k) (FD : FunD K "changed" "Throng.changed" (defArgs s_Throng_changed) (defBody s_Throng_changed) (defScope s_Throng_changed) [] kws f fd) :
    FnOk P w K mg base CX0 (2 * k + 2) f fd p_Throng_changed (spD K ca (runDef (G.pr wf k) d_Throng_changed) (p_Throng_changed).length) :=
  have S := sc_Throng_changed
  fn_ok FD sc_Throng_changed rfl rfl fun cdv A outer s H E hr =>
    have hr0 : Room (2 * k) _ := hr.mono (Nat.le_succ _)
    have hr1 : Room 1 _ := hr.mono (by omega)
    show PSsd ca (G.pr wf k) (cxOf CX0 P w K mg base N_Throng_changed "Throng.changed" (defScope s_Throng_changed) f cdv A outer s H E).nox (defBody s_Throng_changed) b_Throng_changed from
    (ss_cons (sd_set (pd_tup (pl_cons (pd_ix hr1 (pd_fld T.cls (pd_v 0)) (pd_v 1)) (pl_cons (pd_ix hr1 (pd_fld T.cls (pd_v 0)) (pd_v 2)) pl_nil))) (tg_one (lf_n 3 S.nd))) (ss_cons (sd_setLc [("kind", 5), ("begins", 6)] rfl S.nd rfl rfl (sw_true rfl rfl rfl rfl) (blkOk_by (N := N_Throng_changed) (sc := defScope s_Throng_changed) (by decide +kernel)) (pi_any (pd_fld T.cls (pd_v 0))) (fun _ _ _ _ _ => (tg_tup rfl (lfs_cons (lf_n 5 S.nd) (lfs_cons (lf_n 6 S.nd) lfs_nil)))) (fun _ _ _ _ _ => pc_nil) (fun _ _ _ _ _ => (pd_v 5))) (ss_cons (sd_setLc [("kind", 5), ("first", 8), ("second", 9)] rfl S.nd rfl rfl (sw_true rfl rfl rfl rfl) (blkOk_by (N := N_Throng_changed) (sc := defScope s_Throng_changed) (by decide +kernel)) (pi_zip3 T.b_zip (pl_cons (pd_v 4) (pl_cons (pd_ix hr1 (pd_v 3) pd_int) (pl_cons (pd_ix hr1 (pd_v 3) pd_int) pl_nil)))) (fun _ _ _ _ _ => (tg_tup rfl (lfs_cons (lf_n 5 S.nd) (lfs_cons (lf_n 8 S.nd) (lfs_cons (lf_n 9 S.nd) lfs_nil))))) (fun _ _ _ _ _ => pc_nil) (fun _ _ _ _ _ => (pd_meth L.m_met hr0 (pd_v 5) (ad_c (pd_v 8) (ad_c (pd_v 9) ad_0))))) (ss_cons (sd_setIx hr (pd_fld T.cls (pd_v 0)) (pd_v 1) (pd_lc [("pair", 10)] rfl S.nd (blkOk_by (N := N_Throng_changed) (sc := defScope s_Throng_changed) (by decide +kernel)) (pi_any (pd_v 7)) (fun _ _ _ _ _ => (tg_one (lf_n 10 S.nd))) (fun _ _ _ _ _ => pc_nil) (fun _ _ _ _ _ => (pd_ix hr1 (pd_v 10) pd_int)))) (ss_cons (sd_setIx hr (pd_fld T.cls (pd_v 0)) (pd_v 2) (pd_lc [("pair", 10)] rfl S.nd (blkOk_by (N := N_Throng_changed) (sc := defScope s_Throng_changed) (by decide +kernel)) (pi_any (pd_v 7)) (fun _ _ _ _ _ => (tg_one (lf_n 10 S.nd))) (fun _ _ _ _ _ => pc_nil) (fun _ _ _ _ _ => (pd_ix hr1 (pd_v 10) pd_int)))) (ss_cons (sd_ret (pd_cmp (co_ne T.ne L.m_uequ hr) (pd_v 3) (pd_tup (pl_cons (pd_ix hr1 (pd_fld T.cls (pd_v 0)) (pd_v 1)) (pl_cons (pd_ix hr1 (pd_fld T.cls (pd_v 0)) (pd_v 2)) pl_nil))))) ss_nil))))))
theorem sc_Throng_meet : FnScope N_Throng_meet p_Throng_meet (defScope s_Throng_meet) := ⟨rfl, rfl, rfl, by decide +kernel, rfl, by decide +kernel, by decide +kernel⟩
theorem ok_Throng_meet {kws : List (Str × V)} (T : Kn K mg ca) (L : Lv P w K mg base ca wf k) (FD : FunD K "meet" "Throng.meet" (defArgs s_Throng_meet) (defBody s_Throng_meet) (defScope s_Throng_meet) [] kws f fd) :
    FnOk P w K mg base CX0 (2 * k + 2) f fd p_Throng_meet (spD K ca (runDef (G.pr wf k) d_Throng_meet) (p_Throng_meet).length) :=
  have S := sc_Throng_meet
  fn_ok FD sc_Throng_meet rfl rfl fun cdv A outer s H E hr =>
    have hr0 : Room (2 * k) _ := hr.mono (Nat.le_succ _)
    have hr1 : Room 1 _ := hr.mono (by omega)
    show PSsd ca (G.pr wf k) (cxOf CX0 P w K mg base N_Throng_meet "Throng.meet" (defScope s_Throng_meet) f cdv A outer s H E).nox (defBody s_Throng_meet) b_Throng_meet from
    (ss_cons (sd_ex (pd_meth L.m_need_folk hr0 (pd_v 0) (ad_c (pd_v 1) ad_0))) (ss_cons (sd_ex (pd_meth L.m_need_folk hr0 (pd_v 0) (ad_c (pd_v 2) ad_0))) (ss_cons (sd_if (pt_cmpD (co_eq L.m_uequ hr) (pd_v 1) (pd_v 2)) (ss_cons sd_never ss_nil) ss_nil) (ss_cons (sd_ex (pd_meth L.m_changed hr0 (pd_v 0) (ad_c (pd_v 1) (ad_c (pd_v 2) ad_0)))) ss_nil))))
theorem sc_Throng_says : FnScope N_Throng_says p_Throng_says (defScope s_Throng_says) := ⟨rfl, rfl, rfl, by decide +kernel, rfl, by decide +kernel, by decide +kernel⟩
theorem ok_Throng_says {kws : List (Str × V)} (T : Kn K mg ca) (L : Lv P w K mg base ca wf k) (FD : FunD K "says" "Throng.says" (defArgs s_Throng_says) (defBody s_Throng_says) (defScope s_Throng_says) [] kws f fd) :
    FnOk P w K mg base CX0 (2 * k + 2) f fd p_Throng_says (spD K ca (runDef (G.pr wf k) d_Throng_says) (p_Throng_says).length) :=
  have S := sc_Throng_says
  fn_ok FD sc_Throng_says rfl rfl fun cdv A outer s H E hr =>
    have hr0 : Room (2 * k) _ := hr.mono (Nat.le_succ _)
    have hr1 : Room 1 _ := hr.mono (by omega)
    show PSsd ca (G.pr wf k) (cxOf CX0 P w K mg base N_Throng_says "Throng.says" (defScope s_Throng_says) f cdv A outer s H E).nox (defBody s_Throng_says) b_Throng_says from
    (ss_cons (sd_ex (pd_meth L.m_need_folk hr0 (pd_v 0) (ad_c (pd_v 1) ad_0))) (ss_cons (sd_ret (pd_meth L.m_word_of_folk hr0 (pd_v 0) (ad_c (pd_ix hr1 (pd_fld T.cls (pd_v 0)) (pd_v 1)) ad_0))) ss_nil))
theorem sc_Throng_said : FnScope N_Throng_said p_Throng_said (defScope s_Throng_said) := ⟨rfl, rfl, rfl, by decide +kernel, rfl, by decide +kernel, by decide +kernel⟩
theorem ok_Throng_said {kws : List (Str × V)} (T : Kn K mg ca) (L : Lv P w K mg base ca wf k) (FD : FunD K "said" "Throng.said" (defArgs s_Throng_said) (defBody s_Throng_said) (defScope s_Throng_said) [] kws f fd) :
    FnOk P w K mg base CX0 (2 * k + 2) f fd p_Throng_said (spD K ca (runDef (G.pr wf k) d_Throng_said) (p_Throng_said).length) :=
  have S := sc_Throng_said
  fn_ok FD sc_Throng_said rfl rfl fun cdv A outer s H E hr =>
    have hr0 : Room (2 * k) _ := hr.mono (Nat.le_succ _)
    have hr1 : Room 1 _ := hr.mono (by omega)
    show PSsd ca (G.pr wf k) (cxOf CX0 P w K mg base N_Throng_said "Throng.said" (defScope s_Throng_said) f cdv A outer s H E).nox (defBody s_Throng_said) b_Throng_said from
    (ss_cons (sd_set (pd_or (pd_meth0_0 L.m_words hr0 (pd_v 0) ) (pd_one (pd_lst (pl_cons pd_non pl_nil)))) (tg_star 1 0 rfl (lfs_cons (lf_n 1 S.nd) (lfs_star (lf_n 2 S.nd) lfs_nil)))) (ss_cons (sd_ret (pd_ife (pt_tru (pb_all rfl T.b_all (pl_cons (pd_lc [("one", 3)] rfl S.nd (blkOk_by (N := N_Throng_said) (sc := defScope s_Throng_said) (by decide +kernel)) (pi_any (pd_v 2)) (fun _ _ _ _ _ => (tg_one (lf_n 3 S.nd))) (fun _ _ _ _ _ => pc_nil) (fun _ _ _ _ _ => (pd_cmp (co_eq L.m_uequ hr) (pd_v 3) (pd_v 1)))) pl_nil))) (pd_v 1) pd_non)) ss_nil))
theorem sc_Throng_stretch : FnScope N_Throng_stretch p_Throng_stretch (defScope s_Throng_stretch) := ⟨rfl, rfl, rfl, by decide +kernel, rfl, by decide +kernel, by decide +kernel⟩
theorem ok_Throng_stretch {kws : List (Str × V)} (T : Kn K mg ca) (L : Lv P w K mg base ca wf k) (FD : FunD K "stretch" "Throng.stretch" (defArgs s_Throng_stretch) (defBody s_Throng_stretch) (defScope s_Throng_stretch) [] kws f fd) :
    FnOk P w K mg base CX0 (2 * k + 2) f fd p_Throng_stretch (spD K ca (runDef (G.pr wf k) d_Throng_stretch) (p_Throng_stretch).length) :=
  have S := sc_Throng_stretch
  fn_ok FD sc_Throng_stretch rfl rfl fun cdv A outer s H E hr =>
    have hr0 : Room (2 * k) _ := hr.mono (Nat.le_succ _)
    have hr1 : Room 1 _ := hr.mono (by omega)
    show PSsd ca (G.pr wf k) (cxOf CX0 P w K mg base N_Throng_stretch "Throng.stretch" (defScope s_Throng_stretch) f cdv A outer s H E).nox (defBody s_Throng_stretch) b_Throng_stretch from
    (ss_cons (sd_ret (pb_sum rfl T.b_sum (pl_cons (pd_lc [("one", 2), ("other", 3)] rfl S.nd (blkOk_by (N := N_Throng_stretch) (sc := defScope s_Throng_stretch) (by decide +kernel)) (pi_any (pd_callK L.f_pairs_of_folk hr0 (ag_c (pb_len T.b_len (pl_cons (pd_fld T.cls (pd_v 0)) pl_nil)) (ag_n (kw_c (pd_v 1) kw_0))))) (fun _ _ _ _ _ => (tg_tup rfl (lfs_cons (lf_n 2 S.nd) (lfs_cons (lf_n 3 S.nd) lfs_nil)))) (fun _ _ _ _ _ => pc_nil) (fun _ _ _ _ _ => (pb_int1 T.b_int (pl_cons (pd_meth L.m_changed hr0 (pd_v 0) (ad_c (pd_v 2) (ad_c (pd_v 3) ad_0))) pl_nil)))) pl_nil))) ss_nil)
theorem sc_Throng_copy : FnScope N_Throng_copy p_Throng_copy (defScope s_Throng_copy) := ⟨rfl, rfl, rfl, by decide +kernel, rfl, by decide +kernel, by decide +kernel⟩
theorem ok_Throng_copy {kws : List (Str × V)} (T : Kn K mg ca) (L : Lv P w K mg base ca wf k) (FD : FunD K "copy" "Throng.copy" (defArgs s_Throng_copy) (defBody s_Throng_copy) (defScope s_Throng_copy) [] kws f fd) :
    FnOk P w K mg base CX0 (2 * k + 2) f fd p_Throng_copy (spD K ca (runDef (G.pr wf k) d_Throng_copy) (p_Throng_copy).length) :=
  have S := sc_Throng_copy
  fn_ok FD sc_Throng_copy rfl rfl fun cdv A outer s H E hr =>
    have hr0 : Room (2 * k) _ := hr.mono (Nat.le_succ _)
    have hr1 : Room 1 _ := hr.mono (by omega)
    show PSsd ca (G.pr wf k) (cxOf CX0 P w K mg base N_Throng_copy "Throng.copy" (defScope s_Throng_copy) f cdv A outer s H E).nox (defBody s_Throng_copy) b_Throng_copy from
    (ss_cons (sd_set (pd_make L.k_Throng hr (ad_c (pd_fld T.cls (pd_v 0)) ad_0)) (tg_one (lf_n 1 S.nd))) (ss_cons (sd_fld T.cls (pd_v 1) (pd_lc [("things", 2)] rfl S.nd (blkOk_by (N := N_Throng_copy) (sc := defScope s_Throng_copy) (by decide +kernel)) (pi_any (pd_fld T.cls (pd_v 0))) (fun _ _ _ _ _ => (tg_one (lf_n 2 S.nd))) (fun _ _ _ _ _ => pc_nil) (fun _ _ _ _ _ => (pb_list1 T.b_list (pl_cons (pd_v 2) pl_nil))))) (ss_cons (sd_fld T.cls (pd_v 1) (pb_dict1 T.b_dict (pl_cons (pd_fld T.cls (pd_v 0)) pl_nil))) (ss_cons (sd_fld T.cls (pd_v 1) (pb_list1 T.b_list (pl_cons (pd_fld T.cls (pd_v 0)) pl_nil))) (ss_cons (sd_ret (pd_v 1)) ss_nil)))))
theorem sc__law_cell_at : FnScope N__law_cell_at p__law_cell_at (defScope s__law_cell_at) := ⟨rfl, rfl, rfl, by decide +kernel, rfl, by decide +kernel, by decide +kernel⟩
theorem ok__law_cell_at {kws : List (Str × V)} (T : Kn K mg ca) (L : Lv P w K mg base ca wf k) (FD : FunD K "_law_cell_at" "_law_cell_at" (defArgs s__law_cell_at) (defBody s__law_cell_at) (defScope s__law_cell_at) [] kws f fd) :
    FnOk P w K mg base CX0 (2 * k + 2) f fd p__law_cell_at (spD K ca (runDef (G.pr wf k) d__law_cell_at) (p__law_cell_at).length) :=
  have S := sc__law_cell_at
  fn_ok FD sc__law_cell_at rfl rfl fun cdv A outer s H E hr =>
    have hr0 : Room (2 * k) _ := hr.mono (Nat.le_succ _)
    have hr1 : Room 1 _ := hr.mono (by omega)
    show PSsd ca (G.pr wf k) (cxOf CX0 P w K mg base N__law_cell_at "_law_cell_at" (defScope s__law_cell_at) f cdv A outer s H E).nox (defBody s__law_cell_at) b__law_cell_at from
    (ss_cons (sd_if (pt_cmpD co_lt (pd_v 1) (pb_len T.b_len (pl_cons (pd_v 0) pl_nil))) (ss_cons (sd_ret (pd_ix hr1 (pd_v 0) (pd_v 1))) ss_nil) ss_nil) (ss_cons (sd_ret pd_int) ss_nil))
theorem sc__law_tape : FnScope N__law_tape p__law_tape (defScope s__law_tape) := ⟨rfl, rfl, rfl, by decide +kernel, rfl, by decide +kernel, by decide +kernel⟩
theorem ok__law_tape {kws : List (Str × V)} (T : Kn K mg ca) (L : Lv P w K mg base ca wf k) (FD : FunD K "_law_tape" "_law_tape" (defArgs s__law_tape) (defBody s__law_tape) (defScope s__law_tape) [] kws f fd) :
    FnOk P w K mg base CX0 (2 * k + 2) f fd p__law_tape (spD K ca (runDef (G.pr wf k) d__law_tape) (p__law_tape).length) :=
  have S := sc__law_tape
  fn_ok FD sc__law_tape rfl rfl fun cdv A outer s H E hr =>
    have hr0 : Room (2 * k) _ := hr.mono (Nat.le_succ _)
    have hr1 : Room 1 _ := hr.mono (by omega)
    show PSsd ca (G.pr wf k) (cxOf CX0 P w K mg base N__law_tape "_law_tape" (defScope s__law_tape) f cdv A outer s H E).nox (defBody s__law_tape) b__law_tape from
    (ss_cons (sd_set (pd_call L.f__law_cell_at hr0 (ad_c (pd_v 0) (ad_c (pd_v 1) ad_0))) (tg_one (lf_n 2 S.nd))) (ss_cons (sd_if (pt_cmpD (co_eq L.m_uequ hr) (pd_v 2) pd_int) (ss_cons (sd_ret (pd_lst (pl_cons pd_int pl_nil))) ss_nil) ss_nil) (ss_cons (sd_if (pt_cmpD co_ge (pd_v 2) (pd_bin_pow pd_int pd_int)) (ss_cons (sd_ret (pd_lst (pl_cons (pd_bin_sub (pd_v 2) (pd_bin_pow pd_int pd_int)) pl_nil))) ss_nil) ss_nil) (ss_cons (sd_set pd_int (tg_one (lf_n 3 S.nd))) (ss_cons (sd_set (pd_bin_mod (pd_bin_add (pd_bin_add (pd_bin_mul (pd_v 2) pd_int) (pd_bin_mul pd_int (pd_v 1))) pd_int) (pd_v 3)) (tg_one (lf_n 4 S.nd))) (ss_cons (sd_set (pd_v 4) (tg_one (lf_n 5 S.nd))) (ss_cons (sd_for PassesOwn.never rfl (pi_rng1 rfl T.b_range (pl_cons pd_int pl_nil)) (tg_one (lf_n 6 S.nd)) (ss_cons (sd_set (pd_bin_mod (pd_bin_add (pd_bin_add (pd_bin_mul (pd_v 4) (pd_v 4)) (pd_bin_mul (pd_bin_mul pd_int (pd_bin_add (pd_v 6) pd_int)) (pd_bin_add (pd_v 1) pd_int))) (pd_v 2)) (pd_v 3)) (tg_one (lf_n 4 S.nd))) (ss_cons (sd_set (pd_bin_add (pd_bin_mul (pd_v 5) (pd_v 3)) (pd_v 4)) (tg_one (lf_n 5 S.nd))) ss_nil))) (ss_cons (sd_ret (pd_lst (pl_cons (pd_v 5) pl_nil))) ss_nil))))))))
theorem sc__law_digit : FnScope N__law_digit p__law_digit (defScope s__law_digit) := ⟨rfl, rfl, rfl, by decide +kernel, rfl, by decide +kernel, by decide +kernel⟩
theorem ok__law_digit {kws : List (Str × V)} (T : Kn K mg ca) (L : Lv P w K mg base ca wf k) (FD : FunD K "_law_digit" "_law_digit" (defArgs s__law_digit) (defBody s__law_digit) (defScope s__law_digit) [] kws f fd) :
    FnOk P w K mg base CX0 (2 * k + 2) f fd p__law_digit (spD K ca (runDef (G.pr wf k) d__law_digit) (p__law_digit).length) :=
  have S := sc__law_digit
  fn_ok FD sc__law_digit rfl rfl fun cdv A outer s H E hr =>
    have hr0 : Room (2 * k) _ := hr.mono (Nat.le_succ _)
    have hr1 : Room 1 _ := hr.mono (by omega)
    show PSsd ca (G.pr wf k) (cxOf CX0 P w K mg base N__law_digit "_law_digit" (defScope s__law_digit) f cdv A outer s H E).nox (defBody s__law_digit) b__law_digit from
    (ss_cons (sd_set (pd_bin_mod (pd_ix hr1 (pd_v 0) pd_int) (pd_v 1)) (tg_one (lf_n 2 S.nd))) (ss_cons (sd_setIx hr (pd_v 0) pd_int (pd_bin_fdiv (pd_ix hr1 (pd_v 0) pd_int) (pd_v 1))) (ss_cons (sd_ret (pd_v 2)) ss_nil)))
theorem sc__law_weights : FnScope N__law_weights p__law_weights (defScope s__law_weights) := ⟨rfl, rfl, rfl, by decide +kernel, rfl, by decide +kernel, by decide +kernel⟩
theorem ok__law_weights {kws : List (Str × V)} (T : Kn K mg ca) (L : Lv P w K mg base ca wf k) (FD : FunD K "_law_weights" "_law_weights" (defArgs s__law_weights) (defBody s__law_weights) (defScope s__law_weights) [] kws f fd) :
    FnOk P w K mg base CX0 (2 * k + 2) f fd p__law_weights (spD K ca (runDef (G.pr wf k) d__law_weights) (p__law_weights).length) :=
  have S := sc__law_weights
  fn_ok FD sc__law_weights rfl rfl fun cdv A outer s H E hr =>
    have hr0 : Room (2 * k) _ := hr.mono (Nat.le_succ _)
    have hr1 : Room 1 _ := hr.mono (by omega)
    show PSsd ca (G.pr wf k) (cxOf CX0 P w K mg base N__law_weights "_law_weights" (defScope s__law_weights) f cdv A outer s H E).nox (defBody s__law_weights) b__law_weights from
    (ss_cons (sd_ret (pb_tuple1 T.b_tuple (pl_cons (pd_lc [("k", 2)] rfl S.nd (blkOk_by (N := N__law_weights) (sc := defScope s__law_weights) (by decide +kernel)) (pi_rng1 rfl T.b_range (pl_cons (pd_v 1) pl_nil)) (fun _ _ _ _ _ => (tg_one (lf_n 2 S.nd))) (fun _ _ _ _ _ => pc_nil) (fun _ _ _ _ _ => (pd_ix hr1 (pd_lst (pl_cons pd_int (pl_cons (pd_neg pd_int) (pl_cons pd_int (pl_cons pd_int (pl_cons (pd_neg pd_int) (pl_cons pd_int (pl_cons pd_int (pl_cons pd_int pl_nil))))))))) (pd_call L.f__law_digit hr0 (ad_c (pd_v 0) (ad_c pd_int ad_0)))))) pl_nil))) ss_nil)
theorem sc__law_atom : FnScope N__law_atom p__law_atom (defScope s__law_atom) := ⟨rfl, rfl, rfl, by decide +kernel, rfl, by decide +kernel, by decide +kernel⟩
theorem ok__law_atom {kws : List (Str × V)} (T : Kn K mg ca) (L : Lv P w K mg base ca wf k) (FD : FunD K "_law_atom" "_law_atom" (defArgs s__law_atom) (defBody s__law_atom) (defScope s__law_atom) [] kws f fd) :
    FnOk P w K mg base CX0 (2 * k + 2) f fd p__law_atom (spD K ca (runDef (G.pr wf k) d__law_atom) (p__law_atom).length) :=
  have S := sc__law_atom
  fn_ok FD sc__law_atom rfl rfl fun cdv A outer s H E hr =>
    have hr0 : Room (2 * k) _ := hr.mono (Nat.le_succ _)
    have hr1 : Room 1 _ := hr.mono (by omega)
    show PSsd ca (G.pr wf k) (cxOf CX0 P w K mg base N__law_atom "_law_atom" (defScope s__law_atom) f cdv A outer s H E).nox (defBody s__law_atom) b__law_atom from
    (ss_cons (sd_if (pt_cmpD (co_eq L.m_uequ hr) (pd_call L.f__law_digit hr0 (ad_c (pd_v 0) (ad_c pd_int ad_0))) pd_int) (ss_cons (sd_ret (pd_tup (pl_cons pd_str (pl_cons (pd_call L.f__law_weights hr0 (ad_c (pd_v 0) (ad_c (pd_v 1) ad_0))) (pl_cons (pd_ix hr1 (pd_lst (pl_cons pd_int (pl_cons pd_int (pl_cons pd_int (pl_cons (pd_neg pd_int) (pl_cons pd_int pl_nil)))))) (pd_call L.f__law_digit hr0 (ad_c (pd_v 0) (ad_c pd_int ad_0)))) pl_nil))))) ss_nil) ss_nil) (ss_cons (sd_set (pd_ix hr1 (pd_lst (pl_cons pd_int (pl_cons pd_int (pl_cons pd_int (pl_cons pd_int (pl_cons pd_int pl_nil)))))) (pd_call L.f__law_digit hr0 (ad_c (pd_v 0) (ad_c pd_int ad_0)))) (tg_one (lf_n 2 S.nd))) (ss_cons (sd_ret (pd_tup (pl_cons pd_str (pl_cons (pd_call L.f__law_weights hr0 (ad_c (pd_v 0) (ad_c (pd_v 1) ad_0))) (pl_cons (pd_v 2) (pl_cons (pd_call L.f__law_digit hr0 (ad_c (pd_v 0) (ad_c (pd_v 2) ad_0))) pl_nil)))))) ss_nil)))
theorem sc__law_wide_sentence : FnScope N__law_wide_sentence p__law_wide_sentence (defScope s__law_wide_sentence) := ⟨rfl, rfl, rfl, by decide +kernel, rfl, by decide +kernel, by decide +kernel⟩
theorem ok__law_wide_sentence {kws : List (Str × V)} (T : Kn K mg ca) (L : Lv P w K mg base ca wf k) (FD : FunD K "_law_wide_sentence" "_law_wide_sentence" (defArgs s__law_wide_sentence) (defBody s__law_wide_sentence) (defScope s__law_wide_sentence) [] kws f fd) :
    FnOk P w K mg base CX0 (2 * k + 2) f fd p__law_wide_sentence (spD K ca (runDef (G.pr wf k) d__law_wide_sentence) (p__law_wide_sentence).length) :=
  have S := sc__law_wide_sentence
  fn_ok FD sc__law_wide_sentence rfl rfl fun cdv A outer s H E hr =>
    have hr0 : Room (2 * k) _ := hr.mono (Nat.le_succ _)
    have hr1 : Room 1 _ := hr.mono (by omega)
    show PSsd ca (G.pr wf k) (cxOf CX0 P w K mg base N__law_wide_sentence "_law_wide_sentence" (defScope s__law_wide_sentence) f cdv A outer s H E).nox (defBody s__law_wide_sentence) b__law_wide_sentence from
    (ss_cons (sd_set (pd_call L.f__law_digit hr0 (ad_c (pd_v 0) (ad_c pd_int ad_0))) (tg_one (lf_n 4 S.nd))) (ss_cons (sd_if (pt_w (pw_or2 (pt_cmpD (co_eq L.m_uequ hr) (pd_v 2) pd_int) (pw_or1D (pt_cmpD (co_eq L.m_uequ hr) (pd_v 3) pd_int)))) (ss_cons (sd_ret (pd_call L.f__law_atom hr0 (ad_c (pd_v 0) (ad_c (pd_v 1) ad_0)))) ss_nil) ss_nil) (ss_cons (sd_if (pt_cmpD (co_eq L.m_uequ hr) (pd_v 4) pd_int) (ss_cons (sd_ret (pd_tup (pl_cons pd_str (pl_cons (pd_call L.f__law_wide_sentence hr0 (ad_c (pd_v 0) (ad_c (pd_v 1) (ad_c (pd_v 2) (ad_c (pd_bin_sub (pd_v 3) pd_int) ad_0))))) pl_nil)))) ss_nil) ss_nil) (ss_cons (sd_set (pd_bin_add pd_int (pd_call L.f__law_digit hr0 (ad_c (pd_v 0) (ad_c (pd_bin_sub (pd_v 2) pd_int) ad_0)))) (tg_one (lf_n 5 S.nd))) (ss_cons (sd_set (pd_call L.f__law_wide_sentence hr0 (ad_c (pd_v 0) (ad_c (pd_v 1) (ad_c (pd_v 5) (ad_c (pd_bin_sub (pd_v 3) pd_int) ad_0))))) (tg_one (lf_n 6 S.nd))) (ss_cons (sd_set (pd_call L.f__law_wide_sentence hr0 (ad_c (pd_v 0) (ad_c (pd_v 1) (ad_c (pd_bin_sub (pd_v 2) (pd_v 5)) (ad_c (pd_bin_sub (pd_v 3) pd_int) ad_0))))) (tg_one (lf_n 7 S.nd))) (ss_cons (sd_ret (pd_tup (pl_cons (pd_ix hr1 (pd_lst (pl_cons pd_str (pl_cons pd_str pl_nil))) (pd_bin_mod (pd_v 4) pd_int)) (pl_cons (pd_v 6) (pl_cons (pd_v 7) pl_nil))))) ss_nil)))))))
theorem sc__law_pairs : FnScope N__law_pairs p__law_pairs (defScope s__law_pairs) := ⟨rfl, rfl, rfl, by decide +kernel, rfl, by decide +kernel, by decide +kernel⟩
theorem ok__law_pairs {kws : List (Str × V)} (T : Kn K mg ca) (L : Lv P w K mg base ca wf k) (FD : FunD K "_law_pairs" "_law_pairs" (defArgs s__law_pairs) (defBody s__law_pairs) (defScope s__law_pairs) [] kws f fd) :
    FnOk P w K mg base CX0 (2 * k + 2) f fd p__law_pairs (spD K ca (runDef (G.pr wf k) d__law_pairs) (p__law_pairs).length) :=
  have S := sc__law_pairs
  fn_ok FD sc__law_pairs rfl rfl fun cdv A outer s H E hr =>
    have hr0 : Room (2 * k) _ := hr.mono (Nat.le_succ _)
    have hr1 : Room 1 _ := hr.mono (by omega)
    show PSsd ca (G.pr wf k) (cxOf CX0 P w K mg base N__law_pairs "_law_pairs" (defScope s__law_pairs) f cdv A outer s H E).nox (defBody s__law_pairs) b__law_pairs from
    (ss_cons (sd_set (pd_lst pl_nil) (tg_one (lf_n 2 S.nd))) (ss_cons (sd_for PassesOwn.never rfl (pi_rng1 rfl T.b_range (pl_cons (pd_v 0) pl_nil)) (tg_one (lf_n 3 S.nd)) (ss_cons (sd_for PassesOwn.never rfl (pi_rng2 rfl T.b_range (pl_cons (pd_bin_add (pd_v 3) pd_int) (pl_cons (pd_v 0) pl_nil))) (tg_one (lf_n 4 S.nd)) (ss_cons (sd_ex (pm_append (pd_v 2) (pl_cons (pd_tup (pl_cons (pd_v 3) (pl_cons (pd_v 4) pl_nil))) pl_nil))) ss_nil)) ss_nil)) (ss_cons (sd_if (pt_tru (pd_v 1)) (ss_cons (sd_setLc [("one", 3), ("other", 4)] rfl S.nd rfl rfl (sw_true rfl rfl rfl rfl) (blkOk_by (N := N__law_pairs) (sc := defScope s__law_pairs) (by decide +kernel)) (pi_any (pd_rev (pd_v 2))) (fun _ _ _ _ _ => (tg_tup rfl (lfs_cons (lf_n 3 S.nd) (lfs_cons (lf_n 4 S.nd) lfs_nil)))) (fun _ _ _ _ _ => pc_nil) (fun _ _ _ _ _ => (pd_tup (pl_cons (pd_v 4) (pl_cons (pd_v 3) pl_nil))))) ss_nil) ss_nil) (ss_cons (sd_ret (pd_frz (pd_v 2))) ss_nil))))
theorem sc__law_met_one_by_one : FnScope N__law_met_one_by_one p__law_met_one_by_one (defScope s__law_met_one_by_one) := ⟨rfl, rfl, rfl, by decide +kernel, rfl, by decide +kernel, by decide +kernel⟩
theorem ok__law_met_one_by_one {kws : List (Str × V)} (T : Kn K mg ca) (L : Lv P w K mg base ca wf k) (FD : FunD K "_law_met_one_by_one" "_law_met_one_by_one" (defArgs s__law_met_one_by_one) (defBody s__law_met_one_by_one) (defScope s__law_met_one_by_one) [] kws f fd) :
    FnOk P w K mg base CX0 (2 * k + 2) f fd p__law_met_one_by_one (spD K ca (runDef (G.pr wf k) d__law_met_one_by_one) (p__law_met_one_by_one).length) :=
  have S := sc__law_met_one_by_one
  fn_ok FD sc__law_met_one_by_one rfl rfl fun cdv A outer s H E hr =>
    have hr0 : Room (2 * k) _ := hr.mono (Nat.le_succ _)
    have hr1 : Room 1 _ := hr.mono (by omega)
    show PSsd ca (G.pr wf k) (cxOf CX0 P w K mg base N__law_met_one_by_one "_law_met_one_by_one" (defScope s__law_met_one_by_one) f cdv A outer s H E).nox (defBody s__law_met_one_by_one) b__law_met_one_by_one from
    (ss_cons (sd_set (pd_lenO T.b_len L.m_ulenu hr (pd_v 0)) (tg_one (lf_n 2 S.nd))) (ss_cons (sd_set pd_int (tg_one (lf_n 3 S.nd))) (ss_cons (sd_for PassesOwn.never rfl (pi_any (pd_v 1)) (tg_tup rfl (lfs_cons (lf_n 4 S.nd) (lfs_cons (lf_n 5 S.nd) lfs_nil))) (ss_cons (sd_set (pd_lc [("k", 7)] rfl S.nd (blkOk_by (N := N__law_met_one_by_one) (sc := defScope s__law_met_one_by_one) (by decide +kernel)) (pi_rng1 rfl T.b_range (pl_cons (pd_v 2) pl_nil)) (fun _ _ _ _ _ => (tg_one (lf_n 7 S.nd))) (fun _ _ _ _ _ => pc_nil) (fun _ _ _ _ _ => (pd_meth L.m_says hr0 (pd_v 0) (ad_c (pd_v 7) ad_0)))) (tg_one (lf_n 6 S.nd))) (ss_cons (sd_ex (pd_meth L.m_meet hr0 (pd_v 0) (ad_c (pd_v 4) (ad_c (pd_v 5) ad_0)))) (ss_cons (sd_set (pd_lc [("k", 7)] rfl S.nd (blkOk_by (N := N__law_met_one_by_one) (sc := defScope s__law_met_one_by_one) (by decide +kernel)) (pi_rng1 rfl T.b_range (pl_cons (pd_v 2) pl_nil)) (fun _ _ _ _ _ => (tg_one (lf_n 7 S.nd))) (fun _ _ _ _ _ => pc_nil) (fun _ _ _ _ _ => (pd_meth L.m_says hr0 (pd_v 0) (ad_c (pd_v 7) ad_0)))) (tg_one (lf_n 8 S.nd))) (ss_cons (sd_set (pd_bin_add (pd_v 3) (pb_int1 T.b_int (pl_cons (pd_cmp (co_ne T.ne L.m_uequ hr) (pd_v 6) (pd_v 8)) pl_nil))) (tg_one (lf_n 3 S.nd))) (ss_cons (sd_if (pt_notD (pt_tru (pb_all rfl T.b_all (pl_cons (pd_lc [("k", 7)] rfl S.nd (blkOk_by (N := N__law_met_one_by_one) (sc := defScope s__law_met_one_by_one) (by decide +kernel)) (pi_rng1 rfl T.b_range (pl_cons (pd_v 2) pl_nil)) (fun _ _ _ _ _ => (tg_one (lf_n 7 S.nd))) (fun _ _ _ _ _ => (pc_one (pt_cmpD (co_nmem hr1) (pd_v 7) (pd_tup (pl_cons (pd_v 4) (pl_cons (pd_v 5) pl_nil)))))) (fun _ _ _ _ _ => (pd_cmp (co_eq L.m_uequ hr) (pd_ix hr1 (pd_v 8) (pd_v 7)) (pd_ix hr1 (pd_v 6) (pd_v 7))))) pl_nil)))) (ss_cons (sd_ret (pd_bin_mul (pd_v 2) (pd_v 2))) ss_nil) ss_nil) ss_nil)))))) (ss_cons (sd_ret (pd_v 3)) ss_nil))))
theorem sc__law_stretch_right : FnScope N__law_stretch_right p__law_stretch_right (defScope s__law_stretch_right) := ⟨rfl, rfl, rfl, by decide +kernel, rfl, by decide +kernel, by decide +kernel⟩
theorem ok__law_stretch_right {kws : List (Str × V)} (T : Kn K mg ca) (L : Lv P w K mg base ca wf k) (FD : FunD K "_law_stretch_right" "_law_stretch_right" (defArgs s__law_stretch_right) (defBody s__law_stretch_right) (defScope s__law_stretch_right) [] kws f fd) :
    FnOk P w K mg base CX0 (2 * k + 2) f fd p__law_stretch_right (spD K ca (runDef (G.pr wf k) d__law_stretch_right) (p__law_stretch_right).length) :=
  have S := sc__law_stretch_right
  fn_ok FD sc__law_stretch_right rfl rfl fun cdv A outer s H E hr =>
    have hr0 : Room (2 * k) _ := hr.mono (Nat.le_succ _)
    have hr1 : Room 1 _ := hr.mono (by omega)
    show PSsd ca (G.pr wf k) (cxOf CX0 P w K mg base N__law_stretch_right "_law_stretch_right" (defScope s__law_stretch_right) f cdv A outer s H E).nox (defBody s__law_stretch_right) b__law_stretch_right from
    (ss_cons (sd_set (pd_lenO T.b_len L.m_ulenu hr (pd_v 0)) (tg_one (lf_n 3 S.nd))) (ss_cons (sd_set (pd_call L.f__law_met_one_by_one hr0 (ad_c (pd_v 1) (ad_c (pd_call L.f__law_pairs hr0 (ad_c (pd_v 3) (ad_c (pd_cmp (co_eq L.m_uequ hr) (pd_v 2) pd_int) ad_0))) ad_0))) (tg_one (lf_n 4 S.nd))) (ss_cons (sd_if (pt_cmpD (co_eq L.m_uequ hr) (pd_v 2) pd_int) (ss_cons (sd_set (pd_meth0_1 L.m_stretch hr0 (pd_v 0) ) (tg_one (lf_n 5 S.nd))) ss_nil) (ss_cons (sd_set (pd_methK0 L.m_stretch_1 hr0 (pd_v 0) (kw_c (pd_cmp (co_eq L.m_uequ hr) (pd_v 2) pd_int) kw_0)) (tg_one (lf_n 5 S.nd))) ss_nil)) (ss_cons (sd_if (pt_w (pw_or2 (pt_notD (pt_tru (pd_isInt T.b_isinstance T.b_int (pd_v 5)))) (pw_or1D (pt_tru (pd_isBool T.b_isinstance T.b_bool (pd_v 5)))))) (ss_cons (sd_ret pd_bl) ss_nil) ss_nil) (ss_cons (sd_if (pt_notD (pt_chnD co_le co_le (pd_v 4) (pd_v 5) (pd_bin_fdiv (pd_bin_mul (pd_v 3) (pd_bin_sub (pd_v 3) pd_int)) pd_int))) (ss_cons (sd_ret pd_bl) ss_nil) ss_nil) (ss_cons (sd_setLc [("k", 7)] rfl S.nd rfl rfl (sw_true rfl rfl rfl rfl) (blkOk_by (N := N__law_stretch_right) (sc := defScope s__law_stretch_right) (by decide +kernel)) (pi_rng1 rfl T.b_range (pl_cons (pd_v 3) pl_nil)) (fun _ _ _ _ _ => (tg_one (lf_n 7 S.nd))) (fun _ _ _ _ _ => pc_nil) (fun _ _ _ _ _ => (pd_meth L.m_says hr0 (pd_v 1) (ad_c (pd_v 7) ad_0)))) (ss_cons (sd_if (pt_cmpD (co_ne T.ne L.m_uequ hr) (pd_lc [("k", 7)] rfl S.nd (blkOk_by (N := N__law_stretch_right) (sc := defScope s__law_stretch_right) (by decide +kernel)) (pi_rng1 rfl T.b_range (pl_cons (pd_v 3) pl_nil)) (fun _ _ _ _ _ => (tg_one (lf_n 7 S.nd))) (fun _ _ _ _ _ => pc_nil) (fun _ _ _ _ _ => (pd_meth L.m_says hr0 (pd_v 0) (ad_c (pd_v 7) ad_0)))) (pd_v 6)) (ss_cons (sd_ret pd_bl) ss_nil) ss_nil) (ss_cons (sd_ret (pd_and (pd_cmp (co_eq L.m_uequ hr) (pd_v 0) (pd_v 1)) (pd_one (pd_cmp (co_eq L.m_uequ hr) (pd_meth0_0 L.m_said hr0 (pd_v 0) ) (pd_meth0_0 L.m_said hr0 (pd_v 1) ))))) ss_nil))))))))
theorem sc__law_great_right : FnScope N__law_great_right p__law_great_right (defScope s__law_great_right) := ⟨rfl, rfl, rfl, by decide +kernel, rfl, by decide +kernel, by decide +kernel⟩
theorem ok__law_great_right {kws : List (Str × V)} (T : Kn K mg ca) (L : Lv P w K mg base ca wf k) (FD : FunD K "_law_great_right" "_law_great_right" (defArgs s__law_great_right) (defBody s__law_great_right) (defScope s__law_great_right) [] kws f fd) :
    FnOk P w K mg base CX0 (2 * k + 2) f fd p__law_great_right (spD K ca (runDef (G.pr wf k) d__law_great_right) (p__law_great_right).length) :=
  have S := sc__law_great_right
  fn_ok FD sc__law_great_right rfl rfl fun cdv A outer s H E hr =>
    have hr0 : Room (2 * k) _ := hr.mono (Nat.le_succ _)
    have hr1 : Room 1 _ := hr.mono (by omega)
    show PSsd ca (G.pr wf k) (cxOf CX0 P w K mg base N__law_great_right "_law_great_right" (defScope s__law_great_right) f cdv A outer s H E).nox (defBody s__law_great_right) b__law_great_right from
    (ss_cons (sd_set (pd_bin_add pd_int (pd_call L.f__law_digit hr0 (ad_c (pd_v 0) (ad_c pd_int ad_0)))) (tg_one (lf_n 1 S.nd))) (ss_cons (sd_set (pd_make L.k_Throng hr (ad_c (pd_call L.f__law_atom hr0 (ad_c (pd_v 0) (ad_c (pd_v 1) ad_0))) ad_0)) (tg_one (lf_n 2 S.nd))) (ss_cons (sd_set (pd_bin_add pd_int (pd_call L.f__law_digit hr0 (ad_c (pd_v 0) (ad_c pd_int ad_0)))) (tg_one (lf_n 3 S.nd))) (ss_cons (sd_for PassesOwn.never rfl (pi_rng1 rfl T.b_range (pl_cons (pd_v 1) pl_nil)) (tg_one (lf_n 4 S.nd)) (ss_cons (sd_ex (pd_methK L.m_come hr0 (pd_v 2) (ag_c (pd_sl pd_str (pp_some (pd_v 4)) (pp_some (pd_bin_add (pd_v 4) pd_int))) (ag_n (kw_c (pd_ix hr1 (pd_lst (pl_cons (pd_bin_sub (pd_v 3) pd_int) (pl_cons pd_int pl_nil))) (pd_v 4)) kw_0))))) ss_nil)) (ss_cons (sd_for PassesOwn.never rfl (pi_rng1 rfl T.b_range (pl_cons pd_int pl_nil)) (tg_one (lf_n 5 S.nd)) (ss_cons (sd_set (pd_meth0_0 L.m_copy hr0 (pd_v 2) ) (tg_one (lf_n 6 S.nd))) (ss_cons (sd_for PassesOwn.never rfl (pi_any (pd_call L.f__law_pairs hr0 (ad_c (pd_lenO T.b_len L.m_ulenu hr (pd_v 2)) (ad_c (pd_cmp (co_eq L.m_uequ hr) (pd_v 5) pd_int) ad_0)))) (tg_tup rfl (lfs_cons (lf_n 7 S.nd) (lfs_cons (lf_n 8 S.nd) lfs_nil))) (ss_cons (sd_ex (pd_meth L.m_meet hr0 (pd_v 6) (ad_c (pd_v 7) (ad_c (pd_v 8) ad_0)))) ss_nil)) (ss_cons (sd_ex (pd_methK0 L.m_stretch_1 hr0 (pd_v 2) (kw_c (pd_cmp (co_eq L.m_uequ hr) (pd_v 5) pd_int) kw_0))) (ss_cons (sd_setLc [("k", 10)] rfl S.nd rfl rfl (sw_true rfl rfl rfl rfl) (blkOk_by (N := N__law_great_right) (sc := defScope s__law_great_right) (by decide +kernel)) (pi_rng1 rfl T.b_range (pl_cons (pd_lenO T.b_len L.m_ulenu hr (pd_v 6)) pl_nil)) (fun _ _ _ _ _ => (tg_one (lf_n 10 S.nd))) (fun _ _ _ _ _ => pc_nil) (fun _ _ _ _ _ => (pd_meth L.m_says hr0 (pd_v 6) (ad_c (pd_v 10) ad_0)))) (ss_cons (sd_if (pt_w (pw_or2 (pt_cmpD (co_ne T.ne L.m_uequ hr) (pd_lc [("k", 10)] rfl S.nd (blkOk_by (N := N__law_great_right) (sc := defScope s__law_great_right) (by decide +kernel)) (pi_rng1 rfl T.b_range (pl_cons (pd_lenO T.b_len L.m_ulenu hr (pd_v 2)) pl_nil)) (fun _ _ _ _ _ => (tg_one (lf_n 10 S.nd))) (fun _ _ _ _ _ => pc_nil) (fun _ _ _ _ _ => (pd_meth L.m_says hr0 (pd_v 2) (ad_c (pd_v 10) ad_0)))) (pd_v 9)) (pw_or1D (pt_cmpD (co_ne T.ne L.m_uequ hr) (pd_v 2) (pd_v 6))))) (ss_cons (sd_ret pd_bl) ss_nil) ss_nil) ss_nil)))))) (ss_cons (sd_ret pd_bl) ss_nil))))))
theorem sc_law : FnScope N_law p_law (defScope s_law) := ⟨rfl, rfl, rfl, by decide +kernel, rfl, by decide +kernel, by decide +kernel⟩
theorem ok_law {kws : List (Str × V)} (T : Kn K mg ca) (L : Lv P w K mg base ca wf k) (FD : FunD K "law" "law" (defArgs s_law) (defBody s_law) (defScope s_law) [] kws f fd) :
    FnOk P w K mg base CX0 (2 * k + 2) f fd p_law (spD K ca (runDef (G.pr wf k) d_law) (p_law).length) :=
  have S := sc_law
  fn_ok FD sc_law rfl rfl fun cdv A outer s H E hr =>
    have hr0 : Room (2 * k) _ := hr.mono (Nat.le_succ _)
    have hr1 : Room 1 _ := hr.mono (by omega)
    show PSsd ca (G.pr wf k) (cxOf CX0 P w K mg base N_law "law" (defScope s_law) f cdv A outer s H E).nox (defBody s_law) b_law from
    (ss_cons (sd_if (pt_notD (pt_tru (pd_call L.f__law_great_right hr0 (ad_c (pd_call L.f__law_tape hr0 (ad_c (pd_v 0) (ad_c pd_int ad_0))) ad_0)))) (ss_cons (sd_ret pd_bl) ss_nil) ss_nil) (ss_cons (sd_for PassesOwn.never rfl (pi_rng2 rfl T.b_range (pl_cons pd_int (pl_cons (pb_max2 rfl T.b_max (pl_cons pd_int (pl_cons (pb_min2 rfl T.b_min (pl_cons pd_int (pl_cons (pb_len T.b_len (pl_cons (pd_v 0) pl_nil)) pl_nil))) pl_nil))) pl_nil))) (tg_one (lf_n 1 S.nd)) (ss_cons (sd_set (pd_call L.f__law_tape hr0 (ad_c (pd_v 0) (ad_c (pd_v 1) ad_0))) (tg_one (lf_n 2 S.nd))) (ss_cons (sd_set (pd_bin_add pd_int (pd_call L.f__law_digit hr0 (ad_c (pd_v 2) (ad_c pd_int ad_0)))) (tg_one (lf_n 3 S.nd))) (ss_cons (sd_set (pd_call L.f__law_wide_sentence hr0 (ad_c (pd_v 2) (ad_c (pd_v 3) (ad_c (pd_bin_add pd_int (pd_call L.f__law_digit hr0 (ad_c (pd_v 2) (ad_c pd_int ad_0)))) (ad_c pd_int ad_0))))) (tg_one (lf_n 4 S.nd))) (ss_cons (sd_set (pd_make L.k_Throng hr (ad_c (pd_v 4) ad_0)) (tg_one (lf_n 5 S.nd))) (ss_cons (sd_if (pt_w (pw_or2 (pt_cmpD (co_ne T.ne L.m_uequ hr) (pd_meth0_1 L.m_stretch hr0 (pd_v 5) ) pd_int) (pw_or1D (pt_cmpD co_notN (pd_meth0_0 L.m_said hr0 (pd_v 5) ) pd_non)))) (ss_cons (sd_ret pd_bl) ss_nil) ss_nil) (ss_cons (sd_ex (pd_meth L.m_come_1 hr0 (pd_v 5) (ad_c pd_str ad_1))) (ss_cons (sd_if (pt_cmpD (co_ne T.ne L.m_uequ hr) (pd_methK0 L.m_stretch_1 hr0 (pd_v 5) (kw_c pd_bl kw_0)) pd_int) (ss_cons (sd_ret pd_bl) ss_nil) ss_nil) (ss_cons (sd_for PassesOwn.never rfl (pi_rng1 rfl T.b_range (pl_cons (pd_bin_add pd_int (pd_call L.f__law_digit hr0 (ad_c (pd_v 2) (ad_c pd_int ad_0)))) pl_nil)) (tg_one (lf_n 6 S.nd)) (ss_cons (sd_set (pd_call L.f__law_digit hr0 (ad_c (pd_v 2) (ad_c (pd_v 3) ad_0))) (tg_one (lf_n 7 S.nd))) (ss_cons (sd_ex (pd_meth L.m_come_1 hr0 (pd_v 5) (ad_c (pd_sl pd_str (pp_some (pd_v 7)) (pp_some (pd_bin_add (pd_v 7) pd_int))) ad_1))) ss_nil))) (ss_cons (sd_set (pd_lenO T.b_len L.m_ulenu hr (pd_v 5)) (tg_one (lf_n 8 S.nd))) (ss_cons (sd_for PassesOwn.never rfl (pi_rng1 rfl T.b_range (pl_cons (pd_call L.f__law_digit hr0 (ad_c (pd_v 2) (ad_c pd_int ad_0))) pl_nil)) (tg_one (lf_n 6 S.nd)) (ss_cons (sd_set (pd_call L.f__law_digit hr0 (ad_c (pd_v 2) (ad_c (pd_v 8) ad_0))) (tg_one (lf_n 9 S.nd))) (ss_cons (sd_set (pd_call L.f__law_digit hr0 (ad_c (pd_v 2) (ad_c (pd_bin_sub (pd_v 8) pd_int) ad_0))) (tg_one (lf_n 10 S.nd))) (ss_cons (sd_ex (pd_meth L.m_meet hr0 (pd_v 5) (ad_c (pd_v 9) (ad_c (pd_bin_add (pd_v 10) (pb_int1 T.b_int (pl_cons (pd_cmp co_ge (pd_v 10) (pd_v 9)) pl_nil))) ad_0)))) ss_nil)))) (ss_cons (sd_set (pd_meth0_0 L.m_copy hr0 (pd_v 5) ) (tg_one (lf_n 11 S.nd))) (ss_cons (sd_for PassesOwn.never rfl (pi_rng1 rfl T.b_range (pl_cons pd_int pl_nil)) (tg_one (lf_n 6 S.nd)) (ss_cons (sd_if (pt_notD (pt_tru (pd_call L.f__law_stretch_right hr0 (ad_c (pd_v 5) (ad_c (pd_v 11) (ad_c (pd_call L.f__law_digit hr0 (ad_c (pd_v 2) (ad_c pd_int ad_0))) ad_0)))))) (ss_cons (sd_ret pd_bl) ss_nil) ss_nil) ss_nil)) ss_nil))))))))))))) (ss_cons (sd_ret pd_bl) ss_nil)))
theorem lv_step (T : Kn K mg ca) (Y : Fx K mg ca) (k : Nat) (ih : ∀ j, j + 1 = k → Lv P w K mg base ca wf j) : Lv P w K mg base ca wf k where
  m_led := ⟨fun C ds μ r h => by
    have hC : C ∈ [("Least" : Str), ("Rest" : Str)] := Prog.meth_in h
    simp only [List.mem_cons, List.not_mem_nil, or_false] at hC
    rcases hC with rfl | rfl
    · obtain ⟨c, f, fd, hc, hM, FD⟩ := Y.x_Least_led
      exact ⟨c, f, fd, p_Least_led, hc, (T.cls _ _ hc).1, hM, mt_all FD sc_Least_led rfl (fun j hj => ok_Least_led T (ih j hj) FD), bo_N FD 2 rfl (fun _ _ _ _ _ _ us hl => match us, hl with | [_, _], _ => rfl)⟩
    · obtain ⟨c, f, fd, hc, hM, FD⟩ := Y.x_Rest_led
      exact ⟨c, f, fd, p_Rest_led, hc, (T.cls _ _ hc).1, hM, mt_all FD sc_Rest_led rfl (fun j hj => ok_Rest_led T (ih j hj) FD), bo_N FD 2 rfl (fun _ _ _ _ _ _ us hl => match us, hl with | [_, _], _ => rfl)⟩⟩
  k_Least := by
    obtain ⟨c, f, fd, hc, hM, hm, FD⟩ := Y.x_Leastu_initu
    exact ⟨c, f, fd, p_Leastu_initu, hc, hM, hm, mt_all FD sc_Leastu_initu rfl (fun j hj => ok_Leastu_initu T (ih j hj) FD), bo_N FD 2 rfl (fun _ _ _ _ _ _ us hl => match us, hl with | [_, _], _ => rfl)⟩
  k_Rest := by
    obtain ⟨c, f, fd, hc, hM, hm, FD⟩ := Y.x_Restu_initu
    exact ⟨c, f, fd, p_Restu_initu, hc, hM, hm, mt_all FD sc_Restu_initu rfl (fun j hj => ok_Restu_initu T (ih j hj) FD), bo_N FD 2 rfl (fun _ _ _ _ _ _ us hl => match us, hl with | [_, _], _ => rfl)⟩
  f_atoms_of := by
    obtain ⟨f, fd, FD, hm⟩ := Y.x_atoms_of
    exact ⟨f, fd, p_atoms_of, fn_all FD sc_atoms_of rfl (fun j hj => ok_atoms_of T (ih j hj) FD), hm, FD.kp, bo_N FD 1 rfl (fun _ _ _ _ _ _ us hl => match us, hl with | [_], _ => rfl)⟩
  f_truth_of := by
    obtain ⟨f, fd, FD, hm⟩ := Y.x_truth_of
    exact ⟨f, fd, p_truth_of, fn_all FD sc_truth_of rfl (fun j hj => ok_truth_of T (ih j hj) FD), hm, FD.kp, bo_N FD 2 rfl (fun _ _ _ _ _ _ us hl => match us, hl with | [_, _], _ => rfl)⟩
  f_many_of := by
    obtain ⟨f, fd, FD, hm⟩ := Y.x_many_of
    exact ⟨f, fd, p_many_of, fn_all FD sc_many_of rfl (fun j hj => ok_many_of T (ih j hj) FD), hm, FD.kp, bo_N FD 1 rfl (fun _ _ _ _ _ _ us hl => match us, hl with | [_], _ => rfl)⟩
  f_made_of := by
    obtain ⟨f, fd, FD, hm⟩ := Y.x_made_of
    exact ⟨f, fd, p_made_of, fn_all FD sc_made_of rfl (fun j hj => ok_made_of T (ih j hj) FD), hm, FD.kp, bo_N FD 1 rfl (fun _ _ _ _ _ _ us hl => match us, hl with | [_], _ => rfl)⟩
  m_words := ⟨fun C ds μ r h => by
    have hC : C ∈ [("Throng" : Str)] := Prog.meth_in h
    simp only [List.mem_cons, List.not_mem_nil, or_false] at hC
    rcases hC with rfl
    · obtain ⟨c, f, fd, hc, hM, FD⟩ := Y.x_Throng_words
      exact ⟨c, f, fd, p_Throng_words, hc, (T.cls _ _ hc).1, hM, mt_all FD sc_Throng_words rfl (fun j hj => ok_Throng_words T (ih j hj) FD), bo_N FD 1 rfl (fun _ _ _ _ _ _ us hl => match us, hl with | [_], _ => rfl)⟩⟩
  m_word_of_folk := ⟨fun C ds μ r h => by
    have hC : C ∈ [("Throng" : Str)] := Prog.meth_in h
    simp only [List.mem_cons, List.not_mem_nil, or_false] at hC
    rcases hC with rfl
    · obtain ⟨c, f, fd, hc, hM, FD⟩ := Y.x_Throng_word_of_folk
      exact ⟨c, f, fd, p_Throng_word_of_folk, hc, (T.cls _ _ hc).1, hM, mt_all FD sc_Throng_word_of_folk rfl (fun j hj => ok_Throng_word_of_folk T (ih j hj) FD), bo_N FD 2 rfl (fun _ _ _ _ _ _ us hl => match us, hl with | [_, _], _ => rfl)⟩⟩
  m_met := ⟨fun C ds μ r h => by
    have hC : C ∈ [("Least" : Str), ("Rest" : Str)] := Prog.meth_in h
    simp only [List.mem_cons, List.not_mem_nil, or_false] at hC
    rcases hC with rfl | rfl
    · obtain ⟨c, f, fd, hc, hM, FD⟩ := Y.x_Least_met
      exact ⟨c, f, fd, p_Least_met, hc, (T.cls _ _ hc).1, hM, mt_all FD sc_Least_met rfl (fun j hj => ok_Least_met T (ih j hj) FD), bo_N FD 3 rfl (fun _ _ _ _ _ _ us hl => match us, hl with | [_, _, _], _ => rfl)⟩
    · obtain ⟨c, f, fd, hc, hM, FD⟩ := Y.x_Rest_met
      exact ⟨c, f, fd, p_Rest_met, hc, (T.cls _ _ hc).1, hM, mt_all FD sc_Rest_met rfl (fun j hj => ok_Rest_met T (ih j hj) FD), bo_N FD 3 rfl (fun _ _ _ _ _ _ us hl => match us, hl with | [_, _, _], _ => rfl)⟩⟩
  m_changed := ⟨fun C ds μ r h => by
    have hC : C ∈ [("Throng" : Str)] := Prog.meth_in h
    simp only [List.mem_cons, List.not_mem_nil, or_false] at hC
    rcases hC with rfl
    · obtain ⟨c, f, fd, hc, hM, FD⟩ := Y.x_Throng_changed
      exact ⟨c, f, fd, p_Throng_changed, hc, (T.cls _ _ hc).1, hM, mt_all FD sc_Throng_changed rfl (fun j hj => ok_Throng_changed T (ih j hj) FD), bo_N FD 3 rfl (fun _ _ _ _ _ _ us hl => match us, hl with | [_, _, _], _ => rfl)⟩⟩
  m_need_folk := ⟨fun C ds μ r h => by
    have hC : C ∈ [("Throng" : Str)] := Prog.meth_in h
    simp only [List.mem_cons, List.not_mem_nil, or_false] at hC
    rcases hC with rfl
    · obtain ⟨c, f, fd, hc, hM, FD⟩ := Y.x_Throng_need_folk
      exact ⟨c, f, fd, p_Throng_need_folk, hc, (T.cls _ _ hc).1, hM, mt_all FD sc_Throng_need_folk rfl (fun j hj => ok_Throng_need_folk T (ih j hj) FD), bo_N FD 2 rfl (fun _ _ _ _ _ _ us hl => match us, hl with | [_, _], _ => rfl)⟩⟩
  f_pairs_of_folk := by
    obtain ⟨f, fd, FD, hm⟩ := Y.x_pairs_of_folk
    exact ⟨f, fd, p_pairs_of_folk, fn_all FD sc_pairs_of_folk rfl (fun j hj => ok_pairs_of_folk T (ih j hj) FD), hm, FD.kp, bo_K FD 1 ["backward"] rfl (fun _ _ _ _ _ _ us ws h1 h2 => match us, ws, h1, h2 with | [_], [_], _, _ => rfl)⟩
  k_Throng := by
    obtain ⟨c, f, fd, hc, hM, hm, FD⟩ := Y.x_Throngu_initu
    exact ⟨c, f, fd, p_Throngu_initu, hc, hM, hm, mt_all FD sc_Throngu_initu rfl (fun j hj => ok_Throngu_initu T (ih j hj) FD), bo_N FD 2 rfl (fun _ _ _ _ _ _ us hl => match us, hl with | [_, _], _ => rfl)⟩
  f__law_cell_at := by
    obtain ⟨f, fd, FD, hm⟩ := Y.x__law_cell_at
    exact ⟨f, fd, p__law_cell_at, fn_all FD sc__law_cell_at rfl (fun j hj => ok__law_cell_at T (ih j hj) FD), hm, FD.kp, bo_N FD 2 rfl (fun _ _ _ _ _ _ us hl => match us, hl with | [_, _], _ => rfl)⟩
  f__law_digit := by
    obtain ⟨f, fd, FD, hm⟩ := Y.x__law_digit
    exact ⟨f, fd, p__law_digit, fn_all FD sc__law_digit rfl (fun j hj => ok__law_digit T (ih j hj) FD), hm, FD.kp, bo_N FD 2 rfl (fun _ _ _ _ _ _ us hl => match us, hl with | [_, _], _ => rfl)⟩
  f__law_weights := by
    obtain ⟨f, fd, FD, hm⟩ := Y.x__law_weights
    exact ⟨f, fd, p__law_weights, fn_all FD sc__law_weights rfl (fun j hj => ok__law_weights T (ih j hj) FD), hm, FD.kp, bo_N FD 2 rfl (fun _ _ _ _ _ _ us hl => match us, hl with | [_, _], _ => rfl)⟩
  f__law_wide_sentence := by
    obtain ⟨f, fd, FD, hm⟩ := Y.x__law_wide_sentence
    exact ⟨f, fd, p__law_wide_sentence, fn_all FD sc__law_wide_sentence rfl (fun j hj => ok__law_wide_sentence T (ih j hj) FD), hm, FD.kp, bo_N FD 4 rfl (fun _ _ _ _ _ _ us hl => match us, hl with | [_, _, _, _], _ => rfl)⟩
  f__law_atom := by
    obtain ⟨f, fd, FD, hm⟩ := Y.x__law_atom
    exact ⟨f, fd, p__law_atom, fn_all FD sc__law_atom rfl (fun j hj => ok__law_atom T (ih j hj) FD), hm, FD.kp, bo_N FD 2 rfl (fun _ _ _ _ _ _ us hl => match us, hl with | [_, _], _ => rfl)⟩
  m_says := ⟨fun C ds μ r h => by
    have hC : C ∈ [("Throng" : Str)] := Prog.meth_in h
    simp only [List.mem_cons, List.not_mem_nil, or_false] at hC
    rcases hC with rfl
    · obtain ⟨c, f, fd, hc, hM, FD⟩ := Y.x_Throng_says
      exact ⟨c, f, fd, p_Throng_says, hc, (T.cls _ _ hc).1, hM, mt_all FD sc_Throng_says rfl (fun j hj => ok_Throng_says T (ih j hj) FD), bo_N FD 2 rfl (fun _ _ _ _ _ _ us hl => match us, hl with | [_, _], _ => rfl)⟩⟩
  m_meet := ⟨fun C ds μ r h => by
    have hC : C ∈ [("Throng" : Str)] := Prog.meth_in h
    simp only [List.mem_cons, List.not_mem_nil, or_false] at hC
    rcases hC with rfl
    · obtain ⟨c, f, fd, hc, hM, FD⟩ := Y.x_Throng_meet
      exact ⟨c, f, fd, p_Throng_meet, hc, (T.cls _ _ hc).1, hM, mt_all FD sc_Throng_meet rfl (fun j hj => ok_Throng_meet T (ih j hj) FD), bo_N FD 3 rfl (fun _ _ _ _ _ _ us hl => match us, hl with | [_, _, _], _ => rfl)⟩⟩
  m_ulenu := ⟨fun C ds μ r h => by
    have hC : C ∈ [("Throng" : Str)] := Prog.meth_in h
    simp only [List.mem_cons, List.not_mem_nil, or_false] at hC
    rcases hC with rfl
    · obtain ⟨c, f, fd, hc, hM, FD⟩ := Y.x_Throngu_lenu
      exact ⟨c, f, fd, p_Throngu_lenu, hc, (T.cls _ _ hc).1, hM, mt_all FD sc_Throngu_lenu rfl (fun j hj => ok_Throngu_lenu T (ih j hj) FD), bo_N FD 1 rfl (fun _ _ _ _ _ _ us hl => match us, hl with | [_], _ => rfl)⟩⟩
  m_said := ⟨fun C ds μ r h => by
    have hC : C ∈ [("Throng" : Str)] := Prog.meth_in h
    simp only [List.mem_cons, List.not_mem_nil, or_false] at hC
    rcases hC with rfl
    · obtain ⟨c, f, fd, hc, hM, FD⟩ := Y.x_Throng_said
      exact ⟨c, f, fd, p_Throng_said, hc, (T.cls _ _ hc).1, hM, mt_all FD sc_Throng_said rfl (fun j hj => ok_Throng_said T (ih j hj) FD), bo_N FD 1 rfl (fun _ _ _ _ _ _ us hl => match us, hl with | [_], _ => rfl)⟩⟩
  m_stretch := ⟨fun C ds μ r h => by
    have hC : C ∈ [("Throng" : Str)] := Prog.meth_in h
    simp only [List.mem_cons, List.not_mem_nil, or_false] at hC
    rcases hC with rfl
    · obtain ⟨c, f, fd, hc, hM, FD⟩ := Y.x_Throng_stretch
      exact ⟨c, f, fd, p_Throng_stretch, hc, (T.cls _ _ hc).1, hM, mt_all FD sc_Throng_stretch rfl (fun j hj => ok_Throng_stretch T (ih j hj) FD), bo_0 FD 1 (by simp) rfl (fun _ _ _ => .cons (.bl _) (.nil)) (fun _ _ _ _ _ _ us ks h1 h2 => match us, ks, h1, h2 with | [_], [_], _, _ => ⟨_, _, _, _, _, _, rfl, rfl, rfl⟩)⟩⟩
  m_stretch_1 := ⟨fun C ds μ r h => by
    have hC : C ∈ [("Throng" : Str)] := Prog.meth_in h
    simp only [List.mem_cons, List.not_mem_nil, or_false] at hC
    rcases hC with rfl
    · obtain ⟨c, f, fd, hc, hM, FD⟩ := Y.x_Throng_stretch
      exact ⟨c, f, fd, p_Throng_stretch, hc, (T.cls _ _ hc).1, hM, mt_all FD sc_Throng_stretch rfl (fun j hj => ok_Throng_stretch T (ih j hj) FD), bo_K FD 1 ["backward"] rfl (fun _ _ _ _ _ _ us ws h1 h2 => match us, ws, h1, h2 with | [_], [_], _, _ => rfl)⟩⟩
  f__law_pairs := by
    obtain ⟨f, fd, FD, hm⟩ := Y.x__law_pairs
    exact ⟨f, fd, p__law_pairs, fn_all FD sc__law_pairs rfl (fun j hj => ok__law_pairs T (ih j hj) FD), hm, FD.kp, bo_N FD 2 rfl (fun _ _ _ _ _ _ us hl => match us, hl with | [_, _], _ => rfl)⟩
  f__law_met_one_by_one := by
    obtain ⟨f, fd, FD, hm⟩ := Y.x__law_met_one_by_one
    exact ⟨f, fd, p__law_met_one_by_one, fn_all FD sc__law_met_one_by_one rfl (fun j hj => ok__law_met_one_by_one T (ih j hj) FD), hm, FD.kp, bo_N FD 2 rfl (fun _ _ _ _ _ _ us hl => match us, hl with | [_, _], _ => rfl)⟩
  m_copy := ⟨fun C ds μ r h => by
    have hC : C ∈ [("Throng" : Str)] := Prog.meth_in h
    simp only [List.mem_cons, List.not_mem_nil, or_false] at hC
    rcases hC with rfl
    · obtain ⟨c, f, fd, hc, hM, FD⟩ := Y.x_Throng_copy
      exact ⟨c, f, fd, p_Throng_copy, hc, (T.cls _ _ hc).1, hM, mt_all FD sc_Throng_copy rfl (fun j hj => ok_Throng_copy T (ih j hj) FD), bo_N FD 1 rfl (fun _ _ _ _ _ _ us hl => match us, hl with | [_], _ => rfl)⟩⟩
  m_come := ⟨fun C ds μ r h => by
    have hC : C ∈ [("Throng" : Str)] := Prog.meth_in h
    simp only [List.mem_cons, List.not_mem_nil, or_false] at hC
    rcases hC with rfl
    · obtain ⟨c, f, fd, hc, hM, FD⟩ := Y.x_Throng_come
      exact ⟨c, f, fd, p_Throng_come, hc, (T.cls _ _ hc).1, hM, mt_all FD sc_Throng_come rfl (fun j hj => ok_Throng_come T (ih j hj) FD), bo_K FD 2 ["many"] rfl (fun _ _ _ _ _ _ us ws h1 h2 => match us, ws, h1, h2 with | [_, _], [_], _, _ => rfl)⟩⟩
  m_come_1 := ⟨fun C ds μ r h => by
    have hC : C ∈ [("Throng" : Str)] := Prog.meth_in h
    simp only [List.mem_cons, List.not_mem_nil, or_false] at hC
    rcases hC with rfl
    · obtain ⟨c, f, fd, hc, hM, FD⟩ := Y.x_Throng_come
      exact ⟨c, f, fd, p_Throng_come, hc, (T.cls _ _ hc).1, hM, mt_all FD sc_Throng_come rfl (fun j hj => ok_Throng_come T (ih j hj) FD), bo_0 FD 2 (by simp) rfl (fun _ _ _ => .cons (.int _) (.nil)) (fun _ _ _ _ _ _ us ks h1 h2 => match us, ks, h1, h2 with | [_, _], [_], _, _ => ⟨_, _, _, _, _, _, rfl, rfl, rfl⟩)⟩⟩
  f__law_stretch_right := by
    obtain ⟨f, fd, FD, hm⟩ := Y.x__law_stretch_right
    exact ⟨f, fd, p__law_stretch_right, fn_all FD sc__law_stretch_right rfl (fun j hj => ok__law_stretch_right T (ih j hj) FD), hm, FD.kp, bo_N FD 3 rfl (fun _ _ _ _ _ _ us hl => match us, hl with | [_, _, _], _ => rfl)⟩
  f__law_tape := by
    obtain ⟨f, fd, FD, hm⟩ := Y.x__law_tape
    exact ⟨f, fd, p__law_tape, fn_all FD sc__law_tape rfl (fun j hj => ok__law_tape T (ih j hj) FD), hm, FD.kp, bo_N FD 2 rfl (fun _ _ _ _ _ _ us hl => match us, hl with | [_, _], _ => rfl)⟩
  f__law_great_right := by
    obtain ⟨f, fd, FD, hm⟩ := Y.x__law_great_right
    exact ⟨f, fd, p__law_great_right, fn_all FD sc__law_great_right rfl (fun j hj => ok__law_great_right T (ih j hj) FD), hm, FD.kp, bo_N FD 1 rfl (fun _ _ _ _ _ _ us hl => match us, hl with | [_], _ => rfl)⟩
  m_uequ := ⟨fun C ds μ r h => by
    have hC : C ∈ [("Throng" : Str)] := Prog.meth_in h
    simp only [List.mem_cons, List.not_mem_nil, or_false] at hC
    rcases hC with rfl
    · obtain ⟨c, f, fd, hc, hM, FD⟩ := Y.x_Throngu_equ
      exact ⟨c, f, fd, p_Throngu_equ, hc, (T.cls _ _ hc).1, hM, mt_all FD sc_Throngu_equ rfl (fun j hj => ok_Throngu_equ T (ih j hj) FD), bo_N FD 2 rfl (fun _ _ _ _ _ _ us hl => match us, hl with | [_, _], _ => rfl)⟩⟩
theorem lv (T : Kn K mg ca) (Y : Fx K mg ca) : ∀ k, Lv P w K mg base ca wf k
  | 0 => lv_step T Y 0 fun j h => absurd h (by omega)
  | k + 1 => lv_step T Y (k + 1) fun j h => by
    have e : j = k := by omega
    subst e; exact lv T Y j
end
end LW
end

section
set_option maxHeartbeats 4000000
namespace LW
open PySem PySem.Spec L2 DP
theorem law_true (ns : List Int) (h : ns.length ≤ 63) : ∃ μ, (G.pr WF KD).call "law" [.scr ns] [] = some (.bl true, μ) := P99.law_true' ns h
def spLaw (K : PySem.W.Frag) : Sp := spD K (caOf clsL K) ((G.pr WF KD).call "law") 1
theorem all_mk {l : PySem.W.OpenLaw} {w : World} {K : PySem.W.Frag} {h : Heap} {mg : Str → Option Value} {fa C_Least C_Rest C_Throng A_GATE_WORDS f_Leastu_initu f_Least_led f_Least_met f_Restu_initu f_Rest_led f_Rest_met f_made_of f_many_of f_atoms_of f_truth_of f_pairs_of_folk f_Throngu_initu f_Throngu_equ f_Throngu_lenu f_Throng_words f_Throng_word_of_folk f_Throng_come f_Throng_need_folk f_Throng_changed f_Throng_meet f_Throng_says f_Throng_said f_Throng_stretch f_Throng_copy f__law_cell_at f__law_tape f__law_digit f__law_weights f__law_atom f__law_wide_sentence f__law_pairs f__law_met_one_by_one f__law_stretch_right f__law_great_right f_law D_pairs_of_folk D_Throng_come D_Throng_stretch : Addr} (X : K.In h) (GN : h.Ns mainGlobals mg) (hfa : mg "law" = some (.ref fa))
    {od_Leastu_initu an_Leastu_initu od_Least_led an_Least_led od_Least_met an_Least_met od_Restu_initu an_Restu_initu od_Rest_led an_Rest_led od_Rest_met an_Rest_met od_made_of an_made_of od_many_of an_many_of od_atoms_of an_atoms_of od_truth_of an_truth_of od_pairs_of_folk an_pairs_of_folk od_Throngu_initu an_Throngu_initu od_Throngu_equ an_Throngu_equ od_Throngu_lenu an_Throngu_lenu od_Throng_words an_Throng_words od_Throng_word_of_folk an_Throng_word_of_folk od_Throng_come an_Throng_come od_Throng_need_folk an_Throng_need_folk od_Throng_changed an_Throng_changed od_Throng_meet an_Throng_meet od_Throng_says an_Throng_says od_Throng_said an_Throng_said od_Throng_stretch an_Throng_stretch od_Throng_copy an_Throng_copy od__law_cell_at an__law_cell_at od__law_tape an__law_tape od__law_digit an__law_digit od__law_weights an__law_weights od__law_atom an__law_atom od__law_wide_sentence an__law_wide_sentence od__law_pairs an__law_pairs od__law_met_one_by_one an__law_met_one_by_one od__law_stretch_right an__law_stretch_right od__law_great_right an__law_great_right od_law an_law gd_GATE_WORDS : Option Addr} {sl_Leastu_initu sl_Least_led sl_Least_met sl_Restu_initu sl_Rest_led sl_Rest_met sl_made_of sl_many_of sl_atoms_of sl_truth_of sl_pairs_of_folk sl_Throngu_initu sl_Throngu_equ sl_Throngu_lenu sl_Throng_words sl_Throng_word_of_folk sl_Throng_come sl_Throng_need_folk sl_Throng_changed sl_Throng_meet sl_Throng_says sl_Throng_said sl_Throng_stretch sl_Throng_copy sl__law_cell_at sl__law_tape sl__law_digit sl__law_weights sl__law_atom sl__law_wide_sentence sl__law_pairs sl__law_met_one_by_one sl__law_stretch_right sl__law_great_right sl_law gs_GATE_WORDS : Array (Option Value)} {oc_Leastu_initu dc_Leastu_initu pm_Leastu_initu cd_Leastu_initu ct_Leastu_initu kV_Leastu_initu oc_Least_led dc_Least_led pm_Least_led cd_Least_led ct_Least_led kV_Least_led oc_Least_met dc_Least_met pm_Least_met cd_Least_met ct_Least_met kV_Least_met oc_Restu_initu dc_Restu_initu pm_Restu_initu cd_Restu_initu ct_Restu_initu kV_Restu_initu oc_Rest_led dc_Rest_led pm_Rest_led cd_Rest_led ct_Rest_led kV_Rest_led oc_Rest_met dc_Rest_met pm_Rest_met cd_Rest_met ct_Rest_met kV_Rest_met oc_made_of dc_made_of pm_made_of cd_made_of ct_made_of kV_made_of oc_many_of dc_many_of pm_many_of cd_many_of ct_many_of kV_many_of oc_atoms_of dc_atoms_of pm_atoms_of cd_atoms_of ct_atoms_of kV_atoms_of oc_truth_of dc_truth_of pm_truth_of cd_truth_of ct_truth_of kV_truth_of oc_pairs_of_folk dc_pairs_of_folk pm_pairs_of_folk cd_pairs_of_folk ct_pairs_of_folk oc_Throngu_initu dc_Throngu_initu pm_Throngu_initu cd_Throngu_initu ct_Throngu_initu kV_Throngu_initu oc_Throngu_equ dc_Throngu_equ pm_Throngu_equ cd_Throngu_equ ct_Throngu_equ kV_Throngu_equ oc_Throngu_lenu dc_Throngu_lenu pm_Throngu_lenu cd_Throngu_lenu ct_Throngu_lenu kV_Throngu_lenu oc_Throng_words dc_Throng_words pm_Throng_words cd_Throng_words ct_Throng_words kV_Throng_words oc_Throng_word_of_folk dc_Throng_word_of_folk pm_Throng_word_of_folk cd_Throng_word_of_folk ct_Throng_word_of_folk kV_Throng_word_of_folk oc_Throng_come dc_Throng_come pm_Throng_come cd_Throng_come ct_Throng_come oc_Throng_need_folk dc_Throng_need_folk pm_Throng_need_folk cd_Throng_need_folk ct_Throng_need_folk kV_Throng_need_folk oc_Throng_changed dc_Throng_changed pm_Throng_changed cd_Throng_changed ct_Throng_changed kV_Throng_changed oc_Throng_meet dc_Throng_meet pm_Throng_meet cd_Throng_meet ct_Throng_meet kV_Throng_meet oc_Throng_says dc_Throng_says pm_Throng_says cd_Throng_says ct_Throng_says kV_Throng_says oc_Throng_said dc_Throng_said pm_Throng_said cd_Throng_said ct_Throng_said kV_Throng_said oc_Throng_stretch dc_Throng_stretch pm_Throng_stretch cd_Throng_stretch ct_Throng_stretch oc_Throng_copy dc_Throng_copy pm_Throng_copy cd_Throng_copy ct_Throng_copy kV_Throng_copy oc__law_cell_at dc__law_cell_at pm__law_cell_at cd__law_cell_at ct__law_cell_at kV__law_cell_at oc__law_tape dc__law_tape pm__law_tape cd__law_tape ct__law_tape kV__law_tape oc__law_digit dc__law_digit pm__law_digit cd__law_digit ct__law_digit kV__law_digit oc__law_weights dc__law_weights pm__law_weights cd__law_weights ct__law_weights kV__law_weights oc__law_atom dc__law_atom pm__law_atom cd__law_atom ct__law_atom kV__law_atom oc__law_wide_sentence dc__law_wide_sentence pm__law_wide_sentence cd__law_wide_sentence ct__law_wide_sentence kV__law_wide_sentence oc__law_pairs dc__law_pairs pm__law_pairs cd__law_pairs ct__law_pairs kV__law_pairs oc__law_met_one_by_one dc__law_met_one_by_one pm__law_met_one_by_one cd__law_met_one_by_one ct__law_met_one_by_one kV__law_met_one_by_one oc__law_stretch_right dc__law_stretch_right pm__law_stretch_right cd__law_stretch_right ct__law_stretch_right kV__law_stretch_right oc__law_great_right dc__law_great_right pm__law_great_right cd__law_great_right ct__law_great_right kV__law_great_right oc_law dc_law pm_law cd_law ct_law kV_law : Value} {tk_GATE_WORDS_0 tk_GATE_WORDS_1 tk_GATE_WORDS_2 tk_Throng_come_many : Tok} {gn_GATE_WORDS : Nat}
    (a_Least : PySem.W.nsIn K mainGlobals "Least" = some (some (.ref C_Least)))
    (pg_Least : PySem.W.plainGet K C_Least Str.empty = true)
    (hd_Least : PySem.W.hasDictIn K C_Least = true)
    (po_Least : PySem.W.plainOver K C_Least = true)
    (sa_Least : PySem.W.findIn K (.ref C_Least) "__setattr__" = some (some (.builtin "object.__setattr__")))
    (mk_Least : PySem.W.makesIn K C_Least = true)
    (kc_Least : PySem.W.keepIn K (.ref C_Least) = true)
    (ne_Least : PySem.W.findIn K (.ref C_Least) "__ne__" = some (some (.builtin "object.__ne__")))
    (mo_Least : PySem.W.mroIn K C_Least (.type "object") = some true)
    (n_Least_most : PySem.W.findIn K (.ref C_Least) "most" = some none)
    (n_Least_bound : PySem.W.findIn K (.ref C_Least) "bound" = some none)
    (hc_Least : PySem.W.findIn K (.ref C_Least) "__class__" = some (some (.builtin "object.__class__")))
    (a_Rest : PySem.W.nsIn K mainGlobals "Rest" = some (some (.ref C_Rest)))
    (pg_Rest : PySem.W.plainGet K C_Rest Str.empty = true)
    (hd_Rest : PySem.W.hasDictIn K C_Rest = true)
    (po_Rest : PySem.W.plainOver K C_Rest = true)
    (sa_Rest : PySem.W.findIn K (.ref C_Rest) "__setattr__" = some (some (.builtin "object.__setattr__")))
    (mk_Rest : PySem.W.makesIn K C_Rest = true)
    (kc_Rest : PySem.W.keepIn K (.ref C_Rest) = true)
    (ne_Rest : PySem.W.findIn K (.ref C_Rest) "__ne__" = some (some (.builtin "object.__ne__")))
    (mo_Rest : PySem.W.mroIn K C_Rest (.type "object") = some true)
    (n_Rest_wheel : PySem.W.findIn K (.ref C_Rest) "wheel" = some none)
    (n_Rest_rest : PySem.W.findIn K (.ref C_Rest) "rest" = some none)
    (hc_Rest : PySem.W.findIn K (.ref C_Rest) "__class__" = some (some (.builtin "object.__class__")))
    (a_Throng : PySem.W.nsIn K mainGlobals "Throng" = some (some (.ref C_Throng)))
    (pg_Throng : PySem.W.plainGet K C_Throng Str.empty = true)
    (hd_Throng : PySem.W.hasDictIn K C_Throng = true)
    (po_Throng : PySem.W.plainOver K C_Throng = true)
    (sa_Throng : PySem.W.findIn K (.ref C_Throng) "__setattr__" = some (some (.builtin "object.__setattr__")))
    (mk_Throng : PySem.W.makesIn K C_Throng = true)
    (kc_Throng : PySem.W.keepIn K (.ref C_Throng) = true)
    (ne_Throng : PySem.W.findIn K (.ref C_Throng) "__ne__" = some (some (.builtin "object.__ne__")))
    (mo_Throng : PySem.W.mroIn K C_Throng (.type "object") = some true)
    (n_Throng_sentence : PySem.W.findIn K (.ref C_Throng) "sentence" = some none)
    (n_Throng_parts : PySem.W.findIn K (.ref C_Throng) "parts" = some none)
    (n_Throng_folk : PySem.W.findIn K (.ref C_Throng) "folk" = some none)
    (n_Throng_by_gate : PySem.W.findIn K (.ref C_Throng) "by_gate" = some none)
    (n_Throng_marks : PySem.W.findIn K (.ref C_Throng) "marks" = some none)
    (hc_Throng : PySem.W.findIn K (.ref C_Throng) "__class__" = some (some (.builtin "object.__class__")))
    (mq_Least_Throng : PySem.W.mroIn K C_Least (.ref C_Throng) = some false)
    (mq_Rest_Throng : PySem.W.mroIn K C_Rest (.ref C_Throng) = some false)
    (mq_Throng_Throng : PySem.W.mroIn K C_Throng (.ref C_Throng) = some true)
    (ty_Throng : PySem.W.typeIn K (.ref C_Throng) = some (.type "type"))
    (hn_ : PySem.W.specialIn K (.builtin "object.__class__") "__get__" = some (some (.builtin "getset_descriptor.__get__")))
    (ht_ : PySem.W.takesIn K (.builtin "object.__class__") = some true)
    (z_abs : PySem.W.nsIn K mainGlobals "abs" = some none)
    (z_all : PySem.W.nsIn K mainGlobals "all" = some none)
    (z_any : PySem.W.nsIn K mainGlobals "any" = some none)
    (z_bool : PySem.W.nsIn K mainGlobals "bool" = some none)
    (z_dict : PySem.W.nsIn K mainGlobals "dict" = some none)
    (z_int : PySem.W.nsIn K mainGlobals "int" = some none)
    (z_isinstance : PySem.W.nsIn K mainGlobals "isinstance" = some none)
    (z_len : PySem.W.nsIn K mainGlobals "len" = some none)
    (z_list : PySem.W.nsIn K mainGlobals "list" = some none)
    (z_max : PySem.W.nsIn K mainGlobals "max" = some none)
    (z_min : PySem.W.nsIn K mainGlobals "min" = some none)
    (z_range : PySem.W.nsIn K mainGlobals "range" = some none)
    (z_sum : PySem.W.nsIn K mainGlobals "sum" = some none)
    (z_tuple : PySem.W.nsIn K mainGlobals "tuple" = some none)
    (z_zip : PySem.W.nsIn K mainGlobals "zip" = some none)
    (ga_GATE_WORDS : PySem.W.nsIn K mainGlobals "GATE_WORDS" = some (some (.ref A_GATE_WORDS)))
    (gl_GATE_WORDS : K.lookup A_GATE_WORDS = some ⟨.type "tuple", gd_GATE_WORDS, .seq #[.str "a" tk_GATE_WORDS_0, .str "b" tk_GATE_WORDS_1, .str "c" tk_GATE_WORDS_2] gn_GATE_WORDS, gs_GATE_WORDS⟩)
    (a_Leastu_initu : PySem.W.findIn K (.ref C_Least) "__init__" = some (some (.ref f_Leastu_initu)))
    (i_Leastu_initu : PySem.W.isFn K (.ref f_Leastu_initu) = true)
    (l_Leastu_initu : K.lookup f_Leastu_initu = some ⟨oc_Leastu_initu, od_Leastu_initu, .func (PySem.W.fnOf "__init__" "Least.__init__" (defArgs s_Leastu_initu) (defBody s_Leastu_initu) (defScope s_Leastu_initu) .none kV_Leastu_initu dc_Leastu_initu pm_Leastu_initu an_Leastu_initu cd_Leastu_initu ct_Leastu_initu), sl_Leastu_initu⟩)
    (c_Leastu_initu : PySem.W.codeIn K cd_Leastu_initu "Least.__init__" = true)
    (k_Leastu_initu : PySem.W.keepIn K (.ref f_Leastu_initu) = true)
    (a_Least_led : PySem.W.findIn K (.ref C_Least) "led" = some (some (.ref f_Least_led)))
    (i_Least_led : PySem.W.isFn K (.ref f_Least_led) = true)
    (l_Least_led : K.lookup f_Least_led = some ⟨oc_Least_led, od_Least_led, .func (PySem.W.fnOf "led" "Least.led" (defArgs s_Least_led) (defBody s_Least_led) (defScope s_Least_led) .none kV_Least_led dc_Least_led pm_Least_led an_Least_led cd_Least_led ct_Least_led), sl_Least_led⟩)
    (c_Least_led : PySem.W.codeIn K cd_Least_led "Least.led" = true)
    (k_Least_led : PySem.W.keepIn K (.ref f_Least_led) = true)
    (a_Least_met : PySem.W.findIn K (.ref C_Least) "met" = some (some (.ref f_Least_met)))
    (i_Least_met : PySem.W.isFn K (.ref f_Least_met) = true)
    (l_Least_met : K.lookup f_Least_met = some ⟨oc_Least_met, od_Least_met, .func (PySem.W.fnOf "met" "Least.met" (defArgs s_Least_met) (defBody s_Least_met) (defScope s_Least_met) .none kV_Least_met dc_Least_met pm_Least_met an_Least_met cd_Least_met ct_Least_met), sl_Least_met⟩)
    (c_Least_met : PySem.W.codeIn K cd_Least_met "Least.met" = true)
    (k_Least_met : PySem.W.keepIn K (.ref f_Least_met) = true)
    (a_Restu_initu : PySem.W.findIn K (.ref C_Rest) "__init__" = some (some (.ref f_Restu_initu)))
    (i_Restu_initu : PySem.W.isFn K (.ref f_Restu_initu) = true)
    (l_Restu_initu : K.lookup f_Restu_initu = some ⟨oc_Restu_initu, od_Restu_initu, .func (PySem.W.fnOf "__init__" "Rest.__init__" (defArgs s_Restu_initu) (defBody s_Restu_initu) (defScope s_Restu_initu) .none kV_Restu_initu dc_Restu_initu pm_Restu_initu an_Restu_initu cd_Restu_initu ct_Restu_initu), sl_Restu_initu⟩)
    (c_Restu_initu : PySem.W.codeIn K cd_Restu_initu "Rest.__init__" = true)
    (k_Restu_initu : PySem.W.keepIn K (.ref f_Restu_initu) = true)
    (a_Rest_led : PySem.W.findIn K (.ref C_Rest) "led" = some (some (.ref f_Rest_led)))
    (i_Rest_led : PySem.W.isFn K (.ref f_Rest_led) = true)
    (l_Rest_led : K.lookup f_Rest_led = some ⟨oc_Rest_led, od_Rest_led, .func (PySem.W.fnOf "led" "Rest.led" (defArgs s_Rest_led) (defBody s_Rest_led) (defScope s_Rest_led) .none kV_Rest_led dc_Rest_led pm_Rest_led an_Rest_led cd_Rest_led ct_Rest_led), sl_Rest_led⟩)
    (c_Rest_led : PySem.W.codeIn K cd_Rest_led "Rest.led" = true)
    (k_Rest_led : PySem.W.keepIn K (.ref f_Rest_led) = true)
    (a_Rest_met : PySem.W.findIn K (.ref C_Rest) "met" = some (some (.ref f_Rest_met)))
    (i_Rest_met : PySem.W.isFn K (.ref f_Rest_met) = true)
    (l_Rest_met : K.lookup f_Rest_met = some ⟨oc_Rest_met, od_Rest_met, .func (PySem.W.fnOf "met" "Rest.met" (defArgs s_Rest_met) (defBody s_Rest_met) (defScope s_Rest_met) .none kV_Rest_met dc_Rest_met pm_Rest_met an_Rest_met cd_Rest_met ct_Rest_met), sl_Rest_met⟩)
    (c_Rest_met : PySem.W.codeIn K cd_Rest_met "Rest.met" = true)
    (k_Rest_met : PySem.W.keepIn K (.ref f_Rest_met) = true)
    (a_made_of : PySem.W.nsIn K mainGlobals "made_of" = some (some (.ref f_made_of)))
    (l_made_of : K.lookup f_made_of = some ⟨oc_made_of, od_made_of, .func (PySem.W.fnOf "made_of" "made_of" (defArgs s_made_of) (defBody s_made_of) (defScope s_made_of) .none kV_made_of dc_made_of pm_made_of an_made_of cd_made_of ct_made_of), sl_made_of⟩)
    (c_made_of : PySem.W.codeIn K cd_made_of "made_of" = true)
    (k_made_of : PySem.W.keepIn K (.ref f_made_of) = true)
    (a_many_of : PySem.W.nsIn K mainGlobals "many_of" = some (some (.ref f_many_of)))
    (l_many_of : K.lookup f_many_of = some ⟨oc_many_of, od_many_of, .func (PySem.W.fnOf "many_of" "many_of" (defArgs s_many_of) (defBody s_many_of) (defScope s_many_of) .none kV_many_of dc_many_of pm_many_of an_many_of cd_many_of ct_many_of), sl_many_of⟩)
    (c_many_of : PySem.W.codeIn K cd_many_of "many_of" = true)
    (k_many_of : PySem.W.keepIn K (.ref f_many_of) = true)
    (a_atoms_of : PySem.W.nsIn K mainGlobals "atoms_of" = some (some (.ref f_atoms_of)))
    (l_atoms_of : K.lookup f_atoms_of = some ⟨oc_atoms_of, od_atoms_of, .func (PySem.W.fnOf "atoms_of" "atoms_of" (defArgs s_atoms_of) (defBody s_atoms_of) (defScope s_atoms_of) .none kV_atoms_of dc_atoms_of pm_atoms_of an_atoms_of cd_atoms_of ct_atoms_of), sl_atoms_of⟩)
    (c_atoms_of : PySem.W.codeIn K cd_atoms_of "atoms_of" = true)
    (k_atoms_of : PySem.W.keepIn K (.ref f_atoms_of) = true)
    (a_truth_of : PySem.W.nsIn K mainGlobals "truth_of" = some (some (.ref f_truth_of)))
    (l_truth_of : K.lookup f_truth_of = some ⟨oc_truth_of, od_truth_of, .func (PySem.W.fnOf "truth_of" "truth_of" (defArgs s_truth_of) (defBody s_truth_of) (defScope s_truth_of) .none kV_truth_of dc_truth_of pm_truth_of an_truth_of cd_truth_of ct_truth_of), sl_truth_of⟩)
    (c_truth_of : PySem.W.codeIn K cd_truth_of "truth_of" = true)
    (k_truth_of : PySem.W.keepIn K (.ref f_truth_of) = true)
    (a_pairs_of_folk : PySem.W.nsIn K mainGlobals "pairs_of_folk" = some (some (.ref f_pairs_of_folk)))
    (l_pairs_of_folk : K.lookup f_pairs_of_folk = some ⟨oc_pairs_of_folk, od_pairs_of_folk, .func (PySem.W.fnOf "pairs_of_folk" "pairs_of_folk" (defArgs s_pairs_of_folk) (defBody s_pairs_of_folk) (defScope s_pairs_of_folk) .none (.ref D_pairs_of_folk) dc_pairs_of_folk pm_pairs_of_folk an_pairs_of_folk cd_pairs_of_folk ct_pairs_of_folk), sl_pairs_of_folk⟩)
    (c_pairs_of_folk : PySem.W.codeIn K cd_pairs_of_folk "pairs_of_folk" = true)
    (k_pairs_of_folk : PySem.W.keepIn K (.ref f_pairs_of_folk) = true)
    (w_pairs_of_folk_backward : PySem.W.nsIn K D_pairs_of_folk "backward" = some (some (.bool false)))
    (a_Throngu_initu : PySem.W.findIn K (.ref C_Throng) "__init__" = some (some (.ref f_Throngu_initu)))
    (i_Throngu_initu : PySem.W.isFn K (.ref f_Throngu_initu) = true)
    (l_Throngu_initu : K.lookup f_Throngu_initu = some ⟨oc_Throngu_initu, od_Throngu_initu, .func (PySem.W.fnOf "__init__" "Throng.__init__" (defArgs s_Throngu_initu) (defBody s_Throngu_initu) (defScope s_Throngu_initu) .none kV_Throngu_initu dc_Throngu_initu pm_Throngu_initu an_Throngu_initu cd_Throngu_initu ct_Throngu_initu), sl_Throngu_initu⟩)
    (c_Throngu_initu : PySem.W.codeIn K cd_Throngu_initu "Throng.__init__" = true)
    (k_Throngu_initu : PySem.W.keepIn K (.ref f_Throngu_initu) = true)
    (a_Throngu_equ : PySem.W.findIn K (.ref C_Throng) "__eq__" = some (some (.ref f_Throngu_equ)))
    (i_Throngu_equ : PySem.W.isFn K (.ref f_Throngu_equ) = true)
    (l_Throngu_equ : K.lookup f_Throngu_equ = some ⟨oc_Throngu_equ, od_Throngu_equ, .func (PySem.W.fnOf "__eq__" "Throng.__eq__" (defArgs s_Throngu_equ) (defBody s_Throngu_equ) (defScope s_Throngu_equ) .none kV_Throngu_equ dc_Throngu_equ pm_Throngu_equ an_Throngu_equ cd_Throngu_equ ct_Throngu_equ), sl_Throngu_equ⟩)
    (c_Throngu_equ : PySem.W.codeIn K cd_Throngu_equ "Throng.__eq__" = true)
    (k_Throngu_equ : PySem.W.keepIn K (.ref f_Throngu_equ) = true)
    (a_Throngu_lenu : PySem.W.findIn K (.ref C_Throng) "__len__" = some (some (.ref f_Throngu_lenu)))
    (i_Throngu_lenu : PySem.W.isFn K (.ref f_Throngu_lenu) = true)
    (l_Throngu_lenu : K.lookup f_Throngu_lenu = some ⟨oc_Throngu_lenu, od_Throngu_lenu, .func (PySem.W.fnOf "__len__" "Throng.__len__" (defArgs s_Throngu_lenu) (defBody s_Throngu_lenu) (defScope s_Throngu_lenu) .none kV_Throngu_lenu dc_Throngu_lenu pm_Throngu_lenu an_Throngu_lenu cd_Throngu_lenu ct_Throngu_lenu), sl_Throngu_lenu⟩)
    (c_Throngu_lenu : PySem.W.codeIn K cd_Throngu_lenu "Throng.__len__" = true)
    (k_Throngu_lenu : PySem.W.keepIn K (.ref f_Throngu_lenu) = true)
    (a_Throng_words : PySem.W.findIn K (.ref C_Throng) "words" = some (some (.ref f_Throng_words)))
    (i_Throng_words : PySem.W.isFn K (.ref f_Throng_words) = true)
    (l_Throng_words : K.lookup f_Throng_words = some ⟨oc_Throng_words, od_Throng_words, .func (PySem.W.fnOf "words" "Throng.words" (defArgs s_Throng_words) (defBody s_Throng_words) (defScope s_Throng_words) .none kV_Throng_words dc_Throng_words pm_Throng_words an_Throng_words cd_Throng_words ct_Throng_words), sl_Throng_words⟩)
    (c_Throng_words : PySem.W.codeIn K cd_Throng_words "Throng.words" = true)
    (k_Throng_words : PySem.W.keepIn K (.ref f_Throng_words) = true)
    (a_Throng_word_of_folk : PySem.W.findIn K (.ref C_Throng) "word_of_folk" = some (some (.ref f_Throng_word_of_folk)))
    (i_Throng_word_of_folk : PySem.W.isFn K (.ref f_Throng_word_of_folk) = true)
    (l_Throng_word_of_folk : K.lookup f_Throng_word_of_folk = some ⟨oc_Throng_word_of_folk, od_Throng_word_of_folk, .func (PySem.W.fnOf "word_of_folk" "Throng.word_of_folk" (defArgs s_Throng_word_of_folk) (defBody s_Throng_word_of_folk) (defScope s_Throng_word_of_folk) .none kV_Throng_word_of_folk dc_Throng_word_of_folk pm_Throng_word_of_folk an_Throng_word_of_folk cd_Throng_word_of_folk ct_Throng_word_of_folk), sl_Throng_word_of_folk⟩)
    (c_Throng_word_of_folk : PySem.W.codeIn K cd_Throng_word_of_folk "Throng.word_of_folk" = true)
    (k_Throng_word_of_folk : PySem.W.keepIn K (.ref f_Throng_word_of_folk) = true)
    (a_Throng_come : PySem.W.findIn K (.ref C_Throng) "come" = some (some (.ref f_Throng_come)))
    (i_Throng_come : PySem.W.isFn K (.ref f_Throng_come) = true)
    (l_Throng_come : K.lookup f_Throng_come = some ⟨oc_Throng_come, od_Throng_come, .func (PySem.W.fnOf "come" "Throng.come" (defArgs s_Throng_come) (defBody s_Throng_come) (defScope s_Throng_come) .none (.ref D_Throng_come) dc_Throng_come pm_Throng_come an_Throng_come cd_Throng_come ct_Throng_come), sl_Throng_come⟩)
    (c_Throng_come : PySem.W.codeIn K cd_Throng_come "Throng.come" = true)
    (k_Throng_come : PySem.W.keepIn K (.ref f_Throng_come) = true)
    (w_Throng_come_many : PySem.W.nsIn K D_Throng_come "many" = some (some (.int 1 tk_Throng_come_many)))
    (a_Throng_need_folk : PySem.W.findIn K (.ref C_Throng) "need_folk" = some (some (.ref f_Throng_need_folk)))
    (i_Throng_need_folk : PySem.W.isFn K (.ref f_Throng_need_folk) = true)
    (l_Throng_need_folk : K.lookup f_Throng_need_folk = some ⟨oc_Throng_need_folk, od_Throng_need_folk, .func (PySem.W.fnOf "need_folk" "Throng.need_folk" (defArgs s_Throng_need_folk) (defBody s_Throng_need_folk) (defScope s_Throng_need_folk) .none kV_Throng_need_folk dc_Throng_need_folk pm_Throng_need_folk an_Throng_need_folk cd_Throng_need_folk ct_Throng_need_folk), sl_Throng_need_folk⟩)
    (c_Throng_need_folk : PySem.W.codeIn K cd_Throng_need_folk "Throng.need_folk" = true)
    (k_Throng_need_folk : PySem.W.keepIn K (.ref f_Throng_need_folk) = true)
    (a_Throng_changed : PySem.W.findIn K (.ref C_Throng) "changed" = some (some (.ref f_Throng_changed)))
    (i_Throng_changed : PySem.W.isFn K (.ref f_Throng_changed) = true)
    (l_Throng_changed : K.lookup f_Throng_changed = some ⟨oc_Throng_changed, od_Throng_changed, .func (PySem.W.fnOf "changed" "Throng.changed" (defArgs s_Throng_changed) (defBody s_Throng_changed) (defScope s_Throng_changed) .none kV_Throng_changed dc_Throng_changed pm_Throng_changed an_Throng_changed cd_Throng_changed ct_Throng_changed), sl_Throng_changed⟩)
    (c_Throng_changed : PySem.W.codeIn K cd_Throng_changed "Throng.changed" = true)
    (k_Throng_changed : PySem.W.keepIn K (.ref f_Throng_changed) = true)
    (a_Throng_meet : PySem.W.findIn K (.ref C_Throng) "meet" = some (some (.ref f_Throng_meet)))
    (i_Throng_meet : PySem.W.isFn K (.ref f_Throng_meet) = true)
    (l_Throng_meet : K.lookup f_Throng_meet = some ⟨oc_Throng_meet, od_Throng_meet, .func (PySem.W.fnOf "meet" "Throng.meet" (defArgs s_Throng_meet) (defBody s_Throng_meet) (defScope s_Throng_meet) .none kV_Throng_meet dc_Throng_meet pm_Throng_meet an_Throng_meet cd_Throng_meet ct_Throng_meet), sl_Throng_meet⟩)
    (c_Throng_meet : PySem.W.codeIn K cd_Throng_meet "Throng.meet" = true)
    (k_Throng_meet : PySem.W.keepIn K (.ref f_Throng_meet) = true)
    (a_Throng_says : PySem.W.findIn K (.ref C_Throng) "says" = some (some (.ref f_Throng_says)))
    (i_Throng_says : PySem.W.isFn K (.ref f_Throng_says) = true)
    (l_Throng_says : K.lookup f_Throng_says = some ⟨oc_Throng_says, od_Throng_says, .func (PySem.W.fnOf "says" "Throng.says" (defArgs s_Throng_says) (defBody s_Throng_says) (defScope s_Throng_says) .none kV_Throng_says dc_Throng_says pm_Throng_says an_Throng_says cd_Throng_says ct_Throng_says), sl_Throng_says⟩)
    (c_Throng_says : PySem.W.codeIn K cd_Throng_says "Throng.says" = true)
    (k_Throng_says : PySem.W.keepIn K (.ref f_Throng_says) = true)
    (a_Throng_said : PySem.W.findIn K (.ref C_Throng) "said" = some (some (.ref f_Throng_said)))
    (i_Throng_said : PySem.W.isFn K (.ref f_Throng_said) = true)
    (l_Throng_said : K.lookup f_Throng_said = some ⟨oc_Throng_said, od_Throng_said, .func (PySem.W.fnOf "said" "Throng.said" (defArgs s_Throng_said) (defBody s_Throng_said) (defScope s_Throng_said) .none kV_Throng_said dc_Throng_said pm_Throng_said an_Throng_said cd_Throng_said ct_Throng_said), sl_Throng_said⟩)
    (c_Throng_said : PySem.W.codeIn K cd_Throng_said "Throng.said" = true)
    (k_Throng_said : PySem.W.keepIn K (.ref f_Throng_said) = true)
    (a_Throng_stretch : PySem.W.findIn K (.ref C_Throng) "stretch" = some (some (.ref f_Throng_stretch)))
    (i_Throng_stretch : PySem.W.isFn K (.ref f_Throng_stretch) = true)
    (l_Throng_stretch : K.lookup f_Throng_stretch = some ⟨oc_Throng_stretch, od_Throng_stretch, .func (PySem.W.fnOf "stretch" "Throng.stretch" (defArgs s_Throng_stretch) (defBody s_Throng_stretch) (defScope s_Throng_stretch) .none (.ref D_Throng_stretch) dc_Throng_stretch pm_Throng_stretch an_Throng_stretch cd_Throng_stretch ct_Throng_stretch), sl_Throng_stretch⟩)
    (c_Throng_stretch : PySem.W.codeIn K cd_Throng_stretch "Throng.stretch" = true)
    (k_Throng_stretch : PySem.W.keepIn K (.ref f_Throng_stretch) = true)
    (w_Throng_stretch_backward : PySem.W.nsIn K D_Throng_stretch "backward" = some (some (.bool false)))
    (a_Throng_copy : PySem.W.findIn K (.ref C_Throng) "copy" = some (some (.ref f_Throng_copy)))
    (i_Throng_copy : PySem.W.isFn K (.ref f_Throng_copy) = true)
    (l_Throng_copy : K.lookup f_Throng_copy = some ⟨oc_Throng_copy, od_Throng_copy, .func (PySem.W.fnOf "copy" "Throng.copy" (defArgs s_Throng_copy) (defBody s_Throng_copy) (defScope s_Throng_copy) .none kV_Throng_copy dc_Throng_copy pm_Throng_copy an_Throng_copy cd_Throng_copy ct_Throng_copy), sl_Throng_copy⟩)
    (c_Throng_copy : PySem.W.codeIn K cd_Throng_copy "Throng.copy" = true)
    (k_Throng_copy : PySem.W.keepIn K (.ref f_Throng_copy) = true)
    (a__law_cell_at : PySem.W.nsIn K mainGlobals "_law_cell_at" = some (some (.ref f__law_cell_at)))
    (l__law_cell_at : K.lookup f__law_cell_at = some ⟨oc__law_cell_at, od__law_cell_at, .func (PySem.W.fnOf "_law_cell_at" "_law_cell_at" (defArgs s__law_cell_at) (defBody s__law_cell_at) (defScope s__law_cell_at) .none kV__law_cell_at dc__law_cell_at pm__law_cell_at an__law_cell_at cd__law_cell_at ct__law_cell_at), sl__law_cell_at⟩)
    (c__law_cell_at : PySem.W.codeIn K cd__law_cell_at "_law_cell_at" = true)
    (k__law_cell_at : PySem.W.keepIn K (.ref f__law_cell_at) = true)
    (a__law_tape : PySem.W.nsIn K mainGlobals "_law_tape" = some (some (.ref f__law_tape)))
    (l__law_tape : K.lookup f__law_tape = some ⟨oc__law_tape, od__law_tape, .func (PySem.W.fnOf "_law_tape" "_law_tape" (defArgs s__law_tape) (defBody s__law_tape) (defScope s__law_tape) .none kV__law_tape dc__law_tape pm__law_tape an__law_tape cd__law_tape ct__law_tape), sl__law_tape⟩)
    (c__law_tape : PySem.W.codeIn K cd__law_tape "_law_tape" = true)
    (k__law_tape : PySem.W.keepIn K (.ref f__law_tape) = true)
    (a__law_digit : PySem.W.nsIn K mainGlobals "_law_digit" = some (some (.ref f__law_digit)))
    (l__law_digit : K.lookup f__law_digit = some ⟨oc__law_digit, od__law_digit, .func (PySem.W.fnOf "_law_digit" "_law_digit" (defArgs s__law_digit) (defBody s__law_digit) (defScope s__law_digit) .none kV__law_digit dc__law_digit pm__law_digit an__law_digit cd__law_digit ct__law_digit), sl__law_digit⟩)
    (c__law_digit : PySem.W.codeIn K cd__law_digit "_law_digit" = true)
    (k__law_digit : PySem.W.keepIn K (.ref f__law_digit) = true)
    (a__law_weights : PySem.W.nsIn K mainGlobals "_law_weights" = some (some (.ref f__law_weights)))
    (l__law_weights : K.lookup f__law_weights = some ⟨oc__law_weights, od__law_weights, .func (PySem.W.fnOf "_law_weights" "_law_weights" (defArgs s__law_weights) (defBody s__law_weights) (defScope s__law_weights) .none kV__law_weights dc__law_weights pm__law_weights an__law_weights cd__law_weights ct__law_weights), sl__law_weights⟩)
    (c__law_weights : PySem.W.codeIn K cd__law_weights "_law_weights" = true)
    (k__law_weights : PySem.W.keepIn K (.ref f__law_weights) = true)
    (a__law_atom : PySem.W.nsIn K mainGlobals "_law_atom" = some (some (.ref f__law_atom)))
    (l__law_atom : K.lookup f__law_atom = some ⟨oc__law_atom, od__law_atom, .func (PySem.W.fnOf "_law_atom" "_law_atom" (defArgs s__law_atom) (defBody s__law_atom) (defScope s__law_atom) .none kV__law_atom dc__law_atom pm__law_atom an__law_atom cd__law_atom ct__law_atom), sl__law_atom⟩)
    (c__law_atom : PySem.W.codeIn K cd__law_atom "_law_atom" = true)
    (k__law_atom : PySem.W.keepIn K (.ref f__law_atom) = true)
    (a__law_wide_sentence : PySem.W.nsIn K mainGlobals "_law_wide_sentence" = some (some (.ref f__law_wide_sentence)))
    (l__law_wide_sentence : K.lookup f__law_wide_sentence = some ⟨oc__law_wide_sentence, od__law_wide_sentence, .func (PySem.W.fnOf "_law_wide_sentence" "_law_wide_sentence" (defArgs s__law_wide_sentence) (defBody s__law_wide_sentence) (defScope s__law_wide_sentence) .none kV__law_wide_sentence dc__law_wide_sentence pm__law_wide_sentence an__law_wide_sentence cd__law_wide_sentence ct__law_wide_sentence), sl__law_wide_sentence⟩)
    (c__law_wide_sentence : PySem.W.codeIn K cd__law_wide_sentence "_law_wide_sentence" = true)
    (k__law_wide_sentence : PySem.W.keepIn K (.ref f__law_wide_sentence) = true)
    (a__law_pairs : PySem.W.nsIn K mainGlobals "_law_pairs" = some (some (.ref f__law_pairs)))
    (l__law_pairs : K.lookup f__law_pairs = some ⟨oc__law_pairs, od__law_pairs, .func (PySem.W.fnOf "_law_pairs" "_law_pairs" (defArgs s__law_pairs) (defBody s__law_pairs) (defScope s__law_pairs) .none kV__law_pairs dc__law_pairs pm__law_pairs an__law_pairs cd__law_pairs ct__law_pairs), sl__law_pairs⟩)
    (c__law_pairs : PySem.W.codeIn K cd__law_pairs "_law_pairs" = true)
    (k__law_pairs : PySem.W.keepIn K (.ref f__law_pairs) = true)
    (a__law_met_one_by_one : PySem.W.nsIn K mainGlobals "_law_met_one_by_one" = some (some (.ref f__law_met_one_by_one)))
    (l__law_met_one_by_one : K.lookup f__law_met_one_by_one = some ⟨oc__law_met_one_by_one, od__law_met_one_by_one, .func (PySem.W.fnOf "_law_met_one_by_one" "_law_met_one_by_one" (defArgs s__law_met_one_by_one) (defBody s__law_met_one_by_one) (defScope s__law_met_one_by_one) .none kV__law_met_one_by_one dc__law_met_one_by_one pm__law_met_one_by_one an__law_met_one_by_one cd__law_met_one_by_one ct__law_met_one_by_one), sl__law_met_one_by_one⟩)
    (c__law_met_one_by_one : PySem.W.codeIn K cd__law_met_one_by_one "_law_met_one_by_one" = true)
    (k__law_met_one_by_one : PySem.W.keepIn K (.ref f__law_met_one_by_one) = true)
    (a__law_stretch_right : PySem.W.nsIn K mainGlobals "_law_stretch_right" = some (some (.ref f__law_stretch_right)))
    (l__law_stretch_right : K.lookup f__law_stretch_right = some ⟨oc__law_stretch_right, od__law_stretch_right, .func (PySem.W.fnOf "_law_stretch_right" "_law_stretch_right" (defArgs s__law_stretch_right) (defBody s__law_stretch_right) (defScope s__law_stretch_right) .none kV__law_stretch_right dc__law_stretch_right pm__law_stretch_right an__law_stretch_right cd__law_stretch_right ct__law_stretch_right), sl__law_stretch_right⟩)
    (c__law_stretch_right : PySem.W.codeIn K cd__law_stretch_right "_law_stretch_right" = true)
    (k__law_stretch_right : PySem.W.keepIn K (.ref f__law_stretch_right) = true)
    (a__law_great_right : PySem.W.nsIn K mainGlobals "_law_great_right" = some (some (.ref f__law_great_right)))
    (l__law_great_right : K.lookup f__law_great_right = some ⟨oc__law_great_right, od__law_great_right, .func (PySem.W.fnOf "_law_great_right" "_law_great_right" (defArgs s__law_great_right) (defBody s__law_great_right) (defScope s__law_great_right) .none kV__law_great_right dc__law_great_right pm__law_great_right an__law_great_right cd__law_great_right ct__law_great_right), sl__law_great_right⟩)
    (c__law_great_right : PySem.W.codeIn K cd__law_great_right "_law_great_right" = true)
    (k__law_great_right : PySem.W.keepIn K (.ref f__law_great_right) = true)
    (a_law : PySem.W.nsIn K mainGlobals "law" = some (some (.ref f_law)))
    (l_law : K.lookup f_law = some ⟨oc_law, od_law, .func (PySem.W.fnOf "law" "law" (defArgs s_law) (defBody s_law) (defScope s_law) .none kV_law dc_law pm_law an_law cd_law ct_law), sl_law⟩)
    (c_law : PySem.W.codeIn K cd_law "law" = true)
    (k_law : PySem.W.keepIn K (.ref f_law) = true) :
    ∃ fd : FuncData, (∀ (s : Shared) (v : Value), BindsTo s fd ⟨[v], []⟩ [("script", v)]) ∧ ∀ base : Heap, K.In base → base.Ns mainGlobals mg → FnOk l.prog w K mg base CX0 (2 * KD) fa fd ["script"] (spLaw K) := by
  have q_Least : caOf clsL K "Least" = some C_Least := caOf_at a_Least (by decide)
  have q_Rest : caOf clsL K "Rest" = some C_Rest := caOf_at a_Rest (by decide)
  have q_Throng : caOf clsL K "Throng" = some C_Throng := caOf_at a_Throng (by decide)
  have tC : ∀ C c, caOf clsL K C = some c → Cls K c ∧ ∀ f ∈ G.att C, NoAttr K c f := by
    intro C c h
    have hm : C ∈ [("Least" : Str), ("Rest" : Str), ("Throng" : Str)] := caOf_in h
    simp only [List.mem_cons, List.not_mem_nil, or_false] at hm
    rcases hm with rfl | rfl | rfl
    · rw [q_Least] at h
      cases h
      refine ⟨⟨pg_Least, hd_Least, po_Least, sa_Least⟩, fun f hf => ?_⟩
      have hf : f ∈ [("most" : Str), ("bound" : Str)] := hf
      simp only [List.mem_cons, List.not_mem_nil, or_false] at hf
      rcases hf with rfl | rfl
      · exact n_Least_most
      · exact n_Least_bound
    · rw [q_Rest] at h
      cases h
      refine ⟨⟨pg_Rest, hd_Rest, po_Rest, sa_Rest⟩, fun f hf => ?_⟩
      have hf : f ∈ [("wheel" : Str), ("rest" : Str)] := hf
      simp only [List.mem_cons, List.not_mem_nil, or_false] at hf
      rcases hf with rfl | rfl
      · exact n_Rest_wheel
      · exact n_Rest_rest
    · rw [q_Throng] at h
      cases h
      refine ⟨⟨pg_Throng, hd_Throng, po_Throng, sa_Throng⟩, fun f hf => ?_⟩
      have hf : f ∈ [("sentence" : Str), ("parts" : Str), ("folk" : Str), ("by_gate" : Str), ("marks" : Str)] := hf
      simp only [List.mem_cons, List.not_mem_nil, or_false] at hf
      rcases hf with rfl | rfl | rfl | rfl | rfl
      · exact n_Throng_sentence
      · exact n_Throng_parts
      · exact n_Throng_folk
      · exact n_Throng_by_gate
      · exact n_Throng_marks
  have tN : ∀ C c, caOf clsL K C = some c → PySem.W.findIn K (.ref c) "__ne__" = some (some (.builtin "object.__ne__")) ∧ PySem.W.mroIn K c (.type "object") = some true := by
    intro C c h
    have hm : C ∈ [("Least" : Str), ("Rest" : Str), ("Throng" : Str)] := caOf_in h
    simp only [List.mem_cons, List.not_mem_nil, or_false] at hm
    rcases hm with rfl | rfl | rfl
    · rw [q_Least] at h
      cases h
      exact ⟨ne_Least, mo_Least⟩
    · rw [q_Rest] at h
      cases h
      exact ⟨ne_Rest, mo_Rest⟩
    · rw [q_Throng] at h
      cases h
      exact ⟨ne_Throng, mo_Throng⟩
  have tI_Throng : ∀ C c, caOf clsL K C = some c → IsiC K c ∧ PySem.W.kitOne K (.ref c) (.ref C_Throng) = some (decide (C = "Throng")) := by
    intro C c h
    have hm : C ∈ [("Least" : Str), ("Rest" : Str), ("Throng" : Str)] := caOf_in h
    simp only [List.mem_cons, List.not_mem_nil, or_false] at hm
    rcases hm with rfl | rfl | rfl
    · rw [q_Least] at h
      cases h
      exact ⟨⟨⟨pg_Least, hd_Least, po_Least, sa_Least⟩, hc_Least, hn_, ht_, mo_Least⟩, (kit_of mq_Least_Throng mq_Throng_Throng ty_Throng).trans (by decide)⟩
    · rw [q_Rest] at h
      cases h
      exact ⟨⟨⟨pg_Rest, hd_Rest, po_Rest, sa_Rest⟩, hc_Rest, hn_, ht_, mo_Rest⟩, (kit_of mq_Rest_Throng mq_Throng_Throng ty_Throng).trans (by decide)⟩
    · rw [q_Throng] at h
      cases h
      exact ⟨⟨⟨pg_Throng, hd_Throng, po_Throng, sa_Throng⟩, hc_Throng, hn_, ht_, mo_Throng⟩, (kit_of mq_Throng_Throng mq_Throng_Throng ty_Throng).trans (by decide)⟩
  have T : Kn K mg (caOf clsL K) := { cls := tC, ne := fun C c f h _ => tN C c h, b_abs := PySem.W.mg_none_of X GN z_abs, b_all := PySem.W.mg_none_of X GN z_all, b_any := PySem.W.mg_none_of X GN z_any, b_bool := PySem.W.mg_none_of X GN z_bool, b_dict := PySem.W.mg_none_of X GN z_dict, b_int := PySem.W.mg_none_of X GN z_int, b_isinstance := PySem.W.mg_none_of X GN z_isinstance, b_len := PySem.W.mg_none_of X GN z_len, b_list := PySem.W.mg_none_of X GN z_list, b_max := PySem.W.mg_none_of X GN z_max, b_min := PySem.W.mg_none_of X GN z_min, b_range := PySem.W.mg_none_of X GN z_range, b_sum := PySem.W.mg_none_of X GN z_sum, b_tuple := PySem.W.mg_none_of X GN z_tuple, b_zip := PySem.W.mg_none_of X GN z_zip, g_GATE_WORDS := ⟨.ref A_GATE_WORDS, .ref A_GATE_WORDS, PySem.W.mg_of X GN ga_GATE_WORDS, rfl, fun α F => have r : Reps K (caOf clsL K) α F [V.str "a", V.str "b", V.str "c"] [D.str "a", D.str "b", D.str "c"] := .cons (.str _) (.cons (.str _) (.cons (.str _) (.nil))); have va : Vals [V.str "a", V.str "b", V.str "c"] [Value.str "a" tk_GATE_WORDS_0, Value.str "b" tk_GATE_WORDS_1, Value.str "c" tk_GATE_WORDS_2] := .cons ⟨_, rfl⟩ (.cons ⟨_, rfl⟩ (.cons ⟨_, rfl⟩ (.nil))); .tup (.inr ⟨_, _, _, gl_GATE_WORDS, rfl, rfl, (by show 3 ≤ sizeLine; decide), va⟩) r.1 r.2⟩, isi_Throng := ⟨C_Throng, PySem.W.mg_of X GN a_Throng, tI_Throng⟩ }
  have FD_Leastu_initu : FunD K "__init__" "Least.__init__" (defArgs s_Leastu_initu) (defBody s_Leastu_initu) (defScope s_Leastu_initu) [] [] f_Leastu_initu _ := ⟨⟨_, _, _, _, _, _, _, _, _, _, rfl, l_Leastu_initu, c_Leastu_initu, .inl ⟨rfl, rfl⟩, .inl rfl⟩, k_Leastu_initu⟩
  have FD_Least_led : FunD K "led" "Least.led" (defArgs s_Least_led) (defBody s_Least_led) (defScope s_Least_led) [] [] f_Least_led _ := ⟨⟨_, _, _, _, _, _, _, _, _, _, rfl, l_Least_led, c_Least_led, .inl ⟨rfl, rfl⟩, .inl rfl⟩, k_Least_led⟩
  have FD_Least_met : FunD K "met" "Least.met" (defArgs s_Least_met) (defBody s_Least_met) (defScope s_Least_met) [] [] f_Least_met _ := ⟨⟨_, _, _, _, _, _, _, _, _, _, rfl, l_Least_met, c_Least_met, .inl ⟨rfl, rfl⟩, .inl rfl⟩, k_Least_met⟩
  have FD_Restu_initu : FunD K "__init__" "Rest.__init__" (defArgs s_Restu_initu) (defBody s_Restu_initu) (defScope s_Restu_initu) [] [] f_Restu_initu _ := ⟨⟨_, _, _, _, _, _, _, _, _, _, rfl, l_Restu_initu, c_Restu_initu, .inl ⟨rfl, rfl⟩, .inl rfl⟩, k_Restu_initu⟩
  have FD_Rest_led : FunD K "led" "Rest.led" (defArgs s_Rest_led) (defBody s_Rest_led) (defScope s_Rest_led) [] [] f_Rest_led _ := ⟨⟨_, _, _, _, _, _, _, _, _, _, rfl, l_Rest_led, c_Rest_led, .inl ⟨rfl, rfl⟩, .inl rfl⟩, k_Rest_led⟩
  have FD_Rest_met : FunD K "met" "Rest.met" (defArgs s_Rest_met) (defBody s_Rest_met) (defScope s_Rest_met) [] [] f_Rest_met _ := ⟨⟨_, _, _, _, _, _, _, _, _, _, rfl, l_Rest_met, c_Rest_met, .inl ⟨rfl, rfl⟩, .inl rfl⟩, k_Rest_met⟩
  have FD_made_of : FunD K "made_of" "made_of" (defArgs s_made_of) (defBody s_made_of) (defScope s_made_of) [] [] f_made_of _ := ⟨⟨_, _, _, _, _, _, _, _, _, _, rfl, l_made_of, c_made_of, .inl ⟨rfl, rfl⟩, .inl rfl⟩, k_made_of⟩
  have FD_many_of : FunD K "many_of" "many_of" (defArgs s_many_of) (defBody s_many_of) (defScope s_many_of) [] [] f_many_of _ := ⟨⟨_, _, _, _, _, _, _, _, _, _, rfl, l_many_of, c_many_of, .inl ⟨rfl, rfl⟩, .inl rfl⟩, k_many_of⟩
  have FD_atoms_of : FunD K "atoms_of" "atoms_of" (defArgs s_atoms_of) (defBody s_atoms_of) (defScope s_atoms_of) [] [] f_atoms_of _ := ⟨⟨_, _, _, _, _, _, _, _, _, _, rfl, l_atoms_of, c_atoms_of, .inl ⟨rfl, rfl⟩, .inl rfl⟩, k_atoms_of⟩
  have FD_truth_of : FunD K "truth_of" "truth_of" (defArgs s_truth_of) (defBody s_truth_of) (defScope s_truth_of) [] [] f_truth_of _ := ⟨⟨_, _, _, _, _, _, _, _, _, _, rfl, l_truth_of, c_truth_of, .inl ⟨rfl, rfl⟩, .inl rfl⟩, k_truth_of⟩
  have FD_pairs_of_folk : FunD K "pairs_of_folk" "pairs_of_folk" (defArgs s_pairs_of_folk) (defBody s_pairs_of_folk) (defScope s_pairs_of_folk) [] [(("backward" : Str), (.bl false : V))] f_pairs_of_folk _ := ⟨⟨_, _, _, _, _, _, _, _, _, _, rfl, l_pairs_of_folk, c_pairs_of_folk, .inl ⟨rfl, rfl⟩, .inr ⟨D_pairs_of_folk, rfl, by
    intro q hq
    simp only [List.mem_cons, List.not_mem_nil, or_false] at hq
    rcases hq with rfl
    · exact ⟨_, w_pairs_of_folk_backward, rfl⟩⟩⟩, k_pairs_of_folk⟩
  have FD_Throngu_initu : FunD K "__init__" "Throng.__init__" (defArgs s_Throngu_initu) (defBody s_Throngu_initu) (defScope s_Throngu_initu) [] [] f_Throngu_initu _ := ⟨⟨_, _, _, _, _, _, _, _, _, _, rfl, l_Throngu_initu, c_Throngu_initu, .inl ⟨rfl, rfl⟩, .inl rfl⟩, k_Throngu_initu⟩
  have FD_Throngu_equ : FunD K "__eq__" "Throng.__eq__" (defArgs s_Throngu_equ) (defBody s_Throngu_equ) (defScope s_Throngu_equ) [] [] f_Throngu_equ _ := ⟨⟨_, _, _, _, _, _, _, _, _, _, rfl, l_Throngu_equ, c_Throngu_equ, .inl ⟨rfl, rfl⟩, .inl rfl⟩, k_Throngu_equ⟩
  have FD_Throngu_lenu : FunD K "__len__" "Throng.__len__" (defArgs s_Throngu_lenu) (defBody s_Throngu_lenu) (defScope s_Throngu_lenu) [] [] f_Throngu_lenu _ := ⟨⟨_, _, _, _, _, _, _, _, _, _, rfl, l_Throngu_lenu, c_Throngu_lenu, .inl ⟨rfl, rfl⟩, .inl rfl⟩, k_Throngu_lenu⟩
  have FD_Throng_words : FunD K "words" "Throng.words" (defArgs s_Throng_words) (defBody s_Throng_words) (defScope s_Throng_words) [] [] f_Throng_words _ := ⟨⟨_, _, _, _, _, _, _, _, _, _, rfl, l_Throng_words, c_Throng_words, .inl ⟨rfl, rfl⟩, .inl rfl⟩, k_Throng_words⟩
  have FD_Throng_word_of_folk : FunD K "word_of_folk" "Throng.word_of_folk" (defArgs s_Throng_word_of_folk) (defBody s_Throng_word_of_folk) (defScope s_Throng_word_of_folk) [] [] f_Throng_word_of_folk _ := ⟨⟨_, _, _, _, _, _, _, _, _, _, rfl, l_Throng_word_of_folk, c_Throng_word_of_folk, .inl ⟨rfl, rfl⟩, .inl rfl⟩, k_Throng_word_of_folk⟩
  have FD_Throng_come : FunD K "come" "Throng.come" (defArgs s_Throng_come) (defBody s_Throng_come) (defScope s_Throng_come) [] [(("many" : Str), (.int 1 : V))] f_Throng_come _ := ⟨⟨_, _, _, _, _, _, _, _, _, _, rfl, l_Throng_come, c_Throng_come, .inl ⟨rfl, rfl⟩, .inr ⟨D_Throng_come, rfl, by
    intro q hq
    simp only [List.mem_cons, List.not_mem_nil, or_false] at hq
    rcases hq with rfl
    · exact ⟨_, w_Throng_come_many, ⟨_, rfl⟩⟩⟩⟩, k_Throng_come⟩
  have FD_Throng_need_folk : FunD K "need_folk" "Throng.need_folk" (defArgs s_Throng_need_folk) (defBody s_Throng_need_folk) (defScope s_Throng_need_folk) [] [] f_Throng_need_folk _ := ⟨⟨_, _, _, _, _, _, _, _, _, _, rfl, l_Throng_need_folk, c_Throng_need_folk, .inl ⟨rfl, rfl⟩, .inl rfl⟩, k_Throng_need_folk⟩
  have FD_Throng_changed : FunD K "changed" "Throng.changed" (defArgs s_Throng_changed) (defBody s_Throng_changed) (defScope s_Throng_changed) [] [] f_Throng_changed _ := ⟨⟨_, _, _, _, _, _, _, _, _, _, rfl, l_Throng_changed, c_Throng_changed, .inl ⟨rfl, rfl⟩, .inl rfl⟩, k_Throng_changed⟩
  have FD_Throng_meet : FunD K "meet" "Throng.meet" (defArgs s_Throng_meet) (defBody s_Throng_meet) (defScope s_Throng_meet) [] [] f_Throng_meet _ := ⟨⟨_, _, _, _, _, _, _, _, _, _, rfl, l_Throng_meet, c_Throng_meet, .inl ⟨rfl, rfl⟩, .inl rfl⟩, k_Throng_meet⟩
  have FD_Throng_says : FunD K "says" "Throng.says" (defArgs s_Throng_says) (defBody s_Throng_says) (defScope s_Throng_says) [] [] f_Throng_says _ := ⟨⟨_, _, _, _, _, _, _, _, _, _, rfl, l_Throng_says, c_Throng_says, .inl ⟨rfl, rfl⟩, .inl rfl⟩, k_Throng_says⟩
  have FD_Throng_said : FunD K "said" "Throng.said" (defArgs s_Throng_said) (defBody s_Throng_said) (defScope s_Throng_said) [] [] f_Throng_said _ := ⟨⟨_, _, _, _, _, _, _, _, _, _, rfl, l_Throng_said, c_Throng_said, .inl ⟨rfl, rfl⟩, .inl rfl⟩, k_Throng_said⟩
  have FD_Throng_stretch : FunD K "stretch" "Throng.stretch" (defArgs s_Throng_stretch) (defBody s_Throng_stretch) (defScope s_Throng_stretch) [] [(("backward" : Str), (.bl false : V))] f_Throng_stretch _ := ⟨⟨_, _, _, _, _, _, _, _, _, _, rfl, l_Throng_stretch, c_Throng_stretch, .inl ⟨rfl, rfl⟩, .inr ⟨D_Throng_stretch, rfl, by
    intro q hq
    simp only [List.mem_cons, List.not_mem_nil, or_false] at hq
    rcases hq with rfl
    · exact ⟨_, w_Throng_stretch_backward, rfl⟩⟩⟩, k_Throng_stretch⟩
  have FD_Throng_copy : FunD K "copy" "Throng.copy" (defArgs s_Throng_copy) (defBody s_Throng_copy) (defScope s_Throng_copy) [] [] f_Throng_copy _ := ⟨⟨_, _, _, _, _, _, _, _, _, _, rfl, l_Throng_copy, c_Throng_copy, .inl ⟨rfl, rfl⟩, .inl rfl⟩, k_Throng_copy⟩
  have FD__law_cell_at : FunD K "_law_cell_at" "_law_cell_at" (defArgs s__law_cell_at) (defBody s__law_cell_at) (defScope s__law_cell_at) [] [] f__law_cell_at _ := ⟨⟨_, _, _, _, _, _, _, _, _, _, rfl, l__law_cell_at, c__law_cell_at, .inl ⟨rfl, rfl⟩, .inl rfl⟩, k__law_cell_at⟩
  have FD__law_tape : FunD K "_law_tape" "_law_tape" (defArgs s__law_tape) (defBody s__law_tape) (defScope s__law_tape) [] [] f__law_tape _ := ⟨⟨_, _, _, _, _, _, _, _, _, _, rfl, l__law_tape, c__law_tape, .inl ⟨rfl, rfl⟩, .inl rfl⟩, k__law_tape⟩
  have FD__law_digit : FunD K "_law_digit" "_law_digit" (defArgs s__law_digit) (defBody s__law_digit) (defScope s__law_digit) [] [] f__law_digit _ := ⟨⟨_, _, _, _, _, _, _, _, _, _, rfl, l__law_digit, c__law_digit, .inl ⟨rfl, rfl⟩, .inl rfl⟩, k__law_digit⟩
  have FD__law_weights : FunD K "_law_weights" "_law_weights" (defArgs s__law_weights) (defBody s__law_weights) (defScope s__law_weights) [] [] f__law_weights _ := ⟨⟨_, _, _, _, _, _, _, _, _, _, rfl, l__law_weights, c__law_weights, .inl ⟨rfl, rfl⟩, .inl rfl⟩, k__law_weights⟩
  have FD__law_atom : FunD K "_law_atom" "_law_atom" (defArgs s__law_atom) (defBody s__law_atom) (defScope s__law_atom) [] [] f__law_atom _ := ⟨⟨_, _, _, _, _, _, _, _, _, _, rfl, l__law_atom, c__law_atom, .inl ⟨rfl, rfl⟩, .inl rfl⟩, k__law_atom⟩
  have FD__law_wide_sentence : FunD K "_law_wide_sentence" "_law_wide_sentence" (defArgs s__law_wide_sentence) (defBody s__law_wide_sentence) (defScope s__law_wide_sentence) [] [] f__law_wide_sentence _ := ⟨⟨_, _, _, _, _, _, _, _, _, _, rfl, l__law_wide_sentence, c__law_wide_sentence, .inl ⟨rfl, rfl⟩, .inl rfl⟩, k__law_wide_sentence⟩
  have FD__law_pairs : FunD K "_law_pairs" "_law_pairs" (defArgs s__law_pairs) (defBody s__law_pairs) (defScope s__law_pairs) [] [] f__law_pairs _ := ⟨⟨_, _, _, _, _, _, _, _, _, _, rfl, l__law_pairs, c__law_pairs, .inl ⟨rfl, rfl⟩, .inl rfl⟩, k__law_pairs⟩
  have FD__law_met_one_by_one : FunD K "_law_met_one_by_one" "_law_met_one_by_one" (defArgs s__law_met_one_by_one) (defBody s__law_met_one_by_one) (defScope s__law_met_one_by_one) [] [] f__law_met_one_by_one _ := ⟨⟨_, _, _, _, _, _, _, _, _, _, rfl, l__law_met_one_by_one, c__law_met_one_by_one, .inl ⟨rfl, rfl⟩, .inl rfl⟩, k__law_met_one_by_one⟩
  have FD__law_stretch_right : FunD K "_law_stretch_right" "_law_stretch_right" (defArgs s__law_stretch_right) (defBody s__law_stretch_right) (defScope s__law_stretch_right) [] [] f__law_stretch_right _ := ⟨⟨_, _, _, _, _, _, _, _, _, _, rfl, l__law_stretch_right, c__law_stretch_right, .inl ⟨rfl, rfl⟩, .inl rfl⟩, k__law_stretch_right⟩
  have FD__law_great_right : FunD K "_law_great_right" "_law_great_right" (defArgs s__law_great_right) (defBody s__law_great_right) (defScope s__law_great_right) [] [] f__law_great_right _ := ⟨⟨_, _, _, _, _, _, _, _, _, _, rfl, l__law_great_right, c__law_great_right, .inl ⟨rfl, rfl⟩, .inl rfl⟩, k__law_great_right⟩
  have FD_law : FunD K "law" "law" (defArgs s_law) (defBody s_law) (defScope s_law) [] [] f_law _ := ⟨⟨_, _, _, _, _, _, _, _, _, _, rfl, l_law, c_law, .inl ⟨rfl, rfl⟩, .inl rfl⟩, k_law⟩
  have Y : Fx K mg (caOf clsL K) := { x_Leastu_initu := ⟨_, _, _, q_Least, ⟨mk_Least, a_Leastu_initu, i_Leastu_initu, kc_Least⟩, PySem.W.mg_of X GN a_Least, FD_Leastu_initu⟩, x_Least_led := ⟨_, _, _, q_Least, ⟨a_Least_led, i_Least_led, k_Least_led⟩, FD_Least_led⟩, x_Least_met := ⟨_, _, _, q_Least, ⟨a_Least_met, i_Least_met, k_Least_met⟩, FD_Least_met⟩, x_Restu_initu := ⟨_, _, _, q_Rest, ⟨mk_Rest, a_Restu_initu, i_Restu_initu, kc_Rest⟩, PySem.W.mg_of X GN a_Rest, FD_Restu_initu⟩, x_Rest_led := ⟨_, _, _, q_Rest, ⟨a_Rest_led, i_Rest_led, k_Rest_led⟩, FD_Rest_led⟩, x_Rest_met := ⟨_, _, _, q_Rest, ⟨a_Rest_met, i_Rest_met, k_Rest_met⟩, FD_Rest_met⟩, x_made_of := ⟨_, _, FD_made_of, PySem.W.mg_of X GN a_made_of⟩, x_many_of := ⟨_, _, FD_many_of, PySem.W.mg_of X GN a_many_of⟩, x_atoms_of := ⟨_, _, FD_atoms_of, PySem.W.mg_of X GN a_atoms_of⟩, x_truth_of := ⟨_, _, FD_truth_of, PySem.W.mg_of X GN a_truth_of⟩, x_pairs_of_folk := ⟨_, _, FD_pairs_of_folk, PySem.W.mg_of X GN a_pairs_of_folk⟩, x_Throngu_initu := ⟨_, _, _, q_Throng, ⟨mk_Throng, a_Throngu_initu, i_Throngu_initu, kc_Throng⟩, PySem.W.mg_of X GN a_Throng, FD_Throngu_initu⟩, x_Throngu_equ := ⟨_, _, _, q_Throng, ⟨a_Throngu_equ, i_Throngu_equ, k_Throngu_equ⟩, FD_Throngu_equ⟩, x_Throngu_lenu := ⟨_, _, _, q_Throng, ⟨a_Throngu_lenu, i_Throngu_lenu, k_Throngu_lenu⟩, FD_Throngu_lenu⟩, x_Throng_words := ⟨_, _, _, q_Throng, ⟨a_Throng_words, i_Throng_words, k_Throng_words⟩, FD_Throng_words⟩, x_Throng_word_of_folk := ⟨_, _, _, q_Throng, ⟨a_Throng_word_of_folk, i_Throng_word_of_folk, k_Throng_word_of_folk⟩, FD_Throng_word_of_folk⟩, x_Throng_come := ⟨_, _, _, q_Throng, ⟨a_Throng_come, i_Throng_come, k_Throng_come⟩, FD_Throng_come⟩, x_Throng_need_folk := ⟨_, _, _, q_Throng, ⟨a_Throng_need_folk, i_Throng_need_folk, k_Throng_need_folk⟩, FD_Throng_need_folk⟩, x_Throng_changed := ⟨_, _, _, q_Throng, ⟨a_Throng_changed, i_Throng_changed, k_Throng_changed⟩, FD_Throng_changed⟩, x_Throng_meet := ⟨_, _, _, q_Throng, ⟨a_Throng_meet, i_Throng_meet, k_Throng_meet⟩, FD_Throng_meet⟩, x_Throng_says := ⟨_, _, _, q_Throng, ⟨a_Throng_says, i_Throng_says, k_Throng_says⟩, FD_Throng_says⟩, x_Throng_said := ⟨_, _, _, q_Throng, ⟨a_Throng_said, i_Throng_said, k_Throng_said⟩, FD_Throng_said⟩, x_Throng_stretch := ⟨_, _, _, q_Throng, ⟨a_Throng_stretch, i_Throng_stretch, k_Throng_stretch⟩, FD_Throng_stretch⟩, x_Throng_copy := ⟨_, _, _, q_Throng, ⟨a_Throng_copy, i_Throng_copy, k_Throng_copy⟩, FD_Throng_copy⟩, x__law_cell_at := ⟨_, _, FD__law_cell_at, PySem.W.mg_of X GN a__law_cell_at⟩, x__law_tape := ⟨_, _, FD__law_tape, PySem.W.mg_of X GN a__law_tape⟩, x__law_digit := ⟨_, _, FD__law_digit, PySem.W.mg_of X GN a__law_digit⟩, x__law_weights := ⟨_, _, FD__law_weights, PySem.W.mg_of X GN a__law_weights⟩, x__law_atom := ⟨_, _, FD__law_atom, PySem.W.mg_of X GN a__law_atom⟩, x__law_wide_sentence := ⟨_, _, FD__law_wide_sentence, PySem.W.mg_of X GN a__law_wide_sentence⟩, x__law_pairs := ⟨_, _, FD__law_pairs, PySem.W.mg_of X GN a__law_pairs⟩, x__law_met_one_by_one := ⟨_, _, FD__law_met_one_by_one, PySem.W.mg_of X GN a__law_met_one_by_one⟩, x__law_stretch_right := ⟨_, _, FD__law_stretch_right, PySem.W.mg_of X GN a__law_stretch_right⟩, x__law_great_right := ⟨_, _, FD__law_great_right, PySem.W.mg_of X GN a__law_great_right⟩, x_law := ⟨_, _, FD_law, PySem.W.mg_of X GN a_law⟩ }
  have e := hfa.symm.trans (PySem.W.mg_of X GN a_law)
  cases e
  exact ⟨_, fun s v => .of_eq rfl, fun base _ _ => fn_all FD_law sc_law rfl fun j _ => ok_law T (lv T Y j) FD_law⟩
theorem walk {l : PySem.W.OpenLaw} {q : Program} {loose : List Str} {XP : (Str → Option Value) → Heap → Prop} {YP : World → Heap → Prop} {d : DefRec} {K : Params → PySem.W.Frag} (hn : l.most = some 63) (hdf : d.params.defaults = [])
    (hY : ∀ (w : World) (h : Heap), YP w h → (K w.params).In h)
    (F : ∀ (w : World) (mg : Str → Option Value) (fa : Addr) (h : Heap), (K w.params).In h → h.Ns mainGlobals mg → mg d.name = some (.ref fa) →
      ∃ fd : FuncData, (∀ (s : Shared) (u : Value), BindsTo s fd ⟨[u], []⟩ [("script", u)]) ∧ ∀ base : Heap, (K w.params).In base → base.Ns mainGlobals mg → FnOk l.prog w (K w.params) mg base CX0 (2 * KD) fa fd ["script"] (spLaw (K w.params))) :
    PySem.W.WalkO q loose XP YP l.row.toRowW d [] (fun f vs => PySem.call f vs) :=
  L2.walk_of (n := 63) (k := 2 * KD) (x := "script") (CX := fun _ => CX0) (sp := fun w => spLaw (K w.params)) hn (by decide) hdf ⟨rfl, by decide, by decide⟩ hY F (fun _ _ a ns hl _ hS => by
    obtain ⟨μ, e⟩ := law_true ns hl
    exact law_start hS e) fun _ _ _ _ _ z => z
end LW
open PySem PySem.W PyProof.Rows in
theorem PySem.Challenge.cw_crowdsay_k99_stretches_meeting_by_meetin_holds : PySem.Challenge.rw_crowdsay_k99_stretches_meeting_by_meetin.Holds := by
  w_on; o_law; k_head; (case hw => w_witness2)
  k_fill
  refine LW.walk (l := PySem.Challenge.rw_crowdsay_k99_stretches_meeting_by_meetin) rfl rfl (fun w h Y => PySem.W.kIn_of Y) ?F
  case F =>
    intro w mg fa h KX GN hmg
    refine' LW.all_mk KX GN hmg ?a_Least ?pg_Least ?hd_Least ?po_Least ?sa_Least ?mk_Least ?kc_Least ?ne_Least ?mo_Least ?n_Least_most ?n_Least_bound ?hc_Least ?a_Rest ?pg_Rest ?hd_Rest ?po_Rest ?sa_Rest ?mk_Rest ?kc_Rest ?ne_Rest ?mo_Rest ?n_Rest_wheel ?n_Rest_rest ?hc_Rest ?a_Throng ?pg_Throng ?hd_Throng ?po_Throng ?sa_Throng ?mk_Throng ?kc_Throng ?ne_Throng ?mo_Throng ?n_Throng_sentence ?n_Throng_parts ?n_Throng_folk ?n_Throng_by_gate ?n_Throng_marks ?hc_Throng ?mq_Least_Throng ?mq_Rest_Throng ?mq_Throng_Throng ?ty_Throng ?hn_ ?ht_ ?z_abs ?z_all ?z_any ?z_bool ?z_dict ?z_int ?z_isinstance ?z_len ?z_list ?z_max ?z_min ?z_range ?z_sum ?z_tuple ?z_zip ?ga_GATE_WORDS ?gl_GATE_WORDS ?a_Leastu_initu ?i_Leastu_initu ?l_Leastu_initu ?c_Leastu_initu ?k_Leastu_initu ?a_Least_led ?i_Least_led ?l_Least_led ?c_Least_led ?k_Least_led ?a_Least_met ?i_Least_met ?l_Least_met ?c_Least_met ?k_Least_met ?a_Restu_initu ?i_Restu_initu ?l_Restu_initu ?c_Restu_initu ?k_Restu_initu ?a_Rest_led ?i_Rest_led ?l_Rest_led ?c_Rest_led ?k_Rest_led ?a_Rest_met ?i_Rest_met ?l_Rest_met ?c_Rest_met ?k_Rest_met ?a_made_of ?l_made_of ?c_made_of ?k_made_of ?a_many_of ?l_many_of ?c_many_of ?k_many_of ?a_atoms_of ?l_atoms_of ?c_atoms_of ?k_atoms_of ?a_truth_of ?l_truth_of ?c_truth_of ?k_truth_of ?a_pairs_of_folk ?l_pairs_of_folk ?c_pairs_of_folk ?k_pairs_of_folk ?w_pairs_of_folk_backward ?a_Throngu_initu ?i_Throngu_initu ?l_Throngu_initu ?c_Throngu_initu ?k_Throngu_initu ?a_Throngu_equ ?i_Throngu_equ ?l_Throngu_equ ?c_Throngu_equ ?k_Throngu_equ ?a_Throngu_lenu ?i_Throngu_lenu ?l_Throngu_lenu ?c_Throngu_lenu ?k_Throngu_lenu ?a_Throng_words ?i_Throng_words ?l_Throng_words ?c_Throng_words ?k_Throng_words ?a_Throng_word_of_folk ?i_Throng_word_of_folk ?l_Throng_word_of_folk ?c_Throng_word_of_folk ?k_Throng_word_of_folk ?a_Throng_come ?i_Throng_come ?l_Throng_come ?c_Throng_come ?k_Throng_come ?w_Throng_come_many ?a_Throng_need_folk ?i_Throng_need_folk ?l_Throng_need_folk ?c_Throng_need_folk ?k_Throng_need_folk ?a_Throng_changed ?i_Throng_changed ?l_Throng_changed ?c_Throng_changed ?k_Throng_changed ?a_Throng_meet ?i_Throng_meet ?l_Throng_meet ?c_Throng_meet ?k_Throng_meet ?a_Throng_says ?i_Throng_says ?l_Throng_says ?c_Throng_says ?k_Throng_says ?a_Throng_said ?i_Throng_said ?l_Throng_said ?c_Throng_said ?k_Throng_said ?a_Throng_stretch ?i_Throng_stretch ?l_Throng_stretch ?c_Throng_stretch ?k_Throng_stretch ?w_Throng_stretch_backward ?a_Throng_copy ?i_Throng_copy ?l_Throng_copy ?c_Throng_copy ?k_Throng_copy ?a__law_cell_at ?l__law_cell_at ?c__law_cell_at ?k__law_cell_at ?a__law_tape ?l__law_tape ?c__law_tape ?k__law_tape ?a__law_digit ?l__law_digit ?c__law_digit ?k__law_digit ?a__law_weights ?l__law_weights ?c__law_weights ?k__law_weights ?a__law_atom ?l__law_atom ?c__law_atom ?k__law_atom ?a__law_wide_sentence ?l__law_wide_sentence ?c__law_wide_sentence ?k__law_wide_sentence ?a__law_pairs ?l__law_pairs ?c__law_pairs ?k__law_pairs ?a__law_met_one_by_one ?l__law_met_one_by_one ?c__law_met_one_by_one ?k__law_met_one_by_one ?a__law_stretch_right ?l__law_stretch_right ?c__law_stretch_right ?k__law_stretch_right ?a__law_great_right ?l__law_great_right ?c__law_great_right ?k__law_great_right ?a_law ?l_law ?c_law ?k_law
    (case a_Least => k_is)
    (case pg_Least => k_is)
    (case hd_Least => k_is)
    (case po_Least => k_is)
    (case sa_Least => k_is)
    (case mk_Least => k_is)
    (case kc_Least => k_is)
    (case ne_Least => k_is)
    (case mo_Least => k_is)
    (case n_Least_most => k_is)
    (case n_Least_bound => k_is)
    (case hc_Least => k_is)
    (case a_Rest => k_is)
    (case pg_Rest => k_is)
    (case hd_Rest => k_is)
    (case po_Rest => k_is)
    (case sa_Rest => k_is)
    (case mk_Rest => k_is)
    (case kc_Rest => k_is)
    (case ne_Rest => k_is)
    (case mo_Rest => k_is)
    (case n_Rest_wheel => k_is)
    (case n_Rest_rest => k_is)
    (case hc_Rest => k_is)
    (case a_Throng => k_is)
    (case pg_Throng => k_is)
    (case hd_Throng => k_is)
    (case po_Throng => k_is)
    (case sa_Throng => k_is)
    (case mk_Throng => k_is)
    (case kc_Throng => k_is)
    (case ne_Throng => k_is)
    (case mo_Throng => k_is)
    (case n_Throng_sentence => k_is)
    (case n_Throng_parts => k_is)
    (case n_Throng_folk => k_is)
    (case n_Throng_by_gate => k_is)
    (case n_Throng_marks => k_is)
    (case hc_Throng => k_is)
    (case mq_Least_Throng => k_is)
    (case mq_Rest_Throng => k_is)
    (case mq_Throng_Throng => k_is)
    (case ty_Throng => k_is)
    (case hn_ => k_is)
    (case ht_ => k_is)
    (case z_abs => k_is)
    (case z_all => k_is)
    (case z_any => k_is)
    (case z_bool => k_is)
    (case z_dict => k_is)
    (case z_int => k_is)
    (case z_isinstance => k_is)
    (case z_len => k_is)
    (case z_list => k_is)
    (case z_max => k_is)
    (case z_min => k_is)
    (case z_range => k_is)
    (case z_sum => k_is)
    (case z_tuple => k_is)
    (case z_zip => k_is)
    (case ga_GATE_WORDS => k_is)
    (case gl_GATE_WORDS => k_is)
    (case a_Leastu_initu => k_is)
    (case i_Leastu_initu => k_is)
    (case l_Leastu_initu => k_is)
    (case c_Leastu_initu => k_is)
    (case k_Leastu_initu => k_is)
    (case a_Least_led => k_is)
    (case i_Least_led => k_is)
    (case l_Least_led => k_is)
    (case c_Least_led => k_is)
    (case k_Least_led => k_is)
    (case a_Least_met => k_is)
    (case i_Least_met => k_is)
    (case l_Least_met => k_is)
    (case c_Least_met => k_is)
    (case k_Least_met => k_is)
    (case a_Restu_initu => k_is)
    (case i_Restu_initu => k_is)
    (case l_Restu_initu => k_is)
    (case c_Restu_initu => k_is)
    (case k_Restu_initu => k_is)
    (case a_Rest_led => k_is)
    (case i_Rest_led => k_is)
    (case l_Rest_led => k_is)
    (case c_Rest_led => k_is)
    (case k_Rest_led => k_is)
    (case a_Rest_met => k_is)
    (case i_Rest_met => k_is)
    (case l_Rest_met => k_is)
    (case c_Rest_met => k_is)
    (case k_Rest_met => k_is)
    (case a_made_of => k_is)
    (case l_made_of => k_is)
    (case c_made_of => k_is)
    (case k_made_of => k_is)
    (case a_many_of => k_is)
    (case l_many_of => k_is)
    (case c_many_of => k_is)
    (case k_many_of => k_is)
    (case a_atoms_of => k_is)
    (case l_atoms_of => k_is)
    (case c_atoms_of => k_is)
    (case k_atoms_of => k_is)
    (case a_truth_of => k_is)
    (case l_truth_of => k_is)
    (case c_truth_of => k_is)
    (case k_truth_of => k_is)
    (case a_pairs_of_folk => k_is)
    (case l_pairs_of_folk => k_is)
    (case c_pairs_of_folk => k_is)
    (case k_pairs_of_folk => k_is)
    (case w_pairs_of_folk_backward => k_is)
    (case a_Throngu_initu => k_is)
    (case i_Throngu_initu => k_is)
    (case l_Throngu_initu => k_is)
    (case c_Throngu_initu => k_is)
    (case k_Throngu_initu => k_is)
    (case a_Throngu_equ => k_is)
    (case i_Throngu_equ => k_is)
    (case l_Throngu_equ => k_is)
    (case c_Throngu_equ => k_is)
    (case k_Throngu_equ => k_is)
    (case a_Throngu_lenu => k_is)
    (case i_Throngu_lenu => k_is)
    (case l_Throngu_lenu => k_is)
    (case c_Throngu_lenu => k_is)
    (case k_Throngu_lenu => k_is)
    (case a_Throng_words => k_is)
    (case i_Throng_words => k_is)
    (case l_Throng_words => k_is)
    (case c_Throng_words => k_is)
    (case k_Throng_words => k_is)
    (case a_Throng_word_of_folk => k_is)
    (case i_Throng_word_of_folk => k_is)
    (case l_Throng_word_of_folk => k_is)
    (case c_Throng_word_of_folk => k_is)
    (case k_Throng_word_of_folk => k_is)
    (case a_Throng_come => k_is)
    (case i_Throng_come => k_is)
    (case l_Throng_come => k_is)
    (case c_Throng_come => k_is)
    (case k_Throng_come => k_is)
    (case w_Throng_come_many => k_is)
    (case a_Throng_need_folk => k_is)
    (case i_Throng_need_folk => k_is)
    (case l_Throng_need_folk => k_is)
    (case c_Throng_need_folk => k_is)
    (case k_Throng_need_folk => k_is)
    (case a_Throng_changed => k_is)
    (case i_Throng_changed => k_is)
    (case l_Throng_changed => k_is)
    (case c_Throng_changed => k_is)
    (case k_Throng_changed => k_is)
    (case a_Throng_meet => k_is)
    (case i_Throng_meet => k_is)
    (case l_Throng_meet => k_is)
    (case c_Throng_meet => k_is)
    (case k_Throng_meet => k_is)
    (case a_Throng_says => k_is)
    (case i_Throng_says => k_is)
    (case l_Throng_says => k_is)
    (case c_Throng_says => k_is)
    (case k_Throng_says => k_is)
    (case a_Throng_said => k_is)
    (case i_Throng_said => k_is)
    (case l_Throng_said => k_is)
    (case c_Throng_said => k_is)
    (case k_Throng_said => k_is)
    (case a_Throng_stretch => k_is)
    (case i_Throng_stretch => k_is)
    (case l_Throng_stretch => k_is)
    (case c_Throng_stretch => k_is)
    (case k_Throng_stretch => k_is)
    (case w_Throng_stretch_backward => k_is)
    (case a_Throng_copy => k_is)
    (case i_Throng_copy => k_is)
    (case l_Throng_copy => k_is)
    (case c_Throng_copy => k_is)
    (case k_Throng_copy => k_is)
    (case a__law_cell_at => k_is)
    (case l__law_cell_at => k_is)
    (case c__law_cell_at => k_is)
    (case k__law_cell_at => k_is)
    (case a__law_tape => k_is)
    (case l__law_tape => k_is)
    (case c__law_tape => k_is)
    (case k__law_tape => k_is)
    (case a__law_digit => k_is)
    (case l__law_digit => k_is)
    (case c__law_digit => k_is)
    (case k__law_digit => k_is)
    (case a__law_weights => k_is)
    (case l__law_weights => k_is)
    (case c__law_weights => k_is)
    (case k__law_weights => k_is)
    (case a__law_atom => k_is)
    (case l__law_atom => k_is)
    (case c__law_atom => k_is)
    (case k__law_atom => k_is)
    (case a__law_wide_sentence => k_is)
    (case l__law_wide_sentence => k_is)
    (case c__law_wide_sentence => k_is)
    (case k__law_wide_sentence => k_is)
    (case a__law_pairs => k_is)
    (case l__law_pairs => k_is)
    (case c__law_pairs => k_is)
    (case k__law_pairs => k_is)
    (case a__law_met_one_by_one => k_is)
    (case l__law_met_one_by_one => k_is)
    (case c__law_met_one_by_one => k_is)
    (case k__law_met_one_by_one => k_is)
    (case a__law_stretch_right => k_is)
    (case l__law_stretch_right => k_is)
    (case c__law_stretch_right => k_is)
    (case k__law_stretch_right => k_is)
    (case a__law_great_right => k_is)
    (case l__law_great_right => k_is)
    (case c__law_great_right => k_is)
    (case k__law_great_right => k_is)
    (case a_law => k_is)
    (case l_law => k_is)
    (case c_law => k_is)
    (case k_law => k_is)
end
