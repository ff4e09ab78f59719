import PyProof.Rows.All
import Wide.All
import OpenK.AllK
import Wide.FinOn
import HandS.ForMost
import HandS.ForExc
import HandS.IsInst
import HandS.ExcIs
import HandS.ExcField
import HandS.ExcInit
import HandS.SortKw
import HandS.StrMore
import HandS.Flow
import HandS.Style
import HandS.CallSlots
import HandS.Defaults
import KE.KExcIs
import HandS.More
import HandS.Codes
import HandS.Small
import HandS.DictTup
import HandS.SortRule
import HandS.Lambda
import HandS.ListItems
import HandS.SuiteRaise
import HandS.TupSets
import HandS.ClsMeth
import PySem.Challenge.RW_coverroll_k38_no_covers
set_option Elab.async false
set_option linter.all false
set_option maxRecDepth 100000
set_option maxHeartbeats 2000000
namespace DL
open PySem PySem.Spec PyProof.Rows L2

/-- data as values: what is frozen is a tree, what is one's own is a place -/
inductive D where
  | non | bl (b : Bool) | int (i : Int) | str (s : Str)
  | tup (xs : List D) | lst (xs : List D) | sq (xs : List D) | dct (kvs : List (Key × D))
  | ins (C : Addr) (fs : List (Str × D)) | own (k : Nat) | val (v : V) | xcp (a : Addr) (d : Option Addr) (C : Addr) (fs : List (Str × D))
inductive OD where
  | gone | lst (xs : List D) | dK (kvs : List (Key × D)) | dT (kvs : List (List Key × D)) | ins (C : Addr) (fs : List (Str × D))

mutual
inductive Rep (K : PySem.W.Frag) (B : Hp) (al : List Addr) : D → V → Prop where
  | non : Rep K B al .non .non
  | bl (b : Bool) : Rep K B al (.bl b) (.bl b)
  | int (i : Int) : Rep K B al (.int i) (.int i)
  | str (s : Str) : Rep K B al (.str s) (.str s)
  | tup {a : Addr} {vs : List V} {ds : List D} (h : SqT K B a vs) (r : RepA K B al ds vs) : Rep K B al (.tup ds) (.ref a)
  | lst {a : Addr} {vs : List V} {ds : List D} (h : B a = some (.lst vs)) (r : RepA K B al ds vs) : Rep K B al (.lst ds) (.ref a)
  | sq {a : Addr} {vs : List V} {ds : List D} (h : SqL K B a vs) (r : RepA K B al ds vs) : Rep K B al (.sq ds) (.ref a)
  | dct {a : Addr} {vs : List (Key × V)} {ds : List (Key × D)} (h : B a = some (.dK vs)) (r : RepP K B al ds vs) : Rep K B al (.dct ds) (.ref a)
  | ins {a C dx : Addr} {vs : List (Str × V)} {ds : List (Str × D)} (h : B a = some (.ins C dx vs)) (r : RepP K B al ds vs) : Rep K B al (.ins C ds) (.ref a)
  | own {k : Nat} {a : Addr} (h : al[k]? = some a) : Rep K B al (.own k) (.ref a)
  | val (v : V) : Rep K B al (.val v) v
  | xcp0 {a C : Addr} : Rep K B al (.xcp a none C []) (.ref a)
  | xcp1 {a C dd : Addr} {vs : List (Str × V)} {ds : List (Str × D)} (h : B dd = some (.xd vs)) (r : RepP K B al ds vs) : Rep K B al (.xcp a (some dd) C ds) (.ref a)
inductive RepA (K : PySem.W.Frag) (B : Hp) (al : List Addr) : List D → List V → Prop where
  | nil : RepA K B al [] []
  | cons {d : D} {v : V} {ds : List D} {vs : List V} (h : Rep K B al d v) (t : RepA K B al ds vs) : RepA K B al (d :: ds) (v :: vs)
inductive RepP (K : PySem.W.Frag) (B : Hp) (al : List Addr) : {κ : Type} → List (κ × D) → List (κ × V) → Prop where
  | nil {κ : Type} : RepP K B al (κ := κ) [] []
  | cons {κ : Type} {n : κ} {d : D} {v : V} {ds : List (κ × D)} {vs : List (κ × V)} (h : Rep K B al d v) (t : RepP K B al ds vs) : RepP K B al ((n, d) :: ds) ((n, v) :: vs)
end

theorem same_rd {H H' : Hp} {a : Addr} {u : HO} (e : Same H H') (h : Rd H a u) : Rd H' a u := by
  rcases h with h | ⟨o, h⟩
  · exact .inl (e a _ h)
  · exact .inr ⟨o, e a _ h⟩
theorem same_l {K : PySem.W.Frag} {H H' : Hp} {a : Addr} {xs : List V} (e : Same H H') (h : SqL K H a xs) : SqL K H' a xs := by
  rcases h with h | h
  · exact .inl (same_rd e h)
  · exact .inr h
theorem same_t {K : PySem.W.Frag} {H H' : Hp} {a : Addr} {xs : List V} (e : Same H H') (h : SqT K H a xs) : SqT K H' a xs := by
  rcases h with h | h
  · exact .inl (same_rd e h)
  · exact .inr h
theorem pre_get {α : Type} {l l' : List α} {k : Nat} {a : α} (p : l <+: l') (h : l[k]? = some a) : l'[k]? = some a := by
  obtain ⟨t, rfl⟩ := p
  have hk : k < l.length := by
    rw [List.getElem?_eq_some_iff] at h
    exact h.1
  rw [List.getElem?_append_left hk]
  exact h

section
variable {K : PySem.W.Frag} {B B' : Hp} {al al' : List Addr}
mutual
theorem Rep.mono (e : Same B B') (p : al <+: al') : ∀ {d : D} {v : V}, Rep K B al d v → Rep K B' al' d v
  | _, _, .non => .non
  | _, _, .bl b => .bl b
  | _, _, .int i => .int i
  | _, _, .str s => .str s
  | _, _, .tup h r => .tup (same_t e h) (RepA.mono e p r)
  | _, _, .lst h r => .lst (e _ _ h) (RepA.mono e p r)
  | _, _, .sq h r => .sq (same_l e h) (RepA.mono e p r)
  | _, _, .dct h r => .dct (e _ _ h) (RepP.mono e p r)
  | _, _, .ins h r => .ins (e _ _ h) (RepP.mono e p r)
  | _, _, .own h => .own (pre_get p h)
  | _, _, .val v => .val v
  | _, _, .xcp0 => .xcp0
  | _, _, .xcp1 h r => .xcp1 (e _ _ h) (RepP.mono e p r)
theorem RepA.mono (e : Same B B') (p : al <+: al') : ∀ {ds : List D} {vs : List V}, RepA K B al ds vs → RepA K B' al' ds vs
  | _, _, .nil => .nil
  | _, _, .cons h t => .cons (Rep.mono e p h) (RepA.mono e p t)
theorem RepP.mono (e : Same B B') (p : al <+: al') : ∀ {κ : Type} {ds : List (κ × D)} {vs : List (κ × V)}, RepP K B al ds vs → RepP K B' al' ds vs
  | _, _, _, .nil => .nil
  | _, _, _, .cons h t => .cons (Rep.mono e p h) (RepP.mono e p t)
end
theorem RepA.length : ∀ {ds : List D} {vs : List V}, RepA K B al ds vs → ds.length = vs.length
  | _, _, .nil => rfl
  | _, _, .cons _ t => congrArg (· + 1) (RepA.length t)
theorem RepA.append : ∀ {ds es : List D} {vs ws : List V}, RepA K B al ds vs → RepA K B al es ws → RepA K B al (ds ++ es) (vs ++ ws)
  | _, _, _, _, .nil, s => s
  | _, _, _, _, .cons h t, s => .cons h (RepA.append t s)
theorem RepA.one {d : D} {v : V} (h : Rep K B al d v) : RepA K B al [d] [v] := .cons h .nil
theorem RepA.get : ∀ {ds : List D} {vs : List V} {i : Nat} {d : D}, RepA K B al ds vs → ds[i]? = some d → ∃ v, vs[i]? = some v ∧ Rep K B al d v
  | _, _, _, _, .nil, e => by simp at e
  | _, _, 0, _, .cons h t, e => by simp at e; subst e; exact ⟨_, rfl, h⟩
  | _, _, i + 1, _, .cons h t, e => by
    obtain ⟨v, h1, h2⟩ := RepA.get (i := i) t (by simpa using e)
    exact ⟨v, by simpa using h1, h2⟩
theorem RepA.get' : ∀ {ds : List D} {vs : List V} {i : Nat} {v : V}, RepA K B al ds vs → vs[i]? = some v → ∃ d, ds[i]? = some d ∧ Rep K B al d v
  | _, _, _, _, .nil, e => by simp at e
  | _, _, 0, _, .cons h t, e => by simp at e; subst e; exact ⟨_, rfl, h⟩
  | _, _, i + 1, _, .cons h t, e => by
    obtain ⟨d, h1, h2⟩ := RepA.get' (i := i) t (by simpa using e)
    exact ⟨d, by simpa using h1, h2⟩
theorem RepA.set {d : D} {v : V} (r : Rep K B al d v) : ∀ {ds : List D} {vs : List V} (i : Nat), RepA K B al ds vs → RepA K B al (ds.set i d) (vs.set i v)
  | _, _, _, .nil => .nil
  | _, _, 0, .cons _ t => .cons r t
  | _, _, i + 1, .cons h t => .cons h (RepA.set r i t)
theorem RepA.take : ∀ {ds : List D} {vs : List V} (n : Nat), RepA K B al ds vs → RepA K B al (ds.take n) (vs.take n)
  | _, _, 0, _ => .nil
  | _, _, _ + 1, .nil => .nil
  | _, _, n + 1, .cons h t => .cons h (RepA.take n t)
theorem RepA.drop : ∀ {ds : List D} {vs : List V} (n : Nat), RepA K B al ds vs → RepA K B al (ds.drop n) (vs.drop n)
  | _, _, 0, r => r
  | _, _, _ + 1, .nil => .nil
  | _, _, n + 1, .cons _ t => RepA.drop n t
theorem RepP.length : ∀ {κ : Type} {ds : List (κ × D)} {vs : List (κ × V)}, RepP K B al ds vs → ds.length = vs.length
  | _, _, _, .nil => rfl
  | _, _, _, .cons _ t => congrArg (· + 1) (RepP.length t)
theorem RepP.lookup {κ : Type} [BEq κ] : ∀ {ds : List (κ × D)} {vs : List (κ × V)} {n : κ}, RepP K B al ds vs →
    (∀ d, ds.lookup n = some d → ∃ v, vs.lookup n = some v ∧ Rep K B al d v) ∧ (ds.lookup n = none → vs.lookup n = none)
  | _, _, _, .nil => ⟨fun _ e => by simp at e, fun _ => rfl⟩
  | _, _, n, .cons (n := m) h t => by
    obtain ⟨h1, h2⟩ := RepP.lookup (n := n) t
    cases e : n == m with
    | true =>
      simp only [List.lookup, e]
      exact ⟨fun d q => by cases q; exact ⟨_, rfl, h⟩, fun q => by cases q⟩
    | false =>
      simp only [List.lookup, e]
      exact ⟨h1, h2⟩
end

/-- what stands at one's own place -/
inductive ORep (K : PySem.W.Frag) (B : Hp) (al : List Addr) : OD → HO → Prop where
  | lst {ds : List D} {vs : List V} (r : RepA K B al ds vs) : ORep K B al (.lst ds) (.lst vs)
  | dK {ds : List (Key × D)} {vs : List (Key × V)} (r : RepP K B al ds vs) : ORep K B al (.dK ds) (.dK vs)
  | dT {ds : List (List Key × D)} {vs : List (List Key × V)} (r : RepP K B al ds vs) : ORep K B al (.dT ds) (.dT vs)
  | ins {C dx : Addr} {ds : List (Str × D)} {vs : List (Str × V)} (r : RepP K B al ds vs) : ORep K B al (.ins C ds) (.ins C dx vs)
theorem ORep.mono {K : PySem.W.Frag} {B B' : Hp} {al al' : List Addr} (e : Same B B') (p : al <+: al') {od : OD} {o : HO} (h : ORep K B al od o) : ORep K B' al' od o := by
  cases h with
  | lst r => exact .lst (r.mono e p)
  | dK r => exact .dK (r.mono e p)
  | dT r => exact .dT (r.mono e p)
  | ins r => exact .ins (r.mono e p)

abbrev DEnv := List (Option D)
abbrev LH := List OD
structure RepS (K : PySem.W.Frag) (B : Hp) (al : List Addr) (env : DEnv) (σ : L2.St) : Prop where
  len : env.length = σ.length
  at_ : ∀ (i : Nat) (d : D), env[i]? = some (some d) → ∃ v, σ[i]? = some (some v) ∧ Rep K B al d v
theorem RepS.mono {K : PySem.W.Frag} {B B' : Hp} {al al' : List Addr} (e : Same B B') (p : al <+: al') {env : DEnv} {σ : L2.St} (h : RepS K B al env σ) : RepS K B' al' env σ := ⟨h.len, fun i d q => by
  obtain ⟨v, h1, h2⟩ := h.at_ i d q
  exact ⟨v, h1, h2.mono e p⟩⟩
theorem RepS.set {K : PySem.W.Frag} {B : Hp} {al : List Addr} {env : DEnv} {σ : L2.St} (h : RepS K B al env σ) {i : Nat} {d : D} {v : V} (r : Rep K B al d v) : RepS K B al (env.set i (some d)) (σ.set i (some v)) := ⟨by rw [List.length_set, List.length_set]; exact h.len, fun j d' q => by
  by_cases e : j = i
  · subst e
    by_cases hj : j < env.length
    · rw [List.getElem?_set_self hj] at q
      cases q
      exact ⟨v, by rw [List.getElem?_set_self (by rw [← h.len]; exact hj)], r⟩
    · rw [List.getElem?_eq_none (by simpa using hj)] at q; cases q
  · rw [List.getElem?_set_ne (Ne.symm e)] at q
    obtain ⟨w, h1, h2⟩ := h.at_ j d' q
    exact ⟨w, by rw [List.getElem?_set_ne (Ne.symm e)]; exact h1, h2⟩⟩
theorem RepS.unset {K : PySem.W.Frag} {B : Hp} {al : List Addr} {env : DEnv} {σ : L2.St} (h : RepS K B al env σ) {i : Nat} {o : Option V} : RepS K B al (env.set i none) (σ.set i o) := ⟨by rw [List.length_set, List.length_set]; exact h.len, fun j d' q => by
  by_cases e : j = i
  · subst e
    by_cases hj : j < env.length
    · rw [List.getElem?_set_self hj] at q; cases q
    · rw [List.getElem?_eq_none (by simpa using hj)] at q; cases q
  · rw [List.getElem?_set_ne (Ne.symm e)] at q
    obtain ⟨w, h1, h2⟩ := h.at_ j d' q
    exact ⟨w, by rw [List.getElem?_set_ne (Ne.symm e)]; exact h1, h2⟩⟩
/-- a slot's value forgotten -/
theorem RepS.forget {K : PySem.W.Frag} {B : Hp} {al : List Addr} {env : DEnv} {σ : L2.St} (h : RepS K B al env σ) {i : Nat} : RepS K B al (env.set i none) σ := ⟨by rw [List.length_set]; exact h.len, fun j d' q => by
  by_cases e : j = i
  · subst e
    by_cases hj : j < env.length
    · rw [List.getElem?_set_self hj] at q; cases q
    · rw [List.getElem?_eq_none (by simpa using hj)] at q; cases q
  · rw [List.getElem?_set_ne (Ne.symm e)] at q
    exact h.at_ j d' q⟩

/-- the state: the frozen part B, one's own objects L at al, all within H -/
structure Lift (K : PySem.W.Frag) (B H : Hp) (al : List Addr) (L : LH) : Prop where
  ex : Same B H
  len : al.length = L.length
  nd : al.Nodup
  th : ∀ a ∈ al, H a ≠ none
  ob : ∀ (k : Nat) (a : Addr) (od : OD), al[k]? = some a → L[k]? = some od → od ≠ .gone → B a = none ∧ ∃ o, H a = some o ∧ ORep K B al od o
/-- the state at an entry -/
structure Ent where
  B : Hp
  H : Hp
  al : List Addr
/-- what has moved since -/
structure Mv (Z : Ent) (B H : Hp) (al : List Addr) : Prop where
  bb : Same Z.B B
  fr : ∀ p o, Z.H p = some o → p ∉ Z.al → H p = some o
  nb : ∀ p, Z.B p = none → Z.H p ≠ none → p ∉ Z.al → B p = none
  la : ∀ p ∈ al, p ∈ Z.al ∨ Z.H p = none
  pre : Z.al <+: al
  up : ∀ p, Z.H p ≠ none → H p ≠ none
theorem Mv.refl {B H : Hp} {al : List Addr} : Mv ⟨B, H, al⟩ B H al := ⟨fun _ _ h => h, fun _ _ h _ => h, fun _ h _ _ => h, fun _ h => .inl h, List.prefix_refl _, fun _ h => h⟩
theorem Mv.trans {Z : Ent} {B H B' H' : Hp} {al al' : List Addr} (a : Mv Z B H al) (b : Mv ⟨B, H, al⟩ B' H' al') : Mv Z B' H' al' where
  bb := Same.trans a.bb b.bb
  fr := fun p o h n => b.fr p o (a.fr p o h n) fun hm => by
    rcases a.la p hm with z | z
    · exact n z
    · rw [z] at h; cases h
  nb := fun p h1 h2 n => b.nb p (a.nb p h1 h2 n) (a.up p h2) fun hm => by
    rcases a.la p hm with z | z
    · exact n z
    · exact h2 z
  la := fun p h => by
    rcases b.la p h with z | z
    · exact a.la p z
    · refine .inr ?_
      cases q : Z.H p with
      | none => rfl
      | some o => exact absurd z (a.up p (by rw [q]; exact fun w => by cases w))
  pre := List.IsPrefix.trans a.pre b.pre
  up := fun p h => b.up p (a.up p h)
/-- a step that leaves one's own objects as they are: new things in B, all of H kept -/
structure Stp (B H B' H' : Hp) (al : List Addr) : Prop where
  bb : Same B B'
  hh : Same H H'
  bh : Same B' H'
  nb : ∀ p, B p = none → H p ≠ none → B' p = none
theorem Stp.refl {B H : Hp} {al : List Addr} (e : Same B H) : Stp B H B H al := ⟨fun _ _ h => h, fun _ _ h => h, e, fun _ h _ => h⟩
theorem same_ne {H H' : Hp} (h : Same H H') (p : Addr) (n : H p ≠ none) : H' p ≠ none := by
  cases q : H p with
  | none => exact absurd q n
  | some o => rw [h p o q]; exact fun w => by cases w
theorem Stp.mv {B H B' H' : Hp} {al : List Addr} (s : Stp B H B' H' al) : Mv ⟨B, H, al⟩ B' H' al :=
  ⟨s.bb, fun p o h _ => s.hh p o h, fun p h1 h2 _ => s.nb p h1 h2, fun _ h => .inl h, List.prefix_refl _, fun p h => same_ne s.hh p h⟩
theorem Lift.stp {K : PySem.W.Frag} {B H B' H' : Hp} {al : List Addr} {L : LH} (l : Lift K B H al L) (s : Stp B H B' H' al) : Lift K B' H' al L :=
  ⟨s.bh, l.len, l.nd, fun a ha => same_ne s.hh a (l.th a ha), fun k a od h1 h2 h3 => by
    obtain ⟨n, o, h4, h5⟩ := l.ob k a od h1 h2 h3
    exact ⟨s.nb a n (by rw [h4]; exact fun w => by cases w), o, s.hh a o h4, h5.mono s.bb (List.prefix_refl _)⟩⟩
/-- a new frozen object -/
theorem Stp.new {B H : Hp} {al : List Addr} {p : Addr} {o : HO} (e : Same B H) (n : H p = none) : Stp B H (upd B p o) (upd H p o) al := by
  have nb : B p = none := Same.free e n
  refine ⟨fun a u h => ?_, fun a u h => ?_, fun a u h => ?_, fun a h1 h2 => ?_⟩
  · rw [upd_ne (ne_of_none h nb)]; exact h
  · rw [upd_ne (ne_of_none h n)]; exact h
  · by_cases q : a = p
    · subst q; rw [upd_same] at h ⊢; exact h
    · rw [upd_ne q] at h ⊢; exact e a u h
  · have q : a ≠ p := fun z => by subst z; exact h2 n
    rw [upd_ne q]; exact h1
/-- one's own object at place k is written -/
theorem Lift.upd {K : PySem.W.Frag} {B H : Hp} {al : List Addr} {L : LH} (l : Lift K B H al L) {k : Nat} {a : Addr} {od od' : OD} {o' : HO} (ha : al[k]? = some a) (hk : L[k]? = some od) (hg : od ≠ .gone) (r : ORep K B al od' o') :
    Lift K B (L2.upd H a o') al (L.set k od') := by
  obtain ⟨hn, o, ho, _⟩ := l.ob k a od ha hk hg
  refine ⟨fun b u q => ?_, by rw [List.length_set]; exact l.len, l.nd, fun b hb => ?_, fun j b oj h1 h2 h3 => ?_⟩
  · have hb : b ≠ a := fun z => by rw [z, hn] at q; cases q
    rw [upd_ne hb]; exact l.ex b u q
  · by_cases e : b = a
    · subst e; rw [upd_same]; exact fun z => by cases z
    · rw [upd_ne e]; exact l.th b hb
  · by_cases e : j = k
    · subst e
      rw [ha] at h1
      cases h1
      have hj : j < L.length := (List.getElem?_eq_some_iff.mp hk).1
      rw [List.getElem?_set_self hj] at h2
      cases h2
      exact ⟨hn, o', upd_same, r⟩
    · rw [List.getElem?_set_ne (Ne.symm e)] at h2
      obtain ⟨n2, o2, h4, h5⟩ := l.ob j b oj h1 h2 h3
      have hb : b ≠ a := fun z => by
        subst z
        obtain ⟨j1, e1⟩ := List.getElem?_eq_some_iff.mp h1
        obtain ⟨j2, e2⟩ := List.getElem?_eq_some_iff.mp ha
        exact e ((List.getElem_inj l.nd).mp (e1.trans e2.symm))
      exact ⟨n2, o2, by rw [upd_ne hb]; exact h4, h5⟩
theorem Mv.upd {Z : Ent} {B H : Hp} {al : List Addr} (m : Mv Z B H al) {a : Addr} {o' : HO} (ha : a ∈ al) : Mv Z B (L2.upd H a o') al where
  bb := m.bb
  fr := fun p o h n => by
    have hb : p ≠ a := fun z => by
      subst z
      rcases m.la p ha with q | q
      · exact n q
      · rw [q] at h; cases h
    rw [upd_ne hb]; exact m.fr p o h n
  nb := m.nb
  la := m.la
  pre := m.pre
  up := fun p h => by
    by_cases e : p = a
    · subst e; rw [upd_same]; exact fun z => by cases z
    · rw [upd_ne e]; exact m.up p h
/-- a new object of one's own -/
theorem Lift.newO {K : PySem.W.Frag} {B H : Hp} {al : List Addr} {L : LH} (l : Lift K B H al L) {p : Addr} {od : OD} {o : HO} (n : H p = none) (r : ORep K B al od o) : Lift K B (L2.upd H p o) (al ++ [p]) (L ++ [od]) := by
  have nb : B p = none := Same.free l.ex n
  have hal : p ∉ al := fun h => l.th p h n
  refine ⟨fun b u q => ?_, by rw [List.length_append, List.length_append, l.len]; rfl, ?_, fun b hb => ?_, fun j b oj h1 h2 h3 => ?_⟩
  · rw [upd_ne (ne_of_none q nb)]; exact l.ex b u q
  · exact List.nodup_append.mpr ⟨l.nd, by simp, fun x hx y hy z => hal (by rw [List.mem_singleton] at hy; rw [← hy, ← z]; exact hx)⟩
  · by_cases e : b = p
    · subst e; rw [upd_same]; exact fun z => by cases z
    · rw [upd_ne e]
      rcases List.mem_append.mp hb with h | h
      · exact l.th b h
      · rw [List.mem_singleton] at h; exact absurd h e
  · by_cases e : j < al.length
    · rw [List.getElem?_append_left e] at h1
      rw [List.getElem?_append_left (by rw [← l.len]; exact e)] at h2
      obtain ⟨n2, o2, h4, h5⟩ := l.ob j b oj h1 h2 h3
      refine ⟨n2, o2, ?_, h5.mono (fun _ _ h => h) (List.prefix_append _ _)⟩
      rw [upd_ne (ne_of_none h4 n)]; exact h4
    · have ej : j = al.length := by
        have q := (List.getElem?_eq_some_iff.mp h1).1
        rw [List.length_append, List.length_singleton] at q
        omega
      subst ej
      rw [List.getElem?_append_right (Nat.le_refl _), Nat.sub_self] at h1
      rw [l.len, List.getElem?_append_right (Nat.le_refl _), Nat.sub_self] at h2
      cases h1
      cases h2
      exact ⟨nb, o, upd_same, r.mono (fun _ _ h => h) (List.prefix_append _ _)⟩
theorem Mv.newO {Z : Ent} {B H : Hp} {al : List Addr} (m : Mv Z B H al) {p : Addr} {o : HO} (n : H p = none) : Mv Z B (L2.upd H p o) (al ++ [p]) where
  bb := m.bb
  fr := fun q u h nq => by
    have := m.fr q u h nq
    rw [upd_ne (ne_of_none this n)]; exact this
  nb := m.nb
  la := fun q hq => by
    rcases List.mem_append.mp hq with h | h
    · exact m.la q h
    · rw [List.mem_singleton] at h
      subst h
      refine .inr ?_
      cases e : Z.H q with
      | none => rfl
      | some u => exact absurd n (m.up q (by rw [e]; exact fun z => by cases z))
  pre := List.IsPrefix.trans m.pre (List.prefix_append _ _)
  up := fun q h => by
    by_cases e : q = p
    · subst e; rw [upd_same]; exact fun z => by cases z
    · rw [upd_ne e]; exact m.up q h
end DL
set_option Elab.async false
set_option linter.all false
set_option maxRecDepth 100000
set_option maxHeartbeats 2000000
namespace DL
open PySem PySem.Spec PyProof.Rows L2

abbrev DK := D → LH → Prop
abbrev DX := Addr → List (Str × D) → LH → Prop
abbrev TD := DEnv → LH → DK → DX → Prop
abbrev TDT := DEnv → LH → (Bool → LH → Prop) → DX → Prop
abbrev TDA := DEnv → LH → (List D → LH → Prop) → DX → Prop
structure DEnds where
  nx : DEnv → LH → Prop
  rt : DK
  bk : DEnv → LH → Prop
  ct : DEnv → LH → Prop
  ex : Addr → List (Str × D) → DEnv → LH → Prop
abbrev TDS := DEnds → DEnv → LH → Prop

/-- a later state -/
structure Nx (K : PySem.W.Frag) (Z : Ent) (B : Hp) (al : List Addr) (B' H' : Hp) (al' : List Addr) (L' : LH) : Prop where
  l : Lift K B' H' al' L'
  m : Mv Z B' H' al'
  s : Same B B'
  p : al <+: al'
theorem Nx.trans {K : PySem.W.Frag} {Z : Ent} {B B1 B2 H1 H2 : Hp} {al a1 a2 : List Addr} {L1 L2 : LH} (x : Nx K Z B al B1 H1 a1 L1) (y : Nx K Z B1 a1 B2 H2 a2 L2) : Nx K Z B al B2 H2 a2 L2 :=
  ⟨y.l, y.m, x.s.trans y.s, x.p.trans y.p⟩
theorem Nx.refl {K : PySem.W.Frag} {Z : Ent} {B H : Hp} {al : List Addr} {L : LH} (l : Lift K B H al L) (m : Mv Z B H al) : Nx K Z B al B H al L := ⟨l, m, fun _ _ h => h, List.prefix_refl _⟩
theorem Nx.stp {K : PySem.W.Frag} {Z : Ent} {B H B' H' : Hp} {al : List Addr} {L : LH} (l : Lift K B H al L) (m : Mv Z B H al) (s : Stp B H B' H' al) : Nx K Z B al B' H' al L := ⟨l.stp s, m.trans s.mv, s.bb, List.prefix_refl _⟩
/-- an exception's dict -/
def XRep (K : PySem.W.Frag) (Z : Ent) (B H : Hp) (al : List Addr) (fs : List (Str × D)) (dd : Option Addr) : Prop :=
  (dd = none ∧ fs = []) ∨ ∃ a vs, dd = some a ∧ H a = some (.xd vs) ∧ Z.H a = none ∧ RepP K B al fs vs

/-- the reading of values as a reading of the heap -/
def lE (K : PySem.W.Frag) (Z : Ent) (W : WX) (t : TD) : TE := fun σ H Q => ∃ (B : Hp) (al : List Addr) (L : LH) (env : DEnv) (Q0 : DK) (X0 : DX), Lift K B H al L ∧ RepS K B al env σ ∧ Mv Z B H al ∧ t env L Q0 X0 ∧
  (∀ B' H' al' L' d v, Nx K Z B al B' H' al' L' → Rep K B' al' d v → Q0 d L' → Q v H') ∧ (∀ B' H' al' L' C fs dd, Nx K Z B al B' H' al' L' → XRep K Z B' H' al' fs dd → X0 C fs L' → W (.ref C) dd σ H')
def lT (K : PySem.W.Frag) (Z : Ent) (W : WX) (t : TDT) : TT := fun σ H Q => ∃ (B : Hp) (al : List Addr) (L : LH) (env : DEnv) (Q0 : Bool → LH → Prop) (X0 : DX), Lift K B H al L ∧ RepS K B al env σ ∧ Mv Z B H al ∧ t env L Q0 X0 ∧
  (∀ B' H' al' L' b, Nx K Z B al B' H' al' L' → Q0 b L' → Q b H') ∧ (∀ B' H' al' L' C fs dd, Nx K Z B al B' H' al' L' → XRep K Z B' H' al' fs dd → X0 C fs L' → W (.ref C) dd σ H')
def lA (K : PySem.W.Frag) (Z : Ent) (W : WX) (t : TDA) : TA := fun σ H Q => ∃ (B : Hp) (al : List Addr) (L : LH) (env : DEnv) (Q0 : List D → LH → Prop) (X0 : DX), Lift K B H al L ∧ RepS K B al env σ ∧ Mv Z B H al ∧ t env L Q0 X0 ∧
  (∀ B' H' al' L' ds vs, Nx K Z B al B' H' al' L' → RepA K B' al' ds vs → Q0 ds L' → Q vs H') ∧ (∀ B' H' al' L' C fs dd, Nx K Z B al B' H' al' L' → XRep K Z B' H' al' fs dd → X0 C fs L' → W (.ref C) dd σ H')
structure DLf (K : PySem.W.Frag) (Z : Ent) (W : WX) (B : Hp) (al : List Addr) (DD : DEnds) (D : Ends) : Prop where
  nx : ∀ B' H' al' L env σ, Nx K Z B al B' H' al' L → RepS K B' al' env σ → DD.nx env L → D.nx σ H'
  rt : ∀ B' H' al' L d v, Nx K Z B al B' H' al' L → Rep K B' al' d v → DD.rt d L → D.rt v H'
  bk : ∀ B' H' al' L env σ, Nx K Z B al B' H' al' L → RepS K B' al' env σ → DD.bk env L → D.bk σ H'
  ct : ∀ B' H' al' L env σ, Nx K Z B al B' H' al' L → RepS K B' al' env σ → DD.ct env L → D.ct σ H'
  ex : ∀ B' H' al' L env σ C fs dd, Nx K Z B al B' H' al' L → RepS K B' al' env σ → XRep K Z B' H' al' fs dd → DD.ex C fs env L → W (.ref C) dd σ H'
theorem DLf.later {K : PySem.W.Frag} {Z : Ent} {W : WX} {B B1 H1 : Hp} {al a1 : List Addr} {L1 : LH} {DD : DEnds} {D : Ends} (f : DLf K Z W B al DD D) (n : Nx K Z B al B1 H1 a1 L1) : DLf K Z W B1 a1 DD D :=
  ⟨fun _ _ _ _ _ _ n' => f.nx _ _ _ _ _ _ (n.trans n'), fun _ _ _ _ _ _ n' => f.rt _ _ _ _ _ _ (n.trans n'), fun _ _ _ _ _ _ n' => f.bk _ _ _ _ _ _ (n.trans n'), fun _ _ _ _ _ _ n' => f.ct _ _ _ _ _ _ (n.trans n'), fun _ _ _ _ _ _ _ _ _ n' => f.ex _ _ _ _ _ _ _ _ _ (n.trans n')⟩
def lS (K : PySem.W.Frag) (Z : Ent) (W : WX) (t : TDS) : TS := fun D σ H => ∃ (B : Hp) (al : List Addr) (L : LH) (env : DEnv) (DD : DEnds), Lift K B H al L ∧ RepS K B al env σ ∧ Mv Z B H al ∧ t DD env L ∧ DLf K Z W B al DD D

abbrev DE (X : Cx) (Z : Ent) (W : WX) (e : Expr) (t : TD) : Prop := PE X e (lE X.K Z W t)
abbrev DT (X : Cx) (Z : Ent) (W : WX) (e : Expr) (t : TDT) : Prop := PT X e (lT X.K Z W t)
abbrev DW (X : Cx) (Z : Ent) (W : WX) (e : Expr) (t : TDT) : Prop := PW X e (lT X.K Z W t)
abbrev DA (X : Cx) (Z : Ent) (W : WX) (es : List Expr) (t : TDA) : Prop := PA X es (lA X.K Z W t)
abbrev DS (X : Cx) (Z : Ent) (W : WX) (s : Stmt) (t : TDS) : Prop := PS X s (lS X.K Z W t)
abbrev DSs (X : Cx) (Z : Ent) (W : WX) (s : List Stmt) (t : TDS) : Prop := PSs X s (lS X.K Z W t)

theorem _root_.L2.PE.imp {X : Cx} {e : Expr} {t t' : TE} (h : PE X e t) (f : ∀ σ H Q, t' σ H Q → t σ H Q) : PE X e t' := ⟨fun pins s σ H Q I q => h.run pins s σ H Q I (f σ H Q q)⟩
theorem _root_.L2.PT.imp {X : Cx} {e : Expr} {t t' : TT} (h : PT X e t) (f : ∀ σ H Q, t' σ H Q → t σ H Q) : PT X e t' := ⟨fun pins s σ H Q I q => h.run pins s σ H Q I (f σ H Q q)⟩
theorem _root_.L2.PW.imp {X : Cx} {e : Expr} {t t' : TT} (h : PW X e t) (f : ∀ σ H Q, t' σ H Q → t σ H Q) : PW X e t' := ⟨fun w pins s σ H Q I q => h.run w pins s σ H Q I (f σ H Q q)⟩
theorem _root_.L2.PA.imp {X : Cx} {es : List Expr} {t t' : TA} (h : PA X es t) (f : ∀ σ H Q, t' σ H Q → t σ H Q) : PA X es t' := ⟨fun pos pins s σ H Q I q => h.run pos pins s σ H Q I (f σ H Q q)⟩
theorem _root_.L2.PS.imp {X : Cx} {e : Stmt} {t t' : TS} (h : PS X e t) (f : ∀ D σ H, t' D σ H → t D σ H) : PS X e t' := ⟨fun pins s σ H D I q => h.run pins s σ H D I (f D σ H q)⟩
theorem _root_.L2.PSs.imp {X : Cx} {e : List Stmt} {t t' : TS} (h : PSs X e t) (f : ∀ D σ H, t' D σ H → t D σ H) : PSs X e t' := ⟨fun pins s σ H D I q => h.run pins s σ H D I (f D σ H q)⟩

section
variable {X : Cx} {Z : Ent} {W : WX} {a b c e : Expr} {ta tb tc te : TD} {pos : Pos}

/-! ### names, constants -/
def dVar (i : Nat) : TD := fun env L Q _ => ∃ d, env[i]? = some (some d) ∧ Q d L
def dC (d : D) : TD := fun _ L Q _ => Q d L
theorem de_v (i : Nat) {x : Str} (h : PE X (.Name x pos) (tVar i)) : DE X Z W (.Name x pos) (dVar i) := h.imp fun σ H Q ⟨B, al, L, env, Q0, X0, l, s, m, ⟨d, hd, q⟩, hQ, _⟩ => by
  obtain ⟨v, h1, h2⟩ := s.at_ i d hd
  exact ⟨v, h1, hQ _ _ _ _ _ _ (.refl l m) h2 q⟩
theorem de_c {v : V} {d : D} (h : PE X e (tC v)) (r : ∀ B al, Rep X.K B al d v) : DE X Z W e (dC d) := h.imp fun σ H Q ⟨B, al, L, env, Q0, X0, l, s, m, q, hQ, _⟩ => hQ _ _ _ _ _ _ (.refl l m) (r _ _) q
theorem de_int {i : Int} {j} : DE X Z W (.Constant (.int i) j pos) (dC (.int i)) := de_c pe_int fun _ _ => .int i
theorem de_str {i : Str} {j} : DE X Z W (.Constant (.str i) j pos) (dC (.str i)) := de_c pe_str fun _ _ => .str i
theorem de_bl {i : Bool} {j} : DE X Z W (.Constant (.bool i) j pos) (dC (.bl i)) := de_c pe_bl fun _ _ => .bl i
theorem de_non {j} : DE X Z W (.Constant .none j pos) (dC .non) := de_c pe_non fun _ _ => .non

/-! ### one thing behind another -/
theorem lE_then {K : PySem.W.Frag} {t : TD} {σ : L2.St} {B H : Hp} {al : List Addr} {L : LH} {env : DEnv} {Q : VK} {Q0 : DK} {X0 : DX} (l : Lift K B H al L) (s : RepS K B al env σ) (m : Mv Z B H al) (h : t env L Q0 X0)
    (hX : ∀ B' H' al' L' C fs dd, Nx K Z B al B' H' al' L' → XRep K Z B' H' al' fs dd → X0 C fs L' → W (.ref C) dd σ H')
    (hQ : ∀ B' H' al' L' d v, Nx K Z B al B' H' al' L' → RepS K B' al' env σ → Rep K B' al' d v → Q0 d L' → Q v H') : lE K Z W t σ H Q :=
  ⟨B, al, L, env, Q0, X0, l, s, m, h, fun B' H' al' L' d v n r q => hQ B' H' al' L' d v n (s.mono n.s n.p) r q, hX⟩
theorem lT_then {K : PySem.W.Frag} {t : TDT} {σ : L2.St} {B H : Hp} {al : List Addr} {L : LH} {env : DEnv} {Q : Bool → Hp → Prop} {Q0 : Bool → LH → Prop} {X0 : DX} (l : Lift K B H al L) (s : RepS K B al env σ) (m : Mv Z B H al) (h : t env L Q0 X0)
    (hX : ∀ B' H' al' L' C fs dd, Nx K Z B al B' H' al' L' → XRep K Z B' H' al' fs dd → X0 C fs L' → W (.ref C) dd σ H')
    (hQ : ∀ B' H' al' L' b, Nx K Z B al B' H' al' L' → RepS K B' al' env σ → Q0 b L' → Q b H') : lT K Z W t σ H Q :=
  ⟨B, al, L, env, Q0, X0, l, s, m, h, fun B' H' al' L' d n q => hQ B' H' al' L' d n (s.mono n.s n.p) q, hX⟩
theorem lA_then {K : PySem.W.Frag} {t : TDA} {σ : L2.St} {B H : Hp} {al : List Addr} {L : LH} {env : DEnv} {Q : List V → Hp → Prop} {Q0 : List D → LH → Prop} {X0 : DX} (l : Lift K B H al L) (s : RepS K B al env σ) (m : Mv Z B H al) (h : t env L Q0 X0)
    (hX : ∀ B' H' al' L' C fs dd, Nx K Z B al B' H' al' L' → XRep K Z B' H' al' fs dd → X0 C fs L' → W (.ref C) dd σ H')
    (hQ : ∀ B' H' al' L' ds vs, Nx K Z B al B' H' al' L' → RepS K B' al' env σ → RepA K B' al' ds vs → Q0 ds L' → Q vs H') : lA K Z W t σ H Q :=
  ⟨B, al, L, env, Q0, X0, l, s, m, h, fun B' H' al' L' d v n r q => hQ B' H' al' L' d v n (s.mono n.s n.p) r q, hX⟩
abbrev HX (K : PySem.W.Frag) (Z : Ent) (W : WX) (B : Hp) (al : List Addr) (σ : L2.St) (X0 : DX) : Prop := ∀ B' H' al' L' C fs dd, Nx K Z B al B' H' al' L' → XRep K Z B' H' al' fs dd → X0 C fs L' → W (.ref C) dd σ H'
theorem HX.nx {K : PySem.W.Frag} {B B' H' : Hp} {al al' : List Addr} {L' : LH} {σ : L2.St} {X0 : DX} (h : HX K Z W B al σ X0) (n : Nx K Z B al B' H' al' L') : HX K Z W B' al' σ X0 := fun B2 H2 a2 L2 C fs dd n2 => h B2 H2 a2 L2 C fs dd (n.trans n2)

/-! ### operators on two values -/
abbrev G1 := D → LH → DK → Prop
abbrev G2 := D → D → LH → DK → Prop
abbrev GN := List D → LH → DK → Prop
def DOp2 (K : PySem.W.Frag) (r : R2) (g : G2) : Prop := ∀ (Z : Ent) (B H : Hp) (al : List Addr) (L : LH) (x y : D) (v u : V) (Q : VK) (Q0 : DK), Lift K B H al L → Mv Z B H al → Rep K B al x v → Rep K B al y u → g x y L Q0 →
  (∀ B' H' al' L' d w, Nx K Z B al B' H' al' L' → Rep K B' al' d w → Q0 d L' → Q w H') → r v u H Q
def DOp1 (K : PySem.W.Frag) (r : V → Hp → VK → Prop) (g : G1) : Prop := ∀ (Z : Ent) (B H : Hp) (al : List Addr) (L : LH) (x : D) (v : V) (Q : VK) (Q0 : DK), Lift K B H al L → Mv Z B H al → Rep K B al x v → g x L Q0 →
  (∀ B' H' al' L' d w, Nx K Z B al B' H' al' L' → Rep K B' al' d w → Q0 d L' → Q w H') → r v H Q
def DOpN (K : PySem.W.Frag) (r : List V → Hp → VK → Prop) (g : GN) : Prop := ∀ (Z : Ent) (B H : Hp) (al : List Addr) (L : LH) (xs : List D) (vs : List V) (Q : VK) (Q0 : DK), Lift K B H al L → Mv Z B H al → RepA K B al xs vs → g xs L Q0 →
  (∀ B' H' al' L' d w, Nx K Z B al B' H' al' L' → Rep K B' al' d w → Q0 d L' → Q w H') → r vs H Q
def dOp (g : G2) (ta tb : TD) : TD := fun env L Q X => ta env L (fun x L1 => tb env L1 (fun y L2 => g x y L2 Q) X) X
def dUn (g : G1) (ta : TD) : TD := fun env L Q X => ta env L (fun x L1 => g x L1 Q) X
theorem lE_op2 {K : PySem.W.Frag} {r : R2} {g : G2} (hg : DOp2 K r g) {σ : L2.St} {H : Hp} {Q : VK} (h : lE K Z W (dOp g ta tb) σ H Q) : tOp r (lE K Z W ta) (lE K Z W tb) σ H Q := by
  obtain ⟨B, al, L, env, Q0, X0, l, s, m, h, hQ, hX⟩ := h
  refine lE_then l s m h hX fun B1 H1 a1 L1 x v n1 s1 r1 h1 => ?_
  refine lE_then n1.l s1 n1.m h1 (HX.nx hX n1) fun B2 H2 a2 L2 y u n2 s2 r2 h2 => ?_
  exact hg Z B2 H2 a2 L2 x y v u Q Q0 n2.l n2.m (r1.mono n2.s n2.p) r2 h2 fun B3 H3 a3 L3 d w n3 r3 q => hQ _ _ _ _ _ _ ((n1.trans n2).trans n3) r3 q
theorem de_op {op : Operator} {r : R2} {g : G2} (ho : OpR X (binaryOp op) r) (hg : DOp2 X.K r g) (ha : DE X Z W a ta) (hb : DE X Z W b tb) : DE X Z W (.BinOp a op b pos) (dOp g ta tb) :=
  (pe_op ho ha hb).imp fun _ _ _ => lE_op2 hg
theorem de_cmp {op : CmpOp} {r : R2} {g : G2} (ho : OpR X (compareOp op) r) (hg : DOp2 X.K r g) (ha : DE X Z W a ta) (hb : DE X Z W b tb) (hm : behindInMarks op b = false) : DE X Z W (.Compare a [op] [b] pos) (dOp g ta tb) :=
  (pe_cmpR ho ha hb hm).imp fun _ _ _ => lE_op2 hg
theorem de_un {op : UnaryOp} {r : V → Hp → VK → Prop} {g : G1} (ho : UnR X (unaryOp op) r) (hg : DOp1 X.K r g) (ha : DE X Z W a ta) : DE X Z W (.UnaryOp op a pos) (dUn g ta) :=
  (pe_un ho ha).imp fun σ H Q ⟨B, al, L, env, Q0, X0, l, s, m, h, hQ, hX⟩ => by
    refine lE_then l s m h hX fun B1 H1 a1 L1 x v n1 s1 r1 h1 => ?_
    exact hg Z B1 H1 a1 L1 x v Q Q0 n1.l n1.m r1 h1 fun B3 H3 a3 L3 d w n3 r3 q => hQ _ _ _ _ _ _ (n1.trans n3) r3 q

/-! ### tests -/
def dB (t : TD) : TDT := fun env L Q X => t env L (fun d L1 => ∃ b, d = .bl b ∧ Q b L1) X
def dAnd (t u : TDT) : TDT := fun env L Q X => t env L (fun c L1 => if c = true then u env L1 Q X else Q false L1) X
def dOr (t u : TDT) : TDT := fun env L Q X => t env L (fun c L1 => if c = true then Q true L1 else u env L1 Q X) X
def dNot (t : TDT) : TDT := fun env L Q X => t env L (fun c L1 => Q (!c) L1) X
theorem rep_bl {K : PySem.W.Frag} {B : Hp} {al : List Addr} {b : Bool} {v : V} (r : Rep K B al (.bl b) v) : v = .bl b := by cases r; rfl
theorem rep_int {K : PySem.W.Frag} {B : Hp} {al : List Addr} {b : Int} {v : V} (r : Rep K B al (.int b) v) : v = .int b := by cases r; rfl
theorem rep_str {K : PySem.W.Frag} {B : Hp} {al : List Addr} {b : Str} {v : V} (r : Rep K B al (.str b) v) : v = .str b := by cases r; rfl
theorem rep_non {K : PySem.W.Frag} {B : Hp} {al : List Addr} {v : V} (r : Rep K B al .non v) : v = .non := by cases r; rfl
theorem dt_val (h : DE X Z W e te) (hx : ∀ whole, isTrue e X.env whole = (do let v ← whole; standAt e.pos; holding [v] (truthy v)) := by intro _; rfl) : DT X Z W e (dB te) :=
  (pt_truth h hx).imp fun σ H Q ⟨B, al, L, env, Q0, X0, l, s, m, h, hQ, hX⟩ => by
    refine lE_then l s m h hX fun B1 H1 a1 L1 x v n1 s1 r1 ⟨b, eb, q⟩ => ?_
    subst eb
    cases r1
    exact ⟨b, rfl, hQ _ _ _ _ _ n1 q⟩
theorem dt_cmp {op : CmpOp} {r : R2} {g : G2} (ho : OpR X (compareOp op) r) (hg : DOp2 X.K r g) (ha : DE X Z W a ta) (hb : DE X Z W b tb) (hm : behindInMarks op b = false) : DT X Z W (.Compare a [op] [b] pos) (dB (dOp g ta tb)) :=
  (pt_cmpR ho ha hb hm).imp fun σ H Q ⟨B, al, L, env, Q0, X0, l, s, m, h, hQ, hX⟩ => by
    refine lE_op2 hg ⟨B, al, L, env, _, X0, l, s, m, h, fun B' H' al' L' d v n r ⟨b, e, q⟩ => ?_, hX⟩
    subst e
    cases r
    exact ⟨b, rfl, hQ _ _ _ _ _ n q⟩
end
end DL
set_option Elab.async false
set_option linter.all false
set_option maxRecDepth 100000
set_option maxHeartbeats 2000000
namespace DL
open PySem PySem.Spec PyProof.Rows L2

theorem line_of {n : Nat} (h : n ≤ 16777216) : n ≤ sizeLine := by rw [sizeLine_eq]; exact h
theorem line_lt {n : Nat} (h : n < 16777216) : n < sizeLine := by rw [sizeLine_eq]; exact h
theorem OpR.or' {X : Cx} {f : Value → Value → Sem Value} {r r' : R2} (h : OpR X f r) (h' : OpR X f r') : OpR X f (fun x y H Q => r x y H Q ∨ r' x y H Q) := fun pins s σ H x y v u Q I rx ry q => by
  rcases q with q | q
  · exact h pins s σ H x y v u Q I rx ry q
  · exact h' pins s σ H x y v u Q I rx ry q
theorem CallR.or' {X : Cx} {f : Value} {r r' : List V → Hp → VK → Prop} (h : CallR X f r) (h' : CallR X f r') : CallR X f (fun x H Q => r x H Q ∨ r' x H Q) := fun pins s σ H xs us Q I rx q => by
  rcases q with q | q
  · exact h pins s σ H xs us Q I rx q
  · exact h' pins s σ H xs us Q I rx q

/-! ### lists and tuples as values -/
/-- a list's items, whoever has it -/
def lst? (L : LH) : D → Option (List D)
  | .lst ds => some ds
  | .sq ds => some ds
  | .own k => match L[k]? with
    | some (.lst ds) => some ds
    | _ => none
  | _ => none
/-- .. of a list that is no script -/
def lstO? (L : LH) : D → Option (List D)
  | .lst ds => some ds
  | .own k => match L[k]? with
    | some (.lst ds) => some ds
    | _ => none
  | _ => none
theorem lst_rep {K : PySem.W.Frag} {B H : Hp} {al : List Addr} {L : LH} (l : Lift K B H al L) {d : D} {v : V} {ds : List D} (r : Rep K B al d v) (h : lst? L d = some ds) : ∃ a vs, v = .ref a ∧ SqL K H a vs ∧ RepA K B al ds vs := by
  cases d with
  | lst xs =>
    cases h
    cases r with
    | lst hb ra => exact ⟨_, _, rfl, SqL.of (l.ex _ _ hb), ra⟩
  | sq xs =>
    cases h
    cases r with
    | sq hb ra => exact ⟨_, _, rfl, same_l l.ex hb, ra⟩
  | own k =>
    unfold lst? at h
    dsimp only at h
    cases r with
    | own ha =>
      cases e : L[k]? with
      | none => rw [e] at h; cases h
      | some od =>
        rw [e] at h
        cases od with
        | lst xs =>
          cases h
          obtain ⟨_, o, ho, ro⟩ := l.ob k _ _ ha e (fun z => nomatch z)
          cases ro with
          | lst ra => exact ⟨_, _, rfl, SqL.of ho, ra⟩
        | _ => cases h
  | _ => cases h
theorem lstO_rep {K : PySem.W.Frag} {B H : Hp} {al : List Addr} {L : LH} (l : Lift K B H al L) {d : D} {v : V} {ds : List D} (r : Rep K B al d v) (h : lstO? L d = some ds) : ∃ a vs, v = .ref a ∧ H a = some (.lst vs) ∧ RepA K B al ds vs := by
  cases d with
  | lst xs =>
    cases h
    cases r with
    | lst hb ra => exact ⟨_, _, rfl, l.ex _ _ hb, ra⟩
  | own k =>
    unfold lstO? at h
    dsimp only at h
    cases r with
    | own ha =>
      cases e : L[k]? with
      | none => rw [e] at h; cases h
      | some od =>
        rw [e] at h
        cases od with
        | lst xs =>
          cases h
          obtain ⟨_, o, ho, ro⟩ := l.ob k _ _ ha e (fun z => nomatch z)
          cases ro with
          | lst ra => exact ⟨_, _, rfl, ho, ra⟩
        | _ => cases h
  | _ => cases h
theorem tup_rep {K : PySem.W.Frag} {B H : Hp} {al : List Addr} {L : LH} (l : Lift K B H al L) {ds : List D} {v : V} (r : Rep K B al (.tup ds) v) : ∃ a vs, v = .ref a ∧ SqT K H a vs ∧ RepA K B al ds vs := by
  cases r with
  | tup h ra => exact ⟨_, _, rfl, same_t l.ex h, ra⟩
/-- a new list, tuple of the frozen sort -/
theorem new_lst {K : PySem.W.Frag} {Z : Ent} {B H : Hp} {al : List Addr} {L : LH} (l : Lift K B H al L) (m : Mv Z B H al) {p : Addr} {ds : List D} {vs : List V} (n : H p = none) (r : RepA K B al ds vs) :
    Nx K Z B al (upd B p (.lst vs)) (upd H p (.lst vs)) al L ∧ Rep K (upd B p (.lst vs)) al (.lst ds) (.ref p) :=
  ⟨.stp l m (Stp.new l.ex n), .lst upd_same (r.mono (Stp.new (al := al) (o := .lst vs) l.ex n).bb (List.prefix_refl _))⟩
theorem new_tup {K : PySem.W.Frag} {Z : Ent} {B H : Hp} {al : List Addr} {L : LH} (l : Lift K B H al L) (m : Mv Z B H al) {p : Addr} {ds : List D} {vs : List V} (n : H p = none) (r : RepA K B al ds vs) :
    Nx K Z B al (upd B p (.tup vs)) (upd H p (.tup vs)) al L ∧ Rep K (upd B p (.tup vs)) al (.tup ds) (.ref p) :=
  ⟨.stp l m (Stp.new l.ex n), .tup (SqT.of upd_same) (r.mono (Stp.new (al := al) (o := .tup vs) l.ex n).bb (List.prefix_refl _))⟩
theorem new_own {K : PySem.W.Frag} {Z : Ent} {B H : Hp} {al : List Addr} {L : LH} (l : Lift K B H al L) (m : Mv Z B H al) {p : Addr} {od : OD} {o : HO} (n : H p = none) (r : ORep K B al od o) :
    Nx K Z B al B (upd H p o) (al ++ [p]) (L ++ [od]) ∧ Rep K B (al ++ [p]) (.own L.length) (.ref p) :=
  ⟨⟨l.newO n r, m.newO n, fun _ _ h => h, List.prefix_append _ _⟩, .own (by rw [← l.len, List.getElem?_append_right (Nat.le_refl _), Nat.sub_self]; rfl)⟩

section
variable {X : Cx} {Z : Ent} {W : WX} {K : PySem.W.Frag}

/-! ### arithmetic -/
def gI2 (C : Int → Int → Prop) (f : Int → Int → D) : G2 := fun x y L Q => match x, y with
  | .int i, .int j => C i j ∧ Q (f i j) L
  | _, _ => False
theorem dop_I {C : Int → Int → Prop} {f : Int → Int → Int} : DOp2 K (rI C fun i j => .int (f i j)) (gI2 C fun i j => .int (f i j)) := by
  intro Z B H al L x y v u Q Q0 l m rx ry h hQ
  cases x with
  | int i =>
    cases y with
    | int j =>
      obtain rfl := rep_int rx
      obtain rfl := rep_int ry
      exact ⟨i, j, rfl, rfl, h.1, hQ _ _ _ _ _ _ (.refl l m) (.int _) h.2⟩
    | _ => exact h.elim
  | _ => exact h.elim
theorem dop_I0 {f : Int → Int → Int} : DOp2 K (rI0 fun i j => .int (f i j)) (gI2 (fun _ _ => True) fun i j => .int (f i j)) := by
  intro Z B H al L x y v u Q Q0 l m rx ry h hQ
  cases x with
  | int i =>
    cases y with
    | int j =>
      obtain rfl := rep_int rx
      obtain rfl := rep_int ry
      exact ⟨i, j, rfl, rfl, hQ _ _ _ _ _ _ (.refl l m) (.int _) h.2⟩
    | _ => exact h.elim
  | _ => exact h.elim
theorem dop_B0 {f : Int → Int → Bool} : DOp2 K (rI0 fun i j => .bl (f i j)) (gI2 (fun _ _ => True) fun i j => .bl (f i j)) := by
  intro Z B H al L x y v u Q Q0 l m rx ry h hQ
  cases x with
  | int i =>
    cases y with
    | int j =>
      obtain rfl := rep_int rx
      obtain rfl := rep_int ry
      exact ⟨i, j, rfl, rfl, hQ _ _ _ _ _ _ (.refl l m) (.bl _) h.2⟩
    | _ => exact h.elim
  | _ => exact h.elim
abbrev gSub : G2 := gI2 (fun _ _ => True) fun i j => .int (i - j)
abbrev gMod : G2 := gI2 (fun _ j => 0 < j) fun i j => .int (i % j)
abbrev gDiv : G2 := gI2 (fun i j => (0 < j ∧ j < 1073741824)) fun i j => .int (i / j)
abbrev gPow : G2 := gI2 CPow fun i j => .int (i ^ j.toNat)
abbrev gLt : G2 := gI2 (fun _ _ => True) fun i j => .bl (decide (i < j))
abbrev gLe : G2 := gI2 (fun _ _ => True) fun i j => .bl (decide (i ≤ j))
abbrev gGt : G2 := gI2 (fun _ _ => True) fun i j => .bl (decide (j < i))
abbrev gGe : G2 := gI2 (fun _ _ => True) fun i j => .bl (decide (j ≤ i))
variable {a b c e : Expr} {ta tb tc te : TD} {pos : Pos}
theorem de_sub (ha : DE X Z W a ta) (hb : DE X Z W b tb) : DE X Z W (.BinOp a .Sub b pos) (dOp gSub ta tb) := de_op op_sub dop_I0 ha hb
theorem de_mod (ha : DE X Z W a ta) (hb : DE X Z W b tb) : DE X Z W (.BinOp a .Mod b pos) (dOp gMod ta tb) := de_op op_mod dop_I ha hb
theorem de_div (ha : DE X Z W a ta) (hb : DE X Z W b tb) : DE X Z W (.BinOp a .FloorDiv b pos) (dOp gDiv ta tb) := de_op op_fdiv dop_I ha hb
theorem de_pow (ha : DE X Z W a ta) (hb : DE X Z W b tb) : DE X Z W (.BinOp a .Pow b pos) (dOp gPow ta tb) := de_op op_pow dop_I ha hb
theorem de_lt (ha : DE X Z W a ta) (hb : DE X Z W b tb) : DE X Z W (.Compare a [.Lt] [b] pos) (dOp gLt ta tb) := de_cmp op_lt dop_B0 ha hb (nomark _)
theorem de_le (ha : DE X Z W a ta) (hb : DE X Z W b tb) : DE X Z W (.Compare a [.LtE] [b] pos) (dOp gLe ta tb) := de_cmp op_le dop_B0 ha hb (nomark _)
theorem de_gt (ha : DE X Z W a ta) (hb : DE X Z W b tb) : DE X Z W (.Compare a [.Gt] [b] pos) (dOp gGt ta tb) := de_cmp op_gt dop_B0 ha hb (nomark _)
theorem de_ge (ha : DE X Z W a ta) (hb : DE X Z W b tb) : DE X Z W (.Compare a [.GtE] [b] pos) (dOp gGe ta tb) := de_cmp op_ge dop_B0 ha hb (nomark _)
theorem dt_lt (ha : DE X Z W a ta) (hb : DE X Z W b tb) : DT X Z W (.Compare a [.Lt] [b] pos) (dB (dOp gLt ta tb)) := dt_cmp op_lt dop_B0 ha hb (nomark _)
theorem dt_le (ha : DE X Z W a ta) (hb : DE X Z W b tb) : DT X Z W (.Compare a [.LtE] [b] pos) (dB (dOp gLe ta tb)) := dt_cmp op_le dop_B0 ha hb (nomark _)
theorem dt_gt (ha : DE X Z W a ta) (hb : DE X Z W b tb) : DT X Z W (.Compare a [.Gt] [b] pos) (dB (dOp gGt ta tb)) := dt_cmp op_gt dop_B0 ha hb (nomark _)
theorem dt_ge (ha : DE X Z W a ta) (hb : DE X Z W b tb) : DT X Z W (.Compare a [.GtE] [b] pos) (dB (dOp gGe ta tb)) := dt_cmp op_ge dop_B0 ha hb (nomark _)
def gNeg : G1 := fun x L Q => match x with
  | .int i => Q (.int (-i)) L
  | _ => False
theorem dop_neg : DOp1 K (rU fun i => .int (-i)) gNeg := by
  intro Z B H al L x v Q Q0 l m rx h hQ
  cases x with
  | int i =>
    obtain rfl := rep_int rx
    exact ⟨i, rfl, hQ _ _ _ _ _ _ (.refl l m) (.int _) h⟩
  | _ => exact h.elim
theorem de_neg (ha : DE X Z W a ta) : DE X Z W (.UnaryOp .USub a pos) (dUn gNeg ta) := de_un un_neg dop_neg ha

/-- x + y -/
def gAdd : G2 := fun x y L Q => match x, y with
  | .int i, .int j => Q (.int (i + j)) L
  | .str s, .str t => s.length + t.length ≤ 16777216 ∧ Q (.str (s ++ t)) L
  | .tup xs, .tup ys => xs ≠ [] ∧ ys ≠ [] ∧ xs.length + ys.length ≤ 16777216 ∧ Q (.tup (xs ++ ys)) L
  | x, y => ∃ xs ys, lstO? L x = some xs ∧ lstO? L y = some ys ∧ xs.length + ys.length ≤ 16777216 ∧ Q (.lst (xs ++ ys)) L
def rAddA (K : PySem.W.Frag) : R2 := fun x y H Q => (rI0 (fun i j => .int (i + j)) x y H Q ∨ (∃ i j, x = .str i ∧ y = .str j ∧ i.length + j.length ≤ sizeLine ∧ Q (.str (i ++ j)) H)) ∨ (rCatT K x y H Q ∨ rCat x y H Q)
theorem op_addA : OpR X (binaryOp .Add) (rAddA X.K) := OpR.or' (OpR.or' op_add op_add_str) (OpR.or' op_catT op_cat)
theorem dop_add : DOp2 K (rAddA K) gAdd := by
  intro Z B H al L x y v u Q Q0 l m rx ry h hQ
  have cat : (∃ xs ys, lstO? L x = some xs ∧ lstO? L y = some ys ∧ xs.length + ys.length ≤ 16777216 ∧ Q0 (.lst (xs ++ ys)) L) → rAddA K v u H Q := by
    rintro ⟨xs, ys, hx, hy, hz, q⟩
    obtain ⟨p, vs, rfl, hp, r1⟩ := lstO_rep l rx hx
    obtain ⟨b, ws, rfl, hb, r2⟩ := lstO_rep l ry hy
    refine .inr (.inr ⟨p, b, vs, ws, rfl, rfl, hp, hb, by rw [← r1.length, ← r2.length]; exact line_of hz, fun z n => ?_⟩)
    obtain ⟨n1, r3⟩ := new_lst l m n (r1.append r2)
    exact hQ _ _ _ _ _ _ n1 r3 q
  cases x with
  | int i =>
    cases y with
    | int j =>
      obtain rfl := rep_int rx
      obtain rfl := rep_int ry
      exact .inl (.inl ⟨i, j, rfl, rfl, hQ _ _ _ _ _ _ (.refl l m) (.int _) h⟩)
    | _ => exact cat h
  | str i =>
    cases y with
    | str j =>
      obtain rfl := rep_str rx
      obtain rfl := rep_str ry
      exact .inl (.inr ⟨i, j, rfl, rfl, line_of h.1, hQ _ _ _ _ _ _ (.refl l m) (.str _) h.2⟩)
    | _ => exact cat h
  | tup xs =>
    cases y with
    | tup ys =>
      obtain ⟨h1, h2, h3, q⟩ := h
      obtain ⟨p, vs, rfl, hp, r1⟩ := tup_rep l rx
      obtain ⟨b, ws, rfl, hb, r2⟩ := tup_rep l ry
      refine .inr (.inl ⟨p, b, vs, ws, rfl, rfl, hp, hb, fun z => ?_, by rw [← r1.length, ← r2.length]; exact line_of h3, fun z => ?_, fun _ z n => ?_⟩)
      · subst z; cases r1; exact h1 rfl
      · subst z; cases r2; exact absurd rfl h2
      · obtain ⟨n1, r3⟩ := new_tup l m n (r1.append r2)
        exact hQ _ _ _ _ _ _ n1 r3 q
    | _ => exact cat h
  | _ => exact cat h
theorem de_add (ha : DE X Z W a ta) (hb : DE X Z W b tb) : DE X Z W (.BinOp a .Add b pos) (dOp gAdd ta tb) := de_op op_addA dop_add ha hb
/-- x * y -/
def gMul : G2 := fun x y L Q => match x, y with
  | .int i, .int j => CMul i j ∧ Q (.int (i * j)) L
  | .str s, .int k => (0 ≤ k ∧ k < 1000000) ∧ s.length * k.toNat ≤ 1000000 ∧ Q (.str (Txt.mul s k)) L
  | x, .int k => ∃ xs, lstO? L x = some xs ∧ (0 ≤ k ∧ k < 2 ^ 62) ∧ xs.length * k.toNat ≤ 16777216 ∧ Q (.lst ((List.replicate k.toNat xs).flatten)) L
  | _, _ => False
theorem tooLong_no {n : Nat} (h : n ≤ 1000000) : Builtin.Str.tooLong n = false := by
  unfold Builtin.Str.tooLong
  rw [sizeLine_eq]
  exact decide_eq_false (by omega)
theorem mulOk_of {x : Str} {n : Int} (h0 : 0 ≤ n) (h1 : n < 1000000) (hz : x.length * n.toNat ≤ 1000000) : MulOk x n := by
  refine ⟨?_, fun h2 _ h3 => ?_, fun _ _ => tooLong_no hz⟩
  · have e1 : decide (n < -(2 ^ 63 : Int)) = false := decide_eq_false (by omega)
    have e2 : decide (n ≥ 2 ^ 63) = false := decide_eq_false (by omega)
    rw [e1, e2]; rfl
  · have h4 : (x.length : Int) ≤ (2 ^ 63 - 1) / n := (Int.le_ediv_iff_mul_le (by omega)).mpr (by
      have : ((x.length * n.toNat : Nat) : Int) ≤ ((1000000 : Nat) : Int) := Int.ofNat_le.mpr hz
      rw [Int.natCast_mul, Int.toNat_of_nonneg h0] at this
      omega)
    omega
def rMulS : R2 := fun x y H Q => ∃ s k, x = .str s ∧ y = .int k ∧ MulOk s k ∧ Q (.str (Txt.mul s k)) H
theorem op_mulS : OpR X (binaryOp .Mult) rMulS := by
  intro pins s σ H x y v u Q I rx ry h
  obtain ⟨i, j, rfl, rfl, hz, q⟩ := h
  obtain ⟨t, rfl⟩ := rx
  obtain ⟨t', rfl⟩ := ry
  exact SB.mul hz (fun t' k => ⟨.str _, H, I.tok _, ⟨_, rfl⟩, q⟩)
def rMulA : R2 := fun x y H Q => rI CMul (fun i j => .int (i * j)) x y H Q ∨ (rMulS x y H Q ∨ rRep x y H Q)
theorem op_mulA : OpR X (binaryOp .Mult) rMulA := OpR.or' op_mul (OpR.or' op_mulS op_rep)
theorem repA_rep {B : Hp} {al : List Addr} {ds : List D} {vs : List V} (r : RepA K B al ds vs) : ∀ n : Nat, RepA K B al (List.replicate n ds).flatten (List.replicate n vs).flatten
  | 0 => .nil
  | n + 1 => by
    rw [List.replicate_succ, List.replicate_succ, List.flatten_cons, List.flatten_cons]
    exact r.append (repA_rep r n)
theorem dop_mul : DOp2 K rMulA gMul := by
  intro Z B H al L x y v u Q Q0 l m rx ry h hQ
  have rp : ∀ k, y = .int k → (∃ xs, lstO? L x = some xs ∧ (0 ≤ k ∧ k < 2 ^ 62) ∧ xs.length * k.toNat ≤ 16777216 ∧ Q0 (.lst ((List.replicate k.toNat xs).flatten)) L) → rMulA v u H Q := by
    rintro k rfl ⟨xs, hx, ⟨h0, h1⟩, hz, q⟩
    obtain rfl := rep_int ry
    obtain ⟨p, vs, rfl, hp, r1⟩ := lstO_rep l rx hx
    refine .inr (.inr ⟨p, k, vs, rfl, rfl, hp, by omega, by omega, by rw [← r1.length]; exact line_of hz, fun z n => ?_⟩)
    obtain ⟨n1, r3⟩ := new_lst l m n (repA_rep r1 k.toNat)
    exact hQ _ _ _ _ _ _ n1 r3 q
  cases x with
  | int i =>
    cases y with
    | int j =>
      obtain rfl := rep_int rx
      obtain rfl := rep_int ry
      exact .inl ⟨i, j, rfl, rfl, h.1, hQ _ _ _ _ _ _ (.refl l m) (.int _) h.2⟩
    | _ => exact h.elim
  | str i =>
    cases y with
    | int j =>
      obtain rfl := rep_str rx
      obtain rfl := rep_int ry
      exact .inr (.inl ⟨i, j, rfl, rfl, mulOk_of h.1.1 h.1.2 h.2.1, hQ _ _ _ _ _ _ (.refl l m) (.str _) h.2.2⟩)
    | _ => exact h.elim
  | _ =>
    cases y with
    | int j => exact rp j rfl h
    | _ => exact h.elim
theorem de_mul (ha : DE X Z W a ta) (hb : DE X Z W b tb) : DE X Z W (.BinOp a .Mult b pos) (dOp gMul ta tb) := de_op op_mulA dop_mul ha hb
end

/-! ### ==, != -/
mutual
def D.py : D → Option PyData
  | .non => some .none
  | .bl b => some (.bool b)
  | .int i => some (.int i)
  | .str s => some (.str s)
  | .tup ds => (D.pyA ds).map .tuple
  | .lst ds => (D.pyA ds).map .list
  | .sq ds => (D.pyA ds).map .list
  | .dct _ => none
  | .ins _ _ => none
  | .own _ => none
  | .val _ => none
  | .xcp _ _ _ _ => none
def D.pyA : List D → Option (List PyData)
  | [] => some []
  | d :: ds => match D.py d, D.pyA ds with
    | some x, some xs => some (x :: xs)
    | _, _ => none
end
def py? (L : LH) : D → Option PyData
  | .own k => match L[k]? with
    | some (.lst ds) => (D.pyA ds).map .list
    | _ => none
  | d => d.py
section
variable {K : PySem.W.Frag} {B H : Hp} {al : List Addr} {L : LH}
mutual
theorem py_dp (e : Same B H) : ∀ {d : D} {v : V} {p : PyData}, Rep K B al d v → d.py = some p → Dp K H v p
  | _, _, _, .non, h => by cases h; exact .non
  | _, _, _, .bl b, h => by cases h; exact .bl b
  | _, _, _, .int i, h => by cases h; exact .int i
  | _, _, _, .str s, h => by cases h; exact .str s
  | _, _, _, .tup hs r, h => by
    rw [D.py] at h
    cases q : D.pyA _ with
    | none => rw [q] at h; cases h
    | some ps => rw [q] at h; cases h; exact .tup (same_t e hs) (py_dpA e r q)
  | _, _, _, .lst hs r, h => by
    rw [D.py] at h
    cases q : D.pyA _ with
    | none => rw [q] at h; cases h
    | some ps => rw [q] at h; cases h; exact .lst (SqL.of (e _ _ hs)) (py_dpA e r q)
  | _, _, _, .sq hs r, h => by
    rw [D.py] at h
    cases q : D.pyA _ with
    | none => rw [q] at h; cases h
    | some ps => rw [q] at h; cases h; exact .lst (same_l e hs) (py_dpA e r q)
  | _, _, _, .dct _ _, h => by rw [D.py] at h; cases h
  | _, _, _, .ins _ _, h => by rw [D.py] at h; cases h
  | _, _, _, .own _, h => by rw [D.py] at h; cases h
  | _, _, _, .val _, h => by rw [D.py] at h; cases h
  | _, _, _, .xcp0, h => by rw [D.py] at h; cases h
  | _, _, _, .xcp1 _ _, h => by rw [D.py] at h; cases h
theorem py_dpA (e : Same B H) : ∀ {ds : List D} {vs : List V} {ps : List PyData}, RepA K B al ds vs → D.pyA ds = some ps → DpAll K H vs ps
  | _, _, _, .nil, h => by rw [D.pyA] at h; cases h; exact .nil
  | _, _, _, .cons (d := d) (ds := ds) h1 t, h => by
    rw [D.pyA] at h
    cases q1 : D.py d with
    | none => rw [q1] at h; cases h
    | some x =>
      cases q2 : D.pyA ds with
      | none => rw [q1, q2] at h; cases h
      | some xs => rw [q1, q2] at h; cases h; exact .cons (py_dp e h1 q1) (py_dpA e t q2)
end
theorem py_rep (l : Lift K B H al L) {d : D} {v : V} {p : PyData} (r : Rep K B al d v) (h : py? L d = some p) : Dp K H v p := by
  cases d with
  | own k =>
    unfold py? at h
    dsimp only at h
    cases r with
    | own ha =>
      cases e : L[k]? with
      | none => rw [e] at h; cases h
      | some od =>
        rw [e] at h
        cases od with
        | lst xs =>
          obtain ⟨_, o, ho, ro⟩ := l.ob k _ _ ha e (fun z => nomatch z)
          cases ro with
          | lst ra =>
            dsimp only at h
            cases q : D.pyA xs with
            | none => rw [q] at h; cases h
            | some ps => rw [q] at h; cases h; exact .lst (SqL.of ho) (py_dpA (fun _ _ z => z) (ra.mono l.ex (List.prefix_refl _)) q)
        | _ => cases h
  | _ => exact py_dp l.ex r h
end
def gEqB (neg : Bool) : G2 := fun x y L Q => match x, y with
  | .int i, .int j => Q (.bl (xor neg (decide (i = j)))) L
  | .str i, .str j => Q (.bl (xor neg (decide (i = j)))) L
  | .bl i, .bl j => Q (.bl (xor neg (decide (i = j)))) L
  | x, y => ∃ p q, py? L x = some p ∧ py? L y = some q ∧ SeqAt.shaped p = true ∧ SeqAt.shaped q = true ∧ Q (.bl (xor neg (PyData.eqv p q))) L
abbrev gEq : G2 := gEqB false
abbrev gNe : G2 := gEqB true
section
variable {X : Cx} {Z : Ent} {W : WX} {K : PySem.W.Frag} {a b c e : Expr} {ta tb tc te : TD} {pos : Pos}
theorem dop_eq : DOp2 K (fun x y H Q => rEq x y H Q ∨ rEqD K x y H Q) gEq := by
  intro Z B H al L x y v u Q Q0 l m rx ry h hQ
  have gen : (∃ p q, py? L x = some p ∧ py? L y = some q ∧ SeqAt.shaped p = true ∧ SeqAt.shaped q = true ∧ Q0 (.bl (xor false (PyData.eqv p q))) L) → rEq v u H Q ∨ rEqD K v u H Q := by
    rintro ⟨p, q, h1, h2, h3, h4, h5⟩
    rw [Bool.false_xor] at h5
    exact .inr ⟨p, q, py_rep l rx h1, py_rep l ry h2, h3, h4, hQ _ _ _ _ _ _ (.refl l m) (.bl _) h5⟩
  cases x with
  | int i =>
    cases y with
    | int j =>
      obtain rfl := rep_int rx
      obtain rfl := rep_int ry
      refine .inl ⟨rfl, ?_⟩
      rw [show decide (V.int i = V.int j) = xor false (decide (i = j)) by simp]
      exact hQ _ _ _ _ _ _ (.refl l m) (.bl _) h
    | _ => exact gen h
  | str i =>
    cases y with
    | str j =>
      obtain rfl := rep_str rx
      obtain rfl := rep_str ry
      refine .inl ⟨rfl, ?_⟩
      rw [show decide (V.str i = V.str j) = xor false (decide (i = j)) by simp]
      exact hQ _ _ _ _ _ _ (.refl l m) (.bl _) h
    | _ => exact gen h
  | bl i =>
    cases y with
    | bl j =>
      obtain rfl := rep_bl rx
      obtain rfl := rep_bl ry
      refine .inl ⟨rfl, ?_⟩
      rw [show decide (V.bl i = V.bl j) = xor false (decide (i = j)) by simp]
      exact hQ _ _ _ _ _ _ (.refl l m) (.bl _) h
    | _ => exact gen h
  | _ => exact gen h
theorem dop_ne : DOp2 K (fun x y H Q => rNe x y H Q ∨ rNeD K x y H Q) gNe := by
  intro Z B H al L x y v u Q Q0 l m rx ry h hQ
  have gen : (∃ p q, py? L x = some p ∧ py? L y = some q ∧ SeqAt.shaped p = true ∧ SeqAt.shaped q = true ∧ Q0 (.bl (xor true (PyData.eqv p q))) L) → rNe v u H Q ∨ rNeD K v u H Q := by
    rintro ⟨p, q, h1, h2, h3, h4, h5⟩
    rw [Bool.true_xor] at h5
    exact .inr ⟨p, q, py_rep l rx h1, py_rep l ry h2, h3, h4, hQ _ _ _ _ _ _ (.refl l m) (.bl _) h5⟩
  cases x with
  | int i =>
    cases y with
    | int j =>
      obtain rfl := rep_int rx
      obtain rfl := rep_int ry
      refine .inl ⟨rfl, ?_⟩
      rw [show (!decide (V.int i = V.int j)) = xor true (decide (i = j)) by simp]
      exact hQ _ _ _ _ _ _ (.refl l m) (.bl _) h
    | _ => exact gen h
  | str i =>
    cases y with
    | str j =>
      obtain rfl := rep_str rx
      obtain rfl := rep_str ry
      refine .inl ⟨rfl, ?_⟩
      rw [show (!decide (V.str i = V.str j)) = xor true (decide (i = j)) by simp]
      exact hQ _ _ _ _ _ _ (.refl l m) (.bl _) h
    | _ => exact gen h
  | bl i =>
    cases y with
    | bl j =>
      obtain rfl := rep_bl rx
      obtain rfl := rep_bl ry
      refine .inl ⟨rfl, ?_⟩
      rw [show (!decide (V.bl i = V.bl j)) = xor true (decide (i = j)) by simp]
      exact hQ _ _ _ _ _ _ (.refl l m) (.bl _) h
    | _ => exact gen h
  | _ => exact gen h
theorem op_eqA (hu : X.A.units + 64 < cLine) : OpR X (compareOp .Eq) (fun x y H Q => rEq x y H Q ∨ rEqD X.K x y H Q) := OpR.or' op_eq (op_eqD hu)
theorem op_neA (hu : X.A.units + 64 < cLine) : OpR X (compareOp .NotEq) (fun x y H Q => rNe x y H Q ∨ rNeD X.K x y H Q) := OpR.or' op_ne (op_neD hu)
theorem de_eq (hu : X.A.units + 64 < cLine) (ha : DE X Z W a ta) (hb : DE X Z W b tb) : DE X Z W (.Compare a [.Eq] [b] pos) (dOp gEq ta tb) := de_cmp (op_eqA hu) dop_eq ha hb (nomark _)
theorem de_ne (hu : X.A.units + 64 < cLine) (ha : DE X Z W a ta) (hb : DE X Z W b tb) : DE X Z W (.Compare a [.NotEq] [b] pos) (dOp gNe ta tb) := de_cmp (op_neA hu) dop_ne ha hb (nomark _)
theorem dt_eq (hu : X.A.units + 64 < cLine) (ha : DE X Z W a ta) (hb : DE X Z W b tb) : DT X Z W (.Compare a [.Eq] [b] pos) (dB (dOp gEq ta tb)) := dt_cmp (op_eqA hu) dop_eq ha hb (nomark _)
theorem dt_ne (hu : X.A.units + 64 < cLine) (ha : DE X Z W a ta) (hb : DE X Z W b tb) : DT X Z W (.Compare a [.NotEq] [b] pos) (dB (dOp gNe ta tb)) := dt_cmp (op_neA hu) dop_ne ha hb (nomark _)
end
end DL
set_option Elab.async false
set_option linter.all false
set_option maxRecDepth 100000
set_option maxHeartbeats 2000000
namespace DL
open PySem PySem.Spec PyProof.Rows L2
section
variable {X : Cx} {Z : Ent} {W : WX} {K : PySem.W.Frag} {a b c e : Expr} {ta tb tc te : TD} {tA tB' : TDT} {pos : Pos} {rest : List Expr}

/-! ### and, or, not -/
theorem dw_and1 (h : DT X Z W a tA) : DW X Z W (.BoolOp .And [a] pos) tA := pw_and1 h
theorem dw_or1 (h : DT X Z W a tA) : DW X Z W (.BoolOp .Or [a] pos) tA := pw_or1 h
theorem dw_and (ha : DT X Z W a tA) (hb : DW X Z W (.BoolOp .And (b :: rest) pos) tB') : DW X Z W (.BoolOp .And (a :: b :: rest) pos) (dAnd tA tB') :=
  (pw_and ha hb).imp fun σ H Q ⟨B, al, L, env, Q0, X0, l, s, m, h, hQ, hX⟩ => by
    refine lT_then l s m h hX fun B1 H1 a1 L1 x n1 s1 h1 => ?_
    cases x with
    | true => exact ⟨B1, a1, L1, env, Q0, X0, n1.l, s1, n1.m, h1, fun _ _ _ _ _ n q => hQ _ _ _ _ _ (n1.trans n) q, HX.nx hX n1⟩
    | false => exact hQ _ _ _ _ _ n1 h1
theorem dw_or (ha : DT X Z W a tA) (hb : DW X Z W (.BoolOp .Or (b :: rest) pos) tB') : DW X Z W (.BoolOp .Or (a :: b :: rest) pos) (dOr tA tB') :=
  (pw_or ha hb).imp fun σ H Q ⟨B, al, L, env, Q0, X0, l, s, m, h, hQ, hX⟩ => by
    refine lT_then l s m h hX fun B1 H1 a1 L1 x n1 s1 h1 => ?_
    cases x with
    | false => exact ⟨B1, a1, L1, env, Q0, X0, n1.l, s1, n1.m, h1, fun _ _ _ _ _ n q => hQ _ _ _ _ _ (n1.trans n) q, HX.nx hX n1⟩
    | true => exact hQ _ _ _ _ _ n1 h1
theorem dt_w (h : DW X Z W e tA) : DT X Z W e tA := h.pt
theorem dt_not (h : DT X Z W a tA) : DT X Z W (.UnaryOp .Not a pos) (dNot tA) :=
  (pt_not h).imp fun σ H Q ⟨B, al, L, env, Q0, X0, l, s, m, h, hQ, hX⟩ => lT_then l s m h hX fun B1 H1 a1 L1 x n1 s1 h1 => hQ _ _ _ _ _ n1 h1
def dAndV (ta tb : TD) : TD := fun env L Q X => ta env L (fun x L1 => ∃ c, x = .bl c ∧ if c = true then tb env L1 Q X else Q (.bl false) L1) X
def dOrV (ta tb : TD) : TD := fun env L Q X => ta env L (fun x L1 => ∃ c, x = .bl c ∧ if c = true then Q (.bl true) L1 else tb env L1 Q X) X
def dNotV (ta : TD) : TD := fun env L Q X => ta env L (fun x L1 => ∃ c, x = .bl c ∧ Q (.bl (!c)) L1) X
theorem de_one {op} (h : DE X Z W a ta) : DE X Z W (.BoolOp op [a] pos) ta := pe_one h
theorem de_and (ha : DE X Z W a ta) (hb : DE X Z W (.BoolOp .And (b :: rest) pos) tb) : DE X Z W (.BoolOp .And (a :: b :: rest) pos) (dAndV ta tb) :=
  (pe_and ha hb).imp fun σ H Q ⟨B, al, L, env, Q0, X0, l, s, m, h, hQ, hX⟩ => by
    refine lE_then l s m h hX fun B1 H1 a1 L1 x v n1 s1 r1 ⟨c, ec, h1⟩ => ?_
    subst ec
    cases r1
    refine ⟨c, rfl, ?_⟩
    cases c with
    | true => exact ⟨B1, a1, L1, env, Q0, X0, n1.l, s1, n1.m, h1, fun _ _ _ _ _ _ n r q => hQ _ _ _ _ _ _ (n1.trans n) r q, HX.nx hX n1⟩
    | false => exact hQ _ _ _ _ _ _ n1 (.bl _) h1
theorem de_or (ha : DE X Z W a ta) (hb : DE X Z W (.BoolOp .Or (b :: rest) pos) tb) : DE X Z W (.BoolOp .Or (a :: b :: rest) pos) (dOrV ta tb) :=
  (pe_or ha hb).imp fun σ H Q ⟨B, al, L, env, Q0, X0, l, s, m, h, hQ, hX⟩ => by
    refine lE_then l s m h hX fun B1 H1 a1 L1 x v n1 s1 r1 ⟨c, ec, h1⟩ => ?_
    subst ec
    cases r1
    refine ⟨c, rfl, ?_⟩
    cases c with
    | false => exact ⟨B1, a1, L1, env, Q0, X0, n1.l, s1, n1.m, h1, fun _ _ _ _ _ _ n r q => hQ _ _ _ _ _ _ (n1.trans n) r q, HX.nx hX n1⟩
    | true => exact hQ _ _ _ _ _ _ n1 (.bl _) h1
theorem de_not (ha : DE X Z W a ta) : DE X Z W (.UnaryOp .Not a pos) (dNotV ta) :=
  (pe_not ha).imp fun σ H Q ⟨B, al, L, env, Q0, X0, l, s, m, h, hQ, hX⟩ => lE_then l s m h hX fun B1 H1 a1 L1 x v n1 s1 r1 ⟨c, ec, h1⟩ => by
    subst ec
    cases r1
    exact ⟨c, rfl, hQ _ _ _ _ _ _ n1 (.bl _) h1⟩
def dIfE (t : TDT) (ta tb : TD) : TD := fun env L Q X => t env L (fun c L1 => if c = true then ta env L1 Q X else tb env L1 Q X) X
theorem de_ifExp (h : DT X Z W c tA) (ha : DE X Z W a ta) (hb : DE X Z W b tb) : DE X Z W (.IfExp c a b pos) (dIfE tA ta tb) :=
  (pe_ifExp h ha hb).imp fun σ H Q ⟨B, al, L, env, Q0, X0, l, s, m, h, hQ, hX⟩ => by
    refine lT_then l s m h hX fun B1 H1 a1 L1 x n1 s1 h1 => ?_
    cases x with
    | true => exact ⟨B1, a1, L1, env, Q0, X0, n1.l, s1, n1.m, h1, fun _ _ _ _ _ _ n r q => hQ _ _ _ _ _ _ (n1.trans n) r q, HX.nx hX n1⟩
    | false => exact ⟨B1, a1, L1, env, Q0, X0, n1.l, s1, n1.m, h1, fun _ _ _ _ _ _ n r q => hQ _ _ _ _ _ _ (n1.trans n) r q, HX.nx hX n1⟩

/-! ### is None, is True -/
def D.isNon : D → Option Bool
  | .non => some true
  | .val _ => none
  | _ => some false
def gIsB (neg : Bool) : G2 := fun x y L Q => match x, y with
  | .bl i, .bl j => Q (.bl (xor neg (decide (i = j)))) L
  | x, .non => ∃ b, x.isNon = some b ∧ Q (.bl (xor neg b)) L
  | _, _ => False
theorem isNon_v {B : Hp} {al : List Addr} {x : D} {v : V} {b : Bool} (r : Rep K B al x v) (h : x.isNon = some b) : decide (v = .non) = b := by
  cases r with
  | val v => cases h
  | _ => cases h; simp
theorem dop_is : DOp2 K (fun x y H Q => rIsB x y H Q ∨ (y = .non ∧ Q (.bl (decide (x = .non))) H)) (gIsB false) := by
  intro Z B H al L x y v u Q Q0 l m rx ry h hQ
  have non : y = .non → (∃ b, x.isNon = some b ∧ Q0 (.bl (xor false b)) L) → (rIsB v u H Q ∨ (u = .non ∧ Q (.bl (decide (v = .non))) H)) := by
    rintro rfl ⟨b, hb, q⟩
    obtain rfl := rep_non ry
    rw [Bool.false_xor] at q
    exact Or.inr ⟨rfl, by rw [isNon_v rx hb]; exact hQ _ _ _ _ _ _ (.refl l m) (.bl _) q⟩
  cases y with
  | non => cases x <;> exact non rfl h
  | bl j =>
    cases x with
    | bl i =>
      obtain rfl := rep_bl rx
      obtain rfl := rep_bl ry
      have h' : Q0 (.bl (xor false (decide (i = j)))) L := h
      rw [Bool.false_xor] at h'
      exact .inl ⟨i, j, rfl, rfl, hQ _ _ _ _ _ _ (.refl l m) (.bl _) h'⟩
    | _ => exact h.elim
  | _ => cases x <;> exact h.elim
theorem dop_isnot : DOp2 K (fun x y H Q => rNotB x y H Q ∨ (y = .non ∧ Q (.bl (!decide (x = .non))) H)) (gIsB true) := by
  intro Z B H al L x y v u Q Q0 l m rx ry h hQ
  have non : y = .non → (∃ b, x.isNon = some b ∧ Q0 (.bl (xor true b)) L) → (rNotB v u H Q ∨ (u = .non ∧ Q (.bl (!decide (v = .non))) H)) := by
    rintro rfl ⟨b, hb, q⟩
    obtain rfl := rep_non ry
    rw [Bool.true_xor] at q
    exact Or.inr ⟨rfl, by rw [isNon_v rx hb]; exact hQ _ _ _ _ _ _ (.refl l m) (.bl _) q⟩
  cases y with
  | non => cases x <;> exact non rfl h
  | bl j =>
    cases x with
    | bl i =>
      obtain rfl := rep_bl rx
      obtain rfl := rep_bl ry
      have h' : Q0 (.bl (xor true (decide (i = j)))) L := h
      rw [Bool.true_xor] at h'
      exact .inl ⟨i, j, rfl, rfl, hQ _ _ _ _ _ _ (.refl l m) (.bl _) h'⟩
    | _ => exact h.elim
  | _ => cases x <;> exact h.elim
theorem de_is (ha : DE X Z W a ta) (hb : DE X Z W b tb) : DE X Z W (.Compare a [.Is] [b] pos) (dOp (gIsB false) ta tb) := de_cmp (OpR.or' op_isBl op_isN) dop_is ha hb (nomark _)
theorem de_isnot (ha : DE X Z W a ta) (hb : DE X Z W b tb) : DE X Z W (.Compare a [.IsNot] [b] pos) (dOp (gIsB true) ta tb) := de_cmp (OpR.or' op_notBl op_notN) dop_isnot ha hb (nomark _)
theorem dt_is (ha : DE X Z W a ta) (hb : DE X Z W b tb) : DT X Z W (.Compare a [.Is] [b] pos) (dB (dOp (gIsB false) ta tb)) := dt_cmp (OpR.or' op_isBl op_isN) dop_is ha hb (nomark _)
theorem dt_isnot (ha : DE X Z W a ta) (hb : DE X Z W b tb) : DT X Z W (.Compare a [.IsNot] [b] pos) (dB (dOp (gIsB true) ta tb)) := dt_cmp (OpR.or' op_notBl op_notN) dop_isnot ha hb (nomark _)

/-! ### in, not in -/
/-- a flat value -/
def D.flat : D → Bool
  | .non => true
  | .bl _ => true
  | .int _ => true
  | .str _ => true
  | _ => false
def D.eqF : D → D → Bool
  | .non, .non => true
  | .bl a, .bl b => a == b
  | .bl a, .int b => (if a then 1 else 0) == b
  | .int a, .bl b => a == (if b then 1 else 0)
  | .int a, .int b => a == b
  | .str a, .str b => a == b
  | _, _ => false
def inD (x : D) (xs : List D) : Bool := xs.any fun y => D.eqF y x
/-- the items of a list or a tuple -/
def seq? (L : LH) : D → Option (List D)
  | .tup ds => some ds
  | d => lst? L d
theorem seq_rep {B H : Hp} {al : List Addr} {L : LH} (l : Lift K B H al L) {d : D} {v : V} {ds : List D} (r : Rep K B al d v) (h : seq? L d = some ds) : ∃ a vs, v = .ref a ∧ (SqL K H a vs ∨ SqT K H a vs) ∧ RepA K B al ds vs := by
  cases d with
  | tup xs =>
    cases h
    obtain ⟨a, vs, h1, h2, h3⟩ := tup_rep l r
    exact ⟨a, vs, h1, .inr h2, h3⟩
  | _ =>
    obtain ⟨a, vs, h1, h2, h3⟩ := lst_rep l r h
    exact ⟨a, vs, h1, .inl h2, h3⟩
theorem flat_v {B : Hp} {al : List Addr} {x : D} {v : V} (r : Rep K B al x v) (h : x.flat = true) : flatV v = true := by
  cases r <;> first | rfl | cases h
theorem eqF_v {B : Hp} {al : List Addr} {x y : D} {v u : V} (r : Rep K B al x v) (s : Rep K B al y u) (h : x.flat = true) (h' : y.flat = true) : eqV v u = x.eqF y := by
  cases r <;> first
    | (cases h; done)
    | (cases s <;> first | (cases h'; done) | rfl)
theorem inD_v {B : Hp} {al : List Addr} {x : D} {v : V} (r : Rep K B al x v) (h : x.flat = true) : ∀ {ds : List D} {vs : List V}, RepA K B al ds vs → ds.all D.flat = true → inV v vs = inD x ds ∧ vs.all flatV = true
  | _, _, .nil, _ => ⟨rfl, rfl⟩
  | _, _, .cons (d := d) (v := w) (ds := ds) (vs := vs) h1 t, h2 => by
    rw [List.all_cons, Bool.and_eq_true] at h2
    obtain ⟨e1, e2⟩ := inD_v r h t h2.2
    refine ⟨?_, by rw [List.all_cons, flat_v h1 h2.1, e2]; rfl⟩
    show (eqV w v || inV v vs) = (D.eqF d x || inD x ds)
    rw [eqF_v h1 r h2.1 h, e1]
def gInB (neg : Bool) : G2 := fun x y L Q => match y with
  | .str z => match x with
    | .str s => ∃ c, s = ⟨#[c]⟩ ∧ Q (.bl (xor neg (decide (c ∈ z.cps.toList)))) L
    | _ => False
  | y => ∃ ds, seq? L y = some ds ∧ x.flat = true ∧ ds.all D.flat = true ∧ Q (.bl (xor neg (inD x ds))) L
theorem dop_in : DOp2 K (fun x y H Q => rIn K false x y H Q ∨ ∃ (c : Nat) (z : Str), x = .str ⟨#[c]⟩ ∧ y = .str z ∧ Q (.bl (decide (c ∈ z.cps.toList))) H) (gInB false) := by
  intro Z B H al L x y v u Q Q0 l m rx ry h hQ
  have gen : (∃ ds, seq? L y = some ds ∧ x.flat = true ∧ ds.all D.flat = true ∧ Q0 (.bl (xor false (inD x ds))) L) → (rIn K false v u H Q ∨ ∃ (c : Nat) (z : Str), v = .str ⟨#[c]⟩ ∧ u = .str z ∧ Q (.bl (decide (c ∈ z.cps.toList))) H) := by
    rintro ⟨ds, h1, h2, h3, q⟩
    obtain ⟨p, vs, rfl, hs, ra⟩ := seq_rep l ry h1
    obtain ⟨e1, e2⟩ := inD_v rx h2 ra h3
    rw [Bool.false_xor] at q
    exact Or.inl ⟨p, vs, rfl, hs, flat_v rx h2, e2, by
      show Q (.bl (if false = true then !inV v vs else inV v vs)) H
      rw [if_neg Bool.false_ne_true, e1]; exact hQ _ _ _ _ _ _ (.refl l m) (.bl _) q⟩
  cases y with
  | str z =>
    cases x with
    | str s =>
      obtain ⟨c, rfl, q⟩ := h
      obtain rfl := rep_str rx
      obtain rfl := rep_str ry
      rw [Bool.false_xor] at q
      exact .inr ⟨c, z, rfl, rfl, hQ _ _ _ _ _ _ (.refl l m) (.bl _) q⟩
    | _ => exact h.elim
  | _ => exact gen h
theorem dop_notin : DOp2 K (fun x y H Q => rIn K true x y H Q ∨ ∃ (c : Nat) (z : Str), x = .str ⟨#[c]⟩ ∧ y = .str z ∧ Q (.bl (!decide (c ∈ z.cps.toList))) H) (gInB true) := by
  intro Z B H al L x y v u Q Q0 l m rx ry h hQ
  have gen : (∃ ds, seq? L y = some ds ∧ x.flat = true ∧ ds.all D.flat = true ∧ Q0 (.bl (xor true (inD x ds))) L) → (rIn K true v u H Q ∨ ∃ (c : Nat) (z : Str), v = .str ⟨#[c]⟩ ∧ u = .str z ∧ Q (.bl (!decide (c ∈ z.cps.toList))) H) := by
    rintro ⟨ds, h1, h2, h3, q⟩
    obtain ⟨p, vs, rfl, hs, ra⟩ := seq_rep l ry h1
    obtain ⟨e1, e2⟩ := inD_v rx h2 ra h3
    rw [Bool.true_xor] at q
    exact Or.inl ⟨p, vs, rfl, hs, flat_v rx h2, e2, by
      show Q (.bl (if true = true then !inV v vs else inV v vs)) H
      rw [if_pos rfl, e1]; exact hQ _ _ _ _ _ _ (.refl l m) (.bl _) q⟩
  cases y with
  | str z =>
    cases x with
    | str s =>
      obtain ⟨c, rfl, q⟩ := h
      obtain rfl := rep_str rx
      obtain rfl := rep_str ry
      rw [Bool.true_xor] at q
      exact .inr ⟨c, z, rfl, rfl, hQ _ _ _ _ _ _ (.refl l m) (.bl _) q⟩
    | _ => exact h.elim
  | _ => exact gen h
theorem de_in (ha : DE X Z W a ta) (hb : DE X Z W b tb) (hm : behindInMarks .In b = false := by rfl) : DE X Z W (.Compare a [.In] [b] pos) (dOp (gInB false) ta tb) := de_cmp (OpR.or' op_in_seq op_in_sign) dop_in ha hb hm
theorem de_notin (ha : DE X Z W a ta) (hb : DE X Z W b tb) (hm : behindInMarks .NotIn b = false := by rfl) : DE X Z W (.Compare a [.NotIn] [b] pos) (dOp (gInB true) ta tb) := de_cmp (OpR.or' op_notIn_seq op_notIn_sign) dop_notin ha hb hm
theorem dt_in (ha : DE X Z W a ta) (hb : DE X Z W b tb) (hm : behindInMarks .In b = false := by rfl) : DT X Z W (.Compare a [.In] [b] pos) (dB (dOp (gInB false) ta tb)) := dt_cmp (OpR.or' op_in_seq op_in_sign) dop_in ha hb hm
theorem dt_notin (ha : DE X Z W a ta) (hb : DE X Z W b tb) (hm : behindInMarks .NotIn b = false := by rfl) : DT X Z W (.Compare a [.NotIn] [b] pos) (dB (dOp (gInB true) ta tb)) := dt_cmp (OpR.or' op_notIn_seq op_notIn_sign) dop_notin ha hb hm

/-! ### a < b < c -/
def dChain (g g' : G2) (ta tb tc : TD) : TD := fun env L Q X => ta env L (fun x L1 => tb env L1 (fun y L2 => g x y L2 (fun z L3 => ∃ k, z = .bl k ∧ if k = true then tc env L3 (fun w L4 => g' y w L4 Q) X else Q (.bl false) L3)) X) X
theorem de_chain {op op' : CmpOp} {r r' : R2} {g g' : G2} (ho : OpR X (compareOp op) r) (ho' : OpR X (compareOp op') r') (hg : DOp2 X.K r g) (hg' : DOp2 X.K r' g') (ha : DE X Z W a ta) (hb : DE X Z W b tb) (hc : DE X Z W c tc)
    (hm : lastMarks [op, op'] [b, c] = false := by with_unfolding_all rfl) : DE X Z W (.Compare a [op, op'] [b, c] pos) (dChain g g' ta tb tc) :=
  (pe_chain ho ho' ha hb hc hm).imp fun σ H Q ⟨B, al, L, env, Q0, X0, l, s, m, h, hQ, hX⟩ => by
    refine lE_then l s m h hX fun B1 H1 a1 L1 x v n1 s1 r1 h1 => ?_
    refine lE_then n1.l s1 n1.m h1 (HX.nx hX n1) fun B2 H2 a2 L2 y u n2 s2 r2 h2 => ?_
    refine hg Z B2 H2 a2 L2 x y v u _ _ n2.l n2.m (r1.mono n2.s n2.p) r2 h2 fun B3 H3 a3 L3 d w n3 r3 ⟨k, ek, q⟩ => ?_
    subst ek
    cases r3
    refine ⟨k, rfl, ?_⟩
    cases k with
    | false => exact hQ _ _ _ _ _ _ ((n1.trans n2).trans n3) (.bl _) q
    | true =>
      refine lE_then n3.l (s2.mono n3.s n3.p) n3.m q (HX.nx hX ((n1.trans n2).trans n3)) fun B4 H4 a4 L4 d w n4 s4 r4 q4 => ?_
      exact hg' Z B4 H4 a4 L4 y d u w Q Q0 n4.l n4.m (r2.mono (n3.trans n4).s (n3.trans n4).p) r4 q4 fun B5 H5 a5 L5 d5 w5 n5 r5 q5 => hQ _ _ _ _ _ _ ((((n1.trans n2).trans n3).trans n4).trans n5) r5 q5

/-! ### subscripts -/
def gIx : G2 := fun x y L Q => match y with
  | .int i => match x with
    | .str z => z.length ≤ 16777216 ∧ ∃ c, atI z.cps.toList i = some c ∧ Q (.str ⟨#[c]⟩) L
    | x => ∃ ds d, seq? L x = some ds ∧ atI ds i = some d ∧ Q d L
  | _ => False
theorem atI_rep {B : Hp} {al : List Addr} {ds : List D} {vs : List V} {i : Int} {d : D} (r : RepA K B al ds vs) (h : atI ds i = some d) : ∃ v, atI vs i = some v ∧ Rep K B al d v := by
  unfold atI at h ⊢
  rw [← r.length]
  cases q : ixN ds.length i with
  | none => rw [q] at h; cases h
  | some j =>
    rw [q] at h
    exact r.get h
theorem dop_ix : DOp2 K (rIx K) gIx := by
  intro Z B H al L x y v u Q Q0 l m rx ry h hQ
  cases y with
  | int i =>
    obtain rfl := rep_int ry
    have gen : (∃ ds d, seq? L x = some ds ∧ atI ds i = some d ∧ Q0 d L) → rIx K v (.int i) H Q := by
      rintro ⟨ds, d, h1, h2, q⟩
      obtain ⟨p, vs, rfl, hs, ra⟩ := seq_rep l rx h1
      obtain ⟨w, hw, rw'⟩ := atI_rep ra h2
      rcases hs with hs | hs
      · exact .inl ⟨p, vs, i, w, rfl, rfl, hs, hw, hQ _ _ _ _ _ _ (.refl l m) rw' q⟩
      · exact .inr (.inl ⟨p, vs, i, w, rfl, rfl, hs, hw, hQ _ _ _ _ _ _ (.refl l m) rw' q⟩)
    cases x with
    | str z =>
      obtain ⟨hz, c, hc, q⟩ := h
      obtain rfl := rep_str rx
      exact .inr (.inr ⟨z, i, c, rfl, rfl, line_of hz, hc, hQ _ _ _ _ _ _ (.refl l m) (.str _) q⟩)
    | _ => exact gen h
  | _ => exact h.elim
theorem de_ix (ha : DE X Z W a ta) (hb : DE X Z W b tb) (hs : PlainIx b := by exact fun _ _ => rfl) : DE X Z W (.Subscript a b pos) (dOp gIx ta tb) :=
  (pe_ix ix_seq ha hb hs).imp fun _ _ _ => lE_op2 dop_ix

/-! ### slices -/
abbrev TDO := DEnv → LH → (Option Int → LH → Prop) → DX → Prop
def lO (K : PySem.W.Frag) (Z : Ent) (W : WX) (t : TDO) : TO := fun σ H Q => ∃ (B : Hp) (al : List Addr) (L : LH) (env : DEnv) (Q0 : Option Int → LH → Prop) (X0 : DX), Lift K B H al L ∧ RepS K B al env σ ∧ Mv Z B H al ∧ t env L Q0 X0 ∧
  (∀ B' H' al' L' b, Nx K Z B al B' H' al' L' → Q0 b L' → Q b H') ∧ (∀ B' H' al' L' C fs dd, Nx K Z B al B' H' al' L' → XRep K Z B' H' al' fs dd → X0 C fs L' → W (.ref C) dd σ H')
abbrev DO (X : Cx) (Z : Ent) (W : WX) (e : Option Expr) (t : TDO) : Prop := PO X e (lO X.K Z W t)
def dNoPart : TDO := fun _ L Q _ => Q none L
def dPart (t : TD) : TDO := fun env L Q X => t env L (fun d L1 => ∃ i, d = .int i ∧ Q (some i) L1) X
theorem do_none : DO X Z W none dNoPart := ⟨fun pins s σ H Q I ⟨B, al, L, env, Q0, X0, l, s', m, h, hQ, hX⟩ => po_none.run pins s σ H Q I (hQ _ _ _ _ _ (.refl l m) h)⟩
theorem do_some (h : DE X Z W e te) : DO X Z W (some e) (dPart te) := ⟨fun pins s σ H Q I ⟨B, al, L, env, Q0, X0, l, s', m, h', hQ, hX⟩ => (po_some h).run pins s σ H Q I (by
  refine lE_then l s' m h' hX fun B1 H1 a1 L1 x v n1 s1 r1 ⟨i, ei, q⟩ => ?_
  subst ei
  cases r1
  exact ⟨i, rfl, hQ _ _ _ _ _ n1 q⟩)⟩
def cutD (xs : List D) (lo hi : Option Int) : List D := (xs.drop (HT.sIx xs.length 0 lo)).take (HT.sIx xs.length xs.length hi - HT.sIx xs.length 0 lo)
theorem cutD_rep {B : Hp} {al : List Addr} {ds : List D} {vs : List V} (r : RepA K B al ds vs) (lo hi : Option Int) : RepA K B al (cutD ds lo hi) (cutV vs lo hi) := by
  unfold cutD cutV
  rw [r.length]
  exact RepA.take _ (RepA.drop _ r)
/-- a slice: of a text, of a list (a new one), of a tuple (not the whole) -/
def gSl : D → Option Int → Option Int → LH → DK → Prop := fun x lo hi L Q => match x with
  | .str z => z.length ≤ 16777216 ∧ Q (.str (cutS z lo hi)) L
  | .tup ds => ¬ (HT.sIx ds.length 0 lo = 0 ∧ HT.sIx ds.length ds.length hi = ds.length) ∧ Q (.tup (cutD ds lo hi)) L
  | x => ∃ ds, lst? L x = some ds ∧ Q (.lst (cutD ds lo hi)) L
def dSl (te : TD) (tl th : TDO) : TD := fun env L Q X => te env L (fun x L1 => tl env L1 (fun lo L2 => th env L2 (fun hi L3 => gSl x lo hi L3 Q) X) X) X
theorem lO_then {t : TDO} {σ : L2.St} {B H : Hp} {al : List Addr} {L : LH} {env : DEnv} {Q : Option Int → Hp → Prop} {Q0 : Option Int → LH → Prop} {X0 : DX} (l : Lift K B H al L) (s : RepS K B al env σ) (m : Mv Z B H al) (h : t env L Q0 X0)
    (hX : HX K Z W B al σ X0) (hQ : ∀ B' H' al' L' b, Nx K Z B al B' H' al' L' → RepS K B' al' env σ → Q0 b L' → Q b H') : lO K Z W t σ H Q :=
  ⟨B, al, L, env, Q0, X0, l, s, m, h, fun B' H' al' L' d n q => hQ B' H' al' L' d n (s.mono n.s n.p) q, hX⟩
theorem de_slice {lo hi : Option Expr} {tl th : TDO} {p2 : Pos} (ha : DE X Z W a ta) (hl : DO X Z W lo tl) (hh : DO X Z W hi th) : DE X Z W (.Subscript a (.Slice lo hi none p2) pos) (dSl ta tl th) :=
  (pe_slice (sl_str.or (sl_tup.or sl_list)) ha hl hh).imp fun σ H Q ⟨B, al, L, env, Q0, X0, l, s, m, h, hQ, hX⟩ => by
    refine lE_then l s m h hX fun B1 H1 a1 L1 x v n1 s1 r1 h1 => ?_
    refine lO_then n1.l s1 n1.m h1 (HX.nx hX n1) fun B2 H2 a2 L2 i n2 s2 h2 => ?_
    refine lO_then n2.l s2 n2.m h2 (HX.nx hX (n1.trans n2)) fun B3 H3 a3 L3 j n3 s3 h3 => ?_
    have r3 := r1.mono (n2.trans n3).s (n2.trans n3).p
    have n := (n1.trans n2).trans n3
    have gen : (∃ ds, lst? L3 x = some ds ∧ Q0 (.lst (cutD ds i j)) L3) → (rSlS v i j H3 Q ∨ rSlT X.K v i j H3 Q ∨ rSlL X.K v i j H3 Q) := by
      rintro ⟨ds, e1, q⟩
      obtain ⟨p, vs, rfl, hp, ra⟩ := lst_rep n3.l r3 e1
      refine .inr (.inr ⟨p, vs, rfl, hp, fun z nz => ?_⟩)
      obtain ⟨n4, r4⟩ := new_lst n3.l n3.m nz (cutD_rep ra i j)
      exact hQ _ _ _ _ _ _ (n.trans n4) r4 q
    cases x with
    | str z =>
      obtain ⟨hz, q⟩ := h3
      obtain rfl := rep_str r3
      exact .inl ⟨z, rfl, line_of hz, hQ _ _ _ _ _ _ n (.str _) q⟩
    | tup ds =>
      obtain ⟨hn, q⟩ := h3
      obtain ⟨p, vs, rfl, hp, ra⟩ := tup_rep n3.l r3
      refine .inr (.inl ⟨p, vs, rfl, hp, by rw [← ra.length]; exact hn, fun z nz => ?_⟩)
      obtain ⟨n4, r4⟩ := new_tup n3.l n3.m nz (cutD_rep ra i j)
      exact hQ _ _ _ _ _ _ (n.trans n4) r4 q
    | _ => exact gen h3

/-! ### argument lists, displays -/
def dNil : TDA := fun _ L Q _ => Q [] L
def dCons (t : TD) (u : TDA) : TDA := fun env L Q X => t env L (fun d L1 => u env L1 (fun ds L2 => Q (d :: ds) L2) X) X
variable {es : List Expr} {tu : TDA}
theorem da_nil : DA X Z W [] dNil := pa_nil.imp fun σ H Q ⟨B, al, L, env, Q0, X0, l, s, m, h, hQ, hX⟩ => hQ _ _ _ _ _ _ (.refl l m) .nil h
theorem da_cons (ha : DE X Z W e te) (hr : DA X Z W es tu) (hs : starEach (e :: es) X.env = (false, eval e X.env) :: starEach es X.env := by rfl) : DA X Z W (e :: es) (dCons te tu) :=
  (pa_cons ha hr hs).imp fun σ H Q ⟨B, al, L, env, Q0, X0, l, s, m, h, hQ, hX⟩ => by
    refine lE_then l s m h hX fun B1 H1 a1 L1 x v n1 s1 r1 h1 => ?_
    refine lA_then n1.l s1 n1.m h1 (HX.nx hX n1) fun B2 H2 a2 L2 ds vs n2 s2 r2 h2 => ?_
    exact hQ _ _ _ _ _ _ (n1.trans n2) (.cons (r1.mono n2.s n2.p) r2) h2
def dTup (t : TDA) : TD := fun env L Q X => t env L (fun ds L1 => ds.length ≤ 16777216 ∧ Q (.tup ds) L1) X
def dLst (t : TDA) : TD := fun env L Q X => t env L (fun ds L1 => ds.length ≤ 16777216 ∧ Q (.lst ds) L1) X
/-- .. that will be changed -/
def dLstO (t : TDA) : TD := fun env L Q X => t env L (fun ds L1 => ds.length ≤ 16777216 ∧ Q (.own L1.length) (L1 ++ [.lst ds])) X
theorem de_tup {x1} (h : DA X Z W es tu) : DE X Z W (.Tuple es x1 pos) (dTup tu) := (pe_tup h).imp fun σ H Q ⟨B, al, L, env, Q0, X0, l, s, m, h, hQ, hX⟩ => by
  refine lA_then l s m h hX fun B1 H1 a1 L1 ds vs n1 s1 r1 ⟨hz, q⟩ => ⟨by rw [← r1.length]; exact line_of hz, fun p np => ?_⟩
  obtain ⟨n4, r4⟩ := new_tup n1.l n1.m np r1
  exact hQ _ _ _ _ _ _ (n1.trans n4) r4 q
theorem de_lst (h : DA X Z W es tu) : DE X Z W (.List es pos) (dLst tu) := (pe_lst h).imp fun σ H Q ⟨B, al, L, env, Q0, X0, l, s, m, h, hQ, hX⟩ => by
  refine lA_then l s m h hX fun B1 H1 a1 L1 ds vs n1 s1 r1 ⟨hz, q⟩ => ⟨by rw [← r1.length]; exact line_of hz, fun p np => ?_⟩
  obtain ⟨n4, r4⟩ := new_lst n1.l n1.m np r1
  exact hQ _ _ _ _ _ _ (n1.trans n4) r4 q
theorem de_lstO (h : DA X Z W es tu) : DE X Z W (.List es pos) (dLstO tu) := (pe_lst h).imp fun σ H Q ⟨B, al, L, env, Q0, X0, l, s, m, h, hQ, hX⟩ => by
  refine lA_then l s m h hX fun B1 H1 a1 L1 ds vs n1 s1 r1 ⟨hz, q⟩ => ⟨by rw [← r1.length]; exact line_of hz, fun p np => ?_⟩
  obtain ⟨n4, r4⟩ := new_own n1.l n1.m np (.lst r1)
  exact hQ _ _ _ _ _ _ (n1.trans n4) r4 q
end
end DL
set_option Elab.async false
set_option linter.all false
set_option maxRecDepth 100000
set_option maxHeartbeats 2000000
namespace DL
open PySem PySem.Spec PyProof.Rows L2

/-- what a body's rules want of where they stand -/
structure Bd (X : Cx) (W : WX) (k : Nat) : Prop where
  tk : Takes X W
  hp : PassesOwn (model X.prog X.w) X.A X.env X.xe
  hr : Room k X.A
  calm : X.calm = true
theorem Bd.u {X : Cx} {W : WX} {k : Nat} (b : Bd X W k) : X.A.units + 64 < cLine := b.hr.units
theorem Bd.u1 {X : Cx} {W : WX} {k : Nat} (b : Bd X W k) : X.A.units + 1 < cLine := hu_of b.hr

section
variable {X : Cx} {Z : Ent} {W : WX} {K : PySem.W.Frag} {a b c e : Expr} {ta tb tc te : TD} {tA tB' : TDT} {pos : Pos} {rest : List Expr}

/-! ### statements -/
def dNext : TDS := fun DD env L => DD.nx env L
def dSeq (t u : TDS) : TDS := fun DD env L => t ⟨fun env' L' => u DD env' L', DD.rt, DD.bk, DD.ct, DD.ex⟩ env L
variable {st : Stmt} {sts : List Stmt} {t u : TDS}
theorem ds_nil : DSs X Z W [] dNext := pss_nil.imp fun D σ H ⟨B, al, L, env, DD, l, s, m, h, f⟩ => f.nx _ _ _ _ _ _ (.refl l m) s h
theorem ds_cons (h1 : DS X Z W st t) (h2 : DSs X Z W sts u) : DSs X Z W (st :: sts) (dSeq t u) := (pss_cons h1 h2).imp fun D σ H ⟨B, al, L, env, DD, l, s, m, h, f⟩ =>
  ⟨B, al, L, env, _, l, s, m, h, ⟨fun B' H' al' L' env' σ' n' s' h' => ⟨B', al', L', env', DD, n'.l, s', n'.m, h', f.later n'⟩, f.rt, f.bk, f.ct, f.ex⟩⟩
theorem ds_one (h1 : DS X Z W st t) : DSs X Z W [st] t := pss_one h1
def dPass : TDS := fun DD env L => DD.nx env L
def dBreak : TDS := fun DD env L => DD.bk env L
def dCont : TDS := fun DD env L => DD.ct env L
theorem ds_pass : DS X Z W (.Pass pos) dPass := ps_pass.imp fun D σ H ⟨B, al, L, env, DD, l, s, m, h, f⟩ => f.nx _ _ _ _ _ _ (.refl l m) s h
theorem ds_break : DS X Z W (.Break pos) dBreak := ps_break.imp fun D σ H ⟨B, al, L, env, DD, l, s, m, h, f⟩ => f.bk _ _ _ _ _ _ (.refl l m) s h
theorem ds_cont : DS X Z W (.Continue pos) dCont := ps_continue.imp fun D σ H ⟨B, al, L, env, DD, l, s, m, h, f⟩ => f.ct _ _ _ _ _ _ (.refl l m) s h
def dDrop (te : TD) : TDS := fun DD env L => te env L (fun _ L1 => DD.nx env L1) (fun C fs L1 => DD.ex C fs env L1)
theorem DLf.hx {DD : DEnds} {D : Ends} {B : Hp} {al : List Addr} (f : DLf K Z W B al DD D) {env : DEnv} {σ : L2.St} (s : RepS K B al env σ) : HX K Z W B al σ (fun C fs L1 => DD.ex C fs env L1) := fun B' H' al' L' C fs dd n x q => f.ex _ _ _ _ _ _ _ _ _ n (s.mono n.s n.p) x q
theorem ds_expr (he : DE X Z W e te) (hs : swapsWith e none pos.line X.env = pure false := by rfl) : DS X Z W (.Expr e pos) (dDrop te) := (ps_expr he hs).imp fun D σ H ⟨B, al, L, env, DD, l, s, m, h, f⟩ =>
  lE_then l s m h (f.hx s) fun B1 H1 a1 L1 d v n1 s1 r1 h1 => f.nx _ _ _ _ _ _ n1 s1 h1
def dRet (te : TD) : TDS := fun DD env L => te env L DD.rt (fun C fs L1 => DD.ex C fs env L1)
def dRetN : TDS := fun DD _ L => DD.rt .non L
theorem ds_ret (he : DE X Z W e te) : DS X Z W (.Return (some e) pos) (dRet te) := (ps_ret he).imp fun D σ H ⟨B, al, L, env, DD, l, s, m, h, f⟩ =>
  lE_then l s m h (f.hx s) fun B1 H1 a1 L1 d v n1 s1 r1 h1 => f.rt _ _ _ _ _ _ n1 r1 h1
theorem ds_retN : DS X Z W (.Return none pos) dRetN := ps_retN.imp fun D σ H ⟨B, al, L, env, DD, l, s, m, h, f⟩ => f.rt _ _ _ _ _ _ (.refl l m) .non h
def dIf (c : TDT) (t u : TDS) : TDS := fun DD env L => c env L (fun b L1 => if b = true then t DD env L1 else u DD env L1) (fun C fs L1 => DD.ex C fs env L1)
theorem ds_if {st1 st2 : List Stmt} (hc : DT X Z W c tA) (h1 : DSs X Z W st1 t) (h2 : DSs X Z W st2 u) : DS X Z W (.If c st1 st2 pos) (dIf tA t u) := (ps_if hc h1 h2).imp fun D σ H ⟨B, al, L, env, DD, l, s, m, h, f⟩ =>
  lT_then l s m h (f.hx s) fun B1 H1 a1 L1 b n1 s1 h1 => by
    cases b with
    | true => exact ⟨B1, a1, L1, env, DD, n1.l, s1, n1.m, h1, f.later n1⟩
    | false => exact ⟨B1, a1, L1, env, DD, n1.l, s1, n1.m, h1, f.later n1⟩
def dSet (i : Nat) (te : TD) : TDS := fun DD env L => te env L (fun d L1 => DD.nx (env.set i (some d)) L1) (fun C fs L1 => DD.ex C fs env L1)
theorem ds_set (i : Nat) {x : Str} {pos' : Pos} (hN : X.N.Nodup) (he : DE X Z W e te) (hi : X.N[i]? = some x := by rfl) (hx : Loc X.env.scope x := by first | exact Or.inl rfl | exact Or.inr rfl) (hs : swapsWith e (some (.Name x pos')) pos.line X.env = pure false := by rfl) (hf : X.fn x = true ∨ X.env.scope.names.lookup x = some .local := by first | exact .inl rfl | exact .inr rfl | assumption) :
    DS X Z W (.Assign [.Name x pos'] e pos) (dSet i te) := (ps_set (i := i) hN hi hx he hs hf).imp fun D σ H ⟨B, al, L, env, DD, l, s, m, h, f⟩ =>
  lE_then l s m h (f.hx s) fun B1 H1 a1 L1 d v n1 s1 r1 h1 => f.nx _ _ _ _ _ _ n1 (s1.set r1) h1

/-! ### targets -/
abbrev TDG := D → DEnv → LH → (DEnv → LH → Prop) → Prop
abbrev TDGs := List D → DEnv → LH → (DEnv → LH → Prop) → Prop
/-- a target stores and allots nothing but slots -/
def lG (K : PySem.W.Frag) (Z : Ent) (t : TDG) : TG := fun v σ H Q => ∃ (B : Hp) (al : List Addr) (L : LH) (env : DEnv) (d : D) (Q0 : DEnv → LH → Prop), Lift K B H al L ∧ RepS K B al env σ ∧ Mv Z B H al ∧ Rep K B al d v ∧ t d env L Q0 ∧
  (∀ B' H' al' L' env' σ', Nx K Z B al B' H' al' L' → RepS K B' al' env' σ' → Q0 env' L' → Q σ' H')
def lGs (K : PySem.W.Frag) (Z : Ent) (t : TDGs) : TGs := fun vs σ H Q => ∃ (B : Hp) (al : List Addr) (L : LH) (env : DEnv) (ds : List D) (Q0 : DEnv → LH → Prop), Lift K B H al L ∧ RepS K B al env σ ∧ Mv Z B H al ∧ RepA K B al ds vs ∧ t ds env L Q0 ∧
  (∀ B' H' al' L' env' σ', Nx K Z B al B' H' al' L' → RepS K B' al' env' σ' → Q0 env' L' → Q σ' H')
abbrev DG (X : Cx) (Z : Ent) (e : Expr) (t : TDG) : Prop := PG X e (lG X.K Z t)
abbrev DGs (X : Cx) (Z : Ent) (es : List Expr) (t : TDGs) : Prop := PGs X es (lGs X.K Z t)
theorem _root_.L2.PG.imp {X : Cx} {e : Expr} {t t' : TG} (h : PG X e t) (f : ∀ v σ H Q, t' v σ H Q → t v σ H Q) : PG X e t' := ⟨fun pins s σ H v u Q I r q => h.run pins s σ H v u Q I r (f v σ H Q q)⟩
theorem _root_.L2.PGs.imp {X : Cx} {e : List Expr} {t t' : TGs} (h : PGs X e t) (f : ∀ v σ H Q, t' v σ H Q → t v σ H Q) : PGs X e t' := ⟨fun pins s σ H v u Q I r q => h.run pins s σ H v u Q I r (f v σ H Q q)⟩
def dgN (i : Nat) : TDG := fun d env L Q => Q (env.set i (some d)) L
theorem dg_n (i : Nat) {x : Str} (hN : X.N.Nodup) (hi : X.N[i]? = some x := by rfl) (hx : Loc X.env.scope x := by first | exact Or.inl rfl | exact Or.inr rfl) (hf : X.fn x = true ∨ X.env.scope.names.lookup x = some .local := by first | exact .inl rfl | exact .inr rfl | assumption) : DG X Z (.Name x pos) (dgN i) :=
  (pg_name hN hi hx hf).imp fun v σ H Q ⟨B, al, L, env, d, Q0, l, s, m, r, h, hQ⟩ => hQ _ _ _ _ _ _ (.refl l m) (s.set r) h
def dgNil : TDGs := fun ds env L Q => ds = [] ∧ Q env L
def dgCons (t : TDG) (u : TDGs) : TDGs := fun ds env L Q => ∃ d r, ds = d :: r ∧ t d env L (fun env' L' => u r env' L' Q)
variable {es : List Expr} {tg : TDG} {tgs : TDGs}
theorem dgs_nil : DGs X Z [] dgNil := pgs_nil.imp fun vs σ H Q ⟨B, al, L, env, d, Q0, l, s, m, r, ⟨h1, h⟩, hQ⟩ => by
  subst h1
  cases r
  exact ⟨rfl, hQ _ _ _ _ _ _ (.refl l m) s h⟩
theorem dgs_cons (h1 : DG X Z e tg) (h2 : DGs X Z es tgs) (hs : (assignEach (e :: es) X.env).map (·.2) = assign e X.env :: (assignEach es X.env).map (·.2) := by rfl) : DGs X Z (e :: es) (dgCons tg tgs) :=
  (pgs_cons h1 h2 hs).imp fun vs σ H Q ⟨B, al, L, env, ds, Q0, l, s, m, r, ⟨d, rs, h1, h⟩, hQ⟩ => by
    subst h1
    cases r with
    | cons r1 r2 =>
      refine ⟨_, _, rfl, B, al, L, env, d, _, l, s, m, r1, h, fun B1 H1 a1 L1 env1 σ1 n1 s1 q1 => ?_⟩
      exact ⟨B1, a1, L1, env1, rs, Q0, n1.l, s1, n1.m, r2.mono n1.s n1.p, q1, fun B2 H2 a2 L2 env2 σ2 n2 s2 q2 => hQ _ _ _ _ _ _ (n1.trans n2) s2 q2⟩
def dgTup (n : Nat) (t : TDGs) : TDG := fun d env L Q => ∃ ds, d = .tup ds ∧ ds.length = n ∧ t ds env L Q
theorem dg_tup {k n : Nat} (hc : X.calm = true) (h : DGs X Z es tgs) (hn : (assignEach es X.env).length = n := by rfl) (hst : (assignEach es X.env).findIdx? (·.1) = none := by rfl) : DG X Z (.Tuple es k pos) (dgTup n tgs) :=
  (pg_tup hc h hn hst).imp fun v σ H Q ⟨B, al, L, env, d, Q0, l, s, m, r, ⟨ds, e1, e2, h⟩, hQ⟩ => by
    subst e1
    obtain ⟨p, vs, rfl, hp, ra⟩ := tup_rep l r
    exact ⟨p, vs, rfl, hp, by rw [← ra.length]; exact e2, B, al, L, env, ds, Q0, l, s, m, ra, h, hQ⟩
def dAsg (te : TD) (g : TDG) : TDS := fun DD env L => te env L (fun d L1 => g d env L1 DD.nx) (fun C fs L1 => DD.ex C fs env L1)
theorem ds_asg {tx : Expr} (he : DE X Z W e te) (hg : DG X Z tx tg) (hs : swapsWithSole [tx] e pos.line X.env = pure false := by rfl) (hw : swappedStores [tx] e X.env = pure none := by rfl)
    (h1 : (assignEach [tx] X.env).map (·.2) = [assign tx X.env] := by rfl) : DS X Z W (.Assign [tx] e pos) (dAsg te tg) := (ps_asg he hg hs hw h1).imp fun D σ H ⟨B, al, L, env, DD, l, s, m, h, f⟩ =>
  lE_then l s m h (f.hx s) fun B1 H1 a1 L1 d v n1 s1 r1 h1 => ⟨B1, a1, L1, env, d, _, n1.l, s1, n1.m, r1, h1, fun B2 H2 a2 L2 env2 σ2 n2 s2 q2 => f.nx _ _ _ _ _ _ (n1.trans n2) s2 q2⟩

end

/-! ### what is walked -/
/-- n items; keep: what must stay of one's own objects -/
structure ItD where
  n : Nat
  item : Nat → Option D
  keep : LH → Prop
abbrev TDI := DEnv → LH → (ItD → LH → Prop) → DX → Prop
structure ItOk (K : PySem.W.Frag) (Z : Ent) (B : Hp) (al : List Addr) (J : It) (j : ItD) : Prop where
  some_ : ∀ i, i < j.n → ∃ d, j.item i = some d
  go : ∀ B' H' al' L' i d, Nx K Z B al B' H' al' L' → j.keep L' → i < j.n → j.item i = some d → J.go i H' ∧ ∀ y H'', J.yld i H' y H'' → ∃ B'', Stp B' H' B'' H'' al' ∧ Rep K B'' al' d y
  stop : ∀ B' H' al' L' i, Nx K Z B al B' H' al' L' → j.keep L' → j.n ≤ i → J.stop i H'
def lI (K : PySem.W.Frag) (Z : Ent) (W : WX) (t : TDI) : TI := fun σ H R => ∃ (B : Hp) (al : List Addr) (L : LH) (env : DEnv) (R0 : ItD → LH → Prop) (X0 : DX), Lift K B H al L ∧ RepS K B al env σ ∧ Mv Z B H al ∧ t env L R0 X0 ∧
  (∀ B' H' al' L' J j, Nx K Z B al B' H' al' L' → ItOk K Z B' al' J j → R0 j L' → R J H') ∧ HX K Z W B al σ X0
abbrev DI (X : Cx) (Z : Ent) (W : WX) (tg it : Expr) (t : TDI) : Prop := PI X tg it (lI X.K Z W t)
theorem _root_.L2.PI.imp {X : Cx} {tg e : Expr} {t t' : TI} (h : PI X tg e t) (f : ∀ σ H Q, t' σ H Q → t σ H Q) : PI X tg e t' := ⟨fun pins s σ H Q I q => h.run pins s σ H Q I (f σ H Q q)⟩
section
variable {X : Cx} {Z : Ent} {W : WX} {K : PySem.W.Frag} {a b c e : Expr} {ta tb tc te : TD} {tA tB' : TDT} {tg : Expr} {tu : TDA} {pos p : Pos}
def dIL (te : TD) : TDI := fun env L R X => te env L (fun d L1 => ∃ ds, lst? L1 d = some ds ∧ R ⟨ds.length, fun i => ds[i]?, fun L' => lst? L' d = some ds⟩ L1) X
theorem di_l (h : DE X Z W e te) : DI X Z W tg e (dIL te) := (pi_list h).imp fun σ H R ⟨B, al, L, env, R0, X0, l, s, m, h, hR, hX⟩ =>
  lE_then l s m h hX fun B1 H1 a1 L1 d v n1 s1 r1 ⟨ds, hd, q⟩ => by
    obtain ⟨p, vs, rfl, hp, ra⟩ := lst_rep n1.l r1 hd
    refine ⟨p, rfl, ⟨vs, hp⟩, hR _ _ _ _ _ _ n1 ⟨fun i hi => ⟨_, List.getElem?_eq_getElem hi⟩, fun B' H' al' L' i d' n' hk _ hi => ?_, fun B' H' al' L' i n' hk hi => ?_⟩ q⟩
    · obtain ⟨p', vs', e', hp', ra'⟩ := lst_rep n'.l (r1.mono n'.s n'.p) hk
      cases e'
      obtain ⟨x, hx, rx⟩ := ra'.get hi
      exact ⟨⟨vs', x, hp', hx⟩, fun y H'' ⟨e2, hy⟩ => by
        have := hy vs' hp'
        rw [hx] at this
        cases this
        subst e2
        exact ⟨B', .refl n'.l.ex, rx⟩⟩
    · obtain ⟨p', vs', e', hp', ra'⟩ := lst_rep n'.l (r1.mono n'.s n'.p) hk
      cases e'
      exact ⟨vs', hp', by rw [← ra'.length]; exact hi⟩
def dIT (te : TD) : TDI := fun env L R X => te env L (fun d L1 => ∃ ds, d = .tup ds ∧ R ⟨ds.length, fun i => ds[i]?, fun _ => True⟩ L1) X
theorem di_t (h : DE X Z W e te) : DI X Z W tg e (dIT te) := (pi_tup h).imp fun σ H R ⟨B, al, L, env, R0, X0, l, s, m, h, hR, hX⟩ =>
  lE_then l s m h hX fun B1 H1 a1 L1 d v n1 s1 r1 ⟨ds, hd, q⟩ => by
    subst hd
    obtain ⟨p, vs, rfl, hp, ra⟩ := tup_rep n1.l r1
    refine ⟨p, rfl, ⟨vs, hp⟩, hR _ _ _ _ _ _ n1 ⟨fun i hi => ⟨_, List.getElem?_eq_getElem hi⟩, fun B' H' al' L' i d' n' hk _ hi => ?_, fun B' H' al' L' i n' hk hi => ?_⟩ q⟩
    · obtain ⟨p', vs', e', hp', ra'⟩ := tup_rep n'.l (r1.mono n'.s n'.p)
      cases e'
      obtain ⟨x, hx, rx⟩ := ra'.get hi
      exact ⟨⟨vs', x, hp', hx⟩, fun y H'' ⟨e2, hy⟩ => by
        have := hy vs' hp'
        rw [hx] at this
        cases this
        subst e2
        exact ⟨B', .refl n'.l.ex, rx⟩⟩
    · obtain ⟨p', vs', e', hp', ra'⟩ := tup_rep n'.l (r1.mono n'.s n'.p)
      cases e'
      exact ⟨vs', hp', by rw [← ra'.length]; exact hi⟩
/-- the signs of a text -/
def sgn (z : Str) (i : Nat) : Option D := (z.cps[i]?).map fun c => .str ⟨#[c]⟩
theorem sgn_ok {B : Hp} {al : List Addr} {z : Str} : ItOk K Z B al (Its z) ⟨z.cps.size, sgn z, fun _ => True⟩ := ⟨fun i (hi : i < z.cps.size) => ⟨.str ⟨#[z.cps[i]]⟩, by show (z.cps[i]?).map _ = _; rw [Array.getElem?_eq_getElem hi]; rfl⟩, fun B' H' al' L' i d n' _ (hl : i < z.cps.size) hi => ⟨hl, fun y H'' ⟨e2, c, hc, ey⟩ => by
  subst e2
  subst ey
  have hi' : (z.cps[i]?).map (fun c => D.str ⟨#[c]⟩) = some d := hi
  rw [hc] at hi'
  cases hi'
  exact ⟨B', .refl n'.l.ex, .str _⟩⟩, fun _ _ _ _ _ _ _ (hi : z.cps.size ≤ _) => hi⟩
def dIS (te : TD) : TDI := fun env L R X => te env L (fun d L1 => ∃ z, d = .str z ∧ R ⟨z.cps.size, sgn z, fun _ => True⟩ L1) X
theorem di_s (h : DE X Z W e te) : DI X Z W tg e (dIS te) := (pi_str h).imp fun σ H R ⟨B, al, L, env, R0, X0, l, s, m, h, hR, hX⟩ =>
  lE_then l s m h hX fun B1 H1 a1 L1 d v n1 s1 r1 ⟨z, hd, q⟩ => by
    subst hd
    obtain rfl := rep_str r1
    exact ⟨z, rfl, hR _ _ _ _ _ _ n1 sgn_ok q⟩
def rngD (lo : Int) (n : Nat) : ItD := ⟨n, fun i => some (.int (lo + (i : Int))), fun _ => True⟩
theorem rng_ok {B : Hp} {al : List Addr} {lo : Int} {n : Nat} : ItOk K Z B al (Itr lo n) (rngD lo n) := ⟨fun i _ => ⟨_, rfl⟩, fun B' H' al' L' i d n' _ hl hi => ⟨hl, fun y H'' ⟨e2, ey⟩ => by
  subst e2
  subst ey
  cases hi
  exact ⟨B', .refl n'.l.ex, .int _⟩⟩, fun _ _ _ _ _ _ _ hi => hi⟩
def dIR1 (t : TDA) : TDI := fun env L R X => t env L (fun ds L1 => ∃ j : Int, ds = [.int j] ∧ (-(2 ^ 62) ≤ j ∧ j < 2 ^ 62) ∧ R (rngD 0 j.toNat) L1) X
def dIR2 (t : TDA) : TDI := fun env L R X => t env L (fun ds L1 => ∃ i j : Int, ds = [.int i, .int j] ∧ ((-(2 ^ 62) ≤ i ∧ i < 2 ^ 62) ∧ (-(2 ^ 62) ≤ j ∧ j < 2 ^ 62)) ∧ R (rngD i (j - i).toNat) L1) X
theorem di_r1 (hm : X.mg "range" = none) (ha : DA X Z W [a] tu) (hg : Gl X "range" := by rfl) (hs : starEach [a] X.env = [(false, eval a X.env)] := by rfl) : DI X Z W tg (.Call (.Name "range" p) [a] [] pos) (dIR1 tu) :=
  (pi_range1 hg hm ha hs).imp fun σ H R ⟨B, al, L, env, R0, X0, l, s, m, h, hR, hX⟩ => lA_then l s m h hX fun B1 H1 a1 L1 ds vs n1 s1 r1 ⟨j, hd, ⟨h1, h2⟩, q⟩ => by
    subst hd
    cases r1 with
    | cons r2 r3 =>
      cases r3
      cases r2
      exact ⟨j, rfl, h1, h2, hR _ _ _ _ _ _ n1 rng_ok q⟩
theorem di_r2 (hm : X.mg "range" = none) (ha : DA X Z W [a, b] tu) (hg : Gl X "range" := by rfl) (hs : starEach [a, b] X.env = [(false, eval a X.env), (false, eval b X.env)] := by rfl) (hs2 : starEach [b] X.env = [(false, eval b X.env)] := by rfl) :
    DI X Z W tg (.Call (.Name "range" p) [a, b] [] pos) (dIR2 tu) :=
  (pi_range2 hg hm ha hs hs2).imp fun σ H R ⟨B, al, L, env, R0, X0, l, s, m, h, hR, hX⟩ => lA_then l s m h hX fun B1 H1 a1 L1 ds vs n1 s1 r1 ⟨i, j, hd, ⟨⟨h1, h2⟩, h3, h4⟩, q⟩ => by
    subst hd
    cases r1 with
    | cons r2 r3 =>
      cases r3 with
      | cons r4 r5 =>
        cases r5
        cases r2
        cases r4
        exact ⟨i, j, rfl, ⟨h1, h2, h3, h4⟩, hR _ _ _ _ _ _ n1 rng_ok q⟩
/-- for i, x in enumerate(xs) -/
def enumD (d : D) (ds : List D) : ItD := ⟨ds.length, fun i => (ds[i]?).map fun x => .tup [.int (i : Int), x], fun L' => lst? L' d = some ds⟩
def dIE (t : TDA) : TDI := fun env L R X => t env L (fun vs L1 => ∃ d ds, vs = [d] ∧ lst? L1 d = some ds ∧ R (enumD d ds) L1) X
theorem di_e {elts : List Expr} {kk : Nat} {tpos : Pos} (hm : X.mg "enumerate" = none) (ha : DA X Z W [e] tu) (hg : Gl X "enumerate" := by rfl) (hs : starEach [e] X.env = [(false, eval e X.env)] := by rfl) : DI X Z W (.Tuple elts kk tpos) (.Call (.Name "enumerate" p) [e] [] pos) (dIE tu) :=
  (pi_enum hg hm ha hs).imp fun σ H R ⟨B, al, L, env, R0, X0, l, s, m, h, hR, hX⟩ => lA_then l s m h hX fun B1 H1 a1 L1 ds vs n1 s1 r1 ⟨d, xs, hd, hl, q⟩ => by
    subst hd
    cases r1 with
    | cons r2 r3 =>
      cases r3
      obtain ⟨p, ws, rfl, hp, ra⟩ := lst_rep n1.l r2 hl
      refine ⟨p, ws, rfl, hp, hR _ _ _ _ _ _ n1 ⟨fun i hi => ⟨_, by show (xs[i]?).map _ = _; rw [List.getElem?_eq_getElem hi]; rfl⟩, fun B' H' al' L' i d' n' hk _ hi => ?_, fun B' H' al' L' i n' hk hi => ?_⟩ q⟩
      · obtain ⟨p', vs', e', hp', ra'⟩ := lst_rep n'.l (r2.mono n'.s n'.p) hk
        cases e'
        have hi' : (xs[i]?).map (fun x => D.tup [.int (i : Int), x]) = some d' := hi
        cases hx : xs[i]? with
        | none => rw [hx] at hi'; cases hi'
        | some x =>
          rw [hx] at hi'
          cases hi'
          obtain ⟨w, hw, rw'⟩ := ra'.get hx
          refine ⟨⟨vs', w, hp', hw⟩, fun y H'' ⟨T, x2, e2, nT, e3, hy⟩ => ?_⟩
          have := hy vs' hp'
          rw [hw] at this
          cases this
          subst e2
          subst e3
          obtain ⟨n4, r4⟩ := new_tup n'.l n'.m nT (.cons (.int (i : Int)) (.one rw'))
          exact ⟨_, Stp.new n'.l.ex nT, r4⟩
      · obtain ⟨p', vs', e', hp', ra'⟩ := lst_rep n'.l (r2.mono n'.s n'.p) hk
        cases e'
        exact ⟨vs', hp', by rw [← ra'.length]; exact hi⟩
/-- for x, y in zip(xs, ys) -/
def zipD (d d' : D) (xs ys : List D) : ItD := ⟨min xs.length ys.length, fun i => match xs[i]?, ys[i]? with
  | some x, some y => some (.tup [x, y])
  | _, _ => none, fun L' => lst? L' d = some xs ∧ lst? L' d' = some ys⟩
def dIZ (t : TDA) : TDI := fun env L R X => t env L (fun vs L1 => ∃ d d' xs ys, vs = [d, d'] ∧ lst? L1 d = some xs ∧ lst? L1 d' = some ys ∧ R (zipD d d' xs ys) L1) X
theorem di_z {e2 : Expr} {elts : List Expr} {kk : Nat} {tpos : Pos} (hm : X.mg "zip" = none) (ha : DA X Z W [e, e2] tu) (hg : Gl X "zip" := by rfl) (hs : starEach [e, e2] X.env = (false, eval e X.env) :: starEach [e2] X.env := by rfl) (hpl : (backTo pos (starEach [e2] X.env)).any (·.1) = false := by rfl) :
    DI X Z W (.Tuple elts kk tpos) (.Call (.Name "zip" p) [e, e2] [] pos) (dIZ tu) :=
  (pi_zip hg hm ha hs hpl).imp fun σ H R ⟨B, al, L, env, R0, X0, l, s, m, h, hR, hX⟩ => lA_then l s m h hX fun B1 H1 a1 L1 ds vs n1 s1 r1 ⟨d, d', xs, ys, hd, hl, hl', q⟩ => by
    subst hd
    cases r1 with
    | cons r2 r3 =>
      cases r3 with
      | cons r4 r5 =>
        cases r5
        obtain ⟨p, ws, rfl, hp, ra⟩ := lst_rep n1.l r2 hl
        obtain ⟨p2, ws2, rfl, hp2, ra2⟩ := lst_rep n1.l r4 hl'
        refine ⟨p, p2, ws, ws2, rfl, hp, hp2, hR _ _ _ _ _ _ n1 ⟨fun i hi => ?_, fun B' H' al' L' i x' n' hk hlt hi => ?_, fun B' H' al' L' i n' hk hi => ?_⟩ q⟩
        · have h1 : i < xs.length := Nat.lt_of_lt_of_le hi (Nat.min_le_left _ _)
          have h2 : i < ys.length := Nat.lt_of_lt_of_le hi (Nat.min_le_right _ _)
          exact ⟨.tup [xs[i], ys[i]], by show (match xs[i]?, ys[i]? with | some x, some y => some (D.tup [x, y]) | _, _ => none) = _; rw [List.getElem?_eq_getElem h1, List.getElem?_eq_getElem h2]⟩
        · obtain ⟨p', vs', e', hp', ra'⟩ := lst_rep n'.l (r2.mono n'.s n'.p) hk.1
          cases e'
          obtain ⟨p3, vs3, e3, hp3, ra3⟩ := lst_rep n'.l (r4.mono n'.s n'.p) hk.2
          cases e3
          have h1 : i < xs.length := Nat.lt_of_lt_of_le hlt (Nat.min_le_left _ _)
          have h2 : i < ys.length := Nat.lt_of_lt_of_le hlt (Nat.min_le_right _ _)
          have hi' : (match xs[i]?, ys[i]? with | some x, some y => some (D.tup [x, y]) | _, _ => none) = some x' := hi
          rw [List.getElem?_eq_getElem h1, List.getElem?_eq_getElem h2] at hi'
          cases hi'
          obtain ⟨w, hw, rw'⟩ := ra'.get (List.getElem?_eq_getElem h1)
          obtain ⟨w2, hw2, rw2⟩ := ra3.get (List.getElem?_eq_getElem h2)
          refine ⟨⟨vs', vs3, w, w2, hp', hp3, hw, hw2⟩, fun y H'' ⟨T, x2, y2, e2, nT, e3, hy, hy2⟩ => ?_⟩
          have := hy vs' hp'
          rw [hw] at this
          cases this
          have := hy2 vs3 hp3
          rw [hw2] at this
          cases this
          subst e2
          subst e3
          obtain ⟨n4, r4⟩ := new_tup n'.l n'.m nT (.cons rw' (.one rw2))
          exact ⟨_, Stp.new n'.l.ex nT, r4⟩
        · obtain ⟨p', vs', e', hp', ra'⟩ := lst_rep n'.l (r2.mono n'.s n'.p) hk.1
          cases e'
          obtain ⟨p3, vs3, e3, hp3, ra3⟩ := lst_rep n'.l (r4.mono n'.s n'.p) hk.2
          cases e3
          have hi' : min xs.length ys.length ≤ i := hi
          exact ⟨vs', vs3, hp', hp3, by rw [← ra'.length, ← ra3.length]; omega⟩
/-- for x in reversed(xs) -/
def revD (d : D) (ds : List D) : ItD := ⟨ds.length, fun i => ds[ds.length - 1 - i]?, fun L' => lst? L' d = some ds⟩
def dIV (t : TDA) : TDI := fun env L R X => t env L (fun vs L1 => ∃ d ds, vs = [d] ∧ lst? L1 d = some ds ∧ R (revD d ds) L1) X
theorem di_v (hm : X.mg "reversed" = none) (ha : DA X Z W [e] tu) (hg : Gl X "reversed" := by rfl) (hs : starEach [e] X.env = [(false, eval e X.env)] := by rfl) : DI X Z W tg (.Call (.Name "reversed" p) [e] [] pos) (dIV tu) :=
  (pi_reversed hg hm ha hs).imp fun σ H R ⟨B, al, L, env, R0, X0, l, s, m, h, hR, hX⟩ => lA_then l s m h hX fun B1 H1 a1 L1 ds vs n1 s1 r1 ⟨d, xs, hd, hl, q⟩ => by
    subst hd
    cases r1 with
    | cons r2 r3 =>
      cases r3
      obtain ⟨p, ws, rfl, hp, ra⟩ := lst_rep n1.l r2 hl
      refine ⟨p, ws, rfl, hp, hR _ _ _ _ _ _ n1 ⟨fun i hi => ⟨_, List.getElem?_eq_getElem (by have : i < xs.length := hi; omega)⟩, fun B' H' al' L' i d' n' hk hlt hi => ?_, fun B' H' al' L' i n' hk hi => by rw [← ra.length]; exact hi⟩ q⟩
      obtain ⟨p', vs', e', hp', ra'⟩ := lst_rep n'.l (r2.mono n'.s n'.p) hk
      cases e'
      obtain ⟨w, hw, rw'⟩ := ra'.get hi
      rw [ra.length] at hw
      refine ⟨⟨by rw [← ra.length]; exact hlt, vs', w, hp', hw⟩, fun y H'' ⟨e2, hy⟩ => ?_⟩
      have := hy vs' hp'
      rw [hw] at this
      cases this
      subst e2
      exact ⟨B', .refl n'.l.ex, rw'⟩

/-! ### for -/
def dFor (wi : TDI) (g : TDG) (tb : TDS) : TDS := fun DD env L => wi env L (fun j L1 => ∃ I : Nat → DEnv → LH → Prop, I 0 env L1 ∧ (∀ i env L, I i env L → j.keep L) ∧
  (∀ i env L x, i < j.n → j.item i = some x → I i env L → g x env L (fun env2 L2 => tb ⟨I (i + 1), DD.rt, DD.nx, I (i + 1), DD.ex⟩ env2 L2)) ∧ ∀ env L, I j.n env L → DD.nx env L) (fun C fs L1 => DD.ex C fs env L1)
variable {k : Nat} {it tx : Expr} {body : List Stmt}
theorem ds_for {wi : TDI} {g : TDG} {tb : TDS} (bd : Bd X W k) (hi : DI X Z W tx it wi) (hg : DG X Z tx g) (hb : DSs X Z W body tb) (hs : ∀ x, foldedSetIterable it X.env x = pure x := by intro _; rfl) : DS X Z W (.For tx it body [] pos) (dFor wi g tb) :=
  (ps_for bd.hp bd.calm hi hg hb hs).imp fun D σ H ⟨B, al, L, env, DD, l, s, m, h, f⟩ => by
    refine ⟨B, al, L, env, _, _, l, s, m, h, fun B1 H1 a1 L1 J j n1 ok ⟨I, h0, hk, hst, hd⟩ => ?_, f.hx s⟩
    refine ⟨fun i mm σ' H' => mm + i = j.n ∧ ∃ B' al' L' env', Nx X.K Z B1 a1 B' H' al' L' ∧ RepS X.K B' al' env' σ' ∧ I i env' L', ⟨j.n, rfl, B1, a1, L1, env, .refl n1.l n1.m, s.mono n1.s n1.p, h0⟩, fun i mm σ1 H2 ⟨hm, B2, a2, L2, env2, n2, s2, h2⟩ => ?_⟩
    have n12 := n1.trans n2
    by_cases hlt : i < j.n
    · obtain ⟨d, hd1⟩ := ok.some_ i hlt
      obtain ⟨go, yl⟩ := ok.go B2 H2 a2 L2 i d n2 (hk _ _ _ h2) hlt hd1
      refine .inr ⟨go, fun σ' H' => ∃ B' al' L' env', Nx X.K Z B1 a1 B' H' al' L' ∧ RepS X.K B' al' env' σ' ∧ I (i + 1) env' L', fun σ' H' ⟨B', al', L', env', n', s', h'⟩ => ⟨mm - 1, by omega, by omega, B', al', L', env', n', s', h'⟩, fun x H' hy => ?_⟩
      obtain ⟨B3, t3, rd⟩ := yl x H' hy
      have n3 := Nx.stp n2.l n2.m t3
      refine ⟨B3, a2, L2, env2, d, _, n3.l, s2.mono n3.s n3.p, n3.m, rd, hst i env2 L2 d hlt hd1 h2, fun B4 H4 a4 L4 env4 σ4 n4 s4 q4 => ?_⟩
      have n14 := (n2.trans n3).trans n4
      have n04 := n1.trans n14
      exact ⟨B4, a4, L4, env4, ⟨I (i + 1), DD.rt, DD.nx, I (i + 1), DD.ex⟩, n4.l, s4, n4.m, q4, fun B' H' al' L' env' σ' n' s' h' => ⟨B', al', L', env', n14.trans n', s', h'⟩,
        fun _ _ _ _ _ _ n' => f.rt _ _ _ _ _ _ (n04.trans n'), fun _ _ _ _ _ _ n' => f.nx _ _ _ _ _ _ (n04.trans n'), fun B' H' al' L' env' σ' n' s' h' => ⟨B', al', L', env', n14.trans n', s', h'⟩,
        fun _ _ _ _ _ _ _ _ _ n' => f.ex _ _ _ _ _ _ _ _ _ (n04.trans n')⟩
    · refine .inl ⟨ok.stop B2 H2 a2 L2 i n2 (hk _ _ _ h2) (by omega), f.nx _ _ _ _ _ _ n12 s2 (hd _ _ ?_)⟩
      have : i = j.n := by omega
      rw [← this]; exact h2
/-! ### while -/
def dWhile (tc : TDT) (tb : TDS) : TDS := fun DD env L => ∃ I : Nat → DEnv → LH → Prop, (∃ m, I m env L) ∧ ∀ m env L, I m env L → tc env L (fun b L1 => if b = true then tb ⟨fun env' L' => ∃ m', m' < m ∧ I m' env' L', DD.rt, DD.nx, fun env' L' => ∃ m', m' < m ∧ I m' env' L', DD.ex⟩ env L1 else DD.nx env L1) (fun C fs L1 => DD.ex C fs env L1)
theorem ds_while {tb : TDS} (bd : Bd X W k) (hc : DT X Z W c tA) (hb : DSs X Z W body tb) : DS X Z W (.While c body [] pos) (dWhile tA tb) :=
  (ps_while bd.hp hc hb).imp fun D σ H ⟨B, al, L, env, DD, l, s, m, ⟨I, ⟨m0, h0⟩, hst⟩, f⟩ => by
    refine ⟨fun mm σ' H' => ∃ B' al' L' env', Nx X.K Z B al B' H' al' L' ∧ RepS X.K B' al' env' σ' ∧ I mm env' L', ⟨m0, B, al, L, env, .refl l m, s, h0⟩, fun mm σ1 H1 ⟨B1, a1, L1, env1, n1, s1, h1⟩ => ?_⟩
    refine lT_then n1.l s1 n1.m (hst mm env1 L1 h1) ((f.later n1).hx s1) fun B2 H2 a2 L2 b n2 s2 h2 => ?_
    have n12 := n1.trans n2
    cases b with
    | false => exact f.nx _ _ _ _ _ _ n12 s2 h2
    | true =>
      refine ⟨fun σ' H' => ∃ m', m' < mm ∧ ∃ B' al' L' env', Nx X.K Z B al B' H' al' L' ∧ RepS X.K B' al' env' σ' ∧ I m' env' L', fun _ _ z => z, ?_⟩
      exact ⟨B2, a2, L2, env1, _, n2.l, s2, n2.m, h2, fun B' H' al' L' env' σ' n' s' ⟨m', hm', h'⟩ => ⟨m', hm', B', al', L', env', n12.trans n', s', h'⟩,
        fun _ _ _ _ _ _ n' => f.rt _ _ _ _ _ _ (n12.trans n'), fun _ _ _ _ _ _ n' => f.nx _ _ _ _ _ _ (n12.trans n'), fun B' H' al' L' env' σ' n' s' ⟨m', hm', h'⟩ => ⟨m', hm', B', al', L', env', n12.trans n', s', h'⟩,
        fun _ _ _ _ _ _ _ _ _ n' => f.ex _ _ _ _ _ _ _ _ _ (n12.trans n')⟩
end
end DL
set_option Elab.async false
set_option linter.all false
set_option maxRecDepth 100000
set_option maxHeartbeats 2000000
namespace DL
open PySem PySem.Spec PyProof.Rows L2

/-! ### defs by what they do with values -/
abbrev DSp := List D → LH → DK → DX → Prop
def spOf (K : PySem.W.Frag) (S : DSp) : Sp := fun vs H Q E => ∃ (B : Hp) (al : List Addr) (L : LH) (ds : List D) (Q0 : DK) (X0 : DX), Lift K B H al L ∧ RepA K B al ds vs ∧ S ds L Q0 X0 ∧
  (∀ B' H' al' L' d v, Lift K B' H' al' L' → Mv ⟨B, H, al⟩ B' H' al' → Rep K B' al' d v → Q0 d L' → Q v H') ∧
  (∀ B' H' al' L' C fs dd, Lift K B' H' al' L' → Mv ⟨B, H, al⟩ B' H' al' → XRep K ⟨B, H, al⟩ B' H' al' fs dd → X0 C fs L' → E (.ref C) dd H')
theorem XRep.up {K : PySem.W.Frag} {Z : Ent} {B H B' H' : Hp} {al al' : List Addr} {fs : List (Str × D)} {dd : Option Addr} (m : Mv Z B H al) (x : XRep K ⟨B, H, al⟩ B' H' al' fs dd) : XRep K Z B' H' al' fs dd := by
  rcases x with x | ⟨a, vs, e, h, n, r⟩
  · exact .inl x
  · refine .inr ⟨a, vs, e, h, ?_, r⟩
    cases q : Z.H a with
    | none => rfl
    | some o => exact absurd n (m.up a (by rw [q]; exact fun z => by cases z))
/-- a def of the text that keeps S, called by its name -/
def FnD (P : Program) (w : World) (K : PySem.W.Frag) (mg : Str → Option Value) (base : Heap) (k : Nat) (x : Str) (ps : List Str) (S : DSp) : Prop :=
  ∃ (f : Addr) (fd : FuncData), mg x = some (.ref f) ∧ PySem.W.keepIn K (.ref f) = true ∧ Binds K fd ps [] ∧ FnOk P w K mg base (L2.CX P w) k f fd ps (spOf K S)
theorem FnD.mono {P : Program} {w : World} {K : PySem.W.Frag} {mg : Str → Option Value} {base : Heap} {j k : Nat} {x : Str} {ps : List Str} {S : DSp} (F : FnD P w K mg base j x ps S) (h : j ≤ k) : FnD P w K mg base k x ps S := by
  obtain ⟨f, fd, h1, h2, h3, h4⟩ := F
  exact ⟨f, fd, h1, h2, h3, h4.mono h⟩
/-- a weaker promise -/
theorem FnD.imp {P : Program} {w : World} {K : PySem.W.Frag} {mg : Str → Option Value} {base : Heap} {k : Nat} {x : Str} {ps : List Str} {S S' : DSp} (F : FnD P w K mg base k x ps S) (h : ∀ ds L Q X, S' ds L Q X → S ds L Q X) : FnD P w K mg base k x ps S' := by
  obtain ⟨f, fd, h1, h2, h3, h4⟩ := F
  exact ⟨f, fd, h1, h2, h3, h4.imp fun vs H Q E ⟨B, al, L, ds, Q0, X0, l, r, hs, hq, hx⟩ => ⟨B, al, L, ds, Q0, X0, l, r, h _ _ _ _ hs, hq, hx⟩⟩
def dCall (S : DSp) (ta : TDA) : TD := fun env L Q X => ta env L (fun ds L1 => S ds L1 Q X) X
section
variable {X : Cx} {Z : Ent} {W : WX} {K : PySem.W.Frag} {a b c e : Expr} {ta tb tc te : TD} {tA tB' : TDT} {tu : TDA} {pos p : Pos} {es : List Expr} {k : Nat} {x : Str} {ps : List Str} {S : DSp}
theorem sp_then {σ : L2.St} {B H : Hp} {al : List Addr} {L : LH} {ds : List D} {vs : List V} {Q : VK} {Q0 : DK} {X0 : DX} (l : Lift K B H al L) (m : Mv Z B H al) (r : RepA K B al ds vs) (h : S ds L Q0 X0) (hX : HX K Z W B al σ X0)
    (hQ : ∀ B' H' al' L' d v, Nx K Z B al B' H' al' L' → Rep K B' al' d v → Q0 d L' → Q v H') : spOf K S vs H Q (WE W σ) :=
  ⟨B, al, L, ds, Q0, X0, l, r, h, fun B' H' al' L' d v l' m' r' q => hQ _ _ _ _ _ _ ⟨l', m.trans m', m'.bb, m'.pre⟩ r' q, fun B' H' al' L' C fs dd l' m' xr q => hX _ _ _ _ _ _ _ ⟨l', m.trans m', m'.bb, m'.pre⟩ (xr.up m) q⟩
theorem de_call (F : FnD X.prog X.w X.K X.mg X.base k x ps S) (hr : Room k X.A) (tk : Takes X W) (ha : DA X Z W (e :: es) tu) (hg : Gl X x := by rfl) (hdb : (x == ("__debug__" : Str)) = false := by decide)
    (he : starEach (e :: es) X.env = (false, eval e X.env) :: starEach es X.env := by rfl) (hpl : (backTo pos (starEach es X.env)).any (·.1) = false := by rfl) : DE X Z W (.Call (.Name x p) (e :: es) [] pos) (dCall S tu) := by
  obtain ⟨f, fd, h1, h2, h3, h4⟩ := F
  exact (pe_callS h4 hr hg h1 h2 h3 (fun σ => passAt tk σ) ha hdb he hpl).imp fun σ H Q ⟨B, al, L, env, Q0, X0, l, s, m, h, hQ, hX⟩ =>
    lA_then l s m h hX fun B1 H1 a1 L1 ds vs n1 s1 r1 h1 => sp_then n1.l n1.m r1 h1 (HX.nx hX n1) fun _ _ _ _ _ _ n2 r2 q2 => hQ _ _ _ _ _ _ (n1.trans n2) r2 q2
theorem de_call0 (F : FnD X.prog X.w X.K X.mg X.base k x ps S) (hr : Room k X.A) (tk : Takes X W) (hg : Gl X x := by rfl) (hdb : (x == ("__debug__" : Str)) = false := by decide) : DE X Z W (.Call (.Name x p) [] [] pos) (dCall S dNil) := by
  obtain ⟨f, fd, h1, h2, h3, h4⟩ := F
  refine ⟨fun pins s σ H Q I ⟨B, al, L, env, Q0, X0, l, s', m, h, hQ, hX⟩ => ?_⟩
  refine wpAny_Call_Name_kw (ld_glob I hg h1 ?_ hdb)
  exact PySem.W.callWith_K0 I.kIn h2 (run_fnS (us := []) h4 hr h3 (E := WE W) (passAt tk σ) I .nil (sp_then l m .nil h hX hQ))
end

/-! ### a def's proof -/
def dEnd (Q : DK) (X : DX) : DEnds := ⟨fun _ L => Q .non L, Q, fun _ _ => False, fun _ _ => False, fun C fs _ L => X C fs L⟩
def startD (N : List Str) (ds : List D) : DEnv := ds.map some ++ List.replicate (N.length - ds.length) none
theorem start_rep {K : PySem.W.Frag} {B : Hp} {al : List Addr} {N : List Str} {ds : List D} {vs : List V} (r : RepA K B al ds vs) : RepS K B al (startD N ds) (L2.start N vs) := by
  unfold startD L2.start
  rw [r.length]
  refine ⟨by rw [List.length_append, List.length_append, List.length_map, List.length_map, List.length_replicate, List.length_replicate, r.length], fun i d h => ?_⟩
  by_cases hi : i < ds.length
  · rw [List.getElem?_append_left (by simpa using hi), List.getElem?_map] at h
    cases q : ds[i]? with
    | none => rw [q] at h; cases h
    | some d' =>
      rw [q] at h
      cases h
      obtain ⟨v, hv, rv⟩ := r.get q
      refine ⟨v, ?_, rv⟩
      rw [List.getElem?_append_left (by rw [List.length_map, ← r.length]; exact hi), List.getElem?_map, hv]
      rfl
  · rw [List.getElem?_append_right (by simpa using hi), List.getElem?_replicate] at h
    split at h <;> cases h
/-- the wish of a body -/
abbrev WB (E : XK) : WX := fun cls d _ H => E cls d H
section
variable {P : Program} {w : World} {K : PySem.W.Frag} {mg : Str → Option Value} {base : Heap}
theorem fn_ok {x qual : Str} {st : Stmt} {f : Addr} {fd : FuncData} {N ps : List Str} {k : Nat} {S : DSp} (F : Fun K x qual st f fd) (sc : FnScope N ps (defScope st)) (hlen : ∀ ds L Q X, S ds L Q X → ds.length = ps.length)
    (hb : ∀ (cdv : Value) (A : Around) (outer : List PySem.Env) (s : Shared) (H : Hp) (E : XK) (Z : Ent), Bd (cxOf (L2.CX P w) P w K mg base N qual (defScope st) f cdv A outer s H E) (WB E) k →
      ∃ t, DSs (cxOf (L2.CX P w) P w K mg base N qual (defScope st) f cdv A outer s H E) Z (WB E) (defBody st) t ∧ ∀ ds L Q X, S ds L Q X → t (dEnd Q X) (startD N ds) L) :
    FnOk P w K mg base (L2.CX P w) (k + 1) f fd ps (spOf K S) := by
  refine F.okX sc (fun vs H Q E ⟨B, al, L, ds, Q0, X0, l, r, hs, _⟩ => by rw [← r.length]; exact hlen _ _ _ _ hs) fun cdv A outer s H vs Q E hr ⟨B, al, L, ds, Q0, X0, l, r, hs, hq, hx⟩ => ?_
  obtain ⟨t, ht, hsp⟩ := hb cdv A outer s H E ⟨B, H, al⟩ ⟨takes_of rfl rfl rfl rfl, passes_of rfl, hr, rfl⟩
  refine ⟨_, ht, B, al, L, startD N ds, dEnd Q0 X0, l, start_rep r, Mv.refl, hsp ds L Q0 X0 hs, ?_⟩
  exact ⟨fun B' H' al' L' env σ n _ h => hq B' H' al' L' _ _ n.l n.m .non h, fun B' H' al' L' d v n r' h => hq B' H' al' L' d v n.l n.m r' h, fun _ _ _ _ _ _ _ _ h => h.elim, fun _ _ _ _ _ _ _ _ h => h.elim,
    fun B' H' al' L' env σ C fs dd n _ xr h => hx B' H' al' L' C fs dd n.l n.m xr h⟩
/-- .. called by its name -/
theorem fn_mk {x : Str} {st : Stmt} {N ps : List Str} {k : Nat} {S : DSp} (F : ∃ f fd, mg x = some (.ref f) ∧ Fun K x x st f fd) (bi : ∀ (kV doc pm : Value) (an : Option Addr) (cdv ct : Value) (us : List Value), us.length = ps.length → bindArgs (PySem.W.fnOf x x (defArgs st) (defBody st) (defScope st) .none kV doc pm an cdv ct) ⟨us, []⟩ = pure (ps.zip us))
    (sc : FnScope N ps (defScope st)) (hlen : ∀ ds L Q X, S ds L Q X → ds.length = ps.length)
    (hb : ∀ (f : Addr) (cdv : Value) (A : Around) (outer : List PySem.Env) (s : Shared) (H : Hp) (E : XK) (Z : Ent), Bd (cxOf (L2.CX P w) P w K mg base N x (defScope st) f cdv A outer s H E) (WB E) k →
      ∃ t, DSs (cxOf (L2.CX P w) P w K mg base N x (defScope st) f cdv A outer s H E) Z (WB E) (defBody st) t ∧ ∀ ds L Q X, S ds L Q X → t (dEnd Q X) (startD N ds) L) :
    FnD P w K mg base (k + 1) x ps S := by
  obtain ⟨f, fd, g, F⟩ := F
  exact ⟨f, fd, g, F.kp, F.binds bi, fn_ok F sc hlen (hb f)⟩
end

/-! ### exceptions -/
section
variable {X : Cx} {Z : Ent} {W : WX} {K : PySem.W.Frag} {a b c e : Expr} {ta tb tc te : TD} {tA tB' : TDT} {tu : TDA} {pos p : Pos} {es : List Expr} {k : Nat} {x : Str}
def veT : List Value := [.type "ValueError", .type "Exception", .type "BaseException", .type "object"]
/-- an own class of errors, over ValueError, without an __init__ -/
structure ExK (K : PySem.W.Frag) (mg : Str → Option Value) (x : Str) (C : Addr) : Prop where
  g : mg x = some (.ref C)
  kp : PySem.W.keepIn K (.ref C) = true
  q : PySem.W.excIn K C veT "ValueError.__new__" = true
  sB : PySem.W.subIn K (.ref C) (.type "BaseException") = some true
  ty : PySem.W.typeIn K (.ref C) = some (.type "type")
def dRaise (C : Addr) : TDS := fun DD env L => DD.ex C [] env L
theorem ds_raise {C : Addr} {m : Str} {j : Nat} {p2 pos2 : Pos} (bd : Bd X W k) (T : ExK X.K X.mg x C) (hg : Gl X x := by rfl) (hdb : (x == ("__debug__" : Str)) = false := by decide) : DS X Z W (.Raise (some (.Call (.Name x p) [.Constant (.str m) j p2] [] pos)) none pos2) (dRaise C) :=
  (ps_raise bd.calm bd.tk (pmk_own PySem.F.excBase_ValueError T.q T.g T.kp (raises_own T.sB T.ty) hg hdb)).imp fun D σ H ⟨B, al, L, env, DD, l, s, m, h, f⟩ =>
    f.ex _ _ _ _ _ _ _ _ _ (.refl l m) s (.inl ⟨rfl, rfl⟩) h

/-- within an except suite nothing else is let out -/
abbrev W0 : WX := fun _ _ _ _ => False
/-- the handler c catches the class C, or not -/
def Cat (K : PySem.W.Frag) (c : Value) (C : Addr) (b : Bool) : Prop := PySem.W.exmOne K (.ref C) c = some b
/-- try: t except c as n: ts; slot i is n's -/
def dTryAs (K : PySem.W.Frag) (c : Value) (i : Nat) (t : TDS) (ts : Addr → Option Addr → Addr → List (Str × D) → TDS) : TDS := fun DD env L =>
  t ⟨DD.nx, DD.rt, DD.bk, DD.ct, fun C fs env' L' => ∃ b, Cat K c C b ∧ (b = true → ∀ (a : Addr) (d : Option Addr), (fs ≠ [] → d ≠ none) →
    ts a d C fs ⟨fun env2 L2 => DD.nx (env2.set i none) L2, DD.rt, fun env2 L2 => DD.bk (env2.set i none) L2, fun env2 L2 => DD.ct (env2.set i none) L2, fun _ _ _ _ => False⟩ (env'.set i (some (.xcp a d C fs))) L') ∧ (b = false → DD.ex C fs env' L')⟩ env L
/-- the exception's dict is laid by -/
theorem xrep_in {B H : Hp} {al : List Addr} {L : LH} {fs : List (Str × D)} {dd : Option Addr} (a C : Addr) (l : Lift K B H al L) (m : Mv Z B H al) (x : XRep K Z B H al fs dd) : ∃ B', Nx K Z B al B' H al L ∧ Rep K B' al (.xcp a dd C fs) (.ref a) := by
  rcases x with ⟨rfl, rfl⟩ | ⟨d, vs, rfl, hd, hn, r⟩
  · exact ⟨B, .refl l m, .xcp0⟩
  · cases q : B d with
    | some o =>
      have := l.ex d o q
      rw [hd] at this
      cases this
      exact ⟨B, .refl l m, .xcp1 q r⟩
    | none =>
      have same : Same B (upd B d (.xd vs)) := fun b o h => by rw [upd_ne (ne_of_none h q)]; exact h
      refine ⟨upd B d (.xd vs), ⟨⟨fun b o h => ?_, l.len, l.nd, l.th, fun k b od h1 h2 h3 => ?_⟩, ⟨m.bb.trans same, m.fr, fun p h1 h2 h3 => ?_, m.la, m.pre, m.up⟩, same, List.prefix_refl _⟩, .xcp1 upd_same (r.mono same (List.prefix_refl _))⟩
      · by_cases e : b = d
        · subst e; rw [upd_same] at h; cases h; exact hd
        · rw [upd_ne e] at h; exact l.ex b o h
      · obtain ⟨n1, o, h4, h5⟩ := l.ob k b od h1 h2 h3
        have e : b ≠ d := fun z => by
          subst z
          rw [hd] at h4
          cases h4
          cases h5
        exact ⟨by rw [upd_ne e]; exact n1, o, h4, h5.mono same (List.prefix_refl _)⟩
      · have e : p ≠ d := fun z => by subst z; exact h2 hn
        rw [upd_ne e]
        exact m.nb p h1 h2 h3
theorem Bd.tr {X : Cx} {W W' : WX} {k : Nat} (b : Bd X W k) {pn : List (Addr × Obj)} {xe : Value → Shared → Prop} (tk : Takes (X.tr pn xe) W') (hp : PassesOwn (model X.prog X.w) X.A X.env xe) : Bd (X.tr pn xe) W' k := ⟨tk, hp, b.hr, b.calm⟩
theorem ds_try_as {n : Str} {cv : Value} (i : Nat) {body suite : List Stmt} {b₀ : Stmt} {np pos' : Pos} {t : TDS} {ts : Addr → Option Addr → Addr → List (Str × D) → TDS} (bd : Bd X W k) (hN : X.N.Nodup) (hc : Names X x cv)
    (hb : ∀ (W' : WX) (pn : List (Addr × Obj)) (xe : Value → Shared → Prop), Bd (X.tr pn xe) W' k → DSs (X.tr pn xe) Z W' body t)
    (hsu : ∀ (a : Addr) (oe : Obj) (C : Addr) (d : Option Addr) (pn : List (Addr × Obj)) (fs : List (Str × D)), Zc (.ref C) d oe → (∃ vs, oe.data = .fields vs) → DSs (X.suite a ((a, oe) :: pn)) Z W0 (b₀ :: suite) (ts a d C fs))
    (hs : X.stack = X.env :: X.outer := by rfl) (hf : X.env.frame = some X.env.locals := by rfl) (hi : X.N[i]? = some n := by rfl) (hln : X.env.kindOf n = some .local := by rfl) :
    DS X Z W (.Try body [.ExceptHandler (some (.Name x np)) (some n) (b₀ :: suite) pos'] [] [] pos) (dTryAs X.K cv i t ts) := by
  refine (ps_try_as (i := i) (tb := fun W' => lS X.K Z W' t) (ts := fun a cls d D σ H => ∃ C fs, cls = .ref C ∧ lS X.K Z W0 (ts a d C fs) D σ H) (Wout := W) hs hf hN hi hln hc bd.tk (fun W' pn xe tk hp => hb W' pn xe (bd.tr tk hp)) (fun a oe cls d pn hz hf => ?_)).imp fun D σ H ⟨B, al, L, env, DD, l, s, m, h, f⟩ => ?_
  · refine ⟨fun pins s σ H D I ⟨C, fs, e, q⟩ => ?_⟩
    subst e
    exact (hsu a oe C d pn fs hz hf).run pins s σ H D I q
  · refine ⟨B, al, L, env, _, l, s, m, h, f.nx, f.rt, f.bk, f.ct, fun B' H' al' L' env' σ' C fs dd n' s' xr ⟨b, hcat, hy, hn⟩ => ⟨b, hcat, fun e a na => ?_, fun e => f.ex _ _ _ _ _ _ _ _ _ n' s' xr (hn e)⟩⟩
    have hfd : fs ≠ [] → dd ≠ none := fun h1 h2 => by
      rcases xr with ⟨_, e2⟩ | ⟨_, _, e2, _⟩
      · exact h1 e2
      · rw [h2] at e2; cases e2
    obtain ⟨B2, n2, r2⟩ := xrep_in a C n'.l n'.m xr
    refine ⟨C, fs, rfl, B2, al', L', _, _, n2.l, (s'.mono n2.s n2.p).set r2, n2.m, hy e a dd hfd, ?_⟩
    have n3 := n'.trans n2
    exact ⟨fun _ _ _ _ _ _ n4 s4 => f.nx _ _ _ _ _ _ (n3.trans n4) s4.unset, fun _ _ _ _ _ _ n4 => f.rt _ _ _ _ _ _ (n3.trans n4), fun _ _ _ _ _ _ n4 s4 => f.bk _ _ _ _ _ _ (n3.trans n4) s4.unset, fun _ _ _ _ _ _ n4 s4 => f.ct _ _ _ _ _ _ (n3.trans n4) s4.unset, fun _ _ _ _ _ _ _ _ _ _ _ _ z => z⟩
/-- try: t except c: ts -/
def dTry (K : PySem.W.Frag) (c : Value) (t : TDS) (ts : Addr → List (Str × D) → TDS) : TDS := fun DD env L =>
  t ⟨DD.nx, DD.rt, DD.bk, DD.ct, fun C fs env' L' => ∃ b, Cat K c C b ∧ (b = true → ts C fs ⟨DD.nx, DD.rt, DD.bk, DD.ct, fun _ _ _ _ => False⟩ env' L') ∧ (b = false → DD.ex C fs env' L')⟩ env L
theorem ds_try {cv : Value} {body suite : List Stmt} {b₀ : Stmt} {np pos' : Pos} {t : TDS} {ts : Addr → List (Str × D) → TDS} (bd : Bd X W k) (hc : Names X x cv)
    (hb : ∀ (W' : WX) (pn : List (Addr × Obj)) (xe : Value → Shared → Prop), Bd (X.tr pn xe) W' k → DSs (X.tr pn xe) Z W' body t)
    (hsu : ∀ (a : Addr) (oe : Obj) (C : Addr) (d : Option Addr) (pn : List (Addr × Obj)) (fs : List (Str × D)), Zc (.ref C) d oe → (∃ vs, oe.data = .fields vs) → DSs (X.suite a ((a, oe) :: pn)) Z W0 (b₀ :: suite) (ts C fs))
    (hs : X.stack = X.env :: X.outer := by rfl) (hf : X.env.frame = some X.env.locals := by rfl) :
    DS X Z W (.Try body [.ExceptHandler (some (.Name x np)) none (b₀ :: suite) pos'] [] [] pos) (dTry X.K cv t ts) := by
  refine (ps_try_only (tb := fun W' => lS X.K Z W' t) (ts := fun a cls d D σ H => ∃ C fs, cls = .ref C ∧ lS X.K Z W0 (ts C fs) D σ H) (Wout := W) hs hf hc bd.tk (fun W' pn xe tk hp => hb W' pn xe (bd.tr tk hp)) (fun a oe cls d pn hz hf => ?_)).imp fun D σ H ⟨B, al, L, env, DD, l, s, m, h, f⟩ => ?_
  · refine ⟨fun pins s σ H D I ⟨C, fs, e, q⟩ => ?_⟩
    subst e
    exact (hsu a oe C d pn fs hz hf).run pins s σ H D I q
  · refine ⟨B, al, L, env, _, l, s, m, h, f.nx, f.rt, f.bk, f.ct, fun B' H' al' L' env' σ' C fs dd n' s' xr ⟨b, hcat, hy, hn⟩ => ⟨b, hcat, fun e a na => ?_, fun e => f.ex _ _ _ _ _ _ _ _ _ n' s' xr (hn e)⟩⟩
    exact ⟨C, fs, rfl, B', al', L', env', _, n'.l, s', n'.m, hy e, (f.later n').nx, (f.later n').rt, (f.later n').bk, (f.later n').ct, fun _ _ _ _ _ _ _ _ _ _ _ _ z => z⟩
end
end DL
set_option Elab.async false
set_option linter.all false
set_option maxRecDepth 100000
set_option maxHeartbeats 2000000
namespace DL
open PySem PySem.Spec PyProof.Rows L2
section
variable {X : Cx} {Z : Ent} {W : WX} {K : PySem.W.Frag} {a b c e : Expr} {ta tb tc te : TD} {tA tB' : TDT} {tu : TDA} {pos p : Pos} {es : List Expr} {k : Nat} {x : Str}

/-! ### built-ins by their names -/
def dCB (g : GN) (t : TDA) : TD := fun env L Q X => t env L (fun ds L1 => g ds L1 Q) X
theorem lA_cb {r : List V → Hp → VK → Prop} {g : GN} (hg : DOpN K r g) {σ : L2.St} {H : Hp} {Q : VK} (h : lE K Z W (dCB g tu) σ H Q) : tCB r (lA K Z W tu) σ H Q := by
  obtain ⟨B, al, L, env, Q0, X0, l, s, m, h, hQ, hX⟩ := h
  exact lA_then l s m h hX fun B1 H1 a1 L1 ds vs n1 s1 r1 h1 => hg Z B1 H1 a1 L1 ds vs Q Q0 n1.l n1.m r1 h1 fun _ _ _ _ _ _ n2 r2 q2 => hQ _ _ _ _ _ _ (n1.trans n2) r2 q2
theorem de_cb {id : String} {r : List V → Hp → VK → Prop} {g : GN} (hc : CallR X (.builtin id) r) (hg : DOpN X.K r g) (hm : X.mg x = none) (hv : bootBuiltins x = some (.builtin id)) (ha : DA X Z W (e :: es) tu) (hgl : Gl X x := by rfl) (hn : x ≠ "__name__" := by decide) (hdb : (x == ("__debug__" : Str)) = false := by decide)
    (he : starEach (e :: es) X.env = (false, eval e X.env) :: starEach es X.env := by rfl) (hpl : (backTo pos (starEach es X.env)).any (·.1) = false := by rfl) : DE X Z W (.Call (.Name x p) (e :: es) [] pos) (dCB g tu) :=
  (pe_callB hc hgl hm hv ha hn hdb he hpl).imp fun _ _ _ => lA_cb hg
theorem de_ct {T : String} {r : List V → Hp → VK → Prop} {g : GN} (hc : CallR X (.type T) r) (hg : DOpN X.K r g) (hm : X.mg x = none) (hv : bootBuiltins x = some (.type T)) (ha : DA X Z W (e :: es) tu) (hgl : Gl X x := by rfl) (hn : x ≠ "__name__" := by decide) (hdb : (x == ("__debug__" : Str)) = false := by decide)
    (he : starEach (e :: es) X.env = (false, eval e X.env) :: starEach es X.env := by rfl) (hpl : (backTo pos (starEach es X.env)).any (·.1) = false := by rfl) : DE X Z W (.Call (.Name x p) (e :: es) [] pos) (dCB g tu) :=
  (pe_callTy hc hgl hm hv ha hn hdb he hpl).imp fun _ _ _ => lA_cb hg
/-- a built-in class as a value; a module's name -/
theorem de_ty {n : String} (hm : X.mg x = none) (hv : bootBuiltins x = some (.type n)) (hg : Gl X x := by rfl) (hn : x ≠ "__name__" := by decide) (hd : (x == ("__debug__" : Str)) = false := by decide) : DE X Z W (.Name x pos) (dC (.val (.ty n))) := de_c (pe_bltn hg hm hv (v := .ty n) rfl hn hd) fun _ _ => .val _
theorem de_glob {v : V} {u : Value} {d : D} (hm : X.mg x = some u) (rv : RelV v u) (r : ∀ B al, Rep X.K B al d v) (hg : Gl X x := by rfl) (hd : (x == ("__debug__" : Str)) = false := by decide) : DE X Z W (.Name x pos) (dC d) := de_c (pe_glob hg hm rv hd) r
/-- a text that the module's top keeps -/
theorem de_gstr {z : Str} (hm : ∃ t, X.mg x = some (.str z t)) (hg : Gl X x := by rfl) (hd : (x == ("__debug__" : Str)) = false := by decide) : DE X Z W (.Name x pos) (dC (.str z)) := by
  obtain ⟨t, hm⟩ := hm
  exact de_glob hm (v := .str z) ⟨t, rfl⟩ (fun _ _ => .str z) hg hd
theorem de_gint {z : Int} (hm : ∃ t, X.mg x = some (.int z t)) (hg : Gl X x := by rfl) (hd : (x == ("__debug__" : Str)) = false := by decide) : DE X Z W (.Name x pos) (dC (.int z)) := by
  obtain ⟨t, hm⟩ := hm
  exact de_glob hm (v := .int z) ⟨t, rfl⟩ (fun _ _ => .int z) hg hd
theorem de_gref {C : Addr} (hm : X.mg x = some (.ref C)) (hg : Gl X x := by rfl) (hd : (x == ("__debug__" : Str)) = false := by decide) : DE X Z W (.Name x pos) (dC (.val (.ref C))) := de_glob hm (v := .ref C) rfl (fun _ _ => .val _) hg hd

/-! ### len -/
def gLen : GN := fun ds L Q => match ds with
  | [.str z] => z.length ≤ 16777216 ∧ Q (.int z.length) L
  | [d] => ∃ xs, seq? L d = some xs ∧ Q (.int xs.length) L
  | _ => False
theorem dop_len : DOpN K (fun xs H Q => ∃ x n, xs = [x] ∧ LenV K x H n ∧ Q (.int n) H) gLen := by
  intro Z B H al L xs vs Q Q0 l m rx h hQ
  match xs, vs, rx with
  | [d], [v], .cons rd .nil =>
    have gen : (∃ ys, seq? L d = some ys ∧ Q0 (.int ys.length) L) → ∃ x n, [v] = [x] ∧ LenV K x H n ∧ Q (.int n) H := by
      rintro ⟨ys, h1, q⟩
      obtain ⟨p, ws, rfl, hp, ra⟩ := seq_rep l rd h1
      refine ⟨.ref p, ys.length, rfl, ?_, hQ _ _ _ _ _ _ (.refl l m) (.int _) q⟩
      rcases hp with hp | hp
      · exact .inl ⟨ws, hp, ra.length⟩
      · exact .inr ⟨ws, hp, ra.length⟩
    cases d with
    | str z =>
      obtain ⟨hz, q⟩ := h
      obtain rfl := rep_str rd
      exact ⟨.str z, z.length, rfl, ⟨line_of hz, rfl⟩, hQ _ _ _ _ _ _ (.refl l m) (.int _) q⟩
    | _ => exact gen h
  | [], _, _ => exact h.elim
  | d :: _ :: _, _, _ => cases d <;> exact h.elim
theorem de_len (hm : X.mg "len" = none) (ha : DA X Z W [e] tu) (hgl : Gl X "len" := by rfl) (he : starEach [e] X.env = (false, eval e X.env) :: starEach [] X.env := by rfl) (hpl : (backTo pos (starEach [] X.env)).any (·.1) = false := by rfl) : DE X Z W (.Call (.Name "len" p) [e] [] pos) (dCB gLen tu) :=
  de_cb call_len dop_len hm PySem.boot_len ha hgl (by decide) (by decide) he hpl

/-! ### int, str, bool -/
def gInt : GN := fun ds L Q => match ds with
  | [.int i] => Q (.int i) L
  | [.bl b] => Q (.int (if b then 1 else 0)) L
  | [.str z] => z.length ≤ 640 ∧ ∃ n, PySem.intText? z = some n ∧ Q (.int n) L
  | _ => False
theorem dop_int : DOpN K (fun xs H Q => ((∃ i, xs = [.int i] ∧ Q (.int i) H) ∨ ∃ k, xs = [.bl k] ∧ Q (.int (if k then 1 else 0)) H) ∨ ∃ a n, xs = [.str a] ∧ PySem.intText? a = some n ∧ a.length ≤ 640 ∧ Q (.int n) H) gInt := by
  intro Z B H al L xs vs Q Q0 l m rx h hQ
  match xs, vs, rx with
  | [d], [v], .cons rd .nil =>
    cases d with
    | str z =>
      obtain ⟨hz, n, hn, q⟩ := h
      obtain rfl := rep_str rd
      exact .inr ⟨z, n, rfl, hn, hz, hQ _ _ _ _ _ _ (.refl l m) (.int _) q⟩
    | int i =>
      obtain rfl := rep_int rd
      exact .inl (.inl ⟨i, rfl, hQ _ _ _ _ _ _ (.refl l m) (.int _) h⟩)
    | bl i =>
      obtain rfl := rep_bl rd
      exact .inl (.inr ⟨i, rfl, hQ _ _ _ _ _ _ (.refl l m) (.int _) h⟩)
    | _ => exact h.elim
  | [], _, _ => exact h.elim
  | d :: _ :: _, _, _ => cases d <;> exact h.elim
theorem de_int1 (hm : X.mg "int" = none) (ha : DA X Z W [e] tu) (hgl : Gl X "int" := by rfl) (he : starEach [e] X.env = (false, eval e X.env) :: starEach [] X.env := by rfl) (hpl : (backTo pos (starEach [] X.env)).any (·.1) = false := by rfl) : DE X Z W (.Call (.Name "int" p) [e] [] pos) (dCB gInt tu) :=
  de_ct (CallR.or' call_int1 call_int_str) dop_int hm (by decide +kernel) ha hgl (by decide) (by decide) he hpl
def gStr : GN := fun ds L Q => match ds with
  | [.int i] => i.natAbs.log2 < 1920 ∧ Q (.str (toString i)) L
  | _ => False
theorem dop_str : DOpN K (fun xs H Q => ∃ i : Int, xs = [.int i] ∧ i.natAbs.log2 < 1920 ∧ Q (.str (toString i)) H) gStr := by
  intro Z B H al L xs vs Q Q0 l m rx h hQ
  match xs, vs, rx with
  | [d], [v], .cons rd .nil =>
    cases d with
    | int i =>
      obtain rfl := rep_int rd
      exact ⟨i, rfl, h.1, hQ _ _ _ _ _ _ (.refl l m) (.str _) h.2⟩
    | _ => exact h.elim
  | [], _, _ => exact h.elim
  | d :: _ :: _, _, _ => cases d <;> exact h.elim
theorem de_str1 (hm : X.mg "str" = none) (ha : DA X Z W [e] tu) (hgl : Gl X "str" := by rfl) (he : starEach [e] X.env = (false, eval e X.env) :: starEach [] X.env := by rfl) (hpl : (backTo pos (starEach [] X.env)).any (·.1) = false := by rfl) : DE X Z W (.Call (.Name "str" p) [e] [] pos) (dCB gStr tu) :=
  de_ct call_str_int dop_str hm (by decide +kernel) ha hgl (by decide) (by decide) he hpl

/-! ### isinstance with a built-in class -/
def tyS (L : LH) : D → Option String
  | .non => some "NoneType"
  | .bl _ => some "bool"
  | .int _ => some "int"
  | .str _ => some "str"
  | .tup _ => some "tuple"
  | .lst _ => some "list"
  | .sq _ => some "list"
  | .dct _ => some "dict"
  | .own k => match L[k]? with
    | some (.lst _) => some "list"
    | some (.dK _) => some "dict"
    | _ => none
  | _ => none
theorem ty_sqt {B H : Hp} {a : Addr} {vs : List V} (h : SqT K H a vs) : TyX K H (.ref a) (.type "tuple") := by
  rcases h with (h | ⟨o, h⟩) | ⟨o, its, n, h1, h2, _⟩
  · exact .base (.tup h)
  · exact .fTuple h
  · exact .kTuple h1 h2
theorem ty_sql {B H : Hp} {a : Addr} {vs : List V} (h : SqL K H a vs) : TyX K H (.ref a) (.type "list") := by
  rcases h with (h | ⟨o, h⟩) | ⟨o, its, n, h1, h2, _⟩
  · exact .base (.lst h)
  · exact .base (.frz h)
  · exact .kList h1 h2
theorem tyS_rep {B H : Hp} {al : List Addr} {L : LH} (l : Lift K B H al L) {d : D} {v : V} {t : String} (r : Rep K B al d v) (h : tyS L d = some t) : TyX K H v (.type t) := by
  cases r with
  | non => cases h; exact .base .non
  | bl b => cases h; exact .base (.bl b)
  | int i => cases h; exact .base (.int i)
  | str s => cases h; exact .base (.str s)
  | tup hs _ => cases h; exact ty_sqt (B := B) (same_t l.ex hs)
  | lst hs _ => cases h; exact .base (.lst (l.ex _ _ hs))
  | sq hs _ => cases h; exact ty_sql (B := B) (same_l l.ex hs)
  | dct hs _ => cases h; exact .base (.dK (l.ex _ _ hs))
  | @own k a ha =>
    unfold tyS at h
    dsimp only at h
    cases e : L[k]? with
    | none => rw [e] at h; cases h
    | some od =>
      rw [e] at h
      cases od with
      | lst xs =>
        cases h
        obtain ⟨_, o, ho, ro⟩ := l.ob k _ _ ha e (fun z => nomatch z)
        cases ro with
        | lst ra => exact .base (.lst ho)
      | dK xs =>
        cases h
        obtain ⟨_, o, ho, ro⟩ := l.ob k _ _ ha e (fun z => nomatch z)
        cases ro with
        | dK ra => exact .base (.dK ho)
      | _ => cases h
  | _ => cases h
def isB (t c : String) : Bool := t == c || (t == "bool" && c == "int")
def tyN : List String := ["NoneType", "bool", "int", "str", "tuple", "list", "dict"]
def tyC : List String := ["bool", "int", "str", "tuple", "list", "dict"]
theorem kit_isB : ∀ t ∈ tyN, ∀ c ∈ tyC, kitB t c = some (isB t c) := by decide +kernel
theorem tyS_in {L : LH} {d : D} {t : String} (h : tyS L d = some t) : t ∈ tyN := by
  cases d with
  | own k =>
    unfold tyS at h
    dsimp only at h
    split at h <;> first | (cases h; decide +kernel) | cases h
  | _ => first | (cases h; decide +kernel) | cases h
def gIsi : GN := fun ds L Q => match ds with
  | [d, .val (.ty c)] => c ∈ tyC ∧ ∃ t, tyS L d = some t ∧ Q (.bl (isB t c)) L
  | _ => False
theorem dop_isi : DOpN K (rIsi K) gIsi := by
  intro Z B H al L xs vs Q Q0 l m rx h hQ
  match xs, vs, rx with
  | [d, d2], [v, u], .cons rd (.cons r2 .nil) =>
    cases d2 with
    | val w =>
      cases w with
      | ty c =>
        obtain ⟨hc, t, ht, q⟩ := h
        cases r2
        exact ⟨v, .ty c, .type t, .type c, isB t c, rfl, .ty c, tyS_rep l rd ht, kit_ty (kit_isB t (tyS_in ht) c hc), hQ _ _ _ _ _ _ (.refl l m) (.bl _) q⟩
      | _ => exact h.elim
    | _ => exact h.elim
  | [], _, _ => exact h.elim
  | [_], _, _ => exact h.elim
  | _ :: d2 :: _ :: _, _, _ => exact (by simpa [gIsi] using h : False).elim
theorem de_isi (hm : X.mg "isinstance" = none) (ha : DA X Z W [a, b] tu) (hgl : Gl X "isinstance" := by rfl) (he : starEach [a, b] X.env = (false, eval a X.env) :: starEach [b] X.env := by rfl) (hpl : (backTo pos (starEach [b] X.env)).any (·.1) = false := by rfl) : DE X Z W (.Call (.Name "isinstance" p) [a, b] [] pos) (dCB gIsi tu) :=
  de_cb call_isi dop_isi hm (by decide +kernel) ha hgl (by decide) (by decide) he hpl

/-! ### methods of texts -/
def dM1 (g : G2) (to te : TD) : TD := fun env L Q X => to env L (fun x L1 => (∃ z, x = .str z) ∧ te env L1 (fun y L2 => g x y L2 Q) X) X
def DOpM (K : PySem.W.Frag) (r : V → List V → Hp → VK → Prop) (g : G2) : Prop := ∀ (Z : Ent) (B H : Hp) (al : List Addr) (L : LH) (x y : D) (v u : V) (Q : VK) (Q0 : DK), Lift K B H al L → Mv Z B H al → Rep K B al x v → Rep K B al y u → g x y L Q0 →
  (∀ B' H' al' L' d w, Nx K Z B al B' H' al' L' → Rep K B' al' d w → Q0 d L' → Q w H') → r v [u] H Q
theorem lE_m1 {o : TD} {r : V → List V → Hp → VK → Prop} {g : G2} (hg : DOpM K r g) {σ : L2.St} {H : Hp} {Q : VK} (h : lE K Z W (dM1 g ta tb) σ H Q) : tM1 r (lE K Z W ta) (lE K Z W tb) σ H Q := by
  obtain ⟨B, al, L, env, Q0, X0, l, s, m, h, hQ, hX⟩ := h
  refine lE_then l s m h hX fun B1 H1 a1 L1 x v n1 s1 r1 ⟨⟨z, ez⟩, h1⟩ => ?_
  subst ez
  obtain rfl := rep_str r1
  refine ⟨⟨z, rfl⟩, ?_⟩
  refine lE_then n1.l s1 n1.m h1 (HX.nx hX n1) fun B2 H2 a2 L2 y u n2 s2 r2 h2 => ?_
  exact hg Z B2 H2 a2 L2 _ y _ u Q Q0 n2.l n2.m (.str z) r2 h2 fun B3 H3 a3 L3 d w n3 r3 q => hQ _ _ _ _ _ _ ((n1.trans n2).trans n3) r3 q
/-- s.partition(t) -/
def gPart : G2 := fun x y L Q => match x, y with
  | .str a, .str b => (b.length == 0) = false ∧ a.length ≤ 16777216 ∧ Q (.tup [.str (Txt.partition a b).1, .str (Txt.partition a b).2.1, .str (Txt.partition a b).2.2]) L
  | _, _ => False
theorem de_partition {o : Expr} {apos : Pos} (ho : DE X Z W o ta) (he : DE X Z W e te) (hs : starEach [e] X.env = [(false, eval e X.env)] := by rfl) (hbase : attributeBase o "partition" X.env (eval o X.env) = eval o X.env := by rfl) (hline : (apos.endLine == pos.line) = true := by rfl) :
    DE X Z W (.Call (.Attribute o "partition" apos) [e] [] pos) (dM1 gPart ta te) := (pe_partition ho he hs hbase hline).imp fun _ _ _ => lE_m1 (o := ta) (by
  intro Z B H al L x y v u Q Q0 l m rx ry h hQ
  cases x with
  | str i =>
    cases y with
    | str j =>
      obtain ⟨h1, h2, q⟩ := h
      obtain rfl := rep_str rx
      obtain rfl := rep_str ry
      refine ⟨i, j, rfl, rfl, h1, line_of h2, fun p np => ?_⟩
      obtain ⟨n4, r4⟩ := new_tup l m np (.cons (.str _) (.cons (.str _) (.one (.str _))))
      exact hQ _ _ _ _ _ _ n4 r4 q
    | _ => exact h.elim
  | _ => exact h.elim)
/-- s.split(t) -/
def gSplit : G2 := fun x y L Q => match x, y with
  | .str a, .str b => (b.length == 0) = false ∧ a.length ≤ 16000000 ∧ Q (.lst ((Txt.split a b).map .str)) L
  | _, _ => False
theorem repA_strs {B : Hp} {al : List Addr} : ∀ ys : List Str, RepA K B al (ys.map D.str) (ys.map V.str)
  | [] => .nil
  | y :: ys => .cons (.str y) (repA_strs ys)
theorem de_split {o : Expr} {apos : Pos} (ho : DE X Z W o ta) (he : DE X Z W e te) (hs : starEach [e] X.env = [(false, eval e X.env)] := by rfl) (hbase : attributeBase o "split" X.env (eval o X.env) = eval o X.env := by rfl) (hline : (apos.endLine == pos.line) = true := by rfl) :
    DE X Z W (.Call (.Attribute o "split" apos) [e] [] pos) (dM1 gSplit ta te) := (pe_split ho he hs hbase hline).imp fun _ _ _ => lE_m1 (o := ta) (by
  intro Z B H al L x y v u Q Q0 l m rx ry h hQ
  cases x with
  | str i =>
    cases y with
    | str j =>
      obtain ⟨h1, h2, q⟩ := h
      obtain rfl := rep_str rx
      obtain rfl := rep_str ry
      refine ⟨i, j, rfl, rfl, h1, line_of (by omega), fun p np => ?_⟩
      obtain ⟨n4, r4⟩ := new_lst l m np (repA_strs (Txt.split i j))
      exact hQ _ _ _ _ _ _ n4 r4 q
    | _ => exact h.elim
  | _ => exact h.elim)
/-- s.join(xs) -/
def gJoin : G2 := fun x y L Q => match x with
  | .str a => ∃ ys : List Str, seq? L y = some (ys.map D.str) ∧ (ys.map (·.length)).sum + ys.length * a.length ≤ 16777216 ∧ Q (.str (Txt.join a ys)) L
  | _ => False
theorem repA_strs_v {B : Hp} {al : List Addr} : ∀ {ys : List Str} {vs : List V}, RepA K B al (ys.map D.str) vs → vs = ys.map V.str
  | [], _, .nil => rfl
  | y :: ys, _, .cons h t => by
    rw [rep_str h, repA_strs_v t]
    rfl
theorem de_join {o : Expr} {apos : Pos} (ho : DE X Z W o ta) (he : DE X Z W e te) (hs : starEach [e] X.env = [(false, eval e X.env)] := by rfl) (hbase : attributeBase o "join" X.env (eval o X.env) = eval o X.env := by rfl) (hline : (apos.endLine == pos.line) = true := by rfl) :
    DE X Z W (.Call (.Attribute o "join" apos) [e] [] pos) (dM1 gJoin ta te) := (pe_join ho he hs hbase hline).imp fun _ _ _ => lE_m1 (o := ta) (by
  intro Z B H al L x y v u Q Q0 l m rx ry h hQ
  cases x with
  | str i =>
    obtain ⟨ys, h1, h2, q⟩ := h
    obtain rfl := rep_str rx
    obtain ⟨p, vs, rfl, hp, ra⟩ := seq_rep l ry h1
    rw [repA_strs_v ra] at hp
    exact ⟨i, p, ys, rfl, rfl, hp, h2, hQ _ _ _ _ _ _ (.refl l m) (.str _) q⟩
  | _ => exact h.elim)

/-! ### methods of one's own lists -/
def dApp (to te : TD) : TD := fun env L Q X => to env L (fun x L1 => ∃ k ds, x = .own k ∧ L1[k]? = some (.lst ds) ∧ te env L1 (fun y L2 => ∃ ds2, L2[k]? = some (.lst ds2) ∧ ds2.length < 16777216 ∧ Q .non (L2.set k (.lst (ds2 ++ [y])))) X) X
theorem own_rep {B H : Hp} {al : List Addr} {L : LH} (l : Lift K B H al L) {k : Nat} {v : V} {ds : List D} (r : Rep K B al (.own k) v) (h : L[k]? = some (.lst ds)) : ∃ a vs, v = .ref a ∧ al[k]? = some a ∧ H a = some (.lst vs) ∧ RepA K B al ds vs := by
  cases r with
  | own ha =>
    obtain ⟨_, o, ho, ro⟩ := l.ob k _ _ ha h (fun z => nomatch z)
    cases ro with
    | lst ra => exact ⟨_, _, rfl, ha, ho, ra⟩
theorem nx_upd {B H : Hp} {al : List Addr} {L : LH} (l : Lift K B H al L) (m : Mv Z B H al) {k : Nat} {a : Addr} {od od' : OD} {o' : HO} (ha : al[k]? = some a) (hk : L[k]? = some od) (hg : od ≠ .gone) (r : ORep K B al od' o') : Nx K Z B al B (upd H a o') al (L.set k od') :=
  ⟨l.upd ha hk hg r, m.upd (List.mem_of_getElem? ha), fun _ _ h => h, List.prefix_refl _⟩
theorem de_append {o : Expr} {apos : Pos} (ho : DE X Z W o ta) (he : DE X Z W e te) (hbase : attributeBase o "append" X.env (eval o X.env) = eval o X.env := by rfl)
    (hfew : ((backTo pos (starEach [e] X.env)).all (fun x => !x.1) && (backToKw pos (keywordEach [] X.env)).all (fun x => x.1.isSome) && decide ([e].length + ([] : List Keyword).length + (if ([] : List Keyword).isEmpty then 0 else 1) < 30)) = true := by rfl)
    (hline : (apos.endLine == pos.line) = true := by rfl) (hs : starEach [e] X.env = (false, eval e X.env) :: starEach [] X.env := by rfl) (hplain : (backTo pos (starEach [] X.env)).any (·.1) = false := by rfl) :
    DE X Z W (.Call (.Attribute o "append" apos) [e] [] pos) (dApp ta te) :=
  (pe_bm PySem.F.plainAttrs_list PySem.F.slot_list_append PySem.F.type_list_append mt_append ho (pa_cons he pa_nil hs) hbase hfew hline hs hplain).imp fun σ H Q ⟨B, al, L, env, Q0, X0, l, s, m, h, hQ, hX⟩ => by
    refine lE_then l s m h hX fun B1 H1 a1 L1 x v n1 s1 r1 ⟨k, ds, ex, hk, h1⟩ => ?_
    subst ex
    obtain ⟨q, vs, rfl, ha, hH, ra⟩ := own_rep n1.l r1 hk
    refine ⟨.inl ⟨rfl, vs, SqL.of hH⟩, ?_⟩
    refine lE_then n1.l s1 n1.m h1 (HX.nx hX n1) fun B2 H2 a2 L2 y u n2 s2 r2 ⟨ds2, hk2, hl, q0⟩ => ?_
    obtain ⟨q', vs2, e2, ha2, hH2, ra2⟩ := own_rep n2.l (r1.mono n2.s n2.p) hk2
    cases e2
    refine ⟨q, vs2, u, rfl, rfl, hH2, by rw [← ra2.length]; exact line_lt hl, ?_⟩
    exact hQ _ _ _ _ _ _ ((n1.trans n2).trans (nx_upd n2.l n2.m ha2 hk2 (fun z => nomatch z) (.lst (ra2.append (.one r2))))) .non q0
end
end DL
set_option Elab.async false
set_option linter.all false
set_option maxRecDepth 100000
set_option maxHeartbeats 2000000
namespace DL
open PySem PySem.Spec PyProof.Rows L2

/-! ### comprehensions -/
theorem wipe_get (σ : L2.St) : ∀ (vs : List Nat) (j : Nat), (wipe σ vs)[j]? = if j ∈ vs ∧ j < σ.length then some none else σ[j]?
  | [], j => by simp [wipe]
  | v :: vs, j => by
    have ih := wipe_get σ vs j
    have hl := wipe_length σ vs
    unfold wipe
    by_cases e : j = v
    · subst e
      by_cases hj : j < σ.length
      · rw [List.getElem?_set_self (by rw [hl]; exact hj), if_pos ⟨List.mem_cons_self, hj⟩]
      · rw [List.getElem?_eq_none (by rw [List.length_set, hl]; omega), if_neg (fun q => hj q.2), List.getElem?_eq_none (by omega)]
    · rw [List.getElem?_set_ne (Ne.symm e), ih]
      have : (j ∈ v :: vs) ↔ j ∈ vs := by simp [e]
      by_cases q : j ∈ vs ∧ j < σ.length
      · rw [if_pos q, if_pos ⟨this.mpr q.1, q.2⟩]
      · rw [if_neg q, if_neg fun z => q ⟨this.mp z.1, z.2⟩]
theorem wipe_set {σ : L2.St} {vs : List Nat} {i : Nat} {o : Option V} (h : i ∈ vs) : wipe (σ.set i o) vs = wipe σ vs := by
  apply List.ext_getElem?
  intro j
  rw [wipe_get, wipe_get, List.length_set]
  by_cases q : j ∈ vs ∧ j < σ.length
  · rw [if_pos q, if_pos q]
  · rw [if_neg q, if_neg q]
    by_cases e : j = i
    · subst e
      have hj : ¬ j < σ.length := fun z => q ⟨h, z⟩
      rw [List.getElem?_eq_none (by rw [List.length_set]; omega), List.getElem?_eq_none (by omega)]
    · rw [List.getElem?_set_ne (Ne.symm e)]
theorem wipe_wipe {σ : L2.St} {vs : List Nat} : wipe (wipe σ vs) vs = wipe σ vs := by
  apply List.ext_getElem?
  intro j
  rw [wipe_get, wipe_get, wipe_length]
  by_cases q : j ∈ vs ∧ j < σ.length
  · rw [if_pos q, if_pos q]
  · rw [if_neg q]
def wipeD (env : DEnv) : List Nat → DEnv
  | [] => env
  | v :: vs => (wipeD env vs).set v none
theorem wipe_rep {K : PySem.W.Frag} {B : Hp} {al : List Addr} {env : DEnv} {σ : L2.St} (h : RepS K B al env σ) : ∀ vs : List Nat, RepS K B al (wipeD env vs) (wipe σ vs)
  | [] => h
  | _ :: vs => (wipe_rep h vs).unset
/-- the names that a comprehension binds, one or a tuple's -/
inductive CTg where
  | one (i : Nat)
  | tup (is : List Nat)
def setsD (env : DEnv) : List Nat → List D → DEnv
  | i :: is, d :: ds => setsD (env.set i (some d)) is ds
  | _, _ => env
def cgD : CTg → D → DEnv → (DEnv → Prop) → Prop
  | .one i, d, env, Q => Q (env.set i (some d))
  | .tup is, d, env, Q => ∃ ds, d = .tup ds ∧ ds.length = is.length ∧ Q (setsD env is ds)
def gNames : List Nat → TGs
  | [] => gNil
  | i :: is => gCons (gName i) (gNames is)
def cgH (K : PySem.W.Frag) : CTg → TG
  | .one i => gName i
  | .tup is => gTup K is.length (gNames is)
def CTg.ixs : CTg → List Nat
  | .one i => [i]
  | .tup is => is
theorem names_ok {K : PySem.W.Frag} {B : Hp} {al : List Addr} {own : List Nat} : ∀ {is : List Nat} {ds : List D} {vs : List V} {env : DEnv} {σ : L2.St} {H : Hp} {Q : L2.St → Hp → Prop}, ds.length = is.length → RepA K B al ds vs → RepS K B al env σ → (∀ i ∈ is, i ∈ own) →
    (∀ σ', RepS K B al (setsD env is ds) σ' → wipe σ' own = wipe σ own → Q σ' H) → gNames is vs σ H Q
  | [], [], _, _, _, _, _, _, .nil, s, _, h => ⟨rfl, h _ s rfl⟩
  | i :: is, d :: ds, _, _, _, _, _, e, .cons r t, s, ho, h => ⟨_, _, rfl, names_ok (by simpa using e) t (s.set r) (fun j hj => ho j (List.mem_cons_of_mem _ hj)) fun σ' s' w => h σ' s' (w.trans (wipe_set (ho i List.mem_cons_self)))⟩
  | [], _ :: _, _, _, _, _, _, e, _, _, _, _ => by cases e
  | _ :: _, [], _, _, _, _, _, e, _, _, _, _ => by cases e
theorem cg_ok {K : PySem.W.Frag} {B H : Hp} {al : List Addr} {L : LH} {own : List Nat} {tg : CTg} {d : D} {v : V} {env : DEnv} {σ : L2.St} {Q : L2.St → Hp → Prop} {Q0 : DEnv → Prop} (l : Lift K B H al L) (r : Rep K B al d v) (s : RepS K B al env σ) (ho : ∀ i ∈ tg.ixs, i ∈ own) (h : cgD tg d env Q0)
    (hq : ∀ env' σ', RepS K B al env' σ' → wipe σ' own = wipe σ own → Q0 env' → Q σ' H) : cgH K tg v σ H Q := by
  cases tg with
  | one i => exact hq _ _ (s.set r) (wipe_set (ho i List.mem_cons_self)) h
  | tup is =>
    obtain ⟨ds, e1, e2, h⟩ := h
    subst e1
    obtain ⟨p, vs, rfl, hp, ra⟩ := tup_rep l r
    exact ⟨p, vs, rfl, hp, by rw [← ra.length]; exact e2, names_ok e2 ra s ho fun σ' s' w => hq _ _ s' w h⟩
def dYes : TDT := fun _ L Q _ => Q true L
/-- [te for tg in wi if tt]; own: the slots of the comprehension's names -/
def dLcG (own : List Nat) (wi : TDI) (tg : CTg) (tt : TDT) (te : TD) (fin : List D → LH → DK → Prop) : TD := fun env L Q X => wi env L (fun j L1 => ∃ I : Nat → List D → LH → Prop, I 0 [] L1 ∧ (∀ i acc L, I i acc L → j.keep L) ∧
  (∀ i acc L x, i < j.n → j.item i = some x → I i acc L → acc.length < 16777216 ∧ cgD tg x (wipeD env own) fun env2 => tt env2 L (fun b L2 => if b = true then te env2 L2 (fun y L3 => I (i + 1) (acc ++ [y]) L3) (fun _ _ _ => False) else I (i + 1) acc L2) (fun _ _ _ => False)) ∧
  ∀ acc L, I j.n acc L → fin acc L Q) X
abbrev dLc (own : List Nat) (wi : TDI) (tg : CTg) (tt : TDT) (te : TD) : TD := dLcG own wi tg tt te fun acc L Q => Q (.lst acc) L
abbrev dLcO (own : List Nat) (wi : TDI) (tg : CTg) (tt : TDT) (te : TD) : TD := dLcG own wi tg tt te fun acc L Q => Q (.own L.length) (L ++ [.lst acc])
section
variable {X : Cx} {Z : Ent} {W : WX} {K : PySem.W.Frag} {a b c e : Expr} {ta tb tc te : TD} {tA tB' tt : TDT} {tu : TDA} {pos p : Pos} {es ifs : List Expr} {k : Nat} {x : Str}
abbrev DTs (X : Cx) (Z : Ent) (W : WX) (es : List Expr) (t : TDT) : Prop := PTs X es (lT X.K Z W t)
theorem dts_nil : DTs X Z W [] dYes := ⟨fun pins s σ H Q I ⟨B, al, L, env, Q0, X0, l, s', m, h, hQ, hX⟩ => pts_nil.run pins s σ H Q I (hQ _ _ _ _ _ (.refl l m) h)⟩
theorem dts_one (h : DT X Z W c tA) : DTs X Z W [c] tA := pts_one h
/-- what ends a comprehension: the list is frozen, or one's own -/
def FinOk (K : PySem.W.Frag) (fin : List D → LH → DK → Prop) : Prop := ∀ (Z : Ent) (B H : Hp) (al : List Addr) (L : LH) (p : Addr) (ds : List D) (vs : List V) (Q0 : DK), Lift K B H al L → Mv Z B H al → B p = none → p ∉ al → H p = some (.lst vs) → Z.H p = none → RepA K B al ds vs → fin ds L Q0 →
  ∃ B' al' L' d, Nx K Z B al B' H al' L' ∧ Rep K B' al' d (.ref p) ∧ Q0 d L'
theorem fin_lst : FinOk K fun acc L Q => Q (.lst acc) L := fun Z B H al L p ds vs Q0 l m hb ha hp hz r q => by
  have same : Same B (upd B p (.lst vs)) := fun b o h => by rw [upd_ne (ne_of_none h hb)]; exact h
  refine ⟨upd B p (.lst vs), al, L, _, ⟨⟨fun b o h => ?_, l.len, l.nd, l.th, fun k b od h1 h2 h3 => ?_⟩, ⟨m.bb.trans same, m.fr, fun b h1 h2 h3 => ?_, m.la, m.pre, m.up⟩, same, List.prefix_refl _⟩, .lst upd_same (r.mono same (List.prefix_refl _)), q⟩
  · by_cases e : b = p
    · subst e; rw [upd_same] at h; cases h; exact hp
    · rw [upd_ne e] at h; exact l.ex b o h
  · obtain ⟨n1, o, h4, h5⟩ := l.ob k b od h1 h2 h3
    have e : b ≠ p := fun z => by subst z; exact ha (List.mem_of_getElem? h1)
    exact ⟨by rw [upd_ne e]; exact n1, o, h4, h5.mono same (List.prefix_refl _)⟩
  · have e : b ≠ p := fun z => by subst z; exact h2 hz
    rw [upd_ne e]
    exact m.nb b h1 h2 h3
theorem fin_own : FinOk K fun acc L Q => Q (.own L.length) (L ++ [.lst acc]) := fun Z B H al L p ds vs Q0 l m hb ha hp hz r q => by
  refine ⟨B, al ++ [p], L ++ [.lst ds], _, ⟨⟨l.ex, by rw [List.length_append, List.length_append, l.len]; rfl, ?_, fun b hb' => ?_, fun j b oj h1 h2 h3 => ?_⟩, ⟨m.bb, m.fr, m.nb, fun b hb' => ?_, List.IsPrefix.trans m.pre (List.prefix_append _ _), m.up⟩, fun _ _ h => h, List.prefix_append _ _⟩, .own (by rw [← l.len, List.getElem?_append_right (Nat.le_refl _), Nat.sub_self]; rfl), q⟩
  · exact List.nodup_append.mpr ⟨l.nd, by simp, fun x hx y hy z => ha (by rw [List.mem_singleton] at hy; rw [← hy, ← z]; exact hx)⟩
  · rcases List.mem_append.mp hb' with h | h
    · exact l.th b h
    · rw [List.mem_singleton] at h; subst h; rw [hp]; exact fun z => by cases z
  · by_cases e : j < al.length
    · rw [List.getElem?_append_left e] at h1
      rw [List.getElem?_append_left (by rw [← l.len]; exact e)] at h2
      obtain ⟨n2, o2, h4, h5⟩ := l.ob j b oj h1 h2 h3
      exact ⟨n2, o2, h4, h5.mono (fun _ _ h => h) (List.prefix_append _ _)⟩
    · have ej : j = al.length := by
        have q := (List.getElem?_eq_some_iff.mp h1).1
        rw [List.length_append, List.length_singleton] at q
        omega
      subst ej
      rw [List.getElem?_append_right (Nat.le_refl _), Nat.sub_self] at h1
      rw [l.len, List.getElem?_append_right (Nat.le_refl _), Nat.sub_self] at h2
      cases h1
      cases h2
      exact ⟨hb, .lst vs, hp, .lst (r.mono (fun _ _ h => h) (List.prefix_append _ _))⟩
  · rcases List.mem_append.mp hb' with h | h
    · exact m.la b h
    · rw [List.mem_singleton] at h; subst h; exact .inr hz
variable {scope : Scope} {own : List (Str × Nat)} {tx it : Expr} {wi : TDI} {tg : CTg}
theorem lc_read {fin : List D → LH → DK → Prop} (hf : FinOk X.K fin) (ho : ∀ i ∈ tg.ixs, i ∈ own.map (·.2)) {σ : L2.St} {H : Hp} {Q : VK} (h : lE X.K Z W (dLcG (own.map (·.2)) wi tg tt te fin) σ H Q) :
    tLc (lI X.K Z W wi) (cgH X.K tg) (fun σ H Q => ∃ Z', lT X.K Z' W0 tt σ H Q) (fun σ H Q => ∃ Z', lE X.K Z' W0 te σ H Q) (own.map (·.2)) σ H Q := by
  obtain ⟨B, al, L, env, Q0, X0, l, s, m, h, hQ, hX⟩ := h
  refine ⟨B, al, L, env, _, X0, l, s, m, h, fun B1 H1 a1 L1 J j n1 ok ⟨I, h0, hk, hst, hd⟩ D nD => ?_, hX⟩
  have hZD : Z.H D = none := by
    cases q : Z.H D with
    | none => rfl
    | some o => exact absurd nD (n1.m.up D (by rw [q]; exact fun z => by cases z))
  -- the state while the list at D grows
  let St (i : Nat) (H' : Hp) : Prop := ∃ B' al' L' acc vs, Nx X.K Z B1 a1 B' H' al' L' ∧ B' D = none ∧ D ∉ al' ∧ H' D = some (.lst vs) ∧ RepA X.K B' al' acc vs ∧ I i acc L'
  have DB1 : B1 D = none := Same.free n1.l.ex nD
  have Da1 : D ∉ a1 := fun z => n1.l.th D z nD
  have mv1 : Mv Z B1 (upd H1 D (.lst [])) a1 := ⟨n1.m.bb, fun p o h n => by rw [upd_ne (ne_of_none (n1.m.fr p o h n) nD)]; exact n1.m.fr p o h n, n1.m.nb, n1.m.la, n1.m.pre, fun p h => by
    by_cases e : p = D
    · subst e; rw [upd_same]; exact fun z => by cases z
    · rw [upd_ne e]; exact n1.m.up p h⟩
  have lf1 : Lift X.K B1 (upd H1 D (.lst [])) a1 L1 := ⟨fun b o h => by rw [upd_ne (ne_of_none h DB1)]; exact n1.l.ex b o h, n1.l.len, n1.l.nd, fun b hb => by
      have e : b ≠ D := fun z => by subst z; exact Da1 hb
      rw [upd_ne e]; exact n1.l.th b hb, fun k b od h1 h2 h3 => by
      obtain ⟨n2, o, h4, h5⟩ := n1.l.ob k b od h1 h2 h3
      exact ⟨n2, o, by rw [upd_ne (ne_of_none h4 nD)]; exact h4, h5⟩⟩
  refine ⟨fun i mm H' => mm + i = j.n ∧ St i H', ⟨j.n, rfl, B1, a1, L1, [], [], .refl lf1 mv1, DB1, Da1, upd_same, .nil, h0⟩, fun i mm H2 ⟨hm, B2, a2, L2, acc, vs, n2, D1, D2, D3, ra, h2⟩ => ?_⟩
  by_cases hlt : i < j.n
  · obtain ⟨d, hd1⟩ := ok.some_ i hlt
    obtain ⟨go, yl⟩ := ok.go B2 H2 a2 L2 i d n2 (hk _ _ _ h2) hlt hd1
    refine .inr ⟨go, fun H' => St (i + 1) H', fun H' st => ⟨mm - 1, by omega, by omega, st⟩, fun x H' hy => ?_⟩
    obtain ⟨B3, t3, rd⟩ := yl x H' hy
    have n3 := Nx.stp n2.l n2.m t3
    have n13 := n2.trans n3
    have E1 : B3 D = none := t3.nb D D1 (by rw [D3]; exact fun z => by cases z)
    have E3 : H' D = some (.lst vs) := t3.hh D _ D3
    obtain ⟨hz, hc⟩ := hst i acc L2 d hlt hd1 h2
    refine cg_ok n3.l rd (wipe_rep (s.mono (n1.trans n13).s (n1.trans n13).p) (own.map (·.2))) ho hc fun env' σ' s' hw hc' => ⟨by rw [hw, wipe_wipe], ?_⟩
    refine ⟨⟨B3, H', a2⟩, B3, a2, L2, env', _, _, n3.l, s', Mv.refl, hc', fun B4 H4 a4 L4 b n4 q4 => ?_, fun _ _ _ _ _ _ _ _ _ z => z⟩
    have n34 : Nx X.K Z B3 a2 B4 H4 a4 L4 := ⟨n4.l, n3.m.trans n4.m, n4.s, n4.p⟩
    have F1 : B4 D = none := n4.m.nb D E1 (by show H' D ≠ none; rw [E3]; exact fun z => by cases z) D2
    have F2 : D ∉ a4 := fun z => by
      rcases n4.m.la D z with y | y
      · exact D2 y
      · have y' : H' D = none := y
        rw [E3] at y'; cases y'
    have F3 : H4 D = some (.lst vs) := n4.m.fr D _ E3 D2
    cases b with
    | false => exact ⟨B4, a4, L4, acc, vs, n13.trans n34, F1, F2, F3, ra.mono (n3.trans n34).s (n3.trans n34).p, q4⟩
    | true =>
      refine ⟨⟨B4, H4, a4⟩, B4, a4, L4, env', _, _, n4.l, s'.mono n4.s n4.p, Mv.refl, q4, fun B5 H5 a5 L5 y u n5 r5 q5 => ?_, fun _ _ _ _ _ _ _ _ _ z => z⟩
      have n45 : Nx X.K Z B4 a4 B5 H5 a5 L5 := ⟨n5.l, n34.m.trans n5.m, n5.s, n5.p⟩
      have G1 : B5 D = none := n5.m.nb D F1 (by show H4 D ≠ none; rw [F3]; exact fun z => by cases z) F2
      have G2 : D ∉ a5 := fun z => by
        rcases n5.m.la D z with y | y
        · exact F2 y
        · have y' : H4 D = none := y
          rw [F3] at y'; cases y'
      have G3 : H5 D = some (.lst vs) := n5.m.fr D _ F3 F2
      have n15 := (n13.trans n34).trans n45
      refine ⟨vs, G3, by rw [← ra.length]; exact line_lt hz, ?_⟩
      have nd : ∀ {q : Addr}, q ∈ a5 → q ≠ D := fun {q} h z => by subst z; exact G2 h
      refine ⟨B5, a5, L5, acc ++ [y], vs ++ [u], ⟨⟨fun b o h => by rw [upd_ne (ne_of_none h G1)]; exact n5.l.ex b o h, n5.l.len, n5.l.nd, fun b hb => by rw [upd_ne (nd hb)]; exact n5.l.th b hb, fun k b od h1 h2 h3 => by
          obtain ⟨n2, o, h4, h5⟩ := n5.l.ob k b od h1 h2 h3
          exact ⟨n2, o, by rw [upd_ne (nd (List.mem_of_getElem? h1))]; exact h4, h5⟩⟩, ⟨n15.m.bb, fun q o h hn => by rw [upd_ne (ne_of_none h hZD)]; exact n15.m.fr q o h hn, n15.m.nb, n15.m.la, n15.m.pre, fun q h => by
          by_cases e : q = D
          · subst e; rw [upd_same]; exact fun z => by cases z
          · rw [upd_ne e]; exact n15.m.up q h⟩, n15.s, n15.p⟩, G1, G2, upd_same, (ra.mono ((n3.trans n34).trans n45).s ((n3.trans n34).trans n45).p).append (.one r5), q5⟩
  · have e : i = j.n := by omega
    obtain ⟨B', al', L', d, n', r', q'⟩ := hf Z B2 H2 a2 L2 D acc vs Q0 n2.l n2.m D1 D2 D3 hZD ra (hd acc L2 (by rw [← e]; exact h2))
    exact .inl ⟨ok.stop B2 H2 a2 L2 i n2 (hk _ _ _ h2) (by omega), hQ _ _ _ _ _ _ ((n1.trans n2).trans n') r' q'⟩
theorem cg_pg {X' : Cx} (hN : X'.N.Nodup) (hc : X'.calm = true) : ∀ {tg : CTg} {tx : Expr}, (match tg with | .one i => PG X' tx (gName i) | .tup is => PG X' tx (gTup X'.K is.length (gNames is))) → PG X' tx (cgH X'.K tg)
  | .one _, _, h => h
  | .tup _, _, h => h
theorem de_lcG {fin : List D → LH → DK → Prop} (hf : FinOk X.K fin) (tg : CTg) (hc : X.calm = true) (hN : X.N.Nodup) (hi : DI X Z W tx it wi) (ok : BlkOk X.N X.env.scope scope own) (ho : ∀ i ∈ tg.ixs, i ∈ own.map (·.2))
    (hg : ∀ (s : Shared) (H : Hp) (C : Addr) (cl : List (Str × Addr)) (fp : List Addr), PG (X.blk s H scope (compEnvC scope cl C X.env) fp) tx (cgH X.K tg))
    (ht : ∀ (s : Shared) (H : Hp) (C : Addr) (cl : List (Str × Addr)) (fp : List Addr) (Z' : Ent), DTs (X.blk s H scope (compEnvC scope cl C X.env) fp) Z' W0 ifs tt)
    (he : ∀ (s : Shared) (H : Hp) (C : Addr) (cl : List (Str × Addr)) (fp : List Addr) (Z' : Ent), DE (X.blk s H scope (compEnvC scope cl C X.env) fp) Z' W0 e te) (hs : ∀ x, foldedSetIterable it X.env x = pure x := by intro _; rfl) :
    DE X Z W (.ListComp e [⟨tx, it, ifs, 0⟩] scope pos) (dLcG (own.map (·.2)) wi tg tt te fin) :=
  (pe_lc (own := own) hc hN hi ok hg (fun s H C cl fp => ⟨fun pins s' σ H' Q I ⟨Z', q⟩ => (ht s H C cl fp Z').run pins s' σ H' Q I q⟩) (fun s H C cl fp => ⟨fun pins s' σ H' Q I ⟨Z', q⟩ => (he s H C cl fp Z').run pins s' σ H' Q I q⟩) hs).imp fun _ _ _ => lc_read hf ho
/-- y = [..] -/
theorem ds_setLcG {fin : List D → LH → DK → Prop} (hf : FinOk X.K fin) (tg : CTg) (i : Nat) {y : Str} {py spos : Pos} (hc : X.calm = true) (hN : X.N.Nodup) (hi : DI X Z W tx it wi) (ok : BlkOk X.N X.env.scope scope own) (ho : ∀ i ∈ tg.ixs, i ∈ own.map (·.2))
    (hg : ∀ (s : Shared) (H : Hp) (C : Addr) (cl : List (Str × Addr)) (fp : List Addr), PG (X.blk s H scope (compEnvC scope cl C X.env) fp) tx (cgH X.K tg))
    (ht : ∀ (s : Shared) (H : Hp) (C : Addr) (cl : List (Str × Addr)) (fp : List Addr) (Z' : Ent), DTs (X.blk s H scope (compEnvC scope cl C X.env) fp) Z' W0 ifs tt)
    (he : ∀ (s : Shared) (H : Hp) (C : Addr) (cl : List (Str × Addr)) (fp : List Addr) (Z' : Ent), DE (X.blk s H scope (compEnvC scope cl C X.env) fp) Z' W0 e te)
    (hsw : swapsWith (.ListComp e [⟨tx, it, ifs, 0⟩] scope pos) (some (.Name y py)) spos.line X.env = pure true) (hy : X.N[i]? = some y := by rfl) (hyl : X.env.scope.names.lookup y = some .local := by rfl) (hs : ∀ x, foldedSetIterable it X.env x = pure x := by intro _; rfl) :
    DS X Z W (.Assign [.Name y py] (.ListComp e [⟨tx, it, ifs, 0⟩] scope pos) spos) (dSet i (dLcG (own.map (·.2)) wi tg tt te fin)) :=
  (ps_setLc (i := i) (own := own) hc hN hy hyl hsw hi ok hg (fun s H C cl fp => ⟨fun pins s' σ H' Q I ⟨Z', q⟩ => (ht s H C cl fp Z').run pins s' σ H' Q I q⟩) (fun s H C cl fp => ⟨fun pins s' σ H' Q I ⟨Z', q⟩ => (he s H C cl fp Z').run pins s' σ H' Q I q⟩) hs).imp fun D σ H ⟨B, al, L, env, DD, l, s, m, h, f⟩ =>
    lc_read hf ho (lE_then l s m h (f.hx s) fun B1 H1 a1 L1 d v n1 s1 r1 h1 => f.nx _ _ _ _ _ _ n1 (s1.set r1) h1)
end
end DL
set_option Elab.async false
set_option linter.all false
set_option maxRecDepth 100000
set_option maxHeartbeats 2000000
namespace DL
open PySem PySem.Spec PyProof.Rows L2
section
variable {X : Cx} {Z : Ent} {W : WX} {K : PySem.W.Frag} {a b c e : Expr} {ta tb tc te to : TD} {tA tB' tt : TDT} {tu : TDA} {pos p : Pos} {es ifs : List Expr} {k : Nat} {x : Str}

/-! ### a caught error -/
/-- the class w, as a value, is c; an instance of C is one of it, or not -/
def KitO (K : PySem.W.Frag) (C : Addr) (w : V) (r : Bool) : Prop := ∃ c, ClsV w c ∧ PySem.W.kitOne K (.ref C) c = some r
def rIsX (K : PySem.W.Frag) (x C : Addr) (d : Option Addr) : List V → Hp → VK → Prop := fun xs H Q => ∃ w r, xs = [.ref x, w] ∧ ExcC K C ∧ KitO K C w r ∧ (d = none ∨ ∃ dd fs, d = some dd ∧ H dd = some (.xd fs)) ∧ Q (.bl r) H
theorem call_isX {x C : Addr} {d : Option Addr} {oe : Obj} {pn : List (Addr × Obj)} (hz : Zc (.ref C) d oe) (hf : ∃ vs, oe.data = .fields vs) : CallR (X.suite x ((x, oe) :: pn)) (.builtin "isinstance") (rIsX X.K x C d) := by
  intro pins s σ H xs us Q I rv ⟨w, r, e1, T, ⟨cv, hcv, hk⟩, hd, q⟩
  subst e1
  cases rv with
  | cons r1 rr =>
    cases rr with
    | cons r2 rr =>
      cases rr
      cases r1
      have e2 := hcv.eq r2
      subst e2
      obtain ⟨vs, hv⟩ := hf
      obtain ⟨hget, _⟩ := I.pin (x, oe) (List.mem_append.mpr (.inl List.mem_cons_self))
      have J : ∃ od, PySem.W.InstAt s.heap x oe C od := by
        rcases hd with hd | ⟨dd, fs, hd, hx⟩
        · refine ⟨none, hget, hz.1, by unfold PySem.W.notCls; rw [hv] <;> rfl, ?_⟩
          rw [hz.2, hd]
          trivial
        · have ox : ObjOk X.prog X.w H s.heap dd (.xd fs) := I.hok dd _ hx
          obtain ⟨mA, hns, _⟩ := ox
          obtain ⟨od, ho, _⟩ := lookIn_ns hns
          refine ⟨some od, hget, hz.1, by unfold PySem.W.notCls; rw [hv] <;> rfl, ?_⟩
          rw [hz.2, hd]
          exact ho
      obtain ⟨od, J⟩ := J
      obtain ⟨cd, hcd, _⟩ := PySem.W.any_some T.hd
      exact PySem.W.kia_one (PySem.W.kitx_exc (by rw [hcd]; rfl) T.hg T.hk T.hs T.ha T.hn T.ht T.hm) I.kIn J hk (fun z => nomatch z) fun tk => ⟨.bl r, H, I.kept (t' := tk) fun _ _ z => z, rfl, q⟩
def gIsX (K : PySem.W.Frag) (x C : Addr) (d : Option Addr) : GN := fun ds L Q => ∃ fs w r, ds = [.xcp x d C fs, .val w] ∧ ExcC K C ∧ KitO K C w r ∧ Q (.bl r) L
theorem dop_isX {y C : Addr} {d : Option Addr} : DOpN K (rIsX K y C d) (gIsX K y C d) := by
  intro Z B H al L xs vs Q Q0 l m rx ⟨fs, w, r, e, T, hk, q⟩ hQ
  subst e
  cases rx with
  | cons r1 rr =>
    cases rr with
    | cons r2 rr =>
      cases rr
      cases r2
      refine ⟨w, r, ?_, T, hk, ?_, hQ _ _ _ _ _ _ (.refl l m) (.bl _) q⟩
      · cases r1 <;> rfl
      · cases r1 with
        | xcp0 => exact .inl rfl
        | xcp1 h _ => exact .inr ⟨_, _, rfl, l.ex _ _ h⟩
theorem de_isX {y C : Addr} {d : Option Addr} {oe : Obj} {pn : List (Addr × Obj)} (hz : Zc (.ref C) d oe) (hf : ∃ vs, oe.data = .fields vs) (hm : X.mg "isinstance" = none) (ha : DA (X.suite y ((y, oe) :: pn)) Z W [a, b] tu) (hgl : Gl X "isinstance" := by rfl)
    (he : starEach [a, b] X.env = (false, eval a X.env) :: starEach [b] X.env := by rfl) (hpl : (backTo pos (starEach [b] X.env)).any (·.1) = false := by rfl) : DE (X.suite y ((y, oe) :: pn)) Z W (.Call (.Name "isinstance" p) [a, b] [] pos) (dCB (gIsX X.K y C d) tu) :=
  de_cb (X := X.suite y ((y, oe) :: pn)) (call_isX hz hf) dop_isX hm (by decide +kernel) ha hgl (by decide) (by decide) he hpl
/-- e.f of the caught error -/
def dXf (K : PySem.W.Frag) (x C : Addr) (d : Option Addr) (f : Str) (te : TD) : TD := fun env L Q X => XfC K C ∧ PySem.W.findIn K (.ref C) f = some none ∧ te env L (fun v L1 => ∃ fs w, v = .xcp x d C fs ∧ fs.lookup f = some w ∧ Q w L1) X
theorem de_xf {y C : Addr} {d : Option Addr} {oe : Obj} {pn : List (Addr × Obj)} {n : Str} (hz : Zc (.ref C) d oe) (hf : ∃ vs, oe.data = .fields vs) (he : DE (X.suite y ((y, oe) :: pn)) Z W e te) (hb : attributeBase e n X.env (eval e X.env) = eval e X.env := by rfl) :
    DE (X.suite y ((y, oe) :: pn)) Z W (.Attribute e n pos) (dXf X.K y C d n te) := by
  refine ⟨fun pins s σ H Q I ⟨B, al, L, env, Q0, X0, l, s', m, ⟨T, hno, h⟩, hQ, hX⟩ => (pe_xf T hno hz hf he hb).run pins s σ H Q I ?_⟩
  refine lE_then l s' m h hX fun B1 H1 a1 L1 v u n1 s1 r1 ⟨fs, w, e1, hl, q⟩ => ?_
  subst e1
  cases r1 with
  | xcp0 => cases hl
  | xcp1 hd rp =>
    obtain ⟨v, hv, rv⟩ := (rp.lookup (n := n)).1 w hl
    exact ⟨rfl, rfl, _, _, v, rfl, n1.l.ex _ _ hd, hv, hQ _ _ _ _ _ _ n1 rv q⟩

/-! ### instances -/
/-- an instance of a class, frozen or one's own -/
def ins? (L : LH) : D → Option (Addr × List (Str × D))
  | .ins C fs => some (C, fs)
  | .own k => match L[k]? with
    | some (.ins C fs) => some (C, fs)
    | _ => none
  | _ => none
theorem ins_rep {B H : Hp} {al : List Addr} {L : LH} (l : Lift K B H al L) {d : D} {v : V} {C : Addr} {fs : List (Str × D)} (r : Rep K B al d v) (h : ins? L d = some (C, fs)) : ∃ a dx vs, v = .ref a ∧ H a = some (.ins C dx vs) ∧ RepP K B al fs vs := by
  cases r with
  | ins hb rp => cases h; exact ⟨_, _, _, rfl, l.ex _ _ hb, rp⟩
  | @own k a ha =>
    unfold ins? at h
    dsimp only at h
    cases e : L[k]? with
    | none => rw [e] at h; cases h
    | some od =>
      rw [e] at h
      cases od with
      | ins C' fs' =>
        cases h
        obtain ⟨_, o, ho, ro⟩ := l.ob k _ _ ha e (fun z => nomatch z)
        cases ro with
        | ins rp => exact ⟨_, _, _, rfl, ho, rp⟩
      | _ => cases h
  | _ => cases h
/-- C's instances have f as a field -/
structure Fl (K : PySem.W.Frag) (C : Addr) (f : Str) : Prop where
  c : Cls K C
  n : NoAttr K C f
def dFld (K : PySem.W.Frag) (f : Str) (to : TD) : TD := fun env L Q X => to env L (fun x L1 => ∃ C fs w, ins? L1 x = some (C, fs) ∧ Fl K C f ∧ fs.lookup f = some w ∧ Q w L1) X
theorem de_fld {f : Str} (he : DE X Z W e te) (hb : attributeBase e f X.env (eval e X.env) = eval e X.env := by rfl) : DE X Z W (.Attribute e f pos) (dFld X.K f te) :=
  (pe_fld he hb).imp fun σ H Q ⟨B, al, L, env, Q0, X0, l, s, m, h, hQ, hX⟩ => lE_then l s m h hX fun B1 H1 a1 L1 x v n1 s1 r1 ⟨C, fs, w, hi, T, hl, q⟩ => by
    obtain ⟨p, dx, vs, rfl, hp, rp⟩ := ins_rep n1.l r1 hi
    obtain ⟨u, hu, ru⟩ := (rp.lookup (n := f)).1 w hl
    exact ⟨p, C, dx, vs, u, rfl, hp, T.c, T.n, hu, hQ _ _ _ _ _ _ n1 ru q⟩
def putD (f : Str) (v : D) : List (Str × D) → List (Str × D)
  | [] => [(f, v)]
  | (g, x) :: r => if g = f then (g, v) :: r else (g, x) :: putD f v r
theorem putD_rep {B : Hp} {al : List Addr} {f : Str} {d : D} {v : V} (r : Rep K B al d v) : ∀ {fs : List (Str × D)} {vs : List (Str × V)}, RepP K B al fs vs → RepP K B al (putD f d fs) (putF f v vs)
  | _, _, .nil => .cons r .nil
  | _, _, .cons (n := g) h t => by
    unfold putD putF
    by_cases e : g = f
    · rw [if_pos e, if_pos e]; exact .cons r t
    · rw [if_neg e, if_neg e]; exact .cons h (putD_rep r t)
/-- o.f = e, o one's own -/
def dSetF (K : PySem.W.Frag) (f : Str) (to te : TD) : TDS := fun DD env L => te env L (fun v L1 => to env L1 (fun x L2 => ∃ k C fs, x = .own k ∧ L2[k]? = some (.ins C fs) ∧ Fl K C f ∧ fs.length < 1000 ∧ DD.nx env (L2.set k (.ins C (putD f v fs)))) (fun C fs L2 => DD.ex C fs env L2)) (fun C fs L1 => DD.ex C fs env L1)
theorem ds_setf {o : Expr} {f : Str} {pos' : Pos} (ho : DE X Z W o to) (he : DE X Z W e te) (hs : swapsWith e (some (.Attribute o f pos')) pos.line X.env = pure false := by rfl) : DS X Z W (.Assign [.Attribute o f pos'] e pos) (dSetF X.K f to te) :=
  (ps_fld ho he hs).imp fun D σ H ⟨B, al, L, env, DD, l, s, m, h, g⟩ => by
    refine lE_then l s m h (g.hx s) fun B1 H1 a1 L1 v y n1 s1 r1 h1 => ?_
    refine lE_then n1.l s1 n1.m h1 ((g.later n1).hx s1) fun B2 H2 a2 L2 x u n2 s2 r2 ⟨k, C, fs, ex, hk, T, hl, q⟩ => ?_
    subst ex
    cases r2 with
    | own ha =>
      obtain ⟨_, o, ho, ro⟩ := n2.l.ob k _ _ ha hk (fun z => nomatch z)
      cases ro with
      | @ins _ dx _ _ rp =>
        have n3 := nx_upd n2.l n2.m ha hk (fun z => nomatch z) (.ins (C := C) (dx := dx) (putD_rep (f := f) (r1.mono n2.s n2.p) rp))
        exact ⟨_, C, _, _, rfl, ho, T.c, T.n, by rw [← rp.length]; exact hl, g.nx _ _ _ _ _ _ ((n1.trans n2).trans n3) s2 q⟩

/-! ### methods of own classes -/
/-- the class C has m, which keeps S, called with the defaults ds behind -/
def MdD (P : Program) (w : World) (K : PySem.W.Frag) (mg : Str → Option Value) (base : Heap) (k : Nat) (C : Addr) (m : Str) (ps : List Str) (dd : List D) (S : DSp) : Prop :=
  Cls K C ∧ ∃ (f : Addr) (fd : FuncData) (ds : List Value) (dvs : List V), Meth K C m f ∧ Binds K fd ps ds ∧ Vals dvs ds ∧ (∀ B al, RepA K B al dd dvs) ∧ FnOk P w K mg base (L2.CX P w) k f fd ps (spOf K S)
/-- o.m(..), o's class one of those that R tells -/
def dMeth (R : Addr → DSp → Prop) (m : Str) (dd : List D) (to : TD) (t : TDA) : TD := fun env L Q X => to env L (fun x L1 => ∃ C fs S, ins? L1 x = some (C, fs) ∧ R C S ∧ fs.lookup m = none ∧ t env L1 (fun ds L2 => S (x :: (ds ++ dd)) L2 Q X) X) X
variable {ps : List Str} {dd : List D}
theorem run_dm {S : DSp} {f : Addr} {fd : FuncData} {ds : List Value} {dvs : List V} {pins : List (Addr × Obj)} {σ : L2.St} {H : Hp} {s : Shared} {Q : VK} {us : List Value} {vs : List V} (F : FnOk X.prog X.w X.K X.mg X.base (L2.CX X.prog X.w) k f fd ps (spOf X.K S)) (hr : Room k X.A) (hb : Binds X.K fd ps ds) (hd : Vals dvs ds) (tk : Takes X W)
    (I : Inv X pins σ H s) (r : Vals vs us) (h : spOf X.K S (vs ++ dvs) H Q (WE W σ)) : wpAny (model X.prog X.w) X.A (call (.ref f) us) (EP X pins σ Q) X.xe s := run_fnSD F hr hb hd (E := WE W) (passAt tk σ) I r h
theorem de_meth {o : Expr} {m : Str} {apos : Pos} {R : Addr → DSp → Prop} {pl : Sem Bool} (hT : ∀ C S, R C S → MdD X.prog X.w X.K X.mg X.base k C m ps dd S) (hr : Room k X.A) (tk : Takes X W) (ho : DE X Z W o to) (ha : DA X Z W (e :: es) tu)
    (hst : starEach (e :: es) X.env = (false, eval e X.env) :: starEach es X.env := by rfl) (hpl : (backTo pos (starEach es X.env)).any (·.1) = false := by rfl)
    (ht : eval (.Call (.Attribute o m apos) (e :: es) [] pos) X.env = (do
      let ov ← eval o X.env
      standAt apos.atName
      let (g, first) ← holding [ov] (getMethod ov m pl)
      callWith pos g first (backTo pos (starEach (e :: es) X.env)) (backToKw pos (keywordEach [] X.env))) := by rfl) : DE X Z W (.Call (.Attribute o m apos) (e :: es) [] pos) (dMeth R m dd to tu) := by
  refine ⟨fun pins s σ H Q I ⟨B, al, L, env, Q0, X0, l, s', mv, h, hQ, hX⟩ => ?_⟩
  refine PySem.W.methodCall_KW (pl := pl) (thn (ho.run pins s σ H _ I (lE_then l s' mv h hX fun B1 H1 a1 L1 x v n1 s1 r1 h1 => (⟨B1, a1, L1, x, n1, s1, r1, h1⟩ : ∃ B1 a1 L1 x, Nx X.K Z B al B1 H1 a1 L1 ∧ RepS X.K B1 a1 env σ ∧ Rep X.K B1 a1 x v ∧
    ∃ C fs S, ins? L1 x = some (C, fs) ∧ R C S ∧ fs.lookup m = none ∧ tu env L1 (fun ds L2 => S (x :: (ds ++ dd)) L2 Q0 X0) X0))) fun u st1 ⟨v, H1, I1, rv, B1, a1, L1, x, n1, s1, r1, C, fs, S, hi, hR, hl, h1⟩ => ?_) ht
  obtain ⟨q, dx, vs, rfl, hp, rp⟩ := ins_rep n1.l r1 hi
  obtain rfl : u = Value.ref q := rv
  obtain ⟨cl, f, fd, ds, dvs, hm, hb, hd, hdd, F⟩ := hT C S hR
  refine getmeth_ok I1 hp cl hm ((rp.lookup (n := m)).2 hl) ?_
  refine PySem.W.callWith_K (first := [.ref q]) (h₀ := X.base) I.ok.mod.kin hm.kp (thn (ha.run pos pins st1 σ H1 (fun ws H2 => spOf X.K S ((.ref q :: ws) ++ dvs) H2 Q (WE W σ)) I1 (lA_then n1.l s1 n1.m h1 (HX.nx hX n1) fun B2 H2 a2 L2 xs ws n2 s2 r2 h2 => ?_)) fun us st2 ⟨ws, H2, I2, r, q2⟩ => ⟨I2.kIn, ?_⟩) hst hpl
  · exact sp_then n2.l n2.m (.cons (r1.mono n2.s n2.p) (r2.append (hdd _ _))) h2 (HX.nx hX (n1.trans n2)) fun _ _ _ _ _ _ n3 r3 q3 => hQ _ _ _ _ _ _ ((n1.trans n2).trans n3) r3 q3
  · exact run_dm (us := .ref q :: us) (vs := .ref q :: ws) F hr hb hd tk I2 (.cons rfl r) q2
theorem de_meth0 {o : Expr} {m : Str} {apos : Pos} {R : Addr → DSp → Prop} {pl : Sem Bool} (hT : ∀ C S, R C S → MdD X.prog X.w X.K X.mg X.base k C m ps dd S) (hr : Room k X.A) (tk : Takes X W) (ho : DE X Z W o to)
    (ht : eval (.Call (.Attribute o m apos) [] [] pos) X.env = (do
      let ov ← eval o X.env
      standAt apos.atName
      let (g, first) ← holding [ov] (getMethod ov m pl)
      callWith pos g first (backTo pos (starEach [] X.env)) (backToKw pos (keywordEach [] X.env))) := by rfl) : DE X Z W (.Call (.Attribute o m apos) [] [] pos) (dMeth R m dd to dNil) := by
  refine ⟨fun pins s σ H Q I ⟨B, al, L, env, Q0, X0, l, s', mv, h, hQ, hX⟩ => ?_⟩
  refine PySem.W.methodCall_KW (pl := pl) (thn (ho.run pins s σ H _ I (lE_then l s' mv h hX fun B1 H1 a1 L1 x v n1 s1 r1 h1 => (⟨B1, a1, L1, x, n1, s1, r1, h1⟩ : ∃ B1 a1 L1 x, Nx X.K Z B al B1 H1 a1 L1 ∧ RepS X.K B1 a1 env σ ∧ Rep X.K B1 a1 x v ∧
    ∃ C fs S, ins? L1 x = some (C, fs) ∧ R C S ∧ fs.lookup m = none ∧ S (x :: ([] ++ dd)) L1 Q0 X0))) fun u st1 ⟨v, H1, I1, rv, B1, a1, L1, x, n1, s1, r1, C, fs, S, hi, hR, hl, h1⟩ => ?_) ht
  obtain ⟨q, dx, vs, rfl, hp, rp⟩ := ins_rep n1.l r1 hi
  obtain rfl : u = Value.ref q := rv
  obtain ⟨cl, f, fd, ds, dvs, hm, hb, hd, hdd, F⟩ := hT C S hR
  refine getmeth_ok I1 hp cl hm ((rp.lookup (n := m)).2 hl) ?_
  exact PySem.W.callWith_K0 (first := [.ref q]) I1.kIn hm.kp (run_dm (us := [.ref q]) (vs := [.ref q]) F hr hb hd tk I1 (.cons rfl .nil) (sp_then n1.l n1.m (.cons r1 (hdd _ _)) h1 (HX.nx hX n1) fun _ _ _ _ _ _ n3 r3 q3 => hQ _ _ _ _ _ _ (n1.trans n3) r3 q3))

/-! ### making -/
/-- C(..): a new instance of one's own, its __init__ keeps S -/
def MkD (P : Program) (w : World) (K : PySem.W.Frag) (mg : Str → Option Value) (base : Heap) (k : Nat) (x : Str) (C : Addr) (ps : List Str) (dd : List D) (S : DSp) : Prop :=
  mg x = some (.ref C) ∧ ∃ (f : Addr) (fd : FuncData) (ds : List Value) (dvs : List V), Mk K C f ∧ Binds K fd ps ds ∧ Vals dvs ds ∧ (∀ B al, RepA K B al dd dvs) ∧ FnOk P w K mg base (L2.CX P w) k f fd ps (spOf K S)
def dMake (C : Addr) (dd : List D) (S : DSp) (t : TDA) : TD := fun env L Q X => t env L (fun ds L1 => S (.own L1.length :: (ds ++ dd)) (L1 ++ [.ins C []]) (fun v L2 => v = .non ∧ Q (.own L1.length) L2) X) X
theorem lift_make {B H : Hp} {al : List Addr} {L : LH} {x dx C : Addr} (l : Lift K B H al L) (m : Mv Z B H al) (hx : H x = none) (hd : H dx = none) (ne : dx ≠ x) : Nx K Z B al B (upd (upd H dx (.own x)) x (.ins C dx [])) (al ++ [x]) (L ++ [.ins C []]) := by
  have l1 : Lift K B (upd H dx (.own x)) al L := ⟨fun b o h => by rw [upd_ne (ne_of_none h (Same.free l.ex hd))]; exact l.ex b o h, l.len, l.nd, fun b hb => by
      by_cases e : b = dx
      · subst e; rw [upd_same]; exact fun z => by cases z
      · rw [upd_ne e]; exact l.th b hb, fun k b od h1 h2 h3 => by
      obtain ⟨n2, o, h4, h5⟩ := l.ob k b od h1 h2 h3
      exact ⟨n2, o, by rw [upd_ne (ne_of_none h4 hd)]; exact h4, h5⟩⟩
  have m1 : Mv Z B (upd H dx (.own x)) al := ⟨m.bb, fun q o h n => by have := m.fr q o h n; rw [upd_ne (ne_of_none this hd)]; exact this, m.nb, m.la, m.pre, fun q h => by
      by_cases e : q = dx
      · subst e; rw [upd_same]; exact fun z => by cases z
      · rw [upd_ne e]; exact m.up q h⟩
  have hx1 : (upd H dx (.own x)) x = none := by rw [upd_ne (Ne.symm ne)]; exact hx
  exact ⟨l1.newO hx1 (.ins .nil), m1.newO hx1, fun _ _ h => h, List.prefix_append _ _⟩
theorem make_then {S : DSp} {C : Addr} {σ : L2.St} {B H : Hp} {al : List Addr} {L : LH} {ds : List D} {vs dvs : List V} {Q : VK} {Q0 : DK} {X0 : DX} (l : Lift K B H al L) (m : Mv Z B H al) (r : RepA K B al ds vs) (hdd : ∀ B al, RepA K B al dd dvs)
    (h : S (.own L.length :: (ds ++ dd)) (L ++ [.ins C []]) (fun v L2 => v = .non ∧ Q0 (.own L.length) L2) X0) (hX : HX K Z W B al σ X0) (hQ : ∀ B' H' al' L' d v, Nx K Z B al B' H' al' L' → Rep K B' al' d v → Q0 d L' → Q v H') :
    ∀ x dx, H x = none → H dx = none → dx ≠ x → spOf K S (.ref x :: (vs ++ dvs)) (upd (upd H dx (.own x)) x (.ins C dx [])) (fun v H2 => v = .non ∧ Q (.ref x) H2) (WE W σ) := fun x dx hx hd ne => by
  have n1 := lift_make (C := C) l m hx hd ne
  have ro : Rep K B (al ++ [x]) (.own L.length) (.ref x) := .own (by rw [← l.len, List.getElem?_append_right (Nat.le_refl _), Nat.sub_self]; rfl)
  refine sp_then n1.l n1.m (.cons ro ((r.mono n1.s n1.p).append (hdd _ _))) h (HX.nx hX n1) fun B2 H2 a2 L2 d v n2 r2 ⟨e, q⟩ => ?_
  subst e
  cases r2
  exact ⟨rfl, hQ _ _ _ _ _ _ (n1.trans n2) (ro.mono n2.s n2.p) q⟩
theorem run_mkD {S : DSp} {C f : Addr} {fd : FuncData} {ds : List Value} {dvs : List V} {pins : List (Addr × Obj)} {σ : L2.St} {H : Hp} {s : Shared} {Q : VK} {us : List Value} {vs : List V} (M : Mk X.K C f) (F : FnOk X.prog X.w X.K X.mg X.base (L2.CX X.prog X.w) k f fd ps (spOf X.K S)) (hr : Room (k + 1) X.A) (hb : Binds X.K fd ps ds) (hd : Vals dvs ds)
    (tk : Takes X W) (I : Inv X pins σ H s) (r : Vals vs us)
    (h : ∀ x dx, H x = none → H dx = none → dx ≠ x → spOf X.K S (.ref x :: (vs ++ dvs)) (upd (upd H dx (.own x)) x (.ins C dx [])) (fun v H2 => v = .non ∧ Q (.ref x) H2) (WE W σ)) :
    wpAny (model X.prog X.w) X.A (call (.ref C) us) (EP X pins σ Q) X.xe s := by
  have want := h (s.heap.objs.size + 1) s.heap.objs.size (I.hok.fresh (Nat.le_succ _)) (I.hok.fresh (Nat.le_refl _)) (Nat.ne_of_lt (Nat.lt_succ_self _))
  have J := Inv.made (C := C) I
  have rr : Vals (V.ref (s.heap.objs.size + 1) :: (vs ++ dvs)) (Value.ref (s.heap.objs.size + 1) :: (us ++ ds)) := .cons rfl (r.append hd)
  have len : (Value.ref (s.heap.objs.size + 1) :: us ++ ds).length = ps.length := (F.len _ _ _ _ want) ▸ rr.length.symm
  refine wpAny_call (make_map (f := f) I.kIn M.makes M.init (beq_iff_eq.mp M.fn) (codeAny_mono (F.run _ X.stack _ _ ⟨Value.ref (s.heap.objs.size + 1) :: us, []⟩ (Value.ref (s.heap.objs.size + 1) :: (us ++ ds)) _ _ (WE W σ) (hr.make C us [])
    (J.env0.make C us []) (hb _ (Value.ref (s.heap.objs.size + 1) :: us) J.kIn len) rr want) fun res st hres => ?_))
  cases res with
  | error er => exact passAt tk σ pins _ _ er st J hres
  | ok fl =>
    cases fl with
    | ret u =>
      obtain ⟨v, H', J2, rv, ev, q3⟩ := J.after hres
      subst ev
      exact ⟨rv, ⟨V.ref (s.heap.objs.size + 1), H', J2, rfl, q3⟩⟩
    | _ => exact hres.elim
theorem de_make {S : DSp} {C : Addr} (M : MkD X.prog X.w X.K X.mg X.base k x C ps dd S) (hr : Room (k + 1) X.A) (tk : Takes X W) (ha : DA X Z W (e :: es) tu) (hg : Gl X x := by rfl) (hdb : (x == ("__debug__" : Str)) = false := by decide)
    (he : starEach (e :: es) X.env = (false, eval e X.env) :: starEach es X.env := by rfl) (hpl : (backTo pos (starEach es X.env)).any (·.1) = false := by rfl) : DE X Z W (.Call (.Name x p) (e :: es) [] pos) (dMake C dd S tu) := by
  obtain ⟨hm, f, fd, ds, dvs, mk, hb, hd, hdd, F⟩ := M
  refine ⟨fun pins s σ H Q I ⟨B, al, L, env, Q0, X0, l, s', mv, h, hQ, hX⟩ => ?_⟩
  refine wpAny_Call_Name_kw (ld_glob I hg hm ?_ hdb)
  refine PySem.W.callWith_K (h₀ := X.base) I.ok.mod.kin mk.kp (thn (ha.run pos pins s σ H (fun vs H1 => ∀ x dx, H1 x = none → H1 dx = none → dx ≠ x → spOf X.K S (.ref x :: (vs ++ dvs)) (upd (upd H1 dx (.own x)) x (.ins C dx [])) (fun v H2 => v = .non ∧ Q (.ref x) H2) (WE W σ)) I
    (lA_then l s' mv h hX fun B1 H1 a1 L1 xs vs n1 s1 r1 h1 => make_then n1.l n1.m r1 hdd h1 (HX.nx hX n1) fun _ _ _ _ _ _ n2 r2 q2 => hQ _ _ _ _ _ _ (n1.trans n2) r2 q2)) fun us s1 ⟨vs, H1, I1, r, q⟩ => ⟨I1.kIn, ?_⟩) he hpl
  exact run_mkD mk F hr hb hd tk I1 r q
theorem de_make0 {S : DSp} {C : Addr} (M : MkD X.prog X.w X.K X.mg X.base k x C ps dd S) (hr : Room (k + 1) X.A) (tk : Takes X W) (hg : Gl X x := by rfl) (hdb : (x == ("__debug__" : Str)) = false := by decide) : DE X Z W (.Call (.Name x p) [] [] pos) (dMake C dd S dNil) := by
  obtain ⟨hm, f, fd, ds, dvs, mk, hb, hd, hdd, F⟩ := M
  refine ⟨fun pins s σ H Q I ⟨B, al, L, env, Q0, X0, l, s', mv, h, hQ, hX⟩ => ?_⟩
  refine wpAny_Call_Name_kw (ld_glob I hg hm ?_ hdb)
  exact PySem.W.callWith_K0 I.kIn mk.kp (run_mkD (us := []) mk F hr hb hd tk I .nil (make_then l mv .nil hdd h hX hQ))
end
end DL
set_option Elab.async false
set_option linter.all false
set_option maxRecDepth 100000
set_option maxHeartbeats 2000000
namespace DL
open PySem PySem.Spec PyProof.Rows L2

/-! ### what is one's own no more: frozen, or forgotten -/
section
mutual
/-- d, as it is with places from n on read as trees -/
inductive Frz (L : LH) (n : Nat) : D → D → Prop where
  | non : Frz L n .non .non
  | bl (b : Bool) : Frz L n (.bl b) (.bl b)
  | int (i : Int) : Frz L n (.int i) (.int i)
  | str (s : Str) : Frz L n (.str s) (.str s)
  | tup {ds es : List D} (r : FrzA L n ds es) : Frz L n (.tup ds) (.tup es)
  | lst {ds es : List D} (r : FrzA L n ds es) : Frz L n (.lst ds) (.lst es)
  | sq {ds es : List D} (r : FrzA L n ds es) : Frz L n (.sq ds) (.sq es)
  | dct {ds es : List (Key × D)} (r : FrzP L n ds es) : Frz L n (.dct ds) (.dct es)
  | ins {C : Addr} {ds es : List (Str × D)} (r : FrzP L n ds es) : Frz L n (.ins C ds) (.ins C es)
  | old {k : Nat} (h : k < n) : Frz L n (.own k) (.own k)
  | lstO {k : Nat} {ds es : List D} (h : n ≤ k) (g : L[k]? = some (.lst ds)) (r : FrzA L n ds es) : Frz L n (.own k) (.lst es)
  | dctO {k : Nat} {ds es : List (Key × D)} (h : n ≤ k) (g : L[k]? = some (.dK ds)) (r : FrzP L n ds es) : Frz L n (.own k) (.dct es)
  | insO {k : Nat} {C : Addr} {ds es : List (Str × D)} (h : n ≤ k) (g : L[k]? = some (.ins C ds)) (r : FrzP L n ds es) : Frz L n (.own k) (.ins C es)
  | val (v : V) : Frz L n (.val v) (.val v)
  | xcp {a C : Addr} {d : Option Addr} {ds es : List (Str × D)} (r : FrzP L n ds es) : Frz L n (.xcp a d C ds) (.xcp a d C es)
inductive FrzA (L : LH) (n : Nat) : List D → List D → Prop where
  | nil : FrzA L n [] []
  | cons {d e : D} {ds es : List D} (h : Frz L n d e) (t : FrzA L n ds es) : FrzA L n (d :: ds) (e :: es)
inductive FrzP (L : LH) (n : Nat) : {κ : Type} → List (κ × D) → List (κ × D) → Prop where
  | nil {κ : Type} : FrzP L n (κ := κ) [] []
  | cons {κ : Type} {x : κ} {d e : D} {ds es : List (κ × D)} (h : Frz L n d e) (t : FrzP L n ds es) : FrzP L n ((x, d) :: ds) ((x, e) :: es)
end
inductive FrzO (L : LH) (n : Nat) : OD → OD → Prop where
  | gone {od : OD} : FrzO L n od .gone
  | lst {ds es : List D} (r : FrzA L n ds es) : FrzO L n (.lst ds) (.lst es)
  | dK {ds es : List (Key × D)} (r : FrzP L n ds es) : FrzO L n (.dK ds) (.dK es)
  | dT {ds es : List (List Key × D)} (r : FrzP L n ds es) : FrzO L n (.dT ds) (.dT es)
  | ins {C : Addr} {ds es : List (Str × D)} (r : FrzP L n ds es) : FrzO L n (.ins C ds) (.ins C es)
/-- L1, of which L stood at an entry, goes back to L2 of as many places -/
structure Bck (L L1 L2 : LH) : Prop where
  len : L2.length = L.length
  at_ : ∀ (k : Nat) (od : OD), L2[k]? = some od → ∃ o1 : OD, L1[k]? = some o1 ∧ ((o1 = od ∧ L[k]? = some od) ∨ FrzO L1 L.length o1 od)
theorem Bck.app (L G : LH) : Bck L (L ++ G) L := ⟨rfl, fun k od h => ⟨od, by rw [List.getElem?_append_left (List.getElem?_eq_some_iff.mp h).1]; exact h, .inl ⟨rfl, h⟩⟩⟩
theorem Bck.refl (L : LH) : Bck L L L := by simpa using Bck.app L []
/-- .. with the place k written -/
theorem Bck.set {L G : LH} {k : Nat} {o o' : OD} (hk : k < L.length) (h : FrzO (L.set k o ++ G) L.length o o') : Bck L (L.set k o ++ G) (L.set k o') := ⟨List.length_set, fun j od hj => by
  have hl : j < L.length := by have := (List.getElem?_eq_some_iff.mp hj).1; rwa [List.length_set] at this
  rw [List.getElem?_append_left (by rw [List.length_set]; exact hl)]
  by_cases e : k = j
  · subst e
    rw [List.getElem?_set_self hl] at hj ⊢
    cases hj
    exact ⟨o, rfl, .inr h⟩
  · rw [List.getElem?_set_ne e] at hj ⊢
    exact ⟨od, hj, .inl ⟨rfl, hj⟩⟩⟩
end
section
variable {K : PySem.W.Frag} {B H : Hp} {al : List Addr} {L : LH}
/-- what a place from n on holds is laid by -/
theorem frz_in (n : Nat) (l : Lift K B H al L) {k : Nat} {a : Addr} {od : OD} (hk : n ≤ k) (ha : al[k]? = some a) (hg : L[k]? = some od) : a ∈ al.drop n := by
  have : (al.drop n)[k - n]? = some a := by rw [List.getElem?_drop]; rw [show n + (k - n) = k by omega]; exact ha
  exact List.mem_of_getElem? this
open Classical in
/-- B with the places from n on -/
noncomputable def fullB (B H : Hp) (al : List Addr) (n : Nat) : Hp := fun a => if a ∈ al.drop n ∧ B a = none then H a else B a
theorem fullB_same (B H : Hp) (al : List Addr) (n : Nat) : Same B (fullB B H al n) := fun a o h => by
  unfold fullB
  rw [if_neg (fun z => by rw [z.2] at h; cases h)]
  exact h
theorem fullB_at {n : Nat} {a : Addr} {o : HO} (h : a ∈ al.drop n) (hb : B a = none) (ho : H a = some o) : fullB B H al n a = some o := by
  unfold fullB
  rw [if_pos ⟨h, hb⟩]
  exact ho
theorem take_pre {n : Nat} (l : Lift K B H al L) {k : Nat} {a : Addr} (hk : k < n) (ha : al[k]? = some a) : (al.take n)[k]? = some a := by
  rw [List.getElem?_take]
  rw [if_pos hk]
  exact ha
mutual
theorem frz_rep (n : Nat) (l : Lift K B H al L) : ∀ {d e : D} {v : V}, Frz L n d e → Rep K B al d v → Rep K (fullB B H al n) (al.take n) e v
  | _, _, _, .non, .non => .non
  | _, _, _, .bl b, .bl _ => .bl b
  | _, _, _, .int b, .int _ => .int b
  | _, _, _, .str b, .str _ => .str b
  | _, _, _, .tup r, .tup h ra => .tup (same_t (fullB_same B H al n) h) (frz_repA n l r ra)
  | _, _, _, .lst r, .lst h ra => .lst (fullB_same B H al n _ _ h) (frz_repA n l r ra)
  | _, _, _, .sq r, .sq h ra => .sq (same_l (fullB_same B H al n) h) (frz_repA n l r ra)
  | _, _, _, .dct r, .dct h ra => .dct (fullB_same B H al n _ _ h) (frz_repP n l r ra)
  | _, _, _, .ins r, .ins h ra => .ins (fullB_same B H al n _ _ h) (frz_repP n l r ra)
  | _, _, _, .old hk, .own ha => .own (take_pre l hk ha)
  | _, _, _, .lstO hk g r, .own (a := a) ha => by
    obtain ⟨hb, o, ho, ro⟩ := l.ob _ _ _ ha g (fun z => nomatch z)
    cases ro with
    | lst ra => exact .lst (fullB_at (frz_in n l hk ha g) hb ho) (frz_repA n l r ra)
  | _, _, _, .dctO hk g r, .own (a := a) ha => by
    obtain ⟨hb, o, ho, ro⟩ := l.ob _ _ _ ha g (fun z => nomatch z)
    cases ro with
    | dK ra => exact .dct (fullB_at (frz_in n l hk ha g) hb ho) (frz_repP n l r ra)
  | _, _, _, .insO hk g r, .own (a := a) ha => by
    obtain ⟨hb, o, ho, ro⟩ := l.ob _ _ _ ha g (fun z => nomatch z)
    cases ro with
    | ins ra => exact .ins (fullB_at (frz_in n l hk ha g) hb ho) (frz_repP n l r ra)
  | _, _, _, .val v, .val _ => .val v
  | _, _, _, .xcp r, .xcp0 => by cases r; exact .xcp0
  | _, _, _, .xcp r, .xcp1 h ra => .xcp1 (fullB_same B H al n _ _ h) (frz_repP n l r ra)
theorem frz_repA (n : Nat) (l : Lift K B H al L) : ∀ {ds es : List D} {vs : List V}, FrzA L n ds es → RepA K B al ds vs → RepA K (fullB B H al n) (al.take n) es vs
  | _, _, _, .nil, .nil => .nil
  | _, _, _, .cons h t, .cons r ra => .cons (frz_rep n l h r) (frz_repA n l t ra)
theorem frz_repP (n : Nat) (l : Lift K B H al L) : ∀ {κ : Type} {ds es : List (κ × D)} {vs : List (κ × V)}, FrzP L n ds es → RepP K B al ds vs → RepP K (fullB B H al n) (al.take n) es vs
  | _, _, _, _, .nil, .nil => .nil
  | _, _, _, _, .cons h t, .cons r ra => .cons (frz_rep n l h r) (frz_repP n l t ra)
end
end
section
variable {K : PySem.W.Frag} {B : Hp} {al : List Addr} {L : LH}
mutual
/-- what is laid by stands as it is -/
theorem frz_self : ∀ {d : D} {v : V}, Rep K B al d v → Frz L al.length d d
  | _, _, .non => .non
  | _, _, .bl b => .bl b
  | _, _, .int i => .int i
  | _, _, .str s => .str s
  | _, _, .tup _ r => .tup (frz_selfA r)
  | _, _, .lst _ r => .lst (frz_selfA r)
  | _, _, .sq _ r => .sq (frz_selfA r)
  | _, _, .dct _ r => .dct (frz_selfP r)
  | _, _, .ins _ r => .ins (frz_selfP r)
  | _, _, .own h => .old (List.getElem?_eq_some_iff.mp h).1
  | _, _, .val v => .val v
  | _, _, .xcp0 => .xcp .nil
  | _, _, .xcp1 _ r => .xcp (frz_selfP r)
theorem frz_selfA : ∀ {ds : List D} {vs : List V}, RepA K B al ds vs → FrzA L al.length ds ds
  | _, _, .nil => .nil
  | _, _, .cons h t => .cons (frz_self h) (frz_selfA t)
theorem frz_selfP : ∀ {κ : Type} {ds : List (κ × D)} {vs : List (κ × V)}, RepP K B al ds vs → FrzP L al.length ds ds
  | _, _, _, .nil => .nil
  | _, _, _, .cons h t => .cons (frz_self h) (frz_selfP t)
end
theorem frzO_self {od : OD} {o : HO} (h : ORep K B al od o) : FrzO L al.length od od := by
  cases h with
  | lst r => exact .lst (frz_selfA r)
  | dK r => exact .dK (frz_selfP r)
  | dT r => exact .dT (frz_selfP r)
  | ins r => exact .ins (frz_selfP r)
end
/-- the state goes back to as many places as at the entry -/
theorem back_nx {K : PySem.W.Frag} {Z : Ent} {B H B1 H1 : Hp} {al a1 : List Addr} {L L1 L2 : LH} (l : Lift K B H al L) (m : Mv Z B H al) (n1 : Nx K Z B al B1 H1 a1 L1) (b : Bck L L1 L2) :
    Nx K Z B al (fullB B1 H1 a1 L.length) H1 al L2 ∧ a1.take L.length = al := by
  have e1 : a1.take L.length = al := by
    obtain ⟨t, ht⟩ := n1.p
    rw [← ht, ← l.len, List.take_left']
    rfl
  have hsame := fullB_same B1 H1 a1 L.length
  have inH : Same (fullB B1 H1 a1 L.length) H1 := fun a o h => by
    unfold fullB at h
    split at h
    · exact h
    · exact n1.l.ex a o h
  have pre : al <+: a1 := n1.p
  have notin : ∀ a, a ∈ al → a ∉ a1.drop L.length := fun a ha hd => by
    have nd := n1.l.nd
    rw [← List.take_append_drop L.length a1, e1] at nd
    exact (List.nodup_append.mp nd).2.2 a ha a hd rfl
  refine ⟨⟨⟨inH, by rw [b.len]; exact l.len, l.nd, fun a ha => n1.l.th a (pre.subset ha), fun k a od hk hg hng => ?_⟩, ⟨n1.m.bb.trans hsame, fun p o h hn => n1.m.fr p o h hn, fun p h1 h2 h3 => ?_, m.la, m.pre, n1.m.up⟩, n1.s.trans hsame, List.prefix_refl _⟩, e1⟩
  · obtain ⟨o1, h1, h2⟩ := b.at_ k od hg
    have hk1 : a1[k]? = some a := pre_get pre hk
    have hfree : ∀ a, a ∈ al → B1 a = none → fullB B1 H1 a1 L.length a = none := fun a ha hb => by
      unfold fullB
      rw [if_neg (fun z => notin a ha z.1)]
      exact hb
    have hf : FrzO L1 L.length o1 od := by
      rcases h2 with ⟨rfl, hL⟩ | hf
      · obtain ⟨_, o0, _, ro0⟩ := l.ob k a o1 hk hL hng
        rw [← l.len]
        exact frzO_self ro0
      · exact hf
    have hno : o1 ≠ .gone := fun z => by subst z; cases hf; exact hng rfl
    obtain ⟨hb1, o, ho, ro⟩ := n1.l.ob k a o1 hk1 h1 hno
    refine ⟨hfree a (List.mem_of_getElem? hk) hb1, o, ho, ?_⟩
    cases hf with
    | gone => exact absurd rfl hng
    | lst r => cases ro with | lst ra => exact .lst (e1 ▸ frz_repA _ n1.l r ra)
    | dK r => cases ro with | dK ra => exact .dK (e1 ▸ frz_repP _ n1.l r ra)
    | dT r => cases ro with | dT ra => exact .dT (e1 ▸ frz_repP _ n1.l r ra)
    | ins r => cases ro with | ins ra => exact .ins (e1 ▸ frz_repP _ n1.l r ra)
  · have hb1 := n1.m.nb p h1 h2 h3
    unfold fullB
    rw [if_neg]
    · exact hb1
    · rintro ⟨hd, _⟩
      rcases n1.m.la p (List.mem_of_mem_drop hd) with z | z
      · exact h3 z
      · exact h2 z
/-- .. and a value with it -/
theorem back_rep {K : PySem.W.Frag} {Z : Ent} {B H B1 H1 : Hp} {al a1 : List Addr} {L L1 L2 : LH} {d e : D} {v : V} (l : Lift K B H al L) (m : Mv Z B H al) (n1 : Nx K Z B al B1 H1 a1 L1) (b : Bck L L1 L2) (f : Frz L1 L.length d e) (r : Rep K B1 a1 d v) :
    ∃ B', Nx K Z B al B' H1 al L2 ∧ Rep K B' al e v := by
  obtain ⟨n2, e1⟩ := back_nx l m n1 b
  exact ⟨_, n2, e1 ▸ frz_rep _ n1.l f r⟩
theorem back_x {K : PySem.W.Frag} {Z : Ent} {B H B1 H1 : Hp} {al a1 : List Addr} {L L1 L2 : LH} {fs es : List (Str × D)} {dd : Option Addr} (l : Lift K B H al L) (m : Mv Z B H al) (n1 : Nx K Z B al B1 H1 a1 L1) (b : Bck L L1 L2) (f : FrzP L1 L.length fs es) (r : XRep K Z B1 H1 a1 fs dd) :
    ∃ B', Nx K Z B al B' H1 al L2 ∧ XRep K Z B' H1 al es dd := by
  obtain ⟨n2, e1⟩ := back_nx l m n1 b
  refine ⟨_, n2, ?_⟩
  rcases r with ⟨h1, rfl⟩ | ⟨a, vs, h1, h2, h3, ra⟩
  · cases f
    exact .inl ⟨h1, rfl⟩
  · exact .inr ⟨a, vs, h1, h2, h3, e1 ▸ frz_repP _ n1.l f ra⟩
/-- an expression's value, with what it has left forgotten -/
def dBack (te : TD) : TD := fun env L Q X => te env L (fun d L1 => ∃ e L2, Bck L L1 L2 ∧ Frz L1 L.length d e ∧ Q e L2) (fun C fs L1 => ∃ es L2, Bck L L1 L2 ∧ FrzP L1 L.length fs es ∧ X C es L2)
theorem de_back {X : Cx} {Z : Ent} {W : WX} {e : Expr} {te : TD} (h : DE X Z W e te) : DE X Z W e (dBack te) := h.imp fun σ H Q ⟨B, al, L, env, Q0, X0, l, s, m, h, hQ, hX⟩ =>
  ⟨B, al, L, env, _, _, l, s, m, h, fun B1 H1 a1 L1 d v n1 r1 ⟨e, L2, b, f, q⟩ => by
    obtain ⟨B', n2, r2⟩ := back_rep l m n1 b f r1
    exact hQ _ _ _ _ _ _ n2 r2 q, fun B1 H1 a1 L1 C fs dd n1 x1 ⟨es, L2, b, f, q⟩ => by
    obtain ⟨B', n2, r2⟩ := back_x l m n1 b f x1
    exact hX _ _ _ _ _ _ _ n2 r2 q⟩
/-- the end of a body that goes back -/
def dEndB (L : LH) (Q : DK) (X : DX) : DEnds := ⟨fun _ L1 => ∃ L2, Bck L L1 L2 ∧ Q .non L2, fun d L1 => ∃ e L2, Bck L L1 L2 ∧ Frz L1 L.length d e ∧ Q e L2, fun _ _ => False, fun _ _ => False, fun C fs _ L1 => ∃ es L2, Bck L L1 L2 ∧ FrzP L1 L.length fs es ∧ X C es L2⟩
section
variable {P : Program} {w : World} {K : PySem.W.Frag} {mg : Str → Option Value} {base : Heap}
theorem fn_okB {x qual : Str} {st : Stmt} {f : Addr} {fd : FuncData} {N ps : List Str} {k : Nat} {S : DSp} (F : Fun K x qual st f fd) (sc : FnScope N ps (defScope st)) (hlen : ∀ ds L Q X, S ds L Q X → ds.length = ps.length)
    (hb : ∀ (cdv : Value) (A : Around) (outer : List PySem.Env) (s : Shared) (H : Hp) (E : XK) (Z : Ent), Bd (cxOf (L2.CX P w) P w K mg base N qual (defScope st) f cdv A outer s H E) (WB E) k →
      ∃ t, DSs (cxOf (L2.CX P w) P w K mg base N qual (defScope st) f cdv A outer s H E) Z (WB E) (defBody st) t ∧ ∀ ds L Q X, S ds L Q X → t (dEndB L Q X) (startD N ds) L) :
    FnOk P w K mg base (L2.CX P w) (k + 1) f fd ps (spOf K S) := by
  refine F.okX sc (fun vs H Q E ⟨B, al, L, ds, Q0, X0, l, r, hs, _⟩ => by rw [← r.length]; exact hlen _ _ _ _ hs) fun cdv A outer s H vs Q E hr ⟨B, al, L, ds, Q0, X0, l, r, hs, hq, hx⟩ => ?_
  obtain ⟨t, ht, hsp⟩ := hb cdv A outer s H E ⟨B, H, al⟩ ⟨takes_of rfl rfl rfl rfl, passes_of rfl, hr, rfl⟩
  refine ⟨_, ht, B, al, L, startD N ds, dEndB L Q0 X0, l, start_rep r, Mv.refl, hsp ds L Q0 X0 hs, ?_⟩
  refine ⟨fun B' H' al' L' env σ n _ ⟨L2, b, q⟩ => ?_, fun B' H' al' L' d v n r' ⟨e, L2, b, f, q⟩ => ?_, fun _ _ _ _ _ _ _ _ h => h.elim, fun _ _ _ _ _ _ _ _ h => h.elim, fun B' H' al' L' env σ C fs dd n _ xr ⟨es, L2, b, f, q⟩ => ?_⟩
  · obtain ⟨n2, _⟩ := back_nx l Mv.refl n b
    exact hq _ H' al L2 _ _ n2.l n2.m .non q
  · obtain ⟨B2, n2, r2⟩ := back_rep l Mv.refl n b f r'
    exact hq B2 H' al L2 _ v n2.l n2.m r2 q
  · obtain ⟨B2, n2, r2⟩ := back_x l Mv.refl n b f xr
    exact hx B2 H' al L2 C _ dd n2.l n2.m r2 q
theorem fn_mkB {x : Str} {st : Stmt} {N ps : List Str} {k : Nat} {S : DSp} (F : ∃ f fd, mg x = some (.ref f) ∧ Fun K x x st f fd) (bi : ∀ (kV doc pm : Value) (an : Option Addr) (cdv ct : Value) (us : List Value), us.length = ps.length → bindArgs (PySem.W.fnOf x x (defArgs st) (defBody st) (defScope st) .none kV doc pm an cdv ct) ⟨us, []⟩ = pure (ps.zip us))
    (sc : FnScope N ps (defScope st)) (hlen : ∀ ds L Q X, S ds L Q X → ds.length = ps.length)
    (hb : ∀ (f : Addr) (cdv : Value) (A : Around) (outer : List PySem.Env) (s : Shared) (H : Hp) (E : XK) (Z : Ent), Bd (cxOf (L2.CX P w) P w K mg base N x (defScope st) f cdv A outer s H E) (WB E) k →
      ∃ t, DSs (cxOf (L2.CX P w) P w K mg base N x (defScope st) f cdv A outer s H E) Z (WB E) (defBody st) t ∧ ∀ ds L Q X, S ds L Q X → t (dEndB L Q X) (startD N ds) L) :
    FnD P w K mg base (k + 1) x ps S := by
  obtain ⟨f, fd, g, F⟩ := F
  exact ⟨f, fd, g, F.kp, F.binds bi, fn_okB F sc hlen (hb f)⟩
end
end DL
set_option Elab.async false
set_option linter.all false
set_option maxRecDepth 100000
set_option maxHeartbeats 2000000
namespace DL
open PySem PySem.Spec PyProof.Rows L2

section
variable {X : Cx} {Z : Ent} {W : WX} {K : PySem.W.Frag} {a b c e : Expr} {ta tb tc te to : TD} {tA tB' : TDT} {tu : TDA} {pos p : Pos} {es : List Expr} {k : Nat} {x : Str}

/-! ### methods of built-in values -/
def tyM (L : LH) : D → String → Prop := fun d T => match d with
  | .str _ => T = "str"
  | .own k => (T = "list" ∧ ∃ ds, L[k]? = some (.lst ds)) ∨ (T = "dict" ∧ ((∃ ds, L[k]? = some (.dK ds)) ∨ ∃ ds, L[k]? = some (.dT ds)))
  | .dct _ => T = "dict"
  | d => T = "list" ∧ ∃ ds, lst? L d = some ds
theorem tyM_rep {B H : Hp} {al : List Addr} {L : LH} (l : Lift K B H al L) {d : D} {v : V} {T : String} (r : Rep K B al d v) (h : tyM L d T) : tyV K T v H := by
  have lists : (T = "list" ∧ ∃ ds, lst? L d = some ds) → tyV K T v H := by
    rintro ⟨rfl, ds, hd⟩
    obtain ⟨p, vs, rfl, hp, _⟩ := lst_rep l r hd
    exact .inl ⟨rfl, vs, hp⟩
  cases d with
  | str s => obtain rfl := rep_str r; exact h
  | own k =>
    rcases h with ⟨rfl, ds, hd⟩ | ⟨rfl, hd⟩
    · obtain ⟨p, vs, rfl, _, hp, _⟩ := own_rep l r hd
      exact .inl ⟨rfl, vs, SqL.of hp⟩
    · cases r with
      | own ha =>
        rcases hd with ⟨ds, hd⟩ | ⟨ds, hd⟩
        · obtain ⟨_, o, ho, ro⟩ := l.ob _ _ _ ha hd (fun z => nomatch z)
          cases ro with
          | dK ra => exact .inr (.inr (.inl ⟨rfl, .inl ⟨_, ho⟩⟩))
        · obtain ⟨_, o, ho, ro⟩ := l.ob _ _ _ ha hd (fun z => nomatch z)
          cases ro with
          | dT ra => exact .inr (.inr (.inl ⟨rfl, .inr ⟨_, ho⟩⟩))
  | dct kvs =>
    cases r with
    | dct hb ra => exact .inr (.inr (.inl ⟨h, .inl ⟨_, l.ex _ _ hb⟩⟩))
  | _ => exact lists h
abbrev GM := D → GN
def DOpMt (K : PySem.W.Frag) (r : V → List V → Hp → VK → Prop) (g : GM) : Prop := ∀ (Z : Ent) (B H : Hp) (al : List Addr) (L : LH) (x : D) (xs : List D) (v : V) (us : List V) (Q : VK) (Q0 : DK), Lift K B H al L → Mv Z B H al → Rep K B al x v → RepA K B al xs us → g x xs L Q0 →
  (∀ B' H' al' L' d w, Nx K Z B al B' H' al' L' → Rep K B' al' d w → Q0 d L' → Q w H') → r v us H Q
def dBM (T : String) (g : GM) (to : TD) (t : TDA) : TD := fun env L Q X => to env L (fun x L1 => tyM L1 x T ∧ t env L1 (fun ds L2 => g x ds L2 Q) X) X
variable {o : Expr} {name : Str} {apos : Pos} {T id : String} {r : V → List V → Hp → VK → Prop} {g : GM}
theorem de_bm (pa : PlainAttrs T) (slot : Slot T name id) (hty : typeOf (.builtin id) = pure (.type "method_descriptor")) (hm : MtR X id r) (hg : DOpMt X.K r g) (ho : DE X Z W o to) (ha : DA X Z W (e :: es) tu)
    (hbase : attributeBase o name X.env (eval o X.env) = eval o X.env := by rfl)
    (hfew : ((backTo pos (starEach (e :: es) X.env)).all (fun x => !x.1) && (backToKw pos (keywordEach [] X.env)).all (fun x => x.1.isSome)
      && decide ((e :: es).length + ([] : List Keyword).length + (if ([] : List Keyword).isEmpty then 0 else 1) < 30)) = true := by rfl)
    (hline : (apos.endLine == pos.line) = true := by rfl) (hs : starEach (e :: es) X.env = (false, eval e X.env) :: starEach es X.env := by rfl) (hplain : (backTo pos (starEach es X.env)).any (·.1) = false := by rfl) :
    DE X Z W (.Call (.Attribute o name apos) (e :: es) [] pos) (dBM T g to tu) :=
  (pe_bm pa slot hty hm ho ha hbase hfew hline hs hplain).imp fun σ H Q ⟨B, al, L, env, Q0, X0, l, s, m, h, hQ, hX⟩ => by
    refine lE_then l s m h hX fun B1 H1 a1 L1 x v n1 s1 r1 ⟨ht, h1⟩ => ⟨tyM_rep n1.l r1 ht, ?_⟩
    refine lA_then n1.l s1 n1.m h1 (HX.nx hX n1) fun B2 H2 a2 L2 xs us n2 s2 r2 h2 => ?_
    exact hg Z B2 H2 a2 L2 x xs v us Q Q0 n2.l n2.m (r1.mono n2.s n2.p) r2 h2 fun _ _ _ _ _ _ n3 r3 q3 => hQ _ _ _ _ _ _ ((n1.trans n2).trans n3) r3 q3
theorem de_bm0 (pa : PlainAttrs T) (slot : Slot T name id) (hty : typeOf (.builtin id) = pure (.type "method_descriptor")) (hm : MtR X id r) (hg : DOpMt X.K r g) (ho : DE X Z W o to)
    (hbase : attributeBase o name X.env (eval o X.env) = eval o X.env := by rfl) (hline : (apos.endLine == pos.line) = true := by rfl) :
    DE X Z W (.Call (.Attribute o name apos) [] [] pos) (dBM T g to dNil) :=
  (pe_bm0 pa slot hty hm ho hbase hline).imp fun σ H Q ⟨B, al, L, env, Q0, X0, l, s, m, h, hQ, hX⟩ => by
    refine lE_then l s m h hX fun B1 H1 a1 L1 x v n1 s1 r1 ⟨ht, h1⟩ => ⟨tyM_rep n1.l r1 ht, ?_⟩
    exact hg Z B1 H1 a1 L1 x [] v [] Q Q0 n1.l n1.m r1 .nil h1 fun _ _ _ _ _ _ n3 r3 q3 => hQ _ _ _ _ _ _ (n1.trans n3) r3 q3
/-- xs.insert(i, y) -/
def gInsert : GM := fun x ds L Q => ∃ k i y xs, x = .own k ∧ ds = [.int i, y] ∧ L[k]? = some (.lst xs) ∧ xs.length < 16777216 ∧ (0 ≤ i ∧ i < 2 ^ 63) ∧ Q .non (L.set k (.lst (xs.take i.toNat ++ [y] ++ xs.drop i.toNat)))
theorem dop_insert : DOpMt K (fun x vs H Q => ∃ (l : Addr) (xs : List V) (i : Int) (y : V), x = .ref l ∧ vs = [.int i, y] ∧ H l = some (.lst xs) ∧ xs.length < sizeLine ∧ 0 ≤ i ∧ i < 2 ^ 63 ∧
    Q .non (upd H l (.lst (xs.take i.toNat ++ [y] ++ xs.drop i.toNat)))) gInsert := by
  intro Z B H al L x xs v us Q Q0 l m rx ra ⟨k, i, y, zs, ex, ed, hk, hz, ⟨h0, h1⟩, q⟩ hQ
  subst ex ed
  obtain ⟨p, vs, rfl, ha, hH, rv⟩ := own_rep l rx hk
  cases ra with
  | cons r1 ra =>
    cases ra with
    | cons r2 ra =>
      cases ra
      cases r1
      exact ⟨p, vs, i, _, rfl, rfl, hH, by rw [← rv.length]; exact line_lt hz, h0, h1, hQ _ _ _ _ _ _ (nx_upd l m ha hk (fun z => nomatch z) (.lst (((rv.take _).append (.one r2)).append (rv.drop _)))) .non q⟩
theorem de_insert (ho : DE X Z W o to) (ha : DA X Z W [a, b] tu) (hbase : attributeBase o "insert" X.env (eval o X.env) = eval o X.env := by rfl)
    (hfew : ((backTo pos (starEach [a, b] X.env)).all (fun x => !x.1) && (backToKw pos (keywordEach [] X.env)).all (fun x => x.1.isSome) && decide ([a, b].length + ([] : List Keyword).length + (if ([] : List Keyword).isEmpty then 0 else 1) < 30)) = true := by rfl)
    (hline : (apos.endLine == pos.line) = true := by rfl) (hs : starEach [a, b] X.env = (false, eval a X.env) :: starEach [b] X.env := by rfl) (hplain : (backTo pos (starEach [b] X.env)).any (·.1) = false := by rfl) :
    DE X Z W (.Call (.Attribute o "insert" apos) [a, b] [] pos) (dBM "list" gInsert to tu) := de_bm PySem.F.plainAttrs_list PySem.F.slot_list_insert PySem.F.type_list_insert mt_insert dop_insert ho ha hbase hfew hline hs hplain
/-- xs.index(y), flat items -/
def gIndex : GM := fun x ds L Q => ∃ xs y j z, lst? L x = some xs ∧ ds = [y] ∧ y.flat = true ∧ xs.all D.flat = true ∧ xs[j]? = some z ∧ D.eqF z y = true ∧ (∀ (m : Nat) (z' : D), m < j → xs[m]? = some z' → D.eqF z' y = false) ∧ Q (.int (j : Nat)) L
theorem dop_index : DOpMt K (rIndex K) gIndex := by
  intro Z B H al L x xs v us Q Q0 l m rx ra ⟨ys, y, j, z, hx, ed, fy, fys, hj, hz, hno, q⟩ hQ
  subst ed
  obtain ⟨p, vs, rfl, hs, rv⟩ := lst_rep l rx hx
  cases ra with
  | cons r1 ra =>
    cases ra
    obtain ⟨w, hw, rw'⟩ := rv.get hj
    have fl : ∀ {i : Nat} {d : D}, ys[i]? = some d → d.flat = true := fun h => List.all_eq_true.mp fys _ (List.mem_of_getElem? h)
    refine ⟨p, vs, _, j, w, rfl, rfl, hs, flat_v r1 fy, (inD_v r1 fy rv fys).2, hw, (eqF_v rw' r1 (fl hj) fy).trans hz, fun i z' hi hz' => ?_, hQ _ _ _ _ _ _ (.refl l m) (.int _) q⟩
    obtain ⟨d, hd, rd⟩ := rv.get' hz'
    exact (eqF_v rd r1 (fl hd) fy).trans (hno i d hi hd)
theorem de_index (ho : DE X Z W o to) (ha : DA X Z W [a] tu) (hbase : attributeBase o "index" X.env (eval o X.env) = eval o X.env := by rfl)
    (hfew : ((backTo pos (starEach [a] X.env)).all (fun x => !x.1) && (backToKw pos (keywordEach [] X.env)).all (fun x => x.1.isSome) && decide ([a].length + ([] : List Keyword).length + (if ([] : List Keyword).isEmpty then 0 else 1) < 30)) = true := by rfl)
    (hline : (apos.endLine == pos.line) = true := by rfl) (hs : starEach [a] X.env = (false, eval a X.env) :: starEach [] X.env := by rfl) (hplain : (backTo pos (starEach [] X.env)).any (·.1) = false := by rfl) :
    DE X Z W (.Call (.Attribute o "index" apos) [a] [] pos) (dBM "list" gIndex to tu) := de_bm PySem.F.plainAttrs_list PySem.F.slot_list_index PySem.F.type_list_index mt_index dop_index ho ha hbase hfew hline hs hplain
/-- s.zfill(i) -/
def gZfill : GM := fun x ds L Q => ∃ s i, x = .str s ∧ ds = [.int i] ∧ PadOk i = true ∧ Q (.str (Txt.zfill s i)) L
theorem dop_zfill : DOpMt K (fun x xs H Q => ∃ (a : Str) (i : Int), x = .str a ∧ xs = [.int i] ∧ PadOk i = true ∧ Q (.str (Txt.zfill a i)) H) gZfill := by
  intro Z B H al L x xs v us Q Q0 l m rx ra ⟨s, i, ex, ed, h1, q⟩ hQ
  subst ex ed
  obtain rfl := rep_str rx
  cases ra with
  | cons r1 ra =>
    cases ra
    cases r1
    exact ⟨s, i, rfl, rfl, h1, hQ _ _ _ _ _ _ (.refl l m) (.str _) q⟩
theorem de_zfill (ho : DE X Z W o to) (ha : DA X Z W [a] tu) (hbase : attributeBase o "zfill" X.env (eval o X.env) = eval o X.env := by rfl)
    (hfew : ((backTo pos (starEach [a] X.env)).all (fun x => !x.1) && (backToKw pos (keywordEach [] X.env)).all (fun x => x.1.isSome) && decide ([a].length + ([] : List Keyword).length + (if ([] : List Keyword).isEmpty then 0 else 1) < 30)) = true := by rfl)
    (hline : (apos.endLine == pos.line) = true := by rfl) (hs : starEach [a] X.env = (false, eval a X.env) :: starEach [] X.env := by rfl) (hplain : (backTo pos (starEach [] X.env)).any (·.1) = false := by rfl) :
    DE X Z W (.Call (.Attribute o "zfill" apos) [a] [] pos) (dBM "str" gZfill to tu) := de_bm PySem.F.plainAttrs_str PySem.F.slot_str_zfill PySem.F.type_str_zfill mt_zfill dop_zfill ho ha hbase hfew hline hs hplain

/-! ### more built-ins by their names -/
/-- list(xs): a new list, frozen or one's own -/
def gListF : GN := fun ds L Q => ∃ d xs, ds = [d] ∧ seq? L d = some xs ∧ Q (.lst xs) L
def gListO : GN := fun ds L Q => ∃ d xs, ds = [d] ∧ seq? L d = some xs ∧ Q (.own L.length) (L ++ [.lst xs])
def rListOf (K : PySem.W.Frag) : List V → Hp → VK → Prop := fun xs H Q => ∃ p ys, xs = [.ref p] ∧ (SqL K H p ys ∨ SqT K H p ys) ∧ ∀ l, H l = none → Q (.ref l) (upd H l (.lst ys))
theorem dop_listF : DOpN K (rListOf K) gListF := by
  intro Z B H al L xs vs Q Q0 l m rx ⟨d, ys, e, h, q⟩ hQ
  subst e
  cases rx with
  | cons r1 rr =>
    cases rr
    obtain ⟨p, ws, rfl, hp, ra⟩ := seq_rep l r1 h
    refine ⟨p, ws, rfl, hp, fun z nz => ?_⟩
    obtain ⟨n4, r4⟩ := new_lst l m nz ra
    exact hQ _ _ _ _ _ _ n4 r4 q
theorem dop_listO : DOpN K (rListOf K) gListO := by
  intro Z B H al L xs vs Q Q0 l m rx ⟨d, ys, e, h, q⟩ hQ
  subst e
  cases rx with
  | cons r1 rr =>
    cases rr
    obtain ⟨p, ws, rfl, hp, ra⟩ := seq_rep l r1 h
    refine ⟨p, ws, rfl, hp, fun z nz => ?_⟩
    obtain ⟨n4, r4⟩ := new_own l m nz (.lst ra)
    exact hQ _ _ _ _ _ _ n4 r4 q
theorem de_list (hm : X.mg "list" = none) (ha : DA X Z W [e] tu) (hgl : Gl X "list" := by rfl) (he : starEach [e] X.env = (false, eval e X.env) :: starEach [] X.env := by rfl) (hpl : (backTo pos (starEach [] X.env)).any (·.1) = false := by rfl) : DE X Z W (.Call (.Name "list" p) [e] [] pos) (dCB gListF tu) :=
  de_ct call_list_of dop_listF hm (by decide +kernel) ha hgl (by decide) (by decide) he hpl
theorem de_listO (hm : X.mg "list" = none) (ha : DA X Z W [e] tu) (hgl : Gl X "list" := by rfl) (he : starEach [e] X.env = (false, eval e X.env) :: starEach [] X.env := by rfl) (hpl : (backTo pos (starEach [] X.env)).any (·.1) = false := by rfl) : DE X Z W (.Call (.Name "list" p) [e] [] pos) (dCB gListO tu) :=
  de_ct call_list_of dop_listO hm (by decide +kernel) ha hgl (by decide) (by decide) he hpl
/-- sum(xs), a list of ints -/
def gSum : GN := fun ds L Q => ∃ (d : D) (ns : List Int), ds = [d] ∧ lst? L d = some (ns.map D.int) ∧ Q (.int ns.sum) L
theorem repA_ints {B : Hp} {al : List Addr} : ∀ {ns : List Int} {vs : List V}, RepA K B al (ns.map D.int) vs → vs = ns.map V.int
  | [], _, .nil => rfl
  | y :: ys, _, .cons h t => by
    rw [rep_int h, repA_ints t]
    rfl
theorem dop_sum : DOpN K (rSum K) gSum := by
  intro Z B H al L xs vs Q Q0 l m rx ⟨d, ns, e, h, q⟩ hQ
  subst e
  cases rx with
  | cons r1 rr =>
    cases rr
    obtain ⟨p, ws, rfl, hp, ra⟩ := lst_rep l r1 h
    rw [repA_ints ra] at hp
    exact ⟨p, ns, rfl, hp, hQ _ _ _ _ _ _ (.refl l m) (.int _) q⟩
theorem de_sum (bd : Bd X W k) (hm : X.mg "sum" = none) (ha : DA X Z W [e] tu) (hgl : Gl X "sum" := by rfl) (he : starEach [e] X.env = (false, eval e X.env) :: starEach [] X.env := by rfl) (hpl : (backTo pos (starEach [] X.env)).any (·.1) = false := by rfl) : DE X Z W (.Call (.Name "sum" p) [e] [] pos) (dCB gSum tu) :=
  de_cb (cr_sum bd.calm) dop_sum hm (by decide +kernel) ha hgl (by decide) (by decide) he hpl
/-- divmod(a, b) -/
def gDivmod : GN := fun ds L Q => ∃ i j : Int, ds = [.int i, .int j] ∧ (0 < j ∧ j < 1073741824) ∧ Q (.tup [.int (i / j), .int (i % j)]) L
theorem dop_divmod : DOpN K (fun xs H Q => ∃ i j, xs = [.int i, .int j] ∧ CDiv i j ∧ ∀ p, H p = none → Q (.ref p) (upd H p (.tup [.int (i / j), .int (i % j)]))) gDivmod := by
  intro Z B H al L xs vs Q Q0 l m rx ⟨i, j, e, h, q⟩ hQ
  subst e
  cases rx with
  | cons r1 rr =>
    cases rr with
    | cons r2 rr =>
      cases rr
      cases r1
      cases r2
      refine ⟨i, j, rfl, h, fun z nz => ?_⟩
      obtain ⟨n4, r4⟩ := new_tup l m nz (.cons (.int (i / j)) (.one (.int (i % j))))
      exact hQ _ _ _ _ _ _ n4 r4 q
theorem de_divmod (hm : X.mg "divmod" = none) (ha : DA X Z W [a, b] tu) (hgl : Gl X "divmod" := by rfl) (he : starEach [a, b] X.env = (false, eval a X.env) :: starEach [b] X.env := by rfl) (hpl : (backTo pos (starEach [b] X.env)).any (·.1) = false := by rfl) : DE X Z W (.Call (.Name "divmod" p) [a, b] [] pos) (dCB gDivmod tu) :=
  de_cb call_divmod dop_divmod hm (by decide +kernel) ha hgl (by decide) (by decide) he hpl
/-- min(a, b), max(a, b) -/
def gMin2 : GN := fun ds L Q => ∃ i j : Int, ds = [.int i, .int j] ∧ Q (.int (min i j)) L
def gMax2 : GN := fun ds L Q => ∃ i j : Int, ds = [.int i, .int j] ∧ Q (.int (max i j)) L
theorem dop_min2 : DOpN K (fun xs H Q => ∃ i j, xs = [.int i, .int j] ∧ Q (.int (if j < i then j else i)) H) gMin2 := by
  intro Z B H al L xs vs Q Q0 l m rx ⟨i, j, e, q⟩ hQ
  subst e
  cases rx with
  | cons r1 rr =>
    cases rr with
    | cons r2 rr =>
      cases rr
      cases r1
      cases r2
      refine ⟨i, j, rfl, ?_⟩
      rw [show (if j < i then j else i) = min i j by rw [Int.min_def]; split <;> split <;> omega]
      exact hQ _ _ _ _ _ _ (.refl l m) (.int _) q
theorem dop_max2 : DOpN K (fun xs H Q => ∃ i j, xs = [.int i, .int j] ∧ Q (.int (if j > i then j else i)) H) gMax2 := by
  intro Z B H al L xs vs Q Q0 l m rx ⟨i, j, e, q⟩ hQ
  subst e
  cases rx with
  | cons r1 rr =>
    cases rr with
    | cons r2 rr =>
      cases rr
      cases r1
      cases r2
      refine ⟨i, j, rfl, ?_⟩
      rw [show (if j > i then j else i) = max i j by rw [Int.max_def]; split <;> split <;> omega]
      exact hQ _ _ _ _ _ _ (.refl l m) (.int _) q
theorem de_min2 (bd : Bd X W k) (hm : X.mg "min" = none) (ha : DA X Z W [a, b] tu) (hgl : Gl X "min" := by rfl) (he : starEach [a, b] X.env = (false, eval a X.env) :: starEach [b] X.env := by rfl) (hpl : (backTo pos (starEach [b] X.env)).any (·.1) = false := by rfl) : DE X Z W (.Call (.Name "min" p) [a, b] [] pos) (dCB gMin2 tu) :=
  de_cb (call_min2 bd.calm) dop_min2 hm (by decide +kernel) ha hgl (by decide) (by decide) he hpl
theorem de_max2 (bd : Bd X W k) (hm : X.mg "max" = none) (ha : DA X Z W [a, b] tu) (hgl : Gl X "max" := by rfl) (he : starEach [a, b] X.env = (false, eval a X.env) :: starEach [b] X.env := by rfl) (hpl : (backTo pos (starEach [b] X.env)).any (·.1) = false := by rfl) : DE X Z W (.Call (.Name "max" p) [a, b] [] pos) (dCB gMax2 tu) :=
  de_cb (call_max2 bd.calm) dop_max2 hm (by decide +kernel) ha hgl (by decide) (by decide) he hpl
/-- isinstance(o, C), an instance of an own class, C itself -/
def gIsC (C : Addr) : GN := fun ds L Q => ∃ d fs, ds = [d, .val (.ref C)] ∧ ins? L d = some (C, fs) ∧ Q (.bl true) L
theorem dop_isC {C : Addr} : DOpN K (fun xs H Q => ∃ a dx fs, xs = [.ref a, .ref C] ∧ H a = some (.ins C dx fs) ∧ Q (.bl true) H) (gIsC C) := by
  intro Z B H al L xs vs Q Q0 l m rx ⟨d, fs, e, h, q⟩ hQ
  subst e
  cases rx with
  | cons r1 rr =>
    cases rr with
    | cons r2 rr =>
      cases rr
      cases r2
      obtain ⟨p, dx, ws, rfl, hp, _⟩ := ins_rep l r1 h
      exact ⟨p, dx, ws, rfl, hp, hQ _ _ _ _ _ _ (.refl l m) (.bl _) q⟩
theorem de_isC {C : Addr} (ci : C8.InsC X.K C) (hm : X.mg "isinstance" = none) (ha : DA X Z W [a, b] tu) (hgl : Gl X "isinstance" := by rfl) (he : starEach [a, b] X.env = (false, eval a X.env) :: starEach [b] X.env := by rfl) (hpl : (backTo pos (starEach [b] X.env)).any (·.1) = false := by rfl) : DE X Z W (.Call (.Name "isinstance" p) [a, b] [] pos) (dCB (gIsC C) tu) :=
  de_cb (C8.call_isC ci) dop_isC hm (by decide +kernel) ha hgl (by decide) (by decide) he hpl

/-! ### xs[i] = y -/
def dStore (to ti te : TD) : TDS := fun DD env L => te env L (fun v L1 => to env L1 (fun x L2 => ti env L2 (fun i L3 => ∃ k j xs n, x = .own k ∧ i = .int j ∧ L3[k]? = some (.lst xs) ∧ ixN xs.length j = some n ∧ DD.nx env (L3.set k (.lst (xs.set n v)))) (fun C fs L3 => DD.ex C fs env L3)) (fun C fs L3 => DD.ex C fs env L3)) (fun C fs L3 => DD.ex C fs env L3)
end
section
variable {X : Cx} {Z : Ent} {W : WX} {K : PySem.W.Frag} {o i e : Expr} {te to ti : TD} {pos p : Pos}
theorem ds_store {p2 : Pos} (ho : DE X Z W o to) (hi : DE X Z W i ti) (he : DE X Z W e te)
    (hs : swapsWithSole [.Subscript o i p2] e pos.line X.env = pure false := by rfl) (hw : swappedStores [.Subscript o i p2] e X.env = pure none := by rfl)
    (h1 : (assignEach [.Subscript o i p2] X.env).map (·.2) = [assign (.Subscript o i p2) X.env] := by rfl)
    (ha : ∀ v, assign (.Subscript o i p2) X.env v = (do
      let ov ← holding [v] (eval o X.env)
      let iv ← holding [v, ov] (eval i X.env)
      standAt p2
      holding [v, ov, iv] (setItem ov iv v)
      release [v, ov, iv] []) := by intro _; rfl) : DS X Z W (.Assign [.Subscript o i p2] e pos) (dStore to ti te) :=
  (ps_asg he (pg_sub ho hi set_list ha) hs hw h1).imp fun D σ H ⟨B, al, L, env, DD, l, s, m, h, g⟩ => by
    refine lE_then l s m h (g.hx s) fun B1 H1 a1 L1 v y n1 s1 r1 h1 => ?_
    refine lE_then n1.l s1 n1.m h1 ((g.later n1).hx s1) fun B2 H2 a2 L2 x u n2 s2 r2 h2 => ?_
    refine lE_then n2.l s2 n2.m h2 ((g.later (n1.trans n2)).hx s2) fun B3 H3 a3 L3 iv w n3 s3 r3 ⟨k, j, xs, n, ex, ei, hk, hj, q⟩ => ?_
    subst ex ei
    obtain ⟨q', vs, rfl, hq, hH, rv⟩ := own_rep n3.l (r2.mono n3.s n3.p) hk
    cases r3
    refine ⟨q', vs, j, n, rfl, rfl, hH, by rw [← rv.length]; exact hj, ?_⟩
    have n4 := nx_upd n3.l n3.m hq hk (fun z => nomatch z) (.lst (RepA.set (r1.mono (n2.trans n3).s (n2.trans n3).p) n rv))
    exact g.nx _ _ _ _ _ _ (((n1.trans n2).trans n3).trans n4) s3 q

/-! ### == of lists whose items are the same instances -/
/-- equal, nested below n -/
def EqT (L : LH) : Nat → D → D → Prop
  | 0 => fun _ _ => False
  | n + 1 => fun x y => (∃ k, x = .own k ∧ y = .own k) ∨ (∃ p q, py? L x = some p ∧ py? L y = some q ∧ p.canLay0 = true ∧ q.canLay0 = true ∧ p.depth ≤ 8 ∧ PyData.eqv p q = true) ∨
    ∃ xs ys, lst? L x = some xs ∧ lst? L y = some ys ∧ xs.length = ys.length ∧ ∀ (i : Nat) (d d' : D), xs[i]? = some d → ys[i]? = some d' → EqT L n d d'
end
theorem vals_get' : ∀ {xs : List V} {us : List Value} {i : Nat} {u : Value}, Vals xs us → us[i]? = some u → ∃ x, xs[i]? = some x ∧ RelV x u
  | _, _, _, _, .nil, e => by simp at e
  | _, _, 0, _, .cons h t, e => by simp at e; subst e; exact ⟨_, rfl, h⟩
  | _, _, i + 1, _, .cons h t, e => by
    obtain ⟨d, h1, h2⟩ := vals_get' (i := i) t (by simpa using e)
    exact ⟨d, by simpa using h1, h2⟩
section
variable {X : Cx} {pins : List (Addr × Obj)} {σ : L2.St} {H : Hp} {s : Shared}
theorem eqT_run {B : Hp} {al : List Addr} {L : LH} (I : Inv X pins σ H s) (l : Lift X.K B H al L) : ∀ (n : Nat) (A : Around), A.units + 8 + n < cLine → ∀ (x y : D) (v u : V) (v' u' : Value), EqT L n x y → Rep X.K B al x v → Rep X.K B al y u → RelV v v' → RelV u u' → SeqAt.EqAt A s v' u' true
  | 0, _, _, _, _, _, _, _, _, h, _, _, _, _ => (show False from h).elim
  | n + 1, A, hu, x, y, v, u, v', u', h, rx, ry, rv, ru => by
    rcases h with ⟨k, rfl, rfl⟩ | ⟨p, q, hp, hq, sp, sq, hdp, hpq⟩ | ⟨xs, ys, hx, hy, hl, hi⟩
    · cases rx with
      | own h1 =>
        cases ry with
        | own h2 =>
          rw [h1] at h2
          cases h2
          cases (show v' = _ from rv)
          cases (show u' = _ from ru)
          exact .same _
    · obtain ⟨as, ra⟩ := Dp.reads I p v v' (py_rep l rx hp) rv
      obtain ⟨bs, rb⟩ := Dp.reads I q u u' (py_rep l ry hq) ru
      exact hpq ▸ SeqAt.eqAt_reads p q A s _ _ _ _ ra rb sp sq (by have := Nat.min_le_left p.depth q.depth; omega)
    · obtain ⟨a, vs, rfl, ha, r1⟩ := lst_rep l rx hx
      obtain ⟨b, ws, rfl, hb, r2⟩ := lst_rep l ry hy
      cases (show v' = Value.ref a from rv)
      cases (show u' = Value.ref b from ru)
      by_cases e : a = b
      · subst e; exact .same _
      · obtain ⟨us1, w1, p1, _⟩ := I.list ha
        obtain ⟨us2, w2, p2, _⟩ := I.list hb
        have hsz : us1.toArray.size = us2.toArray.size := by
          rw [List.size_toArray, List.size_toArray, ← w1.length, ← w2.length, ← r1.length, ← r2.length]; exact hl
        have k := SeqAt.RcAt.lists (A := A) (e := fun _ => true) p1.isList p2.isList hsz (by omega) (fun j h1 h2 => by
          have g1 : us1[j]? = some us1[j] := List.getElem?_eq_getElem (by simpa using h1)
          have g2 : us2[j]? = some us2[j] := List.getElem?_eq_getElem (by simpa using h2)
          obtain ⟨x1, hx1, rx1⟩ := vals_get' w1 g1
          obtain ⟨x2, hx2, rx2⟩ := vals_get' w2 g2
          obtain ⟨d1, hd1, rd1⟩ := r1.get' hx1
          obtain ⟨d2, hd2, rd2⟩ := r2.get' hx2
          have := eqT_run I l n A.in1 (by show A.units + 1 + 8 + n < cLine; omega) d1 d2 x1 x2 _ _ (hi j d1 d2 hd1 hd2) rd1 rd2 rx1 rx2
          simpa using this)
        rw [show ((List.range us1.toArray.size).all fun _ => true) = true from List.all_eq_true.mpr fun _ _ => rfl] at k
        exact .of_refs e k
end
def gEqT (neg : Bool) : G2 := fun x y L Q => ∃ xs ys, lst? L x = some xs ∧ lst? L y = some ys ∧ xs.length = ys.length ∧ (∀ (i : Nat) (d d' : D), xs[i]? = some d → ys[i]? = some d' → EqT L 8 d d') ∧ Q (.bl neg) L
def rEqT (X : Cx) (neg : Bool) : R2 := fun x y H Q => ∃ (B : Hp) (al : List Addr) (L : LH) (d e : D) (xs ys : List D), Lift X.K B H al L ∧ Rep X.K B al d x ∧ Rep X.K B al e y ∧ lst? L d = some xs ∧ lst? L e = some ys ∧ xs.length = ys.length ∧ (∀ (i : Nat) (d d' : D), xs[i]? = some d → ys[i]? = some d' → EqT L 8 d d') ∧ Q (.bl neg) H
section
variable {X : Cx}
theorem eqT_items {pins : List (Addr × Obj)} {σ : L2.St} {H : Hp} {s : Shared} {B : Hp} {al : List Addr} {L : LH} {xs ys : List D} {vs ws : List V} {us1 us2 : List Value} (I : Inv X pins σ H s) (l : Lift X.K B H al L) (hu : X.A.units + 64 < cLine) (r1 : RepA X.K B al xs vs) (r2 : RepA X.K B al ys ws) (w1 : Vals vs us1) (w2 : Vals ws us2)
    (hi : ∀ (i : Nat) (d d' : D), xs[i]? = some d → ys[i]? = some d' → EqT L 8 d d') : ∀ j (h1 : j < us1.toArray.size) (h2 : j < us2.toArray.size), SeqAt.EqAt X.A.in1 s us1.toArray[j] us2.toArray[j] ((fun _ => true) j) := fun j h1 h2 => by
  have g1 : us1[j]? = some us1[j] := List.getElem?_eq_getElem (by simpa using h1)
  have g2 : us2[j]? = some us2[j] := List.getElem?_eq_getElem (by simpa using h2)
  obtain ⟨x1, hx1, rx1⟩ := vals_get' w1 g1
  obtain ⟨x2, hx2, rx2⟩ := vals_get' w2 g2
  obtain ⟨d1, hd1, rd1⟩ := r1.get' hx1
  obtain ⟨d2, hd2, rd2⟩ := r2.get' hx2
  have := eqT_run I l 8 X.A.in1 (by show X.A.units + 1 + 8 + 8 < cLine; omega) d1 d2 x1 x2 _ _ (hi j d1 d2 hd1 hd2) rd1 rd2 rx1 rx2
  simpa using this
theorem op_neT (hu : X.A.units + 64 < cLine) : OpR X (compareOp .NotEq) (rEqT X false) := by
  intro pins s σ H x y v u Q I rx ry ⟨B, al, L, d, e, xs, ys, l, rd, re, hx, hy, hl, hi, q⟩
  obtain ⟨a, vs, rfl, ha, r1⟩ := lst_rep l rd hx
  obtain ⟨b, ws, rfl, hb, r2⟩ := lst_rep l re hy
  cases (show v = Value.ref a from rx)
  cases (show u = Value.ref b from ry)
  obtain ⟨us1, w1, p1, _⟩ := I.list ha
  obtain ⟨us2, w2, p2, _⟩ := I.list hb
  have hsz : us1.toArray.size = us2.toArray.size := by
    rw [List.size_toArray, List.size_toArray, ← w1.length, ← w2.length, ← r1.length, ← r2.length]; exact hl
  have k := SeqAt.RcNeAt.lists (A := X.A) (e := fun _ => true) p1.isList p2.isList hsz (by omega) (eqT_items I l hu r1 r2 w1 w2 hi)
  rw [show (!(List.range us1.toArray.size).all fun _ => true) = false from by rw [List.all_eq_true.mpr fun _ _ => rfl]; rfl] at k
  exact k X.prog X.w _ _ ⟨.bl false, H, I, rfl, q⟩
theorem op_eqT (hu : X.A.units + 64 < cLine) : OpR X (compareOp .Eq) (rEqT X true) := by
  intro pins s σ H x y v u Q I rx ry ⟨B, al, L, d, e, xs, ys, l, rd, re, hx, hy, hl, hi, q⟩
  obtain ⟨a, vs, rfl, ha, r1⟩ := lst_rep l rd hx
  obtain ⟨b, ws, rfl, hb, r2⟩ := lst_rep l re hy
  cases (show v = Value.ref a from rx)
  cases (show u = Value.ref b from ry)
  obtain ⟨us1, w1, p1, _⟩ := I.list ha
  obtain ⟨us2, w2, p2, _⟩ := I.list hb
  have hsz : us1.toArray.size = us2.toArray.size := by
    rw [List.size_toArray, List.size_toArray, ← w1.length, ← w2.length, ← r1.length, ← r2.length]; exact hl
  have k := SeqAt.RcAt.lists (A := X.A) (e := fun _ => true) p1.isList p2.isList hsz (by omega) (eqT_items I l hu r1 r2 w1 w2 hi)
  rw [show ((List.range us1.toArray.size).all fun _ => true) = true from List.all_eq_true.mpr fun _ _ => rfl] at k
  exact k X.prog X.w _ _ ⟨.bl true, H, I, rfl, q⟩
variable {Z : Ent} {W : WX} {a b : Expr} {ta tb : TD} {pos : Pos}
theorem dop_eqT {n : Bool} : DOp2 X.K (rEqT X n) (gEqT n) := by
  intro Z B H al L x y v u Q Q0 l m rx ry ⟨xs, ys, h1, h2, h3, h4, q⟩ hQ
  exact ⟨B, al, L, x, y, xs, ys, l, rx, ry, h1, h2, h3, h4, hQ _ _ _ _ _ _ (.refl l m) (.bl _) q⟩
theorem dt_neT (hu : X.A.units + 64 < cLine) (ha : DE X Z W a ta) (hb : DE X Z W b tb) : DT X Z W (.Compare a [.NotEq] [b] pos) (dB (dOp (gEqT false) ta tb)) := dt_cmp (op_neT hu) dop_eqT ha hb (nomark _)
theorem dt_eqT (hu : X.A.units + 64 < cLine) (ha : DE X Z W a ta) (hb : DE X Z W b tb) : DT X Z W (.Compare a [.Eq] [b] pos) (dB (dOp (gEqT true) ta tb)) := dt_cmp (op_eqT hu) dop_eqT ha hb (nomark _)
end
end DL
set_option Elab.async false
set_option linter.all false
set_option maxRecDepth 100000
set_option maxHeartbeats 2000000
namespace DL
open PySem PySem.Spec PyProof.Rows L2

section
variable {X : Cx} {Z : Ent} {W : WX} {pos : Pos} {x : Str}
theorem cg1 (i : Nat) (hN : X.N.Nodup) (hi : X.N[i]? = some x := by rfl) (hx : Loc X.env.scope x := by first | exact Or.inl rfl | exact Or.inr rfl) (hf : X.fn x = true ∨ X.env.scope.names.lookup x = some .local := by first | exact .inl rfl | exact .inr rfl | assumption) : PG X (.Name x pos) (gName i) := pg_name hN hi hx hf
theorem names_of {cv : Value} (h : X.mg x = some cv) (hg : Gl X x := by rfl) (hd : (x == ("__debug__" : Str)) = false := by decide) : Names X x cv := ⟨hg, hd, .inl h⟩
/-- a tuple that the module's top keeps -/
theorem de_gtup {ds : List D} (hm : ∃ a, X.mg x = some (.ref a) ∧ ∀ B al, Rep X.K B al (.tup ds) (.ref a)) (hg : Gl X x := by rfl) (hd : (x == ("__debug__" : Str)) = false := by decide) : DE X Z W (.Name x pos) (dC (.tup ds)) := by
  obtain ⟨a, hm, r⟩ := hm
  exact de_glob hm (v := .ref a) rfl r hg hd
theorem swap_yes {elt : Expr} {gs : List Comprehension} {scope : Scope} {p py : Pos} {y : Str} {l : Nat} {env : Env} (hk : env.scope.kind = .function := by rfl) (hy : env.scope.names.lookup y = some .local := by rfl) (hl : (py.line == p.line) = true := by rfl)
    (ha : (scope.names.any fun (n, k) => n == y && (k == .local || k == .cell)) = false := by rfl) : swapsWith (.ListComp elt gs scope p) (some (.Name y py)) l env = pure true := sw_true hk hy hl ha
end

/-! ### the text's defs behind the top -/
/-- a def of the module -/
def FAt (K : PySem.W.Frag) (mg : Str → Option Value) (x : Str) (st : Stmt) : Prop := ∃ f fd, mg x = some (.ref f) ∧ Fun K x x st f fd
/-- C has m: that def -/
def MAt (K : PySem.W.Frag) (C : Addr) (m qual : Str) (st : Stmt) (dvs : List V) : Prop := ∃ f fd, Meth K C m f ∧ FunD K m qual (defArgs st) (defBody st) (defScope st) dvs [] f fd
/-- C is made, its __init__ that def -/
structure IAt (K : PySem.W.Frag) (mg : Str → Option Value) (x : Str) (C : Addr) (qual : Str) (st : Stmt) (dvs : List V) : Prop where
  g : mg x = some (.ref C)
  mks : PySem.W.makesIn K C = true
  kp : PySem.W.keepIn K (.ref C) = true
  at_ : MAt K C "__init__" qual st dvs
/-- a method that keeps S -/
def MeD (P : Program) (w : World) (K : PySem.W.Frag) (mg : Str → Option Value) (base : Heap) (k : Nat) (C : Addr) (m qual : Str) (st : Stmt) (dvs : List V) (ps : List Str) (S : DSp) : Prop :=
  ∃ f fd, Meth K C m f ∧ FunD K m qual (defArgs st) (defBody st) (defScope st) dvs [] f fd ∧ FnOk P w K mg base (L2.CX P w) k f fd ps (spOf K S)
section
variable {P : Program} {w : World} {K : PySem.W.Frag} {mg : Str → Option Value} {base : Heap}
theorem fn_okBD {x qual : Str} {st : Stmt} {dvs : List V} {f : Addr} {fd : FuncData} {N ps : List Str} {k : Nat} {S : DSp} (F : FunD K x qual (defArgs st) (defBody st) (defScope st) dvs [] f fd) (sc : FnScope N ps (defScope st)) (hlen : ∀ ds L Q X, S ds L Q X → ds.length = ps.length)
    (hb : ∀ (cdv : Value) (A : Around) (outer : List PySem.Env) (s : Shared) (H : Hp) (E : XK) (Z : Ent), Bd (cxOf (L2.CX P w) P w K mg base N qual (defScope st) f cdv A outer s H E) (WB E) k →
      ∃ t, DSs (cxOf (L2.CX P w) P w K mg base N qual (defScope st) f cdv A outer s H E) Z (WB E) (defBody st) t ∧ ∀ ds L Q X, S ds L Q X → t (dEndB L Q X) (startD N ds) L) :
    FnOk P w K mg base (L2.CX P w) (k + 1) f fd ps (spOf K S) := by
  refine F.ok sc (fun vs H Q E ⟨B, al, L, ds, Q0, X0, l, r, hs, _⟩ => by rw [← r.length]; exact hlen _ _ _ _ hs) fun cdv A outer s H vs Q E hr ⟨B, al, L, ds, Q0, X0, l, r, hs, hq, hx⟩ => ?_
  obtain ⟨t, ht, hsp⟩ := hb cdv A outer s H E ⟨B, H, al⟩ ⟨takes_of rfl rfl rfl rfl, passes_of rfl, hr, rfl⟩
  refine ⟨_, ht, B, al, L, startD N ds, dEndB L Q0 X0, l, start_rep r, Mv.refl, hsp ds L Q0 X0 hs, ?_⟩
  refine ⟨fun B' H' al' L' env σ n _ ⟨L2, b, q⟩ => ?_, fun B' H' al' L' d v n r' ⟨e, L2, b, f, q⟩ => ?_, fun _ _ _ _ _ _ _ _ h => h.elim, fun _ _ _ _ _ _ _ _ h => h.elim, fun B' H' al' L' env σ C fs dd n _ xr ⟨es, L2, b, f, q⟩ => ?_⟩
  · obtain ⟨n2, _⟩ := back_nx l Mv.refl n b
    exact hq _ H' al L2 _ _ n2.l n2.m .non q
  · obtain ⟨B2, n2, r2⟩ := back_rep l Mv.refl n b f r'
    exact hq B2 H' al L2 _ v n2.l n2.m r2 q
  · obtain ⟨B2, n2, r2⟩ := back_x l Mv.refl n b f xr
    exact hx B2 H' al L2 C _ dd n2.l n2.m r2 q
theorem me_mk {C : Addr} {m qual : Str} {st : Stmt} {dvs : List V} {N ps : List Str} {k : Nat} {S : DSp} (F : MAt K C m qual st dvs) (sc : FnScope N ps (defScope st)) (hlen : ∀ ds L Q X, S ds L Q X → ds.length = ps.length)
    (hb : ∀ (f : Addr) (cdv : Value) (A : Around) (outer : List PySem.Env) (s : Shared) (H : Hp) (E : XK) (Z : Ent), Bd (cxOf (L2.CX P w) P w K mg base N qual (defScope st) f cdv A outer s H E) (WB E) k →
      ∃ t, DSs (cxOf (L2.CX P w) P w K mg base N qual (defScope st) f cdv A outer s H E) Z (WB E) (defBody st) t ∧ ∀ ds L Q X, S ds L Q X → t (dEndB L Q X) (startD N ds) L) :
    MeD P w K mg base (k + 1) C m qual st dvs ps S := by
  obtain ⟨f, fd, M, F⟩ := F
  exact ⟨f, fd, M, F, fn_okBD F sc hlen (hb f)⟩
theorem MeD.mono {C : Addr} {m qual : Str} {st : Stmt} {dvs : List V} {ps : List Str} {j k : Nat} {S : DSp} (F : MeD P w K mg base j C m qual st dvs ps S) (h : j ≤ k) : MeD P w K mg base k C m qual st dvs ps S := by
  obtain ⟨f, fd, h1, h2, h3⟩ := F
  exact ⟨f, fd, h1, h2, h3.mono h⟩
theorem MeD.imp {C : Addr} {m qual : Str} {st : Stmt} {dvs : List V} {ps : List Str} {k : Nat} {S S' : DSp} (F : MeD P w K mg base k C m qual st dvs ps S) (h : ∀ ds L Q X, S' ds L Q X → S ds L Q X) : MeD P w K mg base k C m qual st dvs ps S' := by
  obtain ⟨f, fd, h1, h2, h3⟩ := F
  exact ⟨f, fd, h1, h2, h3.imp fun vs H Q E ⟨B, al, L, ds, Q0, X0, l, r, hs, hq, hx⟩ => ⟨B, al, L, ds, Q0, X0, l, r, h _ _ _ _ hs, hq, hx⟩⟩
/-- the same def found from another class -/
theorem MeD.of {C C' : Addr} {m qual : Str} {st : Stmt} {dvs dvs' : List V} {ps : List Str} {k : Nat} {S : DSp} (F : MeD P w K mg base k C m qual st dvs ps S) (h : ∀ f fd, Meth K C m f → FunD K m qual (defArgs st) (defBody st) (defScope st) dvs [] f fd → Meth K C' m f) : MeD P w K mg base k C' m qual st dvs ps S := by
  obtain ⟨f, fd, h1, h2, h3⟩ := F
  exact ⟨f, fd, h f fd h1 h2, h2, h3⟩
/-- called by dispatch, without defaults -/
theorem MeD.md {C : Addr} {m qual : Str} {st : Stmt} {ps : List Str} {k : Nat} {S : DSp} (F : MeD P w K mg base k C m qual st [] ps S) (c : Cls K C)
    (bi : ∀ (kV doc pm : Value) (an : Option Addr) (cdv ct : Value) (us : List Value), us.length = ps.length → bindArgs (PySem.W.fnOf m qual (defArgs st) (defBody st) (defScope st) .none kV doc pm an cdv ct) ⟨us, []⟩ = pure (ps.zip us)) : MdD P w K mg base k C m ps [] S := by
  obtain ⟨f, fd, h1, h2, h3⟩ := F
  exact ⟨c, f, fd, [], [], h1, h2.bindsN bi, .nil, fun _ _ => .nil, h3⟩
/-- made, all parameters written -/
theorem MeD.mk0 {C : Addr} {x qual : Str} {st : Stmt} {ps : List Str} {k : Nat} {S : DSp} (F : MeD P w K mg base k C "__init__" qual st [] ps S) (g : mg x = some (.ref C)) (m : PySem.W.makesIn K C = true) (kp : PySem.W.keepIn K (.ref C) = true)
    (bi : ∀ (kV doc pm : Value) (an : Option Addr) (cdv ct : Value) (us : List Value), us.length = ps.length → bindArgs (PySem.W.fnOf "__init__" qual (defArgs st) (defBody st) (defScope st) .none kV doc pm an cdv ct) ⟨us, []⟩ = pure (ps.zip us)) : MkD P w K mg base k x C ps [] S := by
  obtain ⟨f, fd, h1, h2, h3⟩ := F
  exact ⟨g, f, fd, [], [], ⟨m, h1.at_, h1.fn, kp⟩, h2.bindsN bi, .nil, fun _ _ => .nil, h3⟩
/-- .. n of them written, the defaults behind the first j fill up -/
theorem MeD.mkD {C : Addr} {x qual : Str} {st : Stmt} {dvs : List V} {dd : List D} {ps : List Str} {k : Nat} {S : DSp} (F : MeD P w K mg base k C "__init__" qual st dvs ps S) (g : mg x = some (.ref C)) (m : PySem.W.makesIn K C = true) (kp : PySem.W.keepIn K (.ref C) = true)
    (n j : Nat) (hd : dvs ≠ []) (hn : n + (dvs.length - j) = ps.length) (hr : ∀ B al, RepA K B al dd (dvs.drop j))
    (h : ∀ (T : Addr) (kV doc pm : Value) (an : Option Addr) (cdv ct : Value) (us its : List Value), us.length = n → its.length = dvs.length →
      ∃ k, bindArgs (PySem.W.fnOf "__init__" qual (defArgs st) (defBody st) (defScope st) (.ref T) kV doc pm an cdv ct) ⟨us, []⟩ = seqItems? (.ref T) >>= k ∧ k (some its.toArray) = pure (ps.zip (us ++ its.drop j))) : MkD P w K mg base k x C ps dd S := by
  obtain ⟨f, fd, h1, h2, h3⟩ := F
  obtain ⟨ds, v, b⟩ := h2.binds1 n j hd hn h
  exact ⟨g, f, fd, ds, dvs.drop j, ⟨m, h1.at_, h1.fn, kp⟩, b, v, hr, h3⟩
end
/-- C.m, read off the class, is its def -/
def CmAt (K : PySem.W.Frag) (C : Addr) (m : Str) : Prop := ∃ mc, ClX.CRead K C mc ∧ ∀ f, Meth K C m f → ClX.CVal K C mc m (.ref f) (.ref f)
section
variable {X : Cx} {Z : Ent} {W : WX} {a b c e : Expr} {tu : TDA} {pos p : Pos} {es : List Expr} {k : Nat} {x : Str} {ps : List Str} {S : DSp}
/-- C.m(self, ..): the class's own def called by the class -/
theorem de_cm {C : Addr} {m qual : Str} {st : Stmt} {pl : Sem Bool} {apos : Pos} (F : MeD X.prog X.w X.K X.mg X.base k C m qual st [] ps S) (bi : ∀ (kV doc pm : Value) (an : Option Addr) (cdv ct : Value) (us : List Value), us.length = ps.length → bindArgs (PySem.W.fnOf m qual (defArgs st) (defBody st) (defScope st) .none kV doc pm an cdv ct) ⟨us, []⟩ = pure (ps.zip us))
    (g : X.mg x = some (.ref C)) (cm : CmAt X.K C m) (hr : Room k X.A) (tk : Takes X W) (ha : DA X Z W (e :: es) tu) (hgl : Gl X x := by rfl) (hd : (x == ("__debug__" : Str)) = false := by decide)
    (hst : starEach (e :: es) X.env = (false, eval e X.env) :: starEach es X.env := by rfl) (hpl : (backTo pos (starEach es X.env)).any (·.1) = false := by rfl)
    (ht : eval (.Call (.Attribute (.Name x p) m apos) (e :: es) [] pos) X.env = (do
      let ov ← eval (.Name x p) X.env
      standAt apos.atName
      let (f, first) ← holding [ov] (getMethod ov m pl)
      callWith pos f first (backTo pos (starEach (e :: es) X.env)) (backToKw pos (keywordEach [] X.env))) := by rfl) : DE X Z W (.Call (.Attribute (.Name x p) m apos) (e :: es) [] pos) (dCall S tu) := by
  obtain ⟨f, fd, M, FD, F⟩ := F
  obtain ⟨mc, r, cv⟩ := cm
  refine ⟨fun pins s σ H Q I ⟨B, al, L, env, Q0, X0, l, s', mv, h, hQ, hX⟩ => ?_⟩
  refine PySem.W.methodCall_KW (pl := pl) (ld_glob I hgl g ?_ hd) ht
  refine PySem.W.method_cls I.kIn r.ga (ClX.getcval_ok I r (cv f M) fun s1 I1 => ?_)
  refine PySem.W.callWith_K (first := []) (h₀ := X.base) I1.ok.mod.kin M.kp (thn (ha.run pos pins s1 σ H (fun ws H2 => spOf X.K S ws H2 Q (WE W σ)) I1 (lA_then l s' mv h hX fun B2 H2 a2 L2 xs ws n2 s2 r2 h2 => ?_)) fun us st2 ⟨ws, H2, I2, r, q2⟩ => ⟨I2.kIn, ?_⟩) hst hpl
  · exact sp_then n2.l n2.m r2 h2 (HX.nx hX n2) fun _ _ _ _ _ _ n3 r3 q3 => hQ _ _ _ _ _ _ (n2.trans n3) r3 q3
  · exact run_fnS F hr (FD.bindsN bi) (E := WE W) (passAt tk σ) I2 r q2
end
end DL
set_option Elab.async false
set_option linter.all false
set_option maxRecDepth 100000
set_option maxHeartbeats 2000000
namespace DL
open PySem PySem.Spec PyProof.Rows L2

/-! ### a statement, then the rest, with a word between them -/
def dCut (t u : TDS) : TDS := fun DD env L => ∃ Mid : DEnv → LH → Prop, t ⟨Mid, DD.rt, DD.bk, DD.ct, DD.ex⟩ env L ∧ ∀ env' L', Mid env' L' → u DD env' L'
theorem ds_cut {X : Cx} {Z : Ent} {W : WX} {st : Stmt} {sts : List Stmt} {t u : TDS} (h1 : DS X Z W st t) (h2 : DSs X Z W sts u) : DSs X Z W (st :: sts) (dCut t u) := (pss_cons h1 h2).imp fun D σ H ⟨B, al, L, env, DD, l, s, m, ⟨Mid, h, hu⟩, f⟩ =>
  ⟨B, al, L, env, _, l, s, m, h, ⟨fun B' H' al' L' env' σ' n' s' h' => ⟨B', al', L', env', DD, n'.l, s', n'.m, hu _ _ h', f.later n'⟩, f.rt, f.bk, f.ct, f.ex⟩⟩
/-! ### ends, in short -/
mutual
/-- nothing of one's own within -/
def D.clos : D → Bool
  | .tup xs => D.closA xs
  | .lst xs => D.closA xs
  | .sq xs => D.closA xs
  | .dct kvs => D.closP kvs
  | .ins _ fs => D.closQ fs
  | .own _ => false
  | .xcp _ _ _ _ => false
  | _ => true
def D.closA : List D → Bool
  | [] => true
  | d :: ds => D.clos d && D.closA ds
def D.closP : List (Key × D) → Bool
  | [] => true
  | (_, d) :: ds => D.clos d && D.closP ds
def D.closQ : List (Str × D) → Bool
  | [] => true
  | (_, d) :: ds => D.clos d && D.closQ ds
end
section
variable {L L1 G : LH} {n : Nat} {Q : DK} {X : DX} {C : Addr}
mutual
theorem frz_clos : ∀ {d : D}, d.clos = true → Frz L n d d
  | .non, _ => .non
  | .bl b, _ => .bl b
  | .int i, _ => .int i
  | .str s, _ => .str s
  | .val v, _ => .val v
  | .tup xs, h => .tup (frz_closA (by rw [D.clos] at h; exact h))
  | .lst xs, h => .lst (frz_closA (by rw [D.clos] at h; exact h))
  | .sq xs, h => .sq (frz_closA (by rw [D.clos] at h; exact h))
  | .dct xs, h => .dct (frz_closP (by rw [D.clos] at h; exact h))
  | .ins C xs, h => .ins (frz_closQ (by rw [D.clos] at h; exact h))
  | .own _, h => by rw [D.clos] at h; cases h
  | .xcp _ _ _ _, h => by rw [D.clos] at h; cases h
theorem frz_closA : ∀ {ds : List D}, D.closA ds = true → FrzA L n ds ds
  | [], _ => .nil
  | d :: ds, h => by
    rw [D.closA, Bool.and_eq_true] at h
    exact .cons (frz_clos h.1) (frz_closA h.2)
theorem frz_closP : ∀ {ds : List (Key × D)}, D.closP ds = true → FrzP L n ds ds
  | [], _ => .nil
  | (k, d) :: ds, h => by
    rw [D.closP, Bool.and_eq_true] at h
    exact .cons (frz_clos h.1) (frz_closP h.2)
theorem frz_closQ : ∀ {ds : List (Str × D)}, D.closQ ds = true → FrzP L n ds ds
  | [], _ => .nil
  | (k, d) :: ds, h => by
    rw [D.closQ, Bool.and_eq_true] at h
    exact .cons (frz_clos h.1) (frz_closQ h.2)
end
mutual
/-- .. of places below n alone -/
inductive Shut (n : Nat) : D → Prop where
  | clos {d : D} (h : d.clos = true) : Shut n d
  | own {k : Nat} (h : k < n) : Shut n (.own k)
  | tup {xs : List D} (h : ShutA n xs) : Shut n (.tup xs)
  | lst {xs : List D} (h : ShutA n xs) : Shut n (.lst xs)
  | ins {C : Addr} {fs : List (Str × D)} (h : ShutQ n fs) : Shut n (.ins C fs)
inductive ShutA (n : Nat) : List D → Prop where
  | nil : ShutA n []
  | cons {d : D} {ds : List D} (h : Shut n d) (t : ShutA n ds) : ShutA n (d :: ds)
inductive ShutQ (n : Nat) : List (Str × D) → Prop where
  | nil : ShutQ n []
  | cons {x : Str} {d : D} {ds : List (Str × D)} (h : Shut n d) (t : ShutQ n ds) : ShutQ n ((x, d) :: ds)
end
mutual
theorem frz_shut : ∀ {d : D}, Shut n d → Frz L n d d
  | _, .clos h => frz_clos h
  | _, .own h => .old h
  | _, .tup h => .tup (frz_shutA h)
  | _, .lst h => .lst (frz_shutA h)
  | _, .ins h => .ins (frz_shutQ h)
theorem frz_shutA : ∀ {ds : List D}, ShutA n ds → FrzA L n ds ds
  | _, .nil => .nil
  | _, .cons h t => .cons (frz_shut h) (frz_shutA t)
theorem frz_shutQ : ∀ {ds : List (Str × D)}, ShutQ n ds → FrzP L n ds ds
  | _, .nil => .nil
  | _, .cons h t => .cons (frz_shut h) (frz_shutQ t)
end
theorem shutA_mem : ∀ {xs : List D}, (∀ d ∈ xs, Shut n d) → ShutA n xs
  | [], _ => .nil
  | _ :: _, h => .cons (h _ List.mem_cons_self) (shutA_mem fun d hd => h d (List.mem_cons_of_mem _ hd))
mutual
theorem Shut.mono {m : Nat} (h : n ≤ m) : ∀ {d : D}, Shut n d → Shut m d
  | _, .clos q => .clos q
  | _, .own q => .own (Nat.lt_of_lt_of_le q h)
  | _, .tup q => .tup (ShutA.mono h q)
  | _, .lst q => .lst (ShutA.mono h q)
  | _, .ins q => .ins (ShutQ.mono h q)
theorem ShutA.mono {m : Nat} (h : n ≤ m) : ∀ {d : List D}, ShutA n d → ShutA m d
  | _, .nil => .nil
  | _, .cons q t => .cons (Shut.mono h q) (ShutA.mono h t)
theorem ShutQ.mono {m : Nat} (h : n ≤ m) : ∀ {d : List (Str × D)}, ShutQ n d → ShutQ m d
  | _, .nil => .nil
  | _, .cons q t => .cons (Shut.mono h q) (ShutQ.mono h t)
end
theorem closA_map {α : Type} {f : α → D} (hf : ∀ a, (f a).clos = true) : ∀ xs : List α, D.closA (xs.map f) = true
  | [] => rfl
  | a :: xs => by rw [List.map_cons, D.closA, hf a, closA_map hf xs]; rfl
theorem closA_mem : ∀ {xs : List D}, (∀ d ∈ xs, d.clos = true) → D.closA xs = true
  | [], _ => rfl
  | a :: xs, h => by rw [D.closA, h a List.mem_cons_self, closA_mem fun d hd => h d (List.mem_cons_of_mem _ hd)]; rfl
theorem clos_lst {α : Type} {f : α → D} (hf : ∀ a, (f a).clos = true) (xs : List α) : (D.lst (xs.map f)).clos = true := by rw [D.clos]; exact closA_map hf xs
/-- back to L, a value without anything of one's own -/
theorem bk0 {d : D} (q : Q d L) (hc : d.clos = true := by rfl) : ∃ e L2, Bck L L L2 ∧ Frz L L.length d e ∧ Q e L2 := ⟨d, L, .refl L, frz_clos hc, q⟩
theorem bkG (G : LH) {d : D} (q : Q d L) (hc : d.clos = true := by rfl) : ∃ e L2, Bck L (L ++ G) L2 ∧ Frz (L ++ G) L.length d e ∧ Q e L2 := ⟨d, L, .app L G, frz_clos hc, q⟩
/-- .. a list that is one's own yet -/
theorem bkL (G : LH) {k : Nat} {ds : List D} (hk : (L ++ G)[k]? = some (.lst ds)) (hn : L.length ≤ k) (hc : D.closA ds = true) (q : Q (.lst ds) L) : ∃ e L2, Bck L (L ++ G) L2 ∧ Frz (L ++ G) L.length (.own k) e ∧ Q e L2 := ⟨.lst ds, L, .app L G, .lstO hn hk (frz_closA hc), q⟩
theorem bn0 (q : Q .non L) : ∃ L2, Bck L L L2 ∧ Q .non L2 := ⟨L, .refl L, q⟩
theorem bx0 (q : X C [] L) : ∃ es L2, Bck L L L2 ∧ FrzP L L.length [] es ∧ X C es L2 := ⟨[], L, .refl L, .nil, q⟩
theorem bxG (G : LH) (q : X C [] L) : ∃ es L2, Bck L (L ++ G) L2 ∧ FrzP (L ++ G) L.length [] es ∧ X C es L2 := ⟨[], L, .app L G, .nil, q⟩
/-- one's own k written, with nothing else of one's own within -/
theorem Bck.wr {k : Nat} {o o' : OD} (G : LH) (hk : k < L.length) (h : ∀ L1, FrzO L1 L.length o o') : Bck L (L.set k o ++ G) (L.set k o') := .set hk (h _)
theorem Bck.wr0 {k : Nat} {o o' : OD} (hk : k < L.length) (h : ∀ L1, FrzO L1 L.length o o') : Bck L (L.set k o) (L.set k o') := by simpa using Bck.wr (L := L) (k := k) [] hk h
theorem bx_gone (G : LH) {k : Nat} {o : OD} (hk : k < L.length) (q : X C [] (L.set k .gone)) : ∃ es L2, Bck L (L.set k o ++ G) L2 ∧ FrzP (L.set k o ++ G) L.length [] es ∧ X C es L2 := ⟨[], _, .wr G hk fun _ => .gone, .nil, q⟩
theorem bx_gone0 {k : Nat} {o : OD} (hk : k < L.length) (q : X C [] (L.set k .gone)) : ∃ es L2, Bck L (L.set k o) L2 ∧ FrzP (L.set k o) L.length [] es ∧ X C es L2 := ⟨[], _, .wr0 hk fun _ => .gone, .nil, q⟩
theorem bx_gone1 {k : Nat} {o : OD} (hk : L[k]? = some o) (q : X C [] (L.set k .gone)) : ∃ es L2, Bck L L L2 ∧ FrzP L L.length [] es ∧ X C es L2 := by
  have h2 : L.set k o = L := by
    apply List.ext_getElem?
    intro j
    by_cases e : k = j
    · subst e; rw [List.getElem?_set_self (List.getElem?_eq_some_iff.mp hk).1, hk]
    · rw [List.getElem?_set_ne e]
  have := bx_gone0 (o := o) (List.getElem?_eq_some_iff.mp hk).1 q
  rwa [h2] at this
theorem lt_of_get {k : Nat} {o : OD} (h : L[k]? = some o) : k < L.length := (List.getElem?_eq_some_iff.mp h).1
theorem get_set {k : Nat} {o o' : OD} (h : L[k]? = some o) : (L.set k o')[k]? = some o' := List.getElem?_set_self (lt_of_get h)
theorem ins_own {k : Nat} {C : Addr} {fs : List (Str × D)} (h : L[k]? = some (.ins C fs)) : ins? L (.own k) = some (C, fs) := by
  unfold ins?
  dsimp only
  rw [h]
/-! what stays when one's own instance is written, or something is added -/
theorem get_app {k : Nat} {o : OD} (G : LH) (h : L[k]? = some o) : (L ++ G)[k]? = some o := by rw [List.getElem?_append_left (lt_of_get h)]; exact h
theorem get_end (o : OD) : (L ++ [o])[L.length]? = some o := by rw [List.getElem?_append_right (Nat.le_refl _), Nat.sub_self]; rfl
theorem set_end (o o' : OD) : (L ++ [o]).set L.length o' = L ++ [o'] := by rw [List.set_append_right _ _ (Nat.le_refl _), Nat.sub_self]; rfl
theorem get_endS {k : Nat} {o o' : OD} : (L.set k o ++ [o'])[L.length]? = some o' := by
  have := get_end (L := L.set k o) o'
  rwa [List.length_set] at this
theorem get2 (a b : OD) : (L ++ [a] ++ [b])[L.length]? = some a := get_app _ (get_end a)
theorem set2 (a b a' : OD) : (L ++ [a] ++ [b]).set L.length a' = L ++ [a'] ++ [b] := by rw [List.set_append_left _ _ (by simp), set_end]
theorem get2' (a b : OD) : (L ++ [a] ++ [b])[L.length + 1]? = some b := by
  have := get_end (L := L ++ [a]) b
  rwa [List.length_append] at this
theorem set2' (a b b' : OD) : (L ++ [a] ++ [b]).set (L.length + 1) b' = L ++ [a] ++ [b'] := by
  have := set_end (L := L ++ [a]) b b'
  rwa [List.length_append] at this
theorem lst_own {k : Nat} {xs : List D} (h : L[k]? = some (.lst xs)) : lst? L (.own k) = some xs := by
  unfold lst?
  dsimp only
  rw [h]
theorem lst_app {d : D} {xs : List D} (G : LH) (h : lst? L d = some xs) : lst? (L ++ G) d = some xs := by
  cases d with
  | own k =>
    unfold lst? at h ⊢
    dsimp only at h ⊢
    cases e : L[k]? with
    | none => rw [e] at h; cases h
    | some o => rw [get_app G e]; rw [e] at h; exact h
  | _ => exact h
theorem tyS_app {d : D} {t : String} (G : LH) (h : tyS L d = some t) : tyS (L ++ G) d = some t := by
  cases d with
  | own k =>
    unfold tyS at h ⊢
    dsimp only at h ⊢
    cases e : L[k]? with
    | none => rw [e] at h; cases h
    | some o => rw [get_app G e]; rw [e] at h; exact h
  | _ => exact h
theorem ins_app {d : D} {x : Addr × List (Str × D)} (G : LH) (h : ins? L d = some x) : ins? (L ++ G) d = some x := by
  cases d with
  | own k =>
    unfold ins? at h ⊢
    dsimp only at h ⊢
    cases e : L[k]? with
    | none => rw [e] at h; cases h
    | some o => rw [get_app G e]; rw [e] at h; exact h
  | _ => exact h
theorem lst_set {d : D} {xs : List D} {k : Nat} {fs : List (Str × D)} {o : OD} (hk : L[k]? = some (.ins C fs)) (h : lst? L d = some xs) : lst? (L.set k o) d = some xs := by
  cases d with
  | own j =>
    unfold lst? at h ⊢
    dsimp only at h ⊢
    by_cases e : k = j
    · subst e; rw [hk] at h; cases h
    · rw [List.getElem?_set_ne e]; exact h
  | _ => exact h
theorem tyS_set {d : D} {t : String} {k : Nat} {fs : List (Str × D)} {o : OD} (hk : L[k]? = some (.ins C fs)) (h : tyS L d = some t) : tyS (L.set k o) d = some t := by
  cases d with
  | own j =>
    unfold tyS at h ⊢
    dsimp only at h ⊢
    by_cases e : k = j
    · subst e; rw [hk] at h; cases h
    · rw [List.getElem?_set_ne e]; exact h
  | _ => exact h
theorem gLen_lst {d : D} {xs : List D} (h : lst? L d = some xs) (q : Q (.int xs.length) L) : gLen [d] L Q := by
  cases d with
  | str s => cases h
  | tup s => cases h
  | _ => exact ⟨xs, h, q⟩
theorem gIx_lst {x d : D} {ds : List D} {i : Int} (h : lst? L x = some ds) (h2 : atI ds i = some d) (q : Q d L) : gIx x (.int i) L Q := by
  cases x with
  | str s => cases h
  | tup s => cases h
  | _ => exact ⟨ds, d, h, h2, q⟩
theorem at_nat {α : Type} {xs : List α} {i : Nat} {a : α} (h : xs[i]? = some a) : atI xs (i : Int) = some a := by
  have hl := (List.getElem?_eq_some_iff.mp h).1
  unfold atI ixN
  rw [if_pos (Int.natCast_nonneg i), if_pos (by omega)]
  exact h
theorem ixN_nat {n i : Nat} (h : i < n) : ixN n (i : Int) = some i := by
  unfold ixN
  rw [if_pos (Int.natCast_nonneg i), if_pos (by omega)]
  rfl
theorem gSl_lst {x : D} {ds : List D} {lo hi : Option Int} (h : lst? L x = some ds) (q : Q (.lst (cutD ds lo hi)) L) : gSl x lo hi L Q := by
  cases x with
  | str s => cases h
  | tup s => cases h
  | _ => exact ⟨ds, h, q⟩
end
end DL
set_option Elab.async false
set_option linter.all false
set_option maxRecDepth 100000
set_option maxHeartbeats 2000000
namespace DL
open PySem PySem.Spec PyProof.Rows L2

/-! ### data that is compared -/
def okS (s : Str) : Bool := s.cps.all (· < 0x110000)
theorem okS_of (s : String) : okS (Str.ofString s) = true := by
  unfold okS
  rw [Array.all_eq_true']
  intro x hx
  rw [← Array.mem_toList_iff, signs_ofString] at hx
  obtain ⟨c, _, rfl⟩ := List.mem_map.mp hx
  have := c.valid
  have h : c.val.toNat < 0x110000 := by
    rcases this with h | ⟨_, h⟩
    · omega
    · exact h
  exact decide_eq_true h
theorem okS_app {a b : Str} (ha : okS a = true) (hb : okS b = true) : okS (a ++ b) = true := by
  unfold okS at *
  show (a.cps ++ b.cps).all _ = true
  rw [Array.all_append, ha, hb]
  rfl
mutual
/-- d is data p, nested at most n deep -/
inductive Dat : Nat → D → PyData → Prop where
  | non {n : Nat} : Dat n .non .none
  | bl {n : Nat} (b : Bool) : Dat n (.bl b) (.bool b)
  | int {n : Nat} (i : Int) : Dat n (.int i) (.int i)
  | str {n : Nat} (s : Str) (h : okS s = true) : Dat n (.str s) (.str s)
  | lst {n : Nat} {xs : List D} {ps : List PyData} (h : DatA n xs ps) : Dat (n + 1) (.lst xs) (.list ps)
  | tup {n : Nat} {xs : List D} {ps : List PyData} (h : DatA n xs ps) : Dat (n + 1) (.tup xs) (.tuple ps)
inductive DatA : Nat → List D → List PyData → Prop where
  | nil {n : Nat} : DatA n [] []
  | cons {n : Nat} {d : D} {ds : List D} {p : PyData} {ps : List PyData} (h : Dat n d p) (t : DatA n ds ps) : DatA n (d :: ds) (p :: ps)
end
mutual
theorem Dat.ok : ∀ {n : Nat} {d : D} {p : PyData}, Dat n d p → D.py d = some p ∧ p.canLay0 = true ∧ p.depth ≤ n
  | _, _, _, .non => ⟨rfl, rfl, Nat.zero_le _⟩
  | _, _, _, .bl b => ⟨rfl, rfl, Nat.zero_le _⟩
  | _, _, _, .int i => ⟨rfl, rfl, Nat.zero_le _⟩
  | _, _, _, .str s h => ⟨rfl, h, Nat.zero_le _⟩
  | _, _, _, .lst h => by
    obtain ⟨h1, h2, h3⟩ := DatA.ok h
    refine ⟨by rw [D.py, h1]; rfl, by rw [PyData.canLay0]; exact h2, ?_⟩
    rw [PyData.depth]
    exact Nat.succ_le_succ h3
  | _, _, _, .tup h => by
    obtain ⟨h1, h2, h3⟩ := DatA.ok h
    refine ⟨by rw [D.py, h1]; rfl, by rw [PyData.canLay0]; exact h2, ?_⟩
    rw [PyData.depth]
    exact Nat.succ_le_succ h3
theorem DatA.ok : ∀ {n : Nat} {d : List D} {p : List PyData}, DatA n d p → D.pyA d = some p ∧ PyData.canLayAll0 p = true ∧ PyData.depthAll p ≤ n
  | _, _, _, .nil => ⟨rfl, rfl, Nat.zero_le _⟩
  | _, _, _, .cons h t => by
    obtain ⟨h1, h2, h3⟩ := Dat.ok h
    obtain ⟨t1, t2, t3⟩ := DatA.ok t
    refine ⟨by rw [D.pyA, h1, t1], by rw [PyData.canLayAll0, h2, t2]; rfl, ?_⟩
    rw [PyData.depthAll]
    exact Nat.max_le.mpr ⟨h3, t3⟩
end
theorem datA_map {α : Type} {f : α → D} {n : Nat} : ∀ {xs : List α}, (∀ x ∈ xs, ∃ p, Dat n (f x) p) → ∃ ps, DatA n (xs.map f) ps
  | [], _ => ⟨[], .nil⟩
  | x :: xs, h => by
    obtain ⟨p, hp⟩ := h x List.mem_cons_self
    obtain ⟨ps, hps⟩ := datA_map (xs := xs) fun y hy => h y (List.mem_cons_of_mem _ hy)
    exact ⟨p :: ps, .cons hp hps⟩
section
variable {L : LH} {Q : DK}
theorem Dat.py {n : Nat} {d : D} {p : PyData} (h : Dat n d p) : py? L d = some p := by
  have := h.ok.1
  cases h <;> exact this
/-- x == x, x != x of such data -/
theorem gEq_same {neg : Bool} {n : Nat} {d : D} {p : PyData} (h : Dat n d p) (hn : n ≤ 64) (q : Q (.bl (!neg)) L) : gEqB neg d d L Q := by
  obtain ⟨h1, h2, h3⟩ := h.ok
  have sh : SeqAt.shaped p = true := by unfold SeqAt.shaped; rw [h2, decide_eq_true (Nat.le_trans h3 hn)]; rfl
  have gen : ∃ p q, py? L d = some p ∧ py? L d = some q ∧ SeqAt.shaped p = true ∧ SeqAt.shaped q = true ∧ Q (.bl (xor neg (PyData.eqv p q))) L := ⟨p, p, h.py, h.py, sh, sh, by rw [SeqAt.eqv_refl p h2, Bool.xor_true]; exact q⟩
  cases h with
  | non => exact gen
  | bl b => show Q _ L; rw [decide_eq_true rfl, Bool.xor_true]; exact q
  | int b => show Q _ L; rw [decide_eq_true rfl, Bool.xor_true]; exact q
  | str b => show Q _ L; rw [decide_eq_true rfl, Bool.xor_true]; exact q
  | lst h => exact gen
  | tup h => exact gen
end
end DL
set_option Elab.async false
set_option linter.all false
set_option maxRecDepth 100000
set_option maxHeartbeats 2000000
namespace DL
open PySem PySem.Spec PyProof.Rows L2

/-! ### the ends: facts of what the top has written -/
section
variable {K : PySem.W.Frag} {h : Heap} {mg : Str → Option Value} {x m qual : Str} {st : Stmt} {f C : Addr} {oc kV doc pm cdv ct : Value} {od an : Option Addr} {osl : Array (Option Value)}
theorem fat_mk (X : K.In h) (G : h.Ns mainGlobals mg) (a : PySem.W.nsIn K mainGlobals x = some (some (.ref f))) (l : K.lookup f = some ⟨oc, od, .func (PySem.W.fnOf x x (defArgs st) (defBody st) (defScope st) .none kV doc pm an cdv ct), osl⟩)
    (c : PySem.W.codeIn K cdv x = true) (k : PySem.W.keepIn K (.ref f) = true) : FAt K mg x st := ⟨f, _, PySem.W.mg_of X G a, fun_mk l c k⟩
theorem mat_mk (a : PySem.W.findIn K (.ref C) m = some (some (.ref f))) (i : PySem.W.isFn K (.ref f) = true) (l : K.lookup f = some ⟨oc, od, .func (PySem.W.fnOf m qual (defArgs st) (defBody st) (defScope st) .none kV doc pm an cdv ct), osl⟩)
    (c : PySem.W.codeIn K cdv qual = true) (k : PySem.W.keepIn K (.ref f) = true) : MAt K C m qual st [] := ⟨f, _, ⟨a, i, k⟩, ⟨⟨oc, od, .none, kV, doc, pm, an, cdv, ct, osl, rfl, l, c, .inl ⟨rfl, rfl⟩, .inl rfl⟩, k⟩⟩
theorem matd_mk {T : Addr} {o : Obj} {its : List Value} {n : Nat} {dvs : List V} (a : PySem.W.findIn K (.ref C) m = some (some (.ref f))) (i : PySem.W.isFn K (.ref f) = true) (l : K.lookup f = some ⟨oc, od, .func (PySem.W.fnOf m qual (defArgs st) (defBody st) (defScope st) (.ref T) kV doc pm an cdv ct), osl⟩)
    (c : PySem.W.codeIn K cdv qual = true) (k : PySem.W.keepIn K (.ref f) = true) (t : K.lookup T = some o) (d : o.data = .seq its.toArray n) (r : Vals dvs its) (ne : dvs ≠ []) : MAt K C m qual st dvs :=
  ⟨f, _, ⟨a, i, k⟩, ⟨⟨oc, od, .ref T, kV, doc, pm, an, cdv, ct, osl, rfl, l, c, .inr ⟨ne, T, o, its, n, rfl, t, d, r⟩, .inl rfl⟩, k⟩⟩
theorem tupK {a : Addr} {o : Obj} {its : List Value} {n : Nat} {vs : List V} {ds : List D} (X : K.In h) (G : h.Ns mainGlobals mg) (e : PySem.W.nsIn K mainGlobals x = some (some (.ref a))) (l : K.lookup a = some o) (c : o.cls = .type "tuple") (d : o.data = .seq its.toArray n) (hz : its.length ≤ 16777216) (r : Vals vs its) (rd : ∀ B al, RepA K B al ds vs) :
    ∃ a, mg x = some (.ref a) ∧ ∀ B al, Rep K B al (.tup ds) (.ref a) := ⟨a, PySem.W.mg_of X G e, fun B al => .tup (.inr ⟨o, its.toArray, n, l, c, d, by rw [List.size_toArray]; exact line_of hz, by simpa using r⟩) (rd B al)⟩
theorem strK {z : Str} {t : Tok} (X : K.In h) (G : h.Ns mainGlobals mg) (e : PySem.W.nsIn K mainGlobals x = some (some (.str z t))) : ∃ t, mg x = some (.str z t) := ⟨t, PySem.W.mg_of X G e⟩
theorem intK {z : Int} {t : Tok} (X : K.In h) (G : h.Ns mainGlobals mg) (e : PySem.W.nsIn K mainGlobals x = some (some (.int z t))) : ∃ t, mg x = some (.int z t) := ⟨t, PySem.W.mg_of X G e⟩
theorem exK_mk {C : Addr} (X : K.In h) (G : h.Ns mainGlobals mg) (a : PySem.W.nsIn K mainGlobals x = some (some (.ref C))) (k : PySem.W.keepIn K (.ref C) = true) (q : PySem.W.excIn K C veT "ValueError.__new__" = true) (sB : PySem.W.subIn K (.ref C) (.type "BaseException") = some true) (ty : PySem.W.typeIn K (.ref C) = some (.type "type")) : ExK K mg x C := ⟨PySem.W.mg_of X G a, k, q, sB, ty⟩
theorem cat_mk {H C : Addr} {b : Bool} (s : PySem.W.subIn K (.ref H) (.type "BaseException") = some true) (i : PySem.W.isClsIn K H = true) (t : PySem.W.typeIn K (.ref H) = some (.type "type")) (q : PySem.W.subIn K (.ref C) (.ref H) = some b) : Cat K (.ref H) C b := by
  unfold Cat PySem.W.exmOne
  rw [if_pos (by rw [s]; rfl)]
  show (if ((PySem.W.clsIn K H).isSome && PySem.W.typeIn K (.ref H) == some (.type "type")) = true then PySem.W.subIn K (.ref C) (.ref H) else none) = some b
  rw [if_pos (by rw [show (PySem.W.clsIn K H).isSome = true from i, t]; rfl)]
  exact q
theorem cmAt_mk {mc : Value} {f0 : Addr} (rd : PySem.W.readsIn K C mc = true) (ga : PySem.W.specialIn K (.ref C) "__getattribute__" = some (some (.builtin "type.__getattribute__"))) (a : PySem.W.findIn K (.ref C) m = some (some (.ref f0))) (e : PySem.W.findCls K (.ref C) mc m = some (.val (.ref f0))) : CmAt K C m :=
  ⟨mc, ⟨rd, ga⟩, fun f M => by
    have := M.at_.symm.trans a
    cases this
    exact ⟨e, rfl⟩⟩
end
/-- the law's own end -/
theorem cx_end {P : Program} (w : World) (H : Hp) (s : Shared) (e : Value) (s' : Shared) (h : L2.CX P w [] H s (fun _ _ _ => False) e s') : False := by
  obtain ⟨_, _, _, _, _, _, _, _, _, _, _, _, z⟩ := h
  exact z
theorem repA_ofInts {K : PySem.W.Frag} {B : Hp} {al : List Addr} : ∀ ns : List Int, RepA K B al (ns.map D.int) (ns.map V.int)
  | [] => .nil
  | n :: ns => .cons (.int n) (repA_ofInts ns)
theorem sp_end {K : PySem.W.Frag} {S : DSp} {H : Hp} {a : Addr} {ns : List Int} (hS : SqL K H a (ns.map V.int)) (h : S [.sq (ns.map .int)] [] (fun d _ => d = .bl true) (fun _ _ _ => False)) : spOf K S [.ref a] H (fun v _ => v = .bl true) fun _ _ _ => False :=
  ⟨H, [], [], [.sq (ns.map .int)], _, _, ⟨fun _ _ z => z, rfl, List.nodup_nil, fun _ z => (nomatch z), fun _ _ _ z => by simp at z⟩, .one (.sq hS (repA_ofInts ns)), h,
    fun _ _ _ _ d v _ _ r e => by subst e; exact rep_bl r, fun _ _ _ _ _ _ _ _ _ _ z => z⟩
end DL
set_option Elab.async false
set_option linter.all false
set_option maxRecDepth 100000
set_option maxHeartbeats 2000000
namespace K38
open PySem PySem.Spec PyProof.Rows L2 DL

/-! ### the text by places -/
def top (i : Nat) : Stmt := PySem.Challenge.pw_coverroll_k38_no_covers.main.body.getD i (.Pass ⟨0, 0, 0, 0⟩)
abbrev s_is_whole : Stmt := top 9
abbrev s_show_cents : Stmt := top 10
abbrev s_is_name : Stmt := top 14
abbrev s_is_amount : Stmt := top 15
abbrev s_total_of : Stmt := top 19
abbrev s_due_by : Stmt := top 20
abbrev s_next_place : Stmt := top 21
abbrev s_turns : Stmt := top 22
abbrev s_need_houses : Stmt := top 26
abbrev s_need_amount : Stmt := top 30
abbrev s_l_cell : Stmt := top 39
abbrev s_l_names : Stmt := top 40
abbrev s_l_houses : Stmt := top 41
abbrev s_Deal_init : Stmt := inClass (top 23) 0
abbrev s_Cover_init : Stmt := inClass (top 27) 0
abbrev s_Over_init : Stmt := inClass (top 37) 0
abbrev s_l_refused : Stmt := top 42
abbrev s_l_bad_pairs : Stmt := top 43
abbrev s_CauseIs_words : Stmt := inClass (top 35) 2
abbrev s_Deal_counts_to : Stmt := inClass (top 23) 2
abbrev s_Over_words : Stmt := inClass (top 37) 2
abbrev s_Own_words : Stmt := inClass (top 32) 2
abbrev s_ThingIs_words : Stmt := inClass (top 36) 2
abbrev s_l_kept : Stmt := top 44
abbrev s_CauseIs_holds : Stmt := inClass (top 35) 1
abbrev s_Over_holds : Stmt := inClass (top 37) 1
abbrev s_ThingIs_holds : Stmt := inClass (top 36) 1
abbrev s_Cover_asks : Stmt := inClass (top 27) 1
abbrev s_l_asks : Stmt := top 45
abbrev s_CauseIs_init : Stmt := inClass (top 35) 0
abbrev s_Clause_init : Stmt := inClass (top 31) 0
abbrev s_Own_init : Stmt := inClass (top 32) 0
abbrev s_ThingIs_init : Stmt := inClass (top 36) 0
abbrev s_law : Stmt := top 46
/-- where the classes lie -/
structure Cs where
  CoverError : Addr
  NoShares : Addr
  NoEntry : Addr
  NoClause : Addr
  NoCover : Addr
  NoBook : Addr
  Deal : Addr
  Cover : Addr
  Clause : Addr
  Own : Addr
  Condition : Addr
  CauseIs : Addr
  ThingIs : Addr
  Over : Addr
abbrev c_WAYS : D := .tup [.str "event", .str "thing", .str "year", .str "loss"]
/-- what the top has written -/
structure Txt (K : PySem.W.Frag) (mg : Str → Option Value) (c : Cs) : Prop where
  d_is_whole : FAt K mg "is_whole" s_is_whole
  d_show_cents : FAt K mg "show_cents" s_show_cents
  d_is_name : FAt K mg "is_name" s_is_name
  d_is_amount : FAt K mg "is_amount" s_is_amount
  d_total_of : FAt K mg "total_of" s_total_of
  d_due_by : FAt K mg "due_by" s_due_by
  d_next_place : FAt K mg "next_place" s_next_place
  d_turns : FAt K mg "turns" s_turns
  d_need_houses : FAt K mg "need_houses" s_need_houses
  d_need_amount : FAt K mg "need_amount" s_need_amount
  d_l_cell : FAt K mg "_law_cell" s_l_cell
  d_l_names : FAt K mg "_law_names" s_l_names
  d_l_houses : FAt K mg "_law_houses" s_l_houses
  d_l_refused : FAt K mg "_law_refused" s_l_refused
  d_l_bad_pairs : FAt K mg "_law_bad_pairs" s_l_bad_pairs
  d_l_kept : FAt K mg "_law_kept" s_l_kept
  d_l_asks : FAt K mg "_law_asks" s_l_asks
  d_law : FAt K mg "law" s_law
  g_CoverError : mg "CoverError" = some (.ref c.CoverError)
  g_NoShares : mg "NoShares" = some (.ref c.NoShares)
  g_NoEntry : mg "NoEntry" = some (.ref c.NoEntry)
  g_NoClause : mg "NoClause" = some (.ref c.NoClause)
  g_NoCover : mg "NoCover" = some (.ref c.NoCover)
  g_NoBook : mg "NoBook" = some (.ref c.NoBook)
  g_Deal : mg "Deal" = some (.ref c.Deal)
  g_Cover : mg "Cover" = some (.ref c.Cover)
  g_Clause : mg "Clause" = some (.ref c.Clause)
  g_Own : mg "Own" = some (.ref c.Own)
  g_Condition : mg "Condition" = some (.ref c.Condition)
  g_CauseIs : mg "CauseIs" = some (.ref c.CauseIs)
  g_ThingIs : mg "ThingIs" = some (.ref c.ThingIs)
  g_Over : mg "Over" = some (.ref c.Over)
  cl_Deal : Cls K c.Deal
  f_Deal_wheel : Fl K c.Deal "wheel"
  f_Deal_weights : Fl K c.Deal "weights"
  cl_Cover : Cls K c.Cover
  f_Cover_name : Fl K c.Cover "name"
  f_Cover_condition : Fl K c.Cover "condition"
  f_Cover_clauses : Fl K c.Cover "clauses"
  f_Cover_houses : Fl K c.Cover "houses"
  f_Cover_deal : Fl K c.Cover "deal"
  f_Cover_waits : Fl K c.Cover "waits"
  cl_Clause : Cls K c.Clause
  f_Clause_by : Fl K c.Clause "by"
  cl_Own : Cls K c.Own
  f_Own_cents : Fl K c.Own "cents"
  f_Own_by : Fl K c.Own "by"
  cl_Condition : Cls K c.Condition
  cl_CauseIs : Cls K c.CauseIs
  f_CauseIs_name : Fl K c.CauseIs "name"
  cl_ThingIs : Cls K c.ThingIs
  f_ThingIs_name : Fl K c.ThingIs "name"
  cl_Over : Cls K c.Over
  f_Over_cents : Fl K c.Over "cents"
  m_Deal_init : MAt K c.Deal "__init__" "Deal.__init__" s_Deal_init []
  m_Deal_counts_to : MAt K c.Deal "counts_to" "Deal.counts_to" s_Deal_counts_to []
  m_Cover_init : MAt K c.Cover "__init__" "Cover.__init__" s_Cover_init [V.non, V.non, V.bl false]
  m_Cover_asks : MAt K c.Cover "asks" "Cover.asks" s_Cover_asks []
  m_Clause_init : MAt K c.Clause "__init__" "Clause.__init__" s_Clause_init []
  m_Own_init : MAt K c.Own "__init__" "Own.__init__" s_Own_init []
  m_Own_words : MAt K c.Own "words" "Own.words" s_Own_words []
  m_CauseIs_init : MAt K c.CauseIs "__init__" "CauseIs.__init__" s_CauseIs_init []
  m_CauseIs_holds : MAt K c.CauseIs "holds" "CauseIs.holds" s_CauseIs_holds []
  m_CauseIs_words : MAt K c.CauseIs "words" "CauseIs.words" s_CauseIs_words []
  m_ThingIs_init : MAt K c.ThingIs "__init__" "ThingIs.__init__" s_ThingIs_init []
  m_ThingIs_holds : MAt K c.ThingIs "holds" "ThingIs.holds" s_ThingIs_holds []
  m_ThingIs_words : MAt K c.ThingIs "words" "ThingIs.words" s_ThingIs_words []
  m_Over_init : MAt K c.Over "__init__" "Over.__init__" s_Over_init []
  m_Over_holds : MAt K c.Over "holds" "Over.holds" s_Over_holds []
  m_Over_words : MAt K c.Over "words" "Over.words" s_Over_words []
  mk_CauseIs : PySem.W.makesIn K c.CauseIs = true
  kp_CauseIs : PySem.W.keepIn K (.ref c.CauseIs) = true
  mk_Cover : PySem.W.makesIn K c.Cover = true
  kp_Cover : PySem.W.keepIn K (.ref c.Cover) = true
  mk_Deal : PySem.W.makesIn K c.Deal = true
  kp_Deal : PySem.W.keepIn K (.ref c.Deal) = true
  mk_Over : PySem.W.makesIn K c.Over = true
  kp_Over : PySem.W.keepIn K (.ref c.Over) = true
  mk_Own : PySem.W.makesIn K c.Own = true
  kp_Own : PySem.W.keepIn K (.ref c.Own) = true
  mk_ThingIs : PySem.W.makesIn K c.ThingIs = true
  kp_ThingIs : PySem.W.keepIn K (.ref c.ThingIs) = true
  i_Deal : C8.InsC K c.Deal
  e_NoShares : ExK K mg "NoShares" c.NoShares
  e_NoCover : ExK K mg "NoCover" c.NoCover
  e_NoClause : ExK K mg "NoClause" c.NoClause
  x_NoCover : ExcC K c.NoCover
  x_NoShares : ExcC K c.NoShares
  cat_CoverError_NoCover : Cat K (.ref c.CoverError) c.NoCover true
  cat_CoverError_NoShares : Cat K (.ref c.CoverError) c.NoShares true
  kit_NoBook_NoCover : PySem.W.kitOne K (.ref c.NoCover) (.ref c.NoBook) = some false
  kit_NoClause_NoCover : PySem.W.kitOne K (.ref c.NoCover) (.ref c.NoClause) = some false
  kit_NoEntry_NoCover : PySem.W.kitOne K (.ref c.NoCover) (.ref c.NoEntry) = some false
  kit_NoCover_NoCover : PySem.W.kitOne K (.ref c.NoCover) (.ref c.NoCover) = some true
  kit_NoShares_NoCover : PySem.W.kitOne K (.ref c.NoCover) (.ref c.NoShares) = some false
  kit_ValueError_NoCover : PySem.W.kitOne K (.ref c.NoCover) (.type "ValueError") = some true
  kit_NoBook_NoShares : PySem.W.kitOne K (.ref c.NoShares) (.ref c.NoBook) = some false
  kit_NoClause_NoShares : PySem.W.kitOne K (.ref c.NoShares) (.ref c.NoClause) = some false
  kit_NoEntry_NoShares : PySem.W.kitOne K (.ref c.NoShares) (.ref c.NoEntry) = some false
  kit_NoCover_NoShares : PySem.W.kitOne K (.ref c.NoShares) (.ref c.NoCover) = some false
  kit_NoShares_NoShares : PySem.W.kitOne K (.ref c.NoShares) (.ref c.NoShares) = some true
  kit_ValueError_NoShares : PySem.W.kitOne K (.ref c.NoShares) (.type "ValueError") = some true
  cm_Clause_init : CmAt K c.Clause "__init__"
  z_ValueError : mg "ValueError" = none
  z_bool : mg "bool" = none
  k_LETTERS : ∃ t, mg "LETTERS" = some (.str "abcdefghijklmnopqrstuvwxyz" t)
  k_MOST_CENTS : ∃ t, mg "MOST_CENTS" = some (.int (999999999999) t)
  k_MOST_CLAUSES : ∃ t, mg "MOST_CLAUSES" = some (.int (8) t)
  k_MOST_PLACES : ∃ t, mg "MOST_PLACES" = some (.int (8) t)
  k_MOST_TURNS : ∃ t, mg "MOST_TURNS" = some (.int (100) t)
  k_WAYS : ∃ a, mg "WAYS" = some (.ref a) ∧ ∀ B al, Rep K B al c_WAYS (.ref a)
  z_divmod : mg "divmod" = none
  z_int : mg "int" = none
  z_isinstance : mg "isinstance" = none
  z_len : mg "len" = none
  z_list : mg "list" = none
  z_min : mg "min" = none
  z_range : mg "range" = none
  z_str : mg "str" = none
  z_sum : mg "sum" = none
end K38
set_option Elab.async false
set_option linter.all false
set_option maxRecDepth 100000
set_option maxHeartbeats 2000000
namespace K38
open PySem PySem.Spec PyProof.Rows L2 DL

/-! ### what each def does, in plain values -/
def S_is_whole (c : Cs) : DSp := fun ds L Q X => ∃ d t, ds = [d] ∧ tyS L d = some t ∧ Q (.bl (decide (t = "int"))) L
def letter (n : Nat) : Bool := decide (97 ≤ n ∧ n ≤ 122)
def nameS (s : Str) : Bool := decide (1 ≤ s.cps.size) && decide (s.cps.size ≤ 8) && s.cps.toList.all letter
def nameOk : D → Bool
  | .str s => nameS s
  | _ => false
def S_is_name (c : Cs) : DSp := fun ds L Q X => ∃ d t, ds = [d] ∧ tyS L d = some t ∧ (∀ s, d = .str s → s.length ≤ 1000000) ∧ Q (.bl (nameOk d)) L
def S_is_amount (c : Cs) : DSp := fun ds L Q X => ∃ i : Int, ds = [.int i] ∧ Q (.bl (decide (0 ≤ i ∧ i ≤ 999999999999))) L
def S_need_amount (c : Cs) : DSp := fun ds L Q X => ∃ i : Int, ds = [.int i] ∧ (0 ≤ i ∧ i ≤ 999999999999) ∧ Q (.int i) L
def showC (i : Int) : Str := (toString (i / 100) : String) ++ ("." : Str) ++ Txt.zfill (toString (i % 100) : String) 2
def S_show_cents (c : Cs) : DSp := fun ds L Q X => ∃ i : Int, ds = [.int i] ∧ (0 ≤ i ∧ i ≤ 999999999999) ∧ Q (.str (showC i)) L
abbrev ownF (s : Str) (i : Int) : List (Str × D) := [("by", .str s), ("cents", .int i)]
abbrev nameF (s : Str) : List (Str × D) := [("name", .str s)]
abbrev overF (i : Int) : List (Str × D) := [("cents", .int i)]
def ways : List Str := ["event", "thing", "year", "loss"]
def S_Clause_init (c : Cs) : DSp := fun ds L Q X => ∃ k s, ds = [.own k, .str s] ∧ s ∈ ways ∧ L[k]? = some (.ins c.Own []) ∧ Q .non (L.set k (.ins c.Own [("by", .str s)]))
def S_Own_init (c : Cs) : DSp := fun ds L Q X => ∃ k s i, ds = [.own k, .str s, .int i] ∧ s ∈ ways ∧ (0 ≤ i ∧ i ≤ 999999999999) ∧ L[k]? = some (.ins c.Own []) ∧ Q .non (L.set k (.ins c.Own [("by", .str s), ("cents", .int i)]))
def ownW (s : Str) (i : Int) : D := .lst [.str "own", .str s, .str (showC i)]
def S_Own_words (c : Cs) : DSp := fun ds L Q X => ∃ o s i, ds = [o] ∧ ins? L o = some (c.Own, ownF s i) ∧ (0 ≤ i ∧ i ≤ 999999999999) ∧ Q (ownW s i) L
def S_CauseIs_init (c : Cs) : DSp := fun ds L Q X => ∃ k s, ds = [.own k, .str s] ∧ L[k]? = some (.ins c.CauseIs []) ∧ Q .non (L.set k (.ins c.CauseIs [("name", .str s)]))
def S_ThingIs_init (c : Cs) : DSp := fun ds L Q X => ∃ k s, ds = [.own k, .str s] ∧ L[k]? = some (.ins c.ThingIs []) ∧ Q .non (L.set k (.ins c.ThingIs [("name", .str s)]))
def S_Over_init (c : Cs) : DSp := fun ds L Q X => ∃ k i, ds = [.own k, .int i] ∧ L[k]? = some (.ins c.Over []) ∧ Q .non (L.set k (.ins c.Over [("cents", .int i)]))
def S_CauseIs_words (c : Cs) : DSp := fun ds L Q X => ∃ o s, ds = [o] ∧ ins? L o = some (c.CauseIs, nameF s) ∧ Q (.lst [.str "cause", .str s]) L
def S_ThingIs_words (c : Cs) : DSp := fun ds L Q X => ∃ o s, ds = [o] ∧ ins? L o = some (c.ThingIs, nameF s) ∧ Q (.lst [.str "thing", .str s]) L
def S_Over_words (c : Cs) : DSp := fun ds L Q X => ∃ o i, ds = [o] ∧ ins? L o = some (c.Over, overF i) ∧ (0 ≤ i ∧ i ≤ 999999999999) ∧ Q (.lst [.str "over", .str (showC i)]) L
def lossD (th ca : Str) (n : Int) : D := .tup [.int 7, .int 100, .str "storm", .str th, .str ca, .int n]
def S_CauseIs_holds (c : Cs) : DSp := fun ds L Q X => ∃ o s th ca n, ds = [o, lossD th ca n] ∧ ins? L o = some (c.CauseIs, nameF s) ∧ Q (.bl (decide (ca = s))) L
def S_ThingIs_holds (c : Cs) : DSp := fun ds L Q X => ∃ o s th ca n, ds = [o, lossD th ca n] ∧ ins? L o = some (c.ThingIs, nameF s) ∧ Q (.bl (decide (th = s))) L
def S_Over_holds (c : Cs) : DSp := fun ds L Q X => ∃ o i th ca n, ds = [o, lossD th ca n] ∧ ins? L o = some (c.Over, overF i) ∧ Q (.bl (decide (i < n))) L
/-! the deal -/
def dueBy (g w t : Int) : Int := -(-(g + 1) * t / w)
def S_due_by (c : Cs) : DSp := fun ds L Q X => ∃ g w t : Int, ds = [.int g, .int w, .int t] ∧ (0 ≤ g ∧ g ≤ 1000) ∧ (1 ≤ w ∧ w ≤ 1000) ∧ (0 ≤ t ∧ t ≤ 1000) ∧ Q (.int (dueBy g w t)) L
/-- the weights add up, if they can -/
def goodW : D → Option Int
  | .int w => if 1 ≤ w then some w else none
  | _ => none
def goodWs : List D → Option (List Int)
  | [] => some []
  | d :: ds => match goodW d, goodWs ds with
    | some w, some ws => some (w :: ws)
    | _, _ => none
def totalOf (ds : List D) : Option Int :=
  if ds.length < 1 ∨ 8 < ds.length then none else match goodWs ds with
    | some ws => if 100 < ws.sum then none else some ws.sum
    | none => none
def S_total_of (c : Cs) : DSp := fun ds L Q X => ∃ d ws, ds = [d] ∧ lst? L d = some ws ∧ tyS L d = some "list" ∧ ws.length ≤ 1000 ∧ (∀ w ∈ ws, ∃ t, tyS L w = some t) ∧ (match totalOf ws with | some n => Q (.int n) L | none => X c.NoShares [] L)
/-- one step of the search: the best place so far, and how soon it is due -/
def seekP (ws gs : List Int) (t n : Int) (i : Nat) (b : Option Nat × Int) : Option Nat × Int :=
  if gs.getD i 0 * t < ws.getD i 0 * (n + 1) then
    (if b.1 = none ∨ dueBy (gs.getD i 0) (ws.getD i 0) t < b.2 then (some i, dueBy (gs.getD i 0) (ws.getD i 0) t) else b) else b
def seekN (ws gs : List Int) (t n : Int) : Nat → Option Nat × Int
  | 0 => (none, 0)
  | i + 1 => seekP ws gs t n i (seekN ws gs t n i)
def onD : Option Nat → D
  | none => .non
  | some i => .int i
def nextP (ws gs : List Int) (t n : Int) : Option Nat := (seekN ws gs t n ws.length).1
def S_next_place (c : Cs) : DSp := fun ds L Q X => ∃ (dw dg : D) (ws gs : List Int) (t n : Int), ds = [dw, dg, .int t, .int n] ∧ lst? L dw = some (ws.map .int) ∧ lst? L dg = some (gs.map .int) ∧ ws.length = gs.length ∧ ws.length ≤ 8 ∧ (∀ w ∈ ws, 1 ≤ w ∧ w ≤ 100) ∧ (∀ g ∈ gs, 0 ≤ g ∧ g ≤ 100) ∧ (0 ≤ t ∧ t ≤ 100) ∧ (0 ≤ n ∧ n ≤ 100) ∧ Q (onD (nextP ws gs t n)) L
/-- what has been given, and the wheel, after n turns -/
def turnN (ws : List Int) (t : Int) : Nat → List Int × List Int
  | 0 => (ws.map fun _ => 0, [])
  | n + 1 => let p := turnN ws t n; match nextP ws p.1 t n with
    | some i => (p.1.set i (p.1.getD i 0 + 1), p.2 ++ [(i : Int)])
    | none => p
def wheelOf (ws : List Int) : List Int := (turnN ws ws.sum ws.sum.toNat).2
def S_turns (c : Cs) : DSp := fun ds L Q X => ∃ d es, ds = [d] ∧ lst? L d = some es ∧ tyS L d = some "list" ∧ es.length ≤ 1000 ∧ (∀ w ∈ es, ∃ t, tyS L w = some t) ∧
  (∀ ws, goodWs es = some ws → totalOf es = some ws.sum → Q (.lst ((wheelOf ws).map .int)) L) ∧ (totalOf es = none → X c.NoShares [] L)
abbrev dealF (ws : List Int) : List (Str × D) := [("wheel", .lst ((wheelOf ws).map .int)), ("weights", .lst (ws.map .int))]
def dealD (c : Cs) (ws : List Int) : D := .ins c.Deal (dealF ws)
def S_Deal_init (c : Cs) : DSp := fun ds L Q X => ∃ k d es, ds = [.own k, d] ∧ L[k]? = some (.ins c.Deal []) ∧ lst? L d = some es ∧ tyS L d = some "list" ∧ es.length ≤ 1000 ∧ (∀ w ∈ es, ∃ t, tyS L w = some t) ∧
  (∀ ws, goodWs es = some ws → totalOf es = some ws.sum → Q .non (L.set k (.ins c.Deal (dealF ws)))) ∧ (totalOf es = none → X c.NoShares [] (L.set k .gone))
/-- counts_to(37) -/
def bump (cs : List Int) (p : Int) : List Int := cs.set p.toNat (cs.getD p.toNat 0 + 1)
def countsOf (ws : List Int) (n : Int) : List Int :=
  let wh := wheelOf ws
  (wh.take (n % wh.length).toNat).foldl bump (ws.map fun w => n / wh.length * w)
def S_Deal_counts_to (c : Cs) : DSp := fun ds L Q X => ∃ o ws, ds = [o, .int 37] ∧ ins? L o = some (c.Deal, dealF ws) ∧ totalOf (ws.map .int) = some ws.sum ∧ Q (.lst ((countsOf ws 37).map .int)) L
/-! covers -/
abbrev pairD (p : D × D) : D := .tup [p.1, p.2]
def okH (L : LH) (h : D) : Prop := ∃ t, tyS L h = some t ∧ ∀ s, h = .str s → s.length ≤ 1000000
def housesGo : List D → List Str → Option (List Str)
  | [], f => some f
  | .str s :: hs, f => if nameS s = true ∧ s ∉ f then housesGo hs (f ++ [s]) else none
  | _ :: _, _ => none
def S_need_houses (c : Cs) : DSp := fun ds L Q X => ∃ (d : D) (ps : List (D × D)), ds = [d] ∧ lst? L d = some (ps.map pairD) ∧ ps.length ≤ 1000 ∧ (∀ p ∈ ps, okH L p.1) ∧ (match housesGo (ps.map (·.1)) [] with | some f => Q (.lst (f.map .str)) L | none => X c.NoCover [] L)
def isSelf : D → Bool
  | .str s => decide (s = "self")
  | _ => false
/-- the clauses, the houses told or left out -/
def ClO (L : LH) (d : D) (cs : List D) : Prop := (d = .non ∧ cs = []) ∨ (d.isNon = some false ∧ lst? L d = some cs)
def HoO (L : LH) (nm d : D) (ps : List (D × D)) : Prop := (d = .non ∧ ps = [(nm, .int 1)]) ∨ (d.isNon = some false ∧ lst? L d = some (ps.map pairD) ∧ tyS L d = some "list")
/-- 0: made; 1: NoCover; 2: NoShares -/
def coverOf (nm : D) (n : Nat) (ps : List (D × D)) : Nat :=
  if nameOk nm = false ∨ isSelf nm = true ∨ 8 < n then 1 else match housesGo (ps.map (·.1)) [] with
    | none => 1
    | some _ => match totalOf (ps.map (·.2)) with
      | none => 2
      | some _ => 0
abbrev coverF (c : Cs) (nm cond : D) (cs : List D) (hs : List Str) (ws : List Int) (wa : D) : List (Str × D) := [("name", nm), ("condition", cond), ("clauses", .lst cs), ("houses", .lst (hs.map .str)), ("deal", dealD c ws), ("waits", wa)]
def S_Cover_init (c : Cs) : DSp := fun ds L Q X => ∃ (k : Nat) (nm cond cl ho wa : D) (cs : List D) (ps : List (D × D)), ds = [.own k, nm, cond, cl, ho, wa] ∧ L[k]? = some (.ins c.Cover []) ∧ okH L nm ∧ ClO L cl cs ∧ HoO L nm ho ps ∧ cs.length ≤ 1000 ∧ ps.length ≤ 1000 ∧ (∀ p ∈ ps, okH L p.1 ∧ ∃ t, tyS L p.2 = some t) ∧ Shut L.length cond ∧ Shut L.length wa ∧ (∀ x ∈ cs, Shut L.length x) ∧
  (coverOf nm cs.length ps = 0 → ∀ hs ws, housesGo (ps.map (·.1)) [] = some hs → goodWs (ps.map (·.2)) = some ws → totalOf (ps.map (·.2)) = some ws.sum → Q .non (L.set k (.ins c.Cover (coverF c nm cond cs hs ws wa)))) ∧
  (coverOf nm cs.length ps = 1 → X c.NoCover [] (L.set k .gone)) ∧ (coverOf nm cs.length ps = 2 → X c.NoShares [] (L.set k .gone))
def S_l_refused (c : Cs) : DSp := fun ds L Q X => ∃ (nm cl ho : D) (cs : List D) (ps : List (D × D)), ds = [nm, cl, ho] ∧ okH L nm ∧ ClO L cl cs ∧ HoO L nm ho ps ∧ cs.length ≤ 1000 ∧ ps.length ≤ 1000 ∧ (∀ p ∈ ps, okH L p.1 ∧ ∃ t, tyS L p.2 = some t) ∧ (∀ x ∈ cs, Shut L.length x) ∧ Q (.int (coverOf nm cs.length ps)) L
/-! the condition -/
/-- which of the three stands at d -/
def condAt (c : Cs) (L : LH) (d : D) (way : Int) (nm : Str) (ct : Int) : Prop := (way = 0 ∧ ins? L d = some (c.CauseIs, nameF nm)) ∨ (way = 1 ∧ ins? L d = some (c.ThingIs, nameF nm)) ∨ (way = 2 ∧ ins? L d = some (c.Over, overF ct))
def holdsB (way : Int) (nm : Str) (ct : Int) (th ca : Str) (n : Int) : Bool := if way = 0 then decide (ca = nm) else if way = 1 then decide (th = nm) else decide (ct < n)
def S_Cover_asks (c : Cs) : DSp := fun ds L Q X => ∃ (o : D) (fs : List (Str × D)) (cond : D) (way : Int) (nm : Str) (ct : Int) (th ca : Str) (n : Int), ds = [o, lossD th ca n] ∧ ins? L o = some (c.Cover, fs) ∧ fs.lookup ("condition" : Str) = some cond ∧ condAt c L cond way nm ct ∧ Q (.bl (holdsB way nm ct th ca n)) L
def S_l_asks (c : Cs) : DSp := fun ds L Q X => ∃ (o : D) (fs : List (Str × D)) (cond : D) (way : Int) (nm : Str) (ct : Int), ds = [o, .int way, .str nm, .int ct] ∧ ins? L o = some (c.Cover, fs) ∧ fs.lookup ("asks" : Str) = none ∧ fs.lookup ("condition" : Str) = some cond ∧ condAt c L cond way nm ct ∧ Q (.bl true) L
/-! what the law draws -/
def cellI (ns : List Int) (k : Nat) : Int := ns.getD k 0
def S_l_cell (c : Cs) : DSp := fun ds L Q X => ∃ (ns : List Int) (k : Nat), ds = [.sq (ns.map .int), .int k] ∧ ns.length ≤ 63 ∧ k ≤ 1000 ∧ Q (.int (cellI ns k)) L
/-- a book of names: ten, unlike, none is self -/
structure Names10 (xs : List Str) : Prop where
  len : xs.length = 10
  ok : ∀ s ∈ xs, nameS s = true
  nd : xs.Nodup
  no : ("self" : Str) ∉ xs
def S_l_names (c : Cs) : DSp := fun ds L Q X => ∃ i : Int, ds = [.int i] ∧ (0 ≤ i ∧ i < 1000003) ∧ ∀ xs, Names10 xs → Q (.lst (xs.map .str)) L
abbrev hwD (p : Str × Int) : D := .tup [.str p.1, .int p.2]
structure Houses (ps : List (Str × Int)) : Prop where
  lo : 1 ≤ ps.length
  hi : ps.length ≤ 8
  ok : ∀ p ∈ ps, nameS p.1 = true
  nd : (ps.map (·.1)).Nodup
  w : ∀ p ∈ ps, 1 ≤ p.2
  sum : (ps.map (·.2)).sum ≤ 100
def S_l_houses (c : Cs) : DSp := fun ds L Q X => ∃ (ns : List Int) (xs : List Str), ds = [.sq (ns.map .int), .lst (xs.map .str)] ∧ ns.length ≤ 63 ∧ Names10 xs ∧ ∀ ps, Houses ps → Q (.lst (ps.map hwD)) L
/-- what is wrong with the pairs -/
structure BadPs (way : Int) (bs : List (D × D)) : Prop where
  len : bs.length ≤ 20
  h : ∀ L, ∀ p ∈ bs, okH L p.1 ∧ ∃ t, tyS L p.2 = some t
  cl : ∀ p ∈ bs, p.1.clos = true ∧ p.2.clos = true
  due : ∀ (nm : Str) (n : Nat), nameS nm = true → nm ≠ "self" → n ≤ 8 → coverOf (.str nm) n bs = if way = 0 ∨ way = 1 ∨ way = 5 then 1 else 2
def S_l_bad_pairs (c : Cs) : DSp := fun ds L Q X => ∃ (ps : List (Str × Int)) (way cell : Int), ds = [.lst (ps.map hwD), .int way, .int cell] ∧ Houses ps ∧ (0 ≤ way ∧ way ≤ 5) ∧ (0 ≤ cell ∧ cell < 1000000000000) ∧ ∀ bs, BadPs way bs → Q (.lst (bs.map pairD)) L
def S_l_kept (c : Cs) : DSp := fun ds L Q X => ∃ (o cond : D) (nm : Str) (cs : List D) (wss : List (Str × Int)) (hs : List Str) (ps : List (Str × Int)) (wa : Bool), ds = [o, .str nm, .lst (wss.map fun p => ownW p.1 p.2), .lst (ps.map hwD), .bl wa] ∧
  ins? L o = some (c.Cover, coverF c (.str nm) cond cs (ps.map (·.1)) (ps.map (·.2)) (.bl wa)) ∧ Houses ps ∧ nm.length ≤ 8 ∧ wss.length ≤ 8 ∧ cs.length = wss.length ∧ (∀ (i : Nat) (d : D) (p : Str × Int), cs[i]? = some d → wss[i]? = some p → ins? L d = some (c.Own, ownF p.1 p.2) ∧ okS p.1 = true ∧ (0 ≤ p.2 ∧ p.2 ≤ 999999999999)) ∧ Q (.bl true) L
def S_law (c : Cs) : DSp := fun ds L Q X => ∃ ns : List Int, ds = [.sq (ns.map .int)] ∧ ns.length ≤ 63 ∧ ∀ L', Q (.bl true) L'
end K38
set_option Elab.async false
set_option linter.all false
set_option maxRecDepth 100000
set_option maxHeartbeats 2000000
namespace K38
open PySem PySem.Spec PyProof.Rows L2 DL

def R_asks (c : Cs) : Addr → DSp → Prop := fun C S => (C = c.Cover ∧ S = S_Cover_asks c)
def R_counts_to (c : Cs) : Addr → DSp → Prop := fun C S => (C = c.Deal ∧ S = S_Deal_counts_to c)
def R_holds (c : Cs) : Addr → DSp → Prop := fun C S => (C = c.CauseIs ∧ S = S_CauseIs_holds c) ∨ (C = c.ThingIs ∧ S = S_ThingIs_holds c) ∨ (C = c.Over ∧ S = S_Over_holds c)
def R_words (c : Cs) : Addr → DSp → Prop := fun C S => (C = c.Own ∧ S = S_Own_words c) ∨ (C = c.CauseIs ∧ S = S_CauseIs_words c) ∨ (C = c.ThingIs ∧ S = S_ThingIs_words c) ∨ (C = c.Over ∧ S = S_Over_words c)
def rd_is_whole (K : PySem.W.Frag) (c : Cs) : TDS :=
    (dRet (dAndV (dCB gIsi (dCons (dVar 0) (dCons (dC (.val (.ty "int"))) dNil))) (dNotV (dCB gIsi (dCons (dVar 0) (dCons (dC (.val (.ty "bool"))) dNil))))))
def rd_show_cents (K : PySem.W.Frag) (c : Cs) : TDS :=
    (dSeq (dAsg (dCB gDivmod (dCons (dVar 0) (dCons (dC (.int 100)) dNil))) (dgTup 2 (dgCons (dgN 1) (dgCons (dgN 2) dgNil))))
    (dRet (dOp gAdd (dOp gAdd (dCB gStr (dCons (dVar 1) dNil)) (dC (.str "."))) (dBM "str" gZfill (dCB gStr (dCons (dVar 2) dNil)) (dCons (dC (.int 2)) dNil)))))
def rd_is_name (K : PySem.W.Frag) (c : Cs) : TDS :=
    (dSeq (dIf (dNot (dB (dCB gIsi (dCons (dVar 0) (dCons (dC (.val (.ty "str"))) dNil))))) (dRet (dC (.bl false))) dNext)
    (dSeq (dIf (dOr (dB (dOp gLt (dCB gLen (dCons (dVar 0) dNil)) (dC (.int 1)))) (dB (dOp gGt (dCB gLen (dCons (dVar 0) dNil)) (dC (.int 8))))) (dRet (dC (.bl false))) dNext)
    (dSeq (dFor (dIS (dVar 0)) (dgN 1) (dIf (dB (dOp (gInB true) (dVar 1) (dC (.str "abcdefghijklmnopqrstuvwxyz")))) (dRet (dC (.bl false))) dNext))
    (dRet (dC (.bl true))))))
def rd_is_amount (K : PySem.W.Frag) (c : Cs) : TDS :=
    (dRet (dAndV (dCall (S_is_whole c) (dCons (dVar 0) dNil)) (dChain gLe gLe (dC (.int 0)) (dVar 0) (dC (.int (999999999999))))))
def rd_total_of (K : PySem.W.Frag) (c : Cs) : TDS :=
    (dSeq (dIf (dNot (dB (dCB gIsi (dCons (dVar 0) (dCons (dC (.val (.ty "list"))) dNil))))) (dRaise c.NoShares) dNext)
    (dSeq (dIf (dOr (dB (dOp gLt (dCB gLen (dCons (dVar 0) dNil)) (dC (.int 1)))) (dB (dOp gGt (dCB gLen (dCons (dVar 0) dNil)) (dC (.int (8)))))) (dRaise c.NoShares) dNext)
    (dSeq (dFor (dIL (dVar 0)) (dgN 1) (dIf (dOr (dNot (dB (dCall (S_is_whole c) (dCons (dVar 1) dNil)))) (dB (dOp gLt (dVar 1) (dC (.int 1))))) (dRaise c.NoShares) dNext))
    (dSeq (dSet 2 (dCB gSum (dCons (dVar 0) dNil)))
    (dSeq (dIf (dB (dOp gGt (dVar 2) (dC (.int (100))))) (dRaise c.NoShares) dNext)
    (dRet (dVar 2)))))))
def rd_due_by (K : PySem.W.Frag) (c : Cs) : TDS :=
    (dRet (dUn gNeg (dOp gDiv (dOp gMul (dUn gNeg (dOp gAdd (dVar 0) (dC (.int 1)))) (dVar 2)) (dVar 1))))
def rd_next_place (K : PySem.W.Frag) (c : Cs) : TDS :=
    (dSeq (dSet 4 (dC .non))
    (dSeq (dSet 5 (dC (.int 0)))
    (dSeq (dFor (dIR1 (dCons (dCB gLen (dCons (dVar 0) dNil)) dNil)) (dgN 6) (dIf (dB (dOp gLt (dOp gMul (dOp gIx (dVar 1) (dVar 6)) (dVar 2)) (dOp gMul (dOp gIx (dVar 0) (dVar 6)) (dOp gAdd (dVar 3) (dC (.int 1)))))) (dSeq (dSet 7 (dCall (S_due_by c) (dCons (dOp gIx (dVar 1) (dVar 6)) (dCons (dOp gIx (dVar 0) (dVar 6)) (dCons (dVar 2) dNil)))))
    (dIf (dOr (dB (dOp (gIsB false) (dVar 4) (dC .non))) (dB (dOp gLt (dVar 7) (dVar 5)))) (dSeq (dSet 4 (dVar 6))
    (dSet 5 (dVar 7))) dNext)) dNext))
    (dRet (dVar 4)))))
def rd_turns (K : PySem.W.Frag) (c : Cs) : TDS :=
    (dSeq (dSet 1 (dCall (S_total_of c) (dCons (dVar 0) dNil)))
    (dSeq (dSet 2 (dLcO [6] (dIL (dVar 0)) (.one 6) dYes (dC (.int 0))))
    (dSeq (dSet 3 (dLstO dNil))
    (dSeq (dFor (dIR1 (dCons (dVar 1) dNil)) (dgN 4) (dSeq (dSet 5 (dCall (S_next_place c) (dCons (dVar 0) (dCons (dVar 2) (dCons (dVar 1) (dCons (dVar 4) dNil))))))
    (dSeq (dStore (dVar 2) (dVar 5) (dOp gAdd (dOp gIx (dVar 2) (dVar 5)) (dC (.int 1))))
    (dDrop (dApp (dVar 3) (dVar 5))))))
    (dRet (dVar 3))))))
def rd_need_houses (K : PySem.W.Frag) (c : Cs) : TDS :=
    (dSeq (dSet 1 (dLstO dNil))
    (dSeq (dFor (dIL (dVar 0)) (dgTup 2 (dgCons (dgN 2) (dgCons (dgN 3) dgNil))) (dSeq (dIf (dOr (dNot (dB (dCall (S_is_name c) (dCons (dVar 2) dNil)))) (dB (dOp (gInB false) (dVar 2) (dVar 1)))) (dRaise c.NoCover) dNext)
    (dDrop (dApp (dVar 1) (dVar 2)))))
    (dRet (dVar 1))))
def rd_need_amount (K : PySem.W.Frag) (c : Cs) : TDS :=
    (dSeq (dIf (dNot (dB (dCall (S_is_amount c) (dCons (dVar 0) dNil)))) (dRaise c.NoClause) dNext)
    (dRet (dVar 0)))
def rd_l_cell (K : PySem.W.Frag) (c : Cs) : TDS :=
    (dSeq (dIf (dB (dOp gLt (dVar 1) (dCB gLen (dCons (dVar 0) dNil)))) (dRet (dOp gIx (dVar 0) (dVar 1))) dNext)
    (dRet (dC (.int 0))))
def rd_l_names (K : PySem.W.Frag) (c : Cs) : TDS :=
    (dCut (dSet 1 (dC (.str "abcdefghijklmnopqrstuvwxyz")))
    (dCut (dSet 2 (dLc [7] (dIR1 (dCons (dOp gAdd (dC (.int 1)) (dOp gMod (dVar 0) (dC (.int 8)))) dNil)) (.one 7) dYes (dOp gMod (dOp gAdd (dOp gDiv (dVar 0) (dOp gAdd (dVar 7) (dC (.int 2)))) (dOp gMul (dVar 7) (dVar 7))) (dC (.int 26)))))
    (dCut (dSet 3 (dOp gMod (dOp gDiv (dVar 0) (dC (.int 8))) (dCB gLen (dCons (dVar 2) dNil))))
    (dCut (dSet 4 (dLstO dNil))
    (dCut (dFor (dIR1 (dCons (dC (.int 10)) dNil)) (dgN 5) (dSeq (dSet 6 (dC (.str "")))
    (dSeq (dFor (dIR1 (dCons (dCB gLen (dCons (dVar 2) dNil)) dNil)) (dgN 7) (dSet 6 (dOp gAdd (dVar 6) (dOp gIx (dVar 1) (dOp gMod (dOp gAdd (dOp gIx (dVar 2) (dVar 7)) (dOp gMul (dVar 5) (dCB gInt (dCons (dOp gEq (dVar 7) (dVar 3)) dNil)))) (dC (.int 26)))))))
    (dSeq (dIf (dB (dOp gEq (dVar 6) (dC (.str "self")))) (dSet 6 (dC (.str "selfs"))) dNext)
    (dDrop (dApp (dVar 4) (dVar 6)))))))
    (dRet (dVar 4)))))))
def rd_l_houses (K : PySem.W.Frag) (c : Cs) : TDS :=
    (dCut (dSet 2 (dOp gMod (dCall (S_l_cell c) (dCons (dVar 0) (dCons (dC (.int 4)) dNil))) (dOp gPow (dC (.int 10)) (dC (.int 9)))))
    (dCut (dSet 3 (dOp gAdd (dC (.int 1)) (dOp gMod (dVar 2) (dC (.int 8)))))
    (dCut (dSet 4 (dLstO dNil))
    (dCut (dSet 5 (dOp gSub (dC (.int 100)) (dVar 3)))
    (dCut (dFor (dIR1 (dCons (dVar 3) dNil)) (dgN 6) (dSeq (dSet 7 (dOp gMod (dCall (S_l_cell c) (dCons (dVar 0) (dCons (dOp gAdd (dC (.int 5)) (dVar 6)) dNil))) (dOp gAdd (dCB gMin2 (dCons (dVar 5) (dCons (dC (.int 30)) dNil))) (dC (.int 1)))))
    (dSeq (dSet 5 (dOp gSub (dVar 5) (dVar 7)))
    (dDrop (dApp (dVar 4) (dTup (dCons (dOp gIx (dVar 1) (dOp gMod (dOp gAdd (dVar 6) (dOp gDiv (dVar 2) (dC (.int 8)))) (dC (.int 10)))) (dCons (dOp gAdd (dC (.int 1)) (dVar 7)) dNil))))))))
    (dCut (dIf (dB (dOp gEq (dOp gMod (dOp gDiv (dVar 2) (dC (.int 80))) (dC (.int 4))) (dC (.int 1)))) (dStore (dVar 4) (dOp gMod (dOp gDiv (dVar 2) (dC (.int 320))) (dVar 3)) (dTup (dCons (dC (.str "self")) (dCons (dOp gIx (dOp gIx (dVar 4) (dOp gMod (dOp gDiv (dVar 2) (dC (.int 320))) (dVar 3))) (dC (.int 1))) dNil)))) dNext)
    (dRet (dVar 4))))))))
def rd_Deal_init (K : PySem.W.Frag) (c : Cs) : TDS :=
    (dSeq (dSetF K "wheel" (dVar 0) (dCall (S_turns c) (dCons (dVar 1) dNil)))
    (dSetF K "weights" (dVar 0) (dCB gListF (dCons (dVar 1) dNil))))
def rd_Cover_init (K : PySem.W.Frag) (c : Cs) : TDS :=
    (dSeq (dIf (dOr (dNot (dB (dCall (S_is_name c) (dCons (dVar 1) dNil)))) (dB (dOp gEq (dVar 1) (dC (.str "self"))))) (dRaise c.NoCover) dNext)
    (dSeq (dSetF K "name" (dVar 0) (dVar 1))
    (dSeq (dSetF K "condition" (dVar 0) (dVar 2))
    (dSeq (dSetF K "clauses" (dVar 0) (dLst dNil))
    (dCut (dIf (dB (dOp (gIsB true) (dVar 3) (dC .non))) (dSetF K "clauses" (dVar 0) (dCB gListF (dCons (dVar 3) dNil))) dNext)
    (dSeq (dIf (dB (dOp gGt (dCB gLen (dCons (dFld K "clauses" (dVar 0)) dNil)) (dC (.int (8))))) (dRaise c.NoCover) dNext)
    (dSeq (dSet 6 (dLst (dCons (dTup (dCons (dVar 1) (dCons (dC (.int 1)) dNil))) dNil)))
    (dCut (dIf (dB (dOp (gIsB true) (dVar 4) (dC .non))) (dSet 6 (dVar 4)) dNext)
    (dSeq (dSetF K "houses" (dVar 0) (dCall (S_need_houses c) (dCons (dVar 6) dNil)))
    (dSeq (dSetF K "deal" (dVar 0) (dMake c.Deal [] (S_Deal_init c) (dCons (dLc [7, 8] (dIL (dVar 6)) (.tup [7, 8]) dYes (dVar 8)) dNil)))
    (dSetF K "waits" (dVar 0) (dVar 5))))))))))))
def rd_Over_init (K : PySem.W.Frag) (c : Cs) : TDS :=
    (dSetF K "cents" (dVar 0) (dVar 1))
def rd_l_refused (K : PySem.W.Frag) (c : Cs) : TDS :=
    (dSeq (dTryAs K (.ref c.CoverError) 3 (dDrop (dMake c.Cover [(.bl false)] (S_Cover_init c) (dCons (dVar 0) (dCons (dMake c.Over [] (S_Over_init c) (dCons (dC (.int 5)) dNil)) (dCons (dVar 1) (dCons (dVar 2) dNil)))))) (fun a d C _ => (dSeq (dSet 4 (dLst (dCons (dCB (gIsX K a C d) (dCons (dVar 3) (dCons (dC (.val (.ref c.NoBook))) dNil))) (dCons (dCB (gIsX K a C d) (dCons (dVar 3) (dCons (dC (.val (.ref c.NoClause))) dNil))) (dCons (dCB (gIsX K a C d) (dCons (dVar 3) (dCons (dC (.val (.ref c.NoEntry))) dNil))) dNil)))))
    (dSeq (dSet 5 (dLst (dCons (dCB (gIsX K a C d) (dCons (dVar 3) (dCons (dC (.val (.ref c.NoCover))) dNil))) (dCons (dCB (gIsX K a C d) (dCons (dVar 3) (dCons (dC (.val (.ref c.NoShares))) dNil))) dNil))))
    (dSeq (dIf (dOr (dNot (dB (dCB (gIsX K a C d) (dCons (dVar 3) (dCons (dC (.val (.ty "ValueError"))) dNil))))) (dOr (dB (dOp (gInB false) (dC (.bl true)) (dVar 4))) (dB (dOp gEq (dVar 5) (dLst (dCons (dC (.bl true)) (dCons (dC (.bl true)) dNil))))))) (dRet (dC (.int 3))) dNext)
    (dRet (dIfE (dB (dOp (gInB false) (dC (.bl true)) (dVar 5))) (dOp gAdd (dBM "list" gIndex (dVar 5) (dCons (dC (.bl true)) dNil)) (dC (.int 1))) (dC (.int 4)))))))))
    (dRet (dC (.int 0))))
def rd_l_bad_pairs (K : PySem.W.Frag) (c : Cs) : TDS :=
    (dCut (dSet 3 (dCB gListO (dCons (dVar 0) dNil)))
    (dCut (dSet 4 (dOp gMod (dVar 2) (dCB gLen (dCons (dVar 3) dNil))))
    (dCut (dSet 5 (dOp gIx (dOp gIx (dVar 3) (dOp gMod (dOp gDiv (dVar 2) (dC (.int 8))) (dCB gLen (dCons (dVar 3) dNil)))) (dC (.int 0))))
    (dCut (dSet 6 (dLst (dCons (dC (.str "")) (dCons (dC (.str "Acme")) (dCons (dC (.str "a b")) (dCons (dC (.str "abcdefghi")) (dCons (dC (.int 5)) (dCons (dC .non) (dCons (dC (.bl true)) (dCons (dC (.str "a1")) (dCons (dC (.str "a.b")) (dCons (dC (.str " a")) (dCons (dC (.str "a-")) (dCons (dTup (dCons (dC (.str "a")) dNil)) (dCons (dLst (dCons (dC (.str "b")) dNil)) (dCons (dC (.str "aB")) dNil))))))))))))))))
    (dCut (dIf (dB (dOp gEq (dVar 1) (dC (.int 0)))) (dStore (dVar 3) (dVar 4) (dTup (dCons (dOp gIx (dVar 6) (dOp gMod (dOp gDiv (dVar 2) (dC (.int 64))) (dC (.int 14)))) (dCons (dOp gIx (dOp gIx (dVar 3) (dVar 4)) (dC (.int 1))) dNil)))) dNext)
    (dCut (dIf (dB (dOp gEq (dVar 1) (dC (.int 1)))) (dDrop (dBM "list" gInsert (dVar 3) (dCons (dOp gMod (dOp gDiv (dVar 2) (dC (.int 64))) (dOp gAdd (dCB gLen (dCons (dVar 3) dNil)) (dC (.int 1)))) (dCons (dTup (dCons (dVar 5) (dCons (dC (.int 1)) dNil))) dNil)))) dNext)
    (dCut (dIf (dB (dOp gEq (dVar 1) (dC (.int 2)))) (dStore (dVar 3) (dVar 4) (dTup (dCons (dOp gIx (dOp gIx (dVar 3) (dVar 4)) (dC (.int 0))) (dCons (dOp gIx (dLst (dCons (dC (.int 0)) (dCons (dOp gSub (dUn gNeg (dC (.int 1))) (dOp gMod (dOp gDiv (dVar 2) (dC (.int 64))) (dOp gPow (dC (.int 10)) (dC (.int 9))))) (dCons (dC (.int 101)) (dCons (dC .non) dNil))))) (dOp gMod (dOp gDiv (dVar 2) (dC (.int 64))) (dC (.int 4)))) dNil)))) dNext)
    (dCut (dIf (dB (dOp gEq (dVar 1) (dC (.int 3)))) (dSet 3 (dLstO dNil)) dNext)
    (dCut (dIf (dB (dOp gEq (dVar 1) (dC (.int 4)))) (dSet 3 (dLcO [7] (dIR1 (dCons (dOp gAdd (dC (.int 9)) (dOp gMod (dVar 2) (dC (.int 3)))) dNil)) (.one 7) dYes (dTup (dCons (dOp gIx (dC (.str "abcdefghijk")) (dVar 7)) (dCons (dC (.int 1)) dNil))))) dNext)
    (dCut (dIf (dB (dOp gEq (dVar 1) (dC (.int 5)))) (dDrop (dBM "list" gInsert (dVar 3) (dCons (dC (.int 0)) (dCons (dTup (dCons (dVar 5) (dCons (dC (.int 0)) dNil))) dNil)))) dNext)
    (dRet (dVar 3))))))))))))
def rd_CauseIs_words (K : PySem.W.Frag) (c : Cs) : TDS :=
    (dRet (dLst (dCons (dC (.str "cause")) (dCons (dFld K "name" (dVar 0)) dNil))))
def rd_Deal_counts_to (K : PySem.W.Frag) (c : Cs) : TDS :=
    (dSeq (dAsg (dCB gDivmod (dCons (dVar 1) (dCons (dCB gLen (dCons (dFld K "wheel" (dVar 0)) dNil)) dNil))) (dgTup 2 (dgCons (dgN 2) (dgCons (dgN 3) dgNil))))
    (dSeq (dSet 4 (dLcO [6] (dIL (dFld K "weights" (dVar 0))) (.one 6) dYes (dOp gMul (dVar 2) (dVar 6))))
    (dSeq (dFor (dIL (dSl (dFld K "wheel" (dVar 0)) dNoPart (dPart (dVar 3)))) (dgN 5) (dStore (dVar 4) (dVar 5) (dOp gAdd (dOp gIx (dVar 4) (dVar 5)) (dC (.int 1)))))
    (dRet (dVar 4)))))
def rd_Over_words (K : PySem.W.Frag) (c : Cs) : TDS :=
    (dRet (dLst (dCons (dC (.str "over")) (dCons (dCall (S_show_cents c) (dCons (dFld K "cents" (dVar 0)) dNil)) dNil))))
def rd_Own_words (K : PySem.W.Frag) (c : Cs) : TDS :=
    (dRet (dLst (dCons (dC (.str "own")) (dCons (dFld K "by" (dVar 0)) (dCons (dCall (S_show_cents c) (dCons (dFld K "cents" (dVar 0)) dNil)) dNil)))))
def rd_ThingIs_words (K : PySem.W.Frag) (c : Cs) : TDS :=
    (dRet (dLst (dCons (dC (.str "thing")) (dCons (dFld K "name" (dVar 0)) dNil))))
def rd_l_kept (K : PySem.W.Frag) (c : Cs) : TDS :=
    (dCut (dIf (dOr (dNot (dB (dCB gIsi (dCons (dFld K "name" (dVar 0)) (dCons (dC (.val (.ty "str"))) dNil))))) (dB (dOp gNe (dFld K "name" (dVar 0)) (dVar 1)))) (dRet (dC (.bl false))) dNext)
    (dCut (dIf (dOr (dNot (dB (dCB gIsi (dCons (dFld K "waits" (dVar 0)) (dCons (dC (.val (.ty "bool"))) dNil))))) (dB (dOp gNe (dFld K "waits" (dVar 0)) (dVar 4)))) (dRet (dC (.bl false))) dNext)
    (dCut (dIf (dOr (dNot (dB (dCB gIsi (dCons (dFld K "clauses" (dVar 0)) (dCons (dC (.val (.ty "list"))) dNil))))) (dB (dOp gNe (dLc [8] (dIL (dFld K "clauses" (dVar 0))) (.one 8) dYes (dMeth (R_words c) "words" [] (dVar 8) dNil)) (dVar 2)))) (dRet (dC (.bl false))) dNext)
    (dCut (dIf (dOr (dNot (dB (dCB gIsi (dCons (dFld K "houses" (dVar 0)) (dCons (dC (.val (.ty "list"))) dNil))))) (dB (dOp gNe (dFld K "houses" (dVar 0)) (dLc [6, 7] (dIL (dVar 3)) (.tup [6, 7]) dYes (dVar 6))))) (dRet (dC (.bl false))) dNext)
    (dCut (dSet 5 (dLc [6, 7] (dIL (dVar 3)) (.tup [6, 7]) dYes (dVar 7)))
    (dCut (dIf (dOr (dNot (dB (dCB (gIsC c.Deal) (dCons (dFld K "deal" (dVar 0)) (dCons (dC (.val (.ref c.Deal))) dNil))))) (dB (dOp gNe (dMeth (R_counts_to c) "counts_to" [] (dFld K "deal" (dVar 0)) (dCons (dC (.int 37)) dNil)) (dMeth (R_counts_to c) "counts_to" [] (dMake c.Deal [] (S_Deal_init c) (dCons (dVar 5) dNil)) (dCons (dC (.int 37)) dNil))))) (dRet (dC (.bl false))) dNext)
    (dRet (dOp gEq (dFld K "weights" (dFld K "deal" (dVar 0))) (dVar 5)))))))))
def rd_CauseIs_holds (K : PySem.W.Frag) (c : Cs) : TDS :=
    (dRet (dOp gEq (dOp gIx (dVar 1) (dC (.int 4))) (dFld K "name" (dVar 0))))
def rd_Over_holds (K : PySem.W.Frag) (c : Cs) : TDS :=
    (dRet (dOp gGt (dOp gIx (dVar 1) (dC (.int 5))) (dFld K "cents" (dVar 0))))
def rd_ThingIs_holds (K : PySem.W.Frag) (c : Cs) : TDS :=
    (dRet (dOp gEq (dOp gIx (dVar 1) (dC (.int 3))) (dFld K "name" (dVar 0))))
def rd_Cover_asks (K : PySem.W.Frag) (c : Cs) : TDS :=
    (dRet (dMeth (R_holds c) "holds" [] (dFld K "condition" (dVar 0)) (dCons (dVar 1) dNil)))
def rd_l_asks (K : PySem.W.Frag) (c : Cs) : TDS :=
    (dSeq (dFor (dIL (dLst (dCons (dTup (dCons (dVar 2) (dCons (dC (.str "zzz")) (dCons (dOp gAdd (dVar 3) (dC (.int 1))) dNil)))) (dCons (dTup (dCons (dC (.str "zzz")) (dCons (dVar 2) (dCons (dVar 3) dNil)))) (dCons (dTup (dCons (dC (.str "zzz")) (dCons (dC (.str "yyy")) (dCons (dOp gAdd (dVar 3) (dC (.int 1))) dNil)))) dNil))))) (dgTup 3 (dgCons (dgN 4) (dgCons (dgN 5) (dgCons (dgN 6) dgNil)))) (dSeq (dSet 7 (dOp gIx (dLst (dCons (dOp gEq (dVar 4) (dVar 2)) (dCons (dOp gEq (dVar 5) (dVar 2)) (dCons (dOp gGt (dVar 6) (dVar 3)) dNil)))) (dVar 1)))
    (dSeq (dSet 8 (dMeth (R_asks c) "asks" [] (dVar 0) (dCons (dTup (dCons (dC (.int 7)) (dCons (dC (.int 100)) (dCons (dC (.str "storm")) (dCons (dVar 5) (dCons (dVar 4) (dCons (dVar 6) dNil))))))) dNil)))
    (dIf (dOr (dNot (dB (dCB gIsi (dCons (dVar 8) (dCons (dC (.val (.ty "bool"))) dNil))))) (dB (dOp gNe (dVar 8) (dVar 7)))) (dRet (dC (.bl false))) dNext))))
    (dRet (dC (.bl true))))
def rd_CauseIs_init (K : PySem.W.Frag) (c : Cs) : TDS :=
    (dSetF K "name" (dVar 0) (dVar 1))
def rd_Clause_init (K : PySem.W.Frag) (c : Cs) : TDS :=
    (dSeq (dIf (dB (dOp (gInB true) (dVar 1) (dC c_WAYS))) (dRaise c.NoClause) dNext)
    (dSetF K "by" (dVar 0) (dVar 1)))
def rd_Own_init (K : PySem.W.Frag) (c : Cs) : TDS :=
    (dSeq (dDrop (dCall (S_Clause_init c) (dCons (dVar 0) (dCons (dVar 1) dNil))))
    (dSetF K "cents" (dVar 0) (dCall (S_need_amount c) (dCons (dVar 2) dNil))))
def rd_ThingIs_init (K : PySem.W.Frag) (c : Cs) : TDS :=
    (dSetF K "name" (dVar 0) (dVar 1))
def rd_law (K : PySem.W.Frag) (c : Cs) : TDS :=
    (dCut (dSet 1 (dOp gMod (dCall (S_l_cell c) (dCons (dVar 0) (dCons (dC (.int 0)) dNil))) (dOp gPow (dC (.int 10)) (dC (.int 9)))))
    (dCut (dSet 2 (dCall (S_l_names c) (dCons (dOp gMod (dCall (S_l_cell c) (dCons (dVar 0) (dCons (dC (.int 1)) dNil))) (dC (.int 1000003))) dNil)))
    (dCut (dSet 3 (dOp gIx (dVar 2) (dC (.int 0))))
    (dCut (dSet 4 (dOp gAdd (dC (.int 1)) (dOp gMod (dCall (S_l_cell c) (dCons (dVar 0) (dCons (dC (.int 2)) dNil))) (dOp gPow (dC (.int 10)) (dC (.int 11))))))
    (dCut (dSet 5 (dCall (S_l_houses c) (dCons (dVar 0) (dCons (dVar 2) dNil))))
    (dCut (dSet 6 (dLc [14] (dIR1 (dCons (dOp gMod (dVar 1) (dC (.int 9))) dNil)) (.one 14) dYes (dOp gMod (dOp gAdd (dVar 4) (dOp gMul (dVar 14) (dVar 1))) (dOp gPow (dC (.int 10)) (dC (.int 11))))))
    (dCut (dSet 7 (dLc [20] (dIL (dVar 6)) (.one 20) dYes (dMake c.Own [] (S_Own_init c) (dCons (dC (.str "year")) (dCons (dVar 20) dNil)))))
    (dCut (dSet 8 (dLc [20] (dIL (dVar 7)) (.one 20) dYes (dMeth (R_words c) "words" [] (dVar 20) dNil)))
    (dCut (dSet 9 (dOp gIx (dLst (dCons (dMake c.CauseIs [] (S_CauseIs_init c) (dCons (dVar 3) dNil)) (dCons (dMake c.ThingIs [] (S_ThingIs_init c) (dCons (dVar 3) dNil)) (dCons (dMake c.Over [] (S_Over_init c) (dCons (dVar 4) dNil)) dNil)))) (dOp gMod (dOp gDiv (dVar 1) (dC (.int 9))) (dC (.int 3)))))
    (dCut (dSet 10 (dOp gEq (dOp gMod (dOp gDiv (dVar 1) (dC (.int 27))) (dC (.int 2))) (dC (.int 1))))
    (dCut (dSet 11 (dLst (dCons (dCB gListO (dCons (dVar 7) dNil)) (dCons (dCB gListO (dCons (dVar 5) dNil)) dNil))))
    (dCut (dSet 12 (dMake c.Cover [] (S_Cover_init c) (dCons (dVar 3) (dCons (dVar 9) (dCons (dOp gIx (dVar 11) (dC (.int 0))) (dCons (dOp gIx (dVar 11) (dC (.int 1))) (dCons (dVar 10) dNil)))))))
    (dCut (dSet 13 (dMake c.Cover [.non, .non, (.bl false)] (S_Cover_init c) (dCons (dVar 3) (dCons (dVar 9) dNil))))
    (dCut (dIf (dB (dOp (gEqT false) (dVar 11) (dLst (dCons (dVar 7) (dCons (dVar 5) dNil))))) (dRet (dC (.bl false))) dNext)
    (dCut (dDrop (dApp (dOp gIx (dVar 11) (dC (.int 0))) (dMake c.Own [] (S_Own_init c) (dCons (dC (.str "loss")) (dCons (dC (.int 1)) dNil)))))
    (dCut (dDrop (dApp (dOp gIx (dVar 11) (dC (.int 1))) (dTup (dCons (dC (.str "zz")) (dCons (dC (.int 1)) dNil)))))
    (dCut (dIf (dOr (dNot (dB (dCall (S_l_kept c) (dCons (dVar 12) (dCons (dVar 3) (dCons (dVar 8) (dCons (dVar 5) (dCons (dVar 10) dNil)))))))) (dNot (dB (dCall (S_l_kept c) (dCons (dVar 13) (dCons (dVar 3) (dCons (dLst dNil) (dCons (dLst (dCons (dTup (dCons (dVar 3) (dCons (dC (.int 1)) dNil))) dNil)) (dCons (dC (.bl false)) dNil))))))))) (dRet (dC (.bl false))) dNext)
    (dCut (dIf (dOr (dB (dOp gNe (dMeth (R_words c) "words" [] (dFld K "condition" (dVar 12)) dNil) (dMeth (R_words c) "words" [] (dVar 9) dNil))) (dB (dOp gNe (dMeth (R_words c) "words" [] (dFld K "condition" (dVar 13)) dNil) (dMeth (R_words c) "words" [] (dVar 9) dNil)))) (dRet (dC (.bl false))) dNext)
    (dCut (dIf (dOr (dNot (dB (dCall (S_l_asks c) (dCons (dVar 12) (dCons (dOp gMod (dOp gDiv (dVar 1) (dC (.int 9))) (dC (.int 3))) (dCons (dVar 3) (dCons (dVar 4) dNil))))))) (dNot (dB (dCall (S_l_asks c) (dCons (dVar 13) (dCons (dOp gMod (dOp gDiv (dVar 1) (dC (.int 9))) (dC (.int 3))) (dCons (dVar 3) (dCons (dVar 4) dNil)))))))) (dRet (dC (.bl false))) dNext)
    (dCut (dFor (dIR1 (dCons (dC (.int 6)) dNil)) (dgN 14) (dSeq (dSet 15 (dOp gMod (dCall (S_l_cell c) (dCons (dVar 0) (dCons (dOp gAdd (dC (.int 13)) (dVar 14)) dNil))) (dOp gPow (dC (.int 10)) (dC (.int 12)))))
    (dSeq (dSet 16 (dCall (S_l_bad_pairs c) (dCons (dVar 5) (dCons (dVar 14) (dCons (dVar 15) dNil)))))
    (dSeq (dSet 17 (dOp gIx (dLst (dCons (dC (.int 1)) (dCons (dC (.int 1)) (dCons (dC (.int 2)) (dCons (dC (.int 2)) (dCons (dC (.int 2)) (dCons (dC (.int 1)) dNil))))))) (dVar 14)))
    (dSeq (dIf (dOr (dB (dOp gNe (dCall (S_l_refused c) (dCons (dVar 3) (dCons (dVar 7) (dCons (dVar 16) dNil)))) (dVar 17))) (dB (dOp gNe (dCall (S_l_refused c) (dCons (dVar 3) (dCons (dC .non) (dCons (dVar 16) dNil)))) (dVar 17)))) (dRet (dC (.bl false))) dNext)
    (dSeq (dSet 18 (dOp gIx (dLst (dCons (dC (.str "")) (dCons (dC (.str "self")) (dCons (dC (.str "Acme")) (dCons (dC (.str "a b")) (dCons (dC (.str "abcdefghi")) (dCons (dC (.int 5)) (dCons (dC .non) (dCons (dC (.bl true)) (dCons (dC (.str "a.b")) (dCons (dLst (dCons (dC (.str "a")) dNil)) dNil))))))))))) (dOp gMod (dVar 15) (dC (.int 10)))))
    (dSeq (dSet 19 (dOp gAdd (dVar 7) (dOp gMul (dLst (dCons (dMake c.Own [] (S_Own_init c) (dCons (dC (.str "loss")) (dCons (dC (.int 1)) dNil))) dNil)) (dOp gSub (dC (.int 9)) (dCB gLen (dCons (dVar 7) dNil))))))
    (dSeq (dIf (dOr (dB (dOp gNe (dCall (S_l_refused c) (dCons (dVar 18) (dCons (dVar 7) (dCons (dVar 5) dNil)))) (dC (.int 1)))) (dB (dOp gNe (dCall (S_l_refused c) (dCons (dVar 18) (dCons (dC .non) (dCons (dVar 16) dNil)))) (dC (.int 1))))) (dRet (dC (.bl false))) dNext)
    (dIf (dOr (dB (dOp gNe (dCall (S_l_refused c) (dCons (dVar 3) (dCons (dVar 19) (dCons (dVar 5) dNil)))) (dC (.int 1)))) (dB (dOp gNe (dCall (S_l_refused c) (dCons (dVar 3) (dCons (dVar 19) (dCons (dVar 16) dNil)))) (dC (.int 1))))) (dRet (dC (.bl false))) dNext)))))))))
    (dRet (dOp gEq (dCall (S_l_refused c) (dCons (dVar 3) (dCons (dVar 7) (dCons (dVar 5) dNil)))) (dC (.int 0))))))))))))))))))))))))
end K38
set_option Elab.async false
set_option linter.all false
set_option maxRecDepth 100000
set_option maxHeartbeats 2000000
namespace K38
open PySem PySem.Spec PyProof.Rows L2 DL
section
variable {K : PySem.W.Frag} {mg : Str → Option Value} {c : Cs}
theorem tyC_int : "int" ∈ tyC := by decide
theorem tyC_bool : "bool" ∈ tyC := by decide
theorem tyC_str : "str" ∈ tyC := by decide
theorem tyC_list : "list" ∈ tyC := by decide
theorem r_is_whole : ∀ ds L Q X, S_is_whole c ds L Q X → rd_is_whole K c (dEndB L Q X) (startD ["thing"] ds) L := by
  rintro ds L Q X ⟨d, t, rfl, ht, q⟩
  show rd_is_whole K c (dEndB L Q X) [some d] L
  unfold rd_is_whole
  try simp (config := { maxSteps := 2000000 }) only [dSeq, dNext, dSet, dRet, dRetN, dIf, dDrop, dVar, dC, dOp, dUn, dB, dNot, dAnd, dOr, dAndV, dOrV, dNotV, dIfE, dCB, dNil, dCons, dTup, dLst, dLstO, dCall, dMake, dFld, dSetF, dAsg, dgTup, dgCons, dgNil, dgN, dStore, dApp, dBM, dChain, dSl, dPart, dNoPart, dRaise, dEndB, gI2, gNeg, gAdd, gMul, gEqB, gIsB, gLen, gStr, gInt, gIsi, gIx, gSl, tyM, List.getElem?_cons_zero, List.getElem?_cons_succ, List.set_cons_zero, List.set_cons_succ, Option.some.injEq, exists_eq_left', exists_eq_left, List.cons.injEq, and_true, true_and, D.bl.injEq, D.int.injEq, D.str.injEq, D.own.injEq, D.tup.injEq, List.length_cons, List.length_nil, if_true, if_false, Bool.false_eq_true, reduceIte]
  refine ⟨tyC_int, t, ht, ?_⟩
  have hm := tyS_in ht
  have key : ∀ t ∈ tyN, decide (t = "int") = (isB t "int" && !isB t "bool") := by decide +kernel
  rw [key t hm] at q
  cases e : isB t "int" with
  | false =>
    rw [e] at q
    rw [if_neg Bool.false_ne_true]
    exact bk0 q
  | true =>
    rw [e] at q
    rw [if_pos rfl]
    exact ⟨tyC_bool, t, ht, bk0 q⟩
theorem str_len (i : Int) (h : 0 ≤ i ∧ i ≤ 999999999999) : (Str.ofString (toString i)).length ≤ 12 := toString_length_le h.1 (by decide) (by omega)
theorem zfill_len (s : Str) (h : s.length ≤ 16) : (Txt.zfill s 2).length ≤ 100 := by
  unfold Txt.zfill
  split
  · omega
  · rename_i h2
    have e : ∀ (a b : Str), (a ++ b).cps.size = a.cps.size + b.cps.size := fun a b => by
      show (a.cps ++ b.cps).size = _
      exact Array.size_append
    unfold zfilled Builtin.Str.padded Builtin.Str.strSub
    have h3 : s.cps.size ≤ 16 := h
    split <;> (unfold Str.length; try rw [e]) <;> simp only [Array.size_append, Array.size_replicate, Array.size_extract] <;> (have : (2 : Int).toNat = 2 := rfl) <;> omega
theorem log_lt (i : Int) (h : 0 ≤ i ∧ i ≤ 999999999999) : i.natAbs.log2 < 1920 := by
  have h1 : i.natAbs < 2 ^ 1920 := by
    have h2 : i.natAbs < 2 ^ 40 := by omega
    exact Nat.lt_of_lt_of_le h2 (Nat.pow_le_pow_right (by decide) (by decide))
  by_cases h0 : i.natAbs = 0
  · rw [h0]; decide
  · exact (Nat.log2_lt h0).mpr h1
theorem app_len (a b : Str) : (a ++ b).length = a.length + b.length := by
  show (a.cps ++ b.cps).size = _
  rw [Array.size_append]
  rfl
theorem r_show_cents : ∀ ds L Q X, S_show_cents c ds L Q X → rd_show_cents K c (dEndB L Q X) (startD ["cents", "whole", "part"] ds) L := by
  rintro ds L Q X ⟨i, rfl, ⟨h0, h1⟩, q⟩
  show rd_show_cents K c (dEndB L Q X) [some (.int i), none, none] L
  unfold rd_show_cents
  try simp (config := { maxSteps := 2000000 }) only [dSeq, dNext, dSet, dRet, dRetN, dIf, dDrop, dVar, dC, dOp, dUn, dB, dNot, dAnd, dOr, dAndV, dOrV, dNotV, dIfE, dCB, dNil, dCons, dTup, dLst, dLstO, dCall, dMake, dFld, dSetF, dAsg, dgTup, dgCons, dgNil, dgN, dStore, dApp, dBM, dChain, dSl, dPart, dNoPart, dRaise, dEndB, gI2, gNeg, gAdd, gMul, gEqB, gIsB, gLen, gStr, gInt, gIsi, gIx, gSl, tyM, List.getElem?_cons_zero, List.getElem?_cons_succ, List.set_cons_zero, List.set_cons_succ, Option.some.injEq, exists_eq_left', exists_eq_left, List.cons.injEq, and_true, true_and, D.bl.injEq, D.int.injEq, D.str.injEq, D.own.injEq, D.tup.injEq, List.length_cons, List.length_nil, if_true, if_false, Bool.false_eq_true, reduceIte, gDivmod, gZfill]
  have a1 : 0 ≤ i / 100 ∧ i / 100 ≤ 999999999999 := by omega
  have a2 : 0 ≤ i % 100 ∧ i % 100 ≤ 999999999999 := by omega
  have l1 := str_len _ a1
  have l2 := str_len _ a2
  have l3 := zfill_len (Str.ofString (toString (i % 100))) (by omega)
  refine ⟨i, 100, ⟨rfl, rfl⟩, by decide, _, _, ⟨rfl, rfl⟩, _, _, rfl, rfl, log_lt _ a1, ?_, log_lt _ a2, _, 2, rfl, rfl, by decide +kernel, ?_, bk0 q⟩
  · have : (Str.ofString ".").length = 1 := by decide +kernel
    omega
  · rw [app_len]
    have : (Str.ofString ".").length = 1 := by decide +kernel
    omega
theorem r_is_amount : ∀ ds L Q X, S_is_amount c ds L Q X → rd_is_amount K c (dEndB L Q X) (startD ["thing"] ds) L := by
  rintro ds L Q X ⟨i, rfl, q⟩
  show rd_is_amount K c (dEndB L Q X) [some (.int i)] L
  unfold rd_is_amount
  try simp (config := { maxSteps := 2000000 }) only [dSeq, dNext, dSet, dRet, dRetN, dIf, dDrop, dVar, dC, dOp, dUn, dB, dNot, dAnd, dOr, dAndV, dOrV, dNotV, dIfE, dCB, dNil, dCons, dTup, dLst, dLstO, dCall, dMake, dFld, dSetF, dAsg, dgTup, dgCons, dgNil, dgN, dStore, dApp, dBM, dChain, dSl, dPart, dNoPart, dRaise, dEndB, gI2, gNeg, gAdd, gMul, gEqB, gIsB, gLen, gStr, gInt, gIsi, gIx, gSl, tyM, List.getElem?_cons_zero, List.getElem?_cons_succ, List.set_cons_zero, List.set_cons_succ, Option.some.injEq, exists_eq_left', exists_eq_left, List.cons.injEq, and_true, true_and, D.bl.injEq, D.int.injEq, D.str.injEq, D.own.injEq, D.tup.injEq, List.length_cons, List.length_nil, if_true, if_false, Bool.false_eq_true, reduceIte, S_is_whole]
  refine ⟨_, "int", rfl, rfl, ?_⟩
  rw [if_pos (by decide)]
  by_cases h : 0 ≤ i
  · rw [if_pos (decide_eq_true h)]
    refine bk0 ?_
    rw [show decide (i ≤ 999999999999) = decide (0 ≤ i ∧ i ≤ 999999999999) by simp [h]]
    exact q
  · rw [if_neg (by simp [h])]
    refine bk0 ?_
    rw [show false = decide (0 ≤ i ∧ i ≤ 999999999999) by simp [h]]
    exact q
theorem r_need_amount : ∀ ds L Q X, S_need_amount c ds L Q X → rd_need_amount K c (dEndB L Q X) (startD ["thing"] ds) L := by
  rintro ds L Q X ⟨i, rfl, h, q⟩
  show rd_need_amount K c (dEndB L Q X) [some (.int i)] L
  unfold rd_need_amount
  try simp (config := { maxSteps := 2000000 }) only [dSeq, dNext, dSet, dRet, dRetN, dIf, dDrop, dVar, dC, dOp, dUn, dB, dNot, dAnd, dOr, dAndV, dOrV, dNotV, dIfE, dCB, dNil, dCons, dTup, dLst, dLstO, dCall, dMake, dFld, dSetF, dAsg, dgTup, dgCons, dgNil, dgN, dStore, dApp, dBM, dChain, dSl, dPart, dNoPart, dRaise, dEndB, gI2, gNeg, gAdd, gMul, gEqB, gIsB, gLen, gStr, gInt, gIsi, gIx, gSl, tyM, List.getElem?_cons_zero, List.getElem?_cons_succ, List.set_cons_zero, List.set_cons_succ, Option.some.injEq, exists_eq_left', exists_eq_left, List.cons.injEq, and_true, true_and, D.bl.injEq, D.int.injEq, D.str.injEq, D.own.injEq, D.tup.injEq, List.length_cons, List.length_nil, if_true, if_false, Bool.false_eq_true, reduceIte, S_is_amount]
  rw [if_neg (by simp [h])]
  exact bk0 q
theorem r_Over_init (T : Txt K mg c) : ∀ ds L Q X, S_Over_init c ds L Q X → rd_Over_init K c (dEndB L Q X) (startD ["self", "cents"] ds) L := by
  rintro ds L Q X ⟨k, i, rfl, hk, q⟩
  show rd_Over_init K c (dEndB L Q X) [some (.own k), some (.int i)] L
  unfold rd_Over_init
  try simp (config := { maxSteps := 2000000 }) only [dSeq, dNext, dSet, dRet, dRetN, dIf, dDrop, dVar, dC, dOp, dUn, dB, dNot, dAnd, dOr, dAndV, dOrV, dNotV, dIfE, dCB, dNil, dCons, dTup, dLst, dLstO, dCall, dMake, dFld, dSetF, dAsg, dgTup, dgCons, dgNil, dgN, dStore, dApp, dBM, dChain, dSl, dPart, dNoPart, dRaise, dEndB, gI2, gNeg, gAdd, gMul, gEqB, gIsB, gLen, gStr, gInt, gIsi, gIx, gSl, tyM, List.getElem?_cons_zero, List.getElem?_cons_succ, List.set_cons_zero, List.set_cons_succ, Option.some.injEq, exists_eq_left', exists_eq_left, List.cons.injEq, and_true, true_and, D.bl.injEq, D.int.injEq, D.str.injEq, D.own.injEq, D.tup.injEq, List.length_cons, List.length_nil, if_true, if_false, Bool.false_eq_true, reduceIte]
  refine ⟨k, _, _, rfl, hk, T.f_Over_cents, by decide, _, .wr0 (lt_of_get hk) fun _ => .ins (.cons (.int i) .nil), q⟩
theorem r_CauseIs_init (T : Txt K mg c) : ∀ ds L Q X, S_CauseIs_init c ds L Q X → rd_CauseIs_init K c (dEndB L Q X) (startD ["self", "name"] ds) L := by
  rintro ds L Q X ⟨k, i, rfl, hk, q⟩
  show rd_CauseIs_init K c (dEndB L Q X) [some (.own k), some (.str i)] L
  unfold rd_CauseIs_init
  try simp (config := { maxSteps := 2000000 }) only [dSeq, dNext, dSet, dRet, dRetN, dIf, dDrop, dVar, dC, dOp, dUn, dB, dNot, dAnd, dOr, dAndV, dOrV, dNotV, dIfE, dCB, dNil, dCons, dTup, dLst, dLstO, dCall, dMake, dFld, dSetF, dAsg, dgTup, dgCons, dgNil, dgN, dStore, dApp, dBM, dChain, dSl, dPart, dNoPart, dRaise, dEndB, gI2, gNeg, gAdd, gMul, gEqB, gIsB, gLen, gStr, gInt, gIsi, gIx, gSl, tyM, List.getElem?_cons_zero, List.getElem?_cons_succ, List.set_cons_zero, List.set_cons_succ, Option.some.injEq, exists_eq_left', exists_eq_left, List.cons.injEq, and_true, true_and, D.bl.injEq, D.int.injEq, D.str.injEq, D.own.injEq, D.tup.injEq, List.length_cons, List.length_nil, if_true, if_false, Bool.false_eq_true, reduceIte]
  refine ⟨k, _, _, rfl, hk, T.f_CauseIs_name, by decide, _, .wr0 (lt_of_get hk) fun _ => .ins (.cons (.str i) .nil), q⟩
theorem r_ThingIs_init (T : Txt K mg c) : ∀ ds L Q X, S_ThingIs_init c ds L Q X → rd_ThingIs_init K c (dEndB L Q X) (startD ["self", "name"] ds) L := by
  rintro ds L Q X ⟨k, i, rfl, hk, q⟩
  show rd_ThingIs_init K c (dEndB L Q X) [some (.own k), some (.str i)] L
  unfold rd_ThingIs_init
  try simp (config := { maxSteps := 2000000 }) only [dSeq, dNext, dSet, dRet, dRetN, dIf, dDrop, dVar, dC, dOp, dUn, dB, dNot, dAnd, dOr, dAndV, dOrV, dNotV, dIfE, dCB, dNil, dCons, dTup, dLst, dLstO, dCall, dMake, dFld, dSetF, dAsg, dgTup, dgCons, dgNil, dgN, dStore, dApp, dBM, dChain, dSl, dPart, dNoPart, dRaise, dEndB, gI2, gNeg, gAdd, gMul, gEqB, gIsB, gLen, gStr, gInt, gIsi, gIx, gSl, tyM, List.getElem?_cons_zero, List.getElem?_cons_succ, List.set_cons_zero, List.set_cons_succ, Option.some.injEq, exists_eq_left', exists_eq_left, List.cons.injEq, and_true, true_and, D.bl.injEq, D.int.injEq, D.str.injEq, D.own.injEq, D.tup.injEq, List.length_cons, List.length_nil, if_true, if_false, Bool.false_eq_true, reduceIte]
  refine ⟨k, _, _, rfl, hk, T.f_ThingIs_name, by decide, _, .wr0 (lt_of_get hk) fun _ => .ins (.cons (.str i) .nil), q⟩
theorem r_CauseIs_holds (T : Txt K mg c) : ∀ ds L Q X, S_CauseIs_holds c ds L Q X → rd_CauseIs_holds K c (dEndB L Q X) (startD ["self", "loss"] ds) L := by
  rintro ds L Q X ⟨o, s, th, ca, n, rfl, ho, q⟩
  show rd_CauseIs_holds K c (dEndB L Q X) [some o, some (lossD th ca n)] L
  unfold rd_CauseIs_holds lossD
  try simp (config := { maxSteps := 2000000 }) only [dSeq, dNext, dSet, dRet, dRetN, dIf, dDrop, dVar, dC, dOp, dUn, dB, dNot, dAnd, dOr, dAndV, dOrV, dNotV, dIfE, dCB, dNil, dCons, dTup, dLst, dLstO, dCall, dMake, dFld, dSetF, dAsg, dgTup, dgCons, dgNil, dgN, dStore, dApp, dBM, dChain, dSl, dPart, dNoPart, dRaise, dEndB, gI2, gNeg, gAdd, gMul, gEqB, gIsB, gLen, gStr, gInt, gIsi, gIx, gSl, tyM, List.getElem?_cons_zero, List.getElem?_cons_succ, List.set_cons_zero, List.set_cons_succ, Option.some.injEq, exists_eq_left', exists_eq_left, List.cons.injEq, and_true, true_and, D.bl.injEq, D.int.injEq, D.str.injEq, D.own.injEq, D.tup.injEq, List.length_cons, List.length_nil, if_true, if_false, Bool.false_eq_true, reduceIte]
  refine ⟨_, .str ca, rfl, rfl, _, _, .str s, ho, T.f_CauseIs_name, rfl, ?_⟩
  exact bk0 (d := .bl (xor false (decide (ca = s)))) (by rw [Bool.false_xor]; exact q)
theorem r_ThingIs_holds (T : Txt K mg c) : ∀ ds L Q X, S_ThingIs_holds c ds L Q X → rd_ThingIs_holds K c (dEndB L Q X) (startD ["self", "loss"] ds) L := by
  rintro ds L Q X ⟨o, s, th, ca, n, rfl, ho, q⟩
  show rd_ThingIs_holds K c (dEndB L Q X) [some o, some (lossD th ca n)] L
  unfold rd_ThingIs_holds lossD
  try simp (config := { maxSteps := 2000000 }) only [dSeq, dNext, dSet, dRet, dRetN, dIf, dDrop, dVar, dC, dOp, dUn, dB, dNot, dAnd, dOr, dAndV, dOrV, dNotV, dIfE, dCB, dNil, dCons, dTup, dLst, dLstO, dCall, dMake, dFld, dSetF, dAsg, dgTup, dgCons, dgNil, dgN, dStore, dApp, dBM, dChain, dSl, dPart, dNoPart, dRaise, dEndB, gI2, gNeg, gAdd, gMul, gEqB, gIsB, gLen, gStr, gInt, gIsi, gIx, gSl, tyM, List.getElem?_cons_zero, List.getElem?_cons_succ, List.set_cons_zero, List.set_cons_succ, Option.some.injEq, exists_eq_left', exists_eq_left, List.cons.injEq, and_true, true_and, D.bl.injEq, D.int.injEq, D.str.injEq, D.own.injEq, D.tup.injEq, List.length_cons, List.length_nil, if_true, if_false, Bool.false_eq_true, reduceIte]
  refine ⟨_, .str th, rfl, rfl, _, _, .str s, ho, T.f_ThingIs_name, rfl, ?_⟩
  exact bk0 (d := .bl (xor false (decide (th = s)))) (by rw [Bool.false_xor]; exact q)
theorem r_Over_holds (T : Txt K mg c) : ∀ ds L Q X, S_Over_holds c ds L Q X → rd_Over_holds K c (dEndB L Q X) (startD ["self", "loss"] ds) L := by
  rintro ds L Q X ⟨o, i, th, ca, n, rfl, ho, q⟩
  show rd_Over_holds K c (dEndB L Q X) [some o, some (lossD th ca n)] L
  unfold rd_Over_holds lossD
  try simp (config := { maxSteps := 2000000 }) only [dSeq, dNext, dSet, dRet, dRetN, dIf, dDrop, dVar, dC, dOp, dUn, dB, dNot, dAnd, dOr, dAndV, dOrV, dNotV, dIfE, dCB, dNil, dCons, dTup, dLst, dLstO, dCall, dMake, dFld, dSetF, dAsg, dgTup, dgCons, dgNil, dgN, dStore, dApp, dBM, dChain, dSl, dPart, dNoPart, dRaise, dEndB, gI2, gNeg, gAdd, gMul, gEqB, gIsB, gLen, gStr, gInt, gIsi, gIx, gSl, tyM, List.getElem?_cons_zero, List.getElem?_cons_succ, List.set_cons_zero, List.set_cons_succ, Option.some.injEq, exists_eq_left', exists_eq_left, List.cons.injEq, and_true, true_and, D.bl.injEq, D.int.injEq, D.str.injEq, D.own.injEq, D.tup.injEq, List.length_cons, List.length_nil, if_true, if_false, Bool.false_eq_true, reduceIte]
  refine ⟨_, .int n, rfl, rfl, _, _, .int i, ho, T.f_Over_cents, rfl, ?_⟩
  try simp (config := { maxSteps := 2000000 }) only [dSeq, dNext, dSet, dRet, dRetN, dIf, dDrop, dVar, dC, dOp, dUn, dB, dNot, dAnd, dOr, dAndV, dOrV, dNotV, dIfE, dCB, dNil, dCons, dTup, dLst, dLstO, dCall, dMake, dFld, dSetF, dAsg, dgTup, dgCons, dgNil, dgN, dStore, dApp, dBM, dChain, dSl, dPart, dNoPart, dRaise, dEndB, gI2, gNeg, gAdd, gMul, gEqB, gIsB, gLen, gStr, gInt, gIsi, gIx, gSl, tyM, List.getElem?_cons_zero, List.getElem?_cons_succ, List.set_cons_zero, List.set_cons_succ, Option.some.injEq, exists_eq_left', exists_eq_left, List.cons.injEq, and_true, true_and, D.bl.injEq, D.int.injEq, D.str.injEq, D.own.injEq, D.tup.injEq, List.length_cons, List.length_nil, if_true, if_false, Bool.false_eq_true, reduceIte]
  exact bk0 q
theorem r_Own_words (T : Txt K mg c) : ∀ ds L Q X, S_Own_words c ds L Q X → rd_Own_words K c (dEndB L Q X) (startD ["self"] ds) L := by
  rintro ds L Q X ⟨o, s, i, rfl, ho, hi, q⟩
  show rd_Own_words K c (dEndB L Q X) [some o] L
  unfold rd_Own_words
  try simp (config := { maxSteps := 2000000 }) only [dSeq, dNext, dSet, dRet, dRetN, dIf, dDrop, dVar, dC, dOp, dUn, dB, dNot, dAnd, dOr, dAndV, dOrV, dNotV, dIfE, dCB, dNil, dCons, dTup, dLst, dLstO, dCall, dMake, dFld, dSetF, dAsg, dgTup, dgCons, dgNil, dgN, dStore, dApp, dBM, dChain, dSl, dPart, dNoPart, dRaise, dEndB, gI2, gNeg, gAdd, gMul, gEqB, gIsB, gLen, gStr, gInt, gIsi, gIx, gSl, tyM, List.getElem?_cons_zero, List.getElem?_cons_succ, List.set_cons_zero, List.set_cons_succ, Option.some.injEq, exists_eq_left', exists_eq_left, List.cons.injEq, and_true, true_and, D.bl.injEq, D.int.injEq, D.str.injEq, D.own.injEq, D.tup.injEq, List.length_cons, List.length_nil, if_true, if_false, Bool.false_eq_true, reduceIte, S_show_cents]
  exact ⟨_, _, .str s, ho, T.f_Own_by, rfl, _, _, .int i, ho, T.f_Own_cents, rfl, i, rfl, hi, by decide, bk0 q⟩
theorem r_Over_words (T : Txt K mg c) : ∀ ds L Q X, S_Over_words c ds L Q X → rd_Over_words K c (dEndB L Q X) (startD ["self"] ds) L := by
  rintro ds L Q X ⟨o, i, rfl, ho, hi, q⟩
  show rd_Over_words K c (dEndB L Q X) [some o] L
  unfold rd_Over_words
  try simp (config := { maxSteps := 2000000 }) only [dSeq, dNext, dSet, dRet, dRetN, dIf, dDrop, dVar, dC, dOp, dUn, dB, dNot, dAnd, dOr, dAndV, dOrV, dNotV, dIfE, dCB, dNil, dCons, dTup, dLst, dLstO, dCall, dMake, dFld, dSetF, dAsg, dgTup, dgCons, dgNil, dgN, dStore, dApp, dBM, dChain, dSl, dPart, dNoPart, dRaise, dEndB, gI2, gNeg, gAdd, gMul, gEqB, gIsB, gLen, gStr, gInt, gIsi, gIx, gSl, tyM, List.getElem?_cons_zero, List.getElem?_cons_succ, List.set_cons_zero, List.set_cons_succ, Option.some.injEq, exists_eq_left', exists_eq_left, List.cons.injEq, and_true, true_and, D.bl.injEq, D.int.injEq, D.str.injEq, D.own.injEq, D.tup.injEq, List.length_cons, List.length_nil, if_true, if_false, Bool.false_eq_true, reduceIte, S_show_cents]
  exact ⟨_, _, .int i, ho, T.f_Over_cents, rfl, i, rfl, hi, by decide, bk0 q⟩
theorem r_CauseIs_words (T : Txt K mg c) : ∀ ds L Q X, S_CauseIs_words c ds L Q X → rd_CauseIs_words K c (dEndB L Q X) (startD ["self"] ds) L := by
  rintro ds L Q X ⟨o, s, rfl, ho, q⟩
  show rd_CauseIs_words K c (dEndB L Q X) [some o] L
  unfold rd_CauseIs_words
  try simp (config := { maxSteps := 2000000 }) only [dSeq, dNext, dSet, dRet, dRetN, dIf, dDrop, dVar, dC, dOp, dUn, dB, dNot, dAnd, dOr, dAndV, dOrV, dNotV, dIfE, dCB, dNil, dCons, dTup, dLst, dLstO, dCall, dMake, dFld, dSetF, dAsg, dgTup, dgCons, dgNil, dgN, dStore, dApp, dBM, dChain, dSl, dPart, dNoPart, dRaise, dEndB, gI2, gNeg, gAdd, gMul, gEqB, gIsB, gLen, gStr, gInt, gIsi, gIx, gSl, tyM, List.getElem?_cons_zero, List.getElem?_cons_succ, List.set_cons_zero, List.set_cons_succ, Option.some.injEq, exists_eq_left', exists_eq_left, List.cons.injEq, and_true, true_and, D.bl.injEq, D.int.injEq, D.str.injEq, D.own.injEq, D.tup.injEq, List.length_cons, List.length_nil, if_true, if_false, Bool.false_eq_true, reduceIte]
  exact ⟨_, _, .str s, ho, T.f_CauseIs_name, rfl, by decide, bk0 q⟩
theorem r_ThingIs_words (T : Txt K mg c) : ∀ ds L Q X, S_ThingIs_words c ds L Q X → rd_ThingIs_words K c (dEndB L Q X) (startD ["self"] ds) L := by
  rintro ds L Q X ⟨o, s, rfl, ho, q⟩
  show rd_ThingIs_words K c (dEndB L Q X) [some o] L
  unfold rd_ThingIs_words
  try simp (config := { maxSteps := 2000000 }) only [dSeq, dNext, dSet, dRet, dRetN, dIf, dDrop, dVar, dC, dOp, dUn, dB, dNot, dAnd, dOr, dAndV, dOrV, dNotV, dIfE, dCB, dNil, dCons, dTup, dLst, dLstO, dCall, dMake, dFld, dSetF, dAsg, dgTup, dgCons, dgNil, dgN, dStore, dApp, dBM, dChain, dSl, dPart, dNoPart, dRaise, dEndB, gI2, gNeg, gAdd, gMul, gEqB, gIsB, gLen, gStr, gInt, gIsi, gIx, gSl, tyM, List.getElem?_cons_zero, List.getElem?_cons_succ, List.set_cons_zero, List.set_cons_succ, Option.some.injEq, exists_eq_left', exists_eq_left, List.cons.injEq, and_true, true_and, D.bl.injEq, D.int.injEq, D.str.injEq, D.own.injEq, D.tup.injEq, List.length_cons, List.length_nil, if_true, if_false, Bool.false_eq_true, reduceIte]
  exact ⟨_, _, .str s, ho, T.f_ThingIs_name, rfl, by decide, bk0 q⟩
theorem ways_in {s : Str} (h : s ∈ ways) (L : LH) : inD (.str s) [.str "event", .str "thing", .str "year", .str "loss"] = true := by
  unfold ways at h
  simp only [List.mem_cons, List.not_mem_nil, or_false] at h
  rcases h with rfl | rfl | rfl | rfl <;> decide +kernel
theorem r_Clause_init (T : Txt K mg c) : ∀ ds L Q X, S_Clause_init c ds L Q X → rd_Clause_init K c (dEndB L Q X) (startD ["self", "by"] ds) L := by
  rintro ds L Q X ⟨k, s, rfl, hs, hk, q⟩
  show rd_Clause_init K c (dEndB L Q X) [some (.own k), some (.str s)] L
  unfold rd_Clause_init
  try simp (config := { maxSteps := 2000000 }) only [dSeq, dNext, dSet, dRet, dRetN, dIf, dDrop, dVar, dC, dOp, dUn, dB, dNot, dAnd, dOr, dAndV, dOrV, dNotV, dIfE, dCB, dNil, dCons, dTup, dLst, dLstO, dCall, dMake, dFld, dSetF, dAsg, dgTup, dgCons, dgNil, dgN, dStore, dApp, dBM, dChain, dSl, dPart, dNoPart, dRaise, dEndB, gI2, gNeg, gAdd, gMul, gEqB, gIsB, gLen, gStr, gInt, gIsi, gIx, gSl, tyM, List.getElem?_cons_zero, List.getElem?_cons_succ, List.set_cons_zero, List.set_cons_succ, Option.some.injEq, exists_eq_left', exists_eq_left, List.cons.injEq, and_true, true_and, D.bl.injEq, D.int.injEq, D.str.injEq, D.own.injEq, D.tup.injEq, List.length_cons, List.length_nil, if_true, if_false, Bool.false_eq_true, reduceIte, gInB, c_WAYS]
  refine ⟨_, rfl, rfl, rfl, ?_⟩
  rw [ways_in hs L, if_neg (by decide)]
  exact ⟨k, _, _, rfl, hk, T.f_Own_by, by decide, _, .wr0 (lt_of_get hk) fun _ => .ins (.cons (.str s) .nil), q⟩
theorem r_Own_init (T : Txt K mg c) : ∀ ds L Q X, S_Own_init c ds L Q X → rd_Own_init K c (dEndB L Q X) (startD ["self", "by", "cents"] ds) L := by
  rintro ds L Q X ⟨k, s, i, rfl, hs, hi, hk, q⟩
  show rd_Own_init K c (dEndB L Q X) [some (.own k), some (.str s), some (.int i)] L
  unfold rd_Own_init
  try simp (config := { maxSteps := 2000000 }) only [dSeq, dNext, dSet, dRet, dRetN, dIf, dDrop, dVar, dC, dOp, dUn, dB, dNot, dAnd, dOr, dAndV, dOrV, dNotV, dIfE, dCB, dNil, dCons, dTup, dLst, dLstO, dCall, dMake, dFld, dSetF, dAsg, dgTup, dgCons, dgNil, dgN, dStore, dApp, dBM, dChain, dSl, dPart, dNoPart, dRaise, dEndB, gI2, gNeg, gAdd, gMul, gEqB, gIsB, gLen, gStr, gInt, gIsi, gIx, gSl, tyM, List.getElem?_cons_zero, List.getElem?_cons_succ, List.set_cons_zero, List.set_cons_succ, Option.some.injEq, exists_eq_left', exists_eq_left, List.cons.injEq, and_true, true_and, D.bl.injEq, D.int.injEq, D.str.injEq, D.own.injEq, D.tup.injEq, List.length_cons, List.length_nil, if_true, if_false, Bool.false_eq_true, reduceIte, S_Clause_init, S_need_amount]
  refine ⟨k, s, ⟨rfl, rfl⟩, hs, hk, hi, k, _, _, rfl, get_set hk, T.f_Own_cents, (by show 1 < 1000; decide), _, ?_, q⟩
  rw [List.set_set]
  exact .wr0 (lt_of_get hk) fun _ => .ins (.cons (.str s) (.cons (.int i) .nil))
end
end K38
set_option Elab.async false
set_option linter.all false
set_option maxRecDepth 100000
set_option maxHeartbeats 2000000
namespace K38
open PySem PySem.Spec PyProof.Rows L2 DL
section
variable {K : PySem.W.Frag} {mg : Str → Option Value} {c : Cs}
theorem letters_eq : (Str.ofString "abcdefghijklmnopqrstuvwxyz").cps.toList = List.range' 97 26 := by decide +kernel
theorem letters_in (n : Nat) : decide (n ∈ (Str.ofString "abcdefghijklmnopqrstuvwxyz").cps.toList) = letter n := by
  rw [letters_eq]
  unfold letter
  exact decide_eq_decide.mpr ⟨fun h => by rw [List.mem_range'_1] at h; omega, fun h => by rw [List.mem_range'_1]; omega⟩
theorem nameS_no {s : Str} {i c0 : Nat} (h : s.cps[i]? = some c0) (hl : letter c0 = false) : nameS s = false := by
  unfold nameS
  rw [show s.cps.toList.all letter = false from ?_, Bool.and_false]
  rw [List.all_eq_false]
  refine ⟨c0, ?_, by rw [hl]; exact Bool.false_ne_true⟩
  rw [Array.getElem?_eq_some_iff] at h
  obtain ⟨h1, h2⟩ := h
  rw [← h2]
  exact Array.getElem_mem_toList h1
theorem nameS_yes {s : Str} (h1 : 1 ≤ s.length) (h2 : s.length ≤ 8) (h : ∀ j, j < s.cps.size → ∀ c0, s.cps[j]? = some c0 → letter c0 = true) : nameS s = true := by
  unfold nameS
  have e1 : decide (1 ≤ s.cps.size) = true := decide_eq_true h1
  have e2 : decide (s.cps.size ≤ 8) = true := decide_eq_true h2
  rw [e1, e2, Bool.true_and, Bool.true_and, List.all_eq_true]
  intro x hx
  obtain ⟨j, hj, e⟩ := List.getElem_of_mem hx
  have hj' : j < s.cps.size := by simpa using hj
  exact h j hj' x (by rw [Array.getElem?_eq_getElem hj']; simpa using e)
theorem r_is_name : ∀ ds L Q X, S_is_name c ds L Q X → rd_is_name K c (dEndB L Q X) (startD ["thing", "sign"] ds) L := by
  rintro ds L Q X ⟨d, t, rfl, ht, hs, q⟩
  show rd_is_name K c (dEndB L Q X) [some d, none] L
  unfold rd_is_name
  try simp (config := { maxSteps := 2000000 }) only [dSeq, dNext, dSet, dRet, dRetN, dIf, dDrop, dVar, dC, dOp, dUn, dB, dNot, dAnd, dOr, dAndV, dOrV, dNotV, dIfE, dCB, dNil, dCons, dTup, dLst, dLstO, dCall, dMake, dFld, dSetF, dAsg, dgTup, dgCons, dgNil, dgN, dStore, dApp, dBM, dChain, dSl, dPart, dNoPart, dRaise, dEndB, gI2, gNeg, gAdd, gMul, gEqB, gIsB, gLen, gStr, gInt, gIsi, gIx, gSl, tyM, List.getElem?_cons_zero, List.getElem?_cons_succ, List.set_cons_zero, List.set_cons_succ, Option.some.injEq, exists_eq_left', exists_eq_left, List.cons.injEq, and_true, true_and, D.bl.injEq, D.int.injEq, D.str.injEq, D.own.injEq, D.tup.injEq, List.length_cons, List.length_nil, if_true, if_false, Bool.false_eq_true, reduceIte, dFor, dIS]
  refine ⟨tyC_str, t, ht, ?_⟩
  have hm := tyS_in ht
  by_cases e : t = "str"
  · subst e
    have hd : ∃ s, d = .str s := by
      cases d with
      | str s => exact ⟨s, rfl⟩
      | own k =>
        unfold tyS at ht
        dsimp only at ht
        split at ht <;> first | (cases ht; done) | (simp at ht)
      | _ => simp [tyS] at ht
    obtain ⟨s, rfl⟩ := hd
    rw [if_neg (by decide)]
    dsimp only
    have hl := hs s rfl
    refine ⟨by omega, ?_⟩
    have nm : nameOk (.str s) = nameS s := rfl
    rw [nm] at q
    by_cases h1 : s.length < 1
    · have hz : nameS s = false := by unfold nameS; rw [show decide (1 ≤ s.cps.size) = false from decide_eq_false (by show ¬ 1 ≤ s.length; omega)]; rfl
      rw [hz] at q
      rw [if_pos (by simp; omega)]
      exact bk0 q
    · rw [if_neg (by simp; omega)]
      refine ⟨by omega, ?_⟩
      by_cases h2 : 8 < s.length
      · have hz : nameS s = false := by unfold nameS; rw [show decide (s.cps.size ≤ 8) = false from decide_eq_false (by show ¬ s.length ≤ 8; omega)]; simp
        rw [hz] at q
        rw [if_pos (by simp; omega)]
        exact bk0 q
      · rw [if_neg (by simp; omega)]
        refine ⟨s, rfl, fun i env L' => L' = L ∧ (∃ o, env = [some (.str s), o]) ∧ ∀ j, j < i → ∀ c0, s.cps[j]? = some c0 → letter c0 = true, ⟨rfl, ⟨_, rfl⟩, fun j hj => absurd hj (Nat.not_lt_zero _)⟩, fun _ _ _ _ => trivial, ?_, ?_⟩
        · rintro i env L' x hi hx ⟨rfl, ⟨o, rfl⟩, hj⟩
          unfold sgn at hx
          cases e : s.cps[i]? with
          | none => rw [e] at hx; cases hx
          | some c0 =>
            rw [e] at hx
            obtain rfl : D.str ⟨#[c0]⟩ = x := Option.some.inj hx
            try simp (config := { maxSteps := 2000000 }) only [dSeq, dNext, dSet, dRet, dRetN, dIf, dDrop, dVar, dC, dOp, dUn, dB, dNot, dAnd, dOr, dAndV, dOrV, dNotV, dIfE, dCB, dNil, dCons, dTup, dLst, dLstO, dCall, dMake, dFld, dSetF, dAsg, dgTup, dgCons, dgNil, dgN, dStore, dApp, dBM, dChain, dSl, dPart, dNoPart, dRaise, dEndB, gI2, gNeg, gAdd, gMul, gEqB, gIsB, gLen, gStr, gInt, gIsi, gIx, gSl, tyM, List.getElem?_cons_zero, List.getElem?_cons_succ, List.set_cons_zero, List.set_cons_succ, Option.some.injEq, exists_eq_left', exists_eq_left, List.cons.injEq, and_true, true_and, D.bl.injEq, D.int.injEq, D.str.injEq, D.own.injEq, D.tup.injEq, List.length_cons, List.length_nil, if_true, if_false, Bool.false_eq_true, reduceIte, gInB]
            refine ⟨c0, rfl, ?_⟩
            rw [letters_in]
            cases el : letter c0 with
            | false =>
              rw [nameS_no e el] at q
              rw [if_pos (by decide)]
              exact bk0 q
            | true =>
              rw [if_neg (by decide)]
              refine ⟨⟨_, rfl⟩, fun j hj' c1 h1 => ?_⟩
              by_cases ej : j = i
              · subst ej
                rw [e] at h1
                cases h1
                exact el
              · exact hj j (by omega) c1 h1
        · rintro env L' ⟨rfl, ⟨o, rfl⟩, hj⟩
          rw [nameS_yes (by omega) (by omega) hj] at q
          exact bk0 q
  · have key : ∀ t ∈ tyN, t ≠ "str" → isB t "str" = false := by decide +kernel
    rw [key t hm e, if_pos (by decide)]
    have : nameOk d = false := by
      cases d with
      | str s => exact absurd (Option.some.inj ht).symm e
      | _ => rfl
    rw [this] at q
    exact bk0 q
end
end K38
set_option Elab.async false
set_option linter.all false
set_option maxRecDepth 100000
set_option maxHeartbeats 2000000
namespace K38
open PySem PySem.Spec PyProof.Rows L2 DL
section
variable {K : PySem.W.Frag} {mg : Str → Option Value} {c : Cs}
theorem goodW_some {d : D} {w : Int} (h : goodW d = some w) : d = .int w ∧ 1 ≤ w := by
  cases d with
  | int i =>
    unfold goodW at h
    dsimp only at h
    split at h
    · cases h; exact ⟨rfl, by assumption⟩
    · cases h
  | _ => cases h
theorem goodWs_spec : ∀ {ds : List D} {ws : List Int}, goodWs ds = some ws → ds = ws.map .int ∧ ∀ w ∈ ws, 1 ≤ w
  | [], ws, h => by cases h; exact ⟨rfl, fun _ h => by cases h⟩
  | d :: ds, ws, h => by
    unfold goodWs at h
    split at h
    · rename_i w ws' h1 h2
      cases h
      obtain ⟨e1, e2⟩ := goodW_some h1
      obtain ⟨e3, e4⟩ := goodWs_spec h2
      subst e1
      exact ⟨by rw [e3]; rfl, fun x hx => by
        rcases List.mem_cons.mp hx with rfl | hx
        · exact e2
        · exact e4 x hx⟩
    · cases h
theorem goodWs_none : ∀ {ds : List D} {i : Nat} {x : D}, ds[i]? = some x → goodW x = none → goodWs ds = none
  | [], _, _, h, _ => by simp at h
  | d :: ds, 0, x, h, hx => by
    simp at h
    subst h
    unfold goodWs
    rw [hx]
  | d :: ds, i + 1, x, h, hx => by
    have := goodWs_none (ds := ds) (i := i) (by simpa using h) hx
    unfold goodWs
    rw [this]
    split <;> first | rfl | (rename_i a b; cases b)
theorem goodWs_all : ∀ {ds : List D}, (∀ (i : Nat) (x : D), ds[i]? = some x → ∃ w, goodW x = some w) → ∃ ws, goodWs ds = some ws
  | [], _ => ⟨[], rfl⟩
  | d :: ds, h => by
    obtain ⟨w, hw⟩ := h 0 d rfl
    obtain ⟨ws, hws⟩ := goodWs_all (ds := ds) fun i x hx => h (i + 1) x (by simpa using hx)
    exact ⟨w :: ws, by unfold goodWs; rw [hw, hws]⟩
theorem map_sum (ws : List Int) : ws.sum = ws.sum := rfl
theorem r_total_of : ∀ ds L Q X, S_total_of c ds L Q X → rd_total_of K c (dEndB L Q X) (startD ["weights", "weight", "total"] ds) L := by
  rintro ds L Q X ⟨d, ws, rfl, hd, ht, hl, hty, q⟩
  show rd_total_of K c (dEndB L Q X) [some d, none, none] L
  unfold rd_total_of
  try simp (config := { maxSteps := 2000000 }) only [dSeq, dNext, dSet, dRet, dRetN, dIf, dDrop, dVar, dC, dOp, dUn, dB, dNot, dAnd, dOr, dAndV, dOrV, dNotV, dIfE, dCB, dNil, dCons, dTup, dLst, dLstO, dCall, dMake, dFld, dSetF, dAsg, dgTup, dgCons, dgNil, dgN, dStore, dApp, dBM, dChain, dSl, dPart, dNoPart, dRaise, dEndB, gI2, gNeg, gAdd, gMul, gEqB, gIsB, gStr, gInt, gIsi, tyM, List.getElem?_cons_zero, List.getElem?_cons_succ, List.set_cons_zero, List.set_cons_succ, Option.some.injEq, exists_eq_left', exists_eq_left, List.cons.injEq, and_true, true_and, D.bl.injEq, D.int.injEq, D.str.injEq, D.own.injEq, D.tup.injEq, List.length_cons, List.length_nil, if_true, if_false, Bool.false_eq_true, reduceIte, dFor, dIL, S_is_whole]
  refine ⟨tyC_list, "list", ht, ?_⟩
  rw [if_neg (by decide)]
  refine gLen_lst hd ?_
  try simp (config := { maxSteps := 2000000 }) only [dSeq, dNext, dSet, dRet, dRetN, dIf, dDrop, dVar, dC, dOp, dUn, dB, dNot, dAnd, dOr, dAndV, dOrV, dNotV, dIfE, dCB, dNil, dCons, dTup, dLst, dLstO, dCall, dMake, dFld, dSetF, dAsg, dgTup, dgCons, dgNil, dgN, dStore, dApp, dBM, dChain, dSl, dPart, dNoPart, dRaise, dEndB, gI2, gNeg, gAdd, gMul, gEqB, gIsB, gStr, gInt, gIsi, tyM, List.getElem?_cons_zero, List.getElem?_cons_succ, List.set_cons_zero, List.set_cons_succ, Option.some.injEq, exists_eq_left', exists_eq_left, List.cons.injEq, and_true, true_and, D.bl.injEq, D.int.injEq, D.str.injEq, D.own.injEq, D.tup.injEq, List.length_cons, List.length_nil, if_true, if_false, Bool.false_eq_true, reduceIte]
  by_cases h1 : ws.length < 1
  · have : totalOf ws = none := by unfold totalOf; rw [if_pos (Or.inl h1)]
    rw [this] at q
    rw [if_pos (by simp; omega)]
    exact bx0 q
  · rw [if_neg (by simp; omega)]
    refine gLen_lst hd ?_
    try simp (config := { maxSteps := 2000000 }) only [dSeq, dNext, dSet, dRet, dRetN, dIf, dDrop, dVar, dC, dOp, dUn, dB, dNot, dAnd, dOr, dAndV, dOrV, dNotV, dIfE, dCB, dNil, dCons, dTup, dLst, dLstO, dCall, dMake, dFld, dSetF, dAsg, dgTup, dgCons, dgNil, dgN, dStore, dApp, dBM, dChain, dSl, dPart, dNoPart, dRaise, dEndB, gI2, gNeg, gAdd, gMul, gEqB, gIsB, gStr, gInt, gIsi, tyM, List.getElem?_cons_zero, List.getElem?_cons_succ, List.set_cons_zero, List.set_cons_succ, Option.some.injEq, exists_eq_left', exists_eq_left, List.cons.injEq, and_true, true_and, D.bl.injEq, D.int.injEq, D.str.injEq, D.own.injEq, D.tup.injEq, List.length_cons, List.length_nil, if_true, if_false, Bool.false_eq_true, reduceIte]
    by_cases h2 : 8 < ws.length
    · have : totalOf ws = none := by unfold totalOf; rw [if_pos (Or.inr h2)]
      rw [this] at q
      rw [if_pos (by simp; omega)]
      exact bx0 q
    · rw [if_neg (by simp; omega)]
      have ez : totalOf ws = match goodWs ws with | some ws => if 100 < ws.sum then none else some ws.sum | none => none := by unfold totalOf; rw [if_neg (by omega)]; try rfl
      refine ⟨ws, hd, fun i env L' => L' = L ∧ (∃ o, env = [some d, o, none]) ∧ ∀ j x, j < i → ws[j]? = some x → ∃ w, goodW x = some w, ⟨rfl, ⟨_, rfl⟩, fun j x hj => absurd hj (Nat.not_lt_zero _)⟩, fun i env L' h => by rw [h.1]; exact hd, ?_, ?_⟩
      · rintro i env L' x hi hx ⟨rfl, ⟨o, rfl⟩, hj⟩
        try simp (config := { maxSteps := 2000000 }) only [dSeq, dNext, dSet, dRet, dRetN, dIf, dDrop, dVar, dC, dOp, dUn, dB, dNot, dAnd, dOr, dAndV, dOrV, dNotV, dIfE, dCB, dNil, dCons, dTup, dLst, dLstO, dCall, dMake, dFld, dSetF, dAsg, dgTup, dgCons, dgNil, dgN, dStore, dApp, dBM, dChain, dSl, dPart, dNoPart, dRaise, dEndB, gI2, gNeg, gAdd, gMul, gEqB, gIsB, gStr, gInt, gIsi, tyM, List.getElem?_cons_zero, List.getElem?_cons_succ, List.set_cons_zero, List.set_cons_succ, Option.some.injEq, exists_eq_left', exists_eq_left, List.cons.injEq, and_true, true_and, D.bl.injEq, D.int.injEq, D.str.injEq, D.own.injEq, D.tup.injEq, List.length_cons, List.length_nil, if_true, if_false, Bool.false_eq_true, reduceIte]
        have hx' : ws[i]? = some x := hx
        obtain ⟨t, htx⟩ := hty x (List.mem_of_getElem? hx')
        refine ⟨x, t, rfl, htx, ?_⟩
        cases eg : goodW x with
        | none =>
          rw [ez, goodWs_none hx' eg] at q
          by_cases ei : t = "int"
          · subst ei
            rw [if_neg (by decide)]
            cases x with
            | int w =>
              try simp (config := { maxSteps := 2000000 }) only [dSeq, dNext, dSet, dRet, dRetN, dIf, dDrop, dVar, dC, dOp, dUn, dB, dNot, dAnd, dOr, dAndV, dOrV, dNotV, dIfE, dCB, dNil, dCons, dTup, dLst, dLstO, dCall, dMake, dFld, dSetF, dAsg, dgTup, dgCons, dgNil, dgN, dStore, dApp, dBM, dChain, dSl, dPart, dNoPart, dRaise, dEndB, gI2, gNeg, gAdd, gMul, gEqB, gIsB, gStr, gInt, gIsi, tyM, List.getElem?_cons_zero, List.getElem?_cons_succ, List.set_cons_zero, List.set_cons_succ, Option.some.injEq, exists_eq_left', exists_eq_left, List.cons.injEq, and_true, true_and, D.bl.injEq, D.int.injEq, D.str.injEq, D.own.injEq, D.tup.injEq, List.length_cons, List.length_nil, if_true, if_false, Bool.false_eq_true, reduceIte]
              have : w < 1 := by
                unfold goodW at eg
                dsimp only at eg
                split at eg
                · cases eg
                · omega
              rw [if_pos (by simpa using this)]
              exact bx0 q
            | own k =>
              unfold tyS at htx
              dsimp only at htx
              split at htx <;> first | (cases htx; done) | (simp at htx)
            | _ => simp [tyS] at htx
          · rw [if_pos (by simp [ei])]
            exact bx0 q
        | some w =>
          obtain ⟨rfl, hw⟩ := goodW_some eg
          obtain rfl : "int" = t := by simpa [tyS] using htx
          rw [if_neg (by decide)]
          try simp (config := { maxSteps := 2000000 }) only [dSeq, dNext, dSet, dRet, dRetN, dIf, dDrop, dVar, dC, dOp, dUn, dB, dNot, dAnd, dOr, dAndV, dOrV, dNotV, dIfE, dCB, dNil, dCons, dTup, dLst, dLstO, dCall, dMake, dFld, dSetF, dAsg, dgTup, dgCons, dgNil, dgN, dStore, dApp, dBM, dChain, dSl, dPart, dNoPart, dRaise, dEndB, gI2, gNeg, gAdd, gMul, gEqB, gIsB, gStr, gInt, gIsi, tyM, List.getElem?_cons_zero, List.getElem?_cons_succ, List.set_cons_zero, List.set_cons_succ, Option.some.injEq, exists_eq_left', exists_eq_left, List.cons.injEq, and_true, true_and, D.bl.injEq, D.int.injEq, D.str.injEq, D.own.injEq, D.tup.injEq, List.length_cons, List.length_nil, if_true, if_false, Bool.false_eq_true, reduceIte]
          rw [if_neg (by simp; omega)]
          refine ⟨⟨_, rfl⟩, fun j y hj' hy => ?_⟩
          by_cases ej : j = i
          · subst ej
            rw [hx'] at hy
            cases hy
            exact ⟨w, eg⟩
          · exact hj j y (by omega) hy
      · rintro env L' ⟨rfl, ⟨o, rfl⟩, hj⟩
        obtain ⟨wi, hwi⟩ := goodWs_all fun i x hx => hj i x (List.getElem?_eq_some_iff.mp hx).1 hx
        obtain ⟨e1, e2⟩ := goodWs_spec hwi
        rw [ez, hwi] at q
        try simp (config := { maxSteps := 2000000 }) only [dSeq, dNext, dSet, dRet, dRetN, dIf, dDrop, dVar, dC, dOp, dUn, dB, dNot, dAnd, dOr, dAndV, dOrV, dNotV, dIfE, dCB, dNil, dCons, dTup, dLst, dLstO, dCall, dMake, dFld, dSetF, dAsg, dgTup, dgCons, dgNil, dgN, dStore, dApp, dBM, dChain, dSl, dPart, dNoPart, dRaise, dEndB, gI2, gNeg, gAdd, gMul, gEqB, gIsB, gStr, gInt, gIsi, tyM, List.getElem?_cons_zero, List.getElem?_cons_succ, List.set_cons_zero, List.set_cons_succ, Option.some.injEq, exists_eq_left', exists_eq_left, List.cons.injEq, and_true, true_and, D.bl.injEq, D.int.injEq, D.str.injEq, D.own.injEq, D.tup.injEq, List.length_cons, List.length_nil, if_true, if_false, Bool.false_eq_true, reduceIte, gSum]
        refine ⟨d, wi, rfl, by rw [hd, e1], ?_⟩
        by_cases h3 : 100 < wi.sum
        · rw [if_pos (by simpa using h3)]
          dsimp only at q
          rw [if_pos h3] at q
          exact bx0 q
        · rw [if_neg (by simpa using h3)]
          dsimp only at q
          rw [if_neg h3] at q
          exact bk0 q
theorem r_due_by : ∀ ds L Q X, S_due_by c ds L Q X → rd_due_by K c (dEndB L Q X) (startD ["given", "weight", "total"] ds) L := by
  rintro ds L Q X ⟨g, w, t, rfl, hg, hw, ht, q⟩
  show rd_due_by K c (dEndB L Q X) [some (.int g), some (.int w), some (.int t)] L
  unfold rd_due_by
  try simp (config := { maxSteps := 2000000 }) only [dSeq, dNext, dSet, dRet, dRetN, dIf, dDrop, dVar, dC, dOp, dUn, dB, dNot, dAnd, dOr, dAndV, dOrV, dNotV, dIfE, dCB, dNil, dCons, dTup, dLst, dLstO, dCall, dMake, dFld, dSetF, dAsg, dgTup, dgCons, dgNil, dgN, dStore, dApp, dBM, dChain, dSl, dPart, dNoPart, dRaise, dEndB, gI2, gNeg, gAdd, gMul, gEqB, gIsB, gLen, gStr, gInt, gIsi, gIx, gSl, tyM, List.getElem?_cons_zero, List.getElem?_cons_succ, List.set_cons_zero, List.set_cons_succ, Option.some.injEq, exists_eq_left', exists_eq_left, List.cons.injEq, and_true, true_and, D.bl.injEq, D.int.injEq, D.str.injEq, D.own.injEq, D.tup.injEq, List.length_cons, List.length_nil, if_true, if_false, Bool.false_eq_true, reduceIte]
  exact ⟨.inr (by omega), by omega, bk0 q⟩
theorem onD_isNon (b : Option Nat) : (onD b).isNon = some (decide (b = none)) := by cases b <;> rfl
theorem gIs_non {d : D} {b : Bool} {L : LH} {Q : DK} (h : d.isNon = some b) (q : Q (.bl b) L) : gIsB false d .non L Q := by
  cases d with
  | val v => cases h
  | _ => exact ⟨b, h, by rw [Bool.false_xor]; exact q⟩
theorem gIsnot_non {d : D} {b : Bool} {L : LH} {Q : DK} (h : d.isNon = some b) (q : Q (.bl (!b)) L) : gIsB true d .non L Q := by
  cases d with
  | val v => cases h
  | _ => exact ⟨b, h, by rw [Bool.true_xor]; exact q⟩
theorem getD_of {ws : List Int} {i : Nat} {x : Int} (h : ws[i]? = some x) : ws.getD i 0 = x := by rw [List.getD_eq_getElem?_getD, h]; rfl
theorem map_get {ws : List Int} {i : Nat} (h : i < ws.length) : (ws.map D.int)[i]? = some (.int (ws.getD i 0)) := by
  rw [List.getElem?_map, List.getElem?_eq_getElem h, getD_of (List.getElem?_eq_getElem h)]
  rfl
theorem onD_clos (b : Option Nat) : (onD b).clos = true := by cases b <;> rfl
theorem r_next_place : ∀ ds L Q X, S_next_place c ds L Q X → rd_next_place K c (dEndB L Q X) (startD ["weights", "given", "total", "n", "best", "soonest", "place", "due"] ds) L := by
  rintro ds L Q X ⟨dw, dg, ws, gs, t, n, rfl, hdw, hdg, hlen, hl8, hw, hg, ht, hn, q⟩
  show rd_next_place K c (dEndB L Q X) [some dw, some dg, some (.int t), some (.int n), none, none, none, none] L
  unfold rd_next_place
  try simp (config := { maxSteps := 2000000 }) only [dSeq, dNext, dSet, dRet, dRetN, dIf, dDrop, dVar, dC, dOp, dUn, dB, dNot, dAnd, dOr, dAndV, dOrV, dNotV, dIfE, dCB, dNil, dCons, dTup, dLst, dLstO, dCall, dMake, dFld, dSetF, dAsg, dgTup, dgCons, dgNil, dgN, dStore, dApp, dBM, dChain, dSl, dPart, dNoPart, dRaise, dEndB, gI2, gNeg, gAdd, gMul, gEqB, gIsB, gStr, gInt, gIsi, tyM, List.getElem?_cons_zero, List.getElem?_cons_succ, List.set_cons_zero, List.set_cons_succ, Option.some.injEq, exists_eq_left', exists_eq_left, List.cons.injEq, and_true, true_and, D.bl.injEq, D.int.injEq, D.str.injEq, D.own.injEq, D.tup.injEq, List.length_cons, List.length_nil, if_true, if_false, Bool.false_eq_true, reduceIte, dFor, dIR1]
  refine gLen_lst hdw ?_
  try simp (config := { maxSteps := 2000000 }) only [dSeq, dNext, dSet, dRet, dRetN, dIf, dDrop, dVar, dC, dOp, dUn, dB, dNot, dAnd, dOr, dAndV, dOrV, dNotV, dIfE, dCB, dNil, dCons, dTup, dLst, dLstO, dCall, dMake, dFld, dSetF, dAsg, dgTup, dgCons, dgNil, dgN, dStore, dApp, dBM, dChain, dSl, dPart, dNoPart, dRaise, dEndB, gI2, gNeg, gAdd, gMul, gEqB, gIsB, gStr, gInt, gIsi, tyM, List.getElem?_cons_zero, List.getElem?_cons_succ, List.set_cons_zero, List.set_cons_succ, Option.some.injEq, exists_eq_left', exists_eq_left, List.cons.injEq, and_true, true_and, D.bl.injEq, D.int.injEq, D.str.injEq, D.own.injEq, D.tup.injEq, List.length_cons, List.length_nil, if_true, if_false, Bool.false_eq_true, reduceIte]
  rw [List.length_map]
  refine ⟨by omega, fun i env L' => L' = L ∧ ∃ o6 o7, env = [some dw, some dg, some (.int t), some (.int n), some (onD (seekN ws gs t n i).1), some (.int (seekN ws gs t n i).2), o6, o7], ⟨rfl, none, none, rfl⟩, fun _ _ _ _ => trivial, ?_, ?_⟩
  · rintro i env L' x hi hx ⟨rfl, o6, o7, rfl⟩
    have hi' : i < ws.length := by have : i < ((ws.length : Int)).toNat := hi; omega
    obtain rfl : D.int (0 + (i : Int)) = x := Option.some.inj hx
    rw [Int.zero_add]
    have hwi := hw _ (List.getElem_mem hi')
    have hgi := hg _ (List.getElem_mem (hlen ▸ hi'))
    rw [← getD_of (List.getElem?_eq_getElem hi')] at hwi
    rw [← getD_of (List.getElem?_eq_getElem (hlen ▸ hi'))] at hgi
    try simp (config := { maxSteps := 2000000 }) only [dSeq, dNext, dSet, dRet, dRetN, dIf, dDrop, dVar, dC, dOp, dUn, dB, dNot, dAnd, dOr, dAndV, dOrV, dNotV, dIfE, dCB, dNil, dCons, dTup, dLst, dLstO, dCall, dMake, dFld, dSetF, dAsg, dgTup, dgCons, dgNil, dgN, dStore, dApp, dBM, dChain, dSl, dPart, dNoPart, dRaise, dEndB, gI2, gNeg, gAdd, gMul, gEqB, gIsB, gStr, gInt, gIsi, tyM, List.getElem?_cons_zero, List.getElem?_cons_succ, List.set_cons_zero, List.set_cons_succ, Option.some.injEq, exists_eq_left', exists_eq_left, List.cons.injEq, and_true, true_and, D.bl.injEq, D.int.injEq, D.str.injEq, D.own.injEq, D.tup.injEq, List.length_cons, List.length_nil, if_true, if_false, Bool.false_eq_true, reduceIte, S_due_by]
    refine gIx_lst hdg (at_nat (map_get (hlen ▸ hi'))) ?_
    try simp (config := { maxSteps := 2000000 }) only [dSeq, dNext, dSet, dRet, dRetN, dIf, dDrop, dVar, dC, dOp, dUn, dB, dNot, dAnd, dOr, dAndV, dOrV, dNotV, dIfE, dCB, dNil, dCons, dTup, dLst, dLstO, dCall, dMake, dFld, dSetF, dAsg, dgTup, dgCons, dgNil, dgN, dStore, dApp, dBM, dChain, dSl, dPart, dNoPart, dRaise, dEndB, gI2, gNeg, gAdd, gMul, gEqB, gIsB, gStr, gInt, gIsi, tyM, List.getElem?_cons_zero, List.getElem?_cons_succ, List.set_cons_zero, List.set_cons_succ, Option.some.injEq, exists_eq_left', exists_eq_left, List.cons.injEq, and_true, true_and, D.bl.injEq, D.int.injEq, D.str.injEq, D.own.injEq, D.tup.injEq, List.length_cons, List.length_nil, if_true, if_false, Bool.false_eq_true, reduceIte]
    refine ⟨.inr (by omega), ?_⟩
    refine gIx_lst hdw (at_nat (map_get hi')) ?_
    try simp (config := { maxSteps := 2000000 }) only [dSeq, dNext, dSet, dRet, dRetN, dIf, dDrop, dVar, dC, dOp, dUn, dB, dNot, dAnd, dOr, dAndV, dOrV, dNotV, dIfE, dCB, dNil, dCons, dTup, dLst, dLstO, dCall, dMake, dFld, dSetF, dAsg, dgTup, dgCons, dgNil, dgN, dStore, dApp, dBM, dChain, dSl, dPart, dNoPart, dRaise, dEndB, gI2, gNeg, gAdd, gMul, gEqB, gIsB, gStr, gInt, gIsi, tyM, List.getElem?_cons_zero, List.getElem?_cons_succ, List.set_cons_zero, List.set_cons_succ, Option.some.injEq, exists_eq_left', exists_eq_left, List.cons.injEq, and_true, true_and, D.bl.injEq, D.int.injEq, D.str.injEq, D.own.injEq, D.tup.injEq, List.length_cons, List.length_nil, if_true, if_false, Bool.false_eq_true, reduceIte]
    refine ⟨.inr (by omega), ?_⟩
    have e1 : seekN ws gs t n (i + 1) = seekP ws gs t n i (seekN ws gs t n i) := rfl
    by_cases h1 : gs.getD i 0 * t < ws.getD i 0 * (n + 1)
    · rw [if_pos (by simpa using h1)]
      refine gIx_lst hdg (at_nat (map_get (hlen ▸ hi'))) ?_
      try simp (config := { maxSteps := 2000000 }) only [dSeq, dNext, dSet, dRet, dRetN, dIf, dDrop, dVar, dC, dOp, dUn, dB, dNot, dAnd, dOr, dAndV, dOrV, dNotV, dIfE, dCB, dNil, dCons, dTup, dLst, dLstO, dCall, dMake, dFld, dSetF, dAsg, dgTup, dgCons, dgNil, dgN, dStore, dApp, dBM, dChain, dSl, dPart, dNoPart, dRaise, dEndB, gI2, gNeg, gAdd, gMul, gEqB, gIsB, gStr, gInt, gIsi, tyM, List.getElem?_cons_zero, List.getElem?_cons_succ, List.set_cons_zero, List.set_cons_succ, Option.some.injEq, exists_eq_left', exists_eq_left, List.cons.injEq, and_true, true_and, D.bl.injEq, D.int.injEq, D.str.injEq, D.own.injEq, D.tup.injEq, List.length_cons, List.length_nil, if_true, if_false, Bool.false_eq_true, reduceIte]
      refine gIx_lst hdw (at_nat (map_get hi')) ?_
      try simp (config := { maxSteps := 2000000 }) only [dSeq, dNext, dSet, dRet, dRetN, dIf, dDrop, dVar, dC, dOp, dUn, dB, dNot, dAnd, dOr, dAndV, dOrV, dNotV, dIfE, dCB, dNil, dCons, dTup, dLst, dLstO, dCall, dMake, dFld, dSetF, dAsg, dgTup, dgCons, dgNil, dgN, dStore, dApp, dBM, dChain, dSl, dPart, dNoPart, dRaise, dEndB, gI2, gNeg, gAdd, gMul, gEqB, gIsB, gStr, gInt, gIsi, tyM, List.getElem?_cons_zero, List.getElem?_cons_succ, List.set_cons_zero, List.set_cons_succ, Option.some.injEq, exists_eq_left', exists_eq_left, List.cons.injEq, and_true, true_and, D.bl.injEq, D.int.injEq, D.str.injEq, D.own.injEq, D.tup.injEq, List.length_cons, List.length_nil, if_true, if_false, Bool.false_eq_true, reduceIte]
      refine ⟨_, _, _, ⟨rfl, rfl, rfl⟩, by omega, by omega, by omega, ?_⟩
      refine ⟨_, onD_isNon _, ?_⟩
      rw [Bool.false_xor]
      have e2 : seekP ws gs t n i (seekN ws gs t n i) = if (seekN ws gs t n i).1 = none ∨ dueBy (gs.getD i 0) (ws.getD i 0) t < (seekN ws gs t n i).2 then (some i, dueBy (gs.getD i 0) (ws.getD i 0) t) else (seekN ws gs t n i) := by unfold seekP; rw [if_pos h1]
      by_cases h2 : (seekN ws gs t n i).1 = none
      · rw [if_pos (by simpa using h2)]
        rw [e1, e2, if_pos (Or.inl h2)]
        exact ⟨_, _, rfl, rfl, rfl, rfl⟩
      · rw [if_neg (by simpa using h2)]
        by_cases h3 : dueBy (gs.getD i 0) (ws.getD i 0) t < (seekN ws gs t n i).2
        · rw [if_pos (by simpa using h3)]
          rw [e1, e2, if_pos (Or.inr h3)]
          exact ⟨_, _, rfl, rfl, rfl, rfl⟩
        · rw [if_neg (by simpa using h3)]
          rw [e1, e2, if_neg (fun z => z.elim h2 h3)]
          exact ⟨_, _, rfl, rfl, rfl, rfl⟩
    · rw [if_neg (by simpa using h1)]
      rw [e1, show seekP ws gs t n i (seekN ws gs t n i) = seekN ws gs t n i by unfold seekP; rw [if_neg h1]]
      exact ⟨_, _, rfl, rfl, rfl, rfl⟩
  · rintro env L' ⟨rfl, o6, o7, rfl⟩
    rw [show (rngD 0 ((ws.length : Int)).toNat).n = ws.length from by show ((ws.length : Int)).toNat = _; omega]
    try simp (config := { maxSteps := 2000000 }) only [dSeq, dNext, dSet, dRet, dRetN, dIf, dDrop, dVar, dC, dOp, dUn, dB, dNot, dAnd, dOr, dAndV, dOrV, dNotV, dIfE, dCB, dNil, dCons, dTup, dLst, dLstO, dCall, dMake, dFld, dSetF, dAsg, dgTup, dgCons, dgNil, dgN, dStore, dApp, dBM, dChain, dSl, dPart, dNoPart, dRaise, dEndB, gI2, gNeg, gAdd, gMul, gEqB, gIsB, gStr, gInt, gIsi, tyM, List.getElem?_cons_zero, List.getElem?_cons_succ, List.set_cons_zero, List.set_cons_succ, Option.some.injEq, exists_eq_left', exists_eq_left, List.cons.injEq, and_true, true_and, D.bl.injEq, D.int.injEq, D.str.injEq, D.own.injEq, D.tup.injEq, List.length_cons, List.length_nil, if_true, if_false, Bool.false_eq_true, reduceIte]
    exact bk0 q (onD_clos _)
end
end K38
set_option Elab.async false
set_option linter.all false
set_option maxRecDepth 100000
set_option maxHeartbeats 2000000
namespace K38
open PySem PySem.Spec PyProof.Rows L2 DL
theorem sum_set : ∀ (gs : List Int) (i : Nat), i < gs.length → (gs.set i (gs.getD i 0 + 1)).sum = gs.sum + 1
  | [], i, h => absurd h (Nat.not_lt_zero _)
  | g :: gs, 0, _ => by simp [List.sum_cons]; omega
  | g :: gs, i + 1, h => by
    have := sum_set gs i (by simpa using h)
    have e : (g :: gs).getD (i + 1) 0 = gs.getD i 0 := by simp [List.getD_eq_getElem?_getD]
    rw [e, List.set_cons_succ, List.sum_cons, List.sum_cons, this]
    omega
theorem sum_le : ∀ (ws gs : List Int) (a b : Int), ws.length = gs.length → (∀ j, j < ws.length → ws.getD j 0 * a ≤ gs.getD j 0 * b) → ws.sum * a ≤ gs.sum * b
  | [], [], a, b, _, _ => by simp
  | [], _ :: _, _, _, h, _ => by cases h
  | _ :: _, [], _, _, h, _ => by cases h
  | w :: ws, g :: gs, a, b, h, hj => by
    have h0 := hj 0 (by simp)
    have h1 := sum_le ws gs a b (by simpa using h) fun j hl => by
      have := hj (j + 1) (by simpa using hl)
      simpa [List.getD_eq_getElem?_getD] using this
    have h0' : w * a ≤ g * b := by simpa [List.getD_eq_getElem?_getD] using h0
    rw [List.sum_cons, List.sum_cons, Int.add_mul, Int.add_mul]
    omega
theorem seekN_lt {ws gs : List Int} {t n : Int} : ∀ {k i : Nat}, (seekN ws gs t n k).1 = some i → i < k
  | 0, i, h => by cases h
  | k + 1, i, h => by
    have e : seekN ws gs t n (k + 1) = seekP ws gs t n k (seekN ws gs t n k) := rfl
    rw [e] at h
    unfold seekP at h
    split at h
    · split at h
      · cases h; exact Nat.lt_succ_self _
      · exact Nat.lt_succ_of_lt (seekN_lt h)
    · exact Nat.lt_succ_of_lt (seekN_lt h)
theorem seekN_some {ws gs : List Int} {t n : Int} : ∀ {k j : Nat}, j < k → gs.getD j 0 * t < ws.getD j 0 * (n + 1) → ∃ i, (seekN ws gs t n k).1 = some i
  | 0, j, h, _ => absurd h (Nat.not_lt_zero _)
  | k + 1, j, h, hj => by
    have e : seekN ws gs t n (k + 1) = seekP ws gs t n k (seekN ws gs t n k) := rfl
    rw [e]
    unfold seekP
    by_cases hc : gs.getD k 0 * t < ws.getD k 0 * (n + 1)
    · rw [if_pos hc]
      split
      · exact ⟨k, rfl⟩
      · rename_i h2
        cases q : (seekN ws gs t n k).1 with
        | none => exact absurd (Or.inl q) h2
        | some i => exact ⟨i, rfl⟩
    · rw [if_neg hc]
      have hk : j ≠ k := fun z => by subst z; exact hc hj
      exact seekN_some (k := k) (j := j) (by omega) hj
/-- ws are weights, adding up to t -/
structure Wts (ws : List Int) (t : Int) : Prop where
  lo : 1 ≤ ws.length
  hi : ws.length ≤ 8
  w : ∀ w ∈ ws, 1 ≤ w
  sum : ws.sum = t
  t0 : 1 ≤ t
  t1 : t ≤ 100
theorem le_sum : ∀ {ws : List Int}, (∀ w ∈ ws, 0 ≤ w) → 0 ≤ ws.sum ∧ ∀ w ∈ ws, w ≤ ws.sum
  | [], _ => ⟨by simp, fun _ h => by cases h⟩
  | x :: ws, h => by
    obtain ⟨h1, h2⟩ := le_sum (ws := ws) fun w hw => h w (List.mem_cons_of_mem _ hw)
    have h0 := h x List.mem_cons_self
    rw [List.sum_cons]
    exact ⟨by omega, fun w hw => by
      rcases List.mem_cons.mp hw with rfl | hw
      · omega
      · have := h2 w hw; omega⟩
theorem Wts.of {es : List D} {ws : List Int} {n : Int} (h : totalOf es = some n) (hg : goodWs es = some ws) : Wts ws n ∧ ws.sum = n ∧ es = ws.map .int := by
  obtain ⟨e1, e2⟩ := goodWs_spec hg
  unfold totalOf at h
  split at h
  · cases h
  · rename_i h1
    rw [hg] at h
    dsimp only at h
    split at h
    · cases h
    · rename_i h2
      cases h
      have hl : es.length = ws.length := by rw [e1, List.length_map]
      have h3 := le_sum (ws := ws) fun w hw => by have := e2 w hw; omega
      have h4 : 1 ≤ ws.sum := by
        cases ws with
        | nil => rw [hl] at h1; simp at h1
        | cons w r => have := h3.2 w List.mem_cons_self; have := e2 w List.mem_cons_self; omega
      exact ⟨⟨by omega, by omega, e2, rfl, h4, by omega⟩, rfl, e1⟩
theorem total_some {es : List D} {n : Int} (h : totalOf es = some n) : ∃ ws, goodWs es = some ws := by
  unfold totalOf at h
  split at h
  · cases h
  · split at h
    · rename_i ws h1; exact ⟨ws, h1⟩
    · cases h
theorem zsum : ∀ ws : List Int, (ws.map fun _ => (0 : Int)).sum = 0
  | [] => rfl
  | _ :: r => by rw [List.map_cons, List.sum_cons, zsum r]; rfl
/-- the state of the deal after n turns -/
structure Turn (ws : List Int) (n : Nat) (p : List Int × List Int) : Prop where
  len : p.1.length = ws.length
  sum : p.1.sum = n
  g : ∀ g ∈ p.1, 0 ≤ g
  wl : p.2.length = n
  w : ∀ x ∈ p.2, 0 ≤ x ∧ x < ws.length
theorem next_some {ws gs : List Int} {t : Int} {n : Nat} (W : Wts ws t) (hl : gs.length = ws.length) (hs : gs.sum = n) : ∃ i, nextP ws gs t n = some i ∧ i < ws.length := by
  have ex : ∃ j, j < ws.length ∧ gs.getD j 0 * t < ws.getD j 0 * ((n : Int) + 1) := by
    by_cases h : ∃ j, j < ws.length ∧ gs.getD j 0 * t < ws.getD j 0 * ((n : Int) + 1)
    · exact h
    · exfalso
      have := sum_le ws gs ((n : Int) + 1) t hl.symm fun j hj => by
        by_cases q : gs.getD j 0 * t < ws.getD j 0 * ((n : Int) + 1)
        · exact absurd ⟨j, hj, q⟩ h
        · omega
      rw [W.sum, hs] at this
      have t0 := W.t0
      have e : t * ((n : Int) + 1) = n * t + t := by rw [Int.mul_add, Int.mul_one, Int.mul_comm]
      omega
  obtain ⟨j, hj, h⟩ := ex
  obtain ⟨i, hi⟩ := seekN_some (k := ws.length) hj h
  exact ⟨i, hi, seekN_lt hi⟩
theorem turn_ok {ws : List Int} {t : Int} (W : Wts ws t) : ∀ n : Nat, (n : Int) ≤ t → Turn ws n (turnN ws t n)
  | 0, _ => by
    refine ⟨by simp [turnN], ?_, ?_, rfl, fun x h => by cases h⟩
    · show (ws.map fun _ => (0 : Int)).sum = 0
      exact zsum ws
    · intro g hg
      obtain ⟨_, _, rfl⟩ := List.mem_map.mp hg
      exact Int.le_refl _
  | n + 1, h => by
    have T := turn_ok W n (by omega)
    obtain ⟨i, hi, hl⟩ := next_some W T.len T.sum
    have e : turnN ws t (n + 1) = ((turnN ws t n).1.set i ((turnN ws t n).1.getD i 0 + 1), (turnN ws t n).2 ++ [(i : Int)]) := by
      show (match nextP ws (turnN ws t n).1 t n with | some i => _ | none => _) = _
      rw [hi]
    rw [e]
    refine ⟨by rw [List.length_set]; exact T.len, ?_, ?_, by rw [List.length_append, T.wl]; rfl, ?_⟩
    · show ((turnN ws t n).1.set i _).sum = _
      rw [sum_set _ _ (by rw [T.len]; exact hl), T.sum]
      omega
    · intro g hg
      rcases List.mem_or_eq_of_mem_set hg with q | q
      · exact T.g g q
      · rw [q]
        have : 0 ≤ (turnN ws t n).1.getD i 0 := by
          have hi' : i < (turnN ws t n).1.length := by rw [T.len]; exact hl
          rw [getD_of (List.getElem?_eq_getElem hi')]
          exact T.g _ (List.getElem_mem hi')
        omega
    · intro x hx
      rcases List.mem_append.mp hx with q | q
      · exact T.w x q
      · rw [List.mem_singleton] at q
        subst q
        omega
section
variable {K : PySem.W.Frag} {mg : Str → Option Value} {c : Cs}
theorem r_turns : ∀ ds L Q X, S_turns c ds L Q X → rd_turns K c (dEndB L Q X) (startD ["weights", "total", "given", "wheel", "n", "place", "weight"] ds) L := by
  rintro ds L Q X ⟨d, es, rfl, hd, ht, hl, hty, q, qx⟩
  show rd_turns K c (dEndB L Q X) [some d, none, none, none, none, none, none] L
  unfold rd_turns
  try simp (config := { maxSteps := 2000000 }) only [dSeq, dNext, dSet, dRet, dRetN, dIf, dDrop, dVar, dC, dOp, dUn, dB, dNot, dAnd, dOr, dAndV, dOrV, dNotV, dIfE, dCB, dNil, dCons, dTup, dLst, dLstO, dCall, dMake, dFld, dSetF, dAsg, dgTup, dgCons, dgNil, dgN, dStore, dApp, dBM, dChain, dSl, dPart, dNoPart, dRaise, dEndB, gI2, gNeg, gAdd, gMul, gEqB, gIsB, gStr, gInt, gIsi, tyM, List.getElem?_cons_zero, List.getElem?_cons_succ, List.set_cons_zero, List.set_cons_succ, Option.some.injEq, exists_eq_left', exists_eq_left, List.cons.injEq, and_true, true_and, D.bl.injEq, D.int.injEq, D.str.injEq, D.own.injEq, D.tup.injEq, List.length_cons, List.length_nil, if_true, if_false, Bool.false_eq_true, reduceIte, S_total_of]
  refine ⟨d, es, rfl, hd, ht, hl, hty, ?_⟩
  cases et : totalOf es with
  | none => exact bx0 (qx et)
  | some t =>
    obtain ⟨ws, hws⟩ := total_some et
    obtain ⟨W, hs, he⟩ := Wts.of et hws
    have q' := q ws hws (by rw [hs]; exact et)
    clear q qx
    dsimp only
    try simp (config := { maxSteps := 2000000 }) only [dSeq, dNext, dSet, dRet, dRetN, dIf, dDrop, dVar, dC, dOp, dUn, dB, dNot, dAnd, dOr, dAndV, dOrV, dNotV, dIfE, dCB, dNil, dCons, dTup, dLst, dLstO, dCall, dMake, dFld, dSetF, dAsg, dgTup, dgCons, dgNil, dgN, dStore, dApp, dBM, dChain, dSl, dPart, dNoPart, dRaise, dEndB, gI2, gNeg, gAdd, gMul, gEqB, gIsB, gStr, gInt, gIsi, tyM, List.getElem?_cons_zero, List.getElem?_cons_succ, List.set_cons_zero, List.set_cons_succ, Option.some.injEq, exists_eq_left', exists_eq_left, List.cons.injEq, and_true, true_and, D.bl.injEq, D.int.injEq, D.str.injEq, D.own.injEq, D.tup.injEq, List.length_cons, List.length_nil, if_true, if_false, Bool.false_eq_true, reduceIte, dLcG, dIL, dYes, cgD]
    refine ⟨es, hd, fun i acc L' => L' = L ∧ acc = List.replicate i (.int 0), ⟨rfl, rfl⟩, fun i acc L' h => by rw [h.1]; exact hd, ?_, ?_⟩
    · rintro i acc L' x hi hx ⟨rfl, rfl⟩
      have hi' : i < es.length := hi
      rw [List.length_replicate]
      refine ⟨by have := W.hi; rw [he, List.length_map] at hi'; omega, ?_⟩
      try simp (config := { maxSteps := 2000000 }) only [dSeq, dNext, dSet, dRet, dRetN, dIf, dDrop, dVar, dC, dOp, dUn, dB, dNot, dAnd, dOr, dAndV, dOrV, dNotV, dIfE, dCB, dNil, dCons, dTup, dLst, dLstO, dCall, dMake, dFld, dSetF, dAsg, dgTup, dgCons, dgNil, dgN, dStore, dApp, dBM, dChain, dSl, dPart, dNoPart, dRaise, dEndB, gI2, gNeg, gAdd, gMul, gEqB, gIsB, gStr, gInt, gIsi, tyM, List.getElem?_cons_zero, List.getElem?_cons_succ, List.set_cons_zero, List.set_cons_succ, Option.some.injEq, exists_eq_left', exists_eq_left, List.cons.injEq, and_true, true_and, D.bl.injEq, D.int.injEq, D.str.injEq, D.own.injEq, D.tup.injEq, List.length_cons, List.length_nil, if_true, if_false, Bool.false_eq_true, reduceIte]
      rw [List.replicate_succ']
    · rintro acc L' ⟨rfl, rfl⟩
      try simp (config := { maxSteps := 2000000 }) only [dSeq, dNext, dSet, dRet, dRetN, dIf, dDrop, dVar, dC, dOp, dUn, dB, dNot, dAnd, dOr, dAndV, dOrV, dNotV, dIfE, dCB, dNil, dCons, dTup, dLst, dLstO, dCall, dMake, dFld, dSetF, dAsg, dgTup, dgCons, dgNil, dgN, dStore, dApp, dBM, dChain, dSl, dPart, dNoPart, dRaise, dEndB, gI2, gNeg, gAdd, gMul, gEqB, gIsB, gStr, gInt, gIsi, tyM, List.getElem?_cons_zero, List.getElem?_cons_succ, List.set_cons_zero, List.set_cons_succ, Option.some.injEq, exists_eq_left', exists_eq_left, List.cons.injEq, and_true, true_and, D.bl.injEq, D.int.injEq, D.str.injEq, D.own.injEq, D.tup.injEq, List.length_cons, List.length_nil, if_true, if_false, Bool.false_eq_true, reduceIte, dFor, dIR1]
      have e1 : ∀ a : OD, (L' ++ [a]).length = L'.length + 1 := fun a => by simp
      rw [e1]
      have t0 := W.t0
      have t1 := W.t1
      refine ⟨by decide, by omega, fun i env L2 => ∃ o4 o5 o6, env = [some d, some (.int t), some (.own L'.length), some (.own (L'.length + 1)), o4, o5, o6] ∧ L2 = L' ++ [.lst ((turnN ws t i).1.map .int)] ++ [.lst ((turnN ws t i).2.map .int)], ⟨none, none, none, rfl, ?_⟩, fun _ _ _ _ => trivial, ?_, ?_⟩
      · show _ = L' ++ [OD.lst ((ws.map fun _ => (0 : Int)).map D.int)] ++ [OD.lst []]
        rw [List.map_map, he, List.length_map]
        have : List.replicate ws.length (D.int 0) = List.map (D.int ∘ fun _ => (0 : Int)) ws := by
          rw [List.eq_replicate_of_mem (l := List.map (D.int ∘ fun _ => (0 : Int)) ws) (a := D.int 0) fun b hb => by
            obtain ⟨_, _, rfl⟩ := List.mem_map.mp hb
            rfl]
          rw [List.length_map]
        rw [this]
      · rintro i env L2 x hi hx ⟨o4, o5, o6, rfl, rfl⟩
        have hi' : i < t.toNat := hi
        obtain rfl : D.int (0 + (i : Int)) = x := Option.some.inj hx
        rw [Int.zero_add]
        have T := turn_ok W i (by omega)
        have T' := turn_ok W (i + 1) (by omega)
        obtain ⟨p, hp, hpl⟩ := next_some W T.len T.sum
        have g01 := le_sum T.g
        try simp (config := { maxSteps := 2000000 }) only [dSeq, dNext, dSet, dRet, dRetN, dIf, dDrop, dVar, dC, dOp, dUn, dB, dNot, dAnd, dOr, dAndV, dOrV, dNotV, dIfE, dCB, dNil, dCons, dTup, dLst, dLstO, dCall, dMake, dFld, dSetF, dAsg, dgTup, dgCons, dgNil, dgN, dStore, dApp, dBM, dChain, dSl, dPart, dNoPart, dRaise, dEndB, gI2, gNeg, gAdd, gMul, gEqB, gIsB, gStr, gInt, gIsi, tyM, List.getElem?_cons_zero, List.getElem?_cons_succ, List.set_cons_zero, List.set_cons_succ, Option.some.injEq, exists_eq_left', exists_eq_left, List.cons.injEq, and_true, true_and, D.bl.injEq, D.int.injEq, D.str.injEq, D.own.injEq, D.tup.injEq, List.length_cons, List.length_nil, if_true, if_false, Bool.false_eq_true, reduceIte, S_next_place]
        refine ⟨d, .own L'.length, ws, (turnN ws t i).1, t, i, ⟨rfl, rfl, rfl, rfl⟩, lst_app _ (lst_app _ (he ▸ hd)), lst_own (get2 _ _), T.len.symm, W.hi, fun w hw => ?_, fun g hg => ?_, by omega, by omega, ?_⟩
        · have := (le_sum (ws := ws) fun w hw => by have := W.w w hw; omega).2 w hw
          have := W.w w hw
          rw [W.sum] at *
          omega
        · have := g01.2 g hg
          have := T.g g hg
          rw [T.sum] at *
          omega
        · rw [hp]
          have hpl' : p < (turnN ws t i).1.length := by rw [T.len]; exact hpl
          try simp (config := { maxSteps := 2000000 }) only [dSeq, dNext, dSet, dRet, dRetN, dIf, dDrop, dVar, dC, dOp, dUn, dB, dNot, dAnd, dOr, dAndV, dOrV, dNotV, dIfE, dCB, dNil, dCons, dTup, dLst, dLstO, dCall, dMake, dFld, dSetF, dAsg, dgTup, dgCons, dgNil, dgN, dStore, dApp, dBM, dChain, dSl, dPart, dNoPart, dRaise, dEndB, gI2, gNeg, gAdd, gMul, gEqB, gIsB, gStr, gInt, gIsi, tyM, List.getElem?_cons_zero, List.getElem?_cons_succ, List.set_cons_zero, List.set_cons_succ, Option.some.injEq, exists_eq_left', exists_eq_left, List.cons.injEq, and_true, true_and, D.bl.injEq, D.int.injEq, D.str.injEq, D.own.injEq, D.tup.injEq, List.length_cons, List.length_nil, if_true, if_false, Bool.false_eq_true, reduceIte, onD]
          refine gIx_lst (lst_own (get2 _ _)) (at_nat (map_get hpl')) ?_
          try simp (config := { maxSteps := 2000000 }) only [dSeq, dNext, dSet, dRet, dRetN, dIf, dDrop, dVar, dC, dOp, dUn, dB, dNot, dAnd, dOr, dAndV, dOrV, dNotV, dIfE, dCB, dNil, dCons, dTup, dLst, dLstO, dCall, dMake, dFld, dSetF, dAsg, dgTup, dgCons, dgNil, dgN, dStore, dApp, dBM, dChain, dSl, dPart, dNoPart, dRaise, dEndB, gI2, gNeg, gAdd, gMul, gEqB, gIsB, gStr, gInt, gIsi, tyM, List.getElem?_cons_zero, List.getElem?_cons_succ, List.set_cons_zero, List.set_cons_succ, Option.some.injEq, exists_eq_left', exists_eq_left, List.cons.injEq, and_true, true_and, D.bl.injEq, D.int.injEq, D.str.injEq, D.own.injEq, D.tup.injEq, List.length_cons, List.length_nil, if_true, if_false, Bool.false_eq_true, reduceIte]
          refine ⟨_, _, _, p, rfl, rfl, get2 _ _, ixN_nat (by rw [List.length_map]; exact hpl'), ?_⟩
          rw [set2]
          try simp (config := { maxSteps := 2000000 }) only [dSeq, dNext, dSet, dRet, dRetN, dIf, dDrop, dVar, dC, dOp, dUn, dB, dNot, dAnd, dOr, dAndV, dOrV, dNotV, dIfE, dCB, dNil, dCons, dTup, dLst, dLstO, dCall, dMake, dFld, dSetF, dAsg, dgTup, dgCons, dgNil, dgN, dStore, dApp, dBM, dChain, dSl, dPart, dNoPart, dRaise, dEndB, gI2, gNeg, gAdd, gMul, gEqB, gIsB, gStr, gInt, gIsi, tyM, List.getElem?_cons_zero, List.getElem?_cons_succ, List.set_cons_zero, List.set_cons_succ, Option.some.injEq, exists_eq_left', exists_eq_left, List.cons.injEq, and_true, true_and, D.bl.injEq, D.int.injEq, D.str.injEq, D.own.injEq, D.tup.injEq, List.length_cons, List.length_nil, if_true, if_false, Bool.false_eq_true, reduceIte]
          refine ⟨_, _, rfl, get2' _ _, _, get2' _ _, ?_, ?_⟩
          · rw [List.length_map, T.wl]
            omega
          · rw [set2']
            have e2 : turnN ws t (i + 1) = ((turnN ws t i).1.set p ((turnN ws t i).1.getD p 0 + 1), (turnN ws t i).2 ++ [(p : Int)]) := by
              show (match nextP ws (turnN ws t i).1 t i with | some i => _ | none => _) = _
              rw [hp]
            rw [e2, List.map_set, List.map_append]
            exact ⟨_, _, _, ⟨rfl, rfl, rfl⟩, rfl⟩
      · rintro env L2 ⟨o4, o5, o6, rfl, rfl⟩
        try simp (config := { maxSteps := 2000000 }) only [dSeq, dNext, dSet, dRet, dRetN, dIf, dDrop, dVar, dC, dOp, dUn, dB, dNot, dAnd, dOr, dAndV, dOrV, dNotV, dIfE, dCB, dNil, dCons, dTup, dLst, dLstO, dCall, dMake, dFld, dSetF, dAsg, dgTup, dgCons, dgNil, dgN, dStore, dApp, dBM, dChain, dSl, dPart, dNoPart, dRaise, dEndB, gI2, gNeg, gAdd, gMul, gEqB, gIsB, gStr, gInt, gIsi, tyM, List.getElem?_cons_zero, List.getElem?_cons_succ, List.set_cons_zero, List.set_cons_succ, Option.some.injEq, exists_eq_left', exists_eq_left, List.cons.injEq, and_true, true_and, D.bl.injEq, D.int.injEq, D.str.injEq, D.own.injEq, D.tup.injEq, List.length_cons, List.length_nil, if_true, if_false, Bool.false_eq_true, reduceIte]
        rw [List.append_assoc]
        refine bkL _ (ds := (turnN ws t t.toNat).2.map .int) ?_ (by omega) (closA_map (fun _ => rfl) _) ?_
        · rw [← List.append_assoc]
          exact get2' _ _
        · have : wheelOf ws = (turnN ws t t.toNat).2 := by unfold wheelOf; rw [W.sum]
          rw [← this]
          exact q'
end
end K38
set_option Elab.async false
set_option linter.all false
set_option maxRecDepth 100000
set_option maxHeartbeats 2000000
namespace K38
open PySem PySem.Spec PyProof.Rows L2 DL
section
variable {K : PySem.W.Frag} {mg : Str → Option Value} {c : Cs}
theorem inD_strs (s : Str) : ∀ f : List Str, inD (.str s) (f.map .str) = decide (s ∈ f)
  | [] => rfl
  | x :: f => by
    have ih := inD_strs s f
    unfold inD at ih ⊢
    rw [List.map_cons, List.any_cons, ih]
    show ((x == s) || _) = _
    by_cases e : x = s
    · subst e; simp
    · have : (x == s) = false := by simpa using e
      rw [this]
      simp [Ne.symm e]
theorem flat_strs : ∀ f : List Str, (f.map D.str).all D.flat = true
  | [] => rfl
  | x :: f => by rw [List.map_cons, List.all_cons, flat_strs f]; rfl
/-- .. told step by step -/
theorem housesGo_cons {h : D} {hs : List D} {f : List Str} : housesGo (h :: hs) f = match h with | .str s => if nameS s = true ∧ s ∉ f then housesGo hs (f ++ [s]) else none | _ => none := by
  cases h <;> rfl
theorem r_need_houses : ∀ ds L Q X, S_need_houses c ds L Q X → rd_need_houses K c (dEndB L Q X) (startD ["pairs", "found", "house", "weight"] ds) L := by
  rintro ds L Q X ⟨d, ps, rfl, hd, hl, hh, q⟩
  show rd_need_houses K c (dEndB L Q X) [some d, none, none, none] L
  unfold rd_need_houses
  try simp (config := { maxSteps := 2000000 }) only [dSeq, dNext, dSet, dRet, dRetN, dIf, dDrop, dVar, dC, dOp, dUn, dB, dNot, dAnd, dOr, dAndV, dOrV, dNotV, dIfE, dCB, dNil, dCons, dTup, dLst, dLstO, dCall, dMake, dFld, dSetF, dAsg, dgTup, dgCons, dgNil, dgN, dStore, dApp, dBM, dChain, dSl, dPart, dNoPart, dRaise, dEndB, gI2, gNeg, gAdd, gMul, gEqB, gIsB, gStr, gInt, gIsi, tyM, List.getElem?_cons_zero, List.getElem?_cons_succ, List.set_cons_zero, List.set_cons_succ, Option.some.injEq, exists_eq_left', exists_eq_left, List.cons.injEq, and_true, true_and, D.bl.injEq, D.int.injEq, D.str.injEq, D.own.injEq, D.tup.injEq, List.length_cons, List.length_nil, if_true, if_false, Bool.false_eq_true, reduceIte, dFor, dIL]
  refine ⟨by decide, ps.map pairD, lst_app _ hd, fun i env L' => ∃ f o2 o3, env = [some d, some (.own L.length), o2, o3] ∧ L' = L ++ [.lst (f.map .str)] ∧ f.length ≤ i ∧ housesGo (ps.map (·.1)) [] = housesGo ((ps.drop i).map (·.1)) f, ⟨[], none, none, rfl, rfl, Nat.le_refl _, rfl⟩, ?_, ?_, ?_⟩
  · rintro i env L' ⟨f, o2, o3, rfl, rfl, _, _⟩
    exact lst_app _ hd
  · rintro i env L' x hi hx ⟨f, o2, o3, rfl, rfl, hf, hg⟩
    have hi' : i < ps.length := by have : i < (ps.map pairD).length := hi; rwa [List.length_map] at this
    have hx' : (ps.map pairD)[i]? = some x := hx
    rw [List.getElem?_map, List.getElem?_eq_getElem hi'] at hx'
    obtain rfl : pairD ps[i] = x := Option.some.inj hx'
    obtain ⟨t, ht, hs⟩ := hh _ (List.getElem_mem hi')
    have ed : (ps.drop i).map (·.1) = ps[i].1 :: (ps.drop (i + 1)).map (·.1) := by rw [List.drop_eq_getElem_cons hi', List.map_cons]
    rw [ed, housesGo_cons] at hg
    try simp (config := { maxSteps := 2000000 }) only [dSeq, dNext, dSet, dRet, dRetN, dIf, dDrop, dVar, dC, dOp, dUn, dB, dNot, dAnd, dOr, dAndV, dOrV, dNotV, dIfE, dCB, dNil, dCons, dTup, dLst, dLstO, dCall, dMake, dFld, dSetF, dAsg, dgTup, dgCons, dgNil, dgN, dStore, dApp, dBM, dChain, dSl, dPart, dNoPart, dRaise, dEndB, gI2, gNeg, gAdd, gMul, gEqB, gIsB, gStr, gInt, gIsi, tyM, List.getElem?_cons_zero, List.getElem?_cons_succ, List.set_cons_zero, List.set_cons_succ, Option.some.injEq, exists_eq_left', exists_eq_left, List.cons.injEq, and_true, true_and, D.bl.injEq, D.int.injEq, D.str.injEq, D.own.injEq, D.tup.injEq, List.length_cons, List.length_nil, if_true, if_false, Bool.false_eq_true, reduceIte, pairD, S_is_name]
    refine ⟨_, _, ⟨rfl, rfl⟩, _, _, rfl, rfl, _, t, rfl, tyS_app _ ht, hs, ?_⟩
    cases en : nameOk ps[i].1 with
    | false =>
      rw [if_pos (by decide)]
      have : housesGo (ps.map (·.1)) [] = none := by
        rw [hg]
        cases eh : ps[i].1 with
        | str s =>
          rw [eh] at en
          have en' : nameS s = false := en
          dsimp only
          rw [if_neg (by rw [en']; simp)]
        | _ => rfl
      rw [this] at q
      exact bxG _ q
    | true =>
      rw [if_neg (by decide)]
      have : ∃ s, ps[i].1 = .str s := by
        cases eh : ps[i].1 with
        | str s => exact ⟨s, rfl⟩
        | _ => rw [eh] at en; cases en
      obtain ⟨s, es⟩ := this
      rw [es] at en hg ⊢
      have en' : nameS s = true := en
      dsimp only at hg
      try simp (config := { maxSteps := 2000000 }) only [dSeq, dNext, dSet, dRet, dRetN, dIf, dDrop, dVar, dC, dOp, dUn, dB, dNot, dAnd, dOr, dAndV, dOrV, dNotV, dIfE, dCB, dNil, dCons, dTup, dLst, dLstO, dCall, dMake, dFld, dSetF, dAsg, dgTup, dgCons, dgNil, dgN, dStore, dApp, dBM, dChain, dSl, dPart, dNoPart, dRaise, dEndB, gI2, gNeg, gAdd, gMul, gEqB, gIsB, gStr, gInt, gIsi, tyM, List.getElem?_cons_zero, List.getElem?_cons_succ, List.set_cons_zero, List.set_cons_succ, Option.some.injEq, exists_eq_left', exists_eq_left, List.cons.injEq, and_true, true_and, D.bl.injEq, D.int.injEq, D.str.injEq, D.own.injEq, D.tup.injEq, List.length_cons, List.length_nil, if_true, if_false, Bool.false_eq_true, reduceIte, gInB]
      refine ⟨_, lst_own (get_end _), rfl, flat_strs f, ?_⟩
      rw [inD_strs, Bool.false_xor]
      by_cases hm : s ∈ f
      · rw [if_neg (by simp [hm])] at hg
        rw [if_pos (by simpa using hm)]
        rw [hg] at q
        exact bxG _ q
      · rw [if_pos ⟨en', hm⟩] at hg
        rw [if_neg (by simpa using hm)]
        refine ⟨_, _, rfl, get_end _, _, get_end _, by rw [List.length_map]; omega, ?_⟩
        refine ⟨f ++ [s], _, _, ⟨rfl, rfl⟩, ?_, ?_, hg⟩
        · rw [set_end, List.map_append]
          rfl
        · rw [List.length_append]
          simp
          omega
  · rintro env L' ⟨f, o2, o3, rfl, rfl, hf, hg⟩
    have e : ps.drop (ItD.n ⟨(ps.map pairD).length, fun i => (ps.map pairD)[i]?, fun L' => lst? L' d = some (ps.map pairD)⟩) = [] := by
      apply List.drop_eq_nil_of_le
      show ps.length ≤ (ps.map pairD).length
      rw [List.length_map]
      exact Nat.le_refl _
    rw [e] at hg
    have hg' : housesGo (ps.map (·.1)) [] = some f := hg
    rw [hg'] at q
    try simp (config := { maxSteps := 2000000 }) only [dSeq, dNext, dSet, dRet, dRetN, dIf, dDrop, dVar, dC, dOp, dUn, dB, dNot, dAnd, dOr, dAndV, dOrV, dNotV, dIfE, dCB, dNil, dCons, dTup, dLst, dLstO, dCall, dMake, dFld, dSetF, dAsg, dgTup, dgCons, dgNil, dgN, dStore, dApp, dBM, dChain, dSl, dPart, dNoPart, dRaise, dEndB, gI2, gNeg, gAdd, gMul, gEqB, gIsB, gStr, gInt, gIsi, tyM, List.getElem?_cons_zero, List.getElem?_cons_succ, List.set_cons_zero, List.set_cons_succ, Option.some.injEq, exists_eq_left', exists_eq_left, List.cons.injEq, and_true, true_and, D.bl.injEq, D.int.injEq, D.str.injEq, D.own.injEq, D.tup.injEq, List.length_cons, List.length_nil, if_true, if_false, Bool.false_eq_true, reduceIte]
    exact bkL _ (get_end _) (Nat.le_refl _) (closA_map (fun _ => rfl) _) q
theorem r_Deal_init (T : Txt K mg c) : ∀ ds L Q X, S_Deal_init c ds L Q X → rd_Deal_init K c (dEndB L Q X) (startD ["self", "weights"] ds) L := by
  rintro ds L Q X ⟨k, d, es, rfl, hk, hd, ht, hl, hty, q, qx⟩
  show rd_Deal_init K c (dEndB L Q X) [some (.own k), some d] L
  unfold rd_Deal_init
  try simp (config := { maxSteps := 2000000 }) only [dSeq, dNext, dSet, dRet, dRetN, dIf, dDrop, dVar, dC, dOp, dUn, dB, dNot, dAnd, dOr, dAndV, dOrV, dNotV, dIfE, dCB, dNil, dCons, dTup, dLst, dLstO, dCall, dMake, dFld, dSetF, dAsg, dgTup, dgCons, dgNil, dgN, dStore, dApp, dBM, dChain, dSl, dPart, dNoPart, dRaise, dEndB, gI2, gNeg, gAdd, gMul, gEqB, gIsB, gStr, gInt, gIsi, tyM, List.getElem?_cons_zero, List.getElem?_cons_succ, List.set_cons_zero, List.set_cons_succ, Option.some.injEq, exists_eq_left', exists_eq_left, List.cons.injEq, and_true, true_and, D.bl.injEq, D.int.injEq, D.str.injEq, D.own.injEq, D.tup.injEq, List.length_cons, List.length_nil, if_true, if_false, Bool.false_eq_true, reduceIte, S_turns]
  refine ⟨d, es, rfl, hd, ht, hl, hty, fun ws hws hto => ?_, fun hn => ?_⟩
  · refine ⟨k, _, _, rfl, hk, T.f_Deal_wheel, by decide, ?_⟩
    try simp (config := { maxSteps := 2000000 }) only [dSeq, dNext, dSet, dRet, dRetN, dIf, dDrop, dVar, dC, dOp, dUn, dB, dNot, dAnd, dOr, dAndV, dOrV, dNotV, dIfE, dCB, dNil, dCons, dTup, dLst, dLstO, dCall, dMake, dFld, dSetF, dAsg, dgTup, dgCons, dgNil, dgN, dStore, dApp, dBM, dChain, dSl, dPart, dNoPart, dRaise, dEndB, gI2, gNeg, gAdd, gMul, gEqB, gIsB, gStr, gInt, gIsi, tyM, List.getElem?_cons_zero, List.getElem?_cons_succ, List.set_cons_zero, List.set_cons_succ, Option.some.injEq, exists_eq_left', exists_eq_left, List.cons.injEq, and_true, true_and, D.bl.injEq, D.int.injEq, D.str.injEq, D.own.injEq, D.tup.injEq, List.length_cons, List.length_nil, if_true, if_false, Bool.false_eq_true, reduceIte, gListF]
    have ed : ∀ o, lst? (L.set k o) d = some es := fun o => lst_set hk hd
    have es' : seq? (L.set k (.ins c.Deal [("wheel", D.lst ((wheelOf ws).map .int))])) d = some es := by
      have := ed (.ins c.Deal [("wheel", D.lst ((wheelOf ws).map .int))])
      cases d with
      | tup xs => cases hd
      | _ => exact this
    refine ⟨d, es, rfl, es', k, _, _, rfl, get_set hk, T.f_Deal_weights, (by show 1 < 1000; decide), _, ?_, q ws hws hto⟩
    rw [List.set_set]
    have e1 := (goodWs_spec hws).1
    subst e1
    exact .wr0 (lt_of_get hk) fun L1 => .ins (.cons (.lst (frz_closA (closA_map (fun _ => rfl) _))) (.cons (.lst (frz_closA (closA_map (fun _ => rfl) _))) .nil))
  · have := qx hn
    refine ⟨[], L.set k .gone, ?_, .nil, this⟩
    have h2 : L = L.set k (.ins c.Deal []) := by
      apply List.ext_getElem?
      intro j
      by_cases e : k = j
      · subst e; rw [get_set hk, hk]
      · rw [List.getElem?_set_ne e]
    have : Bck L (L.set k (.ins c.Deal [])) (L.set k .gone) := .wr0 (lt_of_get hk) fun _ => .gone
    rwa [← h2] at this
end
end K38
set_option Elab.async false
set_option linter.all false
set_option maxRecDepth 100000
set_option maxHeartbeats 2000000
namespace K38
open PySem PySem.Spec PyProof.Rows L2 DL
section
variable {K : PySem.W.Frag} {mg : Str → Option Value} {c : Cs}
theorem ok_set {L : LH} {k : Nat} {C : Addr} {fs : List (Str × D)} {o : OD} {h : D} (hk : L[k]? = some (.ins C fs)) (hh : okH L h) : okH (L.set k o) h := by
  obtain ⟨t, h1, h2⟩ := hh
  exact ⟨t, tyS_set hk h1, h2⟩
theorem seq_lst {L : LH} {d : D} {xs : List D} (h : lst? L d = some xs) : seq? L d = some xs := by
  cases d with
  | tup _ => cases h
  | _ => exact h
theorem frz_hs (L : LH) (n : Nat) (hs : List Str) : Frz L n (.lst (hs.map .str)) (.lst (hs.map .str)) := .lst (frz_closA (closA_map (fun _ => rfl) _))
theorem frz_deal (L : LH) (n : Nat) (C : Addr) (ws : List Int) : FrzP L n (dealF ws) (dealF ws) := .cons (.lst (frz_closA (closA_map (fun _ => rfl) _))) (.cons (.lst (frz_closA (closA_map (fun _ => rfl) _))) .nil)
theorem r_Cover_init (T : Txt K mg c) : ∀ ds L Q X, S_Cover_init c ds L Q X → rd_Cover_init K c (dEndB L Q X) (startD ["self", "name", "condition", "clauses", "houses", "waits", "pairs", "house", "weight"] ds) L := by
  rintro ds L Q X ⟨k, nm, cond, cl, ho, wa, cs, ps, rfl, hk, hnm, hcl, hho, hcs, hps, hp, hsc, hsw, hss, q0, q1, q2⟩
  show rd_Cover_init K c (dEndB L Q X) [some (.own k), some nm, some cond, some cl, some ho, some wa, none, none, none] L
  unfold rd_Cover_init
  have kl := lt_of_get hk
  try simp (config := { maxSteps := 2000000 }) only [dSeq, dNext, dSet, dRet, dRetN, dIf, dDrop, dVar, dC, dOp, dUn, dB, dNot, dAnd, dOr, dAndV, dOrV, dNotV, dIfE, dCB, dNil, dCons, dTup, dLst, dLstO, dCall, dMake, dFld, dSetF, dAsg, dgTup, dgCons, dgNil, dgN, dStore, dApp, dBM, dChain, dSl, dPart, dNoPart, dRaise, dEndB, gI2, gNeg, gAdd, gMul, gIsB, gStr, gInt, gIsi, tyM, List.getElem?_cons_zero, List.getElem?_cons_succ, List.set_cons_zero, List.set_cons_succ, Option.some.injEq, exists_eq_left', exists_eq_left, List.cons.injEq, and_true, true_and, D.bl.injEq, D.int.injEq, D.str.injEq, D.own.injEq, D.tup.injEq, List.length_cons, List.length_nil, if_true, if_false, Bool.false_eq_true, reduceIte, S_is_name]
  obtain ⟨t, ht, hs⟩ := id hnm
  refine ⟨nm, t, rfl, ht, hs, ?_⟩
  by_cases h1 : nameOk nm = false
  · rw [if_pos (by rw [h1]; rfl)]
    exact bx_gone1 hk (q1 (by unfold coverOf; rw [if_pos (Or.inl h1)]))
  · have h1' : nameOk nm = true := by simpa using h1
    rw [if_neg (by rw [h1']; decide)]
    have : ∃ s, nm = .str s := by
      cases nm with
      | str s => exact ⟨s, rfl⟩
      | _ => cases h1'
    obtain ⟨s, rfl⟩ := this
    try simp (config := { maxSteps := 2000000 }) only [dSeq, dNext, dSet, dRet, dRetN, dIf, dDrop, dVar, dC, dOp, dUn, dB, dNot, dAnd, dOr, dAndV, dOrV, dNotV, dIfE, dCB, dNil, dCons, dTup, dLst, dLstO, dCall, dMake, dFld, dSetF, dAsg, dgTup, dgCons, dgNil, dgN, dStore, dApp, dBM, dChain, dSl, dPart, dNoPart, dRaise, dEndB, gI2, gNeg, gAdd, gMul, gEqB, gIsB, gStr, gInt, gIsi, tyM, List.getElem?_cons_zero, List.getElem?_cons_succ, List.set_cons_zero, List.set_cons_succ, Option.some.injEq, exists_eq_left', exists_eq_left, List.cons.injEq, and_true, true_and, D.bl.injEq, D.int.injEq, D.str.injEq, D.own.injEq, D.tup.injEq, List.length_cons, List.length_nil, if_true, if_false, Bool.false_eq_true, reduceIte]
    rw [Bool.false_xor]
    by_cases h2 : s = "self"
    · rw [if_pos (by simpa using h2)]
      exact bx_gone1 hk (q1 (by unfold coverOf; rw [if_pos (Or.inr (Or.inl (by unfold isSelf; simpa using h2)))]))
    · rw [if_neg (by simpa using h2)]
      refine ⟨k, _, _, rfl, hk, T.f_Cover_name, by decide, ?_⟩
      refine ⟨k, _, _, rfl, get_set hk, T.f_Cover_condition, (by show 1 < 1000; decide), ?_⟩
      rw [List.set_set]
      refine ⟨by decide, k, _, _, rfl, get_set hk, T.f_Cover_clauses, (by show 2 < 1000; decide), ?_⟩
      rw [List.set_set]
      try simp (config := { maxSteps := 2000000 }) only [dSeq, dNext, dSet, dRet, dRetN, dIf, dDrop, dVar, dC, dOp, dUn, dB, dNot, dAnd, dOr, dAndV, dOrV, dNotV, dIfE, dCB, dNil, dCons, dTup, dLst, dLstO, dCall, dMake, dFld, dSetF, dAsg, dgTup, dgCons, dgNil, dgN, dStore, dApp, dBM, dChain, dSl, dPart, dNoPart, dRaise, dEndB, gI2, gNeg, gAdd, gMul, gEqB, gStr, gInt, gIsi, tyM, List.getElem?_cons_zero, List.getElem?_cons_succ, List.set_cons_zero, List.set_cons_succ, Option.some.injEq, exists_eq_left', exists_eq_left, List.cons.injEq, and_true, true_and, D.bl.injEq, D.int.injEq, D.str.injEq, D.own.injEq, D.tup.injEq, List.length_cons, List.length_nil, if_true, if_false, Bool.false_eq_true, reduceIte, dCut]
      refine ⟨fun env L1 => env = [some (.own k), some (.str s), some cond, some cl, some ho, some wa, none, none, none] ∧ L1 = L.set k (.ins c.Cover [("name", .str s), ("condition", cond), ("clauses", .lst cs)]), ?_, ?_⟩
      · rcases hcl with ⟨rfl, rfl⟩ | ⟨hn, hc⟩
        · refine gIsnot_non rfl ?_
          try simp (config := { maxSteps := 2000000 }) only [dSeq, dNext, dSet, dRet, dRetN, dIf, dDrop, dVar, dC, dOp, dUn, dB, dNot, dAnd, dOr, dAndV, dOrV, dNotV, dIfE, dCB, dNil, dCons, dTup, dLst, dLstO, dCall, dMake, dFld, dSetF, dAsg, dgTup, dgCons, dgNil, dgN, dStore, dApp, dBM, dChain, dSl, dPart, dNoPart, dRaise, dEndB, gI2, gNeg, gAdd, gMul, gEqB, gIsB, gStr, gInt, gIsi, tyM, List.getElem?_cons_zero, List.getElem?_cons_succ, List.set_cons_zero, List.set_cons_succ, Option.some.injEq, exists_eq_left', exists_eq_left, List.cons.injEq, and_true, true_and, D.bl.injEq, D.int.injEq, D.str.injEq, D.own.injEq, D.tup.injEq, List.length_cons, List.length_nil, if_true, if_false, Bool.false_eq_true, reduceIte]
          rw [if_neg (by decide)]
          rfl
        · refine gIsnot_non hn ?_
          try simp (config := { maxSteps := 2000000 }) only [dSeq, dNext, dSet, dRet, dRetN, dIf, dDrop, dVar, dC, dOp, dUn, dB, dNot, dAnd, dOr, dAndV, dOrV, dNotV, dIfE, dCB, dNil, dCons, dTup, dLst, dLstO, dCall, dMake, dFld, dSetF, dAsg, dgTup, dgCons, dgNil, dgN, dStore, dApp, dBM, dChain, dSl, dPart, dNoPart, dRaise, dEndB, gI2, gNeg, gAdd, gMul, gEqB, gIsB, gStr, gInt, gIsi, tyM, List.getElem?_cons_zero, List.getElem?_cons_succ, List.set_cons_zero, List.set_cons_succ, Option.some.injEq, exists_eq_left', exists_eq_left, List.cons.injEq, and_true, true_and, D.bl.injEq, D.int.injEq, D.str.injEq, D.own.injEq, D.tup.injEq, List.length_cons, List.length_nil, if_true, if_false, Bool.false_eq_true, reduceIte, gListF]
          rw [if_pos (by decide)]
          refine ⟨cl, cs, rfl, seq_lst (lst_set hk hc), k, _, _, rfl, get_set hk, T.f_Cover_clauses, (by show 3 < 1000; decide), ?_⟩
          rw [List.set_set]
          rfl
      · rintro _ _ ⟨rfl, rfl⟩
        try simp (config := { maxSteps := 2000000 }) only [dSeq, dNext, dSet, dRet, dRetN, dIf, dDrop, dVar, dC, dOp, dUn, dB, dNot, dAnd, dOr, dAndV, dOrV, dNotV, dIfE, dCB, dNil, dCons, dTup, dLst, dLstO, dCall, dMake, dFld, dSetF, dAsg, dgTup, dgCons, dgNil, dgN, dStore, dApp, dBM, dChain, dSl, dPart, dNoPart, dRaise, dEndB, gI2, gNeg, gAdd, gMul, gEqB, gStr, gInt, gIsi, tyM, List.getElem?_cons_zero, List.getElem?_cons_succ, List.set_cons_zero, List.set_cons_succ, Option.some.injEq, exists_eq_left', exists_eq_left, List.cons.injEq, and_true, true_and, D.bl.injEq, D.int.injEq, D.str.injEq, D.own.injEq, D.tup.injEq, List.length_cons, List.length_nil, if_true, if_false, Bool.false_eq_true, reduceIte, dCut]
        refine ⟨c.Cover, _, .lst cs, ins_own (get_set hk), T.f_Cover_clauses, rfl, ?_⟩
        refine gLen_lst rfl ?_
        try simp (config := { maxSteps := 2000000 }) only [dSeq, dNext, dSet, dRet, dRetN, dIf, dDrop, dVar, dC, dOp, dUn, dB, dNot, dAnd, dOr, dAndV, dOrV, dNotV, dIfE, dCB, dNil, dCons, dTup, dLst, dLstO, dCall, dMake, dFld, dSetF, dAsg, dgTup, dgCons, dgNil, dgN, dStore, dApp, dBM, dChain, dSl, dPart, dNoPart, dRaise, dEndB, gI2, gNeg, gAdd, gMul, gEqB, gStr, gInt, gIsi, tyM, List.getElem?_cons_zero, List.getElem?_cons_succ, List.set_cons_zero, List.set_cons_succ, Option.some.injEq, exists_eq_left', exists_eq_left, List.cons.injEq, and_true, true_and, D.bl.injEq, D.int.injEq, D.str.injEq, D.own.injEq, D.tup.injEq, List.length_cons, List.length_nil, if_true, if_false, Bool.false_eq_true, reduceIte, dCut]
        by_cases h3 : 8 < cs.length
        · rw [if_pos (by simp; omega)]
          exact bx_gone0 kl (q1 (by unfold coverOf; rw [if_pos (Or.inr (Or.inr h3))]))
        · rw [if_neg (by simp; omega)]
          have cov : coverOf (.str s) cs.length ps = match housesGo (ps.map (·.1)) [] with
              | none => 1
              | some _ => match totalOf (ps.map (·.2)) with
                | none => 2
                | some _ => 0 := by
            unfold coverOf
            rw [if_neg (by rw [h1']; simp [isSelf, h2]; omega)]
            try rfl
          rw [cov] at q0 q1 q2
          refine ⟨by decide, by decide, fun env L1 => ∃ pd, env = [some (.own k), some (.str s), some cond, some cl, some ho, some wa, some pd, none, none] ∧ L1 = L.set k (.ins c.Cover [("name", .str s), ("condition", cond), ("clauses", .lst cs)]) ∧ lst? L1 pd = some (ps.map pairD) ∧ tyS L1 pd = some "list", ?_, ?_⟩
          · rcases hho with ⟨rfl, rfl⟩ | ⟨hn, hc, hc2⟩
            · refine gIsnot_non rfl ?_
              try simp (config := { maxSteps := 2000000 }) only [dSeq, dNext, dSet, dRet, dRetN, dIf, dDrop, dVar, dC, dOp, dUn, dB, dNot, dAnd, dOr, dAndV, dOrV, dNotV, dIfE, dCB, dNil, dCons, dTup, dLst, dLstO, dCall, dMake, dFld, dSetF, dAsg, dgTup, dgCons, dgNil, dgN, dStore, dApp, dBM, dChain, dSl, dPart, dNoPart, dRaise, dEndB, gI2, gNeg, gAdd, gMul, gEqB, gIsB, gStr, gInt, gIsi, tyM, List.getElem?_cons_zero, List.getElem?_cons_succ, List.set_cons_zero, List.set_cons_succ, Option.some.injEq, exists_eq_left', exists_eq_left, List.cons.injEq, and_true, true_and, D.bl.injEq, D.int.injEq, D.str.injEq, D.own.injEq, D.tup.injEq, List.length_cons, List.length_nil, if_true, if_false, Bool.false_eq_true, reduceIte]
              rw [if_neg (by decide)]
              exact ⟨rfl, rfl⟩
            · refine gIsnot_non hn ?_
              try simp (config := { maxSteps := 2000000 }) only [dSeq, dNext, dSet, dRet, dRetN, dIf, dDrop, dVar, dC, dOp, dUn, dB, dNot, dAnd, dOr, dAndV, dOrV, dNotV, dIfE, dCB, dNil, dCons, dTup, dLst, dLstO, dCall, dMake, dFld, dSetF, dAsg, dgTup, dgCons, dgNil, dgN, dStore, dApp, dBM, dChain, dSl, dPart, dNoPart, dRaise, dEndB, gI2, gNeg, gAdd, gMul, gEqB, gIsB, gStr, gInt, gIsi, tyM, List.getElem?_cons_zero, List.getElem?_cons_succ, List.set_cons_zero, List.set_cons_succ, Option.some.injEq, exists_eq_left', exists_eq_left, List.cons.injEq, and_true, true_and, D.bl.injEq, D.int.injEq, D.str.injEq, D.own.injEq, D.tup.injEq, List.length_cons, List.length_nil, if_true, if_false, Bool.false_eq_true, reduceIte]
              rw [if_pos (by decide)]
              exact ⟨lst_set hk hc, tyS_set hk hc2⟩
          · rintro _ _ ⟨pd, rfl, rfl, hl, hty⟩
            try simp (config := { maxSteps := 2000000 }) only [dSeq, dNext, dSet, dRet, dRetN, dIf, dDrop, dVar, dC, dOp, dUn, dB, dNot, dAnd, dOr, dAndV, dOrV, dNotV, dIfE, dCB, dNil, dCons, dTup, dLst, dLstO, dCall, dMake, dFld, dSetF, dAsg, dgTup, dgCons, dgNil, dgN, dStore, dApp, dBM, dChain, dSl, dPart, dNoPart, dRaise, dEndB, gI2, gNeg, gAdd, gMul, gEqB, gIsB, gStr, gInt, gIsi, tyM, List.getElem?_cons_zero, List.getElem?_cons_succ, List.set_cons_zero, List.set_cons_succ, Option.some.injEq, exists_eq_left', exists_eq_left, List.cons.injEq, and_true, true_and, D.bl.injEq, D.int.injEq, D.str.injEq, D.own.injEq, D.tup.injEq, List.length_cons, List.length_nil, if_true, if_false, Bool.false_eq_true, reduceIte, S_need_houses]
            refine ⟨pd, ps, rfl, hl, hps, fun p h => ok_set hk (hp p h).1, ?_⟩
            cases eh : housesGo (ps.map (·.1)) [] with
            | none =>
              rw [eh] at q1
              exact bx_gone0 kl (q1 rfl)
            | some hs' =>
              rw [eh] at q0 q2
              refine ⟨k, _, _, rfl, get_set hk, T.f_Cover_houses, (by show 3 < 1000; decide), ?_⟩
              rw [List.set_set]
              try simp (config := { maxSteps := 2000000 }) only [dSeq, dNext, dSet, dRet, dRetN, dIf, dDrop, dVar, dC, dOp, dUn, dB, dNot, dAnd, dOr, dAndV, dOrV, dNotV, dIfE, dCB, dNil, dCons, dTup, dLst, dLstO, dCall, dMake, dFld, dSetF, dAsg, dgTup, dgCons, dgNil, dgN, dStore, dApp, dBM, dChain, dSl, dPart, dNoPart, dRaise, dEndB, gI2, gNeg, gAdd, gMul, gEqB, gIsB, gStr, gInt, gIsi, tyM, List.getElem?_cons_zero, List.getElem?_cons_succ, List.set_cons_zero, List.set_cons_succ, Option.some.injEq, exists_eq_left', exists_eq_left, List.cons.injEq, and_true, true_and, D.bl.injEq, D.int.injEq, D.str.injEq, D.own.injEq, D.tup.injEq, List.length_cons, List.length_nil, if_true, if_false, Bool.false_eq_true, reduceIte, dLcG, dIL, dYes, cgD, wipeD, setsD, S_Deal_init]
              have hl2 : ∀ o, lst? (L.set k o) pd = some (ps.map pairD) := fun o => by
                have := lst_set (o := o) (get_set (o' := .ins c.Cover [("name", D.str s), ("condition", cond), ("clauses", .lst cs)]) hk) hl
                rwa [List.set_set] at this
              refine ⟨ps.map pairD, hl2 _, fun i acc L2 => L2 = L.set k (.ins c.Cover (putD "houses" (.lst (hs'.map .str)) [("name", .str s), ("condition", cond), ("clauses", .lst cs)])) ∧ acc = (ps.take i).map (·.2), ⟨rfl, rfl⟩, ?_, ?_, ?_⟩
              · rintro i acc L2 ⟨rfl, _⟩
                exact hl2 _
              · rintro i acc L2 x hi hx ⟨rfl, rfl⟩
                have hi' : i < ps.length := by have : i < (ps.map pairD).length := hi; rwa [List.length_map] at this
                have hx' : (ps.map pairD)[i]? = some x := hx
                rw [List.getElem?_map, List.getElem?_eq_getElem hi'] at hx'
                obtain rfl : pairD ps[i] = x := Option.some.inj hx'
                refine ⟨by rw [List.length_map, List.length_take]; omega, _, rfl, rfl, ?_⟩
                refine ⟨_, rfl, rfl, ?_⟩
                rw [List.take_add_one, List.getElem?_eq_getElem hi', List.map_append]
                rfl
              · rintro acc L2 ⟨rfl, rfl⟩
                have et : (ps.take (ps.map pairD).length).map (·.2) = ps.map (·.2) := by rw [List.length_map, List.take_length]
                show ∃ k_1 d es, _
                rw [et]
                refine ⟨_, _, ps.map (·.2), ⟨rfl, rfl⟩, get_end _, rfl, rfl, by rw [List.length_map]; exact hps, ?_, ?_, ?_⟩
                · intro w hw
                  obtain ⟨p, hp1, rfl⟩ := List.mem_map.mp hw
                  obtain ⟨t2, ht2⟩ := (hp p hp1).2
                  exact ⟨t2, tyS_app _ (tyS_set hk ht2)⟩
                · intro ws hws hto
                  rw [set_end]
                  refine ⟨k, _, _, rfl, get_app _ (get_set hk), T.f_Cover_deal, (by show 4 < 1000; decide), ?_⟩
                  rw [List.set_append_left _ _ (by rw [List.length_set]; exact kl), List.set_set]
                  refine ⟨k, _, _, rfl, get_app _ (get_set hk), T.f_Cover_waits, (by show 5 < 1000; decide), ?_⟩
                  rw [List.set_append_left _ _ (by rw [List.length_set]; exact kl), List.set_set]
                  rw [hto] at q0
                  refine ⟨_, ?_, q0 rfl hs' ws rfl hws rfl⟩
                  refine .set kl (.ins (.cons (.str s) (.cons (frz_shut hsc) (.cons (.lst (frz_shutA (shutA_mem hss))) (.cons (frz_hs _ _ _) (.cons ?_ (.cons (frz_shut hsw) .nil)))))))
                  rw [List.length_set]
                  exact .insO (Nat.le_refl _) get_endS (frz_deal _ _ c.Deal ws)
                · intro hn
                  rw [set_end]
                  rw [hn] at q2
                  exact bx_gone _ kl (q2 rfl)
end
end K38
set_option Elab.async false
set_option linter.all false
set_option maxRecDepth 100000
set_option maxHeartbeats 2000000
namespace K38
open PySem PySem.Spec PyProof.Rows L2 DL
section
variable {K : PySem.W.Frag} {mg : Str → Option Value} {c : Cs}
theorem cut_left (xs : List D) (k : Nat) (h : k ≤ xs.length) : DL.cutD xs none (some (k : Int)) = xs.take k := by
  unfold DL.cutD
  rw [HT.sIx_none, HT.sIx_nat, List.drop_zero, Nat.sub_zero, Nat.min_eq_left h]
theorem foldl_len (base : List Int) : ∀ ps : List Int, (ps.foldl bump base).length = base.length := by
  intro ps
  induction ps generalizing base with
  | nil => rfl
  | cons p ps ih => rw [List.foldl_cons, ih]; unfold bump; rw [List.length_set]
theorem r_Deal_counts_to (T : Txt K mg c) : ∀ ds L Q X, S_Deal_counts_to c ds L Q X → rd_Deal_counts_to K c (dEndB L Q X) (startD ["self", "n", "rounds", "left", "counts", "place", "weight"] ds) L := by
  rintro ds L Q X ⟨o, ws, rfl, ho, hto, q⟩
  show rd_Deal_counts_to K c (dEndB L Q X) [some o, some (.int 37), none, none, none, none, none] L
  unfold rd_Deal_counts_to
  obtain ⟨ws', hws'⟩ := total_some hto
  obtain ⟨W0, hs, he⟩ := Wts.of hto hws'
  have W : Wts ws ws.sum := by
    have : ws = ws' := by
      have := congrArg (List.map fun d => match d with | D.int i => i | _ => 0) he
      simpa [List.map_map, Function.comp_def] using this
    rw [← this] at W0
    exact W0
  have t0 := W.t0
  have t1 := W.t1
  have TT := turn_ok W ws.sum.toNat (by omega)
  have wl : (wheelOf ws).length = ws.sum.toNat := TT.wl
  have ww : ∀ x ∈ wheelOf ws, 0 ≤ x ∧ x < ws.length := TT.w
  have wpos : (0 : Int) < (wheelOf ws).length := by omega
  have hlr : 0 ≤ (37 : Int) % (wheelOf ws).length ∧ (37 : Int) % (wheelOf ws).length < (wheelOf ws).length := ⟨Int.emod_nonneg _ (by omega), Int.emod_lt_of_pos _ wpos⟩
  try simp (config := { maxSteps := 2000000 }) only [dSeq, dNext, dSet, dRet, dRetN, dIf, dDrop, dVar, dC, dOp, dUn, dB, dNot, dAnd, dOr, dAndV, dOrV, dNotV, dIfE, dCB, dNil, dCons, dTup, dLst, dLstO, dCall, dMake, dFld, dSetF, dAsg, dgTup, dgCons, dgNil, dgN, dStore, dApp, dBM, dChain, dSl, dPart, dNoPart, dRaise, dEndB, gI2, gNeg, gAdd, gMul, gEqB, gIsB, gStr, gInt, gIsi, tyM, List.getElem?_cons_zero, List.getElem?_cons_succ, List.set_cons_zero, List.set_cons_succ, Option.some.injEq, exists_eq_left', exists_eq_left, List.cons.injEq, and_true, true_and, D.bl.injEq, D.int.injEq, D.str.injEq, D.own.injEq, D.tup.injEq, List.length_cons, List.length_nil, if_true, if_false, Bool.false_eq_true, reduceIte, gDivmod]
  refine ⟨c.Deal, _, _, ho, T.f_Deal_wheel, rfl, ?_⟩
  refine gLen_lst rfl ?_
  try simp (config := { maxSteps := 2000000 }) only [dSeq, dNext, dSet, dRet, dRetN, dIf, dDrop, dVar, dC, dOp, dUn, dB, dNot, dAnd, dOr, dAndV, dOrV, dNotV, dIfE, dCB, dNil, dCons, dTup, dLst, dLstO, dCall, dMake, dFld, dSetF, dAsg, dgTup, dgCons, dgNil, dgN, dStore, dApp, dBM, dChain, dSl, dPart, dNoPart, dRaise, dEndB, gI2, gNeg, gAdd, gMul, gEqB, gIsB, gStr, gInt, gIsi, tyM, List.getElem?_cons_zero, List.getElem?_cons_succ, List.set_cons_zero, List.set_cons_succ, Option.some.injEq, exists_eq_left', exists_eq_left, List.cons.injEq, and_true, true_and, D.bl.injEq, D.int.injEq, D.str.injEq, D.own.injEq, D.tup.injEq, List.length_cons, List.length_nil, if_true, if_false, Bool.false_eq_true, reduceIte]
  rw [List.length_map]
  refine ⟨_, _, ⟨rfl, rfl⟩, by omega, _, _, ⟨rfl, rfl⟩, _, _, rfl, rfl, ?_⟩
  try simp (config := { maxSteps := 2000000 }) only [dSeq, dNext, dSet, dRet, dRetN, dIf, dDrop, dVar, dC, dOp, dUn, dB, dNot, dAnd, dOr, dAndV, dOrV, dNotV, dIfE, dCB, dNil, dCons, dTup, dLst, dLstO, dCall, dMake, dFld, dSetF, dAsg, dgTup, dgCons, dgNil, dgN, dStore, dApp, dBM, dChain, dSl, dPart, dNoPart, dRaise, dEndB, gI2, gNeg, gAdd, gMul, gEqB, gIsB, gStr, gInt, gIsi, tyM, List.getElem?_cons_zero, List.getElem?_cons_succ, List.set_cons_zero, List.set_cons_succ, Option.some.injEq, exists_eq_left', exists_eq_left, List.cons.injEq, and_true, true_and, D.bl.injEq, D.int.injEq, D.str.injEq, D.own.injEq, D.tup.injEq, List.length_cons, List.length_nil, if_true, if_false, Bool.false_eq_true, reduceIte, dLcG, dIL, dYes, cgD, wipeD]
  refine ⟨c.Deal, _, _, ho, T.f_Deal_weights, rfl, ws.map .int, rfl, fun i acc L' => L' = L ∧ acc = (ws.take i).map fun w => D.int ((37 : Int) / (wheelOf ws).length * w), ⟨rfl, rfl⟩, fun i acc L' h => rfl, ?_, ?_⟩
  · rintro i acc L' x hi hx ⟨rfl, rfl⟩
    have hi' : i < ws.length := by have : i < (ws.map D.int).length := hi; rwa [List.length_map] at this
    have hx' : (ws.map D.int)[i]? = some x := hx
    rw [List.getElem?_map, List.getElem?_eq_getElem hi'] at hx'
    obtain rfl : D.int ws[i] = x := Option.some.inj hx'
    have w1 := W.hi
    refine ⟨by rw [List.length_map, List.length_take]; omega, ?_⟩
    try simp (config := { maxSteps := 2000000 }) only [dSeq, dNext, dSet, dRet, dRetN, dIf, dDrop, dVar, dC, dOp, dUn, dB, dNot, dAnd, dOr, dAndV, dOrV, dNotV, dIfE, dCB, dNil, dCons, dTup, dLst, dLstO, dCall, dMake, dFld, dSetF, dAsg, dgTup, dgCons, dgNil, dgN, dStore, dApp, dBM, dChain, dSl, dPart, dNoPart, dRaise, dEndB, gI2, gNeg, gAdd, gMul, gEqB, gIsB, gStr, gInt, gIsi, tyM, List.getElem?_cons_zero, List.getElem?_cons_succ, List.set_cons_zero, List.set_cons_succ, Option.some.injEq, exists_eq_left', exists_eq_left, List.cons.injEq, and_true, true_and, D.bl.injEq, D.int.injEq, D.str.injEq, D.own.injEq, D.tup.injEq, List.length_cons, List.length_nil, if_true, if_false, Bool.false_eq_true, reduceIte]
    have := W.w _ (List.getElem_mem hi')
    have h3 := (le_sum (ws := ws) fun w hw => by have := W.w w hw; omega).2 _ (List.getElem_mem hi')
    refine ⟨.inr (by omega), ?_⟩
    rw [List.take_add_one, List.getElem?_eq_getElem hi', List.map_append]
    rfl
  · rintro acc L' ⟨rfl, rfl⟩
    have et : ws.take (ws.map D.int).length = ws := by rw [List.length_map, List.take_length]
    try dsimp only
    rw [et]
    try simp (config := { maxSteps := 2000000 }) only [dSeq, dNext, dSet, dRet, dRetN, dIf, dDrop, dVar, dC, dOp, dUn, dB, dNot, dAnd, dOr, dAndV, dOrV, dNotV, dIfE, dCB, dNil, dCons, dTup, dLst, dLstO, dCall, dMake, dFld, dSetF, dAsg, dgTup, dgCons, dgNil, dgN, dStore, dApp, dBM, dChain, dSl, dPart, dNoPart, dRaise, dEndB, gI2, gNeg, gAdd, gMul, gEqB, gIsB, gStr, gInt, gIsi, tyM, List.getElem?_cons_zero, List.getElem?_cons_succ, List.set_cons_zero, List.set_cons_succ, Option.some.injEq, exists_eq_left', exists_eq_left, List.cons.injEq, and_true, true_and, D.bl.injEq, D.int.injEq, D.str.injEq, D.own.injEq, D.tup.injEq, List.length_cons, List.length_nil, if_true, if_false, Bool.false_eq_true, reduceIte, dFor, dIL]
    refine ⟨c.Deal, _, _, ins_app _ ho, T.f_Deal_wheel, rfl, ?_⟩
    refine gSl_lst rfl ?_
    have e37 : (37 : Int) % (wheelOf ws).length = (((37 : Int) % (wheelOf ws).length).toNat : Int) := by omega
    rw [e37, cut_left _ _ (by rw [List.length_map]; omega), ← List.map_take]
    try simp (config := { maxSteps := 2000000 }) only [dSeq, dNext, dSet, dRet, dRetN, dIf, dDrop, dVar, dC, dOp, dUn, dB, dNot, dAnd, dOr, dAndV, dOrV, dNotV, dIfE, dCB, dNil, dCons, dTup, dLst, dLstO, dCall, dMake, dFld, dSetF, dAsg, dgTup, dgCons, dgNil, dgN, dStore, dApp, dBM, dChain, dSl, dPart, dNoPart, dRaise, dEndB, gI2, gNeg, gAdd, gMul, gEqB, gIsB, gStr, gInt, gIsi, tyM, List.getElem?_cons_zero, List.getElem?_cons_succ, List.set_cons_zero, List.set_cons_succ, Option.some.injEq, exists_eq_left', exists_eq_left, List.cons.injEq, and_true, true_and, D.bl.injEq, D.int.injEq, D.str.injEq, D.own.injEq, D.tup.injEq, List.length_cons, List.length_nil, if_true, if_false, Bool.false_eq_true, reduceIte]
    refine ⟨_, rfl, fun i env L2 => ∃ o5, env = [some o, some (.int 37), some (.int (37 / (wheelOf ws).length)), some (.int (37 % (wheelOf ws).length)), some (.own L'.length), o5, none] ∧ L2 = L' ++ [.lst ((((wheelOf ws).take ((37 : Int) % (wheelOf ws).length).toNat).take i).foldl bump (ws.map fun w => 37 / (wheelOf ws).length * w) |>.map .int)], ⟨none, ?_, ?_⟩, fun i env L2 h => rfl, ?_, ?_⟩
    · rw [← e37]
    · rw [List.take_zero, List.foldl_nil, List.map_map]
      rfl
    · rintro i env L2 x hi hx ⟨o5, rfl, rfl⟩
      have hx' : (((wheelOf ws).take ((37 : Int) % (wheelOf ws).length).toNat).map D.int)[i]? = some x := hx
      rw [List.getElem?_map] at hx'
      cases ep : ((wheelOf ws).take ((37 : Int) % (wheelOf ws).length).toNat)[i]? with
      | none => rw [ep] at hx'; cases hx'
      | some p =>
        rw [ep] at hx'
        obtain rfl : D.int p = x := Option.some.inj hx'
        obtain ⟨p0, p1⟩ := ww p (List.mem_of_mem_take (List.mem_of_getElem? ep))
        have pe : p = (p.toNat : Int) := by omega
        have hlen : (((((wheelOf ws).take ((37 : Int) % (wheelOf ws).length).toNat).take i).foldl bump (ws.map fun w => 37 / (wheelOf ws).length * w))).length = ws.length := by rw [foldl_len, List.length_map]
        try simp (config := { maxSteps := 2000000 }) only [dSeq, dNext, dSet, dRet, dRetN, dIf, dDrop, dVar, dC, dOp, dUn, dB, dNot, dAnd, dOr, dAndV, dOrV, dNotV, dIfE, dCB, dNil, dCons, dTup, dLst, dLstO, dCall, dMake, dFld, dSetF, dAsg, dgTup, dgCons, dgNil, dgN, dStore, dApp, dBM, dChain, dSl, dPart, dNoPart, dRaise, dEndB, gI2, gNeg, gAdd, gMul, gEqB, gIsB, gStr, gInt, gIsi, tyM, List.getElem?_cons_zero, List.getElem?_cons_succ, List.set_cons_zero, List.set_cons_succ, Option.some.injEq, exists_eq_left', exists_eq_left, List.cons.injEq, and_true, true_and, D.bl.injEq, D.int.injEq, D.str.injEq, D.own.injEq, D.tup.injEq, List.length_cons, List.length_nil, if_true, if_false, Bool.false_eq_true, reduceIte]
        rw [pe]
        refine gIx_lst (lst_own (get_end _)) (at_nat (map_get (by rw [hlen]; omega))) ?_
        try simp (config := { maxSteps := 2000000 }) only [dSeq, dNext, dSet, dRet, dRetN, dIf, dDrop, dVar, dC, dOp, dUn, dB, dNot, dAnd, dOr, dAndV, dOrV, dNotV, dIfE, dCB, dNil, dCons, dTup, dLst, dLstO, dCall, dMake, dFld, dSetF, dAsg, dgTup, dgCons, dgNil, dgN, dStore, dApp, dBM, dChain, dSl, dPart, dNoPart, dRaise, dEndB, gI2, gNeg, gAdd, gMul, gEqB, gIsB, gStr, gInt, gIsi, tyM, List.getElem?_cons_zero, List.getElem?_cons_succ, List.set_cons_zero, List.set_cons_succ, Option.some.injEq, exists_eq_left', exists_eq_left, List.cons.injEq, and_true, true_and, D.bl.injEq, D.int.injEq, D.str.injEq, D.own.injEq, D.tup.injEq, List.length_cons, List.length_nil, if_true, if_false, Bool.false_eq_true, reduceIte]
        refine ⟨_, _, _, p.toNat, rfl, rfl, get_end _, ixN_nat (by rw [List.length_map, hlen]; omega), ?_⟩
        rw [set_end]
        rw [List.take_add_one, ep, List.foldl_append, ← List.map_set]
        rfl
    · rintro env L2 ⟨o5, rfl, rfl⟩
      try simp (config := { maxSteps := 2000000 }) only [dSeq, dNext, dSet, dRet, dRetN, dIf, dDrop, dVar, dC, dOp, dUn, dB, dNot, dAnd, dOr, dAndV, dOrV, dNotV, dIfE, dCB, dNil, dCons, dTup, dLst, dLstO, dCall, dMake, dFld, dSetF, dAsg, dgTup, dgCons, dgNil, dgN, dStore, dApp, dBM, dChain, dSl, dPart, dNoPart, dRaise, dEndB, gI2, gNeg, gAdd, gMul, gEqB, gIsB, gStr, gInt, gIsi, tyM, List.getElem?_cons_zero, List.getElem?_cons_succ, List.set_cons_zero, List.set_cons_succ, Option.some.injEq, exists_eq_left', exists_eq_left, List.cons.injEq, and_true, true_and, D.bl.injEq, D.int.injEq, D.str.injEq, D.own.injEq, D.tup.injEq, List.length_cons, List.length_nil, if_true, if_false, Bool.false_eq_true, reduceIte]
      refine bkL _ (get_end _) (Nat.le_refl _) (closA_map (fun _ => rfl) _) ?_
      have : countsOf ws 37 = (((wheelOf ws).take ((37 : Int) % (wheelOf ws).length).toNat).take (ItD.n ⟨(((wheelOf ws).take ((37 : Int) % (wheelOf ws).length).toNat).map D.int).length, fun i => (((wheelOf ws).take ((37 : Int) % (wheelOf ws).length).toNat).map D.int)[i]?, fun L' => lst? L' (D.lst (((wheelOf ws).take ((37 : Int) % (wheelOf ws).length).toNat).map D.int)) = some (((wheelOf ws).take ((37 : Int) % (wheelOf ws).length).toNat).map D.int)⟩)).foldl bump (ws.map fun w => 37 / (wheelOf ws).length * w) := by
        show _ = (List.take (((wheelOf ws).take ((37 : Int) % (wheelOf ws).length).toNat).map D.int).length ((wheelOf ws).take ((37 : Int) % (wheelOf ws).length).toNat)).foldl bump (ws.map fun w => 37 / (wheelOf ws).length * w)
        rw [List.length_map, List.take_length]
        rfl
      rw [← this]
      exact q
theorem r_l_cell : ∀ ds L Q X, S_l_cell c ds L Q X → rd_l_cell K c (dEndB L Q X) (startD ["_law_script", "_law_k"] ds) L := by
  rintro ds L Q X ⟨ns, k, rfl, hn, hk, q⟩
  show rd_l_cell K c (dEndB L Q X) [some (.sq (ns.map .int)), some (.int k)] L
  unfold rd_l_cell
  try simp (config := { maxSteps := 2000000 }) only [dSeq, dNext, dSet, dRet, dRetN, dIf, dDrop, dVar, dC, dOp, dUn, dB, dNot, dAnd, dOr, dAndV, dOrV, dNotV, dIfE, dCB, dNil, dCons, dTup, dLst, dLstO, dCall, dMake, dFld, dSetF, dAsg, dgTup, dgCons, dgNil, dgN, dStore, dApp, dBM, dChain, dSl, dPart, dNoPart, dRaise, dEndB, gI2, gNeg, gAdd, gMul, gEqB, gIsB, gStr, gInt, gIsi, tyM, List.getElem?_cons_zero, List.getElem?_cons_succ, List.set_cons_zero, List.set_cons_succ, Option.some.injEq, exists_eq_left', exists_eq_left, List.cons.injEq, and_true, true_and, D.bl.injEq, D.int.injEq, D.str.injEq, D.own.injEq, D.tup.injEq, List.length_cons, List.length_nil, if_true, if_false, Bool.false_eq_true, reduceIte]
  refine gLen_lst rfl ?_
  try simp (config := { maxSteps := 2000000 }) only [dSeq, dNext, dSet, dRet, dRetN, dIf, dDrop, dVar, dC, dOp, dUn, dB, dNot, dAnd, dOr, dAndV, dOrV, dNotV, dIfE, dCB, dNil, dCons, dTup, dLst, dLstO, dCall, dMake, dFld, dSetF, dAsg, dgTup, dgCons, dgNil, dgN, dStore, dApp, dBM, dChain, dSl, dPart, dNoPart, dRaise, dEndB, gI2, gNeg, gAdd, gMul, gEqB, gIsB, gStr, gInt, gIsi, tyM, List.getElem?_cons_zero, List.getElem?_cons_succ, List.set_cons_zero, List.set_cons_succ, Option.some.injEq, exists_eq_left', exists_eq_left, List.cons.injEq, and_true, true_and, D.bl.injEq, D.int.injEq, D.str.injEq, D.own.injEq, D.tup.injEq, List.length_cons, List.length_nil, if_true, if_false, Bool.false_eq_true, reduceIte]
  rw [List.length_map]
  by_cases h : k < ns.length
  · rw [if_pos (by simp; omega)]
    refine gIx_lst rfl (at_nat (map_get h)) ?_
    exact bk0 q
  · rw [if_neg (by simp; omega)]
    have : cellI ns k = 0 := by unfold cellI; rw [List.getD_eq_getElem?_getD, List.getElem?_eq_none (by omega)]; rfl
    rw [this] at q
    exact bk0 q
end
end K38
set_option Elab.async false
set_option linter.all false
set_option maxRecDepth 100000
set_option maxHeartbeats 2000000
namespace K38
open PySem PySem.Spec PyProof.Rows L2 DL
section
variable {K : PySem.W.Frag} {mg : Str → Option Value} {c : Cs}
theorem ok_app {L : LH} (G : LH) {h : D} (hh : okH L h) : okH (L ++ G) h := by
  obtain ⟨t, h1, h2⟩ := hh
  exact ⟨t, tyS_app G h1, h2⟩
theorem cl_app {L : LH} (G : LH) {d : D} {cs : List D} (h : ClO L d cs) : ClO (L ++ G) d cs := by
  rcases h with h | ⟨h1, h2⟩
  · exact .inl h
  · exact .inr ⟨h1, lst_app G h2⟩
theorem ho_app {L : LH} (G : LH) {nm d : D} {ps : List (D × D)} (h : HoO L nm d ps) : HoO (L ++ G) nm d ps := by
  rcases h with h | ⟨h1, h2, h3⟩
  · exact .inl h
  · exact .inr ⟨h1, lst_app G h2, tyS_app G h3⟩
theorem eqvTF (a b : Bool) (h : (a && b) = false) : PyData.eqv (.list [.bool a, .bool b]) (.list [.bool true, .bool true]) = false := by
  cases a <;> cases b <;> first | decide +kernel | cases h
theorem r_l_refused (T : Txt K mg c) : ∀ ds L Q X, S_l_refused c ds L Q X → rd_l_refused K c (dEndB L Q X) (startD ["_law_name", "_law_clauses", "_law_pairs", "e", "_law_others", "_law_some"] ds) L := by
  rintro ds L Q X ⟨nm, cl, ho, cs, ps, rfl, hnm, hcl, hho, hcs, hps, hp, hss, q⟩
  show rd_l_refused K c (dEndB L Q X) [some nm, some cl, some ho, none, none, none] L
  unfold rd_l_refused
  try simp (config := { maxSteps := 2000000 }) only [dSeq, dNext, dSet, dRet, dRetN, dIf, dDrop, dVar, dC, dOp, dUn, dB, dNot, dAnd, dOr, dAndV, dOrV, dNotV, dIfE, dCB, dNil, dCons, dTup, dLst, dLstO, dCall, dMake, dFld, dSetF, dAsg, dgTup, dgCons, dgNil, dgN, dStore, dApp, dBM, dChain, dSl, dPart, dNoPart, dRaise, dEndB, gI2, gNeg, gAdd, gMul, gEqB, gIsB, gStr, gInt, gIsi, tyM, List.getElem?_cons_zero, List.getElem?_cons_succ, List.set_cons_zero, List.set_cons_succ, Option.some.injEq, exists_eq_left', exists_eq_left, List.cons.injEq, and_true, true_and, D.bl.injEq, D.int.injEq, D.str.injEq, D.own.injEq, D.tup.injEq, List.length_cons, List.length_nil, if_true, if_false, Bool.false_eq_true, reduceIte, dTryAs, S_Over_init]
  refine ⟨_, _, ⟨rfl, rfl⟩, get_end _, ?_⟩
  rw [set_end]
  refine ⟨(L ++ [OD.ins c.Over [("cents", D.int 5)]]).length, nm, .own L.length, cl, ho, .bl false, cs, ps, rfl, get_end _, ok_app _ (ok_app _ hnm), cl_app _ (cl_app _ hcl), ho_app _ (ho_app _ hho), hcs, hps, fun p h => ⟨ok_app _ (ok_app _ (hp p h).1), ?_⟩, .own (by simp), .clos rfl, fun x hx => (hss x hx).mono (by simp), fun e hs ws _ _ _ => ?_, fun e => ?_, fun e => ?_⟩
  · obtain ⟨t, ht⟩ := (hp p h).2
    exact ⟨t, tyS_app _ (tyS_app _ ht)⟩
  · rw [e] at q
    rw [set_end, List.append_assoc]
    refine ⟨rfl, ?_⟩
    exact bkG _ q
  · rw [e] at q
    rw [set_end, List.append_assoc]
    refine ⟨true, T.cat_CoverError_NoCover, fun _ a d _ => ?_, fun z => by cases z⟩
    try simp (config := { maxSteps := 2000000 }) only [dSeq, dNext, dSet, dRet, dRetN, dIf, dDrop, dVar, dC, dOp, dUn, dB, dNot, dAnd, dOr, dAndV, dOrV, dNotV, dIfE, dCB, dNil, dCons, dTup, dLst, dLstO, dCall, dMake, dFld, dSetF, dAsg, dgTup, dgCons, dgNil, dgN, dStore, dApp, dBM, dChain, dSl, dPart, dNoPart, dRaise, dEndB, gI2, gNeg, gAdd, gMul, gEqB, gIsB, gStr, gInt, gIsi, tyM, List.getElem?_cons_zero, List.getElem?_cons_succ, List.set_cons_zero, List.set_cons_succ, Option.some.injEq, exists_eq_left', exists_eq_left, List.cons.injEq, and_true, true_and, D.bl.injEq, D.int.injEq, D.str.injEq, D.own.injEq, D.tup.injEq, List.length_cons, List.length_nil, if_true, if_false, Bool.false_eq_true, reduceIte, gIsX]
    refine ⟨_, _, _, ⟨rfl, rfl⟩, T.x_NoCover, ⟨_, .own _, T.kit_NoBook_NoCover⟩, _, _, _, ⟨rfl, rfl⟩, T.x_NoCover, ⟨_, .own _, T.kit_NoClause_NoCover⟩, _, _, _, ⟨rfl, rfl⟩, T.x_NoCover, ⟨_, .own _, T.kit_NoEntry_NoCover⟩, by decide, ?_⟩
    refine ⟨_, _, _, ⟨rfl, rfl⟩, T.x_NoCover, ⟨_, .own _, T.kit_NoCover_NoCover⟩, _, _, _, ⟨rfl, rfl⟩, T.x_NoCover, ⟨_, .own _, T.kit_NoShares_NoCover⟩, by decide, ?_⟩
    refine ⟨_, _, _, ⟨rfl, rfl⟩, T.x_NoCover, ⟨_, .ty _, T.kit_ValueError_NoCover⟩, ?_⟩
    try simp (config := { maxSteps := 2000000 }) only [dSeq, dNext, dSet, dRet, dRetN, dIf, dDrop, dVar, dC, dOp, dUn, dB, dNot, dAnd, dOr, dAndV, dOrV, dNotV, dIfE, dCB, dNil, dCons, dTup, dLst, dLstO, dCall, dMake, dFld, dSetF, dAsg, dgTup, dgCons, dgNil, dgN, dStore, dApp, dBM, dChain, dSl, dPart, dNoPart, dRaise, dEndB, gI2, gNeg, gAdd, gMul, gEqB, gIsB, gStr, gInt, gIsi, tyM, List.getElem?_cons_zero, List.getElem?_cons_succ, List.set_cons_zero, List.set_cons_succ, Option.some.injEq, exists_eq_left', exists_eq_left, List.cons.injEq, and_true, true_and, D.bl.injEq, D.int.injEq, D.str.injEq, D.own.injEq, D.tup.injEq, List.length_cons, List.length_nil, if_true, if_false, Bool.false_eq_true, reduceIte, gInB]
    rw [if_neg (by decide)]
    refine ⟨_, rfl, rfl, rfl, ?_⟩
    rw [if_neg (by decide)]
    refine ⟨by decide, _, _, rfl, rfl, by decide +kernel, by decide +kernel, ?_⟩
    rw [if_neg (by decide +kernel)]
    refine ⟨_, rfl, rfl, rfl, ?_⟩
    rw [if_pos (by decide)]
    refine ⟨⟨_, rfl⟩, _, _, 0, .bl true, rfl, rfl, rfl, rfl, rfl, rfl, fun m z hm => absurd hm (Nat.not_lt_zero _), ?_⟩
    exact bkG _ q
  · rw [e] at q
    rw [set_end, List.append_assoc]
    refine ⟨true, T.cat_CoverError_NoShares, fun _ a d _ => ?_, fun z => by cases z⟩
    try simp (config := { maxSteps := 2000000 }) only [dSeq, dNext, dSet, dRet, dRetN, dIf, dDrop, dVar, dC, dOp, dUn, dB, dNot, dAnd, dOr, dAndV, dOrV, dNotV, dIfE, dCB, dNil, dCons, dTup, dLst, dLstO, dCall, dMake, dFld, dSetF, dAsg, dgTup, dgCons, dgNil, dgN, dStore, dApp, dBM, dChain, dSl, dPart, dNoPart, dRaise, dEndB, gI2, gNeg, gAdd, gMul, gEqB, gIsB, gStr, gInt, gIsi, tyM, List.getElem?_cons_zero, List.getElem?_cons_succ, List.set_cons_zero, List.set_cons_succ, Option.some.injEq, exists_eq_left', exists_eq_left, List.cons.injEq, and_true, true_and, D.bl.injEq, D.int.injEq, D.str.injEq, D.own.injEq, D.tup.injEq, List.length_cons, List.length_nil, if_true, if_false, Bool.false_eq_true, reduceIte, gIsX]
    refine ⟨_, _, _, ⟨rfl, rfl⟩, T.x_NoShares, ⟨_, .own _, T.kit_NoBook_NoShares⟩, _, _, _, ⟨rfl, rfl⟩, T.x_NoShares, ⟨_, .own _, T.kit_NoClause_NoShares⟩, _, _, _, ⟨rfl, rfl⟩, T.x_NoShares, ⟨_, .own _, T.kit_NoEntry_NoShares⟩, by decide, ?_⟩
    refine ⟨_, _, _, ⟨rfl, rfl⟩, T.x_NoShares, ⟨_, .own _, T.kit_NoCover_NoShares⟩, _, _, _, ⟨rfl, rfl⟩, T.x_NoShares, ⟨_, .own _, T.kit_NoShares_NoShares⟩, by decide, ?_⟩
    refine ⟨_, _, _, ⟨rfl, rfl⟩, T.x_NoShares, ⟨_, .ty _, T.kit_ValueError_NoShares⟩, ?_⟩
    try simp (config := { maxSteps := 2000000 }) only [dSeq, dNext, dSet, dRet, dRetN, dIf, dDrop, dVar, dC, dOp, dUn, dB, dNot, dAnd, dOr, dAndV, dOrV, dNotV, dIfE, dCB, dNil, dCons, dTup, dLst, dLstO, dCall, dMake, dFld, dSetF, dAsg, dgTup, dgCons, dgNil, dgN, dStore, dApp, dBM, dChain, dSl, dPart, dNoPart, dRaise, dEndB, gI2, gNeg, gAdd, gMul, gEqB, gIsB, gStr, gInt, gIsi, tyM, List.getElem?_cons_zero, List.getElem?_cons_succ, List.set_cons_zero, List.set_cons_succ, Option.some.injEq, exists_eq_left', exists_eq_left, List.cons.injEq, and_true, true_and, D.bl.injEq, D.int.injEq, D.str.injEq, D.own.injEq, D.tup.injEq, List.length_cons, List.length_nil, if_true, if_false, Bool.false_eq_true, reduceIte, gInB]
    rw [if_neg (by decide)]
    refine ⟨_, rfl, rfl, rfl, ?_⟩
    rw [if_neg (by decide)]
    refine ⟨by decide, _, _, rfl, rfl, by decide +kernel, by decide +kernel, ?_⟩
    rw [if_neg (by decide +kernel)]
    refine ⟨_, rfl, rfl, rfl, ?_⟩
    rw [if_pos (by decide)]
    refine ⟨⟨_, rfl⟩, _, _, 1, .bl true, rfl, rfl, rfl, rfl, rfl, rfl, fun m z hm hz => ?_, ?_⟩
    · obtain rfl : m = 0 := by omega
      cases hz
      rfl
    · exact bkG _ q
end
end K38
set_option Elab.async false
set_option linter.all false
set_option maxRecDepth 100000
set_option maxHeartbeats 2000000
namespace K38
open PySem PySem.Spec PyProof.Rows L2 DL
section
variable {K : PySem.W.Frag} {mg : Str → Option Value} {c : Cs}
theorem r_Cover_asks (T : Txt K mg c) : ∀ ds L Q X, S_Cover_asks c ds L Q X → rd_Cover_asks K c (dEndB L Q X) (startD ["self", "loss"] ds) L := by
  rintro ds L Q X ⟨o, fs, cond, way, nm, ct, th, ca, n, rfl, ho, hf, hc, q⟩
  show rd_Cover_asks K c (dEndB L Q X) [some o, some (lossD th ca n)] L
  unfold rd_Cover_asks
  try simp (config := { maxSteps := 2000000 }) only [dSeq, dNext, dSet, dRet, dRetN, dIf, dDrop, dVar, dC, dOp, dUn, dB, dNot, dAnd, dOr, dAndV, dOrV, dNotV, dIfE, dCB, dNil, dCons, dTup, dLst, dLstO, dCall, dMake, dFld, dSetF, dAsg, dgTup, dgCons, dgNil, dgN, dStore, dApp, dBM, dChain, dSl, dPart, dNoPart, dRaise, dEndB, gI2, gNeg, gAdd, gMul, gEqB, gIsB, gStr, gInt, gIsi, tyM, List.getElem?_cons_zero, List.getElem?_cons_succ, List.set_cons_zero, List.set_cons_succ, Option.some.injEq, exists_eq_left', exists_eq_left, List.cons.injEq, and_true, true_and, D.bl.injEq, D.int.injEq, D.str.injEq, D.own.injEq, D.tup.injEq, List.length_cons, List.length_nil, if_true, if_false, Bool.false_eq_true, reduceIte, dMeth]
  refine ⟨c.Cover, fs, cond, ho, T.f_Cover_condition, hf, ?_⟩
  rcases hc with ⟨rfl, hi⟩ | ⟨rfl, hi⟩ | ⟨rfl, hi⟩
  · refine ⟨_, _, _, hi, .inl ⟨rfl, rfl⟩, rfl, cond, nm, th, ca, n, rfl, hi, ?_⟩
    exact bk0 q
  · refine ⟨_, _, _, hi, .inr (.inl ⟨rfl, rfl⟩), rfl, cond, nm, th, ca, n, rfl, hi, ?_⟩
    exact bk0 q
  · refine ⟨_, _, _, hi, .inr (.inr ⟨rfl, rfl⟩), rfl, cond, ct, th, ca, n, rfl, hi, ?_⟩
    exact bk0 q
theorem r_l_asks (T : Txt K mg c) : ∀ ds L Q X, S_l_asks c ds L Q X → rd_l_asks K c (dEndB L Q X) (startD ["_law_cover", "_law_way", "_law_name", "_law_cents", "_law_cause", "_law_thing", "_law_many", "_law_due", "_law_found"] ds) L := by
  rintro ds L Q X ⟨o, fs, cond, way, nm, ct, rfl, ho, hna, hf, hc, q⟩
  show rd_l_asks K c (dEndB L Q X) [some o, some (.int way), some (.str nm), some (.int ct), none, none, none, none, none] L
  unfold rd_l_asks
  try simp (config := { maxSteps := 2000000 }) only [dSeq, dNext, dSet, dRet, dRetN, dIf, dDrop, dVar, dC, dOp, dUn, dB, dNot, dAnd, dOr, dAndV, dOrV, dNotV, dIfE, dCB, dNil, dCons, dTup, dLst, dLstO, dCall, dMake, dFld, dSetF, dAsg, dgTup, dgCons, dgNil, dgN, dStore, dApp, dBM, dChain, dSl, dPart, dNoPart, dRaise, dEndB, gI2, gNeg, gAdd, gMul, gEqB, gIsB, gStr, gInt, gIsi, tyM, List.getElem?_cons_zero, List.getElem?_cons_succ, List.set_cons_zero, List.set_cons_succ, Option.some.injEq, exists_eq_left', exists_eq_left, List.cons.injEq, and_true, true_and, D.bl.injEq, D.int.injEq, D.str.injEq, D.own.injEq, D.tup.injEq, List.length_cons, List.length_nil, if_true, if_false, Bool.false_eq_true, reduceIte, dFor, dIL]
  refine ⟨by decide, by decide, by decide, by decide, _, rfl, fun i env L' => L' = L ∧ ∃ o4 o5 o6 o7 o8, env = [some o, some (.int way), some (.str nm), some (.int ct), o4, o5, o6, o7, o8], ⟨rfl, _, _, _, _, _, rfl⟩, fun i env L' h => rfl, ?_, ?_⟩
  · rintro i env L' x hi hx ⟨rfl, o4, o5, o6, o7, o8, rfl⟩
    have hx' : ([D.tup [.str nm, .str "zzz", .int (ct + 1)], .tup [.str "zzz", .str nm, .int ct], .tup [.str "zzz", .str "yyy", .int (ct + 1)]] : List D)[i]? = some x := hx
    have : ∃ ca th n, x = .tup [.str ca, .str th, .int n] := by
      match i, hx' with
      | 0, h => cases h; exact ⟨_, _, _, rfl⟩
      | 1, h => cases h; exact ⟨_, _, _, rfl⟩
      | 2, h => cases h; exact ⟨_, _, _, rfl⟩
      | i + 3, h => simp at h
    obtain ⟨ca, th, n, rfl⟩ := this
    try simp (config := { maxSteps := 2000000 }) only [dSeq, dNext, dSet, dRet, dRetN, dIf, dDrop, dVar, dC, dOp, dUn, dB, dNot, dAnd, dOr, dAndV, dOrV, dNotV, dIfE, dCB, dNil, dCons, dTup, dLst, dLstO, dCall, dMake, dFld, dSetF, dAsg, dgTup, dgCons, dgNil, dgN, dStore, dApp, dBM, dChain, dSl, dPart, dNoPart, dRaise, dEndB, gI2, gNeg, gAdd, gMul, gEqB, gIsB, gStr, gInt, gIsi, tyM, List.getElem?_cons_zero, List.getElem?_cons_succ, List.set_cons_zero, List.set_cons_succ, Option.some.injEq, exists_eq_left', exists_eq_left, List.cons.injEq, and_true, true_and, D.bl.injEq, D.int.injEq, D.str.injEq, D.own.injEq, D.tup.injEq, List.length_cons, List.length_nil, if_true, if_false, Bool.false_eq_true, reduceIte, dMeth]
    refine ⟨_, _, ⟨rfl, rfl⟩, _, _, rfl, _, _, rfl, rfl, ?_⟩
    try simp (config := { maxSteps := 2000000 }) only [dSeq, dNext, dSet, dRet, dRetN, dIf, dDrop, dVar, dC, dOp, dUn, dB, dNot, dAnd, dOr, dAndV, dOrV, dNotV, dIfE, dCB, dNil, dCons, dTup, dLst, dLstO, dCall, dMake, dFld, dSetF, dAsg, dgTup, dgCons, dgNil, dgN, dStore, dApp, dBM, dChain, dSl, dPart, dNoPart, dRaise, dEndB, gI2, gNeg, gAdd, gMul, gEqB, gIsB, gStr, gInt, gIsi, tyM, List.getElem?_cons_zero, List.getElem?_cons_succ, List.set_cons_zero, List.set_cons_succ, Option.some.injEq, exists_eq_left', exists_eq_left, List.cons.injEq, and_true, true_and, D.bl.injEq, D.int.injEq, D.str.injEq, D.own.injEq, D.tup.injEq, List.length_cons, List.length_nil, if_true, if_false, Bool.false_eq_true, reduceIte, dMeth]
    have hw : way = 0 ∨ way = 1 ∨ way = 2 := by
      rcases hc with ⟨h, _⟩ | ⟨h, _⟩ | ⟨h, _⟩ <;> simp [h]
    refine ⟨by decide, ?_⟩
    refine gIx_lst (d := .bl (holdsB way nm ct th ca n)) rfl ?_ ?_
    · rcases hw with rfl | rfl | rfl
      · show some (D.bl (xor false (decide (ca = nm)))) = _
        rw [Bool.false_xor]
        rfl
      · show some (D.bl (xor false (decide (th = nm)))) = _
        rw [Bool.false_xor]
        rfl
      · rfl
    · refine ⟨_, _, _, ho, ⟨rfl, rfl⟩, hna, by decide, o, fs, cond, way, nm, ct, th, ca, n, rfl, ho, hf, hc, ?_⟩
      refine ⟨tyC_bool, "bool", rfl, ?_⟩
      rw [if_neg (by decide)]
      try simp (config := { maxSteps := 2000000 }) only [dSeq, dNext, dSet, dRet, dRetN, dIf, dDrop, dVar, dC, dOp, dUn, dB, dNot, dAnd, dOr, dAndV, dOrV, dNotV, dIfE, dCB, dNil, dCons, dTup, dLst, dLstO, dCall, dMake, dFld, dSetF, dAsg, dgTup, dgCons, dgNil, dgN, dStore, dApp, dBM, dChain, dSl, dPart, dNoPart, dRaise, dEndB, gI2, gNeg, gAdd, gMul, gEqB, gIsB, gStr, gInt, gIsi, tyM, List.getElem?_cons_zero, List.getElem?_cons_succ, List.set_cons_zero, List.set_cons_succ, Option.some.injEq, exists_eq_left', exists_eq_left, List.cons.injEq, and_true, true_and, D.bl.injEq, D.int.injEq, D.str.injEq, D.own.injEq, D.tup.injEq, List.length_cons, List.length_nil, if_true, if_false, Bool.false_eq_true, reduceIte]
      rw [if_neg (by simp)]
      exact ⟨_, _, _, _, _, rfl, rfl, rfl, rfl, rfl⟩
  · rintro env L' ⟨rfl, o4, o5, o6, o7, o8, rfl⟩
    exact bk0 q
theorem ok_zfill (s : Str) (h : okS s = true) : okS (Txt.zfill s 2) = true := by
  have rep : ∀ (n x : Nat), x < 0x110000 → (Array.replicate n x).all (fun y => decide (y < 0x110000)) = true := fun n x hx => by
    rw [Array.all_eq_true']
    intro y hy
    have := (Array.mem_replicate.mp hy).2
    subst this
    exact decide_eq_true hx
  have ext : ∀ (i j : Nat), (s.cps.extract i j).all (fun y => decide (y < 0x110000)) = true := fun i j => by
    rw [Array.all_eq_true']
    intro y hy
    unfold okS at h
    rw [Array.all_eq_true'] at h
    obtain ⟨k, hk, e⟩ := Array.getElem_of_mem hy
    rw [Array.getElem_extract] at e
    exact h y (e ▸ Array.getElem_mem _)
  unfold Txt.zfill
  split
  · exact h
  · unfold zfilled Builtin.Str.padded Builtin.Str.strSub
    split
    · refine okS_app (ext 0 1) ?_
      show ((Array.replicate _ 48 ++ s.cps.extract 1 s.length) ++ Array.replicate 0 48).all _ = true
      rw [Array.all_append, Array.all_append, rep _ _ (by decide), ext, rep _ _ (by decide)]
      rfl
    · refine okS_app (ext 0 1) ?_
      show ((Array.replicate _ 48 ++ s.cps.extract 1 s.length) ++ Array.replicate 0 48).all _ = true
      rw [Array.all_append, Array.all_append, rep _ _ (by decide), ext, rep _ _ (by decide)]
      rfl
    · show ((Array.replicate _ 48 ++ s.cps) ++ Array.replicate 0 48).all _ = true
      rw [Array.all_append, Array.all_append, rep _ _ (by decide), rep _ _ (by decide)]
      unfold okS at h
      rw [h]
      rfl
theorem ok_showC (i : Int) : okS (showC i) = true := okS_app (okS_app (okS_of _) (okS_of _)) (ok_zfill _ (okS_of _))
theorem ok_name {s : Str} (h : nameS s = true) : okS s = true := by
  unfold nameS at h
  rw [Bool.and_eq_true] at h
  unfold okS
  rw [Array.all_eq_true']
  intro x hx
  have := List.all_eq_true.mp h.2 x (by simpa using hx)
  unfold letter at this
  simp at this ⊢
  omega
theorem ok_way {s : Str} (h : s ∈ ways) : okS s = true := by
  unfold ways at h
  simp only [List.mem_cons, List.not_mem_nil, or_false] at h
  rcases h with rfl | rfl | rfl | rfl <;> exact okS_of _
end
end K38
set_option Elab.async false
set_option linter.all false
set_option maxRecDepth 100000
set_option maxHeartbeats 2000000
namespace K38
open PySem PySem.Spec PyProof.Rows L2 DL
section
variable {K : PySem.W.Frag} {mg : Str → Option Value} {c : Cs}
theorem goodWs_map : ∀ {ws : List Int}, (∀ w ∈ ws, 1 ≤ w) → goodWs (ws.map .int) = some ws
  | [], _ => rfl
  | w :: ws, h => by
    have h1 : goodW (.int w) = some w := by unfold goodW; exact if_pos (h w List.mem_cons_self)
    have h2 := goodWs_map (ws := ws) fun x hx => h x (List.mem_cons_of_mem _ hx)
    rw [List.map_cons]
    unfold goodWs
    rw [h1, h2]
theorem Houses.total {ps : List (Str × Int)} (H : Houses ps) : totalOf ((ps.map (·.2)).map .int) = some (ps.map (·.2)).sum := by
  unfold totalOf
  have h1 := H.lo
  have h2 := H.hi
  have h3 := H.sum
  rw [if_neg (by rw [List.length_map, List.length_map]; omega), goodWs_map (fun w hw => by
    obtain ⟨p, hp, rfl⟩ := List.mem_map.mp hw
    exact H.w p hp)]
  exact if_neg (by omega)
theorem Houses.good {ps : List (Str × Int)} (H : Houses ps) : goodWs ((ps.map (·.2)).map .int) = some (ps.map (·.2)) := goodWs_map fun w hw => by
  obtain ⟨p, hp, rfl⟩ := List.mem_map.mp hw
  exact H.w p hp
theorem r_l_kept (T : Txt K mg c) : ∀ ds L Q X, S_l_kept c ds L Q X → rd_l_kept K c (dEndB L Q X) (startD ["_law_cover", "_law_name", "_law_clauses", "_law_pairs", "_law_waits", "_law_weights", "_law_house", "_law_weight", "_law_one"] ds) L := by
  rintro ds L Q X ⟨o, cond, nm, cs, wss, hs, ps, wa, rfl, ho, H, hnm, hw8, hlen, hcs, q⟩
  show rd_l_kept K c (dEndB L Q X) [some o, some (.str nm), some (.lst (wss.map fun p => ownW p.1 p.2)), some (.lst (ps.map hwD)), some (.bl wa), none, none, none, none] L
  have lo := H.lo
  have hi := H.hi
  refine ⟨fun env L' => env = [some o, some (.str nm), some (.lst (wss.map fun p => ownW p.1 p.2)), some (.lst (ps.map hwD)), some (.bl wa), none, none, none, none] ∧ L = L', ?_, ?_⟩
  · try simp (config := { maxSteps := 2000000 }) only [dSeq, dNext, dSet, dRet, dRetN, dIf, dDrop, dVar, dC, dOp, dUn, dB, dNot, dAnd, dOr, dAndV, dOrV, dNotV, dIfE, dCB, dNil, dCons, dTup, dLst, dLstO, dCall, dMake, dFld, dSetF, dAsg, dgTup, dgCons, dgNil, dgN, dStore, dApp, dBM, dChain, dSl, dPart, dNoPart, dRaise, dEndB, gI2, gNeg, gAdd, gMul, gEqB, gIsB, gStr, gInt, gIsi, tyM, List.getElem?_cons_zero, List.getElem?_cons_succ, List.set_cons_zero, List.set_cons_succ, Option.some.injEq, exists_eq_left', exists_eq_left, List.cons.injEq, and_true, true_and, D.bl.injEq, D.int.injEq, D.str.injEq, D.own.injEq, D.tup.injEq, List.length_cons, List.length_nil, if_true, if_false, Bool.false_eq_true, reduceIte]
    refine ⟨c.Cover, _, _, ho, T.f_Cover_name, rfl, tyC_str, "str", rfl, ?_⟩
    rw [if_neg (by decide)]
    refine ⟨c.Cover, _, _, ho, T.f_Cover_name, rfl, ?_⟩
    try simp (config := { maxSteps := 2000000 }) only [dSeq, dNext, dSet, dRet, dRetN, dIf, dDrop, dVar, dC, dOp, dUn, dB, dNot, dAnd, dOr, dAndV, dOrV, dNotV, dIfE, dCB, dNil, dCons, dTup, dLst, dLstO, dCall, dMake, dFld, dSetF, dAsg, dgTup, dgCons, dgNil, dgN, dStore, dApp, dBM, dChain, dSl, dPart, dNoPart, dRaise, dEndB, gI2, gNeg, gAdd, gMul, gEqB, gIsB, gStr, gInt, gIsi, tyM, List.getElem?_cons_zero, List.getElem?_cons_succ, List.set_cons_zero, List.set_cons_succ, Option.some.injEq, exists_eq_left', exists_eq_left, List.cons.injEq, and_true, true_and, D.bl.injEq, D.int.injEq, D.str.injEq, D.own.injEq, D.tup.injEq, List.length_cons, List.length_nil, if_true, if_false, Bool.false_eq_true, reduceIte]
    rw [if_neg (by simp)]
    trivial
  rintro _ _ ⟨rfl, rfl⟩
  refine ⟨fun env L' => env = [some o, some (.str nm), some (.lst (wss.map fun p => ownW p.1 p.2)), some (.lst (ps.map hwD)), some (.bl wa), none, none, none, none] ∧ L = L', ?_, ?_⟩
  · try simp (config := { maxSteps := 2000000 }) only [dSeq, dNext, dSet, dRet, dRetN, dIf, dDrop, dVar, dC, dOp, dUn, dB, dNot, dAnd, dOr, dAndV, dOrV, dNotV, dIfE, dCB, dNil, dCons, dTup, dLst, dLstO, dCall, dMake, dFld, dSetF, dAsg, dgTup, dgCons, dgNil, dgN, dStore, dApp, dBM, dChain, dSl, dPart, dNoPart, dRaise, dEndB, gI2, gNeg, gAdd, gMul, gEqB, gIsB, gStr, gInt, gIsi, tyM, List.getElem?_cons_zero, List.getElem?_cons_succ, List.set_cons_zero, List.set_cons_succ, Option.some.injEq, exists_eq_left', exists_eq_left, List.cons.injEq, and_true, true_and, D.bl.injEq, D.int.injEq, D.str.injEq, D.own.injEq, D.tup.injEq, List.length_cons, List.length_nil, if_true, if_false, Bool.false_eq_true, reduceIte]
    refine ⟨c.Cover, _, _, ho, T.f_Cover_waits, rfl, tyC_bool, "bool", rfl, ?_⟩
    rw [if_neg (by decide)]
    refine ⟨c.Cover, _, _, ho, T.f_Cover_waits, rfl, ?_⟩
    try simp (config := { maxSteps := 2000000 }) only [dSeq, dNext, dSet, dRet, dRetN, dIf, dDrop, dVar, dC, dOp, dUn, dB, dNot, dAnd, dOr, dAndV, dOrV, dNotV, dIfE, dCB, dNil, dCons, dTup, dLst, dLstO, dCall, dMake, dFld, dSetF, dAsg, dgTup, dgCons, dgNil, dgN, dStore, dApp, dBM, dChain, dSl, dPart, dNoPart, dRaise, dEndB, gI2, gNeg, gAdd, gMul, gEqB, gIsB, gStr, gInt, gIsi, tyM, List.getElem?_cons_zero, List.getElem?_cons_succ, List.set_cons_zero, List.set_cons_succ, Option.some.injEq, exists_eq_left', exists_eq_left, List.cons.injEq, and_true, true_and, D.bl.injEq, D.int.injEq, D.str.injEq, D.own.injEq, D.tup.injEq, List.length_cons, List.length_nil, if_true, if_false, Bool.false_eq_true, reduceIte]
    rw [if_neg (by simp)]
    trivial
  rintro _ _ ⟨rfl, rfl⟩
  refine ⟨fun env L' => env = [some o, some (.str nm), some (.lst (wss.map fun p => ownW p.1 p.2)), some (.lst (ps.map hwD)), some (.bl wa), none, none, none, none] ∧ L = L', ?_, ?_⟩
  · try simp (config := { maxSteps := 2000000 }) only [dSeq, dNext, dSet, dRet, dRetN, dIf, dDrop, dVar, dC, dOp, dUn, dB, dNot, dAnd, dOr, dAndV, dOrV, dNotV, dIfE, dCB, dNil, dCons, dTup, dLst, dLstO, dCall, dMake, dFld, dSetF, dAsg, dgTup, dgCons, dgNil, dgN, dStore, dApp, dBM, dChain, dSl, dPart, dNoPart, dRaise, dEndB, gI2, gNeg, gAdd, gMul, gIsB, gStr, gInt, gIsi, tyM, List.getElem?_cons_zero, List.getElem?_cons_succ, List.set_cons_zero, List.set_cons_succ, Option.some.injEq, exists_eq_left', exists_eq_left, List.cons.injEq, and_true, true_and, D.bl.injEq, D.int.injEq, D.str.injEq, D.own.injEq, D.tup.injEq, List.length_cons, List.length_nil, if_true, if_false, Bool.false_eq_true, reduceIte]
    refine ⟨c.Cover, _, _, ho, T.f_Cover_clauses, rfl, tyC_list, "list", rfl, ?_⟩
    rw [if_neg (by decide)]
    try simp (config := { maxSteps := 2000000 }) only [dSeq, dNext, dSet, dRet, dRetN, dIf, dDrop, dVar, dC, dOp, dUn, dB, dNot, dAnd, dOr, dAndV, dOrV, dNotV, dIfE, dCB, dNil, dCons, dTup, dLst, dLstO, dCall, dMake, dFld, dSetF, dAsg, dgTup, dgCons, dgNil, dgN, dStore, dApp, dBM, dChain, dSl, dPart, dNoPart, dRaise, dEndB, gI2, gNeg, gAdd, gMul, gIsB, gStr, gInt, gIsi, tyM, List.getElem?_cons_zero, List.getElem?_cons_succ, List.set_cons_zero, List.set_cons_succ, Option.some.injEq, exists_eq_left', exists_eq_left, List.cons.injEq, and_true, true_and, D.bl.injEq, D.int.injEq, D.str.injEq, D.own.injEq, D.tup.injEq, List.length_cons, List.length_nil, if_true, if_false, Bool.false_eq_true, reduceIte, dLcG, dIL, dYes, cgD, dMeth, wipeD]
    refine ⟨c.Cover, _, _, ho, T.f_Cover_clauses, rfl, cs, rfl, fun i acc L' => L' = L ∧ acc = (wss.take i).map fun p => ownW p.1 p.2, ⟨rfl, rfl⟩, fun i acc L' h => rfl, ?_, ?_⟩
    · rintro i acc L' x hi' hx ⟨rfl, rfl⟩
      have hx' : cs[i]? = some x := hx
      have hil : i < wss.length := by rw [← hlen]; exact (List.getElem?_eq_some_iff.mp hx').1
      obtain ⟨h1, h2, h3⟩ := hcs i x _ hx' (List.getElem?_eq_getElem hil)
      refine ⟨by rw [List.length_map, List.length_take]; omega, ?_⟩
      try simp (config := { maxSteps := 2000000 }) only [dSeq, dNext, dSet, dRet, dRetN, dIf, dDrop, dVar, dC, dOp, dUn, dB, dNot, dAnd, dOr, dAndV, dOrV, dNotV, dIfE, dCB, dNil, dCons, dTup, dLst, dLstO, dCall, dMake, dFld, dSetF, dAsg, dgTup, dgCons, dgNil, dgN, dStore, dApp, dBM, dChain, dSl, dPart, dNoPart, dRaise, dEndB, gI2, gNeg, gAdd, gMul, gEqB, gIsB, gStr, gInt, gIsi, tyM, List.getElem?_cons_zero, List.getElem?_cons_succ, List.set_cons_zero, List.set_cons_succ, Option.some.injEq, exists_eq_left', exists_eq_left, List.cons.injEq, and_true, true_and, D.bl.injEq, D.int.injEq, D.str.injEq, D.own.injEq, D.tup.injEq, List.length_cons, List.length_nil, if_true, if_false, Bool.false_eq_true, reduceIte]
      refine ⟨c.Own, _, _, h1, .inl ⟨rfl, rfl⟩, rfl, x, _, _, rfl, h1, h3, ?_⟩
      rw [List.take_add_one, List.getElem?_eq_getElem hil, List.map_append]
      exact ⟨rfl, rfl⟩
    · rintro acc L' ⟨rfl, rfl⟩
      have e1 : wss.take cs.length = wss := by rw [hlen, List.take_length]
      show gNe (D.lst ((wss.take cs.length).map fun p => ownW p.1 p.2)) _ _ _
      rw [e1]
      obtain ⟨pd, hpd⟩ := datA_map (f := fun p : Str × Int => ownW p.1 p.2) (n := 1) (xs := wss) fun p hp => by
        obtain ⟨j, hj, e⟩ := List.getElem_of_mem hp
        obtain ⟨_, h2, _⟩ := hcs j (cs[j]'(by omega)) p (List.getElem?_eq_getElem (by omega)) (by rw [List.getElem?_eq_getElem hj, e])
        exact ⟨_, .lst (.cons (.str _ (okS_of _)) (.cons (.str _ h2) (.cons (.str _ (ok_showC _)) .nil)))⟩
      refine gEq_same (.lst hpd) (by decide) ⟨_, rfl, ?_⟩
      rw [if_neg (by decide)]
  rintro _ _ ⟨rfl, rfl⟩
  refine ⟨fun env L' => env = [some o, some (.str nm), some (.lst (wss.map fun p => ownW p.1 p.2)), some (.lst (ps.map hwD)), some (.bl wa), none, none, none, none] ∧ L = L', ?_, ?_⟩
  · try simp (config := { maxSteps := 2000000 }) only [dSeq, dNext, dSet, dRet, dRetN, dIf, dDrop, dVar, dC, dOp, dUn, dB, dNot, dAnd, dOr, dAndV, dOrV, dNotV, dIfE, dCB, dNil, dCons, dTup, dLst, dLstO, dCall, dMake, dFld, dSetF, dAsg, dgTup, dgCons, dgNil, dgN, dStore, dApp, dBM, dChain, dSl, dPart, dNoPart, dRaise, dEndB, gI2, gNeg, gAdd, gMul, gIsB, gStr, gInt, gIsi, tyM, List.getElem?_cons_zero, List.getElem?_cons_succ, List.set_cons_zero, List.set_cons_succ, Option.some.injEq, exists_eq_left', exists_eq_left, List.cons.injEq, and_true, true_and, D.bl.injEq, D.int.injEq, D.str.injEq, D.own.injEq, D.tup.injEq, List.length_cons, List.length_nil, if_true, if_false, Bool.false_eq_true, reduceIte]
    refine ⟨c.Cover, _, _, ho, T.f_Cover_houses, rfl, tyC_list, "list", rfl, ?_⟩
    rw [if_neg (by decide)]
    refine ⟨c.Cover, _, _, ho, T.f_Cover_houses, rfl, ?_⟩
    try simp (config := { maxSteps := 2000000 }) only [dSeq, dNext, dSet, dRet, dRetN, dIf, dDrop, dVar, dC, dOp, dUn, dB, dNot, dAnd, dOr, dAndV, dOrV, dNotV, dIfE, dCB, dNil, dCons, dTup, dLst, dLstO, dCall, dMake, dFld, dSetF, dAsg, dgTup, dgCons, dgNil, dgN, dStore, dApp, dBM, dChain, dSl, dPart, dNoPart, dRaise, dEndB, gI2, gNeg, gAdd, gMul, gIsB, gStr, gInt, gIsi, tyM, List.getElem?_cons_zero, List.getElem?_cons_succ, List.set_cons_zero, List.set_cons_succ, Option.some.injEq, exists_eq_left', exists_eq_left, List.cons.injEq, and_true, true_and, D.bl.injEq, D.int.injEq, D.str.injEq, D.own.injEq, D.tup.injEq, List.length_cons, List.length_nil, if_true, if_false, Bool.false_eq_true, reduceIte, dLcG, dIL, dYes, cgD, wipeD, setsD]
    refine ⟨_, rfl, fun i acc L' => L = L' ∧ acc = ((ps.take i).map (·.1)).map .str, ⟨rfl, rfl⟩, fun i acc L' h => rfl, ?_, ?_⟩
    · rintro i acc L' x hi' hx ⟨rfl, rfl⟩
      have hil : i < ps.length := by have : i < (ps.map hwD).length := hi'; rwa [List.length_map] at this
      have hx' : (ps.map hwD)[i]? = some x := hx
      rw [List.getElem?_map, List.getElem?_eq_getElem hil] at hx'
      obtain rfl : hwD ps[i] = x := Option.some.inj hx'
      refine ⟨by rw [List.length_map, List.length_map, List.length_take]; omega, _, rfl, rfl, ?_⟩
      refine ⟨_, rfl, rfl, ?_⟩
      rw [List.take_add_one, List.getElem?_eq_getElem hil, List.map_append, List.map_append]
      rfl
    · rintro acc L' ⟨rfl, rfl⟩
      have e1 : ps.take (ps.map hwD).length = ps := by rw [List.length_map, List.take_length]
      show gNe _ (D.lst (((ps.take (ps.map hwD).length).map (·.1)).map .str)) _ _
      rw [e1]
      obtain ⟨pd, hpd⟩ := datA_map (f := D.str) (n := 1) (xs := ps.map (·.1)) fun s hs => by
        obtain ⟨p, hp, rfl⟩ := List.mem_map.mp hs
        exact ⟨_, .str _ (ok_name (H.ok p hp))⟩
      refine gEq_same (.lst hpd) (by decide) ⟨_, rfl, ?_⟩
      rw [if_neg (by decide)]
  rintro _ _ ⟨rfl, rfl⟩
  refine ⟨fun env L' => env = [some o, some (.str nm), some (.lst (wss.map fun p => ownW p.1 p.2)), some (.lst (ps.map hwD)), some (.bl wa), some (.lst ((ps.map (·.2)).map .int)), none, none, none] ∧ L = L', ?_, ?_⟩
  · try simp (config := { maxSteps := 2000000 }) only [dSeq, dNext, dSet, dRet, dRetN, dIf, dDrop, dVar, dC, dOp, dUn, dB, dNot, dAnd, dOr, dAndV, dOrV, dNotV, dIfE, dCB, dNil, dCons, dTup, dLst, dLstO, dCall, dMake, dFld, dSetF, dAsg, dgTup, dgCons, dgNil, dgN, dStore, dApp, dBM, dChain, dSl, dPart, dNoPart, dRaise, dEndB, gI2, gNeg, gAdd, gMul, gEqB, gIsB, gStr, gInt, gIsi, tyM, List.getElem?_cons_zero, List.getElem?_cons_succ, List.set_cons_zero, List.set_cons_succ, Option.some.injEq, exists_eq_left', exists_eq_left, List.cons.injEq, and_true, true_and, D.bl.injEq, D.int.injEq, D.str.injEq, D.own.injEq, D.tup.injEq, List.length_cons, List.length_nil, if_true, if_false, Bool.false_eq_true, reduceIte, dLcG, dIL, dYes, cgD, wipeD, setsD]
    refine ⟨_, rfl, fun i acc L' => L = L' ∧ acc = ((ps.take i).map (·.2)).map .int, ⟨rfl, rfl⟩, fun i acc L' h => rfl, ?_, ?_⟩
    · rintro i acc L' x hi' hx ⟨rfl, rfl⟩
      have hil : i < ps.length := by have : i < (ps.map hwD).length := hi'; rwa [List.length_map] at this
      have hx' : (ps.map hwD)[i]? = some x := hx
      rw [List.getElem?_map, List.getElem?_eq_getElem hil] at hx'
      obtain rfl : hwD ps[i] = x := Option.some.inj hx'
      refine ⟨by rw [List.length_map, List.length_map, List.length_take]; omega, _, rfl, rfl, ?_⟩
      refine ⟨_, rfl, rfl, ?_⟩
      rw [List.take_add_one, List.getElem?_eq_getElem hil, List.map_append, List.map_append]
      rfl
    · rintro acc L' ⟨rfl, rfl⟩
      have e1 : ps.take (ps.map hwD).length = ps := by rw [List.length_map, List.take_length]
      show _ ∧ _
      refine ⟨?_, rfl⟩
      rw [show (ps.map hwD).length = ps.length from List.length_map _, List.take_length]
  rintro _ _ ⟨rfl, rfl⟩
  have Hg := H.good
  have Ht := H.total
  refine ⟨fun env L' => env = [some o, some (.str nm), some (.lst (wss.map fun p => ownW p.1 p.2)), some (.lst (ps.map hwD)), some (.bl wa), some (.lst ((ps.map (·.2)).map .int)), none, none, none] ∧ ∃ G, L' = L ++ G, ?_, ?_⟩
  · try simp (config := { maxSteps := 2000000 }) only [dSeq, dNext, dSet, dRet, dRetN, dIf, dDrop, dVar, dC, dOp, dUn, dB, dNot, dAnd, dOr, dAndV, dOrV, dNotV, dIfE, dCB, dNil, dCons, dTup, dLst, dLstO, dCall, dMake, dFld, dSetF, dAsg, dgTup, dgCons, dgNil, dgN, dStore, dApp, dBM, dChain, dSl, dPart, dNoPart, dRaise, dEndB, gI2, gNeg, gAdd, gMul, gIsB, gStr, gInt, gIsi, tyM, List.getElem?_cons_zero, List.getElem?_cons_succ, List.set_cons_zero, List.set_cons_succ, Option.some.injEq, exists_eq_left', exists_eq_left, List.cons.injEq, and_true, true_and, D.bl.injEq, D.int.injEq, D.str.injEq, D.own.injEq, D.tup.injEq, List.length_cons, List.length_nil, if_true, if_false, Bool.false_eq_true, reduceIte, gIsC, dMeth]
    refine ⟨c.Cover, _, _, ho, T.f_Cover_deal, rfl, _, _, rfl, rfl, ?_⟩
    rw [if_neg (by decide)]
    refine ⟨c.Cover, _, _, ho, T.f_Cover_deal, rfl, c.Deal, _, _, rfl, ⟨rfl, rfl⟩, rfl, _, _, rfl, rfl, Ht, ?_⟩
    try simp (config := { maxSteps := 2000000 }) only [dSeq, dNext, dSet, dRet, dRetN, dIf, dDrop, dVar, dC, dOp, dUn, dB, dNot, dAnd, dOr, dAndV, dOrV, dNotV, dIfE, dCB, dNil, dCons, dTup, dLst, dLstO, dCall, dMake, dFld, dSetF, dAsg, dgTup, dgCons, dgNil, dgN, dStore, dApp, dBM, dChain, dSl, dPart, dNoPart, dRaise, dEndB, gI2, gNeg, gAdd, gMul, gIsB, gStr, gInt, gIsi, tyM, List.getElem?_cons_zero, List.getElem?_cons_succ, List.set_cons_zero, List.set_cons_succ, Option.some.injEq, exists_eq_left', exists_eq_left, List.cons.injEq, and_true, true_and, D.bl.injEq, D.int.injEq, D.str.injEq, D.own.injEq, D.tup.injEq, List.length_cons, List.length_nil, if_true, if_false, Bool.false_eq_true, reduceIte, S_Deal_init, dMeth]
    refine ⟨_, _, _, ⟨rfl, rfl⟩, get_end _, rfl, rfl, by rw [List.length_map, List.length_map]; omega, ?_, ?_, ?_⟩
    · intro w hw
      obtain ⟨i, _, rfl⟩ := List.mem_map.mp hw
      exact ⟨"int", rfl⟩
    · intro ws hws hto
      rw [Hg] at hws
      obtain rfl := Option.some.inj hws
      rw [set_end]
      refine ⟨c.Deal, _, _, ins_own (get_end _), ⟨rfl, rfl⟩, rfl, _, _, rfl, ins_own (get_end _), Ht, ?_⟩
      obtain ⟨pd, hpd⟩ := datA_map (f := D.int) (n := 1) (xs := countsOf (ps.map (·.2)) 37) fun s hs => ⟨_, .int _⟩
      refine gEq_same (.lst hpd) (by decide) ⟨_, rfl, ?_⟩
      rw [if_neg (by decide)]
      exact ⟨_, rfl⟩
    · intro hn
      rw [Ht] at hn
      cases hn
  rintro _ _ ⟨rfl, G, rfl⟩
  try simp (config := { maxSteps := 2000000 }) only [dSeq, dNext, dSet, dRet, dRetN, dIf, dDrop, dVar, dC, dOp, dUn, dB, dNot, dAnd, dOr, dAndV, dOrV, dNotV, dIfE, dCB, dNil, dCons, dTup, dLst, dLstO, dCall, dMake, dFld, dSetF, dAsg, dgTup, dgCons, dgNil, dgN, dStore, dApp, dBM, dChain, dSl, dPart, dNoPart, dRaise, dEndB, gI2, gNeg, gAdd, gMul, gIsB, gStr, gInt, gIsi, tyM, List.getElem?_cons_zero, List.getElem?_cons_succ, List.set_cons_zero, List.set_cons_succ, Option.some.injEq, exists_eq_left', exists_eq_left, List.cons.injEq, and_true, true_and, D.bl.injEq, D.int.injEq, D.str.injEq, D.own.injEq, D.tup.injEq, List.length_cons, List.length_nil, if_true, if_false, Bool.false_eq_true, reduceIte]
  refine ⟨c.Cover, _, _, ins_app _ ho, T.f_Cover_deal, rfl, c.Deal, _, _, rfl, T.f_Deal_weights, rfl, ?_⟩
  obtain ⟨pd, hpd⟩ := datA_map (f := D.int) (n := 1) (xs := ps.map (·.2)) fun s hs => ⟨_, .int _⟩
  exact gEq_same (.lst hpd) (by decide) (bkG _ q)
end
end K38
set_option Elab.async false
set_option linter.all false
set_option maxRecDepth 100000
set_option maxHeartbeats 2000000
namespace K38
open PySem PySem.Spec PyProof.Rows L2 DL
/-! ### the ten names -/
def sgnK (bs : List Int) (a k j : Nat) : Nat := 97 + ((bs.getD j 0 + (k : Int) * (if j = a then 1 else 0)) % 26).toNat
def rawN (bs : List Int) (a k n : Nat) : Str := ⟨((List.range n).map (sgnK bs a k)).toArray⟩
def nmK (bs : List Int) (a k : Nat) : Str := if rawN bs a k bs.length = "self" then "selfs" else rawN bs a k bs.length
theorem sgn_letter (bs : List Int) (a k j : Nat) : letter (sgnK bs a k j) = true := by
  unfold letter sgnK
  have h1 := Int.emod_nonneg (bs.getD j 0 + (k : Int) * (if j = a then 1 else 0)) (b := 26) (by decide)
  have h2 := Int.emod_lt_of_pos (bs.getD j 0 + (k : Int) * (if j = a then 1 else 0)) (b := 26) (by decide)
  exact decide_eq_true (by omega)
theorem raw_size (bs : List Int) (a k n : Nat) : (rawN bs a k n).cps.size = n := by unfold rawN; simp
theorem raw_name {bs : List Int} (a k : Nat) (h1 : 1 ≤ bs.length) (h2 : bs.length ≤ 8) : nameS (rawN bs a k bs.length) = true := by
  refine nameS_yes (by show 1 ≤ (rawN _ _ _ _).cps.size; rw [raw_size]; exact h1) (by show (rawN _ _ _ _).cps.size ≤ 8; rw [raw_size]; exact h2) fun j hj c0 hc => ?_
  rw [raw_size] at hj
  unfold rawN at hc
  rw [List.getElem?_toArray, List.getElem?_map, List.getElem?_range hj] at hc
  have hc' : some (sgnK bs a k j) = some c0 := hc
  rw [← Option.some.inj hc']
  exact sgn_letter ..
theorem selfs_name : nameS "selfs" = true := by decide +kernel
theorem nmK_ok {bs : List Int} (a k : Nat) (h1 : 1 ≤ bs.length) (h2 : bs.length ≤ 8) : nameS (nmK bs a k) = true ∧ nmK bs a k ≠ "self" := by
  unfold nmK
  split
  · exact ⟨selfs_name, by decide +kernel⟩
  · exact ⟨raw_name a k h1 h2, by assumption⟩
theorem raw_inj {bs : List Int} {a k k' : Nat} (ha : a < bs.length) (hk : k < 10) (hk' : k' < 10) (h : rawN bs a k bs.length = rawN bs a k' bs.length) : k = k' := by
  have e := congrArg (fun s : Str => s.cps[a]?) h
  unfold rawN at e
  simp only [List.getElem?_toArray, List.getElem?_map, List.getElem?_range ha, Option.map_some] at e
  have e' := Option.some.inj e
  unfold sgnK at e'
  rw [if_pos rfl] at e'
  have h1 := Int.emod_nonneg (bs.getD a 0 + (k : Int) * 1) (b := 26) (by decide)
  have h2 := Int.emod_nonneg (bs.getD a 0 + (k' : Int) * 1) (b := 26) (by decide)
  omega
theorem nmK_inj {bs : List Int} {a k k' : Nat} (ha : a < bs.length) (hk : k < 10) (hk' : k' < 10) (h : nmK bs a k = nmK bs a k') : k = k' := by
  have sz : ("self" : Str).cps.size = 4 := by decide +kernel
  have sz5 : ("selfs" : Str).cps.size = 5 := by decide +kernel
  unfold nmK at h
  split at h
  · rename_i e1
    split at h
    · rename_i e2
      exact raw_inj ha hk hk' (e1.trans e2.symm)
    · have q1 := congrArg (fun s : Str => s.cps.size) e1
      have q2 := congrArg (fun s : Str => s.cps.size) h
      simp only [raw_size] at q1 q2
      omega
  · split at h
    · rename_i e2
      have q1 := congrArg (fun s : Str => s.cps.size) e2
      have q2 := congrArg (fun s : Str => s.cps.size) h
      simp only [raw_size] at q1 q2
      omega
    · exact raw_inj ha hk hk' h
theorem names10 {bs : List Int} {a : Nat} (h1 : 1 ≤ bs.length) (h2 : bs.length ≤ 8) (ha : a < bs.length) : Names10 ((List.range 10).map (nmK bs a)) := by
  refine ⟨by simp, fun s hs => ?_, ?_, fun hs => ?_⟩
  · obtain ⟨k, _, rfl⟩ := List.mem_map.mp hs
    exact (nmK_ok a k h1 h2).1
  · exact List.pairwise_map.mpr (List.Pairwise.imp_of_mem (fun hk hk' hne e => hne (nmK_inj ha (List.mem_range.mp hk) (List.mem_range.mp hk') e)) (List.nodup_range (n := 10)))
  · obtain ⟨k, _, e⟩ := List.mem_map.mp hs
    exact (nmK_ok a k h1 h2).2 e
theorem letter_at (i : Int) (h0 : 0 ≤ i) (h1 : i < 26) : atI (Str.ofString "abcdefghijklmnopqrstuvwxyz").cps.toList i = some (97 + i.toNat) := by
  have e : i = (i.toNat : Int) := by omega
  rw [e]
  refine at_nat ?_
  rw [letters_eq, List.getElem?_range' (by omega)]
  simp
  omega
section
variable {K : PySem.W.Frag} {mg : Str → Option Value} {c : Cs}
theorem r_l_names : ∀ ds L Q X, S_l_names c ds L Q X → rd_l_names K c (dEndB L Q X) (startD ["_law_cell_here", "_law_letters", "_law_base", "_law_at", "_law_names_here", "_law_k", "_law_name", "_law_j"] ds) L := by
  rintro ds L Q X ⟨i, rfl, ⟨h0, h1⟩, q⟩
  show rd_l_names K c (dEndB L Q X) [some (.int i), none, none, none, none, none, none, none] L
  refine ⟨fun env L' => env = [some (.int i), some (.str "abcdefghijklmnopqrstuvwxyz"), none, none, none, none, none, none] ∧ L = L', ⟨rfl, rfl⟩, ?_⟩
  rintro _ _ ⟨rfl, rfl⟩
  refine ⟨fun env L' => (∃ bs : List Int, env = [some (.int i), some (.str "abcdefghijklmnopqrstuvwxyz"), some (.lst (bs.map .int)), none, none, none, none, none] ∧ 1 ≤ bs.length ∧ bs.length ≤ 8) ∧ L = L', ?_, ?_⟩
  · try simp (config := { maxSteps := 2000000 }) only [dSeq, dNext, dSet, dRet, dRetN, dIf, dDrop, dVar, dC, dOp, dUn, dB, dNot, dAnd, dOr, dAndV, dOrV, dNotV, dIfE, dCB, dNil, dCons, dTup, dLst, dLstO, dCall, dMake, dFld, dSetF, dAsg, dgTup, dgCons, dgNil, dgN, dStore, dApp, dBM, dChain, dSl, dPart, dNoPart, dRaise, dEndB, gI2, gNeg, gAdd, gMul, gEqB, gIsB, gStr, gInt, gIsi, tyM, List.getElem?_cons_zero, List.getElem?_cons_succ, List.set_cons_zero, List.set_cons_succ, Option.some.injEq, exists_eq_left', exists_eq_left, List.cons.injEq, and_true, true_and, D.bl.injEq, D.int.injEq, D.str.injEq, D.own.injEq, D.tup.injEq, List.length_cons, List.length_nil, if_true, if_false, Bool.false_eq_true, reduceIte, dLcG, dIR1, dYes, cgD, wipeD]
    refine ⟨by decide, by omega, fun n acc L' => L = L' ∧ ∃ bs : List Int, acc = bs.map .int ∧ bs.length = n, ⟨rfl, [], rfl, rfl⟩, fun _ _ _ _ => trivial, ?_, ?_⟩
    · rintro n acc L' x hn hx ⟨rfl, bs, rfl, hb⟩
      obtain rfl : D.int (0 + (n : Int)) = x := Option.some.inj hx
      have hn' : n < (1 + i % 8).toNat := hn
      refine ⟨by rw [List.length_map]; omega, ?_⟩
      try simp (config := { maxSteps := 2000000 }) only [dSeq, dNext, dSet, dRet, dRetN, dIf, dDrop, dVar, dC, dOp, dUn, dB, dNot, dAnd, dOr, dAndV, dOrV, dNotV, dIfE, dCB, dNil, dCons, dTup, dLst, dLstO, dCall, dMake, dFld, dSetF, dAsg, dgTup, dgCons, dgNil, dgN, dStore, dApp, dBM, dChain, dSl, dPart, dNoPart, dRaise, dEndB, gI2, gNeg, gAdd, gMul, gEqB, gIsB, gStr, gInt, gIsi, tyM, List.getElem?_cons_zero, List.getElem?_cons_succ, List.set_cons_zero, List.set_cons_succ, Option.some.injEq, exists_eq_left', exists_eq_left, List.cons.injEq, and_true, true_and, D.bl.injEq, D.int.injEq, D.str.injEq, D.own.injEq, D.tup.injEq, List.length_cons, List.length_nil, if_true, if_false, Bool.false_eq_true, reduceIte]
      refine ⟨by omega, .inl (by omega), by decide, ?_⟩
      exact ⟨bs ++ [(i / (0 + (n : Int) + 2) + (0 + (n : Int)) * (0 + (n : Int))) % 26], by rw [List.map_append]; rfl, by simp [hb]⟩
    · rintro acc L' ⟨rfl, bs, rfl, hb⟩
      have hb' : bs.length = (1 + i % 8).toNat := hb
      exact ⟨⟨bs, rfl, by omega, by omega⟩, rfl⟩
  rintro _ _ ⟨⟨bs, rfl, b1, b2⟩, rfl⟩
  refine ⟨fun env L' => (∃ a : Nat, a < bs.length ∧ env = [some (.int i), some (.str "abcdefghijklmnopqrstuvwxyz"), some (.lst (bs.map .int)), some (.int a), none, none, none, none]) ∧ L = L', ?_, ?_⟩
  · try simp (config := { maxSteps := 2000000 }) only [dSeq, dNext, dSet, dRet, dRetN, dIf, dDrop, dVar, dC, dOp, dUn, dB, dNot, dAnd, dOr, dAndV, dOrV, dNotV, dIfE, dCB, dNil, dCons, dTup, dLst, dLstO, dCall, dMake, dFld, dSetF, dAsg, dgTup, dgCons, dgNil, dgN, dStore, dApp, dBM, dChain, dSl, dPart, dNoPart, dRaise, dEndB, gI2, gNeg, gAdd, gMul, gEqB, gIsB, gStr, gInt, gIsi, tyM, List.getElem?_cons_zero, List.getElem?_cons_succ, List.set_cons_zero, List.set_cons_succ, Option.some.injEq, exists_eq_left', exists_eq_left, List.cons.injEq, and_true, true_and, D.bl.injEq, D.int.injEq, D.str.injEq, D.own.injEq, D.tup.injEq, List.length_cons, List.length_nil, if_true, if_false, Bool.false_eq_true, reduceIte]
    refine ⟨by decide, ?_⟩
    refine gLen_lst rfl ?_
    rw [List.length_map]
    try simp (config := { maxSteps := 2000000 }) only [dSeq, dNext, dSet, dRet, dRetN, dIf, dDrop, dVar, dC, dOp, dUn, dB, dNot, dAnd, dOr, dAndV, dOrV, dNotV, dIfE, dCB, dNil, dCons, dTup, dLst, dLstO, dCall, dMake, dFld, dSetF, dAsg, dgTup, dgCons, dgNil, dgN, dStore, dApp, dBM, dChain, dSl, dPart, dNoPart, dRaise, dEndB, gI2, gNeg, gAdd, gMul, gEqB, gIsB, gStr, gInt, gIsi, tyM, List.getElem?_cons_zero, List.getElem?_cons_succ, List.set_cons_zero, List.set_cons_succ, Option.some.injEq, exists_eq_left', exists_eq_left, List.cons.injEq, and_true, true_and, D.bl.injEq, D.int.injEq, D.str.injEq, D.own.injEq, D.tup.injEq, List.length_cons, List.length_nil, if_true, if_false, Bool.false_eq_true, reduceIte]
    refine ⟨by omega, (i / 8 % (bs.length : Int)).toNat, ?_, ?_⟩
    · have := Int.emod_lt_of_pos (i / 8) (b := (bs.length : Int)) (by omega)
      have := Int.emod_nonneg (i / 8) (b := (bs.length : Int)) (by omega)
      omega
    · have := Int.emod_nonneg (i / 8) (b := (bs.length : Int)) (by omega)
      exact (Int.toNat_of_nonneg this).symm
  rintro _ _ ⟨⟨a, ha, rfl⟩, rfl⟩
  refine ⟨fun env L' => env = [some (.int i), some (.str "abcdefghijklmnopqrstuvwxyz"), some (.lst (bs.map .int)), some (.int a), some (.own L.length), none, none, none] ∧ L' = L ++ [.lst []], ⟨by decide, rfl, rfl⟩, ?_⟩
  rintro _ _ ⟨rfl, rfl⟩
  refine ⟨fun env L' => (∃ o5 o6 o7, env = [some (.int i), some (.str "abcdefghijklmnopqrstuvwxyz"), some (.lst (bs.map .int)), some (.int a), some (.own L.length), o5, o6, o7]) ∧ L' = L ++ [.lst (((List.range 10).map (nmK bs a)).map .str)], ?_, ?_⟩
  · refine ⟨10, rfl, by decide, fun k env L' => (∃ o5 o6 o7, env = [some (.int i), some (.str "abcdefghijklmnopqrstuvwxyz"), some (.lst (bs.map .int)), some (.int a), some (.own L.length), o5, o6, o7]) ∧ L' = L ++ [.lst (((List.range k).map (nmK bs a)).map .str)], ⟨⟨_, _, _, rfl⟩, rfl⟩, fun _ _ _ _ => trivial, ?_, ?_⟩
    · rintro k env L' x hk hx ⟨⟨o5, o6, o7, rfl⟩, rfl⟩
      obtain rfl : D.int (0 + (k : Int)) = x := Option.some.inj hx
      rw [Int.zero_add]
      have hk' : k < 10 := hk
      try simp (config := { maxSteps := 2000000 }) only [dSeq, dNext, dSet, dRet, dRetN, dIf, dDrop, dVar, dC, dOp, dUn, dB, dNot, dAnd, dOr, dAndV, dOrV, dNotV, dIfE, dCB, dNil, dCons, dTup, dLst, dLstO, dCall, dMake, dFld, dSetF, dAsg, dgTup, dgCons, dgNil, dgN, dStore, dApp, dBM, dChain, dSl, dPart, dNoPart, dRaise, dEndB, gI2, gNeg, gAdd, gMul, gEqB, gIsB, gStr, gInt, gIsi, tyM, List.getElem?_cons_zero, List.getElem?_cons_succ, List.set_cons_zero, List.set_cons_succ, Option.some.injEq, exists_eq_left', exists_eq_left, List.cons.injEq, and_true, true_and, D.bl.injEq, D.int.injEq, D.str.injEq, D.own.injEq, D.tup.injEq, List.length_cons, List.length_nil, if_true, if_false, Bool.false_eq_true, reduceIte, dFor, dIR1]
      refine gLen_lst rfl ?_
      rw [List.length_map]
      try simp (config := { maxSteps := 2000000 }) only [dSeq, dNext, dSet, dRet, dRetN, dIf, dDrop, dVar, dC, dOp, dUn, dB, dNot, dAnd, dOr, dAndV, dOrV, dNotV, dIfE, dCB, dNil, dCons, dTup, dLst, dLstO, dCall, dMake, dFld, dSetF, dAsg, dgTup, dgCons, dgNil, dgN, dStore, dApp, dBM, dChain, dSl, dPart, dNoPart, dRaise, dEndB, gI2, gNeg, gAdd, gMul, gEqB, gIsB, gStr, gInt, gIsi, tyM, List.getElem?_cons_zero, List.getElem?_cons_succ, List.set_cons_zero, List.set_cons_succ, Option.some.injEq, exists_eq_left', exists_eq_left, List.cons.injEq, and_true, true_and, D.bl.injEq, D.int.injEq, D.str.injEq, D.own.injEq, D.tup.injEq, List.length_cons, List.length_nil, if_true, if_false, Bool.false_eq_true, reduceIte]
      refine ⟨by omega, fun j env L' => (∃ o7, env = [some (.int i), some (.str "abcdefghijklmnopqrstuvwxyz"), some (.lst (bs.map .int)), some (.int a), some (.own L.length), some (.int k), some (.str (rawN bs a k j)), o7]) ∧ L' = L ++ [.lst (((List.range k).map (nmK bs a)).map .str)], ⟨⟨_, rfl⟩, rfl⟩, fun _ _ _ _ => trivial, ?_, ?_⟩
      · rintro j env L' x hj hx ⟨⟨o7, rfl⟩, rfl⟩
        obtain rfl : D.int (0 + (j : Int)) = x := Option.some.inj hx
        rw [Int.zero_add]
        have hj' : j < bs.length := by have : j < (bs.length : Int).toNat := hj; omega
        try simp (config := { maxSteps := 2000000 }) only [dSeq, dNext, dSet, dRet, dRetN, dIf, dDrop, dVar, dC, dOp, dUn, dB, dNot, dAnd, dOr, dAndV, dOrV, dNotV, dIfE, dCB, dNil, dCons, dTup, dLst, dLstO, dCall, dMake, dFld, dSetF, dAsg, dgTup, dgCons, dgNil, dgN, dStore, dApp, dBM, dChain, dSl, dPart, dNoPart, dRaise, dEndB, gI2, gNeg, gAdd, gMul, gEqB, gIsB, gStr, gInt, gIsi, tyM, List.getElem?_cons_zero, List.getElem?_cons_succ, List.set_cons_zero, List.set_cons_succ, Option.some.injEq, exists_eq_left', exists_eq_left, List.cons.injEq, and_true, true_and, D.bl.injEq, D.int.injEq, D.str.injEq, D.own.injEq, D.tup.injEq, List.length_cons, List.length_nil, if_true, if_false, Bool.false_eq_true, reduceIte]
        refine gIx_lst rfl (at_nat (map_get hj')) ?_
        try simp (config := { maxSteps := 2000000 }) only [dSeq, dNext, dSet, dRet, dRetN, dIf, dDrop, dVar, dC, dOp, dUn, dB, dNot, dAnd, dOr, dAndV, dOrV, dNotV, dIfE, dCB, dNil, dCons, dTup, dLst, dLstO, dCall, dMake, dFld, dSetF, dAsg, dgTup, dgCons, dgNil, dgN, dStore, dApp, dBM, dChain, dSl, dPart, dNoPart, dRaise, dEndB, gI2, gNeg, gAdd, gMul, gEqB, gIsB, gStr, gInt, gIsi, tyM, List.getElem?_cons_zero, List.getElem?_cons_succ, List.set_cons_zero, List.set_cons_succ, Option.some.injEq, exists_eq_left', exists_eq_left, List.cons.injEq, and_true, true_and, D.bl.injEq, D.int.injEq, D.str.injEq, D.own.injEq, D.tup.injEq, List.length_cons, List.length_nil, if_true, if_false, Bool.false_eq_true, reduceIte, gInt]
        refine ⟨.inl (by omega), by decide, ?_⟩
        have e26 := Int.emod_nonneg (bs.getD j 0 + (k : Int) * (if (false ^^ decide ((j : Int) = (a : Int))) = true then 1 else 0)) (b := 26) (by decide)
        have e27 := Int.emod_lt_of_pos (bs.getD j 0 + (k : Int) * (if (false ^^ decide ((j : Int) = (a : Int))) = true then 1 else 0)) (b := 26) (by decide)
        refine ⟨by decide +kernel, _, letter_at _ e26 e27, ?_⟩
        have eif : (if (false ^^ decide ((j : Int) = (a : Int))) = true then (1 : Int) else 0) = if j = a then 1 else 0 := by
          rw [Bool.false_xor]
          by_cases h : j = a
          · rw [if_pos (by simp [h]), if_pos h]
          · rw [if_neg (by simp; omega), if_neg h]
        have es : rawN bs a k j ++ (⟨#[97 + ((bs.getD j 0 + (k : Int) * (if (false ^^ decide ((j : Int) = (a : Int))) = true then 1 else 0)) % 26).toNat]⟩ : Str) = rawN bs a k (j + 1) := by
          rw [eif]
          unfold rawN
          rw [List.range_succ, List.map_append, ← List.append_toArray]
          rfl
        dsimp only
        rw [es]
        refine ⟨?_, ⟨_, rfl, rfl⟩, rfl⟩
        have : (rawN bs a k j).length = j := raw_size ..
        rw [this]
        show j + 1 ≤ _
        omega
      · rintro env L' ⟨⟨o7, rfl⟩, rfl⟩
        rw [show (rngD 0 ((bs.length : Int)).toNat).n = bs.length from by show ((bs.length : Int)).toNat = _; omega]
        try simp (config := { maxSteps := 2000000 }) only [dSeq, dNext, dSet, dRet, dRetN, dIf, dDrop, dVar, dC, dOp, dUn, dB, dNot, dAnd, dOr, dAndV, dOrV, dNotV, dIfE, dCB, dNil, dCons, dTup, dLst, dLstO, dCall, dMake, dFld, dSetF, dAsg, dgTup, dgCons, dgNil, dgN, dStore, dApp, dBM, dChain, dSl, dPart, dNoPart, dRaise, dEndB, gI2, gNeg, gAdd, gMul, gEqB, gIsB, gStr, gInt, gIsi, tyM, List.getElem?_cons_zero, List.getElem?_cons_succ, List.set_cons_zero, List.set_cons_succ, Option.some.injEq, exists_eq_left', exists_eq_left, List.cons.injEq, and_true, true_and, D.bl.injEq, D.int.injEq, D.str.injEq, D.own.injEq, D.tup.injEq, List.length_cons, List.length_nil, if_true, if_false, Bool.false_eq_true, reduceIte]
        rw [Bool.false_xor]
        have fin : (OD.lst (((List.range k).map (nmK bs a)).map D.str ++ [D.str (nmK bs a k)])) = OD.lst (((List.range (k + 1)).map (nmK bs a)).map D.str) := by
          rw [List.range_succ, List.map_append, List.map_append]
          rfl
        by_cases h : rawN bs a k bs.length = "self"
        · have en : nmK bs a k = "selfs" := if_pos h
          rw [if_pos (by simpa using h)]
          refine ⟨_, _, rfl, get_end _, _, get_end _, by rw [List.length_map, List.length_map, List.length_range]; omega, ?_⟩
          refine ⟨⟨_, _, _, rfl, rfl, rfl⟩, ?_⟩
          rw [set_end, ← fin, en]
        · have en : nmK bs a k = rawN bs a k bs.length := if_neg h
          rw [if_neg (by simpa using h)]
          refine ⟨_, _, rfl, get_end _, _, get_end _, by rw [List.length_map, List.length_map, List.length_range]; omega, ?_⟩
          refine ⟨⟨_, _, _, rfl, rfl, rfl⟩, ?_⟩
          rw [set_end, ← fin, en]
    · rintro env L' ⟨⟨o5, o6, o7, rfl⟩, rfl⟩
      exact ⟨⟨_, _, _, rfl⟩, rfl⟩
  · rintro _ _ ⟨⟨o5, o6, o7, rfl⟩, rfl⟩
    exact ⟨_, rfl, bkL _ (get_end _) (Nat.le_refl _) (closA_map (fun _ => rfl) _) (q _ (names10 b1 b2 ha))⟩
end
end K38
set_option Elab.async false
set_option linter.all false
set_option maxRecDepth 100000
set_option maxHeartbeats 2000000
namespace K38
open PySem PySem.Spec PyProof.Rows L2 DL
/-! ### the houses -/
theorem names_at {xs : List Str} (N : Names10 xs) {i : Nat} (h : i < 10) : ∃ s, xs[i]? = some s ∧ s ∈ xs := by
  have : i < xs.length := by rw [N.len]; exact h
  exact ⟨xs[i], List.getElem?_eq_getElem this, List.getElem_mem this⟩
/-- the name of place j -/
def nmAt (xs : List Str) (h : Int) (j : Nat) : Str := xs.getD (((j : Int) + h / 8) % 10).toNat ""
theorem nmAt_mem {xs : List Str} (N : Names10 xs) (h : Int) (j : Nat) : nmAt xs h j ∈ xs ∧ xs[(((j : Int) + h / 8) % 10).toNat]? = some (nmAt xs h j) := by
  have h1 := Int.emod_nonneg ((j : Int) + h / 8) (b := 10) (by decide)
  have h2 := Int.emod_lt_of_pos ((j : Int) + h / 8) (b := 10) (by decide)
  obtain ⟨s, e, hs⟩ := names_at N (i := (((j : Int) + h / 8) % 10).toNat) (by omega)
  unfold nmAt
  rw [List.getD_eq_getElem?_getD, e]
  exact ⟨hs, rfl⟩
theorem nmAt_inj {xs : List Str} (N : Names10 xs) {h : Int} {j j' : Nat} (hj : j < 10) (hj' : j' < 10) (e : nmAt xs h j = nmAt xs h j') : j = j' := by
  have e1 := (nmAt_mem N h j).2
  have e2 := (nmAt_mem N h j').2
  rw [e] at e1
  have h1 := Int.emod_nonneg ((j : Int) + h / 8) (b := 10) (by decide)
  have h2 := Int.emod_nonneg ((j' : Int) + h / 8) (b := 10) (by decide)
  obtain ⟨l1, g1⟩ := List.getElem?_eq_some_iff.mp e1
  obtain ⟨l2, g2⟩ := List.getElem?_eq_some_iff.mp e2
  have := (List.getElem_inj N.nd).mp (g1.trans g2.symm)
  omega
theorem self_name : nameS "self" = true := by decide +kernel
/-- drawn so far -/
structure Drawn (xs : List Str) (h : Int) (m k : Nat) (left : Int) (ps : List (Str × Int)) : Prop where
  nm : ps.map (·.1) = (List.range k).map (nmAt xs h)
  w : ∀ p ∈ ps, 1 ≤ p.2
  sum : (ps.map (·.2)).sum + left = 100 - m + k
  left : 0 ≤ left
theorem Drawn.len {xs : List Str} {h : Int} {m k : Nat} {left : Int} {ps : List (Str × Int)} (d : Drawn xs h m k left ps) : ps.length = k := by
  have := congrArg List.length d.nm
  simpa using this
theorem Drawn.houses {xs : List Str} {h : Int} {m : Nat} {left : Int} {ps : List (Str × Int)} (N : Names10 xs) (h1 : 1 ≤ m) (h8 : m ≤ 8) (d : Drawn xs h m m left ps) : Houses ps := by
  have hl := d.len
  refine ⟨by omega, by omega, fun p hp => ?_, ?_, d.w, by have := d.sum; have := d.left; omega⟩
  · have : p.1 ∈ ps.map (·.1) := List.mem_map_of_mem hp
    rw [d.nm] at this
    obtain ⟨j, _, e⟩ := List.mem_map.mp this
    rw [← e]
    exact N.ok _ (nmAt_mem N h j).1
  · rw [d.nm]
    exact List.pairwise_map.mpr (List.Pairwise.imp_of_mem (fun hk hk' hne e => hne (nmAt_inj N (by have := List.mem_range.mp hk; omega) (by have := List.mem_range.mp hk'; omega) e)) (List.nodup_range (n := m)))
theorem Houses.setSelf {ps : List (Str × Int)} (H : Houses ps) (hn : ("self" : Str) ∉ ps.map (·.1)) {i : Nat} {w : Int} (hi : i < ps.length) (hw : ∃ s, ps[i]? = some (s, w)) : Houses (ps.set i ("self", w)) := by
  obtain ⟨s, hs⟩ := hw
  have e1 : (ps.set i (("self" : Str), w)).map (fun p => p.1) = (ps.map (fun p => p.1)).set i ("self" : Str) := List.map_set
  have e2 : (ps.set i ("self", w)).map (·.2) = ps.map (·.2) := by
    rw [List.map_set]
    apply List.ext_getElem?
    intro j
    by_cases e : i = j
    · subst e
      rw [List.getElem?_set_self (by rw [List.length_map]; exact hi), List.getElem?_map, hs]
      rfl
    · rw [List.getElem?_set_ne e]
  refine ⟨by rw [List.length_set]; exact H.lo, by rw [List.length_set]; exact H.hi, fun p hp => ?_, ?_, fun p hp => ?_, by rw [e2]; exact H.sum⟩
  · rcases List.mem_or_eq_of_mem_set hp with h | h
    · exact H.ok p h
    · rw [h]; exact self_name
  · rw [e1]
    refine List.pairwise_iff_getElem.mpr fun a b ha hb hab => ?_
    have hnd := List.pairwise_iff_getElem.mp H.nd
    rw [List.length_set] at ha hb
    rw [List.getElem_set, List.getElem_set]
    by_cases ea : i = a
    · rw [if_pos ea, if_neg (by omega)]
      exact fun e => hn (e ▸ List.getElem_mem hb)
    · rw [if_neg ea]
      by_cases eb : i = b
      · rw [if_pos eb]
        exact fun e => hn (e ▸ List.getElem_mem ha)
      · rw [if_neg eb]
        exact hnd a b ha hb hab
  · rcases List.mem_or_eq_of_mem_set hp with h | h
    · exact H.w p h
    · rw [h]; exact H.w (s, w) (List.mem_of_getElem? hs)
section
variable {K : PySem.W.Frag} {mg : Str → Option Value} {c : Cs}
theorem strs_get {xs : List Str} {i : Nat} {s : Str} (h : xs[i]? = some s) : (xs.map D.str)[i]? = some (.str s) := by rw [List.getElem?_map, h]; rfl
theorem hw_get {ps : List (Str × Int)} {i : Nat} {p : Str × Int} (h : ps[i]? = some p) : (ps.map hwD)[i]? = some (hwD p) := by rw [List.getElem?_map, h]; rfl
theorem r_l_houses : ∀ ds L Q X, S_l_houses c ds L Q X → rd_l_houses K c (dEndB L Q X) (startD ["_law_script", "_law_names_here", "_law_head", "_law_many", "_law_pairs", "_law_left", "_law_k", "_law_more"] ds) L := by
  rintro ds L Q X ⟨ns, xs, rfl, hn, N, q⟩
  show rd_l_houses K c (dEndB L Q X) [some (.sq (ns.map .int)), some (.lst (xs.map .str)), none, none, none, none, none, none] L
  refine ⟨fun env L' => (∃ h : Int, 0 ≤ h ∧ env = [some (.sq (ns.map .int)), some (.lst (xs.map .str)), some (.int h), none, none, none, none, none]) ∧ L = L', ?_, ?_⟩
  · try simp (config := { maxSteps := 2000000 }) only [dSeq, dNext, dSet, dRet, dRetN, dIf, dDrop, dVar, dC, dOp, dUn, dB, dNot, dAnd, dOr, dAndV, dOrV, dNotV, dIfE, dCB, dNil, dCons, dTup, dLst, dLstO, dCall, dMake, dFld, dSetF, dAsg, dgTup, dgCons, dgNil, dgN, dStore, dApp, dBM, dChain, dSl, dPart, dNoPart, dRaise, dEndB, gI2, gNeg, gAdd, gMul, gEqB, gIsB, gStr, gInt, gIsi, tyM, List.getElem?_cons_zero, List.getElem?_cons_succ, List.set_cons_zero, List.set_cons_succ, Option.some.injEq, exists_eq_left', exists_eq_left, List.cons.injEq, and_true, true_and, D.bl.injEq, D.int.injEq, D.str.injEq, D.own.injEq, D.tup.injEq, List.length_cons, List.length_nil, if_true, if_false, Bool.false_eq_true, reduceIte, S_l_cell]
    refine ⟨ns, 4, ⟨rfl, rfl⟩, hn, by decide, ⟨by decide, by decide, by decide⟩, by decide, _, ?_, rfl⟩
    exact Int.emod_nonneg _ (by decide)
  rintro _ _ ⟨⟨h, h0, rfl⟩, rfl⟩
  refine ⟨fun env L' => (∃ m : Nat, (1 ≤ m ∧ m ≤ 8) ∧ env = [some (.sq (ns.map .int)), some (.lst (xs.map .str)), some (.int h), some (.int m), none, none, none, none]) ∧ L = L', ?_, ?_⟩
  · try simp (config := { maxSteps := 2000000 }) only [dSeq, dNext, dSet, dRet, dRetN, dIf, dDrop, dVar, dC, dOp, dUn, dB, dNot, dAnd, dOr, dAndV, dOrV, dNotV, dIfE, dCB, dNil, dCons, dTup, dLst, dLstO, dCall, dMake, dFld, dSetF, dAsg, dgTup, dgCons, dgNil, dgN, dStore, dApp, dBM, dChain, dSl, dPart, dNoPart, dRaise, dEndB, gI2, gNeg, gAdd, gMul, gEqB, gIsB, gStr, gInt, gIsi, tyM, List.getElem?_cons_zero, List.getElem?_cons_succ, List.set_cons_zero, List.set_cons_succ, Option.some.injEq, exists_eq_left', exists_eq_left, List.cons.injEq, and_true, true_and, D.bl.injEq, D.int.injEq, D.str.injEq, D.own.injEq, D.tup.injEq, List.length_cons, List.length_nil, if_true, if_false, Bool.false_eq_true, reduceIte]
    refine ⟨by decide, (1 + h % 8).toNat, by omega, by omega⟩
  rintro _ _ ⟨⟨m, ⟨m1, m8⟩, rfl⟩, rfl⟩
  refine ⟨fun env L' => env = [some (.sq (ns.map .int)), some (.lst (xs.map .str)), some (.int h), some (.int m), some (.own L.length), none, none, none] ∧ L' = L ++ [.lst []], ⟨by decide, rfl, rfl⟩, ?_⟩
  rintro _ _ ⟨rfl, rfl⟩
  refine ⟨fun env L' => env = [some (.sq (ns.map .int)), some (.lst (xs.map .str)), some (.int h), some (.int m), some (.own L.length), some (.int (100 - m)), none, none] ∧ L' = L ++ [.lst []], ⟨_, rfl, trivial, rfl, rfl⟩, ?_⟩
  rintro _ _ ⟨rfl, rfl⟩
  refine ⟨fun env L' => ∃ left o6 o7 ps, Drawn xs h m m left ps ∧ env = [some (.sq (ns.map .int)), some (.lst (xs.map .str)), some (.int h), some (.int m), some (.own L.length), some (.int left), o6, o7] ∧ L' = L ++ [.lst (ps.map hwD)], ?_, ?_⟩
  · refine ⟨_, rfl, m, rfl, by omega, fun k env L' => ∃ left o6 o7 ps, Drawn xs h m k left ps ∧ env = [some (.sq (ns.map .int)), some (.lst (xs.map .str)), some (.int h), some (.int m), some (.own L.length), some (.int left), o6, o7] ∧ L' = L ++ [.lst (ps.map hwD)], ⟨_, _, _, [], ⟨rfl, fun _ h => (nomatch h), by show (0 : Int) + (100 - (m : Int)) = 100 - m + ((0 : Nat) : Int); omega, by omega⟩, rfl, rfl⟩, fun _ _ _ _ => trivial, ?_, ?_⟩
    · rintro k env L' x hk hx ⟨left, o6, o7, ps, dr, rfl, rfl⟩
      obtain rfl : D.int (0 + (k : Int)) = x := Option.some.inj hx
      rw [Int.zero_add]
      have hk' : k < m := by have : k < ((m : Int)).toNat := hk; omega
      try simp (config := { maxSteps := 2000000 }) only [dSeq, dNext, dSet, dRet, dRetN, dIf, dDrop, dVar, dC, dOp, dUn, dB, dNot, dAnd, dOr, dAndV, dOrV, dNotV, dIfE, dCB, dNil, dCons, dTup, dLst, dLstO, dCall, dMake, dFld, dSetF, dAsg, dgTup, dgCons, dgNil, dgN, dStore, dApp, dBM, dChain, dSl, dPart, dNoPart, dRaise, dEndB, gI2, gNeg, gAdd, gMul, gEqB, gIsB, gStr, gInt, gIsi, tyM, List.getElem?_cons_zero, List.getElem?_cons_succ, List.set_cons_zero, List.set_cons_succ, Option.some.injEq, exists_eq_left', exists_eq_left, List.cons.injEq, and_true, true_and, D.bl.injEq, D.int.injEq, D.str.injEq, D.own.injEq, D.tup.injEq, List.length_cons, List.length_nil, if_true, if_false, Bool.false_eq_true, reduceIte, S_l_cell, gMin2]
      have ml := dr.left
      have mn : 0 ≤ min left 30 := by omega
      have hN := nmAt_mem N h k
      have g1 := Int.emod_nonneg ((k : Int) + h / 8) (b := 10) (by decide)
      refine ⟨ns, 5 + k, ⟨rfl, by omega⟩, hn, by omega, _, _, ⟨rfl, rfl⟩, by omega, _, _, rfl, get_end _, by decide, by decide, ?_⟩
      have eat : (((k : Int) + h / 8) % 10) = ((((k : Int) + h / 8) % 10).toNat : Int) := by omega
      rw [eat]
      refine gIx_lst rfl (at_nat (strs_get hN.2)) ?_
      try simp (config := { maxSteps := 2000000 }) only [dSeq, dNext, dSet, dRet, dRetN, dIf, dDrop, dVar, dC, dOp, dUn, dB, dNot, dAnd, dOr, dAndV, dOrV, dNotV, dIfE, dCB, dNil, dCons, dTup, dLst, dLstO, dCall, dMake, dFld, dSetF, dAsg, dgTup, dgCons, dgNil, dgN, dStore, dApp, dBM, dChain, dSl, dPart, dNoPart, dRaise, dEndB, gI2, gNeg, gAdd, gMul, gEqB, gIsB, gStr, gInt, gIsi, tyM, List.getElem?_cons_zero, List.getElem?_cons_succ, List.set_cons_zero, List.set_cons_succ, Option.some.injEq, exists_eq_left', exists_eq_left, List.cons.injEq, and_true, true_and, D.bl.injEq, D.int.injEq, D.str.injEq, D.own.injEq, D.tup.injEq, List.length_cons, List.length_nil, if_true, if_false, Bool.false_eq_true, reduceIte]
      have f1 := Int.emod_nonneg (cellI ns (5 + k)) (b := min left 30 + 1) (by omega)
      have f2 := Int.emod_lt_of_pos (cellI ns (5 + k)) (b := min left 30 + 1) (by omega)
      have hl := dr.len
      refine ⟨by decide, _, get_end _, by rw [List.length_map]; omega, left - cellI ns (5 + k) % (min left 30 + 1), _, _, ps ++ [(nmAt xs h k, 1 + cellI ns (5 + k) % (min left 30 + 1))], ⟨?_, ?_, ?_, by omega⟩, ⟨rfl, rfl, rfl⟩, ?_⟩
      · rw [List.map_append, dr.nm, List.range_succ, List.map_append]
        rfl
      · intro p hp
        rcases List.mem_append.mp hp with z | z
        · exact dr.w p z
        · rw [List.mem_singleton] at z
          subst z
          show 1 ≤ 1 + _
          omega
      · rw [List.map_append, List.sum_append]
        have := dr.sum
        simp
        omega
      · rw [set_end, List.map_append]
        rfl
    · rintro env L' ⟨left, o6, o7, ps, dr, rfl, rfl⟩
      rw [show (rngD 0 ((m : Int)).toNat).n = m from by show ((m : Int)).toNat = _; omega] at dr
      exact ⟨left, o6, o7, ps, dr, rfl, rfl⟩
  rintro _ _ ⟨left, o6, o7, ps, dr, rfl, rfl⟩
  have H := dr.houses N m1 m8
  have hl := dr.len
  have hns : ("self" : Str) ∉ ps.map (·.1) := fun z => by
    rw [dr.nm] at z
    obtain ⟨j, _, e⟩ := List.mem_map.mp z
    exact N.no (e ▸ (nmAt_mem N h j).1)
  refine ⟨fun env L' => ∃ ps, Houses ps ∧ env = [some (.sq (ns.map .int)), some (.lst (xs.map .str)), some (.int h), some (.int m), some (.own L.length), some (.int left), o6, o7] ∧ L' = L ++ [.lst (ps.map hwD)], ?_, ?_⟩
  · try simp (config := { maxSteps := 2000000 }) only [dSeq, dNext, dSet, dRet, dRetN, dIf, dDrop, dVar, dC, dOp, dUn, dB, dNot, dAnd, dOr, dAndV, dOrV, dNotV, dIfE, dCB, dNil, dCons, dTup, dLst, dLstO, dCall, dMake, dFld, dSetF, dAsg, dgTup, dgCons, dgNil, dgN, dStore, dApp, dBM, dChain, dSl, dPart, dNoPart, dRaise, dEndB, gI2, gNeg, gAdd, gMul, gEqB, gIsB, gStr, gInt, gIsi, tyM, List.getElem?_cons_zero, List.getElem?_cons_succ, List.set_cons_zero, List.set_cons_succ, Option.some.injEq, exists_eq_left', exists_eq_left, List.cons.injEq, and_true, true_and, D.bl.injEq, D.int.injEq, D.str.injEq, D.own.injEq, D.tup.injEq, List.length_cons, List.length_nil, if_true, if_false, Bool.false_eq_true, reduceIte]
    refine ⟨by decide, by decide, ?_⟩
    by_cases hc : h / 80 % 4 = 1
    · rw [if_pos (by simpa using hc)]
      have j0 := Int.emod_nonneg (h / 320) (b := (m : Int)) (by omega)
      have j1 := Int.emod_lt_of_pos (h / 320) (b := (m : Int)) (by omega)
      have ej : (h / 320 % (m : Int)) = ((h / 320 % (m : Int)).toNat : Int) := by omega
      have hj : (h / 320 % (m : Int)).toNat < ps.length := by omega
      refine ⟨by decide, by omega, ?_⟩
      rw [ej]
      refine gIx_lst (lst_own (get_end _)) (at_nat (hw_get (List.getElem?_eq_getElem hj))) ?_
      try simp (config := { maxSteps := 2000000 }) only [dSeq, dNext, dSet, dRet, dRetN, dIf, dDrop, dVar, dC, dOp, dUn, dB, dNot, dAnd, dOr, dAndV, dOrV, dNotV, dIfE, dCB, dNil, dCons, dTup, dLst, dLstO, dCall, dMake, dFld, dSetF, dAsg, dgTup, dgCons, dgNil, dgN, dStore, dApp, dBM, dChain, dSl, dPart, dNoPart, dRaise, dEndB, gI2, gNeg, gAdd, gMul, gEqB, gIsB, gStr, gInt, gIsi, tyM, List.getElem?_cons_zero, List.getElem?_cons_succ, List.set_cons_zero, List.set_cons_succ, Option.some.injEq, exists_eq_left', exists_eq_left, List.cons.injEq, and_true, true_and, D.bl.injEq, D.int.injEq, D.str.injEq, D.own.injEq, D.tup.injEq, List.length_cons, List.length_nil, if_true, if_false, Bool.false_eq_true, reduceIte]
      refine ⟨_, .int (ps[(h / 320 % (m : Int)).toNat]).2, rfl, rfl, ?_⟩
      refine ⟨by decide, by decide, by omega, _, _, _, _, rfl, rfl, get_end _, ixN_nat (by rw [List.length_map]; exact hj), ?_⟩
      refine ⟨ps.set (h / 320 % (m : Int)).toNat ("self", (ps[(h / 320 % (m : Int)).toNat]).2), H.setSelf hns hj ⟨_, List.getElem?_eq_getElem hj⟩, ?_⟩
      rw [set_end, List.map_set]
    · rw [if_neg (by simpa using hc)]
      exact ⟨ps, H, rfl⟩
  rintro _ _ ⟨ps', H', rfl, rfl⟩
  refine ⟨_, rfl, bkL _ (get_end _) (Nat.le_refl _) (closA_map (fun _ => rfl) _) (q ps' H')⟩
end
end K38
set_option Elab.async false
set_option linter.all false
set_option maxRecDepth 100000
set_option maxHeartbeats 2000000
namespace K38
open PySem PySem.Spec PyProof.Rows L2 DL
/-! ### spoilt pairs -/
theorem houses_inv : ∀ {hs : List D} {f r : List Str}, housesGo hs f = some r → hs.Nodup ∧ (∀ h ∈ hs, nameOk h = true) ∧ ∀ s ∈ f, D.str s ∉ hs
  | [], f, r, _ => ⟨List.nodup_nil, fun _ h => (nomatch h), fun _ _ h => (nomatch h)⟩
  | h :: hs, f, r, e => by
    rw [housesGo_cons] at e
    cases h with
    | str s =>
      dsimp only at e
      by_cases hc : nameS s = true ∧ s ∉ f
      · rw [if_pos hc] at e
        obtain ⟨h1, h2, h3⟩ := houses_inv e
        refine ⟨List.nodup_cons.mpr ⟨h3 s (by simp), h1⟩, fun x hx => ?_, fun x hx hm => ?_⟩
        · rcases List.mem_cons.mp hx with rfl | hx
          · exact hc.1
          · exact h2 x hx
        · rcases List.mem_cons.mp hm with z | z
          · cases z; exact hc.2 hx
          · exact h3 x (List.mem_append_left _ hx) z
      · rw [if_neg hc] at e; cases e
    | _ => cases e
theorem houses_some : ∀ (ns f : List Str), (∀ n ∈ ns, nameS n = true) → ns.Nodup → (∀ n ∈ ns, n ∉ f) → housesGo (ns.map .str) f = some (f ++ ns)
  | [], f, _, _, _ => by rw [List.append_nil]; rfl
  | n :: ns, f, h1, h2, h3 => by
    rw [List.map_cons, housesGo_cons]
    dsimp only
    rw [if_pos ⟨h1 n List.mem_cons_self, h3 n List.mem_cons_self⟩]
    obtain ⟨a, b⟩ := List.nodup_cons.mp h2
    rw [houses_some ns (f ++ [n]) (fun x hx => h1 x (List.mem_cons_of_mem _ hx)) b fun x hx hm => ?_]
    · simp
    · rcases List.mem_append.mp hm with z | z
      · exact h3 x (List.mem_cons_of_mem _ hx) z
      · rw [List.mem_singleton] at z
        subst z
        exact a hx
theorem cover_go {nm : Str} {n : Nat} {bs : List (D × D)} (h1 : nameS nm = true) (h2 : nm ≠ "self") (h3 : n ≤ 8) : coverOf (.str nm) n bs = match housesGo (bs.map (·.1)) [] with
    | none => 1
    | some _ => match totalOf (bs.map (·.2)) with
      | none => 2
      | some _ => 0 := by
  unfold coverOf
  rw [if_neg (by
    rintro (z | z | z)
    · have z' : nameS nm = false := z
      rw [h1] at z'; cases z'
    · have z' : decide (nm = "self") = true := z
      exact h2 (of_decide_eq_true z')
    · omega)]
  try rfl
theorem bad1 {nm : Str} {n : Nat} {bs : List (D × D)} (h1 : nameS nm = true) (h2 : nm ≠ "self") (h3 : n ≤ 8) (h : housesGo (bs.map (·.1)) [] = none) : coverOf (.str nm) n bs = 1 := by
  rw [cover_go h1 h2 h3, h]
theorem bad2 {nm : Str} {n : Nat} {bs : List (D × D)} {r : List Str} (h1 : nameS nm = true) (h2 : nm ≠ "self") (h3 : n ≤ 8) (h : housesGo (bs.map (·.1)) [] = some r) (ht : totalOf (bs.map (·.2)) = none) : coverOf (.str nm) n bs = 2 := by
  rw [cover_go h1 h2 h3, h, ht]
theorem none_of {hs : List D} (h : ¬ (hs.Nodup ∧ ∀ x ∈ hs, nameOk x = true)) : housesGo hs [] = none := by
  cases e : housesGo hs [] with
  | none => rfl
  | some r => exact absurd ⟨(houses_inv e).1, (houses_inv e).2.1⟩ h
abbrev encP (p : Str × Int) : D × D := (.str p.1, .int p.2)
abbrev odds : List D := [.str "", .str "Acme", .str "a b", .str "abcdefghi", .int 5, .non, .bl true, .str "a1", .str "a.b", .str " a", .str "a-", .tup [.str "a"], .lst [.str "b"], .str "aB"]
theorem odds_no : ∀ x ∈ odds, nameOk x = false := by decide +kernel
theorem odds_ok (L : LH) : ∀ x ∈ odds, okH L x := by
  intro x hx
  simp only [odds, List.mem_cons, List.not_mem_nil, or_false] at hx
  rcases hx with rfl | rfl | rfl | rfl | rfl | rfl | rfl | rfl | rfl | rfl | rfl | rfl | rfl | rfl <;> exact ⟨_, rfl, fun s h => by cases h <;> decide +kernel⟩
theorem okH_name {s : Str} (h : nameS s = true) (L : LH) : okH L (.str s) := ⟨"str", rfl, fun x e => by
  cases e
  unfold nameS at h
  rw [Bool.and_eq_true, Bool.and_eq_true] at h
  have h2 := of_decide_eq_true h.1.2
  show s.cps.size ≤ _
  omega⟩
theorem enc_ok {ps : List (Str × Int)} (H : Houses ps) (L : LH) : ∀ p ∈ ps.map encP, okH L p.1 ∧ ∃ t, tyS L p.2 = some t := by
  intro p hp
  obtain ⟨q, hq, rfl⟩ := List.mem_map.mp hp
  exact ⟨okH_name (H.ok q hq) L, "int", rfl⟩
theorem odds_cl : ∀ x ∈ odds, x.clos = true := by decide +kernel
theorem enc_cl (ps : List (Str × Int)) : ∀ p ∈ ps.map encP, p.1.clos = true ∧ p.2.clos = true := by
  intro p hp
  obtain ⟨q, hq, rfl⟩ := List.mem_map.mp hp
  exact ⟨rfl, rfl⟩
theorem fst_enc (ps : List (Str × Int)) : (ps.map encP).map (·.1) = (ps.map (·.1)).map D.str := by rw [List.map_map, List.map_map]; rfl
theorem snd_enc (ps : List (Str × Int)) : (ps.map encP).map (·.2) = (ps.map (·.2)).map D.int := by rw [List.map_map, List.map_map]; rfl
theorem badA {ps : List (Str × Int)} (H : Houses ps) {a : Nat} (ha : a < ps.length) {x : D} {w : D} (hx : x ∈ odds) (hw : ∃ i, w = .int i) : BadPs 0 ((ps.map encP).set a (x, w)) := by
  refine ⟨by rw [List.length_set, List.length_map]; have := H.hi; omega, fun L p hp => ?_, fun p hp => ?_, fun nm n h1 h2 h3 => ?_⟩
  · rcases List.mem_or_eq_of_mem_set hp with z | z
    · exact enc_ok H L p z
    · rw [z]
      obtain ⟨i, rfl⟩ := hw
      exact ⟨odds_ok L x hx, "int", rfl⟩
  · rcases List.mem_or_eq_of_mem_set hp with z | z
    · exact enc_cl ps p z
    · rw [z]
      obtain ⟨i, rfl⟩ := hw
      exact ⟨odds_cl x hx, rfl⟩
  · rw [if_pos (Or.inl rfl)]
    refine bad1 h1 h2 h3 (none_of fun ⟨_, z⟩ => ?_)
    have := z x (by rw [List.map_set]; exact List.mem_set (by rw [List.length_map, List.length_map]; exact ha) _)
    rw [odds_no x hx] at this
    cases this
theorem badI {ps : List (Str × Int)} (H : Houses ps) {way : Int} (hway : way = 0 ∨ way = 1 ∨ way = 5) {i : Nat} {s : Str} {w : Int} (hs : s ∈ ps.map (·.1)) : BadPs way ((ps.map encP).take i ++ [(D.str s, D.int w)] ++ (ps.map encP).drop i) := by
  refine ⟨by have := H.hi; simp; omega, fun L p hp => ?_, fun p hp => ?_, fun nm n h1 h2 h3 => ?_⟩
  · rcases List.mem_append.mp hp with z | z
    · rcases List.mem_append.mp z with z | z
      · exact enc_ok H L p (List.mem_of_mem_take z)
      · rw [List.mem_singleton] at z
        subst z
        obtain ⟨q, hq, rfl⟩ := List.mem_map.mp hs
        exact ⟨okH_name (H.ok q hq) L, "int", rfl⟩
    · exact enc_ok H L p (List.mem_of_mem_drop z)
  · rcases List.mem_append.mp hp with z | z
    · rcases List.mem_append.mp z with z | z
      · exact enc_cl ps p (List.mem_of_mem_take z)
      · rw [List.mem_singleton] at z
        subst z
        exact ⟨rfl, rfl⟩
    · exact enc_cl ps p (List.mem_of_mem_drop z)
  · rw [if_pos hway]
    refine bad1 h1 h2 h3 (none_of fun ⟨z, _⟩ => ?_)
    rw [List.map_append, List.map_append, List.map_take, List.map_drop, fst_enc, List.append_assoc] at z
    have hm : D.str s ∈ (ps.map (·.1)).map D.str := List.mem_map_of_mem hs
    rw [← List.take_append_drop i ((ps.map (·.1)).map D.str)] at hm
    obtain ⟨z1, z2, z3⟩ := List.nodup_append.mp z
    rcases List.mem_append.mp hm with q | q
    · exact z3 _ q _ List.mem_cons_self rfl
    · exact (List.nodup_cons.mp z2).1 q
theorem badW {ps : List (Str × Int)} (H : Houses ps) {a : Nat} (ha : a < ps.length) {x : D} (hx : x = .int 101 ∨ (goodW x = none ∧ ∀ L, ∃ t, tyS L x = some t)) (hcl : x.clos = true) : BadPs 2 ((ps.map encP).set a (D.str (ps[a]).1, x)) := by
  have e1 : ((ps.map encP).set a (D.str (ps[a]).1, x)).map (·.1) = (ps.map (·.1)).map D.str := by
    rw [List.map_set, fst_enc]
    apply List.ext_getElem?
    intro j
    by_cases e : a = j
    · subst e
      rw [List.getElem?_set_self (by rw [List.length_map, List.length_map]; exact ha), List.getElem?_map, List.getElem?_map, List.getElem?_eq_getElem ha]
      rfl
    · rw [List.getElem?_set_ne e]
  have e2 : ((ps.map encP).set a (D.str (ps[a]).1, x)).map (·.2) = ((ps.map (·.2)).map D.int).set a x := by rw [List.map_set, snd_enc]
  refine ⟨by rw [List.length_set, List.length_map]; have := H.hi; omega, fun L p hp => ?_, fun p hp => ?_, fun nm n h1 h2 h3 => ?_⟩
  · rcases List.mem_or_eq_of_mem_set hp with z | z
    · exact enc_ok H L p z
    · rw [z]
      refine ⟨okH_name (H.ok _ (List.getElem_mem ha)) L, ?_⟩
      rcases hx with rfl | hx
      · exact ⟨"int", rfl⟩
      · exact hx.2 L
  · rcases List.mem_or_eq_of_mem_set hp with z | z
    · exact enc_cl ps p z
    · rw [z]
      exact ⟨rfl, hcl⟩
  · rw [if_neg (by decide)]
    have hok : ∀ s ∈ ps.map (·.1), nameS s = true := fun s hs => by
      obtain ⟨p, hp, rfl⟩ := List.mem_map.mp hs
      exact H.ok p hp
    have hgo := houses_some _ [] hok H.nd fun _ _ h => (nomatch h)
    rw [← e1] at hgo
    refine bad2 h1 h2 h3 hgo ?_
    rw [e2]
    have hl : (((ps.map (·.2)).map D.int).set a x).length = ps.length := by rw [List.length_set, List.length_map, List.length_map]
    have lo := H.lo
    have hi := H.hi
    have hat : (((ps.map (·.2)).map D.int).set a x)[a]? = some x := List.getElem?_set_self (by rw [List.length_map, List.length_map]; exact ha)
    unfold totalOf
    rw [if_neg (by omega)]
    rcases hx with rfl | ⟨hx, _⟩
    · cases eg : goodWs (((ps.map (·.2)).map D.int).set a (.int 101)) with
      | none => rfl
      | some ws =>
        obtain ⟨q1, q2⟩ := goodWs_spec eg
        rw [q1, List.getElem?_map] at hat
        have : (101 : Int) ∈ ws := by
          cases ew : ws[a]? with
          | none => rw [ew] at hat; cases hat
          | some v =>
            rw [ew] at hat
            have : v = 101 := by simpa using hat
            rw [← this]
            exact List.mem_of_getElem? ew
        have := (le_sum (ws := ws) fun w hw => by have := q2 w hw; omega).2 101 this
        exact if_pos (by omega)
    · rw [goodWs_none hat hx]
theorem badE : BadPs 3 [] := ⟨by decide, fun _ _ h => (nomatch h), fun _ h => (nomatch h), fun nm n h1 h2 h3 => by
  rw [if_neg (by decide)]
  exact bad2 h1 h2 h3 (r := []) rfl rfl⟩
def abcK (k : Nat) : Str := ⟨#[97 + k]⟩
theorem abcK_name {k : Nat} (h : k < 26) : nameS (abcK k) = true := by
  unfold nameS abcK letter
  simp
  omega
theorem badM {m : Nat} (h1 : 9 ≤ m) (h2 : m ≤ 11) : BadPs 4 ((List.range m).map fun k => (D.str (abcK k), D.int 1)) := by
  refine ⟨by simp; omega, fun L p hp => ?_, fun p hp => ?_, fun nm n g1 g2 g3 => ?_⟩
  · obtain ⟨k, hk, rfl⟩ := List.mem_map.mp hp
    exact ⟨okH_name (abcK_name (by have := List.mem_range.mp hk; omega)) L, "int", rfl⟩
  · obtain ⟨k, hk, rfl⟩ := List.mem_map.mp hp
    exact ⟨rfl, rfl⟩
  · rw [if_neg (by decide)]
    have e1 : ((List.range m).map fun k => (D.str (abcK k), D.int 1)).map (·.1) = ((List.range m).map abcK).map D.str := by rw [List.map_map, List.map_map]; rfl
    have hok : ∀ s ∈ (List.range m).map abcK, nameS s = true := fun s hs => by
      obtain ⟨k, hk, rfl⟩ := List.mem_map.mp hs
      exact abcK_name (by have := List.mem_range.mp hk; omega)
    have hnd : ((List.range m).map abcK).Nodup := List.pairwise_map.mpr (List.Pairwise.imp (fun hne e => hne (by
      unfold abcK at e
      simp at e
      omega)) (List.nodup_range (n := m)))
    have hgo := houses_some _ [] hok hnd fun _ _ h => (nomatch h)
    rw [← e1] at hgo
    refine bad2 g1 g2 g3 hgo ?_
    unfold totalOf
    exact if_pos (Or.inr (by simp; omega))
end K38
set_option Elab.async false
set_option linter.all false
set_option maxRecDepth 100000
set_option maxHeartbeats 2000000
namespace K38
open PySem PySem.Spec PyProof.Rows L2 DL
/-- as far as step s -/
def Stg (ps : List (Str × Int)) (way : Int) (s : Int) (bs : List (D × D)) : Prop := (way < s → BadPs way bs) ∧ (s ≤ way → bs = ps.map encP)
theorem Stg.skip {ps : List (Str × Int)} {way s : Int} {bs : List (D × D)} (h : Stg ps way s bs) (ne : ¬ way = s) : Stg ps way (s + 1) bs := ⟨fun z => h.1 (by omega), fun z => h.2 (by omega)⟩
theorem Stg.at_ {ps : List (Str × Int)} {way s : Int} {bs : List (D × D)} (h : Stg ps way s bs) (e : way = s) : bs = ps.map encP := h.2 (by omega)
theorem Stg.now {ps : List (Str × Int)} {way s : Int} {bs : List (D × D)} (e : way = s) (h : BadPs way bs) : Stg ps way (s + 1) bs := ⟨fun _ => h, fun z => by omega⟩
/-- the state between the steps -/
def St (L : LH) (ps : List (Str × Int)) (way cell : Int) (a : Nat) (o : Str) (s : Int) (env : DEnv) (L' : LH) : Prop := ∃ (m : Nat) (G : LH) (bs : List (D × D)) (o7 : Option D),
  env = [some (.lst (ps.map hwD)), some (.int way), some (.int cell), some (.own m), some (.int a), some (.str o), some (.lst odds), o7] ∧ L' = L ++ G ∧ L.length ≤ m ∧ (L ++ G)[m]? = some (.lst (bs.map pairD)) ∧ Stg ps way s bs
theorem set_ge {L G : LH} {m : Nat} {o : OD} (h : L.length ≤ m) : (L ++ G).set m o = L ++ G.set (m - L.length) o := List.set_append_right _ _ h
theorem St.wr {L G : LH} {ps : List (Str × Int)} {way cell : Int} {a : Nat} {o : Str} {s : Int} {m : Nat} {bs : List (D × D)} {xs : List D} {o7 : Option D} {od : OD} (h : L.length ≤ m) (hm : (L ++ G)[m]? = some od) (e : xs = bs.map pairD) (g : Stg ps way s bs) :
    St L ps way cell a o s [some (.lst (ps.map hwD)), some (.int way), some (.int cell), some (.own m), some (.int a), some (.str o), some (.lst odds), o7] ((L ++ G).set m (.lst xs)) :=
  ⟨m, G.set (m - L.length) (.lst xs), bs, o7, rfl, set_ge h, h, by rw [← set_ge h, ← e]; exact get_set hm, g⟩
section
variable {K : PySem.W.Frag} {mg : Str → Option Value} {c : Cs}
theorem enc_get {ps : List (Str × Int)} {i : Nat} (h : i < ps.length) : ((ps.map encP).map pairD)[i]? = some (.tup [.str (ps[i]).1, .int (ps[i]).2]) := by
  rw [List.getElem?_map, List.getElem?_map, List.getElem?_eq_getElem h]
  rfl
theorem mod_nat {i : Int} {n : Nat} (h : 0 < n) : i % (n : Int) = ((i % (n : Int)).toNat : Int) ∧ (i % (n : Int)).toNat < n := by
  have h1 := Int.emod_nonneg i (b := (n : Int)) (by omega)
  have h2 := Int.emod_lt_of_pos i (b := (n : Int)) (by omega)
  omega
theorem r_l_bad_pairs : ∀ ds L Q X, S_l_bad_pairs c ds L Q X → rd_l_bad_pairs K c (dEndB L Q X) (startD ["_law_pairs", "_law_way", "_law_cell_here", "_law_some", "_law_at", "_law_other", "_law_odd", "_law_k"] ds) L := by
  rintro ds L Q X ⟨ps, way, cell, rfl, H, ⟨w0, w5⟩, ⟨c0, c1⟩, q⟩
  show rd_l_bad_pairs K c (dEndB L Q X) [some (.lst (ps.map hwD)), some (.int way), some (.int cell), none, none, none, none, none] L
  have lo := H.lo
  have hi := H.hi
  have eb : ps.map hwD = (ps.map encP).map pairD := by rw [List.map_map]; rfl
  refine ⟨fun env L' => env = [some (.lst (ps.map hwD)), some (.int way), some (.int cell), some (.own L.length), none, none, none, none] ∧ L' = L ++ [.lst (ps.map hwD)], ⟨_, rfl, _, _, rfl, rfl, rfl, rfl⟩, ?_⟩
  rintro _ _ ⟨rfl, rfl⟩
  refine ⟨fun env L' => (∃ a : Nat, a < ps.length ∧ env = [some (.lst (ps.map hwD)), some (.int way), some (.int cell), some (.own L.length), some (.int a), none, none, none]) ∧ L' = L ++ [.lst (ps.map hwD)], ?_, ?_⟩
  · try simp (config := { maxSteps := 2000000 }) only [dSeq, dNext, dSet, dRet, dRetN, dIf, dDrop, dVar, dC, dOp, dUn, dB, dNot, dAnd, dOr, dAndV, dOrV, dNotV, dIfE, dCB, dNil, dCons, dTup, dLst, dLstO, dCall, dMake, dFld, dSetF, dAsg, dgTup, dgCons, dgNil, dgN, dStore, dApp, dBM, dChain, dSl, dPart, dNoPart, dRaise, dEndB, gI2, gNeg, gAdd, gMul, gEqB, gIsB, gStr, gInt, gIsi, tyM, List.getElem?_cons_zero, List.getElem?_cons_succ, List.set_cons_zero, List.set_cons_succ, Option.some.injEq, exists_eq_left', exists_eq_left, List.cons.injEq, and_true, true_and, D.bl.injEq, D.int.injEq, D.str.injEq, D.own.injEq, D.tup.injEq, List.length_cons, List.length_nil, if_true, if_false, Bool.false_eq_true, reduceIte]
    refine gLen_lst (lst_own (get_end _)) ?_
    rw [List.length_map]
    try simp (config := { maxSteps := 2000000 }) only [dSeq, dNext, dSet, dRet, dRetN, dIf, dDrop, dVar, dC, dOp, dUn, dB, dNot, dAnd, dOr, dAndV, dOrV, dNotV, dIfE, dCB, dNil, dCons, dTup, dLst, dLstO, dCall, dMake, dFld, dSetF, dAsg, dgTup, dgCons, dgNil, dgN, dStore, dApp, dBM, dChain, dSl, dPart, dNoPart, dRaise, dEndB, gI2, gNeg, gAdd, gMul, gEqB, gIsB, gStr, gInt, gIsi, tyM, List.getElem?_cons_zero, List.getElem?_cons_succ, List.set_cons_zero, List.set_cons_succ, Option.some.injEq, exists_eq_left', exists_eq_left, List.cons.injEq, and_true, true_and, D.bl.injEq, D.int.injEq, D.str.injEq, D.own.injEq, D.tup.injEq, List.length_cons, List.length_nil, if_true, if_false, Bool.false_eq_true, reduceIte]
    obtain ⟨e1, e2⟩ := mod_nat (i := cell) (n := ps.length) (by omega)
    exact ⟨by omega, _, e2, e1⟩
  rintro _ _ ⟨⟨a, ha, rfl⟩, rfl⟩
  refine ⟨fun env L' => (∃ o : Str, o ∈ ps.map (·.1) ∧ env = [some (.lst (ps.map hwD)), some (.int way), some (.int cell), some (.own L.length), some (.int a), some (.str o), none, none]) ∧ L' = L ++ [.lst (ps.map hwD)], ?_, ?_⟩
  · try simp (config := { maxSteps := 2000000 }) only [dSeq, dNext, dSet, dRet, dRetN, dIf, dDrop, dVar, dC, dOp, dUn, dB, dNot, dAnd, dOr, dAndV, dOrV, dNotV, dIfE, dCB, dNil, dCons, dTup, dLst, dLstO, dCall, dMake, dFld, dSetF, dAsg, dgTup, dgCons, dgNil, dgN, dStore, dApp, dBM, dChain, dSl, dPart, dNoPart, dRaise, dEndB, gI2, gNeg, gAdd, gMul, gEqB, gIsB, gStr, gInt, gIsi, tyM, List.getElem?_cons_zero, List.getElem?_cons_succ, List.set_cons_zero, List.set_cons_succ, Option.some.injEq, exists_eq_left', exists_eq_left, List.cons.injEq, and_true, true_and, D.bl.injEq, D.int.injEq, D.str.injEq, D.own.injEq, D.tup.injEq, List.length_cons, List.length_nil, if_true, if_false, Bool.false_eq_true, reduceIte]
    refine ⟨by decide, ?_⟩
    refine gLen_lst (lst_own (get_end _)) ?_
    rw [List.length_map]
    try simp (config := { maxSteps := 2000000 }) only [dSeq, dNext, dSet, dRet, dRetN, dIf, dDrop, dVar, dC, dOp, dUn, dB, dNot, dAnd, dOr, dAndV, dOrV, dNotV, dIfE, dCB, dNil, dCons, dTup, dLst, dLstO, dCall, dMake, dFld, dSetF, dAsg, dgTup, dgCons, dgNil, dgN, dStore, dApp, dBM, dChain, dSl, dPart, dNoPart, dRaise, dEndB, gI2, gNeg, gAdd, gMul, gEqB, gIsB, gStr, gInt, gIsi, tyM, List.getElem?_cons_zero, List.getElem?_cons_succ, List.set_cons_zero, List.set_cons_succ, Option.some.injEq, exists_eq_left', exists_eq_left, List.cons.injEq, and_true, true_and, D.bl.injEq, D.int.injEq, D.str.injEq, D.own.injEq, D.tup.injEq, List.length_cons, List.length_nil, if_true, if_false, Bool.false_eq_true, reduceIte]
    obtain ⟨e1, e2⟩ := mod_nat (i := cell / 8) (n := ps.length) (by omega)
    refine ⟨by omega, ?_⟩
    rw [e1]
    refine gIx_lst (lst_own (get_end _)) (at_nat (hw_get (List.getElem?_eq_getElem e2))) ?_
    try simp (config := { maxSteps := 2000000 }) only [dSeq, dNext, dSet, dRet, dRetN, dIf, dDrop, dVar, dC, dOp, dUn, dB, dNot, dAnd, dOr, dAndV, dOrV, dNotV, dIfE, dCB, dNil, dCons, dTup, dLst, dLstO, dCall, dMake, dFld, dSetF, dAsg, dgTup, dgCons, dgNil, dgN, dStore, dApp, dBM, dChain, dSl, dPart, dNoPart, dRaise, dEndB, gI2, gNeg, gAdd, gMul, gEqB, gIsB, gStr, gInt, gIsi, tyM, List.getElem?_cons_zero, List.getElem?_cons_succ, List.set_cons_zero, List.set_cons_succ, Option.some.injEq, exists_eq_left', exists_eq_left, List.cons.injEq, and_true, true_and, D.bl.injEq, D.int.injEq, D.str.injEq, D.own.injEq, D.tup.injEq, List.length_cons, List.length_nil, if_true, if_false, Bool.false_eq_true, reduceIte]
    exact ⟨_, _, rfl, rfl, ⟨_, List.mem_map_of_mem (List.getElem_mem e2), rfl⟩, rfl⟩
  rintro _ _ ⟨⟨o, ho, rfl⟩, rfl⟩
  refine ⟨St L ps way cell a o 0, ?_, ?_⟩
  · try simp (config := { maxSteps := 2000000 }) only [dSeq, dNext, dSet, dRet, dRetN, dIf, dDrop, dVar, dC, dOp, dUn, dB, dNot, dAnd, dOr, dAndV, dOrV, dNotV, dIfE, dCB, dNil, dCons, dTup, dLst, dLstO, dCall, dMake, dFld, dSetF, dAsg, dgTup, dgCons, dgNil, dgN, dStore, dApp, dBM, dChain, dSl, dPart, dNoPart, dRaise, dEndB, gI2, gNeg, gAdd, gMul, gEqB, gIsB, gStr, gInt, gIsi, tyM, List.getElem?_cons_zero, List.getElem?_cons_succ, List.set_cons_zero, List.set_cons_succ, Option.some.injEq, exists_eq_left', exists_eq_left, List.cons.injEq, and_true, true_and, D.bl.injEq, D.int.injEq, D.str.injEq, D.own.injEq, D.tup.injEq, List.length_cons, List.length_nil, if_true, if_false, Bool.false_eq_true, reduceIte]
    refine ⟨by decide, by decide, by decide, L.length, [.lst (ps.map hwD)], ps.map encP, none, rfl, rfl, Nat.le_refl _, ?_, fun z => by omega, fun _ => rfl⟩
    rw [← eb]
    exact get_end _
  rintro _ _ ⟨m, G, bs, o7, rfl, rfl, hm, hg, hs⟩
  refine ⟨St L ps way cell a o (0 + 1), ?_, ?_⟩
  · try simp (config := { maxSteps := 2000000 }) only [dSeq, dNext, dSet, dRet, dRetN, dIf, dDrop, dVar, dC, dOp, dUn, dB, dNot, dAnd, dOr, dAndV, dOrV, dNotV, dIfE, dCB, dNil, dCons, dTup, dLst, dLstO, dCall, dMake, dFld, dSetF, dAsg, dgTup, dgCons, dgNil, dgN, dStore, dApp, dBM, dChain, dSl, dPart, dNoPart, dRaise, dEndB, gI2, gNeg, gAdd, gMul, gEqB, gIsB, gStr, gInt, gIsi, tyM, List.getElem?_cons_zero, List.getElem?_cons_succ, List.set_cons_zero, List.set_cons_succ, Option.some.injEq, exists_eq_left', exists_eq_left, List.cons.injEq, and_true, true_and, D.bl.injEq, D.int.injEq, D.str.injEq, D.own.injEq, D.tup.injEq, List.length_cons, List.length_nil, if_true, if_false, Bool.false_eq_true, reduceIte]
    by_cases e : way = 0
    · rw [if_pos (by simpa using e)]
      obtain rfl := hs.at_ e
      refine ⟨by decide, by decide, ?_⟩
      obtain ⟨e1, e2⟩ := mod_nat (i := cell / 64) (n := 14) (by omega)
      have e1' : cell / 64 % 14 = ((cell / 64 % 14).toNat : Int) := e1
      rw [e1']
      refine gIx_lst rfl (at_nat (List.getElem?_eq_getElem (l := odds) e2)) ?_
      try simp (config := { maxSteps := 2000000 }) only [dSeq, dNext, dSet, dRet, dRetN, dIf, dDrop, dVar, dC, dOp, dUn, dB, dNot, dAnd, dOr, dAndV, dOrV, dNotV, dIfE, dCB, dNil, dCons, dTup, dLst, dLstO, dCall, dMake, dFld, dSetF, dAsg, dgTup, dgCons, dgNil, dgN, dStore, dApp, dBM, dChain, dSl, dPart, dNoPart, dRaise, dEndB, gI2, gNeg, gAdd, gMul, gEqB, gIsB, gStr, gInt, gIsi, tyM, List.getElem?_cons_zero, List.getElem?_cons_succ, List.set_cons_zero, List.set_cons_succ, Option.some.injEq, exists_eq_left', exists_eq_left, List.cons.injEq, and_true, true_and, D.bl.injEq, D.int.injEq, D.str.injEq, D.own.injEq, D.tup.injEq, List.length_cons, List.length_nil, if_true, if_false, Bool.false_eq_true, reduceIte]
      refine gIx_lst (lst_own hg) (at_nat (enc_get ha)) ?_
      try simp (config := { maxSteps := 2000000 }) only [dSeq, dNext, dSet, dRet, dRetN, dIf, dDrop, dVar, dC, dOp, dUn, dB, dNot, dAnd, dOr, dAndV, dOrV, dNotV, dIfE, dCB, dNil, dCons, dTup, dLst, dLstO, dCall, dMake, dFld, dSetF, dAsg, dgTup, dgCons, dgNil, dgN, dStore, dApp, dBM, dChain, dSl, dPart, dNoPart, dRaise, dEndB, gI2, gNeg, gAdd, gMul, gEqB, gIsB, gStr, gInt, gIsi, tyM, List.getElem?_cons_zero, List.getElem?_cons_succ, List.set_cons_zero, List.set_cons_succ, Option.some.injEq, exists_eq_left', exists_eq_left, List.cons.injEq, and_true, true_and, D.bl.injEq, D.int.injEq, D.str.injEq, D.own.injEq, D.tup.injEq, List.length_cons, List.length_nil, if_true, if_false, Bool.false_eq_true, reduceIte]
      refine ⟨_, _, rfl, rfl, by decide, _, _, _, a, rfl, rfl, hg, ixN_nat (by rw [List.length_map, List.length_map]; exact ha), ?_⟩
      refine St.wr hm hg (bs := (ps.map encP).set a (odds[(cell / 64 % 14).toNat]'e2, .int (ps[a]).2)) (by rw [List.map_set]; rfl) (Stg.now e ?_)
      rw [e]
      exact badA H ha (List.getElem_mem e2) ⟨_, rfl⟩
    · rw [if_neg (by simpa using e)]
      exact ⟨m, G, bs, o7, rfl, rfl, hm, hg, hs.skip e⟩
  rintro _ _ ⟨m, G, bs, o7, rfl, rfl, hm, hg, hs⟩
  refine ⟨St L ps way cell a o (0 + 1 + 1), ?_, ?_⟩
  · try simp (config := { maxSteps := 2000000 }) only [dSeq, dNext, dSet, dRet, dRetN, dIf, dDrop, dVar, dC, dOp, dUn, dB, dNot, dAnd, dOr, dAndV, dOrV, dNotV, dIfE, dCB, dNil, dCons, dTup, dLst, dLstO, dCall, dMake, dFld, dSetF, dAsg, dgTup, dgCons, dgNil, dgN, dStore, dApp, dBM, dChain, dSl, dPart, dNoPart, dRaise, dEndB, gI2, gNeg, gAdd, gMul, gEqB, gIsB, gStr, gInt, gIsi, tyM, List.getElem?_cons_zero, List.getElem?_cons_succ, List.set_cons_zero, List.set_cons_succ, Option.some.injEq, exists_eq_left', exists_eq_left, List.cons.injEq, and_true, true_and, D.bl.injEq, D.int.injEq, D.str.injEq, D.own.injEq, D.tup.injEq, List.length_cons, List.length_nil, if_true, if_false, Bool.false_eq_true, reduceIte]
    by_cases e : way = 1
    · rw [if_pos (by simpa using e)]
      obtain rfl := hs.at_ e
      have hl : ((ps.map encP).map pairD).length = ps.length := by rw [List.length_map, List.length_map]
      refine ⟨.inl ⟨_, hg⟩, ?_⟩
      refine ⟨by decide, ?_⟩
      refine gLen_lst (lst_own hg) ?_
      rw [hl]
      try simp (config := { maxSteps := 2000000 }) only [dSeq, dNext, dSet, dRet, dRetN, dIf, dDrop, dVar, dC, dOp, dUn, dB, dNot, dAnd, dOr, dAndV, dOrV, dNotV, dIfE, dCB, dNil, dCons, dTup, dLst, dLstO, dCall, dMake, dFld, dSetF, dAsg, dgTup, dgCons, dgNil, dgN, dStore, dApp, dBM, dChain, dSl, dPart, dNoPart, dRaise, dEndB, gI2, gNeg, gAdd, gMul, gEqB, gIsB, gStr, gInt, gIsi, tyM, List.getElem?_cons_zero, List.getElem?_cons_succ, List.set_cons_zero, List.set_cons_succ, Option.some.injEq, exists_eq_left', exists_eq_left, List.cons.injEq, and_true, true_and, D.bl.injEq, D.int.injEq, D.str.injEq, D.own.injEq, D.tup.injEq, List.length_cons, List.length_nil, if_true, if_false, Bool.false_eq_true, reduceIte, gInsert]
      have j1 := Int.emod_nonneg (cell / 64) (b := (ps.length : Int) + 1) (by omega)
      have j2 := Int.emod_lt_of_pos (cell / 64) (b := (ps.length : Int) + 1) (by omega)
      refine ⟨by omega, by decide, _, _, _, _, rfl, ⟨rfl, rfl⟩, hg, by rw [hl]; omega, by omega, ?_⟩
      refine St.wr hm hg (bs := (ps.map encP).take (cell / 64 % ((ps.length : Int) + 1)).toNat ++ [(.str o, .int 1)] ++ (ps.map encP).drop (cell / 64 % ((ps.length : Int) + 1)).toNat) (by rw [List.map_append, List.map_append, List.map_take, List.map_drop]; rfl) (Stg.now e ?_)
      exact badI H (Or.inr (Or.inl e)) ho
    · rw [if_neg (by simpa using e)]
      exact ⟨m, G, bs, o7, rfl, rfl, hm, hg, hs.skip e⟩
  rintro _ _ ⟨m, G, bs, o7, rfl, rfl, hm, hg, hs⟩
  refine ⟨St L ps way cell a o (0 + 1 + 1 + 1), ?_, ?_⟩
  · try simp (config := { maxSteps := 2000000 }) only [dSeq, dNext, dSet, dRet, dRetN, dIf, dDrop, dVar, dC, dOp, dUn, dB, dNot, dAnd, dOr, dAndV, dOrV, dNotV, dIfE, dCB, dNil, dCons, dTup, dLst, dLstO, dCall, dMake, dFld, dSetF, dAsg, dgTup, dgCons, dgNil, dgN, dStore, dApp, dBM, dChain, dSl, dPart, dNoPart, dRaise, dEndB, gI2, gNeg, gAdd, gMul, gEqB, gIsB, gStr, gInt, gIsi, tyM, List.getElem?_cons_zero, List.getElem?_cons_succ, List.set_cons_zero, List.set_cons_succ, Option.some.injEq, exists_eq_left', exists_eq_left, List.cons.injEq, and_true, true_and, D.bl.injEq, D.int.injEq, D.str.injEq, D.own.injEq, D.tup.injEq, List.length_cons, List.length_nil, if_true, if_false, Bool.false_eq_true, reduceIte]
    by_cases e : way = 2
    · rw [if_pos (by simpa using e)]
      obtain rfl := hs.at_ e
      refine gIx_lst (lst_own hg) (at_nat (enc_get ha)) ?_
      try simp (config := { maxSteps := 2000000 }) only [dSeq, dNext, dSet, dRet, dRetN, dIf, dDrop, dVar, dC, dOp, dUn, dB, dNot, dAnd, dOr, dAndV, dOrV, dNotV, dIfE, dCB, dNil, dCons, dTup, dLst, dLstO, dCall, dMake, dFld, dSetF, dAsg, dgTup, dgCons, dgNil, dgN, dStore, dApp, dBM, dChain, dSl, dPart, dNoPart, dRaise, dEndB, gI2, gNeg, gAdd, gMul, gEqB, gIsB, gStr, gInt, gIsi, tyM, List.getElem?_cons_zero, List.getElem?_cons_succ, List.set_cons_zero, List.set_cons_succ, Option.some.injEq, exists_eq_left', exists_eq_left, List.cons.injEq, and_true, true_and, D.bl.injEq, D.int.injEq, D.str.injEq, D.own.injEq, D.tup.injEq, List.length_cons, List.length_nil, if_true, if_false, Bool.false_eq_true, reduceIte]
      refine ⟨_, _, rfl, rfl, ?_⟩
      try simp (config := { maxSteps := 2000000 }) only [dSeq, dNext, dSet, dRet, dRetN, dIf, dDrop, dVar, dC, dOp, dUn, dB, dNot, dAnd, dOr, dAndV, dOrV, dNotV, dIfE, dCB, dNil, dCons, dTup, dLst, dLstO, dCall, dMake, dFld, dSetF, dAsg, dgTup, dgCons, dgNil, dgN, dStore, dApp, dBM, dChain, dSl, dPart, dNoPart, dRaise, dEndB, gI2, gNeg, gAdd, gMul, gEqB, gIsB, gStr, gInt, gIsi, tyM, List.getElem?_cons_zero, List.getElem?_cons_succ, List.set_cons_zero, List.set_cons_succ, Option.some.injEq, exists_eq_left', exists_eq_left, List.cons.injEq, and_true, true_and, D.bl.injEq, D.int.injEq, D.str.injEq, D.own.injEq, D.tup.injEq, List.length_cons, List.length_nil, if_true, if_false, Bool.false_eq_true, reduceIte]
      refine ⟨by decide, ⟨by decide, by decide, by decide⟩, by decide, by decide, by decide, by decide, ?_⟩
      obtain ⟨e1, e2⟩ := mod_nat (i := cell / 64) (n := 4) (by omega)
      have e1' : cell / 64 % 4 = ((cell / 64 % 4).toNat : Int) := e1
      have e2' : (cell / 64 % 4).toNat < [D.int 0, D.int (-1 - cell / 64 % 10 ^ Int.toNat 9), D.int 101, D.non].length := e2
      rw [e1']
      refine gIx_lst rfl (at_nat (List.getElem?_eq_getElem e2')) ?_
      have hv := Int.emod_nonneg (cell / 64) (b := 10 ^ Int.toNat 9) (by decide)
      have hx : ∀ x ∈ [D.int 0, D.int (-1 - cell / 64 % 10 ^ Int.toNat 9), D.int 101, D.non], (x = .int 101 ∨ (goodW x = none ∧ ∀ L, ∃ t, tyS L x = some t)) ∧ x.clos = true := by
        intro x hx
        simp only [List.mem_cons, List.not_mem_nil, or_false] at hx
        rcases hx with rfl | rfl | rfl | rfl
        · exact ⟨.inr ⟨rfl, fun _ => ⟨_, rfl⟩⟩, rfl⟩
        · refine ⟨.inr ⟨?_, fun _ => ⟨_, rfl⟩⟩, rfl⟩
          unfold goodW
          exact if_neg (by omega)
        · exact ⟨.inl rfl, rfl⟩
        · exact ⟨.inr ⟨rfl, fun _ => ⟨_, rfl⟩⟩, rfl⟩
      obtain ⟨hx1, hx2⟩ := hx _ (List.getElem_mem e2')
      refine ⟨by decide, _, _, _, a, rfl, rfl, hg, ixN_nat (by rw [List.length_map, List.length_map]; exact ha), ?_⟩
      refine St.wr hm hg (bs := (ps.map encP).set a (D.str (ps[a]).1, ([D.int 0, D.int (-1 - cell / 64 % 10 ^ Int.toNat 9), D.int 101, D.non])[(cell / 64 % 4).toNat]'e2')) (by rw [List.map_set]) (Stg.now e ?_)
      rw [e]
      exact badW H ha hx1 hx2
    · rw [if_neg (by simpa using e)]
      exact ⟨m, G, bs, o7, rfl, rfl, hm, hg, hs.skip e⟩
  rintro _ _ ⟨m, G, bs, o7, rfl, rfl, hm, hg, hs⟩
  refine ⟨St L ps way cell a o (0 + 1 + 1 + 1 + 1), ?_, ?_⟩
  · try simp (config := { maxSteps := 2000000 }) only [dSeq, dNext, dSet, dRet, dRetN, dIf, dDrop, dVar, dC, dOp, dUn, dB, dNot, dAnd, dOr, dAndV, dOrV, dNotV, dIfE, dCB, dNil, dCons, dTup, dLst, dLstO, dCall, dMake, dFld, dSetF, dAsg, dgTup, dgCons, dgNil, dgN, dStore, dApp, dBM, dChain, dSl, dPart, dNoPart, dRaise, dEndB, gI2, gNeg, gAdd, gMul, gEqB, gIsB, gStr, gInt, gIsi, tyM, List.getElem?_cons_zero, List.getElem?_cons_succ, List.set_cons_zero, List.set_cons_succ, Option.some.injEq, exists_eq_left', exists_eq_left, List.cons.injEq, and_true, true_and, D.bl.injEq, D.int.injEq, D.str.injEq, D.own.injEq, D.tup.injEq, List.length_cons, List.length_nil, if_true, if_false, Bool.false_eq_true, reduceIte]
    by_cases e : way = 3
    · rw [if_pos (by simpa using e)]
      refine ⟨by decide, (L ++ G).length, G ++ [.lst []], [], o7, rfl, by rw [List.append_assoc], by rw [List.length_append]; omega, ?_, Stg.now e (e ▸ badE)⟩
      rw [← List.append_assoc]
      exact get_end _
    · rw [if_neg (by simpa using e)]
      exact ⟨m, G, bs, o7, rfl, rfl, hm, hg, hs.skip e⟩
  rintro _ _ ⟨m, G, bs, o7, rfl, rfl, hm, hg, hs⟩
  refine ⟨St L ps way cell a o (0 + 1 + 1 + 1 + 1 + 1), ?_, ?_⟩
  · try simp (config := { maxSteps := 2000000 }) only [dSeq, dNext, dSet, dRet, dRetN, dIf, dDrop, dVar, dC, dOp, dUn, dB, dNot, dAnd, dOr, dAndV, dOrV, dNotV, dIfE, dCB, dNil, dCons, dTup, dLst, dLstO, dCall, dMake, dFld, dSetF, dAsg, dgTup, dgCons, dgNil, dgN, dStore, dApp, dBM, dChain, dSl, dPart, dNoPart, dRaise, dEndB, gI2, gNeg, gAdd, gMul, gEqB, gIsB, gStr, gInt, gIsi, tyM, List.getElem?_cons_zero, List.getElem?_cons_succ, List.set_cons_zero, List.set_cons_succ, Option.some.injEq, exists_eq_left', exists_eq_left, List.cons.injEq, and_true, true_and, D.bl.injEq, D.int.injEq, D.str.injEq, D.own.injEq, D.tup.injEq, List.length_cons, List.length_nil, if_true, if_false, Bool.false_eq_true, reduceIte, dLcG, dIR1, dYes, cgD, wipeD]
    by_cases e : way = 4
    · rw [if_pos (by simpa using e)]
      refine ⟨by decide, by omega, fun k acc L' => L' = L ++ G ∧ acc = ((List.range k).map fun k => (D.str (abcK k), D.int 1)).map pairD, ⟨rfl, rfl⟩, fun _ _ _ _ => trivial, ?_, ?_⟩
      · rintro k acc L' x hk hx ⟨rfl, rfl⟩
        obtain rfl : D.int (0 + (k : Int)) = x := Option.some.inj hx
        have hk' : k < (9 + cell % 3).toNat := hk
        refine ⟨by simp; omega, ?_⟩
        try simp (config := { maxSteps := 2000000 }) only [dSeq, dNext, dSet, dRet, dRetN, dIf, dDrop, dVar, dC, dOp, dUn, dB, dNot, dAnd, dOr, dAndV, dOrV, dNotV, dIfE, dCB, dNil, dCons, dTup, dLst, dLstO, dCall, dMake, dFld, dSetF, dAsg, dgTup, dgCons, dgNil, dgN, dStore, dApp, dBM, dChain, dSl, dPart, dNoPart, dRaise, dEndB, gI2, gNeg, gAdd, gMul, gEqB, gIsB, gStr, gInt, gIsi, tyM, List.getElem?_cons_zero, List.getElem?_cons_succ, List.set_cons_zero, List.set_cons_succ, Option.some.injEq, exists_eq_left', exists_eq_left, List.cons.injEq, and_true, true_and, D.bl.injEq, D.int.injEq, D.str.injEq, D.own.injEq, D.tup.injEq, List.length_cons, List.length_nil, if_true, if_false, Bool.false_eq_true, reduceIte]
        have el : (Str.ofString "abcdefghijk").cps.toList = List.range' 97 11 := by decide +kernel
        refine ⟨by decide +kernel, 97 + k, ?_, by decide, rfl, ?_⟩
        · rw [Int.zero_add, el]
          refine at_nat ?_
          rw [List.getElem?_range' (by omega)]
          simp
        · rw [List.range_succ, List.map_append, List.map_append]
          rfl
      · rintro acc L' ⟨rfl, rfl⟩
        refine ⟨(L ++ G).length, G ++ [.lst _], (List.range (9 + cell % 3).toNat).map fun k => (D.str (abcK k), D.int 1), o7, rfl, by rw [← List.append_assoc], by rw [List.length_append]; omega, ?_, Stg.now e (e ▸ badM (by omega) (by omega))⟩
        rw [← List.append_assoc]
        exact get_end _
    · rw [if_neg (by simpa using e)]
      exact ⟨m, G, bs, o7, rfl, rfl, hm, hg, hs.skip e⟩
  rintro _ _ ⟨m, G, bs, o7, rfl, rfl, hm, hg, hs⟩
  refine ⟨St L ps way cell a o (0 + 1 + 1 + 1 + 1 + 1 + 1), ?_, ?_⟩
  · try simp (config := { maxSteps := 2000000 }) only [dSeq, dNext, dSet, dRet, dRetN, dIf, dDrop, dVar, dC, dOp, dUn, dB, dNot, dAnd, dOr, dAndV, dOrV, dNotV, dIfE, dCB, dNil, dCons, dTup, dLst, dLstO, dCall, dMake, dFld, dSetF, dAsg, dgTup, dgCons, dgNil, dgN, dStore, dApp, dBM, dChain, dSl, dPart, dNoPart, dRaise, dEndB, gI2, gNeg, gAdd, gMul, gEqB, gIsB, gStr, gInt, gIsi, tyM, List.getElem?_cons_zero, List.getElem?_cons_succ, List.set_cons_zero, List.set_cons_succ, Option.some.injEq, exists_eq_left', exists_eq_left, List.cons.injEq, and_true, true_and, D.bl.injEq, D.int.injEq, D.str.injEq, D.own.injEq, D.tup.injEq, List.length_cons, List.length_nil, if_true, if_false, Bool.false_eq_true, reduceIte]
    by_cases e : way = 5
    · rw [if_pos (by simpa using e)]
      obtain rfl := hs.at_ e
      have hl : ((ps.map encP).map pairD).length = ps.length := by rw [List.length_map, List.length_map]
      refine ⟨.inl ⟨_, hg⟩, ?_⟩
      try simp (config := { maxSteps := 2000000 }) only [dSeq, dNext, dSet, dRet, dRetN, dIf, dDrop, dVar, dC, dOp, dUn, dB, dNot, dAnd, dOr, dAndV, dOrV, dNotV, dIfE, dCB, dNil, dCons, dTup, dLst, dLstO, dCall, dMake, dFld, dSetF, dAsg, dgTup, dgCons, dgNil, dgN, dStore, dApp, dBM, dChain, dSl, dPart, dNoPart, dRaise, dEndB, gI2, gNeg, gAdd, gMul, gEqB, gIsB, gStr, gInt, gIsi, tyM, List.getElem?_cons_zero, List.getElem?_cons_succ, List.set_cons_zero, List.set_cons_succ, Option.some.injEq, exists_eq_left', exists_eq_left, List.cons.injEq, and_true, true_and, D.bl.injEq, D.int.injEq, D.str.injEq, D.own.injEq, D.tup.injEq, List.length_cons, List.length_nil, if_true, if_false, Bool.false_eq_true, reduceIte, gInsert]
      refine ⟨by decide, _, _, _, _, rfl, ⟨rfl, rfl⟩, hg, by rw [hl]; omega, by omega, ?_⟩
      refine St.wr hm hg (bs := (ps.map encP).take 0 ++ [(.str o, .int 0)] ++ (ps.map encP).drop 0) (by rw [List.map_append, List.map_append, List.map_take, List.map_drop]; rfl) (Stg.now e ?_)
      exact badI H (Or.inr (Or.inr e)) ho
    · rw [if_neg (by simpa using e)]
      exact ⟨m, G, bs, o7, rfl, rfl, hm, hg, hs.skip e⟩
  rintro _ _ ⟨m, G, bs, o7, rfl, rfl, hm, hg, hs⟩
  exact ⟨_, rfl, bkL _ hg hm (closA_mem fun d hd => by
    obtain ⟨p, hp, rfl⟩ := List.mem_map.mp hd
    obtain ⟨h1, h2⟩ := (hs.1 (by omega)).cl p hp
    show D.closA [p.1, p.2] = true
    rw [D.closA, D.closA, h1, h2]
    rfl) (q bs (hs.1 (by omega)))⟩
end
end K38
set_option Elab.async false
set_option linter.all false
set_option maxRecDepth 100000
set_option maxHeartbeats 4000000
namespace K38
open PySem PySem.Spec PyProof.Rows L2 DL
/-- back from anywhere, where the promise is of every state -/
theorem bk_all {L L1 : LH} {Q : DK} {d : D} (hl : L.length ≤ L1.length) (q : ∀ L', Q d L') (hc : d.clos = true := by rfl) : ∃ e L2, Bck L L1 L2 ∧ Frz L1 L.length d e ∧ Q e L2 :=
  ⟨d, List.replicate L.length .gone, ⟨List.length_replicate, fun k od hk => by
    have hkl := lt_of_get hk
    rw [List.length_replicate] at hkl
    rw [List.getElem?_replicate, if_pos hkl] at hk
    cases hk
    exact ⟨L1[k]'(by omega), List.getElem?_eq_getElem (by omega), .inr .gone⟩⟩, frz_clos hc, q _⟩
/-- what stands: the clauses, the condition -/
structure Base (c : Cs) (L : LH) (CL : List D) (am : List Int) (cond : D) (way : Int) (nm : Str) (ct : Int) : Prop where
  len : CL.length = am.length
  own : ∀ (i : Nat) (d : D) (v : Int), CL[i]? = some d → am[i]? = some v → ∃ k, d = .own k ∧ L[k]? = some (.ins c.Own (ownF "year" v))
  cnd : ∃ k C fs, cond = .own k ∧ L[k]? = some (.ins C fs)
  at_ : condAt c L cond way nm ct
theorem get_setL {L : LH} {k j : Nat} {C : Addr} {fs : List (Str × D)} {xs : List D} {o : OD} (hj : L[j]? = some (.lst xs)) (h : L[k]? = some (.ins C fs)) : (L.set j o)[k]? = some (.ins C fs) := by
  by_cases e : j = k
  · subst e; rw [hj] at h; cases h
  · rw [List.getElem?_set_ne e]; exact h
theorem ins_setL {L : LH} {j : Nat} {d : D} {x : Addr × List (Str × D)} {xs : List D} {o : OD} (hj : L[j]? = some (.lst xs)) (h : ins? L d = some x) : ins? (L.set j o) d = some x := by
  cases d with
  | own k =>
    unfold ins? at h ⊢
    dsimp only at h ⊢
    by_cases e : j = k
    · subst e; rw [hj] at h; cases h
    · rw [List.getElem?_set_ne e]; exact h
  | _ => exact h
section
variable {c : Cs} {L : LH} {CL : List D} {am : List Int} {cond : D} {way : Int} {nm : Str} {ct : Int}
theorem Base.app (G : LH) (b : Base c L CL am cond way nm ct) : Base c (L ++ G) CL am cond way nm ct := by
  refine ⟨b.len, fun i d v h1 h2 => ?_, ?_, ?_⟩
  · obtain ⟨k, e, hk⟩ := b.own i d v h1 h2
    exact ⟨k, e, get_app G hk⟩
  · obtain ⟨k, C, fs, e, hk⟩ := b.cnd
    exact ⟨k, C, fs, e, get_app G hk⟩
  · rcases b.at_ with ⟨h, z⟩ | ⟨h, z⟩ | ⟨h, z⟩
    · exact .inl ⟨h, ins_app G z⟩
    · exact .inr (.inl ⟨h, ins_app G z⟩)
    · exact .inr (.inr ⟨h, ins_app G z⟩)
theorem Base.setL {j : Nat} {xs : List D} {o : OD} (hj : L[j]? = some (.lst xs)) (b : Base c L CL am cond way nm ct) : Base c (L.set j o) CL am cond way nm ct := by
  refine ⟨b.len, fun i d v h1 h2 => ?_, ?_, ?_⟩
  · obtain ⟨k, e, hk⟩ := b.own i d v h1 h2
    exact ⟨k, e, get_setL hj hk⟩
  · obtain ⟨k, C, fs, e, hk⟩ := b.cnd
    exact ⟨k, C, fs, e, get_setL hj hk⟩
  · rcases b.at_ with ⟨h, z⟩ | ⟨h, z⟩ | ⟨h, z⟩
    · exact .inl ⟨h, ins_setL hj z⟩
    · exact .inr (.inl ⟨h, ins_setL hj z⟩)
    · exact .inr (.inr ⟨h, ins_setL hj z⟩)
theorem Base.shut (b : Base c L CL am cond way nm ct) : ∀ x ∈ CL, Shut L.length x := fun x hx => by
  obtain ⟨i, hi, e⟩ := List.getElem_of_mem hx
  obtain ⟨k, e1, hk⟩ := b.own i x (am[i]'(by rw [← b.len]; exact hi)) (by rw [List.getElem?_eq_getElem hi, e]) (List.getElem?_eq_getElem _)
  rw [e1]
  exact .own (lt_of_get hk)
theorem Base.shc (b : Base c L CL am cond way nm ct) : Shut L.length cond := by
  obtain ⟨k, C, fs, e, hk⟩ := b.cnd
  rw [e]
  exact .own (lt_of_get hk)
end
/-- the pairs, as a cover gets them -/
theorem Houses.go {ps : List (Str × Int)} (H : Houses ps) : housesGo ((ps.map encP).map (·.1)) [] = some (ps.map (·.1)) := by
  rw [fst_enc]
  exact houses_some _ [] (fun s hs => by
    obtain ⟨p, hp, rfl⟩ := List.mem_map.mp hs
    exact H.ok p hp) H.nd fun _ _ h => (nomatch h)
theorem Houses.cov {ps : List (Str × Int)} (H : Houses ps) {nm : Str} {n : Nat} (h1 : nameS nm = true) (h2 : nm ≠ "self") (h3 : n ≤ 8) : coverOf (.str nm) n (ps.map encP) = 0 := by
  rw [cover_go h1 h2 h3, H.go]
  dsimp only
  rw [snd_enc, H.total]
theorem enc_pair (ps : List (Str × Int)) : (ps.map encP).map pairD = ps.map hwD := by rw [List.map_map]; rfl
theorem one_houses {nm : Str} (h : nameS nm = true) : Houses [(nm, 1)] := ⟨by show (1 : Nat) ≤ 1; decide, by show (1 : Nat) ≤ 8; decide, fun p hp => by rw [List.mem_singleton] at hp; subst hp; exact h, by simp, fun p hp => by rw [List.mem_singleton] at hp; subst hp; show (1 : Int) ≤ 1; decide, by show (1 : Int) + 0 ≤ 100; decide⟩
abbrev odds2 : List D := [.str "", .str "self", .str "Acme", .str "a b", .str "abcdefghi", .int 5, .non, .bl true, .str "a.b", .lst [.str "a"]]
theorem odds2_ok : ∀ x ∈ odds2, (nameOk x = false ∨ isSelf x = true) ∧ ∀ L, okH L x := by
  intro x hx
  simp only [odds2, List.mem_cons, List.not_mem_nil, or_false] at hx
  rcases hx with rfl | rfl | rfl | rfl | rfl | rfl | rfl | rfl | rfl | rfl <;> exact ⟨by decide +kernel, fun L => ⟨_, rfl, fun s h => by cases h <;> decide +kernel⟩⟩
theorem cover_odd {x : D} {n : Nat} {bs : List (D × D)} (h : nameOk x = false ∨ isSelf x = true) : coverOf x n bs = 1 := by
  unfold coverOf
  exact if_pos (h.elim Or.inl fun z => .inr (.inl z))
theorem cover_nine {x : D} {bs : List (D × D)} : coverOf x 9 bs = 1 := by
  unfold coverOf
  exact if_pos (.inr (.inr (by decide)))
section
variable {K : PySem.W.Frag} {mg : Str → Option Value} {c : Cs}
theorem r_law (T : Txt K mg c) : ∀ ds L Q X, S_law c ds L Q X → rd_law K c (dEndB L Q X) (startD ["_law_script", "_law_head", "_law_names_here", "_law_name", "_law_cents", "_law_pairs", "_law_amounts", "_law_clauses", "_law_words", "_law_condition", "_law_waits", "_law_handed", "_law_cover", "_law_plain", "_law_k", "_law_cell_here", "_law_bad", "_law_due", "_law_odd", "_law_nine", "_law_one"] ds) L := by
  rintro ds L Q X ⟨ns, rfl, hn, q⟩
  show rd_law K c (dEndB L Q X) [some (.sq (ns.map .int)), none, none, none, none, none, none, none, none, none, none, none, none, none, none, none, none, none, none, none, none] L
  refine ⟨fun env L' => (∃ h : Int, (0 ≤ h ∧ h < 1000000000) ∧ env = [some (.sq (ns.map .int)), some (.int h), none, none, none, none, none, none, none, none, none, none, none, none, none, none, none, none, none, none, none]) ∧ L = L', ?_, ?_⟩
  · try simp (config := { maxSteps := 2000000 }) only [dSeq, dNext, dSet, dRet, dRetN, dIf, dDrop, dVar, dC, dOp, dUn, dB, dNot, dAnd, dOr, dAndV, dOrV, dNotV, dIfE, dCB, dNil, dCons, dTup, dLst, dLstO, dCall, dMake, dFld, dSetF, dAsg, dgTup, dgCons, dgNil, dgN, dStore, dApp, dBM, dChain, dSl, dPart, dNoPart, dRaise, dEndB, gI2, gNeg, gAdd, gMul, gEqB, gIsB, gStr, gInt, gIsi, tyM, List.getElem?_cons_zero, List.getElem?_cons_succ, List.set_cons_zero, List.set_cons_succ, Option.some.injEq, exists_eq_left', exists_eq_left, List.cons.injEq, and_true, true_and, D.bl.injEq, D.int.injEq, D.str.injEq, D.own.injEq, D.tup.injEq, List.length_cons, List.length_nil, if_true, if_false, Bool.false_eq_true, reduceIte, S_l_cell]
    refine ⟨ns, 0, ⟨rfl, rfl⟩, hn, by decide, ⟨by decide, by decide, by decide⟩, by decide, _, ⟨Int.emod_nonneg _ (by decide), Int.emod_lt_of_pos _ (by decide)⟩, rfl⟩
  rintro _ _ ⟨⟨h, ⟨h0, h1⟩, rfl⟩, rfl⟩
  refine ⟨fun env L' => (∃ xs : List Str, Names10 xs ∧ env = [some (.sq (ns.map .int)), some (.int h), some (.lst (xs.map .str)), none, none, none, none, none, none, none, none, none, none, none, none, none, none, none, none, none, none]) ∧ L = L', ?_, ?_⟩
  · try simp (config := { maxSteps := 2000000 }) only [dSeq, dNext, dSet, dRet, dRetN, dIf, dDrop, dVar, dC, dOp, dUn, dB, dNot, dAnd, dOr, dAndV, dOrV, dNotV, dIfE, dCB, dNil, dCons, dTup, dLst, dLstO, dCall, dMake, dFld, dSetF, dAsg, dgTup, dgCons, dgNil, dgN, dStore, dApp, dBM, dChain, dSl, dPart, dNoPart, dRaise, dEndB, gI2, gNeg, gAdd, gMul, gEqB, gIsB, gStr, gInt, gIsi, tyM, List.getElem?_cons_zero, List.getElem?_cons_succ, List.set_cons_zero, List.set_cons_succ, Option.some.injEq, exists_eq_left', exists_eq_left, List.cons.injEq, and_true, true_and, D.bl.injEq, D.int.injEq, D.str.injEq, D.own.injEq, D.tup.injEq, List.length_cons, List.length_nil, if_true, if_false, Bool.false_eq_true, reduceIte, S_l_cell, S_l_names]
    refine ⟨ns, 1, ⟨rfl, rfl⟩, hn, by decide, by decide, ⟨Int.emod_nonneg _ (by decide), Int.emod_lt_of_pos _ (by decide)⟩, fun xs N => ⟨xs, N, rfl⟩⟩
  rintro _ _ ⟨⟨xs, N, rfl⟩, rfl⟩
  refine ⟨fun env L' => (∃ nm : Str, (nameS nm = true ∧ nm ≠ "self") ∧ env = [some (.sq (ns.map .int)), some (.int h), some (.lst (xs.map .str)), some (.str nm), none, none, none, none, none, none, none, none, none, none, none, none, none, none, none, none, none]) ∧ L = L', ?_, ?_⟩
  · obtain ⟨s, hs, hm⟩ := names_at N (i := 0) (by decide)
    try simp (config := { maxSteps := 2000000 }) only [dSeq, dNext, dSet, dRet, dRetN, dIf, dDrop, dVar, dC, dOp, dUn, dB, dNot, dAnd, dOr, dAndV, dOrV, dNotV, dIfE, dCB, dNil, dCons, dTup, dLst, dLstO, dCall, dMake, dFld, dSetF, dAsg, dgTup, dgCons, dgNil, dgN, dStore, dApp, dBM, dChain, dSl, dPart, dNoPart, dRaise, dEndB, gI2, gNeg, gAdd, gMul, gEqB, gIsB, gStr, gInt, gIsi, tyM, List.getElem?_cons_zero, List.getElem?_cons_succ, List.set_cons_zero, List.set_cons_succ, Option.some.injEq, exists_eq_left', exists_eq_left, List.cons.injEq, and_true, true_and, D.bl.injEq, D.int.injEq, D.str.injEq, D.own.injEq, D.tup.injEq, List.length_cons, List.length_nil, if_true, if_false, Bool.false_eq_true, reduceIte]
    refine gIx_lst rfl (at_nat (i := 0) (strs_get hs)) ?_
    exact ⟨⟨s, ⟨N.ok s hm, fun e => N.no (e ▸ hm)⟩, rfl⟩, rfl⟩
  rintro _ _ ⟨⟨nm, ⟨nm1, nm2⟩, rfl⟩, rfl⟩
  refine ⟨fun env L' => (∃ ct : Int, (1 ≤ ct ∧ ct ≤ 100000000000) ∧ env = [some (.sq (ns.map .int)), some (.int h), some (.lst (xs.map .str)), some (.str nm), some (.int ct), none, none, none, none, none, none, none, none, none, none, none, none, none, none, none, none]) ∧ L = L', ?_, ?_⟩
  · try simp (config := { maxSteps := 2000000 }) only [dSeq, dNext, dSet, dRet, dRetN, dIf, dDrop, dVar, dC, dOp, dUn, dB, dNot, dAnd, dOr, dAndV, dOrV, dNotV, dIfE, dCB, dNil, dCons, dTup, dLst, dLstO, dCall, dMake, dFld, dSetF, dAsg, dgTup, dgCons, dgNil, dgN, dStore, dApp, dBM, dChain, dSl, dPart, dNoPart, dRaise, dEndB, gI2, gNeg, gAdd, gMul, gEqB, gIsB, gStr, gInt, gIsi, tyM, List.getElem?_cons_zero, List.getElem?_cons_succ, List.set_cons_zero, List.set_cons_succ, Option.some.injEq, exists_eq_left', exists_eq_left, List.cons.injEq, and_true, true_and, D.bl.injEq, D.int.injEq, D.str.injEq, D.own.injEq, D.tup.injEq, List.length_cons, List.length_nil, if_true, if_false, Bool.false_eq_true, reduceIte, S_l_cell]
    have e1 := Int.emod_nonneg (cellI ns 2) (b := 10 ^ Int.toNat 11) (by decide)
    have e2 := Int.emod_lt_of_pos (cellI ns 2) (b := 10 ^ Int.toNat 11) (by decide)
    have e3 : (10 : Int) ^ Int.toNat 11 = 100000000000 := by decide
    refine ⟨ns, 2, ⟨rfl, rfl⟩, hn, by decide, ⟨by decide, by decide, by decide⟩, by decide, _, ?_, rfl⟩
    omega
  rintro _ _ ⟨⟨ct, ⟨ct1, ct2⟩, rfl⟩, rfl⟩
  refine ⟨fun env L' => (∃ ps : List (Str × Int), Houses ps ∧ env = [some (.sq (ns.map .int)), some (.int h), some (.lst (xs.map .str)), some (.str nm), some (.int ct), some (.lst (ps.map hwD)), none, none, none, none, none, none, none, none, none, none, none, none, none, none, none]) ∧ L = L', ?_, ?_⟩
  · try simp (config := { maxSteps := 2000000 }) only [dSeq, dNext, dSet, dRet, dRetN, dIf, dDrop, dVar, dC, dOp, dUn, dB, dNot, dAnd, dOr, dAndV, dOrV, dNotV, dIfE, dCB, dNil, dCons, dTup, dLst, dLstO, dCall, dMake, dFld, dSetF, dAsg, dgTup, dgCons, dgNil, dgN, dStore, dApp, dBM, dChain, dSl, dPart, dNoPart, dRaise, dEndB, gI2, gNeg, gAdd, gMul, gEqB, gIsB, gStr, gInt, gIsi, tyM, List.getElem?_cons_zero, List.getElem?_cons_succ, List.set_cons_zero, List.set_cons_succ, Option.some.injEq, exists_eq_left', exists_eq_left, List.cons.injEq, and_true, true_and, D.bl.injEq, D.int.injEq, D.str.injEq, D.own.injEq, D.tup.injEq, List.length_cons, List.length_nil, if_true, if_false, Bool.false_eq_true, reduceIte, S_l_houses]
    exact ⟨ns, xs, ⟨rfl, rfl⟩, hn, N, fun ps H => ⟨ps, H, rfl⟩⟩
  rintro _ _ ⟨⟨ps, H, rfl⟩, rfl⟩
  refine ⟨fun env L' => (∃ am : List Int, (am.length ≤ 8 ∧ ∀ v ∈ am, 0 ≤ v ∧ v ≤ 999999999999) ∧ env = [some (.sq (ns.map .int)), some (.int h), some (.lst (xs.map .str)), some (.str nm), some (.int ct), some (.lst (ps.map hwD)), some (.lst (am.map .int)), none, none, none, none, none, none, none, none, none, none, none, none, none, none]) ∧ L = L', ?_, ?_⟩
  · try simp (config := { maxSteps := 2000000 }) only [dSeq, dNext, dSet, dRet, dRetN, dIf, dDrop, dVar, dC, dOp, dUn, dB, dNot, dAnd, dOr, dAndV, dOrV, dNotV, dIfE, dCB, dNil, dCons, dTup, dLst, dLstO, dCall, dMake, dFld, dSetF, dAsg, dgTup, dgCons, dgNil, dgN, dStore, dApp, dBM, dChain, dSl, dPart, dNoPart, dRaise, dEndB, gI2, gNeg, gAdd, gMul, gEqB, gIsB, gStr, gInt, gIsi, tyM, List.getElem?_cons_zero, List.getElem?_cons_succ, List.set_cons_zero, List.set_cons_succ, Option.some.injEq, exists_eq_left', exists_eq_left, List.cons.injEq, and_true, true_and, D.bl.injEq, D.int.injEq, D.str.injEq, D.own.injEq, D.tup.injEq, List.length_cons, List.length_nil, if_true, if_false, Bool.false_eq_true, reduceIte, dLcG, dIR1, dYes, cgD, wipeD]
    have e3 : (10 : Int) ^ Int.toNat 11 = 100000000000 := by decide
    refine ⟨by decide, by omega, fun n acc L' => L = L' ∧ ∃ am : List Int, acc = am.map .int ∧ am.length = n ∧ ∀ v ∈ am, 0 ≤ v ∧ v ≤ 999999999999, ⟨rfl, [], rfl, rfl, fun _ h => (nomatch h)⟩, fun _ _ _ _ => trivial, ?_, ?_⟩
    · rintro n acc L' x hn' hx ⟨rfl, am, rfl, hl, hv⟩
      obtain rfl : D.int (0 + (n : Int)) = x := Option.some.inj hx
      have hn2 : n < (h % 9).toNat := hn'
      refine ⟨by rw [List.length_map]; omega, ?_⟩
      try simp (config := { maxSteps := 2000000 }) only [dSeq, dNext, dSet, dRet, dRetN, dIf, dDrop, dVar, dC, dOp, dUn, dB, dNot, dAnd, dOr, dAndV, dOrV, dNotV, dIfE, dCB, dNil, dCons, dTup, dLst, dLstO, dCall, dMake, dFld, dSetF, dAsg, dgTup, dgCons, dgNil, dgN, dStore, dApp, dBM, dChain, dSl, dPart, dNoPart, dRaise, dEndB, gI2, gNeg, gAdd, gMul, gEqB, gIsB, gStr, gInt, gIsi, tyM, List.getElem?_cons_zero, List.getElem?_cons_succ, List.set_cons_zero, List.set_cons_succ, Option.some.injEq, exists_eq_left', exists_eq_left, List.cons.injEq, and_true, true_and, D.bl.injEq, D.int.injEq, D.str.injEq, D.own.injEq, D.tup.injEq, List.length_cons, List.length_nil, if_true, if_false, Bool.false_eq_true, reduceIte]
      have e1 := Int.emod_nonneg (ct + (0 + (n : Int)) * h) (b := 10 ^ Int.toNat 11) (by decide)
      have e2 := Int.emod_lt_of_pos (ct + (0 + (n : Int)) * h) (b := 10 ^ Int.toNat 11) (by decide)
      refine ⟨.inl (by omega), ⟨by decide, by decide, by decide⟩, by decide, am ++ [(ct + (0 + (n : Int)) * h) % 10 ^ Int.toNat 11], by rw [List.map_append]; rfl, by simp [hl], fun v hv' => ?_⟩
      rcases List.mem_append.mp hv' with z | z
      · exact hv v z
      · rw [List.mem_singleton] at z
        subst z
        omega
    · rintro acc L' ⟨rfl, am, rfl, hl, hv⟩
      have hl' : am.length = (h % 9).toNat := hl
      exact ⟨⟨am, ⟨by omega, hv⟩, rfl⟩, rfl⟩
  rintro _ _ ⟨⟨am, ⟨am8, amv⟩, rfl⟩, rfl⟩
  refine ⟨fun env L' => (∃ CL : List D, (CL.length = am.length ∧ ∀ (i : Nat) (d : D) (v : Int), CL[i]? = some d → am[i]? = some v → ∃ k, d = .own k ∧ L'[k]? = some (.ins c.Own (ownF "year" v))) ∧ env = [some (.sq (ns.map .int)), some (.int h), some (.lst (xs.map .str)), some (.str nm), some (.int ct), some (.lst (ps.map hwD)), some (.lst (am.map .int)), some (.lst CL), none, none, none, none, none, none, none, none, none, none, none, none, none]) ∧ L.length ≤ L'.length, ?_, ?_⟩
  · try simp (config := { maxSteps := 2000000 }) only [dSeq, dNext, dSet, dRet, dRetN, dIf, dDrop, dVar, dC, dOp, dUn, dB, dNot, dAnd, dOr, dAndV, dOrV, dNotV, dIfE, dCB, dNil, dCons, dTup, dLst, dLstO, dCall, dMake, dFld, dSetF, dAsg, dgTup, dgCons, dgNil, dgN, dStore, dApp, dBM, dChain, dSl, dPart, dNoPart, dRaise, dEndB, gI2, gNeg, gAdd, gMul, gEqB, gIsB, gStr, gInt, gIsi, tyM, List.getElem?_cons_zero, List.getElem?_cons_succ, List.set_cons_zero, List.set_cons_succ, Option.some.injEq, exists_eq_left', exists_eq_left, List.cons.injEq, and_true, true_and, D.bl.injEq, D.int.injEq, D.str.injEq, D.own.injEq, D.tup.injEq, List.length_cons, List.length_nil, if_true, if_false, Bool.false_eq_true, reduceIte, dLcG, dIL, dYes, cgD, wipeD]
    refine ⟨_, rfl, fun n acc L' => (acc.length = n ∧ ∀ (i : Nat) (d : D) (v : Int), acc[i]? = some d → am[i]? = some v → ∃ k, d = .own k ∧ L'[k]? = some (.ins c.Own (ownF "year" v))) ∧ L.length ≤ L'.length, ⟨⟨rfl, fun i d v hd => by simp at hd⟩, Nat.le_refl _⟩, fun i acc L' h => rfl, ?_, ?_⟩
    · rintro n acc L' x hn' hx ⟨⟨hl, ho⟩, hL⟩
      have hx' : (am.map D.int)[n]? = some x := hx
      rw [List.getElem?_map] at hx'
      cases ev : am[n]? with
      | none => rw [ev] at hx'; cases hx'
      | some v =>
        rw [ev] at hx'
        obtain rfl : D.int v = x := Option.some.inj hx'
        have hnl := (List.getElem?_eq_some_iff.mp ev).1
        refine ⟨by omega, ?_⟩
        try simp (config := { maxSteps := 2000000 }) only [dSeq, dNext, dSet, dRet, dRetN, dIf, dDrop, dVar, dC, dOp, dUn, dB, dNot, dAnd, dOr, dAndV, dOrV, dNotV, dIfE, dCB, dNil, dCons, dTup, dLst, dLstO, dCall, dMake, dFld, dSetF, dAsg, dgTup, dgCons, dgNil, dgN, dStore, dApp, dBM, dChain, dSl, dPart, dNoPart, dRaise, dEndB, gI2, gNeg, gAdd, gMul, gEqB, gIsB, gStr, gInt, gIsi, tyM, List.getElem?_cons_zero, List.getElem?_cons_succ, List.set_cons_zero, List.set_cons_succ, Option.some.injEq, exists_eq_left', exists_eq_left, List.cons.injEq, and_true, true_and, D.bl.injEq, D.int.injEq, D.str.injEq, D.own.injEq, D.tup.injEq, List.length_cons, List.length_nil, if_true, if_false, Bool.false_eq_true, reduceIte, S_Own_init]
        refine ⟨_, _, _, ⟨rfl, rfl⟩, by decide +kernel, amv v (List.mem_of_getElem? ev), get_end _, ?_⟩
        rw [set_end]
        refine ⟨⟨by rw [List.length_append, hl]; rfl, fun i d v' hd hv' => ?_⟩, by rw [List.length_append]; omega⟩
        by_cases e : i < acc.length
        · rw [List.getElem?_append_left e] at hd
          obtain ⟨k, e1, hk⟩ := ho i d v' hd hv'
          exact ⟨k, e1, get_app _ hk⟩
        · have ei : i = acc.length := by
            have := (List.getElem?_eq_some_iff.mp hd).1
            rw [List.length_append, List.length_singleton] at this
            omega
          subst ei
          rw [List.getElem?_append_right (Nat.le_refl _), Nat.sub_self] at hd
          rw [hl, ev] at hv'
          cases hv'
          cases hd
          exact ⟨_, rfl, get_end _⟩
    · rintro acc L' ⟨⟨hl, ho⟩, hL⟩
      exact ⟨⟨acc, ⟨by rw [hl]; show (am.map D.int).length = _; rw [List.length_map], ho⟩, rfl⟩, hL⟩
  rintro _ L1 ⟨⟨CL, ⟨hCl, hCo⟩, rfl⟩, hL1⟩
  refine ⟨fun env L' => env = [some (.sq (ns.map .int)), some (.int h), some (.lst (xs.map .str)), some (.str nm), some (.int ct), some (.lst (ps.map hwD)), some (.lst (am.map .int)), some (.lst CL), some (.lst (am.map fun i => ownW "year" i)), none, none, none, none, none, none, none, none, none, none, none, none] ∧ L1 = L', ?_, ?_⟩
  · try simp (config := { maxSteps := 2000000 }) only [dSeq, dNext, dSet, dRet, dRetN, dIf, dDrop, dVar, dC, dOp, dUn, dB, dNot, dAnd, dOr, dAndV, dOrV, dNotV, dIfE, dCB, dNil, dCons, dTup, dLst, dLstO, dCall, dMake, dFld, dSetF, dAsg, dgTup, dgCons, dgNil, dgN, dStore, dApp, dBM, dChain, dSl, dPart, dNoPart, dRaise, dEndB, gI2, gNeg, gAdd, gMul, gEqB, gIsB, gStr, gInt, gIsi, tyM, List.getElem?_cons_zero, List.getElem?_cons_succ, List.set_cons_zero, List.set_cons_succ, Option.some.injEq, exists_eq_left', exists_eq_left, List.cons.injEq, and_true, true_and, D.bl.injEq, D.int.injEq, D.str.injEq, D.own.injEq, D.tup.injEq, List.length_cons, List.length_nil, if_true, if_false, Bool.false_eq_true, reduceIte, dLcG, dIL, dYes, cgD, wipeD, dMeth]
    refine ⟨CL, rfl, fun i acc L' => L1 = L' ∧ acc = (am.take i).map fun i => ownW "year" i, ⟨rfl, rfl⟩, fun i acc L' h => rfl, ?_, ?_⟩
    · rintro i acc L' x hi' hx ⟨rfl, rfl⟩
      have hx' : CL[i]? = some x := hx
      have hil : i < am.length := by rw [← hCl]; exact (List.getElem?_eq_some_iff.mp hx').1
      obtain ⟨k, rfl, hk⟩ := hCo i x _ hx' (List.getElem?_eq_getElem hil)
      refine ⟨by rw [List.length_map, List.length_take]; omega, ?_⟩
      try simp (config := { maxSteps := 2000000 }) only [dSeq, dNext, dSet, dRet, dRetN, dIf, dDrop, dVar, dC, dOp, dUn, dB, dNot, dAnd, dOr, dAndV, dOrV, dNotV, dIfE, dCB, dNil, dCons, dTup, dLst, dLstO, dCall, dMake, dFld, dSetF, dAsg, dgTup, dgCons, dgNil, dgN, dStore, dApp, dBM, dChain, dSl, dPart, dNoPart, dRaise, dEndB, gI2, gNeg, gAdd, gMul, gEqB, gIsB, gStr, gInt, gIsi, tyM, List.getElem?_cons_zero, List.getElem?_cons_succ, List.set_cons_zero, List.set_cons_succ, Option.some.injEq, exists_eq_left', exists_eq_left, List.cons.injEq, and_true, true_and, D.bl.injEq, D.int.injEq, D.str.injEq, D.own.injEq, D.tup.injEq, List.length_cons, List.length_nil, if_true, if_false, Bool.false_eq_true, reduceIte]
      refine ⟨c.Own, _, _, ins_own hk, .inl ⟨rfl, rfl⟩, rfl, _, _, _, rfl, ins_own hk, amv _ (List.getElem_mem hil), ?_⟩
      rw [List.take_add_one, List.getElem?_eq_getElem hil, List.map_append]
      exact ⟨rfl, rfl⟩
    · rintro acc L' ⟨rfl, rfl⟩
      refine ⟨?_, rfl⟩
      rw [hCl, List.take_length]
  rintro _ _ ⟨rfl, rfl⟩
  have hw3 : 0 ≤ h / 9 % 3 ∧ h / 9 % 3 < 3 := by omega
  refine ⟨fun env L' => (∃ cond, Base c L' CL am cond (h / 9 % 3) nm ct ∧ env = [some (.sq (ns.map .int)), some (.int h), some (.lst (xs.map .str)), some (.str nm), some (.int ct), some (.lst (ps.map hwD)), some (.lst (am.map .int)), some (.lst CL), some (.lst (am.map fun i => ownW "year" i)), some cond, none, none, none, none, none, none, none, none, none, none, none]) ∧ L.length ≤ L'.length, ?_, ?_⟩
  · try simp (config := { maxSteps := 2000000 }) only [dSeq, dNext, dSet, dRet, dRetN, dIf, dDrop, dVar, dC, dOp, dUn, dB, dNot, dAnd, dOr, dAndV, dOrV, dNotV, dIfE, dCB, dNil, dCons, dTup, dLst, dLstO, dCall, dMake, dFld, dSetF, dAsg, dgTup, dgCons, dgNil, dgN, dStore, dApp, dBM, dChain, dSl, dPart, dNoPart, dRaise, dEndB, gI2, gNeg, gAdd, gMul, gEqB, gIsB, gStr, gInt, gIsi, tyM, List.getElem?_cons_zero, List.getElem?_cons_succ, List.set_cons_zero, List.set_cons_succ, Option.some.injEq, exists_eq_left', exists_eq_left, List.cons.injEq, and_true, true_and, D.bl.injEq, D.int.injEq, D.str.injEq, D.own.injEq, D.tup.injEq, List.length_cons, List.length_nil, if_true, if_false, Bool.false_eq_true, reduceIte, S_CauseIs_init, S_ThingIs_init, S_Over_init]
    refine ⟨_, _, ⟨rfl, rfl⟩, get_end _, ?_⟩
    rw [set_end]
    refine ⟨_, _, ⟨rfl, rfl⟩, get_end _, ?_⟩
    rw [set_end]
    refine ⟨_, _, ⟨rfl, rfl⟩, get_end _, ?_⟩
    rw [set_end]
    refine ⟨by decide, by decide, by decide, ?_⟩
    have hb : ∀ (i : Nat) (d : D) (v : Int), CL[i]? = some d → am[i]? = some v → ∃ k, d = .own k ∧ (L1 ++ [OD.ins c.CauseIs [("name", D.str nm)]] ++ [OD.ins c.ThingIs [("name", D.str nm)]] ++ [OD.ins c.Over [("cents", D.int ct)]])[k]? = some (.ins c.Own (ownF "year" v)) := fun i d v h1 h2 => by
      obtain ⟨k, e, hk⟩ := hCo i d v h1 h2
      exact ⟨k, e, get_app _ (get_app _ (get_app _ hk))⟩
    have hlen : L.length ≤ (L1 ++ [OD.ins c.CauseIs [("name", D.str nm)]] ++ [OD.ins c.ThingIs [("name", D.str nm)]] ++ [OD.ins c.Over [("cents", D.int ct)]]).length := by simp; omega
    have g1 : (L1 ++ [OD.ins c.CauseIs [("name", D.str nm)]] ++ [OD.ins c.ThingIs [("name", D.str nm)]] ++ [OD.ins c.Over [("cents", D.int ct)]])[L1.length]? = some (.ins c.CauseIs [("name", .str nm)]) := get_app _ (get_app _ (get_end _))
    have g2 : (L1 ++ [OD.ins c.CauseIs [("name", D.str nm)]] ++ [OD.ins c.ThingIs [("name", D.str nm)]] ++ [OD.ins c.Over [("cents", D.int ct)]])[(L1 ++ [OD.ins c.CauseIs [("name", D.str nm)]]).length]? = some (.ins c.ThingIs [("name", .str nm)]) := get_app _ (get_end _)
    have g3 : (L1 ++ [OD.ins c.CauseIs [("name", D.str nm)]] ++ [OD.ins c.ThingIs [("name", D.str nm)]] ++ [OD.ins c.Over [("cents", D.int ct)]])[(L1 ++ [OD.ins c.CauseIs [("name", D.str nm)]] ++ [OD.ins c.ThingIs [("name", D.str nm)]]).length]? = some (.ins c.Over [("cents", .int ct)]) := get_end _
    have hw : h / 9 % 3 = 0 ∨ h / 9 % 3 = 1 ∨ h / 9 % 3 = 2 := by omega
    rcases hw with hw | hw | hw
    · rw [hw]
      exact gIx_lst rfl rfl ⟨⟨_, ⟨hCl, hb, ⟨_, _, _, rfl, g1⟩, .inl ⟨rfl, ins_own g1⟩⟩, rfl⟩, hlen⟩
    · rw [hw]
      exact gIx_lst rfl rfl ⟨⟨_, ⟨hCl, hb, ⟨_, _, _, rfl, g2⟩, .inr (.inl ⟨rfl, ins_own g2⟩)⟩, rfl⟩, hlen⟩
    · rw [hw]
      exact gIx_lst rfl rfl ⟨⟨_, ⟨hCl, hb, ⟨_, _, _, rfl, g3⟩, .inr (.inr ⟨rfl, ins_own g3⟩)⟩, rfl⟩, hlen⟩
  rintro _ L2 ⟨⟨cond, B, rfl⟩, hL2⟩
  refine ⟨fun env L' => (∃ w : Bool, env = [some (.sq (ns.map .int)), some (.int h), some (.lst (xs.map .str)), some (.str nm), some (.int ct), some (.lst (ps.map hwD)), some (.lst (am.map .int)), some (.lst CL), some (.lst (am.map fun i => ownW "year" i)), some cond, some (.bl w), none, none, none, none, none, none, none, none, none, none]) ∧ L2 = L', ?_, ?_⟩
  · try simp (config := { maxSteps := 2000000 }) only [dSeq, dNext, dSet, dRet, dRetN, dIf, dDrop, dVar, dC, dOp, dUn, dB, dNot, dAnd, dOr, dAndV, dOrV, dNotV, dIfE, dCB, dNil, dCons, dTup, dLst, dLstO, dCall, dMake, dFld, dSetF, dAsg, dgTup, dgCons, dgNil, dgN, dStore, dApp, dBM, dChain, dSl, dPart, dNoPart, dRaise, dEndB, gI2, gNeg, gAdd, gMul, gEqB, gIsB, gStr, gInt, gIsi, tyM, List.getElem?_cons_zero, List.getElem?_cons_succ, List.set_cons_zero, List.set_cons_succ, Option.some.injEq, exists_eq_left', exists_eq_left, List.cons.injEq, and_true, true_and, D.bl.injEq, D.int.injEq, D.str.injEq, D.own.injEq, D.tup.injEq, List.length_cons, List.length_nil, if_true, if_false, Bool.false_eq_true, reduceIte]
    exact ⟨by decide, by decide, _, rfl⟩
  rintro _ _ ⟨⟨w, rfl⟩, rfl⟩
  refine ⟨fun env L' => ∃ a b, env = [some (.sq (ns.map .int)), some (.int h), some (.lst (xs.map .str)), some (.str nm), some (.int ct), some (.lst (ps.map hwD)), some (.lst (am.map .int)), some (.lst CL), some (.lst (am.map fun i => ownW "year" i)), some cond, some (.bl w), some (.lst [.own a, .own b]), none, none, none, none, none, none, none, none, none] ∧ Base c L' CL am cond (h / 9 % 3) nm ct ∧ L'[a]? = some (.lst CL) ∧ L'[b]? = some (.lst (ps.map hwD)) ∧ a ≠ b ∧ L.length ≤ L'.length, ?_, ?_⟩
  · try simp (config := { maxSteps := 2000000 }) only [dSeq, dNext, dSet, dRet, dRetN, dIf, dDrop, dVar, dC, dOp, dUn, dB, dNot, dAnd, dOr, dAndV, dOrV, dNotV, dIfE, dCB, dNil, dCons, dTup, dLst, dLstO, dCall, dMake, dFld, dSetF, dAsg, dgTup, dgCons, dgNil, dgN, dStore, dApp, dBM, dChain, dSl, dPart, dNoPart, dRaise, dEndB, gI2, gNeg, gAdd, gMul, gEqB, gIsB, gStr, gInt, gIsi, tyM, List.getElem?_cons_zero, List.getElem?_cons_succ, List.set_cons_zero, List.set_cons_succ, Option.some.injEq, exists_eq_left', exists_eq_left, List.cons.injEq, and_true, true_and, D.bl.injEq, D.int.injEq, D.str.injEq, D.own.injEq, D.tup.injEq, List.length_cons, List.length_nil, if_true, if_false, Bool.false_eq_true, reduceIte, gListO]
    refine ⟨_, _, rfl, rfl, _, _, rfl, rfl, by decide, _, _, rfl, (B.app _).app _, get_app _ (get_end _), get_end _, by simp, by simp; omega⟩
  rintro _ L3 ⟨a, b, rfl, B3, ga, gb, nab, hL3⟩
  clear B hL2
  have lo := H.lo
  have hi := H.hi
  have am8' : CL.length ≤ 8 := by rw [hCl]; exact am8
  refine ⟨fun env L' => ∃ kc, env = [some (.sq (ns.map .int)), some (.int h), some (.lst (xs.map .str)), some (.str nm), some (.int ct), some (.lst (ps.map hwD)), some (.lst (am.map .int)), some (.lst CL), some (.lst (am.map fun i => ownW "year" i)), some cond, some (.bl w), some (.lst [.own a, .own b]), some (.own kc), none, none, none, none, none, none, none, none] ∧ Base c L' CL am cond (h / 9 % 3) nm ct ∧ L'[a]? = some (.lst CL) ∧ L'[b]? = some (.lst (ps.map hwD)) ∧ L'[kc]? = some (.ins c.Cover (coverF c (.str nm) cond CL (ps.map (·.1)) (ps.map (·.2)) (.bl w))) ∧ L.length ≤ L'.length, ?_, ?_⟩
  · try simp (config := { maxSteps := 2000000 }) only [dSeq, dNext, dSet, dRet, dRetN, dIf, dDrop, dVar, dC, dOp, dUn, dB, dNot, dAnd, dOr, dAndV, dOrV, dNotV, dIfE, dCB, dNil, dCons, dTup, dLst, dLstO, dCall, dMake, dFld, dSetF, dAsg, dgTup, dgCons, dgNil, dgN, dStore, dApp, dBM, dChain, dSl, dPart, dNoPart, dRaise, dEndB, gI2, gNeg, gAdd, gMul, gEqB, gIsB, gStr, gInt, gIsi, tyM, List.getElem?_cons_zero, List.getElem?_cons_succ, List.set_cons_zero, List.set_cons_succ, Option.some.injEq, exists_eq_left', exists_eq_left, List.cons.injEq, and_true, true_and, D.bl.injEq, D.int.injEq, D.str.injEq, D.own.injEq, D.tup.injEq, List.length_cons, List.length_nil, if_true, if_false, Bool.false_eq_true, reduceIte]
    refine gIx_lst rfl rfl ?_
    refine gIx_lst rfl rfl ?_
    try simp (config := { maxSteps := 2000000 }) only [dSeq, dNext, dSet, dRet, dRetN, dIf, dDrop, dVar, dC, dOp, dUn, dB, dNot, dAnd, dOr, dAndV, dOrV, dNotV, dIfE, dCB, dNil, dCons, dTup, dLst, dLstO, dCall, dMake, dFld, dSetF, dAsg, dgTup, dgCons, dgNil, dgN, dStore, dApp, dBM, dChain, dSl, dPart, dNoPart, dRaise, dEndB, gI2, gNeg, gAdd, gMul, gEqB, gIsB, gStr, gInt, gIsi, tyM, List.getElem?_cons_zero, List.getElem?_cons_succ, List.set_cons_zero, List.set_cons_succ, Option.some.injEq, exists_eq_left', exists_eq_left, List.cons.injEq, and_true, true_and, D.bl.injEq, D.int.injEq, D.str.injEq, D.own.injEq, D.tup.injEq, List.length_cons, List.length_nil, if_true, if_false, Bool.false_eq_true, reduceIte]
    refine ⟨L3.length, .str nm, cond, .own a, .own b, .bl w, CL, ps.map encP, rfl, get_end _, okH_name nm1 _, .inr ⟨rfl, lst_app _ (lst_own ga)⟩, .inr ⟨rfl, by rw [enc_pair]; exact lst_app _ (lst_own gb), tyS_app _ (by unfold tyS; dsimp only; rw [gb])⟩, by omega, by rw [List.length_map]; omega, enc_ok H _, (B3.app _).shc, .clos rfl, (B3.app _).shut, fun _ hs ws hhs hws hto => ?_, fun e => ?_, fun e => ?_⟩
    · rw [H.go] at hhs
      cases hhs
      rw [snd_enc, H.good] at hws
      cases hws
      rw [set_end]
      exact ⟨rfl, B3.app _, get_app _ ga, get_app _ gb, get_end _, by rw [List.length_append]; omega⟩
    · rw [H.cov nm1 nm2 am8'] at e; cases e
    · rw [H.cov nm1 nm2 am8'] at e; cases e
  rintro _ L4 ⟨kc, rfl, B4, ga4, gb4, gc4, hL4⟩
  have H1 := one_houses nm1
  refine ⟨fun env L' => ∃ kp, env = [some (.sq (ns.map .int)), some (.int h), some (.lst (xs.map .str)), some (.str nm), some (.int ct), some (.lst (ps.map hwD)), some (.lst (am.map .int)), some (.lst CL), some (.lst (am.map fun i => ownW "year" i)), some cond, some (.bl w), some (.lst [.own a, .own b]), some (.own kc), some (.own kp), none, none, none, none, none, none, none] ∧ Base c L' CL am cond (h / 9 % 3) nm ct ∧ L'[a]? = some (.lst CL) ∧ L'[b]? = some (.lst (ps.map hwD)) ∧ L'[kc]? = some (.ins c.Cover (coverF c (.str nm) cond CL (ps.map (·.1)) (ps.map (·.2)) (.bl w))) ∧ L'[kp]? = some (.ins c.Cover (coverF c (.str nm) cond [] [nm] [1] (.bl false))) ∧ L.length ≤ L'.length, ?_, ?_⟩
  · try simp (config := { maxSteps := 2000000 }) only [dSeq, dNext, dSet, dRet, dRetN, dIf, dDrop, dVar, dC, dOp, dUn, dB, dNot, dAnd, dOr, dAndV, dOrV, dNotV, dIfE, dCB, dNil, dCons, dTup, dLst, dLstO, dCall, dMake, dFld, dSetF, dAsg, dgTup, dgCons, dgNil, dgN, dStore, dApp, dBM, dChain, dSl, dPart, dNoPart, dRaise, dEndB, gI2, gNeg, gAdd, gMul, gEqB, gIsB, gStr, gInt, gIsi, tyM, List.getElem?_cons_zero, List.getElem?_cons_succ, List.set_cons_zero, List.set_cons_succ, Option.some.injEq, exists_eq_left', exists_eq_left, List.cons.injEq, and_true, true_and, D.bl.injEq, D.int.injEq, D.str.injEq, D.own.injEq, D.tup.injEq, List.length_cons, List.length_nil, if_true, if_false, Bool.false_eq_true, reduceIte]
    refine ⟨L4.length, .str nm, cond, .non, .non, .bl false, [], [(.str nm, .int 1)], rfl, get_end _, okH_name nm1 _, .inl ⟨rfl, rfl⟩, .inl ⟨rfl, rfl⟩, by decide, by show (1 : Nat) ≤ 1000; decide, enc_ok H1 _, (B4.app _).shc, .clos rfl, fun _ h => (nomatch h), fun _ hs ws hhs hws hto => ?_, fun e => ?_, fun e => ?_⟩
    · have hg := H1.go
      have hg' : housesGo (List.map (fun x => x.1) [(D.str nm, D.int 1)]) [] = some [nm] := hg
      rw [hg'] at hhs
      cases hhs
      have hw' : goodWs (List.map (fun x => x.2) [(D.str nm, D.int 1)]) = some [1] := H1.good
      rw [hw'] at hws
      cases hws
      rw [set_end]
      exact ⟨rfl, B4.app _, get_app _ ga4, get_app _ gb4, get_app _ gc4, get_end _, by rw [List.length_append]; omega⟩
    · have e' : coverOf (.str nm) 0 ([(nm, (1 : Int))].map encP) = 1 := e
      rw [H1.cov nm1 nm2 (by decide)] at e'; cases e'
    · have e' : coverOf (.str nm) 0 ([(nm, (1 : Int))].map encP) = 2 := e
      rw [H1.cov nm1 nm2 (by decide)] at e'; cases e'
  rintro _ L5 ⟨kp, rfl, B5, ga5, gb5, gc5, gp5, hL5⟩
  refine ⟨fun env L' => env = [some (.sq (ns.map .int)), some (.int h), some (.lst (xs.map .str)), some (.str nm), some (.int ct), some (.lst (ps.map hwD)), some (.lst (am.map .int)), some (.lst CL), some (.lst (am.map fun i => ownW "year" i)), some cond, some (.bl w), some (.lst [.own a, .own b]), some (.own kc), some (.own kp), none, none, none, none, none, none, none] ∧ L5 = L', ?_, ?_⟩
  · try simp (config := { maxSteps := 2000000 }) only [dSeq, dNext, dSet, dRet, dRetN, dIf, dDrop, dVar, dC, dOp, dUn, dB, dNot, dAnd, dOr, dAndV, dOrV, dNotV, dIfE, dCB, dNil, dCons, dTup, dLst, dLstO, dCall, dMake, dFld, dSetF, dAsg, dgTup, dgCons, dgNil, dgN, dStore, dApp, dBM, dChain, dSl, dPart, dNoPart, dRaise, dEndB, gI2, gNeg, gAdd, gMul, gEqB, gIsB, gStr, gInt, gIsi, tyM, List.getElem?_cons_zero, List.getElem?_cons_succ, List.set_cons_zero, List.set_cons_succ, Option.some.injEq, exists_eq_left', exists_eq_left, List.cons.injEq, and_true, true_and, D.bl.injEq, D.int.injEq, D.str.injEq, D.own.injEq, D.tup.injEq, List.length_cons, List.length_nil, if_true, if_false, Bool.false_eq_true, reduceIte, gEqT]
    refine ⟨by decide, [.own a, .own b], [.lst CL, .lst (ps.map hwD)], rfl, rfl, rfl, fun i d d' h1 h2 => ?_⟩
    · match i, h1, h2 with
      | 0, h1, h2 =>
        cases h1
        cases h2
        refine .inr (.inr ⟨CL, CL, lst_own ga5, rfl, rfl, fun j e e' q1 q2 => ?_⟩)
        rw [q1] at q2
        cases q2
        have hjl := (List.getElem?_eq_some_iff.mp q1).1
        obtain ⟨k, rfl, _⟩ := B5.own j e (am[j]'(by rw [← B5.len]; exact hjl)) q1 (List.getElem?_eq_getElem _)
        exact .inl ⟨k, rfl, rfl⟩
      | 1, h1, h2 =>
        cases h1
        cases h2
        refine .inr (.inr ⟨_, _, lst_own gb5, rfl, rfl, fun j e e' q1 q2 => ?_⟩)
        rw [q1] at q2
        cases q2
        rw [List.getElem?_map] at q1
        cases ep : ps[j]? with
        | none => rw [ep] at q1; cases q1
        | some p =>
          rw [ep] at q1
          cases q1
          have hd : Dat 1 (hwD p) (.tuple [.str p.1, .int p.2]) := .tup (.cons (.str _ (ok_name (H.ok p (List.mem_of_getElem? ep)))) (.cons (.int _) .nil))
          obtain ⟨z1, z2, z3⟩ := hd.ok
          exact .inr (.inl ⟨_, _, hd.py, hd.py, z2, z2, by omega, SeqAt.eqv_refl _ z2⟩)
      | i + 2, h1, h2 => simp at h1
  rintro _ _ ⟨rfl, rfl⟩
  refine ⟨fun env L' => env = [some (.sq (ns.map .int)), some (.int h), some (.lst (xs.map .str)), some (.str nm), some (.int ct), some (.lst (ps.map hwD)), some (.lst (am.map .int)), some (.lst CL), some (.lst (am.map fun i => ownW "year" i)), some cond, some (.bl w), some (.lst [.own a, .own b]), some (.own kc), some (.own kp), none, none, none, none, none, none, none] ∧ Base c L' CL am cond (h / 9 % 3) nm ct ∧ (∃ zs : List D, L'[b]? = some (.lst zs) ∧ zs.length ≤ 8) ∧ L'[kc]? = some (.ins c.Cover (coverF c (.str nm) cond CL (ps.map (·.1)) (ps.map (·.2)) (.bl w))) ∧ L'[kp]? = some (.ins c.Cover (coverF c (.str nm) cond [] [nm] [1] (.bl false))) ∧ L.length ≤ L'.length, ?_, ?_⟩
  · try simp (config := { maxSteps := 2000000 }) only [dSeq, dNext, dSet, dRet, dRetN, dIf, dDrop, dVar, dC, dOp, dUn, dB, dNot, dAnd, dOr, dAndV, dOrV, dNotV, dIfE, dCB, dNil, dCons, dTup, dLst, dLstO, dCall, dMake, dFld, dSetF, dAsg, dgTup, dgCons, dgNil, dgN, dStore, dApp, dBM, dChain, dSl, dPart, dNoPart, dRaise, dEndB, gI2, gNeg, gAdd, gMul, gEqB, gIsB, gStr, gInt, gIsi, tyM, List.getElem?_cons_zero, List.getElem?_cons_succ, List.set_cons_zero, List.set_cons_succ, Option.some.injEq, exists_eq_left', exists_eq_left, List.cons.injEq, and_true, true_and, D.bl.injEq, D.int.injEq, D.str.injEq, D.own.injEq, D.tup.injEq, List.length_cons, List.length_nil, if_true, if_false, Bool.false_eq_true, reduceIte]
    refine gIx_lst rfl rfl ?_
    try simp (config := { maxSteps := 2000000 }) only [dSeq, dNext, dSet, dRet, dRetN, dIf, dDrop, dVar, dC, dOp, dUn, dB, dNot, dAnd, dOr, dAndV, dOrV, dNotV, dIfE, dCB, dNil, dCons, dTup, dLst, dLstO, dCall, dMake, dFld, dSetF, dAsg, dgTup, dgCons, dgNil, dgN, dStore, dApp, dBM, dChain, dSl, dPart, dNoPart, dRaise, dEndB, gI2, gNeg, gAdd, gMul, gEqB, gIsB, gStr, gInt, gIsi, tyM, List.getElem?_cons_zero, List.getElem?_cons_succ, List.set_cons_zero, List.set_cons_succ, Option.some.injEq, exists_eq_left', exists_eq_left, List.cons.injEq, and_true, true_and, D.bl.injEq, D.int.injEq, D.str.injEq, D.own.injEq, D.tup.injEq, List.length_cons, List.length_nil, if_true, if_false, Bool.false_eq_true, reduceIte, S_Own_init]
    refine ⟨_, _, rfl, ga5, _, _, _, ⟨rfl, rfl⟩, by decide +kernel, by decide, get_end _, ?_⟩
    rw [set_end]
    have gA := get_app [OD.ins c.Own [("by", D.str "loss"), ("cents", D.int 1)]] ga5
    refine ⟨_, gA, by omega, (B5.app _).setL gA, ⟨ps.map hwD, ?_, by rw [List.length_map]; omega⟩, get_setL gA (get_app _ gc5), get_setL gA (get_app _ gp5), by rw [List.length_set, List.length_append]; omega⟩
    rw [List.getElem?_set_ne nab]
    exact get_app _ gb5
  rintro _ L6 ⟨rfl, B6, ⟨zs, gb6, hz⟩, gc6, gp6, hL6⟩
  refine ⟨fun env L' => env = [some (.sq (ns.map .int)), some (.int h), some (.lst (xs.map .str)), some (.str nm), some (.int ct), some (.lst (ps.map hwD)), some (.lst (am.map .int)), some (.lst CL), some (.lst (am.map fun i => ownW "year" i)), some cond, some (.bl w), some (.lst [.own a, .own b]), some (.own kc), some (.own kp), none, none, none, none, none, none, none] ∧ Base c L' CL am cond (h / 9 % 3) nm ct ∧ L'[kc]? = some (.ins c.Cover (coverF c (.str nm) cond CL (ps.map (·.1)) (ps.map (·.2)) (.bl w))) ∧ L'[kp]? = some (.ins c.Cover (coverF c (.str nm) cond [] [nm] [1] (.bl false))) ∧ L.length ≤ L'.length, ?_, ?_⟩
  · try simp (config := { maxSteps := 2000000 }) only [dSeq, dNext, dSet, dRet, dRetN, dIf, dDrop, dVar, dC, dOp, dUn, dB, dNot, dAnd, dOr, dAndV, dOrV, dNotV, dIfE, dCB, dNil, dCons, dTup, dLst, dLstO, dCall, dMake, dFld, dSetF, dAsg, dgTup, dgCons, dgNil, dgN, dStore, dApp, dBM, dChain, dSl, dPart, dNoPart, dRaise, dEndB, gI2, gNeg, gAdd, gMul, gEqB, gIsB, gStr, gInt, gIsi, tyM, List.getElem?_cons_zero, List.getElem?_cons_succ, List.set_cons_zero, List.set_cons_succ, Option.some.injEq, exists_eq_left', exists_eq_left, List.cons.injEq, and_true, true_and, D.bl.injEq, D.int.injEq, D.str.injEq, D.own.injEq, D.tup.injEq, List.length_cons, List.length_nil, if_true, if_false, Bool.false_eq_true, reduceIte]
    refine gIx_lst rfl rfl ?_
    try simp (config := { maxSteps := 2000000 }) only [dSeq, dNext, dSet, dRet, dRetN, dIf, dDrop, dVar, dC, dOp, dUn, dB, dNot, dAnd, dOr, dAndV, dOrV, dNotV, dIfE, dCB, dNil, dCons, dTup, dLst, dLstO, dCall, dMake, dFld, dSetF, dAsg, dgTup, dgCons, dgNil, dgN, dStore, dApp, dBM, dChain, dSl, dPart, dNoPart, dRaise, dEndB, gI2, gNeg, gAdd, gMul, gEqB, gIsB, gStr, gInt, gIsi, tyM, List.getElem?_cons_zero, List.getElem?_cons_succ, List.set_cons_zero, List.set_cons_succ, Option.some.injEq, exists_eq_left', exists_eq_left, List.cons.injEq, and_true, true_and, D.bl.injEq, D.int.injEq, D.str.injEq, D.own.injEq, D.tup.injEq, List.length_cons, List.length_nil, if_true, if_false, Bool.false_eq_true, reduceIte]
    refine ⟨_, _, rfl, gb6, by decide, _, gb6, by omega, B6.setL gb6, get_setL gb6 gc6, get_setL gb6 gp6, by rw [List.length_set]; omega⟩
  rintro _ L7 ⟨rfl, B7, gc7, gp7, hL7⟩
  have ew : (am.map fun i => ownW "year" i) = (am.map fun v => (("year" : Str), v)).map (fun p => ownW p.1 p.2) := by rw [List.map_map]; rfl
  have nm8 : nm.length ≤ 8 := by
    unfold nameS at nm1
    rw [Bool.and_eq_true, Bool.and_eq_true] at nm1
    exact of_decide_eq_true nm1.1.2
  refine ⟨fun env L' => env = [some (.sq (ns.map .int)), some (.int h), some (.lst (xs.map .str)), some (.str nm), some (.int ct), some (.lst (ps.map hwD)), some (.lst (am.map .int)), some (.lst CL), some (.lst (am.map fun i => ownW "year" i)), some cond, some (.bl w), some (.lst [.own a, .own b]), some (.own kc), some (.own kp), none, none, none, none, none, none, none] ∧ L7 = L', ?_, ?_⟩
  · try simp (config := { maxSteps := 2000000 }) only [dSeq, dNext, dSet, dRet, dRetN, dIf, dDrop, dVar, dC, dOp, dUn, dB, dNot, dAnd, dOr, dAndV, dOrV, dNotV, dIfE, dCB, dNil, dCons, dTup, dLst, dLstO, dCall, dMake, dFld, dSetF, dAsg, dgTup, dgCons, dgNil, dgN, dStore, dApp, dBM, dChain, dSl, dPart, dNoPart, dRaise, dEndB, gI2, gNeg, gAdd, gMul, gEqB, gIsB, gStr, gInt, gIsi, tyM, List.getElem?_cons_zero, List.getElem?_cons_succ, List.set_cons_zero, List.set_cons_succ, Option.some.injEq, exists_eq_left', exists_eq_left, List.cons.injEq, and_true, true_and, D.bl.injEq, D.int.injEq, D.str.injEq, D.own.injEq, D.tup.injEq, List.length_cons, List.length_nil, if_true, if_false, Bool.false_eq_true, reduceIte]
    refine ⟨_, cond, nm, CL, am.map fun v => (("year" : Str), v), [], ps, w, by rw [ew], ins_own gc7, H, nm8, by rw [List.length_map]; exact am8, by rw [List.length_map]; exact hCl, fun i d p h1 h2 => ?_, ?_⟩
    · rw [List.getElem?_map] at h2
      cases ev : am[i]? with
      | none => rw [ev] at h2; cases h2
      | some v =>
        rw [ev] at h2
        cases h2
        obtain ⟨k, rfl, hk⟩ := B7.own i d v h1 ev
        exact ⟨ins_own hk, okS_of _, amv v (List.mem_of_getElem? ev)⟩
    · refine ⟨_, rfl, ?_⟩
      rw [if_neg (by decide)]
      try simp (config := { maxSteps := 2000000 }) only [dSeq, dNext, dSet, dRet, dRetN, dIf, dDrop, dVar, dC, dOp, dUn, dB, dNot, dAnd, dOr, dAndV, dOrV, dNotV, dIfE, dCB, dNil, dCons, dTup, dLst, dLstO, dCall, dMake, dFld, dSetF, dAsg, dgTup, dgCons, dgNil, dgN, dStore, dApp, dBM, dChain, dSl, dPart, dNoPart, dRaise, dEndB, gI2, gNeg, gAdd, gMul, gEqB, gIsB, gStr, gInt, gIsi, tyM, List.getElem?_cons_zero, List.getElem?_cons_succ, List.set_cons_zero, List.set_cons_succ, Option.some.injEq, exists_eq_left', exists_eq_left, List.cons.injEq, and_true, true_and, D.bl.injEq, D.int.injEq, D.str.injEq, D.own.injEq, D.tup.injEq, List.length_cons, List.length_nil, if_true, if_false, Bool.false_eq_true, reduceIte]
      refine ⟨by decide, by decide, by decide, ?_⟩
      refine ⟨_, cond, nm, [], [], [], [(nm, 1)], false, rfl, ins_own gp7, H1, nm8, by decide, rfl, fun i d p h1 => by simp at h1, ?_⟩
      refine ⟨_, rfl, ?_⟩
      rw [if_neg (by decide)]
  rintro _ _ ⟨rfl, rfl⟩
  refine ⟨fun env L' => env = [some (.sq (ns.map .int)), some (.int h), some (.lst (xs.map .str)), some (.str nm), some (.int ct), some (.lst (ps.map hwD)), some (.lst (am.map .int)), some (.lst CL), some (.lst (am.map fun i => ownW "year" i)), some cond, some (.bl w), some (.lst [.own a, .own b]), some (.own kc), some (.own kp), none, none, none, none, none, none, none] ∧ L7 = L', ?_, ?_⟩
  · try simp (config := { maxSteps := 2000000 }) only [dSeq, dNext, dSet, dRet, dRetN, dIf, dDrop, dVar, dC, dOp, dUn, dB, dNot, dAnd, dOr, dAndV, dOrV, dNotV, dIfE, dCB, dNil, dCons, dTup, dLst, dLstO, dCall, dMake, dFld, dSetF, dAsg, dgTup, dgCons, dgNil, dgN, dStore, dApp, dBM, dChain, dSl, dPart, dNoPart, dRaise, dEndB, gI2, gNeg, gAdd, gMul, gIsB, gStr, gInt, gIsi, tyM, List.getElem?_cons_zero, List.getElem?_cons_succ, List.set_cons_zero, List.set_cons_succ, Option.some.injEq, exists_eq_left', exists_eq_left, List.cons.injEq, and_true, true_and, D.bl.injEq, D.int.injEq, D.str.injEq, D.own.injEq, D.tup.injEq, List.length_cons, List.length_nil, if_true, if_false, Bool.false_eq_true, reduceIte, dMeth]
    have hnm := ok_name nm1
    rcases B7.at_ with ⟨_, hi⟩ | ⟨_, hi⟩ | ⟨_, hi⟩
    · have hd : Dat 1 (.lst [.str "cause", .str nm]) (.list [.str "cause", .str nm]) := .lst (.cons (.str _ (okS_of _)) (.cons (.str _ hnm) .nil))
      refine ⟨c.Cover, _, _, ins_own gc7, T.f_Cover_condition, rfl, c.CauseIs, _, _, hi, .inr (.inl ⟨rfl, rfl⟩), rfl, _, _, rfl, hi, c.CauseIs, _, _, hi, .inr (.inl ⟨rfl, rfl⟩), rfl, _, _, rfl, hi, ?_⟩
      refine gEq_same hd (by decide) ⟨_, rfl, ?_⟩
      rw [if_neg (by decide)]
      refine ⟨c.Cover, _, _, ins_own gp7, T.f_Cover_condition, rfl, c.CauseIs, _, _, hi, .inr (.inl ⟨rfl, rfl⟩), rfl, _, _, rfl, hi, c.CauseIs, _, _, hi, .inr (.inl ⟨rfl, rfl⟩), rfl, _, _, rfl, hi, ?_⟩
      refine gEq_same hd (by decide) ⟨_, rfl, ?_⟩
      rw [if_neg (by decide)]
    · have hd : Dat 1 (.lst [.str "thing", .str nm]) (.list [.str "thing", .str nm]) := .lst (.cons (.str _ (okS_of _)) (.cons (.str _ hnm) .nil))
      refine ⟨c.Cover, _, _, ins_own gc7, T.f_Cover_condition, rfl, c.ThingIs, _, _, hi, .inr (.inr (.inl ⟨rfl, rfl⟩)), rfl, _, _, rfl, hi, c.ThingIs, _, _, hi, .inr (.inr (.inl ⟨rfl, rfl⟩)), rfl, _, _, rfl, hi, ?_⟩
      refine gEq_same hd (by decide) ⟨_, rfl, ?_⟩
      rw [if_neg (by decide)]
      refine ⟨c.Cover, _, _, ins_own gp7, T.f_Cover_condition, rfl, c.ThingIs, _, _, hi, .inr (.inr (.inl ⟨rfl, rfl⟩)), rfl, _, _, rfl, hi, c.ThingIs, _, _, hi, .inr (.inr (.inl ⟨rfl, rfl⟩)), rfl, _, _, rfl, hi, ?_⟩
      refine gEq_same hd (by decide) ⟨_, rfl, ?_⟩
      rw [if_neg (by decide)]
    · have hd : Dat 1 (.lst [.str "over", .str (showC ct)]) (.list [.str "over", .str (showC ct)]) := .lst (.cons (.str _ (okS_of _)) (.cons (.str _ (ok_showC _)) .nil))
      have hct : 0 ≤ ct ∧ ct ≤ 999999999999 := by omega
      refine ⟨c.Cover, _, _, ins_own gc7, T.f_Cover_condition, rfl, c.Over, _, _, hi, .inr (.inr (.inr ⟨rfl, rfl⟩)), rfl, _, _, rfl, hi, hct, c.Over, _, _, hi, .inr (.inr (.inr ⟨rfl, rfl⟩)), rfl, _, _, rfl, hi, hct, ?_⟩
      refine gEq_same hd (by decide) ⟨_, rfl, ?_⟩
      rw [if_neg (by decide)]
      refine ⟨c.Cover, _, _, ins_own gp7, T.f_Cover_condition, rfl, c.Over, _, _, hi, .inr (.inr (.inr ⟨rfl, rfl⟩)), rfl, _, _, rfl, hi, hct, c.Over, _, _, hi, .inr (.inr (.inr ⟨rfl, rfl⟩)), rfl, _, _, rfl, hi, hct, ?_⟩
      refine gEq_same hd (by decide) ⟨_, rfl, ?_⟩
      rw [if_neg (by decide)]
  rintro _ _ ⟨rfl, rfl⟩
  refine ⟨fun env L' => env = [some (.sq (ns.map .int)), some (.int h), some (.lst (xs.map .str)), some (.str nm), some (.int ct), some (.lst (ps.map hwD)), some (.lst (am.map .int)), some (.lst CL), some (.lst (am.map fun i => ownW "year" i)), some cond, some (.bl w), some (.lst [.own a, .own b]), some (.own kc), some (.own kp), none, none, none, none, none, none, none] ∧ L7 = L', ?_, ?_⟩
  · try simp (config := { maxSteps := 2000000 }) only [dSeq, dNext, dSet, dRet, dRetN, dIf, dDrop, dVar, dC, dOp, dUn, dB, dNot, dAnd, dOr, dAndV, dOrV, dNotV, dIfE, dCB, dNil, dCons, dTup, dLst, dLstO, dCall, dMake, dFld, dSetF, dAsg, dgTup, dgCons, dgNil, dgN, dStore, dApp, dBM, dChain, dSl, dPart, dNoPart, dRaise, dEndB, gI2, gNeg, gAdd, gMul, gEqB, gIsB, gStr, gInt, gIsi, tyM, List.getElem?_cons_zero, List.getElem?_cons_succ, List.set_cons_zero, List.set_cons_succ, Option.some.injEq, exists_eq_left', exists_eq_left, List.cons.injEq, and_true, true_and, D.bl.injEq, D.int.injEq, D.str.injEq, D.own.injEq, D.tup.injEq, List.length_cons, List.length_nil, if_true, if_false, Bool.false_eq_true, reduceIte]
    refine ⟨by decide, by decide, _, _, cond, _, nm, ct, rfl, ins_own gc7, rfl, rfl, B7.at_, _, rfl, ?_⟩
    rw [if_neg (by decide)]
    try simp (config := { maxSteps := 2000000 }) only [dSeq, dNext, dSet, dRet, dRetN, dIf, dDrop, dVar, dC, dOp, dUn, dB, dNot, dAnd, dOr, dAndV, dOrV, dNotV, dIfE, dCB, dNil, dCons, dTup, dLst, dLstO, dCall, dMake, dFld, dSetF, dAsg, dgTup, dgCons, dgNil, dgN, dStore, dApp, dBM, dChain, dSl, dPart, dNoPart, dRaise, dEndB, gI2, gNeg, gAdd, gMul, gEqB, gIsB, gStr, gInt, gIsi, tyM, List.getElem?_cons_zero, List.getElem?_cons_succ, List.set_cons_zero, List.set_cons_succ, Option.some.injEq, exists_eq_left', exists_eq_left, List.cons.injEq, and_true, true_and, D.bl.injEq, D.int.injEq, D.str.injEq, D.own.injEq, D.tup.injEq, List.length_cons, List.length_nil, if_true, if_false, Bool.false_eq_true, reduceIte]
    refine ⟨by decide, by decide, _, _, cond, _, nm, ct, rfl, ins_own gp7, rfl, rfl, B7.at_, _, rfl, ?_⟩
    rw [if_neg (by decide)]
  rintro _ _ ⟨rfl, rfl⟩
  refine ⟨fun env L' => (∃ o14 o15 o16 o17 o18 o19, env = [some (.sq (ns.map .int)), some (.int h), some (.lst (xs.map .str)), some (.str nm), some (.int ct), some (.lst (ps.map hwD)), some (.lst (am.map .int)), some (.lst CL), some (.lst (am.map fun i => ownW "year" i)), some cond, some (.bl w), some (.lst [.own a, .own b]), some (.own kc), some (.own kp), o14, o15, o16, o17, o18, o19, none]) ∧ Base c L' CL am cond (h / 9 % 3) nm ct ∧ L.length ≤ L'.length, ?_, ?_⟩
  · refine ⟨6, rfl, by decide, fun k env L' => (∃ o14 o15 o16 o17 o18 o19, env = [some (.sq (ns.map .int)), some (.int h), some (.lst (xs.map .str)), some (.str nm), some (.int ct), some (.lst (ps.map hwD)), some (.lst (am.map .int)), some (.lst CL), some (.lst (am.map fun i => ownW "year" i)), some cond, some (.bl w), some (.lst [.own a, .own b]), some (.own kc), some (.own kp), o14, o15, o16, o17, o18, o19, none]) ∧ Base c L' CL am cond (h / 9 % 3) nm ct ∧ L.length ≤ L'.length, ⟨⟨_, _, _, _, _, _, rfl⟩, B7, hL7⟩, fun _ _ _ _ => trivial, ?_, fun env L' h => h⟩
    rintro k env L8 x hk hx ⟨⟨o14, o15, o16, o17, o18, o19, rfl⟩, B8, hL8⟩
    obtain rfl : D.int (0 + (k : Int)) = x := Option.some.inj hx
    rw [Int.zero_add]
    have hk' : k < 6 := hk
    try simp (config := { maxSteps := 2000000 }) only [dSeq, dNext, dSet, dRet, dRetN, dIf, dDrop, dVar, dC, dOp, dUn, dB, dNot, dAnd, dOr, dAndV, dOrV, dNotV, dIfE, dCB, dNil, dCons, dTup, dLst, dLstO, dCall, dMake, dFld, dSetF, dAsg, dgTup, dgCons, dgNil, dgN, dStore, dApp, dBM, dChain, dSl, dPart, dNoPart, dRaise, dEndB, gI2, gNeg, gAdd, gMul, gIsB, gStr, gInt, gIsi, tyM, List.getElem?_cons_zero, List.getElem?_cons_succ, List.set_cons_zero, List.set_cons_succ, Option.some.injEq, exists_eq_left', exists_eq_left, List.cons.injEq, and_true, true_and, D.bl.injEq, D.int.injEq, D.str.injEq, D.own.injEq, D.tup.injEq, List.length_cons, List.length_nil, if_true, if_false, Bool.false_eq_true, reduceIte, S_l_cell]
    refine ⟨ns, 13 + k, ⟨rfl, by omega⟩, hn, by omega, ⟨by decide, by decide, by decide⟩, by show (0 : Int) < 10 ^ Int.toNat 12; decide, ?_⟩
    have e1 := Int.emod_nonneg (cellI ns (13 + k)) (b := 10 ^ Int.toNat 12) (by decide)
    have e2 := Int.emod_lt_of_pos (cellI ns (13 + k)) (b := 10 ^ Int.toNat 12) (by decide)
    have e3 : (10 : Int) ^ Int.toNat 12 = 1000000000000 := by decide
    refine ⟨ps, k, _, rfl, H, by omega, by omega, fun bs Bd => ?_⟩
    refine ⟨by decide, ?_⟩
    have hdue : ([D.int 1, D.int 1, D.int 2, D.int 2, D.int 2, D.int 1])[k]? = some (D.int ((if (k : Int) = 0 ∨ (k : Int) = 1 ∨ (k : Int) = 5 then 1 else 2 : Nat) : Int)) := by
      match k, hk' with
      | 0, _ => rfl
      | 1, _ => rfl
      | 2, _ => rfl
      | 3, _ => rfl
      | 4, _ => rfl
      | 5, _ => rfl
    refine gIx_lst rfl (at_nat hdue) ?_
    have hbl : bs.length ≤ 1000 := by have := Bd.len; omega
    have hcv := Bd.due nm
    refine ⟨.str nm, .lst CL, _, CL, bs, rfl, okH_name nm1 _, .inr ⟨rfl, rfl⟩, .inr ⟨rfl, rfl, rfl⟩, by omega, hbl, Bd.h _, B8.shut, ?_⟩
    rw [Bd.due nm CL.length nm1 nm2 am8']
    refine gEq_same (.int (n := 1) _) (by decide) ⟨_, rfl, ?_⟩
    rw [if_neg (by decide)]
    refine ⟨.str nm, .non, _, [], bs, rfl, okH_name nm1 _, .inl ⟨rfl, rfl⟩, .inr ⟨rfl, rfl, rfl⟩, by decide, hbl, Bd.h _, fun _ h => (nomatch h), ?_⟩
    rw [show ([] : List D).length = 0 from rfl, Bd.due nm 0 nm1 nm2 (by decide)]
    refine gEq_same (.int (n := 1) _) (by decide) ⟨_, rfl, ?_⟩
    rw [if_neg (by decide)]
    refine ⟨by decide, by decide, by show (0 : Int) < 10; decide, ?_⟩
    obtain ⟨m1, m2⟩ := mod_nat (i := cellI ns (13 + k) % 10 ^ Int.toNat 12) (n := 10) (by decide)
    have m1' : cellI ns (13 + k) % 10 ^ Int.toNat 12 % 10 = ((cellI ns (13 + k) % 10 ^ Int.toNat 12 % 10).toNat : Int) := m1
    have m2' : (cellI ns (13 + k) % 10 ^ Int.toNat 12 % 10).toNat < odds2.length := m2
    show gIx (D.lst odds2) (D.int (cellI ns (13 + k) % 10 ^ Int.toNat 12 % 10)) L8 _
    rw [m1']
    refine gIx_lst rfl (at_nat (List.getElem?_eq_getElem m2')) ?_
    obtain ⟨od1, od2⟩ := odds2_ok _ (List.getElem_mem m2')
    generalize odds2[(cellI ns (13 + k) % 10 ^ Int.toNat 12 % 10).toNat] = od at od1 od2 ⊢
    refine ⟨_, _, _, rfl, by decide +kernel, by decide, get_end _, ?_⟩
    rw [set_end]
    refine ⟨rfl, by decide, ?_⟩
    refine gLen_lst rfl ?_
    refine ⟨trivial, ?_⟩
    have h9 : 0 ≤ (9 : Int) - CL.length ∧ (9 : Int) - CL.length ≤ 9 := by omega
    have B9 := B8.app [OD.ins c.Own [("by", D.str "loss"), ("cents", D.int 1)]]
    refine ⟨[.own L8.length], rfl, by omega, by show 1 * _ ≤ _; omega, CL, (List.replicate ((9 : Int) - CL.length).toNat [D.own L8.length]).flatten, rfl, rfl, by simp; omega, ?_⟩
    refine ⟨od, .lst CL, .lst (ps.map hwD), CL, ps.map encP, rfl, od2 _, .inr ⟨rfl, rfl⟩, .inr ⟨rfl, by rw [enc_pair]; rfl, rfl⟩, by omega, by rw [List.length_map]; omega, enc_ok H _, B9.shut, ?_⟩
    rw [cover_odd od1]
    refine gEq_same (d := .int 1) (.int (n := 1) _) (by decide) ⟨_, rfl, ?_⟩
    rw [if_neg (by decide)]
    refine ⟨od, .non, _, [], bs, rfl, od2 _, .inl ⟨rfl, rfl⟩, .inr ⟨rfl, rfl, rfl⟩, by decide, hbl, Bd.h _, fun _ h => (nomatch h), ?_⟩
    rw [cover_odd od1]
    refine gEq_same (d := .int 1) (.int (n := 1) _) (by decide) ⟨_, rfl, ?_⟩
    rw [if_neg (by decide)]
    have hnl : (CL ++ (List.replicate ((9 : Int) - CL.length).toNat [D.own L8.length]).flatten).length = 9 := by simp; omega
    have hns : ∀ x ∈ CL ++ (List.replicate ((9 : Int) - CL.length).toNat [D.own L8.length]).flatten, Shut (L8 ++ [OD.ins c.Own [("by", D.str "loss"), ("cents", D.int 1)]]).length x := fun x hx => by
      rcases List.mem_append.mp hx with z | z
      · exact B9.shut x z
      · obtain ⟨l, hl1, hl2⟩ := List.mem_flatten.mp z
        rw [(List.mem_replicate.mp hl1).2, List.mem_singleton] at hl2
        rw [hl2]
        exact .own (by simp)
    refine ⟨.str nm, _, .lst (ps.map hwD), _, ps.map encP, rfl, okH_name nm1 _, .inr ⟨rfl, rfl⟩, .inr ⟨rfl, by rw [enc_pair]; rfl, rfl⟩, by rw [hnl]; decide, by rw [List.length_map]; omega, enc_ok H _, hns, ?_⟩
    rw [hnl, cover_nine]
    refine gEq_same (d := .int 1) (.int (n := 1) _) (by decide) ⟨_, rfl, ?_⟩
    rw [if_neg (by decide)]
    refine ⟨.str nm, _, _, _, bs, rfl, okH_name nm1 _, .inr ⟨rfl, rfl⟩, .inr ⟨rfl, rfl, rfl⟩, by rw [hnl]; decide, hbl, Bd.h _, hns, ?_⟩
    rw [hnl, cover_nine]
    refine gEq_same (d := .int 1) (.int (n := 1) _) (by decide) ⟨_, rfl, ?_⟩
    rw [if_neg (by decide)]
    exact ⟨⟨_, _, _, _, _, _, rfl, rfl, rfl, rfl, rfl, rfl⟩, B9, by rw [List.length_append]; omega⟩
  rintro _ L8 ⟨⟨o14, o15, o16, o17, o18, o19, rfl⟩, B8, hL8⟩
  try simp (config := { maxSteps := 2000000 }) only [dSeq, dNext, dSet, dRet, dRetN, dIf, dDrop, dVar, dC, dOp, dUn, dB, dNot, dAnd, dOr, dAndV, dOrV, dNotV, dIfE, dCB, dNil, dCons, dTup, dLst, dLstO, dCall, dMake, dFld, dSetF, dAsg, dgTup, dgCons, dgNil, dgN, dStore, dApp, dBM, dChain, dSl, dPart, dNoPart, dRaise, dEndB, gI2, gNeg, gAdd, gMul, gEqB, gIsB, gStr, gInt, gIsi, tyM, List.getElem?_cons_zero, List.getElem?_cons_succ, List.set_cons_zero, List.set_cons_succ, Option.some.injEq, exists_eq_left', exists_eq_left, List.cons.injEq, and_true, true_and, D.bl.injEq, D.int.injEq, D.str.injEq, D.own.injEq, D.tup.injEq, List.length_cons, List.length_nil, if_true, if_false, Bool.false_eq_true, reduceIte]
  refine ⟨.str nm, .lst CL, .lst (ps.map hwD), CL, ps.map encP, rfl, okH_name nm1 _, .inr ⟨rfl, rfl⟩, .inr ⟨rfl, by rw [enc_pair]; rfl, rfl⟩, by omega, by rw [List.length_map]; omega, enc_ok H _, B8.shut, ?_⟩
  rw [H.cov nm1 nm2 am8']
  exact bk_all hL8 q
end
end K38
set_option Elab.async false
set_option linter.all false
set_option maxRecDepth 100000
set_option maxHeartbeats 2000000
namespace K38
open PySem PySem.Spec PyProof.Rows L2 DL

section
variable {P : Program} {w : World} {K : PySem.W.Frag} {mg : Str → Option Value} {base : Heap} {c : Cs}
theorem sc_is_whole : FnScope ["thing"] ["thing"] (defScope s_is_whole) := ⟨rfl, rfl, rfl, by decide +kernel, rfl, by decide +kernel, by decide +kernel⟩
theorem w_is_whole (T : Txt K mg c) 
    (r : ∀ ds L Q X, (S_is_whole c) ds L Q X → rd_is_whole K c (dEndB L Q X) (startD ["thing"] ds) L) (hl : ∀ ds L Q X, (S_is_whole c) ds L Q X → ds.length = 1) : FnD P w K mg base 1 "is_whole" ["thing"] (S_is_whole c) := by
  have sc := sc_is_whole
  exact fn_mkB T.d_is_whole (fun _ _ _ _ _ _ us hl => match us, hl with | [_], _ => rfl) sc hl fun f cdv A outer s H E Z bd => ⟨rd_is_whole K c, (ds_one (ds_ret (de_and (de_isi T.z_isinstance (da_cons (de_v 0 (pv 0)) (da_cons (de_ty T.z_int (by decide +kernel)) da_nil))) (de_one (de_not (de_isi T.z_isinstance (da_cons (de_v 0 (pv 0)) (da_cons (de_ty T.z_bool (by decide +kernel)) da_nil)))))))), r⟩
theorem sc_show_cents : FnScope ["cents", "whole", "part"] ["cents"] (defScope s_show_cents) := ⟨rfl, rfl, rfl, by decide +kernel, rfl, by decide +kernel, by decide +kernel⟩
theorem w_show_cents (T : Txt K mg c) 
    (r : ∀ ds L Q X, (S_show_cents c) ds L Q X → rd_show_cents K c (dEndB L Q X) (startD ["cents", "whole", "part"] ds) L) (hl : ∀ ds L Q X, (S_show_cents c) ds L Q X → ds.length = 1) : FnD P w K mg base 1 "show_cents" ["cents"] (S_show_cents c) := by
  have sc := sc_show_cents
  exact fn_mkB T.d_show_cents (fun _ _ _ _ _ _ us hl => match us, hl with | [_], _ => rfl) sc hl fun f cdv A outer s H E Z bd => ⟨rd_show_cents K c, (ds_cons (ds_asg (de_divmod T.z_divmod (da_cons (de_v 0 (pv 0)) (da_cons de_int da_nil))) (dg_tup bd.calm (dgs_cons (dg_n 1 sc.nd) (dgs_cons (dg_n 2 sc.nd) dgs_nil))))
    (ds_one (ds_ret (de_add (de_add (de_str1 T.z_str (da_cons (de_v 1 (pv 1)) da_nil)) de_str) (de_zfill (de_str1 T.z_str (da_cons (de_v 2 (pv 2)) da_nil)) (da_cons de_int da_nil)))))), r⟩
theorem sc_is_name : FnScope ["thing", "sign"] ["thing"] (defScope s_is_name) := ⟨rfl, rfl, rfl, by decide +kernel, rfl, by decide +kernel, by decide +kernel⟩
theorem w_is_name (T : Txt K mg c) 
    (r : ∀ ds L Q X, (S_is_name c) ds L Q X → rd_is_name K c (dEndB L Q X) (startD ["thing", "sign"] ds) L) (hl : ∀ ds L Q X, (S_is_name c) ds L Q X → ds.length = 1) : FnD P w K mg base 1 "is_name" ["thing"] (S_is_name c) := by
  have sc := sc_is_name
  exact fn_mkB T.d_is_name (fun _ _ _ _ _ _ us hl => match us, hl with | [_], _ => rfl) sc hl fun f cdv A outer s H E Z bd => ⟨rd_is_name K c, (ds_cons (ds_if (dt_not (dt_val (de_isi T.z_isinstance (da_cons (de_v 0 (pv 0)) (da_cons (de_ty T.z_str (by decide +kernel)) da_nil))))) (ds_one (ds_ret de_bl)) ds_nil)
    (ds_cons (ds_if (dt_w (dw_or (dt_lt (de_len T.z_len (da_cons (de_v 0 (pv 0)) da_nil)) de_int) (dw_or1 (dt_gt (de_len T.z_len (da_cons (de_v 0 (pv 0)) da_nil)) de_int)))) (ds_one (ds_ret de_bl)) ds_nil)
    (ds_cons (ds_for bd (di_s (de_v 0 (pv 0))) (dg_n 1 sc.nd) (ds_one (ds_if (dt_notin (de_v 1 (pv 1)) (de_gstr T.k_LETTERS)) (ds_one (ds_ret de_bl)) ds_nil)))
    (ds_one (ds_ret de_bl))))), r⟩
theorem sc_is_amount : FnScope ["thing"] ["thing"] (defScope s_is_amount) := ⟨rfl, rfl, rfl, by decide +kernel, rfl, by decide +kernel, by decide +kernel⟩
theorem w_is_amount (T : Txt K mg c) (F_is_whole : FnD P w K mg base 1 "is_whole" ["thing"] (S_is_whole c))
    (r : ∀ ds L Q X, (S_is_amount c) ds L Q X → rd_is_amount K c (dEndB L Q X) (startD ["thing"] ds) L) (hl : ∀ ds L Q X, (S_is_amount c) ds L Q X → ds.length = 1) : FnD P w K mg base 2 "is_amount" ["thing"] (S_is_amount c) := by
  have sc := sc_is_amount
  exact fn_mkB T.d_is_amount (fun _ _ _ _ _ _ us hl => match us, hl with | [_], _ => rfl) sc hl fun f cdv A outer s H E Z bd => ⟨rd_is_amount K c, (ds_one (ds_ret (de_and (de_call F_is_whole (bd.hr.mono (by decide)) bd.tk (da_cons (de_v 0 (pv 0)) da_nil)) (de_one (de_chain op_le op_le dop_B0 dop_B0 de_int (de_v 0 (pv 0)) (de_gint T.k_MOST_CENTS)))))), r⟩
theorem sc_total_of : FnScope ["weights", "weight", "total"] ["weights"] (defScope s_total_of) := ⟨rfl, rfl, rfl, by decide +kernel, rfl, by decide +kernel, by decide +kernel⟩
theorem w_total_of (T : Txt K mg c) (F_is_whole : FnD P w K mg base 1 "is_whole" ["thing"] (S_is_whole c))
    (r : ∀ ds L Q X, (S_total_of c) ds L Q X → rd_total_of K c (dEndB L Q X) (startD ["weights", "weight", "total"] ds) L) (hl : ∀ ds L Q X, (S_total_of c) ds L Q X → ds.length = 1) : FnD P w K mg base 2 "total_of" ["weights"] (S_total_of c) := by
  have sc := sc_total_of
  exact fn_mkB T.d_total_of (fun _ _ _ _ _ _ us hl => match us, hl with | [_], _ => rfl) sc hl fun f cdv A outer s H E Z bd => ⟨rd_total_of K c, (ds_cons (ds_if (dt_not (dt_val (de_isi T.z_isinstance (da_cons (de_v 0 (pv 0)) (da_cons (de_ty T.z_list (by decide +kernel)) da_nil))))) (ds_one (ds_raise bd T.e_NoShares)) ds_nil)
    (ds_cons (ds_if (dt_w (dw_or (dt_lt (de_len T.z_len (da_cons (de_v 0 (pv 0)) da_nil)) de_int) (dw_or1 (dt_gt (de_len T.z_len (da_cons (de_v 0 (pv 0)) da_nil)) (de_gint T.k_MOST_PLACES))))) (ds_one (ds_raise bd T.e_NoShares)) ds_nil)
    (ds_cons (ds_for bd (di_l (de_v 0 (pv 0))) (dg_n 1 sc.nd) (ds_one (ds_if (dt_w (dw_or (dt_not (dt_val (de_call F_is_whole (bd.hr.mono (by decide)) bd.tk (da_cons (de_v 1 (pv 1)) da_nil)))) (dw_or1 (dt_lt (de_v 1 (pv 1)) de_int)))) (ds_one (ds_raise bd T.e_NoShares)) ds_nil)))
    (ds_cons (ds_set 2 sc.nd (de_sum bd T.z_sum (da_cons (de_v 0 (pv 0)) da_nil)))
    (ds_cons (ds_if (dt_gt (de_v 2 (pv 2)) (de_gint T.k_MOST_TURNS)) (ds_one (ds_raise bd T.e_NoShares)) ds_nil)
    (ds_one (ds_ret (de_v 2 (pv 2))))))))), r⟩
theorem sc_due_by : FnScope ["given", "weight", "total"] ["given", "weight", "total"] (defScope s_due_by) := ⟨rfl, rfl, rfl, by decide +kernel, rfl, by decide +kernel, by decide +kernel⟩
theorem w_due_by (T : Txt K mg c) 
    (r : ∀ ds L Q X, (S_due_by c) ds L Q X → rd_due_by K c (dEndB L Q X) (startD ["given", "weight", "total"] ds) L) (hl : ∀ ds L Q X, (S_due_by c) ds L Q X → ds.length = 3) : FnD P w K mg base 1 "due_by" ["given", "weight", "total"] (S_due_by c) := by
  have sc := sc_due_by
  exact fn_mkB T.d_due_by (fun _ _ _ _ _ _ us hl => match us, hl with | [_, _, _], _ => rfl) sc hl fun f cdv A outer s H E Z bd => ⟨rd_due_by K c, (ds_one (ds_ret (de_neg (de_div (de_mul (de_neg (de_add (de_v 0 (pv 0)) de_int)) (de_v 2 (pv 2))) (de_v 1 (pv 1)))))), r⟩
theorem sc_next_place : FnScope ["weights", "given", "total", "n", "best", "soonest", "place", "due"] ["weights", "given", "total", "n"] (defScope s_next_place) := ⟨rfl, rfl, rfl, by decide +kernel, rfl, by decide +kernel, by decide +kernel⟩
theorem w_next_place (T : Txt K mg c) (F_due_by : FnD P w K mg base 1 "due_by" ["given", "weight", "total"] (S_due_by c))
    (r : ∀ ds L Q X, (S_next_place c) ds L Q X → rd_next_place K c (dEndB L Q X) (startD ["weights", "given", "total", "n", "best", "soonest", "place", "due"] ds) L) (hl : ∀ ds L Q X, (S_next_place c) ds L Q X → ds.length = 4) : FnD P w K mg base 2 "next_place" ["weights", "given", "total", "n"] (S_next_place c) := by
  have sc := sc_next_place
  exact fn_mkB T.d_next_place (fun _ _ _ _ _ _ us hl => match us, hl with | [_, _, _, _], _ => rfl) sc hl fun f cdv A outer s H E Z bd => ⟨rd_next_place K c, (ds_cons (ds_set 4 sc.nd de_non)
    (ds_cons (ds_set 5 sc.nd de_int)
    (ds_cons (ds_for bd (di_r1 T.z_range (da_cons (de_len T.z_len (da_cons (de_v 0 (pv 0)) da_nil)) da_nil)) (dg_n 6 sc.nd) (ds_one (ds_if (dt_lt (de_mul (de_ix (de_v 1 (pv 1)) (de_v 6 (pv 6))) (de_v 2 (pv 2))) (de_mul (de_ix (de_v 0 (pv 0)) (de_v 6 (pv 6))) (de_add (de_v 3 (pv 3)) de_int))) (ds_cons (ds_set 7 sc.nd (de_call F_due_by (bd.hr.mono (by decide)) bd.tk (da_cons (de_ix (de_v 1 (pv 1)) (de_v 6 (pv 6))) (da_cons (de_ix (de_v 0 (pv 0)) (de_v 6 (pv 6))) (da_cons (de_v 2 (pv 2)) da_nil)))))
    (ds_one (ds_if (dt_w (dw_or (dt_is (de_v 4 (pv 4)) de_non) (dw_or1 (dt_lt (de_v 7 (pv 7)) (de_v 5 (pv 5)))))) (ds_cons (ds_set 4 sc.nd (de_v 6 (pv 6)))
    (ds_one (ds_set 5 sc.nd (de_v 7 (pv 7))))) ds_nil))) ds_nil)))
    (ds_one (ds_ret (de_v 4 (pv 4))))))), r⟩
theorem sc_turns : FnScope ["weights", "total", "given", "wheel", "n", "place", "weight"] ["weights"] (defScope s_turns) := ⟨rfl, rfl, rfl, by decide +kernel, rfl, by decide +kernel, by decide +kernel⟩
theorem w_turns (T : Txt K mg c) (F_next_place : FnD P w K mg base 2 "next_place" ["weights", "given", "total", "n"] (S_next_place c))
    (F_total_of : FnD P w K mg base 2 "total_of" ["weights"] (S_total_of c))
    (r : ∀ ds L Q X, (S_turns c) ds L Q X → rd_turns K c (dEndB L Q X) (startD ["weights", "total", "given", "wheel", "n", "place", "weight"] ds) L) (hl : ∀ ds L Q X, (S_turns c) ds L Q X → ds.length = 1) : FnD P w K mg base 3 "turns" ["weights"] (S_turns c) := by
  have sc := sc_turns
  exact fn_mkB T.d_turns (fun _ _ _ _ _ _ us hl => match us, hl with | [_], _ => rfl) sc hl fun f cdv A outer s H E Z bd => ⟨rd_turns K c, (ds_cons (ds_set 1 sc.nd (de_call F_total_of (bd.hr.mono (by decide)) bd.tk (da_cons (de_v 0 (pv 0)) da_nil)))
    (ds_cons (ds_setLcG fin_own (.one 6) 2 bd.calm sc.nd (di_l (de_v 0 (pv 0))) (own := [("weight", 6)]) (blkOk_by (N := ["weights", "total", "given", "wheel", "n", "place", "weight"]) (sc := defScope s_turns) (by decide +kernel)) (by decide) (fun _ _ _ _ _ => cg1 6 sc.nd) (fun _ _ _ _ _ _ => dts_nil) (fun _ _ _ _ _ _ => de_int) swap_yes)
    (ds_cons (ds_set 3 sc.nd (de_lstO da_nil))
    (ds_cons (ds_for bd (di_r1 T.z_range (da_cons (de_v 1 (pv 1)) da_nil)) (dg_n 4 sc.nd) (ds_cons (ds_set 5 sc.nd (de_call F_next_place (bd.hr.mono (by decide)) bd.tk (da_cons (de_v 0 (pv 0)) (da_cons (de_v 2 (pv 2)) (da_cons (de_v 1 (pv 1)) (da_cons (de_v 4 (pv 4)) da_nil))))))
    (ds_cons (ds_store (de_v 2 (pv 2)) (de_v 5 (pv 5)) (de_add (de_ix (de_v 2 (pv 2)) (de_v 5 (pv 5))) de_int))
    (ds_one (ds_expr (de_append (de_v 3 (pv 3)) (de_v 5 (pv 5))))))))
    (ds_one (ds_ret (de_v 3 (pv 3)))))))), r⟩
theorem sc_need_houses : FnScope ["pairs", "found", "house", "weight"] ["pairs"] (defScope s_need_houses) := ⟨rfl, rfl, rfl, by decide +kernel, rfl, by decide +kernel, by decide +kernel⟩
theorem w_need_houses (T : Txt K mg c) (F_is_name : FnD P w K mg base 1 "is_name" ["thing"] (S_is_name c))
    (r : ∀ ds L Q X, (S_need_houses c) ds L Q X → rd_need_houses K c (dEndB L Q X) (startD ["pairs", "found", "house", "weight"] ds) L) (hl : ∀ ds L Q X, (S_need_houses c) ds L Q X → ds.length = 1) : FnD P w K mg base 2 "need_houses" ["pairs"] (S_need_houses c) := by
  have sc := sc_need_houses
  exact fn_mkB T.d_need_houses (fun _ _ _ _ _ _ us hl => match us, hl with | [_], _ => rfl) sc hl fun f cdv A outer s H E Z bd => ⟨rd_need_houses K c, (ds_cons (ds_set 1 sc.nd (de_lstO da_nil))
    (ds_cons (ds_for bd (di_l (de_v 0 (pv 0))) (dg_tup bd.calm (dgs_cons (dg_n 2 sc.nd) (dgs_cons (dg_n 3 sc.nd) dgs_nil))) (ds_cons (ds_if (dt_w (dw_or (dt_not (dt_val (de_call F_is_name (bd.hr.mono (by decide)) bd.tk (da_cons (de_v 2 (pv 2)) da_nil)))) (dw_or1 (dt_in (de_v 2 (pv 2)) (de_v 1 (pv 1)))))) (ds_one (ds_raise bd T.e_NoCover)) ds_nil)
    (ds_one (ds_expr (de_append (de_v 1 (pv 1)) (de_v 2 (pv 2)))))))
    (ds_one (ds_ret (de_v 1 (pv 1)))))), r⟩
theorem sc_need_amount : FnScope ["thing"] ["thing"] (defScope s_need_amount) := ⟨rfl, rfl, rfl, by decide +kernel, rfl, by decide +kernel, by decide +kernel⟩
theorem w_need_amount (T : Txt K mg c) (F_is_amount : FnD P w K mg base 2 "is_amount" ["thing"] (S_is_amount c))
    (r : ∀ ds L Q X, (S_need_amount c) ds L Q X → rd_need_amount K c (dEndB L Q X) (startD ["thing"] ds) L) (hl : ∀ ds L Q X, (S_need_amount c) ds L Q X → ds.length = 1) : FnD P w K mg base 3 "need_amount" ["thing"] (S_need_amount c) := by
  have sc := sc_need_amount
  exact fn_mkB T.d_need_amount (fun _ _ _ _ _ _ us hl => match us, hl with | [_], _ => rfl) sc hl fun f cdv A outer s H E Z bd => ⟨rd_need_amount K c, (ds_cons (ds_if (dt_not (dt_val (de_call F_is_amount (bd.hr.mono (by decide)) bd.tk (da_cons (de_v 0 (pv 0)) da_nil)))) (ds_one (ds_raise bd T.e_NoClause)) ds_nil)
    (ds_one (ds_ret (de_v 0 (pv 0))))), r⟩
theorem sc_l_cell : FnScope ["_law_script", "_law_k"] ["_law_script", "_law_k"] (defScope s_l_cell) := ⟨rfl, rfl, rfl, by decide +kernel, rfl, by decide +kernel, by decide +kernel⟩
theorem w_l_cell (T : Txt K mg c) 
    (r : ∀ ds L Q X, (S_l_cell c) ds L Q X → rd_l_cell K c (dEndB L Q X) (startD ["_law_script", "_law_k"] ds) L) (hl : ∀ ds L Q X, (S_l_cell c) ds L Q X → ds.length = 2) : FnD P w K mg base 1 "_law_cell" ["_law_script", "_law_k"] (S_l_cell c) := by
  have sc := sc_l_cell
  exact fn_mkB T.d_l_cell (fun _ _ _ _ _ _ us hl => match us, hl with | [_, _], _ => rfl) sc hl fun f cdv A outer s H E Z bd => ⟨rd_l_cell K c, (ds_cons (ds_if (dt_lt (de_v 1 (pv 1)) (de_len T.z_len (da_cons (de_v 0 (pv 0)) da_nil))) (ds_one (ds_ret (de_ix (de_v 0 (pv 0)) (de_v 1 (pv 1))))) ds_nil)
    (ds_one (ds_ret de_int))), r⟩
theorem sc_l_names : FnScope ["_law_cell_here", "_law_letters", "_law_base", "_law_at", "_law_names_here", "_law_k", "_law_name", "_law_j"] ["_law_cell_here"] (defScope s_l_names) := ⟨rfl, rfl, rfl, by decide +kernel, rfl, by decide +kernel, by decide +kernel⟩
theorem w_l_names (T : Txt K mg c) 
    (r : ∀ ds L Q X, (S_l_names c) ds L Q X → rd_l_names K c (dEndB L Q X) (startD ["_law_cell_here", "_law_letters", "_law_base", "_law_at", "_law_names_here", "_law_k", "_law_name", "_law_j"] ds) L) (hl : ∀ ds L Q X, (S_l_names c) ds L Q X → ds.length = 1) : FnD P w K mg base 1 "_law_names" ["_law_cell_here"] (S_l_names c) := by
  have sc := sc_l_names
  exact fn_mkB T.d_l_names (fun _ _ _ _ _ _ us hl => match us, hl with | [_], _ => rfl) sc hl fun f cdv A outer s H E Z bd => ⟨rd_l_names K c, (ds_cut (ds_set 1 sc.nd de_str)
    (ds_cut (ds_setLcG fin_lst (.one 7) 2 bd.calm sc.nd (di_r1 T.z_range (da_cons (de_add de_int (de_mod (de_v 0 (pv 0)) de_int)) da_nil)) (own := [("_law_j", 7)]) (blkOk_by (N := ["_law_cell_here", "_law_letters", "_law_base", "_law_at", "_law_names_here", "_law_k", "_law_name", "_law_j"]) (sc := defScope s_l_names) (by decide +kernel)) (by decide) (fun _ _ _ _ _ => cg1 7 sc.nd) (fun _ _ _ _ _ _ => dts_nil) (fun _ _ _ _ _ _ => (de_mod (de_add (de_div (de_v 0 (pv 0)) (de_add (de_v 7 (pv 7)) de_int)) (de_mul (de_v 7 (pv 7)) (de_v 7 (pv 7)))) de_int)) swap_yes)
    (ds_cut (ds_set 3 sc.nd (de_mod (de_div (de_v 0 (pv 0)) de_int) (de_len T.z_len (da_cons (de_v 2 (pv 2)) da_nil))))
    (ds_cut (ds_set 4 sc.nd (de_lstO da_nil))
    (ds_cut (ds_for bd (di_r1 T.z_range (da_cons de_int da_nil)) (dg_n 5 sc.nd) (ds_cons (ds_set 6 sc.nd de_str)
    (ds_cons (ds_for bd (di_r1 T.z_range (da_cons (de_len T.z_len (da_cons (de_v 2 (pv 2)) da_nil)) da_nil)) (dg_n 7 sc.nd) (ds_one (ds_set 6 sc.nd (de_add (de_v 6 (pv 6)) (de_ix (de_v 1 (pv 1)) (de_mod (de_add (de_ix (de_v 2 (pv 2)) (de_v 7 (pv 7))) (de_mul (de_v 5 (pv 5)) (de_int1 T.z_int (da_cons (de_eq bd.u (de_v 7 (pv 7)) (de_v 3 (pv 3))) da_nil)))) de_int))))))
    (ds_cons (ds_if (dt_eq bd.u (de_v 6 (pv 6)) de_str) (ds_one (ds_set 6 sc.nd de_str)) ds_nil)
    (ds_one (ds_expr (de_append (de_v 4 (pv 4)) (de_v 6 (pv 6)))))))))
    (ds_one (ds_ret (de_v 4 (pv 4))))))))), r⟩
theorem sc_l_houses : FnScope ["_law_script", "_law_names_here", "_law_head", "_law_many", "_law_pairs", "_law_left", "_law_k", "_law_more"] ["_law_script", "_law_names_here"] (defScope s_l_houses) := ⟨rfl, rfl, rfl, by decide +kernel, rfl, by decide +kernel, by decide +kernel⟩
theorem w_l_houses (T : Txt K mg c) (F_l_cell : FnD P w K mg base 1 "_law_cell" ["_law_script", "_law_k"] (S_l_cell c))
    (r : ∀ ds L Q X, (S_l_houses c) ds L Q X → rd_l_houses K c (dEndB L Q X) (startD ["_law_script", "_law_names_here", "_law_head", "_law_many", "_law_pairs", "_law_left", "_law_k", "_law_more"] ds) L) (hl : ∀ ds L Q X, (S_l_houses c) ds L Q X → ds.length = 2) : FnD P w K mg base 2 "_law_houses" ["_law_script", "_law_names_here"] (S_l_houses c) := by
  have sc := sc_l_houses
  exact fn_mkB T.d_l_houses (fun _ _ _ _ _ _ us hl => match us, hl with | [_, _], _ => rfl) sc hl fun f cdv A outer s H E Z bd => ⟨rd_l_houses K c, (ds_cut (ds_set 2 sc.nd (de_mod (de_call F_l_cell (bd.hr.mono (by decide)) bd.tk (da_cons (de_v 0 (pv 0)) (da_cons de_int da_nil))) (de_pow de_int de_int)))
    (ds_cut (ds_set 3 sc.nd (de_add de_int (de_mod (de_v 2 (pv 2)) de_int)))
    (ds_cut (ds_set 4 sc.nd (de_lstO da_nil))
    (ds_cut (ds_set 5 sc.nd (de_sub de_int (de_v 3 (pv 3))))
    (ds_cut (ds_for bd (di_r1 T.z_range (da_cons (de_v 3 (pv 3)) da_nil)) (dg_n 6 sc.nd) (ds_cons (ds_set 7 sc.nd (de_mod (de_call F_l_cell (bd.hr.mono (by decide)) bd.tk (da_cons (de_v 0 (pv 0)) (da_cons (de_add de_int (de_v 6 (pv 6))) da_nil))) (de_add (de_min2 bd T.z_min (da_cons (de_v 5 (pv 5)) (da_cons de_int da_nil))) de_int)))
    (ds_cons (ds_set 5 sc.nd (de_sub (de_v 5 (pv 5)) (de_v 7 (pv 7))))
    (ds_one (ds_expr (de_append (de_v 4 (pv 4)) (de_tup (da_cons (de_ix (de_v 1 (pv 1)) (de_mod (de_add (de_v 6 (pv 6)) (de_div (de_v 2 (pv 2)) de_int)) de_int)) (da_cons (de_add de_int (de_v 7 (pv 7))) da_nil)))))))))
    (ds_cut (ds_if (dt_eq bd.u (de_mod (de_div (de_v 2 (pv 2)) de_int) de_int) de_int) (ds_one (ds_store (de_v 4 (pv 4)) (de_mod (de_div (de_v 2 (pv 2)) de_int) (de_v 3 (pv 3))) (de_tup (da_cons de_str (da_cons (de_ix (de_ix (de_v 4 (pv 4)) (de_mod (de_div (de_v 2 (pv 2)) de_int) (de_v 3 (pv 3)))) de_int) da_nil))))) ds_nil)
    (ds_one (ds_ret (de_v 4 (pv 4)))))))))), r⟩
theorem sc_Deal_init : FnScope ["self", "weights"] ["self", "weights"] (defScope s_Deal_init) := ⟨rfl, rfl, rfl, by decide +kernel, rfl, by decide +kernel, by decide +kernel⟩
theorem w_Deal_init (T : Txt K mg c) {C : Addr} (M : MAt K C "__init__" "Deal.__init__" s_Deal_init []) (F_turns : FnD P w K mg base 3 "turns" ["weights"] (S_turns c))
    (r : ∀ ds L Q X, (S_Deal_init c) ds L Q X → rd_Deal_init K c (dEndB L Q X) (startD ["self", "weights"] ds) L) (hl : ∀ ds L Q X, (S_Deal_init c) ds L Q X → ds.length = 2) : MeD P w K mg base 4 C "__init__" "Deal.__init__" s_Deal_init [] ["self", "weights"] (S_Deal_init c) := by
  have sc := sc_Deal_init
  exact me_mk M sc hl fun f cdv A outer s H E Z bd => ⟨rd_Deal_init K c, (ds_cons (ds_setf (de_v 0 (pv 0)) (de_call F_turns (bd.hr.mono (by decide)) bd.tk (da_cons (de_v 1 (pv 1)) da_nil)))
    (ds_one (ds_setf (de_v 0 (pv 0)) (de_list T.z_list (da_cons (de_v 1 (pv 1)) da_nil))))), r⟩
theorem sc_Cover_init : FnScope ["self", "name", "condition", "clauses", "houses", "waits", "pairs", "house", "weight"] ["self", "name", "condition", "clauses", "houses", "waits"] (defScope s_Cover_init) := ⟨rfl, rfl, rfl, by decide +kernel, rfl, by decide +kernel, by decide +kernel⟩
theorem w_Cover_init (T : Txt K mg c) {C : Addr} (M : MAt K C "__init__" "Cover.__init__" s_Cover_init [V.non, V.non, V.bl false]) (F_is_name : FnD P w K mg base 1 "is_name" ["thing"] (S_is_name c))
    (F_need_houses : FnD P w K mg base 2 "need_houses" ["pairs"] (S_need_houses c))
    (M_Deal : MkD P w K mg base 4 "Deal" c.Deal ["self", "weights"] [] (S_Deal_init c))
    (r : ∀ ds L Q X, (S_Cover_init c) ds L Q X → rd_Cover_init K c (dEndB L Q X) (startD ["self", "name", "condition", "clauses", "houses", "waits", "pairs", "house", "weight"] ds) L) (hl : ∀ ds L Q X, (S_Cover_init c) ds L Q X → ds.length = 6) : MeD P w K mg base 6 C "__init__" "Cover.__init__" s_Cover_init [V.non, V.non, V.bl false] ["self", "name", "condition", "clauses", "houses", "waits"] (S_Cover_init c) := by
  have sc := sc_Cover_init
  exact me_mk M sc hl fun f cdv A outer s H E Z bd => ⟨rd_Cover_init K c, (ds_cons (ds_if (dt_w (dw_or (dt_not (dt_val (de_call F_is_name (bd.hr.mono (by decide)) bd.tk (da_cons (de_v 1 (pv 1)) da_nil)))) (dw_or1 (dt_eq bd.u (de_v 1 (pv 1)) de_str)))) (ds_one (ds_raise bd T.e_NoCover)) ds_nil)
    (ds_cons (ds_setf (de_v 0 (pv 0)) (de_v 1 (pv 1)))
    (ds_cons (ds_setf (de_v 0 (pv 0)) (de_v 2 (pv 2)))
    (ds_cons (ds_setf (de_v 0 (pv 0)) (de_lst da_nil))
    (ds_cut (ds_if (dt_isnot (de_v 3 (pv 3)) de_non) (ds_one (ds_setf (de_v 0 (pv 0)) (de_list T.z_list (da_cons (de_v 3 (pv 3)) da_nil)))) ds_nil)
    (ds_cons (ds_if (dt_gt (de_len T.z_len (da_cons (de_fld (de_v 0 (pv 0))) da_nil)) (de_gint T.k_MOST_CLAUSES)) (ds_one (ds_raise bd T.e_NoCover)) ds_nil)
    (ds_cons (ds_set 6 sc.nd (de_lst (da_cons (de_tup (da_cons (de_v 1 (pv 1)) (da_cons de_int da_nil))) da_nil)))
    (ds_cut (ds_if (dt_isnot (de_v 4 (pv 4)) de_non) (ds_one (ds_set 6 sc.nd (de_v 4 (pv 4)))) ds_nil)
    (ds_cons (ds_setf (de_v 0 (pv 0)) (de_call F_need_houses (bd.hr.mono (by decide)) bd.tk (da_cons (de_v 6 (pv 6)) da_nil)))
    (ds_cons (ds_setf (de_v 0 (pv 0)) (de_make M_Deal (bd.hr.mono (by decide)) bd.tk (da_cons (de_lcG fin_lst (.tup [7, 8]) bd.calm sc.nd (di_l (de_v 6 (pv 6))) (own := [("house", 7), ("weight", 8)]) (blkOk_by (N := ["self", "name", "condition", "clauses", "houses", "waits", "pairs", "house", "weight"]) (sc := defScope s_Cover_init) (by decide +kernel)) (by decide) (fun _ _ _ _ _ => pg_tup rfl (pgs_cons (cg1 7 sc.nd) (pgs_cons (cg1 8 sc.nd) pgs_nil))) (fun _ _ _ _ _ _ => dts_nil) (fun _ _ _ _ _ _ => (de_v 8 (pv 8)))) da_nil)))
    (ds_one (ds_setf (de_v 0 (pv 0)) (de_v 5 (pv 5)))))))))))))), r⟩
theorem sc_Over_init : FnScope ["self", "cents"] ["self", "cents"] (defScope s_Over_init) := ⟨rfl, rfl, rfl, by decide +kernel, rfl, by decide +kernel, by decide +kernel⟩
theorem w_Over_init (T : Txt K mg c) {C : Addr} (M : MAt K C "__init__" "Over.__init__" s_Over_init []) 
    (r : ∀ ds L Q X, (S_Over_init c) ds L Q X → rd_Over_init K c (dEndB L Q X) (startD ["self", "cents"] ds) L) (hl : ∀ ds L Q X, (S_Over_init c) ds L Q X → ds.length = 2) : MeD P w K mg base 1 C "__init__" "Over.__init__" s_Over_init [] ["self", "cents"] (S_Over_init c) := by
  have sc := sc_Over_init
  exact me_mk M sc hl fun f cdv A outer s H E Z bd => ⟨rd_Over_init K c, (ds_one (ds_setf (de_v 0 (pv 0)) (de_v 1 (pv 1)))), r⟩
theorem sc_l_refused : FnScope ["_law_name", "_law_clauses", "_law_pairs", "e", "_law_others", "_law_some"] ["_law_name", "_law_clauses", "_law_pairs"] (defScope s_l_refused) := ⟨rfl, rfl, rfl, by decide +kernel, rfl, by decide +kernel, by decide +kernel⟩
theorem w_l_refused (T : Txt K mg c) (M_Cover_4 : MkD P w K mg base 6 "Cover" c.Cover ["self", "name", "condition", "clauses", "houses", "waits"] [(.bl false)] (S_Cover_init c))
    (M_Over : MkD P w K mg base 1 "Over" c.Over ["self", "cents"] [] (S_Over_init c))
    (r : ∀ ds L Q X, (S_l_refused c) ds L Q X → rd_l_refused K c (dEndB L Q X) (startD ["_law_name", "_law_clauses", "_law_pairs", "e", "_law_others", "_law_some"] ds) L) (hl : ∀ ds L Q X, (S_l_refused c) ds L Q X → ds.length = 3) : FnD P w K mg base 8 "_law_refused" ["_law_name", "_law_clauses", "_law_pairs"] (S_l_refused c) := by
  have sc := sc_l_refused
  exact fn_mkB T.d_l_refused (fun _ _ _ _ _ _ us hl => match us, hl with | [_, _, _], _ => rfl) sc hl fun f cdv A outer s H E Z bd => ⟨rd_l_refused K c, (ds_cons (ds_try_as 3 bd sc.nd (names_of T.g_CoverError) (fun _ _ _ bt => (ds_one (ds_expr (de_make M_Cover_4 (bt.hr.mono (by decide)) bt.tk (da_cons (de_v 0 (pv 0)) (da_cons (de_make M_Over (bt.hr.mono (by decide)) bt.tk (da_cons de_int da_nil)) (da_cons (de_v 1 (pv 1)) (da_cons (de_v 2 (pv 2)) da_nil)))))))) (fun a _ C d _ _ hz hf => (ds_cons (ds_set 4 sc.nd (de_lst (da_cons (de_isX hz hf T.z_isinstance (da_cons (de_v 3 (pv 3)) (da_cons (de_gref T.g_NoBook) da_nil))) (da_cons (de_isX hz hf T.z_isinstance (da_cons (de_v 3 (pv 3)) (da_cons (de_gref T.g_NoClause) da_nil))) (da_cons (de_isX hz hf T.z_isinstance (da_cons (de_v 3 (pv 3)) (da_cons (de_gref T.g_NoEntry) da_nil))) da_nil)))))
    (ds_cons (ds_set 5 sc.nd (de_lst (da_cons (de_isX hz hf T.z_isinstance (da_cons (de_v 3 (pv 3)) (da_cons (de_gref T.g_NoCover) da_nil))) (da_cons (de_isX hz hf T.z_isinstance (da_cons (de_v 3 (pv 3)) (da_cons (de_gref T.g_NoShares) da_nil))) da_nil))))
    (ds_cons (ds_if (dt_w (dw_or (dt_not (dt_val (de_isX hz hf T.z_isinstance (da_cons (de_v 3 (pv 3)) (da_cons (de_ty T.z_ValueError (by decide +kernel)) da_nil))))) (dw_or (dt_in de_bl (de_v 4 (pv 4))) (dw_or1 (dt_eq bd.u (de_v 5 (pv 5)) (de_lst (da_cons de_bl (da_cons de_bl da_nil)))))))) (ds_one (ds_ret de_int)) ds_nil)
    (ds_one (ds_ret (de_ifExp (dt_in de_bl (de_v 5 (pv 5))) (de_add (de_index (de_v 5 (pv 5)) (da_cons de_bl da_nil)) de_int) de_int))))))))
    (ds_one (ds_ret de_int))), r⟩
theorem sc_l_bad_pairs : FnScope ["_law_pairs", "_law_way", "_law_cell_here", "_law_some", "_law_at", "_law_other", "_law_odd", "_law_k"] ["_law_pairs", "_law_way", "_law_cell_here"] (defScope s_l_bad_pairs) := ⟨rfl, rfl, rfl, by decide +kernel, rfl, by decide +kernel, by decide +kernel⟩
theorem w_l_bad_pairs (T : Txt K mg c) 
    (r : ∀ ds L Q X, (S_l_bad_pairs c) ds L Q X → rd_l_bad_pairs K c (dEndB L Q X) (startD ["_law_pairs", "_law_way", "_law_cell_here", "_law_some", "_law_at", "_law_other", "_law_odd", "_law_k"] ds) L) (hl : ∀ ds L Q X, (S_l_bad_pairs c) ds L Q X → ds.length = 3) : FnD P w K mg base 1 "_law_bad_pairs" ["_law_pairs", "_law_way", "_law_cell_here"] (S_l_bad_pairs c) := by
  have sc := sc_l_bad_pairs
  exact fn_mkB T.d_l_bad_pairs (fun _ _ _ _ _ _ us hl => match us, hl with | [_, _, _], _ => rfl) sc hl fun f cdv A outer s H E Z bd => ⟨rd_l_bad_pairs K c, (ds_cut (ds_set 3 sc.nd (de_listO T.z_list (da_cons (de_v 0 (pv 0)) da_nil)))
    (ds_cut (ds_set 4 sc.nd (de_mod (de_v 2 (pv 2)) (de_len T.z_len (da_cons (de_v 3 (pv 3)) da_nil))))
    (ds_cut (ds_set 5 sc.nd (de_ix (de_ix (de_v 3 (pv 3)) (de_mod (de_div (de_v 2 (pv 2)) de_int) (de_len T.z_len (da_cons (de_v 3 (pv 3)) da_nil)))) de_int))
    (ds_cut (ds_set 6 sc.nd (de_lst (da_cons de_str (da_cons de_str (da_cons de_str (da_cons de_str (da_cons de_int (da_cons de_non (da_cons de_bl (da_cons de_str (da_cons de_str (da_cons de_str (da_cons de_str (da_cons (de_tup (da_cons de_str da_nil)) (da_cons (de_lst (da_cons de_str da_nil)) (da_cons de_str da_nil))))))))))))))))
    (ds_cut (ds_if (dt_eq bd.u (de_v 1 (pv 1)) de_int) (ds_one (ds_store (de_v 3 (pv 3)) (de_v 4 (pv 4)) (de_tup (da_cons (de_ix (de_v 6 (pv 6)) (de_mod (de_div (de_v 2 (pv 2)) de_int) de_int)) (da_cons (de_ix (de_ix (de_v 3 (pv 3)) (de_v 4 (pv 4))) de_int) da_nil))))) ds_nil)
    (ds_cut (ds_if (dt_eq bd.u (de_v 1 (pv 1)) de_int) (ds_one (ds_expr (de_insert (de_v 3 (pv 3)) (da_cons (de_mod (de_div (de_v 2 (pv 2)) de_int) (de_add (de_len T.z_len (da_cons (de_v 3 (pv 3)) da_nil)) de_int)) (da_cons (de_tup (da_cons (de_v 5 (pv 5)) (da_cons de_int da_nil))) da_nil))))) ds_nil)
    (ds_cut (ds_if (dt_eq bd.u (de_v 1 (pv 1)) de_int) (ds_one (ds_store (de_v 3 (pv 3)) (de_v 4 (pv 4)) (de_tup (da_cons (de_ix (de_ix (de_v 3 (pv 3)) (de_v 4 (pv 4))) de_int) (da_cons (de_ix (de_lst (da_cons de_int (da_cons (de_sub (de_neg de_int) (de_mod (de_div (de_v 2 (pv 2)) de_int) (de_pow de_int de_int))) (da_cons de_int (da_cons de_non da_nil))))) (de_mod (de_div (de_v 2 (pv 2)) de_int) de_int)) da_nil))))) ds_nil)
    (ds_cut (ds_if (dt_eq bd.u (de_v 1 (pv 1)) de_int) (ds_one (ds_set 3 sc.nd (de_lstO da_nil))) ds_nil)
    (ds_cut (ds_if (dt_eq bd.u (de_v 1 (pv 1)) de_int) (ds_one (ds_setLcG fin_own (.one 7) 3 bd.calm sc.nd (di_r1 T.z_range (da_cons (de_add de_int (de_mod (de_v 2 (pv 2)) de_int)) da_nil)) (own := [("_law_k", 7)]) (blkOk_by (N := ["_law_pairs", "_law_way", "_law_cell_here", "_law_some", "_law_at", "_law_other", "_law_odd", "_law_k"]) (sc := defScope s_l_bad_pairs) (by decide +kernel)) (by decide) (fun _ _ _ _ _ => cg1 7 sc.nd) (fun _ _ _ _ _ _ => dts_nil) (fun _ _ _ _ _ _ => (de_tup (da_cons (de_ix de_str (de_v 7 (pv 7))) (da_cons de_int da_nil)))) swap_yes)) ds_nil)
    (ds_cut (ds_if (dt_eq bd.u (de_v 1 (pv 1)) de_int) (ds_one (ds_expr (de_insert (de_v 3 (pv 3)) (da_cons de_int (da_cons (de_tup (da_cons (de_v 5 (pv 5)) (da_cons de_int da_nil))) da_nil))))) ds_nil)
    (ds_one (ds_ret (de_v 3 (pv 3)))))))))))))), r⟩
theorem sc_CauseIs_words : FnScope ["self"] ["self"] (defScope s_CauseIs_words) := ⟨rfl, rfl, rfl, by decide +kernel, rfl, by decide +kernel, by decide +kernel⟩
theorem w_CauseIs_words (T : Txt K mg c) {C : Addr} (M : MAt K C "words" "CauseIs.words" s_CauseIs_words []) 
    (r : ∀ ds L Q X, (S_CauseIs_words c) ds L Q X → rd_CauseIs_words K c (dEndB L Q X) (startD ["self"] ds) L) (hl : ∀ ds L Q X, (S_CauseIs_words c) ds L Q X → ds.length = 1) : MeD P w K mg base 1 C "words" "CauseIs.words" s_CauseIs_words [] ["self"] (S_CauseIs_words c) := by
  have sc := sc_CauseIs_words
  exact me_mk M sc hl fun f cdv A outer s H E Z bd => ⟨rd_CauseIs_words K c, (ds_one (ds_ret (de_lst (da_cons de_str (da_cons (de_fld (de_v 0 (pv 0))) da_nil))))), r⟩
theorem sc_Deal_counts_to : FnScope ["self", "n", "rounds", "left", "counts", "place", "weight"] ["self", "n"] (defScope s_Deal_counts_to) := ⟨rfl, rfl, rfl, by decide +kernel, rfl, by decide +kernel, by decide +kernel⟩
theorem w_Deal_counts_to (T : Txt K mg c) {C : Addr} (M : MAt K C "counts_to" "Deal.counts_to" s_Deal_counts_to []) 
    (r : ∀ ds L Q X, (S_Deal_counts_to c) ds L Q X → rd_Deal_counts_to K c (dEndB L Q X) (startD ["self", "n", "rounds", "left", "counts", "place", "weight"] ds) L) (hl : ∀ ds L Q X, (S_Deal_counts_to c) ds L Q X → ds.length = 2) : MeD P w K mg base 1 C "counts_to" "Deal.counts_to" s_Deal_counts_to [] ["self", "n"] (S_Deal_counts_to c) := by
  have sc := sc_Deal_counts_to
  exact me_mk M sc hl fun f cdv A outer s H E Z bd => ⟨rd_Deal_counts_to K c, (ds_cons (ds_asg (de_divmod T.z_divmod (da_cons (de_v 1 (pv 1)) (da_cons (de_len T.z_len (da_cons (de_fld (de_v 0 (pv 0))) da_nil)) da_nil))) (dg_tup bd.calm (dgs_cons (dg_n 2 sc.nd) (dgs_cons (dg_n 3 sc.nd) dgs_nil))))
    (ds_cons (ds_setLcG fin_own (.one 6) 4 bd.calm sc.nd (di_l (de_fld (de_v 0 (pv 0)))) (own := [("weight", 6)]) (blkOk_by (N := ["self", "n", "rounds", "left", "counts", "place", "weight"]) (sc := defScope s_Deal_counts_to) (by decide +kernel)) (by decide) (fun _ _ _ _ _ => cg1 6 sc.nd) (fun _ _ _ _ _ _ => dts_nil) (fun _ _ _ _ _ _ => (de_mul (de_v 2 (pv 2)) (de_v 6 (pv 6)))) swap_yes)
    (ds_cons (ds_for bd (di_l (de_slice (de_fld (de_v 0 (pv 0))) do_none (do_some (de_v 3 (pv 3))))) (dg_n 5 sc.nd) (ds_one (ds_store (de_v 4 (pv 4)) (de_v 5 (pv 5)) (de_add (de_ix (de_v 4 (pv 4)) (de_v 5 (pv 5))) de_int))))
    (ds_one (ds_ret (de_v 4 (pv 4))))))), r⟩
theorem sc_Over_words : FnScope ["self"] ["self"] (defScope s_Over_words) := ⟨rfl, rfl, rfl, by decide +kernel, rfl, by decide +kernel, by decide +kernel⟩
theorem w_Over_words (T : Txt K mg c) {C : Addr} (M : MAt K C "words" "Over.words" s_Over_words []) (F_show_cents : FnD P w K mg base 1 "show_cents" ["cents"] (S_show_cents c))
    (r : ∀ ds L Q X, (S_Over_words c) ds L Q X → rd_Over_words K c (dEndB L Q X) (startD ["self"] ds) L) (hl : ∀ ds L Q X, (S_Over_words c) ds L Q X → ds.length = 1) : MeD P w K mg base 2 C "words" "Over.words" s_Over_words [] ["self"] (S_Over_words c) := by
  have sc := sc_Over_words
  exact me_mk M sc hl fun f cdv A outer s H E Z bd => ⟨rd_Over_words K c, (ds_one (ds_ret (de_lst (da_cons de_str (da_cons (de_call F_show_cents (bd.hr.mono (by decide)) bd.tk (da_cons (de_fld (de_v 0 (pv 0))) da_nil)) da_nil))))), r⟩
theorem sc_Own_words : FnScope ["self"] ["self"] (defScope s_Own_words) := ⟨rfl, rfl, rfl, by decide +kernel, rfl, by decide +kernel, by decide +kernel⟩
theorem w_Own_words (T : Txt K mg c) {C : Addr} (M : MAt K C "words" "Own.words" s_Own_words []) (F_show_cents : FnD P w K mg base 1 "show_cents" ["cents"] (S_show_cents c))
    (r : ∀ ds L Q X, (S_Own_words c) ds L Q X → rd_Own_words K c (dEndB L Q X) (startD ["self"] ds) L) (hl : ∀ ds L Q X, (S_Own_words c) ds L Q X → ds.length = 1) : MeD P w K mg base 2 C "words" "Own.words" s_Own_words [] ["self"] (S_Own_words c) := by
  have sc := sc_Own_words
  exact me_mk M sc hl fun f cdv A outer s H E Z bd => ⟨rd_Own_words K c, (ds_one (ds_ret (de_lst (da_cons de_str (da_cons (de_fld (de_v 0 (pv 0))) (da_cons (de_call F_show_cents (bd.hr.mono (by decide)) bd.tk (da_cons (de_fld (de_v 0 (pv 0))) da_nil)) da_nil)))))), r⟩
theorem sc_ThingIs_words : FnScope ["self"] ["self"] (defScope s_ThingIs_words) := ⟨rfl, rfl, rfl, by decide +kernel, rfl, by decide +kernel, by decide +kernel⟩
theorem w_ThingIs_words (T : Txt K mg c) {C : Addr} (M : MAt K C "words" "ThingIs.words" s_ThingIs_words []) 
    (r : ∀ ds L Q X, (S_ThingIs_words c) ds L Q X → rd_ThingIs_words K c (dEndB L Q X) (startD ["self"] ds) L) (hl : ∀ ds L Q X, (S_ThingIs_words c) ds L Q X → ds.length = 1) : MeD P w K mg base 1 C "words" "ThingIs.words" s_ThingIs_words [] ["self"] (S_ThingIs_words c) := by
  have sc := sc_ThingIs_words
  exact me_mk M sc hl fun f cdv A outer s H E Z bd => ⟨rd_ThingIs_words K c, (ds_one (ds_ret (de_lst (da_cons de_str (da_cons (de_fld (de_v 0 (pv 0))) da_nil))))), r⟩
theorem sc_l_kept : FnScope ["_law_cover", "_law_name", "_law_clauses", "_law_pairs", "_law_waits", "_law_weights", "_law_house", "_law_weight", "_law_one"] ["_law_cover", "_law_name", "_law_clauses", "_law_pairs", "_law_waits"] (defScope s_l_kept) := ⟨rfl, rfl, rfl, by decide +kernel, rfl, by decide +kernel, by decide +kernel⟩
theorem w_l_kept (T : Txt K mg c) (M_Deal : MkD P w K mg base 4 "Deal" c.Deal ["self", "weights"] [] (S_Deal_init c))
    (D_counts_to : ∀ C S, R_counts_to c C S → MdD P w K mg base 1 C "counts_to" ["self", "n"] [] S)
    (D_words : ∀ C S, R_words c C S → MdD P w K mg base 2 C "words" ["self"] [] S)
    (r : ∀ ds L Q X, (S_l_kept c) ds L Q X → rd_l_kept K c (dEndB L Q X) (startD ["_law_cover", "_law_name", "_law_clauses", "_law_pairs", "_law_waits", "_law_weights", "_law_house", "_law_weight", "_law_one"] ds) L) (hl : ∀ ds L Q X, (S_l_kept c) ds L Q X → ds.length = 5) : FnD P w K mg base 6 "_law_kept" ["_law_cover", "_law_name", "_law_clauses", "_law_pairs", "_law_waits"] (S_l_kept c) := by
  have sc := sc_l_kept
  exact fn_mkB T.d_l_kept (fun _ _ _ _ _ _ us hl => match us, hl with | [_, _, _, _, _], _ => rfl) sc hl fun f cdv A outer s H E Z bd => ⟨rd_l_kept K c, (ds_cut (ds_if (dt_w (dw_or (dt_not (dt_val (de_isi T.z_isinstance (da_cons (de_fld (de_v 0 (pv 0))) (da_cons (de_ty T.z_str (by decide +kernel)) da_nil))))) (dw_or1 (dt_ne bd.u (de_fld (de_v 0 (pv 0))) (de_v 1 (pv 1)))))) (ds_one (ds_ret de_bl)) ds_nil)
    (ds_cut (ds_if (dt_w (dw_or (dt_not (dt_val (de_isi T.z_isinstance (da_cons (de_fld (de_v 0 (pv 0))) (da_cons (de_ty T.z_bool (by decide +kernel)) da_nil))))) (dw_or1 (dt_ne bd.u (de_fld (de_v 0 (pv 0))) (de_v 4 (pv 4)))))) (ds_one (ds_ret de_bl)) ds_nil)
    (ds_cut (ds_if (dt_w (dw_or (dt_not (dt_val (de_isi T.z_isinstance (da_cons (de_fld (de_v 0 (pv 0))) (da_cons (de_ty T.z_list (by decide +kernel)) da_nil))))) (dw_or1 (dt_ne bd.u (de_lcG fin_lst (.one 8) bd.calm sc.nd (di_l (de_fld (de_v 0 (pv 0)))) (own := [("_law_one", 8)]) (blkOk_by (N := ["_law_cover", "_law_name", "_law_clauses", "_law_pairs", "_law_waits", "_law_weights", "_law_house", "_law_weight", "_law_one"]) (sc := defScope s_l_kept) (by decide +kernel)) (by decide) (fun _ _ _ _ _ => cg1 8 sc.nd) (fun _ _ _ _ _ _ => dts_nil) (fun _ _ _ _ _ _ => (de_meth0 D_words (bd.hr.mono (by decide)) takes0 (de_v 8 (pv 8))))) (de_v 2 (pv 2)))))) (ds_one (ds_ret de_bl)) ds_nil)
    (ds_cut (ds_if (dt_w (dw_or (dt_not (dt_val (de_isi T.z_isinstance (da_cons (de_fld (de_v 0 (pv 0))) (da_cons (de_ty T.z_list (by decide +kernel)) da_nil))))) (dw_or1 (dt_ne bd.u (de_fld (de_v 0 (pv 0))) (de_lcG fin_lst (.tup [6, 7]) bd.calm sc.nd (di_l (de_v 3 (pv 3))) (own := [("_law_house", 6), ("_law_weight", 7)]) (blkOk_by (N := ["_law_cover", "_law_name", "_law_clauses", "_law_pairs", "_law_waits", "_law_weights", "_law_house", "_law_weight", "_law_one"]) (sc := defScope s_l_kept) (by decide +kernel)) (by decide) (fun _ _ _ _ _ => pg_tup rfl (pgs_cons (cg1 6 sc.nd) (pgs_cons (cg1 7 sc.nd) pgs_nil))) (fun _ _ _ _ _ _ => dts_nil) (fun _ _ _ _ _ _ => (de_v 6 (pv 6)))))))) (ds_one (ds_ret de_bl)) ds_nil)
    (ds_cut (ds_setLcG fin_lst (.tup [6, 7]) 5 bd.calm sc.nd (di_l (de_v 3 (pv 3))) (own := [("_law_house", 6), ("_law_weight", 7)]) (blkOk_by (N := ["_law_cover", "_law_name", "_law_clauses", "_law_pairs", "_law_waits", "_law_weights", "_law_house", "_law_weight", "_law_one"]) (sc := defScope s_l_kept) (by decide +kernel)) (by decide) (fun _ _ _ _ _ => pg_tup rfl (pgs_cons (cg1 6 sc.nd) (pgs_cons (cg1 7 sc.nd) pgs_nil))) (fun _ _ _ _ _ _ => dts_nil) (fun _ _ _ _ _ _ => (de_v 7 (pv 7))) swap_yes)
    (ds_cut (ds_if (dt_w (dw_or (dt_not (dt_val (de_isC T.i_Deal T.z_isinstance (da_cons (de_fld (de_v 0 (pv 0))) (da_cons (de_gref T.g_Deal) da_nil))))) (dw_or1 (dt_ne bd.u (de_meth D_counts_to (bd.hr.mono (by decide)) bd.tk (de_fld (de_v 0 (pv 0))) (da_cons de_int da_nil)) (de_meth D_counts_to (bd.hr.mono (by decide)) bd.tk (de_make M_Deal (bd.hr.mono (by decide)) bd.tk (da_cons (de_v 5 (pv 5)) da_nil)) (da_cons de_int da_nil)))))) (ds_one (ds_ret de_bl)) ds_nil)
    (ds_one (ds_ret (de_eq bd.u (de_fld (de_fld (de_v 0 (pv 0)))) (de_v 5 (pv 5))))))))))), r⟩
theorem sc_CauseIs_holds : FnScope ["self", "loss"] ["self", "loss"] (defScope s_CauseIs_holds) := ⟨rfl, rfl, rfl, by decide +kernel, rfl, by decide +kernel, by decide +kernel⟩
theorem w_CauseIs_holds (T : Txt K mg c) {C : Addr} (M : MAt K C "holds" "CauseIs.holds" s_CauseIs_holds []) 
    (r : ∀ ds L Q X, (S_CauseIs_holds c) ds L Q X → rd_CauseIs_holds K c (dEndB L Q X) (startD ["self", "loss"] ds) L) (hl : ∀ ds L Q X, (S_CauseIs_holds c) ds L Q X → ds.length = 2) : MeD P w K mg base 1 C "holds" "CauseIs.holds" s_CauseIs_holds [] ["self", "loss"] (S_CauseIs_holds c) := by
  have sc := sc_CauseIs_holds
  exact me_mk M sc hl fun f cdv A outer s H E Z bd => ⟨rd_CauseIs_holds K c, (ds_one (ds_ret (de_eq bd.u (de_ix (de_v 1 (pv 1)) de_int) (de_fld (de_v 0 (pv 0)))))), r⟩
theorem sc_Over_holds : FnScope ["self", "loss"] ["self", "loss"] (defScope s_Over_holds) := ⟨rfl, rfl, rfl, by decide +kernel, rfl, by decide +kernel, by decide +kernel⟩
theorem w_Over_holds (T : Txt K mg c) {C : Addr} (M : MAt K C "holds" "Over.holds" s_Over_holds []) 
    (r : ∀ ds L Q X, (S_Over_holds c) ds L Q X → rd_Over_holds K c (dEndB L Q X) (startD ["self", "loss"] ds) L) (hl : ∀ ds L Q X, (S_Over_holds c) ds L Q X → ds.length = 2) : MeD P w K mg base 1 C "holds" "Over.holds" s_Over_holds [] ["self", "loss"] (S_Over_holds c) := by
  have sc := sc_Over_holds
  exact me_mk M sc hl fun f cdv A outer s H E Z bd => ⟨rd_Over_holds K c, (ds_one (ds_ret (de_gt (de_ix (de_v 1 (pv 1)) de_int) (de_fld (de_v 0 (pv 0)))))), r⟩
theorem sc_ThingIs_holds : FnScope ["self", "loss"] ["self", "loss"] (defScope s_ThingIs_holds) := ⟨rfl, rfl, rfl, by decide +kernel, rfl, by decide +kernel, by decide +kernel⟩
theorem w_ThingIs_holds (T : Txt K mg c) {C : Addr} (M : MAt K C "holds" "ThingIs.holds" s_ThingIs_holds []) 
    (r : ∀ ds L Q X, (S_ThingIs_holds c) ds L Q X → rd_ThingIs_holds K c (dEndB L Q X) (startD ["self", "loss"] ds) L) (hl : ∀ ds L Q X, (S_ThingIs_holds c) ds L Q X → ds.length = 2) : MeD P w K mg base 1 C "holds" "ThingIs.holds" s_ThingIs_holds [] ["self", "loss"] (S_ThingIs_holds c) := by
  have sc := sc_ThingIs_holds
  exact me_mk M sc hl fun f cdv A outer s H E Z bd => ⟨rd_ThingIs_holds K c, (ds_one (ds_ret (de_eq bd.u (de_ix (de_v 1 (pv 1)) de_int) (de_fld (de_v 0 (pv 0)))))), r⟩
theorem sc_Cover_asks : FnScope ["self", "loss"] ["self", "loss"] (defScope s_Cover_asks) := ⟨rfl, rfl, rfl, by decide +kernel, rfl, by decide +kernel, by decide +kernel⟩
theorem w_Cover_asks (T : Txt K mg c) {C : Addr} (M : MAt K C "asks" "Cover.asks" s_Cover_asks []) (D_holds : ∀ C S, R_holds c C S → MdD P w K mg base 1 C "holds" ["self", "loss"] [] S)
    (r : ∀ ds L Q X, (S_Cover_asks c) ds L Q X → rd_Cover_asks K c (dEndB L Q X) (startD ["self", "loss"] ds) L) (hl : ∀ ds L Q X, (S_Cover_asks c) ds L Q X → ds.length = 2) : MeD P w K mg base 2 C "asks" "Cover.asks" s_Cover_asks [] ["self", "loss"] (S_Cover_asks c) := by
  have sc := sc_Cover_asks
  exact me_mk M sc hl fun f cdv A outer s H E Z bd => ⟨rd_Cover_asks K c, (ds_one (ds_ret (de_meth D_holds (bd.hr.mono (by decide)) bd.tk (de_fld (de_v 0 (pv 0))) (da_cons (de_v 1 (pv 1)) da_nil)))), r⟩
theorem sc_l_asks : FnScope ["_law_cover", "_law_way", "_law_name", "_law_cents", "_law_cause", "_law_thing", "_law_many", "_law_due", "_law_found"] ["_law_cover", "_law_way", "_law_name", "_law_cents"] (defScope s_l_asks) := ⟨rfl, rfl, rfl, by decide +kernel, rfl, by decide +kernel, by decide +kernel⟩
theorem w_l_asks (T : Txt K mg c) (D_asks : ∀ C S, R_asks c C S → MdD P w K mg base 2 C "asks" ["self", "loss"] [] S)
    (r : ∀ ds L Q X, (S_l_asks c) ds L Q X → rd_l_asks K c (dEndB L Q X) (startD ["_law_cover", "_law_way", "_law_name", "_law_cents", "_law_cause", "_law_thing", "_law_many", "_law_due", "_law_found"] ds) L) (hl : ∀ ds L Q X, (S_l_asks c) ds L Q X → ds.length = 4) : FnD P w K mg base 3 "_law_asks" ["_law_cover", "_law_way", "_law_name", "_law_cents"] (S_l_asks c) := by
  have sc := sc_l_asks
  exact fn_mkB T.d_l_asks (fun _ _ _ _ _ _ us hl => match us, hl with | [_, _, _, _], _ => rfl) sc hl fun f cdv A outer s H E Z bd => ⟨rd_l_asks K c, (ds_cons (ds_for bd (di_l (de_lst (da_cons (de_tup (da_cons (de_v 2 (pv 2)) (da_cons de_str (da_cons (de_add (de_v 3 (pv 3)) de_int) da_nil)))) (da_cons (de_tup (da_cons de_str (da_cons (de_v 2 (pv 2)) (da_cons (de_v 3 (pv 3)) da_nil)))) (da_cons (de_tup (da_cons de_str (da_cons de_str (da_cons (de_add (de_v 3 (pv 3)) de_int) da_nil)))) da_nil))))) (dg_tup bd.calm (dgs_cons (dg_n 4 sc.nd) (dgs_cons (dg_n 5 sc.nd) (dgs_cons (dg_n 6 sc.nd) dgs_nil)))) (ds_cons (ds_set 7 sc.nd (de_ix (de_lst (da_cons (de_eq bd.u (de_v 4 (pv 4)) (de_v 2 (pv 2))) (da_cons (de_eq bd.u (de_v 5 (pv 5)) (de_v 2 (pv 2))) (da_cons (de_gt (de_v 6 (pv 6)) (de_v 3 (pv 3))) da_nil)))) (de_v 1 (pv 1))))
    (ds_cons (ds_set 8 sc.nd (de_meth D_asks (bd.hr.mono (by decide)) bd.tk (de_v 0 (pv 0)) (da_cons (de_tup (da_cons de_int (da_cons de_int (da_cons de_str (da_cons (de_v 5 (pv 5)) (da_cons (de_v 4 (pv 4)) (da_cons (de_v 6 (pv 6)) da_nil))))))) da_nil)))
    (ds_one (ds_if (dt_w (dw_or (dt_not (dt_val (de_isi T.z_isinstance (da_cons (de_v 8 (pv 8)) (da_cons (de_ty T.z_bool (by decide +kernel)) da_nil))))) (dw_or1 (dt_ne bd.u (de_v 8 (pv 8)) (de_v 7 (pv 7)))))) (ds_one (ds_ret de_bl)) ds_nil)))))
    (ds_one (ds_ret de_bl))), r⟩
theorem sc_CauseIs_init : FnScope ["self", "name"] ["self", "name"] (defScope s_CauseIs_init) := ⟨rfl, rfl, rfl, by decide +kernel, rfl, by decide +kernel, by decide +kernel⟩
theorem w_CauseIs_init (T : Txt K mg c) {C : Addr} (M : MAt K C "__init__" "CauseIs.__init__" s_CauseIs_init []) 
    (r : ∀ ds L Q X, (S_CauseIs_init c) ds L Q X → rd_CauseIs_init K c (dEndB L Q X) (startD ["self", "name"] ds) L) (hl : ∀ ds L Q X, (S_CauseIs_init c) ds L Q X → ds.length = 2) : MeD P w K mg base 1 C "__init__" "CauseIs.__init__" s_CauseIs_init [] ["self", "name"] (S_CauseIs_init c) := by
  have sc := sc_CauseIs_init
  exact me_mk M sc hl fun f cdv A outer s H E Z bd => ⟨rd_CauseIs_init K c, (ds_one (ds_setf (de_v 0 (pv 0)) (de_v 1 (pv 1)))), r⟩
theorem sc_Clause_init : FnScope ["self", "by"] ["self", "by"] (defScope s_Clause_init) := ⟨rfl, rfl, rfl, by decide +kernel, rfl, by decide +kernel, by decide +kernel⟩
theorem w_Clause_init (T : Txt K mg c) {C : Addr} (M : MAt K C "__init__" "Clause.__init__" s_Clause_init []) 
    (r : ∀ ds L Q X, (S_Clause_init c) ds L Q X → rd_Clause_init K c (dEndB L Q X) (startD ["self", "by"] ds) L) (hl : ∀ ds L Q X, (S_Clause_init c) ds L Q X → ds.length = 2) : MeD P w K mg base 1 C "__init__" "Clause.__init__" s_Clause_init [] ["self", "by"] (S_Clause_init c) := by
  have sc := sc_Clause_init
  exact me_mk M sc hl fun f cdv A outer s H E Z bd => ⟨rd_Clause_init K c, (ds_cons (ds_if (dt_notin (de_v 1 (pv 1)) (de_gtup T.k_WAYS)) (ds_one (ds_raise bd T.e_NoClause)) ds_nil)
    (ds_one (ds_setf (de_v 0 (pv 0)) (de_v 1 (pv 1))))), r⟩
theorem sc_Own_init : FnScope ["self", "by", "cents"] ["self", "by", "cents"] (defScope s_Own_init) := ⟨rfl, rfl, rfl, by decide +kernel, rfl, by decide +kernel, by decide +kernel⟩
theorem w_Own_init (T : Txt K mg c) {C : Addr} (M : MAt K C "__init__" "Own.__init__" s_Own_init []) (F_need_amount : FnD P w K mg base 3 "need_amount" ["thing"] (S_need_amount c))
    (F_Clause_init : MeD P w K mg base 1 c.Clause "__init__" "Clause.__init__" s_Clause_init [] ["self", "by"] (S_Clause_init c))
    (r : ∀ ds L Q X, (S_Own_init c) ds L Q X → rd_Own_init K c (dEndB L Q X) (startD ["self", "by", "cents"] ds) L) (hl : ∀ ds L Q X, (S_Own_init c) ds L Q X → ds.length = 3) : MeD P w K mg base 4 C "__init__" "Own.__init__" s_Own_init [] ["self", "by", "cents"] (S_Own_init c) := by
  have sc := sc_Own_init
  exact me_mk M sc hl fun f cdv A outer s H E Z bd => ⟨rd_Own_init K c, (ds_cons (ds_expr (de_cm F_Clause_init (fun _ _ _ _ _ _ us hl => match us, hl with | [_, _], _ => rfl) T.g_Clause T.cm_Clause_init (bd.hr.mono (by decide)) bd.tk (da_cons (de_v 0 (pv 0)) (da_cons (de_v 1 (pv 1)) da_nil))))
    (ds_one (ds_setf (de_v 0 (pv 0)) (de_call F_need_amount (bd.hr.mono (by decide)) bd.tk (da_cons (de_v 2 (pv 2)) da_nil))))), r⟩
theorem sc_ThingIs_init : FnScope ["self", "name"] ["self", "name"] (defScope s_ThingIs_init) := ⟨rfl, rfl, rfl, by decide +kernel, rfl, by decide +kernel, by decide +kernel⟩
theorem w_ThingIs_init (T : Txt K mg c) {C : Addr} (M : MAt K C "__init__" "ThingIs.__init__" s_ThingIs_init []) 
    (r : ∀ ds L Q X, (S_ThingIs_init c) ds L Q X → rd_ThingIs_init K c (dEndB L Q X) (startD ["self", "name"] ds) L) (hl : ∀ ds L Q X, (S_ThingIs_init c) ds L Q X → ds.length = 2) : MeD P w K mg base 1 C "__init__" "ThingIs.__init__" s_ThingIs_init [] ["self", "name"] (S_ThingIs_init c) := by
  have sc := sc_ThingIs_init
  exact me_mk M sc hl fun f cdv A outer s H E Z bd => ⟨rd_ThingIs_init K c, (ds_one (ds_setf (de_v 0 (pv 0)) (de_v 1 (pv 1)))), r⟩
theorem sc_law : FnScope ["_law_script", "_law_head", "_law_names_here", "_law_name", "_law_cents", "_law_pairs", "_law_amounts", "_law_clauses", "_law_words", "_law_condition", "_law_waits", "_law_handed", "_law_cover", "_law_plain", "_law_k", "_law_cell_here", "_law_bad", "_law_due", "_law_odd", "_law_nine", "_law_one"] ["_law_script"] (defScope s_law) := ⟨rfl, rfl, rfl, by decide +kernel, rfl, by decide +kernel, by decide +kernel⟩
theorem w_law_f (T : Txt K mg c) (F_l_asks : FnD P w K mg base 3 "_law_asks" ["_law_cover", "_law_way", "_law_name", "_law_cents"] (S_l_asks c))
    (F_l_bad_pairs : FnD P w K mg base 1 "_law_bad_pairs" ["_law_pairs", "_law_way", "_law_cell_here"] (S_l_bad_pairs c))
    (F_l_cell : FnD P w K mg base 1 "_law_cell" ["_law_script", "_law_k"] (S_l_cell c))
    (F_l_houses : FnD P w K mg base 2 "_law_houses" ["_law_script", "_law_names_here"] (S_l_houses c))
    (F_l_kept : FnD P w K mg base 6 "_law_kept" ["_law_cover", "_law_name", "_law_clauses", "_law_pairs", "_law_waits"] (S_l_kept c))
    (F_l_names : FnD P w K mg base 1 "_law_names" ["_law_cell_here"] (S_l_names c))
    (F_l_refused : FnD P w K mg base 8 "_law_refused" ["_law_name", "_law_clauses", "_law_pairs"] (S_l_refused c))
    (M_CauseIs : MkD P w K mg base 1 "CauseIs" c.CauseIs ["self", "name"] [] (S_CauseIs_init c))
    (M_Cover_2 : MkD P w K mg base 6 "Cover" c.Cover ["self", "name", "condition", "clauses", "houses", "waits"] [.non, .non, (.bl false)] (S_Cover_init c))
    (M_Cover_5 : MkD P w K mg base 6 "Cover" c.Cover ["self", "name", "condition", "clauses", "houses", "waits"] [] (S_Cover_init c))
    (M_Over : MkD P w K mg base 1 "Over" c.Over ["self", "cents"] [] (S_Over_init c))
    (M_Own : MkD P w K mg base 4 "Own" c.Own ["self", "by", "cents"] [] (S_Own_init c))
    (M_ThingIs : MkD P w K mg base 1 "ThingIs" c.ThingIs ["self", "name"] [] (S_ThingIs_init c))
    (D_words : ∀ C S, R_words c C S → MdD P w K mg base 2 C "words" ["self"] [] S)
    (r : ∀ ds L Q X, (S_law c) ds L Q X → rd_law K c (dEndB L Q X) (startD ["_law_script", "_law_head", "_law_names_here", "_law_name", "_law_cents", "_law_pairs", "_law_amounts", "_law_clauses", "_law_words", "_law_condition", "_law_waits", "_law_handed", "_law_cover", "_law_plain", "_law_k", "_law_cell_here", "_law_bad", "_law_due", "_law_odd", "_law_nine", "_law_one"] ds) L) (hl : ∀ ds L Q X, (S_law c) ds L Q X → ds.length = 1) {f : Addr} {fd : FuncData} (F : Fun K "law" "law" s_law f fd) : FnOk P w K mg base (L2.CX P w) 9 f fd ["_law_script"] (spOf K (S_law c)) := by
  have sc := sc_law
  exact fn_okB F sc hl fun cdv A outer s H E Z bd => ⟨rd_law K c, (ds_cut (ds_set 1 sc.nd (de_mod (de_call F_l_cell (bd.hr.mono (by decide)) bd.tk (da_cons (de_v 0 (pv 0)) (da_cons de_int da_nil))) (de_pow de_int de_int)))
    (ds_cut (ds_set 2 sc.nd (de_call F_l_names (bd.hr.mono (by decide)) bd.tk (da_cons (de_mod (de_call F_l_cell (bd.hr.mono (by decide)) bd.tk (da_cons (de_v 0 (pv 0)) (da_cons de_int da_nil))) de_int) da_nil)))
    (ds_cut (ds_set 3 sc.nd (de_ix (de_v 2 (pv 2)) de_int))
    (ds_cut (ds_set 4 sc.nd (de_add de_int (de_mod (de_call F_l_cell (bd.hr.mono (by decide)) bd.tk (da_cons (de_v 0 (pv 0)) (da_cons de_int da_nil))) (de_pow de_int de_int))))
    (ds_cut (ds_set 5 sc.nd (de_call F_l_houses (bd.hr.mono (by decide)) bd.tk (da_cons (de_v 0 (pv 0)) (da_cons (de_v 2 (pv 2)) da_nil))))
    (ds_cut (ds_setLcG fin_lst (.one 14) 6 bd.calm sc.nd (di_r1 T.z_range (da_cons (de_mod (de_v 1 (pv 1)) de_int) da_nil)) (own := [("_law_k", 14)]) (blkOk_by (N := ["_law_script", "_law_head", "_law_names_here", "_law_name", "_law_cents", "_law_pairs", "_law_amounts", "_law_clauses", "_law_words", "_law_condition", "_law_waits", "_law_handed", "_law_cover", "_law_plain", "_law_k", "_law_cell_here", "_law_bad", "_law_due", "_law_odd", "_law_nine", "_law_one"]) (sc := defScope s_law) (by decide +kernel)) (by decide) (fun _ _ _ _ _ => cg1 14 sc.nd) (fun _ _ _ _ _ _ => dts_nil) (fun _ _ _ _ _ _ => (de_mod (de_add (de_v 4 (pv 4)) (de_mul (de_v 14 (pv 14)) (de_v 1 (pv 1)))) (de_pow de_int de_int))) swap_yes)
    (ds_cut (ds_setLcG fin_lst (.one 20) 7 bd.calm sc.nd (di_l (de_v 6 (pv 6))) (own := [("_law_one", 20)]) (blkOk_by (N := ["_law_script", "_law_head", "_law_names_here", "_law_name", "_law_cents", "_law_pairs", "_law_amounts", "_law_clauses", "_law_words", "_law_condition", "_law_waits", "_law_handed", "_law_cover", "_law_plain", "_law_k", "_law_cell_here", "_law_bad", "_law_due", "_law_odd", "_law_nine", "_law_one"]) (sc := defScope s_law) (by decide +kernel)) (by decide) (fun _ _ _ _ _ => cg1 20 sc.nd) (fun _ _ _ _ _ _ => dts_nil) (fun _ _ _ _ _ _ => (de_make M_Own (bd.hr.mono (by decide)) takes0 (da_cons de_str (da_cons (de_v 20 (pv 20)) da_nil)))) swap_yes)
    (ds_cut (ds_setLcG fin_lst (.one 20) 8 bd.calm sc.nd (di_l (de_v 7 (pv 7))) (own := [("_law_one", 20)]) (blkOk_by (N := ["_law_script", "_law_head", "_law_names_here", "_law_name", "_law_cents", "_law_pairs", "_law_amounts", "_law_clauses", "_law_words", "_law_condition", "_law_waits", "_law_handed", "_law_cover", "_law_plain", "_law_k", "_law_cell_here", "_law_bad", "_law_due", "_law_odd", "_law_nine", "_law_one"]) (sc := defScope s_law) (by decide +kernel)) (by decide) (fun _ _ _ _ _ => cg1 20 sc.nd) (fun _ _ _ _ _ _ => dts_nil) (fun _ _ _ _ _ _ => (de_meth0 D_words (bd.hr.mono (by decide)) takes0 (de_v 20 (pv 20)))) swap_yes)
    (ds_cut (ds_set 9 sc.nd (de_ix (de_lst (da_cons (de_make M_CauseIs (bd.hr.mono (by decide)) bd.tk (da_cons (de_v 3 (pv 3)) da_nil)) (da_cons (de_make M_ThingIs (bd.hr.mono (by decide)) bd.tk (da_cons (de_v 3 (pv 3)) da_nil)) (da_cons (de_make M_Over (bd.hr.mono (by decide)) bd.tk (da_cons (de_v 4 (pv 4)) da_nil)) da_nil)))) (de_mod (de_div (de_v 1 (pv 1)) de_int) de_int)))
    (ds_cut (ds_set 10 sc.nd (de_eq bd.u (de_mod (de_div (de_v 1 (pv 1)) de_int) de_int) de_int))
    (ds_cut (ds_set 11 sc.nd (de_lst (da_cons (de_listO T.z_list (da_cons (de_v 7 (pv 7)) da_nil)) (da_cons (de_listO T.z_list (da_cons (de_v 5 (pv 5)) da_nil)) da_nil))))
    (ds_cut (ds_set 12 sc.nd (de_make M_Cover_5 (bd.hr.mono (by decide)) bd.tk (da_cons (de_v 3 (pv 3)) (da_cons (de_v 9 (pv 9)) (da_cons (de_ix (de_v 11 (pv 11)) de_int) (da_cons (de_ix (de_v 11 (pv 11)) de_int) (da_cons (de_v 10 (pv 10)) da_nil)))))))
    (ds_cut (ds_set 13 sc.nd (de_make M_Cover_2 (bd.hr.mono (by decide)) bd.tk (da_cons (de_v 3 (pv 3)) (da_cons (de_v 9 (pv 9)) da_nil))))
    (ds_cut (ds_if (dt_neT bd.u (de_v 11 (pv 11)) (de_lst (da_cons (de_v 7 (pv 7)) (da_cons (de_v 5 (pv 5)) da_nil)))) (ds_one (ds_ret de_bl)) ds_nil)
    (ds_cut (ds_expr (de_append (de_ix (de_v 11 (pv 11)) de_int) (de_make M_Own (bd.hr.mono (by decide)) bd.tk (da_cons de_str (da_cons de_int da_nil)))))
    (ds_cut (ds_expr (de_append (de_ix (de_v 11 (pv 11)) de_int) (de_tup (da_cons de_str (da_cons de_int da_nil)))))
    (ds_cut (ds_if (dt_w (dw_or (dt_not (dt_val (de_call F_l_kept (bd.hr.mono (by decide)) bd.tk (da_cons (de_v 12 (pv 12)) (da_cons (de_v 3 (pv 3)) (da_cons (de_v 8 (pv 8)) (da_cons (de_v 5 (pv 5)) (da_cons (de_v 10 (pv 10)) da_nil)))))))) (dw_or1 (dt_not (dt_val (de_call F_l_kept (bd.hr.mono (by decide)) bd.tk (da_cons (de_v 13 (pv 13)) (da_cons (de_v 3 (pv 3)) (da_cons (de_lst da_nil) (da_cons (de_lst (da_cons (de_tup (da_cons (de_v 3 (pv 3)) (da_cons de_int da_nil))) da_nil)) (da_cons de_bl da_nil))))))))))) (ds_one (ds_ret de_bl)) ds_nil)
    (ds_cut (ds_if (dt_w (dw_or (dt_ne bd.u (de_meth0 D_words (bd.hr.mono (by decide)) bd.tk (de_fld (de_v 12 (pv 12)))) (de_meth0 D_words (bd.hr.mono (by decide)) bd.tk (de_v 9 (pv 9)))) (dw_or1 (dt_ne bd.u (de_meth0 D_words (bd.hr.mono (by decide)) bd.tk (de_fld (de_v 13 (pv 13)))) (de_meth0 D_words (bd.hr.mono (by decide)) bd.tk (de_v 9 (pv 9))))))) (ds_one (ds_ret de_bl)) ds_nil)
    (ds_cut (ds_if (dt_w (dw_or (dt_not (dt_val (de_call F_l_asks (bd.hr.mono (by decide)) bd.tk (da_cons (de_v 12 (pv 12)) (da_cons (de_mod (de_div (de_v 1 (pv 1)) de_int) de_int) (da_cons (de_v 3 (pv 3)) (da_cons (de_v 4 (pv 4)) da_nil))))))) (dw_or1 (dt_not (dt_val (de_call F_l_asks (bd.hr.mono (by decide)) bd.tk (da_cons (de_v 13 (pv 13)) (da_cons (de_mod (de_div (de_v 1 (pv 1)) de_int) de_int) (da_cons (de_v 3 (pv 3)) (da_cons (de_v 4 (pv 4)) da_nil)))))))))) (ds_one (ds_ret de_bl)) ds_nil)
    (ds_cut (ds_for bd (di_r1 T.z_range (da_cons de_int da_nil)) (dg_n 14 sc.nd) (ds_cons (ds_set 15 sc.nd (de_mod (de_call F_l_cell (bd.hr.mono (by decide)) bd.tk (da_cons (de_v 0 (pv 0)) (da_cons (de_add de_int (de_v 14 (pv 14))) da_nil))) (de_pow de_int de_int)))
    (ds_cons (ds_set 16 sc.nd (de_call F_l_bad_pairs (bd.hr.mono (by decide)) bd.tk (da_cons (de_v 5 (pv 5)) (da_cons (de_v 14 (pv 14)) (da_cons (de_v 15 (pv 15)) da_nil)))))
    (ds_cons (ds_set 17 sc.nd (de_ix (de_lst (da_cons de_int (da_cons de_int (da_cons de_int (da_cons de_int (da_cons de_int (da_cons de_int da_nil))))))) (de_v 14 (pv 14))))
    (ds_cons (ds_if (dt_w (dw_or (dt_ne bd.u (de_call F_l_refused (bd.hr.mono (by decide)) bd.tk (da_cons (de_v 3 (pv 3)) (da_cons (de_v 7 (pv 7)) (da_cons (de_v 16 (pv 16)) da_nil)))) (de_v 17 (pv 17))) (dw_or1 (dt_ne bd.u (de_call F_l_refused (bd.hr.mono (by decide)) bd.tk (da_cons (de_v 3 (pv 3)) (da_cons de_non (da_cons (de_v 16 (pv 16)) da_nil)))) (de_v 17 (pv 17)))))) (ds_one (ds_ret de_bl)) ds_nil)
    (ds_cons (ds_set 18 sc.nd (de_ix (de_lst (da_cons de_str (da_cons de_str (da_cons de_str (da_cons de_str (da_cons de_str (da_cons de_int (da_cons de_non (da_cons de_bl (da_cons de_str (da_cons (de_lst (da_cons de_str da_nil)) da_nil))))))))))) (de_mod (de_v 15 (pv 15)) de_int)))
    (ds_cons (ds_set 19 sc.nd (de_add (de_v 7 (pv 7)) (de_mul (de_lst (da_cons (de_make M_Own (bd.hr.mono (by decide)) bd.tk (da_cons de_str (da_cons de_int da_nil))) da_nil)) (de_sub de_int (de_len T.z_len (da_cons (de_v 7 (pv 7)) da_nil))))))
    (ds_cons (ds_if (dt_w (dw_or (dt_ne bd.u (de_call F_l_refused (bd.hr.mono (by decide)) bd.tk (da_cons (de_v 18 (pv 18)) (da_cons (de_v 7 (pv 7)) (da_cons (de_v 5 (pv 5)) da_nil)))) de_int) (dw_or1 (dt_ne bd.u (de_call F_l_refused (bd.hr.mono (by decide)) bd.tk (da_cons (de_v 18 (pv 18)) (da_cons de_non (da_cons (de_v 16 (pv 16)) da_nil)))) de_int)))) (ds_one (ds_ret de_bl)) ds_nil)
    (ds_one (ds_if (dt_w (dw_or (dt_ne bd.u (de_call F_l_refused (bd.hr.mono (by decide)) bd.tk (da_cons (de_v 3 (pv 3)) (da_cons (de_v 19 (pv 19)) (da_cons (de_v 5 (pv 5)) da_nil)))) de_int) (dw_or1 (dt_ne bd.u (de_call F_l_refused (bd.hr.mono (by decide)) bd.tk (da_cons (de_v 3 (pv 3)) (da_cons (de_v 19 (pv 19)) (da_cons (de_v 16 (pv 16)) da_nil)))) de_int)))) (ds_one (ds_ret de_bl)) ds_nil))))))))))
    (ds_one (ds_ret (de_eq bd.u (de_call F_l_refused (bd.hr.mono (by decide)) bd.tk (da_cons (de_v 3 (pv 3)) (da_cons (de_v 7 (pv 7)) (da_cons (de_v 5 (pv 5)) da_nil)))) de_int))))))))))))))))))))))), r⟩
end
end K38
set_option Elab.async false
set_option linter.all false
set_option maxRecDepth 100000
set_option maxHeartbeats 2000000
namespace K38
open PySem PySem.Spec PyProof.Rows L2 DL

section
variable {P : Program} {w : World} {K : PySem.W.Frag} {mg : Str → Option Value} {base : Heap} {c : Cs}
theorem law_ok (T : Txt K mg c) {f : Addr} {fd : FuncData} (F : Fun K "law" "law" s_law f fd) : FnOk P w K mg base (L2.CX P w) 9 f fd ["_law_script"] (spOf K (S_law c)) := by
  have F_is_whole := w_is_whole (base := base) (P := P) (w := w) T  (by first | exact r_is_whole T | exact r_is_whole) (by intro ds L Q X h; repeat (first | (obtain ⟨h, _⟩ := h; subst h; rfl) | (obtain ⟨_, h⟩ := h)))
  have F_show_cents := w_show_cents (base := base) (P := P) (w := w) T  (by first | exact r_show_cents T | exact r_show_cents) (by intro ds L Q X h; repeat (first | (obtain ⟨h, _⟩ := h; subst h; rfl) | (obtain ⟨_, h⟩ := h)))
  have F_is_name := w_is_name (base := base) (P := P) (w := w) T  (by first | exact r_is_name T | exact r_is_name) (by intro ds L Q X h; repeat (first | (obtain ⟨h, _⟩ := h; subst h; rfl) | (obtain ⟨_, h⟩ := h)))
  have F_is_amount := w_is_amount (base := base) (P := P) (w := w) T F_is_whole (by first | exact r_is_amount T | exact r_is_amount) (by intro ds L Q X h; repeat (first | (obtain ⟨h, _⟩ := h; subst h; rfl) | (obtain ⟨_, h⟩ := h)))
  have F_total_of := w_total_of (base := base) (P := P) (w := w) T F_is_whole (by first | exact r_total_of T | exact r_total_of) (by intro ds L Q X h; repeat (first | (obtain ⟨h, _⟩ := h; subst h; rfl) | (obtain ⟨_, h⟩ := h)))
  have F_due_by := w_due_by (base := base) (P := P) (w := w) T  (by first | exact r_due_by T | exact r_due_by) (by intro ds L Q X h; repeat (first | (obtain ⟨h, _⟩ := h; subst h; rfl) | (obtain ⟨_, h⟩ := h)))
  have F_next_place := w_next_place (base := base) (P := P) (w := w) T F_due_by (by first | exact r_next_place T | exact r_next_place) (by intro ds L Q X h; repeat (first | (obtain ⟨h, _⟩ := h; subst h; rfl) | (obtain ⟨_, h⟩ := h)))
  have F_turns := w_turns (base := base) (P := P) (w := w) T F_next_place F_total_of (by first | exact r_turns T | exact r_turns) (by intro ds L Q X h; repeat (first | (obtain ⟨h, _⟩ := h; subst h; rfl) | (obtain ⟨_, h⟩ := h)))
  have F_need_houses := w_need_houses (base := base) (P := P) (w := w) T F_is_name (by first | exact r_need_houses T | exact r_need_houses) (by intro ds L Q X h; repeat (first | (obtain ⟨h, _⟩ := h; subst h; rfl) | (obtain ⟨_, h⟩ := h)))
  have F_need_amount := w_need_amount (base := base) (P := P) (w := w) T F_is_amount (by first | exact r_need_amount T | exact r_need_amount) (by intro ds L Q X h; repeat (first | (obtain ⟨h, _⟩ := h; subst h; rfl) | (obtain ⟨_, h⟩ := h)))
  have F_l_cell := w_l_cell (base := base) (P := P) (w := w) T  (by first | exact r_l_cell T | exact r_l_cell) (by intro ds L Q X h; repeat (first | (obtain ⟨h, _⟩ := h; subst h; rfl) | (obtain ⟨_, h⟩ := h)))
  have F_l_names := w_l_names (base := base) (P := P) (w := w) T  (by first | exact r_l_names T | exact r_l_names) (by intro ds L Q X h; repeat (first | (obtain ⟨h, _⟩ := h; subst h; rfl) | (obtain ⟨_, h⟩ := h)))
  have F_l_houses := w_l_houses (base := base) (P := P) (w := w) T F_l_cell (by first | exact r_l_houses T | exact r_l_houses) (by intro ds L Q X h; repeat (first | (obtain ⟨h, _⟩ := h; subst h; rfl) | (obtain ⟨_, h⟩ := h)))
  have M_Deal := (w_Deal_init (base := base) (P := P) (w := w) T T.m_Deal_init F_turns (by first | exact r_Deal_init T | exact r_Deal_init) (by intro ds L Q X h; repeat (first | (obtain ⟨h, _⟩ := h; subst h; rfl) | (obtain ⟨_, h⟩ := h)))).mk0 (x := "Deal") T.g_Deal T.mk_Deal T.kp_Deal (fun _ _ _ _ _ _ us hl => match us, hl with | [_, _], _ => rfl)
  have M_Cover_4 := (w_Cover_init (base := base) (P := P) (w := w) T T.m_Cover_init F_is_name F_need_houses M_Deal (by first | exact r_Cover_init T | exact r_Cover_init) (by intro ds L Q X h; repeat (first | (obtain ⟨h, _⟩ := h; subst h; rfl) | (obtain ⟨_, h⟩ := h)))).mkD (x := "Cover") (dd := [(.bl false)]) T.g_Cover T.mk_Cover T.kp_Cover 5 2 (by decide) rfl (fun _ _ => .cons (.bl _) .nil) (fun _ _ _ _ _ _ _ us its hl hl2 => match us, hl, its, hl2 with | [_, _, _, _, _], _, [_, _, _], _ => ⟨_, rfl, rfl⟩)
  have M_Over := (w_Over_init (base := base) (P := P) (w := w) T T.m_Over_init  (by first | exact r_Over_init T | exact r_Over_init) (by intro ds L Q X h; repeat (first | (obtain ⟨h, _⟩ := h; subst h; rfl) | (obtain ⟨_, h⟩ := h)))).mk0 (x := "Over") T.g_Over T.mk_Over T.kp_Over (fun _ _ _ _ _ _ us hl => match us, hl with | [_, _], _ => rfl)
  have F_l_refused := w_l_refused (base := base) (P := P) (w := w) T M_Cover_4 M_Over (by first | exact r_l_refused T | exact r_l_refused) (by intro ds L Q X h; repeat (first | (obtain ⟨h, _⟩ := h; subst h; rfl) | (obtain ⟨_, h⟩ := h)))
  have F_l_bad_pairs := w_l_bad_pairs (base := base) (P := P) (w := w) T  (by first | exact r_l_bad_pairs T | exact r_l_bad_pairs) (by intro ds L Q X h; repeat (first | (obtain ⟨h, _⟩ := h; subst h; rfl) | (obtain ⟨_, h⟩ := h)))
  have D_counts_to : ∀ C S, R_counts_to c C S → MdD P w K mg base 1 C "counts_to" ["self", "n"] [] S := by
    rintro C S (⟨rfl, rfl⟩)
    · exact ((w_Deal_counts_to T T.m_Deal_counts_to  (by first | exact r_Deal_counts_to T | exact r_Deal_counts_to) (by intro ds L Q X h; repeat (first | (obtain ⟨h, _⟩ := h; subst h; rfl) | (obtain ⟨_, h⟩ := h)))).mono (by decide)).md T.cl_Deal (fun _ _ _ _ _ _ us hl => match us, hl with | [_, _], _ => rfl)
  have D_words : ∀ C S, R_words c C S → MdD P w K mg base 2 C "words" ["self"] [] S := by
    rintro C S (⟨rfl, rfl⟩ | ⟨rfl, rfl⟩ | ⟨rfl, rfl⟩ | ⟨rfl, rfl⟩)
    · exact ((w_Own_words T T.m_Own_words F_show_cents (by first | exact r_Own_words T | exact r_Own_words) (by intro ds L Q X h; repeat (first | (obtain ⟨h, _⟩ := h; subst h; rfl) | (obtain ⟨_, h⟩ := h)))).mono (by decide)).md T.cl_Own (fun _ _ _ _ _ _ us hl => match us, hl with | [_], _ => rfl)
    · exact ((w_CauseIs_words T T.m_CauseIs_words  (by first | exact r_CauseIs_words T | exact r_CauseIs_words) (by intro ds L Q X h; repeat (first | (obtain ⟨h, _⟩ := h; subst h; rfl) | (obtain ⟨_, h⟩ := h)))).mono (by decide)).md T.cl_CauseIs (fun _ _ _ _ _ _ us hl => match us, hl with | [_], _ => rfl)
    · exact ((w_ThingIs_words T T.m_ThingIs_words  (by first | exact r_ThingIs_words T | exact r_ThingIs_words) (by intro ds L Q X h; repeat (first | (obtain ⟨h, _⟩ := h; subst h; rfl) | (obtain ⟨_, h⟩ := h)))).mono (by decide)).md T.cl_ThingIs (fun _ _ _ _ _ _ us hl => match us, hl with | [_], _ => rfl)
    · exact ((w_Over_words T T.m_Over_words F_show_cents (by first | exact r_Over_words T | exact r_Over_words) (by intro ds L Q X h; repeat (first | (obtain ⟨h, _⟩ := h; subst h; rfl) | (obtain ⟨_, h⟩ := h)))).mono (by decide)).md T.cl_Over (fun _ _ _ _ _ _ us hl => match us, hl with | [_], _ => rfl)
  have F_l_kept := w_l_kept (base := base) (P := P) (w := w) T M_Deal D_counts_to D_words (by first | exact r_l_kept T | exact r_l_kept) (by intro ds L Q X h; repeat (first | (obtain ⟨h, _⟩ := h; subst h; rfl) | (obtain ⟨_, h⟩ := h)))
  have D_holds : ∀ C S, R_holds c C S → MdD P w K mg base 1 C "holds" ["self", "loss"] [] S := by
    rintro C S (⟨rfl, rfl⟩ | ⟨rfl, rfl⟩ | ⟨rfl, rfl⟩)
    · exact ((w_CauseIs_holds T T.m_CauseIs_holds  (by first | exact r_CauseIs_holds T | exact r_CauseIs_holds) (by intro ds L Q X h; repeat (first | (obtain ⟨h, _⟩ := h; subst h; rfl) | (obtain ⟨_, h⟩ := h)))).mono (by decide)).md T.cl_CauseIs (fun _ _ _ _ _ _ us hl => match us, hl with | [_, _], _ => rfl)
    · exact ((w_ThingIs_holds T T.m_ThingIs_holds  (by first | exact r_ThingIs_holds T | exact r_ThingIs_holds) (by intro ds L Q X h; repeat (first | (obtain ⟨h, _⟩ := h; subst h; rfl) | (obtain ⟨_, h⟩ := h)))).mono (by decide)).md T.cl_ThingIs (fun _ _ _ _ _ _ us hl => match us, hl with | [_, _], _ => rfl)
    · exact ((w_Over_holds T T.m_Over_holds  (by first | exact r_Over_holds T | exact r_Over_holds) (by intro ds L Q X h; repeat (first | (obtain ⟨h, _⟩ := h; subst h; rfl) | (obtain ⟨_, h⟩ := h)))).mono (by decide)).md T.cl_Over (fun _ _ _ _ _ _ us hl => match us, hl with | [_, _], _ => rfl)
  have D_asks : ∀ C S, R_asks c C S → MdD P w K mg base 2 C "asks" ["self", "loss"] [] S := by
    rintro C S (⟨rfl, rfl⟩)
    · exact ((w_Cover_asks T T.m_Cover_asks D_holds (by first | exact r_Cover_asks T | exact r_Cover_asks) (by intro ds L Q X h; repeat (first | (obtain ⟨h, _⟩ := h; subst h; rfl) | (obtain ⟨_, h⟩ := h)))).mono (by decide)).md T.cl_Cover (fun _ _ _ _ _ _ us hl => match us, hl with | [_, _], _ => rfl)
  have F_l_asks := w_l_asks (base := base) (P := P) (w := w) T D_asks (by first | exact r_l_asks T | exact r_l_asks) (by intro ds L Q X h; repeat (first | (obtain ⟨h, _⟩ := h; subst h; rfl) | (obtain ⟨_, h⟩ := h)))
  have F_Clause_init := w_Clause_init (base := base) (P := P) (w := w) T T.m_Clause_init  (by first | exact r_Clause_init T | exact r_Clause_init) (by intro ds L Q X h; repeat (first | (obtain ⟨h, _⟩ := h; subst h; rfl) | (obtain ⟨_, h⟩ := h)))
  have M_CauseIs := (w_CauseIs_init (base := base) (P := P) (w := w) T T.m_CauseIs_init  (by first | exact r_CauseIs_init T | exact r_CauseIs_init) (by intro ds L Q X h; repeat (first | (obtain ⟨h, _⟩ := h; subst h; rfl) | (obtain ⟨_, h⟩ := h)))).mk0 (x := "CauseIs") T.g_CauseIs T.mk_CauseIs T.kp_CauseIs (fun _ _ _ _ _ _ us hl => match us, hl with | [_, _], _ => rfl)
  have M_Cover_2 := (w_Cover_init (base := base) (P := P) (w := w) T T.m_Cover_init F_is_name F_need_houses M_Deal (by first | exact r_Cover_init T | exact r_Cover_init) (by intro ds L Q X h; repeat (first | (obtain ⟨h, _⟩ := h; subst h; rfl) | (obtain ⟨_, h⟩ := h)))).mkD (x := "Cover") (dd := [.non, .non, (.bl false)]) T.g_Cover T.mk_Cover T.kp_Cover 3 0 (by decide) rfl (fun _ _ => .cons .non (.cons .non (.cons (.bl _) .nil))) (fun _ _ _ _ _ _ _ us its hl hl2 => match us, hl, its, hl2 with | [_, _, _], _, [_, _, _], _ => ⟨_, rfl, rfl⟩)
  have M_Cover_5 := (w_Cover_init (base := base) (P := P) (w := w) T T.m_Cover_init F_is_name F_need_houses M_Deal (by first | exact r_Cover_init T | exact r_Cover_init) (by intro ds L Q X h; repeat (first | (obtain ⟨h, _⟩ := h; subst h; rfl) | (obtain ⟨_, h⟩ := h)))).mkD (x := "Cover") (dd := []) T.g_Cover T.mk_Cover T.kp_Cover 6 3 (by decide) rfl (fun _ _ => .nil) (fun _ _ _ _ _ _ _ us its hl hl2 => match us, hl, its, hl2 with | [_, _, _, _, _, _], _, [_, _, _], _ => ⟨_, rfl, rfl⟩)
  have M_Own := (w_Own_init (base := base) (P := P) (w := w) T T.m_Own_init F_need_amount F_Clause_init (by first | exact r_Own_init T | exact r_Own_init) (by intro ds L Q X h; repeat (first | (obtain ⟨h, _⟩ := h; subst h; rfl) | (obtain ⟨_, h⟩ := h)))).mk0 (x := "Own") T.g_Own T.mk_Own T.kp_Own (fun _ _ _ _ _ _ us hl => match us, hl with | [_, _, _], _ => rfl)
  have M_ThingIs := (w_ThingIs_init (base := base) (P := P) (w := w) T T.m_ThingIs_init  (by first | exact r_ThingIs_init T | exact r_ThingIs_init) (by intro ds L Q X h; repeat (first | (obtain ⟨h, _⟩ := h; subst h; rfl) | (obtain ⟨_, h⟩ := h)))).mk0 (x := "ThingIs") T.g_ThingIs T.mk_ThingIs T.kp_ThingIs (fun _ _ _ _ _ _ us hl => match us, hl with | [_, _], _ => rfl)
  exact w_law_f (base := base) (P := P) (w := w) T F_l_asks F_l_bad_pairs F_l_cell F_l_houses F_l_kept F_l_names F_l_refused M_CauseIs M_Cover_2 M_Cover_5 M_Over M_Own M_ThingIs D_words (by first | exact r_law T | exact r_law) (by intro ds L Q X h; repeat (first | (obtain ⟨h, _⟩ := h; subst h; rfl) | (obtain ⟨_, h⟩ := h))) F
end
theorem all_mk {l : PySem.W.OpenLaw} {w : World} {K : PySem.W.Frag} {h : Heap} {mg : Str → Option Value} {fa : Addr} {A_CoverError A_NoShares A_NoEntry A_NoClause A_NoCover A_NoBook A_Deal A_Cover A_Clause A_Own A_Condition A_CauseIs A_ThingIs A_Over f0 f1 f2 f3 f4 f5 f6 f7 f8 f9 f10 f11 f12 f13 f14 f15 f16 f17 f18 f19 f20 f21 f22 f23 f24 f25 f26 f27 f28 f29 f30 f31 f32 f33 f34 f35 : Addr} {v0 v1 v2 v3 v4 v5 v6 v7 v8 v9 v10 v11 v12 v13 v14 v15 v16 v17 v18 v19 v20 v21 v22 v23 v24 v25 v26 v27 v28 v29 v30 v31 v32 v33 v34 v35 v36 v37 v38 v39 v40 v41 v42 v43 v44 v45 v46 v47 v48 v49 v50 v51 v52 v53 v54 v55 v56 v57 v58 v59 v60 v61 v62 v63 v64 v65 v66 v67 v68 v69 v70 v71 v72 v73 v74 v75 v76 v77 v78 v79 v80 v81 v82 v83 v84 v85 v86 v87 v88 v89 v90 v91 v92 v93 v94 v95 v96 v97 v98 v99 v100 v101 v102 v103 v104 v105 v106 v107 v108 v109 v110 v111 v112 v113 v114 v115 v116 v117 v118 v119 v120 v121 v122 v123 v124 v125 v126 v127 v128 v129 v130 v131 v132 v133 v134 v135 v136 v137 v138 v139 v140 v141 v142 v143 v144 v145 v146 v147 v148 v149 v150 v151 v152 v153 v154 v155 v156 v157 v158 v159 v160 v161 v162 v163 v164 v165 v166 v167 v168 v169 v170 v171 v172 v173 v174 v175 v176 v177 v178 v179 v180 v181 v182 v183 v184 v185 v186 v187 v188 v189 v190 v191 v192 v193 v194 v195 v196 v197 v198 v199 v200 v201 v202 v203 v204 : Value} {o0 o1 o2 o3 o4 o5 o6 o7 o8 o9 o10 o11 o12 o13 o14 o15 o16 o17 o18 o19 o20 o21 o22 o23 o24 o25 o26 o27 o28 o29 o30 o31 o32 o33 o34 o35 o36 o37 o38 o39 o40 o41 o42 o43 o44 o45 o46 o47 o48 o49 o50 o51 o52 o53 o54 o55 o56 o57 o58 o59 o60 o61 o62 o63 o64 o65 o66 o67 o68 o69 : Option Addr} {s0 s1 s2 s3 s4 s5 s6 s7 s8 s9 s10 s11 s12 s13 s14 s15 s16 s17 s18 s19 s20 s21 s22 s23 s24 s25 s26 s27 s28 s29 s30 s31 s32 s33 s34 s35 : Array (Option Value)} {k0 k1 k2 k3 k4 k5 k6 k7 k8 : Tok} {n0 n1 : Nat} (X : K.In h) (G : h.Ns mainGlobals mg) (hfa : mg "law" = some (.ref fa))
    (q1 : PySem.W.nsIn K mainGlobals "CoverError" = some (some (.ref A_CoverError)))
    (q2 : PySem.W.nsIn K mainGlobals "NoShares" = some (some (.ref A_NoShares)))
    (q3 : PySem.W.nsIn K mainGlobals "NoEntry" = some (some (.ref A_NoEntry)))
    (q4 : PySem.W.nsIn K mainGlobals "NoClause" = some (some (.ref A_NoClause)))
    (q5 : PySem.W.nsIn K mainGlobals "NoCover" = some (some (.ref A_NoCover)))
    (q6 : PySem.W.nsIn K mainGlobals "NoBook" = some (some (.ref A_NoBook)))
    (q7 : PySem.W.nsIn K mainGlobals "Deal" = some (some (.ref A_Deal)))
    (q8 : PySem.W.nsIn K mainGlobals "Cover" = some (some (.ref A_Cover)))
    (q9 : PySem.W.nsIn K mainGlobals "Clause" = some (some (.ref A_Clause)))
    (q10 : PySem.W.nsIn K mainGlobals "Own" = some (some (.ref A_Own)))
    (q11 : PySem.W.nsIn K mainGlobals "Condition" = some (some (.ref A_Condition)))
    (q12 : PySem.W.nsIn K mainGlobals "CauseIs" = some (some (.ref A_CauseIs)))
    (q13 : PySem.W.nsIn K mainGlobals "ThingIs" = some (some (.ref A_ThingIs)))
    (q14 : PySem.W.nsIn K mainGlobals "Over" = some (some (.ref A_Over)))
    (q15 : PySem.W.nsIn K mainGlobals "is_whole" = some (some (.ref f0)))
    (q16 : K.lookup f0 = some ⟨v0, o0, .func (PySem.W.fnOf "is_whole" "is_whole" (defArgs s_is_whole) (defBody s_is_whole) (defScope s_is_whole) .none v1 v2 v3 o1 v4 v5), s0⟩)
    (q17 : PySem.W.codeIn K v4 "is_whole" = true)
    (q18 : PySem.W.keepIn K (.ref f0) = true)
    (q19 : PySem.W.nsIn K mainGlobals "show_cents" = some (some (.ref f1)))
    (q20 : K.lookup f1 = some ⟨v6, o2, .func (PySem.W.fnOf "show_cents" "show_cents" (defArgs s_show_cents) (defBody s_show_cents) (defScope s_show_cents) .none v7 v8 v9 o3 v10 v11), s1⟩)
    (q21 : PySem.W.codeIn K v10 "show_cents" = true)
    (q22 : PySem.W.keepIn K (.ref f1) = true)
    (q23 : PySem.W.nsIn K mainGlobals "is_name" = some (some (.ref f2)))
    (q24 : K.lookup f2 = some ⟨v12, o4, .func (PySem.W.fnOf "is_name" "is_name" (defArgs s_is_name) (defBody s_is_name) (defScope s_is_name) .none v13 v14 v15 o5 v16 v17), s2⟩)
    (q25 : PySem.W.codeIn K v16 "is_name" = true)
    (q26 : PySem.W.keepIn K (.ref f2) = true)
    (q27 : PySem.W.nsIn K mainGlobals "is_amount" = some (some (.ref f3)))
    (q28 : K.lookup f3 = some ⟨v18, o6, .func (PySem.W.fnOf "is_amount" "is_amount" (defArgs s_is_amount) (defBody s_is_amount) (defScope s_is_amount) .none v19 v20 v21 o7 v22 v23), s3⟩)
    (q29 : PySem.W.codeIn K v22 "is_amount" = true)
    (q30 : PySem.W.keepIn K (.ref f3) = true)
    (q31 : PySem.W.nsIn K mainGlobals "total_of" = some (some (.ref f4)))
    (q32 : K.lookup f4 = some ⟨v24, o8, .func (PySem.W.fnOf "total_of" "total_of" (defArgs s_total_of) (defBody s_total_of) (defScope s_total_of) .none v25 v26 v27 o9 v28 v29), s4⟩)
    (q33 : PySem.W.codeIn K v28 "total_of" = true)
    (q34 : PySem.W.keepIn K (.ref f4) = true)
    (q35 : PySem.W.nsIn K mainGlobals "due_by" = some (some (.ref f5)))
    (q36 : K.lookup f5 = some ⟨v30, o10, .func (PySem.W.fnOf "due_by" "due_by" (defArgs s_due_by) (defBody s_due_by) (defScope s_due_by) .none v31 v32 v33 o11 v34 v35), s5⟩)
    (q37 : PySem.W.codeIn K v34 "due_by" = true)
    (q38 : PySem.W.keepIn K (.ref f5) = true)
    (q39 : PySem.W.nsIn K mainGlobals "next_place" = some (some (.ref f6)))
    (q40 : K.lookup f6 = some ⟨v36, o12, .func (PySem.W.fnOf "next_place" "next_place" (defArgs s_next_place) (defBody s_next_place) (defScope s_next_place) .none v37 v38 v39 o13 v40 v41), s6⟩)
    (q41 : PySem.W.codeIn K v40 "next_place" = true)
    (q42 : PySem.W.keepIn K (.ref f6) = true)
    (q43 : PySem.W.nsIn K mainGlobals "turns" = some (some (.ref f7)))
    (q44 : K.lookup f7 = some ⟨v42, o14, .func (PySem.W.fnOf "turns" "turns" (defArgs s_turns) (defBody s_turns) (defScope s_turns) .none v43 v44 v45 o15 v46 v47), s7⟩)
    (q45 : PySem.W.codeIn K v46 "turns" = true)
    (q46 : PySem.W.keepIn K (.ref f7) = true)
    (q47 : PySem.W.nsIn K mainGlobals "need_houses" = some (some (.ref f8)))
    (q48 : K.lookup f8 = some ⟨v48, o16, .func (PySem.W.fnOf "need_houses" "need_houses" (defArgs s_need_houses) (defBody s_need_houses) (defScope s_need_houses) .none v49 v50 v51 o17 v52 v53), s8⟩)
    (q49 : PySem.W.codeIn K v52 "need_houses" = true)
    (q50 : PySem.W.keepIn K (.ref f8) = true)
    (q51 : PySem.W.nsIn K mainGlobals "need_amount" = some (some (.ref f9)))
    (q52 : K.lookup f9 = some ⟨v54, o18, .func (PySem.W.fnOf "need_amount" "need_amount" (defArgs s_need_amount) (defBody s_need_amount) (defScope s_need_amount) .none v55 v56 v57 o19 v58 v59), s9⟩)
    (q53 : PySem.W.codeIn K v58 "need_amount" = true)
    (q54 : PySem.W.keepIn K (.ref f9) = true)
    (q55 : PySem.W.nsIn K mainGlobals "_law_cell" = some (some (.ref f10)))
    (q56 : K.lookup f10 = some ⟨v60, o20, .func (PySem.W.fnOf "_law_cell" "_law_cell" (defArgs s_l_cell) (defBody s_l_cell) (defScope s_l_cell) .none v61 v62 v63 o21 v64 v65), s10⟩)
    (q57 : PySem.W.codeIn K v64 "_law_cell" = true)
    (q58 : PySem.W.keepIn K (.ref f10) = true)
    (q59 : PySem.W.nsIn K mainGlobals "_law_names" = some (some (.ref f11)))
    (q60 : K.lookup f11 = some ⟨v66, o22, .func (PySem.W.fnOf "_law_names" "_law_names" (defArgs s_l_names) (defBody s_l_names) (defScope s_l_names) .none v67 v68 v69 o23 v70 v71), s11⟩)
    (q61 : PySem.W.codeIn K v70 "_law_names" = true)
    (q62 : PySem.W.keepIn K (.ref f11) = true)
    (q63 : PySem.W.nsIn K mainGlobals "_law_houses" = some (some (.ref f12)))
    (q64 : K.lookup f12 = some ⟨v72, o24, .func (PySem.W.fnOf "_law_houses" "_law_houses" (defArgs s_l_houses) (defBody s_l_houses) (defScope s_l_houses) .none v73 v74 v75 o25 v76 v77), s12⟩)
    (q65 : PySem.W.codeIn K v76 "_law_houses" = true)
    (q66 : PySem.W.keepIn K (.ref f12) = true)
    (q67 : PySem.W.nsIn K mainGlobals "_law_refused" = some (some (.ref f13)))
    (q68 : K.lookup f13 = some ⟨v78, o26, .func (PySem.W.fnOf "_law_refused" "_law_refused" (defArgs s_l_refused) (defBody s_l_refused) (defScope s_l_refused) .none v79 v80 v81 o27 v82 v83), s13⟩)
    (q69 : PySem.W.codeIn K v82 "_law_refused" = true)
    (q70 : PySem.W.keepIn K (.ref f13) = true)
    (q71 : PySem.W.nsIn K mainGlobals "_law_bad_pairs" = some (some (.ref f14)))
    (q72 : K.lookup f14 = some ⟨v84, o28, .func (PySem.W.fnOf "_law_bad_pairs" "_law_bad_pairs" (defArgs s_l_bad_pairs) (defBody s_l_bad_pairs) (defScope s_l_bad_pairs) .none v85 v86 v87 o29 v88 v89), s14⟩)
    (q73 : PySem.W.codeIn K v88 "_law_bad_pairs" = true)
    (q74 : PySem.W.keepIn K (.ref f14) = true)
    (q75 : PySem.W.nsIn K mainGlobals "_law_kept" = some (some (.ref f15)))
    (q76 : K.lookup f15 = some ⟨v90, o30, .func (PySem.W.fnOf "_law_kept" "_law_kept" (defArgs s_l_kept) (defBody s_l_kept) (defScope s_l_kept) .none v91 v92 v93 o31 v94 v95), s15⟩)
    (q77 : PySem.W.codeIn K v94 "_law_kept" = true)
    (q78 : PySem.W.keepIn K (.ref f15) = true)
    (q79 : PySem.W.nsIn K mainGlobals "_law_asks" = some (some (.ref f16)))
    (q80 : K.lookup f16 = some ⟨v96, o32, .func (PySem.W.fnOf "_law_asks" "_law_asks" (defArgs s_l_asks) (defBody s_l_asks) (defScope s_l_asks) .none v97 v98 v99 o33 v100 v101), s16⟩)
    (q81 : PySem.W.codeIn K v100 "_law_asks" = true)
    (q82 : PySem.W.keepIn K (.ref f16) = true)
    (q83 : PySem.W.nsIn K mainGlobals "law" = some (some (.ref f17)))
    (q84 : K.lookup f17 = some ⟨v102, o34, .func (PySem.W.fnOf "law" "law" (defArgs s_law) (defBody s_law) (defScope s_law) .none v103 v104 v105 o35 v106 v107), s17⟩)
    (q85 : PySem.W.codeIn K v106 "law" = true)
    (q86 : PySem.W.keepIn K (.ref f17) = true)
    (q87 : PySem.W.plainGet K A_Deal Str.empty = true)
    (q88 : PySem.W.hasDictIn K A_Deal = true)
    (q89 : PySem.W.plainOver K A_Deal = true)
    (q90 : PySem.W.findIn K (.ref A_Deal) "__setattr__" = some (some (.builtin "object.__setattr__")))
    (q91 : PySem.W.findIn K (.ref A_Deal) "wheel" = some none)
    (q92 : PySem.W.findIn K (.ref A_Deal) "weights" = some none)
    (q93 : PySem.W.plainGet K A_Cover Str.empty = true)
    (q94 : PySem.W.hasDictIn K A_Cover = true)
    (q95 : PySem.W.plainOver K A_Cover = true)
    (q96 : PySem.W.findIn K (.ref A_Cover) "__setattr__" = some (some (.builtin "object.__setattr__")))
    (q97 : PySem.W.findIn K (.ref A_Cover) "name" = some none)
    (q98 : PySem.W.findIn K (.ref A_Cover) "condition" = some none)
    (q99 : PySem.W.findIn K (.ref A_Cover) "clauses" = some none)
    (q100 : PySem.W.findIn K (.ref A_Cover) "houses" = some none)
    (q101 : PySem.W.findIn K (.ref A_Cover) "deal" = some none)
    (q102 : PySem.W.findIn K (.ref A_Cover) "waits" = some none)
    (q103 : PySem.W.plainGet K A_Clause Str.empty = true)
    (q104 : PySem.W.hasDictIn K A_Clause = true)
    (q105 : PySem.W.plainOver K A_Clause = true)
    (q106 : PySem.W.findIn K (.ref A_Clause) "__setattr__" = some (some (.builtin "object.__setattr__")))
    (q107 : PySem.W.findIn K (.ref A_Clause) "by" = some none)
    (q108 : PySem.W.plainGet K A_Own Str.empty = true)
    (q109 : PySem.W.hasDictIn K A_Own = true)
    (q110 : PySem.W.plainOver K A_Own = true)
    (q111 : PySem.W.findIn K (.ref A_Own) "__setattr__" = some (some (.builtin "object.__setattr__")))
    (q112 : PySem.W.findIn K (.ref A_Own) "cents" = some none)
    (q113 : PySem.W.findIn K (.ref A_Own) "by" = some none)
    (q114 : PySem.W.plainGet K A_Condition Str.empty = true)
    (q115 : PySem.W.hasDictIn K A_Condition = true)
    (q116 : PySem.W.plainOver K A_Condition = true)
    (q117 : PySem.W.findIn K (.ref A_Condition) "__setattr__" = some (some (.builtin "object.__setattr__")))
    (q118 : PySem.W.plainGet K A_CauseIs Str.empty = true)
    (q119 : PySem.W.hasDictIn K A_CauseIs = true)
    (q120 : PySem.W.plainOver K A_CauseIs = true)
    (q121 : PySem.W.findIn K (.ref A_CauseIs) "__setattr__" = some (some (.builtin "object.__setattr__")))
    (q122 : PySem.W.findIn K (.ref A_CauseIs) "name" = some none)
    (q123 : PySem.W.plainGet K A_ThingIs Str.empty = true)
    (q124 : PySem.W.hasDictIn K A_ThingIs = true)
    (q125 : PySem.W.plainOver K A_ThingIs = true)
    (q126 : PySem.W.findIn K (.ref A_ThingIs) "__setattr__" = some (some (.builtin "object.__setattr__")))
    (q127 : PySem.W.findIn K (.ref A_ThingIs) "name" = some none)
    (q128 : PySem.W.plainGet K A_Over Str.empty = true)
    (q129 : PySem.W.hasDictIn K A_Over = true)
    (q130 : PySem.W.plainOver K A_Over = true)
    (q131 : PySem.W.findIn K (.ref A_Over) "__setattr__" = some (some (.builtin "object.__setattr__")))
    (q132 : PySem.W.findIn K (.ref A_Over) "cents" = some none)
    (q133 : PySem.W.findIn K (.ref A_Deal) "__init__" = some (some (.ref f18)))
    (q134 : K.lookup f18 = some ⟨v108, o36, .func (PySem.W.fnOf "__init__" "Deal.__init__" (defArgs s_Deal_init) (defBody s_Deal_init) (defScope s_Deal_init) .none v109 v110 v111 o37 v112 v113), s18⟩)
    (q135 : PySem.W.codeIn K v112 "Deal.__init__" = true)
    (q136 : PySem.W.keepIn K (.ref f18) = true)
    (q137 : PySem.W.isFn K (.ref f18) = true)
    (q138 : PySem.W.findIn K (.ref A_Deal) "counts_to" = some (some (.ref f19)))
    (q139 : K.lookup f19 = some ⟨v114, o38, .func (PySem.W.fnOf "counts_to" "Deal.counts_to" (defArgs s_Deal_counts_to) (defBody s_Deal_counts_to) (defScope s_Deal_counts_to) .none v115 v116 v117 o39 v118 v119), s19⟩)
    (q140 : PySem.W.codeIn K v118 "Deal.counts_to" = true)
    (q141 : PySem.W.keepIn K (.ref f19) = true)
    (q142 : PySem.W.isFn K (.ref f19) = true)
    (q143 : PySem.W.findIn K (.ref A_Cover) "__init__" = some (some (.ref f20)))
    (q144 : K.lookup f20 = some ⟨v120, o40, .func (PySem.W.fnOf "__init__" "Cover.__init__" (defArgs s_Cover_init) (defBody s_Cover_init) (defScope s_Cover_init) (.ref f21) v121 v122 v123 o41 v124 v125), s20⟩)
    (q145 : PySem.W.codeIn K v124 "Cover.__init__" = true)
    (q146 : PySem.W.keepIn K (.ref f20) = true)
    (q147 : K.lookup f21 = some ⟨v126, o42, .seq #[.none, .none, .bool false] n0, s21⟩)
    (q148 : PySem.W.isFn K (.ref f20) = true)
    (q149 : PySem.W.findIn K (.ref A_Cover) "asks" = some (some (.ref f22)))
    (q150 : K.lookup f22 = some ⟨v127, o43, .func (PySem.W.fnOf "asks" "Cover.asks" (defArgs s_Cover_asks) (defBody s_Cover_asks) (defScope s_Cover_asks) .none v128 v129 v130 o44 v131 v132), s22⟩)
    (q151 : PySem.W.codeIn K v131 "Cover.asks" = true)
    (q152 : PySem.W.keepIn K (.ref f22) = true)
    (q153 : PySem.W.isFn K (.ref f22) = true)
    (q154 : PySem.W.findIn K (.ref A_Clause) "__init__" = some (some (.ref f23)))
    (q155 : K.lookup f23 = some ⟨v133, o45, .func (PySem.W.fnOf "__init__" "Clause.__init__" (defArgs s_Clause_init) (defBody s_Clause_init) (defScope s_Clause_init) .none v134 v135 v136 o46 v137 v138), s23⟩)
    (q156 : PySem.W.codeIn K v137 "Clause.__init__" = true)
    (q157 : PySem.W.keepIn K (.ref f23) = true)
    (q158 : PySem.W.isFn K (.ref f23) = true)
    (q159 : PySem.W.findIn K (.ref A_Own) "__init__" = some (some (.ref f24)))
    (q160 : K.lookup f24 = some ⟨v139, o47, .func (PySem.W.fnOf "__init__" "Own.__init__" (defArgs s_Own_init) (defBody s_Own_init) (defScope s_Own_init) .none v140 v141 v142 o48 v143 v144), s24⟩)
    (q161 : PySem.W.codeIn K v143 "Own.__init__" = true)
    (q162 : PySem.W.keepIn K (.ref f24) = true)
    (q163 : PySem.W.isFn K (.ref f24) = true)
    (q164 : PySem.W.findIn K (.ref A_Own) "words" = some (some (.ref f25)))
    (q165 : K.lookup f25 = some ⟨v145, o49, .func (PySem.W.fnOf "words" "Own.words" (defArgs s_Own_words) (defBody s_Own_words) (defScope s_Own_words) .none v146 v147 v148 o50 v149 v150), s25⟩)
    (q166 : PySem.W.codeIn K v149 "Own.words" = true)
    (q167 : PySem.W.keepIn K (.ref f25) = true)
    (q168 : PySem.W.isFn K (.ref f25) = true)
    (q169 : PySem.W.findIn K (.ref A_CauseIs) "__init__" = some (some (.ref f26)))
    (q170 : K.lookup f26 = some ⟨v151, o51, .func (PySem.W.fnOf "__init__" "CauseIs.__init__" (defArgs s_CauseIs_init) (defBody s_CauseIs_init) (defScope s_CauseIs_init) .none v152 v153 v154 o52 v155 v156), s26⟩)
    (q171 : PySem.W.codeIn K v155 "CauseIs.__init__" = true)
    (q172 : PySem.W.keepIn K (.ref f26) = true)
    (q173 : PySem.W.isFn K (.ref f26) = true)
    (q174 : PySem.W.findIn K (.ref A_CauseIs) "holds" = some (some (.ref f27)))
    (q175 : K.lookup f27 = some ⟨v157, o53, .func (PySem.W.fnOf "holds" "CauseIs.holds" (defArgs s_CauseIs_holds) (defBody s_CauseIs_holds) (defScope s_CauseIs_holds) .none v158 v159 v160 o54 v161 v162), s27⟩)
    (q176 : PySem.W.codeIn K v161 "CauseIs.holds" = true)
    (q177 : PySem.W.keepIn K (.ref f27) = true)
    (q178 : PySem.W.isFn K (.ref f27) = true)
    (q179 : PySem.W.findIn K (.ref A_CauseIs) "words" = some (some (.ref f28)))
    (q180 : K.lookup f28 = some ⟨v163, o55, .func (PySem.W.fnOf "words" "CauseIs.words" (defArgs s_CauseIs_words) (defBody s_CauseIs_words) (defScope s_CauseIs_words) .none v164 v165 v166 o56 v167 v168), s28⟩)
    (q181 : PySem.W.codeIn K v167 "CauseIs.words" = true)
    (q182 : PySem.W.keepIn K (.ref f28) = true)
    (q183 : PySem.W.isFn K (.ref f28) = true)
    (q184 : PySem.W.findIn K (.ref A_ThingIs) "__init__" = some (some (.ref f29)))
    (q185 : K.lookup f29 = some ⟨v169, o57, .func (PySem.W.fnOf "__init__" "ThingIs.__init__" (defArgs s_ThingIs_init) (defBody s_ThingIs_init) (defScope s_ThingIs_init) .none v170 v171 v172 o58 v173 v174), s29⟩)
    (q186 : PySem.W.codeIn K v173 "ThingIs.__init__" = true)
    (q187 : PySem.W.keepIn K (.ref f29) = true)
    (q188 : PySem.W.isFn K (.ref f29) = true)
    (q189 : PySem.W.findIn K (.ref A_ThingIs) "holds" = some (some (.ref f30)))
    (q190 : K.lookup f30 = some ⟨v175, o59, .func (PySem.W.fnOf "holds" "ThingIs.holds" (defArgs s_ThingIs_holds) (defBody s_ThingIs_holds) (defScope s_ThingIs_holds) .none v176 v177 v178 o60 v179 v180), s30⟩)
    (q191 : PySem.W.codeIn K v179 "ThingIs.holds" = true)
    (q192 : PySem.W.keepIn K (.ref f30) = true)
    (q193 : PySem.W.isFn K (.ref f30) = true)
    (q194 : PySem.W.findIn K (.ref A_ThingIs) "words" = some (some (.ref f31)))
    (q195 : K.lookup f31 = some ⟨v181, o61, .func (PySem.W.fnOf "words" "ThingIs.words" (defArgs s_ThingIs_words) (defBody s_ThingIs_words) (defScope s_ThingIs_words) .none v182 v183 v184 o62 v185 v186), s31⟩)
    (q196 : PySem.W.codeIn K v185 "ThingIs.words" = true)
    (q197 : PySem.W.keepIn K (.ref f31) = true)
    (q198 : PySem.W.isFn K (.ref f31) = true)
    (q199 : PySem.W.findIn K (.ref A_Over) "__init__" = some (some (.ref f32)))
    (q200 : K.lookup f32 = some ⟨v187, o63, .func (PySem.W.fnOf "__init__" "Over.__init__" (defArgs s_Over_init) (defBody s_Over_init) (defScope s_Over_init) .none v188 v189 v190 o64 v191 v192), s32⟩)
    (q201 : PySem.W.codeIn K v191 "Over.__init__" = true)
    (q202 : PySem.W.keepIn K (.ref f32) = true)
    (q203 : PySem.W.isFn K (.ref f32) = true)
    (q204 : PySem.W.findIn K (.ref A_Over) "holds" = some (some (.ref f33)))
    (q205 : K.lookup f33 = some ⟨v193, o65, .func (PySem.W.fnOf "holds" "Over.holds" (defArgs s_Over_holds) (defBody s_Over_holds) (defScope s_Over_holds) .none v194 v195 v196 o66 v197 v198), s33⟩)
    (q206 : PySem.W.codeIn K v197 "Over.holds" = true)
    (q207 : PySem.W.keepIn K (.ref f33) = true)
    (q208 : PySem.W.isFn K (.ref f33) = true)
    (q209 : PySem.W.findIn K (.ref A_Over) "words" = some (some (.ref f34)))
    (q210 : K.lookup f34 = some ⟨v199, o67, .func (PySem.W.fnOf "words" "Over.words" (defArgs s_Over_words) (defBody s_Over_words) (defScope s_Over_words) .none v200 v201 v202 o68 v203 v204), s34⟩)
    (q211 : PySem.W.codeIn K v203 "Over.words" = true)
    (q212 : PySem.W.keepIn K (.ref f34) = true)
    (q213 : PySem.W.isFn K (.ref f34) = true)
    (q214 : PySem.W.makesIn K A_CauseIs = true)
    (q215 : PySem.W.keepIn K (.ref A_CauseIs) = true)
    (q216 : PySem.W.makesIn K A_Cover = true)
    (q217 : PySem.W.keepIn K (.ref A_Cover) = true)
    (q218 : PySem.W.makesIn K A_Deal = true)
    (q219 : PySem.W.keepIn K (.ref A_Deal) = true)
    (q220 : PySem.W.makesIn K A_Over = true)
    (q221 : PySem.W.keepIn K (.ref A_Over) = true)
    (q222 : PySem.W.makesIn K A_Own = true)
    (q223 : PySem.W.keepIn K (.ref A_Own) = true)
    (q224 : PySem.W.makesIn K A_ThingIs = true)
    (q225 : PySem.W.keepIn K (.ref A_ThingIs) = true)
    (q226 : PySem.W.findIn K (.ref A_Deal) "__class__" = some (some (.builtin "object.__class__")))
    (q227 : PySem.W.specialIn K (.builtin "object.__class__") "__get__" = some (some (.builtin "getset_descriptor.__get__")))
    (q228 : PySem.W.takesIn K (.builtin "object.__class__") = some true)
    (q229 : PySem.W.mroIn K A_Deal (.type "object") = some true)
    (q230 : PySem.W.kitOne K (.ref A_Deal) (.ref A_Deal) = some true)
    (q231 : PySem.W.excIn K A_NoShares veT "ValueError.__new__" = true)
    (q232 : PySem.W.subIn K (.ref A_NoShares) (.type "BaseException") = some true)
    (q233 : PySem.W.typeIn K (.ref A_NoShares) = some (.type "type"))
    (q234 : PySem.W.keepIn K (.ref A_NoShares) = true)
    (q235 : PySem.W.excIn K A_NoCover veT "ValueError.__new__" = true)
    (q236 : PySem.W.subIn K (.ref A_NoCover) (.type "BaseException") = some true)
    (q237 : PySem.W.typeIn K (.ref A_NoCover) = some (.type "type"))
    (q238 : PySem.W.keepIn K (.ref A_NoCover) = true)
    (q239 : PySem.W.excIn K A_NoClause veT "ValueError.__new__" = true)
    (q240 : PySem.W.subIn K (.ref A_NoClause) (.type "BaseException") = some true)
    (q241 : PySem.W.typeIn K (.ref A_NoClause) = some (.type "type"))
    (q242 : PySem.W.keepIn K (.ref A_NoClause) = true)
    (q243 : PySem.W.findIn K (.ref A_NoCover) "__getattribute__" = some (some (.builtin "BaseException.__getattribute__")))
    (q244 : PySem.W.findIn K (.ref A_NoCover) "__getattr__" = some none)
    (q245 : PySem.W.subIn K (.ref A_NoCover) (.type "BaseException") = some true)
    (q246 : PySem.W.hasDictIn K A_NoCover = true)
    (q247 : PySem.W.findIn K (.ref A_NoCover) "__class__" = some (some (.builtin "object.__class__")))
    (q248 : PySem.W.specialIn K (.builtin "object.__class__") "__get__" = some (some (.builtin "getset_descriptor.__get__")))
    (q249 : PySem.W.takesIn K (.builtin "object.__class__") = some true)
    (q250 : PySem.W.mroIn K A_NoCover (.type "object") = some true)
    (q251 : PySem.W.findIn K (.ref A_NoShares) "__getattribute__" = some (some (.builtin "BaseException.__getattribute__")))
    (q252 : PySem.W.findIn K (.ref A_NoShares) "__getattr__" = some none)
    (q253 : PySem.W.subIn K (.ref A_NoShares) (.type "BaseException") = some true)
    (q254 : PySem.W.hasDictIn K A_NoShares = true)
    (q255 : PySem.W.findIn K (.ref A_NoShares) "__class__" = some (some (.builtin "object.__class__")))
    (q256 : PySem.W.specialIn K (.builtin "object.__class__") "__get__" = some (some (.builtin "getset_descriptor.__get__")))
    (q257 : PySem.W.takesIn K (.builtin "object.__class__") = some true)
    (q258 : PySem.W.mroIn K A_NoShares (.type "object") = some true)
    (q259 : PySem.W.subIn K (.ref A_CoverError) (.type "BaseException") = some true)
    (q260 : PySem.W.isClsIn K A_CoverError = true)
    (q261 : PySem.W.typeIn K (.ref A_CoverError) = some (.type "type"))
    (q262 : PySem.W.subIn K (.ref A_NoCover) (.ref A_CoverError) = some true)
    (q263 : PySem.W.subIn K (.ref A_CoverError) (.type "BaseException") = some true)
    (q264 : PySem.W.isClsIn K A_CoverError = true)
    (q265 : PySem.W.typeIn K (.ref A_CoverError) = some (.type "type"))
    (q266 : PySem.W.subIn K (.ref A_NoShares) (.ref A_CoverError) = some true)
    (q267 : PySem.W.kitOne K (.ref A_NoCover) (.ref A_NoBook) = some false)
    (q268 : PySem.W.kitOne K (.ref A_NoCover) (.ref A_NoClause) = some false)
    (q269 : PySem.W.kitOne K (.ref A_NoCover) (.ref A_NoEntry) = some false)
    (q270 : PySem.W.kitOne K (.ref A_NoCover) (.ref A_NoCover) = some true)
    (q271 : PySem.W.kitOne K (.ref A_NoCover) (.ref A_NoShares) = some false)
    (q272 : PySem.W.kitOne K (.ref A_NoCover) (.type "ValueError") = some true)
    (q273 : PySem.W.kitOne K (.ref A_NoShares) (.ref A_NoBook) = some false)
    (q274 : PySem.W.kitOne K (.ref A_NoShares) (.ref A_NoClause) = some false)
    (q275 : PySem.W.kitOne K (.ref A_NoShares) (.ref A_NoEntry) = some false)
    (q276 : PySem.W.kitOne K (.ref A_NoShares) (.ref A_NoCover) = some false)
    (q277 : PySem.W.kitOne K (.ref A_NoShares) (.ref A_NoShares) = some true)
    (q278 : PySem.W.kitOne K (.ref A_NoShares) (.type "ValueError") = some true)
    (q279 : PySem.W.readsIn K A_Clause (.type "type") = true)
    (q280 : PySem.W.specialIn K (.ref A_Clause) "__getattribute__" = some (some (.builtin "type.__getattribute__")))
    (q281 : PySem.W.findCls K (.ref A_Clause) (.type "type") "__init__" = some (.val (.ref f23)))
    (q282 : PySem.W.nsIn K mainGlobals "ValueError" = some none)
    (q283 : PySem.W.nsIn K mainGlobals "bool" = some none)
    (q284 : PySem.W.nsIn K mainGlobals "LETTERS" = some (some (.str "abcdefghijklmnopqrstuvwxyz" k0)))
    (q285 : PySem.W.nsIn K mainGlobals "MOST_CENTS" = some (some (.int (999999999999) k1)))
    (q286 : PySem.W.nsIn K mainGlobals "MOST_CLAUSES" = some (some (.int (8) k2)))
    (q287 : PySem.W.nsIn K mainGlobals "MOST_PLACES" = some (some (.int (8) k3)))
    (q288 : PySem.W.nsIn K mainGlobals "MOST_TURNS" = some (some (.int (100) k4)))
    (q289 : PySem.W.nsIn K mainGlobals "WAYS" = some (some (.ref f35)))
    (q290 : K.lookup f35 = some ⟨.type "tuple", o69, .seq #[.str "event" k5, .str "thing" k6, .str "year" k7, .str "loss" k8] n1, s35⟩)
    (q291 : PySem.W.nsIn K mainGlobals "divmod" = some none)
    (q292 : PySem.W.nsIn K mainGlobals "int" = some none)
    (q293 : PySem.W.nsIn K mainGlobals "isinstance" = some none)
    (q294 : PySem.W.nsIn K mainGlobals "len" = some none)
    (q295 : PySem.W.nsIn K mainGlobals "list" = some none)
    (q296 : PySem.W.nsIn K mainGlobals "min" = some none)
    (q297 : PySem.W.nsIn K mainGlobals "range" = some none)
    (q298 : PySem.W.nsIn K mainGlobals "str" = some none)
    (q299 : PySem.W.nsIn K mainGlobals "sum" = some none)
    : ∃ fd : FuncData, (∀ (s : Shared) (v : Value), BindsTo s fd ⟨[v], []⟩ [("_law_script", v)]) ∧ ∀ base : Heap, K.In base → base.Ns mainGlobals mg → FnOk l.prog w K mg base (L2.CX l.prog w) 9 fa fd ["_law_script"] (spOf K (S_law ⟨0, 0, 0, 0, 0, 0, 0, 0, 0, 0, 0, 0, 0, 0⟩)) := by
  have e := hfa.symm.trans (PySem.W.mg_of X G q83)
  cases e
  have T : Txt K mg ⟨A_CoverError, A_NoShares, A_NoEntry, A_NoClause, A_NoCover, A_NoBook, A_Deal, A_Cover, A_Clause, A_Own, A_Condition, A_CauseIs, A_ThingIs, A_Over⟩ := ⟨
fat_mk X G q15 q16 q17 q18,
    fat_mk X G q19 q20 q21 q22,
    fat_mk X G q23 q24 q25 q26,
    fat_mk X G q27 q28 q29 q30,
    fat_mk X G q31 q32 q33 q34,
    fat_mk X G q35 q36 q37 q38,
    fat_mk X G q39 q40 q41 q42,
    fat_mk X G q43 q44 q45 q46,
    fat_mk X G q47 q48 q49 q50,
    fat_mk X G q51 q52 q53 q54,
    fat_mk X G q55 q56 q57 q58,
    fat_mk X G q59 q60 q61 q62,
    fat_mk X G q63 q64 q65 q66,
    fat_mk X G q67 q68 q69 q70,
    fat_mk X G q71 q72 q73 q74,
    fat_mk X G q75 q76 q77 q78,
    fat_mk X G q79 q80 q81 q82,
    fat_mk X G q83 q84 q85 q86,
    PySem.W.mg_of X G q1,
    PySem.W.mg_of X G q2,
    PySem.W.mg_of X G q3,
    PySem.W.mg_of X G q4,
    PySem.W.mg_of X G q5,
    PySem.W.mg_of X G q6,
    PySem.W.mg_of X G q7,
    PySem.W.mg_of X G q8,
    PySem.W.mg_of X G q9,
    PySem.W.mg_of X G q10,
    PySem.W.mg_of X G q11,
    PySem.W.mg_of X G q12,
    PySem.W.mg_of X G q13,
    PySem.W.mg_of X G q14,
    ⟨q87, q88, q89, q90⟩,
    ⟨⟨q87, q88, q89, q90⟩, q91⟩,
    ⟨⟨q87, q88, q89, q90⟩, q92⟩,
    ⟨q93, q94, q95, q96⟩,
    ⟨⟨q93, q94, q95, q96⟩, q97⟩,
    ⟨⟨q93, q94, q95, q96⟩, q98⟩,
    ⟨⟨q93, q94, q95, q96⟩, q99⟩,
    ⟨⟨q93, q94, q95, q96⟩, q100⟩,
    ⟨⟨q93, q94, q95, q96⟩, q101⟩,
    ⟨⟨q93, q94, q95, q96⟩, q102⟩,
    ⟨q103, q104, q105, q106⟩,
    ⟨⟨q103, q104, q105, q106⟩, q107⟩,
    ⟨q108, q109, q110, q111⟩,
    ⟨⟨q108, q109, q110, q111⟩, q112⟩,
    ⟨⟨q108, q109, q110, q111⟩, q113⟩,
    ⟨q114, q115, q116, q117⟩,
    ⟨q118, q119, q120, q121⟩,
    ⟨⟨q118, q119, q120, q121⟩, q122⟩,
    ⟨q123, q124, q125, q126⟩,
    ⟨⟨q123, q124, q125, q126⟩, q127⟩,
    ⟨q128, q129, q130, q131⟩,
    ⟨⟨q128, q129, q130, q131⟩, q132⟩,
    mat_mk q133 q137 q134 q135 q136,
    mat_mk q138 q142 q139 q140 q141,
    matd_mk (its := [.none, .none, .bool false]) q143 q148 q144 q145 q146 q147 rfl (.cons rfl (.cons rfl (.cons rfl (.nil)))) (by decide),
    mat_mk q149 q153 q150 q151 q152,
    mat_mk q154 q158 q155 q156 q157,
    mat_mk q159 q163 q160 q161 q162,
    mat_mk q164 q168 q165 q166 q167,
    mat_mk q169 q173 q170 q171 q172,
    mat_mk q174 q178 q175 q176 q177,
    mat_mk q179 q183 q180 q181 q182,
    mat_mk q184 q188 q185 q186 q187,
    mat_mk q189 q193 q190 q191 q192,
    mat_mk q194 q198 q195 q196 q197,
    mat_mk q199 q203 q200 q201 q202,
    mat_mk q204 q208 q205 q206 q207,
    mat_mk q209 q213 q210 q211 q212,
    q214,
    q215,
    q216,
    q217,
    q218,
    q219,
    q220,
    q221,
    q222,
    q223,
    q224,
    q225,
    ⟨⟨q87, q88, q89, q90⟩, q226, q227, q228, q229, q230⟩,
    exK_mk X G q2 q234 q231 q232 q233,
    exK_mk X G q5 q238 q235 q236 q237,
    exK_mk X G q4 q242 q239 q240 q241,
    ⟨q243, q244, q245, q246, q247, q248, q249, q250⟩,
    ⟨q251, q252, q253, q254, q255, q256, q257, q258⟩,
    cat_mk q259 q260 q261 q262,
    cat_mk q263 q264 q265 q266,
    q267,
    q268,
    q269,
    q270,
    q271,
    q272,
    q273,
    q274,
    q275,
    q276,
    q277,
    q278,
    cmAt_mk q279 q280 q154 q281,
    PySem.W.mg_none_of X G q282,
    PySem.W.mg_none_of X G q283,
    strK X G q284,
    intK X G q285,
    intK X G q286,
    intK X G q287,
    intK X G q288,
    tupK (its := [.str "event" k5, .str "thing" k6, .str "year" k7, .str "loss" k8]) (vs := [.str "event", .str "thing", .str "year", .str "loss"]) X G q289 q290 rfl rfl (Nat.le_of_ble_eq_true rfl) (.cons ⟨_, rfl⟩ (.cons ⟨_, rfl⟩ (.cons ⟨_, rfl⟩ (.cons ⟨_, rfl⟩ (.nil))))) (fun _ _ => .cons (.str _) (.cons (.str _) (.cons (.str _) (.cons (.str _) (.nil))))),
    PySem.W.mg_none_of X G q291,
    PySem.W.mg_none_of X G q292,
    PySem.W.mg_none_of X G q293,
    PySem.W.mg_none_of X G q294,
    PySem.W.mg_none_of X G q295,
    PySem.W.mg_none_of X G q296,
    PySem.W.mg_none_of X G q297,
    PySem.W.mg_none_of X G q298,
    PySem.W.mg_none_of X G q299⟩
  have F := fun_mk (st := s_law) q84 q85 q86
  exact ⟨_, fun s v => .of_eq rfl, fun base _ _ => law_ok T F⟩
theorem walk {l : PySem.W.OpenLaw} {q : Program} {loose : List Str} {XP : (Str → Option Value) → Heap → Prop} {YP : World → Heap → Prop} {d : DefRec} {K : Params → PySem.W.Frag} (hn : l.most = some 63) (hdf : d.params.defaults = [])
    (hY : ∀ (w : World) (h : Heap), YP w h → (K w.params).In h)
    (F : ∀ (w : World) (mg : Str → Option Value) (fa : Addr) (h : Heap), (K w.params).In h → h.Ns mainGlobals mg → mg d.name = some (.ref fa) →
      ∃ fd : FuncData, (∀ (s : Shared) (u : Value), BindsTo s fd ⟨[u], []⟩ [("_law_script", u)]) ∧ ∀ base : Heap, (K w.params).In base → base.Ns mainGlobals mg → FnOk l.prog w (K w.params) mg base (L2.CX l.prog w) 9 fa fd ["_law_script"] (spOf (K w.params) (S_law ⟨0, 0, 0, 0, 0, 0, 0, 0, 0, 0, 0, 0, 0, 0⟩))) :
    PySem.W.WalkO q loose XP YP l.row.toRowW d [] (fun f vs => PySem.call f vs) :=
  L2.walk_of (n := 63) (k := 9) (x := "_law_script") (CX := fun w => L2.CX l.prog w) (sp := fun w => spOf (K w.params) (S_law ⟨0, 0, 0, 0, 0, 0, 0, 0, 0, 0, 0, 0, 0, 0⟩)) hn (by decide) hdf ⟨rfl, by decide, by decide⟩ hY F (fun _ _ _ ns hl _ hS => sp_end hS ⟨ns, rfl, hl, fun _ => rfl⟩) fun w H s e s' h => cx_end w H s e s' h
end K38
set_option Elab.async false
set_option linter.all false
open PySem PySem.W PyProof.Rows
set_option maxRecDepth 100000 in
set_option maxHeartbeats 0 in
theorem PySem.Challenge.cw_coverroll_k38_no_covers_holds : PySem.Challenge.rw_coverroll_k38_no_covers.Holds := by
  w_on; o_law; k_head; (case hw => w_witness2)
  k_fill
  refine K38.walk (l := PySem.Challenge.rw_coverroll_k38_no_covers) rfl rfl (fun w h Y => PySem.W.kIn_of Y) ?F
  case F =>
    intro w mg fa h KX G hmg
    refine' K38.all_mk KX G hmg ?q1 ?q2 ?q3 ?q4 ?q5 ?q6 ?q7 ?q8 ?q9 ?q10 ?q11 ?q12 ?q13 ?q14 ?q15 ?q16 ?q17 ?q18 ?q19 ?q20 ?q21 ?q22 ?q23 ?q24 ?q25 ?q26 ?q27 ?q28 ?q29 ?q30 ?q31 ?q32 ?q33 ?q34 ?q35 ?q36 ?q37 ?q38 ?q39 ?q40 ?q41 ?q42 ?q43 ?q44 ?q45 ?q46 ?q47 ?q48 ?q49 ?q50 ?q51 ?q52 ?q53 ?q54 ?q55 ?q56 ?q57 ?q58 ?q59 ?q60 ?q61 ?q62 ?q63 ?q64 ?q65 ?q66 ?q67 ?q68 ?q69 ?q70 ?q71 ?q72 ?q73 ?q74 ?q75 ?q76 ?q77 ?q78 ?q79 ?q80 ?q81 ?q82 ?q83 ?q84 ?q85 ?q86 ?q87 ?q88 ?q89 ?q90 ?q91 ?q92 ?q93 ?q94 ?q95 ?q96 ?q97 ?q98 ?q99 ?q100 ?q101 ?q102 ?q103 ?q104 ?q105 ?q106 ?q107 ?q108 ?q109 ?q110 ?q111 ?q112 ?q113 ?q114 ?q115 ?q116 ?q117 ?q118 ?q119 ?q120 ?q121 ?q122 ?q123 ?q124 ?q125 ?q126 ?q127 ?q128 ?q129 ?q130 ?q131 ?q132 ?q133 ?q134 ?q135 ?q136 ?q137 ?q138 ?q139 ?q140 ?q141 ?q142 ?q143 ?q144 ?q145 ?q146 ?q147 ?q148 ?q149 ?q150 ?q151 ?q152 ?q153 ?q154 ?q155 ?q156 ?q157 ?q158 ?q159 ?q160 ?q161 ?q162 ?q163 ?q164 ?q165 ?q166 ?q167 ?q168 ?q169 ?q170 ?q171 ?q172 ?q173 ?q174 ?q175 ?q176 ?q177 ?q178 ?q179 ?q180 ?q181 ?q182 ?q183 ?q184 ?q185 ?q186 ?q187 ?q188 ?q189 ?q190 ?q191 ?q192 ?q193 ?q194 ?q195 ?q196 ?q197 ?q198 ?q199 ?q200 ?q201 ?q202 ?q203 ?q204 ?q205 ?q206 ?q207 ?q208 ?q209 ?q210 ?q211 ?q212 ?q213 ?q214 ?q215 ?q216 ?q217 ?q218 ?q219 ?q220 ?q221 ?q222 ?q223 ?q224 ?q225 ?q226 ?q227 ?q228 ?q229 ?q230 ?q231 ?q232 ?q233 ?q234 ?q235 ?q236 ?q237 ?q238 ?q239 ?q240 ?q241 ?q242 ?q243 ?q244 ?q245 ?q246 ?q247 ?q248 ?q249 ?q250 ?q251 ?q252 ?q253 ?q254 ?q255 ?q256 ?q257 ?q258 ?q259 ?q260 ?q261 ?q262 ?q263 ?q264 ?q265 ?q266 ?q267 ?q268 ?q269 ?q270 ?q271 ?q272 ?q273 ?q274 ?q275 ?q276 ?q277 ?q278 ?q279 ?q280 ?q281 ?q282 ?q283 ?q284 ?q285 ?q286 ?q287 ?q288 ?q289 ?q290 ?q291 ?q292 ?q293 ?q294 ?q295 ?q296 ?q297 ?q298 ?q299
    (case q1 => k_is)
    (case q2 => k_is)
    (case q3 => k_is)
    (case q4 => k_is)
    (case q5 => k_is)
    (case q6 => k_is)
    (case q7 => k_is)
    (case q8 => k_is)
    (case q9 => k_is)
    (case q10 => k_is)
    (case q11 => k_is)
    (case q12 => k_is)
    (case q13 => k_is)
    (case q14 => k_is)
    (case q15 => k_is)
    (case q16 => k_is)
    (case q17 => k_is)
    (case q18 => k_is)
    (case q19 => k_is)
    (case q20 => k_is)
    (case q21 => k_is)
    (case q22 => k_is)
    (case q23 => k_is)
    (case q24 => k_is)
    (case q25 => k_is)
    (case q26 => k_is)
    (case q27 => k_is)
    (case q28 => k_is)
    (case q29 => k_is)
    (case q30 => k_is)
    (case q31 => k_is)
    (case q32 => k_is)
    (case q33 => k_is)
    (case q34 => k_is)
    (case q35 => k_is)
    (case q36 => k_is)
    (case q37 => k_is)
    (case q38 => k_is)
    (case q39 => k_is)
    (case q40 => k_is)
    (case q41 => k_is)
    (case q42 => k_is)
    (case q43 => k_is)
    (case q44 => k_is)
    (case q45 => k_is)
    (case q46 => k_is)
    (case q47 => k_is)
    (case q48 => k_is)
    (case q49 => k_is)
    (case q50 => k_is)
    (case q51 => k_is)
    (case q52 => k_is)
    (case q53 => k_is)
    (case q54 => k_is)
    (case q55 => k_is)
    (case q56 => k_is)
    (case q57 => k_is)
    (case q58 => k_is)
    (case q59 => k_is)
    (case q60 => k_is)
    (case q61 => k_is)
    (case q62 => k_is)
    (case q63 => k_is)
    (case q64 => k_is)
    (case q65 => k_is)
    (case q66 => k_is)
    (case q67 => k_is)
    (case q68 => k_is)
    (case q69 => k_is)
    (case q70 => k_is)
    (case q71 => k_is)
    (case q72 => k_is)
    (case q73 => k_is)
    (case q74 => k_is)
    (case q75 => k_is)
    (case q76 => k_is)
    (case q77 => k_is)
    (case q78 => k_is)
    (case q79 => k_is)
    (case q80 => k_is)
    (case q81 => k_is)
    (case q82 => k_is)
    (case q83 => k_is)
    (case q84 => k_is)
    (case q85 => k_is)
    (case q86 => k_is)
    (case q87 => k_is)
    (case q88 => k_is)
    (case q89 => k_is)
    (case q90 => k_is)
    (case q91 => k_is)
    (case q92 => k_is)
    (case q93 => k_is)
    (case q94 => k_is)
    (case q95 => k_is)
    (case q96 => k_is)
    (case q97 => k_is)
    (case q98 => k_is)
    (case q99 => k_is)
    (case q100 => k_is)
    (case q101 => k_is)
    (case q102 => k_is)
    (case q103 => k_is)
    (case q104 => k_is)
    (case q105 => k_is)
    (case q106 => k_is)
    (case q107 => k_is)
    (case q108 => k_is)
    (case q109 => k_is)
    (case q110 => k_is)
    (case q111 => k_is)
    (case q112 => k_is)
    (case q113 => k_is)
    (case q114 => k_is)
    (case q115 => k_is)
    (case q116 => k_is)
    (case q117 => k_is)
    (case q118 => k_is)
    (case q119 => k_is)
    (case q120 => k_is)
    (case q121 => k_is)
    (case q122 => k_is)
    (case q123 => k_is)
    (case q124 => k_is)
    (case q125 => k_is)
    (case q126 => k_is)
    (case q127 => k_is)
    (case q128 => k_is)
    (case q129 => k_is)
    (case q130 => k_is)
    (case q131 => k_is)
    (case q132 => k_is)
    (case q133 => k_is)
    (case q134 => k_is)
    (case q135 => k_is)
    (case q136 => k_is)
    (case q137 => k_is)
    (case q138 => k_is)
    (case q139 => k_is)
    (case q140 => k_is)
    (case q141 => k_is)
    (case q142 => k_is)
    (case q143 => k_is)
    (case q144 => k_is)
    (case q145 => k_is)
    (case q146 => k_is)
    (case q147 => k_is)
    (case q148 => k_is)
    (case q149 => k_is)
    (case q150 => k_is)
    (case q151 => k_is)
    (case q152 => k_is)
    (case q153 => k_is)
    (case q154 => k_is)
    (case q155 => k_is)
    (case q156 => k_is)
    (case q157 => k_is)
    (case q158 => k_is)
    (case q159 => k_is)
    (case q160 => k_is)
    (case q161 => k_is)
    (case q162 => k_is)
    (case q163 => k_is)
    (case q164 => k_is)
    (case q165 => k_is)
    (case q166 => k_is)
    (case q167 => k_is)
    (case q168 => k_is)
    (case q169 => k_is)
    (case q170 => k_is)
    (case q171 => k_is)
    (case q172 => k_is)
    (case q173 => k_is)
    (case q174 => k_is)
    (case q175 => k_is)
    (case q176 => k_is)
    (case q177 => k_is)
    (case q178 => k_is)
    (case q179 => k_is)
    (case q180 => k_is)
    (case q181 => k_is)
    (case q182 => k_is)
    (case q183 => k_is)
    (case q184 => k_is)
    (case q185 => k_is)
    (case q186 => k_is)
    (case q187 => k_is)
    (case q188 => k_is)
    (case q189 => k_is)
    (case q190 => k_is)
    (case q191 => k_is)
    (case q192 => k_is)
    (case q193 => k_is)
    (case q194 => k_is)
    (case q195 => k_is)
    (case q196 => k_is)
    (case q197 => k_is)
    (case q198 => k_is)
    (case q199 => k_is)
    (case q200 => k_is)
    (case q201 => k_is)
    (case q202 => k_is)
    (case q203 => k_is)
    (case q204 => k_is)
    (case q205 => k_is)
    (case q206 => k_is)
    (case q207 => k_is)
    (case q208 => k_is)
    (case q209 => k_is)
    (case q210 => k_is)
    (case q211 => k_is)
    (case q212 => k_is)
    (case q213 => k_is)
    (case q214 => k_is)
    (case q215 => k_is)
    (case q216 => k_is)
    (case q217 => k_is)
    (case q218 => k_is)
    (case q219 => k_is)
    (case q220 => k_is)
    (case q221 => k_is)
    (case q222 => k_is)
    (case q223 => k_is)
    (case q224 => k_is)
    (case q225 => k_is)
    (case q226 => k_is)
    (case q227 => k_is)
    (case q228 => k_is)
    (case q229 => k_is)
    (case q230 => kit_is)
    (case q231 => k_exc)
    (case q232 => k_is)
    (case q233 => k_is)
    (case q234 => k_is)
    (case q235 => k_exc)
    (case q236 => k_is)
    (case q237 => k_is)
    (case q238 => k_is)
    (case q239 => k_exc)
    (case q240 => k_is)
    (case q241 => k_is)
    (case q242 => k_is)
    (case q243 => k_is)
    (case q244 => k_is)
    (case q245 => k_is)
    (case q246 => k_is)
    (case q247 => k_is)
    (case q248 => k_is)
    (case q249 => k_is)
    (case q250 => k_is)
    (case q251 => k_is)
    (case q252 => k_is)
    (case q253 => k_is)
    (case q254 => k_is)
    (case q255 => k_is)
    (case q256 => k_is)
    (case q257 => k_is)
    (case q258 => k_is)
    (case q259 => k_is)
    (case q260 => k_is)
    (case q261 => k_is)
    (case q262 => k_is)
    (case q263 => k_is)
    (case q264 => k_is)
    (case q265 => k_is)
    (case q266 => k_is)
    (case q267 => kit_is)
    (case q268 => kit_is)
    (case q269 => kit_is)
    (case q270 => kit_is)
    (case q271 => kit_is)
    (case q272 => kit_is)
    (case q273 => kit_is)
    (case q274 => kit_is)
    (case q275 => kit_is)
    (case q276 => kit_is)
    (case q277 => kit_is)
    (case q278 => kit_is)
    (case q279 => k_is)
    (case q280 => k_is)
    (case q281 => k_is)
    (case q282 => k_is)
    (case q283 => k_is)
    (case q284 => k_is)
    (case q285 => k_is)
    (case q286 => k_is)
    (case q287 => k_is)
    (case q288 => k_is)
    (case q289 => k_is)
    (case q290 => k_is)
    (case q291 => k_is)
    (case q292 => k_is)
    (case q293 => k_is)
    (case q294 => k_is)
    (case q295 => k_is)
    (case q296 => k_is)
    (case q297 => k_is)
    (case q298 => k_is)
    (case q299 => k_is)
