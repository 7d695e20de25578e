import PyProof.Rows.All
import Wide.All
import OpenK.AllK
import Wide.FinOn
import HandS.ForMost
import HandS.IsInst
import HandS.DictComp
import HandS.SetKeys
import HandS.Conv
import HandS.More
import HandS.Deep
import HandS.Zip
import HandS.TupLen
import HandS.TupSets
import HandS.SortInts
import HandS.Flow
import HandS.Style
import HandS.Wide
import HandS.Defaults
import HandS.ExcOwn
import HandS.TryOnly
import HandS.Exc
import HandS.CallLocal
import HandS.Replace
import HandS.Walk
import HandS.Lambda
import HandS.EndTab
import HandS.WordsExc
import KE.GoesEnum
import KE.KDictKeyed
import KE.KeyNested
import KE.KDictDisplayH
import PySem.Challenge.RW_anyscribe_k19_whole_apart
import HandS.StrMore
section
set_option Elab.async false
set_option linter.all false
/-! The mathematics: what the program computes, in plain Lean. -/
namespace An

/-! ### loops -/
section
variable {S : Type}
inductive Runs (step : S → Option S) (I : S → Prop) : Nat → S → S → Prop
  | stop {s : S} : I s → step s = none → Runs step I 0 s s
  | go {m : Nat} {s s' t : S} : I s → step s = some s' → Runs step I m s' t → Runs step I (m + 1) s t
theorem runs_of {step : S → Option S} {I : S → Prop} (mu : S → Nat) (h : ∀ s s', I s → step s = some s' → I s' ∧ mu s' < mu s) : ∀ s, I s → ∃ m t, Runs step I m s t := by
  have key : ∀ k s, mu s ≤ k → I s → ∃ m t, Runs step I m s t := by
    intro k
    induction k with
    | zero =>
      intro s hs i
      cases e : step s with
      | none => exact ⟨0, s, .stop i e⟩
      | some s' =>
        have := (h s s' i e).2
        omega
    | succ k ih =>
      intro s hs i
      cases e : step s with
      | none => exact ⟨0, s, .stop i e⟩
      | some s' =>
        obtain ⟨i', l⟩ := h s s' i e
        obtain ⟨m, t, r⟩ := ih s' (by omega) i'
        exact ⟨m + 1, t, .go i e r⟩
  exact fun s i => key _ s (Nat.le_refl _) i
theorem Runs.inv {step : S → Option S} {I : S → Prop} {m : Nat} {s t : S} (r : Runs step I m s t) : I s := by cases r <;> assumption
theorem Runs.last {step : S → Option S} {I : S → Prop} {m : Nat} {s t : S} (r : Runs step I m s t) : I t ∧ step t = none := by
  induction r with
  | stop i e => exact ⟨i, e⟩
  | go _ _ _ ih => exact ih
theorem Runs.any {step : S → Option S} {I : S → Prop} {m : Nat} {s t : S} (r : Runs step I m s t) : Runs step (fun _ => True) m s t := by
  induction r with
  | stop i e => exact .stop trivial e
  | go _ e _ ih => exact .go trivial e ih
theorem Runs.det {step : S → Option S} {I J : S → Prop} {m n : Nat} {s t u : S} (r : Runs step I m s t) (q : Runs step J n s u) : t = u := by
  induction r generalizing n with
  | stop i e =>
    cases q with
    | stop _ _ => rfl
    | go _ e' _ => rw [e] at e'; cases e'
  | go i e r ih =>
    cases q with
    | stop _ e' => rw [e] at e'; cases e'
    | go _ e' q' =>
      rw [e] at e'
      cases e'
      exact ih q'
open Classical in
noncomputable def fin [Inhabited S] (step : S → Option S) (s : S) : S := if h : ∃ t, ∃ m, Runs step (fun _ => True) m s t then h.choose else default
theorem fin_eq [Inhabited S] {step : S → Option S} {I : S → Prop} {m : Nat} {s t : S} (r : Runs step I m s t) : fin step s = t := by
  have h : ∃ t, ∃ m, Runs step (fun _ => True) m s t := ⟨t, m, r.any⟩
  unfold fin
  rw [dif_pos h]
  obtain ⟨m', q⟩ := h.choose_spec
  exact q.det r
end

/-! ### lists that grow by what is new -/
section
variable {α : Type} [DecidableEq α]
def addK (f : List α) (o : α) : List α := if o ∈ f then f else f ++ [o]
def mrg (f os : List α) : List α := os.foldl addK f
theorem addK_in {f : List α} {o : α} (h : o ∈ f) : addK f o = f := by unfold addK; rw [if_pos h]
theorem addK_out {f : List α} {o : α} (h : ¬ o ∈ f) : addK f o = f ++ [o] := by unfold addK; rw [if_neg h]
theorem mem_addK {f : List α} {o x : α} : x ∈ addK f o ↔ x ∈ f ∨ x = o := by
  unfold addK
  split
  · rename_i h
    constructor
    · exact .inl
    · rintro (h' | rfl)
      · exact h'
      · exact h
  · simp
theorem nodup_addK {f : List α} {o : α} (h : f.Nodup) : (addK f o).Nodup := by
  unfold addK
  split
  · exact h
  · rename_i hn
    rw [List.nodup_append]
    refine ⟨h, by simp, ?_⟩
    intro a ha b hb e
    simp at hb
    subst hb
    subst e
    exact hn ha
theorem mem_mrg {x : α} : ∀ {os f : List α}, x ∈ mrg f os ↔ x ∈ f ∨ x ∈ os
  | [], f => by simp [mrg]
  | o :: os, f => by
    have ih := mem_mrg (x := x) (os := os) (f := addK f o)
    have e : mrg f (o :: os) = mrg (addK f o) os := rfl
    rw [e, ih, mem_addK]
    simp [or_assoc]
theorem nodup_mrg : ∀ {os f : List α}, f.Nodup → (mrg f os).Nodup
  | [], f, h => h
  | o :: os, f, h => nodup_mrg (os := os) (nodup_addK h)
theorem addK_get {f : List α} {o x : α} {i : Nat} (h : f[i]? = some x) : (addK f o)[i]? = some x := by
  unfold addK
  split
  · exact h
  · have hl := (List.getElem?_eq_some_iff.mp h).1
    rw [List.getElem?_append_left hl]
    exact h
theorem mrg_get {x : α} {i : Nat} : ∀ {os f : List α}, f[i]? = some x → (mrg f os)[i]? = some x
  | [], f, h => h
  | o :: os, f, h => mrg_get (os := os) (addK_get h)
theorem length_addK {f : List α} {o : α} : f.length ≤ (addK f o).length := by
  unfold addK
  split
  · exact Nat.le_refl _
  · simp
theorem length_mrg : ∀ {os f : List α}, f.length ≤ (mrg f os).length
  | [], f => Nat.le_refl _
  | o :: os, f => Nat.le_trans length_addK (length_mrg (os := os) (f := addK f o))
theorem mrg_append {f a b : List α} : mrg f (a ++ b) = mrg (mrg f a) b := by unfold mrg; rw [List.foldl_append]
theorem mrg_snoc {f a : List α} {x : α} : mrg f (a ++ [x]) = addK (mrg f a) x := by rw [mrg_append]; rfl
/-- a list without twins whose items are all in another is no longer -/
theorem nodup_le : ∀ {l m : List α}, l.Nodup → (∀ x ∈ l, x ∈ m) → l.length ≤ m.length
  | [], m, _, _ => Nat.zero_le _
  | x :: l, m, h, hs => by
    have hx : x ∈ m := hs x (by simp)
    obtain ⟨hxl, hl⟩ := List.nodup_cons.mp h
    have ih := nodup_le (l := l) (m := m.erase x) hl (fun y hy => by
      have hne : y ≠ x := fun e => hxl (e ▸ hy)
      exact (List.mem_erase_of_ne hne).mpr (hs y (by simp [hy])))
    rw [List.length_erase_of_mem hx] at ih
    have : 0 < m.length := List.length_pos_of_mem hx
    simp
    omega
theorem nodup_lt {l : List Nat} {n : Nat} (h : l.Nodup) (hb : ∀ x ∈ l, x < n) : l.length ≤ n := by
  have := nodup_le (m := List.range n) h (fun x hx => by simpa using hb x hx)
  simpa using this
theorem nodup_get {l : List α} (h : l.Nodup) {i j : Nat} {x : α} (hi : l[i]? = some x) (hj : l[j]? = some x) : i = j := by
  obtain ⟨a, rfl⟩ := List.getElem?_eq_some_iff.mp hi
  obtain ⟨b, e⟩ := List.getElem?_eq_some_iff.mp hj
  exact ((List.getElem_inj h).mp e).symm
theorem idx_get {l : List α} {x : α} (h : x ∈ l) : l[l.idxOf x]? = some x := by
  have hl := List.idxOf_lt_length_of_mem h
  rw [List.getElem?_eq_getElem hl, List.getElem_idxOf hl]
theorem idx_of_get {l : List α} (hn : l.Nodup) {i : Nat} {x : α} (h : l[i]? = some x) : l.idxOf x = i :=
  nodup_get hn (idx_get (List.mem_of_getElem? h)) h
end

/-! ### sorting -/
def srt (l : List Nat) : List Nat := l.mergeSort fun a b => decide (a ≤ b)
theorem srt_perm (l : List Nat) : (srt l).Perm l := List.mergeSort_perm _ _
theorem srt_le (l : List Nat) : (srt l).Pairwise (· ≤ ·) := by
  have h := List.pairwise_mergeSort (le := fun a b : Nat => decide (a ≤ b)) (by simp; omega) (by simp; omega) l
  simpa [srt] using h
theorem srt_mem {l : List Nat} {x : Nat} : x ∈ srt l ↔ x ∈ l := (srt_perm l).mem_iff
theorem srt_lt {l : List Nat} (h : l.Nodup) : (srt l).Pairwise (· < ·) := by
  have h1 := srt_le l
  have h2 : (srt l).Nodup := (srt_perm l).nodup_iff.mpr h
  exact (h1.and h2).imp fun q => Nat.lt_of_le_of_ne q.1 q.2
theorem sorted_uniq : ∀ {l m : List Nat}, l.Perm m → l.Pairwise (· ≤ ·) → m.Pairwise (· ≤ ·) → l = m := by
  intro l m hp hl hm
  exact hp.eq_of_pairwise (le := (· ≤ ·)) (fun a b _ _ h1 h2 => Nat.le_antisymm h1 h2) hl hm

/-! ### nets -/
abbrev Net := Nat → Option Nat → List Nat
/-- all that stands in a net lies below n, once -/
def NetOk (n : Nat) (W : Net) : Prop := ∀ i s, (W i s).Nodup ∧ (∀ x ∈ W i s, x < n) ∧ (n ≤ i → W i s = [])
def push1 (st : List Nat × List Nat) (o : Nat) : List Nat × List Nat := if o ∈ st.1 then st else (st.1 ++ [o], st.2 ++ [o])
def pushAll (st : List Nat × List Nat) (os : List Nat) : List Nat × List Nat := os.foldl push1 st
def wlStep (W : Net) (st : List Nat × List Nat) : Option (List Nat × List Nat) :=
  match st.2.getLast? with
  | none => none
  | some x => some (pushAll (st.1, st.2.dropLast) (W x none))
noncomputable def wl (W : Net) (S : List Nat) : List Nat := srt (fin (wlStep W) (S, S)).1
/-- what holds in the loop of without_letters -/
def WlI (n : Nat) (S : List Nat) (st : List Nat × List Nat) : Prop := st.1.Nodup ∧ (∀ x ∈ st.1, x < n) ∧ (∀ x ∈ st.2, x ∈ st.1) ∧ (∀ x ∈ S, x ∈ st.1) ∧ st.2.length ≤ st.1.length
theorem pushAll_ok {n : Nat} {S : List Nat} : ∀ {os : List Nat} {st : List Nat × List Nat}, WlI n S st → (∀ x ∈ os, x < n) → WlI n S (pushAll st os) ∧ 2 * (n - (pushAll st os).1.length) + (pushAll st os).2.length ≤ 2 * (n - st.1.length) + st.2.length
  | [], st, h, _ => ⟨h, Nat.le_refl _⟩
  | o :: os, st, h, ho => by
    have e : pushAll st (o :: os) = pushAll (push1 st o) os := rfl
    rw [e]
    obtain ⟨h1, h2, h3, h4, h5⟩ := h
    have hlen : st.1.length ≤ n := nodup_lt h1 h2
    unfold push1
    split
    · exact pushAll_ok ⟨h1, h2, h3, h4, h5⟩ (fun x hx => ho x (by simp [hx]))
    · rename_i hn
      have hnd : (st.1 ++ [o]).Nodup := by
        have := nodup_addK (o := o) h1
        rwa [addK_out hn] at this
      have hb : ∀ x ∈ st.1 ++ [o], x < n := fun x hx => by
        rcases List.mem_append.mp hx with hx | hx
        · exact h2 x hx
        · simp at hx; subst hx; exact ho x (by simp)
      have hlen2 : (st.1 ++ [o]).length ≤ n := nodup_lt hnd hb
      have q := pushAll_ok (n := n) (S := S) (os := os) (st := (st.1 ++ [o], st.2 ++ [o])) ⟨hnd, hb, fun x hx => by
        simp only [List.mem_append] at hx ⊢
        rcases hx with hx | hx
        · exact .inl (h3 x hx)
        · exact .inr hx, fun x hx => by simp [h4 x hx], by simp; exact h5⟩ (fun x hx => ho x (by simp [hx]))
      refine ⟨q.1, Nat.le_trans q.2 ?_⟩
      simp at hlen2 ⊢
      omega
theorem wl_runs {n : Nat} {W : Net} (hW : NetOk n W) {S : List Nat} (h1 : S.Nodup) (h2 : ∀ x ∈ S, x < n) : ∃ m t, Runs (wlStep W) (WlI n S) m (S, S) t := by
  refine runs_of (fun st => 2 * (n - st.1.length) + st.2.length) (fun st st' hi e => ?_) (S, S) ⟨h1, h2, fun x hx => hx, fun x hx => hx, Nat.le_refl _⟩
  unfold wlStep at e
  cases hl : st.2.getLast? with
  | none => rw [hl] at e; cases e
  | some x =>
    rw [hl] at e
    simp only [Option.some.injEq] at e
    subst e
    have hne : st.2 ≠ [] := fun z => by rw [z] at hl; cases hl
    obtain ⟨a1, a2, a3, a4, a5⟩ := hi
    have q := pushAll_ok (n := n) (S := S) (os := W x none) (st := (st.1, st.2.dropLast)) ⟨a1, a2, fun y hy => a3 y (List.dropLast_subset _ hy), a4, by simp; omega⟩ (hW x none).2.1
    refine ⟨q.1, Nat.lt_of_le_of_lt q.2 ?_⟩
    have : 0 < st.2.length := List.length_pos_iff.mpr hne
    simp
    omega
/-- an ascending list below n -/
def Asc (n : Nat) (l : List Nat) : Prop := l.Pairwise (· < ·) ∧ ∀ x ∈ l, x < n
theorem Asc.nodup {n : Nat} {l : List Nat} (h : Asc n l) : l.Nodup := h.1.imp (fun h => Nat.ne_of_lt h)
theorem Asc.len {n : Nat} {l : List Nat} (h : Asc n l) : l.length ≤ n := nodup_lt h.nodup h.2
theorem wl_asc {n : Nat} {W : Net} (hW : NetOk n W) {S : List Nat} (h1 : S.Nodup) (h2 : ∀ x ∈ S, x < n) : Asc n (wl W S) ∧ ∀ x ∈ S, x ∈ wl W S := by
  obtain ⟨m, t, r⟩ := wl_runs hW h1 h2
  have e := fin_eq r
  obtain ⟨⟨a1, a2, a3, a4, a5⟩, _⟩ := r.last
  unfold wl
  rw [e]
  exact ⟨⟨srt_lt a1, fun x hx => a2 x (srt_mem.mp hx)⟩, fun x hx => srt_mem.mpr (a4 x hx)⟩
/-- the keys of by_letter's dict -/
def byKeys (W : Net) (S : List Nat) (s : Option Nat) : List Nat := S.foldl (fun f x => mrg f (W x s)) []
theorem byKeys_ok {n : Nat} {W : Net} (hW : NetOk n W) {s : Option Nat} : ∀ {S f : List Nat}, f.Nodup → (∀ x ∈ f, x < n) → (S.foldl (fun f x => mrg f (W x s)) f).Nodup ∧ ∀ x ∈ S.foldl (fun f x => mrg f (W x s)) f, x < n
  | [], f, h1, h2 => ⟨h1, h2⟩
  | y :: S, f, h1, h2 => byKeys_ok hW (S := S) (f := mrg f (W y s)) (nodup_mrg h1) fun x hx => by
    rcases mem_mrg.mp hx with hx | hx
    · exact h2 x hx
    · exact (hW y s).2.1 x hx
noncomputable def byLetter (W : Net) (S : List Nat) (s : Option Nat) : List Nat := wl W (byKeys W S s)
theorem byLetter_asc {n : Nat} {W : Net} (hW : NetOk n W) (S : List Nat) (s : Option Nat) : Asc n (byLetter W S s) := by
  have h := byKeys_ok hW (s := s) (S := S) (f := []) (by simp) (by simp)
  exact (wl_asc hW h.1 h.2).1
noncomputable def byText (W : Net) (x : Nat) (t : List Nat) : List Nat := t.foldl (fun S c => byLetter W S (some c)) (wl W [x])
theorem byText_asc {n : Nat} {W : Net} (hW : NetOk n W) {x : Nat} (hx : x < n) (t : List Nat) : Asc n (byText W x t) := by
  have key : ∀ (t : List Nat) (S : List Nat), Asc n S → Asc n (t.foldl (fun S c => byLetter W S (some c)) S) := by
    intro t
    induction t with
    | nil => intro S h; exact h
    | cons c t ih => intro S h; exact ih _ (byLetter_asc hW S (some c))
  exact key t _ (wl_asc hW (by simp) (by simpa using hx)).1

/-! ### a net's ways put in -/
def addW (W : Net) (i : Nat) (s : Option Nat) (j : Nat) : Net := fun i' s' => if i' = i ∧ s' = s then W i s ++ [j] else W i' s'
def addB (st : Net × Bool) (i : Nat) (s : Option Nat) (j : Nat) : Net × Bool := if j ∈ st.1 i s then st else (addW st.1 i s j, true)
theorem addW_ok {n : Nat} {W : Net} (hW : NetOk n W) {i j : Nat} {s : Option Nat} (hi : i < n) (hj : j < n) (hn : ¬ j ∈ W i s) : NetOk n (addW W i s j) := fun i' s' => by
  unfold addW
  split
  · rename_i e
    obtain ⟨rfl, rfl⟩ := e
    refine ⟨?_, fun x hx => ?_, fun h => by omega⟩
    · have := nodup_addK (o := j) (hW i' s').1
      rwa [addK_out hn] at this
    · rcases List.mem_append.mp hx with hx | hx
      · exact (hW i' s').2.1 x hx
      · simp at hx; subst hx; exact hj
  · exact hW i' s'
theorem addB_ok {n : Nat} {st : Net × Bool} (hW : NetOk n st.1) {i j : Nat} {s : Option Nat} (hi : i < n) (hj : j < n) : NetOk n (addB st i s j).1 := by
  unfold addB
  split
  · exact hW
  · rename_i h
    exact addW_ok hW hi hj h
def netOf (L : List Nat) (rows : List (List Nat)) : Net := rows.zipIdx.foldl (fun W p => (L.zip p.1).foldl (fun W q => (addB (W, false) p.2 (some q.1) q.2).1) W) fun _ _ => []
theorem netOf_ok {n : Nat} {L : List Nat} {rows : List (List Nat)} (hl : rows.length = n) (hr : ∀ r ∈ rows, ∀ x ∈ r, x < n) : NetOk n (netOf L rows) := by
  have k1 : ∀ (qs : List (Nat × Nat)) (i : Nat) (W : Net), i < n → NetOk n W → (∀ q ∈ qs, q.2 < n) → NetOk n (qs.foldl (fun W q => (addB (W, false) i (some q.1) q.2).1) W) := by
    intro qs
    induction qs with
    | nil => intro i W _ h _; exact h
    | cons q qs ih => intro i W hi h hq; exact ih i _ hi (addB_ok (st := (W, false)) h hi (hq q (by simp))) fun q' hq' => hq q' (by simp [hq'])
  have k2 : ∀ (ps : List (List Nat × Nat)) (W : Net), NetOk n W → (∀ p ∈ ps, p.2 < n ∧ ∀ x ∈ p.1, x < n) → NetOk n (ps.foldl (fun W p => (L.zip p.1).foldl (fun W q => (addB (W, false) p.2 (some q.1) q.2).1) W) W) := by
    intro ps
    induction ps with
    | nil => intro W h _; exact h
    | cons p ps ih =>
      intro W h hp
      refine ih _ (k1 _ _ _ (hp p (by simp)).1 h fun q hq => (hp p (by simp)).2 _ (List.of_mem_zip hq).2) fun p' hp' => hp p' (by simp [hp'])
  refine k2 _ _ (fun i s => ⟨by simp, by simp, fun _ => rfl⟩) fun p hp => ?_
  have h1 := List.mem_zipIdx hp
  refine ⟨by omega, fun x hx => hr p.1 ?_ x hx⟩
  obtain ⟨_, _, h3⟩ := h1
  rw [h3]
  exact List.getElem_mem _
/-- one turn of filled's loop -/
noncomputable def turnK (n : Nat) (kinds : List (List Nat × Option Nat)) (W : Net) : Net × Bool :=
  kinds.foldl (fun st k => (List.range n).foldl (fun st x => (byText st.1 x k.1).foldl (fun st y => addB st x k.2 y) st) st) (W, false)
noncomputable def fillStep (n : Nat) (kinds : List (List Nat × Option Nat)) (st : Net × Bool) : Option (Net × Bool) := if st.2 = true then some (turnK n kinds st.1) else none
instance : Inhabited (Net × Bool) := ⟨(fun _ _ => [], false)⟩
noncomputable def filled (L : List Nat) (rows : List (List Nat)) (kinds : List (List Nat × Option Nat)) : Net := (fin (fillStep rows.length kinds) (netOf L rows, true)).1
end An
end
section
set_option Elab.async false
set_option maxRecDepth 100000
namespace An
open PySem L2
def topS (i : Nat) : Stmt := PySem.Challenge.pw_anyscribe_k19_whole_apart.main.body.getD i (.Pass ⟨0, 0, 0, 0⟩)
abbrev c_ScribeError : Stmt := topS 1
abbrev c_BadKinds : Stmt := topS 2
abbrev c_BadReader : Stmt := topS 3
abbrev c_Unlike : Stmt := topS 4
abbrev c_TooMany : Stmt := topS 5
abbrev s_TooMany__init_ : Stmt := inClass (topS 5) 0
abbrev c_NotApart : Stmt := topS 6
abbrev s_is_integer : Stmt := topS 12
abbrev s_is_from : Stmt := topS 13
abbrev s_is_letters : Stmt := topS 14
abbrev s_is_text : Stmt := topS 15
abbrev s_is_kind : Stmt := topS 16
abbrev s_are_kinds : Stmt := topS 17
abbrev s_need_kinds : Stmt := topS 18
abbrev s_is_line : Stmt := topS 21
abbrev s_is_reader : Stmt := topS 22
abbrev s_need_reader : Stmt := topS 23
abbrev s_need_readers : Stmt := topS 24
abbrev s_reached : Stmt := topS 25
abbrev s_classes_of : Stmt := topS 26
abbrev s_least_of : Stmt := topS 27
abbrev s_paired : Stmt := topS 28
abbrev s_first_text : Stmt := topS 29
abbrev s_and_rule : Stmt := topS 30
abbrev c_Net : Stmt := topS 33
abbrev s_Net__init_ : Stmt := inClass (topS 33) 0
abbrev s_Net_add : Stmt := inClass (topS 33) 1
abbrev s_Net_without_letters : Stmt := inClass (topS 33) 2
abbrev s_Net_by_letter : Stmt := inClass (topS 33) 3
abbrev s_Net_by_text : Stmt := inClass (topS 33) 4
abbrev s_Net_reader : Stmt := inClass (topS 33) 5
abbrev s_net_of : Stmt := topS 34
abbrev s_ends_of : Stmt := topS 35
abbrev s_filled : Stmt := topS 37
abbrev s_come : Stmt := topS 38
abbrev s_comes : Stmt := topS 39
abbrev s_common_text : Stmt := topS 41
abbrev s_meeting_of : Stmt := topS 42
abbrev s_need_books : Stmt := topS 43
abbrev s_are_apart : Stmt := topS 44
abbrev s_meeting : Stmt := topS 45
abbrev s_teller : Stmt := topS 46
abbrev s_law_taken : Stmt := topS 48
abbrev s_law_pick : Stmt := topS 49
abbrev s_law_alike : Stmt := topS 50
abbrev s_law_text : Stmt := topS 51
abbrev s_law_kinds : Stmt := topS 52
abbrev s_law_reader : Stmt := topS 53
abbrev s_law_led : Stmt := topS 54
abbrev s_law_is : Stmt := topS 55
abbrev s_law_two : Stmt := topS 56
abbrev s_law_first : Stmt := topS 57
abbrev s_law_common : Stmt := topS 58
abbrev s_law : Stmt := topS 59

/-! ### words -/
local macro_rules | `(tactic| walk_at "v") => `(tactic| refine ⟨_, rfl, ?_⟩)
end An
end
section
set_option Elab.async false
set_option maxRecDepth 100000
set_option autoImplicit false
/-! What the text holds behind its top: defs, classes, names; the rules' short forms. -/
namespace An
open PySem PySem.Spec PyProof.Rows L2

/-- a def of the text, where it stands -/
structure DefAt (K : PySem.W.Frag) (mg : Str → Option Value) (x qual : Str) (st : Stmt) (ps : List Str) where
  f : Addr
  fd : FuncData
  F : Fun K x qual st f fd
  m : mg x = some (.ref f)
  b : Binds K fd ps []
/-- one with defaults, called with all its values -/
structure DefAtD (K : PySem.W.Frag) (mg : Str → Option Value) (x qual : Str) (st : Stmt) (ps : List Str) where
  f : Addr
  fd : FuncData
  dvs : List V
  F : FunD K x qual (defArgs st) (defBody st) (defScope st) dvs [] f fd
  m : mg x = some (.ref f)
  b : Binds K fd ps []
/-- a method -/
structure MethAt (K : PySem.W.Frag) (C : Addr) (x qual : Str) (st : Stmt) (ps : List Str) where
  f : Addr
  fd : FuncData
  F : Fun K x qual st f fd
  m : Meth K C x f
  b : Binds K fd ps []
structure Tx (K : PySem.W.Frag) (mg : Str → Option Value) where
  b_isinstance : mg "isinstance" = none
  b_int : mg "int" = none
  b_bool : mg "bool" = none
  b_str : mg "str" = none
  b_tuple : mg "tuple" = none
  b_list : mg "list" = none
  b_dict : mg "dict" = none
  b_len : mg "len" = none
  b_all : mg "all" = none
  b_any : mg "any" = none
  b_zip : mg "zip" = none
  b_set : mg "set" = none
  b_sorted : mg "sorted" = none
  b_range : mg "range" = none
  b_enumerate : mg "enumerate" = none
  c_SMALL : ∃ u, mg "SMALL" = some u ∧ RelV (.str "abcdefghijklmnopqrstuvwxyz") u
  c_MOST_LETTERS : ∃ u, mg "MOST_LETTERS" = some u ∧ RelV (.int 4) u
  c_MOST_SIGNS : ∃ u, mg "MOST_SIGNS" = some u ∧ RelV (.int 40) u
  c_MOST_KINDS : ∃ u, mg "MOST_KINDS" = some u ∧ RelV (.int 12) u
  c_MOST_STANDS : ∃ u, mg "MOST_STANDS" = some u ∧ RelV (.int 200) u
  c_MOST_LOTS : ∃ u, mg "MOST_LOTS" = some u ∧ RelV (.int 20000) u
  is_integer : DefAt K mg "is_integer" "is_integer" s_is_integer ["value"]
  is_from : DefAt K mg "is_from" "is_from" s_is_from ["value", "low", "high"]
  is_letters : DefAt K mg "is_letters" "is_letters" s_is_letters ["value"]
  is_text : DefAtD K mg "is_text" "is_text" s_is_text ["letters", "value", "most"]
  is_kind : DefAt K mg "is_kind" "is_kind" s_is_kind ["letters", "value"]
  are_kinds : DefAt K mg "are_kinds" "are_kinds" s_are_kinds ["letters", "value"]
  need_kinds : DefAt K mg "need_kinds" "need_kinds" s_need_kinds ["letters", "value"]
  is_line : DefAt K mg "is_line" "is_line" s_is_line ["letters", "size", "value"]
  is_reader : DefAt K mg "is_reader" "is_reader" s_is_reader ["value"]
  need_reader : DefAt K mg "need_reader" "need_reader" s_need_reader ["value"]
  need_readers : DefAt K mg "need_readers" "need_readers" s_need_readers ["one", "other"]
  reached : DefAt K mg "reached" "reached" s_reached ["rows"]
  classes_of : DefAt K mg "classes_of" "classes_of" s_classes_of ["rows", "yes", "stands"]
  least_of : DefAt K mg "least_of" "least_of" s_least_of ["letters", "rows", "yes"]
  paired : DefAt K mg "paired" "paired" s_paired ["one", "other"]
  first_text : DefAt K mg "first_text" "first_text" s_first_text ["letters", "rows", "yes"]
  and_rule : DefAt K mg "and_rule" "and_rule" s_and_rule ["left", "right"]
  net_of : DefAt K mg "net_of" "net_of" s_net_of ["reader"]
  ends_of : DefAt K mg "ends_of" "ends_of" s_ends_of ["reader"]
  filled : DefAt K mg "filled" "filled" s_filled ["reader", "kinds"]
  come : DefAt K mg "come" "come" s_come ["reader", "kinds"]
  comes : DefAt K mg "comes" "comes" s_comes ["reader", "kinds"]
  common_text : DefAt K mg "common_text" "common_text" s_common_text ["one", "other"]
  meeting_of : DefAt K mg "meeting_of" "meeting_of" s_meeting_of ["one", "other", "kinds"]
  need_books : DefAt K mg "need_books" "need_books" s_need_books ["one", "other", "kinds"]
  are_apart : DefAt K mg "are_apart" "are_apart" s_are_apart ["one", "other", "kinds"]
  meeting : DefAt K mg "meeting" "meeting" s_meeting ["one", "other", "kinds"]
  teller : DefAt K mg "teller" "teller" s_teller ["one", "other", "kinds"]
  law_taken : DefAt K mg "_law_taken" "_law_taken" s_law_taken ["_law_row", "_law_many"]
  law_pick : DefAt K mg "_law_pick" "_law_pick" s_law_pick ["_law_row", "_law_things"]
  law_alike : DefAt K mg "_law_alike" "_law_alike" s_law_alike ["_law_found", "_law_due"]
  law_text : DefAt K mg "_law_text" "_law_text" s_law_text ["_law_row", "_law_letters", "_law_most"]
  law_kinds : DefAt K mg "_law_kinds" "_law_kinds" s_law_kinds ["_law_row", "_law_letters", "_law_most"]
  law_reader : DefAt K mg "_law_reader" "_law_reader" s_law_reader ["_law_row", "_law_letters", "_law_most"]
  law_led : DefAt K mg "_law_led" "_law_led" s_law_led ["_law_reader_here", "_law_stand", "_law_text_here"]
  law_is : DefAt K mg "_law_is" "_law_is" s_law_is ["_law_found", "_law_due"]
  law_two : DefAt K mg "_law_two" "_law_two" s_law_two ["_law_row"]
  law_first : DefAt K mg "_law_first" "_law_first" s_law_first ["_law_letters", "_law_pairs", "_law_step", "_law_is_good"]
  law_common : DefAt K mg "_law_common" "_law_common" s_law_common ["_law_one", "_law_other"]
  C : Addr
  mgC : mg "Net" = some (.ref C)
  cl : Cls K C
  nW : NoAttr K C "ways"
  init_f : Addr
  init_fd : FuncData
  initF : Fun K "__init__" "Net.__init__" s_Net__init_ init_f init_fd
  initM : Mk K C init_f
  initB : Binds K init_fd ["self", "size"] []
  add : MethAt K C "add" "Net.add" s_Net_add ["self", "one", "sign", "other"]
  without_letters : MethAt K C "without_letters" "Net.without_letters" s_Net_without_letters ["self", "stands"]
  by_letter : MethAt K C "by_letter" "Net.by_letter" s_Net_by_letter ["self", "stands", "sign"]
  by_text : MethAt K C "by_text" "Net.by_text" s_Net_by_text ["self", "stand", "text"]
  reader : MethAt K C "reader" "Net.reader" s_Net_reader ["self", "letters", "ends"]

section
variable {X : Cx} {k : Nat} {x qual m : Str} {st : Stmt} {ps : List Str} {sp : Sp} {p pos apos : Pos} {e o : Expr} {es : List Expr} {t : TA} {ta : TE}
theorem pe_globE {v : V} (h : ∃ u, X.mg x = some u ∧ RelV v u) (hg : Gl X x := by rfl) (hd : (x == ("__debug__" : Str)) = false := by decide) : PE X (.Name x pos) (tC v) := by
  obtain ⟨u, h1, h2⟩ := h
  exact pe_glob hg h1 h2 hd
/-- a built-in class's name as a value -/
theorem pe_ty (n : String) (hm : X.mg x = none) (hv : bootBuiltins x = some (.type n) := by decide +kernel) (hg : Gl X x := by rfl) (hn : x ≠ "__name__" := by decide) (hd : (x == ("__debug__" : Str)) = false := by decide) : PE X (.Name x pos) (tC (.ty n)) :=
  pe_bltn hg hm hv rfl hn hd
/-- a def of the text called -/
theorem pe_callD (D : DefAt X.K X.mg x qual st ps) (G : FnOk X.prog X.w X.K X.mg X.base CX0 k D.f D.fd ps sp) (hr : Room k X.A) (ha : PA X (e :: es) t) (hg : Gl X x := by rfl)
    (hdb : (x == ("__debug__" : Str)) = false := by decide) (he : starEach (e :: es) X.env = (false, eval e X.env) :: starEach es X.env := by rfl) (hpl : (backTo pos (starEach es X.env)).any (·.1) = false := by rfl) :
    PE X (.Call (.Name x p) (e :: es) [] pos) (tCall sp [] E0 t) := pe_call G hr hg D.m D.F.kp D.b .nil pass0 ha hdb he hpl
theorem pe_callDD (D : DefAtD X.K X.mg x qual st ps) (G : FnOk X.prog X.w X.K X.mg X.base CX0 k D.f D.fd ps sp) (hr : Room k X.A) (ha : PA X (e :: es) t) (hg : Gl X x := by rfl)
    (hdb : (x == ("__debug__" : Str)) = false := by decide) (he : starEach (e :: es) X.env = (false, eval e X.env) :: starEach es X.env := by rfl) (hpl : (backTo pos (starEach es X.env)).any (·.1) = false := by rfl) :
    PE X (.Call (.Name x p) (e :: es) [] pos) (tCall sp [] E0 t) := pe_call G hr hg D.m D.F.kp D.b .nil pass0 ha hdb he hpl
/-- built-ins by name -/
theorem pe_B {id : String} {r : List V → Hp → VK → Prop} (hc : CallR X (.builtin id) r) (hm : X.mg x = none) (ha : PA X (e :: es) t) (hv : bootBuiltins x = some (.builtin id) := by decide +kernel) (hg : Gl X x := by rfl) (hn : x ≠ "__name__" := by decide) (hdb : (x == ("__debug__" : Str)) = false := by decide)
    (he : starEach (e :: es) X.env = (false, eval e X.env) :: starEach es X.env := by rfl) (hpl : (backTo pos (starEach es X.env)).any (·.1) = false := by rfl) : PE X (.Call (.Name x p) (e :: es) [] pos) (tCB r t) := pe_callB hc hg hm hv ha hn hdb he hpl
theorem pe_T {T : String} {r : List V → Hp → VK → Prop} (hc : CallR X (.type T) r) (hm : X.mg x = none) (ha : PA X (e :: es) t) (hv : bootBuiltins x = some (.type T) := by decide +kernel) (hg : Gl X x := by rfl) (hn : x ≠ "__name__" := by decide) (hdb : (x == ("__debug__" : Str)) = false := by decide)
    (he : starEach (e :: es) X.env = (false, eval e X.env) :: starEach es X.env := by rfl) (hpl : (backTo pos (starEach es X.env)).any (·.1) = false := by rfl) : PE X (.Call (.Name x p) (e :: es) [] pos) (tCB r t) := pe_callTy hc hg hm hv ha hn hdb he hpl
end

/-! ### heaps -/
section
variable {K : PySem.W.Frag} {H H0 H' H1 H2 : Hp} {p q a b : Addr} {o u : HO} {v : V} {xs : List V}
theorem same_new (h : H p = none) : Same H (upd H p o) := fun b u e => by rw [upd_ne (ne_of_none e h)]; exact e
theorem same_upd (s : Same H0 H) (h : H0 p = none) : Same H0 (upd H p o) := fun b u e => by rw [upd_ne (ne_of_none e h)]; exact s _ _ e
theorem same_upd2 (s : Same H0 H) (h : H p = none) : Same H0 (upd H p o) := s.trans (same_new h)
theorem same_rd (s : Same H H') {x : HO} (h : Rd H a x) : Rd H' a x := by
  rcases h with h | ⟨o, h⟩
  · exact .inl (s _ _ h)
  · exact .inr ⟨o, s _ _ h⟩
theorem same_t (s : Same H H') (h : SqT K H a xs) : SqT K H' a xs := by
  rcases h with h | h
  · exact .inl (same_rd s h)
  · exact .inr h
theorem same_l (s : Same H H') (h : SqL K H a xs) : SqL K H' a xs := s.seq h
theorem upd_eq (h : p = q) : upd H q o p = some o := by rw [h]; exact upd_same

/-! ### data -/
mutual
theorem dp_same (s : Same H H') : ∀ (d : PyData) (v : V), Dp K H v d → Dp K H' v d
  | .none, _, h => by cases h; exact .non
  | .bool _, _, h => by cases h; exact .bl _
  | .int _, _, h => by cases h; exact .int _
  | .str _, _, h => by cases h; exact .str _
  | .list ds, _, h => by
    cases h with
    | lst h1 h2 => exact .lst (same_l s h1) (dpAll_same s ds _ h2)
  | .tuple ds, _, h => by
    cases h with
    | tup h1 h2 => exact .tup (same_t s h1) (dpAll_same s ds _ h2)
  | .dict _, _, h => by cases h
theorem dpAll_same (s : Same H H') : ∀ (ds : List PyData) (vs : List V), DpAll K H vs ds → DpAll K H' vs ds
  | [], _, h => by cases h; exact .nil
  | d :: ds, _, h => by
    cases h with
    | cons h1 h2 => exact .cons (dp_same s d _ h1) (dpAll_same s ds _ h2)
end
end
end An
end
section
set_option Elab.async false
set_option maxRecDepth 100000
set_option maxHeartbeats 4000000
set_option linter.all false
/-! Short forms of readings: data, comprehensions. -/
namespace An
open PySem L2
abbrev vN (n : Nat) : V := .int (n : Int)
abbrev dN (n : Nat) : PyData := .int (n : Int)
section
variable {K : PySem.W.Frag} {H H0 H' H1 H2 : Hp} {p q a b D : Addr} {o u : HO} {v : V} {xs : List V} {ds : List PyData} {d : PyData} {i : Nat}

/-! ### data read -/
theorem dp_tup (h : Dp K H v (.tuple ds)) : ∃ a xs, v = .ref a ∧ SqT K H a xs ∧ DpAll K H xs ds := by
  cases h with
  | tup h1 h2 => exact ⟨_, _, rfl, h1, h2⟩
theorem dp_lst (h : Dp K H v (.list ds)) : ∃ a xs, v = .ref a ∧ SqL K H a xs ∧ DpAll K H xs ds := by
  cases h with
  | lst h1 h2 => exact ⟨_, _, rfl, h1, h2⟩
theorem dp_int {i : Int} (h : Dp K H v (.int i)) : v = .int i := by cases h; rfl
theorem dp_str {i : Str} (h : Dp K H v (.str i)) : v = .str i := by cases h; rfl
theorem dp_bl {i : Bool} (h : Dp K H v (.bool i)) : v = .bl i := by cases h; rfl
theorem dpAll_len : ∀ {ds : List PyData} {xs : List V}, DpAll K H xs ds → xs.length = ds.length
  | [], _, h => by cases h; rfl
  | d :: ds, _, h => by
    cases h with
    | cons h1 h2 => simp [dpAll_len h2]
theorem dpAll_get : ∀ {ds : List PyData} {xs : List V} {i : Nat} {d : PyData}, DpAll K H xs ds → ds[i]? = some d → ∃ x, xs[i]? = some x ∧ Dp K H x d
  | [], _, i, d, h, e => by simp at e
  | d' :: ds, _, 0, d, h, e => by
    cases h with
    | cons h1 h2 => simp at e; subst e; exact ⟨_, rfl, h1⟩
  | d' :: ds, _, i + 1, d, h, e => by
    cases h with
    | cons h1 h2 => exact dpAll_get (i := i) h2 (by simpa using e)
theorem dpAll_of : ∀ {ds : List PyData} {xs : List V}, xs.length = ds.length → (∀ (i : Nat) (x : V) (d : PyData), xs[i]? = some x → ds[i]? = some d → Dp K H x d) → DpAll K H xs ds
  | [], [], _, _ => .nil
  | d :: ds, x :: xs, hl, h => .cons (h 0 x d rfl rfl) (dpAll_of (by simpa using hl) fun i y e h1 h2 => h (i + 1) y e (by simpa using h1) (by simpa using h2))
theorem dpAll_ints : ∀ {xs : List V} {ns : List Nat}, DpAll K H xs (ns.map dN) → xs = ns.map vN
  | _, [], h => by cases h; rfl
  | _, n :: ns, h => by
    cases h with
    | cons h1 h2 => rw [dp_int h1, dpAll_ints h2]; rfl
theorem dpAll_bools : ∀ {xs : List V} {ns : List Bool}, DpAll K H xs (ns.map fun n => PyData.bool n) → xs = ns.map V.bl
  | _, [], h => by cases h; rfl
  | _, n :: ns, h => by
    cases h with
    | cons h1 h2 => rw [dp_bl h1, dpAll_bools h2]; rfl
theorem ints_dpAll : ∀ (ns : List Nat), DpAll K H (ns.map vN) (ns.map dN)
  | [] => .nil
  | n :: ns => .cons (.int _) (ints_dpAll ns)
theorem bools_dpAll : ∀ (ns : List Bool), DpAll K H (ns.map V.bl) (ns.map fun n => PyData.bool n)
  | [] => .nil
  | n :: ns => .cons (.bl _) (bools_dpAll ns)
/-- an item of a datum that is a tuple -/
def rIxD (K : PySem.W.Frag) : R2 := fun x y H Q => ∃ (ds : List PyData) (i : Nat) (d : PyData), Dp K H x (.tuple ds) ∧ y = .int (i : Int) ∧ ds[i]? = some d ∧ ∀ v, Dp K H v d → Q v H
theorem ix_D {X : Cx} : IxR X (rIxD X.K) := by
  intro value slice pins s σ H x y v u Q I rx ry h hs
  obtain ⟨ds, i, d, hx, rfl, hd, q⟩ := h
  obtain ⟨a, xs, rfl, ht, ha⟩ := dp_tup hx
  obtain ⟨z, hz, dz⟩ := dpAll_get ha hd
  exact ix_tup value slice pins s σ H _ _ v u Q I rx ry ⟨a, xs, _, z, rfl, rfl, ht, atI_nat hz, q z dz⟩ hs
/-- its length -/
theorem rlen_D {Q : VK} (h : Dp K H v (.tuple ds)) (q : Q (.int (ds.length : Int)) H) : (fun xs H Q => ∃ p ys, xs = [V.ref p] ∧ (SqL K H p ys ∨ SqT K H p ys) ∧ Q (.int (ys.length : Int)) H : List V → Hp → VK → Prop) [v] H Q := by
  obtain ⟨a, xs, rfl, ht, ha⟩ := dp_tup h
  exact ⟨a, xs, rfl, .inr ht, by rw [dpAll_len ha]; exact q⟩
/-- isinstance of a datum -/
theorem tyx_tup (h : Dp K H v (.tuple ds)) : TyX K H v (.type "tuple") := by
  obtain ⟨a, xs, rfl, ht, ha⟩ := dp_tup h
  rcases ht with (ht | ⟨o, ht⟩) | ⟨o, its, n, hk, hc, _⟩
  · exact .base (.tup ht)
  · exact .fTuple ht
  · exact .kTuple hk hc

/-! ### an address left out -/
def del (D : Addr) (H : Hp) : Hp := fun b => if b = D then none else H b
theorem del_upd : del D (upd H D o) = del D H := by
  funext b
  unfold del upd
  split <;> rfl
theorem same_del (s : Same H H') : Same (del D H) (del D H') := fun b o e => by
  unfold del at e ⊢
  split at e
  · cases e
  · rename_i hb
    rw [if_neg hb]
    exact s _ _ e
theorem del_le : Same (del D H) H := fun b o e => by
  unfold del at e
  split at e
  · cases e
  · exact e
theorem same_to_del (h : H1 D = none) (s : Same H1 H) : Same H1 (del D H) := fun b o e => by
  unfold del
  rw [if_neg (ne_of_none e h)]
  exact s _ _ e
theorem del_ne (h : b ≠ D) : del D H b = H b := by unfold del; rw [if_neg h]

/-! ### comprehensions -/
theorem yes_if {σ : L2.St} {A B : Hp → Prop} (h : A H) : tYes σ H (fun b H3 => if b = true then A H3 else B H3) := by
  show (if true = true then A H else B H)
  rw [if_pos rfl]
  exact h
theorem lc_gen {J : It} {n : Nat} {G : Hp → Prop} {Y : Nat → Hp → V → Hp → Prop} (w : Walk J n G Y) {ix : Nat} {te : TE} {vs : List Nat} {σ : St} {Qd : Hp → Prop} (R : Nat → V → Hp → Prop) (hR : ∀ j v H H', Same H H' → R j v H → R j v H') (hn : n ≤ sizeLine)
    (hD : H1 D = none) (hG : ∀ H, Same H1 H → G H) (hw : ∀ x, wipe ((wipe σ vs).set ix (some x)) vs = wipe σ vs)
    (hs : ∀ i x H H' (Q : VK), i < n → Same H1 H → Y i H x H' → (∀ y H4, Same H H4 → R i y (del D H4) → Q y H4) → te ((wipe σ vs).set ix (some x)) H' Q)
    (hd : ∀ H ys, Same H1 H → H D = some (.lst ys) → ys.length = n → (∀ (j : Nat) y, ys[j]? = some y → R j y (del D H)) → Qd H) :
    ∃ W : Nat → Nat → Hp → Prop, (∃ m, W 0 m (upd H1 D (.lst []))) ∧ ∀ i m H, W i m H →
      (J.stop i H ∧ Qd H) ∨ (J.go i H ∧ ∃ Nx : Hp → Prop, (∀ H', Nx H' → ∃ m', m' < m ∧ W (i + 1) m' H') ∧ ∀ x H', J.yld i H x H' → gName ix x (wipe σ vs) H' fun σ2 H2 => wipe σ2 vs = wipe σ vs ∧ tYes σ2 H2 fun b H3 =>
        if b = true then te σ2 H3 fun y H4 => ∃ acc, H4 D = some (.lst acc) ∧ acc.length < sizeLine ∧ Nx (upd H4 D (.lst (acc ++ [y]))) else Nx H3) := by
  refine lc_it w (fun i H => ∃ ys, Same H1 H ∧ H D = some (.lst ys) ∧ ys.length = i ∧ ∀ (j : Nat) y, ys[j]? = some y → R j y (del D H)) ?_ (fun i H hi ⟨ys, s, _⟩ => hG H s) ?_ (fun H ⟨ys, s, e, hl, hr⟩ => hd H ys s e hl hr)
  · exact ⟨[], same_new hD, upd_same, rfl, fun j y e => by simp at e⟩
  · rintro i x H H' hi ⟨ys, s, e, hl, hr⟩ hy
    refine ⟨hw x, yes_if ?_⟩
    refine hs i x H H' _ hi s hy fun y H4 s4 r4 => ⟨ys, s4 _ _ e, Nat.lt_of_lt_of_le (by omega) hn, ys ++ [y], same_upd (s.trans s4) hD, upd_same, by simp [hl], fun j z ez => ?_⟩
    rw [del_upd]
    by_cases hj : j < ys.length
    · rw [List.getElem?_append_left hj] at ez
      exact hR j z _ _ (same_del s4) (hr j z ez)
    · have hj2 : j = ys.length := by
        have := (List.getElem?_eq_some_iff.mp ez).1
        simp at this
        omega
      subst hj2
      rw [List.getElem?_append_right (Nat.le_refl _)] at ez
      simp at ez
      subst ez
      rw [hl]
      exact r4
theorem dc_gen {J : It} {n : Nat} {G : Hp → Prop} {Y : Nat → Hp → V → Hp → Prop} (w : Walk J n G Y) {ix kx : Nat} {tv : TE} {vs : List Nat} {σ : St} {Qd : Hp → Prop} (key : Nat → Key) (R : Nat → V → Hp → Prop) (hR : ∀ j v H H', Same H H' → R j v H → R j v H') (hn : n ≤ sizeLine)
    (hk : ∀ i j, i < n → j < n → key i = key j → i = j)
    (hD : H1 D = none) (hG : ∀ H, Same H1 H → G H) (hw : ∀ x, wipe ((wipe σ vs).set ix (some x)) vs = wipe σ vs)
    (hs : ∀ i x H H' (Q : VK), i < n → Same H1 H → Y i H x H' → (∀ y H4, Same H H4 → R i y (del D H4) → Q y H4) → ((wipe σ vs).set ix (some x))[kx]? = some (some (kV (key i))) ∧ tv ((wipe σ vs).set ix (some x)) H' Q)
    (hd : ∀ H ys, Same H1 H → H D = some (.dK ys) → ys.length = n → (∀ (j : Nat) k y, ys[j]? = some (k, y) → k = key j ∧ R j y (del D H)) → Qd H) :
    ∃ W : Nat → Nat → Hp → Prop, (∃ m, W 0 m (upd H1 D (.dK []))) ∧ ∀ i m H, W i m H →
      (J.stop i H ∧ Qd H) ∨ (J.go i H ∧ ∃ Nx : Hp → Prop, (∀ H', Nx H' → ∃ m', m' < m ∧ W (i + 1) m' H') ∧ ∀ x H', J.yld i H x H' → gName ix x (wipe σ vs) H' fun σ2 H2 => wipe σ2 vs = wipe σ vs ∧ tYes σ2 H2 fun b H3 =>
        if b = true then tVar kx σ2 H3 fun y H4 => tv σ2 H4 fun z H5 => ∃ kvs k, y = kV k ∧ H5 D = some (.dK kvs) ∧ kvs.length < sizeLine ∧ Nx (upd H5 D (.dK (putK kvs k z))) else Nx H3) := by
  refine ⟨fun i m H => m = n - i ∧ i ≤ n ∧ ∃ ys, Same H1 H ∧ H D = some (.dK ys) ∧ ys.length = i ∧ ∀ (j : Nat) k y, ys[j]? = some (k, y) → k = key j ∧ R j y (del D H), ⟨n, by simp, Nat.zero_le _, [], same_new hD, upd_same, rfl, fun j k y e => by simp at e⟩, ?_⟩
  rintro i m H ⟨rfl, hi, ys, s, e, hl, hr⟩
  by_cases hlt : i < n
  · refine .inr ⟨w.goes i H hlt (hG H s), fun H' => i + 1 ≤ n ∧ ∃ ys, Same H1 H' ∧ H' D = some (.dK ys) ∧ ys.length = i + 1 ∧ ∀ (j : Nat) k y, ys[j]? = some (k, y) → k = key j ∧ R j y (del D H'), fun H' p' => ⟨n - (i + 1), by omega, rfl, p'⟩, fun x H' y => ?_⟩
    refine ⟨hw x, yes_if ?_⟩
    have q := hs i x H H' (fun z H5 => ∃ kvs k, kV (key i) = kV k ∧ H5 D = some (.dK kvs) ∧ kvs.length < sizeLine ∧ (i + 1 ≤ n ∧ ∃ ys, Same H1 (upd H5 D (.dK (putK kvs k z))) ∧ (upd H5 D (.dK (putK kvs k z))) D = some (.dK ys) ∧ ys.length = i + 1 ∧ ∀ (j : Nat) k' y, ys[j]? = some (k', y) → k' = key j ∧ R j y (del D (upd H5 D (.dK (putK kvs k z)))))) hlt s (w.yields i H x H' hlt (hG H s) y) fun z H4 s4 r4 => ?_
    · exact ⟨_, q.1, q.2⟩
    · have hno : valV ys (key i) = none := by
        cases q : valV ys (key i) with
        | none => rfl
        | some v0 =>
          have hm := valV_in q
          obtain ⟨p, hp, ep⟩ := List.mem_map.mp hm
          obtain ⟨j, hj, ej⟩ := List.getElem_of_mem hp
          have e2 : ys[j]? = some (p.1, p.2) := by rw [List.getElem?_eq_getElem hj, ej]
          have e3 := (hr j _ _ e2).1
          rw [ep] at e3
          have := hk i j hlt (by omega) e3
          omega
      refine ⟨ys, key i, rfl, s4 _ _ e, Nat.lt_of_lt_of_le (by omega) hn, hlt, putK ys (key i) z, same_upd (s.trans s4) hD, upd_same, ?_, fun j k y ez => ?_⟩
      · rw [putK_new z hno]
        simp [hl]
      · rw [putK_new z hno] at ez
        rw [del_upd]
        by_cases hj : j < ys.length
        · rw [List.getElem?_append_left hj] at ez
          exact ⟨(hr j k y ez).1, hR j y _ _ (same_del s4) (hr j k y ez).2⟩
        · have hj2 : j = ys.length := by
            have := (List.getElem?_eq_some_iff.mp ez).1
            simp at this
            omega
          subst hj2
          rw [List.getElem?_append_right (Nat.le_refl _)] at ez
          simp at ez
          obtain ⟨rfl, rfl⟩ := ez
          rw [hl]
          exact ⟨rfl, r4⟩
  · have e2 : i = n := by omega
    subst e2
    exact .inl ⟨w.stops H (hG H s), hd H ys s e hl hr⟩
end
end An
end
section
set_option Elab.async false
set_option maxRecDepth 100000
set_option maxHeartbeats 4000000
set_option linter.all false
/-! zip over tuples and texts. -/
namespace An
open PySem L2

/-- what zip draws from: a tuple that is tracked, a text -/
inductive Src where
  | tup (a : Addr)
  | txt (z : Str)
def Src.Is (K : PySem.W.Frag) (H : Hp) : Src → List V → Prop
  | .tup a, xs => SqT K H a xs
  | .txt z, xs => xs = z.cps.toList.map fun c => V.str ⟨#[c]⟩
def Src.val : Src → V
  | .tup a => .ref a
  | .txt z => .str z
/-- with the text's token -/
inductive Rc where
  | tup (a : Addr)
  | txt (z : Str) (t : Tok)
def Rc.It (it : Addr) (i : Nat) (h : Heap) : Rc → Prop
  | .tup a => h.IsTupleIter it a i
  | .txt z t => h.IsStrIter it (strIterType z) z t i
def Rc.fp : Rc → List Addr
  | .tup a => [a]
  | .txt _ _ => []
def Rc.St (it : Addr) (its : Array Value) (i : Nat) (h : Heap) : Rc → Prop
  | .tup a => h.IsTupleIter it a i ∧ h.IsTuple a its
  | .txt z t => h.IsStrIter it (strIterType z) z t i
def Rc.P (its : Array Value) (i : Nat) (v : Value) : Rc → Prop
  | .tup _ => its[i]? = some v
  | .txt z _ => ∃ c u, z.cps[i]? = some c ∧ v = .str ⟨#[c]⟩ u
def Rc.n (its : Array Value) : Rc → Nat
  | .tup _ => its.size
  | .txt z _ => z.cps.size
def Rc.o : Rc → Obj
  | .tup a => { cls := .type "tuple_iterator", data := .fields #[.ref a, .int 0 0] }
  | .txt z t => { cls := .type (strIterType z), data := .fields #[.str z t, .int 0 0] }
def Rc.v : Rc → Value
  | .tup a => .ref a
  | .txt z t => .str z t
def Rc.Hs (its : Array Value) (h : Heap) : Rc → Prop
  | .tup a => h.IsTuple a its
  | .txt _ _ => True
theorem Rc.begins (r : Rc) (its : Array Value) : Begins r.v r.o fun h => r.Hs its h := by
  cases r with
  | tup a => exact begins_tuple a its
  | txt z t => exact begins_text z t
theorem Rc.draws {prog : Program} {w : World} {A : Around} (hh : A.handled = none) (r : Rc) (its : Array Value) (it : Addr) (hn : ∀ b ∈ r.fp, b ≠ it) : Draws prog w A it (it :: r.fp) (r.n its) (fun i v => r.P its i v) (fun i h => r.St it its i h) := by
  cases r with
  | tup a => exact Draws.tuple hh it a (hn a (by simp [Rc.fp])) its
  | txt z t => exact Draws.text hh it z t
def Rc.Ok (K : PySem.W.Frag) (H : Hp) (s : Src) : Rc → Prop
  | .tup a => s = .tup a
  | .txt z _ => s = .txt z
theorem strIter_obj {h : Heap} {it : Addr} {z : Str} {t : Tok} {i : Nat} (x : h.IsStrIter it (strIterType z) z t i) : ∃ o, h.get? it = some o ∧ ∀ v, o.data ≠ .cell v := by
  obtain ⟨o, e, _, d⟩ := x
  exact ⟨o, e, fun v q => by rw [d] at q; cases q⟩
section
variable {X : Cx} {pins : List (Addr × Obj)} {σ : L2.St} {H : Hp} {s : Shared} {xs ys : List V}
theorem src_at {src : Src} {r : Rc} (I : Inv X pins σ H s) (h : r.Ok X.K H src) (q : src.Is X.K H xs) : ∃ its : Array Value, r.Hs its s.heap ∧ r.n its = xs.length ∧ ∀ i v, r.P its i v → ∃ x, xs[i]? = some x ∧ RelV x v := by
  cases r with
  | tup a =>
    cases (show src = .tup a from h)
    obtain ⟨its, rv, p, _⟩ := I.tuple q
    refine ⟨its.toArray, p, by simp [Rc.n, rv.length], fun i v e => ?_⟩
    have e' : its[i]? = some v := by simpa [Rc.P] using e
    have hl := (List.getElem?_eq_some_iff.mp e').1
    have hx : i < xs.length := by rw [rv.length]; exact hl
    obtain ⟨u, hu, ru⟩ := rv.get (List.getElem?_eq_getElem hx)
    rw [e'] at hu
    cases hu
    exact ⟨_, List.getElem?_eq_getElem hx, ru⟩
  | txt z t =>
    cases (show src = .txt z from h)
    have q : xs = z.cps.toList.map fun c => V.str ⟨#[c]⟩ := q
    subst q
    refine ⟨#[], trivial, by simp [Rc.n], fun i v ⟨c, u, e, ev⟩ => ⟨.str ⟨#[c]⟩, ?_, ?_⟩⟩
    · simp [e]
    · subst ev
      exact ⟨u, rfl⟩
theorem Rc.st (r : Rc) {it : Addr} {its : Array Value} {i : Nat} {h : Heap} (a : r.It it i h) (b : r.Hs its h) : r.St it its i h := by
  cases r with
  | tup x => exact ⟨a, b⟩
  | txt z t => exact a
theorem Rc.it (r : Rc) {it : Addr} {its : Array Value} {i : Nat} {h : Heap} (a : r.St it its i h) : r.It it i h := by
  cases r with
  | tup x => exact a.1
  | txt z t => exact a
theorem Rc.It.obj {r : Rc} {it : Addr} {i : Nat} {h : Heap} (a : r.It it i h) : ∃ o, h.get? it = some o ∧ ∀ v, o.data ≠ .cell v := by
  cases r with
  | tup x =>
    obtain ⟨o, e, _, d⟩ := a
    exact ⟨o, e, fun v q => by rw [d] at q; cases q⟩
  | txt z t => exact strIter_obj a
theorem Rc.It.at_ {r : Rc} {it : Addr} {i : Nat} {h h' : Heap} (a : r.It it i h) (k : ∀ o, h.get? it = some o → h'.get? it = some o) : r.It it i h' := by
  cases r with
  | tup x =>
    obtain ⟨o, e, c, d⟩ := a
    exact ⟨o, k _ e, c, d⟩
  | txt z t =>
    obtain ⟨o, e, c, d⟩ := a
    exact ⟨o, k _ e, c, d⟩
end
/-- the things at a and b as they stand at each turn, the items in new pairs -/
def ItS (K : PySem.W.Frag) (s1 s2 : Src) : It :=
  ⟨fun i H => ∃ (xs ys : List V) (x y : V), s1.Is K H xs ∧ s2.Is K H ys ∧ xs[i]? = some x ∧ ys[i]? = some y,
    fun i H v H' => ∃ T x y, v = .ref T ∧ H T = none ∧ H' = upd H T (.tup [x, y]) ∧ (∀ xs, s1.Is K H xs → xs[i]? = some x) ∧ ∀ ys, s2.Is K H ys → ys[i]? = some y,
    fun i H => ∃ xs ys : List V, s1.Is K H xs ∧ s2.Is K H ys ∧ i ≤ xs.length ∧ i ≤ ys.length ∧ (i = xs.length ∨ i = ys.length)⟩
theorem src_inj {X : Cx} {pins : List (Addr × Obj)} {σ : L2.St} {H : Hp} {s : Shared} {xs ys : List V} {src : Src} (I : Inv X pins σ H s) (h : src.Is X.K H xs) (h' : src.Is X.K H ys) : xs = ys := by
  cases src with
  | tup a => exact I.tuple_inj h h'
  | txt z => exact Eq.trans h (Eq.symm h')
theorem nlt {a N : Nat} (h : a < N) : a ≠ N + 1 := by omega
theorem lt2 {N S b : Nat} (h : N + 1 < S) (e : b = N + 1 ∨ b = N) : b < S := by omega
theorem ge2 {N b : Nat} (e : b = N + 1 ∨ b = N) : N ≤ b := by omega
theorem nn {N : Nat} (a b : Nat) (h : a ≠ b) : N + a ≠ N + b := by omega
theorem lt5 {N S c : Nat} (h : N + 4 < S) (e : c = N + 4 ∨ c = N + 2 ∨ c = N + 3 ∨ c = N ∨ c = N + 1) : c < S := by omega
theorem ge5 {N c : Nat} (e : c = N + 4 ∨ c = N + 2 ∨ c = N + 3 ∨ c = N ∨ c = N + 1) : N ≤ c := by omega
theorem turn_zipS {P : Program} {w : World} {K : PySem.W.Frag} {elts : List Expr} {kk : Nat} {tpos : Pos} {N : Nat} {s1 s2 : Src} {r1 r2 : Rc} (o1 : ∀ H, r1.Ok K H s1) (o2 : ∀ H, r2.Ok K H s2) (l1 : ∀ b ∈ r1.fp, b < N) (l2 : ∀ b ∈ r2.fp, b < N) :
    Turn P w K (.Tuple elts kk tpos) (ItS K s1 s2) [N + 4, N + 2, N + 3, N, N + 1] (N + 4) (fun i h => IsZip h (N + 4) (N + 2) (N + 3) .none ∧ IsTupOf2 h (N + 2) (.ref N) (.ref (N + 1)) ∧ (∃ x y, IsTupOf2 h (N + 3) x y) ∧ r1.It N i h ∧ r2.It (N + 1) i h) where
  mem := by simp
  obj := fun i h st c hc => by
    obtain ⟨hz, hTI, ⟨x, y, hTO⟩, e1, e2⟩ := st
    have e' : c = N + 4 ∨ c = N + 2 ∨ c = N + 3 ∨ c = N ∨ c = N + 1 := by simpa using hc
    rcases e' with q | q | q | q | q
    · rw [q]; exact ⟨_, hz, fun v q => nomatch q⟩
    · rw [q]; exact ⟨_, hTI, fun v q => nomatch q⟩
    · rw [q]; exact ⟨_, hTO, fun v q => nomatch q⟩
    · rw [q]; exact e1.obj
    · rw [q]; exact e2.obj
  keep := fun i h h' st k => by
    obtain ⟨hz, hTI, ⟨x, y, hTO⟩, h1, h2⟩ := st
    exact ⟨k _ (by simp) _ hz, k _ (by simp) _ hTI, ⟨x, y, k _ (by simp) _ hTO⟩, h1.at_ fun o q => k N (by simp) o q, h2.at_ fun o q => k (N + 1) (by simp) o q⟩
  item := by
    intro X hP hw hK hc i pins s σ H E I hf st hg
    subst hP hw hK
    obtain ⟨hz, hTI, ⟨x0, y0, hTO⟩, h1, h2⟩ := st
    obtain ⟨xs, ys, x, y, hqx, hqy, hx, hy⟩ := hg
    obtain ⟨its1, hs1, n1, p1⟩ := src_at I (o1 H) hqx
    obtain ⟨its2, hs2, n2, p2⟩ := src_at I (o2 H) hqy
    have hh : X.A.in1.handled = none := I.ok.hd hc
    have D1 := r1.draws (prog := X.prog) (w := X.w) hh its1 N fun b hb => Nat.ne_of_lt (l1 b hb)
    have D2 := r2.draws (prog := X.prog) (w := X.w) hh its2 (N + 1) fun b hb => Nat.ne_of_lt (Nat.lt_succ_of_lt (l2 b hb))
    have S := zip_sep2 l1 l2
    have hzl : N + 4 < s.heap.objs.size := Heap.lt_size hz
    have hi1 : i < r1.n its1 := by rw [n1]; exact (List.getElem?_eq_some_iff.mp hx).1
    have hi2 : i < r2.n its2 := by rw [n2]; exact (List.getElem?_eq_some_iff.mp hy).1
    refine wpAny_pyNext_zipD2_item S D1 D2 hz hTI hTO (r1.st h1 hs1) (r2.st h2 hs2) hi1 hi2 fun u u2 h' tk hu hu2 z' TO' h1' h2' hT hsz hk => ?_
    obtain ⟨x', hx', ru⟩ := p1 i u hu
    obtain ⟨y', hy', ru2⟩ := p2 i u2 hu2
    rw [hx] at hx'
    rw [hy] at hy'
    cases hx'
    cases hy'
    refine ⟨_, rfl, wpAny_letOwnedTupleGo_zip (s := { s with heap := h', toks := tk }) z' fun h'' z'' sb => ?_⟩
    have hT2 : h''.get? s.heap.objs.size = some { cls := .type "tuple", data := .seq #[u, u2] } := (sb.2 _ (Nat.ne_of_gt hzl)).trans hT
    have new : ObjOk X.prog X.w (upd H s.heap.objs.size (.tup [x, y])) h'' s.heap.objs.size (.tup [x, y]) :=
      ⟨by show 2 ≤ sizeLine; decide, [u, u2], .cons ru (.cons ru2 .nil), ⟨_, hT2, rfl, _, rfl⟩⟩
    have I1 : Inv X pins σ (upd H s.heap.objs.size (.tup [x, y])) { s with heap := h'', toks := tk } :=
      I.turnedNew (t' := tk) (ch := [N + 4, N + 2, N + 3, N, N + 1]) (fun c o hb q => (sb.2 c (fun q' => hb (by simp [q']))).trans (hk c o (fun q' => hb (by simp [q'])) (fun q' => hb (by simp [q'])) (fun q' => hb (by simp [q'])) (fun q' => hb (by simp [q'])) q)) hf (Nat.le_refl _) new
    refine ⟨.ref s.heap.objs.size, _, I1, rfl, ⟨_, x, y, rfl, I.hok.fresh (Nat.le_refl _), rfl, fun l hl => by rw [src_inj I hl hqx]; exact hx, fun l hl => by rw [src_inj I hl hqy]; exact hy⟩, ⟨z'', ?_, ⟨u, u2, ?_⟩, ?_, ?_⟩, fun c hcm => ?_⟩
    · exact (sb.2 _ (nn 2 4 (by decide))).trans (hk _ _ (nn 2 4 (by decide)) (nn 2 3 (by decide)) (nn 2 0 (by decide)) (nn 2 1 (by decide)) hTI)
    · exact (sb.2 _ (nn 3 4 (by decide))).trans TO'
    · exact (r1.it h1').at_ fun o q => (sb.2 _ (nn 0 4 (by decide))).trans q
    · exact (r2.it h2').at_ fun o q => (sb.2 _ (nn 1 4 (by decide))).trans q
    · have hlt : c < s.heap.objs.size := lt5 hzl (by simpa using hcm)
      rw [upd_ne (Nat.ne_of_lt hlt)]
      exact (hf c hcm).1
  done := by
    intro X hP hw hK hc i pins s σ H E I hf st hg
    subst hP hw hK
    obtain ⟨hz, hTI, ⟨x0, y0, hTO⟩, h1, h2⟩ := st
    obtain ⟨xs, ys, hqx, hqy, hle1, hle2, hend⟩ := hg
    obtain ⟨its1, hs1, n1, p1⟩ := src_at I (o1 H) hqx
    obtain ⟨its2, hs2, n2, p2⟩ := src_at I (o2 H) hqy
    have hh : X.A.in1.handled = none := I.ok.hd hc
    have D1 := r1.draws (prog := X.prog) (w := X.w) hh its1 N fun b hb => Nat.ne_of_lt (l1 b hb)
    have D2 := r2.draws (prog := X.prog) (w := X.w) hh its2 (N + 1) fun b hb => Nat.ne_of_lt (Nat.lt_succ_of_lt (l2 b hb))
    exact wpAny_pyNext_zipD2_end (zip_sep2 l1 l2) D1 D2 hz hTI hTO (r1.st h1 hs1) (r2.st h2 hs2) (by omega) (by omega) (by omega) fun h' tk hk => ⟨rfl, I.turnedL (t' := tk) (ch := [N + 4, N + 2, N + 3, N, N + 1]) (fun c o hb q =>
      hk c o (fun q' => hb (by simp [q'])) (fun q' => hb (by simp [q'])) (fun q' => hb (by simp [q'])) (fun q' => hb (by simp [q'])) q) hf⟩
  self := fun A i s Q E st h => wpAny_pyIter_zip st.1 h
def iZipS (K : PySem.W.Frag) (ta : TA) : TI := fun σ H R => ta σ H fun vs H1 => ∃ (s1 s2 : Src) (xs ys : List V), vs = [s1.val, s2.val] ∧ s1.Is K H1 xs ∧ s2.Is K H1 ys ∧ R (ItS K s1 s2) H1
theorem rc_of {src : Src} {u : Value} (r : RelV src.val u) : ∃ rc : Rc, rc.v = u ∧ ∀ K H, rc.Ok K H src := by
  cases src with
  | tup a => exact ⟨.tup a, Eq.symm r, fun K H => rfl⟩
  | txt z =>
    obtain ⟨t, e⟩ := r
    exact ⟨.txt z t, e.symm, fun K H => rfl⟩
theorem rc_lt {X : Cx} {pins : List (Addr × Obj)} {σ : L2.St} {H : Hp} {s : Shared} {xs : List V} {src : Src} {r : Rc} (I : Inv X pins σ H s) (h : r.Ok X.K H src) (q : src.Is X.K H xs) : ∀ b ∈ r.fp, b < s.heap.objs.size := by
  cases r with
  | tup a =>
    cases (show src = .tup a from h)
    obtain ⟨its, rv, p, _⟩ := I.tuple q
    intro b hb
    have hb : b = a := by simpa [Rc.fp] using hb
    rw [hb]
    exact p.lt
  | txt z t => intro b hb; simp [Rc.fp] at hb
theorem Rc.it0 {r : Rc} {it : Addr} {h : Heap} (e : h.get? it = some r.o) : r.It it 0 h := by
  cases r with
  | tup a => exact ⟨_, e, rfl, rfl⟩
  | txt z t => exact ⟨_, e, rfl, rfl⟩
theorem pi_zipS {X : Cx} {e e2 : Expr} {ta : TA} {p pos tpos : Pos} {elts : List Expr} {kk : Nat} (hg : Gl X "zip") (hm : X.mg "zip" = none) (ha : PA X [e, e2] ta)
    (hs : starEach [e, e2] X.env = (false, eval e X.env) :: starEach [e2] X.env := by rfl) (hpl : (backTo pos (starEach [e2] X.env)).any (·.1) = false := by rfl) :
    PI X (.Tuple elts kk tpos) (.Call (.Name "zip" p) [e, e2] [] pos) (iZipS X.K ta) := by
  refine ⟨fun pins s σ H R I h => ?_⟩
  refine PyProof.Rows.Call_ (ld_blt I hg hm PyProof.Rows.boot_zip (PyProof.Rows.callWith_type1 (thn (ha.run pos pins s σ H _ I h) fun us s1 ⟨vs, H1, I1, r1, q1⟩ => ?_) hs hpl))
  obtain ⟨a, b, xs, ys, ex, hqx, hqy, q⟩ := q1
  subst ex
  cases r1 with
  | cons r rr =>
    cases rr with
    | cons r' rr =>
      cases rr
      obtain ⟨c1, rfl, k1⟩ := rc_of r
      obtain ⟨c2, rfl, k2⟩ := rc_of r'
      obtain ⟨its1, hs1, n1, p1⟩ := src_at I1 (k1 X.K H1) hqx
      obtain ⟨its2, hs2, n2, p2⟩ := src_at I1 (k2 X.K H1) hqy
      refine zip_begins2 (c1.begins its1) (c2.begins its2) hs1 hs2 fun h' hz hTI hTO h1 h2 hsz hk => wpAny_pyIter_zip hz ?_
      have I2 : Inv X pins σ H1 { s1 with heap := h' } := I1.kept (t' := s1.toks) hk
      refine ⟨s1.heap.objs.size + 4, [s1.heap.objs.size + 4, s1.heap.objs.size + 2, s1.heap.objs.size + 3, s1.heap.objs.size, s1.heap.objs.size + 1], _, _, H1, rfl, I2, turn_zipS (k1 X.K) (k2 X.K) (rc_lt I1 (k1 X.K H1) hqx) (rc_lt I1 (k2 X.K H1) hqy), ⟨hz, hTI, ⟨_, _, hTO⟩, Rc.it0 h1, Rc.it0 h2⟩, fun c hcm => ?_, q⟩
      have hle : s1.heap.objs.size ≤ c := ge5 (by simpa using hcm)
      exact I1.fpOk hle (I1.hok.fresh hle)
/-- as a walk -/
theorem walk_zipS {K : PySem.W.Frag} {s1 s2 : Src} {xs ys : List V} {n : Nat} (hn : n = min xs.length ys.length) : Walk (ItS K s1 s2) n (fun H => s1.Is K H xs ∧ s2.Is K H ys) (YPair (fun i => xs[i]?) (fun i => ys[i]?)) where
  goes := fun i H hi ⟨h1, h2⟩ => ⟨xs, ys, xs[i]'(by omega), ys[i]'(by omega), h1, h2, List.getElem?_eq_getElem _, List.getElem?_eq_getElem _⟩
  stops := fun H ⟨h1, h2⟩ => ⟨xs, ys, h1, h2, by omega, by omega, by omega⟩
  yields := fun i H x H' hi ⟨h1, h2⟩ ⟨T, x', y', e1, e2, e3, e4, e5⟩ => ⟨T, x', y', e1, e2, e3, e4 xs h1, e5 ys h2⟩
end An
end
section
set_option Elab.async false
set_option maxRecDepth 100000
set_option maxHeartbeats 8000000
set_option linter.all false
/-! enumerate over tuples. -/
namespace PySem
theorem an_meets_enumerate {v : Value} {o : Obj} {H : Heap → Prop} (B : Begins v o H) :
    Meets (Builtin.«enumerate.__new__» ⟨[.type "enumerate", v], []⟩) (fun _ R s => H s.heap ∧
      R (.ok (.ret (.ref (s.heap.push o).objs.size))) { s with heap := (s.heap.push o).push { cls := .type "enumerate", data := .fields #[.none, .bool false, .ref s.heap.objs.size, rawInt 0, .none, .none] } }) :=
  .of_wp fun prog w A R s h => by
    obtain ⟨hp, g, d, tk, os⟩ := s; obtain ⟨h1, h⟩ := h
    have hsub := sub_enumerate
    have q1 : ∀ {A' : Around} {E : Value → Shared → Prop} {Q : Value → Shared → Prop}, Q (.ref hp.objs.size) ⟨hp.push o, g, d, tk, os⟩ → wpAny (model prog w) A' (pyIter v) Q E ⟨hp, g, d, tk, os⟩ :=
      fun q => B.iter prog w _ _ ⟨hp, g, d, tk, os⟩ _ h1 q
    wp_walk using q1
    refine wpAny_stack_any fun st => wpAny_pure ?_
    split
    · rename_i c _ _ _ _ _
      cases (c == Value.type "enumerate")
      · wp_walk using q1
        exact ⟨_, rfl, h⟩
      · wp_walk using q1
        exact ⟨_, rfl, h⟩
    · wp_walk using q1
      exact ⟨_, rfl, h⟩
theorem an_call_enumerate {prog : Program} {w : World} {A : Around} {E : Value → Shared → Prop} {s : Shared} {v : Value} {o : Obj} {H : Heap → Prop} {Q : Value → Shared → Prop} (B : Begins v o H) (h1 : H s.heap)
    (h : ∀ h', IsEnum h' (s.heap.objs.size + 1) s.heap.objs.size 0 .none → h'.get? s.heap.objs.size = some o → h'.objs.size = s.heap.objs.size + 2 →
      (∀ b o, s.heap.get? b = some o → h'.get? b = some o) → Q (.ref (s.heap.objs.size + 1)) { s with heap := h' }) :
    wpAny (model prog w) A (call (.type "enumerate") [v]) Q E s := by
  refine callType_new F.called_enumerate (by decide) (F.typeCall_enumerate_1 _) (F.newCall_enumerate_1 _) (fun obj => F.args_object_init_2 obj _) F.entry_enumerate_new
    (an_meets_enumerate B) ⟨h1, ?_⟩
  have hz : (s.heap.push o).objs.size = s.heap.objs.size + 1 := Heap.size_push ..
  show _ ∧ _
  rw [hz]
  have he : IsEnum ((s.heap.push o).push { cls := .type "enumerate", data := .fields #[.none, .bool false, .ref s.heap.objs.size, rawInt 0, .none, .none] }) (s.heap.objs.size + 1) s.heap.objs.size 0 .none := by
    have := Heap.get?_push_size (s.heap.push o) (o := { cls := .type "enumerate", data := .fields #[.none, .bool false, .ref s.heap.objs.size, rawInt 0, .none, .none] }) rfl
    rw [hz] at this; exact this
  refine ⟨⟨_, he, rfl⟩, h _ he (Heap.get?_push_of_some _ (Heap.get?_push_size _ B.free)) (by rw [Heap.size_push, hz]) fun b o x => Heap.get?_push_of_some _ (Heap.get?_push_of_some _ x)⟩
end PySem
namespace An
open PySem L2
/-- the tuple at a as it stands at each turn, each item in a new pair -/
def IteT (K : PySem.W.Frag) (a : Addr) : It :=
  ⟨fun i H => ∃ (xs : List V) (x : V), SqT K H a xs ∧ xs[i]? = some x, fun i H v H' => ∃ T x, v = .ref T ∧ H T = none ∧ H' = upd H T (.tup [.int (i : Nat), x]) ∧ ∀ xs, SqT K H a xs → xs[i]? = some x, fun i H => ∃ xs : List V, SqT K H a xs ∧ xs.length = i⟩
theorem turn_enumT {P : Program} {w : World} {K : PySem.W.Frag} {elts : List Expr} {kk : Nat} {tpos : Pos} {a : Addr} {N : Nat} (ha : a < N) :
    Turn P w K (.Tuple elts kk tpos) (IteT K a) [N + 1, N] (N + 1) (fun i h => (∃ old, IsEnum h (N + 1) N ((i : Nat) : Int) old) ∧ h.IsTupleIter N a i) where
  mem := by simp
  obj := fun i h st b hb => by
    obtain ⟨⟨old, he⟩, ⟨o, ho, hc, hd⟩⟩ := st
    have e' : b = N + 1 ∨ b = N := by simpa using hb
    rcases e' with z | z
    · rw [z]; exact ⟨_, he, fun v q => nomatch q⟩
    · rw [z]; exact ⟨o, ho, fun v q => by rw [hd] at q; cases q⟩
  keep := fun i h h' st k => let ⟨⟨old, he⟩, ⟨o, ho, hc, hd⟩⟩ := st; ⟨⟨old, k (N + 1) (by simp) _ he⟩, ⟨o, k N (by simp) _ ho, hc, hd⟩⟩
  item := by
    intro X hP hw hK hc i pins s σ H E I hf st hg
    subst hP hw hK
    obtain ⟨⟨old, he⟩, hit⟩ := st
    obtain ⟨xs, x, hq, hx⟩ := hg
    obtain ⟨its, rv, p, hz⟩ := I.tuple hq
    obtain ⟨u, hu, ru⟩ := rv.get hx
    have hel : N + 1 < s.heap.objs.size := Heap.lt_size he
    have hh : X.A.in1.handled = none := I.ok.hd hc
    have D := Draws.tuple (prog := X.prog) (w := X.w) hh N a (Nat.ne_of_lt ha) its.toArray
    have hi : i < its.toArray.size := by simpa using (List.getElem?_eq_some_iff.mp hu).1
    refine wpAny_pyNext_enum_itemC D he ⟨hit, p⟩ hi (nn 1 0 (by decide)) (by simp; exact fun z => nlt ha z.symm) fun y h' tk hy ho hit' hT hsz hk => ?_
    have ey : y = u := by
      have hy' : its[i]? = some y := by simpa using hy
      rw [hu] at hy'
      cases hy'
      rfl
    subst ey
    refine ⟨_, rfl, wpAny_letOwnedTupleGo_enum (s := { s with heap := h', toks := tk + 1 }) ho fun h'' he' sb => ?_⟩
    have hT2 : h''.get? s.heap.objs.size = some { cls := .type "tuple", data := .seq #[.int i tk, y] } := (sb.2 _ (Nat.ne_of_gt hel)).trans hT
    have new : ObjOk X.prog X.w (upd H s.heap.objs.size (.tup [.int (i : Nat), x])) h'' s.heap.objs.size (.tup [.int (i : Nat), x]) :=
      ⟨by show 2 ≤ sizeLine; decide, [.int i tk, y], .cons ⟨_, rfl⟩ (.cons ru .nil), ⟨_, hT2, rfl, _, rfl⟩⟩
    have I1 : Inv X pins σ (upd H s.heap.objs.size (.tup [.int (i : Nat), x])) { s with heap := h'', toks := tk + 1 } :=
      I.turnedNew (ch := [N + 1, N]) (fun b ob hb q => (sb.2 b (fun z => hb (by simp [z]))).trans (hk b ob (fun z => hb (by simp [z])) (fun z => hb (by simp [z])) q)) hf (Nat.le_refl _) new
    refine ⟨.ref s.heap.objs.size, _, I1, rfl, ⟨_, x, rfl, I.hok.fresh (Nat.le_refl _), rfl, fun ys hy => by rw [I.tuple_inj hy hq]; exact hx⟩, ⟨⟨y, ?_⟩, ?_⟩, fun b hb => ?_⟩
    · have e1 : ((i + 1 : Nat) : Int) = (i : Int) + 1 := by omega
      rw [e1]; exact he'
    · obtain ⟨o, e1, e2, e3⟩ := hit'.1
      exact ⟨o, (sb.2 N (nn 0 1 (by decide))).trans e1, e2, e3⟩
    · have hb' : b < s.heap.objs.size := lt2 hel (by simpa using hb)
      rw [upd_ne (Nat.ne_of_lt hb')]
      exact (hf b hb).1
  done := by
    intro X hP hw hK hc i pins s σ H E I hf st hg
    subst hP hw hK
    obtain ⟨⟨old, he⟩, hit⟩ := st
    obtain ⟨xs, hq, hx⟩ := hg
    obtain ⟨its, rv, p, hz⟩ := I.tuple hq
    have hh : X.A.in1.handled = none := I.ok.hd hc
    have D := Draws.tuple (prog := X.prog) (w := X.w) hh N a (Nat.ne_of_lt ha) its.toArray
    obtain ⟨f0, f1, f2, f3, f4, f5⟩ := hf N (by simp)
    have hi : i = its.toArray.size := by
      have := rv.length
      simp
      omega
    subst hi
    exact wpAny_pyNext_enum_endD D he ⟨hit, p⟩ fun h' eb => ⟨rfl, I.turned (t' := s.toks) (fun b o hb q => eb b o hb q) f0 f1 f3 f4 f5⟩
  self := fun A i s Q E st h => let ⟨⟨_, he⟩, _⟩ := st; wpAny_pyIter_enum he h
def iEnumT (K : PySem.W.Frag) (ta : TA) : TI := fun σ H R => ta σ H fun vs H1 => ∃ a xs, vs = [.ref a] ∧ SqT K H1 a xs ∧ R (IteT K a) H1
theorem pi_enumT {X : Cx} {e : Expr} {ta : TA} {p pos tpos : Pos} {elts : List Expr} {kk : Nat} (hg : Gl X "enumerate") (hm : X.mg "enumerate" = none) (ha : PA X [e] ta) (hs : starEach [e] X.env = [(false, eval e X.env)] := by rfl) :
    PI X (.Tuple elts kk tpos) (.Call (.Name "enumerate" p) [e] [] pos) (iEnumT X.K ta) := by
  refine ⟨fun pins s σ H R I h => ?_⟩
  refine PyProof.Rows.Call_ (ld_blt I hg hm PyProof.Rows.boot_enumerate (PyProof.Rows.callWith_type1 (thn (ha.run pos pins s σ H _ I h) fun us s1 ⟨vs, H1, I1, r1, q1⟩ => ?_) hs rfl))
  obtain ⟨a, xs, ex, hq, q⟩ := q1
  subst ex
  cases r1 with
  | cons r rr =>
    cases rr
    cases r
    obtain ⟨its, rv, p', hz⟩ := I1.tuple hq
    refine an_call_enumerate (begins_tuple a its.toArray) p' fun h' he hit hsz hk => wpAny_pyIter_enum he ?_
    have I2 : Inv X pins σ H1 { s1 with heap := h' } := I1.kept (t' := s1.toks) hk
    refine ⟨s1.heap.objs.size + 1, [s1.heap.objs.size + 1, s1.heap.objs.size], _, _, H1, rfl, I2, turn_enumT p'.lt, ⟨⟨.none, he⟩, ⟨_, hit, rfl, rfl⟩⟩, fun b hb => ?_, q⟩
    have hle : s1.heap.objs.size ≤ b := ge2 (by simpa using hb)
    exact I1.fpOk hle (I1.hok.fresh hle)
theorem walk_enumT {K : PySem.W.Frag} {a : Addr} {xs : List V} : Walk (IteT K a) xs.length (fun H => SqT K H a xs) (YPair (fun i => some (.int (i : Nat))) (fun i => xs[i]?)) where
  goes := fun i H hi h => ⟨xs, xs[i], h, by simp [hi]⟩
  stops := fun H h => ⟨xs, h, rfl⟩
  yields := fun i H x H' hi h ⟨T, x', e1, e2, e3, e4⟩ => ⟨T, _, x', e1, e2, e3, rfl, e4 xs h⟩
end An
end
section
set_option Elab.async false
set_option maxRecDepth 100000
set_option maxHeartbeats 8000000
set_option linter.all false
/-! zip with a target of one name: the pair that was given out is kept by others, or is gone. -/
namespace PySem
section
variable {prog : Program} {w : World} {A : Around} {E : Value → Shared → Prop} {s : Shared} {z TI TO i1 i2 : Addr} {fp1 fp2 : List Addr} {n1 n2 i : Nat} {P1 P2 : Nat → Value → Prop} {St1 St2 : Nat → Heap → Prop} {a1 a2 : Value}
/-- a zip in any state: nothing is out, or the tuple at T was given out (f: known to be kept) -/
def AnZ (h : Heap) (z TI TO : Addr) : Prop := IsZip h z TI TO .none ∨ ∃ T f, IsZipHeld h z TI TO T f
theorem AnZ.obj {h : Heap} (x : AnZ h z TI TO) : ∃ o, h.get? z = some o ∧ ∀ v, o.data ≠ .cell v := by
  rcases x with x | ⟨T, f, x⟩
  · exact ⟨_, x, fun v q => nomatch q⟩
  · exact ⟨_, x, fun v q => nomatch q⟩
theorem AnZ.at_ {h h' : Heap} (x : AnZ h z TI TO) (k : ∀ o, h.get? z = some o → h'.get? z = some o) : AnZ h' z TI TO := by
  rcases x with x | ⟨T, f, x⟩
  · exact .inl (k _ x)
  · exact .inr ⟨T, f, k _ x⟩
theorem an_gone {a : Addr} {Q : Option Obj → Shared → Prop} (ho : s.heap.get? a = none) (h : Q none s) : wpAny (model prog w) A (loadIfAlive a) Q E s := by
  have h' : Q (s.heap.get? a) s := by rw [ho]; exact h
  exact fun _ _ _ => h'
/-- is the tuple free? -/
theorem an_free {Q : Bool → Shared → Prop} (hz : AnZ s.heap z TI TO)
    (h1 : ∀ f x, s.heap.get? z = some { cls := .type "zip", dict := none, data := .fields #[x, .bool f, .bool false, .ref TI, .ref TO], slots := #[] } → Q true s)
    (h2 : ∀ h' T, IsZipHeld h' z TI TO T true → Heap.SameBut z s.heap h' → Q false { s with heap := h' }) : wpAny (model prog w) A (Builtin.SmallTypes.ownedTupleIsFree (.ref z)) Q E s := by
  rcases hz with hz | ⟨T, f, hz⟩
  · unfold Builtin.SmallTypes.ownedTupleIsFree
    exact wpAny_bind (wpAny_field hz rfl (x := .none) rfl (wpAny_pure (h1 false _ hz)))
  · cases e : s.heap.get? T with
    | some oT => exact wpAny_tupleHeld_zip hz e fun h' hz' hs => h2 h' T hz' hs
    | none =>
      unfold Builtin.SmallTypes.ownedTupleIsFree
      refine wpAny_bind (wpAny_field hz rfl (x := rawInt T) rfl ?_)
      show wpAny _ _ (loadIfAlive ((T : Int).toNat) >>= _) _ _ _
      rw [Int.toNat_natCast]
      exact wpAny_bind (an_gone e (wpAny_pure (h1 f _ hz)))
theorem an_zip_item {Q : Value → Shared → Prop} (S : ZipSep2 z TI TO i1 i2 fp1 fp2) (D1 : Draws prog w A i1 fp1 n1 P1 St1) (D2 : Draws prog w A i2 fp2 n2 P2 St2)
    (hz : AnZ s.heap z TI TO) (hTI : IsTupOf2 s.heap TI (.ref i1) (.ref i2)) (hTO : IsTupOf2 s.heap TO a1 a2) (st1 : St1 i s.heap) (st2 : St2 i s.heap) (hlt1 : i < n1) (hlt2 : i < n2)
    (hQ : ∀ x1 x2 h' tk, P1 i x1 → P2 i x2 → AnZ h' z TI TO → (∃ b1 b2, IsTupOf2 h' TO b1 b2) → St1 (i + 1) h' → St2 (i + 1) h' → IsTupOf2 h' s.heap.objs.size x1 x2 → h'.objs.size = s.heap.objs.size + 1 →
      (∀ c o, c ≠ z → c ≠ TO → c ≠ i1 → c ≠ i2 → s.heap.get? c = some o → h'.get? c = some o) → Q (.ref s.heap.objs.size) { s with heap := h', toks := tk }) :
    wpAny (model prog w) A (Builtin.«zip.__next__» ⟨[.ref z], []⟩) (fun fin s' => ∃ v, fin = .done (.ret v) ∧ Q v s') E s := by
  obtain ⟨hp, g, d, tk0, os⟩ := s
  have hzr : ∃ x f, hp.get? z = some { cls := .type "zip", dict := none, data := .fields #[x, .bool f, .bool false, .ref TI, .ref TO], slots := #[] } := by
    rcases hz with hz | ⟨T, f, hz⟩
    · exact ⟨_, _, hz⟩
    · exact ⟨_, _, hz⟩
  obtain ⟨x0, f0, hzr⟩ := hzr
  show wpAny _ _ (field (.ref z) 2 >>= _) _ _ _
  refine wpAny_bind (wpAny_field hzr rfl (x := .bool false) rfl ?_)
  show wpAny _ _ (field (.ref z) 3 >>= _) _ _ _
  refine wpAny_bind (wpAny_field hzr rfl (x := .ref TI) rfl ?_)
  refine wpAny_bind (wpAny_seqItems hTI rfl ?_)
  show wpAny _ _ (Builtin.SmallTypes.ownedTupleIsFree (.ref z) >>= _) _ _ _
  refine wpAny_bind (an_free hz (fun f x hz => ?_) fun h₁ T hz₁ hs₁ => ?_)
  · simp only [if_true]
    refine wpAny_bind (wpAny_rule ?_)
    refine wpAny_bind (wpAny_field hz rfl (x := .ref TO) rfl ?_)
    refine wpAny_bind (wpAny_setField_rec hz (by simp) fun g0 hz0 hs0 => ?_)
    replace hz0 : g0.get? z = some { cls := .type "zip", dict := none, data := .fields #[.ellipsis, .bool f, .bool false, .ref TI, .ref TO], slots := #[] } := hz0
    replace hs0 : Heap.SameBut z hp g0 := hs0
    refine wpAny_bind ?_
    simp only [List.zipIdx_cons, List.zipIdx_nil, List.forIn_cons, List.forIn_nil]
    refine wpAny_bind (wpAny_bind (wpAny_onRaise ?_))
    show wpAny _ _ (Builtin.SmallTypes.nextOf (.ref i1) >>= _) _ _ ⟨g0, g, d, tk0, os⟩
    refine wpAny_bind (D1.item i _ _ _ hlt1 (D1.over st1 hs0 S.zf1) fun x1 p1 tk1 hx1 sn1 hp1 => wpAny_pure ?_)
    replace hp1 : Heap.SameBut i1 g0 p1 := hp1
    have hU1 : IsTupOf2 p1 TO a1 a2 := hp1.extBut _ _ S.Ti1 (hs0.extBut _ _ S.TOz hTO)
    refine wpAny_bind (wpAny_seqItems (s := ⟨p1, g, d, tk1, os⟩) hU1 rfl ?_)
    refine wpAny_bind (updateSeq_IsTupOf2 (s := ⟨p1, g, d, tk1, os⟩) hU1 fun g1 hT1 hs1 => ?_)
    replace hT1 : IsTupOf2 g1 TO x1 a2 := hT1
    replace hs1 : Heap.SameBut TO p1 g1 := hs1
    refine wpAny_bind (wpAny_letGo (wpAny_pure ?_))
    refine wpAny_bind (wpAny_bind (wpAny_onRaise ?_))
    show wpAny _ _ (Builtin.SmallTypes.nextOf (.ref i2) >>= _) _ _ ⟨g1, g, d, tk1, os⟩
    refine wpAny_bind (D2.item i _ _ _ hlt2 (D2.over (D2.over (D2.over st2 hs0 S.zf2) hp1 S.sep1_2) hs1 S.Tf2) fun x2 p2 tk2 hx2 sn2 hp2 => wpAny_pure ?_)
    replace hp2 : Heap.SameBut i2 g1 p2 := hp2
    have hU2 : IsTupOf2 p2 TO x1 a2 := hp2.extBut _ _ S.Ti2 hT1
    refine wpAny_bind (wpAny_seqItems (s := ⟨p2, g, d, tk2, os⟩) hU2 rfl ?_)
    refine wpAny_bind (updateSeq_IsTupOf2 (s := ⟨p2, g, d, tk2, os⟩) hU2 fun g2 hT2 hs2 => ?_)
    replace hT2 : IsTupOf2 g2 TO x1 x2 := hT2
    replace hs2 : Heap.SameBut TO p2 g2 := hs2
    refine wpAny_bind (wpAny_letGo (wpAny_pure (wpAny_pure ?_)))
    refine wpAny_bind (wpAny_seqItems (s := ⟨g2, g, d, tk2, os⟩) hT2 rfl ?_)
    refine wpAny_bind (wpAny_newTuple ?_)
    have hsz : g2.objs.size = hp.objs.size := by rw [hs2.1, hp2.1, hs1.1, hp1.1, hs0.1]
    have hzz : g2.get? z = some { cls := .type "zip", dict := none, data := .fields #[.ellipsis, .bool f, .bool false, .ref TI, .ref TO], slots := #[] } := (hs2.extBut _ _ S.TOz.symm (hp2.extBut _ _ S.zi2 (hs1.extBut _ _ S.TOz.symm (hp1.extBut _ _ S.zi1 hz0))))
    have hkk : ∀ c o, c ≠ z → c ≠ TO → c ≠ i1 → c ≠ i2 → hp.get? c = some o → g2.get? c = some o := fun c o cz cT c1 c2 e =>
      (hs2.extBut _ _ cT (hp2.extBut _ _ c2 (hs1.extBut _ _ cT (hp1.extBut _ _ c1 (hs0.extBut _ _ cz e)))))
    have hj1 : St1 (i + 1) g2 := (D1.over (D1.over (D1.over sn1 hs1 S.Tf1) hp2 S.sep2_1) hs2 S.Tf1)
    have hj2 : St2 (i + 1) g2 := (D2.over sn2 hs2 S.Tf2)
    have hzlt : z < g2.objs.size := Heap.lt_size hzz
    show wpAny _ _ (Builtin.SmallTypes.ownedTupleHandOut (.ref z) (.ref g2.objs.size) >>= _) _ _ ⟨g2.push { cls := .type "tuple", data := .seq #[x1, x2] }, g, d, tk2, os⟩
    refine wpAny_bind ?_
    unfold Builtin.SmallTypes.ownedTupleHandOut
    have hz₆ : (g2.push { cls := .type "tuple", data := .seq #[x1, x2] }).get? z = some { cls := .type "zip", dict := none, data := .fields #[.ellipsis, .bool f, .bool false, .ref TI, .ref TO], slots := #[] } := Heap.get?_push_of_some _ hzz
    refine wpAny_bind (wpAny_setField_rec hz₆ (by simp) fun h₇ hz₇ hs₇ => ?_)
    replace hz₇ : h₇.get? z = some { cls := .type "zip", dict := none, data := .fields #[rawInt g2.objs.size, .bool f, .bool false, .ref TI, .ref TO], slots := #[] } := hz₇
    refine wpAny_setField_rec hz₇ (by simp) fun h₈ hz₈ hs₈ => ?_
    replace hz₈ : IsZipHeld h₈ z TI TO g2.objs.size false := hz₈
    replace hs₇ : Heap.SameBut z (g2.push { cls := .type "tuple", data := .seq #[x1, x2] }) h₇ := hs₇
    replace hs₈ : Heap.SameBut z h₇ h₈ := hs₈
    have up : ∀ c o, c ≠ z → g2.get? c = some o → h₈.get? c = some o := fun c o c1 e => hs₈.extBut _ _ c1 (hs₇.extBut _ _ c1 (Heap.get?_push_of_some _ e))
    have hT₈ : IsTupOf2 h₈ g2.objs.size x1 x2 := hs₈.extBut _ _ (Nat.ne_of_gt hzlt) (hs₇.extBut _ _ (Nat.ne_of_gt hzlt) (Heap.get?_push_size _ rfl))
    have hz8 : h₈.objs.size = g2.objs.size + 1 := by rw [hs₈.1, hs₇.1, Heap.size_push]
    rw [hsz] at hz₈ hT₈ hz8
    refine wpAny_pure ⟨_, rfl, ?_⟩
    show Q (.ref g2.objs.size) ⟨h₈, g, d, tk2, os⟩
    rw [hsz]
    exact hQ x1 x2 h₈ tk2 hx1 hx2 (.inr ⟨_, _, hz₈⟩) ⟨_, _, up _ _ S.TOz hT2⟩ (D1.frame _ _ _ hj1 fun b hb o e => up b o (fun q => S.zf1 (q ▸ hb)) e) (D2.frame _ _ _ hj2 fun b hb o e => up b o (fun q => S.zf2 (q ▸ hb)) e) hT₈ hz8 fun c o cz cT c1 c2 e => up c o cz (hkk c o cz cT c1 c2 e)
  · simp only [Bool.false_eq_true, if_false]
    replace hs₁ : Heap.SameBut z hp h₁ := hs₁
    refine wpAny_bind ?_
    rw [← Array.forIn_toList]
    simp only [List.forIn_cons, List.forIn_nil]
    refine wpAny_bind (wpAny_bind (wpAny_holding ?_))
    show wpAny _ _ (Builtin.SmallTypes.nextOf (.ref i1) >>= _) _ _ _
    refine wpAny_bind (D1.item i ⟨h₁, g, d, tk0, os⟩ _ _ hlt1 (D1.over st1 hs₁ S.zf1) fun x1 p1 tk1 hx1 sn1 hp1 => wpAny_pure ?_)
    replace hp1 : Heap.SameBut i1 h₁ p1 := hp1
    refine wpAny_pure ?_
    refine wpAny_bind (wpAny_bind (wpAny_holding ?_))
    show wpAny _ _ (Builtin.SmallTypes.nextOf (.ref i2) >>= _) _ _ _
    refine wpAny_bind (D2.item i ⟨p1, g, d, tk1, os⟩ _ _ hlt2 (D2.over (D2.over st2 hs₁ S.zf2) hp1 S.sep1_2) fun x2 p2 tk2 hx2 sn2 hp2 => wpAny_pure ?_)
    replace hp2 : Heap.SameBut i2 p1 p2 := hp2
    refine wpAny_pure (wpAny_pure ?_)
    show wpAny _ _ (newTuple [x1, x2] >>= _) _ _ _
    refine wpAny_bind (wpAny_newTuple ?_)
    have hsz : p2.objs.size = hp.objs.size := by rw [hp2.1, hp1.1, hs₁.1]
    have hz₃ : IsZipHeld p2 z TI TO T true := hp2.extBut _ _ S.zi2 (hp1.extBut _ _ S.zi1 hz₁)
    have hk : ∀ c o, c ≠ z → c ≠ i1 → c ≠ i2 → hp.get? c = some o → p2.get? c = some o := fun c o c1 c2 c3 e => hp2.extBut _ _ c3 (hp1.extBut _ _ c2 (hs₁.extBut _ _ c1 e))
    have hj1 : St1 (i + 1) p2 := D1.over sn1 hp2 S.sep2_1
    refine wpAny_pure ⟨_, rfl, ?_⟩
    show Q (.ref p2.objs.size) ⟨p2.push { cls := .type "tuple", data := .seq #[x1, x2] }, g, d, tk2, os⟩
    have hpp : IsTupOf2 (p2.push { cls := .type "tuple", data := .seq #[x1, x2] }) p2.objs.size x1 x2 := Heap.get?_push_size _ rfl
    have hz4 : (p2.push { cls := .type "tuple", data := .seq #[x1, x2] }).objs.size = p2.objs.size + 1 := Heap.size_push ..
    rw [hsz] at hpp hz4 ⊢
    exact hQ x1 x2 _ tk2 hx1 hx2 (.inr ⟨T, true, Heap.get?_push_of_some _ hz₃⟩) ⟨a1, a2, Heap.get?_push_of_some _ (hk _ _ S.TOz S.Ti1 S.Ti2 hTO)⟩ (D1.frame _ _ _ hj1 fun b hb o e => Heap.get?_push_of_some _ e) (D2.frame _ _ _ sn2 fun b hb o e => Heap.get?_push_of_some _ e) hpp hz4
      fun c o c1 _ c2 c3 e => Heap.get?_push_of_some _ (hk c o c1 c2 c3 e)
theorem an_zip_end {Q : Fin → Shared → Prop} (S : ZipSep2 z TI TO i1 i2 fp1 fp2) (D1 : Draws prog w A i1 fp1 n1 P1 St1) (D2 : Draws prog w A i2 fp2 n2 P2 St2)
    (hz : AnZ s.heap z TI TO) (hTI : IsTupOf2 s.heap TI (.ref i1) (.ref i2)) (hTO : IsTupOf2 s.heap TO a1 a2) (st1 : St1 i s.heap) (st2 : St2 i s.heap) (hi1 : i = n1)
    (hE : ∀ h' tk e, (∀ c o, c ≠ z → c ≠ TO → c ≠ i1 → c ≠ i2 → s.heap.get? c = some o → h'.get? c = some o) → (∃ o, h'.get? e = some o ∧ o.cls = .type "StopIteration") → E (.ref e) { s with heap := h', toks := tk }) :
    wpAny (model prog w) A (Builtin.«zip.__next__» ⟨[.ref z], []⟩) Q E s := by
  obtain ⟨hp, g, d, tk0, os⟩ := s
  have hzr : ∃ x f, hp.get? z = some { cls := .type "zip", dict := none, data := .fields #[x, .bool f, .bool false, .ref TI, .ref TO], slots := #[] } := by
    rcases hz with hz | ⟨T, f, hz⟩
    · exact ⟨_, _, hz⟩
    · exact ⟨_, _, hz⟩
  obtain ⟨x0, f0, hzr⟩ := hzr
  show wpAny _ _ (field (.ref z) 2 >>= _) _ _ _
  refine wpAny_bind (wpAny_field hzr rfl (x := .bool false) rfl ?_)
  show wpAny _ _ (field (.ref z) 3 >>= _) _ _ _
  refine wpAny_bind (wpAny_field hzr rfl (x := .ref TI) rfl ?_)
  refine wpAny_bind (wpAny_seqItems hTI rfl ?_)
  show wpAny _ _ (Builtin.SmallTypes.ownedTupleIsFree (.ref z) >>= _) _ _ _
  refine wpAny_bind (an_free hz (fun f x hz => ?_) fun h₁ T hz₁ hs₁ => ?_)
  · simp only [if_true]
    refine wpAny_bind (wpAny_rule ?_)
    refine wpAny_bind (wpAny_field hz rfl (x := .ref TO) rfl ?_)
    refine wpAny_bind (wpAny_setField_rec hz (by simp) fun g0 hz0 hs0 => ?_)
    replace hz0 : g0.get? z = some { cls := .type "zip", dict := none, data := .fields #[.ellipsis, .bool f, .bool false, .ref TI, .ref TO], slots := #[] } := hz0
    replace hs0 : Heap.SameBut z hp g0 := hs0
    refine wpAny_bind ?_
    simp only [List.zipIdx_cons, List.zipIdx_nil, List.forIn_cons, List.forIn_nil]
    refine wpAny_bind (wpAny_bind (wpAny_onRaise ?_))
    show wpAny _ _ (Builtin.SmallTypes.nextOf (.ref i1) >>= _) _ _ ⟨g0, g, d, tk0, os⟩
    refine wpAny_bind (D1.done ⟨g0, g, d, tk0, os⟩ _ _ (by rw [← hi1]; exact (D1.over st1 hs0 S.zf1)) fun q e hq he => ?_)
    replace hq : Heap.ExtBut i1 g0 q := hq
    obtain ⟨oe, hoe, hce⟩ := he
    replace hoe : q.get? e = some oe := hoe
    have hzq : q.get? z = some { cls := .type "zip", dict := none, data := .fields #[.ellipsis, .bool f, .bool false, .ref TI, .ref TO], slots := #[] } := hq _ _ S.zi1 hz0
    have hez : e ≠ z := fun x => by subst x; rw [hzq] at hoe; cases hoe; simp at hce
    refine wpAny_setField_rec (s := ⟨q, g, d, tk0, os⟩) hzq (by simp) fun q' _ hq' => ?_
    replace hq' : Heap.SameBut z q q' := hq'
    exact hE q' tk0 e (fun c o cz cT c1 c2 x => hq'.extBut _ _ cz (hq _ _ c1 (hs0.extBut _ _ cz x))) ⟨oe, hq'.extBut _ _ hez hoe, hce⟩
  · simp only [Bool.false_eq_true, if_false]
    replace hs₁ : Heap.SameBut z hp h₁ := hs₁
    refine wpAny_bind ?_
    rw [← Array.forIn_toList]
    simp only [List.forIn_cons, List.forIn_nil]
    refine wpAny_bind (wpAny_bind (wpAny_holding ?_))
    show wpAny _ _ (Builtin.SmallTypes.nextOf (.ref i1) >>= _) _ _ _
    refine wpAny_bind (D1.done ⟨h₁, g, d, tk0, os⟩ _ _ (by rw [← hi1]; exact (D1.over st1 hs₁ S.zf1)) fun q e hq he => ?_)
    exact hE q tk0 e (fun c o c1 _ c2 _ x => hq _ _ c2 (hs₁.extBut _ _ c1 x)) he
theorem an_pyNext_item {Q : Option Value → Shared → Prop} (S : ZipSep2 z TI TO i1 i2 fp1 fp2) (D1 : Draws prog w A.in1 i1 fp1 n1 P1 St1) (D2 : Draws prog w A.in1 i2 fp2 n2 P2 St2)
    (hz : AnZ s.heap z TI TO) (hTI : IsTupOf2 s.heap TI (.ref i1) (.ref i2)) (hTO : IsTupOf2 s.heap TO a1 a2) (st1 : St1 i s.heap) (st2 : St2 i s.heap) (hlt1 : i < n1) (hlt2 : i < n2)
    (hQ : ∀ x1 x2 h' tk, P1 i x1 → P2 i x2 → AnZ h' z TI TO → (∃ b1 b2, IsTupOf2 h' TO b1 b2) → St1 (i + 1) h' → St2 (i + 1) h' → IsTupOf2 h' s.heap.objs.size x1 x2 → h'.objs.size = s.heap.objs.size + 1 →
      (∀ c o, c ≠ z → c ≠ TO → c ≠ i1 → c ≠ i2 → s.heap.get? c = some o → h'.get? c = some o) → Q (some (.ref s.heap.objs.size)) { s with heap := h', toks := tk }) :
    wpAny (model prog w) A (pyNext (.ref z)) Q E s := by
  have hT : s.TypeIs (.ref z) "zip" := by
    rcases hz with hz | ⟨T, f, hz⟩
    · exact ⟨_, hz, rfl⟩
    · exact ⟨_, hz, rfl⟩
  unfold pyNext
  exact wpAny_bind (wpAny_attempt (wpAny_callSpecial?_slot (name := Str.ofString "__next__") hT F.slot_zip_next
    (wpAny_call_entry F.slot_zip_next hT F.entry_zip_next
      (an_zip_item S D1 D2 hz hTI hTO st1 st2 hlt1 hlt2 fun x1 x2 h' tk y1 y2 b1 b2 d1 d2 b5 b6 b7 => wpAny_pure (hQ x1 x2 h' tk y1 y2 b1 b2 d1 d2 b5 b6 b7)) (F.args_zip_next_1 _))))
theorem an_pyNext_end {Q : Option Value → Shared → Prop} (S : ZipSep2 z TI TO i1 i2 fp1 fp2) (D1 : Draws prog w A.in1 i1 fp1 n1 P1 St1) (D2 : Draws prog w A.in1 i2 fp2 n2 P2 St2)
    (hz : AnZ s.heap z TI TO) (hTI : IsTupOf2 s.heap TI (.ref i1) (.ref i2)) (hTO : IsTupOf2 s.heap TO a1 a2) (st1 : St1 i s.heap) (st2 : St2 i s.heap) (hi1 : i = n1)
    (hQ : ∀ h' tk, (∀ c o, c ≠ z → c ≠ TO → c ≠ i1 → c ≠ i2 → s.heap.get? c = some o → h'.get? c = some o) → Q none { s with heap := h', toks := tk }) : wpAny (model prog w) A (pyNext (.ref z)) Q E s := by
  have hT : s.TypeIs (.ref z) "zip" := by
    rcases hz with hz | ⟨T, f, hz⟩
    · exact ⟨_, hz, rfl⟩
    · exact ⟨_, hz, rfl⟩
  unfold pyNext
  refine wpAny_bind (wpAny_attempt (wpAny_callSpecial?_slot (name := Str.ofString "__next__") hT F.slot_zip_next
    (wpAny_call_entry F.slot_zip_next hT F.entry_zip_next (an_zip_end S D1 D2 hz hTI hTO st1 st2 hi1 fun h' tk e hk he => ?_) (F.args_zip_next_1 _))))
  obtain ⟨o, ho, hc⟩ := he
  refine wpAny_bind (wpAny_isInstance (T := "StopIteration") (b := true) ⟨o, ho, hc⟩ isSubtype_stop ?_)
  exact wpAny_pure (hQ _ _ hk)
theorem an_iter_held {T : Addr} {f : Bool} {Q : Value → Shared → Prop} (hz : IsZipHeld s.heap z TI TO T f) (h : Q (.ref z) s) : wpAny (model prog w) A (pyIter (.ref z)) Q E s := by
  have hT : s.TypeIs (.ref z) "zip" := ⟨_, hz, rfl⟩
  refine wpAny_pyIter_slot hT F.slot_zip_iter (wpAny_call_entry F.slot_zip_iter hT F.entry_zip_iter ?_ (F.args_zip_iter_1 _))
  show wpAny _ _ (ret (.ref z)) _ _ s
  exact wpAny_pure ⟨_, rfl, "zip", _, hT, F.slot_zip_next.lookup, h⟩
end
end PySem
end
section
set_option Elab.async false
set_option maxRecDepth 100000
set_option maxHeartbeats 8000000
set_option linter.all false
namespace An
open PySem L2
/-- as ItS, both of one length -/
def ItN (K : PySem.W.Frag) (s1 s2 : Src) : It :=
  ⟨(ItS K s1 s2).go, (ItS K s1 s2).yld, fun i H => ∃ xs ys : List V, s1.Is K H xs ∧ s2.Is K H ys ∧ i = xs.length ∧ i ≤ ys.length⟩
theorem turn_zipN {P : Program} {w : World} {K : PySem.W.Frag} {x : Str} {tpos : Pos} {N : Nat} {s1 s2 : Src} {r1 r2 : Rc} (o1 : ∀ H, r1.Ok K H s1) (o2 : ∀ H, r2.Ok K H s2) (l1 : ∀ b ∈ r1.fp, b < N) (l2 : ∀ b ∈ r2.fp, b < N) :
    Turn P w K (.Name x tpos) (ItN K s1 s2) [N + 4, N + 2, N + 3, N, N + 1] (N + 4) (fun i h => AnZ h (N + 4) (N + 2) (N + 3) ∧ IsTupOf2 h (N + 2) (.ref N) (.ref (N + 1)) ∧ (∃ x y, IsTupOf2 h (N + 3) x y) ∧ r1.It N i h ∧ r2.It (N + 1) i h) where
  mem := by simp
  obj := fun i h st c hc => by
    obtain ⟨hz, hTI, ⟨x, y, hTO⟩, e1, e2⟩ := st
    have e' : c = N + 4 ∨ c = N + 2 ∨ c = N + 3 ∨ c = N ∨ c = N + 1 := by simpa using hc
    rcases e' with q | q | q | q | q
    · rw [q]; exact hz.obj
    · rw [q]; exact ⟨_, hTI, fun v q => nomatch q⟩
    · rw [q]; exact ⟨_, hTO, fun v q => nomatch q⟩
    · rw [q]; exact e1.obj
    · rw [q]; exact e2.obj
  keep := fun i h h' st k => by
    obtain ⟨hz, hTI, ⟨x, y, hTO⟩, h1, h2⟩ := st
    exact ⟨hz.at_ fun o q => k _ (by simp) o q, k _ (by simp) _ hTI, ⟨x, y, k _ (by simp) _ hTO⟩, h1.at_ fun o q => k N (by simp) o q, h2.at_ fun o q => k (N + 1) (by simp) o q⟩
  item := by
    intro X hP hw hK hc i pins s σ H E I hf st hg
    subst hP hw hK
    obtain ⟨hz, hTI, ⟨x0, y0, hTO⟩, h1, h2⟩ := st
    obtain ⟨xs, ys, x, y, hqx, hqy, hx, hy⟩ := hg
    obtain ⟨its1, hs1, n1, p1⟩ := src_at I (o1 H) hqx
    obtain ⟨its2, hs2, n2, p2⟩ := src_at I (o2 H) hqy
    have hh : X.A.in1.handled = none := I.ok.hd hc
    have D1 := r1.draws (prog := X.prog) (w := X.w) hh its1 N fun b hb => Nat.ne_of_lt (l1 b hb)
    have D2 := r2.draws (prog := X.prog) (w := X.w) hh its2 (N + 1) fun b hb => Nat.ne_of_lt (Nat.lt_succ_of_lt (l2 b hb))
    have S := zip_sep2 l1 l2
    have hzl : N + 4 < s.heap.objs.size := by
      obtain ⟨_, e, _⟩ := hz.obj
      exact Heap.lt_size e
    have hi1 : i < r1.n its1 := by rw [n1]; exact (List.getElem?_eq_some_iff.mp hx).1
    have hi2 : i < r2.n its2 := by rw [n2]; exact (List.getElem?_eq_some_iff.mp hy).1
    refine an_pyNext_item S D1 D2 hz hTI hTO (r1.st h1 hs1) (r2.st h2 hs2) hi1 hi2 fun u u2 h' tk hu hu2 z' TO' h1' h2' hT hsz hk => ?_
    obtain ⟨x', hx', ru⟩ := p1 i u hu
    obtain ⟨y', hy', ru2⟩ := p2 i u2 hu2
    rw [hx] at hx'
    rw [hy] at hy'
    cases hx'
    cases hy'
    refine ⟨_, rfl, ?_⟩
    show wpAny _ _ (pure ()) _ _ _
    refine wpAny_pure ?_
    have new : ObjOk X.prog X.w (upd H s.heap.objs.size (.tup [x, y])) h' s.heap.objs.size (.tup [x, y]) :=
      ⟨by show 2 ≤ sizeLine; decide, [u, u2], .cons ru (.cons ru2 .nil), ⟨_, hT, rfl, _, rfl⟩⟩
    have I1 : Inv X pins σ (upd H s.heap.objs.size (.tup [x, y])) { s with heap := h', toks := tk } :=
      I.turnedNew (t' := tk) (ch := [N + 4, N + 2, N + 3, N, N + 1]) (fun c o hb q => (hk c o (fun q' => hb (by simp [q'])) (fun q' => hb (by simp [q'])) (fun q' => hb (by simp [q'])) (fun q' => hb (by simp [q'])) q)) hf (Nat.le_refl _) new
    refine ⟨.ref s.heap.objs.size, _, I1, rfl, ⟨_, x, y, rfl, I.hok.fresh (Nat.le_refl _), rfl, fun l hl => by rw [src_inj I hl hqx]; exact hx, fun l hl => by rw [src_inj I hl hqy]; exact hy⟩, ⟨z', ?_, TO', r1.it h1', r2.it h2'⟩, fun c hcm => ?_⟩
    · exact (hk _ _ (nn 2 4 (by decide)) (nn 2 3 (by decide)) (nn 2 0 (by decide)) (nn 2 1 (by decide)) hTI)
    · have hlt : c < s.heap.objs.size := lt5 hzl (by simpa using hcm)
      rw [upd_ne (Nat.ne_of_lt hlt)]
      exact (hf c hcm).1
  done := by
    intro X hP hw hK hc i pins s σ H E I hf st hg
    subst hP hw hK
    obtain ⟨hz, hTI, ⟨x0, y0, hTO⟩, h1, h2⟩ := st
    obtain ⟨xs, ys, hqx, hqy, hend, hle⟩ := hg
    obtain ⟨its1, hs1, n1, p1⟩ := src_at I (o1 H) hqx
    obtain ⟨its2, hs2, n2, p2⟩ := src_at I (o2 H) hqy
    have hh : X.A.in1.handled = none := I.ok.hd hc
    have D1 := r1.draws (prog := X.prog) (w := X.w) hh its1 N fun b hb => Nat.ne_of_lt (l1 b hb)
    have D2 := r2.draws (prog := X.prog) (w := X.w) hh its2 (N + 1) fun b hb => Nat.ne_of_lt (Nat.lt_succ_of_lt (l2 b hb))
    exact an_pyNext_end (zip_sep2 l1 l2) D1 D2 hz hTI hTO (r1.st h1 hs1) (r2.st h2 hs2) (by omega) fun h' tk hk => ⟨rfl, I.turnedL (t' := tk) (ch := [N + 4, N + 2, N + 3, N, N + 1]) (fun c o hb q =>
      hk c o (fun q' => hb (by simp [q'])) (fun q' => hb (by simp [q'])) (fun q' => hb (by simp [q'])) (fun q' => hb (by simp [q'])) q) hf⟩
  self := fun A i s Q E st h => by
    rcases st.1 with hz | ⟨T, f, hz⟩
    · exact wpAny_pyIter_zip hz h
    · exact an_iter_held hz h
def iZipN (K : PySem.W.Frag) (ta : TA) : TI := fun σ H R => ta σ H fun vs H1 => ∃ (s1 s2 : Src) (xs ys : List V), vs = [s1.val, s2.val] ∧ s1.Is K H1 xs ∧ s2.Is K H1 ys ∧ R (ItN K s1 s2) H1
theorem pi_zipN {X : Cx} {e e2 : Expr} {ta : TA} {p pos tpos : Pos} {x : Str} (hg : Gl X "zip") (hm : X.mg "zip" = none) (ha : PA X [e, e2] ta)
    (hs : starEach [e, e2] X.env = (false, eval e X.env) :: starEach [e2] X.env := by rfl) (hpl : (backTo pos (starEach [e2] X.env)).any (·.1) = false := by rfl) :
    PI X (.Name x tpos) (.Call (.Name "zip" p) [e, e2] [] pos) (iZipN X.K ta) := by
  refine ⟨fun pins s σ H R I h => ?_⟩
  refine PyProof.Rows.Call_ (ld_blt I hg hm PyProof.Rows.boot_zip (PyProof.Rows.callWith_type1 (thn (ha.run pos pins s σ H _ I h) fun us s1 ⟨vs, H1, I1, r1, q1⟩ => ?_) hs hpl))
  obtain ⟨a, b, xs, ys, ex, hqx, hqy, q⟩ := q1
  subst ex
  cases r1 with
  | cons r rr =>
    cases rr with
    | cons r' rr =>
      cases rr
      obtain ⟨c1, rfl, k1⟩ := rc_of r
      obtain ⟨c2, rfl, k2⟩ := rc_of r'
      obtain ⟨its1, hs1, n1, p1⟩ := src_at I1 (k1 X.K H1) hqx
      obtain ⟨its2, hs2, n2, p2⟩ := src_at I1 (k2 X.K H1) hqy
      refine zip_begins2 (c1.begins its1) (c2.begins its2) hs1 hs2 fun h' hz hTI hTO h1 h2 hsz hk => wpAny_pyIter_zip hz ?_
      have I2 : Inv X pins σ H1 { s1 with heap := h' } := I1.kept (t' := s1.toks) hk
      refine ⟨s1.heap.objs.size + 4, [s1.heap.objs.size + 4, s1.heap.objs.size + 2, s1.heap.objs.size + 3, s1.heap.objs.size, s1.heap.objs.size + 1], _, _, H1, rfl, I2, turn_zipN (k1 X.K) (k2 X.K) (rc_lt I1 (k1 X.K H1) hqx) (rc_lt I1 (k2 X.K H1) hqy), ⟨.inl hz, hTI, ⟨_, _, hTO⟩, Rc.it0 h1, Rc.it0 h2⟩, fun c hcm => ?_, q⟩
      have hle : s1.heap.objs.size ≤ c := ge5 (by simpa using hcm)
      exact I1.fpOk hle (I1.hok.fresh hle)
theorem walk_zipN {K : PySem.W.Frag} {s1 s2 : Src} {xs ys : List V} (hn : xs.length = ys.length) : Walk (ItN K s1 s2) xs.length (fun H => s1.Is K H xs ∧ s2.Is K H ys) (YPair (fun i => xs[i]?) (fun i => ys[i]?)) where
  goes := fun i H hi ⟨h1, h2⟩ => ⟨xs, ys, xs[i]'(by omega), ys[i]'(by omega), h1, h2, List.getElem?_eq_getElem _, List.getElem?_eq_getElem _⟩
  stops := fun H ⟨h1, h2⟩ => ⟨xs, ys, h1, h2, by omega, by omega⟩
  yields := fun i H x H' hi ⟨h1, h2⟩ ⟨T, x', y', e1, e2, e3, e4, e5⟩ => ⟨T, x', y', e1, e2, e3, e4 xs h1, e5 ys h2⟩
end An
end
section
set_option Elab.async false
set_option maxRecDepth 100000
set_option maxHeartbeats 8000000
set_option linter.all false
/-! Dicts: a display with one tuple key; update; keys that are pairs of an int and a tuple of ints. -/
namespace An
open PySem L2
section
variable {X : Cx} {pins : List (Addr × Obj)} {σ : L2.St} {H : Hp} {s : Shared}

/-! ### {k: v}, k a flat tuple -/
def tDispT (tk tv : TE) : TE := fun σ H Q => ∀ p, H p = none → tk σ (upd H p (.dT [])) fun x H1 => tv σ H1 fun y H2 => H2 p = some (.dT []) ∧ ∃ b k, x = .ref b ∧ H2 b = some (.tup (k.map kV)) ∧ Q (.ref p) (upd H2 p (.dT [(k, y)]))
theorem pe_dispT {k v : Expr} {tk tv : TE} {pos : Pos} (hu : X.A.units + 1 < cLine) (hk : PE X k tk) (hv : PE X v tv) : PE X (.Dict [some k] [v] pos) (tDispT tk tv) := by
  refine ⟨fun pins s σ H Q I q => ?_⟩
  have hn := I.hok.fresh (Nat.le_refl s.heap.objs.size)
  have I1 := I.laid (a := s.heap.objs.size) (o := .dT []) (h' := s.heap.push { cls := .type "dict", data := .dict #[] }) (t' := s.toks) (fun _ _ q => Heap.get?_push_of_some _ q) (Nat.le_refl _) (dt_empty s.heap I.big)
  have hl := pairTrees_length [some k] [v] X.env pos rfl rfl
  have hz := zip_pairTrees [some k] [v] X.env pos rfl rfl
  rw [arm_eval_Dict, hz, dictDisplay_pairs (pairTrees [some k] [v] X.env pos) (by intro e; rw [e] at hl; cases hl) (by rw [hl]; simp)]
  refine wpAny_bind (wpAny_standAt (wpAny_bind (wpAny_subDictH (knd := tupleKind (mixKind X.prog X.w)) (by show X.A.units < cLine; omega) (by rw [hl]; simp) ?_)))
  refine pairTrees_cons_walk (thn (hk.run pins _ σ _ _ I1 (q _ hn)) fun u s1 ⟨x, H1, I2, rx, q1⟩ => thn (hv.run pins s1 σ H1 _ I2 q1) fun w2 s2 ⟨y, H2, I3, ry, hp, b, ks, ex, hb, q2⟩ => pairTrees_nil_walk ?_)
  subst ex
  cases (show u = Value.ref b from rx)
  obtain ⟨_, hd, xs, rel, dd⟩ := dt_of I3.hok hp
  cases rel
  refine ⟨[(ks, b, w2)], ⟨rfl, rfl, key_of I3.hok hb, trivial⟩, dd, fun h' tk dd' hs => wpAny_pure ⟨.ref s.heap.objs.size, _, ?_, rfl, q2⟩⟩
  obtain ⟨ob, es, ep, ho, h2, h3, h4, _, h5⟩ := dd'
  have hbp : b ≠ s.heap.objs.size := ne_of hb hp (fun z => nomatch z)
  refine d_write (t' := tk) I3 (by rw [hp]; exact True.intro) hs ⟨ob, ho⟩ ⟨by show 1 ≤ sizeLine; decide, hd, [(ks, b, w2)], .cons ⟨rfl, by rw [upd_ne hbp]; exact hb, ry⟩ .nil, ob, es, ep, ho, h2, h3, h4, h5⟩

/-! ### d.update(d2) -/
theorem mt_dupdate : MtR X "dict.update" (fun x xs H Q => ∃ (a b : Addr) (ks ms : List (Key × V)), x = .ref a ∧ xs = [.ref b] ∧ H a = some (.dK ks) ∧ Rd H b (.dK ms) ∧ a ≠ b ∧ ks.length + ms.length ≤ sizeLine ∧ Q .non (upd H a (.dK (mergeK ks ms)))) := by
  intro pins s σ H x xs v us Q I rx rs h
  obtain ⟨a, b, ks, ms, rfl, rfl, ha, hb, hne, hl, q⟩ := h
  obtain ⟨u, rfl, ru⟩ := vals1 rs
  obtain rfl : v = .ref a := rx
  obtain rfl : u = .ref b := ru
  obtain ⟨z, hd, vs, rel, dd⟩ := dk_of I.hok ha
  obtain ⟨z2, hd2, vs2, rel2, dd2⟩ := dk_rd I.hok hb
  refine call_meetsIn PySem.F.slot_dict_update dd.typeIs PySem.F.entry_dict_update (PySem.F.args_dict_update_2 _ _) (meets_dict_update (mixKind X.prog X.w) a b hne hd2)
    ⟨vs, vs2, dd, dd2, (by rw [← rel.length, ← rel2.length]; exact hl), fun h' dd' _ hs => ⟨.non, _, ?_, rfl, q⟩⟩
  have hz : (mergeK ks ms).length ≤ sizeLine := Nat.le_trans (length_mergeK ms ks) hl
  have he : ∃ q, h'.get? a = some q := let ⟨q, _, _, hq, _⟩ := dd'; ⟨q, hq⟩
  exact d_write (t' := s.toks) I (by rw [ha]; exact True.intro) hs he (dk_new hz hd (rel2.merge rel) dd')

/-! ### keys (m, (m1, m2, ..)), the values their places -/
abbrev NK := Nat × List Nat
abbrev nN (n : Nat) : NestedKey := .num (n : Int)
def nkey (k : NK) : NestedKey := .tup [.num k.1, .tup (k.2.map nN)]
def NDO (P : Program) (w : World) (d : Addr) (ks : List NK) (as : List Addr) : HO := .ext fun h => ∃ xs : List (NestedKey × Addr × Value),
  (∃ o es ep, h.get? d = some o ∧ o.ExactDict ∧ o.data = .dict es ep ∧ es.toList = xs.map (entryOfKey (nestedKind P w)) ∧ (xs.map (·.1)).Nodup) ∧ xs.map (·.1) = ks.map nkey ∧ xs.map (·.2.1) = as ∧ (d == sysModules) = false ∧ ks.length ≤ sizeLine ∧
  ∀ (i : Nat) x, xs[i]? = some x → ∃ t, x.2.2 = .int (i : Int) t
def NKeyAt (H : Hp) (k : NK) (a : Addr) : Prop := ∃ t, H a = some (.tup [.int (k.1 : Int), .ref t]) ∧ H t = some (.tup (k.2.map vN))
def NKeys (H : Hp) : List NK → List Addr → Prop
  | [], [] => True
  | k :: ks, a :: as => NKeyAt H k a ∧ NKeys H ks as
  | _, _ => False
theorem NKeys.snoc : ∀ {ks : List NK} {as : List Addr} {k : NK} {a : Addr}, NKeys H ks as → NKeyAt H k a → NKeys H (ks ++ [k]) (as ++ [a])
  | [], [], k, a, _, h => ⟨h, trivial⟩
  | _ :: _, _ :: _, k, a, h, h' => ⟨h.1, NKeys.snoc h.2 h'⟩
theorem NKeys.tups {H' : Hp} (hk : ∀ b xs, H b = some (.tup xs) → H' b = some (.tup xs)) : ∀ {ks : List NK} {as : List Addr}, NKeys H ks as → NKeys H' ks as
  | [], [], _ => trivial
  | _ :: _, _ :: _, ⟨⟨t, h1, h2⟩, h3⟩ => ⟨⟨t, hk _ _ h1, hk _ _ h2⟩, NKeys.tups hk h3⟩
theorem nkey_inj {a b : NK} (h : nkey a = nkey b) : a = b := by
  obtain ⟨a1, a2⟩ := a
  obtain ⟨b1, b2⟩ := b
  unfold nkey at h
  simp only [NestedKey.tup.injEq, List.cons.injEq, NestedKey.num.injEq, and_true] at h
  obtain ⟨h1, h2⟩ := h
  have e1 : a1 = b1 := by omega
  have e2 : a2 = b2 := by
    have key : ∀ (l m : List Nat), l.map nN = m.map nN → l = m := by
      intro l
      induction l with
      | nil => intro m h; cases m with
        | nil => rfl
        | cons _ _ => simp at h
      | cons x l ih =>
        intro m h
        cases m with
        | nil => simp at h
        | cons y m =>
          simp only [List.map_cons, List.cons.injEq, NestedKey.num.injEq] at h
          rw [ih m h.2]
          have : x = y := by omega
          rw [this]
    exact key _ _ h2
  rw [e1, e2]
theorem nkey_is {k : NK} {a : Addr} (I : Inv X pins σ H s) (h : NKeyAt H k a) : (nestedKind X.prog X.w).is s.heap (nkey k) a := by
  obtain ⟨t, h1, h2⟩ := h
  obtain ⟨_, its, r, o, e1, e2, n, e3⟩ := (show ObjOk X.prog X.w H s.heap a (.tup _) from I.hok a _ h1)
  obtain ⟨_, its2, r2, o2, f1, f2, n2, f3⟩ := (show ObjOk X.prog X.w H s.heap t (.tup _) from I.hok t _ h2)
  have all : ∀ (ms : List Nat) (us : List Value), Vals (ms.map vN) us → NestedAll s.heap (ms.map nN) us := by
    intro ms
    induction ms with
    | nil => intro us h; cases h; exact .nil
    | cons m ms ih =>
      intro us h
      cases h with
      | cons r rr =>
        obtain ⟨t, rfl⟩ := r
        exact .cons (.int _ _) (ih _ rr)
  refine ⟨?_, ?_⟩
  · cases r with
    | cons ra rr =>
      obtain ⟨tk, rfl⟩ := ra
      cases rr with
      | cons rb rr =>
        cases rr
        cases rb
        refine .tup e1 e2 e3 ?_
        show NestedAll s.heap _ [Value.int _ tk, Value.ref t]
        exact .cons (.int _ _) (.cons (.tup f1 f2 f3 (all _ _ r2)) .nil)
  · show NestedKey.depth (.tup [.num _, .tup _]) ≤ 8
    have hd : ∀ ms : List Nat, NestedKey.depthAll (ms.map nN) = 0 := by
      intro ms
      induction ms with
      | nil => rfl
      | cons m ms ih => simp [NestedKey.depthAll, NestedKey.depth, ih]
    simp [NestedKey.depth, NestedKey.depthAll, hd]
theorem ndo_at {d : Addr} {ks : List NK} {as : List Addr} (I : Inv X pins σ H s) (e : H d = some (NDO X.prog X.w d ks as)) (hk : NKeys H ks as) : ∃ xs : List (NestedKey × Addr × Value), s.heap.DictOfH (nestedKind X.prog X.w) d xs ∧ xs.map (·.1) = ks.map nkey ∧ xs.map (·.2.1) = as ∧ (d == sysModules) = false ∧ ks.length ≤ sizeLine ∧ ∀ (i : Nat) x, xs[i]? = some x → ∃ t, x.2.2 = .int (i : Int) t := by
  obtain ⟨⟨xs, ⟨o, es, ep, h1, h2, h3, h4, h5⟩, h6, h7, h8, h9, h10⟩, _⟩ := I.hok d _ e
  refine ⟨xs, ⟨o, es, ep, h1, h2, h3, h4, fun x hx => ?_, h5⟩, h6, h7, h8, h9, h10⟩
  have key : ∀ (ks : List NK) (as : List Addr) (xs : List (NestedKey × Addr × Value)), NKeys H ks as → xs.map (·.1) = ks.map nkey → xs.map (·.2.1) = as → ∀ x ∈ xs, (nestedKind X.prog X.w).is s.heap x.1 x.2.1 := by
    intro ks
    induction ks with
    | nil =>
      intro as xs _ e _ x hx
      cases xs with
      | nil => cases hx
      | cons _ _ => simp at e
    | cons k ks ih =>
      intro as xs hk e1 e2 x hx
      cases xs with
      | nil => simp at e1
      | cons y ys =>
        cases as with
        | nil => exact hk.elim
        | cons a as =>
          simp only [List.map_cons, List.cons.injEq] at e1 e2
          rcases List.mem_cons.mp hx with rfl | hx
          · rw [e1.1, e2.1]
            exact nkey_is I hk.1
          · exact ih as ys hk.2 e1.2 e2.2 x hx
  exact key ks as xs hk h6 h7 x hx
theorem ndo_new {P : Program} {w : World} {H' : Hp} {h' : Heap} {d : Addr} {ks : List NK} {as : List Addr} {xs : List (NestedKey × Addr × Value)} (dd : h'.DictOfH (nestedKind P w) d xs) (e1 : xs.map (·.1) = ks.map nkey) (e2 : xs.map (·.2.1) = as) (hd : (d == sysModules) = false) (hl : ks.length ≤ sizeLine)
    (hv : ∀ (i : Nat) x, xs[i]? = some x → ∃ t, x.2.2 = .int (i : Int) t) : ObjOk P w H' h' d (NDO P w d ks as) := by
  obtain ⟨o, es, ep, h1, h2, h3, h4, _, h5⟩ := dd
  refine ⟨⟨xs, ⟨o, es, ep, h1, h2, h3, h4, h5⟩, e1, e2, hd, hl, hv⟩, ⟨o, h1⟩, fun a b ⟨xs, ⟨o, es, ep, h1, h2⟩, hr⟩ st => ⟨xs, ⟨o, es, ep, st _ h1, h2⟩, hr⟩⟩
theorem ndo_ne {P : Program} {w : World} {d : Addr} {ks : List NK} {as : List Addr} {o : HO} (h : ∀ φ, o ≠ .ext φ) : o ≠ NDO P w d ks as := fun z => h _ z
/-- order = {} -/
def tDNewN (P : Program) (w : World) : TE := fun _ H Q => ∀ p, H p = none → Q (.ref p) (upd H p (NDO P w p [] []))
theorem pe_dnewN {pos : Pos} : PE X (.Dict [] [] pos) (tDNewN X.prog X.w) := ⟨fun pins s σ H Q I h => by
  have hq := h s.heap.objs.size (I.hok.fresh (Nat.le_refl _))
  refine wpAny_Dict_empty ⟨.ref s.heap.objs.size, _, I.laid (t' := s.toks) (fun _ _ q => Heap.get?_push_of_some _ q) (Nat.le_refl _) (ndo_new (Heap.DictOfH.new _) rfl rfl ?_ (by show 0 ≤ sizeLine; decide) (fun i x e => by simp at e)), rfl, hq⟩
  exact beq_eq_false_iff_ne.mpr (Nat.ne_of_gt I.big)⟩

theorem atKey_none {K : Type} [DecidableEq K] : ∀ {xs : List (K × Addr × Value)} {k : K}, k ∉ xs.map (·.1) → atKey xs k = none
  | [], k, _ => rfl
  | x :: xs, k, h => by
    simp only [List.map_cons, List.mem_cons, not_or] at h
    have ih := atKey_none (xs := xs) (k := k) h.2
    unfold atKey at ih ⊢
    rw [List.find?_cons, decide_eq_false (fun e => h.1 e.symm)]
    exact ih
theorem atKey_at {K : Type} [DecidableEq K] : ∀ {xs : List (K × Addr × Value)} {k : K} {i : Nat} {x : K × Addr × Value}, (xs.map (·.1)).Nodup → xs[i]? = some x → x.1 = k → atKey xs k = some x.2
  | [], k, i, x, _, h, _ => by simp at h
  | y :: xs, k, 0, x, _, h, e => by
    simp at h
    subst h
    unfold atKey
    rw [List.find?_cons, decide_eq_true e]
    rfl
  | y :: xs, k, i + 1, x, hn, h, e => by
    simp only [List.map_cons, List.nodup_cons] at hn
    have h : xs[i]? = some x := by simpa using h
    have hne : y.1 ≠ k := fun z => hn.1 (by rw [z, ← e]; exact List.mem_map_of_mem (List.mem_of_getElem? h))
    have ih := atKey_at (k := k) hn.2 h e
    unfold atKey at ih ⊢
    rw [List.find?_cons, decide_eq_false hne]
    exact ih
theorem nk_mem {xs : List (NestedKey × Addr × Value)} {ks : List NK} {k : NK} (e : xs.map (·.1) = ks.map nkey) (h : nkey k ∈ xs.map (·.1)) : k ∈ ks := by
  rw [e] at h
  obtain ⟨k', hk, e'⟩ := List.mem_map.mp h
  rw [← nkey_inj e']
  exact hk
theorem nk_get {xs : List (NestedKey × Addr × Value)} {ks : List NK} {k : NK} {i : Nat} (e : xs.map (·.1) = ks.map nkey) (h : ks[i]? = some k) : ∃ x, xs[i]? = some x ∧ x.1 = nkey k := by
  have h2 : (xs.map (·.1))[i]? = some (nkey k) := by rw [e, List.getElem?_map, h]; rfl
  rw [List.getElem?_map] at h2
  cases q : xs[i]? with
  | none => rw [q] at h2; cases h2
  | some x => rw [q] at h2; exact ⟨x, rfl, Option.some.inj h2⟩
theorem dictH_noDict {d : Addr} {xs : List (NestedKey × Addr × Value)} {h : Heap} {P : Program} {w : World} (x : h.DictOfH (nestedKind P w) d xs) : ∀ b, Value.ref d = .ref b → ∃ ob, h.get? b = some ob ∧ ob.dict = none := fun b q => by
  cases q
  obtain ⟨o, es, ep, h1, h2, _⟩ := x
  exact ⟨o, h1, h2.2.1⟩
/-- order.setdefault(key, len(order)) -/
def tNSet (P : Program) (w : World) (td ty tx : TE) : TE := fun σ H Q => td σ H fun x H1 => ∃ d ks as, x = .ref d ∧ H1 d = some (NDO P w d ks as) ∧ NKeys H1 ks as ∧ ty σ H1 fun y H2 => tx σ H2 fun z H3 => ∃ a k, H3 d = some (NDO P w d ks as) ∧ NKeys H3 ks as ∧ y = .ref a ∧ NKeyAt H3 k a ∧ z = .int (ks.length : Int) ∧ ks.length < sizeLine ∧
  ((k ∈ ks → ∀ v, Q v H3) ∧ (k ∉ ks → ∀ v, Q v (upd H3 d (NDO P w d (ks ++ [k]) (as ++ [a])))))
theorem pe_nset {o e f : Expr} {td ty tx : TE} {apos cpos : Pos} (hu : X.A.units + 1 + 8 < cLine) (ho : PE X o td) (he : PE X e ty) (hf : PE X f tx) (m : M2 X o "setdefault" apos e f cpos) : PE X (.Call (.Attribute o "setdefault" apos) [e, f] [] cpos) (tNSet X.prog X.w td ty tx) := by
  refine ⟨fun pins s σ H Q I h => ?_⟩
  refine wpAny_Call_method m.base m.few m.line PySem.F.plainAttrs_dict PySem.F.slot_dict_setdefault PySem.F.type_dict_setdefault (thn (ho.run pins s σ H _ I h) fun u s1 ⟨x, H1, I1, rx, d, ks, as, ex, hd, hk, q1⟩ => ?_)
  subst ex
  obtain rfl : u = Value.ref d := rx
  obtain ⟨xs, dd, e1, e2, lo, hl, hv⟩ := ndo_at I1 hd hk
  refine ⟨dd.typeIs, dictH_noDict dd, ?_⟩
  rw [m.trees]
  refine Calls.callWith_builtin rfl (Calls.evalArgs_plain (Calls.spliced_cons (thn (he.run pins s1 σ H1 _ I1 q1) fun iv s2 ⟨y, H2, I2, ry, q2⟩ =>
    Calls.spliced_cons (thn (hf.run pins s2 σ H2 _ I2 q2) fun fv s3 ⟨z, H3, I3, rz, a, k, hd3, hk3, ey, hka, ez, hlt, q3, q4⟩ => Calls.spliced_nil ?_))))
  subst ey ez
  obtain rfl : iv = Value.ref a := ry
  obtain ⟨tz, rfl⟩ := rz
  obtain ⟨xs, dd, e1, e2, lo, hl, hv⟩ := ndo_at I3 hd3 hk3
  have hlen : xs.length = ks.length := by
    have := congrArg List.length e1
    simpa using this
  refine call_setdefault_heap (hsz := by omega) hu (nkey_is I3 hka) lo dd (fun p hp => ?_) fun hn h' dd' hs => ?_
  · have hm : k ∈ ks := by
      by_cases hc : k ∈ ks
      · exact hc
      · have := atKey_none (xs := xs) (k := nkey k) fun z => hc (nk_mem e1 z)
        rw [this] at hp
        cases hp
    obtain ⟨i, hi⟩ := List.getElem?_of_mem hm
    obtain ⟨x, hx, ex⟩ := nk_get e1 hi
    have hnd : (xs.map (·.1)).Nodup := by
      obtain ⟨_, _, _, _, _, _, _, _, h5⟩ := dd
      exact h5
    have hp2 := atKey_at hnd hx ex
    rw [hp] at hp2
    cases hp2
    obtain ⟨t, et⟩ := hv i x hx
    rw [et]
    exact ⟨.int (i : Int), H3, I3.tok _, ⟨t, rfl⟩, q3 hm _⟩
  · have hm : k ∉ ks := fun hc => by
      obtain ⟨i, hi⟩ := List.getElem?_of_mem hc
      obtain ⟨x, hx, ex⟩ := nk_get e1 hi
      have hnd : (xs.map (·.1)).Nodup := by
        obtain ⟨_, _, _, _, _, _, _, _, h5⟩ := dd
        exact h5
      rw [atKey_at hnd hx ex] at hn
      cases hn
    have hst : storedH xs (nkey k) a (.int (ks.length : Int) tz) = xs ++ [(nkey k, a, .int (ks.length : Int) tz)] := by
      unfold storedH
      rw [hn]
      rfl
    rw [hst] at dd'
    refine ⟨.int (ks.length : Int), _, d_write (t' := _) I3 (by rw [hd3]; exact True.intro) hs (let ⟨o, _, _, ho, _⟩ := dd'; ⟨o, ho⟩) (ndo_new dd' (by simp [e1]) (by simp [e2]) lo (by simp; omega) fun i x hx => ?_), ⟨tz, rfl⟩, q4 hm _⟩
    by_cases hi : i < xs.length
    · rw [List.getElem?_append_left hi] at hx
      exact hv i x hx
    · have hi2 : i = xs.length := by
        have := (List.getElem?_eq_some_iff.mp hx).1
        simp at this
        omega
      subst hi2
      rw [List.getElem?_append_right (Nat.le_refl _)] at hx
      simp at hx
      subst hx
      exact ⟨tz, by rw [hlen]⟩
/-- len(order) -/
def rLenN (P : Program) (w : World) : List V → Hp → VK → Prop := fun vs H Q => ∃ d ks as, vs = [.ref d] ∧ H d = some (NDO P w d ks as) ∧ NKeys H ks as ∧ Q (.int (ks.length : Int)) H
theorem call_lenN : CallR X (.builtin "len") (rLenN X.prog X.w) := by
  intro pins s σ H xs us Q I r h
  obtain ⟨d, ks, as, rfl, hd, hk, q⟩ := h
  obtain ⟨u, rfl, rx⟩ := vals1 r
  obtain rfl : u = .ref d := rx
  obtain ⟨xs, dd, e1, e2, lo, hl, hv⟩ := ndo_at I hd hk
  have hlen : xs.length = ks.length := by
    have := congrArg List.length e1
    simpa using this
  refine call_len_dictH lo dd (by rw [hlen]; rw [sizeLine_eq] at hl; omega) ⟨.int (ks.length : Int), H, ?_, ⟨s.toks + 1, by rw [hlen]⟩, q⟩
  exact I.tok _
/-- order[key] -/
def tNGet (P : Program) (w : World) (td ty : TE) : TE := fun σ H Q => td σ H fun x H1 => ty σ H1 fun y H2 => ∃ d ks as a k, ∃ i : Nat, x = .ref d ∧ H2 d = some (NDO P w d ks as) ∧ NKeys H2 ks as ∧ y = .ref a ∧ NKeyAt H2 k a ∧ ks[i]? = some k ∧ Q (.int (i : Int)) H2
theorem pe_nget {o i : Expr} {td ty : TE} {pos : Pos} (hu : X.A.units + 1 + 8 < cLine) (ho : PE X o td) (hi : PE X i ty) (hs : NoSl i) : PE X (.Subscript o i pos) (tNGet X.prog X.w td ty) := by
  refine ⟨fun pins s σ H Q I h => ?_⟩
  refine subD_of PySem.F.slot_dict_getitem.lookup hs (thn (ho.run pins s σ H _ I h) fun u s1 ⟨x, H1, I1, rx, q1⟩ => thn (hi.run pins s1 σ H1 _ I1 q1) fun iv s2 ⟨y, H2, I2, ry, d, ks, as, a, k, i, ex, hd, hk, ey, hka, hki, q2⟩ => ?_)
  subst ex ey
  obtain rfl : u = Value.ref d := rx
  obtain rfl : iv = Value.ref a := ry
  obtain ⟨xs, dd, e1, e2, lo, hl, hv⟩ := ndo_at I2 hd hk
  obtain ⟨x, hx, exx⟩ := nk_get e1 hki
  have hnd : (xs.map (·.1)).Nodup := by
    obtain ⟨_, _, _, _, _, _, _, _, h5⟩ := dd
    exact h5
  have hp := atKey_at hnd hx exx
  obtain ⟨t, et⟩ := hv i x hx
  refine ⟨dd.typeIs, wpAny_getItem_heap hu (nkey_is I2 hka) dd hp ?_⟩
  rw [et]
  exact ⟨.int (i : Int), H2, I2.tok _, ⟨t, rfl⟩, q2⟩
end
end An
end
section
set_option Elab.async false
set_option maxRecDepth 100000
set_option maxHeartbeats 4000000
set_option linter.all false
/-! Short forms: all, any, isinstance, texts; the data of readers and kinds. -/
namespace An
open PySem L2
/-- a text of its letters -/
def tx (cs : List Nat) : Str := ⟨cs.toArray⟩
theorem tx_len (cs : List Nat) : (tx cs).length = cs.length := by simp [tx, Str.length]
theorem tx_size (cs : List Nat) : (tx cs).cps.size = cs.length := by simp [tx]
theorem tx_get {cs : List Nat} {i c : Nat} (h : (tx cs).cps[i]? = some c) : cs[i]? = some c := by simpa [tx] using h
theorem tx_list (cs : List Nat) : (tx cs).cps.toList = cs := by simp [tx]
theorem tx_inj {a b : List Nat} : tx a = tx b ↔ a = b := by
  constructor
  · intro h
    have := congrArg (fun s : Str => s.cps.toList) h
    simpa [tx_list] using this
  · rintro rfl; rfl
theorem tx_eq (a b : List Nat) : (tx a == tx b) = decide (a = b) := by
  by_cases h : a = b
  · subst h; simp
  · rw [decide_eq_false h]
    exact beq_eq_false_iff_ne.mpr fun e => h (tx_inj.mp e)
def tD (cs : List Nat) : PyData := .str (tx cs)
def rowD (r : List Nat) : PyData := .tuple (r.map dN)
def rowsD (rows : List (List Nat)) : PyData := .tuple (rows.map rowD)
def yesD (ys : List Bool) : PyData := .tuple (ys.map fun b => PyData.bool b)
abbrev Rd3 := List Nat × List (List Nat) × List Bool
def rdD (R : Rd3) : PyData := .tuple [tD R.1, rowsD R.2.1, yesD R.2.2]
abbrev Kd := List Nat × Option Nat
def kD (k : Kd) : PyData := .tuple [tD k.1, tD k.2.toList]
def ksD (ks : List Kd) : PyData := .tuple (ks.map kD)
/-- the letters that are drawn -/
def LOk (L : List Nat) : Prop := L = [97] ∨ L = [97, 98] ∨ L = [98, 122]
theorem LOk.nodup {L : List Nat} (h : LOk L) : L.Nodup := by rcases h with rfl | rfl | rfl <;> decide
theorem LOk.le {L : List Nat} (h : LOk L) : L.length ≤ 2 := by rcases h with rfl | rfl | rfl <;> decide
theorem LOk.pos {L : List Nat} (h : LOk L) : 1 ≤ L.length := by rcases h with rfl | rfl | rfl <;> decide
structure RdOk (R : Rd3) : Prop where
  l : LOk R.1
  n1 : 1 ≤ R.2.1.length
  n2 : R.2.1.length ≤ 200
  y : R.2.2.length = R.2.1.length
  r : ∀ r ∈ R.2.1, r.length = R.1.length ∧ ∀ x ∈ r, x < R.2.1.length
structure KsOk (L : List Nat) (ks : List Kd) : Prop where
  n : ks.length ≤ 3
  d : ks.Nodup
  k : ∀ k ∈ ks, k.1.length ≤ 3 ∧ (∀ c ∈ k.1, c ∈ L) ∧ (∀ c, k.2 = some c → c ∈ L) ∧ k.1 ≠ k.2.toList
section
variable {K : PySem.W.Frag} {H H0 H' H1 H2 : Hp} {p q a b D : Addr} {o u : HO} {v : V} {xs : List V} {ds : List PyData} {d : PyData} {i : Nat}
theorem line8 {n : Nat} (h : n ≤ 100000) : n ≤ sizeLine := Nat.le_trans h (by rw [sizeLine_eq]; decide)
theorem line9 {n : Nat} (h : n ≤ 100000) : n < sizeLine := Nat.lt_of_le_of_lt h (by rw [sizeLine_eq]; decide)
theorem rep_of {n : Nat} {ys : List V} {x : V} (hl : ys.length = n) (hr : ∀ (j : Nat) y, ys[j]? = some y → y = x) : ys = List.replicate n x :=
  List.eq_replicate_iff.mpr ⟨hl, fun y hy => by
    obtain ⟨j, hj⟩ := List.getElem?_of_mem hy
    exact hr j y hj⟩
theorem rep_lst {n : Nat} {ys : List V} {x : V} (e : H D = some (.lst ys)) (hl : ys.length = n) (hr : ∀ (j : Nat) y, ys[j]? = some y → y = x) : H D = some (.lst (List.replicate n x)) := by rw [e, rep_of hl hr]
/-- all(a list of yes) -/
def rAllT (K : PySem.W.Frag) : List V → Hp → VK → Prop := fun vs H Q => ∃ (a : Addr) (n : Nat), vs = [.ref a] ∧ SqL K H a (List.replicate n (V.bl true)) ∧ Q (.bl true) H
theorem call_allT {X : Cx} (hc : X.calm = true) : CallR X (.builtin "all") (rAllT X.K) := by
  intro pins s σ H xs us Q I r h
  obtain ⟨a, n, rfl, hd, q⟩ := h
  refine cr_all hc pins s σ H _ us Q I r ⟨a, List.replicate n true, rfl, by rw [List.map_replicate]; exact hd, ?_⟩
  have e : (List.replicate n true).all id = true := by simp
  rw [e]
  exact q
theorem anys_q {bs : List Bool} {Q : VK} (e : H D = some (.lst (bs.map V.bl))) (q : Q (.bl (bs.any id)) H) : ∃ (a : Addr) (bs : List Bool), [V.ref D] = [V.ref a] ∧ SqL K H a (bs.map V.bl) ∧ Q (.bl (bs.any id)) H := ⟨D, bs, rfl, SqL.of e, q⟩
theorem dp_len_tup {n : Nat} {Q : VK} (h : Dp K H v (.tuple ds)) (hn : ds.length = n) (q : Q (.int (n : Int)) H) : ∃ p ys, [v] = [V.ref p] ∧ (SqL K H p ys ∨ SqT K H p ys) ∧ Q (.int (ys.length : Int)) H := by
  subst hn
  exact rlen_D h q
theorem all_yes {J : It} {n : Nat} {G : Hp → Prop} {Y : Nat → Hp → V → Hp → Prop} (w : Walk J n G Y) {ix : Nat} {te : TE} {vs : List Nat} {σ : St} {Qd : Hp → Prop} (hn : n ≤ sizeLine)
    (hD : H1 D = none) (hG : ∀ H, Same H1 H → G H) (hw : ∀ x, wipe ((wipe σ vs).set ix (some x)) vs = wipe σ vs)
    (hs : ∀ i x H H' (Q : VK), i < n → Same H1 H → Y i H x H' → (∀ H4, Same H H4 → Q (.bl true) H4) → te ((wipe σ vs).set ix (some x)) H' Q)
    (hd : ∀ H, Same H1 H → H D = some (.lst (List.replicate n (V.bl true))) → Qd H) :
    ∃ W : Nat → Nat → Hp → Prop, (∃ m, W 0 m (upd H1 D (.lst []))) ∧ ∀ i m H, W i m H →
      (J.stop i H ∧ Qd H) ∨ (J.go i H ∧ ∃ Nx : Hp → Prop, (∀ H', Nx H' → ∃ m', m' < m ∧ W (i + 1) m' H') ∧ ∀ x H', J.yld i H x H' → gName ix x (wipe σ vs) H' fun σ2 H2 => wipe σ2 vs = wipe σ vs ∧ tYes σ2 H2 fun b H3 =>
        if b = true then te σ2 H3 fun y H4 => ∃ acc, H4 D = some (.lst acc) ∧ acc.length < sizeLine ∧ Nx (upd H4 D (.lst (acc ++ [y]))) else Nx H3) :=
  lc_gen w (fun _ y _ => y = V.bl true) (fun _ _ _ _ _ h => h) hn hD hG hw (fun i x H H' Q hi s y q => hs i x H H' Q hi s y fun H4 s4 => q _ H4 s4 rfl) fun H ys s e hl hr => hd H s (by rw [e, rep_of hl hr])
/-- any target -/
theorem lc_genG {J : It} {n : Nat} {G : Hp → Prop} {Y : Nat → Hp → V → Hp → Prop} (w : Walk J n G Y) {g : TG} {te : TE} {vs : List Nat} {σ : St} {Qd : Hp → Prop} (R : Nat → V → Hp → Prop) (hR : ∀ j v H H', Same H H' → R j v H → R j v H') (hn : n ≤ sizeLine)
    (hD : H1 D = none) (hG : ∀ H, Same H1 H → G H)
    (hs : ∀ i x H H' (Q : VK), i < n → Same H1 H → Y i H x H' → (∀ y H4, Same H H4 → R i y (del D H4) → Q y H4) → g x (wipe σ vs) H' fun σ2 H2 => wipe σ2 vs = wipe σ vs ∧ te σ2 H2 Q)
    (hg : ∀ x H (A B : St → Hp → Prop), (∀ σ H, A σ H → B σ H) → g x (wipe σ vs) H A → g x (wipe σ vs) H B)
    (hd : ∀ H ys, Same H1 H → H D = some (.lst ys) → ys.length = n → (∀ (j : Nat) y, ys[j]? = some y → R j y (del D H)) → Qd H) :
    ∃ W : Nat → Nat → Hp → Prop, (∃ m, W 0 m (upd H1 D (.lst []))) ∧ ∀ i m H, W i m H →
      (J.stop i H ∧ Qd H) ∨ (J.go i H ∧ ∃ Nx : Hp → Prop, (∀ H', Nx H' → ∃ m', m' < m ∧ W (i + 1) m' H') ∧ ∀ x H', J.yld i H x H' → g x (wipe σ vs) H' fun σ2 H2 => wipe σ2 vs = wipe σ vs ∧ tYes σ2 H2 fun b H3 =>
        if b = true then te σ2 H3 fun y H4 => ∃ acc, H4 D = some (.lst acc) ∧ acc.length < sizeLine ∧ Nx (upd H4 D (.lst (acc ++ [y]))) else Nx H3) := by
  refine lc_it w (fun i H => ∃ ys, Same H1 H ∧ H D = some (.lst ys) ∧ ys.length = i ∧ ∀ (j : Nat) y, ys[j]? = some y → R j y (del D H)) ?_ (fun i H hi ⟨ys, s, _⟩ => hG H s) ?_ (fun H ⟨ys, s, e, hl, hr⟩ => hd H ys s e hl hr)
  · exact ⟨[], same_new hD, upd_same, rfl, fun j y e => by simp at e⟩
  · rintro i x H H' hi ⟨ys, s, e, hl, hr⟩ hy
    refine hg _ _ _ _ (fun σ2 H2 h => ⟨h.1, yes_if h.2⟩) (hs i x H H' _ hi s hy fun y H4 s4 r4 => ⟨ys, s4 _ _ e, Nat.lt_of_lt_of_le (by omega) hn, ys ++ [y], same_upd (s.trans s4) hD, upd_same, by simp [hl], fun j z ez => ?_⟩)
    rw [del_upd]
    by_cases hj : j < ys.length
    · rw [List.getElem?_append_left hj] at ez
      exact hR j z _ _ (same_del s4) (hr j z ez)
    · have hj2 : j = ys.length := by
        have := (List.getElem?_eq_some_iff.mp ez).1
        simp at this
        omega
      subst hj2
      rw [List.getElem?_append_right (Nat.le_refl _)] at ez
      simp at ez
      subst ez
      rw [hl]
      exact r4
/-- targets can want more -/
def Mono (g : TG) : Prop := ∀ x σ H (A B : St → Hp → Prop), (∀ σ H, A σ H → B σ H) → g x σ H A → g x σ H B
theorem mono_name {i : Nat} : Mono (gName i) := fun x σ H A B h a => h _ _ a
theorem mono_nil : ∀ vs σ H (A B : St → Hp → Prop), (∀ σ H, A σ H → B σ H) → gNil vs σ H A → gNil vs σ H B := fun vs σ H A B h a => ⟨a.1, h _ _ a.2⟩
theorem mono_cons {g : TG} {gs : TGs} (hg : Mono g) (hs : ∀ vs σ H (A B : St → Hp → Prop), (∀ σ H, A σ H → B σ H) → gs vs σ H A → gs vs σ H B) : ∀ vs σ H (A B : St → Hp → Prop), (∀ σ H, A σ H → B σ H) → gCons g gs vs σ H A → gCons g gs vs σ H B := by
  rintro vs σ H A B h ⟨v, r, e, a⟩
  exact ⟨v, r, e, hg _ _ _ _ _ (fun σ' H' a' => hs _ _ _ _ _ h a') a⟩
theorem mono_tup {n : Nat} {gs : TGs} (hs : ∀ vs σ H (A B : St → Hp → Prop), (∀ σ H, A σ H → B σ H) → gs vs σ H A → gs vs σ H B) : Mono (gTup K n gs) := by
  rintro x σ H A B h ⟨a, xs, e, q, l, t⟩
  exact ⟨a, xs, e, q, l, hs _ _ _ _ _ h t⟩
theorem mono_two {i j : Nat} : Mono (gTup K 2 (gCons (gName i) (gCons (gName j) gNil))) := mono_tup (mono_cons mono_name (mono_cons mono_name mono_nil))
/-- the length of a datum that is a tuple -/
def rLenDt (K : PySem.W.Frag) : List V → Hp → VK → Prop := fun vs H Q => ∃ (v : V) (ds : List PyData) (n : Nat), vs = [v] ∧ Dp K H v (.tuple ds) ∧ ds.length = n ∧ Q (.int (n : Int)) H
theorem call_lenDt {X : Cx} : CallR X (.builtin "len") (rLenDt X.K) := by
  intro pins s σ H xs us Q I r h
  obtain ⟨v, ds, n, rfl, hd, rfl, q⟩ := h
  obtain ⟨a, ys, rfl, ht, ha⟩ := dp_tup hd
  exact call_len_seq pins s σ H _ us Q I r ⟨a, ys, rfl, .inr ht, by rw [dpAll_len ha]; exact q⟩
end
end An
end
section
set_option Elab.async false
set_option maxRecDepth 100000
set_option maxHeartbeats 4000000
set_option linter.all false
/-! The checks of values: each promised for good values alone. -/
namespace An
open PySem L2
section
variable {P : Program} {w : World} {K : PySem.W.Frag} {mg : Str → Option Value} {base : Heap}

def sp_is_integer (K : PySem.W.Frag) : Sp := fun vs H Q _ => ∃ i : Int, vs = [.int i] ∧ Q (.bl true) H
theorem sc_is_integer : FnScope ["value"] ["value"] (defScope s_is_integer) := ⟨rfl, rfl, rfl, by decide +kernel, rfl, by decide +kernel, by decide +kernel⟩
theorem ok_is_integer (T : Tx K mg) : FnOk P w K mg base CX0 1 T.is_integer.f T.is_integer.fd ["value"] (sp_is_integer K) := by
  have sc := sc_is_integer
  refine T.is_integer.F.ok sc (fun vs H Q E h => ?_) (fun cdv A outer s H vs Q E hr h => ?_)
  · obtain ⟨_, rfl, _⟩ := h; rfl
  · obtain ⟨i, rfl, q⟩ := h
    refine ⟨_, (pss_one (ps_ret (pe_and (pe_B call_isi T.b_isinstance (pa_cons (pv 0) (pa_cons (pe_ty "int" T.b_int) pa_nil))) (pe_one (pe_not (pe_B call_isi T.b_isinstance (pa_cons (pv 0) (pa_cons (pe_ty "bool" T.b_bool) pa_nil)))))))), ?_⟩
    refine ⟨_, rfl, _, _, _, _, _, rfl, .ty _, .base (.int _), kit_ty (r := true) (by decide +kernel), ?_⟩
    refine ⟨_, rfl, iteT ?_⟩
    refine ⟨_, rfl, _, _, _, _, _, rfl, .ty _, .base (.int _), kit_ty (r := false) (by decide +kernel), ?_⟩
    exact ⟨_, rfl, q⟩

def sp_is_from (K : PySem.W.Frag) : Sp := fun vs H Q _ => ∃ i l h : Int, vs = [.int i, .int l, .int h] ∧ l ≤ i ∧ i ≤ h ∧ Q (.bl true) H
theorem sc_is_from : FnScope ["value", "low", "high"] ["value", "low", "high"] (defScope s_is_from) := ⟨rfl, rfl, rfl, by decide +kernel, rfl, by decide +kernel, by decide +kernel⟩
theorem ok_is_from (T : Tx K mg) : FnOk P w K mg base CX0 2 T.is_from.f T.is_from.fd ["value", "low", "high"] (sp_is_from K) := by
  have sc := sc_is_from
  refine T.is_from.F.ok sc (fun vs H Q E h => ?_) (fun cdv A outer s H vs Q E hr h => ?_)
  · obtain ⟨_, _, _, rfl, _⟩ := h; rfl
  · obtain ⟨i, l, u, rfl, h1, h2, q⟩ := h
    refine ⟨_, (pss_one (ps_ret (pe_and (pe_callD T.is_integer (ok_is_integer T) (hr.mono (by decide)) (pa_cons (pv 0) pa_nil)) (pe_one (pe_chain op_le op_le (pv 1) (pv 0) (pv 2)))))), ?_⟩
    refine ⟨_, rfl, i, rfl, ?_⟩
    refine ⟨_, rfl, iteT ?_⟩
    refine ⟨_, rfl, _, rfl, _, _, rfl, rfl, _, rfl, ?_⟩
    rw [if_pos (decide_eq_true h1)]
    refine ⟨_, rfl, _, _, rfl, rfl, ?_⟩
    show Q (.bl (decide (i ≤ u))) H
    rw [decide_eq_true h2]
    exact q

def sp_is_text (K : PySem.W.Frag) : Sp := fun vs H Q _ => ∃ (L cs : List Nat) (n : Nat), vs = [.str (tx L), .str (tx cs), vN n] ∧ cs.length ≤ n ∧ n ≤ 1000 ∧ L.length ≤ 1000 ∧ (∀ c ∈ cs, c ∈ L) ∧ ∀ H', Same H H' → Q (.bl true) H'
theorem sc_is_text : FnScope ["letters", "value", "most", "sign"] ["letters", "value", "most"] (defScope s_is_text) := ⟨rfl, rfl, rfl, by decide +kernel, rfl, by decide +kernel, by decide +kernel⟩
theorem ok_is_text (T : Tx K mg) : FnOk P w K mg base CX0 1 T.is_text.f T.is_text.fd ["letters", "value", "most"] (sp_is_text K) := by
  have sc := sc_is_text
  refine T.is_text.F.ok sc (fun vs H Q E h => ?_) (fun cdv A outer s H vs Q E hr h => ?_)
  · obtain ⟨_, _, _, rfl, _⟩ := h; rfl
  · obtain ⟨L, cs, n, rfl, h1, h2, h3, h4, q⟩ := h
    refine ⟨_, (pss_one (ps_ret (pe_and (pe_B call_isi T.b_isinstance (pa_cons (pv 1) (pa_cons (pe_ty "str" T.b_str) pa_nil))) (pe_and (pe_cmpR op_le (pe_B call_len_str T.b_len (pa_cons (pv 1) pa_nil)) (pv 2) (nomark _)) (pe_one (pe_B (call_allT rfl) T.b_all (pa_cons (pe_lc (own := [("sign", 3)]) rfl sc.nd (pi_str (pv 1)) (blkOk_by (N := ["letters", "value", "most", "sign"]) (sc := defScope s_is_text) (by decide +kernel)) (fun _ _ _ _ _ => (pg_name (i := 3) (x := "sign") sc.nd rfl (Or.inl rfl) (hf := Or.inr rfl))) (fun _ _ _ _ _ => pts_nil) (fun _ _ _ _ _ => (pe_cmpR op_in_sign (pv 3) (pv 0) rfl))) pa_nil))))))), ?_⟩
    refine ⟨_, rfl, _, _, _, _, _, rfl, .ty _, .base (.str _), kit_ty (r := true) (by decide +kernel), ?_⟩
    refine ⟨_, rfl, iteT ?_⟩
    refine ⟨_, rfl, _, rfl, by rw [tx_len]; exact line8 (by omega), _, rfl, _, _, rfl, rfl, _, rfl, ?_⟩
    rw [if_pos (decide_eq_true (by rw [tx_len]; omega))]
    refine ⟨_, rfl, _, rfl, fun D hD => ?_⟩
    refine all_yes walk_str (by rw [tx_size]; exact line8 (by omega)) hD (fun _ _ => trivial) (fun x => rfl) (fun i x H H' Q hi s y k => ?_) fun H s e => ⟨D, _, rfl, SqL.of e, q H s⟩
    obtain ⟨rfl, c, hc, rfl⟩ := y
    refine ⟨_, rfl, _, rfl, c, tx L, rfl, rfl, ?_⟩
    rw [tx_list, decide_eq_true (h4 c (List.mem_of_getElem? (tx_get hc)))]
    exact k _ (Same.refl _)

def sp_is_kind (K : PySem.W.Frag) : Sp := fun vs H Q _ => ∃ (L : List Nat) (k : Kd) (v : V), vs = [.str (tx L), v] ∧ L.length ≤ 1000 ∧ Dp K H v (kD k) ∧ k.1.length ≤ 3 ∧ (∀ c ∈ k.1, c ∈ L) ∧ (∀ c, k.2 = some c → c ∈ L) ∧ k.1 ≠ k.2.toList ∧ ∀ H', Same H H' → Q (.bl true) H'
theorem sc_is_kind : FnScope ["letters", "value"] ["letters", "value"] (defScope s_is_kind) := ⟨rfl, rfl, rfl, by decide +kernel, rfl, by decide +kernel, by decide +kernel⟩
theorem ok_is_kind (T : Tx K mg) : FnOk P w K mg base CX0 2 T.is_kind.f T.is_kind.fd ["letters", "value"] (sp_is_kind K) := by
  have sc := sc_is_kind
  refine T.is_kind.F.ok sc (fun vs H Q E h => ?_) (fun cdv A outer s H vs Q E hr h => ?_)
  · obtain ⟨_, _, _, rfl, _⟩ := h; rfl
  · obtain ⟨L, k, v, rfl, hL, hd, h1, h2, h3, h4, q⟩ := h
    refine ⟨_, (pss_cons (ps_if (PW.pt (pw_or (pt_not (pt_val (pe_B call_isi T.b_isinstance (pa_cons (pv 1) (pa_cons (pe_ty "tuple" T.b_tuple) pa_nil))))) (pw_or1 (pt_cmpR op_ne (pe_B call_lenDt T.b_len (pa_cons (pv 1) pa_nil)) pe_int (nomark _)))))
        (pss_one (ps_ret pe_bl))
        pss_nil)
      (pss_one (ps_ret (pe_and (pe_callDD T.is_text (ok_is_text T) (hr.mono (by decide)) (pa_cons (pv 0) (pa_cons (pe_ix ix_D (pv 1) pe_int (fun _ _ => rfl)) (pa_cons pe_int pa_nil)))) (pe_and (pe_callDD T.is_text (ok_is_text T) (hr.mono (by decide)) (pa_cons (pv 0) (pa_cons (pe_ix ix_D (pv 1) pe_int (fun _ _ => rfl)) (pa_cons pe_int pa_nil)))) (pe_one (pe_cmpR op_ne (pe_ix ix_D (pv 1) pe_int (fun _ _ => rfl)) (pe_ix ix_D (pv 1) pe_int (fun _ _ => rfl)) (nomark _)))))))), ?_⟩
    refine ⟨_, rfl, _, _, _, _, _, rfl, .ty _, tyx_tup hd, kit_ty (r := true) (by decide +kernel), _, rfl, ?_⟩
    refine iteF ⟨_, rfl, _, _, 2, rfl, hd, rfl, ?_⟩
    refine ⟨rfl, _, rfl, ?_⟩
    refine iteF ?_
    refine ⟨_, rfl, _, rfl, [tD k.1, tD k.2.toList], 0, _, hd, rfl, rfl, fun z hz => ?_⟩
    cases dp_str hz
    refine ⟨L, k.1, 3, rfl, h1, by omega, hL, h2, fun H1 s1 => ?_⟩
    have hd1 := dp_same s1 _ _ hd
    refine ⟨_, rfl, iteT ?_⟩
    refine ⟨_, rfl, _, rfl, [tD k.1, tD k.2.toList], 1, _, hd1, rfl, rfl, fun z hz => ?_⟩
    cases dp_str hz
    refine ⟨L, k.2.toList, 1, rfl, by cases k.2 <;> simp, by omega, hL, fun c hc => h3 c (by simpa using hc), fun H2 s2 => ?_⟩
    have hd2 := dp_same s2 _ _ hd1
    refine ⟨_, rfl, iteT ?_⟩
    refine ⟨_, rfl, [tD k.1, tD k.2.toList], 0, _, hd2, rfl, rfl, fun z hz => ?_⟩
    cases dp_str hz
    refine ⟨_, rfl, [tD k.1, tD k.2.toList], 1, _, hd2, rfl, rfl, fun z hz => ?_⟩
    cases dp_str hz
    refine ⟨rfl, ?_⟩
    show Q (.bl (!decide (V.str (tx k.1) = V.str (tx k.2.toList)))) H2
    rw [dec_str, tx_eq, decide_eq_false h4]
    exact q _ (s1.trans s2)
end
end An
end
section
set_option Elab.async false
set_option maxRecDepth 100000
set_option maxHeartbeats 4000000
set_option linter.all false
namespace An
open PySem L2
section
variable {P : Program} {w : World} {K : PySem.W.Frag} {mg : Str → Option Value} {base : Heap}
def smalls : Str := "abcdefghijklmnopqrstuvwxyz"
theorem LOk.small {L : List Nat} (h : LOk L) : ∀ c ∈ L, decide (c ∈ smalls.cps.toList) = true := by rcases h with rfl | rfl | rfl <;> decide +kernel
def sp_is_letters (K : PySem.W.Frag) : Sp := fun vs H Q _ => ∃ (L : List Nat), vs = [.str (tx L)] ∧ LOk L ∧ ∀ H', Same H H' → Q (.bl true) H'
theorem LOk.pairs {L : List Nat} (h : LOk L) : ∀ (i : Nat) (x y : V), ((tx L).cps.toList.map fun c => V.str ⟨#[c]⟩)[i]? = some x → ((cutS (tx L) (some 1) none).cps.toList.map fun c => V.str ⟨#[c]⟩)[i]? = some y →
    ∃ a b : Nat, x = .str ⟨#[a]⟩ ∧ y = .str ⟨#[b]⟩ ∧ a < b := by
  intro i x y h1 h2
  have e : (cutS (tx L) (some 1) none).cps.toList = L.drop 1 := by
    rcases h with rfl | rfl | rfl <;> decide +kernel
  rw [e] at h2
  rw [tx_list] at h1
  rw [List.getElem?_map] at h1 h2
  rcases h with rfl | rfl | rfl
  · simp at h2
  · cases i with
    | zero => simp at h1 h2; exact ⟨_, _, h1.symm, h2.symm, by decide⟩
    | succ i => simp at h2
  · cases i with
    | zero => simp at h1 h2; exact ⟨_, _, h1.symm, h2.symm, by decide⟩
    | succ i => simp at h2
theorem sc_is_letters : FnScope ["value", "one", "other", "sign"] ["value"] (defScope s_is_letters) := ⟨rfl, rfl, rfl, by decide +kernel, rfl, by decide +kernel, by decide +kernel⟩
theorem ok_is_letters (T : Tx K mg) : FnOk P w K mg base CX0 1 T.is_letters.f T.is_letters.fd ["value"] (sp_is_letters K) := by
  have sc := sc_is_letters
  refine T.is_letters.F.ok sc (fun vs H Q E h => ?_) (fun cdv A outer s H vs Q E hr h => ?_)
  · obtain ⟨_, rfl, _⟩ := h; rfl
  · obtain ⟨L, rfl, hL, q⟩ := h
    have hl1 := hL.pos
    have hl2 := hL.le
    refine ⟨_, (pss_cons (ps_if (PW.pt (pw_or (pt_not (pt_val (pe_B (id := "isinstance") call_isi T.b_isinstance (pa_cons (pv 0) (pa_cons (pe_ty "str" T.b_str) pa_nil))))) (pw_or (pt_not (pt_chain op_le op_le pe_int (pe_B (id := "len") call_len_str T.b_len (pa_cons (pv 0) pa_nil)) (pe_globE T.c_MOST_LETTERS))) (pw_or1 (pt_not (pt_val (pe_B (id := "all") (call_allT rfl) T.b_all (pa_cons (pe_lc (own := [("sign", 3)]) rfl sc.nd (pi_str (pv 0)) (blkOk_by (N := ["value", "one", "other", "sign"]) (sc := defScope s_is_letters) (by decide +kernel)) (fun _ _ _ _ _ => (pg_name (i := 3) (x := "sign") sc.nd rfl (Or.inl rfl) (hf := Or.inr rfl))) (fun _ _ _ _ _ => pts_nil) (fun _ _ _ _ _ => (pe_cmpR op_in_sign (pv 3) (pe_globE T.c_SMALL) rfl))) pa_nil))))))))
        (pss_one (ps_ret pe_bl))
        pss_nil)
      (pss_one (ps_ret (pe_B (id := "all") (call_allT rfl) T.b_all (pa_cons (pe_lc (own := [("one", 1), ("other", 2)]) (g := gTup K 2 (gCons (gName 1) (gCons (gName 2) gNil))) rfl sc.nd (pi_zipS rfl T.b_zip (pa_cons (pv 0) (pa_cons (pe_slice sl_str (pv 0) (po_some pe_int) po_none) pa_nil))) (blkOk_by (N := ["value", "one", "other", "sign"]) (sc := defScope s_is_letters) (by decide +kernel)) (fun _ _ _ _ _ => (pg_tup rfl (pgs_cons (pg_name (i := 1) (x := "one") sc.nd rfl (Or.inl rfl) (hf := Or.inr rfl)) (pgs_cons (pg_name (i := 2) (x := "other") sc.nd rfl (Or.inl rfl) (hf := Or.inr rfl)) pgs_nil)))) (fun _ _ _ _ _ => pts_nil) (fun _ _ _ _ _ => (pe_cmpR op_lt_str (pv 1) (pv 2) (nomark _)))) pa_nil))))), ?_⟩
    refine ⟨_, rfl, _, _, _, _, _, rfl, .ty _, .base (.str _), kit_ty (r := true) (by decide +kernel), _, rfl, ?_⟩
    refine iteF ⟨_, rfl, _, rfl, by rw [tx_len]; exact line8 (by omega), _, _, rfl, rfl, _, rfl, ?_⟩
    rw [if_pos (decide_eq_true (by rw [tx_len]; omega))]
    refine ⟨_, _, rfl, rfl, _, rfl, ?_⟩
    refine iteNS (by rw [tx_len]; omega) ?_
    refine ⟨_, rfl, _, rfl, fun D hD => ?_⟩
    refine all_yes walk_str (by rw [tx_size]; exact line8 (by omega)) hD (fun _ _ => trivial) (fun x => rfl) (fun i x H H' Q hi s y k => ?_) fun H1 s1 e1 => ?_
    · obtain ⟨rfl, c, hc, rfl⟩ := y
      refine ⟨_, rfl, c, smalls, rfl, rfl, ?_⟩
      rw [hL.small c (List.mem_of_getElem? (tx_get hc))]
      exact k _ (Same.refl _)
    · refine ⟨D, _, rfl, SqL.of e1, _, rfl, iteF ?_⟩
      refine ⟨_, rfl, _, rfl, _, rfl, _, rfl, by rw [tx_len]; exact line8 (by omega), .txt (tx L), .txt _, _, _, rfl, rfl, rfl, fun D1 hD1 => ?_⟩
      refine lc_genG (walk_zipS rfl) (fun _ y _ => y = V.bl true) (fun _ _ _ _ _ h => h) ?_ hD1 (fun _ _ => ⟨rfl, rfl⟩) (fun i x H H' Q hi s y k => ?_) (fun x H A B => mono_two x _ H A B) fun H ys s e hl hr => ⟨D1, _, rfl, SqL.of (rep_lst e hl hr), q H (s1.trans s)⟩
      · refine line8 ?_
        have : min (List.map (fun c => V.str ⟨#[c]⟩) (tx L).cps.toList).length (List.map (fun c => V.str ⟨#[c]⟩) (cutS (tx L) (some 1) none).cps.toList).length ≤ L.length := by
          refine Nat.le_trans (Nat.min_le_left _ _) ?_
          rw [List.length_map, tx_list]
          exact Nat.le_refl _
        omega
      · obtain ⟨t, x', y', rfl, hn, rfl, h1, h2⟩ := y
        obtain ⟨c1, c2, rfl, rfl, hlt⟩ := hL.pairs i x' y' h1 h2
        refine ⟨t, _, rfl, SqT.of upd_same, rfl, _, _, rfl, _, _, rfl, rfl, rfl, ?_⟩
        refine ⟨_, rfl, _, rfl, _, _, rfl, rfl, ?_⟩
        refine k _ _ (same_new hn) ?_
        rw [decide_eq_true]
        show [c1] < [c2]
        exact List.Lex.rel hlt

def sp_is_line (K : PySem.W.Frag) : Sp := fun vs H Q _ => ∃ (L r : List Nat) (n : Nat) (v : V), vs = [.str (tx L), vN n, v] ∧ L.length ≤ 1000 ∧ Dp K H v (rowD r) ∧ r.length = L.length ∧ (∀ x ∈ r, x < n) ∧ ∀ H', Same H H' → Q (.bl true) H'
theorem sc_is_line : FnScope ["letters", "size", "value", "stand"] ["letters", "size", "value"] (defScope s_is_line) := ⟨rfl, rfl, rfl, by decide +kernel, rfl, by decide +kernel, by decide +kernel⟩
theorem ok_is_line (T : Tx K mg) : FnOk P w K mg base CX0 3 T.is_line.f T.is_line.fd ["letters", "size", "value"] (sp_is_line K) := by
  have sc := sc_is_line
  refine T.is_line.F.ok sc (fun vs H Q E h => ?_) (fun cdv A outer s H vs Q E hr h => ?_)
  · obtain ⟨_, _, _, _, rfl, _⟩ := h; rfl
  · obtain ⟨L, r, n, v, rfl, hL, hd, hl, hb, q⟩ := h
    refine ⟨_, (pss_cons (ps_if (PW.pt (pw_or (pt_not (pt_val (pe_B (id := "isinstance") call_isi T.b_isinstance (pa_cons (pv 2) (pa_cons (pe_ty "tuple" T.b_tuple) pa_nil))))) (pw_or1 (pt_cmpR op_ne (pe_B (id := "len") call_lenDt T.b_len (pa_cons (pv 2) pa_nil)) (pe_B (id := "len") call_len_str T.b_len (pa_cons (pv 0) pa_nil)) (nomark _)))))
        (pss_one (ps_ret pe_bl))
        pss_nil)
      (pss_one (ps_ret (pe_B (id := "all") (call_allT rfl) T.b_all (pa_cons (pe_lc (own := [("stand", 3)]) rfl sc.nd (pi_tup (pv 2)) (blkOk_by (N := ["letters", "size", "value", "stand"]) (sc := defScope s_is_line) (by decide +kernel)) (fun _ _ _ _ _ => (pg_name (i := 3) (x := "stand") sc.nd rfl (Or.inl rfl) (hf := Or.inr rfl))) (fun _ _ _ _ _ => pts_nil) (fun _ _ _ _ _ => (pe_callD T.is_from (ok_is_from T) (hr.mono (by decide)) (pa_cons (pv 3) (pa_cons pe_int (pa_cons (pe_op op_sub (pv 1) pe_int) pa_nil)))))) pa_nil))))), ?_⟩
    refine ⟨_, rfl, _, _, _, _, _, rfl, .ty _, tyx_tup hd, kit_ty (r := true) (by decide +kernel), _, rfl, ?_⟩
    refine iteF ⟨_, rfl, _, _, L.length, rfl, hd, by simpa using hl, ?_⟩
    refine ⟨_, rfl, _, rfl, by rw [tx_len]; exact line8 (by omega), rfl, _, rfl, ?_⟩
    rw [dec_int, tx_len, beq_self_eq_true]
    refine iteF ?_
    obtain ⟨a, xs, rfl, ht, ha⟩ := dp_tup hd
    have e2 := dpAll_ints ha
    subst e2
    refine ⟨_, rfl, a, rfl, ⟨_, ht⟩, fun D hD => ?_⟩
    refine all_yes walk_tup (by rw [List.length_map]; exact line8 (by omega)) hD (fun H s => same_t s ht) (fun x => rfl) (fun i x H H' Q hi s y k => ?_) fun H1 s1 e1 => ⟨D, _, rfl, SqL.of e1, q H1 s1⟩
    obtain ⟨rfl, hx⟩ := y
    rw [List.getElem?_map] at hx
    cases hr : r[i]? with
    | none => rw [hr] at hx; cases hx
    | some c =>
      rw [hr] at hx
      cases hx
      have hc := hb c (List.mem_of_getElem? hr)
      refine ⟨_, rfl, _, rfl, _, _, rfl, rfl, (c : Int), 0, (n : Int) - 1, rfl, by omega, by omega, k _ (Same.refl _)⟩

def sp_is_reader (K : PySem.W.Frag) : Sp := fun vs H Q _ => ∃ (R : Rd3) (v : V), vs = [v] ∧ RdOk R ∧ Dp K H v (rdD R) ∧ ∀ H', Same H H' → Q (.bl true) H'
theorem dp_rd {H : Hp} {v : V} {R : Rd3} (h : Dp K H v (rdD R)) : ∃ a x y z, v = .ref a ∧ SqT K H a [x, y, z] ∧ Dp K H x (tD R.1) ∧ Dp K H y (rowsD R.2.1) ∧ Dp K H z (yesD R.2.2) := by
  obtain ⟨a, xs, rfl, ht, ha⟩ := dp_tup h
  cases ha with
  | cons h1 h2 => cases h2 with
    | cons h2 h3 => cases h3 with
      | cons h3 h4 => cases h4; exact ⟨a, _, _, _, rfl, ht, h1, h2, h3⟩
theorem sc_is_reader : FnScope ["value", "letters", "rows", "yes", "line", "one"] ["value"] (defScope s_is_reader) := ⟨rfl, rfl, rfl, by decide +kernel, rfl, by decide +kernel, by decide +kernel⟩
theorem ok_is_reader (T : Tx K mg) : FnOk P w K mg base CX0 4 T.is_reader.f T.is_reader.fd ["value"] (sp_is_reader K) := by
  have sc := sc_is_reader
  refine T.is_reader.F.ok sc (fun vs H Q E h => ?_) (fun cdv A outer s H vs Q E hr h => ?_)
  · obtain ⟨_, _, rfl, _⟩ := h; rfl
  · obtain ⟨R, v, rfl, hR, hd, q⟩ := h
    refine ⟨_, (pss_cons (ps_if (PW.pt (pw_or (pt_not (pt_val (pe_B (id := "isinstance") call_isi T.b_isinstance (pa_cons (pv 0) (pa_cons (pe_ty "tuple" T.b_tuple) pa_nil))))) (pw_or (pt_cmpR op_ne (pe_B (id := "len") call_lenDt T.b_len (pa_cons (pv 0) pa_nil)) pe_int (nomark _)) (pw_or1 (pt_not (pt_val (pe_callD T.is_letters (ok_is_letters T) (hr.mono (by decide)) (pa_cons (pe_ix ix_D (pv 0) pe_int (fun _ _ => rfl)) pa_nil))))))))
        (pss_one (ps_ret pe_bl))
        pss_nil)
      (pss_cons (ps_asg (pv 0) (pg_tup rfl (pgs_cons (pg_name (i := 1) sc.nd rfl (Or.inr rfl)) (pgs_cons (pg_name (i := 2) sc.nd rfl (Or.inr rfl)) (pgs_cons (pg_name (i := 3) (x := "yes") sc.nd rfl (Or.inl rfl)) pgs_nil)))))
      (pss_cons (ps_if (PW.pt (pw_or (pt_not (pt_val (pe_B (id := "isinstance") call_isi T.b_isinstance (pa_cons (pv 2) (pa_cons (pe_ty "tuple" T.b_tuple) pa_nil))))) (pw_or (pt_not (pt_val (pe_B (id := "isinstance") call_isi T.b_isinstance (pa_cons (pv 3) (pa_cons (pe_ty "tuple" T.b_tuple) pa_nil))))) (pw_or1 (pt_not (pt_chain op_le op_le pe_int (pe_B (id := "len") call_lenDt T.b_len (pa_cons (pv 2) pa_nil)) (pe_globE T.c_MOST_STANDS)))))))
        (pss_one (ps_ret pe_bl))
        pss_nil)
      (pss_cons (ps_if (PW.pt (pw_or (pt_cmpR op_ne (pe_B (id := "len") call_lenDt T.b_len (pa_cons (pv 3) pa_nil)) (pe_B (id := "len") call_lenDt T.b_len (pa_cons (pv 2) pa_nil)) (nomark _)) (pw_or1 (pt_not (pt_val (pe_B (id := "all") (call_allT rfl) T.b_all (pa_cons (pe_lc (own := [("one", 5)]) rfl sc.nd (pi_tup (pv 3)) (blkOk_by (N := ["value", "letters", "rows", "yes", "line", "one"]) (sc := defScope s_is_reader) (by decide +kernel)) (fun _ _ _ _ _ => (pg_name (i := 5) (x := "one") sc.nd rfl (Or.inl rfl) (hf := Or.inr rfl))) (fun _ _ _ _ _ => pts_nil) (fun _ _ _ _ _ => (pe_B (id := "isinstance") (r := rIsi K) call_isi T.b_isinstance (pa_cons (pv 5) (pa_cons (pe_ty "bool" T.b_bool) pa_nil))))) pa_nil)))))))
        (pss_one (ps_ret pe_bl))
        pss_nil)
      (pss_one (ps_ret (pe_B (id := "all") (call_allT rfl) T.b_all (pa_cons (pe_lc (own := [("line", 4)]) rfl sc.nd (pi_tup (pv 2)) (blkOk_by (N := ["value", "letters", "rows", "yes", "line", "one"]) (sc := defScope s_is_reader) (by decide +kernel)) (fun _ _ _ _ _ => (pg_name (i := 4) (x := "line") sc.nd rfl (Or.inl rfl) (hf := Or.inr rfl))) (fun _ _ _ _ _ => pts_nil) (fun _ _ _ _ _ => (pe_callD T.is_line (ok_is_line T) (hr.mono (by decide)) (pa_cons (pv 1) (pa_cons (pe_B (id := "len") (r := rLenDt K) call_lenDt T.b_len (pa_cons (pv 2) pa_nil)) (pa_cons (pv 4) pa_nil)))))) pa_nil)))))))), ?_⟩
    refine ⟨_, rfl, _, _, _, _, _, rfl, .ty _, tyx_tup hd, kit_ty (r := true) (by decide +kernel), _, rfl, ?_⟩
    refine iteF ⟨_, rfl, _, _, 3, rfl, hd, rfl, rfl, _, rfl, ?_⟩
    refine iteF ⟨_, rfl, [tD R.1, rowsD R.2.1, yesD R.2.2], 0, _, hd, rfl, rfl, fun z hz => ?_⟩
    cases dp_str hz
    refine ⟨R.1, rfl, hR.l, fun H1 s1 => ⟨_, rfl, iteF ?_⟩⟩
    have hd1 := dp_same s1 _ _ hd
    obtain ⟨a, x, y, z, rfl, ht, hx, hy, hz⟩ := dp_rd hd1
    cases dp_str hx
    refine ⟨_, rfl, a, _, rfl, ht, rfl, _, _, rfl, _, _, rfl, _, _, rfl, rfl, ?_⟩
    refine ⟨_, rfl, _, _, _, _, _, rfl, .ty _, tyx_tup hy, kit_ty (r := true) (by decide +kernel), _, rfl, ?_⟩
    refine iteF ⟨_, rfl, _, _, _, _, _, rfl, .ty _, tyx_tup hz, kit_ty (r := true) (by decide +kernel), _, rfl, ?_⟩
    refine iteF ⟨_, rfl, _, _, R.2.1.length, rfl, hy, by simp, _, _, rfl, rfl, _, rfl, ?_⟩
    have hn1 := hR.n1
    have hn2 := hR.n2
    rw [if_pos (decide_eq_true (by omega))]
    refine ⟨_, _, rfl, rfl, _, rfl, iteNS (by omega) ?_⟩
    refine ⟨_, rfl, _, _, R.2.1.length, rfl, hz, by simp [hR.y], _, rfl, _, _, R.2.1.length, rfl, hy, by simp, rfl, _, rfl, ?_⟩
    rw [dec_int, beq_self_eq_true]
    refine iteF ?_
    obtain ⟨b, ys, rfl, ht2, ha2⟩ := dp_tup hz
    have e2 := dpAll_bools ha2
    subst e2
    refine ⟨_, rfl, b, rfl, ⟨_, ht2⟩, fun D hD => ?_⟩
    refine all_yes walk_tup (by rw [List.length_map]; exact line8 (by rw [hR.y]; omega)) hD (fun H s => same_t s ht2) (fun x => rfl) (fun i x H H' Q hi s y k => ?_) fun H2 s2 e2 => ?_
    · obtain ⟨rfl, hx⟩ := y
      rw [List.getElem?_map] at hx
      cases hr : R.2.2[i]? with
      | none => rw [hr] at hx; cases hx
      | some c =>
        rw [hr] at hx
        cases hx
        exact ⟨_, rfl, _, _, _, _, _, rfl, .ty _, .base (.bl _), kit_ty (r := true) (by decide +kernel), k _ (Same.refl _)⟩
    · refine ⟨D, _, rfl, SqL.of e2, _, rfl, iteF ?_⟩
      have hy2 := dp_same s2 _ _ hy
      obtain ⟨c, zs, rfl, ht3, ha3⟩ := dp_tup hy2
      refine ⟨_, rfl, c, rfl, ⟨_, ht3⟩, fun D3 hD3 => ?_⟩
      have hl3 := dpAll_len ha3
      rw [List.length_map] at hl3
      refine all_yes walk_tup (by rw [hl3]; exact line8 (by omega)) hD3 (fun H s => same_t s ht3) (fun x => rfl) (fun i x H H' Q hi s y k => ?_) fun H4 s4 e4 => ⟨D3, _, rfl, SqL.of e4, q H4 (s1.trans (s2.trans s4))⟩
      obtain ⟨rfl, hx⟩ := y
      rw [hl3] at hi
      obtain ⟨x', hx', dx⟩ := dpAll_get (i := i) (d := rowD (R.2.1[i])) ha3 (by simp [hi])
      rw [hx] at hx'
      cases hx'
      have hrr := hR.r R.2.1[i] (List.getElem_mem hi)
      refine ⟨_, rfl, _, rfl, _, _, R.2.1.length, rfl, dp_same s _ _ hy2, by simp, _, rfl, R.1, R.2.1[i], R.2.1.length, x, rfl, Nat.le_trans hR.l.le (by decide), dp_same s _ _ dx, hrr.1, hrr.2, k⟩

def sp_need_reader (K : PySem.W.Frag) : Sp := fun vs H Q _ => ∃ (R : Rd3) (v : V), vs = [v] ∧ RdOk R ∧ Dp K H v (rdD R) ∧ ∀ H', Same H H' → Q .non H'
theorem sc_need_reader : FnScope ["value"] ["value"] (defScope s_need_reader) := ⟨rfl, rfl, rfl, by decide +kernel, rfl, by decide +kernel, by decide +kernel⟩
theorem ok_need_reader (T : Tx K mg) : FnOk P w K mg base CX0 5 T.need_reader.f T.need_reader.fd ["value"] (sp_need_reader K) := by
  have sc := sc_need_reader
  refine T.need_reader.F.ok sc (fun vs H Q E h => ?_) (fun cdv A outer s H vs Q E hr h => ?_)
  · obtain ⟨_, _, rfl, _⟩ := h; rfl
  · obtain ⟨R, v, rfl, hR, hd, q⟩ := h
    refine ⟨_, (pss_one (ps_if (pt_not (pt_val (pe_callD T.is_reader (ok_is_reader T) (hr.mono (by decide)) (pa_cons (pv 0) pa_nil))))
        (pss_one ps_never)
        pss_nil)), ?_⟩
    exact ⟨_, rfl, R, v, rfl, hR, hd, fun H1 s1 => ⟨_, rfl, iteF (q H1 s1)⟩⟩

def sp_need_readers (K : PySem.W.Frag) : Sp := fun vs H Q _ => ∃ (R S : Rd3) (v u : V), vs = [v, u] ∧ RdOk R ∧ RdOk S ∧ R.1 = S.1 ∧ Dp K H v (rdD R) ∧ Dp K H u (rdD S) ∧ ∀ H', Same H H' → Q .non H'
theorem sc_need_readers : FnScope ["one", "other"] ["one", "other"] (defScope s_need_readers) := ⟨rfl, rfl, rfl, by decide +kernel, rfl, by decide +kernel, by decide +kernel⟩
theorem ok_need_readers (T : Tx K mg) : FnOk P w K mg base CX0 6 T.need_readers.f T.need_readers.fd ["one", "other"] (sp_need_readers K) := by
  have sc := sc_need_readers
  refine T.need_readers.F.ok sc (fun vs H Q E h => ?_) (fun cdv A outer s H vs Q E hr h => ?_)
  · obtain ⟨_, _, _, _, rfl, _⟩ := h; rfl
  · obtain ⟨R, S, v, u, rfl, hR, hS, he, hd, hd2, q⟩ := h
    refine ⟨_, (pss_cons (ps_expr (pe_callD T.need_reader (ok_need_reader T) (hr.mono (by decide)) (pa_cons (pv 0) pa_nil)))
      (pss_cons (ps_expr (pe_callD T.need_reader (ok_need_reader T) (hr.mono (by decide)) (pa_cons (pv 1) pa_nil)))
      (pss_one (ps_if (pt_cmpR op_ne (pe_ix ix_D (pv 0) pe_int (fun _ _ => rfl)) (pe_ix ix_D (pv 1) pe_int (fun _ _ => rfl)) (nomark _))
        (pss_one ps_never)
        pss_nil)))), ?_⟩
    refine ⟨_, rfl, R, v, rfl, hR, hd, fun H1 s1 => ?_⟩
    refine ⟨_, rfl, S, u, rfl, hS, dp_same s1 _ _ hd2, fun H2 s2 => ?_⟩
    have s3 := s1.trans s2
    refine ⟨_, rfl, [tD R.1, rowsD R.2.1, yesD R.2.2], 0, _, dp_same s3 _ _ hd, rfl, rfl, fun z hz => ?_⟩
    cases dp_str hz
    refine ⟨_, rfl, [tD S.1, rowsD S.2.1, yesD S.2.2], 0, _, dp_same s3 _ _ hd2, rfl, rfl, fun z hz => ?_⟩
    cases dp_str hz
    refine ⟨rfl, _, rfl, ?_⟩
    rw [dec_str, tx_eq, he, decide_eq_true rfl]
    exact iteF (q H2 s3)
end
end An
end
section
set_option Elab.async false
set_option maxRecDepth 100000
set_option maxHeartbeats 4000000
set_option linter.all false
/-! Rules of choice, a dict locked as it comes; the net in the heap. -/
namespace An
open PySem L2
section
variable {X : Cx}
/-- a statement read in one of two ways -/
theorem ps_or {st : Stmt} {t1 t2 : TS} (h1 : PS X st t1) (h2 : PS X st t2) : PS X st (fun D σ H => t1 D σ H ∨ t2 D σ H) :=
  ⟨fun pins s σ H D I h => h.elim (h1.run pins s σ H D I) (h2.run pins s σ H D I)⟩
theorem pe_or2 {e : Expr} {t1 t2 : TE} (h1 : PE X e t1) (h2 : PE X e t2) : PE X e (fun σ H Q => t1 σ H Q ∨ t2 σ H Q) :=
  ⟨fun pins s σ H Q I h => h.elim (h1.run pins s σ H Q I) (h2.run pins s σ H Q I)⟩
/-- a value that is a thing, locked from here on -/
def tLockIt (t : TE) : TE := fun σ H Q => t σ H fun v H1 => ∃ d u, v = .ref d ∧ H1 d = some u ∧ Mut (some u) ∧ ∀ od, Q v (upd H1 d (.frz od u))
theorem pe_lockIt {e : Expr} {t : TE} (h : PE X e t) : PE X e (tLockIt t) := by
  refine ⟨fun pins s σ H Q I hw => ?_⟩
  refine thn (h.run pins s σ H _ I hw) fun v s1 ⟨x, H1, I1, r, d, u, ex, hd, mu, q⟩ => ?_
  obtain ⟨od, I2⟩ := I1.lock hd mu
  exact ⟨x, _, I2, r, q od⟩
/-- name = {k: v for ..} on one line, the name a local -/
theorem ps_setDc {i : Nat} {y : Str} {py : Pos} {kx vx tg iter : Expr} {ifs : List Expr} {scope : Scope} {own : List (Str × Nat)} {pos spos : Pos} {wi : TI} {g : TG} {tt : TT} {tk tv : TE} (calm : X.calm = true) (nd : X.N.Nodup) (hy : X.N[i]? = some y) (hyl : X.env.scope.names.lookup y = some .local)
    (hsw : swapsWith (.DictComp kx vx [⟨tg, iter, ifs, 0⟩] scope pos) (some (.Name y py)) spos.line X.env = pure true) (pi : PI X tg iter wi) (ok : BlkOk X.N X.env.scope scope own)
    (pg : ∀ (s : Shared) (H : Hp) (C : Addr) (cl : List (Str × Addr)) (fp : List Addr), PG (X.blk s H scope (compEnvC scope cl C X.env) fp) tg g) (pt : ∀ (s : Shared) (H : Hp) (C : Addr) (cl : List (Str × Addr)) (fp : List Addr), PTs (X.blk s H scope (compEnvC scope cl C X.env) fp) ifs tt)
    (pk : ∀ (s : Shared) (H : Hp) (C : Addr) (cl : List (Str × Addr)) (fp : List Addr), PE (X.blk s H scope (compEnvC scope cl C X.env) fp) kx tk)
    (pv : ∀ (s : Shared) (H : Hp) (C : Addr) (cl : List (Str × Addr)) (fp : List Addr), PE (X.blk s H scope (compEnvC scope cl C X.env) fp) vx tv) (hs : ∀ x, foldedSetIterable iter X.env x = pure x := by intro _; rfl) :
    PS X (.Assign [.Name y py] (.DictComp kx vx [⟨tg, iter, ifs, 0⟩] scope pos) spos) (tAsg (tDc wi g tt tk tv (own.map (·.2))) (gName i)) := ⟨fun pins s σ H D I h0 => by
  have h : tDc wi g tt tk tv (own.map (·.2)) σ H (fun x H1 => gName i x σ H1 D.nx) := h0
  rw [exec_Assign_Name_used _ _ _ _ hsw]
  refine wpAny_bind (wpAny_standAt (wpAny_bind (wpAny_bind (thn (dc_core (Qf := fun _ s' => SP X pins D .next s') (use := some (assign (.Name y py) X.env)) calm nd I pi ok pg pt pk pv hs h fun L C s' m H' I' q hn f => ?_) fun _ s' hq => wpAny_pure (wpAny_pure hq)))))
  show wpAny _ _ (assign (.Name y py) X.env (Value.ref L)) _ _ _
  obtain ⟨f0, f1, f2, f3, f4, f5⟩ := f
  refine wpAny_assign_Name (store_ok2 (v := V.ref L) I' nd hy (.inl hyl) rfl (fun s2 I2 ⟨a, sb, ha⟩ => ?_) (.inr hyl))
  have ne : C ≠ a := ha.elim (fun z => by rw [z]; exact f1) fun z e => f4 y a z e.symm
  exact ⟨m, hn.sameBut sb ne, fun h3 sb3 => ⟨_, H', I2.turned (t' := s2.toks) (fun b o hb e => (sb3.2 b hb).trans e) f0 f1 f3 f4 f5, q⟩⟩⟩
theorem sw_dc {kx vx : Expr} {gs : List Comprehension} {scope : Scope} {pos py : Pos} {y : Str} {l : Nat} {env : Env} (h1 : env.scope.kind = .function) (h2 : env.scope.names.lookup y = some .local) (h3 : (py.line == pos.line) = true)
    (h4 : (scope.names.any fun (n, k) => n == y && (k == .local || k == .cell)) = false) : swapsWith (.DictComp kx vx gs scope pos) (some (.Name y py)) l env = pure true := by
  unfold swapsWith
  simp only [show env.blockKind = .function by unfold Env.blockKind; rw [h1]; rfl, show env.kindOf y = some .local from h2, h4, Expr.pos, h3]
  rfl
/-- a block from one middle to the next -/
theorem seq_via {t u : TS} {D : Ends} {σ : St} {H : Hp} (C : St → Hp → Prop) (h2 : ∀ σ' H', C σ' H' → u D σ' H') (h1 : (∀ σ' H', C σ' H' → u D σ' H') → t { D with nx := u D } σ H) : tSeq t u D σ H := h1 h2
end
/-! ### dicts with ints as keys and yes as values -/
abbrev inn (l : List Nat) : List (Key × V) := l.map fun (j : Nat) => ((Sum.inl (j : Int) : Key), V.bl true)
theorem inn_get (l : List Nat) (x : Nat) : valV (inn l) (Sum.inl (x : Int)) = if x ∈ l then some (V.bl true) else none := by
  induction l with
  | nil => simp [inn, valV]
  | cons a l ih =>
    unfold valV inn at ih ⊢
    rw [List.map_cons, List.find?_cons]
    by_cases h : a = x
    · subst h
      simp
    · have hk : ((Sum.inl (a : Int) : Key) = Sum.inl (x : Int)) → False := fun z => h (by have := Sum.inl.inj z; omega)
      rw [show decide (((Sum.inl (a : Int) : Key), V.bl true).fst = Sum.inl (x : Int)) = false from decide_eq_false hk]
      simp only [ih, List.mem_cons]
      by_cases h2 : x ∈ l
      · simp [h2]
      · rw [if_neg h2, if_neg]
        rintro (e | e)
        · exact h e.symm
        · exact h2 e
theorem inn_put {l : List Nat} {x : Nat} (h : x ∉ l) : putK (inn l) (Sum.inl (x : Int)) (V.bl true) = inn (l ++ [x]) := by
  rw [putK_new _ (by rw [inn_get, if_neg h])]
  simp
theorem inn_len (l : List Nat) : (inn l).length = l.length := by simp
/-! ### the net in the heap -/
def kk (s : Option Nat) : Key := Sum.inr (tx s.toList)
theorem kk_inj {s t : Option Nat} (h : kk s = kk t) : s = t := by
  have h2 : tx s.toList = tx t.toList := Sum.inr.inj h
  have h3 := tx_inj.mp h2
  cases s <;> cases t <;> simp_all
def SgOk (L : List Nat) (s : Option Nat) : Prop := ∀ c, s = some c → c ∈ L
def DK (H : Hp) (L : List Nat) (W : Net) (ow : Addr → Option (Nat × Option (Option Nat))) (i : Nat) (kvs : List (Key × V)) : Prop :=
  (kvs.map (·.1)).Nodup ∧ (∀ k ∈ kvs.map (·.1), ∃ s, SgOk L s ∧ k = kk s) ∧
  ∀ s, (valV kvs (kk s) = none ∧ W i s = []) ∨ ∃ e, valV kvs (kk s) = some (.ref e) ∧ ow e = some (i, some s) ∧ H e = some (.dK (inn (W i s)))
structure NetP (K : PySem.W.Frag) (C : Addr) (L : List Nat) (H0 H : Hp) (p : Addr) (n : Nat) (W : Net) (dx wl : Addr) (ds : List Addr) (ow : Addr → Option (Nat × Option (Option Nat))) : Prop where
  s : Same H0 H
  p0 : H0 p = none
  w0 : H0 wl = none
  o0 : ∀ a, (ow a).isSome = true → H0 a = none
  hp : H p = some (.ins C dx [("ways", .ref wl)])
  hw : H wl = some (.lst (ds.map V.ref))
  ln : ds.length = n
  d : ∀ (i : Nat) d, ds[i]? = some d → ow d = some (i, none) ∧ ∃ kvs, H d = some (.dK kvs) ∧ DK H L W ow i kvs
  z : ∀ i s, n ≤ i → W i s = []
def NetAt (K : PySem.W.Frag) (C : Addr) (L : List Nat) (H0 H : Hp) (p : Addr) (n : Nat) (W : Net) : Prop := ∃ dx wl ds ow, NetP K C L H0 H p n W dx wl ds ow
theorem DK.len {H : Hp} {L : List Nat} {W : Net} {ow : Addr → Option (Nat × Option (Option Nat))} {i : Nat} {kvs : List (Key × V)} (h : DK H L W ow i kvs) : kvs.length ≤ L.length + 1 := by
  have h1 := nodup_le (m := kk none :: L.map fun c => kk (some c)) h.1 fun k hk => by
    obtain ⟨s, hs, rfl⟩ := h.2.1 k hk
    cases s with
    | none => simp
    | some c => exact List.mem_cons_of_mem _ (List.mem_map.mpr ⟨c, hs c rfl, rfl⟩)
  simpa using h1
section
variable {K : PySem.W.Frag} {C : Addr} {L : List Nat} {H0 H H' : Hp} {p : Addr} {n : Nat} {W : Net}
theorem netP_same {dx wl : Addr} {ds : List Addr} {ow : Addr → Option (Nat × Option (Option Nat))} (s : Same H H') (h : NetP K C L H0 H p n W dx wl ds ow) : NetP K C L H0 H' p n W dx wl ds ow := by
  refine ⟨h.s.trans s, h.p0, h.w0, h.o0, s _ _ h.hp, s _ _ h.hw, h.ln, fun i d e => ?_, h.z⟩
  obtain ⟨h1, kvs, h2, h3, h4, h5⟩ := h.d i d e
  refine ⟨h1, kvs, s _ _ h2, h3, h4, fun sg => ?_⟩
  rcases h5 sg with h5 | ⟨e, h5, h6, h7⟩
  · exact .inl h5
  · exact .inr ⟨e, h5, h6, s _ _ h7⟩
theorem netAt_same (s : Same H H') (h : NetAt K C L H0 H p n W) : NetAt K C L H0 H' p n W := by
  obtain ⟨dx, wl, ds, ow, h⟩ := h
  exact ⟨dx, wl, ds, ow, netP_same s h⟩
/-- all but dicts stands as before -/
def Keep (H H' : Hp) : Prop := ∀ b o, H b = some o → (∀ kvs, o ≠ .dK kvs) → H' b = some o
theorem Keep.refl (H : Hp) : Keep H H := fun _ _ h _ => h
theorem Keep.trans {H1 : Hp} (a : Keep H H') (b : Keep H' H1) : Keep H H1 := fun _ _ h n => b _ _ (a _ _ h n) n
theorem keep_of (s : Same H H') : Keep H H' := fun _ _ h _ => s _ _ h
theorem keep_upd {a : Addr} {kvs : List (Key × V)} {o : HO} (h : H a = some (.dK kvs)) : Keep H (upd H a o) := fun b u e n => by
  by_cases hb : b = a
  · subst hb
    rw [h] at e
    cases e
    exact absurd rfl (n kvs)
  · rw [upd_ne hb]; exact e
theorem keep_rd {a : Addr} {x : HO} (s : Keep H H') (hx : ∀ kvs, x ≠ .dK kvs) (h : Rd H a x) : Rd H' a x := by
  rcases h with h | ⟨o, h⟩
  · exact .inl (s _ _ h hx)
  · exact .inr ⟨o, s _ _ h fun _ z => nomatch z⟩
theorem keep_t {a : Addr} {xs : List V} (s : Keep H H') (h : SqT K H a xs) : SqT K H' a xs := by
  rcases h with h | h
  · exact .inl (keep_rd s (fun _ z => nomatch z) h)
  · exact .inr h
theorem keep_l {a : Addr} {xs : List V} (s : Keep H H') (h : SqL K H a xs) : SqL K H' a xs := by
  rcases h with h | h
  · exact .inl (keep_rd s (fun _ z => nomatch z) h)
  · exact .inr h
mutual
theorem dp_keep (s : Keep H H') : ∀ (d : PyData) (v : V), Dp K H v d → Dp K H' v d
  | .none, _, h => by cases h; exact .non
  | .bool _, _, h => by cases h; exact .bl _
  | .int _, _, h => by cases h; exact .int _
  | .str _, _, h => by cases h; exact .str _
  | .list ds, _, h => by
    cases h with
    | lst h1 h2 => exact .lst (keep_l s h1) (dpAll_keep s ds _ h2)
  | .tuple ds, _, h => by
    cases h with
    | tup h1 h2 => exact .tup (keep_t s h1) (dpAll_keep s ds _ h2)
  | .dict _, _, h => by cases h
theorem dpAll_keep (s : Keep H H') : ∀ (ds : List PyData) (vs : List V), DpAll K H vs ds → DpAll K H' vs ds
  | [], _, h => by cases h; exact .nil
  | d :: ds, _, h => by
    cases h with
    | cons h1 h2 => exact .cons (dp_keep s d _ h1) (dpAll_keep s ds _ h2)
end
end
/-- what stands unlocked again -/
theorem same_lock {H H' : Hp} {d : Addr} {od : Obj} {u : HO} (h : H d = some u) (s : Same (upd H d (.frz od u)) H') : Same H (upd H' d u) := fun b o e => by
  by_cases hb : b = d
  · subst hb
    rw [h] at e
    rw [upd_same]; exact e
  · rw [upd_ne hb]
    exact s b o (by rw [upd_ne hb]; exact e)
theorem inn_of {ys : List (Key × V)} {S : List Nat} (hl : ys.length = S.length) (h : ∀ (j : Nat) k y, ys[j]? = some (k, y) → k = Sum.inl ((S.getD j 0 : Nat) : Int) ∧ y = V.bl true) : ys = inn S := by
  refine List.ext_getElem? fun j => ?_
  by_cases hj : j < ys.length
  · rw [List.getElem?_eq_getElem hj]
    obtain ⟨h1, h2⟩ := h j ys[j].1 ys[j].2 (List.getElem?_eq_getElem hj)
    have hj2 : j < S.length := by omega
    simp only [List.getElem?_map, List.getElem?_eq_getElem hj2, Option.map_some]
    have e : S.getD j 0 = S[j] := by simp [hj2]
    rw [e] at h1
    exact congrArg some (Prod.ext h1 h2)
  · rw [List.getElem?_eq_none (by omega), List.getElem?_eq_none (by simp; omega)]
/-- a while loop that runs as a step function does -/
theorem while_runs {S : Type} {step : S → Option S} {I : S → Prop} {c : TT} {tb : TS} {D : Ends} {σ : L2.St} {H : Hp} {m : Nat} {a t : S} (r : Runs step I m a t) (Pv : S → L2.St → Hp → Prop) (h0 : Pv a σ H)
    (hgo : ∀ (Ok : (L2.St → Hp → Prop) → Prop) s s' σ H, I s → step s = some s' → Pv s σ H → Ok (Pv s') → c σ H fun b H1 => if b = true then ∃ N, Ok N ∧ tb { D with nx := N, ct := N, bk := D.nx } σ H1 else D.nx σ H1)
    (hst : ∀ (Ok : (L2.St → Hp → Prop) → Prop) σ H, I t → step t = none → Pv t σ H → c σ H fun b H1 => if b = true then ∃ N, Ok N ∧ tb { D with nx := N, ct := N, bk := D.nx } σ H1 else D.nx σ H1) : tWhile c tb D σ H := by
  refine ⟨fun m σ H => ∃ s, Runs step I m s t ∧ Pv s σ H, ⟨m, a, r, h0⟩, ?_⟩
  rintro m σ H ⟨s, r, p⟩
  cases r with
  | stop i e => exact hst _ σ H i e p
  | go i e r' => exact hgo _ s _ σ H i e p fun σ' H' p' => ⟨_, Nat.lt_succ_self _, _, r', p'⟩
theorem shaped_nats (l : List Nat) : SeqAt.shaped (.list (l.map dN)) = true := by
  have := PySem.W.shaped_ints (l.map fun (n : Nat) => (n : Int))
  rwa [List.map_map] at this
theorem eqv_nil (l : List Nat) : PyData.eqv (.list (l.map dN)) (.list []) = decide (l = []) := by
  cases l <;> simp [PyData.eqv, PyData.eqvAll]
/-- a list of numbers held against [] -/
theorem ne_nil {K : PySem.W.Frag} {H : Hp} {G E : Addr} {l : List Nat} {Q : VK} (h1 : H G = some (.lst (l.map vN))) (h2 : H E = some (.lst [])) (q : Q (.bl (!decide (l = []))) H) : rNeD K (.ref G) (.ref E) H Q :=
  ⟨.list (l.map dN), .list [], .lst (SqL.of h1) (ints_dpAll l), .lst (SqL.of h2) .nil, shaped_nats l, shaped_nats [], by rw [eqv_nil]; exact q⟩
theorem ne_nil_t {K : PySem.W.Frag} {H : Hp} {G E : Addr} {l : List Nat} {Q : VK} (h1 : H G = some (.lst (l.map vN))) (h2 : H E = some (.lst [])) (hl : l ≠ []) (q : Q (.bl true) H) : rNeD K (.ref G) (.ref E) H Q :=
  ne_nil h1 h2 (by rw [decide_eq_false hl]; exact q)
theorem ne_nil_f {K : PySem.W.Frag} {H : Hp} {G E : Addr} {l : List Nat} {Q : VK} (h1 : H G = some (.lst (l.map vN))) (h2 : H E = some (.lst [])) (hl : l = []) (q : Q (.bl false) H) : rNeD K (.ref G) (.ref E) H Q :=
  ne_nil h1 h2 (by rw [decide_eq_true hl]; exact q)
theorem none_of {H H' : Hp} {a : Addr} (s : Same H H') (h : H' a = none) : H a = none := by
  cases e : H a with
  | none => rfl
  | some o => rw [s _ _ e] at h; cases h
/-- all but one thing stands as before -/
def SameX (e : Addr) (H H' : Hp) : Prop := ∀ b o, b ≠ e → H b = some o → H' b = some o
theorem sameX_new {e a : Addr} {H H' : Hp} {o : HO} (s : SameX e H H') (h : H' a = none) : SameX e H (upd H' a o) := fun b u n q => by
  have := s b u n q
  rw [upd_ne (ne_of_none this h)]; exact this
theorem sameX_upd {e a : Addr} {H H' : Hp} {o : HO} (s : SameX e H H') (h : H a = none) : SameX e H (upd H' a o) := fun b u n q => by
  rw [upd_ne (ne_of_none q h)]; exact s b u n q
theorem sameX_back {e : Addr} {H H' : Hp} {u : HO} (s : SameX e H H') (h : ∀ o, H e = some o → o = u) : Same H (upd H' e u) := fun b o q => by
  by_cases hb : b = e
  · subst hb
    rw [upd_same, h o q]
  · rw [upd_ne hb]; exact s b o hb q
theorem dget_kk {H : Hp} {a : Addr} {kvs : List (Key × V)} {s : Option Nat} {o : Option V} (e : H a = some (.dK kvs)) (h : valV kvs (kk s) = o) : DGet H a (.str (tx s.toList)) o := by
  rw [← h]
  exact DGet.k (k := kk s) e
theorem pushAll_snoc {st : List Nat × List Nat} {os : List Nat} {x : Nat} : pushAll st (os ++ [x]) = push1 (pushAll st os) x := by unfold pushAll; rw [List.foldl_append]; rfl
end An
end
section
set_option Elab.async false
set_option maxRecDepth 100000
set_option maxHeartbeats 4000000
set_option linter.all false
/-! Net.__init__, Net.add. -/
namespace An
open PySem L2
section
variable {K : PySem.W.Frag} {C : Addr} {L : List Nat} {H0 H H' : Hp} {p : Addr} {n : Nat} {W : Net} {dx wl : Addr} {ds : List Addr} {ow ow' : Addr → Option (Nat × Option (Option Nat))}
theorem NetP.put (h : NetP K C L H0 H p n W dx wl ds ow) {i j : Nat} {s : Option Nat} {d e : Addr} {kvs kvs' : List (Key × V)} (hd : ds[i]? = some d) (hk : DK H L W ow i kvs)
    (o1 : ow' e = some (i, some s)) (o2 : ∀ a, a ≠ e → ow' a = ow a) (e0 : H0 e = none)
    (ne1 : p ≠ e) (ne2 : wl ≠ e) (ne3 : ∀ a ∈ ds, a ≠ e) (ne4 : ∀ a i' s', ow a = some (i', some s') → H a ≠ none → (i', s') ≠ (i, s) → a ≠ e)
    (k1 : valV kvs' (kk s) = some (.ref e)) (k2 : ∀ s', s' ≠ s → valV kvs' (kk s') = valV kvs (kk s')) (k3 : (kvs'.map (·.1)).Nodup) (k4 : ∀ k ∈ kvs'.map (·.1), ∃ s, SgOk L s ∧ k = kk s)
    (x1 : H' e = some (.dK (inn (W i s ++ [j])))) (x2 : H' d = some (.dK kvs')) (x3 : ∀ b o, b ≠ e → b ≠ d → H b = some o → H' b = some o) (x4 : Same H0 H') (hi : i < n) : NetP K C L H0 H' p n (addW W i s j) dx wl ds ow' := by
  obtain ⟨hod, kvs0, hkd, _⟩ := h.d i d hd
  have hpd : p ≠ d := fun z => by have := h.hp; rw [z, hkd] at this; cases this
  have hwd : wl ≠ d := fun z => by have := h.hw; rw [z, hkd] at this; cases this
  refine ⟨x4, h.p0, h.w0, fun a ha => ?_, x3 _ _ ne1 hpd h.hp, x3 _ _ ne2 hwd h.hw, h.ln, fun i' d' hd' => ?_, fun i' s' hi' => ?_⟩
  · by_cases hae : a = e
    · rw [hae]; exact e0
    · rw [o2 a hae] at ha; exact h.o0 a ha
  · have hde : d' ≠ e := ne3 d' (List.mem_of_getElem? hd')
    obtain ⟨h1, kv, h2, h3, h4, h5⟩ := h.d i' d' hd'
    refine ⟨by rw [o2 d' hde]; exact h1, ?_⟩
    by_cases hii : i' = i
    · subst hii
      have hdd : d' = d := by rw [hd] at hd'; exact (Option.some.inj hd').symm
      subst hdd
      refine ⟨kvs', x2, k3, k4, fun s' => ?_⟩
      by_cases hs : s' = s
      · subst hs
        refine .inr ⟨e, k1, o1, ?_⟩
        unfold addW
        rw [if_pos ⟨rfl, rfl⟩]
        exact x1
      · have hW : addW W i' s j i' s' = W i' s' := by unfold addW; rw [if_neg (fun z => hs z.2)]
        rw [k2 s' hs, hW]
        rcases hk.2.2 s' with q | ⟨e2, q1, q2, q3⟩
        · exact .inl q
        · have hne : e2 ≠ e := ne4 e2 i' s' q2 (by rw [q3]; exact fun z => nomatch z) fun z => hs (Prod.mk.inj z).2
          refine .inr ⟨e2, q1, by rw [o2 _ hne]; exact q2, x3 _ _ hne (fun z => ?_) q3⟩
          rw [z, hod] at q2
          cases q2
    · have hdd : d' ≠ d := fun z => by
        rw [z, hod] at h1
        exact hii (Prod.mk.inj (Option.some.inj h1)).1.symm
      refine ⟨kv, x3 _ _ hde hdd h2, h3, h4, fun s' => ?_⟩
      have hW : addW W i s j i' s' = W i' s' := by unfold addW; rw [if_neg (fun z => hii z.1)]
      rw [hW]
      rcases h5 s' with q | ⟨e2, q1, q2, q3⟩
      · exact .inl q
      · have hne : e2 ≠ e := ne4 e2 i' s' q2 (by rw [q3]; exact fun z => nomatch z) fun z => hii (Prod.mk.inj z).1
        refine .inr ⟨e2, q1, by rw [o2 _ hne]; exact q2, x3 _ _ hne (fun z => ?_) q3⟩
        rw [z, hod] at q2
        cases q2
  · unfold addW
    rw [if_neg (fun z => by have := z.1; omega)]
    exact h.z i' s' hi'
theorem keys_put {kvs : List (Key × V)} {k : Key} {v : V} (hn : valV kvs k = none) (h3 : (kvs.map (·.1)).Nodup) : ((putK kvs k v).map (·.1)).Nodup := by
  rw [putK_new _ hn, List.map_append, List.nodup_append]
  refine ⟨h3, by simp, fun a ha b hb e => ?_⟩
  simp at hb
  subst hb
  subst e
  obtain ⟨q, hq, eq⟩ := List.mem_map.mp ha
  have : valV kvs a ≠ none := by
    unfold valV
    intro z
    rw [Option.map_eq_none_iff, List.find?_eq_none] at z
    exact z q hq (by simpa using eq)
  exact this hn
end
section
variable {P : Program} {w : World} {K : PySem.W.Frag} {mg : Str → Option Value} {base : Heap}
def sp_init (K : PySem.W.Frag) (C : Addr) : Sp := fun vs H Q _ => ∃ (p dx : Addr) (n : Nat) (L : List Nat) (H0 : Hp), vs = [.ref p, vN n] ∧ H p = some (.ins C dx []) ∧ n ≤ 1000 ∧ Same H0 H ∧ H0 p = none ∧ ∀ H', Same H0 H' → NetAt K C L H0 H' p n (fun _ _ => []) → Q .non H'
theorem sc_Net__init_ : FnScope ["self", "size", "stand"] ["self", "size"] (defScope s_Net__init_) := ⟨rfl, rfl, rfl, by decide +kernel, rfl, by decide +kernel, by decide +kernel⟩
theorem ok_init (T : Tx K mg) : FnOk P w K mg base CX0 1 T.init_f T.init_fd ["self", "size"] (sp_init K T.C) := by
  have sc := sc_Net__init_
  refine T.initF.ok sc (fun vs H Q E h => ?_) (fun cdv A outer s H vs Q E hr h => ?_)
  · obtain ⟨_, _, _, _, _, rfl, _⟩ := h; rfl
  · obtain ⟨p, dx, n, L, H0, rfl, hp, hn, hs, h0, q⟩ := h
    refine ⟨_, (pss_one (ps_fld (pv 0) (pe_lc (own := [("stand", 2)]) rfl sc.nd (pi_range1 rfl T.b_range (pa_cons (pv 1) pa_nil)) (blkOk_by (N := ["self", "size", "stand"]) (sc := defScope s_Net__init_) (by decide +kernel)) (fun _ _ _ _ _ => (pg_name (i := 2) (x := "stand") sc.nd rfl (Or.inl rfl) (hf := Or.inr rfl))) (fun _ _ _ _ _ => pts_nil) (fun _ _ _ _ _ => pe_dnewK)) rfl)), ?_⟩
    refine ⟨_, rfl, _, rfl, by omega, by omega, fun D hD => ?_⟩
    refine lc_it (walk_range (n := n)) (fun i H' => ∃ ds : List Addr, Same H H' ∧ H' D = some (.lst (ds.map V.ref)) ∧ ds.length = i ∧ ds.Nodup ∧ ∀ d ∈ ds, H d = none ∧ d ≠ D ∧ H' d = some (.dK [])) ⟨[], same_new hD, upd_same, rfl, by simp, by simp⟩ (fun _ _ _ _ => trivial) ?_ fun H' ⟨ds, s1, e1, e2, e3, e4⟩ => ?_
    · rintro i x H1 H2 hi ⟨ds, s1, e1, e2, e3, e4⟩ ⟨rfl, rfl⟩
      refine ⟨rfl, yes_if fun d hd => ?_⟩
      have hdD : D ≠ d := ne_of_none e1 hd
      refine ⟨_, by rw [upd_ne hdD]; exact e1, by rw [List.length_map]; exact line9 (by omega), ds ++ [d], same_upd (s1.trans (same_new hd)) hD, by rw [upd_same, List.map_append]; rfl, by simp [e2], ?_, fun d' hd' => ?_⟩
      · rw [List.nodup_append]
        refine ⟨e3, by simp, fun a ha b hb e => ?_⟩
        simp at hb
        subst hb
        subst e
        rw [(e4 a ha).2.2] at hd
        cases hd
      · rcases List.mem_append.mp hd' with h | h
        · obtain ⟨a1, a2, a3⟩ := e4 d' h
          refine ⟨a1, a2, ?_⟩
          rw [upd_ne a2, upd_ne (ne_of_none a3 hd)]
          exact a3
        · simp at h
          subst h
          refine ⟨?_, hdD.symm, by rw [upd_ne hdD.symm, upd_same]⟩
          cases hh : H d' with
          | none => rfl
          | some o => rw [s1 _ _ hh] at hd; cases hd
    · have hpD : p ≠ D := ne_of_none hp hD
      have s2 : Same H0 (upd H' p (.ins T.C dx (putF "ways" (.ref D) []))) := same_upd (hs.trans s1) h0
      have hnone : ∀ a, H a = none → H0 a = none := fun a ha => by
        cases hh : H0 a with
        | none => rfl
        | some o => rw [hs _ _ hh] at ha; cases ha
      refine ⟨_, rfl, p, T.C, dx, [], rfl, s1 _ _ hp, T.cl, T.nW, by decide, q _ s2 ⟨dx, D, ds, fun a => if a ∈ ds then some (ds.idxOf a, none) else none, s2, h0, hnone D hD, fun a ha => ?_, upd_same, by rw [upd_ne hpD.symm]; exact e1, e2, fun i d hd => ⟨?_, [], ?_, by simp, by simp, fun s => .inl ⟨rfl, rfl⟩⟩, fun _ _ _ => rfl⟩⟩
      · by_cases hm : a ∈ ds
        · exact hnone a (e4 a hm).1
        · rw [if_neg hm] at ha; cases ha
      · rw [if_pos (List.mem_of_getElem? hd), idx_of_get e3 hd]
      · have hm := e4 d (List.mem_of_getElem? hd)
        rw [upd_ne (fun z => by rw [z, s1 _ _ hp] at hm; cases hm.2.2)]
        exact hm.2.2
def sp_add (K : PySem.W.Frag) (C : Addr) : Sp := fun vs H Q _ => ∃ (p : Addr) (n : Nat) (W : Net) (L : List Nat) (H0 : Hp) (i j : Nat) (s : Option Nat), vs = [.ref p, vN i, .str (tx s.toList), vN j] ∧ NetAt K C L H0 H p n W ∧ NetOk n W ∧ n ≤ 1000 ∧ L.length ≤ 100 ∧ i < n ∧ SgOk L s ∧
  ∀ H', Same H0 H' → Keep H H' → NetAt K C L H0 H' p n (addB (W, false) i s j).1 → Q (.bl (addB (W, false) i s j).2) H'
theorem sc_Net_add : FnScope ["self", "one", "sign", "other", "told"] ["self", "one", "sign", "other"] (defScope s_Net_add) := ⟨rfl, rfl, rfl, by decide +kernel, rfl, by decide +kernel, by decide +kernel⟩
theorem ok_add (T : Tx K mg) : FnOk P w K mg base CX0 1 T.add.f T.add.fd ["self", "one", "sign", "other"] (sp_add K T.C) := by
  have sc := sc_Net_add
  refine T.add.F.ok sc (fun vs H Q E h => ?_) (fun cdv A outer s H vs Q E hr h => ?_)
  · obtain ⟨_, _, _, _, _, _, _, _, rfl, _⟩ := h; rfl
  · obtain ⟨p, n, W, L, H0, i, j, sg, rfl, hN, hW, hn, hL, hi, hsg, q⟩ := h
    obtain ⟨dx, wl, ds, ow, h⟩ := hN
    have hil : i < ds.length := by rw [h.ln]; exact hi
    have hdi : ds[i]? = some ds[i] := List.getElem?_eq_getElem hil
    obtain ⟨hod, kvs, hkd, hk⟩ := h.d i _ hdi
    have hlk := hk.len
    refine ⟨_, (pss_cons (ps_set (i := 4) sc.nd rfl (Or.inl rfl) (pe_dsetd (pe_ix ix_list (pe_fld (pv 0) rfl) (pv 1) (fun _ _ => rfl)) (pv 2) pe_dnewK ⟨rfl, rfl, rfl, rfl⟩))
      (pss_cons (ps_if (pt_cmp (pc_din (hu_of hr) (pv 3) (pv 4)))
        (pss_one (ps_ret pe_bl))
        pss_nil)
      (pss_cons (ps_dput (hu_of hr) (pv 4) (pv 3) pe_bl rfl)
      (pss_one (ps_ret pe_bl))))), ?_⟩
    refine ⟨_, rfl, p, T.C, dx, _, .ref wl, rfl, h.hp, T.cl, T.nW, rfl, _, rfl, wl, _, i, .ref ds[i], rfl, rfl, SqL.of h.hw, atI_nat (by rw [List.getElem?_map, hdi]; rfl), _, rfl, .inl ⟨kvs, .inl hkd⟩, _, rfl, fun e he => ?_⟩
    have hed : ds[i] ≠ e := ne_of_none hkd he
    refine ⟨kvs, kk sg, by rw [upd_ne hed]; exact hkd, rfl, line9 (by omega), fun v hv => ?_, fun hnone => ?_⟩
    · rcases hk.2.2 sg with ⟨q1, _⟩ | ⟨e1, q1, q2, q3⟩
      · rw [q1] at hv; cases hv
      rw [q1] at hv
      cases hv
      have s1 : Same H (upd H e (.dK [])) := same_new he
      refine ⟨_, rfl, _, rfl, e1, _, rfl, DGet.k (k := Sum.inl (j : Int)) (s1 _ _ q3), _, rfl, ?_⟩
      by_cases hj : j ∈ W i sg
      · rw [inn_get, if_pos hj]
        have e2 : addB (W, false) i sg j = (W, false) := by unfold addB; rw [if_pos hj]
        rw [e2] at q
        exact iteT (q _ (h.s.trans s1) (keep_of s1) (netAt_same s1 ⟨dx, wl, ds, ow, h⟩))
      · rw [inn_get, if_neg hj]
        have e2 : addB (W, false) i sg j = (addW W i sg j, true) := by unfold addB; rw [if_neg hj]
        rw [e2] at q
        refine iteF ⟨_, rfl, _, rfl, e1, _, rfl, DPut.k (k := Sum.inl (j : Int)) (s1 _ _ q3) (by rw [inn_len]; exact line9 (Nat.le_trans (nodup_lt (hW i sg).1 (hW i sg).2.1) (by omega))), ?_⟩
        rw [inn_put hj]
        have s2 : Same H0 (upd (upd H e (.dK [])) e1 (.dK (inn (W i sg ++ [j])))) := same_upd (h.s.trans s1) (h.o0 _ (by rw [q2]; rfl))
        have k2 : Keep H (upd (upd H e (.dK [])) e1 (.dK (inn (W i sg ++ [j])))) := (keep_of s1).trans (keep_upd (s1 _ _ q3))
        refine q _ s2 k2 ⟨dx, wl, ds, ow, ?_⟩
        refine h.put hdi hk q2 (fun _ _ => rfl) (h.o0 _ (by rw [q2]; rfl)) (fun z => ?_) (fun z => ?_) (fun a ha z => ?_) (fun a i' s' o1 _ o2 z => ?_) q1 (fun _ _ => rfl) hk.1 hk.2.1 upd_same ?_ (fun b o n1 n2 hb => ?_) s2 hi
        · have := h.hp; rw [z, q3] at this; cases this
        · have := h.hw; rw [z, q3] at this; cases this
        · obtain ⟨m, hm⟩ := List.getElem?_of_mem ha
          have := (h.d m a hm).1
          rw [z, q2] at this
          cases this
        · rw [z, q2] at o1
          cases o1
          exact o2 rfl
        · rw [upd_ne (fun z => ?_)]
          · exact s1 _ _ hkd
          · rw [z, q2] at hod; cases hod
        · rw [upd_ne n1]
          exact s1 _ _ hb
    · have hWn : W i sg = [] := by
        rcases hk.2.2 sg with ⟨_, q2⟩ | ⟨e1, q1, _, _⟩
        · exact q2
        · rw [q1] at hnone; cases hnone
      have e2 : addB (W, false) i sg j = (addW W i sg j, true) := by unfold addB; rw [if_neg (show ¬ j ∈ W i sg by rw [hWn]; simp)]
      rw [e2] at q
      have he2 : (upd (upd H e (.dK [])) ds[i] (.dK (putK kvs (kk sg) (.ref e)))) e = some (.dK []) := by rw [upd_ne hed.symm, upd_same]
      refine ⟨_, rfl, _, rfl, e, _, rfl, DGet.k (k := Sum.inl (j : Int)) he2, _, rfl, ?_⟩
      refine iteF ⟨_, rfl, _, rfl, e, _, rfl, DPut.k (k := Sum.inl (j : Int)) he2 (by show 0 < sizeLine; exact line9 (by omega)), ?_⟩
      have s1 : Same H (upd H e (.dK [])) := same_new he
      have hd0 := h.o0 _ (show (ow ds[i]).isSome = true by rw [hod]; rfl)
      have h0e : H0 e = none := by
        cases hh : H0 e with
        | none => rfl
        | some o => rw [h.s _ _ hh] at he; cases he
      have s2 : Same H0 (upd (upd (upd H e (.dK [])) ds[i] (.dK (putK kvs (kk sg) (.ref e)))) e (.dK (putK [] (Sum.inl (j : Int)) (V.bl true)))) := same_upd (same_upd (h.s.trans s1) hd0) h0e
      have k2 : Keep H (upd (upd (upd H e (.dK [])) ds[i] (.dK (putK kvs (kk sg) (.ref e)))) e (.dK (putK [] (Sum.inl (j : Int)) (V.bl true)))) := (keep_of s1).trans ((keep_upd (s1 _ _ hkd)).trans (keep_upd he2))
      refine q _ s2 k2 ⟨dx, wl, ds, fun a => if a = e then some (i, some sg) else ow a, ?_⟩
      refine h.put hdi hk (by simp) (fun a ha => by simp [ha]) h0e (ne_of_none h.hp he) (ne_of_none h.hw he) (fun a ha => ?_) (fun a i' s' o1 o2 _ z => ?_) (show valV (putK kvs (kk sg) (.ref e)) (kk sg) = some (.ref e) by rw [valV_put, if_pos rfl]) (fun s' hs' => ?_) (keys_put hnone hk.1) (fun k hk2 => ?_) ?_ ?_ (fun b o n1 n2 hb => ?_) s2 hi
      · obtain ⟨m, hm⟩ := List.getElem?_of_mem ha
        obtain ⟨_, kv, hkv, _⟩ := h.d m a hm
        exact ne_of_none hkv he
      · rw [z] at o2; exact o2 he
      · rw [valV_put, if_neg (fun z => hs' (kk_inj z))]
      · rw [putK_new _ hnone, List.map_append] at hk2
        rcases List.mem_append.mp hk2 with h5 | h5
        · exact hk.2.1 k h5
        · simp at h5
          exact ⟨sg, hsg, h5⟩
      · rw [upd_same, hWn]; rfl
      · rw [upd_ne hed, upd_same]
      · rw [upd_ne n1, upd_ne n2]
        exact s1 _ _ hb
end
end An
end
section
set_option Elab.async false
set_option maxRecDepth 100000
set_option maxHeartbeats 4000000
set_option linter.all false
/-! Net.without_letters, by_letter, by_text. -/
namespace An
open PySem L2
section
variable {P : Program} {w : World} {K : PySem.W.Frag} {mg : Str → Option Value} {base : Heap}
/-- a tuple of the numbers, or a dict of them -/
def Src2 (K : PySem.W.Frag) (H : Hp) (v : V) (S : List Nat) : Prop := Dp K H v (rowD S) ∨ ∃ d, v = .ref d ∧ H d = some (.dK (inn S))
def sp_without_letters (K : PySem.W.Frag) (C : Addr) : Sp := fun vs H Q _ => ∃ (p : Addr) (n : Nat) (W : Net) (L : List Nat) (H0 : Hp) (S : List Nat) (v : V), vs = [.ref p, v] ∧ NetAt K C L H0 H p n W ∧ NetOk n W ∧ n ≤ 60 ∧ L.length ≤ 100 ∧ S.Nodup ∧ (∀ x ∈ S, x < n) ∧ Src2 K H v S ∧
  ∀ H' r, Same H H' → H' r = some (.tup ((wl W S).map vN)) → Q (.ref r) H'
theorem sc_Net_without_letters : FnScope ["self", "stands", "found", "here", "other", "stand"] ["self", "stands"] (defScope s_Net_without_letters) := ⟨rfl, rfl, rfl, by decide +kernel, rfl, by decide +kernel, by decide +kernel⟩
theorem ok_without_letters (T : Tx K mg) : FnOk P w K mg base CX0 1 T.without_letters.f T.without_letters.fd ["self", "stands"] (sp_without_letters K T.C) := by
  have sc := sc_Net_without_letters
  refine T.without_letters.F.ok sc (fun vs H Q E h => ?_) (fun cdv A outer s H vs Q E hr h => ?_)
  · obtain ⟨_, _, _, _, _, _, _, rfl, _⟩ := h; rfl
  · obtain ⟨p, n, W, L, H0, S, v, rfl, hN, hW, hn, hL, hS, hb, hv, q⟩ := h
    refine ⟨_, (pss_cons (ps_or (ps_setDc (i := 2) (own := [("stand", 5)]) rfl sc.nd rfl rfl (sw_dc rfl rfl rfl (by decide +kernel)) (pi_tup (pv 1)) (blkOk_by (N := ["self", "stands", "found", "here", "other", "stand"]) (sc := defScope s_Net_without_letters) (by decide +kernel)) (fun _ _ _ _ _ => (pg_name (i := 5) (x := "stand") sc.nd rfl (Or.inl rfl) (hf := Or.inr rfl))) (fun _ _ _ _ _ => pts_nil) (fun _ _ _ _ _ => (pv 5)) (fun _ _ _ _ _ => pe_bl))
        (ps_lock (ps_setDc (i := 2) (own := [("stand", 5)]) rfl sc.nd rfl rfl (sw_dc rfl rfl rfl (by decide +kernel)) (pi_keys (pv 1)) (blkOk_by (N := ["self", "stands", "found", "here", "other", "stand"]) (sc := defScope s_Net_without_letters) (by decide +kernel)) (fun _ _ _ _ _ => (pg_name (i := 5) (x := "stand") sc.nd rfl (Or.inl rfl) (hf := Or.inr rfl))) (fun _ _ _ _ _ => pts_nil) (fun _ _ _ _ _ => (pv 5)) (fun _ _ _ _ _ => pe_bl))))
      (pss_cons (ps_set (i := 3) sc.nd rfl (Or.inl rfl) (pe_or2 (pe_T call_list_of T.b_list (pa_cons (pv 1) pa_nil)) (pe_T (call_list_dK rfl) T.b_list (pa_cons (pv 1) pa_nil))))
      (pss_cons (ps_while PassesOwn.never (pt_cmpR (op_neD hr.units) (pv 3) (pe_lst pa_nil) (nomark _))
        (pss_one (ps_or (ps_lock (ps_for PassesOwn.never rfl (pi_keys (pe_dget2 (hu_of hr) (pe_ix ix_list (pe_fld (pv 0) rfl) (pe_bm0 PySem.F.plainAttrs_list PySem.F.slot_list_pop PySem.F.type_list_pop mt_pop (pv 3)) (fun _ _ => rfl)) pe_str pe_dnewK ⟨rfl, rfl, rfl, rfl⟩)) (pg_name (i := 4) (x := "other") sc.nd rfl (Or.inl rfl))
          (pss_one (ps_if (pt_cmp (pc_dnotin (hu_of hr) (pv 4) (pv 2)))
            (pss_cons (ps_dput (hu_of hr) (pv 2) (pv 4) pe_bl rfl)
            (pss_one (ps_expr (pe_bm PySem.F.plainAttrs_list PySem.F.slot_list_append PySem.F.type_list_append mt_append (pv 3) (pa_cons (pv 4) pa_nil)))))
            pss_nil))))
          (ps_for PassesOwn.never rfl (pi_keys (pe_lockIt (pe_dget2 (hu_of hr) (pe_ix ix_list (pe_fld (pv 0) rfl) (pe_bm0 PySem.F.plainAttrs_list PySem.F.slot_list_pop PySem.F.type_list_pop mt_pop (pv 3)) (fun _ _ => rfl)) pe_str pe_dnewK ⟨rfl, rfl, rfl, rfl⟩))) (pg_name (i := 4) (x := "other") sc.nd rfl (Or.inl rfl))
          (pss_one (ps_if (pt_cmp (pc_dnotin (hu_of hr) (pv 4) (pv 2)))
            (pss_cons (ps_dput (hu_of hr) (pv 2) (pv 4) pe_bl rfl)
            (pss_one (ps_expr (pe_bm PySem.F.plainAttrs_list PySem.F.slot_list_append PySem.F.type_list_append mt_append (pv 3) (pa_cons (pv 4) pa_nil)))))
            pss_nil))))))
      (pss_one (ps_ret (pe_T call_tuple_of T.b_tuple (pa_cons (pe_B (id := "sorted") (call_sortedDI rfl) T.b_sorted (pa_cons (pv 2) pa_nil)) pa_nil))))))), ?_⟩
    have hSn : S.length ≤ n := nodup_lt hS hb
    refine seq_via (fun σ' H' => ∃ F, σ' = [some (.ref p), some v, some (.ref F), none, none, none] ∧ Same H H' ∧ H F = none ∧ H' F = some (.dK (inn S))) ?_ fun k => ?_
    · rintro σ1 H1 ⟨F, rfl, s1, hF0, hF⟩
      refine seq_via (fun σ' H' => ∃ G, σ' = [some (.ref p), some v, some (.ref F), some (.ref G), none, none] ∧ Same H H' ∧ H G = none ∧ H' F = some (.dK (inn S)) ∧ H' G = some (.lst (S.map vN))) ?_ fun k => ?_
      · rintro σ2 H2 ⟨G, rfl, s2, hG0, hF2, hG2⟩
        refine seq_via (fun σ' H' => ∃ f o, σ' = [some (.ref p), some v, some (.ref F), some (.ref G), o, none] ∧ Same H H' ∧ H' F = some (.dK (inn f)) ∧ srt f = wl W S ∧ f.length ≤ n) ?_ fun k => ?_
        · rintro σ3 H3 ⟨f, o, rfl, s3, hF3, hwl, hfl⟩
          refine ⟨_, rfl, F, _, f.map fun (j : Nat) => (j : Int), rfl, .inl hF3, by simp [inn], by simp; omega, fun ys z hp hs hz => ?_⟩
          have hys : ys = (srt f).map fun (j : Nat) => (j : Int) := by
            have hp2 : ys.Perm ((srt f).map fun (j : Nat) => (j : Int)) := hp.trans ((srt_perm f).map _).symm
            refine hp2.eq_of_pairwise (le := (· ≤ ·)) (fun a b _ _ h1 h2 => Int.le_antisymm h1 h2) hs ?_
            rw [List.pairwise_map]
            exact (srt_le f).imp fun h => by omega
          subst hys
          refine ⟨z, _, rfl, .inl ⟨SqL.of upd_same, fun l hl => ?_⟩⟩
          refine q _ _ (s3.trans ((same_new hz).trans (same_new hl))) ?_
          rw [upd_same, ← hwl, List.map_map]
          rfl
        · obtain ⟨m, t, r⟩ := wl_runs hW hS hb
          refine while_runs r (fun st σ' H' => ∃ o, σ' = [some (.ref p), some v, some (.ref F), some (.ref G), o, none] ∧ Same H H' ∧ H' F = some (.dK (inn st.1)) ∧ H' G = some (.lst (st.2.map vN))) ⟨none, rfl, s2, hF2, hG2⟩ ?_ ?_
          · rintro Ok st st' σ3 H3 hi est ⟨o, rfl, s3, hF3, hG3⟩ hok
            have hne : st.2 ≠ [] := fun z => by rw [wlStep, z] at est; cases est
            refine ⟨_, rfl, by show 0 ≤ sizeLine; exact line8 (by omega), fun E hE => ?_⟩
            have s4 : Same H3 (upd H3 E (.lst [])) := same_new hE
            refine ne_nil_t (l := st.2) (s4 _ _ hG3) upd_same hne ⟨_, rfl, iteT ⟨_, hok, ?_⟩⟩
            obtain ⟨x, hx⟩ : ∃ x, st.2.getLast? = some x := by
              cases hl : st.2.getLast? with
              | none => exact absurd (List.getLast?_eq_none_iff.mp hl) hne
              | some x => exact ⟨x, rfl⟩
            have e5 : st' = pushAll (st.1, st.2.dropLast) (W x none) := by
              unfold wlStep at est
              rw [hx] at est
              exact (Option.some.inj est).symm
            obtain ⟨i1, i2, i3, i4, i5⟩ := hi
            have hxm : x ∈ st.2 := List.mem_of_getLast? hx
            have hxn : x < n := i2 x (i3 x hxm)
            have hxl : (st.2.map vN)[(st.2.map vN).length - 1]? = some (vN x) := by
              rw [List.length_map, List.getElem?_map, ← List.getLast?_eq_getElem?, hx]; rfl
            have hI0 : WlI n S (st.1, st.2.dropLast) := ⟨i1, i2, fun y hy => i3 y (List.dropLast_subset _ hy), i4, by simp; omega⟩
            have hstep : ∀ j, WlI n S (pushAll (st.1, st.2.dropLast) ((W x none).take j)) := fun j => (pushAll_ok hI0 fun y hy => (hW x none).2.1 y (List.mem_of_mem_take hy)).1
            obtain ⟨dx, wl, ds, ow, h⟩ := hN
            have hil : x < ds.length := by rw [h.ln]; exact hxn
            have hdi : ds[x]? = some ds[x] := List.getElem?_eq_getElem hil
            obtain ⟨hod, kvs, hkd, hk⟩ := h.d x _ hdi
            have hmd : ((st.2.map vN).dropLast) = st.2.dropLast.map vN := by rw [List.map_dropLast]
            have s5 : Same H (upd H3 E (.lst [])) := s3.trans s4
            have hGE : G ≠ E := ne_of_none hG3 hE
            have hFG : F ≠ G := fun z => by rw [z, hG3] at hF3; cases hF3
            have key : (Str.ofString "" : Str) = tx [] := rfl
            rcases hk.2.2 none with ⟨hk1, hk2⟩ | ⟨e, hk1, hk2, hk3⟩
            · refine .inr ?_
              refine ⟨_, rfl, p, T.C, dx, _, .ref wl, rfl, s5 _ _ h.hp, T.cl, T.nW, rfl, _, rfl, .inl ⟨rfl, _, SqL.of (s4 _ _ hG3)⟩, G, _, _, rfl, rfl, s4 _ _ hG3, hxl, ?_⟩
              have s6 : Same H (upd (upd H3 E (.lst [])) G (.lst (st.2.map vN).dropLast)) := same_upd s5 hG0
              refine ⟨wl, _, x, .ref ds[x], rfl, rfl, SqL.of (s6 _ _ h.hw), atI_nat (by rw [List.getElem?_map, hdi]; rfl), ds[x], rfl, .inl ⟨kvs, .inl (s6 _ _ hkd)⟩, fun z hz => ⟨none, dget_kk (s := none) ((same_new hz) _ _ (s6 _ _ hkd)) hk1, ?_⟩⟩
              have hGz : G ≠ z := ne_of_none upd_same hz
              have hF5 : (upd (upd H3 E (.lst [])) G (.lst (st.2.map vN).dropLast)) F = some (.dK (inn st.1)) := by rw [upd_ne hFG]; exact s4 _ _ hF3
              have hFz : F ≠ z := ne_of_none hF5 hz
              refine ⟨z, .dK [], rfl, upd_same, trivial, fun od => ⟨z, od, rfl, .inl ⟨[], upd_same, ?_⟩⟩⟩
              have e6 : st' = (st.1, st.2.dropLast) := by rw [e5, hk2]; rfl
              subst e6
              refine for_it (walk_keys (kvs := [])) (fun _ σ' Hc => ∃ o, σ' = [some (.ref p), some v, some (.ref F), some (.ref G), o, none] ∧ Same H Hc ∧ Hc F = some (.dK (inn st.1)) ∧ Hc G = some (.lst (st.2.dropLast.map vN)) ∧ Hc z = some (.frz od (.dK []))) ⟨o, rfl, same_upd (same_upd s6 (none_of s6 hz)) (none_of s6 hz), ?_, ?_, upd_same⟩ (fun _ _ _ _ ⟨_, _, _, _, _, q⟩ => q) (fun i x σ H H' hi => by simp at hi) fun σ H' ⟨o, e, a, b, c, _⟩ => ⟨o, e, a, b, c⟩
              · rw [upd_ne hFz, upd_ne hFz]; exact hF5
              · rw [upd_ne hGz, upd_ne hGz, upd_same, hmd]
            · refine .inl ⟨e, .dK (inn (W x none)), s5 _ _ hk3, trivial, fun od => ?_⟩
              have heF : F ≠ e := (ne_of_none hk3 hF0).symm
              have heG : G ≠ e := (ne_of_none hk3 hG0).symm
              have x0 : ∀ {b o}, b ≠ e → (upd H3 E (.lst [])) b = some o → (upd (upd H3 E (.lst [])) e (.frz od (.dK (inn (W x none))))) b = some o := fun hb h => by rw [upd_ne hb]; exact h
              have hpe : p ≠ e := fun z => by have := h.hp; rw [z, hk3] at this; cases this
              have hwe : wl ≠ e := fun z => by have := h.hw; rw [z, hk3] at this; cases this
              have hde : ds[x] ≠ e := fun z => by rw [z, hk2] at hod; cases hod
              refine ⟨_, rfl, p, T.C, dx, _, .ref wl, rfl, x0 hpe (s5 _ _ h.hp), T.cl, T.nW, rfl, _, rfl, .inl ⟨rfl, _, SqL.of (x0 heG (s4 _ _ hG3))⟩, G, _, _, rfl, rfl, x0 heG (s4 _ _ hG3), hxl, ?_⟩
              have hwG : wl ≠ G := ne_of_none h.hw hG0
              have hdG : ds[x] ≠ G := ne_of_none hkd hG0
              refine ⟨wl, _, x, .ref ds[x], rfl, rfl, SqL.of (by rw [upd_ne hwG]; exact x0 hwe (s5 _ _ h.hw)), atI_nat (by rw [List.getElem?_map, hdi]; rfl), ds[x], rfl, .inl ⟨kvs, .inl (by rw [upd_ne hdG]; exact x0 hde (s5 _ _ hkd))⟩, fun z hz => ⟨some (.ref e), dget_kk (s := none) ((same_new hz) _ _ (by rw [upd_ne hdG]; exact x0 hde (s5 _ _ hkd))) hk1, ?_⟩⟩
              have x1 : SameX e H (upd (upd (upd (upd H3 E (.lst [])) e (.frz od (.dK (inn (W x none))))) G (.lst (st.2.map vN).dropLast)) z (.dK [])) := sameX_new (sameX_upd (fun b o n q => x0 n (s5 _ _ q)) hG0) hz
              have hez : e ≠ z := fun q => by rw [← q, upd_ne heG.symm, upd_same] at hz; cases hz
              have hGz : G ≠ z := fun q => by rw [← q, upd_same] at hz; cases hz
              have hFz : F ≠ z := fun q => by rw [← q, upd_ne hFG, upd_ne heF, s4 _ _ hF3] at hz; cases hz
              refine ⟨e, od, rfl, .inl ⟨inn (W x none), by rw [upd_ne hez, upd_ne heG.symm, upd_same], ?_⟩⟩
              have hlen : (inn (W x none)).length = (W x none).length := by simp
              refine for_it walk_keys (fun j σ' Hc => ∃ o, σ' = [some (.ref p), some v, some (.ref F), some (.ref G), o, none] ∧ SameX e H Hc ∧ Hc e = some (.frz od (.dK (inn (W x none)))) ∧ Hc F = some (.dK (inn (pushAll (st.1, st.2.dropLast) ((W x none).take j)).1)) ∧ Hc G = some (.lst ((pushAll (st.1, st.2.dropLast) ((W x none).take j)).2.map vN))) ⟨o, rfl, x1, by rw [upd_ne hez, upd_ne heG.symm, upd_same], ?_, ?_⟩ (fun _ _ _ _ ⟨_, _, _, q, _⟩ => q) ?_ fun σ' Hc ⟨o, e1, e2, e3, e4, e6⟩ => ⟨e3, o, e1, sameX_back e2 (fun u hu => by rw [hk3] at hu; exact (Option.some.inj hu).symm), ?_, ?_⟩
              · rw [upd_ne hFz, upd_ne hFG, upd_ne heF]; exact s4 _ _ hF3
              · rw [upd_ne hGz, upd_same, hmd]; rfl
              · rintro j y σ' Hx Hc hj ⟨o, rfl, e2, e3, e4, e6⟩ ⟨rfl, ky, vy, hy, rfl⟩
                rw [hlen] at hj
                simp only [inn, List.getElem?_map, List.getElem?_eq_getElem hj, Option.map_some] at hy
                cases hy
                have etake : (W x none).take (j + 1) = (W x none).take j ++ [(W x none)[j]] := by rw [List.take_succ_eq_append_getElem hj]
                have hs1 := hstep j
                generalize hst : pushAll (st.1, st.2.dropLast) ((W x none).take j) = su at e4 e6 hs1
                have hnext : pushAll (st.1, st.2.dropLast) ((W x none).take (j + 1)) = push1 su (W x none)[j] := by rw [etake, pushAll_snoc, hst]
                obtain ⟨j1, j2, j3, j4, j5⟩ := hs1
                have hsl : su.1.length ≤ n := nodup_lt j1 j2
                refine ⟨_, rfl, _, rfl, F, _, rfl, DGet.k (k := Sum.inl (((W x none)[j] : Nat) : Int)) e4, _, rfl, ?_⟩
                by_cases hm : (W x none)[j] ∈ su.1
                · rw [inn_get, if_pos hm]
                  have e7 : push1 su (W x none)[j] = su := by unfold push1; rw [if_pos hm]
                  refine iteF ⟨_, rfl, e2, e3, ?_, ?_⟩
                  · rw [hnext, e7]; exact e4
                  · rw [hnext, e7]; exact e6
                · rw [inn_get, if_neg hm]
                  have e7 : push1 su (W x none)[j] = (su.1 ++ [(W x none)[j]], su.2 ++ [(W x none)[j]]) := by unfold push1; rw [if_neg hm]
                  refine iteT ⟨_, rfl, _, rfl, F, _, rfl, DPut.k (k := Sum.inl (((W x none)[j] : Nat) : Int)) e4 (by rw [inn_len]; exact line9 (by omega)), ?_⟩
                  rw [inn_put hm]
                  have e8 : (upd Hc F (.dK (inn (su.1 ++ [(W x none)[j]])))) G = some (.lst (su.2.map vN)) := by rw [upd_ne hFG.symm]; exact e6
                  refine ⟨_, rfl, .inl ⟨rfl, _, SqL.of e8⟩, _, rfl, G, _, _, rfl, rfl, e8, by rw [List.length_map]; exact line9 (by omega), ?_⟩
                  refine ⟨_, rfl, sameX_upd (sameX_upd e2 hF0) hG0, ?_, ?_, ?_⟩
                  · rw [upd_ne heG.symm, upd_ne heF.symm]; exact e3
                  · rw [hnext, e7, upd_ne hFG, upd_same]
                  · rw [hnext, e7, upd_same, List.map_append]; rfl
              · rw [upd_ne heF, e4, e5, hlen, List.take_length]
              · rw [upd_ne heG, e6, e5, hlen, List.take_length]
          · rintro Ok σ3 H3 hi est ⟨o, rfl, s3, hF3, hG3⟩
            refine ⟨_, rfl, by show 0 ≤ sizeLine; exact line8 (by omega), fun E hE => ?_⟩
            have he : t.2 = [] := by
              unfold wlStep at est
              cases hl : t.2.getLast? with
              | none => exact List.getLast?_eq_none_iff.mp hl
              | some x => rw [hl] at est; cases est
            refine ne_nil_f (l := t.2) (by rw [upd_ne (ne_of_none hG3 hE)]; exact hG3) upd_same he ⟨_, rfl, iteF ?_⟩
            refine k _ _ ⟨t.1, o, rfl, s3.trans (same_new hE), by rw [upd_ne (ne_of_none hF3 hE)]; exact hF3, ?_, nodup_lt hi.1 hi.2.1⟩
            show srt t.1 = wl W S
            unfold wl
            rw [fin_eq r]
      · rcases hv with hv | ⟨d, rfl, hd⟩
        · obtain ⟨a, xs, rfl, ht, ha⟩ := dp_tup hv
          have e := dpAll_ints ha
          subst e
          refine .inl ⟨_, rfl, a, _, rfl, .inr (same_t s1 ht), fun G hG => k _ _ ⟨G, rfl, s1.trans (same_new hG), none_of s1 hG, by rw [upd_ne (ne_of_none hF hG)]; exact hF, upd_same⟩⟩
        · refine .inr ⟨_, rfl, d, _, rfl, s1 _ _ hd, fun G hG => k _ _ ⟨G, rfl, s1.trans (same_new hG), none_of s1 hG, by rw [upd_ne (ne_of_none hF hG)]; exact hF, ?_⟩⟩
          rw [upd_same, List.map_map]
          rfl
    · have hkey : ∀ i j, i < S.length → j < S.length → (Sum.inl ((S.getD i 0 : Nat) : Int) : Key) = Sum.inl ((S.getD j 0 : Nat) : Int) → i = j := fun i j hi hj e => by
        have e1 := Sum.inl.inj e
        have e2 : S[i] = S[j] := by
          have : S.getD i 0 = S.getD j 0 := by omega
          simpa [hi, hj] using this
        exact (List.getElem_inj hS).mp e2
      rcases hv with hv | ⟨d, rfl, hd⟩
      · obtain ⟨a, xs, rfl, ht, ha⟩ := dp_tup hv
        have e := dpAll_ints ha
        subst e
        refine .inl ⟨_, rfl, a, rfl, ⟨_, ht⟩, fun D hD => ?_⟩
        have hl : (S.map vN).length = S.length := by simp
        refine dc_gen (kx := 5) walk_tup (fun j => Sum.inl ((S.getD j 0 : Nat) : Int)) (fun _ y _ => y = V.bl true) (fun _ _ _ _ _ h => h) (by rw [hl]; exact line8 (by omega)) (fun i j hi hj => hkey i j (by omega) (by omega)) hD (fun H s => same_t s ht) (fun x => rfl) (fun i x H H' Q hi s y k => ?_) fun H1 ys s1 e1 l1 r1 => k _ _ ⟨D, rfl, s1, hD, by rw [e1, inn_of (S := S) (by omega) r1]⟩
        obtain ⟨rfl, hx⟩ := y
        rw [hl] at hi
        rw [List.getElem?_map, List.getElem?_eq_getElem hi] at hx
        cases hx
        refine ⟨?_, k _ _ (Same.refl _) rfl⟩
        simp [hi]
        rfl
      · refine .inr ⟨d, _, hd, trivial, fun od => ⟨_, rfl, d, od, rfl, .inl ⟨_, upd_same, fun D hD => ?_⟩⟩⟩
        have hDd : D ≠ d := fun z => by rw [z, upd_same] at hD; cases hD
        have hl : (inn S).length = S.length := by simp
        refine dc_gen (kx := 5) walk_keys (fun j => Sum.inl ((S.getD j 0 : Nat) : Int)) (fun _ y _ => y = V.bl true) (fun _ _ _ _ _ h => h) (by rw [hl]; exact line8 (by omega)) (fun i j hi hj => hkey i j (by omega) (by omega)) hD (fun H s => s _ _ upd_same) (fun x => rfl) (fun i x H H' Q hi s y k => ?_) fun H1 ys s1 e1 l1 r1 => ⟨s1 _ _ upd_same, k _ _ ⟨D, rfl, same_lock hd s1, by rw [upd_ne hDd] at hD; exact hD, by rw [upd_ne hDd, e1, inn_of (S := S) (by omega) r1]⟩⟩
        obtain ⟨rfl, kx, vx, hx, rfl⟩ := y
        rw [hl] at hi
        simp only [inn, List.getElem?_map, List.getElem?_eq_getElem hi, Option.map_some] at hx
        cases hx
        refine ⟨?_, k _ _ (Same.refl _) rfl⟩
        simp [hi]
        rfl
end
end An
end
section
set_option Elab.async false
set_option maxRecDepth 100000
set_option maxHeartbeats 4000000
set_option linter.all false
namespace An
open PySem L2
theorem inn_merge : ∀ (os f : List Nat), mergeK (inn f) (inn os) = inn (mrg f os)
  | [], f => rfl
  | o :: os, f => by
    have e : mergeK (inn f) (inn (o :: os)) = mergeK (putK (inn f) (Sum.inl (o : Int)) (V.bl true)) (inn os) := rfl
    have e2 : mrg f (o :: os) = mrg (addK f o) os := rfl
    rw [e, e2]
    by_cases h : o ∈ f
    · rw [addK_in h]
      have : putK (inn f) (Sum.inl (o : Int)) (V.bl true) = inn f := by
        unfold putK
        have ha : ((inn f).any fun kv => decide (kv.1 = Sum.inl (o : Int))) = true := by
          rw [List.any_eq_true]
          exact ⟨(Sum.inl (o : Int), V.bl true), List.mem_map.mpr ⟨o, h, rfl⟩, by simp⟩
        rw [if_pos ha]
        unfold inn
        rw [List.map_map]
        refine List.map_congr_left fun a _ => ?_
        simp only [Function.comp]
        split <;> rfl
      rw [this]
      exact inn_merge os f
    · rw [addK_out h, inn_put h]
      exact inn_merge os (f ++ [o])
section
variable {P : Program} {w : World} {K : PySem.W.Frag} {mg : Str → Option Value} {base : Heap}
def sp_by_letter (K : PySem.W.Frag) (C : Addr) : Sp := fun vs H Q _ => ∃ (p : Addr) (n : Nat) (W : Net) (L : List Nat) (H0 : Hp) (S : List Nat) (v : V) (c : Nat), vs = [.ref p, v, .str (tx [c])] ∧ NetAt K C L H0 H p n W ∧ NetOk n W ∧ n ≤ 60 ∧ L.length ≤ 100 ∧ S.length ≤ n ∧ (∀ x ∈ S, x < n) ∧ Dp K H v (rowD S) ∧
  ∀ H' r, Same H H' → H' r = some (.tup ((byLetter W S (some c)).map vN)) → Q (.ref r) H'
theorem sc_Net_by_letter : FnScope ["self", "stands", "sign", "found", "stand"] ["self", "stands", "sign"] (defScope s_Net_by_letter) := ⟨rfl, rfl, rfl, by decide +kernel, rfl, by decide +kernel, by decide +kernel⟩
theorem ok_by_letter (T : Tx K mg) : FnOk P w K mg base CX0 2 T.by_letter.f T.by_letter.fd ["self", "stands", "sign"] (sp_by_letter K T.C) := by
  have sc := sc_Net_by_letter
  refine T.by_letter.F.ok sc (fun vs H Q E h => ?_) (fun cdv A outer s H vs Q E hr h => ?_)
  · obtain ⟨_, _, _, _, _, _, _, _, rfl, _⟩ := h; rfl
  · obtain ⟨p, n, W, L, H0, S, v, c, rfl, hN, hW, hn, hL, hSl, hb, hv, q⟩ := h
    refine ⟨_, (pss_cons (ps_set (i := 3) sc.nd rfl (Or.inl rfl) pe_dnewK)
      (pss_cons (ps_for PassesOwn.never rfl (pi_tup (pv 1)) (pg_name (i := 4) (x := "stand") sc.nd rfl (Or.inl rfl))
        (pss_one (ps_expr (pe_bm PySem.F.plainAttrs_dict PySem.F.slot_dict_update PySem.F.type_dict_update mt_dupdate (pv 3) (pa_cons (pe_dget2 (hu_of hr) (pe_ix ix_list (pe_fld (pv 0) rfl) (pv 4) (fun _ _ => rfl)) (pv 2) pe_dnewK ⟨rfl, rfl, rfl, rfl⟩) pa_nil)))))
      (pss_one (ps_ret (pe_meth (pv 0) T.cl T.without_letters.m (ok_without_letters T) (hr.mono (by decide)) T.without_letters.b .nil pass0 (pa_cons (pv 3) pa_nil)))))), ?_⟩
    intro F hF
    have s1 : Same H (upd H F (.dK [])) := same_new hF
    obtain ⟨a, xs, rfl, ht, ha⟩ := dp_tup hv
    have e := dpAll_ints ha
    subst e
    obtain ⟨dx, wl, ds, ow, h⟩ := hN
    have hl : (S.map vN).length = S.length := by simp
    have hkeys : ∀ j, (S.take j).foldl (fun f x => mrg f (W x (some c))) [] = byKeys W (S.take j) (some c) := fun _ => rfl
    have hok : ∀ j, (byKeys W (S.take j) (some c)).Nodup ∧ ∀ x ∈ byKeys W (S.take j) (some c), x < n := fun j => byKeys_ok hW (f := []) (by simp) (by simp)
    refine ⟨_, rfl, a, rfl, ⟨_, same_t s1 ht⟩, ?_⟩
    refine for_it walk_tup (fun j σ' Hc => ∃ o, σ' = [some (.ref p), some (.ref a), some (.str (tx [c])), some (.ref F), o] ∧ Same H Hc ∧ Hc F = some (.dK (inn (byKeys W (S.take j) (some c))))) ⟨none, rfl, s1, upd_same⟩ (fun _ _ _ _ ⟨_, _, s, _⟩ => same_t s ht) ?_ ?_
    · rintro j y σ' Hx Hc hj ⟨o, rfl, s2, e2⟩ ⟨rfl, hy⟩
      rw [hl] at hj
      rw [List.getElem?_map, List.getElem?_eq_getElem hj] at hy
      cases hy
      have hxn : S[j] < n := hb _ (List.getElem_mem hj)
      have hil : S[j] < ds.length := by rw [h.ln]; exact hxn
      have hdi : ds[S[j]]? = some ds[S[j]] := List.getElem?_eq_getElem hil
      obtain ⟨hod, kvs, hkd, hk⟩ := h.d S[j] _ hdi
      have etake : S.take (j + 1) = S.take j ++ [S[j]] := by rw [List.take_succ_eq_append_getElem hj]
      have enext : byKeys W (S.take (j + 1)) (some c) = mrg (byKeys W (S.take j) (some c)) (W S[j] (some c)) := by
        rw [etake]; unfold byKeys; rw [List.foldl_append]; rfl
      have hlen : (byKeys W (S.take j) (some c)).length ≤ n := nodup_lt (hok j).1 (hok j).2
      have hlen2 : (W S[j] (some c)).length ≤ n := nodup_lt (hW S[j] (some c)).1 (hW S[j] (some c)).2.1
      refine ⟨_, rfl, .inr (.inr (.inl ⟨rfl, .inl ⟨_, e2⟩⟩)), _, rfl, p, T.C, dx, _, .ref wl, rfl, s2 _ _ h.hp, T.cl, T.nW, rfl, _, rfl, wl, _, S[j], .ref ds[S[j]], rfl, rfl, SqL.of (s2 _ _ h.hw), atI_nat (by rw [List.getElem?_map, hdi]; rfl), ds[S[j]], rfl, .inl ⟨kvs, .inl (s2 _ _ hkd)⟩, _, rfl, fun z hz => ?_⟩
      have hFz : F ≠ z := ne_of_none e2 hz
      rcases hk.2.2 (some c) with ⟨hk1, hk2⟩ | ⟨e, hk1, hk2, hk3⟩
      · refine ⟨none, dget_kk (s := some c) ((same_new hz) _ _ (s2 _ _ hkd)) hk1, F, z, inn (byKeys W (S.take j) (some c)), inn [], rfl, rfl, by rw [upd_ne hFz]; exact e2, .inl upd_same, hFz, by rw [inn_len]; exact line8 (by simp; omega), _, rfl, same_upd (s2.trans (same_new hz)) hF, ?_⟩
        rw [upd_same, inn_merge, enext, hk2]
      · have heF : F ≠ e := (ne_of_none hk3 hF).symm
        refine ⟨some (.ref e), dget_kk (s := some c) ((same_new hz) _ _ (s2 _ _ hkd)) hk1, F, e, inn (byKeys W (S.take j) (some c)), inn (W S[j] (some c)), rfl, rfl, by rw [upd_ne hFz]; exact e2, .inl ((same_new hz) _ _ (s2 _ _ hk3)), heF, by rw [inn_len, inn_len]; exact line8 (by omega), _, rfl, same_upd (s2.trans (same_new hz)) hF, ?_⟩
        rw [upd_same, inn_merge, enext]
    · rintro σ' Hc ⟨o, rfl, s2, e2⟩
      rw [hl, List.take_length] at e2
      have hok2 := hok S.length
      rw [List.take_length] at hok2
      refine ⟨_, rfl, p, dx, _, rfl, s2 _ _ h.hp, rfl, _, rfl, p, n, W, L, H0, byKeys W S (some c), .ref F, rfl, ⟨dx, wl, ds, ow, netP_same s2 h⟩, hW, hn, hL, hok2.1, hok2.2, .inr ⟨F, rfl, e2⟩, fun H' r s3 dr => q H' r (s2.trans s3) dr⟩
def sp_by_text (K : PySem.W.Frag) (C : Addr) : Sp := fun vs H Q _ => ∃ (p : Addr) (n : Nat) (W : Net) (L : List Nat) (H0 : Hp) (x : Nat) (cs : List Nat), vs = [.ref p, vN x, .str (tx cs)] ∧ NetAt K C L H0 H p n W ∧ NetOk n W ∧ n ≤ 60 ∧ L.length ≤ 100 ∧ x < n ∧
  ∀ H' r, Same H H' → Dp K H' r (rowD (byText W x cs)) → Q r H'
theorem sc_Net_by_text : FnScope ["self", "stand", "text", "found", "sign"] ["self", "stand", "text"] (defScope s_Net_by_text) := ⟨rfl, rfl, rfl, by decide +kernel, rfl, by decide +kernel, by decide +kernel⟩
theorem ok_by_text (T : Tx K mg) : FnOk P w K mg base CX0 3 T.by_text.f T.by_text.fd ["self", "stand", "text"] (sp_by_text K T.C) := by
  have sc := sc_Net_by_text
  refine T.by_text.F.ok sc (fun vs H Q E h => ?_) (fun cdv A outer s H vs Q E hr h => ?_)
  · obtain ⟨_, _, _, _, _, _, _, rfl, _⟩ := h; rfl
  · obtain ⟨p, n, W, L, H0, x, cs, rfl, hN, hW, hn, hL, hx, q⟩ := h
    refine ⟨_, (pss_cons (ps_set (i := 3) sc.nd rfl (Or.inl rfl) (pe_meth (pv 0) T.cl T.without_letters.m (ok_without_letters T) (hr.mono (by decide)) T.without_letters.b .nil pass0 (pa_cons (pe_tup (pa_cons (pv 1) pa_nil)) pa_nil)))
      (pss_cons (ps_for PassesOwn.never rfl (pi_str (pv 2)) (pg_name (i := 4) (x := "sign") sc.nd rfl (Or.inl rfl))
        (pss_one (ps_set (i := 3) sc.nd rfl (Or.inl rfl) (pe_meth (pv 0) T.cl T.by_letter.m (ok_by_letter T) (hr.mono (by decide)) T.by_letter.b .nil pass0 (pa_cons (pv 3) (pa_cons (pv 4) pa_nil))))))
      (pss_one (ps_ret (pv 3))))), ?_⟩
    obtain ⟨dx, wl, ds, ow, h⟩ := hN
    refine ⟨_, rfl, p, dx, _, rfl, h.hp, rfl, _, rfl, by show 1 ≤ sizeLine; exact line8 (by omega), fun t ht => ?_⟩
    have s1 := same_new (o := .tup [vN x]) ht
    refine ⟨p, n, W, L, H0, [x], .ref t, rfl, ⟨dx, wl, ds, ow, netP_same s1 h⟩, hW, hn, hL, by simp, by simpa using hx, .inl (.tup (SqT.of upd_same) (ints_dpAll [x])), fun H1 r1 s2 d2 => ?_⟩
    refine ⟨_, rfl, _, rfl, ?_⟩
    refine for_it walk_str (fun j σ' Hc => ∃ o r, σ' = [some (.ref p), some (vN x), some (.str (tx cs)), some r, o] ∧ Same H Hc ∧ Dp K Hc r (rowD (byText W x (cs.take j)))) ⟨none, .ref r1, rfl, s1.trans s2, .tup (SqT.of d2) (ints_dpAll _)⟩ (fun _ _ _ _ _ => trivial) ?_ ?_
    · rintro j y σ' Hx Hc hj ⟨o, r, rfl, s3, d3⟩ ⟨rfl, c, hc, rfl⟩
      have hc2 := tx_get hc
      have hjl : j < cs.length := by simpa [tx_size] using hj
      have etake : cs.take (j + 1) = cs.take j ++ [c] := by
        rw [List.take_succ_eq_append_getElem hjl]
        rw [List.getElem?_eq_getElem hjl] at hc2
        rw [Option.some.inj hc2]
      have enext : byText W x (cs.take (j + 1)) = byLetter W (byText W x (cs.take j)) (some c) := by
        rw [etake]; unfold byText; rw [List.foldl_append]; rfl
      have ha := byText_asc hW hx (cs.take j)
      refine ⟨_, rfl, p, dx, _, rfl, s3 _ _ h.hp, rfl, _, rfl, _, rfl, p, n, W, L, H0, byText W x (cs.take j), r, c, rfl, ⟨dx, wl, ds, ow, netP_same s3 h⟩, hW, hn, hL, ha.len, ha.2, d3, fun H' r' s4 d4 => ⟨_, .ref r', rfl, s3.trans s4, ?_⟩⟩
      rw [enext]
      exact .tup (SqT.of d4) (ints_dpAll _)
    · rintro σ' Hc ⟨o, r, rfl, s3, d3⟩
      rw [tx_size, List.take_length] at d3
      exact ⟨_, rfl, q _ _ s3 d3⟩
end
end An
end
section
set_option Elab.async false
set_option linter.all false
/-! The filling of a net ends. -/
namespace An
theorem foldl_inv {α β : Type} {f : α → β → α} (P : α → Prop) : ∀ (l : List β) (a : α), P a → (∀ a x, x ∈ l → P a → P (f a x)) → P (l.foldl f a)
  | [], a, h, _ => h
  | x :: l, a, h, hs => foldl_inv P l (f a x) (hs a x (by simp) h) fun a y hy => hs a y (by simp [hy])
theorem countP_lt {α : Type} {p q : α → Bool} : ∀ {l : List α}, (∀ x ∈ l, p x = true → q x = true) → (∃ x ∈ l, q x = true ∧ p x = false) → l.countP p < l.countP q
  | [], _, ⟨x, hx, _⟩ => by cases hx
  | a :: l, h, ⟨x, hx, h1, h2⟩ => by
    have hle : l.countP p ≤ l.countP q := List.countP_mono_left fun y hy => h y (by simp [hy])
    rw [List.countP_cons, List.countP_cons]
    rcases List.mem_cons.mp hx with rfl | hx
    · rw [h1, h2]; simp; omega
    · have ih := countP_lt (l := l) (fun y hy => h y (by simp [hy])) ⟨x, hx, h1, h2⟩
      have := h a (by simp)
      by_cases hp : p a = true
      · rw [hp, this hp]; simp; omega
      · simp [hp]
        split <;> omega
/-- all ways that may be put in -/
def allWays (n : Nat) (sg : List (Option Nat)) : List (Nat × Option Nat × Nat) := (List.range n).flatMap fun i => sg.flatMap fun s => (List.range n).map fun j => (i, s, j)
theorem mem_allWays {n : Nat} {sg : List (Option Nat)} {i j : Nat} {s : Option Nat} (hi : i < n) (hj : j < n) (hs : s ∈ sg) : (i, s, j) ∈ allWays n sg := by
  unfold allWays
  rw [List.mem_flatMap]
  refine ⟨i, by simpa using hi, ?_⟩
  rw [List.mem_flatMap]
  exact ⟨s, hs, List.mem_map.mpr ⟨j, by simpa using hj, rfl⟩⟩
def lack (n : Nat) (sg : List (Option Nat)) (W : Net) : Nat := (allWays n sg).countP fun t => decide (t.2.2 ∉ W t.1 t.2.1)
def Sub (W V : Net) : Prop := ∀ i s x, x ∈ W i s → x ∈ V i s
theorem sub_addB {st : Net × Bool} {i j : Nat} {s : Option Nat} : Sub st.1 (addB st i s j).1 := fun i' s' x hx => by
  unfold addB
  split
  · exact hx
  · show x ∈ addW st.1 i s j i' s'
    unfold addW
    split
    · rename_i e
      obtain ⟨rfl, rfl⟩ := e
      exact List.mem_append_left _ hx
    · exact hx
theorem lack_le {n : Nat} {sg : List (Option Nat)} {W V : Net} (h : Sub W V) : lack n sg V ≤ lack n sg W := by
  unfold lack
  refine List.countP_mono_left fun t _ ht => ?_
  simp only [decide_eq_true_eq] at ht ⊢
  exact fun z => ht (h _ _ _ z)
theorem lack_addB {n : Nat} {sg : List (Option Nat)} {st : Net × Bool} {i j : Nat} {s : Option Nat} (hi : i < n) (hj : j < n) (hs : s ∈ sg) (hn : ¬ j ∈ st.1 i s) : lack n sg (addB st i s j).1 < lack n sg st.1 := by
  unfold lack
  refine countP_lt (fun t _ ht => ?_) ⟨(i, s, j), mem_allWays hi hj hs, by simpa using hn, ?_⟩
  · simp only [decide_eq_true_eq] at ht ⊢
    exact fun z => ht (sub_addB _ _ _ z)
  · unfold addB
    rw [if_neg hn]
    simp [addW]
/-- what holds while a turn runs from V on -/
structure TurnI (n : Nat) (sg : List (Option Nat)) (V : Net) (st : Net × Bool) : Prop where
  ok : NetOk n st.1
  sub : Sub V st.1
  new : st.2 = true → lack n sg st.1 < lack n sg V
theorem TurnI.add {n : Nat} {sg : List (Option Nat)} {V : Net} {st : Net × Bool} (h : TurnI n sg V st) {i j : Nat} {s : Option Nat} (hi : i < n) (hj : j < n) (hs : s ∈ sg) : TurnI n sg V (addB st i s j) := by
  refine ⟨addB_ok h.ok hi hj, fun i s x hx => sub_addB i s x (h.sub i s x hx), fun hb => ?_⟩
  by_cases hn : j ∈ st.1 i s
  · have e : addB st i s j = st := by unfold addB; rw [if_pos hn]
    rw [e] at hb ⊢
    exact h.new hb
  · exact Nat.lt_of_lt_of_le (lack_addB hi hj hs hn) (lack_le h.sub)
noncomputable def rowK (st : Net × Bool) (k : List Nat × Option Nat) (x : Nat) : Net × Bool := (byText st.1 x k.1).foldl (fun st y => addB st x k.2 y) st
noncomputable def kindK (n : Nat) (st : Net × Bool) (k : List Nat × Option Nat) : Net × Bool := (List.range n).foldl (fun st x => rowK st k x) st
theorem turnK_eq (n : Nat) (kinds : List (List Nat × Option Nat)) (W : Net) : turnK n kinds W = kinds.foldl (fun st k => kindK n st k) (W, false) := rfl
theorem TurnI.row {n : Nat} {sg : List (Option Nat)} {V : Net} {st : Net × Bool} (h : TurnI n sg V st) {k : List Nat × Option Nat} {x : Nat} (hx : x < n) (hs : k.2 ∈ sg) : TurnI n sg V (rowK st k x) :=
  foldl_inv (TurnI n sg V) _ _ h fun a y hy ha => ha.add hx ((byText_asc h.ok hx k.1).2 y hy) hs
theorem TurnI.kind {n : Nat} {sg : List (Option Nat)} {V : Net} {st : Net × Bool} (h : TurnI n sg V st) {k : List Nat × Option Nat} (hs : k.2 ∈ sg) : TurnI n sg V (kindK n st k) :=
  foldl_inv (TurnI n sg V) _ _ h fun a x hx ha => ha.row (by simpa using hx) hs
theorem turnI_0 {n : Nat} {sg : List (Option Nat)} {V : Net} (h : NetOk n V) : TurnI n sg V (V, false) := ⟨h, fun _ _ _ h => h, fun h => by cases h⟩
theorem turnK_ok {n : Nat} {sg : List (Option Nat)} {kinds : List (List Nat × Option Nat)} {V : Net} (h : NetOk n V) (hs : ∀ k ∈ kinds, k.2 ∈ sg) : TurnI n sg V (turnK n kinds V) := by
  rw [turnK_eq]
  exact foldl_inv (TurnI n sg V) _ _ (turnI_0 h) fun a k hk ha => ha.kind (hs k hk)
theorem filled_runs {n : Nat} {kinds : List (List Nat × Option Nat)} {V : Net} (h : NetOk n V) : ∃ m t, Runs (fillStep n kinds) (fun st => NetOk n st.1) m (V, true) t := by
  let sg := kinds.map (·.2)
  have hs : ∀ k ∈ kinds, k.2 ∈ sg := fun k hk => List.mem_map.mpr ⟨k, hk, rfl⟩
  refine runs_of (fun st => 2 * lack n sg st.1 + if st.2 = true then 1 else 0) (fun st st' hi e => ?_) (V, true) h
  unfold fillStep at e
  by_cases hb : st.2 = true
  · rw [if_pos hb] at e
    have e := (Option.some.inj e).symm
    subst e
    have q := turnK_ok (sg := sg) hi hs
    refine ⟨q.ok, ?_⟩
    rw [if_pos hb]
    by_cases hb2 : (turnK n kinds st.1).2 = true
    · have := q.new hb2
      rw [if_pos hb2]
      omega
    · have := lack_le (n := n) (sg := sg) q.sub
      rw [if_neg hb2]
      omega
  · rw [if_neg hb] at e
    cases e
theorem filled_ok {n : Nat} {L : List Nat} {rows : List (List Nat)} {kinds : List (List Nat × Option Nat)} (hl : rows.length = n) (hr : ∀ r ∈ rows, ∀ x ∈ r, x < n) : NetOk n (filled L rows kinds) := by
  subst hl
  obtain ⟨m, t, r⟩ := filled_runs (kinds := kinds) (netOf_ok (L := L) rfl hr)
  unfold filled
  rw [fin_eq r]
  exact r.last.1
end An
end
section
set_option Elab.async false
set_option maxRecDepth 100000
set_option maxHeartbeats 4000000
set_option linter.all false
/-! net_of, ends_of, filled. -/
namespace An
open PySem L2
theorem dc_it {J : It} {n : Nat} {G : Hp → Prop} {Y : Nat → Hp → V → Hp → Prop} (w : Walk J n G Y) {g : TG} {tt : TT} {tk tv : TE} {vs : List Nat} {σ : L2.St} {H1 : Hp} {D : Addr} {Qd : Hp → Prop} (Pv : Nat → Hp → Prop) (h0 : Pv 0 (upd H1 D (.dK []))) (hG : ∀ i H, i ≤ n → Pv i H → G H)
    (hs : ∀ i x H H', i < n → Pv i H → Y i H x H' → g x (wipe σ vs) H' fun σ2 H2 => wipe σ2 vs = wipe σ vs ∧ tt σ2 H2 fun b H3 =>
      if b = true then tk σ2 H3 fun y H4 => tv σ2 H4 fun z H5 => ∃ kvs k, y = kV k ∧ H5 D = some (.dK kvs) ∧ kvs.length < sizeLine ∧ Pv (i + 1) (upd H5 D (.dK (putK kvs k z))) else Pv (i + 1) H3) (hd : ∀ H, Pv n H → Qd H) :
    ∃ W : Nat → Nat → Hp → Prop, (∃ m, W 0 m (upd H1 D (.dK []))) ∧ ∀ i m H, W i m H →
      (J.stop i H ∧ Qd H) ∨ (J.go i H ∧ ∃ Nx : Hp → Prop, (∀ H', Nx H' → ∃ m', m' < m ∧ W (i + 1) m' H') ∧ ∀ x H', J.yld i H x H' → g x (wipe σ vs) H' fun σ2 H2 => wipe σ2 vs = wipe σ vs ∧ tt σ2 H2 fun b H3 =>
        if b = true then tk σ2 H3 fun y H4 => tv σ2 H4 fun z H5 => ∃ kvs k, y = kV k ∧ H5 D = some (.dK kvs) ∧ kvs.length < sizeLine ∧ Nx (upd H5 D (.dK (putK kvs k z))) else Nx H3) := by
  refine ⟨fun i m H => m + i = n ∧ Pv i H, ⟨n, rfl, h0⟩, fun i m H ⟨e, p⟩ => ?_⟩
  have q := hG i H (by omega) p
  by_cases hlt : i < n
  · exact .inr ⟨w.goes i H hlt q, Pv (i + 1), fun H' p' => ⟨n - (i + 1), by omega, by omega, p'⟩, fun x H' y => hs i x H H' hlt p (w.yields i H x H' hlt q y)⟩
  · have e2 : i = n := by omega
    subst e2
    exact .inl ⟨w.stops H q, hd H p⟩
/-- the places of yes below j -/
def endsTo (ys : List Bool) (j : Nat) : List Nat := (List.range j).filter fun i => ys.getD i false
def endsL (ys : List Bool) : List Nat := endsTo ys ys.length
theorem endsTo_succ (ys : List Bool) (j : Nat) : endsTo ys (j + 1) = endsTo ys j ++ if ys.getD j false = true then [j] else [] := by
  unfold endsTo
  rw [List.range_succ, List.filter_append]
  congr 1
  by_cases h : ys.getD j false = true
  · rw [if_pos h]; simp only [List.filter_cons, h, List.filter_nil, if_true]
  · rw [if_neg h]; simp only [List.filter_cons, List.filter_nil]; rw [if_neg h]
theorem endsTo_lt {ys : List Bool} {j x : Nat} (h : x ∈ endsTo ys j) : x < j := by
  unfold endsTo at h
  simpa using (List.mem_filter.mp h).1
theorem endsTo_len (ys : List Bool) (j : Nat) : (endsTo ys j).length ≤ j := by
  unfold endsTo
  have := List.length_filter_le (fun i => ys.getD i false) (List.range j)
  simpa using this
/-- a row's ways put in -/
def rowW (L : List Nat) (W : Net) (p : List Nat × Nat) : Net := (L.zip p.1).foldl (fun W q => (addB (W, false) p.2 (some q.1) q.2).1) W
theorem netOf_eq (L : List Nat) (rows : List (List Nat)) : netOf L rows = rows.zipIdx.foldl (rowW L) fun _ _ => [] := rfl
theorem addS_ok {n : Nat} {W : Net} {i : Nat} (hi : i < n) {qs : List (Nat × Nat)} (hq : ∀ q ∈ qs, q.2 < n) (h : NetOk n W) : NetOk n (qs.foldl (fun W q => (addB (W, false) i (some q.1) q.2).1) W) :=
  foldl_inv (NetOk n) _ _ h fun a q hq2 ha => addB_ok (st := (a, false)) ha hi (hq q hq2)
theorem zip_lt {n : Nat} {L r : List Nat} (h : ∀ x ∈ r, x < n) : ∀ q ∈ L.zip r, q.2 < n := fun q hq => h _ (List.of_mem_zip hq).2
theorem rowW_ok {n : Nat} {L : List Nat} {W : Net} {p : List Nat × Nat} (hi : p.2 < n) (hr : ∀ x ∈ p.1, x < n) (h : NetOk n W) : NetOk n (rowW L W p) := addS_ok hi (zip_lt hr) h
theorem net0_ok (n : Nat) : NetOk n fun _ _ => [] := fun i s => ⟨by simp, by simp, fun _ => rfl⟩
theorem rowsTo_ok {n : Nat} {L : List Nat} {rows : List (List Nat)} (hl : rows.length = n) (hr : ∀ r ∈ rows, ∀ x ∈ r, x < n) (j : Nat) : NetOk n ((rows.zipIdx.take j).foldl (rowW L) fun _ _ => []) :=
  foldl_inv (NetOk n) _ _ (net0_ok n) fun a p hp ha => by
    have h1 := List.mem_zipIdx (List.mem_of_mem_take hp)
    refine rowW_ok (by omega) (hr p.1 ?_) ha
    rw [h1.2.2]
    exact List.getElem_mem _
theorem take_fold {α β : Type} {f : α → β → α} {a : α} {l : List β} {j : Nat} {x : β} (h : l[j]? = some x) : (l.take (j + 1)).foldl f a = f ((l.take j).foldl f a) x := by
  have hj := (List.getElem?_eq_some_iff.mp h).1
  rw [List.take_succ_eq_append_getElem hj, List.foldl_append]
  rw [List.getElem?_eq_getElem hj] at h
  rw [Option.some.inj h]
  rfl
section
variable {P : Program} {w : World} {K : PySem.W.Frag} {mg : Str → Option Value} {base : Heap}
def sp_ends_of (K : PySem.W.Frag) : Sp := fun vs H Q _ => ∃ (R : Rd3) (v : V), vs = [v] ∧ Dp K H v (rdD R) ∧ R.2.2.length ≤ 1000 ∧ ∀ H' d, Same H H' → H' d = some (.dK (inn (endsL R.2.2))) → Q (.ref d) H'
theorem sc_ends_of : FnScope ["reader", "stand", "one"] ["reader"] (defScope s_ends_of) := ⟨rfl, rfl, rfl, by decide +kernel, rfl, by decide +kernel, by decide +kernel⟩
theorem ok_ends_of (T : Tx K mg) : FnOk P w K mg base CX0 1 T.ends_of.f T.ends_of.fd ["reader"] (sp_ends_of K) := by
  have sc := sc_ends_of
  refine T.ends_of.F.ok sc (fun vs H Q E h => ?_) (fun cdv A outer s H vs Q E hr h => ?_)
  · obtain ⟨_, _, rfl, _⟩ := h; rfl
  · obtain ⟨R, v, rfl, hv, hl, q⟩ := h
    refine ⟨_, (pss_one (ps_ret (pe_dc (own := [("stand", 1), ("one", 2)]) (g := gTup K 2 (gCons (gName 1) (gCons (gName 2) gNil))) rfl sc.nd (pi_enumT rfl T.b_enumerate (pa_cons (pe_ix ix_D (pv 0) pe_int (fun _ _ => rfl)) pa_nil)) (blkOk_by (N := ["reader", "stand", "one"]) (sc := defScope s_ends_of) (by decide +kernel)) (fun _ _ _ _ _ => (pg_tup rfl (pgs_cons (pg_name (i := 1) (x := "stand") sc.nd rfl (Or.inl rfl) (hf := Or.inr rfl)) (pgs_cons (pg_name (i := 2) (x := "one") sc.nd rfl (Or.inl rfl) (hf := Or.inr rfl)) pgs_nil)))) (fun _ _ _ _ _ => (pts_one (pt_val (pv 2)))) (fun _ _ _ _ _ => (pv 1)) (fun _ _ _ _ _ => pe_bl)))), ?_⟩
    refine ⟨_, rfl, [tD R.1, rowsD R.2.1, yesD R.2.2], 2, _, hv, rfl, rfl, fun z hz => ?_⟩
    obtain ⟨a, xs, rfl, ht, ha⟩ := dp_tup hz
    have e := dpAll_bools ha
    subst e
    have hlen : (R.2.2.map V.bl).length = R.2.2.length := by simp
    refine ⟨a, _, rfl, ht, fun D hD => ?_⟩
    refine dc_it walk_enumT (fun j Hc => Same H Hc ∧ Hc D = some (.dK (inn (endsTo R.2.2 j)))) ⟨same_new hD, upd_same⟩ (fun _ _ _ ⟨s, _⟩ => same_t s ht) ?_ ?_
    · rintro j y Hx Hc hj ⟨s1, e1⟩ ⟨t, x', y', rfl, ht2, rfl, h1, h2⟩
      rw [hlen] at hj
      have h2 : (R.2.2.map V.bl)[j]? = some y' := h2
      rw [List.getElem?_map, List.getElem?_eq_getElem hj] at h2
      cases h1
      cases h2
      have s2 : Same H (upd Hx t (.tup [V.int (j : Int), V.bl R.2.2[j]])) := s1.trans (same_new ht2)
      have hDt : D ≠ t := ne_of_none e1 ht2
      refine ⟨t, _, rfl, SqT.of upd_same, rfl, _, _, rfl, _, _, rfl, rfl, rfl, ?_⟩
      refine ⟨_, rfl, _, rfl, ?_⟩
      have eg : R.2.2.getD j false = R.2.2[j] := by simp [hj]
      cases hb : R.2.2[j] with
      | true =>
        refine iteT ⟨_, rfl, inn (endsTo R.2.2 j), Sum.inl (j : Int), rfl, by rw [upd_ne hDt]; exact e1, by rw [inn_len]; exact line9 (Nat.le_trans (endsTo_len _ _) (by omega)), ?_⟩
        rw [hb] at s2
        refine ⟨same_upd s2 hD, ?_⟩
        rw [upd_same, inn_put (fun z => Nat.lt_irrefl _ (endsTo_lt z)), endsTo_succ, if_pos (by rw [eg, hb])]
      | false =>
        rw [hb] at s2
        refine iteF ⟨s2, ?_⟩
        rw [upd_ne hDt, e1, endsTo_succ, if_neg (by rw [eg, hb]; decide), List.append_nil]
    · rintro Hc ⟨s1, e1⟩
      rw [hlen] at e1
      exact q _ _ s1 e1
def sp_net_of (K : PySem.W.Frag) (C : Addr) : Sp := fun vs H Q _ => ∃ (R : Rd3) (v : V), vs = [v] ∧ Dp K H v (rdD R) ∧ RdOk R ∧ R.2.1.length ≤ 60 ∧ ∀ H' p, Same H H' → NetAt K C R.1 H H' p R.2.1.length (netOf R.1 R.2.1) → Q (.ref p) H'
theorem sc_net_of : FnScope ["reader", "net", "stand", "line", "sign", "later"] ["reader"] (defScope s_net_of) := ⟨rfl, rfl, rfl, by decide +kernel, rfl, by decide +kernel, by decide +kernel⟩
theorem ok_net_of (T : Tx K mg) : FnOk P w K mg base CX0 3 T.net_of.f T.net_of.fd ["reader"] (sp_net_of K T.C) := by
  have sc := sc_net_of
  refine T.net_of.F.ok sc (fun vs H Q E h => ?_) (fun cdv A outer s H vs Q E hr h => ?_)
  · obtain ⟨_, _, rfl, _⟩ := h; rfl
  · obtain ⟨R, v, rfl, hv, hR, hn, q⟩ := h
    refine ⟨_, (pss_cons (ps_set (i := 1) sc.nd rfl (Or.inl rfl) (pe_make T.initM (ok_init T) (hr.mono (by decide)) rfl T.mgC T.initB .nil pass0 (pa_cons (pe_B (id := "len") call_lenDt T.b_len (pa_cons (pe_ix ix_D (pv 0) pe_int (fun _ _ => rfl)) pa_nil)) pa_nil)))
      (pss_cons (ps_for PassesOwn.never rfl (pi_enumT rfl T.b_enumerate (pa_cons (pe_ix ix_D (pv 0) pe_int (fun _ _ => rfl)) pa_nil)) (pg_tup rfl (pgs_cons (pg_name (i := 2) (x := "stand") sc.nd rfl (Or.inl rfl)) (pgs_cons (pg_name (i := 3) (x := "line") sc.nd rfl (Or.inl rfl)) pgs_nil)))
        (pss_one (ps_for PassesOwn.never rfl (pi_zipS rfl T.b_zip (pa_cons (pe_ix ix_D (pv 0) pe_int (fun _ _ => rfl)) (pa_cons (pv 3) pa_nil))) (pg_tup rfl (pgs_cons (pg_name (i := 4) (x := "sign") sc.nd rfl (Or.inl rfl)) (pgs_cons (pg_name (i := 5) (x := "later") sc.nd rfl (Or.inl rfl)) pgs_nil)))
          (pss_one (ps_expr (pe_meth (pv 1) T.cl T.add.m (ok_add T) (hr.mono (by decide)) T.add.b .nil pass0 (pa_cons (pv 2) (pa_cons (pv 4) (pa_cons (pv 5) pa_nil)))))))))
      (pss_one (ps_ret (pv 1))))), ?_⟩
    refine ⟨_, rfl, [tD R.1, rowsD R.2.1, yesD R.2.2], 1, _, hv, rfl, rfl, fun z hz => ?_⟩
    refine ⟨_, _, R.2.1.length, rfl, hz, by simp, fun p dx hp hdx hne => ?_⟩
    have s1 : Same H (upd (upd H dx (.own p)) p (.ins T.C dx [])) := same_upd (same_new hdx) hp
    refine ⟨p, dx, R.2.1.length, R.1, H, rfl, upd_same, by omega, s1, hp, fun H1 s2 hN1 => ⟨rfl, ?_⟩⟩
    refine ⟨_, rfl, [tD R.1, rowsD R.2.1, yesD R.2.2], 1, _, dp_same s2 _ _ hv, rfl, rfl, fun z hz => ?_⟩
    obtain ⟨a, xs, rfl, ht, ha⟩ := dp_tup hz
    have hlx := dpAll_len ha
    rw [List.length_map] at hlx
    have hLn : R.1.length ≤ 100 := Nat.le_trans hR.l.le (by decide)
    refine ⟨a, xs, rfl, ht, ?_⟩
    refine for_it walk_enumT (fun j σ' Hc => ∃ o2 o3 o4 o5, σ' = [some v, some (.ref p), o2, o3, o4, o5] ∧ Same H Hc ∧ Keep H1 Hc ∧ NetAt K T.C R.1 H Hc p R.2.1.length ((R.2.1.zipIdx.take j).foldl (rowW R.1) fun _ _ => [])) ⟨_, _, _, _, rfl, s2, Keep.refl _, hN1⟩ (fun _ _ _ _ ⟨_, _, _, _, _, _, k, _⟩ => keep_t k ht) ?_ ?_
    · rintro j y σ' Hx Hc hj ⟨o2, o3, o4, o5, rfl, s3, k3, hN3⟩ ⟨t, x', y', rfl, ht2, rfl, h1, h2⟩
      have h2 : xs[j]? = some y' := h2
      cases h1
      rw [hlx] at hj
      obtain ⟨y2, hy2, dy⟩ := dpAll_get (i := j) (d := rowD R.2.1[j]) ha (by simp [hj])
      rw [h2] at hy2
      cases hy2
      obtain ⟨b, ys, rfl, htb, hab⟩ := dp_tup dy
      have e := dpAll_ints hab
      subst e
      have hrr := hR.r R.2.1[j] (List.getElem_mem hj)
      have s4 := s3.trans (same_new (o := .tup [V.int (j : Int), V.ref b]) ht2)
      have k4 := k3.trans (keep_of (same_new (o := .tup [V.int (j : Int), V.ref b]) ht2))
      have hN4 := netAt_same (same_new (o := .tup [V.int (j : Int), V.ref b]) ht2) hN3
      have hzi : R.2.1.zipIdx[j]? = some (R.2.1[j], j) := by simp [hj]
      refine ⟨t, _, rfl, SqT.of upd_same, rfl, _, _, rfl, _, _, rfl, rfl, ?_⟩
      refine ⟨_, rfl, [tD R.1, rowsD R.2.1, yesD R.2.2], 0, _, dp_same s4 _ _ hv, rfl, rfl, fun z hz => ?_⟩
      cases dp_str hz
      refine ⟨_, rfl, .txt (tx R.1), .tup b, _, _, rfl, rfl, keep_t k4 htb, ?_⟩
      have hzl : (R.1.zip R.2.1[j]).length = min (List.map (fun c => V.str ⟨#[c]⟩) (tx R.1).cps.toList).length (R.2.1[j].map vN).length := by simp [tx_list]
      have hbase := rowsTo_ok (L := R.1) rfl (fun r hr => (hR.r r hr).2) j
      refine for_it (walk_zipS (n := (R.1.zip R.2.1[j]).length) hzl) (fun i σ' Hc => ∃ o4 o5, σ' = [some v, some (.ref p), some (vN j), some (.ref b), o4, o5] ∧ Same H Hc ∧ Keep H1 Hc ∧ NetAt K T.C R.1 H Hc p R.2.1.length (((R.1.zip R.2.1[j]).take i).foldl (fun W q => (addB (W, false) j (some q.1) q.2).1) ((R.2.1.zipIdx.take j).foldl (rowW R.1) fun _ _ => []))) ⟨_, _, rfl, s4, k4, hN4⟩ (fun _ _ _ _ ⟨_, _, _, _, k, _⟩ => ⟨rfl, keep_t k htb⟩) ?_ ?_
      · rintro i y σ' Hx Hc hi ⟨o4, o5, rfl, s5, k5, hN5⟩ ⟨t2, x', y', rfl, ht3, rfl, h1, h2⟩
        have h1 : ((tx R.1).cps.toList.map fun c => V.str ⟨#[c]⟩)[i]? = some x' := h1
        have h2 : (R.2.1[j].map vN)[i]? = some y' := h2
        rw [tx_list, List.getElem?_map] at h1
        rw [List.getElem?_map] at h2
        cases hc : R.1[i]? with
        | none => rw [hc] at h1; cases h1
        | some c =>
          cases hm : R.2.1[j][i]? with
          | none => rw [hm] at h2; cases h2
          | some m =>
            rw [hc] at h1
            rw [hm] at h2
            cases h1
            cases h2
            have hqi : (R.1.zip R.2.1[j])[i]? = some (c, m) := by rw [List.getElem?_zip_eq_some]; exact ⟨hc, hm⟩
            have sn := same_new (o := .tup [V.str ⟨#[c]⟩, vN m]) ht3
            have hN6 := netAt_same sn hN5
            obtain ⟨dx6, wl6, ds6, ow6, h6⟩ := hN6
            refine ⟨t2, _, rfl, SqT.of upd_same, rfl, _, _, rfl, _, _, rfl, rfl, ?_⟩
            refine ⟨_, rfl, p, dx6, _, rfl, h6.hp, rfl, _, rfl, _, rfl, _, rfl, p, R.2.1.length, _, R.1, H, j, m, some c, rfl, ⟨dx6, wl6, ds6, ow6, h6⟩, addS_ok hj (fun q hq => zip_lt (fun x hx => hrr.2 x hx) q (List.mem_of_mem_take hq)) hbase, by omega, hLn, hj, fun c' hc' => by cases hc'; exact List.mem_of_getElem? hc, fun H7 s7 k7 hN7 => ⟨_, _, rfl, s7, (k5.trans (keep_of sn)).trans k7, ?_⟩⟩
            rw [take_fold hqi]
            exact hN7
      · rintro σ' Hc ⟨o4, o5, rfl, s5, k5, hN5⟩
        rw [List.take_length] at hN5
        refine ⟨_, _, _, _, rfl, s5, k5, ?_⟩
        rw [take_fold hzi]
        exact hN5
    · rintro σ' Hc ⟨o2, o3, o4, o5, rfl, s3, k3, hN3⟩
      rw [hlx] at hN3
      refine ⟨_, rfl, q _ _ s3 ?_⟩
      rw [netOf_eq]
      rw [show R.2.1.zipIdx.take R.2.1.length = R.2.1.zipIdx by rw [List.take_of_length_le (by simp)]] at hN3
      exact hN3
end
end An
end
section
set_option Elab.async false
set_option maxRecDepth 100000
set_option maxHeartbeats 4000000
set_option linter.all false
/-! filled. -/
namespace An
open PySem L2
theorem dp_kd {K : PySem.W.Frag} {H : Hp} {v : V} {k : Kd} (h : Dp K H v (kD k)) : ∃ a, v = .ref a ∧ SqT K H a [.str (tx k.1), .str (tx k.2.toList)] := by
  obtain ⟨a, xs, rfl, ht, ha⟩ := dp_tup h
  cases ha with
  | cons h1 h2 => cases h2 with
    | cons h2 h3 =>
      cases h3
      cases dp_str h1
      cases dp_str h2
      exact ⟨a, rfl, ht⟩
theorem addF_ok {n : Nat} {x : Nat} {s : Option Nat} (hx : x < n) {l : List Nat} (hl : ∀ y ∈ l, y < n) {st : Net × Bool} (h : NetOk n st.1) : NetOk n (l.foldl (fun st y => addB st x s y) st).1 :=
  foldl_inv (fun st : Net × Bool => NetOk n st.1) l st h fun a y hy ha => addB_ok ha hx (hl y hy)
theorem rowK_ok {n : Nat} {x : Nat} {k : Kd} (hx : x < n) {st : Net × Bool} (h : NetOk n st.1) : NetOk n (rowK st k x).1 := addF_ok hx (byText_asc h hx k.1).2 h
theorem kindTo_ok {n m : Nat} {k : Kd} (hm : m ≤ n) {st : Net × Bool} (h : NetOk n st.1) : NetOk n ((List.range m).foldl (fun st x => rowK st k x) st).1 :=
  foldl_inv (fun st : Net × Bool => NetOk n st.1) _ st h fun a x hx ha => rowK_ok (Nat.lt_of_lt_of_le (by simpa using hx) hm) ha
theorem kindsTo_ok {n : Nat} {ks : List Kd} {st : Net × Bool} (h : NetOk n st.1) : NetOk n (ks.foldl (fun st k => kindK n st k) st).1 :=
  foldl_inv (fun st : Net × Bool => NetOk n st.1) _ st h fun a k hk ha => kindTo_ok (Nat.le_refl _) ha
theorem addB_snd (W : Net) (b : Bool) (i j : Nat) (s : Option Nat) : addB (W, b) i s j = ((addB (W, false) i s j).1, (addB (W, false) i s j).2 || b) := by
  unfold addB
  split
  · simp
  · simp
section
variable {P : Program} {w : World} {K : PySem.W.Frag} {mg : Str → Option Value} {base : Heap}
def sp_filled (K : PySem.W.Frag) (C : Addr) : Sp := fun vs H Q _ => ∃ (R : Rd3) (ks : List Kd) (v u : V), vs = [v, u] ∧ Dp K H v (rdD R) ∧ RdOk R ∧ R.2.1.length ≤ 60 ∧ Dp K H u (ksD ks) ∧ KsOk R.1 ks ∧ ∀ H' p, Same H H' → NetAt K C R.1 H H' p R.2.1.length (filled R.1 R.2.1 ks) → Q (.ref p) H'
theorem sc_filled : FnScope ["reader", "kinds", "net", "is_new", "l", "r", "stand", "other"] ["reader", "kinds"] (defScope s_filled) := ⟨rfl, rfl, rfl, by decide +kernel, rfl, by decide +kernel, by decide +kernel⟩
theorem ok_filled (T : Tx K mg) : FnOk P w K mg base CX0 4 T.filled.f T.filled.fd ["reader", "kinds"] (sp_filled K T.C) := by
  have sc := sc_filled
  refine T.filled.F.ok sc (fun vs H Q E h => ?_) (fun cdv A outer s H vs Q E hr h => ?_)
  · obtain ⟨_, _, _, _, rfl, _⟩ := h; rfl
  · obtain ⟨R, ks, v, u, rfl, hv, hR, hn, hu, hK, q⟩ := h
    have hLn : R.1.length ≤ 100 := Nat.le_trans hR.l.le (by decide)
    have hn2 : R.2.1.length ≤ 1000 := by omega
    obtain ⟨ka, kxs, rfl, kht, kha⟩ := dp_tup hu
    have hkl := dpAll_len kha
    rw [List.length_map] at hkl
    refine ⟨_, (pss_cons (ps_par (i := 2) (j := 3) rfl sc.nd rfl rfl (by decide) rfl rfl (pa_cons (pe_callD T.net_of (ok_net_of T) (hr.mono (by decide)) (pa_cons (pv 0) pa_nil)) (pa_cons pe_bl pa_nil)) (by rfl))
      (pss_cons (ps_while PassesOwn.never (pt_val (pv 3))
        (pss_cons (ps_set (i := 3) sc.nd rfl (Or.inl rfl) pe_bl)
        (pss_one (ps_for PassesOwn.never rfl (pi_tup (pv 1)) (pg_tup rfl (pgs_cons (pg_name (i := 4) (x := "l") sc.nd rfl (Or.inl rfl)) (pgs_cons (pg_name (i := 5) (x := "r") sc.nd rfl (Or.inl rfl)) pgs_nil)))
          (pss_one (ps_for PassesOwn.never rfl (pi_range1 rfl T.b_range (pa_cons (pe_B (id := "len") call_lenDt T.b_len (pa_cons (pe_ix ix_D (pv 0) pe_int (fun _ _ => rfl)) pa_nil)) pa_nil)) (pg_name (i := 6) (x := "stand") sc.nd rfl (Or.inl rfl))
            (pss_one (ps_for PassesOwn.never rfl (pi_tup (pe_meth (pv 2) T.cl T.by_text.m (ok_by_text T) (hr.mono (by decide)) T.by_text.b .nil pass0 (pa_cons (pv 6) (pa_cons (pv 4) pa_nil)))) (pg_name (i := 7) (x := "other") sc.nd rfl (Or.inl rfl))
              (pss_one (ps_if (pt_val (pe_meth (pv 2) T.cl T.add.m (ok_add T) (hr.mono (by decide)) T.add.b .nil pass0 (pa_cons (pv 6) (pa_cons (pv 5) (pa_cons (pv 7) pa_nil)))))
                (pss_one (ps_set (i := 3) sc.nd rfl (Or.inl rfl) pe_bl))
                pss_nil))))))))))
      (pss_one (ps_ret (pv 2))))), ?_⟩
    refine ⟨_, rfl, R, v, rfl, hv, hR, hn, fun H1 p s1 hN1 => ⟨_, _, rfl, ?_⟩⟩
    obtain ⟨m, t, r⟩ := filled_runs (kinds := ks) (netOf_ok (L := R.1) rfl fun r hr => (hR.r r hr).2)
    refine while_runs r (fun st σ' Hc => ∃ o4 o5 o6 o7, σ' = [some v, some (.ref ka), some (.ref p), some (.bl st.2), o4, o5, o6, o7] ∧ Same H Hc ∧ NetAt K T.C R.1 H Hc p R.2.1.length st.1) ⟨_, _, _, _, rfl, s1, hN1⟩ ?_ ?_
    · rintro Ok st st' σ1 H2 hi est ⟨o4, o5, o6, o7, rfl, s2, hN2⟩ hok
      unfold fillStep at est
      by_cases hb : st.2 = true
      · rw [if_pos hb] at est
        have est := (Option.some.inj est).symm
        subst est
        refine ⟨_, rfl, _, rfl, ?_⟩
        rw [hb]
        refine iteT ⟨_, hok, ?_⟩
        rw [turnK_eq]
        refine ⟨_, rfl, ka, rfl, ⟨_, same_t s2 kht⟩, ?_⟩
        refine for_it walk_tup (fun j σ' Hc => ∃ o4 o5 o6 o7, σ' = [some v, some (.ref ka), some (.ref p), some (.bl ((ks.take j).foldl (fun st k => kindK R.2.1.length st k) (st.1, false)).2), o4, o5, o6, o7] ∧ Same H Hc ∧ NetAt K T.C R.1 H Hc p R.2.1.length ((ks.take j).foldl (fun st k => kindK R.2.1.length st k) (st.1, false)).1) ⟨_, _, _, _, rfl, s2, hN2⟩ (fun _ _ _ _ ⟨_, _, _, _, _, s, _⟩ => same_t s kht) ?_ ?_
        · rintro j y σ' Hx Hc hj ⟨o4, o5, o6, o7, rfl, s3, hN3⟩ ⟨rfl, hy⟩
          rw [hkl] at hj
          obtain ⟨y2, hy2, dy⟩ := dpAll_get (i := j) (d := kD ks[j]) kha (by simp [hj])
          rw [hy] at hy2
          cases hy2
          obtain ⟨b, rfl, htb⟩ := dp_kd dy
          have hkj : ks[j]? = some ks[j] := List.getElem?_eq_getElem hj
          have hkk := hK.k ks[j] (List.getElem_mem hj)
          have hok3 := kindsTo_ok (n := R.2.1.length) (ks := ks.take j) (st := (st.1, false)) hi
          generalize hst3 : (ks.take j).foldl (fun st k => kindK R.2.1.length st k) (st.1, false) = st3 at hN3 hok3 ⊢
          refine ⟨b, _, rfl, same_t s3 htb, rfl, _, _, rfl, _, _, rfl, rfl, ?_⟩
          refine ⟨_, rfl, [tD R.1, rowsD R.2.1, yesD R.2.2], 1, _, dp_same s3 _ _ hv, rfl, rfl, fun z hz => ?_⟩
          refine ⟨_, _, R.2.1.length, rfl, hz, by simp, _, rfl, by omega, by omega, ?_⟩
          refine for_it (walk_range (n := R.2.1.length)) (fun i σ' Hc => ∃ o6 o7, σ' = [some v, some (.ref ka), some (.ref p), some (.bl ((List.range i).foldl (fun st x => rowK st ks[j] x) st3).2), some (.str (tx ks[j].1)), some (.str (tx ks[j].2.toList)), o6, o7] ∧ Same H Hc ∧ NetAt K T.C R.1 H Hc p R.2.1.length ((List.range i).foldl (fun st x => rowK st ks[j] x) st3).1) ⟨_, _, rfl, s3, hN3⟩ (fun _ _ _ _ _ => trivial) ?_ ?_
          · rintro i y σ' Hx Hc hi2 ⟨o6, o7, rfl, s4, hN4⟩ ⟨rfl, rfl⟩
            have hok4 := kindTo_ok (n := R.2.1.length) (m := i) (k := ks[j]) (by omega) hok3
            have hnext : (List.range (i + 1)).foldl (fun st x => rowK st ks[j] x) st3 = rowK ((List.range i).foldl (fun st x => rowK st ks[j] x) st3) ks[j] i := by rw [List.range_succ, List.foldl_append]; rfl
            generalize hst4 : (List.range i).foldl (fun st x => rowK st ks[j] x) st3 = st4 at hN4 hok4 hnext ⊢
            obtain ⟨dx4, wl4, ds4, ow4, h4⟩ := hN4
            refine ⟨_, rfl, p, dx4, _, rfl, h4.hp, rfl, _, rfl, _, rfl, p, R.2.1.length, st4.1, R.1, H, i, ks[j].1, by simp, ⟨dx4, wl4, ds4, ow4, h4⟩, hok4, hn, hLn, hi2, fun H5 r5 s5 d5 => ?_⟩
            obtain ⟨c, xs5, rfl, ht5, ha5⟩ := dp_tup d5
            have e := dpAll_ints ha5
            subst e
            have hasc := byText_asc hok4 hi2 ks[j].1
            refine ⟨c, rfl, ⟨_, ht5⟩, ?_⟩
            refine for_it walk_tup (fun l σ' Hc => ∃ o7, σ' = [some v, some (.ref ka), some (.ref p), some (.bl (((byText st4.1 i ks[j].1).take l).foldl (fun st y => addB st i ks[j].2 y) st4).2), some (.str (tx ks[j].1)), some (.str (tx ks[j].2.toList)), some (vN i), o7] ∧ Same H Hc ∧ Keep H5 Hc ∧ NetAt K T.C R.1 H Hc p R.2.1.length (((byText st4.1 i ks[j].1).take l).foldl (fun st y => addB st i ks[j].2 y) st4).1) ⟨o7, by simp, s4.trans s5, Keep.refl _, netAt_same s5 ⟨dx4, wl4, ds4, ow4, h4⟩⟩ (fun _ _ _ _ ⟨_, _, _, k, _⟩ => keep_t k ht5) ?_ ?_
            · rintro l y σ' Hx Hc hl ⟨o7, rfl, s6, k6, hN6⟩ ⟨rfl, hy⟩
              rw [List.length_map] at hl
              rw [List.getElem?_map, List.getElem?_eq_getElem hl] at hy
              cases hy
              have hyl : (byText st4.1 i ks[j].1)[l]? = some (byText st4.1 i ks[j].1)[l] := List.getElem?_eq_getElem hl
              have hyn := hasc.2 _ (List.getElem_mem hl)
              have hok6 := addF_ok (s := ks[j].2) hi2 (l := (byText st4.1 i ks[j].1).take l) (fun y hy => hasc.2 y (List.mem_of_mem_take hy)) hok4
              have hnext6 := take_fold (f := fun st y => addB st i ks[j].2 y) (a := st4) hyl
              generalize hst6 : ((byText st4.1 i ks[j].1).take l).foldl (fun st y => addB st i ks[j].2 y) st4 = st6 at hN6 hok6 hnext6 ⊢
              obtain ⟨W6, b6⟩ := st6
              rw [hnext6, addB_snd]
              obtain ⟨dx6, wl6, ds6, ow6, h6⟩ := hN6
              refine ⟨_, rfl, p, dx6, _, rfl, h6.hp, rfl, _, rfl, _, rfl, _, rfl, p, R.2.1.length, W6, R.1, H, i, (byText st4.1 i ks[j].1)[l], ks[j].2, rfl, ⟨dx6, wl6, ds6, ow6, h6⟩, hok6, hn2, hLn, hi2, hkk.2.2.1, fun H7 s7 k7 hN7 => ?_⟩
              refine ⟨_, rfl, ?_⟩
              cases hb6 : (addB (W6, false) i ks[j].2 (byText st4.1 i ks[j].1)[l]).2 with
              | true => exact iteT ⟨_, rfl, s7, k6.trans k7, hN7⟩
              | false => exact iteF ⟨some (vN (byText st4.1 i ks[j].1)[l]), by simp, s7, k6.trans k7, hN7⟩
            · rintro σ' Hc ⟨o7, rfl, s6, k6, hN6⟩
              rw [List.length_map, List.take_length] at hN6
              refine ⟨some (vN i), o7, ?_, s6, ?_⟩
              · rw [hnext, List.length_map, List.take_length]; rfl
              · rw [hnext]; exact hN6
          · rintro σ' Hc ⟨o6, o7, rfl, s4, hN4⟩
            refine ⟨some (.str (tx ks[j].1)), some (.str (tx ks[j].2.toList)), o6, o7, ?_, s4, ?_⟩
            · rw [take_fold hkj, hst3]; rfl
            · rw [take_fold hkj, hst3]; exact hN4
        · rintro σ' Hc ⟨o4, o5, o6, o7, rfl, s3, hN3⟩
          rw [hkl, List.take_length] at hN3 ⊢
          exact ⟨_, _, _, _, rfl, s3, hN3⟩
      · rw [if_neg hb] at est
        cases est
    · rintro Ok σ1 H2 hi est ⟨o4, o5, o6, o7, rfl, s2, hN2⟩
      unfold fillStep at est
      by_cases hb : t.2 = true
      · rw [if_pos hb] at est; cases est
      · refine ⟨_, rfl, _, rfl, ?_⟩
        rw [show t.2 = false by cases h : t.2 <;> simp_all]
        refine iteF ⟨_, rfl, q _ _ s2 ?_⟩
        unfold filled
        rw [fin_eq r]
        exact hN2
end
end An
end
section
set_option Elab.async false
set_option linter.all false
/-! Exploring; classes; the least reader. -/
namespace An
section
variable {α : Type} [DecidableEq α]
/-- the place of a thing -/
def place (l : List α) (x : α) : Nat := l.idxOf x
theorem place_get {l : List α} {x : α} (h : x ∈ l) : l[place l x]? = some x := idx_get h
theorem place_of {l : List α} (hn : l.Nodup) {i : Nat} {x : α} (h : l[i]? = some x) : place l x = i := idx_of_get hn h
theorem place_lt {l : List α} {x : α} (h : x ∈ l) : place l x < l.length := (List.getElem?_eq_some_iff.mp (place_get h)).1
/-- one turn of an exploring: the things met, and the rows of the places of the things that follow -/
def expStep (succ : α → List α) (st : List α × List (List Nat)) : Option (List α × List (List Nat)) :=
  match st.1[st.2.length]? with
  | none => none
  | some x => some (mrg st.1 (succ x), st.2 ++ [(succ x).map fun z => place (mrg st.1 (succ x)) z])
structure ExpI (P : α → Prop) (succ : α → List α) (x0 : α) (st : List α × List (List Nat)) : Prop where
  nd : st.1.Nodup
  p : ∀ x ∈ st.1, P x
  le : st.2.length ≤ st.1.length
  z : st.1[0]? = some x0
  r : ∀ (i : Nat) r, st.2[i]? = some r → ∃ x, st.1[i]? = some x ∧ (∀ y ∈ succ x, y ∈ st.1) ∧ r = (succ x).map fun y => place st.1 y
theorem idx_mono {f os : List α} {y : α} (hf : f.Nodup) (h : y ∈ f) : place (mrg f os) y = place f y :=
  place_of (nodup_mrg hf) (mrg_get (place_get h))
theorem expStep_ok {P : α → Prop} {succ : α → List α} (hP : ∀ x, P x → ∀ y ∈ succ x, P y) {x0 : α} {st st' : List α × List (List Nat)} (h : ExpI P succ x0 st) (e : expStep succ st = some st') :
    ExpI P succ x0 st' ∧ st'.2.length = st.2.length + 1 ∧ st.1.length ≤ st'.1.length ∧ st.2.length < st.1.length := by
  unfold expStep at e
  cases hx : st.1[st.2.length]? with
  | none => rw [hx] at e; cases e
  | some x =>
    rw [hx] at e
    have e := (Option.some.inj e).symm
    subst e
    have hlt := (List.getElem?_eq_some_iff.mp hx).1
    have hmem := List.mem_of_getElem? hx
    have hlm : st.1.length ≤ (mrg st.1 (succ x)).length := length_mrg
    refine ⟨⟨nodup_mrg h.nd, fun y hy => ?_, ?_, mrg_get h.z, fun i r hr => ?_⟩, by simp, hlm, hlt⟩
    · rcases mem_mrg.mp hy with hy | hy
      · exact h.p y hy
      · exact hP x (h.p x hmem) y hy
    · simp; omega
    · by_cases hi : i < st.2.length
      · rw [List.getElem?_append_left hi] at hr
        obtain ⟨x', h1, h2, h3⟩ := h.r i r hr
        refine ⟨x', mrg_get h1, fun y hy => mem_mrg.mpr (.inl (h2 y hy)), ?_⟩
        rw [h3]
        exact List.map_congr_left fun y hy => (idx_mono h.nd (h2 y hy)).symm
      · have hi2 : i = st.2.length := by
          have := (List.getElem?_eq_some_iff.mp hr).1
          simp at this
          omega
        subst hi2
        rw [List.getElem?_append_right (Nat.le_refl _)] at hr
        simp at hr
        exact ⟨x, mrg_get hx, fun y hy => mem_mrg.mpr (.inr hy), hr.symm⟩
theorem exp_runs {P : α → Prop} {succ : α → List α} (hP : ∀ x, P x → ∀ y ∈ succ x, P y) (N : Nat) (hN : ∀ l : List α, l.Nodup → (∀ x ∈ l, P x) → l.length ≤ N) {x0 : α} (h0 : P x0) :
    ∃ m t, Runs (expStep succ) (ExpI P succ x0) m ([x0], []) t := by
  refine runs_of (fun st => 2 * (N - st.1.length) + (st.1.length - st.2.length)) (fun st st' hi e => ?_) ([x0], []) ⟨by simp, by simpa using h0, by simp, rfl, fun i r h => by simp at h⟩
  obtain ⟨q, h1, h2, h3⟩ := expStep_ok hP hi e
  refine ⟨q, ?_⟩
  have := hN _ q.nd q.p
  have := q.le
  omega
noncomputable def exp (succ : α → List α) (x0 : α) : List α × List (List Nat) := fin (expStep succ) ([x0], [])
/-- what an exploring leaves -/
structure ExpEnd (P : α → Prop) (succ : α → List α) (x0 : α) (st : List α × List (List Nat)) : Prop extends ExpI P succ x0 st where
  ln : st.2.length = st.1.length
theorem exp_end {P : α → Prop} {succ : α → List α} (hP : ∀ x, P x → ∀ y ∈ succ x, P y) (N : Nat) (hN : ∀ l : List α, l.Nodup → (∀ x ∈ l, P x) → l.length ≤ N) {x0 : α} (h0 : P x0) : ExpEnd P succ x0 (exp succ x0) := by
  obtain ⟨m, t, r⟩ := exp_runs hP N hN h0
  unfold exp
  rw [fin_eq r]
  obtain ⟨hi, e⟩ := r.last
  refine ⟨hi, ?_⟩
  unfold expStep at e
  cases hx : t.1[t.2.length]? with
  | none =>
    have := List.getElem?_eq_none_iff.mp hx
    have := hi.le
    omega
  | some x => rw [hx] at e; cases e
theorem ExpEnd.row {P : α → Prop} {succ : α → List α} {x0 : α} {st : List α × List (List Nat)} (h : ExpEnd P succ x0 st) {i : Nat} {x : α} (hx : st.1[i]? = some x) : (∀ y ∈ succ x, y ∈ st.1) ∧ st.2[i]? = some ((succ x).map fun y => place st.1 y) := by
  have hi : i < st.2.length := by rw [h.ln]; exact (List.getElem?_eq_some_iff.mp hx).1
  obtain ⟨x', h1, h2, h3⟩ := h.r i _ (List.getElem?_eq_getElem hi)
  rw [hx] at h1
  cases h1
  exact ⟨h2, by rw [List.getElem?_eq_getElem hi, h3]⟩
end

/-! ### how many ascending lists there are -/
def subs : Nat → List (List Nat)
  | 0 => [[]]
  | n + 1 => subs n ++ (subs n).map (· ++ [n])
theorem subs_len : ∀ n, (subs n).length = 2 ^ n
  | 0 => rfl
  | n + 1 => by simp [subs, subs_len n, Nat.pow_succ]; omega
theorem asc_subs : ∀ (n : Nat) (l : List Nat), Asc n l → l ∈ subs n
  | 0, l, h => by
    cases l with
    | nil => simp [subs]
    | cons x l => have := h.2 x (by simp); omega
  | n + 1, l, h => by
    unfold subs
    rw [List.mem_append]
    by_cases hn : n ∈ l
    · obtain ⟨a, b, rfl⟩ := List.append_of_mem hn
      obtain ⟨h1, h2, h3⟩ := List.pairwise_append.mp h.1
      have hb : b = [] := by
        cases b with
        | nil => rfl
        | cons x b =>
          have := (List.pairwise_cons.mp h2).1 x (by simp)
          have := h.2 x (by simp)
          omega
      subst hb
      refine .inr (List.mem_map.mpr ⟨a, asc_subs n a ⟨h1, fun x hx => h3 x hx n (by simp)⟩, rfl⟩)
    · refine .inl (asc_subs n l ⟨h.1, fun x hx => ?_⟩)
      have := h.2 x hx
      have : x ≠ n := fun e => hn (e ▸ hx)
      omega
theorem asc_bound {n : Nat} (l : List (List Nat)) (hd : l.Nodup) (h : ∀ x ∈ l, Asc n x) : l.length ≤ 2 ^ n := by
  rw [← subs_len]
  exact nodup_le hd fun x hx => asc_subs n x (h x hx)

/-! ### classes -/
section
variable {α β : Type} [DecidableEq α] [DecidableEq β]
/-- the unlike ones of a list -/
def dst (l : List α) : List α := mrg [] l
theorem dst_nodup (l : List α) : (dst l).Nodup := nodup_mrg (by simp)
theorem mem_dst {l : List α} {x : α} : x ∈ dst l ↔ x ∈ l := by unfold dst; rw [mem_mrg]; simp
theorem dst_le (l : List α) : (dst l).length ≤ l.length := nodup_le (dst_nodup l) fun x hx => mem_dst.mp hx
theorem dst_image {γ : Type} (l : List γ) (f : γ → α) (g : α → β) (h : γ → β) (e : ∀ x ∈ l, h x = g (f x)) : (dst (l.map h)).length ≤ (dst (l.map f)).length := by
  have := nodup_le (l := dst (l.map h)) (m := (dst (l.map f)).map g) (dst_nodup _) fun y hy => by
    obtain ⟨x, hx, rfl⟩ := List.mem_map.mp (mem_dst.mp hy)
    rw [e x hx]
    exact List.mem_map.mpr ⟨f x, mem_dst.mpr (List.mem_map.mpr ⟨x, hx, rfl⟩), rfl⟩
  simpa using this
end
abbrev Sg := Nat × List Nat
def sig (rows : List (List Nat)) (m : Nat → Nat) (s : Nat) : Sg := (m s, (rows.getD s []).map m)
def ord (rows : List (List Nat)) (stands : List Nat) (m : Nat → Nat) : List Sg := dst (stands.map (sig rows m))
def newM (rows : List (List Nat)) (stands : List Nat) (m : Nat → Nat) : Nat → Nat := fun s => place (ord rows stands m) (sig rows m s)
def clStep (rows : List (List Nat)) (stands : List Nat) (st : (Nat → Nat) × Nat) : Option ((Nat → Nat) × Nat) :=
  if (ord rows stands st.1).length = st.2 then none else some (newM rows stands st.1, (ord rows stands st.1).length)
def ClI (stands : List Nat) (st : (Nat → Nat) × Nat) : Prop := st.2 = (dst (stands.map st.1)).length
theorem newM_dst (rows : List (List Nat)) (stands : List Nat) (m : Nat → Nat) : (dst (stands.map (newM rows stands m))).length = (ord rows stands m).length := by
  apply Nat.le_antisymm
  · exact dst_image stands (sig rows m) (fun z => place (ord rows stands m) z) _ fun x _ => rfl
  · refine dst_image stands (newM rows stands m) (fun i => (ord rows stands m).getD i (0, [])) (sig rows m) fun x hx => ?_
    have hm : sig rows m x ∈ ord rows stands m := mem_dst.mpr (List.mem_map.mpr ⟨x, hx, rfl⟩)
    have := place_get hm
    unfold newM
    rw [List.getD_eq_getElem?_getD, this]
    rfl
theorem cl_runs (rows : List (List Nat)) (stands : List Nat) (m : Nat → Nat) : ∃ k t, Runs (clStep rows stands) (ClI stands) k (m, (dst (stands.map m)).length) t := by
  refine runs_of (fun st => stands.length - st.2) (fun st st' hi e => ?_) _ rfl
  unfold clStep at e
  split at e
  · cases e
  · rename_i hne
    have e := (Option.some.inj e).symm
    subst e
    refine ⟨(newM_dst rows stands st.1).symm, ?_⟩
    have h1 : (dst (stands.map st.1)).length ≤ (ord rows stands st.1).length := dst_image stands (sig rows st.1) (fun z => z.1) st.1 fun x _ => rfl
    have h2 : (ord rows stands st.1).length ≤ stands.length := by
      have := dst_le (stands.map (sig rows st.1))
      simpa [ord] using this
    have h3 : st.2 = (dst (stands.map st.1)).length := hi
    show stands.length - (ord rows stands st.1).length < stands.length - st.2
    omega
instance : Inhabited ((Nat → Nat) × Nat) := ⟨(fun _ => 0, 0)⟩
noncomputable def classes (rows : List (List Nat)) (stands : List Nat) (m : Nat → Nat) : Nat → Nat := newM rows stands (fin (clStep rows stands) (m, (dst (stands.map m)).length)).1

/-! ### the least reader -/
def headStep (m : Nat → Nat) (st : List Nat × List Nat) (s : Nat) : List Nat × List Nat := if m s ∈ st.2 then st else (st.1 ++ [s], st.2 ++ [m s])
def headsOf (m : Nat → Nat) (stands : List Nat) : List Nat × List Nat := stands.foldl (headStep m) ([], [])
structure HeadI (m : Nat → Nat) (all : List Nat) (st : List Nat × List Nat) : Prop where
  e : st.2 = st.1.map m
  nd : st.2.Nodup
  s : ∀ x ∈ st.1, x ∈ all
theorem headStep_ok {m : Nat → Nat} {all : List Nat} {st : List Nat × List Nat} {s : Nat} (hs : s ∈ all) (h : HeadI m all st) : HeadI m all (headStep m st s) := by
  unfold headStep
  split
  · exact h
  · rename_i hn
    refine ⟨by simp [h.e], ?_, fun x hx => ?_⟩
    · have := nodup_addK (o := m s) h.nd
      rwa [addK_out hn] at this
    · rcases List.mem_append.mp hx with hx | hx
      · exact h.s x hx
      · simp at hx; subst hx; exact hs
theorem headsTo_ok {m : Nat → Nat} {stands : List Nat} (j : Nat) : HeadI m stands ((stands.take j).foldl (headStep m) ([], [])) :=
  foldl_inv (HeadI m stands) _ _ ⟨rfl, by simp, by simp⟩ fun a x hx ha => headStep_ok (List.mem_of_mem_take hx) ha
theorem heads_ok {m : Nat → Nat} {stands : List Nat} : HeadI m stands (headsOf m stands) := foldl_inv (HeadI m stands) _ _ ⟨rfl, by simp, by simp⟩ fun a x hx ha => headStep_ok hx ha
theorem head_keep {m : Nat → Nat} : ∀ (l : List Nat) (st : List Nat × List Nat) (x : Nat), x ∈ st.2 → x ∈ (l.foldl (headStep m) st).2
  | [], _, _, h => h
  | s :: l, st, x, h => head_keep l _ x (by
    unfold headStep
    split
    · exact h
    · exact List.mem_append_left _ h)
theorem heads_mem {m : Nat → Nat} : ∀ (l : List Nat) (st : List Nat × List Nat) (x : Nat), x ∈ l → m x ∈ (l.foldl (headStep m) st).2
  | s :: l, st, x, h => by
    rcases List.mem_cons.mp h with rfl | h
    · refine head_keep l _ _ ?_
      unfold headStep
      split
      · assumption
      · simp
    · exact heads_mem l _ x h
noncomputable def reachedL (rows : List (List Nat)) : List Nat := (exp (fun i => rows.getD i []) 0).1
def yes0 (yes : List Bool) (s : Nat) : Nat := if yes.getD s false = true then 1 else 0
noncomputable def marksOf (rows : List (List Nat)) (yes : List Bool) : Nat → Nat := classes rows (reachedL rows) (yes0 yes)
noncomputable def leastOf (L : List Nat) (rows : List (List Nat)) (yes : List Bool) : List Nat × List (List Nat) × List Bool :=
  let m := marksOf rows yes
  let h := headsOf m (reachedL rows)
  (L, h.1.map fun s => (rows.getD s []).map fun x => place h.2 (m x), h.1.map fun s => yes.getD s false)
/-- the rows tell stands of their own -/
def RowsOk (rows : List (List Nat)) : Prop := 1 ≤ rows.length ∧ ∀ r ∈ rows, ∀ x ∈ r, x < rows.length
theorem reached_runs {rows : List (List Nat)} (h : RowsOk rows) : ∃ m t, Runs (expStep fun i => rows.getD i []) (ExpI (· < rows.length) (fun i => rows.getD i []) 0) m ([0], []) t :=
  exp_runs (fun x hx y hy => by
    rw [List.getD_eq_getElem?_getD, List.getElem?_eq_getElem hx] at hy
    exact h.2 _ (List.getElem_mem hx) y hy) rows.length (fun l hd hb => nodup_lt hd hb) h.1
theorem reached_end {rows : List (List Nat)} (h : RowsOk rows) : ExpEnd (· < rows.length) (fun i => rows.getD i []) 0 (exp (fun i => rows.getD i []) 0) :=
  exp_end (fun x hx y hy => by
    rw [List.getD_eq_getElem?_getD, List.getElem?_eq_getElem hx] at hy
    exact h.2 _ (List.getElem_mem hx) y hy) rows.length (fun l hd hb => nodup_lt hd hb) h.1
theorem reached_lt {rows : List (List Nat)} (h : RowsOk rows) : ∀ x ∈ reachedL rows, x < rows.length := (reached_end h).p
theorem reached_closed {rows : List (List Nat)} (h : RowsOk rows) {x : Nat} (hx : x ∈ reachedL rows) : ∀ y ∈ rows.getD x [], y ∈ reachedL rows := by
  obtain ⟨i, hi⟩ := List.getElem?_of_mem hx
  exact ((reached_end h).row hi).1
theorem reached_zero {rows : List (List Nat)} (h : RowsOk rows) : 0 ∈ reachedL rows := List.mem_of_getElem? (reached_end h).z
end An
end
section
set_option Elab.async false
set_option maxRecDepth 100000
set_option maxHeartbeats 4000000
set_option linter.all false
/-! reached. -/
namespace An
open PySem L2
def rowsL (rows : List (List Nat)) : PyData := .list (rows.map rowD)
theorem mrg_next {f os : List Nat} {j : Nat} {x : Nat} (h : os[j]? = some x) : mrg f (os.take (j + 1)) = addK (mrg f (os.take j)) x := take_fold h
theorem row_of {K : PySem.W.Frag} {H : Hp} {xs : List V} {rows : List (List Nat)} {i : Nat} (ha : DpAll K H xs (rows.map rowD)) (hi : i < rows.length) : ∃ b, xs[i]? = some (.ref b) ∧ SqT K H b ((rows.getD i []).map vN) := by
  obtain ⟨y, hy, dy⟩ := dpAll_get (i := i) (d := rowD rows[i]) ha (by simp [hi])
  obtain ⟨b, ys, rfl, htb, hab⟩ := dp_tup dy
  have e := dpAll_ints hab
  subst e
  refine ⟨b, hy, ?_⟩
  rw [List.getD_eq_getElem?_getD, List.getElem?_eq_getElem hi]
  exact htb
section
variable {P : Program} {w : World} {K : PySem.W.Frag} {mg : Str → Option Value} {base : Heap}
def sp_reached (K : PySem.W.Frag) : Sp := fun vs H Q _ => ∃ (rows : List (List Nat)) (v : V), vs = [v] ∧ Dp K H v (rowsL rows) ∧ RowsOk rows ∧ rows.length ≤ 1000 ∧ ∀ H' p, Same H H' → H' p = some (.lst ((reachedL rows).map vN)) → Q (.ref p) H'
theorem sc_reached : FnScope ["rows", "found", "seen", "at", "later"] ["rows"] (defScope s_reached) := ⟨rfl, rfl, rfl, by decide +kernel, rfl, by decide +kernel, by decide +kernel⟩
theorem ok_reached (T : Tx K mg) : FnOk P w K mg base CX0 1 T.reached.f T.reached.fd ["rows"] (sp_reached K) := by
  have sc := sc_reached
  refine T.reached.F.ok sc (fun vs H Q E h => ?_) (fun cdv A outer s H vs Q E hr h => ?_)
  · obtain ⟨_, _, rfl, _⟩ := h; rfl
  · obtain ⟨rows, v, rfl, hv, hR, hn, q⟩ := h
    obtain ⟨a, xs, rfl, ht, ha⟩ := dp_lst hv
    refine ⟨_, (pss_cons (ps_par3 (i := 1) (j := 2) (l := 3) rfl sc.nd rfl rfl rfl (by decide) (by decide) (by decide) rfl rfl rfl (pa_cons (pe_lst (pa_cons pe_int pa_nil)) (pa_cons (pe_disp (pps_cons pe_int pe_bl pps_nil) (by rfl) (by rfl) (fun z => by cases z) (by decide)) (pa_cons pe_int pa_nil))) (by rfl))
      (pss_cons (ps_while PassesOwn.never (pt_cmpR op_lt (pv 3) (pe_B (id := "len") call_len_seq T.b_len (pa_cons (pv 1) pa_nil)) (nomark _))
        (pss_cons (ps_for PassesOwn.never rfl (pi_tup (pe_ix ix_list (pv 0) (pe_ix ix_list (pv 1) (pv 3) (fun _ _ => rfl)) (fun _ _ => rfl))) (pg_name (i := 4) (x := "later") sc.nd rfl (Or.inl rfl))
          (pss_one (ps_if (pt_cmp (pc_dnotin (hu_of hr) (pv 4) (pv 2)))
            (pss_cons (ps_dput (hu_of hr) (pv 2) (pv 4) pe_bl rfl)
            (pss_one (ps_expr (pe_bm PySem.F.plainAttrs_list PySem.F.slot_list_append PySem.F.type_list_append mt_append (pv 1) (pa_cons (pv 4) pa_nil)))))
            pss_nil)))
        (pss_one (ps_aug (i := 3) sc.nd rfl (.inl rfl) pe_int ip_add))))
      (pss_one (ps_ret (pv 1))))), ?_⟩
    refine ⟨by show 1 ≤ sizeLine; exact line8 (by omega), fun F hF D hD => ⟨upd_same, inn [0], rfl, by decide, _, _, _, rfl, ?_⟩⟩
    have hFD : F ≠ D := ne_of_none upd_same hD
    have s0 : Same H (upd H F (.lst [vN 0])) := same_new hF
    have hD0 := none_of s0 hD
    obtain ⟨m, t, r⟩ := reached_runs hR
    refine while_runs r (fun st σ' Hc => ∃ o, σ' = [some (.ref a), some (.ref F), some (.ref D), some (vN st.2.length), o] ∧ Same H Hc ∧ Hc F = some (.lst (st.1.map vN)) ∧ Hc D = some (.dK (inn st.1))) ⟨_, rfl, same_upd (same_upd s0 hD0) hD0, ?_, upd_same⟩ ?_ ?_
    · rw [upd_ne hFD, upd_ne hFD]; exact upd_same
    · rintro Ok st st' σ1 H1 hi est ⟨o, rfl, s1, f1, d1⟩ hok
      obtain ⟨_, _, _, hlt⟩ := expStep_ok (P := (· < rows.length)) (fun x hx y hy => by
        rw [List.getD_eq_getElem?_getD, List.getElem?_eq_getElem hx] at hy
        exact hR.2 _ (List.getElem_mem hx) y hy) hi est
      have hx : st.1[st.2.length]? = some st.1[st.2.length] := List.getElem?_eq_getElem hlt
      have hxn : st.1[st.2.length] < rows.length := hi.p _ (List.getElem_mem hlt)
      unfold expStep at est
      rw [hx] at est
      have est := (Option.some.inj est).symm
      subst est
      refine ⟨_, rfl, _, rfl, F, _, rfl, .inl (SqL.of f1), _, _, rfl, rfl, _, rfl, ?_⟩
      rw [List.length_map, decide_eq_true (by omega)]
      refine iteT ⟨_, hok, ?_⟩
      obtain ⟨b, hb1, hb2⟩ := row_of ha hxn
      refine ⟨_, rfl, _, rfl, _, rfl, F, _, _, _, rfl, rfl, SqL.of f1, atI_nat (by rw [List.getElem?_map, hx]; rfl), a, _, _, _, rfl, rfl, same_l s1 ht, atI_nat hb1, b, rfl, ⟨_, same_t s1 hb2⟩, ?_⟩
      generalize hos : rows.getD st.1[st.2.length] [] = os at hb2 hok ⊢
      have hos2 : ∀ y ∈ os, y < rows.length := fun y hy => by
        rw [← hos, List.getD_eq_getElem?_getD, List.getElem?_eq_getElem hxn] at hy
        exact hR.2 _ (List.getElem_mem hxn) y hy
      refine for_it walk_tup (fun j σ' Hc => ∃ o, σ' = [some (.ref a), some (.ref F), some (.ref D), some (vN st.2.length), o] ∧ Same H Hc ∧ Hc F = some (.lst ((mrg st.1 (os.take j)).map vN)) ∧ Hc D = some (.dK (inn (mrg st.1 (os.take j))))) ⟨_, rfl, s1, f1, d1⟩ (fun _ _ _ _ ⟨_, _, s, _⟩ => same_t s hb2) ?_ ?_
      · rintro j y σ' Hx Hc hj ⟨o, rfl, s2, f2, d2⟩ ⟨rfl, hy⟩
        rw [List.length_map] at hj
        rw [List.getElem?_map, List.getElem?_eq_getElem hj] at hy
        cases hy
        have hnext := mrg_next (f := st.1) (List.getElem?_eq_getElem hj)
        have hlen : (mrg st.1 (os.take j)).length ≤ rows.length := nodup_lt (nodup_mrg hi.nd) fun y hy => by
          rcases mem_mrg.mp hy with hy | hy
          · exact hi.p y hy
          · exact hos2 y (List.mem_of_mem_take hy)
        generalize mrg st.1 (os.take j) = f at f2 d2 hnext hlen
        refine ⟨_, rfl, _, rfl, D, _, rfl, DGet.k (k := Sum.inl ((os[j] : Nat) : Int)) d2, _, rfl, ?_⟩
        by_cases hm : os[j] ∈ f
        · rw [inn_get, if_pos hm]
          rw [addK_in hm] at hnext
          exact iteF ⟨_, rfl, s2, by rw [hnext]; exact f2, by rw [hnext]; exact d2⟩
        · rw [inn_get, if_neg hm]
          rw [addK_out hm] at hnext
          refine iteT ⟨_, rfl, _, rfl, D, _, rfl, DPut.k (k := Sum.inl ((os[j] : Nat) : Int)) d2 (by rw [inn_len]; exact line9 (by omega)), ?_⟩
          rw [inn_put hm]
          have e8 : (upd Hc D (.dK (inn (f ++ [os[j]])))) F = some (.lst (f.map vN)) := by rw [upd_ne hFD]; exact f2
          refine ⟨_, rfl, .inl ⟨rfl, _, SqL.of e8⟩, _, rfl, F, _, _, rfl, rfl, e8, by rw [List.length_map]; exact line9 (by omega), ?_⟩
          refine ⟨_, rfl, same_upd (same_upd s2 hD0) hF, ?_, ?_⟩
          · rw [hnext, upd_same, List.map_append]; rfl
          · rw [hnext, upd_ne hFD.symm, upd_same]
      · rintro σ' Hc ⟨o, rfl, s2, f2, d2⟩
        rw [List.length_map, List.take_length] at f2 d2
        refine ⟨_, rfl, _, _, rfl, rfl, ?_⟩
        rw [← hos] at f2 d2
        exact ⟨o, by simp, s2, f2, d2⟩
    · rintro Ok σ1 H1 hi est ⟨o, rfl, s1, f1, d1⟩
      have hle : t.1.length ≤ t.2.length := by
        unfold expStep at est
        cases hx : t.1[t.2.length]? with
        | none => exact List.getElem?_eq_none_iff.mp hx
        | some x => rw [hx] at est; cases est
      refine ⟨_, rfl, _, rfl, F, _, rfl, .inl (SqL.of f1), _, _, rfl, rfl, _, rfl, ?_⟩
      rw [List.length_map, decide_eq_false (by omega)]
      refine iteF ⟨_, rfl, q _ _ s1 ?_⟩
      unfold reachedL exp
      rw [fin_eq r]
      exact f1
end
end An
end
section
set_option Elab.async false
set_option maxRecDepth 100000
set_option maxHeartbeats 4000000
set_option linter.all false
/-! len(set([..])) of numbers. -/
namespace An
open PySem L2
theorem met_dst (ns : List Nat) : ∀ i, i ≤ ns.length → PyProof.Rows.firstMet (fun i => (ns.map fun (n : Nat) => (n : Int)).getD i 0) i = (mrg [] (ns.take i)).map fun (n : Nat) => (n : Int)
  | 0, _ => rfl
  | i + 1, h => by
    have hi : i < ns.length := h
    rw [PyProof.Rows.firstMet_succ, met_dst ns i (by omega), mrg_next (List.getElem?_eq_getElem hi)]
    have e : (ns.map fun (n : Nat) => (n : Int)).getD i 0 = (ns[i] : Nat) := by simp [hi]
    rw [e]
    unfold PyProof.Rows.step_dedup
    by_cases hm : ns[i] ∈ mrg [] (ns.take i)
    · rw [addK_in hm, if_pos]
      rw [List.any_eq_true]
      exact ⟨_, List.mem_map.mpr ⟨_, hm, rfl⟩, by simp⟩
    · rw [addK_out hm, if_neg, List.map_append]
      · rfl
      · rw [List.any_eq_true]
        rintro ⟨x, hx, e2⟩
        obtain ⟨y, hy, rfl⟩ := List.mem_map.mp hx
        have : (y : Int) = (ns[i] : Nat) := by simpa using e2
        have : y = ns[i] := by omega
        exact hm (this ▸ hy)
def tLenSet (K : PySem.W.Frag) (ta : TE) : TE := fun σ H Q => ta σ H fun x H1 => ∃ (l : Addr) (ns : List Nat), x = .ref l ∧ SqL K H1 l (ns.map vN) ∧ ns.length < 1000 ∧ Q (vN (dst ns).length) H1
theorem ints_are {ns : List Nat} {us : List Value} (r : Vals (ns.map vN) us) : PyProof.Rows.IntsAre us (ns.map fun (n : Nat) => (n : Int)) :=
  RZ.intsAre_vals (by rw [List.map_map]; exact r)
theorem pe_lenSet {X : Cx} {a : Expr} {ta : TE} {p p2 q pos : Pos} (g1 : Gl X "len") (m1 : X.mg "len" = none) (g2 : Gl X "set") (m2 : X.mg "set" = none) (ha : PE X a ta) (calm : X.calm = true := by rfl)
    (one : starEach [a] X.env = (false, eval a X.env) :: starEach [] X.env := by rfl) : PE X (.Call (.Name "len" p) [.Call (.Name "set" p2) [a] [] q] [] pos) (tLenSet X.K ta) := by
  refine ⟨fun pins s σ H Q I h => PyProof.Rows.Call_ (ld_blt I g1 m1 PySem.boot_len (PyProof.Rows.callWith_builtin1 (PyProof.Rows.args_cons (PyProof.Rows.Call_ (ld_blt I g2 m2 PyProof.Rows.boot_set
    (PyProof.Rows.callWith_type1 (PyProof.Rows.args_cons (thn (ha.run pins s σ H _ I h) fun v s1 ⟨x, H1, I1, r1, l, ns, ex, hl, h64, k⟩ => PyProof.Rows.args_nil ?_) one) one rfl))) rfl) rfl rfl))⟩
  subst ex
  obtain rfl : v = Value.ref l := r1
  obtain ⟨its, rv, pl, _⟩ := I1.list hl
  have hsz : its.toArray.size = (ns.map fun (n : Nat) => (n : Int)).length := by rw [List.size_toArray, ← rv.length, List.length_map, List.length_map]
  refine PySem.call_set_list (I1.ok.hd calm) pl.isList (by simpa using ints_are rv) (by rw [hsz, List.length_map]; unfold scanBound; omega) fun h' tk hS hk => PyProof.Rows.args_nil ?_
  have hm := met_dst ns ns.length (Nat.le_refl _)
  rw [List.take_length] at hm
  rw [hsz, List.length_map, hm, List.length_map] at hS
  obtain ⟨o, es, ep, t, ho, hex, hd, _, _, _, hf, hn⟩ := hS
  have hle := dst_le ns
  refine call_len_set ho hex hd hf (by rw [hn]; have : (mrg [] ns).length ≤ ns.length := hle; omega) ⟨vN (dst ns).length, H1, (I1.kept (h' := h') (t' := tk) fun b o e => hk b o (Heap.lt_size e) e).tok _, ⟨_, by rw [hn]; rfl⟩, k⟩
end An
end
section
set_option Elab.async false
set_option maxRecDepth 100000
set_option maxHeartbeats 4000000
set_option linter.all false
/-! classes_of. -/
namespace An
open PySem L2
theorem look_cons {x : Str} {p : Str × NameKind} {r : List (Str × NameKind)} : (p :: r).lookup x = if (x == p.1) = true then some p.2 else r.lookup x := by
  obtain ⟨n, k⟩ := p
  rw [List.lookup_cons]
  cases x == n <;> rfl
theorem look_map {f : Str × NameKind → Str × NameKind} (h1 : ∀ p, (f p).1 = p.1) (h2 : ∀ p, p.2 = .cell ∨ p.2 = .free → (f p).2 = .cell ∨ (f p).2 = .free) : ∀ (names : List (Str × NameKind)) (x : Str),
    (names.lookup x = some .cell ∨ names.lookup x = some .free) → (names.map f).lookup x = some .cell ∨ (names.map f).lookup x = some .free
  | [], x, h => by simp at h
  | p :: r, x, h => by
    rw [look_cons] at h
    rw [List.map_cons, look_cons, h1]
    by_cases hx : (x == p.1) = true
    · rw [if_pos hx] at h ⊢
      simpa using h2 p (by simpa using h)
    · rw [if_neg hx] at h ⊢
      exact look_map h1 h2 r x h
theorem blkOk_re {N : List Str} {sc scope : Scope} {own : List (Str × Nat)} {env : Env} (h : BlkOk N sc scope own) : BlkOk N (relabel sc env) scope own := by
  refine ⟨h.kind, h.uniq, h.ix, fun y hy e => ?_, h.own⟩
  refine look_map (fun p => ?_) (fun p hp => ?_) sc.names y.1 (h.free y hy e)
  · obtain ⟨n, k⟩ := p
    dsimp only
    split <;> rfl
  · obtain ⟨n, k⟩ := p
    dsimp only
    split
    · exact .inl rfl
    · exact hp
def rTupOf (K : PySem.W.Frag) : List V → Hp → VK → Prop := fun xs H Q => ∃ p ys, xs = [.ref p] ∧ ((SqL K H p ys ∧ ∀ l, H l = none → Q (.ref l) (upd H l (.tup ys))) ∨ (SqT K H p ys ∧ Q (.ref p) H))
def rListOf (K : PySem.W.Frag) : List V → Hp → VK → Prop := fun xs H Q => ∃ p ys, xs = [.ref p] ∧ (SqL K H p ys ∨ SqT K H p ys) ∧ ∀ l, H l = none → Q (.ref l) (upd H l (.lst ys))
/-- a dict of numbers -/
abbrev dcI (f : Nat → V) (l : List Nat) : List (Key × V) := l.map fun (j : Nat) => ((Sum.inl (j : Int) : Key), f j)
theorem dcI_get (f : Nat → V) (l : List Nat) (x : Nat) : valV (dcI f l) (Sum.inl (x : Int)) = if x ∈ l then some (f x) else none := by
  induction l with
  | nil => simp [valV]
  | cons a l ih =>
    unfold valV at ih ⊢
    simp only [List.map_cons, List.find?_cons] at ih ⊢
    by_cases h : a = x
    · subst h
      simp
    · have hk : ((Sum.inl (a : Int) : Key) = Sum.inl (x : Int)) → False := fun z => h (by have := Sum.inl.inj z; omega)
      simp only [decide_eq_false hk, ih, List.mem_cons]
      by_cases h2 : x ∈ l
      · simp [h2]
      · rw [if_neg h2, if_neg]
        rintro (e | e)
        · exact h e.symm
        · exact h2 e
theorem dget_dc {H : Hp} {a : Addr} {f : Nat → V} {l : List Nat} {x : Nat} (e : H a = some (.dK (dcI f l))) (h : x ∈ l) : DGet H a (vN x) (some (f x)) := by
  have := DGet.k (k := Sum.inl (x : Int)) e
  rw [dcI_get, if_pos h] at this
  exact this
theorem dcI_of {ys : List (Key × V)} {S : List Nat} {f : Nat → V} (hl : ys.length = S.length) (h : ∀ (j : Nat) k y, ys[j]? = some (k, y) → k = Sum.inl ((S.getD j 0 : Nat) : Int) ∧ y = f (S.getD j 0)) : ys = dcI f S := by
  refine List.ext_getElem? fun j => ?_
  by_cases hj : j < ys.length
  · rw [List.getElem?_eq_getElem hj]
    obtain ⟨h1, h2⟩ := h j ys[j].1 ys[j].2 (List.getElem?_eq_getElem hj)
    have hj2 : j < S.length := by omega
    simp only [List.getElem?_map, List.getElem?_eq_getElem hj2, Option.map_some]
    have e : S.getD j 0 = S[j] := by simp [hj2]
    rw [e] at h1 h2
    exact congrArg some (Prod.ext h1 h2)
  · rw [List.getElem?_eq_none (by omega), List.getElem?_eq_none (by simp; omega)]
theorem dc_gen2 {J : It} {n : Nat} {G : Hp → Prop} {Y : Nat → Hp → V → Hp → Prop} {H1 : Hp} {D : Addr} (w : Walk J n G Y) {ix kx : Nat} {tv : TE} {vs : List Nat} {σ : L2.St} {Qd : Hp → Prop} (key : Nat → Key) (R : Nat → V → Hp → Prop) (hR : ∀ j v H H', Same H H' → R j v H → R j v H') (hn : n ≤ sizeLine)
    (hk : ∀ i j, i < n → j < n → key i = key j → i = j)
    (hD : H1 D = none) (hG : ∀ H, Same H1 H → G H) (hw : ∀ x, wipe ((wipe σ vs).set ix (some x)) vs = wipe σ vs)
    (hs : ∀ i x H H' (Q : VK), i < n → Same H1 H → (∃ o, H D = some o) → Y i H x H' → (∀ y H4, Same H H4 → R i y (del D H4) → Q y H4) → ((wipe σ vs).set ix (some x))[kx]? = some (some (kV (key i))) ∧ tv ((wipe σ vs).set ix (some x)) H' Q)
    (hd : ∀ H ys, Same H1 H → H D = some (.dK ys) → ys.length = n → (∀ (j : Nat) k y, ys[j]? = some (k, y) → k = key j ∧ R j y (del D H)) → Qd H) :
    ∃ W : Nat → Nat → Hp → Prop, (∃ m, W 0 m (upd H1 D (.dK []))) ∧ ∀ i m H, W i m H →
      (J.stop i H ∧ Qd H) ∨ (J.go i H ∧ ∃ Nx : Hp → Prop, (∀ H', Nx H' → ∃ m', m' < m ∧ W (i + 1) m' H') ∧ ∀ x H', J.yld i H x H' → gName ix x (wipe σ vs) H' fun σ2 H2 => wipe σ2 vs = wipe σ vs ∧ tYes σ2 H2 fun b H3 =>
        if b = true then tVar kx σ2 H3 fun y H4 => tv σ2 H4 fun z H5 => ∃ kvs k, y = kV k ∧ H5 D = some (.dK kvs) ∧ kvs.length < sizeLine ∧ Nx (upd H5 D (.dK (putK kvs k z))) else Nx H3) := by
  refine dc_it w (fun i H => ∃ ys, Same H1 H ∧ H D = some (.dK ys) ∧ ys.length = i ∧ ∀ (j : Nat) k y, ys[j]? = some (k, y) → k = key j ∧ R j y (del D H)) ⟨[], same_new hD, upd_same, rfl, fun j k y e => by simp at e⟩ (fun i H _ ⟨ys, s, _⟩ => hG H s) ?_ (fun H ⟨ys, s, e, hl, hr⟩ => hd H ys s e hl hr)
  rintro i x H H' hi ⟨ys, s, e, hl, hr⟩ hy
  have key2 := hs i x H H' (fun z H5 => ∃ kvs k, kV (key i) = kV k ∧ H5 D = some (.dK kvs) ∧ kvs.length < sizeLine ∧ ∃ ys, Same H1 (upd H5 D (.dK (putK kvs k z))) ∧ (upd H5 D (.dK (putK kvs k z))) D = some (.dK ys) ∧ ys.length = i + 1 ∧ ∀ (j : Nat) k' y, ys[j]? = some (k', y) → k' = key j ∧ R j y (del D (upd H5 D (.dK (putK kvs k z))))) hi s ⟨_, e⟩ hy ?_
  · exact ⟨hw x, yes_if ⟨_, key2.1, key2.2⟩⟩
  · intro z H4 s4 r4
    have hno : valV ys (key i) = none := by
      cases q : valV ys (key i) with
      | none => rfl
      | some v0 =>
        obtain ⟨p, hp, ep⟩ := List.mem_map.mp (valV_in q)
        obtain ⟨j, hj, ej⟩ := List.getElem_of_mem hp
        have e2 : ys[j]? = some (p.1, p.2) := by rw [List.getElem?_eq_getElem hj, ej]
        have e3 := (hr j _ _ e2).1
        rw [ep] at e3
        have := hk i j hi (by omega) e3
        omega
    refine ⟨ys, key i, rfl, s4 _ _ e, Nat.lt_of_lt_of_le (by omega) hn, putK ys (key i) z, same_upd (s.trans s4) hD, upd_same, by rw [putK_new z hno]; simp [hl], fun j k y ez => ?_⟩
    rw [putK_new z hno] at ez
    rw [del_upd]
    by_cases hj : j < ys.length
    · rw [List.getElem?_append_left hj] at ez
      exact ⟨(hr j k y ez).1, hR j y _ _ (same_del s4) (hr j k y ez).2⟩
    · have hj2 : j = ys.length := by
        have := (List.getElem?_eq_some_iff.mp ez).1
        simp at this
        omega
      subst hj2
      rw [List.getElem?_append_right (Nat.le_refl _)] at ez
      simp at ez
      obtain ⟨rfl, rfl⟩ := ez
      rw [hl]
      exact ⟨rfl, r4⟩
theorem nd_key {S : List Nat} (hS : S.Nodup) : ∀ i j, i < S.length → j < S.length → (Sum.inl ((S.getD i 0 : Nat) : Int) : Key) = Sum.inl ((S.getD j 0 : Nat) : Int) → i = j := fun i j hi hj e => by
  have e1 := Sum.inl.inj e
  have e2 : S[i] = S[j] := by
    have : S.getD i 0 = S.getD j 0 := by omega
    simpa [hi, hj] using this
  exact (List.getElem_inj hS).mp e2
theorem nkeyAt_same {H H' : Hp} {k : NK} {a : Addr} (s : Same H H') (h : NKeyAt H k a) : NKeyAt H' k a := by
  obtain ⟨t, h1, h2⟩ := h
  exact ⟨t, s _ _ h1, s _ _ h2⟩
theorem nkeys_same {H H' : Hp} (s : Same H H') {ks : List NK} {as : List Addr} (h : NKeys H ks as) : NKeys H' ks as := NKeys.tups (fun _ _ e => s _ _ e) h
theorem valV_at : ∀ {ys : List (Key × V)} {i : Nat} {k : Key} {y : V}, (ys.map (·.1)).Nodup → ys[i]? = some (k, y) → valV ys k = some y
  | [], i, k, y, _, h => by simp at h
  | p :: ys, 0, k, y, _, h => by
    simp at h
    subst h
    unfold valV
    simp
  | p :: ys, i + 1, k, y, hn, h => by
    simp only [List.map_cons, List.nodup_cons] at hn
    have h : ys[i]? = some (k, y) := by simpa using h
    have hne : p.1 ≠ k := fun z => hn.1 (by rw [z]; exact List.mem_map.mpr ⟨(k, y), List.mem_of_getElem? h, rfl⟩)
    have ih := valV_at (k := k) hn.2 h
    unfold valV at ih ⊢
    rw [List.find?_cons, decide_eq_false hne]
    exact ih
theorem getD_of {S : List Nat} {i : Nat} (h : i < S.length) : S.getD i 0 = S[i] := by simp [h]
theorem list_of {ys : List V} {S : List Nat} {f : Nat → Nat} (hl : ys.length = S.length) (h : ∀ (j : Nat) y, ys[j]? = some y → y = vN (f (S.getD j 0))) : ys = (S.map f).map vN := by
  refine List.ext_getElem? fun j => ?_
  by_cases hj : j < ys.length
  · have hj2 : j < S.length := by omega
    rw [List.getElem?_eq_getElem hj, h j ys[j] (List.getElem?_eq_getElem hj), getD_of hj2]
    simp [hj2]
  · rw [List.getElem?_eq_none (by omega), List.getElem?_eq_none (by simp; omega)]
section
variable {P : Program} {w : World} {K : PySem.W.Frag} {mg : Str → Option Value} {base : Heap}
def boolsL (ys : List Bool) : PyData := .list (ys.map fun b => PyData.bool b)
def sp_classes_of (K : PySem.W.Frag) : Sp := fun vs H Q _ => ∃ (rows : List (List Nat)) (yes : List Bool) (v u : V) (a : Addr) (stands : List Nat), vs = [v, u, .ref a] ∧ Dp K H v (rowsL rows) ∧ Dp K H u (boolsL yes) ∧ H a = some (.lst (stands.map vN)) ∧
  rows.length ≤ 60 ∧ yes.length = rows.length ∧ (∀ x ∈ stands, x < rows.length) ∧ stands.Nodup ∧ (∀ x ∈ stands, ∀ y ∈ rows.getD x [], y ∈ stands) ∧ (∀ r ∈ rows, r.length ≤ 10) ∧
  ∀ H' p, Same H H' → H' p = some (.dK (dcI (fun s => vN (classes rows stands (yes0 yes) s)) stands)) → Q (.ref p) H'
theorem sc_classes_of : FnScope ["rows", "yes", "stands", "marks", "many", "told", "order", "stand", "later"] ["rows", "yes", "stands"] (defScope s_classes_of) := ⟨rfl, rfl, rfl, by decide +kernel, rfl, by decide +kernel, by decide +kernel⟩
theorem ok_classes_of (T : Tx K mg) : FnOk P w K mg base CX0 1 T.classes_of.f T.classes_of.fd ["rows", "yes", "stands"] (sp_classes_of K) := by
  have sc := sc_classes_of
  refine T.classes_of.F.ok sc (fun vs H Q E h => ?_) (fun cdv A outer s H vs Q E hr h => ?_)
  · obtain ⟨_, _, _, _, _, _, rfl, _⟩ := h; rfl
  · obtain ⟨rows, yes, v, u, a, stands, rfl, hv, hu, ha, hn, hy, hb, hd, hc, hrl, q⟩ := h
    refine ⟨_, (pss_cons (ps_set (i := 3) sc.nd rfl (Or.inr rfl) (pe_dc (own := [("stand", 7)]) rfl sc.nd (pi_list (pv 2)) (blkOk_by (N := ["rows", "yes", "stands", "marks", "many", "told", "order", "stand", "later"]) (sc := defScope s_classes_of) (by decide +kernel)) (fun _ _ _ _ _ => (pg_name (i := 7) (x := "stand") sc.nd rfl (Or.inl rfl) (hf := Or.inr rfl))) (fun _ _ _ _ _ => pts_nil) (fun _ _ _ _ _ => (pv 7)) (fun _ _ _ _ _ => (pe_T (T := "int") call_int1 T.b_int (pa_cons (pe_ix (r := rIxL K) ix_list (pv 1) (pv 7) (fun _ _ => rfl)) pa_nil)))))
      (pss_cons (ps_set (i := 4) sc.nd rfl (Or.inl rfl) (pe_lenSet rfl T.b_len rfl T.b_set (pe_lc (own := [("stand", 7)]) rfl sc.nd (pi_list (pv 2)) (blkOk_by (N := ["rows", "yes", "stands", "marks", "many", "told", "order", "stand", "later"]) (sc := defScope s_classes_of) (by decide +kernel)) (fun _ _ _ _ _ => (pg_name (i := 7) (x := "stand") sc.nd rfl (Or.inl rfl) (hf := Or.inr rfl))) (fun _ _ _ _ _ => pts_nil) (fun _ _ _ _ _ => (pe_dget (hu_of hr) (pv 3) (pv 7) (fun _ _ => rfl))))))
      (pss_one (ps_while PassesOwn.never (pt_val pe_bl)
        (pss_cons (ps_set (i := 5) sc.nd rfl (Or.inr rfl) (pe_dc (own := [("stand", 7)]) rfl sc.nd (pi_list (pv 2)) (blkOk_by (N := ["rows", "yes", "stands", "marks", "many", "told", "order", "stand", "later"]) (sc := defScope s_classes_of) (by decide +kernel)) (fun _ _ _ _ _ => (pg_name (i := 7) (x := "stand") sc.nd rfl (Or.inl rfl) (hf := Or.inr rfl))) (fun _ _ _ _ _ => pts_nil) (fun _ _ _ _ _ => (pv 7)) (fun _ _ _ _ _ => (pe_tup (pa_cons (pe_dget (hu_of hr) (pv 3) (pv 7) (fun _ _ => rfl)) (pa_cons (pe_T (T := "tuple") (r := rTupOf K) call_tuple_of T.b_tuple (pa_cons (pe_lc (own := [("later", 8)]) rfl sc.nd (@id (PI _ _ _ (iTup K (tOp (rIxL K) (tVar 0) (tVar 7)))) (pi_tup (pe_ix (r := rIxL K) ix_list (pv 0) (pv 7) (fun _ _ => rfl)))) (blkOk_re (blkOk_by (N := ["rows", "yes", "stands", "marks", "many", "told", "order", "stand", "later"]) (by decide +kernel))) (fun _ _ _ _ _ => (pg_name (i := 8) (x := "later") sc.nd rfl (Or.inl rfl) (hf := Or.inr rfl))) (fun _ _ _ _ _ => pts_nil) (fun _ _ _ _ _ => (pe_dget (hu_of hr) (pv 3) (pv 8) (fun _ _ => rfl)))) pa_nil)) pa_nil))))))
        (pss_cons (ps_set (i := 6) sc.nd rfl (Or.inr rfl) pe_dnewN)
        (pss_cons (ps_for PassesOwn.never rfl (pi_list (pv 2)) (pg_name (i := 7) (x := "stand") sc.nd rfl (Or.inl rfl))
          (pss_one (ps_expr (pe_nset (Nat.lt_of_le_of_lt (Nat.add_le_add_left (by decide : 1 + 8 ≤ 64) _) hr.units) (pv 6) (pe_dget (hu_of hr) (pv 5) (pv 7) (fun _ _ => rfl)) (pe_B (id := "len") call_lenN T.b_len (pa_cons (pv 6) pa_nil)) ⟨rfl, rfl, rfl, rfl⟩))))
        (pss_cons (ps_set (i := 3) sc.nd rfl (Or.inr rfl) (pe_dc (own := [("stand", 7)]) rfl sc.nd (pi_list (pv 2)) (blkOk_by (N := ["rows", "yes", "stands", "marks", "many", "told", "order", "stand", "later"]) (sc := defScope s_classes_of) (by decide +kernel)) (fun _ _ _ _ _ => (pg_name (i := 7) (x := "stand") sc.nd rfl (Or.inl rfl) (hf := Or.inr rfl))) (fun _ _ _ _ _ => pts_nil) (fun _ _ _ _ _ => (pv 7)) (fun _ _ _ _ _ => (@id (PE _ _ (tNGet P w (tVar 6) (tDGet (tVar 5) (tVar 7)))) (pe_nget (Nat.lt_of_le_of_lt (Nat.add_le_add_left (by decide : 1 + 8 ≤ 64) _) hr.units) (pv 6) (pe_dget (hu_of hr) (pv 5) (pv 7) (fun _ _ => rfl)) (fun _ _ => rfl))))))
        (pss_cons (ps_if (pt_cmpR op_eq (pe_B (id := "len") call_lenN T.b_len (pa_cons (pv 6) pa_nil)) (pv 4) (nomark _))
          (pss_one (ps_ret (pv 3)))
          pss_nil)
        (pss_one (ps_set (i := 4) sc.nd rfl (Or.inl rfl) (pe_B (id := "len") call_lenN T.b_len (pa_cons (pv 6) pa_nil))))))))))))), ?_⟩
    have hsl : stands.length ≤ 60 := Nat.le_trans (nodup_lt hd hb) hn
    have hml : (stands.map vN).length = stands.length := by simp
    obtain ⟨ua, us, rfl, hus, hub⟩ := dp_lst hu
    have e := dpAll_bools hub
    subst e
    obtain ⟨va, vs, rfl, hvs, hvb⟩ := dp_lst hv
    refine seq_via (fun σ' H' => ∃ M, σ' = [some (.ref va), some (.ref ua), some (.ref a), some (.ref M), none, none, none, none, none] ∧ Same H H' ∧ H' M = some (.dK (dcI (fun s => vN (yes0 yes s)) stands))) ?_ fun k => ?_
    · rintro σ1 H1 ⟨M, rfl, s1, m1⟩
      refine seq_via (fun σ' H' => σ' = [some (.ref va), some (.ref ua), some (.ref a), some (.ref M), some (vN (dst (stands.map (yes0 yes))).length), none, none, none, none] ∧ Same H H' ∧ H' M = some (.dK (dcI (fun s => vN (yes0 yes s)) stands))) ?_ fun k => ?_
      · rintro σ2 H2 ⟨rfl, s2, m2⟩
        obtain ⟨m0, t, r⟩ := cl_runs rows stands (yes0 yes)
        refine ⟨fun m σ Hc => ∃ st, Runs (clStep rows stands) (ClI stands) m st t ∧ ∃ M o5 o6 o7 o8, σ = [some (.ref va), some (.ref ua), some (.ref a), some (.ref M), some (vN st.2), o5, o6, o7, o8] ∧ Same H Hc ∧ Hc M = some (.dK (dcI (fun s => vN (st.1 s)) stands)), ⟨m0, _, r, M, _, _, _, _, rfl, s2, m2⟩, ?_⟩
        rintro m σ3 H3 ⟨st, r3, M3, o5, o6, o7, o8, rfl, s3, m3⟩
        refine ⟨_, rfl, iteT ⟨fun σ' H' => ∃ m', m' < m ∧ ∃ st, Runs (clStep rows stands) (ClI stands) m' st t ∧ ∃ M o5 o6 o7 o8, σ' = [some (.ref va), some (.ref ua), some (.ref a), some (.ref M), some (vN st.2), o5, o6, o7, o8] ∧ Same H H' ∧ H' M = some (.dK (dcI (fun s => vN (st.1 s)) stands)), fun _ _ h => h, ?_⟩⟩
        refine seq_via (fun σ' H' => ∃ T ys, σ' = [some (.ref va), some (.ref ua), some (.ref a), some (.ref M3), some (vN st.2), some (.ref T), o6, o7, o8] ∧ Same H3 H' ∧ H' T = some (.dK ys) ∧ ∀ s ∈ stands, ∃ a, valV ys (Sum.inl (s : Int)) = some (.ref a) ∧ NKeyAt H' (sig rows st.1 s) a) ?_ fun k => ?_
        · rintro σ4 H4 ⟨T, ys, rfl, s4, t4, n4⟩
          intro O hO
          have s5 : Same H3 (upd H4 O (NDO P w O [] [])) := s4.trans (same_new hO)
          have hOD : H3 O = none := none_of s4 hO
          have hTO : T ≠ O := ne_of_none t4 hO
          have t5 : (upd H4 O (NDO P w O [] [])) T = some (.dK ys) := by rw [upd_ne hTO]; exact t4
          have n5 : ∀ s ∈ stands, ∃ a, valV ys (Sum.inl (s : Int)) = some (.ref a) ∧ NKeyAt (upd H4 O (NDO P w O [] [])) (sig rows st.1 s) a := fun s hs => by
            obtain ⟨a, h1, h2⟩ := n4 s hs
            exact ⟨a, h1, nkeyAt_same (same_new hO) h2⟩
          refine ⟨_, rfl, a, rfl, ⟨_, SqL.of (s5 _ _ (s3 _ _ ha))⟩, ?_⟩
          refine for_it walk_list (fun j σ' Hc => ∃ o7 as, σ' = [some (.ref va), some (.ref ua), some (.ref a), some (.ref M3), some (vN st.2), some (.ref T), some (.ref O), o7, o8] ∧ Same H3 Hc ∧ Hc T = some (.dK ys) ∧ (∀ s ∈ stands, ∃ a, valV ys (Sum.inl (s : Int)) = some (.ref a) ∧ NKeyAt Hc (sig rows st.1 s) a) ∧
            Hc O = some (NDO P w O (mrg [] ((stands.map (sig rows st.1)).take j)) as) ∧ NKeys Hc (mrg [] ((stands.map (sig rows st.1)).take j)) as) ⟨_, [], rfl, s5, t5, n5, upd_same, trivial⟩ (fun _ _ _ _ ⟨_, _, _, s, _⟩ => SqL.of (s _ _ (s3 _ _ ha))) ?_ ?_
          · rintro i y σ' Hx Hc hi ⟨o7, as, rfl, s6, t6, n6, e6, k6⟩ ⟨rfl, hy⟩
            rw [hml] at hi
            rw [List.getElem?_map, List.getElem?_eq_getElem hi] at hy
            cases hy
            have hsi : (stands.map (sig rows st.1))[i]? = some (sig rows st.1 stands[i]) := by simp [hi]
            have hnext : mrg [] ((stands.map (sig rows st.1)).take (i + 1)) = addK (mrg [] ((stands.map (sig rows st.1)).take i)) (sig rows st.1 stands[i]) := take_fold hsi
            have hlen : (mrg [] ((stands.map (sig rows st.1)).take i)).length ≤ stands.length := by
              have h1 : (mrg [] ((stands.map (sig rows st.1)).take i)).length ≤ ((stands.map (sig rows st.1)).take i).length := dst_le _
              rw [List.length_take, List.length_map] at h1
              omega
            generalize mrg [] ((stands.map (sig rows st.1)).take i) = os at e6 k6 hnext hlen
            obtain ⟨b, hb1, hb2⟩ := n6 stands[i] (List.getElem_mem hi)
            have hg : DGet Hc T (vN stands[i]) (some (.ref b)) := by
              have := DGet.k (k := Sum.inl ((stands[i] : Nat) : Int)) t6
              rw [hb1] at this
              exact this
            refine ⟨_, rfl, O, os, as, rfl, e6, k6, _, rfl, _, rfl, T, _, rfl, hg, _, rfl, O, os, as, rfl, e6, k6, b, sig rows st.1 stands[i], e6, k6, rfl, hb2, rfl, line9 (by omega), fun hm v => ?_, fun hm v => ?_⟩
            · rw [addK_in hm] at hnext
              rw [hnext]
              exact ⟨_, as, rfl, s6, t6, n6, e6, k6⟩
            · rw [addK_out hm] at hnext
              rw [hnext]
              have ht : ∀ c xs, Hc c = some (.tup xs) → (upd Hc O (NDO P w O (os ++ [sig rows st.1 stands[i]]) (as ++ [b]))) c = some (.tup xs) := fun c xs hc => by
                rw [upd_ne (fun z => ?_)]
                · exact hc
                · rw [z, e6] at hc
                  cases hc
              refine ⟨_, _, rfl, same_upd s6 hOD, by rw [upd_ne hTO]; exact t6, fun s hs => ?_, upd_same, NKeys.tups ht (NKeys.snoc k6 hb2)⟩
              obtain ⟨c, h1, t2, h2, h3⟩ := n6 s hs
              exact ⟨c, h1, t2, ht _ _ h2, ht _ _ h3⟩
          · rintro σ' Hc ⟨o7, as, rfl, s6, t6, n6, e6, k6⟩
            have htk : (stands.map (sig rows st.1)).take (stands.map vN).length = stands.map (sig rows st.1) := List.take_of_length_le (by simp)
            rw [htk] at e6 k6
            have e6 : Hc O = some (NDO P w O (ord rows stands st.1) as) := e6
            have k6 : NKeys Hc (ord rows stands st.1) as := k6
            have hol : (ord rows stands st.1).length ≤ stands.length := by
              have := dst_le (stands.map (sig rows st.1))
              simpa [ord] using this
            dsimp only
            refine seq_via (fun σ' H' => ∃ M, σ' = [some (.ref va), some (.ref ua), some (.ref a), some (.ref M), some (vN st.2), some (.ref T), some (.ref O), o7, o8] ∧ Same Hc H' ∧ H' M = some (.dK (dcI (fun s => vN (newM rows stands st.1 s)) stands))) ?_ fun k => ?_
            · rintro σ7 H7 ⟨M7, rfl, s7, m7⟩
              have e7 := s7 _ _ e6
              have k7 := nkeys_same s7 k6
              refine ⟨_, rfl, O, _, as, rfl, e7, k7, _, rfl, rfl, _, rfl, ?_⟩
              have hdec : decide (V.int ((ord rows stands st.1).length : Int) = vN st.2) = decide ((ord rows stands st.1).length = st.2) := by
                rw [dec_int]
                by_cases h : (ord rows stands st.1).length = st.2
                · rw [decide_eq_true h, h]; simp
                · rw [decide_eq_false h]
                  simp
                  omega
              rw [hdec]
              have hS : Same H H7 := s3.trans (s6.trans s7)
              cases r3 with
              | stop hi e =>
                have he : (ord rows stands t.1).length = t.2 := by
                  unfold clStep at e
                  by_cases h : (ord rows stands t.1).length = t.2
                  · exact h
                  · rw [if_neg h] at e; cases e
                rw [decide_eq_true he]
                refine iteT ⟨_, rfl, q _ _ hS ?_⟩
                rw [m7]
                unfold classes
                rw [fin_eq r]
              | @go m1 _ s' _ hi e r' =>
                have he : ¬ (ord rows stands st.1).length = st.2 := fun h => by
                  unfold clStep at e
                  rw [if_pos h] at e
                  cases e
                have e : s' = (newM rows stands st.1, (ord rows stands st.1).length) := by
                  unfold clStep at e
                  rw [if_neg he] at e
                  exact (Option.some.inj e).symm
                subst e
                rw [decide_eq_false he]
                refine iteF ⟨_, rfl, O, _, as, rfl, e7, k7, m1, Nat.lt_succ_self _, _, r', M7, _, _, _, _, rfl, hS, m7⟩
            · refine ⟨_, rfl, a, rfl, ⟨_, SqL.of (s6 _ _ (s3 _ _ ha))⟩, fun D hD => ?_⟩
              refine dc_gen (kx := 7) walk_list (fun j => Sum.inl ((stands.getD j 0 : Nat) : Int)) (fun j y _ => y = vN (newM rows stands st.1 (stands.getD j 0))) (fun _ _ _ _ _ h => h) (by rw [hml]; exact line8 (by omega)) (fun i j hi hj => nd_key hd i j (by omega) (by omega)) hD (fun H s => SqL.of (s _ _ (s6 _ _ (s3 _ _ ha)))) (fun x => rfl) (fun i x H' Hx Q hi s y k => ?_) fun H1 ys s1 e1 l1 r1 => k _ _ ⟨D, rfl, s1, by rw [e1, dcI_of (S := stands) (f := fun s => vN (newM rows stands st.1 s)) (by omega) r1]⟩
              obtain ⟨rfl, hx⟩ := y
              rw [hml] at hi
              rw [List.getElem?_map, List.getElem?_eq_getElem hi] at hx
              cases hx
              obtain ⟨b, hb1, hb2⟩ := n6 stands[i] (List.getElem_mem hi)
              have hg : DGet Hx T (vN stands[i]) (some (.ref b)) := by
                have := DGet.k (k := Sum.inl ((stands[i] : Nat) : Int)) (s _ _ t6)
                rw [hb1] at this
                exact this
              have hmem : sig rows st.1 stands[i] ∈ ord rows stands st.1 := mem_dst.mpr (List.mem_map.mpr ⟨_, List.getElem_mem hi, rfl⟩)
              refine ⟨by simp [hi]; rfl, _, rfl, _, rfl, _, rfl, T, _, rfl, hg, O, _, as, b, sig rows st.1 stands[i], place (ord rows stands st.1) (sig rows st.1 stands[i]), rfl, s _ _ e6, nkeys_same s k6, rfl, nkeyAt_same s hb2, place_get hmem, k _ _ (Same.refl _) ?_⟩
              rw [getD_of hi]
              rfl
        · refine ⟨_, rfl, a, rfl, ⟨_, SqL.of (s3 _ _ ha)⟩, fun D hD => ?_⟩
          refine dc_gen2 (kx := 7) walk_list (fun j => Sum.inl ((stands.getD j 0 : Nat) : Int)) (fun j y H' => ∃ a, y = .ref a ∧ NKeyAt H' (sig rows st.1 (stands.getD j 0)) a) (fun _ _ _ _ s ⟨a, e, h⟩ => ⟨a, e, nkeyAt_same s h⟩) (by rw [hml]; exact line8 (by omega)) (fun i j hi hj => nd_key hd i j (by omega) (by omega)) hD (fun H s => SqL.of (s _ _ (s3 _ _ ha))) (fun x => rfl) (fun i x H4 Hx Q hi s hDs y k => ?_) fun H4 ys s4 e4 l4 r4 => k _ _ ⟨D, ys, ?_, s4, e4, fun x hx => ?_⟩
          · obtain ⟨rfl, hx⟩ := y
            obtain ⟨od, hDs⟩ := hDs
            rw [hml] at hi
            rw [List.getElem?_map, List.getElem?_eq_getElem hi] at hx
            cases hx
            have hsm := List.getElem_mem hi
            obtain ⟨b, hb1, hb2⟩ := row_of hvb (hb _ hsm)
            have hcl := hc _ hsm
            have hrw : (rows.getD stands[i] []).length ≤ 10 := by
              rw [List.getD_eq_getElem?_getD, List.getElem?_eq_getElem (hb _ hsm)]
              exact hrl _ (List.getElem_mem _)
            have hsig : sig rows st.1 stands[i] = (st.1 stands[i], (rows.getD stands[i] []).map st.1) := rfl
            generalize rows.getD stands[i] [] = row at hb2 hcl hrw hsig
            have s0 := s3.trans s
            refine ⟨by simp [hi]; rfl, _, rfl, _, rfl, M3, _, rfl, dget_dc (s _ _ m3) hsm, ?_⟩
            refine ⟨_, rfl, _, rfl, va, _, _, _, rfl, rfl, same_l s0 hvs, atI_nat hb1, b, rfl, ⟨_, same_t s0 hb2⟩, fun D2 hD2 => ?_⟩
            have hrl2 : (row.map vN).length = row.length := by simp
            refine lc_gen walk_tup (fun j y _ => y = vN (st.1 (row.getD j 0))) (fun _ _ _ _ _ h => h) (by rw [hrl2]; exact line8 (by omega)) hD2 (fun H s => same_t (s0.trans s) hb2) (fun x => rfl) (fun j x H5 Hy Q2 hj s5 y k2 => ?_) fun H5 ys5 s5 e5 l5 r5 => ?_
            · obtain ⟨rfl, hx⟩ := y
              rw [hrl2] at hj
              rw [List.getElem?_map, List.getElem?_eq_getElem hj] at hx
              cases hx
              exact ⟨_, rfl, _, rfl, M3, _, rfl, dget_dc (s5 _ _ (s _ _ m3)) (hcl _ (List.getElem_mem hj)), k2 _ _ (Same.refl _) (by rw [getD_of hj])⟩
            · rw [list_of (S := row) (by omega) r5] at e5
              refine ⟨D2, _, rfl, .inl ⟨SqL.of e5, fun l hl => ⟨by show 2 ≤ sizeLine; exact line8 (by omega), fun t ht => ?_⟩⟩⟩
              have s6 := s5.trans (same_new (o := .tup ((row.map st.1).map vN)) hl)
              have s7 := s6.trans (same_new (o := .tup [vN (st.1 stands[i]), V.ref l]) ht)
              have htD : t ≠ D := fun z => by rw [z, s6 _ _ hDs] at ht; cases ht
              have hlD : l ≠ D := fun z => by rw [z, s5 _ _ hDs] at hl; cases hl
              have hlt : l ≠ t := ne_of_none upd_same ht
              refine k _ _ s7 ⟨t, rfl, l, ?_, ?_⟩
              · rw [del_ne htD, upd_same, getD_of hi, hsig]
              · rw [del_ne hlD, upd_ne hlt, upd_same, getD_of hi, hsig]
          · rfl
          · obtain ⟨i, hi⟩ := List.getElem?_of_mem hx
            have hil := (List.getElem?_eq_some_iff.mp hi).1
            have hyi : ys[i]? = some (ys[i].1, ys[i].2) := List.getElem?_eq_getElem (by omega)
            obtain ⟨e1, a1, e2, h2⟩ := r4 i _ _ hyi
            have ex : stands.getD i 0 = x := by rw [List.getD_eq_getElem?_getD, hi]; rfl
            rw [ex] at e1 h2
            have hnd : (ys.map (·.1)).Nodup := by
              rw [List.nodup_iff_pairwise_ne, List.pairwise_iff_getElem]
              intro i j hi hj hlt z
              rw [List.length_map] at hi hj
              rw [List.getElem_map, List.getElem_map] at z
              have z1 := (r4 i ys[i].1 ys[i].2 (List.getElem?_eq_getElem hi)).1
              have z2 := (r4 j ys[j].1 ys[j].2 (List.getElem?_eq_getElem hj)).1
              rw [z1, z2] at z
              have := nd_key hd i j (by omega) (by omega) z
              omega
            refine ⟨a1, ?_, nkeyAt_same del_le h2⟩
            have := valV_at hnd hyi
            rw [e1, e2] at this
            exact this
      · refine ⟨_, rfl, a, rfl, ⟨_, SqL.of (s1 _ _ ha)⟩, fun D hD => ?_⟩
        refine lc_gen walk_list (fun j y _ => y = vN (yes0 yes (stands.getD j 0))) (fun _ _ _ _ _ h => h) (by rw [hml]; exact line8 (by omega)) hD (fun H s => SqL.of (s _ _ (s1 _ _ ha))) (fun x => rfl) (fun i x H' Hx Q hi s y k => ?_) fun H3 ys s3 e3 l3 r3 => ?_
        · obtain ⟨rfl, hx⟩ := y
          rw [hml] at hi
          rw [List.getElem?_map, List.getElem?_eq_getElem hi] at hx
          cases hx
          exact ⟨_, rfl, _, rfl, M, _, rfl, dget_dc (s _ _ m1) (List.getElem_mem hi), k _ _ (Same.refl _) (by rw [getD_of hi])⟩
        · rw [list_of (S := stands) (by omega) r3] at e3
          exact ⟨D, stands.map (yes0 yes), rfl, SqL.of e3, by simp; omega, k _ _ ⟨rfl, s1.trans s3, s3 _ _ m1⟩⟩
    · refine ⟨_, rfl, a, rfl, ⟨_, SqL.of ha⟩, fun D hD => ?_⟩
      refine dc_gen (kx := 7) walk_list (fun j => Sum.inl ((stands.getD j 0 : Nat) : Int)) (fun j y _ => y = vN (yes0 yes (stands.getD j 0))) (fun _ _ _ _ _ h => h) (by rw [hml]; exact line8 (by omega)) (fun i j hi hj => nd_key hd i j (by omega) (by omega)) hD (fun H s => SqL.of (s _ _ ha)) (fun x => rfl) (fun i x H' Hx Q hi s y k => ?_) fun H1 ys s1 e1 l1 r1 => k _ _ ⟨D, rfl, s1, by rw [e1, dcI_of (S := stands) (f := fun s => vN (yes0 yes s)) (by omega) r1]⟩
      obtain ⟨rfl, hx⟩ := y
      rw [hml] at hi
      rw [List.getElem?_map, List.getElem?_eq_getElem hi] at hx
      cases hx
      have hsi := hb _ (List.getElem_mem hi)
      have hyi : (yes.map V.bl)[stands[i]]? = some (.bl (yes.getD stands[i] false)) := by
        rw [List.getElem?_map, List.getD_eq_getElem?_getD, List.getElem?_eq_getElem (by omega)]; rfl
      refine ⟨by simp [hi]; rfl, _, rfl, _, rfl, ua, _, _, _, rfl, rfl, same_l s hus, atI_nat hyi, .inr ⟨_, rfl, k _ _ (Same.refl _) ?_⟩⟩
      rw [getD_of hi]
      unfold yes0
      split <;> rfl
end
end An
end
section
set_option Elab.async false
set_option maxRecDepth 100000
set_option maxHeartbeats 4000000
set_option linter.all false
/-! least_of. -/
namespace An
open PySem L2
theorem place_snoc {ks : List Nat} {k x : Nat} (h : x ∈ ks) : place (ks ++ [k]) x = place ks x := by
  unfold place
  rw [List.idxOf_append, if_pos h]
theorem place_last {ks : List Nat} {k : Nat} (h : k ∉ ks) : place (ks ++ [k]) k = ks.length := by
  unfold place
  rw [List.idxOf_append, if_neg h]
  simp
theorem names_put {ks : List Nat} {k : Nat} (h : k ∉ ks) : putK (dcI (fun k => vN (place ks k)) ks) (Sum.inl (k : Int)) (vN ks.length) = dcI (fun x => vN (place (ks ++ [k]) x)) (ks ++ [k]) := by
  rw [putK_new _ (by rw [dcI_get, if_neg h])]
  unfold dcI
  rw [List.map_append]
  congr 1
  · refine List.map_congr_left fun x hx => ?_
    show ((Sum.inl (x : Int) : Key), vN (place ks x)) = (Sum.inl (x : Int), vN (place (ks ++ [k]) x))
    rw [place_snoc hx]
  · simp only [List.map_cons, List.map_nil]
    rw [place_last h]
theorem heads_len {m : Nat → Nat} {all : List Nat} {st : List Nat × List Nat} (h : HeadI m all st) : st.2.length = st.1.length := by rw [h.e]; simp
theorem heads_le {m : Nat → Nat} {all : List Nat} {st : List Nat × List Nat} (h : HeadI m all st) : st.1.length ≤ all.length := by
  have hn : st.1.Nodup := by
    have := h.nd
    rw [h.e] at this
    exact List.Pairwise.of_map m (fun _ _ hne e => hne (congrArg m e)) this
  exact nodup_le hn h.s
theorem lc_gen2 {J : It} {n : Nat} {G : Hp → Prop} {Y : Nat → Hp → V → Hp → Prop} {H1 : Hp} {D : Addr} (w : Walk J n G Y) {ix : Nat} {te : TE} {vs : List Nat} {σ : L2.St} {Qd : Hp → Prop} (R : Nat → V → Hp → Prop) (hR : ∀ j v H H', Same H H' → R j v H → R j v H') (hn : n ≤ sizeLine)
    (hD : H1 D = none) (hG : ∀ H, Same H1 H → G H) (hw : ∀ x, wipe ((wipe σ vs).set ix (some x)) vs = wipe σ vs)
    (hs : ∀ i x H H' (Q : VK), i < n → Same H1 H → (∃ o, H D = some o) → Y i H x H' → (∀ y H4, Same H H4 → R i y (del D H4) → Q y H4) → te ((wipe σ vs).set ix (some x)) H' Q)
    (hd : ∀ H ys, Same H1 H → H D = some (.lst ys) → ys.length = n → (∀ (j : Nat) y, ys[j]? = some y → R j y (del D H)) → Qd H) :
    ∃ W : Nat → Nat → Hp → Prop, (∃ m, W 0 m (upd H1 D (.lst []))) ∧ ∀ i m H, W i m H →
      (J.stop i H ∧ Qd H) ∨ (J.go i H ∧ ∃ Nx : Hp → Prop, (∀ H', Nx H' → ∃ m', m' < m ∧ W (i + 1) m' H') ∧ ∀ x H', J.yld i H x H' → gName ix x (wipe σ vs) H' fun σ2 H2 => wipe σ2 vs = wipe σ vs ∧ tYes σ2 H2 fun b H3 =>
        if b = true then te σ2 H3 fun y H4 => ∃ acc, H4 D = some (.lst acc) ∧ acc.length < sizeLine ∧ Nx (upd H4 D (.lst (acc ++ [y]))) else Nx H3) := by
  refine lc_it w (fun i H => ∃ ys, Same H1 H ∧ H D = some (.lst ys) ∧ ys.length = i ∧ ∀ (j : Nat) y, ys[j]? = some y → R j y (del D H)) ⟨[], same_new hD, upd_same, rfl, fun j y e => by simp at e⟩ (fun i H hi ⟨ys, s, _⟩ => hG H s) ?_ (fun H ⟨ys, s, e, hl, hr⟩ => hd H ys s e hl hr)
  rintro i x H H' hi ⟨ys, s, e, hl, hr⟩ hy
  refine ⟨hw x, yes_if (hs i x H H' _ hi s ⟨_, e⟩ hy fun y H4 s4 r4 => ⟨ys, s4 _ _ e, Nat.lt_of_lt_of_le (by omega) hn, ys ++ [y], same_upd (s.trans s4) hD, upd_same, by simp [hl], fun j z ez => ?_⟩)⟩
  rw [del_upd]
  by_cases hj : j < ys.length
  · rw [List.getElem?_append_left hj] at ez
    exact hR j z _ _ (same_del s4) (hr j z ez)
  · have hj2 : j = ys.length := by
      have := (List.getElem?_eq_some_iff.mp ez).1
      simp at this
      omega
    subst hj2
    rw [List.getElem?_append_right (Nat.le_refl _)] at ez
    simp at ez
    subst ez
    rw [hl]
    exact r4
/-- a dict of marks read -/
theorem dget_m {H : Hp} {a : Addr} {f : Nat → Nat} {l : List Nat} {x : Nat} (e : H a = some (.dK (dcI (fun s => vN (f s)) l))) (h : x ∈ l) : DGet H a (vN x) (some (vN (f x))) := dget_dc e h
section
variable {P : Program} {w : World} {K : PySem.W.Frag} {mg : Str → Option Value} {base : Heap}
def sp_least_of (K : PySem.W.Frag) : Sp := fun vs H Q _ => ∃ (L : List Nat) (rows : List (List Nat)) (yes : List Bool) (v u : V), vs = [.str (tx L), v, u] ∧ Dp K H v (rowsL rows) ∧ Dp K H u (boolsL yes) ∧ RowsOk rows ∧
  rows.length ≤ 60 ∧ yes.length = rows.length ∧ (∀ r ∈ rows, r.length ≤ 10) ∧ ∀ H' r, Same H H' → Dp K H' r (rdD (leastOf L rows yes)) → Q r H'
theorem sc_least_of : FnScope ["letters", "rows", "yes", "stands", "marks", "stand", "table", "names", "heads", "later"] ["letters", "rows", "yes"] (defScope s_least_of) := ⟨rfl, rfl, rfl, by decide +kernel, rfl, by decide +kernel, by decide +kernel⟩
theorem ok_least_of (T : Tx K mg) : FnOk P w K mg base CX0 2 T.least_of.f T.least_of.fd ["letters", "rows", "yes"] (sp_least_of K) := by
  have sc := sc_least_of
  refine T.least_of.F.ok sc (fun vs H Q E h => ?_) (fun cdv A outer s H vs Q E hr h => ?_)
  · obtain ⟨_, _, _, _, _, rfl, _⟩ := h; rfl
  · obtain ⟨L, rows, yes, v, u, rfl, hv, hu, hR, hn, hy, hrl, q⟩ := h
    refine ⟨_, (pss_cons (ps_set (i := 3) sc.nd rfl (Or.inl rfl) (pe_callD T.reached (ok_reached T) (hr.mono (by decide)) (pa_cons (pv 1) pa_nil)))
      (pss_cons (ps_set (i := 4) sc.nd rfl (Or.inr rfl) (pe_callD T.classes_of (ok_classes_of T) (hr.mono (by decide)) (pa_cons (pv 1) (pa_cons (pv 2) (pa_cons (pv 3) pa_nil)))))
      (pss_cons (ps_asg (pe_tup (pa_cons pe_dnewK (pa_cons (pe_lst pa_nil) pa_nil))) (pg_tup rfl (pgs_cons (pg_name (i := 7) (x := "names") sc.nd rfl (Or.inr rfl)) (pgs_cons (pg_name (i := 8) (x := "heads") sc.nd rfl (Or.inl rfl)) pgs_nil))))
      (pss_cons (ps_for PassesOwn.never rfl (pi_list (pv 3)) (pg_name (i := 5) (x := "stand") sc.nd rfl (Or.inl rfl))
        (pss_one (ps_if (pt_cmp (pc_dnotin (hu_of hr) (pe_dget (hu_of hr) (pv 4) (pv 5) (fun _ _ => rfl)) (pv 7)))
          (pss_cons (ps_dput (hu_of hr) (pv 7) (pe_dget (hu_of hr) (pv 4) (pv 5) (fun _ _ => rfl)) (pe_B (id := "len") call_len_seq T.b_len (pa_cons (pv 8) pa_nil)) rfl)
          (pss_one (ps_expr (pe_bm PySem.F.plainAttrs_list PySem.F.slot_list_append PySem.F.type_list_append mt_append (pv 8) (pa_cons (pv 5) pa_nil)))))
          pss_nil)))
      (pss_cons (ps_setLc (i := 6) (own := [("stand", 5)]) rfl sc.nd rfl rfl (sw_true rfl rfl rfl (by decide +kernel)) (pi_list (pv 8)) (blkOk_by (N := ["letters", "rows", "yes", "stands", "marks", "stand", "table", "names", "heads", "later"]) (sc := defScope s_least_of) (by decide +kernel)) (fun _ _ _ _ _ => (pg_name (i := 5) (x := "stand") sc.nd rfl (Or.inl rfl) (hf := Or.inr rfl))) (fun _ _ _ _ _ => pts_nil) (fun _ _ _ _ _ => (pe_T (T := "tuple") (r := rTupOf K) call_tuple_of T.b_tuple (pa_cons (pe_lc (own := [("later", 9)]) rfl sc.nd (@id (PI _ _ _ (iTup K (tOp (rIxL K) (tVar 1) (tVar 5)))) (pi_tup (pe_ix (r := rIxL K) ix_list (pv 1) (pv 5) (fun _ _ => rfl)))) (blkOk_re (blkOk_by (N := ["letters", "rows", "yes", "stands", "marks", "stand", "table", "names", "heads", "later"]) (by decide +kernel))) (fun _ _ _ _ _ => (pg_name (i := 9) (x := "later") sc.nd rfl (Or.inl rfl) (hf := Or.inr rfl))) (fun _ _ _ _ _ => pts_nil) (fun _ _ _ _ _ => (pe_dget (hu_of hr) (pv 7) (pe_dget (hu_of hr) (pv 4) (pv 9) (fun _ _ => rfl)) (fun _ _ => rfl)))) pa_nil))))
      (pss_one (ps_ret (pe_tup (pa_cons (pv 0) (pa_cons (pe_T (T := "tuple") call_tuple_of T.b_tuple (pa_cons (pv 6) pa_nil)) (pa_cons (pe_T (T := "tuple") call_tuple_of T.b_tuple (pa_cons (pe_lc (own := [("stand", 5)]) rfl sc.nd (pi_list (pv 8)) (blkOk_by (N := ["letters", "rows", "yes", "stands", "marks", "stand", "table", "names", "heads", "later"]) (sc := defScope s_least_of) (by decide +kernel)) (fun _ _ _ _ _ => (pg_name (i := 5) (x := "stand") sc.nd rfl (Or.inl rfl) (hf := Or.inr rfl))) (fun _ _ _ _ _ => pts_nil) (fun _ _ _ _ _ => (pe_ix (r := rIxL K) ix_list (pv 2) (pv 5) (fun _ _ => rfl)))) pa_nil)) pa_nil))))))))))), ?_⟩
    obtain ⟨ua, us, rfl, hus, hub⟩ := dp_lst hu
    have e := dpAll_bools hub
    subst e
    obtain ⟨va, vs, rfl, hvs, hvb⟩ := dp_lst hv
    have hlt := reached_lt hR
    have hnd : (reachedL rows).Nodup := (reached_end hR).nd
    have hcl := fun x (hx : x ∈ reachedL rows) => reached_closed hR hx
    have hsl : (reachedL rows).length ≤ 60 := Nat.le_trans (nodup_lt hnd hlt) hn
    refine ⟨_, rfl, rows, .ref va, rfl, hv, hR, by omega, fun H1 S s1 e1 => ?_⟩
    refine ⟨_, rfl, _, rfl, _, rfl, rows, yes, .ref va, .ref ua, S, reachedL rows, rfl, dp_same s1 _ _ hv, dp_same s1 _ _ hu, e1, hn, hy, hlt, hnd, hcl, hrl, fun H2 M s2 e2 => ?_⟩
    have e2 : H2 M = some (.dK (dcI (fun s => vN (marksOf rows yes s)) (reachedL rows))) := e2
    have hres : leastOf L rows yes = (L, (headsOf (marksOf rows yes) (reachedL rows)).1.map fun s => (rows.getD s []).map fun x => place (headsOf (marksOf rows yes) (reachedL rows)).2 (marksOf rows yes x), (headsOf (marksOf rows yes) (reachedL rows)).1.map fun s => yes.getD s false) := rfl
    generalize hm : marksOf rows yes = m at e2 hres
    generalize hst : reachedL rows = stands at e1 e2 hlt hnd hcl hsl hres
    have s12 := s1.trans s2
    intro Nm hNm
    refine ⟨by show 0 ≤ sizeLine; exact line8 (by omega), fun Hd hHd => ⟨by show 2 ≤ sizeLine; exact line8 (by omega), fun t ht => ?_⟩⟩
    refine ⟨t, _, rfl, SqT.of upd_same, rfl, _, _, rfl, _, _, rfl, rfl, ?_⟩
    dsimp only
    have h3 : ∀ b o, b ≠ Nm → b ≠ Hd → H2 b = some o → (upd (upd (upd H2 Nm (.dK [])) Hd (.lst [])) t (.tup [.ref Nm, .ref Hd])) b = some o := fun b o n1 n2 hb => (same_new ht) _ _ (by rw [upd_ne n2, upd_ne n1]; exact hb)
    have hHd2 : H2 Hd = none := none_of (same_new hNm) hHd
    have s23 : Same H2 (upd (upd (upd H2 Nm (.dK [])) Hd (.lst [])) t (.tup [.ref Nm, .ref Hd])) := ((same_new hNm).trans (same_new hHd)).trans (same_new ht)
    have hNH : Nm ≠ Hd := ne_of_none upd_same hHd
    have hml : (stands.map vN).length = stands.length := by simp
    refine seq_via (fun σ' Hc => ∃ o5, σ' = [some (.str (tx L)), some (.ref va), some (.ref ua), some (.ref S), some (.ref M), o5, none, some (.ref Nm), some (.ref Hd), none] ∧ Same H2 Hc ∧ Hc Nm = some (.dK (dcI (fun k => vN (place (headsOf m stands).2 k)) (headsOf m stands).2)) ∧ Hc Hd = some (.lst ((headsOf m stands).1.map vN))) ?_ fun k => ?_
    · rintro σ3 H3 ⟨o5, rfl, s3, n3, d3⟩
      have hI := heads_ok (m := m) (stands := stands)
      have hmk : ∀ x ∈ stands, m x ∈ (headsOf m stands).2 := fun x hx => heads_mem stands _ x hx
      have hle := heads_le hI
      generalize headsOf m stands = hk at n3 d3 hI hmk hres hle
      obtain ⟨hs, ks⟩ := hk
      have s03 := s12.trans s3
      have hhl : (hs.map vN).length = hs.length := by simp
      refine ⟨_, rfl, Hd, rfl, ⟨_, SqL.of d3⟩, fun D hD => ?_⟩
      refine lc_gen2 walk_list (fun j y H' => Dp K H' y (rowD ((rows.getD (hs.getD j 0) []).map fun x => place ks (m x)))) (fun j v H H' s h => dp_same s _ _ h) (by rw [hhl]; exact line8 (by simp at hle; omega)) hD (fun H s => SqL.of (s _ _ d3)) (fun x => rfl) (fun i x H4 Hx Q hi s hDs y k => ?_) fun H4 ys s4 e4 l4 r4 => ?_
      · obtain ⟨rfl, hx⟩ := y
        obtain ⟨od, hDs⟩ := hDs
        rw [hhl] at hi
        rw [List.getElem?_map, List.getElem?_eq_getElem hi] at hx
        cases hx
        have hst2 : hs[i] ∈ stands := hI.s _ (List.getElem_mem hi)
        obtain ⟨b, hb1, hb2⟩ := row_of hvb (hlt _ hst2)
        have hcl2 := hcl _ hst2
        have hrw : (rows.getD hs[i] []).length ≤ 10 := by
          rw [List.getD_eq_getElem?_getD, List.getElem?_eq_getElem (hlt _ hst2)]
          exact hrl _ (List.getElem_mem _)
        rw [getD_of hi] at k
        generalize rows.getD hs[i] [] = row at hb2 hcl2 hrw k
        have s0 := s03.trans s
        refine ⟨_, rfl, _, rfl, va, _, _, _, rfl, rfl, same_l s0 hvs, atI_nat hb1, b, rfl, ⟨_, same_t s0 hb2⟩, fun D2 hD2 => ?_⟩
        have hrl2 : (row.map vN).length = row.length := by simp
        refine lc_gen walk_tup (fun j y _ => y = vN (place ks (m (row.getD j 0)))) (fun _ _ _ _ _ h => h) (by rw [hrl2]; exact line8 (by omega)) hD2 (fun H s => same_t (s0.trans s) hb2) (fun x => rfl) (fun j x H5 Hy Q2 hj s5 y k2 => ?_) fun H5 ys5 s5 e5 l5 r5 => ?_
        · obtain ⟨rfl, hx⟩ := y
          rw [hrl2] at hj
          rw [List.getElem?_map, List.getElem?_eq_getElem hj] at hx
          cases hx
          have hm1 := hcl2 _ (List.getElem_mem hj)
          exact ⟨_, rfl, _, rfl, _, rfl, M, _, rfl, dget_m (s5 _ _ (s _ _ (s3 _ _ e2))) hm1, Nm, _, rfl, dget_m (f := place ks) (s5 _ _ (s _ _ n3)) (hmk _ hm1), k2 _ _ (Same.refl _) (by rw [getD_of hj])⟩
        · rw [list_of (S := row) (f := fun x => place ks (m x)) (by omega) r5] at e5
          refine ⟨D2, _, rfl, .inl ⟨SqL.of e5, fun l hl => ?_⟩⟩
          have hlD : l ≠ D := fun z => by rw [z, s5 _ _ hDs] at hl; cases hl
          refine k _ _ (s5.trans (same_new hl)) (.tup (SqT.of (by rw [del_ne hlD]; exact upd_same)) (ints_dpAll _))
      · refine ⟨_, rfl, _, rfl, D, _, rfl, .inl ⟨SqL.of e4, fun l hl => ?_⟩⟩
        have s5 := s4.trans (same_new (o := .tup ys) hl)
        refine ⟨_, rfl, Hd, rfl, ⟨_, SqL.of (s5 _ _ d3)⟩, fun D2 hD2 => ?_⟩
        refine lc_gen walk_list (fun j y _ => y = .bl (yes.getD (hs.getD j 0) false)) (fun _ _ _ _ _ h => h) (by rw [hhl]; exact line8 (by simp at hle; omega)) hD2 (fun H s => SqL.of (s _ _ (s5 _ _ d3))) (fun x => rfl) (fun i x H6 Hx Q hi s y k => ?_) fun H6 zs s6 e6 l6 r6 => ?_
        · obtain ⟨rfl, hx⟩ := y
          rw [hhl] at hi
          rw [List.getElem?_map, List.getElem?_eq_getElem hi] at hx
          cases hx
          have hst2 := hlt _ (hI.s _ (List.getElem_mem hi))
          have hyi : (yes.map V.bl)[hs[i]]? = some (.bl (yes.getD hs[i] false)) := by
            rw [List.getElem?_map, List.getD_eq_getElem?_getD, List.getElem?_eq_getElem (by omega)]; rfl
          exact ⟨_, rfl, _, rfl, ua, _, _, _, rfl, rfl, same_l (s03.trans (s5.trans s)) hus, atI_nat hyi, k _ _ (Same.refl _) (by rw [getD_of hi])⟩
        · have l6 : zs.length = hs.length := by simpa using l6
          have l4 : ys.length = hs.length := by simpa using l4
          have hz : zs = (hs.map fun s => yes.getD s false).map V.bl := by
            refine List.ext_getElem? fun j => ?_
            by_cases hj : j < zs.length
            · have hj2 : j < hs.length := by omega
              rw [List.getElem?_eq_getElem hj, r6 j zs[j] (List.getElem?_eq_getElem hj), getD_of hj2]
              simp [hj2]
            · rw [List.getElem?_eq_none (by omega), List.getElem?_eq_none (by simp; omega)]
          rw [hz] at e6
          refine ⟨D2, _, rfl, .inl ⟨SqL.of e6, fun l2 hl2 => ⟨by show 3 ≤ sizeLine; exact line8 (by omega), fun t3 ht3 => ?_⟩⟩⟩
          have s7 := s6.trans ((same_new (o := .tup ((hs.map fun s => yes.getD s false).map V.bl)) hl2).trans (same_new (o := .tup [.str (tx L), .ref l, .ref l2]) ht3))
          have s57 : Same (upd H4 l (.tup ys)) (upd (upd H6 l2 (.tup ((hs.map fun s => yes.getD s false).map V.bl))) t3 (.tup [.str (tx L), .ref l, .ref l2])) := s7
          refine q _ _ (s03.trans (s5.trans s7)) ?_
          rw [hres]
          refine .tup (SqT.of upd_same) (.cons (.str _) (.cons ?_ (.cons ?_ .nil)))
          · refine .tup (SqT.of (s57 _ _ upd_same)) ?_
            refine dpAll_of (by simp; omega) fun i x d hx hd => ?_
            have h4 := r4 i x hx
            have hi : i < hs.length := by
              have := (List.getElem?_eq_some_iff.mp hx).1
              omega
            rw [getD_of hi] at h4
            simp only [List.getElem?_map, List.getElem?_eq_getElem hi, Option.map_some, Option.some.injEq] at hd
            subst hd
            exact dp_same (del_le.trans ((same_new hl).trans s57)) _ _ h4
          · refine .tup (SqT.of ((same_new ht3) _ _ upd_same)) ?_
            have := bools_dpAll (K := K) (H := upd (upd H6 l2 (.tup ((hs.map fun s => yes.getD s false).map V.bl))) t3 (.tup [.str (tx L), .ref l, .ref l2])) (hs.map fun s => yes.getD s false)
            exact this
    · refine ⟨_, rfl, S, rfl, ⟨_, SqL.of (s23 _ _ (s2 _ _ e1))⟩, ?_⟩
      refine for_it walk_list (fun j σ' Hc => ∃ o5, σ' = [some (.str (tx L)), some (.ref va), some (.ref ua), some (.ref S), some (.ref M), o5, none, some (.ref Nm), some (.ref Hd), none] ∧ Same H2 Hc ∧ Hc Nm = some (.dK (dcI (fun k => vN (place ((stands.take j).foldl (headStep m) ([], [])).2 k)) ((stands.take j).foldl (headStep m) ([], [])).2)) ∧ Hc Hd = some (.lst (((stands.take j).foldl (headStep m) ([], [])).1.map vN)))
        ⟨_, rfl, s23, (same_new ht) _ _ (by rw [upd_ne hNH]; exact upd_same), (same_new ht) _ _ upd_same⟩ (fun _ _ _ _ ⟨_, _, s, _⟩ => SqL.of (s _ _ (s2 _ _ e1))) ?_ ?_
      · rintro i y σ' Hx Hc hi ⟨o5, rfl, s4, n4, d4⟩ ⟨rfl, hy⟩
        rw [hml] at hi
        rw [List.getElem?_map, List.getElem?_eq_getElem hi] at hy
        cases hy
        have hnext := take_fold (f := headStep m) (a := (([], []) : List Nat × List Nat)) (List.getElem?_eq_getElem hi)
        have hI := headsTo_ok (m := m) (stands := stands) i
        generalize (stands.take i).foldl (headStep m) ([], []) = st at n4 d4 hnext hI
        have hlen := heads_len hI
        have hle := heads_le hI
        have hg := dget_m (s4 _ _ e2) (List.getElem_mem hi)
        refine ⟨_, rfl, _, rfl, M, _, rfl, hg, _, rfl, Nm, _, rfl, DGet.k (k := Sum.inl ((m stands[i] : Nat) : Int)) n4, _, rfl, ?_⟩
        by_cases hm : m stands[i] ∈ st.2
        · rw [dcI_get, if_pos hm]
          have e7 : headStep m st stands[i] = st := by unfold headStep; rw [if_pos hm]
          rw [e7] at hnext
          rw [hnext]
          exact iteF ⟨_, rfl, s4, n4, d4⟩
        · rw [dcI_get, if_neg hm]
          have e7 : headStep m st stands[i] = (st.1 ++ [stands[i]], st.2 ++ [m stands[i]]) := by unfold headStep; rw [if_neg hm]
          rw [e7] at hnext
          rw [hnext]
          refine iteT ⟨_, rfl, Hd, _, rfl, .inl (SqL.of d4), _, rfl, _, rfl, _, rfl, M, _, rfl, hg, Nm, _, rfl, DPut.k (k := Sum.inl ((m stands[i] : Nat) : Int)) n4 (by rw [List.length_map]; exact line9 (by omega)), ?_⟩
          have e8 : V.int ((st.1.map vN).length : Int) = vN st.2.length := by rw [List.length_map, hlen]
          rw [e8, names_put hm]
          have e9 : (upd Hc Nm (.dK (dcI (fun x => vN (place (st.2 ++ [m stands[i]]) x)) (st.2 ++ [m stands[i]])))) Hd = some (.lst (st.1.map vN)) := by rw [upd_ne hNH.symm]; exact d4
          refine ⟨_, rfl, .inl ⟨rfl, _, SqL.of e9⟩, _, rfl, Hd, _, _, rfl, rfl, e9, by rw [List.length_map]; exact line9 (by omega), ?_⟩
          refine ⟨_, rfl, same_upd (same_upd s4 hNm) hHd2, ?_, ?_⟩
          · rw [upd_ne hNH, upd_same]
          · rw [upd_same, List.map_append]; rfl
      · rintro σ' Hc ⟨o5, rfl, s4, n4, d4⟩
        rw [hml, List.take_length] at n4 d4
        exact k _ _ ⟨o5, rfl, s4, n4, d4⟩
end
end An
end
section
set_option Elab.async false
set_option maxRecDepth 100000
set_option maxHeartbeats 4000000
set_option linter.all false
/-! Net.reader. -/
namespace An
open PySem L2
section
variable {α κ : Type} [DecidableEq α] [DecidableEq κ] (kf : α → κ)
abbrev dcG (f : α → V) (l : List α) : List (κ × V) := l.map fun a => (kf a, f a)
theorem dcG_get (hk : ∀ a b, kf a = kf b → a = b) (f : α → V) (l : List α) (x : α) : valV (dcG kf f l) (kf x) = if x ∈ l then some (f x) else none := by
  induction l with
  | nil => simp [valV]
  | cons a l ih =>
    unfold valV at ih ⊢
    simp only [List.map_cons, List.find?_cons] at ih ⊢
    by_cases h : a = x
    · subst h
      simp
    · have hn : kf a = kf x → False := fun z => h (hk _ _ z)
      simp only [decide_eq_false hn, ih, List.mem_cons]
      by_cases h2 : x ∈ l
      · simp [h2]
      · rw [if_neg h2, if_neg]
        rintro (e | e)
        · exact h e.symm
        · exact h2 e
theorem placeG_snoc {l : List α} {k x : α} (h : x ∈ l) : place (l ++ [k]) x = place l x := by
  unfold place
  rw [List.idxOf_append, if_pos h]
theorem placeG_last {l : List α} {k : α} (h : k ∉ l) : place (l ++ [k]) k = l.length := by
  unfold place
  rw [List.idxOf_append, if_neg h]
  simp
theorem dcG_put (hk : ∀ a b, kf a = kf b → a = b) {l : List α} {k : α} (h : k ∉ l) : putK (dcG kf (fun a => vN (place l a)) l) (kf k) (vN l.length) = dcG kf (fun a => vN (place (l ++ [k]) a)) (l ++ [k]) := by
  rw [putK_new _ (by rw [dcG_get kf hk, if_neg h])]
  unfold dcG
  rw [List.map_append]
  congr 1
  · refine List.map_congr_left fun x hx => ?_
    show (kf x, vN (place l x)) = (kf x, vN (place (l ++ [k]) x))
    rw [placeG_snoc hx]
  · simp only [List.map_cons, List.map_nil]
    rw [placeG_last h]
end
def tk (S : List Nat) : List Key := S.map fun (j : Nat) => (Sum.inl (j : Int) : Key)
theorem tk_kV (S : List Nat) : (tk S).map kV = S.map vN := by
  unfold tk
  rw [List.map_map]
  rfl
theorem tk_inj : ∀ (a b : List Nat), tk a = tk b → a = b := by
  intro a b h
  unfold tk at h
  exact List.map_inj_right (fun x y e => by have := Sum.inl.inj e; omega) |>.mp h
/-- tuples of numbers at some addresses -/
def Tups (H : Hp) (as : List Addr) (ls : List (List Nat)) : Prop := as.length = ls.length ∧ ∀ (i : Nat) a l, as[i]? = some a → ls[i]? = some l → H a = some (.tup (l.map vN))
theorem tups_same {H H' : Hp} {as : List Addr} {ls : List (List Nat)} (s : Same H H') (h : Tups H as ls) : Tups H' as ls := ⟨h.1, fun i a l h1 h2 => s _ _ (h.2 i a l h1 h2)⟩
theorem tups_of {H H' : Hp} {as : List Addr} {ls : List (List Nat)} (s : ∀ a xs, H a = some (.tup xs) → H' a = some (.tup xs)) (h : Tups H as ls) : Tups H' as ls := ⟨h.1, fun i a l h1 h2 => s _ _ (h.2 i a l h1 h2)⟩
theorem tups_snoc {H : Hp} {as : List Addr} {ls : List (List Nat)} {a : Addr} {l : List Nat} (h : Tups H as ls) (e : H a = some (.tup (l.map vN))) : Tups H (as ++ [a]) (ls ++ [l]) := by
  refine ⟨by simp [h.1], fun i b m h1 h2 => ?_⟩
  by_cases hi : i < as.length
  · rw [List.getElem?_append_left hi] at h1
    rw [List.getElem?_append_left (by rw [← h.1]; exact hi)] at h2
    exact h.2 i b m h1 h2
  · have hi2 : i = as.length := by
      have := (List.getElem?_eq_some_iff.mp h1).1
      simp at this
      omega
    subst hi2
    rw [List.getElem?_append_right (Nat.le_refl _)] at h1
    rw [List.getElem?_append_right (by rw [h.1]; exact Nat.le_refl _)] at h2
    simp at h1
    simp [h.1] at h2
    subst h1 h2
    exact e
theorem tups_dp {K : PySem.W.Frag} {H : Hp} {as : List Addr} {ls : List (List Nat)} (h : Tups H as ls) : DpAll K H (as.map V.ref) (ls.map rowD) := by
  refine dpAll_of (by simp [h.1]) fun i x d hx hd => ?_
  rw [List.getElem?_map] at hx hd
  cases h1 : as[i]? with
  | none => rw [h1] at hx; cases hx
  | some a =>
    cases h2 : ls[i]? with
    | none => rw [h2] at hd; cases hd
    | some l =>
      rw [h1] at hx
      rw [h2] at hd
      cases hx
      cases hd
      exact .tup (SqT.of (h.2 i a l h1 h2)) (ints_dpAll _)
/-- what follows a lot -/
noncomputable def nextS (L : List Nat) (W : Net) (S : List Nat) : List (List Nat) := L.map fun c => byLetter W S (some c)
def inAny (es S : List Nat) : Bool := S.any fun x => decide (x ∈ es)
noncomputable def readerOf (L : List Nat) (W : Net) (es : List Nat) : Rd3 :=
  let st := exp (nextS L W) (wl W [0])
  leastOf L st.2 (st.1.map (inAny es))
theorem mrg_take {α : Type} [DecidableEq α] {f os : List α} {k : Nat} (h : k ≤ f.length) : (mrg f os).take k = f.take k := by
  refine List.ext_getElem? fun i => ?_
  by_cases hi : i < k
  · rw [List.getElem?_take_of_lt hi, List.getElem?_take_of_lt hi]
    have : f[i]? = some (f[i]'(by omega)) := List.getElem?_eq_getElem _
    rw [this]
    exact mrg_get this
  · rw [List.getElem?_eq_none (by rw [List.length_take]; omega), List.getElem?_eq_none (by rw [List.length_take]; omega)]
theorem least_len {L : List Nat} {rows : List (List Nat)} {yes : List Bool} (h : RowsOk rows) : (leastOf L rows yes).2.1.length ≤ rows.length := by
  have h1 := heads_le (heads_ok (m := marksOf rows yes) (stands := reachedL rows))
  have h2 := nodup_lt (reached_end h).nd (reached_lt h)
  have h3 : (leastOf L rows yes).2.1.length = (headsOf (marksOf rows yes) (reachedL rows)).1.length := by simp [leastOf]
  have h2 : (reachedL rows).length ≤ rows.length := h2
  omega
theorem dgetT {H : Hp} {a z : Addr} {f : List Nat → V} {l : List (List Nat)} {S : List Nat} (e : H a = some (.dT (dcG tk f l))) (hz : H z = some (.tup (S.map vN))) : DGet H a (.ref z) (if S ∈ l then some (f S) else none) := by
  have h2 := DGet.t (k := tk S) e (by rw [tk_kV]; exact hz)
  rw [dcG_get tk tk_inj] at h2
  by_cases hm : S ∈ l
  · rw [if_pos hm] at h2 ⊢
    exact h2
  · rw [if_neg hm] at h2 ⊢
    exact h2
section
variable {P : Program} {w : World} {K : PySem.W.Frag} {mg : Str → Option Value} {base : Heap}
def sp_reader (K : PySem.W.Frag) (C : Addr) : Sp := fun vs H Q _ => ∃ (p : Addr) (n : Nat) (W : Net) (L L2 : List Nat) (H0 : Hp) (E : Addr) (es : List Nat), vs = [.ref p, .str (tx L), .ref E] ∧ NetAt K C L2 H0 H p n W ∧ NetOk n W ∧ 1 ≤ n ∧ n ≤ 5 ∧ L2.length ≤ 100 ∧ L.length ≤ 10 ∧ H E = some (.dK (inn es)) ∧
  ∀ H' r, Same H H' → Dp K H' r (rdD (readerOf L W es)) → Q r H'
theorem nextS_ok {n : Nat} {W : Net} (hW : NetOk n W) {L : List Nat} : ∀ S, Asc n S → ∀ y ∈ nextS L W S, Asc n y := fun S _ y hy => by
  obtain ⟨c, _, rfl⟩ := List.mem_map.mp hy
  exact byLetter_asc hW S (some c)
theorem expl_runs {n : Nat} {W : Net} (hW : NetOk n W) (h1 : 1 ≤ n) {L : List Nat} : ∃ m t, Runs (expStep (nextS L W)) (ExpI (Asc n) (nextS L W) (wl W [0])) m ([wl W [0]], []) t :=
  exp_runs (nextS_ok hW) (2 ^ n) (fun l hd hb => asc_bound l hd hb) (wl_asc hW (by simp) (by simp; omega)).1
theorem expl_end {n : Nat} {W : Net} (hW : NetOk n W) (h1 : 1 ≤ n) {L : List Nat} : ExpEnd (Asc n) (nextS L W) (wl W [0]) (exp (nextS L W) (wl W [0])) :=
  exp_end (nextS_ok hW) (2 ^ n) (fun l hd hb => asc_bound l hd hb) (wl_asc hW (by simp) (by simp; omega)).1
theorem expl_rows {α : Type} [DecidableEq α] {Pr : α → Prop} {succ : α → List α} {x0 : α} {st : List α × List (List Nat)} (h : ExpEnd Pr succ x0 st) : RowsOk st.2 := by
  refine ⟨?_, fun r hr x hx => ?_⟩
  · rw [h.ln]
    exact (List.getElem?_eq_some_iff.mp h.z).1
  · obtain ⟨i, hi⟩ := List.getElem?_of_mem hr
    obtain ⟨y, h1, h2, rfl⟩ := h.r i r hi
    obtain ⟨z, hz, rfl⟩ := List.mem_map.mp hx
    rw [h.ln]
    exact place_lt (h2 z hz)
theorem pow5 {n : Nat} (h : n ≤ 5) : 2 ^ n ≤ 32 := Nat.pow_le_pow_right (by decide) h
theorem sc_Net_reader : FnScope ["self", "letters", "ends", "found", "least", "place", "rows", "yes", "sign", "lot", "line", "later", "stand"] ["self", "letters", "ends"] (defScope s_Net_reader) := ⟨rfl, rfl, rfl, by decide +kernel, rfl, by decide +kernel, by decide +kernel⟩
theorem ok_reader (T : Tx K mg) : FnOk P w K mg base CX0 3 T.reader.f T.reader.fd ["self", "letters", "ends"] (sp_reader K T.C) := by
  have sc := sc_Net_reader
  refine T.reader.F.ok sc (fun vs H Q E h => ?_) (fun cdv A outer s H vs Q E hr h => ?_)
  · obtain ⟨_, _, _, _, _, _, _, _, rfl, _⟩ := h; rfl
  · obtain ⟨p, n, W, L, L2, H0, E, es, rfl, hN, hW, hn1, hn5, hL2, hL, hE, q⟩ := h
    refine ⟨_, (pss_cons (ps_set (i := 3) sc.nd rfl (Or.inl rfl) (pe_lst (pa_cons (pe_meth (pv 0) T.cl T.without_letters.m (ok_without_letters T) (hr.mono (by decide)) T.without_letters.b .nil pass0 (pa_cons (pe_tup (pa_cons pe_int pa_nil)) pa_nil)) pa_nil)))
      (pss_cons (ps_par3 (i := 5) (j := 6) (l := 7) rfl sc.nd rfl rfl rfl (by decide) (by decide) (by decide) rfl rfl rfl (pa_cons (pe_dispT (hu_of hr) (pe_ix ix_list (pv 3) pe_int (fun _ _ => rfl)) pe_int) (pa_cons (pe_lst pa_nil) (pa_cons (pe_lst pa_nil) pa_nil))) (by rfl))
      (pss_cons (ps_while PassesOwn.never (pt_cmpR op_lt (pe_B (id := "len") call_len_seq T.b_len (pa_cons (pv 6) pa_nil)) (pe_B (id := "len") call_len_seq T.b_len (pa_cons (pv 3) pa_nil)) (nomark _))
        (pss_cons (ps_par (i := 9) (j := 10) rfl sc.nd rfl rfl (by decide) rfl rfl (pa_cons (pe_ix ix_list (pv 3) (pe_B (id := "len") call_len_seq T.b_len (pa_cons (pv 6) pa_nil)) (fun _ _ => rfl)) (pa_cons (pe_lst pa_nil) pa_nil)) (by rfl))
        (pss_cons (ps_for PassesOwn.never rfl (pi_str (pv 1)) (pg_name (i := 8) (x := "sign") sc.nd rfl (Or.inl rfl))
          (pss_cons (ps_set (i := 11) sc.nd rfl (Or.inl rfl) (pe_meth (pv 0) T.cl T.by_letter.m (ok_by_letter T) (hr.mono (by decide)) T.by_letter.b .nil pass0 (pa_cons (pv 9) (pa_cons (pv 8) pa_nil))))
          (pss_cons (ps_if (pt_cmp (pc_dnotin (hu_of hr) (pv 11) (pv 5)))
            (pss_cons (ps_dput (hu_of hr) (pv 5) (pv 11) (pe_B (id := "len") call_len_seq T.b_len (pa_cons (pv 3) pa_nil)) rfl)
            (pss_one (ps_expr (pe_bm PySem.F.plainAttrs_list PySem.F.slot_list_append PySem.F.type_list_append mt_append (pv 3) (pa_cons (pv 11) pa_nil)))))
            pss_nil)
          (pss_one (ps_expr (pe_bm PySem.F.plainAttrs_list PySem.F.slot_list_append PySem.F.type_list_append mt_append (pv 10) (pa_cons (pe_dget (hu_of hr) (pv 5) (pv 11) (fun _ _ => rfl)) pa_nil)))))))
        (pss_cons (ps_expr (pe_bm PySem.F.plainAttrs_list PySem.F.slot_list_append PySem.F.type_list_append mt_append (pv 6) (pa_cons (pe_T (T := "tuple") call_tuple_of T.b_tuple (pa_cons (pv 10) pa_nil)) pa_nil)))
        (pss_cons (ps_expr (pe_bm PySem.F.plainAttrs_list PySem.F.slot_list_append PySem.F.type_list_append mt_append (pv 7) (pa_cons (pe_B (id := "any") (cr_any rfl) T.b_any (pa_cons (pe_lc (own := [("stand", 12)]) rfl sc.nd (pi_tup (pv 9)) (blkOk_by (N := ["self", "letters", "ends", "found", "least", "place", "rows", "yes", "sign", "lot", "line", "later", "stand"]) (sc := defScope s_Net_reader) (by decide +kernel)) (fun _ _ _ _ _ => (pg_name (i := 12) (x := "stand") sc.nd rfl (Or.inl rfl) (hf := Or.inr rfl))) (fun _ _ _ _ _ => pts_nil) (fun _ _ _ _ _ => (pe_cmp (pc_din (hu_of hr) (pv 12) (pv 2))))) pa_nil)) pa_nil)))
        (pss_one (ps_if (pt_cmpR op_gt (pe_B (id := "len") call_len_seq T.b_len (pa_cons (pv 3) pa_nil)) (pe_globE T.c_MOST_LOTS) (nomark _))
          (pss_one ps_never)
          pss_nil)))))))
      (pss_cons (ps_set (i := 4) sc.nd rfl (Or.inl rfl) (pe_callD T.least_of (ok_least_of T) (hr.mono (by decide)) (pa_cons (pv 1) (pa_cons (pv 6) (pa_cons (pv 7) pa_nil)))))
      (pss_cons (ps_if (pt_cmpR op_gt (pe_B (id := "len") call_lenDt T.b_len (pa_cons (pe_ix ix_D (pv 4) pe_int (fun _ _ => rfl)) pa_nil)) (pe_globE T.c_MOST_STANDS) (nomark _))
        (pss_one ps_never)
        pss_nil)
      (pss_one (ps_ret (pv 4)))))))), ?_⟩
    obtain ⟨dx, wl0, ds, ow, h⟩ := hN
    have hp5 := pow5 hn5
    refine ⟨_, rfl, p, dx, _, rfl, h.hp, rfl, by show 1 ≤ sizeLine; exact line8 (by omega), fun t0 ht0 => ?_⟩
    have s1 := same_new (o := .tup [vN 0]) ht0
    refine ⟨p, n, W, L2, H0, [0], .ref t0, rfl, ⟨dx, wl0, ds, ow, netP_same s1 h⟩, hW, by omega, hL2, by simp, by simp; omega, .inl (.tup (SqT.of upd_same) (ints_dpAll [0])), fun H1 r1 s2 d1 => ?_⟩
    refine ⟨by show 1 ≤ sizeLine; exact line8 (by omega), fun F hF => ?_⟩
    intro Pl hPl
    have s3 : Same H1 (upd H1 F (.lst [.ref r1])) := same_new hF
    have s4 : Same (upd H1 F (.lst [.ref r1])) (upd (upd H1 F (.lst [.ref r1])) Pl (.dT [])) := same_new hPl
    refine ⟨_, rfl, F, _, _, _, rfl, rfl, SqL.of (s4 _ _ upd_same), rfl, upd_same, r1, tk (wl W [0]), rfl, by rw [tk_kV]; exact s4 _ _ (s3 _ _ d1), ?_⟩
    refine ⟨by show 0 ≤ sizeLine; exact line8 (by omega), fun R hR => ⟨by show 0 ≤ sizeLine; exact line8 (by omega), fun Y hY => ⟨_, _, _, rfl, ?_⟩⟩⟩
    dsimp only
    have hF0 : H F = none := none_of (s1.trans s2) hF
    have hPl0 : H Pl = none := none_of (s1.trans (s2.trans s3)) hPl
    have s5 : Same (upd H1 F (.lst [.ref r1])) (upd (upd (upd H1 F (.lst [.ref r1])) Pl (.dT [])) Pl (.dT [(tk (wl W [0]), V.int 0)])) := same_upd s4 hPl
    have hR0 : H R = none := none_of ((s1.trans s2).trans (s3.trans s5)) hR
    have s6 := s5.trans (same_new (o := .lst []) hR)
    have hY0 : H Y = none := none_of ((s1.trans s2).trans (s3.trans s6)) hY
    have s7 := s6.trans (same_new (o := .lst []) hY)
    have hFPl : F ≠ Pl := ne_of_none upd_same hPl
    have hFR : F ≠ R := ne_of_none (s5 _ _ upd_same) hR
    have hFY : F ≠ Y := ne_of_none (s6 _ _ upd_same) hY
    have hPR : Pl ≠ R := ne_of_none upd_same hR
    have hPY : Pl ≠ Y := ne_of_none ((same_new hR) _ _ upd_same) hY
    have hRY : R ≠ Y := ne_of_none upd_same hY
    have sA := (s1.trans s2).trans (s3.trans s7)
    obtain ⟨m, t, r⟩ := expl_runs hW hn1 (L := L)
    refine seq_via (fun σ' Hc => ∃ rs o8 o9 o10 o11, σ' = [some (.ref p), some (.str (tx L)), some (.ref E), some (.ref F), none, some (.ref Pl), some (.ref R), some (.ref Y), o8, o9, o10, o11, none] ∧ Same H Hc ∧ Hc R = some (.lst (rs.map V.ref)) ∧ Tups Hc rs t.2 ∧ Hc Y = some (.lst ((t.1.map (inAny es)).map V.bl))) ?_ fun k => ?_
    · rintro σ1 H2 ⟨rs, o8, o9, o10, o11, rfl, sB, eR, tR, eY⟩
      have hend : ExpEnd (Asc n) (nextS L W) (wl W [0]) t := by
        have := expl_end hW hn1 (L := L)
        unfold exp at this
        rw [fin_eq r] at this
        exact this
      have hfl := asc_bound _ hend.nd hend.p
      have hro := expl_rows hend
      have hll := least_len (L := L) (yes := t.1.map (inAny es)) hro
      have hln := hend.ln
      refine ⟨_, rfl, _, rfl, _, rfl, L, t.2, t.1.map (inAny es), .ref R, .ref Y, rfl, .lst (SqL.of eR) (tups_dp tR), .lst (SqL.of eY) (bools_dpAll _), hro, by omega, by simp; omega, fun row hrow => ?_, fun H3 v3 s8 d3 => ?_⟩
      · obtain ⟨i, hi⟩ := List.getElem?_of_mem hrow
        obtain ⟨y, _, _, rfl⟩ := hend.r i row hi
        simp [nextS]
        exact hL
      · have hres : leastOf L t.2 (t.1.map (inAny es)) = readerOf L W es := by
          unfold readerOf exp
          rw [fin_eq r]
        rw [hres] at d3 hll
        refine ⟨_, rfl, [tD (readerOf L W es).1, rowsD (readerOf L W es).2.1, yesD (readerOf L W es).2.2], 1, _, d3, rfl, rfl, fun z hz => ⟨_, _, (readerOf L W es).2.1.length, rfl, hz, by simp, ?_⟩⟩
        refine ⟨_, _, rfl, rfl, _, rfl, ?_⟩
        rw [decide_eq_false (by omega)]
        exact iteF ⟨_, rfl, q _ _ (sB.trans s8) d3⟩
    · refine while_runs r (fun st σ' Hc => ∃ fs rs o8 o9 o10 o11, σ' = [some (.ref p), some (.str (tx L)), some (.ref E), some (.ref F), none, some (.ref Pl), some (.ref R), some (.ref Y), o8, o9, o10, o11, none] ∧ Same H Hc ∧ Hc F = some (.lst (fs.map V.ref)) ∧ Tups Hc fs st.1 ∧ Hc Pl = some (.dT (dcG tk (fun S => vN (place st.1 S)) st.1)) ∧ Hc R = some (.lst (rs.map V.ref)) ∧ Tups Hc rs st.2 ∧ Hc Y = some (.lst (((st.1.take st.2.length).map (inAny es)).map V.bl)))
        ⟨[r1], [], _, _, _, _, rfl, sA, s7 _ _ upd_same, ⟨rfl, fun i a l h1 h2 => ?_⟩, ?_, ?_, ⟨rfl, fun i a l h1 h2 => by simp at h1⟩, ?_⟩ ?_ ?_
      · have hi : i = 0 := by
          have := (List.getElem?_eq_some_iff.mp h1).1
          simp at this
          omega
        subst hi
        simp at h1 h2
        subst h1 h2
        exact s7 _ _ (s3 _ _ d1)
      · rw [upd_ne hPY, upd_ne hPR, upd_same]
        show some (HO.dT [(tk (wl W [0]), V.int 0)]) = some (.dT [(tk (wl W [0]), vN (place [wl W [0]] (wl W [0])))])
        have : place [wl W [0]] (wl W [0]) = 0 := place_of (by simp) rfl
        rw [this]
        rfl
      · rw [upd_ne hRY, upd_same]; rfl
      · rw [upd_same]; rfl
      · rintro Ok st st' σ1 H2 hi est ⟨fs, rs, o8, o9, o10, o11, rfl, sB, eF, tF, eP, eR, tR, eY⟩ hok
        obtain ⟨_, _, _, hlt⟩ := expStep_ok (nextS_ok hW) hi est
        have hx : st.1[st.2.length]? = some st.1[st.2.length] := List.getElem?_eq_getElem hlt
        have hxP : Asc n st.1[st.2.length] := hi.p _ (List.getElem_mem hlt)
        unfold expStep at est
        rw [hx] at est
        have est := (Option.some.inj est).symm
        subst est
        have hfl := tF.1
        have hrl := tR.1
        have hf32 := asc_bound _ hi.nd hi.p
        refine ⟨_, rfl, R, _, rfl, .inl (SqL.of eR), _, rfl, F, _, rfl, .inl (SqL.of eF), _, _, rfl, rfl, _, rfl, ?_⟩
        rw [List.length_map, List.length_map, decide_eq_true (by omega)]
        refine iteT ⟨_, hok, ?_⟩
        have hfa : fs[st.2.length]? = some (fs[st.2.length]'(by omega)) := List.getElem?_eq_getElem (by omega)
        have hta := tF.2 _ _ _ hfa hx
        generalize fs[st.2.length]'(by omega) = a at hfa hta
        generalize hxs : st.1[st.2.length] = x at hx hxP hta hok
        refine ⟨_, rfl, _, rfl, R, _, rfl, .inl (SqL.of eR), F, _, _, _, rfl, rfl, SqL.of eF, atI_nat (by rw [List.length_map, hrl, List.getElem?_map, hfa]; rfl), by show 0 ≤ sizeLine; exact line8 (by omega), fun Ln hLn => ⟨_, _, rfl, ?_⟩⟩
        dsimp only
        have sC := sB.trans (same_new (o := .lst []) hLn)
        have kC : Same H2 (upd H2 Ln (.lst [])) := same_new hLn
        have hLn0 := none_of sB hLn
        have hFL : F ≠ Ln := ne_of_none eF hLn
        have hPL : Pl ≠ Ln := ne_of_none eP hLn
        have hRL : R ≠ Ln := ne_of_none eR hLn
        have hYL : Y ≠ Ln := ne_of_none eY hLn
        have hLl : (nextS L W x).length = L.length := by simp [nextS]
        have hnx : ∀ y ∈ nextS L W x, Asc n y := nextS_ok hW x hxP
        have hlb : ∀ j, (mrg st.1 ((nextS L W x).take j)).length ≤ 32 := fun j => Nat.le_trans (asc_bound _ (nodup_mrg hi.nd) fun y hy => by
          rcases mem_mrg.mp hy with hy | hy
          · exact hi.p y hy
          · exact hnx y (List.mem_of_mem_take hy)) hp5
        refine seq_via (fun σ' Hc => ∃ fs o8 o11, σ' = [some (.ref p), some (.str (tx L)), some (.ref E), some (.ref F), none, some (.ref Pl), some (.ref R), some (.ref Y), o8, some (.ref a), some (.ref Ln), o11, none] ∧ Same H Hc ∧ Hc F = some (.lst (fs.map V.ref)) ∧ Tups Hc fs (mrg st.1 (nextS L W x)) ∧ Hc Pl = some (.dT (dcG tk (fun S => vN (place (mrg st.1 (nextS L W x)) S)) (mrg st.1 (nextS L W x)))) ∧ Hc R = some (.lst (rs.map V.ref)) ∧ Tups Hc rs st.2 ∧ Hc Y = some (.lst (((st.1.take st.2.length).map (inAny es)).map V.bl)) ∧ Hc a = some (.tup (x.map vN)) ∧
          Hc Ln = some (.lst (((nextS L W x).map fun z => place (mrg st.1 (nextS L W x)) z).map vN))) ?_ fun k2 => ?_
        · rintro σ3 H3 ⟨fs, o8, o11, rfl, sD, eF, tF, eP, eR, tR, eY, ea, eL⟩
          have hfl3 := tF.1
          have hlb2 := hlb (nextS L W x).length
          rw [List.take_length] at hlb2
          refine ⟨_, rfl, .inl ⟨rfl, _, SqL.of eR⟩, _, rfl, Ln, _, rfl, .inl ⟨SqL.of eL, fun l hl => ?_⟩⟩
          have kl : Same H3 (upd H3 l (.tup (((nextS L W x).map fun z => place (mrg st.1 (nextS L W x)) z).map vN))) := same_new hl
          have dl : (upd H3 l (.tup (((nextS L W x).map fun z => place (mrg st.1 (nextS L W x)) z).map vN))) l = some (.tup (((nextS L W x).map fun z => place (mrg st.1 (nextS L W x)) z).map vN)) := upd_same
          generalize upd H3 l (.tup (((nextS L W x).map fun z => place (mrg st.1 (nextS L W x)) z).map vN)) = H4 at kl dl
          have eR4 := kl _ _ eR
          refine ⟨R, _, _, rfl, rfl, eR4, by rw [List.length_map, hrl]; exact line9 (by omega), ?_⟩
          have kR : ∀ b o, b ≠ R → H4 b = some o → (upd H4 R (.lst (rs.map V.ref ++ [.ref l]))) b = some o := fun b o hb h => by rw [upd_ne hb]; exact h
          have kT : ∀ b xs, H4 b = some (.tup xs) → (upd H4 R (.lst (rs.map V.ref ++ [.ref l]))) b = some (.tup xs) := fun b xs h => kR _ _ (fun q => by rw [q, eR4] at h; cases h) h
          have sE : Same H (upd H4 R (.lst (rs.map V.ref ++ [.ref l]))) := same_upd (sD.trans kl) hR0
          have tR5 : Tups (upd H4 R (.lst (rs.map V.ref ++ [.ref l]))) (rs ++ [l]) (st.2 ++ [(nextS L W x).map fun z => place (mrg st.1 (nextS L W x)) z]) := tups_snoc (tups_of kT (tups_same kl tR)) (kT _ _ dl)
          have tF5 := tups_of kT (tups_same kl tF)
          have eR5 : (upd H4 R (.lst (rs.map V.ref ++ [.ref l]))) R = some (.lst ((rs ++ [l]).map V.ref)) := by rw [upd_same, List.map_append]; rfl
          have eF5 := kR _ _ hFR (kl _ _ eF)
          have eP5 := kR _ _ hPR (kl _ _ eP)
          have eY5 := kR _ _ hRY.symm (kl _ _ eY)
          have ea5 := kT _ _ (kl _ _ ea)
          generalize upd H4 R (.lst (rs.map V.ref ++ [.ref l])) = H5 at sE tR5 tF5 eR5 eF5 eP5 eY5 ea5
          refine ⟨_, rfl, .inl ⟨rfl, _, SqL.of eY5⟩, _, rfl, a, rfl, ⟨_, SqT.of ea5⟩, fun D hD => ?_⟩
          have hxl : (x.map vN).length = x.length := by simp
          have hxn := hxP.len
          refine lc_gen walk_tup (fun j y _ => y = .bl (decide (x.getD j 0 ∈ es))) (fun _ _ _ _ _ h => h) (by rw [hxl]; exact line8 (by omega)) hD (fun H s => SqT.of (s _ _ ea5)) (fun x => rfl) (fun i v H6 Hx Q hi s y k => ?_) fun H6 ys s6 e6 l6 r6 => ?_
          · obtain ⟨rfl, hv⟩ := y
            rw [hxl] at hi
            rw [List.getElem?_map, List.getElem?_eq_getElem hi] at hv
            cases hv
            refine ⟨_, rfl, _, rfl, E, _, rfl, DGet.k (k := Sum.inl ((x[i] : Nat) : Int)) (s _ _ (sE _ _ hE)), k _ _ (Same.refl _) ?_⟩
            rw [inn_get, getD_of hi]
            by_cases hm : x[i] ∈ es
            · rw [if_pos hm, decide_eq_true hm]; rfl
            · rw [if_neg hm, decide_eq_false hm]; rfl
          · have hys : ys = (x.map fun y => decide (y ∈ es)).map V.bl := by
              refine List.ext_getElem? fun j => ?_
              by_cases hj : j < ys.length
              · have hj2 : j < x.length := by omega
                rw [List.getElem?_eq_getElem hj, r6 j ys[j] (List.getElem?_eq_getElem hj), getD_of hj2]
                simp [hj2]
              · rw [List.getElem?_eq_none (by omega), List.getElem?_eq_none (by simp; omega)]
            rw [hys] at e6
            have eY6 := s6 _ _ eY5
            have sF := sE.trans s6
            refine ⟨D, _, rfl, SqL.of e6, Y, _, _, rfl, rfl, eY6, ?_, ?_⟩
            · rw [List.length_map, List.length_map, List.length_take]
              exact line9 (by omega)
            · have kY : ∀ b o, b ≠ Y → H6 b = some o → (upd H6 Y (.lst (((st.1.take st.2.length).map (inAny es)).map V.bl ++ [.bl ((x.map fun y => decide (y ∈ es)).any id)]))) b = some o := fun b o hb h => by rw [upd_ne hb]; exact h
              have eF7 := kY _ _ hFY (s6 _ _ eF5)
              refine ⟨_, rfl, F, _, rfl, .inl (SqL.of eF7), _, _, rfl, rfl, _, rfl, ?_⟩
              rw [List.length_map, hfl3, decide_eq_false (by omega)]
              have kT7 : ∀ b xs, H6 b = some (.tup xs) → (upd H6 Y (.lst (((st.1.take st.2.length).map (inAny es)).map V.bl ++ [.bl ((x.map fun y => decide (y ∈ es)).any id)]))) b = some (.tup xs) := fun b xs h => kY _ _ (fun q => by rw [q, eY6] at h; cases h) h
              refine iteF ⟨fs, rs ++ [l], _, _, _, _, rfl, same_upd sF hY0, eF7, tups_of kT7 (tups_same s6 tF5), kY _ _ hPY (s6 _ _ eP5), kY _ _ hRY (s6 _ _ eR5), tups_of kT7 (tups_same s6 tR5), ?_⟩
              rw [upd_same]
              have h1 : (mrg st.1 (nextS L W x)).take (st.2 ++ [(nextS L W x).map fun z => place (mrg st.1 (nextS L W x)) z]).length = st.1.take st.2.length ++ [x] := by
                rw [List.length_append, List.length_singleton, mrg_take (by omega), List.take_succ_eq_append_getElem hlt, hxs]
              rw [h1, List.map_append, List.map_append]
              have h2 : (x.map fun y => decide (y ∈ es)).any id = inAny es x := by
                unfold inAny
                rw [List.any_map]
                rfl
              rw [h2]
              rfl
        · refine ⟨_, rfl, _, rfl, ?_⟩
          refine for_it walk_str (fun j σ' Hc => ∃ fs o8 o11, σ' = [some (.ref p), some (.str (tx L)), some (.ref E), some (.ref F), none, some (.ref Pl), some (.ref R), some (.ref Y), o8, some (.ref a), some (.ref Ln), o11, none] ∧ Same H Hc ∧ Hc F = some (.lst (fs.map V.ref)) ∧ Tups Hc fs (mrg st.1 ((nextS L W x).take j)) ∧ Hc Pl = some (.dT (dcG tk (fun S => vN (place (mrg st.1 ((nextS L W x).take j)) S)) (mrg st.1 ((nextS L W x).take j)))) ∧ Hc R = some (.lst (rs.map V.ref)) ∧ Tups Hc rs st.2 ∧ Hc Y = some (.lst (((st.1.take st.2.length).map (inAny es)).map V.bl)) ∧ Hc a = some (.tup (x.map vN)) ∧
            Hc Ln = some (.lst ((((nextS L W x).take j).map fun z => place (mrg st.1 ((nextS L W x).take j)) z).map vN))) ⟨fs, _, _, rfl, sC, kC _ _ eF, tups_same kC tF, kC _ _ eP, kC _ _ eR, tups_same kC tR, kC _ _ eY, kC _ _ hta, upd_same⟩ (fun _ _ _ _ _ => trivial) ?_ ?_
          · rintro j y σ' Hx Hc hj ⟨fs, o8, o11, rfl, sD, eF, tF, eP, eR, tR, eY, ea, eL⟩ ⟨rfl, c, hc, rfl⟩
            have hc2 := tx_get hc
            have hjl : j < L.length := by simpa [tx_size] using hj
            have hzj : (nextS L W x)[j]? = some (byLetter W x (some c)) := by unfold nextS; rw [List.getElem?_map, hc2]; rfl
            have hnext : mrg st.1 ((nextS L W x).take (j + 1)) = addK (mrg st.1 ((nextS L W x).take j)) (byLetter W x (some c)) := take_fold hzj
            have htk : (nextS L W x).take (j + 1) = (nextS L W x).take j ++ [byLetter W x (some c)] := by
              rw [List.take_succ_eq_append_getElem (by omega)]
              rw [List.getElem?_eq_getElem (by omega)] at hzj
              rw [Option.some.inj hzj]
            have hfn : (mrg st.1 ((nextS L W x).take j)).Nodup := nodup_mrg hi.nd
            have hsub : ∀ z ∈ (nextS L W x).take j, z ∈ mrg st.1 ((nextS L W x).take j) := fun z hz => mem_mrg.mpr (.inr hz)
            have hl1 := hlb j
            have hzl : ((nextS L W x).take j).length ≤ 10 := by rw [List.length_take]; omega
            rw [hnext, htk]
            generalize (nextS L W x).take j = zs at eF tF eP eL hl1 hfn hsub hzl
            generalize mrg st.1 zs = f at eF tF eP eL hl1 hfn hsub
            have hN3 := netP_same sD h
            refine ⟨_, rfl, p, dx, _, rfl, hN3.hp, rfl, _, rfl, _, rfl, p, n, W, L2, H0, x, .ref a, c, rfl, ⟨dx, wl0, ds, ow, hN3⟩, hW, by omega, hL2, hxP.len, hxP.2, .tup (SqT.of ea) (ints_dpAll _), fun H4 z s4 d4 => ?_⟩
            generalize hzz : byLetter W x (some c) = zS at d4 hnext htk
            have hfl2 := tF.1
            dsimp only [gName]
            refine seq_via (fun σ' Hc => ∃ fs, σ' = [some (.ref p), some (.str (tx L)), some (.ref E), some (.ref F), none, some (.ref Pl), some (.ref R), some (.ref Y), some (.str ⟨#[c]⟩), some (.ref a), some (.ref Ln), some (.ref z), none] ∧ Same H Hc ∧ Hc F = some (.lst (fs.map V.ref)) ∧ Tups Hc fs (addK f zS) ∧ Hc Pl = some (.dT (dcG tk (fun S => vN (place (addK f zS) S)) (addK f zS))) ∧ Hc R = some (.lst (rs.map V.ref)) ∧ Tups Hc rs st.2 ∧ Hc Y = some (.lst (((st.1.take st.2.length).map (inAny es)).map V.bl)) ∧ Hc a = some (.tup (x.map vN)) ∧ Hc z = some (.tup (zS.map vN)) ∧
              Hc Ln = some (.lst ((zs.map fun z => place f z).map vN))) ?_ fun k3 => ?_
            · rintro σ5 H5 ⟨fs, rfl, sE, eF, tF, eP, eR, tR, eY, ea, ez, eL⟩
              have hm : zS ∈ addK f zS := mem_addK.mpr (.inr rfl)
              have hg := dgetT eP ez
              rw [if_pos hm] at hg
              refine ⟨_, rfl, .inl ⟨rfl, _, SqL.of eL⟩, _, rfl, _, rfl, Pl, _, rfl, hg, Ln, _, _, rfl, rfl, eL, ?_, ?_⟩
              · rw [List.length_map, List.length_map]
                exact line9 (by omega)
              · refine ⟨fs, _, _, rfl, same_upd sE hLn0, by rw [upd_ne hFL]; exact eF, ?_, by rw [upd_ne hPL]; exact eP, by rw [upd_ne hRL]; exact eR, ?_, by rw [upd_ne hYL]; exact eY, ?_, ?_⟩
                · exact tups_of (fun b xs hb => by rw [upd_ne (fun q => by rw [q, eL] at hb; cases hb)]; exact hb) tF
                · exact tups_of (fun b xs hb => by rw [upd_ne (fun q => by rw [q, eL] at hb; cases hb)]; exact hb) tR
                · rw [upd_ne (fun q => by rw [q, eL] at ea; cases ea)]; exact ea
                · rw [upd_same, List.map_append, List.map_append]
                  have e10 : zs.map (fun z => place (addK f zS) z) = zs.map fun z => place f z := List.map_congr_left fun y hy => idx_mono (os := [zS]) hfn (hsub y hy)
                  rw [e10]
                  rfl
            · have eF4 := s4 _ _ eF
              have eP4 := s4 _ _ eP
              refine ⟨_, rfl, _, rfl, Pl, _, rfl, dgetT eP4 d4, _, rfl, ?_⟩
              by_cases hm : zS ∈ f
              · rw [if_pos hm]
                refine iteF (k3 _ _ ⟨fs, rfl, sD.trans s4, eF4, ?_, ?_, s4 _ _ eR, tups_same s4 tR, s4 _ _ eY, s4 _ _ ea, d4, s4 _ _ eL⟩)
                · rw [addK_in hm]; exact tups_same s4 tF
                · rw [addK_in hm]; exact eP4
              · rw [if_neg hm]
                refine iteT ⟨_, rfl, F, _, rfl, .inl (SqL.of eF4), _, rfl, _, rfl, Pl, _, rfl, DPut.t (k := tk zS) eP4 (by rw [tk_kV]; exact d4) (by rw [List.length_map]; exact line9 (by omega)), ?_⟩
                have e8 : V.int ((fs.map V.ref).length : Int) = vN f.length := by rw [List.length_map, hfl2]
                rw [e8, dcG_put tk tk_inj hm]
                have kP : ∀ b o, b ≠ Pl → H4 b = some o → (upd H4 Pl (.dT (dcG tk (fun a => vN (place (f ++ [zS]) a)) (f ++ [zS])))) b = some o := fun b o hb h => by rw [upd_ne hb]; exact h
                refine ⟨_, rfl, .inl ⟨rfl, _, SqL.of (kP _ _ hFPl eF4)⟩, _, rfl, F, _, _, rfl, rfl, kP _ _ hFPl eF4, by rw [List.length_map, hfl2]; exact line9 (by omega), ?_⟩
                have kF : ∀ b o, b ≠ Pl → b ≠ F → H4 b = some o → (upd (upd H4 Pl (.dT (dcG tk (fun a => vN (place (f ++ [zS]) a)) (f ++ [zS])))) F (.lst (fs.map V.ref ++ [.ref z]))) b = some o := fun b o hb h2 h => by rw [upd_ne h2]; exact kP b o hb h
                have kT : ∀ b xs, H4 b = some (.tup xs) → (upd (upd H4 Pl (.dT (dcG tk (fun a => vN (place (f ++ [zS]) a)) (f ++ [zS])))) F (.lst (fs.map V.ref ++ [.ref z]))) b = some (.tup xs) := fun b xs h => kF _ _ (fun q => by rw [q, eP4] at h; cases h) (fun q => by rw [q, eF4] at h; cases h) h
                refine k3 _ _ ⟨fs ++ [z], rfl, same_upd (same_upd (sD.trans s4) hPl0) hF0, by rw [upd_same, List.map_append]; rfl, ?_, ?_, kF _ _ hPR.symm hFR.symm (s4 _ _ eR), tups_of kT (tups_same s4 tR), kF _ _ hPY.symm hFY.symm (s4 _ _ eY), kT _ _ (s4 _ _ ea), kT _ _ d4, kF _ _ hPL.symm hFL.symm (s4 _ _ eL)⟩
                · rw [addK_out hm]
                  exact tups_snoc (tups_of kT (tups_same s4 tF)) (kT _ _ d4)
                · rw [addK_out hm, upd_ne hFPl.symm, upd_same]
          · rintro σ' Hc ⟨fs, o8, o11, rfl, sD, eF, tF, eP, eR, tR, eY, ea, eL⟩
            rw [tx_size, ← hLl, List.take_length] at tF eP eL
            exact k2 _ _ ⟨fs, o8, o11, rfl, sD, eF, tF, eP, eR, tR, eY, ea, eL⟩
      · rintro Ok σ1 H2 hi est ⟨fs, rs, o8, o9, o10, o11, rfl, sB, eF, tF, eP, eR, tR, eY⟩
        have hle : t.1.length ≤ t.2.length := by
          unfold expStep at est
          cases hx : t.1[t.2.length]? with
          | none => exact List.getElem?_eq_none_iff.mp hx
          | some x => rw [hx] at est; cases est
        have hfl := tF.1
        have hrl := tR.1
        refine ⟨_, rfl, R, _, rfl, .inl (SqL.of eR), _, rfl, F, _, rfl, .inl (SqL.of eF), _, _, rfl, rfl, _, rfl, ?_⟩
        rw [List.length_map, List.length_map, decide_eq_false (by omega)]
        refine iteF (k _ _ ⟨rs, o8, o9, o10, o11, rfl, sB, eR, tR, ?_⟩)
        rw [List.take_of_length_le hle] at eY
        exact eY
end
end An
end
section
set_option Elab.async false
set_option maxRecDepth 100000
set_option maxHeartbeats 4000000
set_option linter.all false
/-! come. -/
namespace An
open PySem L2
noncomputable def Come (R : Rd3) (ks : List Kd) : Rd3 := readerOf R.1 (filled R.1 R.2.1 ks) (endsL R.2.2)
section
variable {P : Program} {w : World} {K : PySem.W.Frag} {mg : Str → Option Value} {base : Heap}
def sp_come (K : PySem.W.Frag) : Sp := fun vs H Q _ => ∃ (R : Rd3) (ks : List Kd) (v u : V), vs = [v, u] ∧ Dp K H v (rdD R) ∧ RdOk R ∧ R.2.1.length ≤ 5 ∧ Dp K H u (ksD ks) ∧ KsOk R.1 ks ∧ ∀ H' r, Same H H' → Dp K H' r (rdD (Come R ks)) → Q r H'
theorem sc_come : FnScope ["reader", "kinds"] ["reader", "kinds"] (defScope s_come) := ⟨rfl, rfl, rfl, by decide +kernel, rfl, by decide +kernel, by decide +kernel⟩
theorem ok_come (T : Tx K mg) : FnOk P w K mg base CX0 5 T.come.f T.come.fd ["reader", "kinds"] (sp_come K) := by
  have sc := sc_come
  refine T.come.F.ok sc (fun vs H Q E h => ?_) (fun cdv A outer s H vs Q E hr h => ?_)
  · obtain ⟨_, _, _, _, rfl, _⟩ := h; rfl
  · obtain ⟨R, ks, v, u, rfl, hv, hR, hn, hu, hK, q⟩ := h
    refine ⟨_, (pss_one (ps_ret (pe_meth (pe_callD T.filled (ok_filled T) (hr.mono (by decide)) (pa_cons (pv 0) (pa_cons (pv 1) pa_nil))) T.cl T.reader.m (ok_reader T) (hr.mono (by decide)) T.reader.b .nil pass0 (pa_cons (pe_ix ix_D (pv 0) pe_int (fun _ _ => rfl)) (pa_cons (pe_callD T.ends_of (ok_ends_of T) (hr.mono (by decide)) (pa_cons (pv 0) pa_nil)) pa_nil))))), ?_⟩
    have hLl := hR.l.le
    have hn1 := hR.n1
    refine ⟨_, rfl, _, rfl, R, ks, v, u, rfl, hv, hR, by omega, hu, hK, fun H1 p s1 hN1 => ?_⟩
    obtain ⟨dx, wl0, ds, ow, h⟩ := hN1
    refine ⟨p, dx, _, rfl, h.hp, rfl, _, rfl, [tD R.1, rowsD R.2.1, yesD R.2.2], 0, _, dp_same s1 _ _ hv, rfl, rfl, fun z hz => ?_⟩
    cases dp_str hz
    refine ⟨_, rfl, R, v, rfl, dp_same s1 _ _ hv, by rw [hR.y]; omega, fun H2 E2 s2 e2 => ?_⟩
    refine ⟨p, R.2.1.length, filled R.1 R.2.1 ks, R.1, R.1, H, E2, endsL R.2.2, rfl, ⟨dx, wl0, ds, ow, netP_same s2 h⟩, filled_ok rfl fun r hr => (hR.r r hr).2, hn1, hn, by omega, by omega, e2, fun H3 r s3 d3 => q H3 r (s1.trans (s2.trans s3)) d3⟩
end
end An
end
section
set_option Elab.async false
set_option linter.all false
/-! The search for the least text. -/
namespace An
section
variable {α : Type} [DecidableEq α]
abbrev Bq (α : Type) := Nat × List (List Nat × α)
def addQ (t : List Nat) (q : List (List Nat × α)) (cy : Nat × α) : List (List Nat × α) := if cy.2 ∈ q.map (·.2) then q else q ++ [(t ++ [cy.1], cy.2)]
def bStep (sc : α → List (Nat × α)) (good : α → Bool) (st : Bq α) : Option (Bq α) :=
  match st.2[st.1]? with
  | none => none
  | some e => if good e.2 = true then none else some (st.1 + 1, (sc e.2).foldl (addQ e.1) st.2)
instance : Inhabited (Bq α) := ⟨(0, [])⟩
noncomputable def bEnd (sc : α → List (Nat × α)) (good : α → Bool) (x0 : α) : Bq α := fin (bStep sc good) (0, [([], x0)])
noncomputable def bRes (sc : α → List (Nat × α)) (good : α → Bool) (x0 : α) : Option (List Nat) := ((bEnd sc good x0).2[(bEnd sc good x0).1]?).map (·.1)
structure BI (P : α → Prop) (st : Bq α) : Prop where
  nd : (st.2.map (·.2)).Nodup
  p : ∀ e ∈ st.2, P e.2
  le : st.1 ≤ st.2.length
  t : ∀ e ∈ st.2, e.1.length ≤ st.1
theorem addQ_ok {P : α → Prop} {t : List Nat} {q : List (List Nat × α)} {cy : Nat × α} {k : Nat} (hp : P cy.2) (ht : t.length + 1 ≤ k) (h1 : (q.map (·.2)).Nodup) (h2 : ∀ e ∈ q, P e.2) (h3 : ∀ e ∈ q, e.1.length ≤ k) :
    ((addQ t q cy).map (·.2)).Nodup ∧ (∀ e ∈ addQ t q cy, P e.2) ∧ (∀ e ∈ addQ t q cy, e.1.length ≤ k) ∧ q.length ≤ (addQ t q cy).length := by
  unfold addQ
  split
  · exact ⟨h1, h2, h3, Nat.le_refl _⟩
  · rename_i hn
    refine ⟨?_, fun e he => ?_, fun e he => ?_, by simp⟩
    · have := nodup_addK (o := cy.2) h1
      rw [addK_out hn] at this
      simpa using this
    · rcases List.mem_append.mp he with he | he
      · exact h2 e he
      · simp at he; subst he; exact hp
    · rcases List.mem_append.mp he with he | he
      · exact h3 e he
      · simp at he; subst he; simp; exact ht
theorem addQs_ok {P : α → Prop} {t : List Nat} {k : Nat} (ht : t.length + 1 ≤ k) : ∀ (cs : List (Nat × α)) (q : List (List Nat × α)), (∀ c ∈ cs, P c.2) → (q.map (·.2)).Nodup → (∀ e ∈ q, P e.2) → (∀ e ∈ q, e.1.length ≤ k) →
    ((cs.foldl (addQ t) q).map (·.2)).Nodup ∧ (∀ e ∈ cs.foldl (addQ t) q, P e.2) ∧ (∀ e ∈ cs.foldl (addQ t) q, e.1.length ≤ k) ∧ q.length ≤ (cs.foldl (addQ t) q).length
  | [], q, _, h1, h2, h3 => ⟨h1, h2, h3, Nat.le_refl _⟩
  | c :: cs, q, hc, h1, h2, h3 => by
    obtain ⟨a1, a2, a3, a4⟩ := addQ_ok (hc c (by simp)) ht h1 h2 h3
    obtain ⟨b1, b2, b3, b4⟩ := addQs_ok ht cs (addQ t q c) (fun c' h => hc c' (by simp [h])) a1 a2 a3
    exact ⟨b1, b2, b3, Nat.le_trans a4 b4⟩
theorem bStep_ok {P : α → Prop} {sc : α → List (Nat × α)} {good : α → Bool} (hP : ∀ x, P x → ∀ c ∈ sc x, P c.2) {st st' : Bq α} (h : BI P st) (e : bStep sc good st = some st') : BI P st' ∧ st'.1 = st.1 + 1 ∧ st.1 < st.2.length ∧ st.2.length ≤ st'.2.length := by
  unfold bStep at e
  cases hx : st.2[st.1]? with
  | none => rw [hx] at e; cases e
  | some en =>
    rw [hx] at e
    dsimp only at e
    split at e
    · cases e
    · have e := (Option.some.inj e).symm
      subst e
      have hlt := (List.getElem?_eq_some_iff.mp hx).1
      have hm := List.mem_of_getElem? hx
      obtain ⟨b1, b2, b3, b4⟩ := addQs_ok (P := P) (t := en.1) (k := st.1 + 1) (by have := h.t en hm; omega) (sc en.2) st.2 (hP _ (h.p en hm)) h.nd h.p fun e he => by have := h.t e he; omega
      exact ⟨⟨b1, b2, by show st.1 + 1 ≤ ((sc en.2).foldl (addQ en.1) st.2).length; omega, b3⟩, rfl, hlt, b4⟩
theorem bi_0 {P : α → Prop} {x0 : α} (h : P x0) : BI P (0, [([], x0)]) := ⟨by simp, by simpa using h, by simp, by simp⟩
theorem b_len {P : α → Prop} {N : Nat} (hN : ∀ l : List α, l.Nodup → (∀ x ∈ l, P x) → l.length ≤ N) {st : Bq α} (h : BI P st) : st.2.length ≤ N := by
  have := hN _ h.nd fun x hx => by
    obtain ⟨e, he, rfl⟩ := List.mem_map.mp hx
    exact h.p e he
  simpa using this
theorem b_runs {P : α → Prop} {sc : α → List (Nat × α)} {good : α → Bool} (hP : ∀ x, P x → ∀ c ∈ sc x, P c.2) (N : Nat) (hN : ∀ l : List α, l.Nodup → (∀ x ∈ l, P x) → l.length ≤ N) {x0 : α} (h0 : P x0) :
    ∃ m t, Runs (bStep sc good) (BI P) m (0, [([], x0)]) t := by
  refine runs_of (fun st => N - st.1) (fun st st' hi e => ?_) _ (bi_0 h0)
  obtain ⟨q, h1, h2, h3⟩ := bStep_ok hP hi e
  have := b_len hN hi
  exact ⟨q, by omega⟩
end
section
variable {α β : Type} [DecidableEq α] [DecidableEq β]
/-- the same search under other names -/
def mapQ (f : α → β) (q : List (List Nat × α)) : List (List Nat × β) := q.map fun e => (e.1, f e.2)
theorem mapQ_snd (f : α → β) (q : List (List Nat × α)) : (mapQ f q).map (·.2) = (q.map (·.2)).map f := by simp [mapQ]
theorem addQ_map {P : α → Prop} {f : α → β} (hf : ∀ a b, P a → P b → f a = f b → a = b) {t : List Nat} {q : List (List Nat × α)} {cy : Nat × α} (hp : P cy.2) (hq : ∀ e ∈ q, P e.2) : mapQ f (addQ t q cy) = addQ t (mapQ f q) (cy.1, f cy.2) := by
  unfold addQ
  have : (f cy.2 ∈ (mapQ f q).map (·.2)) ↔ cy.2 ∈ q.map (·.2) := by
    rw [mapQ_snd]
    constructor
    · intro h
      obtain ⟨x, hx, e⟩ := List.mem_map.mp h
      obtain ⟨en, he, rfl⟩ := List.mem_map.mp hx
      have := hf _ _ (hq en he) hp e
      rw [← this]
      exact List.mem_map.mpr ⟨en, he, rfl⟩
    · intro h
      exact List.mem_map.mpr ⟨_, h, rfl⟩
  by_cases h : cy.2 ∈ q.map (·.2)
  · rw [if_pos h, if_pos (this.mpr h)]
  · rw [if_neg h, if_neg (fun z => h (this.mp z))]
    simp [mapQ]
theorem addQs_map {P : α → Prop} {f : α → β} (hf : ∀ a b, P a → P b → f a = f b → a = b) {t : List Nat} : ∀ (cs : List (Nat × α)) (q : List (List Nat × α)), (∀ c ∈ cs, P c.2) → (∀ e ∈ q, P e.2) →
    mapQ f (cs.foldl (addQ t) q) = (cs.map fun c => (c.1, f c.2)).foldl (addQ t) (mapQ f q)
  | [], q, _, _ => rfl
  | c :: cs, q, hc, hq => by
    have h1 := addQ_map hf (t := t) (hc c (by simp)) hq
    have h2 : ∀ e ∈ addQ t q c, P e.2 := fun e he => by
      unfold addQ at he
      split at he
      · exact hq e he
      · rcases List.mem_append.mp he with he | he
        · exact hq e he
        · simp at he; subst he; exact hc c (by simp)
    have ih := addQs_map hf (t := t) cs (addQ t q c) (fun c' h => hc c' (by simp [h])) h2
    rw [List.foldl_cons, ih, h1]
    rfl
theorem bStep_map {P : α → Prop} {f : α → β} (hf : ∀ a b, P a → P b → f a = f b → a = b) {sc : α → List (Nat × α)} {sc' : β → List (Nat × β)} {good : α → Bool} {good' : β → Bool} (hP : ∀ x, P x → ∀ c ∈ sc x, P c.2)
    (hs : ∀ x, P x → sc' (f x) = (sc x).map fun c => (c.1, f c.2)) (hg : ∀ x, P x → good' (f x) = good x) {st : Bq α} (h : ∀ e ∈ st.2, P e.2) :
    bStep sc' good' (st.1, mapQ f st.2) = (bStep sc good st).map fun s => (s.1, mapQ f s.2) := by
  unfold bStep
  have e1 : (mapQ f st.2)[st.1]? = (st.2[st.1]?).map fun e => (e.1, f e.2) := by unfold mapQ; rw [List.getElem?_map]
  rw [e1]
  cases hx : st.2[st.1]? with
  | none => rfl
  | some en =>
    have hp := h en (List.mem_of_getElem? hx)
    dsimp only [Option.map_some]
    rw [hg _ hp]
    by_cases hgd : good en.2 = true
    · rw [if_pos hgd, if_pos hgd]; rfl
    · rw [if_neg hgd, if_neg hgd, hs _ hp]
      simp only [Option.map_some, Option.some.injEq, Prod.mk.injEq, true_and]
      exact (addQs_map hf (sc en.2) st.2 (hP _ hp) h).symm
theorem bRes_map {P : α → Prop} {f : α → β} (hf : ∀ a b, P a → P b → f a = f b → a = b) {sc : α → List (Nat × α)} {sc' : β → List (Nat × β)} {good : α → Bool} {good' : β → Bool} (hP : ∀ x, P x → ∀ c ∈ sc x, P c.2)
    (hs : ∀ x, P x → sc' (f x) = (sc x).map fun c => (c.1, f c.2)) (hg : ∀ x, P x → good' (f x) = good x) (N : Nat) (hN : ∀ l : List α, l.Nodup → (∀ x ∈ l, P x) → l.length ≤ N) {x0 : α} (h0 : P x0) :
    bRes sc' good' (f x0) = bRes sc good x0 := by
  obtain ⟨m, t, r⟩ := b_runs (good := good) hP N hN h0
  have key : ∀ {m : Nat} {s t : Bq α}, Runs (bStep sc good) (BI P) m s t → Runs (bStep sc' good') (fun _ => True) m (s.1, mapQ f s.2) (t.1, mapQ f t.2) := by
    intro m s t r
    induction r with
    | @stop s i e => exact .stop trivial (by rw [bStep_map hf hP hs hg i.p, e]; rfl)
    | @go m s s' t i e r ih => exact .go trivial (by rw [bStep_map hf hP hs hg i.p, e]; rfl) ih
  have r2 := key r
  have e1 : bEnd sc good x0 = t := fin_eq r
  have e2 : bEnd sc' good' (f x0) = (t.1, mapQ f t.2) := fin_eq r2
  unfold bRes
  rw [e1, e2]
  have : (mapQ f t.2)[t.1]? = (t.2[t.1]?).map fun e => (e.1, f e.2) := by unfold mapQ; rw [List.getElem?_map]
  dsimp only
  rw [this]
  cases t.2[t.1]? <;> rfl
end
/-! ### two readers -/
def pairSucc (A B : List (List Nat)) (p : Nat × Nat) : List (Nat × Nat) := (A.getD p.1 []).zip (B.getD p.2 [])
def both (y z : List Bool) (p : Nat × Nat) : Bool := y.getD p.1 false && z.getD p.2 false
def PIn (n m : Nat) (p : Nat × Nat) : Prop := p.1 < n ∧ p.2 < m
theorem pairs_bound {n m : Nat} (l : List (Nat × Nat)) (hd : l.Nodup) (h : ∀ x ∈ l, PIn n m x) : l.length ≤ n * m := by
  have := nodup_le (m := (List.range n).flatMap fun i => (List.range m).map fun j => (i, j)) hd fun x hx => by
    rw [List.mem_flatMap]
    exact ⟨x.1, by simpa using (h x hx).1, List.mem_map.mpr ⟨x.2, by simpa using (h x hx).2, rfl⟩⟩
  have e : ∀ n, ((List.range n).flatMap fun i => (List.range m).map fun j => (i, j)).length = n * m := by
    intro n
    induction n with
    | zero => simp
    | succ n ih => rw [List.range_succ, List.flatMap_append, List.length_append, ih]; simp [Nat.succ_mul]
  rw [e] at this
  exact this
/-- rows of k next stands each, of stands of their own -/
structure Tab (k : Nat) (A : List (List Nat)) : Prop where
  n : 1 ≤ A.length
  r : ∀ r ∈ A, r.length = k ∧ ∀ x ∈ r, x < A.length
theorem Tab.row {k : Nat} {A : List (List Nat)} (h : Tab k A) {i : Nat} (hi : i < A.length) : (A.getD i []).length = k ∧ ∀ x ∈ A.getD i [], x < A.length := by
  rw [List.getD_eq_getElem?_getD, List.getElem?_eq_getElem hi]
  exact h.r _ (List.getElem_mem hi)
theorem pairSucc_ok {k : Nat} {A B : List (List Nat)} (hA : Tab k A) (hB : Tab k B) : ∀ x, PIn A.length B.length x → ∀ y ∈ pairSucc A B x, PIn A.length B.length y := fun x hx y hy => by
  have := List.of_mem_zip hy
  exact ⟨(hA.row hx.1).2 _ this.1, (hB.row hx.2).2 _ this.2⟩
noncomputable def pairsOf (A B : List (List Nat)) : List (Nat × Nat) × List (List Nat) := exp (pairSucc A B) (0, 0)
theorem pairs_runs {k : Nat} {A B : List (List Nat)} (hA : Tab k A) (hB : Tab k B) : ∃ m t, Runs (expStep (pairSucc A B)) (ExpI (PIn A.length B.length) (pairSucc A B) (0, 0)) m ([(0, 0)], []) t :=
  exp_runs (pairSucc_ok hA hB) _ pairs_bound ⟨hA.n, hB.n⟩
theorem pairs_end {k : Nat} {A B : List (List Nat)} (hA : Tab k A) (hB : Tab k B) : ExpEnd (PIn A.length B.length) (pairSucc A B) (0, 0) (pairsOf A B) :=
  exp_end (pairSucc_ok hA hB) _ pairs_bound ⟨hA.n, hB.n⟩
/-- what the program searches -/
def idxSc (L : List Nat) (rows : List (List Nat)) (i : Nat) : List (Nat × Nat) := L.zip (rows.getD i [])
noncomputable def meetT (L : List Nat) (A B : List (List Nat)) (y z : List Bool) : Option (List Nat) :=
  bRes (idxSc L (pairsOf A B).2) (fun i => ((pairsOf A B).1.map (both y z)).getD i false) 0
/-- what the law searches -/
def ledF (L : List Nat) (A : List (List Nat)) (s c : Nat) : Nat := (A.getD s []).getD (place L c) 0
def lawSc (L : List Nat) (A B : List (List Nat)) (p : Nat × Nat) : List (Nat × (Nat × Nat)) := L.map fun c => (c, (ledF L A p.1 c, ledF L B p.2 c))
noncomputable def dueT (L : List Nat) (A B : List (List Nat)) (y z : List Bool) : Option (List Nat) := bRes (lawSc L A B) (both y z) (0, 0)
theorem lawSc_eq {L : List Nat} {A B : List (List Nat)} (hL : L.Nodup) (hA : Tab L.length A) (hB : Tab L.length B) {p : Nat × Nat} (hp : PIn A.length B.length p) : lawSc L A B p = L.zip (pairSucc A B p) := by
  obtain ⟨h1, _⟩ := hA.row hp.1
  obtain ⟨h2, _⟩ := hB.row hp.2
  unfold lawSc pairSucc
  refine List.ext_getElem? fun i => ?_
  by_cases hi : i < L.length
  · have hpl : place L L[i] = i := place_of hL (List.getElem?_eq_getElem hi)
    rw [List.getElem?_map, List.getElem?_eq_getElem hi]
    unfold ledF
    simp only [Option.map_some, hpl]
    rw [eq_comm, List.getElem?_zip_eq_some]
    refine ⟨List.getElem?_eq_getElem hi, ?_⟩
    rw [List.getElem?_zip_eq_some]
    refine ⟨?_, ?_⟩
    · rw [List.getD_eq_getElem?_getD (l := A.getD p.1 []), List.getElem?_eq_getElem (by omega)]; rfl
    · rw [List.getD_eq_getElem?_getD (l := B.getD p.2 []), List.getElem?_eq_getElem (by omega)]; rfl
  · rw [List.getElem?_eq_none (by simp; omega), List.getElem?_eq_none (by simp; omega)]
theorem lawSc_in {L : List Nat} {A B : List (List Nat)} (hL : L.Nodup) (hA : Tab L.length A) (hB : Tab L.length B) : ∀ x, PIn A.length B.length x → ∀ c ∈ lawSc L A B x, PIn A.length B.length c.2 := fun x hx c hc => by
  rw [lawSc_eq hL hA hB hx] at hc
  exact pairSucc_ok hA hB x hx _ (List.of_mem_zip (show (c.1, c.2) ∈ _ from hc)).2
theorem meet_due {L : List Nat} {A B : List (List Nat)} {y z : List Bool} (hL : L.Nodup) (hA : Tab L.length A) (hB : Tab L.length B) : meetT L A B y z = dueT L A B y z := by
  have hE := pairs_end hA hB
  unfold meetT dueT
  have hget : ∀ i, i < (pairsOf A B).1.length → (pairsOf A B).1[i]? = some ((pairsOf A B).1.getD i (0, 0)) := fun i hi => by
    rw [List.getD_eq_getElem?_getD, List.getElem?_eq_getElem hi]; rfl
  have h0 : (pairsOf A B).1.getD 0 (0, 0) = (0, 0) := by
    rw [List.getD_eq_getElem?_getD, hE.z]; rfl
  have hlen : 0 < (pairsOf A B).1.length := (List.getElem?_eq_some_iff.mp hE.z).1
  have hrow : ∀ i, i < (pairsOf A B).1.length → (∀ w ∈ pairSucc A B ((pairsOf A B).1.getD i (0, 0)), w ∈ (pairsOf A B).1) ∧ (pairsOf A B).2.getD i [] = (pairSucc A B ((pairsOf A B).1.getD i (0, 0))).map fun w => place (pairsOf A B).1 w := fun i hi => by
    obtain ⟨q1, q2⟩ := hE.row (hget i hi)
    exact ⟨q1, by rw [List.getD_eq_getElem?_getD (l := (pairsOf A B).2), q2]; rfl⟩
  have := bRes_map (P := fun i => i < (pairsOf A B).1.length) (f := fun i => (pairsOf A B).1.getD i (0, 0)) (sc := idxSc L (pairsOf A B).2) (sc' := lawSc L A B) (good := fun i => ((pairsOf A B).1.map (both y z)).getD i false) (good' := both y z)
    (fun a b ha hb e => nodup_get hE.nd (hget a ha) (by rw [e]; exact hget b hb))
    (fun x hx c hc => by
      unfold idxSc at hc
      rw [(hrow x hx).2] at hc
      obtain ⟨w, hw, e⟩ := List.mem_map.mp (List.of_mem_zip (show (c.1, c.2) ∈ _ from hc)).2
      rw [← e]
      exact place_lt ((hrow x hx).1 w hw))
    (fun x hx => by
      rw [lawSc_eq hL hA hB (hE.p _ (List.mem_of_getElem? (hget x hx)))]
      unfold idxSc
      rw [(hrow x hx).2]
      rw [List.zip_map_right, List.map_map]
      have hid : ∀ q ∈ L.zip (pairSucc A B ((pairsOf A B).1.getD x (0, 0))), ((fun c : Nat × Nat => (c.1, (pairsOf A B).1.getD c.2 (0, 0))) ∘ Prod.map id fun w => place (pairsOf A B).1 w) q = id q := fun q hq => by
        have hw := (hrow x hx).1 q.2 (List.of_mem_zip (show (q.1, q.2) ∈ _ from hq)).2
        have : (pairsOf A B).1.getD (place (pairsOf A B).1 q.2) (0, 0) = q.2 := by rw [List.getD_eq_getElem?_getD, place_get hw]; rfl
        show (q.1, (pairsOf A B).1.getD (place (pairsOf A B).1 q.2) (0, 0)) = q
        rw [this]
      rw [List.map_congr_left hid, List.map_id])
    (fun x hx => by
      rw [List.getD_eq_getElem?_getD (l := (pairsOf A B).1.map (both y z)), List.getElem?_map, hget x hx]; rfl)
    (pairsOf A B).1.length (fun l hd hb => nodup_lt hd hb) (x0 := 0) hlen
  rw [h0] at this
  exact this.symm
theorem due_swap {L : List Nat} {A B : List (List Nat)} {y z : List Bool} (hL : L.Nodup) (hA : Tab L.length A) (hB : Tab L.length B) : dueT L B A z y = dueT L A B y z :=
  bRes_map (P := PIn A.length B.length) (f := fun p : Nat × Nat => (p.2, p.1)) (x0 := (0, 0)) (fun a b _ _ e => by
      have := Prod.mk.inj e
      exact Prod.ext this.2 this.1)
    (lawSc_in hL hA hB) (fun x _ => by unfold lawSc; rw [List.map_map]; rfl) (fun x _ => by unfold both; exact Bool.and_comm _ _) _ pairs_bound ⟨hA.n, hB.n⟩
end An
end
section
set_option Elab.async false
set_option maxRecDepth 100000
set_option maxHeartbeats 4000000
set_option linter.all false
/-! paired. -/
namespace An
open PySem L2
def pl (p : Nat × Nat) : List Nat := [p.1, p.2]
def tp (p : Nat × Nat) : List Key := tk (pl p)
theorem tp_inj : ∀ (a b : Nat × Nat), tp a = tp b → a = b := fun a b h => by
  have := tk_inj _ _ h
  simp only [pl, List.cons.injEq, and_true] at this
  exact Prod.ext this.1 this.2
theorem dgetP {H : Hp} {a z : Addr} {f : Nat × Nat → V} {l : List (Nat × Nat)} {S : Nat × Nat} (e : H a = some (.dT (dcG tp f l))) (hz : H z = some (.tup ((pl S).map vN))) : DGet H a (.ref z) (if S ∈ l then some (f S) else none) := by
  have h2 := DGet.t (k := tp S) e (by unfold tp; rw [tk_kV]; exact hz)
  rw [dcG_get tp tp_inj] at h2
  by_cases hm : S ∈ l
  · rw [if_pos hm] at h2 ⊢
    exact h2
  · rw [if_neg hm] at h2 ⊢
    exact h2
/-- a tuple stands while another kind of thing is changed -/
class NotTup (o : HO) : Prop where
  h : (∀ xs, o ≠ .tup xs) ∧ ∀ ob u, o ≠ .frz ob u
instance {xs : List V} : NotTup (.lst xs) := ⟨fun _ h => (by cases h), fun _ _ h => (by cases h)⟩
instance {xs : List (List Key × V)} : NotTup (.dT xs) := ⟨fun _ h => (by cases h), fun _ _ h => (by cases h)⟩
instance {xs : List (Key × V)} : NotTup (.dK xs) := ⟨fun _ h => (by cases h), fun _ _ h => (by cases h)⟩
theorem sqT_upd {K : PySem.W.Frag} {H : Hp} {a b : Addr} {o o' : HO} [n : NotTup o] {xs : List V} (e : H a = some o) (h : SqT K H b xs) : SqT K (upd H a o') b xs := by
  rcases h with (h | ⟨ob, h⟩) | h
  · refine .inl (.inl ?_)
    rw [upd_ne (fun q => ?_)]
    · exact h
    · rw [q, e] at h
      exact n.h.1 _ (Option.some.inj h)
  · refine .inl (.inr ⟨ob, ?_⟩)
    rw [upd_ne (fun q => ?_)]
    · exact h
    · rw [q, e] at h
      exact n.h.2 _ _ (Option.some.inj h)
  · exact .inr h
section
variable {P : Program} {w : World} {K : PySem.W.Frag} {mg : Str → Option Value} {base : Heap}
structure RTab (R : Rd3) : Prop where
  t : Tab R.1.length R.2.1
  y : R.2.2.length = R.2.1.length
  n : R.2.1.length ≤ 50
  l : LOk R.1
def sp_paired (K : PySem.W.Frag) : Sp := fun vs H Q _ => ∃ (R S : Rd3) (v u : V), vs = [v, u] ∧ Dp K H v (rdD R) ∧ Dp K H u (rdD S) ∧ RTab R ∧ RTab S ∧ R.1 = S.1 ∧
  ∀ H' t F Rr fs rs, Same H H' → H' t = some (.tup [.ref F, .ref Rr]) → H' F = some (.lst (fs.map V.ref)) → Tups H' fs ((pairsOf R.2.1 S.2.1).1.map pl) → H' Rr = some (.lst (rs.map V.ref)) → Tups H' rs (pairsOf R.2.1 S.2.1).2 → Q (.ref t) H'
theorem sc_paired : FnScope ["one", "other", "found", "place", "rows", "line", "pair", "left", "right"] ["one", "other"] (defScope s_paired) := ⟨rfl, rfl, rfl, by decide +kernel, rfl, by decide +kernel, by decide +kernel⟩
theorem ok_paired (T : Tx K mg) : FnOk P w K mg base CX0 1 T.paired.f T.paired.fd ["one", "other"] (sp_paired K) := by
  have sc := sc_paired
  refine T.paired.F.ok sc (fun vs H Q E h => ?_) (fun cdv A outer s H vs Q E hr h => ?_)
  · obtain ⟨_, _, _, _, rfl, _⟩ := h; rfl
  · obtain ⟨R, S, v, u, rfl, hv, hu, hR, hS, he, q⟩ := h
    refine ⟨_, (pss_cons (ps_par3 (i := 2) (j := 3) (l := 4) rfl sc.nd rfl rfl rfl (by decide) (by decide) (by decide) rfl rfl rfl (pa_cons (pe_lst (pa_cons (pe_tup (pa_cons pe_int (pa_cons pe_int pa_nil))) pa_nil)) (pa_cons (pe_dispT (hu_of hr) (pe_tup (pa_cons pe_int (pa_cons pe_int pa_nil))) pe_int) (pa_cons (pe_lst pa_nil) pa_nil))) (by rfl))
      (pss_cons (ps_while PassesOwn.never (pt_cmpR op_lt (pe_B (id := "len") call_len_seq T.b_len (pa_cons (pv 4) pa_nil)) (pe_B (id := "len") call_len_seq T.b_len (pa_cons (pv 2) pa_nil)) (nomark _))
        (pss_cons (ps_asg (pe_ix ix_list (pv 2) (pe_B (id := "len") call_len_seq T.b_len (pa_cons (pv 4) pa_nil)) (fun _ _ => rfl)) (pg_tup rfl (pgs_cons (pg_name (i := 7) (x := "left") sc.nd rfl (Or.inl rfl)) (pgs_cons (pg_name (i := 8) (x := "right") sc.nd rfl (Or.inl rfl)) pgs_nil))))
        (pss_cons (ps_set (i := 5) sc.nd rfl (Or.inl rfl) (pe_lst pa_nil))
        (pss_cons (ps_for PassesOwn.never rfl (pi_zipN rfl T.b_zip (pa_cons (pe_ix ix_D (pe_ix ix_D (pv 0) pe_int (fun _ _ => rfl)) (pv 7) (fun _ _ => rfl)) (pa_cons (pe_ix ix_D (pe_ix ix_D (pv 1) pe_int (fun _ _ => rfl)) (pv 8) (fun _ _ => rfl)) pa_nil))) (pg_name (i := 6) (x := "pair") sc.nd rfl (Or.inl rfl))
          (pss_cons (ps_if (pt_cmp (pc_dnotin (hu_of hr) (pv 6) (pv 3)))
            (pss_cons (ps_dput (hu_of hr) (pv 3) (pv 6) (pe_B (id := "len") call_len_seq T.b_len (pa_cons (pv 2) pa_nil)) rfl)
            (pss_one (ps_expr (pe_bm PySem.F.plainAttrs_list PySem.F.slot_list_append PySem.F.type_list_append mt_append (pv 2) (pa_cons (pv 6) pa_nil)))))
            pss_nil)
          (pss_one (ps_expr (pe_bm PySem.F.plainAttrs_list PySem.F.slot_list_append PySem.F.type_list_append mt_append (pv 5) (pa_cons (pe_dget (hu_of hr) (pv 3) (pv 6) (fun _ _ => rfl)) pa_nil))))))
        (pss_one (ps_expr (pe_bm PySem.F.plainAttrs_list PySem.F.slot_list_append PySem.F.type_list_append mt_append (pv 4) (pa_cons (pe_T (T := "tuple") call_tuple_of T.b_tuple (pa_cons (pv 5) pa_nil)) pa_nil))))))))
      (pss_one (ps_ret (pe_tup (pa_cons (pv 2) (pa_cons (pv 4) pa_nil))))))), ?_⟩
    have hS2 : Tab R.1.length S.2.1 := by rw [he]; exact hS.t
    obtain ⟨m, t, r⟩ := pairs_runs hR.t hS2
    have hLl := hR.l.le
    have hnm : R.2.1.length * S.2.1.length ≤ 2500 := Nat.mul_le_mul hR.n hS.n
    refine ⟨by show 2 ≤ sizeLine; exact line8 (by omega), fun r1 hr1 => ?_⟩
    have s1 := same_new (o := .tup [vN 0, vN 0]) hr1
    refine ⟨by show 1 ≤ sizeLine; exact line8 (by omega), fun F hF => ?_⟩
    intro Pl hPl
    have s3 : Same (upd H r1 (.tup [vN 0, vN 0])) (upd (upd H r1 (.tup [vN 0, vN 0])) F (.lst [.ref r1])) := same_new hF
    have d1 : (upd H r1 (.tup [vN 0, vN 0])) r1 = some (.tup ((pl (0, 0)).map vN)) := upd_same
    refine ⟨by show 2 ≤ sizeLine; exact line8 (by omega), fun r2 hr2 => ?_⟩
    have hF1 := hF
    have s4 : Same (upd (upd H r1 (.tup [vN 0, vN 0])) F (.lst [.ref r1])) (upd (upd (upd H r1 (.tup [vN 0, vN 0])) F (.lst [.ref r1])) Pl (.dT [])) := same_new hPl
    have s4b := s4.trans (same_new (o := .tup [vN 0, vN 0]) hr2)
    have hPr2 : Pl ≠ r2 := ne_of_none upd_same hr2
    refine ⟨by rw [upd_ne hPr2]; exact upd_same, r2, tp (0, 0), rfl, by unfold tp; rw [tk_kV]; exact upd_same, ?_⟩
    refine ⟨by show 0 ≤ sizeLine; exact line8 (by omega), fun Rr hRr => ⟨_, _, _, rfl, ?_⟩⟩
    dsimp only
    have hF0 : H F = none := none_of s1 hF
    have hPl0 : H Pl = none := none_of (s1.trans s3) hPl
    have s5 := same_upd (o := .dT [(tp (0, 0), V.int 0)]) s4b hPl
    have hR0 : H Rr = none := none_of (s1.trans (s3.trans s5)) hRr
    have s7 := s5.trans (same_new (o := .lst []) hRr)
    have hFPl : F ≠ Pl := ne_of_none upd_same hPl
    have hFR : F ≠ Rr := ne_of_none (s5 _ _ upd_same) hRr
    have hPR : Pl ≠ Rr := ne_of_none upd_same hRr
    have sA := s1.trans (s3.trans s7)
    have e0F := s7 _ _ (upd_same (H := upd H r1 (.tup [vN 0, vN 0])) (a := F) (o := .lst [.ref r1]))
    have e0r := s7 _ _ (s3 _ _ d1)
    have e0P : (upd (upd (upd (upd (upd (upd H r1 (.tup [vN 0, vN 0])) F (.lst [.ref r1])) Pl (.dT [])) r2 (.tup [vN 0, vN 0])) Pl (.dT [(tp (0, 0), V.int 0)])) Rr (.lst [])) Pl = some (.dT [(tp (0, 0), V.int 0)]) := by rw [upd_ne hPR]; exact upd_same
    refine seq_via (fun σ' Hc => ∃ fs rs o5 o6 o7 o8, σ' = [some v, some u, some (.ref F), some (.ref Pl), some (.ref Rr), o5, o6, o7, o8] ∧ Same H Hc ∧ Hc F = some (.lst (fs.map V.ref)) ∧ Tups Hc fs (t.1.map pl) ∧ Hc Rr = some (.lst (rs.map V.ref)) ∧ Tups Hc rs t.2) ?_ fun k => ?_
    · rintro σ1 H2 ⟨fs, rs, o5, o6, o7, o8, rfl, sB, eF, tF, eR, tR⟩
      have ht : pairsOf R.2.1 S.2.1 = t := by unfold pairsOf exp; rw [fin_eq r]
      rw [ht] at q
      refine ⟨_, rfl, _, rfl, by show 2 ≤ sizeLine; exact line8 (by omega), fun tt htt => ?_⟩
      have sn := same_new (o := .tup [.ref F, .ref Rr]) htt
      exact q _ tt F Rr fs rs (sB.trans sn) upd_same (sn _ _ eF) (tups_same sn tF) (sn _ _ eR) (tups_same sn tR)
    · refine while_runs r (fun st σ' Hc => ∃ fs rs o5 o6 o7 o8, σ' = [some v, some u, some (.ref F), some (.ref Pl), some (.ref Rr), o5, o6, o7, o8] ∧ Same H Hc ∧ Hc F = some (.lst (fs.map V.ref)) ∧ Tups Hc fs (st.1.map pl) ∧ Hc Pl = some (.dT (dcG tp (fun S => vN (place st.1 S)) st.1)) ∧ Hc Rr = some (.lst (rs.map V.ref)) ∧ Tups Hc rs st.2)
        ⟨[r1], [], _, _, _, _, rfl, sA, e0F, ⟨rfl, fun i a l h1 h2 => ?_⟩, ?_, upd_same, ⟨rfl, fun i a l h1 h2 => by simp at h1⟩⟩ ?_ ?_
      · have hi : i = 0 := by
          have := (List.getElem?_eq_some_iff.mp h1).1
          simp at this
          omega
        subst hi
        simp at h1 h2
        subst h1 h2
        exact e0r
      · refine Eq.trans e0P ?_
        show some (HO.dT [(tp (0, 0), V.int 0)]) = some (.dT [(tp (0, 0), vN (place [(0, 0)] (0, 0)))])
        have : place [((0, 0) : Nat × Nat)] (0, 0) = 0 := place_of (by simp) rfl
        rw [this]
        rfl
      · rintro Ok st st' σ1 H2 hi est ⟨fs, rs, o5, o6, o7, o8, rfl, sB, eF, tF, eP, eR, tR⟩ hok
        obtain ⟨_, _, _, hlt⟩ := expStep_ok (pairSucc_ok hR.t hS2) hi est
        have hx : st.1[st.2.length]? = some st.1[st.2.length] := List.getElem?_eq_getElem hlt
        have hxP : PIn R.2.1.length S.2.1.length st.1[st.2.length] := hi.p _ (List.getElem_mem hlt)
        unfold expStep at est
        rw [hx] at est
        have est := (Option.some.inj est).symm
        subst est
        have hfl := tF.1
        rw [List.length_map] at hfl
        have hrl := tR.1
        have hf32 := pairs_bound _ hi.nd hi.p
        refine ⟨_, rfl, Rr, _, rfl, .inl (SqL.of eR), _, rfl, F, _, rfl, .inl (SqL.of eF), _, _, rfl, rfl, _, rfl, ?_⟩
        rw [List.length_map, List.length_map, decide_eq_true (by omega)]
        refine iteT ⟨_, hok, ?_⟩
        have hfa : fs[st.2.length]? = some (fs[st.2.length]'(by omega)) := List.getElem?_eq_getElem (by omega)
        have hta := tF.2 _ _ (pl st.1[st.2.length]) hfa (by rw [List.getElem?_map, hx]; rfl)
        generalize fs[st.2.length]'(by omega) = a at hfa hta
        generalize hxs : st.1[st.2.length] = x at hx hxP hta hok
        refine ⟨_, rfl, _, rfl, Rr, _, rfl, .inl (SqL.of eR), F, _, _, _, rfl, rfl, SqL.of eF, atI_nat (by rw [List.length_map, hrl, List.getElem?_map, hfa]; rfl), ?_⟩
        refine ⟨a, _, rfl, SqT.of hta, rfl, _, _, rfl, _, _, rfl, rfl, by show 0 ≤ sizeLine; exact line8 (by omega), fun Ln hLn => ?_⟩
        dsimp only [gName]
        have sC := sB.trans (same_new (o := .lst []) hLn)
        have kC : Same H2 (upd H2 Ln (.lst [])) := same_new hLn
        have hLn0 := none_of sB hLn
        have hFL : F ≠ Ln := ne_of_none eF hLn
        have hPL : Pl ≠ Ln := ne_of_none eP hLn
        have hRL : Rr ≠ Ln := ne_of_none eR hLn
        obtain ⟨hr1l, hr1b⟩ := hR.t.row hxP.1
        obtain ⟨hr2l, hr2b⟩ := hS2.row hxP.2
        have hLl : (pairSucc R.2.1 S.2.1 x).length = R.1.length := by unfold pairSucc; rw [List.length_zip]; omega
        have hnx : ∀ y ∈ pairSucc R.2.1 S.2.1 x, PIn R.2.1.length S.2.1.length y := pairSucc_ok hR.t hS2 x hxP
        have hlb : ∀ j, (mrg st.1 ((pairSucc R.2.1 S.2.1 x).take j)).length ≤ 2500 := fun j => Nat.le_trans (pairs_bound _ (nodup_mrg hi.nd) fun y hy => by
          rcases mem_mrg.mp hy with hy | hy
          · exact hi.p y hy
          · exact hnx y (List.mem_of_mem_take hy)) hnm
        refine seq_via (fun σ' Hc => ∃ fs o6, σ' = [some v, some u, some (.ref F), some (.ref Pl), some (.ref Rr), some (.ref Ln), o6, some (vN x.1), some (vN x.2)] ∧ Same H Hc ∧ Hc F = some (.lst (fs.map V.ref)) ∧ Tups Hc fs ((mrg st.1 (pairSucc R.2.1 S.2.1 x)).map pl) ∧ Hc Pl = some (.dT (dcG tp (fun z => vN (place (mrg st.1 (pairSucc R.2.1 S.2.1 x)) z)) (mrg st.1 (pairSucc R.2.1 S.2.1 x)))) ∧ Hc Rr = some (.lst (rs.map V.ref)) ∧ Tups Hc rs st.2 ∧
          Hc Ln = some (.lst (((pairSucc R.2.1 S.2.1 x).map fun z => place (mrg st.1 (pairSucc R.2.1 S.2.1 x)) z).map vN))) ?_ fun k2 => ?_
        · rintro σ3 H3 ⟨fs, o6, rfl, sD, eF, tF, eP, eR, tR, eL⟩
          refine ⟨_, rfl, .inl ⟨rfl, _, SqL.of eR⟩, _, rfl, Ln, _, rfl, .inl ⟨SqL.of eL, fun l hl => ?_⟩⟩
          have kl : Same H3 (upd H3 l (.tup (((pairSucc R.2.1 S.2.1 x).map fun z => place (mrg st.1 (pairSucc R.2.1 S.2.1 x)) z).map vN))) := same_new hl
          have dl : (upd H3 l (.tup (((pairSucc R.2.1 S.2.1 x).map fun z => place (mrg st.1 (pairSucc R.2.1 S.2.1 x)) z).map vN))) l = some (.tup (((pairSucc R.2.1 S.2.1 x).map fun z => place (mrg st.1 (pairSucc R.2.1 S.2.1 x)) z).map vN)) := upd_same
          generalize upd H3 l (.tup (((pairSucc R.2.1 S.2.1 x).map fun z => place (mrg st.1 (pairSucc R.2.1 S.2.1 x)) z).map vN)) = H4 at kl dl
          have eR4 := kl _ _ eR
          refine ⟨Rr, _, _, rfl, rfl, eR4, by rw [List.length_map, hrl]; exact line9 (by omega), ?_⟩
          have kR : ∀ b o, b ≠ Rr → H4 b = some o → (upd H4 Rr (.lst (rs.map V.ref ++ [.ref l]))) b = some o := fun b o hb h => by rw [upd_ne hb]; exact h
          have kT : ∀ b xs, H4 b = some (.tup xs) → (upd H4 Rr (.lst (rs.map V.ref ++ [.ref l]))) b = some (.tup xs) := fun b xs h => kR _ _ (fun q => by rw [q, eR4] at h; cases h) h
          refine ⟨fs, rs ++ [l], _, _, _, _, rfl, same_upd (sD.trans kl) hR0, kR _ _ hFR (kl _ _ eF), tups_of kT (tups_same kl tF), kR _ _ hPR (kl _ _ eP), by rw [upd_same, List.map_append]; rfl, tups_snoc (tups_of kT (tups_same kl tR)) (kT _ _ dl)⟩
        · refine ⟨_, rfl, [tD R.1, rowsD R.2.1, yesD R.2.2], 1, _, dp_same sC _ _ hv, rfl, rfl, fun z hz => ⟨_, rfl, R.2.1.map rowD, x.1, rowD (R.2.1.getD x.1 []), hz, rfl, by rw [List.getElem?_map, List.getD_eq_getElem?_getD, List.getElem?_eq_getElem hxP.1]; rfl, fun z1 hz1 => ?_⟩⟩
          refine ⟨_, rfl, [tD S.1, rowsD S.2.1, yesD S.2.2], 1, _, dp_same sC _ _ hu, rfl, rfl, fun z hz => ⟨_, rfl, S.2.1.map rowD, x.2, rowD (S.2.1.getD x.2 []), hz, rfl, by rw [List.getElem?_map, List.getD_eq_getElem?_getD, List.getElem?_eq_getElem hxP.2]; rfl, fun z2 hz2 => ?_⟩⟩
          obtain ⟨c1, xs1, rfl, ht1, ha1⟩ := dp_tup hz1
          obtain ⟨c2, xs2, rfl, ht2, ha2⟩ := dp_tup hz2
          have q1 := dpAll_ints ha1
          have q2 := dpAll_ints ha2
          subst q1 q2
          refine ⟨.tup c1, .tup c2, _, _, rfl, ht1, ht2, ?_⟩
          have hzl : ((R.2.1.getD x.1 []).map vN).length = ((S.2.1.getD x.2 []).map vN).length := by rw [List.length_map, List.length_map]; omega
          have hK1 : ∀ {Hc : Hp}, (∀ b xs, (upd H2 Ln (.lst [])) b = some (.tup xs) → Hc b = some (.tup xs)) → True := fun _ => trivial
          refine for_it (walk_zipN hzl) (fun j σ' Hc => ∃ fs o6, σ' = [some v, some u, some (.ref F), some (.ref Pl), some (.ref Rr), some (.ref Ln), o6, some (vN x.1), some (vN x.2)] ∧ Same H Hc ∧ Hc F = some (.lst (fs.map V.ref)) ∧ Tups Hc fs ((mrg st.1 ((pairSucc R.2.1 S.2.1 x).take j)).map pl) ∧ Hc Pl = some (.dT (dcG tp (fun z => vN (place (mrg st.1 ((pairSucc R.2.1 S.2.1 x).take j)) z)) (mrg st.1 ((pairSucc R.2.1 S.2.1 x).take j)))) ∧ Hc Rr = some (.lst (rs.map V.ref)) ∧ Tups Hc rs st.2 ∧
            Hc Ln = some (.lst ((((pairSucc R.2.1 S.2.1 x).take j).map fun z => place (mrg st.1 ((pairSucc R.2.1 S.2.1 x).take j)) z).map vN)) ∧ SqT K Hc c1 ((R.2.1.getD x.1 []).map vN) ∧ SqT K Hc c2 ((S.2.1.getD x.2 []).map vN)) ⟨fs, _, rfl, sC, kC _ _ eF, tups_same kC tF, kC _ _ eP, kC _ _ eR, tups_same kC tR, upd_same, ht1, ht2⟩ (fun _ _ _ _ ⟨_, _, _, _, _, _, _, _, _, _, h1, h2⟩ => ⟨h1, h2⟩) ?_ ?_
          · rintro j y σ' Hx Hc hj ⟨fs, o6, rfl, sD, eF, tF, eP, eR, tR, eL, g1, g2⟩ ⟨z, a1, a2, rfl, hz0, rfl, h1, h2⟩
            have h1 : ((R.2.1.getD x.1 []).map vN)[j]? = some a1 := h1
            have h2 : ((S.2.1.getD x.2 []).map vN)[j]? = some a2 := h2
            rw [List.getElem?_map] at h1 h2
            cases hm1 : (R.2.1.getD x.1 [])[j]? with
            | none => rw [hm1] at h1; cases h1
            | some m1 =>
            cases hm2 : (S.2.1.getD x.2 [])[j]? with
            | none => rw [hm2] at h2; cases h2
            | some m2 =>
            rw [hm1] at h1
            rw [hm2] at h2
            cases h1
            cases h2
            have hzj : (pairSucc R.2.1 S.2.1 x)[j]? = some (m1, m2) := by unfold pairSucc; rw [List.getElem?_zip_eq_some]; exact ⟨hm1, hm2⟩
            have hjl : j < (pairSucc R.2.1 S.2.1 x).length := (List.getElem?_eq_some_iff.mp hzj).1
            have hnext : mrg st.1 ((pairSucc R.2.1 S.2.1 x).take (j + 1)) = addK (mrg st.1 ((pairSucc R.2.1 S.2.1 x).take j)) (m1, m2) := take_fold hzj
            have htk : (pairSucc R.2.1 S.2.1 x).take (j + 1) = (pairSucc R.2.1 S.2.1 x).take j ++ [(m1, m2)] := by
              rw [List.take_succ_eq_append_getElem hjl]
              rw [List.getElem?_eq_getElem hjl] at hzj
              rw [Option.some.inj hzj]
            have hfn : (mrg st.1 ((pairSucc R.2.1 S.2.1 x).take j)).Nodup := nodup_mrg hi.nd
            have hsub : ∀ z ∈ (pairSucc R.2.1 S.2.1 x).take j, z ∈ mrg st.1 ((pairSucc R.2.1 S.2.1 x).take j) := fun z hz => mem_mrg.mpr (.inr hz)
            have hl1 := hlb j
            have hzl : ((pairSucc R.2.1 S.2.1 x).take j).length ≤ 10 := by rw [List.length_take]; omega
            rw [hnext, htk]
            generalize (pairSucc R.2.1 S.2.1 x).take j = zs at eF tF eP eL hl1 hfn hsub hzl
            generalize mrg st.1 zs = f at eF tF eP eL hl1 hfn hsub
            generalize hzz : ((m1, m2) : Nat × Nat) = zS at hnext htk
            have s4 : Same Hx (upd Hx z (.tup [vN m1, vN m2])) := same_new hz0
            have d4 : (upd Hx z (.tup [vN m1, vN m2])) z = some (.tup ((pl zS).map vN)) := by rw [← hzz]; exact upd_same
            generalize upd Hx z (.tup [vN m1, vN m2]) = H4 at s4 d4
            have hfl2 := tF.1
            rw [List.length_map] at hfl2
            dsimp only [gName]
            refine seq_via (fun σ' Hc => ∃ fs, σ' = [some v, some u, some (.ref F), some (.ref Pl), some (.ref Rr), some (.ref Ln), some (.ref z), some (vN x.1), some (vN x.2)] ∧ Same H Hc ∧ Hc F = some (.lst (fs.map V.ref)) ∧ Tups Hc fs ((addK f zS).map pl) ∧ Hc Pl = some (.dT (dcG tp (fun S => vN (place (addK f zS) S)) (addK f zS))) ∧ Hc Rr = some (.lst (rs.map V.ref)) ∧ Tups Hc rs st.2 ∧ Hc z = some (.tup ((pl zS).map vN)) ∧
              Hc Ln = some (.lst ((zs.map fun z => place f z).map vN)) ∧ SqT K Hc c1 ((R.2.1.getD x.1 []).map vN) ∧ SqT K Hc c2 ((S.2.1.getD x.2 []).map vN)) ?_ fun k3 => ?_
            · rintro σ5 H5 ⟨fs, rfl, sE, eF, tF, eP, eR, tR, ez, eL, g1, g2⟩
              have hm : zS ∈ addK f zS := mem_addK.mpr (.inr rfl)
              have hg := dgetP eP ez
              rw [if_pos hm] at hg
              have kk : Keep H5 (upd H5 Ln (.lst ((zs.map fun z => place f z).map vN ++ [vN (place (addK f zS) zS)]))) → True := fun _ => trivial
              have kT : ∀ b xs, H5 b = some (.tup xs) → (upd H5 Ln (.lst ((zs.map fun z => place f z).map vN ++ [vN (place (addK f zS) zS)]))) b = some (.tup xs) := fun b xs hb => by rw [upd_ne (fun q => by rw [q, eL] at hb; cases hb)]; exact hb
              refine ⟨_, rfl, .inl ⟨rfl, _, SqL.of eL⟩, _, rfl, _, rfl, Pl, _, rfl, hg, Ln, _, _, rfl, rfl, eL, ?_, ?_⟩
              · rw [List.length_map, List.length_map]
                exact line9 (by omega)
              · refine ⟨fs, _, rfl, same_upd sE hLn0, by rw [upd_ne hFL]; exact eF, tups_of kT tF, by rw [upd_ne hPL]; exact eP, by rw [upd_ne hRL]; exact eR, tups_of kT tR, ?_, sqT_upd eL g1, sqT_upd eL g2⟩
                rw [upd_same, List.map_append, List.map_append]
                have e10 : zs.map (fun z => place (addK f zS) z) = zs.map fun z => place f z := List.map_congr_left fun y hy => idx_mono (os := [zS]) hfn (hsub y hy)
                rw [e10]
                rfl
            · have eF4 := s4 _ _ eF
              have eP4 := s4 _ _ eP
              refine ⟨_, rfl, _, rfl, Pl, _, rfl, dgetP eP4 d4, _, rfl, ?_⟩
              by_cases hm : zS ∈ f
              · rw [if_pos hm]
                refine iteF (k3 _ _ ⟨fs, rfl, sD.trans s4, eF4, ?_, ?_, s4 _ _ eR, tups_same s4 tR, d4, s4 _ _ eL, same_t s4 g1, same_t s4 g2⟩)
                · rw [addK_in hm]; exact tups_same s4 tF
                · rw [addK_in hm]; exact eP4
              · rw [if_neg hm]
                refine iteT ⟨_, rfl, F, _, rfl, .inl (SqL.of eF4), _, rfl, _, rfl, Pl, _, rfl, DPut.t (k := tp zS) eP4 (by unfold tp; rw [tk_kV]; exact d4) (by rw [List.length_map]; exact line9 (by omega)), ?_⟩
                have e8 : V.int ((fs.map V.ref).length : Int) = vN f.length := by rw [List.length_map, hfl2]
                rw [e8, dcG_put tp tp_inj hm]
                have kP : ∀ b o, b ≠ Pl → H4 b = some o → (upd H4 Pl (.dT (dcG tp (fun a => vN (place (f ++ [zS]) a)) (f ++ [zS])))) b = some o := fun b o hb h => by rw [upd_ne hb]; exact h
                refine ⟨_, rfl, .inl ⟨rfl, _, SqL.of (kP _ _ hFPl eF4)⟩, _, rfl, F, _, _, rfl, rfl, kP _ _ hFPl eF4, by rw [List.length_map, hfl2]; exact line9 (by omega), ?_⟩
                have kF : ∀ b o, b ≠ Pl → b ≠ F → H4 b = some o → (upd (upd H4 Pl (.dT (dcG tp (fun a => vN (place (f ++ [zS]) a)) (f ++ [zS])))) F (.lst (fs.map V.ref ++ [.ref z]))) b = some o := fun b o hb h2 h => by rw [upd_ne h2]; exact kP b o hb h
                have kT : ∀ b xs, H4 b = some (.tup xs) → (upd (upd H4 Pl (.dT (dcG tp (fun a => vN (place (f ++ [zS]) a)) (f ++ [zS])))) F (.lst (fs.map V.ref ++ [.ref z]))) b = some (.tup xs) := fun b xs h => kF _ _ (fun q => by rw [q, eP4] at h; cases h) (fun q => by rw [q, eF4] at h; cases h) h
                refine k3 _ _ ⟨fs ++ [z], rfl, same_upd (same_upd (sD.trans s4) hPl0) hF0, by rw [upd_same, List.map_append]; rfl, ?_, ?_, kF _ _ hPR.symm hFR.symm (s4 _ _ eR), tups_of kT (tups_same s4 tR), kT _ _ d4, kF _ _ hPL.symm hFL.symm (s4 _ _ eL), sqT_upd (kP _ _ hFPl eF4) (sqT_upd eP4 (same_t s4 g1)), sqT_upd (kP _ _ hFPl eF4) (sqT_upd eP4 (same_t s4 g2))⟩
                · rw [addK_out hm, List.map_append]
                  exact tups_snoc (tups_of kT (tups_same s4 tF)) (kT _ _ d4)
                · rw [addK_out hm, upd_ne hFPl.symm, upd_same]
          · rintro σ' Hc ⟨fs, o6, rfl, sD, eF, tF, eP, eR, tR, eL, _, _⟩
            rw [List.length_map, hr1l, ← hLl, List.take_length] at tF eP eL
            exact k2 _ _ ⟨fs, o6, rfl, sD, eF, tF, eP, eR, tR, eL⟩
      · rintro Ok σ1 H2 hi est ⟨fs, rs, o5, o6, o7, o8, rfl, sB, eF, tF, eP, eR, tR⟩
        have hle : t.1.length ≤ t.2.length := by
          unfold expStep at est
          cases hx : t.1[t.2.length]? with
          | none => exact List.getElem?_eq_none_iff.mp hx
          | some x => rw [hx] at est; cases est
        have hfl := tF.1
        rw [List.length_map] at hfl
        have hrl := tR.1
        refine ⟨_, rfl, Rr, _, rfl, .inl (SqL.of eR), _, rfl, F, _, rfl, .inl (SqL.of eF), _, _, rfl, rfl, _, rfl, ?_⟩
        rw [List.length_map, List.length_map, decide_eq_false (by omega)]
        exact iteF (k _ _ ⟨fs, rs, o5, o6, o7, o8, rfl, sB, eF, tF, eR, tR⟩)
end
end An
end
section
set_option Elab.async false
set_option maxRecDepth 100000
set_option maxHeartbeats 4000000
set_option linter.all false
/-! first_text. -/
namespace An
open PySem L2
theorem tx_app (a b : List Nat) : tx a ++ tx b = tx (a ++ b) := by
  show (⟨_⟩ : Str) = ⟨_⟩
  congr 1
  simp [tx]
abbrev txd (q : List (List Nat × Nat)) : List (Key × V) := q.map fun e => ((Sum.inl (e.2 : Int) : Key), V.str (tx e.1))
theorem txd_nd {q : List (List Nat × Nat)} (h : (q.map (·.2)).Nodup) : ((txd q).map (·.1)).Nodup := by
  unfold txd
  rw [List.map_map]
  have e : q.map ((fun p : Key × V => p.1) ∘ fun e => ((Sum.inl (e.2 : Int) : Key), V.str (tx e.1))) = (q.map (·.2)).map fun (n : Nat) => (Sum.inl (n : Int) : Key) := by rw [List.map_map]; rfl
  rw [e]
  exact h.map _ (fun a b hne e => hne (by have := Sum.inl.inj e; omega))
theorem txd_in {q : List (List Nat × Nat)} (h : (q.map (·.2)).Nodup) {i : Nat} {e : List Nat × Nat} (he : q[i]? = some e) : valV (txd q) (Sum.inl (e.2 : Int)) = some (.str (tx e.1)) :=
  valV_at (i := i) (txd_nd h) (by rw [List.getElem?_map, he]; rfl)
theorem txd_out {q : List (List Nat × Nat)} {x : Nat} (h : x ∉ q.map (·.2)) : valV (txd q) (Sum.inl (x : Int)) = none := by
  unfold valV
  rw [Option.map_eq_none_iff, List.find?_eq_none]
  intro p hp
  obtain ⟨e, he, rfl⟩ := List.mem_map.mp hp
  simp only [decide_eq_true_eq]
  intro z
  have := Sum.inl.inj z
  exact h (List.mem_map.mpr ⟨e, he, by omega⟩)
theorem txd_some {q : List (List Nat × Nat)} (h : (q.map (·.2)).Nodup) {x : Nat} (hx : x ∈ q.map (·.2)) : (valV (txd q) (Sum.inl (x : Int))).isSome = true := by
  obtain ⟨e, he, rfl⟩ := List.mem_map.mp hx
  obtain ⟨i, hi⟩ := List.getElem?_of_mem he
  rw [txd_in h hi]
  rfl
theorem txd_put {q : List (List Nat × Nat)} {x : Nat} {t : List Nat} (h : x ∉ q.map (·.2)) : putK (txd q) (Sum.inl (x : Int)) (.str (tx t)) = txd (q ++ [(t, x)]) := by
  rw [putK_new _ (txd_out h)]
  simp
def optV : Option (List Nat) → V
  | none => .non
  | some t => .str (tx t)
theorem addQs_pre {t : List Nat} : ∀ (cs : List (Nat × Nat)) (q : List (List Nat × Nat)), ∃ r, cs.foldl (addQ t) q = q ++ r
  | [], q => ⟨[], by simp⟩
  | c :: cs, q => by
    obtain ⟨r, hr⟩ := addQs_pre (t := t) cs (addQ t q c)
    rw [List.foldl_cons, hr]
    unfold addQ
    split
    · exact ⟨r, rfl⟩
    · exact ⟨_, List.append_assoc _ _ _⟩
section
variable {P : Program} {w : World} {K : PySem.W.Frag} {mg : Str → Option Value} {base : Heap}
def sp_first_text (K : PySem.W.Frag) : Sp := fun vs H Q _ => ∃ (L : List Nat) (rows : List (List Nat)) (yes : List Bool) (Rr Y : Addr) (rs : List Addr), vs = [.str (tx L), .ref Rr, .ref Y] ∧ H Rr = some (.lst (rs.map V.ref)) ∧ Tups H rs rows ∧ H Y = some (.lst (yes.map V.bl)) ∧ RowsOk rows ∧ rows.length ≤ 2500 ∧
  yes.length = rows.length ∧ L.length ≤ 10 ∧ ∀ H', Same H H' → Q (optV (bRes (idxSc L rows) (fun i => yes.getD i false) 0)) H'
theorem idxSc_in {L : List Nat} {rows : List (List Nat)} (h : RowsOk rows) : ∀ x, x < rows.length → ∀ c ∈ idxSc L rows x, c.2 < rows.length := fun x hx c hc => by
  have := (List.of_mem_zip (show (c.1, c.2) ∈ _ from hc)).2
  rw [List.getD_eq_getElem?_getD, List.getElem?_eq_getElem hx] at this
  exact h.2 _ (List.getElem_mem hx) _ this
theorem sc_first_text : FnScope ["letters", "rows", "yes", "here", "texts", "behind", "stand", "sign", "later"] ["letters", "rows", "yes"] (defScope s_first_text) := ⟨rfl, rfl, rfl, by decide +kernel, rfl, by decide +kernel, by decide +kernel⟩
theorem ok_first_text (T : Tx K mg) : FnOk P w K mg base CX0 1 T.first_text.f T.first_text.fd ["letters", "rows", "yes"] (sp_first_text K) := by
  have sc := sc_first_text
  refine T.first_text.F.ok sc (fun vs H Q E h => ?_) (fun cdv A outer s H vs Q E hr h => ?_)
  · obtain ⟨_, _, _, _, _, _, rfl, _⟩ := h; rfl
  · obtain ⟨L, rows, yes, Rr, Y, rs, rfl, hRr, htR, hY, hro, hn, hyl, hL, q⟩ := h
    refine ⟨_, (pss_cons (ps_par (i := 3) (j := 4) rfl sc.nd rfl rfl (by decide) rfl rfl (pa_cons (pe_lst (pa_cons pe_int pa_nil)) (pa_cons (pe_disp (pps_cons pe_int pe_str pps_nil) (by rfl) (by rfl) (fun z => by cases z) (by decide)) pa_nil)) (by rfl))
      (pss_cons (ps_while PassesOwn.never (pt_cmpR (op_neD hr.units) (pv 3) (pe_lst pa_nil) (nomark _))
        (pss_cons (ps_set (i := 5) sc.nd rfl (Or.inl rfl) (pe_lst pa_nil))
        (pss_cons (ps_for PassesOwn.never rfl (pi_list (pv 3)) (pg_name (i := 6) (x := "stand") sc.nd rfl (Or.inl rfl))
          (pss_cons (ps_if (pt_val (pe_ix ix_list (pv 2) (pv 6) (fun _ _ => rfl)))
            (pss_one (ps_ret (pe_dget (hu_of hr) (pv 4) (pv 6) (fun _ _ => rfl))))
            pss_nil)
          (pss_one (ps_for PassesOwn.never rfl (pi_zipS rfl T.b_zip (pa_cons (pv 0) (pa_cons (pe_ix ix_list (pv 1) (pv 6) (fun _ _ => rfl)) pa_nil))) (pg_tup rfl (pgs_cons (pg_name (i := 7) (x := "sign") sc.nd rfl (Or.inl rfl)) (pgs_cons (pg_name (i := 8) (x := "later") sc.nd rfl (Or.inl rfl)) pgs_nil)))
            (pss_one (ps_if (pt_cmp (pc_dnotin (hu_of hr) (pv 8) (pv 4)))
              (pss_cons (ps_dput (hu_of hr) (pv 4) (pv 8) (pe_op op_add_str (pe_dget (hu_of hr) (pv 4) (pv 6) (fun _ _ => rfl)) (pv 7)) rfl)
              (pss_one (ps_expr (pe_bm PySem.F.plainAttrs_list PySem.F.slot_list_append PySem.F.type_list_append mt_append (pv 5) (pa_cons (pv 8) pa_nil)))))
              pss_nil))))))
        (pss_one (ps_set (i := 3) sc.nd rfl (Or.inl rfl) (pv 5))))))
      (pss_one (ps_ret pe_non)))), ?_⟩
    obtain ⟨m, t, r⟩ := b_runs (good := fun i => yes.getD i false) (P := (· < rows.length)) (idxSc_in (L := L) hro) rows.length (fun l hd hb => nodup_lt hd hb) hro.1
    have hres : bRes (idxSc L rows) (fun i => yes.getD i false) 0 = (t.2[t.1]?).map (·.1) := by
      unfold bRes bEnd
      rw [fin_eq r]
    rw [hres] at q
    refine ⟨by show 1 ≤ sizeLine; exact line8 (by omega), fun Hh hHh => ?_⟩
    intro Tx hTx
    refine ⟨upd_same, [(Sum.inl 0, .str (tx []))], rfl, by decide, _, _, rfl, ?_⟩
    have hHT : Hh ≠ Tx := ne_of_none upd_same hTx
    have hTx0 : H Tx = none := none_of (same_new hHh) hTx
    dsimp only
    refine seq_via (fun σ' Hc => t.2[t.1]? = none ∧ Same H Hc) ?_ fun k => ?_
    · rintro σ' Hc ⟨h1, s1⟩
      rw [h1] at q
      exact q _ s1
    · refine ⟨fun m σ Hc => ∃ st, Runs (bStep (idxSc L rows) fun i => yes.getD i false) (BI (· < rows.length)) m st t ∧ ∃ Hh o5 o6 o7 o8, σ = [some (.str (tx L)), some (.ref Rr), some (.ref Y), some (.ref Hh), some (.ref Tx), o5, o6, o7, o8] ∧ Same H Hc ∧ Hc Hh = some (.lst (((st.2.map (·.2)).drop st.1).map vN)) ∧ Hc Tx = some (.dK (txd st.2)), ⟨m, _, r, Hh, _, _, _, _, rfl, same_upd (same_upd (same_new hHh) hTx0) hTx0, ?_, upd_same⟩, ?_⟩
      · rw [upd_ne hHT, upd_ne hHT, upd_same]; rfl
      · rintro m σ1 H1 ⟨st, r1, Hh, o5, o6, o7, o8, rfl, s1, eh, eT⟩
        refine ⟨_, rfl, by show 0 ≤ sizeLine; exact line8 (by omega), fun E0 hE0 => ?_⟩
        have n0 := same_new (o := .lst []) hE0
        by_cases hemp : (st.2.map (·.2)).drop st.1 = []
        · refine ne_nil_f (n0 _ _ eh) upd_same hemp ⟨_, rfl, iteF ?_⟩
          refine k [] _ ⟨?_, s1.trans n0⟩
          have hle : st.2.length ≤ st.1 := by
            have := List.drop_eq_nil_iff.mp hemp
            simpa using this
          cases r1 with
          | stop i e => exact List.getElem?_eq_none hle
          | go i e r2 =>
            unfold bStep at e
            rw [List.getElem?_eq_none hle] at e
            cases e
        · refine ne_nil_t (n0 _ _ eh) upd_same hemp ⟨_, rfl, iteT ⟨fun σ' H' => ∃ m', m' < m ∧ ∃ st, Runs (bStep (idxSc L rows) fun i => yes.getD i false) (BI (· < rows.length)) m' st t ∧ ∃ Hh o5 o6 o7 o8, σ' = [some (.str (tx L)), some (.ref Rr), some (.ref Y), some (.ref Hh), some (.ref Tx), o5, o6, o7, o8] ∧ Same H H' ∧ H' Hh = some (.lst (((st.2.map (·.2)).drop st.1).map vN)) ∧ H' Tx = some (.dK (txd st.2)), fun _ _ h => h, ?_⟩⟩
          have hlt : st.1 < st.2.length := by
            have : ¬ (st.2.map (·.2)).length ≤ st.1 := fun z => hemp (List.drop_eq_nil_iff.mpr z)
            simpa using this
          refine ⟨by show 0 ≤ sizeLine; exact line8 (by omega), fun Bh hBh => ?_⟩
          dsimp only [gName]
          have s2 := (s1.trans n0).trans (same_new (o := .lst []) hBh)
          have kB := n0.trans (same_new (o := .lst []) hBh)
          have hBh0 := none_of (s1.trans n0) hBh
          have hTB : Tx ≠ Bh := ne_of_none (n0 _ _ eT) hBh
          have hHB : Hh ≠ Bh := ne_of_none (n0 _ _ eh) hBh
          have hHT : Hh ≠ Tx := fun z => by rw [z, eT] at eh; cases eh
          have hnl : (((st.2.map (·.2)).drop st.1).map vN).length = st.2.length - st.1 := by simp
          have hi0 := r1.inv
          have hN0 : st.2.length ≤ rows.length := b_len (fun l hd hb => nodup_lt hd hb) hi0
          refine ⟨_, rfl, Hh, rfl, ⟨_, SqL.of (kB _ _ eh)⟩, ?_⟩
          refine for_it walk_list (fun j σ' Hc => ∃ m2 q o6 o7 o8, m2 + j = m ∧ Runs (bStep (idxSc L rows) fun i => yes.getD i false) (BI (· < rows.length)) m2 (st.1 + j, q) t ∧ st.2.length ≤ q.length ∧ q.take st.2.length = st.2 ∧
            σ' = [some (.str (tx L)), some (.ref Rr), some (.ref Y), some (.ref Hh), some (.ref Tx), some (.ref Bh), o6, o7, o8] ∧ Same H Hc ∧ Hc Hh = some (.lst (((st.2.map (·.2)).drop st.1).map vN)) ∧ Hc Tx = some (.dK (txd q)) ∧ Hc Bh = some (.lst (((q.map (·.2)).drop st.2.length).map vN)))
            ⟨m, st.2, _, _, _, rfl, r1, Nat.le_refl _, List.take_length, rfl, s2, kB _ _ eh, kB _ _ eT, ?_⟩ (fun _ _ _ _ ⟨_, _, _, _, _, _, _, _, _, _, _, h, _⟩ => SqL.of h) ?_ ?_
          · rw [upd_same, List.drop_of_length_le (by simp)]; rfl
          · rintro j y σ' Hx Hc hj ⟨m2, q2, o6, o7, o8, hm2, r2, hql, hqt, rfl, s3, eh3, eT3, eB3⟩ ⟨rfl, hy⟩
            rw [hnl] at hj
            have hin : st.1 + j < st.2.length := by omega
            have hqi : q2[st.1 + j]? = some st.2[st.1 + j] := by
              have : (q2.take st.2.length)[st.1 + j]? = q2[st.1 + j]? := List.getElem?_take_of_lt hin
              rw [← this, hqt, List.getElem?_eq_getElem hin]
            generalize hen : st.2[st.1 + j] = en at hqi
            have hye : y = vN en.2 := by
              rw [List.getElem?_map, List.getElem?_drop, List.getElem?_map, List.getElem?_eq_getElem hin, hen] at hy
              exact (Option.some.inj hy).symm
            subst hye
            have hi2 := r2.inv
            have hex : en.2 < rows.length := hi2.p en (List.mem_of_getElem? hqi)
            have het : en.1.length ≤ st.1 + j := hi2.t en (List.mem_of_getElem? hqi)
            have hN2 : q2.length ≤ rows.length := b_len (fun l hd hb => nodup_lt hd hb) hi2
            have hyi : (yes.map V.bl)[en.2]? = some (.bl (yes.getD en.2 false)) := by
              rw [List.getElem?_map, List.getD_eq_getElem?_getD, List.getElem?_eq_getElem (by omega)]; rfl
            refine ⟨_, rfl, _, rfl, Y, _, _, _, rfl, rfl, SqL.of (s3 _ _ hY), atI_nat hyi, _, rfl, ?_⟩
            have hgT : ∀ {Hc : Hp} {q : List (List Nat × Nat)}, Hc Tx = some (.dK (txd q)) → (q.map (·.2)).Nodup → q[st.1 + j]? = some en → DGet Hc Tx (vN en.2) (some (.str (tx en.1))) := fun h1 h2 h3 => by
              have := DGet.k (k := Sum.inl (en.2 : Int)) h1
              rw [txd_in h2 h3] at this
              exact this
            cases hgood : yes.getD en.2 false with
            | true =>
              refine iteT ⟨_, rfl, _, rfl, Tx, _, rfl, hgT eT3 hi2.nd hqi, ?_⟩
              have ht : t = (st.1 + j, q2) := by
                cases r2 with
                | stop i e => rfl
                | go i e r3 =>
                  unfold bStep at e
                  dsimp only at e
                  rw [hqi] at e
                  dsimp only at e
                  rw [if_pos hgood] at e
                  cases e
              rw [ht] at q
              dsimp only at q
              rw [hqi] at q
              exact q _ s3
            | false =>
              refine iteF ?_
              dsimp only
              have hrb : rs[en.2]? = some (rs[en.2]'(by rw [htR.1]; exact hex)) := List.getElem?_eq_getElem _
              have htb := htR.2 en.2 _ (rows.getD en.2 []) hrb (by rw [List.getD_eq_getElem?_getD, List.getElem?_eq_getElem hex]; rfl)
              generalize rs[en.2]'(by rw [htR.1]; exact hex) = b at hrb htb
              refine ⟨_, rfl, _, rfl, _, rfl, Rr, _, _, _, rfl, rfl, SqL.of (s3 _ _ hRr), atI_nat (by rw [List.getElem?_map, hrb]; rfl), .txt (tx L), .tup b, _, _, rfl, rfl, SqT.of (s3 _ _ htb), ?_⟩
              have hzl : (idxSc L rows en.2).length = min (List.map (fun c => V.str ⟨#[c]⟩) (tx L).cps.toList).length ((rows.getD en.2 []).map vN).length := by simp [tx_list, idxSc]
              have hqk : ∀ k, (((((idxSc L rows en.2).take k).foldl (addQ en.1) q2).map (·.2)).Nodup ∧ (∀ e ∈ ((idxSc L rows en.2).take k).foldl (addQ en.1) q2, e.2 < rows.length)) := fun k => by
                obtain ⟨a1, a2, _, _⟩ := addQs_ok (P := (· < rows.length)) (t := en.1) (k := st.1 + j + 1) (by omega) ((idxSc L rows en.2).take k) q2 (fun c hc => idxSc_in hro en.2 hex c (List.mem_of_mem_take hc)) hi2.nd hi2.p fun e he => by have := hi2.t e he; omega
                exact ⟨a1, a2⟩
              refine for_it (walk_zipS (n := (idxSc L rows en.2).length) hzl) (fun k σ' Hc => ∃ o7 o8, σ' = [some (.str (tx L)), some (.ref Rr), some (.ref Y), some (.ref Hh), some (.ref Tx), some (.ref Bh), some (vN en.2), o7, o8] ∧ Same H Hc ∧ Hc Hh = some (.lst (((st.2.map (·.2)).drop st.1).map vN)) ∧ Hc Tx = some (.dK (txd (((idxSc L rows en.2).take k).foldl (addQ en.1) q2))) ∧
                Hc Bh = some (.lst (((((idxSc L rows en.2).take k).foldl (addQ en.1) q2).map (·.2)).drop st.2.length |>.map vN))) ⟨_, _, rfl, s3, eh3, eT3, eB3⟩ (fun _ _ _ _ ⟨_, _, _, s, _⟩ => ⟨rfl, SqT.of (s _ _ htb)⟩) ?_ ?_
              · rintro k2 y σ' Hx Hc hk ⟨o7, o8, rfl, s4, eh4, eT4, eB4⟩ ⟨z, a1, a2, rfl, hz0, rfl, h1, h2⟩
                have h1 : ((tx L).cps.toList.map fun c => V.str ⟨#[c]⟩)[k2]? = some a1 := h1
                have h2 : ((rows.getD en.2 []).map vN)[k2]? = some a2 := h2
                rw [tx_list, List.getElem?_map] at h1
                rw [List.getElem?_map] at h2
                cases hm1 : L[k2]? with
                | none => rw [hm1] at h1; cases h1
                | some c =>
                cases hm2 : (rows.getD en.2 [])[k2]? with
                | none => rw [hm2] at h2; cases h2
                | some y2 =>
                rw [hm1] at h1
                rw [hm2] at h2
                cases h1
                cases h2
                have hzj : (idxSc L rows en.2)[k2]? = some (c, y2) := by unfold idxSc; rw [List.getElem?_zip_eq_some]; exact ⟨hm1, hm2⟩
                have hnext := take_fold (f := addQ en.1) (a := q2) hzj
                obtain ⟨hnd, hPk⟩ := hqk k2
                obtain ⟨rr, hpre⟩ := addQs_pre (t := en.1) ((idxSc L rows en.2).take k2) q2
                rw [hnext]
                have hqe : (((idxSc L rows en.2).take k2).foldl (addQ en.1) q2)[st.1 + j]? = some en := by
                  rw [hpre, List.getElem?_append_left (List.getElem?_eq_some_iff.mp hqi).1]
                  exact hqi
                have hlk : st.2.length ≤ (((idxSc L rows en.2).take k2).foldl (addQ en.1) q2).length := by rw [hpre, List.length_append]; omega
                generalize ((idxSc L rows en.2).take k2).foldl (addQ en.1) q2 = qk at eT4 eB4 hnd hPk hqe hlk
                have hNk : qk.length ≤ rows.length := by
                  have := nodup_lt hnd fun x hx => by
                    obtain ⟨e, he, rfl⟩ := List.mem_map.mp hx
                    exact hPk e he
                  simpa using this
                have sz := same_new (o := .tup [V.str ⟨#[c]⟩, vN y2]) hz0
                have eT5 := sz _ _ eT4
                have eB5 := sz _ _ eB4
                have eh5 := sz _ _ eh4
                have s5 := s4.trans sz
                have ez5 : (upd Hx z (.tup [V.str ⟨#[c]⟩, vN y2])) z = some (.tup [V.str ⟨#[c]⟩, vN y2]) := upd_same
                generalize upd Hx z (.tup [V.str ⟨#[c]⟩, vN y2]) = H5 at eT5 eB5 eh5 s5 ez5
                refine ⟨z, _, rfl, SqT.of ez5, rfl, _, _, rfl, _, _, rfl, rfl, ?_⟩
                refine ⟨_, rfl, _, rfl, Tx, _, rfl, DGet.k (k := Sum.inl (y2 : Int)) eT5, _, rfl, ?_⟩
                by_cases hm : y2 ∈ qk.map (·.2)
                · rw [txd_some hnd hm]
                  have ea : addQ en.1 qk (c, y2) = qk := by unfold addQ; rw [if_pos hm]
                  rw [ea]
                  exact iteF ⟨_, _, rfl, s5, eh5, eT5, eB5⟩
                · rw [txd_out hm]
                  have ea : addQ en.1 qk (c, y2) = qk ++ [(en.1 ++ [c], y2)] := by unfold addQ; rw [if_neg hm]
                  rw [ea]
                  refine iteT ⟨_, rfl, _, rfl, Tx, _, rfl, hgT eT5 hnd hqe, _, rfl, _, _, rfl, rfl, ?_, _, rfl, _, rfl, Tx, _, rfl, DPut.k (k := Sum.inl (y2 : Int)) eT5 (by rw [List.length_map]; exact line9 (by omega)), ?_⟩
                  · rw [tx_len]
                    show en.1.length + 1 ≤ sizeLine
                    exact line8 (by omega)
                  · have etx : tx en.1 ++ (⟨#[c]⟩ : Str) = tx (en.1 ++ [c]) := tx_app en.1 [c]
                    rw [etx, txd_put hm]
                    have eB6 : (upd H5 Tx (.dK (txd (qk ++ [(en.1 ++ [c], y2)])))) Bh = some (.lst ((((qk.map (·.2)).drop st.2.length).map vN))) := by rw [upd_ne hTB.symm]; exact eB5
                    refine ⟨_, rfl, .inl ⟨rfl, _, SqL.of eB6⟩, _, rfl, Bh, _, _, rfl, rfl, eB6, by rw [List.length_map, List.length_drop, List.length_map]; exact line9 (by omega), ?_⟩
                    refine ⟨_, _, rfl, same_upd (same_upd s5 hTx0) hBh0, by rw [upd_ne hHB, upd_ne hHT]; exact eh5, by rw [upd_ne hTB, upd_same], ?_⟩
                    rw [upd_same, List.map_append, List.drop_append_of_le_length (by rw [List.length_map]; exact hlk), List.map_append]
                    rfl
              · rintro σ' Hc ⟨o7, o8, rfl, s4, eh4, eT4, eB4⟩
                rw [List.take_length] at eT4 eB4
                cases r2 with
                | stop i e =>
                  unfold bStep at e
                  dsimp only at e
                  rw [hqi] at e
                  dsimp only at e
                  rw [if_neg (by rw [hgood]; decide)] at e
                  cases e
                | @go m3 _ s' _ i e r3 =>
                  unfold bStep at e
                  dsimp only at e
                  rw [hqi] at e
                  dsimp only at e
                  rw [if_neg (by rw [hgood]; decide)] at e
                  have e := (Option.some.inj e).symm
                  subst e
                  obtain ⟨rr, hpre⟩ := addQs_pre (t := en.1) (idxSc L rows en.2) q2
                  refine ⟨m3, _, _, _, _, by omega, r3, by rw [hpre, List.length_append]; omega, ?_, rfl, s4, eh4, eT4, eB4⟩
                  rw [hpre, List.take_append_of_le_length hql]
                  exact hqt
          · rintro σ' Hc ⟨m2, q2, o6, o7, o8, hm2, r2, hql, hqt, rfl, s3, eh3, eT3, eB3⟩
            rw [hnl] at r2 hm2
            rw [show st.1 + (st.2.length - st.1) = st.2.length by omega] at r2
            refine ⟨_, rfl, m2, by omega, _, r2, Bh, _, _, _, _, rfl, s3, eB3, eT3⟩
end
end An
end
section
set_option Elab.async false
set_option maxRecDepth 100000
set_option maxHeartbeats 4000000
set_option linter.all false
/-! common_text, meeting_of. -/
namespace An
open PySem L2
theorem least_tab {L : List Nat} {rows : List (List Nat)} {yes : List Bool} {k : Nat} (h : RowsOk rows) (hk : ∀ r ∈ rows, r.length = k) : Tab k (leastOf L rows yes).2.1 ∧ (leastOf L rows yes).2.2.length = (leastOf L rows yes).2.1.length := by
  have hI := heads_ok (m := marksOf rows yes) (stands := reachedL rows)
  have hl := heads_len hI
  have hm : ∀ x ∈ reachedL rows, marksOf rows yes x ∈ (headsOf (marksOf rows yes) (reachedL rows)).2 := fun x hx => heads_mem _ _ x hx
  have h0 := hm 0 (reached_zero h)
  have e : (leastOf L rows yes).2.1.length = (headsOf (marksOf rows yes) (reachedL rows)).1.length := by simp [leastOf]
  refine ⟨⟨?_, fun r hr => ?_⟩, by simp [leastOf]⟩
  · rw [e, ← hl]
    exact List.length_pos_of_mem h0
  · obtain ⟨s, hs, rfl⟩ := List.mem_map.mp hr
    have hst := hI.s s hs
    have hlt := reached_lt h s hst
    refine ⟨?_, fun x hx => ?_⟩
    · rw [List.length_map, List.getD_eq_getElem?_getD, List.getElem?_eq_getElem hlt]
      exact hk _ (List.getElem_mem hlt)
    · obtain ⟨z, hz, rfl⟩ := List.mem_map.mp hx
      rw [e, ← hl]
      exact place_lt (hm z (reached_closed h hst z hz))
theorem come_tab {R : Rd3} {ks : List Kd} (hR : RdOk R) (hn : R.2.1.length ≤ 5) : RTab (Come R ks) ∧ (Come R ks).1 = R.1 := by
  have hW := filled_ok (L := R.1) (kinds := ks) rfl fun r hr => (hR.r r hr).2
  have hE := expl_end hW hR.n1 (L := R.1)
  have hro := expl_rows hE
  have hk : ∀ r ∈ (exp (nextS R.1 (filled R.1 R.2.1 ks)) (An.wl (filled R.1 R.2.1 ks) [0])).2, r.length = R.1.length := fun r hr => by
    obtain ⟨i, hi⟩ := List.getElem?_of_mem hr
    obtain ⟨y, _, _, rfl⟩ := hE.r i r hi
    simp [nextS]
  have hlen := asc_bound _ hE.nd hE.p
  have h5 := pow5 hn
  have hln := hE.ln
  have hll := least_len (L := R.1) (yes := (exp (nextS R.1 (filled R.1 R.2.1 ks)) (An.wl (filled R.1 R.2.1 ks) [0])).1.map (inAny (endsL R.2.2))) hro
  obtain ⟨h1, h2⟩ := least_tab (L := R.1) (yes := (exp (nextS R.1 (filled R.1 R.2.1 ks)) (An.wl (filled R.1 R.2.1 ks) [0])).1.map (inAny (endsL R.2.2))) hro hk
  refine ⟨⟨h1, h2, ?_, hR.l⟩, rfl⟩
  show (leastOf _ _ _).2.1.length ≤ 50
  omega
noncomputable def Due (R S : Rd3) : Option (List Nat) := dueT R.1 R.2.1 S.2.1 R.2.2 S.2.2
section
variable {P : Program} {w : World} {K : PySem.W.Frag} {mg : Str → Option Value} {base : Heap}
def sp_and_rule (K : PySem.W.Frag) : Sp := fun vs H Q _ => ∃ a b : Bool, vs = [.bl a, .bl b] ∧ Q (.bl (a && b)) H
theorem sc_and_rule : FnScope ["left", "right"] ["left", "right"] (defScope s_and_rule) := ⟨rfl, rfl, rfl, by decide +kernel, rfl, by decide +kernel, by decide +kernel⟩
theorem ok_and_rule (T : Tx K mg) : FnOk P w K mg base CX0 1 T.and_rule.f T.and_rule.fd ["left", "right"] (sp_and_rule K) := by
  have sc := sc_and_rule
  refine T.and_rule.F.ok sc (fun vs H Q E h => ?_) (fun cdv A outer s H vs Q E hr h => ?_)
  · obtain ⟨_, _, rfl, _⟩ := h; rfl
  · obtain ⟨a, b, rfl, q⟩ := h
    refine ⟨_, (pss_one (ps_ret (pe_and (pv 0) (pe_one (pv 1))))), ?_⟩
    refine ⟨_, rfl, a, rfl, ?_⟩
    cases a with
    | true => exact iteT ⟨_, rfl, q⟩
    | false => exact iteF q
def sp_common_text (K : PySem.W.Frag) : Sp := fun vs H Q _ => ∃ (R S : Rd3) (v u : V), vs = [v, u] ∧ Dp K H v (rdD R) ∧ Dp K H u (rdD S) ∧ RTab R ∧ RTab S ∧ R.1 = S.1 ∧ ∀ H', Same H H' → Q (optV (Due R S)) H'
theorem sc_common_text : FnScope ["one", "other", "pairs", "rows", "left", "right"] ["one", "other"] (defScope s_common_text) := ⟨rfl, rfl, rfl, by decide +kernel, rfl, by decide +kernel, by decide +kernel⟩
theorem ok_common_text (T : Tx K mg) : FnOk P w K mg base CX0 2 T.common_text.f T.common_text.fd ["one", "other"] (sp_common_text K) := by
  have sc := sc_common_text
  refine T.common_text.F.ok sc (fun vs H Q E h => ?_) (fun cdv A outer s H vs Q E hr h => ?_)
  · obtain ⟨_, _, _, _, rfl, _⟩ := h; rfl
  · obtain ⟨R, S, v, u, rfl, hv, hu, hR, hS, he, q⟩ := h
    refine ⟨_, (pss_cons (ps_asg (pe_callD T.paired (ok_paired T) (hr.mono (by decide)) (pa_cons (pv 0) (pa_cons (pv 1) pa_nil))) (pg_tup rfl (pgs_cons (pg_name (i := 2) (x := "pairs") sc.nd rfl (Or.inl rfl)) (pgs_cons (pg_name (i := 3) (x := "rows") sc.nd rfl (Or.inl rfl)) pgs_nil))))
      (pss_one (ps_ret (pe_callD T.first_text (ok_first_text T) (hr.mono (by decide)) (pa_cons (pe_ix ix_D (pv 0) pe_int (fun _ _ => rfl)) (pa_cons (pv 3) (pa_cons (pe_lc (own := [("left", 4), ("right", 5)]) (g := gTup K 2 (gCons (gName 4) (gCons (gName 5) gNil))) rfl sc.nd (pi_list (pv 2)) (blkOk_by (N := ["one", "other", "pairs", "rows", "left", "right"]) (sc := defScope s_common_text) (by decide +kernel)) (fun _ _ _ _ _ => (pg_tup rfl (pgs_cons (pg_name (i := 4) (x := "left") sc.nd rfl (Or.inl rfl) (hf := Or.inr rfl)) (pgs_cons (pg_name (i := 5) (x := "right") sc.nd rfl (Or.inl rfl) (hf := Or.inr rfl)) pgs_nil)))) (fun _ _ _ _ _ => pts_nil) (fun _ _ _ _ _ => (pe_callD T.and_rule (ok_and_rule T) (hr.mono (by decide)) (pa_cons (pe_ix (r := rIxD K) ix_D (pe_ix (r := rIxD K) ix_D (pv 0) pe_int (fun _ _ => rfl)) (pv 4) (fun _ _ => rfl)) (pa_cons (pe_ix (r := rIxD K) ix_D (pe_ix (r := rIxD K) ix_D (pv 1) pe_int (fun _ _ => rfl)) (pv 5) (fun _ _ => rfl)) pa_nil))))) pa_nil))))))), ?_⟩
    have hS2 : Tab R.1.length S.2.1 := by rw [he]; exact hS.t
    refine ⟨_, rfl, _, rfl, R, S, v, u, rfl, hv, hu, hR, hS, he, fun H1 t F Rr fs rs s1 et eF tF eR tR => ?_⟩
    refine ⟨t, _, rfl, SqT.of et, rfl, _, _, rfl, _, _, rfl, rfl, ?_⟩
    have hE := pairs_end hR.t hS2
    have hpb := pairs_bound _ hE.nd hE.p
    have hnm : R.2.1.length * S.2.1.length ≤ 2500 := Nat.mul_le_mul hR.n hS.n
    have hfl := tF.1
    rw [List.length_map] at hfl
    have hml : (fs.map V.ref).length = fs.length := by simp
    refine ⟨_, rfl, [tD R.1, rowsD R.2.1, yesD R.2.2], 0, _, dp_same s1 _ _ hv, rfl, rfl, fun z hz => ?_⟩
    cases dp_str hz
    refine ⟨_, rfl, _, rfl, F, rfl, ⟨_, SqL.of eF⟩, fun D hD => ?_⟩
    refine lc_genG walk_list (fun j y _ => y = .bl (both R.2.2 S.2.2 ((pairsOf R.2.1 S.2.1).1.getD j (0, 0)))) (fun _ _ _ _ _ h => h) (by rw [hml]; exact line8 (by omega)) hD (fun H s => SqL.of (s _ _ eF)) (fun i x H2 Hx Q hi s y k => ?_) (fun x H A B => mono_two x _ H A B) fun H2 ys s2 e2 l2 r2 => ?_
    · obtain ⟨rfl, hx⟩ := y
      rw [hml] at hi
      rw [List.getElem?_map, List.getElem?_eq_getElem hi] at hx
      cases hx
      have hpi : (pairsOf R.2.1 S.2.1).1[i]? = some ((pairsOf R.2.1 S.2.1).1.getD i (0, 0)) := by
        rw [List.getD_eq_getElem?_getD, List.getElem?_eq_getElem (by omega)]; rfl
      generalize (pairsOf R.2.1 S.2.1).1.getD i (0, 0) = pp at hpi k
      have hPI := hE.p _ (List.mem_of_getElem? hpi)
      have hta := tF.2 i fs[i] (pl pp) (List.getElem?_eq_getElem hi) (by rw [List.getElem?_map, hpi]; rfl)
      refine ⟨fs[i], _, rfl, SqT.of (s _ _ hta), rfl, _, _, rfl, _, _, rfl, rfl, rfl, ?_⟩
      refine ⟨_, rfl, [tD R.1, rowsD R.2.1, yesD R.2.2], 2, _, dp_same (s1.trans s) _ _ hv, rfl, rfl, fun z hz => ⟨_, rfl, R.2.2.map fun b => PyData.bool b, pp.1, .bool (R.2.2.getD pp.1 false), hz, rfl, ?_, fun z1 hz1 => ?_⟩⟩
      · rw [List.getElem?_map, List.getD_eq_getElem?_getD, List.getElem?_eq_getElem (by rw [hR.y]; exact hPI.1)]; rfl
      cases dp_bl hz1
      refine ⟨_, rfl, [tD S.1, rowsD S.2.1, yesD S.2.2], 2, _, dp_same (s1.trans s) _ _ hu, rfl, rfl, fun z hz => ⟨_, rfl, S.2.2.map fun b => PyData.bool b, pp.2, .bool (S.2.2.getD pp.2 false), hz, rfl, ?_, fun z1 hz1 => ?_⟩⟩
      · rw [List.getElem?_map, List.getD_eq_getElem?_getD, List.getElem?_eq_getElem (by rw [hS.y]; exact hPI.2)]; rfl
      cases dp_bl hz1
      exact ⟨_, _, rfl, k _ _ (Same.refl _) rfl⟩
    · have hys : ys = ((pairsOf R.2.1 S.2.1).1.map (both R.2.2 S.2.2)).map V.bl := by
        refine List.ext_getElem? fun j => ?_
        by_cases hj : j < ys.length
        · have hj2 : j < (pairsOf R.2.1 S.2.1).1.length := by omega
          rw [List.getElem?_eq_getElem hj, r2 j ys[j] (List.getElem?_eq_getElem hj)]
          simp [hj2]
        · rw [List.getElem?_eq_none (by omega), List.getElem?_eq_none (by simp; omega)]
      rw [hys] at e2
      have hLl := hR.l.le
      have hlnn := hE.ln
      refine ⟨R.1, (pairsOf R.2.1 S.2.1).2, (pairsOf R.2.1 S.2.1).1.map (both R.2.2 S.2.2), Rr, D, rs, rfl, s2 _ _ eR, tups_same s2 tR, e2, expl_rows hE, by omega, by simp; omega, by omega, fun H3 s3 => ?_⟩
      have := q H3 (s1.trans (s2.trans s3))
      unfold Due at this
      rw [← meet_due hR.l.nodup hR.t hS2] at this
      exact this
def sp_meeting_of (K : PySem.W.Frag) : Sp := fun vs H Q _ => ∃ (R S : Rd3) (ks : List Kd) (v u k : V), vs = [v, u, k] ∧ Dp K H v (rdD R) ∧ Dp K H u (rdD S) ∧ RdOk R ∧ RdOk S ∧ R.2.1.length ≤ 5 ∧ S.2.1.length ≤ 5 ∧ R.1 = S.1 ∧ Dp K H k (ksD ks) ∧ KsOk R.1 ks ∧ ∀ H', Same H H' → Q (optV (Due (Come R ks) (Come S ks))) H'
theorem sc_meeting_of : FnScope ["one", "other", "kinds"] ["one", "other", "kinds"] (defScope s_meeting_of) := ⟨rfl, rfl, rfl, by decide +kernel, rfl, by decide +kernel, by decide +kernel⟩
theorem ok_meeting_of (T : Tx K mg) : FnOk P w K mg base CX0 6 T.meeting_of.f T.meeting_of.fd ["one", "other", "kinds"] (sp_meeting_of K) := by
  have sc := sc_meeting_of
  refine T.meeting_of.F.ok sc (fun vs H Q E h => ?_) (fun cdv A outer s H vs Q E hr h => ?_)
  · obtain ⟨_, _, _, _, _, _, rfl, _⟩ := h; rfl
  · obtain ⟨R, S, ks, v, u, k, rfl, hv, hu, hR, hS, hn, hn2, he, hk, hK, q⟩ := h
    refine ⟨_, (pss_one (ps_ret (pe_callD T.common_text (ok_common_text T) (hr.mono (by decide)) (pa_cons (pe_callD T.come (ok_come T) (hr.mono (by decide)) (pa_cons (pv 0) (pa_cons (pv 2) pa_nil))) (pa_cons (pe_callD T.come (ok_come T) (hr.mono (by decide)) (pa_cons (pv 1) (pa_cons (pv 2) pa_nil))) pa_nil))))), ?_⟩
    obtain ⟨t1, l1⟩ := come_tab (ks := ks) hR hn
    obtain ⟨t2, l2⟩ := come_tab (ks := ks) hS hn2
    refine ⟨_, rfl, _, rfl, R, ks, v, k, rfl, hv, hR, hn, hk, hK, fun H1 r1 s1 d1 => ?_⟩
    refine ⟨_, rfl, _, rfl, S, ks, u, k, rfl, dp_same s1 _ _ hu, hS, hn2, dp_same s1 _ _ hk, by rw [← he]; exact hK, fun H2 r2 s2 d2 => ?_⟩
    exact ⟨Come R ks, Come S ks, r1, r2, rfl, dp_same s2 _ _ d1, d2, t1, t2, by rw [l1, l2, he], fun H3 s3 => q H3 (s1.trans (s2.trans s3))⟩
end
end An
end
section
set_option Elab.async false
set_option maxRecDepth 100000
set_option maxHeartbeats 4000000
set_option linter.all false
/-! A small set of unlike tuples of texts. -/
namespace An
open PySem PySem.Spec PyProof.Rows
abbrev xh (P : Program) (w : World) (k : List Str) : Int := tupleKeyHash (strKind P w) k
abbrev IsX (P : Program) (w : World) (h : Heap) (k : List Str) (a : Addr) : Prop := IsTupleKey (strKind P w) h k a
section
variable {P : Program} {w : World} {A : Around} {E : Value → Shared → Prop} {s : Shared}
theorem x_items {k : List Str} {vs : List Value} (h : ItemsAre (strKind P w) k vs) : ∀ v ∈ vs, ∃ z t, v = Value.str z t := by
  induction h with
  | nil => exact fun v hv => nomatch hv
  | cons h1 _ ih =>
    intro v hv
    cases hv with
    | head => obtain ⟨t, e⟩ := Value.isStrOf_shape h1; exact ⟨_, t, e⟩
    | tail _ hv => exact ih v hv
theorem class_txt (n : Nat) (z : Str) (t : Tok) : ofAClassStatement n (.str z t) = pure false := by cases n <;> rfl
theorem hash_txt (n : Nat) (z : Str) (t : Tok) : hashByValue n (.str z t) = pure false := by cases n <;> rfl
theorem class_x {k : List Str} {b : Addr} {Q : Bool → Shared → Prop} (x : IsX P w s.heap k b) (q : Q false s) : wpAny (model P w) A (ofAClassStatement 8 (.ref b)) Q E s := by
  have ty := x.typeIs
  obtain ⟨o, its, n, ho, _, hd, hi⟩ := x
  unfold ofAClassStatement
  refine wpAny_bind (wpAny_typeOf ty ?_); dsimp only
  have e : (("tuple" : String) == "tuple") = true := rfl
  simp only [e, if_true, Bool.not_true, Bool.false_eq_true, if_false]
  try refine wpAny_bind (wpAny_pure ?_); simp only [Bool.not_true, Bool.false_eq_true, if_false]
  show wpAny _ _ (seqItems? (Value.ref b) >>= _) _ E s
  refine wpAny_bind (wpAny_seqItems (a := b) ho hd ?_); dsimp only
  refine wpAny_bind ?_; show wpAny (model P w) _ (forIn its _ _) _ _ s; rw [← Array.forIn_toList (xs := its)]
  refine wpAny_forIn_list _ (fun rest r s' => r.1 = none ∧ s' = s ∧ ∀ v ∈ rest, ∃ z t, v = Value.str z t) _ ?_ ?_ _ _ ⟨rfl, rfl, x_items hi⟩
  · rintro v rest r s' ⟨_, rfl, all⟩
    obtain ⟨z, t, rfl⟩ := all v (List.Mem.head _)
    rw [class_txt]
    refine wpAny_bind (wpAny_pure ?_); simp only [Bool.false_eq_true, if_false]; exact wpAny_pure ⟨rfl, rfl, fun u hu => all u (List.Mem.tail _ hu)⟩
  · rintro ⟨r1, r2⟩ s' ⟨hr, rfl, _⟩
    cases (show r1 = none from hr)
    exact wpAny_pure q
theorem hash_x {k : List Str} {b : Addr} {Q : Bool → Shared → Prop} (x : IsX P w s.heap k b) (q : ∀ c, Q c s) : wpAny (model P w) A (hashByValue 8 (.ref b)) Q E s := by
  have ty := x.typeIs
  obtain ⟨o, its, n, ho, _, hd, hi⟩ := x
  unfold hashByValue
  refine wpAny_bind (wpAny_specialOf ty F.slot_tuple_hash.lookup ?_); show wpAny _ _ (seqItems? (Value.ref b) >>= _) _ E s
  refine wpAny_bind (wpAny_seqItems (a := b) ho hd ?_)
  refine wpAny_bind ?_; show wpAny (model P w) _ (forIn its _ _) _ _ s; rw [← Array.forIn_toList (xs := its)]
  refine wpAny_forIn_list _ (fun rest r s' => r.1 = none ∧ s' = s ∧ ∀ v ∈ rest, ∃ z t, v = Value.str z t) _ ?_ ?_ _ _ ⟨rfl, rfl, x_items hi⟩
  · rintro v rest r s' ⟨_, rfl, all⟩
    obtain ⟨z, t, rfl⟩ := all v (List.Mem.head _)
    rw [hash_txt]
    refine wpAny_bind (wpAny_pure ?_); simp only [Bool.not_false, if_true]; exact wpAny_pure (wpAny_pure (q false))
  · rintro ⟨r1, r2⟩ s' ⟨hr, rfl, _⟩
    cases (show r1 = none from hr)
    exact wpAny_pure (q true)
theorem seen_x {k : List Str} {b : Addr} {Q : Bool → Shared → Prop} (x : IsX P w s.heap k b) {ys : List Value} (hy : ∀ y ∈ ys, ∃ k' c, y = Value.ref c ∧ IsX P w s.heap k' c) (q : Q false s) :
    wpAny (model P w) A (searchCouldBeSeen (.ref b) ys) Q E s := by
  unfold searchCouldBeSeen
  refine wpAny_bind (wpAny_forIn_list _ (fun rest r s' => r.1 = none ∧ s' = s ∧ ∀ y ∈ rest, ∃ k' c, y = Value.ref c ∧ IsX P w s.heap k' c) _ ?_ ?_ _ _ ⟨rfl, rfl, hy⟩)
  · rintro v rest r s' ⟨_, rfl, all⟩
    obtain ⟨k', c, rfl, hc⟩ := all v (List.Mem.head _)
    have tl : ∀ y ∈ rest, ∃ k' c, y = Value.ref c ∧ IsX P w s'.heap k' c := fun u hu => all u (List.Mem.tail _ hu)
    dsimp only
    by_cases hv : (b == c || (carriedByValue (.ref b) && carriedByValue (.ref c))) = true
    · exact L2.wp_if_pos hv (wpAny_pure ⟨rfl, rfl, tl⟩)
    · refine L2.wp_if_neg hv (wpAny_bind (wpAny_eqIsQuiet_tuple x ?_)); simp only [Bool.not_true, Bool.false_eq_true, if_false]
      refine wpAny_bind (wpAny_eqIsQuiet_tuple (a := c) hc ?_); simp only [Bool.not_true, Bool.false_eq_true, if_false]
      refine wpAny_bind (class_x x ?_); simp only [Bool.false_eq_true, if_false]
      refine wpAny_bind (class_x hc ?_); simp only [Bool.false_eq_true, if_false]
      exact wpAny_pure ⟨rfl, rfl, tl⟩
  · rintro ⟨r1, r2⟩ s' ⟨hr, rfl, _⟩
    cases (show r1 = none from hr)
    exact wpAny_pure q
end
/-- the set at a: the tuples L by their places, few of them -/
structure XSet (P : Program) (w : World) (h : Heap) (a : Addr) (L : List (Addr × List Str)) (es : Array (Int × Value)) (ep : Nat) (t : SetTable) : Prop where
  ob : ∃ o, h.get? a = some o ∧ o.ExactSet ∧ o.data = .set es ep t
  rows : es.toList = L.map fun p => (xh P w p.2, Value.ref p.1)
  tab : L2.TabOk t (L.map fun p => xh P w p.2)
  tup : ∀ p ∈ L, IsX P w h p.2 p.1
  led : w.params.followText "set-order" = true ∨ t.led = true
  few : L.length ≤ 3
  mask : t.mask = 7
section
variable {P : Program} {w : World} {A : Around} {E : Value → Shared → Prop} {s : Shared} {a : Addr} {L : List (Addr × List Str)} {es : Array (Int × Value)} {ep : Nat} {t : SetTable}
theorem XSet.size (R : XSet P w s.heap a L es ep t) : es.size = L.length := by
  have := congrArg List.length R.rows
  simpa using this
theorem XSet.fits (R : XSet P w s.heap a L es ep t) : t.fits es.size = true := by
  have h1 : t.place.size = L.length := by simpa using R.tab.sz
  have h2 := R.size
  have h3 := R.few
  unfold SetTable.fits SetTable.fill
  rw [R.tab.dm, R.mask]
  simp
  omega
theorem XSet.entry (R : XSet P w s.heap a L es ep t) {i : Nat} {p : Addr × List Str} (h : L[i]? = some p) : es[i]? = some (xh P w p.2, Value.ref p.1) := by
  rw [← Array.getElem?_toList, R.rows, List.getElem?_map, h]; rfl
/-- the search for a tuple that is not there -/
theorem x_search (R : XSet P w s.heap a L es ep t) {x : Addr} {k : List Str} (hx : IsX P w s.heap k x) (hu : A.units < cLine) (hk : ∀ p ∈ L, p.2 ≠ k) {N : Nat}
    (hN : L2.way 7 (xh P w k) N ∉ t.place.toList) (hb : ∀ c, c < N → L2.way 7 (xh P w k) c ∈ t.place.toList) (hN2 : N < 10 * SetTable.turns 7) {Q : SetFound → Shared → Prop} (q : Q (.free (L2.way 7 (xh P w k) N) false) s) :
    ∀ (f c : Nat) (stand : Option SetTable.Probe), stand.getD (t.probeStart (xh P w k)) = L2.nth 7 (L2.runAt 7 (SetTable.bits (xh P w k) % 8) (SetTable.bits (xh P w k))) c → c ≤ N → N - c < f →
      wpAny (model P w) A (setSearchFrom a (.ref x) (xh P w k) true f stand) Q E s
  | 0, c, stand, _, _, hf => absurd hf (Nat.not_lt_zero _)
  | f + 1, c, stand, hst, hc, hf => by
    obtain ⟨o, ho, hex, hd⟩ := R.ob
    rw [L2.setSearchFrom_succ]
    refine wpAny_bind (wpAny_setState_of (a := a) ho hd R.fits ?_); dsimp only
    refine L2.wp_if_neg (by unfold SetTable.gaveWay; rw [R.mask]; decide) ?_
    try refine wpAny_bind (wpAny_pure ?_)
    have nodum : ∀ (n : Nat) (p : SetTable.Probe), p.dummy = none → (L2.nth 7 p n).dummy = none := by
      intro n
      induction n with
      | zero => exact fun p h => h
      | succ n ih => exact fun p h => ih (L2.adv 7 p) (by unfold L2.adv; split <;> exact h)
    have sh : ∀ j, L2.nth 7 (L2.nth 7 (L2.runAt 7 (SetTable.bits (xh P w k) % 8) (SetTable.bits (xh P w k))) c) j = L2.nth 7 (L2.runAt 7 (SetTable.bits (xh P w k) % 8) (SetTable.bits (xh P w k))) (c + j) := fun j => (L2.nth_add 7 c _ j).symm
    have way : ∀ j, (L2.nth 7 (L2.nth 7 (L2.runAt 7 (SetTable.bits (xh P w k) % 8) (SetTable.bits (xh P w k))) c) j).j = L2.way 7 (xh P w k) (c + j) := fun j => congrArg SetTable.Probe.j (sh j)
    have spec := L2.go_spec t R.tab.ris R.tab.dm (fun i => (es[i]?.map (·.1)).getD 0) (xh P w k) (10 * SetTable.turns t.mask) (N - c) (L2.nth 7 (L2.runAt 7 (SetTable.bits (xh P w k) % 8) (SetTable.bits (xh P w k))) c) (nodum c _ rfl) (by rw [R.mask]; omega)
      (fun j hj => by rw [R.mask, way]; exact hb (c + j) (by omega)) (by rw [R.mask, way, show c + (N - c) = N by omega]; exact hN)
    simp only [R.mask] at spec
    rcases spec with ⟨j, i, hj, hi, hh, hno, hpr⟩ | ⟨hno, hpr⟩
    · have hmet : t.probe (fun i => (es[i]?.map (·.1)).getD 0) (xh P w k) (stand.getD (t.probeStart (xh P w k))) = some (.candidate (L2.way 7 (xh P w k) (c + j)) i (L2.nth 7 (L2.runAt 7 (SetTable.bits (xh P w k) % 8) (SetTable.bits (xh P w k))) (c + (j + 1)))) := by
        rw [hst, ← way, ← sh]
        show SetTable.probe.go _ _ _ (10 * SetTable.turns t.mask) _ = _
        rw [R.mask]
        exact hpr
      rw [hmet]; dsimp only
      rw [way] at hi
      have hil : i < L.length := by
        have h1 : t.place.size = L.length := by simpa using R.tab.sz
        have h2 : i < t.place.toList.length := (List.getElem?_eq_some_iff.mp hi).1
        rw [Array.length_toList] at h2
        omega
      obtain ⟨p, hp⟩ : ∃ p, L[i]? = some p := ⟨_, List.getElem?_eq_getElem hil⟩
      have hpm := List.mem_of_getElem? hp
      have body : wpAny (model P w) A (L2.searchRest a (.ref x) (xh P w k) true f es t (L2.way 7 (xh P w k) (c + j)) i (L2.nth 7 (L2.runAt 7 (SetTable.bits (xh P w k) % 8) (SetTable.bits (xh P w k))) (c + (j + 1)))) Q E s := by
        unfold L2.searchRest
        rw [R.entry hp]; dsimp only
        refine wpAny_bind (wpAny_holding (wpAny_eqBool_tuple hu (R.tup p hpm) hx (wpAny_bind (wpAny_setState_of (a := a) ho hd R.fits ?_)))); dsimp only
        have ne : decide (p.2 = k) = false := decide_eq_false (hk p hpm)
        rw [ne]
        refine L2.wp_if_neg (by decide) ?_
        try refine wpAny_bind (wpAny_pure ?_)
        rw [L2.sameMem]; dsimp only
        simp only [if_true, L2.slot_live R.tab.ris hi, R.entry hp]
        refine wpAny_bind (wpAny_isSame_ref_self (wpAny_bind (wpAny_pure ?_))); simp only [if_true]
        exact L2.wp_if_neg (by decide) (x_search R hx hu hk hN hb hN2 q f (c + (j + 1)) _ rfl (by omega) (by omega))
      by_cases hl : t.led = true
      · refine L2.wp_if_neg (by simp [hl]) ?_
        try refine wpAny_bind (wpAny_pure ?_)
        exact body
      · refine L2.wp_if_pos (by simp [hl]) (wpAny_bind (seen_x hx (fun y hy => ?_) (L2.wp_if_neg (by decide) ?_)))
        · obtain ⟨e, he, rfl⟩ := List.mem_map.mp hy
          have he2 : e ∈ es.toList := by
            have : e ∈ es ∧ e.1 = xh P w k := by simpa using he
            simpa using this.1
          rw [R.rows] at he2
          obtain ⟨p2, hp2, rfl⟩ := List.mem_map.mp he2
          exact ⟨p2.2, p2.1, rfl, R.tup p2 hp2⟩
        · try refine wpAny_bind (wpAny_pure ?_)
          exact body
    · have hmet : t.probe (fun i => (es[i]?.map (·.1)).getD 0) (xh P w k) (stand.getD (t.probeStart (xh P w k))) = some (.empty (L2.way 7 (xh P w k) N) none) := by
        have e2 := way (N - c)
        rw [show c + (N - c) = N by omega] at e2
        rw [hst, ← e2]
        show SetTable.probe.go _ _ _ (10 * SetTable.turns t.mask) _ = _
        rw [R.mask]
        exact hpr
      rw [hmet]; dsimp only
      exact wpAny_pure q
theorem isX_but {h h' : Heap} {k : List Str} {b : Addr} {o : Obj} (x : IsX P w h k b) (ho : h.get? a = some o) (hd : o.data = .set es ep t) (sb : Heap.SameBut a h h') : IsX P w h' k b := by
  obtain ⟨o', its, n, ho', r1, r2, r3⟩ := x
  refine ⟨o', its, n, (sb.2 b fun z => ?_).trans ho', r1, r2, r3⟩
  rw [z, ho] at ho'
  cases ho'
  rw [hd] at r2
  cases r2
/-- adding a tuple that is not there -/
theorem x_add (R : XSet P w s.heap a L es ep t) {x : Addr} {k : List Str} (hx : IsX P w s.heap k x) (hu : A.units < cLine) (hk : ∀ p ∈ L, p.2 ≠ k) (h2 : L.length ≤ 2) {Q : Bool → Shared → Prop}
    (q : ∀ h' L' es' ep' t', Heap.SameBut a s.heap h' → XSet P w h' a L' es' ep' t' → L'.Perm ((x, k) :: L) → Q true { s with heap := h' }) : wpAny (model P w) A (setAddHashed a (.ref x) (xh P w k)) Q E s := by
  obtain ⟨o, ho, hex, hd⟩ := R.ob
  obtain ⟨N, n1, n2, n3⟩ := R.tab.first (by rw [List.length_map, R.mask]; omega) (xh P w k)
  obtain ⟨q1, q2, q3, q4, q5, q6, q7, q8, q9⟩ := R.tab.put n2 n3
  rw [R.mask] at n1 q4
  have hw : L2.way t.mask (xh P w k) N = L2.way 7 (xh P w k) N := by rw [R.mask]
  have hw2 : ∀ c, L2.way t.mask (xh P w k) c = L2.way 7 (xh P w k) c := fun c => by rw [R.mask]
  rw [hw] at n2 q1 q2 q3 q5 q6 q7 q8 q9
  have n3 : ∀ c, c < N → L2.way 7 (xh P w k) c ∈ t.place.toList := fun c hc => by rw [← hw2]; exact n3 c hc
  unfold setAddHashed
  refine wpAny_holding ?_
  rw [show (100000 : Nat) = 99999 + 1 from rfl, L2.setAddHashedIn_succ]
  refine wpAny_bind (wpAny_setState_of (a := a) ho hd R.fits ?_); dsimp only
  refine L2.wp_if_neg (by simp [byScan, Value.scannable]) ?_
  try refine wpAny_bind (wpAny_pure ?_)
  unfold setSearch
  have hN10 : N < 1000 := Nat.lt_of_lt_of_le n1 (by decide)
  refine wpAny_bind (x_search R hx hu hk n2 n3 n1 ?_ 100000 0 none (by rw [Option.getD_none, L2.start_run, R.mask]; rfl) (Nat.zero_le _) (by omega)); dsimp only
  refine wpAny_bind (wpAny_setState_of (a := a) ho hd R.fits ?_); dsimp only
  generalize hpt : t.put (L2.way 7 (xh P w k) N) = pt at q1 q3 q4 q5 q6 q7 q8 q9 ⊢
  obtain ⟨t1, p⟩ := pt
  dsimp only at q1 q3 q4 q5 q6 q7 q8 q9 ⊢
  subst q1
  generalize hpp : SetTable.below t.place (L2.way 7 (xh P w k) N) = p at q2 q3 ⊢
  have pm := L2.put_perm L p (x, k)
  have hin : (SetTable.insertAt es p (xh P w k, Value.ref x)).toList = (L.take p ++ (x, k) :: L.drop p).map fun p => (xh P w p.2, Value.ref p.1) := by
    rw [SetTable.toList_insertAt, R.rows, List.map_append, List.map_cons, List.map_take, List.map_drop]
  have hhs : (L.take p ++ (x, k) :: L.drop p).map (fun p => xh P w p.2) = (L.map fun p => xh P w p.2).take p ++ xh P w k :: (L.map fun p => xh P w p.2).drop p := by
    rw [List.map_append, List.map_cons, List.map_take, List.map_drop]
  rw [← hhs] at q3
  generalize L.take p ++ (x, k) :: L.drop p = L1 at pm hin q3 hhs
  have hl1 : L1.length = L.length + 1 := pm.length_eq
  have hes : (SetTable.insertAt es p (xh P w k, Value.ref x)).size = L1.length := by
    have := congrArg List.length hin
    simpa using this
  generalize SetTable.insertAt es p (xh P w k, Value.ref x) = es1 at hin hes ⊢
  have fin : ∀ t2 : SetTable, t2.mask = 7 → t2.led = t.led → L2.TabOk t2 (L1.map fun p => xh P w p.2) → t2.tooFull = false → wpAny (model P w) A (do
      storeSet a es1 t2
      if (!false && t2.tooFull) = true then setRelay a (SetTable.grown (es.size + 1))
      return true) Q E s := fun t2 m2 l2 T2 f2 => by
    refine wpAny_bind (wpAny_storeSet_of (a := a) ho hd ?_ (by rw [hes, sizeLine_eq]; omega))
    have sb : Heap.SameBut a s.heap (s.heap.update a (Obj.putSet es1 t2)) := Heap.SameBut.update ..
    have ho1 := L2.store_at (es' := es1) (t' := t2) ho hd
    generalize s.heap.update a (Obj.putSet es1 t2) = h1 at sb ho1 ⊢
    rw [f2]
    refine L2.wp_if_neg (by decide) (wpAny_pure (q h1 L1 es1 (ep + 1) t2 sb ⟨⟨_, ho1, ⟨hex.1, hex.2.1, hex.2.2⟩, rfl⟩, hin, T2, fun p hp => ?_, by rw [l2]; exact R.led, by omega, m2⟩ pm))
    rcases List.mem_cons.mp (pm.mem_iff.mp hp) with rfl | hp
    · exact isX_but hx ho hd sb
    · exact isX_but (R.tup p hp) ho hd sb
  rw [List.length_map] at q9
  have full : t1.tooFull = false := by
    unfold SetTable.tooFull
    rw [q9, q4]
    exact decide_eq_false (by omega)
  have T2 : L2.TabOk { t1 with plain := false } (L1.map fun p => xh P w p.2) := ⟨q3.ris, q3.dm, q3.sz, q3.mok, q3.bd, q3.reach⟩
  by_cases hp : t1.plain = true
  · refine L2.wp_if_pos hp (wpAny_bind (hash_x hx fun c => ?_))
    cases c with
    | true => exact fin t1 q4 q5 q3 full
    | false => exact fin _ q4 q5 T2 full
  · refine L2.wp_if_neg hp ?_
    exact fin t1 q4 q5 q3 full
theorem isX_keep {h h' : Heap} {k : List Str} {b : Addr} (x : IsX P w h k b) (hk : ∀ c o, h.get? c = some o → h'.get? c = some o) : IsX P w h' k b := by
  obtain ⟨o, its, n, ho, r⟩ := x
  exact ⟨o, its, n, hk b o ho, r⟩
theorem XSet.keep {h h' : Heap} (R : XSet P w h a L es ep t) (ha : ∀ o, h.get? a = some o → h'.get? a = some o) (ht : ∀ p ∈ L, IsX P w h' p.2 p.1) : XSet P w h' a L es ep t := by
  obtain ⟨o, ho, r⟩ := R.ob
  exact { R with ob := ⟨o, ha o ho, r⟩, tup := ht }
/-- the obj of a new set -/
abbrev freshS (w : World) : Obj := { cls := .type "set", dict := none, data := .set #[] 0 (.fresh 0 0 (!w.params.followText "set-order")) }
theorem xset_0 {h : Heap} (ho : h.get? a = some (freshS w)) : XSet P w h a [] #[] 0 (.fresh 0 0 (!w.params.followText "set-order")) := by
  refine ⟨⟨_, ho, ⟨rfl, rfl, rfl⟩, rfl⟩, rfl, ⟨.nil, rfl, rfl, .inl rfl, fun _ h => (nomatch h), fun i h j hi => (by simp at hi)⟩, fun _ h => (nomatch h), ?_, by simp, rfl⟩
  show w.params.followText "set-order" = true ∨ (!w.params.followText "set-order") = true
  cases w.params.followText "set-order" <;> simp
/-- what set.update does with a walk over unlike tuples -/
theorem x_loop {I : Addr} {fp wr : List Addr} {G : Array GenState → Array GenState → Prop} {n : Nat} {Pv : Nat → Value → Prop} {St : Nat → Shared → Prop} {R : Result → Shared → Prop} (W : WalksS P w A.in1 I fp wr G n Pv St) (S : Addr) (hSf : S ∉ fp) (ks : List (Addr × List Str)) (hn : n = ks.length)
    (h3 : ks.length ≤ 3) (nd : (ks.map (·.2)).Nodup) (hval : ∀ i v, Pv i v → ∃ p, ks[i]? = some p ∧ v = .ref p.1) (h0 : Heap) (hk : ∀ p ∈ ks, IsX P w h0 p.2 p.1) (hS0 : h0.get? S = none) (hw0 : ∀ b ∈ wr, h0.get? b = none) (hu : A.in1.units < cLine) :
    ∀ (k i : Nat) (s : Shared), n - i = k → i ≤ n → St i s → (∀ b o, h0.get? b = some o → s.heap.get? b = some o) → (∃ L es ep t, XSet P w s.heap S L es ep t ∧ L.Perm (ks.take i)) →
      (∀ s' L es ep t, Moved (S :: wr) G s s' → XSet P w s'.heap S L es ep t → L.Perm ks → (∀ b o, h0.get? b = some o → s'.heap.get? b = some o) → R (.ok (.ret .none)) s') → codeAny (model P w) A (.builtin "set.update.loop" ⟨[.ref S, .ref I], []⟩) R s := by
  have notw : S ∉ wr := fun h => hSf (W.sub _ h)
  have wider : ∀ b ∈ wr, b ∈ S :: wr := fun b hb => List.Mem.tail _ hb
  have stays : ∀ {s s' : Shared}, Moved wr G s s' → (∀ b o, h0.get? b = some o → s.heap.get? b = some o) → ∀ b o, h0.get? b = some o → s'.heap.get? b = some o := fun hm kp b o e => hm.heap b o (fun hb => by rw [hw0 b hb] at e; cases e) (kp b o e)
  intro k
  induction k with
  | zero =>
    intro i s hk' hi st kp ⟨L, es, ep, t, X, pm⟩ fin
    obtain rfl : i = n := by omega
    refine codeAny_builtin F.entry_set_update_loop ?_; rw [Around.under_plainId F.plain_set_update_loop _]; show wpAny (model P w) A.in1 (pyNext (.ref I) >>= _) _ _ s
    refine wpAny_bind (W.done s _ _ st fun s' hm => ?_); show wpAny (model P w) A.in1 (ret Value.none) _ _ s'
    rw [hn, List.take_length] at pm
    have kp' := stays hm kp
    exact wpAny_pure (fin s' L es ep t (hm.mono wider) (X.keep (fun o e => hm.heap S o notw e) fun p hp => isX_keep (hk p (pm.mem_iff.mp hp)) kp') pm kp')
  | succ k ih =>
    intro i s hk' hi st kp ⟨L, es, ep, t, X, pm⟩ fin
    have hlt : i < n := by omega
    refine codeAny_builtin F.entry_set_update_loop ?_; rw [Around.under_plainId F.plain_set_update_loop _]; show wpAny (model P w) A.in1 (pyNext (.ref I) >>= _) _ _ s
    refine wpAny_bind (W.item i s _ _ hlt st fun v s' hP st' hm => ?_)
    obtain ⟨p, hp, rfl⟩ := hval i v hP
    have kp' := stays hm kp
    have inks : ∀ q ∈ L, q ∈ ks.take i := fun q hq => pm.mem_iff.mp hq
    have X' : XSet P w s'.heap S L es ep t := X.keep (fun o e => hm.heap S o notw e) fun q hq => isX_keep (hk q (List.mem_of_mem_take (inks q hq))) kp'
    have hx : IsX P w s'.heap p.2 p.1 := isX_keep (hk p (List.mem_of_getElem? hp)) kp'
    have unlike : ∀ q ∈ L, q.2 ≠ p.2 := fun q hq e => by
      obtain ⟨j, hj⟩ := List.getElem?_of_mem (inks q hq)
      have hji : j < i := by
        have := (List.getElem?_eq_some_iff.mp hj).1
        rw [List.length_take] at this
        omega
      rw [List.getElem?_take_of_lt hji] at hj
      have := nodup_get nd (i := j) (j := i) (x := p.2) (by rw [List.getElem?_map, hj, ← e]; rfl) (by rw [List.getElem?_map, hp]; rfl)
      omega
    have hL : L.length ≤ 2 := by
      have := pm.length_eq
      rw [List.length_take] at this
      omega
    show wpAny (model P w) A.in1 (holding [Value.ref p.1] (setAdd S (.ref p.1)) >>= _) _ _ s'
    refine wpAny_bind (wpAny_holding ?_); unfold setAdd
    refine wpAny_holding (wpAny_bind (wpAny_pyHash_tuple hu hx ?_))
    refine x_add (s := { s' with toks := s'.toks + (p.2.length + 1) }) X' hx hu unlike hL fun h' L' es' ep' t' sb X2 pm2 => ?_
    have pm3 : L'.Perm (ks.take (i + 1)) := by
      have hi2 : i < ks.length := by omega
      have e : ks.take (i + 1) = ks.take i ++ [p] := by
        rw [List.take_succ_eq_append_getElem hi2]
        rw [List.getElem?_eq_getElem hi2] at hp
        rw [Option.some.inj hp]
      rw [e]
      exact pm2.trans ((List.Perm.cons _ pm).trans (List.perm_append_singleton p _).symm)
    have kp2 : ∀ b o, h0.get? b = some o → h'.get? b = some o := fun b o e => (sb.2 b (fun z => by rw [z, hS0] at e; cases e)).trans (kp' b o e)
    have same : ∀ b o, b ≠ S → s'.heap.get? b = some o → h'.get? b = some o := fun b o hb e => by rw [sb.2 b hb]; exact e
    refine wpAny_pure ⟨plainId_quiet F.plain_set_update_loop _, ih (i + 1) _ (by omega) hlt (W.frame _ s' _ _ st' (Nat.le_add_right _ _) fun b hb o e => same b o (fun z => hSf (z ▸ hb)) e) kp2 ⟨L', es', ep', t', X2, pm3⟩ fun s'' L2 es2 ep2 t2 hm2 X3 pm4 kp3 => ?_⟩
    exact fin s'' L2 es2 ep2 t2 (Moved.trans W.gtrans ((hm.mono wider).then_heap (Nat.le_add_right _ _) fun b o hb e => same b o (fun z => hb (z ▸ List.Mem.head _)) e) hm2) X3 pm4 kp3
end
end An
end
section
set_option Elab.async false
set_option maxRecDepth 100000
set_option maxHeartbeats 4000000
set_option linter.all false
/-! len(set(t)), t a tuple of few unlike tuples of texts. -/
namespace An
open PySem PySem.Spec PyProof.Rows
section
variable {P : Program} {w : World} {A : Around} {E : Value → Shared → Prop} {s : Shared}
theorem call_setX {l : Addr} {its : Array Value} (ks : List (Addr × List Str)) {Q : Value → Shared → Prop} (hh : A.handled = none) (hl : s.heap.IsTuple l its) (hit : its.toList = ks.map fun p => Value.ref p.1)
    (hk : ∀ p ∈ ks, IsX P w s.heap p.2 p.1) (h3 : ks.length ≤ 3) (nd : (ks.map (·.2)).Nodup) (hu : A.units + 3 < cLine)
    (q : ∀ (h' : Heap) (tk : Nat) L es ep t, XSet P w h' s.heap.objs.size L es ep t → L.Perm ks → (∀ b o, s.heap.get? b = some o → h'.get? b = some o) → Q (.ref s.heap.objs.size) { s with heap := h', toks := tk }) :
    wpAny (model P w) A (call (.type "set") [.ref l]) Q E s := by
  have sz : its.size = ks.length := by have e := congrArg List.length hit; rwa [Array.length_toList, List.length_map] at e
  obtain ⟨c, tl, hmro⟩ := F.called_set.mro
  have g1 := F.called_set.made
  have g2 := F.called_set.sub
  have g3 := F.called_set.notType
  have g4 := F.called_set.canCreate
  have g5 := F.typeCall_set_1 (.ref l)
  refine wpAny_call (codeAny_of_tree (show wpAny _ _ (callAny (.type "set") _) _ _ _ from wpAny_pure ⟨Code.quiet_builtin _ (by decide +kernel), codeAny_builtin F.entry_type_call ?_⟩))
  rw [Around.under_plain (weight_type_call_type "set" [.ref l] []) (by rfl)]
  repeat (any_goals (first | assumption | wp_step))
  refine codeAny_mono (L2.code_set_led1 (.ref l) (E := E) (Q₁ := fun ob s1 => ob = .ref s.heap.objs.size ∧ s1 = { s with heap := s.heap.push (freshS w) }) ⟨rfl, rfl⟩) fun r s1 hr => ?_
  cases r with
  | error e => exact hr
  | ok fl =>
    cases fl with
    | ret ob =>
      obtain ⟨rfl, rfl⟩ := hr
      have new : (s.heap.push (freshS w)).get? s.heap.objs.size = some (freshS w) := Heap.get?_push_size _ rfl
      have tyS : Shared.TypeIs { s with heap := s.heap.push (freshS w) } (.ref s.heap.objs.size) "set" := ⟨_, new, rfl⟩
      have g6 := F.called_set.init.lookup
      have g7 := F.called_set.init.bind (.ref s.heap.objs.size)
      repeat (any_goals (first | assumption | wp_step))
      refine codeAny_mono (codeAny_call_builtin (R := wants (fun r s2 => r = .none ∧ ∃ h' tk L es ep t, s2 = { s with heap := h', toks := tk } ∧ XSet P w h' s.heap.objs.size L es ep t ∧ L.Perm ks ∧ (∀ b o, s.heap.get? b = some o → h'.get? b = some o)) E)
        F.called_set.init.plain F.entry_set_init (check_set_init_1 tyS ?_)) fun r2 s2 hr2 => ?_
      · obtain ⟨⟨oc, odd, oda, os⟩, hol, hc, nl, hd⟩ := hl
        dsimp only at hc hd
        subst hc hd
        have at1 : (s.heap.push (freshS w)).get? l = some { cls := .type "tuple", dict := odd, data := .seq its nl, slots := os } := Heap.get?_push_of_some _ hol
        have f1 := F.sub_tuple_set
        have f2 := F.sub_tuple_frozenset
        have f3 : (Value.type "tuple" == Value.type "dict") = false := by decide
        have tup1 : (s.heap.push (freshS w)).IsTuple l its := ⟨_, at1, rfl, nl, rfl⟩
        unfold Builtin.«set.__init__» noKeywords Builtin.Frozenset.updateFrom
        generalize hPI : pyIter = PI
        wp_walk
        subst hPI
        refine wpAny_pyIter_tuple tup1 (wpAny_bind (wpAny_runValue ?_))
        have lt : l < s.heap.objs.size := Heap.lt_size hol
        have hh3 : A.in1.in1.in1.handled = none := by simp [hh]
        have size1 : (s.heap.push (freshS w)).objs.size = s.heap.objs.size + 1 := Heap.size_push ..
        have fresh0 : ∀ b, s.heap.objs.size ≤ b → s.heap.get? b = none := fun b hb => by
          cases e : s.heap.get? b with
          | none => rfl
          | some o => exact absurd (Heap.lt_size e) (Nat.not_lt.mpr hb)
        have valAt : ∀ (i : Nat) (v : Value), its[i]? = some v → ∃ p, ks[i]? = some p ∧ v = .ref p.1 := fun i v hv => by
          have e : its.toList[i]? = some v := by rw [Array.getElem?_toList]; exact hv
          rw [hit, List.getElem?_map] at e
          cases hq : ks[i]? with
          | none => rw [hq] at e; cases e
          | some p => rw [hq] at e; exact ⟨p, rfl, (Option.some.inj e).symm⟩
        have ne1 : l ≠ (s.heap.push (freshS w)).objs.size := by rw [size1]; exact Nat.ne_of_lt (Nat.lt_succ_of_lt lt)
        have get2 : ((s.heap.push (freshS w)).push { cls := .type "tuple_iterator", data := .fields #[.ref l, .int 0 0] }).get? s.heap.objs.size = some (freshS w) := Heap.get?_push_of_some _ new
        refine x_loop ((Walks.tuple hh3 _ l ne1 its).toS) s.heap.objs.size (by rw [size1]; simp only [List.mem_cons, List.not_mem_nil, or_false, not_or]; exact ⟨Nat.ne_of_lt (Nat.lt_succ_self _), Nat.ne_of_gt lt⟩) ks sz h3 nd valAt s.heap hk (fresh0 _ (Nat.le_refl _)) (fun b hb => fresh0 b (by rw [List.mem_singleton.mp hb, size1]; exact Nat.le_succ _)) hu (its.size - 0) 0 _ (by omega) (Nat.zero_le _)
          ⟨⟨_, Heap.get?_push_size _ rfl, rfl, rfl⟩, tup1.push _⟩ (fun b o e => Heap.get?_push_of_some _ (Heap.get?_push_of_some _ e)) ⟨[], #[], 0, _, xset_0 get2, .nil⟩ fun s3 L es ep t hm X pm kp => ?_
        obtain ⟨h', gg, dd, tk, oo⟩ := s3
        have e1 : gg = s.gens := hm.gens
        have e2 : dd = s.drawn := hm.drawn
        have e3 : oo = s.os := hm.os
        subst e1 e2 e3
        show wpAny _ _ _ _ _ _
        refine wpAny_pure ?_; show wpAny (model P w) _ (ret Value.none) _ _ _
        exact wpAny_pure ⟨rfl, h', tk, L, es, ep, t, rfl, X, pm, kp⟩
      · cases r2 with
        | error e => exact hr2
        | ok f2 =>
          cases f2 with
          | ret r =>
            obtain ⟨rfl, h', tk, L, es, ep, t, rfl, X, pm, kp⟩ := hr2
            repeat (any_goals (first | assumption | wp_step))
            exact q _ _ _ _ _ _ X pm kp
          | _ => exact hr2.elim
    | _ => exact hr.elim
end
end An
end
section
set_option Elab.async false
set_option maxRecDepth 100000
set_option maxHeartbeats 4000000
set_option linter.all false
namespace An
open PySem L2
theorem x_vals {P : Program} {w : World} : ∀ {k : List Str} {us : List Value}, Vals (k.map V.str) us → ItemsAre (strKind P w) k us
  | [], _, .nil => .nil
  | z :: k, _, .cons r t => by
    obtain ⟨n, rfl⟩ := r
    exact .cons (by show (decide (z = z)) = true; simp) (x_vals t)
theorem x_refs : ∀ {ks : List (Addr × List Str)} {us : List Value}, Vals (ks.map fun p => V.ref p.1) us → us = ks.map fun p => Value.ref p.1
  | [], _, .nil => rfl
  | p :: ks, _, .cons r t => by
    obtain rfl := (show _ = Value.ref p.1 from r)
    rw [x_refs t]
    rfl
theorem inv_isX {X : Cx} {pins : List (Addr × Obj)} {σ : L2.St} {H : Hp} {s : Shared} {b : Addr} {k : List Str} (I : Inv X pins σ H s) (h : SqT X.K H b (k.map V.str)) : IsX X.prog X.w s.heap k b := by
  obtain ⟨its, r, ⟨o, ho, hc, n, hd⟩, _⟩ := I.tuple h
  exact ⟨o, its.toArray, n, ho, hc, hd, x_vals r⟩
def tLenX (K : PySem.W.Frag) (ta : TE) : TE := fun σ H Q => ta σ H fun x H1 => ∃ (l : Addr) (ks : List (Addr × List Str)), x = .ref l ∧ SqT K H1 l (ks.map fun p => V.ref p.1) ∧ (∀ p ∈ ks, SqT K H1 p.1 (p.2.map V.str)) ∧ ks.length ≤ 3 ∧ (ks.map (·.2)).Nodup ∧ Q (vN ks.length) H1
theorem pe_lenSetX {X : Cx} {a : Expr} {ta : TE} {p p2 q pos : Pos} (g1 : Gl X "len") (m1 : X.mg "len" = none) (g2 : Gl X "set") (m2 : X.mg "set" = none) (hu : X.A.units + 64 < cLine) (ha : PE X a ta) (calm : X.calm = true := by rfl)
    (one : starEach [a] X.env = (false, eval a X.env) :: starEach [] X.env := by rfl) : PE X (.Call (.Name "len" p) [.Call (.Name "set" p2) [a] [] q] [] pos) (tLenX X.K ta) := by
  refine ⟨fun pins s σ H Q I h => PyProof.Rows.Call_ (ld_blt I g1 m1 PySem.boot_len (PyProof.Rows.callWith_builtin1 (PyProof.Rows.args_cons (PyProof.Rows.Call_ (ld_blt I g2 m2 PyProof.Rows.boot_set
    (PyProof.Rows.callWith_type1 (PyProof.Rows.args_cons (thn (ha.run pins s σ H _ I h) fun v s1 ⟨x, H1, I1, r1, l, ks, ex, hl, hk, h3, nd, k⟩ => PyProof.Rows.args_nil ?_) one) one rfl))) rfl) rfl rfl))⟩
  subst ex
  obtain rfl : v = Value.ref l := r1
  obtain ⟨its, rv, pl, _⟩ := I1.tuple hl
  refine call_setX (P := X.prog) (w := X.w) ks (I1.ok.hd calm) pl (by simpa using x_refs rv) (fun p hp => inv_isX I1 (hk p hp)) h3 nd (by omega) fun h' tk L es ep t R pm kp => PyProof.Rows.args_nil ?_
  obtain ⟨o, ho, hex, hd⟩ := R.ob
  have hf := XSet.fits (P := X.prog) (w := X.w) (s := { s1 with heap := h', toks := tk }) R
  have hn : es.size = ks.length := (XSet.size (P := X.prog) (w := X.w) (s := { s1 with heap := h', toks := tk }) R).trans pm.length_eq
  exact call_len_set ho hex hd hf (by rw [hn]; omega) ⟨vN ks.length, H1, (I1.kept (h' := h') (t' := tk) kp).tok _, ⟨_, by rw [hn]⟩, k⟩
end An
end
section
set_option Elab.async false
set_option maxRecDepth 100000
set_option maxHeartbeats 4000000
set_option linter.all false
/-! kinds; comes; are_apart, meeting. -/
namespace An
open PySem L2
theorem optV_non (o : Option (List Nat)) : decide (optV o = V.non) = o.isNone := by
  cases o with
  | none => exact decide_eq_true rfl
  | some t => exact decide_eq_false fun z => nomatch z
def kS (k : Kd) : List Str := [tx k.1, tx k.2.toList]
theorem kS_inj {a b : Kd} (h : kS a = kS b) : a = b := by
  simp only [kS, List.cons.injEq, and_true] at h
  have h1 := tx_inj.mp h.1
  have h2 := tx_inj.mp h.2
  obtain ⟨a1, a2⟩ := a
  obtain ⟨b1, b2⟩ := b
  dsimp only at h1 h2
  subst h1
  cases a2 <;> cases b2 <;> simp_all
theorem kinds_at {K : PySem.W.Frag} {H : Hp} : ∀ {ks : List Kd} {xs : List V}, DpAll K H xs (ks.map kD) → ∃ ps : List (Addr × List Str), xs = ps.map (fun p => V.ref p.1) ∧ (∀ p ∈ ps, SqT K H p.1 (p.2.map V.str)) ∧ ps.map (·.2) = ks.map kS
  | [], _, h => by cases h; exact ⟨[], rfl, by simp, rfl⟩
  | k :: ks, _, h => by
    cases h with
    | cons h1 h2 =>
      obtain ⟨a, rfl, ha⟩ := dp_kd h1
      obtain ⟨ps, rfl, p2, p3⟩ := kinds_at h2
      refine ⟨(a, kS k) :: ps, rfl, fun p hp => ?_, by simp [p3]⟩
      rcases List.mem_cons.mp hp with rfl | hp
      · exact ha
      · exact p2 p hp
section
variable {P : Program} {w : World} {K : PySem.W.Frag} {mg : Str → Option Value} {base : Heap}
def sp_are_kinds (K : PySem.W.Frag) : Sp := fun vs H Q _ => ∃ (L : List Nat) (ks : List Kd) (v : V), vs = [.str (tx L), v] ∧ L.length ≤ 100 ∧ Dp K H v (ksD ks) ∧ KsOk L ks ∧ ∀ H', Same H H' → Q (.bl true) H'
theorem sc_are_kinds : FnScope ["letters", "value", "kind"] ["letters", "value"] (defScope s_are_kinds) := ⟨rfl, rfl, rfl, by decide +kernel, rfl, by decide +kernel, by decide +kernel⟩
theorem ok_are_kinds (T : Tx K mg) : FnOk P w K mg base CX0 3 T.are_kinds.f T.are_kinds.fd ["letters", "value"] (sp_are_kinds K) := by
  have sc := sc_are_kinds
  refine T.are_kinds.F.ok sc (fun vs H Q E h => ?_) (fun cdv A outer s H vs Q E hr h => ?_)
  · obtain ⟨_, _, _, rfl, _⟩ := h; rfl
  · obtain ⟨L, ks, v, rfl, hL, hd, hK, q⟩ := h
    refine ⟨_, (pss_cons (ps_if (PW.pt (pw_or (pt_not (pt_val (pe_B (id := "isinstance") call_isi T.b_isinstance (pa_cons (pv 1) (pa_cons (pe_ty "tuple" T.b_tuple) pa_nil))))) (pw_or (pt_cmpR op_gt (pe_B (id := "len") call_lenDt T.b_len (pa_cons (pv 1) pa_nil)) (pe_globE T.c_MOST_KINDS) (nomark _)) (pw_or1 (pt_not (pt_val (pe_B (id := "all") (call_allT rfl) T.b_all (pa_cons (pe_lc (own := [("kind", 2)]) rfl sc.nd (pi_tup (pv 1)) (blkOk_by (N := ["letters", "value", "kind"]) (sc := defScope s_are_kinds) (by decide +kernel)) (fun _ _ _ _ _ => (pg_name (i := 2) (x := "kind") sc.nd rfl (Or.inl rfl) (hf := Or.inr rfl))) (fun _ _ _ _ _ => pts_nil) (fun _ _ _ _ _ => (pe_callD T.is_kind (ok_is_kind T) (hr.mono (by decide)) (pa_cons (pv 0) (pa_cons (pv 2) pa_nil))))) pa_nil))))))))
        (pss_one (ps_ret pe_bl))
        pss_nil)
      (pss_one (ps_ret (pe_cmpR op_eq (pe_lenSetX rfl T.b_len rfl T.b_set hr.units (pv 1)) (pe_B (id := "len") call_lenDt T.b_len (pa_cons (pv 1) pa_nil)) (nomark _))))), ?_⟩
    have h3 := hK.n
    refine ⟨_, rfl, _, _, _, _, _, rfl, .ty _, tyx_tup hd, kit_ty (r := true) (by decide +kernel), _, rfl, ?_⟩
    refine iteF ⟨_, rfl, _, _, ks.length, rfl, hd, by simp, _, _, rfl, rfl, _, rfl, ?_⟩
    rw [decide_eq_false (by omega)]
    obtain ⟨a, xs, rfl, ht, ha⟩ := dp_tup hd
    have hl := dpAll_len ha
    rw [List.length_map] at hl
    refine iteF ⟨_, rfl, a, rfl, ⟨_, ht⟩, fun D hD => ?_⟩
    refine all_yes walk_tup (by rw [hl]; exact line8 (by omega)) hD (fun H s => same_t s ht) (fun x => rfl) (fun i x H2 Hx Q hi s y k => ?_) fun H1 s1 e1 => ?_
    · obtain ⟨rfl, hx⟩ := y
      rw [hl] at hi
      obtain ⟨y2, hy2, dy⟩ := dpAll_get (i := i) (d := kD ks[i]) ha (by simp [hi])
      rw [hx] at hy2
      cases hy2
      obtain ⟨k1, k2, k3, k4⟩ := hK.k ks[i] (List.getElem_mem hi)
      exact ⟨_, rfl, _, rfl, L, ks[i], x, rfl, by omega, dp_same s _ _ dy, k1, k2, k3, k4, k⟩
    · refine ⟨D, _, rfl, SqL.of e1, _, rfl, iteF ?_⟩
      obtain ⟨ps, rfl, p2, p3⟩ := kinds_at ha
      have hpl : ps.length = ks.length := by
        have := congrArg List.length p3
        simpa using this
      refine ⟨_, rfl, a, ps, rfl, same_t s1 ht, fun p hp => same_t s1 (p2 p hp), by omega, ?_, ?_⟩
      · rw [p3]
        exact hK.d.map _ fun a b hne e => hne (kS_inj e)
      · refine ⟨_, rfl, _, _, ks.length, rfl, dp_same s1 _ _ hd, by simp, rfl, ?_⟩
        have e : decide (vN ps.length = V.int (ks.length : Int)) = true := by rw [hpl]; exact decide_eq_true rfl
        rw [e]
        exact q _ s1
def sp_need_kinds (K : PySem.W.Frag) : Sp := fun vs H Q _ => ∃ (L : List Nat) (ks : List Kd) (v : V), vs = [.str (tx L), v] ∧ L.length ≤ 100 ∧ Dp K H v (ksD ks) ∧ KsOk L ks ∧ ∀ H', Same H H' → Q .non H'
theorem sc_need_kinds : FnScope ["letters", "value"] ["letters", "value"] (defScope s_need_kinds) := ⟨rfl, rfl, rfl, by decide +kernel, rfl, by decide +kernel, by decide +kernel⟩
theorem ok_need_kinds (T : Tx K mg) : FnOk P w K mg base CX0 4 T.need_kinds.f T.need_kinds.fd ["letters", "value"] (sp_need_kinds K) := by
  have sc := sc_need_kinds
  refine T.need_kinds.F.ok sc (fun vs H Q E h => ?_) (fun cdv A outer s H vs Q E hr h => ?_)
  · obtain ⟨_, _, _, rfl, _⟩ := h; rfl
  · obtain ⟨L, ks, v, rfl, hL, hd, hK, q⟩ := h
    refine ⟨_, (pss_one (ps_if (pt_not (pt_val (pe_callD T.are_kinds (ok_are_kinds T) (hr.mono (by decide)) (pa_cons (pv 0) (pa_cons (pv 1) pa_nil)))))
        (pss_one ps_never)
        pss_nil)), ?_⟩
    exact ⟨_, rfl, _, rfl, L, ks, v, rfl, hL, hd, hK, fun H1 s1 => ⟨_, rfl, iteF (q H1 s1)⟩⟩
theorem sc_comes : FnScope ["reader", "kinds"] ["reader", "kinds"] (defScope s_comes) := ⟨rfl, rfl, rfl, by decide +kernel, rfl, by decide +kernel, by decide +kernel⟩
theorem ok_comes (T : Tx K mg) : FnOk P w K mg base CX0 6 T.comes.f T.comes.fd ["reader", "kinds"] (sp_come K) := by
  have sc := sc_comes
  refine T.comes.F.ok sc (fun vs H Q E h => ?_) (fun cdv A outer s H vs Q E hr h => ?_)
  · obtain ⟨_, _, _, _, rfl, _⟩ := h; rfl
  · obtain ⟨R, ks, v, u, rfl, hv, hR, hn, hu, hK, q⟩ := h
    refine ⟨_, (pss_cons (ps_expr (pe_callD T.need_reader (ok_need_reader T) (hr.mono (by decide)) (pa_cons (pv 0) pa_nil)))
      (pss_cons (ps_expr (pe_callD T.need_kinds (ok_need_kinds T) (hr.mono (by decide)) (pa_cons (pe_ix ix_D (pv 0) pe_int (fun _ _ => rfl)) (pa_cons (pv 1) pa_nil))))
      (pss_one (ps_ret (pe_callD T.come (ok_come T) (hr.mono (by decide)) (pa_cons (pv 0) (pa_cons (pv 1) pa_nil))))))), ?_⟩
    have hLl := hR.l.le
    refine ⟨_, rfl, R, v, rfl, hR, hv, fun H1 s1 => ?_⟩
    refine ⟨_, rfl, [tD R.1, rowsD R.2.1, yesD R.2.2], 0, _, dp_same s1 _ _ hv, rfl, rfl, fun z hz => ?_⟩
    cases dp_str hz
    refine ⟨_, rfl, R.1, ks, u, rfl, by omega, dp_same s1 _ _ hu, hK, fun H2 s2 => ?_⟩
    have s3 := s1.trans s2
    exact ⟨_, rfl, _, rfl, R, ks, v, u, rfl, dp_same s3 _ _ hv, hR, hn, dp_same s3 _ _ hu, hK, fun H3 r s4 d4 => q H3 r (s3.trans s4) d4⟩
/-- two readers and a lot of kinds, as they are drawn -/
structure Drawn (K : PySem.W.Frag) (H : Hp) (R S : Rd3) (ks : List Kd) (v u k : V) : Prop where
  dv : Dp K H v (rdD R)
  du : Dp K H u (rdD S)
  rR : RdOk R
  rS : RdOk S
  n : R.2.1.length ≤ 5
  m : S.2.1.length ≤ 5
  e : R.1 = S.1
  dk : Dp K H k (ksD ks)
  kK : KsOk R.1 ks
theorem Drawn.same {K : PySem.W.Frag} {H H' : Hp} {R S : Rd3} {ks : List Kd} {v u k : V} (s : Same H H') (d : Drawn K H R S ks v u k) : Drawn K H' R S ks v u k := { d with dv := dp_same s _ _ d.dv, du := dp_same s _ _ d.du, dk := dp_same s _ _ d.dk }
def sp_need_books (K : PySem.W.Frag) : Sp := fun vs H Q _ => ∃ (R S : Rd3) (ks : List Kd) (v u k : V), vs = [v, u, k] ∧ Drawn K H R S ks v u k ∧ ∀ H', Same H H' → Q .non H'
theorem sc_need_books : FnScope ["one", "other", "kinds"] ["one", "other", "kinds"] (defScope s_need_books) := ⟨rfl, rfl, rfl, by decide +kernel, rfl, by decide +kernel, by decide +kernel⟩
theorem ok_need_books (T : Tx K mg) : FnOk P w K mg base CX0 7 T.need_books.f T.need_books.fd ["one", "other", "kinds"] (sp_need_books K) := by
  have sc := sc_need_books
  refine T.need_books.F.ok sc (fun vs H Q E h => ?_) (fun cdv A outer s H vs Q E hr h => ?_)
  · obtain ⟨_, _, _, _, _, _, rfl, _⟩ := h; rfl
  · obtain ⟨R, S, ks, v, u, k, rfl, d, q⟩ := h
    refine ⟨_, (pss_cons (ps_expr (pe_callD T.need_readers (ok_need_readers T) (hr.mono (by decide)) (pa_cons (pv 0) (pa_cons (pv 1) pa_nil))))
      (pss_one (ps_expr (pe_callD T.need_kinds (ok_need_kinds T) (hr.mono (by decide)) (pa_cons (pe_ix ix_D (pv 0) pe_int (fun _ _ => rfl)) (pa_cons (pv 2) pa_nil)))))), ?_⟩
    have hLl := d.rR.l.le
    refine ⟨_, rfl, _, rfl, R, S, v, u, rfl, d.rR, d.rS, d.e, d.dv, d.du, fun H1 s1 => ?_⟩
    refine ⟨_, rfl, [tD R.1, rowsD R.2.1, yesD R.2.2], 0, _, dp_same s1 _ _ d.dv, rfl, rfl, fun z hz => ?_⟩
    cases dp_str hz
    exact ⟨_, rfl, R.1, ks, k, rfl, by omega, dp_same s1 _ _ d.dk, d.kK, fun H2 s2 => q H2 (s1.trans s2)⟩
def sp_meeting (K : PySem.W.Frag) : Sp := fun vs H Q _ => ∃ (R S : Rd3) (ks : List Kd) (v u k : V), vs = [v, u, k] ∧ Drawn K H R S ks v u k ∧ ∀ H', Same H H' → Q (optV (Due (Come R ks) (Come S ks))) H'
theorem sc_meeting : FnScope ["one", "other", "kinds"] ["one", "other", "kinds"] (defScope s_meeting) := ⟨rfl, rfl, rfl, by decide +kernel, rfl, by decide +kernel, by decide +kernel⟩
theorem ok_meeting (T : Tx K mg) : FnOk P w K mg base CX0 8 T.meeting.f T.meeting.fd ["one", "other", "kinds"] (sp_meeting K) := by
  have sc := sc_meeting
  refine T.meeting.F.ok sc (fun vs H Q E h => ?_) (fun cdv A outer s H vs Q E hr h => ?_)
  · obtain ⟨_, _, _, _, _, _, rfl, _⟩ := h; rfl
  · obtain ⟨R, S, ks, v, u, k, rfl, d, q⟩ := h
    refine ⟨_, (pss_cons (ps_expr (pe_callD T.need_books (ok_need_books T) (hr.mono (by decide)) (pa_cons (pv 0) (pa_cons (pv 1) (pa_cons (pv 2) pa_nil)))))
      (pss_one (ps_ret (pe_callD T.meeting_of (ok_meeting_of T) (hr.mono (by decide)) (pa_cons (pv 0) (pa_cons (pv 1) (pa_cons (pv 2) pa_nil))))))), ?_⟩
    refine ⟨_, rfl, _, rfl, _, rfl, R, S, ks, v, u, k, rfl, d, fun H1 s1 => ?_⟩
    have d1 := d.same s1
    exact ⟨_, rfl, _, rfl, _, rfl, R, S, ks, v, u, k, rfl, d1.dv, d1.du, d1.rR, d1.rS, d1.n, d1.m, d1.e, d1.dk, d1.kK, fun H2 s2 => q H2 (s1.trans s2)⟩
def sp_are_apart (K : PySem.W.Frag) : Sp := fun vs H Q _ => ∃ (R S : Rd3) (ks : List Kd) (v u k : V), vs = [v, u, k] ∧ Drawn K H R S ks v u k ∧ ∀ H', Same H H' → Q (.bl (Due (Come R ks) (Come S ks)).isNone) H'
theorem sc_are_apart : FnScope ["one", "other", "kinds"] ["one", "other", "kinds"] (defScope s_are_apart) := ⟨rfl, rfl, rfl, by decide +kernel, rfl, by decide +kernel, by decide +kernel⟩
theorem ok_are_apart (T : Tx K mg) : FnOk P w K mg base CX0 8 T.are_apart.f T.are_apart.fd ["one", "other", "kinds"] (sp_are_apart K) := by
  have sc := sc_are_apart
  refine T.are_apart.F.ok sc (fun vs H Q E h => ?_) (fun cdv A outer s H vs Q E hr h => ?_)
  · obtain ⟨_, _, _, _, _, _, rfl, _⟩ := h; rfl
  · obtain ⟨R, S, ks, v, u, k, rfl, d, q⟩ := h
    refine ⟨_, (pss_cons (ps_expr (pe_callD T.need_books (ok_need_books T) (hr.mono (by decide)) (pa_cons (pv 0) (pa_cons (pv 1) (pa_cons (pv 2) pa_nil)))))
      (pss_one (ps_ret (pe_cmpR op_isN (pe_callD T.meeting_of (ok_meeting_of T) (hr.mono (by decide)) (pa_cons (pv 0) (pa_cons (pv 1) (pa_cons (pv 2) pa_nil)))) pe_non (nomark _))))), ?_⟩
    refine ⟨_, rfl, _, rfl, _, rfl, R, S, ks, v, u, k, rfl, d, fun H1 s1 => ?_⟩
    have d1 := d.same s1
    refine ⟨_, rfl, _, rfl, _, rfl, R, S, ks, v, u, k, rfl, d1.dv, d1.du, d1.rR, d1.rS, d1.n, d1.m, d1.e, d1.dk, d1.kK, fun H2 s2 => ?_⟩
    have := q H2 (s1.trans s2)
    rw [← optV_non] at this
    exact ⟨rfl, this⟩
end
end An
end
section
set_option Elab.async false
set_option maxRecDepth 100000
set_option maxHeartbeats 4000000
set_option linter.all false
/-! teller; the law's small defs. -/
namespace An
open PySem L2
abbrev veMro : List Value := [.type "ValueError", .type "Exception", .type "BaseException", .type "object"]
structure Tx2 (K : PySem.W.Frag) (mg : Str → Option Value) where
  EC : Addr
  gE : mg "NotApart" = some (.ref EC)
  xE : PySem.W.excIn K EC veMro "ValueError.__new__" = true
  kE : PySem.W.keepIn K (.ref EC) = true
  bE : PySem.W.subIn K (.ref EC) (.type "BaseException") = some true
  tE : PySem.W.typeIn K (.ref EC) = some (.type "type")
  eE : PySem.W.exmOne K (.ref EC) (.ref EC) = some true
/-- X() of an own exception class -/
theorem pmk_own0 {X : Cx} {C : Addr} {bmB : List Value} {B newId initId : String} {x : Str} {p pos : Pos} (F : ExcBaseFacts B newId initId bmB) (q : PySem.W.excIn X.K C bmB newId = true) (gC : X.mg x = some (.ref C)) (kC : PySem.W.keepIn X.K (.ref C) = true) (r : Raises X (.ref C)) (hg : Gl X x)
    (hdb : (x == ("__debug__" : Str)) = false := by decide) : PMk X (.Call (.Name x p) [] [] pos) (fun _ H Q => Q (.ref C) none H) := by
  intro pins s σ H Q I h
  refine wpAny_Call_Name_kw (ld_glob I hg gC (PySem.W.callWith_K0 I.kIn kC ?_) hdb)
  obtain ⟨bm, N, nm, qn, bs, hd, sn, sub, ab, col, dd, k0, k1, k2, k3, k5, mN, hC, hN, hni, T⟩ := exc_obj I.kIn q
  exact wpAny_call_exc_subT F T hC hN hni (fun h' e hm => mk_of I hm r h (I.hok.gone hm.new)) (Nat.zero_le _)
section
variable {P : Program} {w : World} {K : PySem.W.Frag} {mg : Str → Option Value} {base : Heap}
def sp_teller (K : PySem.W.Frag) (EC : Addr) : Sp := fun vs H Q E => ∃ (R S : Rd3) (ks : List Kd) (v u k : V), vs = [v, u, k] ∧ Drawn K H R S ks v u k ∧ (Due (Come R ks) (Come S ks) = none → ∀ H' r, Same H H' → Dp K H' r (rdD (Come R ks)) → Q r H') ∧
  (Due (Come R ks) (Come S ks) ≠ none → ∀ H', Same H H' → E (.ref EC) none H')
theorem sc_teller : FnScope ["one", "other", "kinds"] ["one", "other", "kinds"] (defScope s_teller) := ⟨rfl, rfl, rfl, by decide +kernel, rfl, by decide +kernel, by decide +kernel⟩
theorem ok_teller (T : Tx K mg) (T2 : Tx2 K mg) : FnOk P w K mg base (L2.CX P w) 8 T.teller.f T.teller.fd ["one", "other", "kinds"] (sp_teller K T2.EC) := by
  have sc := sc_teller
  refine T.teller.F.okX sc (fun vs H Q E h => ?_) (fun cdv A outer s H vs Q E hr h => ?_)
  · obtain ⟨_, _, _, _, _, _, rfl, _⟩ := h; rfl
  · obtain ⟨R, S, ks, v, u, k, rfl, d, q1, q2⟩ := h
    refine ⟨_, (pss_cons (ps_expr (pe_callD T.need_books (ok_need_books T) (hr.mono (by decide)) (pa_cons (pv 0) (pa_cons (pv 1) (pa_cons (pv 2) pa_nil)))))
      (pss_cons (ps_if (pt_cmpR op_notN (pe_callD T.meeting_of (ok_meeting_of T) (hr.mono (by decide)) (pa_cons (pv 0) (pa_cons (pv 1) (pa_cons (pv 2) pa_nil)))) pe_non (nomark _))
        (pss_one (ps_raise rfl (takes_of rfl rfl rfl rfl) (pmk_own0 PySem.F.excBase_ValueError T2.xE T2.gE T2.kE (raises_own T2.bE T2.tE) (by exact rfl))))
        pss_nil)
      (pss_one (ps_ret (pe_callD T.come (ok_come T) (hr.mono (by decide)) (pa_cons (pv 0) (pa_cons (pv 2) pa_nil))))))), ?_⟩
    refine ⟨_, rfl, _, rfl, _, rfl, R, S, ks, v, u, k, rfl, d, fun H1 s1 => ?_⟩
    have d1 := d.same s1
    refine ⟨_, rfl, _, rfl, _, rfl, R, S, ks, v, u, k, rfl, d1.dv, d1.du, d1.rR, d1.rS, d1.n, d1.m, d1.e, d1.dk, d1.kK, fun H2 s2 => ?_⟩
    have d2 := d1.same s2
    refine ⟨rfl, _, rfl, ?_⟩
    rw [optV_non]
    cases hD : Due (Come R ks) (Come S ks) with
    | none => exact iteF ⟨_, rfl, _, rfl, R, ks, v, k, rfl, d2.dv, d2.rR, d2.n, d2.dk, d2.kK, fun H3 r s3 d3 => q1 hD H3 r (s1.trans (s2.trans s3)) d3⟩
    | some t => exact iteT (q2 (by rw [hD]; exact fun z => nomatch z) H2 (s1.trans s2))
def sp_law_is (K : PySem.W.Frag) : Sp := fun vs H Q _ => ∃ a b : Bool, vs = [.bl a, .bl b] ∧ Q (.bl (a == b)) H
theorem sc_law_is : FnScope ["_law_found", "_law_due"] ["_law_found", "_law_due"] (defScope s_law_is) := ⟨rfl, rfl, rfl, by decide +kernel, rfl, by decide +kernel, by decide +kernel⟩
theorem ok_law_is (T : Tx K mg) : FnOk P w K mg base CX0 1 T.law_is.f T.law_is.fd ["_law_found", "_law_due"] (sp_law_is K) := by
  have sc := sc_law_is
  refine T.law_is.F.ok sc (fun vs H Q E h => ?_) (fun cdv A outer s H vs Q E hr h => ?_)
  · obtain ⟨_, _, rfl, _⟩ := h; rfl
  · obtain ⟨a, b, rfl, q⟩ := h
    refine ⟨_, (pss_one (ps_ret (pe_and (pe_B (id := "isinstance") call_isi T.b_isinstance (pa_cons (pv 0) (pa_cons (pe_ty "bool" T.b_bool) pa_nil))) (pe_one (pe_cmpR op_eq (pv 0) (pv 1) (nomark _)))))), ?_⟩
    refine ⟨_, rfl, _, _, _, _, _, rfl, .ty _, .base (.bl _), kit_ty (r := true) (by decide +kernel), _, rfl, iteT ?_⟩
    refine ⟨_, rfl, _, rfl, rfl, ?_⟩
    rw [dec_bl]
    exact q
end
end An
end
section
set_option Elab.async false
set_option maxRecDepth 100000
set_option maxHeartbeats 4000000
set_option linter.all false
/-! The draws. -/
namespace An
open PySem L2
/-- the row from which is drawn -/
def RowAt (K : PySem.W.Frag) (H : Hp) (r sc : Addr) : Prop := ∃ (ns : List Int) (a : Nat) (b c : Int), sc ≠ r ∧ SqL K H sc (ns.map V.int) ∧ H r = some (.lst [.ref sc, vN a, .int b, .int c]) ∧ 0 ≤ b ∧ b < 2147483647
theorem sameX_refl (r : Addr) (H : Hp) : SameX r H H := fun _ _ _ h => h
theorem SameX.trans {r : Addr} {H H1 H2 : Hp} (a : SameX r H H1) (b : SameX r H1 H2) : SameX r H H2 := fun c o n h => b c o n (a c o n h)
theorem sameX_of {r : Addr} {H H1 : Hp} (s : Same H H1) : SameX r H H1 := fun c o _ h => s c o h
theorem sameX_at {r : Addr} {H : Hp} {o : HO} : SameX r H (upd H r o) := fun c u n h => by rw [upd_ne n]; exact h
theorem l_sameX {K : PySem.W.Frag} {r a : Addr} {H H1 : Hp} {xs : List V} (s : SameX r H H1) (n : a ≠ r) (h : SqL K H a xs) : SqL K H1 a xs := by
  rcases h with (h | ⟨o, h⟩) | h
  · exact .inl (.inl (s _ _ n h))
  · exact .inl (.inr ⟨o, s _ _ n h⟩)
  · exact .inr h
theorem rowAt_same {K : PySem.W.Frag} {H H1 : Hp} {r sc : Addr} (s : Same H H1) (h : RowAt K H r sc) : RowAt K H1 r sc := by
  obtain ⟨ns, a, b, c, h1, h2, h3, h4, h5⟩ := h
  exact ⟨ns, a, b, c, h1, same_l s h2, s _ _ h3, h4, h5⟩
theorem RowAt.none {K : PySem.W.Frag} {H : Hp} {r p sc : Addr} (h : RowAt K H r sc) (hp : H p = none) : r ≠ p := by
  obtain ⟨ns, a, b, c, h1, h2, h3, h4, h5⟩ := h
  exact ne_of_none h3 hp
/-- the row as it is later, the script as it was -/
theorem rowAt_x {K : PySem.W.Frag} {H H1 H2 : Hp} {r sc : Addr} (h : RowAt K H r sc) (s : SameX r H H2) (h1 : RowAt K H1 r sc) (e : H2 r = H1 r) : RowAt K H2 r sc := by
  obtain ⟨ns, a, b, c, g1, g2, g3, g4, g5⟩ := h
  obtain ⟨_, a', b', c', _, _, k3, k4, k5⟩ := h1
  exact ⟨ns, a', b', c', g1, l_sameX s g1 g2, by rw [e]; exact k3, k4, k5⟩
section
variable {P : Program} {w : World} {K : PySem.W.Frag} {mg : Str → Option Value} {base : Heap}
def sp_law_taken (K : PySem.W.Frag) : Sp := fun vs H Q _ => ∃ (r sc : Addr) (m : Nat), vs = [.ref r, vN m] ∧ 1 ≤ m ∧ m ≤ 1000 ∧ RowAt K H r sc ∧ ∀ H' k, k < m → SameX r H H' → RowAt K H' r sc → Q (vN k) H'
theorem mod_nat (x : Int) {m : Nat} (h : 1 ≤ m) : ∃ k : Nat, k < m ∧ x % (m : Int) = (k : Int) := by
  have h1 := Int.emod_nonneg x (show (m : Int) ≠ 0 by omega)
  have h2 := Int.emod_lt_of_pos x (show (0 : Int) < m by omega)
  exact ⟨(x % (m : Int)).toNat, by omega, by omega⟩
theorem sc_law_taken : FnScope ["_law_row", "_law_many", "_law_cell", "_law_found"] ["_law_row", "_law_many"] (defScope s_law_taken) := ⟨rfl, rfl, rfl, by decide +kernel, rfl, by decide +kernel, by decide +kernel⟩
theorem ok_law_taken (T : Tx K mg) : FnOk P w K mg base CX0 1 T.law_taken.f T.law_taken.fd ["_law_row", "_law_many"] (sp_law_taken K) := by
  have sc := sc_law_taken
  refine T.law_taken.F.ok sc (fun vs H Q E h => ?_) (fun cdv A outer s H vs Q E hr h => ?_)
  · obtain ⟨_, _, _, rfl, _⟩ := h; rfl
  · obtain ⟨r, sa, m, rfl, h1, h2, ⟨ns, a, b, c, hne, hs, hrow, hb0, hb1⟩, q⟩ := h
    refine ⟨_, (pss_cons (ps_if (pt_cmpR op_gt (pe_ix ix_list (pv 0) pe_int (fun _ _ => rfl)) pe_int (nomark _))
        (pss_cons (ps_set (i := 3) sc.nd rfl (Or.inl rfl) (pe_op op_mod (pe_T (T := "int") call_int1 T.b_int (pa_cons (pe_ix ix_list (pv 0) pe_int (fun _ _ => rfl)) pa_nil)) (pv 1)))
        (pss_cons (ps_asg (pe_op op_fdiv (pe_ix ix_list (pv 0) pe_int (fun _ _ => rfl)) (pv 1)) (pg_sub (pv 0) pe_int set_list))
        (pss_one (ps_ret (pv 3)))))
        pss_nil)
      (pss_cons (ps_asg (pe_op op_add (pe_ix ix_list (pv 0) pe_int (fun _ _ => rfl)) pe_int) (pg_sub (pv 0) pe_int set_list))
      (pss_cons (ps_if (pt_cmpR op_gt (pe_ix ix_list (pv 0) pe_int (fun _ _ => rfl)) (pe_B (id := "len") call_len_seq T.b_len (pa_cons (pe_ix ix_list (pv 0) pe_int (fun _ _ => rfl)) pa_nil)) (nomark _))
        (pss_cons (ps_asg (pe_op op_mod (pe_T (T := "int") call_int1 T.b_int (pa_cons (pe_op op_add (pe_op op_mul (pe_ix ix_list (pv 0) pe_int (fun _ _ => rfl)) pe_int) pe_int) pa_nil)) pe_int) (pg_sub (pv 0) pe_int set_list))
        (pss_one (ps_ret (pe_op op_mod (pe_T (T := "int") call_int1 T.b_int (pa_cons (pe_op op_fdiv (pe_ix ix_list (pv 0) pe_int (fun _ _ => rfl)) pe_int) pa_nil)) (pv 1)))))
        pss_nil)
      (pss_cons (ps_set (i := 2) sc.nd rfl (Or.inl rfl) (pe_ix ix_list (pe_ix ix_list (pv 0) pe_int (fun _ _ => rfl)) (pe_op op_sub (pe_ix ix_list (pv 0) pe_int (fun _ _ => rfl)) pe_int) (fun _ _ => rfl)))
      (pss_cons (ps_asg (pe_op op_mod (pe_T (T := "int") call_int1 T.b_int (pa_cons (pe_op op_add (pe_op op_add (pe_op op_mul (pe_ix ix_list (pv 0) pe_int (fun _ _ => rfl)) pe_int) (pv 2)) pe_int) pa_nil)) pe_int) (pg_sub (pv 0) pe_int set_list))
      (pss_cons (ps_if (pt_cmpR op_ge (pv 2) (pe_op op_pow pe_int pe_int) (nomark _))
        (pss_one (ps_asg (pe_op op_fdiv (pv 2) (pv 1)) (pg_sub (pv 0) pe_int set_list)))
        pss_nil)
      (pss_one (ps_ret (pe_op op_mod (pe_T (T := "int") call_int1 T.b_int (pa_cons (pv 2) pa_nil)) (pv 1)))))))))), ?_⟩
    refine ⟨_, rfl, r, _, 3, _, rfl, rfl, SqL.of hrow, rfl, _, _, rfl, rfl, _, rfl, ?_⟩
    have hm0 : (0 : Int) < (m : Int) := by omega
    have hmd : (0 : Int) < (m : Int) ∧ (m : Int) < 1073741824 := ⟨by omega, by omega⟩
    have q' : ∀ H' (x : Int), SameX r H H' → RowAt K H' r sa → Q (.int (x % (m : Int))) H' := fun H' x s d => by
      obtain ⟨k, hk, ek⟩ := mod_nat x h1
      have := q H' k hk s d
      rw [ek]
      exact this
    by_cases hc : (0 : Int) < c
    · rw [decide_eq_true hc]
      refine iteT ⟨_, rfl, r, _, 3, _, rfl, rfl, SqL.of hrow, rfl, .inl ⟨_, rfl, _, rfl, _, _, rfl, rfl, hm0, ?_⟩⟩
      refine ⟨_, rfl, r, _, 3, _, rfl, rfl, SqL.of hrow, rfl, _, rfl, _, _, rfl, rfl, hmd, _, rfl, r, _, 3, 3, rfl, rfl, hrow, rfl, _, rfl, ?_⟩
      exact q' _ _ sameX_at ⟨ns, a, b, c / (m : Int), hne, l_sameX sameX_at hne hs, upd_same, hb0, hb1⟩
    · rw [decide_eq_false hc]
      refine iteF ⟨_, rfl, r, _, 1, _, rfl, rfl, SqL.of hrow, rfl, _, _, rfl, rfl, _, rfl, r, _, 1, 1, rfl, rfl, hrow, rfl, ?_⟩
      have hr1 : (upd H r (.lst [.ref sa, V.int ((a : Int) + 1), .int b, .int c])) r = some (.lst [.ref sa, V.int ((a : Int) + 1), .int b, .int c]) := upd_same
      have hs1 := l_sameX (sameX_at (o := .lst [.ref sa, V.int ((a : Int) + 1), .int b, .int c])) hne hs
      have x1 : SameX r H (upd H r (.lst [.ref sa, V.int ((a : Int) + 1), .int b, .int c])) := sameX_at
      show _
      dsimp only [List.set]
      generalize upd H r (.lst [.ref sa, V.int ((a : Int) + 1), .int b, .int c]) = H1 at hr1 hs1 x1
      refine ⟨_, rfl, r, _, 1, _, rfl, rfl, SqL.of hr1, rfl, _, rfl, r, _, 0, _, rfl, rfl, SqL.of hr1, rfl, sa, _, rfl, .inl hs1, _, _, rfl, rfl, _, rfl, ?_⟩
      have hbm : CMul b 48271 := .inl ⟨by omega, by omega⟩
      by_cases hlen : ((ns.map V.int).length : Int) < (a : Int) + 1
      · rw [decide_eq_true hlen]
        refine iteT ⟨_, rfl, r, _, 2, _, rfl, rfl, SqL.of hr1, rfl, _, _, rfl, rfl, hbm, _, _, rfl, rfl, .inl ⟨_, rfl, _, _, rfl, rfl, (by show (0 : Int) < 2147483647; decide), _, rfl, r, _, 2, 2, rfl, rfl, hr1, rfl, ?_⟩⟩
        dsimp only [List.set]
        generalize hb' : (b * 48271 + 11) % 2147483647 = b'
        have hb2 : 0 ≤ b' ∧ b' < 2147483647 := by rw [← hb']; exact ⟨Int.emod_nonneg _ (by decide), Int.emod_lt_of_pos _ (by decide)⟩
        refine ⟨_, rfl, r, _, 2, _, rfl, rfl, SqL.of upd_same, rfl, _, _, rfl, rfl, ⟨by decide, by decide⟩, .inl ⟨_, rfl, _, rfl, _, _, rfl, rfl, hm0, ?_⟩⟩
        exact q' _ _ (x1.trans sameX_at) ⟨ns, a + 1, b', c, hne, l_sameX sameX_at hne hs1, upd_same, hb2.1, hb2.2⟩
      · rw [decide_eq_false hlen]
        rw [List.length_map] at hlen
        have han : a < ns.length := by omega
        have hcell : atI (ns.map V.int) ((a : Int) + 1 - 1) = some (.int ns[a]) := by
          rw [show ((a : Int) + 1 - 1) = (a : Int) by omega]
          exact atI_nat (by rw [List.getElem?_map, List.getElem?_eq_getElem han]; rfl)
        refine iteF ⟨_, rfl, r, _, 0, _, rfl, rfl, SqL.of hr1, rfl, _, rfl, r, _, 1, _, rfl, rfl, SqL.of hr1, rfl, _, _, rfl, rfl, sa, _, _, _, rfl, rfl, hs1, hcell, ?_⟩
        generalize ns[a] = cell
        refine ⟨_, rfl, r, _, 2, _, rfl, rfl, SqL.of hr1, rfl, _, _, rfl, rfl, hbm, _, rfl, _, _, rfl, rfl, _, _, rfl, rfl, .inl ⟨_, rfl, _, _, rfl, rfl, (by show (0 : Int) < 2147483647; decide), _, rfl, r, _, 2, 2, rfl, rfl, hr1, rfl, ?_⟩⟩
        dsimp only [List.set]
        generalize hb' : (b * 48271 + cell + 11) % 2147483647 = b'
        have hb2 : 0 ≤ b' ∧ b' < 2147483647 := by rw [← hb']; exact ⟨Int.emod_nonneg _ (by decide), Int.emod_lt_of_pos _ (by decide)⟩
        have hr2 : (upd H1 r (.lst [.ref sa, V.int ((a : Int) + 1), .int b', .int c])) r = some (.lst [.ref sa, V.int ((a : Int) + 1), .int b', .int c]) := upd_same
        have hs2 := l_sameX (sameX_at (o := .lst [.ref sa, V.int ((a : Int) + 1), .int b', .int c])) hne hs1
        have x2 := x1.trans (sameX_at (o := .lst [.ref sa, V.int ((a : Int) + 1), .int b', .int c]))
        generalize upd H1 r (.lst [.ref sa, V.int ((a : Int) + 1), .int b', .int c]) = H2 at hr2 hs2 x2
        refine ⟨_, rfl, _, _, rfl, rfl, ⟨by decide, by decide, by decide⟩, _, _, rfl, rfl, _, rfl, ?_⟩
        by_cases hbig : (10 : Int) ^ (18 : Int).toNat ≤ cell
        · rw [decide_eq_true hbig]
          refine iteT ⟨_, rfl, _, rfl, _, _, rfl, rfl, hmd, _, rfl, r, _, 3, 3, rfl, rfl, hr2, rfl, ?_⟩
          refine ⟨_, rfl, .inl ⟨_, rfl, _, rfl, _, _, rfl, rfl, hm0, ?_⟩⟩
          exact q' _ _ (x2.trans sameX_at) ⟨ns, a + 1, b', cell / (m : Int), hne, l_sameX sameX_at hne hs2, upd_same, hb2.1, hb2.2⟩
        · rw [decide_eq_false hbig]
          refine iteF ⟨_, rfl, .inl ⟨_, rfl, _, rfl, _, _, rfl, rfl, hm0, ?_⟩⟩
          exact q' _ _ x2 ⟨ns, a + 1, b', c, hne, hs2, hr2, hb2.1, hb2.2⟩
end
end An
end
section
set_option Elab.async false
set_option maxRecDepth 100000
set_option maxHeartbeats 4000000
set_option linter.all false
/-! pick, two, text. -/
namespace An
open PySem L2
def rListTxt : List V → Hp → VK → Prop := fun xs H Q => ∃ z : Str, xs = [.str z] ∧ z.cps.size ≤ sizeLine ∧ ∀ l, H l = none → Q (.ref l) (upd H l (.lst (z.cps.toList.map fun c => V.str ⟨#[c]⟩)))
/-- list(a text) -/
theorem call_listTxt {X : Cx} (calm : X.calm = true) : CallR X (.type "list") rListTxt := by
  intro pins s σ H xs us Q I r h
  obtain ⟨z, rfl, hz, q⟩ := h
  obtain ⟨u, rfl, t, rfl⟩ := vals1 r
  refine PySem.call_list_str (I.ok.hd calm) z t (fun h' tk acc c kp e it => ?_) hz
  have rel : ∀ (cs : List Nat) (vs : List Value), vs.length = cs.length → (∀ (i : Nat) v, vs[i]? = some v → ∃ c u, cs[i]? = some c ∧ v = .str ⟨#[c]⟩ u) → Vals (cs.map fun c => V.str ⟨#[c]⟩) vs := by
    intro cs
    induction cs with
    | nil => intro vs hl _; cases vs with
      | nil => exact .nil
      | cons _ _ => simp at hl
    | cons c cs ih =>
      intro vs hl h
      cases vs with
      | nil => simp at hl
      | cons v vs =>
        obtain ⟨c', u, e1, e2⟩ := h 0 v rfl
        simp at e1
        subst e1
        exact .cons ⟨u, e2⟩ (ih vs (by simpa using hl) fun i v hv => by simpa using h (i + 1) v (by simpa using hv))
  have rv : Vals (z.cps.toList.map fun c => V.str ⟨#[c]⟩) acc.toList := rel _ _ (by simpa using it.1) fun i v hv => by
    obtain ⟨c, u, e1, e2⟩ := it.2 i v (by rw [← Array.getElem?_toList]; exact hv)
    exact ⟨c, u, by rw [Array.getElem?_toList]; exact e1, e2⟩
  exact ⟨.ref s.heap.objs.size, _, I.laid (t' := tk) kp (Nat.le_refl _) (show ObjOk X.prog X.w _ h' _ (.lst _) from ⟨by rw [List.length_map, Array.length_toList]; exact hz, acc.toList, c, rv, e⟩), rfl, q _ (I.hok.fresh (Nat.le_refl _))⟩
section
variable {P : Program} {w : World} {K : PySem.W.Frag} {mg : Str → Option Value} {base : Heap}
def sp_law_pick (K : PySem.W.Frag) : Sp := fun vs H Q _ => ∃ (r sc t : Addr) (xs : List V), vs = [.ref r, .ref t] ∧ RowAt K H r sc ∧ SqL K H t xs ∧ 1 ≤ xs.length ∧ xs.length ≤ 1000 ∧ t ≠ r ∧ ∀ H' x, x ∈ xs → SameX r H H' → RowAt K H' r sc → Q x H'
theorem sc_law_pick : FnScope ["_law_row", "_law_things"] ["_law_row", "_law_things"] (defScope s_law_pick) := ⟨rfl, rfl, rfl, by decide +kernel, rfl, by decide +kernel, by decide +kernel⟩
theorem ok_law_pick (T : Tx K mg) : FnOk P w K mg base CX0 2 T.law_pick.f T.law_pick.fd ["_law_row", "_law_things"] (sp_law_pick K) := by
  have sc := sc_law_pick
  refine T.law_pick.F.ok sc (fun vs H Q E h => ?_) (fun cdv A outer s H vs Q E hr h => ?_)
  · obtain ⟨_, _, _, _, rfl, _⟩ := h; rfl
  · obtain ⟨r, sa, t, xs, rfl, hrow, ht, h1, h2, hne, q⟩ := h
    refine ⟨_, (pss_one (ps_ret (pe_ix ix_list (pv 1) (pe_callD T.law_taken (ok_law_taken T) (hr.mono (by decide)) (pa_cons (pv 0) (pa_cons (pe_B (id := "len") call_len_seq T.b_len (pa_cons (pv 1) pa_nil)) pa_nil))) (fun _ _ => rfl)))), ?_⟩
    refine ⟨_, rfl, _, rfl, _, rfl, t, _, rfl, .inl ht, r, sa, xs.length, rfl, h1, h2, hrow, fun H' k hk s d => ?_⟩
    have hx : xs[k]? = some xs[k] := List.getElem?_eq_getElem hk
    exact ⟨t, xs, k, xs[k], rfl, rfl, l_sameX s hne ht, atI_nat hx, q H' _ (List.getElem_mem hk) s d⟩
def sp_law_two (K : PySem.W.Frag) : Sp := fun vs H Q _ => ∃ (r sc : Addr), vs = [.ref r] ∧ RowAt K H r sc ∧ ∀ H' L, LOk L → SameX r H H' → RowAt K H' r sc → Q (.str (tx L)) H'
theorem sc_law_two : FnScope ["_law_row"] ["_law_row"] (defScope s_law_two) := ⟨rfl, rfl, rfl, by decide +kernel, rfl, by decide +kernel, by decide +kernel⟩
theorem ok_law_two (T : Tx K mg) : FnOk P w K mg base CX0 3 T.law_two.f T.law_two.fd ["_law_row"] (sp_law_two K) := by
  have sc := sc_law_two
  refine T.law_two.F.ok sc (fun vs H Q E h => ?_) (fun cdv A outer s H vs Q E hr h => ?_)
  · obtain ⟨_, _, rfl, _⟩ := h; rfl
  · obtain ⟨r, sa, rfl, hrow, q⟩ := h
    refine ⟨_, (pss_one (ps_ret (pe_callD T.law_pick (ok_law_pick T) (hr.mono (by decide)) (pa_cons (pv 0) (pa_cons (pe_lst (pa_cons pe_str (pa_cons pe_str (pa_cons pe_str (pa_cons pe_str (pa_cons pe_str pa_nil)))))) pa_nil))))), ?_⟩
    refine ⟨_, rfl, by show 5 ≤ sizeLine; exact line8 (by omega), fun l hl => ?_⟩
    have hne := hrow.none hl
    refine ⟨r, sa, l, _, rfl, rowAt_same (same_new hl) hrow, SqL.of upd_same, by decide, by decide, hne.symm, fun H' x hx s d => ?_⟩
    have s2 := (sameX_of (same_new hl)).trans s
    have e1 : (Str.ofString "a" : Str) = tx [97] := by decide +kernel
    have e2 : (Str.ofString "ab" : Str) = tx [97, 98] := by decide +kernel
    have e3 : (Str.ofString "bz" : Str) = tx [98, 122] := by decide +kernel
    simp only [List.mem_cons, List.not_mem_nil, or_false] at hx
    rcases hx with rfl | rfl | rfl | rfl | rfl
    · exact q H' [97] (.inl rfl) s2 d
    · exact q H' [97, 98] (.inr (.inl rfl)) s2 d
    · exact q H' [97, 98] (.inr (.inl rfl)) s2 d
    · exact q H' [97, 98] (.inr (.inl rfl)) s2 d
    · exact q H' [98, 122] (.inr (.inr rfl)) s2 d
theorem join_tx : ∀ cs : List Nat, Str.join (tx []) (cs.map fun c => tx [c]) = tx cs
  | [] => rfl
  | [c] => rfl
  | c :: d :: cs => by
    have ih := join_tx (d :: cs)
    show tx [c] ++ tx [] ++ Str.join (tx []) ((d :: cs).map fun c => tx [c]) = tx (c :: d :: cs)
    rw [ih, tx_app, tx_app]
    rfl
theorem sum_ones : ∀ cs : List Nat, ((cs.map fun c => tx [c]).map (·.length)).sum = cs.length
  | [] => rfl
  | c :: cs => by
    have ih := sum_ones cs
    simp only [List.map_cons, List.sum_cons, List.length_cons]
    rw [ih]
    have : (tx [c]).length = 1 := rfl
    omega
def sp_law_text (K : PySem.W.Frag) : Sp := fun vs H Q _ => ∃ (r sc : Addr) (L : List Nat) (n : Nat), vs = [.ref r, .str (tx L), vN n] ∧ LOk L ∧ n ≤ 10 ∧ RowAt K H r sc ∧ ∀ H' cs, cs.length ≤ n → (∀ c ∈ cs, c ∈ L) → SameX r H H' → RowAt K H' r sc → Q (.str (tx cs)) H'
theorem sc_law_text : FnScope ["_law_row", "_law_letters", "_law_most", "_law_turn"] ["_law_row", "_law_letters", "_law_most"] (defScope s_law_text) := ⟨rfl, rfl, rfl, by decide +kernel, rfl, by decide +kernel, by decide +kernel⟩
theorem ok_law_text (T : Tx K mg) : FnOk P w K mg base CX0 3 T.law_text.f T.law_text.fd ["_law_row", "_law_letters", "_law_most"] (sp_law_text K) := by
  have sc := sc_law_text
  refine T.law_text.F.ok sc (fun vs H Q E h => ?_) (fun cdv A outer s H vs Q E hr h => ?_)
  · obtain ⟨_, _, _, _, rfl, _⟩ := h; rfl
  · obtain ⟨r, sa, L, n, rfl, hL, hn, hrow, q⟩ := h
    refine ⟨_, (pss_one (ps_ret (pe_bm PySem.F.plainAttrs_str PySem.F.slot_str_join PySem.F.type_str_join mt_join pe_str (pa_cons (pe_lc (own := [("_law_turn", 3)]) rfl sc.nd (pi_range1 rfl T.b_range (pa_cons (pe_callD T.law_taken (ok_law_taken T) (hr.mono (by decide)) (pa_cons (pv 0) (pa_cons (pe_op op_add (pv 2) pe_int) pa_nil))) pa_nil)) (blkOk_by (N := ["_law_row", "_law_letters", "_law_most", "_law_turn"]) (sc := defScope s_law_text) (by decide +kernel)) (fun _ _ _ _ _ => (pg_name (i := 3) (x := "_law_turn") sc.nd rfl (Or.inl rfl) (hf := Or.inr rfl))) (fun _ _ _ _ _ => pts_nil) (fun _ _ _ _ _ => (pe_callD T.law_pick (ok_law_pick T) (hr.mono (by decide)) (pa_cons (pv 0) (pa_cons (pe_T (T := "list") (r := rListTxt) (call_listTxt rfl) T.b_list (pa_cons (pv 1) pa_nil)) pa_nil))))) pa_nil)))), ?_⟩
    refine ⟨rfl, _, rfl, _, rfl, _, _, rfl, rfl, r, sa, n + 1, rfl, by omega, by omega, hrow, fun H1 k hk s1 d1 => ?_⟩
    have hLl := hL.le
    have hLp := hL.pos
    refine ⟨_, rfl, by omega, by omega, fun D hD => ?_⟩
    have hrD := d1.none hD
    refine lc_it (walk_range (n := k)) (fun i H' => ∃ cs : List Nat, SameX r H1 H' ∧ RowAt K H' r sa ∧ H' D = some (.lst ((cs.map fun c => tx [c]).map V.str)) ∧ cs.length = i ∧ ∀ c ∈ cs, c ∈ L) ⟨[], sameX_new (sameX_refl _ _) hD, rowAt_same (same_new hD) d1, upd_same, rfl, by simp⟩ (fun _ _ _ _ => trivial) ?_ ?_
    · rintro i x H2 H3 hi ⟨cs, s2, d2, e2, hl, hc⟩ ⟨rfl, rfl⟩
      refine ⟨rfl, yes_if ?_⟩
      refine ⟨_, rfl, _, rfl, tx L, rfl, by rw [tx_size]; exact line8 (by omega), fun l hl2 => ?_⟩
      have hne := d2.none hl2
      have e3 := (same_new (o := .lst ((tx L).cps.toList.map fun c => V.str ⟨#[c]⟩)) hl2) _ _ e2
      refine ⟨r, sa, l, _, rfl, rowAt_same (same_new hl2) d2, SqL.of upd_same, by rw [List.length_map, tx_list]; omega, by rw [List.length_map, tx_list]; omega, hne.symm, fun H4 y hy s4 d4 => ?_⟩
      rw [tx_list] at hy
      obtain ⟨c, hcL, rfl⟩ := List.mem_map.mp hy
      have e4 := s4 _ _ hrD.symm e3
      have sD := sameX_upd (o := .lst ((cs.map fun c => tx [c]).map V.str ++ [V.str ⟨#[c]⟩])) ((s2.trans (sameX_of (same_new hl2))).trans s4) hD
      refine ⟨_, e4, by rw [List.length_map, List.length_map]; exact line9 (by omega), cs ++ [c], sD, rowAt_x d1 sD d4 (upd_ne hrD), by rw [upd_same, List.map_append, List.map_append]; rfl, by simp [hl], fun c' hc' => ?_⟩
      · rcases List.mem_append.mp hc' with h | h
        · exact hc c' h
        · simp at h; subst h; exact hcL
    · rintro H2 ⟨cs, s2, d2, e2, hl, hc⟩
      refine ⟨tx [], D, cs.map fun c => tx [c], rfl, rfl, .inl (SqL.of e2), ?_, ?_⟩
      · have e0 : (tx []).length = 0 := rfl
        rw [e0]
        rw [sum_ones]
        omega
      · have ej : Txt.join (tx []) (cs.map fun c => tx [c]) = tx cs := (TL.join_eq _ _).trans (join_tx cs)
        rw [ej]
        exact q _ cs (by omega) hc (s1.trans s2) d2
end
end An
end
section
set_option Elab.async false
set_option maxRecDepth 100000
set_option maxHeartbeats 4000000
set_option linter.all false
/-! A reader drawn. -/
namespace An
open PySem L2
section
variable {P : Program} {w : World} {K : PySem.W.Frag} {mg : Str → Option Value} {base : Heap}
def sp_law_reader (K : PySem.W.Frag) : Sp := fun vs H Q _ => ∃ (r sc : Addr) (L : List Nat), vs = [.ref r, .str (tx L), vN 3] ∧ LOk L ∧ RowAt K H r sc ∧ ∀ H' v R, RdOk R → R.1 = L → R.2.1.length ≤ 3 → Dp K H' v (rdD R) → SameX r H H' → RowAt K H' r sc → Q v H'
theorem sc_law_reader : FnScope ["_law_row", "_law_letters", "_law_most", "_law_size", "_law_rows", "_law_stand", "_law_sign"] ["_law_row", "_law_letters", "_law_most"] (defScope s_law_reader) := ⟨rfl, rfl, rfl, by decide +kernel, rfl, by decide +kernel, by decide +kernel⟩
theorem ok_law_reader (T : Tx K mg) : FnOk P w K mg base CX0 2 T.law_reader.f T.law_reader.fd ["_law_row", "_law_letters", "_law_most"] (sp_law_reader K) := by
  have sc := sc_law_reader
  refine T.law_reader.F.ok sc (fun vs H Q E h => ?_) (fun cdv A outer s H vs Q E hr h => ?_)
  · obtain ⟨_, _, _, rfl, _⟩ := h; rfl
  · obtain ⟨r, sa, L, rfl, hL, hrow, q⟩ := h
    refine ⟨_, (pss_cons (ps_set (i := 3) sc.nd rfl (Or.inr rfl) (pe_op op_add pe_int (pe_callD T.law_taken (ok_law_taken T) (hr.mono (by decide)) (pa_cons (pv 0) (pa_cons (pv 2) pa_nil)))))
      (pss_cons (ps_setLc (i := 4) (own := [("_law_stand", 5)]) rfl sc.nd rfl rfl (sw_true rfl rfl rfl (by decide +kernel)) (pi_range1 rfl T.b_range (pa_cons (pv 3) pa_nil)) (blkOk_by (N := ["_law_row", "_law_letters", "_law_most", "_law_size", "_law_rows", "_law_stand", "_law_sign"]) (sc := defScope s_law_reader) (by decide +kernel)) (fun _ _ _ _ _ => (pg_name (i := 5) (x := "_law_stand") sc.nd rfl (Or.inl rfl) (hf := Or.inr rfl))) (fun _ _ _ _ _ => pts_nil) (fun _ _ _ _ _ => (pe_T (T := "tuple") (r := rTupOf K) call_tuple_of T.b_tuple (pa_cons (pe_lc (own := [("_law_sign", 6)]) rfl sc.nd (pi_str (pv 1)) (blkOk_re (blkOk_by (N := ["_law_row", "_law_letters", "_law_most", "_law_size", "_law_rows", "_law_stand", "_law_sign"]) (by decide +kernel))) (fun _ _ _ _ _ => (pg_name (i := 6) (x := "_law_sign") sc.nd rfl (Or.inl rfl) (hf := Or.inr rfl))) (fun _ _ _ _ _ => pts_nil) (fun _ _ _ _ _ => (pe_callD T.law_taken (ok_law_taken T) (hr.mono (by decide)) (pa_cons (pv 0) (pa_cons (pv 3) pa_nil))))) pa_nil))))
      (pss_one (ps_ret (pe_tup (pa_cons (pv 1) (pa_cons (pe_T (T := "tuple") call_tuple_of T.b_tuple (pa_cons (pv 4) pa_nil)) (pa_cons (pe_T (T := "tuple") call_tuple_of T.b_tuple (pa_cons (pe_lc (own := [("_law_stand", 5)]) rfl sc.nd (pi_range1 rfl T.b_range (pa_cons (pv 3) pa_nil)) (blkOk_by (N := ["_law_row", "_law_letters", "_law_most", "_law_size", "_law_rows", "_law_stand", "_law_sign"]) (sc := defScope s_law_reader) (by decide +kernel)) (fun _ _ _ _ _ => (pg_name (i := 5) (x := "_law_stand") sc.nd rfl (Or.inl rfl) (hf := Or.inr rfl))) (fun _ _ _ _ _ => pts_nil) (fun _ _ _ _ _ => (pe_cmpR op_eq (pe_callD T.law_taken (ok_law_taken T) (hr.mono (by decide)) (pa_cons (pv 0) (pa_cons pe_int pa_nil))) pe_int (nomark _)))) pa_nil)) pa_nil)))))))), ?_⟩
    have hLl := hL.le
    refine ⟨_, rfl, _, rfl, r, sa, 3, rfl, by omega, by omega, hrow, fun H1 k hk s1 d1 => ⟨_, _, rfl, rfl, ?_⟩⟩
    have en : V.int (1 + (k : Int)) = vN (k + 1) := by rw [Int.add_comm]; rfl
    dsimp only [gName]
    rw [en]
    generalize hm : k + 1 = m
    have hm1 : 1 ≤ m := by omega
    have hm3 : m ≤ 3 := by omega
    refine seq_via (fun σ' H' => ∃ D rs rows, σ' = [some (.ref r), some (.str (tx L)), some (vN 3), some (vN m), some (.ref D), none, none] ∧ SameX r H1 H' ∧ RowAt K H' r sa ∧ H' D = some (.lst (rs.map V.ref)) ∧ Tups H' rs rows ∧ rows.length = m ∧ D ≠ r ∧ ∀ row ∈ rows, row.length = L.length ∧ ∀ x ∈ row, x < m) ?_ fun kk => ?_
    · rintro σ2 H2 ⟨D, rs, rows, rfl, s2, d2, eD, tR, hl, hDr, hro⟩
      refine ⟨_, rfl, _, rfl, D, _, rfl, .inl ⟨SqL.of eD, fun l hl2 => ?_⟩⟩
      have nl := same_new (o := .tup (rs.map V.ref)) hl2
      have d3 := rowAt_same nl d2
      have t3 := tups_same nl tR
      have el : (upd H2 l (.tup (rs.map V.ref))) l = some (.tup (rs.map V.ref)) := upd_same
      have s3 := s2.trans (sameX_of nl)
      have hlr := d2.none hl2
      generalize upd H2 l (.tup (rs.map V.ref)) = H3 at nl d3 t3 el s3
      refine ⟨_, rfl, _, rfl, by omega, by omega, fun D2 hD2 => ?_⟩
      have hrD2 := d3.none hD2
      have notr : ∀ {b : Addr} {xs : List V}, H3 b = some (.tup xs) → b ≠ r := fun h z => by
        obtain ⟨_, _, _, _, _, _, g3, _⟩ := d3
        rw [z, g3] at h
        cases h
      refine lc_it (walk_range (n := m)) (fun i H' => ∃ bs : List Bool, SameX r H3 H' ∧ RowAt K H' r sa ∧ H' D2 = some (.lst (bs.map V.bl)) ∧ bs.length = i) ⟨[], sameX_of (same_new hD2), rowAt_same (same_new hD2) d3, upd_same, rfl⟩ (fun _ _ _ _ => trivial) ?_ ?_
      · rintro i x Hx H4 hi ⟨bs, s4, d4, e4, hb⟩ ⟨rfl, rfl⟩
        refine ⟨rfl, yes_if ?_⟩
        refine ⟨_, rfl, r, sa, 2, rfl, by omega, by omega, d4, fun H5 z hz s5 d5 => ⟨rfl, ?_⟩⟩
        have e5 := s5 _ _ hrD2.symm e4
        have sD := sameX_upd (o := .lst (bs.map V.bl ++ [V.bl (decide (vN z = V.int 0))])) (s4.trans s5) hD2
        exact ⟨_, e5, by rw [List.length_map]; exact line9 (by omega), bs ++ [decide (vN z = V.int 0)], sD, rowAt_x d3 sD d5 (upd_ne hrD2), by rw [upd_same, List.map_append]; rfl, by simp [hb]⟩
      · rintro H4 ⟨bs, s4, d4, e4, hb⟩
        refine ⟨D2, _, rfl, .inl ⟨SqL.of e4, fun l2 hl3 => ⟨by show 3 ≤ sizeLine; exact line8 (by omega), fun t ht => ?_⟩⟩⟩
        have n2 := (same_new (o := .tup (bs.map V.bl)) hl3).trans (same_new (o := .tup [.str (tx L), .ref l, .ref l2]) ht)
        refine q _ _ (L, rows, bs) ⟨hL, by rw [hl]; exact hm1, by rw [hl]; omega, by rw [hb, hl], fun row hrow => ?_⟩ rfl (by rw [hl]; exact hm3) ?_ (s1.trans (s3.trans (s4.trans (sameX_of n2)))) (rowAt_same n2 d4)
        · rw [hl]
          exact hro row hrow
        · refine .tup (SqT.of upd_same) (.cons (.str _) (.cons ?_ (.cons ?_ .nil)))
          · refine .tup (SqT.of (n2 _ _ (s4 _ _ (notr el) el))) (tups_dp ?_)
            exact tups_same n2 ⟨t3.1, fun i a l h1 h2 => s4 _ _ (notr (t3.2 i a l h1 h2)) (t3.2 i a l h1 h2)⟩
          · refine .tup (SqT.of ((same_new ht) _ _ upd_same)) ?_
            exact bools_dpAll bs
    · refine ⟨_, rfl, _, rfl, by omega, by omega, fun D hD => ?_⟩
      have hrD := d1.none hD
      refine lc_it (walk_range (n := m)) (fun i H' => ∃ rs rows, SameX r H1 H' ∧ RowAt K H' r sa ∧ H' D = some (.lst (rs.map V.ref)) ∧ Tups H' rs rows ∧ rows.length = i ∧ ∀ row ∈ rows, row.length = L.length ∧ ∀ x ∈ row, x < m) ⟨[], [], sameX_of (same_new hD), rowAt_same (same_new hD) d1, upd_same, ⟨rfl, fun i a l h1 h2 => by simp at h1⟩, rfl, by simp⟩ (fun _ _ _ _ => trivial) ?_ ?_
      · rintro i x Hx H2 hi ⟨rs, rows, s2, d2, eD, tR, hl, hro⟩ ⟨rfl, rfl⟩
        refine ⟨rfl, yes_if ?_⟩
        refine ⟨_, rfl, _, rfl, fun D2 hD2 => ?_⟩
        have hrD2 := d2.none hD2
        refine lc_it walk_str (fun j H' => ∃ ns : List Nat, SameX r H2 H' ∧ RowAt K H' r sa ∧ H' D2 = some (.lst (ns.map vN)) ∧ ns.length = j ∧ ∀ x ∈ ns, x < m) ⟨[], sameX_of (same_new hD2), rowAt_same (same_new hD2) d2, upd_same, rfl, by simp⟩ (fun _ _ _ _ => trivial) ?_ ?_
        · rintro j y Hy H3 hj ⟨ns, s3, d3, e3, hl3, hn3⟩ ⟨rfl, c, hc, rfl⟩
          refine ⟨rfl, yes_if ?_⟩
          refine ⟨_, rfl, _, rfl, r, sa, m, rfl, hm1, by omega, d3, fun H4 z hz s4 d4 => ?_⟩
          have hjl : j < L.length := by simpa [tx_size] using hj
          have e4 := s4 _ _ hrD2.symm e3
          have sD := sameX_upd (o := .lst (ns.map vN ++ [vN z])) (s3.trans s4) hD2
          refine ⟨_, e4, by rw [List.length_map]; exact line9 (by omega), ns ++ [z], sD, rowAt_x d2 sD d4 (upd_ne hrD2), by rw [upd_same, List.map_append]; rfl, by simp [hl3], fun x hx => ?_⟩
          rcases List.mem_append.mp hx with h | h
          · exact hn3 x h
          · simp at h; subst h; exact hz
        · rintro H3 ⟨ns, s3, d3, e3, hl3, hn3⟩
          rw [tx_size] at hl3
          refine ⟨D2, _, rfl, .inl ⟨SqL.of e3, fun l hl2 => ?_⟩⟩
          have nl := same_new (o := .tup (ns.map vN)) hl2
          have s5 := s3.trans (sameX_of nl)
          have e5 := s5 _ _ hrD.symm eD
          have t5 : Tups (upd H3 l (.tup (ns.map vN))) rs rows := tups_same nl ⟨tR.1, fun i a l h1 h2 => s3 _ _ (fun z => by
            have := tR.2 i a l h1 h2
            obtain ⟨_, _, _, _, _, _, g3, _⟩ := d2
            rw [z, g3] at this
            cases this) (tR.2 i a l h1 h2)⟩
          have sD := sameX_upd (o := .lst (rs.map V.ref ++ [.ref l])) (s2.trans s5) hD
          have hrl := tR.1
          refine ⟨_, e5, by rw [List.length_map]; exact line9 (by omega), rs ++ [l], rows ++ [ns], sD, rowAt_x d1 sD (rowAt_same nl d3) (upd_ne hrD), by rw [upd_same, List.map_append]; rfl, ?_, by simp [hl], fun row hrow => ?_⟩
          · have t6 : Tups (upd (upd H3 l (.tup (ns.map vN))) D (.lst (rs.map V.ref ++ [.ref l]))) rs rows := tups_of (fun b xs hb => by rw [upd_ne (fun z => by rw [z, e5] at hb; cases hb)]; exact hb) t5
            refine tups_snoc t6 ?_
            have hlD : l ≠ D := fun z => by rw [← z] at e5; rw [upd_same] at e5; cases e5
            rw [upd_ne hlD, upd_same]
          · rcases List.mem_append.mp hrow with h | h
            · exact hro row h
            · simp at h; subst h; exact ⟨hl3, hn3⟩
      · rintro H2 ⟨rs, rows, s2, d2, eD, tR, hl, hro⟩
        exact kk _ _ ⟨D, rs, rows, rfl, s2, d2, eD, tR, hl, hrD.symm, hro⟩
end
end An
end
section
set_option Elab.async false
set_option maxRecDepth 100000
set_option maxHeartbeats 4000000
set_option linter.all false
/-! Kinds drawn. -/
namespace An
open PySem L2
theorem units65 {k : Nat} {A : Around} (r : Room k A) : A.units + 65 < cLine := by have := r.un; omega
theorem strOk_tx {cs : List Nat} (h : ∀ c ∈ cs, c < 1000) : PyData.strOk (tx cs) = true := by
  unfold PyData.strOk tx
  rw [← Array.all_toList]
  simp only [List.all_eq_true]
  intro c hc
  have := h c (by simpa using hc)
  exact decide_eq_true (by omega)
theorem LOk.small2 {L : List Nat} (h : LOk L) : ∀ c ∈ L, c < 1000 := by rcases h with rfl | rfl | rfl <;> decide
def KGood (L : List Nat) (k : Kd) : Prop := k.1.length ≤ 3 ∧ (∀ c ∈ k.1, c ∈ L) ∧ (∀ c, k.2 = some c → c ∈ L) ∧ k.1 ≠ k.2.toList
theorem kD_canLay {L : List Nat} (hL : LOk L) {k : Kd} (h1 : ∀ c ∈ k.1, c ∈ L) (h2 : ∀ c, k.2 = some c → c ∈ L) : PyData.canLay0 (kD k) = true := by
  have a1 := strOk_tx fun c hc => hL.small2 c (h1 c hc)
  have a2 := strOk_tx (cs := k.2.toList) fun c hc => hL.small2 c (h2 c (by simpa using hc))
  simp [kD, tD, PyData.canLay0, PyData.canLayAll0, a1, a2]
theorem kD_depth (k : Kd) : PyData.depth (kD k) = 1 := by simp [kD, tD, PyData.depth, PyData.depthAll]
theorem kD_shaped {L : List Nat} (hL : LOk L) {k : Kd} (h1 : ∀ c ∈ k.1, c ∈ L) (h2 : ∀ c, k.2 = some c → c ∈ L) : SeqAt.shaped (kD k) = true := by
  unfold SeqAt.shaped
  rw [kD_canLay hL h1 h2, kD_depth]
  rfl
theorem ksL_shaped {L : List Nat} (hL : LOk L) {ks : List Kd} (h : ∀ k ∈ ks, KGood L k) : SeqAt.shaped (.list (ks.map kD)) = true := by
  have c : ∀ ks : List Kd, (∀ k ∈ ks, KGood L k) → PyData.canLayAll0 (ks.map kD) = true := by
    intro ks
    induction ks with
    | nil => intro _; rfl
    | cons k ks ih =>
      intro h
      have hk := h k (by simp)
      simp [PyData.canLayAll0, kD_canLay hL hk.2.1 hk.2.2.1, ih fun k' h' => h k' (by simp [h'])]
  have d : ∀ ks : List Kd, PyData.depthAll (ks.map kD) ≤ 1 := by
    intro ks
    induction ks with
    | nil => simp [PyData.depthAll]
    | cons k ks ih => simp only [List.map_cons, PyData.depthAll, kD_depth]; omega
  unfold SeqAt.shaped
  have e1 : PyData.canLay0 (.list (ks.map kD)) = true := by simp only [PyData.canLay0]; exact c ks h
  have e2 : PyData.depth (.list (ks.map kD)) ≤ 64 := by have := d ks; simp only [PyData.depth]; omega
  rw [e1, decide_eq_true e2]
  rfl
theorem kD_self (k : Kd) : PyData.eqv (kD k) (kD k) = true := by simp [kD, tD, PyData.eqv, PyData.eqvAll]
/-- kinds at some addresses -/
def KT (H : Hp) (as : List Addr) (ks : List Kd) : Prop := as.length = ks.length ∧ ∀ (i : Nat) a k, as[i]? = some a → ks[i]? = some k → H a = some (.tup [.str (tx k.1), .str (tx k.2.toList)])
theorem kt_of {H H' : Hp} {as : List Addr} {ks : List Kd} (s : ∀ a xs, H a = some (.tup xs) → H' a = some (.tup xs)) (h : KT H as ks) : KT H' as ks := ⟨h.1, fun i a k h1 h2 => s _ _ (h.2 i a k h1 h2)⟩
theorem kt_dp {K : PySem.W.Frag} {H : Hp} {as : List Addr} {ks : List Kd} (h : KT H as ks) : DpAll K H (as.map V.ref) (ks.map kD) := by
  refine dpAll_of (by simp [h.1]) fun i x d hx hd => ?_
  rw [List.getElem?_map] at hx hd
  cases h1 : as[i]? with
  | none => rw [h1] at hx; cases hx
  | some a =>
    cases h2 : ks[i]? with
    | none => rw [h2] at hd; cases hd
    | some l =>
      rw [h1] at hx
      rw [h2] at hd
      cases hx
      cases hd
      exact .tup (SqT.of (h.2 i a l h1 h2)) (.cons (.str _) (.cons (.str _) .nil))
theorem kt_snoc {H : Hp} {as : List Addr} {ks : List Kd} {a : Addr} {k : Kd} (h : KT H as ks) (e : H a = some (.tup [.str (tx k.1), .str (tx k.2.toList)])) : KT H (as ++ [a]) (ks ++ [k]) := by
  refine ⟨by simp [h.1], fun i b m h1 h2 => ?_⟩
  by_cases hi : i < as.length
  · rw [List.getElem?_append_left hi] at h1
    rw [List.getElem?_append_left (by rw [← h.1]; exact hi)] at h2
    exact h.2 i b m h1 h2
  · have hi2 : i = as.length := by
      have := (List.getElem?_eq_some_iff.mp h1).1
      simp at this
      omega
    subst hi2
    rw [List.getElem?_append_right (Nat.le_refl _)] at h1
    rw [List.getElem?_append_right (by rw [h.1]; exact Nat.le_refl _)] at h2
    simp at h1
    simp [h.1] at h2
    subst h1 h2
    exact e
section
variable {P : Program} {w : World} {K : PySem.W.Frag} {mg : Str → Option Value} {base : Heap}
theorem RowAt.tup {H H' : Hp} {r sa : Addr} (h : RowAt K H r sa) (s : SameX r H H') : ∀ a xs, H a = some (.tup xs) → H' a = some (.tup xs) := fun a xs e => s _ _ (fun z => by
  obtain ⟨_, _, _, _, _, _, g3, _⟩ := h
  rw [z, g3] at e
  cases e) e
def sp_law_kinds (K : PySem.W.Frag) : Sp := fun vs H Q _ => ∃ (r sc : Addr) (L : List Nat), vs = [.ref r, .str (tx L), vN 3] ∧ LOk L ∧ RowAt K H r sc ∧ ∀ H' v ks, KsOk L ks → Dp K H' v (ksD ks) → SameX r H H' → RowAt K H' r sc → Q v H'
theorem sc_law_kinds : FnScope ["_law_row", "_law_letters", "_law_most", "_law_found", "_law_turn", "_law_kind"] ["_law_row", "_law_letters", "_law_most"] (defScope s_law_kinds) := ⟨rfl, rfl, rfl, by decide +kernel, rfl, by decide +kernel, by decide +kernel⟩
theorem ok_law_kinds (T : Tx K mg) : FnOk P w K mg base CX0 4 T.law_kinds.f T.law_kinds.fd ["_law_row", "_law_letters", "_law_most"] (sp_law_kinds K) := by
  have sc := sc_law_kinds
  refine T.law_kinds.F.ok sc (fun vs H Q E h => ?_) (fun cdv A outer s H vs Q E hr h => ?_)
  · obtain ⟨_, _, _, rfl, _⟩ := h; rfl
  · obtain ⟨r, sa, L, rfl, hL, hrow, q⟩ := h
    refine ⟨_, (pss_cons (ps_set (i := 3) sc.nd rfl (Or.inl rfl) (pe_lst pa_nil))
      (pss_cons (ps_for PassesOwn.never rfl (pi_range1 rfl T.b_range (pa_cons (pe_callD T.law_taken (ok_law_taken T) (hr.mono (by decide)) (pa_cons (pv 0) (pa_cons (pe_op op_add (pv 2) pe_int) pa_nil))) pa_nil)) (pg_name (i := 4) (x := "_law_turn") sc.nd rfl (Or.inl rfl))
        (pss_cons (ps_set (i := 5) sc.nd rfl (Or.inl rfl) (pe_tup (pa_cons (pe_callD T.law_text (ok_law_text T) (hr.mono (by decide)) (pa_cons (pv 0) (pa_cons (pv 1) (pa_cons (pe_callD T.law_pick (ok_law_pick T) (hr.mono (by decide)) (pa_cons (pv 0) (pa_cons (pe_lst (pa_cons pe_int (pa_cons pe_int (pa_cons pe_int (pa_cons pe_int (pa_cons pe_int pa_nil)))))) pa_nil))) pa_nil)))) (pa_cons (pe_callD T.law_text (ok_law_text T) (hr.mono (by decide)) (pa_cons (pv 0) (pa_cons (pv 1) (pa_cons pe_int pa_nil)))) pa_nil))))
        (pss_one (ps_if (PW.pt (pw_and (pt_cmpR op_ne (pe_ix ix_tup (pv 5) pe_int (fun _ _ => rfl)) (pe_ix ix_tup (pv 5) pe_int (fun _ _ => rfl)) (nomark _)) (pw_and1 (pt_cmpR (op_notInD (units65 hr)) (pv 5) (pv 3) rfl))))
          (pss_one (ps_expr (pe_bm PySem.F.plainAttrs_list PySem.F.slot_list_append PySem.F.type_list_append mt_append (pv 3) (pa_cons (pv 5) pa_nil))))
          pss_nil))))
      (pss_one (ps_ret (pe_T (T := "tuple") call_tuple_of T.b_tuple (pa_cons (pv 3) pa_nil)))))), ?_⟩
    refine ⟨by show 0 ≤ sizeLine; exact line8 (by omega), fun F hF => ?_⟩
    have hrF := hrow.none hF
    have n1 := same_new (o := .lst []) hF
    refine ⟨_, rfl, _, rfl, _, _, rfl, rfl, r, sa, 4, rfl, by omega, by omega, rowAt_same n1 hrow, fun H1 k hk s1 d1 => ?_⟩
    have x1 := (sameX_of n1).trans s1
    refine ⟨_, rfl, by omega, by omega, ?_⟩
    refine for_it (walk_range (n := k)) (fun i σ' H' => ∃ as ks o4 o5, σ' = [some (.ref r), some (.str (tx L)), some (vN 3), some (.ref F), o4, o5] ∧ SameX r H H' ∧ RowAt K H' r sa ∧ H' F = some (.lst (as.map V.ref)) ∧ KT H' as ks ∧ ks.length ≤ i ∧ ks.Nodup ∧ ∀ k ∈ ks, KGood L k) ⟨[], [], _, _, rfl, x1, d1, s1 _ _ hrF.symm upd_same, ⟨rfl, fun i a l h1 h2 => by simp at h1⟩, by simp, by simp, by simp⟩ (fun _ _ _ _ _ => trivial) ?_ ?_
    · rintro i y σ' Hx H2 hi ⟨as, ks, o4, o5, rfl, x2, d2, eF, tK, hlk, hnd, hg⟩ ⟨rfl, rfl⟩
      refine ⟨_, rfl, _, rfl, _, rfl, by show 5 ≤ sizeLine; exact line8 (by omega), fun l hl => ?_⟩
      have n2 := same_new (o := .lst [V.int 1, V.int 1, V.int 2, V.int 2, V.int 3]) hl
      have hrl := d2.none hl
      refine ⟨r, sa, l, _, rfl, rowAt_same n2 d2, SqL.of upd_same, by decide, by decide, hrl.symm, fun H3 z hz s3 d3 => ?_⟩
      obtain ⟨nn, hnn, rfl⟩ : ∃ nn : Nat, nn ≤ 3 ∧ z = vN nn := by
        simp only [List.mem_cons, List.not_mem_nil, or_false] at hz
        rcases hz with rfl | rfl | rfl | rfl | rfl
        · exact ⟨1, by omega, rfl⟩
        · exact ⟨1, by omega, rfl⟩
        · exact ⟨2, by omega, rfl⟩
        · exact ⟨2, by omega, rfl⟩
        · exact ⟨3, by omega, rfl⟩
      refine ⟨r, sa, L, nn, rfl, hL, by omega, d3, fun H4 c1 hc1 hm1 s4 d4 => ?_⟩
      refine ⟨_, rfl, _, rfl, r, sa, L, 1, rfl, hL, by omega, d4, fun H5 c2 hc2 hm2 s5 d5 => ⟨by show 2 ≤ sizeLine; exact line8 (by omega), fun t ht => ?_⟩⟩
      obtain ⟨o2, ho2⟩ : ∃ o2 : Option Nat, c2 = o2.toList := by
        cases c2 with
        | nil => exact ⟨none, rfl⟩
        | cons c c2 =>
          cases c2 with
          | nil => exact ⟨some c, rfl⟩
          | cons _ _ => simp at hc2
      subst ho2
      have x25 : SameX r H2 H5 := (sameX_of n2).trans (s3.trans (s4.trans s5))
      have n6 := same_new (o := .tup [.str (tx c1), .str (tx o2.toList)]) ht
      have x6 := x25.trans (sameX_of n6)
      have eF6 := x6 _ _ hrF.symm eF
      have t6 := kt_of (d2.tup x6) tK
      have et : (upd H5 t (.tup [.str (tx c1), .str (tx o2.toList)])) t = some (.tup [.str (tx c1), .str (tx o2.toList)]) := upd_same
      have d6 := rowAt_same n6 d5
      generalize upd H5 t (.tup [.str (tx c1), .str (tx o2.toList)]) = H6 at n6 x6 eF6 t6 et d6
      have kl := tK.1
      dsimp only [gName]
      refine ⟨_, rfl, t, _, 0, _, rfl, rfl, SqT.of et, rfl, _, rfl, t, _, 1, _, rfl, rfl, SqT.of et, rfl, rfl, _, rfl, ?_⟩
      rw [dec_str, tx_eq]
      by_cases hne : c1 = o2.toList
      · rw [decide_eq_true hne]
        refine iteF (iteF ?_)
        exact ⟨as, ks, _, _, rfl, x2.trans x6, d6, eF6, t6, by omega, hnd, hg⟩
      · rw [decide_eq_false hne]
        refine iteT ⟨_, rfl, _, rfl, kD (c1, o2), ks.map kD, .tup (SqT.of et) (.cons (.str _) (.cons (.str _) .nil)), .lst (SqL.of eF6) (kt_dp t6), kD_shaped hL hm1 (fun c hc => hm2 c (by have h : o2 = some c := hc; rw [h]; simp)), ksL_shaped hL hg, _, rfl, ?_⟩
        cases hany : (ks.map kD).any fun z => PyData.eqv z (kD (c1, o2)) with
        | true => exact iteF ⟨as, ks, _, _, rfl, x2.trans x6, d6, eF6, t6, by omega, hnd, hg⟩
        | false =>
          refine iteT ?_
          have hnew : (c1, o2) ∉ ks := fun hm => by
            have : (ks.map kD).any (fun z => PyData.eqv z (kD (c1, o2))) = true := List.any_eq_true.mpr ⟨kD (c1, o2), List.mem_map.mpr ⟨_, hm, rfl⟩, kD_self _⟩
            rw [hany] at this
            cases this
          refine ⟨_, rfl, .inl ⟨rfl, _, SqL.of eF6⟩, _, rfl, F, _, _, rfl, rfl, eF6, by rw [List.length_map]; exact line9 (by omega), ?_⟩
          have x7 : SameX r H (upd H6 F (.lst (as.map V.ref ++ [.ref t]))) := sameX_upd (x2.trans x6) hF
          have kT : ∀ b xs, H6 b = some (.tup xs) → (upd H6 F (.lst (as.map V.ref ++ [.ref t]))) b = some (.tup xs) := fun b xs hb => by rw [upd_ne (fun z => by rw [z, eF6] at hb; cases hb)]; exact hb
          refine ⟨as ++ [t], ks ++ [(c1, o2)], _, _, rfl, x7, rowAt_x hrow x7 d6 (upd_ne hrF), by rw [upd_same, List.map_append]; rfl, kt_snoc (kt_of kT t6) (kT _ _ et), by simp; omega, ?_, fun k' hk' => ?_⟩
          · have := nodup_addK (o := (c1, o2)) hnd
            rwa [addK_out hnew] at this
          · rcases List.mem_append.mp hk' with h | h
            · exact hg k' h
            · simp at h
              subst h
              exact ⟨by show c1.length ≤ 3; omega, hm1, fun c hc => hm2 c (by have h : o2 = some c := hc; rw [h]; simp), hne⟩
    · rintro σ' H2 ⟨as, ks, o4, o5, rfl, x2, d2, eF, tK, hlk, hnd, hg⟩
      refine ⟨_, rfl, F, _, rfl, .inl ⟨SqL.of eF, fun l hl => ?_⟩⟩
      have n3 := same_new (o := .tup (as.map V.ref)) hl
      exact q _ _ ks ⟨by omega, hnd, hg⟩ (.tup (SqT.of upd_same) (kt_dp (kt_of (fun b xs hb => n3 _ _ hb) tK))) (x2.trans (sameX_of n3)) (rowAt_same n3 d2)
end
end An
end
section
set_option Elab.async false
set_option maxRecDepth 100000
set_option maxHeartbeats 4000000
set_option linter.all false
/-! led. -/
namespace An
open PySem L2
theorem idx_letter {L : List Nat} (h : LOk L) {c : Nat} (hc : c ∈ L) : Txt.index0 (tx L) ⟨#[c]⟩ = some (place L c) := by
  rcases h with rfl | rfl | rfl
  · simp at hc; subst hc; decide +kernel
  · simp at hc; rcases hc with rfl | rfl <;> decide +kernel
  · simp at hc; rcases hc with rfl | rfl <;> decide +kernel
section
variable {P : Program} {w : World} {K : PySem.W.Frag} {mg : Str → Option Value} {base : Heap}
def sp_law_led (K : PySem.W.Frag) : Sp := fun vs H Q _ => ∃ (R : Rd3) (v : V) (s c : Nat), vs = [v, vN s, .str (tx [c])] ∧ Dp K H v (rdD R) ∧ RTab R ∧ s < R.2.1.length ∧ c ∈ R.1 ∧ Q (vN (ledF R.1 R.2.1 s c)) H
theorem sc_law_led : FnScope ["_law_reader_here", "_law_stand", "_law_text_here", "_law_sign"] ["_law_reader_here", "_law_stand", "_law_text_here"] (defScope s_law_led) := ⟨rfl, rfl, rfl, by decide +kernel, rfl, by decide +kernel, by decide +kernel⟩
theorem ok_law_led (T : Tx K mg) : FnOk P w K mg base CX0 1 T.law_led.f T.law_led.fd ["_law_reader_here", "_law_stand", "_law_text_here"] (sp_law_led K) := by
  have sc := sc_law_led
  refine T.law_led.F.ok sc (fun vs H Q E h => ?_) (fun cdv A outer s H vs Q E hr h => ?_)
  · obtain ⟨_, _, _, _, rfl, _⟩ := h; rfl
  · obtain ⟨R, v, s0, c, rfl, hd, hR, hs, hc, q⟩ := h
    refine ⟨_, (pss_cons (ps_for PassesOwn.never rfl (pi_str (pv 2)) (pg_name (i := 3) (x := "_law_sign") sc.nd rfl (Or.inl rfl))
        (pss_one (ps_set (i := 1) sc.nd rfl (Or.inl rfl) (pe_ix ix_D (pe_ix ix_D (pe_ix ix_D (pv 0) pe_int (fun _ _ => rfl)) (pv 1) (fun _ _ => rfl)) (pe_bmS PySem.F.plainAttrs_str PySem.F.slot_str_index PySem.F.type_str_index (mt_indexX rfl takes0) (pe_ix ix_D (pv 0) pe_int (fun _ _ => rfl)) (pa_cons (pv 3) pa_nil)) (fun _ _ => rfl)))))
      (pss_one (ps_ret (pv 1)))), ?_⟩
    refine ⟨_, rfl, _, rfl, ?_⟩
    have hpl := place_lt hc
    obtain ⟨hrl, hrb⟩ := hR.t.row hs
    refine for_it walk_str (fun j σ' H' => H' = H ∧ ∃ o, σ' = [some v, some (vN (if j = 0 then s0 else ledF R.1 R.2.1 s0 c)), some (.str (tx [c])), o]) ⟨rfl, none, rfl⟩ (fun _ _ _ _ _ => trivial) ?_ ?_
    · rintro j y σ' Hx Hc hj ⟨rfl, o, rfl⟩ ⟨rfl, c', hc', rfl⟩
      have hj0 : j = 0 := by
        have : j < 1 := hj
        omega
      subst hj0
      have hcc : c' = c := by
        have := tx_get hc'
        simp at this
        exact this.symm
      subst hcc
      refine ⟨_, rfl, [tD R.1, rowsD R.2.1, yesD R.2.2], 1, _, hd, rfl, rfl, fun z hz => ⟨_, rfl, R.2.1.map rowD, s0, rowD (R.2.1.getD s0 []), hz, rfl, ?_, fun z1 hz1 => ?_⟩⟩
      · rw [List.getElem?_map, List.getD_eq_getElem?_getD, List.getElem?_eq_getElem hs]; rfl
      refine ⟨_, rfl, [tD R.1, rowsD R.2.1, yesD R.2.2], 0, _, hd, rfl, rfl, fun z2 hz2 => ?_⟩
      cases dp_str hz2
      refine ⟨rfl, _, rfl, tx R.1, ⟨#[c']⟩, rfl, rfl, fun k hk => ?_, fun hn => ?_⟩
      · rw [idx_letter hR.l hc] at hk
        cases hk
        refine ⟨(R.2.1.getD s0 []).map dN, place R.1 c', dN (ledF R.1 R.2.1 s0 c'), hz1, rfl, ?_, fun z3 hz3 => ?_⟩
        · rw [List.getElem?_map, List.getElem?_eq_getElem (by omega)]
          unfold ledF
          rw [List.getD_eq_getElem?_getD (l := R.2.1.getD s0 []), List.getElem?_eq_getElem (by omega)]
          rfl
        · cases dp_int hz3
          exact ⟨rfl, _, rfl⟩
      · rw [idx_letter hR.l hc] at hn
        cases hn
    · rintro σ' Hc ⟨rfl, o, rfl⟩
      exact ⟨_, rfl, q⟩
end
end An
end
section
set_option Elab.async false
set_option maxRecDepth 100000
set_option maxHeartbeats 4000000
set_option linter.all false
/-! alike. -/
namespace An
open PySem L2
/-- plain data of at most so many tuples one in another -/
def Plain : Nat → PyData → Prop
  | _, .none => True
  | _, .bool _ => True
  | _, .int _ => True
  | _, .str _ => True
  | n + 1, .tuple ds => ds.length ≤ 1000 ∧ ∀ d ∈ ds, Plain n d
  | _, _ => False
theorem kit2 {K : PySem.W.Frag} {T : String} (h1 : kitB T "tuple" = some false) (h2 : kitB T "list" = some false) : PySem.W.kitAny K (.type T) [.type "tuple", .type "list"] = some false :=
  kitAny_cons (kit_ty h1) (fun _ => kitAny_cons (kit_ty h2) (fun _ => kitAny_nil) fun h => by cases h) fun h => by cases h
theorem kit2t {K : PySem.W.Frag} : PySem.W.kitAny K (.type "tuple") [.type "tuple", .type "list"] = some true :=
  kitAny_cons (b := true) (kit_ty (by decide +kernel)) (fun h => by cases h) fun _ => rfl
section
variable {P : Program} {w : World} {K : PySem.W.Frag} {mg : Str → Option Value} {base : Heap}
def sp_alike (K : PySem.W.Frag) : Nat → Sp
  | 0 => fun _ _ _ _ => False
  | n + 1 => fun vs H Q _ => ∃ (d : PyData) (v u : V), vs = [v, u] ∧ Plain n d ∧ Dp K H v d ∧ Dp K H u d ∧ ∀ H', Same H H' → Q (.bl true) H'
theorem sc_law_alike : FnScope ["_law_found", "_law_due", "_law_k", "_law_key"] ["_law_found", "_law_due"] (defScope s_law_alike) := ⟨rfl, rfl, rfl, by decide +kernel, rfl, by decide +kernel, by decide +kernel⟩
theorem ok_alike (T : Tx K mg) : ∀ n, FnOk P w K mg base CX0 n T.law_alike.f T.law_alike.fd ["_law_found", "_law_due"] (sp_alike K n)
  | 0 => ⟨fun _ _ _ _ h => False.elim h, fun _ _ _ _ _ _ _ _ _ _ _ _ _ h => False.elim h⟩
  | n + 1 => by
    have ih := ok_alike T n
    have sc := sc_law_alike
    refine T.law_alike.F.ok sc (fun vs H Q E h => ?_) (fun cdv A outer s H vs Q E hr h => ?_)
    · obtain ⟨_, _, _, rfl, _⟩ := h; rfl
    · obtain ⟨d, v, u, rfl, hd, hv, hu, q⟩ := h
      refine ⟨_, (pss_cons (ps_if (pt_val (pe_B (id := "isinstance") call_isiT T.b_isinstance (pa_cons (pv 1) (pa_cons (pe_tup (pa_cons (pe_ty "tuple" T.b_tuple) (pa_cons (pe_ty "list" T.b_list) pa_nil))) pa_nil))))
        (pss_cons (ps_if (PW.pt (pw_or (pt_not (pt_val (pe_B (id := "isinstance") call_isiT T.b_isinstance (pa_cons (pv 0) (pa_cons (pe_tup (pa_cons (pe_ty "tuple" T.b_tuple) (pa_cons (pe_ty "list" T.b_list) pa_nil))) pa_nil))))) (pw_or1 (pt_cmpR op_ne (pe_B (id := "isinstance") call_isi T.b_isinstance (pa_cons (pv 0) (pa_cons (pe_ty "list" T.b_list) pa_nil))) (pe_B (id := "isinstance") call_isi T.b_isinstance (pa_cons (pv 1) (pa_cons (pe_ty "list" T.b_list) pa_nil))) (nomark _)))))
          (pss_one (ps_ret pe_bl))
          pss_nil)
        (pss_cons (ps_if (pt_cmpR op_ne (pe_B (id := "len") call_lenDt T.b_len (pa_cons (pv 0) pa_nil)) (pe_B (id := "len") call_lenDt T.b_len (pa_cons (pv 1) pa_nil)) (nomark _))
          (pss_one (ps_ret pe_bl))
          pss_nil)
        (pss_one (ps_ret (pe_cmpR (op_eqD hr.units) (pe_lc (own := [("_law_k", 2)]) rfl sc.nd (pi_range1 rfl T.b_range (pa_cons (pe_B (id := "len") call_lenDt T.b_len (pa_cons (pv 1) pa_nil)) pa_nil)) (blkOk_by (N := ["_law_found", "_law_due", "_law_k", "_law_key"]) (sc := defScope s_law_alike) (by decide +kernel)) (fun _ _ _ _ _ => (pg_name (i := 2) (x := "_law_k") sc.nd rfl (Or.inl rfl) (hf := Or.inr rfl))) (fun _ _ _ _ _ => (pts_one (pt_not (pt_val (pe_callD T.law_alike ih (hr.mono (Nat.le_refl _)) (pa_cons (pe_ix (r := rIxD K) ix_D (pv 0) (pv 2) (fun _ _ => rfl)) (pa_cons (pe_ix (r := rIxD K) ix_D (pv 1) (pv 2) (fun _ _ => rfl)) pa_nil))))))) (fun _ _ _ _ _ => (pv 2))) (pe_lst pa_nil) (nomark _))))))
        pss_nil)
      (pss_cons (ps_if (pt_val (pe_B (id := "isinstance") call_isi T.b_isinstance (pa_cons (pv 1) (pa_cons (pe_ty "dict" T.b_dict) pa_nil))))
        (pss_cons ps_never
        (pss_one ps_never))
        pss_nil)
      (pss_cons (ps_if (PW.pt (pw_or (pt_cmpR op_isN (pv 1) pe_non (nomark _)) (pw_or1 (pt_val (pe_B (id := "isinstance") call_isi T.b_isinstance (pa_cons (pv 1) (pa_cons (pe_ty "str" T.b_str) pa_nil)))))))
        (pss_one (ps_ret (pe_and (pe_cmpR op_eq (pv 0) (pv 1) (nomark _)) (pe_one (pe_cmpR op_eq (pe_B (id := "isinstance") call_isi T.b_isinstance (pa_cons (pv 0) (pa_cons (pe_ty "str" T.b_str) pa_nil))) (pe_B (id := "isinstance") call_isi T.b_isinstance (pa_cons (pv 1) (pa_cons (pe_ty "str" T.b_str) pa_nil))) (nomark _))))))
        pss_nil)
      (pss_one (ps_ret (pe_and (pe_B (id := "isinstance") call_isi T.b_isinstance (pa_cons (pv 0) (pa_cons (pe_ty "int" T.b_int) pa_nil))) (pe_and (pe_cmpR op_eq (pe_B (id := "isinstance") call_isi T.b_isinstance (pa_cons (pv 0) (pa_cons (pe_ty "bool" T.b_bool) pa_nil))) (pe_B (id := "isinstance") call_isi T.b_isinstance (pa_cons (pv 1) (pa_cons (pe_ty "bool" T.b_bool) pa_nil))) (nomark _)) (pe_one (pe_cmpR op_eq (pv 0) (pv 1) (nomark _)))))))))), ?_⟩
      refine ⟨_, rfl, by show 2 ≤ sizeLine; exact line8 (by omega), fun t ht => ?_⟩
      have n1 := same_new (o := .tup [.ty "tuple", .ty "list"]) ht
      have hv1 := dp_same n1 _ _ hv
      have hu1 := dp_same n1 _ _ hu
      have et : (upd H t (.tup [.ty "tuple", .ty "list"])) t = some (.tup [.ty "tuple", .ty "list"]) := upd_same
      generalize upd H t (.tup [.ty "tuple", .ty "list"]) = H1 at n1 hv1 hu1 et
      have pr : Paired ClsV [V.ty "tuple", V.ty "list"] [.type "tuple", .type "list"] := .cons (.ty _) (.cons (.ty _) .nil)
      cases d with
      | dict ds => cases n <;> exact False.elim hd
      | list ds => cases n <;> exact False.elim hd
      | tuple ds =>
        cases n with
        | zero => exact False.elim hd
        | succ n =>
          obtain ⟨hl, hds⟩ := hd
          refine ⟨u, t, _, _, _, true, rfl, et, pr, tyx_tup hu1, kit2t, _, rfl, iteT ?_⟩
          refine ⟨_, rfl, by show 2 ≤ sizeLine; exact line8 (by omega), fun t2 ht2 => ?_⟩
          have n2 := same_new (o := .tup [.ty "tuple", .ty "list"]) ht2
          have hv2 := dp_same n2 _ _ hv1
          have hu2 := dp_same n2 _ _ hu1
          have et2 : (upd H1 t2 (.tup [.ty "tuple", .ty "list"])) t2 = some (.tup [.ty "tuple", .ty "list"]) := upd_same
          generalize upd H1 t2 (.tup [.ty "tuple", .ty "list"]) = H2 at n2 hv2 hu2 et2
          refine ⟨v, t2, _, _, _, true, rfl, et2, pr, tyx_tup hv2, kit2t, _, rfl, iteF ?_⟩
          refine ⟨_, rfl, v, _, _, _, false, rfl, .ty _, tyx_tup hv2, kit_ty (by decide +kernel), _, rfl, u, _, _, _, false, rfl, .ty _, tyx_tup hu2, kit_ty (by decide +kernel), rfl, _, rfl, ?_⟩
          rw [dec_bl]
          refine iteF ⟨_, rfl, v, ds, ds.length, rfl, hv2, rfl, _, rfl, u, ds, ds.length, rfl, hu2, rfl, rfl, _, rfl, ?_⟩
          rw [dec_int, beq_self_eq_true]
          refine iteF ⟨_, rfl, u, ds, ds.length, rfl, hu2, rfl, _, rfl, by omega, by omega, fun D hD => ?_⟩
          refine lc_it (walk_range (n := ds.length)) (fun i H' => Same H2 H' ∧ H' D = some (.lst [])) ⟨same_new hD, upd_same⟩ (fun _ _ _ _ => trivial) ?_ ?_
          · rintro i x Hx H3 hi ⟨s3, e3⟩ ⟨rfl, rfl⟩
            have hgi : ds[i]? = some ds[i] := List.getElem?_eq_getElem hi
            refine ⟨rfl, ?_⟩
            refine ⟨_, rfl, _, rfl, ds, i, ds[i], dp_same s3 _ _ hv2, by simp, hgi, fun z1 hz1 => ?_⟩
            refine ⟨_, rfl, _, rfl, ds, i, ds[i], dp_same s3 _ _ hu2, by simp, hgi, fun z2 hz2 => ?_⟩
            exact ⟨ds[i], z1, z2, rfl, hds _ (List.getElem_mem hi), hz1, hz2, fun H4 s4 => ⟨_, rfl, iteF ⟨s3.trans s4, s4 _ _ e3⟩⟩⟩
          · rintro H3 ⟨s3, e3⟩
            refine ⟨by show 0 ≤ sizeLine; exact line8 (by omega), fun l hl2 => ?_⟩
            have n4 := same_new (o := .lst []) hl2
            exact ⟨.list [], .list [], .lst (SqL.of (n4 _ _ e3)) .nil, .lst (SqL.of upd_same) .nil, by decide, by decide, q _ (n1.trans (n2.trans (s3.trans n4)))⟩
      | none =>
        cases hv1
        cases hu1
        refine ⟨_, t, _, _, _, false, rfl, et, pr, .base .non, kit2 (by decide +kernel) (by decide +kernel), _, rfl, iteF ?_⟩
        refine ⟨_, rfl, _, _, _, _, false, rfl, .ty _, .base .non, kit_ty (by decide +kernel), _, rfl, iteF ?_⟩
        refine ⟨_, rfl, rfl, _, rfl, iteT (iteT ?_)⟩
        refine ⟨_, rfl, _, rfl, rfl, _, rfl, iteT ?_⟩
        refine ⟨_, rfl, _, _, _, _, false, rfl, .ty _, .base .non, kit_ty (by decide +kernel), _, rfl, _, _, _, _, false, rfl, .ty _, .base .non, kit_ty (by decide +kernel), rfl, ?_⟩
        exact q _ n1
      | str z =>
        cases hv1
        cases hu1
        refine ⟨_, t, _, _, _, false, rfl, et, pr, .base (.str _), kit2 (by decide +kernel) (by decide +kernel), _, rfl, iteF ?_⟩
        refine ⟨_, rfl, _, _, _, _, false, rfl, .ty _, .base (.str _), kit_ty (by decide +kernel), _, rfl, iteF ?_⟩
        refine ⟨_, rfl, rfl, _, rfl, iteF ?_⟩
        refine ⟨_, rfl, _, _, _, _, true, rfl, .ty _, .base (.str _), kit_ty (by decide +kernel), _, rfl, iteT ?_⟩
        refine ⟨_, rfl, _, rfl, rfl, true, ?_, iteT ?_⟩
        · rw [dec_str, beq_self_eq_true]
        refine ⟨_, rfl, _, _, _, _, true, rfl, .ty _, .base (.str _), kit_ty (by decide +kernel), _, rfl, _, _, _, _, true, rfl, .ty _, .base (.str _), kit_ty (by decide +kernel), rfl, ?_⟩
        exact q _ n1
      | int z =>
        cases hv1
        cases hu1
        refine ⟨_, t, _, _, _, false, rfl, et, pr, .base (.int _), kit2 (by decide +kernel) (by decide +kernel), _, rfl, iteF ?_⟩
        refine ⟨_, rfl, _, _, _, _, false, rfl, .ty _, .base (.int _), kit_ty (by decide +kernel), _, rfl, iteF ?_⟩
        refine ⟨_, rfl, rfl, _, rfl, iteF ?_⟩
        refine ⟨_, rfl, _, _, _, _, false, rfl, .ty _, .base (.int _), kit_ty (by decide +kernel), _, rfl, iteF ?_⟩
        refine ⟨_, rfl, _, _, _, _, true, rfl, .ty _, .base (.int _), kit_ty (by decide +kernel), _, rfl, iteT ?_⟩
        refine ⟨_, rfl, _, _, _, _, false, rfl, .ty _, .base (.int _), kit_ty (by decide +kernel), _, rfl, _, _, _, _, false, rfl, .ty _, .base (.int _), kit_ty (by decide +kernel), rfl, _, rfl, iteT ?_⟩
        refine ⟨_, rfl, _, rfl, rfl, ?_⟩
        rw [dec_int, beq_self_eq_true]
        exact q _ n1
      | bool z =>
        cases hv1
        cases hu1
        refine ⟨_, t, _, _, _, false, rfl, et, pr, .base (.bl _), kit2 (by decide +kernel) (by decide +kernel), _, rfl, iteF ?_⟩
        refine ⟨_, rfl, _, _, _, _, false, rfl, .ty _, .base (.bl _), kit_ty (by decide +kernel), _, rfl, iteF ?_⟩
        refine ⟨_, rfl, rfl, _, rfl, iteF ?_⟩
        refine ⟨_, rfl, _, _, _, _, false, rfl, .ty _, .base (.bl _), kit_ty (by decide +kernel), _, rfl, iteF ?_⟩
        refine ⟨_, rfl, _, _, _, _, true, rfl, .ty _, .base (.bl _), kit_ty (by decide +kernel), _, rfl, iteT ?_⟩
        refine ⟨_, rfl, _, _, _, _, true, rfl, .ty _, .base (.bl _), kit_ty (by decide +kernel), _, rfl, _, _, _, _, true, rfl, .ty _, .base (.bl _), kit_ty (by decide +kernel), rfl, _, rfl, iteT ?_⟩
        refine ⟨_, rfl, _, rfl, rfl, ?_⟩
        rw [dec_bl, beq_self_eq_true]
        exact q _ n1
end
end An
end
section
set_option Elab.async false
set_option maxRecDepth 100000
set_option maxHeartbeats 4000000
set_option linter.all false
/-! A lambda with parameters, handed to a def and called there. -/
namespace An
open PySem PySem.Spec PyProof.Rows L2 LamX
structure LamP (ps : List Str) (sc scope : Scope) : Prop where
  kind : scope.kind = .function
  co : scope.isCoroutine = false
  gen : scope.isGenerator = false
  nocell : ∀ y ∈ scope.names, y.2 ≠ .cell
  par : ∀ p ∈ ps, scope.names.lookup p = some .local
  free : ∀ y ∈ scope.names, y.2 = .free → sc.names.lookup y.1 = some .cell
theorem LamP.has {X : Cx} {ps : List Str} {scope : Scope} (L : LamP ps X.env.scope scope) (ok : X.Ok) : ∀ y ∈ scope.names, y.2 = .free → ∃ c, X.env.cells.lookup y.1 = some c := fun y hy e => ok.has _ (.inl (L.free y hy e))
/-- what the slots hold when the body starts -/
def Slots (N : List Str) (scope : Scope) (σ σ2 : L2.St) (b : List (Str × Value)) : Prop := σ2.length = N.length ∧ ∀ (i : Nat) (y : Str) (v : V), N[i]? = some y → σ2[i]? = some (some v) → Vis scope y →
  (scope.names.lookup y = some .local ∧ ∃ u, RelV v u ∧ b.reverse.lookup y = some u) ∨ (scope.names.lookup y = some .free ∧ σ[i]? = some (some v))
section
variable {X : Cx} {pins : List (Addr × Obj)} {σ : L2.St} {H HZ : Hp} {s s1 : Shared}
theorem lam_startP {A : Around} {outer : List Env} {E : XK} {ps : List Str} {b : List (Str × Value)} {σ2 : L2.St} {scope : Scope} {f c' : Addr} {h1 : Heap} {tk : Nat} (I : Inv X pins σ H s) (L : LamP ps X.env.scope scope) (sl : Slots X.N scope σ σ2 b)
    (e0 : Env0 X.prog X.w X.K X.mg X.base A outer s1 HZ) (hd : A.handled = none) (un : Un (frs X.stack) [] H HZ s.heap s1.heap)
    (hns : h1.Ns s1.heap.objs.size fun y => b.reverse.lookup y) (kp : ∀ b o, s1.heap.get? b = some o → h1.get? b = some o) : Inv (lamCx X A outer s1 HZ E scope f c') [] σ2 HZ { s1 with heap := h1, toks := tk } := by
  have hfree := L.has I.ok
  have cm : ∀ {y c}, (cloFrom X.env.cells scope.names []).lookup y = some c → X.env.cells.lookup y = some c := by
    intro y c e
    rcases cloFrom_mem (PySem.mem_of_lookup e) with hm | ⟨g1, g2⟩
    · exact nomatch hm
    · obtain ⟨d, hc⟩ := hfree _ g1 rfl
      have hc : X.env.cells.lookup y = some d := hc
      have e2 : c = d := by rw [g2, hc] <;> rfl
      exact e2 ▸ hc
  have look : ∀ {y}, scope.names.lookup y = some .free → ∃ c, (cloFrom X.env.cells scope.names []).lookup y = some c := by
    intro y hl
    exact mem_lookup (cloFrom_has (cells := X.env.cells) (acc := []) (show (y, NameKind.free) ∈ scope.names from PySem.mem_of_lookup hl))
  have cellK : ∀ {c : Addr} {v : Option Value}, H c = none → s.heap.IsCell c v → h1.IsCell c v := by
    rintro c v n ⟨o, ho, q⟩
    obtain ⟨sl, z⟩ := un.any ho n (by simp)
    exact ⟨_, kp _ _ z, q⟩
  have noA : ∀ b : Addr, b ∉ (lamCx X A outer s1 HZ E scope f c').ex := fun b z => by
    have z : b ∈ ([] : List Addr) := z
    simp at z
  constructor
  · constructor
    · exact e0.mod
    · exact L.kind
    · rfl
    · rfl
    · exact Nat.le_refl _
    · exact fun y z c a1 a2 => I.ok.inj y z c (cm a1) (cm a2)
    · intro y hy
      have hy : scope.names.lookup y = some .cell ∨ scope.names.lookup y = some .free := hy
      rcases hy with hy | hy
      · exact absurd rfl (L.nocell _ (PySem.mem_of_lookup hy))
      · exact look hy
    · intro y c z _
      have z : false = true := z
      cases z
    · exact fun _ => hd
    · exact Around.frames_deeper e0.frames
    · exact .inr ⟨rfl, rfl⟩
    · exact fun b z => absurd z (noA b)
    · exact e0.bs
    · exact e0.bsz
    · exact fun b _ _ => noA b
    · exact fun b z => absurd z (noA b)
    · exact e0.funs
    · exact e0.frf
  · rfl
  · exact e0.bare
  · exact Un.kept kp
  · refine ⟨_, hns, fun i y v a1 a2 a3 => ?_⟩
    rcases sl.2 i y v a1 a2 a3 with ⟨k, u, rv, hu⟩ | ⟨k, e2⟩
    · exact ⟨u, rv, .inl ⟨k, hu⟩⟩
    · obtain ⟨m, hn, hl⟩ := I.loc
      have kc : X.env.scope.names.lookup y = some .cell := L.free _ (PySem.mem_of_lookup k) rfl
      obtain ⟨w', r, q⟩ := hl i y v a1 e2 (.inr (.inl kc))
      obtain ⟨c2, h2⟩ := look k
      refine ⟨w', r, .inr ⟨.inr k, c2, h2, ?_⟩⟩
      rcases q with ⟨k', _⟩ | ⟨_, c3, e', z⟩
      · have k' : X.env.scope.names.lookup y = some .local := k'
        rw [kc] at k'
        cases k'
      · rw [cm h2] at e'
        cases e'
        exact cellK (I.freeC y _ (cm h2)) z
  · intro y c e
    obtain ⟨w', z⟩ := I.cell y c (cm e)
    exact ⟨w', cellK (I.freeC y c (cm e)) z⟩
  · exact e0.hok.fresh (Nat.le_refl _)
  · intro y c e
    obtain ⟨v, o, ho, q⟩ := I.cell y c (cm e)
    exact un.free c o ho (I.freeC y c (cm e)) (by simp)
  · intro q hq
    have hq : q ∈ ([] : List (Addr × Obj)) ++ [] := hq
    simp at hq
  · exact e0.hok.kept kp
  · exact sl.1
/-- a(e, ..) in the def that got the lambda f -/
theorem pe_actP {Ng ps : List Str} {qg : Str} {sg : Scope} {g f c' : Addr} {cdg pm ctv : Value} {params : Arguments} {body : Expr} {scope : Scope} {k i : Nat} {a : Str} {tb : TE} {t : TA} {e : Expr} {es : List Expr} {p1 p2 : Pos} (bnd : List V → L2.St)
    (I : Inv X pins σ H s) (L : LamP ps X.env.scope scope) (hf : s.heap.get? f = some (PySem.W.kla_obj "<lambda>" (X.env.qual ++ "<lambda>") params body scope (cloFrom X.env.cells scope.names []) pm c' ctv)) (hfn : H f = none) (hfr : f ∉ frs X.stack)
    (hbind : ∀ us : List Value, us.length = ps.length → bindArgs (PySem.W.kla_fn "<lambda>" (X.env.qual ++ "<lambda>") params body scope (cloFrom X.env.cells scope.names []) pm (.ref c') ctv) ⟨us, []⟩ = pure (ps.zip us))
    (hsl : ∀ (vs : List V) (us : List Value), Vals vs us → vs.length = ps.length → Slots X.N scope σ (bnd vs) (ps.zip us))
    (hr : Room (k + 1) (X.A.deeper (envOfC qg sg s.heap.objs.size g cdg)))
    (hbody : ∀ (A : Around) (outer : List Env) (s : Shared) (H : Hp), Room k (A.deeper (lamEnv X scope s.heap.objs.size f c')) → PE (lamCx X A outer s H L2.E0 scope f c') body tb)
    (ha : PA (cxOf L2.CX0 X.prog X.w X.K X.mg X.base Ng qg sg g cdg X.A X.stack s H L2.E0).nox (e :: es) t)
    (hN : Ng[i]? = some a) (hv : Vis sg a) (hd : (a == ("__debug__" : Str)) = false := by decide) (hcd : (a == ("__classdict__" : Str)) = false := by decide)
    (he : starEach (e :: es) (envOfC qg sg s.heap.objs.size g cdg) = (false, eval e (envOfC qg sg s.heap.objs.size g cdg)) :: starEach es (envOfC qg sg s.heap.objs.size g cdg) := by rfl) (hpl : (backTo p2 (starEach es (envOfC qg sg s.heap.objs.size g cdg))).any (·.1) = false := by rfl) :
    PE (cxOf L2.CX0 X.prog X.w X.K X.mg X.base Ng qg sg g cdg X.A X.stack s H L2.E0).nox (.Call (.Name a p1) (e :: es) [] p2)
      (fun σZ HZ Q => σZ[i]? = some (some (.ref f)) ∧ t σZ HZ (fun vs H1 => vs.length = ps.length ∧ H1 c' = some (CodeO c' (X.env.qual ++ "<lambda>")) ∧ tb (bnd vs) H1 Q)) := by
  refine ⟨fun pinsZ sZ σZ HZ Q IZ h => ?_⟩
  obtain ⟨hs, ht⟩ := h
  refine wpAny_Call_Name_kw (thn ((pe_var (pos := p1) (i := i) hN hv hd hcd).run pinsZ sZ σZ HZ (fun v H1 => v = .ref f ∧ H1 = HZ) IZ ⟨.ref f, hs, rfl, rfl⟩) fun u s1 ⟨v, H1, I1, r1, q1⟩ => ?_)
  obtain ⟨rfl, rfl⟩ := q1
  obtain rfl : u = Value.ref f := r1
  have keepF : ∀ {s2 : Shared} {σ2 : L2.St} {H2 : Hp}, Inv (cxOf L2.CX0 X.prog X.w X.K X.mg X.base Ng qg sg g cdg X.A X.stack s H L2.E0).nox pinsZ σ2 H2 s2 → s2.heap.get? f = some (PySem.W.kla_obj "<lambda>" (X.env.qual ++ "<lambda>") params body scope (cloFrom X.env.cells scope.names []) pm c' ctv) := fun J => J.base.keep f _ hf hfn hfr (fun z => nomatch (show f ∈ ([] : List Addr) from z))
  refine PySem.W.callWith_F ⟨_, _, _, _, keepF I1⟩ (thn (ha.run p2 pinsZ s1 σZ H1 _ I1 ht) fun us s2 ⟨vs, H2, I2, r, q⟩ => ⟨⟨_, _, _, _, keepF I2⟩, ?_⟩) he hpl
  obtain ⟨hlen, hco, hq⟩ := q
  have un : Un (frs X.stack) [] H H2 s.heap s2.heap := I2.base
  obtain ⟨⟨oc, ws, t, hoc, hdc, hvc⟩, _, _⟩ := I2.hok c' _ hco
  have hul : us.length = ps.length := by rw [← r.length]; exact hlen
  have rc : codeAny (model X.prog X.w) (X.A.deeper (envOfC qg sg s.heap.objs.size g cdg)) (.call (.ref f) ⟨us, []⟩) (CR (L2.CX X.prog X.w) (envOfC qg sg s.heap.objs.size g cdg :: X.stack) X.prog X.w H2 s2 Q L2.E0) s2 := by
    refine PySem.W.kla_callFunE hr.depth (keepF I2) rfl L.co L.gen rfl ⟨c', oc, ws, t, rfl, hoc, hdc, hvc⟩ ?_
    rw [hbind us hul]
    refine wpAny_pure (wpAny_newFunctionEnv L.nocell (fun y hy => L.par _ (List.of_mem_zip (show (y.1, y.2) ∈ _ from hy)).1) (fun h1 hns hsb => ⟨I2.nolimit.fresh _ hsb, ?_⟩) L.kind)
    show codeAny _ _ (.expr body (lamEnv X scope s2.heap.objs.size f c')) _ _
    have kp : ∀ b o, s2.heap.get? b = some o → h1.get? b = some o := fun b o z => hsb.extBut b o (Nat.ne_of_lt (Heap.lt_size z)) (Heap.get?_push_of_some _ z)
    have J := lam_startP (A := X.A.deeper (envOfC qg sg s.heap.objs.size g cdg)) (outer := envOfC qg sg s.heap.objs.size g cdg :: X.stack) (E := L2.E0) (f := f) (c' := c') (tk := s2.toks + (ps.zip us).length) I L (hsl vs us r hlen) I2.env0 hr.hd un hns kp
    refine PySem.W.kla_codeExpr (wpAny_mono ((hbody _ _ s2 H2 (hr.deeper _)).run [] _ _ H2 Q J hq) (fun v s' hq => ?_) fun e s' hq => hq)
    obtain ⟨w', H', J', rv, q⟩ := hq
    exact ⟨w', H', J'.os, J'.bare, J'.base, J'.hok, rv, q⟩
  refine wpAny_call (codeAny_mono rc fun r s' hq => ?_)
  cases r with
  | error e =>
    obtain ⟨_, _, _, _, _, _, _, _, _, _, _, _, z⟩ := hq
    exact z.elim
  | ok fl =>
    cases fl with
    | ret u => exact I2.after hq
    | next => exact False.elim hq
    | brk => exact False.elim hq
    | cont => exact False.elim hq
end
mutual
theorem dp_re {K : PySem.W.Frag} {H H' : Hp} (st : ∀ a xs, SqT K H a xs → SqT K H' a xs) (sl : ∀ a xs, SqL K H a xs → SqL K H' a xs) : ∀ (d : PyData) (v : V), Dp K H v d → Dp K H' v d
  | .none, _, h => by cases h; exact .non
  | .bool _, _, h => by cases h; exact .bl _
  | .int _, _, h => by cases h; exact .int _
  | .str _, _, h => by cases h; exact .str _
  | .list ds, _, h => by
    cases h with
    | lst g1 g2 => exact .lst (sl _ _ g1) (dpAll_re st sl ds _ g2)
  | .tuple ds, _, h => by
    cases h with
    | tup g1 g2 => exact .tup (st _ _ g1) (dpAll_re st sl ds _ g2)
  | .dict _, _, h => by cases h
theorem dpAll_re {K : PySem.W.Frag} {H H' : Hp} (st : ∀ a xs, SqT K H a xs → SqT K H' a xs) (sl : ∀ a xs, SqL K H a xs → SqL K H' a xs) : ∀ (ds : List PyData) (vs : List V), DpAll K H vs ds → DpAll K H' vs ds
  | [], _, h => by cases h; exact .nil
  | d :: ds, _, h => by
    cases h with
    | cons g1 g2 => exact .cons (dp_re st sl d _ g1) (dpAll_re st sl ds _ g2)
end
/-- all data stay what they are -/
def KeepD (K : PySem.W.Frag) (H H' : Hp) : Prop := ∀ v d, Dp K H v d → Dp K H' v d
theorem ext_rd {H H' : Hp} (e : ExtN H H') {a : Addr} {x : HO} (h : Rd H a x) (n : ∀ ps, x ≠ .tbl ps) : Rd H' a x := by
  rcases h with h | ⟨o, h⟩
  · exact .inl (e _ _ h n)
  · exact .inr ⟨o, e _ _ h (fun ps z => by cases z)⟩
theorem keepD_ext {K : PySem.W.Frag} {H H' : Hp} (e : ExtN H H') : KeepD K H H' := fun v d h => by
  refine dp_re (fun a xs g => ?_) (fun a xs g => ?_) d v h
  · rcases g with g | g
    · exact .inl (ext_rd e g fun ps z => by cases z)
    · exact .inr g
  · rcases g with g | g
    · exact .inl (ext_rd e g fun ps z => by cases z)
    · exact .inr g
theorem keepD_same {K : PySem.W.Frag} {H H' : Hp} (s : Same H H') : KeepD K H H' := fun v d h => dp_same s d v h
end An
end
section
set_option Elab.async false
set_option maxRecDepth 100000
set_option maxHeartbeats 4000000
set_option linter.all false
/-! The law's own search. -/
namespace An
open PySem PySem.Spec PyProof.Rows L2
abbrev NP := Nat × Nat
def pV (p : NP) : HO := .tup [vN p.1, vN p.2]
def pD (p : NP) : PyData := .tuple [.int (p.1 : Int), .int (p.2 : Int)]
theorem pD_eqv (a b : NP) : PyData.eqv (pD a) (pD b) = decide (a = b) := by
  obtain ⟨a1, a2⟩ := a
  obtain ⟨b1, b2⟩ := b
  rw [Bool.eq_iff_iff]
  simp [pD, PyData.eqv, PyData.eqvAll]
  omega
theorem pD_any (ps : List NP) (p : NP) : (ps.map pD).any (fun z => PyData.eqv z (pD p)) = decide (p ∈ ps) := by
  rw [Bool.eq_iff_iff]
  simp only [List.any_map, List.any_eq_true, Function.comp_apply, pD_eqv, decide_eq_true_eq]
  constructor
  · rintro ⟨x, hx, rfl⟩
    exact hx
  · exact fun h => ⟨p, h, rfl⟩
theorem pD_canLay (p : NP) : PyData.canLay0 (pD p) = true := by simp [pD, PyData.canLay0, PyData.canLayAll0]
theorem pD_depth (p : NP) : PyData.depth (pD p) = 1 := by simp [pD, PyData.depth, PyData.depthAll]
theorem pD_shaped (p : NP) : SeqAt.shaped (pD p) = true := by
  unfold SeqAt.shaped
  rw [pD_canLay, pD_depth]
  rfl
theorem pDs_shaped (ps : List NP) : SeqAt.shaped (.list (ps.map pD)) = true := by
  have c : ∀ ps : List NP, PyData.canLayAll0 (ps.map pD) = true := by
    intro ps
    induction ps with
    | nil => rfl
    | cons p ps ih => simp [PyData.canLayAll0, pD_canLay, ih]
  have d : ∀ ps : List NP, PyData.depthAll (ps.map pD) ≤ 1 := by
    intro ps
    induction ps with
    | nil => simp [PyData.depthAll]
    | cons p ps ih => simp only [List.map_cons, PyData.depthAll, pD_depth]; omega
  unfold SeqAt.shaped
  have e1 : PyData.canLay0 (.list (ps.map pD)) = true := by simp only [PyData.canLay0]; exact c ps
  have e2 : PyData.depth (.list (ps.map pD)) ≤ 64 := by have := d ps; simp only [PyData.depth]; omega
  rw [e1, decide_eq_true e2]
  rfl
/-- the search's two lists in the heap -/
def QAt (H : Hp) (as bs : List Addr) (q : List (List Nat × NP)) : Prop := as.length = q.length ∧ bs.length = q.length ∧ ∀ (i : Nat) a b e, as[i]? = some a → bs[i]? = some b → q[i]? = some e → H a = some (.tup [.str (tx e.1), .ref b]) ∧ H b = some (pV e.2)
theorem QAt.get {H : Hp} {as bs : List Addr} {q : List (List Nat × NP)} (h : QAt H as bs q) {i : Nat} {e : List Nat × NP} (he : q[i]? = some e) : ∃ a b, as[i]? = some a ∧ bs[i]? = some b ∧ H a = some (.tup [.str (tx e.1), .ref b]) ∧ H b = some (pV e.2) := by
  have hi := (List.getElem?_eq_some_iff.mp he).1
  have h1 : as[i]? = some (as[i]'(by rw [h.1]; exact hi)) := List.getElem?_eq_getElem _
  have h2 : bs[i]? = some (bs[i]'(by rw [h.2.1]; exact hi)) := List.getElem?_eq_getElem _
  exact ⟨_, _, h1, h2, h.2.2 i _ _ e h1 h2 he⟩
theorem QAt.of {H H' : Hp} {as bs : List Addr} {q : List (List Nat × NP)} (s : ∀ a xs, H a = some (.tup xs) → H' a = some (.tup xs)) (h : QAt H as bs q) : QAt H' as bs q := ⟨h.1, h.2.1, fun i a b e h1 h2 h3 => ⟨s _ _ (h.2.2 i a b e h1 h2 h3).1, s _ _ (h.2.2 i a b e h1 h2 h3).2⟩⟩
theorem QAt.snoc {H : Hp} {as bs : List Addr} {q : List (List Nat × NP)} {a b : Addr} {e : List Nat × NP} (h : QAt H as bs q) (h1 : H a = some (.tup [.str (tx e.1), .ref b])) (h2 : H b = some (pV e.2)) : QAt H (as ++ [a]) (bs ++ [b]) (q ++ [e]) := by
  refine ⟨by simp [h.1], by simp [h.2.1], fun i a' b' e' g1 g2 g3 => ?_⟩
  by_cases hi : i < q.length
  · rw [List.getElem?_append_left (by rw [h.1]; exact hi)] at g1
    rw [List.getElem?_append_left (by rw [h.2.1]; exact hi)] at g2
    rw [List.getElem?_append_left hi] at g3
    exact h.2.2 i a' b' e' g1 g2 g3
  · have hi2 : i = q.length := by
      have := (List.getElem?_eq_some_iff.mp g3).1
      simp at this
      omega
    subst hi2
    rw [List.getElem?_append_right (by rw [h.1]; exact Nat.le_refl _)] at g1
    rw [List.getElem?_append_right (by rw [h.2.1]; exact Nat.le_refl _)] at g2
    rw [List.getElem?_append_right (Nat.le_refl _)] at g3
    simp [h.1] at g1
    simp [h.2.1] at g2
    simp at g3
    subst g1 g2 g3
    exact ⟨h1, h2⟩
theorem QAt.dp {K : PySem.W.Frag} {H : Hp} {as bs : List Addr} {q : List (List Nat × NP)} (h : QAt H as bs q) : DpAll K H (bs.map V.ref) ((q.map (·.2)).map pD) := by
  refine dpAll_of (by simp [h.2.1]) fun i x d hx hd => ?_
  rw [List.getElem?_map] at hx
  rw [List.getElem?_map, List.getElem?_map] at hd
  cases hq : q[i]? with
  | none => rw [hq] at hd; cases hd
  | some e =>
    obtain ⟨a, b, h1, h2, h3, h4⟩ := h.get hq
    rw [h2] at hx
    rw [hq] at hd
    cases hx
    cases hd
    exact .tup (SqT.of h4) (.cons (.int _) (.cons (.int _) .nil))
theorem cutV_one (xs : List V) (i : Nat) : cutV xs (some (i : Int)) (some ((i : Int) + 1)) = (xs[i]?).toList := by
  unfold cutV
  have e1 : HT.sIx xs.length 0 (some (i : Int)) = min i xs.length := by
    unfold HT.sIx
    simp
    omega
  have e2 : HT.sIx xs.length xs.length (some ((i : Int) + 1)) = min (i + 1) xs.length := by
    unfold HT.sIx
    simp
    omega
  rw [e1, e2]
  by_cases h : i < xs.length
  · rw [List.getElem?_eq_getElem h, show min i xs.length = i by omega, show min (i + 1) xs.length - i = 1 by omega, List.take_one, List.head?_drop, List.getElem?_eq_getElem h]
  · rw [List.getElem?_eq_none (by omega), show min (i + 1) xs.length - min i xs.length = 0 by omega]
    rfl
section
variable {P : Program} {w : World} {K : PySem.W.Frag} {mg : Str → Option Value} {base : Heap}
abbrev firN : List Str := ["_law_letters", "_law_pairs", "_law_step", "_law_is_good", "_law_turn", "_law_here", "_law_met", "_law_text_here", "_law_thing", "_law_sign", "_law_later"]
theorem sc_law_first : FnScope ["_law_letters", "_law_pairs", "_law_step", "_law_is_good", "_law_turn", "_law_here", "_law_met", "_law_text_here", "_law_thing", "_law_sign", "_law_later"] ["_law_letters", "_law_pairs", "_law_step", "_law_is_good"] (defScope s_law_first) := ⟨rfl, rfl, rfl, by decide +kernel, rfl, by decide +kernel, by decide +kernel⟩
theorem first_gives (T : Tx K mg) {A : Around} {outer : List Env} {s : Shared} {H : Hp} {g f1 f2 p0 : Addr} {cdg : Value} {k : Nat} {L : List Nat} {A' B' : List (List Nat)} {y z : List Bool} {tG tS : TE} {Q : VK}
    (hr : Room k (A.deeper (envOfC "_law_first" (defScope s_law_first) s.heap.objs.size g cdg)))
    (hL : LOk L) (hA : Tab L.length A') (hB : Tab L.length B') (nA : A'.length ≤ 50) (nB : B'.length ≤ 50) (hp0 : H p0 = some (pV (0, 0)))
    (aG : ∀ q1 q2 q3, PE (cxOf CX0 P w K mg base firN "_law_first" (defScope s_law_first) g cdg A outer s H E0).nox (.Call (.Name "_law_is_good" q1) [.Name "_law_thing" q2] [] q3) tG)
    (aS : ∀ q1 q2 q3 q4, PE (cxOf CX0 P w K mg base firN "_law_first" (defScope s_law_first) g cdg A outer s H E0).nox (.Call (.Name "_law_step" q1) [.Name "_law_thing" q2, .Name "_law_sign" q3] [] q4) tS)
    (hG : ∀ (σ : L2.St) (H' : Hp) (Q : VK) (b : Addr) (p : NP), Same H H' → σ[3]? = some (some (.ref f2)) → σ[8]? = some (some (.ref b)) → H' b = some (pV p) → PIn A'.length B'.length p → Q (.bl (both y z p)) H' → tG σ H' Q)
    (hStep : ∀ (σ : L2.St) (H' : Hp) (Q : VK) (b : Addr) (p : NP) (c : Nat), Same H H' → σ[2]? = some (some (.ref f1)) → σ[8]? = some (some (.ref b)) → σ[9]? = some (some (.str (tx [c]))) → H' b = some (pV p) → PIn A'.length B'.length p → c ∈ L →
      (∀ t, H' t = none → Q (.ref t) (upd H' t (pV (ledF L A' p.1 c, ledF L B' p.2 c)))) → tS σ H' Q)
    (q : ∀ H', Same H H' → Q (optV (dueT L A' B' y z)) H') :
    ∃ t, PSs (cxOf CX0 P w K mg base firN "_law_first" (defScope s_law_first) g cdg A outer s H E0).nox (defBody s_law_first) t ∧ t { nx := fun _ H' => Q .non H', rt := Q } (start firN [.str (tx L), .ref p0, .ref f1, .ref f2]) H := by
    have sc := sc_law_first
    refine ⟨_, (pss_cons (ps_par (i := 5) (j := 6) rfl sc.nd rfl rfl (by decide) rfl rfl (pa_cons (pe_lst (pa_cons (pe_tup (pa_cons pe_str (pa_cons (pv 1) pa_nil))) pa_nil)) (pa_cons (pe_lst (pa_cons (pv 1) pa_nil)) pa_nil)) (by rfl))
      (pss_cons (ps_for PassesOwn.never rfl (pi_range1 rfl T.b_range (pa_cons pe_int pa_nil)) (pg_name (i := 4) (x := "_law_turn") sc.nd rfl (Or.inl rfl))
        (pss_one (ps_for PassesOwn.never rfl (pi_list (pe_slice sl_list (pv 5) (po_some (pv 4)) (po_some (pe_op op_add (pv 4) pe_int)))) (pg_tup rfl (pgs_cons (pg_name (i := 7) (x := "_law_text_here") sc.nd rfl (Or.inl rfl)) (pgs_cons (pg_name (i := 8) (x := "_law_thing") sc.nd rfl (Or.inl rfl)) pgs_nil)))
          (pss_cons (ps_if (pt_val (aG _ _ _))
            (pss_one (ps_ret (pv 7)))
            pss_nil)
          (pss_one (ps_for PassesOwn.never rfl (pi_str (pv 0)) (pg_name (i := 9) (x := "_law_sign") sc.nd rfl (Or.inl rfl))
            (pss_cons (ps_set (i := 10) sc.nd rfl (Or.inl rfl) (aS _ _ _ _))
            (pss_one (ps_if (pt_cmpR (op_notInD (units65 hr)) (pv 10) (pv 6) rfl)
              (pss_cons (ps_expr (pe_bm PySem.F.plainAttrs_list PySem.F.slot_list_append PySem.F.type_list_append mt_append (pv 6) (pa_cons (pv 10) pa_nil)))
              (pss_one (ps_expr (pe_bm PySem.F.plainAttrs_list PySem.F.slot_list_append PySem.F.type_list_append mt_append (pv 5) (pa_cons (pe_tup (pa_cons (pe_op op_add_str (pv 7) (pv 9)) (pa_cons (pv 10) pa_nil))) pa_nil)))))
              pss_nil)))))))))
      (pss_one (ps_ret pe_non)))), ?_⟩
    have hPin := lawSc_in hL.nodup hA hB
    have hN2 : ∀ l : List NP, l.Nodup → (∀ x ∈ l, PIn A'.length B'.length x) → l.length ≤ 2500 := fun l hd hb => Nat.le_trans (pairs_bound l hd hb) (Nat.mul_le_mul nA nB)
    obtain ⟨m, t, r⟩ := b_runs (good := both y z) (P := PIn A'.length B'.length) hPin 2500 hN2 (x0 := (0, 0)) ⟨hA.n, hB.n⟩
    have hres : dueT L A' B' y z = (t.2[t.1]?).map (·.1) := by
      unfold dueT bRes bEnd
      rw [fin_eq r]
    rw [hres] at q
    refine ⟨_, rfl, by show (2 : Nat) ≤ sizeLine; exact line8 (by omega), fun a0 ha0 => ⟨by show (1 : Nat) ≤ sizeLine; exact line8 (by omega), fun F hF => ⟨_, rfl, by show (1 : Nat) ≤ sizeLine; exact line8 (by omega), fun M hM => ⟨_, _, rfl, ?_⟩⟩⟩⟩
    have n1 := same_new (o := .tup [.str (Str.ofString ""), .ref p0]) ha0
    have ea := upd_same (H := H) (a := a0) (o := .tup [.str (Str.ofString ""), .ref p0])
    have hF0 := none_of n1 hF
    have n2 := same_new (o := .lst [.ref a0]) hF
    have eF := upd_same (H := upd H a0 (.tup [.str (Str.ofString ""), .ref p0])) (a := F) (o := .lst [.ref a0])
    have hM0 := none_of (n1.trans n2) hM
    have hFM : F ≠ M := ne_of_none eF hM
    have n3 := same_new (o := .lst [.ref p0]) hM
    have eM := upd_same (H := upd (upd H a0 (.tup [.str (Str.ofString ""), .ref p0])) F (.lst [.ref a0])) (a := M) (o := .lst [.ref p0])
    have s0 := n1.trans (n2.trans n3)
    have eF := n3 _ _ eF
    have ea := (n2.trans n3) _ _ ea
    have ep := s0 _ _ hp0
    dsimp only
    generalize upd (upd (upd H a0 (.tup [.str (Str.ofString ""), .ref p0])) F (.lst [.ref a0])) M (.lst [.ref p0]) = H0 at eF eM ea ep s0
    have ea : H0 a0 = some (.tup [.str (tx []), .ref p0]) := ea
    have tup_up : ∀ {H' : Hp} {D : Addr} {o : HO} {xs : List V}, H' D = some (.lst xs) → ∀ a ys, H' a = some (.tup ys) → upd H' D o a = some (.tup ys) := fun h a ys e => by rw [upd_ne (fun z => by rw [z, h] at e; cases e)]; exact e
    refine seq_via (fun σ' Hc => t.2[t.1]? = none ∧ Same H Hc) ?_ fun k => ?_
    · rintro σ' Hc ⟨h1, s1⟩
      rw [h1] at q
      exact q _ s1
    · refine ⟨3000, rfl, by omega, by omega, ?_⟩
      refine for_it (walk_range (n := 3000)) (fun i σ' H' => ∃ as bs qq o4 o7 o8 o9 o10, ((∃ m', Runs (bStep (lawSc L A' B') (both y z)) (BI (PIn A'.length B'.length)) m' (i, qq) t) ∨ (t.2[t.1]? = none ∧ t.1 ≤ i ∧ qq = t.2)) ∧
        σ' = [some (.str (tx L)), some (.ref p0), some (.ref f1), some (.ref f2), o4, some (.ref F), some (.ref M), o7, o8, o9, o10] ∧ Same H H' ∧ H' F = some (.lst (as.map V.ref)) ∧ H' M = some (.lst (bs.map V.ref)) ∧ QAt H' as bs qq)
        ⟨[a0], [p0], [([], (0, 0))], _, _, _, _, _, .inl ⟨m, r⟩, rfl, s0, eF, eM, ⟨rfl, rfl, fun i a b e h1 h2 h3 => ?_⟩⟩ (fun _ _ _ _ _ => trivial) ?_ ?_
      · cases i with
        | zero =>
          simp at h1 h2 h3
          subst h1 h2 h3
          exact ⟨ea, ep⟩
        | succ i => simp at h3
      · rintro i x σ' H1x H1 hi ⟨as, bs, qq, o4, o7, o8, o9, o10, hst, rfl, s1, eF1, eM1, hq⟩ ⟨rfl, rfl⟩
        dsimp only [gName]
        refine ⟨_, rfl, _, rfl, _, rfl, _, rfl, _, _, rfl, rfl, _, rfl, F, _, rfl, SqL.of eF1, fun S hS => ?_⟩
        rw [Int.zero_add, cutV_one]
        have hS0 := none_of s1 hS
        have nS := same_new (o := .lst (((as.map V.ref)[i]?).toList)) hS
        have eS := upd_same (H := H1) (a := S) (o := .lst (((as.map V.ref)[i]?).toList))
        have s2 := s1.trans nS
        have eF2 := nS _ _ eF1
        have eM2 := nS _ _ eM1
        have hq2 := hq.of fun a xs e => nS _ _ e
        have hSF : S ≠ F := fun z => by rw [z, eF1] at hS; cases hS
        have hSM : S ≠ M := fun z => by rw [z, eM1] at hS; cases hS
        generalize upd H1 S (.lst (((as.map V.ref)[i]?).toList)) = H2 at eS s2 eF2 eM2 hq2
        refine ⟨S, rfl, ⟨_, SqL.of eS⟩, ?_⟩
        by_cases hlt : i < qq.length
        · have hqi : qq[i]? = some qq[i] := List.getElem?_eq_getElem hlt
          generalize qq[i] = en at hqi
          obtain ⟨a, b, ha, hb, ea3, eb3⟩ := hq2.get hqi
          have hsl : ((as.map V.ref)[i]?).toList = [V.ref a] := by rw [List.getElem?_map, ha]; rfl
          rw [hsl] at eS
          have hR : ∃ m', Runs (bStep (lawSc L A' B') (both y z)) (BI (PIn A'.length B'.length)) m' (i, qq) t := by
            rcases hst with h | ⟨h1, h2, h3⟩
            · exact h
            · exfalso
              have := List.getElem?_eq_none_iff.mp h1
              rw [h3] at hlt
              omega
          obtain ⟨m1, r1⟩ := hR
          have hi1 := r1.inv
          have hp : PIn A'.length B'.length en.2 := hi1.p en (List.mem_of_getElem? hqi)
          have hN1 := b_len hN2 hi1
          have het : en.1.length ≤ i := hi1.t en (List.mem_of_getElem? hqi)
          refine for_it (walk_list (K := K) (a := S) (xs := ([V.ref a] : List V))) (fun j σ' Hc => (j = 0 ∧ Hc = H2 ∧ σ' = [some (.str (tx L)), some (.ref p0), some (.ref f1), some (.ref f2), some (.int i), some (.ref F), some (.ref M), o7, o8, o9, o10]) ∨
            (j = 1 ∧ Hc S = some (.lst [V.ref a]) ∧ ∃ as bs qq o4 o7 o8 o9 o10, ((∃ m', Runs (bStep (lawSc L A' B') (both y z)) (BI (PIn A'.length B'.length)) m' (i + 1, qq) t) ∨ (t.2[t.1]? = none ∧ t.1 ≤ i + 1 ∧ qq = t.2)) ∧
            σ' = [some (.str (tx L)), some (.ref p0), some (.ref f1), some (.ref f2), o4, some (.ref F), some (.ref M), o7, o8, o9, o10] ∧ Same H Hc ∧ Hc F = some (.lst (as.map V.ref)) ∧ Hc M = some (.lst (bs.map V.ref)) ∧ QAt Hc as bs qq))
            (.inl ⟨rfl, rfl, rfl⟩) (fun j σ' Hc _ h => ?_) ?_ ?_
          · rcases h with ⟨_, rfl, _⟩ | ⟨_, h, _⟩
            · exact SqL.of eS
            · exact SqL.of h
          · rintro j v σ' H3 H4 hj h ⟨rfl, hv⟩
            have hj0 : j = 0 := by simp at hj; omega
            subst hj0
            rcases h with ⟨_, rfl, rfl⟩ | ⟨h, _⟩
            · simp at hv
              subst hv
              refine ⟨a, _, rfl, SqT.of ea3, rfl, _, _, rfl, _, _, rfl, rfl, ?_⟩
              refine hG [some (.str (tx L)), some (.ref p0), some (.ref f1), some (.ref f2), some (.int i), some (.ref F), some (.ref M), some (.str (tx en.1)), some (.ref b), o9, o10] _ _ b en.2 s2 rfl rfl eb3 hp ?_
              refine ⟨both y z en.2, rfl, ?_⟩
              cases hgood : both y z en.2 with
              | true =>
                refine iteT ⟨_, rfl, ?_⟩
                have ht : t = (i, qq) := by
                  cases r1 with
                  | stop i e => rfl
                  | go _ e r3 =>
                    unfold bStep at e
                    dsimp only at e
                    rw [hqi] at e
                    dsimp only at e
                    rw [if_pos hgood] at e
                    cases e
                rw [ht] at q
                dsimp only at q
                rw [hqi] at q
                exact q _ s2
              | false =>
                refine iteF ?_
                have hqk : ∀ k, (((((lawSc L A' B' en.2).take k).foldl (addQ en.1) qq).map (·.2)).Nodup ∧ (∀ e ∈ ((lawSc L A' B' en.2).take k).foldl (addQ en.1) qq, PIn A'.length B'.length e.2)) := fun k => by
                  obtain ⟨a1, a2, _, _⟩ := addQs_ok (P := PIn A'.length B'.length) (t := en.1) (k := i + 1) (by omega) ((lawSc L A' B' en.2).take k) qq (fun c hc => hPin en.2 hp c (List.mem_of_mem_take hc)) hi1.nd hi1.p fun e he => by have := hi1.t e he; omega
                  exact ⟨a1, a2⟩
                have hcl : (lawSc L A' B' en.2).length = L.length := by unfold lawSc; simp
                refine ⟨_, rfl, _, rfl, ?_⟩
                refine for_it walk_str (fun j σ' Hc => ∃ as bs o9 o10, σ' = [some (.str (tx L)), some (.ref p0), some (.ref f1), some (.ref f2), some (.int i), some (.ref F), some (.ref M), some (.str (tx en.1)), some (.ref b), o9, o10] ∧
                  Same H Hc ∧ Hc F = some (.lst (as.map V.ref)) ∧ Hc M = some (.lst (bs.map V.ref)) ∧ QAt Hc as bs (((lawSc L A' B' en.2).take j).foldl (addQ en.1) qq) ∧ Hc S = some (.lst [V.ref a]) ∧ Hc b = some (pV en.2))
                  ⟨as, bs, _, _, rfl, s2, eF2, eM2, hq2, eS, eb3⟩ (fun _ _ _ _ _ => trivial) ?_ ?_
                · rintro j v σ' Hy Hc hj ⟨as, bs, o9, o10, rfl, s3, eF3, eM3, hq3, eS3, eb4⟩ ⟨rfl, c, hc, rfl⟩
                  have hjl : j < L.length := by simpa [tx_size] using hj
                  have hcj : L[j]? = some c := by
                    have : (tx L).cps[j]? = L[j]? := by rw [← Array.getElem?_toList]; simp [tx]
                    rw [← this]
                    exact hc
                  have hcL : c ∈ L := List.mem_of_getElem? hcj
                  have hzj : (lawSc L A' B' en.2)[j]? = some (c, (ledF L A' en.2.1 c, ledF L B' en.2.2 c)) := by unfold lawSc; rw [List.getElem?_map, hcj]; rfl
                  have hnext := take_fold (f := addQ en.1) (a := qq) hzj
                  obtain ⟨hnd, hPk⟩ := hqk j
                  rw [hnext]
                  generalize ((lawSc L A' B' en.2).take j).foldl (addQ en.1) qq = qk at hq3 hnd hPk
                  have hNk : qk.length ≤ 2500 := by
                    have := hN2 _ hnd fun x hx => by
                      obtain ⟨e, he, rfl⟩ := List.mem_map.mp hx
                      exact hPk e he
                    simpa using this
                  refine hStep [some (.str (tx L)), some (.ref p0), some (.ref f1), some (.ref f2), some (.int i), some (.ref F), some (.ref M), some (.str (tx en.1)), some (.ref b), some (.str (tx [c])), o10] _ _ b en.2 c s3 rfl rfl rfl eb4 hp hcL fun d hd => ?_
                  generalize hlt2 : (ledF L A' en.2.1 c, ledF L B' en.2.2 c) = lt
                  have sd := same_new (o := pV lt) hd
                  have ed := upd_same (H := Hc) (a := d) (o := pV lt)
                  have s5 := s3.trans sd
                  have eF5 := sd _ _ eF3
                  have eM5 := sd _ _ eM3
                  have eS5 := sd _ _ eS3
                  have eb5 := sd _ _ eb4
                  have hq5 := hq3.of fun a xs e => sd _ _ e
                  generalize upd Hc d (pV lt) = H5 at ed s5 eF5 eM5 eS5 eb5 hq5
                  refine ⟨_, rfl, _, rfl, pD lt, (qk.map (·.2)).map pD, .tup (SqT.of ed) (.cons (.int _) (.cons (.int _) .nil)), .lst (SqL.of eM5) hq5.dp, pD_shaped _, pDs_shaped _, _, rfl, ?_⟩
                  rw [pD_any]
                  by_cases hm : lt ∈ qk.map (·.2)
                  · have ea : addQ en.1 qk (c, lt) = qk := by unfold addQ; rw [if_pos hm]
                    rw [ea, decide_eq_true hm]
                    exact iteF ⟨as, bs, _, _, rfl, s5, eF5, eM5, hq5, eS5, eb5⟩
                  · have ea : addQ en.1 qk (c, lt) = qk ++ [(en.1 ++ [c], lt)] := by unfold addQ; rw [if_neg hm]
                    rw [ea, decide_eq_false hm]
                    refine iteT ⟨_, rfl, .inl ⟨rfl, _, SqL.of eM5⟩, _, rfl, M, _, _, rfl, rfl, eM5, by rw [List.length_map, hq5.2.1]; exact line9 (by omega), ?_⟩
                    have eF6 : (upd H5 M (.lst (bs.map V.ref ++ [.ref d]))) F = some (.lst (as.map V.ref)) := by rw [upd_ne hFM]; exact eF5
                    have eS6 : (upd H5 M (.lst (bs.map V.ref ++ [.ref d]))) S = some (.lst [V.ref a]) := by rw [upd_ne hSM]; exact eS5
                    have eM6 : (upd H5 M (.lst (bs.map V.ref ++ [.ref d]))) M = some (.lst ((bs ++ [d]).map V.ref)) := by rw [upd_same, List.map_append]; rfl
                    have up6 := tup_up (o := .lst (bs.map V.ref ++ [.ref d])) eM5
                    have s6 := same_upd (o := .lst (bs.map V.ref ++ [.ref d])) s5 hM0
                    have eb6 := up6 _ _ eb5
                    have ed6 := up6 _ _ ed
                    have hq6 := hq5.of up6
                    generalize upd H5 M (.lst (bs.map V.ref ++ [.ref d])) = H6 at eF6 eS6 eM6 s6 eb6 ed6 hq6
                    refine ⟨_, rfl, .inl ⟨rfl, _, SqL.of eF6⟩, _, rfl, _, rfl, _, _, rfl, rfl, ?_, _, rfl, by show (2 : Nat) ≤ sizeLine; exact line8 (by omega), fun l hl => ⟨F, _, _, rfl, rfl, same_new hl _ _ eF6, by rw [List.length_map, hq5.1]; exact line9 (by omega), ?_⟩⟩
                    · rw [tx_len]
                      show en.1.length + 1 ≤ sizeLine
                      exact line8 (by omega)
                    · have etx : tx en.1 ++ (⟨#[c]⟩ : Str) = tx (en.1 ++ [c]) := tx_app en.1 [c]
                      rw [etx]
                      have nl := same_new (o := .tup [.str (tx (en.1 ++ [c])), .ref d]) hl
                      have el := upd_same (H := H6) (a := l) (o := .tup [.str (tx (en.1 ++ [c])), .ref d])
                      have eF7 := nl _ _ eF6
                      have up7 := tup_up (o := .lst (as.map V.ref ++ [.ref l])) eF7
                      refine ⟨as ++ [l], bs ++ [d], _, _, rfl, same_upd (s6.trans nl) hF0, by rw [upd_same, List.map_append]; rfl, by rw [upd_ne hFM.symm]; exact nl _ _ eM6, ?_, by rw [upd_ne hSF]; exact nl _ _ eS6, up7 _ _ (nl _ _ eb6)⟩
                      exact ((hq6.of fun a xs e => nl _ _ e).of up7).snoc (up7 _ _ el) (up7 _ _ (nl _ _ ed6))
                · rintro σ' Hc ⟨as, bs, o9, o10, rfl, s3, eF3, eM3, hq3, eS3, eb4⟩
                  rw [tx_size, ← hcl, List.take_length] at hq3
                  refine .inr ⟨rfl, eS3, as, bs, _, _, _, _, _, _, .inl ?_, rfl, s3, eF3, eM3, hq3⟩
                  cases r1 with
                  | stop i e =>
                    unfold bStep at e
                    dsimp only at e
                    rw [hqi] at e
                    dsimp only at e
                    rw [if_neg (by rw [hgood]; decide)] at e
                    cases e
                  | @go m3 _ s' _ i e r3 =>
                    unfold bStep at e
                    dsimp only at e
                    rw [hqi] at e
                    dsimp only at e
                    rw [if_neg (by rw [hgood]; decide)] at e
                    have e := (Option.some.inj e).symm
                    subst e
                    exact ⟨m3, r3⟩
            · cases h
          · rintro σ' Hc h
            rcases h with ⟨h, _⟩ | ⟨_, _, as, bs, qq, o4, o7, o8, o9, o10, h⟩
            · cases h
            · exact ⟨as, bs, qq, o4, o7, o8, o9, o10, h⟩
        · have hno : ((as.map V.ref)[i]?).toList = [] := by rw [List.getElem?_eq_none (by rw [List.length_map, hq.1]; omega)]; rfl
          rw [hno] at eS
          refine for_it (walk_list (K := K) (a := S) (xs := ([] : List V))) (fun j σ' Hc => Hc = H2 ∧ σ' = [some (.str (tx L)), some (.ref p0), some (.ref f1), some (.ref f2), some (.int i), some (.ref F), some (.ref M), o7, o8, o9, o10]) ⟨rfl, rfl⟩ (fun j σ' Hc _ h => by rw [h.1]; exact SqL.of eS) (fun j v σ' H3 H4 hj => by simp at hj) ?_
          rintro σ' Hc ⟨rfl, rfl⟩
          refine ⟨as, bs, qq, _, _, _, _, _, .inr ?_, rfl, s2, eF2, eM2, hq2⟩
          have hnil : qq[i]? = none := List.getElem?_eq_none (by omega)
          rcases hst with ⟨m1, r1⟩ | ⟨h1, h2, h3⟩
          · cases r1 with
            | stop _ e => exact ⟨hnil, by show i ≤ i + 1; omega, rfl⟩
            | go _ e _ =>
              unfold bStep at e
              dsimp only at e
              rw [hnil] at e
              cases e
          · exact ⟨h1, by omega, h3⟩
      · rintro σ' H1 ⟨as, bs, qq, o4, o7, o8, o9, o10, hst, rfl, s1, eF1, eM1, hq⟩
        refine k [] _ ⟨?_, s1⟩
        rcases hst with ⟨m', r1⟩ | ⟨h1, _, _⟩
        · have hb := r1.inv
          have h1 := hb.le
          have h2 := b_len hN2 hb
          dsimp only at h1 h2
          omega
        · exact h1
end
end An
end
section
set_option Elab.async false
set_option maxRecDepth 100000
set_option maxHeartbeats 4000000
set_option linter.all false
/-! common, with its two lambdas. -/
namespace An
open PySem PySem.Spec PyProof.Rows L2 LamX
section
variable {P : Program} {w : World} {K : PySem.W.Frag} {mg : Str → Option Value} {base : Heap}
/-- a def whose code object is known -/
theorem okC {x qual : Str} {st : Stmt} {f : Addr} {fd : FuncData} {N ps : List Str} {k : Nat} {sp : Sp} (F : Fun K x qual st f fd) {cdv : Value} (hc : fd.code = cdv) (S : FnScope N ps (defScope st)) (len : ∀ vs H Q E, sp vs H Q E → vs.length = ps.length)
    (hbody : ∀ (A : Around) (outer : List Env) (s : Shared) (H : Hp) (vs : List V) (Q : VK) (E : XK), Room k (A.deeper (envOfC qual (defScope st) s.heap.objs.size f cdv)) → sp vs H Q E →
      ∃ t, PSs (cxOf L2.CX0 P w K mg base N qual (defScope st) f cdv A outer s H E).nox (defBody st) t ∧ t { nx := fun _ H' => Q .non H', rt := Q } (L2.start N vs) H) : FnOk P w K mg base L2.CX0 (k + 1) f fd ps sp := by
  obtain ⟨oc, od, kV, doc, pm, an, cd2, ct, osl, rfl, lk, hcd⟩ := F.ex
  obtain rfl : cd2 = cdv := hc
  refine fn_of lk hcd S len fun A outer s H vs Q E hr hsp => ?_
  obtain ⟨t, h, q⟩ := hbody A outer s H vs Q E hr hsp
  exact ⟨t, h.nox, q⟩
end
def comArgs : List Expr := match defBody s_law_common with
  | [.Return (some (.Call _ as _ _)) _] => as
  | _ => []
def lamSc : Expr → Scope
  | .Lambda _ _ sc _ => sc
  | _ => defScope s_law_common
def lamB : Expr → Expr
  | .Lambda _ b _ _ => b
  | e => e
def lamA : Expr → Arguments
  | .Lambda a _ _ _ => a
  | _ => defArgs s_law_common
abbrev comN : List Str := ["_law_one", "_law_other", "_law_pair", "_law_sign"]
def lam1 : Expr := comArgs.getD 2 (.Name "_law_one" ⟨0, 0, 0, 0⟩)
def lam2 : Expr := comArgs.getD 3 (.Name "_law_one" ⟨0, 0, 0, 0⟩)
theorem lamP1 : LamP ["_law_pair", "_law_sign"] (defScope s_law_common) (lamSc lam1) := ⟨by decide +kernel, by decide +kernel, by decide +kernel, by decide +kernel, by decide +kernel, by decide +kernel⟩
theorem lamP2 : LamP ["_law_pair"] (defScope s_law_common) (lamSc lam2) := ⟨by decide +kernel, by decide +kernel, by decide +kernel, by decide +kernel, by decide +kernel, by decide +kernel⟩
section
variable {P : Program} {w : World} {K : PySem.W.Frag} {mg : Str → Option Value} {base : Heap}
theorem slots1 {v u : V} {vs : List V} {us : List Value} (r : Vals vs us) (hl : vs.length = 2) : Slots comN (lamSc lam1) [some v, some u, none, none] [some v, some u, vs[0]?, vs[1]?] ((["_law_pair", "_law_sign"] : List Str).zip us) := by
  refine ⟨rfl, fun i y x e1 e2 hv => ?_⟩
  match vs, us, r, hl with
  | [a, b], _, .cons ra (.cons rb .nil), _ =>
    match i with
    | 0 =>
      cases e1
      exact .inr ⟨by decide +kernel, e2⟩
    | 1 =>
      cases e1
      exact .inr ⟨by decide +kernel, e2⟩
    | 2 =>
      cases e1
      cases e2
      exact .inl ⟨by decide +kernel, _, ra, rfl⟩
    | 3 =>
      cases e1
      cases e2
      exact .inl ⟨by decide +kernel, _, rb, rfl⟩
    | i + 4 => cases e1
theorem slots2 {v u : V} {vs : List V} {us : List Value} (r : Vals vs us) (hl : vs.length = 1) : Slots comN (lamSc lam2) [some v, some u, none, none] [some v, some u, vs[0]?, none] ((["_law_pair"] : List Str).zip us) := by
  refine ⟨rfl, fun i y x e1 e2 hv => ?_⟩
  match vs, us, r, hl with
  | [a], _, .cons ra .nil, _ =>
    match i with
    | 0 =>
      cases e1
      exact .inr ⟨by decide +kernel, e2⟩
    | 1 =>
      cases e1
      exact .inr ⟨by decide +kernel, e2⟩
    | 2 =>
      cases e1
      cases e2
      exact .inl ⟨by decide +kernel, _, ra, rfl⟩
    | 3 => cases e2
    | i + 4 => cases e1
def sp_law_common (K : PySem.W.Frag) (PT : Addr) : Sp := fun vs H Q _ => ∃ (R S : Rd3) (v u : V), vs = [v, u] ∧ H PT = some (.tbl #[]) ∧ Dp K H v (rdD R) ∧ Dp K H u (rdD S) ∧ RTab R ∧ RTab S ∧ R.1 = S.1 ∧ ∀ H', KeepD K H H' → Q (optV (Due R S)) H'
def tCom (K : PySem.W.Frag) (PT : Addr) (v u : V) (R S : Rd3) : TE := fun σ H Q => σ = [some v, some u, none, none] ∧ H PT = some (.tbl #[]) ∧ Dp K H v (rdD R) ∧ Dp K H u (rdD S) ∧ ∀ H', KeepD K H H' → Q (optV (Due R S)) H'
theorem sc_law_common : FnScope comN ["_law_one", "_law_other"] (defScope s_law_common) := ⟨rfl, rfl, rfl, by decide +kernel, rfl, by decide +kernel, by decide +kernel⟩
theorem ok_law_common (T : Tx K mg) {c PT : Addr} (hc : T.law_common.fd.code = .ref c) (TB : TabB base mg c PT) : FnOk P w K mg base L2.CX0 4 T.law_common.f T.law_common.fd ["_law_one", "_law_other"] (sp_law_common K PT) := by
  have sc := sc_law_common
  refine okC T.law_common.F hc sc (fun vs H Q E h => ?_) (fun A outer s H vs Q E hr h => ?_)
  · obtain ⟨_, _, _, _, rfl, _⟩ := h; rfl
  · obtain ⟨⟨L, A', y⟩, ⟨L2, B', z⟩, v, u, rfl, hT, hdR, hdS, hR, hS, hRS, q⟩ := h
    obtain rfl : L = L2 := hRS
    refine ⟨_, pss_one (ps_ret (te := tCom K PT v u (L, A', y) (L, B', z)) ⟨fun pins s0 σ H0 Q0 I h => ?_⟩), ?_⟩
    · obtain ⟨rfl, hT, hdR, hdS, q⟩ := h
      refine wpAny_Call_Name_kw (ld_glob I rfl T.law_first.m ?_ (by decide))
      refine PySem.W.callWith_K (h₀ := base) I.ok.mod.kin T.law_first.F.kp ?_ (by rfl) (by rfl)
      refine Calls.spliced_cons (thn ((pe_ix ix_D (pv 0) pe_int (fun _ _ => rfl)).run pins s0 _ H0 (fun x H' => x = .str (tx L) ∧ H' = H0) I ?_) fun u1 s1 ⟨x1, H1, I1, r1, q1⟩ => ?_)
      · exact ⟨_, rfl, [tD L, rowsD A', yesD y], 0, _, hdR, rfl, rfl, fun z hz => ⟨dp_str hz, rfl⟩⟩
      obtain ⟨rfl, rfl⟩ := q1
      refine Calls.spliced_cons (thn ((pe_tup (x1 := 0) (pa_cons pe_int (pa_cons pe_int pa_nil))).run pins s1 _ H1 (fun x H' => ∃ p, x = .ref p ∧ H1 p = none ∧ H' = upd H1 p (pV (0, 0))) I1 ⟨by show (2 : Nat) ≤ sizeLine; exact line8 (by omega), fun p hp => ⟨p, rfl, hp, rfl⟩⟩) fun u2 s2 ⟨x2, H2, I2, r2, q2⟩ => ?_)
      obtain ⟨p0, rfl, hp0, rfl⟩ := q2
      have n2 := same_new (o := pV (0, 0)) hp0
      have ep0 := upd_same (H := H1) (a := p0) (o := pV (0, 0))
      generalize upd H1 p0 (pV (0, 0)) = H2 at I2 n2 ep0
      have out : ∀ {f : Addr}, f ∉ frs (cxOf L2.CX0 P w K mg base comN "_law_common" (defScope s_law_common) T.law_common.f (Value.ref c) A outer s H E).nox.stack → f ≠ (cxOf L2.CX0 P w K mg base comN "_law_common" (defScope s_law_common) T.law_common.f (Value.ref c) A outer s H E).nox.env.locals ∧ f ∉ (cxOf L2.CX0 P w K mg base comN "_law_common" (defScope s_law_common) T.law_common.f (Value.ref c) A outer s H E).nox.fs := fun {f} hf => by
        have hf : f ∉ s.heap.objs.size :: frs outer := hf
        simp only [List.mem_cons, not_or] at hf
        exact hf
      refine Calls.spliced_cons ?_
      rw [if_neg Bool.false_ne_true]
      refine (lam_make2 (T := [(PT, _)]) I2 TB rfl (List.mem_singleton.mpr rfl) (fun p hp _ => by rw [List.mem_singleton.mp hp]) (fun p hp => by rw [List.mem_singleton.mp hp]; exact TabS.nil (n2 _ _ hT)) rfl (lamP1.has I2.ok) fun f1 c1 pm1 ct1 H3 s3 I3 e3 T3 hf1 hn1 hfr1 hc1 => ?_)
      have J3 := I3.pins_of (pins' := pins ++ [(f1, _)]) (fun p hp => by
        rcases List.mem_append.mp hp with hp | hp
        · exact I3.pin p (List.mem_append_right _ hp)
        · rw [List.mem_singleton.mp hp]
          exact ⟨hf1, hn1, (out hfr1).1, (out hfr1).2, fun v z => nomatch z⟩)
      refine Calls.spliced_cons ?_
      rw [if_neg Bool.false_ne_true]
      refine (lam_make2 (T := [(PT, _)]) J3 TB rfl (List.mem_singleton.mpr rfl) (fun p hp _ => by rw [List.mem_singleton.mp hp]) T3 rfl (lamP2.has J3.ok) fun f2 c2 pm2 ct2 H4 s4 J4 e4 T4 hf2 hn2 hfr2 hc2 => ?_)
      obtain ⟨hf1b, hn1b, _⟩ := J4.pin (f1, _) (List.mem_append_right _ (List.mem_append_right _ (List.mem_singleton.mpr rfl)))
      dsimp only at hf1b hn1b
      have I4 := J4.unpinned
      refine Calls.spliced_nil ⟨I4.kIn, ?_⟩
      have hc1b := e4 _ _ hc1 (fun ps => codeO_ne ps)
      have kd : KeepD K H1 H4 := fun x d h => keepD_ext (e3.trans e4) _ _ (dp_same n2 _ _ h)
      have dR4 := kd _ _ hdR
      have dS4 := kd _ _ hdS
      have ep4 := (e3.trans e4) _ _ ep0 (fun ps z => by cases z)
      obtain ⟨oc, od, kV, doc, pm, an, cdg, ct, osl, hfd, lk, hcd⟩ := T.law_first.F.ex
      have hb := T.law_first.b
      rw [hfd] at lk hb
      have rc : codeAny (model P w) (A.deeper (envOfC "_law_common" (defScope s_law_common) s.heap.objs.size T.law_common.f (Value.ref c))) (.call (.ref T.law_first.f) ⟨[u1, u2, .ref f1, .ref f2], []⟩)
          (CR L2.CX0 (envOfC "_law_common" (defScope s_law_common) s.heap.objs.size T.law_common.f (Value.ref c) :: outer) P w H4 s4 Q0 L2.E0) s4 := by
        refine run_ofS (N := firN) (k := 2) (ps := ["_law_letters", "_law_pairs", "_law_step", "_law_is_good"]) (us := [u1, u2, .ref f1, .ref f2]) (vs := [.str (tx L), .ref p0, .ref f1, .ref f2]) lk hcd sc_law_first hr I4.env0 (hb s4 _ I4.kIn rfl) (.cons r1 (.cons r2 (.cons rfl (.cons rfl .nil)))) rfl fun hr' => ?_
        have G := first_gives (f1 := f1) (f2 := f2) (P := P) (w := w) (base := base) (A' := A') (B' := B') (y := y) (z := z) (Q := Q0) T hr' hR.l hR.t hS.t hR.n hS.n ep4
          (fun q1 q2 q3 => pe_actP (i := 3) (ps := ["_law_pair"]) (fun vs => [some v, some u, vs[0]?, none]) I4 lamP2 hf2 hn2 hfr2 (fun us hl => match us, hl with | [_], _ => rfl) (fun vs us r hl => slots2 r hl) hr' (fun A o s H hr2 => PE.nox (pe_and (pe_ix (r := rIxD K) ix_D (pe_ix (r := rIxD K) ix_D (pv 0) pe_int (fun _ _ => rfl)) (pe_ix (r := rIxT K) ix_tup (pv 2) pe_int (fun _ _ => rfl)) (fun _ _ => rfl)) (pe_one (pe_ix (r := rIxD K) ix_D (pe_ix (r := rIxD K) ix_D (pv 1) pe_int (fun _ _ => rfl)) (pe_ix (r := rIxT K) ix_tup (pv 2) pe_int (fun _ _ => rfl)) (fun _ _ => rfl))))) (pa_cons (pv 8) pa_nil) rfl (Or.inl rfl))
          (fun q1 q2 q3 q4 => pe_actP (i := 2) (ps := ["_law_pair", "_law_sign"]) (fun vs => [some v, some u, vs[0]?, vs[1]?]) I4 lamP1 hf1b hn1b hfr1 (fun us hl => match us, hl with | [_, _], _ => rfl) (fun vs us r hl => slots1 r hl) hr' (fun A o s H hr2 => PE.nox (pe_tup (pa_cons (pe_callD T.law_led (ok_law_led T) hr2 (pa_cons (pv 0) (pa_cons (pe_ix (r := rIxT K) ix_tup (pv 2) pe_int (fun _ _ => rfl)) (pa_cons (pv 3) pa_nil)))) (pa_cons (pe_callD T.law_led (ok_law_led T) hr2 (pa_cons (pv 1) (pa_cons (pe_ix (r := rIxT K) ix_tup (pv 2) pe_int (fun _ _ => rfl)) (pa_cons (pv 3) pa_nil)))) pa_nil)))) (pa_cons (pv 8) (pa_cons (pv 9) pa_nil)) rfl (Or.inl rfl))
          (fun σ H' Q b p s3 e3 e8 eb hp q => ?_) (fun σ H' Q b p cc s3 e3 e8 e9 eb hp hcL q => ?_) (fun H' s' => ?_)
        · obtain ⟨t, ht, hq⟩ := G
          exact ⟨t, ht.nox, hq⟩
        · refine ⟨e3, .ref b, e8, rfl, s3 _ _ hc2, ?_⟩
          have dR5 := dp_same s3 _ _ dR4
          have dS5 := dp_same s3 _ _ dS4
          have hy1 : p.1 < y.length := by rw [hR.y]; exact hp.1
          have hz1 : p.2 < z.length := by rw [hS.y]; exact hp.2
          refine ⟨_, rfl, [tD L, rowsD A', yesD y], 2, _, dR5, rfl, rfl, fun w1 hw1 => ⟨_, rfl, b, _, 0, _, rfl, rfl, SqT.of eb, rfl, y.map PyData.bool, p.1, .bool (y.getD p.1 false), hw1, rfl, ?_, fun w2 hw2 => ?_⟩⟩
          · rw [List.getElem?_map, List.getD_eq_getElem?_getD, List.getElem?_eq_getElem hy1]; rfl
          cases dp_bl hw2
          refine ⟨_, rfl, ?_⟩
          unfold both at q
          cases hg : y.getD p.1 false with
          | false =>
            rw [hg] at q
            exact iteF q
          | true =>
            rw [hg] at q
            refine iteT ⟨_, rfl, [tD L, rowsD B', yesD z], 2, _, dS5, rfl, rfl, fun w3 hw3 => ⟨_, rfl, b, _, 1, _, rfl, rfl, SqT.of eb, rfl, z.map PyData.bool, p.2, .bool (z.getD p.2 false), hw3, rfl, ?_, fun w4 hw4 => ?_⟩⟩
            · rw [List.getElem?_map, List.getD_eq_getElem?_getD, List.getElem?_eq_getElem hz1]; rfl
            cases dp_bl hw4
            exact q
        · refine ⟨e3, .ref b, e8, _, e9, rfl, s3 _ _ hc1b, ?_⟩
          have dR5 := dp_same s3 _ _ dR4
          have dS5 := dp_same s3 _ _ dS4
          refine ⟨_, rfl, _, rfl, b, _, 0, _, rfl, rfl, SqT.of eb, rfl, _, rfl, (L, A', y), v, p.1, cc, rfl, dR5, hR, hp.1, hcL, ?_⟩
          refine ⟨_, rfl, _, rfl, b, _, 1, _, rfl, rfl, SqT.of eb, rfl, _, rfl, (L, B', z), u, p.2, cc, rfl, dS5, hS, hp.2, hcL, ?_⟩
          exact ⟨by show (2 : Nat) ≤ sizeLine; exact line8 (by omega), fun t ht => q t ht⟩
        · exact q _ fun x d h => dp_same s' _ _ (kd _ _ h)
      refine wpAny_call (codeAny_mono rc fun r s' hq => ?_)
      cases r with
      | error e => exact (show False from hq).elim
      | ok fl =>
        cases fl with
        | ret u => exact I4.after hq
        | next => exact False.elim hq
        | brk => exact False.elim hq
        | cont => exact False.elim hq
    · exact ⟨rfl, hT, hdR, hdS, q⟩
end
end An
end
section
set_option Elab.async false
set_option maxRecDepth 100000
set_option maxHeartbeats 4000000
set_option linter.all false
/-! The law. -/
namespace An
open PySem PySem.Spec PyProof.Rows L2
/-- a written list, at an address that no kept object has -/
def tLstK (K : PySem.W.Frag) (t : TA) : TE := fun σ H Q => t σ H fun xs H1 => xs.length ≤ sizeLine ∧ ∀ p, H1 p = none → K.lookup p = none → Q (.ref p) (upd H1 p (.lst xs))
theorem pe_lstK {X : Cx} {es : List Expr} {t : TA} {pos : Pos} (h : PA X es t) : PE X (.List es pos) (tLstK X.K t) := by
  constructor
  intro pins s σ H Q I hq
  refine wpAny_List_spliced (thn (h.run pos pins s σ H _ I hq) ?_)
  rintro us s1 ⟨xs, H1, I1, r, z, q⟩
  have nb : H1 s1.heap.objs.size = none := I1.hok.fresh (Nat.le_refl _)
  have nk : X.K.lookup s1.heap.objs.size = none := by
    cases e : X.K.lookup s1.heap.objs.size with
    | none => rfl
    | some o => exact absurd (Heap.lt_size (I1.kIn _ _ e)) (Nat.lt_irrefl _)
  have I2 := I1.laid (o := .lst xs) (t' := s1.toks) (fun b u e => Heap.get?_push_of_some _ e) (Nat.le_refl s1.heap.objs.size) ⟨z, us, 0, r, Heap.get?_push_size _ rfl⟩
  exact ⟨by rw [← r.length]; exact z, .ref s1.heap.objs.size, _, I2, rfl, q _ nb nk⟩
theorem row_ne {K : PySem.W.Frag} {H : Hp} {a r : Addr} {xs : List V} (h : SqL K H a xs) (n : H r = none) (n2 : K.lookup r = none) : a ≠ r := by
  rintro rfl
  rcases h with (h | ⟨o, h⟩) | ⟨o, _, _, h, _⟩
  · rw [n] at h; cases h
  · rw [n] at h; cases h
  · rw [n2] at h; cases h
theorem sqt_x {K : PySem.W.Frag} {H H' : Hp} {r sc a : Addr} {xs : List V} (row : RowAt K H r sc) (s : SameX r H H') (h : SqT K H a xs) : SqT K H' a xs := by
  obtain ⟨_, _, _, _, _, _, g, _⟩ := row
  rcases h with (h | ⟨o, h⟩) | h
  · exact .inl (.inl (s _ _ (fun z => by rw [z, g] at h; cases h) h))
  · exact .inl (.inr ⟨o, s _ _ (fun z => by rw [z, g] at h; cases h) h⟩)
  · exact .inr h
theorem dp_pl {K : PySem.W.Frag} {H H' : Hp} (st : ∀ a xs, SqT K H a xs → SqT K H' a xs) : ∀ (n : Nat) (d : PyData) (v : V), Plain n d → Dp K H v d → Dp K H' v d
  | _, .none, _, _, h => by cases h; exact .non
  | _, .bool _, _, _, h => by cases h; exact .bl _
  | _, .int _, _, _, h => by cases h; exact .int _
  | _, .str _, _, _, h => by cases h; exact .str _
  | n + 1, .tuple ds, _, p, h => by
    cases h with
    | tup h1 h2 =>
      refine .tup (st _ _ h1) (dpAll_of (dpAll_len h2) fun i x d hx hd => ?_)
      obtain ⟨z, hz, dz⟩ := dpAll_get h2 hd
      rw [hz] at hx
      cases hx
      exact dp_pl st n d _ (p.2 d (List.mem_of_getElem? hd)) dz
  | 0, .tuple _, _, p, _ => False.elim p
  | n, .list _, _, p, _ => by cases n <;> exact False.elim p
  | n, .dict _, _, p, _ => by cases n <;> exact False.elim p
theorem plain_rd {R : Rd3} (h1 : R.2.1.length ≤ 1000) (h2 : ∀ r ∈ R.2.1, r.length ≤ 1000) (h3 : R.2.2.length ≤ 1000) : Plain 3 (rdD R) := by
  refine ⟨by show (3 : Nat) ≤ 1000; omega, fun d hd => ?_⟩
  simp only [List.mem_cons, List.not_mem_nil, or_false] at hd
  rcases hd with rfl | rfl | rfl
  · exact True.intro
  · refine ⟨by rw [List.length_map]; exact h1, fun d hd => ?_⟩
    obtain ⟨r, hr, rfl⟩ := List.mem_map.mp hd
    refine ⟨by rw [List.length_map]; exact h2 r hr, fun d hd => ?_⟩
    obtain ⟨x, hx, rfl⟩ := List.mem_map.mp hd
    exact True.intro
  · refine ⟨by rw [List.length_map]; exact h3, fun d hd => ?_⟩
    obtain ⟨x, hx, rfl⟩ := List.mem_map.mp hd
    exact True.intro
theorem plain_ks {ks : List Kd} (h : ks.length ≤ 1000) : Plain 2 (ksD ks) := by
  refine ⟨by rw [List.length_map]; exact h, fun d hd => ?_⟩
  obtain ⟨x, hx, rfl⟩ := List.mem_map.mp hd
  refine ⟨by show (2 : Nat) ≤ 1000; omega, fun d hd => ?_⟩
  simp only [List.mem_cons, List.not_mem_nil, or_false] at hd
  rcases hd with rfl | rfl <;> exact True.intro
theorem plain_tab {R : Rd3} (h : RTab R) : Plain 3 (rdD R) := by
  have h1 := h.n
  refine plain_rd (by omega) (fun r hr => ?_) (by rw [h.y]; omega)
  rw [(h.t.r r hr).1]
  have := h.l.le
  omega
def optD : Option (List Nat) → PyData
  | none => .none
  | some t => .str (tx t)
theorem optD_dp {K : PySem.W.Frag} {H : Hp} (o : Option (List Nat)) : Dp K H (optV o) (optD o) := by
  cases o with
  | none => exact .non
  | some t => exact .str _
theorem optD_plain (o : Option (List Nat)) : Plain 0 (optD o) := by cases o <;> exact True.intro
section
variable {P : Program} {w : World} {K : PySem.W.Frag} {mg : Str → Option Value} {base : Heap}
def sp_law (K : PySem.W.Frag) (PT : Addr) : Sp := fun vs H Q _ => ∃ (a : Addr) (ns : List Int), vs = [.ref a] ∧ SqL K H a (ns.map V.int) ∧ H PT = some (.tbl #[]) ∧ ∀ H', Q (.bl true) H'
theorem sc_law : FnScope ["_law_script", "_law_row", "_law_letters", "_law_due", "_law_one", "_law_other", "_law_kinds_here", "_law_left", "_law_right", "e"] ["_law_script"] (defScope s_law) := ⟨rfl, rfl, rfl, by decide +kernel, rfl, by decide +kernel, by decide +kernel⟩
theorem ok_law (T : Tx K mg) (T2 : Tx2 K mg) (D : DefAt K mg "law" "law" s_law ["_law_script"]) {c PT : Addr} (hc : T.law_common.fd.code = .ref c) (TB : LamX.TabB base mg c PT) : FnOk P w K mg base CX0 9 D.f D.fd ["_law_script"] (sp_law K PT) := by
  have sc := sc_law
  refine D.F.ok sc (fun vs H Q E h => ?_) (fun cdv A outer s H vs Q E hr h => ?_)
  · obtain ⟨_, _, rfl, _⟩ := h; rfl
  · obtain ⟨a, ns, rfl, hs, hT, q⟩ := h
    refine ⟨_, (pss_cons (ps_set (i := 1) sc.nd rfl (Or.inl rfl) (pe_lstK (pa_cons (pv 0) (pa_cons pe_int (pa_cons pe_int (pa_cons pe_int pa_nil))))))
      (pss_cons (ps_set (i := 2) sc.nd rfl (Or.inl rfl) (pe_callD T.law_two (ok_law_two T) (hr.mono (by decide)) (pa_cons (pv 1) pa_nil)))
      (pss_cons (ps_par3 (i := 4) (j := 5) (l := 6) rfl sc.nd rfl rfl rfl (by decide) (by decide) (by decide) rfl rfl rfl (pa_cons (pe_callD T.law_reader (ok_law_reader T) (hr.mono (by decide)) (pa_cons (pv 1) (pa_cons (pv 2) (pa_cons pe_int pa_nil)))) (pa_cons (pe_callD T.law_reader (ok_law_reader T) (hr.mono (by decide)) (pa_cons (pv 1) (pa_cons (pv 2) (pa_cons pe_int pa_nil)))) (pa_cons (pe_callD T.law_kinds (ok_law_kinds T) (hr.mono (by decide)) (pa_cons (pv 1) (pa_cons (pv 2) (pa_cons pe_int pa_nil)))) pa_nil))) (by rfl))
      (pss_cons (ps_par (i := 7) (j := 8) rfl sc.nd rfl rfl (by decide) rfl rfl (pa_cons (pe_callD T.comes (ok_comes T) (hr.mono (by decide)) (pa_cons (pv 4) (pa_cons (pv 6) pa_nil))) (pa_cons (pe_callD T.comes (ok_comes T) (hr.mono (by decide)) (pa_cons (pv 5) (pa_cons (pv 6) pa_nil))) pa_nil)) (by rfl))
      (pss_cons (ps_set (i := 3) sc.nd rfl (Or.inl rfl) (pe_callD T.law_common (ok_law_common T hc TB) (hr.mono (by decide)) (pa_cons (pv 7) (pa_cons (pv 8) pa_nil))))
      (pss_cons (ps_if (PW.pt (pw_or (pt_not (pt_val (pe_callD T.law_alike (ok_alike T 1) (hr.mono (by decide)) (pa_cons (pe_callD T.meeting (ok_meeting T) (hr.mono (by decide)) (pa_cons (pv 4) (pa_cons (pv 5) (pa_cons (pv 6) pa_nil)))) (pa_cons (pv 3) pa_nil))))) (pw_or1 (pt_not (pt_val (pe_callD T.law_is (ok_law_is T) (hr.mono (by decide)) (pa_cons (pe_callD T.are_apart (ok_are_apart T) (hr.mono (by decide)) (pa_cons (pv 4) (pa_cons (pv 5) (pa_cons (pv 6) pa_nil)))) (pa_cons (pe_cmpR op_isN (pv 3) pe_non (nomark _)) pa_nil))))))))
        (pss_one (ps_ret pe_bl))
        pss_nil)
      (pss_cons (ps_if (pt_cmpR op_ne (pe_callD T.meeting (ok_meeting T) (hr.mono (by decide)) (pa_cons (pv 5) (pa_cons (pv 4) (pa_cons (pv 6) pa_nil)))) (pv 3) (nomark _))
        (pss_one (ps_ret pe_bl))
        pss_nil)
      (pss_one (ps_try_as (i := 9) (c := .ref T2.EC) (tb := fun W => tRet (tAndV (tCall (sp_alike K 4) [] E0 (tCons (tCallS (sp_teller K T2.EC) (WE W) (tCons (tVar 4) (tCons (tVar 5) (tCons (tVar 6) tNil)))) (tCons (tVar 7) tNil))) _)) (ts := fun _ _ _ => tRet _) (Wout := fun _ _ _ _ => False) rfl rfl sc.nd rfl rfl ⟨rfl, by decide, Or.inl T2.gE⟩ takes0 (fun W pn xe tk _ => pss_one (ps_ret (pe_and (pe_callD T.law_alike (ok_alike T 4) (hr.mono (by decide)) (pa_cons (by exact (pe_callS (ok_teller T T2) (hr.mono (by decide)) rfl T.teller.m T.teller.F.kp T.teller.b (fun σ => passAt tk σ) (by exact (pa_cons (pv 4) (pa_cons (pv 5) (pa_cons (pv 6) pa_nil)))))) (pa_cons (pv 7) pa_nil))) (pe_one (pe_cmpR op_isN (pv 3) pe_non (nomark _)))))) (fun a oe cls d pn hz hf => pss_one (ps_ret (pe_cmpR op_notN (pv 3) pe_non (nomark _))))))))))))), ?_⟩
    refine ⟨_, rfl, by show (4 : Nat) ≤ sizeLine; exact line8 (by omega), fun r hr0 hrK => ?_⟩
    have n1 := same_new (o := .lst [.ref a, .int 0, .int 7419, .int 0]) hr0
    have row1 : RowAt K (upd H r (.lst [.ref a, .int 0, .int 7419, .int 0])) r a := ⟨ns, 0, 7419, 0, row_ne hs hr0 hrK, same_l n1 hs, upd_same, by omega, by omega⟩
    have T1 := n1 _ _ hT
    have hPr : PT ≠ r := ne_of_none hT hr0
    generalize upd H r (.lst [.ref a, .int 0, .int 7419, .int 0]) = H1 at row1 T1 n1
    dsimp only [gName]
    refine ⟨_, rfl, r, a, rfl, row1, fun H2 L hL s2 row2 => ?_⟩
    refine ⟨_, rfl, _, rfl, r, a, L, rfl, hL, row2, fun H3 v R hR eR nR dR3 s3 row3 => ?_⟩
    refine ⟨_, rfl, _, rfl, r, a, L, rfl, hL, row3, fun H4 u S hS eS nS dS4 s4 row4 => ?_⟩
    refine ⟨_, rfl, _, rfl, r, a, L, rfl, hL, row4, fun H5 k ks hK dk5 s5 row5 => ?_⟩
    have pR : Plain 3 (rdD R) := plain_rd (by omega) (fun x hx => by rw [(hR.r x hx).1]; have := hR.l.le; omega) (by rw [hR.y]; omega)
    have pS : Plain 3 (rdD S) := plain_rd (by omega) (fun x hx => by rw [(hS.r x hx).1]; have := hS.l.le; omega) (by rw [hS.y]; omega)
    have dR5 := dp_pl (fun a xs h => sqt_x row4 s5 (sqt_x row3 s4 h)) 3 _ _ pR dR3
    have dS5 := dp_pl (fun a xs h => sqt_x row4 s5 h) 3 _ _ pS dS4
    have T5 := s5 _ _ hPr (s4 _ _ hPr (s3 _ _ hPr (s2 _ _ hPr T1)))
    refine ⟨_, _, _, rfl, ?_⟩
    have d5 : Drawn K H5 R S ks v u k := ⟨dR5, dS5, hR, hS, by omega, by omega, by rw [eR, eS], dk5, by rw [eR]; exact hK⟩
    refine ⟨_, rfl, _, rfl, R, ks, v, k, rfl, d5.dv, d5.rR, d5.n, d5.dk, d5.kK, fun H6 lv s6 dl6 => ?_⟩
    have d6 := d5.same s6
    refine ⟨_, rfl, _, rfl, S, ks, u, k, rfl, d6.du, d6.rS, d6.m, d6.dk, (by rw [← d6.e]; exact d6.kK), fun H7 rv s7 dr7 => ?_⟩
    have d7 := d6.same s7
    have dl7 := dp_same s7 _ _ dl6
    obtain ⟨tR, eqR⟩ := come_tab (ks := ks) hR (by omega)
    obtain ⟨tS, eqS⟩ := come_tab (ks := ks) hS (by omega)
    refine ⟨_, _, rfl, ?_⟩
    refine ⟨_, rfl, _, rfl, Come R ks, Come S ks, lv, rv, rfl, s7 _ _ (s6 _ _ T5), dl7, dr7, tR, tS, by rw [eqR, eqS, eR, eS], fun H8 kd => ?_⟩
    have d8 : Drawn K H8 R S ks v u k := ⟨kd _ _ d7.dv, kd _ _ d7.du, hR, hS, d7.n, d7.m, d7.e, kd _ _ d7.dk, d7.kK⟩
    have dl8 := kd _ _ dl7
    generalize hD : Due (Come R ks) (Come S ks) = due
    dsimp only [gName]
    refine ⟨_, rfl, _, rfl, _, rfl, R, S, ks, v, u, k, rfl, d8, fun H9 s9 => ?_⟩
    rw [hD]
    refine ⟨_, rfl, optD due, _, _, rfl, optD_plain _, optD_dp _, optD_dp _, fun H10 s10 => ?_⟩
    have d10 := d8.same (s9.trans s10)
    refine ⟨_, rfl, iteF ⟨_, rfl, _, rfl, _, rfl, R, S, ks, v, u, k, rfl, d10, fun H11 s11 => ?_⟩⟩
    rw [hD]
    refine ⟨_, rfl, rfl, due.isNone, due.isNone, by rw [optV_non]; rfl, ?_⟩
    rw [beq_self_eq_true]
    refine ⟨_, rfl, iteF ?_⟩
    have s8 := s9.trans (s10.trans s11)
    have d11 := d8.same s8
    have d11s : Drawn K H11 S R ks u v k := ⟨d11.du, d11.dv, hS, hR, d11.m, d11.n, d11.e.symm, d11.dk, by rw [← d11.e]; exact d11.kK⟩
    dsimp only
    refine ⟨_, rfl, _, rfl, _, rfl, S, R, ks, u, v, k, rfl, d11s, fun H12 s12 => ?_⟩
    have hsw : Due (Come S ks) (Come R ks) = due := by
      rw [← hD]
      unfold Due
      rw [eqS, eqR, eS, eR]
      have q1 := tR.t
      have q2 := tS.t
      rw [eqR, eR] at q1
      rw [eqS, eS] at q2
      exact due_swap hL.nodup q1 q2
    rw [hsw]
    refine ⟨_, rfl, ?_, ?_⟩
    · cases due <;> rfl
    rw [show (!decide (optV due = optV due)) = false by simp]
    refine ⟨_, rfl, iteF ?_⟩
    have d12 := d11.same s12
    refine ⟨_, rfl, _, rfl, _, rfl, R, S, ks, v, u, k, rfl, d12, fun hn H13 rr s13 dr13 => ?_, fun hn H13 s13 => ?_⟩
    · rw [hD] at hn
      subst hn
      exact ⟨_, rfl, rdD (Come R ks), _, _, rfl, plain_tab tR, dr13, dp_same (s8.trans (s12.trans s13)) _ _ dl8, fun H14 s14 => ⟨_, rfl, iteT ⟨_, rfl, rfl, q _⟩⟩⟩
    · rw [hD] at hn
      refine ⟨true, T2.eE, fun _ a0 ha0 => ?_, fun z => nomatch z⟩
      cases due with
      | none => exact absurd rfl hn
      | some t => exact ⟨_, rfl, rfl, q _⟩
end
end An
end
section
set_option Elab.async false
set_option maxRecDepth 100000
set_option maxHeartbeats 8000000
set_option linter.all false
/-! The text's facts behind its top. -/
namespace An
open PySem PySem.Spec PyProof.Rows L2
section
variable {l : PySem.W.OpenLaw} {w : World} {K : PySem.W.Frag} {mg : Str → Option Value} {h : Heap}
def defAt_mk {x qual : Str} {st : Stmt} {ps : List Str} {f : Addr} {oc : Value} {od an : Option Addr} {osl : Array (Option Value)} {kV doc pm cdv ct : Value} (m : mg x = some (.ref f)) (l : K.lookup f = some ⟨oc, od, .func (PySem.W.fnOf x qual (defArgs st) (defBody st) (defScope st) .none kV doc pm an cdv ct), osl⟩)
    (c : PySem.W.codeIn K cdv qual = true) (k : PySem.W.keepIn K (.ref f) = true)
    (hb : ∀ (kV doc pm : Value) (an : Option Addr) (cdv ct : Value) (us : List Value), us.length = ps.length → bindArgs (PySem.W.fnOf x qual (defArgs st) (defBody st) (defScope st) .none kV doc pm an cdv ct) ⟨us, []⟩ = pure (ps.zip us)) : DefAt K mg x qual st ps :=
  ⟨f, PySem.W.fnOf x qual (defArgs st) (defBody st) (defScope st) .none kV doc pm an cdv ct, fun_mk l c k, m, (fun_mk l c k).binds hb⟩
def methAt_mk {x qual : Str} {C : Addr} {st : Stmt} {ps : List Str} {f : Addr} {oc : Value} {od an : Option Addr} {osl : Array (Option Value)} {kV doc pm cdv ct : Value} (a : PySem.W.findIn K (.ref C) x = some (some (.ref f))) (i : PySem.W.isFn K (.ref f) = true)
    (l : K.lookup f = some ⟨oc, od, .func (PySem.W.fnOf x qual (defArgs st) (defBody st) (defScope st) .none kV doc pm an cdv ct), osl⟩) (c : PySem.W.codeIn K cdv qual = true) (k : PySem.W.keepIn K (.ref f) = true)
    (hb : ∀ (kV doc pm : Value) (an : Option Addr) (cdv ct : Value) (us : List Value), us.length = ps.length → bindArgs (PySem.W.fnOf x qual (defArgs st) (defBody st) (defScope st) .none kV doc pm an cdv ct) ⟨us, []⟩ = pure (ps.zip us)) : MethAt K C x qual st ps :=
  ⟨f, PySem.W.fnOf x qual (defArgs st) (defBody st) (defScope st) .none kV doc pm an cdv ct, fun_mk l c k, ⟨a, i, k⟩, (fun_mk l c k).binds hb⟩
theorem isText_fun {f TD : Addr} {oc ocT : Value} {od odT an : Option Addr} {osl slT : Array (Option Value)} {kV doc pm cdv ct : Value} {nTD : Nat} {tTD : Tok} (l : K.lookup f = some ⟨oc, od, .func (PySem.W.fnOf "is_text" "is_text" (defArgs s_is_text) (defBody s_is_text) (defScope s_is_text) (.ref TD) kV doc pm an cdv ct), osl⟩)
    (c : PySem.W.codeIn K cdv "is_text" = true) (k : PySem.W.keepIn K (.ref f) = true) (lT : K.lookup TD = some ⟨ocT, odT, .seq #[.int 40 tTD] nTD, slT⟩) :
    FunD K "is_text" "is_text" (defArgs s_is_text) (defBody s_is_text) (defScope s_is_text) [.int 40] [] f (PySem.W.fnOf "is_text" "is_text" (defArgs s_is_text) (defBody s_is_text) (defScope s_is_text) (.ref TD) kV doc pm an cdv ct) :=
  ⟨⟨oc, od, .ref TD, kV, doc, pm, an, cdv, ct, osl, rfl, l, c, .inr ⟨by simp, TD, _, [.int 40 tTD], nTD, rfl, lT, rfl, .cons ⟨_, rfl⟩ .nil⟩, .inl rfl⟩, k⟩
def isText_mk {f TD : Addr} {oc ocT : Value} {od odT an : Option Addr} {osl slT : Array (Option Value)} {kV doc pm cdv ct : Value} {nTD : Nat} {tTD : Tok} (m : mg "is_text" = some (.ref f)) (l : K.lookup f = some ⟨oc, od, .func (PySem.W.fnOf "is_text" "is_text" (defArgs s_is_text) (defBody s_is_text) (defScope s_is_text) (.ref TD) kV doc pm an cdv ct), osl⟩)
    (c : PySem.W.codeIn K cdv "is_text" = true) (k : PySem.W.keepIn K (.ref f) = true) (lT : K.lookup TD = some ⟨ocT, odT, .seq #[.int 40 tTD] nTD, slT⟩) : DefAtD K mg "is_text" "is_text" s_is_text ["letters", "value", "most"] where
  f := f
  fd := PySem.W.fnOf "is_text" "is_text" (defArgs s_is_text) (defBody s_is_text) (defScope s_is_text) (.ref TD) kV doc pm an cdv ct
  dvs := [.int 40]
  F := isText_fun l c k lT
  m := m
  b := by
    obtain ⟨ds, r, b⟩ := (isText_fun l c k lT).binds1 (ps := ["letters", "value", "most"]) 3 1 (by simp) rfl fun _ _ _ _ _ _ _ us its hu hi => match us, its, hu, hi with | [_, _, _], [_], _, _ => ⟨_, rfl, rfl⟩
    cases r
    exact b
theorem exm_me {S : Addr} (b : PySem.W.subIn K (.ref S) (.type "BaseException") = some true) (i : PySem.W.isClsIn K S = true) (t : PySem.W.typeIn K (.ref S) = some (.type "type")) (s : PySem.W.subIn K (.ref S) (.ref S) = some true) :
    PySem.W.exmOne K (.ref S) (.ref S) = some true := by
  have i : (PySem.W.clsIn K S).isSome = true := i
  unfold PySem.W.exmOne
  simp [PySem.W.kitCls, b, i, t, s]
theorem all_mk (X : K.In h) (G : h.Ns mainGlobals mg) {fa : Addr} (hfa : mg "law" = some (.ref fa)) {f1 f2 f3 f4 f5 f6 f7 f8 f9 f10 f11 f12 f13 f14 f15 f16 f17 C f18 f19 f20 f21 f22 f23 f24 f25 f26 f27 f28 f29 f30 f31 f32 f33 f34 f35 f36 f37 f38 f39 f40 f41 f42 f43 f44 f45 f46 EC c PT TD : Addr} {od1 an1 od2 an2 od3 an3 od4 an4 od5 an5 od6 an6 od7 an7 od8 an8 od9 an9 od10 an10 od11 an11 od12 an12 od13 an13 od14 an14 od15 an15 od16 an16 od17 an17 od18 an18 od19 an19 od20 an20 od21 an21 od22 an22 od23 an23 od24 an24 od25 an25 od26 an26 od27 an27 od28 an28 od29 an29 od30 an30 od31 an31 od32 an32 od33 an33 od34 an34 od35 an35 od36 an36 od37 an37 od38 an38 od39 an39 od40 an40 od41 an41 od42 an42 od43 an43 od44 an44 od45 an45 od46 an46 odT : Option Addr} {sl1 sl2 sl3 sl4 sl5 sl6 sl7 sl8 sl9 sl10 sl11 sl12 sl13 sl14 sl15 sl16 sl17 sl18 sl19 sl20 sl21 sl22 sl23 sl24 sl25 sl26 sl27 sl28 sl29 sl30 sl31 sl32 sl33 sl34 sl35 sl36 sl37 sl38 sl39 sl40 sl41 sl42 sl43 sl44 sl45 sl46 slT : Array (Option Value)} {oc1 kV1 dc1 pm1 ct1 cd1 oc2 kV2 dc2 pm2 ct2 cd2 oc3 kV3 dc3 pm3 ct3 cd3 oc4 kV4 dc4 pm4 ct4 cd4 oc5 kV5 dc5 pm5 ct5 cd5 oc6 kV6 dc6 pm6 ct6 cd6 oc7 kV7 dc7 pm7 ct7 cd7 oc8 kV8 dc8 pm8 ct8 cd8 oc9 kV9 dc9 pm9 ct9 cd9 oc10 kV10 dc10 pm10 ct10 cd10 oc11 kV11 dc11 pm11 ct11 cd11 oc12 kV12 dc12 pm12 ct12 cd12 oc13 kV13 dc13 pm13 ct13 cd13 oc14 kV14 dc14 pm14 ct14 cd14 oc15 kV15 dc15 pm15 ct15 cd15 oc16 kV16 dc16 pm16 ct16 cd16 oc17 kV17 dc17 pm17 ct17 cd17 oc18 kV18 dc18 pm18 ct18 cd18 oc19 kV19 dc19 pm19 ct19 cd19 oc20 kV20 dc20 pm20 ct20 cd20 oc21 kV21 dc21 pm21 ct21 cd21 oc22 kV22 dc22 pm22 ct22 cd22 oc23 kV23 dc23 pm23 ct23 cd23 oc24 kV24 dc24 pm24 ct24 cd24 oc25 kV25 dc25 pm25 ct25 cd25 oc26 kV26 dc26 pm26 ct26 cd26 oc27 kV27 dc27 pm27 ct27 cd27 oc28 kV28 dc28 pm28 ct28 cd28 oc29 kV29 dc29 pm29 ct29 cd29 oc30 kV30 dc30 pm30 ct30 cd30 oc31 kV31 dc31 pm31 ct31 cd31 oc32 kV32 dc32 pm32 ct32 cd32 oc33 kV33 dc33 pm33 ct33 cd33 oc34 kV34 dc34 pm34 ct34 cd34 oc35 kV35 dc35 pm35 ct35 cd35 oc36 kV36 dc36 pm36 ct36 cd36 oc37 kV37 dc37 pm37 ct37 cd37 oc38 kV38 dc38 pm38 ct38 cd38 oc39 kV39 dc39 pm39 ct39 cd39 oc40 kV40 dc40 pm40 ct40 cd40 oc41 kV41 dc41 pm41 ct41 cd41 oc42 kV42 dc42 pm42 ct42 cd42 oc43 kV43 dc43 pm43 ct43 cd43 oc44 kV44 dc44 pm44 ct44 cd44 oc45 kV45 dc45 pm45 ct45 oc46 kV46 dc46 pm46 ct46 cd46 ocT : Value} {nTD : Nat} {tTD : Tok} {tc0 : Tok} {tc1 : Tok} {tc2 : Tok} {tc3 : Tok} {tc4 : Tok} {tc5 : Tok}
    (b0 : PySem.W.nsIn K mainGlobals "isinstance" = some none)
    (b1 : PySem.W.nsIn K mainGlobals "int" = some none)
    (b2 : PySem.W.nsIn K mainGlobals "bool" = some none)
    (b3 : PySem.W.nsIn K mainGlobals "str" = some none)
    (b4 : PySem.W.nsIn K mainGlobals "tuple" = some none)
    (b5 : PySem.W.nsIn K mainGlobals "list" = some none)
    (b6 : PySem.W.nsIn K mainGlobals "dict" = some none)
    (b7 : PySem.W.nsIn K mainGlobals "len" = some none)
    (b8 : PySem.W.nsIn K mainGlobals "all" = some none)
    (b9 : PySem.W.nsIn K mainGlobals "any" = some none)
    (b10 : PySem.W.nsIn K mainGlobals "zip" = some none)
    (b11 : PySem.W.nsIn K mainGlobals "set" = some none)
    (b12 : PySem.W.nsIn K mainGlobals "sorted" = some none)
    (b13 : PySem.W.nsIn K mainGlobals "range" = some none)
    (b14 : PySem.W.nsIn K mainGlobals "enumerate" = some none)
    (g0 : PySem.W.nsIn K mainGlobals "SMALL" = some (some (.str "abcdefghijklmnopqrstuvwxyz" tc0)))
    (g1 : PySem.W.nsIn K mainGlobals "MOST_LETTERS" = some (some (.int 4 tc1)))
    (g2 : PySem.W.nsIn K mainGlobals "MOST_SIGNS" = some (some (.int 40 tc2)))
    (g3 : PySem.W.nsIn K mainGlobals "MOST_KINDS" = some (some (.int 12 tc3)))
    (g4 : PySem.W.nsIn K mainGlobals "MOST_STANDS" = some (some (.int 200 tc4)))
    (g5 : PySem.W.nsIn K mainGlobals "MOST_LOTS" = some (some (.int 20000 tc5)))
    (a1 : PySem.W.nsIn K mainGlobals "is_integer" = some (some (.ref f1)))
    (l1 : K.lookup f1 = some ⟨oc1, od1, .func (PySem.W.fnOf "is_integer" "is_integer" (defArgs s_is_integer) (defBody s_is_integer) (defScope s_is_integer) .none kV1 dc1 pm1 an1 cd1 ct1), sl1⟩)
    (c1 : PySem.W.codeIn K cd1 "is_integer" = true)
    (k1 : PySem.W.keepIn K (.ref f1) = true)
    (a2 : PySem.W.nsIn K mainGlobals "is_from" = some (some (.ref f2)))
    (l2 : K.lookup f2 = some ⟨oc2, od2, .func (PySem.W.fnOf "is_from" "is_from" (defArgs s_is_from) (defBody s_is_from) (defScope s_is_from) .none kV2 dc2 pm2 an2 cd2 ct2), sl2⟩)
    (c2 : PySem.W.codeIn K cd2 "is_from" = true)
    (k2 : PySem.W.keepIn K (.ref f2) = true)
    (a3 : PySem.W.nsIn K mainGlobals "is_letters" = some (some (.ref f3)))
    (l3 : K.lookup f3 = some ⟨oc3, od3, .func (PySem.W.fnOf "is_letters" "is_letters" (defArgs s_is_letters) (defBody s_is_letters) (defScope s_is_letters) .none kV3 dc3 pm3 an3 cd3 ct3), sl3⟩)
    (c3 : PySem.W.codeIn K cd3 "is_letters" = true)
    (k3 : PySem.W.keepIn K (.ref f3) = true)
    (a4 : PySem.W.nsIn K mainGlobals "is_text" = some (some (.ref f4)))
    (l4 : K.lookup f4 = some ⟨oc4, od4, .func (PySem.W.fnOf "is_text" "is_text" (defArgs s_is_text) (defBody s_is_text) (defScope s_is_text) (.ref TD) kV4 dc4 pm4 an4 cd4 ct4), sl4⟩)
    (c4 : PySem.W.codeIn K cd4 "is_text" = true)
    (k4 : PySem.W.keepIn K (.ref f4) = true)
    (a5 : PySem.W.nsIn K mainGlobals "is_kind" = some (some (.ref f5)))
    (l5 : K.lookup f5 = some ⟨oc5, od5, .func (PySem.W.fnOf "is_kind" "is_kind" (defArgs s_is_kind) (defBody s_is_kind) (defScope s_is_kind) .none kV5 dc5 pm5 an5 cd5 ct5), sl5⟩)
    (c5 : PySem.W.codeIn K cd5 "is_kind" = true)
    (k5 : PySem.W.keepIn K (.ref f5) = true)
    (a6 : PySem.W.nsIn K mainGlobals "are_kinds" = some (some (.ref f6)))
    (l6 : K.lookup f6 = some ⟨oc6, od6, .func (PySem.W.fnOf "are_kinds" "are_kinds" (defArgs s_are_kinds) (defBody s_are_kinds) (defScope s_are_kinds) .none kV6 dc6 pm6 an6 cd6 ct6), sl6⟩)
    (c6 : PySem.W.codeIn K cd6 "are_kinds" = true)
    (k6 : PySem.W.keepIn K (.ref f6) = true)
    (a7 : PySem.W.nsIn K mainGlobals "need_kinds" = some (some (.ref f7)))
    (l7 : K.lookup f7 = some ⟨oc7, od7, .func (PySem.W.fnOf "need_kinds" "need_kinds" (defArgs s_need_kinds) (defBody s_need_kinds) (defScope s_need_kinds) .none kV7 dc7 pm7 an7 cd7 ct7), sl7⟩)
    (c7 : PySem.W.codeIn K cd7 "need_kinds" = true)
    (k7 : PySem.W.keepIn K (.ref f7) = true)
    (a8 : PySem.W.nsIn K mainGlobals "is_line" = some (some (.ref f8)))
    (l8 : K.lookup f8 = some ⟨oc8, od8, .func (PySem.W.fnOf "is_line" "is_line" (defArgs s_is_line) (defBody s_is_line) (defScope s_is_line) .none kV8 dc8 pm8 an8 cd8 ct8), sl8⟩)
    (c8 : PySem.W.codeIn K cd8 "is_line" = true)
    (k8 : PySem.W.keepIn K (.ref f8) = true)
    (a9 : PySem.W.nsIn K mainGlobals "is_reader" = some (some (.ref f9)))
    (l9 : K.lookup f9 = some ⟨oc9, od9, .func (PySem.W.fnOf "is_reader" "is_reader" (defArgs s_is_reader) (defBody s_is_reader) (defScope s_is_reader) .none kV9 dc9 pm9 an9 cd9 ct9), sl9⟩)
    (c9 : PySem.W.codeIn K cd9 "is_reader" = true)
    (k9 : PySem.W.keepIn K (.ref f9) = true)
    (a10 : PySem.W.nsIn K mainGlobals "need_reader" = some (some (.ref f10)))
    (l10 : K.lookup f10 = some ⟨oc10, od10, .func (PySem.W.fnOf "need_reader" "need_reader" (defArgs s_need_reader) (defBody s_need_reader) (defScope s_need_reader) .none kV10 dc10 pm10 an10 cd10 ct10), sl10⟩)
    (c10 : PySem.W.codeIn K cd10 "need_reader" = true)
    (k10 : PySem.W.keepIn K (.ref f10) = true)
    (a11 : PySem.W.nsIn K mainGlobals "need_readers" = some (some (.ref f11)))
    (l11 : K.lookup f11 = some ⟨oc11, od11, .func (PySem.W.fnOf "need_readers" "need_readers" (defArgs s_need_readers) (defBody s_need_readers) (defScope s_need_readers) .none kV11 dc11 pm11 an11 cd11 ct11), sl11⟩)
    (c11 : PySem.W.codeIn K cd11 "need_readers" = true)
    (k11 : PySem.W.keepIn K (.ref f11) = true)
    (a12 : PySem.W.nsIn K mainGlobals "reached" = some (some (.ref f12)))
    (l12 : K.lookup f12 = some ⟨oc12, od12, .func (PySem.W.fnOf "reached" "reached" (defArgs s_reached) (defBody s_reached) (defScope s_reached) .none kV12 dc12 pm12 an12 cd12 ct12), sl12⟩)
    (c12 : PySem.W.codeIn K cd12 "reached" = true)
    (k12 : PySem.W.keepIn K (.ref f12) = true)
    (a13 : PySem.W.nsIn K mainGlobals "classes_of" = some (some (.ref f13)))
    (l13 : K.lookup f13 = some ⟨oc13, od13, .func (PySem.W.fnOf "classes_of" "classes_of" (defArgs s_classes_of) (defBody s_classes_of) (defScope s_classes_of) .none kV13 dc13 pm13 an13 cd13 ct13), sl13⟩)
    (c13 : PySem.W.codeIn K cd13 "classes_of" = true)
    (k13 : PySem.W.keepIn K (.ref f13) = true)
    (a14 : PySem.W.nsIn K mainGlobals "least_of" = some (some (.ref f14)))
    (l14 : K.lookup f14 = some ⟨oc14, od14, .func (PySem.W.fnOf "least_of" "least_of" (defArgs s_least_of) (defBody s_least_of) (defScope s_least_of) .none kV14 dc14 pm14 an14 cd14 ct14), sl14⟩)
    (c14 : PySem.W.codeIn K cd14 "least_of" = true)
    (k14 : PySem.W.keepIn K (.ref f14) = true)
    (a15 : PySem.W.nsIn K mainGlobals "paired" = some (some (.ref f15)))
    (l15 : K.lookup f15 = some ⟨oc15, od15, .func (PySem.W.fnOf "paired" "paired" (defArgs s_paired) (defBody s_paired) (defScope s_paired) .none kV15 dc15 pm15 an15 cd15 ct15), sl15⟩)
    (c15 : PySem.W.codeIn K cd15 "paired" = true)
    (k15 : PySem.W.keepIn K (.ref f15) = true)
    (a16 : PySem.W.nsIn K mainGlobals "first_text" = some (some (.ref f16)))
    (l16 : K.lookup f16 = some ⟨oc16, od16, .func (PySem.W.fnOf "first_text" "first_text" (defArgs s_first_text) (defBody s_first_text) (defScope s_first_text) .none kV16 dc16 pm16 an16 cd16 ct16), sl16⟩)
    (c16 : PySem.W.codeIn K cd16 "first_text" = true)
    (k16 : PySem.W.keepIn K (.ref f16) = true)
    (a17 : PySem.W.nsIn K mainGlobals "and_rule" = some (some (.ref f17)))
    (l17 : K.lookup f17 = some ⟨oc17, od17, .func (PySem.W.fnOf "and_rule" "and_rule" (defArgs s_and_rule) (defBody s_and_rule) (defScope s_and_rule) .none kV17 dc17 pm17 an17 cd17 ct17), sl17⟩)
    (c17 : PySem.W.codeIn K cd17 "and_rule" = true)
    (k17 : PySem.W.keepIn K (.ref f17) = true)
    (aC : PySem.W.nsIn K mainGlobals "Net" = some (some (.ref C)))
    (a18 : PySem.W.findIn K (.ref C) "__init__" = some (some (.ref f18)))
    (i18 : PySem.W.isFn K (.ref f18) = true)
    (l18 : K.lookup f18 = some ⟨oc18, od18, .func (PySem.W.fnOf "__init__" "Net.__init__" (defArgs s_Net__init_) (defBody s_Net__init_) (defScope s_Net__init_) .none kV18 dc18 pm18 an18 cd18 ct18), sl18⟩)
    (c18 : PySem.W.codeIn K cd18 "Net.__init__" = true)
    (k18 : PySem.W.keepIn K (.ref f18) = true)
    (a19 : PySem.W.findIn K (.ref C) "add" = some (some (.ref f19)))
    (i19 : PySem.W.isFn K (.ref f19) = true)
    (l19 : K.lookup f19 = some ⟨oc19, od19, .func (PySem.W.fnOf "add" "Net.add" (defArgs s_Net_add) (defBody s_Net_add) (defScope s_Net_add) .none kV19 dc19 pm19 an19 cd19 ct19), sl19⟩)
    (c19 : PySem.W.codeIn K cd19 "Net.add" = true)
    (k19 : PySem.W.keepIn K (.ref f19) = true)
    (a20 : PySem.W.findIn K (.ref C) "without_letters" = some (some (.ref f20)))
    (i20 : PySem.W.isFn K (.ref f20) = true)
    (l20 : K.lookup f20 = some ⟨oc20, od20, .func (PySem.W.fnOf "without_letters" "Net.without_letters" (defArgs s_Net_without_letters) (defBody s_Net_without_letters) (defScope s_Net_without_letters) .none kV20 dc20 pm20 an20 cd20 ct20), sl20⟩)
    (c20 : PySem.W.codeIn K cd20 "Net.without_letters" = true)
    (k20 : PySem.W.keepIn K (.ref f20) = true)
    (a21 : PySem.W.findIn K (.ref C) "by_letter" = some (some (.ref f21)))
    (i21 : PySem.W.isFn K (.ref f21) = true)
    (l21 : K.lookup f21 = some ⟨oc21, od21, .func (PySem.W.fnOf "by_letter" "Net.by_letter" (defArgs s_Net_by_letter) (defBody s_Net_by_letter) (defScope s_Net_by_letter) .none kV21 dc21 pm21 an21 cd21 ct21), sl21⟩)
    (c21 : PySem.W.codeIn K cd21 "Net.by_letter" = true)
    (k21 : PySem.W.keepIn K (.ref f21) = true)
    (a22 : PySem.W.findIn K (.ref C) "by_text" = some (some (.ref f22)))
    (i22 : PySem.W.isFn K (.ref f22) = true)
    (l22 : K.lookup f22 = some ⟨oc22, od22, .func (PySem.W.fnOf "by_text" "Net.by_text" (defArgs s_Net_by_text) (defBody s_Net_by_text) (defScope s_Net_by_text) .none kV22 dc22 pm22 an22 cd22 ct22), sl22⟩)
    (c22 : PySem.W.codeIn K cd22 "Net.by_text" = true)
    (k22 : PySem.W.keepIn K (.ref f22) = true)
    (a23 : PySem.W.findIn K (.ref C) "reader" = some (some (.ref f23)))
    (i23 : PySem.W.isFn K (.ref f23) = true)
    (l23 : K.lookup f23 = some ⟨oc23, od23, .func (PySem.W.fnOf "reader" "Net.reader" (defArgs s_Net_reader) (defBody s_Net_reader) (defScope s_Net_reader) .none kV23 dc23 pm23 an23 cd23 ct23), sl23⟩)
    (c23 : PySem.W.codeIn K cd23 "Net.reader" = true)
    (k23 : PySem.W.keepIn K (.ref f23) = true)
    (a24 : PySem.W.nsIn K mainGlobals "net_of" = some (some (.ref f24)))
    (l24 : K.lookup f24 = some ⟨oc24, od24, .func (PySem.W.fnOf "net_of" "net_of" (defArgs s_net_of) (defBody s_net_of) (defScope s_net_of) .none kV24 dc24 pm24 an24 cd24 ct24), sl24⟩)
    (c24 : PySem.W.codeIn K cd24 "net_of" = true)
    (k24 : PySem.W.keepIn K (.ref f24) = true)
    (a25 : PySem.W.nsIn K mainGlobals "ends_of" = some (some (.ref f25)))
    (l25 : K.lookup f25 = some ⟨oc25, od25, .func (PySem.W.fnOf "ends_of" "ends_of" (defArgs s_ends_of) (defBody s_ends_of) (defScope s_ends_of) .none kV25 dc25 pm25 an25 cd25 ct25), sl25⟩)
    (c25 : PySem.W.codeIn K cd25 "ends_of" = true)
    (k25 : PySem.W.keepIn K (.ref f25) = true)
    (a26 : PySem.W.nsIn K mainGlobals "filled" = some (some (.ref f26)))
    (l26 : K.lookup f26 = some ⟨oc26, od26, .func (PySem.W.fnOf "filled" "filled" (defArgs s_filled) (defBody s_filled) (defScope s_filled) .none kV26 dc26 pm26 an26 cd26 ct26), sl26⟩)
    (c26 : PySem.W.codeIn K cd26 "filled" = true)
    (k26 : PySem.W.keepIn K (.ref f26) = true)
    (a27 : PySem.W.nsIn K mainGlobals "come" = some (some (.ref f27)))
    (l27 : K.lookup f27 = some ⟨oc27, od27, .func (PySem.W.fnOf "come" "come" (defArgs s_come) (defBody s_come) (defScope s_come) .none kV27 dc27 pm27 an27 cd27 ct27), sl27⟩)
    (c27 : PySem.W.codeIn K cd27 "come" = true)
    (k27 : PySem.W.keepIn K (.ref f27) = true)
    (a28 : PySem.W.nsIn K mainGlobals "comes" = some (some (.ref f28)))
    (l28 : K.lookup f28 = some ⟨oc28, od28, .func (PySem.W.fnOf "comes" "comes" (defArgs s_comes) (defBody s_comes) (defScope s_comes) .none kV28 dc28 pm28 an28 cd28 ct28), sl28⟩)
    (c28 : PySem.W.codeIn K cd28 "comes" = true)
    (k28 : PySem.W.keepIn K (.ref f28) = true)
    (a29 : PySem.W.nsIn K mainGlobals "common_text" = some (some (.ref f29)))
    (l29 : K.lookup f29 = some ⟨oc29, od29, .func (PySem.W.fnOf "common_text" "common_text" (defArgs s_common_text) (defBody s_common_text) (defScope s_common_text) .none kV29 dc29 pm29 an29 cd29 ct29), sl29⟩)
    (c29 : PySem.W.codeIn K cd29 "common_text" = true)
    (k29 : PySem.W.keepIn K (.ref f29) = true)
    (a30 : PySem.W.nsIn K mainGlobals "meeting_of" = some (some (.ref f30)))
    (l30 : K.lookup f30 = some ⟨oc30, od30, .func (PySem.W.fnOf "meeting_of" "meeting_of" (defArgs s_meeting_of) (defBody s_meeting_of) (defScope s_meeting_of) .none kV30 dc30 pm30 an30 cd30 ct30), sl30⟩)
    (c30 : PySem.W.codeIn K cd30 "meeting_of" = true)
    (k30 : PySem.W.keepIn K (.ref f30) = true)
    (a31 : PySem.W.nsIn K mainGlobals "need_books" = some (some (.ref f31)))
    (l31 : K.lookup f31 = some ⟨oc31, od31, .func (PySem.W.fnOf "need_books" "need_books" (defArgs s_need_books) (defBody s_need_books) (defScope s_need_books) .none kV31 dc31 pm31 an31 cd31 ct31), sl31⟩)
    (c31 : PySem.W.codeIn K cd31 "need_books" = true)
    (k31 : PySem.W.keepIn K (.ref f31) = true)
    (a32 : PySem.W.nsIn K mainGlobals "are_apart" = some (some (.ref f32)))
    (l32 : K.lookup f32 = some ⟨oc32, od32, .func (PySem.W.fnOf "are_apart" "are_apart" (defArgs s_are_apart) (defBody s_are_apart) (defScope s_are_apart) .none kV32 dc32 pm32 an32 cd32 ct32), sl32⟩)
    (c32 : PySem.W.codeIn K cd32 "are_apart" = true)
    (k32 : PySem.W.keepIn K (.ref f32) = true)
    (a33 : PySem.W.nsIn K mainGlobals "meeting" = some (some (.ref f33)))
    (l33 : K.lookup f33 = some ⟨oc33, od33, .func (PySem.W.fnOf "meeting" "meeting" (defArgs s_meeting) (defBody s_meeting) (defScope s_meeting) .none kV33 dc33 pm33 an33 cd33 ct33), sl33⟩)
    (c33 : PySem.W.codeIn K cd33 "meeting" = true)
    (k33 : PySem.W.keepIn K (.ref f33) = true)
    (a34 : PySem.W.nsIn K mainGlobals "teller" = some (some (.ref f34)))
    (l34 : K.lookup f34 = some ⟨oc34, od34, .func (PySem.W.fnOf "teller" "teller" (defArgs s_teller) (defBody s_teller) (defScope s_teller) .none kV34 dc34 pm34 an34 cd34 ct34), sl34⟩)
    (c34 : PySem.W.codeIn K cd34 "teller" = true)
    (k34 : PySem.W.keepIn K (.ref f34) = true)
    (a35 : PySem.W.nsIn K mainGlobals "_law_taken" = some (some (.ref f35)))
    (l35 : K.lookup f35 = some ⟨oc35, od35, .func (PySem.W.fnOf "_law_taken" "_law_taken" (defArgs s_law_taken) (defBody s_law_taken) (defScope s_law_taken) .none kV35 dc35 pm35 an35 cd35 ct35), sl35⟩)
    (c35 : PySem.W.codeIn K cd35 "_law_taken" = true)
    (k35 : PySem.W.keepIn K (.ref f35) = true)
    (a36 : PySem.W.nsIn K mainGlobals "_law_pick" = some (some (.ref f36)))
    (l36 : K.lookup f36 = some ⟨oc36, od36, .func (PySem.W.fnOf "_law_pick" "_law_pick" (defArgs s_law_pick) (defBody s_law_pick) (defScope s_law_pick) .none kV36 dc36 pm36 an36 cd36 ct36), sl36⟩)
    (c36 : PySem.W.codeIn K cd36 "_law_pick" = true)
    (k36 : PySem.W.keepIn K (.ref f36) = true)
    (a37 : PySem.W.nsIn K mainGlobals "_law_alike" = some (some (.ref f37)))
    (l37 : K.lookup f37 = some ⟨oc37, od37, .func (PySem.W.fnOf "_law_alike" "_law_alike" (defArgs s_law_alike) (defBody s_law_alike) (defScope s_law_alike) .none kV37 dc37 pm37 an37 cd37 ct37), sl37⟩)
    (c37 : PySem.W.codeIn K cd37 "_law_alike" = true)
    (k37 : PySem.W.keepIn K (.ref f37) = true)
    (a38 : PySem.W.nsIn K mainGlobals "_law_text" = some (some (.ref f38)))
    (l38 : K.lookup f38 = some ⟨oc38, od38, .func (PySem.W.fnOf "_law_text" "_law_text" (defArgs s_law_text) (defBody s_law_text) (defScope s_law_text) .none kV38 dc38 pm38 an38 cd38 ct38), sl38⟩)
    (c38 : PySem.W.codeIn K cd38 "_law_text" = true)
    (k38 : PySem.W.keepIn K (.ref f38) = true)
    (a39 : PySem.W.nsIn K mainGlobals "_law_kinds" = some (some (.ref f39)))
    (l39 : K.lookup f39 = some ⟨oc39, od39, .func (PySem.W.fnOf "_law_kinds" "_law_kinds" (defArgs s_law_kinds) (defBody s_law_kinds) (defScope s_law_kinds) .none kV39 dc39 pm39 an39 cd39 ct39), sl39⟩)
    (c39 : PySem.W.codeIn K cd39 "_law_kinds" = true)
    (k39 : PySem.W.keepIn K (.ref f39) = true)
    (a40 : PySem.W.nsIn K mainGlobals "_law_reader" = some (some (.ref f40)))
    (l40 : K.lookup f40 = some ⟨oc40, od40, .func (PySem.W.fnOf "_law_reader" "_law_reader" (defArgs s_law_reader) (defBody s_law_reader) (defScope s_law_reader) .none kV40 dc40 pm40 an40 cd40 ct40), sl40⟩)
    (c40 : PySem.W.codeIn K cd40 "_law_reader" = true)
    (k40 : PySem.W.keepIn K (.ref f40) = true)
    (a41 : PySem.W.nsIn K mainGlobals "_law_led" = some (some (.ref f41)))
    (l41 : K.lookup f41 = some ⟨oc41, od41, .func (PySem.W.fnOf "_law_led" "_law_led" (defArgs s_law_led) (defBody s_law_led) (defScope s_law_led) .none kV41 dc41 pm41 an41 cd41 ct41), sl41⟩)
    (c41 : PySem.W.codeIn K cd41 "_law_led" = true)
    (k41 : PySem.W.keepIn K (.ref f41) = true)
    (a42 : PySem.W.nsIn K mainGlobals "_law_is" = some (some (.ref f42)))
    (l42 : K.lookup f42 = some ⟨oc42, od42, .func (PySem.W.fnOf "_law_is" "_law_is" (defArgs s_law_is) (defBody s_law_is) (defScope s_law_is) .none kV42 dc42 pm42 an42 cd42 ct42), sl42⟩)
    (c42 : PySem.W.codeIn K cd42 "_law_is" = true)
    (k42 : PySem.W.keepIn K (.ref f42) = true)
    (a43 : PySem.W.nsIn K mainGlobals "_law_two" = some (some (.ref f43)))
    (l43 : K.lookup f43 = some ⟨oc43, od43, .func (PySem.W.fnOf "_law_two" "_law_two" (defArgs s_law_two) (defBody s_law_two) (defScope s_law_two) .none kV43 dc43 pm43 an43 cd43 ct43), sl43⟩)
    (c43 : PySem.W.codeIn K cd43 "_law_two" = true)
    (k43 : PySem.W.keepIn K (.ref f43) = true)
    (a44 : PySem.W.nsIn K mainGlobals "_law_first" = some (some (.ref f44)))
    (l44 : K.lookup f44 = some ⟨oc44, od44, .func (PySem.W.fnOf "_law_first" "_law_first" (defArgs s_law_first) (defBody s_law_first) (defScope s_law_first) .none kV44 dc44 pm44 an44 cd44 ct44), sl44⟩)
    (c44 : PySem.W.codeIn K cd44 "_law_first" = true)
    (k44 : PySem.W.keepIn K (.ref f44) = true)
    (a45 : PySem.W.nsIn K mainGlobals "_law_common" = some (some (.ref f45)))
    (l45 : K.lookup f45 = some ⟨oc45, od45, .func (PySem.W.fnOf "_law_common" "_law_common" (defArgs s_law_common) (defBody s_law_common) (defScope s_law_common) .none kV45 dc45 pm45 an45 (.ref c) ct45), sl45⟩)
    (c45 : PySem.W.codeIn K (.ref c) "_law_common" = true)
    (k45 : PySem.W.keepIn K (.ref f45) = true)
    (a46 : PySem.W.nsIn K mainGlobals "law" = some (some (.ref f46)))
    (l46 : K.lookup f46 = some ⟨oc46, od46, .func (PySem.W.fnOf "law" "law" (defArgs s_law) (defBody s_law) (defScope s_law) .none kV46 dc46 pm46 an46 cd46 ct46), sl46⟩)
    (c46 : PySem.W.codeIn K cd46 "law" = true)
    (k46 : PySem.W.keepIn K (.ref f46) = true)
    (lTD : K.lookup TD = some ⟨ocT, odT, .seq #[.int 40 tTD] nTD, slT⟩)
    (pg : PySem.W.plainGet K C Str.empty = true)
    (hd : PySem.W.hasDictIn K C = true)
    (po : PySem.W.plainOver K C = true)
    (sa : PySem.W.findIn K (.ref C) "__setattr__" = some (some (.builtin "object.__setattr__")))
    (mk : PySem.W.makesIn K C = true)
    (kc : PySem.W.keepIn K (.ref C) = true)
    (nW : PySem.W.findIn K (.ref C) "ways" = some none)
    (aE : PySem.W.nsIn K mainGlobals "NotApart" = some (some (.ref EC)))
    (xE : PySem.W.excIn K EC veMro "ValueError.__new__" = true)
    (kE : PySem.W.keepIn K (.ref EC) = true)
    (bE : PySem.W.subIn K (.ref EC) (.type "BaseException") = some true)
    (tE : PySem.W.typeIn K (.ref EC) = some (.type "type"))
    (iE : PySem.W.isClsIn K EC = true)
    (sE : PySem.W.subIn K (.ref EC) (.ref EC) = some true)
    (hTab : h.get? PT = some (PySem.W.tabObj #[]))
    (nTab : K.lookup PT = none)
    (hCd : PySem.W.codeHdIn K c PT = true) :
    LamX.LawAtS l w K L2.CX0 9 63 "_law_script" mg fa h := by
  have e := hfa.symm.trans (PySem.W.mg_of X G a46)
  cases e
  let T : Tx K mg := {
    C := C,
    mgC := PySem.W.mg_of X G aC,
    b_isinstance := PySem.W.mg_none_of X G b0,
    b_int := PySem.W.mg_none_of X G b1,
    b_bool := PySem.W.mg_none_of X G b2,
    b_str := PySem.W.mg_none_of X G b3,
    b_tuple := PySem.W.mg_none_of X G b4,
    b_list := PySem.W.mg_none_of X G b5,
    b_dict := PySem.W.mg_none_of X G b6,
    b_len := PySem.W.mg_none_of X G b7,
    b_all := PySem.W.mg_none_of X G b8,
    b_any := PySem.W.mg_none_of X G b9,
    b_zip := PySem.W.mg_none_of X G b10,
    b_set := PySem.W.mg_none_of X G b11,
    b_sorted := PySem.W.mg_none_of X G b12,
    b_range := PySem.W.mg_none_of X G b13,
    b_enumerate := PySem.W.mg_none_of X G b14,
    c_SMALL := ⟨_, PySem.W.mg_of X G g0, ⟨_, rfl⟩⟩,
    c_MOST_LETTERS := ⟨_, PySem.W.mg_of X G g1, ⟨_, rfl⟩⟩,
    c_MOST_SIGNS := ⟨_, PySem.W.mg_of X G g2, ⟨_, rfl⟩⟩,
    c_MOST_KINDS := ⟨_, PySem.W.mg_of X G g3, ⟨_, rfl⟩⟩,
    c_MOST_STANDS := ⟨_, PySem.W.mg_of X G g4, ⟨_, rfl⟩⟩,
    c_MOST_LOTS := ⟨_, PySem.W.mg_of X G g5, ⟨_, rfl⟩⟩,
    is_integer := defAt_mk (PySem.W.mg_of X G a1) l1 c1 k1 (fun _ _ _ _ _ _ us hl => match us, hl with | [_], _ => rfl),
    is_from := defAt_mk (PySem.W.mg_of X G a2) l2 c2 k2 (fun _ _ _ _ _ _ us hl => match us, hl with | [_, _, _], _ => rfl),
    is_letters := defAt_mk (PySem.W.mg_of X G a3) l3 c3 k3 (fun _ _ _ _ _ _ us hl => match us, hl with | [_], _ => rfl),
    is_text := isText_mk (PySem.W.mg_of X G a4) l4 c4 k4 lTD,
    is_kind := defAt_mk (PySem.W.mg_of X G a5) l5 c5 k5 (fun _ _ _ _ _ _ us hl => match us, hl with | [_, _], _ => rfl),
    are_kinds := defAt_mk (PySem.W.mg_of X G a6) l6 c6 k6 (fun _ _ _ _ _ _ us hl => match us, hl with | [_, _], _ => rfl),
    need_kinds := defAt_mk (PySem.W.mg_of X G a7) l7 c7 k7 (fun _ _ _ _ _ _ us hl => match us, hl with | [_, _], _ => rfl),
    is_line := defAt_mk (PySem.W.mg_of X G a8) l8 c8 k8 (fun _ _ _ _ _ _ us hl => match us, hl with | [_, _, _], _ => rfl),
    is_reader := defAt_mk (PySem.W.mg_of X G a9) l9 c9 k9 (fun _ _ _ _ _ _ us hl => match us, hl with | [_], _ => rfl),
    need_reader := defAt_mk (PySem.W.mg_of X G a10) l10 c10 k10 (fun _ _ _ _ _ _ us hl => match us, hl with | [_], _ => rfl),
    need_readers := defAt_mk (PySem.W.mg_of X G a11) l11 c11 k11 (fun _ _ _ _ _ _ us hl => match us, hl with | [_, _], _ => rfl),
    reached := defAt_mk (PySem.W.mg_of X G a12) l12 c12 k12 (fun _ _ _ _ _ _ us hl => match us, hl with | [_], _ => rfl),
    classes_of := defAt_mk (PySem.W.mg_of X G a13) l13 c13 k13 (fun _ _ _ _ _ _ us hl => match us, hl with | [_, _, _], _ => rfl),
    least_of := defAt_mk (PySem.W.mg_of X G a14) l14 c14 k14 (fun _ _ _ _ _ _ us hl => match us, hl with | [_, _, _], _ => rfl),
    paired := defAt_mk (PySem.W.mg_of X G a15) l15 c15 k15 (fun _ _ _ _ _ _ us hl => match us, hl with | [_, _], _ => rfl),
    first_text := defAt_mk (PySem.W.mg_of X G a16) l16 c16 k16 (fun _ _ _ _ _ _ us hl => match us, hl with | [_, _, _], _ => rfl),
    and_rule := defAt_mk (PySem.W.mg_of X G a17) l17 c17 k17 (fun _ _ _ _ _ _ us hl => match us, hl with | [_, _], _ => rfl),
    init_f := f18,
    init_fd := _,
    initF := fun_mk (st := s_Net__init_) l18 c18 k18,
    initM := ⟨mk, a18, i18, kc⟩,
    initB := (fun_mk (st := s_Net__init_) l18 c18 k18).binds (fun _ _ _ _ _ _ us hl => match us, hl with | [_, _], _ => rfl),
    add := methAt_mk a19 i19 l19 c19 k19 (fun _ _ _ _ _ _ us hl => match us, hl with | [_, _, _, _], _ => rfl),
    without_letters := methAt_mk a20 i20 l20 c20 k20 (fun _ _ _ _ _ _ us hl => match us, hl with | [_, _], _ => rfl),
    by_letter := methAt_mk a21 i21 l21 c21 k21 (fun _ _ _ _ _ _ us hl => match us, hl with | [_, _, _], _ => rfl),
    by_text := methAt_mk a22 i22 l22 c22 k22 (fun _ _ _ _ _ _ us hl => match us, hl with | [_, _, _], _ => rfl),
    reader := methAt_mk a23 i23 l23 c23 k23 (fun _ _ _ _ _ _ us hl => match us, hl with | [_, _, _], _ => rfl),
    net_of := defAt_mk (PySem.W.mg_of X G a24) l24 c24 k24 (fun _ _ _ _ _ _ us hl => match us, hl with | [_], _ => rfl),
    ends_of := defAt_mk (PySem.W.mg_of X G a25) l25 c25 k25 (fun _ _ _ _ _ _ us hl => match us, hl with | [_], _ => rfl),
    filled := defAt_mk (PySem.W.mg_of X G a26) l26 c26 k26 (fun _ _ _ _ _ _ us hl => match us, hl with | [_, _], _ => rfl),
    come := defAt_mk (PySem.W.mg_of X G a27) l27 c27 k27 (fun _ _ _ _ _ _ us hl => match us, hl with | [_, _], _ => rfl),
    comes := defAt_mk (PySem.W.mg_of X G a28) l28 c28 k28 (fun _ _ _ _ _ _ us hl => match us, hl with | [_, _], _ => rfl),
    common_text := defAt_mk (PySem.W.mg_of X G a29) l29 c29 k29 (fun _ _ _ _ _ _ us hl => match us, hl with | [_, _], _ => rfl),
    meeting_of := defAt_mk (PySem.W.mg_of X G a30) l30 c30 k30 (fun _ _ _ _ _ _ us hl => match us, hl with | [_, _, _], _ => rfl),
    need_books := defAt_mk (PySem.W.mg_of X G a31) l31 c31 k31 (fun _ _ _ _ _ _ us hl => match us, hl with | [_, _, _], _ => rfl),
    are_apart := defAt_mk (PySem.W.mg_of X G a32) l32 c32 k32 (fun _ _ _ _ _ _ us hl => match us, hl with | [_, _, _], _ => rfl),
    meeting := defAt_mk (PySem.W.mg_of X G a33) l33 c33 k33 (fun _ _ _ _ _ _ us hl => match us, hl with | [_, _, _], _ => rfl),
    teller := defAt_mk (PySem.W.mg_of X G a34) l34 c34 k34 (fun _ _ _ _ _ _ us hl => match us, hl with | [_, _, _], _ => rfl),
    law_taken := defAt_mk (PySem.W.mg_of X G a35) l35 c35 k35 (fun _ _ _ _ _ _ us hl => match us, hl with | [_, _], _ => rfl),
    law_pick := defAt_mk (PySem.W.mg_of X G a36) l36 c36 k36 (fun _ _ _ _ _ _ us hl => match us, hl with | [_, _], _ => rfl),
    law_alike := defAt_mk (PySem.W.mg_of X G a37) l37 c37 k37 (fun _ _ _ _ _ _ us hl => match us, hl with | [_, _], _ => rfl),
    law_text := defAt_mk (PySem.W.mg_of X G a38) l38 c38 k38 (fun _ _ _ _ _ _ us hl => match us, hl with | [_, _, _], _ => rfl),
    law_kinds := defAt_mk (PySem.W.mg_of X G a39) l39 c39 k39 (fun _ _ _ _ _ _ us hl => match us, hl with | [_, _, _], _ => rfl),
    law_reader := defAt_mk (PySem.W.mg_of X G a40) l40 c40 k40 (fun _ _ _ _ _ _ us hl => match us, hl with | [_, _, _], _ => rfl),
    law_led := defAt_mk (PySem.W.mg_of X G a41) l41 c41 k41 (fun _ _ _ _ _ _ us hl => match us, hl with | [_, _, _], _ => rfl),
    law_is := defAt_mk (PySem.W.mg_of X G a42) l42 c42 k42 (fun _ _ _ _ _ _ us hl => match us, hl with | [_, _], _ => rfl),
    law_two := defAt_mk (PySem.W.mg_of X G a43) l43 c43 k43 (fun _ _ _ _ _ _ us hl => match us, hl with | [_], _ => rfl),
    law_first := defAt_mk (PySem.W.mg_of X G a44) l44 c44 k44 (fun _ _ _ _ _ _ us hl => match us, hl with | [_, _, _, _], _ => rfl),
    law_common := defAt_mk (PySem.W.mg_of X G a45) l45 c45 k45 (fun _ _ _ _ _ _ us hl => match us, hl with | [_, _], _ => rfl),
    cl := ⟨pg, hd, po, sa⟩,
    nW := nW }
  let T2 : Tx2 K mg := ⟨EC, PySem.W.mg_of X G aE, xE, kE, bE, tE, exm_me bE iE tE sE⟩
  let D : DefAt K mg "law" "law" s_law ["_law_script"] := (defAt_mk (ps := ["_law_script"]) (PySem.W.mg_of X G a46) l46 c46 k46 (fun _ _ _ _ _ _ us hl => match us, hl with | [_], _ => rfl))
  refine ⟨D.fd, [(c, PT)], sp_law K PT, fun p hp => ?_, fun p hp => ?_, fun p hp => ?_, fun s u => .of_eq rfl, fun H a ns hl hb hH hS => ⟨a, ns, rfl, hS, hH (c, PT) (List.mem_singleton.mpr rfl), fun _ => rfl⟩, fun base hK hN hTB => ok_law T T2 D (c := c) rfl (hTB (c, PT) (List.mem_singleton.mpr rfl))⟩
  · rw [List.mem_singleton.mp hp]; exact hTab
  · rw [List.mem_singleton.mp hp]; exact nTab
  · rw [List.mem_singleton.mp hp]; exact PySem.W.codeHd_of_K X hCd
end
end An
end
set_option Elab.async false
set_option maxRecDepth 100000
open PySem PySem.W PyProof.Rows in
set_option maxRecDepth 100000 in
set_option maxHeartbeats 0 in
theorem PySem.Challenge.cw_anyscribe_k19_whole_apart_holds : PySem.Challenge.rw_anyscribe_k19_whole_apart.Holds := by
  w_on; o_law; k_head; (case hw => w_witness2)
  k_fill
  refine LamX.walk_ofTs (l := PySem.Challenge.rw_anyscribe_k19_whole_apart) (n := 63) (k := 9) (x := "_law_script") (CX := fun _ => L2.CX0) rfl (by decide) rfl ⟨rfl, by decide, by decide⟩ (fun w h Y => PySem.W.km_in_of Y) ?F (fun _ _ _ _ _ z => z)
  case F =>
    intro w mg fa h Y KX G hmg
    refine' An.all_mk (l := PySem.Challenge.rw_anyscribe_k19_whole_apart) (w := w) (PT := 391) KX G hmg ?zzb0 ?zzb1 ?zzb2 ?zzb3 ?zzb4 ?zzb5 ?zzb6 ?zzb7 ?zzb8 ?zzb9 ?zzb10 ?zzb11 ?zzb12 ?zzb13 ?zzb14 ?zzg0 ?zzg1 ?zzg2 ?zzg3 ?zzg4 ?zzg5 ?zza1 ?zzl1 ?zzc1 ?zzk1 ?zza2 ?zzl2 ?zzc2 ?zzk2 ?zza3 ?zzl3 ?zzc3 ?zzk3 ?zza4 ?zzl4 ?zzc4 ?zzk4 ?zza5 ?zzl5 ?zzc5 ?zzk5 ?zza6 ?zzl6 ?zzc6 ?zzk6 ?zza7 ?zzl7 ?zzc7 ?zzk7 ?zza8 ?zzl8 ?zzc8 ?zzk8 ?zza9 ?zzl9 ?zzc9 ?zzk9 ?zza10 ?zzl10 ?zzc10 ?zzk10 ?zza11 ?zzl11 ?zzc11 ?zzk11 ?zza12 ?zzl12 ?zzc12 ?zzk12 ?zza13 ?zzl13 ?zzc13 ?zzk13 ?zza14 ?zzl14 ?zzc14 ?zzk14 ?zza15 ?zzl15 ?zzc15 ?zzk15 ?zza16 ?zzl16 ?zzc16 ?zzk16 ?zza17 ?zzl17 ?zzc17 ?zzk17 ?zzaC ?zza18 ?zzi18 ?zzl18 ?zzc18 ?zzk18 ?zza19 ?zzi19 ?zzl19 ?zzc19 ?zzk19 ?zza20 ?zzi20 ?zzl20 ?zzc20 ?zzk20 ?zza21 ?zzi21 ?zzl21 ?zzc21 ?zzk21 ?zza22 ?zzi22 ?zzl22 ?zzc22 ?zzk22 ?zza23 ?zzi23 ?zzl23 ?zzc23 ?zzk23 ?zza24 ?zzl24 ?zzc24 ?zzk24 ?zza25 ?zzl25 ?zzc25 ?zzk25 ?zza26 ?zzl26 ?zzc26 ?zzk26 ?zza27 ?zzl27 ?zzc27 ?zzk27 ?zza28 ?zzl28 ?zzc28 ?zzk28 ?zza29 ?zzl29 ?zzc29 ?zzk29 ?zza30 ?zzl30 ?zzc30 ?zzk30 ?zza31 ?zzl31 ?zzc31 ?zzk31 ?zza32 ?zzl32 ?zzc32 ?zzk32 ?zza33 ?zzl33 ?zzc33 ?zzk33 ?zza34 ?zzl34 ?zzc34 ?zzk34 ?zza35 ?zzl35 ?zzc35 ?zzk35 ?zza36 ?zzl36 ?zzc36 ?zzk36 ?zza37 ?zzl37 ?zzc37 ?zzk37 ?zza38 ?zzl38 ?zzc38 ?zzk38 ?zza39 ?zzl39 ?zzc39 ?zzk39 ?zza40 ?zzl40 ?zzc40 ?zzk40 ?zza41 ?zzl41 ?zzc41 ?zzk41 ?zza42 ?zzl42 ?zzc42 ?zzk42 ?zza43 ?zzl43 ?zzc43 ?zzk43 ?zza44 ?zzl44 ?zzc44 ?zzk44 ?zza45 ?zzl45 ?zzc45 ?zzk45 ?zza46 ?zzl46 ?zzc46 ?zzk46 ?zzlTD ?zzpg ?zzhd ?zzpo ?zzsa ?zzmk ?zzkc ?zznW ?zzaE ?zzxE ?zzkE ?zzbE ?zztE ?zziE ?zzsE (PySem.W.km_tabs_of Y 391 (List.mem_singleton.mpr rfl)) ?zznTab ?zzhCd
    (case zzb0 => k_is); (case zzb1 => k_is); (case zzb2 => k_is); (case zzb3 => k_is); (case zzb4 => k_is); (case zzb5 => k_is); (case zzb6 => k_is)
    (case zzb7 => k_is); (case zzb8 => k_is); (case zzb9 => k_is); (case zzb10 => k_is); (case zzb11 => k_is); (case zzb12 => k_is); (case zzb13 => k_is)
    (case zzb14 => k_is); (case zzg0 => k_is); (case zzg1 => k_is); (case zzg2 => k_is); (case zzg3 => k_is); (case zzg4 => k_is); (case zzg5 => k_is)
    (case zza1 => k_is); (case zzl1 => k_is); (case zzc1 => k_is); (case zzk1 => k_is); (case zza2 => k_is); (case zzl2 => k_is); (case zzc2 => k_is)
    (case zzk2 => k_is); (case zza3 => k_is); (case zzl3 => k_is); (case zzc3 => k_is); (case zzk3 => k_is); (case zza4 => k_is); (case zzl4 => k_is)
    (case zzc4 => k_is); (case zzk4 => k_is); (case zza5 => k_is); (case zzl5 => k_is); (case zzc5 => k_is); (case zzk5 => k_is); (case zza6 => k_is)
    (case zzl6 => k_is); (case zzc6 => k_is); (case zzk6 => k_is); (case zza7 => k_is); (case zzl7 => k_is); (case zzc7 => k_is); (case zzk7 => k_is)
    (case zza8 => k_is); (case zzl8 => k_is); (case zzc8 => k_is); (case zzk8 => k_is); (case zza9 => k_is); (case zzl9 => k_is); (case zzc9 => k_is)
    (case zzk9 => k_is); (case zza10 => k_is); (case zzl10 => k_is); (case zzc10 => k_is); (case zzk10 => k_is); (case zza11 => k_is); (case zzl11 => k_is)
    (case zzc11 => k_is); (case zzk11 => k_is); (case zza12 => k_is); (case zzl12 => k_is); (case zzc12 => k_is); (case zzk12 => k_is); (case zza13 => k_is)
    (case zzl13 => k_is); (case zzc13 => k_is); (case zzk13 => k_is); (case zza14 => k_is); (case zzl14 => k_is); (case zzc14 => k_is); (case zzk14 => k_is)
    (case zza15 => k_is); (case zzl15 => k_is); (case zzc15 => k_is); (case zzk15 => k_is); (case zza16 => k_is); (case zzl16 => k_is); (case zzc16 => k_is)
    (case zzk16 => k_is); (case zza17 => k_is); (case zzl17 => k_is); (case zzc17 => k_is); (case zzk17 => k_is); (case zzaC => k_is); (case zza18 => k_is)
    (case zzi18 => k_is); (case zzl18 => k_is); (case zzc18 => k_is); (case zzk18 => k_is); (case zza19 => k_is); (case zzi19 => k_is); (case zzl19 => k_is)
    (case zzc19 => k_is); (case zzk19 => k_is); (case zza20 => k_is); (case zzi20 => k_is); (case zzl20 => k_is); (case zzc20 => k_is); (case zzk20 => k_is)
    (case zza21 => k_is); (case zzi21 => k_is); (case zzl21 => k_is); (case zzc21 => k_is); (case zzk21 => k_is); (case zza22 => k_is); (case zzi22 => k_is)
    (case zzl22 => k_is); (case zzc22 => k_is); (case zzk22 => k_is); (case zza23 => k_is); (case zzi23 => k_is); (case zzl23 => k_is); (case zzc23 => k_is)
    (case zzk23 => k_is); (case zza24 => k_is); (case zzl24 => k_is); (case zzc24 => k_is); (case zzk24 => k_is); (case zza25 => k_is); (case zzl25 => k_is)
    (case zzc25 => k_is); (case zzk25 => k_is); (case zza26 => k_is); (case zzl26 => k_is); (case zzc26 => k_is); (case zzk26 => k_is); (case zza27 => k_is)
    (case zzl27 => k_is); (case zzc27 => k_is); (case zzk27 => k_is); (case zza28 => k_is); (case zzl28 => k_is); (case zzc28 => k_is); (case zzk28 => k_is)
    (case zza29 => k_is); (case zzl29 => k_is); (case zzc29 => k_is); (case zzk29 => k_is); (case zza30 => k_is); (case zzl30 => k_is); (case zzc30 => k_is)
    (case zzk30 => k_is); (case zza31 => k_is); (case zzl31 => k_is); (case zzc31 => k_is); (case zzk31 => k_is); (case zza32 => k_is); (case zzl32 => k_is)
    (case zzc32 => k_is); (case zzk32 => k_is); (case zza33 => k_is); (case zzl33 => k_is); (case zzc33 => k_is); (case zzk33 => k_is); (case zza34 => k_is)
    (case zzl34 => k_is); (case zzc34 => k_is); (case zzk34 => k_is); (case zza35 => k_is); (case zzl35 => k_is); (case zzc35 => k_is); (case zzk35 => k_is)
    (case zza36 => k_is); (case zzl36 => k_is); (case zzc36 => k_is); (case zzk36 => k_is); (case zza37 => k_is); (case zzl37 => k_is); (case zzc37 => k_is)
    (case zzk37 => k_is); (case zza38 => k_is); (case zzl38 => k_is); (case zzc38 => k_is); (case zzk38 => k_is); (case zza39 => k_is); (case zzl39 => k_is)
    (case zzc39 => k_is); (case zzk39 => k_is); (case zza40 => k_is); (case zzl40 => k_is); (case zzc40 => k_is); (case zzk40 => k_is); (case zza41 => k_is)
    (case zzl41 => k_is); (case zzc41 => k_is); (case zzk41 => k_is); (case zza42 => k_is); (case zzl42 => k_is); (case zzc42 => k_is); (case zzk42 => k_is)
    (case zza43 => k_is); (case zzl43 => k_is); (case zzc43 => k_is); (case zzk43 => k_is); (case zza44 => k_is); (case zzl44 => k_is); (case zzc44 => k_is)
    (case zzk44 => k_is); (case zza45 => k_is); (case zzl45 => k_is); (case zzc45 => k_is); (case zzk45 => k_is); (case zza46 => k_is); (case zzl46 => k_is)
    (case zzc46 => k_is); (case zzk46 => k_is); (case zzlTD => k_is); (case zzpg => k_is); (case zzhd => k_is); (case zzpo => k_is); (case zzsa => k_is)
    (case zzmk => k_is); (case zzkc => k_is); (case zznW => k_is); (case zzaE => k_is); (case zzxE => k_exc); (case zzkE => k_is); (case zzbE => k_is)
    (case zztE => k_is); (case zziE => k_is); (case zzsE => k_is); (case zznTab => kernel_rfl); (case zzhCd => kernel_rfl)
