import PyProof.Rows.All
import Wide.All
import OpenK.AllK
import Wide.FinOn
import PyProof.EqAt
import PyProof.EqKinds
import PyProof.TupleCall
import PyProof.FString
import PyProof.FString2
import PyProof.FString4
import PyProof.CodeObj
import KE.KLam
import KE.KNest
import KE.KNestM
import KE.KFromBytes
import KE.KExcSuper
import KE.KIsAll
import KE.KTryMore
import KE.KStateDown
import KE.KSorted
import Lean
import HandS.ForMost
import HandS.More
import HandS.Exc
import HandS.TryOnly
import HandS.ExcOwn
import HandS.ExcField
import HandS.ExcIs
import HandS.WordsExc
import HandS.FStr
import HandS.Walk
import HandS.Flow
import HandS.Style
import HandS.Conv
import HandS.Codes
import HandS.Set
import HandS.Strs
import HandS.SetFor
import HandS.Zip
import HandS.Sort
import HandS.SortOrd
import HandS.SortRule
import HandS.SortInts
import HandS.TupSets
import HandS.Wide
import HandS.IsInst
import HandS.Property
import HandS.ClsMeth
import HandS.CallSlots
import HandS.AnyAll
import HandS.Lambda
import HandS.EndBits
import HandS.EndTab
import HandS.Defaults
import HandS.Head0
import HandS.Head1
import HandS.Head2
import HandS.HeadEnd
import HandS.HeadHook1
import HandS.HeadHook2
import HandS.HeadHook3
import HandS.HeadHook4
import HandS.HeadWalk
import PySem.Challenge.RW_pullstore_k08_whole_settling
set_option Elab.async false
set_option linter.all false
set_option maxRecDepth 100000
set_option maxHeartbeats 4000000
namespace K8
open PySem PySem.Spec PyProof.Rows L2
/-! the text by places -/
def top (i : Nat) : Stmt := PySem.Challenge.pw_pullstore_k08_whole_settling.main.body.getD i (.Pass ⟨0, 0, 0, 0⟩)
end K8

set_option maxHeartbeats 4000000
/-! the plain law: pulls, the closure, what is missing -/
namespace K8
abbrev Links := List (Nat × Nat)
abbrev Logs := List (List Int)
abbrev Pull := Nat × Nat × Int
def lg (L : Logs) (i : Nat) : List Int := L.getD i []
def okLog (sz : Nat) (l : List Int) : Prop := l.Nodup ∧ ∀ e ∈ l, 0 ≤ e ∧ e < (sz : Int)
def okLogs (n sz : Nat) (L : Logs) : Prop := L.length = n ∧ ∀ l ∈ L, okLog sz l
/-- what the reader lacks, in the source's order -/
def lack (src rdr : List Int) : List Int := src.filter fun e => decide (e ∉ rdr)
def pullsOf (links : Links) (L : Logs) : List Pull := links.flatMap fun q => ((lack (lg L q.1) (lg L q.2)).take 1).map fun e => (q.1, q.2, e)
def after (L : Logs) (p : Pull) : Logs := L.set p.2.1 (lg L p.2.1 ++ [p.2.2])
def sumlen (L : Logs) : Nat := (L.map List.length).sum
structure OkW (n sz : Nat) (links : Links) : Prop where
  n1 : 1 ≤ n
  n24 : n ≤ 24
  z60 : sz ≤ 60
  bd : ∀ q ∈ links, q.1 < n ∧ q.2 < n ∧ q.1 ≠ q.2
inductive Reach (links : Links) : Nat → Nat → Prop where
  | refl (s : Nat) : Reach links s s
  | step {s m r : Nat} : Reach links s m → (m, r) ∈ links → Reach links s r
theorem Reach.trans {links : Links} {a b c : Nat} (h1 : Reach links a b) (h2 : Reach links b c) : Reach links a c := by
  induction h2 with
  | refl => exact h1
  | step _ hl ih => exact .step ih hl
theorem Reach.one {links : Links} {a b : Nat} (h : (a, b) ∈ links) : Reach links a b := .step (.refl a) h
/-- from the front -/
theorem Reach.cons {links : Links} {a b c : Nat} (h : (a, b) ∈ links) (h2 : Reach links b c) : Reach links a c := (Reach.one h).trans h2
def ents (sz : Nat) : List Int := (List.range sz).map Int.ofNat
theorem mem_ents {sz : Nat} {e : Int} : e ∈ ents sz ↔ 0 ≤ e ∧ e < (sz : Int) := by
  unfold ents
  rw [List.mem_map]
  constructor
  · rintro ⟨k, hk, rfl⟩
    have := List.mem_range.mp hk
    show 0 ≤ (k : Int) ∧ (k : Int) < sz
    omega
  · rintro ⟨h0, h1⟩
    exact ⟨e.toNat, List.mem_range.mpr (by omega), by show ((e.toNat : Nat) : Int) = e; omega⟩
theorem nodup_ents (sz : Nat) : (ents sz).Nodup := by
  unfold ents
  rw [List.Nodup, List.pairwise_map]
  exact List.Pairwise.imp (fun {a b} h e => h (Int.ofNat.inj e)) List.nodup_range
theorem lt_ents (sz : Nat) : (ents sz).Pairwise (· < ·) := by
  unfold ents
  rw [List.pairwise_map]
  exact List.Pairwise.imp (fun {a b} h => by show (a : Int) < (b : Int); omega) List.pairwise_lt_range
/-- e comes to r -/
def Comes (links : Links) (L : Logs) (r : Nat) (e : Int) : Prop := ∃ s, Reach links s r ∧ e ∈ lg L s
open Classical in
noncomputable def closed1 (sz : Nat) (links : Links) (L : Logs) (r : Nat) : List Int := (ents sz).filter fun e => decide (Comes links L r e)
noncomputable def closedL (n sz : Nat) (links : Links) (L : Logs) : Logs := (List.range n).map (closed1 sz links L)
open Classical in
theorem mem_closed1 {sz : Nat} {links : Links} {L : Logs} {r : Nat} {e : Int} : e ∈ closed1 sz links L r ↔ (0 ≤ e ∧ e < (sz : Int)) ∧ Comes links L r e := by
  unfold closed1
  rw [List.mem_filter, mem_ents, decide_eq_true_iff]
theorem nodup_closed1 (sz : Nat) (links : Links) (L : Logs) (r : Nat) : (closed1 sz links L r).Nodup := (nodup_ents sz).filter _
theorem lt_closed1 (sz : Nat) (links : Links) (L : Logs) (r : Nat) : (closed1 sz links L r).Pairwise (· < ·) := (lt_ents sz).filter _
open Classical in
theorem closed_congr {n sz : Nat} {links : Links} {L L' : Logs} (h : ∀ r e, r < n → (Comes links L r e ↔ Comes links L' r e)) : closedL n sz links L = closedL n sz links L' := by
  unfold closedL
  refine List.map_congr_left fun r hr => ?_
  unfold closed1
  refine List.filter_congr fun e _ => ?_
  exact decide_eq_decide.mpr (h r e (List.mem_range.mp hr))
/-! ### logs -/
theorem lg_set {L : Logs} {i j : Nat} {l : List Int} (hi : i < L.length) : lg (L.set i l) j = if j = i then l else lg L j := by
  unfold lg
  rw [List.getD_eq_getElem?_getD, List.getElem?_set, List.getD_eq_getElem?_getD]
  by_cases h : i = j
  · subst h
    rw [if_pos rfl, if_pos hi, if_pos rfl]
    rfl
  · rw [if_neg h, if_neg (fun e => h e.symm)]
theorem lg_mem {L : Logs} {i : Nat} (h : i < L.length) : lg L i ∈ L := by
  unfold lg
  rw [List.getD_eq_getElem?_getD, List.getElem?_eq_getElem h]
  exact List.getElem_mem h
theorem lg_get {L : Logs} {i : Nat} {l : List Int} (h : L[i]? = some l) : lg L i = l := by
  unfold lg
  rw [List.getD_eq_getElem?_getD, h]
  rfl
theorem lg_out {L : Logs} {i : Nat} (h : L.length ≤ i) : lg L i = [] := by
  unfold lg
  rw [List.getD_eq_getElem?_getD, List.getElem?_eq_none h]
  rfl
theorem ok_lg {n sz : Nat} {L : Logs} (h : okLogs n sz L) (i : Nat) : okLog sz (lg L i) := by
  by_cases hi : i < L.length
  · exact h.2 _ (lg_mem hi)
  · rw [lg_out (Nat.le_of_not_lt hi)]
    exact ⟨List.nodup_nil, fun e he => by cases he⟩
theorem mem_lack {src rdr : List Int} {e : Int} : e ∈ lack src rdr ↔ e ∈ src ∧ e ∉ rdr := by
  unfold lack
  rw [List.mem_filter, decide_eq_true_iff]
theorem lack_nil {src rdr : List Int} : lack src rdr = [] ↔ ∀ e ∈ src, e ∈ rdr := by
  constructor
  · intro h e he
    apply Classical.byContradiction
    intro hn
    have : e ∈ lack src rdr := mem_lack.mpr ⟨he, hn⟩
    rw [h] at this
    cases this
  · intro h
    cases hl : lack src rdr with
    | nil => rfl
    | cons a r =>
      have : a ∈ lack src rdr := by rw [hl]; exact List.mem_cons_self
      have := mem_lack.mp this
      exact absurd (h a this.1) this.2
theorem mem_take1 {α : Type} {l : List α} {x : α} (h : x ∈ l.take 1) : x ∈ l := List.mem_of_mem_take h
theorem mem_pulls {links : Links} {L : Logs} {p : Pull} (h : p ∈ pullsOf links L) : (p.1, p.2.1) ∈ links ∧ p.2.2 ∈ lg L p.1 ∧ p.2.2 ∉ lg L p.2.1 := by
  unfold pullsOf at h
  obtain ⟨q, hq, hp⟩ := List.mem_flatMap.mp h
  obtain ⟨e, he, rfl⟩ := List.mem_map.mp hp
  have := mem_lack.mp (mem_take1 he)
  exact ⟨hq, this.1, this.2⟩
theorem pulls_nil {links : Links} {L : Logs} : pullsOf links L = [] ↔ ∀ q ∈ links, lack (lg L q.1) (lg L q.2) = [] := by
  unfold pullsOf
  rw [List.flatMap_eq_nil_iff]
  constructor
  · intro h q hq
    have h2 := h q hq
    cases hl : lack (lg L q.1) (lg L q.2) with
    | nil => rfl
    | cons a r =>
      rw [hl] at h2
      cases h2
  · intro h q hq
    rw [h q hq]
    rfl
/-- an entry appended that the log lacks -/
structure Add (n sz : Nat) (L : Logs) (r : Nat) (e : Int) : Prop where
  lt : r < n
  e0 : 0 ≤ e
  e1 : e < (sz : Int)
  no : e ∉ lg L r
theorem add_ok {n sz : Nat} {L : Logs} (h : okLogs n sz L) {r : Nat} {e : Int} (a : Add n sz L r e) : okLogs n sz (L.set r (lg L r ++ [e])) := by
  refine ⟨by rw [List.length_set]; exact h.1, fun l hl => ?_⟩
  rcases List.mem_or_eq_of_mem_set hl with hl | hl
  · exact h.2 l hl
  · subst hl
    have ok := ok_lg h r
    refine ⟨List.nodup_append.mpr ⟨ok.1, List.nodup_cons.mpr ⟨List.not_mem_nil, List.nodup_nil⟩, fun x hx y hy e2 => ?_⟩, fun x hx => ?_⟩
    · rw [List.mem_singleton.mp hy] at e2
      subst e2
      exact a.no hx
    · rcases List.mem_append.mp hx with hx | hx
      · exact ok.2 x hx
      · rw [List.mem_singleton.mp hx]
        exact ⟨a.e0, a.e1⟩
theorem sum_set : ∀ (l : List Nat) (i v w : Nat), l[i]? = some v → (l.set i w).sum + v = l.sum + w
  | [], i, v, w, h => by simp at h
  | x :: r, 0, v, w, h => by
    simp at h
    subst h
    simp only [List.set_cons_zero, List.sum_cons]
    omega
  | x :: r, i + 1, v, w, h => by
    have ih := sum_set r i v w (by simpa using h)
    simp only [List.set_cons_succ, List.sum_cons]
    omega
theorem sumlen_add {n sz : Nat} {L : Logs} (h : okLogs n sz L) {r : Nat} {e : Int} (a : Add n sz L r e) : sumlen (L.set r (lg L r ++ [e])) = sumlen L + 1 := by
  unfold sumlen
  have hr : r < L.length := by rw [h.1]; exact a.lt
  rw [List.map_set, List.length_append, List.length_singleton]
  have e1 : (L.map List.length)[r]? = some (lg L r).length := by
    rw [List.getElem?_map, List.getElem?_eq_getElem hr]
    unfold lg
    rw [List.getD_eq_getElem?_getD, List.getElem?_eq_getElem hr]
    rfl
  have := sum_set (L.map List.length) r (lg L r).length ((lg L r).length + 1) e1
  omega
section
variable {n sz : Nat} {links : Links} {L : Logs} (W : OkW n sz links)
include W
theorem pull_add (h : okLogs n sz L) {p : Pull} (hp : p ∈ pullsOf links L) : Add n sz L p.2.1 p.2.2 := by
  obtain ⟨hl, h1, h2⟩ := mem_pulls hp
  have := (ok_lg h p.1).2 _ h1
  exact ⟨(W.bd _ hl).2.1, this.1, this.2, h2⟩
theorem after_ok (h : okLogs n sz L) {p : Pull} (hp : p ∈ pullsOf links L) : okLogs n sz (after L p) := add_ok h (pull_add W h hp)
theorem after_sum (h : okLogs n sz L) {p : Pull} (hp : p ∈ pullsOf links L) : sumlen (after L p) = sumlen L + 1 := sumlen_add h (pull_add W h hp)
theorem after_comes (h : okLogs n sz L) {p : Pull} (hp : p ∈ pullsOf links L) (r : Nat) (e : Int) : Comes links (after L p) r e ↔ Comes links L r e := by
  obtain ⟨hl, h1, h2⟩ := mem_pulls hp
  have hr : p.2.1 < L.length := by rw [h.1]; exact (W.bd _ hl).2.1
  constructor
  · rintro ⟨s, hs, he⟩
    unfold after at he
    rw [lg_set hr] at he
    by_cases hsr : s = p.2.1
    · rw [if_pos hsr] at he
      rcases List.mem_append.mp he with he | he
      · exact ⟨s, hs, by rw [hsr]; exact he⟩
      · rw [List.mem_singleton.mp he]
        exact ⟨p.1, .cons hl (by rw [← hsr]; exact hs), h1⟩
    · rw [if_neg hsr] at he
      exact ⟨s, hs, he⟩
  · rintro ⟨s, hs, he⟩
    refine ⟨s, hs, ?_⟩
    unfold after
    rw [lg_set hr]
    by_cases hsr : s = p.2.1
    · rw [if_pos hsr]
      exact List.mem_append_left _ (by rw [← hsr]; exact he)
    · rw [if_neg hsr]
      exact he
theorem after_closed (h : okLogs n sz L) {p : Pull} (hp : p ∈ pullsOf links L) : closedL n sz links (after L p) = closedL n sz links L :=
  closed_congr fun r e _ => after_comes W h hp r e
end
/-! ### what is missing -/
theorem nodup_sub_len : ∀ (l m : List Int), l.Nodup → (∀ x ∈ l, x ∈ m) → l.length ≤ m.length
  | [], _, _, _ => Nat.zero_le _
  | x :: l, m, hn, hs => by
    obtain ⟨h1, h2⟩ := List.nodup_cons.mp hn
    have hx : x ∈ m := hs x List.mem_cons_self
    have ih := nodup_sub_len l (m.erase x) h2 fun y hy => by
      have hne : y ≠ x := fun e => h1 (e ▸ hy)
      exact (List.mem_erase_of_ne hne).2 (hs y (List.mem_cons_of_mem _ hy))
    have e := List.length_erase_of_mem hx
    have hp : 0 < m.length := List.length_pos_of_mem hx
    rw [List.length_cons]
    omega
theorem nodup_sub_eq {l m : List Int} (hn : l.Nodup) (hs : ∀ x ∈ l, x ∈ m) (hl : m.length ≤ l.length) : ∀ x ∈ m, x ∈ l := by
  intro x hx
  apply Classical.byContradiction
  intro hxl
  have h1 := nodup_sub_len l (m.erase x) hn fun y hy => (List.mem_erase_of_ne (fun e => hxl (by rw [← e]; exact hy))).2 (hs y hy)
  have e := List.length_erase_of_mem hx
  have hp : 0 < m.length := List.length_pos_of_mem hx
  omega
theorem sum_le_of : ∀ (l m : List Nat), l.length = m.length → (∀ (i a b : Nat), l[i]? = some a → m[i]? = some b → a ≤ b) → l.sum ≤ m.sum
  | [], [], _, _ => Nat.le_refl _
  | [], _ :: _, h, _ => by simp at h
  | _ :: _, [], h, _ => by simp at h
  | a :: l, b :: m, h, hh => by
    have h1 := hh 0 a b rfl rfl
    have ih := sum_le_of l m (by simpa using h) fun i x y hx hy => hh (i + 1) x y (by simpa using hx) (by simpa using hy)
    simp only [List.sum_cons]
    omega
theorem sum_eq_of : ∀ (l m : List Nat), l.length = m.length → (∀ (i a b : Nat), l[i]? = some a → m[i]? = some b → a ≤ b) → l.sum = m.sum → ∀ (i a b : Nat), l[i]? = some a → m[i]? = some b → a = b
  | [], [], _, _, _ => fun i a b h => by simp at h
  | [], _ :: _, h, _, _ => by simp at h
  | _ :: _, [], h, _, _ => by simp at h
  | a :: l, b :: m, h, hh, hs => by
    have h1 := hh 0 a b rfl rfl
    have hh2 : ∀ (i x y : Nat), l[i]? = some x → m[i]? = some y → x ≤ y := fun i x y hx hy => hh (i + 1) x y (by simpa using hx) (by simpa using hy)
    have h2 := sum_le_of l m (by simpa using h) hh2
    simp only [List.sum_cons] at hs
    have ih := sum_eq_of l m (by simpa using h) hh2 (by omega)
    intro i x y hx hy
    cases i with
    | zero =>
      simp at hx hy
      omega
    | succ i => exact ih i x y (by simpa using hx) (by simpa using hy)
section
variable {n sz : Nat} {links : Links} {L : Logs}
theorem lens_map (h : L.length = n) : L.map List.length = (List.range n).map fun r => (lg L r).length := by
  apply List.ext_getElem?
  intro i
  rw [List.getElem?_map, List.getElem?_map]
  by_cases hi : i < n
  · rw [List.getElem?_eq_getElem (by omega : i < L.length), List.getElem?_range hi]
    unfold lg
    simp [List.getD_eq_getElem?_getD, List.getElem?_eq_getElem (by omega : i < L.length)]
  · rw [List.getElem?_eq_none (by omega), List.getElem?_eq_none (by rw [List.length_range]; omega)]
    rfl
theorem closed_lens : (closedL n sz links L).map List.length = (List.range n).map fun r => (closed1 sz links L r).length := by
  unfold closedL
  rw [List.map_map]
  rfl
theorem sub_closed (h : okLogs n sz L) (r : Nat) : ∀ e ∈ lg L r, e ∈ closed1 sz links L r := fun e he => mem_closed1.mpr ⟨(ok_lg h r).2 e he, r, .refl r, he⟩
theorem sumlen_le (h : okLogs n sz L) : sumlen L ≤ sumlen (closedL n sz links L) := by
  unfold sumlen
  rw [lens_map h.1, closed_lens]
  refine sum_le_of _ _ (by simp) fun i a b ha hb => ?_
  rw [List.getElem?_map] at ha hb
  cases hi : (List.range n)[i]? with
  | none => rw [hi] at ha; cases ha
  | some r =>
    rw [hi] at ha hb
    have ha2 := Option.some.inj ha
    have hb2 := Option.some.inj hb
    rw [← ha2, ← hb2]
    exact nodup_sub_len _ _ (ok_lg h r).1 (sub_closed h r)
/-- nothing is missing: each log holds its closure -/
theorem full_of_eq (h : okLogs n sz L) (he : sumlen L = sumlen (closedL n sz links L)) : ∀ r, r < n → ∀ e ∈ closed1 sz links L r, e ∈ lg L r := by
  unfold sumlen at he
  rw [lens_map h.1, closed_lens] at he
  intro r hr
  have key := sum_eq_of _ _ (by simp) (fun i a b ha hb => by
    rw [List.getElem?_map] at ha hb
    cases hi : (List.range n)[i]? with
    | none => rw [hi] at ha; cases ha
    | some r =>
      rw [hi] at ha hb
      have ha2 := Option.some.inj ha
      have hb2 := Option.some.inj hb
      rw [← ha2, ← hb2]
      exact nodup_sub_len _ _ (ok_lg h r).1 (sub_closed (links := links) h r)) he r (lg L r).length (closed1 sz links L r).length
    (by rw [List.getElem?_map, List.getElem?_range hr]; rfl) (by rw [List.getElem?_map, List.getElem?_range hr]; rfl)
  exact nodup_sub_eq (ok_lg h r).1 (sub_closed h r) (by omega)
theorem settled_of_eq (W : OkW n sz links) (h : okLogs n sz L) (he : sumlen L = sumlen (closedL n sz links L)) : pullsOf links L = [] := by
  rw [pulls_nil]
  intro q hq
  rw [lack_nil]
  intro e hee
  exact full_of_eq h he q.2 (W.bd q hq).2.1 e (mem_closed1.mpr ⟨(ok_lg h q.1).2 e hee, q.1, .one hq, hee⟩)
theorem full_of_settled (W : OkW n sz links) (h : okLogs n sz L) (hs : pullsOf links L = []) : ∀ r, ∀ e, Comes links L r e → e ∈ lg L r := by
  rw [pulls_nil] at hs
  rintro r e ⟨s, hr, he⟩
  induction hr with
  | refl => exact he
  | step _ hl ih => exact lack_nil.mp (hs _ hl) e ih
theorem eq_of_settled (W : OkW n sz links) (h : okLogs n sz L) (hs : pullsOf links L = []) : sumlen L = sumlen (closedL n sz links L) := by
  refine Nat.le_antisymm (sumlen_le h) ?_
  unfold sumlen
  rw [lens_map h.1, closed_lens]
  refine sum_le_of _ _ (by simp) fun i a b ha hb => ?_
  rw [List.getElem?_map] at ha hb
  cases hi : (List.range n)[i]? with
  | none => rw [hi] at ha; cases ha
  | some r =>
    rw [hi] at ha hb
    have ha2 := Option.some.inj ha
    have hb2 := Option.some.inj hb
    rw [← ha2, ← hb2]
    exact nodup_sub_len _ _ (nodup_closed1 _ _ _ _) fun e he => full_of_settled W h hs r e (mem_closed1.mp he).2
theorem closed_le (n sz : Nat) (links : Links) (L : Logs) : sumlen (closedL n sz links L) ≤ n * sz := by
  unfold sumlen
  rw [closed_lens]
  have : ∀ l : List Nat, (l.map fun r => (closed1 sz links L r).length).sum ≤ l.length * sz := by
    intro l
    induction l with
    | nil => simp
    | cons a r ih =>
      have h1 : (closed1 sz links L a).length ≤ sz := by
        have := List.length_filter_le (fun e => @decide (Comes links L a e) (Classical.propDecidable _)) (ents sz)
        have e2 : (ents sz).length = sz := by unfold ents; simp
        unfold closed1
        omega
      simp only [List.map_cons, List.sum_cons, List.length_cons, Nat.add_mul]
      omega
  have := this (List.range n)
  rw [List.length_range] at this
  exact this
theorem sumlen_bound (h : okLogs n sz L) : sumlen L ≤ n * sz := Nat.le_trans (sumlen_le (links := []) h) (closed_le n sz [] L)
theorem settled_of_full (W : OkW n sz links) (h : okLogs n sz L) (he : sumlen L = n * sz) : pullsOf links L = [] := by
  refine settled_of_eq W h ?_
  have h1 := sumlen_le (links := links) h
  have h2 := closed_le n sz links L
  omega
/-- a settled log, as a permutation of its closure -/
theorem settled_mem (W : OkW n sz links) (h : okLogs n sz L) (hs : pullsOf links L = []) (r : Nat) (e : Int) : e ∈ lg L r ↔ e ∈ closed1 sz links L r :=
  ⟨sub_closed h r e, fun he => full_of_settled W h hs r e (mem_closed1.mp he).2⟩
end
/-! ### runs at the least link -/
inductive LRun (links : Links) : Logs → List Pull → Logs → Prop where
  | nil (L : Logs) : LRun links L [] L
  | cons {L C : Logs} {p : Pull} {tr : List Pull} : (pullsOf links L).head? = some p → LRun links (after L p) tr C → LRun links L (p :: tr) C
theorem LRun.snoc {links : Links} {L C : Logs} {tr : List Pull} {p : Pull} (h : LRun links L tr C) (hp : (pullsOf links C).head? = some p) : LRun links L (tr ++ [p]) (after C p) := by
  induction h with
  | nil => exact .cons hp (.nil _)
  | cons h1 _ ih => exact .cons h1 (ih hp)
theorem LRun.det {links : Links} {L C : Logs} {tr : List Pull} (h : LRun links L tr C) : ∀ {tr' : List Pull} {C' : Logs}, LRun links L tr' C' → pullsOf links C = [] → pullsOf links C' = [] → tr = tr' ∧ C = C' := by
  induction h with
  | nil L =>
    intro tr' C' h' h1 h2
    cases h' with
    | nil => exact ⟨rfl, rfl⟩
    | cons hp _ =>
      rw [h1] at hp
      cases hp
  | cons hp _ ih =>
    intro tr' C' h' h1 h2
    cases h' with
    | nil =>
      rw [h2] at hp
      cases hp
    | cons hp' h'' =>
      rw [hp] at hp'
      cases hp'
      obtain ⟨e1, e2⟩ := ih h'' h1 h2
      exact ⟨by rw [e1], e2⟩
theorem head_mem {α : Type} {l : List α} {x : α} (h : l.head? = some x) : x ∈ l := List.mem_of_head? h
theorem LRun.ok {n sz : Nat} {links : Links} (W : OkW n sz links) {L C : Logs} {tr : List Pull} (h : LRun links L tr C) : okLogs n sz L → okLogs n sz C ∧ sumlen C = sumlen L + tr.length ∧ closedL n sz links C = closedL n sz links L := by
  induction h with
  | nil => exact fun h => ⟨h, rfl, rfl⟩
  | cons hp _ ih =>
    intro h
    have hm := head_mem hp
    obtain ⟨h1, h2, h3⟩ := ih (after_ok W h hm)
    refine ⟨h1, ?_, h3.trans (after_closed W h hm)⟩
    rw [h2, after_sum W h hm, List.length_cons]
    omega
/-! ### any pulls -/
/-- moments: each from the one before by a pull -/
inductive Moments (links : Links) : List Logs → Prop where
  | one (L : Logs) : Moments links [L]
  | snoc {Ms : List Logs} {L : Logs} {p : Pull} : Moments links (Ms ++ [L]) → p ∈ pullsOf links L → Moments links (Ms ++ [L] ++ [after L p])
theorem Moments.ok {n sz : Nat} {links : Links} (W : OkW n sz links) {Ms : List Logs} (h : Moments links Ms) : ∀ L, Ms[0]? = some L → okLogs n sz L →
    ∀ (i : Nat) (M : Logs), Ms[i]? = some M → okLogs n sz M ∧ sumlen M = sumlen L + i ∧ closedL n sz links M = closedL n sz links L := by
  induction h with
  | one L0 =>
    intro L h0 hL i M hi
    cases i with
    | zero =>
      simp at h0 hi
      subst h0
      subst hi
      exact ⟨hL, rfl, rfl⟩
    | succ i => simp at hi
  | @snoc Ms L1 p hM hp ih =>
    intro L h0 hL i M hi
    have h0' : (Ms ++ [L1])[0]? = some L := by
      rw [List.getElem?_append_left (by simp)] at h0
      exact h0
    have ih2 := ih L h0' hL
    by_cases hlt : i < (Ms ++ [L1]).length
    · rw [List.getElem?_append_left hlt] at hi
      exact ih2 i M hi
    · have hi2 : i = (Ms ++ [L1]).length := by
        have := (List.getElem?_eq_some_iff.mp hi).1
        rw [List.length_append, List.length_singleton] at this
        omega
      subst hi2
      rw [List.getElem?_append_right (Nat.le_refl _), Nat.sub_self] at hi
      have e : M = after L1 p := by simpa using hi.symm
      subst e
      have hl : (Ms ++ [L1])[Ms.length]? = some L1 := by simp
      obtain ⟨a1, a2, a3⟩ := ih2 Ms.length L1 hl
      refine ⟨after_ok W a1 hp, ?_, (after_closed W a1 hp).trans a3⟩
      rw [after_sum W a1 hp, a2, List.length_append, List.length_singleton]
      omega
end K8

set_option maxHeartbeats 4000000
/-! InvalidLogs made: its __init__ says super().__init__(f'..') and stores replica. -/
namespace PySem
namespace ILX
open PySem.W PySem.Calls PyProof.Rows PySem.HandSPX
/-! ### the text of __init__ -/
def iFn : Stmt := L2.inClass (K8.top 5) 0
abbrev iA (_ _ : Pos) : Arguments := L2.defArgs iFn
abbrev iB : List Stmt := L2.defBody iFn
abbrev iS : Scope := L2.defScope iFn
/-- what the written part says of InvalidLogs, at C, and of its __init__, at fI -/
structure IlTxt (prog : Program) (K : Frag) (mg : Str → Option Value) (C fI : Addr) : Prop where
  gC : mg "InvalidLogs" = some (.ref C)
  cls : ∃ nm q N bs bm sn sub ab col dd k0 k1 k2 k3 k5, K.lookup C = some (excClassObj nm q C N bs bm true sn sub ab col dd k0 k1 k2 k3 k5 "ValueError.__new__") ∧ refsVE bm = true ∧ alongIn K "__init__" bm = some (some (.builtin "ValueError.__init__"))
  sa : findIn K (.ref C) "__setattr__" = some (some (.builtin "object.__setattr__"))
  ga : findIn K (.ref C) "__getattribute__" = some (some (.builtin "BaseException.__getattribute__"))
  gg : findIn K (.ref C) "__getattr__" = some none
  noN : findIn K (.ref C) "replica" = some none
  iC : findIn K (.ref C) "__init__" = some (some (.ref fI))
  tC : typeIn K (.ref fI) = some (.type "function")
  kC : keepIn K (.ref C) = true
  exC : subIn K (.ref C) (.type "BaseException") = some true
  veC : subIn K (.ref C) (.type "ValueError") = some true
  slC : mroIn K C (.ref C) = some true
  tyC : typeIn K (.ref C) = some (.type "type")
  hdC : hasDictIn K C = true
  opq : nsIn K cStatics "thirdparty.any" = some none
  nsu : mg "super" = none
  ftop : (prog.main.scope.names.lookup ("super" : Str)).isSome = false
  fn : ∃ (cc cda : Addr) (oc : Value) (od : Option Addr) (doc pm : Value) (an : Option Addr) (ct : Value) (osl : Array (Option Value)) (p1 p2 : Pos)
    (vs : Array Value) (file : Str) (tf : Tok) (ccl cl : Value) (cdd cld : Option Addr) (ccs csl : Array (Option Value)),
    K.lookup fI = some ⟨oc, od, .func (ksFn "__init__" "InvalidLogs.__init__" (iA p1 p2) (iB) iS .none .none doc pm an (.ref cda) ct cc), osl⟩ ∧ codeIn K (.ref cda) "InvalidLogs.__init__" = true ∧
    K.lookup cda = some ⟨ccl, cdd, .fields vs, ccs⟩ ∧ vs[2]? = some (.str file tf) ∧ ((prog.main.file : Str) == file) = true ∧ K.lookup cc = some ⟨cl, cld, .cell (some (.ref C)), csl⟩
theorem one_size (v : Value) : [v].length ≤ sizeLine := by
  rw [sizeLine_eq]
  exact (by decide : 1 ≤ 16777216)
section
variable {prog : Program} {w : World} {A : Around} {E : Value → Shared → Prop} {h : Heap} {g : Array GenState} {d : Drawn} {t : Nat} {os : OsState}
variable {nm q : Str} {C N : Addr} {bs bm : List Value} {hdct : Bool} {sn : List Str} {sub : List Value} {ab : Bool} {col : Option Bool} {dd : Option Addr} {k0 k1 k2 k3 k5 : Option Value}
theorem call_mw {u e t0 : Addr} {rest : List Value} {Q : Value → Shared → Prop}
    (hC : h.get? C = some (excClassObj nm q C N bs bm hdct sn sub ab col dd k0 k1 k2 k3 k5 "ValueError.__new__")) (he : h.get? e = some (HandSPX.excO C t0)) (hu : h.get? u = some (kxs_mw "ValueError.__init__" e)) (hrest : rest.length ≤ sizeLine)
    (hq : ∀ h' t1, (∀ b o, b ≠ e → h.get? b = some o → h'.get? b = some o) → h'.get? e = some (HandSPX.excO C t1) → Q .none ⟨h', g, d, t, os⟩) :
    wpAny (model prog w) A (call (.ref u) rest) Q E ⟨h, g, d, t, os⟩ := by
  refine wpAny_call (codeAny_of_tree ?_)
  show wpAny _ A.in1 (callAny (.ref u) ⟨rest, []⟩) _ _ _
  simp only [callAny]
  refine wpAny_bind (wpAny_load hu ?_)
  simp only [kxs_mw, show (Value.type "method-wrapper" == Value.type "method" || Value.type "method-wrapper" == Value.type "builtin_function_or_method" || Value.type "method-wrapper" == Value.type "method-wrapper") = true by decide, if_true]
  refine W.KFB.if_so (by decide) ?_
  refine wpAny_bind (check_bound_init PySem.F.excBase_ValueError.toExcCallFacts hC he rfl ?_)
  refine wpAny_bind (wpAny_pure (wpAny_pure ?_))
  refine ⟨Code.quiet_builtin _ (by decide +kernel), codeAny_builtin PySem.F.excBase_ValueError.initEntry ?_⟩
  rw [Around.under_plainId PySem.F.excBase_ValueError.init.plain _]
  wp_walk
  refine hq _ h.objs.size (fun b o hb ho => ?_) ?_
  · rw [Heap.get?_update_other _ _ (Ne.symm hb)]
    exact Heap.get?_push_of_some _ ho
  · rw [Heap.get?_update_self _ (Heap.get?_push_of_some _ he) rfl]
    rfl
end
/-- what __init__ leaves of a fresh exception at x -/
structure InitEnd (h h' : Heap) (x C dx t1 : Addr) (v : Value) : Prop where
  keep : ∀ b o, b ≠ x → h.get? b = some o → h'.get? b = some o
  obj : h'.get? x = some { cls := .ref C, dict := some dx, data := .fields #[.ref t1, .none, .none, .none, .bool false, .none] }
  dbig : h.objs.size ≤ dx
  dne : dx ≠ x
  ns : h'.Ns1 dx (fun y => if y = "replica" then some v else none)
/-- a made InvalidLogs -/
structure OwnMade (h h' : Heap) (e C d : Addr) (v : Value) : Prop where
  keep : ∀ b o, h.get? b = some o → h'.get? b = some o
  new : h.objs.size ≤ e
  obj : ∃ oe vs, h'.get? e = some oe ∧ oe.cls = .ref C ∧ oe.dict = some d ∧ oe.data = .fields vs ∧ vs[1]? = some .none
  dbig : h.objs.size ≤ d
  dne : d ≠ e
  ns : h'.Ns1 d (fun y => if y = "replica" then some v else none)
/-- the value that is told: None, or an int of few digits -/
def Told (v : Value) : Prop := v = .none ∨ ∃ (n : Nat) (tk : Tok), n < 64 ∧ v = .int (n : Int) tk
theorem told_small : ∀ n : Nat, n < 64 → ((n : Int).natAbs.log2 < 1920 ∧ ((Str.empty ++ ("invalid logs at replica " : Str)) ++ (toString (n : Int) : Str)).length ≤ sizeLine) := by
  decide +kernel
theorem ldC {M : Model} {s : Shared} {name : Str} {scope : Scope} {L a cc : Addr} {cd : Value} {m : Str → Option Value} {x : Str} {pos : Pos} {v : Value} {Q : Value → Shared → Prop} {A : Around} {E : Value → Shared → Prop} (hn : s.heap.Ns L m) (hv : m x = some v) (h : Q v s)
    (hk : scope.kind = .function := by rfl) (hl : (ksEnv name scope L a cd cc).kindOf x = some .local := by rfl) (hd : (x == ("__debug__" : Str)) = false := by decide) : wpAny M A (eval (.Name x pos) (ksEnv name scope L a cd cc)) Q E s := wpAny_Name (wpAny_loadName_local hk hl hn hv h) hd
section
variable {prog : Program} {w : World} {A : Around} {E : Value → Shared → Prop} {R : Result → Shared → Prop} {K : Frag} {mg mb : Str → Option Value} {C fI : Addr} {hp : Heap} {g : Array GenState} {d : Drawn} {t : Nat} {os : OsState}
theorem size_ge {h h' : Heap} (k : ∀ b o, h.get? b = some o → h'.get? b = some o) {n : Nat} : True := trivial
theorem il_init (T : IlTxt prog K mg C fI) {x t0 : Addr} {v : Value} (hv : Told v) (X : K.In hp) (hlim : hp.NoLimit) (hG : hp.Ns mainGlobals mg) (hB : hp.Ns builtinsNs mb) (hbs : mb "super" = some (.type "super")) (hx : hp.get? x = some (excO C t0)) (hnx : K.lookup x = none)
    (hroom : A.depth < recursionLimit)
    (hq : ∀ h' tk dx t1, InitEnd hp h' x C dx t1 v → R (.ok (.ret .none)) ⟨h', g, d, tk, os⟩) :
    codeAny (model prog w) A (.call (.ref fI) ⟨[.ref x, v], []⟩) R ⟨hp, g, d, t, os⟩ := by
  obtain ⟨cc, cda, oc, od, doc, pm, an, ct, osl, p1, p2, vs, file, tf, ccl, cl, cdd, cld, ccs, csl, ho, hcd, hcda, hvs, hfile, hcc⟩ := T.fn
  obtain ⟨nm, q, N, bs, bm, sn, sub, ab, col, dd, k0, k1, k2, k3, k5, hC, hbm, hal⟩ := T.cls
  have hcl : clsIn K C = some { name := nm, bases := bs, mro := .ref C :: bm, ns := N, qualname := q, hasDict := true, slotNames := sn, subclasses := sub, abstract := ab, collection := col, hasDel := false } := by unfold clsIn; rw [hC] <;> rfl
  have hxC : x ≠ C := fun z => by rw [z, hC] at hnx; cases hnx
  refine ks_codeAny_call_defAt (fd := ksFn "__init__" "InvalidLogs.__init__" (iA p1 p2) (iB) iS .none .none doc pm an (.ref cda) ct cc) (body := iB) (binds := [("self", .ref x), ("replica", v)])
    hroom (X _ _ ho) rfl hlim (codeRec_of X hcd) rfl (BindsTo.of_eq (by first | rfl | with_unfolding_all rfl)) (show ∀ x ∈ iS.names, x.2 ≠ .cell by decide +kernel) ?_ (fun h₁ hns k₁ => ?_) rfl rfl rfl
  · intro y hy
    rcases List.mem_cons.mp hy with e | hy
    · rw [e]; rfl
    · rcases List.mem_cons.mp hy with e | hy
      · rw [e]; rfl
      · cases hy
  show PySem.wpAt (model prog w) (A.deeper (ksEnv "InvalidLogs.__init__" iS hp.objs.size fI (.ref cda) cc)) (.func (iB) (ksEnv "InvalidLogs.__init__" iS hp.objs.size fI (.ref cda) cc)) (execs (iB) (ksEnv "InvalidLogs.__init__" iS hp.objs.size fI (.ref cda) cc)) _ _ _
  have X₁ : K.In h₁ := X.keeps k₁
  have hx₁ := k₁ _ _ hx
  have hLx : hp.objs.size ≠ x := Nat.ne_of_gt (Heap.lt_size hx)
  refine ks_wpAt_execs_cons (ks_wpAt_Expr_any (ks_wpAt_MethodCall ?_ rfl) rfl rfl)
  refine ks_wpAt_super_base (env := ksEnv "InvalidLogs.__init__" iS hp.objs.size fI (.ref cda) cc) (by rfl) (by rfl) (by decide +kernel) rfl (X₁ _ _ ho) rfl rfl rfl (X₁ _ _ hcda) rfl hvs hfile T.ftop ?_
  refine ks_loadName_global rfl (by rfl) (loadGlobal_builtin (env := ksEnv "InvalidLogs.__init__" iS hp.objs.size fI (.ref cda) cc) (hG.keeps k₁) T.nsu (hB.keeps k₁) hbs ⟨rfl, ?_⟩)
  refine wpAny_loadName_free rfl (by rfl) rfl ⟨_, X₁ _ _ hcc, rfl⟩ ?_
  refine wpAny_loadName_local rfl (by rfl) hns (v := .ref x) (by first | rfl | with_unfolding_all rfl | kernel_rfl) ?_
  refine ks_wpAny_isType_cls (X₁ _ _ hC) rfl ⟨rfl, ?_⟩
  refine ks_wpAny_call_super (X₁ _ _ hC) rfl hx₁ rfl (fun c e => by cases e) (looks_mroIn X₁ T.slC) (fun h₂ e₂ k₂ => ?_)
  have X₂ : K.In h₂ := X₁.keeps k₂
  have hx₂ := k₂ _ _ hx₁
  have I₂ : InstAt h₂ x (excO C t0) C none := ⟨hx₂, rfl, rfl, trivial⟩
  refine kxs_getMethod kxs_ValueError (K := K) (l₀ := .ref C :: bm) (l := bm) e₂ (looks_opaque X₂ T.opq) ?_ (by simp [List.dropWhile_cons]) X₂ hal (I₂.type.andThen (looks_subIn X₂ T.veC)) hxC (by decide +kernel) ?_
  · exact fun A Q E s k q => wpAny_bind ((looks_clsIn X₂ hcl) A _ E s k (wpAny_pure q))
  have hu₃ : (h₂.push (kxs_mw "ValueError.__init__" x)).get? h₂.objs.size = some (kxs_mw "ValueError.__init__" x) := Heap.get?_push_at rfl rfl
  have k₃ : ∀ b o, h₂.get? b = some o → (h₂.push (kxs_mw "ValueError.__init__" x)).get? b = some o := fun b o e => Heap.get?_push_of_some _ e
  have hns₃ := (hns.keeps k₂).keeps k₃
  generalize hh₃ : h₂.push (kxs_mw "ValueError.__init__" x) = h₃ at hu₃ k₃ hns₃
  have X₃ : K.In h₃ := X₂.keeps k₃
  have hx₃ := k₃ _ _ hx₂
  refine kxs_callWith (i := "ValueError.__init__") (x := x) rfl (evalArgs_plain ?_)
  -- the argument's text, then the call
  have fin : ∀ (z : Value) (tk : Nat), wpAny (model prog w) (A.deeper (ksEnv "InvalidLogs.__init__" iS hp.objs.size fI (.ref cda) cc)) (call (.ref h₂.objs.size) [z])
      (fun _ s' => PySem.wpAt (model prog w) (A.deeper (ksEnv "InvalidLogs.__init__" iS hp.objs.size fI (.ref cda) cc)) (.func (iB) (ksEnv "InvalidLogs.__init__" iS hp.objs.size fI (.ref cda) cc))
        (execs (iB.drop 1) (ksEnv "InvalidLogs.__init__" iS hp.objs.size fI (.ref cda) cc))
        (fun f s' => R (.ok (.ret (match f with | .ret v => v | _ => .none))) s')
        (fun e s' => wpAny (model prog w) (A.deeper (ksEnv "InvalidLogs.__init__" iS hp.objs.size fI (.ref cda) cc)) (leaving (ksEnv "InvalidLogs.__init__" iS hp.objs.size fI (.ref cda) cc) e) (fun _ s'' => R (.error e) s'') (fun e' s'' => R (.error e') s'') s') s')
      (fun e s' => wpAny (model prog w) (A.deeper (ksEnv "InvalidLogs.__init__" iS hp.objs.size fI (.ref cda) cc)) (leaving (ksEnv "InvalidLogs.__init__" iS hp.objs.size fI (.ref cda) cc) e) (fun _ s'' => R (.error e) s'') (fun e' s'' => R (.error e') s'') s') ⟨h₃, g, d, tk, os⟩ := by
    intro z tk
    refine call_mw (X₃ _ _ hC) hx₃ hu₃ (one_size z) (fun h₄ t1 k₄ hx₄ => ?_)
    refine wpAt_of_wpAny ?_
    have X₄ : K.In h₄ := fun a o e => k₄ a o (fun y => by rw [y, hnx] at e; cases e) (X₃ a o e)
    have hns₄ : h₄.Ns hp.objs.size (fun y => ([("self", Value.ref x), ("replica", v)] : List (Str × Value)).reverse.lookup y) := by
      obtain ⟨oL, es, ep, e1, e2⟩ := hns₃
      exact ⟨oL, es, ep, k₄ _ _ hLx e1, e2⟩
    refine wpAny_execs_cons (plainObj_wpAny_Assign_Attribute ?_)
    refine ldC (v := v) hns₄ (by first | rfl | with_unfolding_all rfl | kernel_rfl) (ldC (v := .ref x) hns₄ (by first | rfl | with_unfolding_all rfl | kernel_rfl) ?_)
    refine set_plain X₄ (ox := excO C t1) (od := none) ⟨hx₄, rfl, rfl, trivial⟩ T.sa ?_
    refine exc_osa X₄ hx₄ hcl (show refsVE (.ref C :: bm) = true from hbm) rfl T.noN (fun h₅ tk₅ dx k₅ dn dne hx₅ hn₅ => ?_)
    refine wpAny_execs_nil (hq h₅ tk₅ dx t1 ⟨fun b o hb e => k₅ b o hb (k₄ b o hb (k₃ b o (k₂ b o (k₁ b o e)))), hx₅, ?_, dne, hn₅⟩)
    -- the dict is younger than the entry
    have z1 : hp.objs.size < h₄.objs.size := hns₄.lt
    exact Nat.le_of_lt (Nat.lt_of_lt_of_le z1 dn)
  refine spliced_cons (wpAny_JoinedStr (pos := ⟨20, 25, 20, 61⟩) ?_)
  refine Constant_str ?_
  refine ⟨_, _, rfl, by decide +kernel, ?_⟩
  refine wpAny_FormattedValue_plain (pos := ⟨20, 51, 20, 60⟩) ?_
  refine ldC (v := v) hns₃ (by first | rfl | with_unfolding_all rfl | kernel_rfl) ?_
  rcases hv with hv | ⟨n, tk, hn, hv⟩
  · subst hv
    refine wpAny_formatField_none ⟨_, _, rfl, by decide +kernel, ?_⟩
    exact ⟨by decide +kernel, spliced_nil ⟨hu₃, fin _ _⟩⟩
  · subst hv
    obtain ⟨hsm, hlen⟩ := told_small n hn
    refine wpAny_formatField_int hsm ?_
    refine ⟨_, _, rfl, hlen, ?_⟩
    exact ⟨hlen, spliced_nil ⟨hu₃, fin _ _⟩⟩
theorem il_made (T : IlTxt prog K mg C fI) {v : Value} (hv : Told v) (X : K.In hp) (hlim : hp.NoLimit) (hG : hp.Ns mainGlobals mg) (hB : hp.Ns builtinsNs mb) (hbs : mb "super" = some (.type "super")) (hroom : A.depth + 1 < recursionLimit)
    (hq : ∀ h' tk e dx, OwnMade hp h' e C dx v → R (.ok (.ret (.ref e))) ⟨h', g, d, tk, os⟩) :
    codeAny (model prog w) A (.call (.ref C) ⟨[v], []⟩) R ⟨hp, g, d, t, os⟩ := by
  obtain ⟨nm, q, N, bs, bm, sn, sub, ab, col, dd, k0, k1, k2, k3, k5, hC, hbm, hal⟩ := T.cls
  have k : ∀ b o, hp.get? b = some o → ((hp.push (kdv_tup [v])).push (excO C hp.objs.size)).get? b = some o := fun b o e => Heap.get?_push_of_some _ (Heap.get?_push_of_some _ e)
  have hget : ((hp.push (kdv_tup [v])).push (excO C hp.objs.size)).get? (hp.objs.size + 1) = some (excO C hp.objs.size) := by heap_get
  have hnx : K.lookup (hp.objs.size + 1) = none := by
    cases e : K.lookup (hp.objs.size + 1) with
    | none => rfl
    | some o =>
      have z : hp.get? (hp.objs.size + 1) = some o := X _ _ e
      exact absurd (Nat.lt_of_succ_lt (Heap.lt_size z)) (Nat.lt_irrefl _)
  refine call_own PySem.F.excBase_ValueError (fun X => refsVE_contains X bm hbm) (X _ _ hC) (looks_findIn X T.iC) (fun self => bind_fn X self T.tC) (one_size v) ?_
  refine il_init T hv (X.keeps k) (hlim.keeps k) (hG.keeps k) (hB.keeps k) hbs hget hnx ?_ fun h' tk' dx t1 ⟨k', hx, dn, dne, hns⟩ => ?_
  · show A.depth + 1 < recursionLimit
    exact hroom
  · have old : ∀ b o, hp.get? b = some o → h'.get? b = some o := fun b o e => k' b o (Nat.ne_of_lt (Nat.lt_succ_of_lt (Heap.lt_size e))) (k b o e)
    have z : hp.objs.size + 1 + 1 ≤ dx := by
      first
        | (simpa only [Heap.size_push] using dn)
        | exact dn
        | (have q := dn; rw [Heap.size_push, Heap.size_push] at q; exact q)
    exact ⟨rfl, hq h' tk' (hp.objs.size + 1) dx ⟨old, Nat.le_succ _, ⟨_, _, hx, rfl, rfl, rfl, rfl⟩, Nat.le_trans (Nat.le_trans (Nat.le_succ _) (Nat.le_succ _)) z, dne, hns⟩⟩
end
end ILX
end PySem
namespace K8
open PySem PySem.Spec PyProof.Rows L2
theorem relO_rep {v : V} {v' : Value} (r : RelV v v') (f : Str) : RelO (List.lookup f [(("replica" : Str), v)]) (if f = "replica" then some v' else none) := by
  by_cases hw : f = "replica"
  · subst hw
    rw [if_pos rfl]
    have q : List.lookup ("replica" : Str) [(("replica" : Str), v)] = some v := by simp [List.lookup]
    rw [q]
    exact r
  · rw [if_neg hw]
    have qw : (f == ("replica" : Str)) = false := by simpa using hw
    have q2 : List.lookup f [(("replica" : Str), v)] = none := by simp [List.lookup, qw]
    rw [q2]
    trivial
/-- what may be told: None or a small number -/
def ToldV (v : V) : Prop := v = .non ∨ ∃ n : Nat, n < 64 ∧ v = .int (n : Int)
theorem ToldV.rel {v : V} {u : Value} (h : ToldV v) (r : RelV v u) : PySem.ILX.Told u := by
  rcases h with h | ⟨n, hn, h⟩
  · subst h
    exact .inl r
  · subst h
    obtain ⟨t, e⟩ := r
    exact .inr ⟨n, t, hn, e⟩
section
variable {X : Cx} {C fI : Addr}
/-- InvalidLogs(e) -/
def tMkIl (C : Addr) (ta : TA) : L2.St → Hp → XK → Prop := fun σ H Q => ta σ H fun vs H1 => ∃ v, vs = [v] ∧ ToldV v ∧ ∀ d, H1 d = none → Q (.ref C) (some d) (upd H1 d (.xd [(("replica" : Str), v)]))
theorem pmk_il {a : Expr} {ta : TA} {p pos : Pos} {k : Nat} (T : PySem.ILX.IlTxt X.prog X.K X.mg C fI) (hr : Room k X.A) (ha : PA X [a] ta) (hg : Gl X "InvalidLogs" := by rfl)
    (he : starEach (a :: []) X.env = (false, eval a X.env) :: starEach [] X.env := by rfl) (hpl : (backTo pos (starEach [] X.env)).any (·.1) = false := by rfl) :
    PMk X (.Call (.Name "InvalidLogs" p) [a] [] pos) (tMkIl C ta) := by
  intro pins s σ H Q I h
  refine wpAny_Call_Name_kw (ld_glob I hg T.gC ?_)
  refine PySem.W.callWith_K (h₀ := X.base) I.ok.mod.kin T.kC (thn (ha.run pos pins s σ H _ I h) fun us s1 hh => ?_) he hpl
  obtain ⟨vs, H1, I1, r1, v, ev, hv, q1⟩ := hh
  subst ev
  refine ⟨I1.kIn, ?_⟩
  cases r1 with
  | cons rv rn =>
    rename_i v' us'
    cases rn
    show wpAny _ _ (call (.ref C) [v']) _ _ _
    have hlim := I1.nolimit
    obtain ⟨mb, hB, hbb⟩ := I1.mod.blt
    obtain ⟨hp, g, dr, tk, os⟩ := s1
    refine wpAny_call (PySem.ILX.il_made T (hv.rel rv) I1.kIn hlim (I1.mod.glob.keeps I1.bk) (hB.keeps I1.bk) ((hbb "super" (by decide +kernel)).trans (by decide +kernel)) (by have := hr.dp; omega) fun h' tk' e d M => ?_)
    show MkP X pins σ Q (.ref e) ⟨h', g, dr, tk', os⟩
    obtain ⟨oe, fv, hoe, hc, hd, hdat, h1⟩ := M.obj
    have hns := M.ns
    obtain ⟨G', g1, g2⟩ := restrict h' fun b => decide (b ≠ e)
    have gk : ∀ b, b ≠ e → G'.get? b = h'.get? b := fun b hb => g1 b (decide_eq_true hb)
    have ge : G'.get? e = none := g2 e (by simp)
    have old : ∀ b o, hp.get? b = some o → G'.get? b = some o := fun b o q => (gk b (Nat.ne_of_lt (Nat.lt_of_lt_of_le (Heap.lt_size q) M.new))).trans (M.keep b o q)
    have ob : ObjOk X.prog X.w (upd H1 d (.xd [(("replica" : Str), v)])) G' d (.xd [(("replica" : Str), v)]) :=
      ⟨_, hns.at (fun o q => (gk d M.dne).trans q), fun f => relO_rep rv f⟩
    have J : Inv X pins σ (upd H1 d (.xd [(("replica" : Str), v)])) ⟨G', g, dr, tk', os⟩ := I1.laid (t' := tk') old M.dbig ob
    refine ⟨e, oe, fv, ⟨G', g, dr, tk', os⟩, _, .ref C, some d, rfl, J, fun b o q => ?_, ge, hoe, ⟨hc, hd⟩, hdat, h1, ?_, rfl, I1.bare, raises_own T.exC T.tyC, q1 d (I1.hok.fresh M.dbig)⟩
    · by_cases hb : b = e
      · have q' : G'.get? b = some o := q
        rw [hb, ge] at q'; cases q'
      · exact (gk b hb).symm.trans q
    · rw [upd_ne (Ne.symm M.dne)]
      exact I1.hok.fresh M.new
/-- raise InvalidLogs(e) -/
def tRaiseIl (C : Addr) (W : WX) (ta : TA) : TS := fun _ σ H => tMkIl C ta σ H fun cls d H' => W cls d σ H'
theorem ps_raiseIl {a : Expr} {ta : TA} {W : WX} {p pos pos2 : Pos} {k : Nat} (hc : X.calm = true) (T : PySem.ILX.IlTxt X.prog X.K X.mg C fI) (hr : Room k X.A) (tk : Takes X W) (ha : PA X [a] ta) (hg : Gl X "InvalidLogs" := by rfl)
    (he : starEach (a :: []) X.env = (false, eval a X.env) :: starEach [] X.env := by rfl) (hpl : (backTo pos (starEach [] X.env)).any (·.1) = false := by rfl) :
    PS X (.Raise (some (.Call (.Name "InvalidLogs" p) [a] [] pos)) none pos2) (tRaiseIl C W ta) := ps_raise hc tk (pmk_il T hr ha hg he hpl)
end
/-! ### isinstance of the caught error, which has its own dict -/
end K8
namespace PySem.W
open PySem PySem.Spec PySem.Calls PyProof.Rows
section
variable {prog : Program} {w : World} {A : Around} {E : Value → Shared → Prop} {s : Shared} {K : Frag} {x D : Addr} {ox : Obj} {od : Option Obj}
theorem k8_findObj_data {C : Addr} {name : Str} {a g : Value} (hc : (clsIn K C).isSome = true) (ha : findIn K (.ref C) name = some (some a)) (hg : specialIn K a "__get__" = some (some g)) (ht : takesIn K a = some true) : findObj K C od name = some (.bind g a) := by
  obtain ⟨cd, hc⟩ := Option.isSome_iff_exists.mp hc
  unfold findObj
  rw [hc, Option.bind_some, ha, Option.bind_some]
  simp [hg, ht]
theorem k8_class {Q : Option Value → Shared → Prop} (hga : findIn K (.ref D) "__getattribute__" = some (some (.builtin "BaseException.__getattribute__"))) (hgt : findIn K (.ref D) "__getattr__" = some none) (hsub : subIn K (.ref D) (.type "BaseException") = some true)
    (hdct : hasDictIn K D = true) (ha : findIn K (.ref D) "__class__" = some (some (.builtin "object.__class__")))
    (hn : specialIn K (.builtin "object.__class__") "__get__" = some (some (.builtin "getset_descriptor.__get__"))) (htk : takesIn K (.builtin "object.__class__") = some true) (hm : mroIn K D (.type "object") = some true)
    (X : K.In s.heap) (I : InstAt s.heap x ox D od) (h : Q (some (.ref D)) { s with toks := s.toks + 1 }) : wpAny (model prog w) A (getAttr? (.ref x) "__class__") Q E s := by
  have hf : findObj K D od "__class__" = some (.bind (.builtin "getset_descriptor.__get__") (.builtin "object.__class__")) := k8_findObj_data (by obtain ⟨cd, hc, _⟩ := any_some hdct; rw [hc]; rfl) ha hn htk
  obtain ⟨hp, g, d, t, os⟩ := s
  have L0 := I.type (M := model prog w)
  have L1 := looks_findIn (M := model prog w) X hga
  have L2 := looks_findIn (M := model prog w) X hgt
  have L3 := looks_find (M := model prog w) X I hf
  have sub : Looks (model prog w) hp (isInstance (.ref x) (.type "BaseException")) true := L0.andThen (looks_subIn X hsub)
  have hx0 : (false && onTheHeap (Value.builtin "BaseException.__getattribute__")) = false := rfl
  have hx2 : (Value.builtin "BaseException.__getattribute__" == Value.builtin "object.__getattribute__") = false := by decide +kernel
  have hx1 : (onTheHeap (Value.ref D) && Value.builtin "BaseException.__getattribute__" == Value.builtin "object.__getattribute__") = false := by rw [hx2]; rfl
  unfold getAttr? getAttrBy? getAttrBy
  refine wpAny_bind (wpAny_mkText (wpAny_bind (wpAny_attempt (wpAny_holding (wpAny_bind (L0.at (wpAny_bind (L1.at ?_))))))))
  show wpAny _ _ (if (onTheHeap (Value.ref D) && Value.builtin "BaseException.__getattribute__" == Value.builtin "object.__getattribute__") = true then _ else _) _ _ _
  rw [hx1, if_neg Bool.false_ne_true]
  unfold getAttrByItsOwn hookBefore
  refine wpAny_bind ?_
  rw [if_pos (show onTheHeap (Value.ref D) = true from rfl)]
  refine L2.at ?_
  refine wpAny_bind (wpAny_attempt (wpAny_holding ?_))
  unfold callGetattribute
  rw [hx0, if_neg Bool.false_ne_true]
  unfold boundAndCalled
  rw [PySem.F.excAttr_ValueError.ga.bind (.ref x)]
  refine wpAny_bind (wpAny_pure ?_)
  show wpAny _ _ (call (.builtin "BaseException.__getattribute__") [.ref x, .str "__class__" t]) _ _ _
  refine wpAny_call (codeAny_call_builtin PySem.F.excAttr_ValueError.ga.plain PySem.F.entry_bexc_ga ?_)
  refine @check_slot (model prog w) _ _ ⟨hp, g, d, t + 1, os⟩ "BaseException.__getattribute__" "BaseException" "__getattribute__" (.ref x) [.str "__class__" t] [] _ (by decide +kernel) (by decide +kernel) sub (PySem.F.args_bexc_ga (.ref x) (.str "__class__" t)) ?_
  unfold Builtin.«object.__getattribute__»
  refine wpAny_bind (wpAny_of_eq (a := ((Value.ref x : Value), [Value.str "__class__" t])) (by first | rfl | (simp only [slotArgs]; rfl)) ?_)
  refine wpAny_bind (wpAny_pure (wpAny_bind (L0.at (wpAny_bind (L3.at ?_)))))
  show wpAny _ _ (holding [Value.builtin "object.__class__"] (call (.builtin "getset_descriptor.__get__") [.builtin "object.__class__", .ref x, .ref D]) >>= ret) _ _ _
  refine wpAny_bind (wpAny_holding (wpAny_call (class_get (s := ⟨hp, g, d, t + 1, os⟩) (ox := ox) (od := od) X I hm ?_)))
  refine wpAny_pure ?_
  show wpAny _ _ (handedOut (.ref D)) _ _ _
  rw [handedOut_of (v := .ref D) rfl]
  first
    | exact wpAny_pure (wpAny_pure h)
    | exact wpAny_pure h
    | exact wpAny_pure (wpAny_bind (wpAny_pure (wpAny_pure h)))
theorem k8_kitx (hga : findIn K (.ref D) "__getattribute__" = some (some (.builtin "BaseException.__getattribute__"))) (hgt : findIn K (.ref D) "__getattr__" = some none) (hsub : subIn K (.ref D) (.type "BaseException") = some true) (hdct : hasDictIn K D = true) (ha : findIn K (.ref D) "__class__" = some (some (.builtin "object.__class__")))
    (hn : specialIn K (.builtin "object.__class__") "__get__" = some (some (.builtin "getset_descriptor.__get__"))) (htk : takesIn K (.builtin "object.__class__") = some true) (hm : mroIn K D (.type "object") = some true) :
    KitX K (.ref x) (.ref D) (fun h => InstAt h x ox D od) where
  ty := fun _ _ _ I => I.type
  it := fun _ _ X _ => by
    obtain ⟨cdD, hcD, _⟩ := any_some hdct
    unfold clsIn at hcD
    split at hcD
    · rename_i c' d' cd' sl' ho
      intro A' Q' E' s' k q
      unfold isType loadHead
      exact wpAny_bind (wpAny_loadPart (k _ _ (X _ _ ho)) (wpAny_pure q))
    · cases hcD
  ne := fun h tp dd its n sl X htp => by
    obtain ⟨cdD, hcD, _⟩ := any_some hdct
    refine Bool.eq_false_iff.mpr fun q => ?_
    have e : D = tp := Value.ref.inj (beq_iff_eq.mp q)
    subst e
    unfold clsIn at hcD
    split at hcD
    · rename_i c' d' cd' sl' ho
      have z := (X _ _ ho).symm.trans htp
      cases z
    · cases hcD
  ca := fun X I k => k8_class hga hgt hsub hdct ha hn htk hm X I k
end
end PySem.W
namespace K8
open PySem PySem.Spec PyProof.Rows L2
/-- isinstance(e, c), e the exception that the suite holds, d its own dict -/
def rIsD (K : PySem.W.Frag) (D a dd : Addr) : List V → Hp → VK → Prop := fun xs H Q => ∃ (c : V) (cv : Value) (b : Bool) (fs : List (Str × V)), xs = [.ref a, c] ∧ H dd = some (.xd fs) ∧ (∀ u, RelV c u → u = cv) ∧ PySem.W.kitOne K (.ref D) cv = some b ∧ Q (.bl b) H
theorem call_isD {X : Cx} {a D dd : Addr} {oe : Obj} {pn : List (Addr × Obj)} (C : ExcC X.K D) (hz : Zc (.ref D) (some dd) oe) (hf : ∃ vs, oe.data = .fields vs) : CallR (X.suite a ((a, oe) :: pn)) (.builtin "isinstance") (rIsD X.K D a dd) := by
  intro pins s σ H xs us Q I r h
  obtain ⟨c, cv, b, fs, rfl, hd, hcv, e, q⟩ := h
  cases r with
  | cons rx rr =>
    cases rr with
    | cons rt rr =>
      cases rr
      cases rx
      have ec := hcv _ rt
      subst ec
      obtain ⟨hget, _⟩ := I.pin (a, oe) (List.mem_append.mpr (.inl List.mem_cons_self))
      obtain ⟨vs, hv⟩ := hf
      have hx : ObjOk X.prog X.w H s.heap dd (.xd fs) := I.hok dd _ hd
      obtain ⟨mA, hns, hr⟩ := hx
      obtain ⟨od, es, ep, ho, _⟩ := hns
      have J : PySem.W.InstAt s.heap a oe D (some od) := by
        obtain ⟨oc, odd, oda, osl⟩ := oe
        obtain ⟨h1, h2⟩ := hz
        dsimp only at h1 h2 hv
        subst h1 h2 hv
        exact ⟨hget, rfl, rfl, ho⟩
      exact PySem.W.kia_one (PySem.W.k8_kitx C.hg C.hk C.hs C.hd C.ha C.hn C.ht C.hm) I.kIn J e (fun z => nomatch z) fun tk => ⟨.bl b, H, I.kept (t' := tk) fun _ _ z => z, rfl, q⟩
end K8

set_option maxHeartbeats 4000000
/-! all(0 <= entry < size for entry in log): a generator expression over a list of ints, with a captured int. -/
namespace K8
open PySem PySem.Spec PyProof.Rows L2 GxR
/-- the element: a test of the int k, where the captured name y stands for the int n -/
def EltI (prog : Program) (w : World) (scope : Scope) (x y : Str) (elt : Expr) (n : Int) (pb : Int → Bool) : Prop :=
  ∀ (cenv : Env) (A' : Around) (E' : Value → Shared → Prop) (k : Int) (t tn : Tok) (cc : Addr) (s₂ : Shared) (m₂ : Str → Option Value), cenv.scope = scope → cenv.cells.lookup y = some cc → s₂.heap.IsCell cc (some (.int n tn)) → s₂.heap.Ns cenv.locals m₂ → m₂ x = some (.int k t) →
    wpAny (model prog w) A' (eval elt cenv) (fun z s₃ => z = .bool (pb k) ∧ Keeps s₂ s₃) E' s₂
theorem elt_range {prog : Program} {w : World} {scope : Scope} {x y : Str} {n : Int} {j : Nat} {p1 p2 p3 p4 : Pos} (hk : scope.kind = .function) (hl : scope.names.lookup x = some .local) (hf : scope.names.lookup y = some .free)
    (hd : (x == ("__debug__" : Str)) = false := by decide) (hd2 : (y == ("__debug__" : Str)) = false := by decide) (hcd : (y == ("__classdict__" : Str)) = false := by decide) :
    EltI prog w scope x y (.Compare (.Constant (.int 0) j p1) [.LtE, .Lt] [.Name x p2, .Name y p3] p4) n (fun k => decide (0 ≤ k) && decide (k < n)) := by
  intro cenv A' E' k t tn cc s₂ m₂ hs hc hcell hn hm
  refine Compare_chain ?_
  refine wpAny_Constant_int ?_
  refine chain_link ?_
  refine wpAny_Name (wpAny_loadName_local (by rw [hs]; exact hk) (show cenv.scope.names.lookup x = some .local by rw [hs]; exact hl) hn hm ?_) hd
  refine PySem.P.le_int ?_
  refine wpAny_truthy_bool ?_
  by_cases h0 : (0 : Int) ≤ k
  · rw [decide_eq_true h0]
    refine ite_tt (chain_last ?_)
    refine wpAny_Name (wpAny_loadName_free (by rw [hs]; exact hk) (show cenv.scope.names.lookup y = some .free by rw [hs]; exact hf) hc hcell ?_ hcd) hd2
    refine PySem.P.lt_int ⟨?_, keeps_tok _ _⟩
    show Value.bool (decide (k < n)) = Value.bool (decide (0 ≤ k) && decide (k < n))
    rw [decide_eq_true h0, Bool.true_and]
  · rw [decide_eq_false h0]
    refine ite_ff ⟨?_, keeps_tok _ _⟩
    show Value.bool false = Value.bool (decide (0 ≤ k) && decide (k < n))
    rw [decide_eq_false h0, Bool.false_and]
/-- the test at place j -/
def trI (pb : Int → Bool) (l : List Int) (j : Nat) : Bool := match l[j]? with
  | some b => pb b
  | none => false
theorem trI_some {pb : Int → Bool} {l : List Int} {j : Nat} {b : Int} (h : l[j]? = some b) : trI pb l j = pb b := by
  unfold trI
  rw [h]
theorem all_trI (l : List Int) (pb : Int → Bool) : (List.range l.length).all (trI pb l) = l.all pb := by
  rw [Bool.eq_iff_iff, List.all_eq_true, List.all_eq_true]
  constructor
  · intro h b hb
    obtain ⟨j, hj, e⟩ := List.getElem_of_mem hb
    have q := h j (List.mem_range.mpr hj)
    rw [trI_some (List.getElem?_eq_getElem hj), e] at q
    exact q
  · intro h j hj
    have hj' := List.mem_range.mp hj
    rw [trI_some (List.getElem?_eq_getElem hj')]
    exact h _ (List.getElem_mem hj')
/-- the generator g over the ints ns, ready to be walked, in the state s5 -/
def ReadyI (X : Cx) (pins : List (Addr × Obj)) (σ : L2.St) (H1 : Hp) (P : Addr) (ns : List Int) (pb : Int → Bool) (g : Addr) (s5 : Shared) : Prop :=
  ∃ (fp wr : List Addr) (G : Array GenState → Array GenState → Prop) (F : Nat → Value → Prop) (St : Nat → Shared → Prop),
    WalksS X.prog X.w X.A.in1 g fp wr G ns.length F St ∧ St 0 s5 ∧
    TruthOf X.prog X.w X.A.in1 F (trI pb ns) ∧
    ∀ s', Moved wr G s5 s' → ∃ H2, Tabbed P H1 H2 ∧ Inv X pins σ H2 s'
section
variable {X : Cx} {pins : List (Addr × Obj)} {σ : L2.St} {H : Hp} {s : Shared}
theorem gen_list {c P : Addr} {elt iter : Expr} {x y : Str} {px gpos : Pos} {scope : Scope} {pbn : Int → Int → Bool} {te : TE} {k iy : Nat} {Q' : Value → Shared → Prop} {R : List Int → Int → Hp → Prop}
    (hr : Room k X.A) (TB : GxR.TabB X.base X.mg c P) (hcode : X.env.code = .ref c) (S : GenS X.env scope x) (hy : scope.names.lookup y = some .free) (hyc : X.env.scope.names.lookup y = some .cell) (hiy : X.N[iy]? = some y) (hi : PE X iter te) (hel : ∀ n, EltI X.prog X.w scope x y elt n (pbn n))
    (hs : ∀ v, genFold iter X.env v = pure v) (I : Inv X pins σ H s) (hyn : ∃ n, σ[iy]? = some (some (.int n)))
    (h : te σ H fun v H1 => ∃ (a : Addr) (ns : List Int) (n : Int), v = .ref a ∧ SqL X.K H1 a (ns.map V.int) ∧ σ[iy]? = some (some (.int n)) ∧ TabG H1 P ∧ R ns n H1)
    (hQ : ∀ ns n H1 g s5, R ns n H1 → ReadyI X pins σ H1 P ns (pbn n) g s5 → Q' (.ref g) s5) :
    wpAny (model X.prog X.w) X.A (eval (.GeneratorExp elt [⟨.Name x px, iter, [], 0⟩] scope gpos) X.env) Q' X.xe s := by
  refine wpAny_GeneratorExp_walksQ hr.hd S.co (closure_ok S.free) S.cell S.dot S.loc S.kind (by have := hr.dp; omega) ?_ hs
  refine thn (hi.run pins s σ H _ I h) fun xv s1 ⟨v, H1, I1, r1, q1⟩ => ?_
  obtain ⟨a, ns, n, rfl, hL, hyv, ⟨ps, hP, ht⟩, q1⟩ := q1
  obtain rfl : xv = Value.ref a := r1
  obtain ⟨its, rv, pl, hz⟩ := I1.list hL
  have hit : IntsAre its ns := RZ.intsAre_vals rv
  have hlen : its.toArray.size = ns.length := by rw [List.size_toArray, ← rv.length, List.length_map]
  -- the captured int's cell
  obtain ⟨cc, hcc, tn, hcell⟩ : ∃ cc, X.env.cells.lookup y = some cc ∧ ∃ tn, s1.heap.IsCell cc (some (.int n tn)) := by
    obtain ⟨m, hn, hl⟩ := I1.loc
    obtain ⟨u, ⟨tn, ru⟩, lk⟩ := hl iy y (.int n) hiy hyv (.inr (.inl hyc))
    rcases lk with ⟨kk, _⟩ | ⟨_, cc, e1, e2⟩
    · have kk' : X.env.scope.names.lookup y = some .local := kk
      rw [hyc] at kk'
      cases kk'
    · exact ⟨cc, e1, tn, by rw [← ru]; exact e2⟩
  have hcc2 : (cloFrom X.env.cells scope.names []).lookup y = some cc := by
    have hm : (y, NameKind.free) ∈ scope.names := PySem.mem_of_lookup hy
    obtain ⟨c3, h3⟩ := mem_lookup (cloFrom_has (cells := X.env.cells) (acc := []) hm)
    rcases cloFrom_mem (PySem.mem_of_lookup h3) with hm | ⟨h1, h2⟩
    · cases hm
    · rw [h3, h2, hcc] <;> rfl
  refine wpAny_pyIter_list pl.isList ?_
  generalize ho : ({ cls := .type "list_iterator", data := .fields #[.ref a, .int 0 0] } : Obj) = o
  have hPs : s1.heap.get? P = some { cls := .none, data := .fields ps } := I1.hok P _ hP
  have hPlt : P < s1.heap.objs.size := Heap.lt_size hPs
  have hP2 : (s1.heap.push o).get? P = some { cls := .none, data := .fields ps } := Heap.get?_push_of_some _ hPs
  have cd : PySem.W.CodeHd (s1.heap.push o) c P := TB.code.keeps fun b u e => Heap.get?_push_of_some _ (I1.bk b u e)
  have lim2 : (s1.heap.push o).NoLimit := I1.nolimit.push o
  have halt : a < s1.heap.objs.size := by
    obtain ⟨_, _, e, _⟩ := pl
    exact Heap.lt_size e
  have haI : a ≠ s1.heap.objs.size := Nat.ne_of_lt halt
  have haP : a ≠ P := fun z => by
    obtain ⟨oo, nn, e1, e2, e3, e4⟩ := pl
    rw [z, hPs] at e1
    cases e1
    cases e4
  have hst : (s1.heap.push o).IsListIter s1.heap.objs.size a 0 ∧ (s1.heap.push o).IsList a its.toArray := by
    refine ⟨?_, pl.isList.push _⟩
    subst ho
    exact ⟨_, Heap.get?_push_size _ rfl, rfl, rfl⟩
  have W : ∀ A' : Around, A'.handled = none → Walks X.prog X.w A' s1.heap.objs.size [s1.heap.objs.size, a] [s1.heap.objs.size] its.toArray.size (fun i v => its.toArray[i]? = some v) (fun i h => h.IsListIter s1.heap.objs.size a i ∧ h.IsList a its.toArray) :=
    fun A' hA => Walks.list hA _ a haI its.toArray
  have cont : ∀ (code : Value) (h3 : Heap) (tk : Nat) (ps' : Array Value), Heap.ExtBut P (s1.heap.push o) h3 → (s1.heap.push o).objs.size ≤ h3.objs.size → h3.get? P = some { cls := .none, data := .fields ps' } → (∃ more, ps' = ps ++ more) → TriplesOk ps'.toList →
      wpAny (model X.prog X.w) X.A (builtinsFor X.env.globals X.env.builtins) (fun bi s₄ =>
        ∃ Ia fp wr n₀ Pf St₀ pz F, Value.ref s1.heap.objs.size = .ref Ia ∧ (∀ A' : Around, A'.handled = none → Walks X.prog X.w A' Ia fp wr n₀ Pf St₀) ∧ St₀ 0 s₄.heap ∧ (∀ b ∈ fp, b < s₄.heap.objs.size) ∧ s₄.heap.NoLimit ∧ cStatics ∉ wr ∧
          (∀ href : Heap, (∀ b o, s₄.heap.get? b = some o → href.get? b = some o) →
            QuietGen X.prog X.w (genEnv scope (cloFrom X.env.cells scope.names []) s₄.heap.objs.size code bi X.env) x [] elt (List.range s₄.heap.objs.size) wr Pf pz F href) ∧
          (∀ a h₅ tk gs, gs.bare = true → s₄.heap.objs.size < a → h₅.objs.size = a + 1 → (∀ b o, s₄.heap.get? b = some o → h₅.get? b = some o) →
            WalksS X.prog X.w X.A.in4 a (a :: s₄.heap.objs.size :: List.range s₄.heap.objs.size) (s₄.heap.objs.size :: wr) (GenOnlyQ s₄.gens.size) (passing pz n₀ 0).length
              (fun j y => ∃ i, (passing pz n₀ 0)[j]? = some i ∧ F i y) (GenAt X.prog X.w X.A.in4 a s₄.gens.size s₄.heap.objs.size (List.range s₄.heap.objs.size) wr pz n₀ F) →
            GenAt X.prog X.w X.A.in4 a s₄.gens.size s₄.heap.objs.size (List.range s₄.heap.objs.size) wr pz n₀ F 0 { s₄ with gens := s₄.gens.push gs, toks := tk, heap := h₅ } →
            Q' (.ref a) { s₄ with gens := s₄.gens.push gs, toks := tk, heap := h₅ })) X.xe { s1 with heap := h3, toks := tk } := by
    intro code h3 tk ps' hx hsz hP3 hmore ht3
    obtain ⟨bm, ob, e1, e2, e3, e4, e5, e6, e7, e8⟩ := TB.bm
    have hcP : cStatics ≠ P := fun e => by
      obtain ⟨_, hns, _⟩ := I1.nolimit
      obtain ⟨o', es, ep, ho, hd, _⟩ := hns
      rw [e, hPs] at ho
      cases ho
      cases hd
    have hcl : cStatics < s1.heap.objs.size := let ⟨_, hns, _⟩ := I1.nolimit; hns.lt
    have sz2 : (s1.heap.push o).objs.size = s1.heap.objs.size + 1 := Heap.size_push ..
    have keep3 : ∀ b u, b ≠ P → s1.heap.get? b = some u → h3.get? b = some u := fun b u hb e => hx b u hb (Heap.get?_push_of_some _ e)
    refine wpAny_builtinsFor (m := X.mg) (by rw [I1.ok.glob]; exact ((I1.mod.glob.keeps I1.bk).push o).extBut hx TB.gP) e1 e2 (keep3 _ _ e4 (I1.bk _ _ e5)) e6 e7 e8 ?_
    have hccP : cc ≠ P := fun z => by
      obtain ⟨oc, e9, e10⟩ := hcell
      rw [z, hPs] at e9
      cases e9
      cases e10
    refine ⟨s1.heap.objs.size, [s1.heap.objs.size, a], [s1.heap.objs.size], its.toArray.size, (fun i v => its.toArray[i]? = some v), (fun i h => h.IsListIter s1.heap.objs.size a i ∧ h.IsList a its.toArray), (fun _ => true), (fun i y => ∃ k, ns[i]? = some k ∧ y = .bool (pbn n k)), rfl, W, ?_, ?_, lim2.extBut hx hcP, ?_, ?_, ?_⟩
    · refine (W X.A hr.hd).frame _ _ _ hst fun b hb u e => hx b u (fun z => ?_) e
      rcases List.mem_cons.mp hb with z2 | z2
      · exact Nat.ne_of_lt hPlt (z.symm.trans z2)
      · rcases List.mem_cons.mp z2 with z2 | z2
        · exact haP (z2.symm.trans z)
        · cases z2
    · intro b hb
      show b < h3.objs.size
      rw [sz2] at hsz
      rcases List.mem_cons.mp hb with z | z
      · rw [z]
        exact hsz
      · rcases List.mem_cons.mp z with z | z
        · rw [z]
          exact Nat.lt_of_lt_of_le halt (Nat.le_of_succ_le hsz)
        · cases z
    · intro z
      rcases List.mem_cons.mp z with z | z
      · exact Nat.ne_of_lt hcl z
      · cases z
    · intro href hhref
      refine ⟨fun A' E' i v s₂ m₂ hA hPv hn hm hk => ?_, fun A' E' i v s₂ m₂ hA hPv hp hn hm hk => ?_⟩
      · simp only [List.forIn_nil]
        exact wpAny_pure ⟨rfl, keeps_refl _⟩
      · have hil : i < ns.length := by
          rw [← hlen]
          exact (Array.getElem?_eq_some_iff.mp hPv).1
        obtain ⟨t, et⟩ := PyProof.Rows.IntsAre.int_at hit i v (by have := hPv; simpa using this)
        rw [List.getD_eq_getElem?_getD, List.getElem?_eq_getElem hil] at et
        have et2 : v = .int ns[i] t := et
        rw [et2] at hm
        have hcc3 : s₂.heap.IsCell cc (some (.int n tn)) := by
          obtain ⟨oc, e9, e10⟩ := hcell
          have hclt := Heap.lt_size e9
          have e11 := keep3 cc oc hccP e9
          refine ⟨oc, hk cc (List.mem_range.mpr (Heap.lt_size e11)) (fun z => ?_) oc (hhref cc oc e11), e10⟩
          rcases List.mem_cons.mp z with z | z
          · exact Nat.ne_of_lt hclt z
          · cases z
        exact wpAny_mono (hel n _ A' E' ns[i] t tn cc s₂ m₂ rfl hcc2 hcc3 hn hm) (fun y s3 r => ⟨⟨ns[i], List.getElem?_eq_getElem hil, r.1⟩, r.2⟩) fun _ _ e => e
    · intro g h5 tk5 gs hgb hag hsz5 hk5 W5 hat
      simp only [GxR.passing_true, List.length_range] at W5
      rw [hlen] at W5
      refine hQ ns n H1 g _ q1 ⟨_, _, _, _, _, W5.in4_1, by rw [← hlen]; exact hat, ?_, fun s' hm => ?_⟩
      · intro j y sj Qj Ej hy hQj
        obtain ⟨i, hij, k2, hcc, rfl⟩ := hy
        obtain ⟨hj, ej⟩ := List.getElem?_eq_some_iff.mp hij
        rw [List.getElem_range] at ej
        subst ej
        have hQ2 : Qj (trI (pbn n) ns j) sj := hQj
        rw [trI_some hcc] at hQ2
        exact wpAny_truthy_bool hQ2
      · obtain ⟨more, em⟩ := hmore
        have nwr : ∀ b u, s1.heap.get? b = some u → b ∉ h3.objs.size :: [s1.heap.objs.size] := fun b u e hb => by
          have hl := Heap.lt_size e
          rcases List.mem_cons.mp hb with z | z
          · rw [z] at hl
            have h9 : (h3.objs.size : Nat) < s1.heap.objs.size := hl
            omega
          · rcases List.mem_cons.mp z with z | z
            · rw [z] at hl
              exact Nat.lt_irrefl _ hl
            · cases z
        have J := inv_tab (more := more) (h' := s'.heap) (g' := s'.gens) (d' := s'.drawn) (t' := s'.toks) I1 hP (fun b u hb e => hm.heap b u (nwr b u e) (hk5 b u (keep3 b u hb e)))
          (by rw [← em]; exact hm.heap P _ (nwr P _ hPs) (hk5 P _ hP3)) (AllBare.movedS (I1.bare.push hgb) hm)
        rw [sh_eta s1 s' hm.os] at J
        refine ⟨upd H1 P (.tbl (ps ++ more)), ⟨⟨ps ++ more, upd_same, by rw [← em]; exact ht3⟩, fun b hb => upd_ne hb⟩, J⟩
  refine ⟨lim2, ?_⟩
  cases hf : codeAmong gpos ps.toList with
  | none =>
    refine wpAny_genexprCodeX hcode (cd.code hP2 ht) (cd.tab hP2) hf fun c' h' tk hx hge hlt hco' _ htab' _ => ?_
    obtain ⟨o1, vs, f1, tf, fl, tg, inF, tx, tt, op, _, _, _, _, _, _, _, _, _, htr, _⟩ := hco'
    exact cont _ h' tk _ hx (Nat.le_trans hge (Nat.le_of_lt hlt)) htab'.2 ⟨_, rfl⟩ htr
  | some cv =>
    refine wpAny_genexprCode_hit hcode (cd.code hP2 ht) hf ?_
    exact cont cv (s1.heap.push o) s1.toks ps (Heap.ExtBut.refl _ _) (Nat.le_refl _) hP2 ⟨#[], by simp⟩ ht
/-- all(test for x in e), e a list of ints; behind it the def's table may have grown -/
def tAllI (K : PySem.W.Frag) (P : Addr) (iy : Nat) (pbn : Int → Int → Bool) (te : TE) : TE := fun σ H Q => te σ H fun v H1 => ∃ (a : Addr) (ns : List Int) (n : Int), v = .ref a ∧ SqL K H1 a (ns.map V.int) ∧ σ[iy]? = some (some (.int n)) ∧ TabG H1 P ∧ ∀ H2, Tabbed P H1 H2 → Q (.bl (ns.all (pbn n))) H2
theorem pe_allI {c P : Addr} {elt iter : Expr} {x y : Str} {px p pos gpos : Pos} {scope : Scope} {pbn : Int → Int → Bool} {te : TE} {k iy : Nat}
    (hr : Room k X.A) (hg : Gl X "all") (hm : X.mg "all" = none) (hb : bootBuiltins "all" = some (.builtin "all")) (TB : GxR.TabB X.base X.mg c P) (hcode : X.env.code = .ref c) (S : GenS X.env scope x)
    (hy : scope.names.lookup y = some .free) (hyc : X.env.scope.names.lookup y = some .cell) (hiy : X.N[iy]? = some y) (hi : PE X iter te) (hel : ∀ n, EltI X.prog X.w scope x y elt n (pbn n))
    (hs : ∀ v, genFold iter X.env v = pure v)
    (he : starEach [.GeneratorExp elt [⟨.Name x px, iter, [], 0⟩] scope gpos] X.env = (false, eval (.GeneratorExp elt [⟨.Name x px, iter, [], 0⟩] scope gpos) X.env) :: starEach [] X.env := by rfl) :
    PE X (.Call (.Name "all" p) [.GeneratorExp elt [⟨.Name x px, iter, [], 0⟩] scope gpos] [] pos) (fun σ H Q => (∃ n, σ[iy]? = some (some (.int n))) ∧ tAllI X.K P iy pbn te σ H Q) := by
  refine ⟨fun pins s σ H Q I h => ?_⟩
  obtain ⟨hyn, h⟩ := h
  refine wpAny_Call_Name_kw (ld_blt I hg hm hb ?_)
  refine PyProof.Rows.callWith_builtin1 ?_ he (by rfl)
  rw [he]
  show wpAny _ _ (spliced ((false, eval (.GeneratorExp elt [⟨.Name x px, iter, [], 0⟩] scope gpos) X.env) :: backTo pos (starEach [] X.env))) _ _ s
  refine Calls.spliced_cons (gen_list (R := fun ns n H1 => ∀ H2, Tabbed P H1 H2 → Q (.bl (ns.all (pbn n))) H2) hr TB hcode S hy hyc hiy hi hel hs I hyn h fun ns n H1 g s5 hR hG => ?_)
  obtain ⟨fp, wr, G, F, St, W, hst, htr, hI⟩ := hG
  refine Calls.spliced_nil ?_
  refine call_all_walkS (W.self 0 _ _ _ hst ⟨g, fp, wr, G, _, F, St, _, rfl, W, hst, htr, fun s' hmv => ?_⟩)
  obtain ⟨H2, hT, J⟩ := hI s' hmv
  refine ⟨.bl _, H2, J, rfl, ?_⟩
  rw [all_trI ns (pbn n)]
  exact hR H2 hT
end
end K8

set_option maxHeartbeats 4000000
/-! sets made of lists of ints; sorted of a dict whose keys are pairs of ints. -/
namespace K8
open PySem PySem.Spec PyProof.Rows L2
theorem paired_at {α β : Type} {F : α → β → Prop} : ∀ {l1 : List α} {l2 : List β} {i : Nat} {x : α}, Paired F l1 l2 → l1[i]? = some x → ∃ y, l2[i]? = some y ∧ F x y
  | _, _, _, _, .nil, e => by simp at e
  | _, _, 0, _, .cons r _, e => by simp at e; subst e; exact ⟨_, rfl, r⟩
  | _, _, i + 1, x, .cons _ t, e => by
    obtain ⟨y, h1, h2⟩ := paired_at (i := i) (x := x) t (by simpa using e)
    exact ⟨y, by simpa using h1, h2⟩
theorem firstMet_mem (ns : List Int) (k : Int) : ∀ i, k ∈ PyProof.Rows.firstMet (fun i => ns.getD i 0) i ↔ ∃ j, j < i ∧ ns.getD j 0 = k
  | 0 => by
    rw [PyProof.Rows.firstMet_zero]
    constructor
    · intro h; cases h
    · rintro ⟨j, hj, _⟩; exact absurd hj (Nat.not_lt_zero _)
  | i + 1 => by
    have ih := firstMet_mem ns k i
    rw [PyProof.Rows.firstMet_succ]
    show k ∈ (if (PyProof.Rows.firstMet (fun i => ns.getD i 0) i).any (· == ns.getD i 0) then PyProof.Rows.firstMet (fun i => ns.getD i 0) i else PyProof.Rows.firstMet (fun i => ns.getD i 0) i ++ [ns.getD i 0]) ↔ _
    by_cases hb : (PyProof.Rows.firstMet (fun i => ns.getD i 0) i).any (· == ns.getD i 0) = true
    · rw [if_pos hb, ih]
      obtain ⟨y, hy, ey⟩ := List.any_eq_true.mp hb
      have ey2 : y = ns.getD i 0 := eq_of_beq ey
      constructor
      · rintro ⟨j, hj, e⟩; exact ⟨j, by omega, e⟩
      · rintro ⟨j, hj, e⟩
        by_cases hji : j < i
        · exact ⟨j, hji, e⟩
        · have : j = i := by omega
          subst this
          rw [← e, ← ey2]
          exact (firstMet_mem ns y j).mp hy
    · rw [if_neg hb, List.mem_append, ih, List.mem_singleton]
      constructor
      · rintro (⟨j, hj, e⟩ | e)
        · exact ⟨j, by omega, e⟩
        · exact ⟨i, by omega, e.symm⟩
      · rintro ⟨j, hj, e⟩
        by_cases hji : j < i
        · exact .inl ⟨j, hji, e⟩
        · have : j = i := by omega
          subst this
          exact .inr e.symm
theorem firstMet_nd (ns : List Int) : ∀ i, (PyProof.Rows.firstMet (fun i => ns.getD i 0) i).Nodup
  | 0 => by rw [PyProof.Rows.firstMet_zero]; exact List.nodup_nil
  | i + 1 => by
    have ih := firstMet_nd ns i
    rw [PyProof.Rows.firstMet_succ]
    show (if (PyProof.Rows.firstMet (fun i => ns.getD i 0) i).any (· == ns.getD i 0) then PyProof.Rows.firstMet (fun i => ns.getD i 0) i else PyProof.Rows.firstMet (fun i => ns.getD i 0) i ++ [ns.getD i 0]).Nodup
    by_cases hb : (PyProof.Rows.firstMet (fun i => ns.getD i 0) i).any (· == ns.getD i 0) = true
    · rw [if_pos hb]; exact ih
    · rw [if_neg hb]
      refine List.nodup_append.mpr ⟨ih, List.nodup_cons.mpr ⟨List.not_mem_nil, List.nodup_nil⟩, fun a ha b hb2 e => ?_⟩
      rw [List.mem_singleton.mp hb2] at e
      subst e
      exact hb (List.any_eq_true.mpr ⟨_, ha, beq_self_eq_true _⟩)
theorem firstMet_all (ns : List Int) (k : Int) : k ∈ PyProof.Rows.firstMet (fun i => ns.getD i 0) ns.length ↔ k ∈ ns := by
  rw [firstMet_mem]
  constructor
  · rintro ⟨j, hj, e⟩
    rw [List.getD_eq_getElem?_getD, List.getElem?_eq_getElem hj] at e
    have e' : ns[j] = k := e
    rw [← e']
    exact List.getElem_mem hj
  · intro h
    obtain ⟨j, hj, e⟩ := List.getElem_of_mem h
    exact ⟨j, hj, by rw [List.getD_eq_getElem?_getD, List.getElem?_eq_getElem hj]; exact e⟩
theorem firstMet_take (ns : List Int) : ∀ i, i ≤ ns.length → (PyProof.Rows.firstMet (fun i => ns.getD i 0) i).length = i → PyProof.Rows.firstMet (fun i => ns.getD i 0) i = ns.take i
  | 0, _, _ => rfl
  | i + 1, hi, hlen => by
    have hle := PyProof.Rows.firstMet_length_le (fun i => ns.getD i 0) i
    have hlt : i < ns.length := hi
    have e1 : ns.getD i 0 = ns[i] := by
      rw [List.getD_eq_getElem?_getD, List.getElem?_eq_getElem hlt] <;> rfl
    rw [PyProof.Rows.firstMet_succ] at hlen ⊢
    have hlen2 : (if (PyProof.Rows.firstMet (fun i => ns.getD i 0) i).any (· == ns.getD i 0) then PyProof.Rows.firstMet (fun i => ns.getD i 0) i else PyProof.Rows.firstMet (fun i => ns.getD i 0) i ++ [ns.getD i 0]).length = i + 1 := hlen
    show (if (PyProof.Rows.firstMet (fun i => ns.getD i 0) i).any (· == ns.getD i 0) then PyProof.Rows.firstMet (fun i => ns.getD i 0) i else PyProof.Rows.firstMet (fun i => ns.getD i 0) i ++ [ns.getD i 0]) = ns.take (i + 1)
    by_cases hb : (PyProof.Rows.firstMet (fun i => ns.getD i 0) i).any (· == ns.getD i 0) = true
    · rw [if_pos hb] at hlen2
      omega
    · rw [if_neg hb] at hlen2 ⊢
      rw [List.length_append, List.length_singleton] at hlen2
      rw [firstMet_take ns i (Nat.le_of_lt hlt) (by omega), List.take_add_one, List.getElem?_eq_getElem hlt, e1] <;> rfl
/-- as many as there are items: no item stands twice -/
theorem firstMet_len (ns : List Int) : (PyProof.Rows.firstMet (fun i => ns.getD i 0) ns.length).length = ns.length ↔ ns.Nodup := by
  constructor
  · intro h
    have e := firstMet_take ns ns.length (Nat.le_refl _) h
    rw [List.take_length] at e
    rw [← e]
    exact firstMet_nd ns _
  · intro h
    rw [RZ.firstMet_nodup h ns.length (Nat.le_refl _), List.take_length]
section
variable {X : Cx}
/-- set(xs), xs a list of ints -/
def rSetI (K : PySem.W.Frag) : List V → Hp → VK → Prop := fun vs H Q => ∃ (a : Addr) (ns : List Int), vs = [V.ref a] ∧ SqL K H a (ns.map V.int) ∧ ns.length ≤ 4000 ∧
  ∀ p S n, H p = none → (∀ k, S k = true ↔ k ∈ ns) → Q (.ref p) (upd H p (.set S n))
theorem cr_setI (hc : X.calm = true) : CallR X (.type "set") (rSetI X.K) := by
  intro pins s σ H vs us Q I r h
  obtain ⟨a, ns, rfl, hq, hl, q⟩ := h
  obtain ⟨its, rv, pl, hz⟩ := I.list hq
  rw [Vals.ref1 r]
  have hlen : its.toArray.size = ns.length := by rw [List.size_toArray, ← rv.length, List.length_map]
  refine call_set_list (I.ok.hd hc) pl.isList (by simpa using RZ.intsAre_vals rv) (by rw [hlen]; unfold scanBound; omega) fun h' tk hS hk => ?_
  rw [hlen] at hS
  refine ⟨.ref s.heap.objs.size, _, I.laid (t' := tk) (o := .set (fun k' => (PyProof.Rows.firstMet (fun i => ns.getD i 0) ns.length).any (· == k')) (PyProof.Rows.firstMet (fun i => ns.getD i 0) ns.length).length) (fun b o e => hk b o (Heap.lt_size e) e) (Nat.le_refl _) hS, rfl, q _ _ _ (I.hok.fresh (Nat.le_refl _)) fun k => ?_⟩
  rw [List.any_eq_true]
  constructor
  · rintro ⟨y, hy, e⟩
    have e2 : y = k := eq_of_beq e
    subst e2
    exact (firstMet_all ns y).mp hy
  · intro h
    exact ⟨k, (firstMet_all ns k).mpr h, beq_self_eq_true _⟩
/-- k not in s -/
def rNotInS : V → V → Hp → VK → Prop := fun x y H Q => ∃ (k : Int) (a : Addr) (S : Int → Bool) (n : Nat), x = V.int k ∧ y = V.ref a ∧ H a = some (.set S n) ∧ Q (.bl (!S k)) H
theorem op_notInS : OpR X (compareOp .NotIn) rNotInS := by
  intro pins s σ H x y v u Q I rx ry h
  obtain ⟨k, a, S, n, rfl, rfl, ha, q⟩ := h
  obtain ⟨tk, rfl⟩ := rx
  cases ry
  exact wpAny_notInSet_of (intKind_is _ _ _ _) rfl (show s.heap.SetOf (intKind X.prog X.w) a S n from I.hok a _ ha) ⟨.bl (!S k), H, I.tok _, rfl, q⟩
/-- len(set(xs)), xs a list of ints -/
def tLenSet (K : PySem.W.Frag) (ta : TE) : TE := fun σ H Q => ta σ H fun x H1 => ∃ (l : Addr) (ns : List Int), x = .ref l ∧ SqL K H1 l (ns.map V.int) ∧ ns.length ≤ 4000 ∧ ∀ m : Nat, (m = ns.length ↔ ns.Nodup) → Q (.int (m : Nat)) H1
theorem pe_lenSet {a : Expr} {ta : TE} {p p2 q pos : Pos} (hg : Gl X "len") (hm : X.mg "len" = none) (hg2 : Gl X "set") (hm2 : X.mg "set" = none) (ha : PE X a ta) (hc : X.calm = true := by rfl)
    (na : starEach [a] X.env = (false, eval a X.env) :: starEach [] X.env := by rfl) : PE X (.Call (.Name "len" p) [.Call (.Name "set" p2) [a] [] q] [] pos) (tLenSet X.K ta) := by
  refine ⟨fun pins s σ H Q I h => ?_⟩
  refine Call_ (ld_blt I hg hm boot_len ?_)
  refine PyProof.Rows.callWith_builtin1 (PyProof.Rows.args_cons ?_ rfl) rfl rfl
  refine Call_ (ld_blt I hg2 hm2 PyProof.Rows.boot_set ?_)
  refine PyProof.Rows.callWith_type1 (PyProof.Rows.args_cons (thn (ha.run pins s σ H _ I h) fun v s1 ⟨x, H1, I1, r1, q1⟩ => PyProof.Rows.args_nil ?_) na) na rfl
  obtain ⟨l, ns, rfl, hq, hl, q1⟩ := q1
  cases r1
  obtain ⟨its, r, pl, hz⟩ := I1.list hq
  have hlen : its.toArray.size = ns.length := by rw [List.size_toArray, ← r.length, List.length_map]
  refine call_set_list (I1.ok.hd hc) pl.isList (by simpa using RZ.intsAre_vals r) (by rw [hlen]; unfold scanBound; omega) fun h' tk hS hk => ?_
  refine PyProof.Rows.args_nil ?_
  rw [hlen] at hS
  have hle := PyProof.Rows.firstMet_length_le (fun i => ns.getD i 0) ns.length
  obtain ⟨o, es, ep, t, ho, hex, hd, _, _, _, hf, hn⟩ := hS
  have I2 : Inv X pins σ H1 { s1 with heap := h', toks := tk } := I1.kept fun b o e => hk b o (Heap.lt_size e) e
  exact call_len_set ho hex hd hf (by rw [hn]; omega) ⟨.int ((PyProof.Rows.firstMet (fun i => ns.getD i 0) ns.length).length : Nat), H1, I2.tok _, ⟨_, by rw [hn]⟩, q1 _ (firstMet_len ns)⟩
/-- the two ints of the tuple at t -/
def pairAt (H : Hp) (t : Addr) : Int × Int := match H t with
  | some (.tup [.int i, .int j]) => (i, j)
  | _ => (0, 0)
theorem pairAt_eq {H : Hp} {t : Addr} {i j : Int} (h : H t = some (.tup [.int i, .int j])) : pairAt H t = (i, j) := by
  unfold pairAt
  rw [h]
def k2 (q : Int × Int) : List Key := [Sum.inl q.1, Sum.inl q.2]
/-- sorted(d), d a dict of fewer than 64 keys, each a pair of ints -/
def rSortedDT (B : Int) : List V → Hp → VK → Prop := fun xs H Q => ∃ (d : Addr) (kvs : List (List Key × V)) (f : List (Int × Int)), xs = [V.ref d] ∧ Rd H d (.dT kvs) ∧ kvs.map (·.1) = f.map k2 ∧ f.length < 64 ∧ (∀ q ∈ f, TS.Bd B [q.1, q.2]) ∧
  ∀ (p : Addr) (ys : List Addr), H p = none → (ys.map (pairAt H)).Perm f → (ys.map (pairAt H)).Pairwise (fun q r => TS.code B [q.1, q.2] ≤ TS.code B [r.1, r.2]) → (∀ t ∈ ys, H t = some (.tup [.int (pairAt H t).1, .int (pairAt H t).2])) → Q (.ref p) (upd H p (.lst (ys.map V.ref)))
theorem call_sortedDT (hc : X.calm = true) {B : Int} : CallR X (.builtin "sorted") (rSortedDT B) := by
  intro pins s σ H xs us Q I r h
  obtain ⟨d, kvs, f, rfl, hd, hf, h64, hB, q⟩ := h
  obtain ⟨u, rfl, rx⟩ := r.one
  cases rx
  obtain ⟨z, hs, ks, pr, o, es, ep, ho, hx, hdt, he, hn⟩ := (show ObjOk X.prog X.w H s.heap d (.dT kvs) from hd.ok I.hok)
  have l1 : es.size = ks.length := size_of_entries he
  have l2 : kvs.length = ks.length := Paired.length pr
  have l3 : kvs.length = f.length := by
    have e := congrArg List.length hf
    rw [List.length_map, List.length_map] at e
    exact e
  refine Calls.call_function_entry PyProof.Rows.kind_sorted PyProof.Rows.plain_sorted PyProof.Rows.entry_sorted (PyProof.Rows.args_sorted1 _) ?_
  unfold Builtin.«sorted»
  refine wpAny_bind (m := checkCount "sorted" 1 1 _) (wpAny_pure ?_)
  refine wpAny_bind (PySem.W.kdu_collect (A := X.A.in1) (kdl_raw hs hx hdt) (I.ok.hd hc) ho (by rw [sizeLine_eq]; omega) fun h' tk acc hk it => ?_)
  have ea : acc.toList = ks.map fun x => Value.ref x.2.1 := by
    have hl : acc.toList.length = ks.length := by rw [Array.length_toList, it.1]; exact l1
    apply List.ext_getElem?
    intro j
    rw [List.getElem?_map]
    cases hj : acc.toList[j]? with
    | none =>
      have h1 := List.getElem?_eq_none_iff.mp hj
      rw [List.getElem?_eq_none (by omega)]
      all_goals rfl
    | some v =>
      obtain ⟨en, hen, hv⟩ := it.2 j v (by rw [← Array.getElem?_toList]; exact hj)
      have qe := entry_at he j
      rw [hen] at qe
      cases hk2 : ks[j]? with
      | none =>
        rw [hk2] at qe
        cases qe
      | some x =>
        rw [hk2] at qe
        have qe2 := Option.some.inj qe
        rw [hv, qe2]
        rfl
  -- each key tuple, by its address
  have htup : ∀ x ∈ ks, ∃ q ∈ f, x.1 = k2 q ∧ H x.2.1 = some (.tup [.int q.1, .int q.2]) := by
    intro x hx2
    obtain ⟨j, hj, ej⟩ := List.getElem_of_mem hx2
    have hjk : j < kvs.length := by omega
    have hjf : j < f.length := by omega
    obtain ⟨y, hy1, hy2⟩ := paired_at (i := j) (x := kvs[j]) pr (List.getElem?_eq_getElem hjk)
    rw [List.getElem?_eq_getElem hj] at hy1
    have ey : ks[j] = y := Option.some.inj hy1
    rw [ej] at ey
    subst ey
    have e1 : (kvs.map (·.1))[j]? = (f.map k2)[j]? := by rw [hf]
    rw [List.getElem?_map, List.getElem?_map, List.getElem?_eq_getElem hjk, List.getElem?_eq_getElem hjf] at e1
    have e2 : kvs[j].1 = k2 f[j] := Option.some.inj e1
    refine ⟨f[j], List.getElem_mem hjf, by rw [← hy2.1, e2], ?_⟩
    have e3 := hy2.2.1
    rw [e2] at e3
    exact e3
  have I1 : Inv X pins σ H { s with heap := h', toks := tk } := I.kept hk
  have hal : acc.toList.length < 64 := by rw [ea, List.length_map]; omega
  have hrefs : ∀ v ∈ acc.toList, ∃ x ∈ ks, v = Value.ref x.2.1 := fun v hv => by
    rw [ea] at hv
    obtain ⟨x, hx2, e⟩ := List.mem_map.mp hv
    exact ⟨x, hx2, e.symm⟩
  have hok1 : TS.TupsOk h' 2 B acc.toList := fun v hv => by
    obtain ⟨x, hx2, e⟩ := hrefs v hv
    obtain ⟨qq, hq, _, ht⟩ := htup x hx2
    exact ⟨[qq.1, qq.2], by rw [e]; exact tupI_raw I1 (t := x.2.1) (ns := [qq.1, qq.2]) (SqT.of ht), rfl, hB qq hq⟩
  refine wpAny_bind (wpAny_newList ?_ (by rw [sizeLine_eq]; omega))
  have hoL : (h'.push (seqObj "list" acc.toList.toArray 0)).get? h'.objs.size = some (seqObj "list" acc.toList.toArray 0) := Heap.get?_push_size _ rfl
  show wpAny _ _ _ _ _ { s with heap := h'.push (seqObj "list" acc.toList.toArray 0), toks := tk }
  have keep2 : ∀ b o, h'.get? b = some o → o.cls = .type "tuple" → (h'.push (seqObj "list" acc.toList.toArray 0)).get? b = some o := fun b o e _ => Heap.get?_push_of_some _ e
  refine wpAny_bind (wpAny_holding (wpAny_call_entry PyProof.Rows.slot_list_sort ⟨_, hoL, rfl⟩ PyProof.Rows.entry_list_sort
    (TS.sort_tups (s := { s with heap := h'.push (seqObj "list" acc.toList.toArray 0), toks := tk }) (d := 2) (B := B) hoL hal (by decide) (hok1.keeps keep2) (fun v => TS.code B (TS.intsOf h' v)) (fun v hv ns t => ?_) fun out g1 g2 => ⟨_, rfl, ?_⟩) (PyProof.Rows.args_list_sort _)))
  · obtain ⟨ns0, t0, _⟩ := hok1 v hv
    have e : ns = ns0 := t.ints.symm.trans (t0.keeps keep2).ints
    rw [e]
    show TS.code B (TS.intsOf h' v) = TS.code B ns0
    rw [t0.ints]
  obtain ⟨e', he'⟩ := PyProof.Rows.sortedHeap_at (vs := acc.toList) (out := out) hoL
  have hor : ∀ v ∈ out.toList, ∃ x ∈ ks, v = Value.ref x.2.1 := fun v hv => hrefs v (g1.mem_iff.mp hv)
  have hbk : Vals (out.toList.map bkV) out.toList := bkV_vals fun v hv => by
    obtain ⟨x, _, e⟩ := hor v hv
    exact ⟨_, e⟩
  -- the addresses
  let adr : Value → Addr := fun v => match v with
    | .ref a => a
    | _ => 0
  have e1 : out.toList.map bkV = (out.toList.map adr).map V.ref := by
    rw [List.map_map]
    refine List.map_congr_left fun v hv => ?_
    obtain ⟨x, _, e⟩ := hor v hv
    rw [e] <;> rfl
  have hlen : ((out.toList.map adr).map V.ref).length ≤ sizeLine := by
    rw [List.length_map, List.length_map, g1.length_eq, sizeLine_eq]
    omega
  refine wpAny_pure ⟨_, rfl, .ref h'.objs.size, upd H h'.objs.size (.lst ((out.toList.map adr).map V.ref)), I1.laid (t' := tk) (fun b u e => ?_) (Nat.le_refl _)
    (show ObjOk X.prog X.w _ _ _ (.lst ((out.toList.map adr).map V.ref)) from ⟨hlen, out.toList, e', by rw [← e1]; exact hbk, by rw [Array.toArray_toList]; exact he'⟩), rfl, q _ _ (I1.hok.fresh (Nat.le_refl _)) ?_ ?_ ?_⟩
  · have hb : b < h'.objs.size := Heap.lt_size e
    rw [PyProof.Rows.sortedHeap_old (Nat.ne_of_lt hb) (by rw [size_push']; exact Nat.lt_succ_of_lt hb)]
    exact Heap.get?_push_of_some _ e
  · -- a permutation of the keys
    have e2 : (acc.toList.map adr).map (pairAt H) = f := by
      rw [ea, List.map_map, List.map_map]
      have e3 : (ks.map (·.1)) = f.map k2 := by
        rw [← hf]
        apply List.ext_getElem?
        intro j
        rw [List.getElem?_map, List.getElem?_map]
        cases hj : kvs[j]? with
        | none =>
          have h1 := List.getElem?_eq_none_iff.mp hj
          rw [List.getElem?_eq_none (by omega)]
          all_goals rfl
        | some y =>
          obtain ⟨y2, hy1, hy2⟩ := paired_at pr hj
          rw [hy1]
          exact congrArg some hy2.1.symm
      have e4 : ks.map (fun x => pairAt H x.2.1) = f := by
        apply List.ext_getElem?
        intro j
        rw [List.getElem?_map]
        have e5 : (ks.map (·.1))[j]? = (f.map k2)[j]? := by rw [e3]
        rw [List.getElem?_map, List.getElem?_map] at e5
        cases hj : ks[j]? with
        | none =>
          rw [hj] at e5
          cases hfj : f[j]? with
          | none => rfl
          | some y => rw [hfj] at e5; cases e5
        | some x =>
          rw [hj] at e5
          cases hfj : f[j]? with
          | none => rw [hfj] at e5; cases e5
          | some y =>
            rw [hfj] at e5
            have e6 : x.1 = k2 y := Option.some.inj e5
            obtain ⟨qq, _, e7, e8⟩ := htup x (List.mem_of_getElem? hj)
            have e9 : qq = y := by
              rw [e6] at e7
              unfold k2 at e7
              injection e7 with a1 a2
              injection a2 with a2 _
              exact (Prod.ext (Sum.inl.inj a1) (Sum.inl.inj a2)).symm
            show some (pairAt H x.2.1) = some y
            rw [pairAt_eq e8, ← e9]
      exact e4
    have p1 := (g1.map adr).map (pairAt H)
    rw [e2] at p1
    exact p1
  · rw [List.pairwise_map, List.pairwise_map]
    refine List.Pairwise.imp_of_mem (fun {u v} hu hv huv => ?_) g2
    obtain ⟨x, hx2, ex⟩ := hor u hu
    obtain ⟨y, hy2, ey⟩ := hor v hv
    obtain ⟨q1, _, _, t1⟩ := htup x hx2
    obtain ⟨q2, _, _, t2⟩ := htup y hy2
    have i1 : TS.intsOf h' u = [q1.1, q1.2] := by rw [ex]; exact (tupI_raw I1 (t := x.2.1) (ns := [q1.1, q1.2]) (SqT.of t1)).ints
    have i2 : TS.intsOf h' v = [q2.1, q2.2] := by rw [ey]; exact (tupI_raw I1 (t := y.2.1) (ns := [q2.1, q2.2]) (SqT.of t2)).ints
    have huv2 : TS.code B (TS.intsOf h' u) ≤ TS.code B (TS.intsOf h' v) := huv
    rw [i1, i2] at huv2
    rw [ex, ey]
    show TS.code B [(pairAt H x.2.1).1, (pairAt H x.2.1).2] ≤ TS.code B [(pairAt H y.2.1).1, (pairAt H y.2.1).2]
    rw [pairAt_eq t1, pairAt_eq t2]
    exact huv2
  · intro t ht
    obtain ⟨v, hv, e⟩ := List.mem_map.mp ht
    obtain ⟨x, hx2, ex⟩ := hor v hv
    obtain ⟨qq, _, _, t1⟩ := htup x hx2
    rw [ex] at e
    have e2 : x.2.1 = t := e
    rw [← e2, pairAt_eq t1]
    exact t1
end
end K8

set_option maxHeartbeats 4000000
/-! what the promises speak of: defs that may be called, heaps that keep, data -/
namespace K8
open PySem PySem.Spec PyProof.Rows L2
/-! ### defs of the module, called by their names -/
structure Cal (P : Program) (w : World) (K : PySem.W.Frag) (mg : Str → Option Value) (base : Heap) (CX : CXT) (k : Nat) (x : Str) (sp : Sp) : Prop where
  ex : ∃ (f : Addr) (fd : FuncData) (ps : List Str), FnOk P w K mg base CX k f fd ps sp ∧ mg x = some (.ref f) ∧ PySem.W.keepIn K (.ref f) = true ∧ Binds K fd ps []
abbrev FnT (K : PySem.W.Frag) (x : Str) (st : Stmt) (f : Addr) (fd : FuncData) : Prop := FunD K x x (defArgs st) (defBody st) (defScope st) [] [] f fd
/-- how a def of these parameters binds -/
abbrev BindOk (x : Str) (st : Stmt) (ps : List Str) : Prop := ∀ (kV doc pm : Value) (an : Option Addr) (cdv ct : Value) (us : List Value), us.length = ps.length → bindArgs (PySem.W.fnOf x x (defArgs st) (defBody st) (defScope st) .none kV doc pm an cdv ct) ⟨us, []⟩ = pure (ps.zip us)
section
variable {P : Program} {w : World} {K : PySem.W.Frag} {mg : Str → Option Value} {base : Heap}
theorem cal0 {x : Str} {st : Stmt} {f : Addr} {fd : FuncData} {N ps : List Str} {k : Nat} {sp : Sp} (F : FnT K x st f fd) (hm : mg x = some (.ref f)) (b : BindOk x st ps) (S : FnScope N ps (defScope st)) (len : ∀ vs H Q E, sp vs H Q E → vs.length = ps.length)
    (hbody : ∀ (cdv : Value) (A : Around) (outer : List Env) (s : Shared) (H : Hp) (vs : List V) (Q : VK) (E : XK), Room k (A.deeper (envOfC x (defScope st) s.heap.objs.size f cdv)) → sp vs H Q E →
      ∃ t, PSs (cxOf CX0 P w K mg base N x (defScope st) f cdv A outer s H E).nox (defBody st) t ∧ t { nx := fun _ H' => Q .non H', rt := Q } (L2.start N vs) H) : Cal P w K mg base CX0 (k + 1) x sp :=
  ⟨f, fd, ps, F.ok S len fun cdv A outer s H vs Q E hr h => let ⟨t, h1, h2⟩ := hbody cdv A outer s H vs Q E hr h; ⟨t, h1.nox, h2⟩, hm, F.kp, F.bindsN b⟩
theorem calX {x : Str} {st : Stmt} {f : Addr} {fd : FuncData} {N ps : List Str} {k : Nat} {sp : Sp} (F : FnT K x st f fd) (hm : mg x = some (.ref f)) (b : BindOk x st ps) (S : FnScope N ps (defScope st)) (len : ∀ vs H Q E, sp vs H Q E → vs.length = ps.length)
    (hbody : ∀ (cdv : Value) (A : Around) (outer : List Env) (s : Shared) (H : Hp) (vs : List V) (Q : VK) (E : XK), Room k (A.deeper (envOfC x (defScope st) s.heap.objs.size f cdv)) → sp vs H Q E →
      ∃ t, PSs (cxOf (L2.CX P w) P w K mg base N x (defScope st) f cdv A outer s H E) (defBody st) t ∧ t { nx := fun _ H' => Q .non H', rt := Q } (L2.start N vs) H) : Cal P w K mg base (L2.CX P w) (k + 1) x sp :=
  ⟨f, fd, ps, F.ok S len hbody, hm, F.kp, F.bindsN b⟩
end
section
variable {X : Cx} {k j : Nat} {x : Str} {sp : Sp} {p pos : Pos} {e : Expr} {es : List Expr} {t : TA} {E : XK} {CX : CXT}
theorem pe_c (c : Cal X.prog X.w X.K X.mg X.base CX0 k x sp) (hr : Room j X.A) (hk : k ≤ j) (hg : Gl X x) (ha : PA X (e :: es) t)
    (hdb : (x == ("__debug__" : Str)) = false := by decide) (he : starEach (e :: es) X.env = (false, eval e X.env) :: starEach es X.env := by rfl) (hpl : (backTo pos (starEach es X.env)).any (·.1) = false := by rfl) :
    PE X (.Call (.Name x p) (e :: es) [] pos) (tCall sp [] E0 t) := by
  obtain ⟨f, fd, ps, F, hm, kp, b⟩ := c.ex
  exact pe_call F (hr.mono hk) hg hm kp b .nil pass0 ha hdb he hpl
/-- a def that may raise, where nothing is raised -/
theorem pe_cN (c : Cal X.prog X.w X.K X.mg X.base (L2.CX X.prog X.w) k x sp) (hr : Room j X.A) (hk : k ≤ j) (hg : Gl X x) (ha : PA X (e :: es) t)
    (hdb : (x == ("__debug__" : Str)) = false := by decide) (he : starEach (e :: es) X.env = (false, eval e X.env) :: starEach es X.env := by rfl) (hpl : (backTo pos (starEach es X.env)).any (·.1) = false := by rfl) :
    PE X (.Call (.Name x p) (e :: es) [] pos) (tCall sp [] E0 t) := by
  obtain ⟨f, fd, ps, F, hm, kp, b⟩ := c.ex
  exact pe_call F (hr.mono hk) hg hm kp b .nil passL ha hdb he hpl
/-- a def that may raise, its errors handed on -/
theorem pe_cX (c : Cal X.prog X.w X.K X.mg X.base CX k x sp) (hr : Room j X.A) (hk : k ≤ j) (hg : Gl X x) (hx : Passes CX X E) (ha : PA X (e :: es) t)
    (hdb : (x == ("__debug__" : Str)) = false := by decide) (he : starEach (e :: es) X.env = (false, eval e X.env) :: starEach es X.env := by rfl) (hpl : (backTo pos (starEach es X.env)).any (·.1) = false := by rfl) :
    PE X (.Call (.Name x p) (e :: es) [] pos) (tCall sp [] E t) := by
  obtain ⟨f, fd, ps, F, hm, kp, b⟩ := c.ex
  exact pe_call F (hr.mono hk) hg hm kp b .nil hx ha hdb he hpl
end
theorem Cal.imp {P : Program} {w : World} {K : PySem.W.Frag} {mg : Str → Option Value} {base : Heap} {CX : CXT} {k : Nat} {x : Str} {sp sp' : Sp} (c : Cal P w K mg base CX k x sp) (h : ∀ vs H Q E, sp' vs H Q E → sp vs H Q E) : Cal P w K mg base CX k x sp' := by
  obtain ⟨f, fd, ps, F, hm, kp, b⟩ := c.ex
  exact ⟨f, fd, ps, F.imp h, hm, kp, b⟩
/-! ### built-in names that the module leaves free -/
structure NB (mg : Str → Option Value) : Prop where
  len : mg "len" = none
  set : mg "set" = none
  all : mg "all" = none
  lst : mg "list" = none
  srt : mg "sorted" = none
  enu : mg "enumerate" = none
  rng : mg "range" = none
  mn : mg "min" = none
  isi : mg "isinstance" = none
  int : mg "int" = none
  abs : mg "abs" = none
  sum : mg "sum" = none
  bool : mg "bool" = none
  str : mg "str" = none
  tup : mg "tuple" = none
  ve : mg "ValueError" = none
/-! ### heaps -/
theorem same_upd {H : Hp} {p : Addr} {o : HO} (h : H p = none) : Same H (upd H p o) := fun b x e => by
  rw [upd_ne (ne_of_none e h)]
  exact e
/-- all but what stands where E holds is kept; nothing is let go -/
structure Kp (E : Addr → Prop) (H H' : Hp) : Prop where
  keep : ∀ b o, H b = some o → ¬ E b → H' b = some o
  dom : ∀ b, H' b = none → H b = none
theorem Kp.refl (E : Addr → Prop) (H : Hp) : Kp E H H := ⟨fun _ _ h _ => h, fun _ h => h⟩
theorem Kp.trans {E : Addr → Prop} {H H1 H2 : Hp} (a : Kp E H H1) (b : Kp E H1 H2) : Kp E H H2 := ⟨fun c o h n => b.keep c o (a.keep c o h n) n, fun c h => a.dom c (b.dom c h)⟩
theorem same_kp {E : Addr → Prop} {H H' : Hp} (s : Same H H') : Kp E H H' := ⟨fun b o h _ => s b o h, fun b h => s.free h⟩
theorem Kp.imp {E E' : Addr → Prop} {H H' : Hp} (a : Kp E H H') (h : ∀ b, E b → E' b) : Kp E' H H' := ⟨fun b o e n => a.keep b o e fun z => n (h b z), a.dom⟩
theorem kp_upd {E : Addr → Prop} {H : Hp} {p : Addr} {o : HO} (h : E p ∨ H p = none) : Kp E H (upd H p o) := by
  refine ⟨fun b x e n => ?_, fun b e => ?_⟩
  · rcases h with h | h
    · rw [upd_ne (fun z => n (by rw [z]; exact h))]
      exact e
    · rw [upd_ne (ne_of_none e h)]
      exact e
  · by_cases hb : b = p
    · rw [hb, upd_same] at e
      cases e
    · rw [upd_ne hb] at e
      exact e
/-! ### data -/
abbrev AP := Addr → Prop
abbrev ANY : AP := fun _ => True
/-- not there yet in H0 -/
abbrev NEW (H0 : Hp) : AP := fun b => H0 b = none
def Ints (C : AP) (H : Hp) (a : Addr) (l : List Int) : Prop := C a ∧ H a = some (.lst (l.map V.int))
/-- at a: the list of the lists at as -/
structure LogsA (C : AP) (H : Hp) (a : Addr) (as : List Addr) (L : Logs) : Prop where
  c : C a
  at_ : H a = some (.lst (as.map V.ref))
  len : as.length = L.length
  row : ∀ (i : Nat) (p : Addr) (l : List Int), as[i]? = some p → L[i]? = some l → Ints C H p l
structure LinksA (C : AP) (H : Hp) (a : Addr) (ts : List Addr) (links : Links) : Prop where
  c : C a
  at_ : H a = some (.lst (ts.map V.ref))
  len : ts.length = links.length
  row : ∀ (i : Nat) (t : Addr) (q : Nat × Nat), ts[i]? = some t → links[i]? = some q → C t ∧ H t = some (.tup [.int q.1, .int q.2])
section
variable {C C' E : AP} {H H' : Hp} {a : Addr} {as : List Addr} {l : List Int} {L : Logs} {links : Links}
theorem Ints.kp (h : Ints C H a l) (k : Kp E H H') (n : ∀ b, C b → ¬ E b) : Ints C H' a l := ⟨h.1, k.keep _ _ h.2 (n _ h.1)⟩
theorem Ints.same (h : Ints C H a l) (k : Same H H') : Ints C H' a l := ⟨h.1, k _ _ h.2⟩
theorem Ints.imp (h : Ints C H a l) (n : ∀ b, C b → C' b) : Ints C' H a l := ⟨n _ h.1, h.2⟩
theorem LogsA.kp (h : LogsA C H a as L) (k : Kp E H H') (n : ∀ b, C b → ¬ E b) : LogsA C H' a as L := ⟨h.c, k.keep _ _ h.at_ (n _ h.c), h.len, fun i p l e1 e2 => (h.row i p l e1 e2).kp k n⟩
theorem LogsA.same (h : LogsA C H a as L) (k : Same H H') : LogsA C H' a as L := ⟨h.c, k _ _ h.at_, h.len, fun i p l e1 e2 => (h.row i p l e1 e2).same k⟩
theorem LogsA.imp (h : LogsA C H a as L) (n : ∀ b, C b → C' b) : LogsA C' H a as L := ⟨n _ h.c, h.at_, h.len, fun i p l e1 e2 => (h.row i p l e1 e2).imp n⟩
theorem LinksA.kp (h : LinksA C H a as links) (k : Kp E H H') (n : ∀ b, C b → ¬ E b) : LinksA C H' a as links :=
  ⟨h.c, k.keep _ _ h.at_ (n _ h.c), h.len, fun i p l e1 e2 => let ⟨x, y⟩ := h.row i p l e1 e2; ⟨x, k.keep _ _ y (n _ x)⟩⟩
theorem LinksA.same (h : LinksA C H a as links) (k : Same H H') : LinksA C H' a as links :=
  ⟨h.c, k _ _ h.at_, h.len, fun i p l e1 e2 => let ⟨x, y⟩ := h.row i p l e1 e2; ⟨x, k _ _ y⟩⟩
theorem LinksA.imp (h : LinksA C H a as links) (n : ∀ b, C b → C' b) : LinksA C' H a as links := ⟨n _ h.c, h.at_, h.len, fun i p l e1 e2 => let ⟨x, y⟩ := h.row i p l e1 e2; ⟨n _ x, y⟩⟩
theorem LogsA.get (h : LogsA C H a as L) {i : Nat} (hi : i < L.length) : ∃ p, as[i]? = some p ∧ (as.map V.ref)[i]? = some (.ref p) ∧ Ints C H p (lg L i) := by
  have hi2 : i < as.length := by rw [h.len]; exact hi
  refine ⟨as[i], List.getElem?_eq_getElem hi2, by rw [List.getElem?_map, List.getElem?_eq_getElem hi2]; rfl, ?_⟩
  refine h.row i _ _ (List.getElem?_eq_getElem hi2) ?_
  unfold lg
  rw [List.getD_eq_getElem?_getD, List.getElem?_eq_getElem hi]
  rfl
theorem LinksA.get (h : LinksA C H a as links) {i : Nat} {x : V} (hx : (as.map V.ref)[i]? = some x) : ∃ t q, x = .ref t ∧ links[i]? = some q ∧ C t ∧ H t = some (.tup [.int (q.1 : Nat), .int (q.2 : Nat)]) := by
  rw [List.getElem?_map] at hx
  cases hi : as[i]? with
  | none => rw [hi] at hx; cases hx
  | some t =>
    rw [hi] at hx
    have hi2 : i < links.length := by rw [← h.len]; exact (List.getElem?_eq_some_iff.mp hi).1
    obtain ⟨c, e⟩ := h.row i t _ hi (List.getElem?_eq_getElem hi2)
    exact ⟨t, links[i], (Option.some.inj hx).symm, List.getElem?_eq_getElem hi2, c, e⟩
/-- an item of a list of ints -/
theorem ints_get {i : Nat} {x : V} (hx : (l.map V.int)[i]? = some x) : ∃ k, x = .int k ∧ l[i]? = some k := by
  rw [List.getElem?_map] at hx
  cases hi : l[i]? with
  | none => rw [hi] at hx; cases hx
  | some k =>
    rw [hi] at hx
    exact ⟨k, (Option.some.inj hx).symm, rfl⟩
theorem refs_get {i : Nat} {x : V} (hx : (as.map V.ref)[i]? = some x) : ∃ p, x = .ref p ∧ as[i]? = some p := by
  rw [List.getElem?_map] at hx
  cases hi : as[i]? with
  | none => rw [hi] at hx; cases hx
  | some k =>
    rw [hi] at hx
    exact ⟨k, (Option.some.inj hx).symm, rfl⟩
end
theorem snoc_get {α : Type} {l : List α} {i : Nat} {x y : α} (h : (l ++ [x])[i]? = some y) : (i < l.length ∧ l[i]? = some y) ∨ (i = l.length ∧ y = x) := by
  by_cases hi : i < l.length
  · rw [List.getElem?_append_left hi] at h
    exact .inl ⟨hi, h⟩
  · have h1 := (List.getElem?_eq_some_iff.mp h).1
    rw [List.length_append, List.length_singleton] at h1
    have h2 : i = l.length := by omega
    subst h2
    rw [List.getElem?_append_right (Nat.le_refl _), Nat.sub_self] at h
    exact .inr ⟨rfl, by simpa using h.symm⟩
theorem take_snoc {α : Type} {l : List α} {i : Nat} {x : α} (h : l[i]? = some x) : l.take (i + 1) = l.take i ++ [x] := by
  rw [List.take_add_one, h]
  rfl
end K8

set_option maxHeartbeats 4000000
namespace K8
open PySem PySem.Spec PyProof.Rows L2
/-- list(x) -/
abbrev rLst (K : PySem.W.Frag) : List V → Hp → VK → Prop := fun xs H Q => ∃ p ys, xs = [.ref p] ∧ (SqL K H p ys ∨ SqT K H p ys) ∧ ∀ l, H l = none → Q (.ref l) (upd H l (.lst ys))
/-! ### copy_logs, _law_copy: new lists with the same entries -/
abbrev sCopy : Stmt := top 7
abbrev sLCopy : Stmt := top 33
theorem scCopy : FnScope ["logs", "log"] ["logs"] (defScope sCopy) := ⟨rfl, rfl, rfl, by decide +kernel, rfl, by decide +kernel, by decide +kernel⟩
theorem scLCopy : FnScope ["_law_logs", "_law_log"] ["_law_logs"] (defScope sLCopy) := ⟨rfl, rfl, rfl, by decide +kernel, rfl, by decide +kernel, by decide +kernel⟩
def spCopy : Sp := fun vs H Q _ => ∃ (a : Addr) (as : List Addr) (L : Logs), vs = [.ref a] ∧ LogsA ANY H a as L ∧ L.length ≤ 1000 ∧ (∀ l ∈ L, l.length ≤ 1000) ∧
  ∀ (H' : Hp) (p : Addr) (qs : List Addr), Same H H' → LogsA (NEW H) H' p qs L → qs.Nodup → Q (.ref p) H'
def tCopy (K : PySem.W.Frag) : TS := tRet (tLc (iList K (tVar 0)) (gName 1) tYes (tCB (rLst K) (tCons (tVar 1) tNil)) [1])
theorem pure_copy (K : PySem.W.Frag) {H : Hp} {Q : VK} {D : Ends} {a : Addr} {as : List Addr} {L : Logs} (hA : LogsA ANY H a as L) (hn : L.length ≤ 1000) (hl : ∀ l ∈ L, l.length ≤ 1000)
    (q : ∀ (H' : Hp) (p : Addr) (qs : List Addr), Same H H' → LogsA (NEW H) H' p qs L → qs.Nodup → D.rt (.ref p) H') : tCopy K D [some (.ref a), none] H := by
  refine ⟨_, rfl, a, rfl, ⟨_, SqL.of hA.at_⟩, fun D hD => lc_list (K := K) (a := a) (xs := as.map V.ref) (fun i H' => Same H H' ∧ ∃ qs : List Addr, H' D = some (.lst (qs.map V.ref)) ∧ qs.length = i ∧ (∀ q ∈ qs, H q = none ∧ q ≠ D) ∧ qs.Nodup ∧ ∀ (j : Nat) (p : Addr) (l : List Int), qs[j]? = some p → L[j]? = some l → H' p = some (.lst (l.map V.int)))
    ⟨same_upd hD, [], upd_same, rfl, fun q h => (by cases h), List.nodup_nil, fun j p l h => (by simp at h)⟩ (fun i H' _ ⟨s1, _⟩ => SqL.of (s1 _ _ hA.at_)) ?_ ?_⟩
  · rintro i x H' hx ⟨s1, qs, hD', hlen, hnew, hnd, hrow⟩
    obtain ⟨p, rfl, hp⟩ := refs_get hx
    have hi : i < L.length := by rw [← hA.len]; exact (List.getElem?_eq_some_iff.mp hp).1
    have hrw := hA.row i p _ hp (List.getElem?_eq_getElem hi)
    have hrl : L[i].length ≤ 1000 := hl _ (List.getElem_mem hi)
    refine ⟨rfl, ?_⟩
    refine ⟨_, rfl, p, _, rfl, .inl (SqL.of (s1 _ _ hrw.2)), fun l hl => ?_⟩
    have hlD : l ≠ D := fun z => by rw [z, hD'] at hl; cases hl
    have hlH : H l = none := s1.free hl
    refine ⟨qs.map V.ref, by rw [upd_ne hlD.symm]; exact hD', by rw [List.length_map]; exact small1000 (by omega), ?_⟩
    refine ⟨fun b o e => ?_, qs ++ [l], by rw [upd_same, List.map_append]; rfl, by rw [List.length_append, hlen]; rfl, ?_, ?_, ?_⟩
    · rw [upd_ne (ne_of_none e hD), upd_ne (ne_of_none e hlH)]
      exact s1 _ _ e
    · intro q hq
      rcases List.mem_append.mp hq with hq | hq
      · exact hnew q hq
      · rw [List.mem_singleton.mp hq]
        exact ⟨hlH, hlD⟩
    · refine List.nodup_append.mpr ⟨hnd, List.nodup_cons.mpr ⟨List.not_mem_nil, List.nodup_nil⟩, fun x hx y hy e => ?_⟩
      rw [List.mem_singleton.mp hy] at e
      subst e
      obtain ⟨j, hj, ej⟩ := List.getElem_of_mem hx
      have h2 := hrow j x L[j] (by rw [List.getElem?_eq_getElem hj, ej]) (List.getElem?_eq_getElem (by omega))
      rw [hl] at h2
      cases h2
    · intro j p2 l2 h1 h2
      rcases snoc_get h1 with ⟨hj, h1⟩ | ⟨hj, h1⟩
      · have h3 := hrow j p2 l2 h1 h2
        have hpm : p2 ∈ qs := List.mem_of_getElem? h1
        rw [upd_ne (hnew _ hpm).2, upd_ne (fun z => by rw [z, hl] at h3; cases h3)]
        exact h3
      · subst h1
        rw [hj, hlen] at h2
        have e2 : L[i] = l2 := by rw [List.getElem?_eq_getElem hi] at h2; exact Option.some.inj h2
        rw [upd_ne hlD, upd_same, e2]
  · rintro H' ⟨s1, qs, hD', hlen, hnew, hnd, hrow⟩
    rw [List.length_map] at hlen
    exact q H' D qs s1 ⟨hD, hD', by rw [hlen, hA.len], fun j p l h1 h2 => ⟨(hnew _ (List.mem_of_getElem? h1)).1, hrow j p l h1 h2⟩⟩ hnd
section
variable {P : Program} {w : World} {K : PySem.W.Frag} {mg : Str → Option Value} {base : Heap}
theorem ok_copy {f : Addr} {fd : FuncData} (F : FnT K "copy_logs" sCopy f fd) (hm : mg "copy_logs" = some (.ref f)) (B : NB mg) : Cal P w K mg base CX0 1 "copy_logs" spCopy := by
  refine cal0 F hm (fun _ _ _ _ _ _ us hl => match us, hl with | [_], _ => rfl) scCopy (fun vs H Q E h => ?_) (fun cdv A outer s H vs Q E hr h => ?_)
  · obtain ⟨a, as, L, rfl, _⟩ := h
    rfl
  · obtain ⟨a, as, L, rfl, hA, hn, hl, q⟩ := h
    refine ⟨tCopy K, pss_one (ps_ret (pe_lc (own := [("log", 1)]) (g := gName 1) (tt := tYes) (te := tCB (rLst K) (tCons (tVar 1) tNil)) rfl scCopy.nd (pi_list (pv 0)) (blkOk_by (own := [("log", 1)]) (N := ["logs", "log"]) (sc := defScope sCopy) (by decide +kernel))
      (fun _ _ _ _ _ => pg_name (i := 1) scCopy.nd rfl (Or.inl rfl)) (fun _ _ _ _ _ => pts_nil) (fun _ _ _ _ _ => pe_callTy (T := "list") call_list_of (by rfl) B.lst (by decide +kernel) (pa_cons (pv 1) pa_nil)))), ?_⟩
    exact pure_copy (Q := Q) K hA hn hl q
theorem ok_lcopy {f : Addr} {fd : FuncData} (F : FnT K "_law_copy" sLCopy f fd) (hm : mg "_law_copy" = some (.ref f)) (B : NB mg) : Cal P w K mg base CX0 1 "_law_copy" spCopy := by
  refine cal0 F hm (fun _ _ _ _ _ _ us hl => match us, hl with | [_], _ => rfl) scLCopy (fun vs H Q E h => ?_) (fun cdv A outer s H vs Q E hr h => ?_)
  · obtain ⟨a, as, L, rfl, _⟩ := h
    rfl
  · obtain ⟨a, as, L, rfl, hA, hn, hl, q⟩ := h
    refine ⟨tCopy K, pss_one (ps_ret (pe_lc (own := [("_law_log", 1)]) (g := gName 1) (tt := tYes) (te := tCB (rLst K) (tCons (tVar 1) tNil)) rfl scLCopy.nd (pi_list (pv 0)) (blkOk_by (own := [("_law_log", 1)]) (N := ["_law_logs", "_law_log"]) (sc := defScope sLCopy) (by decide +kernel))
      (fun _ _ _ _ _ => pg_name (i := 1) scLCopy.nd rfl (Or.inl rfl)) (fun _ _ _ _ _ => pts_nil) (fun _ _ _ _ _ => pe_callTy (T := "list") call_list_of (by rfl) B.lst (by decide +kernel) (pa_cons (pv 1) pa_nil)))), ?_⟩
    exact pure_copy (Q := Q) K hA hn hl q
end
/-! ### _is_log -/
abbrev sIsLog : Stmt := top 10
theorem scIsLog : FnScope ["size", "log"] ["size", "log"] (defScope sIsLog) := ⟨rfl, rfl, rfl, by decide +kernel, rfl, by decide +kernel, by decide +kernel⟩
/-- all is kept but the code table at P1, which stays well formed -/
def K1 (P1 : Addr) (H H' : Hp) : Prop := Kp (fun b => b = P1) H H' ∧ GxR.TabG H' P1
theorem tabbed_k1 {P1 : Addr} {H H' : Hp} (t : GxR.Tabbed P1 H H') : K1 P1 H H' := by
  refine ⟨⟨fun b o e n => by rw [t.2 b n]; exact e, fun b e => ?_⟩, t.1⟩
  by_cases hb : b = P1
  · obtain ⟨ps, h, _⟩ := t.1
    rw [hb, h] at e
    cases e
  · rw [t.2 b hb] at e
    exact e
def spIsLog (P1 : Addr) : Sp := fun vs H Q _ => ∃ (sz : Nat) (a : Addr) (l : List Int), vs = [.int sz, .ref a] ∧ Ints ANY H a l ∧ l.length ≤ 1000 ∧ GxR.TabG H P1 ∧ ∀ (b : Bool) (H' : Hp), (b = true ↔ okLog sz l) → K1 P1 H H' → Q (.bl b) H'
section
variable {P : Program} {w : World} {K : PySem.W.Frag} {mg : Str → Option Value} {base : Heap}
theorem calT {x : Str} {st : Stmt} {f c : Addr} {fd : FuncData} {N ps : List Str} {k : Nat} {sp : Sp} (F : FnT K x st f fd) (hc : fd.code = .ref c) (hm : mg x = some (.ref f)) (b : BindOk x st ps) (S : FnScope N ps (defScope st)) (len : ∀ vs H Q E, sp vs H Q E → vs.length = ps.length)
    (hbody : ∀ (A : Around) (outer : List Env) (s : Shared) (H : Hp) (vs : List V) (Q : VK) (E : XK), Room k (A.deeper (envOfC x (defScope st) s.heap.objs.size f (.ref c))) → sp vs H Q E →
      ∃ t, PSs (cxOf CX0 P w K mg base N x (defScope st) f (.ref c) A outer s H E).nox (defBody st) t ∧ t { nx := fun _ H' => Q .non H', rt := Q } (L2.start N vs) H) : Cal P w K mg base CX0 (k + 1) x sp := by
  have hb := F.bindsN b
  have hk := F.kp
  obtain ⟨oc, od, dV, kV, doc, pm, an, cdv, ct, osl, rfl, lk, hcd, _, _⟩ := F.ex
  have e : cdv = .ref c := hc
  subst e
  exact ⟨f, _, ps, fn_of lk hcd S len fun A outer s H vs Q E hr h => let ⟨t, h1, h2⟩ := hbody A outer s H vs Q E hr h; ⟨t, h1.nox, h2⟩, hm, hk, hb⟩
theorem okLog_all {sz : Nat} {l : List Int} : (l.all fun k => decide (0 ≤ k) && decide (k < (sz : Int))) = true ↔ ∀ e ∈ l, 0 ≤ e ∧ e < (sz : Int) := by
  rw [List.all_eq_true]
  constructor
  · intro h e he
    have := h e he
    rw [Bool.and_eq_true, decide_eq_true_iff, decide_eq_true_iff] at this
    exact this
  · intro h e he
    rw [Bool.and_eq_true, decide_eq_true_iff, decide_eq_true_iff]
    exact h e he
theorem ok_islog {f c P1 : Addr} {fd : FuncData} (F : FnT K "_is_log" sIsLog f fd) (hm : mg "_is_log" = some (.ref f)) (hc : fd.code = .ref c) (TB : GxR.TabB base mg c P1) (B : NB mg) : Cal P w K mg base CX0 1 "_is_log" (spIsLog P1) := by
  refine calT F hc hm (fun _ _ _ _ _ _ us hl => match us, hl with | [_, _], _ => rfl) scIsLog (fun vs H Q E h => ?_) (fun A outer s H vs Q E hr h => ?_)
  · obtain ⟨sz, a, l, rfl, _⟩ := h
    rfl
  · obtain ⟨sz, a, l, rfl, hI, hl, hT, q⟩ := h
    refine ⟨_, pss_cons (ps_if (pt_cmpR op_ne (pe_lenSet (by rfl) B.len (by rfl) B.set (pv 1)) (pe_callB call_len_seq (by rfl) B.len PySem.boot_len (pa_cons (pv 1) pa_nil)) (nomark _)) (pss_one (ps_ret pe_bl)) pss_nil)
      (pss_one (ps_ret (pe_allI (x := "entry") (y := "size") (iy := 0) (pbn := fun n k => decide (0 ≤ k) && decide (k < n)) hr (by rfl) B.all (by decide +kernel) TB rfl ⟨rfl, rfl, by decide +kernel, rfl, rfl, fun y hy e => ?_⟩ rfl rfl rfl (pv 1) (fun n => elt_range rfl rfl rfl) (fun v => by rfl)))), ?_⟩
    · exact Option.isSome_iff_exists.mp (PySem.W.cellsFrom_some _ _ _ (.inl (show (defScope sIsLog).names.lookup y.1 = some .cell by
        have : y = (("size" : Str), NameKind.free) := by
          rcases List.mem_cons.mp hy with z | hy
          · rw [z] at e; cases e
          · rcases List.mem_cons.mp hy with z | hy
            · rw [z] at e; cases e
            · rcases List.mem_cons.mp hy with z | hy
              · exact z
              · cases hy
        rw [this]
        rfl)))
    · refine ⟨_, rfl, a, l, rfl, SqL.of hI.2, by omega, fun m hmn => ?_⟩
      refine ⟨_, rfl, a, _, rfl, .inl (SqL.of hI.2), ?_⟩
      refine ⟨rfl, _, rfl, ?_⟩
      rw [List.length_map]
      refine ite2 (fun e => ?_) (fun e => ?_)
      · have hne : ¬ l.Nodup := fun hnd => by
          have e2 : decide (V.int (m : Int) = V.int (l.length : Int)) = true := by rw [hmn.mpr hnd]; exact decide_eq_true rfl
          rw [e2] at e
          cases e
        exact q false H ⟨fun z => (by cases z), fun z => absurd z.1 hne⟩ ⟨Kp.refl _ _, hT⟩
      · have hnd : l.Nodup := by
          apply hmn.mp
          apply Classical.byContradiction
          intro hml
          refine e ?_
          have e2 : decide (V.int (m : Int) = V.int (l.length : Int)) = false := decide_eq_false fun z => hml (by have := V.int.inj z; omega)
          rw [e2]
          rfl
        refine ⟨⟨_, rfl⟩, _, rfl, a, l, _, rfl, SqL.of hI.2, rfl, hT, fun H2 hT2 => ?_⟩
        refine q _ H2 ⟨fun z => ⟨hnd, okLog_all.mp z⟩, fun z => okLog_all.mpr z.2⟩ (tabbed_k1 hT2)
end
end K8

set_option maxHeartbeats 4000000
namespace K8
open PySem PySem.Spec PyProof.Rows L2
/-! ### a cluster, its net -/
/-- what the written part says of Net, at CN, and Cluster, at CC -/
structure TxC (K : PySem.W.Frag) (CC CN : Addr) : Prop where
  clC : Cls K CC
  cNet : NoAttr K CC "net"
  cSize : NoAttr K CC "size"
  cHomes : NoAttr K CC "_homes"
  clN : Cls K CN
  nCount : NoAttr K CN "count"
  nLinked : NoAttr K CN "_linked"
  nLinks : NoAttr K CN "_links"
structure NetA (CN : Addr) (C : AP) (H : Hp) (a : Addr) (ts : List Addr) (n : Nat) (links : Links) : Prop where
  c : C a
  ob : ∃ (dx : Addr) (fs : List (Str × V)) (ll : Addr), H a = some (.ins CN dx fs) ∧ fs.lookup ("count" : Str) = some (V.int (n : Int)) ∧ fs.lookup ("_links" : Str) = some (V.ref ll) ∧ LinksA C H ll ts links
structure ClA (CC CN : Addr) (C : AP) (H : Hp) (a : Addr) (ts : List Addr) (n sz : Nat) (links : Links) : Prop where
  c : C a
  ob : ∃ (dx : Addr) (fs : List (Str × V)) (na : Addr), H a = some (.ins CC dx fs) ∧ fs.lookup ("size" : Str) = some (V.int (sz : Int)) ∧ fs.lookup ("net" : Str) = some (V.ref na) ∧ NetA CN C H na ts n links
section
variable {CC CN : Addr} {C C' E : AP} {H H' : Hp} {a : Addr} {ts : List Addr} {n sz : Nat} {links : Links}
theorem NetA.kp (h : NetA CN C H a ts n links) (k : Kp E H H') (m : ∀ b, C b → ¬ E b) : NetA CN C H' a ts n links := by
  obtain ⟨dx, fs, ll, h1, h2, h3, h4⟩ := h.ob
  exact ⟨h.c, dx, fs, ll, k.keep _ _ h1 (m _ h.c), h2, h3, h4.kp k m⟩
theorem NetA.same (h : NetA CN C H a ts n links) (k : Same H H') : NetA CN C H' a ts n links := by
  obtain ⟨dx, fs, ll, h1, h2, h3, h4⟩ := h.ob
  exact ⟨h.c, dx, fs, ll, k _ _ h1, h2, h3, h4.same k⟩
theorem NetA.imp (h : NetA CN C H a ts n links) (m : ∀ b, C b → C' b) : NetA CN C' H a ts n links := by
  obtain ⟨dx, fs, ll, h1, h2, h3, h4⟩ := h.ob
  exact ⟨m _ h.c, dx, fs, ll, h1, h2, h3, h4.imp m⟩
theorem ClA.kp (h : ClA CC CN C H a ts n sz links) (k : Kp E H H') (m : ∀ b, C b → ¬ E b) : ClA CC CN C H' a ts n sz links := by
  obtain ⟨dx, fs, na, h1, h2, h3, h4⟩ := h.ob
  exact ⟨h.c, dx, fs, na, k.keep _ _ h1 (m _ h.c), h2, h3, h4.kp k m⟩
theorem ClA.same (h : ClA CC CN C H a ts n sz links) (k : Same H H') : ClA CC CN C H' a ts n sz links := by
  obtain ⟨dx, fs, na, h1, h2, h3, h4⟩ := h.ob
  exact ⟨h.c, dx, fs, na, k _ _ h1, h2, h3, h4.same k⟩
theorem ClA.imp (h : ClA CC CN C H a ts n sz links) (m : ∀ b, C b → C' b) : ClA CC CN C' H a ts n sz links := by
  obtain ⟨dx, fs, na, h1, h2, h3, h4⟩ := h.ob
  exact ⟨m _ h.c, dx, fs, na, h1, h2, h3, h4.imp m⟩
end
/-! ### check_logs -/
abbrev sCheck : Stmt := top 8
theorem scCheck : FnScope ["cluster", "logs", "replica", "log"] ["cluster", "logs"] (defScope sCheck) := ⟨rfl, rfl, rfl, by decide +kernel, rfl, by decide +kernel, by decide +kernel⟩
/-- these are no logs, and v says why -/
def Bad (n sz : Nat) (L : Logs) (v : V) : Prop := (v = .non ∧ L.length ≠ n) ∨ ∃ k : Nat, v = .int (k : Int) ∧ L.length = n ∧ k < n ∧ ¬ okLog sz (lg L k) ∧ ∀ j, j < k → okLog sz (lg L j)
/-- logs handed in, of a size that fits -/
structure In (CC CN : Addr) (H : Hp) (c a : Addr) (ts as : List Addr) (n sz : Nat) (links : Links) (L : Logs) : Prop where
  cl : ClA CC CN ANY H c ts n sz links
  lo : LogsA ANY H a as L
  n24 : n ≤ 24
  z60 : sz ≤ 60
  ln : L.length ≤ 30
  ll : ∀ l ∈ L, l.length ≤ 100
theorem k1_refl {P1 : Addr} {H : Hp} (h : GxR.TabG H P1) : K1 P1 H H := ⟨Kp.refl _ _, h⟩
theorem K1.trans {P1 : Addr} {H H1 H2 : Hp} (a : K1 P1 H H1) (b : K1 P1 H1 H2) : K1 P1 H H2 := ⟨a.1.trans b.1, b.2⟩
theorem tabG_same {P1 : Addr} {H H' : Hp} (t : GxR.TabG H P1) (s : Same H H') : GxR.TabG H' P1 := by
  obtain ⟨ps, h1, h2⟩ := t
  exact ⟨ps, s _ _ h1, h2⟩
theorem K1.same {P1 : Addr} {H H1 H2 : Hp} (a : K1 P1 H H1) (s : Same H1 H2) : K1 P1 H H2 := ⟨a.1.trans (same_kp s), tabG_same a.2 s⟩
theorem tab_ne {P1 p : Addr} {H : Hp} {o : HO} (t : GxR.TabG H P1) (h : H p = some o) (n : ∀ ps, o ≠ .tbl ps) : p ≠ P1 := fun z => by
  obtain ⟨ps, h1, _⟩ := t
  rw [z, h1] at h
  exact n ps (Option.some.inj h).symm
theorem lst_tbl {xs : List V} (ps : Array Value) : HO.lst xs ≠ .tbl ps := fun z => by cases z
theorem tup_tbl {xs : List V} (ps : Array Value) : HO.tup xs ≠ .tbl ps := fun z => by cases z
theorem ins_tbl {C dx : Addr} {fs : List (Str × V)} (ps : Array Value) : HO.ins C dx fs ≠ .tbl ps := fun z => by cases z
/-- what stands at no table may be told so -/
theorem LogsA.notab {P1 : Addr} {C : AP} {H : Hp} {a : Addr} {as : List Addr} {L : Logs} (h : LogsA C H a as L) (t : GxR.TabG H P1) : LogsA (fun b => C b ∧ b ≠ P1) H a as L :=
  ⟨⟨h.c, tab_ne t h.at_ lst_tbl⟩, h.at_, h.len, fun i p l e1 e2 => ⟨⟨(h.row i p l e1 e2).1, tab_ne t (h.row i p l e1 e2).2 lst_tbl⟩, (h.row i p l e1 e2).2⟩⟩
theorem LinksA.notab {P1 : Addr} {C : AP} {H : Hp} {a : Addr} {ts : List Addr} {L : Links} (h : LinksA C H a ts L) (t : GxR.TabG H P1) : LinksA (fun b => C b ∧ b ≠ P1) H a ts L :=
  ⟨⟨h.c, tab_ne t h.at_ lst_tbl⟩, h.at_, h.len, fun i p l e1 e2 => ⟨⟨(h.row i p l e1 e2).1, tab_ne t (h.row i p l e1 e2).2 tup_tbl⟩, (h.row i p l e1 e2).2⟩⟩
theorem ClA.notab {P1 CC CN : Addr} {C : AP} {H : Hp} {a : Addr} {ts : List Addr} {n sz : Nat} {L : Links} (h : ClA CC CN C H a ts n sz L) (t : GxR.TabG H P1) : ClA CC CN (fun b => C b ∧ b ≠ P1) H a ts n sz L := by
  obtain ⟨dx, fs, na, h1, h2, h3, h4⟩ := h.ob
  obtain ⟨dx2, fs2, ll, g1, g2, g3, g4⟩ := h4.ob
  exact ⟨⟨h.c, tab_ne t h1 ins_tbl⟩, dx, fs, na, h1, h2, h3, ⟨h4.c, tab_ne t g1 ins_tbl⟩, dx2, fs2, ll, g1, g2, g3, g4.notab t⟩
theorem LogsA.k1 {P1 : Addr} {C : AP} {H H' : Hp} {a : Addr} {as : List Addr} {L : Logs} (h : LogsA C H a as L) (t : GxR.TabG H P1) (k : K1 P1 H H') : LogsA C H' a as L := ((h.notab t).kp k.1 fun b hb => hb.2).imp fun b hb => hb.1
theorem ClA.k1 {P1 CC CN : Addr} {C : AP} {H H' : Hp} {a : Addr} {ts : List Addr} {n sz : Nat} {L : Links} (h : ClA CC CN C H a ts n sz L) (t : GxR.TabG H P1) (k : K1 P1 H H') : ClA CC CN C H' a ts n sz L := ((h.notab t).kp k.1 fun b hb => hb.2).imp fun b hb => hb.1
theorem LinksA.k1 {P1 : Addr} {C : AP} {H H' : Hp} {a : Addr} {ts : List Addr} {L : Links} (h : LinksA C H a ts L) (t : GxR.TabG H P1) (k : K1 P1 H H') : LinksA C H' a ts L := ((h.notab t).kp k.1 fun b hb => hb.2).imp fun b hb => hb.1
/-- the error InvalidLogs, of v -/
def IlE (CI : Addr) (P1 : Addr) (n sz : Nat) (L : Logs) (H : Hp) (E : XK) : Prop := ∀ v, Bad n sz L v → ∀ (H' : Hp) (d : Addr), K1 P1 H H' → H d = none → H' d = some (.xd [(("replica" : Str), v)]) → E (.ref CI) (some d) H'
def spCheck (CC CN CI P1 : Addr) : Sp := fun vs H Q E => ∃ (c a : Addr) (ts as : List Addr) (n sz : Nat) (links : Links) (L : Logs), vs = [.ref c, .ref a] ∧ In CC CN H c a ts as n sz links L ∧ GxR.TabG H P1 ∧
  (okLogs n sz L → ∀ (H' : Hp) (p : Addr) (qs : List Addr), K1 P1 H H' → LogsA (NEW H) H' p qs L → qs.Nodup → Q (.ref p) H') ∧ IlE CI P1 n sz L H E
theorem okLogs_of {n sz : Nat} {L : Logs} (h : L.length = n) (h2 : ∀ j, j < L.length → okLog sz (lg L j)) : okLogs n sz L := by
  refine ⟨h, fun l hl => ?_⟩
  obtain ⟨j, hj, e⟩ := List.getElem_of_mem hl
  have := h2 j hj
  unfold lg at this
  rw [List.getD_eq_getElem?_getD, List.getElem?_eq_getElem hj] at this
  rw [← e]
  exact this
section
variable {P : Program} {w : World} {K : PySem.W.Frag} {mg : Str → Option Value} {base : Heap}
theorem ok_check {f CC CN CI fI P1 : Addr} {fd : FuncData} (F : FnT K "check_logs" sCheck f fd) (hm : mg "check_logs" = some (.ref f)) (B : NB mg) (T : TxC K CC CN) (TI : PySem.ILX.IlTxt P K mg CI fI)
    (cCopy : Cal P w K mg base CX0 1 "copy_logs" spCopy) (cIs : Cal P w K mg base CX0 1 "_is_log" (spIsLog P1)) : Cal P w K mg base (L2.CX P w) 4 "check_logs" (spCheck CC CN CI P1) := by
  refine calX F hm (fun _ _ _ _ _ _ us hl => match us, hl with | [_, _], _ => rfl) scCheck (fun vs H Q E h => ?_) (fun cdv A outer s H vs Q E hr h => ?_)
  · obtain ⟨c, a, ts, as, n, sz, links, L, rfl, _⟩ := h
    rfl
  · obtain ⟨c, a, ts, as, n, sz, links, L, rfl, hIn, hT, q, qE⟩ := h
    refine ⟨_, pss_cons (ps_if (pt_cmpR op_ne (pe_callB call_len_seq (by rfl) B.len PySem.boot_len (pa_cons (pv 1) pa_nil)) (pe_fld (pe_fld (pv 0) rfl) rfl) (nomark _)) (pss_one (ps_raiseIl rfl TI hr (takes_of rfl rfl rfl rfl) (by exact (pa_cons pe_non pa_nil)))) pss_nil)
      (pss_cons (ps_for (passes_of rfl) rfl (pi_enum (by rfl) B.enu (pa_cons (pv 1) pa_nil)) (pg_tup rfl (pgs_cons (pg_name (i := 2) scCheck.nd rfl (.inl rfl)) (pgs_cons (pg_name (i := 3) scCheck.nd rfl (.inl rfl)) pgs_nil)))
        (pss_one (ps_if (pt_not (pt_val (pe_c cIs hr (by decide) (by rfl) (pa_cons (pe_fld (pv 0) rfl) (pa_cons (pv 3) pa_nil))))) (pss_one (ps_raiseIl rfl TI hr (takes_of rfl rfl rfl rfl) (by exact (pa_cons (pv 2) pa_nil)))) pss_nil)))
      (pss_one (ps_ret (pe_c cCopy hr (by decide) (by rfl) (pa_cons (pv 1) pa_nil))))), ?_⟩
    obtain ⟨dx, fs, na, h1, h2, h3, h4⟩ := hIn.cl.ob
    obtain ⟨dx2, fs2, ll, g1, g2, g3, g4⟩ := h4.ob
    refine ⟨_, rfl, a, _, rfl, .inl (SqL.of hIn.lo.at_), ?_⟩
    refine ⟨_, rfl, c, CC, dx, fs, _, rfl, h1, T.clC, T.cNet, h3, na, CN, dx2, fs2, _, rfl, g1, T.clN, T.nCount, g2, ?_⟩
    refine ⟨rfl, _, rfl, ?_⟩
    rw [List.length_map, hIn.lo.len]
    refine ite2 (fun e => ?_) (fun e => ?_)
    · have hne : L.length ≠ n := fun z => by
        rw [z] at e
        have e2 : decide (V.int (n : Int) = V.int (n : Int)) = true := decide_eq_true rfl
        rw [e2] at e
        cases e
      refine ⟨.non, rfl, .inl rfl, fun d hd => ?_⟩
      exact qE .non (.inl ⟨rfl, hne⟩) _ d ⟨same_kp (same_upd hd), tabG_same hT (same_upd hd)⟩ hd upd_same
    · have hn : L.length = n := by
        apply Classical.byContradiction
        intro hml
        refine e ?_
        have e2 : decide (V.int (L.length : Int) = V.int (n : Int)) = false := decide_eq_false fun z => hml (by have := V.int.inj z; omega)
        rw [e2]
        rfl
      refine ⟨_, rfl, a, _, rfl, SqL.of hIn.lo.at_, for_it (walk_enum (K := K) (a := a) (xs := as.map V.ref)) (fun i σ H' => (∃ x y, σ = [some (.ref c), some (.ref a), x, y]) ∧ K1 P1 H H' ∧ ∀ j, j < i → okLog sz (lg L j))
        ⟨⟨_, _, rfl⟩, k1_refl hT, fun j hj => absurd hj (Nat.not_lt_zero _)⟩ (fun i σ H' _ ⟨_, k, _⟩ => SqL.of (hIn.lo.k1 hT k).at_) ?_ ?_⟩
      · rintro i x σ H1 H2 hi ⟨⟨x2, x3, rfl⟩, k, hj⟩ ⟨Tp, u1, u2, rfl, nT, rfl, e1, e2⟩
        rw [List.length_map, hIn.lo.len] at hi
        have e1' : V.int (i : Nat) = u1 := Option.some.inj e1
        subst e1'
        obtain ⟨p, rfl, hp⟩ := refs_get e2
        have hIn2 := hIn.lo.k1 hT k
        have hcl2 := hIn.cl.k1 hT k
        have sT : Same H1 (upd H1 Tp (.tup [.int (i : Nat), .ref p])) := same_upd nT
        have k2 : K1 P1 H (upd H1 Tp (.tup [.int (i : Nat), .ref p])) := k.same sT
        refine ⟨Tp, [.int (i : Nat), .ref p], rfl, .inl (.inl upd_same), rfl, .int (i : Nat), [.ref p], rfl, .ref p, [], rfl, rfl, ?_⟩
        obtain ⟨dx, fs, na, h1, h2, h3, h4⟩ := hcl2.ob
        have hrow := hIn2.row i p _ hp (List.getElem?_eq_getElem hi)
        have hlg : lg L i = L[i] := lg_get (List.getElem?_eq_getElem hi)
        refine ⟨_, rfl, c, CC, dx, fs, _, rfl, sT _ _ h1, T.clC, T.cSize, h2, _, rfl, ?_⟩
        refine ⟨sz, p, L[i], rfl, hrow.same sT, by have := hIn.ll _ (List.getElem_mem hi); omega, k2.2, fun b H3 hb k3 => ?_⟩
        refine ⟨b, rfl, ?_⟩
        have k4 := k2.trans k3
        cases b with
        | true =>
          refine ⟨⟨_, _, rfl⟩, k4, fun j hj2 => ?_⟩
          by_cases hji : j < i
          · exact hj j hji
          · have : j = i := by omega
            subst this
            rw [hlg]
            exact hb.mp rfl
        | false =>
          refine ⟨_, rfl, _, rfl, .inr ⟨i, by have := hIn.ln; omega, rfl⟩, fun d hd => ?_⟩
          refine qE (.int (i : Nat)) (.inr ⟨i, rfl, hn, by omega, fun z => ?_, hj⟩) _ d (k4.same (same_upd hd)) (k4.1.dom _ hd) upd_same
          rw [hlg] at z
          exact absurd (hb.mpr z) (by decide)
      · rintro σ H1 ⟨⟨x2, x3, rfl⟩, k, hj⟩
        rw [List.length_map, hIn.lo.len] at hj
        have ok := okLogs_of hn hj
        refine ⟨_, rfl, a, as, L, rfl, hIn.lo.k1 hT k, by have := hIn.ln; omega, fun l hl => by have := hIn.ll l hl; omega, fun H2 p qs s2 hA hnd => ?_⟩
        exact q ok H2 p qs (k.same s2) (hA.imp fun b hb => k.1.dom b hb) hnd
end
end K8

set_option maxHeartbeats 4000000
namespace K8
open PySem PySem.Spec PyProof.Rows L2
/-! ### offered -/
abbrev sOffered : Stmt := top 15
theorem scOffered : FnScope ["source_log", "reader_log", "rule", "held", "lacking", "entry"] ["source_log", "reader_log", "rule"] (defScope sOffered) := ⟨rfl, rfl, rfl, by decide +kernel, rfl, by decide +kernel, by decide +kernel⟩
def spOffered : Sp := fun vs H Q _ => ∃ (a b : Addr) (src rdr : List Int), vs = [.ref a, .ref b, .str "first"] ∧ Ints ANY H a src ∧ Ints ANY H b rdr ∧ src.length ≤ 1000 ∧ rdr.length ≤ 1000 ∧
  ∀ (H' : Hp) (p : Addr), Same H H' → H p = none → H' p = some (.lst (((lack src rdr).take 1).map V.int)) → Q (.ref p) H'
def FirstIs (mg : Str → Option Value) : Prop := ∃ t, mg "FIRST" = some (.str "first" t)
theorem cut_take (xs : List V) : cutV xs none (some ((1 : Nat) : Int)) = xs.take 1 := by
  unfold cutV
  rw [HT.sIx_nat]
  cases xs with
  | nil => rfl
  | cons x r => simp [HT.sIx]
theorem lack_len (src rdr : List Int) : (lack src rdr).length ≤ src.length := List.length_filter_le _ _
section
variable {P : Program} {w : World} {K : PySem.W.Frag} {mg : Str → Option Value} {base : Heap}
theorem ok_offered {f : Addr} {fd : FuncData} (F : FnT K "offered" sOffered f fd) (hm : mg "offered" = some (.ref f)) (B : NB mg) (hF : FirstIs mg) : Cal P w K mg base CX0 1 "offered" spOffered := by
  refine cal0 F hm (fun _ _ _ _ _ _ us hl => match us, hl with | [_, _, _], _ => rfl) scOffered (fun vs H Q E h => ?_) (fun cdv A outer s H vs Q E hr h => ?_)
  · obtain ⟨a, b, src, rdr, rfl, _⟩ := h
    rfl
  · obtain ⟨a, b, src, rdr, rfl, hA, hB, hl1, hl2, q⟩ := h
    obtain ⟨tF, hF⟩ := hF
    refine ⟨_, pss_cons (ps_set (i := 3) scOffered.nd rfl (Or.inr rfl) (pe_callTy (T := "set") (cr_setI rfl) (by rfl) B.set (by decide +kernel) (pa_cons (pv 1) pa_nil)))
      (pss_cons (ps_setLc (i := 4) (own := [("entry", 5)]) (g := gName 5) rfl scOffered.nd rfl rfl (sw_true rfl rfl rfl (by decide +kernel)) (pi_list (pv 0)) (blkOk_by (own := [("entry", 5)]) (N := ["source_log", "reader_log", "rule", "held", "lacking", "entry"]) (sc := defScope sOffered) (by decide +kernel))
        (fun _ _ _ _ _ => pg_name (i := 5) scOffered.nd rfl (Or.inl rfl)) (fun _ _ _ _ _ => pts_one (pt_cmpR (r := rNotInS) op_notInS (pv 5) (pv 3) (by rfl))) (fun _ _ _ _ _ => pv 5))
      (pss_cons (ps_if (pt_cmpR op_eq (pv 2) (pe_glob (v := V.str "first") (by rfl) hF ⟨_, rfl⟩) (nomark _)) (pss_one (ps_ret (pe_slice sl_list (pv 4) po_none (po_some pe_int)))) pss_nil)
      (pss_one (ps_ret (pv 4))))), ?_⟩
    refine ⟨_, rfl, b, rdr, rfl, SqL.of hB.2, by omega, fun pS S nS hpS hS => ?_⟩
    have s1 : Same H (upd H pS (.set S nS)) := same_upd hpS
    refine ⟨_, rfl, a, rfl, ⟨_, SqL.of (s1 _ _ hA.2)⟩, fun D hD => ?_⟩
    have hDS : D ≠ pS := fun z => by rw [z, upd_same] at hD; cases hD
    have hDH : H D = none := s1.free hD
    refine lc_list (K := K) (a := a) (xs := src.map V.int) (fun i H' => Same H H' ∧ H' pS = some (.set S nS) ∧ H' D = some (.lst ((lack (src.take i) rdr).map V.int)))
      ⟨s1.trans (same_upd hD), by rw [upd_ne hDS.symm, upd_same], by rw [upd_same]; rfl⟩ (fun i H' _ h => SqL.of (h.1 _ _ hA.2)) ?_ ?_
    · rintro i x H' hx ⟨s2, hS2, hD2⟩
      obtain ⟨k, rfl, hk⟩ := ints_get hx
      have et : src.take (i + 1) = src.take i ++ [k] := take_snoc hk
      refine ⟨rfl, _, rfl, _, rfl, k, pS, S, nS, rfl, rfl, hS2, _, rfl, ?_⟩
      have hmem : decide (k ∉ rdr) = !S k := by
        by_cases hm2 : k ∈ rdr
        · rw [(hS k).mpr hm2, decide_eq_false (fun z => z hm2)]; rfl
        · have : S k = false := by
            cases e : S k with
            | false => rfl
            | true => exact absurd ((hS k).mp e) hm2
          rw [this, decide_eq_true hm2]; rfl
      have el : lack (src.take (i + 1)) rdr = if (!S k) = true then lack (src.take i) rdr ++ [k] else lack (src.take i) rdr := by
        rw [et]
        unfold lack
        rw [List.filter_append, List.filter_cons, hmem]
        cases S k <;> simp
      refine ite2 (fun e => ?_) (fun e => ?_)
      · rw [if_pos e] at el
        refine ⟨_, rfl, _, hD2, ?_, ?_⟩
        · rw [List.length_map]
          have h1 := lack_len (src.take i) rdr
          rw [List.length_take] at h1
          exact small1000 (by omega)
        · refine ⟨fun c o e2 => ?_, ?_, ?_⟩
          · rw [upd_ne (ne_of_none e2 hDH)]
            exact s2 _ _ e2
          · rw [upd_ne hDS.symm]
            exact hS2
          · rw [upd_same, el, List.map_append]
            rfl
      · rw [if_neg e] at el
        exact ⟨s2, hS2, by rw [el]; exact hD2⟩
    · rintro H2 ⟨s2, hS2, hD2⟩
      rw [List.length_map, List.take_length] at hD2
      refine ⟨_, rfl, rfl, _, rfl, iteT ?_⟩
      refine ⟨_, rfl, _, rfl, D, _, rfl, SqL.of hD2, fun p hp => ?_⟩
      refine q _ p (s2.trans (same_upd hp)) (s2.free hp) ?_
      rw [upd_same]
      exact congrArg (fun z => some (HO.lst z)) ((cut_take _).trans List.map_take.symm)
end
end K8

set_option maxHeartbeats 4000000
namespace K8
open PySem PySem.Spec PyProof.Rows L2
/-! ### _first_links -/
abbrev sFirst : Stmt := top 18
theorem scFirst : FnScope ["links", "first_of", "at", "source", "_"] ["links"] (defScope sFirst) := ⟨rfl, rfl, rfl, by decide +kernel, rfl, by decide +kernel, by decide +kernel⟩
/-- no link before the told one has the source r -/
def FI (links : Links) (kvs : List (Key × V)) : Prop := ∀ r : Nat, (valV kvs (Sum.inl (r : Int)) = none ∧ ∀ q ∈ links, q.1 ≠ r) ∨
  ∃ i : Nat, valV kvs (Sum.inl (r : Int)) = some (.int (i : Int)) ∧ ∀ (j : Nat) (q : Nat × Nat), j < i → links[j]? = some q → q.1 ≠ r
def spFirst : Sp := fun vs H Q _ => ∃ (a : Addr) (ts : List Addr) (links : Links), vs = [.ref a] ∧ LinksA ANY H a ts links ∧ links.length ≤ 100 ∧
  ∀ (H' : Hp) (d : Addr) (kvs : List (Key × V)), Same H H' → H d = none → H' d = some (.dK kvs) → FI links kvs → Q (.ref d) H'
theorem fi_snoc {links : Links} {kvs : List (Key × V)} {i : Nat} {q : Nat × Nat} (h : FI (links.take i) kvs) (hq : links[i]? = some q) (hv : valV kvs (Sum.inl (q.1 : Int)) = none) : FI (links.take (i + 1)) (putK kvs (Sum.inl (q.1 : Int)) (.int (i : Int))) := by
  have hlen : (links.take i).length = i := by rw [List.length_take]; have := (List.getElem?_eq_some_iff.mp hq).1; omega
  intro r
  rw [take_snoc hq, valV_put]
  by_cases e : r = q.1
  · subst e
    refine .inr ⟨i, by rw [if_pos rfl], fun j q' hj hq' => ?_⟩
    rw [List.getElem?_append_left (by omega)] at hq'
    rcases h q.1 with ⟨_, h2⟩ | ⟨k, h1, _⟩
    · exact h2 _ (List.mem_of_getElem? hq')
    · rw [hv] at h1; cases h1
  · have hne : ¬ ((Sum.inl (r : Int) : Key) = Sum.inl (q.1 : Int)) := fun z => e (by have := Sum.inl.inj z; omega)
    rw [if_neg hne]
    rcases h r with ⟨h1, h2⟩ | ⟨k, h1, h2⟩
    · refine .inl ⟨h1, fun q' hq' => ?_⟩
      rcases List.mem_append.mp hq' with hq' | hq'
      · exact h2 _ hq'
      · rw [List.mem_singleton.mp hq']
        exact fun z => e z.symm
    · by_cases hk : k ≤ i
      · refine .inr ⟨k, h1, fun j q' hj hq' => ?_⟩
        rw [List.getElem?_append_left (by omega)] at hq'
        exact h2 j q' hj hq'
      · refine .inr ⟨k, h1, fun j q' hj hq' => ?_⟩
        rcases snoc_get hq' with ⟨_, hq'⟩ | ⟨_, rfl⟩
        · exact h2 j q' hj hq'
        · exact fun z => e z.symm
theorem fi_keep {links : Links} {kvs : List (Key × V)} {i : Nat} {q : Nat × Nat} {v : V} (h : FI (links.take i) kvs) (hq : links[i]? = some q) (hv : valV kvs (Sum.inl (q.1 : Int)) = some v) (hall : ∀ (r k : Nat), valV kvs (Sum.inl (r : Int)) = some (.int (k : Int)) → k ≤ i) : FI (links.take (i + 1)) kvs := by
  have hlen : (links.take i).length = i := by rw [List.length_take]; have := (List.getElem?_eq_some_iff.mp hq).1; omega
  intro r
  rw [take_snoc hq]
  rcases h r with ⟨h1, h2⟩ | ⟨k, h1, h2⟩
  · refine .inl ⟨h1, fun q' hq' => ?_⟩
    rcases List.mem_append.mp hq' with hq' | hq'
    · exact h2 _ hq'
    · rw [List.mem_singleton.mp hq']
      intro z
      rw [z, h1] at hv
      cases hv
  · refine .inr ⟨k, h1, fun j q' hj hq' => ?_⟩
    have := hall r k h1
    rw [List.getElem?_append_left (by omega)] at hq'
    exact h2 j q' hj hq'
section
variable {P : Program} {w : World} {K : PySem.W.Frag} {mg : Str → Option Value} {base : Heap}
theorem ok_first {f : Addr} {fd : FuncData} (F : FnT K "_first_links" sFirst f fd) (hm : mg "_first_links" = some (.ref f)) (B : NB mg) : Cal P w K mg base CX0 1 "_first_links" spFirst := by
  refine cal0 F hm (fun _ _ _ _ _ _ us hl => match us, hl with | [_], _ => rfl) scFirst (fun vs H Q E h => ?_) (fun cdv A outer s H vs Q E hr h => ?_)
  · obtain ⟨a, ts, links, rfl, _⟩ := h
    rfl
  · obtain ⟨a, ts, links, rfl, hA, hl, q⟩ := h
    have hu := hu_of hr
    refine ⟨_, pss_cons (ps_set (i := 1) scFirst.nd rfl (Or.inl rfl) pe_dnewK)
      (pss_cons (ps_for PassesOwn.never rfl (pi_enum (by rfl) B.enu (pa_cons (pv 0) pa_nil)) (pg_tup rfl (pgs_cons (pg_name (i := 2) scFirst.nd rfl (.inl rfl)) (pgs_cons (pg_tup rfl (pgs_cons (pg_name (i := 3) scFirst.nd rfl (.inl rfl)) (pgs_cons (pg_name (i := 4) scFirst.nd rfl (.inl rfl)) pgs_nil))) pgs_nil)))
        (pss_one (ps_if (pt_cmp (pc_dnotin hu (pv 3) (pv 1)) rfl) (pss_one (ps_dput hu (pv 1) (pv 3) (pv 2) rfl)) pss_nil)))
      (pss_one (ps_ret (pv 1)))), ?_⟩
    intro d hd
    have s1 : Same H (upd H d (.dK [])) := same_upd hd
    refine ⟨_, rfl, a, _, rfl, SqL.of (s1 _ _ hA.at_), for_it (walk_enum (K := K) (a := a) (xs := ts.map V.ref)) (fun i σ H' => (∃ x y z, σ = [some (.ref a), some (.ref d), x, y, z]) ∧ Same H H' ∧ ∃ kvs, H' d = some (.dK kvs) ∧ FI (links.take i) kvs ∧ kvs.length ≤ i ∧ ∀ (r : Nat) v, valV kvs (Sum.inl (r : Int)) = some v → ∃ k : Nat, v = .int (k : Int) ∧ k ≤ i)
      ⟨⟨_, _, _, rfl⟩, s1, [], upd_same, fun r => .inl ⟨rfl, fun q hq => (by cases hq)⟩, Nat.le_refl _, fun r v h => (by cases h)⟩ (fun i σ H' _ ⟨_, s2, _⟩ => SqL.of (s2 _ _ hA.at_)) ?_ ?_⟩
    · rintro i x σ H1 H2 hi ⟨⟨x2, x3, x4, rfl⟩, s2, kvs, hk, hFI, hkl, hkv⟩ ⟨Tp, u1, u2, rfl, nT, rfl, e1, e2⟩
      have e1' : V.int (i : Nat) = u1 := Option.some.inj e1
      subst e1'
      obtain ⟨t, q0, rfl, hq0, _, ht⟩ := hA.get e2
      have hq1 : i < links.length := (List.getElem?_eq_some_iff.mp hq0).1
      have sT : Same H1 (upd H1 Tp (.tup [.int (i : Nat), .ref t])) := same_upd nT
      have hk3 : upd H1 Tp (.tup [.int (i : Nat), .ref t]) d = some (.dK kvs) := sT _ _ hk
      refine ⟨Tp, [.int (i : Nat), .ref t], rfl, .inl (.inl upd_same), rfl, .int (i : Nat), [.ref t], rfl, .ref t, [], rfl, ?_⟩
      refine ⟨t, _, rfl, SqT.of (sT _ _ (s2 _ _ ht)), rfl, _, _, rfl, _, _, rfl, rfl, rfl, ?_⟩
      refine ⟨_, rfl, _, rfl, d, _, rfl, DGet.k (k := Sum.inl (q0.1 : Int)) hk3, _, rfl, ?_⟩
      cases ev : valV kvs (Sum.inl (q0.1 : Int)) with
      | none =>
        refine iteT ?_
        refine ⟨_, rfl, _, rfl, _, rfl, d, _, rfl, DPut.k (k := Sum.inl (q0.1 : Int)) hk3 (small1000 (by omega)), ?_⟩
        refine ⟨⟨_, _, _, rfl⟩, fun b o e => ?_, _, upd_same, fi_snoc hFI hq0 ev, ?_, fun r v hv => ?_⟩
        · rw [upd_ne (ne_of_none e hd)]
          exact sT _ _ (s2 _ _ e)
        · rw [putK_new _ ev, List.length_append, List.length_singleton]
          omega
        · rw [valV_put] at hv
          by_cases e : (Sum.inl (r : Int) : Key) = Sum.inl (q0.1 : Int)
          · rw [if_pos e] at hv
            exact ⟨i, (Option.some.inj hv).symm, by omega⟩
          · rw [if_neg e] at hv
            obtain ⟨k, h1, h2⟩ := hkv r v hv
            exact ⟨k, h1, by omega⟩
      | some v =>
        refine iteF ?_
        refine ⟨⟨_, _, _, rfl⟩, s2.trans sT, kvs, hk3, fi_keep hFI hq0 ev (fun r k h => ?_), by omega, fun r v hv => ?_⟩
        · obtain ⟨k2, h1, h2⟩ := hkv r _ h
          have := V.int.inj h1
          omega
        · obtain ⟨k, h1, h2⟩ := hkv r v hv
          exact ⟨k, h1, by omega⟩
    · rintro σ H1 ⟨⟨x2, x3, x4, rfl⟩, s2, kvs, hk, hFI, _⟩
      rw [List.length_map, hA.len, List.take_length] at hFI
      exact ⟨_, rfl, q H1 d kvs s2 hd hk hFI⟩
end
end K8

set_option maxHeartbeats 4000000
namespace K8
open PySem PySem.Spec PyProof.Rows L2
/-! ### settle_from -/
abbrev pullV (p : Pull) : List V := [.str "pull", .int (p.1 : Nat), .int (p.2.1 : Nat), .int p.2.2]
structure TraceA (C : AP) (H : Hp) (a : Addr) (ps : List Addr) (tr : List Pull) : Prop where
  c : C a
  at_ : H a = some (.lst (ps.map V.ref))
  len : ps.length = tr.length
  row : ∀ (i : Nat) (t : Addr) (p : Pull), ps[i]? = some t → tr[i]? = some p → C t ∧ H t = some (.tup (pullV p))
section
variable {C C' E : AP} {H H' : Hp} {a : Addr} {ps : List Addr} {tr : List Pull}
theorem TraceA.kp (h : TraceA C H a ps tr) (k : Kp E H H') (n : ∀ b, C b → ¬ E b) : TraceA C H' a ps tr :=
  ⟨h.c, k.keep _ _ h.at_ (n _ h.c), h.len, fun i p l e1 e2 => let ⟨x, y⟩ := h.row i p l e1 e2; ⟨x, k.keep _ _ y (n _ x)⟩⟩
theorem TraceA.same (h : TraceA C H a ps tr) (k : Same H H') : TraceA C H' a ps tr :=
  ⟨h.c, k _ _ h.at_, h.len, fun i p l e1 e2 => let ⟨x, y⟩ := h.row i p l e1 e2; ⟨x, k _ _ y⟩⟩
theorem TraceA.imp (h : TraceA C H a ps tr) (n : ∀ b, C b → C' b) : TraceA C' H a ps tr := ⟨n _ h.c, h.at_, h.len, fun i p l e1 e2 => let ⟨x, y⟩ := h.row i p l e1 e2; ⟨n _ x, y⟩⟩
end
theorem pull_head {links : Links} {C : Logs} {i : Nat} {q : Nat × Nat} {e : Int} {r : List Int} (h : ∀ (j : Nat) (q : Nat × Nat), j < i → links[j]? = some q → lack (lg C q.1) (lg C q.2) = []) (hq : links[i]? = some q) (he : lack (lg C q.1) (lg C q.2) = e :: r) :
    (pullsOf links C).head? = some (q.1, q.2, e) := by
  induction links generalizing i with
  | nil => simp at hq
  | cons x l ih =>
    cases i with
    | zero =>
      simp at hq
      subst hq
      unfold pullsOf
      rw [List.flatMap_cons, he]
      rfl
    | succ i =>
      have h0 := h 0 x (Nat.succ_pos _) rfl
      have := ih (i := i) (fun j q' hj hq' => h (j + 1) q' (by omega) (by simpa using hq')) (by simpa using hq)
      unfold pullsOf at this ⊢
      rw [List.flatMap_cons, h0]
      exact this
theorem pull_none {links : Links} {C : Logs} (h : ∀ (j : Nat) (q : Nat × Nat), j < links.length → links[j]? = some q → lack (lg C q.1) (lg C q.2) = []) : pullsOf links C = [] := by
  rw [pulls_nil]
  intro q hq
  obtain ⟨j, hj, e⟩ := List.getElem_of_mem hq
  exact h j q hj (by rw [List.getElem?_eq_getElem hj, e])
/-- no link before at' has an offer after the pull -/
theorem after_no {n sz : Nat} {links : Links} {C : Logs} {i i' : Nat} {p : Pull} (ok : okLogs n sz C) (hr : p.2.1 < n) (hi : i' ≤ i) (h : ∀ (j : Nat) (q : Nat × Nat), j < i → links[j]? = some q → lack (lg C q.1) (lg C q.2) = [])
    (hs : ∀ (j : Nat) (q : Nat × Nat), j < i' → links[j]? = some q → q.1 ≠ p.2.1) : ∀ (j : Nat) (q : Nat × Nat), j < i' → links[j]? = some q → lack (lg (after C p) q.1) (lg (after C p) q.2) = [] := by
  intro j q hj hq
  have h0 := h j q (by omega) hq
  have hs0 := hs j q hj hq
  have hr2 : p.2.1 < C.length := by rw [ok.1]; exact hr
  unfold after
  rw [lg_set hr2, lg_set hr2, if_neg hs0]
  rw [lack_nil] at h0 ⊢
  intro e he
  by_cases h2 : q.2 = p.2.1
  · rw [if_pos h2, ← h2]
    exact List.mem_append_left _ (h0 e he)
  · rw [if_neg h2]
    exact h0 e he
theorem lack_one {src rdr : List Int} : (lack src rdr).take 1 = [] ∧ lack src rdr = [] ∨ ∃ e r, lack src rdr = e :: r ∧ (lack src rdr).take 1 = [e] := by
  cases h : lack src rdr with
  | nil => exact .inl ⟨rfl, rfl⟩
  | cons e r => exact .inr ⟨e, r, rfl, rfl⟩
abbrev sFrom : Stmt := top 19
theorem scFrom : FnScope ["cluster", "logs", "links", "first_of", "current", "trace", "at", "source", "reader", "found"] ["cluster", "logs"] (defScope sFrom) := ⟨rfl, rfl, rfl, by decide +kernel, rfl, by decide +kernel, by decide +kernel⟩
def spLinks (CN : Addr) : Sp := fun vs H Q _ => ∃ (a : Addr) (ts : List Addr) (n : Nat) (links : Links), vs = [.ref a] ∧ NetA CN ANY H a ts n links ∧ ∀ p, H p = none → Q (.ref p) (upd H p (.lst (ts.map V.ref)))
/-- the property links of Net -/
structure GetL (P : Program) (w : World) (K : PySem.W.Frag) (mg : Str → Option Value) (base : Heap) (CN : Addr) : Prop where
  ex : ∃ (p g : Addr) (fd : FuncData) (ps : List Str), PropOf K CN "links" p g ∧ FnOk P w K mg base CX0 1 g fd ps (spLinks CN) ∧ Binds K fd ps []
theorem pe_links {X : Cx} {e : Expr} {ta : TE} {pos : Pos} {CN : Addr} {j : Nat} (G : GetL X.prog X.w X.K X.mg X.base CN) (c : Cls X.K CN) (hr : Room j X.A) (hj : 2 ≤ j) (he : PE X e ta) (hab : attributeBase e "links" X.env (eval e X.env) = eval e X.env) :
    PE X (.Attribute e "links" pos) (tProp CN (spLinks CN) [] E0 ta) := by
  obtain ⟨p, g, fd, ps, hp, F, hb⟩ := G.ex
  exact pe_prop he c hp F (hr.mono hj) hb .nil pass0 hab
def spFrom (CC CN : Addr) : Sp := fun vs H Q _ => ∃ (c a : Addr) (ts as : List Addr) (n sz : Nat) (links : Links) (L : Logs), vs = [.ref c, .ref a] ∧ ClA CC CN ANY H c ts n sz links ∧ LogsA ANY H a as L ∧ OkW n sz links ∧ okLogs n sz L ∧ links.length ≤ 100 ∧
  ∀ (H' : Hp) (t tp cp : Addr) (ps qs : List Addr) (tr : List Pull) (C : Logs), Same H H' → H' t = some (.tup [.ref tp, .ref cp]) → TraceA (NEW H) H' tp ps tr → LogsA (NEW H) H' cp qs C → qs.Nodup → LRun links L tr C → pullsOf links C = [] → Q (.ref t) H'
/-- the state at the loop's head -/
structure SF (H H' : Hp) (ts : List Addr) (n sz : Nat) (links : Links) (L : Logs) (lp tp cp d : Addr) (qs ps : List Addr) (kvs : List (Key × V)) (C : Logs) (tr : List Pull) (i : Nat) : Prop where
  same : Same H H'
  li : LinksA (fun b => b ≠ tp ∧ b ∉ qs) H' lp ts links
  lo : LogsA (NEW H) H' cp qs C
  nd : qs.Nodup
  trA : TraceA (NEW H) H' tp ps tr
  n1 : tp ≠ cp
  n2 : tp ∉ qs
  n3 : cp ∉ qs
  dd : H' d = some (.dK kvs)
  fi : FI links kvs
  run : LRun links L tr C
  no : ∀ (j : Nat) (q : Nat × Nat), j < i → links[j]? = some q → lack (lg C q.1) (lg C q.2) = []
  le : i ≤ links.length
def muF (n sz : Nat) (links : Links) (C : Logs) (i : Nat) : Nat := (n * sz - sumlen C) * (links.length + 1) + (links.length - i)
theorem lrun_len {n sz : Nat} {links : Links} {L C : Logs} {tr : List Pull} (W : OkW n sz links) (ok : okLogs n sz L) (h : LRun links L tr C) : tr.length ≤ n * sz := by
  obtain ⟨h1, h2, _⟩ := h.ok W ok
  have := sumlen_bound h1
  omega
theorem nsz_le {n sz : Nat} {links : Links} (W : OkW n sz links) : n * sz ≤ 1440 := Nat.mul_le_mul W.n24 W.z60
theorem row_len {sz : Nat} {l : List Int} (h : okLog sz l) : l.length ≤ sz := by
  have := nodup_sub_len l (ents sz) h.1 fun x hx => mem_ents.mpr (h.2 x hx)
  unfold ents at this
  rwa [List.length_map, List.length_range] at this

theorem LinksA.at' {C : AP} {H : Hp} {a : Addr} {as : List Addr} {links : Links} (h : LinksA C H a as links) {i : Nat} (hi : i < links.length) : ∃ t q, (as.map V.ref)[i]? = some (V.ref t) ∧ links[i]? = some q ∧ C t ∧ H t = some (.tup [.int (q.1 : Nat), .int (q.2 : Nat)]) := by
  have hi2 : i < as.length := by rw [h.len]; exact hi
  obtain ⟨c, e⟩ := h.row i as[i] links[i] (List.getElem?_eq_getElem hi2) (List.getElem?_eq_getElem hi)
  exact ⟨as[i], links[i], by rw [List.getElem?_map, List.getElem?_eq_getElem hi2]; rfl, List.getElem?_eq_getElem hi, c, e⟩
theorem LogsA.of_mem {C : AP} {H : Hp} {a : Addr} {as : List Addr} {L : Logs} (h : LogsA C H a as L) {b : Addr} (hb : b ∈ as) : ∃ l, l ∈ L ∧ Ints C H b l := by
  obtain ⟨j, hj, ej⟩ := List.getElem_of_mem hb
  have hj2 : j < L.length := by rw [← h.len]; exact hj
  exact ⟨L[j], List.getElem_mem hj2, h.row j b L[j] (by rw [List.getElem?_eq_getElem hj, ej]) (List.getElem?_eq_getElem hj2)⟩
theorem LogsA.not_self {C : AP} {H : Hp} {a : Addr} {as : List Addr} {L : Logs} (h : LogsA C H a as L) : a ∉ as := fun z => by
  obtain ⟨l, _, _, e⟩ := h.of_mem z
  rw [h.at_] at e
  have e2 := HO.lst.inj (Option.some.inj e)
  cases as with
  | nil => cases z
  | cons x r =>
    cases l with
    | nil => cases e2
    | cons k l => cases e2
theorem small2000 {n : Nat} (h : n ≤ 2000) : n < sizeLine := Nat.lt_of_le_of_lt h (by decide)
section
variable {P : Program} {w : World} {K : PySem.W.Frag} {mg : Str → Option Value} {base : Heap}
theorem ok_from {f CC CN : Addr} {fd : FuncData} (F : FnT K "settle_from" sFrom f fd) (hm : mg "settle_from" = some (.ref f)) (B : NB mg) (T : TxC K CC CN) (hF : FirstIs mg) (G : GetL P w K mg base CN)
    (cCopy : Cal P w K mg base CX0 1 "copy_logs" spCopy) (cFirst : Cal P w K mg base CX0 1 "_first_links" spFirst) (cOff : Cal P w K mg base CX0 1 "offered" spOffered) : Cal P w K mg base CX0 4 "settle_from" (spFrom CC CN) := by
  refine cal0 F hm (fun _ _ _ _ _ _ us hl => match us, hl with | [_, _], _ => rfl) scFrom (fun vs H Q E h => ?_) (fun cdv A outer s H vs Q E hr h => ?_)
  · obtain ⟨c, a, ts, as, n, sz, links, L, rfl, _⟩ := h
    rfl
  · obtain ⟨c, a, ts, as, n, sz, links, L, rfl, hC, hA, W, ok, hll, q⟩ := h
    obtain ⟨tF, hF⟩ := hF
    have hu := hu_of hr
    refine ⟨_, pss_cons (ps_set (i := 2) scFrom.nd rfl (Or.inl rfl) (pe_links G T.clN hr (by decide) (pe_fld (pv 0) rfl) rfl))
      (pss_cons (ps_set (i := 3) scFrom.nd rfl (Or.inl rfl) (pe_c cFirst hr (by decide) (by rfl) (pa_cons (pv 2) pa_nil)))
      (pss_cons (ps_set (i := 4) scFrom.nd rfl (Or.inl rfl) (pe_c cCopy hr (by decide) (by rfl) (pa_cons (pv 1) pa_nil)))
      (pss_cons (ps_set (i := 5) scFrom.nd rfl (Or.inl rfl) (pe_lst pa_nil))
      (pss_cons (ps_set (i := 6) scFrom.nd rfl (Or.inl rfl) pe_int)
      (pss_cons (ps_while PassesOwn.never (pt_cmpR op_lt (pv 6) (pe_callB call_len_seq (by rfl) B.len PySem.boot_len (pa_cons (pv 2) pa_nil)) (nomark _))
        (pss_cons (ps_asg (pe_ix ix_list (pv 2) (pv 6) (fun _ _ => rfl)) (pg_tup rfl (pgs_cons (pg_name (i := 7) scFrom.nd rfl (.inl rfl)) (pgs_cons (pg_name (i := 8) scFrom.nd rfl (.inl rfl)) pgs_nil))))
        (pss_cons (ps_set (i := 9) scFrom.nd rfl (Or.inl rfl) (pe_c cOff hr (by decide) (by rfl) (pa_cons (pe_ix ix_list (pv 4) (pv 7) (fun _ _ => rfl)) (pa_cons (pe_ix ix_list (pv 4) (pv 8) (fun _ _ => rfl)) (pa_cons (pe_glob (v := V.str "first") (by rfl) hF ⟨_, rfl⟩) pa_nil)))))
        (pss_one (ps_if (pt_truth (pv 9) (by intro _; rfl))
          (pss_cons (ps_expr (pe_bm PySem.F.plainAttrs_list PySem.F.slot_list_append PySem.F.type_list_append mt_append (pv 5) (pa_cons (pe_tup (pa_cons pe_str (pa_cons (pv 7) (pa_cons (pv 8) (pa_cons (pe_ix ix_list (pv 9) pe_int (fun _ _ => rfl)) pa_nil))))) pa_nil)))
          (pss_cons (ps_expr (pe_bm PySem.F.plainAttrs_list PySem.F.slot_list_append PySem.F.type_list_append mt_append (pe_ix ix_list (pv 4) (pv 8) (fun _ _ => rfl)) (pa_cons (pe_ix ix_list (pv 9) pe_int (fun _ _ => rfl)) pa_nil)))
          (pss_one (ps_set (i := 6) scFrom.nd rfl (Or.inl rfl) (pe_callB (call_min2 rfl) (by rfl) B.mn (by decide +kernel) (pa_cons (pv 6) (pa_cons (pe_dget2 hu (pv 3) (pv 8) (pv 6) ⟨by rfl, by rfl, by rfl, by rfl⟩) pa_nil)))))))
          (pss_one (ps_set (i := 6) scFrom.nd rfl (Or.inl rfl) (pe_op op_add (pv 6) pe_int))))))))
      (pss_one (ps_ret (pe_tup (pa_cons (pv 5) (pa_cons (pv 4) pa_nil)))))))))), ?_⟩
    obtain ⟨dx, fs, na, h1, h2, h3, h4⟩ := hC.ob
    obtain ⟨dx2, fs2, ll, g1, g2, g3, g4⟩ := h4.ob
    refine ⟨_, rfl, c, CC, dx, fs, _, rfl, h1, T.clC, T.cNet, h3, na, dx2, fs2, rfl, g1, na, ts, n, links, rfl, h4, fun lp hlp => ?_⟩
    have s1 : Same H (upd H lp (.lst (ts.map V.ref))) := same_upd hlp
    have li1 : LinksA (fun b => upd H lp (.lst (ts.map V.ref)) b ≠ none) (upd H lp (.lst (ts.map V.ref))) lp ts links := by
      refine ⟨by rw [upd_same]; exact fun z => (by cases z), upd_same, g4.len, fun i t q e1 e2 => ?_⟩
      have := (g4.row i t q e1 e2).2
      exact ⟨by rw [s1 _ _ this]; exact fun z => (by cases z), s1 _ _ this⟩
    refine ⟨_, rfl, lp, ts, links, rfl, li1.imp fun _ _ => True.intro, hll, fun H2 d kvs s2 hd hdd hfi => ?_⟩
    refine ⟨_, rfl, a, as, L, rfl, (hA.same (s1.trans s2)), ?_, ?_, fun H3 cp qs s3 lo nd => ?_⟩
    · rw [ok.1]; have := W.n24; omega
    · intro l hl
      have := row_len (ok.2 l hl)
      have := W.z60
      omega
    refine ⟨Nat.zero_le _, fun tp htp => ?_⟩
    have hs2 : H2 lp ≠ none := by rw [s2 _ _ li1.at_]; exact fun z => (by cases z)
    have htH : H tp = none := (s1.trans (s2.trans s3)).free htp
    have ht2 : H2 tp = none := s3.free htp
    have sf0 : SF H (upd H3 tp (.lst [])) ts n sz links L lp tp cp d qs [] kvs L [] 0 := by
      have s4 : Same H3 (upd H3 tp (.lst [])) := same_upd htp
      refine ⟨s1.trans (s2.trans (s3.trans s4)), ?_, (lo.same s4).imp fun b hb => (s1.trans s2).free hb, nd, ⟨htH, upd_same, rfl, fun i t p e1 e2 => (by simp at e1)⟩, ?_, ?_, ?_, ?_, hfi, .nil _, fun j q hj => absurd hj (Nat.not_lt_zero _), Nat.zero_le _⟩
      · refine (li1.same (s2.trans (s3.trans s4))).imp fun b hb => ⟨fun z => ?_, fun z => ?_⟩
        · exact hb (by rw [z]; exact s2.free ht2)
        · obtain ⟨l, _, hr, _⟩ := lo.of_mem z
          exact hb (s2.free hr)
      · intro z
        rw [z, lo.at_] at htp
        cases htp
      · intro z
        obtain ⟨l, _, _, hr⟩ := lo.of_mem z
        rw [htp] at hr
        cases hr
      · exact lo.not_self
      · exact s4 _ _ (s3 _ _ hdd)
    refine ⟨fun m σ H' => ∃ (i : Nat) (ps : List Addr) (C : Logs) (tr : List Pull) (x y z : Option V), σ = [some (.ref c), some (.ref a), some (.ref lp), some (.ref d), some (.ref cp), some (.ref tp), some (.int (i : Nat)), x, y, z] ∧ SF H H' ts n sz links L lp tp cp d qs ps kvs C tr i ∧ m = muF n sz links C i, ⟨_, 0, [], L, [], none, none, none, rfl, sf0, rfl⟩, ?_⟩
    clear sf0
    rintro m σ H4 ⟨i, ps, C, tr, x, y, z, rfl, sf, rfl⟩
    have okC := (sf.run.ok W ok).1
    have hsum := (sf.run.ok W ok).2.1
    have hnsz := nsz_le W
    refine ⟨_, rfl, _, rfl, lp, _, rfl, .inl (SqL.of sf.li.at_), _, _, rfl, rfl, _, rfl, ?_⟩
    rw [List.length_map, sf.li.len]
    refine ite2 (fun e => ?_) (fun e => ?_)
    · have hi : i < links.length := by have := of_decide_eq_true e; omega
      refine ⟨fun σ' H' => ∃ (i' : Nat) (ps : List Addr) (C' : Logs) (tr : List Pull) (x y z : Option V), σ' = [some (.ref c), some (.ref a), some (.ref lp), some (.ref d), some (.ref cp), some (.ref tp), some (.int (i' : Nat)), x, y, z] ∧ SF H H' ts n sz links L lp tp cp d qs ps kvs C' tr i' ∧ muF n sz links C' i' < muF n sz links C i,
        fun σ' H' ⟨i', ps, C', tr, x, y, z, e1, e2, e3⟩ => ⟨_, e3, i', ps, C', tr, x, y, z, e1, e2, rfl⟩, ?_⟩
      obtain ⟨t, q0, ht1, hq0, _, ht⟩ := sf.li.at' hi
      obtain ⟨b1, b2, b3⟩ := W.bd _ (List.mem_of_getElem? hq0)
      refine ⟨_, rfl, _, rfl, lp, _, _, _, rfl, rfl, SqL.of sf.li.at_, atI_nat ht1, t, _, rfl, SqT.of ht, rfl, _, _, rfl, _, _, rfl, rfl, ?_⟩
      obtain ⟨p1, _, hp1, hI1⟩ := sf.lo.get (i := q0.1) (by rw [okC.1]; exact b1)
      obtain ⟨p2, hp2', hp2, hI2⟩ := sf.lo.get (i := q0.2) (by rw [okC.1]; exact b2)
      have r1 := row_len (ok_lg okC q0.1)
      have r2 := row_len (ok_lg okC q0.2)
      have z60 := W.z60
      refine ⟨_, rfl, _, rfl, cp, _, _, _, rfl, rfl, SqL.of sf.lo.at_, atI_nat hp1, ?_⟩
      refine ⟨_, rfl, _, rfl, cp, _, _, _, rfl, rfl, SqL.of sf.lo.at_, atI_nat hp2, ?_⟩
      refine ⟨p1, p2, _, _, rfl, ⟨True.intro, hI1.2⟩, ⟨True.intro, hI2.2⟩, by omega, by omega, fun H5 fa s5 hfa hfa2 => ?_⟩
      refine ⟨_, rfl, _, .inl ⟨_, SqL.of hfa2, rfl⟩, ?_⟩
      rcases lack_one (src := lg C q0.1) (rdr := lg C q0.2) with ⟨e1, e2⟩ | ⟨v, r, e1, e2⟩
      · rw [e1]
        refine iteF ?_
        refine ⟨_, rfl, _, _, rfl, rfl, ?_⟩
        refine ⟨i + 1, ps, C, tr, _, _, _, rfl, ⟨sf.same.trans s5, sf.li.same s5, sf.lo.same s5, sf.nd, sf.trA.same s5, sf.n1, sf.n2, sf.n3, s5 _ _ sf.dd, sf.fi, sf.run, fun j q hj hq => ?_, hi⟩, ?_⟩
        · by_cases hj2 : j < i
          · exact sf.no j q hj2 hq
          · have : j = i := by omega
            subst this
            rw [hq0] at hq
            rw [← Option.some.inj hq]
            exact e2
        · unfold muF
          omega
      · rw [e2] at hfa2 ⊢
        refine iteT ?_
        have hhead := pull_head sf.no hq0 e1
        have hmem := head_mem hhead
        have hadd := pull_add W okC hmem
        have hokA := after_ok W okC hmem
        have hsumA := after_sum W okC hmem
        have hbA := sumlen_bound hokA
        refine ⟨_, rfl, .inl ⟨rfl, _, SqL.of (s5 _ _ sf.trA.at_)⟩, _, rfl, _, rfl, _, rfl, fa, _, _, _, rfl, rfl, SqL.of hfa2, atI_nat (j := 0) rfl, by show 4 ≤ sizeLine; decide, fun t1 ht1 => ?_⟩
        have s6 : Same H5 (upd H5 t1 (.tup [.str "pull", .int (q0.1 : Nat), .int (q0.2 : Nat), .int v])) := same_upd ht1
        generalize hH6 : upd H5 t1 (.tup [.str "pull", .int (q0.1 : Nat), .int (q0.2 : Nat), .int v]) = H6 at s6 ⊢
        have e6 : H6 t1 = some (.tup (pullV (q0.1, q0.2, v))) := by rw [← hH6]; exact upd_same
        have s46 : Same H4 H6 := s5.trans s6
        have etr := s46 _ _ sf.trA.at_
        have hlenp : ps.length ≤ n * sz := by rw [sf.trA.len]; exact lrun_len W ok sf.run
        refine ⟨tp, _, _, rfl, rfl, etr, small2000 (by rw [List.length_map]; omega), ?_⟩
        have hp2m : p2 ∈ qs := List.mem_of_getElem? hp2'
        have hcp2 : cp ≠ p2 := fun z => sf.n3 (by rw [z]; exact hp2m)
        have htp2 : tp ≠ p2 := fun z => sf.n2 (by rw [z]; exact hp2m)
        have k7 : Kp (fun b => b = tp ∨ b ∈ qs) H6 (upd H6 tp (.lst (ps.map V.ref ++ [.ref t1]))) := kp_upd (.inl (.inl rfl))
        generalize hH7 : upd H6 tp (.lst (ps.map V.ref ++ [.ref t1])) = H7 at k7 ⊢
        have e7 : H7 tp = some (.lst (ps.map V.ref ++ [.ref t1])) := by rw [← hH7]; exact upd_same
        have n7 : ∀ b, b ≠ tp → H7 b = H6 b := fun b hb => by rw [← hH7]; exact upd_ne hb
        have hcp7 : H7 cp = some (.lst (qs.map V.ref)) := by rw [n7 _ sf.n1.symm]; exact s46 _ _ sf.lo.at_
        have hp27 : H7 p2 = some (.lst ((lg C q0.2).map V.int)) := by rw [n7 _ (fun z => sf.n2 (z ▸ hp2m))]; exact s46 _ _ hI2.2
        have hfat : fa ≠ tp := fun z => by rw [z, sf.trA.at_] at hfa; cases hfa
        have hfa7 : H7 fa = some (.lst [V.int v]) := by rw [n7 _ hfat]; exact s6 _ _ hfa2
        refine ⟨_, rfl, _, rfl, cp, _, _, _, rfl, rfl, SqL.of hcp7, atI_nat hp2, .inl ⟨rfl, _, SqL.of hp27⟩, ?_⟩
        refine ⟨_, rfl, fa, _, _, _, rfl, rfl, SqL.of hfa7, atI_nat (j := 0) rfl, p2, _, _, rfl, rfl, hp27, small1000 (by rw [List.length_map]; omega), ?_⟩
        have k8 : Kp (fun b => b = tp ∨ b ∈ qs) H7 (upd H7 p2 (.lst ((lg C q0.2).map V.int ++ [.int v]))) := kp_upd (.inl (.inr hp2m))
        generalize hH8 : upd H7 p2 (.lst ((lg C q0.2).map V.int ++ [.int v])) = H8 at k8 ⊢
        have e8 : H8 p2 = some (.lst ((lg C q0.2).map V.int ++ [.int v])) := by rw [← hH8]; exact upd_same
        have n8 : ∀ b, b ≠ p2 → H8 b = H7 b := fun b hb => by rw [← hH8]; exact upd_ne hb
        have kk : Kp (fun b => b = tp ∨ b ∈ qs) H4 H8 := (same_kp s46).trans (k7.trans k8)
        have hd8 : H8 d = some (.dK kvs) := by
          have h6 := s46 _ _ sf.dd
          rw [n8 _ (ne_of h6 (s46 _ _ hI2.2) (by intro z; cases z)), n7 _ (ne_of h6 etr (by intro z; cases z))]
          exact h6
        have htup : ∀ b xs, H6 b = some (.tup xs) → H8 b = some (.tup xs) := fun b xs h6 => by
          rw [n8 _ (ne_of h6 (s46 _ _ hI2.2) (by intro z; cases z)), n7 _ (ne_of h6 etr (by intro z; cases z))]
          exact h6
        have sH8 : Same H H8 := fun b o e => kk.keep b o (sf.same b o e) fun z => by
          rcases z with z | z
          · have := sf.trA.c
            rw [← z] at this
            rw [show H b = none from this] at e
            cases e
          · obtain ⟨_, _, hn, _⟩ := sf.lo.of_mem z
            rw [show H b = none from hn] at e
            cases e
        have lo8 : LogsA (NEW H) H8 cp qs (after C (q0.1, q0.2, v)) := by
          refine ⟨sf.lo.c, by rw [n8 _ hcp2]; exact hcp7, by rw [sf.lo.len]; unfold after; rw [List.length_set], fun j p' l h1 h2 => ?_⟩
          unfold after at h2
          have hj : j < C.length := by
            have := (List.getElem?_eq_some_iff.mp h2).1
            rwa [List.length_set] at this
          have hjq := (List.getElem?_eq_some_iff.mp h1).1
          by_cases hjr : j = q0.2
          · subst hjr
            rw [hp2'] at h1
            cases h1
            rw [List.getElem?_set_self hj] at h2
            cases h2
            exact ⟨hI2.1, by rw [e8, List.map_append]; rfl⟩
          · have hne : p' ≠ p2 := fun z => by
              subst z
              have i2 := (List.getElem?_eq_some_iff.mp hp2').1
              have a1 := (List.getElem?_eq_some_iff.mp h1).2
              have a2 := (List.getElem?_eq_some_iff.mp hp2').2
              exact hjr ((List.getElem?_inj hjq sf.nd).mp (h1.trans hp2'.symm))
            rw [List.getElem?_set_ne (fun z => hjr z.symm)] at h2
            have hrow := sf.lo.row j p' l h1 h2
            have hm : p' ∈ qs := List.mem_of_getElem? h1
            exact ⟨hrow.1, by rw [n8 _ hne, n7 _ (fun z => sf.n2 (z ▸ hm))]; exact s46 _ _ hrow.2⟩
        have tr8 : TraceA (NEW H) H8 tp (ps ++ [t1]) (tr ++ [(q0.1, q0.2, v)]) := by
          refine ⟨sf.trA.c, by rw [n8 _ htp2, e7, List.map_append]; rfl, by rw [List.length_append, List.length_append, sf.trA.len]; rfl, fun j p' l h1 h2 => ?_⟩
          rcases snoc_get h1 with ⟨hj, h1⟩ | ⟨hj, h1⟩
          · rcases snoc_get h2 with ⟨hj2, h2⟩ | ⟨hj2, h2⟩
            · obtain ⟨a1, a2⟩ := sf.trA.row j p' l h1 h2
              exact ⟨a1, htup _ _ (s46 _ _ a2)⟩
            · rw [sf.trA.len] at hj; omega
          · rcases snoc_get h2 with ⟨hj2, h2⟩ | ⟨hj2, h2⟩
            · rw [sf.trA.len] at hj; omega
            · rw [h1, h2]
              exact ⟨sf.same.free (s5.free ht1), htup _ _ e6⟩
        have li8 : LinksA (fun b => b ≠ tp ∧ b ∉ qs) H8 lp ts links := sf.li.kp kk fun b hb z => z.elim hb.1 hb.2
        have fin : ∀ i' : Nat, i' ≤ i → (∀ (j : Nat) (q : Nat × Nat), j < i' → links[j]? = some q → q.1 ≠ q0.2) → SF H H8 ts n sz links L lp tp cp d qs (ps ++ [t1]) kvs (after C (q0.1, q0.2, v)) (tr ++ [(q0.1, q0.2, v)]) i' ∧ muF n sz links (after C (q0.1, q0.2, v)) i' < muF n sz links C i := by
          intro i' hi' hs
          refine ⟨⟨sH8, li8, lo8, sf.nd, tr8, sf.n1, sf.n2, sf.n3, hd8, sf.fi, sf.run.snoc hhead, after_no (p := (q0.1, q0.2, v)) okC b2 hi' sf.no hs, by omega⟩, ?_⟩
          have e3 : n * sz - sumlen C = (n * sz - sumlen (after C (q0.1, q0.2, v))) + 1 := by omega
          unfold muF
          rw [e3, Nat.succ_mul]
          omega
        refine ⟨_, rfl, _, rfl, d, rfl, .inl ⟨kvs, .inl hd8⟩, _, rfl, _, rfl, _, DGet.k (k := Sum.inl (q0.2 : Int)) hd8, ?_⟩
        rcases sf.fi q0.2 with ⟨h1, h2⟩ | ⟨k, h1, h2⟩
        · rw [h1]
          refine ⟨_, _, rfl, ?_⟩
          obtain ⟨a1, a2⟩ := fin i (Nat.le_refl _) fun j q hj hq => h2 q (List.mem_of_getElem? hq)
          rw [if_neg (by omega)]
          exact ⟨i, _, _, _, _, _, _, rfl, a1, a2⟩
        · rw [h1]
          refine ⟨_, _, rfl, ?_⟩
          by_cases hk : k < i
          · rw [if_pos (by omega)]
            obtain ⟨a1, a2⟩ := fin k (by omega) h2
            exact ⟨k, _, _, _, _, _, _, rfl, a1, a2⟩
          · rw [if_neg (by omega)]
            obtain ⟨a1, a2⟩ := fin i (Nat.le_refl _) fun j q hj hq => h2 j q (by omega) hq
            exact ⟨i, _, _, _, _, _, _, rfl, a1, a2⟩
    · have hi : i = links.length := by
        have h1 : ¬ ((i : Int) < (links.length : Int)) := fun z => e (decide_eq_true z)
        have := sf.le
        omega
      subst hi
      refine ⟨_, rfl, _, rfl, by show 2 ≤ sizeLine; decide, fun t ht => ?_⟩
      have s9 : Same H4 (upd H4 t (.tup [.ref tp, .ref cp])) := same_upd ht
      exact q _ t tp cp ps qs tr C (sf.same.trans s9) upd_same (sf.trA.same s9) (sf.lo.same s9) sf.nd sf.run (pull_none sf.no)
end
end K8

set_option maxHeartbeats 4000000
namespace K8
open PySem PySem.Spec PyProof.Rows L2
/-! ### is_settled, settle, settled_logs -/
/-- what the four ask about: a cluster and logs that may be none -/
structure Ask (CC CN : Addr) (P1 : Addr) (H : Hp) (c a : Addr) (ts as : List Addr) (n sz : Nat) (links : Links) (L : Logs) : Prop extends In CC CN H c a ts as n sz links L where
  w : OkW n sz links
  l100 : links.length ≤ 100
  tab : GxR.TabG H P1
/-- the promise of one that answers by ans -/
def spAsk (CC CN CI P1 : Addr) (ans : Hp → Nat → Nat → Links → Logs → VK → Prop) : Sp := fun vs H Q E => ∃ (c a : Addr) (ts as : List Addr) (n sz : Nat) (links : Links) (L : Logs), vs = [.ref c, .ref a] ∧ Ask CC CN P1 H c a ts as n sz links L ∧
  (okLogs n sz L → ans H n sz links L Q) ∧ IlE CI P1 n sz L H E
def ansIs (P1 : Addr) (H : Hp) (n sz : Nat) (links : Links) (L : Logs) (Q : VK) : Prop := ∀ H', K1 P1 H H' → Q (.bl (pullsOf links L).isEmpty) H'
def ansSettle (P1 : Addr) (H : Hp) (n sz : Nat) (links : Links) (L : Logs) (Q : VK) : Prop := ∀ (H' : Hp) (tp : Addr) (ps : List Addr) (tr : List Pull) (C : Logs), K1 P1 H H' → TraceA (NEW H) H' tp ps tr → LRun links L tr C → pullsOf links C = [] → Q (.ref tp) H'
def ansLogs (P1 : Addr) (H : Hp) (n sz : Nat) (links : Links) (L : Logs) (Q : VK) : Prop := ∀ (H' : Hp) (cp : Addr) (qs : List Addr) (tr : List Pull) (C : Logs), K1 P1 H H' → LogsA (NEW H) H' cp qs C → qs.Nodup → LRun links L tr C → pullsOf links C = [] → Q (.ref cp) H'
abbrev sIs : Stmt := top 17
abbrev sSettle : Stmt := top 20
abbrev sSLogs : Stmt := top 21
theorem scIs : FnScope ["cluster", "logs", "current", "source", "reader"] ["cluster", "logs"] (defScope sIs) := ⟨rfl, rfl, rfl, by decide +kernel, rfl, by decide +kernel, by decide +kernel⟩
theorem scSettle : FnScope ["cluster", "logs", "trace", "_"] ["cluster", "logs"] (defScope sSettle) := ⟨rfl, rfl, rfl, by decide +kernel, rfl, by decide +kernel, by decide +kernel⟩
theorem scSLogs : FnScope ["cluster", "logs", "_", "settled"] ["cluster", "logs"] (defScope sSLogs) := ⟨rfl, rfl, rfl, by decide +kernel, rfl, by decide +kernel, by decide +kernel⟩
theorem pulls_snoc {links : Links} {L : Logs} {i : Nat} {q : Nat × Nat} (hq : links[i]? = some q) : pullsOf (links.take (i + 1)) L = pullsOf (links.take i) L ++ ((lack (lg L q.1) (lg L q.2)).take 1).map fun e => (q.1, q.2, e) := by
  rw [take_snoc hq]
  unfold pullsOf
  rw [List.flatMap_append, List.flatMap_cons, List.flatMap_nil, List.append_nil]
theorem pulls_ne {links : Links} {L : Logs} {i : Nat} {q : Nat × Nat} (hq : links[i]? = some q) {e : Int} {r : List Int} (he : lack (lg L q.1) (lg L q.2) = e :: r) : (pullsOf links L).isEmpty = false := by
  cases h : pullsOf links L with
  | cons => rfl
  | nil =>
    have := pulls_nil.mp h q (List.mem_of_getElem? hq)
    rw [he] at this
    cases this
section
variable {P : Program} {w : World} {K : PySem.W.Frag} {mg : Str → Option Value} {base : Heap} {CC CN CI P1 : Addr}
theorem ok_is {f : Addr} {fd : FuncData} (F : FnT K "is_settled" sIs f fd) (hm : mg "is_settled" = some (.ref f)) (T : TxC K CC CN) (hF : FirstIs mg) (G : GetL P w K mg base CN)
    (cCheck : Cal P w K mg base (L2.CX P w) 4 "check_logs" (spCheck CC CN CI P1)) (cOff : Cal P w K mg base CX0 1 "offered" spOffered) : Cal P w K mg base (L2.CX P w) 5 "is_settled" (spAsk CC CN CI P1 (ansIs P1)) := by
  refine calX F hm (fun _ _ _ _ _ _ us hl => match us, hl with | [_, _], _ => rfl) scIs (fun vs H Q E h => ?_) (fun cdv A outer s H vs Q E hr h => ?_)
  · obtain ⟨c, a, ts, as, n, sz, links, L, rfl, _⟩ := h
    rfl
  · obtain ⟨c, a, ts, as, n, sz, links, L, rfl, hIn, q, qE⟩ := h
    obtain ⟨tF, hF⟩ := hF
    have W := hIn.w
    refine ⟨_, pss_cons (ps_set (i := 2) scIs.nd rfl (Or.inl rfl) (pe_cX cCheck hr (by decide) (by rfl) (passes_call (E := E) (takes_of rfl rfl rfl rfl) (fun _ _ _ _ h => h)) (pa_cons (pv 0) (pa_cons (pv 1) pa_nil))))
      (pss_cons (ps_for (passes_of rfl) rfl (pi_list (pe_links G T.clN hr (by decide) (pe_fld (pv 0) rfl) rfl)) (pg_tup rfl (pgs_cons (pg_name (i := 3) scIs.nd rfl (.inl rfl)) (pgs_cons (pg_name (i := 4) scIs.nd rfl (.inl rfl)) pgs_nil)))
        (pss_one (ps_if (pt_truth (pe_c cOff hr (by decide) (by rfl) (pa_cons (pe_ix ix_list (pv 2) (pv 3) (fun _ _ => rfl)) (pa_cons (pe_ix ix_list (pv 2) (pv 4) (fun _ _ => rfl)) (pa_cons (pe_glob (v := V.str "first") (by rfl) hF ⟨_, rfl⟩) pa_nil)))) (by intro _; rfl)) (pss_one (ps_ret pe_bl)) pss_nil)))
      (pss_one (ps_ret pe_bl))), ?_⟩
    refine ⟨_, rfl, _, rfl, c, a, ts, as, n, sz, links, L, rfl, hIn.toIn, hIn.tab, fun ok H1 cp qs k1 lo nd => ?_, qE⟩
    have hC1 := hIn.cl.k1 hIn.tab k1
    obtain ⟨dx, fs, na, h1, h2, h3, h4⟩ := hC1.ob
    obtain ⟨dx2, fs2, ll, g1, g2, g3, g4⟩ := h4.ob
    refine ⟨_, rfl, c, CC, dx, fs, _, rfl, h1, T.clC, T.cNet, h3, na, dx2, fs2, rfl, g1, na, ts, n, links, rfl, h4, fun lp hlp => ?_⟩
    have s2 : Same H1 (upd H1 lp (.lst (ts.map V.ref))) := same_upd hlp
    have g5 : LinksA ANY (upd H1 lp (.lst (ts.map V.ref))) lp ts links := ⟨True.intro, upd_same, g4.len, fun i t p e1 e2 => ⟨True.intro, s2 _ _ (g4.row i t p e1 e2).2⟩⟩
    refine ⟨lp, rfl, ⟨_, SqL.of upd_same⟩, for_list (xs := ts.map V.ref) (fun i σ H' => (∃ x y, σ = [some (.ref c), some (.ref a), some (.ref cp), x, y]) ∧ Same (upd H1 lp (.lst (ts.map V.ref))) H' ∧ ∀ (j : Nat) (q : Nat × Nat), j < i → links[j]? = some q → lack (lg L q.1) (lg L q.2) = [])
      ⟨⟨_, _, rfl⟩, fun b o e => e, fun j q hj => absurd hj (Nat.not_lt_zero _)⟩ (fun i σ H' _ h => SqL.of (h.2.1 _ _ upd_same)) ?_ ?_⟩
    · rintro i x σ H' hx ⟨⟨x2, x3, rfl⟩, s3, hno⟩
      obtain ⟨t, q0, rfl, hq0, _, ht⟩ := g5.get hx
      obtain ⟨b1, b2, b3⟩ := W.bd _ (List.mem_of_getElem? hq0)
      have lo3 : LogsA (NEW H) H' cp qs L := (lo.same s2).same s3
      refine ⟨t, _, rfl, SqT.of (s3 _ _ ht), rfl, _, _, rfl, _, _, rfl, rfl, ?_⟩
      obtain ⟨p1, _, hp1, hI1⟩ := lo3.get (i := q0.1) (by rw [ok.1]; exact b1)
      obtain ⟨p2, hp2', hp2, hI2⟩ := lo3.get (i := q0.2) (by rw [ok.1]; exact b2)
      have r1 := row_len (ok_lg ok q0.1)
      have r2 := row_len (ok_lg ok q0.2)
      have z60 := W.z60
      refine ⟨_, rfl, _, rfl, cp, _, _, _, rfl, rfl, SqL.of lo3.at_, atI_nat hp1, ?_⟩
      refine ⟨_, rfl, _, rfl, cp, _, _, _, rfl, rfl, SqL.of lo3.at_, atI_nat hp2, ?_⟩
      refine ⟨p1, p2, _, _, rfl, ⟨True.intro, hI1.2⟩, ⟨True.intro, hI2.2⟩, by omega, by omega, fun H5 fa s5 hfa hfa2 => ?_⟩
      refine ⟨_, .inl ⟨_, SqL.of hfa2, rfl⟩, ?_⟩
      rcases lack_one (src := lg L q0.1) (rdr := lg L q0.2) with ⟨e1, e2⟩ | ⟨v, r, e1, e2⟩
      · rw [e1]
        refine iteF ⟨⟨_, _, rfl⟩, s3.trans s5, fun j q hj hq => ?_⟩
        by_cases hj2 : j < i
        · exact hno j q hj2 hq
        · have : j = i := by omega
          subst this
          rw [hq0] at hq
          rw [← Option.some.inj hq]
          exact e2
      · rw [e2]
        refine iteT ?_
        have := pulls_ne hq0 e1
        have hq2 := q ok H5 (k1.same (s2.trans (s3.trans s5)))
        rw [this] at hq2
        exact hq2
    · rintro σ H' ⟨⟨x2, x3, rfl⟩, s3, hno⟩
      rw [List.length_map, g5.len] at hno
      have hq2 := q ok H' (k1.same (s2.trans s3))
      rw [pull_none hno] at hq2
      exact hq2
theorem ok_settle {f : Addr} {fd : FuncData} (F : FnT K "settle" sSettle f fd) (hm : mg "settle" = some (.ref f)) (cCheck : Cal P w K mg base (L2.CX P w) 4 "check_logs" (spCheck CC CN CI P1))
    (cFrom : Cal P w K mg base CX0 4 "settle_from" (spFrom CC CN)) : Cal P w K mg base (L2.CX P w) 5 "settle" (spAsk CC CN CI P1 (ansSettle P1)) := by
  refine calX F hm (fun _ _ _ _ _ _ us hl => match us, hl with | [_, _], _ => rfl) scSettle (fun vs H Q E h => ?_) (fun cdv A outer s H vs Q E hr h => ?_)
  · obtain ⟨c, a, ts, as, n, sz, links, L, rfl, _⟩ := h
    rfl
  · obtain ⟨c, a, ts, as, n, sz, links, L, rfl, hIn, q, qE⟩ := h
    refine ⟨_, pss_cons (ps_asg (pe_c cFrom hr (by decide) (by rfl) (pa_cons (pv 0) (pa_cons (pe_cX cCheck hr (by decide) (by rfl) (passes_call (E := E) (takes_of rfl rfl rfl rfl) (fun _ _ _ _ h => h)) (pa_cons (pv 0) (pa_cons (pv 1) pa_nil))) pa_nil)))
        (pg_tup rfl (pgs_cons (pg_name (i := 2) scSettle.nd rfl (.inl rfl)) (pgs_cons (pg_name (i := 3) scSettle.nd rfl (.inl rfl)) pgs_nil))))
      (pss_one (ps_ret (pv 2))), ?_⟩
    refine ⟨_, rfl, _, rfl, _, rfl, c, a, ts, as, n, sz, links, L, rfl, hIn.toIn, hIn.tab, fun ok H1 cp qs k1 lo nd => ?_, qE⟩
    refine ⟨c, cp, ts, qs, n, sz, links, L, rfl, hIn.cl.k1 hIn.tab k1, lo.imp fun _ _ => True.intro, hIn.w, ok, hIn.l100, fun H2 t tp cp2 ps qs2 tr C s2 ht hT hL hnd hrun hnil => ?_⟩
    refine ⟨t, _, rfl, SqT.of ht, rfl, _, _, rfl, _, _, rfl, rfl, _, rfl, ?_⟩
    exact q ok H2 tp ps tr C (k1.same s2) (hT.imp fun b hb => k1.1.dom b hb) hrun hnil
theorem ok_slogs {f : Addr} {fd : FuncData} (F : FnT K "settled_logs" sSLogs f fd) (hm : mg "settled_logs" = some (.ref f)) (cCheck : Cal P w K mg base (L2.CX P w) 4 "check_logs" (spCheck CC CN CI P1))
    (cFrom : Cal P w K mg base CX0 4 "settle_from" (spFrom CC CN)) : Cal P w K mg base (L2.CX P w) 5 "settled_logs" (spAsk CC CN CI P1 (ansLogs P1)) := by
  refine calX F hm (fun _ _ _ _ _ _ us hl => match us, hl with | [_, _], _ => rfl) scSLogs (fun vs H Q E h => ?_) (fun cdv A outer s H vs Q E hr h => ?_)
  · obtain ⟨c, a, ts, as, n, sz, links, L, rfl, _⟩ := h
    rfl
  · obtain ⟨c, a, ts, as, n, sz, links, L, rfl, hIn, q, qE⟩ := h
    refine ⟨_, pss_cons (ps_asg (pe_c cFrom hr (by decide) (by rfl) (pa_cons (pv 0) (pa_cons (pe_cX cCheck hr (by decide) (by rfl) (passes_call (E := E) (takes_of rfl rfl rfl rfl) (fun _ _ _ _ h => h)) (pa_cons (pv 0) (pa_cons (pv 1) pa_nil))) pa_nil)))
        (pg_tup rfl (pgs_cons (pg_name (i := 2) scSLogs.nd rfl (.inl rfl)) (pgs_cons (pg_name (i := 3) scSLogs.nd rfl (.inl rfl)) pgs_nil))))
      (pss_one (ps_ret (pv 3))), ?_⟩
    refine ⟨_, rfl, _, rfl, _, rfl, c, a, ts, as, n, sz, links, L, rfl, hIn.toIn, hIn.tab, fun ok H1 cp qs k1 lo nd => ?_, qE⟩
    refine ⟨c, cp, ts, qs, n, sz, links, L, rfl, hIn.cl.k1 hIn.tab k1, lo.imp fun _ _ => True.intro, hIn.w, ok, hIn.l100, fun H2 t tp cp2 ps qs2 tr C s2 ht hT hL hnd hrun hnil => ?_⟩
    refine ⟨t, _, rfl, SqT.of ht, rfl, _, _, rfl, _, _, rfl, rfl, _, rfl, ?_⟩
    exact q ok H2 cp2 qs2 tr C (k1.same s2) (hL.imp fun b hb => k1.1.dom b hb) hnd hrun hnil
end
end K8

set_option maxHeartbeats 4000000
namespace K8
open PySem PySem.Spec PyProof.Rows L2
/-! ### spread -/
def nv (l : List Nat) : List V := l.map fun k : Nat => V.int (k : Int)
theorem nv_len (l : List Nat) : (nv l).length = l.length := List.length_map ..
theorem nv_get {l : List Nat} {i : Nat} {x : V} (h : (nv l)[i]? = some x) : ∃ k, x = .int (k : Nat) ∧ l[i]? = some k := by
  unfold nv at h
  rw [List.getElem?_map] at h
  cases hi : l[i]? with
  | none => rw [hi] at h; cases h
  | some k =>
    rw [hi] at h
    exact ⟨k, (Option.some.inj h).symm, rfl⟩
theorem nat_len {n : Nat} {ks : List Nat} (h : ks.Nodup) (hb : ∀ k ∈ ks, k < n) : ks.length ≤ n := by
  have h1 : (ks.map Int.ofNat).Nodup := by
    rw [List.Nodup, List.pairwise_map]
    exact List.Pairwise.imp (fun {a b} h e => h (Int.ofNat.inj e)) h
  have := nodup_sub_len (ks.map Int.ofNat) (ents n) h1 fun x hx => by
    obtain ⟨k, hk, rfl⟩ := List.mem_map.mp hx
    exact mem_ents.mpr ⟨Int.natCast_nonneg k, by have := hb k hk; show (k : Int) < n; omega⟩
  unfold ents at this
  rwa [List.length_map, List.length_map, List.length_range] at this
abbrev kn (k : Nat) : Key := Sum.inl (k : Int)
theorem kn_inj {a b : Nat} (h : kn a = kn b) : a = b := by have := Sum.inl.inj h; omega
/-- a dict whose keys are these -/
structure KeysD (H : Hp) (d : Addr) (ks : List Nat) : Prop where
  ex : ∃ kvs : List (Key × V), H d = some (.dK kvs) ∧ kvs.map (·.1) = ks.map kn
theorem valV_keys {kvs : List (Key × V)} {ks : List Nat} (h : kvs.map (·.1) = ks.map kn) (k : Nat) : (valV kvs (kn k)).isSome = decide (k ∈ ks) := by
  rw [← valV_any]
  have e : (kvs.any fun kv => decide (kv.1 = kn k)) = ((kvs.map (·.1)).any fun q => decide (q = kn k)) := by rw [List.any_map]; rfl
  rw [e, h, List.any_map]
  by_cases hk : k ∈ ks
  · rw [decide_eq_true hk, List.any_eq_true]
    exact ⟨k, hk, decide_eq_true rfl⟩
  · rw [decide_eq_false hk, List.any_eq_false]
    intro x hx e
    exact hk (by rw [← kn_inj (of_decide_eq_true e)]; exact hx)
theorem keys_put {kvs : List (Key × V)} {ks : List Nat} (h : kvs.map (·.1) = ks.map kn) {k : Nat} (hk : k ∉ ks) (v : V) : (putK kvs (kn k) v).map (·.1) = (ks ++ [k]).map kn := by
  have e := valV_keys h k
  rw [decide_eq_false hk] at e
  rw [putK_new v (Option.not_isSome_iff_eq_none.mp (by rw [e]; decide)), List.map_append, h, List.map_append]
  rfl
theorem keys_len {kvs : List (Key × V)} {ks : List Nat} (h : kvs.map (·.1) = ks.map kn) : kvs.length = ks.length := by
  have := congrArg List.length h
  rwa [List.length_map, List.length_map] at this
/-- a dict of the rows of n replicas -/
structure RowsD (C : AP) (H : Hp) (d : Addr) (bs : List Addr) (n : Nat) (R : Nat → List Nat) : Prop where
  dd : ∃ kvs : List (Key × V), H d = some (.dK kvs) ∧ kvs.map (·.1) = (List.range n).map kn ∧ ∀ (i : Nat) (b : Addr), bs[i]? = some b → valV kvs (kn i) = some (.ref b)
  ln : bs.length = n
  row : ∀ (i : Nat) (b : Addr), bs[i]? = some b → C b ∧ H b = some (.lst (nv (R i)))
  nd : bs.Nodup
theorem RowsD.kp {C E : AP} {H H' : Hp} {d : Addr} {bs : List Addr} {n : Nat} {R : Nat → List Nat} (h : RowsD C H d bs n R) (k : Kp E H H') (n1 : ∀ b, C b → ¬ E b) (n2 : ¬ E d) : RowsD C H' d bs n R := by
  obtain ⟨kvs, h1, h2, h3⟩ := h.dd
  exact ⟨⟨kvs, k.keep _ _ h1 n2, h2, h3⟩, h.ln, fun i b e => ⟨(h.row i b e).1, k.keep _ _ (h.row i b e).2 (n1 _ (h.row i b e).1)⟩, h.nd⟩
theorem RowsD.same {C : AP} {H H' : Hp} {d : Addr} {bs : List Addr} {n : Nat} {R : Nat → List Nat} (h : RowsD C H d bs n R) (k : Same H H') : RowsD C H' d bs n R := by
  obtain ⟨kvs, h1, h2, h3⟩ := h.dd
  exact ⟨⟨kvs, k _ _ h1, h2, h3⟩, h.ln, fun i b e => ⟨(h.row i b e).1, k _ _ (h.row i b e).2⟩, h.nd⟩
theorem RowsD.imp {C C' : AP} {H : Hp} {d : Addr} {bs : List Addr} {n : Nat} {R : Nat → List Nat} (h : RowsD C H d bs n R) (k : ∀ b, C b → C' b) : RowsD C' H d bs n R := ⟨h.dd, h.ln, fun i b e => ⟨k _ (h.row i b e).1, (h.row i b e).2⟩, h.nd⟩
theorem mem_range_i {n i : Nat} {x : Nat} (h : (List.range n)[i]? = some x) : x = i ∧ i < n := by
  have h1 := (List.getElem?_eq_some_iff.mp h).1
  rw [List.length_range] at h1
  rw [List.getElem?_range h1] at h
  exact ⟨(Option.some.inj h).symm, h1⟩
/-- the readers at s of the first i links -/
def rdrs (links : Links) (s : Nat) : List Nat := (links.filter fun q => q.1 == s).map (·.2)
theorem rdrs_snoc {links : Links} {i : Nat} {q : Nat × Nat} (h : links[i]? = some q) (s : Nat) : rdrs (links.take (i + 1)) s = if s = q.1 then rdrs (links.take i) s ++ [q.2] else rdrs (links.take i) s := by
  rw [take_snoc h]
  unfold rdrs
  rw [List.filter_append, List.map_append]
  by_cases e : s = q.1
  · subst e
    rw [if_pos rfl]
    simp
  · have e2 : (q.1 == s) = false := beq_eq_false_iff_ne.mpr fun z => e z.symm
    rw [if_neg e]
    simp [e2]
theorem mem_rdrs {links : Links} {s r : Nat} : r ∈ rdrs links s ↔ (s, r) ∈ links := by
  unfold rdrs
  rw [List.mem_map]
  constructor
  · rintro ⟨q, hq, rfl⟩
    obtain ⟨h1, h2⟩ := List.mem_filter.mp hq
    have : q.1 = s := eq_of_beq h2
    rw [← this]
    exact h1
  · intro h
    exact ⟨(s, r), List.mem_filter.mpr ⟨h, beq_self_eq_true _⟩, rfl⟩
theorem rdrs_len (links : Links) (s : Nat) : (rdrs links s).length ≤ links.length := by
  unfold rdrs
  rw [List.length_map]
  exact List.length_filter_le _ _
theorem keys_nv {kvs : List (Key × V)} {ks : List Nat} (h : kvs.map (·.1) = ks.map kn) : (kvs.map fun kv => kV kv.1) = nv ks := by
  have e : (kvs.map fun kv => kV kv.1) = (kvs.map (·.1)).map kV := by rw [List.map_map]; rfl
  rw [e, h, List.map_map]
  rfl
theorem keys_int {kvs : List (Key × V)} {ks : List Nat} (h : kvs.map (·.1) = ks.map kn) : kvs.map (·.1) = (ks.map Int.ofNat).map Sum.inl := by
  rw [h, List.map_map]
  rfl
abbrev sSpread : Stmt := top 12
theorem scSpread : FnScope ["links", "starts", "allowed", "readers_of", "replica", "source", "reader", "reached", "waiting"] ["links", "starts", "allowed"] (defScope sSpread) := ⟨rfl, rfl, rfl, by decide +kernel, rfl, by decide +kernel, by decide +kernel⟩
def spSpread : Sp := fun vs H Q _ => ∃ (a b c : Addr) (ts : List Addr) (n : Nat) (links : Links) (st : List Nat), vs = [.ref a, .ref b, .ref c] ∧ LinksA ANY H a ts links ∧ H b = some (.lst (nv st)) ∧ H c = some (.lst (nv (List.range n))) ∧
  n ≤ 24 ∧ links.length ≤ 100 ∧ (∀ q ∈ links, q.1 < n ∧ q.2 < n) ∧ st.Nodup ∧ (∀ s ∈ st, s < n) ∧
  ∀ (H' : Hp) (p : Addr) (ys : List Int), Same H H' → H p = none → H' p = some (.lst (ys.map V.int)) → ys.Nodup → (∀ e, e ∈ ys ↔ ∃ r : Nat, e = (r : Int) ∧ r < n ∧ ∃ s ∈ st, Reach links s r) → Q (.ref p) H'
/-- what has been reached so far -/
structure SpI (links : Links) (n : Nat) (st ks ws : List Nat) : Prop where
  nd : ks.Nodup
  lt : ∀ k ∈ ks, k < n
  sub : ∀ k ∈ ws, k ∈ ks
  from_ : ∀ k ∈ ks, ∃ s ∈ st, Reach links s k
  st : ∀ s ∈ st, s ∈ ks
  len : ws.length ≤ ks.length
theorem SpI.add {links : Links} {n : Nat} {st ks ws : List Nat} (h : SpI links n st ks ws) {s r : Nat} (hs : s ∈ ks) (hl : (s, r) ∈ links) (hn : r < n) (hr : r ∉ ks) : SpI links n st (ks ++ [r]) (ws ++ [r]) := by
  refine ⟨List.nodup_append.mpr ⟨h.nd, List.nodup_cons.mpr ⟨List.not_mem_nil, List.nodup_nil⟩, fun x hx y hy e => ?_⟩, fun k hk => ?_, fun k hk => ?_, fun k hk => ?_, fun k hk => List.mem_append_left _ (h.st k hk), ?_⟩
  · rw [List.mem_singleton.mp hy] at e
    exact hr (e ▸ hx)
  · rcases List.mem_append.mp hk with hk | hk
    · exact h.lt k hk
    · rw [List.mem_singleton.mp hk]; exact hn
  · rcases List.mem_append.mp hk with hk | hk
    · exact List.mem_append_left _ (h.sub k hk)
    · exact List.mem_append_right _ hk
  · rcases List.mem_append.mp hk with hk | hk
    · exact h.from_ k hk
    · rw [List.mem_singleton.mp hk]
      obtain ⟨a, ha, hr⟩ := h.from_ s hs
      exact ⟨a, ha, .step hr hl⟩
  · rw [List.length_append, List.length_append]
    have := h.len
    simp only [List.length_singleton]
    omega
theorem mem_dropLast_or {l : List Nat} {x : Nat} (hx : l[l.length - 1]? = some x) {a : Nat} (h : a ∈ l) : a ∈ l.dropLast ∨ a = x := by
  have hne : l ≠ [] := fun z => by rw [z] at hx; simp at hx
  have h1 := List.dropLast_concat_getLast hne
  rw [← h1] at h
  rcases List.mem_append.mp h with h | h
  · exact .inl h
  · rw [List.mem_singleton.mp h]
    rw [List.getLast_eq_getElem]
    exact .inr (List.getElem?_eq_some_iff.mp hx).2
theorem reach_closed {links : Links} {ks : List Nat} (h : ∀ a b, (a, b) ∈ links → a ∈ ks → b ∈ ks) {s r : Nat} (hr : Reach links s r) (hs : s ∈ ks) : r ∈ ks := by
  induction hr with
  | refl => exact hs
  | step _ hl ih => exact h _ _ hl ih

section
variable {P : Program} {w : World} {K : PySem.W.Frag} {mg : Str → Option Value} {base : Heap}
theorem ok_spread {f : Addr} {fd : FuncData} (F : FnT K "spread" sSpread f fd) (hm : mg "spread" = some (.ref f)) (B : NB mg) : Cal P w K mg base CX0 1 "spread" spSpread := by
  refine cal0 F hm (fun _ _ _ _ _ _ us hl => match us, hl with | [_, _, _], _ => rfl) scSpread (fun vs H Q E h => ?_) (fun cdv A outer s H vs Q E hr h => ?_)
  · obtain ⟨a, b, c, ts, n, links, st, rfl, _⟩ := h
    rfl
  · obtain ⟨a, b, c, ts, n, links, st, rfl, hA, hb, hc, n24, hll, hbd, hsn, hsl, q⟩ := h
    have hu := hu_of hr
    refine ⟨_, pss_cons (ps_set (i := 3) scSpread.nd rfl (Or.inl rfl) pe_dnewK)
      (pss_cons (ps_for PassesOwn.never rfl (pi_list (pv 2)) (pg_name (i := 4) scSpread.nd rfl (.inl rfl)) (pss_one (ps_dput hu (pv 3) (pv 4) (pe_lst pa_nil) rfl)))
      (pss_cons (ps_for PassesOwn.never rfl (pi_list (pv 0)) (pg_tup rfl (pgs_cons (pg_name (i := 5) scSpread.nd rfl (.inl rfl)) (pgs_cons (pg_name (i := 6) scSpread.nd rfl (.inl rfl)) pgs_nil)))
        (pss_one (ps_if (PW.pt (pw_and (pt_cmp (pc_din hu (pv 5) (pv 3)) rfl) (pw_and1 (pt_cmp (pc_din hu (pv 6) (pv 3)) rfl))))
          (pss_one (ps_expr (pe_bm PySem.F.plainAttrs_list PySem.F.slot_list_append PySem.F.type_list_append mt_append (pe_dget hu (pv 3) (pv 5) (fun _ _ => rfl)) (pa_cons (pv 6) pa_nil)))) pss_nil)))
      (pss_cons (ps_set (i := 7) scSpread.nd rfl (Or.inl rfl) pe_dnewK)
      (pss_cons (ps_for PassesOwn.never rfl (pi_list (pv 1)) (pg_name (i := 4) scSpread.nd rfl (.inl rfl))
        (pss_one (ps_if (pt_cmp (pc_din hu (pv 4) (pv 3)) rfl) (pss_one (ps_dput hu (pv 7) (pv 4) pe_bl rfl)) pss_nil)))
      (pss_cons (ps_set (i := 8) scSpread.nd rfl (Or.inl rfl) (pe_callTy (T := "list") (call_list_dK rfl) (by rfl) B.lst (by decide +kernel) (pa_cons (pv 7) pa_nil)))
      (pss_cons (ps_while PassesOwn.never (pt_truth (pv 8) (by intro _; rfl))
        (pss_cons (ps_set (i := 5) scSpread.nd rfl (Or.inl rfl) (pe_bm0 PySem.F.plainAttrs_list PySem.F.slot_list_pop PySem.F.type_list_pop mt_pop (pv 8)))
        (pss_one (ps_for PassesOwn.never rfl (pi_list (pe_dget hu (pv 3) (pv 5) (fun _ _ => rfl))) (pg_name (i := 6) scSpread.nd rfl (.inl rfl))
          (pss_one (ps_if (pt_cmp (pc_dnotin hu (pv 6) (pv 7)) rfl)
            (pss_cons (ps_dput hu (pv 7) (pv 6) pe_bl rfl)
            (pss_one (ps_expr (pe_bm PySem.F.plainAttrs_list PySem.F.slot_list_append PySem.F.type_list_append mt_append (pv 8) (pa_cons (pv 6) pa_nil))))) pss_nil))))))
      (pss_one (ps_ret (pe_callB (call_sortedDI rfl) (by rfl) B.srt (by decide +kernel) (pa_cons (pv 7) pa_nil)))))))))), ?_⟩
    intro d hd
    have s1 : Same H (upd H d (.dK [])) := same_upd hd
    -- the rows' dict
    refine ⟨_, rfl, c, rfl, ⟨_, SqL.of (s1 _ _ hc)⟩, for_list (xs := nv (List.range n)) (fun i σ H' => (∃ x, σ = [some (.ref a), some (.ref b), some (.ref c), some (.ref d), x, none, none, none, none]) ∧ Same H H' ∧ ∃ bs, RowsD (NEW H) H' d bs i fun _ => [])
      ⟨⟨_, rfl⟩, s1, [], ⟨⟨[], upd_same, rfl, fun i b e => (by simp at e)⟩, rfl, fun i b e => (by simp at e), List.nodup_nil⟩⟩ (fun i σ H' _ h => SqL.of (h.2.1 _ _ hc)) ?_ ?_⟩
    · rintro i x σ H' hx ⟨⟨x4, rfl⟩, s2, bs, R⟩
      obtain ⟨k, rfl, hk⟩ := nv_get hx
      obtain ⟨rfl, hkn⟩ := mem_range_i hk
      obtain ⟨kvs, g1, g2, g3⟩ := R.dd
      refine ⟨Nat.zero_le _, fun l hl => ?_⟩
      have s3 : Same H' (upd H' l (.lst [])) := same_upd hl
      have hld : l ≠ d := ne_of_none g1 hl |>.symm
      refine ⟨_, rfl, _, rfl, d, _, rfl, DPut.k (k := kn k) (s3 _ _ g1) (small1000 (by rw [keys_len g2, List.length_range]; omega)), ?_⟩
      refine ⟨⟨_, rfl⟩, fun p o e => ?_, bs ++ [l], ⟨⟨_, upd_same, ?_, fun i b e => ?_⟩, by rw [List.length_append, R.ln]; rfl, fun i b e => ?_, ?_⟩⟩
      · rw [upd_ne (ne_of_none e hd)]
        exact s3 _ _ (s2 _ _ e)
      · rw [keys_put g2 (fun z => absurd (List.mem_range.mp z) (Nat.lt_irrefl _)), List.range_succ]
      · rw [valV_put]
        rcases snoc_get e with ⟨hi, e⟩ | ⟨hi, e⟩
        · rw [if_neg (fun z => by have := kn_inj z; rw [R.ln] at hi; omega)]
          exact g3 i b e
        · rw [R.ln] at hi
          rw [hi, if_pos rfl, e]
      · rcases snoc_get e with ⟨hi, e⟩ | ⟨hi, e⟩
        · obtain ⟨a1, a2⟩ := R.row i b e
          exact ⟨a1, by rw [upd_ne (ne_of a2 g1 (by intro z; cases z))]; exact s3 _ _ a2⟩
        · rw [e]
          exact ⟨s2.free hl, by rw [upd_ne hld, upd_same]; rfl⟩
      · refine List.nodup_append.mpr ⟨R.nd, List.nodup_cons.mpr ⟨List.not_mem_nil, List.nodup_nil⟩, fun x hx y hy e => ?_⟩
        rw [List.mem_singleton.mp hy] at e
        subst e
        obtain ⟨j, hj, ej⟩ := List.getElem_of_mem hx
        have := (R.row j x (by rw [List.getElem?_eq_getElem hj, ej])).2
        rw [hl] at this
        cases this
    rintro σ H2 ⟨⟨x4, rfl⟩, s2, bs, R⟩
    rw [nv_len, List.length_range] at R
    clear s1
    -- the readers
    refine ⟨_, rfl, a, rfl, ⟨_, SqL.of (s2 _ _ hA.at_)⟩, for_list (xs := ts.map V.ref) (fun i σ H' => (∃ x y, σ = [some (.ref a), some (.ref b), some (.ref c), some (.ref d), x4, x, y, none, none]) ∧ Same H H' ∧ RowsD (NEW H) H' d bs n (rdrs (links.take i)))
      ⟨⟨_, _, rfl⟩, s2, R⟩ (fun i σ H' _ h => SqL.of (h.2.1 _ _ hA.at_)) ?_ ?_⟩
    · rintro i x σ H' hx ⟨⟨x5, x6, rfl⟩, s3, R⟩
      obtain ⟨t, q0, rfl, hq0, _, ht⟩ := hA.get hx
      obtain ⟨b1, b2⟩ := hbd _ (List.mem_of_getElem? hq0)
      obtain ⟨kvs, g1, g2, g3⟩ := R.dd
      refine ⟨t, _, rfl, SqT.of (s3 _ _ ht), rfl, _, _, rfl, _, _, rfl, rfl, ?_⟩
      obtain ⟨r1, hr1⟩ : ∃ r1, bs[q0.1]? = some r1 := ⟨_, List.getElem?_eq_getElem (by rw [R.ln]; exact b1)⟩
      have e1 := valV_keys g2 q0.1
      rw [decide_eq_true (List.mem_range.mpr b1)] at e1
      have e2 := valV_keys g2 q0.2
      rw [decide_eq_true (List.mem_range.mpr b2)] at e2
      refine ⟨_, rfl, _, rfl, d, _, rfl, DGet.k (k := kn q0.1) g1, _, rfl, ?_⟩
      rw [e1]
      refine iteT ?_
      refine ⟨_, rfl, _, rfl, d, _, rfl, DGet.k (k := kn q0.2) g1, _, rfl, ?_⟩
      rw [e2]
      refine iteT ?_
      obtain ⟨a1, a2⟩ := R.row q0.1 r1 hr1
      have hg := DGet.k (k := kn q0.1) g1
      rw [g3 _ _ hr1] at hg
      refine ⟨_, rfl, _, rfl, d, _, rfl, hg, .inl ⟨rfl, _, SqL.of a2⟩, _, rfl, r1, _, _, rfl, rfl, a2, ?_, ?_⟩
      · rw [nv_len]
        have h1 := rdrs_len (links.take i) q0.1
        rw [List.length_take] at h1
        exact small1000 (by omega)
      · refine ⟨⟨_, _, rfl⟩, fun p o e => ?_, ⟨kvs, ?_, g2, g3⟩, R.ln, fun j r e => ?_, R.nd⟩
        · rw [upd_ne (ne_of_none e a1)]
          exact s3 _ _ e
        · rw [upd_ne (ne_of g1 a2 (by intro z; cases z))]
          exact g1
        · obtain ⟨c1, c2⟩ := R.row j r e
          refine ⟨c1, ?_⟩
          rw [rdrs_snoc hq0]
          by_cases hj : j = q0.1
          · subst hj
            rw [hr1] at e
            cases e
            rw [upd_same, if_pos rfl]
            unfold nv
            rw [List.map_append]
            rfl
          · have hne : r ≠ r1 := fun z => by
              subst z
              exact hj ((List.getElem?_inj (List.getElem?_eq_some_iff.mp e).1 R.nd).mp (e.trans hr1.symm))
            rw [upd_ne hne, if_neg hj]
            exact c2
    rintro σ H3 ⟨⟨x5, x6, rfl⟩, s3, R⟩
    rw [List.length_map, hA.len, List.take_length] at R
    intro d2 hd2
    have hdd2 : d ≠ d2 := by obtain ⟨kvs, g1, _⟩ := R.dd; exact ne_of_none g1 hd2
    -- the starts
    refine ⟨_, rfl, b, rfl, ⟨_, SqL.of (same_upd hd2 _ _ (s3 _ _ hb))⟩, for_list (xs := nv st) (fun i σ H' => (∃ x, σ = [some (.ref a), some (.ref b), some (.ref c), some (.ref d), x, x5, x6, some (.ref d2), none]) ∧ Same H3 H' ∧ KeysD H' d2 (st.take i))
      ⟨⟨_, rfl⟩, same_upd hd2, ⟨[], upd_same, rfl⟩⟩ (fun i σ H' _ h => SqL.of (h.2.1 _ _ (s3 _ _ hb))) ?_ ?_⟩
    · rintro i x σ H' hx ⟨⟨x4, rfl⟩, s4, hK⟩
      obtain ⟨k, rfl, hk⟩ := nv_get hx
      obtain ⟨kvs, g1, g2, g3⟩ := (R.same s4).dd
      have hkm : k ∈ st := List.mem_of_getElem? hk
      have hil := (List.getElem?_eq_some_iff.mp hk).1
      have e1 := valV_keys g2 k
      rw [decide_eq_true (List.mem_range.mpr (hsl _ hkm))] at e1
      refine ⟨_, rfl, _, rfl, d, _, rfl, DGet.k (k := kn k) g1, _, rfl, ?_⟩
      rw [e1]
      refine iteT ?_
      obtain ⟨kr, f1, f2⟩ := hK.ex
      have hnot : k ∉ st.take i := fun z => by
        obtain ⟨j, hj, ej⟩ := List.getElem_of_mem z
        rw [List.length_take] at hj
        rw [List.getElem_take] at ej
        have := (List.getElem?_inj (by omega) hsn).mp (((List.getElem?_eq_getElem (by omega : j < st.length)).trans (congrArg some ej)).trans hk.symm)
        omega
      have hsl2 : st.length ≤ n := nat_len hsn hsl
      refine ⟨_, rfl, _, rfl, d2, _, rfl, DPut.k (k := kn k) f1 (small1000 (by rw [keys_len f2, List.length_take]; omega)), ?_⟩
      refine ⟨⟨_, rfl⟩, fun p o e => ?_, ⟨_, upd_same, ?_⟩⟩
      · rw [upd_ne (ne_of_none e hd2)]
        exact s4 _ _ e
      · rw [keys_put f2 hnot, take_snoc hk]
    rintro σ H4 ⟨⟨x4', rfl⟩, s4, hK⟩
    rw [nv_len, List.take_length] at hK
    obtain ⟨kr, f1, f2⟩ := hK.ex
    -- what waits
    refine ⟨_, rfl, d2, kr, rfl, f1, fun wt hwt => ?_⟩
    rw [keys_nv f2]
    have R4 := R.same s4
    have s34 : Same H H4 := s3.trans s4
    have hwtH : H wt = none := s34.free hwt
    have hI0 : SpI links n st st st := ⟨hsn, hsl, fun _ h => h, fun k hk => ⟨k, hk, .refl k⟩, fun _ h => h, Nat.le_refl _⟩
    have hw2 : d2 ≠ wt := ne_of_none f1 hwt
    have hwd : d ≠ wt := by obtain ⟨kvs, g1, _⟩ := R4.dd; exact ne_of_none g1 hwt
    -- all is kept but d2, wt
    refine ⟨fun m σ H' => ∃ (ks ws : List Nat) (y z : Option V), σ = [some (.ref a), some (.ref b), some (.ref c), some (.ref d), x4', y, z, some (.ref d2), some (.ref wt)] ∧ Kp (fun b => b = d2 ∨ b = wt) H4 H' ∧ KeysD H' d2 ks ∧ H' wt = some (.lst (nv ws)) ∧ SpI links n st ks ws ∧
      (∀ a b, (a, b) ∈ links → a ∈ ks → a ∉ ws → b ∈ ks) ∧ m = 2 * (n - ks.length) + ws.length,
      ⟨_, st, st, _, _, rfl, kp_upd (.inr hwt), ⟨kr, by rw [upd_ne hw2]; exact f1, f2⟩, upd_same, hI0, fun a b _ h1 h2 => absurd h1 h2, rfl⟩, ?_⟩
    rintro m σ H5 ⟨ks, ws, y, z, rfl, k5, hK5, hw5, hI, hcl, rfl⟩
    refine ⟨_, rfl, _, .inl ⟨_, SqL.of hw5, rfl⟩, ?_⟩
    have hkn := nat_len hI.nd hI.lt
    have hE : ∀ b, NEW H4 b → True := fun _ _ => True.intro
    have rowE : ∀ b, (∃ o, H4 b = some o ∧ ∀ kvs, o ≠ .dK kvs) → ¬ (b = d2 ∨ b = wt) := by
      rintro b ⟨o, ho, hn⟩ (z | z)
      · rw [z, f1] at ho
        exact hn kr (Option.some.inj ho).symm
      · rw [z, hwt] at ho
        cases ho
    cases ws with
    | nil =>
      refine iteF ?_
      obtain ⟨k2, e1, e2⟩ := hK5.ex
      refine ⟨_, rfl, d2, k2, ks.map Int.ofNat, rfl, .inl e1, keys_int e2, by rw [List.length_map]; omega, fun ys p hp hs hpn => ?_⟩
      have kH : Same H (upd H5 p (.lst (ys.map V.int))) := fun b o e => by
        have h4 := s34 _ _ e
        have hb5 := k5.keep b o h4 fun z => by
          rcases z with z | z
          · subst z
            rw [s3.free hd2] at e
            cases e
          · subst z
            rw [hwtH] at e
            cases e
        rw [upd_ne (ne_of_none hb5 hpn)]
        exact hb5
      refine q _ p ys kH (s34.free (k5.dom _ hpn)) upd_same ?_ fun e => ?_
      · refine hp.nodup_iff.mpr ?_
        rw [List.Nodup, List.pairwise_map]
        exact List.Pairwise.imp (fun {a b} h e => h (Int.ofNat.inj e)) hI.nd
      · rw [hp.mem_iff, List.mem_map]
        constructor
        · rintro ⟨k, hk, rfl⟩
          exact ⟨k, rfl, hI.lt k hk, hI.from_ k hk⟩
        · rintro ⟨r, rfl, hrn, s0, hs0, hrc⟩
          exact ⟨r, reach_closed (fun a b hl ha => hcl a b hl ha List.not_mem_nil) hrc (hI.st s0 hs0), rfl⟩
    | cons w0 wr =>
      refine iteT ?_
      refine ⟨fun σ' H' => ∃ (ks' ws' : List Nat) (y z : Option V), σ' = [some (.ref a), some (.ref b), some (.ref c), some (.ref d), x4', y, z, some (.ref d2), some (.ref wt)] ∧ Kp (fun b => b = d2 ∨ b = wt) H4 H' ∧ KeysD H' d2 ks' ∧ H' wt = some (.lst (nv ws')) ∧ SpI links n st ks' ws' ∧
        (∀ a b, (a, b) ∈ links → a ∈ ks' → a ∉ ws' → b ∈ ks') ∧ 2 * (n - ks'.length) + ws'.length < 2 * (n - ks.length) + (w0 :: wr).length,
        fun σ' H' ⟨ks', ws', y, z, e1, e2, e3, e4, e5, e6, e7⟩ => ⟨_, e7, ks', ws', y, z, e1, e2, e3, e4, e5, e6, rfl⟩, ?_⟩
      generalize hws : w0 :: wr = ws at *
      have hlen : 0 < ws.length := by rw [← hws]; exact Nat.succ_pos _
      obtain ⟨s0, hs0⟩ : ∃ s0, ws[ws.length - 1]? = some s0 := ⟨_, List.getElem?_eq_getElem (by omega)⟩
      have hs0m : s0 ∈ ks := hI.sub _ (List.mem_of_getElem? hs0)
      have hs0n : s0 < n := hI.lt _ hs0m
      refine ⟨_, rfl, .inl ⟨rfl, _, SqL.of hw5⟩, wt, _, _, rfl, rfl, hw5, by rw [nv_len]; unfold nv; rw [List.getElem?_map, hs0]; rfl, ?_⟩
      have k6 : Kp (fun b => b = d2 ∨ b = wt) H4 (upd H5 wt (.lst (nv ws).dropLast)) := k5.trans (kp_upd (.inl (.inr rfl)))
      have hw6 : upd H5 wt (.lst (nv ws).dropLast) wt = some (.lst (nv ws.dropLast)) := by
        rw [upd_same]
        unfold nv
        rw [List.map_dropLast]
      have hK6 : KeysD (upd H5 wt (.lst (nv ws).dropLast)) d2 ks := by
        obtain ⟨k2, e1, e2⟩ := hK5.ex
        exact ⟨k2, by rw [upd_ne hw2]; exact e1, e2⟩
      generalize hH6 : upd H5 wt (.lst (nv ws).dropLast) = H6 at k6 hw6 hK6 ⊢
      have Rk : ∀ H', Kp (fun b => b = d2 ∨ b = wt) H4 H' → RowsD ANY H' d bs n (rdrs links) := fun H' k => by
        obtain ⟨kvs, g1, g2, g3⟩ := R4.dd
        refine ⟨⟨kvs, k.keep _ _ g1 (fun z => z.elim hdd2 hwd), g2, g3⟩, R4.ln, fun i b e => ⟨True.intro, k.keep _ _ (R4.row i b e).2 (rowE b ⟨_, (R4.row i b e).2, fun kvs z => (by cases z)⟩)⟩, R4.nd⟩
      obtain ⟨r1, hr1⟩ : ∃ r1, bs[s0]? = some r1 := ⟨_, List.getElem?_eq_getElem (by rw [R4.ln]; exact hs0n)⟩
      obtain ⟨kvs, g1, g2, g3⟩ := (Rk _ k6).dd
      have hg := DGet.k (k := kn s0) g1
      rw [g3 _ _ hr1] at hg
      refine ⟨_, rfl, _, rfl, d, _, rfl, hg, r1, rfl, ⟨_, SqL.of ((Rk _ k6).row s0 r1 hr1).2⟩, for_list (xs := nv (rdrs links s0)) (fun j σ H' => ∃ (ks' ws' : List Nat) (z : Option V), σ = [some (.ref a), some (.ref b), some (.ref c), some (.ref d), x4', some (.int (s0 : Nat)), z, some (.ref d2), some (.ref wt)] ∧ Kp (fun b => b = d2 ∨ b = wt) H4 H' ∧ KeysD H' d2 ks' ∧ H' wt = some (.lst (nv ws')) ∧
        SpI links n st ks' ws' ∧ s0 ∈ ks' ∧ (∀ a b, (a, b) ∈ links → a ∈ ks' → a ∉ ws' → a ≠ s0 → b ∈ ks') ∧ (∀ r ∈ (rdrs links s0).take j, r ∈ ks') ∧ 2 * (n - ks'.length) + ws'.length < 2 * (n - ks.length) + ws.length)
        ⟨ks, ws.dropLast, _, rfl, k6, hK6, hw6, ⟨hI.nd, hI.lt, fun k hk => hI.sub k ((List.dropLast_sublist _).mem hk), hI.from_, hI.st, by rw [List.length_dropLast]; have := hI.len; omega⟩, hs0m,
          fun a b hl ha hn hne => hcl a b hl ha fun z => (mem_dropLast_or hs0 z).elim hn hne, fun r hr => (by cases hr), by rw [List.length_dropLast]; omega⟩ (fun j σ H' _ h => ?_) ?_ ?_⟩
      · obtain ⟨_, _, _, _, k, _⟩ := h
        exact SqL.of ((Rk _ k).row s0 r1 hr1).2
      · rintro j x σ H7 hx ⟨ks', ws', z7, rfl, k7, hK7, hw7, hI7, hs7, hcl7, hp7, hm7⟩
        obtain ⟨r, rfl, hr0⟩ := nv_get hx
        have hrl : (s0, r) ∈ links := mem_rdrs.mp (List.mem_of_getElem? hr0)
        have hrn : r < n := (hbd _ hrl).2
        obtain ⟨k2, e1, e2⟩ := hK7.ex
        have ev := valV_keys e2 r
        have hkn7 := nat_len hI7.nd hI7.lt
        refine ⟨_, rfl, _, rfl, d2, _, rfl, DGet.k (k := kn r) e1, _, rfl, ?_⟩
        rw [ev]
        by_cases hrk : r ∈ ks'
        · rw [decide_eq_true hrk]
          refine iteF ⟨ks', ws', _, rfl, k7, hK7, hw7, hI7, hs7, hcl7, fun r' hr' => ?_, hm7⟩
          rw [take_snoc hr0] at hr'
          rcases List.mem_append.mp hr' with hr' | hr'
          · exact hp7 r' hr'
          · rw [List.mem_singleton.mp hr']; exact hrk
        · rw [decide_eq_false hrk]
          refine iteT ?_
          have hlt : ks'.length < n := by
            have := nat_len (hI7.add hs7 hrl hrn hrk).nd (hI7.add hs7 hrl hrn hrk).lt
            rw [List.length_append, List.length_singleton] at this
            omega
          refine ⟨_, rfl, _, rfl, d2, _, rfl, DPut.k (k := kn r) e1 (small1000 (by rw [keys_len e2]; omega)), ?_⟩
          have hw8 : upd H7 d2 (.dK (putK k2 (kn r) (.bl true))) wt = some (.lst (nv ws')) := by rw [upd_ne hw2.symm]; exact hw7
          refine ⟨_, rfl, .inl ⟨rfl, _, SqL.of hw8⟩, _, rfl, wt, _, _, rfl, rfl, hw8, small1000 (by rw [nv_len]; have := hI7.len; omega), ?_⟩
          refine ⟨ks' ++ [r], ws' ++ [r], _, rfl, k7.trans ((kp_upd (.inl (.inl rfl))).trans (kp_upd (.inl (.inr rfl)))), ⟨_, by rw [upd_ne hw2]; exact upd_same, keys_put e2 hrk _⟩, ?_, hI7.add hs7 hrl hrn hrk, List.mem_append_left _ hs7, fun a b hl ha hn hne => ?_, fun r' hr' => ?_, ?_⟩
          · rw [upd_same]
            unfold nv
            rw [List.map_append]
            rfl
          · rcases List.mem_append.mp ha with ha | ha
            · exact List.mem_append_left _ (hcl7 a b hl ha (fun z => hn (List.mem_append_left _ z)) hne)
            · exact absurd (List.mem_append_right _ ha) hn
          · rw [take_snoc hr0] at hr'
            rcases List.mem_append.mp hr' with hr' | hr'
            · exact List.mem_append_left _ (hp7 r' hr')
            · exact List.mem_append_right _ hr'
          · rw [List.length_append, List.length_append, List.length_singleton]
            omega
      · rintro σ H7 ⟨ks', ws', z7, rfl, k7, hK7, hw7, hI7, hs7, hcl7, hp7, hm7⟩
        rw [nv_len, List.take_length] at hp7
        refine ⟨ks', ws', _, _, rfl, k7, hK7, hw7, hI7, fun a b hl ha hn => ?_, hm7⟩
        by_cases hne : a = s0
        · exact hp7 b (mem_rdrs.mpr (by rw [← hne]; exact hl))
        · exact hcl7 a b hl ha hn hne
end
end K8

set_option maxHeartbeats 4000000
namespace K8
open PySem PySem.Spec PyProof.Rows L2
/-! ### places_of -/
abbrev sPlaces : Stmt := top 9
theorem scPlaces : FnScope ["logs", "places", "log", "index_of", "index", "entry"] ["logs"] (defScope sPlaces) := ⟨rfl, rfl, rfl, by decide +kernel, rfl, by decide +kernel, by decide +kernel⟩
/-- a dict with exactly these keys -/
def Holds (H : Hp) (d : Addr) (l : List Int) : Prop := ∃ kvs : List (Key × V), H d = some (.dK kvs) ∧ ∀ e : Int, (valV kvs (Sum.inl e)).isSome = decide (e ∈ l)
theorem Holds.same {H H' : Hp} {d : Addr} {l : List Int} (h : Holds H d l) (s : Same H H') : Holds H' d l := by
  obtain ⟨kvs, h1, h2⟩ := h
  exact ⟨kvs, s _ _ h1, h2⟩
structure PlacesA (H : Hp) (p : Addr) (ds : List Addr) (L : Logs) : Prop where
  at_ : H p = some (.lst (ds.map V.ref))
  len : ds.length = L.length
  row : ∀ (i : Nat) (d : Addr) (l : List Int), ds[i]? = some d → L[i]? = some l → Holds H d l
theorem PlacesA.same {H H' : Hp} {p : Addr} {ds : List Addr} {L : Logs} (h : PlacesA H p ds L) (s : Same H H') : PlacesA H' p ds L := ⟨s _ _ h.at_, h.len, fun i d l e1 e2 => (h.row i d l e1 e2).same s⟩
def spPlaces : Sp := fun vs H Q _ => ∃ (a : Addr) (as : List Addr) (L : Logs), vs = [.ref a] ∧ LogsA ANY H a as L ∧ L.length ≤ 1000 ∧ (∀ l ∈ L, l.length ≤ 900) ∧
  ∀ (H' : Hp) (p : Addr) (ds : List Addr), Same H H' → PlacesA H' p ds L → Q (.ref p) H'
section
variable {P : Program} {w : World} {K : PySem.W.Frag} {mg : Str → Option Value} {base : Heap}
theorem ok_places {f : Addr} {fd : FuncData} (F : FnT K "places_of" sPlaces f fd) (hm : mg "places_of" = some (.ref f)) (B : NB mg) : Cal P w K mg base CX0 1 "places_of" spPlaces := by
  refine cal0 F hm (fun _ _ _ _ _ _ us hl => match us, hl with | [_], _ => rfl) scPlaces (fun vs H Q E h => ?_) (fun cdv A outer s H vs Q E hr h => ?_)
  · obtain ⟨a, as, L, rfl, _⟩ := h
    rfl
  · obtain ⟨a, as, L, rfl, hA, hn, hl, q⟩ := h
    have hu := hu_of hr
    refine ⟨_, pss_cons (ps_set (i := 1) scPlaces.nd rfl (Or.inl rfl) (pe_lst pa_nil))
      (pss_cons (ps_for PassesOwn.never rfl (pi_list (pv 0)) (pg_name (i := 2) scPlaces.nd rfl (.inl rfl))
        (pss_cons (ps_set (i := 3) scPlaces.nd rfl (Or.inl rfl) pe_dnewK)
        (pss_cons (ps_for PassesOwn.never rfl (pi_enum (by rfl) B.enu (pa_cons (pv 2) pa_nil)) (pg_tup rfl (pgs_cons (pg_name (i := 4) scPlaces.nd rfl (.inl rfl)) (pgs_cons (pg_name (i := 5) scPlaces.nd rfl (.inl rfl)) pgs_nil)))
          (pss_one (ps_dput hu (pv 3) (pv 5) (pv 4) rfl)))
        (pss_one (ps_expr (pe_bm PySem.F.plainAttrs_list PySem.F.slot_list_append PySem.F.type_list_append mt_append (pv 1) (pa_cons (pv 3) pa_nil)))))))
      (pss_one (ps_ret (pv 1)))), ?_⟩
    refine ⟨Nat.zero_le _, fun p hp => ?_⟩
    have s1 : Same H (upd H p (.lst [])) := same_upd hp
    refine ⟨_, rfl, a, rfl, ⟨_, SqL.of (s1 _ _ hA.at_)⟩, for_list (xs := as.map V.ref) (fun i σ H' => (∃ x y z t, σ = [some (.ref a), some (.ref p), x, y, z, t]) ∧ Same H H' ∧ ∃ ds, PlacesA H' p ds (L.take i))
      ⟨⟨_, _, _, _, rfl⟩, s1, [], ⟨upd_same, rfl, fun i d l h => (by simp at h)⟩⟩ (fun i σ H' _ h => SqL.of (h.2.1 _ _ hA.at_)) ?_ ?_⟩
    · rintro i x σ H1 hx ⟨⟨x2, x3, x4, x5, rfl⟩, s2, ds, hP⟩
      obtain ⟨r, rfl, hr⟩ := refs_get hx
      have hi : i < L.length := by rw [← hA.len]; exact (List.getElem?_eq_some_iff.mp hr).1
      have hrow := hA.row i r _ hr (List.getElem?_eq_getElem hi)
      have hrl : L[i].length ≤ 900 := hl _ (List.getElem_mem hi)
      have hdl : ds.length = i := by rw [hP.len, List.length_take]; omega
      intro d hd
      have s3 : Same H1 (upd H1 d (.dK [])) := same_upd hd
      have hdp : d ≠ p := fun z => by rw [z, hP.at_] at hd; cases hd
      refine ⟨_, rfl, r, _, rfl, SqL.of (s3 _ _ (s2 _ _ hrow.2)), for_it (walk_enum (K := K) (a := r) (xs := L[i].map V.int)) (fun j σ H' => (∃ z t, σ = [some (.ref a), some (.ref p), some (.ref r), some (.ref d), z, t]) ∧ Same H1 H' ∧ ∃ kvs, H' d = some (.dK kvs) ∧ kvs.length ≤ j ∧ ∀ e : Int, (valV kvs (Sum.inl e)).isSome = decide (e ∈ L[i].take j))
        ⟨⟨_, _, rfl⟩, s3, [], upd_same, Nat.le_refl _, fun e => by rw [decide_eq_false (by simp)]; rfl⟩ (fun j σ H' _ h => SqL.of (h.2.1 _ _ (s2 _ _ hrow.2))) ?_ ?_⟩
      · rintro j x σ H2 H3 hj ⟨⟨z, t, rfl⟩, s4, kvs, hk, hkl, hke⟩ ⟨Tp, u1, u2, rfl, nT, rfl, e1, e2⟩
        have e1' : V.int (j : Nat) = u1 := Option.some.inj e1
        subst e1'
        obtain ⟨v, rfl, hv⟩ := ints_get e2
        have sT : Same H2 (upd H2 Tp (.tup [.int (j : Nat), .int v])) := same_upd nT
        have hj2 := (List.getElem?_eq_some_iff.mp hv).1
        refine ⟨Tp, [.int (j : Nat), .int v], rfl, .inl (.inl upd_same), rfl, .int (j : Nat), [.int v], rfl, .int v, [], rfl, rfl, ?_⟩
        refine ⟨_, rfl, _, rfl, _, rfl, d, _, rfl, DPut.k (k := Sum.inl v) (sT _ _ hk) (small1000 (by omega)), ?_⟩
        refine ⟨⟨_, _, rfl⟩, fun b o e => ?_, _, upd_same, ?_, fun e => ?_⟩
        · rw [upd_ne (ne_of_none e hd)]
          exact sT _ _ (s4 _ _ e)
        · have := length_putK kvs (Sum.inl v) (V.int (j : Nat))
          omega
        · rw [valV_put, take_snoc hv]
          by_cases hev : e = v
          · subst hev
            rw [if_pos rfl, decide_eq_true (List.mem_append_right _ (List.mem_singleton.mpr rfl))]
            rfl
          · rw [if_neg (fun z => hev (Sum.inl.inj z)), hke]
            refine decide_eq_decide.mpr ?_
            rw [List.mem_append, List.mem_singleton]
            exact ⟨.inl, fun z => z.elim id fun z => absurd z hev⟩
      · rintro σ H2 ⟨⟨z, t, rfl⟩, s4, kvs, hk, hkl, hke⟩
        rw [List.length_map, List.take_length] at hke
        have hp2 := s4 _ _ hP.at_
        refine ⟨_, rfl, .inl ⟨rfl, _, SqL.of hp2⟩, _, rfl, p, _, _, rfl, rfl, hp2, small1000 (by rw [List.length_map]; omega), ?_⟩
        have keepD : ∀ d' l, Holds H2 d' l → Holds (upd H2 p (.lst (ds.map V.ref ++ [.ref d]))) d' l := fun d' l ⟨kv, g1, g2⟩ => ⟨kv, by rw [upd_ne (ne_of g1 hp2 (by intro z; cases z))]; exact g1, g2⟩
        refine ⟨⟨_, _, _, _, rfl⟩, fun b o e => ?_, ds ++ [d], ⟨by rw [upd_same, List.map_append]; rfl, ?_, fun j d' l h1 h2 => ?_⟩⟩
        · rw [upd_ne (ne_of_none e hp)]
          exact s4 _ _ (s2 _ _ e)
        · rw [take_snoc (List.getElem?_eq_getElem hi), List.length_append, List.length_append, hP.len]
          rfl
        · rw [take_snoc (List.getElem?_eq_getElem hi)] at h2
          rcases snoc_get h1 with ⟨hj, h1⟩ | ⟨hj, h1⟩
          · rcases snoc_get h2 with ⟨hj2, h2⟩ | ⟨hj2, h2⟩
            · exact keepD _ _ ((hP.row j d' l h1 h2).same s4)
            · rw [hP.len] at hj; omega
          · rcases snoc_get h2 with ⟨hj2, h2⟩ | ⟨hj2, h2⟩
            · rw [hP.len] at hj; omega
            · rw [h1, h2]
              exact keepD _ _ ⟨kvs, hk, hke⟩
    · rintro σ H1 ⟨⟨x2, x3, x4, x5, rfl⟩, s2, ds, hP⟩
      rw [List.length_map, hA.len, List.take_length] at hP
      exact ⟨_, rfl, q H1 p ds s2 hP⟩
end
end K8

set_option maxHeartbeats 4000000
namespace K8
open PySem PySem.Spec PyProof.Rows L2
/-! ### counting twice -/
theorem sum_add {β : Type} (f g : β → Nat) : ∀ B : List β, (B.map fun b => f b + g b).sum = (B.map f).sum + (B.map g).sum
  | [] => rfl
  | b :: B => by
    have := sum_add f g B
    simp only [List.map_cons, List.sum_cons]
    omega
theorem sum_ind {β : Type} (p : β → Bool) : ∀ B : List β, (B.map fun b => if p b = true then 1 else 0).sum = (B.filter p).length
  | [] => rfl
  | b :: B => by
    have := sum_ind p B
    rw [List.map_cons, List.sum_cons, this, List.filter_cons]
    cases p b
    · simp
    · simp; omega
theorem sum_swap {α β : Type} (B : List β) (p : α → β → Bool) : ∀ A : List α, (A.map fun a => (B.filter (p a)).length).sum = (B.map fun b => (A.filter fun a => p a b).length).sum
  | [] => by
    have : (B.map fun b => (([] : List α).filter fun a => p a b).length) = B.map fun _ => 0 := rfl
    rw [this]
    clear this
    induction B with
    | nil => rfl
    | cons b B ih =>
      rw [List.map_cons, List.sum_cons, ← ih]
      rfl
  | a :: A => by
    have ih := sum_swap B p A
    rw [List.map_cons, List.sum_cons, ih, ← sum_ind (p a) B, ← sum_add]
    congr 1
    refine List.map_congr_left fun b _ => ?_
    rw [List.filter_cons]
    cases p a b
    · simp
    · simp; omega
theorem len_of_mem {α : Type} {l m : List α} (h1 : l.Nodup) (h2 : m.Nodup) (h : ∀ x, x ∈ l ↔ x ∈ m) : l.length = m.length := ((List.perm_ext_iff_of_nodup h1 h2).mpr h).length_eq
theorem nodup_ofNat {l : List Nat} (h : l.Nodup) : (l.map Int.ofNat).Nodup := by
  rw [List.Nodup, List.pairwise_map]
  exact List.Pairwise.imp (fun {a b} h e => h (Int.ofNat.inj e)) h
open Classical in
noncomputable def cCl (n : Nat) (links : Links) (L : Logs) (e : Nat) : Nat := ((List.range n).filter fun r => decide (Comes links L r (e : Int))).length
def hold (n : Nat) (L : Logs) (e : Nat) : List Nat := (List.range n).filter fun r => decide ((e : Int) ∈ lg L r)
theorem mem_hold {n : Nat} {L : Logs} {e r : Nat} : r ∈ hold n L e ↔ r < n ∧ (e : Int) ∈ lg L r := by
  unfold hold
  rw [List.mem_filter, List.mem_range, decide_eq_true_iff]
theorem nodup_hold (n : Nat) (L : Logs) (e : Nat) : (hold n L e).Nodup := List.nodup_range.filter _
theorem sum_hold {n sz : Nat} {L : Logs} (ok : okLogs n sz L) : ((List.range sz).map fun e => (hold n L e).length).sum = sumlen L := by
  unfold hold
  rw [sum_swap (List.range n) (fun (e : Nat) (r : Nat) => decide ((e : Int) ∈ lg L r)) (List.range sz)]
  unfold sumlen
  rw [lens_map ok.1]
  congr 1
  refine List.map_congr_left fun r _ => ?_
  have o := ok_lg ok r
  rw [← List.length_map (f := Int.ofNat)]
  refine len_of_mem (nodup_ofNat (List.nodup_range.filter _)) o.1 fun x => ?_
  rw [List.mem_map]
  constructor
  · rintro ⟨k, hk, rfl⟩
    exact of_decide_eq_true (List.mem_filter.mp hk).2
  · intro hx
    obtain ⟨h0, h1⟩ := o.2 x hx
    refine ⟨x.toNat, List.mem_filter.mpr ⟨List.mem_range.mpr (by omega), decide_eq_true ?_⟩, ?_⟩
    · rw [show ((x.toNat : Nat) : Int) = x by omega]
      exact hx
    · show ((x.toNat : Nat) : Int) = x
      omega
open Classical in
theorem sum_cCl (n sz : Nat) (links : Links) (L : Logs) : ((List.range sz).map fun e => cCl n links L e).sum = sumlen (closedL n sz links L) := by
  unfold cCl
  rw [sum_swap (List.range n) (fun (e : Nat) (r : Nat) => decide (Comes links L r (e : Int))) (List.range sz)]
  unfold sumlen
  rw [closed_lens]
  congr 1
  refine List.map_congr_left fun r _ => ?_
  unfold closed1 ents
  rw [List.filter_map, List.length_map]
  rfl
theorem sum_sub (f g : Nat → Nat) : ∀ l : List Nat, (l.map fun e => (f e : Int) - (g e : Int)).sum = ((l.map f).sum : Int) - ((l.map g).sum : Int)
  | [] => rfl
  | x :: l => by
    have := sum_sub f g l
    simp only [List.map_cons, List.sum_cons]
    rw [this]
    omega
theorem spread_len {n : Nat} {links : Links} {L : Logs} {e : Nat} (hn : L.length = n) {ys : List Int} (h1 : ys.Nodup) (h2 : ∀ x, x ∈ ys ↔ ∃ r : Nat, x = (r : Int) ∧ r < n ∧ ∃ s ∈ hold n L e, Reach links s r) : ys.length = cCl n links L e := by
  classical
  unfold cCl
  rw [← List.length_map (f := Int.ofNat)]
  refine len_of_mem h1 (nodup_ofNat (List.nodup_range.filter _)) fun x => ?_
  rw [h2, List.mem_map]
  constructor
  · rintro ⟨r, rfl, hr, s, hs, hR⟩
    exact ⟨r, List.mem_filter.mpr ⟨List.mem_range.mpr hr, decide_eq_true ⟨s, hR, (mem_hold.mp hs).2⟩⟩, rfl⟩
  · rintro ⟨r, hr, rfl⟩
    obtain ⟨h3, h4⟩ := List.mem_filter.mp hr
    obtain ⟨s, hR, he⟩ := of_decide_eq_true h4
    refine ⟨r, rfl, List.mem_range.mp h3, s, mem_hold.mpr ⟨?_, he⟩, hR⟩
    apply Classical.byContradiction
    intro hs
    rw [lg_out (by omega)] at he
    cases he
/-! ### pulls_left -/
abbrev sLeft : Stmt := top 22
theorem scLeft : FnScope ["cluster", "logs", "places", "links", "replicas", "pulls", "entry", "holders", "replica"] ["cluster", "logs"] (defScope sLeft) := ⟨rfl, rfl, rfl, by decide +kernel, rfl, by decide +kernel, by decide +kernel⟩
noncomputable def leftOf (n sz : Nat) (links : Links) (L : Logs) : Int := (sumlen (closedL n sz links L) : Int) - (sumlen L : Int)
def ansLeft (P1 : Addr) (H : Hp) (n sz : Nat) (links : Links) (L : Logs) (Q : VK) : Prop := ∀ H', K1 P1 H H' → Q (.int (leftOf n sz links L)) H'
theorem rgV_nv (n : Nat) : rgV 0 (n : Int) = nv (List.range n) := by
  unfold rgV nv
  rw [Int.sub_zero]
  refine List.map_congr_left fun i _ => ?_
  rw [Int.zero_add]
section
variable {P : Program} {w : World} {K : PySem.W.Frag} {mg : Str → Option Value} {base : Heap} {CC CN CI P1 : Addr}
theorem ok_left {f : Addr} {fd : FuncData} (F : FnT K "pulls_left" sLeft f fd) (hm : mg "pulls_left" = some (.ref f)) (B : NB mg) (T : TxC K CC CN) (G : GetL P w K mg base CN)
    (cCheck : Cal P w K mg base (L2.CX P w) 4 "check_logs" (spCheck CC CN CI P1)) (cPlaces : Cal P w K mg base CX0 1 "places_of" spPlaces) (cSpread : Cal P w K mg base CX0 1 "spread" spSpread) : Cal P w K mg base (L2.CX P w) 5 "pulls_left" (spAsk CC CN CI P1 (ansLeft P1)) := by
  refine calX F hm (fun _ _ _ _ _ _ us hl => match us, hl with | [_, _], _ => rfl) scLeft (fun vs H Q E h => ?_) (fun cdv A outer s H vs Q E hr h => ?_)
  · obtain ⟨c, a, ts, as, n, sz, links, L, rfl, _⟩ := h
    rfl
  · obtain ⟨c, a, ts, as, n, sz, links, L, rfl, hIn, q, qE⟩ := h
    have W := hIn.w
    have hu := hu_of hr
    refine ⟨_, pss_cons (ps_set (i := 2) scLeft.nd rfl (Or.inr rfl) (pe_c cPlaces hr (by decide) (by rfl) (pa_cons (pe_cX cCheck hr (by decide) (by rfl) (passes_call (E := E) (takes_of rfl rfl rfl rfl) (fun _ _ _ _ h => h)) (pa_cons (pv 0) (pa_cons (pv 1) pa_nil))) pa_nil)))
      (pss_cons (ps_set (i := 3) scLeft.nd rfl (Or.inl rfl) (pe_links G T.clN hr (by decide) (pe_fld (pv 0) rfl) rfl))
      (pss_cons (ps_set (i := 4) scLeft.nd rfl (Or.inl rfl) (pe_listRg rfl (by rfl) B.lst (prg_1 (by rfl) B.rng (pe_fld (pe_fld (pv 0) rfl) rfl))))
      (pss_cons (ps_set (i := 5) scLeft.nd rfl (Or.inl rfl) pe_int)
      (pss_cons (ps_for (passes_of rfl) rfl (pi_range1 (by rfl) B.rng (pa_cons (pe_fld (pv 0) rfl) pa_nil)) (pg_name (i := 6) scLeft.nd rfl (.inr rfl))
        (pss_cons (ps_setLc (i := 7) (own := [("replica", 8)]) (g := gName 8) rfl scLeft.nd rfl rfl (sw_true rfl rfl rfl (by decide +kernel)) (pi_list (pv 4)) (blkOk_by (own := [("replica", 8)]) (N := ["cluster", "logs", "places", "links", "replicas", "pulls", "entry", "holders", "replica"]) (sc := defScope sLeft) (by decide +kernel))
          (fun _ _ _ _ _ => pg_name (i := 8) scLeft.nd rfl (Or.inl rfl)) (fun _ _ _ _ _ => pts_one (pt_cmp (pc_din (by exact hu) (pv 6) (pe_ix (r := rIxL K) ix_list (pv 2) (pv 8) (fun _ _ => rfl))) rfl)) (fun _ _ _ _ _ => pv 8))
        (pss_one (ps_set (i := 5) scLeft.nd rfl (Or.inl rfl) (pe_op op_sub (pe_op op_add (pv 5) (pe_callB call_len_seq (by rfl) B.len PySem.boot_len (pa_cons (pe_c cSpread hr (by decide) (by rfl) (pa_cons (pv 3) (pa_cons (pv 7) (pa_cons (pv 4) pa_nil)))) pa_nil)))
          (pe_callB call_len_seq (by rfl) B.len PySem.boot_len (pa_cons (pv 7) pa_nil)))))))
      (pss_one (ps_ret (pv 5))))))), ?_⟩
    refine ⟨_, rfl, _, rfl, c, a, ts, as, n, sz, links, L, rfl, hIn.toIn, hIn.tab, fun ok H1 cp qs k1 lo nd => ?_, qE⟩
    have lo1 : LogsA ANY H1 cp qs L := lo.imp fun _ _ => True.intro
    have hn24 := W.n24
    have hz60 := W.z60
    refine ⟨cp, qs, L, rfl, lo1, by rw [ok.1]; omega, fun l hl => by have := row_len (ok.2 l hl); omega, fun H2 pp ds s2 hP => ?_⟩
    have k2 := k1.same s2
    have hC2 := hIn.cl.k1 hIn.tab k2
    obtain ⟨dx, fs, na, h1, h2, h3, h4⟩ := hC2.ob
    obtain ⟨dx2, fs2, ll, g1, g2, g3, g4⟩ := h4.ob
    refine ⟨_, rfl, c, CC, dx, fs, _, rfl, h1, T.clC, T.cNet, h3, na, dx2, fs2, rfl, g1, na, ts, n, links, rfl, h4, fun lp hlp => ?_⟩
    have s3 : Same H2 (upd H2 lp (.lst (ts.map V.ref))) := same_upd hlp
    have g5 : LinksA ANY (upd H2 lp (.lst (ts.map V.ref))) lp ts links := ⟨True.intro, upd_same, g4.len, fun i t p e1 e2 => ⟨True.intro, s3 _ _ (g4.row i t p e1 e2).2⟩⟩
    refine ⟨_, rfl, c, CC, dx, fs, _, rfl, s3 _ _ h1, T.clC, T.cNet, h3, na, CN, dx2, fs2, _, rfl, s3 _ _ g1, T.clN, T.nCount, g2, _, rfl, RgOk.of_le (by omega) (by omega) (by omega) (by omega), fun rp hrp => ?_⟩
    rw [rgV_nv]
    have s4 : Same (upd H2 lp (.lst (ts.map V.ref))) (upd (upd H2 lp (.lst (ts.map V.ref))) rp (.lst (nv (List.range n)))) := same_upd hrp
    generalize hH3 : upd H2 lp (.lst (ts.map V.ref)) = H3 at *
    generalize hH4 : upd H3 rp (.lst (nv (List.range n))) = H4 at *
    have hr4 : H4 rp = some (.lst (nv (List.range n))) := by rw [← hH4]; exact upd_same
    have s24 : Same H2 H4 := s3.trans s4
    have P4 := hP.same s24
    have L4 := g5.same s4
    refine ⟨_, rfl, c, CC, dx, fs, _, rfl, s4 _ _ (s3 _ _ h1), T.clC, T.cSize, h2, sz, rfl, by omega, by omega, ?_⟩
    refine for_range (lo := 0) (n := ((sz : Nat) : Int).toNat) (fun i σ H' => (∃ x y z, σ = [some (.ref c), some (.ref a), some (.ref pp), some (.ref lp), some (.ref rp), some (.int (((List.range i).map fun e => (cCl n links L e : Int) - ((hold n L e).length : Int)).sum)), x, y, z]) ∧ Same H4 H')
      ⟨⟨_, _, _, rfl⟩, fun b o e => e⟩ ?_ ?_
    · rintro i σ H' hi ⟨⟨x6, x7, x8, rfl⟩, s5⟩
      rw [Int.zero_add]
      refine ⟨_, rfl, rp, rfl, ⟨_, SqL.of (s5 _ _ hr4)⟩, fun D hD => ?_⟩
      have hD4 : H4 D = none := s5.free hD
      refine lc_list (K := K) (a := rp) (xs := nv (List.range n)) (fun j H'' => Same H' H'' ∧ H'' D = some (.lst (nv ((List.range j).filter fun r => decide ((i : Int) ∈ lg L r)))))
        ⟨same_upd hD, upd_same⟩ (fun j H'' _ h => SqL.of (h.1 _ _ (s5 _ _ hr4))) ?_ ?_
      · rintro j x H'' hx ⟨s6, hD6⟩
        obtain ⟨r, rfl, hr0⟩ := nv_get hx
        obtain ⟨rfl, hrn⟩ := mem_range_i hr0
        have hrl : r < ds.length := by rw [hP.len, ok.1]; exact hrn
        obtain ⟨kvs, f1, f2⟩ := ((P4.same s5).same s6).row r ds[r] (lg L r) (List.getElem?_eq_getElem hrl) (by
          unfold lg
          rw [List.getD_eq_getElem?_getD, List.getElem?_eq_getElem (by rw [ok.1]; exact hrn)]
          rfl)
        refine ⟨rfl, _, rfl, _, rfl, _, rfl, pp, _, _, _, rfl, rfl, SqL.of ((P4.same s5).same s6).at_, atI_nat (j := r) (v := V.ref ds[r]) (by rw [List.getElem?_map, List.getElem?_eq_getElem hrl]; rfl), ds[r], _, rfl, DGet.k (k := Sum.inl (i : Int)) f1, _, rfl, ?_⟩
        rw [f2]
        have el : (List.range (r + 1)).filter (fun r => decide ((i : Int) ∈ lg L r)) = if decide ((i : Int) ∈ lg L r) = true then (List.range r).filter (fun r => decide ((i : Int) ∈ lg L r)) ++ [r] else (List.range r).filter (fun r => decide ((i : Int) ∈ lg L r)) := by
          rw [List.range_succ, List.filter_append, List.filter_cons]
          cases decide ((i : Int) ∈ lg L r) <;> simp
        refine ite2 (fun e => ?_) (fun e => ?_)
        · rw [if_pos e] at el
          refine ⟨_, rfl, _, hD6, ?_, fun b o e2 => ?_, ?_⟩
          · rw [nv_len]
            have h1 := List.length_filter_le (fun r => decide ((i : Int) ∈ lg L r)) (List.range r)
            rw [List.length_range] at h1
            exact small1000 (by omega)
          · rw [upd_ne (ne_of_none e2 hD)]
            exact s6 _ _ e2
          · rw [upd_same, el]
            unfold nv
            rw [List.map_append]
            rfl
        · rw [if_neg e] at el
          exact ⟨s6, by rw [el]; exact hD6⟩
      · rintro H'' ⟨s6, hD6⟩
        rw [nv_len, List.length_range] at hD6
        have hD7 : H'' D = some (.lst (nv (hold n L i))) := hD6
        refine ⟨_, rfl, _, rfl, _, rfl, _, rfl, lp, D, rp, ts, n, links, hold n L i, rfl, (L4.same s5).same s6, hD7, s6 _ _ (s5 _ _ hr4), hn24, hIn.l100, fun q hq => ⟨(W.bd q hq).1, (W.bd q hq).2.1⟩, nodup_hold n L i, fun s hs => (mem_hold.mp hs).1, fun H5 p ys s7 hp0 hp hnd hmem => ?_⟩
        refine ⟨p, _, rfl, .inl (SqL.of hp), _, _, rfl, rfl, _, rfl, D, _, rfl, .inl (SqL.of (s7 _ _ hD7)), _, _, rfl, rfl, ?_⟩
        have e : ((List.range i).map fun e => (cCl n links L e : Int) - ((hold n L e).length : Int)).sum + ((ys.map V.int).length : Int) - ((nv (hold n L i)).length : Int) = ((List.range (i + 1)).map fun e => (cCl n links L e : Int) - ((hold n L e).length : Int)).sum := by
          rw [List.range_succ, List.map_append, List.sum_append, List.length_map, nv_len, spread_len ok.1 hnd hmem]
          simp only [List.map_cons, List.map_nil, List.sum_cons, List.sum_nil]
          omega
        exact ⟨⟨some (.int (i : Nat)), some (.ref D), x8, congrArg (fun z => [some (V.ref c), some (V.ref a), some (V.ref pp), some (V.ref lp), some (V.ref rp), some (V.int z), some (V.int (i : Nat)), some (V.ref D), x8]) e⟩, s5.trans (s6.trans s7)⟩
    · rintro σ H' ⟨⟨x6, x7, x8, rfl⟩, s5⟩
      have e : (((List.range ((sz : Nat) : Int).toNat).map fun e => (cCl n links L e : Int) - ((hold n L e).length : Int)).sum) = leftOf n sz links L := by
        rw [Int.toNat_natCast, sum_sub (fun e => cCl n links L e) (fun e => (hold n L e).length), sum_cCl n sz links L, sum_hold ok]
        rfl
      rw [e]
      exact ⟨_, rfl, q ok H' (k2.same (s24.trans s5))⟩
end
end K8

set_option maxHeartbeats 4000000
namespace K8
open PySem PySem.Spec PyProof.Rows L2
/-! ### Net, Cluster are made -/
abbrev FnM (K : PySem.W.Frag) (x q : Str) (st : Stmt) (f : Addr) (fd : FuncData) : Prop := FunD K x q (defArgs st) (defBody st) (defScope st) [] [] f fd
abbrev BindOkM (x q : Str) (st : Stmt) (ps : List Str) : Prop := ∀ (kV doc pm : Value) (an : Option Addr) (cdv ct : Value) (us : List Value), us.length = ps.length → bindArgs (PySem.W.fnOf x q (defArgs st) (defBody st) (defScope st) .none kV doc pm an cdv ct) ⟨us, []⟩ = pure (ps.zip us)
/-- strictly ascending pairs -/
def Asc2 (l : Links) : Prop := l.Pairwise fun q r => q.1 < r.1 ∨ (q.1 = r.1 ∧ q.2 < r.2)
theorem Asc2.nodup {l : Links} (h : Asc2 l) : l.Nodup := List.Pairwise.imp (fun {a b} h e => by subst e; rcases h with h | h <;> omega) h
theorem sorted_uniq {α : Type} {r : α → α → Prop} : ∀ {l m : List α}, l.Perm m → l.Pairwise r → m.Pairwise r → (∀ a ∈ l, ∀ b ∈ l, r a b → r b a → a = b) → l = m
  | [], m, hp, _, _, _ => (List.nil_perm.mp hp).symm
  | a :: l, [], hp, _, _, _ => by have := hp.length_eq; simp at this
  | a :: l, b :: m, hp, h1, h2, anti => by
    have ha : a ∈ b :: m := hp.mem_iff.mp List.mem_cons_self
    have hb : b ∈ a :: l := hp.mem_iff.mpr List.mem_cons_self
    obtain ⟨p1, p2⟩ := List.pairwise_cons.mp h1
    obtain ⟨q1, q2⟩ := List.pairwise_cons.mp h2
    have e : a = b := by
      rcases List.mem_cons.mp ha with e | ha
      · exact e
      · rcases List.mem_cons.mp hb with e | hb
        · exact e.symm
        · exact anti a List.mem_cons_self b (List.mem_cons_of_mem _ hb) (p1 b hb) (q1 a ha)
    subst e
    have := sorted_uniq (List.Perm.cons_inv hp) p2 q2 fun x hx y hy => anti x (List.mem_cons_of_mem _ hx) y (List.mem_cons_of_mem _ hy)
    rw [this]
abbrev iq (q : Nat × Nat) : Int × Int := ((q.1 : Int), (q.2 : Int))
theorem iq_inj {a b : Nat × Nat} (h : iq a = iq b) : a = b := by
  have h1 := (Prod.mk.inj h).1
  have h2 := (Prod.mk.inj h).2
  exact Prod.ext (by omega) (by omega)
theorem bd_iq {n : Nat} {q : Nat × Nat} {B : Int} (hB : (n : Int) ≤ B) (h : q.1 < n ∧ q.2 < n) : TS.Bd B [(iq q).1, (iq q).2] := by
  intro m hm
  rcases List.mem_cons.mp hm with e | hm
  · rw [e]; show 0 ≤ (q.1 : Int) ∧ (q.1 : Int) < B; omega
  · rcases List.mem_cons.mp hm with e | hm
    · rw [e]; show 0 ≤ (q.2 : Int) ∧ (q.2 : Int) < B; omega
    · cases hm
/-- what sorts a net's links gives the ascending ones -/
theorem sorted_links {n : Nat} {B : Int} {ps : List (Int × Int)} {wl : Links} (hB : (n : Int) ≤ B) (hb : ∀ q ∈ wl, q.1 < n ∧ q.2 < n) (ha : Asc2 wl) (hp : ps.Perm (wl.map iq)) (hs : ps.Pairwise fun q r => TS.code B [q.1, q.2] ≤ TS.code B [r.1, r.2]) : ps = wl.map iq := by
  have hbd : ∀ q ∈ ps, TS.Bd B [q.1, q.2] := fun q hq => by
    obtain ⟨q0, h0, rfl⟩ := List.mem_map.mp (hp.mem_iff.mp hq)
    exact bd_iq hB (hb q0 h0)
  have hs2 : ps.Pairwise fun q r => q.1 < r.1 ∨ (q.1 = r.1 ∧ q.2 ≤ r.2) := List.Pairwise.imp_of_mem (fun {a b} h1 h2 h => code_lex (hbd a h1) (hbd b h2) h) hs
  refine sorted_uniq hp hs2 ?_ ?_
  · rw [List.pairwise_map]
    refine List.Pairwise.imp (fun {a b} h => ?_) ha
    show (a.1 : Int) < b.1 ∨ ((a.1 : Int) = b.1 ∧ (a.2 : Int) ≤ b.2)
    omega
  · intro a _ b _ h1 h2
    exact Prod.ext (by omega) (by omega)
structure TxM (K : PySem.W.Frag) (mg : Str → Option Value) (CC CN : Addr) : Prop extends TxC K CC CN where
  mN : mg "Net" = some (.ref CN)
  mC : mg "Cluster" = some (.ref CC)
  rN : ∃ mc u, ClX.CRead K CN mc ∧ ClX.CVal K CN mc "MOST" (.int 24) u
  rC : ∃ mc u, ClX.CRead K CC mc ∧ ClX.CVal K CC mc "MOST" (.int 60) u
abbrev sBelow : Stmt := top 26
abbrev sCount : Stmt := top 25
abbrev sNet : Stmt := inClass (top 24) 1
abbrev sLinks : Stmt := inClass (top 24) 7
abbrev sCl : Stmt := inClass (top 28) 1
theorem scBelow : FnScope ["number", "count"] ["number", "count"] (defScope sBelow) := ⟨rfl, rfl, rfl, by decide +kernel, rfl, by decide +kernel, by decide +kernel⟩
theorem scCount : FnScope ["count"] ["count"] (defScope sCount) := ⟨rfl, rfl, rfl, by decide +kernel, rfl, by decide +kernel, by decide +kernel⟩
theorem scNet : FnScope ["self", "count", "links", "linked", "source", "reader"] ["self", "count", "links"] (defScope sNet) := ⟨rfl, rfl, rfl, by decide +kernel, rfl, by decide +kernel, by decide +kernel⟩
theorem scLinks : FnScope ["self"] ["self"] (defScope sLinks) := ⟨rfl, rfl, rfl, by decide +kernel, rfl, by decide +kernel, by decide +kernel⟩
theorem scCl : FnScope ["self", "net", "homes", "entry", "home"] ["self", "net", "homes"] (defScope sCl) := ⟨rfl, rfl, rfl, by decide +kernel, rfl, by decide +kernel, by decide +kernel⟩
def spBelow : Sp := fun vs H Q _ => ∃ i n : Nat, vs = [.int (i : Nat), .int (n : Nat)] ∧ i < n ∧ Q (.bl true) H
def spCount : Sp := fun vs H Q _ => ∃ n : Nat, vs = [.int (n : Nat)] ∧ 1 ≤ n ∧ n ≤ 24 ∧ Q .non H
section
variable {P : Program} {w : World} {K : PySem.W.Frag} {mg : Str → Option Value} {base : Heap} {CC CN : Addr}
theorem ok_below {f : Addr} {fd : FuncData} (F : FnT K "_is_below" sBelow f fd) (hm : mg "_is_below" = some (.ref f)) : Cal P w K mg base CX0 1 "_is_below" spBelow := by
  refine cal0 F hm (fun _ _ _ _ _ _ us hl => match us, hl with | [_, _], _ => rfl) scBelow (fun vs H Q E h => ?_) (fun cdv A outer s H vs Q E hr h => ?_)
  · obtain ⟨i, n, rfl, _⟩ := h
    rfl
  · obtain ⟨i, n, rfl, hi, q⟩ := h
    refine ⟨_, pss_one (ps_ret (pe_chain op_le op_lt pe_int (pv 0) (pv 1))), ?_⟩
    refine ⟨_, rfl, _, _, rfl, rfl, _, rfl, ?_⟩
    rw [decide_eq_true (show (0 : Int) ≤ (i : Nat) by omega)]
    refine iteT ⟨_, rfl, _, _, rfl, rfl, ?_⟩
    show Q (.bl (decide (((i : Nat) : Int) < (n : Nat)))) H
    rw [decide_eq_true (show ((i : Nat) : Int) < (n : Nat) by omega)]
    exact q
theorem ok_count {f : Addr} {fd : FuncData} (F : FnT K "_check_count" sCount f fd) (hm : mg "_check_count" = some (.ref f)) (T : TxM K mg CC CN) : Cal P w K mg base CX0 1 "_check_count" spCount := by
  refine cal0 F hm (fun _ _ _ _ _ _ us hl => match us, hl with | [_], _ => rfl) scCount (fun vs H Q E h => ?_) (fun cdv A outer s H vs Q E hr h => ?_)
  · obtain ⟨n, rfl, _⟩ := h
    rfl
  · obtain ⟨n, rfl, h1, h2, q⟩ := h
    obtain ⟨mc, u, rN, vN⟩ := T.rN
    refine ⟨_, pss_one (ps_if (PW.pt (pw_or (pt_cmpR op_lt (pv 0) pe_int (nomark _)) (pw_or1 (pt_cmpR op_gt (pv 0) (ClX.pe_cval (pe_glob (v := V.ref CN) (by rfl) T.mN rfl)) (nomark _))))) (pss_one ps_never) pss_nil), ?_⟩
    refine ⟨_, rfl, _, _, rfl, rfl, _, rfl, ?_⟩
    rw [decide_eq_false (show ¬ ((n : Nat) : Int) < 1 by omega)]
    refine iteF ⟨_, rfl, CN, mc, _, u, rfl, rN, vN, _, _, rfl, rfl, _, rfl, ?_⟩
    rw [decide_eq_false (show ¬ ((n : Nat) : Int) > 24 by omega)]
    exact iteF q
end
/-! ### Net(count, links) -/
abbrev kq (q : Nat × Nat) : List Key := [Sum.inl (q.1 : Int), Sum.inl (q.2 : Int)]
theorem kq_inj {a b : Nat × Nat} (h : kq a = kq b) : a = b := by
  have h1 := Sum.inl.inj (List.cons.inj h).1
  have h2 := Sum.inl.inj (List.cons.inj (List.cons.inj h).2).1
  exact Prod.ext (by omega) (by omega)
theorem valV_no {κ : Type} [DecidableEq κ] {kvs : List (κ × V)} {k : κ} (h : k ∉ kvs.map (·.1)) : valV kvs k = none := by
  rw [← Option.not_isSome_iff_eq_none, ← valV_any, List.any_eq_true]
  rintro ⟨x, hx, e⟩
  exact h (List.mem_map.mpr ⟨x, hx, of_decide_eq_true e⟩)
/-- new, or a tuple -/
abbrev NT (H0 H : Hp) (x : Addr) : AP := fun b => b = x ∨ H0 b = none ∨ ∃ xs, H b = some (.tup xs)
def spNet (CN : Addr) : Sp := fun vs H Q _ => ∃ (x a dx : Addr) (ts : List Addr) (n : Nat) (ls wl : Links), vs = [.ref x, .int (n : Nat), .ref a] ∧ H x = some (.ins CN dx []) ∧ LinksA ANY H a ts ls ∧ ls.Perm wl ∧ Asc2 wl ∧ wl.length < 64 ∧
  1 ≤ n ∧ n ≤ 24 ∧ (∀ q ∈ wl, q.1 < n ∧ q.2 < n ∧ q.1 ≠ q.2) ∧ ∀ (H' : Hp) (ts' : List Addr), Kp (fun b => b = x) H H' → NetA CN (NT H H' x) H' x ts' n wl → Q .non H'
structure MkN (P : Program) (w : World) (K : PySem.W.Frag) (mg : Str → Option Value) (base : Heap) (k : Nat) (C : Addr) (sp : Sp) : Prop where
  ex : ∃ (f : Addr) (fd : FuncData) (ps : List Str), Mk K C f ∧ FnOk P w K mg base CX0 k f fd ps sp ∧ Binds K fd ps []
section
variable {P : Program} {w : World} {K : PySem.W.Frag} {mg : Str → Option Value} {base : Heap} {CC CN : Addr}
theorem mkM {x q : Str} {st : Stmt} {f C : Addr} {fd : FuncData} {N ps : List Str} {k : Nat} {sp : Sp} (M : Mk K C f) (F : FnM K x q st f fd) (b : BindOkM x q st ps) (S : FnScope N ps (defScope st)) (len : ∀ vs H Q E, sp vs H Q E → vs.length = ps.length)
    (hbody : ∀ (cdv : Value) (A : Around) (outer : List Env) (s : Shared) (H : Hp) (vs : List V) (Q : VK) (E : XK), Room k (A.deeper (envOfC q (defScope st) s.heap.objs.size f cdv)) → sp vs H Q E →
      ∃ t, PSs (cxOf CX0 P w K mg base N q (defScope st) f cdv A outer s H E).nox (defBody st) t ∧ t { nx := fun _ H' => Q .non H', rt := Q } (L2.start N vs) H) : MkN P w K mg base (k + 1) C sp :=
  ⟨f, fd, ps, M, F.ok S len fun cdv A outer s H vs Q E hr h => let ⟨t, h1, h2⟩ := hbody cdv A outer s H vs Q E hr h; ⟨t, h1.nox, h2⟩, F.bindsN b⟩
theorem ok_net {f : Addr} {fd : FuncData} (M : Mk K CN f) (F : FnM K "__init__" "Net.__init__" sNet f fd) (B : NB mg) (T : TxM K mg CC CN) (cCount : Cal P w K mg base CX0 1 "_check_count" spCount) (cBelow : Cal P w K mg base CX0 1 "_is_below" spBelow) :
    MkN P w K mg base 3 CN (spNet CN) := by
  refine mkM M F (fun _ _ _ _ _ _ us hl => match us, hl with | [_, _, _], _ => rfl) scNet (fun vs H Q E h => ?_) (fun cdv A outer s H vs Q E hr h => ?_)
  · obtain ⟨x, a, dx, ts, n, ls, wl, rfl, _⟩ := h
    rfl
  · obtain ⟨x, a, dx, ts, n, ls, wl, rfl, hx, hA, hp, hasc, h64, n1, n24, hbd, q⟩ := h
    have hu := hu_of hr
    refine ⟨_, pss_cons (ps_expr (pe_c cCount hr (by decide) (by rfl) (pa_cons (pv 1) pa_nil)))
      (pss_cons (ps_set (i := 3) scNet.nd rfl (Or.inl rfl) pe_dnewT)
      (pss_cons (ps_for PassesOwn.never rfl (pi_list (pv 2)) (pg_tup rfl (pgs_cons (pg_name (i := 4) scNet.nd rfl (.inl rfl)) (pgs_cons (pg_name (i := 5) scNet.nd rfl (.inl rfl)) pgs_nil)))
        (pss_cons (ps_if (PW.pt (pw_or (pt_cmpR op_eq (pv 4) (pv 5) (nomark _)) (pw_or (pt_not (pt_val (pe_c cBelow hr (by decide) (by rfl) (pa_cons (pv 4) (pa_cons (pv 1) pa_nil))))) (pw_or1 (pt_not (pt_val (pe_c cBelow hr (by decide) (by rfl) (pa_cons (pv 5) (pa_cons (pv 1) pa_nil))))))))) (pss_one ps_never) pss_nil)
        (pss_one (ps_dput hu (pv 3) (pe_tup (pa_cons (pv 4) (pa_cons (pv 5) pa_nil))) pe_bl rfl))))
      (pss_cons (ps_fld (pv 0) (pv 1) rfl)
      (pss_cons (ps_fld (pv 0) (pv 3) rfl)
      (pss_one (ps_fld (pv 0) (pe_callB (call_sortedDT rfl (B := 24)) (by rfl) B.srt (by decide +kernel) (pa_cons (pv 3) pa_nil)) rfl)))))), ?_⟩
    refine ⟨_, rfl, n, rfl, n1, n24, fun d hd => ?_⟩
    have s1 : Same H (upd H d (.dT [])) := same_upd hd
    have hnd : ls.Nodup := hp.nodup_iff.mpr hasc.nodup
    have hll : ls.length = wl.length := hp.length_eq
    have hxd : x ≠ d := ne_of_none hx hd
    refine ⟨_, rfl, a, rfl, ⟨_, SqL.of (s1 _ _ hA.at_)⟩, for_list (xs := ts.map V.ref) (fun i σ H' => (∃ y z, σ = [some (.ref x), some (.int (n : Nat)), some (.ref a), some (.ref d), y, z]) ∧ Same H H' ∧ ∃ kvs, H' d = some (.dT kvs) ∧ kvs.map (·.1) = (ls.take i).map kq)
      ⟨⟨_, _, rfl⟩, s1, [], upd_same, rfl⟩ (fun i σ H' _ h => SqL.of (h.2.1 _ _ hA.at_)) ?_ ?_⟩
    · rintro i y σ H' hy ⟨⟨y4, y5, rfl⟩, s2, kvs, hk, hks⟩
      obtain ⟨t, q0, rfl, hq0, _, ht⟩ := hA.get hy
      have hqm : q0 ∈ ls := List.mem_of_getElem? hq0
      obtain ⟨b1, b2, b3⟩ := hbd _ (hp.mem_iff.mp hqm)
      have hil := (List.getElem?_eq_some_iff.mp hq0).1
      refine ⟨t, _, rfl, SqT.of (s2 _ _ ht), rfl, _, _, rfl, _, _, rfl, rfl, ?_⟩
      refine ⟨_, rfl, _, rfl, rfl, _, rfl, ?_⟩
      rw [decide_eq_false (show ¬ V.int ((q0.1 : Nat) : Int) = V.int ((q0.2 : Nat) : Int) from fun z => b3 (by have := V.int.inj z; omega))]
      refine iteF ⟨_, rfl, _, rfl, q0.1, n, rfl, b1, true, rfl, ?_⟩
      refine iteF ⟨_, rfl, _, rfl, q0.2, n, rfl, b2, true, rfl, ?_⟩
      refine iteF ?_
      refine ⟨_, rfl, _, rfl, _, rfl, by show 2 ≤ sizeLine; decide, fun tk htk => ?_⟩
      have s3 : Same H' (upd H' tk (.tup [.int (q0.1 : Nat), .int (q0.2 : Nat)])) := same_upd htk
      have hnot : valV kvs (kq q0) = none := valV_no (by
        rw [hks]
        intro z
        obtain ⟨q1, h1, h2⟩ := List.mem_map.mp z
        rw [kq_inj h2] at h1
        obtain ⟨j, hj, ej⟩ := List.getElem_of_mem h1
        rw [List.length_take] at hj
        rw [List.getElem_take] at ej
        have := (List.getElem?_inj (by omega) hnd).mp (((List.getElem?_eq_getElem (by omega : j < ls.length)).trans (congrArg some ej)).trans hq0.symm)
        omega)
      have hkl : kvs.length ≤ 100 := by
        have := congrArg List.length hks
        rw [List.length_map, List.length_map, List.length_take] at this
        omega
      refine ⟨d, _, rfl, DPut.t (k := kq q0) (s3 _ _ hk) upd_same (small1000 (by omega)), ?_⟩
      refine ⟨⟨_, _, rfl⟩, fun b o e => ?_, _, upd_same, ?_⟩
      · rw [upd_ne (ne_of_none e hd)]
        exact s3 _ _ (s2 _ _ e)
      · rw [putK_new _ hnot, List.map_append, hks, take_snoc hq0, List.map_append]
        rfl
    · rintro σ H1 ⟨⟨y4, y5, rfl⟩, s2, kvs, hk, hks⟩
      rw [List.length_map, hA.len, List.take_length] at hks
      refine ⟨_, rfl, _, rfl, x, CN, dx, _, rfl, s2 _ _ hx, T.clN, T.nCount, by decide, ?_⟩
      refine ⟨_, rfl, _, rfl, x, CN, dx, _, rfl, upd_same, T.clN, T.nLinked, by show (1 : Nat) < 1000; decide, ?_⟩
      rw [upd_upd]
      have k3 : Kp (fun b => b = x) H1 (upd H1 x (.ins CN dx (putF "_linked" (.ref d) (putF "count" (.int (n : Nat)) [])))) := kp_upd (.inl rfl)
      have hx3 : upd H1 x (.ins CN dx (putF "_linked" (.ref d) (putF "count" (.int (n : Nat)) []))) x = some (.ins CN dx (putF "_linked" (.ref d) (putF "count" (.int (n : Nat)) []))) := upd_same
      generalize upd H1 x (.ins CN dx (putF "_linked" (.ref d) (putF "count" (.int (n : Nat)) []))) = H3 at k3 hx3 ⊢
      refine ⟨_, rfl, d, kvs, ls.map iq, rfl, .inl (k3.keep _ _ hk hxd.symm), ?_, by rw [List.length_map]; omega, fun q hq => ?_, fun p ys hpn hperm hsort htup => ?_⟩
      · rw [hks, List.map_map]
        rfl
      · obtain ⟨q0, h0, rfl⟩ := List.mem_map.mp hq
        obtain ⟨b1, b2, _⟩ := hbd _ (hp.mem_iff.mp h0)
        exact bd_iq (by omega) ⟨b1, b2⟩
      · have hys : ys.map (pairAt H3) = wl.map iq := sorted_links (B := 24) (by omega) (fun q hq => ⟨(hbd q hq).1, (hbd q hq).2.1⟩) hasc (hperm.trans (hp.map iq)) hsort
        have s4 : Same H3 (upd H3 p (.lst (ys.map V.ref))) := same_upd hpn
        have hp4 : upd H3 p (.lst (ys.map V.ref)) p = some (.lst (ys.map V.ref)) := upd_same
        have hpx : p ≠ x := fun z => by rw [z, hx3] at hpn; cases hpn
        refine ⟨_, rfl, x, CN, dx, _, rfl, s4 _ _ hx3, T.clN, T.nLinks, by show (2 : Nat) < 1000; decide, ?_⟩
        generalize upd H3 p (.lst (ys.map V.ref)) = H4 at s4 hp4 ⊢
        have k5 : Kp (fun b => b = x) H4 (upd H4 x (.ins CN dx (putF "_links" (.ref p) (putF "_linked" (.ref d) (putF "count" (.int (n : Nat)) []))))) := kp_upd (.inl rfl)
        have hx5 : upd H4 x (.ins CN dx (putF "_links" (.ref p) (putF "_linked" (.ref d) (putF "count" (.int (n : Nat)) [])))) x = some (.ins CN dx (putF "_links" (.ref p) (putF "_linked" (.ref d) (putF "count" (.int (n : Nat)) [])))) := upd_same
        generalize upd H4 x (.ins CN dx (putF "_links" (.ref p) (putF "_linked" (.ref d) (putF "count" (.int (n : Nat)) [])))) = H5 at k5 hx5 ⊢
        refine q H5 ys ((same_kp s2).trans (k3.trans ((same_kp s4).trans k5))) ⟨.inl rfl, dx, _, p, hx5, by rfl, by rfl, ?_⟩
        refine ⟨.inr (.inl (s2.free (k3.dom _ hpn))), k5.keep _ _ hp4 hpx, ?_, fun i t q0 e1 e2 => ?_⟩
        · have := congrArg List.length hys
          rwa [List.length_map, List.length_map] at this
        · have hm : t ∈ ys := List.mem_of_getElem? e1
          have h0 := htup t hm
          have hpq : pairAt H3 t = iq q0 := by
            have h1 : (ys.map (pairAt H3))[i]? = some (pairAt H3 t) := by rw [List.getElem?_map, e1]; rfl
            rw [hys, List.getElem?_map, e2] at h1
            exact (Option.some.inj h1).symm
          rw [hpq] at h0
          have h5 := k5.keep _ _ (s4 _ _ h0) (ne_of h0 hx3 (by intro z; cases z))
          exact ⟨.inr (.inr ⟨_, h5⟩), h5⟩
end
end K8

set_option maxHeartbeats 4000000
namespace K8
open PySem PySem.Spec PyProof.Rows L2
/-! ### net.links; Cluster(net, homes) -/
def spCl (CC CN : Addr) : Sp := fun vs H Q _ => ∃ (x na a dx : Addr) (ts : List Addr) (n : Nat) (links : Links) (homes : List Int) (C : AP), vs = [.ref x, .ref na, .ref a] ∧ H x = some (.ins CC dx []) ∧ NetA CN C H na ts n links ∧ (∀ b, C b → b ≠ x) ∧ Ints ANY H a homes ∧ homes.length ≤ 60 ∧
  (∀ h ∈ homes, 0 ≤ h ∧ h < (n : Int)) ∧ ∀ H' : Hp, Kp (fun b => b = x) H H' → ClA CC CN (fun b => b = x ∨ C b) H' x ts n homes.length links → Q .non H'
section
variable {P : Program} {w : World} {K : PySem.W.Frag} {mg : Str → Option Value} {base : Heap} {CC CN : Addr}
theorem ok_links {f : Addr} {fd : FuncData} (F : FnM K "links" "Net.links" sLinks f fd) (B : NB mg) (T : TxC K CC CN) {p : Addr} (hp : PropOf K CN "links" p f) : GetL P w K mg base CN := by
  refine ⟨p, f, fd, ["self"], hp, F.ok scLinks (fun vs H Q E h => ?_) (fun cdv A outer s H vs Q E hr h => ?_), F.bindsN (fun _ _ _ _ _ _ us hl => match us, hl with | [_], _ => rfl)⟩
  · obtain ⟨a, ts, n, links, rfl, _⟩ := h
    rfl
  · obtain ⟨a, ts, n, links, rfl, hN, q⟩ := h
    obtain ⟨dx, fs, ll, h1, h2, h3, h4⟩ := hN.ob
    refine ⟨_, (pss_one (ps_ret (pe_callTy (T := "list") call_list_of (by rfl) B.lst (by decide +kernel) (pa_cons (pe_fld (pv 0) rfl) pa_nil)))).nox, ?_⟩
    exact ⟨_, rfl, a, CN, dx, fs, _, rfl, h1, T.clN, T.nLinks, h3, ll, _, rfl, .inl (SqL.of h4.at_), fun p hp => q p hp⟩
theorem ok_cl {f : Addr} {fd : FuncData} (M : Mk K CC f) (F : FnM K "__init__" "Cluster.__init__" sCl f fd) (B : NB mg) (T : TxM K mg CC CN) : MkN P w K mg base 1 CC (spCl CC CN) := by
  refine mkM M F (fun _ _ _ _ _ _ us hl => match us, hl with | [_, _, _], _ => rfl) scCl (fun vs H Q E h => ?_) (fun cdv A outer s H vs Q E hr h => ?_)
  · obtain ⟨x, na, a, dx, ts, n, links, homes, C, rfl, _⟩ := h
    rfl
  · obtain ⟨x, na, a, dx, ts, n, links, homes, C, rfl, hx, hN, hC, hA, h60, hb, q⟩ := h
    obtain ⟨mc, u, rC, vC⟩ := T.rC
    refine ⟨_, pss_cons (ps_if (pt_cmpR op_gt (pe_callB call_len_seq (by rfl) B.len PySem.boot_len (pa_cons (pv 2) pa_nil)) (ClX.pe_cval (pe_glob (v := V.ref CC) (by rfl) T.mC rfl)) (nomark _)) (pss_one ps_never) pss_nil)
      (pss_cons (ps_for PassesOwn.never rfl (pi_enum (by rfl) B.enu (pa_cons (pv 2) pa_nil)) (pg_tup rfl (pgs_cons (pg_name (i := 3) scCl.nd rfl (.inl rfl)) (pgs_cons (pg_name (i := 4) scCl.nd rfl (.inl rfl)) pgs_nil)))
        (pss_one (ps_if (PW.pt (pw_or (pt_cmpR op_lt (pv 4) pe_int (nomark _)) (pw_or1 (pt_cmpR op_ge (pv 4) (pe_fld (pv 1) rfl) (nomark _))))) (pss_one ps_never) pss_nil)))
      (pss_cons (ps_fld (pv 0) (pv 1) rfl)
      (pss_cons (ps_fld (pv 0) (pe_callB call_len_seq (by rfl) B.len PySem.boot_len (pa_cons (pv 2) pa_nil)) rfl)
      (pss_one (ps_fld (pv 0) (pe_callTy (T := "list") call_list_of (by rfl) B.lst (by decide +kernel) (pa_cons (pv 2) pa_nil)) rfl))))), ?_⟩
    refine ⟨_, rfl, a, _, rfl, .inl (SqL.of hA.2), CC, mc, _, u, rfl, rC, vC, _, _, rfl, rfl, _, rfl, ?_⟩
    rw [List.length_map, decide_eq_false (show ¬ ((homes.length : Nat) : Int) > 60 by omega)]
    refine iteF ⟨_, rfl, a, _, rfl, SqL.of hA.2, for_it (walk_enum (K := K) (a := a) (xs := homes.map V.int)) (fun i σ H' => (∃ y z, σ = [some (.ref x), some (.ref na), some (.ref a), y, z]) ∧ Same H H')
        ⟨⟨_, _, rfl⟩, fun b o e => e⟩ (fun j σ H' _ h => SqL.of (h.2 _ _ hA.2)) ?_ ?_⟩
    · rintro i y σ H1 H2 hj ⟨⟨y3, y4, rfl⟩, s1⟩ ⟨Tp, u1, u2, rfl, nT, rfl, e1, e2⟩
      have e1' : V.int (i : Nat) = u1 := Option.some.inj e1
      subst e1'
      obtain ⟨v, rfl, hv⟩ := ints_get e2
      obtain ⟨v0, v1⟩ := hb v (List.mem_of_getElem? hv)
      have sT : Same H1 (upd H1 Tp (.tup [.int (i : Nat), .int v])) := same_upd nT
      obtain ⟨dx2, fs2, ll, g1, g2, g3, g4⟩ := ((hN.same s1).same sT).ob
      refine ⟨Tp, [.int (i : Nat), .int v], rfl, .inl (.inl upd_same), rfl, .int (i : Nat), [.int v], rfl, .int v, [], rfl, rfl, ?_⟩
      refine ⟨_, rfl, _, _, rfl, rfl, _, rfl, ?_⟩
      rw [decide_eq_false (show ¬ v < 0 by omega)]
      refine iteF ⟨_, rfl, _, rfl, na, CN, dx2, fs2, _, rfl, g1, T.clN, T.nCount, g2, _, _, rfl, rfl, _, rfl, ?_⟩
      rw [decide_eq_false (show ¬ v ≥ ((n : Nat) : Int) by omega)]
      exact iteF ⟨⟨_, _, rfl⟩, s1.trans sT⟩
    · rintro σ H1 ⟨⟨y3, y4, rfl⟩, s1⟩
      refine ⟨_, rfl, _, rfl, x, CC, dx, _, rfl, s1 _ _ hx, T.clC, T.cNet, by decide, ?_⟩
      have ha1 := s1 _ _ hA.2
      have hxa : a ≠ x := ne_of ha1 (s1 _ _ hx) (by intro z; cases z)
      refine ⟨_, rfl, a, _, rfl, .inl (SqL.of (by rw [upd_ne hxa]; exact ha1)), _, rfl, x, CC, dx, _, rfl, upd_same, T.clC, T.cSize, by show (1 : Nat) < 1000; decide, ?_⟩
      rw [upd_upd, List.length_map]
      refine ⟨_, rfl, a, _, rfl, .inl (SqL.of (by rw [upd_ne hxa]; exact ha1)), fun l hl => ?_⟩
      have k3 : Kp (fun b => b = x) H1 (upd H1 x (.ins CC dx (putF "size" (.int (homes.length : Nat)) (putF "net" (.ref na) [])))) := kp_upd (.inl rfl)
      have hx3 : upd H1 x (.ins CC dx (putF "size" (.int (homes.length : Nat)) (putF "net" (.ref na) []))) x = some (.ins CC dx (putF "size" (.int (homes.length : Nat)) (putF "net" (.ref na) []))) := upd_same
      generalize upd H1 x (.ins CC dx (putF "size" (.int (homes.length : Nat)) (putF "net" (.ref na) []))) = H3 at k3 hx3 hl ⊢
      have s4 : Same H3 (upd H3 l (.lst (homes.map V.int))) := same_upd hl
      generalize upd H3 l (.lst (homes.map V.int)) = H4 at s4 ⊢
      refine ⟨_, rfl, x, CC, dx, _, rfl, s4 _ _ hx3, T.clC, T.cHomes, by show (2 : Nat) < 1000; decide, ?_⟩
      have k5 : Kp (fun b => b = x) H4 (upd H4 x (.ins CC dx (putF "_homes" (.ref l) (putF "size" (.int (homes.length : Nat)) (putF "net" (.ref na) []))))) := kp_upd (.inl rfl)
      have hx5 : upd H4 x (.ins CC dx (putF "_homes" (.ref l) (putF "size" (.int (homes.length : Nat)) (putF "net" (.ref na) [])))) x = some (.ins CC dx (putF "_homes" (.ref l) (putF "size" (.int (homes.length : Nat)) (putF "net" (.ref na) [])))) := upd_same
      generalize upd H4 x (.ins CC dx (putF "_homes" (.ref l) (putF "size" (.int (homes.length : Nat)) (putF "net" (.ref na) [])))) = H5 at k5 hx5 ⊢
      have kk : Kp (fun b => b = x) H H5 := (same_kp s1).trans (k3.trans ((same_kp s4).trans k5))
      exact q H5 kk ⟨.inl rfl, dx, _, na, hx5, by rfl, by rfl, (hN.kp kk hC).imp fun b h => .inr h⟩
end
end K8

set_option maxHeartbeats 4000000
namespace K8
open PySem PySem.Spec PyProof.Rows L2
/-! ### the law's state: the box of draws, two code tables -/
structure W4 where
  bx : Addr
  gx : Addr
  P1 : Addr
  P2 : Addr
abbrev q2 : Str := "_law_refused.<locals>.<lambda>"
def W4.E (e : W4) : AP := fun b => b = e.bx ∨ b = e.gx ∨ b = e.P1 ∨ b = e.P2
def W4.N (e : W4) : AP := fun b => ¬ e.E b
structure SA (e : W4) (H : Hp) : Prop where
  box : ∃ (g : List Int) (t c : Int), H e.bx = some (.lst [.ref e.gx, .int t, .int c]) ∧ H e.gx = some (.lst (g.map V.int))
  t1 : GxR.TabG H e.P1
  t2 : LamX.TabS H e.P2 q2
  ne : e.P1 ≠ e.P2
section
variable {e : W4} {H H' H1 : Hp}
theorem SA.same (h : SA e H) (s : Same H H') : SA e H' := by
  obtain ⟨g, t, c, h1, h2⟩ := h.box
  exact ⟨⟨g, t, c, s _ _ h1, s _ _ h2⟩, tabG_same h.t1 s, h.t2.ext s, h.ne⟩
theorem SA.dom (h : SA e H) {b : Addr} (hb : e.E b) : H b ≠ none := by
  obtain ⟨g, t, c, h1, h2⟩ := h.box
  rcases hb with rfl | rfl | rfl | rfl
  · rw [h1]; exact fun z => by cases z
  · rw [h2]; exact fun z => by cases z
  · obtain ⟨ps, h3, _⟩ := h.t1
    rw [h3]; exact fun z => by cases z
  · obtain ⟨ps, h3, _⟩ := h.t2
    rw [h3]; exact fun z => by cases z
theorem SA.new (h : SA e H) {b : Addr} (hb : H b = none) : e.N b := fun z => h.dom z hb
def K4 (e : W4) (H H' : Hp) : Prop := Kp e.E H H' ∧ SA e H'
theorem k4_refl (h : SA e H) : K4 e H H := ⟨Kp.refl _ _, h⟩
theorem K4.trans (a : K4 e H H1) (b : K4 e H1 H') : K4 e H H' := ⟨a.1.trans b.1, b.2⟩
theorem K4.same (a : K4 e H H1) (s : Same H1 H') : K4 e H H' := ⟨a.1.trans (same_kp s), a.2.same s⟩
theorem k4_same (h : SA e H) (s : Same H H') : K4 e H H' := ⟨same_kp s, h.same s⟩
theorem k4_k1 (h : SA e H) (k : K1 e.P1 H H') : K4 e H H' := by
  refine ⟨k.1.imp fun b z => .inr (.inr (.inl z)), ?_, k.2, ?_, h.ne⟩
  · obtain ⟨g, t, c, h1, h2⟩ := h.box
    exact ⟨g, t, c, k.1.keep _ _ h1 (tab_ne h.t1 h1 lst_tbl), k.1.keep _ _ h2 (tab_ne h.t1 h2 lst_tbl)⟩
  · obtain ⟨ps, h1, h2, h3⟩ := h.t2
    refine ⟨ps, k.1.keep _ _ h1 h.ne.symm, h2, fun pos cv hc => ?_⟩
    obtain ⟨c, e1, e2⟩ := h3 pos cv hc
    exact ⟨c, e1, k.1.keep _ _ e2 (tab_ne h.t1 e2 LamX.codeO_ne)⟩
theorem new_n (h : SA e H) : ∀ b, NEW H b → e.N b := fun b hb => h.new hb
end
/-- an int list is plain data -/
theorem dp_ints {K : PySem.W.Frag} {H : Hp} : ∀ l : List Int, DpAll K H (l.map V.int) (l.map PyData.int)
  | [] => .nil
  | x :: l => .cons (.int x) (dp_ints l)
theorem lay_ints : ∀ l : List Int, PyData.canLayAll0 (l.map PyData.int) = true
  | [] => by simp [PyData.canLayAll0]
  | x :: l => by simp [PyData.canLayAll0, PyData.canLay0, lay_ints l]
theorem depth_ints : ∀ l : List Int, PyData.depthAll (l.map PyData.int) = 0
  | [] => by simp [PyData.depthAll]
  | x :: l => by simp [PyData.depthAll, PyData.depth, depth_ints l]
theorem shaped_ints (l : List Int) : SeqAt.shaped (.list (l.map PyData.int)) = true := by
  simp [SeqAt.shaped, PyData.canLay0, lay_ints, PyData.depth, depth_ints]
theorem eqv_nil {l : List PyData} : PyData.eqv (.list l) (.list []) = l.isEmpty := by
  cases l with
  | nil => simp [PyData.eqv, PyData.eqvAll]
  | cons x l => simp [PyData.eqv, PyData.eqvAll]
/-! ### _law_box, _law_take -/
theorem ixN_at {n j : Nat} (hj : j < n) : ixN n (j : Int) = some j := by
  unfold ixN
  rw [if_pos (by omega), if_pos (by omega)]
  simp
theorem seq_at {n j : Nat} (hj : j < n) : seqIndex? (j : Int) n = some j := (ixN_seq (ixN_at hj)).1
abbrev sBox : Stmt := top 30
abbrev sTake : Stmt := top 31
theorem scBox : FnScope ["_law_script", "_law_total", "_law_great", "_law_cell"] ["_law_script"] (defScope sBox) := ⟨rfl, rfl, rfl, by decide +kernel, rfl, by decide +kernel, by decide +kernel⟩
theorem scTake : FnScope ["_law_box_here", "_law_size", "_law_great", "_law_digit", "_law_first", "_law_second", "_law_third"] ["_law_box_here", "_law_size"] (defScope sTake) := ⟨rfl, rfl, rfl, by decide +kernel, rfl, by decide +kernel, by decide +kernel⟩
theorem sqL_same {K : PySem.W.Frag} {H H' : Hp} {a : Addr} {xs : List V} (h : SqL K H a xs) (e : Same H H') : SqL K H' a xs :=
  h.elim (fun h => .inl (h.elim (fun h => .inl (e _ _ h)) fun ⟨o, h⟩ => .inr ⟨o, e _ _ h⟩)) fun h => .inr h
/-- a new box -/
def spBox (K : PySem.W.Frag) : Sp := fun vs H Q _ => ∃ (a : Addr) (l : List Int), vs = [.ref a] ∧ SqL K H a (l.map V.int) ∧
  ∀ (H' : Hp) (bx gx : Addr) (g : List Int) (t c : Int), Same H H' → H bx = none → H gx = none → H' bx = some (.lst [.ref gx, .int t, .int c]) → H' gx = some (.lst (g.map V.int)) → Q (.ref bx) H'
def spTake (e : W4) : Sp := fun vs H Q _ => ∃ m : Nat, vs = [.ref e.bx, .int (m : Nat)] ∧ SA e H ∧ 1 ≤ m ∧ m < 2 ^ 30 ∧ ∀ (d : Nat) (H' : Hp), d < m → K4 e H H' → Q (.int (d : Nat)) H'
section
variable {P : Program} {w : World} {K : PySem.W.Frag} {mg : Str → Option Value} {base : Heap}
theorem ok_box {f : Addr} {fd : FuncData} (F : FnT K "_law_box" sBox f fd) (hm : mg "_law_box" = some (.ref f)) (B : NB mg) : Cal P w K mg base CX0 1 "_law_box" (spBox K) := by
  refine cal0 F hm (fun _ _ _ _ _ _ us hl => match us, hl with | [_], _ => rfl) scBox (fun vs H Q E h => ?_) (fun cdv A outer s H vs Q E hr h => ?_)
  · obtain ⟨a, l, rfl, _⟩ := h
    rfl
  · obtain ⟨a, l, rfl, hA, q⟩ := h
    refine ⟨_, pss_cons (ps_set (i := 1) scBox.nd rfl (Or.inl rfl) pe_int)
      (pss_cons (ps_set (i := 2) scBox.nd rfl (Or.inl rfl) (pe_lst pa_nil))
      (pss_cons (ps_for PassesOwn.never rfl (pi_list (pe_slice sl_list (pv 0) po_none (po_some pe_int))) (pg_name (i := 3) scBox.nd rfl (.inl rfl))
        (pss_cons (ps_set (i := 1) scBox.nd rfl (Or.inl rfl) (pe_op op_mod (pe_callTy (T := "int") call_int1 (by rfl) B.int (by decide +kernel) (pa_cons (pe_op op_add (pe_op op_mul (pv 1) pe_int) (pv 3)) pa_nil)) pe_int))
        (pss_one (ps_if (pt_cmpR op_ge (pe_callB call_abs (by rfl) B.abs (by decide +kernel) (pa_cons (pv 3) pa_nil)) (pe_op op_pow pe_int pe_int) (nomark _))
          (pss_one (ps_expr (pe_bm PySem.F.plainAttrs_list PySem.F.slot_list_append PySem.F.type_list_append mt_append (pv 2) (pa_cons (pe_callB call_abs (by rfl) B.abs (by decide +kernel) (pa_cons (pv 3) pa_nil)) pa_nil)))) pss_nil))))
      (pss_one (ps_ret (pe_lst (pa_cons (pv 2) (pa_cons (pv 1) (pa_cons pe_int pa_nil)))))))), ?_⟩
    refine ⟨Nat.zero_le _, fun gx hgx => ?_⟩
    have s1 : Same H (upd H gx (.lst [])) := same_upd hgx
    have hg1 : upd H gx (.lst []) gx = some (.lst (([] : List Int).map V.int)) := upd_same
    generalize upd H gx (.lst []) = H1 at s1 hg1 ⊢
    refine ⟨_, rfl, _, rfl, a, _, rfl, sqL_same hA s1, fun ls hls => ?_⟩
    have hc63 : cutV (l.map V.int) none (some ((63 : Nat) : Int)) = (l.take 63).map V.int := by
      unfold cutV
      rw [HT.sIx_nat, List.map_take]
      simp only [HT.sIx, List.drop_zero, Nat.sub_zero]
      rw [List.take_eq_take_iff]
      simp
    have s2 : Same H1 (upd H1 ls (.lst (cutV (l.map V.int) none (some ((63 : Nat) : Int))))) := same_upd hls
    have hl2 : upd H1 ls (.lst (cutV (l.map V.int) none (some ((63 : Nat) : Int)))) ls = some (.lst ((l.take 63).map V.int)) := by rw [upd_same, hc63]
    refine ⟨ls, rfl, ⟨_, SqL.of hl2⟩, for_list (xs := (l.take 63).map V.int) (fun i σ H' => (∃ (t : Int) (y : Option V), σ = [some (.ref a), some (.int t), some (.ref gx), y]) ∧ Same H H' ∧ H' ls = some (.lst ((l.take 63).map V.int)) ∧ ∃ g : List Int, H' gx = some (.lst (g.map V.int)) ∧ g.length ≤ i)
      ⟨⟨_, _, rfl⟩, s1.trans s2, hl2, [], s2 _ _ hg1, Nat.le_refl _⟩ (fun i σ H' _ h => SqL.of h.2.2.1) ?_ ?_⟩
    · rintro i x σ H' hx ⟨⟨t, y, rfl⟩, s3, hl3, g, hg3, hgl⟩
      obtain ⟨v, rfl, hv⟩ := ints_get hx
      have hi := (List.getElem?_eq_some_iff.mp hv).1
      rw [List.length_take] at hi
      refine ⟨_, rfl, _, _, rfl, rfl, .inr (by decide), _, rfl, _, _, rfl, rfl, .inl ⟨_, rfl, _, _, rfl, rfl, (show (0 : Int) < 2305843009213693951 by decide), ?_⟩⟩
      refine ⟨_, rfl, _, rfl, _, _, rfl, rfl, ⟨by decide, by decide, by decide⟩, _, _, rfl, rfl, _, rfl, ?_⟩
      refine ite2 (fun _ => ?_) (fun _ => ?_)
      · refine ⟨_, rfl, .inl ⟨rfl, _, SqL.of hg3⟩, _, rfl, _, rfl, gx, _, _, rfl, rfl, hg3, small1000 (by rw [List.length_map]; omega), ?_⟩
        have hlg : ls ≠ gx := fun z => by
          rw [z, hg1] at hls
          cases hls
        refine ⟨⟨_, _, rfl⟩, fun b o e => ?_, by rw [upd_ne hlg]; exact hl3, g ++ [if v < 0 then -v else v], by rw [upd_same, List.map_append]; rfl, by rw [List.length_append]; simp only [List.length_singleton]; omega⟩
        rw [upd_ne (ne_of_none e hgx)]
        exact s3 _ _ e
      · exact ⟨⟨_, _, rfl⟩, s3, hl3, g, hg3, by omega⟩
    · rintro σ H' ⟨⟨t, y, rfl⟩, s3, hl3, g, hg3, hgl⟩
      refine ⟨_, rfl, _, rfl, by show 3 ≤ sizeLine; decide, fun bx hbx => ?_⟩
      have s4 : Same H' (upd H' bx (.lst [.ref gx, .int t, .int 0])) := same_upd hbx
      exact q _ bx gx g t 0 (s3.trans s4) (s3.free hbx) hgx upd_same (s4 _ _ hg3)
theorem ok_take {f : Addr} {fd : FuncData} {e : W4} (F : FnT K "_law_take" sTake f fd) (hm : mg "_law_take" = some (.ref f)) (B : NB mg) : Cal P w K mg base CX0 1 "_law_take" (spTake e) := by
  refine cal0 F hm (fun _ _ _ _ _ _ us hl => match us, hl with | [_, _], _ => rfl) scTake (fun vs H Q E h => ?_) (fun cdv A outer s H vs Q E hr h => ?_)
  · obtain ⟨m, rfl, _⟩ := h
    rfl
  · obtain ⟨m, rfl, hS, hm1, hm2, q⟩ := h
    refine ⟨_, pss_cons (ps_set (i := 2) scTake.nd rfl (Or.inl rfl) (pe_ix ix_list (pv 0) pe_int (fun _ _ => rfl)))
      (pss_cons (ps_if (pt_cmpR (op_neD hr.units) (pv 2) (pe_lst pa_nil) (nomark _))
        (pss_cons (ps_set (i := 3) scTake.nd rfl (Or.inl rfl) (pe_op op_mod (pe_callTy (T := "int") call_int1 (by rfl) B.int (by decide +kernel) (pa_cons (pe_ix ix_list (pv 2) pe_int (fun _ _ => rfl)) pa_nil)) (pv 1)))
        (pss_cons (ps_asg (pe_op op_fdivN (pe_ix ix_list (pv 2) pe_int (fun _ _ => rfl)) (pv 1)) (pg_sub (pv 2) pe_int set_list (fun _ => rfl)))
        (pss_cons (ps_if (pt_cmpR op_eq (pe_ix ix_list (pv 2) pe_int (fun _ _ => rfl)) pe_int (nomark _))
          (pss_one (ps_expr (pe_bm PySem.F.plainAttrs_list PySem.F.slot_list_pop PySem.F.type_list_pop mt_popAt (pv 2) (pa_cons pe_int pa_nil)))) pss_nil)
        (pss_one (ps_ret (pv 3)))))) pss_nil)
      (pss_cons (ps_asg (pe_op op_add (pe_ix ix_list (pv 0) pe_int (fun _ _ => rfl)) pe_int) (pg_sub (pv 0) pe_int set_list (fun _ => rfl)))
      (pss_cons (ps_set (i := 4) scTake.nd rfl (Or.inl rfl) (pe_op op_mod (pe_callTy (T := "int") call_int1 (by rfl) B.int (by decide +kernel) (pa_cons (pe_op op_add (pe_ix ix_list (pv 0) pe_int (fun _ _ => rfl)) (pe_op op_mul (pe_ix ix_list (pv 0) pe_int (fun _ _ => rfl)) pe_int)) pa_nil)) pe_int))
      (pss_cons (ps_set (i := 5) scTake.nd rfl (Or.inl rfl) (pe_op op_mod (pe_callTy (T := "int") call_int1 (by rfl) B.int (by decide +kernel) (pa_cons (pe_op op_add (pe_op op_add (pe_op op_mul (pv 4) (pv 4)) (pe_op op_mul (pe_ix ix_list (pv 0) pe_int (fun _ _ => rfl)) pe_int)) (pe_op op_fdivW (pe_ix ix_list (pv 0) pe_int (fun _ _ => rfl)) pe_int)) pa_nil)) pe_int))
      (pss_cons (ps_set (i := 6) scTake.nd rfl (Or.inl rfl) (pe_op op_mod (pe_callTy (T := "int") call_int1 (by rfl) B.int (by decide +kernel) (pa_cons (pe_op op_add (pe_op op_add (pe_op op_mul (pv 5) (pv 5)) (pe_op op_mul (pv 4) pe_int)) pe_int) pa_nil)) pe_int))
      (pss_one (ps_ret (pe_op op_mod (pe_callTy (T := "int") call_int1 (by rfl) B.int (by decide +kernel) (pa_cons (pe_op op_fdiv (pv 6) pe_int) pa_nil)) (pv 1))))))))), ?_⟩
    obtain ⟨g, t, c, h1, h2⟩ := hS.box
    refine ⟨_, rfl, e.bx, _, _, _, rfl, rfl, SqL.of h1, atI_nat (j := 0) rfl, ?_⟩
    refine ⟨_, rfl, Nat.zero_le _, fun l hl => ?_⟩
    have qd : ∀ (z : Int) (H' : Hp), K4 e H H' → Q (.int (z % (m : Nat))) H' := fun z H' k => by
      have hd0 : 0 ≤ z % (m : Nat) ∧ z % (m : Nat) < (m : Nat) := ⟨Int.emod_nonneg _ (by omega), Int.emod_lt_of_pos _ (by omega)⟩
      obtain ⟨d, hd⟩ : ∃ d : Nat, z % (m : Nat) = (d : Int) := ⟨(z % (m : Nat)).toNat, by omega⟩
      rw [hd] at hd0 ⊢
      exact q d H' (by omega) k
    have s1 : Same H (upd H l (.lst [])) := same_upd hl
    have hl1 : upd H l (.lst []) l = some (.lst []) := upd_same
    generalize hH1 : upd H l (.lst []) = H1 at s1 hl1 ⊢
    have hS1 := hS.same s1
    have h1' := s1 _ _ h1
    have h2' := s1 _ _ h2
    have hbg : e.bx ≠ e.gx := fun z => by
      rw [z, h2] at h1
      have := HO.lst.inj (Option.some.inj h1)
      cases g with
      | nil => cases this
      | cons x g => cases this
    refine ⟨.list (g.map PyData.int), .list [], .lst (SqL.of h2') (dp_ints g), .lst (SqL.of hl1) .nil, shaped_ints g, shaped_ints [], _, rfl, ?_⟩
    rw [eqv_nil]
    cases g with
    | cons x g =>
      refine iteT ?_
      refine ⟨_, rfl, e.gx, _, _, _, rfl, rfl, SqL.of h2', atI_nat (j := 0) rfl, .inl ⟨_, rfl, _, rfl, _, _, rfl, rfl, (show (0 : Int) < (m : Nat) by omega), ?_⟩⟩
      refine ⟨_, rfl, e.gx, _, _, _, rfl, rfl, SqL.of h2', atI_nat (j := 0) rfl, _, rfl, _, _, rfl, rfl, ⟨(show ((m : Nat) : Int) ≠ 0 by omega), (show ((m : Nat) : Int).natAbs < 1073741824 by omega)⟩, ?_⟩
      refine ⟨_, rfl, e.gx, _, _, 0, rfl, rfl, h2', ixN_at (j := 0) (Nat.succ_pos _), ?_⟩
      have k2 : Kp e.E H1 (upd H1 e.gx (.lst ((List.map V.int (x :: g)).set 0 (V.int (x.fdiv (m : Nat)))))) := kp_upd (.inl (.inr (.inl rfl)))
      have hg2 : upd H1 e.gx (.lst ((List.map V.int (x :: g)).set 0 (V.int (x.fdiv (m : Nat))))) e.gx = some (.lst ((x.fdiv (m : Nat) :: g).map V.int)) := upd_same
      have hb2 : upd H1 e.gx (.lst ((List.map V.int (x :: g)).set 0 (V.int (x.fdiv (m : Nat))))) e.bx = some (.lst [.ref e.gx, .int t, .int c]) := by rw [upd_ne hbg]; exact h1'
      have hp1 : e.P1 ≠ e.gx := fun z => by obtain ⟨ps, h3, _⟩ := hS1.t1; rw [z, h2'] at h3; cases h3
      have hp2 : e.P2 ≠ e.gx := fun z => by obtain ⟨ps, h3, _⟩ := hS1.t2; rw [z, h2'] at h3; cases h3
      have ht1 : GxR.TabG (upd H1 e.gx (.lst ((List.map V.int (x :: g)).set 0 (V.int (x.fdiv (m : Nat)))))) e.P1 := by
        obtain ⟨ps, a1, a2⟩ := hS1.t1
        exact ⟨ps, by rw [upd_ne hp1]; exact a1, a2⟩
      have ht2 : LamX.TabS (upd H1 e.gx (.lst ((List.map V.int (x :: g)).set 0 (V.int (x.fdiv (m : Nat)))))) e.P2 q2 := by
        obtain ⟨ps, a1, a2, a3⟩ := hS1.t2
        refine ⟨ps, by rw [upd_ne hp2]; exact a1, a2, fun pos cv hc => ?_⟩
        obtain ⟨c0, e1, e2⟩ := a3 pos cv hc
        exact ⟨c0, e1, by rw [upd_ne (ne_of e2 h2' (by unfold LamX.CodeO; intro z; cases z))]; exact e2⟩
      generalize upd H1 e.gx (.lst ((List.map V.int (x :: g)).set 0 (V.int (x.fdiv (m : Nat))))) = H2 at k2 hg2 hb2 ht1 ht2 ⊢
      refine ⟨_, rfl, e.gx, _, _, _, rfl, rfl, SqL.of hg2, atI_nat (j := 0) rfl, rfl, _, rfl, ?_⟩
      refine ite2 (fun _ => ?_) (fun _ => ?_)
      · refine ⟨_, rfl, .inl ⟨rfl, _, SqL.of hg2⟩, e.gx, _, 0, 0, _, rfl, rfl, hg2, by decide, by decide, seq_at (j := 0) (Nat.succ_pos _), rfl, ?_⟩
        refine ⟨_, rfl, qd _ _ ⟨((same_kp s1).trans k2).trans (kp_upd (.inl (.inr (.inl rfl)))), ⟨g, t, c, by rw [upd_ne hbg]; exact hb2, upd_same⟩, ?_, ?_, hS.ne⟩⟩
        · obtain ⟨ps, a1, a2⟩ := ht1
          exact ⟨ps, by rw [upd_ne hp1]; exact a1, a2⟩
        · obtain ⟨ps, a1, a2, a3⟩ := ht2
          refine ⟨ps, by rw [upd_ne hp2]; exact a1, a2, fun pos cv hc => ?_⟩
          obtain ⟨c0, e1, e2⟩ := a3 pos cv hc
          exact ⟨c0, e1, by rw [upd_ne (ne_of e2 hg2 (by unfold LamX.CodeO; intro z; cases z))]; exact e2⟩
      · exact ⟨_, rfl, qd _ _ ⟨(same_kp s1).trans k2, ⟨_, t, c, hb2, hg2⟩, ht1, ht2, hS.ne⟩⟩
    | nil =>
      refine iteF ?_
      refine ⟨_, rfl, e.bx, _, _, _, rfl, rfl, SqL.of h1', atI_nat (j := 2) rfl, _, _, rfl, rfl, ?_⟩
      refine ⟨_, rfl, e.bx, _, _, 2, rfl, rfl, h1', by rfl, ?_⟩
      have k2 : Kp e.E H1 (upd H1 e.bx (.lst ([.ref e.gx, .int t, .int c].set 2 (V.int (c + 1))))) := kp_upd (.inl (.inl rfl))
      have hb2 : upd H1 e.bx (.lst ([.ref e.gx, .int t, .int c].set 2 (V.int (c + 1)))) e.bx = some (.lst [.ref e.gx, .int t, .int (c + 1)]) := upd_same
      have hg2 : upd H1 e.bx (.lst ([.ref e.gx, .int t, .int c].set 2 (V.int (c + 1)))) e.gx = some (.lst []) := by rw [upd_ne hbg.symm]; exact h2'
      have hp1 : e.P1 ≠ e.bx := fun z => by obtain ⟨ps, h3, _⟩ := hS1.t1; rw [z, h1'] at h3; cases h3
      have hp2 : e.P2 ≠ e.bx := fun z => by obtain ⟨ps, h3, _⟩ := hS1.t2; rw [z, h1'] at h3; cases h3
      have ht1 : GxR.TabG (upd H1 e.bx (.lst ([.ref e.gx, .int t, .int c].set 2 (V.int (c + 1))))) e.P1 := by
        obtain ⟨ps, a1, a2⟩ := hS1.t1
        exact ⟨ps, by rw [upd_ne hp1]; exact a1, a2⟩
      have ht2 : LamX.TabS (upd H1 e.bx (.lst ([.ref e.gx, .int t, .int c].set 2 (V.int (c + 1))))) e.P2 q2 := by
        obtain ⟨ps, a1, a2, a3⟩ := hS1.t2
        refine ⟨ps, by rw [upd_ne hp2]; exact a1, a2, fun pos cv hc => ?_⟩
        obtain ⟨c0, e1, e2⟩ := a3 pos cv hc
        exact ⟨c0, e1, by rw [upd_ne (ne_of e2 h1' (by unfold LamX.CodeO; intro z; cases z))]; exact e2⟩
      generalize upd H1 e.bx (.lst ([.ref e.gx, .int t, .int c].set 2 (V.int (c + 1)))) = H2 at k2 hg2 hb2 ht1 ht2 ⊢
      have hix : ∀ (j : Nat) (v : V), [V.ref e.gx, .int t, .int (c + 1)][j]? = some v → atI [V.ref e.gx, .int t, .int (c + 1)] ((j : Nat) : Int) = some v := fun j v h => atI_nat h
      refine ⟨_, rfl, e.bx, _, _, _, rfl, rfl, SqL.of hb2, atI_nat (j := 1) rfl, _, rfl, e.bx, _, _, _, rfl, rfl, SqL.of hb2, atI_nat (j := 2) rfl, _, _, rfl, rfl, .inr (by decide), _, _, rfl, rfl, .inl ⟨_, rfl, _, _, rfl, rfl, (show (0 : Int) < 2147483647 by decide), ?_⟩⟩
      have f0 : 0 ≤ (t + (c + 1) * 1327217885) % 2147483647 ∧ (t + (c + 1) * 1327217885) % 2147483647 < 2147483647 := ⟨Int.emod_nonneg _ (by decide), Int.emod_lt_of_pos _ (by decide)⟩
      refine ⟨_, rfl, _, rfl, _, _, rfl, rfl, .inl (by omega), _, rfl, e.bx, _, _, _, rfl, rfl, SqL.of hb2, atI_nat (j := 2) rfl, _, _, rfl, rfl, .inr (by decide), _, _, rfl, rfl, _, rfl, e.bx, _, _, _, rfl, rfl, SqL.of hb2, atI_nat (j := 1) rfl, _, _, rfl, rfl, wide_div (b := 31) (by decide) (by decide) (by decide) (by decide), _, _, rfl, rfl,
        .inl ⟨_, rfl, _, _, rfl, rfl, (show (0 : Int) < 2147483629 by decide), ?_⟩⟩
      refine ⟨_, rfl, _, rfl, _, _, rfl, rfl, .inl (by omega), _, rfl, _, _, rfl, rfl, .inr (by decide), _, _, rfl, rfl, _, _, rfl, rfl, .inl ⟨_, rfl, _, _, rfl, rfl, (show (0 : Int) < 2147483587 by decide), ?_⟩⟩
      refine ⟨_, rfl, _, _, rfl, rfl, ⟨by decide, by decide⟩, .inl ⟨_, rfl, _, rfl, _, _, rfl, rfl, (show (0 : Int) < (m : Nat) by omega), ?_⟩⟩
      exact qd _ _ ⟨(same_kp s1).trans k2, ⟨[], t, _, hb2, hg2⟩, ht1, ht2, hS.ne⟩
end
end K8

set_option maxHeartbeats 4000000
namespace K8
open PySem PySem.Spec PyProof.Rows L2
/-! ### _law_alike of equal data -/
mutual
/-- data as it stands in H, of at most this depth -/
inductive Da (H : Hp) : Nat → V → PyData → Prop
  | non (n : Nat) : Da H n .non .none
  | bl (n : Nat) (b : Bool) : Da H n (.bl b) (.bool b)
  | int (n : Nat) (i : Int) : Da H n (.int i) (.int i)
  | str (n : Nat) (x : Str) : Da H n (.str x) (.str x)
  | lst {n : Nat} {a : Addr} {xs : List V} {ds : List PyData} : H a = some (.lst xs) → xs.length ≤ 100000 → DaAll H n xs ds → Da H (n + 1) (.ref a) (.list ds)
  | tup {n : Nat} {a : Addr} {xs : List V} {ds : List PyData} : H a = some (.tup xs) → xs.length ≤ 100000 → DaAll H n xs ds → Da H (n + 1) (.ref a) (.tuple ds)
inductive DaAll (H : Hp) : Nat → List V → List PyData → Prop
  | nil (n : Nat) : DaAll H n [] []
  | cons {n : Nat} {v : V} {vs : List V} {d : PyData} {ds : List PyData} : Da H n v d → DaAll H n vs ds → DaAll H n (v :: vs) (d :: ds)
end
theorem DaAll.len {H : Hp} {n : Nat} {xs : List V} {ds : List PyData} (h : DaAll H n xs ds) : xs.length = ds.length := by
  induction xs generalizing ds with
  | nil => cases h; rfl
  | cons x xs ih => cases h with | cons _ h => rw [List.length_cons, List.length_cons, ih h]
theorem DaAll.get {H : Hp} {n : Nat} {xs : List V} {ds : List PyData} (h : DaAll H n xs ds) {i : Nat} {x : V} (hx : xs[i]? = some x) : ∃ d, ds[i]? = some d ∧ Da H n x d := by
  induction xs generalizing ds i with
  | nil => simp at hx
  | cons y xs ih =>
    cases h with
    | cons h1 h2 =>
      cases i with
      | zero => simp at hx; subst hx; exact ⟨_, rfl, h1⟩
      | succ i =>
        obtain ⟨d, e1, e2⟩ := ih h2 (by simpa using hx)
        exact ⟨d, by simpa using e1, e2⟩
theorem DaAll.of {H : Hp} {n : Nat} : ∀ {xs : List V} {ds : List PyData}, xs.length = ds.length → (∀ (i : Nat) (x : V) (d : PyData), xs[i]? = some x → ds[i]? = some d → Da H n x d) → DaAll H n xs ds
  | [], [], _, _ => .nil n
  | [], _ :: _, h, _ => by simp at h
  | _ :: _, [], h, _ => by simp at h
  | x :: xs, d :: ds, h, f => .cons (f 0 x d rfl rfl) (DaAll.of (by simpa using h) fun i y c h1 h2 => f (i + 1) y c (by simpa using h1) (by simpa using h2))
abbrev sAlike : Stmt := top 32
theorem scAlike : FnScope ["_law_actual", "_law_due", "_law_k"] ["_law_actual", "_law_due"] (defScope sAlike) := ⟨rfl, rfl, rfl, by decide +kernel, rfl, by decide +kernel, by decide +kernel⟩
def spAlike : Nat → Sp
  | 0 => fun _ _ _ _ => False
  | n + 1 => fun vs H Q _ => ∃ (x y : V) (d : PyData), vs = [x, y] ∧ Da H n x d ∧ Da H n y d ∧ Q (.bl true) H
section
variable {P : Program} {w : World} {K : PySem.W.Frag} {mg : Str → Option Value} {base : Heap}
theorem alike_step {f : Addr} {fd : FuncData} {k n : Nat} (F : FnT K "_law_alike" sAlike f fd) (hm : mg "_law_alike" = some (.ref f)) (B : NB mg) (c : Cal P w K mg base CX0 k "_law_alike" (spAlike n)) : Cal P w K mg base CX0 (k + 1) "_law_alike" (spAlike (n + 1)) := by
  refine cal0 F hm (fun _ _ _ _ _ _ us hl => match us, hl with | [_, _], _ => rfl) scAlike (fun vs H Q E h => ?_) (fun cdv A outer s H vs Q E hr h => ?_)
  · obtain ⟨x, y, d, rfl, _⟩ := h
    rfl
  · obtain ⟨x, y, d, rfl, hx, hy, q⟩ := h
    refine ⟨_, pss_cons (ps_if (pt_cmpR op_isN (pv 1) pe_non (nomark _)) (pss_one (ps_ret (pe_cmpR op_isN (pv 0) pe_non (nomark _)))) pss_nil)
      (pss_cons (ps_if (pt_val (pe_callB call_isi (by rfl) B.isi (by decide +kernel) (pa_cons (pv 1) (pa_cons (pe_bltn (v := .ty "bool") (u := .type "bool") (by rfl) B.bool (by decide +kernel) rfl) pa_nil))))
        (pss_one (ps_ret (pe_and (pe_callB call_isi (by rfl) B.isi (by decide +kernel) (pa_cons (pv 0) (pa_cons (pe_bltn (v := .ty "bool") (u := .type "bool") (by rfl) B.bool (by decide +kernel) rfl) pa_nil))) (pe_one (pe_cmpR op_eq (pv 0) (pv 1) (nomark _)))))) pss_nil)
      (pss_cons (ps_if (pt_val (pe_callB call_isi (by rfl) B.isi (by decide +kernel) (pa_cons (pv 1) (pa_cons (pe_bltn (v := .ty "int") (u := .type "int") (by rfl) B.int (by decide +kernel) rfl) pa_nil))))
        (pss_one (ps_ret (pe_and (pe_callB call_isi (by rfl) B.isi (by decide +kernel) (pa_cons (pv 0) (pa_cons (pe_bltn (v := .ty "int") (u := .type "int") (by rfl) B.int (by decide +kernel) rfl) pa_nil)))
          (pe_and (pe_not (pe_callB call_isi (by rfl) B.isi (by decide +kernel) (pa_cons (pv 0) (pa_cons (pe_bltn (v := .ty "bool") (u := .type "bool") (by rfl) B.bool (by decide +kernel) rfl) pa_nil)))) (pe_one (pe_cmpR op_eq (pv 0) (pv 1) (nomark _))))))) pss_nil)
      (pss_cons (ps_if (pt_val (pe_callB call_isi (by rfl) B.isi (by decide +kernel) (pa_cons (pv 1) (pa_cons (pe_bltn (v := .ty "str") (u := .type "str") (by rfl) B.str (by decide +kernel) rfl) pa_nil))))
        (pss_one (ps_ret (pe_and (pe_callB call_isi (by rfl) B.isi (by decide +kernel) (pa_cons (pv 0) (pa_cons (pe_bltn (v := .ty "str") (u := .type "str") (by rfl) B.str (by decide +kernel) rfl) pa_nil))) (pe_one (pe_cmpR op_eq (pv 0) (pv 1) (nomark _)))))) pss_nil)
      (pss_cons (ps_if (pt_val (pe_callB call_isi (by rfl) B.isi (by decide +kernel) (pa_cons (pv 1) (pa_cons (pe_bltn (v := .ty "tuple") (u := .type "tuple") (by rfl) B.tup (by decide +kernel) rfl) pa_nil))))
        (pss_one (ps_if (pt_not (pt_val (pe_callB call_isi (by rfl) B.isi (by decide +kernel) (pa_cons (pv 0) (pa_cons (pe_bltn (v := .ty "tuple") (u := .type "tuple") (by rfl) B.tup (by decide +kernel) rfl) pa_nil))))) (pss_one (ps_ret pe_bl)) pss_nil))
        (pss_one (ps_if (pt_not (pt_val (pe_callB call_isi (by rfl) B.isi (by decide +kernel) (pa_cons (pv 0) (pa_cons (pe_bltn (v := .ty "list") (u := .type "list") (by rfl) B.lst (by decide +kernel) rfl) pa_nil))))) (pss_one (ps_ret pe_bl)) pss_nil)))
      (pss_cons (ps_if (pt_cmpR op_ne (pe_callB call_len_seq (by rfl) B.len PySem.boot_len (pa_cons (pv 0) pa_nil)) (pe_callB call_len_seq (by rfl) B.len PySem.boot_len (pa_cons (pv 1) pa_nil)) (nomark _)) (pss_one (ps_ret pe_bl)) pss_nil)
      (pss_cons (ps_for PassesOwn.never rfl (pi_range1 (by rfl) B.rng (pa_cons (pe_callB call_len_seq (by rfl) B.len PySem.boot_len (pa_cons (pv 1) pa_nil)) pa_nil)) (pg_name (i := 2) scAlike.nd rfl (.inl rfl))
        (pss_one (ps_if (pt_not (pt_val (pe_c c hr (Nat.le_refl _) (by rfl) (pa_cons (pe_ix ix_seq (pv 0) (pv 2) (fun _ _ => rfl)) (pa_cons (pe_ix ix_seq (pv 1) (pv 2) (fun _ _ => rfl)) pa_nil))))) (pss_one (ps_ret pe_bl)) pss_nil)))
      (pss_one (ps_ret pe_bl)))))))), ?_⟩
    have isi : ∀ {t u : String} {r : Bool}, PySem.W.kitOne K (.type t) (.type u) = some r → PySem.W.kitOne K (.type t) (.type u) = some r := fun h => h
    cases hx with
    | non =>
      cases hy with
      | non => exact ⟨_, rfl, rfl, _, rfl, iteT ⟨_, rfl, rfl, q⟩⟩
    | bl n b =>
      cases hy with
      | bl =>
        refine ⟨_, rfl, rfl, _, rfl, iteF ?_⟩
        refine ⟨_, rfl, _, _, _, _, true, rfl, .ty _, .base (.bl b), kit_ty (by decide +kernel), _, rfl, iteT ?_⟩
        refine ⟨_, rfl, _, _, _, _, true, rfl, .ty _, .base (.bl b), kit_ty (by decide +kernel), _, rfl, iteT ?_⟩
        refine ⟨_, rfl, _, rfl, rfl, ?_⟩
        rw [decide_eq_true rfl]
        exact q
    | int n i =>
      cases hy with
      | int =>
        refine ⟨_, rfl, rfl, _, rfl, iteF ?_⟩
        refine ⟨_, rfl, _, _, _, _, false, rfl, .ty _, .base (.int i), kit_ty (by decide +kernel), _, rfl, iteF ?_⟩
        refine ⟨_, rfl, _, _, _, _, true, rfl, .ty _, .base (.int i), kit_ty (by decide +kernel), _, rfl, iteT ?_⟩
        refine ⟨_, rfl, _, _, _, _, true, rfl, .ty _, .base (.int i), kit_ty (by decide +kernel), _, rfl, iteT ?_⟩
        refine ⟨_, rfl, _, _, _, _, false, rfl, .ty _, .base (.int i), kit_ty (by decide +kernel), _, rfl, _, rfl, iteT ?_⟩
        refine ⟨_, rfl, _, rfl, rfl, ?_⟩
        rw [decide_eq_true rfl]
        exact q
    | str n z =>
      cases hy with
      | str =>
        refine ⟨_, rfl, rfl, _, rfl, iteF ?_⟩
        refine ⟨_, rfl, _, _, _, _, false, rfl, .ty _, .base (.str z), kit_ty (by decide +kernel), _, rfl, iteF ?_⟩
        refine ⟨_, rfl, _, _, _, _, false, rfl, .ty _, .base (.str z), kit_ty (by decide +kernel), _, rfl, iteF ?_⟩
        refine ⟨_, rfl, _, _, _, _, true, rfl, .ty _, .base (.str z), kit_ty (by decide +kernel), _, rfl, iteT ?_⟩
        refine ⟨_, rfl, _, _, _, _, true, rfl, .ty _, .base (.str z), kit_ty (by decide +kernel), _, rfl, iteT ?_⟩
        refine ⟨_, rfl, _, rfl, rfl, ?_⟩
        rw [decide_eq_true rfl]
        exact q
    | @lst n a xs ds ha hl hall =>
      cases hy with
      | @lst _ b ys _ hb hl2 hall2 =>
        refine ⟨_, rfl, rfl, _, rfl, iteF ?_⟩
        refine ⟨_, rfl, _, _, _, _, false, rfl, .ty _, .base (.lst hb), kit_ty (by decide +kernel), _, rfl, iteF ?_⟩
        refine ⟨_, rfl, _, _, _, _, false, rfl, .ty _, .base (.lst hb), kit_ty (by decide +kernel), _, rfl, iteF ?_⟩
        refine ⟨_, rfl, _, _, _, _, false, rfl, .ty _, .base (.lst hb), kit_ty (by decide +kernel), _, rfl, iteF ?_⟩
        refine ⟨_, rfl, _, _, _, _, false, rfl, .ty _, .base (.lst hb), kit_ty (by decide +kernel), _, rfl, iteF ?_⟩
        refine ⟨_, rfl, _, _, _, _, true, rfl, .ty _, .base (.lst ha), kit_ty (by decide +kernel), _, rfl, iteF ?_⟩
        refine ⟨_, rfl, a, _, rfl, .inl (SqL.of ha), _, rfl, b, _, rfl, .inl (SqL.of hb), rfl, _, rfl, ?_⟩
        rw [hall.len, hall2.len, decide_eq_true rfl]
        refine iteF ⟨_, rfl, b, _, rfl, .inl (SqL.of hb), ((ds.length : Nat) : Int), by rw [hall2.len], by omega, by have := hall2.len; omega, ?_⟩
        refine for_range (lo := 0) (n := ((ds.length : Nat) : Int).toNat) (fun i σ H' => (∃ z, σ = [some (.ref a), some (.ref b), z]) ∧ H' = H) ⟨⟨_, rfl⟩, rfl⟩ ?_ ?_
        · rintro i σ H' hi ⟨⟨z, rfl⟩, rfl⟩
          rw [Int.zero_add]
          have hi2 : i < ds.length := by omega
          obtain ⟨xv, hxi⟩ : ∃ v, xs[i]? = some v := ⟨_, List.getElem?_eq_getElem (by rw [hall.len]; exact hi2)⟩
          obtain ⟨yv, hyi⟩ : ∃ v, ys[i]? = some v := ⟨_, List.getElem?_eq_getElem (by rw [hall2.len]; exact hi2)⟩
          obtain ⟨d1, e1, g1⟩ := hall.get hxi
          obtain ⟨d2, e2, g2⟩ := hall2.get hyi
          rw [e1] at e2
          cases e2
          exact ⟨_, rfl, _, rfl, .inl ⟨a, _, _, _, rfl, rfl, SqL.of ha, atI_nat hxi, _, rfl, _, rfl, .inl ⟨b, _, _, _, rfl, rfl, SqL.of hb, atI_nat hyi, _, _, _, rfl, g1, g2, true, rfl, iteF ⟨⟨_, rfl⟩, rfl⟩⟩⟩⟩
        · rintro σ H' ⟨⟨z, rfl⟩, rfl⟩
          exact q
    | @tup n a xs ds ha hl hall =>
      cases hy with
      | @tup _ b ys _ hb hl2 hall2 =>
        refine ⟨_, rfl, rfl, _, rfl, iteF ?_⟩
        refine ⟨_, rfl, _, _, _, _, false, rfl, .ty _, .base (.tup hb), kit_ty (by decide +kernel), _, rfl, iteF ?_⟩
        refine ⟨_, rfl, _, _, _, _, false, rfl, .ty _, .base (.tup hb), kit_ty (by decide +kernel), _, rfl, iteF ?_⟩
        refine ⟨_, rfl, _, _, _, _, false, rfl, .ty _, .base (.tup hb), kit_ty (by decide +kernel), _, rfl, iteF ?_⟩
        refine ⟨_, rfl, _, _, _, _, true, rfl, .ty _, .base (.tup hb), kit_ty (by decide +kernel), _, rfl, iteT ?_⟩
        refine ⟨_, rfl, _, _, _, _, true, rfl, .ty _, .base (.tup ha), kit_ty (by decide +kernel), _, rfl, iteF ?_⟩
        refine ⟨_, rfl, a, _, rfl, .inr (SqT.of ha), _, rfl, b, _, rfl, .inr (SqT.of hb), rfl, _, rfl, ?_⟩
        rw [hall.len, hall2.len, decide_eq_true rfl]
        refine iteF ⟨_, rfl, b, _, rfl, .inr (SqT.of hb), ((ds.length : Nat) : Int), by rw [hall2.len], by omega, by have := hall2.len; omega, ?_⟩
        refine for_range (lo := 0) (n := ((ds.length : Nat) : Int).toNat) (fun i σ H' => (∃ z, σ = [some (.ref a), some (.ref b), z]) ∧ H' = H) ⟨⟨_, rfl⟩, rfl⟩ ?_ ?_
        · rintro i σ H' hi ⟨⟨z, rfl⟩, rfl⟩
          rw [Int.zero_add]
          have hi2 : i < ds.length := by omega
          obtain ⟨xv, hxi⟩ : ∃ v, xs[i]? = some v := ⟨_, List.getElem?_eq_getElem (by rw [hall.len]; exact hi2)⟩
          obtain ⟨yv, hyi⟩ : ∃ v, ys[i]? = some v := ⟨_, List.getElem?_eq_getElem (by rw [hall2.len]; exact hi2)⟩
          obtain ⟨d1, e1, g1⟩ := hall.get hxi
          obtain ⟨d2, e2, g2⟩ := hall2.get hyi
          rw [e1] at e2
          cases e2
          exact ⟨_, rfl, _, rfl, .inr (.inl ⟨a, _, _, _, rfl, rfl, SqT.of ha, atI_nat hxi, _, rfl, _, rfl, .inr (.inl ⟨b, _, _, _, rfl, rfl, SqT.of hb, atI_nat hyi, _, _, _, rfl, g1, g2, true, rfl, iteF ⟨⟨_, rfl⟩, rfl⟩⟩)⟩)⟩
        · rintro σ H' ⟨⟨z, rfl⟩, rfl⟩
          exact q
theorem ok_alike {f : Addr} {fd : FuncData} (F : FnT K "_law_alike" sAlike f fd) (hm : mg "_law_alike" = some (.ref f)) (B : NB mg) : ∀ n, Cal P w K mg base CX0 (n + 1) "_law_alike" (spAlike n)
  | 0 => by
    refine cal0 F hm (fun _ _ _ _ _ _ us hl => match us, hl with | [_, _], _ => rfl) scAlike (fun vs H Q E h => h.elim) (fun cdv A outer s H vs Q E hr h => h.elim)
  | n + 1 => alike_step F hm B (ok_alike F hm B n)
end
/-! what data there is -/
section
variable {H : Hp} {C : AP} {a : Addr} {as : List Addr} {l : List Int} {L : Logs}
theorem da_ints (n : Nat) : ∀ l : List Int, DaAll H n (l.map V.int) (l.map PyData.int)
  | [] => .nil n
  | x :: l => .cons (.int n x) (da_ints n l)
abbrev logD (l : List Int) : PyData := .list (l.map PyData.int)
abbrev logsD (L : Logs) : PyData := .list (L.map logD)
abbrev pullD (p : Pull) : PyData := .tuple [.str "pull", .int (p.1 : Nat), .int (p.2.1 : Nat), .int p.2.2]
abbrev traceD (tr : List Pull) : PyData := .list (tr.map pullD)
theorem Ints.da (h : Ints C H a l) (hl : l.length ≤ 100000) : Da H 2 (.ref a) (logD l) := .lst h.2 (by rw [List.length_map]; exact hl) (da_ints 1 l)
theorem LogsA.da (h : LogsA C H a as L) (hl : L.length ≤ 100000) (hl2 : ∀ l ∈ L, l.length ≤ 100000) : Da H 3 (.ref a) (logsD L) := by
  refine .lst h.at_ (by rw [List.length_map, h.len]; exact hl) (DaAll.of (by rw [List.length_map, List.length_map, h.len]) fun i x d h1 h2 => ?_)
  obtain ⟨p, rfl, hp⟩ := refs_get h1
  rw [List.getElem?_map] at h2
  cases hL : L[i]? with
  | none => rw [hL] at h2; cases h2
  | some l =>
    rw [hL] at h2
    cases h2
    exact (h.row i p l hp hL).da (hl2 l (List.mem_of_getElem? hL))
theorem TraceA.da {ps : List Addr} {tr : List Pull} (h : TraceA C H a ps tr) (hl : tr.length ≤ 100000) : Da H 3 (.ref a) (traceD tr) := by
  refine .lst h.at_ (by rw [List.length_map, h.len]; exact hl) (DaAll.of (by rw [List.length_map, List.length_map, h.len]) fun i x d h1 h2 => ?_)
  obtain ⟨p, rfl, hp⟩ := refs_get h1
  rw [List.getElem?_map] at h2
  cases hL : tr[i]? with
  | none => rw [hL] at h2; cases h2
  | some l =>
    rw [hL] at h2
    cases h2
    exact .tup (h.row i p l hp hL).2 (by show 4 ≤ 100000; decide) (.cons (.str _ _) (.cons (.int _ _) (.cons (.int _ _) (.cons (.int _ _) (.nil _)))))
end
end K8

set_option maxHeartbeats 4000000
namespace K8
open PySem PySem.Spec PyProof.Rows L2
/-! ### _law_links -/
/-- links that are well formed -/
structure OKL (n : Nat) (ls : Links) : Prop where
  nd : ls.Nodup
  bd : ∀ q ∈ ls, q.1 < n ∧ q.2 < n ∧ q.1 ≠ q.2
theorem OKL.snoc {n : Nat} {ls : Links} (h : OKL n ls) {q : Nat × Nat} (hq : q.1 < n ∧ q.2 < n ∧ q.1 ≠ q.2) (hn : q ∉ ls) : OKL n (ls ++ [q]) := by
  refine ⟨List.nodup_append.mpr ⟨h.nd, List.nodup_cons.mpr ⟨List.not_mem_nil, List.nodup_nil⟩, fun x hx y hy e => ?_⟩, fun x hx => ?_⟩
  · rw [List.mem_singleton.mp hy] at e
    exact hn (e ▸ hx)
  · rcases List.mem_append.mp hx with hx | hx
    · exact h.bd x hx
    · rw [List.mem_singleton.mp hx]; exact hq
def pairV (H : Hp) (v : V) : Int × Int := match v with
  | .ref t => pairAt H t
  | _ => (0, 0)
def unref (v : V) : Addr := match v with
  | .ref t => t
  | _ => 0
def natPair (H : Hp) (t : Addr) : Nat × Nat := ((pairAt H t).1.toNat, (pairAt H t).2.toNat)
theorem links_map {C : AP} {H : Hp} {fl : Addr} {ts : List Addr} {ls : Links} (h : LinksA C H fl ts ls) : ls = ts.map (natPair H) := by
  apply List.ext_getElem?
  intro i
  rw [List.getElem?_map]
  by_cases hi : i < ls.length
  · have hi2 : i < ts.length := by rw [h.len]; exact hi
    rw [List.getElem?_eq_getElem hi, List.getElem?_eq_getElem hi2]
    have e := (h.row i ts[i] ls[i] (List.getElem?_eq_getElem hi2) (List.getElem?_eq_getElem hi)).2
    show some ls[i] = some (natPair H ts[i])
    unfold natPair
    rw [pairAt_eq e]
    simp
  · rw [List.getElem?_eq_none (by omega), List.getElem?_eq_none (by rw [h.len]; omega)]
    rfl
theorem sorted_of {K : PySem.W.Frag} {C : AP} {H : Hp} {fl : Addr} {ts : List Addr} {ls : Links} {Q : VK} (h : LinksA C H fl ts ls) (nd : ls.Nodup)
    (q : ∀ (p : Addr) (ts' : List Addr) (wl : Links), H p = none → LinksA (fun b => C b ∨ H b = none) (upd H p (.lst (ts'.map V.ref))) p ts' wl → Asc2 wl → wl.Perm ls → Q (.ref p) (upd H p (.lst (ts'.map V.ref)))) : rSortedPO K [.ref fl] H Q := by
  have tup : ∀ t ∈ ts, C t ∧ H t = some (.tup [.int (pairAt H t).1, .int (pairAt H t).2]) ∧ 0 ≤ (pairAt H t).1 ∧ 0 ≤ (pairAt H t).2 := fun t ht => by
    obtain ⟨j, hj, ej⟩ := List.getElem_of_mem ht
    have hj2 : j < ls.length := by rw [← h.len]; exact hj
    obtain ⟨c, e⟩ := h.row j t ls[j] (by rw [List.getElem?_eq_getElem hj, ej]) (List.getElem?_eq_getElem hj2)
    rw [pairAt_eq e]
    exact ⟨c, e, by simp, by simp⟩
  refine ⟨fl, ts.map V.ref, pairV H, rfl, SqL.of h.at_, fun x hx => ?_, fun ys p hs hst hp => ?_⟩
  · obtain ⟨t, ht, rfl⟩ := List.mem_map.mp hx
    exact ⟨t, rfl, (tup t ht).2.1⟩
  · have hperm := hst.perm
    have hys : ys = (ys.map unref).map V.ref := by
      rw [List.map_map]
      have : ∀ y ∈ ys, (V.ref ∘ unref) y = y := fun y hy => by
        obtain ⟨t, _, rfl⟩ := List.mem_map.mp (hperm.mem_iff.mp hy)
        rfl
      rw [List.map_congr_left this, List.map_id']
    have hts : (ys.map unref).Perm ts := by
      have := hperm.map unref
      rw [List.map_map] at this
      have e : List.map (unref ∘ V.ref) ts = ts := by
        have : (unref ∘ V.ref) = id := rfl
        rw [this, List.map_id]
      rwa [e] at this
    generalize ys.map unref = ts' at hys hts
    subst hys
    have hwl : (ts'.map (natPair H)).Perm ls := by
      rw [links_map h]
      exact hts.map _
    refine q p ts' (ts'.map (natPair H)) hp ⟨.inr hp, upd_same, by rw [List.length_map], fun i t q0 e1 e2 => ?_⟩ ?_ hwl
    · have ht := hts.mem_iff.mp (List.mem_of_getElem? e1)
      obtain ⟨a1, a2, a3, a4⟩ := tup t ht
      rw [List.getElem?_map, e1] at e2
      have e3 : natPair H t = q0 := Option.some.inj e2
      refine ⟨.inl a1, ?_⟩
      rw [upd_ne (ne_of_none a2 hp), ← e3, a2]
      unfold natPair
      show some (HO.tup [V.int (pairAt H t).1, V.int (pairAt H t).2]) = some (HO.tup [V.int ((pairAt H t).1.toNat : Int), V.int ((pairAt H t).2.toNat : Int)])
      rw [Int.toNat_of_nonneg a3, Int.toNat_of_nonneg a4]
    · have hnd : (ts'.map (natPair H)).Nodup := hwl.nodup_iff.mpr nd
      unfold Asc2
      have h1 : (ts'.map (natPair H)).Pairwise fun a b => ¬ (b.1 < a.1 ∨ (b.1 = a.1 ∧ b.2 < a.2)) := by
        rw [List.pairwise_map]
        have h2 : ts'.Pairwise fun x y => ltP (pairV H) (.ref y) (.ref x) = false := by
          have := hs
          unfold SrtO.Srtd at this
          rwa [List.pairwise_map] at this
        refine List.Pairwise.imp_of_mem (fun {x y} hx hy hlt => ?_) h2
        obtain ⟨_, _, a3, a4⟩ := tup x (hts.mem_iff.mp hx)
        obtain ⟨_, _, b3, b4⟩ := tup y (hts.mem_iff.mp hy)
        show ¬ (((pairAt H y).1.toNat < (pairAt H x).1.toNat) ∨ (((pairAt H y).1.toNat = (pairAt H x).1.toNat) ∧ ((pairAt H y).2.toNat < (pairAt H x).2.toNat)))
        have a := SrtO.lexB_no.mp hlt
        simp only [pairV] at a
        omega
      refine List.Pairwise.imp (fun {a b} hh => ?_) (List.pairwise_and_iff.mpr ⟨h1, hnd⟩)
      obtain ⟨g1, g2⟩ := hh
      by_cases e1 : a.1 = b.1
      · by_cases e2 : a.2 = b.2
        · exact absurd (Prod.ext e1 e2) g2
        · omega
      · omega

abbrev sLnk : Stmt := top 34
theorem scLnk : FnScope ["_law_box_here", "_law_count", "_law_kind", "_law_found", "_law_x", "_law_near", "_law_y"] ["_law_box_here", "_law_count"] (defScope sLnk) := ⟨rfl, rfl, rfl, by decide +kernel, rfl, by decide +kernel, by decide +kernel⟩
def spLnk (e : W4) : Sp := fun vs H Q _ => ∃ n : Nat, vs = [.ref e.bx, .int (n : Nat)] ∧ SA e H ∧ 1 ≤ n ∧ n ≤ 24 ∧ ∀ (H' : Hp) (a : Addr) (ts : List Addr) (wl : Links), K4 e H H' → LinksA e.N H' a ts wl → Asc2 wl → (∀ q ∈ wl, q.1 < n ∧ q.2 < n ∧ q.1 ≠ q.2) → wl.length < 64 → Q (.ref a) H'
theorem LinksA.snoc {C : AP} {H H2 : Hp} {fl t : Addr} {ts : List Addr} {ls : Links} {q : Nat × Nat} (h : LinksA C H fl ts ls) (ct : C t) (h2 : H2 fl = some (.lst (ts.map V.ref ++ [.ref t]))) (ht : H2 t = some (.tup [.int (q.1 : Nat), .int (q.2 : Nat)]))
    (k : ∀ b xs, H b = some (.tup xs) → H2 b = some (.tup xs)) : LinksA C H2 fl (ts ++ [t]) (ls ++ [q]) := by
  refine ⟨h.c, by rw [h2, List.map_append]; rfl, by rw [List.length_append, List.length_append, h.len]; rfl, fun i t' q' e1 e2 => ?_⟩
  rcases snoc_get e1 with ⟨hi, e1⟩ | ⟨hi, e1⟩
  · rcases snoc_get e2 with ⟨hj, e2⟩ | ⟨hj, e2⟩
    · obtain ⟨a1, a2⟩ := h.row i t' q' e1 e2
      exact ⟨a1, k _ _ a2⟩
    · rw [h.len] at hi; omega
  · rcases snoc_get e2 with ⟨hj, e2⟩ | ⟨hj, e2⟩
    · rw [h.len] at hi; omega
    · rw [e1, e2]
      exact ⟨ct, ht⟩
/-- what found holds within the second loop -/
structure In2 (n kd x y : Nat) (ls : Links) : Prop where
  ok : OKL n ls
  len : ls.length < 64
  ord : kd < 3 ∨ (kd = 3 ∧ (∀ q ∈ ls, q.1 < x + 1) ∧ ls.length ≤ x + 1) ∨ (kd > 3 ∧ (∀ q ∈ ls, q.1 < x ∨ (q.1 = x ∧ q.2 < y)) ∧ ls.length ≤ x * 6 + y)
structure Out2 (n kd x : Nat) (ls : Links) : Prop where
  ok : OKL n ls
  len : ls.length < 64
  ord : kd < 3 ∨ (∀ q ∈ ls, q.1 < x) ∧ ls.length ≤ (if kd = 3 then x else x * 6)
theorem In2.next {n kd x y : Nat} {ls : Links} (h : In2 n kd x y ls) : In2 n kd x (y + 1) ls := by
  refine ⟨h.ok, h.len, ?_⟩
  rcases h.ord with a | a | ⟨a, b, c⟩
  · exact .inl a
  · exact .inr (.inl a)
  · exact .inr (.inr ⟨a, fun q hq => by have := b q hq; omega, by omega⟩)
theorem In2.add {n kd x y : Nat} {ls : Links} (h : In2 n kd x y ls) (hk : kd > 3) (h6 : n ≤ 6) (hx : x < n) (hy : y < n) (hxy : x ≠ y) : In2 n kd x (y + 1) (ls ++ [(x, y)]) := by
  rcases h.ord with a | a | ⟨a, b, c⟩
  · omega
  · omega
  · refine ⟨h.ok.snoc ⟨hx, hy, hxy⟩ fun z => ?_, ?_, .inr (.inr ⟨hk, fun q hq => ?_, ?_⟩)⟩
    · have := b _ z
      dsimp only at this
      omega
    · rw [List.length_append, List.length_singleton]
      omega
    · rcases List.mem_append.mp hq with hq | hq
      · have := b q hq
        omega
      · rw [List.mem_singleton.mp hq]
        exact .inr ⟨rfl, Nat.lt_succ_self _⟩
    · rw [List.length_append, List.length_singleton]
      omega
theorem Out2.start {n kd x : Nat} {ls : Links} (h : Out2 n kd x ls) (hk : kd ≠ 3 ∨ n ≤ 1) (hx : x < n) : In2 n kd x 0 ls := by
  refine ⟨h.ok, h.len, ?_⟩
  rcases h.ord with a | ⟨a, b⟩
  · exact .inl a
  · by_cases h3 : kd = 3
    · rw [if_pos h3] at b
      exact .inr (.inl ⟨h3, fun q hq => by have := a q hq; omega, by omega⟩)
    · by_cases h4 : kd < 3
      · exact .inl h4
      · rw [if_neg h3] at b
        exact .inr (.inr ⟨by omega, fun q hq => .inl (a q hq), by omega⟩)
theorem Out2.ring {n kd x : Nat} {ls : Links} (h : Out2 n kd x ls) (hk : kd = 3) (hn : 1 < n) (hn24 : n ≤ 24) (hx : x < n) : In2 n kd x 0 (ls ++ [(x, (x + 1) % n)]) := by
  have hm : (x + 1) % n < n := Nat.mod_lt _ (by omega)
  have hne : x ≠ (x + 1) % n := by
    by_cases h1 : x + 1 = n
    · rw [h1, Nat.mod_self]
      omega
    · rw [Nat.mod_eq_of_lt (by omega)]
      omega
  rcases h.ord with a | ⟨a, b⟩
  · omega
  · rw [if_pos hk] at b
    refine ⟨h.ok.snoc ⟨hx, hm, hne⟩ fun z => ?_, by rw [List.length_append, List.length_singleton]; omega, .inr (.inl ⟨hk, fun q hq => ?_, by rw [List.length_append, List.length_singleton]; omega⟩)⟩
    · have := a _ z
      exact Nat.lt_irrefl _ this
    · rcases List.mem_append.mp hq with hq | hq
      · have := a q hq
        omega
      · rw [List.mem_singleton.mp hq]
        exact Nat.lt_succ_self _
theorem In2.done {n kd x : Nat} {ls : Links} (h : In2 n kd x n ls) (h6 : kd > 3 → n ≤ 6) : Out2 n kd (x + 1) ls := by
  refine ⟨h.ok, h.len, ?_⟩
  rcases h.ord with a | ⟨a, b, c⟩ | ⟨a, b, c⟩
  · exact .inl a
  · exact .inr ⟨b, by rw [if_pos a]; exact c⟩
  · refine .inr ⟨fun q hq => by have := b q hq; omega, ?_⟩
    rw [if_neg (by omega)]
    have := h6 a
    omega
end K8

set_option maxHeartbeats 4000000
namespace K8
open PySem PySem.Spec PyProof.Rows L2
theorem SA.updL {e : W4} {H : Hp} (h : SA e H) {p : Addr} {xs ys : List V} (hp : H p = some (.lst xs)) (n : e.N p) : SA e (upd H p (.lst ys)) := by
  obtain ⟨g, t, c, h1, h2⟩ := h.box
  have nb : e.bx ≠ p := fun z => n (.inl z.symm)
  have ng : e.gx ≠ p := fun z => n (.inr (.inl z.symm))
  have n1 : e.P1 ≠ p := fun z => n (.inr (.inr (.inl z.symm)))
  have n2 : e.P2 ≠ p := fun z => n (.inr (.inr (.inr z.symm)))
  refine ⟨⟨g, t, c, by rw [upd_ne nb]; exact h1, by rw [upd_ne ng]; exact h2⟩, ?_, ?_, h.ne⟩
  · obtain ⟨ps, a1, a2⟩ := h.t1
    exact ⟨ps, by rw [upd_ne n1]; exact a1, a2⟩
  · obtain ⟨ps, a1, a2, a3⟩ := h.t2
    refine ⟨ps, by rw [upd_ne n2]; exact a1, a2, fun pos cv hc => ?_⟩
    obtain ⟨c0, e1, e2⟩ := a3 pos cv hc
    exact ⟨c0, e1, by rw [upd_ne (ne_of e2 hp (by unfold LamX.CodeO; intro z; cases z))]; exact e2⟩
theorem K4.updL {e : W4} {H H1 : Hp} (k : K4 e H H1) {p : Addr} {xs ys : List V} (hp : H1 p = some (.lst xs)) (hn : H p = none) (n : e.N p) : K4 e H (upd H1 p (.lst ys)) := by
  refine ⟨⟨fun b o ho hb => ?_, fun b hb => ?_⟩, k.2.updL hp n⟩
  · rw [upd_ne (ne_of_none ho hn)]
    exact k.1.keep b o ho hb
  · by_cases h : b = p
    · rw [h]; exact hn
    · rw [upd_ne h] at hb
      exact k.1.dom b hb
/-- found.append((a, b)) -/
theorem app_links {e : W4} {H H1 : Hp} {fl t : Addr} {ts : List Addr} {ls : Links} {q : Nat × Nat} (k : K4 e H H1) (h : LinksA e.N H1 fl ts ls) (hn : H fl = none) (ht : H1 t = none) :
    upd H1 t (.tup [.int (q.1 : Nat), .int (q.2 : Nat)]) fl = some (.lst (ts.map V.ref)) ∧
    K4 e H (upd (upd H1 t (.tup [.int (q.1 : Nat), .int (q.2 : Nat)])) fl (.lst (ts.map V.ref ++ [.ref t]))) ∧ LinksA e.N (upd (upd H1 t (.tup [.int (q.1 : Nat), .int (q.2 : Nat)])) fl (.lst (ts.map V.ref ++ [.ref t]))) fl (ts ++ [t]) (ls ++ [q]) := by
  have s1 : Same H1 (upd H1 t (.tup [.int (q.1 : Nat), .int (q.2 : Nat)])) := same_upd ht
  have e1 := s1 _ _ h.at_
  have e2 : upd H1 t (.tup [.int (q.1 : Nat), .int (q.2 : Nat)]) t = some (.tup [.int (q.1 : Nat), .int (q.2 : Nat)]) := upd_same
  generalize upd H1 t (.tup [.int (q.1 : Nat), .int (q.2 : Nat)]) = H2 at s1 e1 e2 ⊢
  have hkeep : ∀ b xs, H2 b = some (.tup xs) → upd H2 fl (.lst (ts.map V.ref ++ [.ref t])) b = some (.tup xs) := fun b xs hb => by
    rw [upd_ne (ne_of hb e1 (by intro z; cases z))]
    exact hb
  exact ⟨e1, (k.same s1).updL e1 hn h.c, h.snoc (k.2.new ht) upd_same (hkeep _ _ e2) fun b xs hb => hkeep _ _ (s1 _ _ hb)⟩
structure Out1 (n kd i : Nat) (ls : Links) : Prop where
  ok : OKL n ls
  lt : ∀ q ∈ ls, q.1 < i + 1 ∧ q.2 < i + 1
  len : ls.length ≤ 2 * i
  no : kd ≥ 3 → ls = []
theorem Out1.add {n kd i near : Nat} {ls : Links} (h : Out1 n kd i ls) (hk : kd < 3) (hi : i + 1 < n) (hn : near < i + 1) : Out1 n kd (i + 1) (ls ++ [(near, i + 1)] ++ [(i + 1, near)]) := by
  have o1 := h.ok.snoc (q := (near, i + 1)) ⟨by dsimp only; omega, hi, by dsimp only; omega⟩ fun z => by
    have := (h.lt _ z).2
    dsimp only at this
    omega
  have o2 := o1.snoc (q := (i + 1, near)) ⟨hi, by dsimp only; omega, by dsimp only; omega⟩ fun z => by
    rcases List.mem_append.mp z with z | z
    · have := (h.lt _ z).1
      dsimp only at this
      omega
    · have := Prod.mk.inj (List.mem_singleton.mp z)
      omega
  refine ⟨o2, fun q hq => ?_, ?_, fun z => by omega⟩
  · rcases List.mem_append.mp hq with hq | hq
    · rcases List.mem_append.mp hq with hq | hq
      · have := h.lt q hq
        omega
      · rw [List.mem_singleton.mp hq]
        dsimp only
        omega
    · rw [List.mem_singleton.mp hq]
      dsimp only
      omega
  · rw [List.length_append, List.length_append, List.length_singleton, List.length_singleton]
    have := h.len
    omega
theorem Out1.next {n kd i : Nat} {ls : Links} (h : Out1 n kd i ls) (hk : ¬ kd < 3) : Out1 n kd (i + 1) ls := ⟨h.ok, fun q hq => by have := h.lt q hq; omega, by have := h.len; omega, h.no⟩
theorem Out1.done {n kd i : Nat} {ls : Links} (h : Out1 n kd i ls) (hi : i < 24) : Out2 n kd 0 ls := by
  refine ⟨h.ok, by have := h.len; omega, ?_⟩
  by_cases hk : kd < 3
  · exact .inl hk
  · have := h.no (by omega)
    subst this
    exact .inr ⟨fun q hq => (by cases hq), Nat.zero_le _⟩
theorem cat_links {C : AP} {H H9 : Hp} {fl p t1 t2 : Addr} {ts : List Addr} {ls : Links} {a b : Nat × Nat} (h : LinksA C H fl ts ls) (s : Same H H9) (hp : H9 p = some (.lst (ts.map V.ref ++ [.ref t1, .ref t2]))) (cp : C p) (c1 : C t1) (c2 : C t2)
    (h1 : H9 t1 = some (.tup [.int (a.1 : Nat), .int (a.2 : Nat)])) (h2 : H9 t2 = some (.tup [.int (b.1 : Nat), .int (b.2 : Nat)])) : LinksA C H9 p (ts ++ [t1] ++ [t2]) (ls ++ [a] ++ [b]) := by
  refine ⟨cp, by rw [hp, List.map_append, List.map_append, List.append_assoc]; rfl, by simp [h.len], fun i t q e1 e2 => ?_⟩
  rcases snoc_get e1 with ⟨hi, e1⟩ | ⟨hi, e1⟩
  · rcases snoc_get e2 with ⟨hj, e2⟩ | ⟨hj, e2⟩
    · rcases snoc_get e1 with ⟨hi, e1⟩ | ⟨hi, e1⟩
      · rcases snoc_get e2 with ⟨hj, e2⟩ | ⟨hj, e2⟩
        · obtain ⟨x, y⟩ := h.row i t q e1 e2
          exact ⟨x, s _ _ y⟩
        · rw [h.len] at hi; omega
      · rcases snoc_get e2 with ⟨hj, e2⟩ | ⟨hj, e2⟩
        · rw [h.len] at hi; omega
        · rw [e1, e2]; exact ⟨c1, h1⟩
    · simp [h.len] at hi; simp at hj; omega
  · rcases snoc_get e2 with ⟨hj, e2⟩ | ⟨hj, e2⟩
    · simp [h.len] at hi; simp at hj; omega
    · rw [e1, e2]; exact ⟨c2, h2⟩
theorem int_as {G : V → Hp → Prop} {H : Hp} {a b : Int} (h : a = b) (g : G (.int b) H) : G (.int a) H := h ▸ g
theorem near_at {kd i d : Nat} (hk : kd < 3) (hd : d < i + 1) : ∃ near : Nat, near < i + 1 ∧ atI [V.int (((i + 1 : Nat) : Int) - 1), .int 0, .int (d : Nat)] ((kd : Nat) : Int) = some (.int (near : Nat)) := by
  match kd, hk with
  | 0, _ => exact ⟨i, Nat.lt_succ_self _, by rw [show ((i + 1 : Nat) : Int) - 1 = (i : Nat) by omega]; exact atI_nat (j := 0) rfl⟩
  | 1, _ => exact ⟨0, Nat.succ_pos _, atI_nat (j := 1) rfl⟩
  | 2, _ => exact ⟨d, hd, atI_nat (j := 2) rfl⟩
section
variable {P : Program} {w : World} {K : PySem.W.Frag} {mg : Str → Option Value} {base : Heap}
theorem ok_lnk {f : Addr} {fd : FuncData} {e : W4} (F : FnT K "_law_links" sLnk f fd) (hm : mg "_law_links" = some (.ref f)) (B : NB mg) (cTake : Cal P w K mg base CX0 1 "_law_take" (spTake e)) : Cal P w K mg base CX0 2 "_law_links" (spLnk e) := by
  refine cal0 F hm (fun _ _ _ _ _ _ us hl => match us, hl with | [_, _], _ => rfl) scLnk (fun vs H Q E h => ?_) (fun cdv A outer s H vs Q E hr h => ?_)
  · obtain ⟨n, rfl, _⟩ := h
    rfl
  · obtain ⟨n, rfl, hS, n1, n24, q⟩ := h
    refine ⟨_, pss_cons (ps_set (i := 2) scLnk.nd rfl (Or.inl rfl) (pe_c cTake hr (by decide) (by rfl) (pa_cons (pv 0) (pa_cons pe_int pa_nil))))
      (pss_cons (ps_if (pt_cmpR op_gt (pv 1) pe_int (nomark _)) (pss_one (ps_set (i := 2) scLnk.nd rfl (Or.inl rfl) (pe_op op_mod (pe_callTy (T := "int") call_int1 (by rfl) B.int (by decide +kernel) (pa_cons (pv 2) pa_nil)) pe_int))) pss_nil)
      (pss_cons (ps_set (i := 3) scLnk.nd rfl (Or.inl rfl) (pe_lst pa_nil))
      (pss_cons (ps_for PassesOwn.never rfl (pi_range2 (by rfl) B.rng (pa_cons pe_int (pa_cons (pv 1) pa_nil))) (pg_name (i := 4) scLnk.nd rfl (.inl rfl))
        (pss_one (ps_if (pt_cmpR op_lt (pv 2) pe_int (nomark _))
          (pss_cons (ps_set (i := 5) scLnk.nd rfl (Or.inl rfl) (pe_ix ix_list (pe_lst (pa_cons (pe_op op_sub (pv 4) pe_int) (pa_cons pe_int (pa_cons (pe_c cTake hr (by decide) (by rfl) (pa_cons (pv 0) (pa_cons (pv 4) pa_nil))) pa_nil)))) (pv 2) (fun _ _ => rfl)))
          (pss_one (ps_set (i := 3) scLnk.nd rfl (Or.inl rfl) (pe_op op_cat (pv 3) (pe_lst (pa_cons (pe_tup (pa_cons (pv 5) (pa_cons (pv 4) pa_nil))) (pa_cons (pe_tup (pa_cons (pv 4) (pa_cons (pv 5) pa_nil))) pa_nil))))))) pss_nil)))
      (pss_cons (ps_for PassesOwn.never rfl (pi_range1 (by rfl) B.rng (pa_cons (pv 1) pa_nil)) (pg_name (i := 4) scLnk.nd rfl (.inl rfl))
        (pss_cons (ps_if (PW.pt (pw_and (pt_cmpR op_eq (pv 2) pe_int (nomark _)) (pw_and1 (pt_cmpR op_gt (pv 1) pe_int (nomark _)))))
          (pss_one (ps_expr (pe_bm PySem.F.plainAttrs_list PySem.F.slot_list_append PySem.F.type_list_append mt_append (pv 3) (pa_cons (pe_tup (pa_cons (pv 4) (pa_cons (pe_op op_mod (pe_callTy (T := "int") call_int1 (by rfl) B.int (by decide +kernel) (pa_cons (pe_op op_add (pv 4) pe_int) pa_nil)) (pv 1)) pa_nil))) pa_nil)))) pss_nil)
        (pss_one (ps_for PassesOwn.never rfl (pi_range1 (by rfl) B.rng (pa_cons (pv 1) pa_nil)) (pg_name (i := 6) scLnk.nd rfl (.inl rfl))
          (pss_cons (ps_if (PW.pt (pw_and (pt_cmpR op_eq (pv 2) pe_int (nomark _)) (pw_and1 (pt_cmpR op_ne (pv 4) (pv 6) (nomark _)))))
            (pss_one (ps_expr (pe_bm PySem.F.plainAttrs_list PySem.F.slot_list_append PySem.F.type_list_append mt_append (pv 3) (pa_cons (pe_tup (pa_cons (pv 4) (pa_cons (pv 6) pa_nil))) pa_nil)))) pss_nil)
          (pss_one (ps_if (PW.pt (pw_and (pt_cmpR op_gt (pv 2) pe_int (nomark _)) (pw_and1 (pt_cmpR op_ne (pv 4) (pv 6) (nomark _)))))
            (pss_one (ps_if (pt_cmpR op_eq (pe_c cTake hr (by decide) (by rfl) (pa_cons (pv 0) (pa_cons (pe_op op_sub (pv 2) pe_int) pa_nil))) pe_int (nomark _))
              (pss_one (ps_expr (pe_bm PySem.F.plainAttrs_list PySem.F.slot_list_append PySem.F.type_list_append mt_append (pv 3) (pa_cons (pe_tup (pa_cons (pv 4) (pa_cons (pv 6) pa_nil))) pa_nil)))) pss_nil)) pss_nil)))))))
      (pss_one (ps_ret (pe_callB cr_sortedPO (by rfl) B.srt (by decide +kernel) (pa_cons (pv 3) pa_nil)))))))), ?_⟩
    refine ⟨_, rfl, 9, rfl, hS, by decide, by decide, fun k9 H1 hk9 k1 => ?_⟩
    refine ⟨_, rfl, _, _, rfl, rfl, _, rfl, ?_⟩
    have both : ∃ kd : Nat, kd < 9 ∧ (kd > 3 → n ≤ 6) ∧ kd = (if 6 < n then k9 % 4 else k9) := ⟨_, by by_cases h : 6 < n <;> simp [h] <;> omega, by by_cases h : 6 < n <;> simp [h] <;> omega, rfl⟩
    obtain ⟨kd, hkd9, h6, hkd⟩ := both
    refine ite2 (fun g6 => ?_) (fun g6 => ?_)
    have hn6 : 6 < n := by have := of_decide_eq_true g6; omega
    rw [if_pos hn6] at hkd
    refine ⟨_, rfl, .inl ⟨_, rfl, _, _, rfl, rfl, (show (0 : Int) < 4 by decide), ?_⟩⟩
    have ek : ((k9 : Nat) : Int) % 4 = ((kd : Nat) : Int) := by rw [hkd]; omega
    simp only [ek]
    clear ek hn6
    rotate_left
    have hn6 : ¬ 6 < n := fun z => g6 (decide_eq_true (by omega))
    rw [if_neg hn6] at hkd
    rw [← hkd]
    clear hn6
    all_goals clear hkd
    all_goals
      refine ⟨Nat.zero_le _, fun fl0 hfl0 => ?_⟩
      have k2 : K4 e H (upd H1 fl0 (.lst [])) := k1.same (same_upd hfl0)
      have l2 : LinksA e.N (upd H1 fl0 (.lst [])) fl0 [] [] := ⟨k1.2.new hfl0, upd_same, rfl, fun i t q h => (by simp at h)⟩
      have f2 : H fl0 = none := k1.1.dom _ hfl0
      generalize upd H1 fl0 (.lst []) = H2 at k2 l2 ⊢
      refine ⟨_, rfl, 1, (n : Nat), rfl, ⟨by decide, by decide, by omega, by omega⟩, for_range (lo := 1) (n := (((n : Nat) : Int) - 1).toNat) (fun i σ H' => ∃ (fl : Addr) (ts : List Addr) (ls : Links) (y z : Option V), σ = [some (.ref e.bx), some (.int (n : Nat)), some (.int (kd : Nat)), some (.ref fl), y, z, none] ∧ K4 e H H' ∧ LinksA e.N H' fl ts ls ∧ H fl = none ∧ Out1 n kd i ls)
        ⟨fl0, [], [], _, _, rfl, k2, l2, f2, ⟨⟨List.nodup_nil, fun q h => (by cases h)⟩, fun q h => (by cases h), Nat.zero_le _, fun _ => rfl⟩⟩ ?_ ?_⟩
      · rintro i σ H3 hi ⟨fl, ts, ls, y, z, rfl, k3, l3, f3, o⟩
        rw [show (1 : Int) + ((i : Nat) : Int) = ((i + 1 : Nat) : Int) by omega]
        refine ⟨_, rfl, _, _, rfl, rfl, _, rfl, ?_⟩
        refine ite2 (fun e3 => ?_) (fun e3 => ?_)
        · have hk3 : kd < 3 := by have := of_decide_eq_true e3; omega
          refine ⟨_, rfl, _, _, rfl, rfl, _, rfl, _, rfl, i + 1, rfl, k3.2, by omega, by omega, fun d H4 hd k4 => ⟨by show 3 ≤ sizeLine; decide, fun l hl => ?_⟩⟩
          obtain ⟨near, hnear, hat⟩ := near_at hk3 hd
          have s5 : Same H4 (upd H4 l (.lst [V.int (((i + 1 : Nat) : Int) - 1), .int 0, .int (d : Nat)])) := same_upd hl
          refine ⟨_, rfl, l, _, _, _, rfl, rfl, SqL.of upd_same, hat, ?_⟩
          generalize upd H4 l (.lst [V.int (((i + 1 : Nat) : Int) - 1), .int 0, .int (d : Nat)]) = H5 at s5 ⊢
          refine ⟨_, rfl, _, rfl, _, rfl, by show 2 ≤ sizeLine; decide, fun t1 ht1 => ?_⟩
          have s6 : Same H5 (upd H5 t1 (.tup [V.int (near : Nat), .int ((i + 1 : Nat) : Int)])) := same_upd ht1
          have e6 : upd H5 t1 (.tup [V.int (near : Nat), .int ((i + 1 : Nat) : Int)]) t1 = some (.tup [V.int (near : Nat), .int ((i + 1 : Nat) : Int)]) := upd_same
          generalize upd H5 t1 (.tup [V.int (near : Nat), .int ((i + 1 : Nat) : Int)]) = H6 at s6 e6 ⊢
          refine ⟨_, rfl, _, rfl, by show 2 ≤ sizeLine; decide, fun t2 ht2 => ?_⟩
          have s7 : Same H6 (upd H6 t2 (.tup [.int ((i + 1 : Nat) : Int), V.int (near : Nat)])) := same_upd ht2
          have e7 : upd H6 t2 (.tup [.int ((i + 1 : Nat) : Int), V.int (near : Nat)]) t2 = some (.tup [.int ((i + 1 : Nat) : Int), V.int (near : Nat)]) := upd_same
          generalize upd H6 t2 (.tup [.int ((i + 1 : Nat) : Int), V.int (near : Nat)]) = H7 at s7 e7 ⊢
          refine ⟨by show 2 ≤ sizeLine; decide, fun l2 hl2 => ?_⟩
          have s8 : Same H7 (upd H7 l2 (.lst [.ref t1, .ref t2])) := same_upd hl2
          have e8 : upd H7 l2 (.lst [.ref t1, .ref t2]) l2 = some (.lst [.ref t1, .ref t2]) := upd_same
          generalize upd H7 l2 (.lst [.ref t1, .ref t2]) = H8 at s8 e8 ⊢
          have l4 : LinksA e.N H4 fl ts ls := l3.kp k4.1 fun b hb => hb
          have s48 : Same H4 H8 := s5.trans (s6.trans (s7.trans s8))
          refine ⟨fl, l2, _, _, rfl, rfl, s48 _ _ l4.at_, e8, by rw [List.length_map, l4.len]; have := o.len; have h2 := sizeLine_eq; simp only [List.length_cons, List.length_nil]; omega, fun p hp => ?_⟩
          have s9 : Same H8 (upd H8 p (.lst (ts.map V.ref ++ [.ref t1, .ref t2]))) := same_upd hp
          have k5 := k3.trans k4
          have hn : ∀ b, H4 b = none → e.N b := fun b hb => k4.2.new hb
          refine ⟨p, ts ++ [t1] ++ [t2], ls ++ [(near, i + 1)] ++ [(i + 1, near)], _, _, rfl, k5.same (s48.trans s9), cat_links l4 (s48.trans s9) upd_same (hn _ (s48.free hp)) (hn _ (s5.free ht1)) (hn _ ((s5.trans s6).free ht2)) (s9 _ _ (s8 _ _ (s7 _ _ e6))) (s9 _ _ (s8 _ _ e7)), k5.1.dom _ (s48.free hp), o.add hk3 (by omega) hnear⟩
        · exact ⟨fl, ts, ls, _, _, rfl, k3, l3, f3, o.next fun z => e3 (decide_eq_true (by omega))⟩
      rintro σ H3 ⟨fl, ts, ls, y, z, rfl, k3, l3, f3, o⟩
      have o2 := o.done (by omega)
      clear o
      refine ⟨_, rfl, (n : Nat), rfl, by omega, by omega, for_range (lo := 0) (n := ((n : Nat) : Int).toNat) (fun x σ H' => ∃ (fl : Addr) (ts : List Addr) (ls : Links) (y z u : Option V), σ = [some (.ref e.bx), some (.int (n : Nat)), some (.int (kd : Nat)), some (.ref fl), y, z, u] ∧ K4 e H H' ∧ LinksA e.N H' fl ts ls ∧ H fl = none ∧ Out2 n kd x ls)
        ⟨fl, ts, ls, _, _, _, rfl, k3, l3, f3, o2⟩ ?_ ?_⟩
      · clear k3 l3 f3 o2 k2 l2 f2 hfl0
        rintro x σ H3 hx ⟨fl, ts, ls, y, z, u, rfl, k3, l3, f3, o⟩
        rw [Int.zero_add]
        have hxn : x < n := by omega
        refine ⟨_, rfl, rfl, _, rfl, ?_⟩
        by_cases hk3 : kd = 3
        rw [decide_eq_true (show V.int ((kd : Nat) : Int) = V.int 3 by rw [hk3]; rfl)]
        refine iteT ⟨_, rfl, _, _, rfl, rfl, _, rfl, ?_⟩
        by_cases hn1 : 1 < n
        rw [decide_eq_true (show (1 : Int) < ((n : Nat) : Int) by omega)]
        refine iteT ⟨_, rfl, .inl ⟨rfl, _, SqL.of l3.at_⟩, _, rfl, _, rfl, _, _, rfl, rfl, .inl ⟨_, rfl, _, rfl, _, _, rfl, rfl, (show (0 : Int) < ((n : Nat) : Int) by omega), by show 2 ≤ sizeLine; decide, fun t ht => ?_⟩⟩
        have hmod : (((x : Nat) : Int) + 1) % ((n : Nat) : Int) = (((x + 1) % n : Nat) : Int) := by simp
        simp only [hmod]
        obtain ⟨e1, k3, l3⟩ := app_links (q := (x, (x + 1) % n)) k3 l3 f3 ht
        refine ⟨fl, _, _, rfl, rfl, e1, small1000 (by rw [List.length_map]; have := o.len; have := l3.len; simp at this; omega), ?_⟩
        have i3 := o.ring hk3 hn1 n24 hxn
        generalize upd (upd _ t _) fl _ = H3 at k3 l3 ⊢
        generalize ls ++ [(x, (x + 1) % n)] = ls at l3 i3
        generalize ts ++ [t] = ts at l3
        clear e1 hmod ht o hn1
        rotate_left
        rw [decide_eq_false (show ¬ (1 : Int) < ((n : Nat) : Int) by omega)]
        refine iteF ?_
        have i3 := o.start (.inr (by omega)) hxn
        clear hn1 o
        rotate_left
        rw [decide_eq_false (show ¬ V.int ((kd : Nat) : Int) = V.int 3 from fun z => hk3 (by have := V.int.inj z; omega))]
        refine iteF ?_
        have i3 := o.start (.inl hk3) hxn
        clear o
        all_goals
          refine ⟨_, rfl, (n : Nat), rfl, by omega, by omega, for_range (lo := 0) (n := ((n : Nat) : Int).toNat) (fun y σ H' => ∃ (fl : Addr) (ts : List Addr) (ls : Links) (z u : Option V), σ = [some (.ref e.bx), some (.int (n : Nat)), some (.int (kd : Nat)), some (.ref fl), some (.int (x : Nat)), z, u] ∧ K4 e H H' ∧ LinksA e.N H' fl ts ls ∧ H fl = none ∧ In2 n kd x y ls)
            ⟨fl, ts, ls, _, _, rfl, k3, l3, f3, i3⟩ ?_ ?_⟩
          · clear k3 l3 f3 i3
            rintro y σ H3 hy ⟨fl, ts, ls, z, u, rfl, k3, l3, f3, i3⟩
            rw [Int.zero_add]
            have hyn : y < n := by omega
            have hlen : (ts.map V.ref).length ≤ 1000 := by rw [List.length_map, l3.len]; have := i3.len; omega
            refine ⟨_, rfl, rfl, _, rfl, ?_⟩
            by_cases hk4 : kd = 4
            · rw [decide_eq_true (show V.int ((kd : Nat) : Int) = V.int 4 by rw [hk4]; rfl)]
              refine iteT ⟨_, rfl, _, rfl, rfl, _, rfl, ?_⟩
              have hd5 : decide ((5 : Int) < ((kd : Nat) : Int)) = false := decide_eq_false (by omega)
              by_cases hxy : x = y
              · rw [decide_eq_true (show V.int ((x : Nat) : Int) = V.int ((y : Nat) : Int) by rw [hxy])]
                refine iteF ⟨_, rfl, _, _, rfl, rfl, _, rfl, ?_⟩
                rw [hd5]
                exact iteF ⟨fl, ts, ls, _, _, rfl, k3, l3, f3, i3.next⟩
              · rw [decide_eq_false (show ¬ V.int ((x : Nat) : Int) = V.int ((y : Nat) : Int) from fun z => hxy (by have := V.int.inj z; omega))]
                refine iteT ⟨_, rfl, .inl ⟨rfl, _, SqL.of l3.at_⟩, _, rfl, _, rfl, by show 2 ≤ sizeLine; decide, fun t ht => ?_⟩
                obtain ⟨e1, k4, l4⟩ := app_links (q := (x, y)) k3 l3 f3 ht
                refine ⟨fl, _, _, rfl, rfl, e1, small1000 hlen, ?_⟩
                refine ⟨_, rfl, _, _, rfl, rfl, _, rfl, ?_⟩
                rw [hd5]
                exact iteF ⟨fl, _, _, _, _, rfl, k4, l4, f3, i3.add (by omega) (h6 (by omega)) hxn hyn hxy⟩
            · rw [decide_eq_false (show ¬ V.int ((kd : Nat) : Int) = V.int 4 from fun z => hk4 (by have := V.int.inj z; omega))]
              refine iteF ⟨_, rfl, _, _, rfl, rfl, _, rfl, ?_⟩
              by_cases hk5 : 5 < kd
              · rw [decide_eq_true (show (5 : Int) < ((kd : Nat) : Int) by omega)]
                refine iteT ⟨_, rfl, _, rfl, rfl, _, rfl, ?_⟩
                by_cases hxy : x = y
                · rw [decide_eq_true (show V.int ((x : Nat) : Int) = V.int ((y : Nat) : Int) by rw [hxy])]
                  exact iteF ⟨fl, ts, ls, _, _, rfl, k3, l3, f3, i3.next⟩
                · rw [decide_eq_false (show ¬ V.int ((x : Nat) : Int) = V.int ((y : Nat) : Int) from fun z => hxy (by have := V.int.inj z; omega))]
                  refine iteT ⟨_, rfl, _, rfl, _, _, rfl, rfl, kd - 4, ?_, k3.2, by omega, by omega, fun d H4 hd k4 => ?_⟩
                  · exact congrArg (fun z => [V.ref e.bx, V.int z]) (show ((kd : Nat) : Int) - 4 = ((kd - 4 : Nat) : Int) by omega)
                  · refine ⟨rfl, _, rfl, ?_⟩
                    have k5 := k3.trans k4
                    have l5 := l3.kp k4.1 fun b hb => hb
                    refine ite2 (fun _ => ?_) (fun _ => ?_)
                    · refine ⟨_, rfl, .inl ⟨rfl, _, SqL.of l5.at_⟩, _, rfl, _, rfl, by show 2 ≤ sizeLine; decide, fun t ht => ?_⟩
                      obtain ⟨e1, k6, l6⟩ := app_links (q := (x, y)) k5 l5 f3 ht
                      refine ⟨fl, _, _, rfl, rfl, e1, small1000 hlen, ?_⟩
                      exact ⟨fl, _, _, _, _, rfl, k6, l6, f3, i3.add (by omega) (h6 (by omega)) hxn hyn hxy⟩
                    · exact ⟨fl, ts, ls, _, _, rfl, k5, l5, f3, i3.next⟩
              · rw [decide_eq_false (show ¬ (5 : Int) < ((kd : Nat) : Int) by omega)]
                exact iteF ⟨fl, ts, ls, _, _, rfl, k3, l3, f3, i3.next⟩
          · clear k3 l3 f3 i3
            rintro σ H3 ⟨fl, ts, ls, z, u, rfl, k3, l3, f3, i3⟩
            exact ⟨fl, ts, ls, _, _, _, rfl, k3, l3, f3, i3.done h6⟩
      · clear k3 l3 f3 o2 k2 l2 f2 hfl0
        rintro σ H3 ⟨fl, ts, ls, y, z, u, rfl, k3, l3, f3, o⟩
        refine ⟨_, rfl, sorted_of l3 o.ok.nd fun p ts' wl hp hL hasc hperm => ?_⟩
        refine q _ p ts' wl (k3.same (same_upd hp)) (hL.imp fun b hb => hb.elim id fun hb => k3.2.new hb) hasc (fun q hq => o.ok.bd q (hperm.mem_iff.mp hq)) (by rw [hperm.length_eq]; exact o.len)
end
end K8

set_option maxHeartbeats 4000000
namespace K8
open PySem PySem.Spec PyProof.Rows L2
/-! ### _law_world -/
structure WoA (C : AP) (H : Hp) (a la ha : Addr) (ts : List Addr) (n sz : Nat) (links : Links) (homes : List Int) : Prop where
  c : C a
  at_ : H a = some (.tup [.int (n : Nat), .ref la, .ref ha])
  li : LinksA C H la ts links
  ho : Ints C H ha homes
  hl : homes.length = sz
  hb : ∀ h ∈ homes, 0 ≤ h ∧ h < (n : Int)
  w : OkW n sz links
  asc : Asc2 links
  l64 : links.length < 64
section
variable {C C' E : AP} {H H' : Hp} {a la ha : Addr} {ts : List Addr} {n sz : Nat} {links : Links} {homes : List Int}
theorem WoA.kp (h : WoA C H a la ha ts n sz links homes) (k : Kp E H H') (m : ∀ b, C b → ¬ E b) : WoA C H' a la ha ts n sz links homes := ⟨h.c, k.keep _ _ h.at_ (m _ h.c), h.li.kp k m, h.ho.kp k m, h.hl, h.hb, h.w, h.asc, h.l64⟩
theorem WoA.same (h : WoA C H a la ha ts n sz links homes) (k : Same H H') : WoA C H' a la ha ts n sz links homes := ⟨h.c, k _ _ h.at_, h.li.same k, h.ho.same k, h.hl, h.hb, h.w, h.asc, h.l64⟩
theorem WoA.imp (h : WoA C H a la ha ts n sz links homes) (m : ∀ b, C b → C' b) : WoA C' H a la ha ts n sz links homes := ⟨m _ h.c, h.at_, h.li.imp m, h.ho.imp m, h.hl, h.hb, h.w, h.asc, h.l64⟩
end
abbrev sWorld : Stmt := top 35
theorem scWorld : FnScope ["_law_box_here", "_law_kind", "_law_count", "_law_size", "_law_links_here", "_law_homes", "_law_entry"] ["_law_box_here"] (defScope sWorld) := ⟨rfl, rfl, rfl, by decide +kernel, rfl, by decide +kernel, by decide +kernel⟩
def spWorld (e : W4) : Sp := fun vs H Q _ => vs = [.ref e.bx] ∧ SA e H ∧ ∀ (H' : Hp) (a la ha : Addr) (ts : List Addr) (n sz : Nat) (links : Links) (homes : List Int), K4 e H H' → WoA e.N H' a la ha ts n sz links homes → Q (.ref a) H'
theorem Ints.k4 {e : W4} {H H' : Hp} {a : Addr} {l : List Int} (h : Ints e.N H a l) (k : K4 e H H') : Ints e.N H' a l := h.kp k.1 fun _ h => h
theorem LinksA.k4 {e : W4} {H H' : Hp} {a : Addr} {ts : List Addr} {l : Links} (h : LinksA e.N H a ts l) (k : K4 e H H') : LinksA e.N H' a ts l := h.kp k.1 fun _ h => h
theorem LogsA.k4 {e : W4} {H H' : Hp} {a : Addr} {as : List Addr} {l : Logs} (h : LogsA e.N H a as l) (k : K4 e H H') : LogsA e.N H' a as l := h.kp k.1 fun _ h => h
theorem WoA.k4 {e : W4} {H H' : Hp} {a la ha : Addr} {ts : List Addr} {n sz : Nat} {links : Links} {homes : List Int} (h : WoA e.N H a la ha ts n sz links homes) (k : K4 e H H') : WoA e.N H' a la ha ts n sz links homes := h.kp k.1 fun _ h => h
/-! what stands is there -/
theorem some_ne {H : Hp} {b : Addr} {o : HO} (h : H b = some o) : H b ≠ none := by rw [h]; exact fun z => by cases z
theorem Ints.live {C : AP} {H : Hp} {a : Addr} {l : List Int} (h : Ints C H a l) : Ints (fun b => C b ∧ H b ≠ none) H a l := ⟨⟨h.1, some_ne h.2⟩, h.2⟩
theorem LinksA.live {C : AP} {H : Hp} {a : Addr} {ts : List Addr} {l : Links} (h : LinksA C H a ts l) : LinksA (fun b => C b ∧ H b ≠ none) H a ts l := ⟨⟨h.c, some_ne h.at_⟩, h.at_, h.len, fun i t q e1 e2 => let ⟨x, y⟩ := h.row i t q e1 e2; ⟨⟨x, some_ne y⟩, y⟩⟩
theorem LogsA.live {C : AP} {H : Hp} {a : Addr} {as : List Addr} {l : Logs} (h : LogsA C H a as l) : LogsA (fun b => C b ∧ H b ≠ none) H a as l := ⟨⟨h.c, some_ne h.at_⟩, h.at_, h.len, fun i t q e1 e2 => (h.row i t q e1 e2).live⟩
theorem WoA.live {C : AP} {H : Hp} {a la ha : Addr} {ts : List Addr} {n sz : Nat} {links : Links} {homes : List Int} (h : WoA C H a la ha ts n sz links homes) : WoA (fun b => C b ∧ H b ≠ none) H a la ha ts n sz links homes := ⟨⟨h.c, some_ne h.at_⟩, h.at_, h.li.live, h.ho.live, h.hl, h.hb, h.w, h.asc, h.l64⟩
/-- all but what was not there is kept -/
theorem kp_new {H H1 H' : Hp} {p : Addr} {o : HO} (k : Kp (fun b => H b = none) H H1) (hp : H p = none) : Kp (fun b => H b = none) H (upd H1 p o) := by
  refine ⟨fun b o2 e n => ?_, fun b e => ?_⟩
  · rw [upd_ne (ne_of_none e hp)]
    exact k.keep b o2 e n
  · by_cases h : b = p
    · rw [h]; exact hp
    · rw [upd_ne h] at e
      exact k.dom b e
/-- one of a written list of numbers -/
theorem pick {l : List Nat} {lo hi : Nat} (hl : ∀ c ∈ l, lo ≤ c ∧ c ≤ hi) {d : Nat} (hd : d < l.length) : ∃ c : Nat, lo ≤ c ∧ c ≤ hi ∧ atI (nv l) ((d : Nat) : Int) = some (.int (c : Nat)) := by
  refine ⟨l[d], (hl _ (List.getElem_mem hd)).1, (hl _ (List.getElem_mem hd)).2, atI_nat ?_⟩
  unfold nv
  rw [List.getElem?_map, List.getElem?_eq_getElem hd]
  rfl
section
variable {P : Program} {w : World} {K : PySem.W.Frag} {mg : Str → Option Value} {base : Heap}
theorem ok_world {f : Addr} {fd : FuncData} {e : W4} (F : FnT K "_law_world" sWorld f fd) (hm : mg "_law_world" = some (.ref f)) (B : NB mg) (cTake : Cal P w K mg base CX0 1 "_law_take" (spTake e)) (cLnk : Cal P w K mg base CX0 2 "_law_links" (spLnk e)) :
    Cal P w K mg base CX0 3 "_law_world" (spWorld e) := by
  refine cal0 F hm (fun _ _ _ _ _ _ us hl => match us, hl with | [_], _ => rfl) scWorld (fun vs H Q E h => ?_) (fun cdv A outer s H vs Q E hr h => ?_)
  · obtain ⟨rfl, _⟩ := h
    rfl
  · obtain ⟨rfl, hS, q⟩ := h
    refine ⟨_, pss_cons (ps_set (i := 1) scWorld.nd rfl (Or.inl rfl) (pe_c cTake hr (by decide) (by rfl) (pa_cons (pv 0) (pa_cons pe_int pa_nil))))
      (pss_cons (ps_set (i := 2) scWorld.nd rfl (Or.inl rfl) (pe_ix ix_list (pe_lst (pa_cons pe_int (pa_cons pe_int (pa_cons pe_int (pa_cons pe_int (pa_cons pe_int (pa_cons pe_int (pa_cons pe_int (pa_cons pe_int (pa_cons pe_int (pa_cons pe_int pa_nil)))))))))))
        (pe_c cTake hr (by decide) (by rfl) (pa_cons (pv 0) (pa_cons pe_int pa_nil))) (fun _ _ => rfl)))
      (pss_cons (ps_set (i := 3) scWorld.nd rfl (Or.inl rfl) (pe_ix ix_list (pe_lst (pa_cons pe_int (pa_cons pe_int (pa_cons pe_int (pa_cons pe_int (pa_cons pe_int (pa_cons pe_int (pa_cons pe_int (pa_cons pe_int (pa_cons pe_int (pa_cons pe_int (pa_cons pe_int (pa_cons pe_int pa_nil)))))))))))))
        (pe_c cTake hr (by decide) (by rfl) (pa_cons (pv 0) (pa_cons pe_int pa_nil))) (fun _ _ => rfl)))
      (pss_cons (ps_if (pt_cmpR op_eq (pv 1) pe_int (nomark _))
        (pss_cons (ps_set (i := 2) scWorld.nd rfl (Or.inl rfl) (pe_op op_add pe_int (pe_c cTake hr (by decide) (by rfl) (pa_cons (pv 0) (pa_cons pe_int pa_nil)))))
        (pss_one (ps_set (i := 3) scWorld.nd rfl (Or.inl rfl) (pe_c cTake hr (by decide) (by rfl) (pa_cons (pv 0) (pa_cons pe_int pa_nil)))))) pss_nil)
      (pss_cons (ps_if (pt_cmpR op_eq (pv 1) pe_int (nomark _))
        (pss_cons (ps_set (i := 2) scWorld.nd rfl (Or.inl rfl) (pe_op op_add pe_int (pe_c cTake hr (by decide) (by rfl) (pa_cons (pv 0) (pa_cons pe_int pa_nil)))))
        (pss_one (ps_set (i := 3) scWorld.nd rfl (Or.inl rfl) (pe_op op_add pe_int (pe_c cTake hr (by decide) (by rfl) (pa_cons (pv 0) (pa_cons (pe_ix ix_list (pe_lst (pa_cons pe_int (pa_cons pe_int (pa_cons pe_int pa_nil)))) (pe_op op_sub (pv 2) pe_int) (fun _ _ => rfl)) pa_nil))))))) pss_nil)
      (pss_cons (ps_set (i := 4) scWorld.nd rfl (Or.inl rfl) (pe_c cLnk hr (by decide) (by rfl) (pa_cons (pv 0) (pa_cons (pv 2) pa_nil))))
      (pss_cons (ps_set (i := 5) scWorld.nd rfl (Or.inl rfl) (pe_lst pa_nil))
      (pss_cons (ps_for PassesOwn.never rfl (pi_range1 (by rfl) B.rng (pa_cons (pv 3) pa_nil)) (pg_name (i := 6) scWorld.nd rfl (.inl rfl))
        (pss_one (ps_expr (pe_bm PySem.F.plainAttrs_list PySem.F.slot_list_append PySem.F.type_list_append mt_append (pv 5) (pa_cons (pe_c cTake hr (by decide) (by rfl) (pa_cons (pv 0) (pa_cons (pv 2) pa_nil))) pa_nil)))))
      (pss_one (ps_ret (pe_tup (pa_cons (pv 2) (pa_cons (pv 4) (pa_cons (pv 5) pa_nil))))))))))))), ?_⟩
    refine ⟨_, rfl, 8, rfl, hS, by decide, by decide, fun kd H1 hkd k1 => ?_⟩
    refine ⟨by show 10 ≤ sizeLine; decide, fun l hl => ?_⟩
    have s1 : Same H1 (upd H1 l (.lst (nv [1, 2, 2, 3, 3, 3, 4, 4, 5, 6]))) := same_upd hl
    refine ⟨_, rfl, 10, rfl, k1.2.same s1, by decide, by decide, fun d1 H2 hd1 k2 => ?_⟩
    obtain ⟨n0, hn1, hn6, hn⟩ := pick (l := [1, 2, 2, 3, 3, 3, 4, 4, 5, 6]) (lo := 1) (hi := 6) (by decide) hd1
    refine ⟨l, _, _, _, rfl, rfl, SqL.of (k2.1.keep _ _ upd_same (k1.2.new hl)), hn, ?_⟩
    have k3 := (k1.same s1).trans k2
    clear k1 k2 s1 hl hn
    refine ⟨by show 12 ≤ sizeLine; decide, fun l hl => ?_⟩
    have s1 : Same H2 (upd H2 l (.lst (nv [0, 1, 2, 2, 3, 3, 4, 4, 5, 5, 6, 7]))) := same_upd hl
    refine ⟨_, rfl, 12, rfl, k3.2.same s1, by decide, by decide, fun d2 H3 hd2 k2 => ?_⟩
    obtain ⟨z0, _, hz6, hz⟩ := pick (l := [0, 1, 2, 2, 3, 3, 4, 4, 5, 5, 6, 7]) (lo := 0) (hi := 7) (by decide) hd2
    refine ⟨l, _, _, _, rfl, rfl, SqL.of (k2.1.keep _ _ upd_same (k3.2.new hl)), hz, ?_⟩
    have k4 := (k3.same s1).trans k2
    clear k3 k2 s1 hl hz H1 H2
    refine ⟨_, rfl, rfl, _, rfl, ?_⟩
    have fin : ∀ n sz : Nat, 1 ≤ n ∧ n ≤ 24 ∧ sz ≤ 60 → 1 ≤ n ∧ n ≤ 24 ∧ sz ≤ 60 := fun _ _ h => h
    by_cases hk6 : kd = 6
    -- kind 6
    rw [decide_eq_true (show V.int ((kd : Nat) : Int) = V.int 6 by rw [hk6]; rfl)]
    refine iteT ⟨_, rfl, 18, rfl, k4.2, by decide, by decide, fun d3 H1 hd3 k1 => ?_⟩
    refine ⟨_, _, rfl, rfl, _, rfl, 4, rfl, k1.2, by decide, by decide, fun d4 H2 hd4 k2 => ?_⟩
    have en : (7 : Int) + ((d3 : Nat) : Int) = ((7 + d3 : Nat) : Int) := by omega
    simp only [en]
    refine ⟨_, rfl, rfl, _, rfl, ?_⟩
    rw [decide_eq_false (show ¬ V.int ((kd : Nat) : Int) = V.int 7 from fun z => by have := V.int.inj z; omega)]
    refine iteF ?_
    have k5 := (k4.trans k1).trans k2
    have hw := fin (7 + d3) d4 ⟨by omega, by omega, by omega⟩
    generalize 7 + d3 = n at hw ⊢
    generalize d4 = sz at hw ⊢
    rotate_left
    rw [decide_eq_false (show ¬ V.int ((kd : Nat) : Int) = V.int 6 from fun z => hk6 (by have := V.int.inj z; omega))]
    refine iteF ⟨_, rfl, rfl, _, rfl, ?_⟩
    by_cases hk7 : kd = 7
    -- kind 7
    rw [decide_eq_true (show V.int ((kd : Nat) : Int) = V.int 7 by rw [hk7]; rfl)]
    refine iteT ⟨_, rfl, 3, rfl, k4.2, by decide, by decide, fun d3 H1 hd3 k1 => ?_⟩
    refine ⟨_, _, rfl, rfl, _, rfl, by show 3 ≤ sizeLine; decide, fun l hl => ?_⟩
    obtain ⟨m, hm1, hm53, hat⟩ := pick (l := [53, 53, 16]) (lo := 1) (hi := 53) (by decide) hd3
    have s1 : Same H1 (upd H1 l (.lst (nv [53, 53, 16]))) := same_upd hl
    refine ⟨_, rfl, _, _, rfl, rfl, l, _, _, _, rfl, rfl, SqL.of (upd_same (o := .lst (nv [53, 53, 16]))), ?_, m, rfl, k1.2.same s1, hm1, by omega, fun d4 H2 hd4 k2 => ?_⟩
    · rw [show (1 : Int) + ((d3 : Nat) : Int) - 1 = ((d3 : Nat) : Int) by omega]
      exact hat
    refine ⟨_, _, rfl, rfl, ?_⟩
    have en : (1 : Int) + ((d3 : Nat) : Int) = ((1 + d3 : Nat) : Int) := by omega
    have ez : (8 : Int) + ((d4 : Nat) : Int) = ((8 + d4 : Nat) : Int) := by omega
    simp only [en, ez]
    have k5 := (k4.trans (k1.same s1)).trans k2
    have hw := fin (1 + d3) (8 + d4) ⟨by omega, by omega, by omega⟩
    generalize 1 + d3 = n at hw ⊢
    generalize 8 + d4 = sz at hw ⊢
    rotate_left
    -- the others
    rw [decide_eq_false (show ¬ V.int ((kd : Nat) : Int) = V.int 7 from fun z => hk7 (by have := V.int.inj z; omega))]
    refine iteF ?_
    have k5 := k4
    have hw := fin n0 z0 ⟨by omega, by omega, by omega⟩
    generalize n0 = n at hw ⊢
    generalize z0 = sz at hw ⊢
    all_goals
      obtain ⟨hn1, hn24, hz60⟩ := hw
      refine ⟨_, rfl, _, rfl, n, rfl, k5.2, hn1, hn24, fun H6 la ts wl k6 hla hasc hbd h64 => ⟨Nat.zero_le _, fun ha hha => ?_⟩⟩
      have k7 := k5.trans k6
      have s7 : Same H6 (upd H6 ha (.lst [])) := same_upd hha
      have hN := k7.2.new hha
      have hHa := k7.1.dom _ hha
      refine ⟨_, rfl, (sz : Nat), rfl, by omega, by omega, for_range (lo := 0) (n := ((sz : Nat) : Int).toNat) (fun i σ H' => (∃ y : Option V, σ = [some (.ref e.bx), some (.int (kd : Nat)), some (.int (n : Nat)), some (.int (sz : Nat)), some (.ref la), some (.ref ha), y]) ∧ K4 e H H' ∧ LinksA (fun b => e.N b ∧ b ≠ ha) H' la ts wl ∧ ∃ homes : List Int, H' ha = some (.lst (homes.map V.int)) ∧ homes.length = i ∧ ∀ h ∈ homes, 0 ≤ h ∧ h < (n : Int))
        ⟨⟨_, rfl⟩, k7.same s7, (hla.live.imp fun b hb => ⟨hb.1, fun z => hb.2 (by rw [z]; exact hha)⟩).same s7, [], upd_same, rfl, fun h hh => (by cases hh)⟩ ?_ ?_⟩
      · rintro i σ H' hi ⟨⟨y, rfl⟩, k8, hla8, homes, hh, hhl, hhb⟩
        refine ⟨_, rfl, .inl ⟨rfl, _, SqL.of hh⟩, _, rfl, _, rfl, n, rfl, k8.2, hn1, by omega, fun d H9 hd k9 => ?_⟩
        have hh9 := k9.1.keep _ _ hh hN
        refine ⟨ha, _, _, rfl, rfl, hh9, small1000 (by rw [List.length_map]; omega), ?_⟩
        have hla9 := (hla8.kp k9.1 fun b hb => hb.1).kp (E := fun b => b = ha) (H' := upd H9 ha (.lst (homes.map V.int ++ [.int (d : Nat)]))) (kp_upd (.inl rfl)) fun b hb => hb.2
        refine ⟨⟨_, rfl⟩, (k8.trans k9).updL hh9 hHa hN, hla9, homes ++ [((d : Nat) : Int)], by rw [upd_same, List.map_append]; rfl, by rw [List.length_append, hhl]; rfl, fun h hm => ?_⟩
        rcases List.mem_append.mp hm with hm | hm
        · exact hhb h hm
        · rw [List.mem_singleton.mp hm]
          omega
      · rintro σ H' ⟨⟨y, rfl⟩, k8, hla8, homes, hh, hhl, hhb⟩
        refine ⟨_, rfl, _, rfl, _, rfl, by show 3 ≤ sizeLine; decide, fun t ht => ?_⟩
        have s9 : Same H' (upd H' t (.tup [.int (n : Nat), .ref la, .ref ha])) := same_upd ht
        exact q _ t la ha ts n sz wl homes (k8.same s9) ⟨k8.2.new ht, upd_same, (hla8.imp fun b hb => hb.1).same s9, ⟨hN, s9 _ _ hh⟩, by omega, hhb, ⟨hn1, hn24, hz60, hbd⟩, hasc, h64⟩
end
end K8

set_option maxHeartbeats 4000000
namespace K8
open PySem PySem.Spec PyProof.Rows L2
theorem SA.kp1 {e : W4} {H H' : Hp} {F : AP} (h : SA e H) (k : Kp F H H') (n : ∀ b, e.E b → ¬ F b) (m : ∀ b q, F b → H b ≠ some (LamX.CodeO b q)) : SA e H' := by
  obtain ⟨g, t, c, h1, h2⟩ := h.box
  refine ⟨⟨g, t, c, k.keep _ _ h1 (n _ (.inl rfl)), k.keep _ _ h2 (n _ (.inr (.inl rfl)))⟩, ?_, ?_, h.ne⟩
  · obtain ⟨ps, a1, a2⟩ := h.t1
    exact ⟨ps, k.keep _ _ a1 (n _ (.inr (.inr (.inl rfl)))), a2⟩
  · obtain ⟨ps, a1, a2, a3⟩ := h.t2
    refine ⟨ps, k.keep _ _ a1 (n _ (.inr (.inr (.inr rfl)))), a2, fun pos cv hc => ?_⟩
    obtain ⟨c0, e1, e2⟩ := a3 pos cv hc
    exact ⟨c0, e1, k.keep _ _ e2 fun z => m _ _ z e2⟩
theorem K4.kp1 {e : W4} {H H1 H' : Hp} {F : AP} (k : K4 e H H1) (k2 : Kp F H1 H') (n : ∀ b, F b → H b = none) (n2 : ∀ b, F b → e.N b) (m : ∀ b q, F b → H1 b ≠ some (LamX.CodeO b q)) : K4 e H H' := by
  refine ⟨⟨fun b o e1 e2 => k2.keep b o (k.1.keep b o e1 e2) fun z => ?_, fun b z => k.1.dom b (k2.dom b z)⟩, k.2.kp1 k2 (fun b hb hf => n2 b hf hb) m⟩
  rw [n b z] at e1
  cases e1
theorem SA.tupN {e : W4} {H : Hp} (h : SA e H) {b : Addr} {xs : List V} (hb : H b = some (.tup xs)) : e.N b := by
  obtain ⟨g, t, c, h1, h2⟩ := h.box
  obtain ⟨ps, h3, _⟩ := h.t1
  obtain ⟨ps4, h4, _⟩ := h.t2
  rintro (z | z | z | z)
  · rw [z, h1] at hb; cases hb
  · rw [z, h2] at hb; cases hb
  · rw [z, h3] at hb; cases hb
  · rw [z, h4] at hb; cases hb
/-! ### _law_net -/
abbrev sNetL : Stmt := top 36
theorem scNetL : FnScope ["_law_box_here", "_law_world_here", "_law_rows"] ["_law_box_here", "_law_world_here"] (defScope sNetL) := ⟨rfl, rfl, rfl, by decide +kernel, rfl, by decide +kernel, by decide +kernel⟩
def spNetL (e : W4) (CN : Addr) : Sp := fun vs H Q _ => ∃ (wa la ha : Addr) (ts : List Addr) (n sz : Nat) (links : Links) (homes : List Int), vs = [.ref e.bx, .ref wa] ∧ SA e H ∧ WoA e.N H wa la ha ts n sz links homes ∧
  ∀ (H' : Hp) (x : Addr) (ts' : List Addr), K4 e H H' → NetA CN e.N H' x ts' n links → Q (.ref x) H'
theorem LinksA.rev {C : AP} {H H' : Hp} {a p : Addr} {ts : List Addr} {l : Links} (h : LinksA C H a ts l) (cp : C p) (s : ∀ b xs, H b = some (.tup xs) → H' b = some (.tup xs)) (hp : H' p = some (.lst (ts.map V.ref).reverse)) : LinksA C H' p ts.reverse l.reverse := by
  refine ⟨cp, by rw [hp, List.map_reverse], by rw [List.length_reverse, List.length_reverse, h.len], fun i t q e1 e2 => ?_⟩
  have h1 := (List.getElem?_eq_some_iff.mp e1).1
  rw [List.length_reverse] at h1
  rw [List.getElem?_reverse h1] at e1
  rw [List.getElem?_reverse (by rw [← h.len]; exact h1), ← h.len] at e2
  obtain ⟨x, y⟩ := h.row _ t q e1 e2
  exact ⟨x, s _ _ y⟩
section
variable {P : Program} {w : World} {K : PySem.W.Frag} {mg : Str → Option Value} {base : Heap} {CC CN : Addr}
theorem ok_netL {f : Addr} {fd : FuncData} {e : W4} (F : FnT K "_law_net" sNetL f fd) (hm : mg "_law_net" = some (.ref f)) (B : NB mg) (T : TxM K mg CC CN) (cTake : Cal P w K mg base CX0 1 "_law_take" (spTake e)) (M : MkN P w K mg base 3 CN (spNet CN)) :
    Cal P w K mg base CX0 5 "_law_net" (spNetL e CN) := by
  refine cal0 F hm (fun _ _ _ _ _ _ us hl => match us, hl with | [_, _], _ => rfl) scNetL (fun vs H Q E h => ?_) (fun cdv A outer s H vs Q E hr h => ?_)
  · obtain ⟨wa, la, ha, ts, n, sz, links, homes, rfl, _⟩ := h
    rfl
  · obtain ⟨wa, la, ha, ts, n, sz, links, homes, rfl, hS, hW, q⟩ := h
    obtain ⟨fN, fdN, psN, MN, FN, bN⟩ := M.ex
    refine ⟨_, pss_cons (ps_set (i := 2) scNetL.nd rfl (Or.inl rfl) (pe_callTy (T := "list") call_list_of (by rfl) B.lst (by decide +kernel) (pa_cons (pe_ix ix_tup (pv 1) pe_int (fun _ _ => rfl)) pa_nil)))
      (pss_cons (ps_if (pt_cmpR op_eq (pe_c cTake hr (by decide) (by rfl) (pa_cons (pv 0) (pa_cons pe_int pa_nil))) pe_int (nomark _))
        (pss_one (ps_expr (pe_bm0 PySem.F.plainAttrs_list PySem.F.slot_list_reverse PySem.F.type_list_reverse mt_reverse (pv 2)))) pss_nil)
      (pss_one (ps_ret (pe_make MN FN (hr.mono (by decide)) (by rfl) T.mN bN .nil pass0 (pa_cons (pe_ix ix_tup (pv 1) pe_int (fun _ _ => rfl)) (pa_cons (pv 2) pa_nil)))))), ?_⟩
    refine ⟨_, rfl, wa, _, _, _, rfl, rfl, SqT.of hW.at_, atI_nat (j := 1) rfl, la, _, rfl, .inl (SqL.of hW.li.at_), fun rl hrl => ?_⟩
    have s1 : Same H (upd H rl (.lst (ts.map V.ref))) := same_upd hrl
    have hr1 : upd H rl (.lst (ts.map V.ref)) rl = some (.lst (ts.map V.ref)) := upd_same
    have hN : e.N rl := hS.new hrl
    refine ⟨_, rfl, 2, rfl, hS.same s1, by decide, by decide, fun d H2 hd k2 => ?_⟩
    have k3 : K4 e H H2 := (k4_same hS s1).trans k2
    have hr2 := k2.1.keep _ _ hr1 hN
    have hli2 : LinksA (fun b => e.N b ∧ b ≠ rl) H2 la ts links := ((hW.li.live.imp fun b hb => ⟨hb.1, fun z => hb.2 (by rw [z]; exact hrl)⟩).same s1).kp k2.1 fun b hb => hb.1
    have fin : ∀ (H3 : Hp) (ts3 : List Addr) (ls3 : Links), K4 e H H3 → LinksA e.N H3 rl ts3 ls3 → ls3.Perm links →
        ∀ x dx, H3 x = none → H3 dx = none → dx ≠ x → spNet CN (.ref x :: ([.int (n : Nat), .ref rl] ++ [])) (upd (upd H3 dx (.own x)) x (.ins CN dx [])) (fun v H4 => v = .non ∧ Q (.ref x) H4) E0 := by
      intro H3 ts3 ls3 k4 l4 hp x dx hx hdx hne
      have s4 : Same H3 (upd (upd H3 dx (.own x)) x (.ins CN dx [])) := fun b o eb => by
        rw [upd_ne (ne_of_none eb hx), upd_ne (ne_of_none eb hdx)]
        exact eb
      refine ⟨x, rl, dx, ts3, n, ls3, links, rfl, upd_same, (l4.same s4).imp fun _ _ => True.intro, hp, hW.asc, hW.l64, hW.w.n1, hW.w.n24, hW.w.bd, fun H' ts' k5 hNet => ⟨rfl, ?_⟩⟩
      have k6 : K4 e H H' := (k4.same s4).kp1 k5 (fun b z => by rw [z]; exact k4.1.dom _ hx) (fun b z => by rw [z]; exact k4.2.new hx) (fun b q z => by rw [z, upd_same]; unfold LamX.CodeO; intro z; cases z)
      refine q H' x ts' k6 (hNet.imp fun b hb => ?_)
      rcases hb with z | z | ⟨xs, z⟩
      · rw [z]; exact k4.2.new hx
      · exact k4.2.new (s4.free z)
      · exact k6.2.tupN z
    refine ⟨rfl, _, rfl, ?_⟩
    refine ite2 (fun _ => ?_) (fun _ => ?_)
    · refine ⟨_, rfl, .inl ⟨rfl, _, SqL.of hr2⟩, rl, _, rfl, rfl, hr2, ?_⟩
      have k4 : K4 e H (upd H2 rl (.lst (ts.map V.ref).reverse)) := k3.updL hr2 hrl hN
      have l4 : LinksA e.N (upd H2 rl (.lst (ts.map V.ref).reverse)) rl ts.reverse links.reverse := (hli2.imp fun b hb => hb.1).rev hN (fun b xs hb => by rw [upd_ne (ne_of hb hr2 (by intro z; cases z))]; exact hb) upd_same
      have w4 := hW.k4 k4
      refine ⟨_, rfl, wa, _, _, _, rfl, rfl, SqT.of w4.at_, atI_nat (j := 0) rfl, _, rfl, fin _ _ _ k4 l4 (List.reverse_perm links)⟩
    · have w4 := hW.k4 k3
      refine ⟨_, rfl, wa, _, _, _, rfl, rfl, SqT.of w4.at_, atI_nat (j := 0) rfl, _, rfl, fin _ _ _ k3 ⟨hN, hr2, hli2.len, fun i t q e1 e2 => let ⟨x, y⟩ := hli2.row i t q e1 e2; ⟨x.1, y⟩⟩ (List.Perm.refl _)⟩
end
/-! ### _law_some -/
abbrev sSome : Stmt := top 37
theorem scSome : FnScope ["_law_box_here", "_law_size", "_law_pool", "_law_found", "_law_k"] ["_law_box_here", "_law_size"] (defScope sSome) := ⟨rfl, rfl, rfl, by decide +kernel, rfl, by decide +kernel, by decide +kernel⟩
def spSome (e : W4) : Sp := fun vs H Q _ => ∃ sz : Nat, vs = [.ref e.bx, .int (sz : Nat)] ∧ SA e H ∧ sz ≤ 60 ∧ ∀ (H' : Hp) (a : Addr) (l : List Int), K4 e H H' → H a = none → Ints e.N H' a l → okLog sz l → Q (.ref a) H'
theorem ents_rg (n : Nat) : rgV 0 (n : Int) = (ents n).map V.int := by
  unfold rgV ents
  rw [Int.sub_zero, List.map_map]
  refine List.map_congr_left fun i _ => ?_
  rw [Int.zero_add]
  rfl
theorem erase_map {α β : Type} (f : α → β) (l : List α) (d : Nat) : (l.map f).eraseIdx d = (l.eraseIdx d).map f := by
  rw [List.eraseIdx_eq_take_drop_succ, List.eraseIdx_eq_take_drop_succ, List.map_append, List.map_take, List.map_drop]
theorem perm_move {l1 l2 : List Int} {d : Nat} (hd : d < l1.length) : (l1.eraseIdx d ++ (l2 ++ [l1[d]])).Perm (l1 ++ l2) := by
  have h1 : l1.Perm (l1[d] :: l1.eraseIdx d) := by
    have := List.eraseIdx_eq_take_drop_succ l1 d
    rw [this]
    have h2 : l1 = l1.take d ++ l1[d] :: l1.drop (d + 1) := by rw [List.getElem_cons_drop, List.take_append_drop]
    exact (List.Perm.of_eq h2).trans List.perm_middle
  have h3 : (l1.eraseIdx d ++ (l2 ++ [l1[d]])).Perm (l1[d] :: (l1.eraseIdx d ++ l2)) := by
    rw [← List.append_assoc]
    exact List.perm_append_singleton _ _
  exact h3.trans (List.Perm.append_right l2 h1.symm)
theorem okLog_perm {sz : Nat} {l1 l2 : List Int} (h : (l1 ++ l2).Perm (ents sz)) : okLog sz l2 := by
  have h1 : (l1 ++ l2).Nodup := h.nodup_iff.mpr (nodup_ents sz)
  exact ⟨(List.nodup_append.mp h1).2.1, fun x hx => mem_ents.mp (h.mem_iff.mp (List.mem_append_right _ hx))⟩
section
variable {P : Program} {w : World} {K : PySem.W.Frag} {mg : Str → Option Value} {base : Heap} {CC CN : Addr}
theorem ok_some {f : Addr} {fd : FuncData} {e : W4} (F : FnT K "_law_some" sSome f fd) (hm : mg "_law_some" = some (.ref f)) (B : NB mg) (cTake : Cal P w K mg base CX0 1 "_law_take" (spTake e)) :
    Cal P w K mg base CX0 2 "_law_some" (spSome e) := by
  refine cal0 F hm (fun _ _ _ _ _ _ us hl => match us, hl with | [_, _], _ => rfl) scSome (fun vs H Q E h => ?_) (fun cdv A outer s H vs Q E hr h => ?_)
  · obtain ⟨sz, rfl, _⟩ := h
    rfl
  · obtain ⟨sz, rfl, hS, h60, q⟩ := h
    refine ⟨_, pss_cons (ps_set (i := 2) scSome.nd rfl (Or.inl rfl) (pe_listRg rfl (by rfl) B.lst (prg_1 (by rfl) B.rng (pv 1))))
      (pss_cons (ps_set (i := 3) scSome.nd rfl (Or.inl rfl) (pe_lst pa_nil))
      (pss_cons (ps_for PassesOwn.never rfl (pi_range1 (by rfl) B.rng (pa_cons (pe_c cTake hr (by decide) (by rfl) (pa_cons (pv 0) (pa_cons (pe_op op_add (pv 1) pe_int) pa_nil))) pa_nil)) (pg_name (i := 4) scSome.nd rfl (.inl rfl))
        (pss_one (ps_expr (pe_bm PySem.F.plainAttrs_list PySem.F.slot_list_append PySem.F.type_list_append mt_append (pv 3) (pa_cons (pe_bm PySem.F.plainAttrs_list PySem.F.slot_list_pop PySem.F.type_list_pop mt_popAt (pv 2)
          (pa_cons (pe_c cTake hr (by decide) (by rfl) (pa_cons (pv 0) (pa_cons (pe_callB call_len_seq (by rfl) B.len PySem.boot_len (pa_cons (pv 2) pa_nil)) pa_nil))) pa_nil)) pa_nil)))))
      (pss_one (ps_ret (pv 3))))), ?_⟩
    refine ⟨_, rfl, _, rfl, RgOk.of_le (by omega) (by omega) (by omega) (by omega), fun pl hpl => ?_⟩
    rw [ents_rg]
    have s1 : Same H (upd H pl (.lst ((ents sz).map V.int))) := same_upd hpl
    have e1 : upd H pl (.lst ((ents sz).map V.int)) pl = some (.lst ((ents sz).map V.int)) := upd_same
    generalize upd H pl (.lst ((ents sz).map V.int)) = H1 at s1 e1 ⊢
    refine ⟨Nat.zero_le _, fun fl hfl => ?_⟩
    have s2 : Same H1 (upd H1 fl (.lst [])) := same_upd hfl
    have e2 : upd H1 fl (.lst []) fl = some (.lst []) := upd_same
    have hne : pl ≠ fl := ne_of_none e1 hfl
    have hflH : H fl = none := s1.free hfl
    generalize upd H1 fl (.lst []) = H2 at s2 e2 ⊢
    have k2 : K4 e H H2 := k4_same hS (s1.trans s2)
    have nf : e.N fl := hS.new hflH
    have np : e.N pl := hS.new hpl
    refine ⟨_, rfl, _, rfl, _, _, rfl, rfl, sz + 1, rfl, k2.2, by omega, by omega, fun m H3 hm k3 => ?_⟩
    refine ⟨((m : Nat) : Int), rfl, by omega, by omega, for_range (lo := 0) (n := ((m : Nat) : Int).toNat) (fun i σ H' => (∃ y : Option V, σ = [some (.ref e.bx), some (.int (sz : Nat)), some (.ref pl), some (.ref fl), y]) ∧ K4 e H H' ∧ ∃ l1 l2 : List Int, H' pl = some (.lst (l1.map V.int)) ∧ H' fl = some (.lst (l2.map V.int)) ∧ l2.length = i ∧ (l1 ++ l2).Perm (ents sz))
      ⟨⟨_, rfl⟩, k2.trans k3, ents sz, [], k3.1.keep _ _ (s2 _ _ e1) np, k3.1.keep _ _ e2 nf, rfl, by rw [List.append_nil]⟩ ?_ ?_⟩
    · rintro i σ H' hi ⟨⟨y, rfl⟩, k4, l1, l2, hl1, hl2, hlen, hperm⟩
      have hlens := hperm.length_eq
      rw [List.length_append] at hlens
      have hes : (ents sz).length = sz := by unfold ents; rw [List.length_map, List.length_range]
      have h1pos : 0 < l1.length := by omega
      refine ⟨_, rfl, .inl ⟨rfl, _, SqL.of hl2⟩, _, rfl, .inl ⟨rfl, _, SqL.of hl1⟩, _, rfl, _, rfl, pl, _, rfl, .inl (SqL.of hl1), (l1.map V.int).length, rfl, k4.2, by rw [List.length_map]; omega, by rw [List.length_map]; omega, fun d H5 hd k5 => ?_⟩
      rw [List.length_map] at hd
      have g1 := k5.1.keep _ _ hl1 np
      have g2 := k5.1.keep _ _ hl2 nf
      refine ⟨pl, _, _, d, .int l1[d], rfl, rfl, g1, by omega, by omega, seq_at (by rw [List.length_map]; exact hd), by rw [List.getElem?_map, List.getElem?_eq_getElem hd]; rfl, ?_⟩
      have k6 : K4 e H (upd H5 pl (.lst ((l1.map V.int).eraseIdx d))) := (k4.trans k5).updL g1 hpl np
      have g3 : upd H5 pl (.lst ((l1.map V.int).eraseIdx d)) fl = some (.lst (l2.map V.int)) := by rw [upd_ne hne.symm]; exact g2
      have g4 : upd H5 pl (.lst ((l1.map V.int).eraseIdx d)) pl = some (.lst ((l1.eraseIdx d).map V.int)) := by rw [upd_same, erase_map]
      generalize upd H5 pl (.lst ((l1.map V.int).eraseIdx d)) = H6 at k6 g3 g4 ⊢
      refine ⟨fl, _, _, rfl, rfl, g3, small1000 (by rw [List.length_map]; omega), ?_⟩
      refine ⟨⟨_, rfl⟩, k6.updL g3 hflH nf, l1.eraseIdx d, l2 ++ [l1[d]], by rw [upd_ne hne]; exact g4, by rw [upd_same, List.map_append]; rfl, by rw [List.length_append, hlen]; rfl, (perm_move hd).trans hperm⟩
    · rintro σ H' ⟨⟨y, rfl⟩, k4, l1, l2, hl1, hl2, hlen, hperm⟩
      exact ⟨_, rfl, q H' fl l2 k4 hflH ⟨nf, hl2⟩ (okLog_perm hperm)⟩
end
/-! ### _law_start -/
abbrev sStart : Stmt := top 38
theorem scStart : FnScope ["_law_box_here", "_law_world_here", "_law_logs", "_law_k"] ["_law_box_here", "_law_world_here"] (defScope sStart) := ⟨rfl, rfl, rfl, by decide +kernel, rfl, by decide +kernel, by decide +kernel⟩
def spStart (e : W4) : Sp := fun vs H Q _ => ∃ (wa la ha : Addr) (ts : List Addr) (n sz : Nat) (links : Links) (homes : List Int), vs = [.ref e.bx, .ref wa] ∧ SA e H ∧ WoA e.N H wa la ha ts n sz links homes ∧
  ∀ (H' : Hp) (a : Addr) (as : List Addr) (L : Logs), K4 e H H' → LogsA e.N H' a as L → okLogs n sz L → Q (.ref a) H'
theorem LogsA.set {C E : AP} {H H' : Hp} {a p : Addr} {as : List Addr} {L : Logs} {k : Nat} {l : List Int} (h : LogsA C H a as L) (hp : Ints C H p l) (h2 : H' a = some (.lst ((as.map V.ref).set k (.ref p)))) (m : ∀ b, b ≠ a → H' b = H b) (ne : ∀ b ∈ as, b ≠ a) (np : p ≠ a) : LogsA C H' a (as.set k p) (L.set k l) := by
  refine ⟨h.c, by rw [h2, List.map_set], by rw [List.length_set, List.length_set, h.len], fun i q r e1 e2 => ?_⟩
  by_cases hik : k = i
  · subst hik
    rw [List.getElem?_set] at e1 e2
    rw [if_pos rfl] at e1 e2
    split at e1
    · split at e2
      · cases e1
        cases e2
        exact ⟨hp.1, by rw [m _ np]; exact hp.2⟩
      · cases e2
    · cases e1
  · rw [List.getElem?_set_ne hik] at e1 e2
    have := h.row i q r e1 e2
    exact ⟨this.1, by rw [m _ (ne q (List.mem_of_getElem? e1))]; exact this.2⟩
section
variable {P : Program} {w : World} {K : PySem.W.Frag} {mg : Str → Option Value} {base : Heap} {CC CN : Addr}
theorem ok_start {f : Addr} {fd : FuncData} {e : W4} (F : FnT K "_law_start" sStart f fd) (hm : mg "_law_start" = some (.ref f)) (B : NB mg) (cTake : Cal P w K mg base CX0 1 "_law_take" (spTake e)) (cSome : Cal P w K mg base CX0 2 "_law_some" (spSome e)) :
    Cal P w K mg base CX0 3 "_law_start" (spStart e) := by
  refine cal0 F hm (fun _ _ _ _ _ _ us hl => match us, hl with | [_, _], _ => rfl) scStart (fun vs H Q E h => ?_) (fun cdv A outer s H vs Q E hr h => ?_)
  · obtain ⟨wa, la, ha, ts, n, sz, links, homes, rfl, _⟩ := h
    rfl
  · obtain ⟨wa, la, ha, ts, n, sz, links, homes, rfl, hS, hW, q⟩ := h
    refine ⟨_, pss_cons (ps_setLc (i := 2) (own := [("_law_k", 3)]) (g := gName 3) (tt := tYes) (te := tLst tNil) rfl scStart.nd rfl rfl (sw_true rfl rfl rfl (by decide +kernel)) (pi_range1 (by rfl) B.rng (pa_cons (pe_ix ix_tup (pv 1) pe_int (fun _ _ => rfl)) pa_nil))
          (blkOk_by (own := [("_law_k", 3)]) (N := ["_law_box_here", "_law_world_here", "_law_logs", "_law_k"]) (sc := defScope sStart) (by decide +kernel)) (fun _ _ _ _ _ => pg_name (i := 3) scStart.nd rfl (Or.inl rfl)) (fun _ _ _ _ _ => pts_nil) (fun _ _ _ _ _ => pe_lst pa_nil))
      (pss_cons (ps_if (pt_cmpR op_eq (pe_c cTake hr (by decide) (by rfl) (pa_cons (pv 0) (pa_cons pe_int pa_nil))) pe_int (nomark _))
        (pss_one (ps_for PassesOwn.never rfl (pi_range1 (by rfl) B.rng (pa_cons (pe_ix ix_tup (pv 1) pe_int (fun _ _ => rfl)) pa_nil)) (pg_name (i := 3) scStart.nd rfl (.inl rfl))
          (pss_one (ps_asg (pe_c cSome hr (by decide) (by rfl) (pa_cons (pv 0) (pa_cons (pe_callB call_len_seq (by rfl) B.len PySem.boot_len (pa_cons (pe_ix ix_tup (pv 1) pe_int (fun _ _ => rfl)) pa_nil)) pa_nil))) (pg_sub (pv 2) (pv 3) set_list (fun _ => rfl)))))) pss_nil)
      (pss_one (ps_ret (pv 2)))), ?_⟩
    have n24 := hW.w.n24
    have z60 := hW.w.z60
    refine ⟨_, rfl, wa, _, _, _, rfl, rfl, SqT.of hW.at_, atI_nat (j := 0) rfl, (n : Nat), rfl, by omega, by omega, fun D hD => ?_⟩
    refine lc_range (lo := 0) (n := ((n : Nat) : Int).toNat) (fun i H' => Same H H' ∧ ∃ as : List Addr, H' D = some (.lst (as.map V.ref)) ∧ as.length = i ∧ ∀ b ∈ as, H b = none ∧ b ≠ D ∧ H' b = some (.lst []))
      ⟨same_upd hD, [], upd_same, rfl, fun b h => (by cases h)⟩ ?_ ?_
    · rintro i H' hi ⟨s1, as, hD1, hlen, hall⟩
      refine ⟨rfl, Nat.zero_le _, fun l hl => ?_⟩
      have hlD : l ≠ D := fun z => by rw [z, hD1] at hl; cases hl
      refine ⟨_, by rw [upd_ne hlD.symm]; exact hD1, small1000 (by rw [List.length_map]; omega), fun b o e => ?_, as ++ [l], by rw [upd_same, List.map_append]; rfl, by rw [List.length_append, hlen]; rfl, fun b hb => ?_⟩
      · rw [upd_ne (ne_of_none e hD), upd_ne (ne_of_none e (s1.free hl))]
        exact s1 _ _ e
      · rcases List.mem_append.mp hb with hb | hb
        · obtain ⟨a1, a2, a3⟩ := hall b hb
          refine ⟨a1, a2, ?_⟩
          rw [upd_ne a2, upd_ne (ne_of_none a3 hl)]
          exact a3
        · rw [List.mem_singleton.mp hb]
          exact ⟨s1.free hl, hlD, by rw [upd_ne hlD]; exact upd_same⟩
    · rintro H1 ⟨s1, as, hD1, hlen, hall⟩
      rw [Int.toNat_natCast] at hlen
      have hN : e.N D := hS.new hD
      have lo1 : LogsA (fun b => e.N b ∧ H b = none) H1 D as (List.replicate n []) := by
        refine ⟨⟨hN, hD⟩, hD1, by rw [hlen, List.length_replicate], fun i p l e1 e2 => ?_⟩
        obtain ⟨a1, a2, a3⟩ := hall p (List.mem_of_getElem? e1)
        rw [List.getElem?_replicate] at e2
        split at e2
        · cases e2
          exact ⟨⟨hS.new a1, a1⟩, a3⟩
        · cases e2
      have ok1 : okLogs n sz (List.replicate n []) := ⟨List.length_replicate, fun l hl => by rw [List.eq_of_mem_replicate hl]; exact ⟨List.nodup_nil, fun e h => (by cases h)⟩⟩
      have ne1 : ∀ b ∈ as, b ≠ D := fun b hb => (hall b hb).2.1
      refine ⟨_, rfl, 3, rfl, hS.same s1, by decide, by decide, fun d H2 hd k2 => ?_⟩
      have k3 := (k4_same hS s1).trans k2
      have lo2 : LogsA (fun b => e.N b ∧ H b = none) H2 D as (List.replicate n []) := lo1.kp k2.1 fun b hb => hb.1
      refine ⟨rfl, _, rfl, ?_⟩
      refine ite2 (fun _ => ?_) (fun _ => ?_)
      · have w3 := hW.k4 k3
        refine ⟨_, rfl, wa, _, _, _, rfl, rfl, SqT.of w3.at_, atI_nat (j := 0) rfl, (n : Nat), rfl, by omega, by omega, for_range (lo := 0) (n := ((n : Nat) : Int).toNat) (fun i σ H' => (∃ y : Option V, σ = [some (.ref e.bx), some (.ref wa), some (.ref D), y]) ∧ K4 e H H' ∧ ∃ (as : List Addr) (L : Logs), LogsA (fun b => e.N b ∧ H b = none) H' D as L ∧ okLogs n sz L ∧ ∀ b ∈ as, b ≠ D)
          ⟨⟨_, rfl⟩, k3, as, _, lo2, ok1, ne1⟩ ?_ ?_⟩
        · rintro i σ H' hi ⟨⟨y, rfl⟩, k4, as, L, lo, ok, ne⟩
          rw [Int.zero_add]
          have w4 := hW.k4 k4
          refine ⟨_, rfl, _, rfl, wa, _, _, _, rfl, rfl, SqT.of w4.at_, atI_nat (j := 2) rfl, ha, _, rfl, .inl (SqL.of w4.ho.2), sz, by rw [List.length_map, w4.hl]; rfl, k4.2, z60, fun H5 p l k5 hp hI hok => ?_⟩
          have lo5 := lo.kp k5.1 fun b hb => hb.1
          have k6 := k4.trans k5
          have hpD : p ≠ D := fun z => by rw [z, lo.at_] at hp; cases hp
          refine ⟨_, rfl, _, rfl, D, _, _, i, rfl, rfl, lo5.at_, ixN_at (by rw [List.length_map, lo5.len, ok.1]; omega), ?_⟩
          refine ⟨⟨_, rfl⟩, k6.updL lo5.at_ hD hN, as.set i p, L.set i l, lo5.set (E := e.E) ⟨⟨hI.1, k4.1.dom _ hp⟩, hI.2⟩ upd_same (fun b hb => upd_ne hb) ne hpD, ⟨by rw [List.length_set]; exact ok.1, fun r hr => ?_⟩, fun b hb => ?_⟩
          · rcases List.mem_or_eq_of_mem_set hr with hr | hr
            · exact ok.2 r hr
            · rw [hr]; exact hok
          · rcases List.mem_or_eq_of_mem_set hb with hb | hb
            · exact ne b hb
            · rw [hb]; exact hpD
        · rintro σ H' ⟨⟨y, rfl⟩, k4, as, L, lo, ok, ne⟩
          exact ⟨_, rfl, q H' D as L k4 (lo.imp fun b hb => hb.1) ok⟩
      · exact ⟨_, rfl, q H2 D as _ k3 (lo2.imp fun b hb => hb.1) ok1⟩
end
end K8

set_option maxHeartbeats 4000000
namespace K8
open PySem PySem.Spec PyProof.Rows L2
/-! ### _law_held, _law_on_offer -/
theorem inV_ints (e : Int) (l : List Int) : inV (.int e) (l.map V.int) = decide (e ∈ l) := by
  unfold inV
  rw [List.any_map]
  by_cases h : e ∈ l
  · rw [decide_eq_true h, List.any_eq_true]
    exact ⟨e, h, beq_self_eq_true e⟩
  · rw [decide_eq_false h, List.any_eq_false]
    intro x hx hh
    exact h ((eq_of_beq (show (x == e) = true from hh)) ▸ hx)
theorem flat_ints (l : List Int) : (l.map V.int).all flatV = true := by
  rw [List.all_map, List.all_eq_true]
  intro x _
  rfl
abbrev sHeld : Stmt := top 39
abbrev sOffer : Stmt := top 40
theorem scHeld : FnScope ["_law_logs", "_law_entry", "_law_log"] ["_law_logs", "_law_entry"] (defScope sHeld) := ⟨rfl, rfl, rfl, by decide +kernel, rfl, by decide +kernel, by decide +kernel⟩
theorem scOffer : FnScope ["_law_source_log", "_law_reader_log", "_law_way", "_law_found", "_law_entry"] ["_law_source_log", "_law_reader_log", "_law_way"] (defScope sOffer) := ⟨rfl, rfl, rfl, by decide +kernel, rfl, by decide +kernel, by decide +kernel⟩
def spHeld : Sp := fun vs H Q _ => ∃ (a : Addr) (as : List Addr) (L : Logs) (e : Int), vs = [.ref a, .int e] ∧ LogsA ANY H a as L ∧ Q (.bl (decide (∃ l ∈ L, e ∈ l))) H
def offL (wy : Str) (src rdr : List Int) : List Int := if wy = "first" then (lack src rdr).take 1 else lack src rdr
def spOffer : Sp := fun vs H Q _ => ∃ (a b : Addr) (wy : Str) (src rdr : List Int), vs = [.ref a, .ref b, .str wy] ∧ Ints ANY H a src ∧ Ints ANY H b rdr ∧ src.length ≤ 1000 ∧
  ∀ (H' : Hp) (p : Addr), Same H H' → H p = none → H' p = some (.lst ((offL wy src rdr).map V.int)) → Q (.ref p) H'
section
variable {P : Program} {w : World} {K : PySem.W.Frag} {mg : Str → Option Value} {base : Heap}
theorem ok_held {f : Addr} {fd : FuncData} (F : FnT K "_law_held" sHeld f fd) (hm : mg "_law_held" = some (.ref f)) : Cal P w K mg base CX0 1 "_law_held" spHeld := by
  refine cal0 F hm (fun _ _ _ _ _ _ us hl => match us, hl with | [_, _], _ => rfl) scHeld (fun vs H Q E h => ?_) (fun cdv A outer s H vs Q E hr h => ?_)
  · obtain ⟨a, as, L, e, rfl, _⟩ := h
    rfl
  · obtain ⟨a, as, L, e, rfl, hA, q⟩ := h
    refine ⟨_, pss_cons (ps_for PassesOwn.never rfl (pi_list (pv 0)) (pg_name (i := 2) scHeld.nd rfl (.inl rfl)) (pss_one (ps_if (pt_cmpR op_in_seq (pv 1) (pv 2) (by rfl)) (pss_one (ps_ret pe_bl)) pss_nil)))
      (pss_one (ps_ret pe_bl)), ?_⟩
    refine ⟨_, rfl, a, rfl, ⟨_, SqL.of hA.at_⟩, for_list (xs := as.map V.ref) (fun i σ H' => (∃ y : Option V, σ = [some (.ref a), some (.int e), y]) ∧ H' = H ∧ ∀ l ∈ L.take i, e ∉ l) ⟨⟨_, rfl⟩, rfl, fun l h => (by simp at h)⟩ (fun i σ H' _ h => by rw [h.2.1]; exact SqL.of hA.at_) ?_ ?_⟩
    · rintro i x σ H' hx ⟨⟨y, rfl⟩, rfl, hno⟩
      obtain ⟨p, rfl, hp⟩ := refs_get hx
      have hi : i < L.length := by rw [← hA.len]; exact (List.getElem?_eq_some_iff.mp hp).1
      have hrow := hA.row i p L[i] hp (List.getElem?_eq_getElem hi)
      refine ⟨_, rfl, _, rfl, p, _, rfl, .inl (SqL.of hrow.2), rfl, flat_ints _, _, rfl, ?_⟩
      rw [if_neg (by decide), inV_ints]
      refine ite2 (fun e1 => ?_) (fun e1 => ?_)
      · have h1 := of_decide_eq_true e1
        rw [decide_eq_true (⟨_, List.getElem_mem hi, h1⟩ : ∃ l ∈ L, e ∈ l)] at q
        exact q
      · refine ⟨⟨_, rfl⟩, rfl, fun l hl => ?_⟩
        rw [take_snoc (List.getElem?_eq_getElem hi)] at hl
        rcases List.mem_append.mp hl with hl | hl
        · exact hno l hl
        · rw [List.mem_singleton.mp hl]
          exact fun z => e1 (decide_eq_true z)
    · rintro σ H' ⟨⟨y, rfl⟩, rfl, hno⟩
      rw [List.length_map, hA.len, List.take_length] at hno
      rw [decide_eq_false (fun ⟨l, h1, h2⟩ => hno l h1 h2 : ¬ ∃ l ∈ L, e ∈ l)] at q
      exact q
theorem lack_snoc {src rdr : List Int} {i : Nat} {k : Int} (hk : src[i]? = some k) : lack (src.take (i + 1)) rdr = if k ∈ rdr then lack (src.take i) rdr else lack (src.take i) rdr ++ [k] := by
  rw [take_snoc hk]
  unfold lack
  rw [List.filter_append, List.filter_cons]
  by_cases h : k ∈ rdr <;> simp [h]
theorem lack_pre (src rdr : List Int) (i : Nat) : ∃ t, lack src rdr = lack (src.take i) rdr ++ t := by
  refine ⟨lack (src.drop i) rdr, ?_⟩
  unfold lack
  rw [← List.filter_append, List.take_append_drop]
theorem ok_offer {f : Addr} {fd : FuncData} (F : FnT K "_law_on_offer" sOffer f fd) (hm : mg "_law_on_offer" = some (.ref f)) : Cal P w K mg base CX0 1 "_law_on_offer" spOffer := by
  refine cal0 F hm (fun _ _ _ _ _ _ us hl => match us, hl with | [_, _, _], _ => rfl) scOffer (fun vs H Q E h => ?_) (fun cdv A outer s H vs Q E hr h => ?_)
  · obtain ⟨a, b, wy, src, rdr, rfl, _⟩ := h
    rfl
  · obtain ⟨a, b, wy, src, rdr, rfl, hA, hB, hl, q⟩ := h
    refine ⟨_, pss_cons (ps_set (i := 3) scOffer.nd rfl (Or.inl rfl) (pe_lst pa_nil))
      (pss_cons (ps_for PassesOwn.never rfl (pi_list (pv 0)) (pg_name (i := 4) scOffer.nd rfl (.inl rfl)) (pss_one (ps_if (pt_cmpR op_notIn_seq (pv 4) (pv 1) (by rfl))
        (pss_cons (ps_expr (pe_bm PySem.F.plainAttrs_list PySem.F.slot_list_append PySem.F.type_list_append mt_append (pv 3) (pa_cons (pv 4) pa_nil)))
        (pss_one (ps_if (pt_cmpR op_eq (pv 2) pe_str (nomark _)) (pss_one (ps_ret (pv 3))) pss_nil))) pss_nil)))
      (pss_one (ps_ret (pv 3)))), ?_⟩
    refine ⟨Nat.zero_le _, fun p hp => ?_⟩
    have s1 : Same H (upd H p (.lst [])) := same_upd hp
    refine ⟨_, rfl, a, rfl, ⟨_, SqL.of (s1 _ _ hA.2)⟩, for_list (xs := src.map V.int) (fun i σ H' => (∃ y : Option V, σ = [some (.ref a), some (.ref b), some (.str wy), some (.ref p), y]) ∧ Same H H' ∧ H' p = some (.lst ((lack (src.take i) rdr).map V.int)) ∧ (wy = "first" → lack (src.take i) rdr = []))
      ⟨⟨_, rfl⟩, s1, upd_same, fun _ => rfl⟩ (fun i σ H' _ h => SqL.of (h.2.1 _ _ hA.2)) ?_ ?_⟩
    · rintro i x σ H' hx ⟨⟨y, rfl⟩, s2, hp2, hf⟩
      obtain ⟨k, rfl, hk⟩ := ints_get hx
      have hil := (List.getElem?_eq_some_iff.mp hk).1
      refine ⟨_, rfl, _, rfl, b, _, rfl, .inl (SqL.of (s2 _ _ hB.2)), rfl, flat_ints _, _, rfl, ?_⟩
      rw [if_pos rfl, inV_ints]
      have es := lack_snoc (rdr := rdr) hk
      by_cases hkr : k ∈ rdr
      · rw [decide_eq_true hkr]
        rw [if_pos hkr] at es
        exact iteF ⟨⟨_, rfl⟩, s2, by rw [es]; exact hp2, fun z => by rw [es]; exact hf z⟩
      · rw [decide_eq_false hkr]
        rw [if_neg hkr] at es
        have hll := lack_len (src.take i) rdr
        rw [List.length_take] at hll
        refine iteT ⟨_, rfl, .inl ⟨rfl, _, SqL.of hp2⟩, _, rfl, p, _, _, rfl, rfl, hp2, small1000 (by rw [List.length_map]; omega), ?_⟩
        have s3 : Same H (upd H' p (.lst ((lack (src.take i) rdr).map V.int ++ [.int k]))) := fun c o e => by
          rw [upd_ne (ne_of_none e hp)]
          exact s2 _ _ e
        have e3 : upd H' p (.lst ((lack (src.take i) rdr).map V.int ++ [.int k])) p = some (.lst ((lack (src.take (i + 1)) rdr).map V.int)) := by
          rw [upd_same, es, List.map_append]
          rfl
        refine ⟨_, rfl, rfl, _, rfl, ?_⟩
        by_cases hw : wy = "first"
        · rw [decide_eq_true (show V.str wy = V.str "first" by rw [hw])]
          refine iteT ⟨_, rfl, q _ p s3 hp ?_⟩
          rw [e3, es, hf hw]
          obtain ⟨t, et⟩ := lack_pre src rdr (i + 1)
          rw [es, hf hw] at et
          unfold offL
          rw [if_pos hw, et]
          rfl
        · rw [decide_eq_false (show ¬ V.str wy = V.str "first" from fun z => hw (V.str.inj z))]
          exact iteF ⟨⟨_, rfl⟩, s3, e3, fun z => absurd z hw⟩
    · rintro σ H' ⟨⟨y, rfl⟩, s2, hp2, hf⟩
      rw [List.length_map, List.take_length] at hp2 hf
      refine ⟨_, rfl, q H' p s2 hp ?_⟩
      rw [hp2]
      unfold offL
      by_cases hw : wy = "first"
      · rw [if_pos hw, hf hw]; rfl
      · rw [if_neg hw]
end
end K8

set_option maxHeartbeats 4000000
namespace K8
open PySem PySem.Spec PyProof.Rows L2
/-! ### actions -/
inductive Act where
  | write (e : Nat)
  | pull (s r : Nat) (e : Int)
def actV : Act → List V
  | .write e => [.str "write", .int (e : Nat)]
  | .pull s r e => [.str "pull", .int (s : Nat), .int (r : Nat), .int e]
def plc (homes : List Int) : Act → Nat
  | .write e => (homes.getD e 0).toNat
  | .pull _ r _ => r
def ent : Act → Int
  | .write e => (e : Nat)
  | .pull _ _ e => e
abbrev Valid (n sz : Nat) (homes : List Int) (L : Logs) (x : Act) : Prop := Add n sz L (plc homes x) (ent x)
structure ActsA (C : AP) (H : Hp) (a : Addr) (ts : List Addr) (acts : List Act) : Prop where
  c : C a
  at_ : H a = some (.lst (ts.map V.ref))
  len : ts.length = acts.length
  row : ∀ (i : Nat) (t : Addr) (x : Act), ts[i]? = some t → acts[i]? = some x → C t ∧ H t = some (.tup (actV x))
theorem ActsA.same {C : AP} {H H' : Hp} {a : Addr} {ts : List Addr} {acts : List Act} (h : ActsA C H a ts acts) (k : Same H H') : ActsA C H' a ts acts := ⟨h.c, k _ _ h.at_, h.len, fun i t q e1 e2 => let ⟨x, y⟩ := h.row i t q e1 e2; ⟨x, k _ _ y⟩⟩
theorem ActsA.kp {C E : AP} {H H' : Hp} {a : Addr} {ts : List Addr} {acts : List Act} (h : ActsA C H a ts acts) (k : Kp E H H') (n : ∀ b, C b → ¬ E b) : ActsA C H' a ts acts := ⟨h.c, k.keep _ _ h.at_ (n _ h.c), h.len, fun i t q e1 e2 => let ⟨x, y⟩ := h.row i t q e1 e2; ⟨x, k.keep _ _ y (n _ x)⟩⟩
theorem ActsA.imp {C C' : AP} {H : Hp} {a : Addr} {ts : List Addr} {acts : List Act} (h : ActsA C H a ts acts) (n : ∀ b, C b → C' b) : ActsA C' H a ts acts := ⟨n _ h.c, h.at_, h.len, fun i t q e1 e2 => let ⟨x, y⟩ := h.row i t q e1 e2; ⟨n _ x, y⟩⟩
theorem ActsA.snoc {C : AP} {H H2 : Hp} {a t : Addr} {ts : List Addr} {acts : List Act} {x : Act} (h : ActsA C H a ts acts) (ct : C t) (h2 : H2 a = some (.lst (ts.map V.ref ++ [.ref t]))) (ht : H2 t = some (.tup (actV x)))
    (k : ∀ b xs, H b = some (.tup xs) → H2 b = some (.tup xs)) : ActsA C H2 a (ts ++ [t]) (acts ++ [x]) := by
  refine ⟨h.c, by rw [h2, List.map_append]; rfl, by rw [List.length_append, List.length_append, h.len]; rfl, fun i t' q' e1 e2 => ?_⟩
  rcases snoc_get e1 with ⟨hi, e1⟩ | ⟨hi, e1⟩
  · rcases snoc_get e2 with ⟨hj, e2⟩ | ⟨hj, e2⟩
    · obtain ⟨a1, a2⟩ := h.row i t' q' e1 e2
      exact ⟨a1, k _ _ a2⟩
    · rw [h.len] at hi; omega
  · rcases snoc_get e2 with ⟨hj, e2⟩ | ⟨hj, e2⟩
    · rw [h.len] at hi; omega
    · rw [e1, e2]
      exact ⟨ct, ht⟩
theorem ActsA.get {C : AP} {H : Hp} {a : Addr} {ts : List Addr} {acts : List Act} (h : ActsA C H a ts acts) {i : Nat} (hi : i < acts.length) : ∃ t x, (ts.map V.ref)[i]? = some (V.ref t) ∧ acts[i]? = some x ∧ C t ∧ H t = some (.tup (actV x)) := by
  have hi2 : i < ts.length := by rw [h.len]; exact hi
  obtain ⟨c, e⟩ := h.row i ts[i] acts[i] (List.getElem?_eq_getElem hi2) (List.getElem?_eq_getElem hi)
  exact ⟨ts[i], acts[i], by rw [List.getElem?_map, List.getElem?_eq_getElem hi2]; rfl, List.getElem?_eq_getElem hi, c, e⟩
theorem TraceA.acts {C : AP} {H : Hp} {a : Addr} {ps : List Addr} {tr : List Pull} (h : TraceA C H a ps tr) : ActsA C H a ps (tr.map fun p => .pull p.1 p.2.1 p.2.2) := by
  refine ⟨h.c, h.at_, by rw [h.len, List.length_map], fun i t x e1 e2 => ?_⟩
  rw [List.getElem?_map] at e2
  cases hp : tr[i]? with
  | none => rw [hp] at e2; cases e2
  | some p =>
    rw [hp] at e2
    cases e2
    exact h.row i t p e1 hp
theorem ActsA.trace {C : AP} {H : Hp} {a : Addr} {ps : List Addr} {tr : List Pull} (h : ActsA C H a ps (tr.map fun p => .pull p.1 p.2.1 p.2.2)) : TraceA C H a ps tr := by
  refine ⟨h.c, h.at_, by rw [h.len, List.length_map], fun i t x e1 e2 => ?_⟩
  exact h.row i t _ e1 (by rw [List.getElem?_map, e2]; rfl)
def actD : Act → PyData
  | .write e => .tuple [.str "write", .int (e : Nat)]
  | .pull s r e => .tuple [.str "pull", .int (s : Nat), .int (r : Nat), .int e]
/-- a list of actions is empty or not -/
theorem ActsA.dp {K : PySem.W.Frag} {C : AP} {H : Hp} {a : Addr} {ts : List Addr} {acts : List Act} (h : ActsA C H a ts acts) : Dp K H (.ref a) (.list (acts.map actD)) := by
  refine .lst (SqL.of h.at_) ?_
  have key : ∀ (ts : List Addr) (acts : List Act), ts.length = acts.length → (∀ (i : Nat) (t : Addr) (x : Act), ts[i]? = some t → acts[i]? = some x → H t = some (.tup (actV x))) → DpAll K H (ts.map V.ref) (acts.map actD) := by
    intro ts
    induction ts with
    | nil => intro acts hl _; cases acts with | nil => exact .nil | cons => simp at hl
    | cons t ts ih =>
      intro acts hl hr
      cases acts with
      | nil => simp at hl
      | cons x acts =>
        refine .cons ?_ (ih acts (by simpa using hl) fun i t' x' e1 e2 => hr (i + 1) t' x' (by simpa using e1) (by simpa using e2))
        have ht := hr 0 t x rfl rfl
        cases x with
        | write e => exact .tup (SqT.of ht) (.cons (.str _) (.cons (.int _) .nil))
        | pull s r e => exact .tup (SqT.of ht) (.cons (.str _) (.cons (.int _) (.cons (.int _) (.cons (.int _) .nil))))
  exact key ts acts h.len fun i t x e1 e2 => (h.row i t x e1 e2).2
theorem lay_acts : ∀ acts : List Act, PyData.canLayAll0 (acts.map actD) = true ∧ PyData.depthAll (acts.map actD) ≤ 1
  | [] => ⟨by simp [PyData.canLayAll0], by simp [PyData.depthAll]⟩
  | x :: acts => by
    obtain ⟨h1, h2⟩ := lay_acts acts
    have : PyData.canLay0 (actD x) = true ∧ PyData.depth (actD x) = 1 := by
      cases x with
      | write e =>
        refine ⟨?_, by simp [actD, PyData.depth, PyData.depthAll]⟩
        simp only [actD, PyData.canLay0, PyData.canLayAll0, Bool.and_true]
        decide +kernel
      | pull s r e =>
        refine ⟨?_, by simp [actD, PyData.depth, PyData.depthAll]⟩
        simp only [actD, PyData.canLay0, PyData.canLayAll0, Bool.and_true]
        decide +kernel
    refine ⟨?_, ?_⟩
    · simp [PyData.canLayAll0, this.1, h1]
    · simp only [List.map_cons, PyData.depthAll, this.2]
      omega
theorem shaped_acts (acts : List Act) : SeqAt.shaped (.list (acts.map actD)) = true := by
  obtain ⟨h1, h2⟩ := lay_acts acts
  unfold SeqAt.shaped
  rw [Bool.and_eq_true]
  refine ⟨by simp [PyData.canLay0, h1], decide_eq_true ?_⟩
  simp only [PyData.depth]
  omega

/-- found.append(x) -/
theorem app_act {H0 H1 : Hp} {fl t : Addr} {ts : List Addr} {acts : List Act} {x : Act} (s : Same H0 H1) (h : ActsA (NEW H0) H1 fl ts acts) (ht : H1 t = none) :
    upd H1 t (.tup (actV x)) fl = some (.lst (ts.map V.ref)) ∧ Same H0 (upd (upd H1 t (.tup (actV x))) fl (.lst (ts.map V.ref ++ [.ref t]))) ∧ ActsA (NEW H0) (upd (upd H1 t (.tup (actV x))) fl (.lst (ts.map V.ref ++ [.ref t]))) fl (ts ++ [t]) (acts ++ [x]) ∧
    ∀ b o, b ≠ fl → H1 b = some o → upd (upd H1 t (.tup (actV x))) fl (.lst (ts.map V.ref ++ [.ref t])) b = some o := by
  have s1 : Same H1 (upd H1 t (.tup (actV x))) := same_upd ht
  have e1 := s1 _ _ h.at_
  have e2 : upd H1 t (.tup (actV x)) t = some (.tup (actV x)) := upd_same
  generalize upd H1 t (.tup (actV x)) = H2 at s1 e1 e2 ⊢
  have hkeep : ∀ b xs, H2 b = some (.tup xs) → upd H2 fl (.lst (ts.map V.ref ++ [.ref t])) b = some (.tup xs) := fun b xs hb => by
    rw [upd_ne (ne_of hb e1 (by intro z; cases z))]
    exact hb
  refine ⟨e1, fun b o e => ?_, h.snoc (s.free ht) upd_same (hkeep _ _ e2) fun b xs hb => hkeep _ _ (s1 _ _ hb), fun b o hb e => ?_⟩
  · rw [upd_ne (ne_of_none e h.c)]
    exact s1 _ _ (s _ _ e)
  · rw [upd_ne hb]
    exact s1 _ _ e
abbrev sActs : Stmt := top 41
abbrev sPlace : Stmt := top 42
abbrev sAfter : Stmt := top 43
abbrev sPulls : Stmt := top 46
theorem scActs : FnScope ["_law_world_here", "_law_logs", "_law_way", "_law_found", "_law_entry", "_law_pair"] ["_law_world_here", "_law_logs", "_law_way"] (defScope sActs) := ⟨rfl, rfl, rfl, by decide +kernel, rfl, by decide +kernel, by decide +kernel⟩
theorem scPlace : FnScope ["_law_world_here", "_law_action"] ["_law_world_here", "_law_action"] (defScope sPlace) := ⟨rfl, rfl, rfl, by decide +kernel, rfl, by decide +kernel, by decide +kernel⟩
theorem scAfter : FnScope ["_law_world_here", "_law_logs", "_law_action", "_law_after_here", "_law_log"] ["_law_world_here", "_law_logs", "_law_action"] (defScope sAfter) := ⟨rfl, rfl, rfl, by decide +kernel, rfl, by decide +kernel, by decide +kernel⟩
theorem scPulls : FnScope ["_law_world_here", "_law_logs", "_law_found", "_law_pair", "_law_entry"] ["_law_world_here", "_law_logs"] (defScope sPulls) := ⟨rfl, rfl, rfl, by decide +kernel, rfl, by decide +kernel, by decide +kernel⟩
def spPlace : Sp := fun vs H Q _ => ∃ (wa la ha t : Addr) (ts : List Addr) (n sz : Nat) (links : Links) (homes : List Int) (x : Act), vs = [.ref wa, .ref t] ∧ WoA ANY H wa la ha ts n sz links homes ∧ H t = some (.tup (actV x)) ∧ (∀ e, x = .write e → e < sz) ∧ Q (.int (plc homes x : Nat)) H
def spAfter : Sp := fun vs H Q _ => ∃ (wa la ha a t : Addr) (ts as : List Addr) (n sz : Nat) (links : Links) (homes : List Int) (L : Logs) (x : Act), vs = [.ref wa, .ref a, .ref t] ∧ WoA ANY H wa la ha ts n sz links homes ∧ LogsA ANY H a as L ∧ okLogs n sz L ∧ H t = some (.tup (actV x)) ∧ (∀ e, x = .write e → e < sz) ∧ Valid n sz homes L x ∧
  ∀ (H' : Hp) (p : Addr) (qs : List Addr), Same H H' → LogsA (NEW H) H' p qs (L.set (plc homes x) (lg L (plc homes x) ++ [ent x])) → qs.Nodup → Q (.ref p) H'
section
variable {P : Program} {w : World} {K : PySem.W.Frag} {mg : Str → Option Value} {base : Heap}
theorem ok_place {f : Addr} {fd : FuncData} (F : FnT K "_law_place" sPlace f fd) (hm : mg "_law_place" = some (.ref f)) : Cal P w K mg base CX0 1 "_law_place" spPlace := by
  refine cal0 F hm (fun _ _ _ _ _ _ us hl => match us, hl with | [_, _], _ => rfl) scPlace (fun vs H Q E h => ?_) (fun cdv A outer s H vs Q E hr h => ?_)
  · obtain ⟨wa, la, ha, t, ts, n, sz, links, homes, x, rfl, _⟩ := h
    rfl
  · obtain ⟨wa, la, ha, t, ts, n, sz, links, homes, x, rfl, hW, ht, hx, q⟩ := h
    refine ⟨_, pss_cons (ps_if (pt_cmpR op_eq (pe_ix ix_tup (pv 1) pe_int (fun _ _ => rfl)) pe_str (nomark _)) (pss_one (ps_ret (pe_ix ix_list (pe_ix ix_tup (pv 0) pe_int (fun _ _ => rfl)) (pe_ix ix_tup (pv 1) pe_int (fun _ _ => rfl)) (fun _ _ => rfl)))) pss_nil)
      (pss_one (ps_ret (pe_ix ix_tup (pv 1) pe_int (fun _ _ => rfl)))), ?_⟩
    cases x with
    | write e =>
      have he := hx e rfl
      have hh : homes[e]? = some (homes.getD e 0) := by
        rw [List.getD_eq_getElem?_getD, List.getElem?_eq_getElem (by rw [hW.hl]; exact he)]
        rfl
      have h0 := (hW.hb _ (List.mem_of_getElem? hh)).1
      refine ⟨_, rfl, t, _, _, _, rfl, rfl, SqT.of ht, atI_nat (j := 0) rfl, rfl, _, rfl, iteT ?_⟩
      refine ⟨_, rfl, wa, _, _, _, rfl, rfl, SqT.of hW.at_, atI_nat (j := 2) rfl, _, rfl, t, _, _, _, rfl, rfl, SqT.of ht, atI_nat (j := 1) rfl, ha, _, _, _, rfl, rfl, SqL.of hW.ho.2, atI_nat (j := e) (v := .int (homes.getD e 0)) (by rw [List.getElem?_map, hh]; rfl), ?_⟩
      have e2 : (((plc homes (.write e)) : Nat) : Int) = homes.getD e 0 := Int.toNat_of_nonneg h0
      rw [e2] at q
      exact q
    | pull s r e =>
      refine ⟨_, rfl, t, _, _, _, rfl, rfl, SqT.of ht, atI_nat (j := 0) rfl, rfl, _, rfl, ?_⟩
      rw [decide_eq_false (show ¬ V.str "pull" = V.str "write" from fun z => absurd (V.str.inj z) (by decide))]
      exact iteF ⟨_, rfl, t, _, _, _, rfl, rfl, SqT.of ht, atI_nat (j := 2) rfl, q⟩
theorem actV_last (x : Act) : atI (actV x) (-1) = some (.int (ent x)) := by
  cases x with
  | write e => exact atI_last [.str "write"] _
  | pull s r e => exact atI_last [.str "pull", .int (s : Nat), .int (r : Nat)] _
theorem ok_after {f : Addr} {fd : FuncData} (F : FnT K "_law_after" sAfter f fd) (hm : mg "_law_after" = some (.ref f)) (cCopy : Cal P w K mg base CX0 1 "_law_copy" spCopy) (cPlace : Cal P w K mg base CX0 1 "_law_place" spPlace) : Cal P w K mg base CX0 2 "_law_after" spAfter := by
  refine cal0 F hm (fun _ _ _ _ _ _ us hl => match us, hl with | [_, _, _], _ => rfl) scAfter (fun vs H Q E h => ?_) (fun cdv A outer s H vs Q E hr h => ?_)
  · obtain ⟨wa, la, ha, a, t, ts, as, n, sz, links, homes, L, x, rfl, _⟩ := h
    rfl
  · obtain ⟨wa, la, ha, a, t, ts, as, n, sz, links, homes, L, x, rfl, hW, hA, ok, ht, hx, hv, q⟩ := h
    refine ⟨_, pss_cons (ps_set (i := 3) scAfter.nd rfl (Or.inl rfl) (pe_c cCopy hr (by decide) (by rfl) (pa_cons (pv 1) pa_nil)))
      (pss_cons (ps_set (i := 4) scAfter.nd rfl (Or.inl rfl) (pe_ix ix_list (pv 3) (pe_c cPlace hr (by decide) (by rfl) (pa_cons (pv 0) (pa_cons (pv 2) pa_nil))) (fun _ _ => rfl)))
      (pss_cons (ps_expr (pe_bm PySem.F.plainAttrs_list PySem.F.slot_list_append PySem.F.type_list_append mt_append (pv 4) (pa_cons (pe_ix ix_tup (pv 2) (pe_un un_neg pe_int) (fun _ _ => rfl)) pa_nil)))
      (pss_one (ps_ret (pv 3))))), ?_⟩
    have n24 := hW.w.n24
    have z60 := hW.w.z60
    refine ⟨_, rfl, a, as, L, rfl, hA, by rw [ok.1]; omega, fun l hl => by have := row_len (ok.2 l hl); omega, fun H1 p qs s1 lo nd => ?_⟩
    refine ⟨_, rfl, _, rfl, _, rfl, wa, la, ha, t, ts, n, sz, links, homes, x, rfl, hW.same s1, s1 _ _ ht, hx, ?_⟩
    obtain ⟨r, hr1, hr2, hI⟩ := lo.get (i := plc homes x) (by rw [ok.1]; exact hv.lt)
    have hrm : r ∈ qs := List.mem_of_getElem? hr1
    have hpr : p ≠ r := fun z => lo.not_self (by rw [z]; exact hrm)
    have hrl := row_len (ok_lg ok (plc homes x))
    refine ⟨p, _, _, _, rfl, rfl, SqL.of lo.at_, atI_nat hr2, ?_⟩
    refine ⟨_, rfl, .inl ⟨rfl, _, SqL.of hI.2⟩, _, rfl, _, rfl, t, _, _, _, rfl, rfl, SqT.of (s1 _ _ ht), actV_last x, r, _, _, rfl, rfl, hI.2, small1000 (by rw [List.length_map]; omega), ?_⟩
    have s2 : Same H (upd H1 r (.lst ((lg L (plc homes x)).map V.int ++ [.int (ent x)]))) := fun b o e => by
      rw [upd_ne (ne_of_none e hI.1)]
      exact s1 _ _ e
    refine ⟨_, rfl, q _ p qs s2 ⟨lo.c, by rw [upd_ne hpr]; exact lo.at_, by rw [List.length_set]; exact lo.len, fun j p' l h1 h2 => ?_⟩ nd⟩
    have hj : j < L.length := by
      have := (List.getElem?_eq_some_iff.mp h2).1
      rwa [List.length_set] at this
    by_cases hjr : j = plc homes x
    · subst hjr
      rw [hr1] at h1
      cases h1
      rw [List.getElem?_set_self hj] at h2
      cases h2
      exact ⟨hI.1, by rw [upd_same, List.map_append]; rfl⟩
    · have hne : p' ≠ r := fun z => by
        subst z
        exact hjr ((List.getElem?_inj (List.getElem?_eq_some_iff.mp h1).1 nd).mp (h1.trans hr1.symm))
      rw [List.getElem?_set_ne (fun z => hjr z.symm)] at h2
      have hrow := lo.row j p' l h1 h2
      exact ⟨hrow.1, by rw [upd_ne hne]; exact hrow.2⟩
end
end K8

set_option maxHeartbeats 4000000
namespace K8
open PySem PySem.Spec PyProof.Rows L2
theorem off_sub {wy : Str} {src rdr : List Int} {e : Int} (h : e ∈ offL wy src rdr) : e ∈ src ∧ e ∉ rdr := by
  unfold offL at h
  by_cases hw : wy = "first"
  · rw [if_pos hw] at h
    exact mem_lack.mp (mem_take1 h)
  · rw [if_neg hw] at h
    exact mem_lack.mp h
theorem off_len (wy : Str) (src rdr : List Int) : (offL wy src rdr).length ≤ src.length := by
  unfold offL
  have := lack_len src rdr
  by_cases hw : wy = "first"
  · rw [if_pos hw, List.length_take]
    omega
  · rw [if_neg hw]
    exact this
theorem small9000 {n : Nat} (h : n ≤ 9000) : n < sizeLine := Nat.lt_of_le_of_lt h (by decide)
/-! ### _law_actions, _law_pulls -/
def spActs : Sp := fun vs H Q _ => ∃ (wa la ha a : Addr) (ts as : List Addr) (n sz : Nat) (links : Links) (homes : List Int) (L : Logs) (wy : Str), vs = [.ref wa, .ref a, .str wy] ∧ WoA ANY H wa la ha ts n sz links homes ∧ LogsA ANY H a as L ∧ okLogs n sz L ∧
  ∀ (H' : Hp) (p : Addr) (us : List Addr) (acts : List Act), Same H H' → ActsA (NEW H) H' p us acts → (∀ x ∈ acts, Valid n sz homes L x ∧ ∀ e, x = .write e → e < sz) → acts.length ≤ 5000 → Q (.ref p) H'
def spPulls : Sp := fun vs H Q _ => ∃ (wa la ha a : Addr) (ts as : List Addr) (n sz : Nat) (links : Links) (homes : List Int) (L : Logs), vs = [.ref wa, .ref a] ∧ WoA ANY H wa la ha ts n sz links homes ∧ LogsA ANY H a as L ∧ okLogs n sz L ∧
  ∀ (H' : Hp) (p : Addr) (us : List Addr), Same H H' → TraceA (NEW H) H' p us (pullsOf links L) → Q (.ref p) H'
section
variable {P : Program} {w : World} {K : PySem.W.Frag} {mg : Str → Option Value} {base : Heap}
theorem ok_acts {f : Addr} {fd : FuncData} (F : FnT K "_law_actions" sActs f fd) (hm : mg "_law_actions" = some (.ref f)) (B : NB mg) (cHeld : Cal P w K mg base CX0 1 "_law_held" spHeld) (cOff : Cal P w K mg base CX0 1 "_law_on_offer" spOffer) : Cal P w K mg base CX0 2 "_law_actions" spActs := by
  refine cal0 F hm (fun _ _ _ _ _ _ us hl => match us, hl with | [_, _, _], _ => rfl) scActs (fun vs H Q E h => ?_) (fun cdv A outer s H vs Q E hr h => ?_)
  · obtain ⟨wa, la, ha, a, ts, as, n, sz, links, homes, L, wy, rfl, _⟩ := h
    rfl
  · obtain ⟨wa, la, ha, a, ts, as, n, sz, links, homes, L, wy, rfl, hW, hA, ok, q⟩ := h
    refine ⟨_, pss_cons (ps_setLc (i := 3) (own := [("_law_entry", 4)]) (g := gName 4) rfl scActs.nd rfl rfl (sw_true rfl rfl rfl (by decide +kernel)) (pi_range1 (by rfl) B.rng (pa_cons (pe_callB call_len_seq (by rfl) B.len PySem.boot_len (pa_cons (pe_ix ix_tup (pv 0) pe_int (fun _ _ => rfl)) pa_nil)) pa_nil))
          (blkOk_by (own := [("_law_entry", 4)]) (N := ["_law_world_here", "_law_logs", "_law_way", "_law_found", "_law_entry", "_law_pair"]) (sc := defScope sActs) (by decide +kernel)) (fun _ _ _ _ _ => pg_name (i := 4) scActs.nd rfl (Or.inl rfl))
          (fun _ _ _ _ _ => pts_one (pt_not (pt_val (pe_c cHeld (by exact hr) (by decide) (by rfl) (pa_cons (pv 1) (pa_cons (pv 4) pa_nil)))))) (fun _ _ _ _ _ => pe_tup (pa_cons pe_str (pa_cons (pv 4) pa_nil))))
      (pss_cons (ps_for PassesOwn.never rfl (pi_list (pe_ix ix_tup (pv 0) pe_int (fun _ _ => rfl))) (pg_name (i := 5) scActs.nd rfl (.inl rfl))
        (pss_one (ps_for PassesOwn.never rfl (pi_list (pe_c cOff hr (by decide) (by rfl) (pa_cons (pe_ix ix_list (pv 1) (pe_ix ix_tup (pv 5) pe_int (fun _ _ => rfl)) (fun _ _ => rfl)) (pa_cons (pe_ix ix_list (pv 1) (pe_ix ix_tup (pv 5) pe_int (fun _ _ => rfl)) (fun _ _ => rfl)) (pa_cons (pv 2) pa_nil))))) (pg_name (i := 4) scActs.nd rfl (.inl rfl))
          (pss_one (ps_expr (pe_bm PySem.F.plainAttrs_list PySem.F.slot_list_append PySem.F.type_list_append mt_append (pv 3) (pa_cons (pe_tup (pa_cons pe_str (pa_cons (pe_ix ix_tup (pv 5) pe_int (fun _ _ => rfl)) (pa_cons (pe_ix ix_tup (pv 5) pe_int (fun _ _ => rfl)) (pa_cons (pv 4) pa_nil))))) pa_nil)))))))
      (pss_one (ps_ret (pv 3)))), ?_⟩
    have n24 := hW.w.n24
    have z60 := hW.w.z60
    have l64 := hW.l64
    refine ⟨_, rfl, wa, _, _, _, rfl, rfl, SqT.of hW.at_, atI_nat (j := 2) rfl, ha, _, rfl, .inl (SqL.of hW.ho.2), (sz : Nat), by rw [List.length_map, hW.hl], by omega, by omega, fun D hD => ?_⟩
    refine lc_range (lo := 0) (n := ((sz : Nat) : Int).toNat) (fun i H' => Same H H' ∧ ∃ (us : List Addr) (acts : List Act), ActsA (NEW H) H' D us acts ∧ (∀ x ∈ acts, Valid n sz homes L x ∧ ∀ e, x = .write e → e < sz) ∧ acts.length ≤ i)
      ⟨same_upd hD, [], [], ⟨hD, upd_same, rfl, fun i t x h => (by simp at h)⟩, fun x h => (by cases h), Nat.le_refl _⟩ ?_ ?_
    · rintro i H' hi ⟨s1, us, acts, hAc, hv, hlen⟩
      rw [Int.zero_add]
      refine ⟨rfl, _, rfl, _, rfl, a, as, L, (i : Nat), rfl, (hA.same s1).imp fun _ _ => True.intro, _, rfl, ?_⟩
      by_cases hh : ∃ l ∈ L, ((i : Nat) : Int) ∈ l
      · rw [decide_eq_true hh]
        exact iteF ⟨s1, us, acts, hAc, hv, by omega⟩
      · rw [decide_eq_false hh]
        refine iteT ⟨_, rfl, by show 2 ≤ sizeLine; decide, fun t ht => ?_⟩
        obtain ⟨e1, s2, hAc2, _⟩ := app_act (x := .write i) s1 hAc ht
        refine ⟨_, e1, small9000 (by rw [List.length_map, hAc.len]; omega), s2, _, _, hAc2, fun x hx => ?_, by rw [List.length_append]; simp only [List.length_singleton]; omega⟩
        rcases List.mem_append.mp hx with hx | hx
        · exact hv x hx
        · rw [List.mem_singleton.mp hx]
          have hi2 : i < sz := by omega
          have hgd : homes[i]? = some (homes.getD i 0) := by
            rw [List.getD_eq_getElem?_getD, List.getElem?_eq_getElem (by rw [hW.hl]; exact hi2)]
            rfl
          obtain ⟨h0, h1⟩ := hW.hb _ (List.mem_of_getElem? hgd)
          have hlt : plc homes (.write i) < n := by
            show (homes.getD i 0).toNat < n
            omega
          refine ⟨⟨hlt, Int.natCast_nonneg i, by show ((i : Nat) : Int) < (sz : Nat); omega, fun z => hh ⟨_, lg_mem (by rw [ok.1]; exact hlt), z⟩⟩, fun e he => by cases he; exact hi2⟩
    · rintro H1 ⟨s1, us, acts, hAc, hv, hlen⟩
      rw [Int.toNat_natCast] at hlen
      refine ⟨_, rfl, wa, _, _, _, rfl, rfl, SqT.of (hW.same s1).at_, atI_nat (j := 1) rfl, la, rfl, ⟨_, SqL.of (hW.same s1).li.at_⟩, for_list (xs := ts.map V.ref) (fun i σ H' => (∃ y z : Option V, σ = [some (.ref wa), some (.ref a), some (.str wy), some (.ref D), y, z]) ∧ Same H H' ∧ ∃ (us : List Addr) (acts : List Act), ActsA (NEW H) H' D us acts ∧ (∀ x ∈ acts, Valid n sz homes L x ∧ ∀ e, x = .write e → e < sz) ∧ acts.length ≤ 60 + 60 * i)
        ⟨⟨_, _, rfl⟩, s1, us, acts, hAc, hv, by omega⟩ (fun i σ H' _ h => SqL.of (hW.same h.2.1).li.at_) ?_ ?_⟩
      · clear hAc hv hlen acts us
        rintro i x σ H2 hx ⟨⟨y, z, rfl⟩, s2, us, acts, hAc, hv, hlen⟩
        have W2 := hW.same s2
        obtain ⟨t, q0, rfl, hq0, _, ht⟩ := W2.li.get hx
        have hil := (List.getElem?_eq_some_iff.mp hq0).1
        obtain ⟨b1, b2, b3⟩ := hW.w.bd _ (List.mem_of_getElem? hq0)
        have lo := hA.same s2
        obtain ⟨p1, _, hp1, hI1⟩ := lo.get (i := q0.1) (by rw [ok.1]; exact b1)
        obtain ⟨p2, _, hp2, hI2⟩ := lo.get (i := q0.2) (by rw [ok.1]; exact b2)
        have r1 := row_len (ok_lg ok q0.1)
        have hol := off_len wy (lg L q0.1) (lg L q0.2)
        refine ⟨_, rfl, _, rfl, t, _, _, _, rfl, rfl, SqT.of ht, atI_nat (j := 0) rfl, a, _, _, _, rfl, rfl, SqL.of lo.at_, atI_nat hp1, ?_⟩
        refine ⟨_, rfl, _, rfl, t, _, _, _, rfl, rfl, SqT.of ht, atI_nat (j := 1) rfl, a, _, _, _, rfl, rfl, SqL.of lo.at_, atI_nat hp2, _, rfl, p1, p2, wy, _, _, rfl, hI1, hI2, by omega, fun H3 o s3 ho ho3 => ?_⟩
        have hoD : o ≠ D := fun z => by rw [z, hAc.at_] at ho; cases ho
        have s23 := s2.trans s3
        refine ⟨o, rfl, ⟨_, SqL.of ho3⟩, for_list (xs := (offL wy (lg L q0.1) (lg L q0.2)).map V.int) (fun j σ H' => (∃ y : Option V, σ = [some (.ref wa), some (.ref a), some (.str wy), some (.ref D), y, some (.ref t)]) ∧ Same H H' ∧ H' t = some (.tup [.int (q0.1 : Nat), .int (q0.2 : Nat)]) ∧ H' o = some (.lst ((offL wy (lg L q0.1) (lg L q0.2)).map V.int)) ∧ ∃ (us : List Addr) (acts : List Act), ActsA (NEW H) H' D us acts ∧ (∀ x ∈ acts, Valid n sz homes L x ∧ ∀ e, x = .write e → e < sz) ∧ acts.length ≤ 60 + 60 * i + j)
          ⟨⟨_, rfl⟩, s23, s3 _ _ ht, ho3, us, acts, hAc.same s3, hv, by omega⟩ (fun j σ H' _ h => SqL.of h.2.2.2.1) ?_ ?_⟩
        · clear hAc hv hlen acts us
          rintro j x σ H4 hx ⟨⟨y, rfl⟩, s4, ht4, ho4, us, acts, hAc, hv, hlen⟩
          obtain ⟨k, rfl, hk⟩ := ints_get hx
          have hjl := (List.getElem?_eq_some_iff.mp hk).1
          refine ⟨_, rfl, .inl ⟨rfl, _, SqL.of hAc.at_⟩, _, rfl, t, _, _, _, rfl, rfl, SqT.of ht4, atI_nat (j := 0) rfl, _, rfl, t, _, _, _, rfl, rfl, SqT.of ht4, atI_nat (j := 1) rfl, _, rfl, by show 4 ≤ sizeLine; decide, fun tt htt => ?_⟩
          obtain ⟨e1, s5, hAc2, hk5⟩ := app_act (x := .pull q0.1 q0.2 k) s4 hAc htt
          obtain ⟨m1, m2⟩ := off_sub (List.mem_of_getElem? hk)
          have hkb := (ok_lg ok q0.1).2 k m1
          refine ⟨D, _, _, rfl, rfl, e1, small9000 (by rw [List.length_map, hAc.len]; omega), ⟨_, rfl⟩, s5, hk5 _ _ (ne_of ht4 hAc.at_ (by intro z; cases z)) ht4, hk5 _ _ hoD ho4, _, _, hAc2, fun x hx => ?_, by rw [List.length_append]; simp only [List.length_singleton]; omega⟩
          rcases List.mem_append.mp hx with hx | hx
          · exact hv x hx
          · rw [List.mem_singleton.mp hx]
            exact ⟨⟨b2, hkb.1, hkb.2, m2⟩, fun e he => (by cases he)⟩
        · clear hAc hv hlen acts us
          rintro σ H4 ⟨⟨y, rfl⟩, s4, ht4, ho4, us, acts, hAc, hv, hlen⟩
          rw [List.length_map] at hlen
          exact ⟨⟨_, _, rfl⟩, s4, us, acts, hAc, hv, by omega⟩
      · clear hAc hv hlen acts us
        rintro σ H2 ⟨⟨y, z, rfl⟩, s2, us, acts, hAc, hv, hlen⟩
        rw [List.length_map, hW.li.len] at hlen
        exact ⟨_, rfl, q H2 D us acts s2 hAc hv (by omega)⟩
end
end K8

set_option maxHeartbeats 4000000
namespace K8
open PySem PySem.Spec PyProof.Rows L2
abbrev pAct (p : Pull) : Act := .pull p.1 p.2.1 p.2.2
theorem pulls_len (links : Links) (L : Logs) : (pullsOf links L).length ≤ links.length := by
  unfold pullsOf
  induction links with
  | nil => exact Nat.le_refl _
  | cons q l ih =>
    rw [List.flatMap_cons, List.length_append, List.length_map, List.length_cons]
    have : ((lack (lg L q.1) (lg L q.2)).take 1).length ≤ 1 := by rw [List.length_take]; omega
    omega
section
variable {P : Program} {w : World} {K : PySem.W.Frag} {mg : Str → Option Value} {base : Heap}
theorem ok_pulls {f : Addr} {fd : FuncData} (F : FnT K "_law_pulls" sPulls f fd) (hm : mg "_law_pulls" = some (.ref f)) (cOff : Cal P w K mg base CX0 1 "_law_on_offer" spOffer) : Cal P w K mg base CX0 2 "_law_pulls" spPulls := by
  refine cal0 F hm (fun _ _ _ _ _ _ us hl => match us, hl with | [_, _], _ => rfl) scPulls (fun vs H Q E h => ?_) (fun cdv A outer s H vs Q E hr h => ?_)
  · obtain ⟨wa, la, ha, a, ts, as, n, sz, links, homes, L, rfl, _⟩ := h
    rfl
  · obtain ⟨wa, la, ha, a, ts, as, n, sz, links, homes, L, rfl, hW, hA, ok, q⟩ := h
    refine ⟨_, pss_cons (ps_set (i := 2) scPulls.nd rfl (Or.inl rfl) (pe_lst pa_nil))
      (pss_cons (ps_for PassesOwn.never rfl (pi_list (pe_ix ix_tup (pv 0) pe_int (fun _ _ => rfl))) (pg_name (i := 3) scPulls.nd rfl (.inl rfl))
        (pss_one (ps_for PassesOwn.never rfl (pi_list (pe_c cOff hr (by decide) (by rfl) (pa_cons (pe_ix ix_list (pv 1) (pe_ix ix_tup (pv 3) pe_int (fun _ _ => rfl)) (fun _ _ => rfl)) (pa_cons (pe_ix ix_list (pv 1) (pe_ix ix_tup (pv 3) pe_int (fun _ _ => rfl)) (fun _ _ => rfl)) (pa_cons pe_str pa_nil))))) (pg_name (i := 4) scPulls.nd rfl (.inl rfl))
          (pss_one (ps_expr (pe_bm PySem.F.plainAttrs_list PySem.F.slot_list_append PySem.F.type_list_append mt_append (pv 2) (pa_cons (pe_tup (pa_cons pe_str (pa_cons (pe_ix ix_tup (pv 3) pe_int (fun _ _ => rfl)) (pa_cons (pe_ix ix_tup (pv 3) pe_int (fun _ _ => rfl)) (pa_cons (pv 4) pa_nil))))) pa_nil)))))))
      (pss_one (ps_ret (pv 2)))), ?_⟩
    have n24 := hW.w.n24
    have z60 := hW.w.z60
    have l64 := hW.l64
    refine ⟨Nat.zero_le _, fun D hD => ?_⟩
    have s1 : Same H (upd H D (.lst [])) := same_upd hD
    have hAc0 : ActsA (NEW H) (upd H D (.lst [])) D [] ((pullsOf (links.take 0) L).map pAct) := ⟨hD, upd_same, rfl, fun i t x h => (by simp at h)⟩
    generalize upd H D (.lst []) = H1 at s1 hAc0 ⊢
    refine ⟨_, rfl, wa, _, _, _, rfl, rfl, SqT.of (hW.same s1).at_, atI_nat (j := 1) rfl, la, rfl, ⟨_, SqL.of (hW.same s1).li.at_⟩, for_list (xs := ts.map V.ref) (fun i σ H' => (∃ y z : Option V, σ = [some (.ref wa), some (.ref a), some (.ref D), y, z]) ∧ Same H H' ∧ ∃ us : List Addr, ActsA (NEW H) H' D us ((pullsOf (links.take i) L).map pAct))
      ⟨⟨_, _, rfl⟩, s1, [], hAc0⟩ (fun i σ H' _ h => SqL.of (hW.same h.2.1).li.at_) ?_ ?_⟩
    · clear hAc0
      rintro i x σ H2 hx ⟨⟨y, z, rfl⟩, s2, us, hAc⟩
      have W2 := hW.same s2
      obtain ⟨t, q0, rfl, hq0, _, ht⟩ := W2.li.get hx
      have hil := (List.getElem?_eq_some_iff.mp hq0).1
      obtain ⟨b1, b2, b3⟩ := hW.w.bd _ (List.mem_of_getElem? hq0)
      have lo := hA.same s2
      obtain ⟨p1, _, hp1, hI1⟩ := lo.get (i := q0.1) (by rw [ok.1]; exact b1)
      obtain ⟨p2, _, hp2, hI2⟩ := lo.get (i := q0.2) (by rw [ok.1]; exact b2)
      have r1 := row_len (ok_lg ok q0.1)
      have hpl := pulls_len (links.take i) L
      rw [List.length_take] at hpl
      refine ⟨_, rfl, _, rfl, t, _, _, _, rfl, rfl, SqT.of ht, atI_nat (j := 0) rfl, a, _, _, _, rfl, rfl, SqL.of lo.at_, atI_nat hp1, ?_⟩
      refine ⟨_, rfl, _, rfl, t, _, _, _, rfl, rfl, SqT.of ht, atI_nat (j := 1) rfl, a, _, _, _, rfl, rfl, SqL.of lo.at_, atI_nat hp2, p1, p2, "first", _, _, rfl, hI1, hI2, by omega, fun H3 o s3 ho ho3 => ?_⟩
      have hoD : o ≠ D := fun z => by rw [z, hAc.at_] at ho; cases ho
      have s23 := s2.trans s3
      have eo : offL "first" (lg L q0.1) (lg L q0.2) = (lack (lg L q0.1) (lg L q0.2)).take 1 := by
        unfold offL
        rw [if_pos rfl]
      rw [eo] at ho3
      have ol1 : ((lack (lg L q0.1) (lg L q0.2)).take 1).length ≤ 1 := by rw [List.length_take]; omega
      refine ⟨o, rfl, ⟨_, SqL.of ho3⟩, for_list (xs := ((lack (lg L q0.1) (lg L q0.2)).take 1).map V.int) (fun j σ H' => (∃ y : Option V, σ = [some (.ref wa), some (.ref a), some (.ref D), some (.ref t), y]) ∧ Same H H' ∧ H' t = some (.tup [.int (q0.1 : Nat), .int (q0.2 : Nat)]) ∧ H' o = some (.lst (((lack (lg L q0.1) (lg L q0.2)).take 1).map V.int)) ∧
          ∃ us : List Addr, ActsA (NEW H) H' D us ((pullsOf (links.take i) L ++ (((lack (lg L q0.1) (lg L q0.2)).take 1).take j).map fun e => (q0.1, q0.2, e)).map pAct))
        ⟨⟨_, rfl⟩, s23, s3 _ _ ht, ho3, us, by rw [List.take_zero, List.map_nil, List.append_nil]; exact hAc.same s3⟩ (fun j σ H' _ h => SqL.of h.2.2.2.1) ?_ ?_⟩
      · clear hAc us
        rintro j x σ H4 hx ⟨⟨y, rfl⟩, s4, ht4, ho4, us, hAc⟩
        obtain ⟨k, rfl, hk⟩ := ints_get hx
        have hjl := (List.getElem?_eq_some_iff.mp hk).1
        refine ⟨_, rfl, .inl ⟨rfl, _, SqL.of hAc.at_⟩, _, rfl, t, _, _, _, rfl, rfl, SqT.of ht4, atI_nat (j := 0) rfl, _, rfl, t, _, _, _, rfl, rfl, SqT.of ht4, atI_nat (j := 1) rfl, _, rfl, by show 4 ≤ sizeLine; decide, fun tt htt => ?_⟩
        obtain ⟨e1, s5, hAc2, hk5⟩ := app_act (x := .pull q0.1 q0.2 k) s4 hAc htt
        refine ⟨D, _, _, rfl, rfl, e1, small9000 (by rw [List.length_map, hAc.len, List.length_map, List.length_append, List.length_map, List.length_take]; omega), ⟨_, rfl⟩, s5, hk5 _ _ (ne_of ht4 hAc.at_ (by intro z; cases z)) ht4, hk5 _ _ hoD ho4, us ++ [tt], ?_⟩
        rw [take_snoc hk, List.map_append, List.map_append, List.map_append, ← List.append_assoc]
        rw [List.map_append] at hAc2
        exact hAc2
      · clear hAc us
        rintro σ H4 ⟨⟨y, rfl⟩, s4, ht4, ho4, us, hAc⟩
        rw [List.length_map, List.take_length, ← pulls_snoc hq0] at hAc
        exact ⟨⟨_, _, rfl⟩, s4, us, hAc⟩
    · rintro σ H2 ⟨⟨y, z, rfl⟩, s2, us, hAc⟩
      rw [List.length_map, hW.li.len, List.take_length] at hAc
      exact ⟨_, rfl, q H2 D us s2 hAc.trace⟩
end
end K8

set_option maxHeartbeats 4000000
namespace K8
open PySem PySem.Spec PyProof.Rows L2
abbrev sRun : Stmt := top 44
abbrev sLeast : Stmt := top 50
theorem scRun : FnScope ["_law_box_here", "_law_world_here", "_law_start_here", "_law_way", "_law_steps", "_law_now", "_law_trace", "_law_k", "_law_actions_here", "_law_action"] ["_law_box_here", "_law_world_here", "_law_start_here", "_law_way", "_law_steps"] (defScope sRun) := ⟨rfl, rfl, rfl, by decide +kernel, rfl, by decide +kernel, by decide +kernel⟩
theorem scLeast : FnScope ["_law_world_here", "_law_logs", "_law_now", "_law_trace", "_law_k", "_law_pulls_here"] ["_law_world_here", "_law_logs"] (defScope sLeast) := ⟨rfl, rfl, rfl, by decide +kernel, rfl, by decide +kernel, by decide +kernel⟩
def spRun (e : W4) : Sp := fun vs H Q _ => ∃ (wa la ha a : Addr) (ts as : List Addr) (n sz m : Nat) (links : Links) (homes : List Int) (L : Logs) (wy : Str), vs = [.ref e.bx, .ref wa, .ref a, .str wy, .int (m : Nat)] ∧ SA e H ∧ WoA e.N H wa la ha ts n sz links homes ∧ LogsA e.N H a as L ∧ okLogs n sz L ∧ m ≤ 1000 ∧
  ∀ (H' : Hp) (t tr np : Addr) (qs : List Addr) (L' : Logs), K4 e H H' → H' t = some (.tup [.ref tr, .ref np]) → LogsA e.N H' np qs L' → okLogs n sz L' → Q (.ref t) H'
def spLeast : Sp := fun vs H Q _ => ∃ (wa la ha a : Addr) (ts as : List Addr) (n sz : Nat) (links : Links) (homes : List Int) (L : Logs), vs = [.ref wa, .ref a] ∧ WoA ANY H wa la ha ts n sz links homes ∧ LogsA ANY H a as L ∧ okLogs n sz L ∧
  ∀ (H' : Hp) (t tp np : Addr) (us qs : List Addr) (tr : List Pull) (C : Logs), Same H H' → H' t = some (.tup [.ref tp, .ref np]) → TraceA (NEW H) H' tp us tr → LogsA (NEW H) H' np qs C → LRun links L tr C → pullsOf links C = [] → Q (.ref t) H'
section
variable {P : Program} {w : World} {K : PySem.W.Frag} {mg : Str → Option Value} {base : Heap}
theorem ok_run {f : Addr} {fd : FuncData} {e : W4} (F : FnT K "_law_run" sRun f fd) (hm : mg "_law_run" = some (.ref f)) (B : NB mg) (cTake : Cal P w K mg base CX0 1 "_law_take" (spTake e)) (cCopy : Cal P w K mg base CX0 1 "_law_copy" spCopy) (cActs : Cal P w K mg base CX0 2 "_law_actions" spActs) (cAfter : Cal P w K mg base CX0 2 "_law_after" spAfter) :
    Cal P w K mg base CX0 3 "_law_run" (spRun e) := by
  refine cal0 F hm (fun _ _ _ _ _ _ us hl => match us, hl with | [_, _, _, _, _], _ => rfl) scRun (fun vs H Q E h => ?_) (fun cdv A outer s H vs Q E hr h => ?_)
  · obtain ⟨wa, la, ha, a, ts, as, n, sz, m, links, homes, L, wy, rfl, _⟩ := h
    rfl
  · obtain ⟨wa, la, ha, a, ts, as, n, sz, m, links, homes, L, wy, rfl, hS, hW, hA, ok, hm1000, q⟩ := h
    refine ⟨_, pss_cons (ps_set (i := 5) scRun.nd rfl (Or.inl rfl) (pe_c cCopy hr (by decide) (by rfl) (pa_cons (pv 2) pa_nil)))
      (pss_cons (ps_set (i := 6) scRun.nd rfl (Or.inl rfl) (pe_lst pa_nil))
      (pss_cons (ps_for PassesOwn.never rfl (pi_range1 (by rfl) B.rng (pa_cons (pv 4) pa_nil)) (pg_name (i := 7) scRun.nd rfl (.inl rfl))
        (pss_cons (ps_set (i := 8) scRun.nd rfl (Or.inl rfl) (pe_c cActs hr (by decide) (by rfl) (pa_cons (pv 1) (pa_cons (pv 5) (pa_cons (pv 3) pa_nil)))))
        (pss_cons (ps_if (pt_cmpR (op_eqD hr.units) (pv 8) (pe_lst pa_nil) (nomark _)) (pss_one ps_break) pss_nil)
        (pss_cons (ps_set (i := 9) scRun.nd rfl (Or.inl rfl) (pe_ix ix_list (pv 8) (pe_c cTake hr (by decide) (by rfl) (pa_cons (pv 0) (pa_cons (pe_callB call_len_seq (by rfl) B.len PySem.boot_len (pa_cons (pv 8) pa_nil)) pa_nil))) (fun _ _ => rfl)))
        (pss_cons (ps_expr (pe_bm PySem.F.plainAttrs_list PySem.F.slot_list_append PySem.F.type_list_append mt_append (pv 6) (pa_cons (pv 9) pa_nil)))
        (pss_one (ps_set (i := 5) scRun.nd rfl (Or.inl rfl) (pe_c cAfter hr (by decide) (by rfl) (pa_cons (pv 1) (pa_cons (pv 5) (pa_cons (pv 9) pa_nil)))))))))))
      (pss_one (ps_ret (pe_tup (pa_cons (pv 6) (pa_cons (pv 5) pa_nil))))))), ?_⟩
    have n24 := hW.w.n24
    have z60 := hW.w.z60
    refine ⟨_, rfl, a, as, L, rfl, hA.imp fun _ _ => True.intro, by rw [ok.1]; omega, fun l hl => by have := row_len (ok.2 l hl); omega, fun H1 np0 qs0 s1 lo0 nd0 => ⟨Nat.zero_le _, fun tr htr => ?_⟩⟩
    have s2 : Same H1 (upd H1 tr (.lst [])) := same_upd htr
    have htrH : H tr = none := s1.free htr
    have ntr : e.N tr := hS.new htrH
    have lo1 : LogsA (fun b => e.N b ∧ b ≠ tr) (upd H1 tr (.lst [])) np0 qs0 L := (lo0.live.imp fun b hb => ⟨hS.new hb.1, fun z => hb.2 (by rw [z]; exact htr)⟩).same s2
    have fin : ∀ (H' : Hp) (np : Addr) (qs : List Addr) (L' : Logs), K4 e H H' → LogsA (fun b => e.N b ∧ b ≠ tr) H' np qs L' → okLogs n sz L' → ∀ t, H' t = none → Q (.ref t) (upd H' t (.tup [.ref tr, .ref np])) := fun H' np qs L' k lo okL t ht =>
      q _ t tr np qs L' (k.same (same_upd ht)) upd_same ((lo.imp fun b hb => hb.1).same (same_upd ht)) okL
    refine ⟨_, rfl, (m : Nat), rfl, by omega, by omega, for_range (lo := 0) (n := ((m : Nat) : Int).toNat) (fun i σ H' => ∃ (np : Addr) (qs : List Addr) (L' : Logs) (xs : List V) (x y z : Option V), σ = [some (.ref e.bx), some (.ref wa), some (.ref a), some (.str wy), some (.int (m : Nat)), some (.ref np), some (.ref tr), x, y, z] ∧ K4 e H H' ∧ LogsA (fun b => e.N b ∧ b ≠ tr) H' np qs L' ∧ okLogs n sz L' ∧ H' tr = some (.lst xs) ∧ xs.length ≤ i)
      ⟨np0, qs0, L, [], _, _, _, rfl, k4_same hS (s1.trans s2), lo1, ok, upd_same, Nat.le_refl _⟩ ?_ ?_⟩
    · rintro i σ H2 hi ⟨np, qs, L', xs, x, y, z, rfl, k2, lo2, ok2, ht2, hxl⟩
      have w2 := hW.k4 k2
      refine ⟨_, rfl, _, rfl, _, rfl, wa, la, ha, np, ts, qs, n, sz, links, homes, L', wy, rfl, w2.imp fun _ _ => True.intro, lo2.imp fun _ _ => True.intro, ok2, fun H3 ap us acts s3 hAc hv hlen => ?_⟩
      refine ⟨_, rfl, Nat.zero_le _, fun l0 hl0 => ?_⟩
      have s4 : Same H3 (upd H3 l0 (.lst [])) := same_upd hl0
      have e4 : upd H3 l0 (.lst []) l0 = some (.lst []) := upd_same
      generalize upd H3 l0 (.lst []) = H4 at s4 e4 ⊢
      have s34 := s3.trans s4
      have hAc4 := hAc.same s4
      refine ⟨.list (acts.map actD), .list [], hAc4.dp, .lst (SqL.of e4) .nil, shaped_acts acts, shaped_ints [], _, rfl, ?_⟩
      rw [eqv_nil]
      cases acts with
      | nil =>
        refine iteT ⟨_, rfl, _, rfl, by show 2 ≤ sizeLine; decide, fun t ht => ?_⟩
        exact fin H4 np qs L' (k2.same s34) (lo2.same s34) ok2 t ht
      | cons x0 ar =>
        refine iteF ?_
        generalize hacts : x0 :: ar = acts at *
        have hpos : 0 < acts.length := by rw [← hacts]; exact Nat.succ_pos _
        have k4 : K4 e H H4 := k2.same s34
        have hAc5 : ActsA e.N H4 ap us acts := hAc4.imp fun b hb => k2.2.new hb
        refine ⟨_, rfl, _, rfl, _, rfl, ap, _, rfl, .inl (SqL.of hAc5.at_), acts.length, by rw [List.length_map, hAc5.len]; rfl, k4.2, hpos, by omega, fun d H5 hd k5 => ?_⟩
        have hAc6 := hAc5.kp k5.1 fun _ h => h
        obtain ⟨t, x, ht1, hx, ct, ht⟩ := hAc6.get hd
        have hvx := hv x (List.mem_of_getElem? hx)
        have k45 := k4.trans k5
        have ht5 := k5.1.keep _ _ (s34 _ _ ht2) ntr
        have lo5 : LogsA (fun b => e.N b ∧ b ≠ tr) H5 np qs L' := (lo2.same s34).kp k5.1 fun b hb => hb.1
        refine ⟨ap, _, _, _, rfl, rfl, SqL.of hAc6.at_, atI_nat ht1, ?_⟩
        refine ⟨_, rfl, .inl ⟨rfl, _, SqL.of ht5⟩, _, rfl, tr, _, _, rfl, rfl, ht5, small9000 (by omega), ?_⟩
        have k6 : K4 e H (upd H5 tr (.lst (xs ++ [.ref t]))) := k45.updL ht5 htrH ntr
        have lo6 : LogsA (fun b => e.N b ∧ b ≠ tr) (upd H5 tr (.lst (xs ++ [.ref t]))) np qs L' := lo5.kp (E := fun b => b = tr) (kp_upd (.inl rfl)) fun b hb => hb.2
        have ht6 : upd H5 tr (.lst (xs ++ [.ref t])) t = some (.tup (actV x)) := by rw [upd_ne (ne_of ht ht5 (by intro z; cases z))]; exact ht
        have e6 : upd H5 tr (.lst (xs ++ [.ref t])) tr = some (.lst (xs ++ [.ref t])) := upd_same
        generalize upd H5 tr (.lst (xs ++ [.ref t])) = H6 at k6 lo6 ht6 e6 ⊢
        have w6 := hW.k4 k6
        refine ⟨_, rfl, _, rfl, _, rfl, wa, la, ha, np, t, ts, qs, n, sz, links, homes, L', x, rfl, w6.imp fun _ _ => True.intro, lo6.imp fun _ _ => True.intro, ok2, ht6, hvx.2, hvx.1, fun H7 p7 qs7 s7 lo7 nd7 => ?_⟩
        refine ⟨p7, qs7, _, xs ++ [.ref t], _, _, _, rfl, k6.same s7, lo7.imp fun b hb => ⟨k6.2.new hb, fun z => by rw [z] at hb; rw [show H6 tr = none from hb] at e6; cases e6⟩, add_ok ok2 hvx.1, s7 _ _ e6, by rw [List.length_append]; simp only [List.length_singleton]; omega⟩
    · rintro σ H2 ⟨np, qs, L', xs, x, y, z, rfl, k2, lo2, ok2, ht2, hxl⟩
      refine ⟨_, rfl, _, rfl, by show 2 ≤ sizeLine; decide, fun t ht => ?_⟩
      exact fin H2 np qs L' k2 lo2 ok2 t ht
end
end K8

set_option maxHeartbeats 4000000
namespace K8
open PySem PySem.Spec PyProof.Rows L2
theorem TraceA.snoc {C : AP} {H H2 : Hp} {a t : Addr} {ts : List Addr} {tr : List Pull} {x : Pull} (h : TraceA C H a ts tr) (ct : C t) (h2 : H2 a = some (.lst (ts.map V.ref ++ [.ref t]))) (ht : H2 t = some (.tup (pullV x)))
    (k : ∀ b xs, H b = some (.tup xs) → H2 b = some (.tup xs)) : TraceA C H2 a (ts ++ [t]) (tr ++ [x]) := by
  have h1 := (h.acts).snoc (x := pAct x) ct h2 ht k
  have e : (tr ++ [x]).map pAct = tr.map (fun p => .pull p.1 p.2.1 p.2.2) ++ [pAct x] := by rw [List.map_append]; rfl
  rw [← e] at h1
  exact h1.trace
/-- the list of logs at several moments -/
structure MomA (C : AP) (H : Hp) (a : Addr) (ms : List Addr) (Ms : List Logs) : Prop where
  c : C a
  at_ : H a = some (.lst (ms.map V.ref))
  len : ms.length = Ms.length
  row : ∀ (i : Nat) (m : Addr) (M : Logs), ms[i]? = some m → Ms[i]? = some M → ∃ qs, LogsA C H m qs M
theorem MomA.kp {C E : AP} {H H' : Hp} {a : Addr} {ms : List Addr} {Ms : List Logs} (h : MomA C H a ms Ms) (k : Kp E H H') (n : ∀ b, C b → ¬ E b) : MomA C H' a ms Ms := ⟨h.c, k.keep _ _ h.at_ (n _ h.c), h.len, fun i m M e1 e2 => let ⟨qs, l⟩ := h.row i m M e1 e2; ⟨qs, l.kp k n⟩⟩
theorem MomA.same {C : AP} {H H' : Hp} {a : Addr} {ms : List Addr} {Ms : List Logs} (h : MomA C H a ms Ms) (k : Same H H') : MomA C H' a ms Ms := ⟨h.c, k _ _ h.at_, h.len, fun i m M e1 e2 => let ⟨qs, l⟩ := h.row i m M e1 e2; ⟨qs, l.same k⟩⟩
theorem MomA.imp {C C' : AP} {H : Hp} {a : Addr} {ms : List Addr} {Ms : List Logs} (h : MomA C H a ms Ms) (n : ∀ b, C b → C' b) : MomA C' H a ms Ms := ⟨n _ h.c, h.at_, h.len, fun i m M e1 e2 => let ⟨qs, l⟩ := h.row i m M e1 e2; ⟨qs, l.imp n⟩⟩
theorem MomA.k4 {e : W4} {H H' : Hp} {a : Addr} {ms : List Addr} {Ms : List Logs} (h : MomA e.N H a ms Ms) (k : K4 e H H') : MomA e.N H' a ms Ms := h.kp k.1 fun _ h => h
theorem MomA.get {C : AP} {H : Hp} {a : Addr} {ms : List Addr} {Ms : List Logs} (h : MomA C H a ms Ms) {i : Nat} {M : Logs} (hi : Ms[i]? = some M) : ∃ m qs, (ms.map V.ref)[i]? = some (V.ref m) ∧ LogsA C H m qs M := by
  have hi1 := (List.getElem?_eq_some_iff.mp hi).1
  have hi2 : i < ms.length := by rw [h.len]; exact hi1
  obtain ⟨qs, l⟩ := h.row i ms[i] M (List.getElem?_eq_getElem hi2) hi
  exact ⟨ms[i], qs, by rw [List.getElem?_map, List.getElem?_eq_getElem hi2]; rfl, l⟩
theorem full_nil {n sz : Nat} {links : Links} {L C : Logs} {m : Nat} (W : OkW n sz links) (ok : okLogs n sz C) (h : sumlen C = sumlen L + m) (hm : n * sz ≤ m) : pullsOf links C = [] := by
  have := sumlen_bound ok
  exact settled_of_full W ok (by omega)
section
variable {P : Program} {w : World} {K : PySem.W.Frag} {mg : Str → Option Value} {base : Heap}
theorem ok_least {f : Addr} {fd : FuncData} (F : FnT K "_law_least_pulls" sLeast f fd) (hm : mg "_law_least_pulls" = some (.ref f)) (B : NB mg) (cCopy : Cal P w K mg base CX0 1 "_law_copy" spCopy) (cPulls : Cal P w K mg base CX0 2 "_law_pulls" spPulls) (cAfter : Cal P w K mg base CX0 2 "_law_after" spAfter) :
    Cal P w K mg base CX0 3 "_law_least_pulls" spLeast := by
  refine cal0 F hm (fun _ _ _ _ _ _ us hl => match us, hl with | [_, _], _ => rfl) scLeast (fun vs H Q E h => ?_) (fun cdv A outer s H vs Q E hr h => ?_)
  · obtain ⟨wa, la, ha, a, ts, as, n, sz, links, homes, L, rfl, _⟩ := h
    rfl
  · obtain ⟨wa, la, ha, a, ts, as, n, sz, links, homes, L, rfl, hW, hA, ok, q⟩ := h
    refine ⟨_, pss_cons (ps_set (i := 2) scLeast.nd rfl (Or.inl rfl) (pe_c cCopy hr (by decide) (by rfl) (pa_cons (pv 1) pa_nil)))
      (pss_cons (ps_set (i := 3) scLeast.nd rfl (Or.inl rfl) (pe_lst pa_nil))
      (pss_cons (ps_for PassesOwn.never rfl (pi_range1 (by rfl) B.rng (pa_cons (pe_op op_mul (pe_ix ix_tup (pv 0) pe_int (fun _ _ => rfl)) (pe_callB call_len_seq (by rfl) B.len PySem.boot_len (pa_cons (pe_ix ix_tup (pv 0) pe_int (fun _ _ => rfl)) pa_nil))) pa_nil)) (pg_name (i := 4) scLeast.nd rfl (.inl rfl))
        (pss_cons (ps_set (i := 5) scLeast.nd rfl (Or.inl rfl) (pe_c cPulls hr (by decide) (by rfl) (pa_cons (pv 0) (pa_cons (pv 2) pa_nil))))
        (pss_cons (ps_if (pt_cmpR (op_eqD hr.units) (pv 5) (pe_lst pa_nil) (nomark _)) (pss_one ps_break) pss_nil)
        (pss_cons (ps_expr (pe_bm PySem.F.plainAttrs_list PySem.F.slot_list_append PySem.F.type_list_append mt_append (pv 3) (pa_cons (pe_ix ix_list (pv 5) pe_int (fun _ _ => rfl)) pa_nil)))
        (pss_one (ps_set (i := 2) scLeast.nd rfl (Or.inl rfl) (pe_c cAfter hr (by decide) (by rfl) (pa_cons (pv 0) (pa_cons (pv 2) (pa_cons (pe_ix ix_list (pv 5) pe_int (fun _ _ => rfl)) pa_nil))))))))))
      (pss_one (ps_ret (pe_tup (pa_cons (pv 3) (pa_cons (pv 2) pa_nil))))))), ?_⟩
    have W := hW.w
    have n24 := W.n24
    have z60 := W.z60
    have l64 := hW.l64
    have hnz := nsz_le W
    refine ⟨_, rfl, a, as, L, rfl, hA, by rw [ok.1]; omega, fun l hl => by have := row_len (ok.2 l hl); omega, fun H1 np0 qs0 s1 lo0 nd0 => ⟨Nat.zero_le _, fun tp htp => ?_⟩⟩
    have s2 : Same H1 (upd H1 tp (.lst [])) := same_upd htp
    have htH : H tp = none := s1.free htp
    have lo1 : LogsA (fun b => H b = none ∧ b ≠ tp) (upd H1 tp (.lst [])) np0 qs0 L := (lo0.live.imp fun b hb => ⟨hb.1, fun z => hb.2 (by rw [z]; exact htp)⟩).same s2
    have tr1 : TraceA (NEW H) (upd H1 tp (.lst [])) tp [] [] := ⟨htH, upd_same, rfl, fun i t p h => (by simp at h)⟩
    have s3 := s1.trans s2
    generalize upd H1 tp (.lst []) = H2 at lo1 tr1 s3 ⊢
    have fin : ∀ (H' : Hp) (np : Addr) (us qs : List Addr) (tr : List Pull) (C : Logs), Same H H' → TraceA (NEW H) H' tp us tr → LogsA (fun b => H b = none ∧ b ≠ tp) H' np qs C → LRun links L tr C → pullsOf links C = [] → ∀ t, H' t = none → Q (.ref t) (upd H' t (.tup [.ref tp, .ref np])) := fun H' np us qs tr C s ht lo hrun hnil t htn =>
      q _ t tp np us qs tr C (s.trans (same_upd htn)) upd_same (ht.same (same_upd htn)) ((lo.imp fun b hb => hb.1).same (same_upd htn)) hrun hnil
    have w2 := hW.same s3
    refine ⟨_, rfl, wa, _, _, _, rfl, rfl, SqT.of w2.at_, atI_nat (j := 0) rfl, _, rfl, wa, _, _, _, rfl, rfl, SqT.of w2.at_, atI_nat (j := 2) rfl, ha, _, rfl, .inl (SqL.of w2.ho.2), _, _, rfl, rfl, .inl (by omega), ((n * sz : Nat) : Int), by rw [List.length_map, hW.hl, Int.natCast_mul], by omega, by omega, ?_⟩
    refine for_range (lo := 0) (n := ((n * sz : Nat) : Int).toNat) (fun i σ H' => ∃ (np : Addr) (us qs : List Addr) (tr : List Pull) (C : Logs) (x y : Option V), σ = [some (.ref wa), some (.ref a), some (.ref np), some (.ref tp), x, y] ∧ Same H H' ∧ TraceA (NEW H) H' tp us tr ∧ LogsA (fun b => H b = none ∧ b ≠ tp) H' np qs C ∧ LRun links L tr C ∧ tr.length = i)
      ⟨np0, [], qs0, [], L, _, _, rfl, s3, tr1, lo1, .nil _, rfl⟩ ?_ ?_
    · rintro i σ H3 hi ⟨np, us, qs, tr, C, x, y, rfl, s4, tA, lo, hrun, hlen⟩
      rw [Int.toNat_natCast] at hi
      have w3 := hW.same s4
      have okC := (hrun.ok W ok).1
      refine ⟨_, rfl, _, rfl, wa, la, ha, np, ts, qs, n, sz, links, homes, C, rfl, w3, lo.imp fun _ _ => True.intro, okC, fun H4 pp vs s5 hPu => ?_⟩
      refine ⟨_, rfl, Nat.zero_le _, fun l0 hl0 => ?_⟩
      have s6 : Same H4 (upd H4 l0 (.lst [])) := same_upd hl0
      have e6 : upd H4 l0 (.lst []) l0 = some (.lst []) := upd_same
      generalize upd H4 l0 (.lst []) = H5 at s6 e6 ⊢
      have hPu5 := hPu.same s6
      have s56 := s5.trans s6
      refine ⟨.list ((pullsOf links C).map pAct |>.map actD), .list [], hPu5.acts.dp, .lst (SqL.of e6) .nil, shaped_acts _, shaped_ints [], _, rfl, ?_⟩
      rw [eqv_nil]
      cases hp : pullsOf links C with
      | nil =>
        refine iteT ⟨_, rfl, _, rfl, by show 2 ≤ sizeLine; decide, fun t ht => ?_⟩
        exact fin H5 np us qs tr C (s4.trans s56) (tA.same s56) (lo.same s56) hrun hp t ht
      | cons p pr =>
        rw [hp] at hPu5
        refine iteF ?_
        have hhead : (pullsOf links C).head? = some p := by rw [hp]; rfl
        have hmem := head_mem hhead
        have hadd := pull_add W okC hmem
        obtain ⟨t, x, ht1, hx, ct, ht⟩ := hPu5.acts.get (i := 0) (by simp)
        have hxp : x = pAct p := by simpa using hx.symm
        subst hxp
        have tA5 := tA.same s56
        have lo5 := lo.same s56
        refine ⟨_, rfl, .inl ⟨rfl, _, SqL.of tA5.at_⟩, _, rfl, pp, _, _, _, rfl, rfl, SqL.of hPu5.at_, atI_nat (j := 0) ht1, tp, _, _, rfl, rfl, tA5.at_, small9000 (by rw [List.length_map, tA5.len]; omega), ?_⟩
        have hne : pp ≠ tp := fun z => by
          have h1 : H3 pp = none := hPu.c
          rw [z, tA.at_] at h1
          cases h1
        have k6 : ∀ b, b ≠ tp → upd H5 tp (.lst (us.map V.ref ++ [.ref t])) b = H5 b := fun b hb => upd_ne hb
        have e7 : upd H5 tp (.lst (us.map V.ref ++ [.ref t])) tp = some (.lst (us.map V.ref ++ [.ref t])) := upd_same
        have lo6 : LogsA (fun b => H b = none ∧ b ≠ tp) (upd H5 tp (.lst (us.map V.ref ++ [.ref t]))) np qs C := lo5.kp (E := fun b => b = tp) (kp_upd (.inl rfl)) fun b hb => hb.2
        have s7 : Same H (upd H5 tp (.lst (us.map V.ref ++ [.ref t]))) := fun b o eb => by
          rw [k6 _ (ne_of_none eb htH)]
          exact (s4.trans s56) _ _ eb
        generalize upd H5 tp (.lst (us.map V.ref ++ [.ref t])) = H6 at k6 e7 lo6 s7 ⊢
        have hktup : ∀ b xs, H5 b = some (.tup xs) → H6 b = some (.tup xs) := fun b xs hb => by
          rw [k6 _ (ne_of hb tA5.at_ (by intro z; cases z))]
          exact hb
        have ht6 := hktup _ _ ht
        have tA6 := tA5.snoc (x := p) (s4.free ct) e7 ht6 hktup
        have w6 := hW.same s7
        refine ⟨_, rfl, _, rfl, _, rfl, pp, _, _, _, rfl, rfl, SqL.of ((k6 _ hne).trans hPu5.at_), atI_nat (j := 0) ht1, wa, la, ha, np, t, ts, qs, n, sz, links, homes, C, pAct p, rfl, w6, lo6.imp fun _ _ => True.intro, okC, ht6, fun e he => (by cases he), hadd, fun H7 p7 qs7 s8 lo7 nd7 => ?_⟩
        exact ⟨p7, us ++ [t], qs7, tr ++ [p], after C p, _, _, rfl, s7.trans s8, tA6.same s8, lo7.imp fun b hb => ⟨s7.free hb, fun z => by rw [z] at hb; rw [show H6 tp = none from hb] at e7; cases e7⟩, hrun.snoc hhead, by rw [List.length_append, hlen]; rfl⟩
    · rintro σ H3 ⟨np, us, qs, tr, C, x, y, rfl, s4, tA, lo, hrun, hlen⟩
      rw [Int.toNat_natCast] at hlen
      obtain ⟨h1, h2, h3⟩ := hrun.ok W ok
      refine ⟨_, rfl, _, rfl, by show 2 ≤ sizeLine; decide, fun t ht => ?_⟩
      exact fin H3 np us qs tr C s4 tA lo hrun (full_nil W h1 h2 (by omega)) t ht
end
/-! ### _law_drawn_pulls -/
structure MomR (C : AP) (H : Hp) (ms : List Addr) (Ms : List Logs) : Prop where
  len : ms.length = Ms.length
  row : ∀ (i : Nat) (m : Addr) (M : Logs), ms[i]? = some m → Ms[i]? = some M → ∃ qs, LogsA C H m qs M
theorem MomR.kp {C E : AP} {H H' : Hp} {ms : List Addr} {Ms : List Logs} (h : MomR C H ms Ms) (k : Kp E H H') (n : ∀ b, C b → ¬ E b) : MomR C H' ms Ms := ⟨h.len, fun i m M e1 e2 => let ⟨qs, l⟩ := h.row i m M e1 e2; ⟨qs, l.kp k n⟩⟩
theorem MomR.same {C : AP} {H H' : Hp} {ms : List Addr} {Ms : List Logs} (h : MomR C H ms Ms) (k : Same H H') : MomR C H' ms Ms := ⟨h.len, fun i m M e1 e2 => let ⟨qs, l⟩ := h.row i m M e1 e2; ⟨qs, l.same k⟩⟩
theorem MomR.snoc {C : AP} {H : Hp} {ms : List Addr} {Ms : List Logs} {m : Addr} {M : Logs} {qs : List Addr} (h : MomR C H ms Ms) (l : LogsA C H m qs M) : MomR C H (ms ++ [m]) (Ms ++ [M]) := by
  refine ⟨by rw [List.length_append, List.length_append, h.len]; rfl, fun i m' M' e1 e2 => ?_⟩
  rcases snoc_get e1 with ⟨hi, e1⟩ | ⟨hi, e1⟩
  · rcases snoc_get e2 with ⟨hj, e2⟩ | ⟨hj, e2⟩
    · exact h.row i m' M' e1 e2
    · rw [h.len] at hi; omega
  · rcases snoc_get e2 with ⟨hj, e2⟩ | ⟨hj, e2⟩
    · rw [h.len] at hi; omega
    · rw [e1, e2]; exact ⟨qs, l⟩
abbrev sDrawn : Stmt := top 51
theorem scDrawn : FnScope ["_law_box_here", "_law_world_here", "_law_logs", "_law_moments", "_law_k", "_law_pulls_here"] ["_law_box_here", "_law_world_here", "_law_logs"] (defScope sDrawn) := ⟨rfl, rfl, rfl, by decide +kernel, rfl, by decide +kernel, by decide +kernel⟩
def spDrawn (e : W4) : Sp := fun vs H Q _ => ∃ (wa la ha a : Addr) (ts as : List Addr) (n sz : Nat) (links : Links) (homes : List Int) (L : Logs), vs = [.ref e.bx, .ref wa, .ref a] ∧ SA e H ∧ WoA e.N H wa la ha ts n sz links homes ∧ LogsA e.N H a as L ∧ okLogs n sz L ∧
  ∀ (H' : Hp) (mp : Addr) (ms : List Addr) (Ms : List Logs) (Lz : Logs), K4 e H H' → MomA e.N H' mp ms (Ms ++ [Lz]) → Moments links (Ms ++ [Lz]) → (Ms ++ [Lz])[0]? = some L → pullsOf links Lz = [] → Q (.ref mp) H'
theorem mom_last {links : Links} {n sz : Nat} {Ms : List Logs} {L Lz : Logs} (W : OkW n sz links) (ok : okLogs n sz L) (h : Moments links (Ms ++ [Lz])) (h0 : (Ms ++ [Lz])[0]? = some L) : okLogs n sz Lz ∧ sumlen Lz = sumlen L + Ms.length := by
  have := h.ok W L h0 ok Ms.length Lz (by rw [List.getElem?_append_right (Nat.le_refl _), Nat.sub_self]; rfl)
  exact ⟨this.1, this.2.1⟩
section
variable {P : Program} {w : World} {K : PySem.W.Frag} {mg : Str → Option Value} {base : Heap}
theorem ok_drawn {f : Addr} {fd : FuncData} {e : W4} (F : FnT K "_law_drawn_pulls" sDrawn f fd) (hm : mg "_law_drawn_pulls" = some (.ref f)) (B : NB mg) (cTake : Cal P w K mg base CX0 1 "_law_take" (spTake e)) (cCopy : Cal P w K mg base CX0 1 "_law_copy" spCopy) (cPulls : Cal P w K mg base CX0 2 "_law_pulls" spPulls) (cAfter : Cal P w K mg base CX0 2 "_law_after" spAfter) :
    Cal P w K mg base CX0 3 "_law_drawn_pulls" (spDrawn e) := by
  refine cal0 F hm (fun _ _ _ _ _ _ us hl => match us, hl with | [_, _, _], _ => rfl) scDrawn (fun vs H Q E h => ?_) (fun cdv A outer s H vs Q E hr h => ?_)
  · obtain ⟨wa, la, ha, a, ts, as, n, sz, links, homes, L, rfl, _⟩ := h
    rfl
  · obtain ⟨wa, la, ha, a, ts, as, n, sz, links, homes, L, rfl, hS, hW, hA, ok, q⟩ := h
    refine ⟨_, pss_cons (ps_set (i := 3) scDrawn.nd rfl (Or.inl rfl) (pe_lst (pa_cons (pe_c cCopy hr (by decide) (by rfl) (pa_cons (pv 2) pa_nil)) pa_nil)))
      (pss_cons (ps_for PassesOwn.never rfl (pi_range1 (by rfl) B.rng (pa_cons (pe_op op_mul (pe_ix ix_tup (pv 1) pe_int (fun _ _ => rfl)) (pe_callB call_len_seq (by rfl) B.len PySem.boot_len (pa_cons (pe_ix ix_tup (pv 1) pe_int (fun _ _ => rfl)) pa_nil))) pa_nil)) (pg_name (i := 4) scDrawn.nd rfl (.inl rfl))
        (pss_cons (ps_set (i := 5) scDrawn.nd rfl (Or.inl rfl) (pe_c cPulls hr (by decide) (by rfl) (pa_cons (pv 1) (pa_cons (pe_ix ix_list (pv 3) (pe_un un_neg pe_int) (fun _ _ => rfl)) pa_nil))))
        (pss_cons (ps_if (pt_cmpR (op_eqD hr.units) (pv 5) (pe_lst pa_nil) (nomark _)) (pss_one ps_break) pss_nil)
        (pss_one (ps_expr (pe_bm PySem.F.plainAttrs_list PySem.F.slot_list_append PySem.F.type_list_append mt_append (pv 3) (pa_cons (pe_c cAfter hr (by decide) (by rfl) (pa_cons (pv 1) (pa_cons (pe_ix ix_list (pv 3) (pe_un un_neg pe_int) (fun _ _ => rfl))
          (pa_cons (pe_ix ix_list (pv 5) (pe_c cTake hr (by decide) (by rfl) (pa_cons (pv 0) (pa_cons (pe_callB call_len_seq (by rfl) B.len PySem.boot_len (pa_cons (pv 5) pa_nil)) pa_nil))) (fun _ _ => rfl)) pa_nil)))) pa_nil)))))))
      (pss_one (ps_ret (pv 3)))), ?_⟩
    have W := hW.w
    have n24 := W.n24
    have z60 := W.z60
    have l64 := hW.l64
    have hnz := nsz_le W
    refine ⟨_, rfl, a, as, L, rfl, hA.imp fun _ _ => True.intro, by rw [ok.1]; omega, fun l hl => by have := row_len (ok.2 l hl); omega, fun H1 np0 qs0 s1 lo0 nd0 => ⟨by show 1 ≤ sizeLine; decide, fun mp hmp => ?_⟩⟩
    have s2 : Same H1 (upd H1 mp (.lst [.ref np0])) := same_upd hmp
    have hmH : H mp = none := s1.free hmp
    have nmp : e.N mp := hS.new hmH
    have lo1 : LogsA (fun b => e.N b ∧ b ≠ mp) (upd H1 mp (.lst [.ref np0])) np0 qs0 L := (lo0.live.imp fun b hb => ⟨hS.new hb.1, fun z => hb.2 (by rw [z]; exact hmp)⟩).same s2
    have mr1 : MomR (fun b => e.N b ∧ b ≠ mp) (upd H1 mp (.lst [.ref np0])) ([] ++ [np0]) ([] ++ [L]) := MomR.snoc ⟨rfl, fun i m M h => (by simp at h)⟩ lo1
    have e1 : upd H1 mp (.lst [.ref np0]) mp = some (.lst (([] ++ [np0]).map V.ref)) := upd_same
    have k3 : K4 e H (upd H1 mp (.lst [.ref np0])) := k4_same hS (s1.trans s2)
    generalize upd H1 mp (.lst [.ref np0]) = H2 at mr1 e1 k3 ⊢
    have w2 := hW.k4 k3
    refine ⟨_, rfl, wa, _, _, _, rfl, rfl, SqT.of w2.at_, atI_nat (j := 0) rfl, _, rfl, wa, _, _, _, rfl, rfl, SqT.of w2.at_, atI_nat (j := 2) rfl, ha, _, rfl, .inl (SqL.of w2.ho.2), _, _, rfl, rfl, .inl (by omega), ((n * sz : Nat) : Int), by rw [List.length_map, hW.hl, Int.natCast_mul], by omega, by omega, ?_⟩
    refine for_range (lo := 0) (n := ((n * sz : Nat) : Int).toNat) (fun i σ H' => ∃ (ms : List Addr) (mz : Addr) (Ms : List Logs) (Lz : Logs) (x y : Option V), σ = [some (.ref e.bx), some (.ref wa), some (.ref a), some (.ref mp), x, y] ∧ K4 e H H' ∧ H' mp = some (.lst ((ms ++ [mz]).map V.ref)) ∧ MomR (fun b => e.N b ∧ b ≠ mp) H' (ms ++ [mz]) (Ms ++ [Lz]) ∧ Moments links (Ms ++ [Lz]) ∧ (Ms ++ [Lz])[0]? = some L ∧ Ms.length = i)
      ⟨[], np0, [], L, _, _, rfl, k3, e1, mr1, .one L, rfl, rfl⟩ ?_ ?_
    · rintro i σ H3 hi ⟨ms, mz, Ms, Lz, x, y, rfl, k4, em, mr, hMo, h0, hlen⟩
      rw [Int.toNat_natCast] at hi
      have w3 := hW.k4 k4
      obtain ⟨okC, hsum⟩ := mom_last W ok hMo h0
      have hml := mr.len
      rw [List.length_append, List.length_append] at hml
      obtain ⟨qs, lo⟩ := mr.row ms.length mz Lz (by rw [List.getElem?_append_right (Nat.le_refl _), Nat.sub_self]; rfl) (by rw [List.getElem?_append_right (by simp at hml; omega)]; simp at hml; simp [hml])
      have emA : H3 mp = some (.lst (ms.map V.ref ++ [.ref mz])) := by rw [em, List.map_append]; rfl
      refine ⟨_, rfl, _, rfl, _, rfl, mp, _, _, _, rfl, rfl, SqL.of emA, atI_last _ _, wa, la, ha, mz, ts, qs, n, sz, links, homes, Lz, rfl, w3.imp fun _ _ => True.intro, lo.imp fun _ _ => True.intro, okC, fun H4 pp vs s5 hPu => ?_⟩
      refine ⟨_, rfl, Nat.zero_le _, fun l0 hl0 => ?_⟩
      have s6 : Same H4 (upd H4 l0 (.lst [])) := same_upd hl0
      have e6 : upd H4 l0 (.lst []) l0 = some (.lst []) := upd_same
      generalize upd H4 l0 (.lst []) = H5 at s6 e6 ⊢
      have hPu5 := hPu.same s6
      have s56 := s5.trans s6
      have k5 := k4.same s56
      refine ⟨.list ((pullsOf links Lz).map pAct |>.map actD), .list [], hPu5.acts.dp, .lst (SqL.of e6) .nil, shaped_acts _, shaped_ints [], _, rfl, ?_⟩
      rw [eqv_nil]
      cases hp : pullsOf links Lz with
      | nil =>
        refine iteT ⟨_, rfl, ?_⟩
        exact q H5 mp (ms ++ [mz]) Ms Lz k5 ⟨nmp, s56 _ _ em, mr.len, fun j m M e1 e2 => let ⟨qs, l⟩ := mr.row j m M e1 e2; ⟨qs, (l.same s56).imp fun b hb => hb.1⟩⟩ hMo h0 hp
      | cons p0 pr =>
        refine iteF ?_
        have hpos : 0 < (pullsOf links Lz).length := by rw [hp]; exact Nat.succ_pos _
        have hpl := pulls_len links Lz
        have hAc : ActsA e.N H5 pp vs ((pullsOf links Lz).map fun p => .pull p.1 p.2.1 p.2.2) := hPu5.acts.imp fun b hb => k4.2.new hb
        have w5 := hW.k4 k5
        have em5 := s56 _ _ emA
        refine ⟨_, rfl, .inl ⟨rfl, _, SqL.of em5⟩, _, rfl, _, rfl, _, rfl, mp, _, _, _, rfl, rfl, SqL.of em5, atI_last _ _, ?_⟩
        refine ⟨_, rfl, _, rfl, _, rfl, pp, _, rfl, .inl (SqL.of hAc.at_), (pullsOf links Lz).length, by rw [List.length_map, hAc.len, List.length_map]; rfl, k5.2, hpos, by omega, fun d H6 hd k6 => ?_⟩
        have hAc6 := hAc.kp k6.1 fun _ h => h
        obtain ⟨t, x, ht1, hx, ct, ht⟩ := hAc6.get (i := d) (by rw [List.length_map]; exact hd)
        rw [List.getElem?_map] at hx
        obtain ⟨p, hpd, rfl⟩ := Option.map_eq_some_iff.mp hx
        have hmem : p ∈ pullsOf links Lz := List.mem_of_getElem? hpd
        have hadd := pull_add W okC hmem
        have w6 := w5.k4 k6
        have lo6 : LogsA (fun b => e.N b ∧ b ≠ mp) H6 mz qs Lz := (lo.same s56).kp k6.1 fun b hb => hb.1
        have k56 := k5.trans k6
        refine ⟨pp, _, _, _, rfl, rfl, SqL.of hAc6.at_, atI_nat ht1, wa, la, ha, mz, t, ts, qs, n, sz, links, homes, Lz, pAct p, rfl, w6.imp fun _ _ => True.intro, lo6.imp fun _ _ => True.intro, okC, ht, fun e he => (by cases he), hadd, fun H7 p7 qs7 s7 lo7 nd7 => ?_⟩
        have em7 : H7 mp = some (.lst (ms.map V.ref ++ [.ref mz])) := s7 _ _ (k6.1.keep _ _ em5 nmp)
        have k7 := k56.same s7
        have mr7 : MomR (fun b => e.N b ∧ b ≠ mp) H7 (ms ++ [mz]) (Ms ++ [Lz]) := ((mr.same s56).kp k6.1 fun b hb => hb.1).same s7
        have lo8 : LogsA (fun b => e.N b ∧ b ≠ mp) H7 p7 qs7 (after Lz p) := lo7.imp fun b hb => ⟨k56.2.new hb, fun z => by rw [z] at hb; exact some_ne (k6.1.keep _ _ em5 nmp) hb⟩
        refine ⟨mp, _, _, rfl, rfl, em7, small9000 (by rw [List.length_append, List.length_map]; simp at hml ⊢; omega), ?_⟩
        refine ⟨ms ++ [mz], p7, Ms ++ [Lz], after Lz p, _, _, rfl, k7.updL em7 hmH nmp, by rw [upd_same, List.map_append, List.map_append]; rfl, (mr7.snoc lo8).kp (E := fun b => b = mp) (kp_upd (.inl rfl)) fun b hb => hb.2, .snoc hMo hmem, ?_, by rw [List.length_append, hlen]; rfl⟩
        rw [List.getElem?_append_left (by simp)]
        exact h0
    · rintro σ H3 ⟨ms, mz, Ms, Lz, x, y, rfl, k4, em, mr, hMo, h0, hlen⟩
      rw [Int.toNat_natCast] at hlen
      obtain ⟨okC, hsum⟩ := mom_last W ok hMo h0
      exact ⟨_, rfl, q H3 mp (ms ++ [mz]) Ms Lz k4 ⟨nmp, em, mr.len, fun j m M e1 e2 => let ⟨qs, l⟩ := mr.row j m M e1 e2; ⟨qs, l.imp fun b hb => hb.1⟩⟩ hMo h0 (full_nil W okC hsum (by omega))⟩
end
end K8

set_option maxHeartbeats 4000000
namespace K8
open PySem PySem.Spec PyProof.Rows L2
theorem inV_nv (e : Nat) (l : List Nat) : inV (.int (e : Nat)) (nv l) = decide (e ∈ l) := by
  unfold inV nv
  rw [List.any_map]
  by_cases h : e ∈ l
  · rw [decide_eq_true h, List.any_eq_true]
    exact ⟨e, h, beq_self_eq_true ((e : Nat) : Int)⟩
  · rw [decide_eq_false h, List.any_eq_false]
    intro x hx hh
    have h2 : ((x : Nat) : Int) = (e : Nat) := eq_of_beq (show (((x : Nat) : Int) == ((e : Nat) : Int)) = true from hh)
    exact h ((show x = e by omega) ▸ hx)
theorem nv_app (a b : List Nat) : nv (a ++ b) = nv a ++ nv b := List.map_append
theorem flat_nv (l : List Nat) : (nv l).all flatV = true := by
  unfold nv
  rw [List.all_map, List.all_eq_true]
  intro x _
  rfl
abbrev sReached : Stmt := top 47
abbrev sClosed : Stmt := top 48
abbrev sMissing : Stmt := top 49
theorem scReached : FnScope ["_law_links_here", "_law_count", "_law_reader", "_law_found", "_law_k", "_law_size", "_law_pair"] ["_law_links_here", "_law_count", "_law_reader"] (defScope sReached) := ⟨rfl, rfl, rfl, by decide +kernel, rfl, by decide +kernel, by decide +kernel⟩
theorem scClosed : FnScope ["_law_world_here", "_law_logs", "_law_closed_here", "_law_reader", "_law_sources", "_law_held_here", "_law_source", "_law_entry"] ["_law_world_here", "_law_logs"] (defScope sClosed) := ⟨rfl, rfl, rfl, by decide +kernel, rfl, by decide +kernel, by decide +kernel⟩
theorem scMissing : FnScope ["_law_closed_here", "_law_logs", "_law_row", "_law_log"] ["_law_closed_here", "_law_logs"] (defScope sMissing) := ⟨rfl, rfl, rfl, by decide +kernel, rfl, by decide +kernel, by decide +kernel⟩
def spReached : Sp := fun vs H Q _ => ∃ (la : Addr) (ts : List Addr) (n r : Nat) (links : Links), vs = [.ref la, .int (n : Nat), .int (r : Nat)] ∧ LinksA ANY H la ts links ∧ n ≤ 24 ∧ (∀ q ∈ links, q.1 < n ∧ q.2 < n) ∧ r < n ∧
  ∀ (H' : Hp) (p : Addr) (fs : List Nat), Same H H' → H' p = some (.lst (nv fs)) → (∀ s, s ∈ fs ↔ Reach links s r) → (∀ s ∈ fs, s < n) → fs.length ≤ 24 → Q (.ref p) H'
/-- the replicas found so far, from which r is reached -/
structure FdI (links : Links) (n r : Nat) (fs : List Nat) : Prop where
  nd : fs.Nodup
  lt : ∀ s ∈ fs, s < n
  rd : r ∈ fs
  re : ∀ s ∈ fs, Reach links s r
theorem FdI.add {links : Links} {n r : Nat} {fs : List Nat} (h : FdI links n r fs) {a b : Nat} (hl : (a, b) ∈ links) (hb : b ∈ fs) (ha : a ∉ fs) (hn : a < n) : FdI links n r (fs ++ [a]) := by
  refine ⟨List.nodup_append.mpr ⟨h.nd, List.nodup_cons.mpr ⟨List.not_mem_nil, List.nodup_nil⟩, fun x hx y hy e => ?_⟩, fun s hs => ?_, List.mem_append_left _ h.rd, fun s hs => ?_⟩
  · rw [List.mem_singleton.mp hy] at e
    exact ha (e ▸ hx)
  · rcases List.mem_append.mp hs with hs | hs
    · exact h.lt s hs
    · rw [List.mem_singleton.mp hs]; exact hn
  · rcases List.mem_append.mp hs with hs | hs
    · exact h.re s hs
    · rw [List.mem_singleton.mp hs]
      exact .cons hl (h.re b hb)
theorem FdI.all {links : Links} {n r : Nat} {fs : List Nat} (h : FdI links n r fs) (hc : ∀ q ∈ links, q.2 ∈ fs → q.1 ∈ fs) (s : Nat) : s ∈ fs ↔ Reach links s r := by
  refine ⟨h.re s, fun hr => ?_⟩
  have key : ∀ {a b : Nat}, Reach links a b → b ∈ fs → a ∈ fs := by
    intro a b hab
    induction hab with
    | refl => exact id
    | step _ hl ih => exact fun hb => ih (hc _ hl hb)
  exact key hr h.rd
section
variable {P : Program} {w : World} {K : PySem.W.Frag} {mg : Str → Option Value} {base : Heap}
theorem ok_reached {f : Addr} {fd : FuncData} (F : FnT K "_law_reached_from" sReached f fd) (hm : mg "_law_reached_from" = some (.ref f)) (B : NB mg) : Cal P w K mg base CX0 1 "_law_reached_from" spReached := by
  refine cal0 F hm (fun _ _ _ _ _ _ us hl => match us, hl with | [_, _, _], _ => rfl) scReached (fun vs H Q E h => ?_) (fun cdv A outer s H vs Q E hr h => ?_)
  · obtain ⟨la, ts, n, r, links, rfl, _⟩ := h
    rfl
  · obtain ⟨la, ts, n, r, links, rfl, hA, n24, hbd, hrn, q⟩ := h
    refine ⟨_, pss_cons (ps_set (i := 3) scReached.nd rfl (Or.inl rfl) (pe_lst (pa_cons (pv 2) pa_nil)))
      (pss_cons (ps_for PassesOwn.never rfl (pi_range1 (by rfl) B.rng (pa_cons (pv 1) pa_nil)) (pg_name (i := 4) scReached.nd rfl (.inl rfl))
        (pss_cons (ps_set (i := 5) scReached.nd rfl (Or.inl rfl) (pe_callB call_len_seq (by rfl) B.len PySem.boot_len (pa_cons (pv 3) pa_nil)))
        (pss_cons (ps_for PassesOwn.never rfl (pi_list (pv 0)) (pg_name (i := 6) scReached.nd rfl (.inl rfl))
          (pss_one (ps_if (PW.pt (pw_and (pt_cmpR op_in_seq (pe_ix ix_tup (pv 6) pe_int (fun _ _ => rfl)) (pv 3) (by rfl)) (pw_and1 (pt_cmpR op_notIn_seq (pe_ix ix_tup (pv 6) pe_int (fun _ _ => rfl)) (pv 3) (by rfl)))))
            (pss_one (ps_expr (pe_bm PySem.F.plainAttrs_list PySem.F.slot_list_append PySem.F.type_list_append mt_append (pv 3) (pa_cons (pe_ix ix_tup (pv 6) pe_int (fun _ _ => rfl)) pa_nil)))) pss_nil)))
        (pss_one (ps_if (pt_cmpR op_eq (pe_callB call_len_seq (by rfl) B.len PySem.boot_len (pa_cons (pv 3) pa_nil)) (pv 5) (nomark _)) (pss_one (ps_ret (pv 3))) pss_nil)))))
      (pss_one (ps_ret (pv 3)))), ?_⟩
    refine ⟨_, rfl, by show 1 ≤ sizeLine; decide, fun p hp => ?_⟩
    have s1 : Same H (upd H p (.lst [.int (r : Nat)])) := same_upd hp
    have hpa : ∀ (H' : Hp), Same H H' → LinksA (fun b => b ≠ p) H' la ts links := fun H' s => (hA.live.imp fun b hb (z : b = p) => hb.2 (by rw [z]; exact hp)).same s
    refine ⟨_, rfl, (n : Nat), rfl, by omega, by omega, for_range (lo := 0) (n := ((n : Nat) : Int).toNat) (fun i σ H' => ∃ (fs : List Nat) (x y z : Option V), σ = [some (.ref la), some (.int (n : Nat)), some (.int (r : Nat)), some (.ref p), x, y, z] ∧ Same H H' ∧ H' p = some (.lst (nv fs)) ∧ FdI links n r fs ∧ i < fs.length)
      ⟨[r], _, _, _, rfl, s1, upd_same, ⟨List.nodup_cons.mpr ⟨List.not_mem_nil, List.nodup_nil⟩, fun s hs => by rw [List.mem_singleton.mp hs]; exact hrn, List.mem_singleton.mpr rfl, fun s hs => by rw [List.mem_singleton.mp hs]; exact .refl r⟩, Nat.succ_pos _⟩ ?_ ?_⟩
    · rintro i σ H1 hi ⟨fs, x, y, z, rfl, s2, hp2, hF, hil⟩
      refine ⟨_, rfl, p, _, rfl, .inl (SqL.of hp2), ?_⟩
      refine ⟨_, rfl, la, rfl, ⟨_, SqL.of (hpa _ s2).at_⟩, for_list (xs := ts.map V.ref) (fun j σ H' => ∃ (ex : List Nat) (z : Option V), σ = [some (.ref la), some (.int (n : Nat)), some (.int (r : Nat)), some (.ref p), some (.int (0 + (i : Nat))), some (.int ((nv fs).length : Nat)), z] ∧ Same H H' ∧ H' p = some (.lst (nv (fs ++ ex))) ∧ FdI links n r (fs ++ ex) ∧ (ex = [] → ∀ (j' : Nat) (q : Nat × Nat), j' < j → links[j']? = some q → q.2 ∈ fs → q.1 ∈ fs))
        ⟨[], _, rfl, s2, by rw [List.append_nil]; exact hp2, by rw [List.append_nil]; exact hF, fun _ j' q hj => absurd hj (Nat.not_lt_zero _)⟩ (fun j σ H' _ ⟨ex, z, _, s, _⟩ => SqL.of (hpa _ s).at_) ?_ ?_⟩
      · rintro j v σ H2 hx ⟨ex, z, rfl, s3, hp3, hF3, hno⟩
        obtain ⟨t, q0, rfl, hq0, _, ht⟩ := (hpa _ s3).get hx
        obtain ⟨b1, b2⟩ := hbd _ (List.mem_of_getElem? hq0)
        have hlen := nat_len hF3.nd hF3.lt
        refine ⟨_, rfl, t, _, _, _, rfl, rfl, SqT.of ht, atI_nat (j := 1) rfl, _, rfl, p, _, rfl, .inl (SqL.of hp3), rfl, flat_nv _, _, rfl, ?_⟩
        rw [if_neg (by decide), inV_nv]
        have nxt : (q0.2 ∈ fs ++ ex → q0.1 ∈ fs ++ ex) → (ex = [] → ∀ (j' : Nat) (q : Nat × Nat), j' < j + 1 → links[j']? = some q → q.2 ∈ fs → q.1 ∈ fs) := fun h e j' q hj' hq hq2 => by
          subst e
          rw [List.append_nil] at h
          by_cases hjj : j' < j
          · exact hno rfl j' q hjj hq hq2
          · have : j' = j := by omega
            subst this
            rw [hq0] at hq
            cases hq
            exact h hq2
        refine ite2 (fun e1 => ?_) (fun e1 => ?_)
        · have m1 := of_decide_eq_true e1
          refine ⟨_, rfl, t, _, _, _, rfl, rfl, SqT.of ht, atI_nat (j := 0) rfl, _, rfl, p, _, rfl, .inl (SqL.of hp3), rfl, flat_nv _, _, rfl, ?_⟩
          rw [if_pos rfl, inV_nv]
          by_cases m0 : q0.1 ∈ fs ++ ex
          · rw [decide_eq_true m0]
            exact iteF ⟨ex, _, rfl, s3, hp3, hF3, nxt fun _ => m0⟩
          · rw [decide_eq_false m0]
            refine iteT ⟨_, rfl, .inl ⟨rfl, _, SqL.of hp3⟩, _, rfl, t, _, _, _, rfl, rfl, SqT.of ht, atI_nat (j := 0) rfl, p, _, _, rfl, rfl, hp3, small1000 (by rw [nv_len]; omega), ?_⟩
            refine ⟨ex ++ [q0.1], _, rfl, fun b o e => ?_, ?_, ?_, fun z => ?_⟩
            · rw [upd_ne (ne_of_none e hp)]
              exact s3 _ _ e
            · rw [upd_same, ← List.append_assoc, nv_app (fs ++ ex)]
              rfl
            · rw [← List.append_assoc]
              exact hF3.add (List.mem_of_getElem? hq0) m1 m0 b1
            · exact absurd (congrArg List.length z) (by simp)
        · exact ⟨ex, _, rfl, s3, hp3, hF3, nxt fun z => absurd (decide_eq_true z) e1⟩
      · rintro σ H2 ⟨ex, z, rfl, s3, hp3, hF3, hno⟩
        rw [List.length_map, hA.len] at hno
        refine ⟨_, rfl, p, _, rfl, .inl (SqL.of hp3), _, rfl, rfl, _, rfl, ?_⟩
        have hlen := nat_len hF3.nd hF3.lt
        refine ite2 (fun e1 => ?_) (fun e1 => ?_)
        · have h1 := V.int.inj (of_decide_eq_true e1)
          rw [nv_len, nv_len, List.length_append] at h1
          have hex : ex = [] := List.length_eq_zero_iff.mp (by omega)
          subst hex
          rw [List.append_nil] at hp3 hF3
          refine ⟨_, rfl, q H2 p fs s3 hp3 (hF3.all fun q0 hq hq2 => ?_) hF3.lt (by have := nat_len hF3.nd hF3.lt; omega)⟩
          obtain ⟨j, hj, ej⟩ := List.getElem_of_mem hq
          exact hno rfl j q0 hj (by rw [List.getElem?_eq_getElem hj, ej]) hq2
        · have hne : ex.length ≠ 0 := fun z => e1 (decide_eq_true (congrArg V.int (by rw [nv_len, nv_len, List.length_append, z]; rfl)))
          exact ⟨fs ++ ex, _, _, _, rfl, s3, hp3, hF3, by rw [List.length_append]; omega⟩
    · rintro σ H1 ⟨fs, x, y, z, rfl, s2, hp2, hF, hil⟩
      have := nat_len hF.nd hF.lt
      omega
end
/-! ### _law_closed, _law_missing -/
structure LogsR (C : AP) (H : Hp) (qs : List Addr) (L : Logs) : Prop where
  len : qs.length = L.length
  row : ∀ (i : Nat) (p : Addr) (l : List Int), qs[i]? = some p → L[i]? = some l → Ints C H p l
theorem LogsR.kp {C E : AP} {H H' : Hp} {qs : List Addr} {L : Logs} (h : LogsR C H qs L) (k : Kp E H H') (n : ∀ b, C b → ¬ E b) : LogsR C H' qs L := ⟨h.len, fun i p l e1 e2 => (h.row i p l e1 e2).kp k n⟩
theorem LogsR.same {C : AP} {H H' : Hp} {qs : List Addr} {L : Logs} (h : LogsR C H qs L) (k : Same H H') : LogsR C H' qs L := ⟨h.len, fun i p l e1 e2 => (h.row i p l e1 e2).same k⟩
theorem LogsR.snoc {C : AP} {H : Hp} {qs : List Addr} {L : Logs} {q : Addr} {l : List Int} (h : LogsR C H qs L) (hi : Ints C H q l) : LogsR C H (qs ++ [q]) (L ++ [l]) := by
  refine ⟨by rw [List.length_append, List.length_append, h.len]; rfl, fun i m' M' e1 e2 => ?_⟩
  rcases snoc_get e1 with ⟨hi', e1⟩ | ⟨hi', e1⟩
  · rcases snoc_get e2 with ⟨hj, e2⟩ | ⟨hj, e2⟩
    · exact h.row i m' M' e1 e2
    · rw [h.len] at hi'; omega
  · rcases snoc_get e2 with ⟨hj, e2⟩ | ⟨hj, e2⟩
    · rw [h.len] at hi'; omega
    · rw [e1, e2]; exact hi
theorem nv_ofNat (l : List Nat) : nv l = (l.map Int.ofNat).map V.int := by
  unfold nv
  rw [List.map_map]
  rfl
def spClosed : Sp := fun vs H Q _ => ∃ (wa la ha a : Addr) (ts as : List Addr) (n sz : Nat) (links : Links) (homes : List Int) (L : Logs), vs = [.ref wa, .ref a] ∧ WoA ANY H wa la ha ts n sz links homes ∧ LogsA ANY H a as L ∧ okLogs n sz L ∧
  ∀ (H' : Hp) (p : Addr) (qs : List Addr), Same H H' → LogsA (NEW H) H' p qs (closedL n sz links L) → Q (.ref p) H'
def spMissing : Sp := fun vs H Q _ => ∃ (a b : Addr) (as bs : List Addr) (A B : Logs), vs = [.ref a, .ref b] ∧ LogsA ANY H a as A ∧ LogsA ANY H b bs B ∧ A.length ≤ 1000 ∧ B.length ≤ 1000 ∧ ∀ H', Same H H' → Q (.int ((sumlen A : Int) - (sumlen B : Int))) H'
theorem closed_row {links : Links} {L : Logs} {r : Nat} {fs : List Nat} (h : ∀ s, s ∈ fs ↔ Reach links s r) (m : Nat) : ((List.range m).filter fun k => decide (∃ l ∈ fs.map (lg L), ((k : Nat) : Int) ∈ l)).map Int.ofNat = ((List.range m).map Int.ofNat).filter fun e => @decide (Comes links L r e) (Classical.propDecidable _) := by
  classical
  rw [List.filter_map]
  congr 1
  refine List.filter_congr fun k _ => ?_
  show decide (∃ l ∈ fs.map (lg L), ((k : Nat) : Int) ∈ l) = decide (Comes links L r ((k : Nat) : Int))
  refine decide_eq_decide.mpr ?_
  constructor
  · rintro ⟨l, hl, hk⟩
    obtain ⟨s, hs, rfl⟩ := List.mem_map.mp hl
    exact ⟨s, (h s).mp hs, hk⟩
  · rintro ⟨s, hs, hk⟩
    exact ⟨_, List.mem_map.mpr ⟨s, (h s).mpr hs, rfl⟩, hk⟩
section
variable {P : Program} {w : World} {K : PySem.W.Frag} {mg : Str → Option Value} {base : Heap}
theorem ok_closed {f : Addr} {fd : FuncData} (F : FnT K "_law_closed" sClosed f fd) (hm : mg "_law_closed" = some (.ref f)) (B : NB mg) (cReached : Cal P w K mg base CX0 1 "_law_reached_from" spReached) (cHeld : Cal P w K mg base CX0 1 "_law_held" spHeld) : Cal P w K mg base CX0 2 "_law_closed" spClosed := by
  refine cal0 F hm (fun _ _ _ _ _ _ us hl => match us, hl with | [_, _], _ => rfl) scClosed (fun vs H Q E h => ?_) (fun cdv A outer s H vs Q E hr h => ?_)
  · obtain ⟨wa, la, ha, a, ts, as, n, sz, links, homes, L, rfl, _⟩ := h
    rfl
  · obtain ⟨wa, la, ha, a, ts, as, n, sz, links, homes, L, rfl, hW, hA, ok, q⟩ := h
    refine ⟨_, pss_cons (ps_set (i := 2) scClosed.nd rfl (Or.inl rfl) (pe_lst pa_nil))
      (pss_cons (ps_for PassesOwn.never rfl (pi_range1 (by rfl) B.rng (pa_cons (pe_ix ix_tup (pv 0) pe_int (fun _ _ => rfl)) pa_nil)) (pg_name (i := 3) scClosed.nd rfl (.inl rfl))
        (pss_cons (ps_set (i := 4) scClosed.nd rfl (Or.inl rfl) (pe_c cReached hr (by decide) (by rfl) (pa_cons (pe_ix ix_tup (pv 0) pe_int (fun _ _ => rfl)) (pa_cons (pe_ix ix_tup (pv 0) pe_int (fun _ _ => rfl)) (pa_cons (pv 3) pa_nil)))))
        (pss_cons (ps_set (i := 5) scClosed.nd rfl (Or.inr rfl) (pe_lc (own := [("_law_source", 6)]) (g := gName 6) (tt := tYes) (te := tOp (rIxL K) (tVar 1) (tVar 6)) rfl scClosed.nd (pi_list (pv 4)) (blkOk_by (own := [("_law_source", 6)]) (N := ["_law_world_here", "_law_logs", "_law_closed_here", "_law_reader", "_law_sources", "_law_held_here", "_law_source", "_law_entry"]) (sc := defScope sClosed) (by decide +kernel))
          (fun _ _ _ _ _ => pg_name (i := 6) scClosed.nd rfl (Or.inl rfl)) (fun _ _ _ _ _ => pts_nil) (fun _ _ _ _ _ => pe_ix (r := rIxL K) ix_list (pv 1) (pv 6) (fun _ _ => rfl))))
        (pss_one (ps_expr (pe_bm PySem.F.plainAttrs_list PySem.F.slot_list_append PySem.F.type_list_append mt_append (pv 2) (pa_cons (pe_lc (own := [("_law_entry", 7)]) (g := gName 7) rfl scClosed.nd (pi_range1 (by rfl) B.rng (pa_cons (pe_callB call_len_seq (by rfl) B.len PySem.boot_len (pa_cons (pe_ix ix_tup (pv 0) pe_int (fun _ _ => rfl)) pa_nil)) pa_nil))
          (blkOk_by (own := [("_law_entry", 7)]) (N := ["_law_world_here", "_law_logs", "_law_closed_here", "_law_reader", "_law_sources", "_law_held_here", "_law_source", "_law_entry"]) (sc := defScope sClosed) (by decide +kernel))
          (fun _ _ _ _ _ => pg_name (i := 7) scClosed.nd rfl (Or.inl rfl)) (fun _ _ _ _ _ => pts_one (pt_val (pe_c cHeld (by exact hr) (by decide) (by rfl) (pa_cons (pv 5) (pa_cons (pv 7) pa_nil))))) (fun _ _ _ _ _ => pv 7)) pa_nil)))))))
      (pss_one (ps_ret (pv 2)))), ?_⟩
    have n24 := hW.w.n24
    have z60 := hW.w.z60
    refine ⟨Nat.zero_le _, fun D hD => ?_⟩
    have s1 : Same H (upd H D (.lst [])) := same_upd hD
    have e1 : upd H D (.lst []) D = some (.lst []) := upd_same
    generalize upd H D (.lst []) = H1 at s1 e1 ⊢
    refine ⟨_, rfl, wa, _, _, _, rfl, rfl, SqT.of (hW.same s1).at_, atI_nat (j := 0) rfl, (n : Nat), rfl, by omega, by omega, for_range (lo := 0) (n := ((n : Nat) : Int).toNat) (fun i σ H' => ∃ (qs : List Addr) (x y z t u : Option V), σ = [some (.ref wa), some (.ref a), some (.ref D), x, y, z, t, u] ∧ Same H H' ∧ H' D = some (.lst (qs.map V.ref)) ∧ LogsR (fun b => H b = none ∧ b ≠ D) H' qs ((List.range i).map (closed1 sz links L)))
      ⟨[], _, _, _, _, _, rfl, s1, e1, ⟨rfl, fun i p l h => (by simp at h)⟩⟩ ?_ ?_⟩
    · rintro r σ H2 hi ⟨qs, x, y, z, t, u, rfl, s2, eD, lr⟩
      rw [Int.zero_add]
      have hrn : r < n := by omega
      have w2 := hW.same s2
      refine ⟨_, rfl, wa, _, _, _, rfl, rfl, SqT.of w2.at_, atI_nat (j := 1) rfl, _, rfl, wa, _, _, _, rfl, rfl, SqT.of w2.at_, atI_nat (j := 0) rfl, _, rfl, la, ts, n, r, links, rfl, w2.li, n24, fun q hq => ⟨(hW.w.bd q hq).1, (hW.w.bd q hq).2.1⟩, hrn, fun H3 p fs s3 hp hfs hlt hl24 => ?_⟩
      have s23 := s2.trans s3
      have A3 := hA.same s23
      refine ⟨_, rfl, p, rfl, ⟨_, SqL.of hp⟩, fun D2 hD2 => ?_⟩
      refine lc_list (K := K) (a := p) (xs := nv fs) (fun i H' => Same H3 H' ∧ H' D2 = some (.lst (((fs.take i).map fun s => as.getD s 0).map V.ref))) ⟨same_upd hD2, upd_same⟩ (fun i H' _ h => SqL.of (h.1 _ _ hp)) ?_ ?_
      · rintro i x H' hx ⟨s4, e4⟩
        obtain ⟨k, rfl, hk⟩ := nv_get hx
        have hkn : k < L.length := by rw [ok.1]; exact hlt k (List.mem_of_getElem? hk)
        obtain ⟨pk, hp1, hp2, _⟩ := A3.get hkn
        have hil := (List.getElem?_eq_some_iff.mp hk).1
        refine ⟨rfl, ?_⟩
        refine ⟨_, rfl, _, rfl, a, _, _, _, rfl, rfl, SqL.of (A3.same s4).at_, atI_nat hp2, _, e4, small1000 (by rw [List.length_map, List.length_map, List.length_take]; omega), fun b o e => ?_, ?_⟩
        · rw [upd_ne (ne_of_none e hD2)]
          exact s4 _ _ e
        · rw [upd_same, take_snoc hk, List.map_append, List.map_append]
          have : as.getD k 0 = pk := by rw [List.getD_eq_getElem?_getD, hp1]; rfl
          simp only [List.map_cons, List.map_nil, this]
      · rintro H4 ⟨s4, e4⟩
        rw [nv_len, List.take_length] at e4
        have s24 := s23.trans s4
        have A4 := hA.same s24
        have held : LogsA ANY H4 D2 (fs.map fun s => as.getD s 0) (fs.map (lg L)) := by
          refine ⟨True.intro, e4, by rw [List.length_map, List.length_map], fun i q l h1 h2 => ?_⟩
          rw [List.getElem?_map] at h1 h2
          cases hf : fs[i]? with
          | none => rw [hf] at h1; cases h1
          | some k =>
            rw [hf] at h1 h2
            cases h1
            cases h2
            have hkn : k < L.length := by rw [ok.1]; exact hlt k (List.mem_of_getElem? hf)
            obtain ⟨pk, hp1, _, hI⟩ := A4.get hkn
            have : as.getD k 0 = pk := by rw [List.getD_eq_getElem?_getD, hp1]; rfl
            show Ints ANY H4 (as.getD k 0) (lg L k)
            rw [this]
            exact hI
        have w4 := hW.same s24
        have eD4 := s4 _ _ (s3 _ _ eD)
        refine ⟨_, rfl, .inl ⟨rfl, _, SqL.of eD4⟩, _, rfl, wa, _, _, _, rfl, rfl, SqT.of w4.at_, atI_nat (j := 2) rfl, ha, _, rfl, .inl (SqL.of w4.ho.2), (sz : Nat), by rw [List.length_map, hW.hl], by omega, by omega, fun D3 hD3 => ?_⟩
        refine lc_range (lo := 0) (n := ((sz : Nat) : Int).toNat) (fun i H' => Same H4 H' ∧ H' D3 = some (.lst (nv ((List.range i).filter fun k => decide (∃ l ∈ fs.map (lg L), ((k : Nat) : Int) ∈ l))))) ⟨same_upd hD3, upd_same⟩ ?_ ?_
        · rintro i H' hi2 ⟨s5, e5⟩
          rw [Int.zero_add]
          refine ⟨rfl, _, rfl, _, rfl, D2, _, _, (i : Nat), rfl, held.same s5, _, rfl, ?_⟩
          have el : (List.range (i + 1)).filter (fun k => decide (∃ l ∈ fs.map (lg L), ((k : Nat) : Int) ∈ l)) = if decide (∃ l ∈ fs.map (lg L), ((i : Nat) : Int) ∈ l) = true then (List.range i).filter (fun k => decide (∃ l ∈ fs.map (lg L), ((k : Nat) : Int) ∈ l)) ++ [i] else (List.range i).filter (fun k => decide (∃ l ∈ fs.map (lg L), ((k : Nat) : Int) ∈ l)) := by
            rw [List.range_succ, List.filter_append, List.filter_cons]
            cases decide (∃ l ∈ fs.map (lg L), ((i : Nat) : Int) ∈ l) <;> simp
          refine ite2 (fun e => ?_) (fun e => ?_)
          · rw [if_pos e] at el
            refine ⟨_, rfl, _, e5, ?_, fun b o e2 => ?_, ?_⟩
            · rw [nv_len]
              have h1 := List.length_filter_le (fun k => decide (∃ l ∈ fs.map (lg L), ((k : Nat) : Int) ∈ l)) (List.range i)
              rw [List.length_range] at h1
              exact small1000 (by omega)
            · rw [upd_ne (ne_of_none e2 hD3)]
              exact s5 _ _ e2
            · rw [upd_same, el, nv_app]
              rfl
          · rw [if_neg e] at el
            exact ⟨s5, by rw [el]; exact e5⟩
        · rintro H5 ⟨s5, e5⟩
          rw [Int.toNat_natCast] at e5
          have ec : closed1 sz links L r = ((List.range sz).filter fun k => decide (∃ l ∈ fs.map (lg L), ((k : Nat) : Int) ∈ l)).map Int.ofNat := (closed_row hfs sz).symm
          have e6 : H5 D3 = some (.lst ((closed1 sz links L r).map V.int)) := by rw [e5, ec, nv_ofNat]
          have eD5 := s5 _ _ eD4
          have h3D : D3 ≠ D := fun z => by rw [z, eD4] at hD3; cases hD3
          have s35 := s3.trans (s4.trans s5)
          have lr6 := (lr.same s35).kp (E := fun b => b = D) (H' := upd H5 D (.lst (qs.map V.ref ++ [.ref D3]))) (kp_upd (.inl rfl)) fun b hb => hb.2
          have hql : qs.length = r := by rw [lr.len, List.length_map, List.length_range]
          refine ⟨D, _, _, rfl, rfl, eD5, small1000 (by rw [List.length_map]; omega), qs ++ [D3], _, _, _, _, _, rfl, fun b o e => ?_, by rw [upd_same, List.map_append]; rfl, ?_⟩
          · rw [upd_ne (ne_of_none e hD)]
            exact (s2.trans s35) _ _ e
          · rw [List.range_succ, List.map_append]
            exact lr6.snoc ⟨⟨s24.free hD3, h3D⟩, by rw [upd_ne h3D]; exact e6⟩
    · rintro σ H2 ⟨qs, x, y, z, t, u, rfl, s2, eD, lr⟩
      rw [Int.toNat_natCast] at lr
      exact ⟨_, rfl, q H2 D qs s2 ⟨hD, eD, lr.len, fun i p l e1 e2 => (lr.row i p l e1 e2).imp fun b hb => hb.1⟩⟩
theorem sum_cast : ∀ L : Logs, (L.map fun l => (l.length : Int)).sum = (sumlen L : Int)
  | [] => rfl
  | l :: L => by
    have := sum_cast L
    unfold sumlen at this ⊢
    simp only [List.map_cons, List.sum_cons]
    omega
theorem ok_missing {f : Addr} {fd : FuncData} (F : FnT K "_law_missing" sMissing f fd) (hm : mg "_law_missing" = some (.ref f)) (B : NB mg) : Cal P w K mg base CX0 1 "_law_missing" spMissing := by
  refine cal0 F hm (fun _ _ _ _ _ _ us hl => match us, hl with | [_, _], _ => rfl) scMissing (fun vs H Q E h => ?_) (fun cdv A outer s H vs Q E hr h => ?_)
  · obtain ⟨a, b, as, bs, A1, B1, rfl, _⟩ := h
    rfl
  · obtain ⟨a, b, as, bs, A1, B1, rfl, hA, hB, hl1, hl2, q⟩ := h
    refine ⟨_, pss_one (ps_ret (pe_op op_sub
      (pe_callB (cr_sum rfl) (by rfl) B.sum (by decide +kernel) (pa_cons (pe_lc (own := [("_law_row", 2)]) (g := gName 2) (tt := tYes) (te := tCB (fun xs H Q => ∃ p ys, xs = [V.ref p] ∧ (SqL K H p ys ∨ SqT K H p ys) ∧ Q (V.int ys.length) H) (tCons (tVar 2) tNil)) rfl scMissing.nd (pi_list (pv 0)) (blkOk_by (own := [("_law_row", 2)]) (N := ["_law_closed_here", "_law_logs", "_law_row", "_law_log"]) (sc := defScope sMissing) (by decide +kernel))
        (fun _ _ _ _ _ => pg_name (i := 2) scMissing.nd rfl (Or.inl rfl)) (fun _ _ _ _ _ => pts_nil) (fun _ _ _ _ _ => pe_callB call_len_seq (by rfl) B.len PySem.boot_len (pa_cons (pv 2) pa_nil))) pa_nil))
      (pe_callB (cr_sum rfl) (by rfl) B.sum (by decide +kernel) (pa_cons (pe_lc (own := [("_law_log", 3)]) (g := gName 3) (tt := tYes) (te := tCB (fun xs H Q => ∃ p ys, xs = [V.ref p] ∧ (SqL K H p ys ∨ SqT K H p ys) ∧ Q (V.int ys.length) H) (tCons (tVar 3) tNil)) rfl scMissing.nd (pi_list (pv 1)) (blkOk_by (own := [("_law_log", 3)]) (N := ["_law_closed_here", "_law_logs", "_law_row", "_law_log"]) (sc := defScope sMissing) (by decide +kernel))
        (fun _ _ _ _ _ => pg_name (i := 3) scMissing.nd rfl (Or.inl rfl)) (fun _ _ _ _ _ => pts_nil) (fun _ _ _ _ _ => pe_callB call_len_seq (by rfl) B.len PySem.boot_len (pa_cons (pv 3) pa_nil))) pa_nil)))), ?_⟩
    have lens : ∀ {H0 : Hp} {a : Addr} {as : List Addr} {L : Logs} {vs : List Nat} {i : Nat} {σ : L2.St} {Qd : Hp → Prop} {D : Addr}, True → True := fun _ => True.intro
    refine ⟨_, rfl, a, rfl, ⟨_, SqL.of hA.at_⟩, fun D hD => lc_list (K := K) (a := a) (xs := as.map V.ref) (fun i H' => Same H H' ∧ H' D = some (.lst (((A1.take i).map fun l => (l.length : Int)).map V.int))) ⟨same_upd hD, upd_same⟩ (fun i H' _ h => SqL.of (h.1 _ _ hA.at_)) ?_ ?_⟩
    · rintro i x H' hx ⟨s1, e1⟩
      obtain ⟨p, rfl, hp⟩ := refs_get hx
      have hi : i < A1.length := by rw [← hA.len]; exact (List.getElem?_eq_some_iff.mp hp).1
      have hrow := hA.row i p A1[i] hp (List.getElem?_eq_getElem hi)
      refine ⟨rfl, ?_⟩
      refine ⟨_, rfl, p, _, rfl, .inl (SqL.of (s1 _ _ hrow.2)), _, e1, small1000 (by rw [List.length_map, List.length_map, List.length_take]; omega), fun b o e => ?_, ?_⟩
      · rw [upd_ne (ne_of_none e hD)]
        exact s1 _ _ e
      · rw [upd_same, take_snoc (List.getElem?_eq_getElem hi), List.map_append, List.map_append, List.length_map]
        rfl
    · rintro H1 ⟨s1, e1⟩
      rw [List.length_map, hA.len, List.take_length] at e1
      refine ⟨D, _, rfl, SqL.of e1, ?_⟩
      refine ⟨_, rfl, b, rfl, ⟨_, SqL.of (s1 _ _ hB.at_)⟩, fun D2 hD2 => lc_list (K := K) (a := b) (xs := bs.map V.ref) (fun i H' => Same H1 H' ∧ H' D2 = some (.lst (((B1.take i).map fun l => (l.length : Int)).map V.int))) ⟨same_upd hD2, upd_same⟩ (fun i H' _ h => SqL.of (h.1 _ _ (s1 _ _ hB.at_))) ?_ ?_⟩
      · rintro i x H' hx ⟨s2, e2⟩
        obtain ⟨p, rfl, hp⟩ := refs_get hx
        have hi : i < B1.length := by rw [← hB.len]; exact (List.getElem?_eq_some_iff.mp hp).1
        have hrow := hB.row i p B1[i] hp (List.getElem?_eq_getElem hi)
        refine ⟨rfl, ?_⟩
        refine ⟨_, rfl, p, _, rfl, .inl (SqL.of (s2 _ _ (s1 _ _ hrow.2))), _, e2, small1000 (by rw [List.length_map, List.length_map, List.length_take]; omega), fun b o e => ?_, ?_⟩
        · rw [upd_ne (ne_of_none e hD2)]
          exact s2 _ _ e
        · rw [upd_same, take_snoc (List.getElem?_eq_getElem hi), List.map_append, List.map_append, List.length_map]
          rfl
      · rintro H2 ⟨s2, e2⟩
        rw [List.length_map, hB.len, List.take_length] at e2
        refine ⟨D2, _, rfl, SqL.of e2, _, _, rfl, rfl, ?_⟩
        have := q H2 (s1.trans s2)
        rw [← sum_cast A1, ← sum_cast B1] at this
        exact this
end
end K8

set_option maxHeartbeats 4000000
namespace K8
open PySem PySem.Spec PyProof.Rows L2
theorem NetA.live {CN : Addr} {C : AP} {H : Hp} {a : Addr} {ts : List Addr} {n : Nat} {links : Links} (h : NetA CN C H a ts n links) : NetA CN (fun b => C b ∧ H b ≠ none) H a ts n links := by
  obtain ⟨dx, fs, ll, h1, h2, h3, h4⟩ := h.ob
  exact ⟨⟨h.c, some_ne h1⟩, dx, fs, ll, h1, h2, h3, h4.live⟩
theorem ClA.live {CC CN : Addr} {C : AP} {H : Hp} {a : Addr} {ts : List Addr} {n sz : Nat} {links : Links} (h : ClA CC CN C H a ts n sz links) : ClA CC CN (fun b => C b ∧ H b ≠ none) H a ts n sz links := by
  obtain ⟨dx, fs, na, h1, h2, h3, h4⟩ := h.ob
  exact ⟨⟨h.c, some_ne h1⟩, dx, fs, na, h1, h2, h3, h4.live⟩
theorem ClA.k4 {CC CN : Addr} {e : W4} {H H' : Hp} {a : Addr} {ts : List Addr} {n sz : Nat} {links : Links} (h : ClA CC CN e.N H a ts n sz links) (k : K4 e H H') : ClA CC CN e.N H' a ts n sz links := h.kp k.1 fun _ h => h
theorem TraceA.k4 {e : W4} {H H' : Hp} {a : Addr} {ts : List Addr} {tr : List Pull} (h : TraceA e.N H a ts tr) (k : K4 e H H') : TraceA e.N H' a ts tr := h.kp k.1 fun _ h => h
theorem ok_bad {n sz : Nat} {L : Logs} {v : V} (ok : okLogs n sz L) : ¬ Bad n sz L v := by
  rintro (⟨_, h⟩ | ⟨k, _, h1, h2, h3, _⟩)
  · exact h ok.1
  · exact h3 (ok_lg ok k)
theorem ilE_ok {CI P1 : Addr} {n sz : Nat} {L : Logs} {H : Hp} (ok : okLogs n sz L) : IlE CI P1 n sz L H E0 := fun v hb => absurd hb (ok_bad ok)
theorem ask_of {CC CN P1 : Addr} {C C' : AP} {H : Hp} {c a : Addr} {ts as : List Addr} {n sz : Nat} {links : Links} {L : Logs} (hc : ClA CC CN C H c ts n sz links) (ha : LogsA C' H a as L) (W : OkW n sz links) (ok : okLogs n sz L) (l : links.length < 64) (t : GxR.TabG H P1) : Ask CC CN P1 H c a ts as n sz links L :=
  ⟨⟨hc.imp fun _ _ => True.intro, ha.imp fun _ _ => True.intro, W.n24, W.z60, by rw [ok.1]; have := W.n24; omega, fun r hr => by have := row_len (ok.2 r hr); have := W.z60; omega⟩, W, by omega, t⟩
theorem left_zero {n sz : Nat} {links : Links} {L : Logs} (W : OkW n sz links) (ok : okLogs n sz L) : (pullsOf links L).isEmpty = decide (V.int (leftOf n sz links L) = V.int 0) := by
  cases h : pullsOf links L with
  | nil =>
    have := eq_of_settled W ok h
    exact (decide_eq_true (congrArg V.int (by unfold leftOf; omega))).symm
  | cons p r =>
    refine (decide_eq_false fun z => ?_).symm
    have z2 := V.int.inj z
    unfold leftOf at z2
    have := settled_of_eq W ok (by omega)
    rw [h] at this
    cases this
abbrev sCounts : Stmt := top 52
theorem scCounts : FnScope ["_law_cluster", "_law_logs", "_law_left", "_law_handed"] ["_law_cluster", "_law_logs", "_law_left"] (defScope sCounts) := ⟨rfl, rfl, rfl, by decide +kernel, rfl, by decide +kernel, by decide +kernel⟩
def spCounts (e : W4) (CC CN : Addr) : Sp := fun vs H Q _ => ∃ (c a : Addr) (cts as : List Addr) (n sz : Nat) (links : Links) (L : Logs), vs = [.ref c, .ref a, .int (leftOf n sz links L)] ∧ SA e H ∧ ClA CC CN e.N H c cts n sz links ∧ LogsA e.N H a as L ∧ OkW n sz links ∧ okLogs n sz L ∧ links.length < 64 ∧
  ∀ H', K4 e H H' → Q (.bl true) H'
theorem big_len {n sz : Nat} {L : Logs} (W : n ≤ 24) (z : sz ≤ 60) (ok : okLogs n sz L) : L.length ≤ 100000 ∧ ∀ l ∈ L, l.length ≤ 100000 := ⟨by rw [ok.1]; omega, fun l hl => by have := row_len (ok.2 l hl); omega⟩
section
variable {P : Program} {w : World} {K : PySem.W.Frag} {mg : Str → Option Value} {base : Heap} {CC CN CI : Addr}
theorem ok_counts {f : Addr} {fd : FuncData} {e : W4} (F : FnT K "_law_counts_hold" sCounts f fd) (hm : mg "_law_counts_hold" = some (.ref f)) (cCopy : Cal P w K mg base CX0 1 "_law_copy" spCopy) (cAl : ∀ n, Cal P w K mg base CX0 (n + 1) "_law_alike" (spAlike n))
    (cLeft : Cal P w K mg base (L2.CX P w) 5 "pulls_left" (spAsk CC CN CI e.P1 (ansLeft e.P1))) (cIs : Cal P w K mg base (L2.CX P w) 5 "is_settled" (spAsk CC CN CI e.P1 (ansIs e.P1))) : Cal P w K mg base CX0 6 "_law_counts_hold" (spCounts e CC CN) := by
  refine cal0 F hm (fun _ _ _ _ _ _ us hl => match us, hl with | [_, _, _], _ => rfl) scCounts (fun vs H Q E h => ?_) (fun cdv A outer s H vs Q E hr h => ?_)
  · obtain ⟨c, a, cts, as, n, sz, links, L, rfl, _⟩ := h
    rfl
  · obtain ⟨c, a, cts, as, n, sz, links, L, rfl, hS, hC, hA, W, ok, l64, q⟩ := h
    refine ⟨_, pss_cons (ps_set (i := 3) scCounts.nd rfl (Or.inl rfl) (pe_c cCopy hr (by decide) (by rfl) (pa_cons (pv 1) pa_nil)))
      (pss_cons (ps_if (pt_not (pt_val (pe_c (cAl 1) hr (by decide) (by rfl) (pa_cons (pe_cN cLeft hr (by decide) (by rfl) (pa_cons (pv 0) (pa_cons (pv 3) pa_nil))) (pa_cons (pv 2) pa_nil))))) (pss_one (ps_ret pe_bl)) pss_nil)
      (pss_one (ps_ret (pe_and (pe_c (cAl 1) hr (by decide) (by rfl) (pa_cons (pe_cN cIs hr (by decide) (by rfl) (pa_cons (pv 0) (pa_cons (pv 3) pa_nil))) (pa_cons (pe_cmpR op_eq (pv 2) pe_int (nomark _)) pa_nil)))
        (pe_one (pe_c (cAl 4) hr (by decide) (by rfl) (pa_cons (pv 3) (pa_cons (pv 1) pa_nil)))))))), ?_⟩
    have n24 := W.n24
    have z60 := W.z60
    obtain ⟨bl1, bl2⟩ := big_len n24 z60 ok
    refine ⟨_, rfl, a, as, L, rfl, hA.imp fun _ _ => True.intro, by rw [ok.1]; omega, fun l hl => by have := row_len (ok.2 l hl); omega, fun H1 h1 qs s1 lo nd => ?_⟩
    have k1 := k4_same hS s1
    have C1 := hC.k4 k1
    have lo1 : LogsA e.N H1 h1 qs L := lo.imp fun b hb => hS.new hb
    refine ⟨_, rfl, _, rfl, c, h1, cts, qs, n, sz, links, L, rfl, ask_of C1 lo1 W ok l64 k1.2.t1, fun _ H2 k2 => ?_, ilE_ok ok⟩
    refine ⟨_, rfl, _, _, _, rfl, .int 0 _, .int 0 _, true, rfl, iteF ?_⟩
    have k12 := k4_k1 k1.2 k2
    have k3 := k1.trans k12
    have C2 := C1.k4 k12
    have lo2 := lo1.k4 k12
    refine ⟨_, rfl, _, rfl, c, h1, cts, qs, n, sz, links, L, rfl, ask_of C2 lo2 W ok l64 k3.2.t1, fun _ H3 k4 => ?_, ilE_ok ok⟩
    have k34 := k4_k1 k3.2 k4
    have k5 := k3.trans k34
    refine ⟨_, rfl, rfl, _, _, .bool (pullsOf links L).isEmpty, rfl, .bl 0 _, ?_, true, rfl, iteT ?_⟩
    · have := left_zero W ok
      rw [this]
      exact .bl 0 _
    · exact ⟨_, rfl, _, rfl, _, _, _, rfl, (lo2.k4 k34).da bl1 bl2, (hA.k4 k5).da bl1 bl2, q H3 k5⟩
end
end K8

set_option maxHeartbeats 4000000
namespace K8
open PySem PySem.Spec PyProof.Rows L2
abbrev sHolds : Stmt := top 53
theorem scHolds : FnScope ["_law_cluster", "_law_world_here", "_law_logs", "_law_closed_here", "_law_handed", "_law_due", "_law_told", "_law_k", "_law_log"] ["_law_cluster", "_law_world_here", "_law_logs", "_law_closed_here"] (defScope sHolds) := ⟨rfl, rfl, rfl, by decide +kernel, rfl, by decide +kernel, by decide +kernel⟩
def spHolds (e : W4) (CC CN : Addr) : Sp := fun vs H Q _ => ∃ (c wa la ha a cl : Addr) (cts ts as cs : List Addr) (n sz : Nat) (links : Links) (homes : List Int) (L : Logs), vs = [.ref c, .ref wa, .ref a, .ref cl] ∧ SA e H ∧ ClA CC CN e.N H c cts n sz links ∧ WoA e.N H wa la ha ts n sz links homes ∧ LogsA e.N H a as L ∧ okLogs n sz L ∧
  LogsA e.N H cl cs (closedL n sz links L) ∧ ∀ H', K4 e H H' → Q (.bl true) H'
theorem sorted_row {n sz : Nat} {links : Links} {L : Logs} {r : Nat} {ys : List Int} (W : OkW n sz links) (ok : okLogs n sz L) (hs : pullsOf links L = []) (hp : ys.Perm (lg L r)) (ho : ys.Pairwise (· ≤ ·)) : ys = closed1 sz links L r := by
  have h1 : (lg L r).Perm (closed1 sz links L r) := (List.perm_ext_iff_of_nodup (ok_lg ok r).1 (nodup_closed1 sz links L r)).mpr fun e => settled_mem W ok hs r e
  refine sorted_uniq (hp.trans h1) ho (List.Pairwise.imp (fun {a b} h => by omega) (lt_closed1 sz links L r)) fun a _ b _ h1 h2 => by omega
theorem closed_len (n sz : Nat) (links : Links) (L : Logs) : (closedL n sz links L).length = n := by unfold closedL; rw [List.length_map, List.length_range]
theorem closed_row_len (n sz : Nat) (links : Links) (L : Logs) : ∀ l ∈ closedL n sz links L, l.length ≤ sz := fun l hl => by
  unfold closedL at hl
  obtain ⟨r, _, rfl⟩ := List.mem_map.mp hl
  have := List.length_filter_le (fun e => @decide (Comes links L r e) (Classical.propDecidable _)) (ents sz)
  unfold closed1
  refine Nat.le_trans this ?_
  unfold ents
  rw [List.length_map, List.length_range]
  exact Nat.le_refl _
section
variable {P : Program} {w : World} {K : PySem.W.Frag} {mg : Str → Option Value} {base : Heap} {CC CN CI : Addr}
theorem ok_holds {f : Addr} {fd : FuncData} {e : W4} (F : FnT K "_law_settle_holds" sHolds f fd) (hm : mg "_law_settle_holds" = some (.ref f)) (B : NB mg) (cCopy : Cal P w K mg base CX0 1 "_law_copy" spCopy) (cAl : ∀ n, Cal P w K mg base CX0 (n + 1) "_law_alike" (spAlike n))
    (cLeast : Cal P w K mg base CX0 3 "_law_least_pulls" spLeast) (cMis : Cal P w K mg base CX0 1 "_law_missing" spMissing) (cCounts : Cal P w K mg base CX0 6 "_law_counts_hold" (spCounts e CC CN))
    (cSet : Cal P w K mg base (L2.CX P w) 5 "settle" (spAsk CC CN CI e.P1 (ansSettle e.P1))) (cLog : Cal P w K mg base (L2.CX P w) 5 "settled_logs" (spAsk CC CN CI e.P1 (ansLogs e.P1))) : Cal P w K mg base CX0 7 "_law_settle_holds" (spHolds e CC CN) := by
  refine cal0 F hm (fun _ _ _ _ _ _ us hl => match us, hl with | [_, _, _, _], _ => rfl) scHolds (fun vs H Q E h => ?_) (fun cdv A outer s H vs Q E hr h => ?_)
  · obtain ⟨c, wa, la, ha, a, cl, cts, ts, as, cs, n, sz, links, homes, L, rfl, _⟩ := h
    rfl
  · obtain ⟨c, wa, la, ha, a, cl, cts, ts, as, cs, n, sz, links, homes, L, rfl, hS, hC, hW, hA, ok, hCl, q⟩ := h
    refine ⟨_, pss_cons (ps_set (i := 4) scHolds.nd rfl (Or.inl rfl) (pe_c cCopy hr (by decide) (by rfl) (pa_cons (pv 2) pa_nil)))
      (pss_cons (ps_set (i := 5) scHolds.nd rfl (Or.inl rfl) (pe_c cLeast hr (by decide) (by rfl) (pa_cons (pv 1) (pa_cons (pv 2) pa_nil))))
      (pss_cons (ps_set (i := 6) scHolds.nd rfl (Or.inl rfl) (pe_cN cSet hr (by decide) (by rfl) (pa_cons (pv 0) (pa_cons (pv 4) pa_nil))))
      (pss_cons (ps_if (PW.pt (pw_or (pt_not (pt_val (pe_c (cAl 4) hr (by decide) (by rfl) (pa_cons (pv 6) (pa_cons (pe_ix ix_tup (pv 5) pe_int (fun _ _ => rfl)) pa_nil)))))
          (pw_or1 (pt_cmpR op_ne (pe_callB call_len_seq (by rfl) B.len PySem.boot_len (pa_cons (pv 6) pa_nil)) (pe_c cMis hr (by decide) (by rfl) (pa_cons (pv 3) (pa_cons (pv 2) pa_nil))) (nomark _))))) (pss_one (ps_ret pe_bl)) pss_nil)
      (pss_cons (ps_expr (pe_bm PySem.F.plainAttrs_list PySem.F.slot_list_append PySem.F.type_list_append mt_append (pv 6) (pa_cons (pe_tup (pa_cons pe_str (pa_cons pe_int pa_nil))) pa_nil)))
      (pss_cons (ps_set (i := 6) scHolds.nd rfl (Or.inl rfl) (pe_cN cLog hr (by decide) (by rfl) (pa_cons (pv 0) (pa_cons (pv 4) pa_nil))))
      (pss_cons (ps_if (PW.pt (pw_or (pt_not (pt_val (pe_c (cAl 4) hr (by decide) (by rfl) (pa_cons (pv 6) (pa_cons (pe_ix ix_tup (pv 5) pe_int (fun _ _ => rfl)) pa_nil)))))
          (pw_or1 (pt_not (pt_val (pe_c (cAl 4) hr (by decide) (by rfl) (pa_cons (pe_lc (own := [("_law_log", 8)]) (g := gName 8) (tt := tYes) (te := tCB (rSortedI K) (tCons (tVar 8) tNil)) rfl scHolds.nd (pi_list (pv 6)) (blkOk_by (own := [("_law_log", 8)]) (N := ["_law_cluster", "_law_world_here", "_law_logs", "_law_closed_here", "_law_handed", "_law_due", "_law_told", "_law_k", "_law_log"]) (sc := defScope sHolds) (by decide +kernel))
            (fun _ _ _ _ _ => pg_name (i := 8) scHolds.nd rfl (Or.inl rfl)) (fun _ _ _ _ _ => pts_nil) (fun _ _ _ _ _ => pe_callB cr_sortedI (by rfl) B.srt (by decide +kernel) (pa_cons (pv 8) pa_nil))) (pa_cons (pv 3) pa_nil)))))))) (pss_one (ps_ret pe_bl)) pss_nil)
      (pss_cons (ps_for PassesOwn.never rfl (pi_range1 (by rfl) B.rng (pa_cons (pe_callB call_len_seq (by rfl) B.len PySem.boot_len (pa_cons (pv 6) pa_nil)) pa_nil)) (pg_name (i := 7) scHolds.nd rfl (.inl rfl))
        (pss_cons (ps_set (i := 8) scHolds.nd rfl (Or.inl rfl) (pe_ix ix_list (pv 6) (pv 7) (fun _ _ => rfl)))
        (pss_one (ps_expr (pe_bm PySem.F.plainAttrs_list PySem.F.slot_list_append PySem.F.type_list_append mt_append (pv 8) (pa_cons (pe_un un_neg pe_int) pa_nil))))))
      (pss_one (ps_ret (pe_and (pe_c (cAl 4) hr (by decide) (by rfl) (pa_cons (pv 4) (pa_cons (pv 2) pa_nil)))
        (pe_one (pe_c cCounts hr (by decide) (by rfl) (pa_cons (pv 0) (pa_cons (pe_ix ix_tup (pv 5) pe_int (fun _ _ => rfl)) (pa_cons pe_int pa_nil))))))))))))))), ?_⟩
    have W := hW.w
    have l64 := hW.l64
    have n24 := W.n24
    have z60 := W.z60
    have hnz := nsz_le W
    obtain ⟨bl1, bl2⟩ := big_len n24 z60 ok
    refine ⟨_, rfl, a, as, L, rfl, hA.imp fun _ _ => True.intro, by rw [ok.1]; omega, fun l hl => by have := row_len (ok.2 l hl); omega, fun H1 h1 qs1 s1 lo nd => ?_⟩
    have k1 := k4_same hS s1
    have lo1 : LogsA e.N H1 h1 qs1 L := lo.imp fun b hb => hS.new hb
    refine ⟨_, rfl, _, rfl, wa, la, ha, a, ts, as, n, sz, links, homes, L, rfl, (hW.k4 k1).imp fun _ _ => True.intro, (hA.k4 k1).imp fun _ _ => True.intro, ok, fun H2 dt dp dn us2 qs2 tr C s2 eT tT lT hrun hnil => ?_⟩
    have k2 := k1.same s2
    have tT2 : TraceA e.N H2 dp us2 tr := tT.imp fun b hb => k1.2.new hb
    have lT2 : LogsA e.N H2 dn qs2 C := lT.imp fun b hb => k1.2.new hb
    have lo2 := lo1.same s2
    have nT : e.N dt := k2.2.tupN eT
    obtain ⟨okC, hsum, hclo⟩ := hrun.ok W ok
    have htl := lrun_len W ok hrun
    obtain ⟨bc1, bc2⟩ := big_len n24 z60 okC
    refine ⟨_, rfl, _, rfl, c, h1, cts, qs1, n, sz, links, L, rfl, ask_of (hC.k4 k2) lo2 W ok l64 k2.2.t1, fun _ H3 tp us3 tr3 C3 k3 tA3 hrun3 hnil3 => ?_, ilE_ok ok⟩
    obtain ⟨etr, eC⟩ := hrun3.det hrun hnil3 hnil
    subst etr
    subst eC
    have k23 := k4_k1 k2.2 k3
    have k3' := k2.trans k23
    have tA3' : TraceA e.N H3 tp us3 tr3 := tA3.imp fun b hb => k2.2.new hb
    have eT3 := k23.1.keep _ _ eT nT
    refine ⟨_, rfl, _, rfl, dt, _, _, _, rfl, rfl, SqT.of eT3, atI_nat (j := 0) rfl, _, _, _, rfl, tA3.da (by omega), (tT2.k4 k23).da (by omega), true, rfl, iteF ?_⟩
    refine ⟨_, rfl, tp, _, rfl, .inl (SqL.of tA3.at_), _, rfl, _, rfl, cl, a, cs, as, _, L, rfl, (hCl.k4 k3').imp fun _ _ => True.intro, (hA.k4 k3').imp fun _ _ => True.intro, by rw [closed_len]; omega, by rw [ok.1]; omega, fun H4 s4 => ?_⟩
    have hset := eq_of_settled W okC hnil
    rw [hclo] at hset
    have hlen : ((us3.map V.ref).length : Int) = (sumlen (closedL n sz links L) : Int) - (sumlen L : Int) := by
      rw [List.length_map, tA3.len]
      omega
    refine ⟨rfl, _, rfl, ?_⟩
    rw [hlen, decide_eq_true rfl]
    refine iteF ⟨_, rfl, .inl ⟨rfl, _, SqL.of (s4 _ _ tA3.at_)⟩, by show 2 ≤ sizeLine; decide, fun tw htw => ?_⟩
    have s5 : Same H4 (upd H4 tw (.tup [.str "write", .int 0])) := same_upd htw
    have eA5 := s5 _ _ (s4 _ _ tA3.at_)
    have k25 : K4 e H2 (upd H4 tw (.tup [.str "write", .int 0])) := (k23.same s4).same s5
    refine ⟨tp, _, _, rfl, rfl, eA5, small9000 (by rw [List.length_map, tA3.len]; omega), ?_⟩
    have k26 : K4 e H2 (upd (upd H4 tw (.tup [.str "write", .int 0])) tp (.lst (us3.map V.ref ++ [.ref tw]))) := k25.updL eA5 tA3.c tA3'.c
    generalize upd (upd H4 tw (.tup [.str "write", .int 0])) tp (.lst (us3.map V.ref ++ [.ref tw])) = H6 at k26 ⊢
    have k6 := k2.trans k26
    have lo6 := lo2.k4 k26
    have eT6 := k26.1.keep _ _ eT nT
    have lT6 := lT2.k4 k26
    refine ⟨_, rfl, _, rfl, c, h1, cts, qs1, n, sz, links, L, rfl, ask_of (hC.k4 k6) lo6 W ok l64 k6.2.t1, fun _ H7 cp qs7 tr7 C7 k7 lo7 nd7 hrun7 hnil7 => ?_, ilE_ok ok⟩
    obtain ⟨_, eC7⟩ := hrun7.det hrun hnil7 hnil
    subst eC7
    have k67 := k4_k1 k6.2 k7
    have k07 := k6.trans k67
    have lo7' : LogsA e.N H7 cp qs7 C7 := lo7.imp fun b hb => k6.2.new hb
    have eT7 := k67.1.keep _ _ eT6 nT
    refine ⟨_, rfl, _, rfl, dt, _, _, _, rfl, rfl, SqT.of eT7, atI_nat (j := 1) rfl, _, _, _, rfl, lo7.da bc1 bc2, (lT6.k4 k67).da bc1 bc2, true, rfl, iteF ?_⟩
    refine ⟨_, rfl, cp, rfl, ⟨_, SqL.of lo7.at_⟩, fun D hD => ?_⟩
    refine lc_list (K := K) (a := cp) (xs := qs7.map V.ref) (fun i H' => Same H7 H' ∧ ∃ rs, H' D = some (.lst (rs.map V.ref)) ∧ LogsR (fun b => H7 b = none ∧ b ≠ D) H' rs ((List.range i).map (closed1 sz links L))) ⟨same_upd hD, [], upd_same, ⟨rfl, fun i p l h => (by simp at h)⟩⟩ (fun i H' _ h => SqL.of (h.1 _ _ lo7.at_)) ?_ ?_
    · rintro i x H' hx ⟨s8, rs, eD, lr⟩
      obtain ⟨p, rfl, hp⟩ := refs_get hx
      have hi : i < C7.length := by rw [← lo7.len]; exact (List.getElem?_eq_some_iff.mp hp).1
      have hrow := lo7.row i p (lg C7 i) hp (by unfold lg; rw [List.getD_eq_getElem?_getD, List.getElem?_eq_getElem hi]; rfl)
      refine ⟨rfl, ?_⟩
      refine ⟨_, rfl, p, _, rfl, SqL.of (s8 _ _ hrow.2), fun ys r hperm hord hr0 => ?_⟩
      have eys : ys = closed1 sz links L i := by
        rw [sorted_row W okC hnil hperm hord]
        have h1 : (closedL n sz links C7)[i]? = (closedL n sz links L)[i]? := by rw [hclo]
        unfold closedL at h1
        rw [List.getElem?_map, List.getElem?_map, List.getElem?_range (by rw [← okC.1]; exact hi)] at h1
        exact Option.some.inj h1
      subst eys
      have hrD : r ≠ D := fun z => by rw [z, eD] at hr0; cases hr0
      have hrl : rs.length = i := by rw [lr.len, List.length_map, List.length_range]
      have s9 : Same H' (upd H' r (.lst ((closed1 sz links L i).map V.int))) := same_upd hr0
      have e9 : upd H' r (.lst ((closed1 sz links L i).map V.int)) r = some (.lst ((closed1 sz links L i).map V.int)) := upd_same
      have lr9 := lr.same s9
      have eD9 := s9 _ _ eD
      refine ⟨_, eD9, small1000 (by rw [List.length_map, hrl, ← Nat.not_lt]; intro z; have := okC.1; omega), fun b o eb => ?_, rs ++ [r], by rw [upd_same, List.map_append]; rfl, ?_⟩
      · rw [upd_ne (ne_of_none eb hD)]
        exact s9 _ _ (s8 _ _ eb)
      · rw [List.range_succ, List.map_append]
        exact (lr9.kp (E := fun b => b = D) (kp_upd (.inl rfl)) fun b hb => hb.2).snoc ⟨⟨s8.free hr0, hrD⟩, by rw [upd_ne hrD]; exact e9⟩
    · rintro H8 ⟨s8, rs, eD, lr⟩
      rw [List.length_map, lo7.len, okC.1] at lr
      have lrA : LogsA ANY H8 D rs (closedL n sz links L) := ⟨True.intro, eD, lr.len, fun i p l e1 e2 => ⟨True.intro, (lr.row i p l e1 e2).2⟩⟩
      have k08 := k07.same s8
      have bcl : ∀ l ∈ closedL n sz links L, l.length ≤ 100000 := fun l hl => by have := closed_row_len n sz links L l hl; omega
      refine ⟨_, rfl, _, _, _, rfl, lrA.da (by rw [closed_len]; omega) bcl, (hCl.k4 k08).da (by rw [closed_len]; omega) bcl, true, rfl, iteF ?_⟩
      have k68 := k67.same s8
      have lo8 := lo7.same s8
      have nself := lo7.not_self
      refine ⟨_, rfl, cp, _, rfl, .inl (SqL.of lo8.at_), (n : Nat), by rw [List.length_map, lo7.len, okC.1], by omega, by omega, for_range (lo := 0) (n := ((n : Nat) : Int).toNat) (fun i σ H' => ∃ (y z : Option V), σ = [some (.ref c), some (.ref wa), some (.ref a), some (.ref cl), some (.ref h1), some (.ref dt), some (.ref cp), y, z] ∧ K4 e H6 H' ∧ H' cp = some (.lst (qs7.map V.ref)) ∧ ∀ p ∈ qs7, ∃ xs, H' p = some (.lst xs) ∧ xs.length ≤ 60 + i)
        ⟨_, _, rfl, k68, lo8.at_, fun p hp => ?_⟩ ?_ ?_⟩
      · obtain ⟨l, hl, hI⟩ := lo8.of_mem hp
        exact ⟨_, hI.2, by rw [List.length_map]; have := row_len (okC.2 l hl); omega⟩
      · rintro i σ H' hi ⟨y, z, rfl, k9, e9, hrows⟩
        rw [Int.zero_add]
        have hiq : i < qs7.length := by rw [lo7.len, okC.1]; omega
        have hp : qs7[i]? = some qs7[i] := List.getElem?_eq_getElem hiq
        have hpm : qs7[i] ∈ qs7 := List.getElem_mem hiq
        obtain ⟨xs, hxs, hxl⟩ := hrows _ hpm
        obtain ⟨_, _, hI7⟩ := lo7.of_mem hpm
        have hne : cp ≠ qs7[i] := fun z => nself (by rw [z]; exact hpm)
        refine ⟨_, rfl, _, rfl, cp, _, _, _, rfl, rfl, SqL.of e9, atI_nat (j := i) (v := .ref qs7[i]) (by rw [List.getElem?_map, hp]; rfl), ?_⟩
        refine ⟨_, rfl, .inl ⟨rfl, _, SqL.of hxs⟩, _, rfl, qs7[i], _, _, rfl, rfl, hxs, small1000 (by omega), _, _, rfl, k9.updL hxs hI7.1 (k6.2.new hI7.1), by rw [upd_ne hne]; exact e9, fun p hpq => ?_⟩
        by_cases hpp : p = qs7[i]
        · rw [hpp]
          exact ⟨_, upd_same, by rw [List.length_append]; simp only [List.length_singleton]; omega⟩
        · obtain ⟨ys, hys, hyl⟩ := hrows p hpq
          exact ⟨ys, by rw [upd_ne hpp]; exact hys, by omega⟩
      · rintro σ H' ⟨y, z, rfl, k9, e9, hrows⟩
        have k09 := k6.trans k9
        have eT9 := k9.1.keep _ _ eT6 nT
        refine ⟨_, rfl, _, rfl, _, _, _, rfl, (lo6.k4 k9).da bl1 bl2, (hA.k4 k09).da bl1 bl2, true, rfl, iteT ?_⟩
        have hz : leftOf n sz links C7 = 0 := by unfold leftOf; have := eq_of_settled W okC hnil; omega
        refine ⟨_, rfl, _, rfl, dt, _, _, _, rfl, rfl, SqT.of eT9, atI_nat (j := 1) rfl, c, dn, cts, qs2, n, sz, links, C7, by rw [hz]; rfl, k09.2, hC.k4 k09, lT6.k4 k9, W, okC, l64, fun H'' k10 => q H'' (k09.trans k10)⟩
end
end K8

set_option maxHeartbeats 4000000
namespace K8
open PySem PySem.Spec PyProof.Rows L2
/-! ### _law_spoilt -/
theorem LogsA.updRow {C : AP} {H : Hp} {p r : Addr} {qs : List Addr} {L : Logs} {i : Nat} {l' : List Int} (h : LogsA C H p qs L) (nd : qs.Nodup) (hr : qs[i]? = some r) : LogsA C (upd H r (.lst (l'.map V.int))) p qs (L.set i l') := by
  have hrm : r ∈ qs := List.mem_of_getElem? hr
  have hpr : p ≠ r := fun z => h.not_self (by rw [z]; exact hrm)
  refine ⟨h.c, by rw [upd_ne hpr]; exact h.at_, by rw [List.length_set]; exact h.len, fun j p' l h1 h2 => ?_⟩
  have hj : j < L.length := by
    have := (List.getElem?_eq_some_iff.mp h2).1
    rwa [List.length_set] at this
  by_cases hjr : j = i
  · subst hjr
    rw [hr] at h1
    cases h1
    rw [List.getElem?_set_self hj] at h2
    cases h2
    obtain ⟨_, _, hI⟩ := h.of_mem hrm
    exact ⟨hI.1, upd_same⟩
  · have hne : p' ≠ r := fun z => by
      subst z
      exact hjr ((List.getElem?_inj (List.getElem?_eq_some_iff.mp h1).1 nd).mp (h1.trans hr.symm))
    rw [List.getElem?_set_ne (fun z => hjr z.symm)] at h2
    have hrow := h.row j p' l h1 h2
    exact ⟨hrow.1, by rw [upd_ne hne]; exact hrow.2⟩
/-- spoilt at exactly these places -/
structure SpB (n sz : Nat) (B : Logs) (ps : List Int) (k : Nat) : Prop where
  len : B.length = n
  pl : ∀ x ∈ ps, ∃ r : Nat, x = (r : Int) ∧ r < n ∧ ¬ okLog sz (lg B r)
  ok : ∀ r : Nat, r < n → (r : Int) ∉ ps → okLog sz (lg B r)
  short : ∀ l ∈ B, l.length ≤ 60 + k
theorem not_ok_ins {sz : Nat} {l : List Int} {o : Int} {i : Nat} (h : (o < 0 ∨ (sz : Int) ≤ o) ∨ o ∈ l) : ¬ okLog sz (l.take i ++ [o] ++ l.drop i) := by
  rintro ⟨h1, h2⟩
  rcases h with h | h
  · have := h2 o (by simp)
    omega
  · rw [List.nodup_append] at h1
    obtain ⟨a1, a2, a3⟩ := h1
    rw [← List.take_append_drop i l] at h
    rcases List.mem_append.mp h with h | h
    · have := (List.nodup_append.mp a1).2.2 o h o (List.mem_singleton.mpr rfl)
      exact this rfl
    · exact a3 o (by simp) o h rfl
theorem SpB.add {n sz : Nat} {B : Logs} {ps : List Int} {k i : Nat} {r : Nat} {o : Int} (h : SpB n sz B ps k) (hr : r < n) (ho : (o < 0 ∨ (sz : Int) ≤ o) ∨ o ∈ lg B r) : SpB n sz (B.set r ((lg B r).take i ++ [o] ++ (lg B r).drop i)) (ps ++ [(r : Int)]) (k + 1) := by
  have hrl : r < B.length := by rw [h.len]; exact hr
  have hbad := not_ok_ins (i := i) ho
  refine ⟨by rw [List.length_set]; exact h.len, fun x hx => ?_, fun j hj hn => ?_, fun l hl => ?_⟩
  · rcases List.mem_append.mp hx with hx | hx
    · obtain ⟨j, e, hj, hb⟩ := h.pl x hx
      refine ⟨j, e, hj, ?_⟩
      rw [lg_set hrl]
      by_cases hjr : j = r
      · rw [if_pos hjr]; exact hbad
      · rw [if_neg hjr]; exact hb
    · exact ⟨r, List.mem_singleton.mp hx, hr, by rw [lg_set hrl, if_pos rfl]; exact hbad⟩
  · have hjr : j ≠ r := fun z => hn (List.mem_append_right _ (List.mem_singleton.mpr (by rw [z])))
    rw [lg_set hrl, if_neg hjr]
    exact h.ok j hj fun z => hn (List.mem_append_left _ z)
  · rcases List.mem_or_eq_of_mem_set hl with hl | hl
    · have := h.short l hl; omega
    · have := h.short _ (lg_mem hrl)
      rw [hl]
      simp only [List.length_append, List.length_take, List.length_drop, List.length_singleton]
      omega
theorem SpB.bad {n sz : Nat} {B : Logs} {ps : List Int} {k : Nat} (h : SpB n sz B ps k) {m : Int} (hm : m ∈ ps) (hle : ∀ y, y ∈ ps → m ≤ y) : ∃ r : Nat, m = (r : Int) ∧ Bad n sz B (.int m) := by
  obtain ⟨r, rfl, hr, hb⟩ := h.pl m hm
  refine ⟨r, rfl, .inr ⟨r, rfl, h.len, hr, hb, fun j hj => h.ok j (by omega) fun z => ?_⟩⟩
  have := hle _ z
  omega
abbrev sSpoilt : Stmt := top 45
theorem scSpoilt : FnScope ["_law_box_here", "_law_world_here", "_law_logs", "_law_bad", "_law_places", "_law_k", "_law_at", "_law_row", "_law_odd", "_law_place_here", "_law_number"] ["_law_box_here", "_law_world_here", "_law_logs"] (defScope sSpoilt) := ⟨rfl, rfl, rfl, by decide +kernel, rfl, by decide +kernel, by decide +kernel⟩
def spSpoilt (e : W4) : Sp := fun vs H Q _ => ∃ (wa la ha a : Addr) (ts as : List Addr) (n sz : Nat) (links : Links) (homes : List Int) (L : Logs), vs = [.ref e.bx, .ref wa, .ref a] ∧ SA e H ∧ WoA e.N H wa la ha ts n sz links homes ∧ LogsA e.N H a as L ∧ okLogs n sz L ∧
  ∀ (H' : Hp) (t bp : Addr) (bs : List Addr) (Bd : Logs) (v : V), K4 e H H' → H' t = some (.tup [.ref bp, v]) → LogsA e.N H' bp bs Bd → Bad n sz Bd v → Bd.length ≤ 30 → (∀ l ∈ Bd, l.length ≤ 100) → Q (.ref t) H'
theorem odd_at {sz d : Nat} (hd : d < 3) : ∃ o : Int, (o < 0 ∨ (sz : Int) ≤ o) ∧ (sz ≤ 60 → atI [V.int (-1), .int (sz : Nat), .int (10 ^ (29 : Int).toNat)] ((d : Nat) : Int) = some (.int o)) ∨ False := by
  match d, hd with
  | 0, _ => exact ⟨-1, .inl ⟨.inl (by decide), fun _ => atI_nat (j := 0) rfl⟩⟩
  | 1, _ => exact ⟨(sz : Nat), .inl ⟨.inr (Int.le_refl _), fun _ => atI_nat (j := 1) rfl⟩⟩
  | 2, _ =>
    by_cases h : sz ≤ 60
    · exact ⟨10 ^ (29 : Int).toNat, .inl ⟨.inr (by have : (60 : Int) ≤ 10 ^ (29 : Int).toNat := by decide
                                                   omega), fun _ => atI_nat (j := 2) rfl⟩⟩
    · exact ⟨-1, .inl ⟨.inl (by decide), fun z => absurd z h⟩⟩
section
variable {P : Program} {w : World} {K : PySem.W.Frag} {mg : Str → Option Value} {base : Heap}
theorem ok_spoilt {f : Addr} {fd : FuncData} {e : W4} (F : FnT K "_law_spoilt" sSpoilt f fd) (hm : mg "_law_spoilt" = some (.ref f)) (B : NB mg) (cTake : Cal P w K mg base CX0 1 "_law_take" (spTake e)) (cCopy : Cal P w K mg base CX0 1 "_law_copy" spCopy) : Cal P w K mg base CX0 2 "_law_spoilt" (spSpoilt e) := by
  refine cal0 F hm (fun _ _ _ _ _ _ us hl => match us, hl with | [_, _, _], _ => rfl) scSpoilt (fun vs H Q E h => ?_) (fun cdv A outer s H vs Q E hr h => ?_)
  · obtain ⟨wa, la, ha, a, ts, as, n, sz, links, homes, L, rfl, _⟩ := h
    rfl
  · obtain ⟨wa, la, ha, a, ts, as, n, sz, links, homes, L, rfl, hS, hW, hA, ok, q⟩ := h
    refine ⟨_, pss_cons (ps_set (i := 3) scSpoilt.nd rfl (Or.inl rfl) (pe_c cCopy hr (by decide) (by rfl) (pa_cons (pv 2) pa_nil)))
      (pss_cons (ps_set (i := 4) scSpoilt.nd rfl (Or.inl rfl) (pe_lst pa_nil))
      (pss_cons (ps_for PassesOwn.never rfl (pi_range1 (by rfl) B.rng (pa_cons (pe_op op_add pe_int (pe_c cTake hr (by decide) (by rfl) (pa_cons (pv 0) (pa_cons pe_int pa_nil)))) pa_nil)) (pg_name (i := 5) scSpoilt.nd rfl (.inl rfl))
        (pss_cons (ps_set (i := 6) scSpoilt.nd rfl (Or.inl rfl) (pe_c cTake hr (by decide) (by rfl) (pa_cons (pv 0) (pa_cons (pe_ix ix_tup (pv 1) pe_int (fun _ _ => rfl)) pa_nil))))
        (pss_cons (ps_set (i := 7) scSpoilt.nd rfl (Or.inl rfl) (pe_ix ix_list (pv 3) (pv 6) (fun _ _ => rfl)))
        (pss_cons (ps_set (i := 8) scSpoilt.nd rfl (Or.inl rfl) (pe_ix ix_list (pe_lst (pa_cons (pe_un un_neg pe_int) (pa_cons (pe_callB call_len_seq (by rfl) B.len PySem.boot_len (pa_cons (pe_ix ix_tup (pv 1) pe_int (fun _ _ => rfl)) pa_nil)) (pa_cons (pe_op op_pow pe_int pe_int) pa_nil))))
          (pe_c cTake hr (by decide) (by rfl) (pa_cons (pv 0) (pa_cons pe_int pa_nil))) (fun _ _ => rfl)))
        (pss_cons (ps_if (PW.pt (pw_and (pt_cmpR (op_neD hr.units) (pv 7) (pe_lst pa_nil) (nomark _)) (pw_and1 (pt_cmpR op_eq (pe_c cTake hr (by decide) (by rfl) (pa_cons (pv 0) (pa_cons pe_int pa_nil))) pe_int (nomark _)))))
          (pss_one (ps_set (i := 8) scSpoilt.nd rfl (Or.inl rfl) (pe_ix ix_list (pv 7) (pe_c cTake hr (by decide) (by rfl) (pa_cons (pv 0) (pa_cons (pe_callB call_len_seq (by rfl) B.len PySem.boot_len (pa_cons (pv 7) pa_nil)) pa_nil))) (fun _ _ => rfl)))) pss_nil)
        (pss_cons (ps_expr (pe_bm PySem.F.plainAttrs_list PySem.F.slot_list_insert PySem.F.type_list_insert mt_insert (pv 7) (pa_cons (pe_c cTake hr (by decide) (by rfl) (pa_cons (pv 0) (pa_cons (pe_op op_add (pe_callB call_len_seq (by rfl) B.len PySem.boot_len (pa_cons (pv 7) pa_nil)) pe_int) pa_nil))) (pa_cons (pv 8) pa_nil))))
        (pss_one (ps_expr (pe_bm PySem.F.plainAttrs_list PySem.F.slot_list_append PySem.F.type_list_append mt_append (pv 4) (pa_cons (pv 6) pa_nil))))))))))
      (pss_cons (ps_set (i := 9) scSpoilt.nd rfl (Or.inl rfl) (pe_callB (cr_min rfl) (by rfl) B.mn (by decide +kernel) (pa_cons (pv 4) pa_nil)))
      (pss_cons (ps_set (i := 10) scSpoilt.nd rfl (Or.inl rfl) (pe_c cTake hr (by decide) (by rfl) (pa_cons (pv 0) (pa_cons pe_int pa_nil))))
      (pss_cons (ps_if (pt_cmpR op_eq (pv 10) pe_int (nomark _))
        (pss_cons (ps_expr (pe_bm0 PySem.F.plainAttrs_list PySem.F.slot_list_pop PySem.F.type_list_pop mt_pop (pv 3))) (pss_one (ps_set (i := 9) scSpoilt.nd rfl (Or.inl rfl) pe_non))) pss_nil)
      (pss_cons (ps_if (pt_cmpR op_eq (pv 10) pe_int (nomark _))
        (pss_cons (ps_expr (pe_bm PySem.F.plainAttrs_list PySem.F.slot_list_append PySem.F.type_list_append mt_append (pv 3) (pa_cons (pe_lst pa_nil) pa_nil))) (pss_one (ps_set (i := 9) scSpoilt.nd rfl (Or.inl rfl) pe_non))) pss_nil)
      (pss_one (ps_ret (pe_tup (pa_cons (pv 3) (pa_cons (pv 9) pa_nil))))))))))), ?_⟩
    have n24 := hW.w.n24
    have z60 := hW.w.z60
    have n1 := hW.w.n1
    refine ⟨_, rfl, a, as, L, rfl, hA.imp fun _ _ => True.intro, by rw [ok.1]; omega, fun l hl => by have := row_len (ok.2 l hl); omega, fun H1 bp bs s1 lo0 nd => ⟨Nat.zero_le _, fun pl hpl => ?_⟩⟩
    have s2 : Same H1 (upd H1 pl (.lst [])) := same_upd hpl
    have hplH : H pl = none := s1.free hpl
    have npl : e.N pl := hS.new hplH
    have lo2 : LogsA (fun b => e.N b ∧ H b = none ∧ b ≠ pl) (upd H1 pl (.lst [])) bp bs L := (lo0.live.imp fun b hb => ⟨hS.new hb.1, hb.1, fun z => hb.2 (by rw [z]; exact hpl)⟩).same s2
    have e2 : upd H1 pl (.lst []) pl = some (.lst (([] : List Int).map V.int)) := upd_same
    have k2 : K4 e H (upd H1 pl (.lst [])) := k4_same hS (s1.trans s2)
    generalize upd H1 pl (.lst []) = H2 at lo2 e2 k2 ⊢
    have sp0 : SpB n sz L [] 0 := ⟨ok.1, fun x hx => (by cases hx), fun r hr _ => ok_lg ok r, fun l hl => by have := row_len (ok.2 l hl); omega⟩
    refine ⟨_, rfl, 2, rfl, k2.2, by decide, by decide, fun d H3 hd k3 => ?_⟩
    have k23 := k2.trans k3
    refine ⟨_, _, rfl, rfl, (1 : Int) + ((d : Nat) : Int), rfl, by omega, by omega, for_range (lo := 0) (n := ((1 : Int) + ((d : Nat) : Int)).toNat) (fun i σ H' => ∃ (B : Logs) (ps : List Int) (x5 x6 x7 x8 : Option V), σ = [some (.ref e.bx), some (.ref wa), some (.ref a), some (.ref bp), some (.ref pl), x5, x6, x7, x8, none, none] ∧ K4 e H H' ∧ LogsA (fun b => e.N b ∧ H b = none ∧ b ≠ pl) H' bp bs B ∧ H' pl = some (.lst (ps.map V.int)) ∧ ps.length = i ∧ SpB n sz B ps i)
      ⟨L, [], _, _, _, _, rfl, k23, lo2.kp k3.1 fun b hb => hb.1, k3.1.keep _ _ e2 npl, rfl, sp0⟩ ?_ ?_⟩
    · rintro i σ H4 hi ⟨Bd, ps, x5, x6, x7, x8, rfl, k4, lo4, e4, hpsl, sp⟩
      have w4 := hW.k4 k4
      refine ⟨_, rfl, _, rfl, wa, _, _, _, rfl, rfl, SqT.of w4.at_, atI_nat (j := 0) rfl, n, rfl, k4.2, n1, by omega, fun r H5 hr5 k5 => ?_⟩
      have k45 := k4.trans k5
      have lo5 : LogsA (fun b => e.N b ∧ H b = none ∧ b ≠ pl) H5 bp bs Bd := lo4.kp k5.1 fun b hb => hb.1
      have e5 := k5.1.keep _ _ e4 npl
      have w5 := hW.k4 k45
      obtain ⟨rr, hrr1, hrr2, hI5⟩ := lo5.get (i := r) (by rw [sp.len]; exact hr5)
      have hsh := sp.short _ (lg_mem (by rw [sp.len]; exact hr5))
      refine ⟨_, rfl, _, rfl, bp, _, _, _, rfl, rfl, SqL.of lo5.at_, atI_nat hrr2, ?_⟩
      refine ⟨_, rfl, _, rfl, wa, _, _, _, rfl, rfl, SqT.of w5.at_, atI_nat (j := 2) rfl, ha, _, rfl, .inl (SqL.of w5.ho.2), _, _, rfl, rfl, ⟨by decide, by decide, by decide⟩, by show 3 ≤ sizeLine; decide, fun l hl => ?_⟩
      rw [List.length_map, hW.hl]
      have s6 : Same H5 (upd H5 l (.lst [V.int (-1), .int (sz : Nat), .int (10 ^ (29 : Int).toNat)])) := same_upd hl
      have e6 : upd H5 l (.lst [V.int (-1), .int (sz : Nat), .int (10 ^ (29 : Int).toNat)]) l = some (.lst [V.int (-1), .int (sz : Nat), .int (10 ^ (29 : Int).toNat)]) := upd_same
      refine ⟨_, rfl, 3, rfl, k45.2.same s6, by decide, by decide, fun d3 H6 hd3 k6 => ?_⟩
      obtain ⟨o, ⟨ho, hoat⟩ | f⟩ := odd_at (sz := sz) hd3
      rotate_left
      exact f.elim
      refine ⟨l, _, _, _, rfl, rfl, SqL.of (k6.1.keep _ _ e6 (k45.2.new hl)), hoat z60, ?_⟩
      have k7 := (k45.same s6).trans k6
      have lo7 : LogsA (fun b => e.N b ∧ H b = none ∧ b ≠ pl) H6 bp bs Bd := (lo5.same s6).kp k6.1 fun b hb => hb.1
      have e7 := k6.1.keep _ _ (s6 _ _ e5) npl
      have hr7 := k6.1.keep _ _ (s6 _ _ hI5.2) hI5.1.1
      clear hoat e6 s6 hl l w4 w5 lo5 e5 k6 k5 k45 lo4 e4
      refine ⟨_, rfl, Nat.zero_le _, fun l2 hl2 => ?_⟩
      have s8 : Same H6 (upd H6 l2 (.lst [])) := same_upd hl2
      have e8 : upd H6 l2 (.lst []) l2 = some (.lst []) := upd_same
      refine ⟨.list ((lg Bd r).map PyData.int), .list [], .lst (SqL.of (s8 _ _ hr7)) (dp_ints _), .lst (SqL.of e8) .nil, shaped_ints _, shaped_ints [], _, rfl, ?_⟩
      rw [eqv_nil]
      have k8 := k7.same s8
      have lo8 := lo7.same s8
      have e9 := s8 _ _ e7
      have hr8 := s8 _ _ hr7
      clear e8 s8 hl2 e7 hr7 lo7 k7
      generalize upd H6 l2 (.lst []) = H7 at k8 lo8 e9 hr8 ⊢
      have hemp : ((lg Bd r).map PyData.int).isEmpty = (lg Bd r).isEmpty := by cases lg Bd r <;> rfl
      rw [hemp]
      by_cases hne : (lg Bd r).isEmpty = true
      rw [hne]
      refine iteF ?_
      have hoo : (o < 0 ∨ (sz : Int) ≤ o) ∨ o ∈ lg Bd r := .inl ho
      clear hne
      rotate_left
      rw [Bool.eq_false_iff.mpr hne]
      have hpos : 0 < (lg Bd r).length := by
        cases hl : lg Bd r with
        | nil => rw [hl] at hne; exact absurd rfl hne
        | cons => exact Nat.succ_pos _
      refine iteT ⟨_, rfl, 2, rfl, k8.2, by decide, by decide, fun d4 H8 hd4 k9 => ⟨rfl, _, rfl, ?_⟩⟩
      have k10 := k8.trans k9
      have lo10 : LogsA (fun b => e.N b ∧ H b = none ∧ b ≠ pl) H8 bp bs Bd := lo8.kp k9.1 fun b hb => hb.1
      have e10 := k9.1.keep _ _ e9 npl
      have hr10 := k9.1.keep _ _ hr8 hI5.1.1
      clear k8 lo8 e9 hr8 k9 hne
      refine ite2 (fun _ => ?_) (fun _ => ?_)
      refine ⟨_, rfl, _, rfl, _, rfl, rr, _, rfl, .inl (SqL.of hr10), (lg Bd r).length, by rw [List.length_map]; rfl, k10.2, hpos, by omega, fun d5 H9 hd5 k11 => ?_⟩
      refine ⟨rr, _, _, .int (lg Bd r)[d5], rfl, rfl, SqL.of (k11.1.keep _ _ hr10 hI5.1.1), atI_nat (by rw [List.getElem?_map, List.getElem?_eq_getElem hd5]; rfl), ?_⟩
      have k8 := k10.trans k11
      have lo8 : LogsA (fun b => e.N b ∧ H b = none ∧ b ≠ pl) H9 bp bs Bd := lo10.kp k11.1 fun b hb => hb.1
      have e9 := k11.1.keep _ _ e10 npl
      have hr8 := k11.1.keep _ _ hr10 hI5.1.1
      have hoo : ((lg Bd r)[d5] < 0 ∨ (sz : Int) ≤ (lg Bd r)[d5]) ∨ (lg Bd r)[d5] ∈ lg Bd r := .inr (List.getElem_mem hd5)
      generalize (lg Bd r)[d5] = o at hoo ⊢
      clear k10 lo10 e10 hr10 k11
      rotate_left
      have k8 := k10
      have lo8 := lo10
      have e9 := e10
      have hr8 := hr10
      have hoo : (o < 0 ∨ (sz : Int) ≤ o) ∨ o ∈ lg Bd r := .inl ho
      all_goals
        refine ⟨_, rfl, .inl ⟨rfl, _, SqL.of hr8⟩, _, rfl, _, rfl, rr, _, rfl, .inl (SqL.of hr8), _, _, rfl, rfl, (lg Bd r).length + 1, by rw [List.length_map]; rfl, k8.2, by omega, by omega, fun d6 HA hd6 kA => ?_⟩
        have hrA := kA.1.keep _ _ hr8 hI5.1.1
        have kB := k8.trans kA
        have loA : LogsA (fun b => e.N b ∧ H b = none ∧ b ≠ pl) HA bp bs Bd := lo8.kp kA.1 fun b hb => hb.1
        have eA := kA.1.keep _ _ e9 npl
        refine ⟨_, rfl, rr, _, ((d6 : Nat) : Int), _, rfl, rfl, hrA, small1000 (by rw [List.length_map]; omega), by omega, by omega, ?_⟩
        have el : (List.take ((d6 : Nat) : Int).toNat ((lg Bd r).map V.int) ++ [V.int o] ++ List.drop ((d6 : Nat) : Int).toNat ((lg Bd r).map V.int)) = ((lg Bd r).take d6 ++ [o] ++ (lg Bd r).drop d6).map V.int := by
          rw [Int.toNat_natCast, List.map_append, List.map_append, List.map_take, List.map_drop]
          rfl
        rw [el]
        have kC : K4 e H (upd HA rr (.lst (((lg Bd r).take d6 ++ [o] ++ (lg Bd r).drop d6).map V.int))) := kB.updL hrA hI5.1.2.1 hI5.1.1
        have loC := loA.updRow (l' := (lg Bd r).take d6 ++ [o] ++ (lg Bd r).drop d6) nd hrr1
        have eC : upd HA rr (.lst (((lg Bd r).take d6 ++ [o] ++ (lg Bd r).drop d6).map V.int)) pl = some (.lst (ps.map V.int)) := by rw [upd_ne (fun z => hI5.1.2.2 z.symm)]; exact eA
        generalize upd HA rr (.lst (((lg Bd r).take d6 ++ [o] ++ (lg Bd r).drop d6).map V.int)) = HC at kC loC eC ⊢
        refine ⟨_, rfl, .inl ⟨rfl, _, SqL.of eC⟩, _, rfl, pl, _, _, rfl, rfl, eC, small1000 (by rw [List.length_map]; omega), ?_⟩
        exact ⟨_, ps ++ [((r : Nat) : Int)], _, _, _, _, rfl, kC.updL eC hplH npl, loC.kp (E := fun b => b = pl) (kp_upd (.inl rfl)) fun b hb => hb.2.2, by rw [upd_same, List.map_append]; rfl, by rw [List.length_append, hpsl]; rfl, sp.add hr5 hoo⟩
    · rintro σ H4 ⟨Bd, ps, x5, x6, x7, x8, rfl, k4, lo4, e4, hpsl, sp⟩
      refine ⟨_, rfl, pl, ps, rfl, SqL.of e4, by omega, fun m hm hle => ?_⟩
      obtain ⟨mr, hmr, hbad⟩ := sp.bad hm hle
      refine ⟨_, rfl, 4, rfl, k4.2, by decide, by decide, fun d5 H5 hd5 k5 => ?_⟩
      have k45 := k4.trans k5
      have lo5 : LogsA (fun b => e.N b ∧ H b = none ∧ b ≠ pl) H5 bp bs Bd := lo4.kp k5.1 fun b hb => hb.1
      have hBl := sp.len
      have hrows : ∀ l ∈ Bd, l.length ≤ 100 := fun l hl => by have := sp.short l hl; omega
      obtain ⟨_, _, hbpN⟩ : True ∧ True ∧ H bp = none := ⟨trivial, trivial, lo5.c.2.1⟩
      refine ⟨_, rfl, rfl, _, rfl, ?_⟩
      refine ite2 (fun g0 => ?_) (fun g0 => ?_)
      · have hd0 : d5 = 0 := by have := V.int.inj (of_decide_eq_true g0); omega
        have hbl : bs.length = n := by rw [lo5.len, hBl]
        have hbpos : 0 < bs.length := by omega
        obtain ⟨bz, hbz⟩ : ∃ bz, bs[bs.length - 1]? = some bz := ⟨_, List.getElem?_eq_getElem (by omega)⟩
        refine ⟨_, rfl, .inl ⟨rfl, _, SqL.of lo5.at_⟩, bp, _, .ref bz, rfl, rfl, lo5.at_, by rw [List.length_map, List.getElem?_map, hbz]; rfl, ?_⟩
        · refine ⟨_, rfl, rfl, _, rfl, ?_⟩
          rw [decide_eq_false (show ¬ V.int ((d5 : Nat) : Int) = V.int 1 from fun z => by have := V.int.inj z; omega)]
          refine iteF ⟨_, rfl, _, rfl, by show 2 ≤ sizeLine; decide, fun t ht => ?_⟩
          have k6 : K4 e H (upd H5 bp (.lst (bs.map V.ref).dropLast)) := k45.updL lo5.at_ hbpN lo5.c.1
          have hself := lo5.not_self
          have lo6 : LogsA e.N (upd H5 bp (.lst (bs.map V.ref).dropLast)) bp bs.dropLast Bd.dropLast := by
            refine ⟨lo5.c.1, by rw [upd_same, List.map_dropLast], by rw [List.length_dropLast, List.length_dropLast, lo5.len], fun j p l h1 h2 => ?_⟩
            rw [List.getElem?_dropLast] at h1 h2
            split at h1
            · split at h2
              · have hrow := lo5.row j p l h1 h2
                exact ⟨hrow.1.1, by rw [upd_ne (fun z => hself (by rw [← z]; exact List.mem_of_getElem? h1))]; exact hrow.2⟩
              · cases h2
            · cases h1
          generalize upd H5 bp (.lst (bs.map V.ref).dropLast) = H6 at k6 lo6 ht ⊢
          have s7 : Same H6 (upd H6 t (.tup [.ref bp, .non])) := same_upd ht
          exact q _ t bp _ _ .non (k6.same s7) upd_same (lo6.same s7) (.inl ⟨rfl, by rw [List.length_dropLast]; omega⟩) (by rw [List.length_dropLast]; omega) fun l hl => hrows l ((List.dropLast_sublist _).mem hl)
      · refine ⟨_, rfl, rfl, _, rfl, ?_⟩
        refine ite2 (fun g1 => ?_) (fun g1 => ?_)
        · refine ⟨_, rfl, .inl ⟨rfl, _, SqL.of lo5.at_⟩, Nat.zero_le _, fun z hz => ?_⟩
          have s6 : Same H5 (upd H5 z (.lst [])) := same_upd hz
          have ez : upd H5 z (.lst []) z = some (.lst (([] : List Int).map V.int)) := upd_same
          have lo6 := lo5.same s6
          have k6 := k45.same s6
          have hzb : z ≠ bp := fun q => by rw [q, lo5.at_] at hz; cases hz
          generalize upd H5 z (.lst []) = H6 at s6 ez lo6 k6 ⊢
          refine ⟨bp, _, _, rfl, rfl, lo6.at_, small1000 (by rw [List.length_map, lo6.len]; omega), ?_⟩
          refine ⟨_, rfl, _, rfl, by show 2 ≤ sizeLine; decide, fun t ht => ?_⟩
          have k7 : K4 e H (upd H6 bp (.lst (bs.map V.ref ++ [.ref z]))) := k6.updL lo6.at_ hbpN lo6.c.1
          have hself := lo6.not_self
          have lo7 : LogsA e.N (upd H6 bp (.lst (bs.map V.ref ++ [.ref z]))) bp (bs ++ [z]) (Bd ++ [[]]) := by
            refine ⟨lo6.c.1, by rw [upd_same, List.map_append]; rfl, by rw [List.length_append, List.length_append, lo6.len]; rfl, fun j p l h1 h2 => ?_⟩
            rcases snoc_get h1 with ⟨hj, h1⟩ | ⟨hj, h1⟩
            · rcases snoc_get h2 with ⟨hj2, h2⟩ | ⟨hj2, h2⟩
              · have hrow := lo6.row j p l h1 h2
                exact ⟨hrow.1.1, by rw [upd_ne (fun q => hself (by rw [← q]; exact List.mem_of_getElem? h1))]; exact hrow.2⟩
              · rw [lo6.len] at hj; omega
            · rcases snoc_get h2 with ⟨hj2, h2⟩ | ⟨hj2, h2⟩
              · rw [lo6.len] at hj; omega
              · rw [h1, h2]
                exact ⟨k45.2.new hz, by rw [upd_ne hzb]; exact ez⟩
          generalize upd H6 bp (.lst (bs.map V.ref ++ [.ref z])) = H7 at k7 lo7 ht ⊢
          have s8 : Same H7 (upd H7 t (.tup [.ref bp, .non])) := same_upd ht
          refine q _ t bp _ _ .non (k7.same s8) upd_same (lo7.same s8) (.inl ⟨rfl, by rw [List.length_append]; simp only [List.length_singleton]; omega⟩) (by rw [List.length_append]; simp only [List.length_singleton]; omega) fun l hl => ?_
          rcases List.mem_append.mp hl with hl | hl
          · exact hrows l hl
          · rw [List.mem_singleton.mp hl]; exact Nat.zero_le _
        · refine ⟨_, rfl, _, rfl, by show 2 ≤ sizeLine; decide, fun t ht => ?_⟩
          have s6 : Same H5 (upd H5 t (.tup [.ref bp, .int m])) := same_upd ht
          exact q _ t bp _ _ (.int m) (k45.same s6) upd_same ((lo5.imp fun b hb => hb.1).same s6) hbad (by omega) hrows
end
end K8

set_option maxHeartbeats 4000000
namespace K8
open PySem PySem.Spec PyProof.Rows L2
/-! ### a lambda is made and handed on: of what stood there only the maker's own table changes (LamX.lam_make2 forgets every table) -/
/-- the lambda's qualified name -/
abbrev lq (X : Cx) : Str := X.env.qual ++ "<lambda>"
/-- the table after one more code object -/
abbrev tabUp (H : Hp) (P c : Addr) (q : Str) (ps : Array Value) (pos : Pos) : Hp := upd (upd H P (.tbl (ps ++ #[rawInt pos.line, rawInt pos.col, .ref c]))) c (LamX.CodeO c q)
theorem tabUp_at {H : Hp} {P c : Addr} {q : Str} {ps : Array Value} {pos : Pos} (hP : H P = some (.tbl ps)) (nC : H c = none) : tabUp H P c q ps pos P = some (.tbl (ps ++ #[rawInt pos.line, rawInt pos.col, .ref c])) :=
  (upd_ne (ne_of_none hP nC)).trans upd_same
theorem tabUp_kp {H : Hp} {P c : Addr} {q : Str} {ps : Array Value} {pos : Pos} (hP : H P = some (.tbl ps)) (nC : H c = none) : Kp (fun b => b = P) H (tabUp H P c q ps pos) :=
  (kp_upd (E := fun b => b = P) (.inl rfl)).trans (kp_upd (.inr ((upd_ne (ne_of_none hP nC).symm).trans nC)))
theorem tabUp_tab {H : Hp} {P c : Addr} {q : Str} {ps : Array Value} {pos : Pos} (hP : H P = some (.tbl ps)) (nC : H c = none) (ok : TriplesOk ps.toList) (old : ∀ (p : Pos) (v : Value), codeAmong p ps.toList = some v → ∃ d, v = .ref d ∧ H d = some (LamX.CodeO d q)) :
    LamX.TabS (tabUp H P c q ps pos) P q := by
  have two : (ps ++ #[rawInt pos.line, rawInt pos.col, Value.ref c]).toList = ps.toList ++ [rawInt pos.line, rawInt pos.col, .ref c] := by simp
  refine ⟨_, tabUp_at hP nC, two ▸ PySem.TriplesOk_snoc _ _ _ _ ok, fun p v hv => ?_⟩
  rw [two] at hv
  cases LamX.among_app _ ok hv with
  | inr z => exact ⟨c, z, upd_same⟩
  | inl z =>
    obtain ⟨d, rfl, hd⟩ := old p v z
    refine ⟨d, rfl, (tabUp_kp hP nC).keep _ _ hd fun w => ?_⟩
    rw [w, hP] at hd
    exact LamX.codeO_ne ps (Option.some.inj hd).symm
/-- what lies beyond the heap is no frame -/
theorem beyond {X : Cx} {pins : List (Addr × Obj)} {σ : L2.St} {H : Hp} {s : Shared} (I : Inv X pins σ H s) {f : Addr} (hf : s.heap.objs.size ≤ f) : f ∉ frs X.stack := by
  intro z
  cases List.mem_cons.mp (I.stkSub _ z) with
  | inl w => exact absurd I.lt (Nat.not_lt.mpr (w ▸ hf))
  | inr w => exact I.nofs hf w
/-- the lambda as it stands at f, its code object at d -/
structure LamAt (X : Cx) (params : Arguments) (body : Expr) (scope : Scope) (H1 : Hp) (s1 : Shared) (f d : Addr) : Prop where
  ob : ∃ pm ctv, s1.heap.get? f = some (PySem.W.kla_obj "<lambda>" (lq X) params body scope (cloFrom X.env.cells scope.names []) pm d ctv)
  new : H1 f = none
  far : f ∉ frs X.stack
  code : H1 d = some (LamX.CodeO d (lq X))
theorem lam_new {X : Cx} {pins : List (Addr × Obj)} {σ : L2.St} {H : Hp} {s : Shared} {c P : Addr} {params : Arguments} {body : Expr} {scope : Scope} {pos : Pos} {E Q : Value → Shared → Prop}
    (I : Inv X pins σ H s) (TB : LamX.TabB X.base X.mg c P) (own : X.env.code = .ref c) (tab : LamX.TabS H P (lq X)) (nodef : defaultsOf params X.env = ([], [])) (free : ∀ y ∈ scope.names, y.2 = .free → ∃ d, X.env.cells.lookup y.1 = some d)
    (go : ∀ (f d : Addr) (H1 : Hp) (s1 : Shared), Inv X pins σ H1 s1 → Kp (fun b => b = P) H H1 → LamX.TabS H1 P (lq X) → LamAt X params body scope H1 s1 f d → Q (.ref f) s1) :
    wpAny (model X.prog X.w) X.A (eval (.Lambda params body scope pos) X.env) Q E s := by
  obtain ⟨ps, atP, ok, old⟩ := id tab
  have objP := I.hok P _ atP
  have blt := TB.bm.keeps I.bk
  have hdc := TB.code.keeps I.bk
  have glb := I.mod.glob.keeps I.bk
  refine PySem.W.kla_eval nodef ?_
  cases among : codeAmong pos ps.toList with
  | some v =>
    obtain ⟨d, rfl, hd⟩ := old pos v among
    refine PySem.W.kla_makeFunctionHit (mg := X.mg) (c := c) (ps := ps) (closure_ok free) I.ok.glob glb own hdc objP ok among blt fun ctv h2 tk keep far => ?_
    exact go h2.objs.size d H _ (I.kept (t' := tk) fun b o q => Heap.get?_push_of_some _ (keep b o q)) (Kp.refl _ _) tab ⟨⟨_, _, Heap.get?_push_size _ rfl⟩, I.hok.fresh far, beyond I far, hd⟩
  | none =>
    refine PySem.W.kla_makeFunction (mg := X.mg) (ps := ps) (closure_ok free) I.ok.glob glb own hdc objP ok among TB.gP blt fun d ctv h2 tk keep ge lt ⟨d2, oc, vs, t, same, hoc, dat, nm⟩ wr => ?_
    cases same
    have far := Nat.le_trans ge (Nat.le_of_lt lt)
    have nD := I.hok.fresh ge
    have J := LamX.inv_table (t' := tk) (more := #[rawInt pos.line, rawInt pos.col, .ref d]) I atP (fun b o nb q => Heap.get?_push_of_some (PySem.W.kla_obj "<lambda>" (lq X) params body scope (cloFrom X.env.cells scope.names []) ((X.mg "__name__").getD .none) d ctv) (keep b o nb q)) (Heap.get?_push_of_some _ wr) ge ⟨oc, vs, t, Heap.get?_push_of_some _ hoc, dat, nm⟩
    refine go h2.objs.size d _ _ J (tabUp_kp atP nD) (tabUp_tab atP nD ok old) ⟨⟨_, _, Heap.get?_push_size _ rfl⟩, ?_, beyond I far, upd_same⟩
    have away : h2.objs.size ≠ P := Nat.ne_of_gt (Nat.lt_of_lt_of_le (Heap.lt_size objP) far)
    exact (upd_ne (Nat.ne_of_gt lt)).trans ((upd_ne away).trans (I.hok.fresh far))
def tLam3 (P : Addr) (q : Str) (TT : (XK → Hp → VK → Prop) → Hp → VK → Prop) (t : XK → TE) : TE := fun σ H Q => LamX.TabS H P q ∧ ∀ H1, Kp (fun b => b = P) H H1 → LamX.TabS H1 P q → TT (fun E H' Q' => t E σ H' Q') H1 Q
/-- x(lambda: body), x a def of one parameter a that calls it -/
theorem pe_lamcall3 {X : Cx} {TT : (XK → Hp → VK → Prop) → Hp → VK → Prop} {x a : Str} {g c P : Addr} {k : Nat} {pg : Arguments} {bg : List Stmt} {sg : Scope} {dV kV doc pm cdv ct oc : Value} {an od : Option Addr} {osl : Array (Option Value)} {Ng : List Str} {params : Arguments} {body : Expr} {scope : Scope} {t : XK → TE} {p lpos pos : Pos}
    (gl : Gl X x) (at_ : X.mg x = some (.ref g)) (kp : PySem.W.keepIn X.K (.ref g) = true) (ob : X.K.lookup g = some ⟨oc, od, .func (PySem.W.fnOf x x pg bg sg dV kV doc pm an cdv ct), osl⟩) (cod : PySem.W.codeIn X.K cdv x = true)
    (bi : L2.Binds X.K (PySem.W.fnOf x x pg bg sg dV kV doc pm an cdv ct) [a] []) (S : FnScope Ng [a] sg) (first : Ng[0]? = some a) (vis : Vis sg a) (give : LamX.GivesTo X Ng x sg g cdv bg a (lq X) TT)
    (TB : LamX.TabB X.base X.mg c P) (own : X.env.code = .ref c) (hr : Room (k + 2) X.A) (L : LamX.LamS X.env.scope scope) (nodef : defaultsOf params X.env = ([], []))
    (noarg : ∀ (q : Str) (cl : List (Str × Addr)) (pm cv ctv : Value), bindArgs (PySem.W.kla_fn "<lambda>" q params body scope cl pm cv ctv) ⟨[], []⟩ = pure [])
    (inner : ∀ (A : Around) (outer : List Env) (s : Shared) (H : Hp) (E : XK) (f d : Addr), Room k (A.deeper (LamX.lamEnv X scope s.heap.objs.size f d)) → PE (LamX.lamCx X A outer s H E scope f d) body (t E))
    (d1 : (x == ("__debug__" : Str)) = false := by decide) (d2 : (a == ("__debug__" : Str)) = false := by decide) (d3 : (a == ("__classdict__" : Str)) = false := by decide) :
    PE X (.Call (.Name x p) [.Lambda params body scope lpos] [] pos) (tLam3 P (lq X) TT t) := by
  constructor
  intro pins s σ H Q I ⟨tab, go⟩
  refine wpAny_Call_Name_kw (ld_glob I gl at_ (PySem.W.callWith_K (h₀ := X.base) I.ok.mod.kin kp ?_ (by rfl) (by rfl)) d1)
  show wpAny _ _ (spliced ((false, eval (.Lambda params body scope lpos) X.env) :: backTo pos (starEach [] X.env))) _ _ s
  refine Calls.spliced_cons (lam_new I TB own tab nodef (L.has I.ok) fun f d H1 s1 J kpt tab1 ⟨⟨pm1, ct1, hf⟩, new, far, code⟩ => Calls.spliced_nil ⟨J.kIn, wpAny_call (codeAny_mono (R := CR C8.CX0 X.stack X.prog X.w H1 s1 Q C8.E0) ?_ fun r s2 hq => ?_)⟩)
  · refine LamX.run_ofS (N := Ng) (ps := [a]) (us := [.ref f]) (vs := [.ref f]) ob cod S hr J.env0 (bi s1 [.ref f] J.kIn rfl) (.cons rfl .nil) rfl fun hr1 => ?_
    obtain ⟨tt, h1, h2⟩ := give f d s1 H1 Q (fun E H' Q' => t E σ H' Q') (fun W pn xe E p1 p2 tk wish => LamX.pe_act (i := 0) J L hf new far (noarg _ _ _ _ _) tk wish hr1 (fun A outer s H room => inner A outer s H E f d room) first vis d2 d3) code (go H1 kpt tab1)
    exact ⟨tt, h1.nox, h2⟩
  · match r, hq with
    | .error _, hq => exact False.elim hq
    | .ok (.ret _), hq => exact J.after hq
    | .ok .next, hq => exact False.elim hq
    | .ok .brk, hq => exact False.elim hq
    | .ok .cont, hq => exact False.elim hq
end K8

set_option maxHeartbeats 4000000
namespace K8
open PySem PySem.Spec PyProof.Rows L2
abbrev sRefusal : Stmt := top 54
abbrev sRefused : Stmt := top 55
theorem scRefusal : FnScope ["_law_ask", "raised"] ["_law_ask"] (defScope sRefusal) := ⟨rfl, rfl, rfl, by decide +kernel, rfl, by decide +kernel, by decide +kernel⟩
theorem scRefused : FnScope ["_law_box_here", "_law_cluster", "_law_world_here", "_law_logs", "_law_spoilt_here", "_law_bad", "_law_told", "_law_k"] ["_law_box_here", "_law_cluster", "_law_world_here", "_law_logs"] (defScope sRefused) := ⟨rfl, rfl, rfl, by decide +kernel, rfl, by decide +kernel, by decide +kernel⟩
/-- what the written part says of InvalidLogs when it is caught -/
structure RfTxt (K : PySem.W.Frag) (mg : Str → Option Value) (CI CS : Addr) : Prop where
  gI : mg "InvalidLogs" = some (.ref CI)
  gS : mg "StoreError" = some (.ref CS)
  exc : ExcC K CI
  k1 : PySem.W.kitOne K (.ref CI) (.type "ValueError") = some true
  k2 : PySem.W.kitOne K (.ref CI) (.ref CI) = some true
  xf : XfC K CI
  no : PySem.W.findIn K (.ref CI) "replica" = some none
  exm : PySem.W.exmOne K (.ref CI) (.ref CS) = some true
theorem call_isD2 {X : Cx} {a D : Addr} {cls : Value} {d : Option Addr} {oe : Obj} {pn : List (Addr × Obj)} (C : ExcC X.K D) (hz : Zc cls d oe) (hf : ∃ vs, oe.data = .fields vs) : CallR (X.suite a ((a, oe) :: pn)) (.builtin "isinstance") (fun xs H Q => ∃ dd, cls = .ref D ∧ d = some dd ∧ rIsD X.K D a dd xs H Q) := by
  intro pins s σ H xs us Q I r h
  obtain ⟨dd, rfl, rfl, h⟩ := h
  exact call_isD C hz hf pins s σ H xs us Q I r h
def TTref (CI : Addr) : (XK → Hp → VK → Prop) → Hp → VK → Prop := fun tl H Q => ∀ Q' : VK, tl (fun cls d H' => ∃ dd v, cls = .ref CI ∧ d = some dd ∧ H' dd = some (.xd [(("replica" : Str), v)]) ∧ ∀ t, H' t = none → Q (.ref t) (upd H' t (.tup [.str "logs", v]))) H Q'
theorem pss_len {X : Cx} {b : List Stmt} {t : TS} (n : Nat) (hN : X.N.length = n) (h : PSs X b t) : PSs X b (fun D σ H => σ.length = n → t D σ H) := ⟨fun pins s σ H D I hw => h.run pins s σ H D I (hw (I.len.trans hN))⟩
theorem refusal_gives {X : Cx} {g CI CS : Addr} {cdg : Value} {q : Str} (T : RfTxt X.K X.mg CI CS) (B : NB X.mg) : LamX.GivesTo X ["_law_ask", "raised"] "_law_refusal" (defScope sRefusal) g cdg (defBody sRefusal) "_law_ask" q (TTref CI) := by
  intro f c' s H Q tl act hc h
  refine ⟨_, pss_cons (ps_try_as (X := (cxOf C8.CX0 X.prog X.w X.K X.mg X.base ["_law_ask", "raised"] "_law_refusal" (defScope sRefusal) g cdg X.A X.stack s H C8.E0).nox) (i := 1) (c := .ref CS)
      (tb := fun W D σ H => ∃ Ech : XK, (∀ cls d σ' H', Ech cls d H' → W cls d σ' H') ∧ σ[0]? = some (some (.ref f)) ∧ H c' = some (LamX.CodeO c' q) ∧ tl Ech H (fun _ H1 => D.nx σ H1))
      rfl rfl scRefusal.nd rfl rfl ⟨by rfl, by decide, .inl T.gS⟩ LamX.takes0 (fun W pn xe tk _ => ?_) (fun a oe cls d pn hz hf =>
        pss_len 2 rfl (pss_cons (ps_if (PW.pt (pw_and (pt_val (pe_callB (call_isD2 T.exc hz hf) (by rfl) B.isi (by decide +kernel) (pa_cons (pv 1) (pa_cons (pe_bltn (v := .ty "ValueError") (u := .type "ValueError") (by rfl) B.ve (by decide +kernel) rfl) pa_nil))))
          (pw_and1 (pt_val (pe_callB (call_isD2 T.exc hz hf) (by rfl) B.isi (by decide +kernel) (pa_cons (pv 1) (pa_cons (pe_glob (v := V.ref CI) (by rfl) T.gI rfl) pa_nil)))))))
          (pss_one (ps_ret (pe_tup (pa_cons pe_str (pa_cons (pe_xf T.xf T.no hz hf (pv 1)) pa_nil))))) pss_nil)
        (pss_one (ps_ret (pe_tup (pa_cons pe_str pa_nil))))))) (pss_one (ps_ret (pe_tup (pa_cons pe_str pa_nil)))), ?_⟩
  · refine ⟨fun pins s' σ H' D I h' => ?_⟩
    obtain ⟨Ech, hW, h1, h2, h3⟩ := h'
    have hp := act W pn xe Ech ⟨418, 8, 418, 16⟩ ⟨418, 8, 418, 18⟩ tk hW
    have hq := pss_one (ps_expr (pos := ⟨418, 8, 418, 18⟩) hp)
    exact hq.run pins s' σ H' D I ⟨h1, h2, h3⟩
  · refine ⟨fun cls d H' => ∃ dd v, cls = .ref CI ∧ d = some dd ∧ H' dd = some (.xd [(("replica" : Str), v)]) ∧ ∀ t, H' t = none → Q (.ref t) (upd H' t (.tup [.str "logs", v])), ?_, rfl, hc, h _⟩
    rintro cls d σ' H' ⟨dd, v, rfl, rfl, hd, hq⟩
    refine ⟨true, T.exm, fun _ a ha hlen => ?_, fun z => Bool.noConfusion z⟩
    have h1 : (σ'.set 1 (some (V.ref a)))[1]? = some (some (V.ref a)) := by
      rw [List.length_set] at hlen
      exact List.getElem?_set_self (by rw [hlen]; decide)
    refine ⟨_, h1, dd, rfl, rfl, _, .type "ValueError", true, _, rfl, hd, fun u z => z, T.k1, _, rfl, iteT ?_⟩
    refine ⟨_, h1, dd, rfl, rfl, _, .ref CI, true, _, rfl, hd, fun u z => z, T.k2, _, rfl, iteT ?_⟩
    refine ⟨_, h1, rfl, rfl, dd, _, v, rfl, hd, by rfl, by show 2 ≤ sizeLine; decide, fun t ht => hq t ht⟩
theorem bad_uniq {n sz : Nat} {L : Logs} {v v' : V} (h : Bad n sz L v) (h' : Bad n sz L v') : v = v' := by
  rcases h with ⟨e, h⟩ | ⟨k, e, h1, h2, h3, h4⟩
  · rcases h' with ⟨e', _⟩ | ⟨k', _, h1', _⟩
    · rw [e, e']
    · exact absurd h1' h
  · rcases h' with ⟨_, h'⟩ | ⟨k', e', h1', h2', h3', h4'⟩
    · exact absurd h1 h'
    · have : k = k' := by
        rcases Nat.lt_trichotomy k k' with z | z | z
        · exact absurd (h4' k z) h3
        · exact z
        · exact absurd (h4 k' z) h3'
      rw [e, e', this]
theorem bad_da {n sz : Nat} {L : Logs} {v : V} (h : Bad n sz L v) : ∃ d, ∀ (m : Nat) (H : Hp), Da H m v d := by
  rcases h with ⟨e, _⟩ | ⟨k, e, _⟩
  · exact ⟨.none, fun m H => by rw [e]; exact .non m⟩
  · exact ⟨.int k, fun m H => by rw [e]; exact .int m _⟩
theorem bad_no {n sz : Nat} {L : Logs} {v : V} (h : Bad n sz L v) : ¬ okLogs n sz L := fun ok => ok_bad ok h
end K8

set_option maxHeartbeats 4000000
namespace K8
open PySem PySem.Spec PyProof.Rows L2
theorem k4_p2 {e : W4} {H H1 : Hp} (h : SA e H) (k : Kp (fun b => b = e.P2) H H1) (t : LamX.TabS H1 e.P2 q2) : K4 e H H1 := by
  refine ⟨k.imp fun b z => .inr (.inr (.inr z)), ?_, ?_, t, h.ne⟩
  · obtain ⟨g, tt, c, h1, h2⟩ := h.box
    obtain ⟨ps, h3, _⟩ := h.t2
    exact ⟨g, tt, c, k.keep _ _ h1 (fun z => by rw [z, h3] at h1; cases h1), k.keep _ _ h2 (fun z => by rw [z, h3] at h2; cases h2)⟩
  · obtain ⟨ps, a1, a2⟩ := h.t1
    exact ⟨ps, k.keep _ _ a1 h.ne, a2⟩
def spRefused (e : W4) (CC CN : Addr) : Sp := fun vs H Q _ => ∃ (c wa la ha a : Addr) (cts ts as : List Addr) (n sz : Nat) (links : Links) (homes : List Int) (L : Logs), vs = [.ref e.bx, .ref c, .ref wa, .ref a] ∧ SA e H ∧ ClA CC CN e.N H c cts n sz links ∧ WoA e.N H wa la ha ts n sz links homes ∧ LogsA e.N H a as L ∧ okLogs n sz L ∧
  ∀ H', K4 e H H' → Q (.bl true) H'
/-- one ask is over -/
theorem ask_over {e : W4} {H G I J : Hp} {t : Addr} {xs : List V} (kG : K4 e H G) (kI : Kp (fun b => b = e.P2) G I) (tI : LamX.TabS I e.P2 q2) (k1 : K1 e.P1 I J) (ht : J t = none) : K4 e G (upd J t (.tup xs)) ∧ e.N t := by
  have a := k4_p2 kG.2 kI tI
  have b := k4_k1 a.2 k1
  have c := a.trans b
  exact ⟨c.same (same_upd ht), c.2.new ht⟩
section
variable {P : Program} {w : World} {K : PySem.W.Frag} {mg : Str → Option Value} {base : Heap} {CC CN CI CS : Addr}
theorem ok_refused {f cd g : Addr} {fd fdG : FuncData} {e : W4} (F : FnT K "_law_refused" sRefused f fd) (hc : fd.code = .ref cd) (hm : mg "_law_refused" = some (.ref f)) (B : NB mg) (TB : LamX.TabB base mg cd e.P2) (FG : FnT K "_law_refusal" sRefusal g fdG) (hmG : mg "_law_refusal" = some (.ref g)) (TR : RfTxt K mg CI CS)
    (cSp : Cal P w K mg base CX0 2 "_law_spoilt" (spSpoilt e)) (cCopy : Cal P w K mg base CX0 1 "_law_copy" spCopy) (cAl : ∀ n, Cal P w K mg base CX0 (n + 1) "_law_alike" (spAlike n))
    (cIs : Cal P w K mg base (L2.CX P w) 5 "is_settled" (spAsk CC CN CI e.P1 (ansIs e.P1))) (cSet : Cal P w K mg base (L2.CX P w) 5 "settle" (spAsk CC CN CI e.P1 (ansSettle e.P1))) (cLog : Cal P w K mg base (L2.CX P w) 5 "settled_logs" (spAsk CC CN CI e.P1 (ansLogs e.P1)))
    (cLeft : Cal P w K mg base (L2.CX P w) 5 "pulls_left" (spAsk CC CN CI e.P1 (ansLeft e.P1))) : Cal P w K mg base CX0 8 "_law_refused" (spRefused e CC CN) := by
  refine calT F hc hm (fun _ _ _ _ _ _ us hl => match us, hl with | [_, _, _, _], _ => rfl) scRefused (fun vs H Q E h => ?_) (fun A outer s H vs Q E hr h => ?_)
  · obtain ⟨c, wa, la, ha, a, cts, ts, as, n, sz, links, homes, L, rfl, _⟩ := h
    rfl
  · obtain ⟨c, wa, la, ha, a, cts, ts, as, n, sz, links, homes, L, rfl, hS, hC, hW, hA, ok, q⟩ := h
    have bG0 := FG.bindsN (fun _ _ _ _ _ _ us hl => match us, hl with | [_], _ => rfl : BindOk "_law_refusal" sRefusal ["_law_ask"])
    obtain ⟨oc, od, dV, kV, doc, pm, an, cdv, ct, osl, eG, lkG, hcG, _, _⟩ := FG.ex
    subst eG
    have bG := bG0
    refine ⟨_, pss_cons (ps_set (i := 4) scRefused.nd rfl (Or.inr rfl) (pe_c cSp hr (by decide) (by rfl) (pa_cons (pv 0) (pa_cons (pv 2) (pa_cons (pv 3) pa_nil)))))
      (pss_cons (ps_set (i := 5) scRefused.nd rfl (Or.inr rfl) (pe_c cCopy hr (by decide) (by rfl) (pa_cons (pe_ix ix_tup (pv 4) pe_int (fun _ _ => rfl)) pa_nil)))
      (pss_cons (ps_set (i := 6) scRefused.nd rfl (Or.inl rfl) (pe_lst (pa_cons (pe_lamcall3 (k := 5) (t := fun E => tCall (spAsk CC CN CI e.P1 (ansIs e.P1)) [] E (tCons (tVar 1) (tCons (tVar 5) tNil))) (by rfl) hmG FG.kp lkG hcG bG scRefusal rfl (.inl rfl) (refusal_gives TR B) TB rfl hr (LamX.lamS_by (sc := defScope sRefused) (by decide +kernel)) rfl (fun _ _ _ _ _ => rfl) (fun A outer s H E f c' hr2 => pe_cX cIs hr2 (by decide) (by rfl) (passes_call (takes_of rfl rfl rfl rfl) (fun _ _ _ _ h => h)) (pa_cons (pv 1) (pa_cons (pv 5) pa_nil))))
        (pa_cons (pe_lamcall3 (k := 5) (t := fun E => tCall (spAsk CC CN CI e.P1 (ansSettle e.P1)) [] E (tCons (tVar 1) (tCons (tVar 5) tNil))) (by rfl) hmG FG.kp lkG hcG bG scRefusal rfl (.inl rfl) (refusal_gives TR B) TB rfl hr (LamX.lamS_by (sc := defScope sRefused) (by decide +kernel)) rfl (fun _ _ _ _ _ => rfl) (fun A outer s H E f c' hr2 => pe_cX cSet hr2 (by decide) (by rfl) (passes_call (takes_of rfl rfl rfl rfl) (fun _ _ _ _ h => h)) (pa_cons (pv 1) (pa_cons (pv 5) pa_nil))))
        (pa_cons (pe_lamcall3 (k := 5) (t := fun E => tCall (spAsk CC CN CI e.P1 (ansLogs e.P1)) [] E (tCons (tVar 1) (tCons (tVar 5) tNil))) (by rfl) hmG FG.kp lkG hcG bG scRefusal rfl (.inl rfl) (refusal_gives TR B) TB rfl hr (LamX.lamS_by (sc := defScope sRefused) (by decide +kernel)) rfl (fun _ _ _ _ _ => rfl) (fun A outer s H E f c' hr2 => pe_cX cLog hr2 (by decide) (by rfl) (passes_call (takes_of rfl rfl rfl rfl) (fun _ _ _ _ h => h)) (pa_cons (pv 1) (pa_cons (pv 5) pa_nil))))
        (pa_cons (pe_lamcall3 (k := 5) (t := fun E => tCall (spAsk CC CN CI e.P1 (ansLeft e.P1)) [] E (tCons (tVar 1) (tCons (tVar 5) tNil))) (by rfl) hmG FG.kp lkG hcG bG scRefusal rfl (.inl rfl) (refusal_gives TR B) TB rfl hr (LamX.lamS_by (sc := defScope sRefused) (by decide +kernel)) rfl (fun _ _ _ _ _ => rfl) (fun A outer s H E f c' hr2 => pe_cX cLeft hr2 (by decide) (by rfl) (passes_call (takes_of rfl rfl rfl rfl) (fun _ _ _ _ h => h)) (pa_cons (pv 1) (pa_cons (pv 5) pa_nil)))) pa_nil))))))
      (pss_one (ps_ret (pe_and (pe_c (cAl 4) hr (by decide) (by rfl) (pa_cons (pv 6) (pa_cons (pe_lc (own := [("_law_k", 7)]) (g := gName 7) (tt := tYes) (te := tTup (tCons (tC (.str "logs")) (tCons (tOp (rIxT K) (tVar 4) (tC (.int 1))) tNil))) rfl scRefused.nd (pi_range1 (by rfl) B.rng (pa_cons pe_int pa_nil)) (blkOk_by (own := [("_law_k", 7)]) (N := ["_law_box_here", "_law_cluster", "_law_world_here", "_law_logs", "_law_spoilt_here", "_law_bad", "_law_told", "_law_k"]) (sc := defScope sRefused) (by decide +kernel))
          (fun _ _ _ _ _ => pg_name (i := 7) scRefused.nd rfl (Or.inl rfl)) (fun _ _ _ _ _ => pts_nil) (fun _ _ _ _ _ => pe_tup (pa_cons pe_str (pa_cons (pe_ix (r := rIxT K) ix_tup (pv 4) pe_int (fun _ _ => rfl)) pa_nil)))) pa_nil)))
        (pe_one (pe_c (cAl 4) hr (by decide) (by rfl) (pa_cons (pv 5) (pa_cons (pe_ix ix_tup (pv 4) pe_int (fun _ _ => rfl)) pa_nil))))))))), ?_⟩
    have W := hW.w
    have n24 := W.n24
    have z60 := W.z60
    have l64 := hW.l64
    refine ⟨_, rfl, _, rfl, _, rfl, wa, la, ha, a, ts, as, n, sz, links, homes, L, rfl, hS, hW, hA, ok, fun H1 st bp bs Bd v k1 eS lB hbad hBl hBr => ?_⟩
    have nS : e.N st := k1.2.tupN eS
    refine ⟨_, rfl, st, _, _, _, rfl, rfl, SqT.of eS, atI_nat (j := 0) rfl, bp, bs, Bd, rfl, lB.imp fun _ _ => True.intro, by omega, fun l hl => by have := hBr l hl; omega, fun G0 dp ds s2 lD nd => ?_⟩
    have kG0 := k1.same s2
    have eS0 := s2 _ _ eS
    have lD0 : LogsA e.N G0 dp ds Bd := lD.imp fun b hb => k1.2.new hb
    have lB0 := lB.same s2
    have hC0 := hC.k4 kG0
    have kGH0 := k4_refl kG0.2
    have askB : ∀ J, K4 e G0 J → Ask CC CN e.P1 J c dp cts ds n sz links Bd := fun J k => ⟨⟨(hC0.k4 k).imp fun _ _ => True.intro, (lD0.k4 k).imp fun _ _ => True.intro, n24, z60, hBl, hBr⟩, W, by omega, k.2.t1⟩
    refine ⟨kG0.2.t2, fun I0 kI0 tI0 Q0 => ?_⟩
    have kH0 := k4_p2 kG0.2 kI0 tI0
    refine ⟨_, rfl, _, rfl, c, dp, cts, ds, n, sz, links, Bd, rfl, askB _ ((kGH0).trans kH0), fun ok => absurd ok (bad_no hbad), fun v0 hb0 J0 d0 k10 hd0 hx0 => ⟨d0, v0, rfl, rfl, hx0, fun t0 ht0 => ?_⟩⟩
    obtain rfl := bad_uniq hb0 hbad
    obtain ⟨kS0, nT0⟩ := ask_over (xs := [.str "logs", v0]) kG0 kI0 tI0 k10 ht0
    have eT0 : upd J0 t0 (.tup [.str "logs", v0]) t0 = some (.tup [.str "logs", v0]) := upd_same
    have kG1 := kG0.trans kS0
    have kGH1 := kGH0.trans kS0
    generalize upd J0 t0 (.tup [.str "logs", v0]) = G1 at kS0 eT0 kG1 kGH1 ⊢
    refine ⟨kG1.2.t2, fun I1 kI1 tI1 Q1 => ?_⟩
    have kH1 := k4_p2 kG1.2 kI1 tI1
    refine ⟨_, rfl, _, rfl, c, dp, cts, ds, n, sz, links, Bd, rfl, askB _ ((kGH1).trans kH1), fun ok => absurd ok (bad_no hbad), fun v1 hb1 J1 d1 k11 hd1 hx1 => ⟨d1, v1, rfl, rfl, hx1, fun t1 ht1 => ?_⟩⟩
    obtain rfl := bad_uniq hb1 hbad
    obtain ⟨kS1, nT1⟩ := ask_over (xs := [.str "logs", v1]) kG1 kI1 tI1 k11 ht1
    have eT1 : upd J1 t1 (.tup [.str "logs", v1]) t1 = some (.tup [.str "logs", v1]) := upd_same
    have kG2 := kG1.trans kS1
    have kGH2 := kGH1.trans kS1
    generalize upd J1 t1 (.tup [.str "logs", v1]) = G2 at kS1 eT1 kG2 kGH2 ⊢
    refine ⟨kG2.2.t2, fun I2 kI2 tI2 Q2 => ?_⟩
    have kH2 := k4_p2 kG2.2 kI2 tI2
    refine ⟨_, rfl, _, rfl, c, dp, cts, ds, n, sz, links, Bd, rfl, askB _ ((kGH2).trans kH2), fun ok => absurd ok (bad_no hbad), fun v2 hb2 J2 d2 k12 hd2 hx2 => ⟨d2, v2, rfl, rfl, hx2, fun t2 ht2 => ?_⟩⟩
    obtain rfl := bad_uniq hb2 hbad
    obtain ⟨kS2, nT2⟩ := ask_over (xs := [.str "logs", v2]) kG2 kI2 tI2 k12 ht2
    have eT2 : upd J2 t2 (.tup [.str "logs", v2]) t2 = some (.tup [.str "logs", v2]) := upd_same
    have kG3 := kG2.trans kS2
    have kGH3 := kGH2.trans kS2
    generalize upd J2 t2 (.tup [.str "logs", v2]) = G3 at kS2 eT2 kG3 kGH3 ⊢
    refine ⟨kG3.2.t2, fun I3 kI3 tI3 Q3 => ?_⟩
    have kH3 := k4_p2 kG3.2 kI3 tI3
    refine ⟨_, rfl, _, rfl, c, dp, cts, ds, n, sz, links, Bd, rfl, askB _ ((kGH3).trans kH3), fun ok => absurd ok (bad_no hbad), fun v3 hb3 J3 d3 k13 hd3 hx3 => ⟨d3, v3, rfl, rfl, hx3, fun t3 ht3 => ?_⟩⟩
    obtain rfl := bad_uniq hb3 hbad
    obtain ⟨kS3, nT3⟩ := ask_over (xs := [.str "logs", v3]) kG3 kI3 tI3 k13 ht3
    have eT3 : upd J3 t3 (.tup [.str "logs", v3]) t3 = some (.tup [.str "logs", v3]) := upd_same
    have kG4 := kG3.trans kS3
    have kGH4 := kGH3.trans kS3
    generalize upd J3 t3 (.tup [.str "logs", v3]) = G4 at kS3 eT3 kG4 kGH4 ⊢
    refine ⟨by show 4 ≤ sizeLine; decide, fun tl htl => ?_⟩
    have eA := kS1.1.keep _ _ eT0 nT0
    have eB := kS2.1.keep _ _ eA nT0
    have e0 := kS3.1.keep _ _ eB nT0
    have eC := kS2.1.keep _ _ eT1 nT1
    have e1 := kS3.1.keep _ _ eC nT1
    have e2 := kS3.1.keep _ _ eT2 nT2
    have s5 : Same G4 (upd G4 tl (.lst [.ref t0, .ref t1, .ref t2, .ref t3])) := same_upd htl
    have eL : upd G4 tl (.lst [.ref t0, .ref t1, .ref t2, .ref t3]) tl = some (.lst [.ref t0, .ref t1, .ref t2, .ref t3]) := upd_same
    generalize upd G4 tl (.lst [.ref t0, .ref t1, .ref t2, .ref t3]) = G5 at s5 eL ⊢
    have eS5 := s5 _ _ (kGH4.1.keep _ _ eS0 nS)
    refine ⟨_, rfl, (4 : Int), rfl, by decide, by decide, fun D hD => ?_⟩
    refine lc_range (lo := 0) (n := (4 : Int).toNat) (fun i H' => Same G5 H' ∧ ∃ us : List Addr, us.length = i ∧ H' D = some (.lst (us.map V.ref)) ∧ ∀ u ∈ us, H' u = some (.tup [.str "logs", v3])) ⟨same_upd hD, [], rfl, upd_same, fun u hu => (by cases hu)⟩ ?_ ?_
    · rintro i H' hi ⟨s6, us, hul, eD, hus⟩
      refine ⟨rfl, ?_⟩
      refine ⟨_, rfl, st, _, _, _, rfl, rfl, SqT.of (s6 _ _ eS5), atI_nat (j := 1) rfl, by show 2 ≤ sizeLine; decide, fun t ht => ?_⟩
      have htD : t ≠ D := fun z => by rw [z, eD] at ht; cases ht
      have s7 : Same H' (upd H' t (.tup [.str "logs", v3])) := same_upd ht
      have e7 : upd H' t (.tup [.str "logs", v3]) t = some (.tup [.str "logs", v3]) := upd_same
      have eD7 := s7 _ _ eD
      refine ⟨_, eD7, small1000 (by rw [List.length_map, hul]; have : (4 : Int).toNat = 4 := rfl; omega), fun b o eb => ?_, us ++ [t], by rw [List.length_append, hul]; rfl, by rw [upd_same, List.map_append]; rfl, fun u hu => ?_⟩
      · rw [upd_ne (ne_of_none eb hD)]
        exact s7 _ _ (s6 _ _ eb)
      · rcases List.mem_append.mp hu with hu | hu
        · rw [upd_ne (ne_of (hus u hu) eD (by intro z; cases z))]
          exact s7 _ _ (hus u hu)
        · rw [List.mem_singleton.mp hu, upd_ne htD]
          exact e7
    · rintro H6 ⟨s6, us, hul, eD, hus⟩
      obtain ⟨vd, hvd⟩ := bad_da hbad
      have k6 : K4 e H H6 := (kG4.same s5).same s6
      have kGH6 : K4 e G0 H6 := (kGH4.same s5).same s6
      have s56 : Same G4 H6 := s5.trans s6
      have tD : ∀ t, H6 t = some (.tup [.str "logs", v3]) → Da H6 2 (.ref t) (.tuple [.str "logs", vd]) := fun t h => .tup h (by show 2 ≤ 100000; decide) (.cons (.str _ _) (.cons (hvd _ _) (.nil _)))
      have dA : Da H6 3 (.ref tl) (.list [.tuple [.str "logs", vd], .tuple [.str "logs", vd], .tuple [.str "logs", vd], .tuple [.str "logs", vd]]) :=
        .lst (s6 _ _ eL) (by show 4 ≤ 100000; decide) (.cons (tD _ (s56 _ _ e0)) (.cons (tD _ (s56 _ _ e1)) (.cons (tD _ (s56 _ _ e2)) (.cons (tD _ (s56 _ _ eT3)) (.nil _)))))
      have dB : Da H6 3 (.ref D) (.list [.tuple [.str "logs", vd], .tuple [.str "logs", vd], .tuple [.str "logs", vd], .tuple [.str "logs", vd]]) := by
        match us, hul, eD, hus with
        | [u0, u1, u2, u3], _, eD, hus =>
          exact .lst eD (by show 4 ≤ 100000; decide) (.cons (tD _ (hus _ (by simp))) (.cons (tD _ (hus _ (by simp))) (.cons (tD _ (hus _ (by simp))) (.cons (tD _ (hus _ (by simp))) (.nil _)))))
      refine ⟨_, _, _, rfl, dA, dB, true, rfl, iteT ?_⟩
      have big1 : Bd.length ≤ 100000 := by omega
      have big2 : ∀ l ∈ Bd, l.length ≤ 100000 := fun l hl => by have := hBr l hl; omega
      exact ⟨_, rfl, _, rfl, st, _, _, _, rfl, rfl, SqT.of (s6 _ _ eS5), atI_nat (j := 0) rfl, _, _, _, rfl, (lD0.k4 kGH6).da big1 big2, (lB0.k4 kGH6).da big1 big2, q H6 k6⟩
end
end K8

set_option maxHeartbeats 4000000
namespace K8
open PySem PySem.Spec PyProof.Rows L2
section
variable {X : Cx} {k j : Nat} {x : Str} {p pos : Pos} {e : Expr} {es : List Expr} {t : TA}
/-- a def whose promise has a parameter, told at the call -/
theorem pe_cU {ι : Type} {sp : ι → Sp} (c : ∀ i, Cal X.prog X.w X.K X.mg X.base CX0 k x (sp i)) (i0 : ι) (hr : Room j X.A) (hk : k ≤ j) (hg : Gl X x) (ha : PA X (e :: es) t)
    (hdb : (x == ("__debug__" : Str)) = false := by decide) (he : starEach (e :: es) X.env = (false, eval e X.env) :: starEach es X.env := by rfl) (hpl : (backTo pos (starEach es X.env)).any (·.1) = false := by rfl) :
    PE X (.Call (.Name x p) (e :: es) [] pos) (tCall (fun vs H Q E => ∃ i, sp i vs H Q E) [] E0 t) := by
  obtain ⟨f0, _, _, _, hm0, kp0, _⟩ := (c i0).ex
  refine ⟨fun pins s σ H Q I h => ?_⟩
  refine wpAny_Call_Name_kw (ld_glob I hg hm0 ?_ hdb)
  refine PySem.W.callWith_K (h₀ := X.base) I.ok.mod.kin kp0 (thn (ha.run pos pins s σ H _ I h) fun us s1 ⟨vs, H1, I1, r, q⟩ => ⟨I1.kIn, ?_⟩) he hpl
  obtain ⟨i, q⟩ := q
  obtain ⟨f, fd, ps, F, hm, kp, b⟩ := (c i).ex
  have ef : f = f0 := Value.ref.inj (Option.some.inj (hm.symm.trans hm0))
  subst ef
  exact run_fn F (hr.mono hk) b .nil pass0 I1 r q
end
abbrev sLaw : Stmt := top 56
theorem scLaw : FnScope ["_law_script", "_law_box_here", "_law_world_here", "_law_cluster", "_law_way", "_law_start_here", "_law_steps", "_law_logs", "_law_closed_here", "_law_left", "_law_moments", "_law_at", "_law_last", "_law_least", "_law_settled", "_law_log"] ["_law_script"] (defScope sLaw) := ⟨rfl, rfl, rfl, by decide +kernel, rfl, by decide +kernel, by decide +kernel⟩
def spLaw (K : PySem.W.Frag) (P1 P2 : Addr) : Sp := fun vs H Q _ => ∃ (a : Addr) (l : List Int), vs = [.ref a] ∧ SqL K H a (l.map V.int) ∧ H P1 = some (.tbl #[]) ∧ H P2 = some (.tbl #[]) ∧ ∀ H', Q (.bl true) H'
abbrev mkE (P1 P2 : Addr) (i : Addr × Addr) : W4 := ⟨i.1, i.2, P1, P2⟩
/-- all that the law calls -/
structure Calls (P : Program) (w : World) (K : PySem.W.Frag) (mg : Str → Option Value) (base : Heap) (CC CN CI P1 P2 : Addr) : Prop where
  box : Cal P w K mg base CX0 1 "_law_box" (spBox K)
  world : ∀ i, Cal P w K mg base CX0 3 "_law_world" (spWorld (mkE P1 P2 i))
  net : ∀ i, Cal P w K mg base CX0 5 "_law_net" (spNetL (mkE P1 P2 i) CN)
  take : ∀ i, Cal P w K mg base CX0 1 "_law_take" (spTake (mkE P1 P2 i))
  start : ∀ i, Cal P w K mg base CX0 3 "_law_start" (spStart (mkE P1 P2 i))
  run : ∀ i, Cal P w K mg base CX0 3 "_law_run" (spRun (mkE P1 P2 i))
  closed : Cal P w K mg base CX0 2 "_law_closed" spClosed
  mis : Cal P w K mg base CX0 1 "_law_missing" spMissing
  drawn : ∀ i, Cal P w K mg base CX0 3 "_law_drawn_pulls" (spDrawn (mkE P1 P2 i))
  counts : ∀ i, Cal P w K mg base CX0 6 "_law_counts_hold" (spCounts (mkE P1 P2 i) CC CN)
  holds : ∀ i, Cal P w K mg base CX0 7 "_law_settle_holds" (spHolds (mkE P1 P2 i) CC CN)
  refused : ∀ i, Cal P w K mg base CX0 8 "_law_refused" (spRefused (mkE P1 P2 i) CC CN)
  least : Cal P w K mg base CX0 3 "_law_least_pulls" spLeast
  copy : Cal P w K mg base CX0 1 "_law_copy" spCopy
  alike : ∀ n, Cal P w K mg base CX0 (n + 1) "_law_alike" (spAlike n)
  left : Cal P w K mg base (L2.CX P w) 5 "pulls_left" (spAsk CC CN CI P1 (ansLeft P1))
  settle : Cal P w K mg base (L2.CX P w) 5 "settle" (spAsk CC CN CI P1 (ansSettle P1))
  slogs : Cal P w K mg base (L2.CX P w) 5 "settled_logs" (spAsk CC CN CI P1 (ansLogs P1))
  cl : MkN P w K mg base 1 CC (spCl CC CN)
abbrev Nlaw : List Str := ["_law_script", "_law_box_here", "_law_world_here", "_law_cluster", "_law_way", "_law_start_here", "_law_steps", "_law_logs", "_law_closed_here", "_law_left", "_law_moments", "_law_at", "_law_last", "_law_least", "_law_settled", "_law_log"]
theorem sorted_eq {n sz : Nat} {links : Links} {L C : Logs} {r : Nat} {ys : List Int} (W : OkW n sz links) (ok : okLogs n sz C) (hs : pullsOf links C = []) (hc : closedL n sz links C = closedL n sz links L) (hr : r < n) (hp : ys.Perm (lg C r)) (ho : ys.Pairwise (· ≤ ·)) : ys = closed1 sz links L r := by
  rw [sorted_row W ok hs hp ho]
  have h1 : (closedL n sz links C)[r]? = (closedL n sz links L)[r]? := by rw [hc]
  unfold closedL at h1
  rw [List.getElem?_map, List.getElem?_map, List.getElem?_range hr] at h1
  exact Option.some.inj h1
theorem row_step {H0 H' : Hp} {D r : Addr} {rs : List Addr} {i sz : Nat} {links : Links} {L : Logs} (lr : LogsR (fun b => H0 b = none ∧ b ≠ D) H' rs ((List.range i).map (closed1 sz links L))) (eD : H' D = some (.lst (rs.map V.ref))) (hr0 : H' r = none) (hD : H0 D = none) (s8 : Same H0 H') (hrl : rs.length = i) (hi : i ≤ 100) :
    ∃ acc, upd H' r (.lst ((closed1 sz links L i).map V.int)) D = some (.lst acc) ∧ acc.length < sizeLine ∧ Same H0 (upd (upd H' r (.lst ((closed1 sz links L i).map V.int))) D (.lst (acc ++ [.ref r]))) ∧
      ∃ rs, upd (upd H' r (.lst ((closed1 sz links L i).map V.int))) D (.lst (acc ++ [.ref r])) D = some (.lst (rs.map V.ref)) ∧ LogsR (fun b => H0 b = none ∧ b ≠ D) (upd (upd H' r (.lst ((closed1 sz links L i).map V.int))) D (.lst (acc ++ [.ref r]))) rs ((List.range (i + 1)).map (closed1 sz links L)) := by
  have hrD : r ≠ D := fun z => by rw [z, eD] at hr0; cases hr0
  have s9 : Same H' (upd H' r (.lst ((closed1 sz links L i).map V.int))) := same_upd hr0
  have e9 : upd H' r (.lst ((closed1 sz links L i).map V.int)) r = some (.lst ((closed1 sz links L i).map V.int)) := upd_same
  have lr9 := lr.same s9
  have eD9 := s9 _ _ eD
  refine ⟨_, eD9, small1000 (by rw [List.length_map, hrl]; omega), fun b o eb => ?_, rs ++ [r], by rw [upd_same, List.map_append]; rfl, ?_⟩
  · rw [upd_ne (ne_of_none eb hD)]
    exact s9 _ _ (s8 _ _ eb)
  · rw [List.range_succ, List.map_append]
    exact (lr9.kp (E := fun b => b = D) (kp_upd (.inl rfl)) fun b hb => hb.2).snoc ⟨⟨s8.free hr0, hrD⟩, by rw [upd_ne hrD]; exact e9⟩
section
variable {P : Program} {w : World} {K : PySem.W.Frag} {mg : Str → Option Value} {base : Heap} {CC CN CI P1 P2 : Addr}
theorem ok_law {f : Addr} {fd : FuncData} (F : FnT K "law" sLaw f fd) (B : NB mg) (T : TxM K mg CC CN) (C : Calls P w K mg base CC CN CI P1 P2) (hne : P1 ≠ P2) : FnOk P w K mg base CX0 9 f fd ["_law_script"] (spLaw K P1 P2) := by
  refine F.ok scLaw (fun vs H Q E h => ?_) (fun cdv A outer s H vs Q E hr h => ?_)
  · obtain ⟨a, l, rfl, _⟩ := h
    rfl
  · obtain ⟨a, l, rfl, hA, hP1, hP2, q⟩ := h
    obtain ⟨fC, fdC, psC, MC, FC, bC⟩ := C.cl.ex
    refine ⟨_, PSs.nox (pss_cons (ps_set (i := 1) scLaw.nd rfl (Or.inl rfl) (pe_c C.box hr (by decide) (by rfl) (pa_cons (pv 0) pa_nil)))
      (pss_cons (ps_set (i := 2) scLaw.nd rfl (Or.inl rfl) (pe_cU C.world (0, 0) hr (by decide) (by rfl) (pa_cons (pv 1) pa_nil)))
      (pss_cons (ps_set (i := 3) scLaw.nd rfl (Or.inl rfl) (pe_make MC FC (hr.mono (by decide)) (by rfl) T.mC bC .nil pass0 (pa_cons (pe_cU C.net (0, 0) hr (by decide) (by rfl) (pa_cons (pv 1) (pa_cons (pv 2) pa_nil)))
        (pa_cons (pe_callTy (T := "list") call_list_of (by rfl) B.lst (by decide +kernel) (pa_cons (pe_ix ix_tup (pv 2) pe_int (fun _ _ => rfl)) pa_nil)) pa_nil))))
      (pss_cons (ps_set (i := 4) scLaw.nd rfl (Or.inl rfl) (pe_ix ix_list (pe_lst (pa_cons pe_str (pa_cons pe_str pa_nil))) (pe_cU C.take (0, 0) hr (by decide) (by rfl) (pa_cons (pv 1) (pa_cons pe_int pa_nil))) (fun _ _ => rfl)))
      (pss_cons (ps_set (i := 5) scLaw.nd rfl (Or.inl rfl) (pe_cU C.start (0, 0) hr (by decide) (by rfl) (pa_cons (pv 1) (pa_cons (pv 2) pa_nil))))
      (pss_cons (ps_set (i := 6) scLaw.nd rfl (Or.inl rfl) (pe_cU C.take (0, 0) hr (by decide) (by rfl) (pa_cons (pv 1) (pa_cons (pe_callB (call_min2 rfl) (by rfl) B.mn (by decide +kernel) (pa_cons pe_int (pa_cons (pe_op op_add pe_int (pe_op op_mul (pe_ix ix_tup (pv 2) pe_int (fun _ _ => rfl)) (pe_callB call_len_seq (by rfl) B.len PySem.boot_len (pa_cons (pe_ix ix_tup (pv 2) pe_int (fun _ _ => rfl)) pa_nil)))) pa_nil))) pa_nil))))
      (pss_cons (ps_set (i := 7) scLaw.nd rfl (Or.inl rfl) (pe_ix ix_tup (pe_cU C.run (0, 0) hr (by decide) (by rfl) (pa_cons (pv 1) (pa_cons (pv 2) (pa_cons (pv 5) (pa_cons (pv 4) (pa_cons (pv 6) pa_nil)))))) pe_int (fun _ _ => rfl)))
      (pss_cons (ps_set (i := 8) scLaw.nd rfl (Or.inl rfl) (pe_c C.closed hr (by decide) (by rfl) (pa_cons (pv 2) (pa_cons (pv 7) pa_nil))))
      (pss_cons (ps_set (i := 9) scLaw.nd rfl (Or.inl rfl) (pe_c C.mis hr (by decide) (by rfl) (pa_cons (pv 8) (pa_cons (pv 7) pa_nil))))
      (pss_cons (ps_set (i := 10) scLaw.nd rfl (Or.inl rfl) (pe_cU C.drawn (0, 0) hr (by decide) (by rfl) (pa_cons (pv 1) (pa_cons (pv 2) (pa_cons (pv 7) pa_nil)))))
      (pss_cons (ps_if (PW.pt (pw_or (pt_not (pt_val (pe_cU C.counts (0, 0) hr (by decide) (by rfl) (pa_cons (pv 3) (pa_cons (pv 7) (pa_cons (pv 9) pa_nil)))))) (pw_or1 (pt_not (pt_val (pe_cU C.holds (0, 0) hr (by decide) (by rfl) (pa_cons (pv 3) (pa_cons (pv 2) (pa_cons (pv 7) (pa_cons (pv 8) pa_nil)))))))))) (pss_one (ps_ret pe_bl)) pss_nil)
      (pss_cons (ps_if (pt_not (pt_val (pe_c (C.alike 1) hr (by decide) (by rfl) (pa_cons (pe_cN C.left hr (by decide) (by rfl) (pa_cons (pv 3) (pa_cons (pe_c C.copy hr (by decide) (by rfl) (pa_cons (pv 7) pa_nil)) pa_nil))) (pa_cons (pe_op op_sub (pe_callB call_len_seq (by rfl) B.len PySem.boot_len (pa_cons (pv 10) pa_nil)) pe_int) pa_nil))))) (pss_one (ps_ret pe_bl)) pss_nil)
      (pss_cons (ps_set (i := 11) scLaw.nd rfl (Or.inl rfl) (pe_cU C.take (0, 0) hr (by decide) (by rfl) (pa_cons (pv 1) (pa_cons (pe_callB call_len_seq (by rfl) B.len PySem.boot_len (pa_cons (pv 10) pa_nil)) pa_nil))))
      (pss_cons (ps_if (pt_not (pt_val (pe_cU C.counts (0, 0) hr (by decide) (by rfl) (pa_cons (pv 3) (pa_cons (pe_ix ix_list (pv 10) (pv 11) (fun _ _ => rfl)) (pa_cons (pe_op op_sub (pv 9) (pv 11)) pa_nil)))))) (pss_one (ps_ret pe_bl)) pss_nil)
      (pss_cons (ps_if (pt_not (pt_val (pe_cU C.holds (0, 0) hr (by decide) (by rfl) (pa_cons (pv 3) (pa_cons (pv 2) (pa_cons (pe_ix ix_list (pv 10) (pv 11) (fun _ _ => rfl)) (pa_cons (pv 8) pa_nil))))))) (pss_one (ps_ret pe_bl)) pss_nil)
      (pss_cons (ps_set (i := 12) scLaw.nd rfl (Or.inl rfl) (pe_ix ix_list (pv 10) (pe_un un_neg pe_int) (fun _ _ => rfl)))
      (pss_cons (ps_if (PW.pt (pw_or (pt_not (pt_val (pe_cU C.counts (0, 0) hr (by decide) (by rfl) (pa_cons (pv 3) (pa_cons (pv 12) (pa_cons pe_int pa_nil)))))) (pw_or1 (pt_not (pt_val (pe_cU C.holds (0, 0) hr (by decide) (by rfl) (pa_cons (pv 3) (pa_cons (pv 2) (pa_cons (pv 12) (pa_cons (pv 8) pa_nil)))))))))) (pss_one (ps_ret pe_bl)) pss_nil)
      (pss_cons (ps_if (pt_not (pt_val (pe_cU C.refused (0, 0) hr (by decide) (by rfl) (pa_cons (pv 1) (pa_cons (pv 3) (pa_cons (pv 2) (pa_cons (pv 7) pa_nil))))))) (pss_one (ps_ret pe_bl)) pss_nil)
      (pss_cons (ps_set (i := 13) scLaw.nd rfl (Or.inl rfl) (pe_c C.least hr (by decide) (by rfl) (pa_cons (pv 2) (pa_cons (pv 7) pa_nil))))
      (pss_cons (ps_set (i := 14) scLaw.nd rfl (Or.inl rfl) (pe_cN C.slogs hr (by decide) (by rfl) (pa_cons (pv 3) (pa_cons (pe_c C.copy hr (by decide) (by rfl) (pa_cons (pv 7) pa_nil)) pa_nil))))
      (pss_cons (ps_if (PW.pt (pw_or (pt_not (pt_val (pe_c (C.alike 4) hr (by decide) (by rfl) (pa_cons (pe_cN C.settle hr (by decide) (by rfl) (pa_cons (pv 3) (pa_cons (pe_c C.copy hr (by decide) (by rfl) (pa_cons (pv 7) pa_nil)) pa_nil))) (pa_cons (pe_ix ix_tup (pv 13) pe_int (fun _ _ => rfl)) pa_nil)))))
          (pw_or1 (pt_not (pt_val (pe_c (C.alike 4) hr (by decide) (by rfl) (pa_cons (pv 14) (pa_cons (pe_ix ix_tup (pv 13) pe_int (fun _ _ => rfl)) pa_nil)))))))) (pss_one (ps_ret pe_bl)) pss_nil)
      (pss_one (ps_ret (pe_c (C.alike 4) hr (by decide) (by rfl) (pa_cons (pe_lc (own := [("_law_log", 15)]) (g := gName 15) (tt := tYes) (te := tCB (rSortedI K) (tCons (tVar 15) tNil)) rfl scLaw.nd (pi_list (pv 14)) (blkOk_by (own := [("_law_log", 15)]) (N := Nlaw) (sc := defScope sLaw) (by decide +kernel))
            (fun _ _ _ _ _ => pg_name (i := 15) scLaw.nd rfl (Or.inl rfl)) (fun _ _ _ _ _ => pts_nil) (fun _ _ _ _ _ => pe_callB cr_sortedI (by rfl) B.srt (by decide +kernel) (pa_cons (pv 15) pa_nil)))
          (pa_cons (pe_lc (own := [("_law_log", 15)]) (g := gName 15) (tt := tYes) (te := tCB (rSortedI K) (tCons (tVar 15) tNil)) rfl scLaw.nd (pi_list (pv 12)) (blkOk_by (own := [("_law_log", 15)]) (N := Nlaw) (sc := defScope sLaw) (by decide +kernel))
            (fun _ _ _ _ _ => pg_name (i := 15) scLaw.nd rfl (Or.inl rfl)) (fun _ _ _ _ _ => pts_nil) (fun _ _ _ _ _ => pe_callB cr_sortedI (by rfl) B.srt (by decide +kernel) (pa_cons (pv 15) pa_nil))) pa_nil)))))))))))))))))))))))))), ?_⟩
    rw [show L2.start ["_law_script", "_law_box_here", "_law_world_here", "_law_cluster", "_law_way", "_law_start_here", "_law_steps", "_law_logs", "_law_closed_here", "_law_left", "_law_moments", "_law_at", "_law_last", "_law_least", "_law_settled", "_law_log"] [V.ref a] = [some (V.ref a), none, none, none, none, none, none, none, none, none, none, none, none, none, none, none] from rfl]
    refine ⟨_, rfl, a, l, rfl, hA, fun H1 bx gx g t0 c0 s1 hbx hgx eb eg => ?_⟩
    simp only [gName, List.set_cons_succ, List.set_cons_zero]
    have hS : SA (mkE P1 P2 (bx, gx)) H1 := ⟨⟨g, t0, c0, eb, eg⟩, ⟨#[], s1 _ _ hP1, True.intro⟩, LamX.TabS.nil (s1 _ _ hP2), hne⟩
    clear eb eg hbx hgx s1 hP1 hP2 hA
    refine ⟨_, rfl, (bx, gx), rfl, hS, fun H2 wa la ha ts n sz links homes k2 hW => ?_⟩
    simp only [gName, List.set_cons_succ, List.set_cons_zero]
    have hS := k2.2
    clear k2
    have W := hW.w
    have n1 := W.n1
    have n24 := W.n24
    have z60 := W.z60
    have l64 := hW.l64
    have hnz := nsz_le W
    refine ⟨_, rfl, _, rfl, (bx, gx), wa, la, ha, ts, n, sz, links, homes, rfl, hS, hW, fun H3 na nts k3 hN => ?_⟩
    have hS := k3.2
    have hW := hW.k4 k3
    clear k3
    refine ⟨_, rfl, wa, _, _, _, rfl, rfl, SqT.of hW.at_, atI_nat (j := 2) rfl, ha, _, rfl, .inl (SqL.of hW.ho.2), fun hl hhl => ?_⟩
    have s4 : Same H3 (upd H3 hl (.lst (homes.map V.int))) := same_upd hhl
    have eh : upd H3 hl (.lst (homes.map V.int)) hl = some (.lst (homes.map V.int)) := upd_same
    have k4 := k4_same hS s4
    have hN := hN.same s4
    have hS := k4.2
    have hW := hW.k4 k4
    generalize upd H3 hl (.lst (homes.map V.int)) = H4 at eh hN hW hS ⊢
    clear k4 s4
    intro x dx hx hdx hnx
    have s5 : Same H4 (upd (upd H4 dx (.own x)) x (.ins CC dx [])) := fun b o eb => by
      rw [upd_ne (ne_of_none eb hx), upd_ne (ne_of_none eb hdx)]
      exact eb
    refine ⟨x, na, hl, dx, nts, n, links, homes, fun b => (mkE P1 P2 (bx, gx)).N b ∧ b ≠ x, rfl, upd_same, (hN.live.imp fun b hb => ⟨hb.1, fun z => hb.2 (by rw [z]; exact hx)⟩).same s5, fun b hb => hb.2, ⟨True.intro, s5 _ _ eh⟩, by rw [hW.hl]; exact z60, hW.hb, fun H5 k5 hC => ⟨rfl, ?_⟩⟩
    have nx := hS.new hx
    have k6 : K4 (mkE P1 P2 (bx, gx)) H4 H5 := (k4_same hS s5).kp1 k5 (fun b z => by rw [z]; exact hx) (fun b z => by rw [z]; exact nx) (fun b q z => by rw [z, upd_same]; unfold LamX.CodeO; intro z; cases z)
    have hC : ClA CC CN (mkE P1 P2 (bx, gx)).N H5 x nts n sz links := by
      rw [← hW.hl]
      exact hC.imp fun b hb => hb.elim (fun z => by rw [z]; exact nx) fun z => z.1
    have hS := k6.2
    have hW := hW.k4 k6
    clear k6 k5 s5 hN eh hx hdx hnx nx hhl
    simp only [gName, List.set_cons_succ, List.set_cons_zero]
    -- the way
    refine ⟨by show 2 ≤ sizeLine; decide, fun wl hwl => ?_⟩
    have s6 : Same H5 (upd H5 wl (.lst [.str "first", .str "any"])) := same_upd hwl
    have ew : upd H5 wl (.lst [.str "first", .str "any"]) wl = some (.lst [.str "first", .str "any"]) := upd_same
    refine ⟨_, rfl, (bx, gx), 2, rfl, hS.same s6, by decide, by decide, fun d0 H6 hd0 k7 => ?_⟩
    obtain ⟨wy, hwy⟩ : ∃ wy : Str, atI [V.str "first", .str "any"] ((d0 : Nat) : Int) = some (.str wy) := by
      match d0, hd0 with
      | 0, _ => exact ⟨"first", atI_nat (j := 0) rfl⟩
      | 1, _ => exact ⟨"any", atI_nat (j := 1) rfl⟩
    refine ⟨wl, _, _, _, rfl, rfl, SqL.of (k7.1.keep _ _ ew (hS.new hwl)), hwy, ?_⟩
    have k8 := (k4_same hS s6).trans k7
    clear k7 ew s6 hwy
    have hS := k8.2
    have hW := hW.k4 k8
    have hC := hC.k4 k8
    clear k8 hwl
    simp only [gName, List.set_cons_succ, List.set_cons_zero]
    refine ⟨_, rfl, _, rfl, (bx, gx), wa, la, ha, ts, n, sz, links, homes, rfl, hS, hW, fun H7 a0 as0 L0 k9 lo0 ok0 => ?_⟩
    have hS := k9.2
    have hW := hW.k4 k9
    have hC := hC.k4 k9
    clear k9
    simp only [gName, List.set_cons_succ, List.set_cons_zero]
    -- the steps
    have em : (if (1 : Int) + ((n : Nat) : Int) * (((homes.map V.int).length : Nat) : Int) < 25 then (1 : Int) + ((n : Nat) : Int) * (((homes.map V.int).length : Nat) : Int) else 25) = (((if 1 + n * sz < 25 then 1 + n * sz else 25 : Nat)) : Int) := by
      rw [List.length_map, hW.hl, ← Int.natCast_mul]
      by_cases h : 1 + n * sz < 25
      · rw [if_pos h, if_pos (by omega)]; omega
      · rw [if_neg h, if_neg (by omega)]; rfl
    have hm : 1 ≤ (if 1 + n * sz < 25 then 1 + n * sz else 25) ∧ (if 1 + n * sz < 25 then 1 + n * sz else 25) ≤ 25 := by
      by_cases h : 1 + n * sz < 25
      · rw [if_pos h]; omega
      · rw [if_neg h]; omega
    refine ⟨_, rfl, _, rfl, wa, _, _, _, rfl, rfl, SqT.of hW.at_, atI_nat (j := 0) rfl, _, rfl, wa, _, _, _, rfl, rfl, SqT.of hW.at_, atI_nat (j := 2) rfl, ha, _, rfl, .inl (SqL.of hW.ho.2), _, _, rfl, rfl, .inl (by omega), _, _, rfl, rfl, ?_⟩
    refine ⟨_, _, rfl, (bx, gx), _, congrArg (fun z => [V.ref bx, V.int z]) em, hS, hm.1, by omega, fun st H8 hst k1 => ?_⟩
    simp only [gName, List.set_cons_succ, List.set_cons_zero]
    have hS := k1.2
    have hW := hW.k4 k1
    have hC := hC.k4 k1
    have lo0 := lo0.k4 k1
    clear k1 em
    refine ⟨_, rfl, _, rfl, _, rfl, _, rfl, _, rfl, (bx, gx), wa, la, ha, a0, ts, as0, n, sz, st, links, homes, L0, wy, rfl, hS, hW, lo0, ok0, by omega, fun H9 rt rtr np qs L k2 eT lo ok => ?_⟩
    refine ⟨rt, _, _, _, rfl, rfl, SqT.of eT, atI_nat (j := 1) rfl, ?_⟩
    have hS := k2.2
    have hW := hW.k4 k2
    have hC := hC.k4 k2
    clear k2 eT lo0 ok0 hm hst
    simp only [gName, List.set_cons_succ, List.set_cons_zero]
    obtain ⟨bl1, bl2⟩ := big_len n24 z60 ok
    have ll1 : L.length ≤ 1000 := by rw [ok.1]; omega
    have ll2 : ∀ l ∈ L, l.length ≤ 1000 := fun l hl => by have := row_len (ok.2 l hl); omega
    -- the closure
    refine ⟨_, rfl, _, rfl, wa, la, ha, np, ts, qs, n, sz, links, homes, L, rfl, hW.imp fun _ _ => True.intro, lo.imp fun _ _ => True.intro, ok, fun HA cl cs sA hcl => ?_⟩
    have kA := k4_same hS sA
    have hcl : LogsA (mkE P1 P2 (bx, gx)).N HA cl cs (closedL n sz links L) := hcl.imp fun b hb => hS.new hb
    have hS := kA.2
    have hW := hW.k4 kA
    have hC := hC.k4 kA
    have lo := lo.k4 kA
    clear kA sA
    simp only [gName, List.set_cons_succ, List.set_cons_zero]
    refine ⟨_, rfl, _, rfl, cl, np, cs, qs, _, L, rfl, hcl.imp fun _ _ => True.intro, lo.imp fun _ _ => True.intro, by rw [closed_len]; omega, ll1, fun HB sB => ?_⟩
    have kB := k4_same hS sB
    have hS := kB.2
    have hW := hW.k4 kB
    have hC := hC.k4 kB
    have lo := lo.k4 kB
    have hcl := hcl.k4 kB
    clear kB sB
    simp only [gName, List.set_cons_succ, List.set_cons_zero]
    refine ⟨_, rfl, _, rfl, _, rfl, (bx, gx), wa, la, ha, np, ts, qs, n, sz, links, homes, L, rfl, hS, hW, lo, ok, fun HC mp ms Ms Lz kC mo hMo h0 hnil => ?_⟩
    have hS := kC.2
    have hW := hW.k4 kC
    have hC := hC.k4 kC
    have lo := lo.k4 kC
    have hcl := hcl.k4 kC
    clear kC
    simp only [gName, List.set_cons_succ, List.set_cons_zero]
    have momok : ∀ (i : Nat) (M : Logs), (Ms ++ [Lz])[i]? = some M → okLogs n sz M ∧ sumlen M = sumlen L + i ∧ closedL n sz links M = closedL n sz links L := fun i M hi => hMo.ok W L h0 ok i M hi
    obtain ⟨okz, hsz, hclz⟩ := momok Ms.length Lz (by rw [List.getElem?_append_right (Nat.le_refl _), Nat.sub_self]; rfl)
    have hez := eq_of_settled W okz hnil
    rw [hclz] at hez
    have hMl : Ms.length ≤ 1440 := by have := sumlen_bound okz; omega
    -- before the first pull
    refine ⟨_, rfl, _, rfl, _, rfl, (bx, gx), x, np, nts, qs, n, sz, links, L, rfl, hS, hC, lo, W, ok, l64, fun HD kD => ⟨true, rfl, iteF ?_⟩⟩
    have hS := kD.2
    have hW := hW.k4 kD
    have hC := hC.k4 kD
    have lo := lo.k4 kD
    have hcl := hcl.k4 kD
    have mo := mo.k4 kD
    clear kD
    refine ⟨_, rfl, _, rfl, _, rfl, _, rfl, (bx, gx), x, wa, la, ha, np, cl, nts, ts, qs, cs, n, sz, links, homes, L, rfl, hS, hC, hW, lo, ok, hcl, fun HE kE => ⟨true, rfl, iteF ?_⟩⟩
    have hS := kE.2
    have hW := hW.k4 kE
    have hC := hC.k4 kE
    have lo := lo.k4 kE
    have hcl := hcl.k4 kE
    have mo := mo.k4 kE
    clear kE
    -- as many as drawn
    refine ⟨_, rfl, _, rfl, np, qs, L, rfl, lo.imp fun _ _ => True.intro, ll1, ll2, fun HF h1 q1 sF lF ndF => ?_⟩
    have kF := k4_same hS sF
    have lF : LogsA (mkE P1 P2 (bx, gx)).N HF h1 q1 L := lF.imp fun b hb => hS.new hb
    have hS := kF.2
    have hW := hW.k4 kF
    have hC := hC.k4 kF
    have lo := lo.k4 kF
    have hcl := hcl.k4 kF
    have mo := mo.k4 kF
    clear kF sF
    refine ⟨x, h1, nts, q1, n, sz, links, L, rfl, ask_of hC lF W ok l64 hS.t1, fun _ HG kG => ?_, ilE_ok ok⟩
    have kG := k4_k1 hS kG
    have hS := kG.2
    have hW := hW.k4 kG
    have hC := hC.k4 kG
    have lo := lo.k4 kG
    have hcl := hcl.k4 kG
    have mo := mo.k4 kG
    clear kG lF ndF
    have emo : ((ms.map V.ref).length : Int) - 1 = leftOf n sz links L := by
      rw [List.length_map, mo.len, List.length_append, List.length_singleton]
      unfold leftOf
      omega
    refine ⟨_, rfl, mp, _, rfl, .inl (SqL.of mo.at_), _, _, rfl, rfl, _, _, .int (leftOf n sz links L), rfl, .int 0 _, ?_, true, rfl, iteF ?_⟩
    · show Da HG 0 (.int (((ms.map V.ref).length : Int) - 1)) (.int (leftOf n sz links L))
      rw [emo]
      exact .int 0 _
    -- a drawn moment
    refine ⟨_, rfl, _, rfl, mp, _, rfl, .inl (SqL.of mo.at_), (bx, gx), (Ms ++ [Lz]).length, by rw [List.length_map, mo.len]; rfl, hS, by rw [List.length_append]; simp, by rw [List.length_append]; simp only [List.length_singleton]; omega, fun mi HH hmi kH => ?_⟩
    have hS := kH.2
    have hW := hW.k4 kH
    have hC := hC.k4 kH
    have lo := lo.k4 kH
    have hcl := hcl.k4 kH
    have mo := mo.k4 kH
    clear kH emo
    simp only [gName, List.set_cons_succ, List.set_cons_zero]
    obtain ⟨M, hM⟩ : ∃ M, (Ms ++ [Lz])[mi]? = some M := ⟨_, List.getElem?_eq_getElem hmi⟩
    obtain ⟨okM, hsM, hcM⟩ := momok mi M hM
    obtain ⟨mm, mq, hmm, lM⟩ := mo.get hM
    have eM : leftOf n sz links L - ((mi : Nat) : Int) = leftOf n sz links M := by
      unfold leftOf
      rw [hcM]
      omega
    refine ⟨_, rfl, _, rfl, _, rfl, mp, _, _, _, rfl, rfl, SqL.of mo.at_, atI_nat hmm, _, rfl, _, rfl, _, _, rfl, rfl, (bx, gx), x, mm, nts, mq, n, sz, links, M, congrArg (fun z => [V.ref x, V.ref mm, V.int z]) eM, hS, hC, lM, W, okM, l64, fun HI kI => ⟨true, rfl, iteF ?_⟩⟩
    have hS := kI.2
    have hW := hW.k4 kI
    have hC := hC.k4 kI
    have lo := lo.k4 kI
    have hcl := hcl.k4 kI
    have mo := mo.k4 kI
    have lM := lM.k4 kI
    clear kI
    refine ⟨_, rfl, _, rfl, _, rfl, _, rfl, mp, _, _, _, rfl, rfl, SqL.of mo.at_, atI_nat hmm, _, rfl, (bx, gx), x, wa, la, ha, mm, cl, nts, ts, mq, cs, n, sz, links, homes, M, rfl, hS, hC, hW, lM, okM, by rw [hcM]; exact hcl, fun HJ kJ => ⟨true, rfl, iteF ?_⟩⟩
    have hS := kJ.2
    have hW := hW.k4 kJ
    have hC := hC.k4 kJ
    have lo := lo.k4 kJ
    have hcl := hcl.k4 kJ
    have mo := mo.k4 kJ
    clear kJ lM eM
    -- after the last pull
    obtain ⟨ms1, mz, hms⟩ : ∃ ms1 mz, ms = ms1 ++ [mz] := by
      have hl := mo.len
      rw [List.length_append, List.length_singleton] at hl
      have hne : ms ≠ [] := fun z => by rw [z] at hl; simp at hl
      exact ⟨_, _, (List.dropLast_concat_getLast hne).symm⟩
    subst hms
    have hml := mo.len
    rw [List.length_append, List.length_append, List.length_singleton, List.length_singleton] at hml
    obtain ⟨zq, lZ⟩ := mo.row ms1.length mz Lz (by rw [List.getElem?_append_right (Nat.le_refl _), Nat.sub_self]; rfl) (by rw [show ms1.length = Ms.length by omega, List.getElem?_append_right (Nat.le_refl _), Nat.sub_self]; rfl)
    have emz := mo.at_
    rw [List.map_append] at emz
    have eZ : (0 : Int) = leftOf n sz links Lz := by
      unfold leftOf
      rw [hclz]
      omega
    refine ⟨_, rfl, _, rfl, mp, _, _, _, rfl, rfl, SqL.of emz, atI_last _ _, ?_⟩
    simp only [gName, List.set_cons_succ, List.set_cons_zero]
    refine ⟨_, rfl, _, rfl, (bx, gx), x, mz, nts, zq, n, sz, links, Lz, congrArg (fun z => [V.ref x, V.ref mz, V.int z]) eZ, hS, hC, lZ, W, okz, l64, fun HK kK => ⟨true, rfl, iteF ?_⟩⟩
    have hS := kK.2
    have hW := hW.k4 kK
    have hC := hC.k4 kK
    have lo := lo.k4 kK
    have hcl := hcl.k4 kK
    have lZ := lZ.k4 kK
    clear kK mo emz
    refine ⟨_, rfl, _, rfl, _, rfl, _, rfl, (bx, gx), x, wa, la, ha, mz, cl, nts, ts, zq, cs, n, sz, links, homes, Lz, rfl, hS, hC, hW, lZ, okz, by rw [hclz]; exact hcl, fun HL kL => ⟨true, rfl, iteF ?_⟩⟩
    have hS := kL.2
    have hW := hW.k4 kL
    have hC := hC.k4 kL
    have lo := lo.k4 kL
    have lZ := lZ.k4 kL
    clear kL hcl
    refine ⟨_, rfl, _, rfl, _, rfl, _, rfl, (bx, gx), x, wa, la, ha, np, nts, ts, qs, n, sz, links, homes, L, rfl, hS, hC, hW, lo, ok, fun HM kM => ⟨true, rfl, iteF ?_⟩⟩
    have hS := kM.2
    have hW := hW.k4 kM
    have hC := hC.k4 kM
    have lo := lo.k4 kM
    have lZ := lZ.k4 kM
    clear kM
    -- the first logs again
    refine ⟨_, rfl, _, rfl, wa, la, ha, np, ts, qs, n, sz, links, homes, L, rfl, hW.imp fun _ _ => True.intro, lo.imp fun _ _ => True.intro, ok, fun HN dt dp dn us2 qs2 tr C2 sN eT tT lT hrun hnil2 => ?_⟩
    have kN := k4_same hS sN
    have tT : TraceA (mkE P1 P2 (bx, gx)).N HN dp us2 tr := tT.imp fun b hb => hS.new hb
    have lT : LogsA (mkE P1 P2 (bx, gx)).N HN dn qs2 C2 := lT.imp fun b hb => hS.new hb
    have hS := kN.2
    have hW := hW.k4 kN
    have hC := hC.k4 kN
    have lo := lo.k4 kN
    have lZ := lZ.k4 kN
    have nT := hS.tupN eT
    clear kN sN
    simp only [gName, List.set_cons_succ, List.set_cons_zero]
    obtain ⟨okC, hsum, hclo⟩ := hrun.ok W ok
    have htl := lrun_len W ok hrun
    obtain ⟨bc1, bc2⟩ := big_len n24 z60 okC
    refine ⟨_, rfl, _, rfl, np, qs, L, rfl, lo.imp fun _ _ => True.intro, ll1, ll2, fun HO h2 q2 sO lO ndO => ?_⟩
    have kO := k4_same hS sO
    have lO : LogsA (mkE P1 P2 (bx, gx)).N HO h2 q2 L := lO.imp fun b hb => hS.new hb
    have eT := sO _ _ eT
    have hS := kO.2
    have hW := hW.k4 kO
    have hC := hC.k4 kO
    have lo := lo.k4 kO
    have lZ := lZ.k4 kO
    have tT := tT.k4 kO
    have lT := lT.k4 kO
    clear kO sO
    refine ⟨x, h2, nts, q2, n, sz, links, L, rfl, ask_of hC lO W ok l64 hS.t1, fun _ HP cp qs7 tr7 C7 kP lo7 nd7 hrun7 hnil7 => ?_, ilE_ok ok⟩
    obtain ⟨_, eC7⟩ := hrun7.det hrun hnil7 hnil2
    subst eC7
    have kP := k4_k1 hS kP
    have lo7 : LogsA (mkE P1 P2 (bx, gx)).N HP cp qs7 C7 := lo7.imp fun b hb => hS.new hb
    have eT := kP.1.keep _ _ eT nT
    have hS := kP.2
    have hW := hW.k4 kP
    have hC := hC.k4 kP
    have lo := lo.k4 kP
    have lZ := lZ.k4 kP
    have tT := tT.k4 kP
    have lT := lT.k4 kP
    clear kP lO ndO
    simp only [gName, List.set_cons_succ, List.set_cons_zero]
    refine ⟨_, rfl, _, rfl, np, qs, L, rfl, lo.imp fun _ _ => True.intro, ll1, ll2, fun HQ h3 q3 sQ lQ ndQ => ?_⟩
    have kQ := k4_same hS sQ
    have lQ : LogsA (mkE P1 P2 (bx, gx)).N HQ h3 q3 L := lQ.imp fun b hb => hS.new hb
    have eT := sQ _ _ eT
    have hS := kQ.2
    have hW := hW.k4 kQ
    have hC := hC.k4 kQ
    have lo := lo.k4 kQ
    have lZ := lZ.k4 kQ
    have tT := tT.k4 kQ
    have lT := lT.k4 kQ
    have lo7 := lo7.k4 kQ
    clear kQ sQ
    refine ⟨x, h3, nts, q3, n, sz, links, L, rfl, ask_of hC lQ W ok l64 hS.t1, fun _ HR tp us3 tr3 C3 kR tA3 hrun3 hnil3 => ?_, ilE_ok ok⟩
    obtain ⟨etr, _⟩ := hrun3.det hrun hnil3 hnil2
    subst etr
    have kR := k4_k1 hS kR
    have eT := kR.1.keep _ _ eT nT
    have hS := kR.2
    have lZ := lZ.k4 kR
    have tT := tT.k4 kR
    have lT := lT.k4 kR
    have lo7 := lo7.k4 kR
    clear kR lQ ndQ
    refine ⟨_, rfl, dt, _, _, _, rfl, rfl, SqT.of eT, atI_nat (j := 0) rfl, _, _, _, rfl, tA3.da (by omega), tT.da (by omega), true, rfl, iteF ?_⟩
    refine ⟨_, rfl, _, rfl, dt, _, _, _, rfl, rfl, SqT.of eT, atI_nat (j := 1) rfl, _, _, _, rfl, lo7.da bc1 bc2, lT.da bc1 bc2, true, rfl, iteF ?_⟩
    clear tA3 tT lT eT nT
    have bcl : ∀ l ∈ closedL n sz links L, l.length ≤ 100000 := fun l hl => by have := closed_row_len n sz links L l hl; omega
    refine ⟨_, rfl, cp, rfl, ⟨_, SqL.of lo7.at_⟩, fun D hD => ?_⟩
    refine lc_list (K := K) (a := cp) (xs := qs7.map V.ref) (fun i H' => Same HR H' ∧ ∃ rs, H' D = some (.lst (rs.map V.ref)) ∧ LogsR (fun b => HR b = none ∧ b ≠ D) H' rs ((List.range i).map (closed1 sz links L))) ⟨same_upd hD, [], upd_same, ⟨rfl, fun i p l h => (by simp at h)⟩⟩ (fun i H' _ h => SqL.of (h.1 _ _ lo7.at_)) ?_ ?_
    · rintro i xv H' hxv ⟨s8, rs, eD, lr⟩
      obtain ⟨p, rfl, hp⟩ := refs_get hxv
      have hi : i < C7.length := by rw [← lo7.len]; exact (List.getElem?_eq_some_iff.mp hp).1
      have hrow := lo7.row i p (lg C7 i) hp (by unfold lg; rw [List.getD_eq_getElem?_getD, List.getElem?_eq_getElem hi]; rfl)
      refine ⟨rfl, ?_⟩
      refine ⟨_, rfl, p, _, rfl, SqL.of (s8 _ _ hrow.2), fun ys r hperm hord hr0 => ?_⟩
      have eys := sorted_eq W okC hnil2 hclo (by rw [← okC.1]; exact hi) hperm hord
      subst eys
      exact row_step lr eD hr0 hD s8 (by rw [lr.len, List.length_map, List.length_range]) (by have := okC.1; omega)
    rintro HS ⟨s8, rs, eD, lr⟩
    rw [List.length_map, lo7.len, okC.1] at lr
    have dA : LogsA ANY HS D rs (closedL n sz links L) := ⟨True.intro, eD, lr.len, fun i p l e1 e2 => ⟨True.intro, (lr.row i p l e1 e2).2⟩⟩
    have lZ := lZ.same s8
    refine ⟨_, rfl, mz, rfl, ⟨_, SqL.of lZ.at_⟩, fun D2 hD2 => ?_⟩
    refine lc_list (K := K) (a := mz) (xs := zq.map V.ref) (fun i H' => Same HS H' ∧ ∃ rs, H' D2 = some (.lst (rs.map V.ref)) ∧ LogsR (fun b => HS b = none ∧ b ≠ D2) H' rs ((List.range i).map (closed1 sz links L))) ⟨same_upd hD2, [], upd_same, ⟨rfl, fun i p l h => (by simp at h)⟩⟩ (fun i H' _ h => SqL.of (h.1 _ _ lZ.at_)) ?_ ?_
    · rintro i xv H' hxv ⟨s9, rs2, eD2, lr2⟩
      obtain ⟨p, rfl, hp⟩ := refs_get hxv
      have hi : i < Lz.length := by rw [← lZ.len]; exact (List.getElem?_eq_some_iff.mp hp).1
      have hrow := lZ.row i p (lg Lz i) hp (by unfold lg; rw [List.getD_eq_getElem?_getD, List.getElem?_eq_getElem hi]; rfl)
      refine ⟨rfl, ?_⟩
      refine ⟨_, rfl, p, _, rfl, SqL.of (s9 _ _ hrow.2), fun ys r hperm hord hr0 => ?_⟩
      have eys := sorted_eq W okz hnil hclz (by rw [← okz.1]; exact hi) hperm hord
      subst eys
      exact row_step lr2 eD2 hr0 hD2 s9 (by rw [lr2.len, List.length_map, List.length_range]) (by have := okz.1; omega)
    rintro HT ⟨s9, rs2, eD2, lr2⟩
    rw [List.length_map, lZ.len, okz.1] at lr2
    have dB : LogsA ANY HT D2 rs2 (closedL n sz links L) := ⟨True.intro, eD2, lr2.len, fun i p l e1 e2 => ⟨True.intro, (lr2.row i p l e1 e2).2⟩⟩
    exact ⟨_, _, _, rfl, (dA.same s9).da (by rw [closed_len]; omega) bcl, dB.da (by rw [closed_len]; omega) bcl, q HT⟩
end
end K8

set_option maxHeartbeats 4000000
namespace K8
open PySem PySem.Spec PyProof.Rows L2 He
/-! ### the head: what is looked at -/
def dTop (x : Str) (i : Nat) : DefD := { at_ := (x, none), name := x, qual := x, params := defArgs (top i), body := defBody (top i), scope := defScope (top i) }
def dNet : DefD := { at_ := ("Net", some "__init__"), name := "__init__", qual := "Net.__init__", params := defArgs sNet, body := defBody sNet, scope := defScope sNet }
def dCl : DefD := { at_ := ("Cluster", some "__init__"), name := "__init__", qual := "Cluster.__init__", params := defArgs sCl, body := defBody sCl, scope := defScope sCl }
def fnL0 : List DefD := [dTop "copy_logs" 7, dTop "check_logs" 8, dTop "places_of" 9, dTop "_is_log" 10, dTop "spread" 12, dTop "offered" 15, dTop "is_settled" 17, dTop "_first_links" 18, dTop "settle_from" 19, dTop "settle" 20, dTop "settled_logs" 21, dTop "pulls_left" 22, dTop "_check_count" 25, dTop "_is_below" 26, dTop "_law_box" 30, dTop "_law_take" 31, dTop "_law_alike" 32, dTop "_law_copy" 33, dTop "_law_links" 34, dTop "_law_world" 35]
def fnL1 : List DefD := [dTop "_law_net" 36, dTop "_law_some" 37, dTop "_law_start" 38, dTop "_law_held" 39, dTop "_law_on_offer" 40, dTop "_law_actions" 41, dTop "_law_place" 42, dTop "_law_after" 43, dTop "_law_run" 44, dTop "_law_spoilt" 45, dTop "_law_pulls" 46, dTop "_law_reached_from" 47, dTop "_law_closed" 48, dTop "_law_missing" 49, dTop "_law_least_pulls" 50, dTop "_law_drawn_pulls" 51, dTop "_law_counts_hold" 52, dTop "_law_settle_holds" 53, dTop "_law_refusal" 54, dTop "_law_refused" 55]
def fnL2 : List DefD := [dTop "law" 56]
def fnL : List DefD := [dNet, dCl] ++ fnL0 ++ fnL1 ++ fnL2
def faA : List Fa := [.free "len", .free "set", .free "all", .free "list", .free "sorted", .free "enumerate", .free "range", .free "min", .free "isinstance", .free "int", .free "abs", .free "sum", .free "bool", .free "str", .free "tuple", .free "ValueError", .free "super"]
def faG0 : List Fa := [.glo "copy_logs", .glo "check_logs", .glo "places_of", .glo "_is_log", .glo "spread", .glo "offered", .glo "is_settled", .glo "_first_links", .glo "settle_from", .glo "settle", .glo "settled_logs", .glo "pulls_left", .glo "_check_count", .glo "_is_below", .glo "_law_box", .glo "_law_take", .glo "_law_alike", .glo "_law_copy", .glo "_law_links", .glo "_law_world"]
def faG1 : List Fa := [.glo "_law_net", .glo "_law_some", .glo "_law_start", .glo "_law_held", .glo "_law_on_offer", .glo "_law_actions", .glo "_law_place", .glo "_law_after", .glo "_law_run", .glo "_law_spoilt", .glo "_law_pulls", .glo "_law_reached_from", .glo "_law_closed", .glo "_law_missing", .glo "_law_least_pulls", .glo "_law_drawn_pulls", .glo "_law_counts_hold", .glo "_law_settle_holds", .glo "_law_refusal", .glo "_law_refused"]
def faG2 : List Fa := [.glo "law"]
def faC : List Fa := [.glo "Net", .glo "Cluster", .glo "InvalidLogs", .glo "StoreError", .str "FIRST" "first", .cls "Net", .cls "Cluster", .noat "Net" "count", .noat "Net" "_linked", .noat "Net" "_links", .noat "Cluster" "net", .noat "Cluster" "size", .noat "Cluster" "_homes", .mkr "Net", .mkr "Cluster", .exm "InvalidLogs" "StoreError" true]
def faL : List Fa := faA ++ faC ++ faG0 ++ faG1 ++ faG2
def tfL : List Defn := [("_is_log", none), ("_law_refused", none)]
/-! the property links, its getter -/
def lkP (K : PySem.W.Frag) : Addr := ma K (ga K "Net") "links"
def lkG (K : PySem.W.Frag) : Addr := match PySem.W.recIn K (lkP K) "property" with
  | some (.ref g :: _) => g
  | _ => 0
def fnA (K : PySem.W.Frag) (a : Addr) : FnW := match K.lookup a with
  | some ⟨_, _, .func fd, _⟩ => some (fd.name, fd.qualname, fd.params, fd.body, fd.scope, fd.globals, fd.closure, fd.builtins)
  | _ => none
def okA (K : PySem.W.Frag) (a : Addr) (q : Str) : Bool := PySem.W.keepIn K (.ref a) && (match K.lookup a with
  | some ⟨_, _, .func fd, _⟩ => PySem.W.codeIn K fd.code q && (dflB K fd.defaults [] && kwdB K fd.kwdefaults [])
  | _ => false)
theorem funA {K : PySem.W.Frag} {a : Addr} {x q : Str} {st : Stmt} (e : fnA K a = some (x, q, defArgs st, .stmts (defBody st), defScope st, mainGlobals, [], builtinsNs)) (c : okA K a q = true) : ∃ fd, FnM K x q st a fd := by
  obtain ⟨kp, c2⟩ := ba c
  unfold fnA at e
  cases h : K.lookup a with
  | none =>
    rw [h] at c2
    cases c2
  | some o =>
    obtain ⟨oc, od, dt, osl⟩ := o
    rw [h] at c2 e
    cases dt with
    | func fd =>
      obtain ⟨n1, n2, n3, n4, n5, n6, n7, n8, n9, n10, n11, n12, n13, n14, n15⟩ := fd
      have e2 : (some (n1, n2, n3, n4, n5, n6, n7, n15) : FnW) = some (x, q, defArgs st, .stmts (defBody st), defScope st, mainGlobals, [], builtinsNs) := e
      simp only [Option.some.injEq, Prod.mk.injEq] at e2
      obtain ⟨h1, h2, h3, h4, h5, h6, h7, h8⟩ := e2
      subst h1 h2 h3 h4 h5 h6 h7 h8
      have c3 : (PySem.W.codeIn K n13 _ && (dflB K n8 [] && kwdB K n9 [])) = true := c2
      obtain ⟨k1, k2⟩ := ba c3
      obtain ⟨k3, k4⟩ := ba k2
      exact ⟨_, ⟨oc, od, n8, n9, n10, n11, n12, n13, n14, osl, rfl, h, k1, dflB_ok k3, kwdB_ok k4⟩, kp⟩
    | _ => cases c2
/-! InvalidLogs.__init__ -/
abbrev sIl : Stmt := inClass (top 5) 0
def ilI (K : PySem.W.Frag) : Addr := ma K (ga K "InvalidLogs") "__init__"
abbrev FnI : Type := Option (Str × Str × Arguments × FuncBody × Scope × Addr × List Str × Addr)
def fnI (K : PySem.W.Frag) : FnI := match K.lookup (ilI K) with
  | some ⟨_, _, .func fd, _⟩ => some (fd.name, fd.qualname, fd.params, fd.body, fd.scope, fd.globals, fd.closure.map (·.1), fd.builtins)
  | _ => none
def okI (file0 : Str) (K : PySem.W.Frag) : Bool := match K.lookup (ilI K) with
  | some ⟨_, _, .func fd, _⟩ => (match fd.closure with
      | [(_, cc)] => (match K.lookup cc with
        | some ⟨_, _, .cell (some v), _⟩ => decide (v = .ref (ga K "InvalidLogs"))
        | _ => false)
      | _ => false) && ((match fd.defaults with
      | .none => true
      | _ => false) && ((match fd.kwdefaults with
      | .none => true
      | _ => false) && (PySem.W.codeIn K fd.code "InvalidLogs.__init__" && (match fd.code with
      | .ref cda => (match K.lookup cda with
        | some ⟨_, _, .fields vs, _⟩ => (match (vs[2]? : Option Value) with
          | some (.str file _) => file0 == file
          | _ => false)
        | _ => false)
      | _ => false))))
  | _ => false
/-- the class object of InvalidLogs -/
def clsI (K : PySem.W.Frag) (C : Addr) : Bool := match K.lookup C with
  | some ⟨.type t, _, .cls cd, sl⟩ => (match cd.mro, sl.toList with
    | .ref C' :: bm, [_, _, _, _, some (.builtin n), _] => decide (t = "type") && (C' == C && (n == "ValueError.__new__" && (!cd.hasDel && (cd.hasDict && (PySem.HandSPX.refsVE bm && eqO (PySem.W.alongIn K "__init__" bm) (some (some (.builtin "ValueError.__init__"))))))))
    | _, _ => false)
  | _ => false
theorem clsI_ok {K : PySem.W.Frag} {C : Addr} (h : clsI K C = true) : ∃ nm q N bs bm sn sub ab col dd k0 k1 k2 k3 k5, K.lookup C = some (excClassObj nm q C N bs bm true sn sub ab col dd k0 k1 k2 k3 k5 "ValueError.__new__") ∧ PySem.HandSPX.refsVE bm = true ∧ PySem.W.alongIn K "__init__" bm = some (some (.builtin "ValueError.__init__")) := by
  unfold clsI at h
  split at h
  · rename_i t dd cd sl ho
    split at h
    · rename_i C' bm k0 k1 k2 k3 n k5 hm hs
      obtain ⟨e1, h⟩ := ba h
      obtain ⟨e2, h⟩ := ba h
      obtain ⟨e3, h⟩ := ba h
      obtain ⟨e4, h⟩ := ba h
      obtain ⟨e5, h⟩ := ba h
      obtain ⟨e6, e7⟩ := ba h
      have q1 := of_decide_eq_true e1
      have q2 := eq_of_beq e2
      have q3 := eq_of_beq e3
      subst q1 q2 q3
      obtain ⟨nm, bs, mro, ns, qn, hd, sn, sub, ab, col, del⟩ := cd
      dsimp only at hm e4 e5
      subst hm
      have hdel : del = false := by simpa using e4
      subst hdel e5
      have hsl : sl = #[k0, k1, k2, k3, some (.builtin "ValueError.__new__"), k5] := by
        obtain ⟨l⟩ := sl
        simp only at hs
        rw [hs]
      subst hsl
      exact ⟨nm, qn, ns, bs, bm, sn, sub, ab, col, dd, k0, k1, k2, k3, k5, ho, e6, eqO_ok e7⟩
    · cases h
  · cases h
def mostB (K : PySem.W.Frag) (C : Addr) (n : Int) : Bool := match PySem.W.findCls K (.ref C) (.type "type") "MOST" with
  | some (.val (.int j _)) => decide (j = n)
  | _ => false
theorem mostB_ok {K : PySem.W.Frag} {C : Addr} {n : Int} (h : mostB K C n = true) : ∃ u, ClX.CVal K C (.type "type") "MOST" (.int n) u := by
  unfold mostB at h
  split at h
  · rename_i j t e
    have q := of_decide_eq_true h
    subst q
    exact ⟨_, e, _, rfl⟩
  · cases h
def recB (K : PySem.W.Frag) (p g : Addr) : Bool := match PySem.W.recIn K p "property" with
  | some (.ref g' :: _) => g' == g
  | _ => false
theorem recB_ok {K : PySem.W.Frag} {p g : Addr} (h : recB K p g = true) : ∃ rest, PySem.W.recIn K p "property" = some (.ref g :: rest) := by
  unfold recB at h
  split at h
  · rename_i g' rest e
    rw [eq_of_beq h] at e
    exact ⟨rest, e⟩
  · cases h
/-- the further facts, one by one -/
def exL (file0 : Str) (K : PySem.W.Frag) : List Bool :=
  let C : Value := .ref (ga K "InvalidLogs")
  [clsI K (ga K "InvalidLogs"),
   eqO (PySem.W.findIn K C "__setattr__") (some (some (.builtin "object.__setattr__"))),
   eqO (PySem.W.findIn K C "__getattribute__") (some (some (.builtin "BaseException.__getattribute__"))),
   eqO (PySem.W.findIn K C "__getattr__") (some none),
   eqO (PySem.W.findIn K C "replica") (some none),
   eqO (PySem.W.findIn K C "__init__") (some (some (.ref (ilI K)))),
   decide (PySem.W.typeIn K (.ref (ilI K)) = some (.type "function")),
   PySem.W.keepIn K C,
   decide (PySem.W.subIn K C (.type "BaseException") = some true),
   decide (PySem.W.subIn K C (.type "ValueError") = some true),
   decide (PySem.W.mroIn K (ga K "InvalidLogs") C = some true),
   decide (PySem.W.typeIn K C = some (.type "type")),
   PySem.W.hasDictIn K (ga K "InvalidLogs"),
   eqO (PySem.W.nsIn K cStatics "thirdparty.any") (some none),
   okI file0 K,
   eqO (PySem.W.findIn K C "__class__") (some (some (.builtin "object.__class__"))),
   eqO (PySem.W.specialIn K (.builtin "object.__class__") "__get__") (some (some (.builtin "getset_descriptor.__get__"))),
   decide (PySem.W.takesIn K (.builtin "object.__class__") = some true),
   decide (PySem.W.mroIn K (ga K "InvalidLogs") (.type "object") = some true),
   decide (PySem.W.kitOne K C (.type "ValueError") = some true),
   decide (PySem.W.kitOne K C C = some true),
   PySem.W.readsIn K (ga K "Net") (.type "type"),
   eqO (PySem.W.specialIn K (.ref (ga K "Net")) "__getattribute__") (some (some (.builtin "type.__getattribute__"))),
   mostB K (ga K "Net") 24,
   PySem.W.readsIn K (ga K "Cluster") (.type "type"),
   eqO (PySem.W.specialIn K (.ref (ga K "Cluster")) "__getattribute__") (some (some (.builtin "type.__getattribute__"))),
   mostB K (ga K "Cluster") 60,
   eqO (PySem.W.findIn K (.ref (ga K "Net")) "links") (some (some (.ref (lkP K)))),
   eqO (PySem.W.specialIn K (.ref (lkP K)) "__get__") (some (some (.builtin "property.__get__"))),
   decide (PySem.W.takesIn K (.ref (lkP K)) = some true),
   recB K (lkP K) (lkG K),
   okA K (lkG K) "Net.links",
   decide ((cT K ("_is_log", none)).2 ≠ (cT K ("_law_refused", none)).2)]
def exB (file0 : Str) (K : PySem.W.Frag) : Bool := (exL file0 K).all id
/-! the Hook -/
def asK (g : Addr → Option Obj) (n : Nat) : List Addr := asD g n ++ [cStatics]
abbrev AlK : Type := AlD × Bool × FnI × FnW
def obsK (f0 : Str) (n : Nat) (g : Addr → Option Obj) : AlK := (obsD faL fnL (frT g (asK g n)), exB f0 (frT g (asK g n)) && tabsB g tfL (frT g (asK g n)), fnI (frT g (asK g n)), fnA (frT g (asK g n)) (lkG (frT g (asK g n))))
def valK : AlK := (valD fnL, true, some ("__init__", "InvalidLogs.__init__", defArgs sIl, .stmts (defBody sIl), defScope sIl, mainGlobals, ["__class__"], builtinsNs), some ("links", "Net.links", defArgs sLinks, .stmts (defBody sLinks), defScope sLinks, mainGlobals, [], builtinsNs))
structure SaysK (f0 : Str) (h : Heap) (K : PySem.W.Frag) : Prop where
  d : SaysD faL fnL K
  ex : exB f0 K = true
  fi : fnI K = valK.2.2.1
  ln : fnA K (lkG K) = valK.2.2.2
  hd : ∀ p ∈ tfL, PySem.W.codeHdIn K (cT K p).1 (cT K p).2 = true
  out : ∀ p ∈ tfL, K.lookup (cT K p).2 = none
  empty : ∀ p ∈ tfL, h.get? (cT K p).2 = some { cls := .none, data := .fields #[] }
theorem saysK_of {f0 : Str} {n : Nat} {h : Heap} (e : obsK f0 n h.get? = valK) : SaysK f0 h (frT h.get? (asK h.get? n)) := by
  have e1 : obsD faL fnL (frT h.get? (asK h.get? n)) = valD fnL := congrArg (fun z : AlK => z.1) e
  have e2 : (exB f0 (frT h.get? (asK h.get? n)) && tabsB h.get? tfL (frT h.get? (asK h.get? n))) = true := congrArg (fun z : AlK => z.2.1) e
  have e3 : fnI (frT h.get? (asK h.get? n)) = valK.2.2.1 := congrArg (fun z : AlK => z.2.2.1) e
  have e4 : fnA (frT h.get? (asK h.get? n)) (lkG (frT h.get? (asK h.get? n))) = valK.2.2.2 := congrArg (fun z : AlK => z.2.2.2) e
  obtain ⟨h1, h2⟩ := ba e2
  have key : ∀ p ∈ tfL, PySem.W.codeHdIn (frT h.get? (asK h.get? n)) (cT (frT h.get? (asK h.get? n)) p).1 (cT (frT h.get? (asK h.get? n)) p).2 = true ∧ ∃ o, h.get? (cT (frT h.get? (asK h.get? n)) p).2 = some o ∧ emptyTab o = true := fun p hp => by
    obtain ⟨h3, h4⟩ := ba (List.all_eq_true.mp h2 p hp)
    refine ⟨h3, ?_⟩
    cases q : h.get? (cT (frT h.get? (asK h.get? n)) p).2 with
    | none =>
      rw [q] at h4
      cases h4
    | some o =>
      rw [q] at h4
      exact ⟨o, rfl, h4⟩
  exact ⟨e1, h1, e3, e4, fun p hp => (key p hp).1, fun p hp => by
    obtain ⟨_, o, q, z⟩ := key p hp
    exact frT_none q z, fun p hp => by
    obtain ⟨_, o, q, z⟩ := key p hp
    rw [q, emptyTab_eq z]⟩
def hookK (f0 : Str) (n : Nat) : PySem.W.Hook where
  α := AlK
  obs := fun s => obsK f0 n s.heap.get?
  val := fun _ => valK
  says := fun _ h => ∃ K : PySem.W.Frag, K.In h ∧ SaysK f0 h K
  of := fun _ _ e => ⟨_, frT_in, saysK_of e⟩
  keeps := fun _ _ _ ⟨K, hK, c⟩ k => ⟨K, PySem.W.Frag.In.keeps hK k, ⟨c.d, c.ex, c.fi, c.ln, c.hd, c.out, fun p hp => k _ _ (c.empty p hp)⟩⟩
theorem obsK_eq {f0 : Str} {n : Nat} {g : Addr → Option Obj} {s : Shared} (h : ∀ a, g a = s.heap.get? a) : obsK f0 n g = (hookK f0 n).obs s := by
  have e : g = s.heap.get? := funext h
  rw [e] <;> rfl
theorem SaysK.more {f0 : Str} {h : Heap} {K : PySem.W.Frag} (c : SaysK f0 h K) {b : Bool} (i : Nat) (hb : (exL f0 K)[i]? = some b := by rfl) : b = true := List.all_eq_true.mp c.ex b (List.mem_of_getElem? hb)
end K8

set_option maxHeartbeats 4000000
namespace K8
open PySem PySem.Spec PyProof.Rows L2 He
/-! ### from the facts to the law -/
theorem code_of {K : PySem.W.Frag} {x : Str} {st : Stmt} {fd : FuncData} (F : FnT K x st (ga K x) fd) : fd.code = .ref (cT K (x, none)).1 := by
  obtain ⟨oc, od, dV, kV, doc, pm, an, cdv, ct, osl, rfl, lk, hcd, _, _⟩ := F.ex
  obtain ⟨c, rfl⟩ := codeIn_ref hcd
  have := codeOf_eq (p := (x, none)) lk rfl
  show Value.ref c = Value.ref (codeOf K (x, none))
  rw [this]
theorem ilz1 : defArgs sIl = PySem.ILX.iA ⟨19, 17, 19, 21⟩ ⟨19, 23, 19, 30⟩ := rfl
theorem ilz2 : defBody sIl = PySem.ILX.iB := rfl
theorem ilz3 : defScope sIl = PySem.ILX.iS := rfl
theorem il_fn {K : PySem.W.Frag} {fl : Str} (e : fnI K = valK.2.2.1) (c : okI fl K = true) : ∃ (cc cda : Addr) (oc : Value) (od : Option Addr) (doc pm : Value) (an : Option Addr) (ct : Value) (osl : Array (Option Value)) (p1 p2 : Pos)
    (vs : Array Value) (file : Str) (tf : Tok) (ccl cl : Value) (cdd cld : Option Addr) (ccs csl : Array (Option Value)),
    K.lookup (ilI K) = some ⟨oc, od, .func (PySem.W.ksFn "__init__" "InvalidLogs.__init__" (PySem.ILX.iA p1 p2) PySem.ILX.iB PySem.ILX.iS .none .none doc pm an (.ref cda) ct cc), osl⟩ ∧ PySem.W.codeIn K (.ref cda) "InvalidLogs.__init__" = true ∧
    K.lookup cda = some ⟨ccl, cdd, .fields vs, ccs⟩ ∧ vs[2]? = some (.str file tf) ∧ (fl == file) = true ∧ K.lookup cc = some ⟨cl, cld, .cell (some (.ref (ga K "InvalidLogs"))), csl⟩ := by
  unfold fnI at e
  unfold okI at c
  cases h : K.lookup (ilI K) with
  | none => rw [h] at c; cases c
  | some o =>
    obtain ⟨oc, od, dt, osl⟩ := o
    rw [h] at c e
    cases dt with
    | func fd =>
      obtain ⟨n1, n2, n3, n4, n5, n6, n7, n8, n9, n10, n11, n12, n13, n14, n15⟩ := fd
      have e2 : (some (n1, n2, n3, n4, n5, n6, n7.map (·.1), n15) : FnI) = (some (("__init__" : Str), ("InvalidLogs.__init__" : Str), defArgs sIl, FuncBody.stmts (defBody sIl), defScope sIl, mainGlobals, [("__class__" : Str)], builtinsNs) : FnI) := e
      simp only [Option.some.injEq, Prod.mk.injEq] at e2
      obtain ⟨h1, h2, h3, h4, h5, h6, h7, h8⟩ := e2
      subst h1 h2 h3 h4 h5 h6 h8
      obtain ⟨c1, c⟩ := ba c
      obtain ⟨c2, c⟩ := ba c
      obtain ⟨c3, c⟩ := ba c
      obtain ⟨c4, c5⟩ := ba c
      dsimp only at c1 c2 c3 c4 c5
      match n7, h7, c1 with
      | [(y, cc)], h7, c1 =>
        have hy : y = "__class__" := by simpa using h7
        subst hy
        cases n8 with
        | none =>
          cases n9 with
          | none =>
            cases n13 with
            | ref cda =>
              dsimp only at c5 c1
              split at c5
              · rename_i ccl cdd vs ccs hv
                split at c5
                · rename_i file tf hf
                  split at c1
                  · rename_i cl cld v csl hcc
                    have q := of_decide_eq_true c1
                    subst q
                    exact ⟨cc, cda, oc, od, _, _, _, _, osl, ⟨19, 17, 19, 21⟩, ⟨19, 23, 19, 30⟩, vs, file, tf, _, _, _, _, _, _, by rw [← ilz1, ← ilz2, ← ilz3], c4, hv, hf, c5, hcc⟩
                  · cases c1
                · cases c5
              · cases c5
            | _ => cases c5
          | _ => cases c3
        | _ => cases c2
    | _ => cases c
abbrev law0 : PySem.W.OpenLaw := PySem.Challenge.rw_pullstore_k08_whole_settling
def f0 : Str := PySem.Challenge.pw_pullstore_k08_whole_settling.main.file
theorem facts {w : World} {K : PySem.W.Frag} {h : Heap} {mg : Str → Option Value} {f : Addr} (X : K.In h) (G : h.Ns mainGlobals mg) (hfa : mg ("law" : Str) = some (.ref f)) (c : SaysK f0 h K) : LamX.LawAtS law0 w K CX0 9 63 "_law_script" mg f h := by
  have B : NB mg := { len := (free_ok X G (c.d.fact 0 (f := .free "len") rfl)), set := (free_ok X G (c.d.fact 1 (f := .free "set") rfl)), all := (free_ok X G (c.d.fact 2 (f := .free "all") rfl)), lst := (free_ok X G (c.d.fact 3 (f := .free "list") rfl)), srt := (free_ok X G (c.d.fact 4 (f := .free "sorted") rfl)), enu := (free_ok X G (c.d.fact 5 (f := .free "enumerate") rfl)), rng := (free_ok X G (c.d.fact 6 (f := .free "range") rfl)), mn := (free_ok X G (c.d.fact 7 (f := .free "min") rfl)), isi := (free_ok X G (c.d.fact 8 (f := .free "isinstance") rfl)), int := (free_ok X G (c.d.fact 9 (f := .free "int") rfl)), abs := (free_ok X G (c.d.fact 10 (f := .free "abs") rfl)), sum := (free_ok X G (c.d.fact 11 (f := .free "sum") rfl)), bool := (free_ok X G (c.d.fact 12 (f := .free "bool") rfl)), str := (free_ok X G (c.d.fact 13 (f := .free "str") rfl)), tup := (free_ok X G (c.d.fact 14 (f := .free "tuple") rfl)), ve := (free_ok X G (c.d.fact 15 (f := .free "ValueError") rfl)) }
  obtain ⟨d7, F7⟩ : ∃ fd, FnT K "copy_logs" (top 7) (ga K "copy_logs") fd := c.d.def_ 2 (d := dTop "copy_logs" 7) rfl
  have g7 : mg "copy_logs" = some (.ref (ga K "copy_logs")) := (glo_ok X G (c.d.fact 33 (f := .glo "copy_logs") rfl))
  obtain ⟨d8, F8⟩ : ∃ fd, FnT K "check_logs" (top 8) (ga K "check_logs") fd := c.d.def_ 3 (d := dTop "check_logs" 8) rfl
  have g8 : mg "check_logs" = some (.ref (ga K "check_logs")) := (glo_ok X G (c.d.fact 34 (f := .glo "check_logs") rfl))
  obtain ⟨d9, F9⟩ : ∃ fd, FnT K "places_of" (top 9) (ga K "places_of") fd := c.d.def_ 4 (d := dTop "places_of" 9) rfl
  have g9 : mg "places_of" = some (.ref (ga K "places_of")) := (glo_ok X G (c.d.fact 35 (f := .glo "places_of") rfl))
  obtain ⟨d10, F10⟩ : ∃ fd, FnT K "_is_log" (top 10) (ga K "_is_log") fd := c.d.def_ 5 (d := dTop "_is_log" 10) rfl
  have g10 : mg "_is_log" = some (.ref (ga K "_is_log")) := (glo_ok X G (c.d.fact 36 (f := .glo "_is_log") rfl))
  obtain ⟨d12, F12⟩ : ∃ fd, FnT K "spread" (top 12) (ga K "spread") fd := c.d.def_ 6 (d := dTop "spread" 12) rfl
  have g12 : mg "spread" = some (.ref (ga K "spread")) := (glo_ok X G (c.d.fact 37 (f := .glo "spread") rfl))
  obtain ⟨d15, F15⟩ : ∃ fd, FnT K "offered" (top 15) (ga K "offered") fd := c.d.def_ 7 (d := dTop "offered" 15) rfl
  have g15 : mg "offered" = some (.ref (ga K "offered")) := (glo_ok X G (c.d.fact 38 (f := .glo "offered") rfl))
  obtain ⟨d17, F17⟩ : ∃ fd, FnT K "is_settled" (top 17) (ga K "is_settled") fd := c.d.def_ 8 (d := dTop "is_settled" 17) rfl
  have g17 : mg "is_settled" = some (.ref (ga K "is_settled")) := (glo_ok X G (c.d.fact 39 (f := .glo "is_settled") rfl))
  obtain ⟨d18, F18⟩ : ∃ fd, FnT K "_first_links" (top 18) (ga K "_first_links") fd := c.d.def_ 9 (d := dTop "_first_links" 18) rfl
  have g18 : mg "_first_links" = some (.ref (ga K "_first_links")) := (glo_ok X G (c.d.fact 40 (f := .glo "_first_links") rfl))
  obtain ⟨d19, F19⟩ : ∃ fd, FnT K "settle_from" (top 19) (ga K "settle_from") fd := c.d.def_ 10 (d := dTop "settle_from" 19) rfl
  have g19 : mg "settle_from" = some (.ref (ga K "settle_from")) := (glo_ok X G (c.d.fact 41 (f := .glo "settle_from") rfl))
  obtain ⟨d20, F20⟩ : ∃ fd, FnT K "settle" (top 20) (ga K "settle") fd := c.d.def_ 11 (d := dTop "settle" 20) rfl
  have g20 : mg "settle" = some (.ref (ga K "settle")) := (glo_ok X G (c.d.fact 42 (f := .glo "settle") rfl))
  obtain ⟨d21, F21⟩ : ∃ fd, FnT K "settled_logs" (top 21) (ga K "settled_logs") fd := c.d.def_ 12 (d := dTop "settled_logs" 21) rfl
  have g21 : mg "settled_logs" = some (.ref (ga K "settled_logs")) := (glo_ok X G (c.d.fact 43 (f := .glo "settled_logs") rfl))
  obtain ⟨d22, F22⟩ : ∃ fd, FnT K "pulls_left" (top 22) (ga K "pulls_left") fd := c.d.def_ 13 (d := dTop "pulls_left" 22) rfl
  have g22 : mg "pulls_left" = some (.ref (ga K "pulls_left")) := (glo_ok X G (c.d.fact 44 (f := .glo "pulls_left") rfl))
  obtain ⟨d25, F25⟩ : ∃ fd, FnT K "_check_count" (top 25) (ga K "_check_count") fd := c.d.def_ 14 (d := dTop "_check_count" 25) rfl
  have g25 : mg "_check_count" = some (.ref (ga K "_check_count")) := (glo_ok X G (c.d.fact 45 (f := .glo "_check_count") rfl))
  obtain ⟨d26, F26⟩ : ∃ fd, FnT K "_is_below" (top 26) (ga K "_is_below") fd := c.d.def_ 15 (d := dTop "_is_below" 26) rfl
  have g26 : mg "_is_below" = some (.ref (ga K "_is_below")) := (glo_ok X G (c.d.fact 46 (f := .glo "_is_below") rfl))
  obtain ⟨d30, F30⟩ : ∃ fd, FnT K "_law_box" (top 30) (ga K "_law_box") fd := c.d.def_ 16 (d := dTop "_law_box" 30) rfl
  have g30 : mg "_law_box" = some (.ref (ga K "_law_box")) := (glo_ok X G (c.d.fact 47 (f := .glo "_law_box") rfl))
  obtain ⟨d31, F31⟩ : ∃ fd, FnT K "_law_take" (top 31) (ga K "_law_take") fd := c.d.def_ 17 (d := dTop "_law_take" 31) rfl
  have g31 : mg "_law_take" = some (.ref (ga K "_law_take")) := (glo_ok X G (c.d.fact 48 (f := .glo "_law_take") rfl))
  obtain ⟨d32, F32⟩ : ∃ fd, FnT K "_law_alike" (top 32) (ga K "_law_alike") fd := c.d.def_ 18 (d := dTop "_law_alike" 32) rfl
  have g32 : mg "_law_alike" = some (.ref (ga K "_law_alike")) := (glo_ok X G (c.d.fact 49 (f := .glo "_law_alike") rfl))
  obtain ⟨d33, F33⟩ : ∃ fd, FnT K "_law_copy" (top 33) (ga K "_law_copy") fd := c.d.def_ 19 (d := dTop "_law_copy" 33) rfl
  have g33 : mg "_law_copy" = some (.ref (ga K "_law_copy")) := (glo_ok X G (c.d.fact 50 (f := .glo "_law_copy") rfl))
  obtain ⟨d34, F34⟩ : ∃ fd, FnT K "_law_links" (top 34) (ga K "_law_links") fd := c.d.def_ 20 (d := dTop "_law_links" 34) rfl
  have g34 : mg "_law_links" = some (.ref (ga K "_law_links")) := (glo_ok X G (c.d.fact 51 (f := .glo "_law_links") rfl))
  obtain ⟨d35, F35⟩ : ∃ fd, FnT K "_law_world" (top 35) (ga K "_law_world") fd := c.d.def_ 21 (d := dTop "_law_world" 35) rfl
  have g35 : mg "_law_world" = some (.ref (ga K "_law_world")) := (glo_ok X G (c.d.fact 52 (f := .glo "_law_world") rfl))
  obtain ⟨d36, F36⟩ : ∃ fd, FnT K "_law_net" (top 36) (ga K "_law_net") fd := c.d.def_ 22 (d := dTop "_law_net" 36) rfl
  have g36 : mg "_law_net" = some (.ref (ga K "_law_net")) := (glo_ok X G (c.d.fact 53 (f := .glo "_law_net") rfl))
  obtain ⟨d37, F37⟩ : ∃ fd, FnT K "_law_some" (top 37) (ga K "_law_some") fd := c.d.def_ 23 (d := dTop "_law_some" 37) rfl
  have g37 : mg "_law_some" = some (.ref (ga K "_law_some")) := (glo_ok X G (c.d.fact 54 (f := .glo "_law_some") rfl))
  obtain ⟨d38, F38⟩ : ∃ fd, FnT K "_law_start" (top 38) (ga K "_law_start") fd := c.d.def_ 24 (d := dTop "_law_start" 38) rfl
  have g38 : mg "_law_start" = some (.ref (ga K "_law_start")) := (glo_ok X G (c.d.fact 55 (f := .glo "_law_start") rfl))
  obtain ⟨d39, F39⟩ : ∃ fd, FnT K "_law_held" (top 39) (ga K "_law_held") fd := c.d.def_ 25 (d := dTop "_law_held" 39) rfl
  have g39 : mg "_law_held" = some (.ref (ga K "_law_held")) := (glo_ok X G (c.d.fact 56 (f := .glo "_law_held") rfl))
  obtain ⟨d40, F40⟩ : ∃ fd, FnT K "_law_on_offer" (top 40) (ga K "_law_on_offer") fd := c.d.def_ 26 (d := dTop "_law_on_offer" 40) rfl
  have g40 : mg "_law_on_offer" = some (.ref (ga K "_law_on_offer")) := (glo_ok X G (c.d.fact 57 (f := .glo "_law_on_offer") rfl))
  obtain ⟨d41, F41⟩ : ∃ fd, FnT K "_law_actions" (top 41) (ga K "_law_actions") fd := c.d.def_ 27 (d := dTop "_law_actions" 41) rfl
  have g41 : mg "_law_actions" = some (.ref (ga K "_law_actions")) := (glo_ok X G (c.d.fact 58 (f := .glo "_law_actions") rfl))
  obtain ⟨d42, F42⟩ : ∃ fd, FnT K "_law_place" (top 42) (ga K "_law_place") fd := c.d.def_ 28 (d := dTop "_law_place" 42) rfl
  have g42 : mg "_law_place" = some (.ref (ga K "_law_place")) := (glo_ok X G (c.d.fact 59 (f := .glo "_law_place") rfl))
  obtain ⟨d43, F43⟩ : ∃ fd, FnT K "_law_after" (top 43) (ga K "_law_after") fd := c.d.def_ 29 (d := dTop "_law_after" 43) rfl
  have g43 : mg "_law_after" = some (.ref (ga K "_law_after")) := (glo_ok X G (c.d.fact 60 (f := .glo "_law_after") rfl))
  obtain ⟨d44, F44⟩ : ∃ fd, FnT K "_law_run" (top 44) (ga K "_law_run") fd := c.d.def_ 30 (d := dTop "_law_run" 44) rfl
  have g44 : mg "_law_run" = some (.ref (ga K "_law_run")) := (glo_ok X G (c.d.fact 61 (f := .glo "_law_run") rfl))
  obtain ⟨d45, F45⟩ : ∃ fd, FnT K "_law_spoilt" (top 45) (ga K "_law_spoilt") fd := c.d.def_ 31 (d := dTop "_law_spoilt" 45) rfl
  have g45 : mg "_law_spoilt" = some (.ref (ga K "_law_spoilt")) := (glo_ok X G (c.d.fact 62 (f := .glo "_law_spoilt") rfl))
  obtain ⟨d46, F46⟩ : ∃ fd, FnT K "_law_pulls" (top 46) (ga K "_law_pulls") fd := c.d.def_ 32 (d := dTop "_law_pulls" 46) rfl
  have g46 : mg "_law_pulls" = some (.ref (ga K "_law_pulls")) := (glo_ok X G (c.d.fact 63 (f := .glo "_law_pulls") rfl))
  obtain ⟨d47, F47⟩ : ∃ fd, FnT K "_law_reached_from" (top 47) (ga K "_law_reached_from") fd := c.d.def_ 33 (d := dTop "_law_reached_from" 47) rfl
  have g47 : mg "_law_reached_from" = some (.ref (ga K "_law_reached_from")) := (glo_ok X G (c.d.fact 64 (f := .glo "_law_reached_from") rfl))
  obtain ⟨d48, F48⟩ : ∃ fd, FnT K "_law_closed" (top 48) (ga K "_law_closed") fd := c.d.def_ 34 (d := dTop "_law_closed" 48) rfl
  have g48 : mg "_law_closed" = some (.ref (ga K "_law_closed")) := (glo_ok X G (c.d.fact 65 (f := .glo "_law_closed") rfl))
  obtain ⟨d49, F49⟩ : ∃ fd, FnT K "_law_missing" (top 49) (ga K "_law_missing") fd := c.d.def_ 35 (d := dTop "_law_missing" 49) rfl
  have g49 : mg "_law_missing" = some (.ref (ga K "_law_missing")) := (glo_ok X G (c.d.fact 66 (f := .glo "_law_missing") rfl))
  obtain ⟨d50, F50⟩ : ∃ fd, FnT K "_law_least_pulls" (top 50) (ga K "_law_least_pulls") fd := c.d.def_ 36 (d := dTop "_law_least_pulls" 50) rfl
  have g50 : mg "_law_least_pulls" = some (.ref (ga K "_law_least_pulls")) := (glo_ok X G (c.d.fact 67 (f := .glo "_law_least_pulls") rfl))
  obtain ⟨d51, F51⟩ : ∃ fd, FnT K "_law_drawn_pulls" (top 51) (ga K "_law_drawn_pulls") fd := c.d.def_ 37 (d := dTop "_law_drawn_pulls" 51) rfl
  have g51 : mg "_law_drawn_pulls" = some (.ref (ga K "_law_drawn_pulls")) := (glo_ok X G (c.d.fact 68 (f := .glo "_law_drawn_pulls") rfl))
  obtain ⟨d52, F52⟩ : ∃ fd, FnT K "_law_counts_hold" (top 52) (ga K "_law_counts_hold") fd := c.d.def_ 38 (d := dTop "_law_counts_hold" 52) rfl
  have g52 : mg "_law_counts_hold" = some (.ref (ga K "_law_counts_hold")) := (glo_ok X G (c.d.fact 69 (f := .glo "_law_counts_hold") rfl))
  obtain ⟨d53, F53⟩ : ∃ fd, FnT K "_law_settle_holds" (top 53) (ga K "_law_settle_holds") fd := c.d.def_ 39 (d := dTop "_law_settle_holds" 53) rfl
  have g53 : mg "_law_settle_holds" = some (.ref (ga K "_law_settle_holds")) := (glo_ok X G (c.d.fact 70 (f := .glo "_law_settle_holds") rfl))
  obtain ⟨d54, F54⟩ : ∃ fd, FnT K "_law_refusal" (top 54) (ga K "_law_refusal") fd := c.d.def_ 40 (d := dTop "_law_refusal" 54) rfl
  have g54 : mg "_law_refusal" = some (.ref (ga K "_law_refusal")) := (glo_ok X G (c.d.fact 71 (f := .glo "_law_refusal") rfl))
  obtain ⟨d55, F55⟩ : ∃ fd, FnT K "_law_refused" (top 55) (ga K "_law_refused") fd := c.d.def_ 41 (d := dTop "_law_refused" 55) rfl
  have g55 : mg "_law_refused" = some (.ref (ga K "_law_refused")) := (glo_ok X G (c.d.fact 72 (f := .glo "_law_refused") rfl))
  obtain ⟨d56, F56⟩ : ∃ fd, FnT K "law" (top 56) (ga K "law") fd := c.d.def_ 42 (d := dTop "law" 56) rfl
  obtain ⟨dN, FN⟩ : ∃ fd, FnM K "__init__" "Net.__init__" sNet (ma K (ga K "Net") "__init__") fd := c.d.def_ 0 (d := dNet) rfl
  obtain ⟨dC, FC⟩ : ∃ fd, FnM K "__init__" "Cluster.__init__" sCl (ma K (ga K "Cluster") "__init__") fd := c.d.def_ 1 (d := dCl) rfl
  have TC0 : TxC K (ga K "Cluster") (ga K "Net") := ⟨cls_ok (c.d.fact 23 (f := .cls "Cluster") rfl),
    noat_ok (c.d.fact 27 (f := .noat "Cluster" "net") rfl),
    noat_ok (c.d.fact 28 (f := .noat "Cluster" "size") rfl),
    noat_ok (c.d.fact 29 (f := .noat "Cluster" "_homes") rfl),
    cls_ok (c.d.fact 22 (f := .cls "Net") rfl),
    noat_ok (c.d.fact 24 (f := .noat "Net" "count") rfl),
    noat_ok (c.d.fact 25 (f := .noat "Net" "_linked") rfl),
    noat_ok (c.d.fact 26 (f := .noat "Net" "_links") rfl)⟩
  have T : TxM K mg (ga K "Cluster") (ga K "Net") := ⟨TC0,
    (glo_ok X G (c.d.fact 17 (f := .glo "Net") rfl)),
    (glo_ok X G (c.d.fact 18 (f := .glo "Cluster") rfl)),
    (mostB_ok (c.more 23)).elim fun u e => ⟨_, u, ⟨c.more 21, eqO_ok (c.more 22)⟩, e⟩,
    (mostB_ok (c.more 26)).elim fun u e => ⟨_, u, ⟨c.more 24, eqO_ok (c.more 25)⟩, e⟩⟩
  have hF : FirstIs mg := str_ok X G (c.d.fact 21 (f := .str "FIRST" "first") rfl)
  have TI : PySem.ILX.IlTxt law0.prog K mg (ga K "InvalidLogs") (ilI K) := ⟨(glo_ok X G (c.d.fact 19 (f := .glo "InvalidLogs") rfl)),
    clsI_ok (c.more 0),
    eqO_ok (c.more 1),
    eqO_ok (c.more 2),
    eqO_ok (c.more 3),
    eqO_ok (c.more 4),
    eqO_ok (c.more 5),
    of_decide_eq_true (c.more 6),
    c.more 7,
    of_decide_eq_true (c.more 8),
    of_decide_eq_true (c.more 9),
    of_decide_eq_true (c.more 10),
    of_decide_eq_true (c.more 11),
    c.more 12,
    eqO_ok (c.more 13),
    (free_ok X G (c.d.fact 16 (f := .free "super") rfl)),
    by decide +kernel,
    il_fn c.fi (c.more 14)⟩
  have TR : RfTxt K mg (ga K "InvalidLogs") (ga K "StoreError") := ⟨(glo_ok X G (c.d.fact 19 (f := .glo "InvalidLogs") rfl)),
    (glo_ok X G (c.d.fact 20 (f := .glo "StoreError") rfl)),
    ⟨eqO_ok (c.more 2), eqO_ok (c.more 3), of_decide_eq_true (c.more 8), c.more 12, eqO_ok (c.more 15), eqO_ok (c.more 16), of_decide_eq_true (c.more 17), of_decide_eq_true (c.more 18)⟩,
    of_decide_eq_true (c.more 19),
    of_decide_eq_true (c.more 20),
    ⟨eqO_ok (c.more 2), eqO_ok (c.more 3), of_decide_eq_true (c.more 8), c.more 12⟩,
    eqO_ok (c.more 4),
    of_decide_eq_true (c.d.fact 32 (f := .exm "InvalidLogs" "StoreError" true) rfl)⟩
  have MN : Mk K (ga K "Net") (ma K (ga K "Net") "__init__") := mkr_ok (c.d.fact 30 (f := .mkr "Net") rfl)
  have MC : Mk K (ga K "Cluster") (ma K (ga K "Cluster") "__init__") := mkr_ok (c.d.fact 31 (f := .mkr "Cluster") rfl)
  obtain ⟨dL, FL⟩ := funA c.ln (c.more 31)
  have PL : PropOf K (ga K "Net") "links" (lkP K) (lkG K) := ⟨eqO_ok (c.more 27), eqO_ok (c.more 28), of_decide_eq_true (c.more 29), recB_ok (c.more 30)⟩
  have hne : (cT K ("_is_log", none)).2 ≠ (cT K ("_law_refused", none)).2 := of_decide_eq_true (c.more 32)
  have efa : f = ga K "law" := Value.ref.inj (Option.some.inj (hfa.symm.trans (glo_ok X G (c.d.fact 73 (f := .glo "law") rfl))))
  subst efa
  have hb := FunD.bindsA (ps := ["_law_script"]) F56 fun _ _ _ _ _ _ us hl => match us, hl with | [_], _ => rfl
  refine ⟨d56, tfL.map (cT K), spLaw K (cT K ("_is_log", none)).2 (cT K ("_law_refused", none)).2, fun p hp => ?_, fun p hp => ?_, fun p hp => ?_, fun s v => hb s [v] rfl, fun H a ns hl _ hT hS => ⟨a, ns, rfl, hS, hT _ (List.mem_cons_self), hT _ (List.mem_cons_of_mem _ List.mem_cons_self), fun _ => rfl⟩, fun base KB GB TB => ?_⟩
  · obtain ⟨q, hq, rfl⟩ := List.mem_map.mp hp
    exact c.empty q hq
  · obtain ⟨q, hq, rfl⟩ := List.mem_map.mp hp
    exact c.out q hq
  · obtain ⟨q, hq, rfl⟩ := List.mem_map.mp hp
    exact PySem.W.codeHd_of_K X (c.hd q hq)
  have T1 := TB _ (List.mem_map.mpr ⟨("_is_log", none), List.mem_cons_self, rfl⟩)
  have T2 := TB _ (List.mem_map.mpr ⟨("_law_refused", none), List.mem_cons_of_mem _ List.mem_cons_self, rfl⟩)
  have TG : GxR.TabB base mg (cT K ("_is_log", none)).1 (cT K ("_is_log", none)).2 := ⟨T1.code, T1.bm, T1.gP⟩
  have cCopy := ok_copy (P := law0.prog) (w := w) (base := base) F7 g7 B
  have cIsLog := ok_islog (P := law0.prog) (w := w) F10 g10 (code_of F10) TG B
  have cCheck := ok_check (base := base) F8 g8 B T.toTxC TI cCopy cIsLog
  have cOff := ok_offered (P := law0.prog) (w := w) (base := base) F15 g15 B hF
  have cFirst := ok_first (P := law0.prog) (w := w) (base := base) F18 g18 B
  have GL : GetL law0.prog w K mg base (ga K "Net") := ok_links FL B T.toTxC PL
  have cFrom := ok_from F19 g19 B T.toTxC hF GL cCopy cFirst cOff
  have cIs := ok_is F17 g17 T.toTxC hF GL cCheck cOff
  have cSet := ok_settle F20 g20 cCheck cFrom
  have cLog := ok_slogs F21 g21 cCheck cFrom
  have cPlaces := ok_places (P := law0.prog) (w := w) (base := base) F9 g9 B
  have cSpread := ok_spread (P := law0.prog) (w := w) (base := base) F12 g12 B
  have cLeft := ok_left F22 g22 B T.toTxC GL cCheck cPlaces cSpread
  have cBelow := ok_below (P := law0.prog) (w := w) (base := base) F26 g26
  have cCount := ok_count (P := law0.prog) (w := w) (base := base) F25 g25 T
  have mNet := ok_net MN FN B T cCount cBelow
  have mCl : MkN law0.prog w K mg base 1 (ga K "Cluster") (spCl (ga K "Cluster") (ga K "Net")) := ok_cl MC FC B T
  have lCopy := ok_lcopy (P := law0.prog) (w := w) (base := base) F33 g33 B
  have lAl := ok_alike (P := law0.prog) (w := w) (base := base) F32 g32 B
  have lHeld := ok_held (P := law0.prog) (w := w) (base := base) F39 g39
  have lOff := ok_offer (P := law0.prog) (w := w) (base := base) F40 g40
  have lActs := ok_acts F41 g41 B lHeld lOff
  have lPlace := ok_place (P := law0.prog) (w := w) (base := base) F42 g42
  have lAfter := ok_after F43 g43 lCopy lPlace
  have lPulls := ok_pulls F46 g46 lOff
  have lReach := ok_reached (P := law0.prog) (w := w) (base := base) F47 g47 B
  have lClosed := ok_closed F48 g48 B lReach lHeld
  have lMis := ok_missing (P := law0.prog) (w := w) (base := base) F49 g49 B
  have lLeast := ok_least F50 g50 B lCopy lPulls lAfter
  have lTake := fun i => ok_take (P := law0.prog) (w := w) (base := base) (e := mkE (cT K ("_is_log", none)).2 (cT K ("_law_refused", none)).2 i) F31 g31 B
  have lLnk := fun i => ok_lnk F34 g34 B (lTake i)
  have lWorld := fun i => ok_world F35 g35 B (lTake i) (lLnk i)
  have lNet := fun i => ok_netL F36 g36 B T (lTake i) mNet
  have lSome := fun i => ok_some F37 g37 B (lTake i)
  have lStart := fun i => ok_start F38 g38 B (lTake i) (lSome i)
  have lRun := fun i => ok_run F44 g44 B (lTake i) lCopy lActs lAfter
  have lSpoilt := fun i => ok_spoilt F45 g45 B (lTake i) lCopy
  have lDrawn := fun i => ok_drawn F51 g51 B (lTake i) lCopy lPulls lAfter
  have lCounts := fun i => ok_counts (e := mkE (cT K ("_is_log", none)).2 (cT K ("_law_refused", none)).2 i) F52 g52 lCopy lAl cLeft cIs
  have lHolds := fun i => ok_holds (e := mkE (cT K ("_is_log", none)).2 (cT K ("_law_refused", none)).2 i) F53 g53 B lCopy lAl lLeast lMis (lCounts i) cSet cLog
  have lRefused := fun i => ok_refused (e := mkE (cT K ("_is_log", none)).2 (cT K ("_law_refused", none)).2 i) F55 (code_of F55) g55 B T2 F54 g54 TR (lSpoilt i) lCopy lAl cIs cSet cLog cLeft
  have lBox := ok_box (P := law0.prog) (w := w) (base := base) F30 g30 B
  exact ok_law F56 B T ⟨lBox, lWorld, lNet, lTake, lStart, lRun, lClosed, lMis, lDrawn, lCounts, lHolds, lRefused, lLeast, lCopy, lAl, cLeft, cSet, cLog, mCl⟩ hne
end K8

set_option maxHeartbeats 0
namespace K8
open PySem PySem.Spec PyProof.Rows L2 He
abbrev R : PySem.W.OpenRow := PySem.W.OpenLaw.row PySem.Challenge.rw_pullstore_k08_whole_settling
abbrev hk : PySem.W.Hook := hookK f0 5
def ob (s : PySem.W.SharedT) : AlK := obsK f0 5 (HandSHeadRun.getT s)
theorem ob_eq (s : PySem.W.SharedT) : ob s = hk.obs s.abs := obsK_eq (HandSHeadRun.getT_eq s)
def names1 : List PySem.Str := ["_wall", "StoreError", "InvalidNet", "InvalidHomes", "InvalidLogs", "copy_logs", "check_logs", "places_of", "_is_log", "spread", "FIRST", "offered", "is_settled", "_first_links", "settle_from", "settle", "settled_logs", "pulls_left", "Net", "_check_count", "_is_below", "Cluster", "_law_box", "_law_take"]
def names2 : List PySem.Str := ["_law_alike", "_law_copy", "_law_links", "_law_world", "_law_net", "_law_some", "_law_start", "_law_held", "_law_on_offer", "_law_actions", "_law_place", "_law_after", "_law_run", "_law_spoilt", "_law_pulls", "_law_reached_from", "_law_closed", "_law_missing", "_law_least_pulls", "_law_drawn_pulls", "_law_counts_hold", "_law_settle_holds", "_law_refusal", "_law_refused"]
def names : List PySem.Str := names1 ++ names2
theorem run (w : World) : HandSHeadRun.RunEq R (PySem.W.view R.prog [56]) hk ob 40000 names w := by
  intro os
  kernel_rfl
end K8

set_option maxHeartbeats 0
open PySem PySem.W PySem.Calls PyProof.Rows
theorem PySem.Challenge.cw_pullstore_k08_whole_settling_holds : PySem.Challenge.rw_pullstore_k08_whole_settling.Holds := by
  w_on; o_law
  refine HandSHeadRun.head_any (r := OpenLaw.row PySem.Challenge.rw_pullstore_k08_whole_settling) (q := view (OpenLaw.row PySem.Challenge.rw_pullstore_k08_whole_settling).prog [56]) (H := K8.hk) (ob := K8.ob) (M := 40000) (loose := K8.names) (d := HandSHeadRun.topDef (OpenLaw.row PySem.Challenge.rw_pullstore_k08_whole_settling).prog 56) (kwd := []) K8.ob_eq
    (by kernel_rfl) (fun s => by kernel_rfl) K8.run (by kernel_rfl) (by kernel_rfl) (by kernel_rfl) (by rfl) (by first | assumption | decide +kernel) (by decide +kernel) ⟨rfl, rfl, rfl, rfl, rfl, by decide +kernel⟩ ?hw ?hc
  case hw => w_witness2
  case hc =>
    refine LamX.walk_ofTsE (l := PySem.Challenge.rw_pullstore_k08_whole_settling) (n := 63) (k := 9) (x := "_law_script") (CX := fun _ => L2.CX0) rfl (by decide) (by kernel_rfl) ⟨rfl, by decide, by decide⟩ ?F (fun _ _ _ _ _ z => z)
    intro w mg fa h Y G hmg0
    obtain ⟨K, KX, c⟩ := Y
    have hmg : mg ("law" : PySem.Str) = some (.ref fa) := by
      have e : (HandSHeadRun.topDef (OpenLaw.row PySem.Challenge.rw_pullstore_k08_whole_settling).prog 56).name = ("law" : PySem.Str) := by kernel_rfl
      rw [← e]
      exact hmg0
    exact ⟨K, KX, K8.facts KX G hmg c⟩
