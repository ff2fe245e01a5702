import PyProof.Rows.All
import Wide.All
import OpenK.AllK
import Wide.FinOn
import HandS.Text
import HandS.ForMost
import HandS.ForExc
import HandS.Walk
import HandS.SetFor
import HandS.TryMany
import HandS.CallLocal
import HandS.ExcField
import KE.GoesEnum
import KE.GoesZip
import KE.GoesMore
import KE.KStateDown
import HandS.TupAny
import HandS.Style
import HandS.SortInts
import HandS.SortKw
import HandS.Conv
import HandS.FStr
import HandS.RaiseMore
import HandS.IsInst
import HandS.ExcInit
import HandS.Wide
import HandS.Defaults
import HandS.HeadEnd
import HandS.HeadHook4
import HandS.HeadWalk
import HandS.Head2
import PySem.Challenge.RW_shutpairs_k50_whole_desk
set_option Elab.async false
set_option linter.all false
set_option maxRecDepth 100000
set_option maxHeartbeats 4000000
/-! ## Texts: numbers, heaps, rules, names, and how they are read back -/
namespace Kd
open PySem PySem.Spec PyProof.Rows L2
abbrev Ht := List Int
abbrev Ru := List Ht
def num (i : Int) : Str := Str.ofString (toString i)
abbrev sp : Str := " "
abbrev bar : Str := " | "
def heapW (h : Ht) : List Str := if h = [] then ["none"] else h.map num
def heapT (h : Ht) : Str := if h = [] then "none" else Txt.join " " (h.map num)
def ruleW : Ru → List Str
  | [] => ["no", "heaps"]
  | [h] => heapW h
  | h :: k :: r => heapW h ++ (("|" : Str) :: ruleW (k :: r))
def ruleT (r : Ru) : Str := if r = [] then "no heaps" else Txt.join " | " (r.map heapT)

/-- a word: signs, no blank -/
def Wd (x : Str) : Prop := TL.tl x ≠ [] ∧ 32 ∉ TL.tl x
theorem tl_num {i : Int} (h : 0 ≤ i) : TL.tl (num i) = TL.numL i.toNat := by
  obtain ⟨n, rfl⟩ := Int.eq_ofNat_of_zero_le h
  exact TL.tl_num n
theorem wd_num {i : Int} (h : 0 ≤ i) : Wd (num i) := by
  unfold Wd
  rw [tl_num h]
  exact ⟨TL.numL_ne _, TL.numL_free (.inl (by omega))⟩
theorem tl_sp : TL.tl sp = [32] := by decide +kernel
theorem tl_bar : TL.tl bar = [32, 124, 32] := by decide +kernel
theorem tl_none : TL.tl ("none" : Str) = [110, 111, 110, 101] := by decide +kernel
theorem tl_no : TL.tl ("no" : Str) = [110, 111] := by decide +kernel
theorem tl_heaps : TL.tl ("heaps" : Str) = [104, 101, 97, 112, 115] := by decide +kernel
theorem tl_noheaps : TL.tl ("no heaps" : Str) = [110, 111, 32, 104, 101, 97, 112, 115] := by decide +kernel
theorem tl_pipe : TL.tl ("|" : Str) = [124] := by decide +kernel
theorem wd_none : Wd "none" := by unfold Wd; rw [tl_none]; decide
theorem wd_no : Wd "no" := by unfold Wd; rw [tl_no]; decide
theorem wd_heaps : Wd "heaps" := by unfold Wd; rw [tl_heaps]; decide
theorem wd_pipe : Wd "|" := by unfold Wd; rw [tl_pipe]; decide

/-- a heap that the law makes: its parts from 1 to 10 ^ 30, falling, at most ten -/
structure GH (h : Ht) : Prop where
  lo : ∀ p ∈ h, 1 ≤ p
  hi : ∀ p ∈ h, p ≤ 10 ^ 30
  fall : h.Pairwise (fun a b => b ≤ a)
  few : h.length ≤ 10
structure GR (r : Ru) : Prop where
  all : ∀ h ∈ r, GH h
  few : r.length ≤ 6

theorem wd_heapW {h : Ht} (g : GH h) : ∀ w ∈ heapW h, Wd w := by
  intro w hw
  unfold heapW at hw
  split at hw
  · rw [List.mem_singleton.mp hw]; exact wd_none
  · obtain ⟨p, hp, rfl⟩ := List.mem_map.mp hw
    exact wd_num (by have := g.lo p hp; omega)
theorem heapW_ne (h : Ht) : heapW h ≠ [] := by
  unfold heapW
  split
  · simp
  · simpa using ‹_›
theorem ruleW_ne : ∀ r : Ru, ruleW r ≠ []
  | [] => by simp [ruleW]
  | [h] => heapW_ne h
  | h :: k :: r => by simp [ruleW]
theorem wd_ruleW : ∀ {r : Ru}, (∀ h ∈ r, GH h) → ∀ w ∈ ruleW r, Wd w
  | [], _, w, hw => by
    have : w = "no" ∨ w = "heaps" := by simpa [ruleW] using hw
    rcases this with rfl | rfl
    · exact wd_no
    · exact wd_heaps
  | [h], g, w, hw => wd_heapW (g h (by simp)) w hw
  | h :: k :: r, g, w, hw => by
    have hw' : w ∈ heapW h ∨ w = "|" ∨ w ∈ ruleW (k :: r) := by simpa [ruleW] using hw
    rcases hw' with q | rfl | q
    · exact wd_heapW (g h (by simp)) w q
    · exact wd_pipe
    · exact wd_ruleW (fun z hz => g z (by simp only [List.mem_cons] at hz ⊢; exact .inr hz)) w q

/-! ### joined and cut -/
theorem joinL_app (S : List Nat) : ∀ {a b : List (List Nat)}, a ≠ [] → b ≠ [] → TL.joinL S (a ++ b) = TL.joinL S a ++ (S ++ TL.joinL S b)
  | [], _, h, _ => absurd rfl h
  | [p], [], _, h => absurd rfl h
  | [p], q :: r, _, _ => rfl
  | p :: q :: r, b, _, h => by
    have ih := joinL_app S (a := q :: r) (b := b) (by simp) h
    show p ++ (S ++ TL.joinL S (q :: r ++ b)) = _
    rw [ih]
    simp [TL.joinL, List.append_assoc]
theorem tl_joinT (y : Str) (parts : List Str) : TL.tl (Txt.join y parts) = TL.joinL (TL.tl y) (parts.map TL.tl) := by
  rw [TL.join_eq, TL.tl_join]
theorem join_app (y : Str) {a b : List Str} (ha : a ≠ []) (hb : b ≠ []) : Txt.join y (a ++ b) = Txt.join y a ++ y ++ Txt.join y b := by
  apply TL.ext_tl
  rw [TL.tl_append, TL.tl_append, tl_joinT, tl_joinT, tl_joinT, List.map_append, joinL_app _ (by simpa using ha) (by simpa using hb), List.append_assoc]
theorem join_cons (y x : Str) {b : List Str} (hb : b ≠ []) : Txt.join y (x :: b) = x ++ y ++ Txt.join y b := by
  have := join_app y (a := [x]) (b := b) (by simp) hb
  rw [show [x] ++ b = x :: b from rfl] at this
  rw [this]
  have e : Txt.join y [x] = x := by apply TL.ext_tl; rw [tl_joinT]; rfl
  rw [e]
theorem join_one (y x : Str) : Txt.join y [x] = x := by apply TL.ext_tl; rw [tl_joinT]; rfl
theorem heapT_W (h : Ht) : heapT h = Txt.join sp (heapW h) := by
  unfold heapT heapW
  split
  · rw [join_one]
  · rfl
theorem app_assoc (x y z : Str) : x ++ y ++ z = x ++ (y ++ z) := by
  apply TL.ext_tl
  simp only [TL.tl_append, List.append_assoc]
theorem sp_pipe_sp : sp ++ ("|" : Str) ++ sp = bar := by decide +kernel
theorem ruleT_W : ∀ r : Ru, ruleT r = Txt.join sp (ruleW r)
  | [] => by
    show ("no heaps" : Str) = Txt.join sp [("no" : Str), "heaps"]
    apply TL.ext_tl
    rw [tl_joinT, tl_noheaps, List.map_cons, List.map_cons, tl_no, tl_heaps, tl_sp]
    decide
  | [h] => by
    show (if [h] = [] then _ else Txt.join " | " [heapT h]) = Txt.join sp (heapW h)
    rw [if_neg (by simp), join_one, heapT_W]
  | h :: k :: r => by
    have ih := ruleT_W (k :: r)
    have e1 : ruleT (h :: k :: r) = heapT h ++ bar ++ ruleT (k :: r) := by
      unfold ruleT
      rw [if_neg (by simp), if_neg (by simp), List.map_cons, join_cons _ _ (by simp)]
    have e2 : Txt.join sp (ruleW (h :: k :: r)) = heapT h ++ sp ++ (("|" : Str) ++ sp ++ Txt.join sp (ruleW (k :: r))) := by
      show Txt.join sp (heapW h ++ (("|" : Str) :: ruleW (k :: r))) = _
      rw [join_app _ (heapW_ne h) (by simp), ← heapT_W, join_cons _ _ (ruleW_ne _)]
    rw [e1, e2, ih, ← sp_pipe_sp]
    simp only [app_assoc]
theorem sp_ascii : sp.cps.all (· < 256) = true := by decide +kernel
theorem bar_ascii : bar.cps.all (· < 256) = true := by decide +kernel
/-- words joined by a blank, cut at the blanks -/
theorem split_words {ws : List Str} (hne : ws ≠ []) (h : ∀ w ∈ ws, Wd w) : Txt.split (Txt.join sp ws) sp = ws :=
  TL.split_join tl_sp sp_ascii hne fun w hw => (h w hw).2
/-! ### the rule read back: cut at the strokes -/
theorem num_free {i : Int} (h : 0 ≤ i) {s : Nat} (hs : s < 48 ∨ 57 < s) : s ∉ TL.tl (num i) := by
  rw [tl_num h]; exact TL.numL_free hs
theorem heapT_free {h : Ht} (g : GH h) : 124 ∉ TL.tl (heapT h) := by
  unfold heapT
  split
  · rw [tl_none]; decide
  · rw [tl_joinT, tl_sp]
    rename_i hn
    have key : ∀ ps : List Ht → True, True := fun _ => trivial
    clear key
    have : ∀ l : List Int, (∀ p ∈ l, 1 ≤ p) → 124 ∉ TL.joinL [32] ((l.map num).map TL.tl) := by
      intro l
      induction l with
      | nil => intro _; simp [TL.joinL]
      | cons p r ih =>
        intro hp
        have h1 := num_free (i := p) (by have := hp p (by simp); omega) (s := 124) (by omega)
        cases r with
        | nil => simpa [TL.joinL] using h1
        | cons q r =>
          have h2 := ih fun z hz => hp z (by simp only [List.mem_cons] at hz ⊢; exact .inr hz)
          simp only [List.map_cons] at h2 ⊢
          simp only [TL.joinL, List.mem_append, List.mem_cons, List.not_mem_nil, or_false, not_or]
          exact ⟨h1, by omega, h2⟩
    exact this h g.lo
theorem bar_miss {p q : List Nat} (h : 124 ∉ p) (hq : q = [] ∨ ∃ r, q = 32 :: r) : ∀ i, i < p.length → TL.pre [32, 124, 32] ((p ++ q).drop i) = false := by
  intro i hi
  cases e : TL.pre [32, 124, 32] ((p ++ q).drop i) with
  | false => rfl
  | true =>
    exfalso
    have e1 : ((p ++ q).drop i).take 3 = [32, 124, 32] := eq_of_beq e
    have e2 : (p ++ q)[i + 1]? = some 124 := by
      have := congrArg (fun l : List Nat => l[1]?) e1
      simpa [List.getElem?_take, List.getElem?_drop] using this
    by_cases hl : i + 1 < p.length
    · rw [List.getElem?_append_left hl] at e2
      exact h (List.mem_of_getElem? e2)
    · rw [List.getElem?_append_right (by omega)] at e2
      have e0 : i + 1 - p.length = 0 := by omega
      rw [e0] at e2
      rcases hq with rfl | ⟨r, rfl⟩
      · simp at e2
      · simp at e2
theorem spl_bar : ∀ {ps : List (List Nat)}, ps ≠ [] → (∀ p ∈ ps, 124 ∉ p) → TL.spl [32, 124, 32] 0 [] (TL.joinL [32, 124, 32] ps) = ps
  | [], h, _ => absurd rfl h
  | [p], _, hp => by
    show TL.spl [32, 124, 32] 0 [] p = [p]
    have z := bar_miss (p := p) (q := []) (hp p (by simp)) (.inl rfl)
    rw [List.append_nil] at z
    rw [TL.spl_last z, List.nil_append]
  | p :: q :: r, _, hp => by
    show TL.spl [32, 124, 32] 0 [] (p ++ ([32, 124, 32] ++ TL.joinL [32, 124, 32] (q :: r))) = _
    rw [TL.spl_part (by simp) (bar_miss (hp p (by simp)) (.inr ⟨_, rfl⟩)), List.nil_append,
      spl_bar (by simp) fun z hz => hp z (by simp only [List.mem_cons] at hz ⊢; exact .inr hz)]
theorem split_rule {r : Ru} (hne : r ≠ []) (g : ∀ h ∈ r, GH h) : Txt.split (ruleT r) bar = r.map heapT := by
  refine TL.map_tl_inj ?_
  rw [TL.split_spl _ _ (by rw [tl_bar]; simp) (TL.kind_ok bar_ascii), tl_bar]
  unfold ruleT
  rw [if_neg hne, tl_joinT, tl_bar]
  refine spl_bar (by simpa using hne) fun p hp => ?_
  obtain ⟨x, hx, rfl⟩ := List.mem_map.mp hp
  obtain ⟨h, hh, rfl⟩ := List.mem_map.mp hx
  exact heapT_free (g h hh)
theorem split_heap {h : Ht} (hne : h ≠ []) (g : GH h) : Txt.split (heapT h) sp = h.map num := by
  unfold heapT
  rw [if_neg hne]
  exact split_words (by simpa using hne) fun w hw => by
    obtain ⟨p, hp, rfl⟩ := List.mem_map.mp hw
    exact wd_num (by have := g.lo p hp; omega)
/-! ### what is not what -/
theorem numL_head {n : Nat} (h : 1 ≤ n) : ∃ c r, TL.numL n = c :: r ∧ 49 ≤ c ∧ c ≤ 57 := by
  induction n using Nat.strongRecOn with
  | _ n ih =>
    by_cases hn : n < 10
    · exact ⟨48 + n, [], TL.numL_lt hn, by omega, by omega⟩
    · obtain ⟨c, r, e, h1, h2⟩ := ih (n / 10) (by omega) (by omega)
      exact ⟨c, r ++ [48 + n % 10], by rw [TL.numL_step (by omega), e]; rfl, h1, h2⟩
theorem num_head {i : Int} (h : 1 ≤ i) : ∃ c r, TL.tl (num i) = c :: r ∧ 49 ≤ c ∧ c ≤ 57 := by
  obtain ⟨c, r, e, h1, h2⟩ := numL_head (n := i.toNat) (by omega)
  exact ⟨c, r, by rw [tl_num (by omega), e], h1, h2⟩
theorem heapT_none {h : Ht} (g : GH h) : heapT h = "none" ↔ h = [] := by
  constructor
  · intro e
    cases h with
    | nil => rfl
    | cons p r =>
      exfalso
      have := congrArg TL.tl e
      rw [show heapT (p :: r) = Txt.join sp ((p :: r).map num) from if_neg (by simp), tl_joinT, tl_none] at this
      obtain ⟨c, t, ec, h1, h2⟩ := num_head (g.lo p (by simp))
      have hd : (TL.joinL (TL.tl sp) (((p :: r).map num).map TL.tl)).head? = some c := by
        cases r with
        | nil => simp [TL.joinL, ec]
        | cons q r => simp [TL.joinL, ec]
      rw [this] at hd
      simp at hd
      omega
  · rintro rfl; rfl
theorem heapT_head {h : Ht} (g : GH h) : ∃ c r, TL.tl (heapT h) = c :: r ∧ (c = 110 → TL.tl (heapT h) = [110, 111, 110, 101]) := by
  cases h with
  | nil => exact ⟨110, _, tl_none, fun _ => tl_none⟩
  | cons p r =>
    obtain ⟨c, t, ec, h1, h2⟩ := num_head (g.lo p (by simp))
    rw [show heapT (p :: r) = Txt.join sp ((p :: r).map num) from if_neg (by simp), tl_joinT]
    cases r with
    | nil => exact ⟨c, t, by simp [TL.joinL, ec], fun z => by omega⟩
    | cons q r => exact ⟨c, t ++ (TL.tl sp ++ TL.joinL (TL.tl sp) (TL.tl (num q) :: List.map TL.tl (List.map num r))), by simp only [List.map_cons, TL.joinL, ec, List.cons_append], fun z => by omega⟩
theorem ruleT_none {r : Ru} (g : ∀ h ∈ r, GH h) : ruleT r = "no heaps" ↔ r = [] := by
  constructor
  · intro e
    cases r with
    | nil => rfl
    | cons h r =>
      exfalso
      have e1 := split_rule (r := h :: r) (by simp) g
      rw [e] at e1
      have e2 : Txt.split ("no heaps" : Str) bar = [("no heaps" : Str)] := by decide +kernel
      rw [e2, List.map_cons] at e1
      have e3 : heapT h = "no heaps" := by injection e1 with a _; exact a.symm
      obtain ⟨c, t, ec, hc⟩ := heapT_head (g h (by simp))
      have e4 := congrArg TL.tl e3
      rw [tl_noheaps] at e4
      rw [e4] at ec
      injection ec with ec1 _
      have := hc ec1.symm
      rw [e4] at this
      simp at this
  · rintro rfl; rfl
end Kd
/-! ## Heaps that lie in heaps, joined heaps, choices, sums -/
namespace Kd
open PySem PySem.Spec PyProof.Rows L2
def lies (a b : Ht) : Bool := a.all fun p => decide (a.count p ≤ b.count p)
def firstIn (r : Ru) (h : Ht) : Option Nat := r.findIdx? fun o => lies o h
/-- the first number of r's heaps that lies in h -/
def IsFirst (r : Ru) (h : Ht) : Option Nat → Prop
  | some i => (∃ o, r[i]? = some o ∧ lies o h = true) ∧ ∀ j o, j < i → r[j]? = some o → lies o h = false
  | none => ∀ (j : Nat) o, r[j]? = some o → lies o h = false
theorem isFirst_eq {r : Ru} {h : Ht} {o : Option Nat} (f : IsFirst r h o) : firstIn r h = o := by
  unfold firstIn
  cases o with
  | none =>
    rw [List.findIdx?_eq_none_iff]
    intro x hx
    obtain ⟨j, hj⟩ := List.getElem?_of_mem hx
    exact f j x hj
  | some i =>
    obtain ⟨⟨o, ho, hl⟩, hf⟩ := f
    rw [List.findIdx?_eq_some_iff_getElem]
    obtain ⟨hi, e⟩ := List.getElem?_eq_some_iff.mp ho
    refine ⟨hi, by rw [e]; exact hl, fun j hj => ?_⟩
    have := hf j (r[j]'(by omega)) hj (List.getElem?_eq_getElem (by omega))
    simp [this]

/-! ### joined -/
def mx : List Ht → Int → Nat
  | [], _ => 0
  | h :: r, p => max (h.count p) (mx r p)
theorem mx_le {hs : List Ht} {h : Ht} (hh : h ∈ hs) (p : Int) : h.count p ≤ mx hs p := by
  induction hs with
  | nil => simp at hh
  | cons k r ih =>
    unfold mx
    rcases List.mem_cons.mp hh with rfl | q
    · omega
    · have := ih q; omega
theorem mx_zero {hs : List Ht} {p : Int} (h : ∀ k ∈ hs, p ∉ k) : mx hs p = 0 := by
  induction hs with
  | nil => rfl
  | cons k r ih =>
    unfold mx
    rw [ih fun z hz => h z (List.mem_cons_of_mem _ hz), List.count_eq_zero.mpr (h k (List.mem_cons_self ..))]
    rfl
/-- a greatest of the counts is mx -/
theorem mx_of {hs : List Ht} {p : Int} {m : Nat} (hm : m ∈ hs.map (fun h => h.count p)) (hle : ∀ y ∈ hs.map (fun h => h.count p), y ≤ m) : m = mx hs p := by
  apply Nat.le_antisymm
  · obtain ⟨h, hh, rfl⟩ := List.mem_map.mp hm
    exact mx_le hh p
  · clear hm
    induction hs with
    | nil => simp [mx]
    | cons k r ih =>
      unfold mx
      have h1 := hle (k.count p) (by simp)
      have h2 := ih fun y hy => hle y (by simp only [List.map_cons, List.mem_cons]; exact .inr hy)
      omega
def addH (h : Ht) (acc : Ht) (p : Int) : Ht := if acc.count p < h.count p then acc ++ [p] else acc
theorem count_addH (h : Ht) (p : Int) : ∀ (t acc : Ht), (t.foldl (addH h) acc).count p = max (acc.count p) (min (acc.count p + t.count p) (h.count p))
  | [], acc => by simp only [List.foldl_nil, List.count_nil]; omega
  | q :: t, acc => by
    rw [List.foldl_cons, count_addH h p t]
    unfold addH
    by_cases e : q = p
    · subst e
      rw [List.count_cons_self]
      split
      · rw [List.count_append, List.count_singleton_self]; omega
      · omega
    · rw [List.count_cons_of_ne e]
      split
      · rw [List.count_append, List.count_singleton]
        have : (q == p) = false := by simpa using e
        rw [this]; simp
      · rfl
theorem count_addH_all (h : Ht) (p : Int) (acc : Ht) : (h.foldl (addH h) acc).count p = max (acc.count p) (h.count p) := by
  rw [count_addH]; omega
theorem mx_snoc (hs : List Ht) (h : Ht) (p : Int) : mx (hs ++ [h]) p = max (mx hs p) (h.count p) := by
  induction hs with
  | nil => simp [mx]
  | cons k r ih => simp only [List.cons_append, mx, ih]; omega
/-- a joined heap, in some order -/
def IsJ (hs : List Ht) (l : Ht) : Prop := ∀ p, l.count p = mx hs p
theorem IsJ.perm {hs : List Ht} {l m : Ht} (a : IsJ hs l) (b : IsJ hs m) : l.Perm m := List.perm_iff_count.mpr fun p => (a p).trans (b p).symm
theorem isJ_nil : IsJ [] [] := fun p => rfl
theorem isJ_snoc {hs : List Ht} {l : Ht} (a : IsJ hs l) (h : Ht) : IsJ (hs ++ [h]) (h.foldl (addH h) l) := fun p => by
  rw [count_addH_all, mx_snoc, a p]
def lawJ (hs : List Ht) : Ht := hs.foldl (fun acc h => h.foldl (addH h) acc) []
theorem isJ_take {hs : List Ht} : ∀ i, i ≤ hs.length → IsJ (hs.take i) ((hs.take i).foldl (fun acc h => h.foldl (addH h) acc) [])
  | 0, _ => by simpa using isJ_nil
  | i + 1, hi => by
    have ih := isJ_take (hs := hs) i (by omega)
    rw [List.take_add_one, List.getElem?_eq_getElem (by omega)]
    simp only [Option.toList_some, List.foldl_append, List.foldl_cons, List.foldl_nil]
    exact isJ_snoc ih _
theorem isJ_law (hs : List Ht) : IsJ hs (lawJ hs) := by
  have := isJ_take (hs := hs) hs.length (Nat.le_refl _)
  rw [List.take_length] at this
  exact this
def jsum (hs : List Ht) : Int := (lawJ hs).sum
theorem perm_sum {l m : List Int} (h : l.Perm m) : l.sum = m.sum := by
  induction h with
  | nil => rfl
  | cons x _ ih => simp only [List.sum_cons, ih]
  | swap x y l => simp only [List.sum_cons]; omega
  | trans _ _ a b => exact a.trans b
theorem isJ_sum {hs : List Ht} {l : Ht} (a : IsJ hs l) : l.sum = jsum hs := perm_sum (a.perm (isJ_law hs))
/-- the program's: for each key so many -/
theorem isJ_keys {hs : List Ht} {ks : List Int} (nd : ks.Nodup) (hk : ∀ p, p ∈ ks ↔ ∃ h ∈ hs, p ∈ h) : IsJ hs (ks.flatMap fun p => List.replicate (mx hs p) p) := by
  intro p
  have key : ∀ l : List Int, l.Nodup → (l.flatMap fun q => List.replicate (mx hs q) q).count p = if p ∈ l then mx hs p else 0 := by
    intro l
    induction l with
    | nil => intro _; rfl
    | cons a r ih =>
      intro hn
      obtain ⟨h1, h2⟩ := List.nodup_cons.mp hn
      rw [List.flatMap_cons, List.count_append, ih h2, List.count_replicate]
      by_cases e : a = p
      · subst e
        simp [h1]
      · have e1 : (a == p) = false := by simpa using e
        have e2 : (p ∈ a :: r) ↔ p ∈ r := by simp [Ne.symm e]
        simp only [e1, e2]
        simp
  rw [key ks nd]
  split
  · rfl
  · rename_i hn
    refine (mx_zero fun k hk' hp => hn ((hk p).mpr ⟨k, hk', hp⟩)).symm

/-! ### choices -/
/-- all choices of n heaps, by the bits of their counting -/
def chs (n : Nat) : List (List Nat) := (List.range (2 ^ n)).map fun c => (List.range n).filter fun i => decide (c / 2 ^ i % 2 = 1)
/-- the law's -/
def lch : Nat → List (List Nat)
  | 0 => [[]]
  | n + 1 => lch n ++ (lch n).map fun c => c ++ [n]
theorem lch_eq : ∀ n, n ≤ 6 → lch n = chs n := by decide +kernel
theorem chs_lt {n : Nat} {c : List Nat} (h : c ∈ chs n) : ∀ i ∈ c, i < n := by
  intro i hi
  obtain ⟨k, _, rfl⟩ := List.mem_map.mp h
  exact List.mem_range.mp (List.mem_filter.mp hi).1
theorem chs_length (n : Nat) : (chs n).length = 2 ^ n := by simp [chs]
def pick (r : Ru) (c : List Nat) : List Ht := c.map fun i => r.getD i []
def sumsL (r : Ru) : List Int := (chs r.length).map fun c => jsum (pick r c)
abbrev Un3 := List Nat × Int × Int
def rows (a b : Ru) : List Un3 := (chs a.length).map fun c => (c, jsum (pick a c), jsum (pick b c))
def unlike (a b : Ru) : Option Un3 := (rows a b).find? fun t => decide (t.2.1 ≠ t.2.2)
theorem rows_get {a b : Ru} {i : Nat} {c : List Nat} (h : (chs a.length)[i]? = some c) : (rows a b)[i]? = some (c, jsum (pick a c), jsum (pick b c)) := by
  unfold rows
  rw [List.getElem?_map, h]; rfl
theorem unlike_some {a b : Ru} {i : Nat} {t : Un3} (ht : (rows a b)[i]? = some t) (hne : t.2.1 ≠ t.2.2) (hf : ∀ j u, j < i → (rows a b)[j]? = some u → u.2.1 = u.2.2) : unlike a b = some t := by
  unfold unlike
  rw [List.find?_eq_some_iff_getElem]
  obtain ⟨hi, e⟩ := List.getElem?_eq_some_iff.mp ht
  refine ⟨by simpa using hne, i, hi, e, fun j hj => ?_⟩
  have := hf j ((rows a b)[j]'(by omega)) hj (List.getElem?_eq_getElem (by omega))
  simp [this]
theorem unlike_none {a b : Ru} (hf : ∀ (j : Nat) u, (rows a b)[j]? = some u → u.2.1 = u.2.2) : unlike a b = none := by
  unfold unlike
  rw [List.find?_eq_none]
  intro x hx
  obtain ⟨j, hj⟩ := List.getElem?_of_mem hx
  simp [hf j x hj]
end Kd
/-! ## Rules that the layer lacks: tuple.count, enumerate of a tuple, zip of three lists, xs[i] op= e, text op= text, clauses with and without a name -/
namespace Kd
open PySem PySem.Spec PyProof.Rows L2
section
variable {X : Cx}
/-- t.count(k), t a tuple of ints -/
def rTCnt (K : PySem.W.Frag) : V → List V → Hp → VK → Prop := fun x args H Q => ∃ (p : Addr) (parts : List Int) (k : Int),
  x = .ref p ∧ args = [.int k] ∧ SqT K H p (parts.map V.int) ∧ Q (.int ((parts.count k : Nat) : Int)) H
theorem mt_tcnt : MtR X "tuple.count" (rTCnt X.K) := by
  intro pins s σ H x args v us Q I rx ra h
  obtain ⟨p, parts, k, ex, ea, ht, q⟩ := h
  subst ex ea
  cases rx
  obtain ⟨u, hus, ru⟩ := ra.one
  subst hus
  obtain ⟨tk, hu⟩ := ru
  subst hu
  obtain ⟨vals, rv, pt, _⟩ := I.tuple ht
  obtain ⟨ob, hob, hcl, n, hdat⟩ := pt
  obtain ⟨c0, d0, dat0, sl0⟩ := ob
  simp only at hcl hdat
  subst hcl hdat
  have isI := ints_of_vals rv
  refine call_meets PySem.F.slot_tuple_count ⟨_, hob, rfl⟩ PySem.F.entry_tuple_count (PySem.F.args_tuple_count_2 _ _) (SeqAt.tuple_countAt p vals.toArray n d0 sl0 (.int k tk) (eqk k)) ⟨hob, fun y hy => ?_, ?_⟩
  · exact (eqk_gives isI y (by simpa using hy)).at _ _
  · have same : vals.toArray.toList.countP (eqk k) = parts.count k := eqk_count isI
    refine ⟨.int ((parts.count k : Nat) : Int), H, I.tok _, ⟨s.toks, ?_⟩, q⟩
    rw [same]

/-! ### enumerate of a tuple -/
def ItEnT (t : Addr) : It where
  go := fun i H => ∃ (xs : List V) (x : V), H t = some (.tup xs) ∧ xs[i]? = some x
  yld := fun i H v H' => ∃ (T : Addr) (x : V), v = .ref T ∧ H T = none ∧ H' = upd H T (.tup [.int ((i : Nat) : Int), x]) ∧ ∀ xs, H t = some (.tup xs) → xs[i]? = some x
  stop := fun i H => ∃ xs : List V, H t = some (.tup xs) ∧ xs.length = i
theorem turn_enT {P : Program} {w : World} {K : PySem.W.Frag} {elts : List Expr} {kk : Nat} {tpos : Pos} (t e it : Addr) :
    Turn P w K (.Tuple elts kk tpos) (ItEnT t) [e, it] e (fun i h => (∃ old, IsEnum h e it ((i : Nat) : Int) old) ∧ h.IsTupleIter it t i ∧ e ≠ it) where
  mem := List.mem_cons_self
  obj := by
    intro i h st b hb
    obtain ⟨⟨old, he⟩, ⟨o, ho, _, hd⟩, _⟩ := st
    rcases List.mem_cons.mp hb with q | q
    · subst q
      exact ⟨_, he, fun v z => by cases z⟩
    · obtain rfl := List.mem_singleton.mp q
      exact ⟨o, ho, fun v z => by rw [hd] at z; cases z⟩
  keep := by
    intro i h h' st k
    obtain ⟨⟨old, he⟩, hit, hne⟩ := st
    exact ⟨⟨old, k e List.mem_cons_self _ he⟩, hit.at fun o q => k it (by simp) o q, hne⟩
  item := by
    intro X hP hw hK hc i pins s σ H E I hf st hg
    subst hP hw hK
    obtain ⟨⟨old, he⟩, hit, hne⟩ := st
    obtain ⟨xs, x, ht, hx⟩ := hg
    obtain ⟨vals, rv, pt, _⟩ := I.tuple (SqT.of ht)
    obtain ⟨u, hu, ru⟩ := rv.get hx
    have tit : t ≠ it := fun z => by
      have q := (hf it (by simp)).1
      rw [← z, ht] at q
      cases q
    have te : t ≠ e := fun z => by
      have q := (hf e (by simp)).1
      rw [← z, ht] at q
      cases q
    have le : e < s.heap.objs.size := Heap.lt_size he
    have li : it < s.heap.objs.size := by
      obtain ⟨o, q, _⟩ := hit
      exact Heap.lt_size q
    have lti : i < vals.toArray.size := by
      have := (List.getElem?_eq_some_iff.mp hu).1
      simpa using this
    refine wpAny_pyNext_enum_itemD (Draws.tuple (A := X.A.in1) (show X.A.in1.handled = none from I.ok.hd hc) it t tit vals.toArray) he ⟨hit, pt⟩ lti hne (by simp [hne, Ne.symm te]) fun y h' tk hy ho hst hT hsz hk => ?_
    have ey : y = u := by
      have q : vals.toArray[i]? = some u := by simpa using hu
      rw [q] at hy
      exact (Option.some.inj hy).symm
    subst ey
    refine ⟨_, rfl, wpAny_letOwnedTupleGo_enum (s := { s with heap := h', toks := tk + 1 }) ho fun h2 he2 sb => ?_⟩
    have hT2 := (sb.2 _ (Nat.ne_of_gt le)).trans hT
    have new : ObjOk X.prog X.w (upd H s.heap.objs.size (.tup [.int ((i : Nat) : Int), x])) h2 s.heap.objs.size (.tup [.int ((i : Nat) : Int), x]) :=
      ⟨by show 2 ≤ sizeLine; decide, [.int i tk, y], .cons ⟨tk, rfl⟩ (.cons ru .nil), ⟨_, hT2, rfl, _, rfl⟩⟩
    have J : Inv X pins σ (upd H s.heap.objs.size (.tup [.int ((i : Nat) : Int), x])) { s with heap := h2, toks := tk + 1 } :=
      I.turnedNew (ch := [e, it]) (fun b ob hb q => (sb.2 b fun z => hb (by simp [z])).trans (hk b ob (fun z => hb (by simp [z])) (fun z => hb (by simp [z])) q)) hf (Nat.le_refl _) new
    refine ⟨.ref s.heap.objs.size, _, J, rfl, ⟨_, x, rfl, I.hok.fresh (Nat.le_refl _), rfl, fun ys hy2 => ?_⟩, ⟨⟨y, ?_⟩, hst.1.at fun o q => (sb.2 it (Ne.symm hne)).trans q, hne⟩, fun b hb => ?_⟩
    · rw [ht] at hy2
      cases hy2
      exact hx
    · have cast : ((i + 1 : Nat) : Int) = (i : Int) + 1 := by omega
      rw [cast]
      exact he2
    · have lb : b < s.heap.objs.size := by
        rcases List.mem_cons.mp hb with z | z
        · rw [z]; exact le
        · rw [List.mem_singleton.mp z]; exact li
      rw [upd_ne (Nat.ne_of_lt lb)]
      exact (hf b hb).1
  done := by
    intro X hP hw hK hc i pins s σ H E I hf st hg
    subst hP hw hK
    obtain ⟨⟨old, he⟩, hit, hne⟩ := st
    obtain ⟨xs, ht, hl⟩ := hg
    obtain ⟨vals, rv, pt, _⟩ := I.tuple (SqT.of ht)
    have tit : t ≠ it := fun z => by
      have q := (hf it (by simp)).1
      rw [← z, ht] at q
      cases q
    have len := rv.length
    obtain ⟨f0, f1, f2, f3, f4, f5⟩ := hf it (by simp)
    have ei : i = vals.toArray.size := by rw [List.size_toArray]; omega
    subst ei
    exact wpAny_pyNext_enum_endD (Draws.tuple (A := X.A.in1) (show X.A.in1.handled = none from I.ok.hd hc) it t tit vals.toArray) he ⟨hit, pt⟩ fun h' eb => ⟨rfl, I.turned (t' := s.toks) (fun b o hb q => eb b o hb q) f0 f1 f3 f4 f5⟩
  self := by
    intro A i s Q E st h
    obtain ⟨⟨old, he⟩, _⟩ := st
    exact wpAny_pyIter_enum he h
/-- the object that enumerate(v) makes over its iterator at a -/
abbrev enObj (a : Addr) : Obj := { cls := .type "enumerate", data := .fields #[.none, .bool false, .ref a, rawInt 0, .none, .none] }
theorem meets_en1 {v : Value} {o : Obj} {G : Heap → Prop} (B : Begins v o G) :
    Meets (Builtin.«enumerate.__new__» ⟨[.type "enumerate", v], []⟩)
      (fun _ R s => G s.heap ∧ R (.ok (.ret (.ref (s.heap.push o).objs.size))) { s with heap := (s.heap.push o).push (enObj s.heap.objs.size) }) := by
  refine .of_wp fun prog w A R s hh => ?_
  obtain ⟨g1, hR⟩ := hh
  obtain ⟨hp, gs, dr, tk, os⟩ := s
  have hsub := sub_enumerate
  have step : ∀ {A' : Around} {E' : Value → Shared → Prop} {Q' : Value → Shared → Prop}, Q' (.ref hp.objs.size) ⟨hp.push o, gs, dr, tk, os⟩ → wpAny (model prog w) A' (pyIter v) Q' E' ⟨hp, gs, dr, tk, os⟩ :=
    fun {A' E' Q'} q => B.iter prog w A' E' ⟨hp, gs, dr, tk, os⟩ Q' g1 q
  wp_walk using step
  refine wpAny_stack_any fun stk => wpAny_pure ?_
  split
  · rename_i c _ _ _ _ _
    cases (c == Value.type "enumerate") <;> (wp_walk using step; exact ⟨_, rfl, hR⟩)
  · wp_walk using step
    exact ⟨_, rfl, hR⟩
theorem enum_begins_tup {P : Program} {w : World} {A : Around} {E : Value → Shared → Prop} {s : Shared} {t : Addr} {vals : Array Value} {Q : Value → Shared → Prop} (pt : IsTup s.heap t vals)
    (h : ∀ h', IsEnum h' (s.heap.objs.size + 1) s.heap.objs.size 0 .none → h'.IsTupleIter s.heap.objs.size t 0 → (∀ b o, s.heap.get? b = some o → h'.get? b = some o) → Q (.ref (s.heap.objs.size + 1)) { s with heap := h' }) :
    wpAny (model P w) A (call (.type "enumerate") [.ref t]) Q E s := by
  refine callType_new F.called_enumerate (by decide) (F.typeCall_enumerate_1 _) (F.newCall_enumerate_1 _) (fun obj => F.args_object_init_2 obj _) F.entry_enumerate_new (meets_en1 (begins_tuple t vals)) ⟨pt, ?_⟩
  generalize ho : ({ cls := .type "tuple_iterator", data := .fields #[.ref t, .int 0 0] } : Obj) = o
  have fr : o.isFreed = false := by subst ho; rfl
  have sz : (s.heap.push o).objs.size = s.heap.objs.size + 1 := Heap.size_push ..
  have en : IsEnum ((s.heap.push o).push (enObj s.heap.objs.size)) (s.heap.objs.size + 1) s.heap.objs.size 0 .none := by
    have q := Heap.get?_push_size (s.heap.push o) (o := enObj s.heap.objs.size) rfl
    rw [sz] at q
    exact q
  show _ ∧ _
  rw [sz]
  refine ⟨⟨_, en, rfl⟩, h _ en ⟨o, Heap.get?_push_of_some _ (Heap.get?_push_size _ fr), by subst ho; rfl, by subst ho; rfl⟩ fun b ob q => Heap.get?_push_of_some _ (Heap.get?_push_of_some _ q)⟩
def iEnT (ta : TA) : TI := fun σ H R => ta σ H fun vs H1 => ∃ t xs, vs = [.ref t] ∧ H1 t = some (.tup xs) ∧ R (ItEnT t) H1
theorem pi_enT {e : Expr} {ta : TA} {p pos tpos : Pos} {elts : List Expr} {kk : Nat} (hg : Gl X "enumerate") (hm : X.mg "enumerate" = none) (ha : PA X [e] ta) (hs : starEach [e] X.env = [(false, eval e X.env)] := by rfl) :
    PI X (.Tuple elts kk tpos) (.Call (.Name "enumerate" p) [e] [] pos) (iEnT ta) := by
  refine ⟨fun pins s σ H R I h => ?_⟩
  refine Call_ (ld_blt I hg hm boot_enumerate (PyProof.Rows.callWith_type1 (thn (ha.run pos pins s σ H _ I h) fun us s1 hh => ?_) hs rfl))
  obtain ⟨vs, H1, I1, r1, t, xs, ev, ht, q⟩ := hh
  subst ev
  obtain ⟨u, hu, ru⟩ := r1.one
  subst hu
  cases ru
  obtain ⟨vals, rv, pt, _⟩ := I1.tuple (SqT.of ht)
  refine enum_begins_tup (vals := vals.toArray) pt fun h' he hit hk => wpAny_pyIter_enum he ?_
  have I2 : Inv X pins σ H1 { s1 with heap := h' } := I1.kept (t' := s1.toks) hk
  refine ⟨s1.heap.objs.size + 1, [s1.heap.objs.size + 1, s1.heap.objs.size], _, _, H1, rfl, I2, turn_enT t _ _, ⟨⟨.none, he⟩, hit, Nat.succ_ne_self _⟩, fun b hb => ?_, q⟩
  have lb : s1.heap.objs.size ≤ b := by
    rcases List.mem_cons.mp hb with z | z
    · rw [z]; exact Nat.le_succ _
    · rw [List.mem_singleton.mp z]; exact Nat.le_refl _
  exact I1.fpOk lb (I1.hok.fresh lb)
end
end Kd
namespace Kd
open PySem PySem.Spec PyProof.Rows L2
theorem walk_enT {t : Addr} {xs : List V} : Walk (ItEnT t) xs.length (fun H => H t = some (.tup xs)) (YPair (fun i => some (.int ((i : Nat) : Int))) (fun i => xs[i]?)) where
  goes := fun i H hi q => ⟨xs, xs[i], q, List.getElem?_eq_getElem hi⟩
  stops := fun H q => ⟨xs, q, rfl⟩
  yields := fun i H v H' _ q y => by
    obtain ⟨T, x, h1, h2, h3, h4⟩ := y
    exact ⟨T, _, x, h1, h2, h3, rfl, h4 xs q⟩
/-! ### zip of three lists -/
def ItZ3 (a b c : Addr) : It where
  go := fun i H => ∃ (xs ys zs : List V) (x y z : V), H a = some (.lst xs) ∧ H b = some (.lst ys) ∧ H c = some (.lst zs) ∧ xs[i]? = some x ∧ ys[i]? = some y ∧ zs[i]? = some z
  yld := fun i H v H' => ∃ (T : Addr) (x y z : V), v = .ref T ∧ H T = none ∧ H' = upd H T (.tup [x, y, z]) ∧
    (∀ xs, H a = some (.lst xs) → xs[i]? = some x) ∧ (∀ ys, H b = some (.lst ys) → ys[i]? = some y) ∧ ∀ zs, H c = some (.lst zs) → zs[i]? = some z
  stop := fun i H => ∃ xs ys zs : List V, H a = some (.lst xs) ∧ H b = some (.lst ys) ∧ H c = some (.lst zs) ∧ xs.length = i ∧ ys.length = i ∧ zs.length = i
theorem walk_z3 {a b c : Addr} {xs ys zs : List V} (h1 : ys.length = xs.length) (h2 : zs.length = xs.length) : Walk (ItZ3 a b c) xs.length (fun H => H a = some (.lst xs) ∧ H b = some (.lst ys) ∧ H c = some (.lst zs))
    (fun i H v H' => ∃ (T : Addr) (x y z : V), v = .ref T ∧ H T = none ∧ H' = upd H T (.tup [x, y, z]) ∧ xs[i]? = some x ∧ ys[i]? = some y ∧ zs[i]? = some z) where
  goes := fun i H hi q => ⟨xs, ys, zs, xs[i], ys[i]'(by omega), zs[i]'(by omega), q.1, q.2.1, q.2.2, List.getElem?_eq_getElem _, List.getElem?_eq_getElem _, List.getElem?_eq_getElem _⟩
  stops := fun H q => ⟨xs, ys, zs, q.1, q.2.1, q.2.2, rfl, h1, h2⟩
  yields := fun i H v H' _ q y => by
    obtain ⟨T, x, y, z, e1, e2, e3, e4, e5, e6⟩ := y
    exact ⟨T, x, y, z, e1, e2, e3, e4 _ q.1, e5 _ q.2.1, e6 _ q.2.2⟩
/-- where the cells of a zip of three lie: N, N + 1, N + 2 the iterators, N + 3 the tuple of these, N + 4 the tuple given out, N + 5 the zip -/
def z3Fp (N : Nat) : List Addr := [N + 5, N + 3, N + 4, N, N + 1, N + 2]
def z3St (N : Nat) (a b c : Addr) : Nat → Heap → Prop := fun i h => IsZip h (N + 5) (N + 3) (N + 4) .none ∧ IsTupOf3 h (N + 3) (.ref N) (.ref (N + 1)) (.ref (N + 2)) ∧
  (∃ x y z, IsTupOf3 h (N + 4) x y z) ∧ h.IsListIter N a i ∧ h.IsListIter (N + 1) b i ∧ h.IsListIter (N + 2) c i
theorem ltne {a N : Nat} (k : Nat) (h : a < N) : a ≠ N + k := by omega
theorem z3_mem {N b : Nat} (h : b ∈ z3Fp N) : N ≤ b ∧ b ≤ N + 5 := by
  simp only [z3Fp, List.mem_cons, List.not_mem_nil, or_false] at h
  rcases h with rfl | rfl | rfl | rfl | rfl | rfl <;> omega
theorem turn_z3 {P : Program} {w : World} {K : PySem.W.Frag} {elts : List Expr} {kk : Nat} {tpos : Pos} (N : Nat) {a b c : Addr} (la : a < N) (lb : b < N) (lc : c < N) :
    Turn P w K (.Tuple elts kk tpos) (ItZ3 a b c) (z3Fp N) (N + 5) (z3St N a b c) where
  mem := by simp [z3Fp]
  obj := by
    intro i h st d hd
    obtain ⟨s1, s2, ⟨x, y, z, s3⟩, ⟨o4, s4, _, d4⟩, ⟨o5, s5, _, d5⟩, ⟨o6, s6, _, d6⟩⟩ := st
    simp only [z3Fp, List.mem_cons, List.not_mem_nil, or_false] at hd
    rcases hd with rfl | rfl | rfl | rfl | rfl | rfl
    · exact ⟨_, s1, fun v z => by cases z⟩
    · exact ⟨_, s2, fun v z => by cases z⟩
    · exact ⟨_, s3, fun v z => by cases z⟩
    · exact ⟨o4, s4, fun v z => by rw [d4] at z; cases z⟩
    · exact ⟨o5, s5, fun v z => by rw [d5] at z; cases z⟩
    · exact ⟨o6, s6, fun v z => by rw [d6] at z; cases z⟩
  keep := by
    intro i h h' st k
    obtain ⟨s1, s2, ⟨x, y, z, s3⟩, s4, s5, s6⟩ := st
    exact ⟨k _ (by simp [z3Fp]) _ s1, k _ (by simp [z3Fp]) _ s2, ⟨x, y, z, k _ (by simp [z3Fp]) _ s3⟩, s4.at fun o q => k _ (by simp [z3Fp]) o q, s5.at fun o q => k _ (by simp [z3Fp]) o q, s6.at fun o q => k _ (by simp [z3Fp]) o q⟩
  item := by
    intro X hP hw hK hc i pins s σ H E I hf st hg
    subst hP hw hK
    obtain ⟨s1, s2, ⟨x0, y0, z0, s3⟩, s4, s5, s6⟩ := st
    obtain ⟨xs, ys, zs, x, y, z, ha, hb, hcc, hx, hy, hz⟩ := hg
    obtain ⟨va, ra, pa, _⟩ := I.list (SqL.of ha)
    obtain ⟨vb, rb, pb, _⟩ := I.list (SqL.of hb)
    obtain ⟨vc, rc, pc, _⟩ := I.list (SqL.of hcc)
    obtain ⟨ua, hua, rua⟩ := ra.get hx
    obtain ⟨ub, hub, rub⟩ := rb.get hy
    obtain ⟨uc, huc, ruc⟩ := rc.get hz
    have hh : X.A.in1.handled = none := I.ok.hd hc
    have ia : i < va.toArray.size := by simpa using (List.getElem?_eq_some_iff.mp hua).1
    have ib : i < vb.toArray.size := by simpa using (List.getElem?_eq_some_iff.mp hub).1
    have ic : i < vc.toArray.size := by simpa using (List.getElem?_eq_some_iff.mp huc).1
    have S : ZipSep3 (N + 5) (N + 3) (N + 4) N (N + 1) (N + 2) (N :: [a]) ((N + 1) :: [b]) ((N + 2) :: [c]) :=
      zip_sep3 (fun q hq => by rw [List.mem_singleton.mp hq]; exact la) (fun q hq => by rw [List.mem_singleton.mp hq]; exact lb) (fun q hq => by rw [List.mem_singleton.mp hq]; exact lc)
    have lz : N + 5 < s.heap.objs.size := Heap.lt_size s1
    refine wpAny_pyNext_zipD3_item S (Draws.list hh N a (ltne 0 la) va.toArray) (Draws.list hh (N + 1) b (ltne 1 lb) vb.toArray) (Draws.list hh (N + 2) c (ltne 2 lc) vc.toArray)
      s1 s2 s3 ⟨s4, pa.isList⟩ ⟨s5, pb.isList⟩ ⟨s6, pc.isList⟩ ia ib ic fun w1 w2 w3 h' tk e1 e2 e3 g1 g3 g4 g5 g6 hT hsz hk => ?_
    have q1 : w1 = ua := by
      have q : va.toArray[i]? = some ua := by simpa using hua
      rw [q] at e1; exact (Option.some.inj e1).symm
    have q2 : w2 = ub := by
      have q : vb.toArray[i]? = some ub := by simpa using hub
      rw [q] at e2; exact (Option.some.inj e2).symm
    have q3 : w3 = uc := by
      have q : vc.toArray[i]? = some uc := by simpa using huc
      rw [q] at e3; exact (Option.some.inj e3).symm
    subst q1 q2 q3
    refine ⟨_, rfl, wpAny_letOwnedTupleGo_zip (s := { s with heap := h', toks := tk }) g1 fun h2 g1' sb => ?_⟩
    have hT2 : h2.get? s.heap.objs.size = some { cls := .type "tuple", data := .seq #[w1, w2, w3] } := (sb.2 _ (Nat.ne_of_gt lz)).trans hT
    have new : ObjOk X.prog X.w (upd H s.heap.objs.size (.tup [x, y, z])) h2 s.heap.objs.size (.tup [x, y, z]) :=
      ⟨by show 3 ≤ sizeLine; decide, [w1, w2, w3], .cons rua (.cons rub (.cons ruc .nil)), ⟨_, hT2, rfl, _, rfl⟩⟩
    have nz : ∀ q : Addr, q ∈ z3Fp N → q ≠ N + 5 → h2.get? q = h'.get? q := fun q _ hq => sb.2 q hq
    have J : Inv X pins σ (upd H s.heap.objs.size (.tup [x, y, z])) { s with heap := h2, toks := tk } :=
      I.turnedNew (t' := tk) (ch := z3Fp N) (fun d o hd q => (sb.2 d fun e => hd (by simp [e, z3Fp])).trans (hk d o (fun e => hd (by simp [e, z3Fp])) (fun e => hd (by simp [e, z3Fp])) (fun e => hd (by simp [e, z3Fp])) (fun e => hd (by simp [e, z3Fp])) (fun e => hd (by simp [e, z3Fp])) q)) hf (Nat.le_refl _) new
    have inj : ∀ {d : Addr} {l m : List V}, H d = some (.lst l) → H d = some (.lst m) → l = m := fun {d l m} p q => by
      rw [p] at q; cases q; rfl
    refine ⟨.ref s.heap.objs.size, _, J, rfl, ⟨_, x, y, z, rfl, I.hok.fresh (Nat.le_refl _), rfl, fun l hl => by rw [inj hl ha]; exact hx, fun l hl => by rw [inj hl hb]; exact hy, fun l hl => by rw [inj hl hcc]; exact hz⟩,
      ⟨g1', ?_, ⟨w1, w2, w3, ?_⟩, ?_, ?_, ?_⟩, fun d hd => ?_⟩
    · exact (sb.2 _ (show (N + 3 : Nat) ≠ N + 5 by omega)).trans (hk _ _ (show (N + 3 : Nat) ≠ N + 5 by omega) (show (N + 3 : Nat) ≠ N + 4 by omega) (show (N + 3 : Nat) ≠ N by omega) (show (N + 3 : Nat) ≠ N + 1 by omega) (show (N + 3 : Nat) ≠ N + 2 by omega) s2)
    · exact (sb.2 _ (show (N + 4 : Nat) ≠ N + 5 by omega)).trans g3
    · exact g4.1.at fun o q => (sb.2 _ (show (N : Nat) ≠ N + 5 by omega)).trans q
    · exact g5.1.at fun o q => (sb.2 _ (show (N + 1 : Nat) ≠ N + 5 by omega)).trans q
    · exact g6.1.at fun o q => (sb.2 _ (show (N + 2 : Nat) ≠ N + 5 by omega)).trans q
    · have ld : d < s.heap.objs.size := Nat.lt_of_le_of_lt (z3_mem hd).2 lz
      rw [upd_ne (Nat.ne_of_lt ld)]
      exact (hf d hd).1
  done := by
    intro X hP hw hK hc i pins s σ H E I hf st hg
    subst hP hw hK
    obtain ⟨s1, s2, ⟨x0, y0, z0, s3⟩, s4, s5, s6⟩ := st
    obtain ⟨xs, ys, zs, ha, hb, hcc, l1, l2, l3⟩ := hg
    obtain ⟨va, ra, pa, _⟩ := I.list (SqL.of ha)
    obtain ⟨vb, rb, pb, _⟩ := I.list (SqL.of hb)
    obtain ⟨vc, rc, pc, _⟩ := I.list (SqL.of hcc)
    have hh : X.A.in1.handled = none := I.ok.hd hc
    have na := ra.length
    have nb := rb.length
    have nc := rc.length
    have S : ZipSep3 (N + 5) (N + 3) (N + 4) N (N + 1) (N + 2) (N :: [a]) ((N + 1) :: [b]) ((N + 2) :: [c]) :=
      zip_sep3 (fun q hq => by rw [List.mem_singleton.mp hq]; exact la) (fun q hq => by rw [List.mem_singleton.mp hq]; exact lb) (fun q hq => by rw [List.mem_singleton.mp hq]; exact lc)
    exact wpAny_pyNext_zipD3_end S (Draws.list hh N a (ltne 0 la) va.toArray) (Draws.list hh (N + 1) b (ltne 1 lb) vb.toArray) (Draws.list hh (N + 2) c (ltne 2 lc) vc.toArray)
      s1 s2 s3 ⟨s4, pa.isList⟩ ⟨s5, pb.isList⟩ ⟨s6, pc.isList⟩ (by rw [List.size_toArray]; omega) (by rw [List.size_toArray]; omega) (by rw [List.size_toArray]; omega) (.inl (by rw [List.size_toArray]; omega))
      fun h' tk hk => ⟨rfl, I.turnedL (t' := tk) (ch := z3Fp N) (fun d o hd q => hk d o (fun e => hd (by simp [e, z3Fp])) (fun e => hd (by simp [e, z3Fp])) (fun e => hd (by simp [e, z3Fp])) (fun e => hd (by simp [e, z3Fp])) (fun e => hd (by simp [e, z3Fp])) q) hf⟩
  self := by
    intro A i s Q E st h
    exact wpAny_pyIter_zip st.1 h
def iZ3 (ta : TA) : TI := fun σ H R => ta σ H fun vs H1 => ∃ a b c xs ys zs, vs = [.ref a, .ref b, .ref c] ∧ H1 a = some (.lst xs) ∧ H1 b = some (.lst ys) ∧ H1 c = some (.lst zs) ∧ R (ItZ3 a b c) H1
theorem pi_z3 {X : Cx} {e e2 e3 : Expr} {ta : TA} {p pos tpos : Pos} {elts : List Expr} {kk : Nat} (hg : Gl X "zip") (hm : X.mg "zip" = none) (ha : PA X [e, e2, e3] ta)
    (hs : starEach [e, e2, e3] X.env = (false, eval e X.env) :: starEach [e2, e3] X.env := by rfl) (hpl : (backTo pos (starEach [e2, e3] X.env)).any (·.1) = false := by rfl) :
    PI X (.Tuple elts kk tpos) (.Call (.Name "zip" p) [e, e2, e3] [] pos) (iZ3 ta) := by
  refine ⟨fun pins s σ H R I h => ?_⟩
  refine Call_ (ld_blt I hg hm PyProof.Rows.boot_zip (PyProof.Rows.callWith_type1 (thn (ha.run pos pins s σ H _ I h) fun us s1 hh => ?_) hs hpl))
  obtain ⟨vs, H1, I1, r1, a, b, c, xs, ys, zs, ev, hx, hy, hz, q⟩ := hh
  subst ev
  cases r1 with
  | cons r r1 =>
    cases r1 with
    | cons r' r1 =>
      cases r1 with
      | cons r2 r1 =>
        cases r1
        cases r
        cases r'
        cases r2
        obtain ⟨va, ra, pa, _⟩ := I1.list (SqL.of hx)
        obtain ⟨vb, rb, pb, _⟩ := I1.list (SqL.of hy)
        obtain ⟨vc, rc, pc, _⟩ := I1.list (SqL.of hz)
        have la : a < s1.heap.objs.size := pa.lt
        have lb : b < s1.heap.objs.size := pb.lt
        have lc : c < s1.heap.objs.size := pc.lt
        refine zip_begins3 (begins_list a va.toArray) (begins_list b vb.toArray) (begins_list c vc.toArray) pa.isList pb.isList pc.isList fun h' g1 g2 g3 g4 g5 g6 hsz hk => wpAny_pyIter_zip g1 ?_
        have I2 : Inv X pins σ H1 { s1 with heap := h' } := I1.kept (t' := s1.toks) hk
        refine ⟨s1.heap.objs.size + 5, z3Fp s1.heap.objs.size, _, _, H1, rfl, I2, turn_z3 s1.heap.objs.size la lb lc, ⟨g1, g2, ⟨_, _, _, g3⟩, ⟨_, g4, rfl, rfl⟩, ⟨_, g5, rfl, rfl⟩, ⟨_, g6, rfl, rfl⟩⟩, fun d hd => ?_, q⟩
        have ld : s1.heap.objs.size ≤ d := (z3_mem hd).1
        exact I1.fpOk ld (I1.hok.fresh ld)
section
variable {X : Cx}
/-! ### o[i] op= e, s op= t -/
theorem get_listN : PGet X (fun o i H Q => ∃ (p : Addr) (xs : List V) (j : Nat) (v : V), o = .ref p ∧ i = .int (j : Int) ∧ SqL X.K H p xs ∧ xs[j]? = some v ∧ Q v H) := by
  intro pins s σ H o i ov iv Q I ro ri h
  obtain ⟨p, xs, j, v, eo, ei, hs, hx, q⟩ := h
  subst eo ei
  cases ro
  obtain ⟨t, rfl⟩ := ri
  obtain ⟨vals, rv, pl, hz⟩ := I.list hs
  obtain ⟨u, hu, ru⟩ := rv.get hx
  have lj := (List.getElem?_eq_some_iff.mp hx).1
  have hn := line63
  exact wpAny_getItem_list pl.isList (Int.natCast_nonneg j) (by omega) (by simpa using hu) ⟨v, H, I, ru, q⟩
theorem ip_addS : PIp X .Add (fun x y H Q => ∃ i j, x = .str i ∧ y = .str j ∧ i.length + j.length ≤ sizeLine ∧ Q (.str (i ++ j)) H) := fun pins s σ H x y v u Q I rx ry h =>
  iop_add_str pins s σ H x y v u Q I rx ry h
end
end Kd
/-! ## try with several clauses, some with a name; every error of the body meets one of them -/
namespace Kd
open PySem PySem.Spec PyProof.Rows L2
/-- a clause's answer to «is it yours»: yes, then its suite; no, then the clauses behind it -/
def wOne (K : PySem.W.Frag) (c : Value) (yes no : WX) : WX := fun cls d σ H =>
  ∃ b, PySem.W.exmOne K cls c = some b ∧ (b = true → yes cls d σ H) ∧ (b = false → no cls d σ H)
/-- behind a clause with a name (slot i) the name is gone -/
def dNm (i : Nat) (D : Ends) : Ends where
  nx := fun σ H => D.nx (σ.set i none) H
  rt := D.rt
  bk := fun σ H => D.bk (σ.set i none) H
  ct := fun σ H => D.ct (σ.set i none) H
abbrev TSx := Addr → Value → Option Addr → TS
def wPlain (ts : TSx) (D : Ends) : WX := fun cls d σ H => ∀ a, H a = none → ts a cls d D σ H
def wNamed (i : Nat) (ts : TSx) (D : Ends) : WX := fun cls d σ H => ∀ a, H a = none → ts a cls d (dNm i D) (σ.set i (some (.ref a))) H
def SuOk (X : Cx) (sts : List Stmt) (ts : TSx) : Prop := ∀ (a : Addr) (oe : Obj) (cls : Value) (d : Option Addr) (pn : List (Addr × Obj)),
  Zc cls d oe → (∃ vs, oe.data = .fields vs) → PSs (X.suite a ((a, oe) :: pn)) sts (ts a cls d)
inductive HdsM (X : Cx) : List ExceptHandler → (Ends → WX) → Prop
  | nil : HdsM X [] (fun _ _ _ _ _ => False)
  | plain {x : Str} {c : Value} {ts : TSx} {st : Stmt} {sts : List Stmt} {np hp : Pos} {more : List ExceptHandler} {wm : Ends → WX} (hc : Names X x c) (hsu : SuOk X (st :: sts) ts) (r : HdsM X more wm) :
      HdsM X (.ExceptHandler (some (.Name x np)) none (st :: sts) hp :: more) (fun D => wOne X.K c (wPlain ts D) (wm D))
  | named {x n : Str} {i : Nat} {c : Value} {ts : TSx} {st : Stmt} {sts : List Stmt} {np hp : Pos} {more : List ExceptHandler} {wm : Ends → WX} (hi : X.N[i]? = some n) (hl : X.env.kindOf n = some .local) (hc : Names X x c)
      (hsu : SuOk X (st :: sts) ts) (r : HdsM X more wm) :
      HdsM X (.ExceptHandler (some (.Name x np)) (some n) (st :: sts) hp :: more) (fun D => wOne X.K c (wNamed i ts D) (wm D))
section
variable {X : Cx} {body : List Stmt} {h0 : ExceptHandler} {more : List ExceptHandler} {wm : Ends → WX} {pos : Pos} {tb : WX → TS}
/-- leaving a suite: what it ends in is what the try ends in -/
theorem sp_back {pins : List (Addr × Obj)} {D : Ends} {a : Addr} {pn : List (Addr × Obj)} {f : Flow} {s : Shared} (ok : X.Ok) (h : SP (X.suite a pn) [] D f s) (hp : pn = (a, (pn.head?.map (·.2)).getD default) :: (X.pn ++ pins)) : SP X pins D f s := by
  obtain ⟨oe, rfl⟩ : ∃ oe, pn = (a, oe) :: (X.pn ++ pins) := ⟨_, hp⟩
  cases f with
  | ret u => exact let ⟨v, s1, H1, J, r, q⟩ := h; ⟨v, s1, H1, J.unsuite ok, r, q⟩
  | next => exact let ⟨s1, H1, J, q⟩ := h; ⟨s1, H1, J.unsuite ok, q⟩
  | brk => exact let ⟨s1, H1, J, q⟩ := h; ⟨s1, H1, J.unsuite ok, q⟩
  | cont => exact let ⟨s1, H1, J, q⟩ := h; ⟨s1, H1, J.unsuite ok, q⟩
theorem ps_try_mix (hs : X.stack = X.env :: X.outer) (hf : X.env.frame = some X.env.locals) (hN : X.N.Nodup)
    (hb : ∀ (W : WX) (pn : List (Addr × Obj)) (xe : Value → Shared → Prop), Takes (X.tr pn xe) W → PassesOwn (model X.prog X.w) X.A X.env xe → PSs (X.tr pn xe) body (tb W))
    (hh : HdsM X (h0 :: more) wm) : PS X (.Try body (h0 :: more) [] [] pos) (fun D σ H => tb (wm D) D σ H) := by
  constructor
  intro pins s σ H D I h
  have ok := I.ok
  have framed : X.A.frames = some (X.env :: X.outer) := hs ▸ ok.frames
  let caught : Value → Shared → Prop := fun e s1 => wpAny (model X.prog X.w) X.A (noteFrame e X.env)
    (fun _ s2 => wpAny (model X.prog X.w) X.A (setFlight e none) (fun _ s3 => wpAny (model X.prog X.w) X.A (handleBy e X.env (h0 :: more)) (SP X pins D) X.xe s3) X.xe s2) X.xe s1
  have run := hb (wm D) (X.pn ++ pins) caught ?hcat PassesOwn.looking
  case hcat =>
    intro u s1 thrown
    obtain ⟨a, B, sI, pins1, σ1, H1, cls, d, eu, J0, nb, up, sky, na, os, ag, w0⟩ := thrown
    subst eu
    have J : Inv X pins σ1 H1 sI := J0.ofTry ok
    have skyX : Sky B (X.env :: X.outer) a (Zc cls d) X.env.locals s1.heap := by
      rw [← hs]
      exact sky
    show wpAny (model X.prog X.w) X.A (noteFrame (.ref a) X.env) _ _ _
    refine Sky.land Zc.steady framed hf skyX fun h3 fl3 up3 => ?_
    have J3 : Inv X pins σ1 H1 { s1 with heap := h3 } := J.landed nb fl3.1 (up.trans up3) os ag
    obtain ⟨o3, v3, e3, z3, d3⟩ := fl3.there
    have off : a ∉ frs (X.env :: X.outer) := fun m => by
      obtain ⟨_, o', e', bad⟩ := (fl3.2.2.1).mem m
      rw [e3] at e'
      cases e'
      exact bad _ d3
    have nL : a ≠ X.env.locals := fun z => off (by rw [z]; exact List.mem_filterMap.mpr ⟨X.env, List.mem_cons_self, hf⟩)
    have nF : a ∉ X.fs := fun m => by
      obtain ⟨en, he, q⟩ := List.mem_filterMap.mp m
      exact off (List.mem_filterMap.mpr ⟨en, List.mem_cons_of_mem _ he, q⟩)
    have S3 := J3.suite e3 d3 na nL nF
    have kind : PySem.W.Looks (model X.prog X.w) h3 (typeOf (.ref a)) cls := fun A Q E s k q => wpAny_typeOf_ref (k _ _ e3) (z3.1.symm ▸ q)
    have named : ∀ {x : Str} {c : Value} {np : Pos} {Q E : Value → Shared → Prop}, Names X x c → Q c { s1 with heap := h3 } → wpAny (model X.prog X.w) (X.A.mark (some (.ref a))) (eval (.Name x np) X.env) Q E { s1 with heap := h3 } := by
      intro x c np Q E hc q
      obtain ⟨g, db, m | ⟨m, bv, nn⟩⟩ := hc
      · exact ld_glob (X := X.suite a ((a, o3) :: (X.pn ++ pins))) S3 g m q db
      · exact ld_blt (X := X.suite a ((a, o3) :: (X.pn ++ pins))) S3 g m bv q nn db
    have go : ∀ {l : List ExceptHandler} {wl : Ends → WX}, HdsM X l wl → wl D cls d σ1 H1 → wpAny (model X.prog X.w) X.A (handleBy (.ref a) X.env l) (SP X pins D) X.xe { s1 with heap := h3 } := by
      intro l wl hl
      induction hl with
      | nil => exact fun z => z.elim
      | @plain x c ts st sts np hp l2 w2 hc hsu _ ih =>
        rintro ⟨b, hx, yes, no⟩
        refine wpAny_handleBy_cons (codeAny_handlers_test (named hc ((PySem.W.exm_one (M := model X.prog X.w) J3.kIn kind hx).here ?_))) (fun q => nomatch q)
        cases b with
        | false => exact ih (no rfl)
        | true =>
          refine codeAny_handlers_suite (HandSPX.lands_againZ fl3 fun h4 fl4 up4 => ?_)
          have J4 : Inv X pins σ1 H1 { s1 with heap := h4 } := J.landed nb fl4.1 ((up.trans up3).trans up4) os ag
          obtain ⟨o4, v4, e4, z4, d4⟩ := fl4.there
          have S4 := J4.suite e4 d4 na nL nF
          refine wpAny_mono ((hsu a o4 cls d (X.pn ++ pins) z4 ⟨_, d4⟩).run [] _ _ H1 _ S4 (yes rfl a na)) (fun f s6 q => ?_) (fun _ _ z => z.elim)
          exact sp_back ok q rfl
      | @named x n i c ts st sts np hp l2 w2 hi hl hc hsu _ ih =>
        rintro ⟨b, hx, yes, no⟩
        refine wpAny_handleBy_cons (codeAny_handlers_test (named hc ((PySem.W.exm_one (M := model X.prog X.w) J3.kIn kind hx).here ?_))) (fun q => nomatch q)
        cases b with
        | false => exact ih (no rfl)
        | true =>
          refine codeAny_handlers_suite_as (HandSPX.lands_againZ fl3 fun h4 fl4 up4 => ?_)
          have J4 : Inv X pins σ1 H1 { s1 with heap := h4 } := J.landed nb fl4.1 ((up.trans up3).trans up4) os ag
          obtain ⟨o4, v4, e4, z4, d4⟩ := fl4.there
          have S4 := J4.suite e4 d4 na nL nF
          refine store_ok (X := X.suite a ((a, o4) :: (X.pn ++ pins))) (v := .ref a) S4 hN hi (.inl hl) rfl (fun s5 S5 => ?_) (.inr hl)
          refine wpAny_mono ((hsu a o4 cls d (X.pn ++ pins) z4 ⟨_, d4⟩).run [] s5 _ H1 _ S5 (yes rfl a na)) (fun f s6 q => ?_) (fun _ _ z => z.elim)
          have out : ∀ {σ6 : L2.St} {H6 : Hp} {Q : Shared → Prop}, Inv X pins σ6 H6 s6 → (∀ s7, Inv X pins (σ6.set i none) H6 s7 → Q s7) →
              wpAny (model X.prog X.w) X.A (do bindName X.env n .none; unbindBehindTheSuite X.env n hp) (fun _ s7 => Q s7) X.xe s6 := fun {σ6 H6 Q} S6 k => gone_ok S6 hN hi hl k
          have q' : SP X pins (dNm i D) f s6 := sp_back ok q rfl
          cases f with
          | ret u =>
            obtain ⟨v6, t6, H6, S6, r6, q6⟩ := q'
            exact out S6 fun s7 J7 => ⟨v6, _, _, J7, r6, q6⟩
          | next =>
            obtain ⟨t6, H6, S6, q6⟩ := q'
            exact out S6 fun s7 J7 => ⟨_, H6, J7, q6⟩
          | brk =>
            obtain ⟨t6, H6, S6, q6⟩ := q'
            exact out S6 fun s7 J7 => ⟨_, H6, J7, q6⟩
          | cont =>
            obtain ⟨t6, H6, S6, q6⟩ := q'
            exact out S6 fun s7 J7 => ⟨_, H6, J7, q6⟩
    exact go hh w0
  refine wpAny_Try_except (wpAny_mono (run.run [] s σ H D (I.toTry _) h) (fun f s1 q => ?_) (fun e s1 q => q))
  cases f with
  | ret v => exact let ⟨v', t1, H1, J, r, q1⟩ := q; ⟨v', t1, H1, J.ofTry ok, r, q1⟩
  | next => exact let ⟨t1, H1, J, q1⟩ := q; wpAny_execs_nil ⟨t1, H1, J.ofTry ok, q1⟩
  | brk => exact let ⟨t1, H1, J, q1⟩ := q; ⟨t1, H1, J.ofTry ok, q1⟩
  | cont => exact let ⟨t1, H1, J, q1⟩ := q; ⟨t1, H1, J.ofTry ok, q1⟩
end
end Kd
/-! ## The text by places, what stands in the heap, calls in short -/
namespace Kd
open PySem PySem.Spec PyProof.Rows L2
def top (i : Nat) : Stmt := PySem.Challenge.pw_shutpairs_k50_whole_desk.main.body.getD i (.Pass ⟨0, 0, 0, 0⟩)
abbrev s_sum_of : Stmt := top 19
abbrev s_lies_in : Stmt := top 20
abbrev s_unlike_parts : Stmt := top 21
abbrev s_joined : Stmt := top 22
abbrev s_chosen : Stmt := top 26
abbrev s_choices_of : Stmt := top 27
abbrev s_joined_of : Stmt := top 28
abbrev s_sums_of : Stmt := top 30
abbrev s_first_unlike : Stmt := top 31
abbrev s_all_in : Stmt := top 38
abbrev s_first_in : Stmt := top 39
abbrev s_heap_text : Stmt := top 59
abbrev s_rule_text : Stmt := top 60
abbrev s_read_part : Stmt := top 61
abbrev s_read_heap : Stmt := top 62
abbrev s_read_rule : Stmt := top 63
abbrev s_line_words : Stmt := top 71
abbrev s_hold_many : Stmt := top 72
abbrev s_read_name : Stmt := top 73
abbrev s_first_word : Stmt := top 74
abbrev s_two_words : Stmt := top 75
abbrev s_read_number : Stmt := top 76
abbrev s_rest_heap : Stmt := top 77
abbrev s_rest_rule : Stmt := top 78
abbrev s_rule_at : Stmt := top 79
abbrev s_names_text : Stmt := top 80
abbrev s_rule_line : Stmt := top 81
abbrev s_add_line : Stmt := top 82
abbrev s_take_line : Stmt := top 83
abbrev s_copy_line : Stmt := top 84
abbrev s_drop_line : Stmt := top 85
abbrev s_names_line : Stmt := top 86
abbrev s_show_line : Stmt := top 87
abbrev s_keeps_line : Stmt := top 88
abbrev s_match_line : Stmt := top 91
abbrev s_law_start : Stmt := top 99
abbrev s_law_draw : Stmt := top 100
abbrev s_law_mix : Stmt := top 101
abbrev s_law_heap : Stmt := top 102
abbrev s_law_lies : Stmt := top 103
abbrev s_law_joined : Stmt := top 104
abbrev s_law_first : Stmt := top 105
abbrev s_law_choices : Stmt := top 106
abbrev s_law_raw_rule : Stmt := top 107
abbrev s_law_name : Stmt := top 108
abbrev s_law_heap_text : Stmt := top 109
abbrev s_law_rule_text : Stmt := top 110
abbrev s_law_names_text : Stmt := top 111
abbrev s_law_sums : Stmt := top 112
abbrev s_law_unlike : Stmt := top 113
abbrev s_law_plan : Stmt := top 114
abbrev s_law_plan_line : Stmt := top 115
abbrev s_law_next : Stmt := top 116
abbrev s_law_answer : Stmt := top 117
abbrev s_law_right : Stmt := top 118
abbrev s_law_match_due : Stmt := top 119
abbrev s_law_asks : Stmt := top 120
abbrev s_law_moved : Stmt := top 121
abbrev s_law_end : Stmt := top 122
abbrev s_law : Stmt := top 123
abbrev s_desk_init : Stmt := inClass (top 97) 0
abbrev s_desk_tell : Stmt := inClass (top 97) 1
abbrev s_desk_one_back : Stmt := inClass (top 97) 2
abbrev s_desk_one_on : Stmt := inClass (top 97) 3
abbrev s_noname_init : Stmt := inClass (top 16) 0
/-! ### heaps and rules in the heap -/
def HtAt (H : Hp) (v : V) (h : Ht) : Prop := ∃ (a : Addr) (o : Obj), v = .ref a ∧ H a = some (.frz o (.tup (h.map V.int))) ∧ o.dict = none
def RuAt (H : Hp) (v : V) (r : Ru) : Prop := ∃ (a : Addr) (vs : List V), v = .ref a ∧ H a = some (.tup vs) ∧ Paired (HtAt H) vs r
theorem HtAt.same {H H' : Hp} {v : V} {h : Ht} (s : Same H H') (x : HtAt H v h) : HtAt H' v h := by
  obtain ⟨a, o, e, ha, d⟩ := x
  exact ⟨a, o, e, s _ _ ha, d⟩
theorem RuAt.same {H H' : Hp} {v : V} {r : Ru} (s : Same H H') (x : RuAt H v r) : RuAt H' v r := by
  obtain ⟨a, vs, e, ha, p⟩ := x
  exact ⟨a, vs, e, s _ _ ha, L2.Paired.mapP p fun _ _ => HtAt.same s⟩
theorem same_upd {H : Hp} {p : Addr} {o : HO} (h : H p = none) : Same H (upd H p o) := fun b u e => by
  rw [upd_ne (ne_of_none e h)]
  exact e
theorem same_upd' {H0 H : Hp} {p : Addr} {o : HO} (s : Same H0 H) (h : H p = none) : Same H0 (upd H p o) := s.trans (same_upd h)
theorem pr_get {α β : Type} {F : α → β → Prop} : ∀ {xs : List α} {ys : List β} {i : Nat} {x : α}, Paired F xs ys → xs[i]? = some x → ∃ y, ys[i]? = some y ∧ F x y
  | _, _, _, _, .nil, e => by simp at e
  | _, _, 0, _, .cons f _, e => by
    cases e
    exact ⟨_, rfl, f⟩
  | _, _, i + 1, _, .cons _ t, e => pr_get (i := i) t e
theorem pr_get' {α β : Type} {F : α → β → Prop} : ∀ {xs : List α} {ys : List β} {i : Nat} {y : β}, Paired F xs ys → ys[i]? = some y → ∃ x, xs[i]? = some x ∧ F x y
  | _, _, _, _, .nil, e => by simp at e
  | _, _, 0, _, .cons f _, e => by
    cases e
    exact ⟨_, rfl, f⟩
  | _, _, i + 1, _, .cons _ t, e => pr_get' (i := i) t e
theorem pr_len {α β : Type} {F : α → β → Prop} : ∀ {xs : List α} {ys : List β}, Paired F xs ys → xs.length = ys.length
  | _, _, .nil => rfl
  | _, _, .cons _ t => by rw [List.length_cons, List.length_cons, pr_len t]
theorem pr_app {α β : Type} {F : α → β → Prop} : ∀ {xs : List α} {ys : List β} {xs' : List α} {ys' : List β}, Paired F xs ys → Paired F xs' ys' → Paired F (xs ++ xs') (ys ++ ys')
  | _, _, _, _, .nil, q => q
  | _, _, _, _, .cons f t, q => .cons f (pr_app t q)
theorem pr_take {α β : Type} {F : α → β → Prop} : ∀ {xs : List α} {ys : List β} (n : Nat), Paired F xs ys → Paired F (xs.take n) (ys.take n)
  | _, _, 0, _ => by rw [List.take_zero, List.take_zero]; exact .nil
  | _, _, n + 1, .nil => by rw [List.take_nil, List.take_nil]; exact .nil
  | _, _, n + 1, .cons f t => .cons f (pr_take n t)
theorem pr_drop {α β : Type} {F : α → β → Prop} : ∀ {xs : List α} {ys : List β} (n : Nat), Paired F xs ys → Paired F (xs.drop n) (ys.drop n)
  | _, _, 0, q => q
  | _, _, n + 1, .nil => by rw [List.drop_nil, List.drop_nil]; exact .nil
  | _, _, n + 1, .cons _ t => pr_drop n t
/-- of a list: each item with its image -/
theorem take_succ {α : Type} {l : List α} {i : Nat} {x : α} (h : l[i]? = some x) : l.take (i + 1) = l.take i ++ [x] := by
  rw [List.take_add_one, h]
  rfl
theorem map_get {α β : Type} {f : α → β} {l : List α} {i : Nat} {y : β} (h : (l.map f)[i]? = some y) : ∃ x, l[i]? = some x ∧ y = f x := by
  rw [List.getElem?_map] at h
  cases e : l[i]? with
  | none => rw [e] at h; cases h
  | some x => rw [e] at h; exact ⟨x, rfl, (Option.some.inj h).symm⟩
/-! ### builtins that the module's names leave free -/
structure Bi (mg : Str → Option Value) : Prop where
  len : mg "len" = none
  tuple : mg "tuple" = none
  list : mg "list" = none
  dict : mg "dict" = none
  sorted : mg "sorted" = none
  sum : mg "sum" = none
  all : mg "all" = none
  max : mg "max" = none
  range : mg "range" = none
  enumerate : mg "enumerate" = none
  zip : mg "zip" = none
  str : mg "str" = none
  int : mg "int" = none
  isinstance : mg "isinstance" = none
/-! ### a def of the text, called by its name -/
def Df (K : PySem.W.Frag) (mg : Str → Option Value) (x : Str) (st : Stmt) : Prop := ∃ (f : Addr) (fd : FuncData), FunD K x x (defArgs st) (defBody st) (defScope st) [] [] f fd ∧ mg x = some (.ref f)
structure Cl (P : Program) (w : World) (K : PySem.W.Frag) (mg : Str → Option Value) (base : Heap) (CX : CXT) (k : Nat) (x : Str) (sp : Sp) : Prop where
  ex : ∃ (f : Addr) (fd : FuncData) (ps : List Str), FnOk P w K mg base CX k f fd ps sp ∧ mg x = some (.ref f) ∧ PySem.W.keepIn K (.ref f) = true ∧ Binds K fd ps []
section
variable {P : Program} {w : World} {K : PySem.W.Frag} {mg : Str → Option Value} {base : Heap}
theorem Cl.mono {CX : CXT} {j k : Nat} {x : Str} {sp : Sp} (c : Cl P w K mg base CX j x sp) (h : j ≤ k) : Cl P w K mg base CX k x sp := by
  obtain ⟨f, fd, ps, F, r⟩ := c.ex
  exact ⟨f, fd, ps, F.mono h, r⟩
abbrev Bnd (x : Str) (st : Stmt) (ps : List Str) : Prop := ∀ (kV doc pm : Value) (an : Option Addr) (cdv ct : Value) (us : List Value), us.length = ps.length → bindArgs (PySem.W.fnOf x x (defArgs st) (defBody st) (defScope st) .none kV doc pm an cdv ct) ⟨us, []⟩ = pure (ps.zip us)
/-- a def that lets nothing out -/
theorem mk0 {x : Str} {st : Stmt} {N ps : List Str} {k : Nat} {sp : Sp} (D : Df K mg x st) (S : FnScope N ps (defScope st)) (hb : Bnd x st ps) (len : ∀ vs H Q E, sp vs H Q E → vs.length = ps.length)
    (hbody : ∀ (f : Addr) (cdv : Value) (A : Around) (outer : List Env) (s : Shared) (H : Hp) (vs : List V) (Q : VK) (E : XK), Room k (A.deeper (envOfC x (defScope st) s.heap.objs.size f cdv)) → sp vs H Q E →
      ∃ t, PSs (cxOf CX0 P w K mg base N x (defScope st) f cdv A outer s H E).nox (defBody st) t ∧ t { nx := fun _ H' => Q .non H', rt := Q } (start N vs) H) : Cl P w K mg base CX0 (k + 1) x sp := by
  obtain ⟨f, fd, F, g⟩ := D
  refine ⟨f, fd, ps, F.ok S len (fun cdv A outer s H vs Q E hr hsp => ?_), g, F.kp, F.bindsN hb⟩
  obtain ⟨t, h, q⟩ := hbody f cdv A outer s H vs Q E hr hsp
  exact ⟨t, h.nox, q⟩
/-- a def that may raise -/
theorem mkX {x : Str} {st : Stmt} {N ps : List Str} {k : Nat} {sp : Sp} (D : Df K mg x st) (S : FnScope N ps (defScope st)) (hb : Bnd x st ps) (len : ∀ vs H Q E, sp vs H Q E → vs.length = ps.length)
    (hbody : ∀ (f : Addr) (cdv : Value) (A : Around) (outer : List Env) (s : Shared) (H : Hp) (vs : List V) (Q : VK) (E : XK), Room k (A.deeper (envOfC x (defScope st) s.heap.objs.size f cdv)) → sp vs H Q E →
      ∃ t, PSs (cxOf (L2.CX P w) P w K mg base N x (defScope st) f cdv A outer s H E) (defBody st) t ∧ t { nx := fun _ H' => Q .non H', rt := Q } (start N vs) H) : Cl P w K mg base (L2.CX P w) (k + 1) x sp := by
  obtain ⟨f, fd, F, g⟩ := D
  exact ⟨f, fd, ps, F.ok S len (fun cdv A outer s H vs Q E hr hsp => hbody f cdv A outer s H vs Q E hr hsp), g, F.kp, F.bindsN hb⟩
end
section
variable {X : Cx} {j k : Nat} {x : Str} {sp : Sp} {p pos : Pos} {e : Expr} {es : List Expr} {t : TA}
/-- its call, where nothing is let out -/
theorem pe_f (c : Cl X.prog X.w X.K X.mg X.base CX0 k x sp) (hr : Room j X.A) (hk : k ≤ j) (hg : Gl X x) (ha : PA X (e :: es) t)
    (hdb : (x == ("__debug__" : Str)) = false := by decide) (he : starEach (e :: es) X.env = (false, eval e X.env) :: starEach es X.env := by rfl) (hpl : (backTo pos (starEach es X.env)).any (·.1) = false := by rfl) :
    PE X (.Call (.Name x p) (e :: es) [] pos) (tCall sp [] E0 t) := by
  obtain ⟨f, fd, ps, F, m, kp, b⟩ := c.ex
  exact pe_call F (hr.mono hk) hg m kp b .nil pass0 ha hdb he hpl
/-- its call, where what it lets out is wished for as W says -/
theorem pe_fX {W : WX} {E : XK} (c : Cl X.prog X.w X.K X.mg X.base (L2.CX X.prog X.w) k x sp) (hr : Room j X.A) (hk : k ≤ j) (tk : Takes X W) (hW : ∀ cls d σ H, E cls d H → W cls d σ H) (hg : Gl X x) (ha : PA X (e :: es) t)
    (hdb : (x == ("__debug__" : Str)) = false := by decide) (he : starEach (e :: es) X.env = (false, eval e X.env) :: starEach es X.env := by rfl) (hpl : (backTo pos (starEach es X.env)).any (·.1) = false := by rfl) :
    PE X (.Call (.Name x p) (e :: es) [] pos) (tCall sp [] E t) := by
  obtain ⟨f, fd, ps, F, m, kp, b⟩ := c.ex
  exact pe_call F (hr.mono hk) hg m kp b .nil (passes_call tk hW) ha hdb he hpl
/-! ### tuples whose object is known: their methods may be called -/
theorem call_tupF : CallR X (.type "tuple") (fun xs H Q => ∃ p ys, xs = [.ref p] ∧ SqL X.K H p ys ∧ ∀ (l : Addr) (o : Obj), H l = none → o.dict = none → Q (.ref l) (upd H l (.frz o (.tup ys)))) := by
  intro pins s σ H xs us Q I r h
  obtain ⟨p, ys, ex, hq, q⟩ := h
  subst ex
  obtain ⟨u, eu, rx⟩ := vals1 r
  subst eu
  cases rx
  obtain ⟨vals, rv, pl, hz⟩ := I.list hq
  have hn := rv.length
  refine call_tuple_list pl.isList (fun h' kp => ?_) (by rw [List.size_toArray]; omega)
  have I1 : Inv X pins σ H { s with heap := h' } := I.kept (t' := s.toks) kp
  have fr : H h'.objs.size = none := I1.hok.fresh (Nat.le_refl _)
  generalize ho : ({ cls := .type "tuple", data := .seq vals.toArray } : Obj) = o
  have here : (h'.push o).get? h'.objs.size = some o := Heap.get?_push_size _ (by subst ho; rfl)
  have new : ObjOk X.prog X.w (upd H h'.objs.size (.frz o (.tup ys))) (h'.push o) h'.objs.size (.frz o (.tup ys)) := by
    refine ⟨here, hz, vals, rv, ?_⟩
    subst ho
    exact IsTup.new _ _
  exact ⟨.ref h'.objs.size, _, I1.laid (t' := s.toks) (fun b o' e => Heap.get?_push_of_some _ e) (Nat.le_refl _) new, rfl, q _ o fr (by subst ho; rfl)⟩
theorem pe_tup0F {x1} {pos : Pos} : PE X (.Tuple [] x1 pos) (fun _ H Q => ∀ (p : Addr) (o : Obj), H p = none → o.dict = none → Q (.ref p) (upd H p (.frz o (.tup [])))) := by
  constructor
  intro pins s σ H Q I h
  have ha : PA X [] tNil := pa_nil
  refine wpAny_Tuple_spliced (thn (ha.run pos pins s σ H (fun xs H1 => xs = [] ∧ H1 = H) I ⟨rfl, rfl⟩) fun us s1 hh => ?_)
  obtain ⟨xs, H1, I1, r, ex, eH⟩ := hh
  subst ex eH
  cases r
  refine ⟨Nat.zero_le _, ?_⟩
  have fr : H1 s1.heap.objs.size = none := I1.hok.fresh (Nat.le_refl _)
  generalize ho : ({ cls := .type "tuple", data := .seq ([] : List Value).toArray } : Obj) = o
  have here : (s1.heap.push o).get? s1.heap.objs.size = some o := Heap.get?_push_size _ (by subst ho; rfl)
  have new : ObjOk X.prog X.w (upd H1 s1.heap.objs.size (.frz o (.tup []))) (s1.heap.push o) s1.heap.objs.size (.frz o (.tup [])) := by
    refine ⟨here, Nat.zero_le _, [], .nil, ?_⟩
    subst ho
    exact ⟨_, here, rfl, _, rfl⟩
  exact ⟨.ref s1.heap.objs.size, _, I1.laid (t' := s1.toks) (fun b o' q => Heap.get?_push_of_some _ q) (Nat.le_refl _) new, rfl, h _ o fr (by subst ho; rfl)⟩
/-- t.count(k) -/
def tTCnt (K : PySem.W.Frag) (to te : TE) : TE := fun σ H Q => to σ H fun x H1 => ∃ (a : Addr) (o : Obj) (parts : List Int), x = .ref a ∧ H1 a = some (.frz o (.tup (parts.map V.int))) ∧ o.dict = none ∧
  te σ H1 fun y H2 => ∃ k : Int, y = .int k ∧ H2 a = some (.frz o (.tup (parts.map V.int))) ∧ Q (.int ((parts.count k : Nat) : Int)) H2
theorem pe_tcnt {o e : Expr} {to te : TE} {apos cpos : Pos} (ho : PE X o to) (he : PE X e te) (hbase : attributeBase o "count" X.env (eval o X.env) = eval o X.env := by rfl) (hs : starEach [e] X.env = [(false, eval e X.env)] := by rfl)
    (hline : (apos.endLine == cpos.line) = true := by rfl) : PE X (.Call (.Attribute o "count" apos) [e] [] cpos) (tTCnt X.K to te) := by
  constructor
  intro pins s σ H Q I h
  refine PySem.Call_method1 hbase hs hline (thn (ho.run pins s σ H _ I h) fun v s1 hh => ?_)
  obtain ⟨x, H1, I1, r1, a, ob, parts, ex, ha, hd, q1⟩ := hh
  subst ex
  obtain rfl : v = Value.ref a := r1
  have okA := I1.hok a _ ha
  obtain ⟨hob, hz, vals, rv, o2, ho2, hcl, n, hdat⟩ := okA
  rw [hob] at ho2
  cases ho2
  refine ⟨"tuple", _, PySem.F.plainAttrs_tuple, PySem.F.slot_tuple_count, PySem.F.type_tuple_count, ⟨ob, hob, hcl⟩, ?_, ?_⟩
  · intro a' ea
    cases ea
    exact ⟨ob, hob, hd⟩
  · refine Calls.callWith_builtin rfl (Calls.evalArgs_plain (Calls.spliced_cons ?_))
    refine thn (he.run pins s1 σ H1 _ I1 q1) fun u s2 hh2 => ?_
    obtain ⟨y, H2, I2, r2, k, ey, ha2, q2⟩ := hh2
    subst ey
    exact Calls.spliced_nil (mt_tcnt pins s2 σ H2 (.ref a) [.int k] _ [u] Q I2 rfl (.cons r2 .nil) ⟨a, parts, k, rfl, rfl, .inl (.inr ⟨ob, ha2⟩), q2⟩)
end
end Kd
namespace Kd
open PySem PySem.Spec PyProof.Rows L2
/-! ## The head: facts by names, the run -/
def dF (x : Str) (st : Stmt) : He.DefD := ⟨(x, none), x, x, defArgs st, defBody st, defScope st, [], []⟩
def dM (c m q : Str) (st : Stmt) : He.DefD := ⟨(c, some m), m, q, defArgs st, defBody st, defScope st, [], []⟩
def fnL : List He.DefD := [dF "sum_of" s_sum_of,
  dF "lies_in" s_lies_in,
  dF "unlike_parts" s_unlike_parts,
  dF "joined" s_joined,
  dF "chosen" s_chosen,
  dF "choices_of" s_choices_of,
  dF "joined_of" s_joined_of,
  dF "sums_of" s_sums_of,
  dF "first_unlike" s_first_unlike,
  dF "all_in" s_all_in,
  dF "first_in" s_first_in,
  dF "heap_text" s_heap_text,
  dF "rule_text" s_rule_text,
  dF "read_part" s_read_part,
  dF "read_heap" s_read_heap,
  dF "read_rule" s_read_rule,
  dF "line_words" s_line_words,
  dF "hold_many" s_hold_many,
  dF "read_name" s_read_name,
  dF "first_word" s_first_word,
  dF "two_words" s_two_words,
  dF "read_number" s_read_number,
  dF "rest_heap" s_rest_heap,
  dF "rest_rule" s_rest_rule,
  dF "rule_at" s_rule_at,
  dF "names_text" s_names_text,
  dF "rule_line" s_rule_line,
  dF "add_line" s_add_line,
  dF "take_line" s_take_line,
  dF "copy_line" s_copy_line,
  dF "drop_line" s_drop_line,
  dF "names_line" s_names_line,
  dF "show_line" s_show_line,
  dF "keeps_line" s_keeps_line,
  dF "match_line" s_match_line,
  dF "_law_start" s_law_start,
  dF "_law_draw" s_law_draw,
  dF "_law_mix" s_law_mix,
  dF "_law_heap" s_law_heap,
  dF "_law_lies" s_law_lies,
  dF "_law_joined" s_law_joined,
  dF "_law_first" s_law_first,
  dF "_law_choices" s_law_choices,
  dF "_law_raw_rule" s_law_raw_rule,
  dF "_law_name" s_law_name,
  dF "_law_heap_text" s_law_heap_text,
  dF "_law_rule_text" s_law_rule_text,
  dF "_law_names_text" s_law_names_text,
  dF "_law_sums" s_law_sums,
  dF "_law_unlike" s_law_unlike,
  dF "_law_plan" s_law_plan,
  dF "_law_plan_line" s_law_plan_line,
  dF "_law_next" s_law_next,
  dF "_law_answer" s_law_answer,
  dF "_law_right" s_law_right,
  dF "_law_match_due" s_law_match_due,
  dF "_law_asks" s_law_asks,
  dF "_law_moved" s_law_moved,
  dF "_law_end" s_law_end,
  dF "law" s_law,
  dM "Desk" "__init__" "Desk.__init__" s_desk_init, dM "Desk" "tell" "Desk.tell" s_desk_tell, dM "Desk" "one_back" "Desk.one_back" s_desk_one_back, dM "Desk" "one_on" "Desk.one_on" s_desk_one_on, dM "NoName" "__init__" "NoName.__init__" s_noname_init]
def faL : List He.Fa := [.glo "sum_of",
  .glo "lies_in",
  .glo "unlike_parts",
  .glo "joined",
  .glo "chosen",
  .glo "choices_of",
  .glo "joined_of",
  .glo "sums_of",
  .glo "first_unlike",
  .glo "all_in",
  .glo "first_in",
  .glo "heap_text",
  .glo "rule_text",
  .glo "read_part",
  .glo "read_heap",
  .glo "read_rule",
  .glo "line_words",
  .glo "hold_many",
  .glo "read_name",
  .glo "first_word",
  .glo "two_words",
  .glo "read_number",
  .glo "rest_heap",
  .glo "rest_rule",
  .glo "rule_at",
  .glo "names_text",
  .glo "rule_line",
  .glo "add_line",
  .glo "take_line",
  .glo "copy_line",
  .glo "drop_line",
  .glo "names_line",
  .glo "show_line",
  .glo "keeps_line",
  .glo "match_line",
  .glo "_law_start",
  .glo "_law_draw",
  .glo "_law_mix",
  .glo "_law_heap",
  .glo "_law_lies",
  .glo "_law_joined",
  .glo "_law_first",
  .glo "_law_choices",
  .glo "_law_raw_rule",
  .glo "_law_name",
  .glo "_law_heap_text",
  .glo "_law_rule_text",
  .glo "_law_names_text",
  .glo "_law_sums",
  .glo "_law_unlike",
  .glo "_law_plan",
  .glo "_law_plan_line",
  .glo "_law_next",
  .glo "_law_answer",
  .glo "_law_right",
  .glo "_law_match_due",
  .glo "_law_asks",
  .glo "_law_moved",
  .glo "_law_end",
  .glo "law",
  .glo "Desk",
  .glo "DEEDS",
  .glo "ASKS",
  .glo "NoName",
  .glo "NoRule",
  .glo "NoPlace",
  .glo "NotSoMany",
  .glo "NothingLeft",
  .free "len",
  .free "tuple",
  .free "list",
  .free "dict",
  .free "sorted",
  .free "sum",
  .free "all",
  .free "max",
  .free "range",
  .free "enumerate",
  .free "zip",
  .free "str",
  .free "int",
  .free "isinstance",
  .int "MOST_SIGNS" 60,
  .int "MOST_PARTS" 60,
  .int "MOST_HEAPS" 6,
  .str "FIGURES_texts" "0123456789",
  .str "LETTERS" "abcdefghijklmnopqrstuvwxyz",
  .str "FIGURES_desk" "0123456789",
  .cls "Desk",
  .noat "Desk" "held",
  .noat "Desk" "past",
  .noat "Desk" "ahead",
  .meth "Desk" "tell",
  .meth "Desk" "one_back",
  .meth "Desk" "one_on",
  .mkr "Desk",
  .exc "NoRule",
  .exc "NoPlace",
  .exc "NotSoMany",
  .exc "NothingLeft",
  .exm "NoName" "NoName" true,
  .exm "NoRule" "NoName" false,
  .exm "NoRule" "NoRule" true,
  .exm "NoPlace" "NoName" false,
  .exm "NoPlace" "NoRule" false,
  .exm "NoPlace" "NoPlace" true,
  .exm "NotSoMany" "NoName" false,
  .exm "NotSoMany" "NoRule" false,
  .exm "NotSoMany" "NoPlace" false,
  .exm "NotSoMany" "NotSoMany" true,
  .exm "NothingLeft" "NoName" false,
  .exm "NothingLeft" "NoRule" false,
  .exm "NothingLeft" "NoPlace" false,
  .exm "NothingLeft" "NotSoMany" false,
  .exm "NothingLeft" "NothingLeft" true]
def tabL : List He.Tab := [(fun K => He.ga K "DEEDS", ["rule", "add", "take", "copy", "drop"]), (fun K => He.ga K "ASKS", ["names", "show", "keeps", "count", "list", "match", "send", "steps"])]
abbrev deedL0 : List (Str × Str) := [("rule", "rule_line"), ("add", "add_line"), ("take", "take_line"), ("copy", "copy_line"), ("drop", "drop_line")]
abbrev askL0 : List (Str × Str) := [("names", "names_line"), ("show", "show_line"), ("keeps", "keeps_line"), ("match", "match_line")]
/-- an own error class with a dict and an __init__ -/
def shapeB (K : PySem.W.Frag) (C : Addr) : Bool := match K.lookup C with
  | some ⟨.type "type", _, .cls rec, parts⟩ => (match rec.mro, parts.toList with
    | .ref C1 :: above, [_, _, _, _, some (.builtin maker), _] => (C1 == C) && ((maker == "ValueError.__new__") && ((!rec.hasDel) && (rec.hasDict && PySem.HandSPX.refsVE above)))
    | _, _ => false)
  | _ => false
theorem shape_of {K : PySem.W.Frag} {C : Addr} (q : shapeB K C = true) :
    ∃ nm q N bs bm sn sub ab col dd k0 k1 k2 k3 k5, K.lookup C = some (excClassObj nm q C N bs bm true sn sub ab col dd k0 k1 k2 k3 k5 "ValueError.__new__") ∧ PySem.HandSPX.refsVE bm = true := by
  unfold shapeB at q
  split at q
  · rename_i dd rec parts look
    split at q
    · rename_i C1 above p0 p1 p2 p3 maker p5 em ep
      obtain ⟨q1, q⟩ := Bool.and_eq_true_iff.mp q
      obtain ⟨q2, q⟩ := Bool.and_eq_true_iff.mp q
      obtain ⟨q3, q⟩ := Bool.and_eq_true_iff.mp q
      obtain ⟨q4, q5⟩ := Bool.and_eq_true_iff.mp q
      obtain ⟨nm, bs, mro, ns, qn, hd, sn, sub, ab, col, del⟩ := rec
      dsimp only at em q3 q4
      have e1 : C1 = C := beq_iff_eq.mp q1
      have e2 : maker = "ValueError.__new__" := beq_iff_eq.mp q2
      have e3 : del = false := by cases del <;> first | rfl | cases q3
      subst e1 e2 e3 q4 em
      obtain ⟨lst⟩ := parts
      have e4 : lst = [p0, p1, p2, p3, some (.builtin "ValueError.__new__"), p5] := ep
      subst e4
      exact ⟨nm, qn, ns, bs, above, sn, sub, ab, col, dd, p0, p1, p2, p3, p5, look, q5⟩
    · cases q
  · cases q
def entB (K : PySem.W.Frag) (d : Str) (l : List (Str × Str)) : Bool := l.all fun e => He.eqO (PySem.W.nsIn K (He.ga K d) e.1) (some (some (.ref (He.ga K e.2))))
def outB (K : PySem.W.Frag) (d : Str) (l : List Str) : Bool := l.all fun k => He.eqO (PySem.W.nsIn K (He.ga K d) k) (some none)
def nnB (K : PySem.W.Frag) (C : Addr) : Bool := shapeB K C && (He.eqO (PySem.W.findIn K (.ref C) "__setattr__") (some (some (.builtin "object.__setattr__"))) && (decide (PySem.W.subIn K (.ref C) (.type "BaseException") = some true) && (decide (PySem.W.typeIn K (.ref C) = some (.type "type")) &&
  (PySem.W.keepIn K (.ref C) && (xfB K C && (He.eqO (PySem.W.findIn K (.ref C) "name") (some none) && (He.eqO (PySem.W.findIn K (.ref C) "__init__") (some (some (.ref (He.ma K C "__init__")))) && decide (PySem.W.typeIn K (.ref (He.ma K C "__init__")) = some (.type "function")))))))))
def exB (K : PySem.W.Frag) : Bool := nnB K (He.ga K "NoName") && (entB K "DEEDS" deedL0 && (outB K "DEEDS" ["names", "show", "keeps", "match", "undo", "again"] && (entB K "ASKS" askL0 && (outB K "ASKS" ["undo", "again"] && decide (PySem.W.kitOne K (.type "int") (.type "str") = some false)))))
abbrev RR : PySem.W.OpenRow := PySem.W.OpenLaw.row PySem.Challenge.rw_shutpairs_k50_whole_desk
def codeR (g : Addr → Option Obj) (a : Addr) : List Addr := match g a with
  | some o => (match o.data with
    | .func fd => He.refV fd.code
    | _ => [])
  | none => []
def nsR (g : Addr → Option Obj) (a : Addr) : List Addr := match g a with
  | some o => (match o.data with
    | .cls rec => [rec.ns]
    | _ => [])
  | none => []
def valR (g : Addr → Option Obj) (a : Addr) : List Addr := match g a with
  | some o => (match o.data with
    | .dict es _ => es.toList.flatMap fun e => He.refV e.val
    | _ => [])
  | none => []
def see0 : List Str := (["sum_of", "lies_in", "unlike_parts", "joined", "chosen", "choices_of", "joined_of", "sums_of", "first_unlike", "all_in", "first_in", "heap_text", "rule_text", "read_part", "read_heap", "read_rule", "line_words", "hold_many", "read_name", "first_word", "two_words", "read_number", "rest_heap", "rest_rule", "rule_at", "names_text", "rule_line", "add_line", "take_line", "copy_line"] : List String).map Str.ofString
def see1 : List Str := (["drop_line", "names_line", "show_line", "keeps_line", "match_line", "_law_start", "_law_draw", "_law_mix", "_law_heap", "_law_lies", "_law_joined", "_law_first", "_law_choices", "_law_raw_rule", "_law_name", "_law_heap_text", "_law_rule_text", "_law_names_text", "_law_sums", "_law_unlike", "_law_plan", "_law_plan_line", "_law_next", "_law_answer", "_law_right", "_law_match_due", "_law_asks", "_law_moved", "_law_end", "law"] : List String).map Str.ofString
def see2 : List Str := (["Desk", "DEEDS", "ASKS", "NoName", "NoRule", "NoPlace", "NotSoMany", "NothingLeft", "ShutError"] : List String).map Str.ofString
def seeL : List Str := see0 ++ see1 ++ see2
def clsL : List Str := ["Desk", "NoName", "NoRule", "NoPlace", "NotSoMany", "NothingLeft", "ShutError"]
def moreM (g : Addr → Option Obj) (ms : List Addr) : List Addr := ms ++ ms.flatMap (codeR g)
def clsM (g : Addr → Option Obj) (nss : List Addr) : List Addr := nss ++ moreM g (nss.flatMap (valR g))
def funM (g : Addr → Option Obj) (fs : List Addr) : List Addr := fs ++ fs.flatMap (codeR g)
def asM (g : Addr → Option Obj) : List Addr := mainGlobals :: (clsM g ((clsL.map (He.ga (He.frG g [mainGlobals]))).flatMap (nsR g)) ++ funM g (seeL.map (He.ga (He.frG g [mainGlobals]))))
def obsM (K : PySem.W.Frag) : He.AlX := (He.obsT faL fnL tabL K, exB K)
def hkL : PySem.W.Hook where
  α := He.AlX
  obs := fun s => obsM (He.frG s.heap.get? (asM s.heap.get?))
  val := fun w => He.valX fnL tabL w
  says := fun w h => ∃ K : PySem.W.Frag, K.In h ∧ He.SaysT faL fnL tabL w K ∧ exB K = true
  of := fun _ _ e => ⟨_, He.frG_in, congrArg (fun z : He.AlX => z.1) e, congrArg (fun z : He.AlX => z.2) e⟩
  keeps := fun _ _ _ ⟨K, hK, c⟩ k => ⟨K, PySem.W.Frag.In.keeps hK k, c⟩
def obL (s : PySem.W.SharedT) : He.AlX := obsM (He.frG (HandSHeadRun.getT s) (asM (HandSHeadRun.getT s)))
theorem ob_eqL (s : PySem.W.SharedT) : obL s = hkL.obs s.abs := by
  have e : HandSHeadRun.getT s = s.abs.heap.get? := funext (HandSHeadRun.getT_eq s)
  unfold obL
  rw [e]
  rfl
def ns0 : List PySem.Str := (["_wall", "ShutError", "NotIn", "NoText", "NoRule", "NoSum", "NoPlace", "NoPair", "NotPaired", "NotSoMany", "NoLine", "NothingLeft", "NoHeap", "NotKept", "Unmatched", "NoName", "heap_of", "sum_of", "lies_in", "unlike_parts", "joined", "put", "taken", "chosen", "choices_of", "joined_of", "sums_of", "first_unlike", "Beside", "FARTHEST", "ways_list", "count_of", "all_in", "first_in", "keeps", "MOST", "parted", "partings_of"] : List String).map PySem.Str.ofString
def ns1 : List PySem.Str := (["kept_of", "is_pair", "held_pair", "partner_of", "sides_of", "crossed", "toggled", "FIGURES_texts", "MOST_SIGNS", "MOST_PARTS", "MOST_HEAPS", "heap_text", "rule_text", "read_part", "read_heap", "read_rule", "held_keeper", "next_place", "end_of", "LETTERS", "FIGURES_desk", "line_words", "hold_many", "read_name", "first_word", "two_words", "read_number", "rest_heap", "rest_rule", "rule_at", "names_text", "rule_line", "add_line", "take_line", "copy_line", "drop_line", "names_line", "show_line"] : List String).map PySem.Str.ofString
def ns2 : List PySem.Str := (["keeps_line", "count_line", "list_line", "match_line", "sided_of", "send_line", "steps_line", "DEEDS", "ASKS", "Desk", "_law_start", "_law_draw", "_law_mix", "_law_heap", "_law_lies", "_law_joined", "_law_first", "_law_choices", "_law_raw_rule", "_law_name", "_law_heap_text", "_law_rule_text", "_law_names_text", "_law_sums", "_law_unlike", "_law_plan", "_law_plan_line", "_law_next", "_law_answer", "_law_right", "_law_match_due", "_law_asks", "_law_moved", "_law_end"] : List String).map PySem.Str.ofString
def names : List PySem.Str := ns0 ++ ns1 ++ ns2
end Kd
namespace Kd
open PySem PySem.W PySem.Calls PyProof.Rows
theorem runArm_false (w : World) : HandSHeadRun.RunEq RR (PySem.W.view RR.prog [123]) hkL obL 7000 names (w.withFollow "special-get-raises" false) := by
  intro os
  kernel_rfl
theorem runArm_true (w : World) : HandSHeadRun.RunEq RR (PySem.W.view RR.prog [123]) hkL obL 7000 names (w.withFollow "special-get-raises" true) := by
  intro os
  kernel_rfl
theorem runL (w : World) : HandSHeadRun.RunEq RR (PySem.W.view RR.prog [123]) hkL obL 7000 names w :=
  PySem.W.byRow2 "special-get-raises" (P := fun w => HandSHeadRun.RunEq RR (PySem.W.view RR.prog [123]) hkL obL 7000 names w) runArm_false runArm_true w
end Kd
namespace Kd
open PySem PySem.Spec PyProof.Rows L2
section
variable {P : Program} {w : World} {K : PySem.W.Frag} {mg : Str → Option Value} {base : Heap}
/-! ### lies_in -/
def spLies : Sp := fun vs H Q _ => ∃ (u v : V) (x y : Ht), vs = [u, v] ∧ HtAt H u x ∧ HtAt H v y ∧ x.length ≤ 1000 ∧ ∀ H', Same H H' → Q (.bl (lies x y)) H'
theorem sc_lies_in : FnScope ["one", "other", "part"] ["one", "other"] (defScope s_lies_in) := ⟨rfl, rfl, rfl, by decide +kernel, rfl, by decide +kernel, by decide +kernel⟩
theorem ok_lies_in (B : Bi mg) (D : Df K mg "lies_in" s_lies_in) : Cl P w K mg base CX0 1 "lies_in" spLies := by
  refine mk0 D sc_lies_in (fun _ _ _ _ _ _ us hl => match us, hl with | [_, _], _ => rfl) (fun vs H Q E h => ?_) (fun f cdv A outer s H vs Q E hr h => ?_)
  · obtain ⟨u, v, x, y, rfl, _⟩ := h
    rfl
  · obtain ⟨u, v, x, y, rfl, ⟨a, oa, rfl, ha, da⟩, ⟨b, ob, rfl, hb, db⟩, hl, k⟩ := h
    refine ⟨_, pss_one (ps_ret (pe_callB (cr_all rfl) (by rfl) B.all (by decide +kernel) (pa_cons
      (pe_lc (own := [("part", 2)]) (g := gName 2) (tt := tYes) rfl sc_lies_in.nd (pi_tup (pv 0)) (blkOk_by (own := [("part", 2)]) (N := ["one", "other", "part"]) (sc := defScope s_lies_in) (by decide +kernel))
        (fun _ _ _ _ _ => pg_name (i := 2) sc_lies_in.nd rfl (Or.inl rfl)) (fun _ _ _ _ _ => pts_nil)
        (fun _ _ _ _ _ => pe_cmpR op_le (pe_tcnt (pv 0) (pv 2)) (pe_tcnt (pv 1) (pv 2)) (nomark _))) pa_nil))), ?_⟩
    refine ⟨_, rfl, a, rfl, ⟨_, .inl (.inr ⟨oa, ha⟩)⟩, fun D hD => lc_tup (xs := x.map V.int) (fun i H' => Same H H' ∧ H' D = some (.lst (((x.take i).map fun p => decide (x.count p ≤ y.count p)).map V.bl)))
      ⟨same_upd hD, upd_same⟩ (fun i H' _ h => .inl (.inr ⟨oa, h.1 _ _ ha⟩)) ?_ ?_⟩
    · rintro i z H' hz ⟨s1, hL⟩
      obtain ⟨p, hp, rfl⟩ := map_get hz
      have hi : i < x.length := (List.getElem?_eq_some_iff.mp hp).1
      refine ⟨rfl, ?_⟩
      refine ⟨_, rfl, a, oa, x, rfl, s1 _ _ ha, da, _, rfl, p, rfl, s1 _ _ ha, _, rfl, b, ob, y, rfl, s1 _ _ hb, db, _, rfl, p, rfl, s1 _ _ hb, _, _, rfl, rfl, _, hL, ?_, ?_, ?_⟩
      · rw [List.length_map, List.length_map, List.length_take]
        exact small1000 (by omega)
      · have nD : H D = none := hD
        intro c o e
        rw [upd_ne (ne_of_none e nD)]
        exact s1 c o e
      · rw [upd_same, take_succ hp, List.map_append, List.map_append]
        simp only [List.map_cons, List.map_nil, Int.ofNat_le]
    · rintro H' ⟨s1, hL⟩
      rw [List.length_map, List.take_length] at hL
      refine ⟨D, _, rfl, SqL.of hL, ?_⟩
      have e : (x.map fun p => decide (x.count p ≤ y.count p)).all id = lies x y := by
        unfold lies
        rw [List.all_map]
        rfl
      show Q (.bl ((x.map fun p => decide (x.count p ≤ y.count p)).all id)) H'
      rw [e]
      exact k H' s1
/-! ### all_in, first_in -/
def allIn (r : Ru) (h : Ht) (n : Nat) : List Nat := (List.range n).filter fun i => lies (r.getD i []) h
def nI (i : Nat) : V := .int (i : Int)
def optI : Option Nat → V
  | some i => .int (i : Int)
  | none => .non
theorem allIn_head (r : Ru) (h : Ht) : (allIn r h r.length).head? = firstIn r h := by
  unfold allIn
  rw [List.head?_filter]
  refine (isFirst_eq ?_).symm
  cases e : (List.range r.length).find? (fun i => lies (r.getD i []) h) with
  | some i =>
    rw [List.find?_range_eq_some] at e
    obtain ⟨h1, h2, h3⟩ := e
    have hi : i < r.length := List.mem_range.mp h2
    have gd : ∀ {j o}, r[j]? = some o → r.getD j [] = o := fun {j o} q => by rw [List.getD_eq_getElem?_getD, q]; rfl
    refine ⟨⟨r[i], List.getElem?_eq_getElem hi, ?_⟩, fun j o hj q => ?_⟩
    · rw [← gd (List.getElem?_eq_getElem hi)]
      exact h1
    · have := h3 j hj
      rw [gd q] at this
      simpa using this
  | none =>
    rw [List.find?_eq_none] at e
    intro j o q
    have hj : j < r.length := (List.getElem?_eq_some_iff.mp q).1
    have := e j (List.mem_range.mpr hj)
    have gd : r.getD j [] = o := by rw [List.getD_eq_getElem?_getD, q]; rfl
    rw [gd] at this
    simpa using this
def spAllIn : Sp := fun vs H Q _ => ∃ (u v : V) (r : Ru) (h : Ht), vs = [u, v] ∧ RuAt H u r ∧ HtAt H v h ∧ r.length ≤ 6 ∧ (∀ o ∈ r, o.length ≤ 1000) ∧
  ∀ H' p, Same H H' → H' p = some (.lst ((allIn r h r.length).map nI)) → Q (.ref p) H'
theorem sc_all_in : FnScope ["rule", "heap", "number", "one"] ["rule", "heap"] (defScope s_all_in) := ⟨rfl, rfl, rfl, by decide +kernel, rfl, by decide +kernel, by decide +kernel⟩
theorem ok_all_in (B : Bi mg) (D : Df K mg "all_in" s_all_in) (cL : Cl P w K mg base CX0 1 "lies_in" spLies) : Cl P w K mg base CX0 2 "all_in" spAllIn := by
  refine mk0 D sc_all_in (fun _ _ _ _ _ _ us hl => match us, hl with | [_, _], _ => rfl) (fun vs H Q E h => ?_) (fun f cdv A outer s H vs Q E hr h => ?_)
  · obtain ⟨u, v, r, x, rfl, _⟩ := h
    rfl
  · obtain ⟨u, v, r, x, rfl, hR, hX, h6, hsz, k⟩ := h
    obtain ⟨a, rs, rfl, ha, pr⟩ := id hR
    refine ⟨_, pss_one (ps_ret (pe_lc (own := [("number", 2), ("one", 3)]) (g := gTup K 2 (gCons (gName 2) (gCons (gName 3) gNil))) rfl sc_all_in.nd (pi_enT (by rfl) B.enumerate (pa_cons (pv 0) pa_nil))
      (blkOk_by (own := [("number", 2), ("one", 3)]) (N := ["rule", "heap", "number", "one"]) (sc := defScope s_all_in) (by decide +kernel))
      (fun _ _ _ _ _ => pg_tup (by rfl) (pgs_cons (pg_name (i := 2) sc_all_in.nd rfl (Or.inl rfl)) (pgs_cons (pg_name (i := 3) sc_all_in.nd rfl (Or.inl rfl)) pgs_nil)))
      (fun _ _ _ _ _ => pts_one (pt_val (pe_f cL hr (by decide) rfl (pa_cons (pv 3) (pa_cons (pv 1) pa_nil))))) (fun _ _ _ _ _ => pv 2))), ?_⟩
    have hlen : rs.length = r.length := pr_len pr
    refine ⟨_, rfl, a, rs, rfl, ha, fun L hL => lc_it walk_enT (fun i H' => Same H H' ∧ H' L = some (.lst ((allIn r x i).map nI)))
      ⟨same_upd hL, upd_same⟩ (fun i H' _ h => h.1 _ _ ha) ?_ ?_⟩
    · rintro i z H1 H2 hi ⟨s1, hA⟩ ⟨T, y1, y2, rfl, hT, rfl, e1, e2⟩
      cases e1
      obtain ⟨o, ho, hO⟩ := pr_get pr e2
      have s2 : Same H (upd H1 T (.tup [.int (i : Int), y2])) := same_upd' s1 hT
      have nTL : L ≠ T := ne_of_none hA hT
      have hir : i < r.length := by omega
      have gd : r.getD i [] = o := by rw [List.getD_eq_getElem?_getD, ho]; rfl
      have nxt : allIn r x (i + 1) = allIn r x i ++ (if lies o x = true then [i] else []) := by
        unfold allIn
        rw [List.range_succ, List.filter_append]
        congr 1
        rw [List.filter_cons, List.filter_nil, gd]
      refine ⟨T, _, rfl, SqT.of upd_same, rfl, _, _, rfl, _, _, rfl, rfl, rfl, ?_⟩
      refine ⟨_, rfl, _, rfl, y2, v, o, x, rfl, hO.same s2, hX.same s2, hsz o (List.mem_of_getElem? ho), fun H3 s3 => ?_⟩
      refine ⟨_, rfl, ?_⟩
      have hA3 : H3 L = some (.lst ((allIn r x i).map nI)) := s3 _ _ (by rw [upd_ne nTL]; exact hA)
      refine ite2 (c := lies o x = true) (fun c => ?_) (fun c => ?_)
      · rw [if_pos c] at nxt
        refine ⟨_, rfl, _, hA3, ?_, ?_, ?_⟩
        · rw [List.length_map]
          have q : (allIn r x i).length ≤ i := by
            unfold allIn
            exact Nat.le_trans (List.length_filter_le _ _) (by rw [List.length_range]; exact Nat.le_refl _)
          exact small1000 (by omega)
        · intro c o e
          rw [upd_ne (ne_of_none e hL)]
          exact s3 c o (s2 c o e)
        · rw [upd_same, nxt, List.map_append]
          rfl
      · rw [if_neg c] at nxt
        exact ⟨s2.trans s3, by rw [nxt, List.append_nil]; exact hA3⟩
    · rintro H' ⟨s1, hA⟩
      rw [hlen] at hA
      exact k H' L s1 hA
def spFirstIn : Sp := fun vs H Q _ => ∃ (u v : V) (r : Ru) (h : Ht), vs = [u, v] ∧ RuAt H u r ∧ HtAt H v h ∧ r.length ≤ 6 ∧ (∀ o ∈ r, o.length ≤ 1000) ∧
  ∀ H', Same H H' → Q (optI (firstIn r h)) H'
theorem sc_first_in : FnScope ["rule", "heap", "found"] ["rule", "heap"] (defScope s_first_in) := ⟨rfl, rfl, rfl, by decide +kernel, rfl, by decide +kernel, by decide +kernel⟩
theorem ok_first_in (D : Df K mg "first_in" s_first_in) (cA : Cl P w K mg base CX0 2 "all_in" spAllIn) : Cl P w K mg base CX0 3 "first_in" spFirstIn := by
  refine mk0 D sc_first_in (fun _ _ _ _ _ _ us hl => match us, hl with | [_, _], _ => rfl) (fun vs H Q E h => ?_) (fun f cdv A outer s H vs Q E hr h => ?_)
  · obtain ⟨u, v, r, x, rfl, _⟩ := h
    rfl
  · obtain ⟨u, v, r, x, rfl, hR, hX, h6, hsz, k⟩ := h
    refine ⟨_, pss_cons (ps_set (i := 2) sc_first_in.nd rfl (Or.inl rfl) (pe_f cA hr (by decide) rfl (pa_cons (pv 0) (pa_cons (pv 1) pa_nil))))
      (pss_cons (ps_if (pt_truth (pv 2) (by intro _; rfl)) (pss_one (ps_ret (pe_ix ix_list (pv 2) pe_int (fun _ _ => rfl)))) pss_nil)
      (pss_one (ps_ret pe_non))), ?_⟩
    refine ⟨_, rfl, _, rfl, u, v, r, x, rfl, hR, hX, h6, hsz, fun H' p s1 hp => ?_⟩
    have hd := allIn_head r x
    cases e : allIn r x r.length with
    | nil =>
      rw [e] at hd hp
      refine ⟨_, rfl, false, .inl ⟨_, SqL.of hp, rfl⟩, iteF ?_⟩
      have q := k H' s1
      rw [← hd] at q
      exact q
    | cons i l =>
      rw [e] at hd hp
      refine ⟨_, rfl, true, .inl ⟨_, SqL.of hp, rfl⟩, iteT ?_⟩
      refine ⟨_, rfl, p, _, 0, _, rfl, rfl, SqL.of hp, atI_nat (j := 0) rfl, ?_⟩
      have q := k H' s1
      rw [← hd] at q
      exact q
end
end Kd
namespace Kd
open PySem PySem.Spec PyProof.Rows L2
section
variable {P : Program} {w : World} {K : PySem.W.Frag} {mg : Str → Option Value} {base : Heap}
/-- a list of heaps -/
def HsAt (H : Hp) (v : V) (hs : List Ht) : Prop := ∃ (a : Addr) (vs : List V), v = .ref a ∧ H a = some (.lst vs) ∧ Paired (HtAt H) vs hs
/-- not too many heaps, none too great -/
def Few (hs : List Ht) : Prop := hs.length ≤ 6 ∧ ∀ h ∈ hs, h.length ≤ 10
/-! ### unlike_parts -/
def Ky (H : Hp) (d : Addr) (ks : List Int) : Prop := ∃ kvs : List (Key × V), H d = some (.dK kvs) ∧ kvs.map (·.1) = ks.map Sum.inl
def addK (ks : List Int) (p : Int) : List Int := if p ∈ ks then ks else ks ++ [p]
theorem putK_keys (v : V) {kvs : List (Key × V)} {ks : List Int} (p : Int) (e : kvs.map (·.1) = ks.map Sum.inl) : (putK kvs (Sum.inl p : Key) v).map (·.1) = (addK ks p).map Sum.inl := by
  have ha : (kvs.any fun kv => decide (kv.1 = (Sum.inl p : Key))) = true ↔ p ∈ ks := by
    rw [List.any_eq_true]
    constructor
    · rintro ⟨kv, hkv, h⟩
      have m : kv.1 ∈ kvs.map (·.1) := List.mem_map.mpr ⟨kv, hkv, rfl⟩
      rw [e, of_decide_eq_true h] at m
      obtain ⟨q, hq, eq⟩ := List.mem_map.mp m
      injection eq with eq
      exact eq ▸ hq
    · intro hp
      have m : (Sum.inl p : Key) ∈ kvs.map (·.1) := by rw [e]; exact List.mem_map.mpr ⟨p, hp, rfl⟩
      obtain ⟨kv, hkv, eq⟩ := List.mem_map.mp m
      exact ⟨kv, hkv, decide_eq_true eq⟩
  unfold putK addK
  by_cases hp : p ∈ ks
  · rw [if_pos (ha.mpr hp), if_pos hp, ← e, List.map_map]
    apply List.map_congr_left
    intro kv _
    show (if kv.1 = (Sum.inl p : Key) then (kv.1, v) else kv).1 = kv.1
    split <;> rfl
  · rw [if_neg (fun z => hp (ha.mp z)), if_neg hp, List.map_append, List.map_append, e]
    rfl
theorem addK_nd {ks : List Int} {p : Int} (h : ks.Nodup) : (addK ks p).Nodup := by
  unfold addK
  split
  · exact h
  · exact nd_snoc h ‹_›
theorem addK_mem {ks : List Int} {p q : Int} : q ∈ addK ks p ↔ q ∈ ks ∨ q = p := by
  unfold addK
  split
  · constructor
    · exact .inl
    · rintro (h | rfl)
      · exact h
      · assumption
  · simp
theorem addK_len (ks : List Int) (p : Int) : (addK ks p).length ≤ ks.length + 1 := by
  unfold addK
  split
  · omega
  · simp
def IsKeys (hs : List Ht) (ks : List Int) : Prop := ks.Nodup ∧ ∀ p, p ∈ ks ↔ ∃ h ∈ hs, p ∈ h
def spUnlikeParts : Sp := fun vs H Q _ => ∃ (u : V) (hs : List Ht), vs = [u] ∧ HsAt H u hs ∧ Few hs ∧
  ∀ H' p ks, Same H H' → H' p = some (.lst (ks.map V.int)) → IsKeys hs ks → ks.length ≤ 60 → Q (.ref p) H'
theorem sc_unlike_parts : FnScope ["heaps", "seen", "heap", "part"] ["heaps"] (defScope s_unlike_parts) := ⟨rfl, rfl, rfl, by decide +kernel, rfl, by decide +kernel, by decide +kernel⟩
theorem ok_unlike_parts (B : Bi mg) (D : Df K mg "unlike_parts" s_unlike_parts) : Cl P w K mg base CX0 1 "unlike_parts" spUnlikeParts := by
  refine mk0 D sc_unlike_parts (fun _ _ _ _ _ _ us hl => match us, hl with | [_], _ => rfl) (fun vs H Q E h => ?_) (fun f cdv A outer s H vs Q E hr h => ?_)
  · obtain ⟨u, hs, rfl, _⟩ := h
    rfl
  · obtain ⟨u, hs, rfl, ⟨a, rs, rfl, ha, pr⟩, ⟨h6, h10⟩, k⟩ := h
    have hu := hu_of hr
    have hlen : rs.length = hs.length := pr_len pr
    refine ⟨_, pss_cons (ps_set (i := 1) sc_unlike_parts.nd rfl (Or.inl rfl) pe_dnewK)
      (pss_cons (ps_for PassesOwn.never rfl (pi_list (pv 0)) (pg_name (i := 2) sc_unlike_parts.nd rfl (Or.inl rfl))
        (pss_one (ps_for PassesOwn.never rfl (pi_tup (pv 2)) (pg_name (i := 3) sc_unlike_parts.nd rfl (Or.inl rfl)) (pss_one (ps_dput hu (pv 1) (pv 3) pe_bl rfl)))))
      (pss_one (ps_ret (pe_revL (pe_callB cr_sortedI (by rfl) B.sorted (by decide +kernel) (pa_cons (pe_callTy (call_list_dK rfl) (by rfl) B.list (by decide +kernel) (pa_cons (pv 1) pa_nil)) pa_nil)))))), ?_⟩
    intro d hd
    refine ⟨_, rfl, a, rfl, ⟨_, SqL.of (same_upd hd _ _ ha)⟩, for_list (K := K) (a := a) (xs := rs)
      (fun i σ H' => ∃ (v3 v4 : Option V) (ks : List Int), σ = [some (.ref a), some (.ref d), v3, v4] ∧ Same H H' ∧ Ky H' d ks ∧ ks.Nodup ∧ (∀ p, p ∈ ks ↔ ∃ h ∈ hs.take i, p ∈ h) ∧ ks.length ≤ 10 * i)
      ⟨none, none, [], rfl, same_upd hd, ⟨[], upd_same, rfl⟩, List.nodup_nil, fun p => by simp, Nat.zero_le _⟩ (fun i σ H' _ ⟨_, _, _, _, s1, _⟩ => SqL.of (s1 _ _ ha)) ?_ ?_⟩
    · rintro i y σ H1 hy ⟨v3, v4, ks, rfl, s1, hK, nd, hm, hl⟩
      obtain ⟨h, hh, hH⟩ := pr_get pr hy
      obtain ⟨b, ob, rfl, hb, db⟩ := hH
      have hb10 := h10 h (List.mem_of_getElem? hh)
      have hi6 : i < hs.length := (List.getElem?_eq_some_iff.mp hh).1
      refine ⟨_, rfl, b, rfl, ⟨_, .inl (.inr ⟨ob, s1 _ _ hb⟩)⟩, for_tup (K := K) (a := b) (xs := h.map V.int)
        (fun j σ H' => ∃ (v4 : Option V) (ks : List Int), σ = [some (.ref a), some (.ref d), some (.ref b), v4] ∧ Same H H' ∧ Ky H' d ks ∧ ks.Nodup ∧ (∀ p, p ∈ ks ↔ (∃ h ∈ hs.take i, p ∈ h) ∨ p ∈ h.take j) ∧ ks.length ≤ 10 * i + j)
        ⟨v4, ks, rfl, s1, hK, nd, fun p => by simp [hm p], by omega⟩ (fun j σ H' _ ⟨_, _, _, s2, _⟩ => .inl (.inr ⟨ob, s2 _ _ hb⟩)) ?_ ?_⟩
      · rintro j y σ H2 hy ⟨v4, ks, rfl, s2, ⟨kvs, hd2, ek⟩, nd, hm2, hl2⟩
        obtain ⟨p, hp, rfl⟩ := map_get hy
        have hj : j < h.length := (List.getElem?_eq_some_iff.mp hp).1
        have lk : kvs.length = ks.length := by have := congrArg List.length ek; simpa using this
        refine ⟨_, rfl, _, rfl, d, _, rfl, DPut.k (k := Sum.inl p) hd2 (small1000 (by omega)), ?_⟩
        refine ⟨_, addK ks p, rfl, ?_, ⟨_, upd_same, putK_keys _ p ek⟩, addK_nd nd, fun q => ?_, ?_⟩
        · intro c o e
          rw [upd_ne (ne_of_none e hd)]
          exact s2 c o e
        · rw [addK_mem, hm2, take_succ hp, List.mem_append, List.mem_singleton, or_assoc]
        · have := addK_len ks p
          omega
      · rintro σ H2 ⟨v4, ks, rfl, s2, hK2, nd2, hm2, hl2⟩
        rw [List.length_map, List.take_length] at hm2
        rw [List.length_map] at hl2
        refine ⟨_, _, ks, rfl, s2, hK2, nd2, fun p => ?_, by omega⟩
        rw [hm2, take_succ hh]
        constructor
        · rintro (⟨q, hq, hp⟩ | hp)
          · exact ⟨q, List.mem_append_left _ hq, hp⟩
          · exact ⟨h, by simp, hp⟩
        · rintro ⟨q, hq, hp⟩
          rcases List.mem_append.mp hq with z | z
          · exact .inl ⟨q, z, hp⟩
          · rw [List.mem_singleton.mp z] at hp
            exact .inr hp
    · rintro σ H1 ⟨v3, v4, ks, rfl, s1, ⟨kvs, hd1, ek⟩, nd, hm, hl⟩
      rw [hlen, List.take_length] at hm
      have e1 : kvs.map (fun kv => kV kv.1) = ks.map V.int := by
        have := congrArg (List.map kV) ek
        rw [List.map_map, List.map_map] at this
        exact this
      refine ⟨_, rfl, d, kvs, rfl, hd1, fun q hq => ⟨q, ks, rfl, SqL.of (by rw [upd_same, e1]), fun ks' p pm _ hp => ?_⟩⟩
      refine ⟨p, ks'.map V.int, rfl, SqL.of upd_same, fun r hr' => ?_⟩
      refine k _ r ks'.reverse ?_ ?_ ⟨?_, fun p => ?_⟩ ?_
      · exact same_upd' (same_upd' (same_upd' s1 hq) hp) hr'
      · rw [upd_same, List.map_reverse]
      · exact (List.reverse_perm _).nodup_iff.mpr (pm.nodup_iff.mpr nd)
      · rw [List.mem_reverse, pm.mem_iff, hm]
      · rw [List.length_reverse, pm.length_eq]
        omega
/-! ### joined, sum_of -/
theorem mx_le10 {hs : List Ht} (h : ∀ x ∈ hs, x.length ≤ 10) (p : Int) : mx hs p ≤ 10 := by
  induction hs with
  | nil => exact Nat.zero_le _
  | cons k r ih =>
    unfold mx
    have h1 := List.count_le_length (a := p) (l := k)
    have h2 := h k (List.mem_cons_self ..)
    have h3 := ih fun x hx => h x (List.mem_cons_of_mem _ hx)
    omega
def fnd (hs : List Ht) (ks : List Int) : Ht := ks.flatMap fun p => List.replicate (mx hs p) p
theorem fnd_len {hs : List Ht} (h : ∀ x ∈ hs, x.length ≤ 10) : ∀ ks : List Int, (fnd hs ks).length ≤ 10 * ks.length
  | [] => Nat.le_refl _
  | p :: r => by
    have h1 := fnd_len h r
    have h2 := mx_le10 h p
    show (List.replicate (mx hs p) p ++ fnd hs r).length ≤ _
    rw [List.length_append, List.length_replicate, List.length_cons]
    omega
def spJoined : Sp := fun vs H Q _ => ∃ (u : V) (hs : List Ht), vs = [u] ∧ HsAt H u hs ∧ Few hs ∧
  ∀ H' p l, Same H H' → H' p = some (.tup (l.map V.int)) → IsJ hs l → l.length ≤ 600 → Q (.ref p) H'
theorem sc_joined : FnScope ["heaps", "found", "part", "heap"] ["heaps"] (defScope s_joined) := ⟨rfl, rfl, rfl, by decide +kernel, rfl, by decide +kernel, by decide +kernel⟩
theorem ok_joined (B : Bi mg) (D : Df K mg "joined" s_joined) (cU : Cl P w K mg base CX0 1 "unlike_parts" spUnlikeParts) : Cl P w K mg base CX0 2 "joined" spJoined := by
  refine mk0 D sc_joined (fun _ _ _ _ _ _ us hl => match us, hl with | [_], _ => rfl) (fun vs H Q E h => ?_) (fun f cdv A outer s H vs Q E hr h => ?_)
  · obtain ⟨u, hs, rfl, _⟩ := h
    rfl
  · obtain ⟨u, hs, rfl, hHs, hF, k⟩ := h
    obtain ⟨a, rs, rfl, ha, pr⟩ := id hHs
    have hlen : rs.length = hs.length := pr_len pr
    refine ⟨_, pss_cons (ps_set (i := 1) sc_joined.nd rfl (Or.inl rfl) (pe_lst pa_nil))
      (pss_cons (ps_for PassesOwn.never rfl (pi_list (pe_f cU hr (by decide) rfl (pa_cons (pv 0) pa_nil))) (pg_name (i := 2) sc_joined.nd rfl (Or.inr rfl))
        (pss_one (ps_expr (pe_bm PySem.F.plainAttrs_list PySem.F.slot_list_extend PySem.F.type_list_extend mt_extend (pv 1) (pa_cons (pe_op op_rep (pe_lst (pa_cons (pv 2) pa_nil))
          (pe_callB (cr_max rfl) (by rfl) B.max (by decide +kernel) (pa_cons (pe_lc (own := [("heap", 3)]) (g := gName 3) (tt := tYes) rfl sc_joined.nd (pi_list (pv 0)) (blkOk_by (own := [("heap", 3)]) (N := ["heaps", "found", "part", "heap"]) (sc := defScope s_joined) (by decide +kernel))
            (fun _ _ _ _ _ => pg_name (i := 3) sc_joined.nd rfl (Or.inl rfl)) (fun _ _ _ _ _ => pts_nil) (fun _ _ _ _ _ => pe_tcnt (pv 3) (pv 2))) pa_nil))) pa_nil)))))
      (pss_one (ps_ret (pe_callTy call_tuple_of (by rfl) B.tuple (by decide +kernel) (pa_cons (pv 1) pa_nil))))), ?_⟩
    refine ⟨Nat.zero_le _, fun l hl => ?_⟩
    have s0 : Same H (upd H l (.lst [])) := same_upd hl
    refine ⟨_, rfl, _, hs, rfl, ⟨a, rs, rfl, s0 _ _ ha, L2.Paired.mapP pr fun _ _ => HtAt.same s0⟩, hF, fun H1 q ks s1 hq hks hk60 => ?_⟩
    have sH1 : Same H H1 := s0.trans s1
    have hl1 : H1 l = some (.lst []) := s1 _ _ upd_same
    refine ⟨q, rfl, ⟨_, SqL.of hq⟩, for_list (K := K) (a := q) (xs := ks.map V.int)
      (fun i σ H' => ∃ (v3 v4 : Option V), σ = [some (.ref a), some (.ref l), v3, v4] ∧ Same H H' ∧ H' q = some (.lst (ks.map V.int)) ∧ H' l = some (.lst ((fnd hs (ks.take i)).map V.int)))
      ⟨none, none, rfl, sH1, hq, hl1⟩ (fun i σ H' _ ⟨_, _, _, _, h, _⟩ => SqL.of h) ?_ ?_⟩
    · rintro i y σ H2 hy ⟨v3, v4, rfl, s2, hq2, hl2⟩
      obtain ⟨p, hp, rfl⟩ := map_get hy
      have hi : i < ks.length := (List.getElem?_eq_some_iff.mp hp).1
      refine ⟨_, rfl, .inl ⟨rfl, _, SqL.of hl2⟩, _, rfl, ?_, fun l1 hl1' => ?_⟩
      · show 1 ≤ sizeLine
        decide
      have nl1 : l ≠ l1 := ne_of_none hl2 hl1'
      have nq1 : q ≠ l1 := ne_of_none hq2 hl1'
      have s3 : Same H (upd H2 l1 (.lst [.int p])) := same_upd' s2 hl1'
      refine ⟨_, rfl, a, rfl, ⟨_, SqL.of (s3 _ _ ha)⟩, fun M hM => ?_⟩
      refine lc_list (K := K) (a := a) (xs := rs) (g := gName 3) (tt := tYes) (te := tTCnt K (tVar 3) (tVar 2)) (vs := [3]) (σ := [some (V.ref a), some (V.ref l), some (V.int p), v4]) (fun j H' => Same (upd H2 l1 (.lst [.int p])) H' ∧ H' M = some (.lst (((hs.take j).map fun h => ((h.count p : Nat) : Int)).map V.int)))
        ⟨same_upd hM, upd_same⟩ (fun j H' _ h => SqL.of (h.1 _ _ (s3 _ _ ha))) ?_ ?_
      · rintro j z H3 hz ⟨s4, hM3⟩
        obtain ⟨h, hh, b, ob, rfl, hb, db⟩ := pr_get pr hz
        have s34 := s3.trans s4
        have hj : j < hs.length := (List.getElem?_eq_some_iff.mp hh).1
        have h6 := hF.1
        refine ⟨rfl, _, rfl, b, ob, h, rfl, s34 _ _ hb, db, _, rfl, p, rfl, s34 _ _ hb, _, hM3, ?_, ?_, ?_⟩
        · rw [List.length_map, List.length_map, List.length_take]
          exact small1000 (by omega)
        · intro c o e
          rw [upd_ne (ne_of_none e hM)]
          exact s4 c o e
        · rw [upd_same, take_succ hh, List.map_append, List.map_append]
          rfl
      · rintro H3 ⟨s4, hM3⟩
        rw [hlen, List.take_length] at hM3
        have hex := (hks.2 p).mp (List.mem_of_getElem? hp)
        obtain ⟨h0, hh0, _⟩ := hex
        have pos : 0 < hs.length := List.length_pos_of_mem hh0
        refine ⟨M, _, rfl, SqL.of hM3, by rw [List.length_map]; exact pos, fun m hm hle => ?_⟩
        obtain ⟨m', rfl⟩ : ∃ m' : Nat, m = (m' : Int) := by
          obtain ⟨h, _, e⟩ := List.mem_map.mp hm
          exact ⟨_, e.symm⟩
        have em : m' = mx hs p := by
          refine mx_of ?_ ?_
          · obtain ⟨h, hh, e⟩ := List.mem_map.mp hm
            exact List.mem_map.mpr ⟨h, hh, by exact Int.ofNat_inj.mp e⟩
          · intro y hy
            obtain ⟨h, hh, rfl⟩ := List.mem_map.mp hy
            exact Int.ofNat_le.mp (hle _ (List.mem_map.mpr ⟨h, hh, rfl⟩))
        have m10 : m' ≤ 10 := by rw [em]; exact mx_le10 hF.2 p
        have hl13 : H3 l1 = some (.lst [.int p]) := s4 _ _ upd_same
        refine ⟨l1, _, _, rfl, rfl, hl13, by omega, by omega, ?_, fun l2 hl2' => ?_⟩
        · show 1 * (m' : Int).toNat ≤ sizeLine
          rw [Int.toNat_natCast, sizeLine_eq]
          omega
        have hl3 : H3 l = some (.lst ((fnd hs (ks.take i)).map V.int)) := s4 _ _ (by rw [upd_ne nl1]; exact hl2)
        have nl2 : l ≠ l2 := ne_of_none hl3 hl2'
        have erep : (List.replicate (m' : Int).toNat [V.int p]).flatten = (List.replicate (mx hs p) p).map V.int := by
          rw [Int.toNat_natCast, em, List.map_replicate, List.flatten_replicate_singleton]
        refine ⟨l, l2, _, _, rfl, rfl, by rw [upd_ne nl2]; exact hl3, upd_same, ?_, ?_⟩
        · rw [erep, List.length_map, List.length_map, List.length_replicate]
          have z1 := fnd_len hF.2 (ks.take i)
          rw [List.length_take] at z1
          rw [sizeLine_eq]
          omega
        · have sH3 : Same H H3 := s3.trans s4
          refine ⟨_, _, rfl, ?_, ?_, ?_⟩
          · intro c o e
            have n1 : c ≠ l := ne_of_none e hl
            have n2 : c ≠ l2 := ne_of_none (sH3 c o e) hl2'
            rw [upd_ne n1, upd_ne n2]
            exact sH3 c o e
          · have hq3 : H3 q = some (.lst (ks.map V.int)) := s4 _ _ (by rw [upd_ne nq1]; exact hq2)
            have n1 : q ≠ l := fun z => by
              have hql : (upd H l (.lst []) : Hp) q = none ∨ True := .inr trivial
              rw [z] at hq
              rw [hl1] at hq
              have e1 : ([] : List V) = ks.map V.int := by
                have := Option.some.inj hq
                injection this
              have : ks = [] := by
                cases ks with
                | nil => rfl
                | cons x r => cases e1
              rw [this] at hi
              simp at hi
            rw [upd_ne n1, upd_ne (ne_of_none hq3 hl2')]
            exact hq3
          · rw [upd_same, erep, take_succ hp]
            unfold fnd
            rw [List.flatMap_append, List.map_append]
            simp
    · rintro σ H2 ⟨v3, v4, rfl, s2, hq2, hl2⟩
      rw [List.length_map, List.take_length] at hl2
      refine ⟨_, rfl, l, _, rfl, .inl ⟨SqL.of hl2, fun t ht => ?_⟩⟩
      refine k _ t (fnd hs ks) (same_upd' s2 ht) upd_same (isJ_keys hks.1 hks.2) ?_
      have := fnd_len hF.2 ks
      omega
def spSumOf (K : PySem.W.Frag) : Sp := fun vs H Q _ => ∃ (a : Addr) (l : List Int), vs = [.ref a] ∧ SqT K H a (l.map V.int) ∧ ∀ H', Same H H' → Q (.int l.sum) H'
theorem sc_sum_of : FnScope ["heap"] ["heap"] (defScope s_sum_of) := ⟨rfl, rfl, rfl, by decide +kernel, rfl, by decide +kernel, by decide +kernel⟩
theorem ok_sum_of (B : Bi mg) (D : Df K mg "sum_of" s_sum_of) : Cl P w K mg base CX0 1 "sum_of" (spSumOf K) := by
  refine mk0 D sc_sum_of (fun _ _ _ _ _ _ us hl => match us, hl with | [_], _ => rfl) (fun vs H Q E h => ?_) (fun f cdv A outer s H vs Q E hr h => ?_)
  · obtain ⟨a, l, rfl, _⟩ := h
    rfl
  · obtain ⟨a, l, rfl, ha, k⟩ := h
    refine ⟨_, pss_one (ps_ret (pe_callB (cr_sum rfl) (by rfl) B.sum (by decide +kernel) (pa_cons (pe_callTy call_list_of (by rfl) B.list (by decide +kernel) (pa_cons (pv 0) pa_nil)) pa_nil))), ?_⟩
    refine ⟨_, rfl, a, _, rfl, .inr ha, fun q hq => ⟨q, l, rfl, SqL.of upd_same, k _ (same_upd hq)⟩⟩
end
end Kd
namespace Kd
open PySem PySem.Spec PyProof.Rows L2
/-- an error class of the program's own, without an __init__ -/
structure Er (K : PySem.W.Frag) (mg : Str → Option Value) (x : Str) (C : Addr) : Prop where
  g : mg x = some (.ref C)
  ex : PySem.W.excIn K C [.type "ValueError", .type "Exception", .type "BaseException", .type "object"] "ValueError.__new__" = true
  kp : PySem.W.keepIn K (.ref C) = true
  su : PySem.W.subIn K (.ref C) (.type "BaseException") = some true
  ty : PySem.W.typeIn K (.ref C) = some (.type "type")
theorem ps_rz {X : Cx} {W : WX} {x m : Str} {C : Addr} {j : Nat} {p p2 pos pos2 : Pos} (hc : X.calm = true) (e : Er X.K X.mg x C) (tk : Takes X W) (hg : Gl X x) (hdb : (x == ("__debug__" : Str)) = false := by decide) :
    PS X (.Raise (some (.Call (.Name x p) [.Constant (.str m) j p2] [] pos)) none pos2) (fun _ σ H => W (.ref C) none σ H) :=
  ps_raise hc tk (pmk_own PySem.F.excBase_ValueError e.ex e.g e.kp (raises_own e.su e.ty) hg hdb)
/-- the i-th heap of a rule -/
theorem ru_get {H : Hp} {rs : List V} {r : Ru} (p : Paired (HtAt H) rs r) {i : Nat} (hi : i < r.length) : ∃ v, rs[i]? = some v ∧ HtAt H v (r.getD i []) := by
  obtain ⟨v, h1, h2⟩ := pr_get' p (List.getElem?_eq_getElem hi)
  refine ⟨v, h1, ?_⟩
  rw [List.getD_eq_getElem?_getD, List.getElem?_eq_getElem hi]
  exact h2
section
variable {P : Program} {w : World} {K : PySem.W.Frag} {mg : Str → Option Value} {base : Heap}
/-- a choice's tuple -/
def ChAt (H : Hp) (v : V) (c : List Nat) : Prop := ∃ a : Addr, v = .ref a ∧ H a = some (.tup (c.map nI))
theorem ChAt.same {H H' : Hp} {v : V} {c : List Nat} (s : Same H H') (x : ChAt H v c) : ChAt H' v c := by
  obtain ⟨a, e, h⟩ := x
  exact ⟨a, e, s _ _ h⟩
/-! ### chosen, choices_of -/
def bitsOf (n c m : Nat) : List Nat := (List.range m).filter fun i => decide (c / 2 ^ i % 2 = 1)
theorem shr_bit (c i : Nat) : ((c : Int) / 2 ^ ((i : Int).toNat)) % 2 = ((c / 2 ^ i % 2 : Nat) : Int) := by
  rw [Int.toNat_natCast]
  have e : ((2 : Int) ^ i) = ((2 ^ i : Nat) : Int) := by simp
  rw [e, ← Int.natCast_ediv]
  omega
def spChosen : Sp := fun vs H Q _ => ∃ (a : Addr) (n : Nat), vs = [.ref a] ∧ H a = some (.lst ((List.range n).map nI)) ∧ n ≤ 6 ∧
  ∀ H' p xs, Same H H' → H' p = some (.lst xs) → Paired (ChAt H') xs (chs n) → Q (.ref p) H'
theorem sc_chosen : FnScope ["numbers", "found", "code", "number", "at"] ["numbers"] (defScope s_chosen) := ⟨rfl, rfl, rfl, by decide +kernel, rfl, by decide +kernel, by decide +kernel⟩
theorem ok_chosen (B : Bi mg) (D : Df K mg "chosen" s_chosen) : Cl P w K mg base CX0 1 "chosen" spChosen := by
  refine mk0 D sc_chosen (fun _ _ _ _ _ _ us hl => match us, hl with | [_], _ => rfl) (fun vs H Q E h => ?_) (fun f cdv A outer s H vs Q E hr h => ?_)
  · obtain ⟨a, n, rfl, _⟩ := h
    rfl
  · obtain ⟨a, n, rfl, ha, hn, k⟩ := h
    refine ⟨_, pss_cons (ps_set (i := 1) sc_chosen.nd rfl (Or.inl rfl) (pe_lst pa_nil))
      (pss_cons (ps_for PassesOwn.never rfl (pi_range1 (by rfl) B.range (pa_cons (pe_op op_shl pe_int (pe_callB call_len_seq (by rfl) B.len PySem.boot_len (pa_cons (pv 0) pa_nil))) pa_nil)) (pg_name (i := 2) sc_chosen.nd rfl (Or.inr rfl))
        (pss_one (ps_expr (pe_bm PySem.F.plainAttrs_list PySem.F.slot_list_append PySem.F.type_list_append mt_append (pv 1) (pa_cons (pe_callTy call_tuple_of (by rfl) B.tuple (by decide +kernel) (pa_cons
          (pe_lc (own := [("at", 4), ("number", 3)]) (g := gTup K 2 (gCons (gName 4) (gCons (gName 3) gNil))) rfl sc_chosen.nd (pi_enum (by rfl) B.enumerate (pa_cons (pv 0) pa_nil))
            (blkOk_by (own := [("at", 4), ("number", 3)]) (N := ["numbers", "found", "code", "number", "at"]) (sc := defScope s_chosen) (by decide +kernel))
            (fun _ _ _ _ _ => pg_tup (by rfl) (pgs_cons (pg_name (i := 4) sc_chosen.nd rfl (Or.inl rfl)) (pgs_cons (pg_name (i := 3) sc_chosen.nd rfl (Or.inl rfl)) pgs_nil)))
            (fun _ _ _ _ _ => pts_one (pt_cmpR op_eq (pe_op op_mod (pe_op op_shr (pv 2) (pv 4)) pe_int) pe_int (nomark _))) (fun _ _ _ _ _ => pv 3)) pa_nil)) pa_nil)))))
      (pss_one (ps_ret (pv 1)))), ?_⟩
    refine ⟨Nat.zero_le _, fun l hl => ?_⟩
    have s0 : Same H (upd H l (.lst [])) := same_upd hl
    have p2 : (2 : Nat) ^ n ≤ 64 := Nat.pow_le_pow_right (by decide) hn
    refine ⟨_, rfl, a, _, rfl, .inl (SqL.of (s0 _ _ ha)), ?_⟩
    rw [List.length_map, List.length_range]
    refine ⟨1, (n : Int), rfl, rfl, ⟨by omega, by omega, by decide⟩, ?_⟩
    have e2 : (1 : Int) * 2 ^ (n : Int).toNat = ((2 ^ n : Nat) : Int) := by rw [Int.toNat_natCast, Int.one_mul]; simp
    refine ⟨((2 ^ n : Nat) : Int), congrArg (fun z => [V.int z]) e2, Int.le_trans (by decide) (Int.natCast_nonneg _), Int.lt_of_le_of_lt (Int.ofNat_le.mpr p2) (by decide), ?_⟩
    refine for_range (lo := 0) (n := 2 ^ n) (fun i σ H' => ∃ (v3 v4 v5 : Option V) (xs : List V), σ = [some (.ref a), some (.ref l), v3, v4, v5] ∧ Same H H' ∧ H' l = some (.lst xs) ∧ Paired (ChAt H') xs ((List.range i).map fun c => bitsOf n c n))
      ⟨none, none, none, [], rfl, s0, upd_same, .nil⟩ ?_ ?_
    · rintro i σ H1 hi ⟨v3, v4, v5, xs, rfl, s1, hl1, px⟩
      have lx : xs.length = i := by rw [pr_len px, List.length_map, List.length_range]
      refine ⟨_, rfl, .inl ⟨rfl, _, SqL.of hl1⟩, ?_⟩
      refine ⟨_, rfl, a, _, rfl, SqL.of (s1 _ _ ha), fun M hM => ?_⟩
      have s1M : Same H1 (upd H1 M (.lst [])) := same_upd hM
      refine lc_it walk_enum (fun j H' => Same H1 H' ∧ H' M = some (.lst ((bitsOf n i j).map nI))) ⟨s1M, upd_same⟩ (fun j H' _ h => SqL.of (h.1 _ _ (s1 _ _ ha))) ?_ ?_
      · rintro j z H2 H3 hj ⟨s2, hM2⟩ ⟨T, y1, y2, rfl, hT, rfl, e1, e2⟩
        cases e1
        obtain ⟨m, hm, rfl⟩ := map_get e2
        have hjn : j < n := by
          rw [List.length_map, List.length_range] at hj
          exact hj
        have em : m = j := by
          rw [List.getElem?_range hjn] at hm
          exact (Option.some.inj hm).symm
        subst em
        have s3 : Same H1 (upd H2 T (.tup [.int (m : Int), nI m])) := same_upd' s2 hT
        have nMT : M ≠ T := ne_of_none hM2 hT
        refine ⟨T, _, rfl, SqT.of upd_same, rfl, _, _, rfl, _, _, rfl, rfl, rfl, ?_⟩
        refine ⟨_, rfl, _, rfl, _, _, rfl, rfl, Int.natCast_nonneg _, _, _, rfl, rfl, (by show (0 : Int) < 2; decide), rfl, _, rfl, ?_⟩
        have hM3 : (upd H2 T (.tup [.int (m : Int), nI m]) : Hp) M = some (.lst ((bitsOf n i m).map nI)) := by rw [upd_ne nMT]; exact hM2
        have nx : bitsOf n i (m + 1) = bitsOf n i m ++ (if i / 2 ^ m % 2 = 1 then [m] else []) := by
          unfold bitsOf
          rw [List.range_succ, List.filter_append]
          congr 1
          simp only [List.filter_cons, List.filter_nil, decide_eq_true_eq]
        have tst : (decide (V.int (((0 : Int) + (i : Nat)) / 2 ^ (m : Int).toNat % 2) = V.int 1)) = decide (i / 2 ^ m % 2 = 1) := by
          rw [Int.zero_add, shr_bit]
          apply decide_eq_decide.mpr
          constructor
          · intro z
            injection z with z
            omega
          · intro z
            rw [z]
            rfl
        show if decide (V.int (((0 : Int) + (i : Nat)) / 2 ^ (m : Int).toNat % 2) = V.int 1) = true then _ else _
        rw [tst]
        refine ite2 (fun c => ?_) (fun c => ?_)
        · rw [if_pos (of_decide_eq_true c)] at nx
          refine ⟨_, rfl, _, hM3, ?_, ?_, ?_⟩
          · rw [List.length_map]
            have q : (bitsOf n i m).length ≤ m := by
              unfold bitsOf
              exact Nat.le_trans (List.length_filter_le _ _) (by rw [List.length_range]; exact Nat.le_refl _)
            exact small1000 (by omega)
          · intro c o e
            rw [upd_ne (ne_of_none e hM)]
            exact s3 c o e
          · rw [upd_same, nx, List.map_append]
            rfl
        · rw [if_neg (fun z => c (decide_eq_true z)), List.append_nil] at nx
          exact ⟨s3, by rw [nx]; exact hM3⟩
      · rintro H2 ⟨s2, hM2⟩
        rw [List.length_map, List.length_range] at hM2
        refine ⟨M, _, rfl, .inl ⟨SqL.of hM2, fun t ht => ?_⟩⟩
        have hl2 : H2 l = some (.lst xs) := s2 _ _ hl1
        have nlt : l ≠ t := ne_of_none hl2 ht
        refine ⟨l, xs, _, rfl, rfl, by rw [upd_ne nlt]; exact hl2, ?_, ?_⟩
        · rw [lx, sizeLine_eq]
          omega
        · have s4 : Same H2 (upd H2 t (.tup ((bitsOf n i n).map nI))) := same_upd ht
          have nch : ∀ {v : V} {c : List Nat}, ChAt H1 v c → ChAt (upd (upd H2 t (.tup ((bitsOf n i n).map nI))) l (.lst (xs ++ [.ref t]))) v c := by
            rintro v c ⟨b, rfl, hb⟩
            have nb : b ≠ l := ne_of hb hl1 (by intro z; cases z)
            exact ⟨b, rfl, by rw [upd_ne nb]; exact s4 _ _ (s2 _ _ hb)⟩
          refine ⟨_, _, _, xs ++ [.ref t], rfl, ?_, upd_same, ?_⟩
          · intro c o e
            rw [upd_ne (ne_of_none e hl)]
            exact s4 _ _ (s2 _ _ (s1 _ _ e))
          · rw [List.range_succ, List.map_append]
            exact pr_app (L2.Paired.mapP px fun _ _ => nch) (.cons ⟨t, rfl, by rw [upd_ne nlt.symm, upd_same]⟩ .nil)
    · rintro σ H1 ⟨v3, v4, v5, xs, rfl, s1, hl1, px⟩
      exact ⟨_, rfl, k _ l xs s1 hl1 px⟩
def spChoicesOf : Sp := fun vs H Q _ => ∃ (u : V) (r : Ru), vs = [u] ∧ RuAt H u r ∧ r.length ≤ 6 ∧
  ∀ H' p xs, Same H H' → H' p = some (.lst xs) → Paired (ChAt H') xs (chs r.length) → Q (.ref p) H'
theorem sc_choices_of : FnScope ["rule"] ["rule"] (defScope s_choices_of) := ⟨rfl, rfl, rfl, by decide +kernel, rfl, by decide +kernel, by decide +kernel⟩
theorem ok_choices_of (B : Bi mg) (D : Df K mg "choices_of" s_choices_of) (cC : Cl P w K mg base CX0 1 "chosen" spChosen) : Cl P w K mg base CX0 2 "choices_of" spChoicesOf := by
  refine mk0 D sc_choices_of (fun _ _ _ _ _ _ us hl => match us, hl with | [_], _ => rfl) (fun vs H Q E h => ?_) (fun f cdv A outer s H vs Q E hr h => ?_)
  · obtain ⟨u, r, rfl, _⟩ := h
    rfl
  · obtain ⟨u, r, rfl, ⟨a, rs, rfl, ha, pr⟩, h6, k⟩ := h
    refine ⟨_, pss_one (ps_ret (pe_f cC hr (by decide) rfl (pa_cons (pe_listRg rfl (by rfl) B.list (prg_1 (by rfl) B.range (pe_callB call_len_seq (by rfl) B.len PySem.boot_len (pa_cons (pv 0) pa_nil)))) pa_nil))), ?_⟩
    refine ⟨_, rfl, a, _, rfl, .inr (SqT.of ha), _, rfl, ?_⟩
    rw [pr_len pr]
    refine ⟨RgOk.of_le (by omega) (by omega) (by omega) (by omega), fun q hq => ?_⟩
    have e : rgV 0 (r.length : Int) = (List.range r.length).map nI := by
      unfold rgV
      rw [Int.sub_zero, Int.toNat_natCast]
      apply List.map_congr_left
      intro i _
      show V.int (0 + (i : Nat)) = V.int (i : Int)
      rw [Int.zero_add]
    refine ⟨q, r.length, rfl, by rw [upd_same, e], h6, fun H' p xs s1 hp px => k H' p xs ((same_upd hq).trans s1) hp px⟩
/-! ### joined_of, sums_of -/
/-- a rule's heaps, not too great -/
def Fit (r : Ru) : Prop := r.length ≤ 6 ∧ ∀ h ∈ r, h.length ≤ 10
theorem Fit.pick {r : Ru} (f : Fit r) {c : List Nat} (h : ∀ i ∈ c, i < r.length) (hl : c.length ≤ 6) : Few (pick r c) := by
  refine ⟨by unfold Kd.pick; rw [List.length_map]; exact hl, fun x hx => ?_⟩
  obtain ⟨i, hi, rfl⟩ := List.mem_map.mp hx
  have hir := h i hi
  rw [List.getD_eq_getElem?_getD, List.getElem?_eq_getElem hir]
  exact f.2 _ (List.getElem_mem hir)
def spJoinedOf : Sp := fun vs H Q _ => ∃ (u v : V) (r : Ru) (c : List Nat), vs = [u, v] ∧ RuAt H u r ∧ ChAt H v c ∧ Fit r ∧ (∀ i ∈ c, i < r.length) ∧ c.length ≤ 6 ∧
  ∀ H' p l, Same H H' → H' p = some (.tup (l.map V.int)) → IsJ (pick r c) l → Q (.ref p) H'
theorem sc_joined_of : FnScope ["rule", "choice", "number"] ["rule", "choice"] (defScope s_joined_of) := ⟨rfl, rfl, rfl, by decide +kernel, rfl, by decide +kernel, by decide +kernel⟩
theorem ok_joined_of (D : Df K mg "joined_of" s_joined_of) (cJ : Cl P w K mg base CX0 2 "joined" spJoined) : Cl P w K mg base CX0 3 "joined_of" spJoinedOf := by
  refine mk0 D sc_joined_of (fun _ _ _ _ _ _ us hl => match us, hl with | [_, _], _ => rfl) (fun vs H Q E h => ?_) (fun f cdv A outer s H vs Q E hr h => ?_)
  · obtain ⟨u, v, r, c, rfl, _⟩ := h
    rfl
  · obtain ⟨u, v, r, c, rfl, ⟨a, rs, rfl, ha, pr⟩, ⟨b, rfl, hb⟩, hF, hc, hc6, k⟩ := h
    refine ⟨_, pss_one (ps_ret (pe_f cJ hr (by decide) rfl (pa_cons (pe_lc (own := [("number", 2)]) (g := gName 2) (tt := tYes) rfl sc_joined_of.nd (pi_tup (pv 1)) (blkOk_by (own := [("number", 2)]) (N := ["rule", "choice", "number"]) (sc := defScope s_joined_of) (by decide +kernel))
      (fun _ _ _ _ _ => pg_name (i := 2) sc_joined_of.nd rfl (Or.inl rfl)) (fun _ _ _ _ _ => pts_nil) (fun _ _ _ _ _ => pe_ix (r := rIxT K) ix_tup (pv 0) (pv 2) (fun _ _ => rfl))) pa_nil))), ?_⟩
    refine ⟨_, rfl, b, rfl, ⟨_, SqT.of hb⟩, fun L hL => lc_tup (xs := c.map nI) (fun i H' => Same H H' ∧ ∃ xs, H' L = some (.lst xs) ∧ Paired (HtAt H) xs (pick r (c.take i)))
      ⟨same_upd hL, [], upd_same, .nil⟩ (fun i H' _ h => SqT.of (h.1 _ _ hb)) ?_ ?_⟩
    · rintro i z H1 hz ⟨s1, xs, hL1, px⟩
      obtain ⟨m, hm, rfl⟩ := map_get hz
      have hmr := hc m (List.mem_of_getElem? hm)
      obtain ⟨v, hv, hH⟩ := ru_get pr hmr
      have hi : i < c.length := (List.getElem?_eq_some_iff.mp hm).1
      refine ⟨rfl, _, rfl, _, rfl, a, rs, (m : Int), v, rfl, rfl, SqT.of (s1 _ _ ha), atI_nat hv, xs, hL1, ?_, ?_, xs ++ [v], upd_same, ?_⟩
      · rw [pr_len px]
        unfold Kd.pick
        rw [List.length_map, List.length_take]
        exact small1000 (by omega)
      · intro q o e
        rw [upd_ne (ne_of_none e hL)]
        exact s1 q o e
      · rw [take_succ hm]
        unfold Kd.pick
        rw [List.map_append]
        exact pr_app px (.cons hH .nil)
    · rintro H1 ⟨s1, xs, hL1, px⟩
      rw [List.length_map, List.take_length] at px
      refine ⟨_, pick r c, rfl, ⟨L, xs, rfl, hL1, L2.Paired.mapP px fun _ _ => HtAt.same s1⟩, hF.pick hc hc6, fun H' p l s2 hp hj _ => k H' p l (s1.trans s2) hp hj⟩
/-- a choice with its sum -/
def SmAt (H : Hp) (v : V) (t : List Nat × Int) : Prop := ∃ (a : Addr) (x : V), v = .ref a ∧ H a = some (.tup [x, .int t.2]) ∧ ChAt H x t.1
theorem SmAt.same {H H' : Hp} {v : V} {t : List Nat × Int} (s : Same H H') (x : SmAt H v t) : SmAt H' v t := by
  obtain ⟨a, y, e, h, c⟩ := x
  exact ⟨a, y, e, s _ _ h, c.same s⟩
def smRows (r : Ru) (l : List (List Nat)) : List (List Nat × Int) := l.map fun c => (c, jsum (pick r c))
theorem chs_short {n : Nat} (hn : n ≤ 6) {c : List Nat} (h : c ∈ chs n) : c.length ≤ 6 := by
  obtain ⟨k, _, rfl⟩ := List.mem_map.mp h
  exact Nat.le_trans (List.length_filter_le _ _) (by rw [List.length_range]; exact hn)
def spSumsOf : Sp := fun vs H Q _ => ∃ (u : V) (r : Ru), vs = [u] ∧ RuAt H u r ∧ Fit r ∧
  ∀ H' p xs, Same H H' → H' p = some (.lst xs) → Paired (SmAt H') xs (smRows r (chs r.length)) → Q (.ref p) H'
theorem sc_sums_of : FnScope ["rule", "choice"] ["rule"] (defScope s_sums_of) := ⟨rfl, rfl, rfl, by decide +kernel, rfl, by decide +kernel, by decide +kernel⟩
theorem ok_sums_of (D : Df K mg "sums_of" s_sums_of) (cC : Cl P w K mg base CX0 2 "choices_of" spChoicesOf) (cJ : Cl P w K mg base CX0 3 "joined_of" spJoinedOf) (cS : Cl P w K mg base CX0 1 "sum_of" (spSumOf K)) : Cl P w K mg base CX0 4 "sums_of" spSumsOf := by
  refine mk0 D sc_sums_of (fun _ _ _ _ _ _ us hl => match us, hl with | [_], _ => rfl) (fun vs H Q E h => ?_) (fun f cdv A outer s H vs Q E hr h => ?_)
  · obtain ⟨u, r, rfl, _⟩ := h
    rfl
  · obtain ⟨u, r, rfl, hR, hF, k⟩ := h
    refine ⟨_, pss_one (ps_ret (pe_lc (own := [("choice", 1)]) (g := gName 1) (tt := tYes) rfl sc_sums_of.nd (pi_list (pe_f cC hr (by decide) rfl (pa_cons (pv 0) pa_nil))) (blkOk_by (own := [("choice", 1)]) (N := ["rule", "choice"]) (sc := defScope s_sums_of) (by decide +kernel))
      (fun _ _ _ _ _ => pg_name (i := 1) sc_sums_of.nd rfl (Or.inl rfl)) (fun _ _ _ _ _ => pts_nil)
      (fun _ _ _ _ _ => pe_tup (pa_cons (pv 1) (pa_cons (pe_f cS hr (by decide) rfl (pa_cons (pe_f cJ hr (by decide) rfl (pa_cons (pv 0) (pa_cons (pv 1) pa_nil))) pa_nil)) pa_nil))))), ?_⟩
    refine ⟨_, rfl, u, r, rfl, hR, hF.1, fun H1 p cs s1 hp pc => ⟨p, rfl, ⟨_, SqL.of hp⟩, fun L hL => ?_⟩⟩
    have p64 : (chs r.length).length ≤ 64 := by
      rw [chs_length]
      exact Nat.pow_le_pow_right (by decide) hF.1
    refine lc_list (K := K) (a := p) (xs := cs) (g := gName 1) (tt := tYes) (vs := [1]) (σ := [some u, none]) (fun i H' => Same H1 H' ∧ ∃ xs, H' L = some (.lst xs) ∧ Paired (SmAt H') xs (smRows r ((chs r.length).take i)))
      ⟨same_upd hL, [], upd_same, .nil⟩ (fun i H' _ h => SqL.of (h.1 _ _ hp)) ?_ ?_
    · rintro i z H2 hz ⟨s2, xs, hL2, px⟩
      obtain ⟨c, hc, hC⟩ := pr_get pc hz
      have hm := List.mem_of_getElem? hc
      have hi : i < (chs r.length).length := (List.getElem?_eq_some_iff.mp hc).1
      have sH2 : Same H H2 := s1.trans s2
      refine ⟨rfl, _, rfl, _, rfl, _, rfl, u, z, r, c, rfl, hR.same sH2, hC.same s2, hF, chs_lt hm, chs_short hF.1 hm, fun H3 q l s3 hq hj => ?_⟩
      refine ⟨q, l, rfl, SqT.of hq, fun H4 s4 => ⟨by show 2 ≤ sizeLine; decide, fun t ht => ?_⟩⟩
      have s24 : Same H2 H4 := s3.trans s4
      have hL4 : H4 L = some (.lst xs) := s24 _ _ hL2
      have nLt : L ≠ t := ne_of_none hL4 ht
      have s4t := same_upd (o := .tup [z, .int l.sum]) ht
      have nx : ∀ {v : V} {t' : List Nat × Int}, SmAt (upd H4 t (.tup [z, .int l.sum])) v t' → SmAt (upd (upd H4 t (.tup [z, .int l.sum])) L (.lst (xs ++ [.ref t]))) v t' := by
        rintro v t' ⟨b, x, rfl, hb, ⟨d, rfl, hd⟩⟩
        have hL4t : (upd H4 t (.tup [z, .int l.sum]) : Hp) L = some (.lst xs) := by rw [upd_ne nLt]; exact hL4
        refine ⟨b, _, rfl, by rw [upd_ne (ne_of hb hL4t (by intro z; cases z))]; exact hb, d, rfl, by rw [upd_ne (ne_of hd hL4t (by intro z; cases z))]; exact hd⟩
      refine ⟨xs, by rw [upd_ne nLt]; exact hL4, ?_, ?_, xs ++ [.ref t], upd_same, ?_⟩
      · rw [pr_len px]
        unfold smRows
        rw [List.length_map, List.length_take]
        exact small1000 (by omega)
      · intro q o e
        rw [upd_ne (ne_of_none e hL)]
        exact s4t _ _ (s24 _ _ (s2 _ _ e))
      · rw [take_succ hc]
        unfold smRows
        rw [List.map_append]
        refine pr_app (L2.Paired.mapP px fun _ _ h => nx ((h.same s24).same s4t)) (.cons (nx ⟨t, z, rfl, ?_, (hC.same (s2.trans s24)).same s4t⟩) .nil)
        rw [upd_same, isJ_sum hj]
    · rintro H2 ⟨s2, xs, hL2, px⟩
      rw [pr_len pc, List.take_length] at px
      exact k H2 L xs (s1.trans s2) hL2 px
end
end Kd
namespace Kd
open PySem PySem.Spec PyProof.Rows L2
section
variable {P : Program} {w : World} {K : PySem.W.Frag} {mg : Str → Option Value} {base : Heap}
/-! ### first_unlike -/
def UnAt (H : Hp) (v : V) : Option Un3 → Prop
  | none => v = .non
  | some t => ∃ (p : Addr) (x : V), v = .ref p ∧ H p = some (.tup [x, .int t.2.1, .int t.2.2]) ∧ ChAt H x t.1
def spFirstUnlike (C : Addr) : Sp := fun vs H Q E => ∃ (u v : V) (a b : Ru), vs = [u, v] ∧ RuAt H u a ∧ RuAt H v b ∧ Fit a ∧ Fit b ∧
  (a.length ≠ b.length → E (.ref C) none H) ∧ (a.length = b.length → ∀ H' v', Same H H' → UnAt H' v' (unlike a b) → Q v' H')
theorem sc_first_unlike : FnScope ["one", "other", "choice", "mine", "same", "theirs"] ["one", "other"] (defScope s_first_unlike) := ⟨rfl, rfl, rfl, by decide +kernel, rfl, by decide +kernel, by decide +kernel⟩
theorem smRows_get {r : Ru} {l : List (List Nat)} {i : Nat} {t : List Nat × Int} (h : (smRows r l)[i]? = some t) : ∃ c, l[i]? = some c ∧ t = (c, jsum (pick r c)) := map_get h
theorem ok_first_unlike {C : Addr} (B : Bi mg) (D : Df K mg "first_unlike" s_first_unlike) (eM : Er K mg "NotSoMany" C) (cS : Cl P w K mg base CX0 4 "sums_of" spSumsOf) : Cl P w K mg base (L2.CX P w) 5 "first_unlike" (spFirstUnlike C) := by
  refine mkX D sc_first_unlike (fun _ _ _ _ _ _ us hl => match us, hl with | [_, _], _ => rfl) (fun vs H Q E h => ?_) (fun f cdv A outer s H vs Q E hr h => ?_)
  · obtain ⟨u, v, a, b, rfl, _⟩ := h
    rfl
  · obtain ⟨u, v, a, b, rfl, hA, hB, fA, fB, kE, kQ⟩ := h
    obtain ⟨pa, ra, rfl, ha, pra⟩ := id hA
    obtain ⟨pb, rb, rfl, hb, prb⟩ := id hB
    refine ⟨_, pss_cons (ps_if (pt_cmpR op_ne (pe_callB call_len_seq (by rfl) B.len PySem.boot_len (pa_cons (pv 0) pa_nil)) (pe_callB call_len_seq (by rfl) B.len PySem.boot_len (pa_cons (pv 1) pa_nil)) (nomark _))
        (pss_one (ps_rz rfl eM (takes_of rfl rfl rfl rfl) (by rfl))) pss_nil)
      (pss_cons (ps_for (passes_of rfl) rfl (pi_zip (by rfl) B.zip (pa_cons (pe_f cS hr (by decide) rfl (pa_cons (pv 0) pa_nil)) (pa_cons (pe_f cS hr (by decide) rfl (pa_cons (pv 1) pa_nil)) pa_nil)))
        (pg_tup rfl (pgs_cons (pg_tup rfl (pgs_cons (pg_name (i := 2) sc_first_unlike.nd rfl (Or.inl rfl)) (pgs_cons (pg_name (i := 3) sc_first_unlike.nd rfl (Or.inl rfl)) pgs_nil)))
          (pgs_cons (pg_tup rfl (pgs_cons (pg_name (i := 4) sc_first_unlike.nd rfl (Or.inl rfl)) (pgs_cons (pg_name (i := 5) sc_first_unlike.nd rfl (Or.inl rfl)) pgs_nil))) pgs_nil)))
        (pss_one (ps_if (pt_cmpR op_ne (pv 3) (pv 5) (nomark _)) (pss_one (ps_ret (pe_tup (pa_cons (pv 2) (pa_cons (pv 3) (pa_cons (pv 5) pa_nil)))))) pss_nil)))
      (pss_one (ps_ret pe_non))), ?_⟩
    refine ⟨_, rfl, pa, _, rfl, .inr (SqT.of ha), _, rfl, pb, _, rfl, .inr (SqT.of hb), rfl, _, rfl, ?_⟩
    have la : ra.length = a.length := pr_len pra
    have lb : rb.length = b.length := pr_len prb
    by_cases hl : a.length = b.length
    · have hd : (!decide (V.int (ra.length : Int) = V.int (rb.length : Int))) = false := by rw [la, lb, hl]; simp
      rw [hd]
      refine iteF ?_
      have kQ := kQ hl
      refine ⟨_, rfl, _, a, rfl, hA, fA, fun H1 p xs s1 hp px => ⟨_, rfl, _, b, rfl, hB.same s1, fB, fun H2 q ys s2 hq py => ?_⟩⟩
      have sH2 : Same H H2 := s1.trans s2
      have px2 : Paired (SmAt H2) xs (smRows a (chs a.length)) := L2.Paired.mapP px fun _ _ => SmAt.same s2
      have lx : xs.length = (chs a.length).length := by rw [pr_len px]; unfold smRows; rw [List.length_map]
      have ly : ys.length = (chs a.length).length := by rw [pr_len py]; unfold smRows; rw [List.length_map, hl]
      have hp2 := s2 _ _ hp
      refine ⟨p, q, xs, ys, rfl, SqL.of hp2, SqL.of hq, for_it (walk_zip (n := (chs a.length).length) (by rw [lx, ly]; omega))
        (fun i σ H' => ∃ (v2 v3 v4 v5 : Option V), σ = [some (.ref pa), some (.ref pb), v2, v3, v4, v5] ∧ Same H2 H' ∧ ∀ j u, j < i → (rows a b)[j]? = some u → u.2.1 = u.2.2)
        ⟨none, none, none, none, rfl, Same.refl _, fun j u h => absurd h (Nat.not_lt_zero _)⟩ (fun i σ H' _ ⟨_, _, _, _, _, s3, _⟩ => ⟨SqL.of (s3 _ _ hp2), SqL.of (s3 _ _ hq)⟩) ?_ ?_⟩
      · rintro i z σ H3 H4 hi ⟨v2, v3, v4, v5, rfl, s3, hf⟩ ⟨T, y1, y2, rfl, hT, rfl, e1, e2⟩
        obtain ⟨t1, ht1, a1, x1, rfl, ha1, hc1⟩ := pr_get px2 e1
        obtain ⟨c, hc, rfl⟩ := smRows_get ht1
        obtain ⟨t2, ht2, a2, x2, rfl, ha2, hc2⟩ := pr_get py e2
        obtain ⟨c', hc', rfl⟩ := smRows_get ht2
        rw [← hl, hc] at hc'
        cases hc'
        have row := rows_get (a := a) (b := b) hc
        have s4 : Same H2 (upd H3 T (.tup [.ref a1, .ref a2])) := same_upd' s3 hT
        refine ⟨T, _, rfl, SqT.of upd_same, rfl, _, _, rfl, ⟨a1, _, rfl, SqT.of (s4 _ _ ha1), rfl, _, _, rfl, _, _, rfl, rfl, ?_⟩⟩
        refine ⟨_, _, rfl, ⟨a2, _, rfl, SqT.of (s4 _ _ ha2), rfl, _, _, rfl, _, _, rfl, rfl, ?_⟩⟩
        refine ⟨rfl, _, rfl, _, rfl, rfl, _, rfl, ?_⟩
        by_cases hne : jsum (pick a c) = jsum (pick b c)
        · have hd : (!decide (V.int (jsum (pick a c)) = V.int (jsum (pick b c)))) = false := by rw [hne]; simp
          rw [hd]
          refine iteF ⟨_, _, _, _, rfl, s4, fun j u hj hu => ?_⟩
          by_cases hji : j < i
          · exact hf j u hji hu
          · have : j = i := by omega
            subst this
            rw [row] at hu
            cases hu
            exact hne
        · have hd : (!decide (V.int (jsum (pick a c)) = V.int (jsum (pick b c)))) = true := by
            rw [decide_eq_false (fun z => hne (by injection z))]
            rfl
          rw [hd]
          refine iteT ⟨_, rfl, _, rfl, _, rfl, by show 3 ≤ sizeLine; decide, fun t ht => ?_⟩
          have s5 : Same H2 _ := same_upd' (o := .tup [x1, .int (jsum (pick a c)), .int (jsum (pick b c))]) s4 ht
          refine kQ _ _ (sH2.trans s5) ?_
          rw [unlike_some row hne hf]
          exact ⟨t, x1, rfl, upd_same, hc1.same s5⟩
      · rintro σ H3 ⟨v2, v3, v4, v5, rfl, s3, hf⟩
        refine kQ _ _ (sH2.trans s3) ?_
        rw [unlike_none fun j u hu => hf j u ?_ hu]
        · rfl
        · have := (List.getElem?_eq_some_iff.mp hu).1
          unfold rows at this
          rw [List.length_map] at this
          exact this
    · have hd : (!decide (V.int (ra.length : Int) = V.int (rb.length : Int))) = true := by
        rw [decide_eq_false (fun z => hl (by injection z with z; omega))]
        rfl
      rw [hd]
      exact iteT (kE hl)
end
end Kd
namespace Kd
open PySem PySem.Spec PyProof.Rows L2
/-! ## Rows made item by item -/
/-- the lists may change, and new things come; all else stays -/
def SameT (H H' : Hp) : Prop := ∀ b o, H b = some o → (∀ xs, o ≠ .lst xs) → H' b = some o
def NL {β : Type} (R : Hp → V → β → Prop) : Prop := ∀ H H' v y, SameT H H' → R H v y → R H' v y
theorem same_nl {H H' : Hp} (s : Same H H') : SameT H H' := fun b o h _ => s b o h
theorem SameT.refl (H : Hp) : SameT H H := fun _ _ h _ => h
theorem SameT.trans {H H1 H2 : Hp} (a : SameT H H1) (b : SameT H1 H2) : SameT H H2 := fun c o h n => b c o (a c o h n) n
theorem nl_lst {H : Hp} {L : Addr} {xs ys : List V} (h : H L = some (.lst xs)) : SameT H (upd H L (.lst ys)) := fun b o hb n => by
  rw [upd_ne (ne_of hb h (n xs))]
  exact hb
theorem nl_new {H : Hp} {L : Addr} {o : HO} (h : H L = none) : SameT H (upd H L o) := same_nl (same_upd h)
theorem nl_ht : NL HtAt := fun H H' v y s ⟨a, o, e, h, d⟩ => ⟨a, o, e, s _ _ h (fun _ z => by cases z), d⟩
theorem HtAt.nl {H H' : Hp} {v : V} {h : Ht} (s : SameT H H') (x : HtAt H v h) : HtAt H' v h := nl_ht _ _ _ _ s x
theorem nl_ru : NL RuAt := fun H H' v y s ⟨a, vs, e, h, p⟩ => ⟨a, vs, e, s _ _ h (fun _ z => by cases z), L2.Paired.mapP p fun _ _ q => q.nl s⟩
theorem RuAt.nl {H H' : Hp} {v : V} {h : Ru} (s : SameT H H') (x : RuAt H v h) : RuAt H' v h := nl_ru _ _ _ _ s x
theorem nl_ch : NL ChAt := fun H H' v y s ⟨a, e, h⟩ => ⟨a, e, s _ _ h fun _ z => by cases z⟩
theorem nl_val {β : Type} {f : β → V} : NL (fun (_ : Hp) v y => v = f y) := fun _ _ _ _ _ h => h
theorem pr_map {β : Type} {f : β → V} : ∀ {us : List V} {ys : List β} {H : Hp}, Paired ((fun (_ : Hp) v y => v = f y) H) us ys → us = ys.map f
  | _, _, _, .nil => rfl
  | _, _, H, .cons a t => by rw [a, pr_map (H := H) t, List.map_cons]
theorem lc_mk {J : It} {n : Nat} {G : Hp → Prop} {B : Nat → V → Prop} {β : Type} {R : Hp → V → β → Prop} (w : Walk J n G (fun i H x H' => H' = H ∧ B i x)) (nl : NL R) (ys : List β) (hn : ys.length = n) (hsz : n ≤ 1000)
    {g : TG} {te : TE} {vs : List Nat} {σ : L2.St} {H1 : Hp} {D : Addr} {Qd : Hp → Prop} (hD : H1 D = none) (hG : ∀ H', Same H1 H' → G H')
    (hs : ∀ i x y H2, i < n → B i x → ys[i]? = some y → Same H1 H2 → ∀ Kc : VK, (∀ v H4, Same H2 H4 → R H4 v y → Kc v H4) → g x (wipe σ vs) H2 fun σ2 H3 => wipe σ2 vs = wipe σ vs ∧ te σ2 H3 Kc)
    (hd : ∀ H2 us, Same H1 H2 → H2 D = some (.lst us) → Paired (R H2) us ys → Qd H2) :
    ∃ W : Nat → Nat → Hp → Prop, (∃ m, W 0 m (upd H1 D (.lst []))) ∧ ∀ i m H, W i m H →
      (J.stop i H ∧ Qd H) ∨ (J.go i H ∧ ∃ Nx : Hp → Prop, (∀ H', Nx H' → ∃ m', m' < m ∧ W (i + 1) m' H') ∧ ∀ x H', J.yld i H x H' → g x (wipe σ vs) H' fun σ2 H2 => wipe σ2 vs = wipe σ vs ∧ tYes σ2 H2 fun b H3 =>
        if b = true then te σ2 H3 fun y H4 => ∃ acc, H4 D = some (.lst acc) ∧ acc.length < sizeLine ∧ Nx (upd H4 D (.lst (acc ++ [y]))) else Nx H3) := by
  refine lc_it w (fun i H => Same H1 H ∧ ∃ us, H D = some (.lst us) ∧ Paired (R H) us (ys.take i)) ⟨same_upd hD, [], upd_same, .nil⟩ (fun i H _ h => hG H h.1) ?_ ?_
  · rintro i x H H' hi ⟨s1, us, hus, pu⟩ ⟨rfl, b⟩
    obtain ⟨y, hy⟩ : ∃ y, ys[i]? = some y := ⟨_, List.getElem?_eq_getElem (by omega)⟩
    refine hs i x y H' hi b hy s1 _ fun v H4 s4 hv => ⟨us, s4 _ _ hus, ?_, ?_, us ++ [v], upd_same, ?_⟩
    · rw [pr_len pu, List.length_take]
      exact small1000 (by omega)
    · intro c o e
      rw [upd_ne (ne_of_none e hD)]
      exact s4 c o (s1 c o e)
    · have s5 : SameT H4 (upd H4 D (.lst (us ++ [v]))) := nl_lst (s4 _ _ hus)
      rw [take_succ hy]
      exact pr_app (L2.Paired.mapP pu fun _ _ q => nl _ _ _ _ ((same_nl s4).trans s5) q) (.cons (nl _ _ _ _ s5 hv) .nil)
  · rintro H ⟨s1, us, hus, pu⟩
    rw [← hn, List.take_length] at pu
    exact hd H us s1 hus pu
/-! ### how long texts are -/
theorem num_len {i : Int} (h0 : 0 ≤ i) (h : i ≤ 10 ^ 30) : (num i).length ≤ 31 := by
  rw [TL.len_tl, tl_num h0]
  exact TL.numL_len (by decide) (by omega)
theorem sum_le_mul {l : List Nat} {k : Nat} (h : ∀ x ∈ l, x ≤ k) : l.sum ≤ l.length * k := by
  induction l with
  | nil => simp
  | cons a r ih =>
    have h1 := h a (by simp)
    have h2 := ih fun x hx => h x (List.mem_cons_of_mem _ hx)
    rw [List.sum_cons, List.length_cons, Nat.add_mul, Nat.one_mul]
    omega
theorem joinL_len (S : List Nat) : ∀ ps : List (List Nat), (TL.joinL S ps).length ≤ (ps.map List.length).sum + ps.length * S.length
  | [] => by simp [TL.joinL]
  | [p] => by simp [TL.joinL]
  | p :: q :: r => by
    have := joinL_len S (q :: r)
    simp only [TL.joinL, List.length_append, List.map_cons, List.sum_cons, List.length_cons] at this ⊢
    have e1 : (r.length + 1 + 1) * S.length = (r.length + 1) * S.length + S.length := by rw [Nat.add_mul (r.length + 1), Nat.one_mul]
    omega
theorem join_len {y : Str} {ws : List Str} {k : Nat} (h : ∀ w ∈ ws, w.length ≤ k) : (Txt.join y ws).length ≤ ws.length * (k + y.length) := by
  rw [TL.len_tl, tl_joinT]
  have h1 := joinL_len (TL.tl y) (ws.map TL.tl)
  have h2 : ((ws.map TL.tl).map List.length).sum ≤ ws.length * k := by
    have := sum_le_mul (l := (ws.map TL.tl).map List.length) (k := k) (fun x hx => by
      obtain ⟨z, hz, rfl⟩ := List.mem_map.mp hx
      obtain ⟨w, hw, rfl⟩ := List.mem_map.mp hz
      rw [← TL.len_tl]
      exact h w hw)
    rw [List.length_map, List.length_map] at this
    exact this
  rw [List.length_map, ← TL.len_tl] at h1
  rw [Nat.mul_add]
  omega
theorem len_none : ("none" : Str).length = 4 := by decide +kernel
theorem len_noheaps : ("no heaps" : Str).length = 8 := by decide +kernel
theorem len_sp : (" " : Str).length = 1 := by decide +kernel
theorem len_bar : (" | " : Str).length = 3 := by decide +kernel
theorem heapT_len {h : Ht} (g : GH h) : (heapT h).length ≤ 400 := by
  unfold heapT
  split
  · rw [len_none]; decide
  · have := join_len (y := (" " : Str)) (ws := h.map num) (k := 31) fun w hw => by
      obtain ⟨p, hp, rfl⟩ := List.mem_map.mp hw
      exact num_len (by have := g.lo p hp; omega) (g.hi p hp)
    rw [List.length_map, len_sp] at this
    have := g.few
    omega
theorem ruleT_len {r : Ru} (g : GR r) : (ruleT r).length ≤ 3000 := by
  unfold ruleT
  split
  · rw [len_noheaps]; decide
  · have := join_len (y := (" | " : Str)) (ws := r.map heapT) (k := 400) fun w hw => by
      obtain ⟨h, hh, rfl⟩ := List.mem_map.mp hw
      exact heapT_len (g.all h hh)
    rw [List.length_map, len_bar] at this
    have := g.few
    omega
theorem log_small {i : Int} (h0 : 0 ≤ i) (h : i ≤ 10 ^ 30) : i.natAbs.log2 < 1920 := by
  have : i.natAbs.log2 < 101 := by
    rcases Nat.eq_zero_or_pos i.natAbs with z | z
    · rw [z]; decide
    · rw [Nat.log2_lt (by omega)]
      omega
  omega
end Kd
namespace Kd
open PySem PySem.Spec PyProof.Rows L2
section
variable {P : Program} {w : World} {K : PySem.W.Frag} {mg : Str → Option Value} {base : Heap}
def spHeapText : Sp := fun vs H Q _ => ∃ (u : V) (h : Ht), vs = [u] ∧ HtAt H u h ∧ GH h ∧ ∀ H', Same H H' → Q (.str (heapT h)) H'
def spRuleText : Sp := fun vs H Q _ => ∃ (u : V) (r : Ru), vs = [u] ∧ RuAt H u r ∧ GR r ∧ ∀ H', Same H H' → Q (.str (ruleT r)) H'

theorem sc_heap_text : FnScope ["heap", "part"] ["heap"] (defScope s_heap_text) := ⟨rfl, rfl, rfl, by decide +kernel, rfl, by decide +kernel, by decide +kernel⟩
theorem ok_heap_text (B : Bi mg) (D : Df K mg "heap_text" s_heap_text) : Cl P w K mg base CX0 1 "heap_text" spHeapText := by
  refine mk0 D sc_heap_text (fun _ _ _ _ _ _ us hl => match us, hl with | [_], _ => rfl) (fun vs H Q E h => ?_) (fun f cdv A outer s H vs Q E hr h => ?_)
  · obtain ⟨u, x, rfl, _⟩ := h
    rfl
  · obtain ⟨u, x, rfl, ⟨a, oa, rfl, ha, da⟩, gx, k⟩ := h
    have sq : ∀ H', Same H H' → SqT K H' a (x.map V.int) := fun H' s => .inl (.inr ⟨oa, s _ _ ha⟩)
    refine ⟨_, pss_cons (ps_if (pt_not (pt_truth (pv 0) (by intro _; rfl))) (pss_one (ps_ret pe_str)) pss_nil)
      (pss_one (ps_ret (pe_join pe_str (pe_lc (own := [("part", 1)]) (g := gName 1) (tt := tYes) rfl sc_heap_text.nd (pi_tup (pv 0)) (blkOk_by (own := [("part", 1)]) (N := ["heap", "part"]) (sc := defScope s_heap_text) (by decide +kernel))
        (fun _ _ _ _ _ => pg_name (i := 1) sc_heap_text.nd rfl (Or.inl rfl)) (fun _ _ _ _ _ => pts_nil)
        (fun _ _ _ _ _ => pe_callTy call_str_int (by rfl) B.str (by decide +kernel) (pa_cons (pv 1) pa_nil)))))), ?_⟩
    refine ⟨_, rfl, !(x.map V.int).isEmpty, .inr (.inl ⟨_, sq H (Same.refl H), rfl⟩), ?_⟩
    cases x with
    | nil => exact iteT (k H (Same.refl H))
    | cons p q =>
      refine iteF ?_
      refine ⟨⟨_, rfl⟩, _, rfl, a, rfl, ⟨_, sq H (Same.refl H)⟩, fun L hL => lc_mk (vs := [1]) (R := fun (_ : Hp) v y => v = V.str (num y)) (walk_tup (K := K) (a := a)) (nl_val (f := fun y => V.str (num y))) (p :: q) (List.length_map ..).symm (by rw [List.length_map]; have := gx.few; omega) hL sq ?_ ?_⟩
      · intro i z y H2 hi hz hy s2 Kc hK
        rw [List.getElem?_map, hy] at hz
        cases hz
        have hm := List.mem_of_getElem? hy
        exact ⟨rfl, _, rfl, y, rfl, log_small (by have := gx.lo y hm; omega) (gx.hi y hm), hK _ H2 (Same.refl H2) rfl⟩
      · intro H2 us s2 hL2 pu
        have e := pr_map (f := fun y => V.str (num y)) (H := H2) pu
        refine ⟨_, L, (p :: q).map num, rfl, rfl, .inl (SqL.of (by rw [hL2, e, List.map_map]; rfl)), ?_, ?_⟩
        · have h1 := sum_le_mul (l := ((p :: q).map num).map (·.length)) (k := 31) fun z hz => by
            obtain ⟨w, hw, rfl⟩ := List.mem_map.mp hz
            obtain ⟨i, hi, rfl⟩ := List.mem_map.mp hw
            exact num_len (by have := gx.lo i hi; omega) (gx.hi i hi)
          have h2 := gx.few
          rw [List.length_map, List.length_map] at h1
          rw [List.length_map, len_sp]
          omega
        · exact (k H2 s2 : Q (.str (heapT (p :: q))) H2)
theorem sc_rule_text : FnScope ["rule", "heap"] ["rule"] (defScope s_rule_text) := ⟨rfl, rfl, rfl, by decide +kernel, rfl, by decide +kernel, by decide +kernel⟩
theorem ok_rule_text (D : Df K mg "rule_text" s_rule_text) (cH : Cl P w K mg base CX0 1 "heap_text" spHeapText) : Cl P w K mg base CX0 2 "rule_text" spRuleText := by
  refine mk0 D sc_rule_text (fun _ _ _ _ _ _ us hl => match us, hl with | [_], _ => rfl) (fun vs H Q E h => ?_) (fun f cdv A outer s H vs Q E hr h => ?_)
  · obtain ⟨u, x, rfl, _⟩ := h
    rfl
  · obtain ⟨u, x, rfl, ⟨a, rs, rfl, ha, pr⟩, gx, k⟩ := h
    have sq : ∀ H', Same H H' → SqT K H' a rs := fun H' s => SqT.of (s _ _ ha)
    refine ⟨_, pss_cons (ps_if (pt_not (pt_truth (pv 0) (by intro _; rfl))) (pss_one (ps_ret pe_str)) pss_nil)
      (pss_one (ps_ret (pe_join pe_str (pe_lc (own := [("heap", 1)]) (g := gName 1) (tt := tYes) rfl sc_rule_text.nd (pi_tup (pv 0)) (blkOk_by (own := [("heap", 1)]) (N := ["rule", "heap"]) (sc := defScope s_rule_text) (by decide +kernel))
        (fun _ _ _ _ _ => pg_name (i := 1) sc_rule_text.nd rfl (Or.inl rfl)) (fun _ _ _ _ _ => pts_nil)
        (fun _ _ _ _ _ => pe_f cH hr (by decide) rfl (pa_cons (pv 1) pa_nil)))))), ?_⟩
    have ln : rs.length = x.length := pr_len pr
    refine ⟨_, rfl, !rs.isEmpty, .inr (.inl ⟨_, sq H (Same.refl H), rfl⟩), ?_⟩
    cases x with
    | nil =>
      cases pr
      exact iteT (k H (Same.refl H))
    | cons p q =>
      have hne : rs.isEmpty = false := by
        cases pr
        rfl
      rw [hne]
      refine iteF ?_
      refine ⟨⟨_, rfl⟩, _, rfl, a, rfl, ⟨_, sq H (Same.refl H)⟩, fun L hL => lc_mk (vs := [1]) (R := fun (_ : Hp) v y => v = V.str (heapT y)) (walk_tup (K := K) (a := a)) (nl_val (f := fun y => V.str (heapT y))) (p :: q) ln.symm (by rw [ln]; have := gx.few; omega) hL sq ?_ ?_⟩
      · intro i z y H2 hi hz hy s2 Kc hK
        obtain ⟨y', hy', hH⟩ := pr_get pr hz
        rw [hy] at hy'
        cases hy'
        exact ⟨rfl, _, rfl, z, y, rfl, hH.same s2, gx.all y (List.mem_of_getElem? hy), fun H3 s3 => hK _ H3 s3 rfl⟩
      · intro H2 us s2 hL2 pu
        have e := pr_map (f := fun y => V.str (heapT y)) (H := H2) pu
        refine ⟨_, L, (p :: q).map heapT, rfl, rfl, .inl (SqL.of (by rw [hL2, e, List.map_map]; rfl)), ?_, ?_⟩
        · have h1 := sum_le_mul (l := ((p :: q).map heapT).map (·.length)) (k := 400) fun z hz => by
            obtain ⟨w, hw, rfl⟩ := List.mem_map.mp hz
            obtain ⟨i, hi, rfl⟩ := List.mem_map.mp hw
            exact heapT_len (gx.all i hi)
          have h2 := gx.few
          rw [List.length_map, List.length_map] at h1
          rw [List.length_map, len_bar]
          omega
        · exact (k H2 s2 : Q (.str (ruleT (p :: q))) H2)

theorem sc_law_heap_text : FnScope ["_law_heap_here", "_law_part"] ["_law_heap_here"] (defScope s_law_heap_text) := ⟨rfl, rfl, rfl, by decide +kernel, rfl, by decide +kernel, by decide +kernel⟩
theorem ok_law_heap_text (B : Bi mg) (D : Df K mg "_law_heap_text" s_law_heap_text) : Cl P w K mg base CX0 1 "_law_heap_text" spHeapText := by
  refine mk0 D sc_law_heap_text (fun _ _ _ _ _ _ us hl => match us, hl with | [_], _ => rfl) (fun vs H Q E h => ?_) (fun f cdv A outer s H vs Q E hr h => ?_)
  · obtain ⟨u, x, rfl, _⟩ := h
    rfl
  · obtain ⟨u, x, rfl, ⟨a, oa, rfl, ha, da⟩, gx, k⟩ := h
    have sq : ∀ H', Same H H' → SqT K H' a (x.map V.int) := fun H' s => .inl (.inr ⟨oa, s _ _ ha⟩)
    refine ⟨_, pss_cons (ps_if (pt_not (pt_truth (pv 0) (by intro _; rfl))) (pss_one (ps_ret pe_str)) pss_nil)
      (pss_one (ps_ret (pe_join pe_str (pe_lc (own := [("_law_part", 1)]) (g := gName 1) (tt := tYes) rfl sc_law_heap_text.nd (pi_tup (pv 0)) (blkOk_by (own := [("_law_part", 1)]) (N := ["_law_heap_here", "_law_part"]) (sc := defScope s_law_heap_text) (by decide +kernel))
        (fun _ _ _ _ _ => pg_name (i := 1) sc_law_heap_text.nd rfl (Or.inl rfl)) (fun _ _ _ _ _ => pts_nil)
        (fun _ _ _ _ _ => pe_callTy call_str_int (by rfl) B.str (by decide +kernel) (pa_cons (pv 1) pa_nil)))))), ?_⟩
    refine ⟨_, rfl, !(x.map V.int).isEmpty, .inr (.inl ⟨_, sq H (Same.refl H), rfl⟩), ?_⟩
    cases x with
    | nil => exact iteT (k H (Same.refl H))
    | cons p q =>
      refine iteF ?_
      refine ⟨⟨_, rfl⟩, _, rfl, a, rfl, ⟨_, sq H (Same.refl H)⟩, fun L hL => lc_mk (vs := [1]) (R := fun (_ : Hp) v y => v = V.str (num y)) (walk_tup (K := K) (a := a)) (nl_val (f := fun y => V.str (num y))) (p :: q) (List.length_map ..).symm (by rw [List.length_map]; have := gx.few; omega) hL sq ?_ ?_⟩
      · intro i z y H2 hi hz hy s2 Kc hK
        rw [List.getElem?_map, hy] at hz
        cases hz
        have hm := List.mem_of_getElem? hy
        exact ⟨rfl, _, rfl, y, rfl, log_small (by have := gx.lo y hm; omega) (gx.hi y hm), hK _ H2 (Same.refl H2) rfl⟩
      · intro H2 us s2 hL2 pu
        have e := pr_map (f := fun y => V.str (num y)) (H := H2) pu
        refine ⟨_, L, (p :: q).map num, rfl, rfl, .inl (SqL.of (by rw [hL2, e, List.map_map]; rfl)), ?_, ?_⟩
        · have h1 := sum_le_mul (l := ((p :: q).map num).map (·.length)) (k := 31) fun z hz => by
            obtain ⟨w, hw, rfl⟩ := List.mem_map.mp hz
            obtain ⟨i, hi, rfl⟩ := List.mem_map.mp hw
            exact num_len (by have := gx.lo i hi; omega) (gx.hi i hi)
          have h2 := gx.few
          rw [List.length_map, List.length_map] at h1
          rw [List.length_map, len_sp]
          omega
        · exact (k H2 s2 : Q (.str (heapT (p :: q))) H2)
theorem sc_law_rule_text : FnScope ["_law_rule", "_law_heap_here"] ["_law_rule"] (defScope s_law_rule_text) := ⟨rfl, rfl, rfl, by decide +kernel, rfl, by decide +kernel, by decide +kernel⟩
theorem ok_law_rule_text (D : Df K mg "_law_rule_text" s_law_rule_text) (cH : Cl P w K mg base CX0 1 "_law_heap_text" spHeapText) : Cl P w K mg base CX0 2 "_law_rule_text" spRuleText := by
  refine mk0 D sc_law_rule_text (fun _ _ _ _ _ _ us hl => match us, hl with | [_], _ => rfl) (fun vs H Q E h => ?_) (fun f cdv A outer s H vs Q E hr h => ?_)
  · obtain ⟨u, x, rfl, _⟩ := h
    rfl
  · obtain ⟨u, x, rfl, ⟨a, rs, rfl, ha, pr⟩, gx, k⟩ := h
    have sq : ∀ H', Same H H' → SqT K H' a rs := fun H' s => SqT.of (s _ _ ha)
    refine ⟨_, pss_cons (ps_if (pt_not (pt_truth (pv 0) (by intro _; rfl))) (pss_one (ps_ret pe_str)) pss_nil)
      (pss_one (ps_ret (pe_join pe_str (pe_lc (own := [("_law_heap_here", 1)]) (g := gName 1) (tt := tYes) rfl sc_law_rule_text.nd (pi_tup (pv 0)) (blkOk_by (own := [("_law_heap_here", 1)]) (N := ["_law_rule", "_law_heap_here"]) (sc := defScope s_law_rule_text) (by decide +kernel))
        (fun _ _ _ _ _ => pg_name (i := 1) sc_law_rule_text.nd rfl (Or.inl rfl)) (fun _ _ _ _ _ => pts_nil)
        (fun _ _ _ _ _ => pe_f cH hr (by decide) rfl (pa_cons (pv 1) pa_nil)))))), ?_⟩
    have ln : rs.length = x.length := pr_len pr
    refine ⟨_, rfl, !rs.isEmpty, .inr (.inl ⟨_, sq H (Same.refl H), rfl⟩), ?_⟩
    cases x with
    | nil =>
      cases pr
      exact iteT (k H (Same.refl H))
    | cons p q =>
      have hne : rs.isEmpty = false := by
        cases pr
        rfl
      rw [hne]
      refine iteF ?_
      refine ⟨⟨_, rfl⟩, _, rfl, a, rfl, ⟨_, sq H (Same.refl H)⟩, fun L hL => lc_mk (vs := [1]) (R := fun (_ : Hp) v y => v = V.str (heapT y)) (walk_tup (K := K) (a := a)) (nl_val (f := fun y => V.str (heapT y))) (p :: q) ln.symm (by rw [ln]; have := gx.few; omega) hL sq ?_ ?_⟩
      · intro i z y H2 hi hz hy s2 Kc hK
        obtain ⟨y', hy', hH⟩ := pr_get pr hz
        rw [hy] at hy'
        cases hy'
        exact ⟨rfl, _, rfl, z, y, rfl, hH.same s2, gx.all y (List.mem_of_getElem? hy), fun H3 s3 => hK _ H3 s3 rfl⟩
      · intro H2 us s2 hL2 pu
        have e := pr_map (f := fun y => V.str (heapT y)) (H := H2) pu
        refine ⟨_, L, (p :: q).map heapT, rfl, rfl, .inl (SqL.of (by rw [hL2, e, List.map_map]; rfl)), ?_, ?_⟩
        · have h1 := sum_le_mul (l := ((p :: q).map heapT).map (·.length)) (k := 400) fun z hz => by
            obtain ⟨w, hw, rfl⟩ := List.mem_map.mp hz
            obtain ⟨i, hi, rfl⟩ := List.mem_map.mp hw
            exact heapT_len (gx.all i hi)
          have h2 := gx.few
          rw [List.length_map, List.length_map] at h1
          rw [List.length_map, len_bar]
          omega
        · exact (k H2 s2 : Q (.str (ruleT (p :: q))) H2)
end
end Kd
namespace Kd
open PySem PySem.Spec PyProof.Rows L2
section
variable {P : Program} {w : World} {K : PySem.W.Frag} {mg : Str → Option Value} {base : Heap}
/-! ### numbers, heaps and rules read -/
structure Gv (mg : Str → Option Value) : Prop where
  signs : ∃ t, mg "MOST_SIGNS" = some (.int 60 t)
  parts : ∃ t, mg "MOST_PARTS" = some (.int 60 t)
  heaps : ∃ t, mg "MOST_HEAPS" = some (.int 6 t)
  figs : ∃ t, mg "FIGURES_texts" = some (.str "0123456789" t)
  letters : ∃ t, mg "LETTERS" = some (.str "abcdefghijklmnopqrstuvwxyz" t)
  figsd : ∃ t, mg "FIGURES_desk" = some (.str "0123456789" t)
theorem cutV_drop (xs : List V) (k : Nat) : cutV xs (some (k : Int)) none = xs.drop k := by
  unfold cutV
  rw [HT.sIx_nat, HT.sIx_none]
  by_cases h : k ≤ xs.length
  · rw [Nat.min_eq_left h]
    exact List.take_of_length_le (by rw [List.length_drop]; exact Nat.le_refl _)
  · rw [List.drop_eq_nil_of_le (by omega), List.take_nil, List.drop_eq_nil_of_le (by omega)]
theorem cutV_take (xs : List V) (k : Nat) : cutV xs none (some (k : Int)) = xs.take k := by
  unfold cutV
  rw [HT.sIx_nat, HT.sIx_none, List.drop_zero, Nat.sub_zero]
  by_cases h : k ≤ xs.length
  · rw [Nat.min_eq_left h]
  · rw [Nat.min_eq_right (by omega), List.take_of_length_le (Nat.le_refl _), List.take_of_length_le (by omega)]
theorem dec_ne {x y : Str} (h : x ≠ y) : decide (V.str x = V.str y) = false := decide_eq_false fun z => h (by injection z)
theorem tl_ne {x y : Str} (h : TL.tl x ≠ TL.tl y) : x ≠ y := fun z => h (congrArg TL.tl z)
theorem tl_digits : TL.tl ("0123456789" : Str) = [48, 49, 50, 51, 52, 53, 54, 55, 56, 57] := by decide +kernel
theorem tl_empty : TL.tl ("" : Str) = [] := by decide +kernel
theorem tl_zero : TL.tl ("0" : Str) = [48] := by decide +kernel
theorem num_sign {i : Int} (h : 0 ≤ i) {c : Nat} (hc : c ∈ TL.tl (num i)) : 48 ≤ c ∧ c ≤ 57 := by
  rw [tl_num h] at hc
  exact TL.numL_digits _ c hc
theorem digit_in {c : Nat} (h : 48 ≤ c ∧ c ≤ 57) : c ∈ TL.tl ("0123456789" : Str) := by
  rw [tl_digits]
  obtain ⟨h1, h2⟩ := h
  have : c = 48 ∨ c = 49 ∨ c = 50 ∨ c = 51 ∨ c = 52 ∨ c = 53 ∨ c = 54 ∨ c = 55 ∨ c = 56 ∨ c = 57 := by omega
  rcases this with rfl | rfl | rfl | rfl | rfl | rfl | rfl | rfl | rfl | rfl <;> decide
theorem int_num {i : Int} (h0 : 0 ≤ i) (h : i ≤ 10 ^ 30) : PySem.intText? (num i) = some i := by
  obtain ⟨n, rfl⟩ := Int.eq_ofNat_of_zero_le h0
  refine TL.int_num (Nat.le_trans (TL.numL_len (k := 31) (by decide) (by omega)) (by decide))
def spReadPart : Sp := fun vs H Q _ => ∃ i : Int, vs = [.str (num i)] ∧ 1 ≤ i ∧ i ≤ 10 ^ 30 ∧ Q (.int i) H
theorem sc_read_part : FnScope ["word", "sign"] ["word"] (defScope s_read_part) := ⟨rfl, rfl, rfl, by decide +kernel, rfl, by decide +kernel, by decide +kernel⟩
theorem ok_read_part (B : Bi mg) (G : Gv mg) (D : Df K mg "read_part" s_read_part) : Cl P w K mg base CX0 1 "read_part" spReadPart := by
  obtain ⟨t1, g1⟩ := G.signs
  obtain ⟨t2, g2⟩ := G.figs
  refine mk0 D sc_read_part (fun _ _ _ _ _ _ us hl => match us, hl with | [_], _ => rfl) (fun vs H Q E h => ?_) (fun f cdv A outer s H vs Q E hr h => ?_)
  · obtain ⟨i, rfl, _⟩ := h
    rfl
  · obtain ⟨i, rfl, h1, h30, k⟩ := h
    refine ⟨_, pss_cons (ps_if (PW.pt (pw_or (pt_cmpR op_eq (pv 0) pe_str (nomark _)) (pw_or (pt_cmpR op_eq (pe_ix (r := rIxS) ix_str (pv 0) pe_int (fun _ _ => rfl)) pe_str (nomark _))
        (pw_or1 (pt_cmpR op_gt (pe_callB call_len_str (by rfl) B.len PySem.boot_len (pa_cons (pv 0) pa_nil)) (pe_glob (v := .int 60) rfl g1 ⟨t1, rfl⟩) (nomark _)))))) (pss_one ps_never) pss_nil)
      (pss_cons (ps_for PassesOwn.never rfl (pi_str (pv 0)) (pg_name (i := 1) sc_read_part.nd rfl (Or.inl rfl))
        (pss_one (ps_if (pt_cmpR op_notIn_sign (pv 1) (pe_glob (v := .str "0123456789") rfl g2 ⟨t2, rfl⟩) (by rfl)) (pss_one ps_never) pss_nil)))
      (pss_one (ps_ret (pe_callTy call_int_str (by rfl) B.int (by decide +kernel) (pa_cons (pv 0) pa_nil))))), ?_⟩
    obtain ⟨c, r, ec, c1, c2⟩ := num_head h1
    have hlen := num_len (i := i) (by omega) h30
    have d1 : decide (V.str (num i) = V.str "") = false := dec_ne (tl_ne (by rw [ec, tl_empty]; simp))
    have d2 : decide (V.str (⟨#[c]⟩ : Str) = V.str "0") = false := dec_ne (tl_ne (by
      rw [tl_zero]
      show [c] ≠ [48]
      intro z
      injection z with z _
      omega))
    refine ⟨_, rfl, rfl, _, rfl, ?_⟩
    rw [d1]
    refine iteF ?_
    refine ⟨_, rfl, _, _, c, rfl, rfl, by rw [sizeLine_eq]; omega, ?_, rfl, _, rfl, ?_⟩
    · show atI (TL.tl (num i)) 0 = some c
      rw [ec]
      exact atI_nat (j := 0) rfl
    rw [d2]
    refine iteF ?_
    refine ⟨_, rfl, _, rfl, by rw [sizeLine_eq]; omega, _, _, rfl, rfl, _, rfl, ?_⟩
    have d3 : decide ((60 : Int) < ((num i).length : Nat)) = false := decide_eq_false (by omega)
    rw [d3]
    refine iteF ?_
    refine ⟨_, rfl, _, rfl, for_it walk_str (fun _ σ H' => (∃ v, σ = [some (.str (num i)), v]) ∧ H' = H) ⟨⟨_, rfl⟩, rfl⟩ (fun _ _ _ _ _ => trivial) ?_ ?_⟩
    · rintro j z σ H1 H2 hj ⟨⟨v, rfl⟩, rfl⟩ ⟨rfl, d, hd, rfl⟩
      have hm : d ∈ TL.tl (num i) := List.mem_of_getElem? (by simpa [TL.tl] using hd)
      refine ⟨_, rfl, d, _, rfl, rfl, _, rfl, ?_⟩
      have d4 : (!decide (d ∈ ("0123456789" : Str).cps.toList)) = false := by
        rw [decide_eq_true (digit_in (num_sign (by omega) hm))]
        rfl
      rw [d4]
      exact iteF ⟨⟨_, rfl⟩, rfl⟩
    · rintro σ H1 ⟨⟨v, rfl⟩, rfl⟩
      exact ⟨_, rfl, _, i, rfl, int_num (by omega) h30, by omega, k⟩
def spReadHeap : Sp := fun vs H Q _ => ∃ h : Ht, vs = [.str (heapT h)] ∧ GH h ∧ ∀ H' v, Same H H' → HtAt H' v h → Q v H'
theorem sc_read_heap : FnScope ["text", "words", "parts", "part", "later", "word"] ["text"] (defScope s_read_heap) := ⟨rfl, rfl, rfl, by decide +kernel, rfl, by decide +kernel, by decide +kernel⟩
theorem ok_read_heap (B : Bi mg) (G : Gv mg) (D : Df K mg "read_heap" s_read_heap) (cP : Cl P w K mg base CX0 1 "read_part" spReadPart) : Cl P w K mg base CX0 2 "read_heap" spReadHeap := by
  obtain ⟨t1, g1⟩ := G.parts
  refine mk0 D sc_read_heap (fun _ _ _ _ _ _ us hl => match us, hl with | [_], _ => rfl) (fun vs H Q E h => ?_) (fun f cdv A outer s H vs Q E hr h => ?_)
  · obtain ⟨i, rfl, _⟩ := h
    rfl
  · obtain ⟨h, rfl, gh, k⟩ := h
    refine ⟨_, pss_cons (ps_if (pt_cmpR op_eq (pv 0) pe_str (nomark _)) (pss_one (ps_ret pe_tup0F)) pss_nil)
      (pss_cons (ps_set (i := 1) sc_read_heap.nd rfl (Or.inl rfl) (pe_split (pv 0) pe_str))
      (pss_cons (ps_if (pt_cmpR op_gt (pe_callB call_len_seq (by rfl) B.len PySem.boot_len (pa_cons (pv 1) pa_nil)) (pe_glob (v := .int 60) rfl g1 ⟨t1, rfl⟩) (nomark _)) (pss_one ps_never) pss_nil)
      (pss_cons (ps_setLc (i := 2) (own := [("word", 5)]) (g := gName 5) (tt := tYes) rfl sc_read_heap.nd rfl rfl (by rfl) (pi_list (pv 1)) (blkOk_by (own := [("word", 5)]) (N := ["text", "words", "parts", "part", "later", "word"]) (sc := defScope s_read_heap) (by decide +kernel))
        (fun _ _ _ _ _ => pg_name (i := 5) sc_read_heap.nd rfl (Or.inl rfl)) (fun _ _ _ _ _ => pts_nil)
        (fun _ _ _ _ _ => pe_f cP hr (by decide) rfl (pa_cons (pv 5) pa_nil)))
      (pss_cons (ps_for PassesOwn.never rfl (pi_zip (by rfl) B.zip (pa_cons (pv 2) (pa_cons (pe_slice (r := rSlL K) sl_list (pv 2) (po_some pe_int) (po_none)) pa_nil)))
        (pg_tup rfl (pgs_cons (pg_name (i := 3) sc_read_heap.nd rfl (Or.inl rfl)) (pgs_cons (pg_name (i := 4) sc_read_heap.nd rfl (Or.inl rfl)) pgs_nil)))
        (pss_one (ps_if (pt_cmpR op_gt (pv 4) (pv 3) (nomark _)) (pss_one ps_never) pss_nil)))
      (pss_one (ps_ret (pe_callTy call_tupF (by rfl) B.tuple (by decide +kernel) (pa_cons (pv 2) pa_nil)))))))), ?_⟩
    refine ⟨_, rfl, rfl, _, rfl, ?_⟩
    by_cases hn : h = []
    · have d1 : decide (V.str (heapT h) = V.str "none") = true := decide_eq_true (congrArg V.str ((heapT_none gh).mpr hn))
      rw [d1]
      refine iteT fun p o hp ho => k _ _ (same_upd hp) ⟨p, o, rfl, ?_, ho⟩
      rw [hn, upd_same]
      rfl
    · have d1 : decide (V.str (heapT h) = V.str "none") = false := dec_ne fun z => hn ((heapT_none gh).mp z)
      rw [d1]
      refine iteF ?_
      have hl := heapT_len gh
      have few := gh.few
      refine ⟨_, rfl, ⟨_, rfl⟩, _, _, rfl, rfl, by decide +kernel, by rw [sizeLine_eq]; omega, fun a ha => ?_⟩
      have ea : (upd H a (.lst ((Txt.split (heapT h) " ").map V.str)) : Hp) a = some (.lst ((h.map num).map V.str)) := by rw [upd_same, show Txt.split (heapT h) " " = h.map num from split_heap hn gh]
      have s0 : Same H (upd H a (.lst ((Txt.split (heapT h) " ").map V.str))) := same_upd ha
      generalize upd H a (.lst ((Txt.split (heapT h) " ").map V.str)) = H0 at ea s0 ⊢
      refine ⟨_, rfl, a, _, rfl, .inl (SqL.of ea), _, _, rfl, rfl, _, rfl, ?_⟩
      have d2 : decide ((60 : Int) < (((h.map num).map V.str).length : Nat)) = false := decide_eq_false (by rw [List.length_map, List.length_map]; omega)
      rw [d2]
      refine iteF ?_
      refine ⟨_, rfl, a, rfl, ⟨_, SqL.of ea⟩, fun L hL => lc_mk (vs := [5]) (R := fun (_ : Hp) v y => v = V.int y) (walk_list (K := K) (a := a)) (nl_val (f := V.int)) h (by rw [List.length_map, List.length_map]) (by rw [List.length_map, List.length_map]; omega) hL
        (fun H' s => SqL.of (s _ _ ea)) ?_ ?_⟩
      · intro i z y H2 hi hz hy s2 Kc hK
        rw [List.map_map, List.getElem?_map, hy] at hz
        cases hz
        have hm := List.mem_of_getElem? hy
        exact ⟨rfl, _, rfl, y, rfl, gh.lo y hm, gh.hi y hm, hK _ H2 (Same.refl H2) rfl⟩
      · intro H2 us s2 hL2 pu
        have e := pr_map (f := V.int) (H := H2) pu
        subst e
        have sH2 : Same H H2 := s0.trans s2
        refine ⟨_, rfl, _, rfl, 1, rfl, L, _, rfl, SqL.of hL2, fun p hp => ?_⟩
        have hL3 : (upd H2 p (.lst (cutV (h.map V.int) (some 1) none)) : Hp) L = some (.lst (h.map V.int)) := by rw [upd_ne (ne_of_none hL2 hp)]; exact hL2
        have hp3 : (upd H2 p (.lst (cutV (h.map V.int) (some 1) none)) : Hp) p = some (.lst ((h.map V.int).drop 1)) := by rw [upd_same, show cutV (h.map V.int) (some 1) none = (h.map V.int).drop 1 from cutV_drop _ 1]
        have s3 : Same H2 (upd H2 p (.lst (cutV (h.map V.int) (some 1) none))) := same_upd hp
        generalize upd H2 p (.lst (cutV (h.map V.int) (some 1) none)) = H3 at hL3 hp3 s3 ⊢
        refine ⟨L, p, _, _, rfl, SqL.of hL3, SqL.of hp3, for_it (walk_zip (n := h.length - 1) (by rw [List.length_drop, List.length_map]; omega))
          (fun i σ H' => (∃ v3 v4 v5, σ = [some (.str (heapT h)), some (.ref a), some (.ref L), v3, v4, v5]) ∧ Same H3 H') ⟨⟨_, _, _, rfl⟩, Same.refl _⟩ (fun i σ H' _ q => ⟨SqL.of (q.2 _ _ hL3), SqL.of (q.2 _ _ hp3)⟩) ?_ ?_⟩
        · rintro i z σ H4 H5 hi ⟨⟨v3, v4, v5, rfl⟩, s4⟩ ⟨T, y1, y2, rfl, hT, rfl, e1, e2⟩
          obtain ⟨p1, hp1, rfl⟩ := map_get e1
          have e3 : ((h.map V.int).drop 1)[i]? = some y2 := e2
          rw [List.getElem?_drop] at e3
          obtain ⟨p2, hp2, rfl⟩ := map_get e3
          have le : p2 ≤ p1 := by
            obtain ⟨i1, x1⟩ := List.getElem?_eq_some_iff.mp hp1
            obtain ⟨i2, x2⟩ := List.getElem?_eq_some_iff.mp hp2
            have := List.pairwise_iff_getElem.mp gh.fall i (1 + i) i1 i2 (by omega)
            rw [x1, x2] at this
            exact this
          refine ⟨T, _, rfl, SqT.of upd_same, rfl, _, _, rfl, _, _, rfl, rfl, ?_⟩
          refine ⟨_, rfl, _, rfl, _, _, rfl, rfl, _, rfl, ?_⟩
          have d3 : decide (p1 < p2) = false := decide_eq_false (by omega)
          rw [d3]
          exact iteF ⟨⟨_, _, _, rfl⟩, same_upd' s4 hT⟩
        · rintro σ H4 ⟨⟨v3, v4, v5, rfl⟩, s4⟩
          refine ⟨_, rfl, L, _, rfl, SqL.of (s4 _ _ hL3), fun l o hl ho => ?_⟩
          exact k _ _ (same_upd' ((sH2.trans s3).trans s4) hl) ⟨l, o, rfl, upd_same, ho⟩
def spReadRule : Sp := fun vs H Q _ => ∃ r : Ru, vs = [.str (ruleT r)] ∧ GR r ∧ ∀ H' v, Same H H' → RuAt H' v r → Q v H'
theorem sc_read_rule : FnScope ["text", "texts", "one"] ["text"] (defScope s_read_rule) := ⟨rfl, rfl, rfl, by decide +kernel, rfl, by decide +kernel, by decide +kernel⟩
theorem ok_read_rule (B : Bi mg) (G : Gv mg) (D : Df K mg "read_rule" s_read_rule) (cH : Cl P w K mg base CX0 2 "read_heap" spReadHeap) : Cl P w K mg base CX0 3 "read_rule" spReadRule := by
  obtain ⟨t1, g1⟩ := G.heaps
  refine mk0 D sc_read_rule (fun _ _ _ _ _ _ us hl => match us, hl with | [_], _ => rfl) (fun vs H Q E h => ?_) (fun f cdv A outer s H vs Q E hr h => ?_)
  · obtain ⟨i, rfl, _⟩ := h
    rfl
  · obtain ⟨r, rfl, gr, k⟩ := h
    refine ⟨_, pss_cons (ps_if (pt_cmpR op_eq (pv 0) pe_str (nomark _)) (pss_one (ps_ret (pe_tup pa_nil))) pss_nil)
      (pss_cons (ps_set (i := 1) sc_read_rule.nd rfl (Or.inl rfl) (pe_split (pv 0) pe_str))
      (pss_cons (ps_if (pt_cmpR op_gt (pe_callB call_len_seq (by rfl) B.len PySem.boot_len (pa_cons (pv 1) pa_nil)) (pe_glob (v := .int 6) rfl g1 ⟨t1, rfl⟩) (nomark _)) (pss_one ps_never) pss_nil)
      (pss_one (ps_ret (pe_callTy call_tuple_of (by rfl) B.tuple (by decide +kernel) (pa_cons
        (pe_lc (own := [("one", 2)]) (g := gName 2) (tt := tYes) rfl sc_read_rule.nd (pi_list (pv 1)) (blkOk_by (own := [("one", 2)]) (N := ["text", "texts", "one"]) (sc := defScope s_read_rule) (by decide +kernel))
        (fun _ _ _ _ _ => pg_name (i := 2) sc_read_rule.nd rfl (Or.inl rfl)) (fun _ _ _ _ _ => pts_nil)
        (fun _ _ _ _ _ => pe_f cH hr (by decide) rfl (pa_cons (pv 2) pa_nil))) pa_nil)))))), ?_⟩
    refine ⟨_, rfl, rfl, _, rfl, ?_⟩
    by_cases hn : r = []
    · have d1 : decide (V.str (ruleT r) = V.str "no heaps") = true := decide_eq_true (congrArg V.str ((ruleT_none gr.all).mpr hn))
      rw [d1]
      refine iteT ⟨Nat.zero_le _, fun p hp => k _ _ (same_upd hp) ⟨p, [], rfl, upd_same, ?_⟩⟩
      rw [hn]
      exact .nil
    · have d1 : decide (V.str (ruleT r) = V.str "no heaps") = false := dec_ne fun z => hn ((ruleT_none gr.all).mp z)
      rw [d1]
      refine iteF ?_
      have hl := ruleT_len gr
      have few := gr.few
      refine ⟨_, rfl, ⟨_, rfl⟩, _, _, rfl, rfl, by decide +kernel, by rw [sizeLine_eq]; omega, fun a ha => ?_⟩
      have ea : (upd H a (.lst ((Txt.split (ruleT r) " | ").map V.str)) : Hp) a = some (.lst ((r.map heapT).map V.str)) := by rw [upd_same, show Txt.split (ruleT r) " | " = r.map heapT from split_rule hn gr.all]
      have s0 : Same H (upd H a (.lst ((Txt.split (ruleT r) " | ").map V.str))) := same_upd ha
      generalize upd H a (.lst ((Txt.split (ruleT r) " | ").map V.str)) = H0 at ea s0 ⊢
      refine ⟨_, rfl, a, _, rfl, .inl (SqL.of ea), _, _, rfl, rfl, _, rfl, ?_⟩
      have d2 : decide ((6 : Int) < (((r.map heapT).map V.str).length : Nat)) = false := decide_eq_false (by rw [List.length_map, List.length_map]; omega)
      rw [d2]
      refine iteF ?_
      refine ⟨_, rfl, a, rfl, ⟨_, SqL.of ea⟩, fun L hL => lc_mk (vs := [2]) (R := HtAt) (walk_list (K := K) (a := a)) nl_ht r (by rw [List.length_map, List.length_map]) (by rw [List.length_map, List.length_map]; omega) hL
        (fun H' s => SqL.of (s _ _ ea)) ?_ ?_⟩
      · intro i z y H2 hi hz hy s2 Kc hK
        rw [List.map_map, List.getElem?_map, hy] at hz
        cases hz
        exact ⟨rfl, _, rfl, y, rfl, gr.all y (List.mem_of_getElem? hy), fun H' v s3 hv => hK v H' s3 hv⟩
      · intro H2 us s2 hL2 pu
        refine ⟨L, _, rfl, .inl ⟨SqL.of hL2, fun t ht => ?_⟩⟩
        exact k _ _ (same_upd' (s0.trans s2) ht) ⟨t, us, rfl, upd_same, L2.Paired.mapP pu fun _ _ q => q.same (same_upd ht)⟩
end
end Kd
namespace Kd
open PySem PySem.Spec PyProof.Rows L2
section
variable {P : Program} {w : World} {K : PySem.W.Frag} {mg : Str → Option Value} {base : Heap}
/-! ### a line's words -/
theorem inV_str (x : Str) (ws : List Str) : inV (.str x) (ws.map V.str) = decide (x ∈ ws) := by
  unfold inV
  rw [List.any_map, Bool.eq_iff_iff, List.any_eq_true, decide_eq_true_iff]
  constructor
  · rintro ⟨y, hy, e⟩
    have : y = x := eq_of_beq e
    rw [← this]
    exact hy
  · intro h
    exact ⟨x, h, beq_self_eq_true x⟩
theorem flat_strs (ws : List Str) : (ws.map V.str).all flatV = true := by
  rw [List.all_eq_true]
  intro v hv
  obtain ⟨s, _, rfl⟩ := List.mem_map.mp hv
  rfl
/-- a name: one to eight letters -/
structure Nm (n : Str) : Prop where
  ne : TL.tl n ≠ []
  few : n.length ≤ 8
  low : ∀ c ∈ TL.tl n, 97 ≤ c ∧ c ≤ 122
theorem Nm.wd {n : Str} (h : Nm n) : Wd n := ⟨h.ne, fun z => by have := (h.low _ z).1; omega⟩
theorem tl_letters : TL.tl ("abcdefghijklmnopqrstuvwxyz" : Str) = (List.range 26).map (97 + ·) := by decide +kernel
theorem letter_in {c : Nat} (h : 97 ≤ c ∧ c ≤ 122) : c ∈ TL.tl ("abcdefghijklmnopqrstuvwxyz" : Str) := by
  rw [tl_letters, List.mem_map]
  exact ⟨c - 97, List.mem_range.mpr (by omega), by omega⟩
/-- a list of words -/
abbrev WsAt (H : Hp) (a : Addr) (ws : List Str) : Prop := H a = some (.lst (ws.map V.str))
def spLineWords : Sp := fun vs H Q _ => ∃ ws : List Str, vs = [.str (Txt.join sp ws)] ∧ ws ≠ [] ∧ (∀ x ∈ ws, Wd x) ∧ (Txt.join sp ws).length ≤ 1000000 ∧ ∀ p, H p = none → Q (.ref p) (upd H p (.lst (ws.map V.str)))
theorem sc_line_words : FnScope ["line", "words"] ["line"] (defScope s_line_words) := ⟨rfl, rfl, rfl, by decide +kernel, rfl, by decide +kernel, by decide +kernel⟩
theorem ok_line_words (D : Df K mg "line_words" s_line_words) : Cl P w K mg base CX0 1 "line_words" spLineWords := by
  refine mk0 D sc_line_words (fun _ _ _ _ _ _ us hl => match us, hl with | [_], _ => rfl) (fun vs H Q E h => ?_) (fun f cdv A outer s H vs Q E hr h => ?_)
  · obtain ⟨i, rfl, _⟩ := h
    rfl
  · obtain ⟨ws, rfl, hne, hw, hl, k⟩ := h
    refine ⟨_, pss_cons (ps_set (i := 1) sc_line_words.nd rfl (Or.inl rfl) (pe_split (pv 0) pe_str))
      (pss_cons (ps_if (pt_cmpR op_in_seq pe_str (pv 1) (by rfl)) (pss_one ps_never) pss_nil)
      (pss_one (ps_ret (pv 1)))), ?_⟩
    refine ⟨_, rfl, ⟨_, rfl⟩, _, _, rfl, rfl, by decide +kernel, by rw [sizeLine_eq]; omega, fun a ha => ?_⟩
    have k := k a ha
    have e : Txt.split (Txt.join sp ws) " " = ws := split_words hne hw
    rw [e]
    refine ⟨_, rfl, a, _, rfl, .inl (SqL.of upd_same), rfl, flat_strs ws, _, rfl, ?_⟩
    have d1 : inV (.str "") (ws.map V.str) = false := by
      rw [inV_str]
      exact decide_eq_false fun z => (hw _ z).1 tl_empty
    show if inV (.str "") (ws.map V.str) = true then _ else _
    rw [d1]
    exact iteF ⟨_, rfl, k⟩
def spHoldMany : Sp := fun vs H Q _ => ∃ (a : Addr) (xs : List V), vs = [.ref a, .int (xs.length : Nat)] ∧ H a = some (.lst xs) ∧ Q .non H
theorem sc_hold_many : FnScope ["words", "many"] ["words", "many"] (defScope s_hold_many) := ⟨rfl, rfl, rfl, by decide +kernel, rfl, by decide +kernel, by decide +kernel⟩
theorem ok_hold_many (B : Bi mg) (D : Df K mg "hold_many" s_hold_many) : Cl P w K mg base CX0 1 "hold_many" spHoldMany := by
  refine mk0 D sc_hold_many (fun _ _ _ _ _ _ us hl => match us, hl with | [_, _], _ => rfl) (fun vs H Q E h => ?_) (fun f cdv A outer s H vs Q E hr h => ?_)
  · obtain ⟨a, xs, rfl, _⟩ := h
    rfl
  · obtain ⟨a, xs, rfl, ha, k⟩ := h
    refine ⟨_, pss_one (ps_if (pt_cmpR op_ne (pe_callB call_len_seq (by rfl) B.len PySem.boot_len (pa_cons (pv 0) pa_nil)) (pv 1) (nomark _)) (pss_one ps_never) pss_nil), ?_⟩
    refine ⟨_, rfl, a, xs, rfl, .inl (SqL.of ha), _, rfl, rfl, _, rfl, ?_⟩
    rw [decide_eq_true (rfl : V.int (xs.length : Nat) = V.int (xs.length : Nat))]
    exact iteF k
def spReadName : Sp := fun vs H Q _ => ∃ n : Str, vs = [.str n] ∧ Nm n ∧ Q (.str n) H
theorem sc_read_name : FnScope ["word", "sign"] ["word"] (defScope s_read_name) := ⟨rfl, rfl, rfl, by decide +kernel, rfl, by decide +kernel, by decide +kernel⟩
theorem ok_read_name (B : Bi mg) (G : Gv mg) (D : Df K mg "read_name" s_read_name) : Cl P w K mg base CX0 1 "read_name" spReadName := by
  obtain ⟨t2, g2⟩ := G.letters
  refine mk0 D sc_read_name (fun _ _ _ _ _ _ us hl => match us, hl with | [_], _ => rfl) (fun vs H Q E h => ?_) (fun f cdv A outer s H vs Q E hr h => ?_)
  · obtain ⟨i, rfl, _⟩ := h
    rfl
  · obtain ⟨n, rfl, hn, k⟩ := h
    refine ⟨_, pss_cons (ps_if (PW.pt (pw_or (pt_cmpR op_eq (pv 0) pe_str (nomark _)) (pw_or1 (pt_cmpR op_gt (pe_callB call_len_str (by rfl) B.len PySem.boot_len (pa_cons (pv 0) pa_nil)) pe_int (nomark _))))) (pss_one ps_never) pss_nil)
      (pss_cons (ps_for PassesOwn.never rfl (pi_str (pv 0)) (pg_name (i := 1) sc_read_name.nd rfl (Or.inl rfl))
        (pss_one (ps_if (pt_cmpR op_notIn_sign (pv 1) (pe_glob (v := .str "abcdefghijklmnopqrstuvwxyz") rfl g2 ⟨t2, rfl⟩) (by rfl)) (pss_one ps_never) pss_nil)))
      (pss_one (ps_ret (pv 0)))), ?_⟩
    have d1 : decide (V.str n = V.str "") = false := dec_ne fun z => hn.ne (by rw [z]; exact tl_empty)
    refine ⟨_, rfl, rfl, _, rfl, ?_⟩
    rw [d1]
    refine iteF ?_
    have few := hn.few
    refine ⟨_, rfl, _, rfl, by rw [sizeLine_eq]; omega, _, _, rfl, rfl, _, rfl, ?_⟩
    have d3 : decide ((8 : Int) < (n.length : Nat)) = false := decide_eq_false (by omega)
    rw [d3]
    refine iteF ?_
    refine ⟨_, rfl, _, rfl, for_it walk_str (fun _ σ H' => (∃ v, σ = [some (.str n), v]) ∧ H' = H) ⟨⟨_, rfl⟩, rfl⟩ (fun _ _ _ _ _ => trivial) ?_ ?_⟩
    · rintro j z σ H1 H2 hj ⟨⟨v, rfl⟩, rfl⟩ ⟨rfl, d, hd, rfl⟩
      have hm : d ∈ TL.tl n := List.mem_of_getElem? (by simpa [TL.tl] using hd)
      refine ⟨_, rfl, d, _, rfl, rfl, _, rfl, ?_⟩
      have d4 : (!decide (d ∈ ("abcdefghijklmnopqrstuvwxyz" : Str).cps.toList)) = false := by
        rw [decide_eq_true (letter_in (hn.low d hm))]
        rfl
      rw [d4]
      exact iteF ⟨⟨_, rfl⟩, rfl⟩
    · rintro σ H1 ⟨⟨v, rfl⟩, rfl⟩
      exact ⟨_, rfl, k⟩
def spFirstWord : Sp := fun vs H Q _ => ∃ (a : Addr) (n : Str) (r : List V), vs = [.ref a] ∧ H a = some (.lst (.str n :: r)) ∧ Nm n ∧ Q (.str n) H
theorem sc_first_word : FnScope ["words"] ["words"] (defScope s_first_word) := ⟨rfl, rfl, rfl, by decide +kernel, rfl, by decide +kernel, by decide +kernel⟩
theorem ok_first_word (D : Df K mg "first_word" s_first_word) (cN : Cl P w K mg base CX0 1 "read_name" spReadName) : Cl P w K mg base CX0 2 "first_word" spFirstWord := by
  refine mk0 D sc_first_word (fun _ _ _ _ _ _ us hl => match us, hl with | [_], _ => rfl) (fun vs H Q E h => ?_) (fun f cdv A outer s H vs Q E hr h => ?_)
  · obtain ⟨a, n, r, rfl, _⟩ := h
    rfl
  · obtain ⟨a, n, r, rfl, ha, hn, k⟩ := h
    refine ⟨_, pss_cons (ps_if (pt_not (pt_truth (pv 0) (by intro _; rfl))) (pss_one ps_never) pss_nil)
      (pss_one (ps_ret (pe_f cN hr (by decide) rfl (pa_cons (pe_ix ix_list (pv 0) pe_int (fun _ _ => rfl)) pa_nil)))), ?_⟩
    refine ⟨_, rfl, true, .inl ⟨_, SqL.of ha, rfl⟩, iteF ?_⟩
    exact ⟨_, rfl, a, _, 0, _, rfl, rfl, SqL.of ha, atI_nat (j := 0) rfl, n, rfl, hn, k⟩
def spTwoWords : Sp := fun vs H Q _ => ∃ (a : Addr) (n m : Str), vs = [.ref a] ∧ H a = some (.lst [.str n, .str m]) ∧ Nm n ∧ Nm m ∧ ∀ p, H p = none → Q (.ref p) (upd H p (.tup [.str n, .str m]))
theorem sc_two_words : FnScope ["words"] ["words"] (defScope s_two_words) := ⟨rfl, rfl, rfl, by decide +kernel, rfl, by decide +kernel, by decide +kernel⟩
theorem ok_two_words (B : Bi mg) (D : Df K mg "two_words" s_two_words) (cN : Cl P w K mg base CX0 1 "read_name" spReadName) : Cl P w K mg base CX0 2 "two_words" spTwoWords := by
  refine mk0 D sc_two_words (fun _ _ _ _ _ _ us hl => match us, hl with | [_], _ => rfl) (fun vs H Q E h => ?_) (fun f cdv A outer s H vs Q E hr h => ?_)
  · obtain ⟨a, n, r, rfl, _⟩ := h
    rfl
  · obtain ⟨a, n, m, rfl, ha, hn, hm, k⟩ := h
    refine ⟨_, pss_cons (ps_if (pt_cmpR op_lt (pe_callB call_len_seq (by rfl) B.len PySem.boot_len (pa_cons (pv 0) pa_nil)) pe_int (nomark _)) (pss_one ps_never) pss_nil)
      (pss_one (ps_ret (pe_tup (pa_cons (pe_f cN hr (by decide) rfl (pa_cons (pe_ix ix_list (pv 0) pe_int (fun _ _ => rfl)) pa_nil)) (pa_cons (pe_f cN hr (by decide) rfl (pa_cons (pe_ix ix_list (pv 0) pe_int (fun _ _ => rfl)) pa_nil)) pa_nil))))), ?_⟩
    refine ⟨_, rfl, a, _, rfl, .inl (SqL.of ha), _, _, rfl, rfl, _, rfl, iteF ?_⟩
    exact ⟨_, rfl, a, _, 0, _, rfl, rfl, SqL.of ha, atI_nat (j := 0) rfl, n, rfl, hn, _, rfl, a, _, 1, _, rfl, rfl, SqL.of ha, atI_nat (j := 1) rfl, m, rfl, hm, (by show 2 ≤ sizeLine; decide), k⟩
def spReadNumber : Sp := fun vs H Q _ => ∃ i : Int, vs = [.str (num i)] ∧ 0 ≤ i ∧ i ≤ 99 ∧ Q (.int i) H
theorem sc_read_number : FnScope ["word", "sign"] ["word"] (defScope s_read_number) := ⟨rfl, rfl, rfl, by decide +kernel, rfl, by decide +kernel, by decide +kernel⟩
theorem ok_read_number (B : Bi mg) (G : Gv mg) (D : Df K mg "read_number" s_read_number) : Cl P w K mg base CX0 1 "read_number" spReadNumber := by
  obtain ⟨t2, g2⟩ := G.figsd
  refine mk0 D sc_read_number (fun _ _ _ _ _ _ us hl => match us, hl with | [_], _ => rfl) (fun vs H Q E h => ?_) (fun f cdv A outer s H vs Q E hr h => ?_)
  · obtain ⟨i, rfl, _⟩ := h
    rfl
  · obtain ⟨i, rfl, h0, h9, k⟩ := h
    refine ⟨_, pss_cons (ps_if (PW.pt (pw_or (pt_cmpR op_eq (pv 0) pe_str (nomark _)) (pw_or1 (pt_cmpR op_gt (pe_callB call_len_str (by rfl) B.len PySem.boot_len (pa_cons (pv 0) pa_nil)) pe_int (nomark _))))) (pss_one ps_never) pss_nil)
      (pss_cons (ps_for PassesOwn.never rfl (pi_str (pv 0)) (pg_name (i := 1) sc_read_number.nd rfl (Or.inl rfl))
        (pss_one (ps_if (pt_cmpR op_notIn_sign (pv 1) (pe_glob (v := .str "0123456789") rfl g2 ⟨t2, rfl⟩) (by rfl)) (pss_one ps_never) pss_nil)))
      (pss_cons (ps_if (PW.pt (pw_and (pt_cmpR op_eq (pe_ix (r := rIxS) ix_str (pv 0) pe_int (fun _ _ => rfl)) pe_str (nomark _)) (pw_and1 (pt_cmpR op_ne (pv 0) pe_str (nomark _))))) (pss_one ps_never) pss_nil)
      (pss_one (ps_ret (pe_callTy call_int_str (by rfl) B.int (by decide +kernel) (pa_cons (pv 0) pa_nil)))))), ?_⟩
    have few : (num i).length ≤ 2 := by
      rw [TL.len_tl, tl_num h0]
      exact TL.numL_len (by decide) (by omega)
    have d1 : decide (V.str (num i) = V.str "") = false := dec_ne fun z => (wd_num h0).1 (by rw [z]; exact tl_empty)
    refine ⟨_, rfl, rfl, _, rfl, ?_⟩
    rw [d1]
    refine iteF ?_
    refine ⟨_, rfl, _, rfl, by rw [sizeLine_eq]; omega, _, _, rfl, rfl, _, rfl, ?_⟩
    have d3 : decide ((9 : Int) < ((num i).length : Nat)) = false := decide_eq_false (by omega)
    rw [d3]
    refine iteF ?_
    refine ⟨_, rfl, _, rfl, for_it walk_str (fun _ σ H' => (∃ v, σ = [some (.str (num i)), v]) ∧ H' = H) ⟨⟨_, rfl⟩, rfl⟩ (fun _ _ _ _ _ => trivial) ?_ ?_⟩
    · rintro j z σ H1 H2 hj ⟨⟨v, rfl⟩, rfl⟩ ⟨rfl, d, hd, rfl⟩
      have hm : d ∈ TL.tl (num i) := List.mem_of_getElem? (by simpa [TL.tl] using hd)
      refine ⟨_, rfl, d, _, rfl, rfl, _, rfl, ?_⟩
      have d4 : (!decide (d ∈ ("0123456789" : Str).cps.toList)) = false := by
        rw [decide_eq_true (digit_in (num_sign h0 hm))]
        rfl
      rw [d4]
      exact iteF ⟨⟨_, rfl⟩, rfl⟩
    · rintro σ H1 ⟨⟨v, rfl⟩, rfl⟩
      have ret : (tRet (tCB (fun xs H Q => ∃ a n, xs = [V.str a] ∧ PySem.intText? a = some n ∧ a.length ≤ 640 ∧ Q (.int n) H) (tCons (tVar 0) tNil))) { nx := fun _ H' => Q .non H', rt := Q } [some (V.str (num i)), v] H1 :=
        ⟨_, rfl, _, i, rfl, int_num h0 (by omega), by omega, k⟩
      obtain ⟨c, r, ec⟩ : ∃ c r, TL.tl (num i) = c :: r := by
        cases e : TL.tl (num i) with
        | nil => exact absurd e (wd_num h0).1
        | cons c r => exact ⟨c, r, rfl⟩
      refine ⟨_, rfl, _, _, c, rfl, rfl, by rw [sizeLine_eq]; omega, ?_, rfl, _, rfl, ?_⟩
      · show atI (TL.tl (num i)) 0 = some c
        rw [ec]
        exact atI_nat (j := 0) rfl
      by_cases hi : i = 0
      · subst hi
        refine ite2 (fun _ => ?_) (fun _ => iteF ret)
        refine ⟨_, rfl, rfl, _, rfl, ?_⟩
        rw [decide_eq_true (congrArg V.str (show num 0 = ("0" : Str) by decide +kernel))]
        exact iteF ret
      · have d2 : decide (V.str (⟨#[c]⟩ : Str) = V.str "0") = false := dec_ne (tl_ne (by
          rw [tl_zero]
          show [c] ≠ [48]
          intro z
          injection z with z _
          obtain ⟨c', r', ec', c1, _⟩ := num_head (i := i) (by omega)
          rw [ec] at ec'
          injection ec' with ec' _
          omega))
        rw [d2]
        exact iteF (iteF ret)
/-! ### the rest of a line -/
theorem heapW_len {h : Ht} (g : GH h) : ∀ x ∈ heapW h, x.length ≤ 31 := by
  intro x hx
  unfold heapW at hx
  split at hx
  · rw [List.mem_singleton.mp hx, len_none]; decide
  · obtain ⟨p, hp, rfl⟩ := List.mem_map.mp hx
    exact num_len (by have := g.lo p hp; omega) (g.hi p hp)
theorem heapW_few {h : Ht} (g : GH h) : (heapW h).length ≤ 10 := by
  unfold heapW
  split
  · decide
  · rw [List.length_map]; exact g.few
theorem ruleW_len : ∀ {r : Ru}, (∀ h ∈ r, GH h) → ∀ x ∈ ruleW r, x.length ≤ 31
  | [], _, x, hx => by
    have : x = "no" ∨ x = "heaps" := by simpa [ruleW] using hx
    rcases this with rfl | rfl <;> decide +kernel
  | [h], g, x, hx => heapW_len (g h (by simp)) x hx
  | h :: k :: r, g, x, hx => by
    have hx' : x ∈ heapW h ∨ x = "|" ∨ x ∈ ruleW (k :: r) := by simpa [ruleW] using hx
    rcases hx' with q | rfl | q
    · exact heapW_len (g h (by simp)) x q
    · decide +kernel
    · exact ruleW_len (fun z hz => g z (by simp only [List.mem_cons] at hz ⊢; exact .inr hz)) x q
theorem ruleW_few : ∀ {r : Ru}, (∀ h ∈ r, GH h) → (ruleW r).length ≤ 11 * r.length + 2
  | [], _ => by decide
  | [h], g => by
    have := heapW_few (g h (by simp))
    show (heapW h).length ≤ 13
    omega
  | h :: k :: r, g => by
    have h1 := heapW_few (g h (by simp))
    have h2 := ruleW_few (r := k :: r) (fun z hz => g z (by simp only [List.mem_cons] at hz ⊢; exact .inr hz))
    show (heapW h ++ (("|" : Str) :: ruleW (k :: r))).length ≤ _
    rw [List.length_append, List.length_cons]
    simp only [List.length_cons] at h2 ⊢
    omega
theorem fit_words {ws : List Str} {k : Nat} (h : ∀ x ∈ ws, x.length ≤ 31) (hk : ws.length ≤ 1000) : (ws.map (·.length)).sum + ws.length * (" " : Str).length ≤ 16777216 := by
  have := sum_le_mul (l := ws.map (·.length)) (k := 31) fun x hx => by
    obtain ⟨z, hz, rfl⟩ := List.mem_map.mp hx
    exact h z hz
  rw [List.length_map] at this
  rw [len_sp]
  omega
def spRestHeap : Sp := fun vs H Q _ => ∃ (a : Addr) (h : Ht), vs = [.ref a] ∧ WsAt H a (heapW h) ∧ GH h ∧ ∀ H' v, Same H H' → HtAt H' v h → Q v H'
theorem sc_rest_heap : FnScope ["words"] ["words"] (defScope s_rest_heap) := ⟨rfl, rfl, rfl, by decide +kernel, rfl, by decide +kernel, by decide +kernel⟩
theorem ok_rest_heap (D : Df K mg "rest_heap" s_rest_heap) (cH : Cl P w K mg base CX0 2 "read_heap" spReadHeap) : Cl P w K mg base CX0 3 "rest_heap" spRestHeap := by
  refine mk0 D sc_rest_heap (fun _ _ _ _ _ _ us hl => match us, hl with | [_], _ => rfl) (fun vs H Q E h => ?_) (fun f cdv A outer s H vs Q E hr h => ?_)
  · obtain ⟨a, n, rfl, _⟩ := h
    rfl
  · obtain ⟨a, h, rfl, ha, gh, k⟩ := h
    refine ⟨_, pss_one (ps_try_thru0 (pss_one (ps_ret (pe_f cH hr (by decide) rfl (pa_cons (pe_join pe_str (pv 0)) pa_nil))))), ?_⟩
    have := heapW_few gh
    exact ⟨⟨_, rfl⟩, _, rfl, _, a, heapW h, rfl, rfl, .inl (SqL.of ha), fit_words (k := 0) (heapW_len gh) (by omega), h, congrArg (fun z => [V.str z]) (heapT_W h).symm, gh, k⟩
def spRestRule : Sp := fun vs H Q _ => ∃ (a : Addr) (r : Ru), vs = [.ref a] ∧ WsAt H a (ruleW r) ∧ GR r ∧ ∀ H' v, Same H H' → RuAt H' v r → Q v H'
theorem sc_rest_rule : FnScope ["words"] ["words"] (defScope s_rest_rule) := ⟨rfl, rfl, rfl, by decide +kernel, rfl, by decide +kernel, by decide +kernel⟩
theorem ok_rest_rule (D : Df K mg "rest_rule" s_rest_rule) (cH : Cl P w K mg base CX0 3 "read_rule" spReadRule) : Cl P w K mg base CX0 4 "rest_rule" spRestRule := by
  refine mk0 D sc_rest_rule (fun _ _ _ _ _ _ us hl => match us, hl with | [_], _ => rfl) (fun vs H Q E h => ?_) (fun f cdv A outer s H vs Q E hr h => ?_)
  · obtain ⟨a, n, rfl, _⟩ := h
    rfl
  · obtain ⟨a, r, rfl, ha, gr, k⟩ := h
    refine ⟨_, pss_one (ps_try_thru0 (pss_one (ps_ret (pe_f cH hr (by decide) rfl (pa_cons (pe_join pe_str (pv 0)) pa_nil))))), ?_⟩
    have h1 := ruleW_few gr.all
    have h2 := gr.few
    exact ⟨⟨_, rfl⟩, _, rfl, _, a, ruleW r, rfl, rfl, .inl (SqL.of ha), fit_words (k := 0) (ruleW_len gr.all) (by omega), r, congrArg (fun z => [V.str z]) (ruleT_W r).symm, gr, k⟩
end
end Kd
namespace Kd
open PySem PySem.Spec PyProof.Rows L2
/-! ## Books: names with their rules; names sorted -/
abbrev Bk := List (Str × Ru)
def leS (a b : Str) : Bool := !ltCps b.cps.toList a.cps.toList
theorem leS_iff {a b : Str} : leS a b = true ↔ a.cps.toList ≤ b.cps.toList := by
  unfold leS
  rw [ltCps_eq]
  simp
theorem leS_trans (a b c : Str) (h : leS a b = true) (k : leS b c = true) : leS a c = true := leS_iff.mpr (List.le_trans (leS_iff.mp h) (leS_iff.mp k))
theorem leS_total (a b : Str) : (leS a b || leS b a) = true := by
  rw [Bool.or_eq_true, leS_iff, leS_iff]
  exact List.le_total _ _
theorem leS_anti {a b : Str} (h : leS a b = true) (k : leS b a = true) : a = b :=
  TL.ext_tl (List.le_antisymm (leS_iff.mp h) (leS_iff.mp k))
theorem rising_pw : ∀ (l : List Str) (p : Str), risingS p l = true → (p :: l).Pairwise (fun a b => leS a b = true)
  | [], p, _ => List.pairwise_singleton _ _
  | x :: r, p, h => by
    have h' : leS p x = true ∧ risingS x r = true := Bool.and_eq_true_iff.mp h
    have ih := rising_pw r x h'.2
    refine List.pairwise_cons.mpr ⟨fun y hy => ?_, ih⟩
    rcases List.mem_cons.mp hy with rfl | q
    · exact h'.1
    · exact leS_trans _ _ _ h'.1 ((List.pairwise_cons.mp ih).1 y q)
theorem sorted_pw : ∀ {l : List Str}, sortedS l = true → l.Pairwise (fun a b => leS a b = true)
  | [], _ => List.Pairwise.nil
  | x :: r, h => rising_pw r x h
def sortN (l : List Str) : List Str := l.mergeSort leS
theorem sortN_eq {l ys : List Str} (p : ys.Perm l) (h : sortedS ys = true) : ys = sortN l := by
  refine List.Perm.eq_of_pairwise (le := fun a b => leS a b = true) (fun a b _ _ h k => leS_anti h k) (sorted_pw h) ?_ (p.trans (List.mergeSort_perm l leS).symm)
  exact List.pairwise_mergeSort leS_trans leS_total l
def namesT (rs : Bk) : Str := if rs = [] then "no names" else Txt.join " " (sortN (rs.map Prod.fst))
/-- the rule of a name -/
def lkB : Bk → Str → Option Ru
  | [], _ => none
  | e :: t, n => if e.1 = n then some e.2 else lkB t n
def putB : Bk → Str → Ru → Bk
  | [], n, r => [(n, r)]
  | e :: t, n, r => if e.1 = n then (n, r) :: t else e :: putB t n r
def dropB (rs : Bk) (n : Str) : Bk := rs.filter fun e => !decide (e.1 = n)
theorem putB_len (n : Str) (r : Ru) : ∀ rs : Bk, (putB rs n r).length ≤ rs.length + 1
  | [] => Nat.le_refl _
  | e :: t => by
    unfold putB
    split
    · simp
    · have := putB_len n r t
      simp only [List.length_cons]
      omega
theorem putB_mem {n : Str} {r : Ru} : ∀ {rs : Bk} {e : Str × Ru}, e ∈ putB rs n r → e ∈ rs ∨ e = (n, r)
  | [], e, h => .inr (List.mem_singleton.mp h)
  | f :: t, e, h => by
    unfold putB at h
    split at h
    · rcases List.mem_cons.mp h with rfl | q
      · exact .inr rfl
      · exact .inl (List.mem_cons_of_mem _ q)
    · rcases List.mem_cons.mp h with rfl | q
      · exact .inl (List.mem_cons_self ..)
      · rcases putB_mem q with z | z
        · exact .inl (List.mem_cons_of_mem _ z)
        · exact .inr z
theorem dropB_mem {n : Str} {rs : Bk} {e : Str × Ru} (h : e ∈ dropB rs n) : e ∈ rs := (List.mem_filter.mp h).1
theorem dropB_len (n : Str) (rs : Bk) : (dropB rs n).length ≤ rs.length := List.length_filter_le _ _
theorem lkB_mem {n : Str} {r : Ru} : ∀ {rs : Bk}, lkB rs n = some r → (n, r) ∈ rs
  | [], h => by cases h
  | e :: t, h => by
    unfold lkB at h
    split at h
    · rename_i q
      have : e = (n, r) := by
        cases h
        rw [← q]
      rw [this]
      exact List.mem_cons_self ..
    · exact List.mem_cons_of_mem _ (lkB_mem h)
/-- a good book: names of the law's kind, rules of the law's kind, each name once -/
structure GB (rs : Bk) : Prop where
  all : ∀ e ∈ rs, Nm e.1 ∧ GR e.2
  nd : (rs.map Prod.fst).Nodup
theorem gb_nil : GB [] := ⟨fun _ h => (by cases h), List.nodup_nil⟩
theorem putB_key {n : Str} {r : Ru} : ∀ {rs : Bk} {x : Str}, x ∈ (putB rs n r).map Prod.fst → x ∈ rs.map Prod.fst ∨ x = n := by
  intro rs x h
  obtain ⟨e, he, rfl⟩ := List.mem_map.mp h
  rcases putB_mem he with q | q
  · exact .inl (List.mem_map.mpr ⟨e, q, rfl⟩)
  · rw [q]; exact .inr rfl
theorem putB_nd {n : Str} {r : Ru} : ∀ {rs : Bk}, (rs.map Prod.fst).Nodup → ((putB rs n r).map Prod.fst).Nodup
  | [], _ => by simp [putB]
  | e :: t, h => by
    rw [List.map_cons] at h
    obtain ⟨h1, h2⟩ := List.nodup_cons.mp h
    unfold putB
    split
    · rename_i q
      rw [List.map_cons, ← q]
      exact List.nodup_cons.mpr ⟨h1, h2⟩
    · rename_i q
      rw [List.map_cons]
      refine List.nodup_cons.mpr ⟨fun z => ?_, putB_nd h2⟩
      rcases putB_key z with y | y
      · exact h1 y
      · exact q y
theorem GB.put {rs : Bk} (g : GB rs) {n : Str} {r : Ru} (hn : Nm n) (hr : GR r) : GB (putB rs n r) := by
  refine ⟨fun e he => ?_, putB_nd g.nd⟩
  rcases putB_mem he with q | q
  · exact g.all e q
  · rw [q]; exact ⟨hn, hr⟩
theorem GB.drop {rs : Bk} (g : GB rs) (n : Str) : GB (dropB rs n) := by
  refine ⟨fun e he => g.all e (dropB_mem he), ?_⟩
  have : ((dropB rs n).map Prod.fst).Sublist (rs.map Prod.fst) := List.Sublist.map _ List.filter_sublist
  exact this.nodup g.nd
theorem GB.lk {rs : Bk} (g : GB rs) {n : Str} {r : Ru} (h : lkB rs n = some r) : GR r := (g.all _ (lkB_mem h)).2
theorem names_fit {rs : Bk} (g : GB rs) : ∀ x ∈ rs.map Prod.fst, x.length ≤ 31 := by
  intro x hx
  obtain ⟨e, he, rfl⟩ := List.mem_map.mp hx
  have := (g.all e he).1.few
  omega
theorem sortN_perm (l : List Str) : (sortN l).Perm l := List.mergeSort_perm l leS
theorem namesT_len {rs : Bk} (g : GB rs) (h : rs.length < 64) : (namesT rs).length ≤ 3000 := by
  unfold namesT
  split
  · decide +kernel
  · have := join_len (y := (" " : Str)) (ws := sortN (rs.map Prod.fst)) (k := 31) fun w hw => names_fit g w ((sortN_perm _).mem_iff.mp hw)
    rw [(sortN_perm _).length_eq, List.length_map, len_sp] at this
    omega
/-! ### a book as a dict in the heap -/
/-- the tuples and the known things stay; new things come -/
def SameU (H H' : Hp) : Prop := ∀ b o, H b = some o → ((∃ xs, o = .tup xs) ∨ ∃ p u, o = .frz p u) → H' b = some o
theorem same_u {H H' : Hp} (s : Same H H') : SameU H H' := fun b o h _ => s b o h
theorem nl_u {H H' : Hp} (s : SameT H H') : SameU H H' := fun b o h z => s b o h fun xs e => by
  subst e
  rcases z with ⟨_, z⟩ | ⟨_, _, z⟩ <;> cases z
theorem SameU.trans {H H1 H2 : Hp} (a : SameU H H1) (b : SameU H1 H2) : SameU H H2 := fun c o h n => b c o (a c o h n) n
theorem SameU.refl (H : Hp) : SameU H H := fun _ _ h _ => h
theorem u_put {H : Hp} {q : Addr} {o o' : HO} (h : H q = some o) (n1 : ∀ xs, o ≠ .tup xs) (n2 : ∀ p u, o ≠ .frz p u) : SameU H (upd H q o') := fun b u hb z => by
  have : b ≠ q := by
    rintro rfl
    rw [h] at hb
    cases hb
    rcases z with ⟨xs, z⟩ | ⟨p, v, z⟩
    · exact n1 xs z
    · exact n2 p v z
  rw [upd_ne this]
  exact hb
theorem HtAt.u {H H' : Hp} {v : V} {h : Ht} (s : SameU H H') (x : HtAt H v h) : HtAt H' v h := by
  obtain ⟨a, o, e, ha, d⟩ := x
  exact ⟨a, o, e, s _ _ ha (.inr ⟨_, _, rfl⟩), d⟩
theorem RuAt.u {H H' : Hp} {v : V} {r : Ru} (s : SameU H H') (x : RuAt H v r) : RuAt H' v r := by
  obtain ⟨a, vs, e, ha, p⟩ := x
  exact ⟨a, vs, e, s _ _ ha (.inl ⟨_, rfl⟩), L2.Paired.mapP p fun _ _ q => q.u s⟩
def EnAt (H : Hp) (kv : Key × V) (e : Str × Ru) : Prop := kv.1 = Sum.inr e.1 ∧ RuAt H kv.2 e.2
theorem EnAt.u {H H' : Hp} {kv : Key × V} {e : Str × Ru} (s : SameU H H') (x : EnAt H kv e) : EnAt H' kv e := ⟨x.1, x.2.u s⟩
def BkAt (H : Hp) (kvs : List (Key × V)) (rs : Bk) : Prop := Paired (EnAt H) kvs rs
theorem BkAt.u {H H' : Hp} {kvs : List (Key × V)} {rs : Bk} (s : SameU H H') (x : BkAt H kvs rs) : BkAt H' kvs rs := L2.Paired.mapP x fun _ _ q => q.u s
def DcAt (H : Hp) (q : Addr) (rs : Bk) : Prop := ∃ kvs, H q = some (.dK kvs) ∧ BkAt H kvs rs
theorem DcAt.same {H H' : Hp} {q : Addr} {rs : Bk} (s : Same H H') (x : DcAt H q rs) : DcAt H' q rs := by
  obtain ⟨kvs, h, b⟩ := x
  exact ⟨kvs, s _ _ h, b.u (same_u s)⟩
theorem en_eq {H : Hp} {kv : Key × V} {e : Str × Ru} (x : EnAt H kv e) (n : Str) : kv.1 = Sum.inr n ↔ e.1 = n := by
  rw [x.1]
  constructor
  · intro z; injection z
  · intro z; rw [z]
theorem bk_lk {H : Hp} (n : Str) : ∀ {kvs : List (Key × V)} {rs : Bk}, BkAt H kvs rs → match lkB rs n with
    | some r => ∃ v, valV kvs (Sum.inr n) = some v ∧ RuAt H v r
    | none => valV kvs (Sum.inr n) = none
  | _, _, .nil => rfl
  | kv :: _, e :: _, .cons x t => by
    have ih := bk_lk n t
    unfold lkB
    by_cases h : e.1 = n
    · rw [if_pos h]
      exact ⟨kv.2, valV_pos ((en_eq x n).mpr h), x.2⟩
    · rw [if_neg h, valV_neg (fun z => h ((en_eq x n).mp z))]
      exact ih
theorem bk_put0 {H : Hp} {n : Str} {v : V} {r : Ru} (hv : RuAt H v r) : ∀ {kvs : List (Key × V)} {rs : Bk}, BkAt H kvs rs → (rs.map Prod.fst).Nodup → BkAt H (putK kvs (Sum.inr n) v) (putB rs n r)
  | _, _, .nil, _ => .cons ⟨rfl, hv⟩ .nil
  | kv :: kvs, e :: rs, .cons x t, nd => by
    rw [List.map_cons] at nd
    obtain ⟨h1, h2⟩ := List.nodup_cons.mp nd
    have ih := bk_put0 (n := n) hv t h2
    unfold putB
    by_cases h : e.1 = n
    · rw [if_pos h]
      have hk := (en_eq x n).mpr h
      unfold putK
      have ha : (((kv :: kvs).any fun z => decide (z.1 = (Sum.inr n : Key)))) = true := by rw [List.any_cons, decide_eq_true hk, Bool.true_or]
      rw [if_pos ha, List.map_cons, if_pos hk]
      refine .cons ⟨by rw [hk], hv⟩ ?_
      have : (kvs.map fun z => if z.1 = (Sum.inr n : Key) then (z.1, v) else z) = kvs := by
        refine (List.map_congr_left fun z hz => ?_).trans (List.map_id kvs)
        have hz' : z.1 ≠ (Sum.inr n : Key) := fun q => by
          obtain ⟨i, hi⟩ := List.getElem?_of_mem hz
          obtain ⟨e', he', x'⟩ := pr_get t hi
          exact h1 (List.mem_map.mpr ⟨e', List.mem_of_getElem? he', ((en_eq x' n).mp q).trans h.symm⟩)
        rw [if_neg hz']
        rfl
      rw [this]
      exact t
    · rw [if_neg h]
      have hk : kv.1 ≠ (Sum.inr n : Key) := fun z => h ((en_eq x n).mp z)
      have step : putK (kv :: kvs) (Sum.inr n) v = kv :: putK kvs (Sum.inr n) v := by
        unfold putK
        rw [List.any_cons, decide_eq_false hk, Bool.false_or]
        by_cases ha : (kvs.any fun z => decide (z.1 = (Sum.inr n : Key))) = true
        · rw [if_pos ha, if_pos ha, List.map_cons, if_neg hk]
        · rw [if_neg ha, if_neg ha, List.cons_append]
      rw [step]
      exact .cons x ih
theorem bk_drop {H : Hp} (n : Str) : ∀ {kvs : List (Key × V)} {rs : Bk}, BkAt H kvs rs → BkAt H (dropK kvs (Sum.inr n)) (dropB rs n)
  | _, _, .nil => .nil
  | kv :: kvs, e :: rs, .cons x t => by
    have ih := bk_drop n t
    unfold dropK dropB at *
    rw [List.filter_cons, List.filter_cons]
    by_cases h : e.1 = n
    · have hk := (en_eq x n).mpr h
      have e1 : decide (kv.1 ≠ (Sum.inr n : Key)) = false := decide_eq_false fun z => z hk
      have e2 : (!decide (e.1 = n)) = false := by rw [decide_eq_true h]; rfl
      rw [e1, e2]
      exact ih
    · have hk : kv.1 ≠ (Sum.inr n : Key) := fun z => h ((en_eq x n).mp z)
      have e1 : decide (kv.1 ≠ (Sum.inr n : Key)) = true := decide_eq_true hk
      have e2 : (!decide (e.1 = n)) = true := by rw [decide_eq_false h]; rfl
      rw [e1, e2]
      exact .cons x ih
theorem bk_keys {H : Hp} : ∀ {kvs : List (Key × V)} {rs : Bk}, BkAt H kvs rs → (kvs.map fun z => kV z.1) = (rs.map Prod.fst).map V.str
  | _, _, .nil => rfl
  | kv :: kvs, e :: rs, .cons x t => by
    rw [List.map_cons, List.map_cons, List.map_cons, bk_keys t, x.1]
    rfl
/-- a dict written: all but it stays -/
theorem dc_put {H : Hp} {q : Addr} {rs : Bk} {n : Str} {v : V} {r : Ru} (h : DcAt H q rs) (nd : (rs.map Prod.fst).Nodup) (hv : RuAt H v r) : ∃ kvs, H q = some (.dK kvs) ∧ kvs.length = rs.length ∧ DcAt (upd H q (.dK (putK kvs (Sum.inr n) v))) q (putB rs n r) := by
  obtain ⟨kvs, hq, b⟩ := h
  refine ⟨kvs, hq, pr_len b, _, upd_same, (bk_put0 hv b nd).u ?_⟩
  exact u_put hq (fun _ z => by cases z) (fun _ _ z => by cases z)
end Kd
namespace Kd
open PySem PySem.Spec PyProof.Rows L2
section
variable {P : Program} {w : World} {K : PySem.W.Frag} {mg : Str → Option Value} {base : Heap}
/-! ### NoName, rule_at -/
structure Nn (K : PySem.W.Frag) (mg : Str → Option Value) (CN : Addr) : Prop where
  ox : OexC K CN
  xf : XfC K CN
  nm : PySem.W.findIn K (.ref CN) "name" = some none
  ini : ∃ (fI : Addr) (fd : FuncData), FunD K "__init__" "NoName.__init__" (defArgs s_noname_init) (defBody s_noname_init) (defScope s_noname_init) [] [] fI fd ∧
    PySem.W.findIn K (.ref CN) "__init__" = some (some (.ref fI)) ∧ PySem.W.typeIn K (.ref fI) = some (.type "function")
  g : mg "NoName" = some (.ref CN)
def spNoInit (C : Addr) : Sp := fun vs H Q _ => ∃ (a : Addr) (n : Str), vs = [.ref a, .str n] ∧ H a = some (exo a C none) ∧
  ∀ dx, H dx = none → dx ≠ a → Q .non (upd (upd H dx (exd dx [("name", .str n)])) a (exo a C (some dx)))
theorem sc_noname_init : FnScope ["self", "name"] ["self", "name"] (defScope s_noname_init) := ⟨rfl, rfl, rfl, by decide +kernel, rfl, by decide +kernel, by decide +kernel⟩
theorem ok_noname_init {CN fI : Addr} {fd : FuncData} (N : Nn K mg CN) (F : FunD K "__init__" "NoName.__init__" (defArgs s_noname_init) (defBody s_noname_init) (defScope s_noname_init) [] [] fI fd) :
    FnOk P w K mg base CX0 1 fI fd ["self", "name"] (spNoInit CN) := by
  refine F.ok sc_noname_init (fun vs H Q E h => ?_) (fun cdv A outer s H vs Q E hr h => ?_)
  · obtain ⟨a, n, rfl, _⟩ := h
    rfl
  · obtain ⟨a, n, rfl, ha, k⟩ := h
    refine ⟨_, pss_one (ps_ost (pv 0) (pv 1)), ?_⟩
    exact ⟨_, rfl, _, rfl, a, CN, rfl, N.ox, N.nm, .inl ⟨ha, fun dx h1 h2 => k dx h1 h2⟩⟩
/-- what is refused with a name -/
def ENm (CN : Addr) (n : Str) (H : Hp) (E : XK) : Prop := ∀ H' d, Same H H' → H' d = some (.xd [("name", .str n)]) → E (.ref CN) (some d) H'
theorem ENm.same {CN : Addr} {n : Str} {H H1 : Hp} {E : XK} (s : Same H H1) (h : ENm CN n H E) : ENm CN n H1 E := fun H' d s1 hd => h H' d (s.trans s1) hd
def spRuleAt (CN : Addr) : Sp := fun vs H Q E => ∃ (q : Addr) (n : Str) (rs : Bk), vs = [.ref q, .str n] ∧ DcAt H q rs ∧ (lkB rs n = none → ENm CN n H E) ∧ (∀ r v, lkB rs n = some r → RuAt H v r → Q v H)
theorem sc_rule_at : FnScope ["rules", "name"] ["rules", "name"] (defScope s_rule_at) := ⟨rfl, rfl, rfl, by decide +kernel, rfl, by decide +kernel, by decide +kernel⟩
theorem ok_rule_at {CN : Addr} (N : Nn K mg CN) (D : Df K mg "rule_at" s_rule_at) : Cl P w K mg base (L2.CX P w) 3 "rule_at" (spRuleAt CN) := by
  obtain ⟨fI, fd, F, i1, i2⟩ := N.ini
  refine mkX D sc_rule_at (fun _ _ _ _ _ _ us hl => match us, hl with | [_, _], _ => rfl) (fun vs H Q E h => ?_) (fun f cdv A outer s H vs Q E hr h => ?_)
  · obtain ⟨q, n, rs, rfl, _⟩ := h
    rfl
  · obtain ⟨q, n, rs, rfl, ⟨kvs, hq, bk⟩, kE, kQ⟩ := h
    have hu := hu_of hr
    refine ⟨_, pss_cons (ps_if (pt_cmp (pc_dnotin hu (pv 1) (pv 0)) (by rfl))
        (pss_one (ps_raise rfl (takes_of rfl rfl rfl rfl) (pmk_oex (k := 1) (dvs := []) N.ox i1 i2 (ok_noname_init N F) (hr.mono (by decide)) (F.bindsN (fun _ _ _ _ _ _ us hl => match us, hl with | [_, _], _ => rfl)) .nil pass0 (by rfl) N.g (pa_cons (pv 1) pa_nil)))) pss_nil)
      (pss_one (ps_ret (pe_dget hu (pv 0) (pv 1) (fun _ _ => rfl)))), ?_⟩
    have lk := bk_lk n bk
    cases e : lkB rs n with
    | none =>
      rw [e] at lk
      refine ⟨_, rfl, _, rfl, q, none, rfl, by have g := DGet.k (k := Sum.inr n) hq; rw [lk] at g; exact g, _, rfl, iteT ?_⟩
      refine ⟨_, rfl, (by show 1 ≤ 1000; decide), fun a ha => ⟨a, n, rfl, upd_same, fun dx h1 h2 => ⟨rfl, dx, [("name", .str n)], upd_same, ?_, ?_, ?_⟩⟩⟩
      · rw [upd_ne h2, upd_same]
      · rw [upd_ne h2] at h1
        exact h1
      · refine kE e _ dx ?_ upd_same
        intro b o hb
        rw [upd_ne h2] at h1
        have b1 : b ≠ a := ne_of_none hb ha
        have b2 : b ≠ dx := ne_of_none hb h1
        rw [upd_ne b2, del_ne b1, upd_ne b1, upd_ne b2, upd_ne b1]
        exact hb
    | some r =>
      rw [e] at lk
      obtain ⟨v, hv, hR⟩ := lk
      have g := DGet.k (k := Sum.inr n) hq
      rw [hv] at g
      exact ⟨_, rfl, _, rfl, q, some v, rfl, g, _, rfl, iteF ⟨_, rfl, _, rfl, q, v, rfl, g, kQ r v e hR⟩⟩
def spNamesText : Sp := fun vs H Q _ => ∃ (q : Addr) (rs : Bk), vs = [.ref q] ∧ DcAt H q rs ∧ GB rs ∧ rs.length < 64 ∧ ∀ H', Same H H' → Q (.str (namesT rs)) H'
theorem sc_names_text : FnScope ["rules"] ["rules"] (defScope s_names_text) := ⟨rfl, rfl, rfl, by decide +kernel, rfl, by decide +kernel, by decide +kernel⟩
theorem ok_names_text (B : Bi mg) (D : Df K mg "names_text" s_names_text) : Cl P w K mg base CX0 1 "names_text" spNamesText := by
  refine mk0 D sc_names_text (fun _ _ _ _ _ _ us hl => match us, hl with | [_], _ => rfl) (fun vs H Q E h => ?_) (fun f cdv A outer s H vs Q E hr h => ?_)
  · obtain ⟨q, rs, rfl, _⟩ := h
    rfl
  · obtain ⟨q, rs, rfl, ⟨kvs, hq, bk⟩, g, h64, k⟩ := h
    refine ⟨_, pss_cons (ps_if (pt_not (pt_truth (pv 0) (by intro _; rfl))) (pss_one (ps_ret pe_str)) pss_nil)
      (pss_one (ps_ret (pe_join pe_str (pe_callB cr_sortedS (by rfl) B.sorted (by decide +kernel) (pa_cons (pe_callTy (call_list_dK rfl) (by rfl) B.list (by decide +kernel) (pa_cons (pv 0) pa_nil)) pa_nil))))), ?_⟩
    refine ⟨_, rfl, !kvs.isEmpty, .inr (.inr ⟨kvs, hq, rfl⟩), ?_⟩
    cases rs with
    | nil =>
      cases bk
      exact iteT (k H (Same.refl H))
    | cons e t =>
      have hne : kvs.isEmpty = false := by
        cases bk
        rfl
      rw [hne]
      refine iteF ?_
      have ks := bk_keys bk
      refine ⟨⟨_, rfl⟩, _, rfl, q, kvs, rfl, hq, fun a ha => ⟨a, (e :: t).map Prod.fst, rfl, SqL.of (by rw [upd_same, ks]), by rw [List.length_map]; exact h64, fun ys p pm hs hp => ?_⟩⟩
      have ey := sortN_eq pm hs
      refine ⟨_, p, ys, rfl, rfl, .inl (SqL.of upd_same), fit_words (k := 0) (fun x hx => names_fit g x (pm.mem_iff.mp hx)) (by rw [pm.length_eq, List.length_map]; omega), ?_⟩
      rw [ey]
      exact (k _ ((same_upd ha).trans (same_upd hp)) : Q (.str (namesT (e :: t))) _)
theorem sc_law_names_text : FnScope ["_law_rules"] ["_law_rules"] (defScope s_law_names_text) := ⟨rfl, rfl, rfl, by decide +kernel, rfl, by decide +kernel, by decide +kernel⟩
theorem ok_law_names_text (B : Bi mg) (D : Df K mg "_law_names_text" s_law_names_text) : Cl P w K mg base CX0 1 "_law_names_text" spNamesText := by
  refine mk0 D sc_law_names_text (fun _ _ _ _ _ _ us hl => match us, hl with | [_], _ => rfl) (fun vs H Q E h => ?_) (fun f cdv A outer s H vs Q E hr h => ?_)
  · obtain ⟨q, rs, rfl, _⟩ := h
    rfl
  · obtain ⟨q, rs, rfl, ⟨kvs, hq, bk⟩, g, h64, k⟩ := h
    refine ⟨_, pss_cons (ps_if (pt_not (pt_truth (pv 0) (by intro _; rfl))) (pss_one (ps_ret pe_str)) pss_nil)
      (pss_one (ps_ret (pe_join pe_str (pe_callB cr_sortedS (by rfl) B.sorted (by decide +kernel) (pa_cons (pe_callTy (call_list_dK rfl) (by rfl) B.list (by decide +kernel) (pa_cons (pv 0) pa_nil)) pa_nil))))), ?_⟩
    refine ⟨_, rfl, !kvs.isEmpty, .inr (.inr ⟨kvs, hq, rfl⟩), ?_⟩
    cases rs with
    | nil =>
      cases bk
      exact iteT (k H (Same.refl H))
    | cons e t =>
      have hne : kvs.isEmpty = false := by
        cases bk
        rfl
      rw [hne]
      refine iteF ?_
      have ks := bk_keys bk
      refine ⟨⟨_, rfl⟩, _, rfl, q, kvs, rfl, hq, fun a ha => ⟨a, (e :: t).map Prod.fst, rfl, SqL.of (by rw [upd_same, ks]), by rw [List.length_map]; exact h64, fun ys p pm hs hp => ?_⟩⟩
      have ey := sortN_eq pm hs
      refine ⟨_, p, ys, rfl, rfl, .inl (SqL.of upd_same), fit_words (k := 0) (fun x hx => names_fit g x (pm.mem_iff.mp hx)) (by rw [pm.length_eq, List.length_map]; omega), ?_⟩
      rw [ey]
      exact (k _ ((same_upd ha).trans (same_upd hp)) : Q (.str (namesT (e :: t))) _)
end
end Kd
namespace Kd
open PySem PySem.Spec PyProof.Rows L2
/-! ## The desk's lines -/
/-- all but q stays -/
def SameB (q : Addr) (H H' : Hp) : Prop := ∀ b o, b ≠ q → H b = some o → H' b = some o
theorem Same.b {H H' : Hp} {q : Addr} (s : Same H H') : SameB q H H' := fun b o _ h => s b o h
theorem same_b {H H' : Hp} {q : Addr} (s : Same H H') : SameB q H H' := fun b o _ h => s b o h
theorem SameB.trans {q : Addr} {H H1 H2 : Hp} (a : SameB q H H1) (b : SameB q H1 H2) : SameB q H H2 := fun c o n h => b c o n (a c o n h)
theorem sameB_upd {q : Addr} {H : Hp} {o : HO} : SameB q H (upd H q o) := fun b u n h => by rw [upd_ne n]; exact h
theorem GR.fit {r : Ru} (g : GR r) : Fit r := ⟨g.few, fun h hh => (g.all h hh).few⟩
theorem GR.app {r : Ru} {h : Ht} (g : GR r) (gh : GH h) (n : r.length ≠ 6) : GR (r ++ [h]) := by
  refine ⟨fun k hk => ?_, ?_⟩
  · rcases List.mem_append.mp hk with q | q
    · exact g.all k q
    · rw [List.mem_singleton.mp q]; exact gh
  · have := g.few
    rw [List.length_append, List.length_singleton]
    omega
theorem GR.cut {r : Ru} (g : GR r) (i : Nat) : GR (r.take i ++ r.drop (i + 1)) := by
  refine ⟨fun k hk => ?_, ?_⟩
  · rcases List.mem_append.mp hk with q | q
    · exact g.all k (List.mem_of_mem_take q)
    · exact g.all k (List.mem_of_mem_drop q)
  · have := g.few
    rw [List.length_append, List.length_take, List.length_drop]
    omega
theorem foldH_len (h : Ht) : ∀ (t acc : Ht), (t.foldl (addH h) acc).length ≤ acc.length + t.length
  | [], acc => Nat.le_refl _
  | p :: t, acc => by
    rw [List.foldl_cons]
    have h1 := foldH_len h t (addH h acc p)
    have h2 : (addH h acc p).length ≤ acc.length + 1 := by
      unfold addH
      split <;> simp
    rw [List.length_cons]
    omega
theorem lawJ_len0 {m : Nat} : ∀ (hs : List Ht) (acc : Ht), (∀ h ∈ hs, h.length ≤ m) → (hs.foldl (fun a h => h.foldl (addH h) a) acc).length ≤ acc.length + hs.length * m
  | [], acc, _ => Nat.le_add_right _ _
  | h :: t, acc, hm => by
    rw [List.foldl_cons]
    have h1 := lawJ_len0 t (h.foldl (addH h) acc) fun x hx => hm x (List.mem_cons_of_mem _ hx)
    have h2 := foldH_len h h acc
    have h3 := hm h (List.mem_cons_self ..)
    have e : (t.length + 1) * m = t.length * m + m := by rw [Nat.add_mul, Nat.one_mul]
    rw [List.length_cons, e]
    omega
theorem lawJ_mem {hs : List Ht} {p : Int} (h : p ∈ lawJ hs) : ∃ k ∈ hs, p ∈ k := by
  by_cases q : ∃ k ∈ hs, p ∈ k
  · exact q
  · exfalso
    have z := isJ_law hs p
    rw [mx_zero fun k hk hp => q ⟨k, hk, hp⟩] at z
    exact List.count_eq_zero.mp z h
theorem sum_bound : ∀ {l : List Int} {b : Int}, (∀ p ∈ l, 0 ≤ p ∧ p ≤ b) → 0 ≤ l.sum ∧ l.sum ≤ l.length * b
  | [], b, _ => by simp
  | p :: t, b, h => by
    have h1 := sum_bound (l := t) (b := b) fun x hx => h x (List.mem_cons_of_mem _ hx)
    have h2 := h p (List.mem_cons_self ..)
    have e : (((p :: t).length : Nat) : Int) * b = (t.length : Int) * b + b := by rw [List.length_cons, Int.natCast_add, Int.add_mul]; simp
    rw [List.sum_cons, e]
    omega
theorem jsum_bound {hs : List Ht} (h6 : hs.length ≤ 6) (g : ∀ h ∈ hs, h = [] ∨ GH h) : 0 ≤ jsum hs ∧ jsum hs ≤ 10 ^ 33 := by
  have hl : (lawJ hs).length ≤ 60 := by
    have := lawJ_len0 (m := 10) hs [] fun h hh => by
      rcases g h hh with rfl | q
      · exact Nat.zero_le _
      · exact q.few
    unfold lawJ
    rw [List.length_nil] at this
    omega
  have := sum_bound (l := lawJ hs) (b := 10 ^ 30) fun p hp => by
    obtain ⟨k, hk, hpk⟩ := lawJ_mem hp
    rcases g k hk with rfl | q
    · cases hpk
    · exact ⟨by have := q.lo p hpk; omega, q.hi p hpk⟩
  unfold jsum
  omega
theorem pick_good {r : Ru} (g : GR r) (c : List Nat) : ∀ h ∈ pick r c, h = [] ∨ GH h := by
  intro h hh
  obtain ⟨i, hi, rfl⟩ := List.mem_map.mp hh
  rw [List.getD_eq_getElem?_getD]
  cases e : r[i]? with
  | none => exact .inl rfl
  | some x => exact .inr (g.all x (List.mem_of_getElem? e))
theorem log_big {i : Int} (h0 : 0 ≤ i) (h : i ≤ 10 ^ 33) : i.natAbs.log2 < 1920 := by
  have : i.natAbs.log2 < 112 := by
    rcases Nat.eq_zero_or_pos i.natAbs with z | z
    · rw [z]; decide
    · rw [Nat.log2_lt (by omega)]
      omega
  omega
theorem num_big {i : Int} (h0 : 0 ≤ i) (h : i ≤ 10 ^ 33) : (num i).length ≤ 34 := by
  rw [TL.len_tl, tl_num h0]
  exact TL.numL_len (by decide) (by omega)
def keepT : Option Nat → Str
  | none => "yes"
  | some i => Str.empty ++ ("no " : Str) ++ num (i : Int)
def nS (i : Nat) : Str := num (i : Int)
def chT (c : List Nat) : Str := Txt.join " " (c.map nS)
def matchT : Option Un3 → Str
  | none => "yes"
  | some t => Str.empty ++ ("no " : Str) ++ chT t.1 ++ (" : " : Str) ++ num t.2.1 ++ (" " : Str) ++ num t.2.2
section
variable {P : Program} {w : World} {K : PySem.W.Frag} {mg : Str → Option Value} {base : Heap}
/-! ### names, show -/
def spNamesLine : Sp := fun vs H Q _ => ∃ (q a : Addr) (rs : Bk), vs = [.ref q, .ref a] ∧ DcAt H q rs ∧ GB rs ∧ rs.length < 64 ∧ H a = some (.lst []) ∧ ∀ H', Same H H' → Q (.str (namesT rs)) H'
theorem sc_names_line : FnScope ["rules", "words"] ["rules", "words"] (defScope s_names_line) := ⟨rfl, rfl, rfl, by decide +kernel, rfl, by decide +kernel, by decide +kernel⟩
theorem ok_names_line (D : Df K mg "names_line" s_names_line) (cM : Cl P w K mg base CX0 1 "hold_many" spHoldMany) (cN : Cl P w K mg base CX0 1 "names_text" spNamesText) : Cl P w K mg base (L2.CX P w) 6 "names_line" spNamesLine := by
  refine mkX D sc_names_line (fun _ _ _ _ _ _ us hl => match us, hl with | [_, _], _ => rfl) (fun vs H Q E h => ?_) (fun f cdv A outer s H vs Q E hr h => ?_)
  · obtain ⟨q, a, rs, rfl, _⟩ := h
    rfl
  · obtain ⟨q, a, rs, rfl, hD, g, h64, ha, k⟩ := h
    refine ⟨_, pss_cons (ps_expr (pe_f cM hr (by decide) (by rfl) (pa_cons (pv 1) (pa_cons pe_int pa_nil)))) (pss_one (ps_ret (pe_f cN hr (by decide) (by rfl) (pa_cons (pv 0) pa_nil)))), ?_⟩
    exact ⟨_, rfl, a, [], rfl, ha, _, rfl, q, rs, rfl, hD, g, h64, k⟩
def spShowLine (CN : Addr) : Sp := fun vs H Q E => ∃ (q a : Addr) (rs : Bk) (n : Str), vs = [.ref q, .ref a] ∧ DcAt H q rs ∧ GB rs ∧ Nm n ∧ H a = some (.lst [.str n]) ∧
  (lkB rs n = none → ENm CN n H E) ∧ ∀ r H', lkB rs n = some r → Same H H' → Q (.str (ruleT r)) H'
theorem sc_show_line : FnScope ["rules", "words"] ["rules", "words"] (defScope s_show_line) := ⟨rfl, rfl, rfl, by decide +kernel, rfl, by decide +kernel, by decide +kernel⟩
theorem ok_show_line {CN : Addr} (D : Df K mg "show_line" s_show_line) (cM : Cl P w K mg base CX0 1 "hold_many" spHoldMany) (cN : Cl P w K mg base CX0 1 "read_name" spReadName) (cR : Cl P w K mg base (L2.CX P w) 3 "rule_at" (spRuleAt CN))
    (cT : Cl P w K mg base CX0 2 "rule_text" spRuleText) : Cl P w K mg base (L2.CX P w) 6 "show_line" (spShowLine CN) := by
  refine mkX D sc_show_line (fun _ _ _ _ _ _ us hl => match us, hl with | [_, _], _ => rfl) (fun vs H Q E h => ?_) (fun f cdv A outer s H vs Q E hr h => ?_)
  · obtain ⟨q, a, rs, n, rfl, _⟩ := h
    rfl
  · obtain ⟨q, a, rs, n, rfl, hD, g, hn, ha, kE, kQ⟩ := h
    refine ⟨_, pss_cons (ps_expr (pe_f cM hr (by decide) (by rfl) (pa_cons (pv 1) (pa_cons pe_int pa_nil))))
      (pss_one (ps_ret (pe_f cT hr (by decide) (by rfl) (pa_cons (pe_fX (E := E) cR hr (by decide) (takes_of rfl rfl rfl rfl) (fun _ _ _ _ h => h) (by rfl) (pa_cons (pv 0) (pa_cons (pe_f cN hr (by decide) (by rfl) (pa_cons (pe_ix ix_list (pv 1) pe_int (fun _ _ => rfl)) pa_nil)) pa_nil))) pa_nil)))), ?_⟩
    refine ⟨_, rfl, a, _, rfl, ha, ?_⟩
    refine ⟨_, rfl, _, rfl, a, _, 0, _, rfl, rfl, SqL.of ha, atI_nat (j := 0) rfl, n, rfl, hn, q, n, rs, rfl, hD, kE, fun r v e hR => ?_⟩
    exact ⟨v, r, rfl, hR, g.lk e, fun H' s => kQ r H' e s⟩
/-! ### keeps, match -/
def spKeepsLine (CN : Addr) : Sp := fun vs H Q E => ∃ (q a : Addr) (rs : Bk) (n : Str) (h : Ht), vs = [.ref q, .ref a] ∧ DcAt H q rs ∧ GB rs ∧ Nm n ∧ GH h ∧ WsAt H a (n :: heapW h) ∧
  (lkB rs n = none → ENm CN n H E) ∧ ∀ r H', lkB rs n = some r → Same H H' → Q (.str (keepT (firstIn r h))) H'
theorem sc_keeps_line : FnScope ["rules", "words", "name", "heap", "number"] ["rules", "words"] (defScope s_keeps_line) := ⟨rfl, rfl, rfl, by decide +kernel, rfl, by decide +kernel, by decide +kernel⟩
theorem ok_keeps_line {CN : Addr} (D : Df K mg "keeps_line" s_keeps_line) (cW : Cl P w K mg base CX0 2 "first_word" spFirstWord) (cH : Cl P w K mg base CX0 3 "rest_heap" spRestHeap) (cR : Cl P w K mg base (L2.CX P w) 3 "rule_at" (spRuleAt CN))
    (cF : Cl P w K mg base CX0 3 "first_in" spFirstIn) : Cl P w K mg base (L2.CX P w) 6 "keeps_line" (spKeepsLine CN) := by
  refine mkX D sc_keeps_line (fun _ _ _ _ _ _ us hl => match us, hl with | [_, _], _ => rfl) (fun vs H Q E h => ?_) (fun f cdv A outer s H vs Q E hr h => ?_)
  · obtain ⟨q, a, rs, n, h, rfl, _⟩ := h
    rfl
  · obtain ⟨q, a, rs, n, h, rfl, hD, g, hn, gh, ha, kE, kQ⟩ := h
    refine ⟨_, pss_cons (ps_set (i := 2) sc_keeps_line.nd rfl (Or.inl rfl) (pe_f cW hr (by decide) (by rfl) (pa_cons (pv 1) pa_nil)))
      (pss_cons (ps_set (i := 3) sc_keeps_line.nd rfl (Or.inl rfl) (pe_f cH hr (by decide) (by rfl) (pa_cons (pe_slice (r := rSlL K) sl_list (pv 1) (po_some pe_int) po_none) pa_nil)))
      (pss_cons (ps_set (i := 4) sc_keeps_line.nd rfl (Or.inl rfl) (pe_f cF hr (by decide) (by rfl) (pa_cons (pe_fX (E := E) cR hr (by decide) (takes_of rfl rfl rfl rfl) (fun _ _ _ _ h => h) (by rfl) (pa_cons (pv 0) (pa_cons (pv 2) pa_nil))) (pa_cons (pv 3) pa_nil))))
      (pss_cons (ps_if (pt_cmpR op_isN (pv 4) pe_non (nomark _)) (pss_one (ps_ret pe_str)) pss_nil)
      (pss_one (ps_ret (pe_joined (.cons pe_str (.cons (pe_fmt (pv 4)) .nil)))))))), ?_⟩
    refine ⟨_, rfl, a, n, (heapW h).map V.str, rfl, ha, hn, ?_⟩
    refine ⟨_, rfl, 1, rfl, a, _, rfl, SqL.of ha, fun p hp => ?_⟩
    have ep : cutV ((n :: heapW h).map V.str) (some 1) none = (heapW h).map V.str := cutV_drop _ 1
    have s0 : Same H (upd H p (.lst (cutV ((n :: heapW h).map V.str) (some 1) none))) := same_upd hp
    refine ⟨p, h, rfl, by show upd _ _ _ _ = _; rw [upd_same, ep], gh, fun H1 v s1 hH => ?_⟩
    have sH1 : Same H H1 := s0.trans s1
    refine ⟨_, rfl, _, rfl, q, n, rs, rfl, hD.same sH1, fun e => (kE e).same sH1, fun r u e hR => ?_⟩
    have gr := g.lk e
    refine ⟨_, rfl, u, v, r, h, rfl, hR, hH, gr.few, fun o ho => by have := (gr.all o ho).few; omega, fun H2 s2 => ?_⟩
    have kq := kQ r H2 e (sH1.trans s2)
    cases ef : firstIn r h with
    | none =>
      rw [ef] at kq
      exact ⟨_, rfl, rfl, _, rfl, iteT kq⟩
    | some i =>
      rw [ef] at kq
      have hi : i < r.length := by
        unfold firstIn at ef
        exact (List.findIdx?_eq_some_iff_getElem.mp ef).1
      have few := gr.few
      refine ⟨_, rfl, rfl, _, rfl, iteF ?_⟩
      have hl := num_len (i := (i : Int)) (by omega) (by omega)
      refine ⟨_, rfl, by decide +kernel, _, rfl, .inr ⟨_, rfl, log_small (by omega) (by omega), _, rfl, ?_, kq⟩⟩
      rw [TL.len_tl, TL.tl_append, List.length_append, ← TL.len_tl, ← TL.len_tl, sizeLine_eq]
      have e1 : (Str.empty ++ ("no " : Str)).length = 3 := by decide +kernel
      show (Str.empty ++ ("no " : Str)).length + (num (i : Int)).length ≤ 16777216
      omega
def spMatchLine (CN CM : Addr) : Sp := fun vs H Q E => ∃ (q a : Addr) (rs : Bk) (n m : Str), vs = [.ref q, .ref a] ∧ DcAt H q rs ∧ GB rs ∧ Nm n ∧ Nm m ∧ H a = some (.lst [.str n, .str m]) ∧
  (lkB rs n = none → ENm CN n H E) ∧ (∀ r, lkB rs n = some r → lkB rs m = none → ENm CN m H E) ∧
  ∀ r1 r2, lkB rs n = some r1 → lkB rs m = some r2 → (r1.length ≠ r2.length → ∀ H', Same H H' → E (.ref CM) none H') ∧ (r1.length = r2.length → ∀ H', Same H H' → Q (.str (matchT (unlike r1 r2))) H')
theorem sc_match_line : FnScope ["rules", "words", "name", "other", "rule", "found", "choice", "one", "two", "numbers", "number"] ["rules", "words"] (defScope s_match_line) := ⟨rfl, rfl, rfl, by decide +kernel, rfl, by decide +kernel, by decide +kernel⟩
theorem unlike_mem {a b : Ru} {t : Un3} (h : unlike a b = some t) : t.1 ∈ chs a.length ∧ t.2.1 = jsum (pick a t.1) ∧ t.2.2 = jsum (pick b t.1) := by
  have := List.mem_of_find?_eq_some h
  unfold rows at this
  obtain ⟨c, hc, rfl⟩ := List.mem_map.mp this
  exact ⟨hc, rfl, rfl⟩
theorem len_app (x y : Str) : (x ++ y).length = x.length + y.length := by
  rw [TL.len_tl, TL.tl_append, List.length_append, ← TL.len_tl, ← TL.len_tl]
theorem ok_match_line {CN CM : Addr} (B : Bi mg) (D : Df K mg "match_line" s_match_line) (cM : Cl P w K mg base CX0 1 "hold_many" spHoldMany) (cW : Cl P w K mg base CX0 2 "two_words" spTwoWords) (cR : Cl P w K mg base (L2.CX P w) 3 "rule_at" (spRuleAt CN))
    (cF : Cl P w K mg base (L2.CX P w) 5 "first_unlike" (spFirstUnlike CM)) : Cl P w K mg base (L2.CX P w) 6 "match_line" (spMatchLine CN CM) := by
  refine mkX D sc_match_line (fun _ _ _ _ _ _ us hl => match us, hl with | [_, _], _ => rfl) (fun vs H Q E h => ?_) (fun f cdv A outer s H vs Q E hr h => ?_)
  · obtain ⟨q, a, rs, n, m, rfl, _⟩ := h
    rfl
  · obtain ⟨q, a, rs, n, m, rfl, hD, g, hn, hm, ha, kE1, kE2, kQ⟩ := h
    refine ⟨_, pss_cons (ps_expr (pe_f cM hr (by decide) (by rfl) (pa_cons (pv 1) (pa_cons pe_int pa_nil))))
      (pss_cons (ps_asg (pe_f cW hr (by decide) (by rfl) (pa_cons (pv 1) pa_nil)) (pg_tup rfl (pgs_cons (pg_name (i := 2) sc_match_line.nd rfl (Or.inl rfl)) (pgs_cons (pg_name (i := 3) sc_match_line.nd rfl (Or.inl rfl)) pgs_nil))))
      (pss_cons (ps_set (i := 4) sc_match_line.nd rfl (Or.inl rfl) (pe_fX (E := E) cR hr (by decide) (takes_of rfl rfl rfl rfl) (fun _ _ _ _ h => h) (by rfl) (pa_cons (pv 0) (pa_cons (pv 2) pa_nil))))
      (pss_cons (ps_set (i := 5) sc_match_line.nd rfl (Or.inl rfl) (pe_fX (E := E) cF hr (by decide) (takes_of rfl rfl rfl rfl) (fun _ _ _ _ h => h) (by rfl) (pa_cons (pv 4) (pa_cons (pe_fX (E := E) cR hr (by decide) (takes_of rfl rfl rfl rfl) (fun _ _ _ _ h => h) (by rfl) (pa_cons (pv 0) (pa_cons (pv 3) pa_nil))) pa_nil))))
      (pss_cons (ps_if (pt_cmpR op_isN (pv 5) pe_non (nomark _)) (pss_one (ps_ret pe_str)) pss_nil)
      (pss_cons (ps_asg (pv 5) (pg_tup rfl (pgs_cons (pg_name (i := 6) sc_match_line.nd rfl (Or.inl rfl)) (pgs_cons (pg_name (i := 7) sc_match_line.nd rfl (Or.inl rfl)) (pgs_cons (pg_name (i := 8) sc_match_line.nd rfl (Or.inl rfl)) pgs_nil)))))
      (pss_cons (ps_set (i := 9) sc_match_line.nd rfl (Or.inl rfl) (pe_join pe_str (pe_lc (own := [("number", 10)]) (g := gName 10) (tt := tYes) rfl sc_match_line.nd (pi_tup (pv 6)) (blkOk_by (own := [("number", 10)]) (N := ["rules", "words", "name", "other", "rule", "found", "choice", "one", "two", "numbers", "number"]) (sc := defScope s_match_line) (by decide +kernel))
        (fun _ _ _ _ _ => pg_name (i := 10) sc_match_line.nd rfl (Or.inl rfl)) (fun _ _ _ _ _ => pts_nil)
        (fun _ _ _ _ _ => pe_callTy call_str_int (by rfl) B.str (by decide +kernel) (pa_cons (pv 10) pa_nil)))))
      (pss_one (ps_ret (pe_joined (.cons pe_str (.cons (pe_fmt (pv 9)) (.cons pe_str (.cons (pe_fmt (pv 7)) (.cons pe_str (.cons (pe_fmt (pv 8)) .nil))))))))))))))), ?_⟩
    refine ⟨_, rfl, a, _, rfl, ha, ?_⟩
    refine ⟨_, rfl, a, n, m, rfl, ha, hn, hm, fun p hp => ⟨p, _, rfl, SqT.of upd_same, rfl, _, _, rfl, _, _, rfl, rfl, ?_⟩⟩
    have s0 : Same H (upd H p (.tup [.str n, .str m])) := same_upd hp
    refine ⟨_, rfl, _, rfl, q, n, rs, rfl, hD.same s0, fun e => (kE1 e).same s0, fun r1 v1 e1 hR1 => ?_⟩
    refine ⟨_, rfl, _, rfl, _, rfl, q, m, rs, rfl, hD.same s0, fun e => (kE2 r1 e1 e).same s0, fun r2 v2 e2 hR2 => ?_⟩
    have g1 := g.lk e1
    have g2 := g.lk e2
    refine ⟨v1, v2, r1, r2, rfl, hR1, hR2, g1.fit, g2.fit, fun ne => (kQ r1 r2 e1 e2).1 ne _ s0, fun eq H1 v' s1 hU => ?_⟩
    have sH1 : Same H H1 := s0.trans s1
    have kq := (kQ r1 r2 e1 e2).2 eq
    cases eu : unlike r1 r2 with
    | none =>
      rw [eu] at hU kq
      obtain rfl : v' = .non := hU
      exact ⟨_, rfl, rfl, _, rfl, iteT (kq _ sH1)⟩
    | some t =>
      rw [eu] at hU kq
      obtain ⟨p', x, rfl, hp', b, rfl, hb⟩ := hU
      obtain ⟨m1, m2, m3⟩ := unlike_mem eu
      have few := g1.few
      have sh := chs_short few m1
      refine ⟨_, rfl, rfl, _, rfl, iteF ?_⟩
      refine ⟨_, rfl, p', _, rfl, SqT.of hp', rfl, _, _, rfl, _, _, rfl, _, _, rfl, rfl, ?_⟩
      refine ⟨⟨_, rfl⟩, _, rfl, b, rfl, ⟨_, SqT.of hb⟩, fun L hL => lc_mk (vs := [10]) (R := fun (_ : Hp) v (y : Nat) => v = V.str (nS y)) (walk_tup (K := K) (a := b)) (nl_val (f := fun y => V.str (nS y))) t.1 (List.length_map ..).symm (by rw [List.length_map]; omega) hL (fun H' s => SqT.of (s _ _ hb)) ?_ ?_⟩
      · intro i z y H2 hi hz hy s2 Kc hK
        obtain ⟨y', hy', rfl⟩ := map_get hz
        rw [hy] at hy'
        cases hy'
        have := chs_lt m1 y (List.mem_of_getElem? hy)
        exact ⟨rfl, _, rfl, (y : Int), rfl, log_small (by omega) (by omega), hK _ H2 (Same.refl H2) rfl⟩
      · intro H2 us s2 hL2 pu
        have e := pr_map (f := fun y : Nat => V.str (nS y)) (H := H2) pu
        have nl : ∀ z ∈ t.1.map nS, z.length ≤ 31 := fun z hz => by
          obtain ⟨i, hi, rfl⟩ := List.mem_map.mp hz
          have := chs_lt m1 i hi
          exact num_len (by omega) (by omega)
        refine ⟨_, L, t.1.map nS, rfl, rfl, .inl (SqL.of (by rw [hL2, e, List.map_map]; rfl)), fit_words (k := 0) nl (by rw [List.length_map]; omega), ?_⟩
        have cl : (chT t.1).length ≤ 200 := by
          have := join_len (y := (" " : Str)) nl
          rw [List.length_map, len_sp] at this
          unfold chT
          omega
        have b1 := jsum_bound (hs := pick r1 t.1) (by unfold pick; rw [List.length_map]; exact sh) (pick_good g1 _)
        have b2 := jsum_bound (hs := pick r2 t.1) (by unfold pick; rw [List.length_map]; exact sh) (pick_good g2 _)
        rw [← m2] at b1
        rw [← m3] at b2
        have l1 := num_big b1.1 b1.2
        have l2 := num_big b2.1 b2.2
        have e1 : (Str.empty ++ ("no " : Str)).length = 3 := by decide +kernel
        have e2 : (" : " : Str).length = 3 := by decide +kernel
        have sz : (Str.empty ++ ("no " : Str) ++ chT t.1 ++ (" : " : Str) ++ num t.2.1 ++ (" " : Str) ++ num t.2.2).length ≤ 1000 := by
          rw [len_app, len_app, len_app, len_app, len_app, e1, e2, len_sp]
          omega
        have sz1 : (Str.empty ++ ("no " : Str) ++ chT t.1).length ≤ 1000 := by rw [len_app, e1]; omega
        have sz2 : (Str.empty ++ ("no " : Str) ++ chT t.1 ++ (" : " : Str)).length ≤ 1000 := by rw [len_app, len_app, e1, e2]; omega
        have sz3 : (Str.empty ++ ("no " : Str) ++ chT t.1 ++ (" : " : Str) ++ num t.2.1).length ≤ 1000 := by rw [len_app, len_app, len_app, e1, e2]; omega
        have sz4 : (Str.empty ++ ("no " : Str) ++ chT t.1 ++ (" : " : Str) ++ num t.2.1 ++ (" " : Str)).length ≤ 1000 := by rw [len_app, len_app, len_app, len_app, e1, e2, len_sp]; omega
        have big : (1000 : Nat) ≤ sizeLine := by decide
        exact ⟨_, rfl, by decide +kernel, _, rfl, .inl ⟨_, rfl, Nat.le_trans cl (by decide), _, rfl, Nat.le_trans sz1 big, _, rfl, Nat.le_trans sz2 big,
          _, rfl, .inr ⟨_, rfl, log_big b1.1 b1.2, _, rfl, Nat.le_trans sz3 big, _, rfl, Nat.le_trans sz4 big, _, rfl, .inr ⟨_, rfl, log_big b2.1 b2.2, _, rfl, Nat.le_trans sz big, kq H2 (sH1.trans s2)⟩⟩⟩⟩
end
end Kd
namespace Kd
open PySem PySem.Spec PyProof.Rows L2
section
variable {P : Program} {w : World} {K : PySem.W.Frag} {mg : Str → Option Value} {base : Heap}
theorem ru_app {H : Hp} {v : V} {r : Ru} {hv : V} {h : Ht} {q : Addr} (hR : RuAt H v r) (hH : HtAt H hv h) :
    ∃ a xs, v = .ref a ∧ H a = some (.tup xs) ∧ (xs = [] → r = []) ∧ Paired (HtAt H) xs r ∧ xs.length = r.length := by
  obtain ⟨a, xs, rfl, ha, p⟩ := hR
  refine ⟨a, xs, rfl, ha, fun e => ?_, p, pr_len p⟩
  subst e
  cases p
  rfl
/-! ### rule, add -/
def spRuleLine : Sp := fun vs H Q _ => ∃ (q a : Addr) (rs : Bk) (n : Str) (r : Ru), vs = [.ref q, .ref a] ∧ DcAt H q rs ∧ GB rs ∧ rs.length ≤ 900 ∧ Nm n ∧ GR r ∧ WsAt H a (n :: ruleW r) ∧
  ∀ H', SameB q H H' → DcAt H' q (putB rs n r) → Q (.str (ruleT r)) H'
theorem sc_rule_line : FnScope ["rules", "words", "name"] ["rules", "words"] (defScope s_rule_line) := ⟨rfl, rfl, rfl, by decide +kernel, rfl, by decide +kernel, by decide +kernel⟩
theorem dc_of {H : Hp} {q : Addr} {rs : Bk} (h : DcAt H q rs) : ∃ kvs, H q = some (.dK kvs) ∧ BkAt H kvs rs := h
theorem dc_write {H : Hp} {q : Addr} {rs : Bk} {kvs : List (Key × V)} {n : Str} {v : V} {r : Ru} (hq : H q = some (.dK kvs)) (b : BkAt H kvs rs) (nd : (rs.map Prod.fst).Nodup) (hv : RuAt H v r) :
    DcAt (upd H q (.dK (putK kvs (Sum.inr n) v))) q (putB rs n r) ∧ valV (putK kvs (Sum.inr n) v) (Sum.inr n) = some v ∧ RuAt (upd H q (.dK (putK kvs (Sum.inr n) v))) v r := by
  have u : SameU H (upd H q (.dK (putK kvs (Sum.inr n) v))) := u_put hq (fun _ z => by cases z) (fun _ _ z => by cases z)
  exact ⟨⟨_, upd_same, (bk_put0 hv b nd).u u⟩, by rw [valV_put, if_pos rfl], hv.u u⟩
theorem ok_rule_line (D : Df K mg "rule_line" s_rule_line) (cW : Cl P w K mg base CX0 2 "first_word" spFirstWord) (cR : Cl P w K mg base CX0 4 "rest_rule" spRestRule)
    (cT : Cl P w K mg base CX0 2 "rule_text" spRuleText) : Cl P w K mg base (L2.CX P w) 6 "rule_line" spRuleLine := by
  refine mkX D sc_rule_line (fun _ _ _ _ _ _ us hl => match us, hl with | [_, _], _ => rfl) (fun vs H Q E h => ?_) (fun f cdv A outer s H vs Q E hr h => ?_)
  · obtain ⟨q, a, rs, n, r, rfl, _⟩ := h
    rfl
  · obtain ⟨q, a, rs, n, r, rfl, hD, g, h900, hn, gr, ha, kQ⟩ := h
    have hu := hu_of hr
    refine ⟨_, pss_cons (ps_set (i := 2) sc_rule_line.nd rfl (Or.inl rfl) (pe_f cW hr (by decide) (by rfl) (pa_cons (pv 1) pa_nil)))
      (pss_cons (ps_dput hu (pv 0) (pv 2) (pe_f cR hr (by decide) (by rfl) (pa_cons (pe_slice (r := rSlL K) sl_list (pv 1) (po_some pe_int) po_none) pa_nil)) rfl)
      (pss_one (ps_ret (pe_f cT hr (by decide) (by rfl) (pa_cons (pe_dget hu (pv 0) (pv 2) (fun _ _ => rfl)) pa_nil))))), ?_⟩
    refine ⟨_, rfl, a, n, (ruleW r).map V.str, rfl, ha, hn, ?_⟩
    refine ⟨_, rfl, 1, rfl, a, _, rfl, SqL.of ha, fun p hp => ?_⟩
    have ep : cutV ((n :: ruleW r).map V.str) (some 1) none = (ruleW r).map V.str := cutV_drop _ 1
    have s0 : Same H (upd H p (.lst (cutV ((n :: ruleW r).map V.str) (some 1) none))) := same_upd hp
    refine ⟨p, r, rfl, by show upd _ _ _ _ = _; rw [upd_same, ep], gr, fun H1 v s1 hR => ?_⟩
    have sH1 : Same H H1 := s0.trans s1
    obtain ⟨kvs, hq, bk⟩ := hD.same sH1
    obtain ⟨hD2, hv, hR2⟩ := dc_write (n := n) hq bk g.nd hR
    refine ⟨_, rfl, _, rfl, q, _, rfl, DPut.k (k := Sum.inr n) hq (small1000 (by rw [pr_len bk]; omega)), ?_⟩
    have gt := DGet.k (H := upd H1 q (.dK (putK kvs (Sum.inr n) v))) (a := q) (k := Sum.inr n) upd_same
    rw [hv] at gt
    refine ⟨_, rfl, _, rfl, q, v, rfl, gt, v, r, rfl, hR2, gr, fun H' s' => kQ H' (((same_b sH1).trans sameB_upd).trans (same_b s')) (hD2.same s')⟩
def spAddLine (CN CR : Addr) : Sp := fun vs H Q E => ∃ (q a : Addr) (rs : Bk) (n : Str) (h : Ht), vs = [.ref q, .ref a] ∧ DcAt H q rs ∧ GB rs ∧ rs.length ≤ 900 ∧ Nm n ∧ GH h ∧ WsAt H a (n :: heapW h) ∧
  (lkB rs n = none → ENm CN n H E) ∧ ∀ r, lkB rs n = some r → (r.length = 6 → ∀ H', Same H H' → E (.ref CR) none H') ∧
    (r.length ≠ 6 → ∀ H', SameB q H H' → DcAt H' q (putB rs n (r ++ [h])) → Q (.str (ruleT (r ++ [h]))) H')
theorem sc_add_line : FnScope ["rules", "words", "name", "heap", "rule"] ["rules", "words"] (defScope s_add_line) := ⟨rfl, rfl, rfl, by decide +kernel, rfl, by decide +kernel, by decide +kernel⟩
theorem ok_add_line {CN CR : Addr} (B : Bi mg) (D : Df K mg "add_line" s_add_line) (eR : Er K mg "NoRule" CR) (cW : Cl P w K mg base CX0 2 "first_word" spFirstWord) (cH : Cl P w K mg base CX0 3 "rest_heap" spRestHeap)
    (cR : Cl P w K mg base (L2.CX P w) 3 "rule_at" (spRuleAt CN)) (cT : Cl P w K mg base CX0 2 "rule_text" spRuleText) : Cl P w K mg base (L2.CX P w) 6 "add_line" (spAddLine CN CR) := by
  refine mkX D sc_add_line (fun _ _ _ _ _ _ us hl => match us, hl with | [_, _], _ => rfl) (fun vs H Q E h => ?_) (fun f cdv A outer s H vs Q E hr h => ?_)
  · obtain ⟨q, a, rs, n, h, rfl, _⟩ := h
    rfl
  · obtain ⟨q, a, rs, n, h, rfl, hD, g, h900, hn, gh, ha, kE, kQ⟩ := h
    have hu := hu_of hr
    refine ⟨_, pss_cons (ps_set (i := 2) sc_add_line.nd rfl (Or.inl rfl) (pe_f cW hr (by decide) (by rfl) (pa_cons (pv 1) pa_nil)))
      (pss_cons (ps_set (i := 3) sc_add_line.nd rfl (Or.inl rfl) (pe_f cH hr (by decide) (by rfl) (pa_cons (pe_slice (r := rSlL K) sl_list (pv 1) (po_some pe_int) po_none) pa_nil)))
      (pss_cons (ps_set (i := 4) sc_add_line.nd rfl (Or.inl rfl) (pe_fX (E := E) cR hr (by decide) (takes_of rfl rfl rfl rfl) (fun _ _ _ _ h => h) (by rfl) (pa_cons (pv 0) (pa_cons (pv 2) pa_nil))))
      (pss_cons (ps_if (pt_cmpR op_eq (pe_callB call_len_seq (by rfl) B.len PySem.boot_len (pa_cons (pv 4) pa_nil)) pe_int (nomark _)) (pss_one (ps_rz rfl eR (takes_of rfl rfl rfl rfl) (by rfl))) pss_nil)
      (pss_cons (ps_dput hu (pv 0) (pv 2) (pe_op op_catA (pv 4) (pe_tup (pa_cons (pv 3) pa_nil))) rfl)
      (pss_one (ps_ret (pe_f cT hr (by decide) (by rfl) (pa_cons (pe_dget hu (pv 0) (pv 2) (fun _ _ => rfl)) pa_nil)))))))), ?_⟩
    refine ⟨_, rfl, a, n, (heapW h).map V.str, rfl, ha, hn, ?_⟩
    refine ⟨_, rfl, 1, rfl, a, _, rfl, SqL.of ha, fun p hp => ?_⟩
    have ep : cutV ((n :: heapW h).map V.str) (some 1) none = (heapW h).map V.str := cutV_drop _ 1
    have s0 : Same H (upd H p (.lst (cutV ((n :: heapW h).map V.str) (some 1) none))) := same_upd hp
    refine ⟨p, h, rfl, by show upd _ _ _ _ = _; rw [upd_same, ep], gh, fun H1 v s1 hH => ?_⟩
    have sH1 : Same H H1 := s0.trans s1
    refine ⟨_, rfl, _, rfl, q, n, rs, rfl, hD.same sH1, fun e => (kE e).same sH1, fun r u e hR => ?_⟩
    obtain ⟨kE2, kQ2⟩ := kQ r e
    have gr := g.lk e
    have few := gr.few
    obtain ⟨b, xs, rfl, hb, pr⟩ := id hR
    have lx := pr_len pr
    refine ⟨_, rfl, b, xs, rfl, .inr (SqT.of hb), rfl, _, rfl, ?_⟩
    by_cases h6 : r.length = 6
    · rw [lx, h6]
      exact iteT (kE2 h6 _ sH1)
    · have d1 : decide (V.int (xs.length : Nat) = V.int 6) = false := decide_eq_false fun z => h6 (by injection z with z; omega)
      rw [d1]
      refine iteF ?_
      refine ⟨_, rfl, _, rfl, (by show 1 ≤ sizeLine; decide), fun t ht => ?_⟩
      have s2 : Same H1 (upd H1 t (.tup [v])) := same_upd ht
      have fin : ∀ H3 v', Same H1 H3 → RuAt H3 v' (r ++ [h]) → ∃ (a_1 : Addr) (H4 : Hp), V.ref q = V.ref a_1 ∧ DPut H3 a_1 (V.str n) v' H4 ∧ tRet (tCall spRuleText [] E0 (tCons (tDGet (tVar 0) (tVar 2)) tNil)) { nx := fun _ H' => Q .non H', rt := Q } [some (.ref q), some (.ref a), some (.str n), some v, some (.ref b)] H4 := by
        intro H3 v' s3 hR3
        obtain ⟨kvs, hq, bk⟩ := hD.same (sH1.trans s3)
        obtain ⟨hD2, hv, hR2⟩ := dc_write (n := n) hq bk g.nd hR3
        have gt := DGet.k (H := upd H3 q (.dK (putK kvs (Sum.inr n) v'))) (a := q) (k := Sum.inr n) upd_same
        rw [hv] at gt
        exact ⟨q, _, rfl, DPut.k (k := Sum.inr n) hq (small1000 (by rw [pr_len bk]; omega)), _, rfl, _, rfl, q, v', rfl, gt, v', _, rfl, hR2, gr.app gh h6,
          fun H' s' => kQ2 h6 H' (((same_b (sH1.trans s3)).trans sameB_upd).trans (same_b s')) (hD2.same s')⟩
      refine ⟨b, t, xs, [v], rfl, rfl, SqT.of (s2 _ _ hb), SqT.of upd_same, by rw [sizeLine_eq, List.length_singleton]; omega, fun e0 => ?_, fun _ z => (by cases z), fun _ _ u hu' => ?_⟩
      · subst e0
        cases pr
        exact ⟨_, rfl, _, rfl, fin _ _ s2 ⟨t, [v], rfl, upd_same, .cons (hH.same s2) .nil⟩⟩
      · refine ⟨_, rfl, _, rfl, fin _ _ (same_upd' s2 hu') ⟨u, xs ++ [v], rfl, upd_same, ?_⟩⟩
        exact pr_app (L2.Paired.mapP pr fun _ _ q => q.same (same_upd' s2 hu')) (.cons (hH.same (same_upd' s2 hu')) .nil)
/-! ### take, copy, drop -/
def spTakeLine (CN CP : Addr) : Sp := fun vs H Q E => ∃ (q a : Addr) (rs : Bk) (n : Str) (i : Nat), vs = [.ref q, .ref a] ∧ DcAt H q rs ∧ GB rs ∧ rs.length ≤ 900 ∧ Nm n ∧ i ≤ 99 ∧ H a = some (.lst [.str n, .str (nS i)]) ∧
  (lkB rs n = none → ENm CN n H E) ∧ ∀ r, lkB rs n = some r → (r.length ≤ i → ∀ H', Same H H' → E (.ref CP) none H') ∧
    (i < r.length → ∀ H', SameB q H H' → DcAt H' q (putB rs n (r.take i ++ r.drop (i + 1))) → Q (.str (ruleT (r.take i ++ r.drop (i + 1)))) H')
theorem sc_take_line : FnScope ["rules", "words", "name", "number", "rule"] ["rules", "words"] (defScope s_take_line) := ⟨rfl, rfl, rfl, by decide +kernel, rfl, by decide +kernel, by decide +kernel⟩
theorem ok_take_line {CN CP : Addr} (B : Bi mg) (D : Df K mg "take_line" s_take_line) (eP : Er K mg "NoPlace" CP) (cM : Cl P w K mg base CX0 1 "hold_many" spHoldMany) (cN : Cl P w K mg base CX0 1 "read_name" spReadName) (cI : Cl P w K mg base CX0 1 "read_number" spReadNumber)
    (cR : Cl P w K mg base (L2.CX P w) 3 "rule_at" (spRuleAt CN)) (cT : Cl P w K mg base CX0 2 "rule_text" spRuleText) : Cl P w K mg base (L2.CX P w) 6 "take_line" (spTakeLine CN CP) := by
  refine mkX D sc_take_line (fun _ _ _ _ _ _ us hl => match us, hl with | [_, _], _ => rfl) (fun vs H Q E h => ?_) (fun f cdv A outer s H vs Q E hr h => ?_)
  · obtain ⟨q, a, rs, n, i, rfl, _⟩ := h
    rfl
  · obtain ⟨q, a, rs, n, i, rfl, hD, g, h900, hn, hi, ha, kE, kQ⟩ := h
    have hu := hu_of hr
    refine ⟨_, pss_cons (ps_expr (pe_f cM hr (by decide) (by rfl) (pa_cons (pv 1) (pa_cons pe_int pa_nil))))
      (pss_cons (ps_par (i := 2) (j := 3) rfl sc_take_line.nd rfl rfl (by decide) rfl rfl (pa_cons (pe_f cN hr (by decide) (by rfl) (pa_cons (pe_ix ix_list (pv 1) pe_int (fun _ _ => rfl)) pa_nil)) (pa_cons (pe_f cI hr (by decide) (by rfl) (pa_cons (pe_ix ix_list (pv 1) pe_int (fun _ _ => rfl)) pa_nil)) pa_nil)) (by rfl))
      (pss_cons (ps_set (i := 4) sc_take_line.nd rfl (Or.inl rfl) (pe_fX (E := E) cR hr (by decide) (takes_of rfl rfl rfl rfl) (fun _ _ _ _ h => h) (by rfl) (pa_cons (pv 0) (pa_cons (pv 2) pa_nil))))
      (pss_cons (ps_if (pt_cmpR op_ge (pv 3) (pe_callB call_len_seq (by rfl) B.len PySem.boot_len (pa_cons (pv 4) pa_nil)) (nomark _)) (pss_one (ps_rz rfl eP (takes_of rfl rfl rfl rfl) (by rfl))) pss_nil)
      (pss_cons (ps_dput hu (pv 0) (pv 2) (pe_op op_catA (pe_slice (r := rSlA K) sl_tupA (pv 4) po_none (po_some (pv 3))) (pe_slice (r := rSlA K) sl_tupA (pv 4) (po_some (pe_op op_add (pv 3) pe_int)) po_none)) rfl)
      (pss_one (ps_ret (pe_f cT hr (by decide) (by rfl) (pa_cons (pe_dget hu (pv 0) (pv 2) (fun _ _ => rfl)) pa_nil)))))))), ?_⟩
    refine ⟨_, rfl, a, _, rfl, ha, ?_⟩
    refine ⟨_, rfl, a, _, 0, _, rfl, rfl, SqL.of ha, atI_nat (j := 0) rfl, n, rfl, hn, _, rfl, a, _, 1, _, rfl, rfl, SqL.of ha, atI_nat (j := 1) rfl, (i : Int), rfl, by omega, by omega, _, _, rfl, ?_⟩
    refine ⟨_, rfl, _, rfl, q, n, rs, rfl, hD, kE, fun r u e hR => ?_⟩
    obtain ⟨kE2, kQ2⟩ := kQ r e
    have gr := g.lk e
    have few := gr.few
    obtain ⟨b, xs, rfl, hb, pr⟩ := id hR
    have lx := pr_len pr
    refine ⟨_, rfl, _, rfl, b, xs, rfl, .inr (SqT.of hb), _, _, rfl, rfl, _, rfl, ?_⟩
    by_cases hir : r.length ≤ i
    · have d1 : decide ((xs.length : Int) ≤ (i : Nat)) = true := decide_eq_true (by omega)
      rw [d1]
      exact iteT (kE2 hir _ (Same.refl H))
    · have d1 : decide ((xs.length : Int) ≤ (i : Nat)) = false := decide_eq_false (by omega)
      rw [d1]
      refine iteF ?_
      have hlt : i < r.length := by omega
      have kQ3 := kQ2 hlt
      have fin : ∀ H3 v', Same H H3 → RuAt H3 v' (r.take i ++ r.drop (i + 1)) → ∃ (a_1 : Addr) (H4 : Hp), V.ref q = V.ref a_1 ∧ DPut H3 a_1 (V.str n) v' H4 ∧ tRet (tCall spRuleText [] E0 (tCons (tDGet (tVar 0) (tVar 2)) tNil)) { nx := fun _ H' => Q .non H', rt := Q } [some (.ref q), some (.ref a), some (.str n), some (.int (i : Nat)), some (.ref b)] H4 := by
        intro H3 v' s3 hR3
        obtain ⟨kvs, hq, bk⟩ := hD.same s3
        obtain ⟨hD2, hv, hR2⟩ := dc_write (n := n) hq bk g.nd hR3
        have gt := DGet.k (H := upd H3 q (.dK (putK kvs (Sum.inr n) v'))) (a := q) (k := Sum.inr n) upd_same
        rw [hv] at gt
        exact ⟨q, _, rfl, DPut.k (k := Sum.inr n) hq (small1000 (by rw [pr_len bk]; omega)), _, rfl, _, rfl, q, v', rfl, gt, v', _, rfl, hR2, gr.cut i,
          fun H' s' => kQ3 H' (((same_b s3).trans sameB_upd).trans (same_b s')) (hD2.same s')⟩
      refine ⟨_, rfl, _, rfl, _, rfl, b, xs, rfl, SqT.of hb, fun z => ?_, fun _ t1 ht1 => ?_⟩
      · exfalso
        have z2 := z.2
        rw [HT.sIx_nat] at z2
        omega
      have s1 : Same H (upd H t1 (.tup (cutV xs none (some (i : Int))))) := same_upd ht1
      refine ⟨_, rfl, _, rfl, _, _, rfl, rfl, _, rfl, b, xs, rfl, SqT.of (s1 _ _ hb), fun z => ?_, fun _ t2 ht2 => ?_⟩
      · exfalso
        have z1 := z.1
        have e1 : ((i : Int) + 1) = ((i + 1 : Nat) : Int) := by omega
        rw [e1, HT.sIx_nat] at z1
        omega
      have s2 : Same (upd H t1 (.tup (cutV xs none (some (i : Int))))) (upd (upd H t1 (.tup (cutV xs none (some (i : Int))))) t2 (.tup (cutV xs (some ((i : Int) + 1)) none))) := same_upd ht2
      have e1 : cutV xs none (some (i : Int)) = xs.take i := cutV_take xs i
      have e2 : cutV xs (some ((i : Int) + 1)) none = xs.drop (i + 1) := cutV_drop xs (i + 1)
      have p1 := pr_take i pr
      have p2 := pr_drop (i + 1) pr
      clear s2
      rw [e1] at ht2
      rw [e1, e2]
      have s1' : Same H (upd H t1 (.tup (xs.take i))) := same_upd ht1
      have s2 : Same (upd H t1 (.tup (xs.take i))) (upd (upd H t1 (.tup (xs.take i))) t2 (.tup (xs.drop (i + 1)))) := same_upd ht2
      have h1 : (upd (upd H t1 (.tup (xs.take i))) t2 (.tup (xs.drop (i + 1))) : Hp) t1 = some (.tup (xs.take i)) := s2 _ _ upd_same
      have h2 : (upd (upd H t1 (.tup (xs.take i))) t2 (.tup (xs.drop (i + 1))) : Hp) t2 = some (.tup (xs.drop (i + 1))) := upd_same
      have s12 := s1'.trans s2
      refine ⟨t1, t2, _, _, rfl, rfl, SqT.of h1, SqT.of h2, by rw [sizeLine_eq, List.length_take, List.length_drop]; omega, fun z => ?_, fun _ z => ?_, fun _ _ t3 ht3 => ?_⟩
      · refine ⟨_, rfl, _, rfl, fin _ _ s12 ⟨t2, _, rfl, h2, ?_⟩⟩
        rw [z] at p1
        have : r.take i = [] := by
          cases hh : r.take i with
          | nil => rfl
          | cons x y => rw [hh] at p1; cases p1
        rw [this, List.nil_append]
        exact L2.Paired.mapP p2 fun _ _ q => q.same s12
      · refine ⟨_, rfl, _, rfl, fin _ _ s12 ⟨t1, _, rfl, h1, ?_⟩⟩
        rw [z] at p2
        have : r.drop (i + 1) = [] := by
          cases hh : r.drop (i + 1) with
          | nil => rfl
          | cons x y => rw [hh] at p2; cases p2
        rw [this, List.append_nil]
        exact L2.Paired.mapP p1 fun _ _ q => q.same s12
      · refine ⟨_, rfl, _, rfl, fin _ _ (same_upd' s12 ht3) ⟨t3, _, rfl, upd_same, ?_⟩⟩
        exact L2.Paired.mapP (pr_app p1 p2) fun _ _ q => q.same (same_upd' s12 ht3)
def spCopyLine (CN : Addr) : Sp := fun vs H Q E => ∃ (q a : Addr) (rs : Bk) (n m : Str), vs = [.ref q, .ref a] ∧ DcAt H q rs ∧ GB rs ∧ rs.length ≤ 900 ∧ Nm n ∧ Nm m ∧ H a = some (.lst [.str n, .str m]) ∧
  (lkB rs n = none → ENm CN n H E) ∧ ∀ r, lkB rs n = some r → ∀ H', SameB q H H' → DcAt H' q (putB rs m r) → Q (.str (ruleT r)) H'
theorem sc_copy_line : FnScope ["rules", "words", "name", "other"] ["rules", "words"] (defScope s_copy_line) := ⟨rfl, rfl, rfl, by decide +kernel, rfl, by decide +kernel, by decide +kernel⟩
theorem ok_copy_line {CN : Addr} (D : Df K mg "copy_line" s_copy_line) (cM : Cl P w K mg base CX0 1 "hold_many" spHoldMany) (cW : Cl P w K mg base CX0 2 "two_words" spTwoWords)
    (cR : Cl P w K mg base (L2.CX P w) 3 "rule_at" (spRuleAt CN)) (cT : Cl P w K mg base CX0 2 "rule_text" spRuleText) : Cl P w K mg base (L2.CX P w) 6 "copy_line" (spCopyLine CN) := by
  refine mkX D sc_copy_line (fun _ _ _ _ _ _ us hl => match us, hl with | [_, _], _ => rfl) (fun vs H Q E h => ?_) (fun f cdv A outer s H vs Q E hr h => ?_)
  · obtain ⟨q, a, rs, n, m, rfl, _⟩ := h
    rfl
  · obtain ⟨q, a, rs, n, m, rfl, hD, g, h900, hn, hm, ha, kE, kQ⟩ := h
    have hu := hu_of hr
    refine ⟨_, pss_cons (ps_expr (pe_f cM hr (by decide) (by rfl) (pa_cons (pv 1) (pa_cons pe_int pa_nil))))
      (pss_cons (ps_asg (pe_f cW hr (by decide) (by rfl) (pa_cons (pv 1) pa_nil)) (pg_tup rfl (pgs_cons (pg_name (i := 2) sc_copy_line.nd rfl (Or.inl rfl)) (pgs_cons (pg_name (i := 3) sc_copy_line.nd rfl (Or.inl rfl)) pgs_nil))))
      (pss_cons (ps_dput hu (pv 0) (pv 3) (pe_fX (E := E) cR hr (by decide) (takes_of rfl rfl rfl rfl) (fun _ _ _ _ h => h) (by rfl) (pa_cons (pv 0) (pa_cons (pv 2) pa_nil))) rfl)
      (pss_one (ps_ret (pe_f cT hr (by decide) (by rfl) (pa_cons (pe_dget hu (pv 0) (pv 3) (fun _ _ => rfl)) pa_nil)))))), ?_⟩
    refine ⟨_, rfl, a, _, rfl, ha, ?_⟩
    refine ⟨_, rfl, a, n, m, rfl, ha, hn, hm, fun p hp => ⟨p, _, rfl, SqT.of upd_same, rfl, _, _, rfl, _, _, rfl, rfl, ?_⟩⟩
    have s0 : Same H (upd H p (.tup [.str n, .str m])) := same_upd hp
    refine ⟨_, rfl, _, rfl, q, n, rs, rfl, hD.same s0, fun e => (kE e).same s0, fun r v e hR => ?_⟩
    obtain ⟨kvs, hq, bk⟩ := hD.same s0
    obtain ⟨hD2, hv, hR2⟩ := dc_write (n := m) hq bk g.nd hR
    refine ⟨_, rfl, _, rfl, q, _, rfl, DPut.k (k := Sum.inr m) hq (small1000 (by rw [pr_len bk]; omega)), ?_⟩
    generalize upd H p (.tup [.str n, .str m]) = H1 at s0 hq hD2 hR2 ⊢
    have gt := DGet.k (H := upd H1 q (.dK (putK kvs (Sum.inr m) v))) (a := q) (k := Sum.inr m) upd_same
    rw [hv] at gt
    exact ⟨_, rfl, _, rfl, q, v, rfl, gt, v, r, rfl, hR2, g.lk e, fun H' s' => kQ r e H' (((same_b s0).trans sameB_upd).trans (same_b s')) (hD2.same s')⟩
def spDropLine (CN : Addr) : Sp := fun vs H Q E => ∃ (q a : Addr) (rs : Bk) (n : Str), vs = [.ref q, .ref a] ∧ DcAt H q rs ∧ GB rs ∧ rs.length < 64 ∧ Nm n ∧ H a = some (.lst [.str n]) ∧
  (lkB rs n = none → ENm CN n H E) ∧ ∀ r, lkB rs n = some r → ∀ H', SameB q H H' → DcAt H' q (dropB rs n) → Q (.str (namesT (dropB rs n))) H'
theorem sc_drop_line : FnScope ["rules", "words", "name"] ["rules", "words"] (defScope s_drop_line) := ⟨rfl, rfl, rfl, by decide +kernel, rfl, by decide +kernel, by decide +kernel⟩
theorem ok_drop_line {CN : Addr} (D : Df K mg "drop_line" s_drop_line) (cM : Cl P w K mg base CX0 1 "hold_many" spHoldMany) (cN : Cl P w K mg base CX0 1 "read_name" spReadName)
    (cR : Cl P w K mg base (L2.CX P w) 3 "rule_at" (spRuleAt CN)) (cT : Cl P w K mg base CX0 1 "names_text" spNamesText) : Cl P w K mg base (L2.CX P w) 6 "drop_line" (spDropLine CN) := by
  refine mkX D sc_drop_line (fun _ _ _ _ _ _ us hl => match us, hl with | [_, _], _ => rfl) (fun vs H Q E h => ?_) (fun f cdv A outer s H vs Q E hr h => ?_)
  · obtain ⟨q, a, rs, n, rfl, _⟩ := h
    rfl
  · obtain ⟨q, a, rs, n, rfl, hD, g, h64, hn, ha, kE, kQ⟩ := h
    have hu := hu_of hr
    refine ⟨_, pss_cons (ps_expr (pe_f cM hr (by decide) (by rfl) (pa_cons (pv 1) (pa_cons pe_int pa_nil))))
      (pss_cons (ps_set (i := 2) sc_drop_line.nd rfl (Or.inl rfl) (pe_f cN hr (by decide) (by rfl) (pa_cons (pe_ix ix_list (pv 1) pe_int (fun _ _ => rfl)) pa_nil)))
      (pss_cons (ps_expr (pe_fX (E := E) cR hr (by decide) (takes_of rfl rfl rfl rfl) (fun _ _ _ _ h => h) (by rfl) (pa_cons (pv 0) (pa_cons (pv 2) pa_nil))))
      (pss_cons (ps_expr (pe_dpop1 (pv 0) (pv 2) ⟨rfl, rfl, rfl, rfl⟩))
      (pss_one (ps_ret (pe_f cT hr (by decide) (by rfl) (pa_cons (pv 0) pa_nil))))))), ?_⟩
    refine ⟨_, rfl, a, _, rfl, ha, ?_⟩
    refine ⟨_, rfl, a, _, 0, _, rfl, rfl, SqL.of ha, atI_nat (j := 0) rfl, n, rfl, hn, ?_⟩
    refine ⟨_, rfl, _, rfl, q, n, rs, rfl, hD, kE, fun r v e hR => ?_⟩
    obtain ⟨kvs, hq, bk⟩ := id hD
    have lk := bk_lk n bk
    rw [e] at lk
    obtain ⟨v', hv', _⟩ := lk
    refine ⟨_, rfl, q, rfl, .inl ⟨kvs, .inl hq⟩, _, rfl, kvs, Sum.inr n, v', hq, rfl, hv', ?_⟩
    have u : SameU H (upd H q (.dK (dropK kvs (Sum.inr n)))) := u_put hq (fun _ z => by cases z) (fun _ _ z => by cases z)
    have hD2 : DcAt (upd H q (.dK (dropK kvs (Sum.inr n)))) q (dropB rs n) := ⟨_, upd_same, (bk_drop n bk).u u⟩
    exact ⟨_, rfl, q, dropB rs n, rfl, hD2, g.drop n, by have := dropB_len n rs; omega, fun H' s' => kQ r e H' (sameB_upd.trans (same_b s')) (hD2.same s')⟩
end
end Kd
namespace Kd
open PySem PySem.Spec PyProof.Rows L2
/-! ## The desk in plain Lean: lines, answers, steps -/
inductive Ln where
  | rule (n : Str) (r : Ru)
  | add (n : Str) (h : Ht)
  | take (n : Str) (i : Nat)
  | copy (n m : Str)
  | drop (n : Str)
  | undo
  | again
  | names
  | shw (n : Str)
  | keeps (n : Str) (h : Ht)
  | mtch (n m : Str)
inductive An where
  | told (t : Str)
  | name (n : Str)
  | rule
  | place
  | many
  | nothing
structure Dk where
  held : Bk
  past : List Bk
  ahead : List Bk
def deedR (rs : Bk) : Ln → An × Bk
  | .rule n r => (.told (ruleT r), putB rs n r)
  | .add n h => match lkB rs n with
    | none => (.name n, rs)
    | some r => if r.length = 6 then (.rule, rs) else (.told (ruleT (r ++ [h])), putB rs n (r ++ [h]))
  | .take n i => match lkB rs n with
    | none => (.name n, rs)
    | some r => if r.length ≤ i then (.place, rs) else (.told (ruleT (r.take i ++ r.drop (i + 1))), putB rs n (r.take i ++ r.drop (i + 1)))
  | .copy n m => match lkB rs n with
    | none => (.name n, rs)
    | some r => (.told (ruleT r), putB rs m r)
  | .drop n => match lkB rs n with
    | none => (.name n, rs)
    | some _ => (.told (namesT (dropB rs n)), dropB rs n)
  | _ => (.nothing, rs)
def askR (rs : Bk) : Ln → An
  | .names => .told (namesT rs)
  | .shw n => match lkB rs n with
    | none => .name n
    | some r => .told (ruleT r)
  | .keeps n h => match lkB rs n with
    | none => .name n
    | some r => .told (keepT (firstIn r h))
  | .mtch n m => match lkB rs n with
    | none => .name n
    | some a => match lkB rs m with
      | none => .name m
      | some b => if a.length = b.length then .told (matchT (unlike a b)) else .many
  | _ => .nothing
def deedS (D : Dk) (l : Ln) : An × Dk := match deedR D.held l with
  | (.told t, rs) => (.told t, ⟨rs, D.past ++ [D.held], []⟩)
  | (a, _) => (a, D)
def backS (D : Dk) : An × Dk := match D.past[D.past.length - 1]? with
  | none => (.nothing, D)
  | some b => (.told (namesT b), ⟨b, D.past.take (D.past.length - 1), D.ahead ++ [D.held]⟩)
def onS (D : Dk) : An × Dk := match D.ahead[D.ahead.length - 1]? with
  | none => (.nothing, D)
  | some b => (.told (namesT b), ⟨b, D.past ++ [D.held], D.ahead.take (D.ahead.length - 1)⟩)
def stepD (D : Dk) : Ln → An × Dk
  | .undo => backS D
  | .again => onS D
  | .names => (askR D.held .names, D)
  | .shw n => (askR D.held (.shw n), D)
  | .keeps n h => (askR D.held (.keeps n h), D)
  | .mtch n m => (askR D.held (.mtch n m), D)
  | l => deedS D l
def keyW : Ln → Str
  | .rule _ _ => "rule"
  | .add _ _ => "add"
  | .take _ _ => "take"
  | .copy _ _ => "copy"
  | .drop _ => "drop"
  | .undo => "undo"
  | .again => "again"
  | .names => "names"
  | .shw _ => "show"
  | .keeps _ _ => "keeps"
  | .mtch _ _ => "match"
def restW : Ln → List Str
  | .rule n r => n :: ruleW r
  | .add n h => n :: heapW h
  | .take n i => [n, nS i]
  | .copy n m => [n, m]
  | .drop n => [n]
  | .undo => []
  | .again => []
  | .names => []
  | .shw n => [n]
  | .keeps n h => n :: heapW h
  | .mtch n m => [n, m]
def lineT (l : Ln) : Str := Txt.join sp (keyW l :: restW l)
def GL : Ln → Prop
  | .rule n r => Nm n ∧ GR r
  | .add n h => Nm n ∧ GH h
  | .take n i => Nm n ∧ i ≤ 99
  | .copy n m => Nm n ∧ Nm m
  | .drop n => Nm n
  | .shw n => Nm n
  | .keeps n h => Nm n ∧ GH h
  | .mtch n m => Nm n ∧ Nm m
  | _ => True
theorem kw_rule : Wd "rule" ∧ ("rule" : Str).length ≤ 31 := by unfold Wd; decide +kernel
theorem kw_add : Wd "add" ∧ ("add" : Str).length ≤ 31 := by unfold Wd; decide +kernel
theorem kw_take : Wd "take" ∧ ("take" : Str).length ≤ 31 := by unfold Wd; decide +kernel
theorem kw_copy : Wd "copy" ∧ ("copy" : Str).length ≤ 31 := by unfold Wd; decide +kernel
theorem kw_drop : Wd "drop" ∧ ("drop" : Str).length ≤ 31 := by unfold Wd; decide +kernel
theorem kw_undo : Wd "undo" ∧ ("undo" : Str).length ≤ 31 := by unfold Wd; decide +kernel
theorem kw_again : Wd "again" ∧ ("again" : Str).length ≤ 31 := by unfold Wd; decide +kernel
theorem kw_names : Wd "names" ∧ ("names" : Str).length ≤ 31 := by unfold Wd; decide +kernel
theorem kw_shw : Wd "show" ∧ ("show" : Str).length ≤ 31 := by unfold Wd; decide +kernel
theorem kw_keeps : Wd "keeps" ∧ ("keeps" : Str).length ≤ 31 := by unfold Wd; decide +kernel
theorem kw_mtch : Wd "match" ∧ ("match" : Str).length ≤ 31 := by unfold Wd; decide +kernel
theorem key_ok : ∀ l : Ln, Wd (keyW l) ∧ (keyW l).length ≤ 31
  | .rule _ _ => kw_rule
  | .add _ _ => kw_add
  | .take _ _ => kw_take
  | .copy _ _ => kw_copy
  | .drop _ => kw_drop
  | .undo  => kw_undo
  | .again  => kw_again
  | .names  => kw_names
  | .shw _ => kw_shw
  | .keeps _ _ => kw_keeps
  | .mtch _ _ => kw_mtch
theorem wd_key (l : Ln) : Wd (keyW l) := (key_ok l).1
theorem key_len (l : Ln) : (keyW l).length ≤ 31 := (key_ok l).2
theorem rest_ok {l : Ln} (g : GL l) : (∀ x ∈ restW l, Wd x ∧ x.length ≤ 31) ∧ (restW l).length ≤ 100 := by
  have nm : ∀ {n : Str}, Nm n → Wd n ∧ n.length ≤ 31 := fun h => ⟨h.wd, by have := h.few; omega⟩
  have two : ∀ {n m : Str}, (Wd n ∧ n.length ≤ 31) → (Wd m ∧ m.length ≤ 31) → ∀ x ∈ [n, m], Wd x ∧ x.length ≤ 31 := fun a b x hx => by
    rcases List.mem_cons.mp hx with rfl | q
    · exact a
    · rw [List.mem_singleton.mp q]; exact b
  cases l with
  | rule n r =>
    obtain ⟨h1, h2⟩ := g
    refine ⟨fun x hx => ?_, ?_⟩
    · rcases List.mem_cons.mp hx with rfl | q
      · exact nm h1
      · exact ⟨wd_ruleW h2.all x q, ruleW_len h2.all x q⟩
    · have := ruleW_few h2.all
      have := h2.few
      show (n :: ruleW r).length ≤ 100
      rw [List.length_cons]
      omega
  | add n h =>
    obtain ⟨h1, h2⟩ := g
    refine ⟨fun x hx => ?_, ?_⟩
    · rcases List.mem_cons.mp hx with rfl | q
      · exact nm h1
      · exact ⟨wd_heapW h2 x q, heapW_len h2 x q⟩
    · have := heapW_few h2
      show (n :: heapW h).length ≤ 100
      rw [List.length_cons]
      omega
  | take n i => exact ⟨two (nm g.1) ⟨wd_num (by omega), num_len (by omega) (by have := g.2; omega)⟩, by show 2 ≤ 100; decide⟩
  | copy n m => exact ⟨two (nm g.1) (nm g.2), by show 2 ≤ 100; decide⟩
  | drop n => exact ⟨fun x hx => by rw [List.mem_singleton.mp hx]; exact nm g, by show 1 ≤ 100; decide⟩
  | undo => exact ⟨fun x hx => (by cases hx), by show 0 ≤ 100; decide⟩
  | again => exact ⟨fun x hx => (by cases hx), by show 0 ≤ 100; decide⟩
  | names => exact ⟨fun x hx => (by cases hx), by show 0 ≤ 100; decide⟩
  | shw n => exact ⟨fun x hx => by rw [List.mem_singleton.mp hx]; exact nm g, by show 1 ≤ 100; decide⟩
  | keeps n h =>
    obtain ⟨h1, h2⟩ := g
    refine ⟨fun x hx => ?_, ?_⟩
    · rcases List.mem_cons.mp hx with rfl | q
      · exact nm h1
      · exact ⟨wd_heapW h2 x q, heapW_len h2 x q⟩
    · have := heapW_few h2
      show (n :: heapW h).length ≤ 100
      rw [List.length_cons]
      omega
  | mtch n m => exact ⟨two (nm g.1) (nm g.2), by show 2 ≤ 100; decide⟩
theorem line_ok {l : Ln} (g : GL l) : (∀ x ∈ keyW l :: restW l, Wd x) ∧ (lineT l).length ≤ 1000000 := by
  obtain ⟨h1, h2⟩ := rest_ok g
  refine ⟨fun x hx => ?_, ?_⟩
  · rcases List.mem_cons.mp hx with rfl | q
    · exact wd_key l
    · exact (h1 x q).1
  · have := join_len (y := sp) (ws := keyW l :: restW l) (k := 31) fun x hx => by
      rcases List.mem_cons.mp hx with rfl | q
      · exact key_len l
      · exact (h1 x q).2
    rw [List.length_cons, show sp.length = 1 from len_sp] at this
    unfold lineT
    omega
/-- what a desk holds stays good -/
structure DkOk (D : Dk) (k : Nat) : Prop where
  held : GB D.held ∧ D.held.length ≤ k
  past : ∀ b ∈ D.past, GB b ∧ b.length ≤ k
  ahead : ∀ b ∈ D.ahead, GB b ∧ b.length ≤ k
  few : D.past.length + D.ahead.length ≤ k
/-! ### the desk in the heap -/
def fsD (h pl al : Addr) : List (Str × V) := [("held", .ref h), ("past", .ref pl), ("ahead", .ref al)]
theorem fsD_held {h pl al : Addr} : (fsD h pl al).lookup ("held" : Str) = some (.ref h) := by rfl
theorem fsD_past {h pl al : Addr} : (fsD h pl al).lookup ("past" : Str) = some (.ref pl) := by rfl
theorem fsD_ahead {h pl al : Addr} : (fsD h pl al).lookup ("ahead" : Str) = some (.ref al) := by rfl
theorem put_held {h pl al h' : Addr} : putF ("held" : Str) (.ref h') (fsD h pl al) = fsD h' pl al := by
  unfold fsD putF
  rw [if_pos rfl]
theorem put_ahead {h pl al al' : Addr} : putF ("ahead" : Str) (.ref al') (fsD h pl al) = fsD h pl al' := by
  unfold fsD putF
  rw [if_neg (by decide +kernel)]
  unfold putF
  rw [if_neg (by decide +kernel)]
  unfold putF
  rw [if_pos rfl]
structure DkSt (H : Hp) (C p pl al : Addr) (D : Dk) : Prop where
  ins : ∃ dx h, H p = some (.ins C dx (fsD h pl al)) ∧ DcAt H h D.held
  past : ∃ ps : List Addr, H pl = some (.lst (ps.map V.ref)) ∧ Paired (DcAt H) ps D.past
  ahead : ∃ ls : List Addr, H al = some (.lst (ls.map V.ref)) ∧ Paired (DcAt H) ls D.ahead
  ne : pl ≠ al
/-- all but lists and instances stays -/
def SameK (H H' : Hp) : Prop := ∀ b o, H b = some o → (∀ xs, o ≠ .lst xs) → (∀ C dx fs, o ≠ .ins C dx fs) → H' b = some o
theorem same_k {H H' : Hp} (s : Same H H') : SameK H H' := fun b o h _ _ => s b o h
theorem SameK.trans {H H1 H2 : Hp} (a : SameK H H1) (b : SameK H1 H2) : SameK H H2 := fun c o h n m => b c o (a c o h n m) n m
theorem k_lst {H : Hp} {L : Addr} {xs : List V} {o : HO} (h : H L = some (.lst xs)) : SameK H (upd H L o) := fun b u hb n _ => by
  rw [upd_ne (ne_of hb h (n xs))]
  exact hb
theorem k_ins {H : Hp} {L C dx : Addr} {fs : List (Str × V)} {o : HO} (h : H L = some (.ins C dx fs)) : SameK H (upd H L o) := fun b u hb _ m => by
  rw [upd_ne (ne_of hb h (m C dx fs))]
  exact hb
theorem DcAt.k {H H' : Hp} {q : Addr} {rs : Bk} (s : SameK H H') (x : DcAt H q rs) : DcAt H' q rs := by
  obtain ⟨kvs, h, b⟩ := x
  refine ⟨kvs, s _ _ h (fun _ z => by cases z) (fun _ _ _ z => by cases z), b.u fun b o hb z => s b o hb (fun xs e => ?_) (fun C dx fs e => ?_)⟩
  · subst e
    rcases z with ⟨_, z⟩ | ⟨_, _, z⟩ <;> cases z
  · subst e
    rcases z with ⟨_, z⟩ | ⟨_, _, z⟩ <;> cases z
theorem DkSt.same {H H' : Hp} {C p pl al : Addr} {D : Dk} (s : Same H H') (x : DkSt H C p pl al D) : DkSt H' C p pl al D := by
  obtain ⟨⟨dx, h, h1, h2⟩, ⟨ps, h3, h4⟩, ⟨ls, h5, h6⟩, ne⟩ := x
  exact ⟨⟨dx, h, s _ _ h1, h2.same s⟩, ⟨ps, s _ _ h3, L2.Paired.mapP h4 fun _ _ q => q.same s⟩, ⟨ls, s _ _ h5, L2.Paired.mapP h6 fun _ _ q => q.same s⟩, ne⟩
def Keep3 (p pl al : Addr) (H H' : Hp) : Prop := ∀ b o, b ≠ p → b ≠ pl → b ≠ al → H b = some o → H' b = some o
theorem Keep3.trans {p pl al : Addr} {H H1 H2 : Hp} (a : Keep3 p pl al H H1) (b : Keep3 p pl al H1 H2) : Keep3 p pl al H H2 := fun c o x y z h => b c o x y z (a c o x y z h)
theorem keep_same {p pl al : Addr} {H H' : Hp} (s : Same H H') : Keep3 p pl al H H' := fun b o _ _ _ h => s b o h
theorem keep_p {p pl al : Addr} {H : Hp} {o : HO} : Keep3 p pl al H (upd H p o) := fun b u h1 _ _ h => by rw [upd_ne h1]; exact h
theorem keep_pl {p pl al : Addr} {H : Hp} {o : HO} : Keep3 p pl al H (upd H pl o) := fun b u _ h1 _ h => by rw [upd_ne h1]; exact h
theorem keep_al {p pl al : Addr} {H : Hp} {o : HO} : Keep3 p pl al H (upd H al o) := fun b u _ _ h1 h => by rw [upd_ne h1]; exact h
/-! ### what refusals let out -/
structure Ec where
  n : Addr
  r : Addr
  p : Addr
  m : Addr
  t : Addr
def EAn (e : Ec) : An → Hp → XK → Prop
  | .told _, _, _ => True
  | .name n, H, E => ENm e.n n H E
  | .rule, H, E => ∀ H', Same H H' → E (.ref e.r) none H'
  | .place, H, E => ∀ H', Same H H' → E (.ref e.p) none H'
  | .many, H, E => ∀ H', Same H H' → E (.ref e.m) none H'
  | .nothing, H, E => ∀ H', Same H H' → E (.ref e.t) none H'
theorem EAn.same {e : Ec} {a : An} {H H1 : Hp} {E : XK} (s : Same H H1) (h : EAn e a H E) : EAn e a H1 E := by
  cases a with
  | told t => trivial
  | name n => exact ENm.same s h
  | rule => exact fun H' s' => h H' (s.trans s')
  | place => exact fun H' s' => h H' (s.trans s')
  | many => exact fun H' s' => h H' (s.trans s')
  | nothing => exact fun H' s' => h H' (s.trans s')
end Kd
namespace Kd
open PySem PySem.Spec PyProof.Rows L2
section
variable {P : Program} {w : World} {K : PySem.W.Frag} {mg : Str → Option Value} {base : Heap}
/-! ## The class Desk -/
structure Md (K : PySem.W.Frag) (C : Addr) (x qual : Str) (st : Stmt) (f : Addr) (fd : FuncData) : Prop where
  fun_ : FunD K x qual (defArgs st) (defBody st) (defScope st) [] [] f fd
  meth : Meth K C x f
structure DkC (K : PySem.W.Frag) (mg : Str → Option Value) (C : Addr) : Prop where
  cls : Cls K C
  n1 : NoAttr K C "held"
  n2 : NoAttr K C "past"
  n3 : NoAttr K C "ahead"
  ini : ∃ (f : Addr) (fd : FuncData), FunD K "__init__" "Desk.__init__" (defArgs s_desk_init) (defBody s_desk_init) (defScope s_desk_init) [] [] f fd ∧ Mk K C f
  tell : ∃ (f : Addr) (fd : FuncData), Md K C "tell" "Desk.tell" s_desk_tell f fd
  back : ∃ (f : Addr) (fd : FuncData), Md K C "one_back" "Desk.one_back" s_desk_one_back f fd
  on : ∃ (f : Addr) (fd : FuncData), Md K C "one_on" "Desk.one_on" s_desk_one_on f fd
  g : mg "Desk" = some (.ref C)
def Outc (e : Ec) (C p pl al : Addr) (H : Hp) (Q : VK) (E : XK) (r : An × Dk) : Prop :=
  (∀ t, r.1 = .told t → ∀ H' al', Keep3 p pl al H H' → DkSt H' C p pl al' r.2 → (al' = al ∨ H al' = none) → Q (.str t) H') ∧ ((∀ t, r.1 ≠ .told t) → EAn e r.1 H E)
/-! ### __init__ -/
def spDeskInit (C : Addr) : Sp := fun vs H Q _ => ∃ (p dx : Addr), vs = [.ref p] ∧ H p = some (.ins C dx []) ∧ ∀ H' pl al, Keep3 p pl al H H' → H pl = none → H al = none → DkSt H' C p pl al ⟨[], [], []⟩ → Q .non H'
theorem sc_desk_init : FnScope ["self"] ["self"] (defScope s_desk_init) := ⟨rfl, rfl, rfl, by decide +kernel, rfl, by decide +kernel, by decide +kernel⟩
theorem ok_desk_init {C f : Addr} {fd : FuncData} (KC : DkC K mg C) (F : FunD K "__init__" "Desk.__init__" (defArgs s_desk_init) (defBody s_desk_init) (defScope s_desk_init) [] [] f fd) :
    FnOk P w K mg base CX0 1 f fd ["self"] (spDeskInit C) := by
  refine F.ok sc_desk_init (fun vs H Q E h => ?_) (fun cdv A outer s H vs Q E hr h => ?_)
  · obtain ⟨p, dx, rfl, _⟩ := h
    rfl
  · obtain ⟨p, dx, rfl, hp, k⟩ := h
    refine ⟨_, pss_cons (ps_fld (pv 0) pe_dnewK rfl) (pss_cons (ps_fld (pv 0) (pe_lst pa_nil) rfl) (pss_one (ps_fld (pv 0) (pe_lst pa_nil) rfl))), ?_⟩
    intro h hh
    have np : p ≠ h := ne_of_none hp hh
    refine ⟨_, rfl, p, C, dx, [], rfl, by rw [upd_ne np]; exact hp, KC.cls, KC.n1, by decide, Nat.zero_le _, fun pl hpl => ?_⟩
    have npl : p ≠ pl := fun z => by rw [z, upd_same] at hpl; cases hpl
    have hpl1 : (upd H h (.dK []) : Hp) pl = none := by rw [upd_ne npl.symm] at hpl; exact hpl
    have nhl : h ≠ pl := fun z => by rw [z, upd_same] at hpl1; cases hpl1
    have hpl0 : H pl = none := by rw [upd_ne nhl.symm] at hpl1; exact hpl1
    refine ⟨_, rfl, p, C, dx, _, rfl, by rw [upd_ne npl, upd_same], KC.cls, KC.n2, (by show 1 < 1000; decide), Nat.zero_le _, fun al hal => ?_⟩
    have nal : p ≠ al := fun z => by rw [z, upd_same] at hal; cases hal
    rw [upd_ne nal.symm] at hal
    have nll : pl ≠ al := fun z => by rw [z, upd_same] at hal; cases hal
    rw [upd_ne nll.symm, upd_ne nal.symm] at hal
    have nha : h ≠ al := fun z => by rw [z, upd_same] at hal; cases hal
    have hal0 : H al = none := by rw [upd_ne nha.symm] at hal; exact hal
    refine ⟨_, rfl, p, C, dx, _, rfl, by rw [upd_ne nal, upd_same], KC.cls, KC.n3, (by show 2 < 1000; decide), ?_⟩
    refine k _ pl al ?_ hpl0 hal0 ⟨⟨dx, h, upd_same, [], ?_, .nil⟩, ⟨[], ?_, .nil⟩, ⟨[], ?_, .nil⟩, nll⟩
    · intro b o b1 b2 b3 hb
      rw [upd_ne b1, upd_ne b3, upd_ne b1, upd_ne b2, upd_ne b1, upd_ne (ne_of_none hb hh)]
      exact hb
    · rw [upd_ne np.symm, upd_ne nha, upd_ne np.symm, upd_ne nhl, upd_ne np.symm, upd_same]
    · rw [upd_ne npl.symm, upd_ne nll, upd_ne npl.symm, upd_same]
      rfl
    · rw [upd_ne nal.symm, upd_same]
      rfl
/-! ### one_back, one_on -/
theorem pr_init {α β : Type} {F : α → β → Prop} {xs : List α} {ys : List β} (p : Paired F xs ys) : Paired F xs.dropLast (ys.take (ys.length - 1)) := by
  rw [List.dropLast_eq_take, pr_len p]
  exact pr_take _ p
def spBack (e : Ec) (C : Addr) (S : Dk → An × Dk) : Sp := fun vs H Q E => ∃ (p pl al : Addr) (D : Dk), vs = [.ref p] ∧ DkSt H C p pl al D ∧ DkOk D 60 ∧ Outc e C p pl al H Q E (S D)
theorem sc_desk_one_back : FnScope ["self"] ["self"] (defScope s_desk_one_back) := ⟨rfl, rfl, rfl, by decide +kernel, rfl, by decide +kernel, by decide +kernel⟩
theorem ok_desk_one_back {e : Ec} {C f : Addr} {fd : FuncData} (KC : DkC K mg C) (eT : Er K mg "NothingLeft" e.t) (cN : Cl P w K mg base CX0 1 "names_text" spNamesText)
    (F : FunD K "one_back" "Desk.one_back" (defArgs s_desk_one_back) (defBody s_desk_one_back) (defScope s_desk_one_back) [] [] f fd) :
    FnOk P w K mg base (L2.CX P w) 3 f fd ["self"] (spBack e C backS) := by
  refine F.ok sc_desk_one_back (fun vs H Q E h => ?_) (fun cdv A outer s H vs Q E hr h => ?_)
  · obtain ⟨p, pl, al, D, rfl, _⟩ := h
    rfl
  · obtain ⟨p, pl, al, D, rfl, ⟨⟨dx, h, hp, hh⟩, ⟨ps, hpl, pp⟩, ⟨ls, hal, pa⟩, ne⟩, ok, kT, kE⟩ := h
    refine ⟨_, pss_cons (ps_if (pt_not (pt_truth (pe_fld (pv 0) rfl) (by intro _; rfl))) (pss_one (ps_rz rfl eT (takes_of rfl rfl rfl rfl) (by rfl))) pss_nil)
      (pss_cons (ps_expr (pe_bm PySem.F.plainAttrs_list PySem.F.slot_list_append PySem.F.type_list_append mt_append (pe_fld (pv 0) rfl) (pa_cons (pe_fld (pv 0) rfl) pa_nil)))
      (pss_cons (ps_fld (pv 0) (pe_bm0 PySem.F.plainAttrs_list PySem.F.slot_list_pop PySem.F.type_list_pop mt_pop (pe_fld (pv 0) rfl)) rfl)
      (pss_one (ps_ret (pe_f cN hr (by decide) (by rfl) (pa_cons (pe_fld (pv 0) rfl) pa_nil)))))), ?_⟩
    refine ⟨_, rfl, p, C, dx, _, _, rfl, hp, KC.cls, KC.n2, fsD_past, !(ps.map V.ref).isEmpty, .inl ⟨_, SqL.of hpl, rfl⟩, ?_⟩
    have lp := pr_len pp
    unfold backS at kT kE
    cases eb : D.past[D.past.length - 1]? with
    | none =>
      rw [eb] at kT kE
      have z : D.past = [] := by
        cases hd : D.past with
        | nil => rfl
        | cons x r =>
          rw [hd, List.getElem?_eq_none_iff, List.length_cons] at eb
          omega
      rw [z] at lp
      have z2 : ps = [] := List.length_eq_zero_iff.mp lp
      subst z2
      exact iteT (kE (fun t q => by cases q) H (Same.refl H))
    | some b =>
      rw [eb] at kT kE
      obtain ⟨hb, ehb, hB⟩ := pr_get' pp eb
      have hne : (ps.map V.ref).isEmpty = false := by
        cases ps with
        | nil => cases ehb
        | cons x r => rfl
      rw [hne]
      refine iteF ?_
      have kT := kT _ rfl
      have la := pr_len pa
      have few := ok.few
      have pnl : p ≠ pl := ne_of hp hpl (by intro z; cases z)
      have pna : p ≠ al := ne_of hp hal (by intro z; cases z)
      refine ⟨_, rfl, p, C, dx, _, _, rfl, hp, KC.cls, KC.n3, fsD_ahead, .inl ⟨rfl, _, SqL.of hal⟩, _, rfl, p, C, dx, _, _, rfl, hp, KC.cls, KC.n1, fsD_held, al, _, _, rfl, rfl, hal, small1000 (by rw [List.length_map]; omega), ?_⟩
      have k1 : SameK H (upd H al (.lst (ls.map V.ref ++ [.ref h]))) := k_lst hal
      have hpl1 : (upd H al (.lst (ls.map V.ref ++ [.ref h])) : Hp) pl = some (.lst (ps.map V.ref)) := by rw [upd_ne ne]; exact hpl
      have hp1 : (upd H al (.lst (ls.map V.ref ++ [.ref h])) : Hp) p = some (.ins C dx (fsD h pl al)) := by rw [upd_ne pna]; exact hp
      have last : (ps.map V.ref)[(ps.map V.ref).length - 1]? = some (.ref hb) := by rw [List.length_map, List.getElem?_map, lp, ehb]; rfl
      refine ⟨_, rfl, p, C, dx, _, _, rfl, hp1, KC.cls, KC.n2, fsD_past, .inl ⟨rfl, _, SqL.of hpl1⟩, pl, _, _, rfl, rfl, hpl1, last, ?_⟩
      have k2 := k_lst (o := .lst (ps.map V.ref).dropLast) hpl1
      have hp2 : (upd (upd H al (.lst (ls.map V.ref ++ [.ref h]))) pl (.lst (ps.map V.ref).dropLast) : Hp) p = some (.ins C dx (fsD h pl al)) := by rw [upd_ne pnl]; exact hp1
      refine ⟨_, rfl, p, C, dx, _, rfl, hp2, KC.cls, KC.n1, by show 3 < 1000; decide, ?_⟩
      rw [put_held]
      have k3 := k_ins (o := .ins C dx (fsD hb pl al)) hp2
      have kk := (k1.trans k2).trans k3
      have hB3 := hB.k kk
      refine ⟨_, rfl, p, C, dx, _, _, rfl, upd_same, KC.cls, KC.n1, fsD_held, hb, b, rfl, hB3, (ok.past b (List.mem_of_getElem? eb)).1, by have := (ok.past b (List.mem_of_getElem? eb)).2; omega, fun H' s' => ?_⟩
      refine kT H' al (((keep_al.trans keep_pl).trans keep_p).trans (keep_same s')) (DkSt.same s' ⟨⟨dx, hb, upd_same, hB3⟩, ⟨ps.dropLast, ?_, ?_⟩, ⟨ls ++ [h], ?_, ?_⟩, ne⟩) (.inl rfl)
      · rw [upd_ne pnl.symm, upd_same, List.map_dropLast]
      · exact L2.Paired.mapP (pr_init pp) fun _ _ q => q.k kk
      · rw [upd_ne pna.symm, upd_ne ne.symm, upd_same, List.map_append]
        rfl
      · exact L2.Paired.mapP (pr_app pa (.cons hh .nil)) fun _ _ q => q.k kk
theorem sc_desk_one_on : FnScope ["self"] ["self"] (defScope s_desk_one_on) := ⟨rfl, rfl, rfl, by decide +kernel, rfl, by decide +kernel, by decide +kernel⟩
theorem ok_desk_one_on {e : Ec} {C f : Addr} {fd : FuncData} (KC : DkC K mg C) (eT : Er K mg "NothingLeft" e.t) (cN : Cl P w K mg base CX0 1 "names_text" spNamesText)
    (F : FunD K "one_on" "Desk.one_on" (defArgs s_desk_one_on) (defBody s_desk_one_on) (defScope s_desk_one_on) [] [] f fd) :
    FnOk P w K mg base (L2.CX P w) 3 f fd ["self"] (spBack e C onS) := by
  refine F.ok sc_desk_one_on (fun vs H Q E h => ?_) (fun cdv A outer s H vs Q E hr h => ?_)
  · obtain ⟨p, pl, al, D, rfl, _⟩ := h
    rfl
  · obtain ⟨p, pl, al, D, rfl, ⟨⟨dx, h, hp, hh⟩, ⟨ps, hpl, pp⟩, ⟨ls, hal, pa⟩, ne⟩, ok, kT, kE⟩ := h
    refine ⟨_, pss_cons (ps_if (pt_not (pt_truth (pe_fld (pv 0) rfl) (by intro _; rfl))) (pss_one (ps_rz rfl eT (takes_of rfl rfl rfl rfl) (by rfl))) pss_nil)
      (pss_cons (ps_expr (pe_bm PySem.F.plainAttrs_list PySem.F.slot_list_append PySem.F.type_list_append mt_append (pe_fld (pv 0) rfl) (pa_cons (pe_fld (pv 0) rfl) pa_nil)))
      (pss_cons (ps_fld (pv 0) (pe_bm0 PySem.F.plainAttrs_list PySem.F.slot_list_pop PySem.F.type_list_pop mt_pop (pe_fld (pv 0) rfl)) rfl)
      (pss_one (ps_ret (pe_f cN hr (by decide) (by rfl) (pa_cons (pe_fld (pv 0) rfl) pa_nil)))))), ?_⟩
    refine ⟨_, rfl, p, C, dx, _, _, rfl, hp, KC.cls, KC.n3, fsD_ahead, !(ls.map V.ref).isEmpty, .inl ⟨_, SqL.of hal, rfl⟩, ?_⟩
    have la := pr_len pa
    unfold onS at kT kE
    cases eb : D.ahead[D.ahead.length - 1]? with
    | none =>
      rw [eb] at kT kE
      have z : D.ahead = [] := by
        cases hd : D.ahead with
        | nil => rfl
        | cons x r =>
          rw [hd, List.getElem?_eq_none_iff, List.length_cons] at eb
          omega
      rw [z] at la
      have z2 : ls = [] := List.length_eq_zero_iff.mp la
      subst z2
      exact iteT (kE (fun t q => by cases q) H (Same.refl H))
    | some b =>
      rw [eb] at kT kE
      obtain ⟨hb, ehb, hB⟩ := pr_get' pa eb
      have hne : (ls.map V.ref).isEmpty = false := by
        cases ls with
        | nil => cases ehb
        | cons x r => rfl
      rw [hne]
      refine iteF ?_
      have kT := kT _ rfl
      have lp := pr_len pp
      have few := ok.few
      have pnl : p ≠ pl := ne_of hp hpl (by intro z; cases z)
      have pna : p ≠ al := ne_of hp hal (by intro z; cases z)
      refine ⟨_, rfl, p, C, dx, _, _, rfl, hp, KC.cls, KC.n2, fsD_past, .inl ⟨rfl, _, SqL.of hpl⟩, _, rfl, p, C, dx, _, _, rfl, hp, KC.cls, KC.n1, fsD_held, pl, _, _, rfl, rfl, hpl, small1000 (by rw [List.length_map]; omega), ?_⟩
      have k1 : SameK H (upd H pl (.lst (ps.map V.ref ++ [.ref h]))) := k_lst hpl
      have hal1 : (upd H pl (.lst (ps.map V.ref ++ [.ref h])) : Hp) al = some (.lst (ls.map V.ref)) := by rw [upd_ne ne.symm]; exact hal
      have hp1 : (upd H pl (.lst (ps.map V.ref ++ [.ref h])) : Hp) p = some (.ins C dx (fsD h pl al)) := by rw [upd_ne pnl]; exact hp
      have last : (ls.map V.ref)[(ls.map V.ref).length - 1]? = some (.ref hb) := by rw [List.length_map, List.getElem?_map, la, ehb]; rfl
      refine ⟨_, rfl, p, C, dx, _, _, rfl, hp1, KC.cls, KC.n3, fsD_ahead, .inl ⟨rfl, _, SqL.of hal1⟩, al, _, _, rfl, rfl, hal1, last, ?_⟩
      have k2 := k_lst (o := .lst (ls.map V.ref).dropLast) hal1
      have hp2 : (upd (upd H pl (.lst (ps.map V.ref ++ [.ref h]))) al (.lst (ls.map V.ref).dropLast) : Hp) p = some (.ins C dx (fsD h pl al)) := by rw [upd_ne pna]; exact hp1
      refine ⟨_, rfl, p, C, dx, _, rfl, hp2, KC.cls, KC.n1, by show 3 < 1000; decide, ?_⟩
      rw [put_held]
      have k3 := k_ins (o := .ins C dx (fsD hb pl al)) hp2
      have kk := (k1.trans k2).trans k3
      have hB3 := hB.k kk
      refine ⟨_, rfl, p, C, dx, _, _, rfl, upd_same, KC.cls, KC.n1, fsD_held, hb, b, rfl, hB3, (ok.ahead b (List.mem_of_getElem? eb)).1, by have := (ok.ahead b (List.mem_of_getElem? eb)).2; omega, fun H' s' => ?_⟩
      refine kT H' al (((keep_pl.trans keep_al).trans keep_p).trans (keep_same s')) (DkSt.same s' ⟨⟨dx, hb, upd_same, hB3⟩, ⟨ps ++ [h], ?_, ?_⟩, ⟨ls.dropLast, ?_, ?_⟩, ne⟩) (.inl rfl)
      · rw [upd_ne pnl.symm, upd_ne ne, upd_same, List.map_append]
        rfl
      · exact L2.Paired.mapP (pr_app pp (.cons hh .nil)) fun _ _ q => q.k kk
      · rw [upd_ne pna.symm, upd_same, List.map_dropLast]
      · exact L2.Paired.mapP (pr_init pa) fun _ _ q => q.k kk
end
end Kd
namespace Kd
open PySem PySem.Spec PyProof.Rows L2
section
variable {P : Program} {w : World} {K : PySem.W.Frag} {mg : Str → Option Value} {base : Heap}
/-! ## tell -/
def Ent (K : PySem.W.Frag) (mg : Str → Option Value) (d : Addr) (k x : Str) : Prop := ∃ f : Addr, PySem.W.nsIn K d k = some (some (.ref f)) ∧ mg x = some (.ref f)
structure Tb (K : PySem.W.Frag) (w : World) (mg : Str → Option Value) (name : Str) (d : Addr) (yes : List (Str × Str)) (no : List Str) : Prop where
  g : mg name = some (.ref d)
  kd : ∃ es n, KDict K w d es n
  yes_ : ∀ e ∈ yes, Ent K mg d e.1 e.2
  no_ : ∀ k ∈ no, PySem.W.nsIn K d k = some none
abbrev deedL : List (Str × Str) := [("rule", "rule_line"), ("add", "add_line"), ("take", "take_line"), ("copy", "copy_line"), ("drop", "drop_line")]
abbrev askL : List (Str × Str) := [("names", "names_line"), ("show", "show_line"), ("keeps", "keeps_line"), ("match", "match_line")]
abbrev notDeed : List Str := ["names", "show", "keeps", "match", "undo", "again"]
abbrev notAsk : List Str := ["undo", "again"]
theorem sc_desk_tell : FnScope ["self", "line", "words", "word", "rest", "rules", "deed", "answer", "ask"] ["self", "line"] (defScope s_desk_tell) := ⟨rfl, rfl, rfl, by decide +kernel, rfl, by decide +kernel, by decide +kernel⟩
/-- what the body is asked -/
def TellB (P : Program) (w : World) (K : PySem.W.Frag) (mg : Str → Option Value) (base : Heap) (f : Addr) (cdv : Value) (A : Around) (outer : List Env) (s : Shared) (H : Hp) (Q : VK) (E : XK) (p : Addr) (l : Ln) : Prop :=
  ∃ t, PSs (cxOf (L2.CX P w) P w K mg base ["self", "line", "words", "word", "rest", "rules", "deed", "answer", "ask"] "Desk.tell" (defScope s_desk_tell) f cdv A outer s H E) (defBody s_desk_tell) t ∧
    t { nx := fun _ H' => Q .non H', rt := Q } (start ["self", "line", "words", "word", "rest", "rules", "deed", "answer", "ask"] [.ref p, .str (lineT l)]) H
theorem cut1 (k : Str) (ws : List Str) : cutV ((k :: ws).map V.str) (some 1) none = ws.map V.str := cutV_drop _ 1
/-- a deed's line -/
theorem tell_deed {dD : Addr} {f : Addr} {cdv : Value} {A : Around} {outer : List Env} {s : Shared} {H : Hp} {Q : VK} {E : XK} {e : Ec} {C p pl al : Addr} {D : Dk} {l : Ln} {x : Str} {sp' : Sp} (B : Bi mg) (KC : DkC K mg C) (TD : Tb K w mg "DEEDS" dD deedL notDeed)
    (cW : Cl P w K mg base CX0 1 "line_words" spLineWords) (hx : (keyW l, x) ∈ deedL) (cL : Cl P w K mg base (L2.CX P w) 6 x sp') (hstep : stepD D l = deedS D l)
    (hcall : ∀ H1 q a Qd Ed, Same H H1 → DcAt H1 q D.held → H1 a = some (.lst ((restW l).map V.str)) → (∀ t rs', deedR D.held l = (.told t, rs') → ∀ H', SameB q H1 H' → DcAt H' q rs' → Qd (.str t) H') →
      ((∀ t, (deedR D.held l).1 ≠ .told t) → EAn e (deedR D.held l).1 H1 Ed) → sp' [.ref q, .ref a] H1 Qd Ed)
    (hr : Room 7 (A.deeper (envOfC "Desk.tell" (defScope s_desk_tell) s.heap.objs.size f cdv))) (st : DkSt H C p pl al D) (ok : DkOk D 60) (gl : GL l) (oc : Outc e C p pl al H Q E (stepD D l)) : TellB P w K mg base f cdv A outer s H Q E p l := by
  obtain ⟨es, n, KD⟩ := TD.kd
  obtain ⟨fL, nsL, mL⟩ := TD.yes_ _ hx
  obtain ⟨fL', fdL, psL, FL, mL', kpL, bL⟩ := cL.ex
  rw [mL] at mL'
  cases mL'
  obtain ⟨kT, kE⟩ := oc
  rw [hstep] at kT kE
  obtain ⟨⟨dx, h, hp, hh⟩, ⟨ps, hpl, pp⟩, ⟨ls, hal, pa⟩, ne⟩ := id st
  refine ⟨_, pss_cons (ps_set (i := 2) sc_desk_tell.nd rfl (Or.inl rfl) (pe_f cW hr (by decide) (by rfl) (pa_cons (pv 1) pa_nil)))
    (pss_cons (ps_par (i := 3) (j := 4) rfl sc_desk_tell.nd rfl rfl (by decide) rfl rfl (pa_cons (pe_ix ix_list (pv 2) pe_int (fun _ _ => rfl)) (pa_cons (pe_slice (r := rSlL K) sl_list (pv 2) (po_some pe_int) po_none) pa_nil)) (by rfl))
    (pss_cons (ps_if (pt_cmpR (op_in_kd KD) (pv 3) (pe_glob (v := .ref dD) (by rfl) TD.g rfl) (by rfl))
      (pss_cons (ps_set (i := 5) sc_desk_tell.nd rfl (Or.inl rfl) (pe_callTy call_dictD (by rfl) B.dict (by decide +kernel) (pa_cons (pe_fld (pv 0) rfl) pa_nil)))
      (pss_cons (ps_set (i := 6) sc_desk_tell.nd rfl (Or.inl rfl) (pe_ix (r := rIxD K w) ix_kdict (pe_glob (v := .ref dD) (by rfl) TD.g rfl) (pv 3) (fun _ _ => rfl)))
      (pss_cons (ps_set (i := 7) sc_desk_tell.nd rfl (Or.inl rfl) (pe_callL (i := 6) (E := E) (dvs := []) FL (hr.mono (by decide)) rfl (Or.inl rfl) kpL bL .nil (passes_call (takes_of rfl rfl rfl rfl) (fun _ _ _ _ h => h)) (pa_cons (pv 5) (pa_cons (pv 4) pa_nil))))
      (pss_cons (ps_expr (pe_bm PySem.F.plainAttrs_list PySem.F.slot_list_append PySem.F.type_list_append mt_append (pe_fld (pv 0) rfl) (pa_cons (pe_fld (pv 0) rfl) pa_nil)))
      (pss_cons (ps_fld (pv 0) (pe_lst pa_nil) rfl)
      (pss_cons (ps_fld (pv 0) (pv 5) rfl)
      (pss_one (ps_ret (pv 7))))))))) pss_nil) pss_never)), ?_⟩
  obtain ⟨lw, ll⟩ := line_ok gl
  refine ⟨_, rfl, keyW l :: restW l, rfl, by simp, lw, ll, fun a ha => ?_⟩
  have s0 : Same H (upd H a (.lst ((keyW l :: restW l).map V.str))) := same_upd ha
  have a0 : (upd H a (.lst ((keyW l :: restW l).map V.str)) : Hp) a = some (.lst ((keyW l :: restW l).map V.str)) := upd_same
  generalize upd H a (.lst ((keyW l :: restW l).map V.str)) = H0 at s0 a0 ⊢
  refine ⟨_, rfl, a, _, 0, _, rfl, rfl, SqL.of a0, atI_nat (j := 0) rfl, _, rfl, 1, rfl, a, _, rfl, SqL.of a0, fun r hr0 => ⟨_, _, rfl, ?_⟩⟩
  have s1 : Same H0 (upd H0 r (.lst (cutV ((keyW l :: restW l).map V.str) (some 1) none))) := same_upd hr0
  have r1 : (upd H0 r (.lst (cutV ((keyW l :: restW l).map V.str) (some 1) none)) : Hp) r = some (.lst ((restW l).map V.str)) := by rw [upd_same, cut1]
  generalize upd H0 r (.lst (cutV ((keyW l :: restW l).map V.str) (some 1) none)) = H1 at s1 r1 ⊢
  have s01 : Same H H1 := s0.trans s1
  refine ⟨_, rfl, keyW l, _, rfl, rfl, nsL, _, rfl, iteT ?_⟩
  obtain ⟨kvs, hk, bk⟩ := hh.same s01
  refine ⟨_, rfl, p, C, dx, _, _, rfl, s01 _ _ hp, KC.cls, KC.n1, fsD_held, h, kvs, rfl, .inl hk, fun q hq => ?_⟩
  have s2 : Same H1 (upd H1 q (.dK kvs)) := same_upd hq
  have hq2 : DcAt (upd H1 q (.dK kvs)) q D.held := ⟨kvs, upd_same, bk.u (same_u s2)⟩
  generalize upd H1 q (.dK kvs) = H2 at s2 hq2 ⊢
  have s02 : Same H H2 := s01.trans s2
  refine ⟨_, rfl, dD, keyW l, .ref fL, rfl, rfl, ⟨es, n, .ref fL, KD.at_, KD.lit, nsL, rfl⟩, ?_⟩
  refine ⟨rfl, _, rfl, _, rfl, ?_⟩
  refine hcall H2 q r _ E s02 hq2 (s2 _ _ r1) (fun t rs' hd H' sB hD => ?_) (fun ht => ?_)
  · have kT := kT t (by unfold deedS; rw [hd])
    have e2 : (deedS D l).2 = ⟨rs', D.past ++ [D.held], []⟩ := by unfold deedS; rw [hd]
    rw [e2] at kT
    have few := ok.few
    have lp := pr_len pp
    have Hq : H q = none := by
      cases z : H q with
      | none => rfl
      | some o => rw [s01 _ _ z] at hq; cases hq
    have st' : ∀ b o, H b = some o → H' b = some o := fun b o hb => sB b o (ne_of_none hb Hq) (s02 _ _ hb)
    have sH : Same H H' := st'
    have hp' := sH _ _ hp
    have hpl' := sH _ _ hpl
    have pnl : p ≠ pl := ne_of hp hpl (by intro z; cases z)
    refine ⟨_, rfl, p, C, dx, _, _, rfl, hp', KC.cls, KC.n2, fsD_past, .inl ⟨rfl, _, SqL.of hpl'⟩, _, rfl, p, C, dx, _, _, rfl, hp', KC.cls, KC.n1, fsD_held, pl, _, _, rfl, rfl, hpl', small1000 (by rw [List.length_map]; omega), ?_⟩
    have k1 : SameK H' (upd H' pl (.lst (ps.map V.ref ++ [.ref h]))) := k_lst hpl'
    have hp1 : (upd H' pl (.lst (ps.map V.ref ++ [.ref h])) : Hp) p = some (.ins C dx (fsD h pl al)) := by rw [upd_ne pnl]; exact hp'
    refine ⟨Nat.zero_le _, fun al' hal' => ?_⟩
    have hnl : al' ≠ pl := fun z => by rw [z, upd_same] at hal'; cases hal'
    have hna : (H' al') = none := by rw [upd_ne hnl] at hal'; exact hal'
    have hnH : H al' = none := by
      cases z : H al' with
      | none => rfl
      | some o => rw [sH _ _ z] at hna; cases hna
    have k2 : SameK (upd H' pl (.lst (ps.map V.ref ++ [.ref h]))) (upd (upd H' pl (.lst (ps.map V.ref ++ [.ref h]))) al' (.lst [])) := same_k (same_upd hal')
    have pna : p ≠ al' := ne_of_none hp1 hal'
    have hp2 : (upd (upd H' pl (.lst (ps.map V.ref ++ [.ref h]))) al' (.lst []) : Hp) p = some (.ins C dx (fsD h pl al)) := by rw [upd_ne pna]; exact hp1
    refine ⟨_, rfl, p, C, dx, _, rfl, hp2, KC.cls, KC.n3, by show 3 < 1000; decide, ?_⟩
    rw [put_ahead]
    have k3 := k_ins (o := .ins C dx (fsD h pl al')) hp2
    refine ⟨_, rfl, _, rfl, p, C, dx, _, rfl, upd_same, KC.cls, KC.n1, by show 3 < 1000; decide, ?_⟩
    rw [put_held]
    have k4 : SameK (upd (upd (upd H' pl (.lst (ps.map V.ref ++ [.ref h]))) al' (.lst [])) p (.ins C dx (fsD h pl al'))) (upd (upd (upd (upd H' pl (.lst (ps.map V.ref ++ [.ref h]))) al' (.lst [])) p (.ins C dx (fsD h pl al'))) p (.ins C dx (fsD q pl al'))) := k_ins upd_same
    have kk := ((k1.trans k2).trans k3).trans k4
    refine ⟨_, rfl, kT _ al' ?_ ⟨⟨dx, q, upd_same, hD.k kk⟩, ⟨ps ++ [h], ?_, ?_⟩, ⟨[], ?_, .nil⟩, hnl.symm⟩ (.inr hnH)⟩
    · intro b o b1 b2 b3 hb
      have : b ≠ al' := ne_of_none hb hnH
      rw [upd_ne b1, upd_ne b1, upd_ne this, upd_ne b2]
      exact sH _ _ hb
    · rw [upd_ne pnl.symm, upd_ne pnl.symm, upd_ne hnl.symm, upd_same, List.map_append]
      rfl
    · exact L2.Paired.mapP (pr_app pp (.cons hh .nil)) fun _ _ z => (z.same sH).k kk
    · rw [upd_ne pna.symm, upd_ne pna.symm, upd_same]
      rfl
  · have e1 : (deedS D l).1 = (deedR D.held l).1 := by
      unfold deedS
      split
      · rename_i t rs heq
        exact absurd (by rw [heq]) (ht t)
      · rename_i a rs heq hz
        rw [hz]
    rw [e1] at kE
    exact (kE ht).same s02
end
end Kd
namespace Kd
open PySem PySem.Spec PyProof.Rows L2
section
variable {P : Program} {w : World} {K : PySem.W.Frag} {mg : Str → Option Value} {base : Heap}
theorem tell_ask {dD dA : Addr} {f : Addr} {cdv : Value} {A : Around} {outer : List Env} {s : Shared} {H : Hp} {Q : VK} {E : XK} {e : Ec} {C p pl al : Addr} {D : Dk} {l : Ln} {x : Str} {sp' : Sp} (KC : DkC K mg C) (TD : Tb K w mg "DEEDS" dD deedL notDeed) (TA : Tb K w mg "ASKS" dA askL notAsk)
    (cW : Cl P w K mg base CX0 1 "line_words" spLineWords) (hx : (keyW l, x) ∈ askL) (hno : keyW l ∈ notDeed) (cL : Cl P w K mg base (L2.CX P w) 6 x sp') (hstep : stepD D l = (askR D.held l, D))
    (hcall : ∀ H1 q a Qd Ed, Same H H1 → DcAt H1 q D.held → H1 a = some (.lst ((restW l).map V.str)) → (∀ t, askR D.held l = .told t → ∀ H', Same H1 H' → Qd (.str t) H') →
      ((∀ t, askR D.held l ≠ .told t) → EAn e (askR D.held l) H1 Ed) → sp' [.ref q, .ref a] H1 Qd Ed)
    (hr : Room 7 (A.deeper (envOfC "Desk.tell" (defScope s_desk_tell) s.heap.objs.size f cdv))) (st : DkSt H C p pl al D) (ok : DkOk D 60) (gl : GL l) (oc : Outc e C p pl al H Q E (stepD D l)) : TellB P w K mg base f cdv A outer s H Q E p l := by
  obtain ⟨es, n, KD⟩ := TD.kd
  obtain ⟨es2, n2, KA⟩ := TA.kd
  have nsD := TD.no_ _ hno
  obtain ⟨fL, nsL, mL⟩ := TA.yes_ _ hx
  obtain ⟨fL', fdL, psL, FL, mL', kpL, bL⟩ := cL.ex
  rw [mL] at mL'
  cases mL'
  obtain ⟨kT, kE⟩ := oc
  rw [hstep] at kT kE
  obtain ⟨⟨dx, h, hp, hh⟩, ⟨ps, hpl, pp⟩, ⟨ls, hal, pa⟩, ne⟩ := id st
  refine ⟨_, pss_cons (ps_set (i := 2) sc_desk_tell.nd rfl (Or.inl rfl) (pe_f cW hr (by decide) (by rfl) (pa_cons (pv 1) pa_nil)))
    (pss_cons (ps_par (i := 3) (j := 4) rfl sc_desk_tell.nd rfl rfl (by decide) rfl rfl (pa_cons (pe_ix ix_list (pv 2) pe_int (fun _ _ => rfl)) (pa_cons (pe_slice (r := rSlL K) sl_list (pv 2) (po_some pe_int) po_none) pa_nil)) (by rfl))
    (pss_cons (ps_if (pt_cmpR (op_in_kd KD) (pv 3) (pe_glob (v := .ref dD) (by rfl) TD.g rfl) (by rfl)) pss_never pss_nil)
    (pss_cons (ps_if (pt_cmpR (op_in_kd KA) (pv 3) (pe_glob (v := .ref dA) (by rfl) TA.g rfl) (by rfl))
      (pss_cons (ps_set (i := 8) sc_desk_tell.nd rfl (Or.inl rfl) (pe_ix (r := rIxD K w) ix_kdict (pe_glob (v := .ref dA) (by rfl) TA.g rfl) (pv 3) (fun _ _ => rfl)))
      (pss_one (ps_ret (pe_callL (i := 8) (E := E) (dvs := []) FL (hr.mono (by decide)) rfl (Or.inl rfl) kpL bL .nil (passes_call (takes_of rfl rfl rfl rfl) (fun _ _ _ _ h => h)) (pa_cons (pe_fld (pv 0) rfl) (pa_cons (pv 4) pa_nil)))))) pss_nil) pss_never))), ?_⟩
  obtain ⟨lw, ll⟩ := line_ok gl
  refine ⟨_, rfl, keyW l :: restW l, rfl, by simp, lw, ll, fun a ha => ?_⟩
  have s0 : Same H (upd H a (.lst ((keyW l :: restW l).map V.str))) := same_upd ha
  have a0 : (upd H a (.lst ((keyW l :: restW l).map V.str)) : Hp) a = some (.lst ((keyW l :: restW l).map V.str)) := upd_same
  generalize upd H a (.lst ((keyW l :: restW l).map V.str)) = H0 at s0 a0 ⊢
  refine ⟨_, rfl, a, _, 0, _, rfl, rfl, SqL.of a0, atI_nat (j := 0) rfl, _, rfl, 1, rfl, a, _, rfl, SqL.of a0, fun r hr0 => ⟨_, _, rfl, ?_⟩⟩
  have s1 : Same H0 (upd H0 r (.lst (cutV ((keyW l :: restW l).map V.str) (some 1) none))) := same_upd hr0
  have r1 : (upd H0 r (.lst (cutV ((keyW l :: restW l).map V.str) (some 1) none)) : Hp) r = some (.lst ((restW l).map V.str)) := by rw [upd_same, cut1]
  generalize upd H0 r (.lst (cutV ((keyW l :: restW l).map V.str) (some 1) none)) = H1 at s1 r1 ⊢
  have s01 : Same H H1 := s0.trans s1
  refine ⟨_, rfl, keyW l, _, rfl, rfl, nsD, _, rfl, iteF ?_⟩
  refine ⟨_, rfl, keyW l, _, rfl, rfl, nsL, _, rfl, iteT ?_⟩
  refine ⟨_, rfl, dA, keyW l, .ref fL, rfl, rfl, ⟨es2, n2, .ref fL, KA.at_, KA.lit, nsL, rfl⟩, ?_⟩
  refine ⟨rfl, _, rfl, p, C, dx, _, _, rfl, s01 _ _ hp, KC.cls, KC.n1, fsD_held, _, rfl, ?_⟩
  refine hcall H1 h r _ E s01 (hh.same s01) r1 (fun t hd H' s' => ?_) (fun ht => (kE ht).same s01)
  exact kT t hd H' al (keep_same (s01.trans s')) (st.same (s01.trans s')) (.inl rfl)
theorem tell_back {dD dA : Addr} {f fm : Addr} {fdm : FuncData} {cdv : Value} {A : Around} {outer : List Env} {s : Shared} {H : Hp} {Q : VK} {E : XK} {e : Ec} {C p pl al : Addr} {D : Dk} (KC : DkC K mg C) (TD : Tb K w mg "DEEDS" dD deedL notDeed) (TA : Tb K w mg "ASKS" dA askL notAsk)
    (cW : Cl P w K mg base CX0 1 "line_words" spLineWords) (cM : Cl P w K mg base CX0 1 "hold_many" spHoldMany) (M : Md K C "one_back" "Desk.one_back" s_desk_one_back fm fdm) (F : FnOk P w K mg base (L2.CX P w) 3 fm fdm ["self"] (spBack e C backS))
    (hr : Room 7 (A.deeper (envOfC "Desk.tell" (defScope s_desk_tell) s.heap.objs.size f cdv))) (st : DkSt H C p pl al D) (ok : DkOk D 60) (oc : Outc e C p pl al H Q E (backS D)) : TellB P w K mg base f cdv A outer s H Q E p .undo := by
  obtain ⟨es, n, KD⟩ := TD.kd
  obtain ⟨es2, n2, KA⟩ := TA.kd
  have nsD := TD.no_ "undo" (by simp)
  have nsA := TA.no_ "undo" (by simp)
  refine ⟨_, pss_cons (ps_set (i := 2) sc_desk_tell.nd rfl (Or.inl rfl) (pe_f cW hr (by decide) (by rfl) (pa_cons (pv 1) pa_nil)))
    (pss_cons (ps_par (i := 3) (j := 4) rfl sc_desk_tell.nd rfl rfl (by decide) rfl rfl (pa_cons (pe_ix ix_list (pv 2) pe_int (fun _ _ => rfl)) (pa_cons (pe_slice (r := rSlL K) sl_list (pv 2) (po_some pe_int) po_none) pa_nil)) (by rfl))
    (pss_cons (ps_if (pt_cmpR (op_in_kd KD) (pv 3) (pe_glob (v := .ref dD) (by rfl) TD.g rfl) (by rfl)) pss_never pss_nil)
    (pss_cons (ps_if (pt_cmpR (op_in_kd KA) (pv 3) (pe_glob (v := .ref dA) (by rfl) TA.g rfl) (by rfl)) pss_never pss_nil)
    (pss_cons (ps_if (pt_cmpR op_eq (pv 3) pe_str (nomark _))
      (pss_cons (ps_expr (pe_f cM hr (by decide) (by rfl) (pa_cons (pv 4) (pa_cons pe_int pa_nil))))
      (pss_one (ps_ret (pe_meth0 (pl := _) (E := E) (dvs := []) (pv 0) KC.cls M.meth F (hr.mono (by decide)) (M.fun_.bindsN (fun _ _ _ _ _ _ us hl => match us, hl with | [_], _ => rfl)) .nil (passes_call (takes_of rfl rfl rfl rfl) (fun _ _ _ _ h => h)))))) pss_nil) pss_never)))), ?_⟩
  obtain ⟨lw, ll⟩ := line_ok (l := .undo) trivial
  refine ⟨_, rfl, keyW .undo :: restW .undo, rfl, by simp, lw, ll, fun a ha => ?_⟩
  have s0 : Same H (upd H a (.lst ((keyW .undo :: restW .undo).map V.str))) := same_upd ha
  have a0 : (upd H a (.lst ((keyW .undo :: restW .undo).map V.str)) : Hp) a = some (.lst ((keyW .undo :: restW .undo).map V.str)) := upd_same
  generalize upd H a (.lst ((keyW .undo :: restW .undo).map V.str)) = H0 at s0 a0 ⊢
  refine ⟨_, rfl, a, _, 0, _, rfl, rfl, SqL.of a0, atI_nat (j := 0) rfl, _, rfl, 1, rfl, a, _, rfl, SqL.of a0, fun r hr0 => ⟨_, _, rfl, ?_⟩⟩
  have s1 : Same H0 (upd H0 r (.lst (cutV ((keyW .undo :: restW .undo).map V.str) (some 1) none))) := same_upd hr0
  have r1 : (upd H0 r (.lst (cutV ((keyW .undo :: restW .undo).map V.str) (some 1) none)) : Hp) r = some (.lst []) := by rw [upd_same, cut1]; rfl
  generalize upd H0 r (.lst (cutV ((keyW .undo :: restW .undo).map V.str) (some 1) none)) = H1 at s1 r1 ⊢
  have s01 : Same H H1 := s0.trans s1
  refine ⟨_, rfl, keyW .undo, _, rfl, rfl, nsD, _, rfl, iteF ?_⟩
  refine ⟨_, rfl, keyW .undo, _, rfl, rfl, nsA, _, rfl, iteF ?_⟩
  refine ⟨_, rfl, rfl, _, rfl, ?_⟩
  rw [show decide (V.str (keyW .undo) = V.str ("undo" : Str)) = true from decide_eq_true rfl]
  refine iteT ⟨_, rfl, r, [], rfl, r1, ?_⟩
  obtain ⟨dx, h, hp, _⟩ := st.ins
  refine ⟨_, rfl, p, dx, _, rfl, s01 _ _ hp, rfl, p, pl, al, D, rfl, st.same s01, ok, fun t ht H' al' k' st' hal => ?_, fun ht => (oc.2 ht).same s01⟩
  refine oc.1 t ht H' al' ((keep_same s01).trans k') st' (hal.imp id fun z => ?_)
  cases q : H al' with
  | none => rfl
  | some o => rw [s01 _ _ q] at z; cases z
theorem tell_on {dD dA : Addr} {f fm : Addr} {fdm : FuncData} {cdv : Value} {A : Around} {outer : List Env} {s : Shared} {H : Hp} {Q : VK} {E : XK} {e : Ec} {C p pl al : Addr} {D : Dk} (KC : DkC K mg C) (TD : Tb K w mg "DEEDS" dD deedL notDeed) (TA : Tb K w mg "ASKS" dA askL notAsk)
    (cW : Cl P w K mg base CX0 1 "line_words" spLineWords) (cM : Cl P w K mg base CX0 1 "hold_many" spHoldMany) (M : Md K C "one_on" "Desk.one_on" s_desk_one_on fm fdm) (F : FnOk P w K mg base (L2.CX P w) 3 fm fdm ["self"] (spBack e C onS))
    (hr : Room 7 (A.deeper (envOfC "Desk.tell" (defScope s_desk_tell) s.heap.objs.size f cdv))) (st : DkSt H C p pl al D) (ok : DkOk D 60) (oc : Outc e C p pl al H Q E (onS D)) : TellB P w K mg base f cdv A outer s H Q E p .again := by
  obtain ⟨es, n, KD⟩ := TD.kd
  obtain ⟨es2, n2, KA⟩ := TA.kd
  have nsD := TD.no_ "again" (by simp)
  have nsA := TA.no_ "again" (by simp)
  refine ⟨_, pss_cons (ps_set (i := 2) sc_desk_tell.nd rfl (Or.inl rfl) (pe_f cW hr (by decide) (by rfl) (pa_cons (pv 1) pa_nil)))
    (pss_cons (ps_par (i := 3) (j := 4) rfl sc_desk_tell.nd rfl rfl (by decide) rfl rfl (pa_cons (pe_ix ix_list (pv 2) pe_int (fun _ _ => rfl)) (pa_cons (pe_slice (r := rSlL K) sl_list (pv 2) (po_some pe_int) po_none) pa_nil)) (by rfl))
    (pss_cons (ps_if (pt_cmpR (op_in_kd KD) (pv 3) (pe_glob (v := .ref dD) (by rfl) TD.g rfl) (by rfl)) pss_never pss_nil)
    (pss_cons (ps_if (pt_cmpR (op_in_kd KA) (pv 3) (pe_glob (v := .ref dA) (by rfl) TA.g rfl) (by rfl)) pss_never pss_nil)
    (pss_cons (ps_if (pt_cmpR op_eq (pv 3) pe_str (nomark _)) pss_never pss_nil)
    (pss_cons (ps_if (pt_cmpR op_eq (pv 3) pe_str (nomark _))
      (pss_cons (ps_expr (pe_f cM hr (by decide) (by rfl) (pa_cons (pv 4) (pa_cons pe_int pa_nil))))
      (pss_one (ps_ret (pe_meth0 (pl := _) (E := E) (dvs := []) (pv 0) KC.cls M.meth F (hr.mono (by decide)) (M.fun_.bindsN (fun _ _ _ _ _ _ us hl => match us, hl with | [_], _ => rfl)) .nil (passes_call (takes_of rfl rfl rfl rfl) (fun _ _ _ _ h => h)))))) pss_nil) pss_never))))), ?_⟩
  obtain ⟨lw, ll⟩ := line_ok (l := .again) trivial
  refine ⟨_, rfl, keyW .again :: restW .again, rfl, by simp, lw, ll, fun a ha => ?_⟩
  have s0 : Same H (upd H a (.lst ((keyW .again :: restW .again).map V.str))) := same_upd ha
  have a0 : (upd H a (.lst ((keyW .again :: restW .again).map V.str)) : Hp) a = some (.lst ((keyW .again :: restW .again).map V.str)) := upd_same
  generalize upd H a (.lst ((keyW .again :: restW .again).map V.str)) = H0 at s0 a0 ⊢
  refine ⟨_, rfl, a, _, 0, _, rfl, rfl, SqL.of a0, atI_nat (j := 0) rfl, _, rfl, 1, rfl, a, _, rfl, SqL.of a0, fun r hr0 => ⟨_, _, rfl, ?_⟩⟩
  have s1 : Same H0 (upd H0 r (.lst (cutV ((keyW .again :: restW .again).map V.str) (some 1) none))) := same_upd hr0
  have r1 : (upd H0 r (.lst (cutV ((keyW .again :: restW .again).map V.str) (some 1) none)) : Hp) r = some (.lst []) := by rw [upd_same, cut1]; rfl
  generalize upd H0 r (.lst (cutV ((keyW .again :: restW .again).map V.str) (some 1) none)) = H1 at s1 r1 ⊢
  have s01 : Same H H1 := s0.trans s1
  refine ⟨_, rfl, keyW .again, _, rfl, rfl, nsD, _, rfl, iteF ?_⟩
  refine ⟨_, rfl, keyW .again, _, rfl, rfl, nsA, _, rfl, iteF ?_⟩
  refine ⟨_, rfl, rfl, _, rfl, ?_⟩
  rw [dec_ne (show keyW .again ≠ ("undo" : Str) by decide +kernel)]
  refine iteF ⟨_, rfl, rfl, _, rfl, ?_⟩
  rw [show decide (V.str (keyW .again) = V.str ("again" : Str)) = true from decide_eq_true rfl]
  refine iteT ⟨_, rfl, r, [], rfl, r1, ?_⟩
  obtain ⟨dx, h, hp, _⟩ := st.ins
  refine ⟨_, rfl, p, dx, _, rfl, s01 _ _ hp, rfl, p, pl, al, D, rfl, st.same s01, ok, fun t ht H' al' k' st' hal => ?_, fun ht => (oc.2 ht).same s01⟩
  refine oc.1 t ht H' al' ((keep_same s01).trans k') st' (hal.imp id fun z => ?_)
  cases q : H al' with
  | none => rfl
  | some o => rw [s01 _ _ q] at z; cases z
end
end Kd
namespace Kd
open PySem PySem.Spec PyProof.Rows L2
section
variable {P : Program} {w : World} {K : PySem.W.Frag} {mg : Str → Option Value} {base : Heap}
/-- all defs of the desk's lines -/
structure Lines (P : Program) (w : World) (K : PySem.W.Frag) (mg : Str → Option Value) (base : Heap) (e : Ec) : Prop where
  rule : Cl P w K mg base (L2.CX P w) 6 "rule_line" spRuleLine
  add : Cl P w K mg base (L2.CX P w) 6 "add_line" (spAddLine e.n e.r)
  take : Cl P w K mg base (L2.CX P w) 6 "take_line" (spTakeLine e.n e.p)
  copy : Cl P w K mg base (L2.CX P w) 6 "copy_line" (spCopyLine e.n)
  drop : Cl P w K mg base (L2.CX P w) 6 "drop_line" (spDropLine e.n)
  names : Cl P w K mg base (L2.CX P w) 6 "names_line" spNamesLine
  shw : Cl P w K mg base (L2.CX P w) 6 "show_line" (spShowLine e.n)
  keeps : Cl P w K mg base (L2.CX P w) 6 "keeps_line" (spKeepsLine e.n)
  mtch : Cl P w K mg base (L2.CX P w) 6 "match_line" (spMatchLine e.n e.m)
def spTell (e : Ec) (C : Addr) : Sp := fun vs H Q E => ∃ (p pl al : Addr) (D : Dk) (l : Ln), vs = [.ref p, .str (lineT l)] ∧ DkSt H C p pl al D ∧ DkOk D 60 ∧ GL l ∧ Outc e C p pl al H Q E (stepD D l)
theorem deed_rule {e : Ec} {D : Dk} {n : Str} {r : Ru} {H : Hp} {q a : Addr} {Q : VK} {E : XK} (ok : DkOk D 60) (g : GL (.rule n r)) (hD : DcAt H q D.held) (ha : H a = some (.lst ((restW (.rule n r)).map V.str)))
    (kT : ∀ t rs', deedR D.held (.rule n r) = (.told t, rs') → ∀ H', SameB q H H' → DcAt H' q rs' → Q (.str t) H') : spRuleLine [.ref q, .ref a] H Q E :=
  ⟨q, a, D.held, n, r, rfl, hD, ok.held.1, by have := ok.held.2; omega, g.1, g.2, ha, fun H' s h => kT _ _ rfl H' s h⟩
theorem deed_add {e : Ec} {D : Dk} {n : Str} {h : Ht} {H : Hp} {q a : Addr} {Q : VK} {E : XK} (ok : DkOk D 60) (g : GL (.add n h)) (hD : DcAt H q D.held) (ha : H a = some (.lst ((restW (.add n h)).map V.str)))
    (kT : ∀ t rs', deedR D.held (.add n h) = (.told t, rs') → ∀ H', SameB q H H' → DcAt H' q rs' → Q (.str t) H') (kE : (∀ t, (deedR D.held (.add n h)).1 ≠ .told t) → EAn e (deedR D.held (.add n h)).1 H E) : spAddLine e.n e.r [.ref q, .ref a] H Q E := by
  refine ⟨q, a, D.held, n, h, rfl, hD, ok.held.1, by have := ok.held.2; omega, g.1, g.2, ha, fun hl => ?_, fun r hl => ⟨fun h6 => ?_, fun h6 H' s hd => ?_⟩⟩
  · have : deedR D.held (.add n h) = (.name n, D.held) := by unfold deedR; dsimp only; rw [hl]
    rw [this] at kE
    exact kE fun t z => by cases z
  · have : deedR D.held (.add n h) = (.rule, D.held) := by unfold deedR; dsimp only; rw [hl]; exact if_pos h6
    rw [this] at kE
    exact kE fun t z => by cases z
  · refine kT _ _ ?_ H' s hd
    unfold deedR
    dsimp only
    rw [hl]
    exact if_neg h6
theorem deed_take {e : Ec} {D : Dk} {n : Str} {i : Nat} {H : Hp} {q a : Addr} {Q : VK} {E : XK} (ok : DkOk D 60) (g : GL (.take n i)) (hD : DcAt H q D.held) (ha : H a = some (.lst ((restW (.take n i)).map V.str)))
    (kT : ∀ t rs', deedR D.held (.take n i) = (.told t, rs') → ∀ H', SameB q H H' → DcAt H' q rs' → Q (.str t) H') (kE : (∀ t, (deedR D.held (.take n i)).1 ≠ .told t) → EAn e (deedR D.held (.take n i)).1 H E) : spTakeLine e.n e.p [.ref q, .ref a] H Q E := by
  refine ⟨q, a, D.held, n, i, rfl, hD, ok.held.1, by have := ok.held.2; omega, g.1, g.2, ha, fun hl => ?_, fun r hl => ⟨fun h6 => ?_, fun h6 H' s hd => ?_⟩⟩
  · have : deedR D.held (.take n i) = (.name n, D.held) := by unfold deedR; dsimp only; rw [hl]
    rw [this] at kE
    exact kE fun t z => by cases z
  · have : deedR D.held (.take n i) = (.place, D.held) := by unfold deedR; dsimp only; rw [hl]; exact if_pos h6
    rw [this] at kE
    exact kE fun t z => by cases z
  · refine kT _ _ ?_ H' s hd
    unfold deedR
    dsimp only
    rw [hl]
    exact if_neg (by omega)
theorem deed_copy {e : Ec} {D : Dk} {n m : Str} {H : Hp} {q a : Addr} {Q : VK} {E : XK} (ok : DkOk D 60) (g : GL (.copy n m)) (hD : DcAt H q D.held) (ha : H a = some (.lst ((restW (.copy n m)).map V.str)))
    (kT : ∀ t rs', deedR D.held (.copy n m) = (.told t, rs') → ∀ H', SameB q H H' → DcAt H' q rs' → Q (.str t) H') (kE : (∀ t, (deedR D.held (.copy n m)).1 ≠ .told t) → EAn e (deedR D.held (.copy n m)).1 H E) : spCopyLine e.n [.ref q, .ref a] H Q E := by
  refine ⟨q, a, D.held, n, m, rfl, hD, ok.held.1, by have := ok.held.2; omega, g.1, g.2, ha, fun hl => ?_, fun r hl H' s hd => ?_⟩
  · have : deedR D.held (.copy n m) = (.name n, D.held) := by unfold deedR; dsimp only; rw [hl]
    rw [this] at kE
    exact kE fun t z => by cases z
  · refine kT _ _ ?_ H' s hd
    unfold deedR
    dsimp only
    rw [hl]
theorem deed_drop {e : Ec} {D : Dk} {n : Str} {H : Hp} {q a : Addr} {Q : VK} {E : XK} (ok : DkOk D 60) (g : GL (.drop n)) (hD : DcAt H q D.held) (ha : H a = some (.lst ((restW (.drop n)).map V.str)))
    (kT : ∀ t rs', deedR D.held (.drop n) = (.told t, rs') → ∀ H', SameB q H H' → DcAt H' q rs' → Q (.str t) H') (kE : (∀ t, (deedR D.held (.drop n)).1 ≠ .told t) → EAn e (deedR D.held (.drop n)).1 H E) : spDropLine e.n [.ref q, .ref a] H Q E := by
  refine ⟨q, a, D.held, n, rfl, hD, ok.held.1, by have := ok.held.2; omega, g, ha, fun hl => ?_, fun r hl H' s hd => ?_⟩
  · have : deedR D.held (.drop n) = (.name n, D.held) := by unfold deedR; dsimp only; rw [hl]
    rw [this] at kE
    exact kE fun t z => by cases z
  · refine kT _ _ ?_ H' s hd
    unfold deedR
    dsimp only
    rw [hl]
theorem ask_show {e : Ec} {D : Dk} {n : Str} {H : Hp} {q a : Addr} {Q : VK} {E : XK} (ok : DkOk D 60) (g : GL (.shw n)) (hD : DcAt H q D.held) (ha : H a = some (.lst ((restW (.shw n)).map V.str)))
    (kT : ∀ t, askR D.held (.shw n) = .told t → ∀ H', Same H H' → Q (.str t) H') (kE : (∀ t, askR D.held (.shw n) ≠ .told t) → EAn e (askR D.held (.shw n)) H E) : spShowLine e.n [.ref q, .ref a] H Q E := by
  refine ⟨q, a, D.held, n, rfl, hD, ok.held.1, g, ha, fun hl => ?_, fun r H' hl s => kT _ ?_ H' s⟩
  · have : askR D.held (.shw n) = .name n := by unfold askR; dsimp only; rw [hl]
    rw [this] at kE
    exact kE fun t z => by cases z
  · unfold askR
    dsimp only
    rw [hl]
theorem ask_keeps {e : Ec} {D : Dk} {n : Str} {h : Ht} {H : Hp} {q a : Addr} {Q : VK} {E : XK} (ok : DkOk D 60) (g : GL (.keeps n h)) (hD : DcAt H q D.held) (ha : H a = some (.lst ((restW (.keeps n h)).map V.str)))
    (kT : ∀ t, askR D.held (.keeps n h) = .told t → ∀ H', Same H H' → Q (.str t) H') (kE : (∀ t, askR D.held (.keeps n h) ≠ .told t) → EAn e (askR D.held (.keeps n h)) H E) : spKeepsLine e.n [.ref q, .ref a] H Q E := by
  refine ⟨q, a, D.held, n, h, rfl, hD, ok.held.1, g.1, g.2, ha, fun hl => ?_, fun r H' hl s => kT _ ?_ H' s⟩
  · have : askR D.held (.keeps n h) = .name n := by unfold askR; dsimp only; rw [hl]
    rw [this] at kE
    exact kE fun t z => by cases z
  · unfold askR
    dsimp only
    rw [hl]
theorem ask_match {e : Ec} {D : Dk} {n m : Str} {H : Hp} {q a : Addr} {Q : VK} {E : XK} (ok : DkOk D 60) (g : GL (.mtch n m)) (hD : DcAt H q D.held) (ha : H a = some (.lst ((restW (.mtch n m)).map V.str)))
    (kT : ∀ t, askR D.held (.mtch n m) = .told t → ∀ H', Same H H' → Q (.str t) H') (kE : (∀ t, askR D.held (.mtch n m) ≠ .told t) → EAn e (askR D.held (.mtch n m)) H E) : spMatchLine e.n e.m [.ref q, .ref a] H Q E := by
  refine ⟨q, a, D.held, n, m, rfl, hD, ok.held.1, g.1, g.2, ha, fun hl => ?_, fun r h1 h2 => ?_, fun r1 r2 h1 h2 => ⟨fun ne => ?_, fun eq H' s => kT _ ?_ H' s⟩⟩
  · have : askR D.held (.mtch n m) = .name n := by unfold askR; dsimp only; rw [hl]
    rw [this] at kE
    exact kE fun t z => by cases z
  · have : askR D.held (.mtch n m) = .name m := by
      unfold askR
      dsimp only
      rw [h1]
      show (match lkB D.held m with | none => An.name m | some b => if r.length = b.length then An.told (matchT (unlike r b)) else An.many) = _
      rw [h2]
    rw [this] at kE
    exact kE fun t z => by cases z
  · have : askR D.held (.mtch n m) = .many := by
      unfold askR
      dsimp only
      rw [h1]
      show (match lkB D.held m with | none => An.name m | some b => if r1.length = b.length then An.told (matchT (unlike r1 b)) else An.many) = _
      rw [h2]
      exact if_neg ne
    rw [this] at kE
    exact kE fun t z => by cases z
  · unfold askR
    dsimp only
    rw [h1]
    show (match lkB D.held m with | none => An.name m | some b => if r1.length = b.length then An.told (matchT (unlike r1 b)) else An.many) = _
    rw [h2]
    exact if_pos eq
theorem ok_tell {e : Ec} {C : Addr} {dD dA : Addr} {f : Addr} {fd : FuncData} (B : Bi mg) (KC : DkC K mg C) (eT : Er K mg "NothingLeft" e.t) (TD : Tb K w mg "DEEDS" dD deedL notDeed) (TA : Tb K w mg "ASKS" dA askL notAsk) (L : Lines P w K mg base e)
    (cW : Cl P w K mg base CX0 1 "line_words" spLineWords) (cM : Cl P w K mg base CX0 1 "hold_many" spHoldMany) (cN : Cl P w K mg base CX0 1 "names_text" spNamesText) (M : Md K C "tell" "Desk.tell" s_desk_tell f fd) :
    FnOk P w K mg base (L2.CX P w) 8 f fd ["self", "line"] (spTell e C) := by
  refine M.fun_.ok sc_desk_tell (fun vs H Q E h => ?_) (fun cdv A outer s H vs Q E hr h => ?_)
  · obtain ⟨p, pl, al, D, l, rfl, _⟩ := h
    rfl
  · obtain ⟨p, pl, al, D, l, rfl, st, ok, gl, oc⟩ := h
    show TellB P w K mg base f cdv A outer s H Q E p l
    cases l with
    | rule n r => exact tell_deed (e := e) B KC TD cW (by simp [keyW]) L.rule rfl (fun H1 q a Qd Ed s1 hD ha kT kE => deed_rule (e := e) ok gl hD ha kT) hr st ok gl oc
    | add n h => exact tell_deed (e := e) B KC TD cW (by simp [keyW]) L.add rfl (fun H1 q a Qd Ed s1 hD ha kT kE => deed_add ok gl hD ha kT kE) hr st ok gl oc
    | take n i => exact tell_deed (e := e) B KC TD cW (by simp [keyW]) L.take rfl (fun H1 q a Qd Ed s1 hD ha kT kE => deed_take ok gl hD ha kT kE) hr st ok gl oc
    | copy n m => exact tell_deed (e := e) B KC TD cW (by simp [keyW]) L.copy rfl (fun H1 q a Qd Ed s1 hD ha kT kE => deed_copy ok gl hD ha kT kE) hr st ok gl oc
    | drop n => exact tell_deed (e := e) B KC TD cW (by simp [keyW]) L.drop rfl (fun H1 q a Qd Ed s1 hD ha kT kE => deed_drop ok gl hD ha kT kE) hr st ok gl oc
    | undo =>
      obtain ⟨fm, fdm, Mm⟩ := KC.back
      exact tell_back KC TD TA cW cM Mm (ok_desk_one_back KC eT cN Mm.fun_) hr st ok oc
    | again =>
      obtain ⟨fm, fdm, Mm⟩ := KC.on
      exact tell_on KC TD TA cW cM Mm (ok_desk_one_on KC eT cN Mm.fun_) hr st ok oc
    | names => exact tell_ask (e := e) KC TD TA cW (by simp [keyW]) (by simp [keyW]) L.names rfl (fun H1 q a Qd Ed s1 hD ha kT kE => ⟨q, a, D.held, rfl, hD, ok.held.1, by have := ok.held.2; omega, ha, fun H' s' => kT _ rfl H' s'⟩) hr st ok gl oc
    | shw n => exact tell_ask (e := e) KC TD TA cW (by simp [keyW]) (by simp [keyW]) L.shw rfl (fun H1 q a Qd Ed s1 hD ha kT kE => ask_show ok gl hD ha kT kE) hr st ok gl oc
    | keeps n h => exact tell_ask (e := e) KC TD TA cW (by simp [keyW]) (by simp [keyW]) L.keeps rfl (fun H1 q a Qd Ed s1 hD ha kT kE => ask_keeps ok gl hD ha kT kE) hr st ok gl oc
    | mtch n m => exact tell_ask (e := e) KC TD TA cW (by simp [keyW]) (by simp [keyW]) L.mtch rfl (fun H1 q a Qd Ed s1 hD ha kT kE => ask_match ok gl hD ha kT kE) hr st ok gl oc
end
end Kd
namespace Kd
open PySem PySem.Spec PyProof.Rows L2
section
variable {P : Program} {w : World} {K : PySem.W.Frag} {mg : Str → Option Value} {base : Heap}
/-! ## The law's draws -/
def StAt (H : Hp) (st g c : Addr) (n : Nat) : Prop := ∃ (gs : List Int) (cur : Int) (cs : List Int) (k : Nat), H st = some (.lst [.ref g, .int cur, .ref c, .int (k : Nat)]) ∧ H g = some (.lst (gs.map V.int)) ∧ H c = some (.lst (cs.map V.int)) ∧
  k ≤ n ∧ gs.length ≤ 63 ∧ cs.length ≤ 63 ∧ st ≠ g ∧ st ≠ c ∧ g ≠ c
def KeepS (st g : Addr) (H H' : Hp) : Prop := ∀ b o, b ≠ st → b ≠ g → H b = some o → H' b = some o
theorem KeepS.refl {st g : Addr} (H : Hp) : KeepS st g H H := fun _ _ _ _ h => h
theorem KeepS.trans {st g : Addr} {H H1 H2 : Hp} (a : KeepS st g H H1) (b : KeepS st g H1 H2) : KeepS st g H H2 := fun c o x y h => b c o x y (a c o x y h)
theorem keepS_same {st g : Addr} {H H' : Hp} (s : Same H H') : KeepS st g H H' := fun b o _ _ h => s b o h
theorem keepS_st {st g : Addr} {H : Hp} {o : HO} : KeepS st g H (upd H st o) := fun b u h1 _ h => by rw [upd_ne h1]; exact h
theorem keepS_g {st g : Addr} {H : Hp} {o : HO} : KeepS st g H (upd H g o) := fun b u _ h1 h => by rw [upd_ne h1]; exact h
theorem StAt.mono {H : Hp} {st g c : Addr} {n m : Nat} (x : StAt H st g c n) (h : n ≤ m) : StAt H st g c m := by
  obtain ⟨gs, cur, cs, k, h1, h2, h3, h4, r⟩ := x
  exact ⟨gs, cur, cs, k, h1, h2, h3, Nat.le_trans h4 h, r⟩
theorem StAt.same {H H' : Hp} {st g c : Addr} {n : Nat} (s : Same H H') (x : StAt H st g c n) : StAt H' st g c n := by
  obtain ⟨gs, cur, cs, k, h1, h2, h3, r⟩ := x
  exact ⟨gs, cur, cs, k, s _ _ h1, s _ _ h2, s _ _ h3, r⟩
def spMix : Sp := fun vs H Q _ => ∃ (st g c : Addr) (n : Nat), vs = [.ref st] ∧ StAt H st g c n ∧ n ≤ 1000000 ∧ ∀ (t : Int) H', KeepS st g H H' → StAt H' st g c (n + 1) → Q (.int t) H'
theorem sc_law_mix : FnScope ["_law_state", "_law_count", "_law_cell", "_law_stirred"] ["_law_state"] (defScope s_law_mix) := ⟨rfl, rfl, rfl, by decide +kernel, rfl, by decide +kernel, by decide +kernel⟩
theorem cm_left {i j : Int} (h : 0 ≤ i ∧ i ≤ 10 ^ 18) : CMul i j := .inl ⟨by omega, by omega⟩
theorem cm_right {i j : Int} (h : 0 ≤ j ∧ j ≤ 10 ^ 18) : CMul i j := .inr ⟨by omega, by omega⟩
theorem ok_law_mix (B : Bi mg) (D : Df K mg "_law_mix" s_law_mix) : Cl P w K mg base CX0 1 "_law_mix" spMix := by
  refine mk0 D sc_law_mix (fun _ _ _ _ _ _ us hl => match us, hl with | [_], _ => rfl) (fun vs H Q E h => ?_) (fun f cdv A outer s H vs Q E hr h => ?_)
  · obtain ⟨st, g, c, n, rfl, _⟩ := h
    rfl
  · obtain ⟨st, g, c, n, rfl, ⟨gs, cur, cs, k, hs, hg, hc, hk, lg, lc, n1, n2, n3⟩, hn, kQ⟩ := h
    refine ⟨_, pss_cons (ps_augS (pv 0) pe_int get_listN pe_int ip_add set_list)
      (pss_cons (ps_set (i := 1) sc_law_mix.nd rfl (Or.inl rfl) (pe_ix ix_list (pv 0) pe_int (fun _ _ => rfl)))
      (pss_cons (ps_set (i := 2) sc_law_mix.nd rfl (Or.inl rfl) pe_int)
      (pss_cons (ps_if (pt_truth (pe_ix ix_list (pv 0) pe_int (fun _ _ => rfl)) (by intro _; rfl))
        (pss_one (ps_set (i := 2) sc_law_mix.nd rfl (Or.inl rfl) (pe_ix ix_list (pe_ix ix_list (pv 0) pe_int (fun _ _ => rfl)) (pe_op op_mod (pv 1) (pe_callB call_len_seq (by rfl) B.len PySem.boot_len (pa_cons (pe_ix ix_list (pv 0) pe_int (fun _ _ => rfl)) pa_nil))) (fun _ _ => rfl)))) pss_nil)
      (pss_cons (ps_set (i := 3) sc_law_mix.nd rfl (Or.inl rfl) (pe_op op_mod (pe_op op_mul (pe_op op_add (pe_op op_add (pe_op op_add (pv 2) (pe_op op_mul (pe_op op_mul pe_int (pv 1)) (pv 1))) (pe_op op_mul pe_int (pv 1))) pe_int) pe_int) pe_int))
      (pss_one (ps_ret (pe_op op_mod (pe_op op_mul (pe_op op_add (pe_op op_add (pv 3) (pe_op op_mul pe_int (pv 1))) pe_int) pe_int) pe_int))))))), ?_⟩
    refine ⟨_, rfl, st, _, 3, .int (k : Nat), rfl, rfl, SqL.of hs, rfl, _, _, rfl, rfl, st, _, 3, 3, rfl, rfl, hs, rfl, ?_⟩
    have ek : ((k : Int) + 1) = ((k + 1 : Nat) : Int) := by omega
    have hs1 : (upd H st (.lst ([V.ref g, .int cur, .ref c, .int (k : Nat)].set 3 (.int ((k : Int) + 1)))) : Hp) st = some (.lst [.ref g, .int cur, .ref c, .int ((k + 1 : Nat) : Int)]) := by rw [upd_same, ek]; rfl
    have hg1 : (upd H st (.lst ([V.ref g, .int cur, .ref c, .int (k : Nat)].set 3 (.int ((k : Int) + 1)))) : Hp) g = some (.lst (gs.map V.int)) := by rw [upd_ne n1.symm]; exact hg
    have hc1 : (upd H st (.lst ([V.ref g, .int cur, .ref c, .int (k : Nat)].set 3 (.int ((k : Int) + 1)))) : Hp) c = some (.lst (cs.map V.int)) := by rw [upd_ne n2.symm]; exact hc
    have kk : KeepS st g H (upd H st (.lst ([V.ref g, .int cur, .ref c, .int (k : Nat)].set 3 (.int ((k : Int) + 1))))) := keepS_st
    generalize upd H st (.lst ([V.ref g, .int cur, .ref c, .int (k : Nat)].set 3 (.int ((k : Int) + 1)))) = H1 at hs1 hg1 hc1 kk ⊢
    have fin : ∀ t : Int, Q (.int t) H1 := fun t => kQ t H1 kk ⟨gs, cur, cs, k + 1, hs1, hg1, hc1, by omega, lg, lc, n1, n2, n3⟩
    have rest : ∀ z : Int, (tSeq (tAsg (tOp (rI (fun _ j => 0 < j) fun i j => .int (i % j)) (tOp (rI CMul fun i j => .int (i * j)) (tOp (rI0 fun i j => .int (i + j)) (tOp (rI0 fun i j => .int (i + j)) (tOp (rI0 fun i j => .int (i + j)) (tVar 2) (tOp (rI CMul fun i j => .int (i * j)) (tOp (rI CMul fun i j => .int (i * j)) (tC (.int 7)) (tVar 1)) (tVar 1)))
        (tOp (rI CMul fun i j => .int (i * j)) (tC (.int 13)) (tVar 1))) (tC (.int 5))) (tC (.int 1220703125))) (tC (.int 2147483647))) (gName 3))
        (tRet (tOp (rI (fun _ j => 0 < j) fun i j => .int (i % j)) (tOp (rI CMul fun i j => .int (i * j)) (tOp (rI0 fun i j => .int (i + j)) (tOp (rI0 fun i j => .int (i + j)) (tVar 3) (tOp (rI CMul fun i j => .int (i * j)) (tC (.int 17)) (tVar 1))) (tC (.int 3))) (tC (.int 39373))) (tC (.int 1000000007)))))
        { nx := fun _ H' => Q .non H', rt := Q } [some (.ref st), some (.int ((k + 1 : Nat) : Int)), some (.int z), none] H1 := fun z =>
      ⟨_, rfl, _, rfl, _, _, rfl, rfl, cm_left (by decide), _, rfl, _, _, rfl, rfl, cm_right (by omega), _, _, rfl, rfl, _, rfl, _, _, rfl, rfl, cm_left (by decide), _, _, rfl, rfl, _, _, rfl, rfl, _, _, rfl, rfl, cm_right (by decide), _, _, rfl, rfl, (by show (0 : Int) < 2147483647; decide),
        _, rfl, _, rfl, _, _, rfl, rfl, cm_left (by decide), _, _, rfl, rfl, _, _, rfl, rfl, _, _, rfl, rfl, cm_right (by decide), _, _, rfl, rfl, (by show (0 : Int) < 1000000007; decide), fin _⟩
    refine ⟨_, rfl, st, _, 3, _, rfl, rfl, SqL.of hs1, atI_nat (j := 3) rfl, ?_⟩
    refine ⟨_, rfl, st, _, 2, _, rfl, rfl, SqL.of hs1, atI_nat (j := 2) rfl, !(cs.map V.int).isEmpty, .inl ⟨_, SqL.of hc1, rfl⟩, ?_⟩
    cases cs with
    | nil => exact iteF (rest 5)
    | cons x r =>
      refine iteT ?_
      have pos : (0 : Int) < (((x :: r).map V.int).length : Nat) := by rw [List.length_map, List.length_cons]; omega
      have lt : (((k + 1 : Nat) : Int) % (((x :: r).map V.int).length : Nat)) = (((k + 1) % (x :: r).length : Nat) : Int) := by rw [List.length_map]; omega
      obtain ⟨y, hy⟩ : ∃ y, (x :: r)[(k + 1) % (x :: r).length]? = some y := ⟨_, List.getElem?_eq_getElem (Nat.mod_lt _ (by rw [List.length_cons]; omega))⟩
      refine ⟨_, rfl, st, _, 2, _, rfl, rfl, SqL.of hs1, atI_nat (j := 2) rfl, _, rfl, _, rfl, st, _, 2, _, rfl, rfl, SqL.of hs1, atI_nat (j := 2) rfl, c, _, rfl, .inl (SqL.of hc1), _, _, rfl, rfl, pos, c, _, _, .int y, rfl, rfl, SqL.of hc1, ?_, rest y⟩
      rw [lt]
      exact atI_nat (by rw [List.getElem?_map, hy]; rfl)
def spDraw : Sp := fun vs H Q _ => ∃ (st g c : Addr) (n : Nat) (m : Int), vs = [.ref st, .int m] ∧ StAt H st g c n ∧ n ≤ 900000 ∧ 1 ≤ m ∧ m ≤ 10 ^ 30 ∧ ∀ (t : Int) H', 0 ≤ t → t < m → KeepS st g H H' → StAt H' st g c (n + 4) → Q (.int t) H'
theorem sc_law_draw : FnScope ["_law_state", "_law_many", "_law_told", "_law_size"] ["_law_state", "_law_many"] (defScope s_law_draw) := ⟨rfl, rfl, rfl, by decide +kernel, rfl, by decide +kernel, by decide +kernel⟩
theorem ok_law_draw (D : Df K mg "_law_draw" s_law_draw) (cM : Cl P w K mg base CX0 1 "_law_mix" spMix) : Cl P w K mg base CX0 2 "_law_draw" spDraw := by
  refine mk0 D sc_law_draw (fun _ _ _ _ _ _ us hl => match us, hl with | [_, _], _ => rfl) (fun vs H Q E h => ?_) (fun f cdv A outer s H vs Q E hr h => ?_)
  · obtain ⟨st, g, c, n, m, rfl, _⟩ := h
    rfl
  · obtain ⟨st, g, c, n, m, rfl, ⟨gs, cur, cs, k, hs, hg, hc, hk, lg, lc, n1, n2, n3⟩, hn, m1, m2, kQ⟩ := h
    refine ⟨_, pss_cons (ps_if (PW.pt (pw_and (pt_cmpR op_eq (pe_ix ix_list (pv 0) pe_int (fun _ _ => rfl)) pe_int (nomark _)) (pw_and1 (pt_truth (pe_ix ix_list (pv 0) pe_int (fun _ _ => rfl)) (by intro _; rfl)))))
        (pss_one (ps_asg (pe_bm PySem.F.plainAttrs_list PySem.F.slot_list_pop PySem.F.type_list_pop mt_popAt (pe_ix ix_list (pv 0) pe_int (fun _ _ => rfl)) (pa_cons pe_int pa_nil)) (pg_sub (pv 0) pe_int set_list (by intros; rfl)))) pss_nil)
      (pss_cons (ps_if (pt_cmpR op_gt (pe_ix ix_list (pv 0) pe_int (fun _ _ => rfl)) pe_int (nomark _))
        (pss_cons (ps_set (i := 2) sc_law_draw.nd rfl (Or.inl rfl) (pe_op op_mod (pe_ix ix_list (pv 0) pe_int (fun _ _ => rfl)) (pv 1)))
        (pss_cons (ps_asg (pe_op op_fdivW (pe_ix ix_list (pv 0) pe_int (fun _ _ => rfl)) (pv 1)) (pg_sub (pv 0) pe_int set_list (by intros; rfl)))
        (pss_one (ps_ret (pv 2))))) pss_nil)
      (pss_cons (ps_set (i := 2) sc_law_draw.nd rfl (Or.inl rfl) pe_int)
      (pss_cons (ps_set (i := 3) sc_law_draw.nd rfl (Or.inl rfl) pe_int)
      (pss_cons (ps_while PassesOwn.never (pt_cmpR op_lt (pv 3) (pv 1) (nomark _))
        (pss_cons (ps_set (i := 2) sc_law_draw.nd rfl (Or.inl rfl) (pe_op op_add (pe_op op_mul (pv 2) pe_int) (pe_f cM hr (by decide) (by rfl) (pa_cons (pv 0) pa_nil))))
        (pss_one (ps_set (i := 3) sc_law_draw.nd rfl (Or.inl rfl) (pe_op op_mul (pv 3) pe_int)))))
      (pss_one (ps_ret (pe_op op_mod (pv 2) (pv 1)))))))), ?_⟩
    -- behind the first if
    have tail : ∀ (gs : List Int) (cur : Int) (H1 : Hp), gs.length ≤ 63 → H1 st = some (.lst [.ref g, .int cur, .ref c, .int (k : Nat)]) → H1 g = some (.lst (gs.map V.int)) → H1 c = some (.lst (cs.map V.int)) → KeepS st g H H1 →
        (tSeq (tIfS (tTest (tOp (rI0 fun i j => .bl (decide (j < i))) (tOp (rIxL K) (tVar 0) (tC (.int 1))) (tC (.int 0)))) (tSeq (tAsg (tOp (rI (fun _ j => 0 < j) fun i j => .int (i % j)) (tOp (rIxL K) (tVar 0) (tC (.int 1))) (tVar 1)) (gName 2))
          (tSeq (tAsg (tOp (rI CDivW fun i j => .int (i / j)) (tOp (rIxL K) (tVar 0) (tC (.int 1))) (tVar 1)) (gSub (tVar 0) (tC (.int 1)) rSetL)) (tRet (tVar 2)))) tNext)
          (tSeq (tAsg (tC (.int 0)) (gName 2)) (tSeq (tAsg (tC (.int 1)) (gName 3)) (tSeq (tWhile (tTest (tOp (rI0 fun i j => .bl (decide (i < j))) (tVar 3) (tVar 1)))
            (tSeq (tAsg (tOp (rI0 fun i j => .int (i + j)) (tOp (rI CMul fun i j => .int (i * j)) (tVar 2) (tC (.int 1000000007))) (tCall spMix [] E0 (tCons (tVar 0) tNil))) (gName 2)) (tAsg (tOp (rI CMul fun i j => .int (i * j)) (tVar 3) (tC (.int 1000000007))) (gName 3))))
            (tRet (tOp (rI (fun _ j => 0 < j) fun i j => .int (i % j)) (tVar 2) (tVar 1)))))))
          { nx := fun _ H' => Q .non H', rt := Q } [some (.ref st), some (.int m), none, none] H1 := by
      intro gs cur H1 lg hs hg hc kk
      refine ⟨_, rfl, st, _, 1, _, rfl, rfl, SqL.of hs, atI_nat (j := 1) rfl, _, _, rfl, rfl, _, rfl, ?_⟩
      refine ite2 (fun _ => ?_) (fun _ => ?_)
      · refine ⟨_, rfl, st, _, 1, _, rfl, rfl, SqL.of hs, atI_nat (j := 1) rfl, _, rfl, _, _, rfl, rfl, (by show 0 < m; omega), ?_⟩
        refine ⟨_, rfl, st, _, 1, _, rfl, rfl, SqL.of hs, atI_nat (j := 1) rfl, _, rfl, _, _, rfl, rfl, wide_div (b := 100) (by omega) (by omega) (by decide) (by decide), _, rfl, st, _, 1, 1, rfl, rfl, hs, rfl, _, rfl, ?_⟩
        refine kQ _ _ (Int.emod_nonneg _ (by omega)) (Int.emod_lt_of_pos _ (by omega)) (kk.trans keepS_st) ⟨gs, cur / m, cs, k, by rw [upd_same]; rfl, by rw [upd_ne n1.symm]; exact hg, by rw [upd_ne n2.symm]; exact hc, by omega, lg, lc, n1, n2, n3⟩
      · refine while_by (fun σ H' => ∃ (told z : Int) (j : Nat), σ = [some (.ref st), some (.int m), some (.int told), some (.int z)] ∧ z = 1000000007 ^ j ∧ j ≤ 4 ∧ KeepS st g H H' ∧ StAt H' st g c (n + j))
          (fun σ _ => match σ with | [_, _, _, some (.int z)] => (m - z).toNat | _ => 0) ⟨0, 1, 0, rfl, rfl, by omega, kk, ⟨gs, cur, cs, k, hs, hg, hc, by omega, lg, lc, n1, n2, n3⟩⟩ ?_ ?_
        · rintro σ H2 ⟨told, z, j, rfl, hz, hj, k2, s2⟩
          refine ⟨_, rfl, _, rfl, _, _, rfl, rfl, _, rfl, ?_⟩
          have zp : 1 ≤ z := by
            have : (0 : Int) < 1000000007 ^ j := Int.pow_pos (by decide)
            omega
          by_cases hlt : z < m
          · have j4 : j ≠ 4 := fun e => by
              subst e
              omega
            rw [decide_eq_true hlt]
            refine ⟨_, rfl, _, _, rfl, rfl, cm_right (by decide), _, rfl, st, g, c, n + j, rfl, s2, by omega, fun t H3 k3 s3 => ?_⟩
            refine ⟨_, _, rfl, rfl, _, rfl, _, _, rfl, rfl, cm_right (by decide), ⟨_, z * 1000000007, j + 1, rfl, by rw [hz, Int.pow_succ], by omega, k2.trans k3, s3⟩, ?_⟩
            show (m - z * 1000000007).toNat < (m - z).toNat
            omega
          · rw [decide_eq_false hlt]
            exact ⟨_, rfl, _, rfl, _, _, rfl, rfl, (by show 0 < m; omega), kQ _ _ (Int.emod_nonneg _ (by omega)) (Int.emod_lt_of_pos _ (by omega)) k2 (s2.mono (by omega))⟩
        · rintro σ H2 Q1 Q2 hm ⟨x, h1, y, h2, i, j, e1, e2, b, e, q⟩
          exact ⟨x, h1, y, h2, i, j, e1, e2, b, e, hm _ _ q⟩
    refine ⟨_, rfl, st, _, 1, _, rfl, rfl, SqL.of hs, atI_nat (j := 1) rfl, rfl, _, rfl, ?_⟩
    refine ite2 (fun _ => ?_) (fun _ => iteF (tail gs cur H lg hs hg hc (KeepS.refl H)))
    refine ⟨_, rfl, st, _, 0, _, rfl, rfl, SqL.of hs, atI_nat (j := 0) rfl, !(gs.map V.int).isEmpty, .inl ⟨_, SqL.of hg, rfl⟩, ?_⟩
    cases gs with
    | nil => exact iteF (tail [] cur H lg hs hg hc (KeepS.refl H))
    | cons x r =>
      refine iteT ?_
      have hs1 : (upd H g (.lst (((x :: r).map V.int).eraseIdx 0)) : Hp) st = some (.lst [.ref g, .int cur, .ref c, .int (k : Nat)]) := by rw [upd_ne n1]; exact hs
      refine ⟨_, rfl, st, _, 0, _, rfl, rfl, SqL.of hs, atI_nat (j := 0) rfl, .inl ⟨rfl, _, SqL.of hg⟩, g, _, 0, 0, .int x, rfl, rfl, hg, by omega, by omega, seqIndex_of (by decide) (by rw [List.length_map, List.length_cons]; omega), rfl, _, rfl, st, _, 1, 1, rfl, rfl, hs1, rfl, ?_⟩
      refine tail r x _ (by rw [List.length_cons] at lg; omega) (by rw [upd_same]; rfl) ?_ ?_ (keepS_g.trans keepS_st)
      · rw [upd_ne n1.symm, upd_same]
        rfl
      · rw [upd_ne n2.symm, upd_ne n3.symm]
        exact hc
end
end Kd
namespace Kd
open PySem PySem.Spec PyProof.Rows L2
section
variable {P : Program} {w : World} {K : PySem.W.Frag} {mg : Str → Option Value} {base : Heap}
theorem sql_same {H H' : Hp} {a : Addr} {xs : List V} (s : Same H H') (x : SqL K H a xs) : SqL K H' a xs := by
  rcases x with (h | ⟨o, h⟩) | h
  · exact .inl (.inl (s _ _ h))
  · exact .inl (.inr ⟨o, s _ _ h⟩)
  · exact .inr h
/-! ### the start -/
def spStart (K : PySem.W.Frag) : Sp := fun vs H Q _ => ∃ (a : Addr) (ns : List Int), vs = [.ref a] ∧ SqL K H a (ns.map V.int) ∧ ns.length ≤ 63 ∧ ∀ H' st g c, Same H H' → H st = none → H g = none → StAt H' st g c 0 → Q (.ref st) H'
theorem sc_law_start : FnScope ["_law_script", "_law_great", "_law_cell"] ["_law_script"] (defScope s_law_start) := ⟨rfl, rfl, rfl, by decide +kernel, rfl, by decide +kernel, by decide +kernel⟩
theorem ok_law_start (D : Df K mg "_law_start" s_law_start) : Cl P w K mg base CX0 1 "_law_start" (spStart K) := by
  refine mk0 D sc_law_start (fun _ _ _ _ _ _ us hl => match us, hl with | [_], _ => rfl) (fun vs H Q E h => ?_) (fun f cdv A outer s H vs Q E hr h => ?_)
  · obtain ⟨a, ns, rfl, _⟩ := h
    rfl
  · obtain ⟨a, ns, rfl, ha, h63, kQ⟩ := h
    refine ⟨_, pss_cons (ps_setLc (i := 1) (own := [("_law_cell", 2)]) (g := gName 2) rfl sc_law_start.nd rfl rfl (by rfl) (pi_list (pv 0)) (blkOk_by (own := [("_law_cell", 2)]) (N := ["_law_script", "_law_great", "_law_cell"]) (sc := defScope s_law_start) (by decide +kernel))
        (fun _ _ _ _ _ => pg_name (i := 2) sc_law_start.nd rfl (Or.inl rfl)) (fun _ _ _ _ _ => pts_one (pt_cmpR op_ge (pv 2) (pe_op op_pow pe_int pe_int) (nomark _))) (fun _ _ _ _ _ => pv 2))
      (pss_one (ps_ret (pe_lst (pa_cons (pv 1) (pa_cons pe_int (pa_cons
        (pe_lc (own := [("_law_cell", 2)]) (g := gName 2) (tt := tYes) rfl sc_law_start.nd (pi_list (pv 0)) (blkOk_by (own := [("_law_cell", 2)]) (N := ["_law_script", "_law_great", "_law_cell"]) (sc := defScope s_law_start) (by decide +kernel))
          (fun _ _ _ _ _ => pg_name (i := 2) sc_law_start.nd rfl (Or.inl rfl)) (fun _ _ _ _ _ => pts_nil) (fun _ _ _ _ _ => pe_op op_mod (pv 2) pe_int))
        (pa_cons pe_int pa_nil))))))), ?_⟩
    refine ⟨_, rfl, a, rfl, ⟨_, ha⟩, fun g hg => lc_list (K := K) (a := a) (xs := ns.map V.int) (vs := [2]) (fun i H' => Same H H' ∧ ∃ gs : List Int, H' g = some (.lst (gs.map V.int)) ∧ gs.length ≤ i) ⟨same_upd hg, [], upd_same, Nat.le_refl _⟩ (fun i H' _ h => sql_same h.1 ha) ?_ ?_⟩
    · rintro i y H1 hy ⟨s1, gs, hgs, lg⟩
      obtain ⟨x, hx, rfl⟩ := map_get hy
      have hi : i < ns.length := (List.getElem?_eq_some_iff.mp hx).1
      refine ⟨rfl, _, rfl, _, _, rfl, rfl, ⟨by decide, by decide, by decide⟩, _, _, rfl, rfl, _, rfl, ?_⟩
      refine ite2 (fun _ => ?_) (fun _ => ?_)
      · refine ⟨_, rfl, _, hgs, small1000 (by rw [List.length_map]; omega), ?_, gs ++ [x], by rw [upd_same, List.map_append]; rfl, by rw [List.length_append, List.length_singleton]; omega⟩
        intro b o e
        rw [upd_ne (ne_of_none e hg)]
        exact s1 b o e
      · exact ⟨s1, gs, hgs, by omega⟩
    · rintro H1 ⟨s1, gs, hgs, lg⟩
      rw [List.length_map] at lg
      refine ⟨_, rfl, _, rfl, a, rfl, ⟨_, sql_same s1 ha⟩, fun c hc => lc_mk (vs := [2]) (R := fun (_ : Hp) v y => v = V.int y) (walk_list (K := K) (a := a)) (nl_val (f := V.int)) (ns.map fun x => x % 2147483629) (by rw [List.length_map, List.length_map]) (by rw [List.length_map]; omega) hc (fun H' s => sql_same (s1.trans s) ha) ?_ ?_⟩
      · intro i z y H2 hi hz hy s2 Kc hK
        obtain ⟨x, hx, rfl⟩ := map_get hz
        rw [List.getElem?_map, hx] at hy
        cases hy
        exact ⟨rfl, _, rfl, _, _, rfl, rfl, (by show (0 : Int) < 2147483629; decide), hK _ H2 (Same.refl H2) rfl⟩
      · intro H2 us s2 hL2 pu
        have e := pr_map (f := V.int) (H := H2) pu
        subst e
        have hg2 := s2 _ _ hgs
        refine ⟨by show 4 ≤ sizeLine; decide, fun st hst => ?_⟩
        have s3 : Same H2 (upd H2 st (.lst [.ref g, .int 0, .ref c, .int 0])) := same_upd hst
        have hnst : H st = none := by
          cases q : H st with
          | none => rfl
          | some o => rw [s2 _ _ (s1 _ _ q)] at hst; cases hst
        refine kQ _ st g c ((s1.trans s2).trans s3) hnst hg ⟨gs, 0, _, 0, upd_same, s3 _ _ hg2, s3 _ _ hL2, Nat.le_refl _, by omega, by rw [List.length_map]; exact h63, (ne_of_none hg2 hst).symm, (ne_of_none hL2 hst).symm, ne_of_none hgs hc⟩
theorem ord_fall {l : List Int} (h : OrdB true l) : l.Pairwise (fun a b => b ≤ a) := h
/-! ### heaps drawn -/
def spLawHeap : Sp := fun vs H Q _ => ∃ (st g c : Addr) (n : Nat) (z : Nat) (top : Int), vs = [.ref st, .int (z : Nat), .int top] ∧ StAt H st g c n ∧ n ≤ 800000 ∧ z ≤ 9 ∧ 1 ≤ top ∧ top ≤ 10 ^ 30 ∧
  ∀ (h : Ht) H' v, GH h → KeepS st g H H' → StAt H' st g c (n + 44) → HtAt H' v h → Q v H'
theorem sc_law_heap : FnScope ["_law_state", "_law_size", "_law_top", "_law_parts", "_law_k"] ["_law_state", "_law_size", "_law_top"] (defScope s_law_heap) := ⟨rfl, rfl, rfl, by decide +kernel, rfl, by decide +kernel, by decide +kernel⟩
theorem ok_law_heap (B : Bi mg) (D : Df K mg "_law_heap" s_law_heap) (cD : Cl P w K mg base CX0 2 "_law_draw" spDraw) : Cl P w K mg base CX0 3 "_law_heap" spLawHeap := by
  refine mk0 D sc_law_heap (fun _ _ _ _ _ _ us hl => match us, hl with | [_, _, _], _ => rfl) (fun vs H Q E h => ?_) (fun f cdv A outer s H vs Q E hr h => ?_)
  · obtain ⟨st, g, c, n, z, top, rfl, _⟩ := h
    rfl
  · obtain ⟨st, g, c, n, z, top, rfl, hS, hn, hz, t1, t2, kQ⟩ := h
    refine ⟨_, pss_cons (ps_setLc (i := 3) (own := [("_law_k", 4)]) (g := gName 4) (tt := tYes) rfl sc_law_heap.nd rfl rfl (by rfl) (pi_range1 (by rfl) B.range (pa_cons (pe_f cD hr (by decide) (by rfl) (pa_cons (pv 0) (pa_cons (pe_op op_add (pv 1) pe_int) pa_nil))) pa_nil))
        (blkOk_by (own := [("_law_k", 4)]) (N := ["_law_state", "_law_size", "_law_top", "_law_parts", "_law_k"]) (sc := defScope s_law_heap) (by decide +kernel))
        (fun _ _ _ _ _ => pg_name (i := 4) sc_law_heap.nd rfl (Or.inl rfl)) (fun _ _ _ _ _ => pts_nil) (fun _ _ _ _ _ => pe_op op_add pe_int (pe_f cD hr (by decide) (by rfl) (pa_cons (pv 0) (pa_cons (pv 2) pa_nil)))))
      (pss_one (ps_ret (pe_callTy call_tupF (by rfl) B.tuple (by decide +kernel) (pa_cons (pe_callBK (cr_sortedRev (b := true)) (by rfl) B.sorted (by decide +kernel) (pa_cons (pv 3) pa_nil) (pk_cons pe_bl pk_nil)) pa_nil)))), ?_⟩
    refine ⟨_, rfl, _, rfl, _, _, rfl, rfl, st, g, c, n, _, rfl, hS, by omega, by omega, by omega, fun t H1 t0 tz k1 s1 => ?_⟩
    obtain ⟨j, rfl⟩ := Int.eq_ofNat_of_zero_le t0
    refine ⟨(j : Nat), rfl, by omega, by omega, fun L hL => ?_⟩
    have e1 : ((j : Nat) : Int).toNat = j := Int.toNat_natCast j
    rw [e1]
    obtain ⟨gs0, cur0, cs0, k0, q1, q2, _⟩ := id s1
    have nst : st ≠ L := ne_of_none q1 hL
    have ng : g ≠ L := ne_of_none q2 hL
    have kL : KeepS st g H1 (upd H1 L (.lst [])) := keepS_same (same_upd hL)
    refine lc_range (lo := 0) (n := j) (vs := [4]) (fun i H' => KeepS st g H1 H' ∧ StAt H' st g c (n + 4 + 4 * i) ∧ ∃ xs : List Int, H' L = some (.lst (xs.map V.int)) ∧ xs.length = i ∧ ∀ p ∈ xs, 1 ≤ p ∧ p ≤ 10 ^ 30) ⟨kL, s1.same (same_upd hL), [], upd_same, rfl, fun p hp => (by cases hp)⟩ ?_ ?_
    · rintro i H2 hi ⟨k2, s2, xs, hx, lx, bx⟩
      refine ⟨rfl, _, rfl, _, rfl, st, g, c, _, top, rfl, s2, by omega, t1, t2, fun t H3 t0 tt k3 s3 => ?_⟩
      have hx3 : H3 L = some (.lst (xs.map V.int)) := k3 _ _ nst.symm ng.symm hx
      refine ⟨_, _, rfl, rfl, _, hx3, small1000 (by rw [List.length_map]; omega), ?_, ?_, xs ++ [1 + t], ?_, ?_, ?_⟩
      · intro b o b1 b2 hb
        rw [upd_ne (ne_of_none hb hL)]
        exact k3 b o b1 b2 (k2 b o b1 b2 hb)
      · obtain ⟨gs, cur, cs, k, w1, w2, w3, w4, w5, w6, w7, w8, w9⟩ := s3
        refine ⟨gs, cur, cs, k, by rw [upd_ne nst]; exact w1, by rw [upd_ne ng]; exact w2, ?_, by omega, w5, w6, w7, w8, w9⟩
        have : c ≠ L := by
          obtain ⟨_, _, cs1, _, _, _, v3, _⟩ := s1
          exact ne_of_none v3 hL
        rw [upd_ne this]
        exact w3
      · rw [upd_same, List.map_append]
        rfl
      · rw [List.length_append, lx]
        rfl
      · intro p hp
        rcases List.mem_append.mp hp with q | q
        · exact bx p q
        · rw [List.mem_singleton.mp q]
          omega
    · rintro H2 ⟨k2, s2, xs, hx, lx, bx⟩
      refine ⟨_, rfl, L, xs, rfl, rfl, SqL.of hx, fun ys p pm ob hp => ⟨p, _, rfl, SqL.of upd_same, fun l o hl ho => ?_⟩⟩
      have lj : j ≤ 9 := by omega
      refine kQ ys _ _ ⟨fun p hp => (bx p (pm.mem_iff.mp hp)).1, fun p hp => (bx p (pm.mem_iff.mp hp)).2, ord_fall ob, by rw [pm.length_eq, lx]; omega⟩ ((k1.trans k2).trans (keepS_same ((same_upd hp).trans (same_upd hl)))) ((s2.mono (by omega)).same ((same_upd hp).trans (same_upd hl))) ⟨l, o, rfl, upd_same, ho⟩
/-! ### rules drawn -/
def spRawRule : Sp := fun vs H Q _ => ∃ (st g c : Addr) (n m z : Nat) (top : Int), vs = [.ref st, .int (m : Nat), .int (z : Nat), .int top] ∧ StAt H st g c n ∧ n ≤ 700000 ∧ m ≤ 6 ∧ z ≤ 9 ∧ 1 ≤ top ∧ top ≤ 10 ^ 30 ∧
  ∀ (r : Ru) H' v, GR r → KeepS st g H H' → StAt H' st g c (n + 300) → RuAt H' v r → Q v H'
theorem sc_law_raw_rule : FnScope ["_law_state", "_law_many", "_law_size", "_law_top", "_law_k"] ["_law_state", "_law_many", "_law_size", "_law_top"] (defScope s_law_raw_rule) := ⟨rfl, rfl, rfl, by decide +kernel, rfl, by decide +kernel, by decide +kernel⟩
/-- what is no list stays -/
theorem ks_ht {st g c : Addr} {H H' : Hp} {n : Nat} {v : V} {h : Ht} (s : StAt H st g c n) (k : KeepS st g H H') (x : HtAt H v h) : HtAt H' v h := by
  obtain ⟨a, o, e, ha, d⟩ := x
  obtain ⟨gs, cur, cs, k', h1, h2, _⟩ := s
  exact ⟨a, o, e, k _ _ (ne_of ha h1 (by intro z; cases z)) (ne_of ha h2 (by intro z; cases z)) ha, d⟩
theorem ok_law_raw_rule (B : Bi mg) (D : Df K mg "_law_raw_rule" s_law_raw_rule) (cH : Cl P w K mg base CX0 3 "_law_heap" spLawHeap) : Cl P w K mg base CX0 4 "_law_raw_rule" spRawRule := by
  refine mk0 D sc_law_raw_rule (fun _ _ _ _ _ _ us hl => match us, hl with | [_, _, _, _], _ => rfl) (fun vs H Q E h => ?_) (fun f cdv A outer s H vs Q E hr h => ?_)
  · obtain ⟨st, g, c, n, m, z, top, rfl, _⟩ := h
    rfl
  · obtain ⟨st, g, c, n, m, z, top, rfl, hS, hn, hm, hz, t1, t2, kQ⟩ := h
    refine ⟨_, pss_one (ps_ret (pe_callTy call_tuple_of (by rfl) B.tuple (by decide +kernel) (pa_cons
      (pe_lc (own := [("_law_k", 4)]) (g := gName 4) (tt := tYes) rfl sc_law_raw_rule.nd (pi_range1 (by rfl) B.range (pa_cons (pv 1) pa_nil))
        (blkOk_by (own := [("_law_k", 4)]) (N := ["_law_state", "_law_many", "_law_size", "_law_top", "_law_k"]) (sc := defScope s_law_raw_rule) (by decide +kernel))
        (fun _ _ _ _ _ => pg_name (i := 4) sc_law_raw_rule.nd rfl (Or.inl rfl)) (fun _ _ _ _ _ => pts_nil) (fun _ _ _ _ _ => pe_f cH hr (by decide) (by rfl) (pa_cons (pv 0) (pa_cons (pv 2) (pa_cons (pv 3) pa_nil))))) pa_nil))), ?_⟩
    refine ⟨_, rfl, (m : Nat), rfl, by omega, by omega, fun L hL => ?_⟩
    have e1 : ((m : Nat) : Int).toNat = m := Int.toNat_natCast m
    rw [e1]
    obtain ⟨gs0, cur0, cs0, k0, q1, q2, q3, _⟩ := id hS
    have nst : st ≠ L := ne_of_none q1 hL
    have ng : g ≠ L := ne_of_none q2 hL
    have nc : c ≠ L := ne_of_none q3 hL
    have kL : KeepS st g H (upd H L (.lst [])) := keepS_same (same_upd hL)
    refine lc_range (lo := 0) (n := m) (vs := [4]) (fun i H' => KeepS st g H H' ∧ StAt H' st g c (n + 44 * i) ∧ ∃ (us : List V) (r : Ru), H' L = some (.lst us) ∧ Paired (HtAt H') us r ∧ r.length = i ∧ ∀ h ∈ r, GH h) ⟨kL, hS.same (same_upd hL), [], [], upd_same, .nil, rfl, fun p hp => (by cases hp)⟩ ?_ ?_
    · rintro i H2 hi ⟨k2, s2, us, r, hx, pr, lx, bx⟩
      refine ⟨rfl, _, rfl, _, rfl, _, rfl, st, g, c, _, z, top, rfl, s2, by omega, hz, t1, t2, fun h H3 v gh k3 s3 hv => ?_⟩
      have hx3 : H3 L = some (.lst us) := k3 _ _ nst.symm ng.symm hx
      have u3 : SameT H3 (upd H3 L (.lst (us ++ [v]))) := nl_lst hx3
      refine ⟨us, hx3, small1000 (by rw [pr_len pr]; omega), ?_, ?_, us ++ [v], r ++ [h], upd_same, ?_, by rw [List.length_append, lx]; rfl, ?_⟩
      · intro b o b1 b2 hb
        rw [upd_ne (ne_of_none hb hL)]
        exact k3 b o b1 b2 (k2 b o b1 b2 hb)
      · obtain ⟨gs, cur, cs, k, w1, w2, w3, w4, w5, w6, w7, w8, w9⟩ := s3
        exact ⟨gs, cur, cs, k, by rw [upd_ne nst]; exact w1, by rw [upd_ne ng]; exact w2, by rw [upd_ne nc]; exact w3, by omega, w5, w6, w7, w8, w9⟩
      · exact pr_app (L2.Paired.mapP pr fun _ _ q => (ks_ht s2 k3 q).nl u3) (.cons (hv.nl u3) .nil)
      · intro p hp
        rcases List.mem_append.mp hp with q | q
        · exact bx p q
        · rw [List.mem_singleton.mp q]; exact gh
    · rintro H2 ⟨k2, s2, us, r, hx, pr, lx, bx⟩
      refine ⟨L, us, rfl, .inl ⟨SqL.of hx, fun t ht => ?_⟩⟩
      exact kQ r _ _ ⟨bx, by omega⟩ (k2.trans (keepS_same (same_upd ht))) ((s2.mono (by omega)).same (same_upd ht)) ⟨t, us, rfl, upd_same, L2.Paired.mapP pr fun _ _ q => q.same (same_upd ht)⟩
end
end Kd
namespace Kd
open PySem PySem.Spec PyProof.Rows L2
/-! ## A name drawn, statement by statement -/
def Tr (X : Cx) (st : Stmt) (Pre Post : L2.St → Hp → Prop) : Prop := ∃ t, PS X st t ∧ ∀ D σ H, Pre σ H → (∀ σ' H', Post σ' H' → D.nx σ' H') → t D σ H
def Lo (x : Str) : Prop := ∀ c ∈ TL.tl x, 97 ≤ c ∧ c ≤ 122
theorem lo_nil : Lo "" := fun c h => by rw [tl_empty] at h; cases h
theorem lo_app {x y : Str} (a : Lo x) (b : Lo y) : Lo (x ++ y) := fun c h => by
  rw [TL.tl_append] at h
  rcases List.mem_append.mp h with q | q
  · exact a c q
  · exact b c q
theorem lo_one {c : Nat} (h : 97 ≤ c ∧ c ≤ 122) : Lo (⟨#[c]⟩ : Str) := fun d hd => by
  have : d = c := List.mem_singleton.mp hd
  rw [this]
  exact h
theorem tl_cutT (z : Str) (k : Nat) : TL.tl (cutS z none (some (k : Int))) = (TL.tl z).take k := by
  show ((z.cps.toList.drop (HT.sIx z.length 0 none)).take (HT.sIx z.length z.length (some (k : Int)) - HT.sIx z.length 0 none)) = _
  rw [HT.sIx_none, HT.sIx_nat, List.drop_zero, Nat.sub_zero]
  have e : z.length = z.cps.toList.length := TL.len_tl z
  show z.cps.toList.take (min k z.length) = z.cps.toList.take k
  by_cases h : k ≤ z.length
  · rw [Nat.min_eq_left h]
  · rw [Nat.min_eq_right (by omega), List.take_of_length_le (by omega), List.take_of_length_le (by omega)]
theorem tl_cutB (z : Str) (h : 8 ≤ z.length) : TL.tl (cutS z (some (-8)) none) = (TL.tl z).drop (z.length - 8) := by
  show ((z.cps.toList.drop (HT.sIx z.length 0 (some (-8)))).take (HT.sIx z.length z.length none - HT.sIx z.length 0 (some (-8)))) = _
  have e : z.length = z.cps.toList.length := TL.len_tl z
  have e1 : HT.sIx z.length 0 (some (-8)) = z.length - 8 := by
    show (if (-8 : Int) < 0 then ((-8 : Int) + (z.length : Int)).toNat else min (-8 : Int).toNat z.length) = _
    rw [if_pos (by decide)]
    omega
  rw [e1, HT.sIx_none]
  exact List.take_of_length_le (by rw [List.length_drop]; omega)
theorem tl_cutB0 (z : Str) (h : z.length < 8) : TL.tl (cutS z (some (-8)) none) = TL.tl z := by
  show ((z.cps.toList.drop (HT.sIx z.length 0 (some (-8)))).take (HT.sIx z.length z.length none - HT.sIx z.length 0 (some (-8)))) = _
  have e : z.length = z.cps.toList.length := TL.len_tl z
  have e1 : HT.sIx z.length 0 (some (-8)) = 0 := by
    show (if (-8 : Int) < 0 then ((-8 : Int) + (z.length : Int)).toNat else min (-8 : Int).toNat z.length) = _
    rw [if_pos (by decide)]
    omega
  rw [e1, HT.sIx_none, List.drop_zero]
  exact List.take_of_length_le (by omega)
theorem lo_cutT {z : Str} (a : Lo z) (k : Nat) : Lo (cutS z none (some (k : Int))) := fun c h => by
  rw [tl_cutT] at h
  exact a c (List.mem_of_mem_take h)
theorem len_cutT (z : Str) (k : Nat) : (cutS z none (some (k : Int))).length = min k z.length := by
  rw [TL.len_tl, tl_cutT, List.length_take, ← TL.len_tl]
theorem cutB_ok {z : Str} (a : Lo z) (h : z.length ≠ 0) : Lo (cutS z (some (-8)) none) ∧ (cutS z (some (-8)) none).length ≤ 8 ∧ (cutS z (some (-8)) none).length ≠ 0 := by
  by_cases h8 : 8 ≤ z.length
  · refine ⟨fun c hc => ?_, ?_, ?_⟩
    · rw [tl_cutB z h8] at hc
      exact a c (List.mem_of_mem_drop hc)
    · rw [TL.len_tl, tl_cutB z h8, List.length_drop, ← TL.len_tl]
      omega
    · rw [TL.len_tl, tl_cutB z h8, List.length_drop, ← TL.len_tl]
      omega
  · have e := tl_cutB0 z (by omega)
    refine ⟨fun c hc => ?_, ?_, ?_⟩
    · rw [e] at hc
      exact a c hc
    · rw [TL.len_tl, e, ← TL.len_tl]
      omega
    · rw [TL.len_tl, e, ← TL.len_tl]
      exact h
theorem nm_of {x : Str} (a : Lo x) (h0 : x.length ≠ 0) (h8 : x.length ≤ 8) : Nm x := ⟨fun z => h0 (by rw [TL.len_tl, z]; rfl), h8, a⟩
theorem Nm.pos {x : Str} (h : Nm x) : x.length ≠ 0 := fun z => h.ne (by rw [TL.len_tl] at z; exact List.length_eq_zero_iff.mp z)
theorem alpha_get {t : Int} (h0 : 0 ≤ t) (h : t < 26) : ∃ c, atI ("abcdefghijklmnopqrstuvwxyz" : Str).cps.toList t = some c ∧ 97 ≤ c ∧ c ≤ 122 := by
  obtain ⟨k, rfl⟩ := Int.eq_ofNat_of_zero_le h0
  refine ⟨97 + k, atI_nat ?_, by omega, by omega⟩
  show (TL.tl ("abcdefghijklmnopqrstuvwxyz" : Str))[k]? = _
  rw [tl_letters, List.getElem?_map, List.getElem?_range (by omega)]
  rfl
theorem alpha_len : ("abcdefghijklmnopqrstuvwxyz" : Str).length ≤ sizeLine := by decide +kernel
theorem lo_mno : Lo "mnopqrst" := by unfold Lo; decide +kernel
theorem len_mno : ("mnopqrst" : Str).length = 8 := by decide +kernel
theorem lo_q : Lo "q" := by unfold Lo; decide +kernel
theorem len_q : ("q" : Str).length = 1 := by decide +kernel
theorem lo_z : Lo "zzzzzzz" := by unfold Lo; decide +kernel
theorem len_z : ("zzzzzzz" : Str).length = 7 := by decide +kernel
theorem len_c1 (c : Nat) : (⟨#[c]⟩ : Str).length = 1 := rfl
section
variable {P : Program} {w : World} {K : PySem.W.Frag} {mg : Str → Option Value} {base : Heap}
abbrev nmN : List Str := ["_law_state", "_law_known", "_law_name_here", "_law_k"]
abbrev XN (P : Program) (w : World) (K : PySem.W.Frag) (mg : Str → Option Value) (base : Heap) (f : Addr) (cdv : Value) (A : Around) (outer : List Env) (s : Shared) (H : Hp) (E : XK) : Cx :=
  (cxOf CX0 P w K mg base nmN "_law_name" (defScope s_law_name) f cdv A outer s H E).nox
abbrev stN (i : Nat) : Stmt := (defBody s_law_name).getD i (.Pass ⟨0, 0, 0, 0⟩)
theorem sc_law_name : FnScope nmN ["_law_state", "_law_known"] (defScope s_law_name) := ⟨rfl, rfl, rfl, by decide +kernel, rfl, by decide +kernel, by decide +kernel⟩
/-- what stands between two statements -/
def NmS (st g c kn : Addr) (ks : List Str) (H0 : Hp) (n : Nat) (C : Str → Prop) (σ : L2.St) (H : Hp) : Prop :=
  ∃ (x : Str) (v : Option V), σ = [some (.ref st), some (.ref kn), some (.str x), v] ∧ Lo x ∧ C x ∧ KeepS st g H0 H ∧ StAt H st g c n
variable {f : Addr} {cdv : Value} {A : Around} {outer : List Env} {s : Shared} {H0 : Hp} {E : XK} {st g c kn : Addr} {ks : List Str} {n : Nat}
structure KnOk (H0 : Hp) (st g kn : Addr) (ks : List Str) : Prop where
  at_ : H0 kn = some (.lst (ks.map V.str))
  n1 : kn ≠ st
  n2 : kn ≠ g
  nms : ∀ x ∈ ks, Nm x
  few : ks.length ≤ 9
theorem KnOk.get {H0 H : Hp} (k : KnOk H0 st g kn ks) (h : KeepS st g H0 H) : H kn = some (.lst (ks.map V.str)) := h _ _ k.n1 k.n2 k.at_
theorem last_of {ks : List Str} (h : ks ≠ []) : ∃ x, x ∈ ks ∧ atI (ks.map V.str) (-1) = some (.str x) := by
  obtain ⟨r, x, rfl⟩ : ∃ r x, ks = r ++ [x] := ⟨ks.dropLast, ks.getLast h, (List.dropLast_concat_getLast h).symm⟩
  refine ⟨x, by simp, ?_⟩
  rw [List.map_append]
  exact atI_last _ _
theorem nm_s1 (cD : Cl P w K mg base CX0 2 "_law_draw" spDraw) (hr : Room 2 (A.deeper (envOfC "_law_name" (defScope s_law_name) s.heap.objs.size f cdv))) (k : KnOk H0 st g kn ks) (hn : n ≤ 700000) :
    Tr (XN P w K mg base f cdv A outer s H0 E) (stN 1) (NmS st g c kn ks H0 n (fun x => x.length = 0)) (NmS st g c kn ks H0 (n + 4) (fun x => x.length ≤ 4)) := by
  refine ⟨_, ps_if (PW.pt (pw_and (pt_truth (pv 1) (by intro _; rfl)) (pw_and1 (pt_cmpR op_eq (pe_f cD hr (by decide) (by rfl) (pa_cons (pv 0) (pa_cons pe_int pa_nil))) pe_int (nomark _)))))
    (pss_one (ps_set (i := 2) sc_law_name.nd rfl (Or.inl rfl) (pe_slice (r := rSlS) sl_str (pe_ix ix_list (pv 1) (pe_un un_neg pe_int) (fun _ _ => rfl)) po_none (po_some pe_int)))) pss_nil, ?_⟩
  rintro D σ H ⟨x, v, rfl, lx, cx, k1, s1⟩ kD
  refine ⟨_, rfl, !(ks.map V.str).isEmpty, .inl ⟨_, SqL.of (k.get k1), rfl⟩, ?_⟩
  by_cases h : ks = []
  · subst h
    exact iteF (kD _ _ ⟨x, v, rfl, lx, by omega, k1, s1.mono (by omega)⟩)
  · have e : (ks.map V.str).isEmpty = false := by
      cases ks with
      | nil => exact absurd rfl h
      | cons a b => rfl
    rw [e]
    refine iteT ⟨_, rfl, st, g, c, n, 2, rfl, s1, by omega, by decide, by decide, fun t H1 t0 t2 k2 s2 => ⟨rfl, _, rfl, ?_⟩⟩
    refine ite2 (fun _ => ?_) (fun _ => kD _ _ ⟨x, v, rfl, lx, by omega, k1.trans k2, s2⟩)
    obtain ⟨y, hy, ey⟩ := last_of h
    have ny := k.nms y hy
    have := ny.few
    refine ⟨_, rfl, _, rfl, kn, _, -1, .str y, rfl, rfl, SqL.of (k.get (k1.trans k2)), ey, 4, rfl, y, rfl, by rw [sizeLine_eq]; omega, ?_⟩
    exact kD _ _ ⟨_, v, rfl, lo_cutT ny.low 4, by show (cutS y none (some 4)).length ≤ 4; rw [show (cutS y none (some 4)).length = min 4 y.length from len_cutT y 4]; omega, k1.trans k2, s2⟩
theorem nm_s2 (B : Bi mg) (cD : Cl P w K mg base CX0 2 "_law_draw" spDraw) (hr : Room 2 (A.deeper (envOfC "_law_name" (defScope s_law_name) s.heap.objs.size f cdv))) (hn : n ≤ 700000) :
    Tr (XN P w K mg base f cdv A outer s H0 E) (stN 2) (NmS st g c kn ks H0 n (fun x => x.length ≤ 4)) (NmS st g c kn ks H0 (n + 16) (fun x => x.length ≠ 0 ∧ x.length ≤ 7)) := by
  refine ⟨_, ps_for PassesOwn.never rfl (pi_range1 (by rfl) B.range (pa_cons (pe_op op_add pe_int (pe_f cD hr (by decide) (by rfl) (pa_cons (pv 0) (pa_cons pe_int pa_nil)))) pa_nil)) (pg_name (i := 3) sc_law_name.nd rfl (Or.inl rfl))
    (pss_one (ps_aug (i := 2) sc_law_name.nd rfl (Or.inl rfl) (pe_ix (r := rIxS) ix_str pe_str (pe_f cD hr (by decide) (by rfl) (pa_cons (pv 0) (pa_cons pe_int pa_nil))) (fun _ _ => rfl)) ip_addS)), ?_⟩
  rintro D σ H ⟨x, v, rfl, lx, cx, k1, s1⟩ kD
  refine ⟨_, rfl, st, g, c, n, 3, rfl, s1, by omega, by decide, by decide, fun t H1 t0 t3 k2 s2 => ⟨_, _, rfl, rfl, 1 + t, rfl, by omega, by omega, ?_⟩⟩
  obtain ⟨j, rfl⟩ := Int.eq_ofNat_of_zero_le t0
  have ej : ((1 : Int) + (j : Nat)).toNat = j + 1 := by omega
  rw [ej]
  refine for_range (lo := 0) (n := j + 1) (fun i σ H' => NmS st g c kn ks H0 (n + 4 + 4 * i) (fun x => (0 < i → x.length ≠ 0) ∧ x.length ≤ 4 + i) σ H') ⟨x, v, rfl, lx, ⟨by omega, by omega⟩, k1.trans k2, s2⟩ ?_ ?_
  · rintro i σ H2 hi ⟨y, v, rfl, ly, ⟨_, cy⟩, k3, s3⟩
    refine ⟨_, rfl, _, rfl, st, g, c, _, 26, rfl, s3, by omega, by decide, by decide, fun t H3 u0 u26 k4 s4 => ?_⟩
    obtain ⟨d, hd, hd2⟩ := alpha_get u0 u26
    refine ⟨_, _, d, rfl, rfl, alpha_len, hd, y, _, rfl, rfl, by rw [len_c1, sizeLine_eq]; omega, ?_⟩
    exact ⟨_, _, rfl, lo_app ly (lo_one hd2), ⟨fun _ => by rw [len_app, len_c1]; omega, by rw [len_app, len_c1]; omega⟩, k3.trans k4, s4⟩
  · rintro σ H2 ⟨y, v, rfl, ly, ⟨c1, c2⟩, k3, s3⟩
    exact kD _ _ ⟨y, v, rfl, ly, ⟨c1 (by omega), by omega⟩, k3, s3.mono (by omega)⟩
theorem nm_s3 (cD : Cl P w K mg base CX0 2 "_law_draw" spDraw) (hr : Room 2 (A.deeper (envOfC "_law_name" (defScope s_law_name) s.heap.objs.size f cdv))) (hn : n ≤ 700000) :
    Tr (XN P w K mg base f cdv A outer s H0 E) (stN 3) (NmS st g c kn ks H0 n (fun x => x.length ≠ 0 ∧ x.length ≤ 7)) (NmS st g c kn ks H0 (n + 4) (fun x => x.length ≠ 0 ∧ x.length ≤ 8)) := by
  refine ⟨_, ps_if (pt_cmpR op_eq (pe_f cD hr (by decide) (by rfl) (pa_cons (pv 0) (pa_cons pe_int pa_nil))) pe_int (nomark _))
    (pss_one (ps_set (i := 2) sc_law_name.nd rfl (Or.inl rfl) (pe_slice (r := rSlS) sl_str (pe_op op_add_str (pv 2) pe_str) po_none (po_some pe_int)))) pss_nil, ?_⟩
  rintro D σ H ⟨x, v, rfl, lx, ⟨c0, c7⟩, k1, s1⟩ kD
  refine ⟨_, rfl, st, g, c, n, 6, rfl, s1, by omega, by decide, by decide, fun t H1 t0 t3 k2 s2 => ⟨rfl, _, rfl, ?_⟩⟩
  refine ite2 (fun _ => ?_) (fun _ => kD _ _ ⟨x, v, rfl, lx, ⟨c0, by omega⟩, k1.trans k2, s2⟩)
  have l1 : (x ++ ("mnopqrst" : Str)).length = x.length + 8 := by rw [len_app, len_mno]
  refine ⟨_, rfl, _, _, rfl, rfl, by rw [len_mno, sizeLine_eq]; omega, 8, rfl, _, rfl, by rw [l1, sizeLine_eq]; omega, ?_⟩
  have l2 : (cutS (x ++ ("mnopqrst" : Str)) none (some 8)).length = min 8 (x ++ ("mnopqrst" : Str)).length := len_cutT _ 8
  exact kD _ _ ⟨_, v, rfl, lo_cutT (lo_app lx lo_mno) 8, ⟨by rw [l2]; omega, by rw [l2]; omega⟩, k1.trans k2, s2⟩
theorem nm_s4 (B : Bi mg) (cD : Cl P w K mg base CX0 2 "_law_draw" spDraw) (hr : Room 2 (A.deeper (envOfC "_law_name" (defScope s_law_name) s.heap.objs.size f cdv))) (k : KnOk H0 st g kn ks) (hn : n ≤ 700000) :
    Tr (XN P w K mg base f cdv A outer s H0 E) (stN 4) (NmS st g c kn ks H0 n (fun x => x.length ≠ 0 ∧ x.length ≤ 8)) (NmS st g c kn ks H0 (n + 8) (fun x => x.length ≠ 0 ∧ x.length ≤ 8)) := by
  refine ⟨_, ps_if (PW.pt (pw_and (pt_truth (pv 1) (by intro _; rfl)) (pw_and (pt_cmpR op_eq (pe_callB call_len_str (by rfl) B.len PySem.boot_len (pa_cons (pe_ix ix_list (pv 1) (pe_un un_neg pe_int) (fun _ _ => rfl)) pa_nil)) pe_int (nomark _))
      (pw_and1 (pt_cmpR op_eq (pe_f cD hr (by decide) (by rfl) (pa_cons (pv 0) (pa_cons pe_int pa_nil))) pe_int (nomark _))))))
    (pss_one (ps_set (i := 2) sc_law_name.nd rfl (Or.inl rfl) (pe_op op_add_str (pe_slice (r := rSlS) sl_str (pe_ix ix_list (pv 1) (pe_un un_neg pe_int) (fun _ _ => rfl)) po_none (po_some pe_int))
      (pe_ix (r := rIxS) ix_str pe_str (pe_f cD hr (by decide) (by rfl) (pa_cons (pv 0) (pa_cons pe_int pa_nil))) (fun _ _ => rfl))))) pss_nil, ?_⟩
  rintro D σ H ⟨x, v, rfl, lx, cx, k1, s1⟩ kD
  refine ⟨_, rfl, !(ks.map V.str).isEmpty, .inl ⟨_, SqL.of (k.get k1), rfl⟩, ?_⟩
  by_cases h : ks = []
  · subst h
    exact iteF (kD _ _ ⟨x, v, rfl, lx, cx, k1, s1.mono (by omega)⟩)
  · have e : (ks.map V.str).isEmpty = false := by
      cases ks with
      | nil => exact absurd rfl h
      | cons a b => rfl
    rw [e]
    obtain ⟨y, hy, ey⟩ := last_of h
    have ny := k.nms y hy
    have := ny.few
    refine iteT ⟨_, rfl, _, rfl, kn, _, -1, .str y, rfl, rfl, SqL.of (k.get k1), ey, y, rfl, by rw [sizeLine_eq]; omega, rfl, _, rfl, ?_⟩
    refine ite2 (fun h8 => ?_) (fun _ => iteF (kD _ _ ⟨x, v, rfl, lx, cx, k1, s1.mono (by omega)⟩))
    have e8 : y.length = 8 := by
      have := of_decide_eq_true h8
      injection this with this
      omega
    refine ⟨_, rfl, st, g, c, n, 2, rfl, s1, by omega, by decide, by decide, fun t H1 t0 t2 k2 s2 => ⟨rfl, _, rfl, ?_⟩⟩
    refine ite2 (fun _ => ?_) (fun _ => kD _ _ ⟨x, v, rfl, lx, cx, k1.trans k2, s2.mono (by omega)⟩)
    refine ⟨_, rfl, _, rfl, kn, _, -1, .str y, rfl, rfl, SqL.of (k.get (k1.trans k2)), ey, 7, rfl, y, rfl, by rw [sizeLine_eq]; omega, ?_⟩
    refine ⟨_, rfl, st, g, c, _, 26, rfl, s2, by omega, by decide, by decide, fun t H3 u0 u26 k4 s4 => ?_⟩
    obtain ⟨d, hd, hd2⟩ := alpha_get u0 u26
    have l2 : (cutS y none (some 7)).length = min 7 y.length := len_cutT _ 7
    refine ⟨_, _, d, rfl, rfl, alpha_len, hd, _, _, rfl, rfl, by rw [len_c1, l2, sizeLine_eq]; omega, ?_⟩
    exact kD _ _ ⟨_, v, rfl, lo_app (lo_cutT ny.low 7) (lo_one hd2), ⟨by rw [len_app, len_c1]; omega, by rw [len_app, len_c1, l2]; omega⟩, (k1.trans k2).trans k4, s4⟩
theorem nm_s5 (B : Bi mg) (k : KnOk H0 st g kn ks) :
    Tr (XN P w K mg base f cdv A outer s H0 E) (stN 5) (NmS st g c kn ks H0 n (fun x => x.length ≠ 0 ∧ x.length ≤ 8)) (NmS st g c kn ks H0 n (fun x => x.length ≠ 0 ∧ x.length ≤ 8)) := by
  refine ⟨_, ps_for PassesOwn.never rfl (pi_range1 (by rfl) B.range (pa_cons (pe_op op_add (pe_callB call_len_seq (by rfl) B.len PySem.boot_len (pa_cons (pv 1) pa_nil)) pe_int) pa_nil)) (pg_name (i := 3) sc_law_name.nd rfl (Or.inl rfl))
    (pss_one (ps_if (pt_cmpR op_in_seq (pv 2) (pv 1) (by rfl)) (pss_one (ps_set (i := 2) sc_law_name.nd rfl (Or.inl rfl) (pe_slice (r := rSlS) sl_str (pe_op op_add_str (pv 2) pe_str) (po_some (pe_un un_neg pe_int)) po_none))) pss_nil)), ?_⟩
  rintro D σ H ⟨x, v, rfl, lx, cx, k1, s1⟩ kD
  have few := k.few
  refine ⟨_, rfl, kn, _, rfl, .inl (SqL.of (k.get k1)), _, _, rfl, rfl, _, rfl, by omega, by rw [List.length_map]; omega, ?_⟩
  refine for_range (lo := 0) (n := (((ks.map V.str).length : Nat) + 1 : Int).toNat) (fun i σ H' => NmS st g c kn ks H0 n (fun x => x.length ≠ 0 ∧ x.length ≤ 8) σ H') ⟨x, v, rfl, lx, cx, k1, s1⟩ ?_ ?_
  · rintro i σ H2 hi ⟨y, v, rfl, ly, ⟨c0, c8⟩, k3, s3⟩
    refine ⟨_, rfl, _, rfl, kn, _, rfl, .inl (SqL.of (k.get k3)), rfl, flat_strs ks, _, rfl, ?_⟩
    refine ite2 (fun _ => ?_) (fun _ => ⟨y, _, rfl, ly, ⟨c0, c8⟩, k3, s3⟩)
    have l1 : (y ++ ("q" : Str)).length = y.length + 1 := by rw [len_app, len_q]
    obtain ⟨q1, q2, q3⟩ := cutB_ok (z := y ++ ("q" : Str)) (lo_app ly lo_q) (by rw [l1]; omega)
    exact ⟨_, rfl, _, _, rfl, rfl, by rw [len_q, sizeLine_eq]; omega, _, rfl, -8, rfl, _, rfl, by rw [l1, sizeLine_eq]; omega, _, _, rfl, q1, ⟨q3, q2⟩, k3, s3⟩
  · rintro σ H2 ⟨y, v, rfl, ly, cy, k3, s3⟩
    exact kD _ _ ⟨y, v, rfl, ly, cy, k3, s3⟩
theorem nm_s6 (B : Bi mg) (k : KnOk H0 st g kn ks) :
    Tr (XN P w K mg base f cdv A outer s H0 E) (stN 6) (NmS st g c kn ks H0 n (fun x => x.length ≠ 0 ∧ x.length ≤ 8)) (NmS st g c kn ks H0 n (fun x => x.length ≠ 0 ∧ x.length ≤ 8)) := by
  refine ⟨_, ps_for PassesOwn.never rfl (pi_range1 (by rfl) B.range (pa_cons (pe_op op_add (pe_callB call_len_seq (by rfl) B.len PySem.boot_len (pa_cons (pv 1) pa_nil)) pe_int) pa_nil)) (pg_name (i := 3) sc_law_name.nd rfl (Or.inl rfl))
    (pss_one (ps_if (pt_cmpR op_in_seq (pv 2) (pv 1) (by rfl)) (pss_one (ps_set (i := 2) sc_law_name.nd rfl (Or.inl rfl) (pe_op op_add_str pe_str (pe_ix (r := rIxS) ix_str pe_str (pv 3) (fun _ _ => rfl))))) pss_nil)), ?_⟩
  rintro D σ H ⟨x, v, rfl, lx, cx, k1, s1⟩ kD
  have few := k.few
  refine ⟨_, rfl, kn, _, rfl, .inl (SqL.of (k.get k1)), _, _, rfl, rfl, _, rfl, by omega, by rw [List.length_map]; omega, ?_⟩
  refine for_range (lo := 0) (n := (((ks.map V.str).length : Nat) + 1 : Int).toNat) (fun i σ H' => NmS st g c kn ks H0 n (fun x => x.length ≠ 0 ∧ x.length ≤ 8) σ H') ⟨x, v, rfl, lx, cx, k1, s1⟩ ?_ ?_
  · rintro i σ H2 hi ⟨y, v, rfl, ly, ⟨c0, c8⟩, k3, s3⟩
    refine ⟨_, rfl, _, rfl, kn, _, rfl, .inl (SqL.of (k.get k3)), rfl, flat_strs ks, _, rfl, ?_⟩
    refine ite2 (fun _ => ?_) (fun _ => ⟨y, _, rfl, ly, ⟨c0, c8⟩, k3, s3⟩)
    rw [List.length_map] at hi
    obtain ⟨d, hd, hd2⟩ := alpha_get (t := 0 + (i : Nat)) (by omega) (by omega)
    exact ⟨_, rfl, _, _, d, rfl, rfl, alpha_len, hd, _, _, rfl, rfl, by rw [len_z, len_c1, sizeLine_eq]; omega, _, _, rfl, lo_app lo_z (lo_one hd2), ⟨by rw [len_app, len_z]; omega, by rw [len_app, len_z, len_c1]; omega⟩, k3, s3⟩
  · rintro σ H2 ⟨y, v, rfl, ly, cy, k3, s3⟩
    exact kD _ _ ⟨y, v, rfl, ly, cy, k3, s3⟩
def spLawName : Sp := fun vs H Q _ => ∃ (st g c kn : Addr) (n : Nat) (ks : List Str), vs = [.ref st, .ref kn] ∧ StAt H st g c n ∧ n ≤ 600000 ∧ KnOk H st g kn ks ∧ ∀ (x : Str) H', Nm x → KeepS st g H H' → StAt H' st g c (n + 40) → Q (.str x) H'
theorem ok_law_name (B : Bi mg) (D : Df K mg "_law_name" s_law_name) (cD : Cl P w K mg base CX0 2 "_law_draw" spDraw) : Cl P w K mg base CX0 3 "_law_name" spLawName := by
  refine mk0 D sc_law_name (fun _ _ _ _ _ _ us hl => match us, hl with | [_, _], _ => rfl) (fun vs H Q E h => ?_) (fun f cdv A outer s H vs Q E hr h => ?_)
  · obtain ⟨st, g, c, kn, n, ks, rfl, _⟩ := h
    rfl
  · obtain ⟨st, g, c, kn, n, ks, rfl, hS, hn, k, kQ⟩ := h
    obtain ⟨t1, p1, q1⟩ := nm_s1 (st := st) (g := g) (c := c) (n := n) (outer := outer) (E := E) cD hr k (by omega)
    obtain ⟨t2, p2, q2⟩ := nm_s2 (H0 := H) (st := st) (g := g) (c := c) (kn := kn) (ks := ks) (n := n + 4) (outer := outer) (E := E) B cD hr (by omega)
    obtain ⟨t3, p3, q3⟩ := nm_s3 (H0 := H) (st := st) (g := g) (c := c) (kn := kn) (ks := ks) (n := n + 4 + 16) (outer := outer) (E := E) cD hr (by omega)
    obtain ⟨t4, p4, q4⟩ := nm_s4 (st := st) (g := g) (c := c) (n := n + 4 + 16 + 4) (outer := outer) (E := E) B cD hr k (by omega)
    obtain ⟨t5, p5, q5⟩ := nm_s5 (P := P) (w := w) (K := K) (base := base) (f := f) (cdv := cdv) (A := A) (s := s) (st := st) (g := g) (c := c) (n := n + 4 + 16 + 4 + 8) (outer := outer) (E := E) B k
    obtain ⟨t6, p6, q6⟩ := nm_s6 (P := P) (w := w) (K := K) (base := base) (f := f) (cdv := cdv) (A := A) (s := s) (st := st) (g := g) (c := c) (n := n + 4 + 16 + 4 + 8) (outer := outer) (E := E) B k
    refine ⟨_, pss_cons (ps_set (i := 2) sc_law_name.nd rfl (Or.inl rfl) pe_str) (pss_cons p1 (pss_cons p2 (pss_cons p3 (pss_cons p4 (pss_cons p5 (pss_cons p6 (pss_one (ps_ret (pv 2))))))))), ?_⟩
    refine q1 _ _ _ ⟨"", none, rfl, lo_nil, by decide +kernel, KeepS.refl H, hS⟩ fun σ1 H1 h1 => ?_
    refine q2 _ _ _ h1 fun σ2 H2 h2 => ?_
    refine q3 _ _ _ h2 fun σ3 H3 h3 => ?_
    refine q4 _ _ _ h3 fun σ4 H4 h4 => ?_
    refine q5 _ _ _ h4 fun σ5 H5 h5 => ?_
    refine q6 _ _ _ h5 fun σ6 H6 h6 => ?_
    obtain ⟨y, v, rfl, ly, ⟨c0, c8⟩, k3, s3⟩ := h6
    exact ⟨_, rfl, kQ y H6 (nm_of ly c0 c8) k3 (s3.mono (by omega))⟩
end
end Kd
namespace Kd
open PySem PySem.Spec PyProof.Rows L2
/-! ## sum of a tuple of ints -/
section
variable {prog : Program} {w : World} {A : Around} {E : Value → Shared → Prop} {s : Shared} {l : Addr}
theorem sum_tupR {xs : Array (Int × Tok)} {Q : Value → Shared → Prop} (hh : A.handled = none) (ht : IsTup s.heap l (intItems xs))
    (h : ∀ h' tk t', (∀ b o, s.heap.get? b = some o → h'.get? b = some o) → Q (.int (preSum (numAt xs) xs.size) t') { s with heap := h', toks := tk }) : wpAny (model prog w) A (call (.builtin "sum") [.ref l]) Q E s := by
  obtain ⟨ob, hob, hcl, n, hd⟩ := id ht
  have hlt : l < s.heap.objs.size := Heap.lt_size hob
  have hne : l ≠ s.heap.objs.size := Nat.ne_of_lt hlt
  refine call_sum_walkG (iter_tuple ht ?_)
  have W := Walks.tuple (prog := prog) (w := w) (A := A.in1) hh s.heap.objs.size l hne (intItems xs)
  refine ⟨_, _, _, _, _, _, numAt xs, rfl, W, ⟨⟨_, Heap.get?_push_size _ rfl, rfl, rfl⟩, ⟨ob, Heap.get?_push_of_some _ hob, hcl, n, hd⟩⟩, fun b hb => ?_, (fun _ _ => intItems_at), fun h' tk t' hk => ?_⟩
  · show b < (s.heap.push _).objs.size
    rw [Heap.size_push]
    rcases List.mem_cons.mp hb with rfl | hb
    · exact Nat.lt_succ_self _
    · rw [List.mem_singleton.mp hb]
      exact Nat.lt_succ_of_lt hlt
  · have kept : ∀ b o, s.heap.get? b = some o → h'.get? b = some o := fun b o e => by
      refine hk b o (fun hm => ?_) (Heap.get?_push_of_some _ e)
      have eb := List.mem_singleton.mp hm
      rw [eb] at e
      exact absurd (Heap.lt_size e) (Nat.lt_irrefl _)
    have q := h h' tk t' kept
    simpa [intItems] using q
end
section
variable {X : Cx}
def rSumT (K : PySem.W.Frag) : List V → Hp → VK → Prop := fun vs H Q => ∃ (a : Addr) (ns : List Int), vs = [V.ref a] ∧ SqT K H a (ns.map V.int) ∧ Q (.int ns.sum) H
theorem cr_sumT (hc : X.calm = true) : CallR X (.builtin "sum") (rSumT X.K) := by
  intro pins s σ H vs us Q I r h
  obtain ⟨a, ns, rfl, hs, q⟩ := h
  obtain ⟨its, rv, ht, _⟩ := I.tuple hs
  rw [Vals.ref1 r]
  have hi := rv.ints
  obtain ⟨xs, e⟩ := hi.allInts.items
  have hn : numsOf (intItems xs).toList = ns := by rw [← e]; exact hi.numsOf
  rw [nums_intItems] at hn
  rw [e] at ht
  refine sum_tupR (I.ok.hd hc) ht fun h' tk t' hk => ?_
  rw [preSum_eq, List.take_of_length_le (by simp), hn]
  exact ⟨.int _, H, I.kept hk, ⟨_, rfl⟩, q⟩
end
end Kd
namespace Kd
open PySem PySem.Spec PyProof.Rows L2
section
variable {P : Program} {w : World} {K : PySem.W.Frag} {mg : Str → Option Value} {base : Heap}
/-! ## The law's own reckoning -/
theorem sc_law_lies : FnScope ["_law_one", "_law_other", "_law_part"] ["_law_one", "_law_other"] (defScope s_law_lies) := ⟨rfl, rfl, rfl, by decide +kernel, rfl, by decide +kernel, by decide +kernel⟩
theorem ok_law_lies (B : Bi mg) (D : Df K mg "_law_lies" s_law_lies) : Cl P w K mg base CX0 1 "_law_lies" spLies := by
  refine mk0 D sc_law_lies (fun _ _ _ _ _ _ us hl => match us, hl with | [_, _], _ => rfl) (fun vs H Q E h => ?_) (fun f cdv A outer s H vs Q E hr h => ?_)
  · obtain ⟨u, v, x, y, rfl, _⟩ := h
    rfl
  · obtain ⟨u, v, x, y, rfl, ⟨a, oa, rfl, ha, da⟩, ⟨b, ob, rfl, hb, db⟩, hl, k⟩ := h
    have sq : ∀ H', Same H H' → SqT K H' a (x.map V.int) := fun H' s => .inl (.inr ⟨oa, s _ _ ha⟩)
    refine ⟨_, pss_one (ps_ret (pe_callB (cr_all rfl) (by rfl) B.all (by decide +kernel) (pa_cons
      (pe_lc (own := [("_law_part", 2)]) (g := gName 2) (tt := tYes) rfl sc_law_lies.nd (pi_tup (pv 0)) (blkOk_by (own := [("_law_part", 2)]) (N := ["_law_one", "_law_other", "_law_part"]) (sc := defScope s_law_lies) (by decide +kernel))
        (fun _ _ _ _ _ => pg_name (i := 2) sc_law_lies.nd rfl (Or.inl rfl)) (fun _ _ _ _ _ => pts_nil)
        (fun _ _ _ _ _ => pe_cmpR op_le (pe_tcnt (pv 0) (pv 2)) (pe_tcnt (pv 1) (pv 2)) (nomark _))) pa_nil))), ?_⟩
    refine ⟨_, rfl, a, rfl, ⟨_, sq H (Same.refl H)⟩, fun L hL => lc_mk (vs := [2]) (R := fun (_ : Hp) v (p : Int) => v = V.bl (decide (x.count p ≤ y.count p))) (walk_tup (K := K) (a := a)) (nl_val (f := fun p : Int => V.bl (decide (x.count p ≤ y.count p)))) x (List.length_map ..).symm (by rw [List.length_map]; exact hl) hL sq ?_ ?_⟩
    · intro i z p H2 hi hz hy s2 Kc hK
      rw [List.getElem?_map, hy] at hz
      cases hz
      refine ⟨rfl, _, rfl, a, oa, x, rfl, s2 _ _ ha, da, _, rfl, p, rfl, s2 _ _ ha, _, rfl, b, ob, y, rfl, s2 _ _ hb, db, _, rfl, p, rfl, s2 _ _ hb, _, _, rfl, rfl, hK _ H2 (Same.refl H2) ?_⟩
      simp only [Int.ofNat_le]
    · intro H2 us s2 hL2 pu
      have e := pr_map (f := fun p : Int => V.bl (decide (x.count p ≤ y.count p))) (H := H2) pu
      refine ⟨L, x.map fun p => decide (x.count p ≤ y.count p), rfl, SqL.of (by rw [hL2, e, List.map_map]; rfl), ?_⟩
      have e2 : (x.map fun p => decide (x.count p ≤ y.count p)).all id = lies x y := by
        unfold lies
        rw [List.all_map]
        rfl
      show Q (.bl ((x.map fun p => decide (x.count p ≤ y.count p)).all id)) H2
      rw [e2]
      exact k H2 s2
def spLawJoined : Sp := fun vs H Q _ => ∃ (u : V) (hs : List Ht), vs = [u] ∧ HsAt H u hs ∧ Few hs ∧ ∀ H' p l, Same H H' → H' p = some (.tup (l.map V.int)) → IsJ hs l → Q (.ref p) H'
theorem sc_law_joined : FnScope ["_law_heaps", "_law_found", "_law_heap_here", "_law_part"] ["_law_heaps"] (defScope s_law_joined) := ⟨rfl, rfl, rfl, by decide +kernel, rfl, by decide +kernel, by decide +kernel⟩
def jAcc (hs : List Ht) : Ht := hs.foldl (fun acc h => h.foldl (addH h) acc) []
theorem jAcc_snoc {hs : List Ht} {i : Nat} {h : Ht} (e : hs[i]? = some h) : jAcc (hs.take (i + 1)) = h.foldl (addH h) (jAcc (hs.take i)) := by
  unfold jAcc
  rw [take_succ e, List.foldl_append]
  rfl
theorem addH_len (h acc : Ht) (p : Int) : (addH h acc p).length ≤ acc.length + 1 := by
  unfold addH
  split <;> simp
theorem ok_law_joined (B : Bi mg) (D : Df K mg "_law_joined" s_law_joined) : Cl P w K mg base CX0 1 "_law_joined" spLawJoined := by
  refine mk0 D sc_law_joined (fun _ _ _ _ _ _ us hl => match us, hl with | [_], _ => rfl) (fun vs H Q E h => ?_) (fun f cdv A outer s H vs Q E hr h => ?_)
  · obtain ⟨u, hs, rfl, _⟩ := h
    rfl
  · obtain ⟨u, hs, rfl, ⟨a, rs, rfl, ha, pr⟩, ⟨h6, h10⟩, k⟩ := h
    have hlen : rs.length = hs.length := pr_len pr
    refine ⟨_, pss_cons (ps_set (i := 1) sc_law_joined.nd rfl (Or.inl rfl) (pe_lst pa_nil))
      (pss_cons (ps_for PassesOwn.never rfl (pi_list (pv 0)) (pg_name (i := 2) sc_law_joined.nd rfl (Or.inl rfl))
        (pss_one (ps_for PassesOwn.never rfl (pi_tup (pv 2)) (pg_name (i := 3) sc_law_joined.nd rfl (Or.inl rfl))
          (pss_one (ps_if (pt_cmpR op_lt (pe_bm PySem.F.plainAttrs_list PySem.F.slot_list_count PySem.F.type_list_count mt_lcount (pv 1) (pa_cons (pv 3) pa_nil)) (pe_tcnt (pv 2) (pv 3)) (nomark _))
            (pss_one (ps_expr (pe_bm PySem.F.plainAttrs_list PySem.F.slot_list_append PySem.F.type_list_append mt_append (pv 1) (pa_cons (pv 3) pa_nil)))) pss_nil)))))
      (pss_one (ps_ret (pe_callTy call_tuple_of (by rfl) B.tuple (by decide +kernel) (pa_cons (pe_callBK (cr_sortedRev (b := true)) (by rfl) B.sorted (by decide +kernel) (pa_cons (pv 1) pa_nil) (pk_cons pe_bl pk_nil)) pa_nil))))), ?_⟩
    refine ⟨Nat.zero_le _, fun l hl => ?_⟩
    have s0 : Same H (upd H l (.lst [])) := same_upd hl
    refine ⟨_, rfl, a, rfl, ⟨_, SqL.of (s0 _ _ ha)⟩, for_list (K := K) (a := a) (xs := rs)
      (fun i σ H' => ∃ (v3 v4 : Option V), σ = [some (.ref a), some (.ref l), v3, v4] ∧ Same H H' ∧ H' l = some (.lst ((jAcc (hs.take i)).map V.int)) ∧ (jAcc (hs.take i)).length ≤ 10 * i)
      ⟨none, none, rfl, s0, upd_same, Nat.zero_le _⟩ (fun i σ H' _ ⟨_, _, _, s1, _⟩ => SqL.of (s1 _ _ ha)) ?_ ?_⟩
    · rintro i y σ H1 hy ⟨v3, v4, rfl, s1, hl1, len1⟩
      obtain ⟨h, hh, hH⟩ := pr_get pr hy
      obtain ⟨b, ob, rfl, hb, db⟩ := hH
      have hb10 := h10 h (List.mem_of_getElem? hh)
      have hi6 : i < hs.length := (List.getElem?_eq_some_iff.mp hh).1
      refine ⟨_, rfl, b, rfl, ⟨_, .inl (.inr ⟨ob, s1 _ _ hb⟩)⟩, for_tup (K := K) (a := b) (xs := h.map V.int)
        (fun j σ H' => ∃ (v4 : Option V), σ = [some (.ref a), some (.ref l), some (.ref b), v4] ∧ Same H H' ∧ H' l = some (.lst (((h.take j).foldl (addH h) (jAcc (hs.take i))).map V.int)) ∧ ((h.take j).foldl (addH h) (jAcc (hs.take i))).length ≤ 10 * i + j)
        ⟨v4, rfl, s1, hl1, len1⟩ (fun j σ H' _ ⟨_, _, s2, _⟩ => .inl (.inr ⟨ob, s2 _ _ hb⟩)) ?_ ?_⟩
      · rintro j y σ H2 hy ⟨v4, rfl, s2, hl2, len2⟩
        obtain ⟨p, hp, rfl⟩ := map_get hy
        have hj : j < h.length := (List.getElem?_eq_some_iff.mp hp).1
        have nx : (h.take (j + 1)).foldl (addH h) (jAcc (hs.take i)) = addH h ((h.take j).foldl (addH h) (jAcc (hs.take i))) p := by
          rw [take_succ hp, List.foldl_append]
          rfl
        refine ⟨_, rfl, .inl ⟨rfl, _, SqL.of hl2⟩, _, rfl, l, _, p, rfl, rfl, SqL.of hl2, _, rfl, b, ob, h, rfl, s2 _ _ hb, db, _, rfl, p, rfl, s2 _ _ hb, _, _, rfl, rfl, _, rfl, ?_⟩
        have al := addH_len h ((h.take j).foldl (addH h) (jAcc (hs.take i))) p
        by_cases hc : ((h.take j).foldl (addH h) (jAcc (hs.take i))).count p < h.count p
        · have d1 : decide (((((h.take j).foldl (addH h) (jAcc (hs.take i))).count p : Nat) : Int) < ((h.count p : Nat) : Int)) = true := decide_eq_true (by omega)
          rw [d1]
          have ne : addH h ((h.take j).foldl (addH h) (jAcc (hs.take i))) p = (h.take j).foldl (addH h) (jAcc (hs.take i)) ++ [p] := if_pos hc
          refine iteT ⟨_, rfl, .inl ⟨rfl, _, SqL.of hl2⟩, _, rfl, l, _, _, rfl, rfl, hl2, small1000 (by rw [List.length_map]; omega), _, rfl, ?_, ?_, by rw [nx]; omega⟩
          · intro c o e
            rw [upd_ne (ne_of_none e hl)]
            exact s2 c o e
          · rw [upd_same, nx, ne, List.map_append]
            rfl
        · have d1 : decide (((((h.take j).foldl (addH h) (jAcc (hs.take i))).count p : Nat) : Int) < ((h.count p : Nat) : Int)) = false := decide_eq_false (by omega)
          rw [d1]
          have ne : addH h ((h.take j).foldl (addH h) (jAcc (hs.take i))) p = (h.take j).foldl (addH h) (jAcc (hs.take i)) := if_neg hc
          exact iteF ⟨_, rfl, s2, by rw [nx, ne]; exact hl2, by rw [nx, ne]; omega⟩
      · rintro σ H2 ⟨v4, rfl, s2, hl2, len2⟩
        rw [List.length_map] at hl2 len2
        rw [List.take_length] at hl2 len2
        exact ⟨_, _, rfl, s2, by rw [jAcc_snoc hh]; exact hl2, by rw [jAcc_snoc hh]; omega⟩
    · rintro σ H1 ⟨v3, v4, rfl, s1, hl1, len1⟩
      rw [hlen, List.take_length] at hl1
      refine ⟨_, rfl, l, _, rfl, rfl, SqL.of hl1, fun ys p pm ob hp => ⟨p, _, rfl, .inl ⟨SqL.of upd_same, fun t ht => ?_⟩⟩⟩
      exact k _ t ys (same_upd' (same_upd' s1 hp) ht) upd_same fun q => (pm.count_eq q).trans (isJ_law hs q)
def spLawFirst : Sp := fun vs H Q _ => ∃ (u v : V) (r : Ru) (h : Ht), vs = [u, v] ∧ RuAt H u r ∧ HtAt H v h ∧ r.length ≤ 6 ∧ (∀ o ∈ r, o.length ≤ 1000) ∧ ∀ H', Same H H' → Q (optI (firstIn r h)) H'
theorem sc_law_first : FnScope ["_law_rule", "_law_heap_here", "_law_number"] ["_law_rule", "_law_heap_here"] (defScope s_law_first) := ⟨rfl, rfl, rfl, by decide +kernel, rfl, by decide +kernel, by decide +kernel⟩
theorem ok_law_first (B : Bi mg) (D : Df K mg "_law_first" s_law_first) (cL : Cl P w K mg base CX0 1 "_law_lies" spLies) : Cl P w K mg base CX0 2 "_law_first" spLawFirst := by
  refine mk0 D sc_law_first (fun _ _ _ _ _ _ us hl => match us, hl with | [_, _], _ => rfl) (fun vs H Q E h => ?_) (fun f cdv A outer s H vs Q E hr h => ?_)
  · obtain ⟨u, v, r, x, rfl, _⟩ := h
    rfl
  · obtain ⟨u, v, r, x, rfl, ⟨a, rs, rfl, ha, pr⟩, hX, h6, hsz, k⟩ := h
    refine ⟨_, pss_cons (ps_for PassesOwn.never rfl (pi_range1 (by rfl) B.range (pa_cons (pe_callB call_len_seq (by rfl) B.len PySem.boot_len (pa_cons (pv 0) pa_nil)) pa_nil)) (pg_name (i := 2) sc_law_first.nd rfl (Or.inl rfl))
        (pss_one (ps_if (pt_val (pe_f cL hr (by decide) (by rfl) (pa_cons (pe_ix (r := rIxT K) ix_tup (pv 0) (pv 2) (fun _ _ => rfl)) (pa_cons (pv 1) pa_nil)))) (pss_one (ps_ret (pv 2))) pss_nil)))
      (pss_one (ps_ret pe_non)), ?_⟩
    have lx : rs.length = r.length := pr_len pr
    refine ⟨_, rfl, a, rs, rfl, .inr (SqT.of ha), (rs.length : Nat), rfl, by omega, by omega, ?_⟩
    have e1 : ((rs.length : Nat) : Int).toNat = r.length := by rw [Int.toNat_natCast, lx]
    rw [e1]
    refine for_range (lo := 0) (n := r.length) (fun i σ H' => ∃ v3, σ = [some (.ref a), some v, v3] ∧ Same H H' ∧ ∀ j o, j < i → r[j]? = some o → lies o x = false) ⟨none, rfl, Same.refl H, fun j o h => absurd h (Nat.not_lt_zero _)⟩ ?_ ?_
    · rintro i σ H1 hi ⟨v3, rfl, s1, hf⟩
      obtain ⟨o, ho⟩ : ∃ o, r[i]? = some o := ⟨_, List.getElem?_eq_getElem hi⟩
      obtain ⟨z, hz, hO⟩ := pr_get' pr ho
      refine ⟨_, rfl, _, rfl, a, rs, _, z, rfl, rfl, SqT.of (s1 _ _ ha), by rw [Int.zero_add]; exact atI_nat hz, _, rfl, z, v, o, x, rfl, hO.same s1, hX.same s1, hsz o (List.mem_of_getElem? ho), fun H2 s2 => ⟨_, rfl, ?_⟩⟩
      refine ite2 (c := lies o x = true) (fun c => ?_) (fun c => ?_)
      · have q := k H2 (s1.trans s2)
        rw [isFirst_eq (r := r) (h := x) (o := some i) ⟨⟨o, ho, c⟩, hf⟩] at q
        refine ⟨_, rfl, ?_⟩
        rw [Int.zero_add]
        exact q
      · refine ⟨_, rfl, s1.trans s2, fun j o' hj ho' => ?_⟩
        by_cases hji : j < i
        · exact hf j o' hji ho'
        · have : j = i := by omega
          subst this
          rw [ho] at ho'
          cases ho'
          exact Bool.eq_false_iff.mpr c
    · rintro σ H1 ⟨v3, rfl, s1, hf⟩
      have q := k H1 s1
      rw [isFirst_eq (r := r) (h := x) (o := none) fun j o ho => hf j o (List.getElem?_eq_some_iff.mp ho).1 ho] at q
      exact q
/-! ### choices, sums -/
def spLawChoices : Sp := fun vs H Q _ => ∃ n : Nat, vs = [.int (n : Nat)] ∧ n ≤ 6 ∧ ∀ H' p xs, Same H H' → H' p = some (.lst xs) → Paired (ChAt H') xs (lch n) → Q (.ref p) H'
theorem sc_law_choices : FnScope ["_law_many", "_law_found", "_law_number", "_law_choice"] ["_law_many"] (defScope s_law_choices) := ⟨rfl, rfl, rfl, by decide +kernel, rfl, by decide +kernel, by decide +kernel⟩
theorem lch_len : ∀ n, (lch n).length = 2 ^ n
  | 0 => rfl
  | n + 1 => by
    show (lch n ++ (lch n).map fun c => c ++ [n]).length = _
    rw [List.length_append, List.length_map, lch_len n, Nat.pow_succ]
    omega
theorem lch_short : ∀ n, ∀ c ∈ lch n, c.length ≤ n
  | 0, c, h => by rw [List.mem_singleton.mp h]; exact Nat.le_refl _
  | n + 1, c, h => by
    have h' : c ∈ lch n ++ (lch n).map fun c => c ++ [n] := h
    rcases List.mem_append.mp h' with q | q
    · have := lch_short n c q; omega
    · obtain ⟨d, hd, rfl⟩ := List.mem_map.mp q
      have := lch_short n d hd
      rw [List.length_append, List.length_singleton]
      omega
theorem pr_mapR {α β γ : Type} {F : α → β → Prop} {G : α → γ → Prop} {f : β → γ} (h : ∀ a b, F a b → G a (f b)) : ∀ {xs : List α} {ys : List β}, Paired F xs ys → Paired G xs (ys.map f)
  | _, _, .nil => .nil
  | _, _, .cons a t => .cons (h _ _ a) (pr_mapR h t)
theorem nl_chs (n : Nat) : NL (fun H v (c : List Nat) => ChAt H v (c ++ [n])) := fun H H' v y s x => nl_ch H H' v _ s x
theorem ok_law_choices (B : Bi mg) (D : Df K mg "_law_choices" s_law_choices) : Cl P w K mg base CX0 1 "_law_choices" spLawChoices := by
  refine mk0 D sc_law_choices (fun _ _ _ _ _ _ us hl => match us, hl with | [_], _ => rfl) (fun vs H Q E h => ?_) (fun f cdv A outer s H vs Q E hr h => ?_)
  · obtain ⟨n, rfl, _⟩ := h
    rfl
  · obtain ⟨n, rfl, hn, k⟩ := h
    refine ⟨_, pss_cons (ps_set (i := 1) sc_law_choices.nd rfl (Or.inl rfl) (pe_lst (pa_cons (pe_tup pa_nil) pa_nil)))
      (pss_cons (ps_for PassesOwn.never rfl (pi_range1 (by rfl) B.range (pa_cons (pv 0) pa_nil)) (pg_name (i := 2) sc_law_choices.nd rfl (Or.inr rfl))
        (pss_one (ps_set (i := 1) sc_law_choices.nd rfl (Or.inl rfl) (pe_op op_cat (pv 1) (pe_lc (own := [("_law_choice", 3)]) (g := gName 3) (tt := tYes) rfl sc_law_choices.nd (pi_list (pv 1)) (blkOk_by (own := [("_law_choice", 3)]) (N := ["_law_many", "_law_found", "_law_number", "_law_choice"]) (sc := defScope s_law_choices) (by decide +kernel))
          (fun _ _ _ _ _ => pg_name (i := 3) sc_law_choices.nd rfl (Or.inl rfl)) (fun _ _ _ _ _ => pts_nil) (fun _ _ _ _ _ => pe_op (r := rCatA K) op_catA (pv 3) (pe_tup (pa_cons (pv 2) pa_nil))))))))
      (pss_one (ps_ret (pv 1)))), ?_⟩
    refine ⟨Nat.zero_le _, fun t ht => ⟨by show 1 ≤ sizeLine; decide, fun l hl => ?_⟩⟩
    have s0 : Same H (upd (upd H t (.tup [])) l (.lst [.ref t])) := (same_upd ht).trans (same_upd hl)
    have ntl : t ≠ l := fun z => by
      rw [z, upd_same] at hl
      cases hl
    have ct : ChAt (upd (upd H t (.tup [])) l (.lst [.ref t])) (.ref t) [] := ⟨t, rfl, by rw [upd_ne ntl, upd_same]; rfl⟩
    refine ⟨_, rfl, (n : Nat), rfl, by omega, by omega, ?_⟩
    have e1 : ((n : Nat) : Int).toNat = n := Int.toNat_natCast n
    rw [e1]
    refine for_range (lo := 0) (n := n) (fun i σ H' => ∃ (v2 v3 : Option V) (p : Addr) (xs : List V), σ = [some (.int (n : Nat)), some (.ref p), v2, v3] ∧ Same H H' ∧ H' p = some (.lst xs) ∧ Paired (ChAt H') xs (lch i)) ⟨none, none, l, _, rfl, s0, upd_same, .cons ct .nil⟩ ?_ ?_
    · rintro i σ H1 hi ⟨v2, v3, p, xs, rfl, s1, hp, px⟩
      have lx : xs.length = 2 ^ i := by rw [pr_len px, lch_len]
      have p64 : (2 : Nat) ^ i ≤ 64 := Nat.le_trans (Nat.pow_le_pow_right (by decide) (show i ≤ 6 by omega)) (by decide)
      have e0 : (0 : Int) + (i : Nat) = (i : Nat) := Int.zero_add _
      rw [e0]
      refine ⟨_, rfl, _, rfl, p, rfl, ⟨_, SqL.of hp⟩, fun L hL => lc_mk (vs := [3]) (R := fun H v (c : List Nat) => ChAt H v (c ++ [i])) (walk_list (K := K) (a := p)) (nl_chs i) (lch i) (pr_len px).symm (by omega) hL (fun H' s => SqL.of (s _ _ hp)) ?_ ?_⟩
      · intro j z cc H2 hj hz hy s2 Kc hK
        obtain ⟨c', hc', q, rfl, hq⟩ := pr_get px hz
        rw [hy] at hc'
        cases hc'
        have lc := lch_short i cc (List.mem_of_getElem? hy)
        refine ⟨rfl, _, rfl, _, rfl, by show 1 ≤ sizeLine; decide, fun u hu => ?_⟩
        have s3 : Same H2 (upd H2 u (.tup [.int (i : Nat)])) := same_upd hu
        refine ⟨q, u, _, _, rfl, rfl, SqT.of (s3 _ _ (s2 _ _ hq)), SqT.of upd_same, by rw [List.length_map, List.length_singleton, sizeLine_eq]; omega, fun e0 => ?_, fun _ z => (by cases z), fun _ _ r hr' => ?_⟩
        · refine hK _ _ s3 ⟨u, rfl, ?_⟩
          have : cc = [] := List.map_eq_nil_iff.mp e0
          rw [upd_same, this]
          rfl
        · refine hK _ _ (same_upd' s3 hr') ⟨r, rfl, ?_⟩
          rw [upd_same, List.map_append]
          rfl
      · intro H2 us s2 hL2 pu
        refine ⟨p, L, xs, us, rfl, rfl, s2 _ _ hp, hL2, by rw [lx, pr_len pu, lch_len, sizeLine_eq]; omega, fun m hm => ?_⟩
        have s3 : Same H2 (upd H2 m (.lst (xs ++ us))) := same_upd hm
        refine ⟨_, _, m, xs ++ us, rfl, (s1.trans s2).trans s3, upd_same, ?_⟩
        show Paired _ (xs ++ us) (lch i ++ (lch i).map fun c => c ++ [i])
        exact pr_app (L2.Paired.mapP px fun _ _ q => (q.same s2).same s3) (pr_mapR (fun a b q => q.same s3) pu)
    · rintro σ H1 ⟨v2, v3, p, xs, rfl, s1, hp, px⟩
      exact ⟨_, rfl, k H1 p xs s1 hp px⟩
def spLawSums : Sp := fun vs H Q _ => ∃ (u : V) (r : Ru), vs = [u] ∧ RuAt H u r ∧ Fit r ∧ ∀ H' p, Same H H' → H' p = some (.lst (((chs r.length).map fun c => jsum (pick r c)).map V.int)) → Q (.ref p) H'
theorem sc_law_sums : FnScope ["_law_rule", "_law_choice", "_law_number"] ["_law_rule"] (defScope s_law_sums) := ⟨rfl, rfl, rfl, by decide +kernel, rfl, by decide +kernel, by decide +kernel⟩
theorem ok_law_sums (B : Bi mg) (D : Df K mg "_law_sums" s_law_sums) (cC : Cl P w K mg base CX0 1 "_law_choices" spLawChoices) (cJ : Cl P w K mg base CX0 1 "_law_joined" spLawJoined) : Cl P w K mg base CX0 2 "_law_sums" spLawSums := by
  refine mk0 D sc_law_sums (fun _ _ _ _ _ _ us hl => match us, hl with | [_], _ => rfl) (fun vs H Q E h => ?_) (fun f cdv A outer s H vs Q E hr h => ?_)
  · obtain ⟨u, r, rfl, _⟩ := h
    rfl
  · obtain ⟨u, r, rfl, ⟨a, rs, rfl, ha, pr⟩, hF, k⟩ := h
    refine ⟨_, pss_one (ps_ret (pe_lc (own := [("_law_choice", 1)]) (g := gName 1) (tt := tYes) rfl sc_law_sums.nd (pi_list (pe_f cC hr (by decide) (by rfl) (pa_cons (pe_callB call_len_seq (by rfl) B.len PySem.boot_len (pa_cons (pv 0) pa_nil)) pa_nil)))
      (blkOk_by (own := [("_law_choice", 1)]) (N := ["_law_rule", "_law_choice", "_law_number"]) (sc := defScope s_law_sums) (by decide +kernel))
      (fun _ _ _ _ _ => pg_name (i := 1) sc_law_sums.nd rfl (Or.inl rfl)) (fun _ _ _ _ _ => pts_nil)
      (fun _ _ _ _ _ => pe_callB (id := "sum") (r := rSumT K) (cr_sumT rfl) (by rfl) B.sum (by decide +kernel) (pa_cons (pe_f cJ hr (by decide) (by rfl) (pa_cons
        (by refine pe_lc (wi := iTup K (tVar 1)) (te := tOp (rIxT K) (tVar 0) (tVar 2)) (own := [("_law_number", 2)]) (g := gName 2) (tt := tYes) rfl sc_law_sums.nd ?_ (blkOk_by (own := [("_law_number", 2)]) (N := ["_law_rule", "_law_choice", "_law_number"]) (sc := { kind := .function, names := [(".0", .local), ("_law_choice", .local), ("sum", .globalImplicit), ("_law_joined", .globalImplicit), ("_law_rule", .cell)], isGenerator := false, isCoroutine := false }) (by decide +kernel)) (fun _ _ _ _ _ => pg_name (i := 2) sc_law_sums.nd rfl (Or.inl rfl)) (fun _ _ _ _ _ => pts_nil) ?_; exact pi_tup (pv 1); exact (fun _ _ _ _ _ => pe_ix (r := rIxT K) ix_tup (pv 0) (pv 2) (fun _ _ => rfl))) pa_nil)) pa_nil)))), ?_⟩
    have len : rs.length = r.length := pr_len pr
    have h6 := hF.1
    have e6 := lch_eq r.length h6
    refine ⟨_, rfl, a, rs, rfl, .inr (SqT.of ha), r.length, by rw [len]; rfl, h6, fun H1 p cs s1 hp pc => ⟨p, rfl, ⟨_, SqL.of hp⟩, fun L hL => ?_⟩⟩
    rw [e6] at pc
    have p64 : (chs r.length).length ≤ 64 := by
      rw [chs_length]
      exact Nat.pow_le_pow_right (by decide) h6
    refine lc_mk (vs := [1]) (R := fun (_ : Hp) v (c : List Nat) => v = V.int (jsum (pick r c))) (walk_list (K := K) (a := p)) (nl_val (f := fun c => V.int (jsum (pick r c)))) (chs r.length) (pr_len pc).symm (by rw [pr_len pc]; omega) hL (fun H' s => SqL.of (s _ _ hp)) ?_ ?_
    · intro i z c H2 hi hz hy s2 Kc hK
      obtain ⟨c', hc', b, rfl, hb⟩ := pr_get pc hz
      rw [hy] at hc'
      cases hc'
      have hm := List.mem_of_getElem? hy
      have sH2 : Same H H2 := s1.trans s2
      refine ⟨rfl, _, rfl, b, rfl, ⟨_, SqT.of (s2 _ _ hb)⟩, fun M hM => lc_mk (vs := [2]) (R := HtAt) (walk_tup (K := K) (a := b)) nl_ht (pick r c) (by unfold Kd.pick; rw [List.length_map, List.length_map]) (by rw [List.length_map]; have := chs_short h6 hm; omega) hM (fun H' s => SqT.of (s _ _ (s2 _ _ hb))) ?_ ?_⟩
      · intro j z y H3 hj hz hy s3 Kd' hK'
        obtain ⟨m, hm', rfl⟩ := map_get hz
        have hmr := chs_lt hm m (List.mem_of_getElem? hm')
        obtain ⟨v, hv, hH⟩ := ru_get pr hmr
        have ey : y = r.getD m [] := by
          unfold Kd.pick at hy
          rw [List.getElem?_map, hm'] at hy
          exact (Option.some.inj hy).symm
        rw [ey] at hK'
        exact ⟨rfl, _, rfl, _, rfl, a, rs, (m : Int), v, rfl, rfl, SqT.of (s3 _ _ (sH2 _ _ ha)), atI_nat hv, hK' v H3 (Same.refl H3) ((hH.same sH2).same s3)⟩
      · intro H3 us s3 hM3 pu
        refine ⟨_, pick r c, rfl, ⟨M, us, rfl, hM3, pu⟩, hF.pick (chs_lt hm) (chs_short h6 hm), fun H4 q l s4 hq hj => ⟨q, l, rfl, SqT.of hq, ?_⟩⟩
        exact hK _ H4 (s3.trans s4) (by rw [isJ_sum hj])
    · intro H2 us s2 hL2 pu
      have e := pr_map (f := fun c => V.int (jsum (pick r c))) (H := H2) pu
      exact k H2 L (s1.trans s2) (by rw [hL2, e, List.map_map]; rfl)
end
end Kd
namespace Kd
open PySem PySem.Spec PyProof.Rows L2
section
variable {P : Program} {w : World} {K : PySem.W.Frag} {mg : Str → Option Value} {base : Heap}
def spLawUnlike : Sp := fun vs H Q _ => ∃ (u v : V) (a b : Ru), vs = [u, v] ∧ RuAt H u a ∧ RuAt H v b ∧ Fit a ∧ Fit b ∧ a.length = b.length ∧ ∀ H' v', Same H H' → UnAt H' v' (unlike a b) → Q v' H'
theorem sc_law_unlike : FnScope ["_law_one", "_law_other", "_law_choice", "_law_mine", "_law_theirs"] ["_law_one", "_law_other"] (defScope s_law_unlike) := ⟨rfl, rfl, rfl, by decide +kernel, rfl, by decide +kernel, by decide +kernel⟩
theorem ok_law_unlike (B : Bi mg) (D : Df K mg "_law_unlike" s_law_unlike) (cC : Cl P w K mg base CX0 1 "_law_choices" spLawChoices) (cS : Cl P w K mg base CX0 2 "_law_sums" spLawSums) : Cl P w K mg base CX0 3 "_law_unlike" spLawUnlike := by
  refine mk0 D sc_law_unlike (fun _ _ _ _ _ _ us hl => match us, hl with | [_, _], _ => rfl) (fun vs H Q E h => ?_) (fun f cdv A outer s H vs Q E hr h => ?_)
  · obtain ⟨u, v, a, b, rfl, _⟩ := h
    rfl
  · obtain ⟨u, v, a, b, rfl, hA, hB, fA, fB, hl, kQ⟩ := h
    obtain ⟨pa, ra, rfl, ha, pra⟩ := id hA
    have la : ra.length = a.length := pr_len pra
    refine ⟨_, pss_cons (ps_for PassesOwn.never rfl (pi_z3 (by rfl) B.zip (pa_cons (pe_f cC hr (by decide) (by rfl) (pa_cons (pe_callB call_len_seq (by rfl) B.len PySem.boot_len (pa_cons (pv 0) pa_nil)) pa_nil)) (pa_cons (pe_f cS hr (by decide) (by rfl) (pa_cons (pv 0) pa_nil)) (pa_cons (pe_f cS hr (by decide) (by rfl) (pa_cons (pv 1) pa_nil)) pa_nil))))
        (pg_tup rfl (pgs_cons (pg_name (i := 2) sc_law_unlike.nd rfl (Or.inl rfl)) (pgs_cons (pg_name (i := 3) sc_law_unlike.nd rfl (Or.inl rfl)) (pgs_cons (pg_name (i := 4) sc_law_unlike.nd rfl (Or.inl rfl)) pgs_nil))))
        (pss_one (ps_if (pt_cmpR op_ne (pv 3) (pv 4) (nomark _)) (pss_one (ps_ret (pe_tup (pa_cons (pv 2) (pa_cons (pv 3) (pa_cons (pv 4) pa_nil)))))) pss_nil)))
      (pss_one (ps_ret pe_non)), ?_⟩
    have e6 := lch_eq a.length fA.1
    refine ⟨_, rfl, pa, ra, rfl, .inr (SqT.of ha), a.length, by rw [la]; rfl, fA.1, fun H1 p cs s1 hp pc => ?_⟩
    rw [e6] at pc
    refine ⟨_, rfl, _, a, rfl, hA.same s1, fA, fun H2 q s2 hq => ⟨_, rfl, v, b, rfl, hB.same (s1.trans s2), fB, fun H3 r s3 hr3 => ?_⟩⟩
    have lc := pr_len pc
    have hp3 := s3 _ _ (s2 _ _ hp)
    have hq3 := s3 _ _ hq
    have sH3 : Same H H3 := (s1.trans s2).trans s3
    have pc3 : Paired (ChAt H3) cs (chs a.length) := L2.Paired.mapP pc fun _ _ z => (z.same s2).same s3
    refine ⟨p, q, r, cs, _, _, rfl, hp3, hq3, hr3, for_it (walk_z3 (by rw [List.length_map, List.length_map]; exact lc.symm) (by rw [List.length_map, List.length_map, ← hl]; exact lc.symm))
      (fun i σ H' => ∃ (v2 v3 v4 : Option V), σ = [some (.ref pa), some v, v2, v3, v4] ∧ Same H3 H' ∧ ∀ j u, j < i → (rows a b)[j]? = some u → u.2.1 = u.2.2)
      ⟨none, none, none, rfl, Same.refl _, fun j u h => absurd h (Nat.not_lt_zero _)⟩ (fun i σ H' _ ⟨_, _, _, _, s4, _⟩ => ⟨s4 _ _ hp3, s4 _ _ hq3, s4 _ _ hr3⟩) ?_ ?_⟩
    · rintro i z σ H4 H5 hi ⟨v2, v3, v4, rfl, s4, hf⟩ ⟨T, y1, y2, y3, rfl, hT, rfl, e1, e2, e3⟩
      obtain ⟨c, hc, hC⟩ := pr_get pc3 e1
      rw [List.getElem?_map, List.getElem?_map, hc] at e2
      rw [List.getElem?_map, List.getElem?_map, ← hl, hc] at e3
      cases e2
      cases e3
      have row := rows_get (a := a) (b := b) hc
      have s5 : Same H3 (upd H4 T (.tup [y1, .int (jsum (pick a c)), .int (jsum (pick b c))])) := same_upd' s4 hT
      refine ⟨T, _, rfl, SqT.of upd_same, rfl, _, _, rfl, _, _, rfl, _, _, rfl, rfl, ?_⟩
      refine ⟨_, rfl, _, rfl, rfl, _, rfl, ?_⟩
      by_cases hne : jsum (pick a c) = jsum (pick b c)
      · have hd : (!decide (V.int (jsum (pick a c)) = V.int (jsum (pick b c)))) = false := by rw [hne]; simp
        rw [hd]
        refine iteF ⟨_, _, _, rfl, s5, fun j u hj hu => ?_⟩
        by_cases hji : j < i
        · exact hf j u hji hu
        · have : j = i := by omega
          subst this
          rw [row] at hu
          cases hu
          exact hne
      · have hd : (!decide (V.int (jsum (pick a c)) = V.int (jsum (pick b c)))) = true := by
          rw [decide_eq_false (fun z => hne (by injection z))]
          rfl
        rw [hd]
        refine iteT ⟨_, rfl, _, rfl, _, rfl, by show 3 ≤ sizeLine; decide, fun t ht => ?_⟩
        have s6 : Same H3 _ := same_upd' (o := .tup [y1, .int (jsum (pick a c)), .int (jsum (pick b c))]) s5 ht
        refine kQ _ _ (sH3.trans s6) ?_
        rw [unlike_some row hne hf]
        exact ⟨t, y1, rfl, upd_same, hC.same s6⟩
    · rintro σ H4 ⟨v2, v3, v4, rfl, s4, hf⟩
      refine kQ _ _ (sH3.trans s4) ?_
      rw [unlike_none fun j u hu => hf j u ?_ hu]
      · rfl
      · have := (List.getElem?_eq_some_iff.mp hu).1
        unfold rows at this
        rw [List.length_map] at this
        rw [lc]
        exact this
/-! ## Plans -/
inductive Pl where
  | rule (n : Str) (r : Ru)
  | add (n : Str) (h : Ht)
  | take (n : Str) (i : Nat)
  | copy (n m : Str)
  | drop (n : Str)
  | undo
  | again
def Pl.ln : Pl → Ln
  | .rule n r => .rule n r
  | .add n h => .add n h
  | .take n i => .take n i
  | .copy n m => .copy n m
  | .drop n => .drop n
  | .undo => .undo
  | .again => .again
/-- a plan's tuple -/
def PlAt (H : Hp) (v : V) : Pl → Prop
  | .rule n r => ∃ (a : Addr) (x : V), v = .ref a ∧ H a = some (.tup [.str "rule", .str n, x]) ∧ RuAt H x r
  | .add n h => ∃ (a : Addr) (x : V), v = .ref a ∧ H a = some (.tup [.str "add", .str n, x]) ∧ HtAt H x h
  | .take n i => ∃ a : Addr, v = .ref a ∧ H a = some (.tup [.str "take", .str n, .int (i : Nat)])
  | .copy n m => ∃ a : Addr, v = .ref a ∧ H a = some (.tup [.str "copy", .str n, .str m])
  | .drop n => ∃ a : Addr, v = .ref a ∧ H a = some (.tup [.str "drop", .str n])
  | .undo => ∃ a : Addr, v = .ref a ∧ H a = some (.tup [.str "undo"])
  | .again => ∃ a : Addr, v = .ref a ∧ H a = some (.tup [.str "again"])
def spLawPlan : Sp := fun vs H Q _ => ∃ (st g c kn : Addr) (n : Nat) (ks : List Str), vs = [.ref st, .ref kn] ∧ StAt H st g c n ∧ n ≤ 600000 ∧ KnOk H st g kn ks ∧ ks.length = 4 ∧
  ∀ (x : Pl) H' v, GL x.ln → KeepS st g H H' → StAt H' st g c (n + 400) → PlAt H' v x → Q v H'
theorem sc_law_plan : FnScope ["_law_state", "_law_names", "_law_kind", "_law_name_here", "_law_most"] ["_law_state", "_law_names"] (defScope s_law_plan) := ⟨rfl, rfl, rfl, by decide +kernel, rfl, by decide +kernel, by decide +kernel⟩
theorem KnOk.pick {H0 : Hp} {st g kn : Addr} {ks : List Str} (k : KnOk H0 st g kn ks) (h4 : ks.length = 4) {t : Int} (t0 : 0 ≤ t) (t4 : t < 4) : ∃ x, Nm x ∧ atI (ks.map V.str) t = some (.str x) := by
  obtain ⟨j, rfl⟩ := Int.eq_ofNat_of_zero_le t0
  obtain ⟨x, hx⟩ : ∃ x, ks[j]? = some x := ⟨_, List.getElem?_eq_getElem (by omega)⟩
  exact ⟨x, k.nms x (List.mem_of_getElem? hx), atI_nat (by rw [List.getElem?_map, hx]; rfl)⟩
theorem StAt.keepS_new {H : Hp} {st g c : Addr} {n : Nat} (s : StAt H st g c n) {a : Addr} {o : HO} (h : H a = none) : StAt (upd H a o) st g c n ∧ KeepS st g H (upd H a o) := ⟨s.same (same_upd h), keepS_same (same_upd h)⟩
theorem ok_law_plan (D : Df K mg "_law_plan" s_law_plan) (cD : Cl P w K mg base CX0 2 "_law_draw" spDraw) (cH : Cl P w K mg base CX0 3 "_law_heap" spLawHeap) (cR : Cl P w K mg base CX0 4 "_law_raw_rule" spRawRule) : Cl P w K mg base CX0 5 "_law_plan" spLawPlan := by
  refine mk0 D sc_law_plan (fun _ _ _ _ _ _ us hl => match us, hl with | [_, _], _ => rfl) (fun vs H Q E h => ?_) (fun f cdv A outer s H vs Q E hr h => ?_)
  · obtain ⟨st, g, c, kn, n, ks, rfl, _⟩ := h
    rfl
  · obtain ⟨st, g, c, kn, n, ks, rfl, hS, hn, k, h4, kQ⟩ := h
    refine ⟨_, pss_cons (ps_set (i := 2) sc_law_plan.nd rfl (Or.inl rfl) (pe_f cD hr (by decide) (by rfl) (pa_cons (pv 0) (pa_cons pe_int pa_nil))))
      (pss_cons (ps_set (i := 3) sc_law_plan.nd rfl (Or.inl rfl) (pe_ix ix_list (pv 1) (pe_f cD hr (by decide) (by rfl) (pa_cons (pv 0) (pa_cons pe_int pa_nil))) (fun _ _ => rfl)))
      (pss_cons (ps_set (i := 4) sc_law_plan.nd rfl (Or.inl rfl) (pe_ix ix_list (pe_lst (pa_cons pe_int (pa_cons pe_int (pa_cons (pe_op op_pow pe_int pe_int) pa_nil)))) (pe_f cD hr (by decide) (by rfl) (pa_cons (pv 0) (pa_cons pe_int pa_nil))) (fun _ _ => rfl)))
      (pss_cons (ps_if (pt_cmpR op_lt (pv 2) pe_int (nomark _)) (pss_one (ps_ret (pe_tup (pa_cons pe_str (pa_cons (pv 3) (pa_cons (pe_f cR hr (by decide) (by rfl) (pa_cons (pv 0) (pa_cons (pe_f cD hr (by decide) (by rfl) (pa_cons (pv 0) (pa_cons pe_int pa_nil))) (pa_cons pe_int (pa_cons (pv 4) pa_nil))))) pa_nil)))))) pss_nil)
      (pss_cons (ps_if (pt_cmpR op_lt (pv 2) pe_int (nomark _)) (pss_one (ps_ret (pe_tup (pa_cons pe_str (pa_cons (pv 3) (pa_cons (pe_f cH hr (by decide) (by rfl) (pa_cons (pv 0) (pa_cons pe_int (pa_cons (pv 4) pa_nil)))) pa_nil)))))) pss_nil)
      (pss_cons (ps_if (pt_cmpR op_lt (pv 2) pe_int (nomark _)) (pss_one (ps_ret (pe_tup (pa_cons pe_str (pa_cons (pv 3) (pa_cons (pe_f cD hr (by decide) (by rfl) (pa_cons (pv 0) (pa_cons pe_int pa_nil))) pa_nil)))))) pss_nil)
      (pss_cons (ps_if (pt_cmpR op_eq (pv 2) pe_int (nomark _)) (pss_one (ps_ret (pe_tup (pa_cons pe_str (pa_cons (pv 3) (pa_cons (pe_ix ix_list (pv 1) (pe_f cD hr (by decide) (by rfl) (pa_cons (pv 0) (pa_cons pe_int pa_nil))) (fun _ _ => rfl)) pa_nil)))))) pss_nil)
      (pss_cons (ps_if (pt_cmpR op_eq (pv 2) pe_int (nomark _)) (pss_one (ps_ret (pe_tup (pa_cons pe_str (pa_cons (pv 3) pa_nil))))) pss_nil)
      (pss_one (ps_ret (pe_ix ix_list (pe_lst (pa_cons (pe_tup (pa_cons pe_str pa_nil)) (pa_cons (pe_tup (pa_cons pe_str pa_nil)) (pa_cons (pe_tup (pa_cons pe_str pa_nil)) pa_nil)))) (pe_op op_sub (pv 2) pe_int) (fun _ _ => rfl))))))))))), ?_⟩
    refine ⟨_, rfl, st, g, c, n, 12, rfl, hS, by omega, by decide, by decide, fun kd H1 kd0 kd12 k1 s1 => ?_⟩
    refine ⟨_, rfl, _, rfl, st, g, c, _, 4, rfl, s1, by omega, by decide, by decide, fun t H2 t0 t4 k2 s2 => ?_⟩
    obtain ⟨x, nx, ex⟩ := k.pick h4 t0 t4
    have k12 := k1.trans k2
    refine ⟨kn, _, t, _, rfl, rfl, SqL.of (k.get k12), ex, ?_⟩
    refine ⟨_, _, rfl, rfl, ⟨by decide, by decide, by decide⟩, by show 3 ≤ sizeLine; decide, fun L hL => ?_⟩
    obtain ⟨s3, k3⟩ := s2.keepS_new (o := .lst [.int 4, .int 24, .int (10 ^ (30 : Int).toNat)]) hL
    have nLs : L ≠ st := fun z => by obtain ⟨_, _, _, _, q, _⟩ := s2; rw [z, q] at hL; cases hL
    have nLg : L ≠ g := fun z => by obtain ⟨_, _, _, _, _, q, _⟩ := s2; rw [z, q] at hL; cases hL
    refine ⟨_, rfl, st, g, c, _, 3, rfl, s3, by omega, by decide, by decide, fun u H4 u0 u3 k4 s4 => ?_⟩
    have hL4 : H4 L = some (.lst [.int 4, .int 24, .int (10 ^ (30 : Int).toNat)]) := k4 _ _ nLs nLg upd_same
    obtain ⟨top, et, tp1, tp2⟩ : ∃ top : Int, atI [V.int 4, .int 24, .int (10 ^ (30 : Int).toNat)] u = some (.int top) ∧ 1 ≤ top ∧ top ≤ 10 ^ 30 := by
      obtain ⟨j, rfl⟩ := Int.eq_ofNat_of_zero_le u0
      have : j = 0 ∨ j = 1 ∨ j = 2 := by omega
      rcases this with rfl | rfl | rfl
      · exact ⟨4, rfl, by decide, by decide⟩
      · exact ⟨24, rfl, by decide, by decide⟩
      · exact ⟨_, rfl, by decide, by decide⟩
    refine ⟨L, _, u, _, rfl, rfl, SqL.of hL4, et, ?_⟩
    have kH4 : KeepS st g H H4 := (k12.trans k3).trans k4
    refine ⟨_, rfl, _, _, rfl, rfl, _, rfl, ?_⟩
    refine ite2 (fun _ => ?_) (fun h2 => ?_)
    · refine ⟨_, rfl, _, rfl, _, rfl, st, g, c, _, 7, rfl, s4, by omega, by decide, by decide, fun m H5 m0 m7 k5 s5 => ?_⟩
      obtain ⟨m', rfl⟩ := Int.eq_ofNat_of_zero_le m0
      refine ⟨_, rfl, st, g, c, _, m', 4, top, rfl, s5, by omega, by omega, by decide, tp1, tp2, fun r H6 v gr k6 s6 hv => ⟨by show 3 ≤ sizeLine; decide, fun p hp => ?_⟩⟩
      obtain ⟨s7, k7⟩ := s6.keepS_new (o := .tup [.str "rule", .str x, v]) hp
      exact kQ (.rule x r) _ _ ⟨nx, gr⟩ (((kH4.trans k5).trans k6).trans k7) (s7.mono (by omega)) ⟨p, v, rfl, upd_same, hv.same (same_upd hp)⟩
    refine ⟨_, rfl, _, _, rfl, rfl, _, rfl, ?_⟩
    refine ite2 (fun _ => ?_) (fun h5 => ?_)
    · refine ⟨_, rfl, _, rfl, _, rfl, st, g, c, _, 4, top, rfl, s4, by omega, by decide, tp1, tp2, fun h H6 v gh k6 s6 hv => ⟨by show 3 ≤ sizeLine; decide, fun p hp => ?_⟩⟩
      obtain ⟨s7, k7⟩ := s6.keepS_new (o := .tup [.str "add", .str x, v]) hp
      exact kQ (.add x h) _ _ ⟨nx, gh⟩ ((kH4.trans k6).trans k7) (s7.mono (by omega)) ⟨p, v, rfl, upd_same, hv.same (same_upd hp)⟩
    refine ⟨_, rfl, _, _, rfl, rfl, _, rfl, ?_⟩
    refine ite2 (fun _ => ?_) (fun h7 => ?_)
    · refine ⟨_, rfl, _, rfl, st, g, c, _, 7, rfl, s4, by omega, by decide, by decide, fun m H5 m0 m7 k5 s5 => ⟨by show 3 ≤ sizeLine; decide, fun p hp => ?_⟩⟩
      obtain ⟨m', rfl⟩ := Int.eq_ofNat_of_zero_le m0
      obtain ⟨s7, k7⟩ := s5.keepS_new (o := .tup [.str "take", .str x, .int (m' : Nat)]) hp
      exact kQ (.take x m') _ _ ⟨nx, by omega⟩ ((kH4.trans k5).trans k7) (s7.mono (by omega)) ⟨p, rfl, upd_same⟩
    refine ⟨_, rfl, rfl, _, rfl, ?_⟩
    refine ite2 (fun _ => ?_) (fun h7' => ?_)
    · refine ⟨_, rfl, _, rfl, _, rfl, st, g, c, _, 4, rfl, s4, by omega, by decide, by decide, fun m H5 m0 m4 k5 s5 => ?_⟩
      obtain ⟨y, ny, ey⟩ := k.pick h4 m0 m4
      have kH5 := kH4.trans k5
      refine ⟨kn, _, m, _, rfl, rfl, SqL.of (k.get kH5), ey, by show 3 ≤ sizeLine; decide, fun p hp => ?_⟩
      obtain ⟨s7, k7⟩ := s5.keepS_new (o := .tup [.str "copy", .str x, .str y]) hp
      exact kQ (.copy x y) _ _ ⟨nx, ny⟩ (kH5.trans k7) (s7.mono (by omega)) ⟨p, rfl, upd_same⟩
    refine ⟨_, rfl, rfl, _, rfl, ?_⟩
    refine ite2 (fun _ => ?_) (fun h8 => ?_)
    · refine ⟨_, rfl, by show 2 ≤ sizeLine; decide, fun p hp => ?_⟩
      obtain ⟨s7, k7⟩ := s4.keepS_new (o := .tup [.str "drop", .str x]) hp
      exact kQ (.drop x) _ _ nx (kH4.trans k7) (s7.mono (by omega)) ⟨p, rfl, upd_same⟩
    have nd : ∀ {i j : Int}, ¬ decide (i < j) = true → j ≤ i := fun {i j} h => by
      have := of_decide_eq_false (Bool.eq_false_iff.mpr h)
      omega
    have ne : ∀ {i j : Int}, ¬ decide (V.int i = V.int j) = true → i ≠ j := fun {i j} h z => h (decide_eq_true (by rw [z]))
    have b2 := nd h7
    have b3 := ne h7'
    have b4 := ne h8
    have k9 : kd = 9 ∨ kd = 10 ∨ kd = 11 := by omega
    refine ⟨by show 1 ≤ sizeLine; decide, fun p1 hp1 => ⟨by show 1 ≤ sizeLine; decide, fun p2 hp2 => ⟨by show 1 ≤ sizeLine; decide, fun p3 hp3 => ⟨by show 3 ≤ sizeLine; decide, fun M hM => ?_⟩⟩⟩⟩
    have t1 := same_upd (o := .tup [.str "undo"]) hp1
    have t2 := same_upd (o := .tup [.str "again"]) hp2
    have t3 := same_upd (o := .tup [.str "undo"]) hp3
    have t4 := same_upd (o := .lst [.ref p1, .ref p2, .ref p3]) hM
    have tt := ((t1.trans t2).trans t3).trans t4
    have fin := kQ
    rcases k9 with rfl | rfl | rfl
    · exact ⟨_, rfl, _, _, rfl, rfl, M, _, 0, .ref p1, rfl, rfl, SqL.of upd_same, rfl, kQ .undo _ _ trivial (kH4.trans (keepS_same tt)) ((s4.same tt).mono (by omega)) ⟨p1, rfl, t4 _ _ (t3 _ _ (t2 _ _ upd_same))⟩⟩
    · exact ⟨_, rfl, _, _, rfl, rfl, M, _, 1, .ref p2, rfl, rfl, SqL.of upd_same, rfl, kQ .again _ _ trivial (kH4.trans (keepS_same tt)) ((s4.same tt).mono (by omega)) ⟨p2, rfl, t4 _ _ (t3 _ _ upd_same)⟩⟩
    · exact ⟨_, rfl, _, _, rfl, rfl, M, _, 2, .ref p3, rfl, rfl, SqL.of upd_same, rfl, kQ .undo _ _ trivial (kH4.trans (keepS_same tt)) ((s4.same tt).mono (by omega)) ⟨p3, rfl, t4 _ _ upd_same⟩⟩
end
end Kd
namespace Kd
open PySem PySem.Spec PyProof.Rows L2
/-! ## A plan's line, the law's next state -/
theorem tl_rule_sp : TL.tl ("rule " : Str) = TL.tl ("rule" : Str) ++ TL.tl sp := by decide +kernel
theorem tl_add_sp : TL.tl ("add " : Str) = TL.tl ("add" : Str) ++ TL.tl sp := by decide +kernel
theorem tl_keeps_sp : TL.tl ("keeps " : Str) = TL.tl ("keeps" : Str) ++ TL.tl sp := by decide +kernel
theorem tl_show_sp : TL.tl ("show " : Str) = TL.tl ("show" : Str) ++ TL.tl sp := by decide +kernel
theorem tl_match_sp : TL.tl ("match " : Str) = TL.tl ("match" : Str) ++ TL.tl sp := by decide +kernel
theorem tl_emp : TL.tl Str.empty = [] := rfl
theorem line_rule (n : Str) (r : Ru) : Str.empty ++ ("rule " : Str) ++ n ++ (" " : Str) ++ ruleT r = lineT (.rule n r) := by
  show _ = Txt.join sp (("rule" : Str) :: n :: ruleW r)
  rw [join_cons _ _ (by simp), join_cons _ _ (ruleW_ne r), ← ruleT_W]
  apply TL.ext_tl
  simp only [TL.tl_append, tl_rule_sp, tl_emp, List.nil_append, List.append_assoc]
theorem line_add (n : Str) (h : Ht) : Str.empty ++ ("add " : Str) ++ n ++ (" " : Str) ++ heapT h = lineT (.add n h) := by
  show _ = Txt.join sp (("add" : Str) :: n :: heapW h)
  rw [join_cons _ _ (by simp), join_cons _ _ (heapW_ne h), ← heapT_W]
  apply TL.ext_tl
  simp only [TL.tl_append, tl_add_sp, tl_emp, List.nil_append, List.append_assoc]
theorem line_keeps (n : Str) (h : Ht) : Str.empty ++ ("keeps " : Str) ++ n ++ (" " : Str) ++ heapT h = lineT (.keeps n h) := by
  show _ = Txt.join sp (("keeps" : Str) :: n :: heapW h)
  rw [join_cons _ _ (by simp), join_cons _ _ (heapW_ne h), ← heapT_W]
  apply TL.ext_tl
  simp only [TL.tl_append, tl_keeps_sp, tl_emp, List.nil_append, List.append_assoc]
theorem line_show (n : Str) : ("show " : Str) ++ n = lineT (.shw n) := by
  show _ = Txt.join sp [("show" : Str), n]
  rw [join_cons _ _ (by simp), join_one]
  apply TL.ext_tl
  simp only [TL.tl_append, tl_show_sp, List.append_assoc]
theorem line_show' (n : Str) : Str.empty ++ ("show " : Str) ++ n = lineT (.shw n) := by
  rw [← line_show]
  apply TL.ext_tl
  simp only [TL.tl_append, tl_emp, List.nil_append]
theorem line_match (n m : Str) : Str.empty ++ ("match " : Str) ++ n ++ (" " : Str) ++ m = lineT (.mtch n m) := by
  show _ = Txt.join sp [("match" : Str), n, m]
  rw [join_cons _ _ (by simp), join_cons _ _ (by simp), join_one]
  apply TL.ext_tl
  simp only [TL.tl_append, tl_match_sp, tl_emp, List.nil_append, List.append_assoc]
theorem line_undo : ("undo" : Str) = lineT .undo := (join_one sp "undo").symm
theorem line_again : ("again" : Str) = lineT .again := (join_one sp "again").symm
theorem line_names : ("names" : Str) = lineT .names := (join_one sp "names").symm
def isDeedP : Pl → Prop
  | .undo => False
  | .again => False
  | _ => True
section
variable {P : Program} {w : World} {K : PySem.W.Frag} {mg : Str → Option Value} {base : Heap}
theorem big1000 : (1000 : Nat) ≤ sizeLine := by decide
def spPlanLine : Sp := fun vs H Q _ => ∃ (v : V) (x : Pl), vs = [v] ∧ PlAt H v x ∧ GL x.ln ∧ isDeedP x ∧ ∀ H', Same H H' → Q (.str (lineT x.ln)) H'
theorem sc_law_plan_line : FnScope ["_law_plan_here", "_law_part"] ["_law_plan_here"] (defScope s_law_plan_line) := ⟨rfl, rfl, rfl, by decide +kernel, rfl, by decide +kernel, by decide +kernel⟩
theorem len_rule_sp : ("rule " : Str).length = 5 := by decide +kernel
theorem len_add_sp : ("add " : Str).length = 4 := by decide +kernel
theorem len_emp : Str.empty.length = 0 := rfl
theorem ok_law_plan_line (B : Bi mg) (D : Df K mg "_law_plan_line" s_law_plan_line) (cR : Cl P w K mg base CX0 2 "_law_rule_text" spRuleText) (cH : Cl P w K mg base CX0 1 "_law_heap_text" spHeapText) : Cl P w K mg base CX0 3 "_law_plan_line" spPlanLine := by
  refine mk0 D sc_law_plan_line (fun _ _ _ _ _ _ us hl => match us, hl with | [_], _ => rfl) (fun vs H Q E h => ?_) (fun f cdv A outer s H vs Q E hr h => ?_)
  · obtain ⟨v, x, rfl, _⟩ := h
    rfl
  · obtain ⟨v, x, rfl, hP, gl, dd, kQ⟩ := h
    refine ⟨_, pss_cons (ps_if (pt_cmpR op_eq (pe_ix (r := rIxT K) ix_tup (pv 0) pe_int (fun _ _ => rfl)) pe_str (nomark _))
        (pss_one (ps_ret (pe_op op_add_str (pe_joined (.cons pe_str (.cons (pe_fmt (pe_ix (r := rIxT K) ix_tup (pv 0) pe_int (fun _ _ => rfl))) (.cons pe_str .nil)))) (pe_f cR hr (by decide) (by rfl) (pa_cons (pe_ix (r := rIxT K) ix_tup (pv 0) pe_int (fun _ _ => rfl)) pa_nil))))) pss_nil)
      (pss_cons (ps_if (pt_cmpR op_eq (pe_ix (r := rIxT K) ix_tup (pv 0) pe_int (fun _ _ => rfl)) pe_str (nomark _))
        (pss_one (ps_ret (pe_op op_add_str (pe_joined (.cons pe_str (.cons (pe_fmt (pe_ix (r := rIxT K) ix_tup (pv 0) pe_int (fun _ _ => rfl))) (.cons pe_str .nil)))) (pe_f cH hr (by decide) (by rfl) (pa_cons (pe_ix (r := rIxT K) ix_tup (pv 0) pe_int (fun _ _ => rfl)) pa_nil))))) pss_nil)
      (pss_one (ps_ret (pe_join pe_str (pe_lc (own := [("_law_part", 1)]) (g := gName 1) (tt := tYes) rfl sc_law_plan_line.nd (pi_tup (pv 0)) (blkOk_by (own := [("_law_part", 1)]) (N := ["_law_plan_here", "_law_part"]) (sc := defScope s_law_plan_line) (by decide +kernel))
        (fun _ _ _ _ _ => pg_name (i := 1) sc_law_plan_line.nd rfl (Or.inl rfl)) (fun _ _ _ _ _ => pts_nil)
        (fun _ _ _ _ _ => pe_callTy (CallR.or SkE.call_str_str call_str_int) (by rfl) B.str (by decide +kernel) (pa_cons (pv 1) pa_nil))))))), ?_⟩
    have short : ∀ (a : Addr) (ys : List V) (wds : List Str) (l : Ln), H a = some (.tup ys) → wds = keyW l :: restW l → (∀ x ∈ wds, x.length ≤ 31) → wds.length ≤ 9 → (∀ (i : Nat) (z : V) (y : Str), ys[i]? = some z → wds[i]? = some y → z = .str y ∨ ∃ k : Nat, k ≤ 99 ∧ z = .int (k : Nat) ∧ y = nS k) → ys.length = wds.length →
        (∀ H', Same H H' → Q (.str (lineT l)) H') → (tM1 (fun x xs H Q => ∃ a p, ∃ ys : List Str, x = .str a ∧ xs = [.ref p] ∧ (SqL K H p (ys.map V.str) ∨ SqT K H p (ys.map V.str)) ∧ (ys.map (·.length)).sum + ys.length * a.length ≤ 16777216 ∧ Q (.str (Txt.join a ys)) H) (tC (.str " "))
          (tLc (iTup K (tVar 0)) (gName 1) tYes (tCB (fun xs H Q => (∃ a, xs = [.str a] ∧ Q (.str a) H) ∨ ∃ i, xs = [.int i] ∧ i.natAbs.log2 < 1920 ∧ Q (.str (toString i)) H) (tCons (tVar 1) tNil)) [1])) [some (.ref a), none] H Q := by
      intro a ys wds l ha ew wl w9 wz yl kF
      refine ⟨⟨_, rfl⟩, _, rfl, a, rfl, ⟨_, SqT.of ha⟩, fun L hL => lc_mk (vs := [1]) (R := fun (_ : Hp) v (y : Str) => v = V.str y) (walk_tup (K := K) (a := a)) (nl_val (f := V.str)) wds yl.symm (by omega) hL (fun H' s => SqT.of (s _ _ ha)) ?_ ?_⟩
      · intro i z y H2 hi hz hy s2 Kc hK
        rcases wz i z y hz hy with rfl | ⟨k, hk, rfl, rfl⟩
        · exact ⟨rfl, _, rfl, .inl ⟨y, rfl, hK _ H2 (Same.refl H2) rfl⟩⟩
        · exact ⟨rfl, _, rfl, .inr ⟨(k : Nat), rfl, log_small (by omega) (by omega), hK _ H2 (Same.refl H2) rfl⟩⟩
      · intro H2 us s2 hL2 pu
        have e := pr_map (f := V.str) (H := H2) pu
        refine ⟨_, L, wds, rfl, rfl, .inl (SqL.of (by rw [hL2, e])), fit_words (k := 0) wl (by omega), ?_⟩
        have := kF H2 s2
        unfold lineT at this
        rw [← ew] at this
        exact this
    cases x with
    | undo => exact dd.elim
    | again => exact dd.elim
    | rule n r =>
      obtain ⟨a, y, rfl, ha, hR⟩ := hP
      have few := gl.1.few
      have rl := ruleT_len gl.2
      refine ⟨_, rfl, a, _, 0, _, rfl, rfl, SqT.of ha, atI_nat (j := 0) rfl, rfl, _, rfl, ?_⟩
      rw [show decide (V.str ("rule" : Str) = V.str ("rule" : Str)) = true from decide_eq_true rfl]
      refine iteT ?_
      refine ⟨_, rfl, by decide +kernel, _, rfl, a, _, 1, _, rfl, rfl, SqT.of ha, atI_nat (j := 1) rfl, .inl ⟨n, rfl, by rw [sizeLine_eq]; omega, _, rfl, by rw [len_app, len_app, len_rule_sp, len_emp, sizeLine_eq]; omega, _, rfl, by rw [len_app, len_app, len_app, len_rule_sp, len_emp, len_sp, sizeLine_eq]; omega, ?_⟩⟩
      refine ⟨_, rfl, a, _, 2, _, rfl, rfl, SqT.of ha, atI_nat (j := 2) rfl, y, r, rfl, hR, gl.2, fun H' s' => ⟨_, _, rfl, rfl, by rw [len_app, len_app, len_app, len_rule_sp, len_emp, len_sp, sizeLine_eq]; omega, ?_⟩⟩
      rw [line_rule]
      exact kQ H' s'
    | add n h =>
      obtain ⟨a, y, rfl, ha, hR⟩ := hP
      have few := gl.1.few
      have rl := heapT_len gl.2
      refine ⟨_, rfl, a, _, 0, _, rfl, rfl, SqT.of ha, atI_nat (j := 0) rfl, rfl, _, rfl, ?_⟩
      rw [dec_ne (show ("add" : Str) ≠ "rule" by decide +kernel)]
      refine iteF ⟨_, rfl, a, _, 0, _, rfl, rfl, SqT.of ha, atI_nat (j := 0) rfl, rfl, _, rfl, ?_⟩
      rw [show decide (V.str ("add" : Str) = V.str ("add" : Str)) = true from decide_eq_true rfl]
      refine iteT ?_
      refine ⟨_, rfl, by decide +kernel, _, rfl, a, _, 1, _, rfl, rfl, SqT.of ha, atI_nat (j := 1) rfl, .inl ⟨n, rfl, by rw [sizeLine_eq]; omega, _, rfl, by rw [len_app, len_app, len_add_sp, len_emp, sizeLine_eq]; omega, _, rfl, by rw [len_app, len_app, len_app, len_add_sp, len_emp, len_sp, sizeLine_eq]; omega, ?_⟩⟩
      refine ⟨_, rfl, a, _, 2, _, rfl, rfl, SqT.of ha, atI_nat (j := 2) rfl, y, h, rfl, hR, gl.2, fun H' s' => ⟨_, _, rfl, rfl, by rw [len_app, len_app, len_app, len_add_sp, len_emp, len_sp, sizeLine_eq]; omega, ?_⟩⟩
      rw [line_add]
      exact kQ H' s'
    | take n i =>
      obtain ⟨a, rfl, ha⟩ := hP
      refine ⟨_, rfl, a, _, 0, _, rfl, rfl, SqT.of ha, atI_nat (j := 0) rfl, rfl, _, rfl, ?_⟩
      rw [dec_ne (show ("take" : Str) ≠ "rule" by decide +kernel)]
      refine iteF ⟨_, rfl, a, _, 0, _, rfl, rfl, SqT.of ha, atI_nat (j := 0) rfl, rfl, _, rfl, ?_⟩
      rw [dec_ne (show ("take" : Str) ≠ "add" by decide +kernel)]
      refine iteF ?_
      refine short a _ [("take" : Str), n, nS i] (.take n i) ha rfl (fun x hx => ?_) (by show 3 ≤ 9; decide) ?_ rfl kQ
      · rcases List.mem_cons.mp hx with rfl | hx
        · exact kw_take.2
        · exact ((rest_ok (l := .take n i) gl).1 x hx).2
      · intro j z y hz hy
        match j, hz, hy with
        | 0, hz, hy => cases hz; cases hy; exact .inl rfl
        | 1, hz, hy => cases hz; cases hy; exact .inl rfl
        | 2, hz, hy => cases hz; cases hy; exact .inr ⟨i, gl.2, rfl, rfl⟩
        | j + 3, hz, hy => cases hz
    | copy n m =>
      obtain ⟨a, rfl, ha⟩ := hP
      refine ⟨_, rfl, a, _, 0, _, rfl, rfl, SqT.of ha, atI_nat (j := 0) rfl, rfl, _, rfl, ?_⟩
      rw [dec_ne (show ("copy" : Str) ≠ "rule" by decide +kernel)]
      refine iteF ⟨_, rfl, a, _, 0, _, rfl, rfl, SqT.of ha, atI_nat (j := 0) rfl, rfl, _, rfl, ?_⟩
      rw [dec_ne (show ("copy" : Str) ≠ "add" by decide +kernel)]
      refine iteF ?_
      refine short a _ [("copy" : Str), n, m] (.copy n m) ha rfl (fun x hx => ?_) (by show 3 ≤ 9; decide) ?_ rfl kQ
      · rcases List.mem_cons.mp hx with rfl | hx
        · exact kw_copy.2
        · exact ((rest_ok (l := .copy n m) gl).1 x hx).2
      · intro j z y hz hy
        match j, hz, hy with
        | 0, hz, hy => cases hz; cases hy; exact .inl rfl
        | 1, hz, hy => cases hz; cases hy; exact .inl rfl
        | 2, hz, hy => cases hz; cases hy; exact .inl rfl
        | j + 3, hz, hy => cases hz
    | drop n =>
      obtain ⟨a, rfl, ha⟩ := hP
      refine ⟨_, rfl, a, _, 0, _, rfl, rfl, SqT.of ha, atI_nat (j := 0) rfl, rfl, _, rfl, ?_⟩
      rw [dec_ne (show ("drop" : Str) ≠ "rule" by decide +kernel)]
      refine iteF ⟨_, rfl, a, _, 0, _, rfl, rfl, SqT.of ha, atI_nat (j := 0) rfl, rfl, _, rfl, ?_⟩
      rw [dec_ne (show ("drop" : Str) ≠ "add" by decide +kernel)]
      refine iteF ?_
      refine short a _ [("drop" : Str), n] (.drop n) ha rfl (fun x hx => ?_) (by show 2 ≤ 9; decide) ?_ rfl kQ
      · rcases List.mem_cons.mp hx with rfl | hx
        · exact kw_drop.2
        · exact ((rest_ok (l := .drop n) gl).1 x hx).2
      · intro j z y hz hy
        match j, hz, hy with
        | 0, hz, hy => cases hz; cases hy; exact .inl rfl
        | 1, hz, hy => cases hz; cases hy; exact .inl rfl
        | j + 2, hz, hy => cases hz
end
end Kd
namespace Kd
open PySem PySem.Spec PyProof.Rows L2
def dueW : An → Str
  | .told _ => "told"
  | .name _ => "name"
  | .rule => "rule"
  | .place => "place"
  | .many => "many"
  | .nothing => "nothing"
def dueV : An → V
  | .told t => .str t
  | .name n => .str n
  | _ => .int 0
/-- an answer's pair -/
def DueAt (H : Hp) (v : V) (a : An) : Prop := ∃ d : Addr, v = .ref d ∧ H d = some (.tup [.str (dueW a), dueV a])
theorem DueAt.same {H H' : Hp} {v : V} {a : An} (s : Same H H') (x : DueAt H v a) : DueAt H' v a := by
  obtain ⟨d, e, h⟩ := x
  exact ⟨d, e, s _ _ h⟩
section
variable {P : Program} {w : World} {K : PySem.W.Frag} {mg : Str → Option Value} {base : Heap}
def spNext : Sp := fun vs H Q _ => ∃ (q : Addr) (v : V) (rs : Bk) (x : Pl), vs = [.ref q, v] ∧ DcAt H q rs ∧ GB rs ∧ rs.length < 60 ∧ PlAt H v x ∧ GL x.ln ∧ isDeedP x ∧
  ∀ H' T q' d, Same H H' → H' T = some (.tup [.ref q', d]) → DueAt H' d (deedR rs x.ln).1 → ((∃ t, (deedR rs x.ln).1 = .told t) → DcAt H' q' (deedR rs x.ln).2) → Q (.ref T) H'
theorem sc_law_next : FnScope ["_law_rules", "_law_plan_here", "_law_word", "_law_name_here", "_law_new", "_law_rule"] ["_law_rules", "_law_plan_here"] (defScope s_law_next) := ⟨rfl, rfl, rfl, by decide +kernel, rfl, by decide +kernel, by decide +kernel⟩
def plW : Pl → Str
  | .rule _ _ => "rule"
  | .add _ _ => "add"
  | .take _ _ => "take"
  | .copy _ _ => "copy"
  | .drop _ => "drop"
  | .undo => "undo"
  | .again => "again"
def plN : Pl → Str
  | .rule n _ => n
  | .add n _ => n
  | .take n _ => n
  | .copy n _ => n
  | .drop n => n
  | .undo => ""
  | .again => ""
theorem pl_two {H : Hp} {v : V} {x : Pl} (h : PlAt H v x) (d : isDeedP x) : ∃ (a : Addr) (r : List V), v = .ref a ∧ H a = some (.tup (.str (plW x) :: .str (plN x) :: r)) := by
  cases x with
  | rule n r => obtain ⟨a, y, e, ha, _⟩ := h; exact ⟨a, [y], e, ha⟩
  | add n r => obtain ⟨a, y, e, ha, _⟩ := h; exact ⟨a, [y], e, ha⟩
  | take n i => obtain ⟨a, e, ha⟩ := h; exact ⟨a, _, e, ha⟩
  | copy n m => obtain ⟨a, e, ha⟩ := h; exact ⟨a, _, e, ha⟩
  | drop n => obtain ⟨a, e, ha⟩ := h; exact ⟨a, _, e, ha⟩
  | undo => exact d.elim
  | again => exact d.elim
theorem ok_law_next (B : Bi mg) (D : Df K mg "_law_next" s_law_next) (cN : Cl P w K mg base CX0 1 "_law_names_text" spNamesText) (cT : Cl P w K mg base CX0 2 "_law_rule_text" spRuleText) : Cl P w K mg base CX0 3 "_law_next" spNext := by
  refine mk0 D sc_law_next (fun _ _ _ _ _ _ us hl => match us, hl with | [_, _], _ => rfl) (fun vs H Q E h => ?_) (fun f cdv A outer s H vs Q E hr h => ?_)
  · obtain ⟨q, v, rs, x, rfl, _⟩ := h
    rfl
  · obtain ⟨q, v, rs, x, rfl, hD, g, h60, hP, gl, dd, kQ⟩ := h
    have hu := hu_of hr
    obtain ⟨a, rest, rfl, ha⟩ := pl_two hP dd
    refine ⟨_, pss_cons (ps_par (i := 2) (j := 3) rfl sc_law_next.nd rfl rfl (by decide) rfl rfl (pa_cons (pe_ix (r := rIxT K) ix_tup (pv 1) pe_int (fun _ _ => rfl)) (pa_cons (pe_ix (r := rIxT K) ix_tup (pv 1) pe_int (fun _ _ => rfl)) pa_nil)) (by rfl))
      (pss_cons (ps_set (i := 4) sc_law_next.nd rfl (Or.inl rfl) (pe_callTy call_dictD (by rfl) B.dict (by decide +kernel) (pa_cons (pv 0) pa_nil)))
      (pss_cons (ps_if (PW.pt (pw_and (pt_cmpR op_ne (pv 2) pe_str (nomark _)) (pw_and1 (pt_cmp (pc_dnotin hu (pv 3) (pv 0)) (by rfl)))))
        (pss_one (ps_ret (pe_tup (pa_cons (pv 0) (pa_cons (pe_tup (pa_cons pe_str (pa_cons (pv 3) pa_nil))) pa_nil))))) pss_nil)
      (pss_cons (ps_if (pt_cmpR op_eq (pv 2) pe_str (nomark _))
        (pss_cons (ps_expr (pe_dpop1 (pv 4) (pv 3) ⟨rfl, rfl, rfl, rfl⟩))
        (pss_one (ps_ret (pe_tup (pa_cons (pv 4) (pa_cons (pe_tup (pa_cons pe_str (pa_cons (pe_f cN hr (by decide) (by rfl) (pa_cons (pv 4) pa_nil)) pa_nil))) pa_nil)))))) pss_nil)
      (pss_cons (ps_set (i := 5) sc_law_next.nd rfl (Or.inl rfl) (pe_dget2 hu (pv 0) (pv 3) (pe_tup pa_nil) ⟨rfl, rfl, rfl, rfl⟩))
      (pss_cons (ps_if (pt_cmpR op_eq (pv 2) pe_str (nomark _)) (pss_one (ps_set (i := 5) sc_law_next.nd rfl (Or.inl rfl) (pe_ix (r := rIxT K) ix_tup (pv 1) pe_int (fun _ _ => rfl)))) pss_nil)
      (pss_cons (ps_if (pt_cmpR op_eq (pv 2) pe_str (nomark _))
        (pss_cons (ps_if (pt_cmpR op_eq (pe_callB call_len_seq (by rfl) B.len PySem.boot_len (pa_cons (pv 5) pa_nil)) pe_int (nomark _)) (pss_one (ps_ret (pe_tup (pa_cons (pv 0) (pa_cons (pe_tup (pa_cons pe_str (pa_cons pe_int pa_nil))) pa_nil))))) pss_nil)
        (pss_one (ps_set (i := 5) sc_law_next.nd rfl (Or.inl rfl) (pe_op op_catA (pv 5) (pe_tup (pa_cons (pe_ix (r := rIxT K) ix_tup (pv 1) pe_int (fun _ _ => rfl)) pa_nil)))))) pss_nil)
      (pss_cons (ps_if (pt_cmpR op_eq (pv 2) pe_str (nomark _))
        (pss_cons (ps_if (pt_cmpR op_ge (pe_ix (r := rIxT K) ix_tup (pv 1) pe_int (fun _ _ => rfl)) (pe_callB call_len_seq (by rfl) B.len PySem.boot_len (pa_cons (pv 5) pa_nil)) (nomark _)) (pss_one (ps_ret (pe_tup (pa_cons (pv 0) (pa_cons (pe_tup (pa_cons pe_str (pa_cons pe_int pa_nil))) pa_nil))))) pss_nil)
        (pss_one (ps_set (i := 5) sc_law_next.nd rfl (Or.inl rfl) (pe_op op_catA (pe_slice (r := rSlA K) sl_tupA (pv 5) po_none (po_some (pe_ix (r := rIxT K) ix_tup (pv 1) pe_int (fun _ _ => rfl))))
          (pe_slice (r := rSlA K) sl_tupA (pv 5) (po_some (pe_op op_add (pe_ix (r := rIxT K) ix_tup (pv 1) pe_int (fun _ _ => rfl)) pe_int)) po_none))))) pss_nil)
      (pss_cons (ps_if (pt_cmpR op_eq (pv 2) pe_str (nomark _)) (pss_one (ps_set (i := 3) sc_law_next.nd rfl (Or.inl rfl) (pe_ix (r := rIxT K) ix_tup (pv 1) pe_int (fun _ _ => rfl)))) pss_nil)
      (pss_cons (ps_dput hu (pv 4) (pv 3) (pv 5) rfl)
      (pss_one (ps_ret (pe_tup (pa_cons (pv 4) (pa_cons (pe_tup (pa_cons pe_str (pa_cons (pe_f cT hr (by decide) (by rfl) (pa_cons (pv 5) pa_nil)) pa_nil))) pa_nil)))))))))))))), ?_⟩
    refine ⟨_, rfl, a, _, 0, _, rfl, rfl, SqT.of ha, atI_nat (j := 0) rfl, _, rfl, a, _, 1, _, rfl, rfl, SqT.of ha, atI_nat (j := 1) rfl, _, _, rfl, ?_⟩
    obtain ⟨kvs, hq, bk⟩ := id hD
    refine ⟨_, rfl, q, kvs, rfl, .inl hq, fun nw hnw => ?_⟩
    have s0 : Same H (upd H nw (.dK kvs)) := same_upd hnw
    have hq0 := s0 _ _ hq
    have hP0 : ∀ b o, H b = some o → (upd H nw (.dK kvs) : Hp) b = some o := s0
    have hnw0 : (upd H nw (.dK kvs) : Hp) nw = some (.dK kvs) := upd_same
    have bk0 := bk.u (same_u s0)
    have ha0 := s0 _ _ ha
    have nqn : q ≠ nw := ne_of_none hq hnw
    generalize upd H nw (.dK kvs) = H0 at s0 hq0 hP0 hnw0 bk0 ha0 ⊢
    -- a pair told
    have pair : ∀ (H1 : Hp) (q' : Addr) (an : An) (R : Addr → Hp → Prop), Same H H1 → (deedR rs x.ln).1 = an → ((∃ t, an = .told t) → DcAt H1 q' (deedR rs x.ln).2) → ∀ d, H1 d = none → ∀ T, (upd H1 d (.tup [.str (dueW an), dueV an]) : Hp) T = none → Q (.ref T) (upd (upd H1 d (.tup [.str (dueW an), dueV an])) T (.tup [.ref q', .ref d])) := by
      intro H1 q' an _ s1 e hd d hd1 T hT
      have t1 := same_upd (o := .tup [.str (dueW an), dueV an]) hd1
      have t2 := same_upd (o := .tup [.ref q', .ref d]) hT
      refine kQ _ T q' (.ref d) ((s1.trans t1).trans t2) upd_same ⟨d, rfl, ?_⟩ fun h => ?_
      · rw [e]
        exact t2 _ _ upd_same
      · rw [e] at h
        exact ((hd h).same t1).same t2
    -- the end: put and told
    have fin : ∀ (r : Ru) (n' : Str) (rv : V) (H1 : Hp), Same H0 H1 → RuAt H1 rv r → GR r → deedR rs x.ln = (.told (ruleT r), putB rs n' r) →
        (tSeq (sDPut (tVar 4) (tVar 3) (tVar 5)) (tRet (tTup (tCons (tVar 4) (tCons (tTup (tCons (tC (.str "told")) (tCons (tCall spRuleText [] E0 (tCons (tVar 5) tNil)) tNil))) tNil))))) { nx := fun _ H' => Q .non H', rt := Q } [some (.ref q), some (.ref a), some (.str (plW x)), some (.str n'), some (.ref nw), some rv] H1 := by
      intro r n' rv H1 s1 hR gr e
      have hnw1 := s1 _ _ hnw0
      obtain ⟨hD2, _, hR2⟩ := dc_write (n := n') hnw1 (bk0.u (same_u s1)) g.nd hR
      refine ⟨_, rfl, _, rfl, _, rfl, nw, _, rfl, DPut.k (k := Sum.inr n') hnw1 (small1000 (by rw [pr_len bk]; omega)), ?_⟩
      refine ⟨_, rfl, _, rfl, rv, r, rfl, hR2, gr, fun H2 s2 => ⟨by show 2 ≤ sizeLine; decide, fun d hd => ⟨by show 2 ≤ sizeLine; decide, fun T hT => ?_⟩⟩⟩
      have sn : Same H (upd H1 nw (.dK (putK kvs (Sum.inr n') rv))) := fun b o hb => by
        rw [upd_ne (ne_of_none hb hnw)]
        exact s1 _ _ (s0 _ _ hb)
      exact pair H2 nw (.told (ruleT r)) (fun _ _ => True) (sn.trans s2) (by rw [e]) (fun _ => by rw [e]; exact hD2.same s2) d hd T hT
    have dn : ∀ (z : Str), plW x ≠ z → decide (V.str (plW x) = V.str z) = false := fun z h => dec_ne h
    have dy : ∀ (z : Str), plW x = z → decide (V.str (plW x) = V.str z) = true := fun z h => decide_eq_true (by rw [h])
    have lk := bk_lk (plN x) bk0
    have gd := DGet.k (k := Sum.inr (plN x)) hq0
    -- a name that stands for nothing
    have noname : plW x ≠ "rule" → deedR rs x.ln = (.name (plN x), rs) → lkB rs (plN x) = none → (tAnd (tTest (tOp rNe (tVar 2) (tC (.str "rule")))) (tB (tDNotIn (tVar 3) (tVar 0)))) [some (.ref q), some (.ref a), some (.str (plW x)), some (.str (plN x)), some (.ref nw), none] H0 (fun b H1 => b = true ∧ H1 = H0) := by
      intro h1 h2 h3
      rw [h3] at lk
      refine ⟨_, rfl, rfl, _, rfl, ?_⟩
      rw [dn "rule" h1]
      refine iteT ⟨_, rfl, _, rfl, q, none, rfl, by rw [lk] at gd; exact gd, _, rfl, rfl, rfl⟩
    cases x with
    | undo => exact dd.elim
    | again => exact dd.elim
    | rule n r =>
      obtain ⟨a', y, ea, hay, hR⟩ := hP
      cases ea
      rw [ha] at hay
      have er : rest = [y] := by
        have := Option.some.inj hay
        injection this with this
        injection this with _ this
        injection this with _ this
      subst er
      refine ⟨_, rfl, rfl, _, rfl, ?_⟩
      rw [dy "rule" rfl]
      refine iteF ⟨_, rfl, rfl, _, rfl, ?_⟩
      rw [dn "drop" (show ("rule" : Str) ≠ "drop" by decide +kernel)]
      refine iteF ⟨_, rfl, q, rfl, .inl ⟨kvs, .inl hq0⟩, _, rfl, Nat.zero_le _, fun em hem => ?_⟩
      have s1 : Same H0 (upd H0 em (.tup [])) := same_upd hem
      refine ⟨_, DGet.k (k := Sum.inr n) (s1 _ _ hq0), ?_⟩
      refine ⟨_, rfl, rfl, _, rfl, ?_⟩
      rw [dy "rule" rfl]
      refine iteT ⟨_, rfl, a, _, 2, _, rfl, rfl, SqT.of (s1 _ _ ha0), atI_nat (j := 2) rfl, ?_⟩
      refine ⟨_, rfl, rfl, _, rfl, ?_⟩
      rw [dn "add" (show ("rule" : Str) ≠ "add" by decide +kernel)]
      refine iteF ⟨_, rfl, rfl, _, rfl, ?_⟩
      rw [dn "take" (show ("rule" : Str) ≠ "take" by decide +kernel)]
      refine iteF ⟨_, rfl, rfl, _, rfl, ?_⟩
      rw [dn "copy" (show ("rule" : Str) ≠ "copy" by decide +kernel)]
      exact iteF (fin r n y _ s1 (hR.same (s0.trans s1)) gl.2 rfl)
    | add n h =>
      obtain ⟨a', y, ea, hay, hY⟩ := hP
      cases ea
      rw [ha] at hay
      have er : rest = [y] := by
        have := Option.some.inj hay
        injection this with this
        injection this with _ this
        injection this with _ this
      subst er
      cases e : lkB rs n with
      | none =>
        rw [show plN (.add n h) = n from rfl, e] at lk
        rw [show plN (.add n h) = n from rfl, lk] at gd
        refine ⟨_, rfl, rfl, _, rfl, ?_⟩
        rw [dn "rule" (show ("add" : Str) ≠ "rule" by decide +kernel)]
        refine iteT ⟨_, rfl, _, rfl, q, none, rfl, gd, _, rfl, iteT ⟨_, rfl, _, rfl, by show 2 ≤ sizeLine; decide, fun d hd => ⟨by show 2 ≤ sizeLine; decide, fun T hT => ?_⟩⟩⟩
        exact pair H0 q (.name n) (fun _ _ => True) s0 (by simp only [Pl.ln, deedR, e]) (fun h => by obtain ⟨t, z⟩ := h; cases z) d hd T hT
      | some r =>
        rw [show plN (.add n h) = n from rfl, e] at lk
        obtain ⟨v, hv, hR⟩ := lk
        rw [show plN (.add n h) = n from rfl, hv] at gd
        have gr := g.lk e
        refine ⟨_, rfl, rfl, _, rfl, ?_⟩
        rw [dn "rule" (show ("add" : Str) ≠ "rule" by decide +kernel)]
        refine iteT ⟨_, rfl, _, rfl, q, some v, rfl, gd, _, rfl, iteF ?_⟩
        refine ⟨_, rfl, rfl, _, rfl, ?_⟩
        rw [dn "drop" (show ("add" : Str) ≠ "drop" by decide +kernel)]
        refine iteF ⟨_, rfl, q, rfl, .inl ⟨kvs, .inl hq0⟩, _, rfl, Nat.zero_le _, fun em hem => ?_⟩
        have s1 : Same H0 (upd H0 em (.tup [])) := same_upd hem
        have gd1 := DGet.k (k := Sum.inr n) (s1 _ _ hq0)
        rw [hv] at gd1
        refine ⟨some v, gd1, ?_⟩
        have hR1 := hR.same s1
        have ha1 := s1 _ _ ha0
        generalize upd H0 em (.tup []) = H1 at s1 hR1 ha1 ⊢
        refine ⟨_, rfl, rfl, _, rfl, ?_⟩
        rw [dn "rule" (show ("add" : Str) ≠ "rule" by decide +kernel)]
        refine iteF ⟨_, rfl, rfl, _, rfl, ?_⟩
        rw [dy "add" rfl]
        refine iteT ?_
        obtain ⟨b, xs, rfl, hb, pr⟩ := id hR1
        have lx := pr_len pr
        have few := gr.few
        refine ⟨_, rfl, b, xs, rfl, .inr (SqT.of hb), rfl, _, rfl, ?_⟩
        by_cases h6 : r.length = 6
        · rw [lx, h6]
          refine iteT ⟨_, rfl, by show 2 ≤ sizeLine; decide, fun d hd => ⟨by show 2 ≤ sizeLine; decide, fun T hT => ?_⟩⟩
          exact pair H1 q .rule (fun _ _ => True) (s0.trans s1) (by simp only [Pl.ln, deedR, e]; rw [if_pos h6]) (fun h => by obtain ⟨t, z⟩ := h; cases z) d hd T hT
        · have d1 : decide (V.int (xs.length : Nat) = V.int 6) = false := decide_eq_false fun z => h6 (by injection z with z; omega)
          rw [d1]
          refine iteF ?_
          have eq : deedR rs (Pl.ln (.add n h)) = (.told (ruleT (r ++ [h])), putB rs n (r ++ [h])) := by simp only [Pl.ln, deedR, e]; rw [if_neg h6]
          have gr2 := gr.app gl.2 h6
          refine ⟨_, rfl, _, rfl, a, _, 2, _, rfl, rfl, SqT.of ha1, atI_nat (j := 2) rfl, by show 1 ≤ sizeLine; decide, fun t ht => ?_⟩
          have s2 : Same H1 (upd H1 t (.tup [y])) := same_upd ht
          have hY1 := hY.same ((s0.trans s1).trans s2)
          refine ⟨b, t, xs, [y], rfl, rfl, SqT.of (s2 _ _ hb), SqT.of upd_same, by rw [sizeLine_eq, List.length_singleton]; omega, fun e0 => ?_, fun _ z => (by cases z), fun _ _ u hu' => ?_⟩
          · subst e0
            cases pr
            refine ⟨_, rfl, rfl, _, rfl, ?_⟩
            rw [dn "take" (show ("add" : Str) ≠ "take" by decide +kernel)]
            refine iteF ⟨_, rfl, rfl, _, rfl, ?_⟩
            rw [dn "copy" (show ("add" : Str) ≠ "copy" by decide +kernel)]
            exact iteF (fin ([] ++ [h]) n _ _ (s1.trans s2) ⟨t, [y], rfl, upd_same, .cons hY1 .nil⟩ gr2 eq)
          · refine ⟨_, rfl, rfl, _, rfl, ?_⟩
            rw [dn "take" (show ("add" : Str) ≠ "take" by decide +kernel)]
            refine iteF ⟨_, rfl, rfl, _, rfl, ?_⟩
            rw [dn "copy" (show ("add" : Str) ≠ "copy" by decide +kernel)]
            refine iteF (fin (r ++ [h]) n _ _ (s1.trans (s2.trans (same_upd hu'))) ⟨u, xs ++ [y], rfl, upd_same, ?_⟩ gr2 eq)
            exact pr_app (L2.Paired.mapP pr fun _ _ q => (q.same s2).same (same_upd hu')) (.cons (hY1.same (same_upd hu')) .nil)
    | take n i =>
      obtain ⟨a', ea, hay⟩ := hP
      cases ea
      rw [ha] at hay
      have er : rest = [.int (i : Nat)] := by
        have := Option.some.inj hay
        injection this with this
        injection this with _ this
        injection this with _ this
      subst er
      cases e : lkB rs n with
      | none =>
        rw [show plN (.take n i) = n from rfl, e] at lk
        rw [show plN (.take n i) = n from rfl, lk] at gd
        refine ⟨_, rfl, rfl, _, rfl, ?_⟩
        rw [dn "rule" (show ("take" : Str) ≠ "rule" by decide +kernel)]
        refine iteT ⟨_, rfl, _, rfl, q, none, rfl, gd, _, rfl, iteT ⟨_, rfl, _, rfl, by show 2 ≤ sizeLine; decide, fun d hd => ⟨by show 2 ≤ sizeLine; decide, fun T hT => ?_⟩⟩⟩
        exact pair H0 q (.name n) (fun _ _ => True) s0 (by simp only [Pl.ln, deedR, e]) (fun h => by obtain ⟨t, z⟩ := h; cases z) d hd T hT
      | some r =>
        rw [show plN (.take n i) = n from rfl, e] at lk
        obtain ⟨v, hv, hR⟩ := lk
        rw [show plN (.take n i) = n from rfl, hv] at gd
        have gr := g.lk e
        refine ⟨_, rfl, rfl, _, rfl, ?_⟩
        rw [dn "rule" (show ("take" : Str) ≠ "rule" by decide +kernel)]
        refine iteT ⟨_, rfl, _, rfl, q, some v, rfl, gd, _, rfl, iteF ?_⟩
        refine ⟨_, rfl, rfl, _, rfl, ?_⟩
        rw [dn "drop" (show ("take" : Str) ≠ "drop" by decide +kernel)]
        refine iteF ⟨_, rfl, q, rfl, .inl ⟨kvs, .inl hq0⟩, _, rfl, Nat.zero_le _, fun em hem => ?_⟩
        have s1 : Same H0 (upd H0 em (.tup [])) := same_upd hem
        have gd1 := DGet.k (k := Sum.inr n) (s1 _ _ hq0)
        rw [hv] at gd1
        refine ⟨some v, gd1, ?_⟩
        have hR1 := hR.same s1
        have ha1 := s1 _ _ ha0
        generalize upd H0 em (.tup []) = H1 at s1 hR1 ha1 ⊢
        refine ⟨_, rfl, rfl, _, rfl, ?_⟩
        rw [dn "rule" (show ("take" : Str) ≠ "rule" by decide +kernel)]
        refine iteF ⟨_, rfl, rfl, _, rfl, ?_⟩
        rw [dn "add" (show ("take" : Str) ≠ "add" by decide +kernel)]
        refine iteF ⟨_, rfl, rfl, _, rfl, ?_⟩
        rw [dy "take" rfl]
        refine iteT ?_
        obtain ⟨b, xs, rfl, hb, pr⟩ := id hR1
        have lx := pr_len pr
        have few := gr.few
        refine ⟨_, rfl, a, _, 2, _, rfl, rfl, SqT.of ha1, atI_nat (j := 2) rfl, _, rfl, b, xs, rfl, .inr (SqT.of hb), _, _, rfl, rfl, _, rfl, ?_⟩
        by_cases hir : r.length ≤ i
        · rw [decide_eq_true (show ((xs.length : Nat) : Int) ≤ (i : Nat) by omega)]
          refine iteT ⟨_, rfl, by show 2 ≤ sizeLine; decide, fun d hd => ⟨by show 2 ≤ sizeLine; decide, fun T hT => ?_⟩⟩
          exact pair H1 q .place (fun _ _ => True) (s0.trans s1) (by simp only [Pl.ln, deedR, e]; rw [if_pos hir]) (fun h => by obtain ⟨t, z⟩ := h; cases z) d hd T hT
        · rw [decide_eq_false (show ¬ ((xs.length : Nat) : Int) ≤ (i : Nat) by omega)]
          refine iteF ?_
          have eq : deedR rs (Pl.ln (.take n i)) = (.told (ruleT (r.take i ++ r.drop (i + 1))), putB rs n (r.take i ++ r.drop (i + 1))) := by simp only [Pl.ln, deedR, e]; rw [if_neg hir]
          have gr2 := gr.cut i
          refine ⟨_, rfl, _, rfl, a, _, 2, _, rfl, rfl, SqT.of ha1, atI_nat (j := 2) rfl, _, rfl, b, xs, rfl, SqT.of hb, fun z => ?_, fun _ t1 ht1 => ?_⟩
          · exfalso
            have z2 := z.2
            rw [HT.sIx_nat] at z2
            omega
          have u1 : Same H1 (upd H1 t1 (.tup (cutV xs none (some (i : Int))))) := same_upd ht1
          refine ⟨_, rfl, _, rfl, a, _, 2, _, rfl, rfl, SqT.of (u1 _ _ ha1), atI_nat (j := 2) rfl, _, _, rfl, rfl, _, rfl, b, xs, rfl, SqT.of (u1 _ _ hb), fun z => ?_, fun _ t2 ht2 => ?_⟩
          · exfalso
            have z1 := z.1
            have e1 : ((i : Int) + 1) = ((i + 1 : Nat) : Int) := by omega
            rw [e1, HT.sIx_nat] at z1
            omega
          have e1 : cutV xs none (some (i : Int)) = xs.take i := cutV_take xs i
          have e2 : cutV xs (some ((i : Int) + 1)) none = xs.drop (i + 1) := cutV_drop xs (i + 1)
          have p1 := pr_take i pr
          have p2 := pr_drop (i + 1) pr
          rw [e1] at ht2
          rw [e1, e2]
          have v1 : Same H1 (upd H1 t1 (.tup (xs.take i))) := same_upd ht1
          have v2 : Same (upd H1 t1 (.tup (xs.take i))) (upd (upd H1 t1 (.tup (xs.take i))) t2 (.tup (xs.drop (i + 1)))) := same_upd ht2
          have h1 : (upd (upd H1 t1 (.tup (xs.take i))) t2 (.tup (xs.drop (i + 1))) : Hp) t1 = some (.tup (xs.take i)) := v2 _ _ upd_same
          have h2 : (upd (upd H1 t1 (.tup (xs.take i))) t2 (.tup (xs.drop (i + 1))) : Hp) t2 = some (.tup (xs.drop (i + 1))) := upd_same
          have v12 := v1.trans v2
          refine ⟨t1, t2, _, _, rfl, rfl, SqT.of h1, SqT.of h2, by rw [sizeLine_eq, List.length_take, List.length_drop]; omega, fun z => ?_, fun _ z => ?_, fun _ _ t3 ht3 => ?_⟩
          · refine ⟨_, rfl, rfl, _, rfl, ?_⟩
            rw [dn "copy" (show ("take" : Str) ≠ "copy" by decide +kernel)]
            refine iteF (fin _ n _ _ (s1.trans v12) ⟨t2, _, rfl, h2, ?_⟩ gr2 eq)
            rw [z] at p1
            have : r.take i = [] := by
              cases hh : r.take i with
              | nil => rfl
              | cons x y => rw [hh] at p1; cases p1
            rw [this, List.nil_append]
            exact L2.Paired.mapP p2 fun _ _ q => q.same v12
          · refine ⟨_, rfl, rfl, _, rfl, ?_⟩
            rw [dn "copy" (show ("take" : Str) ≠ "copy" by decide +kernel)]
            refine iteF (fin _ n _ _ (s1.trans v12) ⟨t1, _, rfl, h1, ?_⟩ gr2 eq)
            rw [z] at p2
            have : r.drop (i + 1) = [] := by
              cases hh : r.drop (i + 1) with
              | nil => rfl
              | cons x y => rw [hh] at p2; cases p2
            rw [this, List.append_nil]
            exact L2.Paired.mapP p1 fun _ _ q => q.same v12
          · refine ⟨_, rfl, rfl, _, rfl, ?_⟩
            rw [dn "copy" (show ("take" : Str) ≠ "copy" by decide +kernel)]
            refine iteF (fin _ n _ _ (s1.trans (same_upd' v12 ht3)) ⟨t3, _, rfl, upd_same, ?_⟩ gr2 eq)
            exact L2.Paired.mapP (pr_app p1 p2) fun _ _ q => q.same (same_upd' v12 ht3)
    | copy n m =>
      obtain ⟨a', ea, hay⟩ := hP
      cases ea
      rw [ha] at hay
      have er : rest = [.str m] := by
        have := Option.some.inj hay
        injection this with this
        injection this with _ this
        injection this with _ this
      subst er
      cases e : lkB rs n with
      | none =>
        rw [show plN (.copy n m) = n from rfl, e] at lk
        rw [show plN (.copy n m) = n from rfl, lk] at gd
        refine ⟨_, rfl, rfl, _, rfl, ?_⟩
        rw [dn "rule" (show ("copy" : Str) ≠ "rule" by decide +kernel)]
        refine iteT ⟨_, rfl, _, rfl, q, none, rfl, gd, _, rfl, iteT ⟨_, rfl, _, rfl, by show 2 ≤ sizeLine; decide, fun d hd => ⟨by show 2 ≤ sizeLine; decide, fun T hT => ?_⟩⟩⟩
        exact pair H0 q (.name n) (fun _ _ => True) s0 (by simp only [Pl.ln, deedR, e]) (fun h => by obtain ⟨t, z⟩ := h; cases z) d hd T hT
      | some r =>
        rw [show plN (.copy n m) = n from rfl, e] at lk
        obtain ⟨v, hv, hR⟩ := lk
        rw [show plN (.copy n m) = n from rfl, hv] at gd
        have gr := g.lk e
        refine ⟨_, rfl, rfl, _, rfl, ?_⟩
        rw [dn "rule" (show ("copy" : Str) ≠ "rule" by decide +kernel)]
        refine iteT ⟨_, rfl, _, rfl, q, some v, rfl, gd, _, rfl, iteF ?_⟩
        refine ⟨_, rfl, rfl, _, rfl, ?_⟩
        rw [dn "drop" (show ("copy" : Str) ≠ "drop" by decide +kernel)]
        refine iteF ⟨_, rfl, q, rfl, .inl ⟨kvs, .inl hq0⟩, _, rfl, Nat.zero_le _, fun em hem => ?_⟩
        have s1 : Same H0 (upd H0 em (.tup [])) := same_upd hem
        have gd1 := DGet.k (k := Sum.inr n) (s1 _ _ hq0)
        rw [hv] at gd1
        refine ⟨some v, gd1, ?_⟩
        have hR1 := hR.same s1
        have ha1 := s1 _ _ ha0
        generalize upd H0 em (.tup []) = H1 at s1 hR1 ha1 ⊢
        refine ⟨_, rfl, rfl, _, rfl, ?_⟩
        rw [dn "rule" (show ("copy" : Str) ≠ "rule" by decide +kernel)]
        refine iteF ⟨_, rfl, rfl, _, rfl, ?_⟩
        rw [dn "add" (show ("copy" : Str) ≠ "add" by decide +kernel)]
        refine iteF ⟨_, rfl, rfl, _, rfl, ?_⟩
        rw [dn "take" (show ("copy" : Str) ≠ "take" by decide +kernel)]
        refine iteF ⟨_, rfl, rfl, _, rfl, ?_⟩
        rw [dy "copy" rfl]
        refine iteT ⟨_, rfl, a, _, 2, _, rfl, rfl, SqT.of ha1, atI_nat (j := 2) rfl, ?_⟩
        exact fin r m _ _ s1 hR1 gr (by simp only [Pl.ln, deedR, e])
    | drop n =>
      obtain ⟨a', ea, hay⟩ := hP
      cases ea
      rw [ha] at hay
      have er : rest = [] := by
        have := Option.some.inj hay
        injection this with this
        injection this with _ this
        injection this with _ this
      subst er
      cases e : lkB rs n with
      | none =>
        rw [show plN (.drop n) = n from rfl, e] at lk
        rw [show plN (.drop n) = n from rfl, lk] at gd
        refine ⟨_, rfl, rfl, _, rfl, ?_⟩
        rw [dn "rule" (show ("drop" : Str) ≠ "rule" by decide +kernel)]
        refine iteT ⟨_, rfl, _, rfl, q, none, rfl, gd, _, rfl, iteT ⟨_, rfl, _, rfl, by show 2 ≤ sizeLine; decide, fun d hd => ⟨by show 2 ≤ sizeLine; decide, fun T hT => ?_⟩⟩⟩
        exact pair H0 q (.name n) (fun _ _ => True) s0 (by simp only [Pl.ln, deedR, e]) (fun h => by obtain ⟨t, z⟩ := h; cases z) d hd T hT
      | some r =>
        rw [show plN (.drop n) = n from rfl, e] at lk
        obtain ⟨v, hv, hR⟩ := lk
        rw [show plN (.drop n) = n from rfl, hv] at gd
        have gr := g.lk e
        refine ⟨_, rfl, rfl, _, rfl, ?_⟩
        rw [dn "rule" (show ("drop" : Str) ≠ "rule" by decide +kernel)]
        refine iteT ⟨_, rfl, _, rfl, q, some v, rfl, gd, _, rfl, iteF ?_⟩
        refine ⟨_, rfl, rfl, _, rfl, ?_⟩
        rw [dy "drop" rfl]
        refine iteT ⟨_, rfl, nw, rfl, .inl ⟨kvs, .inl hnw0⟩, _, rfl, kvs, Sum.inr n, v, hnw0, rfl, hv, ?_⟩
        have u : SameU H0 (upd H0 nw (.dK (dropK kvs (Sum.inr n)))) := u_put hnw0 (fun _ z => by cases z) (fun _ _ z => by cases z)
        have hD2 : DcAt (upd H0 nw (.dK (dropK kvs (Sum.inr n)))) nw (dropB rs n) := ⟨_, upd_same, (bk_drop n bk0).u u⟩
        have sn : Same H (upd H0 nw (.dK (dropK kvs (Sum.inr n)))) := fun b o hb => by
          rw [upd_ne (ne_of_none hb hnw)]
          exact s0 _ _ hb
        refine ⟨_, rfl, _, rfl, nw, dropB rs n, rfl, hD2, g.drop n, by have := dropB_len n rs; omega, fun H2 s2 => ⟨by show 2 ≤ sizeLine; decide, fun d hd => ⟨by show 2 ≤ sizeLine; decide, fun T hT => ?_⟩⟩⟩
        have eq : deedR rs (Pl.ln (.drop n)) = (.told (namesT (dropB rs n)), dropB rs n) := by simp only [Pl.ln, deedR, e]
        exact pair H2 nw (.told (namesT (dropB rs n))) (fun _ _ => True) (sn.trans s2) (by rw [eq]) (fun _ => by rw [eq]; exact hD2.same s2) d hd T hT
end
end Kd
namespace Kd
open PySem PySem.Spec PyProof.Rows L2
/-! ## The law's hearing: an answer or a refusal -/
section
variable {X : Cx} {W : WX} {k : Nat} {fM CC : Addr} {fdM : FuncData} {pns : List Str} {spM : Sp} {m : Str} {qp ap : Pos} {e ob : Expr} {es : List Expr} {tob : TE} {targ : TA} {plainM : Sem Bool}
/-- o.m(e, ..) where what it lets out is wished for at the slots as they stand -/
theorem pe_methW (hob : PE X ob tob) (c : Cls X.K CC) (hm : Meth X.K CC m fM) (F : FnOk X.prog X.w X.K X.mg X.base (L2.CX X.prog X.w) k fM fdM pns spM) (room : Room k X.A) (bs : Binds X.K fdM pns []) (tk : Takes X W) (hargs : PA X (e :: es) targ)
    (first : starEach (e :: es) X.env = (false, eval e X.env) :: starEach es X.env := by rfl) (nostar : (backTo qp (starEach es X.env)).any (·.1) = false := by rfl)
    (tree : eval (.Call (.Attribute ob m ap) (e :: es) [] qp) X.env = (do
      let owner ← eval ob X.env
      standAt ap.atName
      let (fun_, bound) ← holding [owner] (getMethod owner m plainM)
      callWith qp fun_ bound (backTo qp (starEach (e :: es) X.env)) (backToKw qp (keywordEach [] X.env))) := by rfl) :
    PE X (.Call (.Attribute ob m ap) (e :: es) [] qp) (fun σ H Q => tob σ H fun x H1 => ∃ a dx fs, x = .ref a ∧ H1 a = some (.ins CC dx fs) ∧ fs.lookup m = none ∧ targ σ H1 fun vs H2 => spM (x :: vs) H2 Q (fun cls d H' => W cls d σ H')) := by
  constructor
  intro pins s σ H Q I h
  refine PySem.W.methodCall_KW (pl := plainM) (thn (hob.run pins s σ H _ I h) fun u s1 hh => ?_) tree
  obtain ⟨x, H1, I1, rx, a, dx, fs, ex, ea, l, q⟩ := hh
  subst ex
  cases rx
  refine getmeth_ok I1 ea c hm l ?_
  refine PySem.W.callWith_K (first := [.ref a]) (h₀ := X.base) I1.ok.mod.kin hm.kp (thn (hargs.run qp pins s1 σ H1 _ I1 q) fun us s2 h2 => ?_) first nostar
  obtain ⟨vs, H2, I2, r, q2⟩ := h2
  have rAll : Vals (V.ref a :: vs) (Value.ref a :: us) := .cons rfl r
  refine ⟨I2.kIn, ?_⟩
  have len : ((Value.ref a :: us) ++ []).length = pns.length := by
    rw [List.append_nil, ← rAll.length]
    exact F.len _ _ _ _ q2
  have bnd := bs s2 (Value.ref a :: us) I2.kIn len
  refine wpAny_call (codeAny_mono (F.run X.A X.stack s2 H2 _ _ (V.ref a :: vs) Q _ room I2.env0 bnd (by rw [List.append_nil]; exact rAll) q2) fun res s' hres => ?_)
  match res, hres with
  | .error er, hres => exact tk er s' (XE.of_call I2 (fun _ _ _ z => z) hres)
  | .ok (.ret u), hres => exact I2.after hres
  | .ok .next, hres => exact hres.elim
  | .ok .brk, hres => exact hres.elim
  | .ok .cont, hres => exact hres.elim
end
/-- which clause catches which refusal -/
structure Xm (K : PySem.W.Frag) (e : Ec) : Prop where
  nn : PySem.W.exmOne K (.ref e.n) (.ref e.n) = some true
  rn : PySem.W.exmOne K (.ref e.r) (.ref e.n) = some false
  rr : PySem.W.exmOne K (.ref e.r) (.ref e.r) = some true
  pn : PySem.W.exmOne K (.ref e.p) (.ref e.n) = some false
  pr : PySem.W.exmOne K (.ref e.p) (.ref e.r) = some false
  pp : PySem.W.exmOne K (.ref e.p) (.ref e.p) = some true
  mn : PySem.W.exmOne K (.ref e.m) (.ref e.n) = some false
  mr : PySem.W.exmOne K (.ref e.m) (.ref e.r) = some false
  mp : PySem.W.exmOne K (.ref e.m) (.ref e.p) = some false
  mm : PySem.W.exmOne K (.ref e.m) (.ref e.m) = some true
  tn : PySem.W.exmOne K (.ref e.t) (.ref e.n) = some false
  tr : PySem.W.exmOne K (.ref e.t) (.ref e.r) = some false
  tp : PySem.W.exmOne K (.ref e.t) (.ref e.p) = some false
  tm : PySem.W.exmOne K (.ref e.t) (.ref e.m) = some false
  tt : PySem.W.exmOne K (.ref e.t) (.ref e.t) = some true
theorem deedS_stay {D : Dk} {l : Ln} (h : ∀ t, (deedS D l).1 ≠ .told t) : (deedS D l).2 = D := by
  unfold deedS at h ⊢
  split
  · rename_i t rs heq
    rw [heq] at h
    exact absurd rfl (h t)
  · rfl
theorem stepD_stay {D : Dk} {l : Ln} (h : ∀ t, (stepD D l).1 ≠ .told t) : (stepD D l).2 = D := by
  cases l with
  | rule n r => exact deedS_stay h
  | add n x => exact deedS_stay h
  | take n i => exact deedS_stay h
  | copy n x => exact deedS_stay h
  | drop n => exact deedS_stay h
  | undo =>
    change ∀ t, (backS D).1 ≠ .told t at h
    show (backS D).2 = D
    unfold backS at h ⊢
    split
    · rfl
    · rename_i b heq
      rw [heq] at h
      exact absurd rfl (h _)
  | again =>
    change ∀ t, (onS D).1 ≠ .told t at h
    show (onS D).2 = D
    unfold onS at h ⊢
    split
    · rfl
    · rename_i b heq
      rw [heq] at h
      exact absurd rfl (h _)
  | names => rfl
  | shw n => rfl
  | keeps n x => rfl
  | mtch n x => rfl
section
variable {P : Program} {w : World} {K : PySem.W.Frag} {mg : Str → Option Value} {base : Heap}
def spAnswer (C : Addr) : Sp := fun vs H Q _ => ∃ (p pl al : Addr) (D : Dk) (l : Ln), vs = [.ref p, .str (lineT l)] ∧ DkSt H C p pl al D ∧ DkOk D 60 ∧ GL l ∧
  ∀ H' al' v, Keep3 p pl al H H' → DkSt H' C p pl al' (stepD D l).2 → (al' = al ∨ H al' = none) → DueAt H' v (stepD D l).1 → Q v H'
theorem sc_law_answer : FnScope ["_law_desk", "_law_line", "_law_found", "e"] ["_law_desk", "_law_line"] (defScope s_law_answer) := ⟨rfl, rfl, rfl, by decide +kernel, rfl, by decide +kernel, by decide +kernel⟩
theorem ok_law_answer {e : Ec} {C fT : Addr} {fdT : FuncData} (N : Nn K mg e.n) (eR : Er K mg "NoRule" e.r) (eP : Er K mg "NoPlace" e.p) (eM : Er K mg "NotSoMany" e.m) (eT : Er K mg "NothingLeft" e.t) (x : Xm K e) (D : Df K mg "_law_answer" s_law_answer) (KC : DkC K mg C)
    (M : Md K C "tell" "Desk.tell" s_desk_tell fT fdT) (F : FnOk P w K mg base (L2.CX P w) 8 fT fdT ["self", "line"] (spTell e C)) : Cl P w K mg base CX0 9 "_law_answer" (spAnswer C) := by
  refine mk0 D sc_law_answer (fun _ _ _ _ _ _ us hl => match us, hl with | [_, _], _ => rfl) (fun vs H Q E h => ?_) (fun f cdv A outer s H vs Q E hr h => ?_)
  · obtain ⟨p, pl, al, D, l, rfl, _⟩ := h
    rfl
  · obtain ⟨p, pl, al, D, l, rfl, st, ok, gl, kQ⟩ := h
    refine ⟨_, pss_cons (ps_set (i := 2) sc_law_answer.nd rfl (Or.inl rfl) (pe_tup (pa_cons pe_str (pa_cons pe_int pa_nil))))
      (pss_cons (ps_try_mix rfl rfl sc_law_answer.nd
          (fun W pn xe tk po => pss_one (ps_set (i := 2) sc_law_answer.nd rfl (Or.inl rfl) (pe_tup (pa_cons pe_str (pa_cons (pe_methW (W := W) (plainM := _) (pv 0) KC.cls M.meth F (hr.mono (by decide)) (M.fun_.bindsN (fun _ _ _ _ _ _ us hl => match us, hl with | [_, _], _ => rfl)) tk (pa_cons (pv 1) pa_nil)) pa_nil)))))
          (.named (i := 3) (ts := fun a cls d => tAsg (tTup (tCons (tC (.str "name")) (tCons (tXf a cls d e.n "name" (tVar 3)) tNil))) (gName 2)) rfl (by rfl) ⟨by rfl, by decide, .inl N.g⟩
              (fun a oe cls d pn hz hf => pss_one (ps_set (i := 2) sc_law_answer.nd rfl (Or.inl rfl) (pe_tup (pa_cons pe_str (pa_cons (pe_xf N.xf N.nm hz hf (pv 3)) pa_nil)))))
            (.plain (ts := fun _ _ _ => tAsg (tTup (tCons (tC (.str "rule")) (tCons (tC (.int 0)) tNil))) (gName 2)) ⟨by rfl, by decide, .inl eR.g⟩ (fun a oe cls d pn hz hf => pss_one (ps_set (i := 2) sc_law_answer.nd rfl (Or.inl rfl) (pe_tup (pa_cons pe_str (pa_cons pe_int pa_nil)))))
            (.plain (ts := fun _ _ _ => tAsg (tTup (tCons (tC (.str "place")) (tCons (tC (.int 0)) tNil))) (gName 2)) ⟨by rfl, by decide, .inl eP.g⟩ (fun a oe cls d pn hz hf => pss_one (ps_set (i := 2) sc_law_answer.nd rfl (Or.inl rfl) (pe_tup (pa_cons pe_str (pa_cons pe_int pa_nil)))))
            (.plain (ts := fun _ _ _ => tAsg (tTup (tCons (tC (.str "many")) (tCons (tC (.int 0)) tNil))) (gName 2)) ⟨by rfl, by decide, .inl eM.g⟩ (fun a oe cls d pn hz hf => pss_one (ps_set (i := 2) sc_law_answer.nd rfl (Or.inl rfl) (pe_tup (pa_cons pe_str (pa_cons pe_int pa_nil)))))
            (.plain (ts := fun _ _ _ => tAsg (tTup (tCons (tC (.str "nothing")) (tCons (tC (.int 0)) tNil))) (gName 2)) ⟨by rfl, by decide, .inl eT.g⟩ (fun a oe cls d pn hz hf => pss_one (ps_set (i := 2) sc_law_answer.nd rfl (Or.inl rfl) (pe_tup (pa_cons pe_str (pa_cons pe_int pa_nil)))))
            .nil))))))
      (pss_one (ps_ret (pv 2)))), ?_⟩
    refine ⟨by show 2 ≤ sizeLine; decide, fun t0 ht0 => ?_⟩
    have s0 : Same H (upd H t0 (.tup [.str "none", .int 0])) := same_upd ht0
    generalize upd H t0 (.tup [.str "none", .int 0]) = H0 at s0 ⊢
    obtain ⟨dx, h, hp, hh⟩ := st.ins
    have none_ : ∀ q : Addr, H0 q = none → H q = none := fun q z => by
      cases z2 : H q with
      | none => rfl
      | some o => rw [s0 _ _ z2] at z; cases z
    have fin : ∀ H1 al' (v : V), Keep3 p pl al H0 H1 → DkSt H1 C p pl al' (stepD D l).2 → (al' = al ∨ H0 al' = none) → DueAt H1 v (stepD D l).1 → Q v H1 := fun H1 al' v k1 st1 hal hd =>
      kQ H1 al' v ((keep_same s0).trans k1) st1 (hal.imp id (none_ al')) hd
    refine ⟨_, rfl, p, dx, _, rfl, s0 _ _ hp, rfl, _, rfl, p, pl, al, D, l, rfl, st.same s0, ok, gl, fun t ht H1 al' k1 st1 hal => ?_, fun hne => ?_⟩
    · refine ⟨by show 2 ≤ sizeLine; decide, fun d hd => ⟨_, rfl, ?_⟩⟩
      have s2 := same_upd (o := .tup [.str "told", .str t]) hd
      exact fin _ al' _ (k1.trans (keep_same s2)) (st1.same s2) hal ⟨d, rfl, by rw [upd_same, ht]; rfl⟩
    · have stay := stepD_stay hne
      rw [stay] at fin
      generalize (stepD D l).1 = a at fin hne ⊢
      have fin2 : ∀ H1 d, Same H0 H1 → H1 d = some (.tup [.str (dueW a), dueV a]) → Q (.ref d) H1 := fun H1 d s1 hd => fin H1 al _ (keep_same s1) (st.same (s0.trans s1)) (.inl rfl) ⟨d, rfl, hd⟩
      cases a with
      | told t => trivial
      | name n =>
        intro H1 d s1 hd
        refine ⟨true, x.nn, fun _ a ha => ⟨_, rfl, rfl, rfl, d, _, _, rfl, hd, rfl, by show 2 ≤ sizeLine; decide, fun t ht => ⟨_, rfl, ?_⟩⟩, fun z => by cases z⟩
        exact fin2 _ t (s1.trans (same_upd ht)) upd_same
      | rule =>
        intro H1 s1
        refine ⟨false, x.rn, fun z => (by cases z), fun _ => ⟨true, x.rr, fun _ a ha => ⟨by show 2 ≤ sizeLine; decide, fun t ht => ⟨_, rfl, ?_⟩⟩, fun z => by cases z⟩⟩
        exact fin2 _ t (s1.trans (same_upd ht)) upd_same
      | place =>
        intro H1 s1
        refine ⟨false, x.pn, fun z => (by cases z), fun _ => ⟨false, x.pr, fun z => (by cases z), fun _ => ⟨true, x.pp, fun _ a ha => ⟨by show 2 ≤ sizeLine; decide, fun t ht => ⟨_, rfl, ?_⟩⟩, fun z => by cases z⟩⟩⟩
        exact fin2 _ t (s1.trans (same_upd ht)) upd_same
      | many =>
        intro H1 s1
        refine ⟨false, x.mn, fun z => (by cases z), fun _ => ⟨false, x.mr, fun z => (by cases z), fun _ => ⟨false, x.mp, fun z => (by cases z), fun _ => ⟨true, x.mm, fun _ a ha => ⟨by show 2 ≤ sizeLine; decide, fun t ht => ⟨_, rfl, ?_⟩⟩, fun z => by cases z⟩⟩⟩⟩
        exact fin2 _ t (s1.trans (same_upd ht)) upd_same
      | nothing =>
        intro H1 s1
        refine ⟨false, x.tn, fun z => (by cases z), fun _ => ⟨false, x.tr, fun z => (by cases z), fun _ => ⟨false, x.tp, fun z => (by cases z), fun _ => ⟨false, x.tm, fun z => (by cases z), fun _ => ⟨true, x.tt, fun _ a ha => ⟨by show 2 ≤ sizeLine; decide, fun t ht => ⟨_, rfl, ?_⟩⟩, fun z => by cases z⟩⟩⟩⟩⟩
        exact fin2 _ t (s1.trans (same_upd ht)) upd_same
/-! ### right -/
def spRight (C : Addr) : Sp := fun vs H Q _ => ∃ (p pl al : Addr) (D : Dk) (l : Ln) (v : V), vs = [.ref p, .str (lineT l), v] ∧ DkSt H C p pl al D ∧ DkOk D 60 ∧ GL l ∧ DueAt H v (stepD D l).1 ∧
  ∀ H' al', Keep3 p pl al H H' → DkSt H' C p pl al' (stepD D l).2 → (al' = al ∨ H al' = none) → Q (.bl true) H'
theorem sc_law_right : FnScope ["_law_desk", "_law_line", "_law_due", "_law_word", "_law_value"] ["_law_desk", "_law_line", "_law_due"] (defScope s_law_right) := ⟨rfl, rfl, rfl, by decide +kernel, rfl, by decide +kernel, by decide +kernel⟩
theorem keep_tup {p pl al : Addr} {C : Addr} {D : Dk} {H H' : Hp} {b : Addr} {xs : List V} (st : DkSt H C p pl al D) (k : Keep3 p pl al H H') (h : H b = some (.tup xs)) : H' b = some (.tup xs) := by
  obtain ⟨⟨dx, hh, hp, _⟩, ⟨ps, hpl, _⟩, ⟨ls, hal, _⟩, _⟩ := st
  exact k b _ (ne_of h hp (by intro z; cases z)) (ne_of h hpl (by intro z; cases z)) (ne_of h hal (by intro z; cases z)) h
theorem ok_law_right {C : Addr} (B : Bi mg) (ki : PySem.W.kitOne K (.type "int") (.type "str") = some false) (D : Df K mg "_law_right" s_law_right) (cA : Cl P w K mg base CX0 9 "_law_answer" (spAnswer C)) : Cl P w K mg base CX0 10 "_law_right" (spRight C) := by
  refine mk0 D sc_law_right (fun _ _ _ _ _ _ us hl => match us, hl with | [_, _, _], _ => rfl) (fun vs H Q E h => ?_) (fun f cdv A outer s H vs Q E hr h => ?_)
  · obtain ⟨p, pl, al, D, l, v, rfl, _⟩ := h
    rfl
  · obtain ⟨p, pl, al, D, l, v, rfl, st, ok, gl, ⟨dd, rfl, hdd⟩, kQ⟩ := h
    refine ⟨_, pss_cons (ps_asg (pe_f cA hr (by decide) (by rfl) (pa_cons (pv 0) (pa_cons (pv 1) pa_nil))) (pg_tup rfl (pgs_cons (pg_name (i := 3) sc_law_right.nd rfl (Or.inl rfl)) (pgs_cons (pg_name (i := 4) sc_law_right.nd rfl (Or.inl rfl)) pgs_nil))))
      (pss_one (ps_ret (pe_and (pe_cmpR op_eq (pv 3) (pe_ix (r := rIxT K) ix_tup (pv 2) pe_int (fun _ _ => rfl)) (nomark _)) (pe_and (pe_cmpR op_eq (pv 4) (pe_ix (r := rIxT K) ix_tup (pv 2) pe_int (fun _ _ => rfl)) (nomark _))
        (pe_one (pe_cmpR op_eq (pe_callB L2.call_isi (by rfl) B.isinstance PyProof.Rows.boot_isinstance (pa_cons (pv 4) (pa_cons (pe_bltn (v := .ty "str") (by rfl) B.str (by decide +kernel) rfl) pa_nil))) (pe_cmpR op_in_seq (pv 3) (pe_tup (pa_cons pe_str (pa_cons pe_str pa_nil))) (by rfl)) (nomark _))))))), ?_⟩
    refine ⟨_, rfl, _, rfl, p, pl, al, D, l, rfl, st, ok, gl, fun H1 al' u k1 st1 hal hd => ?_⟩
    obtain ⟨d1, rfl, hd1⟩ := hd
    have hdd1 := keep_tup st k1 hdd
    refine ⟨d1, _, rfl, SqT.of hd1, rfl, _, _, rfl, _, _, rfl, rfl, ?_⟩
    have fin : ∀ H2, Same H1 H2 → Q (.bl true) H2 := fun H2 s2 => kQ H2 al' (k1.trans (keep_same s2)) (st1.same s2) hal
    generalize (stepD D l).1 = a at hd1 hdd1
    refine ⟨_, rfl, _, rfl, dd, _, 0, _, rfl, rfl, SqT.of hdd1, atI_nat (j := 0) rfl, rfl, _, rfl, ?_⟩
    rw [show decide (V.str (dueW a) = V.str (dueW a)) = true from decide_eq_true rfl]
    refine iteT ⟨_, rfl, _, rfl, dd, _, 1, _, rfl, rfl, SqT.of hdd1, atI_nat (j := 1) rfl, by cases a <;> rfl, _, rfl, ?_⟩
    rw [show decide (dueV a = dueV a) = true from decide_eq_true rfl]
    refine iteT ?_
    have wd : ∀ (t : Addr) (z : Str) (b : Bool), inV (.str z) [.str "told", .str "name"] = b → H1 t = none → ((fun x y (H : Hp) (Q : VK) => ∃ p xs, y = .ref p ∧ (SqL K H p xs ∨ SqT K H p xs) ∧ flatV x = true ∧ xs.all flatV = true ∧ Q (.bl (if false then !inV x xs else inV x xs)) H) (V.str z) (V.ref t) (upd H1 t (.tup [.str "told", .str "name"])) fun y H2 => rEq (.bl b) y H2 Q) := by
      intro t z b e ht
      refine ⟨t, _, rfl, .inr (SqT.of upd_same), rfl, rfl, rfl, ?_⟩
      show Q (.bl (decide (V.bl b = V.bl (inV (.str z) [.str "told", .str "name"])))) _
      rw [e, decide_eq_true rfl]
      exact fin _ (same_upd ht)
    cases a with
    | told t => exact ⟨_, rfl, _, _, _, _, true, rfl, .ty "str", .base (.str _), rfl, _, rfl, by show 2 ≤ sizeLine; decide, fun t ht => wd t "told" true (by decide +kernel) ht⟩
    | name n => exact ⟨_, rfl, _, _, _, _, true, rfl, .ty "str", .base (.str _), rfl, _, rfl, by show 2 ≤ sizeLine; decide, fun t ht => wd t "name" true (by decide +kernel) ht⟩
    | rule => exact ⟨_, rfl, _, _, _, _, false, rfl, .ty "str", .base (.int _), ki, _, rfl, by show 2 ≤ sizeLine; decide, fun t ht => wd t _ false (by decide +kernel) ht⟩
    | place => exact ⟨_, rfl, _, _, _, _, false, rfl, .ty "str", .base (.int _), ki, _, rfl, by show 2 ≤ sizeLine; decide, fun t ht => wd t _ false (by decide +kernel) ht⟩
    | many => exact ⟨_, rfl, _, _, _, _, false, rfl, .ty "str", .base (.int _), ki, _, rfl, by show 2 ≤ sizeLine; decide, fun t ht => wd t _ false (by decide +kernel) ht⟩
    | nothing => exact ⟨_, rfl, _, _, _, _, false, rfl, .ty "str", .base (.int _), ki, _, rfl, by show 2 ≤ sizeLine; decide, fun t ht => wd t _ false (by decide +kernel) ht⟩
end
end Kd
namespace Kd
open PySem PySem.Spec PyProof.Rows L2
/-! ## Asking: the desk and the draws side by side -/
def Keep5 (st g p pl al : Addr) (H H' : Hp) : Prop := ∀ b o, b ≠ st → b ≠ g → b ≠ p → b ≠ pl → b ≠ al → H b = some o → H' b = some o
theorem keep5_S {st g p pl al : Addr} {H H' : Hp} (k : KeepS st g H H') : Keep5 st g p pl al H H' := fun b o h1 h2 _ _ _ h => k b o h1 h2 h
theorem keep5_3 {st g p pl al : Addr} {H H' : Hp} (k : Keep3 p pl al H H') : Keep5 st g p pl al H H' := fun b o _ _ h3 h4 h5 h => k b o h3 h4 h5 h
theorem Keep5.trans {st g p pl al : Addr} {H H1 H2 : Hp} (a : Keep5 st g p pl al H H1) (b : Keep5 st g p pl al H1 H2) : Keep5 st g p pl al H H2 := fun c o h1 h2 h3 h4 h5 h => b c o h1 h2 h3 h4 h5 (a c o h1 h2 h3 h4 h5 h)
structure Apart (st g c pl al : Addr) : Prop where
  s1 : st ≠ pl
  s2 : g ≠ pl
  s3 : c ≠ pl
  s4 : st ≠ al
  s5 : g ≠ al
  s6 : c ≠ al
theorem dc_keepS {st g c : Addr} {n : Nat} {H H' : Hp} (s : StAt H st g c n) (k : KeepS st g H H') {q : Addr} {rs : Bk} (x : DcAt H q rs) : DcAt H' q rs := by
  obtain ⟨gs, cur, cs, k0, h1, h2, _⟩ := s
  refine x.k fun b o hb nl _ => k b o (ne_of hb h1 (nl _)) (ne_of hb h2 (nl _)) hb
theorem dk_keepS {st g c p pl al C : Addr} {n : Nat} {D : Dk} {H H' : Hp} (s : StAt H st g c n) (k : KeepS st g H H') (x : DkSt H C p pl al D) (z : Apart st g c pl al) : DkSt H' C p pl al D := by
  obtain ⟨⟨dx, h, hp, hh⟩, ⟨ps, hpl, pp⟩, ⟨ls, hal, pa⟩, ne⟩ := x
  obtain ⟨gs, cur, cs, k0, h1, h2, _⟩ := id s
  exact ⟨⟨dx, h, k _ _ (ne_of hp h1 (by intro z; cases z)) (ne_of hp h2 (by intro z; cases z)) hp, dc_keepS s k hh⟩, ⟨ps, k _ _ z.s1.symm z.s2.symm hpl, L2.Paired.mapP pp fun _ _ q => dc_keepS s k q⟩,
    ⟨ls, k _ _ z.s4.symm z.s5.symm hal, L2.Paired.mapP pa fun _ _ q => dc_keepS s k q⟩, ne⟩
theorem st_keep3 {st g c p pl al C : Addr} {n : Nat} {D : Dk} {H H' : Hp} (s : StAt H st g c n) (x : DkSt H C p pl al D) (k : Keep3 p pl al H H') (z : Apart st g c pl al) : StAt H' st g c n := by
  obtain ⟨⟨dx, h, hp, hh⟩, _, _, _⟩ := x
  obtain ⟨gs, cur, cs, k0, h1, h2, h3, r⟩ := s
  exact ⟨gs, cur, cs, k0, k _ _ (ne_of h1 hp (by intro z; cases z)) z.s1 z.s4 h1, k _ _ (ne_of h2 hp (by intro z; cases z)) z.s2 z.s5 h2, k _ _ (ne_of h3 hp (by intro z; cases z)) z.s3 z.s6 h3, r⟩
theorem Apart.new {st g c pl al al' : Addr} {n : Nat} {H : Hp} (z : Apart st g c pl al) (s : StAt H st g c n) (h : al' = al ∨ H al' = none) : Apart st g c pl al' := by
  rcases h with rfl | h
  · exact z
  · obtain ⟨gs, cur, cs, k0, h1, h2, h3, _⟩ := s
    exact ⟨z.s1, z.s2, z.s3, ne_of_none h1 h, ne_of_none h2 h, ne_of_none h3 h⟩
theorem dc_keep3 {p pl al C : Addr} {D : Dk} {H H' : Hp} (x : DkSt H C p pl al D) (k : Keep3 p pl al H H') {q : Addr} {rs : Bk} (y : DcAt H q rs) : DcAt H' q rs := by
  obtain ⟨⟨dx, h, hp, _⟩, ⟨ps, hpl, _⟩, ⟨ls, hal, _⟩, _⟩ := x
  exact y.k fun b o hb nl ni => k b o (ne_of hb hp (ni _ _ _)) (ne_of hb hpl (nl _)) (ne_of hb hal (nl _)) hb
section
variable {P : Program} {w : World} {K : PySem.W.Frag} {mg : Str → Option Value} {base : Heap}
def spMatchDue : Sp := fun vs H Q _ => ∃ (q : Addr) (rs : Bk) (n m : Str), vs = [.ref q, .str n, .str m] ∧ DcAt H q rs ∧ GB rs ∧ ∀ H' v, Same H H' → DueAt H' v (askR rs (.mtch n m)) → Q v H'
theorem sc_law_match_due : FnScope ["_law_rules", "_law_one", "_law_two", "_law_name_here", "_law_found", "_law_numbers", "_law_number"] ["_law_rules", "_law_one", "_law_two"] (defScope s_law_match_due) := ⟨rfl, rfl, rfl, by decide +kernel, rfl, by decide +kernel, by decide +kernel⟩
theorem ask_mtch (rs : Bk) (n m : Str) : askR rs (.mtch n m) = match lkB rs n with
    | none => .name n
    | some a => match lkB rs m with
      | none => .name m
      | some b => if a.length = b.length then .told (matchT (unlike a b)) else .many := rfl
theorem ok_law_match_due (B : Bi mg) (D : Df K mg "_law_match_due" s_law_match_due) (cU : Cl P w K mg base CX0 3 "_law_unlike" spLawUnlike) : Cl P w K mg base CX0 4 "_law_match_due" spMatchDue := by
  refine mk0 D sc_law_match_due (fun _ _ _ _ _ _ us hl => match us, hl with | [_, _, _], _ => rfl) (fun vs H Q E h => ?_) (fun f cdv A outer s H vs Q E hr h => ?_)
  · obtain ⟨q, rs, n, m, rfl, _⟩ := h
    rfl
  · obtain ⟨q, rs, n, m, rfl, hD, g, kQ⟩ := h
    have hu := hu_of hr
    refine ⟨_, pss_cons (ps_for PassesOwn.never rfl (pi_tup (pe_tup (pa_cons (pv 1) (pa_cons (pv 2) pa_nil)))) (pg_name (i := 3) sc_law_match_due.nd rfl (Or.inl rfl))
        (pss_one (ps_if (pt_cmp (pc_dnotin hu (pv 3) (pv 0)) (by rfl)) (pss_one (ps_ret (pe_tup (pa_cons pe_str (pa_cons (pv 3) pa_nil))))) pss_nil)))
      (pss_cons (ps_if (pt_cmpR op_ne (pe_callB call_len_seq (by rfl) B.len PySem.boot_len (pa_cons (pe_dget hu (pv 0) (pv 1) (fun _ _ => rfl)) pa_nil)) (pe_callB call_len_seq (by rfl) B.len PySem.boot_len (pa_cons (pe_dget hu (pv 0) (pv 2) (fun _ _ => rfl)) pa_nil)) (nomark _)) (pss_one (ps_ret (pe_tup (pa_cons pe_str (pa_cons pe_int pa_nil))))) pss_nil)
      (pss_cons (ps_set (i := 4) sc_law_match_due.nd rfl (Or.inl rfl) (pe_f cU hr (by decide) (by rfl) (pa_cons (pe_dget hu (pv 0) (pv 1) (fun _ _ => rfl)) (pa_cons (pe_dget hu (pv 0) (pv 2) (fun _ _ => rfl)) pa_nil))))
      (pss_cons (ps_if (pt_cmpR op_isN (pv 4) pe_non (nomark _)) (pss_one (ps_ret (pe_tup (pa_cons pe_str (pa_cons pe_str pa_nil))))) pss_nil)
      (pss_cons (ps_set (i := 5) sc_law_match_due.nd rfl (Or.inl rfl) (pe_join pe_str (pe_lc (own := [("_law_number", 6)]) (g := gName 6) (tt := tYes) rfl sc_law_match_due.nd (pi_tup (pe_ix (r := rIxT K) ix_tup (pv 4) pe_int (fun _ _ => rfl)))
        (blkOk_by (own := [("_law_number", 6)]) (N := ["_law_rules", "_law_one", "_law_two", "_law_name_here", "_law_found", "_law_numbers", "_law_number"]) (sc := defScope s_law_match_due) (by decide +kernel))
        (fun _ _ _ _ _ => pg_name (i := 6) sc_law_match_due.nd rfl (Or.inl rfl)) (fun _ _ _ _ _ => pts_nil) (fun _ _ _ _ _ => pe_callTy call_str_int (by rfl) B.str (by decide +kernel) (pa_cons (pv 6) pa_nil)))))
      (pss_one (ps_ret (pe_tup (pa_cons pe_str (pa_cons (pe_joined (.cons pe_str (.cons (pe_fmt (pv 5)) (.cons pe_str (.cons (pe_fmt (pe_ix (r := rIxT K) ix_tup (pv 4) pe_int (fun _ _ => rfl))) (.cons pe_str (.cons (pe_fmt (pe_ix (r := rIxT K) ix_tup (pv 4) pe_int (fun _ _ => rfl))) .nil))))))) pa_nil))))))))), ?_⟩
    refine ⟨_, rfl, _, rfl, by show 2 ≤ sizeLine; decide, fun t ht => ⟨t, rfl, ⟨_, SqT.of upd_same⟩, ?_⟩⟩
    have s0 : Same H (upd H t (.tup [.str n, .str m])) := same_upd ht
    have t0 : (upd H t (.tup [.str n, .str m]) : Hp) t = some (.tup [.str n, .str m]) := upd_same
    generalize upd H t (.tup [.str n, .str m]) = H0 at s0 t0 ⊢
    obtain ⟨kvs, hq, bk⟩ := hD.same s0
    have pair : ∀ (H1 : Hp) (an : An), Same H0 H1 → askR rs (.mtch n m) = an → ∀ d, H1 d = none → Q (.ref d) (upd H1 d (.tup [.str (dueW an), dueV an])) := by
      intro H1 an s1 e d hd
      refine kQ _ _ (s0.trans (s1.trans (same_upd hd))) ⟨d, rfl, ?_⟩
      rw [e]
      exact upd_same
    rw [ask_mtch] at pair
    have look : ∀ x : Str, (∃ r v, lkB rs x = some r ∧ RuAt H0 v r ∧ DGet H0 q (.str x) (some v)) ∨ (lkB rs x = none ∧ DGet H0 q (.str x) none) := by
      intro x
      have lk := bk_lk x bk
      have gd := DGet.k (k := Sum.inr x) hq
      cases e : lkB rs x with
      | none =>
        rw [e] at lk
        rw [lk] at gd
        exact .inr ⟨rfl, gd⟩
      | some r =>
        rw [e] at lk
        obtain ⟨v, hv, hR⟩ := lk
        rw [hv] at gd
        exact .inl ⟨r, v, rfl, hR, gd⟩
    refine for_tup (K := K) (a := t) (xs := [.str n, .str m]) (fun i σ H' => (∃ v3, σ = [some (.ref q), some (.str n), some (.str m), v3, none, none, none]) ∧ H' = H0 ∧ (0 < i → lkB rs n ≠ none) ∧ (1 < i → lkB rs m ≠ none)) ⟨⟨none, rfl⟩, rfl, by omega, by omega⟩ (fun i σ H' _ z => by rw [z.2.1]; exact SqT.of t0) ?_ ?_
    · rintro i y σ H1 hy ⟨⟨v3, rfl⟩, rfl, h1, h2⟩
      have hi : i < 2 := (List.getElem?_eq_some_iff.mp hy).1
      obtain ⟨x, ex, hx⟩ : ∃ x : Str, y = .str x ∧ ((i = 0 ∧ x = n) ∨ (i = 1 ∧ x = m)) := by
        have : i = 0 ∨ i = 1 := by omega
        rcases this with rfl | rfl
        · cases hy; exact ⟨n, rfl, .inl ⟨rfl, rfl⟩⟩
        · cases hy; exact ⟨m, rfl, .inr ⟨rfl, rfl⟩⟩
      subst ex
      rcases look x with ⟨r, v, e, hR, gd⟩ | ⟨e, gd⟩
      · refine ⟨_, rfl, _, rfl, q, some v, rfl, gd, _, rfl, iteF ⟨⟨_, rfl⟩, rfl, fun _ => ?_, fun z => ?_⟩⟩
        · rcases hx with ⟨rfl, rfl⟩ | ⟨rfl, rfl⟩
          · rw [e]; exact fun z => by cases z
          · exact h1 (by omega)
        · rcases hx with ⟨rfl, rfl⟩ | ⟨rfl, rfl⟩
          · omega
          · rw [e]; exact fun z => by cases z
      · refine ⟨_, rfl, _, rfl, q, none, rfl, gd, _, rfl, iteT ⟨_, rfl, by show 2 ≤ sizeLine; decide, fun d hd => ?_⟩⟩
        refine pair H1 (.name x) (Same.refl H1) ?_ d hd
        rcases hx with ⟨rfl, rfl⟩ | ⟨rfl, rfl⟩
        · rw [e]
        · rcases look n with ⟨r1, v1, e1, _, _⟩ | ⟨e1, _⟩
          · rw [e1, e]
          · exact absurd e1 (h1 (by omega))
    · rintro σ H1 ⟨⟨v3, rfl⟩, rfl, h1, h2⟩
      obtain ⟨r1, v1, e1, hR1, g1⟩ : ∃ r v, lkB rs n = some r ∧ RuAt H1 v r ∧ DGet H1 q (.str n) (some v) := by
        rcases look n with z | ⟨e1, _⟩
        · exact z
        · exact absurd e1 (h1 (by show 0 < 2; decide))
      obtain ⟨r2, v2, e2, hR2, g2⟩ : ∃ r v, lkB rs m = some r ∧ RuAt H1 v r ∧ DGet H1 q (.str m) (some v) := by
        rcases look m with z | ⟨e2, _⟩
        · exact z
        · exact absurd e2 (h2 (by show 1 < 2; decide))
      rw [e1, e2] at pair
      have gr1 := g.lk e1
      have gr2 := g.lk e2
      obtain ⟨a1, x1, rfl, ha1, p1⟩ := id hR1
      obtain ⟨a2, x2, rfl, ha2, p2⟩ := id hR2
      have l1 := pr_len p1
      have l2 := pr_len p2
      refine ⟨_, rfl, _, rfl, q, _, rfl, g1, a1, x1, rfl, .inr (SqT.of ha1), _, rfl, _, rfl, q, _, rfl, g2, a2, x2, rfl, .inr (SqT.of ha2), rfl, _, rfl, ?_⟩
      by_cases hl : r1.length = r2.length
      · have d1 : (!decide (V.int (x1.length : Nat) = V.int (x2.length : Nat))) = false := by rw [l1, l2, hl]; simp
        rw [d1]
        refine iteF ⟨_, rfl, _, rfl, q, _, rfl, g1, _, rfl, _, rfl, q, _, rfl, g2, _, _, r1, r2, rfl, hR1, hR2, gr1.fit, gr2.fit, hl, fun H2 v' s2 hU => ?_⟩
        have ifp : (if r1.length = r2.length then An.told (matchT (unlike r1 r2)) else An.many) = .told (matchT (unlike r1 r2)) := if_pos hl
        have pair2 : ∀ (H1' : Hp) (an : An), Same H1 H1' → An.told (matchT (unlike r1 r2)) = an → ∀ d, H1' d = none → Q (.ref d) (upd H1' d (.tup [.str (dueW an), dueV an])) := fun H1' an s e d hd => pair H1' an s (ifp.trans e) d hd
        cases eu : unlike r1 r2 with
        | none =>
          rw [eu] at hU pair2
          obtain rfl : v' = .non := hU
          refine ⟨_, rfl, rfl, _, rfl, iteT ⟨by show 2 ≤ sizeLine; decide, fun d hd => ?_⟩⟩
          exact pair2 H2 (.told "yes") s2 rfl d hd
        | some t =>
          rw [eu] at hU pair2
          obtain ⟨p', x, rfl, hp', b, rfl, hb⟩ := hU
          obtain ⟨m1, m2, m3⟩ := unlike_mem eu
          have few := gr1.few
          have sh := chs_short few m1
          refine ⟨_, rfl, rfl, _, rfl, iteF ?_⟩
          refine ⟨⟨_, rfl⟩, _, rfl, p', _, 0, _, rfl, rfl, SqT.of hp', atI_nat (j := 0) rfl, b, rfl, ⟨_, SqT.of hb⟩, fun L hL => lc_mk (vs := [6]) (R := fun (_ : Hp) v (y : Nat) => v = V.str (nS y)) (walk_tup (K := K) (a := b)) (nl_val (f := fun y => V.str (nS y))) t.1 (List.length_map ..).symm (by rw [List.length_map]; omega) hL (fun H' s => SqT.of (s _ _ hb)) ?_ ?_⟩
          · intro i z y H3 hi hz hy s3 Kc hK
            obtain ⟨y', hy', rfl⟩ := map_get hz
            rw [hy] at hy'
            cases hy'
            have := chs_lt m1 y (List.mem_of_getElem? hy)
            exact ⟨rfl, _, rfl, (y : Int), rfl, log_small (by omega) (by omega), hK _ H3 (Same.refl H3) rfl⟩
          · intro H3 us s3 hL3 pu
            have e := pr_map (f := fun y : Nat => V.str (nS y)) (H := H3) pu
            have nl : ∀ z ∈ t.1.map nS, z.length ≤ 31 := fun z hz => by
              obtain ⟨i, hi, rfl⟩ := List.mem_map.mp hz
              have := chs_lt m1 i hi
              exact num_len (by omega) (by omega)
            refine ⟨_, L, t.1.map nS, rfl, rfl, .inl (SqL.of (by rw [hL3, e, List.map_map]; rfl)), fit_words (k := 0) nl (by rw [List.length_map]; omega), ?_⟩
            have hp3 := s3 _ _ hp'
            have cl : (chT t.1).length ≤ 200 := by
              have := join_len (y := (" " : Str)) nl
              rw [List.length_map, len_sp] at this
              unfold chT
              omega
            have b1 := jsum_bound (hs := Kd.pick r1 t.1) (by unfold Kd.pick; rw [List.length_map]; exact sh) (pick_good gr1 _)
            have b2 := jsum_bound (hs := Kd.pick r2 t.1) (by unfold Kd.pick; rw [List.length_map]; exact sh) (pick_good gr2 _)
            rw [← m2] at b1
            rw [← m3] at b2
            have l1' := num_big b1.1 b1.2
            have l2' := num_big b2.1 b2.2
            have e1' : (Str.empty ++ ("no " : Str)).length = 3 := by decide +kernel
            have e2' : (" : " : Str).length = 3 := by decide +kernel
            have sz : (Str.empty ++ ("no " : Str) ++ chT t.1 ++ (" : " : Str) ++ num t.2.1 ++ (" " : Str) ++ num t.2.2).length ≤ 1000 := by
              rw [len_app, len_app, len_app, len_app, len_app, e1', e2', len_sp]
              omega
            have sz1 : (Str.empty ++ ("no " : Str) ++ chT t.1).length ≤ 1000 := by rw [len_app, e1']; omega
            have sz2 : (Str.empty ++ ("no " : Str) ++ chT t.1 ++ (" : " : Str)).length ≤ 1000 := by rw [len_app, len_app, e1', e2']; omega
            have sz3 : (Str.empty ++ ("no " : Str) ++ chT t.1 ++ (" : " : Str) ++ num t.2.1).length ≤ 1000 := by rw [len_app, len_app, len_app, e1', e2']; omega
            have sz4 : (Str.empty ++ ("no " : Str) ++ chT t.1 ++ (" : " : Str) ++ num t.2.1 ++ (" " : Str)).length ≤ 1000 := by rw [len_app, len_app, len_app, len_app, e1', e2', len_sp]; omega
            have fin := pair2 H3 (.told (matchT (some t))) (s2.trans s3) rfl
            exact ⟨_, rfl, by decide +kernel, _, rfl, .inl ⟨_, rfl, Nat.le_trans cl (by decide), _, rfl, Nat.le_trans sz1 big1000, _, rfl, Nat.le_trans sz2 big1000,
              _, rfl, p', _, 1, _, rfl, rfl, SqT.of hp3, atI_nat (j := 1) rfl, .inr ⟨_, rfl, log_big b1.1 b1.2, _, rfl, Nat.le_trans sz3 big1000, _, rfl, Nat.le_trans sz4 big1000,
              _, rfl, p', _, 2, _, rfl, rfl, SqT.of hp3, atI_nat (j := 2) rfl, .inr ⟨_, rfl, log_big b2.1 b2.2, _, rfl, Nat.le_trans sz big1000, by show 2 ≤ sizeLine; decide, fun d hd => fin d hd⟩⟩⟩⟩
      · have d1 : (!decide (V.int (x1.length : Nat) = V.int (x2.length : Nat))) = true := by
          rw [decide_eq_false (fun z => hl (by injection z with z; omega))]
          rfl
        rw [d1]
        refine iteT ⟨by show 2 ≤ sizeLine; decide, fun d hd => ?_⟩
        exact pair H1 .many (Same.refl H1) (if_neg hl) d hd
end
end Kd
namespace Kd
open PySem PySem.Spec PyProof.Rows L2
section
variable {P : Program} {w : World} {K : PySem.W.Frag} {mg : Str → Option Value} {base : Heap}
theorem none_S {st g c : Addr} {n : Nat} {H H2 : Hp} (s : StAt H2 st g c n) (k : KeepS st g H H2) {a : Addr} (h : H2 a = none) : H a = none := by
  obtain ⟨gs, cur, cs, k0, h1, h2, _⟩ := s
  cases z : H a with
  | none => rfl
  | some o =>
    have n1 : a ≠ st := fun e => by rw [e, h1] at h; cases h
    have n2 : a ≠ g := fun e => by rw [e, h2] at h; cases h
    rw [k a o n1 n2 z] at h
    cases h
def spAsks (C : Addr) : Sp := fun vs H Q _ => ∃ (p pl al st g c kn q : Addr) (n : Nat) (D : Dk) (ks : List Str), vs = [.ref p, .ref st, .ref q, .ref kn] ∧ StAt H st g c n ∧ n ≤ 500000 ∧ DkSt H C p pl al D ∧ DkOk D 60 ∧ Apart st g c pl al ∧ KnOk H st g kn ks ∧ ks.length = 4 ∧ DcAt H q D.held ∧
  ∀ H' al', Keep5 st g p pl al H H' → StAt H' st g c (n + 100) → DkSt H' C p pl al' D → (al' = al ∨ H al' = none) → Q (.bl true) H'
theorem sc_law_asks : FnScope ["_law_desk", "_law_state", "_law_rules", "_law_names", "_law_which", "_law_one", "_law_two", "_law_line", "_law_due", "_law_heap_here", "_law_number"] ["_law_desk", "_law_state", "_law_rules", "_law_names"] (defScope s_law_asks) := ⟨rfl, rfl, rfl, by decide +kernel, rfl, by decide +kernel, by decide +kernel⟩
theorem len_match_sp : ("match " : Str).length = 6 := by decide +kernel
theorem len_show_sp : ("show " : Str).length = 5 := by decide +kernel
theorem len_keeps_sp : ("keeps " : Str).length = 6 := by decide +kernel
theorem le1000 {x y : Nat} (h : x ≤ 1000) : x ≤ sizeLine := Nat.le_trans h big1000
theorem ok_law_asks {C : Addr} (B : Bi mg) (D : Df K mg "_law_asks" s_law_asks) (cD : Cl P w K mg base CX0 2 "_law_draw" spDraw) (cH : Cl P w K mg base CX0 3 "_law_heap" spLawHeap) (cN : Cl P w K mg base CX0 1 "_law_names_text" spNamesText) (cM : Cl P w K mg base CX0 4 "_law_match_due" spMatchDue)
    (cT : Cl P w K mg base CX0 2 "_law_rule_text" spRuleText) (cX : Cl P w K mg base CX0 1 "_law_heap_text" spHeapText) (cF : Cl P w K mg base CX0 2 "_law_first" spLawFirst) (cR : Cl P w K mg base CX0 10 "_law_right" (spRight C)) : Cl P w K mg base CX0 11 "_law_asks" (spAsks C) := by
  refine mk0 D sc_law_asks (fun _ _ _ _ _ _ us hl => match us, hl with | [_, _, _, _], _ => rfl) (fun vs H Q E h => ?_) (fun f cdv A outer s H vs Q E hr h => ?_)
  · obtain ⟨p, pl, al, st, g, c, kn, q, n, D, ks, rfl, _⟩ := h
    rfl
  · obtain ⟨p, pl, al, st, g, c, kn, q, n, D, ks, rfl, hS, hn, hK, ok, ap, kk, h4, hq, kQ⟩ := h
    have hu := hu_of hr
    have gb := ok.held.1
    have h60 := ok.held.2
    refine ⟨_, pss_cons (ps_set (i := 4) sc_law_asks.nd rfl (Or.inl rfl) (pe_f cD hr (by decide) (by rfl) (pa_cons (pv 1) (pa_cons pe_int pa_nil))))
      (pss_cons (ps_par (i := 5) (j := 6) rfl sc_law_asks.nd rfl rfl (by decide) rfl rfl (pa_cons (pe_ix ix_list (pv 3) (pe_f cD hr (by decide) (by rfl) (pa_cons (pv 1) (pa_cons pe_int pa_nil))) (fun _ _ => rfl)) (pa_cons (pe_ix ix_list (pv 3) (pe_f cD hr (by decide) (by rfl) (pa_cons (pv 1) (pa_cons pe_int pa_nil))) (fun _ _ => rfl)) pa_nil)) (by rfl))
      (pss_cons (ps_if (pt_cmpR op_eq (pv 4) pe_int (nomark _)) (pss_one (ps_ret (pe_f cR hr (by decide) (by rfl) (pa_cons (pv 0) (pa_cons pe_str (pa_cons (pe_tup (pa_cons pe_str (pa_cons (pe_f cN hr (by decide) (by rfl) (pa_cons (pv 2) pa_nil)) pa_nil))) pa_nil)))))) pss_nil)
      (pss_cons (ps_if (pt_cmpR op_eq (pv 4) pe_int (nomark _)) (pss_one (ps_ret (pe_f cR hr (by decide) (by rfl) (pa_cons (pv 0) (pa_cons (pe_joined (.cons pe_str (.cons (pe_fmt (pv 5)) (.cons pe_str (.cons (pe_fmt (pv 6)) .nil))))) (pa_cons (pe_f cM hr (by decide) (by rfl) (pa_cons (pv 2) (pa_cons (pv 5) (pa_cons (pv 6) pa_nil)))) pa_nil)))))) pss_nil)
      (pss_cons (ps_set (i := 7) sc_law_asks.nd rfl (Or.inl rfl) (pe_joined (.cons pe_str (.cons (pe_fmt (pv 5)) .nil))))
      (pss_cons (ps_set (i := 8) sc_law_asks.nd rfl (Or.inl rfl) (pe_tup (pa_cons pe_str (pa_cons (pv 5) pa_nil))))
      (pss_cons (ps_if (pt_cmp (pc_din hu (pv 5) (pv 2)) (by rfl)) (pss_one (ps_set (i := 8) sc_law_asks.nd rfl (Or.inl rfl) (pe_tup (pa_cons pe_str (pa_cons (pe_f cT hr (by decide) (by rfl) (pa_cons (pe_dget hu (pv 2) (pv 5) (fun _ _ => rfl)) pa_nil)) pa_nil))))) pss_nil)
      (pss_cons (ps_if (pt_cmpR op_eq (pv 4) pe_int (nomark _))
        (pss_cons (ps_set (i := 9) sc_law_asks.nd rfl (Or.inl rfl) (pe_f cH hr (by decide) (by rfl) (pa_cons (pv 1) (pa_cons pe_int (pa_cons pe_int pa_nil)))))
        (pss_cons (ps_set (i := 7) sc_law_asks.nd rfl (Or.inl rfl) (pe_op op_add_str (pe_joined (.cons pe_str (.cons (pe_fmt (pv 5)) (.cons pe_str .nil)))) (pe_f cX hr (by decide) (by rfl) (pa_cons (pv 9) pa_nil))))
        (pss_one (ps_if (pt_cmp (pc_din hu (pv 5) (pv 2)) (by rfl))
          (pss_cons (ps_set (i := 10) sc_law_asks.nd rfl (Or.inl rfl) (pe_f cF hr (by decide) (by rfl) (pa_cons (pe_dget hu (pv 2) (pv 5) (fun _ _ => rfl)) (pa_cons (pv 9) pa_nil))))
          (pss_one (ps_set (i := 8) sc_law_asks.nd rfl (Or.inl rfl) (pe_tup (pa_cons pe_str (pa_cons (pe_ifExp (pt_cmpR op_isN (pv 10) pe_non (nomark _)) pe_str (pe_joined (.cons pe_str (.cons (pe_fmt (pv 10)) .nil)))) pa_nil)))))) pss_nil)))) pss_nil)
      (pss_one (ps_ret (pe_f cR hr (by decide) (by rfl) (pa_cons (pv 0) (pa_cons (pv 7) (pa_cons (pv 8) pa_nil))))))))))))), ?_⟩
    refine ⟨_, rfl, st, g, c, n, 4, rfl, hS, by omega, by decide, by decide, fun wh H1 w0 w4 k1 s1 => ?_⟩
    refine ⟨_, rfl, _, rfl, st, g, c, _, 4, rfl, s1, by omega, by decide, by decide, fun t1 H2 t10 t14 k2 s2 => ?_⟩
    obtain ⟨x, nx, ex⟩ := kk.pick h4 t10 t14
    refine ⟨kn, _, t1, _, rfl, rfl, SqL.of (kk.get (k1.trans k2)), ex, ?_⟩
    refine ⟨_, rfl, _, rfl, st, g, c, _, 4, rfl, s2, by omega, by decide, by decide, fun t2 H3 t20 t24 k3 s3 => ?_⟩
    obtain ⟨y, ny, ey⟩ := kk.pick h4 t20 t24
    have k13 := (k1.trans k2).trans k3
    refine ⟨kn, _, t2, _, rfl, rfl, SqL.of (kk.get k13), ey, _, _, rfl, ?_⟩
    have hK3 := dk_keepS hS k13 hK ap
    have hq3 := dc_keepS hS k13 hq
    have xl := nx.few
    have yl := ny.few
    -- the end: right is asked at some heap behind the draws
    have fin : ∀ (l : Ln) (Hn : Hp) (v : V) (m : Nat), KeepS st g H Hn → StAt Hn st g c m → m ≤ n + 100 → GL l → DueAt Hn v (stepD D l).1 → (stepD D l).2 = D → spRight C [.ref p, .str (lineT l), v] Hn Q E0 := by
      intro l Hn v m kn' sn hm gl due e2
      refine ⟨p, pl, al, D, l, v, rfl, dk_keepS hS kn' hK ap, ok, gl, due, fun H' al' k3' st' hal => ?_⟩
      rw [e2] at st'
      exact kQ H' al' ((keep5_S kn').trans (keep5_3 k3')) ((st_keep3 sn (dk_keepS hS kn' hK ap) k3' ap).mono hm) st' (hal.imp id (none_S sn kn'))
    have finS : ∀ (l : Ln) (Hn : Hp) (d : Addr) (an : An), Same H3 Hn → GL l → Hn d = none → (stepD D l).1 = an → (stepD D l).2 = D → spRight C [.ref p, .str (lineT l), .ref d] (upd Hn d (.tup [.str (dueW an), dueV an])) Q E0 := by
      intro l Hn d an sn gl hd e1 e2
      have s := sn.trans (same_upd (o := .tup [.str (dueW an), dueV an]) hd)
      exact fin l _ _ _ (k13.trans (keepS_same s)) (s3.same s) (by omega) gl ⟨d, rfl, by rw [e1, upd_same]⟩ e2
    refine ⟨_, rfl, rfl, _, rfl, ?_⟩
    refine ite2 (fun _ => ?_) (fun _ => ?_)
    · refine ⟨_, rfl, _, rfl, q, D.held, rfl, hq3, gb, by omega, fun H4 s4 => ⟨by show 2 ≤ sizeLine; decide, fun d hd => ?_⟩⟩
      have := finS .names H4 d (.told (namesT D.held)) s4 trivial hd rfl rfl
      rw [← line_names] at this
      exact this
    refine ⟨_, rfl, rfl, _, rfl, ?_⟩
    refine ite2 (fun _ => ?_) (fun _ => ?_)
    · refine ⟨_, rfl, _, rfl, by decide +kernel, _, rfl, .inl ⟨x, rfl, le1000 (y := 0) (by omega), _, rfl, le1000 (y := 0) (by rw [len_app, len_app, len_emp, len_match_sp]; omega), _, rfl, le1000 (y := 0) (by rw [len_app, len_app, len_app, len_emp, len_match_sp, len_sp]; omega),
        _, rfl, .inl ⟨y, rfl, le1000 (y := 0) (by omega), _, rfl, le1000 (y := 0) (by rw [len_app, len_app, len_app, len_app, len_emp, len_match_sp, len_sp]; omega), ?_⟩⟩⟩
      refine ⟨_, rfl, _, rfl, _, rfl, q, D.held, x, y, rfl, hq3, gb, fun H4 v s4 hd => ?_⟩
      have := fin (.mtch x y) H4 v _ (k13.trans (keepS_same s4)) (s3.same s4) (by omega) ⟨nx, ny⟩ hd rfl
      rw [← line_match] at this
      exact this
    refine ⟨_, rfl, by decide +kernel, _, rfl, .inl ⟨x, rfl, le1000 (y := 0) (by omega), _, rfl, le1000 (y := 0) (by rw [len_app, len_app, len_emp, len_show_sp]; omega), ?_⟩⟩
    rw [line_show']
    refine ⟨_, rfl, by show 2 ≤ sizeLine; decide, fun d0 hd0 => ?_⟩
    have s4 : Same H3 (upd H3 d0 (.tup [.str "name", .str x])) := same_upd hd0
    have d04 : (upd H3 d0 (.tup [.str "name", .str x]) : Hp) d0 = some (.tup [.str "name", .str x]) := upd_same
    generalize upd H3 d0 (.tup [.str "name", .str x]) = H4 at s4 d04 ⊢
    have hq4 := hq3.same s4
    have s34 := s3.same s4
    have k14 := k13.trans (keepS_same s4)
    obtain ⟨kvs, hkq, bk⟩ := hq4
    have lk := bk_lk x bk
    have gd := DGet.k (k := Sum.inr x) hkq
    cases e : lkB D.held x with
    | none =>
      rw [e] at lk
      rw [lk] at gd
      refine ⟨_, rfl, _, rfl, q, none, rfl, gd, _, rfl, iteF ?_⟩
      have e1 : (stepD D (.shw x)).1 = .name x := by simp only [stepD, askR, e]
      refine ⟨_, rfl, rfl, _, rfl, ?_⟩
      refine ite2 (fun _ => ?_) (fun _ => ?_)
      · refine ⟨_, rfl, st, g, c, _, 6, 4, rfl, s34, by omega, by decide, by decide, by decide, fun h H5 v gh k5 s5 hv => ?_⟩
        have hl := heapT_len gh
        refine ⟨_, rfl, by decide +kernel, _, rfl, .inl ⟨x, rfl, le1000 (y := 0) (by omega), _, rfl, le1000 (y := 0) (by rw [len_app, len_app, len_emp, len_keeps_sp]; omega), _, rfl, le1000 (y := 0) (by rw [len_app, len_app, len_app, len_emp, len_keeps_sp, len_sp]; omega), ?_⟩⟩
        refine ⟨_, rfl, v, h, rfl, hv, gh, fun H6 s6 => ⟨_, _, rfl, rfl, by rw [len_app, len_app, len_app, len_emp, len_keeps_sp, len_sp, sizeLine_eq]; omega, ?_⟩⟩
        rw [line_keeps]
        have k46 := (k5.trans (keepS_same s6))
        have hq6 := dc_keepS s34 k46 (⟨kvs, hkq, bk⟩ : DcAt H4 q D.held)
        obtain ⟨kvs6, hkq6, bk6⟩ := hq6
        have lk6 := bk_lk x bk6
        have gd6 := DGet.k (k := Sum.inr x) hkq6
        rw [e] at lk6
        rw [lk6] at gd6
        refine ⟨_, rfl, _, rfl, q, none, rfl, gd6, _, rfl, iteF ?_⟩
        have d06 : H6 d0 = some (.tup [.str "name", .str x]) := by
          obtain ⟨gs, cur, cs, kc, w1, w2, _⟩ := s34
          exact k46 _ _ (ne_of d04 w1 (by intro z; cases z)) (ne_of d04 w2 (by intro z; cases z)) d04
        exact ⟨_, rfl, _, rfl, _, rfl, fin (.keeps x h) H6 _ _ (k14.trans k46) (s5.same s6) (by omega) ⟨nx, gh⟩ ⟨d0, rfl, by rw [show (stepD D (.keeps x h)).1 = An.name x by simp only [stepD, askR, e]]; exact d06⟩ rfl⟩
      · exact ⟨_, rfl, _, rfl, _, rfl, fin (.shw x) H4 _ _ k14 s34 (by omega) nx ⟨d0, rfl, by rw [e1]; exact d04⟩ rfl⟩
    | some r =>
      rw [e] at lk
      obtain ⟨rv, hv', hR⟩ := lk
      rw [hv'] at gd
      have gr := gb.lk e
      refine ⟨_, rfl, _, rfl, q, some rv, rfl, gd, _, rfl, iteT ?_⟩
      refine ⟨_, rfl, _, rfl, q, rv, rfl, gd, rv, r, rfl, hR, gr, fun H5 s5 => ⟨by show 2 ≤ sizeLine; decide, fun d1 hd1 => ?_⟩⟩
      have s6 : Same H4 (upd H5 d1 (.tup [.str "told", .str (ruleT r)])) := same_upd' s5 hd1
      have d16 : (upd H5 d1 (.tup [.str "told", .str (ruleT r)]) : Hp) d1 = some (.tup [.str "told", .str (ruleT r)]) := upd_same
      generalize upd H5 d1 (.tup [.str "told", .str (ruleT r)]) = H6 at s6 d16 ⊢
      have e1 : (stepD D (.shw x)).1 = .told (ruleT r) := by simp only [stepD, askR, e]
      have s36 := s34.same s6
      have k16 := k14.trans (keepS_same s6)
      refine ⟨_, rfl, rfl, _, rfl, ?_⟩
      refine ite2 (fun _ => ?_) (fun _ => ?_)
      · refine ⟨_, rfl, st, g, c, _, 6, 4, rfl, s36, by omega, by decide, by decide, by decide, fun h H7 v gh k7 s7 hv => ?_⟩
        have hl := heapT_len gh
        refine ⟨_, rfl, by decide +kernel, _, rfl, .inl ⟨x, rfl, le1000 (y := 0) (by omega), _, rfl, le1000 (y := 0) (by rw [len_app, len_app, len_emp, len_keeps_sp]; omega), _, rfl, le1000 (y := 0) (by rw [len_app, len_app, len_app, len_emp, len_keeps_sp, len_sp]; omega), ?_⟩⟩
        refine ⟨_, rfl, v, h, rfl, hv, gh, fun H8 s8 => ⟨_, _, rfl, rfl, by rw [len_app, len_app, len_app, len_emp, len_keeps_sp, len_sp, sizeLine_eq]; omega, ?_⟩⟩
        rw [line_keeps]
        have k68 := (k7.trans (keepS_same s8))
        have hq8 := dc_keepS s36 k68 (DcAt.same s6 (⟨kvs, hkq, bk⟩ : DcAt H4 q D.held))
        obtain ⟨kvs8, hkq8, bk8⟩ := hq8
        have lk8 := bk_lk x bk8
        have gd8 := DGet.k (k := Sum.inr x) hkq8
        rw [e] at lk8
        obtain ⟨rv8, hv8, hR8⟩ := lk8
        rw [hv8] at gd8
        refine ⟨_, rfl, _, rfl, q, some rv8, rfl, gd8, _, rfl, iteT ?_⟩
        refine ⟨_, rfl, _, rfl, q, rv8, rfl, gd8, _, rfl, rv8, v, r, h, rfl, hR8, hv.same s8, gr.few, fun o ho => by have := (gr.all o ho).few; omega, fun H9 s9 => ?_⟩
        have ek : (stepD D (.keeps x h)).1 = .told (keepT (firstIn r h)) := by simp only [stepD, askR, e]
        have s89 := s8.trans s9
        cases ef : firstIn r h with
        | none =>
          rw [ef] at ek
          refine ⟨_, rfl, rfl, _, rfl, iteT ⟨by show 2 ≤ sizeLine; decide, fun d2 hd2 => ?_⟩⟩
          have sx := s89.trans (same_upd (o := .tup [.str "told", .str "yes"]) hd2)
          exact ⟨_, rfl, _, rfl, _, rfl, fin (.keeps x h) _ _ _ ((k16.trans k7).trans (keepS_same sx)) (s7.same sx) (by omega) ⟨nx, gh⟩ ⟨d2, rfl, by rw [ek, upd_same]; rfl⟩ rfl⟩
        | some i =>
          rw [ef] at ek
          have hi : i < r.length := by
            unfold firstIn at ef
            exact (List.findIdx?_eq_some_iff_getElem.mp ef).1
          have few := gr.few
          have il := num_len (i := (i : Int)) (by omega) (by omega)
          refine ⟨_, rfl, rfl, _, rfl, iteF ⟨_, rfl, by decide +kernel, _, rfl, .inr ⟨_, rfl, log_small (by omega) (by omega), _, rfl, ?_, by show 2 ≤ sizeLine; decide, fun d2 hd2 => ?_⟩⟩⟩
          · have e3 : (Str.empty ++ ("no " : Str)).length = 3 := by decide +kernel
            have : (Str.empty ++ ("no " : Str) ++ num (i : Int)).length ≤ 1000 := by rw [len_app, e3]; omega
            exact le1000 (y := 0) this
          have sx := s89.trans (same_upd (o := .tup [.str "told", .str (keepT (some i))]) hd2)
          exact ⟨_, rfl, _, rfl, _, rfl, fin (.keeps x h) _ _ _ ((k16.trans k7).trans (keepS_same sx)) (s7.same sx) (by omega) ⟨nx, gh⟩ ⟨d2, rfl, by rw [ek, upd_same]; rfl⟩ rfl⟩
      · exact ⟨_, rfl, _, rfl, _, rfl, fin (.shw x) H6 _ _ k16 s36 (by omega) nx ⟨d1, rfl, by rw [e1]; exact d16⟩ rfl⟩
end
end Kd
namespace Kd
open PySem PySem.Spec PyProof.Rows L2
/-! ## The book and the desk go together -/
structure Link (D : Dk) (book : List Bk) (i : Nat) : Prop where
  held : book[i]? = some D.held
  past : D.past = book.take i
  ahead : D.ahead = (book.drop (i + 1)).reverse
theorem Link.lt {D : Dk} {book : List Bk} {i : Nat} (l : Link D book i) : i < book.length := (List.getElem?_eq_some_iff.mp l.held).1
theorem Link.pl {D : Dk} {book : List Bk} {i : Nat} (l : Link D book i) : D.past.length = i := by
  have := l.lt
  rw [l.past, List.length_take]
  omega
theorem link_back {D : Dk} {book : List Bk} {i : Nat} (l : Link D book (i + 1)) : ∃ b, book[i]? = some b ∧ (backS D).1 = .told (namesT b) ∧ Link (backS D).2 book i := by
  have lt := l.lt
  obtain ⟨b, hb⟩ : ∃ b, book[i]? = some b := ⟨_, List.getElem?_eq_getElem (by omega)⟩
  have pl := l.pl
  have e : D.past[D.past.length - 1]? = some b := by
    rw [pl, l.past, List.getElem?_take]
    simp [hb]
  have e2 : backS D = (.told (namesT b), ⟨b, D.past.take (D.past.length - 1), D.ahead ++ [D.held]⟩) := by
    unfold backS
    rw [e]
  refine ⟨b, hb, by rw [e2], ?_⟩
  rw [e2]
  refine ⟨hb, ?_, ?_⟩
  · show D.past.take (D.past.length - 1) = book.take i
    rw [pl, l.past, List.take_take]
    congr 1
    omega
  · show D.ahead ++ [D.held] = (book.drop (i + 1)).reverse
    have ed : book.drop (i + 1) = D.held :: book.drop (i + 1 + 1) := by
      rw [List.drop_eq_getElem_cons (by omega)]
      congr 1
      have := l.held
      rw [List.getElem?_eq_getElem (by omega)] at this
      exact Option.some.inj this
    rw [ed, List.reverse_cons, l.ahead]
theorem link_back0 {D : Dk} {book : List Bk} (l : Link D book 0) : backS D = (.nothing, D) := by
  have pl := l.pl
  have e : D.past[D.past.length - 1]? = none := List.getElem?_eq_none_iff.mpr (by omega)
  unfold backS
  rw [e]
theorem link_on {D : Dk} {book : List Bk} {i : Nat} (l : Link D book i) (h : i + 1 < book.length) : ∃ b, book[i + 1]? = some b ∧ (onS D).1 = .told (namesT b) ∧ Link (onS D).2 book (i + 1) := by
  obtain ⟨b, hb⟩ : ∃ b, book[i + 1]? = some b := ⟨_, List.getElem?_eq_getElem h⟩
  have ed : book.drop (i + 1) = b :: book.drop (i + 1 + 1) := by
    rw [List.drop_eq_getElem_cons h]
    congr 1
    rw [List.getElem?_eq_getElem h] at hb
    exact Option.some.inj hb
  have ea : D.ahead = (book.drop (i + 1 + 1)).reverse ++ [b] := by rw [l.ahead, ed, List.reverse_cons]
  have e : D.ahead[D.ahead.length - 1]? = some b := by
    rw [ea, List.length_append, List.length_singleton, Nat.add_sub_cancel, List.getElem?_append_right (Nat.le_refl _), Nat.sub_self]
    rfl
  have e2 : onS D = (.told (namesT b), ⟨b, D.past ++ [D.held], D.ahead.take (D.ahead.length - 1)⟩) := by
    unfold onS
    rw [e]
  refine ⟨b, hb, by rw [e2], ?_⟩
  rw [e2]
  refine ⟨hb, ?_, ?_⟩
  · show D.past ++ [D.held] = book.take (i + 1)
    rw [take_succ l.held, l.past]
  · show D.ahead.take (D.ahead.length - 1) = (book.drop (i + 1 + 1)).reverse
    rw [ea, List.length_append, List.length_singleton, Nat.add_sub_cancel, List.take_left]
theorem link_on0 {D : Dk} {book : List Bk} {i : Nat} (l : Link D book i) (h : ¬ i + 1 < book.length) : onS D = (.nothing, D) := by
  have ea : D.ahead = [] := by rw [l.ahead, List.drop_eq_nil_of_le (by omega), List.reverse_nil]
  have e : D.ahead[D.ahead.length - 1]? = none := by rw [ea]; rfl
  unfold onS
  rw [e]
theorem link_deed {D : Dk} {book : List Bk} {i : Nat} (l : Link D book i) (rs : Bk) : Link ⟨rs, D.past ++ [D.held], []⟩ (book.take (i + 1) ++ [rs]) (i + 1) := by
  have lt := l.lt
  have lk : (book.take (i + 1)).length = i + 1 := by rw [List.length_take]; omega
  refine ⟨?_, ?_, ?_⟩
  · rw [List.getElem?_append_right (by omega), lk, Nat.sub_self]
    rfl
  · show D.past ++ [D.held] = (book.take (i + 1) ++ [rs]).take (i + 1)
    rw [l.past, List.take_append_of_le_length (by omega), List.take_take, Nat.min_self, take_succ l.held]
  · show [] = ((book.take (i + 1) ++ [rs]).drop (i + 1 + 1)).reverse
    rw [List.drop_eq_nil_of_le (by rw [List.length_append, lk, List.length_singleton]; omega), List.reverse_nil]
structure BooksOk (book : List Bk) (k : Nat) : Prop where
  all : ∀ b ∈ book, GB b ∧ b.length ≤ k
  few : book.length ≤ k + 1
theorem Link.ok {D : Dk} {book : List Bk} {i k : Nat} (l : Link D book i) (b : BooksOk book k) : DkOk D k := by
  have lt := l.lt
  have pl := l.pl
  refine ⟨b.all _ (List.mem_of_getElem? l.held), fun x hx => ?_, fun x hx => ?_, ?_⟩
  · rw [l.past] at hx
    exact b.all x (List.mem_of_mem_take hx)
  · rw [l.ahead, List.mem_reverse] at hx
    exact b.all x (List.mem_of_mem_drop hx)
  · have := b.few
    rw [pl, l.ahead, List.length_reverse, List.length_drop]
    omega
/-- the law's book in the heap -/
def BooksAt (H : Hp) (bk : Addr) (book : List Bk) : Prop := ∃ bs : List Addr, H bk = some (.lst (bs.map V.ref)) ∧ Paired (DcAt H) bs book
theorem BooksAt.get {H : Hp} {bk : Addr} {book : List Bk} (x : BooksAt H bk book) : ∃ xs : List V, H bk = some (.lst xs) ∧ xs.length = book.length ∧ ∀ (i : Nat) (b : Bk), book[i]? = some b → ∃ q : Addr, xs[i]? = some (V.ref q) ∧ DcAt H q b := by
  obtain ⟨bs, h, p⟩ := x
  refine ⟨_, h, by rw [List.length_map]; exact pr_len p, fun i b hb => ?_⟩
  obtain ⟨q, hq, hd⟩ := pr_get' p hb
  exact ⟨q, by rw [List.getElem?_map, hq]; rfl, hd⟩
theorem books_keep3 {p pl al C bk : Addr} {D : Dk} {H H' : Hp} {book : List Bk} (x : DkSt H C p pl al D) (k : Keep3 p pl al H H') (n1 : bk ≠ pl) (n2 : bk ≠ al) (b : BooksAt H bk book) : BooksAt H' bk book := by
  obtain ⟨bs, h, pb⟩ := b
  obtain ⟨dx, hh, hp, _⟩ := x.ins
  exact ⟨bs, k _ _ (ne_of h hp (by intro z; cases z)) n1 n2 h, L2.Paired.mapP pb fun _ _ q => dc_keep3 x k q⟩
section
variable {P : Program} {w : World} {K : PySem.W.Frag} {mg : Str → Option Value} {base : Heap}
def spMoved (C : Addr) : Sp := fun vs H Q _ => ∃ (p pl al bk : Addr) (D : Dk) (book : List Bk) (i : Nat) (l : Ln), vs = [.ref p, .ref bk, .int (i : Nat), .str (keyW l)] ∧ (l = .undo ∨ l = .again) ∧ DkSt H C p pl al D ∧ BooksAt H bk book ∧ Link D book i ∧ BooksOk book 60 ∧
  ∀ H' T al' j, Keep3 p pl al H H' → DkSt H' C p pl al' (stepD D l).2 → (al' = al ∨ H al' = none) → H' T = some (.tup [.int (j : Nat), .bl true]) → Link (stepD D l).2 book j → (l = .undo → j = i - 1) → Q (.ref T) H'
theorem sc_law_moved : FnScope ["_law_desk", "_law_book", "_law_here", "_law_word", "_law_there"] ["_law_desk", "_law_book", "_law_here", "_law_word"] (defScope s_law_moved) := ⟨rfl, rfl, rfl, by decide +kernel, rfl, by decide +kernel, by decide +kernel⟩
theorem ok_law_moved {C : Addr} (B : Bi mg) (D : Df K mg "_law_moved" s_law_moved) (cR : Cl P w K mg base CX0 10 "_law_right" (spRight C)) (cN : Cl P w K mg base CX0 1 "_law_names_text" spNamesText) : Cl P w K mg base CX0 11 "_law_moved" (spMoved C) := by
  refine mk0 D sc_law_moved (fun _ _ _ _ _ _ us hl => match us, hl with | [_, _, _, _], _ => rfl) (fun vs H Q E h => ?_) (fun f cdv A outer s H vs Q E hr h => ?_)
  · obtain ⟨p, pl, al, bk, D, book, i, l, rfl, _⟩ := h
    rfl
  · obtain ⟨p, pl, al, bk, D, book, i, l, rfl, hl, st, hb, lk, bo, kQ⟩ := h
    have ok := lk.ok bo
    have lt := lk.lt
    have lb := bo.few
    obtain ⟨xs, hbk, lx, get⟩ := hb.get
    refine ⟨_, pss_cons (ps_set (i := 4) sc_law_moved.nd rfl (Or.inl rfl) (pe_ifExp (pt_cmpR op_eq (pv 3) pe_str (nomark _)) (pe_op op_add (pv 2) pe_int) (pe_op op_sub (pv 2) pe_int)))
      (pss_cons (ps_if (PW.pt (pw_or (pt_cmpR op_lt (pv 4) pe_int (nomark _)) (pw_or1 (pt_cmpR op_ge (pv 4) (pe_callB call_len_seq (by rfl) B.len PySem.boot_len (pa_cons (pv 1) pa_nil)) (nomark _)))))
        (pss_one (ps_ret (pe_tup (pa_cons (pv 2) (pa_cons (pe_f cR hr (by decide) (by rfl) (pa_cons (pv 0) (pa_cons (pv 3) (pa_cons (pe_tup (pa_cons pe_str (pa_cons pe_int pa_nil))) pa_nil)))) pa_nil))))) pss_nil)
      (pss_one (ps_ret (pe_tup (pa_cons (pv 4) (pa_cons (pe_f cR hr (by decide) (by rfl) (pa_cons (pv 0) (pa_cons (pv 3) (pa_cons (pe_tup (pa_cons pe_str (pa_cons (pe_f cN hr (by decide) (by rfl) (pa_cons (pe_ix ix_list (pv 1) (pv 4) (fun _ _ => rfl)) pa_nil)) pa_nil))) pa_nil)))) pa_nil)))))), ?_⟩
    have ln : lineT l = keyW l := by rcases hl with rfl | rfl <;> exact join_one sp _
    have gl : GL l := by rcases hl with rfl | rfl <;> trivial
    -- nothing to move to
    have stays : stepD D l = (.nothing, D) → Link D book i → (l = .undo → i = i - 1) → ∀ d, H d = none → spRight C [.ref p, .str (keyW l), .ref d] (upd H d (.tup [.str "nothing", .int 0])) (fun y H2 => (2 : Nat) ≤ sizeLine ∧ ∀ T, H2 T = none → Q (.ref T) (upd H2 T (.tup [.int (i : Nat), y]))) E0 := by
      intro e lk' hu' d hd
      have s1 := same_upd (o := .tup [.str "nothing", .int 0]) hd
      refine ⟨p, pl, al, D, l, .ref d, by rw [ln], st.same s1, ok, gl, ⟨d, rfl, by rw [e, upd_same]; rfl⟩, fun H' al' k' st' hal => ⟨by decide, fun T hT => ?_⟩⟩
      have s2 := same_upd (o := .tup [.int (i : Nat), .bl true]) hT
      refine kQ _ T al' i (((keep_same s1).trans k').trans (keep_same s2)) (st'.same s2) (hal.imp id fun z => ?_) upd_same (by rw [e]; exact lk') hu'
      cases q : H al' with
      | none => rfl
      | some o => rw [s1 _ _ q] at z; cases z
    have goes : ∀ (j : Nat) (b : Bk) (z : Int), z = ((j : Nat) : Int) → book[j]? = some b → (stepD D l).1 = .told (namesT b) → Link (stepD D l).2 book j → (l = .undo → j = i - 1) → ∀ H1, Same H H1 → ∀ d, H1 d = none → spRight C [.ref p, .str (keyW l), .ref d] (upd H1 d (.tup [.str "told", .str (namesT b)])) (fun y H2 => (2 : Nat) ≤ sizeLine ∧ ∀ T, H2 T = none → Q (.ref T) (upd H2 T (.tup [.int z, y]))) E0 := by
      intro j b z ez _ e lk' hu' H1 s0 d hd
      subst ez
      have s1 := s0.trans (same_upd (o := .tup [.str "told", .str (namesT b)]) hd)
      refine ⟨p, pl, al, D, l, .ref d, by rw [ln], st.same s1, ok, gl, ⟨d, rfl, by rw [e, upd_same]; rfl⟩, fun H' al' k' st' hal => ⟨by decide, fun T hT => ?_⟩⟩
      have s2 := same_upd (o := .tup [.int (j : Nat), .bl true]) hT
      refine kQ _ T al' j (((keep_same s1).trans k').trans (keep_same s2)) (st'.same s2) (hal.imp id fun z => ?_) upd_same lk' hu'
      cases q : H al' with
      | none => rfl
      | some o => rw [s1 _ _ q] at z; cases z
    rcases hl with rfl | rfl
    · refine ⟨_, rfl, rfl, _, rfl, ?_⟩
      rw [dec_ne (show keyW .undo ≠ ("again" : Str) by decide +kernel)]
      refine iteF ⟨_, rfl, _, _, rfl, rfl, ?_⟩
      refine ⟨_, rfl, _, _, rfl, rfl, _, rfl, ?_⟩
      cases i with
      | zero =>
        rw [decide_eq_true (show ((0 : Nat) : Int) - 1 < 0 by omega)]
        exact iteT (iteT ⟨_, rfl, _, rfl, _, rfl, by show 2 ≤ sizeLine; decide, fun d hd => stays (link_back0 lk) lk (fun _ => rfl) d hd⟩)
      | succ i =>
        obtain ⟨b, hb', e1, lk'⟩ := link_back lk
        obtain ⟨q, hq, hD⟩ := get i b hb'
        have gb := bo.all b (List.mem_of_getElem? hb')
        rw [decide_eq_false (show ¬ ((i + 1 : Nat) : Int) - 1 < 0 by omega)]
        refine iteF ⟨_, rfl, _, rfl, bk, xs, rfl, .inl (SqL.of hbk), _, _, rfl, rfl, _, rfl, ?_⟩
        rw [decide_eq_false (show ¬ ((xs.length : Nat) : Int) ≤ ((i + 1 : Nat) : Int) - 1 by omega)]
        have ei : (((i + 1 : Nat) : Int) - 1) = ((i : Nat) : Int) := by omega
        have hat : atI xs (((i + 1 : Nat) : Int) - 1) = some (.ref q) := by rw [ei]; exact atI_nat hq
        refine iteF ⟨_, rfl, _, rfl, _, rfl, _, rfl, _, rfl, bk, xs, _, _, rfl, rfl, SqL.of hbk, hat, q, b, rfl, hD, gb.1, by omega, fun H1 s0 => ⟨by show 2 ≤ sizeLine; decide, fun d hd => ?_⟩⟩
        exact goes i b _ ei hb' e1 lk' (fun _ => rfl) H1 s0 d hd
    · refine ⟨_, rfl, rfl, _, rfl, ?_⟩
      rw [show decide (V.str (keyW .again) = V.str ("again" : Str)) = true from decide_eq_true rfl]
      refine iteT ⟨_, rfl, _, _, rfl, rfl, ?_⟩
      refine ⟨_, rfl, _, _, rfl, rfl, _, rfl, ?_⟩
      rw [decide_eq_false (show ¬ ((i : Nat) : Int) + 1 < 0 by omega)]
      refine iteF ⟨_, rfl, _, rfl, bk, xs, rfl, .inl (SqL.of hbk), _, _, rfl, rfl, _, rfl, ?_⟩
      by_cases hlt : i + 1 < book.length
      · obtain ⟨b, hb', e1, lk'⟩ := link_on lk hlt
        obtain ⟨q, hq, hD⟩ := get (i + 1) b hb'
        have gb := bo.all b (List.mem_of_getElem? hb')
        rw [decide_eq_false (show ¬ ((xs.length : Nat) : Int) ≤ ((i : Nat) : Int) + 1 by omega)]
        have ei : (((i : Nat) : Int) + 1) = ((i + 1 : Nat) : Int) := by omega
        have hat : atI xs (((i : Nat) : Int) + 1) = some (.ref q) := by rw [ei]; exact atI_nat hq
        refine iteF ⟨_, rfl, _, rfl, _, rfl, _, rfl, _, rfl, bk, xs, _, _, rfl, rfl, SqL.of hbk, hat, q, b, rfl, hD, gb.1, by omega, fun H1 s0 => ⟨by show 2 ≤ sizeLine; decide, fun d hd => ?_⟩⟩
        exact goes (i + 1) b _ ei hb' e1 lk' (fun z => by cases z) H1 s0 d hd
      · rw [decide_eq_true (show ((xs.length : Nat) : Int) ≤ ((i : Nat) : Int) + 1 by omega)]
        exact iteT ⟨_, rfl, _, rfl, _, rfl, by show 2 ≤ sizeLine; decide, fun d hd => stays (link_on0 lk hlt) lk (fun z => by cases z) d hd⟩
end
end Kd
namespace Kd
open PySem PySem.Spec PyProof.Rows L2
section
variable {P : Program} {w : World} {K : PySem.W.Frag} {mg : Str → Option Value} {base : Heap}
/-! ## The end of the law -/
def NamesAt (H : Hp) (kn : Addr) (ks : List Str) : Prop := H kn = some (.lst (ks.map V.str))
def spEnd (C : Addr) : Sp := fun vs H Q _ => ∃ (p pl al bk kn : Addr) (D : Dk) (book : List Bk) (i : Nat) (ks : List Str), vs = [.ref p, .ref kn, .ref bk, .int (i : Nat)] ∧ DkSt H C p pl al D ∧ BooksAt H bk book ∧ Link D book i ∧ BooksOk book 60 ∧ book[0]? = some [] ∧
  NamesAt H kn ks ∧ (∀ x ∈ ks, Nm x) ∧ bk ≠ pl ∧ bk ≠ al ∧ kn ≠ pl ∧ kn ≠ al ∧ ∀ H', Q (.bl true) H'
theorem sc_law_end : FnScope ["_law_desk", "_law_names", "_law_book", "_law_here", "_law_name_here", "_law_due", "_law_right_here"] ["_law_desk", "_law_names", "_law_book", "_law_here"] (defScope s_law_end) := ⟨rfl, rfl, rfl, by decide +kernel, rfl, by decide +kernel, by decide +kernel⟩
theorem new_ne {H H' : Hp} {b al al' : Addr} {o : HO} (h : H b = some o) (n : b ≠ al) (x : al' = al ∨ H al' = none) : b ≠ al' := by
  rcases x with rfl | x
  · exact n
  · exact ne_of_none h x
theorem ok_law_end {C : Addr} (B : Bi mg) (D : Df K mg "_law_end" s_law_end) (cR : Cl P w K mg base CX0 10 "_law_right" (spRight C)) (cT : Cl P w K mg base CX0 2 "_law_rule_text" spRuleText) (cM : Cl P w K mg base CX0 11 "_law_moved" (spMoved C)) : Cl P w K mg base CX0 12 "_law_end" (spEnd C) := by
  refine mk0 D sc_law_end (fun _ _ _ _ _ _ us hl => match us, hl with | [_, _, _, _], _ => rfl) (fun vs H Q E h => ?_) (fun f cdv A outer s H vs Q E hr h => ?_)
  · obtain ⟨p, pl, al, bk, kn, D, book, i, ks, rfl, _⟩ := h
    rfl
  · obtain ⟨p, pl, al, bk, kn, D, book, i, ks, rfl, st, hb, lk, bo, b0, hkn, nms, n1, n2, n3, n4, kQ⟩ := h
    have hu := hu_of hr
    have ok := lk.ok bo
    refine ⟨_, pss_cons (ps_for PassesOwn.never rfl (pi_list (pv 1)) (pg_name (i := 4) sc_law_end.nd rfl (Or.inl rfl))
        (pss_cons (ps_set (i := 5) sc_law_end.nd rfl (Or.inl rfl) (pe_tup (pa_cons pe_str (pa_cons (pv 4) pa_nil))))
        (pss_cons (ps_if (pt_cmp (pc_din hu (pv 4) (pe_ix ix_list (pv 2) (pv 3) (fun _ _ => rfl))) (by rfl)) (pss_one (ps_set (i := 5) sc_law_end.nd rfl (Or.inl rfl) (pe_tup (pa_cons pe_str (pa_cons (pe_f cT hr (by decide) (by rfl) (pa_cons (pe_dget hu (pe_ix ix_list (pv 2) (pv 3) (fun _ _ => rfl)) (pv 4) (fun _ _ => rfl)) pa_nil)) pa_nil))))) pss_nil)
        (pss_one (ps_if (pt_not (pt_val (pe_f cR hr (by decide) (by rfl) (pa_cons (pv 0) (pa_cons (pe_op op_add_str pe_str (pv 4)) (pa_cons (pv 5) pa_nil)))))) (pss_one (ps_ret pe_bl)) pss_nil)))))
      (pss_cons (ps_while PassesOwn.never (pt_cmpR op_gt (pv 3) pe_int (nomark _))
        (pss_cons (ps_asg (pe_f cM hr (by decide) (by rfl) (pa_cons (pv 0) (pa_cons (pv 2) (pa_cons (pv 3) (pa_cons pe_str pa_nil))))) (pg_tup rfl (pgs_cons (pg_name (i := 3) sc_law_end.nd rfl (Or.inl rfl)) (pgs_cons (pg_name (i := 6) sc_law_end.nd rfl (Or.inl rfl)) pgs_nil))))
        (pss_one (ps_if (pt_not (pt_val (pv 6))) (pss_one (ps_ret pe_bl)) pss_nil))))
      (pss_one (ps_ret (pe_and (pe_f cR hr (by decide) (by rfl) (pa_cons (pv 0) (pa_cons pe_str (pa_cons (pe_tup (pa_cons pe_str (pa_cons pe_int pa_nil))) pa_nil)))) (pe_one (pe_f cR hr (by decide) (by rfl) (pa_cons (pv 0) (pa_cons pe_str (pa_cons (pe_tup (pa_cons pe_str (pa_cons pe_str pa_nil))) pa_nil))))))))), ?_⟩
    refine ⟨_, rfl, kn, rfl, ⟨_, SqL.of hkn⟩, for_list (K := K) (a := kn) (xs := ks.map V.str)
      (fun j σ H' => ∃ (v4 v5 : Option V) (al' : Addr), σ = [some (.ref p), some (.ref kn), some (.ref bk), some (.int (i : Nat)), v4, v5, none] ∧ DkSt H' C p pl al' D ∧ BooksAt H' bk book ∧ NamesAt H' kn ks ∧ bk ≠ al' ∧ kn ≠ al')
      ⟨none, none, al, rfl, st, hb, hkn, n2, n4⟩ (fun j σ H' _ ⟨_, _, _, _, _, _, z, _⟩ => SqL.of z) ?_ ?_⟩
    · rintro j y σ H1 hy ⟨v4, v5, al1, rfl, st1, hb1, hk1, m1, m2⟩
      obtain ⟨x, hx, rfl⟩ := map_get hy
      have nx := nms x (List.mem_of_getElem? hx)
      have xl := nx.few
      refine ⟨_, rfl, by show 2 ≤ sizeLine; decide, fun d0 hd0 => ?_⟩
      have s1 := same_upd (o := .tup [.str "name", .str x]) hd0
      have d01 : (upd H1 d0 (.tup [.str "name", .str x]) : Hp) d0 = some (.tup [.str "name", .str x]) := upd_same
      generalize upd H1 d0 (.tup [.str "name", .str x]) = H2 at s1 d01 ⊢
      obtain ⟨xs, hbk, lx, get⟩ := hb1.get
      obtain ⟨q, hq, hD⟩ := get i _ lk.held
      have hbk2 := s1 _ _ hbk
      obtain ⟨kvs, hkq, bkk⟩ := hD.same s1
      have lkx := bk_lk x bkk
      have gd := DGet.k (k := Sum.inr x) hkq
      have last : ∀ (H3 : Hp) (d : Addr) (an : An), Same H2 H3 → H3 d = some (.tup [.str (dueW an), dueV an]) → (stepD D (.shw x)).1 = an → (tIfS (tNot (tTest (tCall (spRight C) [] E0 (tCons (tVar 0) (tCons (tOp (fun x y H Q => ∃ i j, x = .str i ∧ y = .str j ∧ i.length + j.length ≤ sizeLine ∧ Q (.str (i ++ j)) H) (tC (.str "show ")) (tVar 4)) (tCons (tVar 5) tNil)))))) (tRet (tC (.bl false))) tNext)
          { nx := fun σ H' => ∃ (v4 v5 : Option V) (al' : Addr), σ = [some (.ref p), some (.ref kn), some (.ref bk), some (.int (i : Nat)), v4, v5, none] ∧ DkSt H' C p pl al' D ∧ BooksAt H' bk book ∧ NamesAt H' kn ks ∧ bk ≠ al' ∧ kn ≠ al', rt := Q } [some (.ref p), some (.ref kn), some (.ref bk), some (.int (i : Nat)), some (.str x), some (.ref d), none] H3 := by
        intro H3 d an s3 hd e
        have s13 := s1.trans s3
        refine ⟨_, rfl, _, rfl, _, _, rfl, rfl, by rw [len_show_sp, sizeLine_eq]; omega, _, rfl, p, pl, al1, D, .shw x, .ref d, by rw [line_show]; rfl, st1.same s13, ok, nx, ⟨d, rfl, by rw [e]; exact hd⟩, fun H4 al4 k4 st4 hal => ⟨true, rfl, iteF ?_⟩⟩
        have hb3 := s13 _ _ hbk
        refine ⟨_, _, al4, rfl, st4, books_keep3 (st1.same s13) k4 n1 m1 ?_, k4 _ _ ?_ n3 m2 (s13 _ _ hk1), new_ne (H' := H4) hb3 m1 hal, new_ne (H' := H4) (s13 _ _ hk1) m2 hal⟩
        · obtain ⟨bs, z1, z2⟩ := hb1
          exact ⟨bs, s13 _ _ z1, L2.Paired.mapP z2 fun _ _ q => q.same s13⟩
        · obtain ⟨dx, hh, hp, _⟩ := (st1.same s13).ins
          exact ne_of (s13 _ _ hk1) hp (by intro z; cases z)
      cases e : lkB D.held x with
      | none =>
        rw [e] at lkx
        rw [lkx] at gd
        refine ⟨_, rfl, _, rfl, _, rfl, bk, xs, _, _, rfl, rfl, SqL.of hbk2, atI_nat hq, q, none, rfl, gd, _, rfl, iteF ?_⟩
        exact last H2 d0 (.name x) (Same.refl H2) d01 (by simp only [stepD, askR, e])
      | some r =>
        rw [e] at lkx
        obtain ⟨rv, hv, hR⟩ := lkx
        rw [hv] at gd
        have gr := ok.held.1.lk e
        refine ⟨_, rfl, _, rfl, _, rfl, bk, xs, _, _, rfl, rfl, SqL.of hbk2, atI_nat hq, q, some rv, rfl, gd, _, rfl, iteT ?_⟩
        refine ⟨_, rfl, _, rfl, bk, xs, _, _, rfl, rfl, SqL.of hbk2, atI_nat hq, _, rfl, q, rv, rfl, gd, rv, r, rfl, hR, gr, fun H3 s3 => ⟨by show 2 ≤ sizeLine; decide, fun d hd => ?_⟩⟩
        exact last _ d (.told (ruleT r)) (s3.trans (same_upd hd)) upd_same (by simp only [stepD, askR, e])
    · rintro σ H1 ⟨v4, v5, al1, rfl, st1, hb1, hk1, m1, m2⟩
      refine while_by (fun σ H' => ∃ (v4 v5 v6 : Option V) (al' : Addr) (D' : Dk) (j : Nat), σ = [some (.ref p), some (.ref kn), some (.ref bk), some (.int (j : Nat)), v4, v5, v6] ∧ DkSt H' C p pl al' D' ∧ BooksAt H' bk book ∧ Link D' book j ∧ bk ≠ al')
        (fun σ _ => match σ with | [_, _, _, some (.int z), _, _, _] => z.toNat | _ => 0) ⟨v4, v5, none, al1, D, i, rfl, st1, hb1, lk, m1⟩ ?_ ?_
      · rintro σ H2 ⟨v4, v5, v6, al2, D2, j, rfl, st2, hb2, lk2, m3⟩
        refine ⟨_, rfl, _, _, rfl, rfl, _, rfl, ?_⟩
        cases j with
        | succ j =>
          rw [decide_eq_true (show (0 : Int) < ((j + 1 : Nat) : Int) by omega)]
          refine ⟨_, rfl, _, rfl, _, rfl, p, pl, al2, bk, D2, book, j + 1, .undo, rfl, .inl rfl, st2, hb2, lk2, bo, fun H3 T al3 j' k3 st3 hal hT lk3 hj => ?_⟩
          have ej := hj rfl
          refine ⟨T, _, rfl, SqT.of hT, rfl, _, _, rfl, _, _, rfl, rfl, ?_⟩
          refine ⟨_, rfl, true, rfl, iteF ⟨⟨_, _, _, al3, _, j', rfl, st3, books_keep3 st2 k3 n1 m3 hb2, lk3, ?_⟩, ?_⟩⟩
          · obtain ⟨bs, z1, _⟩ := hb2
            exact new_ne (H' := H3) z1 m3 hal
          · show ((j' : Nat) : Int).toNat < ((j + 1 : Nat) : Int).toNat
            omega
        | zero =>
          rw [decide_eq_false (show ¬ (0 : Int) < ((0 : Nat) : Int) by omega)]
          have ok2 := lk2.ok bo
          have eh : D2.held = [] := by
            have := lk2.held
            rw [b0] at this
            exact (Option.some.inj this).symm
          have e0 := link_back0 lk2
          refine ⟨_, rfl, by show 2 ≤ sizeLine; decide, fun d hd => ?_⟩
          have s3 := same_upd (o := .tup [.str "nothing", .int 0]) hd
          refine ⟨p, pl, al2, D2, .undo, .ref d, by rw [← line_undo]; rfl, st2.same s3, ok2, trivial, ⟨d, rfl, by rw [show stepD D2 .undo = backS D2 from rfl, e0, upd_same]; rfl⟩, fun H4 al4 k4 st4 hal => ⟨true, rfl, iteT ?_⟩⟩
          rw [show stepD D2 .undo = backS D2 from rfl, e0] at st4
          refine ⟨_, rfl, by show 2 ≤ sizeLine; decide, fun d' hd' => ?_⟩
          have s5 := same_upd (o := .tup [.str "told", .str "no names"]) hd'
          refine ⟨p, pl, al4, D2, .names, .ref d', by rw [← line_names]; rfl, st4.same s5, ok2, trivial, ⟨d', rfl, ?_⟩, fun H6 al6 k6 st6 hal6 => kQ H6⟩
          rw [show (stepD D2 .names).1 = .told (namesT D2.held) from rfl, eh, upd_same]
          rfl
      · rintro σ H2 Q1 Q2 hm ⟨x, h1, i, j, e1, e2, b, e, q⟩
        exact ⟨x, h1, i, j, e1, e2, b, e, hm _ _ q⟩
end
end Kd
namespace Kd
open PySem PySem.Spec PyProof.Rows L2
section
variable {P : Program} {w : World} {K : PySem.W.Frag} {mg : Str → Option Value} {base : Heap}
/-! ## The law -/
theorem deed_ok {rs : Bk} {k : Nat} {l : Ln} (g : GB rs) (hk : rs.length ≤ k) (gl : GL l) : GB (deedR rs l).2 ∧ (deedR rs l).2.length ≤ k + 1 := by
  have stay : GB rs ∧ rs.length ≤ k + 1 := ⟨g, by omega⟩
  cases l with
  | rule n r =>
    refine ⟨g.put gl.1 gl.2, ?_⟩
    have := putB_len n r rs
    show (putB rs n r).length ≤ k + 1
    omega
  | add n h =>
    simp only [deedR]
    cases e : lkB rs n with
    | none => exact stay
    | some r =>
      by_cases h6 : r.length = 6
      · simp only [h6, if_true]; exact stay
      · simp only [h6, if_false]
        have := putB_len n (r ++ [h]) rs
        exact ⟨g.put gl.1 ((g.lk e).app gl.2 h6), by omega⟩
  | take n i =>
    simp only [deedR]
    cases e : lkB rs n with
    | none => exact stay
    | some r =>
      by_cases h6 : r.length ≤ i
      · simp only [h6, if_true]; exact stay
      · simp only [h6, if_false]
        have := putB_len n (r.take i ++ r.drop (i + 1)) rs
        exact ⟨g.put gl.1 ((g.lk e).cut i), by omega⟩
  | copy n m =>
    simp only [deedR]
    cases e : lkB rs n with
    | none => exact stay
    | some r =>
      have := putB_len m r rs
      exact ⟨g.put gl.2 (g.lk e), by show (putB rs m r).length ≤ _; omega⟩
  | drop n =>
    simp only [deedR]
    cases e : lkB rs n with
    | none => exact stay
    | some r =>
      have := dropB_len n rs
      exact ⟨g.drop n, by show (dropB rs n).length ≤ _; omega⟩
  | undo => exact stay
  | again => exact stay
  | names => exact stay
  | shw n => exact stay
  | keeps n h => exact stay
  | mtch n m => exact stay
theorem BooksOk.mono {book : List Bk} {j k : Nat} (b : BooksOk book j) (h : j ≤ k) : BooksOk book k := ⟨fun x hx => ⟨(b.all x hx).1, by have := (b.all x hx).2; omega⟩, by have := b.few; omega⟩
theorem books_deed {book : List Bk} {i k : Nat} {rs : Bk} (b : BooksOk book k) (h : GB rs ∧ rs.length ≤ k + 1) : BooksOk (book.take (i + 1) ++ [rs]) (k + 1) := by
  refine ⟨fun x hx => ?_, ?_⟩
  · rcases List.mem_append.mp hx with q | q
    · have := b.all x (List.mem_of_mem_take q)
      exact ⟨this.1, by omega⟩
    · rw [List.mem_singleton.mp q]
      exact h
  · have := b.few
    rw [List.length_append, List.length_take, List.length_singleton]
    omega
theorem books_S {st g c bk : Addr} {n : Nat} {H H' : Hp} {book : List Bk} (s : StAt H st g c n) (k : KeepS st g H H') (n1 : bk ≠ st) (n2 : bk ≠ g) (b : BooksAt H bk book) : BooksAt H' bk book := by
  obtain ⟨bs, h, pb⟩ := b
  exact ⟨bs, k _ _ n1 n2 h, L2.Paired.mapP pb fun _ _ q => dc_keepS s k q⟩
theorem books_5 {st g c p pl al C bk : Addr} {n : Nat} {D : Dk} {H H' : Hp} {book : List Bk} (s : StAt H st g c n) (x : DkSt H C p pl al D) (k : Keep5 st g p pl al H H') (n1 : bk ≠ st) (n2 : bk ≠ g) (n3 : bk ≠ pl) (n4 : bk ≠ al) (b : BooksAt H bk book) : BooksAt H' bk book := by
  obtain ⟨bs, h, pb⟩ := b
  obtain ⟨⟨dx, hh, hp, _⟩, ⟨ps, hpl, _⟩, ⟨ls, hal, _⟩, _⟩ := x
  obtain ⟨gs, cur, cs, k0, h1, h2, _⟩ := s
  exact ⟨bs, k _ _ n1 n2 (ne_of h hp (by intro z; cases z)) n3 n4 h, L2.Paired.mapP pb fun _ _ q => q.k fun b o hb nl ni => k b o (ne_of hb h1 (nl _)) (ne_of hb h2 (nl _)) (ne_of hb hp (ni _ _ _)) (ne_of hb hpl (nl _)) (ne_of hb hal (nl _)) hb⟩
structure LInv (H : Hp) (C st g c kn p pl al bk : Addr) (ks : List Str) (i j : Nat) (book : List Bk) (D : Dk) : Prop where
  sa : StAt H st g c (1000 + 600 * i)
  dk : DkSt H C p pl al D
  ap : Apart st g c pl al
  bs : BooksAt H bk book
  lk : Link D book j
  bo : BooksOk book i
  b0 : book[0]? = some []
  nm : NamesAt H kn ks
  m1 : bk ≠ pl
  m2 : bk ≠ al
  m3 : bk ≠ st
  m4 : bk ≠ g
  m5 : kn ≠ pl
  m6 : kn ≠ al
def spLaw (K : PySem.W.Frag) : Sp := fun vs H Q _ => ∃ (a : Addr) (ns : List Int), vs = [.ref a] ∧ SqL K H a (ns.map V.int) ∧ ns.length ≤ 63 ∧ ∀ H', Q (.bl true) H'
abbrev lawN : List Str := ["_law_script", "_law_state", "_law_names", "_law_k", "_law_desk", "_law_book", "_law_here", "_law_plan_here", "_law_right_here", "_law_rules", "_law_due"]
theorem sc_law : FnScope lawN ["_law_script"] (defScope s_law) := ⟨rfl, rfl, rfl, by decide +kernel, rfl, by decide +kernel, by decide +kernel⟩
theorem pl_len {H : Hp} {v : V} {x : Pl} (h : PlAt H v x) : ∃ (a : Addr) (ys : List V), v = .ref a ∧ H a = some (.tup ys) ∧ ((x = .undo ∧ ys = [.str "undo"]) ∨ (x = .again ∧ ys = [.str "again"]) ∨ (isDeedP x ∧ ys.length ≠ 1)) := by
  cases x with
  | rule n r => obtain ⟨a, y, e, ha, _⟩ := h; exact ⟨a, _, e, ha, .inr (.inr ⟨trivial, fun z => by cases z⟩)⟩
  | add n r => obtain ⟨a, y, e, ha, _⟩ := h; exact ⟨a, _, e, ha, .inr (.inr ⟨trivial, fun z => by cases z⟩)⟩
  | take n i => obtain ⟨a, e, ha⟩ := h; exact ⟨a, _, e, ha, .inr (.inr ⟨trivial, fun z => by cases z⟩)⟩
  | copy n m => obtain ⟨a, e, ha⟩ := h; exact ⟨a, _, e, ha, .inr (.inr ⟨trivial, fun z => by cases z⟩)⟩
  | drop n => obtain ⟨a, e, ha⟩ := h; exact ⟨a, _, e, ha, .inr (.inr ⟨trivial, fun z => by cases z⟩)⟩
  | undo => obtain ⟨a, e, ha⟩ := h; exact ⟨a, _, e, ha, .inl ⟨rfl, rfl⟩⟩
  | again => obtain ⟨a, e, ha⟩ := h; exact ⟨a, _, e, ha, .inr (.inl ⟨rfl, rfl⟩)⟩
theorem pl_same {H H' : Hp} {v : V} {x : Pl} (s : Same H H') (h : PlAt H v x) : PlAt H' v x := by
  cases x with
  | rule n r => obtain ⟨a, y, e, ha, hr⟩ := h; exact ⟨a, y, e, s _ _ ha, hr.same s⟩
  | add n r => obtain ⟨a, y, e, ha, hr⟩ := h; exact ⟨a, y, e, s _ _ ha, hr.same s⟩
  | take n i => obtain ⟨a, e, ha⟩ := h; exact ⟨a, e, s _ _ ha⟩
  | copy n m => obtain ⟨a, e, ha⟩ := h; exact ⟨a, e, s _ _ ha⟩
  | drop n => obtain ⟨a, e, ha⟩ := h; exact ⟨a, e, s _ _ ha⟩
  | undo => obtain ⟨a, e, ha⟩ := h; exact ⟨a, e, s _ _ ha⟩
  | again => obtain ⟨a, e, ha⟩ := h; exact ⟨a, e, s _ _ ha⟩
theorem LInv.same {H H' : Hp} {C st g c kn p pl al bk : Addr} {ks : List Str} {i j : Nat} {book : List Bk} {D : Dk} (s : Same H H') (x : LInv H C st g c kn p pl al bk ks i j book D) : LInv H' C st g c kn p pl al bk ks i j book D := by
  obtain ⟨bs, h, pb⟩ := x.bs
  exact { x with sa := x.sa.same s, dk := x.dk.same s, bs := ⟨bs, s _ _ h, L2.Paired.mapP pb fun _ _ q => q.same s⟩, nm := s _ _ x.nm }
theorem step_deed (D : Dk) {x : Pl} (h : isDeedP x) : stepD D x.ln = deedS D x.ln := by
  cases x with
  | undo => exact h.elim
  | again => exact h.elim
  | rule n r => rfl
  | add n r => rfl
  | take n i => rfl
  | copy n m => rfl
  | drop n => rfl
theorem deedS_one (D : Dk) (l : Ln) : (deedS D l).1 = (deedR D.held l).1 := by
  unfold deedS
  split
  · rename_i t rs heq
    rw [heq]
  · rename_i a rs heq hz
    rw [hz]
theorem deedS_told {D : Dk} {l : Ln} {t : Str} (h : (deedR D.held l).1 = .told t) : (deedS D l).2 = ⟨(deedR D.held l).2, D.past ++ [D.held], []⟩ := by
  unfold deedS
  split
  · rename_i t' rs heq
    rw [heq]
  · rename_i a rs heq hz
    rw [hz] at h
    have h' : a = .told t := h
    subst h'
    exact (heq t rfl).elim
theorem dueW_told {a : An} (h : dueW a = "told") : ∃ t, a = .told t := by
  cases a with
  | told t => exact ⟨t, rfl⟩
  | name n => exact absurd h (show ("name" : Str) ≠ "told" by decide +kernel)
  | rule => exact absurd h (show ("rule" : Str) ≠ "told" by decide +kernel)
  | place => exact absurd h (show ("place" : Str) ≠ "told" by decide +kernel)
  | many => exact absurd h (show ("many" : Str) ≠ "told" by decide +kernel)
  | nothing => exact absurd h (show ("nothing" : Str) ≠ "told" by decide +kernel)
end
end Kd
namespace Kd
open PySem PySem.Spec PyProof.Rows L2
section
variable {P : Program} {w : World} {K : PySem.W.Frag} {mg : Str → Option Value} {base : Heap}
theorem desk_dc0 {H : Hp} {b : Addr} (h : H b = some (.dK [])) : DcAt H b [] := ⟨[], h, .nil⟩
/-- a def whose object is named, that lets nothing out -/
theorem mk0F {x : Str} {st : Stmt} {N ps : List Str} {k : Nat} {sp : Sp} {fl : Addr} {fdl : FuncData} (F : FunD K x x (defArgs st) (defBody st) (defScope st) [] [] fl fdl) (S : FnScope N ps (defScope st)) (len : ∀ vs H Q E, sp vs H Q E → vs.length = ps.length)
    (body : ∀ (f : Addr) (cdv : Value) (A : Around) (outer : List Env) (s : Shared) (H : Hp) (vs : List V) (Q : VK) (E : XK), Room k (A.deeper (envOfC x (defScope st) s.heap.objs.size f cdv)) → sp vs H Q E →
      ∃ t, PSs (cxOf CX0 P w K mg base N x (defScope st) f cdv A outer s H E).nox (defBody st) t ∧ t { nx := fun _ H' => Q .non H', rt := Q } (start N vs) H) : FnOk P w K mg base CX0 (k + 1) fl fdl ps sp := by
  refine F.ok S len fun cdv A outer s H vs Q E hr hsp => ?_
  obtain ⟨t, ht, q⟩ := body fl cdv A outer s H vs Q E hr hsp
  exact ⟨t, ht.nox, q⟩
theorem LInv.keepS {H H' : Hp} {C st g c kn p pl al bk : Addr} {ks : List Str} {i i' j : Nat} {book : List Bk} {D : Dk} (x : LInv H C st g c kn p pl al bk ks i j book D) (k : KeepS st g H H') (s : StAt H' st g c (1000 + 600 * i')) (hi : i ≤ i') (n1 : kn ≠ st) (n2 : kn ≠ g) :
    LInv H' C st g c kn p pl al bk ks i' j book D :=
  { x with sa := s, dk := dk_keepS x.sa k x.dk x.ap, bs := books_S x.sa k x.m3 x.m4 x.bs, bo := x.bo.mono hi, nm := k _ _ n1 n2 x.nm }
/-- what holds ahead of each turn -/
def LawPv (C a st g c kn p pl : Addr) (ks : List Str) (i : Nat) (σ : L2.St) (H : Hp) : Prop := ∃ (v3 v7 v8 v9 v10 : Option V) (al bk : Addr) (j : Nat) (book : List Bk) (D : Dk),
  σ = [some (.ref a), some (.ref st), some (.ref kn), v3, some (.ref p), some (.ref bk), some (.int (j : Nat)), v7, v8, v9, v10] ∧ LInv H C st g c kn p pl al bk ks i j book D
theorem ok_law {C : Addr} (B : Bi mg) (KC : DkC K mg C) {fl : Addr} {fdl : FuncData} (F : FunD K "law" "law" (defArgs s_law) (defBody s_law) (defScope s_law) [] [] fl fdl) (cS : Cl P w K mg base CX0 1 "_law_start" (spStart K)) (cNm : Cl P w K mg base CX0 3 "_law_name" spLawName) (cD : Cl P w K mg base CX0 2 "_law_draw" spDraw)
    (cP : Cl P w K mg base CX0 5 "_law_plan" spLawPlan) (cPL : Cl P w K mg base CX0 3 "_law_plan_line" spPlanLine) (cNx : Cl P w K mg base CX0 3 "_law_next" spNext) (cR : Cl P w K mg base CX0 10 "_law_right" (spRight C)) (cM : Cl P w K mg base CX0 11 "_law_moved" (spMoved C))
    (cA : Cl P w K mg base CX0 11 "_law_asks" (spAsks C)) (cE : Cl P w K mg base CX0 12 "_law_end" (spEnd C)) : FnOk P w K mg base CX0 13 fl fdl ["_law_script"] (spLaw K) := by
  obtain ⟨fI, fdI, FI, MI⟩ := KC.ini
  refine mk0F F sc_law (fun vs H Q E h => ?_) (fun f cdv A outer s H vs Q E hr h => ?_)
  · obtain ⟨a, ns, rfl, _⟩ := h
    rfl
  · obtain ⟨a, ns, rfl, ha, h63, kQ⟩ := h
    refine ⟨_, pss_cons (ps_set (i := 1) sc_law.nd rfl (Or.inl rfl) (pe_f cS hr (by decide) (by rfl) (pa_cons (pv 0) pa_nil)))
      (pss_cons (ps_set (i := 2) sc_law.nd rfl (Or.inl rfl) (pe_lst pa_nil))
      (pss_cons (ps_for PassesOwn.never rfl (pi_range1 (by rfl) B.range (pa_cons pe_int pa_nil)) (pg_name (i := 3) sc_law.nd rfl (Or.inl rfl))
        (pss_one (ps_expr (pe_bm PySem.F.plainAttrs_list PySem.F.slot_list_append PySem.F.type_list_append mt_append (pv 2) (pa_cons (pe_f cNm hr (by decide) (by rfl) (pa_cons (pv 1) (pa_cons (pv 2) pa_nil))) pa_nil)))))
      (pss_cons (ps_set (i := 4) sc_law.nd rfl (Or.inl rfl) (pe_make0 (k := 1) (dvs := []) (E := E0) MI (ok_desk_init KC FI) (hr.mono (by decide)) (by rfl) KC.g (FI.bindsN (fun _ _ _ _ _ _ us hl => match us, hl with | [_], _ => rfl)) .nil pass0))
      (pss_cons (ps_set (i := 5) sc_law.nd rfl (Or.inl rfl) (pe_lst (pa_cons pe_dnewK pa_nil)))
      (pss_cons (ps_set (i := 6) sc_law.nd rfl (Or.inl rfl) pe_int)
      (pss_cons (ps_for PassesOwn.never rfl (pi_range1 (by rfl) B.range (pa_cons (pe_op op_add (pe_callB call_len_seq (by rfl) B.len PySem.boot_len (pa_cons (pe_slice (r := rSlL K) sl_list (pv 0) po_none (po_some pe_int)) pa_nil)) (pe_f cD hr (by decide) (by rfl) (pa_cons (pv 1) (pa_cons pe_int pa_nil)))) pa_nil)) (pg_name (i := 3) sc_law.nd rfl (Or.inl rfl))
        (pss_cons (ps_set (i := 7) sc_law.nd rfl (Or.inl rfl) (pe_f cP hr (by decide) (by rfl) (pa_cons (pv 1) (pa_cons (pv 2) pa_nil))))
        (pss_cons (ps_if (pt_cmpR op_eq (pe_callB call_len_seq (by rfl) B.len PySem.boot_len (pa_cons (pv 7) pa_nil)) pe_int (nomark _))
          (pss_one (ps_asg (pe_f cM hr (by decide) (by rfl) (pa_cons (pv 4) (pa_cons (pv 5) (pa_cons (pv 6) (pa_cons (pe_ix (r := rIxT K) ix_tup (pv 7) pe_int (fun _ _ => rfl)) pa_nil))))) (pg_tup rfl (pgs_cons (pg_name (i := 6) sc_law.nd rfl (Or.inl rfl)) (pgs_cons (pg_name (i := 8) sc_law.nd rfl (Or.inl rfl)) pgs_nil)))))
          (pss_cons (ps_asg (pe_f cNx hr (by decide) (by rfl) (pa_cons (pe_ix ix_list (pv 5) (pv 6) (fun _ _ => rfl)) (pa_cons (pv 7) pa_nil))) (pg_tup rfl (pgs_cons (pg_name (i := 9) sc_law.nd rfl (Or.inl rfl)) (pgs_cons (pg_name (i := 10) sc_law.nd rfl (Or.inl rfl)) pgs_nil))))
          (pss_cons (ps_set (i := 8) sc_law.nd rfl (Or.inl rfl) (pe_f cR hr (by decide) (by rfl) (pa_cons (pv 4) (pa_cons (pe_f cPL hr (by decide) (by rfl) (pa_cons (pv 7) pa_nil)) (pa_cons (pv 10) pa_nil)))))
          (pss_one (ps_if (pt_cmpR op_eq (pe_ix (r := rIxT K) ix_tup (pv 10) pe_int (fun _ _ => rfl)) pe_str (nomark _))
            (pss_cons (ps_set (i := 5) sc_law.nd rfl (Or.inl rfl) (pe_op op_cat (pe_slice (r := rSlL K) sl_list (pv 5) po_none (po_some (pe_op op_add (pv 6) pe_int))) (pe_lst (pa_cons (pv 9) pa_nil))))
            (pss_one (ps_aug (i := 6) sc_law.nd rfl (Or.inl rfl) pe_int ip_add))) pss_nil)))))
        (pss_one (ps_if (PW.pt (pw_or (pt_not (pt_val (pv 8))) (pw_or1 (pt_not (pt_val (pe_f cA hr (by decide) (by rfl) (pa_cons (pv 4) (pa_cons (pv 1) (pa_cons (pe_ix ix_list (pv 5) (pv 6) (fun _ _ => rfl)) (pa_cons (pv 2) pa_nil)))))))))) (pss_one (ps_ret pe_bl)) pss_nil)))))
      (pss_one (ps_ret (pe_f cE hr (by decide) (by rfl) (pa_cons (pv 4) (pa_cons (pv 2) (pa_cons (pv 5) (pa_cons (pv 6) pa_nil))))))))))))), ?_⟩
    refine ⟨_, rfl, a, ns, rfl, ha, h63, fun H1 st g c s1 hst hg sa => ⟨Nat.zero_le _, fun kn hkn => ?_⟩⟩
    have hkn0 : H kn = none := by
      cases z : H kn with
      | none => rfl
      | some o => rw [s1 _ _ z] at hkn; cases hkn
    obtain ⟨nks, nkg, nkc⟩ : kn ≠ st ∧ kn ≠ g ∧ kn ≠ c := by
      obtain ⟨gs, cur, cs, k0, w1, w2, w3, _⟩ := id sa
      exact ⟨(ne_of_none w1 hkn).symm, (ne_of_none w2 hkn).symm, (ne_of_none w3 hkn).symm⟩
    have keepH : ∀ {H' H'' : Hp}, Same H H' → KeepS st g H' H'' → Same H H'' := fun {H' H''} s k b o hb => k b o (ne_of_none hb hst) (ne_of_none hb hg) (s _ _ hb)
    refine ⟨4, rfl, by decide, by decide, for_range (lo := 0) (n := 4) (fun i σ H' => ∃ (v3 : Option V) (ks : List Str), σ = [some (.ref a), some (.ref st), some (.ref kn), v3, none, none, none, none, none, none, none] ∧ Same H H' ∧ StAt H' st g c (40 * i) ∧ H' kn = some (.lst (ks.map V.str)) ∧ ks.length = i ∧ ∀ x ∈ ks, Nm x)
      ⟨none, [], rfl, s1.trans (same_upd hkn), sa.same (same_upd hkn), upd_same, rfl, fun x hx => (by cases hx)⟩ ?_ ?_⟩
    · rintro i σ H2 hi ⟨v3, ks, rfl, s2, sa2, hk, lk, nms⟩
      refine ⟨_, rfl, .inl ⟨rfl, _, SqL.of hk⟩, _, rfl, _, rfl, st, g, c, kn, _, ks, rfl, sa2, by omega, ⟨hk, nks, nkg, nms, by omega⟩, fun x H3 nx k3 sa3 => ?_⟩
      have hk3 := k3 _ _ nks nkg hk
      refine ⟨kn, _, _, rfl, rfl, hk3, small1000 (by rw [List.length_map]; omega), _, ks ++ [x], rfl, ?_, ?_, ?_, by rw [List.length_append, lk]; rfl, ?_⟩
      · intro b o hb
        rw [upd_ne (ne_of_none hb hkn0)]
        exact keepH s2 k3 b o hb
      · obtain ⟨gs, cur, cs, k0, w1, w2, w3, w4, w5⟩ := sa3
        exact ⟨gs, cur, cs, k0, by rw [upd_ne nks.symm]; exact w1, by rw [upd_ne nkg.symm]; exact w2, by rw [upd_ne nkc.symm]; exact w3, by omega, w5⟩
      · rw [upd_same, List.map_append]
        rfl
      · intro z hz
        rcases List.mem_append.mp hz with q | q
        · exact nms z q
        · rw [List.mem_singleton.mp q]; exact nx
    · rintro σ H2 ⟨v3, ks, rfl, s2, sa2, hk, lk, nms⟩
      intro p dx hp hdx ndp
      have t1 : Same H2 (upd (upd H2 dx (.own p)) p (.ins C dx [])) := fun b o hb => by
        rw [upd_ne (ne_of_none hb hp), upd_ne (ne_of_none hb hdx)]
        exact hb
      refine ⟨p, dx, rfl, upd_same, fun H3 pl al k3 hpl hal dk => ⟨rfl, ?_⟩⟩
      have back : ∀ {b : Addr}, (upd (upd H2 dx (.own p)) p (.ins C dx []) : Hp) b = none → H2 b = none := fun {b} z => by
        cases y : H2 b with
        | none => rfl
        | some o => rw [t1 _ _ y] at z; cases z
      have hpl2 := back hpl
      have hal2 := back hal
      have s3 : Same H2 H3 := fun b o hb => k3 b o (ne_of_none hb hp) (ne_of_none hb hpl2) (ne_of_none hb hal2) (t1 _ _ hb)
      have sa3 := sa2.same s3
      have ap : Apart st g c pl al := by
        obtain ⟨gs, cur, cs, k0, w1, w2, w3, _⟩ := id sa2
        exact ⟨ne_of_none w1 hpl2, ne_of_none w2 hpl2, ne_of_none w3 hpl2, ne_of_none w1 hal2, ne_of_none w2 hal2, ne_of_none w3 hal2⟩
      have nkp := ne_of_none hk hpl2
      have nka := ne_of_none hk hal2
      have hk3 := s3 _ _ hk
      intro d0 hd0
      have s4 := same_upd (o := .dK []) hd0
      have hd4 : (upd H3 d0 (.dK []) : Hp) d0 = some (.dK []) := upd_same
      generalize upd H3 d0 (.dK []) = H4 at s4 hd4 ⊢
      refine ⟨by show 1 ≤ sizeLine; decide, fun bk hbk => ?_⟩
      have s5 := same_upd (o := .lst [.ref d0]) hbk
      have hb5 : (upd H4 bk (.lst [.ref d0]) : Hp) bk = some (.lst [.ref d0]) := upd_same
      have fresh : ∀ {b : Addr} {o : HO}, H4 b = some o → bk ≠ b := fun {b o} hb => (ne_of_none hb hbk).symm
      have inv0 : LInv (upd H4 bk (.lst [.ref d0])) C st g c kn p pl al bk ks 0 0 [[]] ⟨[], [], []⟩ := by
        have s35 := s4.trans s5
        obtain ⟨_, ⟨qs, q1, _⟩, ⟨ls, q2, _⟩, _⟩ := id dk
        obtain ⟨gs, cur, cs, k0, w1, w2, w3, _⟩ := id sa3
        exact ⟨(sa3.same s35).mono (by omega), dk.same s35, ap, ⟨[d0], hb5, .cons (desk_dc0 (s5 _ _ hd4)) .nil⟩, ⟨rfl, rfl, rfl⟩, ⟨fun x hx => by rw [List.mem_singleton.mp hx]; exact ⟨gb_nil, Nat.zero_le _⟩, by decide⟩, rfl, s35 _ _ hk3,
          fresh (s4 _ _ q1), fresh (s4 _ _ q2), fresh (s4 _ _ w1), fresh (s4 _ _ w2), nkp, nka⟩
      have sa5 : StAt (upd H4 bk (.lst [.ref d0])) st g c (40 * 4) := sa3.same (s4.trans s5)
      have s25 : Same H (upd H4 bk (.lst [.ref d0])) := ((s2.trans s3).trans s4).trans s5
      generalize upd H4 bk (.lst [.ref d0]) = H5 at inv0 s25 sa5 ⊢
      clear hb5 s5
      refine ⟨_, rfl, 40, rfl, a, _, rfl, sql_same s25 ha, fun cp hcp => ?_⟩
      have s6 := same_upd (o := .lst (cutV (ns.map V.int) none (some 40))) hcp
      refine ⟨cp, _, rfl, .inl (SqL.of upd_same), _, rfl, st, g, c, _, 9, rfl, sa5.same s6, by omega, by decide, by decide, fun t H6 t0 t9 k6 sa6 => ?_⟩
      have l40 : (cutV (ns.map V.int) none (some 40)).length ≤ 40 := by
        rw [show cutV (ns.map V.int) none (some 40) = (ns.map V.int).take 40 from cutV_take _ 40, List.length_take]
        omega
      have inv6 := (inv0.same s6).keepS (i' := 0) k6 (sa6.mono (by omega)) (Nat.le_refl _) nks nkg
      have lk4 : ks.length = 4 := lk
      obtain ⟨tn, rfl⟩ := Int.eq_ofNat_of_zero_le t0
      refine ⟨_, _, rfl, rfl, (((cutV (ns.map V.int) none (some 40)).length + tn : Nat) : Int), by simp, by omega, by omega, ?_⟩
      rw [Int.toNat_natCast]
      have n48 : (cutV (ns.map V.int) none (some 40)).length + tn ≤ 48 := by omega
      generalize (cutV (ns.map V.int) none (some 40)).length + tn = nn at n48 ⊢
      clear inv0 s6 k6 l40
      refine for_range (lo := 0) (n := nn) (fun i σ H' => LawPv C a st g c kn p pl ks i σ H') ⟨_, _, _, _, _, al, bk, 0, _, _, rfl, inv6⟩ ?_ ?_
      · rintro i σ H7 hi ⟨v3, v7, v8, v9, v10, al7, bk7, j, book, D7, rfl, inv⟩
        -- the turn's end
        have tail : ∀ (D' : Ends) (H8 : Hp) (al8 bk8 : Addr) (j8 : Nat) (book8 : List Bk) (D8 : Dk) (w3 w7 w9 w10 : Option V), (∀ σ H, LawPv C a st g c kn p pl ks (i + 1) σ H → D'.nx σ H) → StAt H8 st g c (1000 + 600 * i + 400) → DkSt H8 C p pl al8 D8 → Apart st g c pl al8 → BooksAt H8 bk8 book8 → Link D8 book8 j8 → BooksOk book8 (i + 1) → book8[0]? = some [] →
            NamesAt H8 kn ks → bk8 ≠ pl → bk8 ≠ al8 → bk8 ≠ st → bk8 ≠ g → kn ≠ al8 →
            (tIfS (tOr (tNot (tTest (tVar 8))) (tNot (tTest (tCall (spAsks C) [] E0 (tCons (tVar 4) (tCons (tVar 1) (tCons (tOp (rIxL K) (tVar 5) (tVar 6)) (tCons (tVar 2) tNil)))))))) (tRet (tC (.bl false))) tNext) D'
              [some (.ref a), some (.ref st), some (.ref kn), w3, some (.ref p), some (.ref bk8), some (.int (j8 : Nat)), w7, some (.bl true), w9, w10] H8 := by
          intro D' H8 al8 bk8 j8 book8 D8 w3 w7 w9 w10 hnx sa8 dk8 ap8 bs8 lk8 bo8 b08 nm8 n1 n2 n3 n4 n5
          obtain ⟨xs, hbk8, lx8, get8⟩ := bs8.get
          obtain ⟨q, hq, hD⟩ := get8 j8 _ lk8.held
          have ok8 := lk8.ok (bo8.mono (show i + 1 ≤ 60 by omega))
          refine ⟨_, rfl, true, rfl, iteF ?_⟩
          refine ⟨_, rfl, _, rfl, _, rfl, _, rfl, bk8, xs, _, _, rfl, rfl, SqL.of hbk8, atI_nat hq, _, rfl, p, pl, al8, st, g, c, kn, q, _, D8, ks, rfl, sa8, by omega, dk8, ok8, ap8, ⟨nm8, nks, nkg, nms, by omega⟩, lk4, hD, fun H9 al9 k9 sa9 dk9 hal => ⟨true, rfl, iteF ?_⟩⟩
          refine hnx _ _ ⟨_, _, _, _, _, al9, bk8, j8, book8, D8, rfl, sa9.mono (by omega), dk9, ap8.new sa8 hal, books_5 sa8 dk8 k9 n3 n4 n1 n2 bs8, lk8, bo8, b08, ?_, n1, new_ne (H' := H8) hbk8 n2 hal, n3, n4, inv.m5, new_ne (H' := H8) nm8 n5 hal⟩
          obtain ⟨dx8, hh8, hp8, _⟩ := dk8.ins
          exact k9 _ _ nks nkg (ne_of nm8 hp8 (by intro z; cases z)) inv.m5 n5 nm8
        refine ⟨_, rfl, _, rfl, st, g, c, kn, _, ks, rfl, inv.sa, by omega, ⟨inv.nm, nks, nkg, nms, by omega⟩, lk4, fun x H8 v gl k8 sa8 hp8 => ?_⟩
        have dk8 := dk_keepS inv.sa k8 inv.dk inv.ap
        have bs8 := books_S inv.sa k8 inv.m3 inv.m4 inv.bs
        have nm8 : NamesAt H8 kn ks := k8 _ _ nks nkg inv.nm
        have bo8 := inv.bo.mono (show i ≤ i + 1 by omega)
        have bo60 := inv.bo.mono (show i ≤ 60 by omega)
        have lk8 := inv.lk
        have ok8 := lk8.ok bo60
        obtain ⟨pa, ys, rfl, hpa, hc⟩ := pl_len hp8
        refine ⟨_, rfl, pa, ys, rfl, .inr (SqT.of hpa), rfl, _, rfl, ?_⟩
        rcases hc with ⟨rfl, rfl⟩ | ⟨rfl, rfl⟩ | ⟨dd, hl⟩
        · rw [show decide (V.int (([V.str ("undo" : Str)].length : Nat) : Int) = V.int 1) = true from decide_eq_true rfl]
          refine iteT ⟨_, rfl, _, rfl, _, rfl, _, rfl, pa, _, 0, _, rfl, rfl, SqT.of hpa, atI_nat (j := 0) rfl, p, pl, al7, bk7, D7, book, j, .undo, rfl, .inl rfl, dk8, bs8, lk8, bo60, fun H9 T al9 j9 k9 dk9 hal hT lk9 _ => ?_⟩
          refine ⟨T, _, rfl, SqT.of hT, rfl, _, _, rfl, _, _, rfl, rfl, ?_⟩
          obtain ⟨bs, z1, _⟩ := id bs8
          refine tail _ H9 al9 bk7 j9 book _ _ _ _ _ (fun σ H z => z) (st_keep3 sa8 dk8 k9 inv.ap) dk9 (inv.ap.new sa8 hal) (books_keep3 dk8 k9 inv.m1 inv.m2 bs8) lk9 bo8 inv.b0 ?_ inv.m1 (new_ne (H' := H8) z1 inv.m2 hal) inv.m3 inv.m4 (new_ne (H' := H8) nm8 inv.m6 hal)
          obtain ⟨dx9, hh9, hp9, _⟩ := dk8.ins
          exact k9 _ _ (ne_of nm8 hp9 (by intro z; cases z)) inv.m5 inv.m6 nm8
        · rw [show decide (V.int (([V.str ("again" : Str)].length : Nat) : Int) = V.int 1) = true from decide_eq_true rfl]
          refine iteT ⟨_, rfl, _, rfl, _, rfl, _, rfl, pa, _, 0, _, rfl, rfl, SqT.of hpa, atI_nat (j := 0) rfl, p, pl, al7, bk7, D7, book, j, .again, rfl, .inr rfl, dk8, bs8, lk8, bo60, fun H9 T al9 j9 k9 dk9 hal hT lk9 _ => ?_⟩
          refine ⟨T, _, rfl, SqT.of hT, rfl, _, _, rfl, _, _, rfl, rfl, ?_⟩
          obtain ⟨bs, z1, _⟩ := id bs8
          refine tail _ H9 al9 bk7 j9 book _ _ _ _ _ (fun σ H z => z) (st_keep3 sa8 dk8 k9 inv.ap) dk9 (inv.ap.new sa8 hal) (books_keep3 dk8 k9 inv.m1 inv.m2 bs8) lk9 bo8 inv.b0 ?_ inv.m1 (new_ne (H' := H8) z1 inv.m2 hal) inv.m3 inv.m4 (new_ne (H' := H8) nm8 inv.m6 hal)
          obtain ⟨dx9, hh9, hp9, _⟩ := dk8.ins
          exact k9 _ _ (ne_of nm8 hp9 (by intro z; cases z)) inv.m5 inv.m6 nm8
        · rw [show decide (V.int ((ys.length : Nat) : Int) = V.int 1) = false from decide_eq_false fun z => hl (by injection z with z; omega)]
          refine iteF ?_
          obtain ⟨xs, hbk, lx, get⟩ := bs8.get
          obtain ⟨q, hq, hD⟩ := get j _ lk8.held
          have gb := ok8.held
          have gbi := inv.bo.all _ (List.mem_of_getElem? lk8.held)
          refine ⟨_, rfl, _, rfl, bk7, xs, _, _, rfl, rfl, SqL.of hbk, atI_nat hq, _, rfl, q, .ref pa, D7.held, x, rfl, hD, gb.1, by omega, hp8, gl, dd, fun H9 T q' d s9 hT hdue htold => ?_⟩
          refine ⟨T, _, rfl, SqT.of hT, rfl, _, _, rfl, _, _, rfl, rfl, ?_⟩
          refine ⟨_, rfl, _, rfl, .ref pa, x, rfl, pl_same s9 hp8, gl, dd, fun H10 s10 => ?_⟩
          have s810 := s9.trans s10
          have dk10 := dk8.same s810
          have est := step_deed D7 dd
          have e1 : (stepD D7 x.ln).1 = (deedR D7.held x.ln).1 := by rw [est]; exact deedS_one _ _
          refine ⟨_, rfl, p, pl, al7, D7, x.ln, d, rfl, dk10, ok8, gl, by rw [e1]; exact hdue.same s10, fun H11 al11 k11 dk11 hal => ?_⟩
          obtain ⟨dd', rfl, hdd⟩ := hdue.same s10
          have hdd11 := keep_tup dk10 k11 hdd
          have sa10 := sa8.same s810
          have sa11 := st_keep3 sa10 dk10 k11 inv.ap
          have hbk10 := s810 _ _ hbk
          have nm10 : NamesAt H10 kn ks := s810 _ _ nm8
          have bs10 : BooksAt H10 bk7 book := by
            obtain ⟨bs, z1, z2⟩ := bs8
            exact ⟨bs, s810 _ _ z1, L2.Paired.mapP z2 fun _ _ q => q.same s810⟩
          have bs11 := books_keep3 dk10 k11 inv.m1 inv.m2 bs10
          have nm11 : NamesAt H11 kn ks := by
            obtain ⟨dx9, hh9, hp9, _⟩ := dk10.ins
            exact k11 _ _ (ne_of nm10 hp9 (by intro z; cases z)) inv.m5 inv.m6 nm10
          have ap11 := inv.ap.new sa10 hal
          have na11 := new_ne (H' := H10) nm10 inv.m6 hal
          have ba11 := new_ne (H' := H10) hbk10 inv.m2 hal
          refine ⟨_, rfl, dd', _, 0, _, rfl, rfl, SqT.of hdd11, atI_nat (j := 0) rfl, rfl, _, rfl, ?_⟩
          by_cases ht : dueW (deedR D7.held x.ln).1 = "told"
          · obtain ⟨t, et⟩ := dueW_told ht
            rw [show decide (V.str (dueW (deedR D7.held x.ln).1) = V.str ("told" : Str)) = true from decide_eq_true (by rw [ht])]
            refine iteT ?_
            have hq' := htold ⟨t, et⟩
            have hq11 := dc_keep3 dk10 k11 (hq'.same s10)
            rw [est, deedS_told et] at dk11
            obtain ⟨bs, hb11, pb11⟩ := bs11
            refine ⟨_, rfl, _, rfl, _, _, rfl, rfl, _, rfl, bk7, _, rfl, SqL.of hb11, fun nb hnb => ?_⟩
            have u1 := same_upd (o := .lst (cutV (bs.map V.ref) none (some ((j : Nat) + 1)))) hnb
            refine ⟨_, rfl, by show 1 ≤ sizeLine; decide, fun ol hol => ?_⟩
            have u2 := same_upd (o := .lst [.ref q']) hol
            refine ⟨nb, ol, _, _, rfl, rfl, u2 _ _ upd_same, upd_same, ?_, fun m hm => ?_⟩
            · have := cutV_length (bs.map V.ref) none (some ((j : Nat) + 1))
              have e3 : bs.length = book.length := pr_len pb11
              have e4 := inv.bo.few
              rw [List.length_map] at this
              rw [List.length_singleton, sizeLine_eq]
              omega
            have u3 := same_upd (o := .lst (cutV (bs.map V.ref) none (some ((j : Nat) + 1)) ++ [.ref q'])) hm
            have uu := (u1.trans u2).trans u3
            have ec : cutV (bs.map V.ref) none (some ((j : Nat) + 1)) ++ [V.ref q'] = (bs.take (j + 1) ++ [q']).map V.ref := by
              rw [show cutV (bs.map V.ref) none (some (((j : Nat) : Int) + 1)) = (bs.map V.ref).take (j + 1) from cutV_take _ (j + 1), List.map_append, List.map_take]
              rfl
            have hm0 : H11 m = none := by
              cases z : H11 m with
              | none => rfl
              | some o => rw [u2 _ _ (u1 _ _ z)] at hm; cases hm
            have fr : ∀ {b : Addr} {o : HO}, H11 b = some o → m ≠ b := fun {b o} z => (ne_of_none z hm0).symm
            refine ⟨_, rfl, _, _, rfl, rfl, ?_⟩
            obtain ⟨_, ⟨qs, y1, _⟩, ⟨ls, y2, _⟩, _⟩ := id dk11
            obtain ⟨gs, cur, cs, k0, w1, w2, w3, _⟩ := id sa11
            refine tail _ _ al11 m (j + 1) (book.take (j + 1) ++ [(deedR D7.held x.ln).2]) _ _ _ _ _ (fun σ H z => z) (sa11.same uu) (dk11.same uu) ap11 ⟨bs.take (j + 1) ++ [q'], by rw [upd_same, ec], ?_⟩ (link_deed lk8 _) (books_deed inv.bo (deed_ok gbi.1 gbi.2 gl)) ?_ (uu _ _ nm11) (fr y1) (fr y2) (fr w1) (fr w2) na11
            · exact pr_app (L2.Paired.mapP (pr_take (j + 1) pb11) fun _ _ z => z.same uu) (.cons (hq11.same uu) .nil)
            · have lb := lk8.lt
              have b0 := inv.b0
              cases book with
              | nil => cases b0
              | cons b r => exact b0
          · rw [show decide (V.str (dueW (deedR D7.held x.ln).1) = V.str ("told" : Str)) = false from dec_ne ht]
            refine iteF ?_
            have hne : ∀ t, (stepD D7 x.ln).1 ≠ .told t := fun t z => ht (by rw [← e1, z]; rfl)
            rw [stepD_stay hne] at dk11
            exact tail _ H11 al11 bk7 j book D7 _ _ _ _ (fun σ H z => z) sa11 dk11 ap11 bs11 lk8 bo8 inv.b0 nm11 inv.m1 ba11 inv.m3 inv.m4 na11
      · rintro σ H7 ⟨v3, v7, v8, v9, v10, al7, bk7, j, book, D7, rfl, inv⟩
        exact ⟨_, rfl, _, rfl, _, rfl, _, rfl, p, pl, al7, bk7, kn, D7, book, j, ks, rfl, inv.dk, inv.bs, inv.lk, inv.bo.mono (by omega), inv.b0, inv.nm, nms, inv.m1, inv.m2, inv.m5, inv.m6, fun H' => kQ H'⟩
end
end Kd
namespace Kd
open PySem PySem.Spec PyProof.Rows L2
/-! ## Joined -/
section
variable {P : Program} {w : World} {K : PySem.W.Frag} {h : Heap} {mg : Str → Option Value}
theorem df_of (X : K.In h) (G : h.Ns mainGlobals mg) (c : He.SaysT faL fnL tabL w K) (i : Nat) {x : Str} {st : Stmt} (h1 : fnL[i]? = some (dF x st)) (h2 : faL[i]? = some (.glo x)) : Df K mg x st := by
  obtain ⟨fd, F⟩ := c.d.def_ i (d := dF x st) h1
  exact ⟨_, fd, F, He.glo_ok X G (c.d.fact i (f := .glo x) h2)⟩
theorem er_of {x : Str} (g : mg x = some (.ref (He.ga K x))) (q : (He.Fa.exc x).ok K = true) : Er K mg x (He.ga K x) := by
  obtain ⟨q1, q2, q3, q4⟩ := He.exc_ok q
  exact ⟨g, q1, q2, q3, q4⟩
theorem ent_of {d x : Str} {l : List (Str × Str)} (q : entB K d l = true) (g : ∀ e ∈ l, mg e.2 = some (.ref (He.ga K e.2))) : ∀ e ∈ l, Ent K mg (He.ga K d) e.1 e.2 := fun e he =>
  ⟨_, He.eqO_ok (List.all_eq_true.mp q e he), g e he⟩
theorem out_of {d : Str} {l : List Str} (q : outB K d l = true) : ∀ k ∈ l, PySem.W.nsIn K (He.ga K d) k = some none := fun k hk => He.eqO_ok (List.all_eq_true.mp q k hk)
theorem nn_of {C fd0 : Addr} {fdN : FuncData} (q : nnB K C = true) (g : mg "NoName" = some (.ref C)) (F : FunD K "__init__" "NoName.__init__" (defArgs s_noname_init) (defBody s_noname_init) (defScope s_noname_init) [] [] (He.ma K C "__init__") fdN) : Nn K mg C := by
  obtain ⟨q1, q⟩ := Bool.and_eq_true_iff.mp q
  obtain ⟨q2, q⟩ := Bool.and_eq_true_iff.mp q
  obtain ⟨q3, q⟩ := Bool.and_eq_true_iff.mp q
  obtain ⟨q4, q⟩ := Bool.and_eq_true_iff.mp q
  obtain ⟨q5, q⟩ := Bool.and_eq_true_iff.mp q
  obtain ⟨q6, q⟩ := Bool.and_eq_true_iff.mp q
  obtain ⟨q7, q⟩ := Bool.and_eq_true_iff.mp q
  obtain ⟨q8, q9⟩ := Bool.and_eq_true_iff.mp q
  exact ⟨⟨shape_of q1, He.eqO_ok q2, of_decide_eq_true q3, of_decide_eq_true q4, q5⟩, xfB_ok q6, He.eqO_ok q7, ⟨_, fdN, F, He.eqO_ok q8, of_decide_eq_true q9⟩, g⟩
theorem all_facts {f : Addr} (X : K.In h) (G : h.Ns mainGlobals mg) (hfa : mg ("law" : Str) = some (.ref f)) (c : He.SaysT faL fnL tabL w K) (ex : exB K = true) :
    ∃ fd : FuncData, (∀ (s : Shared) (v : Value), BindsTo s fd ⟨[v], []⟩ [("_law_script", v)]) ∧ ∀ base : Heap, K.In base → base.Ns mainGlobals mg → FnOk P w K mg base CX0 13 f fd ["_law_script"] (spLaw K) := by
  obtain ⟨ex1, ex⟩ := Bool.and_eq_true_iff.mp ex
  obtain ⟨ex2, ex⟩ := Bool.and_eq_true_iff.mp ex
  obtain ⟨ex3, ex⟩ := Bool.and_eq_true_iff.mp ex
  obtain ⟨ex4, ex⟩ := Bool.and_eq_true_iff.mp ex
  obtain ⟨ex5, ex6⟩ := Bool.and_eq_true_iff.mp ex
  have B : Bi mg := ⟨He.free_ok X G (c.d.fact 68 (f := .free "len") rfl), He.free_ok X G (c.d.fact 69 (f := .free "tuple") rfl), He.free_ok X G (c.d.fact 70 (f := .free "list") rfl), He.free_ok X G (c.d.fact 71 (f := .free "dict") rfl), He.free_ok X G (c.d.fact 72 (f := .free "sorted") rfl), He.free_ok X G (c.d.fact 73 (f := .free "sum") rfl), He.free_ok X G (c.d.fact 74 (f := .free "all") rfl), He.free_ok X G (c.d.fact 75 (f := .free "max") rfl), He.free_ok X G (c.d.fact 76 (f := .free "range") rfl), He.free_ok X G (c.d.fact 77 (f := .free "enumerate") rfl), He.free_ok X G (c.d.fact 78 (f := .free "zip") rfl), He.free_ok X G (c.d.fact 79 (f := .free "str") rfl), He.free_ok X G (c.d.fact 80 (f := .free "int") rfl), He.free_ok X G (c.d.fact 81 (f := .free "isinstance") rfl)⟩
  have V : Gv mg := ⟨He.int_ok X G (c.d.fact 82 (f := .int "MOST_SIGNS" 60) rfl), He.int_ok X G (c.d.fact 83 (f := .int "MOST_PARTS" 60) rfl), He.int_ok X G (c.d.fact 84 (f := .int "MOST_HEAPS" 6) rfl), He.str_ok X G (c.d.fact 85 (f := .str "FIGURES_texts" "0123456789") rfl), He.str_ok X G (c.d.fact 86 (f := .str "LETTERS" "abcdefghijklmnopqrstuvwxyz") rfl), He.str_ok X G (c.d.fact 87 (f := .str "FIGURES_desk" "0123456789") rfl)⟩
  have eNoRule : Er K mg "NoRule" (He.ga K "NoRule") := er_of (He.glo_ok X G (c.d.fact 64 (f := .glo "NoRule") rfl)) (c.d.fact 96 (f := .exc "NoRule") rfl)
  have eNoPlace : Er K mg "NoPlace" (He.ga K "NoPlace") := er_of (He.glo_ok X G (c.d.fact 65 (f := .glo "NoPlace") rfl)) (c.d.fact 97 (f := .exc "NoPlace") rfl)
  have eNotSoMany : Er K mg "NotSoMany" (He.ga K "NotSoMany") := er_of (He.glo_ok X G (c.d.fact 66 (f := .glo "NotSoMany") rfl)) (c.d.fact 98 (f := .exc "NotSoMany") rfl)
  have eNothingLeft : Er K mg "NothingLeft" (He.ga K "NothingLeft") := er_of (He.glo_ok X G (c.d.fact 67 (f := .glo "NothingLeft") rfl)) (c.d.fact 99 (f := .exc "NothingLeft") rfl)
  obtain ⟨fdN, FN⟩ := c.d.def_ 64 (d := dM "NoName" "__init__" "NoName.__init__" s_noname_init) rfl
  have N : Nn K mg (He.ga K "NoName") := nn_of (fd0 := 0) ex1 (He.glo_ok X G (c.d.fact 63 (f := .glo "NoName") rfl)) FN
  obtain ⟨fdI, FI⟩ := c.d.def_ 60 (d := dM "Desk" "__init__" "Desk.__init__" s_desk_init) rfl
  obtain ⟨fd0, F0⟩ := c.d.def_ 61 (d := dM "Desk" "tell" "Desk.tell" s_desk_tell) rfl
  have M0 : Md K (He.ga K "Desk") "tell" "Desk.tell" s_desk_tell (He.ma K (He.ga K "Desk") "tell") fd0 := ⟨F0, He.meth_ok (c.d.fact 92 (f := .meth "Desk" "tell") rfl)⟩
  obtain ⟨fd1, F1⟩ := c.d.def_ 62 (d := dM "Desk" "one_back" "Desk.one_back" s_desk_one_back) rfl
  have M1 : Md K (He.ga K "Desk") "one_back" "Desk.one_back" s_desk_one_back (He.ma K (He.ga K "Desk") "one_back") fd1 := ⟨F1, He.meth_ok (c.d.fact 93 (f := .meth "Desk" "one_back") rfl)⟩
  obtain ⟨fd2, F2⟩ := c.d.def_ 63 (d := dM "Desk" "one_on" "Desk.one_on" s_desk_one_on) rfl
  have M2 : Md K (He.ga K "Desk") "one_on" "Desk.one_on" s_desk_one_on (He.ma K (He.ga K "Desk") "one_on") fd2 := ⟨F2, He.meth_ok (c.d.fact 94 (f := .meth "Desk" "one_on") rfl)⟩
  have KC : DkC K mg (He.ga K "Desk") := ⟨He.cls_ok (c.d.fact 88 (f := .cls "Desk") rfl), He.noat_ok (c.d.fact 89 (f := .noat "Desk" "held") rfl), He.noat_ok (c.d.fact 90 (f := .noat "Desk" "past") rfl), He.noat_ok (c.d.fact 91 (f := .noat "Desk" "ahead") rfl), ⟨_, fdI, FI, He.mkr_ok (c.d.fact 95 (f := .mkr "Desk") rfl)⟩, ⟨_, fd0, M0⟩, ⟨_, fd1, M1⟩, ⟨_, fd2, M2⟩, He.glo_ok X G (c.d.fact 60 (f := .glo "Desk") rfl)⟩
  have TD : Tb K w mg "DEEDS" (He.ga K "DEEDS") deedL notDeed := ⟨He.glo_ok X G (c.d.fact 61 (f := .glo "DEEDS") rfl), c.tab 0 rfl, ent_of (x := "") ex2 (fun e he => by
    simp only [List.mem_cons, List.not_mem_nil, or_false] at he
    rcases he with rfl | rfl | rfl | rfl | rfl
    · exact He.glo_ok X G (c.d.fact 26 (f := .glo "rule_line") rfl)
    · exact He.glo_ok X G (c.d.fact 27 (f := .glo "add_line") rfl)
    · exact He.glo_ok X G (c.d.fact 28 (f := .glo "take_line") rfl)
    · exact He.glo_ok X G (c.d.fact 29 (f := .glo "copy_line") rfl)
    · exact He.glo_ok X G (c.d.fact 30 (f := .glo "drop_line") rfl)), out_of ex3⟩
  have TA : Tb K w mg "ASKS" (He.ga K "ASKS") askL notAsk := ⟨He.glo_ok X G (c.d.fact 62 (f := .glo "ASKS") rfl), c.tab 1 rfl, ent_of (x := "") ex4 (fun e he => by
    simp only [List.mem_cons, List.not_mem_nil, or_false] at he
    rcases he with rfl | rfl | rfl | rfl
    · exact He.glo_ok X G (c.d.fact 31 (f := .glo "names_line") rfl)
    · exact He.glo_ok X G (c.d.fact 32 (f := .glo "show_line") rfl)
    · exact He.glo_ok X G (c.d.fact 33 (f := .glo "keeps_line") rfl)
    · exact He.glo_ok X G (c.d.fact 34 (f := .glo "match_line") rfl)), out_of ex5⟩
  have xm : Xm K ⟨He.ga K "NoName", He.ga K "NoRule", He.ga K "NoPlace", He.ga K "NotSoMany", He.ga K "NothingLeft"⟩ := ⟨He.exm_ok (c.d.fact 100 (f := .exm "NoName" "NoName" true) rfl),
    He.exm_ok (c.d.fact 101 (f := .exm "NoRule" "NoName" false) rfl),
    He.exm_ok (c.d.fact 102 (f := .exm "NoRule" "NoRule" true) rfl),
    He.exm_ok (c.d.fact 103 (f := .exm "NoPlace" "NoName" false) rfl),
    He.exm_ok (c.d.fact 104 (f := .exm "NoPlace" "NoRule" false) rfl),
    He.exm_ok (c.d.fact 105 (f := .exm "NoPlace" "NoPlace" true) rfl),
    He.exm_ok (c.d.fact 106 (f := .exm "NotSoMany" "NoName" false) rfl),
    He.exm_ok (c.d.fact 107 (f := .exm "NotSoMany" "NoRule" false) rfl),
    He.exm_ok (c.d.fact 108 (f := .exm "NotSoMany" "NoPlace" false) rfl),
    He.exm_ok (c.d.fact 109 (f := .exm "NotSoMany" "NotSoMany" true) rfl),
    He.exm_ok (c.d.fact 110 (f := .exm "NothingLeft" "NoName" false) rfl),
    He.exm_ok (c.d.fact 111 (f := .exm "NothingLeft" "NoRule" false) rfl),
    He.exm_ok (c.d.fact 112 (f := .exm "NothingLeft" "NoPlace" false) rfl),
    He.exm_ok (c.d.fact 113 (f := .exm "NothingLeft" "NotSoMany" false) rfl),
    He.exm_ok (c.d.fact 114 (f := .exm "NothingLeft" "NothingLeft" true) rfl)⟩
  obtain ⟨fdL, FL⟩ := c.d.def_ 59 (d := dF "law" s_law) rfl
  have eL := hfa.symm.trans (He.glo_ok X G (c.d.fact 59 (f := .glo "law") rfl))
  cases eL
  have bL := FunD.bindsA (ps := ["_law_script"]) FL fun _ _ _ _ _ _ us hl => match us, hl with | [_], _ => rfl
  refine ⟨fdL, fun s v => bL s [v] rfl, fun base _ _ => ?_⟩
  have kLies : Cl P w K mg base CX0 1 "lies_in" spLies := ok_lies_in B (df_of X G c 1 (x := "lies_in") (st := s_lies_in) rfl rfl)
  have kAll : Cl P w K mg base CX0 2 "all_in" spAllIn := ok_all_in B (df_of X G c 9 (x := "all_in") (st := s_all_in) rfl rfl) kLies
  have kFirst : Cl P w K mg base CX0 3 "first_in" spFirstIn := ok_first_in (df_of X G c 10 (x := "first_in") (st := s_first_in) rfl rfl) kAll
  have kUnl : Cl P w K mg base CX0 1 "unlike_parts" spUnlikeParts := ok_unlike_parts B (df_of X G c 2 (x := "unlike_parts") (st := s_unlike_parts) rfl rfl)
  have kJ : Cl P w K mg base CX0 2 "joined" spJoined := ok_joined B (df_of X G c 3 (x := "joined") (st := s_joined) rfl rfl) kUnl
  have kSum : Cl P w K mg base CX0 1 "sum_of" (spSumOf K) := ok_sum_of B (df_of X G c 0 (x := "sum_of") (st := s_sum_of) rfl rfl)
  have kCh : Cl P w K mg base CX0 1 "chosen" spChosen := ok_chosen B (df_of X G c 4 (x := "chosen") (st := s_chosen) rfl rfl)
  have kCo : Cl P w K mg base CX0 2 "choices_of" spChoicesOf := ok_choices_of B (df_of X G c 5 (x := "choices_of") (st := s_choices_of) rfl rfl) kCh
  have kJo : Cl P w K mg base CX0 3 "joined_of" spJoinedOf := ok_joined_of (df_of X G c 6 (x := "joined_of") (st := s_joined_of) rfl rfl) kJ
  have kSo : Cl P w K mg base CX0 4 "sums_of" spSumsOf := ok_sums_of (df_of X G c 7 (x := "sums_of") (st := s_sums_of) rfl rfl) kCo kJo kSum
  have kFu : Cl P w K mg base (L2.CX P w) 5 "first_unlike" (spFirstUnlike (He.ga K "NotSoMany")) := ok_first_unlike B (df_of X G c 8 (x := "first_unlike") (st := s_first_unlike) rfl rfl) eNotSoMany kSo
  have kHt : Cl P w K mg base CX0 1 "heap_text" spHeapText := ok_heap_text B (df_of X G c 11 (x := "heap_text") (st := s_heap_text) rfl rfl)
  have kRt : Cl P w K mg base CX0 2 "rule_text" spRuleText := ok_rule_text (df_of X G c 12 (x := "rule_text") (st := s_rule_text) rfl rfl) kHt
  have kRp : Cl P w K mg base CX0 1 "read_part" spReadPart := ok_read_part B V (df_of X G c 13 (x := "read_part") (st := s_read_part) rfl rfl)
  have kRh : Cl P w K mg base CX0 2 "read_heap" spReadHeap := ok_read_heap B V (df_of X G c 14 (x := "read_heap") (st := s_read_heap) rfl rfl) kRp
  have kRr : Cl P w K mg base CX0 3 "read_rule" spReadRule := ok_read_rule B V (df_of X G c 15 (x := "read_rule") (st := s_read_rule) rfl rfl) kRh
  have kLw : Cl P w K mg base CX0 1 "line_words" spLineWords := ok_line_words (df_of X G c 16 (x := "line_words") (st := s_line_words) rfl rfl)
  have kHm : Cl P w K mg base CX0 1 "hold_many" spHoldMany := ok_hold_many B (df_of X G c 17 (x := "hold_many") (st := s_hold_many) rfl rfl)
  have kRn : Cl P w K mg base CX0 1 "read_name" spReadName := ok_read_name B V (df_of X G c 18 (x := "read_name") (st := s_read_name) rfl rfl)
  have kFw : Cl P w K mg base CX0 2 "first_word" spFirstWord := ok_first_word (df_of X G c 19 (x := "first_word") (st := s_first_word) rfl rfl) kRn
  have kTw : Cl P w K mg base CX0 2 "two_words" spTwoWords := ok_two_words B (df_of X G c 20 (x := "two_words") (st := s_two_words) rfl rfl) kRn
  have kRi : Cl P w K mg base CX0 1 "read_number" spReadNumber := ok_read_number B V (df_of X G c 21 (x := "read_number") (st := s_read_number) rfl rfl)
  have kReh : Cl P w K mg base CX0 3 "rest_heap" spRestHeap := ok_rest_heap (df_of X G c 22 (x := "rest_heap") (st := s_rest_heap) rfl rfl) kRh
  have kRer : Cl P w K mg base CX0 4 "rest_rule" spRestRule := ok_rest_rule (df_of X G c 23 (x := "rest_rule") (st := s_rest_rule) rfl rfl) kRr
  have kRa : Cl P w K mg base (L2.CX P w) 3 "rule_at" (spRuleAt (He.ga K "NoName")) := ok_rule_at N (df_of X G c 24 (x := "rule_at") (st := s_rule_at) rfl rfl)
  have kNt : Cl P w K mg base CX0 1 "names_text" spNamesText := ok_names_text B (df_of X G c 25 (x := "names_text") (st := s_names_text) rfl rfl)
  have lines : Lines P w K mg base ⟨He.ga K "NoName", He.ga K "NoRule", He.ga K "NoPlace", He.ga K "NotSoMany", He.ga K "NothingLeft"⟩ := ⟨ok_rule_line (df_of X G c 26 (x := "rule_line") (st := s_rule_line) rfl rfl) kFw kRer kRt, ok_add_line B (df_of X G c 27 (x := "add_line") (st := s_add_line) rfl rfl) eNoRule kFw kReh kRa kRt, ok_take_line B (df_of X G c 28 (x := "take_line") (st := s_take_line) rfl rfl) eNoPlace kHm kRn kRi kRa kRt,
    ok_copy_line (df_of X G c 29 (x := "copy_line") (st := s_copy_line) rfl rfl) kHm kTw kRa kRt, ok_drop_line (df_of X G c 30 (x := "drop_line") (st := s_drop_line) rfl rfl) kHm kRn kRa kNt, ok_names_line (df_of X G c 31 (x := "names_line") (st := s_names_line) rfl rfl) kHm kNt, ok_show_line (df_of X G c 32 (x := "show_line") (st := s_show_line) rfl rfl) kHm kRn kRa kRt, ok_keeps_line (df_of X G c 33 (x := "keeps_line") (st := s_keeps_line) rfl rfl) kFw kReh kRa kFirst, ok_match_line B (df_of X G c 34 (x := "match_line") (st := s_match_line) rfl rfl) kHm kTw kRa kFu⟩
  have kTell : FnOk P w K mg base (L2.CX P w) 8 (He.ma K (He.ga K "Desk") "tell") fd0 ["self", "line"] (spTell ⟨He.ga K "NoName", He.ga K "NoRule", He.ga K "NoPlace", He.ga K "NotSoMany", He.ga K "NothingLeft"⟩ (He.ga K "Desk")) := ok_tell (e := ⟨He.ga K "NoName", He.ga K "NoRule", He.ga K "NoPlace", He.ga K "NotSoMany", He.ga K "NothingLeft"⟩) B KC eNothingLeft TD TA lines kLw kHm kNt M0
  have lMix : Cl P w K mg base CX0 1 "_law_mix" spMix := ok_law_mix B (df_of X G c 37 (x := "_law_mix") (st := s_law_mix) rfl rfl)
  have lDraw : Cl P w K mg base CX0 2 "_law_draw" spDraw := ok_law_draw (df_of X G c 36 (x := "_law_draw") (st := s_law_draw) rfl rfl) lMix
  have lStart : Cl P w K mg base CX0 1 "_law_start" (spStart K) := ok_law_start (df_of X G c 35 (x := "_law_start") (st := s_law_start) rfl rfl)
  have lHeap : Cl P w K mg base CX0 3 "_law_heap" spLawHeap := ok_law_heap B (df_of X G c 38 (x := "_law_heap") (st := s_law_heap) rfl rfl) lDraw
  have lRaw : Cl P w K mg base CX0 4 "_law_raw_rule" spRawRule := ok_law_raw_rule B (df_of X G c 43 (x := "_law_raw_rule") (st := s_law_raw_rule) rfl rfl) lHeap
  have lName : Cl P w K mg base CX0 3 "_law_name" spLawName := ok_law_name B (df_of X G c 44 (x := "_law_name") (st := s_law_name) rfl rfl) lDraw
  have lHt : Cl P w K mg base CX0 1 "_law_heap_text" spHeapText := ok_law_heap_text B (df_of X G c 45 (x := "_law_heap_text") (st := s_law_heap_text) rfl rfl)
  have lRt : Cl P w K mg base CX0 2 "_law_rule_text" spRuleText := ok_law_rule_text (df_of X G c 46 (x := "_law_rule_text") (st := s_law_rule_text) rfl rfl) lHt
  have lNt : Cl P w K mg base CX0 1 "_law_names_text" spNamesText := ok_law_names_text B (df_of X G c 47 (x := "_law_names_text") (st := s_law_names_text) rfl rfl)
  have lLies : Cl P w K mg base CX0 1 "_law_lies" spLies := ok_law_lies B (df_of X G c 39 (x := "_law_lies") (st := s_law_lies) rfl rfl)
  have lJ : Cl P w K mg base CX0 1 "_law_joined" spLawJoined := ok_law_joined B (df_of X G c 40 (x := "_law_joined") (st := s_law_joined) rfl rfl)
  have lFirst : Cl P w K mg base CX0 2 "_law_first" spLawFirst := ok_law_first B (df_of X G c 41 (x := "_law_first") (st := s_law_first) rfl rfl) lLies
  have lCh : Cl P w K mg base CX0 1 "_law_choices" spLawChoices := ok_law_choices B (df_of X G c 42 (x := "_law_choices") (st := s_law_choices) rfl rfl)
  have lSums : Cl P w K mg base CX0 2 "_law_sums" spLawSums := ok_law_sums B (df_of X G c 48 (x := "_law_sums") (st := s_law_sums) rfl rfl) lCh lJ
  have lUnl : Cl P w K mg base CX0 3 "_law_unlike" spLawUnlike := ok_law_unlike B (df_of X G c 49 (x := "_law_unlike") (st := s_law_unlike) rfl rfl) lCh lSums
  have lPlan : Cl P w K mg base CX0 5 "_law_plan" spLawPlan := ok_law_plan (df_of X G c 50 (x := "_law_plan") (st := s_law_plan) rfl rfl) lDraw lHeap lRaw
  have lPl : Cl P w K mg base CX0 3 "_law_plan_line" spPlanLine := ok_law_plan_line B (df_of X G c 51 (x := "_law_plan_line") (st := s_law_plan_line) rfl rfl) lRt lHt
  have lNext : Cl P w K mg base CX0 3 "_law_next" spNext := ok_law_next B (df_of X G c 52 (x := "_law_next") (st := s_law_next) rfl rfl) lNt lRt
  have lAns : Cl P w K mg base CX0 9 "_law_answer" (spAnswer (He.ga K "Desk")) := ok_law_answer (e := ⟨He.ga K "NoName", He.ga K "NoRule", He.ga K "NoPlace", He.ga K "NotSoMany", He.ga K "NothingLeft"⟩) N eNoRule eNoPlace eNotSoMany eNothingLeft xm (df_of X G c 53 (x := "_law_answer") (st := s_law_answer) rfl rfl) KC M0 kTell
  have lRight : Cl P w K mg base CX0 10 "_law_right" (spRight (He.ga K "Desk")) := ok_law_right B (of_decide_eq_true ex6) (df_of X G c 54 (x := "_law_right") (st := s_law_right) rfl rfl) lAns
  have lMd : Cl P w K mg base CX0 4 "_law_match_due" spMatchDue := ok_law_match_due B (df_of X G c 55 (x := "_law_match_due") (st := s_law_match_due) rfl rfl) lUnl
  have lAsks : Cl P w K mg base CX0 11 "_law_asks" (spAsks (He.ga K "Desk")) := ok_law_asks B (df_of X G c 56 (x := "_law_asks") (st := s_law_asks) rfl rfl) lDraw lHeap lNt lMd lRt lHt lFirst lRight
  have lMoved : Cl P w K mg base CX0 11 "_law_moved" (spMoved (He.ga K "Desk")) := ok_law_moved B (df_of X G c 57 (x := "_law_moved") (st := s_law_moved) rfl rfl) lRight lNt
  have lEnd : Cl P w K mg base CX0 12 "_law_end" (spEnd (He.ga K "Desk")) := ok_law_end B (df_of X G c 58 (x := "_law_end") (st := s_law_end) rfl rfl) lRight lRt lMoved
  exact ok_law B KC FL lStart lName lDraw lPlan lPl lNext lRight lMoved lAsks lEnd
end
end Kd
open PySem PySem.W PySem.Calls PyProof.Rows
theorem PySem.Challenge.cw_shutpairs_k50_whole_desk_holds : PySem.Challenge.rw_shutpairs_k50_whole_desk.Holds := by
  w_on; o_law
  refine HandSHeadRun.head_any (r := OpenLaw.row PySem.Challenge.rw_shutpairs_k50_whole_desk) (q := view (OpenLaw.row PySem.Challenge.rw_shutpairs_k50_whole_desk).prog [123]) (H := Kd.hkL) (ob := Kd.obL) (M := 7000) (loose := Kd.names) (d := HandSHeadRun.topDef (OpenLaw.row PySem.Challenge.rw_shutpairs_k50_whole_desk).prog 123) (kwd := []) Kd.ob_eqL
    (by kernel_rfl) (fun s => by kernel_rfl) Kd.runL (by kernel_rfl) (by kernel_rfl) (by kernel_rfl) (by rfl) (by first | assumption | decide +kernel) (by decide +kernel) ⟨rfl, rfl, rfl, rfl, rfl, by decide +kernel⟩ ?hw ?hc
  case hw => w_witness2
  case hc =>
    refine L2.walk_ofE (l := PySem.Challenge.rw_shutpairs_k50_whole_desk) (n := 63) (k := 13) (x := "_law_script") (CX := L2.CX0) rfl (by decide) (by kernel_rfl) ⟨rfl, by decide, by decide⟩ ?F (fun _ _ _ _ z => z)
    intro w mg fa h Y G hmg0
    obtain ⟨K, KX, c, ex⟩ := Y
    have hmg : mg ("law" : PySem.Str) = some (.ref fa) := by
      have e : (HandSHeadRun.topDef (OpenLaw.row PySem.Challenge.rw_shutpairs_k50_whole_desk).prog 123).name = ("law" : PySem.Str) := by kernel_rfl
      rw [← e]
      exact hmg0
    obtain ⟨fd, hb, hF⟩ := Kd.all_facts (P := (PySem.Challenge.rw_shutpairs_k50_whole_desk).prog) (w := w) KX G hmg c ex
    exact ⟨K, fd, Kd.spLaw K, KX, hb, fun H a ns hl _ hS => ⟨a, ns, rfl, hS, hl, fun _ => rfl⟩, hF⟩
