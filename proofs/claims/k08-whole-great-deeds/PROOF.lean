import PyProof.Rows.All
import Wide.All
import OpenK.AllK
import Wide.FinOn
import HandS.ForMost
import HandS.ForExc
import HandS.Defaults
import PySem.Challenge.RW_plugproof_k08_whole_great_deeds
import HandS.IsInst
import HandS.Conv
import HandS.More
import HandS.TupMul
import HandS.TupAny
import HandS.Star
import HandS.Walk
import KE.DataMinMax
import KE.SortData
import PyProof.Claim2Refuses
import HandS.Iter
import KE.GoesEnum
import HandS.WordsDict
import HandS.SortInts
import HandS.DictComp
import HandS.SetFor
import HandS.Strs
import HandS.ExcSuper
import HandS.ExcField
import KE.KExcInit
import KE.KExcSuper
import KE.KDictSum
import KE.KEqDict
import HandS.HotCalls
import KE.KExcLine
import KE.RegKSuper
set_option autoImplicit false
namespace PG
/-! ## The mirror: disks -/
abbrev Pl := List Int
abbrev DM := Int → Option Pl
abbrev Grp := Int × Int × List (Int × Pl)

inductive Ev where
  | wr (p : Int) (v : Pl)
  | bar

structure Dk where
  settled : List Pl
  loose : List (Int × Pl)

def gp (s : List Pl) (p : Int) : Pl := s.getD p.toNat []
def spl (s : List Pl) (e : Int × Pl) : List Pl := s.set e.1.toNat e.2
def flushL (s : List Pl) (l : List (Int × Pl)) : List Pl := l.foldl spl s
def Dk.step (d : Dk) : Ev → Dk
  | .wr p v => ⟨d.settled, d.loose ++ [(p, v)]⟩
  | .bar => ⟨flushL d.settled d.loose, []⟩
def Dk.run (d : Dk) (t : List Ev) : Dk := t.foldl Dk.step d
def sett (d : Dk) : List Pl := flushL d.settled d.loose
def ap (s : List Pl) : Ev → List Pl
  | .wr p v => spl s (p, v)
  | .bar => s
def apAll (s : List Pl) (t : List Ev) : List Pl := t.foldl ap s

theorem len_spl (s : List Pl) (e : Int × Pl) : (spl s e).length = s.length := by simp [spl]
theorem len_flushL : ∀ (l : List (Int × Pl)) (s : List Pl), (flushL s l).length = s.length
  | [], s => rfl
  | e :: l, s => by
    show (flushL (spl s e) l).length = s.length
    rw [len_flushL l, len_spl]
theorem flushL_append (s : List Pl) (l r : List (Int × Pl)) : flushL s (l ++ r) = flushL (flushL s l) r := by
  simp [flushL, List.foldl_append]
theorem sett_step (d : Dk) (e : Ev) : sett (d.step e) = ap (sett d) e := by
  cases e with
  | wr p v => simp [sett, Dk.step, ap, flushL]
  | bar => simp [sett, Dk.step, ap, flushL]
theorem sett_run : ∀ (t : List Ev) (d : Dk), sett (d.run t) = apAll (sett d) t
  | [], d => rfl
  | e :: t, d => by
    show sett ((d.step e).run t) = apAll (ap (sett d) e) t
    rw [sett_run t, sett_step]
theorem run_append (d : Dk) (t u : List Ev) : d.run (t ++ u) = (d.run t).run u := by simp [Dk.run, List.foldl_append]
theorem apAll_append (s : List Pl) (t u : List Ev) : apAll s (t ++ u) = apAll (apAll s t) u := by simp [apAll, List.foldl_append]
theorem len_ap (s : List Pl) (e : Ev) : (ap s e).length = s.length := by cases e <;> simp [ap, spl]
theorem len_apAll : ∀ (t : List Ev) (s : List Pl), (apAll s t).length = s.length
  | [], s => rfl
  | e :: t, s => by
    show (apAll (ap s e) t).length = s.length
    rw [len_apAll t, len_ap]
theorem len_settled_step (d : Dk) (e : Ev) : (d.step e).settled.length = d.settled.length := by
  cases e <;> simp [Dk.step, len_flushL]
theorem len_settled_run : ∀ (t : List Ev) (d : Dk), (d.run t).settled.length = d.settled.length
  | [], d => rfl
  | e :: t, d => by
    show ((d.step e).run t).settled.length = _
    rw [len_settled_run t, len_settled_step]

theorem gp_spl_same {s : List Pl} {p : Int} {v : Pl} (h0 : 0 ≤ p) (h : p < s.length) : gp (spl s (p, v)) p = v := by
  have h2 : p.toNat < s.length := by omega
  simp [gp, spl, List.getD_eq_getElem?_getD, List.getElem?_set_self h2]
theorem gp_spl_ne {s : List Pl} {p q : Int} {v : Pl} (h0 : 0 ≤ p) (h1 : 0 ≤ q) (h : p ≠ q) : gp (spl s (p, v)) q = gp s q := by
  have h2 : p.toNat ≠ q.toNat := by omega
  simp [gp, spl, List.getD_eq_getElem?_getD, List.getElem?_set_ne h2]
theorem gp_flushL_ne : ∀ {l : List (Int × Pl)} {s : List Pl} {q : Int}, 0 ≤ q → (∀ e ∈ l, 0 ≤ e.1 ∧ e.1 ≠ q) → gp (flushL s l) q = gp s q
  | [], _, _, _, _ => rfl
  | e :: l, s, q, hq, h => by
    show gp (flushL (spl s e) l) q = gp s q
    rw [gp_flushL_ne hq (fun x hx => h x (List.mem_cons_of_mem _ hx))]
    have := h e (List.mem_cons_self)
    exact gp_spl_ne this.1 hq this.2
/-- what stands at a plate behind a row of writes: the last one there -/
theorem gp_flushL : ∀ {l : List (Int × Pl)} {s : List Pl} {q : Int}, 0 ≤ q → q < s.length → (∀ e ∈ l, 0 ≤ e.1) →
    gp (flushL s l) q = (((l.filter fun e => decide (e.1 = q)).getLast?).map (·.2)).getD (gp s q)
  | [], _, _, _, _, _ => rfl
  | e :: l, s, q, hq, hl, h => by
    show gp (flushL (spl s e) l) q = _
    have ih := gp_flushL (l := l) (s := spl s e) hq (by rw [len_spl]; exact hl) (fun x hx => h x (List.mem_cons_of_mem _ hx))
    rw [ih]
    have he := h e List.mem_cons_self
    by_cases hc : e.1 = q
    · have hf : (e :: l).filter (fun e => decide (e.1 = q)) = e :: l.filter (fun e => decide (e.1 = q)) := by simp [hc]
      rw [hf]
      have hg : gp (spl s e) q = e.2 := by
        have : spl s e = spl s (q, e.2) := by simp [spl, hc]
        rw [this]; exact gp_spl_same hq hl
      rw [hg]
      cases hr : l.filter (fun e => decide (e.1 = q)) with
      | nil => simp
      | cons a r =>
        obtain ⟨x, hx⟩ : ∃ x, (a :: r).getLast? = some x := ⟨_, List.getLast?_eq_some_getLast (by simp)⟩
        rw [List.getLast?_cons_cons, hx]
        rfl
    · have hf : (e :: l).filter (fun e => decide (e.1 = q)) = l.filter (fun e => decide (e.1 = q)) := by simp [hc]
      rw [hf]
      have hg : gp (spl s e) q = gp s q := gp_spl_ne (v := e.2) he hq hc
      rw [hg]
theorem list_ext_gp {s s' : List Pl} (hl : s.length = s'.length) (h : ∀ q : Int, 0 ≤ q → q < s.length → gp s q = gp s' q) : s = s' := by
  apply List.ext_getElem hl
  intro i h1 h2
  have := h (i : Int) (by omega) (by omega)
  simpa [gp, List.getD_eq_getElem?_getD, h1, h2] using this

/-! ## The last barrier, the loose writes, a choice, a fall -/
def isBar (t : List Ev) (i : Nat) : Bool := match t[i]? with
  | some .bar => true
  | _ => false
def lastBar (t : List Ev) : Nat → Nat
  | 0 => 0
  | m + 1 => if isBar t m then m + 1 else lastBar t m
def plt (t : List Ev) (i : Nat) : Int := match t[i]? with
  | some (.wr p _) => p
  | _ => 0
def cntW (t : List Ev) (lb : Nat) : Nat → Int → Nat
  | 0, _ => 0
  | n + 1, p => cntW t lb n p + if plt t (lb + n) = p then 1 else 0
def looseW (t : List Ev) (lb n : Nat) : List (Nat × Int × Nat) := (List.range n).map fun i => (lb + i, plt t (lb + i), cntW t lb (i + 1) (plt t (lb + i)))
theorem looseW_succ (t : List Ev) (lb n : Nat) : looseW t lb (n + 1) = looseW t lb n ++ [(lb + n, plt t (lb + n), cntW t lb (n + 1) (plt t (lb + n)))] := by
  simp [looseW, List.range_succ]

theorem lastBar_le (t : List Ev) : ∀ m, lastBar t m ≤ m
  | 0 => Nat.le_refl _
  | m + 1 => by
    unfold lastBar
    split
    · exact Nat.le_refl _
    · exact Nat.le_succ_of_le (lastBar_le t m)
theorem lastBar_no (t : List Ev) : ∀ m i, lastBar t m ≤ i → i < m → isBar t i = false
  | 0, i, _, h => absurd h (Nat.not_lt_zero _)
  | m + 1, i, h1, h2 => by
    unfold lastBar at h1
    split at h1
    · omega
    · rename_i hb
      by_cases e : i = m
      · subst e; simpa using hb
      · exact lastBar_no t m i h1 (by omega)
theorem lastBar_is (t : List Ev) : ∀ m, lastBar t m = 0 ∨ isBar t (lastBar t m - 1) = true
  | 0 => .inl rfl
  | m + 1 => by
    unfold lastBar
    split
    · rename_i hb; exact .inr (by simpa using hb)
    · exact lastBar_is t m
/-- the writes among some events, as pairs -/
def wrs : List Ev → List (Int × Pl)
  | [] => []
  | .wr p v :: t => (p, v) :: wrs t
  | .bar :: t => wrs t
theorem wrs_append : ∀ (t u : List Ev), wrs (t ++ u) = wrs t ++ wrs u
  | [], _ => rfl
  | .wr p v :: t, u => by simp [wrs, wrs_append t u]
  | .bar :: t, u => by simp [wrs, wrs_append t u]
def noBar (t : List Ev) : Prop := ∀ i, i < t.length → isBar t i = false
theorem isBar_cons_succ (e : Ev) (t : List Ev) (i : Nat) : isBar (e :: t) (i + 1) = isBar t i := by simp [isBar]
theorem noBar_tail {e : Ev} {t : List Ev} (h : noBar (e :: t)) : noBar t := fun i hi => by
  have := h (i + 1) (by simp; omega)
  rwa [isBar_cons_succ] at this
theorem run_noBar : ∀ {t : List Ev} {d : Dk}, noBar t → d.run t = ⟨d.settled, d.loose ++ wrs t⟩
  | [], d, _ => by simp [Dk.run, wrs]
  | .wr p v :: t, d, h => by
    show (d.step (.wr p v)).run t = _
    rw [run_noBar (noBar_tail h)]
    simp [Dk.step, wrs]
  | .bar :: t, d, h => by
    have := h 0 (by simp)
    simp [isBar] at this
theorem apAll_wrs : ∀ (t : List Ev) (s : List Pl), apAll s t = flushL s (wrs t)
  | [], _ => rfl
  | .wr p v :: t, s => by
    show apAll (spl s (p, v)) t = flushL (spl s (p, v)) (wrs t)
    exact apAll_wrs t _
  | .bar :: t, s => by
    show apAll s t = flushL s (wrs t)
    exact apAll_wrs t _
theorem getElem?_take_drop (t : List Ev) (a m i : Nat) (h : a + i < m) : ((t.take m).drop a)[i]? = t[a + i]? := by
  rw [List.getElem?_drop, List.getElem?_take]
  simp [h]
theorem noBar_part {t : List Ev} {a m : Nat} (h : ∀ i, a ≤ i → i < m → isBar t i = false) : noBar ((t.take m).drop a) := fun i hi => by
  have hl : ((t.take m).drop a).length ≤ m - a := by simp [List.length_drop, List.length_take]; omega
  have := h (a + i) (by omega) (by omega)
  unfold isBar at this ⊢
  rwa [getElem?_take_drop t a m i (by omega)]
theorem wrs_noBar_length : ∀ {t : List Ev}, noBar t → (wrs t).length = t.length
  | [], _ => rfl
  | .wr p v :: t, h => by simp [wrs, wrs_noBar_length (noBar_tail h)]
  | .bar :: t, h => by
    have := h 0 (by simp)
    simp [isBar] at this
theorem run_settled_bar {d : Dk} (hd : d.loose = []) {t : List Ev} {m : Nat} (hm : m ≤ t.length) (h : m = 0 ∨ isBar t (m - 1) = true) :
    d.run (t.take m) = ⟨apAll d.settled (t.take m), []⟩ := by
  have hs : sett (d.run (t.take m)) = apAll d.settled (t.take m) := by
    rw [sett_run]
    simp [sett, hd, flushL]
  have hl : (d.run (t.take m)).loose = [] := by
    rcases h with h | h
    · subst h; simp [Dk.run, hd]
    · cases m with
      | zero => simp [Dk.run, hd]
      | succ k =>
        have hk : k < t.length := by omega
        have e1 : t.take (k + 1) = t.take k ++ [t[k]] := by rw [List.take_succ_eq_append_getElem hk]
        have e2 : t[k] = .bar := by
          simp [isBar, List.getElem?_eq_getElem hk] at h
          split at h
          · rename_i q; simpa using q
          · cases h
        rw [e1, e2, run_append]
        rfl
  unfold sett at hs
  rw [hl] at hs
  cases hr : d.run (t.take m) with
  | mk a b =>
    rw [hr] at hs hl
    simp only at hl
    subst hl
    simp [flushL] at hs
    simp [hs]
/-- the disk behind m events: what is settled, and what is loose -/
theorem run_at {d : Dk} (hd : d.loose = []) {t : List Ev} {m : Nat} (hm : m ≤ t.length) :
    d.run (t.take m) = ⟨apAll d.settled (t.take (lastBar t m)), wrs ((t.take m).drop (lastBar t m))⟩ := by
  have hle := lastBar_le t m
  have e : t.take m = t.take (lastBar t m) ++ (t.take m).drop (lastBar t m) := by
    have := (List.take_append_drop (lastBar t m) (t.take m)).symm
    rw [List.take_take, Nat.min_eq_left hle] at this
    exact this
  rw [e, run_append, run_settled_bar hd (Nat.le_trans hle hm) (lastBar_is t m), run_noBar, ← e]
  · simp
  · exact noBar_part (lastBar_no t m)
theorem cntW_eq (t : List Ev) (lb : Nat) (p : Int) : ∀ n, lb + n ≤ t.length → (∀ i, lb ≤ i → i < lb + n → isBar t i = false) →
    cntW t lb n p = ((wrs ((t.take (lb + n)).drop lb)).filter fun e => decide (e.1 = p)).length
  | 0, _, _ => by simp [cntW, wrs]
  | n + 1, hl, hb => by
    have hn : lb + n < t.length := by omega
    have e : (t.take (lb + (n + 1))).drop lb = (t.take (lb + n)).drop lb ++ [t[lb + n]] := by
      have : t.take (lb + (n + 1)) = t.take (lb + n) ++ [t[lb + n]] := by
        rw [← Nat.add_assoc, List.take_succ_eq_append_getElem hn]
      rw [this, List.drop_append_of_le_length (by simp; omega)]
    have ih := cntW_eq t lb p n (by omega) (fun i h1 h2 => hb i h1 (by omega))
    have hnb := hb (lb + n) (by omega) (by omega)
    unfold cntW
    rw [e, wrs_append, List.filter_append, List.length_append, ← ih]
    cases hx : t[lb + n] with
    | wr q v =>
      have : plt t (lb + n) = q := by simp [plt, List.getElem?_eq_getElem hn, hx]
      rw [this]
      by_cases hq : q = p <;> simp [wrs, hq]
    | bar => simp [isBar, List.getElem?_eq_getElem hn, hx] at hnb
/-- the version of a plate with a number -/
def chosenV (d : Dk) (p : Int) (c : Nat) : Pl := (gp d.settled p :: (d.loose.filter fun e => decide (e.1 = p)).map (·.2)).getD c []
theorem last_of_part {K L : List (Int × Pl)} {x : Pl} (hc : K ≠ []) : (x :: (K ++ L).map (·.2)).getD K.length [] = ((K.getLast?).map (·.2)).getD x := by
  have hpos : 0 < K.length := List.length_pos_iff.mpr hc
  obtain ⟨k, hk⟩ : ∃ k, K.length = k + 1 := ⟨K.length - 1, by omega⟩
  rw [List.getLast?_eq_getElem?, hk, List.getD_cons_succ]
  simp only [Nat.add_sub_cancel, List.getD_eq_getElem?_getD, List.getElem?_map]
  rw [List.getElem?_append_left (by omega), List.getElem?_eq_getElem (by omega)]
  simp
/-- THE FALL: choosing of each plate the version of its last write ahead of a moment gives what stands then -/
theorem fall_eq {d : Dk} (hd : d.loose = []) {t : List Ev} {m e : Nat} (hm : m ≤ t.length) (he1 : lastBar t m ≤ e) (he2 : e ≤ m) (hw : ∀ x ∈ wrs t, 0 ≤ x.1) {s' : List Pl}
    (hl : s'.length = d.settled.length) (h : ∀ q : Int, 0 ≤ q → q < d.settled.length → gp s' q =
      if cntW t (lastBar t m) (e - lastBar t m) q = 0 then gp (d.run (t.take m)).settled q else chosenV (d.run (t.take m)) q (cntW t (lastBar t m) (e - lastBar t m) q)) :
    s' = apAll d.settled (t.take e) := by
  have hra := run_at hd hm
  generalize hlb : lastBar t m = lb at *
  have hnb : ∀ i, lb ≤ i → i < m → isBar t i = false := fun i h1 h2 => lastBar_no t m i (by omega) h2
  have eE : t.take e = t.take lb ++ (t.take e).drop lb := by
    have := (List.take_append_drop lb (t.take e)).symm
    rw [List.take_take, Nat.min_eq_left he1] at this
    exact this
  have eM : (t.take m).drop lb = (t.take e).drop lb ++ (t.take m).drop e := by
    have h1 : t.take m = t.take e ++ (t.take m).drop e := by
      have := (List.take_append_drop e (t.take m)).symm
      rw [List.take_take, Nat.min_eq_left he2] at this
      exact this
    have hle : lb ≤ (t.take e).length := by simp; omega
    have : (t.take m).drop lb = (t.take e ++ (t.take m).drop e).drop lb := by rw [← h1]
    rw [this, List.drop_append_of_le_length hle]
  apply list_ext_gp
  · rw [hl, len_apAll]
  · intro q q0 q1
    rw [hl] at q1
    rw [h q q0 q1, hra]
    have hlen : (apAll d.settled (t.take lb)).length = d.settled.length := len_apAll _ _
    have hK : ∀ x ∈ wrs ((t.take e).drop lb), 0 ≤ x.1 := fun x hx => by
      apply hw
      have : t = t.take lb ++ (t.take e).drop lb ++ t.drop e := by rw [← eE, List.take_append_drop]
      rw [this, wrs_append, wrs_append]
      simp [hx]
    have hc : cntW t lb (e - lb) q = ((wrs ((t.take e).drop lb)).filter fun x => decide (x.1 = q)).length := by
      have := cntW_eq t lb q (e - lb) (by omega) (fun i h1 h2 => hnb i h1 (by omega))
      rwa [show lb + (e - lb) = e by omega] at this
    have hfin : gp (apAll d.settled (t.take e)) q = (((wrs ((t.take e).drop lb)).filter fun x => decide (x.1 = q)).getLast?.map (·.2)).getD (gp (apAll d.settled (t.take lb)) q) := by
      rw [eE, apAll_append, apAll_wrs ((t.take e).drop lb)]
      rw [← eE]
      exact gp_flushL q0 (by rw [hlen]; exact q1) hK
    rw [hfin, hc]
    generalize hKK : (wrs ((t.take e).drop lb)).filter (fun x => decide (x.1 = q)) = K
    split
    · rename_i h0
      have : K = [] := List.length_eq_zero_iff.mp h0
      rw [this]; simp
    · rename_i h0
      have hne : K ≠ [] := fun z => h0 (by rw [z]; rfl)
      unfold chosenV
      simp only
      rw [eM, wrs_append, List.filter_append, hKK]
      exact last_of_part hne
end PG

set_option autoImplicit false
namespace PG
/-! ## Reading: heads, groups, the home -/
def isHead (p : Int) (v : Pl) : Bool := decide (v.length = 3) && (v.all (fun x => decide (0 ≤ x)) && decide (v.getD 0 0 % 2 = p))
def lexL : List Int → List Int → Bool
  | [], [] => false
  | [], _ :: _ => true
  | _ :: _, [] => false
  | x :: xs, y :: ys => if x = y then lexL xs ys else decide (x < y)
/-- the heads that can be read, plate by plate -/
def heads (s : List Pl) : List Pl := ([0, 1] : List Int).filterMap fun p => if isHead p (gp s p) then some (gp s p) else none
def bestHead : List Pl → Pl
  | [] => []
  | [a] => a
  | a :: b :: _ => if lexL a b then b else a
def isLog (v : Pl) : Bool := decide (v.length = 12) && (decide (0 ≤ v.getD 1 0) && decide (v.getD 1 0 < v.getD 2 0) && decide (0 ≤ v.getD 0 0) && decide (0 ≤ v.getD 3 0))
def slotP (slots : Nat) (t : Int) : Int := 2 + t % (slots : Int)
def wgOk (s : List Pl) (slots : Nat) (t g many : Int) (i : Nat) : Bool := isLog (gp s (slotP slots (t + i))) && decide ((gp s (slotP slots (t + i))).take 3 = [g, (i : Int), many])
def wgItem (s : List Pl) (slots : Nat) (t : Int) (i : Nat) : Int × Pl := ((gp s (slotP slots (t + i))).getD 3 0, (gp s (slotP slots (t + i))).drop 4)
def firstOk (s : List Pl) (slots : Nat) (t g : Int) : Bool :=
  isLog (gp s (slotP slots t)) && (decide ((gp s (slotP slots t)).getD 0 0 = g) && (decide ((gp s (slotP slots t)).getD 1 0 = 0) && decide ((gp s (slotP slots t)).getD 2 0 ≤ slots)))
def firstMany (s : List Pl) (slots : Nat) (t : Int) : Int := (gp s (slotP slots t)).getD 2 0
def wholeG (s : List Pl) (slots : Nat) (t g : Int) : Option (List (Int × Pl)) :=
  if firstOk s slots t g && (List.range (firstMany s slots t).toNat).all (wgOk s slots t g (firstMany s slots t)) then
    some ((List.range (firstMany s slots t).toNat).map (wgItem s slots t))
  else none
def readG (s : List Pl) (slots : Nat) : Nat → Int → Int → Nat → List Grp
  | 0, _, _, _ => []
  | n + 1, g, t, used => match wholeG s slots t g with
    | none => []
    | some ch => if used + ch.length ≤ slots then (g, t, ch) :: readG s slots n (g + 1) (t + ch.length) (used + ch.length) else []
def dput (M : DM) (p : Int) (v : Pl) : DM := fun q => if q = p then some v else M q
def dputs (M : DM) (l : List (Int × Pl)) : DM := l.foldl (fun M e => dput M e.1 e.2) M
def noDM : DM := fun _ => none
def mgFrom (M : DM) (gs : List Grp) : DM := gs.foldl (fun M g => dputs M g.2.2) M
def mg (gs : List Grp) : DM := mgFrom noDM gs
def zeros : Pl := List.replicate 8 0
def cellsOr (v : Pl) : Pl := if v.length = 8 then v else zeros
def homeP (slots : Nat) (p : Int) : Int := 2 + (slots : Int) + p
def readHome (s : List Pl) (plates slots : Nat) (gs : List Grp) : DM := fun p =>
  if 0 ≤ p ∧ p < plates then (match mg gs p with
    | some v => some v
    | none => some (cellsOr (gp s (homeP slots p)))) else none
def usedN (gs : List Grp) : Nat := (gs.map fun g => g.2.2.length).sum
def logRow (g : Int) (many : Nat) (i : Nat) (e : Int × Pl) : Pl := [g, (i : Int), (many : Int), e.1] ++ e.2

theorem usedN_append (a b : List Grp) : usedN (a ++ b) = usedN a + usedN b := by simp [usedN]
theorem dputs_append (M : DM) (a b : List (Int × Pl)) : dputs M (a ++ b) = dputs (dputs M a) b := by simp [dputs]
theorem mgFrom_append (M : DM) (a b : List Grp) : mgFrom M (a ++ b) = mgFrom (mgFrom M a) b := by simp [mgFrom]
theorem mg_snoc (gs : List Grp) (g : Grp) : mg (gs ++ [g]) = dputs (mg gs) g.2.2 := by
  unfold mg
  rw [mgFrom_append]
  rfl

/-! ### what stands on a good disk -/
structure RowAt (plates slots : Nat) (s : List Pl) (g t : Int) (many : Nat) (i : Nat) (e : Int × Pl) : Prop where
  row : gp s (slotP slots (t + i)) = logRow g many i e
  eight : e.2.length = 8
  lo : 0 ≤ e.1
  hi : e.1 < plates
def ChainG (plates slots : Nat) (s : List Pl) : Int → Int → List Grp → Prop
  | _, _, [] => True
  | g, t, x :: r => x.1 = g ∧ x.2.1 = t ∧ x.2.2 ≠ [] ∧ (∀ i e, x.2.2[i]? = some e → RowAt plates slots s g t x.2.2.length i e) ∧ ChainG plates slots s (g + 1) (t + x.2.2.length) r
structure Rep (plates slots : Nat) (s : List Pl) (n f t : Int) (gs : List Grp) (base : DM) : Prop where
  len : s.length = 2 + slots + plates
  sl : 0 < slots
  n0 : 0 ≤ n
  f0 : 0 ≤ f
  t0 : 0 ≤ t
  hd : gp s (n % 2) = [n, f, t]
  other : gp s ((n + 1) % 2) = [] ∨ ∃ f' t', gp s ((n + 1) % 2) = [n - 1, f', t']
  chain : ChainG plates slots s f t gs
  used : usedN gs ≤ slots
  top : ∀ i : Int, isLog (gp s (slotP slots i)) = true → (gp s (slotP slots i)).getD 0 0 < f + gs.length
  home : ∀ p : Int, 0 ≤ p → p < plates → ∃ v, base p = some v ∧ gp s (homeP slots p) = v ∧ v.length = 8
  nob : ∀ p : Int, ¬ (0 ≤ p ∧ p < plates) → base p = none
/-- the home that a base and groups make -/
def homeOf (base : DM) (gs : List Grp) : DM := fun p => match mg gs p with
  | some v => some v
  | none => base p

/-! ### heads -/
theorem isHead_triple {n f t p : Int} (h0 : 0 ≤ n) (h1 : 0 ≤ f) (h2 : 0 ≤ t) (h : n % 2 = p) : isHead p [n, f, t] = true := by
  simp [isHead, h0, h1, h2, h]
theorem isHead_nil (p : Int) : isHead p [] = false := by simp [isHead]
theorem heads_eq (s : List Pl) : heads s = (if isHead 0 (gp s 0) then [gp s 0] else []) ++ (if isHead 1 (gp s 1) then [gp s 1] else []) := by
  unfold heads
  cases h0 : isHead 0 (gp s 0) <;> cases h1 : isHead 1 (gp s 1) <;> simp [h0, h1]
theorem Rep.best {plates slots : Nat} {s : List Pl} {n f t : Int} {gs : List Grp} {base : DM} (R : Rep plates slots s n f t gs base) : heads s ≠ [] ∧ bestHead (heads s) = [n, f, t] := by
  have hn := isHead_triple R.n0 R.f0 R.t0 (rfl : n % 2 = n % 2)
  have hd := R.hd
  have ho := R.other
  rw [heads_eq]
  rcases (show n % 2 = 0 ∨ n % 2 = 1 by omega) with h | h
  · have h' : (n + 1) % 2 = 1 := by omega
    rw [h] at hd hn
    rw [h'] at ho
    rw [hd, hn]
    rcases ho with ho | ⟨f', t', ho⟩
    · rw [ho, isHead_nil]; simp [bestHead]
    · rw [ho]
      cases hb : isHead 1 [n - 1, f', t']
      · simp [bestHead]
      · have : lexL [n, f, t] [n - 1, f', t'] = false := by
          simp only [lexL]
          rw [if_neg (by omega)]
          exact decide_eq_false (by omega)
        simp [bestHead, this]
  · have h' : (n + 1) % 2 = 0 := by omega
    rw [h] at hd hn
    rw [h'] at ho
    rw [hd, hn]
    rcases ho with ho | ⟨f', t', ho⟩
    · rw [ho, isHead_nil]; simp [bestHead]
    · rw [ho]
      cases hb : isHead 0 [n - 1, f', t']
      · simp [bestHead]
      · have : lexL [n - 1, f', t'] [n, f, t] = true := by
          simp only [lexL]
          rw [if_neg (by omega)]
          exact decide_eq_true (by omega)
        simp [bestHead, this]

/-! ### groups -/
theorem isLog_row {g : Int} {many i : Nat} {e : Int × Pl} (hg : 0 ≤ g) (hi : i < many) (h8 : e.2.length = 8) (h0 : 0 ≤ e.1) : isLog (logRow g many i e) = true := by
  simp [isLog, logRow, h8, hg, h0]
  omega
theorem wholeG_row {plates slots : Nat} {s : List Pl} {g t : Int} {ch : List (Int × Pl)} (hg : 0 ≤ g) (hne : ch ≠ []) (hu : ch.length ≤ slots) (h : ∀ i e, ch[i]? = some e → RowAt plates slots s g t ch.length i e) :
    wholeG s slots t g = some ch := by
  have hpos : 0 < ch.length := List.length_pos_iff.mpr hne
  have row : ∀ (i : Nat) (hi : i < ch.length), gp s (slotP slots (t + i)) = logRow g ch.length i ch[i] := fun i hi => (h i _ (List.getElem?_eq_getElem hi)).row
  have r0 : gp s (slotP slots t) = logRow g ch.length 0 ch[0] := by
    have := row 0 hpos
    simpa using this
  have hR0 := h 0 _ (List.getElem?_eq_getElem hpos)
  have hmany : firstMany s slots t = ch.length := by
    unfold firstMany
    rw [r0]
    rfl
  have hlog0 : isLog (logRow g ch.length 0 ch[0]) = true := isLog_row hg hpos hR0.eight hR0.lo
  have hfirst : firstOk s slots t g = true := by
    unfold firstOk
    rw [r0, hlog0]
    simp [logRow]
    omega
  unfold wholeG
  rw [hmany, hfirst]
  have hall : (List.range (ch.length : Int).toNat).all (wgOk s slots t g ch.length) = true := by
    rw [List.all_eq_true]
    intro i hi
    have hi' : i < ch.length := by simpa using hi
    have hR := h i _ (List.getElem?_eq_getElem hi')
    unfold wgOk
    rw [row i hi', isLog_row hg hi' hR.eight hR.lo]
    simp [logRow]
  rw [hall]
  simp only [Bool.and_true, if_true]
  congr 1
  apply List.ext_getElem
  · simp
  · intro i h1 h2
    have hR := h i _ (List.getElem?_eq_getElem h2)
    simp only [List.getElem_map, List.getElem_range]
    unfold wgItem
    rw [row i h2]
    simp [logRow]
theorem wholeG_none {s : List Pl} {slots : Nat} {t g : Int} (h : isLog (gp s (slotP slots t)) = true → (gp s (slotP slots t)).getD 0 0 < g) : wholeG s slots t g = none := by
  have : firstOk s slots t g = false := by
    unfold firstOk
    cases hl : isLog (gp s (slotP slots t)) with
    | false => rfl
    | true =>
      have := h hl
      have hne : ¬ (gp s (slotP slots t)).getD 0 0 = g := by omega
      simp only [decide_eq_false hne, Bool.true_and, Bool.false_and]
  unfold wholeG
  rw [this]
  simp
theorem readG_chain {plates slots : Nat} {s : List Pl} : ∀ {gs : List Grp} {g t : Int} {fuel used : Nat}, 0 ≤ g → used + usedN gs ≤ slots → gs.length < fuel → ChainG plates slots s g t gs →
    (∀ i : Int, isLog (gp s (slotP slots i)) = true → (gp s (slotP slots i)).getD 0 0 < g + gs.length) → readG s slots fuel g t used = gs
  | [], g, t, fuel, used, _, _, hf, _, htop => by
    cases fuel with
    | zero => omega
    | succ n =>
      unfold readG
      rw [wholeG_none (fun hl => by have := htop t hl; simpa using this)]
  | x :: r, g, t, fuel, used, hg, hu, hf, hc, htop => by
    obtain ⟨e1, e2, hne, hrow, hr⟩ := hc
    cases fuel with
    | zero => omega
    | succ n =>
      have hsum : usedN (x :: r) = x.2.2.length + usedN r := by simp [usedN]
      unfold readG
      rw [wholeG_row (ch := x.2.2) hg hne (by omega) hrow]
      dsimp only
      rw [if_pos (by omega), readG_chain (g := g + 1) (by omega) (by omega) (by simp at hf; omega) hr (fun i hl => by have := htop i hl; rw [List.length_cons] at this; omega)]
      rw [← e1, ← e2]
theorem usedN_ge {plates slots : Nat} {s : List Pl} : ∀ {gs : List Grp} {g t : Int}, ChainG plates slots s g t gs → gs.length ≤ usedN gs
  | [], _, _, _ => by simp [usedN]
  | x :: r, g, t, h => by
    obtain ⟨_, _, hne, _, hr⟩ := h
    have := usedN_ge hr
    have : 0 < x.2.2.length := List.length_pos_iff.mpr hne
    have : usedN (x :: r) = x.2.2.length + usedN r := by simp [usedN]
    simp
    omega
theorem Rep.groups {plates slots : Nat} {s : List Pl} {n f t : Int} {gs : List Grp} {base : DM} (R : Rep plates slots s n f t gs base) : readG s slots (slots + 1) f t 0 = gs :=
  readG_chain R.f0 (by have := R.used; omega) (by have := usedN_ge R.chain; have := R.used; omega) R.chain R.top

/-! ### the home -/
theorem dputs_some {l : List (Int × Pl)} : ∀ {M : DM} {p : Int} {v : Pl}, dputs M l p = some v → (∃ e ∈ l, e.1 = p ∧ e.2 = v) ∨ M p = some v := by
  induction l with
  | nil => intro M p v h; exact .inr h
  | cons e l ih =>
    intro M p v h
    rcases ih (M := dput M e.1 e.2) h with ⟨x, hx, h1, h2⟩ | h
    · exact .inl ⟨x, List.mem_cons_of_mem _ hx, h1, h2⟩
    · unfold dput at h
      split at h
      · rename_i hp
        exact .inl ⟨e, List.mem_cons_self, hp.symm, Option.some.inj h⟩
      · exact .inr h
theorem mgFrom_some {gs : List Grp} : ∀ {M : DM} {p : Int} {v : Pl}, mgFrom M gs p = some v → (∃ g ∈ gs, ∃ e ∈ g.2.2, e.1 = p ∧ e.2 = v) ∨ M p = some v := by
  induction gs with
  | nil => intro M p v h; exact .inr h
  | cons g gs ih =>
    intro M p v h
    rcases ih (M := dputs M g.2.2) h with ⟨x, hx, h1⟩ | h
    · exact .inl ⟨x, List.mem_cons_of_mem _ hx, h1⟩
    · rcases dputs_some h with h | h
      · exact .inl ⟨g, List.mem_cons_self, h⟩
      · exact .inr h
theorem mg_some {gs : List Grp} {p : Int} {v : Pl} (h : mg gs p = some v) : ∃ g ∈ gs, ∃ e ∈ g.2.2, e.1 = p ∧ e.2 = v := by
  rcases mgFrom_some h with h | h
  · exact h
  · cases h
/-- what the changes of a group may be -/
def ChOk (plates : Nat) (l : List (Int × Pl)) : Prop := ∀ e ∈ l, 0 ≤ e.1 ∧ e.1 < plates ∧ e.2.length = 8
def GsOk (plates : Nat) (gs : List Grp) : Prop := ∀ g ∈ gs, ChOk plates g.2.2
theorem ChainG.ok {plates slots : Nat} {s : List Pl} : ∀ {gs : List Grp} {g t : Int}, ChainG plates slots s g t gs → GsOk plates gs
  | [], _, _, _ => fun g hg => by cases hg
  | x :: r, g, t, h => fun y hy => by
    obtain ⟨_, _, _, hrow, hr⟩ := h
    rcases List.mem_cons.mp hy with e | hy
    · subst e
      intro e he
      obtain ⟨i, hi, rfl⟩ := List.mem_iff_getElem.mp he
      have := hrow i _ (List.getElem?_eq_getElem hi)
      exact ⟨this.lo, this.hi, this.eight⟩
    · exact ChainG.ok hr y hy
theorem mg_ok {plates : Nat} {gs : List Grp} (h : GsOk plates gs) {p : Int} {v : Pl} (e : mg gs p = some v) : 0 ≤ p ∧ p < plates ∧ v.length = 8 := by
  obtain ⟨g, hg, x, hx, rfl, rfl⟩ := mg_some e
  exact h g hg x hx
theorem Rep.reads {plates slots : Nat} {s : List Pl} {n f t : Int} {gs : List Grp} {base : DM} (R : Rep plates slots s n f t gs base) : readHome s plates slots gs = homeOf base gs := by
  funext p
  unfold readHome homeOf
  have hok := R.chain.ok
  cases hm : mg gs p with
  | some v =>
    have := mg_ok hok hm
    rw [if_pos ⟨this.1, this.2.1⟩]
  | none =>
    dsimp only
    split
    · rename_i hp
      obtain ⟨v, h1, h2, h3⟩ := R.home p hp.1 hp.2
      rw [h2, h1]
      simp [cellsOr, h3]
    · rename_i hp
      exact (R.nob p hp).symm
end PG

set_option autoImplicit false
namespace PG
/-! ## The store -/
structure Sto where
  plates : Nat
  slots : Nat
  beg : Dk
  dev : Dk
  trace : List Ev
  hn : Int
  hf : Int
  ht : Int
  groups : List Grp
  cells : DM
  ng : Int
  nt : Int
  run : DM
  rund : Nat
  pushed : List (Nat × Nat × Nat)
  deeds : Nat
  sdeeds : Nat

def Sto.ev (S : Sto) (e : Ev) : Sto := { S with dev := S.dev.step e, trace := S.trace ++ [e] }
def Sto.evs (S : Sto) (l : List Ev) : Sto := l.foldl Sto.ev S
def keysOf (M : DM) (n : Nat) : List Int := ((List.range n).map fun i : Nat => (i : Int)).filter fun p => (M p).isSome
def chg (M : DM) (n : Nat) : List (Int × Pl) := (keysOf M n).map fun p => (p, (M p).getD [])
def homeEvs (slots plates : Nat) (M : DM) : List Ev := (chg M plates).map fun e => .wr (homeP slots e.1) e.2
def logRows (g : Int) (ch : List (Int × Pl)) : List Pl := (List.range ch.length).map fun i => logRow g ch.length i (ch.getD i (0, []))
def rowEvs (slots : Nat) (t : Int) (rows : List Pl) : List Ev := (List.range rows.length).map fun i : Nat => .wr (slotP slots (t + i)) (rows.getD i [])
def settleS (S : Sto) : Sto := { S.ev .bar with sdeeds := S.deeds - S.rund }
def writeHomeS (S : Sto) : Sto := (S.evs (homeEvs S.slots S.plates (mg S.groups))).ev .bar
def turnHeadS (S : Sto) : Sto :=
  { ({ S with hn := S.hn + 1, hf := S.ng, ht := S.nt }.ev (.wr ((S.hn + 1) % 2) [S.hn + 1, S.ng, S.nt])).ev .bar with groups := [] }
def layS (S : Sto) : Sto := if S.groups = [] then S else turnHeadS (writeHomeS (settleS S))
def pushRows (S : Sto) (ch : List (Int × Pl)) : Sto :=
  let S2 := S.evs (rowEvs S.slots S.nt (logRows S.ng ch))
  { S2 with groups := S2.groups ++ [(S.ng, S.nt, ch)], pushed := S2.pushed ++ [(S.trace.length, S2.trace.length, S2.deeds)], ng := S2.ng + 1, nt := S2.nt + ch.length, run := noDM, rund := 0 }
def pushS (S : Sto) : Sto := if S.rund = 0 then S else
  pushRows (if usedN S.groups + (chg S.run S.plates).length > S.slots then layS S else S) (chg S.run S.plates)
def syncS (S : Sto) : Sto := settleS (pushS S)
def addS (S : Sto) (told : List (Int × Pl)) : Sto := { S with run := dputs S.run told, cells := dputs S.cells told, rund := S.rund + 1, deeds := S.deeds + 1 }
def putS (S : Sto) (told : List (Int × Pl)) : Sto := addS (if (keysOf (dputs S.run told) S.plates).length > S.slots then pushS S else S) told

theorem evs_eq : ∀ (l : List Ev) (S : Sto), S.evs l = { S with dev := S.dev.run l, trace := S.trace ++ l }
  | [], S => by simp [Sto.evs, Dk.run]
  | e :: l, S => by
    show (S.ev e).evs l = _
    rw [evs_eq l]
    simp [Sto.ev, Dk.run]

/-! ### maps -/
theorem dputs_none {l : List (Int × Pl)} {M : DM} {p : Int} (h : ∀ e ∈ l, e.1 ≠ p) : dputs M l p = M p := by
  induction l generalizing M with
  | nil => rfl
  | cons e l ih =>
    show dputs (dput M e.1 e.2) l p = M p
    rw [ih (fun x hx => h x (List.mem_cons_of_mem _ hx))]
    unfold dput
    rw [if_neg (fun z => h e List.mem_cons_self z.symm)]
theorem dputs_over (l : List (Int × Pl)) : ∀ (M : DM) (p : Int), dputs M l p = match dputs noDM l p with
    | some v => some v
    | none => M p := by
  have key : ∀ (l : List (Int × Pl)) (M N : DM) (p : Int), (dputs M l p = dputs N l p ∧ (dputs M l p).isSome = true) ∨ (dputs M l p = M p ∧ dputs N l p = N p) := by
    intro l
    induction l with
    | nil => intro M N p; exact .inr ⟨rfl, rfl⟩
    | cons e l ih =>
      intro M N p
      rcases ih (dput M e.1 e.2) (dput N e.1 e.2) p with h | ⟨h1, h2⟩
      · exact .inl h
      · by_cases hp : p = e.1
        · left
          have a : dputs M (e :: l) p = some e.2 := by
            show dputs (dput M e.1 e.2) l p = some e.2
            rw [h1]; simp [dput, hp]
          have b : dputs N (e :: l) p = some e.2 := by
            show dputs (dput N e.1 e.2) l p = some e.2
            rw [h2]; simp [dput, hp]
          rw [a, b]; exact ⟨rfl, rfl⟩
        · right
          have a : dputs M (e :: l) p = M p := by
            show dputs (dput M e.1 e.2) l p = M p
            rw [h1]; simp [dput, hp]
          have b : dputs N (e :: l) p = N p := by
            show dputs (dput N e.1 e.2) l p = N p
            rw [h2]; simp [dput, hp]
          exact ⟨a, b⟩
  intro M p
  rcases key l M noDM p with ⟨h, hs⟩ | ⟨h1, h2⟩
  · rw [← h]
    cases hx : dputs M l p with
    | none => rw [hx] at hs; cases hs
    | some v => rfl
  · rw [h2, h1]; rfl
theorem mem_keysOf {M : DM} {n : Nat} {p : Int} : p ∈ keysOf M n ↔ 0 ≤ p ∧ p < n ∧ (M p).isSome = true := by
  simp only [keysOf, List.mem_filter, List.mem_map, List.mem_range]
  constructor
  · rintro ⟨⟨i, hi, rfl⟩, h⟩
    exact ⟨by omega, by omega, h⟩
  · rintro ⟨h0, h1, h⟩
    exact ⟨⟨p.toNat, by omega, by omega⟩, h⟩
theorem range_asc (n : Nat) : ((List.range n).map fun i : Nat => (i : Int)).Pairwise (· < ·) := by
  rw [List.pairwise_map]
  exact List.pairwise_lt_range.imp (fun {a b} h => by omega)
theorem keysOf_asc (M : DM) (n : Nat) : (keysOf M n).Pairwise (· < ·) := (range_asc n).filter _
theorem keysOf_nodup (M : DM) (n : Nat) : (keysOf M n).Nodup := (keysOf_asc M n).imp (fun {a b} h => by omega)
theorem mem_chg {M : DM} {n : Nat} {e : Int × Pl} : e ∈ chg M n ↔ 0 ≤ e.1 ∧ e.1 < n ∧ M e.1 = some e.2 := by
  simp only [chg, List.mem_map]
  constructor
  · rintro ⟨p, hp, rfl⟩
    obtain ⟨h0, h1, h2⟩ := mem_keysOf.mp hp
    refine ⟨h0, h1, ?_⟩
    dsimp only
    cases h : M p with
    | none => rw [h] at h2; cases h2
    | some v => rfl
  · rintro ⟨h0, h1, h2⟩
    refine ⟨e.1, mem_keysOf.mpr ⟨h0, h1, by rw [h2]; rfl⟩, ?_⟩
    rw [h2]
    rfl
theorem chg_length (M : DM) (n : Nat) : (chg M n).length = (keysOf M n).length := by simp [chg]
theorem dputs_mem {l : List (Int × Pl)} (hn : (l.map (·.1)).Nodup) : ∀ {M : DM} {e : Int × Pl}, e ∈ l → dputs M l e.1 = some e.2 := by
  induction l with
  | nil => intro M e h; cases h
  | cons x l ih =>
    intro M e h
    rw [List.map_cons, List.nodup_cons] at hn
    show dputs (dput M x.1 x.2) l e.1 = some e.2
    rcases List.mem_cons.mp h with h | h
    · subst h
      rw [dputs_none (fun y hy z => hn.1 (List.mem_map.mpr ⟨y, hy, z⟩))]
      simp [dput]
    · exact ih hn.2 h
theorem chg_keys (M : DM) (n : Nat) : (chg M n).map (·.1) = keysOf M n := by
  simp [chg, List.map_map, Function.comp_def]
theorem dputs_chg {R : DM} {n : Nat} (hR : ∀ p v, R p = some v → 0 ≤ p ∧ p < n) (M : DM) (p : Int) : dputs M (chg R n) p = match R p with
    | some v => some v
    | none => M p := by
  cases h : R p with
  | some v =>
    have hm : (p, v) ∈ chg R n := mem_chg.mpr ⟨(hR p v h).1, (hR p v h).2, h⟩
    exact dputs_mem (by rw [chg_keys]; exact keysOf_nodup R n) hm
  | none =>
    dsimp only
    refine dputs_none fun e he z => ?_
    have := (mem_chg.mp he).2.2
    rw [z, h] at this
    cases this
theorem keysOf_dput_le (M : DM) (p : Int) (v : Pl) (n : Nat) : (keysOf (dput M p v) n).length ≤ (keysOf M n).length + 1 := by
  have key : ∀ l : List Int, l.Nodup → (l.filter fun q => ((dput M p v) q).isSome).length ≤ (l.filter fun q => (M q).isSome).length + (if p ∈ l then 1 else 0) := by
    intro l
    induction l with
    | nil => intro _; simp
    | cons a l ih =>
      intro hn
      rw [List.nodup_cons] at hn
      have := ih hn.2
      by_cases ha : a = p
      · subst ha
        rw [if_neg hn.1] at this
        rw [if_pos List.mem_cons_self]
        have h1 : (dput M a v a).isSome = true := by simp [dput]
        rw [List.filter_cons, if_pos h1, List.filter_cons]
        split
        · simp; omega
        · simp; omega
      · have h1 : (dput M p v a).isSome = (M a).isSome := by simp [dput, ha]
        rw [List.filter_cons, List.filter_cons, h1]
        have hm : (p ∈ a :: l) ↔ p ∈ l := by
          constructor
          · intro h
            rcases List.mem_cons.mp h with h | h
            · exact absurd h.symm ha
            · exact h
          · exact List.mem_cons_of_mem _
        have e : (if p ∈ a :: l then 1 else 0) = (if p ∈ l then 1 else 0) := by simp only [hm]
        rw [e]
        split
        · simp only [List.length_cons]; omega
        · exact this
  have := key ((List.range n).map fun i : Nat => (i : Int)) ((range_asc n).imp (fun {a b} h => by omega))
  unfold keysOf
  split at this <;> omega
theorem keysOf_dputs_le (l : List (Int × Pl)) (n : Nat) : ∀ M : DM, (keysOf (dputs M l) n).length ≤ (keysOf M n).length + l.length := by
  induction l with
  | nil => intro M; exact Nat.le_refl _
  | cons e l ih =>
    intro M
    have h1 := ih (dput M e.1 e.2)
    have h2 := keysOf_dput_le M e.1 e.2 n
    show (keysOf (dputs (dput M e.1 e.2) l) n).length ≤ _
    rw [List.length_cons]
    omega
theorem keysOf_noDM (n : Nat) : keysOf noDM n = [] := by simp [keysOf, noDM]
theorem keysOf_le (M : DM) (n : Nat) : (keysOf M n).length ≤ n := by
  unfold keysOf
  refine Nat.le_trans (List.length_filter_le _ _) ?_
  simp

/-! ### plates behind rows of writes -/
theorem gp_flush_map {α : Type} {ks : List α} {f : α → Int} {v : α → Pl} {s : List Pl} {q : α} (hq : q ∈ ks) (inj : ∀ k ∈ ks, f k = f q → k = q) (pos : ∀ k ∈ ks, 0 ≤ f k) (hi : f q < s.length) :
    gp (flushL s (ks.map fun k => (f k, v k))) (f q) = v q := by
  have h0 := pos q hq
  rw [gp_flushL h0 hi (fun e he => by
    obtain ⟨k, hk, rfl⟩ := List.mem_map.mp he
    exact pos k hk)]
  have hne : ((ks.map fun k => (f k, v k)).filter fun e => decide (e.1 = f q)) ≠ [] := by
    intro z
    have : (f q, v q) ∈ ((ks.map fun k => (f k, v k)).filter fun e => decide (e.1 = f q)) := List.mem_filter.mpr ⟨List.mem_map.mpr ⟨q, hq, rfl⟩, by simp⟩
    rw [z] at this
    cases this
  rw [List.getLast?_eq_some_getLast hne]
  have hm := List.getLast_mem hne
  obtain ⟨hm1, hm2⟩ := List.mem_filter.mp hm
  obtain ⟨k, hk, e⟩ := List.mem_map.mp hm1
  have e1 : f k = f q := by
    have := of_decide_eq_true hm2
    rw [← e] at this
    exact this
  have := inj k hk e1
  subst this
  rw [← e]
  rfl
theorem wrs_map {α : Type} (ks : List α) (f : α → Int) (v : α → Pl) : wrs (ks.map fun k => Ev.wr (f k) (v k)) = ks.map fun k => (f k, v k) := by
  induction ks with
  | nil => rfl
  | cons a l ih => simp [wrs, ih]
theorem slot_ne {slots : Nat} {t a b : Int} (h1 : t ≤ a) (h2 : a < b) (h3 : b < t + slots) : slotP slots a ≠ slotP slots b := by
  intro h
  have h : a % (slots : Int) = b % (slots : Int) := by unfold slotP at h; omega
  have hs : (0 : Int) < slots := by omega
  have h5 : (b - a) % (slots : Int) = 0 := by
    rw [Int.sub_emod, ← h]
    simp
  rw [Int.emod_eq_of_lt (by omega) (by omega)] at h5
  omega
theorem slot_range {slots : Nat} (hs : 0 < slots) (i : Int) : 2 ≤ slotP slots i ∧ slotP slots i < 2 + slots := by
  have h1 := Int.emod_nonneg i (show (slots : Int) ≠ 0 by omega)
  have h2 := Int.emod_lt_of_pos i (show (0 : Int) < slots by omega)
  unfold slotP
  omega

/-! ### the steps keep what a disk means -/
theorem ChainG.agree {plates slots : Nat} {s s' : List Pl} : ∀ {gs : List Grp} {g t : Int}, (∀ j : Int, t ≤ j → j < t + usedN gs → gp s' (slotP slots j) = gp s (slotP slots j)) → ChainG plates slots s g t gs → ChainG plates slots s' g t gs
  | [], _, _, _, _ => trivial
  | x :: r, g, t, ha, h => by
    obtain ⟨e1, e2, hne, hrow, hr⟩ := h
    have hsum : usedN (x :: r) = x.2.2.length + usedN r := by simp [usedN]
    refine ⟨e1, e2, hne, fun i e he => ?_, ChainG.agree (fun j h1 h2 => ha j (by omega) (by omega)) hr⟩
    have R := hrow i e he
    have hi : i < x.2.2.length := (List.getElem?_eq_some_iff.mp he).1
    exact ⟨by rw [ha (t + i) (by omega) (by omega)]; exact R.row, R.eight, R.lo, R.hi⟩
theorem ChainG.snoc {plates slots : Nat} {s : List Pl} {y : Grp} : ∀ {gs : List Grp} {g t : Int}, ChainG plates slots s g t gs → ChainG plates slots s (g + gs.length) (t + usedN gs) [y] → ChainG plates slots s g t (gs ++ [y])
  | [], g, t, _, h => by simpa [usedN] using h
  | x :: r, g, t, hc, h => by
    obtain ⟨e1, e2, hne, hrow, hr⟩ := hc
    have hsum : usedN (x :: r) = x.2.2.length + usedN r := by simp [usedN]
    refine ⟨e1, e2, hne, hrow, ChainG.snoc hr ?_⟩
    have a : g + ((x :: r).length : Int) = g + 1 + (r.length : Int) := by rw [List.length_cons]; omega
    have b : t + ((usedN (x :: r) : Nat) : Int) = t + (x.2.2.length : Int) + (usedN r : Int) := by rw [hsum]; omega
    rwa [a, b] at h
theorem homeEvs_wrs (slots plates : Nat) (M : DM) : wrs (homeEvs slots plates M) = (chg M plates).map fun e => (homeP slots e.1, e.2) := wrs_map _ _ _
theorem homeOf_twice (base : DM) (gs : List Grp) : homeOf (homeOf base gs) gs = homeOf base gs := by
  funext p
  unfold homeOf
  cases mg gs p <;> rfl
theorem Rep.laid {plates slots : Nat} {s : List Pl} {n f t : Int} {gs : List Grp} {base : DM} (R : Rep plates slots s n f t gs base) :
    Rep plates slots (apAll s (homeEvs slots plates (mg gs))) n f t gs (homeOf base gs) := by
  have hok := R.chain.ok
  rw [apAll_wrs, homeEvs_wrs]
  generalize hs' : flushL s ((chg (mg gs) plates).map fun e => (homeP slots e.1, e.2)) = s'
  have low : ∀ q : Int, 0 ≤ q → q < 2 + slots → gp s' q = gp s q := fun q h0 h1 => by
    rw [← hs']
    refine gp_flushL_ne h0 fun e he => ?_
    obtain ⟨x, hx, rfl⟩ := List.mem_map.mp he
    have := mem_chg.mp hx
    unfold homeP
    dsimp only
    omega
  have hn0 := R.n0
  have sr := fun i => slot_range R.sl i
  refine ⟨by rw [← hs', len_flushL]; exact R.len, R.sl, R.n0, R.f0, R.t0, ?_, ?_, ?_, R.used, ?_, ?_, ?_⟩
  · rw [low _ (by omega) (by omega)]; exact R.hd
  · rw [low _ (by omega) (by omega)]; exact R.other
  · exact R.chain.agree fun j _ _ => low _ (by have := sr j; omega) (by have := sr j; omega)
  · intro i hl
    rw [low _ (by have := sr i; omega) (by have := sr i; omega)] at hl ⊢
    exact R.top i hl
  · intro p h0 h1
    obtain ⟨v, b1, b2, b3⟩ := R.home p h0 h1
    unfold homeOf
    cases hm : mg gs p with
    | some w =>
      refine ⟨w, rfl, ?_, (mg_ok hok hm).2.2⟩
      have hmem : (p, w) ∈ chg (mg gs) plates := mem_chg.mpr ⟨h0, h1, hm⟩
      rw [← hs']
      have hlen := R.len
      exact gp_flush_map (f := fun e : Int × Pl => homeP slots e.1) (v := fun e => e.2) (q := (p, w)) hmem (fun k hk e => by
        have e1 : k.1 = p := by unfold homeP at e; omega
        have e2 := (mem_chg.mp hk).2.2
        rw [e1, hm] at e2
        have e3 : k.2 = w := (Option.some.inj e2).symm
        rw [← e1, ← e3]) (fun k hk => by
          have := mem_chg.mp hk
          unfold homeP
          omega) (by unfold homeP; dsimp only; omega)
    | none =>
      refine ⟨v, b1, ?_, b3⟩
      rw [← hs', gp_flushL_ne (by unfold homeP; omega)]
      · exact b2
      · intro e he
        obtain ⟨x, hx, rfl⟩ := List.mem_map.mp he
        have hx' := mem_chg.mp hx
        refine ⟨by unfold homeP; dsimp only; omega, fun z => ?_⟩
        have e1 : x.1 = p := by unfold homeP at z; dsimp only at z; omega
        rw [e1, hm] at hx'
        cases hx'.2.2
  · intro p hp
    unfold homeOf
    cases hm : mg gs p with
    | some w => exact absurd ⟨(mg_ok hok hm).1, (mg_ok hok hm).2.1⟩ hp
    | none => exact R.nob p hp
theorem Rep.turned {plates slots : Nat} {s : List Pl} {n f t : Int} {gs : List Grp} {base : DM} (R : Rep plates slots s n f t gs base) :
    Rep plates slots (spl s ((n + 1) % 2, [n + 1, f + gs.length, t + usedN gs])) (n + 1) (f + gs.length) (t + usedN gs) [] base := by
  have hn0 := R.n0
  have hf0 := R.f0
  have ht0 := R.t0
  have hlen := R.len
  have sr := fun i => slot_range R.sl i
  have far : ∀ q : Int, 2 ≤ q → gp (spl s ((n + 1) % 2, [n + 1, f + (gs.length : Int), t + (usedN gs : Int)])) q = gp s q := fun q hq => gp_spl_ne (by omega) (by omega) (by omega)
  refine ⟨by rw [len_spl]; exact R.len, R.sl, by omega, by omega, by omega, ?_, ?_, trivial, ?_, ?_, ?_, R.nob⟩
  · exact gp_spl_same (by omega) (by omega)
  · right
    refine ⟨f, t, ?_⟩
    rw [gp_spl_ne (by omega) (by omega) (by omega)]
    have : (n + 1 + 1) % 2 = n % 2 := by omega
    rw [this, R.hd]
    simp
  · simp [usedN]
  · intro i hl
    rw [far _ (by have := sr i; omega)] at hl ⊢
    have := R.top i hl
    simpa using this
  · intro p h0 h1
    obtain ⟨v, b1, b2, b3⟩ := R.home p h0 h1
    exact ⟨v, b1, by rw [far _ (by unfold homeP; omega)]; exact b2, b3⟩
theorem logRows_length (g : Int) (ch : List (Int × Pl)) : (logRows g ch).length = ch.length := by simp [logRows]
theorem rowEvs_wrs (slots : Nat) (t g : Int) (ch : List (Int × Pl)) : wrs (rowEvs slots t (logRows g ch)) =
    (List.range ch.length).map fun i => (slotP slots (t + (i : Nat)), logRow g ch.length i (ch.getD i (0, []))) := by
  unfold rowEvs
  rw [wrs_map, logRows_length]
  apply List.map_congr_left
  intro i hi
  have hi' : i < ch.length := by simpa using hi
  simp [logRows, hi']
theorem Rep.pushed {plates slots : Nat} {s : List Pl} {n f t : Int} {gs : List Grp} {base : DM} (R : Rep plates slots s n f t gs base) {ch : List (Int × Pl)} (hne : ch ≠ []) (hok : ChOk plates ch) (hu : usedN gs + ch.length ≤ slots) :
    Rep plates slots (apAll s (rowEvs slots (t + usedN gs) (logRows (f + gs.length) ch))) n f t (gs ++ [(f + gs.length, t + usedN gs, ch)]) base := by
  have hn0 := R.n0
  have hf0 := R.f0
  have ht0 := R.t0
  have hlen := R.len
  have sr := fun i => slot_range R.sl i
  rw [apAll_wrs, rowEvs_wrs]
  generalize hs' : flushL s ((List.range ch.length).map fun i => (slotP slots (t + (usedN gs : Int) + (i : Nat)), logRow (f + gs.length) ch.length i (ch.getD i (0, [])))) = s'
  have other : ∀ q : Int, 0 ≤ q → (∀ i : Nat, i < ch.length → slotP slots (t + (usedN gs : Int) + (i : Nat)) ≠ q) → gp s' q = gp s q := fun q h0 h1 => by
    rw [← hs']
    refine gp_flushL_ne h0 fun e he => ?_
    obtain ⟨i, hi, rfl⟩ := List.mem_map.mp he
    have hi' : i < ch.length := by simpa using hi
    exact ⟨by have := sr (t + (usedN gs : Int) + (i : Nat)); dsimp only; omega, h1 i hi'⟩
  have rowA : ∀ i : Nat, (hi : i < ch.length) → gp s' (slotP slots (t + (usedN gs : Int) + (i : Nat))) = logRow (f + gs.length) ch.length i ch[i] := fun i hi => by
    rw [← hs']
    have z := gp_flush_map (ks := List.range ch.length) (f := fun i : Nat => slotP slots (t + (usedN gs : Int) + (i : Nat))) (v := fun i => logRow (f + gs.length) ch.length i (ch.getD i (0, []))) (s := s) (q := i)
      (by simpa using hi) (fun k hk e => by
        have hk' : k < ch.length := by simpa using hk
        rcases Nat.lt_trichotomy k i with h | h | h
        · exact absurd e (slot_ne (t := t + (usedN gs : Int)) (by omega) (by omega) (by omega))
        · exact h
        · exact absurd e.symm (slot_ne (t := t + (usedN gs : Int)) (by omega) (by omega) (by omega)))
      (fun k _ => by have := sr (t + (usedN gs : Int) + (k : Nat)); omega) (by have := sr (t + (usedN gs : Int) + (i : Nat)); omega)
    rw [z]
    simp [hi]
  have far : ∀ q : Int, 0 ≤ q → (q < 2 ∨ 2 + slots ≤ q) → gp s' q = gp s q := fun q h0 h1 => other q h0 fun i _ z => by
    have := sr (t + (usedN gs : Int) + (i : Nat))
    omega
  refine ⟨by rw [← hs', len_flushL]; exact R.len, R.sl, R.n0, R.f0, R.t0, ?_, ?_, ?_, ?_, ?_, ?_, R.nob⟩
  · rw [far _ (by omega) (by omega)]; exact R.hd
  · rw [far _ (by omega) (by omega)]; exact R.other
  · refine ChainG.snoc (R.chain.agree fun j h1 h2 => ?_) ⟨rfl, rfl, hne, fun i e he => ?_, trivial⟩
    · refine other _ (by have := sr j; omega) fun i hi z => ?_
      exact slot_ne (t := t) (a := j) (b := t + (usedN gs : Int) + (i : Nat)) h1 (by omega) (by omega) z.symm
    · obtain ⟨hi, rfl⟩ := List.getElem?_eq_some_iff.mp he
      have hc := hok _ (List.getElem_mem hi)
      exact ⟨rowA i hi, hc.2.2, hc.1, hc.2.1⟩
  · rw [usedN_append]
    have : usedN [(f + (gs.length : Int), t + (usedN gs : Int), ch)] = ch.length := by simp [usedN]
    omega
  · intro i hl
    rw [List.length_append]
    by_cases hw : ∃ k : Nat, k < ch.length ∧ slotP slots (t + (usedN gs : Int) + (k : Nat)) = slotP slots i
    · obtain ⟨k, hk, e⟩ := hw
      rw [← e, rowA k hk]
      simp [logRow]
      omega
    · rw [other _ (by have := sr i; omega) (fun k hk z => hw ⟨k, hk, z⟩)] at hl ⊢
      have := R.top i hl
      simp only [List.length_singleton]
      omega
  · intro p h0 h1
    obtain ⟨v, b1, b2, b3⟩ := R.home p h0 h1
    exact ⟨v, b1, by rw [far _ (by unfold homeP; omega) (by unfold homeP; omega)]; exact b2, b3⟩
end PG

set_option autoImplicit false
namespace PG
/-! ## What always holds of a store -/
def written (pu : List (Nat × Nat × Nat)) (m : Nat) : Nat := (pu.filter fun x => decide (x.2.1 ≤ m)).length
def dB (pu : List (Nat × Nat × Nat)) (k : Nat) : Nat := if 0 < k then (pu.getD (k - 1) (0, 0, 0)).2.2 else 0
def Opn (plates slots : Nat) (s : List Pl) (h : DM) : Prop := ∃ n f t gs base, Rep plates slots s n f t gs base ∧ homeOf base gs = h
def GoodM (t : List Ev) (pu : List (Nat × Nat × Nat)) (m : Nat) : Prop := m = 0 ∨ isBar t (m - 1) = true ∨ ∃ x ∈ pu, x.2.1 = m
def GoodT (beg : List Pl) (plates slots : Nat) (t : List Ev) (pu : List (Nat × Nat × Nat)) (homes : List DM) : Prop :=
  ∀ m, m ≤ t.length → GoodM t pu m → ∃ h, homes[dB pu (written pu m)]? = some h ∧ Opn plates slots (apAll beg (t.take m)) h
def EndsLe (pu : List (Nat × Nat × Nat)) (n : Nat) : Prop := ∀ x ∈ pu, x.2.1 ≤ n

theorem isBar_append {t u : List Ev} {i : Nat} (h : i < t.length) : isBar (t ++ u) i = isBar t i := by
  unfold isBar
  rw [List.getElem?_append_left h]
theorem written_all {pu : List (Nat × Nat × Nat)} {m : Nat} (h : EndsLe pu m) : written pu m = pu.length := by
  unfold written
  rw [List.filter_eq_self.mpr fun x hx => decide_eq_true (h x hx)]
theorem written_snoc {pu : List (Nat × Nat × Nat)} {x : Nat × Nat × Nat} {m : Nat} (h : m < x.2.1) : written (pu ++ [x]) m = written pu m := by
  unfold written
  rw [List.filter_append]
  have : ¬ x.2.1 ≤ m := by omega
  simp [this]
theorem written_le (pu : List (Nat × Nat × Nat)) (m : Nat) : written pu m ≤ pu.length := List.length_filter_le _ _
theorem dB_snoc {pu : List (Nat × Nat × Nat)} {x : Nat × Nat × Nat} {k : Nat} (h : k ≤ pu.length) : dB (pu ++ [x]) k = dB pu k := by
  unfold dB
  split
  · rw [List.getD_eq_getElem?_getD, List.getD_eq_getElem?_getD, List.getElem?_append_left (by omega)]
  · rfl
theorem dB_last {pu : List (Nat × Nat × Nat)} {x : Nat × Nat × Nat} : dB (pu ++ [x]) (pu.length + 1) = x.2.2 := by
  unfold dB
  rw [if_pos (by omega)]
  simp
theorem GoodT.wr {beg : List Pl} {plates slots : Nat} {t : List Ev} {pu : List (Nat × Nat × Nat)} {homes : List DM} (he : EndsLe pu t.length) (g : GoodT beg plates slots t pu homes) (p : Int) (v : Pl) : GoodT beg plates slots (t ++ [.wr p v]) pu homes := by
  intro m hm hg
  by_cases h : m ≤ t.length
  · rw [List.take_append_of_le_length h]
    refine g m h ?_
    rcases hg with hg | hg | hg
    · exact .inl hg
    · by_cases h0 : m = 0
      · exact .inl h0
      · rw [isBar_append (by omega)] at hg; exact .inr (.inl hg)
    · exact .inr (.inr hg)
  · have hm' : m = t.length + 1 := by simp at hm; omega
    rcases hg with hg | hg | ⟨x, hx, e⟩
    · omega
    · rw [hm'] at hg
      simp [isBar] at hg
    · have := he x hx
      omega
theorem EndsLe.mono {pu : List (Nat × Nat × Nat)} {a b : Nat} (h : EndsLe pu a) (hab : a ≤ b) : EndsLe pu b := fun x hx => Nat.le_trans (h x hx) hab
theorem GoodT.wrs {beg : List Pl} {plates slots : Nat} {pu : List (Nat × Nat × Nat)} {homes : List DM} {α : Type} (f : α → Int) (v : α → Pl) : ∀ (ks : List α) {t : List Ev}, EndsLe pu t.length → GoodT beg plates slots t pu homes →
    GoodT beg plates slots (t ++ ks.map fun k => Ev.wr (f k) (v k)) pu homes
  | [], t, _, g => by simpa using g
  | k :: ks, t, he, g => by
    have := GoodT.wrs f v ks (t := t ++ [.wr (f k) (v k)]) (he.mono (by simp)) (g.wr he _ _)
    simpa using this
theorem GoodT.bar {beg : List Pl} {plates slots : Nat} {t : List Ev} {pu : List (Nat × Nat × Nat)} {homes : List DM} {h : DM} (he : EndsLe pu t.length) (g : GoodT beg plates slots t pu homes) (hh : homes[dB pu pu.length]? = some h)
    (ho : Opn plates slots (apAll beg t) h) : GoodT beg plates slots (t ++ [.bar]) pu homes := by
  intro m hm hg
  by_cases hle : m ≤ t.length
  · rw [List.take_append_of_le_length hle]
    refine g m hle ?_
    rcases hg with hg | hg | hg
    · exact .inl hg
    · by_cases h0 : m = 0
      · exact .inl h0
      · rw [isBar_append (by omega)] at hg; exact .inr (.inl hg)
    · exact .inr (.inr hg)
  · have hm' : m = t.length + 1 := by simp at hm; omega
    refine ⟨h, ?_, ?_⟩
    · rw [written_all (he.mono (by omega))]; exact hh
    · have : (t ++ [Ev.bar]).take m = t ++ [.bar] := List.take_of_length_le (by simp; omega)
      rw [this, apAll_append]
      exact ho
theorem GoodT.group {beg : List Pl} {plates slots : Nat} {pu : List (Nat × Nat × Nat)} {homes : List DM} {h : DM} {α : Type} (f : α → Int) (v : α → Pl) {ks : List α} {t : List Ev} {x : Nat × Nat × Nat} (he : EndsLe pu t.length)
    (g : GoodT beg plates slots t pu homes) (hk : ks ≠ []) (hx : x.2.1 = (t ++ ks.map fun k => Ev.wr (f k) (v k)).length) (hh : homes[x.2.2]? = some h) (ho : Opn plates slots (apAll beg (t ++ ks.map fun k => Ev.wr (f k) (v k))) h) :
    GoodT beg plates slots (t ++ ks.map fun k => Ev.wr (f k) (v k)) (pu ++ [x]) homes := by
  have hpos : 0 < ks.length := List.length_pos_iff.mpr hk
  have hlen : (t ++ ks.map fun k => Ev.wr (f k) (v k)).length = t.length + ks.length := by simp
  intro m hm hg
  by_cases hlt : m < x.2.1
  · rw [written_snoc hlt, dB_snoc (written_le _ _)]
    refine GoodT.wrs f v ks he g m hm ?_
    rcases hg with hg | hg | ⟨y, hy, e⟩
    · exact .inl hg
    · exact .inr (.inl hg)
    · rcases List.mem_append.mp hy with hy | hy
      · exact .inr (.inr ⟨y, hy, e⟩)
      · rw [List.mem_singleton] at hy
        subst hy
        omega
  · have hm' : m = x.2.1 := by omega
    refine ⟨h, ?_, ?_⟩
    · have : EndsLe (pu ++ [x]) m := fun y hy => by
        rcases List.mem_append.mp hy with hy | hy
        · have := he y hy
          omega
        · rw [List.mem_singleton] at hy
          subst hy
          omega
      rw [written_all this, List.length_append, List.length_singleton, dB_last]
      exact hh
    · rw [List.take_of_length_le (by omega)]
      exact ho

structure SInv (S : Sto) (homes : List DM) : Prop where
  beg0 : S.beg.loose = []
  dev : S.dev = S.beg.run S.trace
  wf : ∀ x ∈ wrs S.trace, 0 ≤ x.1 ∧ x.1 < 2 + (S.slots : Int) + S.plates
  rep : ∃ base h, Rep S.plates S.slots (sett S.dev) S.hn S.hf S.ht S.groups base ∧ homeOf base S.groups = h ∧ homes[S.deeds - S.rund]? = some h ∧
    ∀ p, S.cells p = match S.run p with
      | some v => some v
      | none => h p
  ng : S.ng = S.hf + S.groups.length
  nt : S.nt = S.ht + usedN S.groups
  hl : homes.length = S.deeds + 1
  cells : homes[S.deeds]? = some S.cells
  runok : ∀ p v, S.run p = some v → 0 ≤ p ∧ p < S.plates ∧ v.length = 8
  runle : (keysOf S.run S.plates).length ≤ S.slots
  rund0 : S.rund = 0 → S.run = noDM
  rund1 : S.rund ≠ 0 → ∃ p v, S.run p = some v
  rle : S.rund ≤ S.deeds
  ends : EndsLe S.pushed S.trace.length
  asc : S.pushed.Pairwise fun a b => a.2.1 < b.2.1
  endw : ∀ x ∈ S.pushed, 0 < x.2.1 ∧ isBar S.trace (x.2.1 - 1) = false
  last : dB S.pushed S.pushed.length = S.deeds - S.rund
  good : GoodT S.beg.settled S.plates S.slots S.trace S.pushed homes
  cellsok : ∀ p v, S.cells p = some v → v.length = 8
  cellsd : ∀ p : Int, (S.cells p).isSome = true ↔ 0 ≤ p ∧ p < S.plates

theorem SInv.sett {S : Sto} {homes : List DM} (I : SInv S homes) : sett S.dev = apAll S.beg.settled S.trace := by
  rw [I.dev, sett_run]
  simp [PG.sett, I.beg0, flushL]
theorem wrs_snoc_wr (t : List Ev) (p : Int) (v : Pl) : wrs (t ++ [.wr p v]) = wrs t ++ [(p, v)] := by rw [wrs_append]; rfl
theorem wrs_snoc_bar (t : List Ev) : wrs (t ++ [.bar]) = wrs t := by rw [wrs_append]; simp [wrs]

/-! ### settling, and laying home -/
theorem SInv.settle {S : Sto} {homes : List DM} (I : SInv S homes) : SInv (settleS S) homes := by
  obtain ⟨base, h, R, hh, hi, ov⟩ := I.rep
  have hs := I.sett
  have hd : dB S.pushed S.pushed.length = S.deeds - S.rund := I.last
  refine ⟨I.beg0, ?_, ?_, ⟨base, h, ?_, hh, hi, ov⟩, I.ng, I.nt, I.hl, I.cells, I.runok, I.runle, I.rund0, I.rund1, I.rle, I.ends.mono ?_, I.asc, ?_, I.last, ?_, I.cellsok, I.cellsd⟩
  · show S.dev.step .bar = S.beg.run (S.trace ++ [.bar])
    rw [run_append, ← I.dev]; rfl
  · show ∀ x ∈ wrs (S.trace ++ [.bar]), _
    rw [wrs_snoc_bar]; exact I.wf
  · show Rep S.plates S.slots (PG.sett (S.dev.step .bar)) S.hn S.hf S.ht S.groups base
    rw [sett_step]; exact R
  · show S.trace.length ≤ (S.trace ++ [Ev.bar]).length
    simp
  · intro x hx
    obtain ⟨h0, h1⟩ := I.endw x hx
    refine ⟨h0, ?_⟩
    show isBar (S.trace ++ [.bar]) (x.2.1 - 1) = false
    rw [isBar_append (by have := I.ends x hx; omega)]; exact h1
  · show GoodT S.beg.settled S.plates S.slots (S.trace ++ [.bar]) S.pushed homes
    refine I.good.bar I.ends (by rw [hd]; exact hi) ?_
    rw [← hs]
    exact ⟨_, _, _, _, _, R, hh⟩
theorem homeEvs_map (slots plates : Nat) (M : DM) : homeEvs slots plates M = (chg M plates).map fun e => Ev.wr (homeP slots e.1) e.2 := rfl
theorem SInv.lay {S : Sto} {homes : List DM} (I0 : SInv S homes) : SInv (layS S) homes ∧ (layS S).groups = [] := by
  unfold layS
  split
  · rename_i h; exact ⟨I0, h⟩
  · have I := I0.settle
    refine ⟨?_, rfl⟩
    generalize hS1 : settleS S = S1 at I
    obtain ⟨base, h, R, hh, hi, ov⟩ := I.rep
    have hs := I.sett
    have hd : dB S1.pushed S1.pushed.length = S1.deeds - S1.rund := I.last
    generalize hE : homeEvs S1.slots S1.plates (mg S1.groups) = E
    have hw : writeHomeS S1 = { S1 with dev := (S1.dev.run E).step .bar, trace := S1.trace ++ E ++ [.bar] } := by
      unfold writeHomeS
      rw [hE, evs_eq]
      rfl
    have R2 := R.laid
    rw [hE] at R2
    have R3 := R2.turned
    have e1 : turnHeadS (writeHomeS S1) = { S1 with dev := ((((S1.dev.run E).step .bar).step (.wr ((S1.hn + 1) % 2) [S1.hn + 1, S1.ng, S1.nt])).step .bar), trace := S1.trace ++ E ++ [.bar] ++ [.wr ((S1.hn + 1) % 2) [S1.hn + 1, S1.ng, S1.nt]] ++ [.bar], hn := S1.hn + 1, hf := S1.ng, ht := S1.nt, groups := [] } := by
      rw [hw]; rfl
    rw [e1]
    have hng := I.ng
    have hnt := I.nt
    have base2 : homeOf (homeOf base S1.groups) [] = h := by
      rw [hh]
      funext p
      rfl
    have wE : wrs E = (chg (mg S1.groups) S1.plates).map fun e => (homeP S1.slots e.1, e.2) := by rw [← hE]; exact homeEvs_wrs _ _ _
    have hbar : ∀ u : List Ev, ∀ x ∈ S1.pushed, 0 < x.2.1 ∧ isBar (S1.trace ++ u) (x.2.1 - 1) = false := fun u x hx => by
      obtain ⟨h0, h1⟩ := I.endw x hx
      exact ⟨h0, by rw [isBar_append (by have := I.ends x hx; omega)]; exact h1⟩
    have sE : apAll S1.beg.settled (S1.trace ++ E) = apAll (PG.sett S1.dev) E := by rw [apAll_append, hs]
    refine ⟨I.beg0, ?_, ?_, ⟨homeOf base S1.groups, h, ?_, base2, hi, ov⟩, ?_, ?_, I.hl, I.cells, I.runok, I.runle, I.rund0, I.rund1, I.rle, I.ends.mono ?_, I.asc, ?_, I.last, ?_, I.cellsok, I.cellsd⟩
    · show ((((S1.dev.run E).step .bar).step (.wr ((S1.hn + 1) % 2) [S1.hn + 1, S1.ng, S1.nt])).step .bar) = _
      rw [run_append, run_append, run_append, run_append, ← I.dev]; rfl
    · dsimp only
      rw [wrs_snoc_bar, wrs_snoc_wr, wrs_snoc_bar, wrs_append, wE]
      intro x hx
      rcases List.mem_append.mp hx with hx | hx
      · rcases List.mem_append.mp hx with hx | hx
        · exact I.wf x hx
        · obtain ⟨e, he, rfl⟩ := List.mem_map.mp hx
          have := mem_chg.mp he
          unfold homeP
          dsimp only
          omega
      · rw [List.mem_singleton] at hx
        subst hx
        dsimp only
        omega
    · dsimp only
      rw [sett_step, sett_step, sett_step, sett_run, hng, hnt]
      exact R3
    · simp
    · simp [usedN]
    · dsimp only
      simp
    · dsimp only
      rw [List.append_assoc, List.append_assoc, List.append_assoc]
      exact hbar _
    · dsimp only
      have he : EndsLe S1.pushed (S1.trace ++ E).length := I.ends.mono (by simp)
      have g1 : GoodT S1.beg.settled S1.plates S1.slots (S1.trace ++ E) S1.pushed homes := by
        rw [← hE, homeEvs_map]
        exact GoodT.wrs _ _ _ I.ends I.good
      have g2 := g1.bar (h := h) he (by rw [hd]; exact hi) (by
        rw [sE]
        exact ⟨_, _, _, _, _, R2, by rw [homeOf_twice]; exact hh⟩)
      have g3 := g2.wr (he.mono (by simp)) ((S1.hn + 1) % 2) [S1.hn + 1, S1.ng, S1.nt]
      refine g3.bar (h := h) (he.mono (by simp)) (by rw [hd]; exact hi) ?_
      rw [apAll_append, apAll_append, sE]
      show Opn S1.plates S1.slots (spl (apAll (PG.sett S1.dev) E) ((S1.hn + 1) % 2, [S1.hn + 1, S1.ng, S1.nt])) h
      rw [hng, hnt]
      exact ⟨_, _, _, _, _, R3, base2⟩

/-! ### pushing, putting, syncing -/
theorem rowEvs_map (slots : Nat) (t : Int) (rows : List Pl) : rowEvs slots t rows = (List.range rows.length).map fun i : Nat => Ev.wr (slotP slots (t + i)) (rows.getD i []) := rfl
theorem settleS_same (S : Sto) : (settleS S).plates = S.plates ∧ (settleS S).slots = S.slots ∧ (settleS S).run = S.run ∧ (settleS S).rund = S.rund ∧ (settleS S).cells = S.cells ∧ (settleS S).deeds = S.deeds ∧ (settleS S).pushed = S.pushed ∧ (settleS S).beg = S.beg :=
  ⟨rfl, rfl, rfl, rfl, rfl, rfl, rfl, rfl⟩
theorem writeHomeS_eq (S : Sto) : writeHomeS S = { S with dev := (S.dev.run (homeEvs S.slots S.plates (mg S.groups))).step .bar, trace := S.trace ++ homeEvs S.slots S.plates (mg S.groups) ++ [.bar] } := by
  unfold writeHomeS
  rw [evs_eq]
  rfl
theorem layS_same (S : Sto) : (layS S).plates = S.plates ∧ (layS S).slots = S.slots ∧ (layS S).run = S.run ∧ (layS S).rund = S.rund ∧ (layS S).cells = S.cells ∧ (layS S).deeds = S.deeds ∧ (layS S).pushed = S.pushed ∧ (layS S).beg = S.beg := by
  unfold layS
  split
  · exact ⟨rfl, rfl, rfl, rfl, rfl, rfl, rfl, rfl⟩
  · rw [writeHomeS_eq]; exact ⟨rfl, rfl, rfl, rfl, rfl, rfl, rfl, rfl⟩
theorem chg_ok {R : DM} {n : Nat} (h : ∀ p v, R p = some v → 0 ≤ p ∧ p < n ∧ v.length = 8) : ChOk n (chg R n) := fun e he => by
  obtain ⟨h0, h1, h2⟩ := mem_chg.mp he
  exact ⟨h0, h1, (h _ _ h2).2.2⟩
theorem SInv.pushRows {S : Sto} {homes : List DM} (I : SInv S homes) (hr : S.rund ≠ 0) (hu : usedN S.groups + (chg S.run S.plates).length ≤ S.slots) : SInv (pushRows S (chg S.run S.plates)) homes := by
  obtain ⟨base, h, R, hh, hi, ov⟩ := I.rep
  have hs := I.sett
  have hne : chg S.run S.plates ≠ [] := fun z => by
    obtain ⟨p, v, e⟩ := I.rund1 hr
    have hk := I.runok p v e
    have : (p, v) ∈ chg S.run S.plates := mem_chg.mpr ⟨hk.1, hk.2.1, e⟩
    rw [z] at this
    cases this
  generalize hch : chg S.run S.plates = ch at hu hne ⊢
  have hchok : ChOk S.plates ch := by rw [← hch]; exact chg_ok I.runok
  have R2 := R.pushed hne hchok hu
  have hpos : 0 < ch.length := List.length_pos_iff.mpr hne
  generalize hE : rowEvs S.slots S.nt (logRows S.ng ch) = E
  have hElen : E.length = ch.length := by rw [← hE]; simp [rowEvs, logRows_length]
  have e1 : PG.pushRows S ch = { S with dev := S.dev.run E, trace := S.trace ++ E, groups := S.groups ++ [(S.ng, S.nt, ch)], pushed := S.pushed ++ [(S.trace.length, (S.trace ++ E).length, S.deeds)], ng := S.ng + 1, nt := S.nt + ch.length, run := noDM, rund := 0 } := by
    unfold PG.pushRows
    rw [hE, evs_eq]
  rw [e1]
  have hng := I.ng
  have hnt := I.nt
  rw [← hng, ← hnt, hE] at R2
  have newhome : homeOf base (S.groups ++ [(S.ng, S.nt, ch)]) = S.cells := by
    funext p
    rw [ov p, ← hh]
    unfold homeOf
    rw [mg_snoc]
    dsimp only
    rw [← hch, dputs_chg (fun p v e => ⟨(I.runok p v e).1, (I.runok p v e).2.1⟩)]
    cases S.run p <;> rfl
  have sE : apAll S.beg.settled (S.trace ++ E) = apAll (PG.sett S.dev) E := by rw [apAll_append, hs]
  have wE : wrs E = (List.range ch.length).map fun i : Nat => (slotP S.slots (S.nt + (i : Nat)), logRow S.ng ch.length i (ch.getD i (0, []))) := by rw [← hE]; exact rowEvs_wrs _ _ _ _
  have hbarE : isBar (S.trace ++ E) ((S.trace ++ E).length - 1) = false := by
    have : (S.trace ++ E)[(S.trace ++ E).length - 1]? = some (Ev.wr (slotP S.slots (S.nt + ((E.length - 1 : Nat) : Int))) ((logRows S.ng ch).getD (E.length - 1) [])) := by
      rw [List.getElem?_append_right (by simp; omega)]
      have e2 : (S.trace ++ E).length - 1 - S.trace.length = E.length - 1 := by simp; omega
      rw [e2, hElen, ← hE]
      unfold rowEvs
      rw [List.getElem?_map, List.getElem?_range (by rw [logRows_length]; omega)]
      rfl
    unfold isBar
    rw [this]
  refine ⟨I.beg0, ?_, ?_, ⟨base, S.cells, ?_, newhome, I.cells, fun p => rfl⟩, ?_, ?_, I.hl, I.cells, ?_, ?_, fun _ => rfl, fun z => absurd rfl z, Nat.zero_le _, ?_, ?_, ?_, ?_, ?_, I.cellsok, I.cellsd⟩
  · show S.dev.run E = S.beg.run (S.trace ++ E)
    rw [run_append, ← I.dev]
  · dsimp only
    rw [wrs_append, wE]
    intro x hx
    rcases List.mem_append.mp hx with hx | hx
    · exact I.wf x hx
    · obtain ⟨i, _, rfl⟩ := List.mem_map.mp hx
      have := slot_range R.sl (S.nt + (i : Nat))
      dsimp only
      omega
  · dsimp only
    rw [sett_run]
    exact R2
  · dsimp only
    rw [List.length_append, List.length_singleton]
    omega
  · dsimp only
    rw [usedN_append]
    have : usedN [(S.ng, S.nt, ch)] = ch.length := by simp [usedN]
    omega
  · intro p v e
    cases e
  · dsimp only
    rw [keysOf_noDM]
    exact Nat.zero_le _
  · intro x hx
    dsimp only at hx ⊢
    rcases List.mem_append.mp hx with hx | hx
    · have := I.ends x hx
      simp
      omega
    · rw [List.mem_singleton] at hx
      subst hx
      exact Nat.le_refl _
  · dsimp only
    rw [List.pairwise_append]
    refine ⟨I.asc, List.pairwise_singleton _ _, fun a ha b hb => ?_⟩
    rw [List.mem_singleton] at hb
    subst hb
    have := I.ends a ha
    dsimp only
    rw [List.length_append]
    omega
  · intro x hx
    dsimp only at hx ⊢
    rcases List.mem_append.mp hx with hx | hx
    · obtain ⟨h0, h1⟩ := I.endw x hx
      exact ⟨h0, by rw [isBar_append (by have := I.ends x hx; omega)]; exact h1⟩
    · rw [List.mem_singleton] at hx
      subst hx
      refine ⟨?_, hbarE⟩
      dsimp only
      rw [List.length_append]
      omega
  · dsimp only
    rw [show ∀ x : Nat × Nat × Nat, (S.pushed ++ [x]).length = S.pushed.length + 1 from fun x => by simp, dB_last]
    rfl
  · dsimp only
    rw [← hE]
    rw [rowEvs_map]
    refine GoodT.group (h := S.cells) _ _ I.ends I.good ?_ ?_ I.cells ?_
    · rw [logRows_length]
      intro z
      have := congrArg List.length z
      simp at this
      exact hne this
    · rfl
    · rw [← rowEvs_map, hE, sE]
      exact ⟨_, _, _, _, _, R2, newhome⟩
theorem SInv.push {S : Sto} {homes : List DM} (I : SInv S homes) : SInv (pushS S) homes := by
  unfold pushS
  split
  · exact I
  · rename_i hr
    have hch := chg_length S.run S.plates
    have hle := I.runle
    split
    · obtain ⟨I2, hg⟩ := I.lay
      obtain ⟨a1, a2, a3, a4, _⟩ := layS_same S
      have := I2.pushRows (by rw [a4]; exact hr) (by rw [hg, a1, a2, a3]; simp [usedN]; omega)
      rwa [a1, a3] at this
    · exact I.pushRows hr (by omega)
theorem pushRows_same (S : Sto) (ch : List (Int × Pl)) : (pushRows S ch).plates = S.plates ∧ (pushRows S ch).slots = S.slots ∧ (pushRows S ch).cells = S.cells ∧ (pushRows S ch).deeds = S.deeds ∧ (pushRows S ch).beg = S.beg ∧ (pushRows S ch).rund = 0 ∧ (pushRows S ch).run = noDM := by
  unfold pushRows
  rw [evs_eq]
  exact ⟨rfl, rfl, rfl, rfl, rfl, rfl, rfl⟩
theorem pushS_same (S : Sto) : (pushS S).plates = S.plates ∧ (pushS S).slots = S.slots ∧ (pushS S).cells = S.cells ∧ (pushS S).deeds = S.deeds ∧ (pushS S).beg = S.beg ∧ (pushS S).rund = 0 ∧ (S.rund ≠ 0 → (pushS S).run = noDM) := by
  unfold pushS
  split
  · rename_i h; exact ⟨rfl, rfl, rfl, rfl, rfl, h, fun z => absurd h z⟩
  · obtain ⟨a1, a2, a3, a4, a5, a6, a7⟩ := pushRows_same (if usedN S.groups + (chg S.run S.plates).length > S.slots then layS S else S) (chg S.run S.plates)
    obtain ⟨b1, b2, b3, b4, b5, b6, b7, b8⟩ := layS_same S
    rw [a1, a2, a3, a4, a5, a6, a7]
    split
    · exact ⟨b1, b2, b5, b6, b8, rfl, fun _ => rfl⟩
    · exact ⟨rfl, rfl, rfl, rfl, rfl, rfl, fun _ => rfl⟩
/-- what a deed's changes may be -/
structure ToldOk (plates slots : Nat) (told : List (Int × Pl)) : Prop where
  ne : told ≠ []
  le : told.length ≤ slots
  ok : ChOk plates told
  nd : (told.map (·.1)).Nodup
theorem dputs_pos {l : List (Int × Pl)} (hne : l ≠ []) (hn : (l.map (·.1)).Nodup) (M : DM) : ∃ p v, dputs M l p = some v := by
  cases l with
  | nil => exact absurd rfl hne
  | cons e l => exact ⟨e.1, e.2, dputs_mem hn List.mem_cons_self⟩
theorem SInv.add {S : Sto} {homes : List DM} (I : SInv S homes) {told : List (Int × Pl)} (T : ToldOk S.plates S.slots told) (hk : (keysOf (dputs S.run told) S.plates).length ≤ S.slots) :
    SInv (addS S told) (homes ++ [dputs S.cells told]) := by
  obtain ⟨base, h, R, hh, hi, ov⟩ := I.rep
  have hl := I.hl
  have hrle := I.rle
  have old : ∀ {k : Nat} {x : DM}, homes[k]? = some x → (homes ++ [dputs S.cells told])[k]? = some x := fun {k x} e => by
    rw [List.getElem?_append_left (List.getElem?_eq_some_iff.mp e).1]; exact e
  refine ⟨I.beg0, I.dev, I.wf, ⟨base, h, R, hh, ?_, ?_⟩, I.ng, I.nt, ?_, ?_, ?_, hk, ?_, ?_, ?_, I.ends, I.asc, I.endw, ?_, ?_, ?_, ?_⟩
  · have : (addS S told).deeds - (addS S told).rund = S.deeds - S.rund := by
      show S.deeds + 1 - (S.rund + 1) = _
      omega
    rw [this]
    exact old hi
  · intro p
    show dputs S.cells told p = match dputs S.run told p with
      | some v => some v
      | none => h p
    rw [dputs_over told S.cells p, dputs_over told S.run p]
    cases dputs noDM told p with
    | some v => rfl
    | none => exact ov p
  · show (homes ++ [dputs S.cells told]).length = S.deeds + 1 + 1
    rw [List.length_append, List.length_singleton, hl]
  · show (homes ++ [dputs S.cells told])[S.deeds + 1]? = some (dputs S.cells told)
    rw [List.getElem?_append_right (by omega), hl]
    simp
  · intro p v e
    rcases dputs_some (show dputs S.run told p = some v from e) with ⟨x, hx, rfl, rfl⟩ | e
    · exact T.ok x hx
    · exact I.runok p v e
  · intro z
    exact absurd z (Nat.succ_ne_zero _)
  · intro _
    exact dputs_pos T.ne T.nd _
  · show S.rund + 1 ≤ S.deeds + 1
    omega
  · show dB S.pushed S.pushed.length = S.deeds + 1 - (S.rund + 1)
    rw [I.last]
    omega
  · intro m hm hg
    obtain ⟨x, hx, o⟩ := I.good m hm hg
    exact ⟨x, old hx, o⟩
  · intro p v e
    rcases dputs_some (show dputs S.cells told p = some v from e) with ⟨x, hx, rfl, rfl⟩ | e
    · exact (T.ok x hx).2.2
    · exact I.cellsok p v e
  · intro p
    show (dputs S.cells told p).isSome = true ↔ _
    rw [dputs_over told S.cells p]
    cases hd : dputs noDM told p with
    | some v =>
      rcases dputs_some hd with ⟨x, hx, rfl, rfl⟩ | e
      · have := T.ok x hx
        exact ⟨fun _ => ⟨this.1, this.2.1⟩, fun _ => rfl⟩
      · cases e
    | none => exact I.cellsd p
theorem SInv.put {S : Sto} {homes : List DM} (I : SInv S homes) {told : List (Int × Pl)} (T : ToldOk S.plates S.slots told) : SInv (putS S told) (homes ++ [dputs S.cells told]) ∧ (putS S told).cells = dputs S.cells told ∧ (putS S told).plates = S.plates ∧ (putS S told).slots = S.slots ∧ (putS S told).deeds = S.deeds + 1 := by
  unfold putS
  split
  · rename_i h
    obtain ⟨a1, a2, a3, a4, a5, a6, a7⟩ := pushS_same S
    have hr : S.rund ≠ 0 := fun z => by
      have := I.rund0 z
      rw [this] at h
      have h2 := keysOf_dputs_le told S.plates noDM
      rw [keysOf_noDM] at h2
      have := T.le
      simp at h2
      omega
    have I2 := I.push
    have T2 : ToldOk (pushS S).plates (pushS S).slots told := by rw [a1, a2]; exact T
    have := I2.add T2 (by
      rw [a7 hr, a1, a2]
      have h2 := keysOf_dputs_le told S.plates noDM
      rw [keysOf_noDM] at h2
      have := T.le
      simp at h2
      omega)
    rw [a3] at this
    exact ⟨this, by show dputs (pushS S).cells told = _; rw [a3], a1, a2, by show (pushS S).deeds + 1 = _; rw [a4]⟩
  · exact ⟨I.add T (by omega), rfl, rfl, rfl, rfl⟩
theorem SInv.sync {S : Sto} {homes : List DM} (I : SInv S homes) : SInv (syncS S) homes ∧ (syncS S).sdeeds = (syncS S).deeds ∧ (syncS S).deeds = S.deeds ∧ (syncS S).dev.loose = [] ∧ (syncS S).plates = S.plates ∧ (syncS S).slots = S.slots ∧
    (∃ h, homes[S.deeds]? = some h ∧ Opn S.plates S.slots (syncS S).dev.settled h) := by
  have I2 := I.push.settle
  obtain ⟨a1, a2, a3, a4, a5, a6, a7⟩ := pushS_same S
  refine ⟨I2, ?_, a4, rfl, a1, a2, ?_⟩
  · show (pushS S).deeds - (pushS S).rund = (pushS S).deeds
    rw [a6]; rfl
  · obtain ⟨base, h, R, hh, hi, ov⟩ := I2.rep
    have e1 : (settleS (pushS S)).deeds - (settleS (pushS S)).rund = S.deeds := by
      show (pushS S).deeds - (pushS S).rund = S.deeds
      rw [a6, a4]; rfl
    rw [e1] at hi
    refine ⟨h, hi, ?_⟩
    have e2 : PG.sett (settleS (pushS S)).dev = (syncS S).dev.settled := by
      show PG.sett ((pushS S).dev.step .bar) = ((pushS S).dev.step .bar).settled
      simp [PG.sett, Dk.step, flushL]
    rw [e2] at R
    have e3 : (settleS (pushS S)).plates = S.plates := a1
    have e4 : (settleS (pushS S)).slots = S.slots := a2
    rw [e3, e4] at R
    exact ⟨_, _, _, _, _, R, hh⟩
end PG

set_option autoImplicit false
namespace PG
/-! ## What the law asks at each moment -/
def endOf (pu : List (Nat × Nat × Nat)) (k : Nat) : Nat := if 0 < k then (pu.getD (k - 1) (0, 0, 0)).2.1 else 0
theorem written_iff : ∀ {pu : List (Nat × Nat × Nat)} {m j : Nat}, (pu.Pairwise fun a b => a.2.1 < b.2.1) → (j < written pu m ↔ ∃ x, pu[j]? = some x ∧ x.2.1 ≤ m)
  | [], m, j, _ => by simp [written]
  | a :: pu, m, j, h => by
    obtain ⟨h1, h2⟩ := List.pairwise_cons.mp h
    by_cases ha : a.2.1 ≤ m
    · have hw : written (a :: pu) m = written pu m + 1 := by simp [written, ha]
      rw [hw]
      cases j with
      | zero => simp [ha]
      | succ j =>
        rw [List.getElem?_cons_succ, ← written_iff h2]
        omega
    · have hz : written (a :: pu) m = 0 := by
        unfold written
        rw [List.length_eq_zero_iff, List.filter_eq_nil_iff]
        intro x hx
        rcases List.mem_cons.mp hx with e | hx
        · subst e; simpa using ha
        · have := h1 x hx
          simp
          omega
      rw [hz]
      constructor
      · intro z; omega
      · rintro ⟨x, hx, hle⟩
        exfalso
        rcases List.mem_cons.mp (List.mem_of_getElem? hx) with e | hx
        · subst e; exact ha hle
        · have := h1 x hx
          omega
theorem SInv.moment {S : Sto} {homes : List DM} (I : SInv S homes) {m k : Nat} (hm : m ≤ S.trace.length) (h1 : written S.pushed (lastBar S.trace m) ≤ k) (h2 : k ≤ written S.pushed m) :
    lastBar S.trace m ≤ max (lastBar S.trace m) (endOf S.pushed k) ∧ max (lastBar S.trace m) (endOf S.pushed k) ≤ m ∧ endOf S.pushed k ≤ m ∧
      ∃ h, homes[dB S.pushed k]? = some h ∧ Opn S.plates S.slots (apAll S.beg.settled (S.trace.take (max (lastBar S.trace m) (endOf S.pushed k)))) h := by
  have hlb := lastBar_le S.trace m
  have asc := I.asc
  have goodLb : ∃ h, homes[dB S.pushed (written S.pushed (lastBar S.trace m))]? = some h ∧ Opn S.plates S.slots (apAll S.beg.settled (S.trace.take (lastBar S.trace m))) h :=
    I.good _ (Nat.le_trans hlb hm) (by
      rcases lastBar_is S.trace m with h | h
      · exact .inl h
      · exact .inr (.inl h))
  by_cases hk : k = 0
  · subst hk
    have e0 : endOf S.pushed 0 = 0 := rfl
    have e1 : written S.pushed (lastBar S.trace m) = 0 := by omega
    rw [e1] at goodLb
    rw [e0, Nat.max_eq_left (Nat.zero_le _)]
    exact ⟨Nat.le_refl _, hlb, Nat.zero_le _, goodLb⟩
  · obtain ⟨x, hx, hxm⟩ := (written_iff (j := k - 1) asc).mp (show k - 1 < written S.pushed m by omega)
    have e0 : endOf S.pushed k = x.2.1 := by
      unfold endOf
      rw [if_pos (by omega), List.getD_eq_getElem?_getD, hx]
      rfl
    by_cases hle : x.2.1 ≤ lastBar S.trace m
    · have : k - 1 < written S.pushed (lastBar S.trace m) := (written_iff asc).mpr ⟨x, hx, hle⟩
      have e1 : written S.pushed (lastBar S.trace m) = k := by omega
      rw [e1] at goodLb
      rw [e0, Nat.max_eq_left hle]
      exact ⟨Nat.le_refl _, hlb, hxm, goodLb⟩
    · have e1 : written S.pushed x.2.1 = k := by
        have a := (written_iff (m := x.2.1) (j := k - 1) asc).mpr ⟨x, hx, Nat.le_refl _⟩
        have b : ¬ k < written S.pushed x.2.1 := fun z => by
          obtain ⟨y, hy, hyx⟩ := (written_iff asc).mp z
          obtain ⟨i1, e1⟩ := List.getElem?_eq_some_iff.mp hx
          obtain ⟨i2, e2⟩ := List.getElem?_eq_some_iff.mp hy
          have := List.pairwise_iff_getElem.mp asc (k - 1) k i1 i2 (by omega)
          rw [e1, e2] at this
          omega
        omega
      rw [e0, Nat.max_eq_right (by omega)]
      refine ⟨by omega, hxm, hxm, ?_⟩
      have := I.good x.2.1 (by omega) (.inr (.inr ⟨x, List.mem_of_getElem? hx, rfl⟩))
      rwa [e1] at this
theorem SInv.quiet {S : Sto} {homes : List DM} (I : SInv S homes) {m : Nat} (hm : m ≤ S.trace.length) (hl : (S.beg.run (S.trace.take m)).loose = []) : written S.pushed (lastBar S.trace m) = written S.pushed m := by
  have hlb := lastBar_le S.trace m
  have mono : written S.pushed (lastBar S.trace m) ≤ written S.pushed m := by
    refine Nat.le_of_not_lt fun z => ?_
    obtain ⟨x, hx, hle⟩ := (written_iff I.asc).mp z
    have := (written_iff I.asc).mpr ⟨x, hx, Nat.le_trans hle hlb⟩
    omega
  refine Nat.le_antisymm mono (Nat.le_of_not_lt fun z => ?_)
  obtain ⟨x, hx, hle⟩ := (written_iff I.asc).mp z
  have hgt : ¬ x.2.1 ≤ lastBar S.trace m := fun hh => by
    have := (written_iff I.asc).mpr ⟨x, hx, hh⟩
    omega
  rw [run_at I.beg0 hm] at hl
  have hlen := wrs_noBar_length (noBar_part (t := S.trace) (lastBar_no S.trace m))
  dsimp only at hl
  rw [hl] at hlen
  simp at hlen
  omega
theorem SInv.mono_written {S : Sto} {homes : List DM} (I : SInv S homes) (m : Nat) : written S.pushed (lastBar S.trace m) ≤ written S.pushed m := by
  refine Nat.le_of_not_lt fun z => ?_
  obtain ⟨x, hx, hle⟩ := (written_iff I.asc).mp z
  have := (written_iff I.asc).mpr ⟨x, hx, Nat.le_trans hle (lastBar_le S.trace m)⟩
  omega

/-! ### a store that is made -/
def lastSeen (s : List Pl) (slots : Nat) : Int := ((((List.range slots).map fun i : Nat => gp s (slotP slots i)).filter isLog).map fun v => v.getD 0 0).foldl max (-1)
def newSto (plates slots : Nat) (s : List Pl) : Sto :=
  let h := bestHead (heads s)
  let gs := readG s slots (slots + 1) (h.getD 1 0) (h.getD 2 0) 0
  { plates := plates, slots := slots, beg := ⟨s, []⟩, dev := ⟨s, []⟩, trace := [], hn := h.getD 0 0, hf := h.getD 1 0, ht := h.getD 2 0, groups := gs, cells := readHome s plates slots gs,
    ng := 1 + max (h.getD 1 0 - 1) (lastSeen s slots), nt := h.getD 2 0 + usedN gs, run := noDM, rund := 0, pushed := [], deeds := 0, sdeeds := 0 }
theorem Opn.reads {plates slots : Nat} {s : List Pl} {h : DM} (O : Opn plates slots s h) : (newSto plates slots s).cells = h ∧ heads s ≠ [] ∧ GsOk plates (newSto plates slots s).groups ∧ usedN (newSto plates slots s).groups ≤ slots ∧
    0 ≤ (newSto plates slots s).hn ∧ 0 < slots ∧ s.length = 2 + slots + plates ∧ ∃ n f t, bestHead (heads s) = [n, f, t] := by
  obtain ⟨n, f, t, gs, base, R, e⟩ := O
  obtain ⟨h1, h2⟩ := R.best
  have hg : (newSto plates slots s).groups = gs := by
    show readG s slots (slots + 1) ((bestHead (heads s)).getD 1 0) ((bestHead (heads s)).getD 2 0) 0 = gs
    rw [h2]
    exact R.groups
  have hn : (newSto plates slots s).hn = n := by
    show (bestHead (heads s)).getD 0 0 = n
    rw [h2]
    rfl
  refine ⟨?_, h1, ?_, ?_, ?_, R.sl, R.len, n, f, t, h2⟩
  · show readHome s plates slots (newSto plates slots s).groups = h
    rw [hg, R.reads, e]
  · rw [hg]; exact R.chain.ok
  · rw [hg]; exact R.used
  · rw [hn]; exact R.n0
def freshL (plates slots : Nat) (told : List (Int × Pl)) : List Pl := flushL (List.replicate (2 + slots + plates) []) ((told.map fun e => (homeP slots e.1, e.2)) ++ [(0, [0, 0, 0])])
theorem gp_replicate (n : Nat) (p : Int) : gp (List.replicate n []) p = [] := by
  unfold gp
  rw [List.getD_eq_getElem?_getD, List.getElem?_replicate]
  split <;> rfl
theorem fresh_rep {plates slots : Nat} (hs : 0 < slots) {told : List (Int × Pl)} (ht : ChOk plates told) (hn : (told.map (·.1)).Nodup) (hall : ∀ p : Int, 0 ≤ p → p < plates → p ∈ told.map (·.1)) :
    Rep plates slots (freshL plates slots told) 0 0 0 [] (dputs noDM told) := by
  have len0 : (flushL (List.replicate (2 + slots + plates) ([] : Pl)) (told.map fun e => (homeP slots e.1, e.2))).length = 2 + slots + plates := by rw [len_flushL]; simp
  have e0 : freshL plates slots told = spl (flushL (List.replicate (2 + slots + plates) []) (told.map fun e => (homeP slots e.1, e.2))) (0, [0, 0, 0]) := by
    unfold freshL
    rw [flushL_append]
    rfl
  have low : ∀ q : Int, 1 ≤ q → q < 2 + slots → gp (freshL plates slots told) q = [] := fun q h0 h1 => by
    rw [e0, gp_spl_ne (by omega) (by omega) (by omega), gp_flushL_ne (by omega), gp_replicate]
    intro e he
    obtain ⟨x, hx, rfl⟩ := List.mem_map.mp he
    have := ht x hx
    unfold homeP
    dsimp only
    omega
  have sr := fun i => slot_range hs i
  refine ⟨by rw [e0, len_spl, len0], hs, Int.le_refl 0, Int.le_refl 0, Int.le_refl 0, ?_, .inl (low _ (by omega) (by omega)), trivial, by simp [usedN], ?_, ?_, ?_⟩
  · rw [e0]
    exact gp_spl_same (by omega) (by rw [len0]; omega)
  · intro i hl
    rw [low _ (by have := sr i; omega) (by have := sr i; omega)] at hl
    simp [isLog] at hl
  · intro p h0 h1
    obtain ⟨e, he, hep⟩ := List.mem_map.mp (hall p h0 h1)
    refine ⟨e.2, by rw [← hep]; exact dputs_mem hn he, ?_, (ht e he).2.2⟩
    rw [e0, gp_spl_ne (by omega) (by unfold homeP; omega) (by unfold homeP; omega), ← hep]
    refine gp_flush_map (f := fun e : Int × Pl => homeP slots e.1) (v := fun e => e.2) he (fun k hk ek => ?_) (fun k hk => by have := ht k hk; unfold homeP; omega) (by have := ht e he; unfold homeP; simp; omega)
    have e1 : k.1 = e.1 := by unfold homeP at ek; omega
    have a := dputs_mem hn (M := noDM) hk
    have b := dputs_mem hn (M := noDM) he
    rw [e1, b] at a
    have e2 : k.2 = e.2 := (Option.some.inj a).symm
    cases k; cases e
    simp only at e1 e2
    rw [e1, e2]
  · intro p hp
    refine dputs_none fun e he z => ?_
    have := ht e he
    omega
theorem lastSeen_none {s : List Pl} {slots : Nat} (h : ∀ i : Int, isLog (gp s (slotP slots i)) = false) : lastSeen s slots = -1 := by
  unfold lastSeen
  have : (((List.range slots).map fun i : Nat => gp s (slotP slots i)).filter isLog) = [] := by
    rw [List.filter_eq_nil_iff]
    intro v hv
    obtain ⟨i, _, rfl⟩ := List.mem_map.mp hv
    rw [h]
    exact Bool.false_ne_true
  rw [this]
  rfl
theorem fresh_inv {plates slots : Nat} (hs : 0 < slots) {told : List (Int × Pl)} (ht : ChOk plates told) (hn : (told.map (·.1)).Nodup) (hall : ∀ p : Int, 0 ≤ p → p < plates → p ∈ told.map (·.1)) :
    SInv (newSto plates slots (freshL plates slots told)) [dputs noDM told] ∧ (newSto plates slots (freshL plates slots told)).cells = dputs noDM told := by
  have R := fresh_rep hs ht hn hall
  have O : Opn plates slots (freshL plates slots told) (dputs noDM told) := ⟨_, _, _, _, _, R, rfl⟩
  obtain ⟨hb1, hb2⟩ := R.best
  have hc := O.reads.1
  have hg : (newSto plates slots (freshL plates slots told)).groups = [] := by
    show readG _ slots (slots + 1) ((bestHead (heads _)).getD 1 0) ((bestHead (heads _)).getD 2 0) 0 = []
    rw [hb2]
    exact R.groups
  have hh : (newSto plates slots (freshL plates slots told)).hn = 0 ∧ (newSto plates slots (freshL plates slots told)).hf = 0 ∧ (newSto plates slots (freshL plates slots told)).ht = 0 := by
    refine ⟨?_, ?_, ?_⟩
    · show (bestHead (heads _)).getD 0 0 = 0
      rw [hb2]; rfl
    · show (bestHead (heads _)).getD 1 0 = 0
      rw [hb2]; rfl
    · show (bestHead (heads _)).getD 2 0 = 0
      rw [hb2]; rfl
  have hls : lastSeen (freshL plates slots told) slots = -1 := lastSeen_none fun i => by
    cases hl : isLog (gp (freshL plates slots told) (slotP slots i)) with
    | false => rfl
    | true =>
      have := R.top i hl
      simp only [isLog, Bool.and_eq_true, decide_eq_true_eq] at hl
      simp at this
      have := hl.2.1.2
      simp at this
      omega
  have hng : (newSto plates slots (freshL plates slots told)).ng = 0 := by
    show 1 + max ((bestHead (heads _)).getD 1 0 - 1) (lastSeen _ slots) = 0
    rw [hb2, hls]
    rfl
  have hnt : (newSto plates slots (freshL plates slots told)).nt = 0 := by
    show (bestHead (heads _)).getD 2 0 + (usedN (newSto plates slots (freshL plates slots told)).groups : Int) = 0
    rw [hb2, hg]
    rfl
  obtain ⟨h1, h2, h3⟩ := hh
  refine ⟨⟨rfl, rfl, fun x hx => (by cases hx), ⟨dputs noDM told, dputs noDM told, ?_, ?_, rfl, fun p => ?_⟩, ?_, ?_, rfl, ?_, fun p v e => (by cases e), ?_, fun _ => rfl, fun z => absurd rfl z, Nat.le_refl _, fun x hx => (by cases hx),
    List.Pairwise.nil, fun x hx => (by cases hx), rfl, ?_, ?_, ?_⟩, hc⟩
  · rw [h1, h2, h3, hg]
    exact R
  · rw [hg]; rfl
  · rw [hc]; rfl
  · rw [hng, h2, hg]; rfl
  · rw [hnt, h3, hg]; rfl
  · show some (dputs noDM told) = some (newSto plates slots (freshL plates slots told)).cells
    rw [hc]
  · show (keysOf noDM _).length ≤ _
    rw [keysOf_noDM]
    exact Nat.zero_le _
  · intro m hm _
    have : m = 0 := Nat.le_zero.mp hm
    subst this
    exact ⟨dputs noDM told, rfl, O⟩
  · intro p v e
    rw [hc] at e
    rcases dputs_some e with ⟨x, hx, rfl, rfl⟩ | e
    · exact (ht x hx).2.2
    · cases e
  · intro p
    rw [hc]
    show (dputs noDM told p).isSome = true ↔ 0 ≤ p ∧ p < (plates : Int)
    constructor
    · intro h
      obtain ⟨v, e⟩ := Option.isSome_iff_exists.mp h
      rcases dputs_some e with ⟨x, hx, rfl, rfl⟩ | e
      · exact ⟨(ht x hx).1, (ht x hx).2.1⟩
      · cases e
    · rintro ⟨a, b⟩
      obtain ⟨e, he, rfl⟩ := List.mem_map.mp (hall p a b)
      rw [dputs_mem hn he]
      rfl

/-! ### sizes -/
theorem homeEvs_len (slots plates : Nat) (M : DM) : (homeEvs slots plates M).length ≤ plates := by
  unfold homeEvs
  rw [List.length_map, chg_length]
  exact keysOf_le M plates
theorem layS_len (S : Sto) : (layS S).trace.length ≤ S.trace.length + S.plates + 4 := by
  unfold layS
  split
  · omega
  · rw [writeHomeS_eq]
    have := homeEvs_len (settleS S).slots (settleS S).plates (mg (settleS S).groups)
    have e1 : (settleS S).plates = S.plates := rfl
    have e2 : (settleS S).trace = S.trace ++ [Ev.bar] := rfl
    show (((settleS S).trace ++ homeEvs (settleS S).slots (settleS S).plates (mg (settleS S).groups) ++ [Ev.bar]) ++ [_] ++ [Ev.bar]).length ≤ _
    simp only [List.length_append, List.length_singleton, e2]
    omega
theorem pushS_len (S : Sto) (h : (keysOf S.run S.plates).length ≤ S.slots) : (pushS S).trace.length ≤ S.trace.length + S.plates + S.slots + 4 ∧ (pushS S).pushed.length ≤ S.pushed.length + 1 := by
  unfold pushS
  split
  · omega
  · have hc := chg_length S.run S.plates
    have key : ∀ S1 : Sto, S1.trace.length ≤ S.trace.length + S.plates + 4 → S1.pushed = S.pushed → (pushRows S1 (chg S.run S.plates)).trace.length ≤ S.trace.length + S.plates + S.slots + 4 ∧ (pushRows S1 (chg S.run S.plates)).pushed.length ≤ S.pushed.length + 1 := by
      intro S1 h1 h2
      unfold pushRows
      rw [evs_eq]
      dsimp only
      rw [h2]
      simp [rowEvs, logRows_length]
      omega
    split
    · exact key _ (layS_len S) (layS_same S).2.2.2.2.2.2.1
    · exact key _ (by omega) rfl
theorem putS_len (S : Sto) (told : List (Int × Pl)) (h : (keysOf S.run S.plates).length ≤ S.slots) : (putS S told).trace.length ≤ S.trace.length + S.plates + S.slots + 4 ∧ (putS S told).pushed.length ≤ S.pushed.length + 1 := by
  unfold putS
  split
  · exact pushS_len S h
  · show S.trace.length ≤ _ ∧ S.pushed.length ≤ _
    omega
end PG

set_option Elab.async false
set_option linter.all false
set_option autoImplicit false
set_option maxRecDepth 100000
/-! ## What the top has left (printed by gen.py) -/
namespace PG
open PySem L2
def top (i : Nat) : Stmt := PySem.Challenge.pw_plugproof_k08_whole_great_deeds.main.body.getD i (.Pass ⟨0, 0, 0, 0⟩)
structure TopF (K : PySem.W.Frag) (mg : Str → Option Value) (x : Str) (st : Stmt) (f : Addr) (fd : FuncData) (ps : List Str) : Prop where
  F : Fun K x x st f fd
  g : mg x = some (.ref f)
  b : Binds K fd ps []
structure TopM (K : PySem.W.Frag) (C : Addr) (x q : Str) (st : Stmt) (f : Addr) (fd : FuncData) (ps : List Str) : Prop where
  F : Fun K x q st f fd
  M : Meth K C x f
  b : Binds K fd ps []
structure TopC (K : PySem.W.Frag) (mg : Str → Option Value) (x q : Str) (st : Stmt) (C f : Addr) (fd : FuncData) (ps : List Str) : Prop where
  F : Fun K "__init__" q st f fd
  M : Mk K C f
  c : Cls K C
  g : mg x = some (.ref C)
  b : Binds K fd ps []
abbrev BindsAll (x q : Str) (st : Stmt) (ps : List Str) : Prop := ∀ (kV doc pm : Value) (an : Option Addr) (cdv ct : Value) (us : List Value), us.length = ps.length → bindArgs (PySem.W.fnOf x q (defArgs st) (defBody st) (defScope st) .none kV doc pm an cdv ct) ⟨us, []⟩ = pure (ps.zip us)
section
variable {K : PySem.W.Frag} {h : Heap} {mg : Str → Option Value} {x q : Str} {st : Stmt} {f C : Addr} {oc : Value} {od an : Option Addr} {osl : Array (Option Value)} {kV doc pm cdv ct : Value} {ps : List Str}
theorem topF_mk (X : K.In h) (G : h.Ns mainGlobals mg) (B : BindsAll x x st ps) (a : PySem.W.nsIn K mainGlobals x = some (some (.ref f)))
    (l : K.lookup f = some ⟨oc, od, .func (PySem.W.fnOf x x (defArgs st) (defBody st) (defScope st) .none kV doc pm an cdv ct), osl⟩) (c : PySem.W.codeIn K cdv x = true) (k : PySem.W.keepIn K (.ref f) = true) : ∃ f fd, TopF K mg x st f fd ps :=
  ⟨_, _, fun_mk l c k, PySem.W.mg_of X G a, (fun_mk l c k).binds B⟩
theorem topM_mk (X : K.In h) (B : BindsAll x q st ps) (a : PySem.W.findIn K (.ref C) x = some (some (.ref f))) (i : PySem.W.isFn K (.ref f) = true)
    (l : K.lookup f = some ⟨oc, od, .func (PySem.W.fnOf x q (defArgs st) (defBody st) (defScope st) .none kV doc pm an cdv ct), osl⟩) (c : PySem.W.codeIn K cdv q = true) (k : PySem.W.keepIn K (.ref f) = true) : ∃ f fd, TopM K C x q st f fd ps :=
  ⟨_, _, fun_mk l c k, ⟨a, i, k⟩, (fun_mk l c k).binds B⟩
theorem topC_mk (X : K.In h) (G : h.Ns mainGlobals mg) (B : BindsAll "__init__" q st ps) (g : PySem.W.nsIn K mainGlobals x = some (some (.ref C))) (a : PySem.W.findIn K (.ref C) "__init__" = some (some (.ref f))) (i : PySem.W.isFn K (.ref f) = true)
    (l : K.lookup f = some ⟨oc, od, .func (PySem.W.fnOf "__init__" q (defArgs st) (defBody st) (defScope st) .none kV doc pm an cdv ct), osl⟩) (c : PySem.W.codeIn K cdv q = true) (k : PySem.W.keepIn K (.ref f) = true)
    (pg : PySem.W.plainGet K C Str.empty = true) (hd : PySem.W.hasDictIn K C = true) (po : PySem.W.plainOver K C = true) (sa : PySem.W.findIn K (.ref C) "__setattr__" = some (some (.builtin "object.__setattr__"))) (mk : PySem.W.makesIn K C = true) (kc : PySem.W.keepIn K (.ref C) = true) :
    ∃ C f fd, TopC K mg x q st C f fd ps := ⟨_, _, _, fun_mk l c k, ⟨mk, a, i, kc⟩, ⟨pg, hd, po, sa⟩, PySem.W.mg_of X G g, (fun_mk l c k).binds B⟩
theorem none_mk (X : K.In h) (G : h.Ns mainGlobals mg) (a : PySem.W.nsIn K mainGlobals x = some none) : mg x = none := PySem.W.mg_none_of X G a
theorem int_mk (X : K.In h) (G : h.Ns mainGlobals mg) {n : Int} {t : Tok} (a : PySem.W.nsIn K mainGlobals x = some (some (.int n t))) : ∃ t, mg x = some (.int n t) := ⟨_, PySem.W.mg_of X G a⟩
theorem val_mk (X : K.In h) (G : h.Ns mainGlobals mg) {v : Value} (a : PySem.W.nsIn K mainGlobals x = some (some v)) : mg x = some v := PySem.W.mg_of X G a
end
structure Adr where
  a_is_below : Addr
  d_is_below : FuncData
  a_is_cells : Addr
  d_is_cells : FuncData
  a_checked_changes : Addr
  d_checked_changes : FuncData
  a_versions_of : Addr
  d_versions_of : FuncData
  a_after_barrier : Addr
  d_after_barrier : FuncData
  a_disk_after : Addr
  d_disk_after : FuncData
  a_head_plate : Addr
  d_head_plate : FuncData
  a_is_head : Addr
  d_is_head : FuncData
  a_read_head : Addr
  d_read_head : FuncData
  a_slot_plate : Addr
  d_slot_plate : FuncData
  a_log_rows : Addr
  d_log_rows : FuncData
  a_is_log_plate : Addr
  d_is_log_plate : FuncData
  a_whole_group : Addr
  d_whole_group : FuncData
  a_read_groups : Addr
  d_read_groups : FuncData
  a_last_seen : Addr
  d_last_seen : FuncData
  a_home_plate : Addr
  d_home_plate : FuncData
  a_merged : Addr
  d_merged : FuncData
  a_read_home : Addr
  d_read_home : FuncData
  a_fresh_store : Addr
  d_fresh_store : FuncData
  a_open_store : Addr
  d_open_store : FuncData
  a_last_barrier : Addr
  d_last_barrier : FuncData
  a_need_moment : Addr
  d_need_moment : FuncData
  a_written_groups : Addr
  d_written_groups : FuncData
  a_settled_groups : Addr
  d_settled_groups : FuncData
  a_deeds_behind : Addr
  d_deeds_behind : FuncData
  a_can_open : Addr
  d_can_open : FuncData
  a_loose_writes : Addr
  d_loose_writes : FuncData
  a_choice_of : Addr
  d_choice_of : FuncData
  a_choice_for : Addr
  d_choice_for : FuncData
  a_fallen_disk : Addr
  d_fallen_disk : FuncData
  a__law_number : Addr
  d__law_number : FuncData
  a__law_take : Addr
  d__law_take : FuncData
  a__law_pick : Addr
  d__law_pick : FuncData
  c_Disk : Addr
  a_Disk___init__ : Addr
  d_Disk___init__ : FuncData
  a_Disk_write : Addr
  d_Disk_write : FuncData
  a_Disk_barrier : Addr
  d_Disk_barrier : FuncData
  a_Disk_now : Addr
  d_Disk_now : FuncData
  a_Disk_fallen : Addr
  d_Disk_fallen : FuncData
  a_Disk_chosen : Addr
  d_Disk_chosen : FuncData
  c_Store : Addr
  a_Store___init__ : Addr
  d_Store___init__ : FuncData
  a_Store_disk : Addr
  d_Store_disk : FuncData
  a_Store_home : Addr
  d_Store_home : FuncData
  a_Store_write : Addr
  d_Store_write : FuncData
  a_Store_barrier : Addr
  d_Store_barrier : FuncData
  a_Store_put : Addr
  d_Store_put : FuncData
  a_Store_used : Addr
  d_Store_used : FuncData
  a_Store_push : Addr
  d_Store_push : FuncData
  a_Store_settle : Addr
  d_Store_settle : FuncData
  a_Store_sync : Addr
  d_Store_sync : FuncData
  a_Store_lay : Addr
  d_Store_lay : FuncData
  a_Store_write_home : Addr
  d_Store_write_home : FuncData
  a_Store_turn_head : Addr
  d_Store_turn_head : FuncData
  a_is_whole : Addr
  d_is_whole : FuncData
structure Txt (K : PySem.W.Frag) (mg : Str → Option Value) (A : Adr) : Prop where
  t_is_below : TopF K mg "is_below" (top 14) A.a_is_below A.d_is_below ["value", "many"]
  t_is_cells : TopF K mg "is_cells" (top 15) A.a_is_cells A.d_is_cells ["value"]
  t_checked_changes : TopF K mg "checked_changes" (top 16) A.a_checked_changes A.d_checked_changes ["plates", "changes"]
  t_versions_of : TopF K mg "versions_of" (top 19) A.a_versions_of A.d_versions_of ["settled", "loose", "plate"]
  t_after_barrier : TopF K mg "after_barrier" (top 20) A.a_after_barrier A.d_after_barrier ["settled", "loose"]
  t_disk_after : TopF K mg "disk_after" (top 22) A.a_disk_after A.d_disk_after ["disk", "trace", "moment"]
  t_head_plate : TopF K mg "head_plate" (top 25) A.a_head_plate A.d_head_plate ["number"]
  t_is_head : TopF K mg "is_head" (top 26) A.a_is_head A.d_is_head ["plate", "value"]
  t_read_head : TopF K mg "read_head" (top 27) A.a_read_head A.d_read_head ["disk"]
  t_slot_plate : TopF K mg "slot_plate" (top 30) A.a_slot_plate A.d_slot_plate ["slots", "slot"]
  t_log_rows : TopF K mg "log_rows" (top 31) A.a_log_rows A.d_log_rows ["group", "changes"]
  t_is_log_plate : TopF K mg "is_log_plate" (top 32) A.a_is_log_plate A.d_is_log_plate ["value"]
  t_whole_group : TopF K mg "whole_group" (top 33) A.a_whole_group A.d_whole_group ["disk", "slots", "slot", "group"]
  t_read_groups : TopF K mg "read_groups" (top 34) A.a_read_groups A.d_read_groups ["disk", "slots", "head"]
  t_last_seen : TopF K mg "last_seen" (top 35) A.a_last_seen A.d_last_seen ["disk", "slots"]
  t_home_plate : TopF K mg "home_plate" (top 37) A.a_home_plate A.d_home_plate ["slots", "plate"]
  t_merged : TopF K mg "merged" (top 38) A.a_merged A.d_merged ["groups"]
  t_read_home : TopF K mg "read_home" (top 39) A.a_read_home A.d_read_home ["disk", "plates", "slots", "groups"]
  t_fresh_store : TopF K mg "fresh_store" (top 41) A.a_fresh_store A.d_fresh_store ["plates", "slots", "home"]
  t_open_store : TopF K mg "open_store" (top 42) A.a_open_store A.d_open_store ["disk", "plates", "slots"]
  t_last_barrier : TopF K mg "last_barrier" (top 44) A.a_last_barrier A.d_last_barrier ["trace", "moment"]
  t_need_moment : TopF K mg "need_moment" (top 45) A.a_need_moment A.d_need_moment ["store", "moment"]
  t_written_groups : TopF K mg "written_groups" (top 46) A.a_written_groups A.d_written_groups ["store", "moment"]
  t_settled_groups : TopF K mg "settled_groups" (top 47) A.a_settled_groups A.d_settled_groups ["store", "moment"]
  t_deeds_behind : TopF K mg "deeds_behind" (top 48) A.a_deeds_behind A.d_deeds_behind ["store", "groups"]
  t_can_open : TopF K mg "can_open" (top 49) A.a_can_open A.d_can_open ["store", "moment"]
  t_loose_writes : TopF K mg "loose_writes" (top 50) A.a_loose_writes A.d_loose_writes ["store", "moment"]
  t_choice_of : TopF K mg "choice_of" (top 51) A.a_choice_of A.d_choice_of ["store", "moment", "groups"]
  t_choice_for : TopF K mg "choice_for" (top 52) A.a_choice_for A.d_choice_for ["store", "moment", "deeds"]
  t_fallen_disk : TopF K mg "fallen_disk" (top 53) A.a_fallen_disk A.d_fallen_disk ["store", "moment", "choice"]
  t__law_number : TopF K mg "_law_number" (top 55) A.a__law_number A.d__law_number ["_law_script", "_law_index"]
  t__law_take : TopF K mg "_law_take" (top 56) A.a__law_take A.d__law_take ["_law_draw", "_law_many"]
  t__law_pick : TopF K mg "_law_pick" (top 57) A.a__law_pick A.d__law_pick ["_law_draw", "_law_items"]
  k_Disk : TopC K mg "Disk" "Disk.__init__" (inClass (top 21) 0) A.c_Disk A.a_Disk___init__ A.d_Disk___init__ ["self", "many"]
  m_Disk_write : TopM K A.c_Disk "write" "Disk.write" (inClass (top 21) 1) A.a_Disk_write A.d_Disk_write ["self", "plate", "value"]
  m_Disk_barrier : TopM K A.c_Disk "barrier" "Disk.barrier" (inClass (top 21) 2) A.a_Disk_barrier A.d_Disk_barrier ["self"]
  m_Disk_now : TopM K A.c_Disk "now" "Disk.now" (inClass (top 21) 3) A.a_Disk_now A.d_Disk_now ["self", "plate"]
  m_Disk_fallen : TopM K A.c_Disk "fallen" "Disk.fallen" (inClass (top 21) 6) A.a_Disk_fallen A.d_Disk_fallen ["self", "choice"]
  m_Disk_chosen : TopM K A.c_Disk "chosen" "Disk.chosen" (inClass (top 21) 7) A.a_Disk_chosen A.d_Disk_chosen ["self", "plate", "number"]
  n_Disk_settled : NoAttr K A.c_Disk "settled"
  n_Disk_loose : NoAttr K A.c_Disk "loose"
  k_Store : TopC K mg "Store" "Store.__init__" (inClass (top 40) 0) A.c_Store A.a_Store___init__ A.d_Store___init__ ["self", "plates", "slots", "disk"]
  m_Store_disk : TopM K A.c_Store "disk" "Store.disk" (inClass (top 40) 1) A.a_Store_disk A.d_Store_disk ["self"]
  m_Store_home : TopM K A.c_Store "home" "Store.home" (inClass (top 40) 2) A.a_Store_home A.d_Store_home ["self"]
  m_Store_write : TopM K A.c_Store "write" "Store.write" (inClass (top 40) 4) A.a_Store_write A.d_Store_write ["self", "plate", "value"]
  m_Store_barrier : TopM K A.c_Store "barrier" "Store.barrier" (inClass (top 40) 5) A.a_Store_barrier A.d_Store_barrier ["self"]
  m_Store_put : TopM K A.c_Store "put" "Store.put" (inClass (top 40) 6) A.a_Store_put A.d_Store_put ["self", "changes"]
  m_Store_used : TopM K A.c_Store "used" "Store.used" (inClass (top 40) 7) A.a_Store_used A.d_Store_used ["self"]
  m_Store_push : TopM K A.c_Store "push" "Store.push" (inClass (top 40) 8) A.a_Store_push A.d_Store_push ["self"]
  m_Store_settle : TopM K A.c_Store "settle" "Store.settle" (inClass (top 40) 9) A.a_Store_settle A.d_Store_settle ["self"]
  m_Store_sync : TopM K A.c_Store "sync" "Store.sync" (inClass (top 40) 10) A.a_Store_sync A.d_Store_sync ["self"]
  m_Store_lay : TopM K A.c_Store "lay" "Store.lay" (inClass (top 40) 11) A.a_Store_lay A.d_Store_lay ["self"]
  m_Store_write_home : TopM K A.c_Store "write_home" "Store.write_home" (inClass (top 40) 12) A.a_Store_write_home A.d_Store_write_home ["self"]
  m_Store_turn_head : TopM K A.c_Store "turn_head" "Store.turn_head" (inClass (top 40) 13) A.a_Store_turn_head A.d_Store_turn_head ["self"]
  n_Store_plates : NoAttr K A.c_Store "plates"
  n_Store_slots : NoAttr K A.c_Store "slots"
  n_Store_begin : NoAttr K A.c_Store "begin"
  n_Store_device : NoAttr K A.c_Store "device"
  n_Store_trace : NoAttr K A.c_Store "trace"
  n_Store_head : NoAttr K A.c_Store "head"
  n_Store_groups : NoAttr K A.c_Store "groups"
  n_Store_cells : NoAttr K A.c_Store "cells"
  n_Store_next_group : NoAttr K A.c_Store "next_group"
  n_Store_next_slot : NoAttr K A.c_Store "next_slot"
  n_Store_running : NoAttr K A.c_Store "running"
  n_Store_running_deeds : NoAttr K A.c_Store "running_deeds"
  n_Store_pushed : NoAttr K A.c_Store "pushed"
  n_Store_deeds : NoAttr K A.c_Store "deeds"
  n_Store_settled_deeds : NoAttr K A.c_Store "settled_deeds"
  v_WIDTH : ∃ t, mg "WIDTH" = some (.int 8 t)
  v_HEADS : ∃ t, mg "HEADS" = some (.int 2 t)
  v_PARTS : ∃ t, mg "PARTS" = some (.int 4 t)
  v_TORN : mg "TORN" = some .none
  z_isinstance : mg "isinstance" = none
  z_int : mg "int" = none
  z_bool : mg "bool" = none
  z_len : mg "len" = none
  z_tuple : mg "tuple" = none
  z_all : mg "all" = none
  z_sorted : mg "sorted" = none
  z_list : mg "list" = none
  z_max : mg "max" = none
  z_min : mg "min" = none
  z_range : mg "range" = none
  z_enumerate : mg "enumerate" = none
  z_sum : mg "sum" = none
  z_set : mg "set" = none
  z_dict : mg "dict" = none
  z_abs : mg "abs" = none
  w_is_whole : FunD K "is_whole" "is_whole" (defArgs (top 5)) (defBody (top 5)) (defScope (top 5)) [.non, .non] [] A.a_is_whole A.d_is_whole
  w_g : mg "is_whole" = some (.ref A.a_is_whole)
end PG

set_option Elab.async false
set_option linter.all false
set_option autoImplicit false
set_option maxRecDepth 100000
namespace PG
open PySem L2
/-! ## Rows of values that stand for rows of data -/
def AllV {α : Type} (R : V → α → Prop) (xs : List V) (ys : List α) : Prop := xs.length = ys.length ∧ ∀ (i : Nat) (x : V) (y : α), xs[i]? = some x → ys[i]? = some y → R x y
section
variable {α : Type} {R R' : V → α → Prop} {xs xs' : List V} {ys ys' : List α}
theorem AllV.mono (h : AllV R xs ys) (m : ∀ x y, R x y → R' x y) : AllV R' xs ys := ⟨h.1, fun i x y a b => m x y (h.2 i x y a b)⟩
theorem AllV.nil : AllV R [] [] := ⟨rfl, fun i x y a b => by cases a⟩
theorem AllV.at (h : AllV R xs ys) {i : Nat} {x : V} (a : xs[i]? = some x) : ∃ y, ys[i]? = some y ∧ R x y := by
  have hi : i < ys.length := by rw [← h.1]; exact (List.getElem?_eq_some_iff.mp a).1
  exact ⟨ys[i], List.getElem?_eq_getElem hi, h.2 i x _ a (List.getElem?_eq_getElem hi)⟩
theorem AllV.at' (h : AllV R xs ys) {i : Nat} {y : α} (a : ys[i]? = some y) : ∃ x, xs[i]? = some x ∧ R x y := by
  have hi : i < xs.length := by rw [h.1]; exact (List.getElem?_eq_some_iff.mp a).1
  exact ⟨xs[i], List.getElem?_eq_getElem hi, h.2 i _ y (List.getElem?_eq_getElem hi) a⟩
theorem AllV.append (h : AllV R xs ys) (h' : AllV R xs' ys') : AllV R (xs ++ xs') (ys ++ ys') := by
  refine ⟨by rw [List.length_append, List.length_append, h.1, h'.1], fun i x y a b => ?_⟩
  by_cases hi : i < xs.length
  · rw [List.getElem?_append_left hi] at a
    rw [List.getElem?_append_left (by rw [← h.1]; exact hi)] at b
    exact h.2 i x y a b
  · rw [List.getElem?_append_right (by omega)] at a
    rw [List.getElem?_append_right (by rw [← h.1]; omega), ← h.1] at b
    exact h'.2 _ x y a b
theorem AllV.one {x : V} {y : α} (h : R x y) : AllV R [x] [y] := ⟨rfl, fun i a b p q => by
  cases i with
  | zero => cases p; cases q; exact h
  | succ i => cases p⟩
theorem AllV.snoc {x : V} {y : α} (h : AllV R xs ys) (r : R x y) : AllV R (xs ++ [x]) (ys ++ [y]) := h.append (.one r)
theorem AllV.set {x : V} {y : α} (h : AllV R xs ys) (r : R x y) (j : Nat) : AllV R (xs.set j x) (ys.set j y) := by
  refine ⟨by rw [List.length_set, List.length_set, h.1], fun i a b p q => ?_⟩
  by_cases e : j = i
  · subst e
    by_cases hj : j < xs.length
    · rw [List.getElem?_set_self hj] at p
      rw [List.getElem?_set_self (by rw [← h.1]; exact hj)] at q
      cases p; cases q; exact r
    · rw [List.getElem?_eq_none (by rw [List.length_set]; omega)] at p
      cases p
  · rw [List.getElem?_set_ne e] at p q
    exact h.2 i a b p q
theorem AllV.len (h : AllV R xs ys) : xs.length = ys.length := h.1
theorem AllV.take (h : AllV R xs ys) (n : Nat) : AllV R (xs.take n) (ys.take n) := by
  refine ⟨by rw [List.length_take, List.length_take, h.1], fun i x y a b => ?_⟩
  rw [List.getElem?_take] at a b
  split at a
  · rename_i hi
    rw [if_pos hi] at b
    exact h.2 i x y a b
  · cases a
theorem AllV.rep {x : V} {y : α} (n : Nat) (r : R x y) : AllV R (List.replicate n x) (List.replicate n y) := by
  refine ⟨by simp, fun i a b p q => ?_⟩
  have p' := List.mem_of_getElem? p
  have q' := List.mem_of_getElem? q
  rw [(List.mem_replicate.mp p').2, (List.mem_replicate.mp q').2]
  exact r
end
theorem get_append_here {α : Type} {l : List α} {x : α} : (l ++ [x])[l.length]? = some x := by simp
theorem take_snoc {α : Type} {l : List α} {i : Nat} {x : α} (h : l[i]? = some x) : l.take (i + 1) = l.take i ++ [x] := by
  obtain ⟨hi, e⟩ := List.getElem?_eq_some_iff.mp h
  rw [List.take_succ_eq_append_getElem hi, e]

/-! ## The heap -/
/-- tuples stay -/
def TupE (H H' : Hp) : Prop := ∀ b xs, H b = some (.tup xs) → H' b = some (.tup xs)
theorem TupE.refl (H : Hp) : TupE H H := fun _ _ h => h
theorem TupE.trans {H H1 H2 : Hp} (a : TupE H H1) (b : TupE H1 H2) : TupE H H2 := fun c o h => b c o (a c o h)
theorem Same.tups {H H' : Hp} (s : Same H H') : TupE H H' := fun b xs h => s b _ h
theorem Same.new {H : Hp} {p : Addr} {o : HO} (h : H p = none) : Same H (upd H p o) := fun b u e => by rw [upd_ne (ne_of_none e h)]; exact e
theorem Same.new' {H H' : Hp} {p : Addr} {o : HO} (s : Same H H') (h : H' p = none) : Same H (upd H' p o) := s.trans (Same.new h)
/-- an object that the heap H did not track may change -/
theorem Same.upd0 {H H' : Hp} {p : Addr} {o : HO} (s : Same H H') (h : H p = none) : Same H (upd H' p o) := fun b u e => by rw [upd_ne (ne_of_none e h)]; exact s b u e
theorem TupE.upd {H : Hp} {p : Addr} {o : HO} (h : ∀ xs, H p ≠ some (.tup xs)) : TupE H (upd H p o) := fun b xs e => by
  rw [upd_ne]
  · exact e
  · intro z
    subst z
    exact h xs e

/-- a plate's value: a tuple of ints -/
def PlV (H : Hp) (v : V) (ns : Pl) : Prop := ∃ a, v = .ref a ∧ H a = some (.tup (ns.map V.int))
/-- a pair (number, plate's value) -/
def EntV (H : Hp) (v : V) (e : Int × Pl) : Prop := ∃ a x, v = .ref a ∧ H a = some (.tup [.int e.1, x]) ∧ PlV H x e.2
def SettV (H : Hp) (a : Addr) (s : List Pl) : Prop := ∃ xs, H a = some (.tup xs) ∧ AllV (PlV H) xs s
def EntsV (H : Hp) (a : Addr) (l : List (Int × Pl)) : Prop := ∃ xs, H a = some (.tup xs) ∧ AllV (EntV H) xs l
def EvV (H : Hp) (v : V) : Ev → Prop
  | .wr p ns => ∃ a x, v = .ref a ∧ H a = some (.tup [.str "write", .int p, x]) ∧ PlV H x ns
  | .bar => ∃ a, v = .ref a ∧ H a = some (.tup [.str "barrier"])
def TrV (H : Hp) (a : Addr) (t : List Ev) : Prop := ∃ xs, H a = some (.tup xs) ∧ AllV (EvV H) xs t
def GrpV (H : Hp) (v : V) (g : Grp) : Prop := ∃ a c, v = .ref a ∧ H a = some (.tup [.int g.1, .int g.2.1, .ref c]) ∧ EntsV H c g.2.2
def GrsV (H : Hp) (a : Addr) (gs : List Grp) : Prop := ∃ xs, H a = some (.tup xs) ∧ AllV (GrpV H) xs gs
def PuV (H : Hp) (v : V) (x : Nat × Nat × Nat) : Prop := ∃ a, v = .ref a ∧ H a = some (.tup [.int x.1, .int x.2.1, .int x.2.2])
def PusV (H : Hp) (a : Addr) (l : List (Nat × Nat × Nat)) : Prop := ∃ xs, H a = some (.tup xs) ∧ AllV (PuV H) xs l
section
variable {H H' : Hp} {v : V} {a : Addr}
theorem PlV.mono {ns : Pl} (h : PlV H v ns) (e : TupE H H') : PlV H' v ns := let ⟨a, p, q⟩ := h; ⟨a, p, e _ _ q⟩
theorem EntV.mono {x : Int × Pl} (h : EntV H v x) (e : TupE H H') : EntV H' v x := let ⟨a, y, p, q, r⟩ := h; ⟨a, y, p, e _ _ q, r.mono e⟩
theorem SettV.mono {s : List Pl} (h : SettV H a s) (e : TupE H H') : SettV H' a s := let ⟨xs, p, q⟩ := h; ⟨xs, e _ _ p, q.mono fun _ _ z => z.mono e⟩
theorem EntsV.mono {s : List (Int × Pl)} (h : EntsV H a s) (e : TupE H H') : EntsV H' a s := let ⟨xs, p, q⟩ := h; ⟨xs, e _ _ p, q.mono fun _ _ z => z.mono e⟩
theorem EvV.mono {x : Ev} (h : EvV H v x) (e : TupE H H') : EvV H' v x := by
  cases x with
  | wr p ns => exact let ⟨a, y, p, q, r⟩ := h; ⟨a, y, p, e _ _ q, r.mono e⟩
  | bar => exact let ⟨a, p, q⟩ := h; ⟨a, p, e _ _ q⟩
theorem TrV.mono {s : List Ev} (h : TrV H a s) (e : TupE H H') : TrV H' a s := let ⟨xs, p, q⟩ := h; ⟨xs, e _ _ p, q.mono fun _ _ z => z.mono e⟩
theorem GrpV.mono {x : Grp} (h : GrpV H v x) (e : TupE H H') : GrpV H' v x := let ⟨a, y, p, q, r⟩ := h; ⟨a, y, p, e _ _ q, r.mono e⟩
theorem GrsV.mono {s : List Grp} (h : GrsV H a s) (e : TupE H H') : GrsV H' a s := let ⟨xs, p, q⟩ := h; ⟨xs, e _ _ p, q.mono fun _ _ z => z.mono e⟩
theorem PuV.mono {x : Nat × Nat × Nat} (h : PuV H v x) (e : TupE H H') : PuV H' v x := let ⟨a, p, q⟩ := h; ⟨a, p, e _ _ q⟩
theorem PusV.mono {s : List (Nat × Nat × Nat)} (h : PusV H a s) (e : TupE H H') : PusV H' a s := let ⟨xs, p, q⟩ := h; ⟨xs, e _ _ p, q.mono fun _ _ z => z.mono e⟩
end

/-! ## Instances by the names of their fields -/
theorem lookup_cons (f g : Str) (v : V) (l : List (Str × V)) : ((f, v) :: l).lookup g = if g = f then some v else l.lookup g := by
  by_cases h : g = f
  · subst h
    simp [List.lookup]
  · have e : (g == f) = false := by simpa using h
    rw [if_neg h]
    simp [List.lookup, e]
theorem lookup_zip : ∀ {ns : List Str} {vs : List V} {i : Nat} {f : Str} {v : V}, ns.Nodup → ns[i]? = some f → vs[i]? = some v → (ns.zip vs).lookup f = some v
  | [], _, _, _, _, _, h, _ => by cases h
  | _ :: _, [], _, _, _, _, _, h => by cases h
  | n :: ns, w :: vs, 0, f, v, _, h1, h2 => by
    cases h1; cases h2
    rw [List.zip_cons_cons, lookup_cons, if_pos rfl]
  | n :: ns, w :: vs, i + 1, f, v, hn, h1, h2 => by
    rw [List.nodup_cons] at hn
    rw [List.getElem?_cons_succ] at h1 h2
    have hne : f ≠ n := fun z => hn.1 (z ▸ List.mem_of_getElem? h1)
    rw [List.zip_cons_cons, lookup_cons, if_neg hne]
    exact lookup_zip hn.2 h1 h2
theorem lookup_zip_none : ∀ {ns : List Str} {vs : List V} {f : Str}, f ∉ ns → (ns.zip vs).lookup f = none
  | [], _, _, _ => rfl
  | _ :: _, [], _, _ => rfl
  | n :: ns, w :: vs, f, h => by
    rw [List.zip_cons_cons, lookup_cons, if_neg (fun z : f = n => h (by rw [z]; exact List.mem_cons_self))]
    exact lookup_zip_none fun z => h (List.mem_cons_of_mem _ z)
theorem putF_cons (f g : Str) (v w : V) (l : List (Str × V)) : putF f v ((g, w) :: l) = if f = g then (g, v) :: l else (g, w) :: putF f v l := by
  by_cases h : f = g
  · subst h
    simp [putF]
  · have h' : ¬ g = f := fun z => h z.symm
    simp [putF, h, h']
theorem putF_zip : ∀ {ns : List Str} {vs : List V} {i : Nat} {f : Str} {v : V}, ns.Nodup → ns[i]? = some f → i < vs.length → putF f v (ns.zip vs) = ns.zip (vs.set i v)
  | [], _, _, _, _, _, h, _ => by cases h
  | _ :: _, [], _, _, _, _, _, h => absurd h (Nat.not_lt_zero _)
  | n :: ns, w :: vs, 0, f, v, _, h1, _ => by
    cases h1
    rw [List.zip_cons_cons, putF_cons, if_pos rfl]
    rfl
  | n :: ns, w :: vs, i + 1, f, v, hn, h1, h2 => by
    rw [List.nodup_cons] at hn
    rw [List.getElem?_cons_succ] at h1
    have hne : f ≠ n := fun z => hn.1 (z ▸ List.mem_of_getElem? h1)
    rw [List.zip_cons_cons, putF_cons, if_neg hne, putF_zip hn.2 h1 (Nat.lt_of_succ_lt_succ h2)]
    rfl
/-- a field that is not there yet -/
theorem putF_new : ∀ {ns : List Str} {vs : List V} {f : Str} {v : V}, f ∉ ns → ns.length = vs.length → putF f v (ns.zip vs) = (ns ++ [f]).zip (vs ++ [v])
  | [], [], f, v, _, _ => rfl
  | [], _ :: _, _, _, _, h => by cases h
  | _ :: _, [], _, _, _, h => by cases h
  | n :: ns, w :: vs, f, v, h, hl => by
    rw [List.zip_cons_cons, putF_cons, if_neg (fun z : f = n => h (by rw [z]; exact List.mem_cons_self)), putF_new (fun z => h (List.mem_cons_of_mem _ z)) (Nat.succ.inj hl)]
    rfl
theorem zip_len {ns : List Str} {vs : List V} {n : Nat} (h : ns.length ≤ n) : (ns.zip vs).length ≤ n := by
  rw [List.length_zip]
  omega

/-! ## A disk -/
def DN : List Str := ["settled", "loose"]
theorem DN_nd : DN.Nodup := by decide +kernel
structure DiskAt (A : Adr) (H : Hp) (d : Addr) (D : Dk) : Prop where
  ex : ∃ dx sa la, H d = some (.ins A.c_Disk dx (DN.zip [.ref sa, .ref la])) ∧ SettV H sa D.settled ∧ EntsV H la D.loose
  sz : D.settled.length ≤ 1000
  lz : D.loose.length ≤ 100000
  lr : ∀ e ∈ D.loose, 0 ≤ e.1 ∧ e.1 < D.settled.length
  s2 : 2 ≤ D.settled.length
theorem DiskAt.mono {A : Adr} {H H' : Hp} {d : Addr} {D : Dk} (h : DiskAt A H d D) (e : TupE H H') (hd : ∀ o, H d = some o → H' d = some o) : DiskAt A H' d D := by
  obtain ⟨⟨dx, sa, la, h1, h2, h3⟩, h4, h5, h6, h7⟩ := h
  exact ⟨⟨dx, sa, la, hd _ h1, h2.mono e, h3.mono e⟩, h4, h5, h6, h7⟩
theorem DiskAt.same {A : Adr} {H H' : Hp} {d : Addr} {D : Dk} (h : DiskAt A H d D) (e : Same H H') : DiskAt A H' d D := h.mono (Same.tups e) fun o q => e d o q

/-- all but d is as it was -/
def But (d : Addr) (H H' : Hp) : Prop := ∀ b o, b ≠ d → H b = some o → H' b = some o
theorem But.tups {d : Addr} {H H' : Hp} (h : But d H H') (hd : ∀ xs, H d ≠ some (.tup xs)) : TupE H H' := fun b xs e => h b _ (fun z => by subst z; exact hd xs e) e
theorem Same.but {d : Addr} {H H' H'' : Hp} (s : Same H H') (b : But d H' H'') (hn : H d = none) : Same H H'' := fun a o e => b a o (ne_of_none e hn) (s a o e)
theorem But.refl (d : Addr) (H : Hp) : But d H H := fun _ _ _ e => e
theorem But.trans {d : Addr} {H H1 H2 : Hp} (a : But d H H1) (b : But d H1 H2) : But d H H2 := fun c o hc e => b c o hc (a c o hc e)
theorem Same.but' {d : Addr} {H H1 : Hp} (a : Same H H1) : But d H H1 := fun c o _ e => a c o e
theorem But.ins {d : Addr} {H H' : Hp} {C dx : Addr} {fs : List (Str × V)} (h : But d H H') (e : H d = some (.ins C dx fs)) : TupE H H' := h.tups fun xs z => by rw [e] at z; cases z
/-- a new object, what it stands in told by what stood -/
theorem newE {H : Hp} {p : Addr} (o : HO) (hp : H p = none) : ∃ H1, upd H p o = H1 ∧ Same H H1 ∧ H1 p = some o := ⟨_, rfl, Same.new hp, upd_same⟩
/-- an object changed -/
theorem chgE {H : Hp} {d : Addr} (o : HO) : ∃ H1, upd H d o = H1 ∧ But d H H1 ∧ H1 d = some o := ⟨_, rfl, fun b u hb e => by rw [upd_ne hb]; exact e, upd_same⟩
theorem DiskAt.notTup {A : Adr} {H : Hp} {d : Addr} {D : Dk} (h : DiskAt A H d D) : ∀ xs, H d ≠ some (.tup xs) := fun xs z => by
  obtain ⟨⟨_, _, _, h1, _⟩, _⟩ := h
  rw [h1] at z
  cases z
theorem DiskAt.there {A : Adr} {H : Hp} {d : Addr} {D : Dk} (h : DiskAt A H d D) : H d ≠ none := fun z => by
  obtain ⟨⟨_, _, _, h1, _⟩, _⟩ := h
  rw [h1] at z
  cases z

/-! ## Numbers -/
theorem line1000 {n : Nat} (h : n ≤ 1000000) : n ≤ sizeLine := by rw [sizeLine_eq]; omega
theorem line_lt {n : Nat} (h : n ≤ 1000000) : n < sizeLine := by rw [sizeLine_eq]; omega
/-- an int among values -/
theorem ints_get {ns : Pl} {i : Nat} {x : V} (h : (ns.map V.int)[i]? = some x) : ∃ n, ns[i]? = some n ∧ x = .int n := by
  rw [List.getElem?_map] at h
  cases e : ns[i]? with
  | none => rw [e] at h; cases h
  | some n => rw [e] at h; exact ⟨n, rfl, (Option.some.inj h).symm⟩
theorem ints_at {ns : Pl} {i : Nat} (h : i < ns.length) : (ns.map V.int)[i]? = some (.int (ns.getD i 0)) := by
  rw [List.getElem?_map, List.getD_eq_getElem?_getD, List.getElem?_eq_getElem h]
  rfl
end PG

set_option Elab.async false
set_option linter.all false
set_option autoImplicit false
set_option maxRecDepth 100000
set_option maxHeartbeats 4000000
namespace PG
open PySem L2
section
variable {P : Program} {w : World} {K : PySem.W.Frag} {mg : Str → Option Value} {base : Heap} {A : Adr}
/-! ## is_whole, is_below, is_cells -/
def oV : Option Int → V
  | none => .non
  | some i => .int i
def okLo : Option Int → Int → Bool
  | none, _ => true
  | some l, n => decide (l ≤ n)
def okHi : Option Int → Int → Bool
  | none, _ => true
  | some l, n => decide (n ≤ l)
def spWhole : Sp := fun vs H Q _ => ∃ (n : Int) (l h : Option Int), vs = [.int n, oV l, oV h] ∧ Q (.bl (okLo l n && okHi h n)) H
theorem sc_whole : FnScope ["thing", "low", "high"] ["thing", "low", "high"] (defScope (top 5)) := ⟨rfl, rfl, rfl, by decide +kernel, rfl, by decide +kernel, by decide +kernel⟩
theorem ok_is_whole (T : Txt K mg A) : FnOk P w K mg base CX0 1 A.a_is_whole A.d_is_whole ["thing", "low", "high"] spWhole := by
  refine T.w_is_whole.ok sc_whole (fun vs H Q E h => ?_) (fun cdv A0 outer s H vs Q E hr h => ?_)
  · obtain ⟨n, l, h, rfl, _⟩ := h
    rfl
  · obtain ⟨n, l, h, rfl, k⟩ := h
    refine ⟨_, PSs.nox (pss_cons (ps_if (PW.pt (pw_or (pt_not (pt_val (pe_callB call_isi (by rfl) T.z_isinstance (by decide +kernel) (pa_cons (pv 0) (pa_cons (pe_bltn (v := .ty "int") (u := .type "int") (by rfl) T.z_int (by decide +kernel) rfl) pa_nil)))))
        (pw_or1 (pt_val (pe_callB call_isi (by rfl) T.z_isinstance (by decide +kernel) (pa_cons (pv 0) (pa_cons (pe_bltn (v := .ty "bool") (u := .type "bool") (by rfl) T.z_bool (by decide +kernel) rfl) pa_nil)))))))
        (pss_one (ps_ret pe_bl)) pss_nil)
      (pss_one (ps_ret (pe_and (pe_or (pe_cmpR op_isN (pv 1) pe_non (nomark _)) (pe_one (pe_cmpR op_ge (pv 0) (pv 1) (nomark _))))
        (pe_one (pe_or (pe_cmpR op_isN (pv 2) pe_non (nomark _)) (pe_one (pe_cmpR op_le (pv 0) (pv 2) (nomark _))))))))), ?_⟩
    refine ⟨_, rfl, _, _, _, _, true, rfl, .ty "int", .base (.int _), kit_ty (by decide +kernel), _, rfl, ?_⟩
    refine iteF ⟨_, rfl, _, _, _, _, false, rfl, .ty "bool", .base (.int _), kit_ty (by decide +kernel), _, rfl, iteF ?_⟩
    have hi : ∀ b : Bool, Q (.bl (b && okHi h n)) H → ∃ c, V.bl b = .bl c ∧ if c = true then (tOrV (tOp (fun x y H Q => y = .non ∧ Q (.bl (decide (x = .non))) H) (tVar 2) (tC .non)) (tOp (rI0 fun i j => .bl (decide (i ≤ j))) (tVar 0) (tVar 2))) (start ["thing", "low", "high"] [.int n, oV l, oV h]) H Q else Q (.bl false) H := fun b q => by
      refine ⟨b, rfl, ?_⟩
      cases b with
      | false => exact iteF q
      | true =>
        refine iteT ⟨_, rfl, rfl, _, rfl, ?_⟩
        cases h with
        | none => exact iteT q
        | some h => exact iteF ⟨_, rfl, _, rfl, _, _, rfl, rfl, q⟩
    refine ⟨_, rfl, rfl, _, rfl, ?_⟩
    cases l with
    | none => exact iteT (hi true k)
    | some l => exact iteF ⟨_, rfl, _, rfl, _, _, rfl, rfl, hi (decide (l ≤ n)) k⟩
end
end PG

set_option Elab.async false
set_option linter.all false
set_option autoImplicit false
set_option maxRecDepth 100000
set_option maxHeartbeats 4000000
namespace PG
open PySem L2
theorem decInt (i j : Int) : decide (V.int i = V.int j) = decide (i = j) := by
  by_cases h : i = j
  · subst h; simp
  · rw [decide_eq_false h, decide_eq_false (fun z => h (by injection z))]
theorem ite_b {b : Bool} {P Q : Prop} (h1 : b = true → P) (h2 : b = false → Q) : if b = true then P else Q := by
  cases b with
  | true => exact iteT (h1 rfl)
  | false => exact iteF (h2 rfl)
theorem tYes_ok {σ : St} {H : Hp} {Q : Bool → Hp → Prop} (h : Q true H) : tYes σ H Q := h
theorem pe_gint {X : Cx} {x : Str} {n : Int} {t : Tok} {pos : Pos} (hg : Gl X x) (hm : X.mg x = some (.int n t)) (hd : (x == ("__debug__" : Str)) = false := by decide) : PE X (.Name x pos) (tC (.int n)) := pe_glob hg hm ⟨_, rfl⟩ hd
section
variable {P : Program} {w : World} {K : PySem.W.Frag} {mg : Str → Option Value} {base : Heap} {A : Adr}
theorem b_whole3 (T : Txt K mg A) : Binds K A.d_is_whole ["thing", "low", "high"] [] := by
  obtain ⟨ds, r, b⟩ := T.w_is_whole.binds1 (ps := ["thing", "low", "high"]) 3 2 (by simp) (by decide) (fun Tt kV doc pm an cdv ct us its hu hi => match us, hu, its, hi with | [_, _, _], _, [_, _], _ => ⟨_, rfl, rfl⟩)
  cases r
  exact b
theorem b_whole1 (T : Txt K mg A) : ∃ ds, Vals [.non, .non] ds ∧ Binds K A.d_is_whole ["thing", "low", "high"] ds :=
  T.w_is_whole.binds1 (ps := ["thing", "low", "high"]) 1 0 (by simp) (by decide) (fun Tt kV doc pm an cdv ct us its hu hi => match us, hu, its, hi with | [_], _, [_, _], _ => ⟨_, rfl, rfl⟩)
/-! ## is_below -/
def inB (n m : Int) : Bool := decide (0 ≤ n) && decide (n ≤ m - 1)
theorem inB_t {n m : Int} (h : 0 ≤ n) (h' : n < m) : inB n m = true := by
  unfold inB
  rw [decide_eq_true h, decide_eq_true (show n ≤ m - 1 by omega)]
  rfl
def spBelow : Sp := fun vs H Q _ => ∃ n m : Int, vs = [.int n, .int m] ∧ Q (.bl (inB n m)) H
theorem sc_below : FnScope ["value", "many"] ["value", "many"] (defScope (top 14)) := ⟨rfl, rfl, rfl, by decide +kernel, rfl, by decide +kernel, by decide +kernel⟩
theorem ok_is_below (T : Txt K mg A) : FnOk P w K mg base CX0 2 A.a_is_below A.d_is_below ["value", "many"] spBelow := by
  refine T.t_is_below.F.ok sc_below (fun vs H Q E h => ?_) (fun cdv A0 outer s H vs Q E hr h => ?_)
  · obtain ⟨n, m, rfl, _⟩ := h
    rfl
  · obtain ⟨n, m, rfl, k⟩ := h
    exact ⟨_, pss_one (ps_ret (pe_call (ok_is_whole T) hr rfl T.w_g T.w_is_whole.kp (b_whole3 T) .nil pass0 (pa_cons (pv 0) (pa_cons pe_int (pa_cons (pe_op op_sub (pv 1) pe_int) pa_nil))))),
      _, rfl, _, rfl, _, _, rfl, rfl, n, some 0, some (m - 1), rfl, k⟩
/-! ## is_cells -/
def spCells : Sp := fun vs H Q _ => ∃ (v : V) (ns : Pl), vs = [v] ∧ PlV H v ns ∧ ns.length ≤ 1000 ∧ ∀ H', Same H H' → Q (.bl (decide (ns.length = 8))) H'
theorem sc_cells : FnScope ["value", "number"] ["value"] (defScope (top 15)) := ⟨rfl, rfl, rfl, by decide +kernel, rfl, by decide +kernel, by decide +kernel⟩
/-- the reading of [is_whole(x) for x in t], t a tuple of ints, x in the slot i -/
theorem all_whole {a : Addr} {ns : Pl} {σ : St} {H : Hp} {i : Nat} {D : Addr} {Qd : Hp → Prop} (hD : H D = none) (hn : ns.length ≤ 1000) (ha : H a = some (.tup (ns.map V.int))) (hi : i < σ.length)
    (hq : ∀ H', Same H H' → H' D = some (.lst (List.replicate ns.length (.bl true))) → Qd H') :
    ∃ W : Nat → Nat → Hp → Prop, (∃ m, W 0 m (upd H D (.lst []))) ∧ ∀ j m H, W j m H →
      ((Itt K a).stop j H ∧ Qd H) ∨ ((Itt K a).go j H ∧ ∃ Nx : Hp → Prop, (∀ H', Nx H' → ∃ m', m' < m ∧ W (j + 1) m' H') ∧ ∀ x H', (Itt K a).yld j H x H' → gName i x (wipe σ [i]) H' fun σ2 H2 => wipe σ2 [i] = wipe σ [i] ∧ tYes σ2 H2 fun b H3 =>
        if b = true then tCall spWhole [.non, .non] E0 (tCons (tVar i) tNil) σ2 H3 fun y H4 => ∃ acc, H4 D = some (.lst acc) ∧ acc.length < sizeLine ∧ Nx (upd H4 D (.lst (acc ++ [y]))) else Nx H3) := by
  refine lc_tup (K := K) (a := a) (xs := ns.map V.int) (fun j H' => Same H H' ∧ H' D = some (.lst (List.replicate j (.bl true))))
    ⟨Same.new hD, upd_same⟩ (fun j H' _ p => SqT.of (p.1 _ _ ha)) ?_ ?_
  · rintro j x H' hj ⟨s, hd⟩
    obtain ⟨n, hn', rfl⟩ := ints_get hj
    have hlt : j < ns.length := (List.getElem?_eq_some_iff.mp hn').1
    have hw : (wipe σ [i]).length = σ.length := wipe_length _ _
    refine ⟨?_, tYes_ok (iteT ⟨.int n, ?_, n, none, none, rfl, _, hd, ?_, Same.upd0 s hD, ?_⟩)⟩
    · simp [wipe]
    · rw [List.getElem?_set_self (by rw [hw]; exact hi)]
    · rw [List.length_replicate]; exact line_lt (by omega)
    · rw [upd_same]
      show some (HO.lst (List.replicate j (V.bl true) ++ [V.bl (okLo none n && okHi none n)])) = _
      rw [List.replicate_succ']
      rfl
  · rintro H' ⟨s, hd⟩
    rw [List.length_map] at hd
    exact hq H' s hd
theorem all_true {n : Nat} {D : Addr} {H : Hp} {Q : VK} (h : H D = some (.lst (List.replicate n (.bl true)))) (q : Q (.bl true) H) : rAll K [.ref D] H Q := by
  refine ⟨D, List.replicate n true, rfl, SqL.of (by rw [h, List.map_replicate]), ?_⟩
  have : (List.replicate n true).all id = true := by simp
  rw [this]
  exact q
theorem ok_is_cells (T : Txt K mg A) : FnOk P w K mg base CX0 2 A.a_is_cells A.d_is_cells ["value"] spCells := by
  obtain ⟨ds, rds, bw⟩ := b_whole1 T
  obtain ⟨tw, hw⟩ := T.v_WIDTH
  refine T.t_is_cells.F.ok sc_cells (fun vs H Q E h => ?_) (fun cdv A0 outer s H vs Q E hr h => ?_)
  · obtain ⟨v, ns, rfl, _⟩ := h
    rfl
  · obtain ⟨v, ns, rfl, ⟨a, rfl, ha⟩, hl, k⟩ := h
    refine ⟨_, pss_one (ps_ret (pe_and (pe_callB call_isi (by rfl) T.z_isinstance (by decide +kernel) (pa_cons (pv 0) (pa_cons (pe_bltn (v := .ty "tuple") (u := .type "tuple") (by rfl) T.z_tuple (by decide +kernel) rfl) pa_nil)))
      (pe_and (pe_cmpR op_eq (pe_callB call_len_seq (by rfl) T.z_len PySem.boot_len (pa_cons (pv 0) pa_nil)) (pe_gint rfl hw) (nomark _))
      (pe_one (pe_callB (cr_all rfl) (by rfl) T.z_all (by decide +kernel) (pa_cons (pe_lc (own := [("number", 1)]) (g := gName 1) (tt := tYes) rfl sc_cells.nd (pi_tup (pv 0)) (blkOk_by (N := ["value", "number"]) (sc := defScope (top 15)) (by decide +kernel))
        (fun _ _ _ _ _ => pg_name (i := 1) sc_cells.nd rfl (Or.inl rfl)) (fun _ _ _ _ _ => pts_nil)
        (fun _ _ _ _ _ => pe_call (ok_is_whole T) hr rfl T.w_g T.w_is_whole.kp bw rds pass0 (pa_cons (pv 1) pa_nil))) pa_nil)))))), ?_⟩
    refine ⟨_, rfl, _, _, _, _, true, rfl, .ty "tuple", .base (.tup ha), kit_ty (by decide +kernel), _, rfl, iteT ?_⟩
    refine ⟨_, rfl, a, _, rfl, .inr (SqT.of ha), rfl, _, rfl, ?_⟩
    rw [List.length_map, decInt]
    by_cases h8 : ns.length = 8
    · rw [decide_eq_true (show (ns.length : Int) = 8 by omega)]
      rw [decide_eq_true h8] at k
      refine iteT ⟨_, rfl, a, rfl, ⟨_, SqT.of ha⟩, fun D hD => all_whole (i := 1) (σ := [some (.ref a), none]) hD hl ha (Nat.lt_succ_self 1) fun H' s hd => all_true hd (k _ s)⟩
    · rw [decide_eq_false (show ¬ (ns.length : Int) = 8 by omega)]
      rw [decide_eq_false h8] at k
      exact iteF (k _ (Same.refl _))
end
end PG

set_option Elab.async false
set_option linter.all false
set_option autoImplicit false
set_option maxRecDepth 100000
set_option maxHeartbeats 4000000
namespace PG
open PySem L2
section
variable {P : Program} {w : World} {K : PySem.W.Frag} {mg : Str → Option Value} {base : Heap} {A : Adr}
/-! ## head_plate, slot_plate, home_plate -/
def spHeadP : Sp := fun vs H Q _ => ∃ n : Int, vs = [.int n] ∧ Q (.int (n % 2)) H
theorem sc_headp : FnScope ["number"] ["number"] (defScope (top 25)) := ⟨rfl, rfl, rfl, by decide +kernel, rfl, by decide +kernel, by decide +kernel⟩
theorem ok_head_plate (T : Txt K mg A) : FnOk P w K mg base CX0 1 A.a_head_plate A.d_head_plate ["number"] spHeadP := by
  obtain ⟨tw, hw⟩ := T.v_HEADS
  refine T.t_head_plate.F.ok sc_headp (fun vs H Q E h => ?_) (fun cdv A0 outer s H vs Q E hr h => ?_)
  · obtain ⟨n, rfl, _⟩ := h
    rfl
  · obtain ⟨n, rfl, k⟩ := h
    exact ⟨_, pss_one (ps_ret (pe_op op_mod (pv 0) (pe_gint rfl hw))), _, rfl, _, _, rfl, rfl, (by show (0 : Int) < 2; decide), k⟩
def spSlotP : Sp := fun vs H Q _ => ∃ (s : Nat) (t : Int), vs = [.int s, .int t] ∧ 0 < s ∧ Q (.int (slotP s t)) H
theorem sc_slotp : FnScope ["slots", "slot"] ["slots", "slot"] (defScope (top 30)) := ⟨rfl, rfl, rfl, by decide +kernel, rfl, by decide +kernel, by decide +kernel⟩
theorem ok_slot_plate (T : Txt K mg A) : FnOk P w K mg base CX0 1 A.a_slot_plate A.d_slot_plate ["slots", "slot"] spSlotP := by
  obtain ⟨tw, hw⟩ := T.v_HEADS
  refine T.t_slot_plate.F.ok sc_slotp (fun vs H Q E h => ?_) (fun cdv A0 outer s H vs Q E hr h => ?_)
  · obtain ⟨n, t, rfl, _⟩ := h
    rfl
  · obtain ⟨n, t, rfl, hn, k⟩ := h
    exact ⟨_, pss_one (ps_ret (pe_op op_add (pe_gint rfl hw) (pe_op op_mod (pv 1) (pv 0)))), _, rfl, _, rfl, _, _, rfl, rfl, (by show (0 : Int) < n; omega), _, _, rfl, rfl, k⟩
def spHomeP : Sp := fun vs H Q _ => ∃ (s : Nat) (p : Int), vs = [.int s, .int p] ∧ Q (.int (homeP s p)) H
theorem sc_homep : FnScope ["slots", "plate"] ["slots", "plate"] (defScope (top 37)) := ⟨rfl, rfl, rfl, by decide +kernel, rfl, by decide +kernel, by decide +kernel⟩
theorem ok_home_plate (T : Txt K mg A) : FnOk P w K mg base CX0 1 A.a_home_plate A.d_home_plate ["slots", "plate"] spHomeP := by
  obtain ⟨tw, hw⟩ := T.v_HEADS
  refine T.t_home_plate.F.ok sc_homep (fun vs H Q E h => ?_) (fun cdv A0 outer s H vs Q E hr h => ?_)
  · obtain ⟨n, t, rfl, _⟩ := h
    rfl
  · obtain ⟨n, t, rfl, k⟩ := h
    exact ⟨_, pss_one (ps_ret (pe_op op_add (pe_op op_add (pe_gint rfl hw) (pv 0)) (pv 1))), _, rfl, _, _, rfl, rfl, _, rfl, _, _, rfl, rfl, k⟩
/-! ## Disk.__init__ -/
theorem DN_put0 (v : V) : putF "settled" v [] = (["settled"] : List Str).zip [v] := rfl
theorem DN_put1 (v w : V) : putF "loose" w ((["settled"] : List Str).zip [v]) = DN.zip [v, w] := putF_new (by decide +kernel) rfl
theorem DN_set0 (v w x : V) : putF "settled" x (DN.zip [v, w]) = DN.zip [x, w] := putF_zip (i := 0) DN_nd rfl (by show 0 < 2; decide)
theorem DN_set1 (v w x : V) : putF "loose" x (DN.zip [v, w]) = DN.zip [v, x] := putF_zip (i := 1) DN_nd rfl (by show 1 < 2; decide)
theorem DN_get0 (v w : V) : (DN.zip [v, w]).lookup ("settled" : Str) = some v := lookup_zip (i := 0) DN_nd rfl rfl
theorem DN_get1 (v w : V) : (DN.zip [v, w]).lookup ("loose" : Str) = some w := lookup_zip (i := 1) DN_nd rfl rfl
theorem DN_no {f : Str} (v w : V) (h : f ∉ DN) : (DN.zip [v, w]).lookup f = none := lookup_zip_none h
theorem flat_rep {α : Type} (x : α) : ∀ n : Nat, (List.replicate n [x]).flatten = List.replicate n x
  | 0 => rfl
  | n + 1 => by rw [List.replicate_succ, List.flatten_cons, flat_rep x n]; rfl
def spDiskInit (A : Adr) : Sp := fun vs H Q _ => ∃ (d dx : Addr) (n : Nat), vs = [.ref d, .int n] ∧ H d = some (.ins A.c_Disk dx []) ∧ 2 ≤ n ∧ n ≤ 1000 ∧ ∀ H', DiskAt A H' d ⟨List.replicate n [], []⟩ → But d H H' → Q .non H'
theorem sc_dinit : FnScope ["self", "many"] ["self", "many"] (defScope (inClass (top 21) 0)) := ⟨rfl, rfl, rfl, by decide +kernel, rfl, by decide +kernel, by decide +kernel⟩
theorem ok_Disk_init (T : Txt K mg A) : FnOk P w K mg base CX0 1 A.a_Disk___init__ A.d_Disk___init__ ["self", "many"] (spDiskInit A) := by
  refine T.k_Disk.F.ok sc_dinit (fun vs H Q E h => ?_) (fun cdv A0 outer s H vs Q E hr h => ?_)
  · obtain ⟨d, dx, n, rfl, _⟩ := h
    rfl
  · obtain ⟨d, dx, n, rfl, hd, n1, n2, k⟩ := h
    refine ⟨_, pss_cons (ps_fld (pv 0) (pe_op op_repT (pe_tup (pa_cons (pe_tup pa_nil) pa_nil)) (pv 1)) rfl) (pss_one (ps_fld (pv 0) (pe_tup pa_nil) rfl)), ?_⟩
    refine ⟨Nat.zero_le _, fun p np => ?_⟩
    obtain ⟨H1, e1, s1, hp⟩ := newE (.tup []) np
    rw [e1]
    refine ⟨line1000 (by show 1 ≤ 1000000; decide), fun q nq => ?_⟩
    obtain ⟨H2, e2, s2, hq⟩ := newE (.tup [V.ref p]) nq
    rw [e2]
    refine ⟨_, rfl, q, n, _, rfl, rfl, SqT.of hq, List.cons_ne_nil _ _, by omega, by omega, by show 1 ≤ 1000; decide, fun r nr => ?_⟩
    rw [flat_rep, Int.toNat_natCast]
    obtain ⟨H3, e3, s3, hr3⟩ := newE (.tup (List.replicate n (V.ref p))) nr
    rw [e3]
    have s13 := s1.trans (s2.trans s3)
    refine ⟨_, rfl, d, A.c_Disk, dx, [], rfl, s13 _ _ hd, T.k_Disk.c, T.n_Disk_settled, (by show 0 < 1000; decide), ?_⟩
    rw [DN_put0]
    obtain ⟨H4, e4, b4, hd4⟩ := chgE (H := H3) (d := d) (.ins A.c_Disk dx ((["settled"] : List Str).zip [V.ref r]))
    rw [e4]
    refine ⟨Nat.zero_le _, fun t nt => ?_⟩
    obtain ⟨H5, e5, s5, ht⟩ := newE (.tup []) nt
    rw [e5]
    refine ⟨_, rfl, d, A.c_Disk, dx, _, rfl, s5 _ _ hd4, T.k_Disk.c, T.n_Disk_loose, (by show 1 < 1000; decide), ?_⟩
    rw [DN_put1]
    obtain ⟨H6, e6, b6, hd6⟩ := chgE (H := H5) (d := d) (.ins A.c_Disk dx (DN.zip [V.ref r, V.ref t]))
    rw [e6]
    have t4 : TupE H3 H4 := b4.ins (s13 _ _ hd)
    have t6 : TupE H4 H6 := (Same.tups s5).trans (b6.ins (s5 _ _ hd4))
    refine k _ ⟨⟨dx, r, t, hd6, ⟨_, t6 _ _ (t4 _ _ hr3), AllV.rep n ⟨p, rfl, t6 _ _ (t4 _ _ (s3 _ _ (s2 _ _ hp)))⟩⟩, ⟨[], b6.ins (s5 _ _ hd4) _ _ ht, AllV.nil⟩⟩, by simpa using n2, Nat.zero_le _, fun e he => (by cases he), by simpa using n1⟩ ?_
    exact (Same.but' s13).trans (b4.trans ((Same.but' s5).trans b6))
end
end PG

set_option Elab.async false
set_option linter.all false
set_option autoImplicit false
set_option maxRecDepth 100000
set_option maxHeartbeats 4000000
namespace PG
open PySem L2
theorem ixN_of {n : Nat} {i : Int} (h0 : 0 ≤ i) (h1 : i < n) : ixN n i = some i.toNat := by
  unfold ixN
  rw [if_pos h0, if_pos h1]
theorem atI_of {xs : List V} {i : Nat} {z : Int} {v : V} (hz : z = (i : Int)) (h : xs[i]? = some v) : atI xs z = some v := by
  rw [hz]
  exact atI_nat h
/-- t[:m] of a tuple -/
theorem sl_take {K : PySem.W.Frag} {H : Hp} {Q : VK} {a : Addr} {xs : List V} {m : Nat} (ha : H a = some (.tup xs)) (hm : m ≤ xs.length) (h : ∀ a' H', Same H H' → H' a' = some (.tup (xs.take m)) → Q (.ref a') H') : rSlA K (.ref a) none (some (m : Int)) H Q := by
  have e1 : HT.sIx xs.length 0 none = 0 := HT.sIx_none _ _
  have e2 : HT.sIx xs.length xs.length (some (m : Int)) = m := by rw [HT.sIx_nat]; omega
  refine ⟨a, xs, rfl, SqT.of ha, fun w => ?_, fun w p np => ?_⟩
  · refine h a H (Same.refl _) ?_
    rw [e2] at w
    rw [List.take_of_length_le (by omega)]
    exact ha
  · refine h p _ (Same.new np) ?_
    rw [upd_same]
    unfold cutV
    rw [e1, e2]
    rfl
section
variable {P : Program} {w : World} {K : PySem.W.Frag} {mg : Str → Option Value} {base : Heap} {A : Adr}
/-! ## Disk.write -/
def spDiskWrite (A : Adr) : Sp := fun vs H Q _ => ∃ (d : Addr) (D : Dk) (p : Int) (v : V) (ns : Pl), vs = [.ref d, .int p, v] ∧ DiskAt A H d D ∧ PlV H v ns ∧ 0 ≤ p ∧ p < D.settled.length ∧ D.loose.length < 100000 ∧
  ∀ H', DiskAt A H' d (D.step (.wr p ns)) → But d H H' → Q .non H'
theorem sc_dwrite : FnScope ["self", "plate", "value"] ["self", "plate", "value"] (defScope (inClass (top 21) 1)) := ⟨rfl, rfl, rfl, by decide +kernel, rfl, by decide +kernel, by decide +kernel⟩
theorem ok_Disk_write (T : Txt K mg A) : FnOk P w K mg base CX0 3 A.a_Disk_write A.d_Disk_write ["self", "plate", "value"] (spDiskWrite A) := by
  refine T.m_Disk_write.F.ok sc_dwrite (fun vs H Q E h => ?_) (fun cdv A0 outer s H vs Q E hr h => ?_)
  · obtain ⟨d, D, p, v, ns, rfl, _⟩ := h
    rfl
  · obtain ⟨d, D, p, v, ns, rfl, ⟨⟨dx, sa, la, hd, ⟨xs, hs, hxs⟩, ⟨ys, hl, hys⟩⟩, z1, z2, z3, z4⟩, hv, p0, p1, lz, k⟩ := h
    refine ⟨_, pss_cons (ps_if (pt_not (pt_val (pe_call (ok_is_below T) hr rfl T.t_is_below.g T.t_is_below.F.kp T.t_is_below.b .nil pass0 (pa_cons (pv 1) (pa_cons (pe_callB call_len_seq (by rfl) T.z_len PySem.boot_len (pa_cons (pe_fld (pv 0) rfl) pa_nil)) pa_nil)))))
        (pss_one ps_never) pss_nil)
      (pss_one (ps_fld (pv 0) (pe_tup (StX.pa_star (pe_fld (pv 0) rfl) (pa_cons (pe_tup (pa_cons (pv 1) (pa_cons (pv 2) pa_nil))) pa_nil))) rfl)), ?_⟩
    refine ⟨_, rfl, _, rfl, d, A.c_Disk, dx, _, _, rfl, hd, T.k_Disk.c, T.n_Disk_settled, DN_get0 _ _, sa, xs, rfl, .inr (SqT.of hs), p, _, rfl, _, rfl, ?_⟩
    rw [hxs.len, inB_t p0 p1]
    refine iteF ?_
    refine ⟨_, rfl, d, A.c_Disk, dx, _, _, rfl, hd, T.k_Disk.c, T.n_Disk_loose, DN_get1 _ _, la, ys, rfl, .inl (SqT.of hl), _, rfl, _, rfl, line1000 (by show 2 ≤ 1000000; decide), fun t nt => ?_⟩
    obtain ⟨H1, e1, s1, ht⟩ := newE (.tup [V.int p, v]) nt
    rw [e1]
    refine ⟨line1000 (by rw [List.length_append, hys.len]; show D.loose.length + 1 ≤ 1000000; omega), fun q nq => ?_⟩
    obtain ⟨H2, e2, s2, hq⟩ := newE (.tup (ys ++ [V.ref t])) nq
    rw [e2]
    refine ⟨_, rfl, d, A.c_Disk, dx, _, rfl, s2 _ _ (s1 _ _ hd), T.k_Disk.c, T.n_Disk_loose, (by show 2 < 1000; decide), ?_⟩
    rw [DN_set1]
    obtain ⟨H3, e3, b3, hd3⟩ := chgE (H := H2) (d := d) (.ins A.c_Disk dx (DN.zip [V.ref sa, V.ref q]))
    rw [e3]
    have t3 : TupE H2 H3 := b3.ins (s2 _ _ (s1 _ _ hd))
    have t03 : TupE H H3 := (Same.tups s1).trans ((Same.tups s2).trans t3)
    refine k _ ⟨⟨dx, sa, q, hd3, ⟨xs, t03 _ _ hs, hxs.mono fun _ _ z => z.mono t03⟩, ⟨_, t3 _ _ hq, (hys.mono fun _ _ z => z.mono t03).snoc ⟨t, v, rfl, t3 _ _ (s2 _ _ ht), hv.mono t03⟩⟩⟩, z1, ?_, ?_, z4⟩ ?_
    · show (D.loose ++ [(p, ns)]).length ≤ 100000
      rw [List.length_append, List.length_singleton]
      omega
    · intro e he
      rcases List.mem_append.mp (show e ∈ D.loose ++ [(p, ns)] from he) with he | he
      · exact z3 e he
      · rw [List.mem_singleton] at he
        subst he
        exact ⟨p0, p1⟩
    · exact (Same.but' s1).trans ((Same.but' s2).trans b3)
/-! ## after_barrier, Disk.barrier -/
def spAfterB : Sp := fun vs H Q _ => ∃ (sa la : Addr) (s : List Pl) (l : List (Int × Pl)), vs = [.ref sa, .ref la] ∧ SettV H sa s ∧ EntsV H la l ∧ (∀ e ∈ l, 0 ≤ e.1 ∧ e.1 < s.length) ∧ s.length ≤ 1000 ∧
  ∀ p H', Same H H' → SettV H' p (flushL s l) → Q (.ref p) H'
theorem sc_afterb : FnScope ["settled", "loose", "found", "plate", "value"] ["settled", "loose"] (defScope (top 20)) := ⟨rfl, rfl, rfl, by decide +kernel, rfl, by decide +kernel, by decide +kernel⟩
theorem flushL_take {s : List Pl} {l : List (Int × Pl)} {i : Nat} {e : Int × Pl} (h : l[i]? = some e) : flushL s (l.take (i + 1)) = (flushL s (l.take i)).set e.1.toNat e.2 := by
  rw [take_snoc h, flushL_append]
  rfl
theorem ok_after_barrier (T : Txt K mg A) : FnOk P w K mg base CX0 1 A.a_after_barrier A.d_after_barrier ["settled", "loose"] spAfterB := by
  refine T.t_after_barrier.F.ok sc_afterb (fun vs H Q E h => ?_) (fun cdv A0 outer s H vs Q E hr h => ?_)
  · obtain ⟨sa, la, s, l, rfl, _⟩ := h
    rfl
  · obtain ⟨sa, la, st, l, rfl, ⟨xs, hs, hxs⟩, ⟨ys, hl, hys⟩, lr, sz, k⟩ := h
    refine ⟨_, pss_cons (ps_set (i := 2) sc_afterb.nd rfl (Or.inl rfl) (pe_callTy call_list_of (by rfl) T.z_list (by decide +kernel) (pa_cons (pv 0) pa_nil)))
      (pss_cons (ps_for PassesOwn.never rfl (pi_tup (pv 1)) (pg_tup rfl (pgs_cons (pg_name (i := 3) sc_afterb.nd rfl (Or.inl rfl)) (pgs_cons (pg_name (i := 4) sc_afterb.nd rfl (Or.inl rfl)) pgs_nil)))
        (pss_one (ps_asg (pv 4) (pg_sub (pv 2) (pv 3) set_list))))
      (pss_one (ps_ret (pe_callTy call_tuple_of (by rfl) T.z_tuple (by decide +kernel) (pa_cons (pv 2) pa_nil))))), ?_⟩
    refine ⟨_, rfl, sa, xs, rfl, .inr (SqT.of hs), fun f nf => ?_⟩
    refine ⟨_, rfl, la, rfl, ⟨_, SqT.of (Same.new nf _ _ hl)⟩, for_tup (K := K) (a := la) (xs := ys) (fun i σ H' => ∃ (v3 v4 : Option V) (zs : List V), σ = [some (.ref sa), some (.ref la), some (.ref f), v3, v4] ∧ Same H H' ∧ H' f = some (.lst zs) ∧ AllV (PlV H') zs (flushL st (l.take i)))
      ⟨none, none, xs, rfl, Same.new nf, upd_same, hxs.mono fun _ _ z => z.mono (Same.tups (Same.new nf))⟩ (fun i σ H' _ ⟨_, _, _, _, s1, _⟩ => SqT.of (s1 _ _ hl)) ?_ ?_⟩
    · rintro i x σ H' hi ⟨v3, v4, zs, rfl, s1, hf, hzs⟩
      obtain ⟨e, he, a, y, rfl, ha, hy⟩ := hys.at hi
      have hr' := lr e (List.mem_of_getElem? he)
      refine ⟨a, _, rfl, SqT.of (s1 _ _ ha), rfl, _, _, rfl, _, _, rfl, rfl, ?_⟩
      refine ⟨_, rfl, _, rfl, _, rfl, f, zs, e.1, e.1.toNat, rfl, rfl, hf, ixN_of hr'.1 (by rw [hzs.len, len_flushL]; exact hr'.2), ?_⟩
      have te : TupE H' (upd H' f (.lst (zs.set e.1.toNat y))) := TupE.upd fun z q => by rw [hf] at q; cases q
      refine ⟨_, _, _, rfl, Same.upd0 s1 nf, upd_same, ?_⟩
      rw [flushL_take he]
      exact (hzs.mono fun _ _ z => z.mono te).set (hy.mono ((Same.tups s1).trans te)) _
    · rintro σ H' ⟨v3, v4, zs, rfl, s1, hf, hzs⟩
      rw [hys.len, List.take_length] at hzs
      refine ⟨_, rfl, f, zs, rfl, .inl ⟨SqL.of hf, fun p np => ?_⟩⟩
      obtain ⟨H2, e2, s2, hp⟩ := newE (.tup zs) np
      rw [e2]
      exact k p H2 (s1.trans s2) ⟨zs, hp, hzs.mono fun _ _ z => z.mono (Same.tups s2)⟩
def spDiskBar (A : Adr) : Sp := fun vs H Q _ => ∃ (d : Addr) (D : Dk), vs = [.ref d] ∧ DiskAt A H d D ∧ ∀ H', DiskAt A H' d (D.step .bar) → But d H H' → Q .non H'
theorem sc_dbar : FnScope ["self"] ["self"] (defScope (inClass (top 21) 2)) := ⟨rfl, rfl, rfl, by decide +kernel, rfl, by decide +kernel, by decide +kernel⟩
theorem ok_Disk_barrier (T : Txt K mg A) : FnOk P w K mg base CX0 2 A.a_Disk_barrier A.d_Disk_barrier ["self"] (spDiskBar A) := by
  refine T.m_Disk_barrier.F.ok sc_dbar (fun vs H Q E h => ?_) (fun cdv A0 outer s H vs Q E hr h => ?_)
  · obtain ⟨d, D, rfl, _⟩ := h
    rfl
  · obtain ⟨d, D, rfl, ⟨⟨dx, sa, la, hd, hs, hl⟩, z1, z2, z3, z4⟩, k⟩ := h
    refine ⟨_, pss_cons (ps_fld (pv 0) (pe_call (ok_after_barrier T) hr rfl T.t_after_barrier.g T.t_after_barrier.F.kp T.t_after_barrier.b .nil pass0 (pa_cons (pe_fld (pv 0) rfl) (pa_cons (pe_fld (pv 0) rfl) pa_nil))) rfl)
      (pss_one (ps_fld (pv 0) (pe_tup pa_nil) rfl)), ?_⟩
    refine ⟨_, rfl, d, A.c_Disk, dx, _, _, rfl, hd, T.k_Disk.c, T.n_Disk_settled, DN_get0 _ _, _, rfl, d, A.c_Disk, dx, _, _, rfl, hd, T.k_Disk.c, T.n_Disk_loose, DN_get1 _ _, sa, la, _, _, rfl, hs, hl, z3, z1, fun p H1 s1 hp => ?_⟩
    refine ⟨_, rfl, d, A.c_Disk, dx, _, rfl, s1 _ _ hd, T.k_Disk.c, T.n_Disk_settled, (by show 2 < 1000; decide), ?_⟩
    rw [DN_set0]
    obtain ⟨H2, e2, b2, hd2⟩ := chgE (H := H1) (d := d) (.ins A.c_Disk dx (DN.zip [V.ref p, V.ref la]))
    rw [e2]
    refine ⟨Nat.zero_le _, fun q nq => ?_⟩
    obtain ⟨H3, e3, s3, hq⟩ := newE (.tup []) nq
    rw [e3]
    refine ⟨_, rfl, d, A.c_Disk, dx, _, rfl, s3 _ _ hd2, T.k_Disk.c, T.n_Disk_loose, (by show 2 < 1000; decide), ?_⟩
    rw [DN_set1]
    obtain ⟨H4, e4, b4, hd4⟩ := chgE (H := H3) (d := d) (.ins A.c_Disk dx (DN.zip [V.ref p, V.ref q]))
    rw [e4]
    have t2 : TupE H1 H2 := b2.ins (s1 _ _ hd)
    have t4 : TupE H3 H4 := b4.ins (s3 _ _ hd2)
    refine k _ ⟨⟨dx, p, q, hd4, hp.mono (t2.trans ((Same.tups s3).trans t4)), ⟨[], t4 _ _ hq, AllV.nil⟩⟩, ?_, Nat.zero_le _, fun e he => (by cases he), ?_⟩ ((Same.but' s1).trans (b2.trans ((Same.but' s3).trans b4)))
    · show (flushL D.settled D.loose).length ≤ 1000
      rw [len_flushL]
      exact z1
    · show 2 ≤ (flushL D.settled D.loose).length
      rw [len_flushL]
      exact z4
/-! ## disk_after -/
theorem loose_run_le : ∀ (t : List Ev) (D : Dk), (D.run t).loose.length ≤ D.loose.length + t.length
  | [], D => Nat.le_refl _
  | .wr p v :: t, D => by
    have := loose_run_le t (D.step (.wr p v))
    have e : (D.step (.wr p v)).loose.length = D.loose.length + 1 := by simp [Dk.step]
    show ((D.step (.wr p v)).run t).loose.length ≤ _
    rw [List.length_cons]
    omega
  | .bar :: t, D => by
    have := loose_run_le t (D.step .bar)
    have e : (D.step .bar).loose.length = 0 := by simp [Dk.step]
    show ((D.step .bar).run t).loose.length ≤ _
    rw [List.length_cons]
    omega
theorem run_take {D : Dk} {t : List Ev} {i : Nat} {e : Ev} (h : t[i]? = some e) : D.run (t.take (i + 1)) = (D.run (t.take i)).step e := by
  rw [take_snoc h, run_append]
  rfl
def EvOk (n : Nat) (t : List Ev) : Prop := ∀ x ∈ wrs t, 0 ≤ x.1 ∧ x.1 < n
theorem EvOk.at {n : Nat} {t : List Ev} {i : Nat} {p : Int} {v : Pl} (h : EvOk n t) (e : t[i]? = some (.wr p v)) : 0 ≤ p ∧ p < n := by
  have : (p, v) ∈ wrs t := by
    obtain ⟨hi, e'⟩ := List.getElem?_eq_some_iff.mp e
    rw [← List.take_append_drop i t, List.drop_eq_getElem_cons hi, e', wrs_append]
    exact List.mem_append_right _ List.mem_cons_self
  exact h _ this
def spDiskAfter (A : Adr) : Sp := fun vs H Q _ => ∃ (d ta : Addr) (D : Dk) (t : List Ev) (m : Nat), vs = [.ref d, .ref ta, .int m] ∧ DiskAt A H d D ∧ TrV H ta t ∧ m ≤ t.length ∧ EvOk D.settled.length t ∧ D.loose.length + t.length ≤ 100000 ∧
  ∀ f H', Same H H' → H f = none → DiskAt A H' f (D.run (t.take m)) → Q (.ref f) H'
theorem sc_dafter : FnScope ["disk", "trace", "moment", "found", "event"] ["disk", "trace", "moment"] (defScope (top 22)) := ⟨rfl, rfl, rfl, by decide +kernel, rfl, by decide +kernel, by decide +kernel⟩
theorem ok_disk_after (T : Txt K mg A) : FnOk P w K mg base CX0 4 A.a_disk_after A.d_disk_after ["disk", "trace", "moment"] (spDiskAfter A) := by
  refine T.t_disk_after.F.ok sc_dafter (fun vs H Q E h => ?_) (fun cdv A0 outer s H vs Q E hr h => ?_)
  · obtain ⟨d, ta, D, t, m, rfl, _⟩ := h
    rfl
  · obtain ⟨d, ta, D, t, m, rfl, ⟨⟨dx, sa, la, hd, hs, hl⟩, z1, z2, z3, z4⟩, ⟨es, ht, hes⟩, hm, ok, hz, k⟩ := h
    obtain ⟨xs, hs1, hxs⟩ := id hs
    refine ⟨_, pss_cons (ps_if (pt_not (pt_val (pe_call (ok_is_below T) (hr.mono (by decide)) rfl T.t_is_below.g T.t_is_below.F.kp T.t_is_below.b .nil pass0 (pa_cons (pv 2) (pa_cons (pe_op op_add (pe_callB call_len_seq (by rfl) T.z_len PySem.boot_len (pa_cons (pv 1) pa_nil)) pe_int) pa_nil)))))
        (pss_one ps_never) pss_nil)
      (pss_cons (ps_set (i := 3) sc_dafter.nd rfl (Or.inl rfl) (pe_make T.k_Disk.M (ok_Disk_init T) (hr.mono (by decide)) rfl T.k_Disk.g T.k_Disk.b .nil pass0 (pa_cons (pe_callB call_len_seq (by rfl) T.z_len PySem.boot_len (pa_cons (pe_fld (pv 0) rfl) pa_nil)) pa_nil)))
      (pss_cons (ps_fld (pv 3) (pe_fld (pv 0) rfl) rfl) (pss_cons (ps_fld (pv 3) (pe_fld (pv 0) rfl) rfl)
      (pss_cons (ps_for PassesOwn.never rfl (pi_tup (pe_slice sl_tupA (pv 1) po_none (po_some (pv 2)))) (pg_name (i := 4) sc_dafter.nd rfl (Or.inl rfl))
        (pss_one (ps_if (pt_cmpR op_eq (pe_ix ix_tup (pv 4) pe_int (fun _ _ => rfl)) pe_str (nomark _))
          (pss_one (ps_expr (pe_meth0 (pv 3) T.k_Disk.c T.m_Disk_barrier.M (ok_Disk_barrier T) (hr.mono (by decide)) T.m_Disk_barrier.b .nil pass0)))
          (pss_one (ps_expr (pe_meth (pv 3) T.k_Disk.c T.m_Disk_write.M (ok_Disk_write T) hr T.m_Disk_write.b .nil pass0 (pa_cons (pe_ix ix_tup (pv 4) pe_int (fun _ _ => rfl)) (pa_cons (pe_ix ix_tup (pv 4) pe_int (fun _ _ => rfl)) pa_nil))))))))
      (pss_one (ps_ret (pv 3))))))), ?_⟩
    refine ⟨_, rfl, _, rfl, ta, es, rfl, .inr (SqT.of ht), _, _, rfl, rfl, (m : Int), _, rfl, _, rfl, ?_⟩
    rw [hes.len, inB_t (by omega) (by omega)]
    refine iteF ?_
    refine ⟨_, rfl, d, A.c_Disk, dx, _, _, rfl, hd, T.k_Disk.c, T.n_Disk_settled, DN_get0 _ _, sa, xs, rfl, .inr (SqT.of hs1), fun f fx nf nfx ne => ?_⟩
    rw [hxs.len]
    have s0 : Same H (upd (upd H fx (.own f)) f (.ins A.c_Disk fx [])) := fun b o e => by
      rw [upd_ne (ne_of_none e nf), upd_ne (ne_of_none e nfx)]
      exact e
    refine ⟨f, fx, D.settled.length, rfl, upd_same, z4, z1, fun H1 hf1 b1 => ⟨rfl, ?_⟩⟩
    have s1 : Same H H1 := fun b o e => b1 b o (ne_of_none e nf) (s0 b o e)
    obtain ⟨⟨fx', fa, fl, hf, _, _⟩, _⟩ := hf1
    refine ⟨_, rfl, d, A.c_Disk, dx, _, _, rfl, s1 _ _ hd, T.k_Disk.c, T.n_Disk_settled, DN_get0 _ _, _, rfl, f, A.c_Disk, fx', _, rfl, hf, T.k_Disk.c, T.n_Disk_settled, (by show 2 < 1000; decide), ?_⟩
    rw [DN_set0]
    obtain ⟨H2, e2, b2, hf2⟩ := chgE (H := H1) (d := f) (.ins A.c_Disk fx' (DN.zip [V.ref sa, V.ref fl]))
    rw [e2]
    have s2 : Same H H2 := Same.but s1 b2 nf
    refine ⟨_, rfl, d, A.c_Disk, dx, _, _, rfl, s2 _ _ hd, T.k_Disk.c, T.n_Disk_loose, DN_get1 _ _, _, rfl, f, A.c_Disk, fx', _, rfl, hf2, T.k_Disk.c, T.n_Disk_loose, (by show 2 < 1000; decide), ?_⟩
    rw [DN_set1]
    obtain ⟨H3, e3, b3, hf3⟩ := chgE (H := H2) (d := f) (.ins A.c_Disk fx' (DN.zip [V.ref sa, V.ref la]))
    rw [e3]
    have s3 : Same H H3 := Same.but s2 b3 nf
    have D3 : DiskAt A H3 f D := ⟨⟨fx', sa, la, hf3, hs.mono (Same.tups s3), hl.mono (Same.tups s3)⟩, z1, z2, z3, z4⟩
    refine ⟨_, rfl, _, rfl, m, rfl, sl_take (s3 _ _ ht) (by rw [hes.len]; exact hm) fun ta' H4 s4 ht' => ?_⟩
    have hes' : AllV (EvV H) (es.take m) (t.take m) := hes.take m
    have s04 := s3.trans s4
    refine ⟨ta', rfl, ⟨_, SqT.of ht'⟩, for_tup (K := K) (a := ta') (xs := es.take m) (fun i σ H' => ∃ v4 : Option V, σ = [some (.ref d), some (.ref ta), some (.int m), some (.ref f), v4] ∧ Same H H' ∧ H' ta' = some (.tup (es.take m)) ∧ DiskAt A H' f (D.run (t.take i)))
      ⟨none, rfl, s04, ht', D3.same s4⟩ (fun i σ H' _ ⟨_, _, _, h, _⟩ => SqT.of h) ?_ ?_⟩
    · rintro i x σ H' hi ⟨v4, rfl, s5, hta, hD⟩
      obtain ⟨e, he, hev⟩ := hes'.at hi
      have he' : t[i]? = some e := by
        rw [List.getElem?_take] at he
        split at he
        · exact he
        · cases he
      obtain ⟨⟨gx, ga, gl, hg, _⟩, _⟩ := id hD
      have hno := hD.notTup
      cases e with
      | bar =>
        obtain ⟨a, rfl, ha⟩ := hev
        refine ⟨_, rfl, a, _, 0, _, rfl, rfl, SqT.of (s5 _ _ ha), atI_of (i := 0) rfl rfl, rfl, _, rfl, ?_⟩
        rw [decide_eq_true (rfl : V.str "barrier" = V.str "barrier")]
        refine iteT ⟨_, rfl, f, gx, _, rfl, hg, DN_no _ _ (by decide +kernel), f, _, rfl, hD, fun H6 hD6 b6 => ?_⟩
        exact ⟨_, rfl, Same.but s5 b6 nf, b6.tups hno _ _ hta, by rw [run_take he']; exact hD6⟩
      | wr p ns =>
        obtain ⟨a, y, rfl, ha, hy⟩ := hev
        have hp := ok.at he'
        refine ⟨_, rfl, a, _, 0, _, rfl, rfl, SqT.of (s5 _ _ ha), atI_of (i := 0) rfl rfl, rfl, _, rfl, ?_⟩
        rw [decide_eq_false (by decide +kernel : ¬ V.str "write" = V.str "barrier")]
        refine iteF ⟨_, rfl, f, gx, _, rfl, hg, DN_no _ _ (by decide +kernel), _, rfl, a, _, 1, _, rfl, rfl, SqT.of (s5 _ _ ha), atI_of (i := 1) rfl rfl, _, rfl, a, _, 2, _, rfl, rfl, SqT.of (s5 _ _ ha), atI_of (i := 2) rfl rfl, f, _, p, y, ns, rfl, hD, hy.mono (Same.tups s5), hp.1, ?_, ?_, fun H6 hD6 b6 => ?_⟩
        · rw [len_settled_run]; exact hp.2
        · have h1 := loose_run_le (t.take i) D
          have h2 : i < t.length := (List.getElem?_eq_some_iff.mp he').1
          rw [List.length_take] at h1
          omega
        · exact ⟨_, rfl, Same.but s5 b6 nf, b6.tups hno _ _ hta, by rw [run_take he']; exact hD6⟩
    · rintro σ H' ⟨v4, rfl, s5, hta, hD⟩
      refine ⟨_, rfl, k f H' s5 nf ?_⟩
      rw [hes'.len, List.length_take, List.take_eq_take_min] at hD
      have : min (min m t.length) t.length = min m t.length := by omega
      rw [this, ← List.take_eq_take_min] at hD
      exact hD
end
end PG

set_option Elab.async false
set_option linter.all false
set_option autoImplicit false
set_option maxRecDepth 100000
set_option maxHeartbeats 4000000
namespace PG
open PySem L2
theorem gp_at {H : Hp} {xs : List V} {s : List Pl} {p : Int} (h : AllV (PlV H) xs s) (h0 : 0 ≤ p) (h1 : p < s.length) : ∃ v, xs[p.toNat]? = some v ∧ PlV H v (gp s p) := by
  have hlt : p.toNat < s.length := by omega
  obtain ⟨v, e, r⟩ := h.at' (List.getElem?_eq_getElem hlt)
  refine ⟨v, e, ?_⟩
  unfold gp
  rw [List.getD_eq_getElem?_getD, List.getElem?_eq_getElem hlt]
  exact r
section
variable {P : Program} {w : World} {K : PySem.W.Frag} {mg : Str → Option Value} {base : Heap} {A : Adr}
/-! ## versions_of -/
def vers (s : List Pl) (l : List (Int × Pl)) (p : Int) : List Pl := gp s p :: (l.filter fun e => decide (e.1 = p)).map (·.2)
def spVersions : Sp := fun vs H Q _ => ∃ (sa la : Addr) (s : List Pl) (l : List (Int × Pl)) (p : Int), vs = [.ref sa, .ref la, .int p] ∧ SettV H sa s ∧ EntsV H la l ∧ 0 ≤ p ∧ p < s.length ∧ l.length ≤ 100000 ∧
  ∀ q xs ys H', Same H H' → H' q = some (.tup xs) → AllV (PlV H') ys (vers s l p) → ((vers s l p).length = 1 → xs = ys) → ((vers s l p).length ≠ 1 → xs = ys ++ [.non]) → Q (.ref q) H'
theorem sc_vers : FnScope ["settled", "loose", "plate", "found", "one", "value"] ["settled", "loose", "plate"] (defScope (top 19)) := ⟨rfl, rfl, rfl, by decide +kernel, rfl, by decide +kernel, by decide +kernel⟩
theorem filter_take {l : List (Int × Pl)} {i : Nat} {e : Int × Pl} {p : Int} (h : l[i]? = some e) : ((l.take (i + 1)).filter fun e => decide (e.1 = p)).map (·.2) = ((l.take i).filter fun e => decide (e.1 = p)).map (·.2) ++ (if e.1 = p then [e.2] else []) := by
  rw [take_snoc h, List.filter_append, List.map_append]
  congr 1
  by_cases hp : e.1 = p <;> simp [hp]
theorem ok_versions_of (T : Txt K mg A) : FnOk P w K mg base CX0 1 A.a_versions_of A.d_versions_of ["settled", "loose", "plate"] spVersions := by
  refine T.t_versions_of.F.ok sc_vers (fun vs H Q E h => ?_) (fun cdv A0 outer s H vs Q E hr h => ?_)
  · obtain ⟨sa, la, s, l, p, rfl, _⟩ := h
    rfl
  · obtain ⟨sa, la, st, l, p, rfl, ⟨xs, hs, hxs⟩, ⟨ys, hl, hys⟩, p0, p1, lz, k⟩ := h
    refine ⟨_, pss_cons (ps_set (i := 3) sc_vers.nd rfl (Or.inl rfl) (pe_op op_cat (pe_lst (pa_cons (pe_ix ix_tup (pv 0) (pv 2) (fun _ _ => rfl)) pa_nil))
        (pe_lc (own := [("one", 4), ("value", 5)]) (g := gTup K 2 (gCons (gName 4) (gCons (gName 5) gNil))) (tt := tTest (tOp rEq (tVar 4) (tVar 2))) (te := tVar 5) rfl sc_vers.nd (pi_tup (pv 1)) (blkOk_by (N := ["settled", "loose", "plate", "found", "one", "value"]) (sc := defScope (top 19)) (by decide +kernel))
          (fun _ _ _ _ _ => pg_tup rfl (pgs_cons (pg_name (i := 4) sc_vers.nd rfl (Or.inl rfl)) (pgs_cons (pg_name (i := 5) sc_vers.nd rfl (Or.inl rfl)) pgs_nil)))
          (fun _ _ _ _ _ => pts_one (pt_cmpR op_eq (pv 4) (pv 2) (nomark _))) (fun _ _ _ _ _ => pv 5))))
      (pss_one (ps_ret (pe_ifExp (pt_cmpR op_eq (pe_callB call_len_seq (by rfl) T.z_len PySem.boot_len (pa_cons (pv 3) pa_nil)) pe_int (nomark _))
        (pe_callTy call_tuple_of (by rfl) T.z_tuple (by decide +kernel) (pa_cons (pv 3) pa_nil)) (pe_tup (StX.pa_star (pv 3) (pa_cons (pe_glob (v := .non) rfl T.v_TORN rfl) pa_nil)))))), ?_⟩
    obtain ⟨v0, hv0, hgp⟩ := gp_at hxs p0 p1
    refine ⟨_, rfl, _, rfl, sa, xs, p, v0, rfl, rfl, SqT.of hs, ?_, line1000 (by show 1 ≤ 1000000; decide), fun f nf => ?_⟩
    · exact atI_of (show p = (p.toNat : Int) by omega) hv0
    obtain ⟨H1, e1, s1, hf⟩ := newE (.lst [v0]) nf
    rw [e1]
    refine ⟨_, rfl, la, rfl, ⟨_, SqT.of (s1 _ _ hl)⟩, fun D nD => lc_tup (K := K) (a := la) (xs := ys) (fun i H' => Same H1 H' ∧ ∃ acc, H' D = some (.lst acc) ∧ AllV (PlV H') acc (((l.take i).filter fun e => decide (e.1 = p)).map (·.2)))
      ⟨Same.new nD, [], upd_same, AllV.nil⟩ (fun i H' _ q => SqT.of (q.1 _ _ (s1 _ _ hl))) ?_ ?_⟩
    · rintro i x H' hi ⟨s2, acc, hD, hacc⟩
      obtain ⟨e, he, a, y, rfl, ha, hy⟩ := hys.at hi
      have hlen : acc.length ≤ 1000000 - 1 := by
        rw [hacc.len, List.length_map]
        refine Nat.le_trans (List.length_filter_le _ _) ?_
        rw [List.length_take]
        omega
      have hlt : i < l.length := (List.getElem?_eq_some_iff.mp he).1
      refine ⟨a, _, rfl, SqT.of (s2 _ _ (s1 _ _ ha)), rfl, _, _, rfl, _, _, rfl, rfl, rfl, ?_⟩
      refine ⟨_, rfl, _, rfl, rfl, _, rfl, ?_⟩
      rw [decInt, filter_take he]
      by_cases hp : e.1 = p
      · rw [decide_eq_true hp, if_pos hp]
        have te : TupE H' (upd H' D (.lst (acc ++ [y]))) := TupE.upd fun z q => by rw [hD] at q; cases q
        refine iteT ⟨_, rfl, acc, hD, line_lt (by omega), Same.upd0 s2 nD, _, upd_same, (hacc.mono fun _ _ z => z.mono te).snoc ?_⟩
        exact hy.mono ((Same.tups s1).trans ((Same.tups s2).trans te))
      · rw [decide_eq_false hp, if_neg hp, List.append_nil]
        exact iteF ⟨s2, acc, hD, hacc⟩
    · rintro H' ⟨s2, acc, hD, hacc⟩
      rw [hys.len, List.take_length] at hacc
      have hall : AllV (PlV H') ([v0] ++ acc) (vers st l p) := (AllV.one (hgp.mono ((Same.tups s1).trans (Same.tups s2)))).append hacc
      have hvl : (vers st l p).length ≤ l.length + 1 := by
        show ((l.filter fun e => decide (e.1 = p)).map (·.2)).length + 1 ≤ _
        rw [List.length_map]
        have := List.length_filter_le (fun e : Int × Pl => decide (e.1 = p)) l
        omega
      refine ⟨f, D, [v0], acc, rfl, rfl, s2 _ _ hf, hD, line1000 (by have := hall.len; rw [List.length_append] at this; omega), fun q nq => ?_⟩
      obtain ⟨H2, e2, s3, hq⟩ := newE (.lst ([v0] ++ acc)) nq
      rw [e2]
      have hall2 := hall.mono fun _ _ z => PlV.mono z (Same.tups s3)
      have s03 := s1.trans (s2.trans s3)
      refine ⟨_, rfl, q, _, rfl, .inl (SqL.of hq), rfl, _, rfl, ?_⟩
      rw [decInt, hall2.len]
      by_cases h1 : (vers st l p).length = 1
      · rw [decide_eq_true (show ((vers st l p).length : Int) = 1 by omega)]
        refine iteT ⟨_, rfl, q, _, rfl, .inl ⟨SqL.of hq, fun r nr => ?_⟩⟩
        obtain ⟨H3, e3, s4, hr3⟩ := newE (.tup ([v0] ++ acc)) nr
        rw [e3]
        exact k r _ _ H3 (s03.trans s4) hr3 (hall2.mono fun _ _ z => PlV.mono z (Same.tups s4)) (fun _ => rfl) (fun z => absurd h1 z)
      · rw [decide_eq_false (show ¬ ((vers st l p).length : Int) = 1 by omega)]
        refine iteF ⟨_, rfl, q, _, rfl, .inr (SqL.of hq), line1000 (by rw [List.length_append, hall2.len]; show (vers st l p).length + 1 ≤ 1000000; omega), fun r nr => ?_⟩
        obtain ⟨H3, e3, s4, hr3⟩ := newE (.tup ([v0] ++ acc ++ [V.non])) nr
        rw [e3]
        exact k r _ _ H3 (s03.trans s4) hr3 (hall2.mono fun _ _ z => PlV.mono z (Same.tups s4)) (fun z => absurd z h1) (fun _ => rfl)
/-! ## Disk.chosen -/
def spChosen (A : Adr) : Sp := fun vs H Q _ => ∃ (d : Addr) (D : Dk) (p : Int) (c : Nat), vs = [.ref d, .int p, .int c] ∧ DiskAt A H d D ∧ 0 ≤ p ∧ p < D.settled.length ∧ c < (vers D.settled D.loose p).length ∧ ∀ v H', Same H H' → PlV H' v (chosenV D p c) → Q v H'
theorem sc_chosen : FnScope ["self", "plate", "number", "some"] ["self", "plate", "number"] (defScope (inClass (top 21) 7)) := ⟨rfl, rfl, rfl, by decide +kernel, rfl, by decide +kernel, by decide +kernel⟩
theorem ok_Disk_chosen (T : Txt K mg A) : FnOk P w K mg base CX0 3 A.a_Disk_chosen A.d_Disk_chosen ["self", "plate", "number"] (spChosen A) := by
  obtain ⟨ds, rds, bw⟩ := b_whole1 T
  refine T.m_Disk_chosen.F.ok sc_chosen (fun vs H Q E h => ?_) (fun cdv A0 outer s H vs Q E hr h => ?_)
  · obtain ⟨d, D, p, c, rfl, _⟩ := h
    rfl
  · obtain ⟨d, D, p, c, rfl, ⟨⟨dx, sa, la, hd, hs, hl⟩, z1, z2, z3, z4⟩, p0, p1, hc, k⟩ := h
    obtain ⟨xs, hs1, hxs⟩ := id hs
    refine ⟨_, pss_cons (ps_if (PW.pt (pw_or (pt_not (pt_val (pe_call (ok_is_below T) hr rfl T.t_is_below.g T.t_is_below.F.kp T.t_is_below.b .nil pass0 (pa_cons (pv 1) (pa_cons (pe_callB call_len_seq (by rfl) T.z_len PySem.boot_len (pa_cons (pe_fld (pv 0) rfl) pa_nil)) pa_nil)))))
          (pw_or1 (pt_not (pt_val (pe_call (ok_is_whole T) (hr.mono (by decide)) rfl T.w_g T.w_is_whole.kp bw rds pass0 (pa_cons (pv 2) pa_nil))))))) (pss_one ps_never) pss_nil)
      (pss_cons (ps_set (i := 3) sc_chosen.nd rfl (Or.inl rfl) (pe_call (ok_versions_of T) (hr.mono (by decide)) rfl T.t_versions_of.g T.t_versions_of.F.kp T.t_versions_of.b .nil pass0 (pa_cons (pe_fld (pv 0) rfl) (pa_cons (pe_fld (pv 0) rfl) (pa_cons (pv 1) pa_nil)))))
      (pss_cons (ps_if (PW.pt (pw_and (pt_cmpR op_eq (pv 2) (pe_un un_neg pe_int) (nomark _)) (pw_and1 (pt_cmpR op_gt (pe_callB call_len_seq (by rfl) T.z_len PySem.boot_len (pa_cons (pv 3) pa_nil)) pe_int (nomark _))))) (pss_one ps_never) pss_nil)
      (pss_cons (ps_if (pt_not (pt_chain op_le op_lt pe_int (pv 2) (pe_callB (call_max2 rfl) (by rfl) T.z_max (by decide +kernel) (pa_cons pe_int (pa_cons (pe_op op_sub (pe_callB call_len_seq (by rfl) T.z_len PySem.boot_len (pa_cons (pv 3) pa_nil)) pe_int) pa_nil)))))
        (pss_one ps_never) pss_nil)
      (pss_one (ps_ret (pe_ix ix_tup (pv 3) (pv 2) (fun _ _ => rfl))))))), ?_⟩
    refine ⟨_, rfl, _, rfl, d, A.c_Disk, dx, _, _, rfl, hd, T.k_Disk.c, T.n_Disk_settled, DN_get0 _ _, sa, xs, rfl, .inr (SqT.of hs1), p, _, rfl, _, rfl, ?_⟩
    rw [hxs.len, inB_t p0 p1]
    refine iteF ⟨_, rfl, (c : Int), none, none, rfl, _, rfl, iteF ?_⟩
    refine ⟨_, rfl, d, A.c_Disk, dx, _, _, rfl, hd, T.k_Disk.c, T.n_Disk_settled, DN_get0 _ _, _, rfl, d, A.c_Disk, dx, _, _, rfl, hd, T.k_Disk.c, T.n_Disk_loose, DN_get1 _ _, _, rfl, sa, la, _, _, p, rfl, hs, hl, p0, p1, z2, fun q zs ys H1 s1 hq hys h1 h2 => ?_⟩
    refine ⟨_, rfl, 1, rfl, rfl, _, rfl, ?_⟩
    rw [decInt, decide_eq_false (show ¬ (c : Int) = -1 by omega)]
    refine iteF (iteF ?_)
    have hzl : (zs.length = 1 ∧ (vers D.settled D.loose p).length = 1) ∨ (zs.length = (vers D.settled D.loose p).length + 1 ∧ (vers D.settled D.loose p).length ≠ 1) := by
      by_cases e : (vers D.settled D.loose p).length = 1
      · exact .inl ⟨by rw [h1 e, hys.len]; exact e, e⟩
      · exact .inr ⟨by rw [h2 e, List.length_append, hys.len]; rfl, e⟩
    have hmax : decide ((c : Int) < if ((zs.length : Int) - 1) > 1 then ((zs.length : Int) - 1) else 1) = true := by
      apply decide_eq_true
      split <;> omega
    refine ⟨_, rfl, _, _, rfl, rfl, _, rfl, ?_⟩
    rw [decide_eq_true (show (0 : Int) ≤ (c : Int) by omega)]
    refine iteT ⟨_, rfl, q, zs, rfl, .inr (SqT.of hq), _, _, rfl, rfl, _, _, rfl, _, _, rfl, rfl, _, rfl, ?_⟩
    rw [hmax]
    refine iteF ?_
    obtain ⟨v, hv, hpl⟩ := hys.at' (List.getElem?_eq_getElem hc)
    have hz : zs[c]? = some v := by
      by_cases e : (vers D.settled D.loose p).length = 1
      · rw [h1 e]; exact hv
      · rw [h2 e, List.getElem?_append_left (by rw [hys.len]; exact hc)]; exact hv
    refine ⟨_, rfl, _, rfl, q, zs, (c : Int), v, rfl, rfl, SqT.of hq, atI_of rfl hz, k v H1 s1 ?_⟩
    show PlV H1 v ((vers D.settled D.loose p).getD c [])
    rw [List.getD_eq_getElem?_getD, List.getElem?_eq_getElem hc]
    exact hpl
/-! ## Disk.now, of a disk of which nothing is loose -/
def spNow (A : Adr) : Sp := fun vs H Q _ => ∃ (d : Addr) (D : Dk) (p : Int), vs = [.ref d, .int p] ∧ DiskAt A H d D ∧ D.loose = [] ∧ 0 ≤ p ∧ p < D.settled.length ∧ ∀ v H', Same H H' → PlV H' v (gp D.settled p) → Q v H'
theorem sc_now : FnScope ["self", "plate", "some", "one", "value"] ["self", "plate"] (defScope (inClass (top 21) 3)) := ⟨rfl, rfl, rfl, by decide +kernel, rfl, by decide +kernel, by decide +kernel⟩
theorem ok_Disk_now (T : Txt K mg A) : FnOk P w K mg base CX0 3 A.a_Disk_now A.d_Disk_now ["self", "plate"] (spNow A) := by
  refine T.m_Disk_now.F.ok sc_now (fun vs H Q E h => ?_) (fun cdv A0 outer s H vs Q E hr h => ?_)
  · obtain ⟨d, D, p, rfl, _⟩ := h
    rfl
  · obtain ⟨d, D, p, rfl, ⟨⟨dx, sa, la, hd, ⟨xs, hs, hxs⟩, ⟨ys, hl, hys⟩⟩, z1, z2, z3, z4⟩, hloose, p0, p1, k⟩ := h
    have hy0 : ys = [] := by
      have := hys.len
      rw [hloose] at this
      exact List.length_eq_zero_iff.mp this
    subst hy0
    refine ⟨_, pss_cons (ps_if (pt_not (pt_val (pe_call (ok_is_below T) hr rfl T.t_is_below.g T.t_is_below.F.kp T.t_is_below.b .nil pass0 (pa_cons (pv 1) (pa_cons (pe_callB call_len_seq (by rfl) T.z_len PySem.boot_len (pa_cons (pe_fld (pv 0) rfl) pa_nil)) pa_nil))))) (pss_one ps_never) pss_nil)
      (pss_cons (ps_setLc (i := 2) (own := [("one", 3), ("value", 4)]) (g := gTup K 2 (gCons (gName 3) (gCons (gName 4) gNil))) (tt := tTest (tOp rEq (tVar 3) (tVar 1))) (te := tVar 4) rfl sc_now.nd rfl rfl (sw_true rfl rfl rfl (by decide +kernel)) (pi_tup (pe_fld (pv 0) rfl))
          (blkOk_by (N := ["self", "plate", "some", "one", "value"]) (sc := defScope (inClass (top 21) 3)) (by decide +kernel))
          (fun _ _ _ _ _ => pg_tup rfl (pgs_cons (pg_name (i := 3) sc_now.nd rfl (Or.inl rfl)) (pgs_cons (pg_name (i := 4) sc_now.nd rfl (Or.inl rfl)) pgs_nil)))
          (fun _ _ _ _ _ => pts_one (pt_cmpR op_eq (pv 3) (pv 1) (nomark _))) (fun _ _ _ _ _ => pv 4))
      (pss_one (ps_ret (pe_ifExp (pt_cmpR (op_neD hr.units) (pv 2) (pe_lst pa_nil) (nomark _)) (pe_ix ix_list (pv 2) (pe_un un_neg pe_int) (fun _ _ => rfl)) (pe_ix ix_tup (pe_fld (pv 0) rfl) (pv 1) (fun _ _ => rfl)))))), ?_⟩
    refine ⟨_, rfl, _, rfl, d, A.c_Disk, dx, _, _, rfl, hd, T.k_Disk.c, T.n_Disk_settled, DN_get0 _ _, sa, xs, rfl, .inr (SqT.of hs), p, _, rfl, _, rfl, ?_⟩
    rw [hxs.len, inB_t p0 p1]
    refine iteF ?_
    refine ⟨_, rfl, d, A.c_Disk, dx, _, _, rfl, hd, T.k_Disk.c, T.n_Disk_loose, DN_get1 _ _, la, rfl, ⟨_, SqT.of hl⟩, fun D1 nD => lc_tup (K := K) (a := la) (xs := []) (fun i H' => Same H H' ∧ H' D1 = some (.lst []))
      ⟨Same.new nD, upd_same⟩ (fun i H' _ q => SqT.of (q.1 _ _ hl)) (fun i x H' hi => by cases hi) ?_⟩
    rintro H' ⟨s1, hD1⟩
    refine ⟨_, rfl, Nat.zero_le _, fun e ne => ?_⟩
    obtain ⟨H2, e2, s2, he⟩ := newE (.lst []) ne
    rw [e2]
    refine ⟨.list [], .list [], .lst (SqL.of (s2 _ _ hD1)) .nil, .lst (SqL.of he) .nil, rfl, rfl, _, rfl, ?_⟩
    have s3 := s1.trans s2
    obtain ⟨v, hv, hpl⟩ := gp_at hxs p0 p1
    rw [show (!PyData.eqv (.list []) (.list [])) = false by decide +kernel]
    refine iteF ⟨_, rfl, d, A.c_Disk, dx, _, _, rfl, s3 _ _ hd, T.k_Disk.c, T.n_Disk_settled, DN_get0 _ _, _, rfl, sa, xs, p, v, rfl, rfl, SqT.of (s3 _ _ hs), atI_of (show p = (p.toNat : Int) by omega) hv, k v H2 s3 (hpl.mono (Same.tups s3))⟩
end
end PG

set_option Elab.async false
set_option linter.all false
set_option autoImplicit false
set_option maxRecDepth 100000
set_option maxHeartbeats 4000000
namespace PG
open PySem L2
/-- a dict of numbers by numbers -/
def KvI (kvs : List (Int × Nat)) : List (Key × V) := kvs.map fun e => (Sum.inl e.1, V.int e.2)
theorem KvI_at {kvs : List (Int × Nat)} {i : Nat} {k v : V} (h1 : ((KvI kvs)[i]?.map fun kv => kV kv.1) = some k) (h2 : (KvI kvs)[i]?.map Prod.snd = some v) : ∃ e, kvs[i]? = some e ∧ k = .int e.1 ∧ v = .int e.2 := by
  unfold KvI at h1 h2
  rw [List.getElem?_map] at h1 h2
  cases e : kvs[i]? with
  | none => rw [e] at h1; cases h1
  | some x =>
    rw [e] at h1 h2
    exact ⟨x, rfl, (Option.some.inj h1).symm, (Option.some.inj h2).symm⟩
/-- what is chosen at each plate -/
def fallL (D : Dk) (kvs : List (Int × Nat)) : List Pl := flushL D.settled (kvs.map fun e => (e.1, chosenV D e.1 e.2))
section
variable {P : Program} {w : World} {K : PySem.W.Frag} {mg : Str → Option Value} {base : Heap} {A : Adr}
def spFallen (A : Adr) : Sp := fun vs H Q _ => ∃ (d c : Addr) (D : Dk) (kvs : List (Int × Nat)), vs = [.ref d, .ref c] ∧ DiskAt A H d D ∧ H c = some (.dK (KvI kvs)) ∧ (∀ e ∈ kvs, 0 ≤ e.1 ∧ e.1 < D.settled.length ∧ e.2 < (vers D.settled D.loose e.1).length) ∧
  ∀ f H', Same H H' → H f = none → DiskAt A H' f ⟨fallL D kvs, []⟩ → Q (.ref f) H'
theorem sc_fallen : FnScope ["self", "choice", "found", "late", "plate", "number", "value"] ["self", "choice"] (defScope (inClass (top 21) 6)) := ⟨rfl, rfl, rfl, by decide +kernel, rfl, by decide +kernel, by decide +kernel⟩
theorem ok_Disk_fallen (T : Txt K mg A) : FnOk P w K mg base CX0 4 A.a_Disk_fallen A.d_Disk_fallen ["self", "choice"] (spFallen A) := by
  refine T.m_Disk_fallen.F.ok sc_fallen (fun vs H Q E h => ?_) (fun cdv A0 outer s H vs Q E hr h => ?_)
  · obtain ⟨d, c, D, kvs, rfl, _⟩ := h
    rfl
  · obtain ⟨d, c, D, kvs, rfl, hDisk, hc, hk, k⟩ := h
    obtain ⟨⟨dx, sa, la, hd, ⟨xs, hs, hxs⟩, hl⟩, z1, z2, z3, z4⟩ := id hDisk
    refine ⟨_, pss_cons (ps_set (i := 2) sc_fallen.nd rfl (Or.inl rfl) (pe_make T.k_Disk.M (ok_Disk_init T) (hr.mono (by decide)) rfl T.k_Disk.g T.k_Disk.b .nil pass0 (pa_cons (pe_callB call_len_seq (by rfl) T.z_len PySem.boot_len (pa_cons (pe_fld (pv 0) rfl) pa_nil)) pa_nil)))
      (pss_cons (ps_set (i := 3) sc_fallen.nd rfl (Or.inl rfl) (pe_callTy call_list_of (by rfl) T.z_list (by decide +kernel) (pa_cons (pe_fld (pv 0) rfl) pa_nil)))
      (pss_cons (ps_lock (ps_for PassesOwn.never rfl (pi_items (pv 1)) (pg_tup rfl (pgs_cons (pg_name (i := 4) sc_fallen.nd rfl (Or.inl rfl)) (pgs_cons (pg_name (i := 5) sc_fallen.nd rfl (Or.inl rfl)) pgs_nil)))
        (pss_cons (ps_set (i := 6) sc_fallen.nd rfl (Or.inl rfl) (pe_meth (pv 0) T.k_Disk.c T.m_Disk_chosen.M (ok_Disk_chosen T) hr T.m_Disk_chosen.b .nil pass0 (pa_cons (pv 4) (pa_cons (pv 5) pa_nil))))
        (pss_one (ps_asg (pv 6) (pg_sub (pv 3) (pv 4) set_list))))))
      (pss_cons (ps_fld (pv 2) (pe_callTy call_tuple_of (by rfl) T.z_tuple (by decide +kernel) (pa_cons (pv 3) pa_nil)) rfl)
      (pss_one (ps_ret (pv 2)))))), ?_⟩
    refine ⟨_, rfl, d, A.c_Disk, dx, _, _, rfl, hd, T.k_Disk.c, T.n_Disk_settled, DN_get0 _ _, sa, xs, rfl, .inr (SqT.of hs), fun f fx nf nfx ne => ?_⟩
    rw [hxs.len]
    have s0 : Same H (upd (upd H fx (.own f)) f (.ins A.c_Disk fx [])) := fun b o e => by
      rw [upd_ne (ne_of_none e nf), upd_ne (ne_of_none e nfx)]
      exact e
    refine ⟨f, fx, D.settled.length, rfl, upd_same, z4, z1, fun H1 hf1 b1 => ⟨rfl, ?_⟩⟩
    have s1 : Same H H1 := fun b o e => b1 b o (ne_of_none e nf) (s0 b o e)
    refine ⟨_, rfl, d, A.c_Disk, dx, _, _, rfl, s1 _ _ hd, T.k_Disk.c, T.n_Disk_settled, DN_get0 _ _, sa, xs, rfl, .inr (SqT.of (s1 _ _ hs)), fun l nl => ?_⟩
    obtain ⟨H2, e2, s2, hl2⟩ := newE (.lst xs) nl
    rw [e2]
    have s02 := s1.trans s2
    have nl0 : H l = none := Same.free s1 nl
    have hf2 := hf1.same s2
    have hlf : l ≠ f := fun z => by
      subst z
      exact hf1.there nl
    have hcf : f ≠ c := fun z => by
      subst z
      rw [hc] at nf
      cases nf
    have hcl : l ≠ c := fun z => by
      subst z
      rw [hc] at nl0
      cases nl0
    have hc2 : H2 c = some (.dK (KvI kvs)) := s02 _ _ hc
    refine ⟨c, .dK (KvI kvs), hc2, trivial, fun od => ⟨_, rfl, c, od, KvI kvs, rfl, upd_same, ?_⟩⟩
    have notc : ∀ {b : Addr} {o : HO}, H2 b = some o → b ≠ c → upd H2 c (.frz od (.dK (KvI kvs))) b = some o := fun {b o} e hb => by rw [upd_ne hb]; exact e
    have tl : TupE H2 (upd H2 c (.frz od (.dK (KvI kvs)))) := TupE.upd fun z q => by rw [hc2] at q; cases q
    have hDiskL : DiskAt A (upd H2 c (.frz od (.dK (KvI kvs)))) d D := (hDisk.same s02).mono tl fun o e => by
      rw [upd_ne]
      · exact e
      · intro z
        subst z
        rw [hd] at hc
        cases hc
    have hfL : DiskAt A (upd H2 c (.frz od (.dK (KvI kvs)))) f ⟨List.replicate D.settled.length [], []⟩ := hf2.mono tl fun o e => by rw [upd_ne hcf]; exact e
    refine for_it (walk_items (d := c) (o := od) (kvs := KvI kvs)) (fun i σ H' => ∃ (v4 v5 v6 : Option V) (zs : List V), σ = [some (.ref d), some (.ref c), some (.ref f), some (.ref l), v4, v5, v6] ∧ (∀ b o, b ≠ l → upd H2 c (.frz od (.dK (KvI kvs))) b = some o → H' b = some o) ∧ H' l = some (.lst zs) ∧
      AllV (PlV H') zs (flushL D.settled ((kvs.take i).map fun e => (e.1, chosenV D e.1 e.2))))
      ⟨none, none, none, xs, rfl, fun b o _ e => e, notc hl2 hcl, hxs.mono fun _ _ z => z.mono ((Same.tups s02).trans tl)⟩ (fun i σ H' _ ⟨_, _, _, _, _, q, _⟩ => q c _ hcl.symm upd_same) ?_ ?_
    · rintro i x σ H' H3 hi ⟨v4, v5, v6, zs, rfl, q, hl3, hzs⟩ ⟨t, x1, x2, rfl, nt, rfl, g1, g2⟩
      obtain ⟨e, he, rfl, rfl⟩ := KvI_at g1 g2
      obtain ⟨k1, k2, k3⟩ := hk e (List.mem_of_getElem? he)
      obtain ⟨H4, e4, s4, ht⟩ := newE (.tup [V.int e.1, V.int e.2]) nt
      rw [e4]
      refine ⟨t, _, rfl, SqT.of ht, rfl, _, _, rfl, _, _, rfl, rfl, ?_⟩
      have te' : TupE (upd H2 c (.frz od (.dK (KvI kvs)))) H' := fun b ys y => q b _ (fun z => by
        subst z
        rw [notc hl2 hcl] at y
        cases y) y
      have hdl : d ≠ l := fun z => by
        subst z
        rw [hd] at nl0
        cases nl0
      have hD4 : DiskAt A H4 d D := (hDiskL.mono te' fun o y => q d o hdl y).same s4
      obtain ⟨⟨dx4, sa4, la4, hd4, _⟩, _⟩ := id hD4
      refine ⟨_, rfl, d, dx4, _, rfl, hd4, DN_no _ _ (by decide +kernel), _, rfl, _, rfl, d, D, e.1, e.2, rfl, hD4, k1, k2, k3, fun v H5 s5 hv => ?_⟩
      have hl5 := s5 _ _ (s4 _ _ hl3)
      refine ⟨_, rfl, _, rfl, _, rfl, l, zs, e.1, e.1.toNat, rfl, rfl, hl5, ixN_of k1 (by rw [hzs.len, len_flushL]; exact k2), ?_⟩
      have t6 : TupE H5 (upd H5 l (.lst (zs.set e.1.toNat v))) := TupE.upd fun z y => by rw [hl5] at y; cases y
      refine ⟨_, _, _, _, rfl, fun b o hb y => ?_, upd_same, ?_⟩
      · rw [upd_ne hb]
        exact s5 _ _ (s4 _ _ (q b o hb y))
      · have em : (kvs.map fun e : Int × Nat => (e.1, chosenV D e.1 e.2))[i]? = some (e.1, chosenV D e.1 e.2) := by rw [List.getElem?_map, he]; rfl
        have := flushL_take (s := D.settled) em
        rw [← List.map_take, ← List.map_take] at this
        rw [this]
        exact (hzs.mono fun _ _ z => z.mono ((Same.tups s4).trans ((Same.tups s5).trans t6))).set (hv.mono t6) _
    · rintro σ H' ⟨v4, v5, v6, zs, rfl, q, hl3, hzs⟩
      have hz0 : (KvI kvs).length = kvs.length := by unfold KvI; rw [List.length_map]
      rw [hz0, List.take_length] at hzs
      refine ⟨q c _ hcl.symm upd_same, ?_⟩
      have hcL : H' c = some (.frz od (.dK (KvI kvs))) := q c _ hcl.symm upd_same
      generalize hH7 : upd H' c (.dK (KvI kvs)) = H7
      have t7 : TupE H' H7 := by
        rw [← hH7]
        exact TupE.upd fun z y => by rw [hcL] at y; cases y
      have hl7 : H7 l = some (.lst zs) := by rw [← hH7, upd_ne hcl]; exact hl3
      have b7 : ∀ b o, b ≠ l → H2 b = some o → H7 b = some o := fun b o hb e => by
        rw [← hH7]
        by_cases hbc : b = c
        · subst hbc
          rw [hc2] at e
          rw [upd_same]
          exact e
        · rw [upd_ne hbc]
          exact q b o hb (notc e hbc)
      have te' : TupE (upd H2 c (.frz od (.dK (KvI kvs)))) H' := fun b ys y => q b _ (fun z => by
        subst z
        rw [notc hl2 hcl] at y
        cases y) y
      have hf7 : DiskAt A H7 f ⟨List.replicate D.settled.length [], []⟩ := hf2.mono (tl.trans (te'.trans t7)) fun o e => b7 f o hlf.symm e
      have s7 : Same H H7 := fun b o e => b7 b o (ne_of_none e nl0) (s02 b o e)
      refine ⟨_, rfl, l, zs, rfl, .inl ⟨SqL.of hl7, fun p np => ?_⟩⟩
      obtain ⟨H8, e8, s8, hp⟩ := newE (.tup zs) np
      rw [e8]
      obtain ⟨⟨gx, ga, gl, hg, _, hgl⟩, _, _, _, _⟩ := hf7.same s8
      refine ⟨_, rfl, f, A.c_Disk, gx, _, rfl, hg, T.k_Disk.c, T.n_Disk_settled, (by show 2 < 1000; decide), ?_⟩
      rw [DN_set0]
      obtain ⟨H9, e9, b9, hf9⟩ := chgE (H := H8) (d := f) (.ins A.c_Disk gx (DN.zip [V.ref p, V.ref gl]))
      rw [e9]
      have t9 : TupE H8 H9 := b9.ins hg
      have lenF : (fallL D kvs).length = D.settled.length := len_flushL _ _
      refine ⟨_, rfl, k f H9 (Same.but (s7.trans s8) b9 nf) nf ⟨⟨gx, p, gl, hf9, ⟨zs, t9 _ _ hp, hzs.mono fun _ _ z => z.mono (t7.trans ((Same.tups s8).trans t9))⟩, hgl.mono t9⟩, ?_, Nat.zero_le _, fun e he => (by cases he), ?_⟩⟩
      · rw [lenF]; exact z1
      · show 2 ≤ (fallL D kvs).length
        rw [lenF]; exact z4
end
end PG

set_option Elab.async false
set_option linter.all false
set_option autoImplicit false
set_option maxRecDepth 100000
set_option maxHeartbeats 4000000
namespace PG
open PySem L2
/-! ## min of a tuple of ints, max of a list of heads -/
theorem alikeInts (a b : List Int) : PySem.W.alikeAll (a.map PyData.int) (b.map PyData.int) = true := by
  induction a generalizing b with
  | nil => simp [PySem.W.alikeAll]
  | cons x a ih =>
    cases b with
    | nil => simp [PySem.W.alikeAll]
    | cons y b => simp [PySem.W.alikeAll, PySem.W.alike, ih]
theorem depthInts : ∀ a : List Int, PyData.depthAll (a.map PyData.int) = 0
  | [] => rfl
  | x :: a => by
    show max (PyData.depth (.int x)) (PyData.depthAll (a.map PyData.int)) = 0
    rw [depthInts a]
    rfl
theorem dpInts {K : PySem.W.Frag} {H : Hp} : ∀ ns : List Int, DpAll K H (ns.map V.int) (ns.map PyData.int)
  | [] => .nil
  | n :: ns => .cons (.int n) (dpInts ns)
theorem dpPl {K : PySem.W.Frag} {H : Hp} {v : V} {ns : Pl} (h : PlV H v ns) : Dp K H v (.tuple (ns.map PyData.int)) := by
  obtain ⟨a, rfl, ha⟩ := h
  exact .tup (SqT.of ha) (dpInts ns)
theorem foldl_min_mem : ∀ (ns : List Int) (n : Int), ns.foldl min n ∈ n :: ns
  | [], n => List.mem_cons_self
  | m :: ns, n => by
    rw [List.foldl_cons]
    rcases List.mem_cons.mp (foldl_min_mem ns (min n m)) with h | h
    · rw [h]
      rcases (show min n m = n ∨ min n m = m by omega) with e | e
      · rw [e]; exact List.mem_cons_self
      · rw [e]; exact List.mem_cons_of_mem _ List.mem_cons_self
    · exact List.mem_cons_of_mem _ (List.mem_cons_of_mem _ h)
theorem foldl_min_le : ∀ (ns : List Int) (n : Int), ∀ y ∈ n :: ns, ns.foldl min n ≤ y
  | [], n, y, h => by
    rw [List.mem_singleton] at h
    subst h
    exact Int.le_refl _
  | m :: ns, n, y, h => by
    rw [List.foldl_cons]
    have k := foldl_min_le ns (min n m) (min n m) List.mem_cons_self
    rcases List.mem_cons.mp h with h | h
    · subst h; omega
    · rcases List.mem_cons.mp h with h | h
      · subst h; omega
      · exact foldl_min_le ns (min n m) y (List.mem_cons_of_mem _ h)
section
variable {X : Cx}
theorem cr_minT (hc : X.calm = true) (hu : X.A.units + 64 < cLine) : CallR X (.builtin "min") (fun vs H Q => ∃ (a : Addr) (ns : List Int), vs = [.ref a] ∧ SqT X.K H a (ns.map V.int) ∧ ns ≠ [] ∧ ∀ m, m ∈ ns → (∀ y, y ∈ ns → m ≤ y) → Q (.int m) H) := by
  intro pins s σ H vs us Q I r h
  obtain ⟨a, ns, rfl, hs, hne, q⟩ := h
  obtain ⟨its, rv, hl, _⟩ := I.tuple hs
  rw [Vals.ref1 r]
  obtain ⟨as, hr⟩ := Dp.readsAll I _ _ its (dpInts ns) rv
  cases ns with
  | nil => exact absurd rfl hne
  | cons n ns =>
    rw [List.map_cons] at hr
    refine PySem.W.min_tuple_data (I.ok.hd hc) (show s.heap.IsTuple a its.toArray from hl) (by simpa using hr) ⟨fun x hx y hy => ?_, fun x hx => ?_⟩ ?_ fun i v h' tk bs hv rd hk => ?_
    · rw [← List.map_cons] at hx hy
      obtain ⟨p, _, rfl⟩ := List.mem_map.mp hx
      obtain ⟨p', _, rfl⟩ := List.mem_map.mp hy
      simp [PySem.W.alike]
    · rw [← List.map_cons] at hx
      obtain ⟨p, _, rfl⟩ := List.mem_map.mp hx
      intro z
      cases z
    · rw [← List.map_cons, depthInts]
      omega
    · rw [PySem.W.minD_ints] at rd
      cases rd
      exact ⟨.int _, H, I.kept hk, ⟨_, rfl⟩, q _ (foldl_min_mem ns n) (foldl_min_le ns n)⟩
theorem lexL_lt : ∀ a b : List Int, lexL a b = decide (a < b)
  | [], [] => by simp [lexL]
  | [], _ :: _ => by simp [lexL]
  | _ :: _, [] => by simp [lexL]
  | x :: xs, y :: ys => by
    unfold lexL
    rw [lexL_lt xs ys]
    by_cases h : x = y
    · subst h
      simp [List.cons_lt_cons_iff]
    · rw [if_neg h]
      simp [List.cons_lt_cons_iff, h]
theorem dataLt_pl (a b : Pl) : PySem.W.dataLt (.tuple (a.map PyData.int)) (.tuple (b.map PyData.int)) = lexL a b := by
  rw [lexL_lt, ← PySem.W.dataLt_ints, PySem.W.dataLt_tuple]
  rfl
theorem cr_maxH (hc : X.calm = true) (hu : X.A.units + 64 < cLine) : CallR X (.builtin "max") (fun vs H Q => ∃ (a : Addr) (xs : List V) (L : List Pl), vs = [.ref a] ∧ SqL X.K H a xs ∧ AllV (PlV H) xs L ∧ L ≠ [] ∧ L.length ≤ 2 ∧ ∀ v, PlV H v (bestHead L) → Q v H) := by
  intro pins s σ H vs us Q I r h
  obtain ⟨a, xs, L, rfl, hs, hx, hne, hle, q⟩ := h
  obtain ⟨its, rv, hl, _⟩ := I.list hs
  rw [Vals.ref1 r]
  have dpL : ∀ {xs : List V} {L : List Pl}, AllV (PlV H) xs L → DpAll X.K H xs (L.map fun p => PyData.tuple (p.map PyData.int)) := by
    intro xs
    induction xs with
    | nil =>
      intro L h
      have := List.length_eq_zero_iff.mp h.len.symm
      subst this
      exact .nil
    | cons x xs ih =>
      intro L h
      cases L with
      | nil => have := h.len; simp at this
      | cons p L =>
        refine .cons (dpPl (h.2 0 x p rfl rfl)) (ih ⟨by have := h.len; simpa using this, fun i v n a b => h.2 (i + 1) v n a b⟩)
  obtain ⟨as, hr⟩ := Dp.readsAll I _ _ its (dpL hx) rv
  cases L with
  | nil => exact absurd rfl hne
  | cons p L =>
    rw [List.map_cons] at hr
    have al : PySem.W.AlikeAll (.tuple (p.map PyData.int) :: L.map fun p => PyData.tuple (p.map PyData.int)) := by
      refine ⟨fun x hx y hy => ?_, fun x hx z => ?_⟩
      · rw [← List.map_cons (f := fun p : Pl => PyData.tuple (p.map PyData.int))] at hx hy
        obtain ⟨p, _, rfl⟩ := List.mem_map.mp hx
        obtain ⟨p', _, rfl⟩ := List.mem_map.mp hy
        simp only [PySem.W.alike]
        exact alikeInts _ _
      · rw [← List.map_cons (f := fun p : Pl => PyData.tuple (p.map PyData.int))] at hx
        obtain ⟨p, _, rfl⟩ := List.mem_map.mp hx
        cases z
    have dep : ∀ L : List Pl, PyData.depthAll (L.map fun p => PyData.tuple (p.map PyData.int)) ≤ 1 := by
      intro L
      induction L with
      | nil => exact Nat.zero_le _
      | cons p L ih =>
        show max (PyData.depthAll (p.map PyData.int) + 1) (PyData.depthAll (L.map fun p => PyData.tuple (p.map PyData.int))) ≤ 1
        rw [depthInts]
        omega
    refine PySem.W.max_list_data (I.ok.hd hc) hl.isList (by simpa using hr) al ?_ fun i v h' tk bs hv rd hk => ?_
    · rw [← List.map_cons (f := fun p : Pl => PyData.tuple (p.map PyData.int))]
      have := dep (p :: L)
      omega
    · have hv' : its[i]? = some v := by simpa using hv
      have hi : i < its.length := (List.getElem?_eq_some_iff.mp hv').1
      have hix : i < xs.length := by rw [rv.length]; exact hi
      obtain ⟨u, hu', ru⟩ := Vals.get (i := i) rv (List.getElem?_eq_getElem hix)
      rw [hv'] at hu'
      cases hu'
      obtain ⟨n, hn, hpl⟩ := hx.at (List.getElem?_eq_getElem hix)
      have hp2 := dpPl (K := X.K) hpl
      obtain ⟨bs2, rd2⟩ := Dp.reads I _ _ _ hp2 ru
      have rd3 := PySem.W.reads_keeps hk rd2
      have eq := (Reads.unique rd _ _ rd3).1
      refine ⟨xs[i], H, I.kept hk, ru, q _ ?_⟩
      have same : ∀ {m : Pl}, PyData.tuple (m.map PyData.int) = PyData.tuple (n.map PyData.int) → PlV H xs[i] m := fun {m} e => by
        have : m.map PyData.int = n.map PyData.int := by injection e
        have e2 : m = n := by
          have inj : ∀ (a b : List Int), a.map PyData.int = b.map PyData.int → a = b := by
            intro a
            induction a with
            | nil => intro b h; cases b with
              | nil => rfl
              | cons y b => cases h
            | cons x a ih => intro b h; cases b with
              | nil => cases h
              | cons y b =>
                rw [List.map_cons, List.map_cons] at h
                injection h with h1 h2
                injection h1 with h1
                rw [h1, ih b h2]
          exact inj _ _ this
        rw [e2]; exact hpl
      cases L with
      | nil =>
        show PlV H xs[i] p
        exact same eq
      | cons p2 L =>
        have hL : L = [] := by
          have : (p :: p2 :: L).length ≤ 2 := hle
          simp at this
          exact this
        subst hL
        have e1 : PySem.W.maxD (.tuple (p.map PyData.int)) (List.map (fun p : Pl => PyData.tuple (p.map PyData.int)) [p2]) = if lexL p p2 = true then .tuple (p2.map PyData.int) else .tuple (p.map PyData.int) := by
          show (if PySem.W.dataLt (.tuple (p.map PyData.int)) (.tuple (p2.map PyData.int)) = true then _ else _) = _
          rw [dataLt_pl]
        rw [e1] at eq
        show PlV H xs[i] (if lexL p p2 then p2 else p)
        by_cases hlex : lexL p p2 = true
        · rw [if_pos hlex] at eq ⊢
          exact same eq
        · rw [if_neg hlex] at eq ⊢
          exact same eq
end
end PG

set_option Elab.async false
set_option linter.all false
set_option autoImplicit false
set_option maxRecDepth 100000
set_option maxHeartbeats 4000000
namespace PG
open PySem PySem.Spec L2
/-! ## enumerate of a tuple -/
theorem enumT_new {v : Value} {o : Obj} {R0 : Heap → Prop} (B : Begins v o R0) : Meets (Builtin.«enumerate.__new__» ⟨[.type "enumerate", v], []⟩) (fun _ R s => R0 s.heap ∧
    R (.ok (.ret (.ref (s.heap.push o).objs.size))) { s with heap := (s.heap.push o).push ⟨.type "enumerate", none, .fields #[.none, .bool false, .ref s.heap.objs.size, rawInt 0, .none, .none], #[]⟩ }) := by
  refine .of_wp fun prog w A R s h => ?_
  obtain ⟨hp, g, d, tk, os⟩ := s
  obtain ⟨k1, k2⟩ := h
  have hsub := sub_enumerate
  have st : ∀ {A' : Around} {E : Value → Shared → Prop} {Q : Value → Shared → Prop}, Q (.ref hp.objs.size) ⟨hp.push o, g, d, tk, os⟩ → wpAny (model prog w) A' (pyIter v) Q E ⟨hp, g, d, tk, os⟩ := fun q => B.iter prog w _ _ _ _ k1 q
  wp_walk using st
  refine wpAny_stack_any fun sk => wpAny_pure ?_
  split
  · rename_i c _ _ _ _ _
    cases (c == Value.type "enumerate") <;> wp_walk using st <;> exact ⟨_, rfl, k2⟩
  · wp_walk using st
    exact ⟨_, rfl, k2⟩
theorem call_enumT {prog : Program} {w : World} {A : Around} {E : Value → Shared → Prop} {s : Shared} {v : Value} {o : Obj} {R0 : Heap → Prop} {Q : Value → Shared → Prop} (B : Begins v o R0) (h1 : R0 s.heap)
    (h : ∀ h', IsEnum h' (s.heap.objs.size + 1) s.heap.objs.size 0 .none → h'.get? s.heap.objs.size = some o → (∀ b u, s.heap.get? b = some u → h'.get? b = some u) → Q (.ref (s.heap.objs.size + 1)) { s with heap := h' }) :
    wpAny (model prog w) A (call (.type "enumerate") [v]) Q E s := by
  refine callType_new F.called_enumerate (by decide) (F.typeCall_enumerate_1 _) (F.newCall_enumerate_1 _) (fun ob => F.args_object_init_2 ob _) F.entry_enumerate_new (enumT_new B) ⟨h1, ?_⟩
  have z : (s.heap.push o).objs.size = s.heap.objs.size + 1 := Heap.size_push ..
  show _ ∧ _
  rw [z]
  have g := Heap.get?_push_size (s.heap.push o) (o := ⟨.type "enumerate", none, .fields #[.none, .bool false, .ref s.heap.objs.size, rawInt 0, .none, .none], #[]⟩) rfl
  rw [z] at g
  exact ⟨⟨_, g, rfl⟩, h _ g (Heap.get?_push_of_some _ (Heap.get?_push_size _ B.free)) fun b u x => Heap.get?_push_of_some _ (Heap.get?_push_of_some _ x)⟩
/-- the tuple at a, each item in a new pair with its number -/
def IteT (K : PySem.W.Frag) (a : Addr) : It where
  go i H := ∃ (xs : List V) (x : V), SqT K H a xs ∧ xs[i]? = some x
  yld i H v H' := ∃ p x, v = .ref p ∧ H p = none ∧ H' = upd H p (.tup [.int (i : Nat), x]) ∧ (∀ xs, SqT K H a xs → xs[i]? = some x)
  stop i H := ∃ xs : List V, SqT K H a xs ∧ xs.length ≤ i
theorem tup_inj {X : Cx} {pins : List (Addr × Obj)} {σ : St} {H : Hp} {s : Shared} {a : Addr} {xs ys : List V} (I : Inv X pins σ H s) (h : SqT X.K H a xs) (h' : SqT X.K H a ys) : xs = ys := I.tuple_inj h h'
theorem turn_enumT {P : Program} {w : World} {K : PySem.W.Frag} {es : List Expr} {n : Nat} {tp : Pos} (a e it : Addr) :
    Turn P w K (.Tuple es n tp) (IteT K a) [e, it] e (fun i h => (∃ old, IsEnum h e it ((i : Nat) : Int) old) ∧ h.IsTupleIter it a i ∧ e ≠ it ∧ it ≠ a) where
  mem := by simp
  obj i h st b hb := by
    obtain ⟨⟨old, he⟩, ⟨o, ho, _, hd⟩, _⟩ := st
    rcases (show b = e ∨ b = it by simpa using hb) with z | z
    · subst z; exact ⟨_, he, fun v q => nomatch q⟩
    · subst z; exact ⟨o, ho, fun v q => by rw [hd] at q; cases q⟩
  keep i h h' st k := by
    obtain ⟨⟨old, he⟩, hi, n1, n2⟩ := st
    exact ⟨⟨old, k e (by simp) _ he⟩, hi.at (fun o q => k it (by simp) o q), n1, n2⟩
  item := by
    intro X hP hw hK hc i pins s σ H E I hf st hg
    subst hP hw hK
    obtain ⟨⟨old, he⟩, hit, n1, n2⟩ := st
    obtain ⟨xs, x, hq, hx⟩ := hg
    obtain ⟨its, rv, p, hz⟩ := I.tuple hq
    obtain ⟨u, hu, ru⟩ := rv.get hx
    have hi : i < its.length := (List.getElem?_eq_some_iff.mp hu).1
    have hel : e < s.heap.objs.size := Heap.lt_size he
    have hil : it < s.heap.objs.size := by obtain ⟨_, q, _⟩ := hit; exact Heap.lt_size q
    have hea : e ∉ [it, a] := by
      intro z
      rcases (show e = it ∨ e = a by simpa using z) with z | z
      · exact n1 z
      · subst z
        obtain ⟨o, q1, q2, _⟩ := p
        rw [show s.heap.get? e = _ from he] at q1
        cases q1
        simp at q2
    have Dr := Draws.tuple (prog := X.prog) (w := X.w) (A := X.A.in1) (I.ok.hd hc) it a n2.symm its.toArray
    refine wpAny_pyNext_enum_itemD Dr he ⟨hit, p⟩ (by simpa using hi) n1 hea fun u' h' tk hu' ho hst' hT hsz hk => ?_
    have eu : u' = u := by
      rw [show its.toArray[i]? = its[i]? by simp, hu] at hu'
      exact (Option.some.inj hu').symm
    subst eu
    refine ⟨_, rfl, wpAny_letOwnedTupleGo_enum (s := { s with heap := h', toks := tk + 1 }) ho fun h2 he2 sb => ?_⟩
    have hT2 : h2.get? s.heap.objs.size = some ⟨.type "tuple", none, .seq #[.int i tk, u'], #[]⟩ := (sb.2 _ (Nat.ne_of_gt hel)).trans hT
    have new : ObjOk X.prog X.w (upd H s.heap.objs.size (.tup [.int (i : Nat), x])) h2 s.heap.objs.size (.tup [.int (i : Nat), x]) :=
      ⟨line1000 (by show 2 ≤ 1000000; decide), [.int i tk, u'], .cons ⟨_, rfl⟩ (.cons ru .nil), _, hT2, rfl, _, rfl⟩
    have hb2 : ∀ b, b ∈ [e, it] → b < s.heap.objs.size := fun b hb => by
      rcases (show b = e ∨ b = it by simpa using hb) with z | z <;> rw [z] <;> assumption
    have I1 : Inv X pins σ (upd H s.heap.objs.size (.tup [.int (i : Nat), x])) { s with heap := h2, toks := tk + 1 } :=
      I.turnedNew (ch := [e, it]) (fun b ob hb q => (sb.2 b (fun z => hb (by simp [z]))).trans (hk b ob (fun z => hb (by simp [z])) (fun z => hb (by simp [z])) q)) hf (Nat.le_refl _) new
    refine ⟨.ref s.heap.objs.size, _, I1, rfl, ⟨_, x, rfl, I.hok.fresh (Nat.le_refl _), rfl, fun ys hy => by rw [tup_inj I hy hq]; exact hx⟩, ⟨⟨u', ?_⟩, hst'.1.at fun o q => (sb.2 it n1.symm).trans q, n1, n2⟩, fun b hb => ?_⟩
    · rw [show ((i + 1 : Nat) : Int) = (i : Int) + 1 by omega]
      exact he2
    · rw [upd_ne (Nat.ne_of_lt (hb2 b hb))]
      exact (hf b hb).1
  done := by
    intro X hP hw hK hc i pins s σ H E I hf st hg
    subst hP hw hK
    obtain ⟨⟨old, he⟩, hit, n1, n2⟩ := st
    obtain ⟨xs, hq, hx⟩ := hg
    obtain ⟨its, rv, p, hz⟩ := I.tuple hq
    obtain ⟨f0, f1, f2, f3, f4, f5⟩ := hf it (by simp)
    have hl := rv.length
    have T : s.TypeIs (.ref e) "enumerate" := ⟨_, he, rfl⟩
    unfold pyNext
    refine wpAny_bind (wpAny_attempt (wpAny_callSpecial?_slot (name := Str.ofString "__next__") T F.slot_enumerate_next (wpAny_call_entry F.slot_enumerate_next T F.entry_enumerate_next ?_ (F.args_enumerate_next_1 _))))
    show wpAny _ _ (field (.ref e) 2 >>= _) _ _ _
    refine wpAny_bind (wpAny_field he rfl (x := .ref it) rfl ?_)
    refine wpAny_bind (wpAny_nextOf_tuple_end (I.ok.hd hc) hit (show s.heap.IsTuple a its.toArray from p) (by simp; omega) fun h' x eb hx' => ?_)
    obtain ⟨o, ho, hcl⟩ := hx'
    refine wpAny_bind (wpAny_isInstance (T := "StopIteration") (b := true) ⟨o, ho, hcl⟩ isSubtype_stop ?_)
    exact wpAny_pure ⟨rfl, I.turned (t' := s.toks) (fun b o hb q => eb b o hb q) f0 f1 f3 f4 f5⟩
  self A i s Q E st h := by
    obtain ⟨⟨_, he⟩, _⟩ := st
    exact wpAny_pyIter_enum he h
def iEnumT (K : PySem.W.Frag) (ta : TA) : TI := fun σ H R => ta σ H fun vs H1 => ∃ a xs, vs = [.ref a] ∧ SqT K H1 a xs ∧ R (IteT K a) H1
theorem pi_enumT {X : Cx} {e : Expr} {ta : TA} {p pos tp : Pos} {es : List Expr} {n : Nat} (hg : Gl X "enumerate") (hm : X.mg "enumerate" = none) (ha : PA X [e] ta) (hs : starEach [e] X.env = [(false, eval e X.env)] := by rfl) :
    PI X (.Tuple es n tp) (.Call (.Name "enumerate" p) [e] [] pos) (iEnumT X.K ta) := by
  refine ⟨fun pins s σ H R I h => ?_⟩
  refine PyProof.Rows.Call_ (ld_blt I hg hm (by rfl) (PyProof.Rows.callWith_type1 (thn (ha.run pos pins s σ H _ I h) fun us s1 q => ?_) hs rfl))
  obtain ⟨vs, H1, I1, r1, a, xs, ex, hq, q⟩ := q
  subst ex
  cases r1 with
  | cons r rr =>
    cases rr
    cases r
    obtain ⟨its, rv, p', hz⟩ := I1.tuple hq
    have p2 : s1.heap.IsTuple a its.toArray := p'
    have hal : a < s1.heap.objs.size := by obtain ⟨_, q, _⟩ := p2; exact Heap.lt_size q
    refine call_enumT (begins_tuple a its.toArray) p2 fun h' he hit hk => wpAny_pyIter_enum he ?_
    have I2 : Inv X pins σ H1 { s1 with heap := h' } := I1.kept (t' := s1.toks) hk
    refine ⟨s1.heap.objs.size + 1, [s1.heap.objs.size + 1, s1.heap.objs.size], _, _, H1, rfl, I2, turn_enumT a (s1.heap.objs.size + 1) s1.heap.objs.size, ⟨⟨.none, he⟩, ⟨_, hit, rfl, rfl⟩, Nat.succ_ne_self _, (Nat.ne_of_lt hal).symm⟩, fun b hb => ?_, q⟩
    have le : s1.heap.objs.size ≤ b := by
      rcases (show b = s1.heap.objs.size + 1 ∨ b = s1.heap.objs.size by simpa using hb) with z | z
      · rw [z]; exact Nat.le_add_right _ _
      · rw [z]; exact Nat.le_refl _
    exact I1.fpOk le (I1.hok.fresh le)
/-- a list comprehension over enumerate of a tuple -/
theorem lc_enumT {K : PySem.W.Frag} {a : Addr} {xs : List V} {g : TG} {tt : TT} {te : TE} {vs : List Nat} {σ : St} {H1 : Hp} {D : Addr} {Qd : Hp → Prop} (Pv : Nat → Hp → Prop) (h0 : Pv 0 (upd H1 D (.lst []))) (hl : ∀ i H, i ≤ xs.length → Pv i H → SqT K H a xs)
    (hs : ∀ i x H p, xs[i]? = some x → Pv i H → H p = none → g (.ref p) (wipe σ vs) (upd H p (.tup [.int (i : Nat), x])) fun σ2 H2 => wipe σ2 vs = wipe σ vs ∧ tt σ2 H2 fun b H3 =>
      if b = true then te σ2 H3 fun y H4 => ∃ acc, H4 D = some (.lst acc) ∧ acc.length < sizeLine ∧ Pv (i + 1) (upd H4 D (.lst (acc ++ [y]))) else Pv (i + 1) H3) (hd : ∀ H, Pv xs.length H → Qd H) :
    ∃ W : Nat → Nat → Hp → Prop, (∃ m, W 0 m (upd H1 D (.lst []))) ∧ ∀ i m H, W i m H → ((IteT K a).stop i H ∧ Qd H) ∨ ((IteT K a).go i H ∧ ∃ Nx : Hp → Prop, (∀ H', Nx H' → ∃ m', m' < m ∧ W (i + 1) m' H') ∧
      ∀ x H', (IteT K a).yld i H x H' → g x (wipe σ vs) H' fun σ2 H2 => wipe σ2 vs = wipe σ vs ∧ tt σ2 H2 fun b H3 => if b = true then te σ2 H3 fun y H4 => ∃ acc, H4 D = some (.lst acc) ∧ acc.length < sizeLine ∧ Nx (upd H4 D (.lst (acc ++ [y]))) else Nx H3) := by
  refine ⟨fun i m H => m = xs.length - i ∧ i ≤ xs.length ∧ Pv i H, ⟨xs.length, by simp, Nat.zero_le _, h0⟩, ?_⟩
  rintro i m H ⟨rfl, hi, p⟩
  have q := hl i H hi p
  by_cases hlt : i < xs.length
  · refine .inr ⟨⟨xs, xs[i], q, by simp [hlt]⟩, Pv (i + 1), fun H' p' => ⟨xs.length - (i + 1), by omega, rfl, hlt, p'⟩, fun v H' y => ?_⟩
    obtain ⟨t, x, e1, e2, e3, e4⟩ := y
    subst e1 e3
    exact hs i x _ t (e4 xs q) p e2
  · have e : i = xs.length := by omega
    subst e
    exact .inl ⟨⟨xs, q, Nat.le_refl _⟩, hd H p⟩
/-- for over enumerate of a list -/
theorem for_enumL {K : PySem.W.Frag} {a : Addr} {xs : List V} {g : TG} {tb : TS} {D : Ends} {σ : St} {H : Hp} (Pv : Nat → St → Hp → Prop) (h0 : Pv 0 σ H) (hl : ∀ i σ H, i ≤ xs.length → Pv i σ H → SqL K H a xs)
    (hs : ∀ i x σ H p, xs[i]? = some x → Pv i σ H → H p = none → g (.ref p) σ (upd H p (.tup [.int (i : Nat), x])) fun σ2 H2 => tb { D with nx := Pv (i + 1), ct := Pv (i + 1), bk := D.nx } σ2 H2) (hd : ∀ σ H, Pv xs.length σ H → D.nx σ H) :
    ∃ W : Nat → Nat → St → Hp → Prop, (∃ m, W 0 m σ H) ∧ ∀ i m σ H, W i m σ H → ((Ite K a).stop i H ∧ D.nx σ H) ∨ ((Ite K a).go i H ∧ ∃ N : St → Hp → Prop, (∀ σ' H', N σ' H' → ∃ m', m' < m ∧ W (i + 1) m' σ' H') ∧
      ∀ x H', (Ite K a).yld i H x H' → g x σ H' fun σ2 H2 => tb { D with nx := N, ct := N, bk := D.nx } σ2 H2) := by
  refine ⟨fun i m σ H => m = xs.length - i ∧ i ≤ xs.length ∧ Pv i σ H, ⟨xs.length, by simp, Nat.zero_le _, h0⟩, ?_⟩
  rintro i m σ H ⟨rfl, hi, p⟩
  have q := hl i σ H hi p
  by_cases hlt : i < xs.length
  · refine .inr ⟨⟨xs, xs[i], q, by simp [hlt]⟩, Pv (i + 1), fun σ' H' p' => ⟨xs.length - (i + 1), by omega, rfl, hlt, p'⟩, fun v H' y => ?_⟩
    obtain ⟨t, x, e1, e2, e3, e4⟩ := y
    subst e1 e3
    exact hs i x σ _ t (e4 xs q) p e2
  · have e : i = xs.length := by omega
    subst e
    exact .inl ⟨⟨xs, q, Nat.le_refl _⟩, hd σ H p⟩
end PG

set_option Elab.async false
set_option linter.all false
set_option autoImplicit false
set_option maxRecDepth 100000
set_option maxHeartbeats 4000000
namespace PG
open PySem L2
theorem all_min {ns : List Int} {m : Int} (hm : m ∈ ns) (hy : ∀ y, y ∈ ns → m ≤ y) : ns.all (fun x => decide (0 ≤ x)) = decide (0 ≤ m) := by
  by_cases h : 0 ≤ m
  · rw [decide_eq_true h, List.all_eq_true]
    intro x hx
    have := hy x hx
    exact decide_eq_true (by omega)
  · rw [decide_eq_false h, List.all_eq_false]
    exact ⟨m, hm, by simpa using h⟩
section
variable {P : Program} {w : World} {K : PySem.W.Frag} {mg : Str → Option Value} {base : Heap} {A : Adr}
/-! ## is_head -/
def spHead : Sp := fun vs H Q _ => ∃ (p : Int) (v : V) (ns : Pl), vs = [.int p, v] ∧ PlV H v ns ∧ ns.length ≤ 1000 ∧ ∀ H', Same H H' → Q (.bl (isHead p ns)) H'
theorem sc_head : FnScope ["plate", "value", "entry"] ["plate", "value"] (defScope (top 26)) := ⟨rfl, rfl, rfl, by decide +kernel, rfl, by decide +kernel, by decide +kernel⟩
theorem ok_is_head (T : Txt K mg A) : FnOk P w K mg base CX0 2 A.a_is_head A.d_is_head ["plate", "value"] spHead := by
  obtain ⟨ds, rds, bw⟩ := b_whole1 T
  refine T.t_is_head.F.ok sc_head (fun vs H Q E h => ?_) (fun cdv A0 outer s H vs Q E hr h => ?_)
  · obtain ⟨p, v, ns, rfl, _⟩ := h
    rfl
  · obtain ⟨p, v, ns, rfl, ⟨a, rfl, ha⟩, hl, k⟩ := h
    refine ⟨_, pss_cons (ps_if (PW.pt (pw_or (pt_not (pt_val (pe_callB call_isi (by rfl) T.z_isinstance (by decide +kernel) (pa_cons (pv 1) (pa_cons (pe_bltn (v := .ty "tuple") (u := .type "tuple") (by rfl) T.z_tuple (by decide +kernel) rfl) pa_nil)))))
        (pw_or (pt_cmpR op_ne (pe_callB call_len_seq (by rfl) T.z_len PySem.boot_len (pa_cons (pv 1) pa_nil)) pe_int (nomark _))
        (pw_or1 (pt_not (pt_val (pe_callB (cr_all rfl) (by rfl) T.z_all (by decide +kernel) (pa_cons (pe_lc (own := [("entry", 2)]) (g := gName 2) (tt := tYes) rfl sc_head.nd (pi_tup (pv 1)) (blkOk_by (N := ["plate", "value", "entry"]) (sc := defScope (top 26)) (by decide +kernel))
          (fun _ _ _ _ _ => pg_name (i := 2) sc_head.nd rfl (Or.inl rfl)) (fun _ _ _ _ _ => pts_nil)
          (fun _ _ _ _ _ => pe_call (ok_is_whole T) (hr.mono (by decide)) rfl T.w_g T.w_is_whole.kp bw rds pass0 (pa_cons (pv 2) pa_nil))) pa_nil))))))))
        (pss_one (ps_ret pe_bl)) pss_nil)
      (pss_one (ps_ret (pe_and (pe_cmpR op_ge (pe_callB (cr_minT rfl hr.units) (by rfl) T.z_min (by decide +kernel) (pa_cons (pv 1) pa_nil)) pe_int (nomark _))
        (pe_one (pe_cmpR op_eq (pe_call (ok_head_plate T) hr rfl T.t_head_plate.g T.t_head_plate.F.kp T.t_head_plate.b .nil pass0 (pa_cons (pe_ix ix_tup (pv 1) pe_int (fun _ _ => rfl)) pa_nil)) (pv 0) (nomark _)))))), ?_⟩
    refine ⟨_, rfl, _, _, _, _, true, rfl, .ty "tuple", .base (.tup ha), kit_ty (by decide +kernel), _, rfl, iteF ?_⟩
    refine ⟨_, rfl, a, _, rfl, .inr (SqT.of ha), rfl, _, rfl, ?_⟩
    rw [List.length_map, decInt]
    by_cases h3 : ns.length = 3
    · rw [decide_eq_true (show (ns.length : Int) = 3 by omega)]
      refine iteF ⟨_, rfl, a, rfl, ⟨_, SqT.of ha⟩, fun D hD => all_whole (i := 2) (σ := [some (.int p), some (.ref a), none]) hD hl ha (Nat.lt_succ_self _) fun H' s1 hd => ?_⟩
      delta tNil
      refine all_true hd ?_
      refine ⟨_, rfl, iteF ?_⟩
      obtain ⟨n0, rest, rfl⟩ : ∃ n0 rest, ns = n0 :: rest := by
        cases ns with
        | nil => cases h3
        | cons n0 r => exact ⟨n0, r, rfl⟩
      have ha' := s1 _ _ ha
      refine ⟨_, rfl, a, _, rfl, SqT.of ha', List.cons_ne_nil _ _, fun m hm hy => ⟨_, _, rfl, rfl, _, rfl, ?_⟩⟩
      have hq : isHead p (n0 :: rest) = (decide (0 ≤ m) && decide (n0 % 2 = p)) := by
        unfold isHead
        rw [decide_eq_true h3, all_min hm hy]
        rfl
      rw [hq] at k
      refine ite_b (fun hb => ?_) fun hb => ?_
      · have hb' : decide (0 ≤ m) = true := hb
        rw [hb'] at k
        refine ⟨_, rfl, a, _, 0, _, rfl, rfl, SqT.of ha', atI_of (i := 0) rfl rfl, n0, rfl, _, rfl, rfl, ?_⟩
        rw [decInt]
        exact k H' s1
      · have hb' : decide (0 ≤ m) = false := hb
        rw [hb'] at k
        exact k H' s1
    · rw [decide_eq_false (show ¬ (ns.length : Int) = 3 by omega)]
      have hq : isHead p ns = false := by
        unfold isHead
        rw [decide_eq_false h3]
        rfl
      rw [hq] at k
      exact iteT (iteT (k H (Same.refl _)))
/-! ## is_log_plate -/
def spLogP : Sp := fun vs H Q _ => ∃ (v : V) (ns : Pl), vs = [v] ∧ PlV H v ns ∧ ns.length ≤ 1000 ∧ ∀ H', Same H H' → Q (.bl (isLog ns)) H'
theorem sc_logp : FnScope ["value", "entry"] ["value"] (defScope (top 32)) := ⟨rfl, rfl, rfl, by decide +kernel, rfl, by decide +kernel, by decide +kernel⟩
theorem ok_is_log_plate (T : Txt K mg A) : FnOk P w K mg base CX0 2 A.a_is_log_plate A.d_is_log_plate ["value"] spLogP := by
  obtain ⟨ds, rds, bw⟩ := b_whole1 T
  obtain ⟨tw, hw⟩ := T.v_WIDTH
  obtain ⟨tp, hp⟩ := T.v_PARTS
  refine T.t_is_log_plate.F.ok sc_logp (fun vs H Q E h => ?_) (fun cdv A0 outer s H vs Q E hr h => ?_)
  · obtain ⟨v, ns, rfl, _⟩ := h
    rfl
  · obtain ⟨v, ns, rfl, ⟨a, rfl, ha⟩, hl, k⟩ := h
    refine ⟨_, pss_cons (ps_if (PW.pt (pw_or (pt_not (pt_val (pe_callB call_isi (by rfl) T.z_isinstance (by decide +kernel) (pa_cons (pv 0) (pa_cons (pe_bltn (v := .ty "tuple") (u := .type "tuple") (by rfl) T.z_tuple (by decide +kernel) rfl) pa_nil)))))
        (pw_or (pt_cmpR op_ne (pe_callB call_len_seq (by rfl) T.z_len PySem.boot_len (pa_cons (pv 0) pa_nil)) (pe_op op_add (pe_gint rfl hp) (pe_gint rfl hw)) (nomark _))
        (pw_or1 (pt_not (pt_val (pe_callB (cr_all rfl) (by rfl) T.z_all (by decide +kernel) (pa_cons (pe_lc (own := [("entry", 1)]) (g := gName 1) (tt := tYes) rfl sc_logp.nd (pi_tup (pv 0)) (blkOk_by (N := ["value", "entry"]) (sc := defScope (top 32)) (by decide +kernel))
          (fun _ _ _ _ _ => pg_name (i := 1) sc_logp.nd rfl (Or.inl rfl)) (fun _ _ _ _ _ => pts_nil)
          (fun _ _ _ _ _ => pe_call (ok_is_whole T) (hr.mono (by decide)) rfl T.w_g T.w_is_whole.kp bw rds pass0 (pa_cons (pv 1) pa_nil))) pa_nil))))))))
        (pss_one (ps_ret pe_bl)) pss_nil)
      (pss_one (ps_ret (pe_and (pe_chain op_le op_lt pe_int (pe_ix ix_tup (pv 0) pe_int (fun _ _ => rfl)) (pe_ix ix_tup (pv 0) pe_int (fun _ _ => rfl)))
        (pe_and (pe_cmpR op_ge (pe_ix ix_tup (pv 0) pe_int (fun _ _ => rfl)) pe_int (nomark _))
        (pe_one (pe_cmpR op_ge (pe_ix ix_tup (pv 0) pe_int (fun _ _ => rfl)) pe_int (nomark _))))))), ?_⟩
    refine ⟨_, rfl, _, _, _, _, true, rfl, .ty "tuple", .base (.tup ha), kit_ty (by decide +kernel), _, rfl, iteF ?_⟩
    refine ⟨_, rfl, a, _, rfl, .inr (SqT.of ha), _, _, rfl, rfl, rfl, _, rfl, ?_⟩
    rw [List.length_map, decInt]
    by_cases h3 : ns.length = 12
    · rw [decide_eq_true (show (ns.length : Int) = 4 + 8 by omega)]
      refine iteF ⟨_, rfl, a, rfl, ⟨_, SqT.of ha⟩, fun D hD => all_whole (i := 1) (σ := [some (.ref a), none]) hD hl ha (Nat.lt_succ_self _) fun H' s1 hd => ?_⟩
      delta tNil
      refine all_true hd ?_
      refine ⟨_, rfl, iteF ?_⟩
      have ha' := s1 _ _ ha
      have hq : isLog ns = (decide (0 ≤ ns.getD 1 0) && decide (ns.getD 1 0 < ns.getD 2 0) && decide (0 ≤ ns.getD 0 0) && decide (0 ≤ ns.getD 3 0)) := by
        unfold isLog
        rw [decide_eq_true h3]
        rfl
      rw [hq] at k
      have at' : ∀ i, i < 12 → atI (ns.map V.int) (i : Nat) = some (V.int (ns.getD i 0)) := fun i hi => atI_of rfl (ints_at (by omega))
      refine ⟨_, rfl, a, _, 1, _, rfl, rfl, SqT.of ha', at' 1 (by decide), _, _, rfl, rfl, _, rfl, ?_⟩
      refine ite_b (fun h1 => ?_) fun h1 => ?_
      · rw [show decide (0 ≤ ns.getD 1 0) = true from h1] at k
        refine ⟨_, rfl, a, _, 2, _, rfl, rfl, SqT.of ha', at' 2 (by decide), _, _, rfl, rfl, _, rfl, ?_⟩
        refine ite_b (fun h2 => ?_) fun h2 => ?_
        · rw [show decide (ns.getD 1 0 < ns.getD 2 0) = true from h2] at k
          refine ⟨_, rfl, a, _, 0, _, rfl, rfl, SqT.of ha', at' 0 (by decide), _, _, rfl, rfl, _, rfl, ?_⟩
          refine ite_b (fun h3 => ?_) fun h3 => ?_
          · rw [show decide (0 ≤ ns.getD 0 0) = true from h3] at k
            exact ⟨_, rfl, a, _, 3, _, rfl, rfl, SqT.of ha', at' 3 (by decide), _, _, rfl, rfl, k H' s1⟩
          · rw [show decide (0 ≤ ns.getD 0 0) = false from h3] at k
            exact k H' s1
        · rw [show decide (ns.getD 1 0 < ns.getD 2 0) = false from h2] at k
          exact k H' s1
      · rw [show decide (0 ≤ ns.getD 1 0) = false from h1] at k
        exact ⟨_, rfl, k H' s1⟩
    · rw [decide_eq_false (show ¬ (ns.length : Int) = 4 + 8 by omega)]
      have hq : isLog ns = false := by
        unfold isLog
        rw [decide_eq_false h3]
        rfl
      rw [hq] at k
      exact iteT (iteT (k H (Same.refl _)))
end
end PG

set_option Elab.async false
set_option linter.all false
set_option autoImplicit false
set_option maxRecDepth 100000
set_option maxHeartbeats 4000000
namespace PG
open PySem L2
/-! ## data that can be compared -/
def Flat (n : Nat) (x : PyData) : Prop := x.canLay0 = true ∧ x.depth ≤ n
theorem flatAll {n : Nat} : ∀ {xs : List PyData}, (∀ x ∈ xs, Flat n x) → PyData.canLayAll0 xs = true ∧ PyData.depthAll xs ≤ n
  | [], _ => ⟨by simp [PyData.canLayAll0], by simp [PyData.depthAll]⟩
  | x :: xs, h => by
    obtain ⟨a, b⟩ := h x List.mem_cons_self
    obtain ⟨c, d⟩ := flatAll (xs := xs) fun y hy => h y (List.mem_cons_of_mem _ hy)
    exact ⟨by simp [PyData.canLayAll0, a, c], by show max x.depth (PyData.depthAll xs) ≤ n; omega⟩
theorem flat_int (n : Nat) (i : Int) : Flat n (.int i) := ⟨by simp [PyData.canLay0], by simp [PyData.depth]⟩
theorem flat_tup {n : Nat} {xs : List PyData} (h : ∀ x ∈ xs, Flat n x) : Flat (n + 1) (.tuple xs) :=
  ⟨by simp only [PyData.canLay0]; exact (flatAll h).1, by have := (flatAll h).2; simp only [PyData.depth]; omega⟩
theorem flat_lst {n : Nat} {xs : List PyData} (h : ∀ x ∈ xs, Flat n x) : Flat (n + 1) (.list xs) :=
  ⟨by simp only [PyData.canLay0]; exact (flatAll h).1, by have := (flatAll h).2; simp only [PyData.depth]; omega⟩
theorem Flat.shaped {n : Nat} {x : PyData} (h : Flat n x) (hn : n ≤ 64 := by decide) : SeqAt.shaped x = true := by
  show (x.canLay0 && decide (x.depth ≤ 64)) = true
  rw [h.1, decide_eq_true (Nat.le_trans h.2 hn)]
  rfl
def plD (p : Pl) : PyData := .tuple (p.map PyData.int)
def entD (e : Int × Pl) : PyData := .tuple [.int e.1, plD e.2]
def grpD (g : Grp) : PyData := .tuple [.int g.1, .int g.2.1, .tuple (g.2.2.map entD)]
theorem flat_pl (p : Pl) : Flat 1 (plD p) := flat_tup fun x hx => by
  obtain ⟨i, _, rfl⟩ := List.mem_map.mp hx
  exact flat_int 0 i
theorem flat_ent (e : Int × Pl) : Flat 2 (entD e) := flat_tup fun x hx => by
  rcases List.mem_cons.mp hx with z | z
  · subst z; exact flat_int 1 _
  · rw [List.mem_singleton] at z
    subst z
    exact flat_pl _
theorem flat_map {α : Type} {n : Nat} {f : α → PyData} (h : ∀ a, Flat n (f a)) (l : List α) : ∀ x ∈ l.map f, Flat n x := fun x hx => by
  obtain ⟨a, _, rfl⟩ := List.mem_map.mp hx
  exact h a
theorem flat_grp (g : Grp) : Flat 4 (grpD g) := flat_tup fun x hx => by
  rcases List.mem_cons.mp hx with z | z
  · subst z; exact flat_int 3 _
  · rcases List.mem_cons.mp z with z | z
    · subst z; exact flat_int 3 _
    · rw [List.mem_singleton] at z
      subst z
      exact flat_tup (flat_map flat_ent _)
theorem dpAllV {α : Type} {K : PySem.W.Frag} {H : Hp} {R : V → α → Prop} {f : α → PyData} (hf : ∀ v a, R v a → Dp K H v (f a)) : ∀ {xs : List V} {L : List α}, AllV R xs L → DpAll K H xs (L.map f)
  | [], L, h => by
    have := List.length_eq_zero_iff.mp h.len.symm
    subst this
    exact .nil
  | x :: xs, [], h => by have := h.len; simp at this
  | x :: xs, p :: L, h => .cons (hf _ _ (h.2 0 x p rfl rfl)) (dpAllV hf ⟨by have := h.len; simpa using this, fun i v n a b => h.2 (i + 1) v n a b⟩)
theorem dpEnt {K : PySem.W.Frag} {H : Hp} {v : V} {e : Int × Pl} (h : EntV H v e) : Dp K H v (entD e) := by
  obtain ⟨a, x, rfl, ha, hx⟩ := h
  exact .tup (SqT.of ha) (.cons (.int _) (.cons (dpPl hx) .nil))
theorem dpGrp {K : PySem.W.Frag} {H : Hp} {v : V} {g : Grp} (h : GrpV H v g) : Dp K H v (grpD g) := by
  obtain ⟨a, c, rfl, ha, xs, hc, hx⟩ := h
  exact .tup (SqT.of ha) (.cons (.int _) (.cons (.int _) (.cons (.tup (SqT.of hc) (dpAllV (fun _ _ z => dpEnt z) hx)) .nil)))
theorem dpPls {K : PySem.W.Frag} {H : Hp} {xs : List V} {L : List Pl} (h : AllV (PlV H) xs L) : DpAll K H xs (L.map plD) := dpAllV (fun _ _ z => dpPl z) h
theorem eqv_list0 {α : Type} (f : α → PyData) (l : List α) : PyData.eqv (.list (l.map f)) (.list []) = decide (l = []) := by
  cases l <;> simp [PyData.eqv, PyData.eqvAll]
theorem eqv_tup0 {α : Type} (f : α → PyData) (l : List α) : PyData.eqv (.tuple (l.map f)) (.tuple []) = decide (l = []) := by
  cases l <;> simp [PyData.eqv, PyData.eqvAll]
theorem shaped_l0 : SeqAt.shaped (.list []) = true := rfl
theorem shaped_t0 : SeqAt.shaped (.tuple []) = true := rfl
/-- every plate of a disk is short -/
def Short (s : List Pl) : Prop := ∀ v ∈ s, v.length ≤ 1000
theorem Short.gp {s : List Pl} (h : Short s) (p : Int) : (gp s p).length ≤ 1000 := by
  unfold PG.gp
  rw [List.getD_eq_getElem?_getD]
  cases e : s[p.toNat]? with
  | none => exact Nat.zero_le _
  | some v => exact h v (List.mem_of_getElem? e)
def headF (s : List Pl) (p : Int) : Option Pl := if isHead p (gp s p) then some (gp s p) else none
def headsTo (s : List Pl) (i : Nat) : List Pl := ((List.range i).map fun j : Nat => (j : Int)).filterMap (headF s)
theorem headsTo_two (s : List Pl) : headsTo s 2 = heads s := rfl
theorem headsTo_succ (s : List Pl) (i : Nat) : headsTo s (i + 1) = headsTo s i ++ (if isHead (i : Int) (gp s (i : Int)) then [gp s (i : Int)] else []) := by
  unfold headsTo
  rw [List.range_succ, List.map_append, List.filterMap_append]
  congr 1
  show List.filterMap (headF s) [(i : Int)] = _
  unfold headF
  by_cases h : isHead (i : Int) (gp s (i : Int)) = true
  · simp [h]
  · simp [h]
theorem headsTo_len (s : List Pl) (i : Nat) : (headsTo s i).length ≤ i := by
  unfold headsTo
  refine Nat.le_trans (List.length_filterMap_le _ _) ?_
  simp
section
variable {P : Program} {w : World} {K : PySem.W.Frag} {mg : Str → Option Value} {base : Heap} {A : Adr}
/-! ## read_head -/
def spReadHead (A : Adr) : Sp := fun vs H Q _ => ∃ (d : Addr) (D : Dk), vs = [.ref d] ∧ DiskAt A H d D ∧ D.loose = [] ∧ Short D.settled ∧ heads D.settled ≠ [] ∧ ∀ v H', Same H H' → PlV H' v (bestHead (heads D.settled)) → Q v H'
theorem sc_rhead : FnScope ["disk", "found", "plate"] ["disk"] (defScope (top 27)) := ⟨rfl, rfl, rfl, by decide +kernel, rfl, by decide +kernel, by decide +kernel⟩
theorem ok_read_head (T : Txt K mg A) : FnOk P w K mg base CX0 4 A.a_read_head A.d_read_head ["disk"] (spReadHead A) := by
  obtain ⟨tw, hw⟩ := T.v_HEADS
  refine T.t_read_head.F.ok sc_rhead (fun vs H Q E h => ?_) (fun cdv A0 outer s H vs Q E hr h => ?_)
  · obtain ⟨d, D, rfl, _⟩ := h
    rfl
  · obtain ⟨d, D, rfl, hD, hloose, hsh, hne, k⟩ := h
    refine ⟨_, pss_cons (ps_setLc (i := 1) (own := [("plate", 2)]) (g := gName 2) rfl sc_rhead.nd rfl rfl (sw_true rfl rfl rfl (by decide +kernel)) (pi_range1 rfl T.z_range (pa_cons (pe_gint rfl hw) pa_nil))
          (blkOk_by (N := ["disk", "found", "plate"]) (sc := defScope (top 27)) (by decide +kernel))
          (fun _ _ _ _ _ => pg_name (i := 2) sc_rhead.nd rfl (Or.inl rfl))
          (fun _ _ _ _ _ => pts_one (pt_val (pe_call (ok_is_head T) (hr.mono (by decide)) rfl T.t_is_head.g T.t_is_head.F.kp T.t_is_head.b .nil pass0 (pa_cons (pv 2) (pa_cons (pe_meth (pv 0) T.k_Disk.c T.m_Disk_now.M (ok_Disk_now T) hr T.m_Disk_now.b .nil pass0 (pa_cons (pv 2) pa_nil)) pa_nil)))))
          (fun _ _ _ _ _ => pe_meth (pv 0) T.k_Disk.c T.m_Disk_now.M (ok_Disk_now T) hr T.m_Disk_now.b .nil pass0 (pa_cons (pv 2) pa_nil)))
      (pss_cons (ps_if (pt_cmpR (op_eqD hr.units) (pv 1) (pe_lst pa_nil) (nomark _)) (pss_one ps_never) pss_nil)
      (pss_one (ps_ret (pe_callB (cr_maxH rfl hr.units) (by rfl) T.z_max (by decide +kernel) (pa_cons (pv 1) pa_nil))))), ?_⟩
    have len2 := hD.s2
    refine ⟨2, rfl, by decide, by decide, fun D1 nD => lc_range (fun i H' => Same H H' ∧ ∃ acc, H' D1 = some (.lst acc) ∧ AllV (PlV H') acc (headsTo D.settled i)) ⟨Same.new nD, [], upd_same, AllV.nil⟩ ?_ ?_⟩
    · rintro i H' hi ⟨s1, acc, hA, hacc⟩
      rw [Int.zero_add]
      have hi2 : i < 2 := hi
      have hDx := hD.same s1
      obtain ⟨⟨dx, sa, la, hd, _⟩, _⟩ := id hDx
      refine ⟨rfl, _, rfl, _, rfl, d, dx, _, rfl, hd, DN_no _ _ (by decide +kernel), _, rfl, d, D, (i : Int), rfl, hDx, hloose, by omega, by omega, fun v H2 s2 hv => ?_⟩
      refine ⟨(i : Int), v, _, rfl, hv, hsh.gp _, fun H3 s3 => ⟨_, rfl, ?_⟩⟩
      rw [headsTo_succ]
      have s13 := s1.trans (s2.trans s3)
      by_cases hh : isHead (i : Int) (gp D.settled (i : Int)) = true
      · rw [hh, if_pos rfl]
        have hD3 := hD.same s13
        obtain ⟨⟨dx', sa', la', hd', _⟩, _⟩ := id hD3
        refine iteT ⟨_, rfl, d, dx', _, rfl, hd', DN_no _ _ (by decide +kernel), _, rfl, d, D, (i : Int), rfl, hD3, hloose, by omega, by omega, fun u H4 s4 hu => ?_⟩
        have s24 := s2.trans (s3.trans s4)
        have hA4 := s24 _ _ hA
        have te : TupE H4 (upd H4 D1 (.lst (acc ++ [u]))) := TupE.upd fun z q => by rw [hA4] at q; cases q
        refine ⟨acc, hA4, line_lt ?_, Same.upd0 (s13.trans s4) nD, _, upd_same, ((hacc.mono fun _ _ z => z.mono (Same.tups s24)).snoc hu).mono fun _ _ z => z.mono te⟩
        rw [hacc.len]
        have := headsTo_len D.settled i
        omega
      · rw [show isHead (i : Int) (gp D.settled (i : Int)) = false by simpa using hh]
        refine iteF ⟨s13, acc, s3 _ _ (s2 _ _ hA), ?_⟩
        rw [if_neg (by decide), List.append_nil]
        exact hacc.mono fun _ _ z => z.mono ((Same.tups s2).trans (Same.tups s3))
    · rintro H' ⟨s1, acc, hA, hacc⟩
      have hacc : AllV (PlV H') acc (heads D.settled) := hacc
      have hl2 : (heads D.settled).length ≤ 2 := headsTo_len D.settled 2
      refine ⟨_, rfl, Nat.zero_le _, fun e ne => ?_⟩
      obtain ⟨H2, e2, s2, he⟩ := newE (.lst []) ne
      rw [e2]
      have hacc2 := hacc.mono fun _ _ z => PlV.mono z (Same.tups s2)
      refine ⟨_, .list [], .lst (SqL.of (s2 _ _ hA)) (dpPls hacc2), .lst (SqL.of he) .nil, (flat_lst (flat_map flat_pl _)).shaped, rfl, _, rfl, ?_⟩
      rw [eqv_list0, decide_eq_false hne]
      exact iteF ⟨_, rfl, D1, acc, _, rfl, SqL.of (s2 _ _ hA), hacc2, hne, hl2, fun v hv => k v H2 (s1.trans s2) hv⟩
end
end PG

set_option Elab.async false
set_option linter.all false
set_option autoImplicit false
set_option maxRecDepth 100000
set_option maxHeartbeats 4000000
namespace PG
open PySem L2
/-- t[m:] of a tuple -/
theorem sl_drop {K : PySem.W.Frag} {H : Hp} {Q : VK} {a : Addr} {xs : List V} {m : Nat} (ha : H a = some (.tup xs)) (hm : m ≤ xs.length) (h : ∀ a' H', Same H H' → H' a' = some (.tup (xs.drop m)) → Q (.ref a') H') : rSlA K (.ref a) (some (m : Int)) none H Q := by
  have e1 : HT.sIx xs.length 0 (some (m : Int)) = m := by rw [HT.sIx_nat]; omega
  have e2 : HT.sIx xs.length xs.length none = xs.length := HT.sIx_none _ _
  refine ⟨a, xs, rfl, SqT.of ha, fun w => ?_, fun w p np => ?_⟩
  · refine h a H (Same.refl _) ?_
    rw [e1] at w
    rw [w.1, List.drop_zero]
    exact ha
  · refine h p _ (Same.new np) ?_
    rw [upd_same]
    unfold cutV
    rw [e1, e2, List.take_of_length_le (by rw [List.length_drop]; omega)]
theorem eqv_ints : ∀ a b : List Int, PyData.eqvAll (a.map PyData.int) (b.map PyData.int) = decide (a = b)
  | [], [] => by simp [PyData.eqvAll]
  | [], _ :: _ => by simp [PyData.eqvAll]
  | _ :: _, [] => by simp [PyData.eqvAll]
  | x :: xs, y :: ys => by
    simp only [List.map_cons, PyData.eqvAll, eqv_ints xs ys]
    by_cases h : x = y
    · subst h
      by_cases h2 : xs = ys <;> simp [PyData.eqv, h2]
    · simp [PyData.eqv, h]
theorem eqv_pl (a b : Pl) : PyData.eqv (plD a) (plD b) = decide (a = b) := by
  unfold plD
  simp only [PyData.eqv]
  exact eqv_ints a b
def rowsTo (g : Int) (ch : List (Int × Pl)) (i : Nat) : List Pl := (List.range i).map fun i => logRow g ch.length i (ch.getD i (0, []))
theorem rowsTo_succ (g : Int) (ch : List (Int × Pl)) (i : Nat) : rowsTo g ch (i + 1) = rowsTo g ch i ++ [logRow g ch.length i (ch.getD i (0, []))] := by
  unfold rowsTo
  rw [List.range_succ, List.map_append]
  rfl
section
variable {P : Program} {w : World} {K : PySem.W.Frag} {mg : Str → Option Value} {base : Heap} {A : Adr}
/-! ## log_rows -/
def spLogRows : Sp := fun vs H Q _ => ∃ (g : Int) (c : Addr) (ch : List (Int × Pl)), vs = [.int g, .ref c] ∧ EntsV H c ch ∧ ch.length ≤ 1000 ∧ (∀ e ∈ ch, e.2.length ≤ 1000) ∧
  ∀ a xs H', Same H H' → H' a = some (.lst xs) → AllV (PlV H') xs (logRows g ch) → Q (.ref a) H'
theorem sc_lrows : FnScope ["group", "changes", "many", "at", "plate", "cells"] ["group", "changes"] (defScope (top 31)) := ⟨rfl, rfl, rfl, by decide +kernel, rfl, by decide +kernel, by decide +kernel⟩
theorem ok_log_rows (T : Txt K mg A) : FnOk P w K mg base CX0 1 A.a_log_rows A.d_log_rows ["group", "changes"] spLogRows := by
  refine T.t_log_rows.F.ok sc_lrows (fun vs H Q E h => ?_) (fun cdv A0 outer s H vs Q E hr h => ?_)
  · obtain ⟨g, c, ch, rfl, _⟩ := h
    rfl
  · obtain ⟨g, c, ch, rfl, ⟨xs, hc, hxs⟩, hl, h8, k⟩ := h
    refine ⟨_, pss_cons (ps_set (i := 2) sc_lrows.nd rfl (Or.inr rfl) (pe_callB call_len_seq (by rfl) T.z_len PySem.boot_len (pa_cons (pv 1) pa_nil)))
      (pss_one (ps_ret (pe_lc (own := [("at", 3), ("plate", 4), ("cells", 5)]) (g := gTup K 2 (gCons (gName 3) (gCons (gTup K 2 (gCons (gName 4) (gCons (gName 5) gNil))) gNil))) (tt := tYes) (te := tTup (tCons (tVar 0) (tCons (tVar 3) (tCons (tVar 2) (tCons (tVar 4) (StX.tStar K (tVar 5) tNil)))))) rfl sc_lrows.nd
          (pi_enumT rfl T.z_enumerate (pa_cons (pv 1) pa_nil)) (blkOk_by (N := ["group", "changes", "many", "at", "plate", "cells"]) (sc := defScope (top 31)) (by decide +kernel))
          (fun _ _ _ _ _ => pg_tup rfl (pgs_cons (pg_name (i := 3) sc_lrows.nd rfl (Or.inl rfl)) (pgs_cons (pg_tup rfl (pgs_cons (pg_name (i := 4) sc_lrows.nd rfl (Or.inl rfl)) (pgs_cons (pg_name (i := 5) sc_lrows.nd rfl (Or.inl rfl)) pgs_nil))) pgs_nil)))
          (fun _ _ _ _ _ => pts_nil) (fun _ _ _ _ _ => pe_tup (pa_cons (pv 0) (pa_cons (pv 3) (pa_cons (pv 2) (pa_cons (pv 4) (StX.pa_star (pv 5) pa_nil))))))))), ?_⟩
    refine ⟨_, rfl, c, xs, rfl, .inr (SqT.of hc), ?_⟩
    rw [hxs.len]
    refine ⟨_, rfl, c, xs, rfl, SqT.of hc, fun D nD => lc_enumT (K := K) (a := c) (xs := xs) (fun i H' => Same H H' ∧ ∃ acc, H' D = some (.lst acc) ∧ AllV (PlV H') acc (rowsTo g ch i)) ⟨Same.new nD, [], upd_same, AllV.nil⟩ (fun i H' _ q => SqT.of (q.1 _ _ hc)) ?_ ?_⟩
    · rintro i x H' p hi ⟨s1, acc, hA, hacc⟩ np
      obtain ⟨e, he, a, y, rfl, ha, b, rfl, hb⟩ := hxs.at hi
      obtain ⟨H2, e2, s2, hp⟩ := newE (.tup [V.int (i : Nat), .ref a]) np
      rw [e2]
      have hil : i < ch.length := (List.getElem?_eq_some_iff.mp he).1
      have s12 := s1.trans s2
      refine ⟨p, _, rfl, SqT.of hp, rfl, _, _, rfl, _, _, rfl, ⟨a, _, rfl, SqT.of (s12 _ _ ha), rfl, _, _, rfl, _, _, rfl, rfl, rfl, rfl, tYes_ok (iteT ?_)⟩⟩
      refine ⟨_, rfl, _, rfl, _, rfl, _, rfl, _, rfl, b, _, rfl, .inl (SqT.of (s12 _ _ hb)), ?_, fun q nq => ?_⟩
      · have := h8 e (List.mem_of_getElem? he)
        refine line1000 ?_
        simp
        omega
      · obtain ⟨H3, e3, s3, hq⟩ := newE (.tup (V.int g :: V.int (i : Nat) :: V.int ch.length :: V.int e.1 :: (e.2.map V.int ++ []))) nq
        rw [e3]
        have s13 := s12.trans s3
        have hA3 := (s2.trans s3) _ _ hA
        have te : TupE H3 (upd H3 D (.lst (acc ++ [V.ref q]))) := TupE.upd fun z r => by rw [hA3] at r; cases r
        refine ⟨acc, hA3, line_lt ?_, Same.upd0 s13 nD, _, upd_same, ?_⟩
        · rw [hacc.len]
          unfold rowsTo
          simp
          omega
        · rw [rowsTo_succ]
          refine AllV.snoc (hacc.mono fun _ _ z => z.mono ((Same.tups (s2.trans s3)).trans te)) ⟨q, rfl, te _ _ ?_⟩
          rw [hq]
          have : ch.getD i (0, []) = e := by rw [List.getD_eq_getElem?_getD, he]; rfl
          rw [this]
          simp [logRow]
    · rintro H' ⟨s1, acc, hA, hacc⟩
      rw [hxs.len] at hacc
      exact k D acc H' s1 hA hacc
end
end PG

set_option Elab.async false
set_option linter.all false
set_option autoImplicit false
set_option maxRecDepth 100000
set_option maxHeartbeats 4000000
namespace PG
open PySem L2
/-- what whole_group answers -/
def OptG (H : Hp) (v : V) : Option (List (Int × Pl)) → Prop
  | none => v = .non
  | some ch => ∃ c, v = .ref c ∧ EntsV H c ch
theorem OptG.mono {H H' : Hp} {v : V} {o : Option (List (Int × Pl))} (h : OptG H v o) (e : TupE H H') : OptG H' v o := by
  cases o with
  | none => exact h
  | some ch => exact let ⟨c, a, b⟩ := h; ⟨c, a, b.mono e⟩
theorem isLog_len {v : Pl} (h : isLog v = true) : v.length = 12 := by
  unfold isLog at h
  rw [Bool.and_eq_true] at h
  exact of_decide_eq_true h.1
def wgTo (s : List Pl) (slots : Nat) (t : Int) (i : Nat) : List (Int × Pl) := (List.range i).map (wgItem s slots t)
theorem wgTo_succ (s : List Pl) (slots : Nat) (t : Int) (i : Nat) : wgTo s slots t (i + 1) = wgTo s slots t i ++ [wgItem s slots t i] := by
  unfold wgTo
  rw [List.range_succ, List.map_append]
  rfl
theorem range_all_bad {n i : Nat} {f : Nat → Bool} (hi : i < n) (h : f i = false) : (List.range n).all f = false := by
  rw [List.all_eq_false]
  exact ⟨i, List.mem_range.mpr hi, by rw [h]; decide⟩
theorem range_all_succ {i : Nat} {f : Nat → Bool} (h : (List.range i).all f = true) (h' : f i = true) : (List.range (i + 1)).all f = true := by
  rw [List.range_succ, List.all_append, h]
  simp [h']
theorem whole_some {s : List Pl} {slots : Nat} {t g : Int} (h1 : firstOk s slots t g = true) (h2 : (List.range (firstMany s slots t).toNat).all (wgOk s slots t g (firstMany s slots t)) = true) : wholeG s slots t g = some (wgTo s slots t (firstMany s slots t).toNat) := by
  unfold wholeG
  rw [h1, h2]
  rfl
theorem whole_bad1 {s : List Pl} {slots : Nat} {t g : Int} (h1 : firstOk s slots t g = false) : wholeG s slots t g = none := by
  unfold wholeG
  rw [h1]
  rfl
theorem whole_bad2 {s : List Pl} {slots : Nat} {t g : Int} (h2 : (List.range (firstMany s slots t).toNat).all (wgOk s slots t g (firstMany s slots t)) = false) : wholeG s slots t g = none := by
  unfold wholeG
  rw [h2, Bool.and_false]
  rfl
theorem slotP_in {slots : Nat} {t : Int} {n : Nat} (h0 : 0 < slots) (h : 2 + slots ≤ n) : 0 ≤ slotP slots t ∧ slotP slots t < n := by
  have := slot_range h0 t
  omega
section
variable {P : Program} {w : World} {K : PySem.W.Frag} {mg : Str → Option Value} {base : Heap} {A : Adr}
/-! ## whole_group -/
def spWG (A : Adr) : Sp := fun vs H Q _ => ∃ (d : Addr) (D : Dk) (slots : Nat) (t g : Int), vs = [.ref d, .int slots, .int t, .int g] ∧ DiskAt A H d D ∧ D.loose = [] ∧ Short D.settled ∧ 0 < slots ∧ 2 + slots ≤ D.settled.length ∧
  ∀ v H', Same H H' → OptG H' v (wholeG D.settled slots t g) → Q v H'
abbrev wgN : List Str := ["disk", "slots", "slot", "group", "first", "found", "at", "value"]
theorem sc_wg : FnScope wgN ["disk", "slots", "slot", "group"] (defScope (top 33)) := ⟨rfl, rfl, rfl, by decide +kernel, rfl, by decide +kernel, by decide +kernel⟩
theorem ok_whole_group (T : Txt K mg A) : FnOk P w K mg base CX0 4 A.a_whole_group A.d_whole_group ["disk", "slots", "slot", "group"] (spWG A) := by
  obtain ⟨tp, hp⟩ := T.v_PARTS
  refine T.t_whole_group.F.ok sc_wg (fun vs H Q E h => ?_) (fun cdv A0 outer s H vs Q E hr h => ?_)
  · obtain ⟨d, D, slots, t, g, rfl, _⟩ := h
    rfl
  · obtain ⟨d, D, slots, t, g, rfl, hD, hloose, hsh, hs0, hsl, k⟩ := h
    have kn : wholeG D.settled slots t g = none → ∀ H', Same H H' → Q .non H' := fun e H' z => k _ H' z (by rw [e]; exact rfl)
    have ks : ∀ ch, wholeG D.settled slots t g = some ch → ∀ c H', Same H H' → EntsV H' c ch → Q (.ref c) H' := fun ch e c H' z y => k _ H' z (by rw [e]; exact ⟨c, rfl, y⟩)
    refine ⟨_, pss_cons (ps_set (i := 4) sc_wg.nd rfl (Or.inl rfl) (pe_meth (pv 0) T.k_Disk.c T.m_Disk_now.M (ok_Disk_now T) hr T.m_Disk_now.b .nil pass0 (pa_cons (pe_call (ok_slot_plate T) (hr.mono (by decide)) rfl T.t_slot_plate.g T.t_slot_plate.F.kp T.t_slot_plate.b .nil pass0 (pa_cons (pv 1) (pa_cons (pv 2) pa_nil))) pa_nil)))
      (pss_cons (ps_if (PW.pt (pw_or (pt_not (pt_val (pe_call (ok_is_log_plate T) (hr.mono (by decide)) rfl T.t_is_log_plate.g T.t_is_log_plate.F.kp T.t_is_log_plate.b .nil pass0 (pa_cons (pv 4) pa_nil))))
          (pw_or (pt_cmpR op_ne (pe_ix ix_tup (pv 4) pe_int (fun _ _ => rfl)) (pv 3) (nomark _))
          (pw_or (pt_cmpR op_ne (pe_ix ix_tup (pv 4) pe_int (fun _ _ => rfl)) pe_int (nomark _))
          (pw_or1 (pt_cmpR op_gt (pe_ix ix_tup (pv 4) pe_int (fun _ _ => rfl)) (pv 1) (nomark _)))))))
        (pss_one (ps_ret pe_non)) pss_nil)
      (pss_cons (ps_set (i := 5) sc_wg.nd rfl (Or.inl rfl) (pe_lst pa_nil))
      (pss_cons (ps_for PassesOwn.never rfl (pi_range1 rfl T.z_range (pa_cons (pe_ix ix_tup (pv 4) pe_int (fun _ _ => rfl)) pa_nil)) (pg_name (i := 6) sc_wg.nd rfl (Or.inl rfl))
        (pss_cons (ps_set (i := 7) sc_wg.nd rfl (Or.inl rfl) (pe_meth (pv 0) T.k_Disk.c T.m_Disk_now.M (ok_Disk_now T) hr T.m_Disk_now.b .nil pass0 (pa_cons (pe_call (ok_slot_plate T) (hr.mono (by decide)) rfl T.t_slot_plate.g T.t_slot_plate.F.kp T.t_slot_plate.b .nil pass0 (pa_cons (pv 1) (pa_cons (pe_op op_add (pv 2) (pv 6)) pa_nil))) pa_nil)))
        (pss_cons (ps_if (PW.pt (pw_or (pt_not (pt_val (pe_call (ok_is_log_plate T) (hr.mono (by decide)) rfl T.t_is_log_plate.g T.t_is_log_plate.F.kp T.t_is_log_plate.b .nil pass0 (pa_cons (pv 7) pa_nil))))
            (pw_or1 (pt_cmpR (op_neD hr.units) (pe_slice sl_tupA (pv 7) po_none (po_some pe_int)) (pe_tup (pa_cons (pv 3) (pa_cons (pv 6) (pa_cons (pe_ix ix_tup (pv 4) pe_int (fun _ _ => rfl)) pa_nil)))) (nomark _)))))
          (pss_one (ps_ret pe_non)) pss_nil)
        (pss_one (ps_expr (pe_bm PySem.F.plainAttrs_list PySem.F.slot_list_append PySem.F.type_list_append mt_append (pv 5) (pa_cons (pe_tup (pa_cons (pe_ix ix_tup (pv 7) pe_int (fun _ _ => rfl)) (pa_cons (pe_slice sl_tupA (pv 7) (po_some (pe_gint rfl hp)) po_none) pa_nil))) pa_nil))))))) 
      (pss_one (ps_ret (pe_callTy call_tuple_of (by rfl) T.z_tuple (by decide +kernel) (pa_cons (pv 5) pa_nil))))))), ?_⟩
    obtain ⟨⟨dx, sa, la, hd, _⟩, _⟩ := id hD
    have hr0 := slotP_in (t := t) hs0 hsl
    refine ⟨_, rfl, d, dx, _, rfl, hd, DN_no _ _ (by decide +kernel), _, rfl, _, rfl, slots, t, rfl, hs0, d, D, slotP slots t, rfl, hD, hloose, hr0.1, hr0.2, fun v H1 s1 hv => ?_⟩
    refine ⟨_, rfl, v, _, rfl, hv, hsh.gp _, fun H2 s2 => ⟨_, rfl, ?_⟩⟩
    have s12 := s1.trans s2
    obtain ⟨a, rfl, ha⟩ := hv
    have ha2 := s2 _ _ ha
    by_cases hlog : isLog (gp D.settled (slotP slots t)) = true
    case neg =>
      rw [show isLog (gp D.settled (slotP slots t)) = false by simpa using hlog]
      refine iteT (iteT (kn (whole_bad1 ?_) _ s12))
      unfold firstOk
      rw [show isLog (gp D.settled (slotP slots t)) = false by simpa using hlog]
      rfl
    rw [hlog]
    have hlen := isLog_len hlog
    have at' : ∀ i, i < 12 → atI ((gp D.settled (slotP slots t)).map V.int) (i : Nat) = some (V.int ((gp D.settled (slotP slots t)).getD i 0)) := fun i hi => atI_of rfl (ints_at (by omega))
    have fo : firstOk D.settled slots t g = (decide ((gp D.settled (slotP slots t)).getD 0 0 = g) && (decide ((gp D.settled (slotP slots t)).getD 1 0 = 0) && decide ((gp D.settled (slotP slots t)).getD 2 0 ≤ slots))) := by
      unfold firstOk
      rw [hlog]
      rfl
    refine iteF ⟨_, rfl, a, _, 0, _, rfl, rfl, SqT.of ha2, at' 0 (by decide), _, rfl, rfl, _, rfl, ?_⟩
    rw [decInt]
    by_cases h0 : (gp D.settled (slotP slots t)).getD 0 0 = g
    case neg =>
      rw [decide_eq_false h0]
      refine iteT (iteT (kn (whole_bad1 ?_) _ s12))
      rw [fo, decide_eq_false h0]
      rfl
    rw [decide_eq_true h0] at fo ⊢
    refine iteF ⟨_, rfl, a, _, 1, _, rfl, rfl, SqT.of ha2, at' 1 (by decide), rfl, _, rfl, ?_⟩
    rw [decInt]
    by_cases h1 : (gp D.settled (slotP slots t)).getD 1 0 = 0
    case neg =>
      rw [decide_eq_false h1]
      refine iteT (iteT (kn (whole_bad1 ?_) _ s12))
      rw [fo, decide_eq_false h1]
      rfl
    rw [decide_eq_true h1] at fo ⊢
    refine iteF ⟨_, rfl, a, _, 2, _, rfl, rfl, SqT.of ha2, at' 2 (by decide), _, rfl, _, _, rfl, rfl, _, rfl, ?_⟩
    by_cases h2 : (gp D.settled (slotP slots t)).getD 2 0 ≤ slots
    case neg =>
      rw [decide_eq_true (show (gp D.settled (slotP slots t)).getD 2 0 > (slots : Int) by omega)]
      refine iteT (kn (whole_bad1 ?_) _ s12)
      rw [fo, decide_eq_false h2]
      rfl
    rw [decide_eq_false (show ¬ (gp D.settled (slotP slots t)).getD 2 0 > (slots : Int) by omega)]
    rw [decide_eq_true h2] at fo
    have hsz := hD.sz
    have hm : firstMany D.settled slots t = (gp D.settled (slotP slots t)).getD 2 0 := rfl
    refine iteF ⟨Nat.zero_le _, fun f nf => ?_⟩
    obtain ⟨H3, e3, s3, hf⟩ := newE (.lst []) nf
    rw [e3]
    have s03 := s12.trans s3
    have nf0 : H f = none := Same.free s12 nf
    have big : (1000 : Int) < 2 ^ 62 := by decide
    have low : -(2 ^ 62) ≤ (0 : Int) := by decide
    have hpos : 0 ≤ (gp D.settled (slotP slots t)).getD 2 0 := by
      unfold isLog at hlog
      simp only [Bool.and_eq_true, decide_eq_true_eq] at hlog
      omega
    refine ⟨_, rfl, a, _, 2, _, rfl, rfl, SqT.of (s3 _ _ ha2), at' 2 (by decide), _, rfl, by omega, by omega, for_range (fun i σ H' => ∃ (v6 v7 : Option V) (acc : List V), σ = [some (.ref d), some (.int slots), some (.int t), some (.int g), some (.ref a), some (.ref f), v6, v7] ∧ Same H H' ∧ H' f = some (.lst acc) ∧ H' a = some (.tup ((gp D.settled (slotP slots t)).map V.int)) ∧
      AllV (EntV H') acc (wgTo D.settled slots t i) ∧ (List.range i).all (wgOk D.settled slots t g (firstMany D.settled slots t)) = true)
      ⟨none, none, [], rfl, s03, hf, s3 _ _ ha2, AllV.nil, rfl⟩ ?_ ?_⟩
    · rintro i σ H' hi ⟨v6, v7, acc, rfl, s4, hf4, ha4, hacc, hall⟩
      rw [Int.zero_add]
      have hD4 := hD.same s4
      obtain ⟨⟨dx4, sa4, la4, hd4, _⟩, _⟩ := id hD4
      have hri := slotP_in (t := t + (i : Int)) hs0 hsl
      refine ⟨_, rfl, d, dx4, _, rfl, hd4, DN_no _ _ (by decide +kernel), _, rfl, _, rfl, _, rfl, _, _, rfl, rfl, slots, t + (i : Int), rfl, hs0, d, D, slotP slots (t + (i : Int)), rfl, hD4, hloose, hri.1, hri.2, fun v H5 s5 hv => ?_⟩
      refine ⟨_, rfl, v, _, rfl, hv, hsh.gp _, fun H6 s6 => ⟨_, rfl, ?_⟩⟩
      obtain ⟨b, rfl, hb⟩ := hv
      have hb6 := s6 _ _ hb
      have s46 := s5.trans s6
      by_cases hli : isLog (gp D.settled (slotP slots (t + (i : Int)))) = true
      case neg =>
        have hli' : isLog (gp D.settled (slotP slots (t + (i : Int)))) = false := by simpa using hli
        rw [hli']
        refine iteT (iteT (kn (whole_bad2 (range_all_bad (i := i) hi ?_)) _ (s4.trans s46)))
        unfold wgOk
        rw [hli']
        rfl
      rw [hli]
      have hlen6 := isLog_len hli
      refine iteF ⟨_, rfl, 3, rfl, sl_take (m := 3) hb6 (by rw [List.length_map]; omega) fun c H7 s7 hc => ?_⟩
      have s47 := s46.trans s7
      refine ⟨_, rfl, _, rfl, _, rfl, a, _, 2, _, rfl, rfl, SqT.of (s47 _ _ ha4), at' 2 (by decide), line1000 (by show 3 ≤ 1000000; decide), fun q nq => ?_⟩
      obtain ⟨H8, e8, s8, hq⟩ := newE (.tup [V.int g, V.int (i : Nat), V.int ((gp D.settled (slotP slots t)).getD 2 0)]) nq
      rw [e8]
      have s48 := s47.trans s8
      have d1 : Dp K H8 (.ref c) (plD ((gp D.settled (slotP slots (t + (i : Int)))).take 3)) := dpPl ⟨c, rfl, by rw [s8 _ _ hc, List.map_take]⟩
      have d2 : Dp K H8 (.ref q) (plD [g, (i : Int), firstMany D.settled slots t]) := dpPl ⟨q, rfl, hq⟩
      refine ⟨_, _, d1, d2, (flat_pl _).shaped, (flat_pl _).shaped, _, rfl, ?_⟩
      rw [eqv_pl]
      by_cases h3 : (gp D.settled (slotP slots (t + (i : Int)))).take 3 = [g, (i : Int), firstMany D.settled slots t]
      case neg =>
        rw [decide_eq_false h3]
        refine iteT (kn (whole_bad2 (range_all_bad (i := i) hi ?_)) _ (s4.trans s48))
        unfold wgOk
        rw [decide_eq_false h3, Bool.and_false]
      rw [decide_eq_true h3]
      have hf8 := s48 _ _ hf4
      have hb8 := (s7.trans s8) _ _ hb6
      have atb : ∀ j, j < 12 → atI ((gp D.settled (slotP slots (t + (i : Int)))).map V.int) (j : Nat) = some (V.int ((gp D.settled (slotP slots (t + (i : Int)))).getD j 0)) := fun j hj => atI_of rfl (ints_at (by omega))
      refine iteF ⟨_, rfl, .inl ⟨rfl, _, SqL.of hf8⟩, _, rfl, b, _, 3, _, rfl, rfl, SqT.of hb8, atb 3 (by decide), _, rfl, 4, rfl, ?_⟩
      delta tNoPart
      refine sl_drop (m := 4) hb8 (by rw [List.length_map]; omega) fun c' H9 s9 hc' => ?_
      refine ⟨line1000 (by show 2 ≤ 1000000; decide), fun r nr => ?_⟩
      obtain ⟨Ha, ea, sa', hr'⟩ := newE (.tup [V.int ((gp D.settled (slotP slots (t + (i : Int)))).getD 3 0), .ref c']) nr
      rw [ea]
      have s8a := s9.trans sa'
      have hfa := s8a _ _ hf8
      have s4a := s48.trans s8a
      refine ⟨f, _, _, rfl, rfl, hfa, line_lt ?_, ?_⟩
      · rw [hacc.len]
        unfold wgTo
        simp
        omega
      · have te : TupE Ha (upd Ha f (.lst (acc ++ [V.ref r]))) := TupE.upd fun z y => by rw [hfa] at y; cases y
        refine ⟨_, _, _, rfl, Same.upd0 (s4.trans s4a) nf0, upd_same, te _ _ (s4a _ _ ha4), ?_, range_all_succ hall ?_⟩
        · rw [wgTo_succ]
          refine (hacc.mono fun _ _ z => z.mono ((Same.tups s4a).trans te)).snoc ⟨r, .ref c', rfl, te _ _ hr', c', rfl, te _ _ ?_⟩
          rw [sa' _ _ hc', ← List.map_drop]
          rfl
        · unfold wgOk
          rw [hli, decide_eq_true h3]
          rfl
    · rintro σ H' ⟨v6, v7, acc, rfl, s4, hf4, ha4, hacc, hall⟩
      refine ⟨_, rfl, f, acc, rfl, .inl ⟨SqL.of hf4, fun p np => ?_⟩⟩
      obtain ⟨H5, e5, s5, hp5⟩ := newE (.tup acc) np
      rw [e5]
      exact ks _ (whole_some (by rw [fo]; rfl) hall) p H5 (s4.trans s5) ⟨acc, hp5, hacc.mono fun _ _ z => z.mono (Same.tups s5)⟩
end
end PG

set_option Elab.async false
set_option linter.all false
set_option autoImplicit false
set_option maxRecDepth 100000
set_option maxHeartbeats 4000000
namespace PG
open PySem L2
theorem wholeG_len {s : List Pl} {slots : Nat} {t g : Int} {ch : List (Int × Pl)} (h : wholeG s slots t g = some ch) : 1 ≤ ch.length := by
  unfold wholeG at h
  split at h
  · rename_i hh
    rw [Bool.and_eq_true] at hh
    have h1 := hh.1
    unfold firstOk at h1
    rw [Bool.and_eq_true] at h1
    have h2 := h1.1
    unfold isLog at h2
    simp only [Bool.and_eq_true, decide_eq_true_eq] at h2
    cases h
    have : firstMany s slots t = (gp s (slotP slots t)).getD 2 0 := rfl
    rw [List.length_map, List.length_range, this]
    omega
  · cases h
section
variable {P : Program} {w : World} {K : PySem.W.Frag} {mg : Str → Option Value} {base : Heap} {A : Adr}
/-! ## read_groups -/
def spRG (A : Adr) : Sp := fun vs H Q _ => ∃ (d h : Addr) (D : Dk) (slots : Nat) (n g t : Int), vs = [.ref d, .int slots, .ref h] ∧ DiskAt A H d D ∧ H h = some (.tup [.int n, .int g, .int t]) ∧ D.loose = [] ∧ Short D.settled ∧ 0 < slots ∧ 2 + slots ≤ D.settled.length ∧
  ∀ c H', Same H H' → GrsV H' c (readG D.settled slots (slots + 1) g t 0) → Q (.ref c) H'
abbrev rgN : List Str := ["disk", "slots", "head", "number", "group", "slot", "found", "used", "changes"]
theorem sc_rg : FnScope rgN ["disk", "slots", "head"] (defScope (top 34)) := ⟨rfl, rfl, rfl, by decide +kernel, rfl, by decide +kernel, by decide +kernel⟩
theorem ok_read_groups (T : Txt K mg A) : FnOk P w K mg base CX0 5 A.a_read_groups A.d_read_groups ["disk", "slots", "head"] (spRG A) := by
  refine T.t_read_groups.F.ok sc_rg (fun vs H Q E h => ?_) (fun cdv A0 outer s H vs Q E hr h => ?_)
  · obtain ⟨d, h, D, slots, n, g, t, rfl, _⟩ := h
    rfl
  · obtain ⟨d, hh, D, slots, n, g, t, rfl, hD, hhd, hloose, hsh, hs0, hsl, k⟩ := h
    refine ⟨_, pss_cons (ps_asg (pv 2) (pg_tup rfl (pgs_cons (pg_name (i := 3) sc_rg.nd rfl (Or.inl rfl)) (pgs_cons (pg_name (i := 4) sc_rg.nd rfl (Or.inl rfl)) (pgs_cons (pg_name (i := 5) sc_rg.nd rfl (Or.inl rfl)) pgs_nil)))))
      (pss_cons (ps_par (i := 6) (j := 7) rfl sc_rg.nd rfl rfl (by decide) rfl rfl (pa_cons (pe_lst pa_nil) (pa_cons pe_int pa_nil)) rfl)
      (pss_cons (ps_set (i := 8) sc_rg.nd rfl (Or.inl rfl) (pe_call (ok_whole_group T) hr rfl T.t_whole_group.g T.t_whole_group.F.kp T.t_whole_group.b .nil pass0 (pa_cons (pv 0) (pa_cons (pv 1) (pa_cons (pv 5) (pa_cons (pv 4) pa_nil))))))
      (pss_cons (ps_while PassesOwn.never (PW.pt (pw_and (pt_cmpR op_notN (pv 8) pe_non (nomark _)) (pw_and1 (pt_cmpR op_le (pe_op op_add (pv 7) (pe_callB call_len_seq (by rfl) T.z_len PySem.boot_len (pa_cons (pv 8) pa_nil))) (pv 1) (nomark _)))))
        (pss_cons (ps_expr (pe_bm PySem.F.plainAttrs_list PySem.F.slot_list_append PySem.F.type_list_append mt_append (pv 6) (pa_cons (pe_tup (pa_cons (pv 4) (pa_cons (pv 5) (pa_cons (pv 8) pa_nil)))) pa_nil)))
        (pss_cons (ps_aug (i := 7) sc_rg.nd rfl (Or.inl rfl) (pe_callB call_len_seq (by rfl) T.z_len PySem.boot_len (pa_cons (pv 8) pa_nil)) ip_add)
        (pss_cons (ps_par (i := 4) (j := 5) rfl sc_rg.nd rfl rfl (by decide) rfl rfl (pa_cons (pe_op op_add (pv 4) pe_int) (pa_cons (pe_op op_add (pv 5) (pe_callB call_len_seq (by rfl) T.z_len PySem.boot_len (pa_cons (pv 8) pa_nil))) pa_nil)) rfl)
        (pss_one (ps_set (i := 8) sc_rg.nd rfl (Or.inl rfl) (pe_call (ok_whole_group T) hr rfl T.t_whole_group.g T.t_whole_group.F.kp T.t_whole_group.b .nil pass0 (pa_cons (pv 0) (pa_cons (pv 1) (pa_cons (pv 5) (pa_cons (pv 4) pa_nil)))))))))))
      (pss_one (ps_ret (pe_callTy call_tuple_of (by rfl) T.z_tuple (by decide +kernel) (pa_cons (pv 6) pa_nil))))))), ?_⟩
    refine ⟨_, rfl, hh, _, rfl, SqT.of hhd, rfl, _, _, rfl, _, _, rfl, _, _, rfl, rfl, ?_⟩
    refine ⟨Nat.zero_le _, fun f nf => ?_⟩
    obtain ⟨H1, e1, s1, hf⟩ := newE (.lst []) nf
    rw [e1]
    refine ⟨_, _, rfl, ?_⟩
    have hD1 := hD.same s1
    refine ⟨_, rfl, _, rfl, _, rfl, _, rfl, d, D, slots, t, g, rfl, hD1, hloose, hsh, hs0, hsl, fun v H2 s2 hv => ?_⟩
    have fin : ∀ {fuel : Nat} {g t : Int} {used : Nat}, slots + 1 ≤ fuel + used → used ≤ slots → (match wholeG D.settled slots t g with | none => True | some ch => slots < used + ch.length) → readG D.settled slots fuel g t used = [] := by
      intro fuel g t used h1 h2 h3
      cases fuel with
      | zero => omega
      | succ n =>
        unfold readG
        cases e : wholeG D.settled slots t g with
        | none => rfl
        | some ch =>
          rw [e] at h3
          have : slots < used + ch.length := h3
          simp only
          rw [if_neg (by omega)]
    refine ⟨fun m σ H' => ∃ (v : V) (g' t' : Int) (used fuel : Nat) (acc : List V) (gs : List Grp), m = slots + 1 - used ∧ σ = [some (.ref d), some (.int slots), some (.ref hh), some (.int n), some (.int g'), some (.int t'), some (.ref f), some (.int used), some v] ∧
      Same H H' ∧ H' f = some (.lst acc) ∧ AllV (GrpV H') acc gs ∧ OptG H' v (wholeG D.settled slots t' g') ∧ used ≤ slots ∧ slots + 1 ≤ fuel + used ∧ acc.length ≤ used ∧ gs ++ readG D.settled slots fuel g' t' used = readG D.settled slots (slots + 1) g t 0,
      ⟨_, v, g, t, 0, slots + 1, [], [], rfl, rfl, s1.trans s2, s2 _ _ hf, AllV.nil, hv, Nat.zero_le _, Nat.le_refl _, Nat.le_refl _, rfl⟩, ?_⟩
    rintro m σ H3 ⟨v, g', t', used, fuel, acc, gs, rfl, rfl, s3, hf3, hacc, hv, hu, hfu, hal, hall⟩
    have stop : (match wholeG D.settled slots t' g' with | none => True | some ch => slots < used + ch.length) → ∀ p H', H3 p = none → upd H3 p (.tup acc) = H' → Q (.ref p) H' := fun h3 p H' np e => by
      obtain ⟨H4, e4, s4, hp⟩ := newE (.tup acc) np
      rw [e4] at e
      subst e
      refine k p _ (s3.trans s4) ⟨acc, hp, ?_⟩
      rw [← hall, fin hfu hu h3, List.append_nil]
      exact hacc.mono fun _ _ z => z.mono (Same.tups s4)
    refine ⟨_, rfl, rfl, _, rfl, ?_⟩
    cases e : wholeG D.settled slots t' g' with
    | none =>
      rw [e] at hv stop
      have hv : v = .non := hv
      subst hv
      rw [decide_eq_true rfl]
      exact iteF (iteF ⟨_, rfl, f, acc, rfl, .inl ⟨SqL.of hf3, fun p np => stop trivial p _ np rfl⟩⟩)
    | some ch =>
      rw [e] at hv stop
      obtain ⟨c, rfl, ys, hc, hys⟩ := hv
      rw [decide_eq_false (by simp)]
      refine iteT ⟨_, rfl, _, rfl, c, ys, rfl, .inr (SqT.of hc), _, _, rfl, rfl, _, rfl, _, _, rfl, rfl, _, rfl, ?_⟩
      rw [hys.len]
      have h1 := wholeG_len e
      by_cases hle : used + ch.length ≤ slots
      case neg =>
        rw [decide_eq_false (show ¬ ((used : Int) + (ch.length : Int) ≤ slots) by omega)]
        exact iteF ⟨_, rfl, f, acc, rfl, .inl ⟨SqL.of hf3, fun p np => stop (by show slots < used + ch.length; omega) p _ np rfl⟩⟩
      rw [decide_eq_true (show ((used : Int) + (ch.length : Int) ≤ slots) by omega)]
      refine iteT ⟨_, fun _ _ z => z, ?_⟩
      refine ⟨_, rfl, .inl ⟨rfl, _, SqL.of hf3⟩, _, rfl, _, rfl, _, rfl, line1000 (by show 3 ≤ 1000000; decide), fun q nq => ?_⟩
      obtain ⟨H4, e4, s4, hq⟩ := newE (.tup [V.int g', V.int t', V.ref c]) nq
      rw [e4]
      have hf4 := s4 _ _ hf3
      have hsz := hD.sz
      refine ⟨f, acc, _, rfl, rfl, hf4, line_lt (by omega), ?_⟩
      generalize hH5 : upd H4 f (.lst (acc ++ [V.ref q])) = H5
      have te : TupE H4 H5 := by rw [← hH5]; exact TupE.upd fun z y => by rw [hf4] at y; cases y
      have hf5 : H5 f = some (.lst (acc ++ [V.ref q])) := by rw [← hH5]; exact upd_same
      have s5 : Same H H5 := by rw [← hH5]; exact Same.upd0 (s3.trans s4) nf
      have t35 : TupE H3 H5 := (Same.tups s4).trans te
      refine ⟨_, rfl, _, rfl, c, ys, rfl, .inr (SqT.of (t35 _ _ hc)), _, _, rfl, rfl, ?_⟩
      refine ⟨_, rfl, _, _, rfl, rfl, _, rfl, _, rfl, c, ys, rfl, .inr (SqT.of (t35 _ _ hc)), _, _, rfl, rfl, _, _, rfl, ?_⟩
      rw [hys.len]
      have hD5 := hD.same s5
      refine ⟨_, rfl, _, rfl, _, rfl, _, rfl, d, D, slots, t' + ch.length, g' + 1, rfl, hD5, hloose, hsh, hs0, hsl, fun v' H6 s6 hv' => ?_⟩
      obtain ⟨fu, rfl⟩ : ∃ fu, fuel = fu + 1 := ⟨fuel - 1, by omega⟩
      refine ⟨slots + 1 - (used + ch.length), by omega, v', g' + 1, t' + ch.length, used + ch.length, fu, acc ++ [V.ref q], gs ++ [(g', t', ch)], rfl, rfl, s5.trans s6, s6 _ _ hf5, ?_, hv', hle, by omega, by rw [List.length_append, List.length_singleton]; omega, ?_⟩
      · exact (hacc.mono fun _ _ z => z.mono (t35.trans (Same.tups s6))).snoc ⟨q, c, rfl, s6 _ _ (te _ _ hq), ys, s6 _ _ (t35 _ _ hc), hys.mono fun _ _ z => z.mono (t35.trans (Same.tups s6))⟩
      · rw [← hall, List.append_assoc]
        congr 1
        conv => rhs; unfold readG
        rw [e]
        simp only
        rw [if_pos hle]
        rfl
end
end PG

set_option Elab.async false
set_option linter.all false
set_option autoImplicit false
set_option maxRecDepth 100000
set_option maxHeartbeats 4000000
namespace PG
open PySem L2
/-! ## Dicts of plates' values by numbers -/
def OV (H : Hp) : Option V → Option Pl → Prop
  | none, none => True
  | some v, some ns => PlV H v ns
  | _, _ => False
theorem OV.mono {H H' : Hp} {o : Option V} {m : Option Pl} (h : OV H o m) (e : TupE H H') : OV H' o m := by
  cases o <;> cases m
  · trivial
  · exact h
  · exact h
  · exact PlV.mono h e
/-- the entries kvs stand for the map M, its keys 0 .. n - 1 -/
structure KvAt (H : Hp) (kvs : List (Key × V)) (n : Nat) (M : DM) : Prop where
  nd : (kvs.map (·.1)).Nodup
  rg : ∀ e ∈ kvs, ∃ p : Int, e.1 = Sum.inl p ∧ 0 ≤ p ∧ p < n
  at_ : ∀ p : Int, OV H (valV kvs (Sum.inl p)) (M p)
def DictAt (H : Hp) (d : Addr) (n : Nat) (M : DM) : Prop := ∃ kvs : List (Key × V), H d = some (.dK kvs) ∧ KvAt H kvs n M
theorem KvAt.mono {H H' : Hp} {kvs : List (Key × V)} {n : Nat} {M : DM} (h : KvAt H kvs n M) (e : TupE H H') : KvAt H' kvs n M := ⟨h.nd, h.rg, fun p => (h.at_ p).mono e⟩
theorem DictAt.mono {H H' : Hp} {d : Addr} {n : Nat} {M : DM} (h : DictAt H d n M) (e : TupE H H') (hd : ∀ o, H d = some o → H' d = some o) : DictAt H' d n M := let ⟨kvs, a, b⟩ := h; ⟨kvs, hd _ a, b.mono e⟩
theorem DictAt.same {H H' : Hp} {d : Addr} {n : Nat} {M : DM} (h : DictAt H d n M) (e : Same H H') : DictAt H' d n M := h.mono (Same.tups e) fun o q => e d o q
theorem DictAt.there {H : Hp} {d : Addr} {n : Nat} {M : DM} (h : DictAt H d n M) : H d ≠ none := fun z => by
  obtain ⟨_, h1, _⟩ := h
  rw [h1] at z
  cases z
theorem DictAt.notTup {H : Hp} {d : Addr} {n : Nat} {M : DM} (h : DictAt H d n M) : ∀ xs, H d ≠ some (.tup xs) := fun xs z => by
  obtain ⟨_, h1, _⟩ := h
  rw [h1] at z
  cases z
theorem KvAt.nil (H : Hp) (n : Nat) : KvAt H [] n noDM := ⟨List.nodup_nil, fun e he => (by cases he), fun p => trivial⟩
theorem DictAt.new {H : Hp} {d : Addr} (n : Nat) (h : H d = some (.dK [])) : DictAt H d n noDM := ⟨[], h, KvAt.nil H n⟩
theorem nodup_le : ∀ (n : Nat) (l : List Int), l.Nodup → (∀ x ∈ l, 0 ≤ x ∧ x < n) → l.length ≤ n
  | 0, [], _, _ => Nat.le_refl _
  | 0, x :: l, _, h => by have := h x List.mem_cons_self; omega
  | n + 1, l, hn, h => by
    by_cases hm : (n : Int) ∈ l
    · have h1 := nodup_le n (l.erase (n : Int)) (hn.erase _) fun x hx => by
        have hx2 := (List.Nodup.mem_erase_iff hn).mp hx
        have := h x hx2.2
        have : x ≠ n := hx2.1
        omega
      rw [List.length_erase_of_mem hm] at h1
      omega
    · have h1 := nodup_le n l hn fun x hx => by
        have := h x hx
        have : x ≠ n := fun z => hm (z ▸ hx)
        omega
      omega
/-- the keys as numbers -/
theorem KvAt.keys {H : Hp} {kvs : List (Key × V)} {n : Nat} {M : DM} (h : KvAt H kvs n M) : ∃ ks : List Int, kvs.map (·.1) = ks.map Sum.inl ∧ ks.Nodup ∧ (∀ p, p ∈ ks ↔ (M p).isSome = true) ∧ (∀ p ∈ ks, 0 ≤ p ∧ p < n) := by
  have go : ∀ l : List (Key × V), (∀ e ∈ l, ∃ p : Int, e.1 = Sum.inl p ∧ 0 ≤ p ∧ p < n) → ∃ ks : List Int, l.map (·.1) = ks.map Sum.inl ∧ (∀ p ∈ ks, 0 ≤ p ∧ p < n) := by
    intro l
    induction l with
    | nil => intro _; exact ⟨[], rfl, fun p hp => (by cases hp)⟩
    | cons e l ih =>
      intro hl
      obtain ⟨p, e1, e2⟩ := hl e List.mem_cons_self
      obtain ⟨ks, k1, k2⟩ := ih fun x hx => hl x (List.mem_cons_of_mem _ hx)
      refine ⟨p :: ks, by rw [List.map_cons, List.map_cons, e1, k1], fun q hq => ?_⟩
      rcases List.mem_cons.mp hq with z | z
      · subst z; exact e2
      · exact k2 q z
  obtain ⟨ks, k1, k2⟩ := go kvs h.rg
  refine ⟨ks, k1, ?_, fun p => ?_, k2⟩
  · have := h.nd
    rw [k1] at this
    exact List.Pairwise.of_map Sum.inl (fun a b hab z => hab (by rw [z])) this
  · have hp := h.at_ p
    constructor
    · intro hm
      have hm' : (Sum.inl p : Key) ∈ kvs.map (·.1) := by rw [k1]; exact List.mem_map.mpr ⟨p, hm, rfl⟩
      cases e : valV kvs (Sum.inl p) with
      | none => exact absurd hm' (valV_not e)
      | some v =>
        rw [e] at hp
        cases e2 : M p with
        | none => rw [e2] at hp; exact hp.elim
        | some ns => rfl
    · intro hs
      cases e : valV kvs (Sum.inl p) with
      | none =>
        rw [e] at hp
        cases e2 : M p with
        | none => rw [e2] at hs; cases hs
        | some ns => rw [e2] at hp; exact hp.elim
      | some v =>
        have := valV_in e
        rw [k1] at this
        obtain ⟨q, hq, e3⟩ := List.mem_map.mp this
        injection e3 with e3
        exact e3 ▸ hq
theorem KvAt.len {H : Hp} {kvs : List (Key × V)} {n : Nat} {M : DM} (h : KvAt H kvs n M) : kvs.length ≤ n := by
  obtain ⟨ks, k1, k2, _, k4⟩ := h.keys
  have : kvs.length = ks.length := by
    have := congrArg List.length k1
    simpa using this
  rw [this]
  exact nodup_le n ks k2 k4
/-- an entry more -/
theorem KvAt.put {H : Hp} {kvs : List (Key × V)} {n : Nat} {M : DM} {p : Int} {v : V} {ns : Pl} (h : KvAt H kvs n M) (h0 : 0 ≤ p) (h1 : p < n) (hv : PlV H v ns) : KvAt H (putK kvs (Sum.inl p) v) n (dput M p ns) := by
  refine ⟨?_, ?_, fun q => ?_⟩
  · cases e : valV kvs (Sum.inl p) with
    | none => exact nd_putK v h.nd e
    | some u =>
      have ha : (kvs.any fun kv => decide (kv.1 = (Sum.inl p : Key))) = true := by rw [valV_any, e]; rfl
      unfold putK
      rw [if_pos ha, List.map_map]
      have : ((fun x : Key × V => x.1) ∘ fun kv : Key × V => if kv.1 = Sum.inl p then (kv.1, v) else kv) = fun kv => kv.1 := by
        funext kv
        show (if kv.1 = Sum.inl p then (kv.1, v) else kv).1 = kv.1
        split <;> rfl
      rw [this]
      exact h.nd
  · intro e he
    unfold putK at he
    split at he
    · obtain ⟨kv, hkv, rfl⟩ := List.mem_map.mp he
      obtain ⟨q, e1, e2⟩ := h.rg kv hkv
      refine ⟨q, ?_, e2⟩
      split
      · exact e1
      · exact e1
    · rcases List.mem_append.mp he with z | z
      · exact h.rg e z
      · rw [List.mem_singleton] at z
        subst z
        exact ⟨p, rfl, h0, h1⟩
  · rw [valV_put]
    unfold dput
    by_cases e : q = p
    · subst e
      rw [if_pos rfl, if_pos rfl]
      exact hv
    · rw [if_neg (fun z => e (by injection z)), if_neg e]
      exact h.at_ q
theorem DictAt.put {H : Hp} {d : Addr} {n : Nat} {M : DM} {p : Int} {v : V} {ns : Pl} (h : DictAt H d n M) (h0 : 0 ≤ p) (h1 : p < n) (hn : n ≤ 1000) (hv : PlV H v ns) :
    ∃ H', DPut H d (kV (Sum.inl p)) v H' ∧ But d H H' ∧ TupE H H' ∧ DictAt H' d n (dput M p ns) := by
  obtain ⟨kvs, hd, hk⟩ := h
  obtain ⟨H', e, b, hd'⟩ := chgE (H := H) (d := d) (.dK (putK kvs (Sum.inl p) v))
  have te : TupE H H' := b.tups fun xs z => by rw [hd] at z; cases z
  refine ⟨H', ?_, b, te, _, hd', (hk.put h0 h1 hv).mono te⟩
  rw [← e]
  have := hk.len
  exact DPut.k hd (line_lt (by omega))
theorem DictAt.get {H : Hp} {d : Addr} {n : Nat} {M : DM} {p : Int} {ns : Pl} (h : DictAt H d n M) (e : M p = some ns) : ∃ v, DGet H d (.int p) (some v) ∧ PlV H v ns := by
  obtain ⟨kvs, hd, hk⟩ := h
  have hp := hk.at_ p
  rw [e] at hp
  cases e2 : valV kvs (Sum.inl p) with
  | none => rw [e2] at hp; exact hp.elim
  | some v =>
    rw [e2] at hp
    exact ⟨v, .inl ⟨kvs, Sum.inl p, .inl hd, rfl, e2.symm⟩, hp⟩
theorem DictAt.ext {H : Hp} {d : Addr} {n : Nat} {M M' : DM} (h : DictAt H d n M) (e : ∀ p, M p = M' p) : DictAt H d n M' := by rw [show M' = M from funext fun p => (e p).symm]; exact h
theorem dput_range {f : Int → Pl} {i : Nat} : dput (fun p => if 0 ≤ p ∧ p < (i : Int) then some (f p) else none) (i : Int) (f i) = fun p => if 0 ≤ p ∧ p < ((i + 1 : Nat) : Int) then some (f p) else none := by
  funext p
  unfold dput
  by_cases e : p = (i : Int)
  · subst e
    rw [if_pos rfl, if_pos ⟨by omega, by omega⟩]
  · rw [if_neg e]
    dsimp only
    by_cases h : 0 ≤ p ∧ p < (i : Int)
    · rw [if_pos h, if_pos ⟨h.1, by omega⟩]
    · rw [if_neg h, if_neg (by omega)]
section
variable {P : Program} {w : World} {K : PySem.W.Frag} {mg : Str → Option Value} {base : Heap} {A : Adr}
/-! ## merged -/
def spMerged : Sp := fun vs H Q _ => ∃ (ga : Addr) (gs : List Grp) (n : Nat), vs = [.ref ga] ∧ GrsV H ga gs ∧ GsOk n gs ∧ n ≤ 1000 ∧ ∀ d H', Same H H' → H d = none → DictAt H' d n (PG.mg gs) → Q (.ref d) H'
theorem sc_merged : FnScope ["groups", "found", "group", "slot", "changes", "plate", "cells"] ["groups"] (defScope (top 38)) := ⟨rfl, rfl, rfl, by decide +kernel, rfl, by decide +kernel, by decide +kernel⟩
theorem ok_merged (T : Txt K mg A) : FnOk P w K mg base CX0 1 A.a_merged A.d_merged ["groups"] spMerged := by
  refine T.t_merged.F.ok sc_merged (fun vs H Q E h => ?_) (fun cdv A0 outer s H vs Q E hr h => ?_)
  · obtain ⟨ga, gs, n, rfl, _⟩ := h
    rfl
  · obtain ⟨ga, gs, n, rfl, ⟨xs, hg, hxs⟩, hok, hn, k⟩ := h
    refine ⟨_, pss_cons (ps_set (i := 1) sc_merged.nd rfl (Or.inl rfl) pe_dnewK)
      (pss_cons (ps_for PassesOwn.never rfl (pi_tup (pv 0)) (pg_tup rfl (pgs_cons (pg_name (i := 2) sc_merged.nd rfl (Or.inl rfl)) (pgs_cons (pg_name (i := 3) sc_merged.nd rfl (Or.inl rfl)) (pgs_cons (pg_name (i := 4) sc_merged.nd rfl (Or.inl rfl)) pgs_nil))))
        (pss_one (ps_for PassesOwn.never rfl (pi_tup (pv 4)) (pg_tup rfl (pgs_cons (pg_name (i := 5) sc_merged.nd rfl (Or.inl rfl)) (pgs_cons (pg_name (i := 6) sc_merged.nd rfl (Or.inl rfl)) pgs_nil)))
          (pss_one (ps_dput (hu_of hr) (pv 1) (pv 5) (pv 6) rfl)))))
      (pss_one (ps_ret (pv 1)))), ?_⟩
    refine fun d nd => ?_
    obtain ⟨H1, e1, s1, hd⟩ := newE (.dK []) nd
    rw [e1]
    refine ⟨_, rfl, ga, rfl, ⟨_, SqT.of (s1 _ _ hg)⟩, for_tup (K := K) (a := ga) (xs := xs) (fun i σ H' => ∃ (v2 v3 v4 v5 v6 : Option V), σ = [some (.ref ga), some (.ref d), v2, v3, v4, v5, v6] ∧ Same H H' ∧ DictAt H' d n (PG.mg (gs.take i)))
      ⟨none, none, none, none, none, rfl, s1, DictAt.new n hd⟩ (fun i σ H' _ ⟨_, _, _, _, _, _, s2, _⟩ => SqT.of (s2 _ _ hg)) ?_ ?_⟩
    · rintro i x σ H' hi ⟨v2, v3, v4, v5, v6, rfl, s2, hD⟩
      obtain ⟨g, hgi, a, c, rfl, ha, ys, hc, hys⟩ := hxs.at hi
      have hch := hok g (List.mem_of_getElem? hgi)
      refine ⟨a, _, rfl, SqT.of (s2 _ _ ha), rfl, _, _, rfl, _, _, rfl, _, _, rfl, rfl, ?_⟩
      refine ⟨_, rfl, c, rfl, ⟨_, SqT.of (s2 _ _ hc)⟩, for_tup (K := K) (a := c) (xs := ys) (fun j σ H' => ∃ (v5 v6 : Option V), σ = [some (.ref ga), some (.ref d), some (.int g.1), some (.int g.2.1), some (.ref c), v5, v6] ∧ Same H H' ∧ DictAt H' d n (dputs (PG.mg (gs.take i)) (g.2.2.take j)))
        ⟨v5, v6, rfl, s2, hD⟩ (fun j σ H' _ ⟨_, _, _, s3, _⟩ => SqT.of (s3 _ _ hc)) ?_ ?_⟩
      · rintro j y σ H3 hj ⟨v5, v6, rfl, s3, hD3⟩
        obtain ⟨e, he, b, z, rfl, hb, hz⟩ := hys.at hj
        have hce := hch e (List.mem_of_getElem? he)
        obtain ⟨H4, dp, b4, t4, hD4⟩ := hD3.put hce.1 hce.2.1 hn (hz.mono (Same.tups s3))
        refine ⟨b, _, rfl, SqT.of (s3 _ _ hb), rfl, _, _, rfl, _, _, rfl, rfl, ?_⟩
        refine ⟨_, rfl, _, rfl, _, rfl, d, H4, rfl, dp, _, _, rfl, Same.but s3 b4 nd, ?_⟩
        rw [take_snoc he, dputs_append]
        exact hD4
      · rintro σ H3 ⟨v5, v6, rfl, s3, hD3⟩
        refine ⟨_, _, _, _, _, rfl, s3, ?_⟩
        rw [take_snoc hgi, mg_snoc]
        rw [hys.len, List.take_length] at hD3
        exact hD3
    · rintro σ H' ⟨v2, v3, v4, v5, v6, rfl, s2, hD⟩
      rw [hxs.len, List.take_length] at hD
      exact ⟨_, rfl, k d H' s2 nd hD⟩
end
end PG

set_option Elab.async false
set_option linter.all false
set_option autoImplicit false
set_option maxRecDepth 100000
set_option maxHeartbeats 4000000
namespace PG
open PySem L2
theorem foldl_max_mem : ∀ (ns : List Int) (n : Int), ns.foldl max n ∈ n :: ns
  | [], n => List.mem_cons_self
  | m :: ns, n => by
    rw [List.foldl_cons]
    rcases List.mem_cons.mp (foldl_max_mem ns (max n m)) with h | h
    · rw [h]
      rcases (show max n m = n ∨ max n m = m by omega) with e | e
      · rw [e]; exact List.mem_cons_self
      · rw [e]; exact List.mem_cons_of_mem _ List.mem_cons_self
    · exact List.mem_cons_of_mem _ (List.mem_cons_of_mem _ h)
theorem foldl_max_le : ∀ (ns : List Int) (n : Int), ∀ y ∈ n :: ns, y ≤ ns.foldl max n
  | [], n, y, h => by
    rw [List.mem_singleton] at h
    subst h
    exact Int.le_refl _
  | m :: ns, n, y, h => by
    rw [List.foldl_cons]
    have k := foldl_max_le ns (max n m) (max n m) List.mem_cons_self
    rcases List.mem_cons.mp h with h | h
    · subst h; omega
    · rcases List.mem_cons.mp h with h | h
      · subst h; omega
      · exact foldl_max_le ns (max n m) y (List.mem_cons_of_mem _ h)
theorem foldl_max_is {ns : List Int} {n m : Int} (h1 : m ∈ n :: ns) (h2 : ∀ y ∈ n :: ns, y ≤ m) : m = ns.foldl max n := by
  have a := foldl_max_le ns n m h1
  have b := h2 _ (foldl_max_mem ns n)
  omega
def seenTo (s : List Pl) (slots i : Nat) : List Pl := (List.range i).map fun i : Nat => gp s (slotP slots i)
theorem seenTo_succ (s : List Pl) (slots i : Nat) : seenTo s slots (i + 1) = seenTo s slots i ++ [gp s (slotP slots (i : Int))] := by
  unfold seenTo
  rw [List.range_succ, List.map_append]
  rfl
theorem log_take {L : List Pl} {i : Nat} {v : Pl} (h : L[i]? = some v) : ((L.take (i + 1)).filter isLog).map (fun v => v.getD 0 0) = ((L.take i).filter isLog).map (fun v => v.getD 0 0) ++ (if isLog v = true then [v.getD 0 0] else []) := by
  rw [take_snoc h, List.filter_append, List.map_append]
  congr 1
  by_cases hp : isLog v = true <;> simp [hp]
section
variable {P : Program} {w : World} {K : PySem.W.Frag} {mg : Str → Option Value} {base : Heap} {A : Adr}
/-! ## last_seen -/
def spLast (A : Adr) : Sp := fun vs H Q _ => ∃ (d : Addr) (D : Dk) (slots : Nat), vs = [.ref d, .int slots] ∧ DiskAt A H d D ∧ D.loose = [] ∧ Short D.settled ∧ 0 < slots ∧ 2 + slots ≤ D.settled.length ∧
  ∀ H', Same H H' → Q (.int (lastSeen D.settled slots)) H'
theorem sc_last : FnScope ["disk", "slots", "found", "slot", "value"] ["disk", "slots"] (defScope (top 35)) := ⟨rfl, rfl, rfl, by decide +kernel, rfl, by decide +kernel, by decide +kernel⟩
theorem ok_last_seen (T : Txt K mg A) : FnOk P w K mg base CX0 4 A.a_last_seen A.d_last_seen ["disk", "slots"] (spLast A) := by
  refine T.t_last_seen.F.ok sc_last (fun vs H Q E h => ?_) (fun cdv A0 outer s H vs Q E hr h => ?_)
  · obtain ⟨d, D, slots, rfl, _⟩ := h
    rfl
  · obtain ⟨d, D, slots, rfl, hD, hloose, hsh, hs0, hsl, k⟩ := h
    refine ⟨_, pss_cons (ps_setLc (i := 2) (own := [("slot", 3)]) (g := gName 3) rfl sc_last.nd rfl rfl (sw_true rfl rfl rfl (by decide +kernel)) (pi_range1 rfl T.z_range (pa_cons (pv 1) pa_nil))
          (blkOk_by (N := ["disk", "slots", "found", "slot", "value"]) (sc := defScope (top 35)) (by decide +kernel))
          (fun _ _ _ _ _ => pg_name (i := 3) sc_last.nd rfl (Or.inl rfl)) (fun _ _ _ _ _ => pts_nil)
          (fun _ _ _ _ _ => pe_meth (pv 0) T.k_Disk.c T.m_Disk_now.M (ok_Disk_now T) hr T.m_Disk_now.b .nil pass0 (pa_cons (pe_call (ok_slot_plate T) (hr.mono (by decide)) rfl T.t_slot_plate.g T.t_slot_plate.F.kp T.t_slot_plate.b .nil pass0 (pa_cons (pv 1) (pa_cons (pv 3) pa_nil))) pa_nil)))
      (pss_one (ps_ret (pe_callB (cr_max rfl) (by rfl) T.z_max (by decide +kernel) (pa_cons (pe_lst (pa_cons (pe_un un_neg pe_int) (StX.pa_star (pe_lc (own := [("value", 4)]) (g := gName 4) (tt := tB (tCall spLogP [] E0 (tCons (tVar 4) tNil))) (te := tOp (rIxT K) (tVar 4) (tC (.int 0))) rfl sc_last.nd (pi_list (pv 2)) (blkOk_by (N := ["disk", "slots", "found", "slot", "value"]) (sc := defScope (top 35)) (by decide +kernel))
          (fun _ _ _ _ _ => pg_name (i := 4) sc_last.nd rfl (Or.inl rfl))
          (fun _ _ _ _ _ => pts_one (pt_val (pe_call (ok_is_log_plate T) (hr.mono (by decide)) rfl T.t_is_log_plate.g T.t_is_log_plate.F.kp T.t_is_log_plate.b .nil pass0 (pa_cons (pv 4) pa_nil))))
          (fun _ _ _ _ _ => pe_ix ix_tup (pv 4) pe_int (fun _ _ => rfl))) pa_nil))) pa_nil)))), ?_⟩
    have hsz := hD.sz
    have big : (1000 : Int) < 2 ^ 62 := by decide
    have low : -(2 ^ 62) ≤ (0 : Int) := by decide
    refine ⟨_, rfl, slots, rfl, by omega, by omega, fun D1 nD => lc_range (fun i H' => Same H H' ∧ ∃ acc, H' D1 = some (.lst acc) ∧ AllV (PlV H') acc (seenTo D.settled slots i)) ⟨Same.new nD, [], upd_same, AllV.nil⟩ ?_ ?_⟩
    · rintro i H' hi ⟨s1, acc, hA, hacc⟩
      rw [Int.zero_add]
      have hDx := hD.same s1
      obtain ⟨⟨dx, sa, la, hd, _⟩, _⟩ := id hDx
      have hri := slotP_in (t := (i : Int)) hs0 hsl
      refine ⟨rfl, tYes_ok (iteT ⟨_, rfl, d, dx, _, rfl, hd, DN_no _ _ (by decide +kernel), _, rfl, _, rfl, slots, (i : Int), rfl, hs0, d, D, slotP slots (i : Int), rfl, hDx, hloose, hri.1, hri.2, fun v H2 s2 hv => ?_⟩)⟩
      have hA2 := s2 _ _ hA
      have te : TupE H2 (upd H2 D1 (.lst (acc ++ [v]))) := TupE.upd fun z q => by rw [hA2] at q; cases q
      refine ⟨acc, hA2, line_lt ?_, Same.upd0 (s1.trans s2) nD, _, upd_same, ?_⟩
      · rw [hacc.len]
        unfold seenTo
        simp
        omega
      · rw [seenTo_succ]
        exact ((hacc.mono fun _ _ z => z.mono (Same.tups s2)).snoc hv).mono fun _ _ z => z.mono te
    · rintro H' ⟨s1, acc, hA, hacc⟩
      have hacc : AllV (PlV H') acc (seenTo D.settled slots slots) := hacc
      refine ⟨1, rfl, _, rfl, D1, rfl, ⟨_, SqL.of hA⟩, fun D2 nD2 => ?_⟩
      have hlen : (seenTo D.settled slots slots).length = slots := by unfold seenTo; simp
      refine lc_list (K := K) (a := D1) (xs := acc) (fun i H'' => Same H' H'' ∧ H'' D2 = some (.lst ((((seenTo D.settled slots slots).take i).filter isLog).map (fun v => V.int (v.getD 0 0)))))
        ⟨Same.new nD2, upd_same⟩ (fun i H'' _ q => SqL.of (q.1 _ _ hA)) ?_ ?_
      · rintro i x H3 hi ⟨s2, hB⟩
        obtain ⟨ns, hn, a, rfl, ha⟩ := hacc.at hi
        have hshort : ns.length ≤ 1000 := by
          unfold seenTo at hn
          rw [List.getElem?_map] at hn
          cases e : (List.range slots)[i]? with
          | none => rw [e] at hn; cases hn
          | some j => rw [e] at hn; cases hn; exact hsh.gp _
        have hil : i < slots := by rw [← hlen]; exact (List.getElem?_eq_some_iff.mp hn).1
        refine ⟨rfl, _, rfl, _, ns, rfl, ⟨a, rfl, s2 _ _ ha⟩, hshort, fun H4 s4 => ⟨_, rfl, ?_⟩⟩
        have step : (((seenTo D.settled slots slots).take (i + 1)).filter isLog).map (fun v => V.int (v.getD 0 0)) = (((seenTo D.settled slots slots).take i).filter isLog).map (fun v => V.int (v.getD 0 0)) ++ (if isLog ns = true then [V.int (ns.getD 0 0)] else []) := by
          rw [take_snoc hn, List.filter_append, List.map_append]
          congr 1
          by_cases hp : isLog ns = true <;> simp [hp]
        rw [step]
        by_cases hl : isLog ns = true
        · rw [hl, if_pos rfl]
          have h12 := isLog_len hl
          refine iteT ⟨_, rfl, a, _, 0, _, rfl, rfl, SqT.of (s4 _ _ (s2 _ _ ha)), atI_of (i := 0) rfl (ints_at (by omega)), _, s4 _ _ hB, line_lt ?_, Same.upd0 (s2.trans s4) nD2, upd_same⟩
          rw [List.length_map]
          refine Nat.le_trans (List.length_filter_le _ _) ?_
          rw [List.length_take]
          omega
        · rw [show isLog ns = false by simpa using hl, if_neg (by decide), List.append_nil]
          exact iteF ⟨s2.trans s4, s4 _ _ hB⟩
      · rintro H3 ⟨s2, hB⟩
        rw [hacc.len, List.take_length] at hB
        refine ⟨D2, _, rfl, .inr (SqL.of hB), ?_, fun q nq => ?_⟩
        · refine line1000 ?_
          have := List.length_filter_le isLog (seenTo D.settled slots slots)
          simp
          omega
        · obtain ⟨H4, e4, s4, hq⟩ := newE (.lst (V.int (-1) :: ((((seenTo D.settled slots slots).filter isLog).map (fun v => V.int (v.getD 0 0))) ++ []))) nq
          rw [show upd H3 q _ = H4 from e4]
          refine ⟨q, -1 :: ((seenTo D.settled slots slots).filter isLog).map (fun v => v.getD 0 0), rfl, SqL.of ?_, by simp, fun m h1 h2 => ?_⟩
          · rw [hq]
            simp
          · rw [foldl_max_is h1 h2]
            exact k _ (s1.trans (s2.trans s4))
end
end PG

set_option Elab.async false
set_option linter.all false
set_option autoImplicit false
set_option maxRecDepth 100000
set_option maxHeartbeats 4000000
namespace PG
open PySem L2
/-- a value just made, locked for good -/
def tFrz (t : TE) : TE := fun σ H Q => t σ H fun x H1 => ∃ d u, x = .ref d ∧ H1 d = some u ∧ Mut (some u) ∧ ∀ od, Q (.ref d) (upd H1 d (.frz od u))
theorem pe_frz {X : Cx} {e : Expr} {t : TE} (h : PE X e t) : PE X e (tFrz t) := by
  refine ⟨fun pins s σ H Q I hw => ?_⟩
  refine thn (h.run pins s σ H _ I hw) fun v s1 q => ?_
  obtain ⟨x, H1, I1, r, d, u, ex, hd, mu, q⟩ := q
  subst ex
  obtain ⟨od, I2⟩ := I1.lock hd mu
  exact ⟨_, _, I2, r, q od⟩
theorem kv_at {kvs : List (Key × V)} {i : Nat} {x1 x2 : V} (h1 : (kvs[i]?.map fun kv => kV kv.1) = some x1) (h2 : kvs[i]?.map Prod.snd = some x2) : ∃ e, kvs[i]? = some e ∧ x1 = kV e.1 ∧ x2 = e.2 := by
  cases e : kvs[i]? with
  | none => rw [e] at h1; cases h1
  | some x =>
    rw [e] at h1 h2
    exact ⟨x, rfl, (Option.some.inj h1).symm, (Option.some.inj h2).symm⟩
theorem KvAt.entry {H : Hp} {kvs : List (Key × V)} {n : Nat} {M : DM} (h : KvAt H kvs n M) {i : Nat} {e : Key × V} (he : kvs[i]? = some e) : ∃ (p : Int) (ns : Pl), e.1 = Sum.inl p ∧ 0 ≤ p ∧ p < n ∧ M p = some ns ∧ PlV H e.2 ns := by
  have hm := List.mem_of_getElem? he
  obtain ⟨p, e1, e2, e3⟩ := h.rg e hm
  have hv := val_nodup h.nd e hm
  have ha := h.at_ p
  rw [← e1, hv] at ha
  cases e4 : M p with
  | none => rw [e4] at ha; exact ha.elim
  | some ns => rw [e4] at ha; exact ⟨p, ns, e1, e2, e3, e4, ha⟩
section
variable {P : Program} {w : World} {K : PySem.W.Frag} {mg : Str → Option Value} {base : Heap} {A : Adr}
/-! ## read_home -/
def spReadHome (A : Adr) : Sp := fun vs H Q _ => ∃ (d ga : Addr) (D : Dk) (plates slots : Nat) (gs : List Grp), vs = [.ref d, .int plates, .int slots, .ref ga] ∧ DiskAt A H d D ∧ D.loose = [] ∧ Short D.settled ∧ 2 + slots + plates ≤ D.settled.length ∧ GrsV H ga gs ∧ GsOk plates gs ∧
  ∀ f H', Same H H' → H f = none → DictAt H' f plates (readHome D.settled plates slots gs) → Q (.ref f) H'
abbrev rhN : List Str := ["disk", "plates", "slots", "groups", "found", "plate", "value", "cells"]
theorem sc_rhome : FnScope rhN ["disk", "plates", "slots", "groups"] (defScope (top 39)) := ⟨rfl, rfl, rfl, by decide +kernel, rfl, by decide +kernel, by decide +kernel⟩
theorem ok_read_home (T : Txt K mg A) : FnOk P w K mg base CX0 4 A.a_read_home A.d_read_home ["disk", "plates", "slots", "groups"] (spReadHome A) := by
  obtain ⟨tw, hw⟩ := T.v_WIDTH
  refine T.t_read_home.F.ok sc_rhome (fun vs H Q E h => ?_) (fun cdv A0 outer s H vs Q E hr h => ?_)
  · obtain ⟨d, ga, D, plates, slots, gs, rfl, _⟩ := h
    rfl
  · obtain ⟨d, ga, D, plates, slots, gs, rfl, hD, hloose, hsh, hsl, hgs, hok, k⟩ := h
    refine ⟨_, pss_cons (ps_set (i := 4) sc_rhome.nd rfl (Or.inl rfl) pe_dnewK)
      (pss_cons (ps_for PassesOwn.never rfl (pi_range1 rfl T.z_range (pa_cons (pv 1) pa_nil)) (pg_name (i := 5) sc_rhome.nd rfl (Or.inl rfl))
        (pss_cons (ps_set (i := 6) sc_rhome.nd rfl (Or.inl rfl) (pe_meth (pv 0) T.k_Disk.c T.m_Disk_now.M (ok_Disk_now T) hr T.m_Disk_now.b .nil pass0 (pa_cons (pe_call (ok_home_plate T) (hr.mono (by decide)) rfl T.t_home_plate.g T.t_home_plate.F.kp T.t_home_plate.b .nil pass0 (pa_cons (pv 2) (pa_cons (pv 5) pa_nil))) pa_nil)))
        (pss_one (ps_dput (hu_of hr) (pv 4) (pv 5) (pe_ifExp (pt_val (pe_call (ok_is_cells T) (hr.mono (by decide)) rfl T.t_is_cells.g T.t_is_cells.F.kp T.t_is_cells.b .nil pass0 (pa_cons (pv 6) pa_nil))) (pv 6) (pe_op op_repT (pe_tup (pa_cons pe_int pa_nil)) (pe_gint rfl hw))) rfl))))
      (pss_cons (ps_for PassesOwn.never rfl (pi_items (pe_frz (pe_call (ok_merged T) (hr.mono (by decide)) rfl T.t_merged.g T.t_merged.F.kp T.t_merged.b .nil pass0 (pa_cons (pv 3) pa_nil)))) (pg_tup rfl (pgs_cons (pg_name (i := 5) sc_rhome.nd rfl (Or.inl rfl)) (pgs_cons (pg_name (i := 7) sc_rhome.nd rfl (Or.inl rfl)) pgs_nil)))
        (pss_one (ps_if (pt_cmpR op_lt (pv 5) (pv 1) (nomark _)) (pss_one (ps_dput (hu_of hr) (pv 4) (pv 5) (pv 7) rfl)) pss_nil)))
      (pss_one (ps_ret (pv 4))))), ?_⟩
    refine fun f nf => ?_
    obtain ⟨H1, e1, s1, hf⟩ := newE (.dK []) nf
    rw [e1]
    have hsz := hD.sz
    have big : (1000 : Int) < 2 ^ 62 := by decide
    have low : -(2 ^ 62) ≤ (0 : Int) := by decide
    refine ⟨_, rfl, plates, rfl, by omega, by omega, for_range (fun i σ H' => ∃ (v5 v6 : Option V), σ = [some (.ref d), some (.int plates), some (.int slots), some (.ref ga), some (.ref f), v5, v6, none] ∧ Same H H' ∧ DictAt H' f plates (fun p => if 0 ≤ p ∧ p < (i : Int) then some (cellsOr (gp D.settled (homeP slots p))) else none))
      ⟨none, none, rfl, s1, (DictAt.new plates hf).ext fun p => by rw [if_neg (by omega)]; rfl⟩ ?_ ?_⟩
    · rintro i σ H' hi ⟨v5, v6, rfl, s2, hF⟩
      rw [Int.zero_add]
      have hi : i < plates := hi
      have hDx := hD.same s2
      obtain ⟨⟨dx, sa, la, hd, _⟩, _⟩ := id hDx
      refine ⟨_, rfl, d, dx, _, rfl, hd, DN_no _ _ (by decide +kernel), _, rfl, _, rfl, slots, (i : Int), rfl, d, D, homeP slots i, rfl, hDx, hloose, by unfold homeP; omega, by unfold homeP; omega, fun v H3 s3 hv => ?_⟩
      refine ⟨_, rfl, v, _, rfl, hv, hsh.gp _, fun H4 s4 => ⟨_, rfl, ?_⟩⟩
      have s34 := s3.trans s4
      have hv4 := hv.mono (Same.tups s4)
      have hF4 := hF.same s34
      have put : ∀ (u : V) (H5 : Hp) (s5 : Same H4 H5) (hu : PlV H5 u (cellsOr (gp D.settled (homeP slots i)))), ∃ H6, DPut H5 f (.int i) u H6 ∧ Same H H6 ∧ DictAt H6 f plates (fun p => if 0 ≤ p ∧ p < ((i + 1 : Nat) : Int) then some (cellsOr (gp D.settled (homeP slots p))) else none) := by
        intro u H5 s5 hu
        obtain ⟨H6, dp, b6, t6, hF6⟩ := (hF4.same s5).put (p := i) (by omega) (by omega) (by omega) hu
        refine ⟨H6, dp, Same.but (s2.trans (s34.trans s5)) b6 nf, ?_⟩
        rw [← dput_range (f := fun p => cellsOr (gp D.settled (homeP slots p)))]
        exact hF6
      by_cases h8 : (gp D.settled (homeP slots i)).length = 8
      · rw [decide_eq_true h8]
        obtain ⟨H6, dp, s6, hF6⟩ := put v H4 (Same.refl _) (by unfold cellsOr; rw [if_pos h8]; exact hv4)
        exact iteT ⟨_, rfl, _, rfl, _, rfl, f, H6, rfl, dp, _, _, rfl, s6, hF6⟩
      · rw [decide_eq_false h8]
        refine iteF ⟨line1000 (by show 1 ≤ 1000000; decide), fun q nq => ?_⟩
        obtain ⟨H5, e5, s5, hq⟩ := newE (.tup [V.int 0]) nq
        rw [e5]
        refine ⟨q, 8, _, rfl, rfl, SqT.of hq, List.cons_ne_nil _ _, by decide, by decide, by show 1 ≤ 1000; decide, fun r nr => ?_⟩
        rw [flat_rep]
        obtain ⟨H7, e7, s7, hr7⟩ := newE (.tup (List.replicate (8 : Int).toNat (V.int 0))) nr
        rw [e7]
        obtain ⟨H6, dp, s6, hF6⟩ := put (.ref r) H7 (s5.trans s7) (by unfold cellsOr; rw [if_neg h8]; exact ⟨r, rfl, hr7⟩)
        exact ⟨_, rfl, _, rfl, f, H6, rfl, dp, _, _, rfl, s6, hF6⟩
    · rintro σ H' ⟨v5, v6, rfl, s2, hF⟩
      refine ⟨_, rfl, ga, gs, plates, rfl, hgs.mono (Same.tups s2), hok, by omega, fun m H3 s3 nm hm => ?_⟩
      obtain ⟨kvs, hmd, hkv⟩ := hm
      refine ⟨m, .dK kvs, rfl, hmd, trivial, fun od => ⟨m, od, kvs, rfl, upd_same, ?_⟩⟩
      have hmf : f ≠ m := fun z => by
        subst z
        exact hF.there nm
      have nm0 : H m = none := Same.free s2 nm
      have tm : TupE H3 (upd H3 m (.frz od (.dK kvs))) := TupE.upd fun z q => by rw [hmd] at q; cases q
      have s4 : Same H (upd H3 m (.frz od (.dK kvs))) := Same.upd0 (s2.trans s3) nm0
      have hkv4 := hkv.mono tm
      have hF4 : DictAt (upd H3 m (.frz od (.dK kvs))) f plates _ := (hF.same s3).mono tm fun o e => by rw [upd_ne hmf]; exact e
      generalize hH4 : upd H3 m (.frz od (.dK kvs)) = H4 at *
      have hm4 : H4 m = some (.frz od (.dK kvs)) := by rw [← hH4]; exact upd_same
      obtain ⟨ks, ks1, ks2, ks3, ks4⟩ := hkv.keys
      refine for_it (walk_items (d := m) (o := od) (kvs := kvs)) (fun i σ H' => ∃ (v5 v6 v7 : Option V) (M : DM), σ = [some (.ref d), some (.int plates), some (.int slots), some (.ref ga), some (.ref f), v5, v6, v7] ∧ Same H H' ∧ TupE H4 H' ∧ H' m = some (.frz od (.dK kvs)) ∧ DictAt H' f plates M ∧
        ∀ p : Int, (Sum.inl p ∈ (kvs.take i).map (·.1) → M p = PG.mg gs p) ∧ (Sum.inl p ∉ (kvs.take i).map (·.1) → M p = if 0 ≤ p ∧ p < (plates : Int) then some (cellsOr (gp D.settled (homeP slots p))) else none))
        ⟨v5, v6, none, _, rfl, s4, TupE.refl _, hm4, hF4, fun p => ⟨fun z => (by cases z), fun _ => rfl⟩⟩ (fun i σ H' _ ⟨_, _, _, _, _, _, _, q, _⟩ => q) ?_ ?_
      · rintro i x σ H5 H6 hi ⟨v5, v6, v7, M, rfl, s5, t5, hm5, hF5, hM⟩ ⟨t, x1, x2, rfl, nt, rfl, g1, g2⟩
        obtain ⟨e, he, rfl, rfl⟩ := kv_at g1 g2
        obtain ⟨p, ns, e1, p0, p1, hmg, hv⟩ := hkv4.entry he
        rw [e1]
        obtain ⟨H7, e7, s7, ht⟩ := newE (.tup [V.int p, e.2]) nt
        rw [show upd H5 t (.tup [kV (Sum.inl p), e.2]) = H7 from e7]
        obtain ⟨H8, dp, b8, t8, hF8⟩ := (hF5.same s7).put p0 p1 (by omega) (hv.mono (t5.trans (Same.tups s7)))
        refine ⟨t, _, rfl, SqT.of ht, rfl, _, _, rfl, _, _, rfl, rfl, ?_⟩
        refine ⟨_, rfl, _, rfl, _, _, rfl, rfl, _, rfl, ?_⟩
        rw [decide_eq_true p1]
        refine iteT ⟨_, rfl, _, rfl, _, rfl, f, H8, rfl, dp, _, _, _, dput M p ns, rfl, Same.but (s5.trans s7) b8 nf, t5.trans ((Same.tups s7).trans t8), b8 _ _ hmf.symm (s7 _ _ hm5), hF8, fun q => ?_⟩
        rw [take_snoc he, List.map_append]
        unfold dput
        by_cases eq : q = p
        · subst eq
          rw [if_pos rfl]
          refine ⟨fun _ => hmg.symm, fun z => absurd (List.mem_append_right _ ?_) z⟩
          rw [← e1]
          exact List.mem_singleton.mpr rfl
        · rw [if_neg eq]
          refine ⟨fun z => (hM q).1 ?_, fun z => (hM q).2 fun y => z (List.mem_append_left _ y)⟩
          rcases List.mem_append.mp z with z | z
          · exact z
          · have : (Sum.inl q : Key) = e.1 := List.mem_singleton.mp z
            rw [e1] at this
            injection this with this
            exact absurd this eq
      · rintro σ H5 ⟨v5, v6, v7, M, rfl, s5, t5, hm5, hF5, hM⟩
        refine ⟨_, rfl, k f H5 s5 nf (hF5.ext fun p => ?_)⟩
        rw [List.take_length] at hM
        unfold readHome
        by_cases hp : p ∈ ks
        · have hin : (Sum.inl p : Key) ∈ kvs.map (·.1) := by rw [ks1]; exact List.mem_map.mpr ⟨p, hp, rfl⟩
          rw [(hM p).1 hin]
          have h2 := (ks3 p).mp hp
          have h3 := ks4 p hp
          rw [if_pos h3]
          cases e : PG.mg gs p with
          | none => rw [e] at h2; cases h2
          | some v => rfl
        · have hin : (Sum.inl p : Key) ∉ kvs.map (·.1) := by
            rw [ks1]
            intro z
            obtain ⟨q, hq, e⟩ := List.mem_map.mp z
            injection e with e
            exact hp (e ▸ hq)
          rw [(hM p).2 hin]
          cases e : PG.mg gs p with
          | none => rfl
          | some v => exact absurd ((ks3 p).mpr (by rw [e]; rfl)) hp
end
end PG

set_option Elab.async false
set_option linter.all false
set_option autoImplicit false
set_option maxRecDepth 100000
set_option maxHeartbeats 4000000
/-! the fields of a store (printed by genS.py) -/
namespace PG
open PySem L2
def SN : List Str := ["plates", "slots", "begin", "device", "trace", "head", "groups", "cells", "next_group", "next_slot", "running", "running_deeds", "pushed", "deeds", "settled_deeds"]
theorem SN_nd : SN.Nodup := by decide +kernel
theorem SN_no {f : Str} {vs : List V} (h : f ∉ SN) : (SN.zip vs).lookup f = none := lookup_zip_none h
theorem SN_noK {f : Str} {vs : List V} {n : Nat} (h : f ∉ SN) : ((SN.take n).zip vs).lookup f = none := lookup_zip_none fun z => h (List.mem_of_mem_take z)
theorem SN_get0 (v0 v1 v2 v3 v4 v5 v6 v7 v8 v9 v10 v11 v12 v13 v14 : V) : (SN.zip [v0, v1, v2, v3, v4, v5, v6, v7, v8, v9, v10, v11, v12, v13, v14]).lookup ("plates" : Str) = some v0 := lookup_zip (i := 0) SN_nd rfl rfl
theorem SN_get1 (v0 v1 v2 v3 v4 v5 v6 v7 v8 v9 v10 v11 v12 v13 v14 : V) : (SN.zip [v0, v1, v2, v3, v4, v5, v6, v7, v8, v9, v10, v11, v12, v13, v14]).lookup ("slots" : Str) = some v1 := lookup_zip (i := 1) SN_nd rfl rfl
theorem SN_get2 (v0 v1 v2 v3 v4 v5 v6 v7 v8 v9 v10 v11 v12 v13 v14 : V) : (SN.zip [v0, v1, v2, v3, v4, v5, v6, v7, v8, v9, v10, v11, v12, v13, v14]).lookup ("begin" : Str) = some v2 := lookup_zip (i := 2) SN_nd rfl rfl
theorem SN_get3 (v0 v1 v2 v3 v4 v5 v6 v7 v8 v9 v10 v11 v12 v13 v14 : V) : (SN.zip [v0, v1, v2, v3, v4, v5, v6, v7, v8, v9, v10, v11, v12, v13, v14]).lookup ("device" : Str) = some v3 := lookup_zip (i := 3) SN_nd rfl rfl
theorem SN_get4 (v0 v1 v2 v3 v4 v5 v6 v7 v8 v9 v10 v11 v12 v13 v14 : V) : (SN.zip [v0, v1, v2, v3, v4, v5, v6, v7, v8, v9, v10, v11, v12, v13, v14]).lookup ("trace" : Str) = some v4 := lookup_zip (i := 4) SN_nd rfl rfl
theorem SN_get5 (v0 v1 v2 v3 v4 v5 v6 v7 v8 v9 v10 v11 v12 v13 v14 : V) : (SN.zip [v0, v1, v2, v3, v4, v5, v6, v7, v8, v9, v10, v11, v12, v13, v14]).lookup ("head" : Str) = some v5 := lookup_zip (i := 5) SN_nd rfl rfl
theorem SN_get6 (v0 v1 v2 v3 v4 v5 v6 v7 v8 v9 v10 v11 v12 v13 v14 : V) : (SN.zip [v0, v1, v2, v3, v4, v5, v6, v7, v8, v9, v10, v11, v12, v13, v14]).lookup ("groups" : Str) = some v6 := lookup_zip (i := 6) SN_nd rfl rfl
theorem SN_get7 (v0 v1 v2 v3 v4 v5 v6 v7 v8 v9 v10 v11 v12 v13 v14 : V) : (SN.zip [v0, v1, v2, v3, v4, v5, v6, v7, v8, v9, v10, v11, v12, v13, v14]).lookup ("cells" : Str) = some v7 := lookup_zip (i := 7) SN_nd rfl rfl
theorem SN_get8 (v0 v1 v2 v3 v4 v5 v6 v7 v8 v9 v10 v11 v12 v13 v14 : V) : (SN.zip [v0, v1, v2, v3, v4, v5, v6, v7, v8, v9, v10, v11, v12, v13, v14]).lookup ("next_group" : Str) = some v8 := lookup_zip (i := 8) SN_nd rfl rfl
theorem SN_get9 (v0 v1 v2 v3 v4 v5 v6 v7 v8 v9 v10 v11 v12 v13 v14 : V) : (SN.zip [v0, v1, v2, v3, v4, v5, v6, v7, v8, v9, v10, v11, v12, v13, v14]).lookup ("next_slot" : Str) = some v9 := lookup_zip (i := 9) SN_nd rfl rfl
theorem SN_get10 (v0 v1 v2 v3 v4 v5 v6 v7 v8 v9 v10 v11 v12 v13 v14 : V) : (SN.zip [v0, v1, v2, v3, v4, v5, v6, v7, v8, v9, v10, v11, v12, v13, v14]).lookup ("running" : Str) = some v10 := lookup_zip (i := 10) SN_nd rfl rfl
theorem SN_get11 (v0 v1 v2 v3 v4 v5 v6 v7 v8 v9 v10 v11 v12 v13 v14 : V) : (SN.zip [v0, v1, v2, v3, v4, v5, v6, v7, v8, v9, v10, v11, v12, v13, v14]).lookup ("running_deeds" : Str) = some v11 := lookup_zip (i := 11) SN_nd rfl rfl
theorem SN_get12 (v0 v1 v2 v3 v4 v5 v6 v7 v8 v9 v10 v11 v12 v13 v14 : V) : (SN.zip [v0, v1, v2, v3, v4, v5, v6, v7, v8, v9, v10, v11, v12, v13, v14]).lookup ("pushed" : Str) = some v12 := lookup_zip (i := 12) SN_nd rfl rfl
theorem SN_get13 (v0 v1 v2 v3 v4 v5 v6 v7 v8 v9 v10 v11 v12 v13 v14 : V) : (SN.zip [v0, v1, v2, v3, v4, v5, v6, v7, v8, v9, v10, v11, v12, v13, v14]).lookup ("deeds" : Str) = some v13 := lookup_zip (i := 13) SN_nd rfl rfl
theorem SN_get14 (v0 v1 v2 v3 v4 v5 v6 v7 v8 v9 v10 v11 v12 v13 v14 : V) : (SN.zip [v0, v1, v2, v3, v4, v5, v6, v7, v8, v9, v10, v11, v12, v13, v14]).lookup ("settled_deeds" : Str) = some v14 := lookup_zip (i := 14) SN_nd rfl rfl
theorem SN_set0 (v0 v1 v2 v3 v4 v5 v6 v7 v8 v9 v10 v11 v12 v13 v14 w : V) : putF "plates" w (SN.zip [v0, v1, v2, v3, v4, v5, v6, v7, v8, v9, v10, v11, v12, v13, v14]) = SN.zip [w, v1, v2, v3, v4, v5, v6, v7, v8, v9, v10, v11, v12, v13, v14] := putF_zip (i := 0) SN_nd rfl (by show 0 < 15; decide)
theorem SN_set1 (v0 v1 v2 v3 v4 v5 v6 v7 v8 v9 v10 v11 v12 v13 v14 w : V) : putF "slots" w (SN.zip [v0, v1, v2, v3, v4, v5, v6, v7, v8, v9, v10, v11, v12, v13, v14]) = SN.zip [v0, w, v2, v3, v4, v5, v6, v7, v8, v9, v10, v11, v12, v13, v14] := putF_zip (i := 1) SN_nd rfl (by show 1 < 15; decide)
theorem SN_set2 (v0 v1 v2 v3 v4 v5 v6 v7 v8 v9 v10 v11 v12 v13 v14 w : V) : putF "begin" w (SN.zip [v0, v1, v2, v3, v4, v5, v6, v7, v8, v9, v10, v11, v12, v13, v14]) = SN.zip [v0, v1, w, v3, v4, v5, v6, v7, v8, v9, v10, v11, v12, v13, v14] := putF_zip (i := 2) SN_nd rfl (by show 2 < 15; decide)
theorem SN_set3 (v0 v1 v2 v3 v4 v5 v6 v7 v8 v9 v10 v11 v12 v13 v14 w : V) : putF "device" w (SN.zip [v0, v1, v2, v3, v4, v5, v6, v7, v8, v9, v10, v11, v12, v13, v14]) = SN.zip [v0, v1, v2, w, v4, v5, v6, v7, v8, v9, v10, v11, v12, v13, v14] := putF_zip (i := 3) SN_nd rfl (by show 3 < 15; decide)
theorem SN_set4 (v0 v1 v2 v3 v4 v5 v6 v7 v8 v9 v10 v11 v12 v13 v14 w : V) : putF "trace" w (SN.zip [v0, v1, v2, v3, v4, v5, v6, v7, v8, v9, v10, v11, v12, v13, v14]) = SN.zip [v0, v1, v2, v3, w, v5, v6, v7, v8, v9, v10, v11, v12, v13, v14] := putF_zip (i := 4) SN_nd rfl (by show 4 < 15; decide)
theorem SN_set5 (v0 v1 v2 v3 v4 v5 v6 v7 v8 v9 v10 v11 v12 v13 v14 w : V) : putF "head" w (SN.zip [v0, v1, v2, v3, v4, v5, v6, v7, v8, v9, v10, v11, v12, v13, v14]) = SN.zip [v0, v1, v2, v3, v4, w, v6, v7, v8, v9, v10, v11, v12, v13, v14] := putF_zip (i := 5) SN_nd rfl (by show 5 < 15; decide)
theorem SN_set6 (v0 v1 v2 v3 v4 v5 v6 v7 v8 v9 v10 v11 v12 v13 v14 w : V) : putF "groups" w (SN.zip [v0, v1, v2, v3, v4, v5, v6, v7, v8, v9, v10, v11, v12, v13, v14]) = SN.zip [v0, v1, v2, v3, v4, v5, w, v7, v8, v9, v10, v11, v12, v13, v14] := putF_zip (i := 6) SN_nd rfl (by show 6 < 15; decide)
theorem SN_set7 (v0 v1 v2 v3 v4 v5 v6 v7 v8 v9 v10 v11 v12 v13 v14 w : V) : putF "cells" w (SN.zip [v0, v1, v2, v3, v4, v5, v6, v7, v8, v9, v10, v11, v12, v13, v14]) = SN.zip [v0, v1, v2, v3, v4, v5, v6, w, v8, v9, v10, v11, v12, v13, v14] := putF_zip (i := 7) SN_nd rfl (by show 7 < 15; decide)
theorem SN_set8 (v0 v1 v2 v3 v4 v5 v6 v7 v8 v9 v10 v11 v12 v13 v14 w : V) : putF "next_group" w (SN.zip [v0, v1, v2, v3, v4, v5, v6, v7, v8, v9, v10, v11, v12, v13, v14]) = SN.zip [v0, v1, v2, v3, v4, v5, v6, v7, w, v9, v10, v11, v12, v13, v14] := putF_zip (i := 8) SN_nd rfl (by show 8 < 15; decide)
theorem SN_set9 (v0 v1 v2 v3 v4 v5 v6 v7 v8 v9 v10 v11 v12 v13 v14 w : V) : putF "next_slot" w (SN.zip [v0, v1, v2, v3, v4, v5, v6, v7, v8, v9, v10, v11, v12, v13, v14]) = SN.zip [v0, v1, v2, v3, v4, v5, v6, v7, v8, w, v10, v11, v12, v13, v14] := putF_zip (i := 9) SN_nd rfl (by show 9 < 15; decide)
theorem SN_set10 (v0 v1 v2 v3 v4 v5 v6 v7 v8 v9 v10 v11 v12 v13 v14 w : V) : putF "running" w (SN.zip [v0, v1, v2, v3, v4, v5, v6, v7, v8, v9, v10, v11, v12, v13, v14]) = SN.zip [v0, v1, v2, v3, v4, v5, v6, v7, v8, v9, w, v11, v12, v13, v14] := putF_zip (i := 10) SN_nd rfl (by show 10 < 15; decide)
theorem SN_set11 (v0 v1 v2 v3 v4 v5 v6 v7 v8 v9 v10 v11 v12 v13 v14 w : V) : putF "running_deeds" w (SN.zip [v0, v1, v2, v3, v4, v5, v6, v7, v8, v9, v10, v11, v12, v13, v14]) = SN.zip [v0, v1, v2, v3, v4, v5, v6, v7, v8, v9, v10, w, v12, v13, v14] := putF_zip (i := 11) SN_nd rfl (by show 11 < 15; decide)
theorem SN_set12 (v0 v1 v2 v3 v4 v5 v6 v7 v8 v9 v10 v11 v12 v13 v14 w : V) : putF "pushed" w (SN.zip [v0, v1, v2, v3, v4, v5, v6, v7, v8, v9, v10, v11, v12, v13, v14]) = SN.zip [v0, v1, v2, v3, v4, v5, v6, v7, v8, v9, v10, v11, w, v13, v14] := putF_zip (i := 12) SN_nd rfl (by show 12 < 15; decide)
theorem SN_set13 (v0 v1 v2 v3 v4 v5 v6 v7 v8 v9 v10 v11 v12 v13 v14 w : V) : putF "deeds" w (SN.zip [v0, v1, v2, v3, v4, v5, v6, v7, v8, v9, v10, v11, v12, v13, v14]) = SN.zip [v0, v1, v2, v3, v4, v5, v6, v7, v8, v9, v10, v11, v12, w, v14] := putF_zip (i := 13) SN_nd rfl (by show 13 < 15; decide)
theorem SN_set14 (v0 v1 v2 v3 v4 v5 v6 v7 v8 v9 v10 v11 v12 v13 v14 w : V) : putF "settled_deeds" w (SN.zip [v0, v1, v2, v3, v4, v5, v6, v7, v8, v9, v10, v11, v12, v13, v14]) = SN.zip [v0, v1, v2, v3, v4, v5, v6, v7, v8, v9, v10, v11, v12, v13, w] := putF_zip (i := 14) SN_nd rfl (by show 14 < 15; decide)
theorem SN_put0 (v0 : V) : putF "plates" v0 [] = (SN.take 1).zip [v0] := rfl
theorem SN_put1 (v0 v1 : V) : putF "slots" v1 ((SN.take 1).zip [v0]) = (SN.take 2).zip [v0, v1] := putF_new (by decide +kernel) rfl
theorem SN_put2 (v0 v1 v2 : V) : putF "begin" v2 ((SN.take 2).zip [v0, v1]) = (SN.take 3).zip [v0, v1, v2] := putF_new (by decide +kernel) rfl
theorem SN_put3 (v0 v1 v2 v3 : V) : putF "device" v3 ((SN.take 3).zip [v0, v1, v2]) = (SN.take 4).zip [v0, v1, v2, v3] := putF_new (by decide +kernel) rfl
theorem SN_put4 (v0 v1 v2 v3 v4 : V) : putF "trace" v4 ((SN.take 4).zip [v0, v1, v2, v3]) = (SN.take 5).zip [v0, v1, v2, v3, v4] := putF_new (by decide +kernel) rfl
theorem SN_put5 (v0 v1 v2 v3 v4 v5 : V) : putF "head" v5 ((SN.take 5).zip [v0, v1, v2, v3, v4]) = (SN.take 6).zip [v0, v1, v2, v3, v4, v5] := putF_new (by decide +kernel) rfl
theorem SN_put6 (v0 v1 v2 v3 v4 v5 v6 : V) : putF "groups" v6 ((SN.take 6).zip [v0, v1, v2, v3, v4, v5]) = (SN.take 7).zip [v0, v1, v2, v3, v4, v5, v6] := putF_new (by decide +kernel) rfl
theorem SN_put7 (v0 v1 v2 v3 v4 v5 v6 v7 : V) : putF "cells" v7 ((SN.take 7).zip [v0, v1, v2, v3, v4, v5, v6]) = (SN.take 8).zip [v0, v1, v2, v3, v4, v5, v6, v7] := putF_new (by decide +kernel) rfl
theorem SN_put8 (v0 v1 v2 v3 v4 v5 v6 v7 v8 : V) : putF "next_group" v8 ((SN.take 8).zip [v0, v1, v2, v3, v4, v5, v6, v7]) = (SN.take 9).zip [v0, v1, v2, v3, v4, v5, v6, v7, v8] := putF_new (by decide +kernel) rfl
theorem SN_put9 (v0 v1 v2 v3 v4 v5 v6 v7 v8 v9 : V) : putF "next_slot" v9 ((SN.take 9).zip [v0, v1, v2, v3, v4, v5, v6, v7, v8]) = (SN.take 10).zip [v0, v1, v2, v3, v4, v5, v6, v7, v8, v9] := putF_new (by decide +kernel) rfl
theorem SN_put10 (v0 v1 v2 v3 v4 v5 v6 v7 v8 v9 v10 : V) : putF "running" v10 ((SN.take 10).zip [v0, v1, v2, v3, v4, v5, v6, v7, v8, v9]) = (SN.take 11).zip [v0, v1, v2, v3, v4, v5, v6, v7, v8, v9, v10] := putF_new (by decide +kernel) rfl
theorem SN_put11 (v0 v1 v2 v3 v4 v5 v6 v7 v8 v9 v10 v11 : V) : putF "running_deeds" v11 ((SN.take 11).zip [v0, v1, v2, v3, v4, v5, v6, v7, v8, v9, v10]) = (SN.take 12).zip [v0, v1, v2, v3, v4, v5, v6, v7, v8, v9, v10, v11] := putF_new (by decide +kernel) rfl
theorem SN_put12 (v0 v1 v2 v3 v4 v5 v6 v7 v8 v9 v10 v11 v12 : V) : putF "pushed" v12 ((SN.take 12).zip [v0, v1, v2, v3, v4, v5, v6, v7, v8, v9, v10, v11]) = (SN.take 13).zip [v0, v1, v2, v3, v4, v5, v6, v7, v8, v9, v10, v11, v12] := putF_new (by decide +kernel) rfl
theorem SN_put13 (v0 v1 v2 v3 v4 v5 v6 v7 v8 v9 v10 v11 v12 v13 : V) : putF "deeds" v13 ((SN.take 13).zip [v0, v1, v2, v3, v4, v5, v6, v7, v8, v9, v10, v11, v12]) = (SN.take 14).zip [v0, v1, v2, v3, v4, v5, v6, v7, v8, v9, v10, v11, v12, v13] := putF_new (by decide +kernel) rfl
theorem SN_put14 (v0 v1 v2 v3 v4 v5 v6 v7 v8 v9 v10 v11 v12 v13 v14 : V) : putF "settled_deeds" v14 ((SN.take 14).zip [v0, v1, v2, v3, v4, v5, v6, v7, v8, v9, v10, v11, v12, v13]) = (SN.take 15).zip [v0, v1, v2, v3, v4, v5, v6, v7, v8, v9, v10, v11, v12, v13, v14] := putF_new (by decide +kernel) rfl
end PG

set_option Elab.async false
set_option linter.all false
set_option autoImplicit false
set_option maxRecDepth 100000
set_option maxHeartbeats 4000000
namespace PG
open PySem L2
/-! ## A store on the heap -/
structure SAdr where
  dx : Addr
  bg : Addr
  dev : Addr
  tr : Addr
  hd : Addr
  gr : Addr
  cel : Addr
  run : Addr
  pu : Addr
structure Wf (S : Sto) : Prop where
  s0 : 0 < S.slots
  s1 : S.slots ≤ 50
  p1 : S.plates ≤ 50
  dl : S.dev.settled.length = 2 + S.slots + S.plates
  gs : GsOk S.plates S.groups
  rok : ∀ p v, S.run p = some v → v.length = 8
  sh : ∀ x ∈ wrs S.trace, x.2.length ≤ 1000
  lz : S.dev.loose.length ≤ S.trace.length
  rle : S.rund ≤ S.deeds
  gl : S.groups.length ≤ 100 + S.pushed.length
def EvSh : Ev → Prop
  | .wr _ v => v.length ≤ 1000
  | .bar => True
theorem Wf.ev {S : Sto} (h : Wf S) {e : Ev} (he : EvSh e) : Wf (S.ev e) := by
  refine ⟨h.s0, h.s1, h.p1, ?_, h.gs, h.rok, ?_, ?_, h.rle, h.gl⟩
  · show (S.dev.step e).settled.length = _
    have := len_settled_run (t := [e]) (d := S.dev)
    exact this.trans h.dl
  · intro x hx
    rcases List.mem_append.mp (show x ∈ wrs S.trace ++ wrs [e] by rw [← wrs_append]; exact hx) with z | z
    · exact h.sh x z
    · cases e with
      | wr p v =>
        have : x = (p, v) := List.mem_singleton.mp z
        subst this
        exact he
      | bar => cases z
  · have := loose_run_le [e] S.dev
    have h2 := h.lz
    show (S.dev.step e).loose.length ≤ (S.trace ++ [e]).length
    rw [List.length_append]
    have h3 : (S.dev.run [e]).loose.length = (S.dev.step e).loose.length := rfl
    rw [h3] at this
    omega
def svals (S : Sto) (a : SAdr) : List V := [.int S.plates, .int S.slots, .ref a.bg, .ref a.dev, .ref a.tr, .ref a.hd, .ref a.gr, .ref a.cel, .int S.ng, .int S.nt, .ref a.run, .int S.rund, .ref a.pu, .int S.deeds, .int S.sdeeds]
structure StoreAt (A : Adr) (H : Hp) (x : Addr) (S : Sto) (a : SAdr) : Prop where
  ins : H x = some (.ins A.c_Store a.dx (SN.zip (svals S a)))
  bg : DiskAt A H a.bg S.beg
  dev : DiskAt A H a.dev S.dev
  tr : TrV H a.tr S.trace
  hd : H a.hd = some (.tup [.int S.hn, .int S.hf, .int S.ht])
  gr : GrsV H a.gr S.groups
  cel : DictAt H a.cel S.plates S.cells
  run : DictAt H a.run S.plates S.run
  pu : PusV H a.pu S.pushed
  ncr : a.cel ≠ a.run
  nbd : a.bg ≠ a.dev
  wf : Wf S
section
variable {A : Adr} {H H' : Hp} {x : Addr} {S : Sto} {a : SAdr}
theorem ins_ne_disk {d : Addr} {D : Dk} {C dx : Addr} {fs : List (Str × V)} (h : H x = some (.ins C dx fs)) (hD : DiskAt A H d D) (hl : fs.length ≠ 2) : x ≠ d := fun z => by
  subst z
  obtain ⟨⟨_, _, _, h1, _⟩, _⟩ := hD
  rw [h] at h1
  injection h1 with h1
  injection h1 with _ _ h1
  exact hl (by rw [h1]; rfl)
theorem ins_ne_dict {d : Addr} {n : Nat} {M : DM} {C dx : Addr} {fs : List (Str × V)} (h : H x = some (.ins C dx fs)) (hD : DictAt H d n M) : x ≠ d := fun z => by
  subst z
  obtain ⟨_, h1, _⟩ := hD
  rw [h] at h1
  cases h1
theorem disk_ne_dict {d e : Addr} {D : Dk} {n : Nat} {M : DM} (h : DiskAt A H d D) (h' : DictAt H e n M) : d ≠ e := by
  obtain ⟨⟨_, _, _, h1, _⟩, _⟩ := h
  exact ins_ne_dict h1 h'
theorem StoreAt.xd (h : StoreAt A H x S a) : x ≠ a.dev := ins_ne_disk h.ins h.dev (by rw [List.length_zip]; show min 15 15 ≠ 2; decide)
theorem StoreAt.xb (h : StoreAt A H x S a) : x ≠ a.bg := ins_ne_disk h.ins h.bg (by rw [List.length_zip]; show min 15 15 ≠ 2; decide)
theorem StoreAt.xc (h : StoreAt A H x S a) : x ≠ a.cel := ins_ne_dict h.ins h.cel
theorem StoreAt.xr (h : StoreAt A H x S a) : x ≠ a.run := ins_ne_dict h.ins h.run
theorem StoreAt.dc (h : StoreAt A H x S a) : a.dev ≠ a.cel := disk_ne_dict h.dev h.cel
theorem StoreAt.dr (h : StoreAt A H x S a) : a.dev ≠ a.run := disk_ne_dict h.dev h.run
theorem StoreAt.bc (h : StoreAt A H x S a) : a.bg ≠ a.cel := disk_ne_dict h.bg h.cel
theorem StoreAt.br (h : StoreAt A H x S a) : a.bg ≠ a.run := disk_ne_dict h.bg h.run
theorem StoreAt.there (h : StoreAt A H x S a) : H x ≠ none := fun z => by rw [h.ins] at z; cases z
theorem StoreAt.notTup (h : StoreAt A H x S a) : ∀ xs, H x ≠ some (.tup xs) := fun xs z => by rw [h.ins] at z; cases z
theorem StoreAt.same (h : StoreAt A H x S a) (e : Same H H') : StoreAt A H' x S a :=
  have t := Same.tups e
  ⟨e _ _ h.ins, h.bg.same e, h.dev.same e, h.tr.mono t, e _ _ h.hd, h.gr.mono t, h.cel.same e, h.run.same e, h.pu.mono t, h.ncr, h.nbd, h.wf⟩
end
/-- what a change of a store may change -/
structure Chg (x : Addr) (a a' : SAdr) (H H' : Hp) : Prop where
  keep : ∀ b o, b ≠ x → b ≠ a.dev → b ≠ a.cel → b ≠ a.run → H b = some o → H' b = some o
  tups : TupE H H'
  live : ∀ b, H b ≠ none → H' b ≠ none
  dev : a'.dev = a.dev
  cel : a'.cel = a.cel
  bg : a'.bg = a.bg
  run : a'.run = a.run ∨ H a'.run = none
theorem Chg.refl (x : Addr) (a : SAdr) (H : Hp) : Chg x a a H H := ⟨fun _ _ _ _ _ _ e => e, TupE.refl _, fun _ h => h, rfl, rfl, rfl, .inl rfl⟩
theorem Chg.of_same {x : Addr} {a : SAdr} {H H' : Hp} (s : Same H H') : Chg x a a H H' := ⟨fun _ _ _ _ _ _ e => s _ _ e, Same.tups s, fun b h z => h (Same.free s z), rfl, rfl, rfl, .inl rfl⟩
theorem Chg.trans {x : Addr} {a a1 a2 : SAdr} {H H1 H2 : Hp} (c : Chg x a a1 H H1) (c' : Chg x a1 a2 H1 H2) : Chg x a a2 H H2 := by
  refine ⟨fun b o h1 h2 h3 h4 e => c'.keep b o h1 (by rw [c.dev]; exact h2) (by rw [c.cel]; exact h3) (fun z => ?_) (c.keep b o h1 h2 h3 h4 e), c.tups.trans c'.tups, fun b h => c'.live b (c.live b h), c'.dev.trans c.dev, c'.cel.trans c.cel, c'.bg.trans c.bg, ?_⟩
  · rcases c.run with y | y
    · exact h4 (z.trans y)
    · rw [← z, e] at y; cases y
  · rcases c'.run with z | z
    · rw [z]; exact c.run
    · right
      cases e : H a2.run with
      | none => rfl
      | some o => exact absurd z (c.live _ (by rw [e]; exact fun q => by cases q))
theorem Chg.free {x : Addr} {a a' : SAdr} {H H' : Hp} {p : Addr} (c : Chg x a a' H H') (h : H' p = none) : H p = none := by
  cases e : H p with
  | none => rfl
  | some o => exact absurd h (c.live _ (by rw [e]; exact fun q => by cases q))
section
variable {P : Program} {w : World} {K : PySem.W.Frag} {mg : Str → Option Value} {base : Heap} {A : Adr}
/-! ## Store.used -/
def rLenS (K : PySem.W.Frag) : List V → Hp → VK → Prop := fun xs H Q => ∃ p ys, xs = [.ref p] ∧ (SqL K H p ys ∨ SqT K H p ys) ∧ Q (.int ys.length) H
def spUsed (A : Adr) : Sp := fun vs H Q _ => ∃ (x dx ga : Addr) (fs : List (Str × V)) (gs : List Grp), vs = [.ref x] ∧ H x = some (.ins A.c_Store dx fs) ∧ fs.lookup ("groups" : Str) = some (.ref ga) ∧ GrsV H ga gs ∧ gs.length ≤ 1000 ∧ ∀ H', Same H H' → Q (.int (usedN gs)) H'
theorem sc_used : FnScope ["self", "group", "slot", "changes"] ["self"] (defScope (inClass (top 40) 7)) := ⟨rfl, rfl, rfl, by decide +kernel, rfl, by decide +kernel, by decide +kernel⟩
theorem sum_nat : ∀ l : List Grp, (l.map fun g => (g.2.2.length : Int)).sum = (usedN l : Int)
  | [] => rfl
  | g :: l => by
    have := sum_nat l
    rw [List.map_cons, List.sum_cons, this]
    unfold usedN
    rw [List.map_cons, List.sum_cons]
    omega
theorem ok_Store_used (T : Txt K mg A) : FnOk P w K mg base CX0 1 A.a_Store_used A.d_Store_used ["self"] (spUsed A) := by
  refine T.m_Store_used.F.ok sc_used (fun vs H Q E h => ?_) (fun cdv A0 outer s H vs Q E hr h => ?_)
  · obtain ⟨x, dx, ga, fs, gs, rfl, _⟩ := h
    rfl
  · obtain ⟨x, dx, ga, fs, gs, rfl, hx, hf, ⟨xs, hg, hxs⟩, hl, k⟩ := h
    refine ⟨_, pss_one (ps_ret (pe_callB (cr_sum rfl) (by rfl) T.z_sum (by decide +kernel) (pa_cons (pe_lc (own := [("group", 1), ("slot", 2), ("changes", 3)]) (g := gTup K 3 (gCons (gName 1) (gCons (gName 2) (gCons (gName 3) gNil)))) (tt := tYes) (te := tCB (rLenS K) (tCons (tVar 3) tNil)) rfl sc_used.nd (pi_tup (pe_fld (pv 0) rfl))
        (blkOk_by (N := ["self", "group", "slot", "changes"]) (sc := defScope (inClass (top 40) 7)) (by decide +kernel))
        (fun _ _ _ _ _ => pg_tup rfl (pgs_cons (pg_name (i := 1) sc_used.nd rfl (Or.inl rfl)) (pgs_cons (pg_name (i := 2) sc_used.nd rfl (Or.inl rfl)) (pgs_cons (pg_name (i := 3) sc_used.nd rfl (Or.inl rfl)) pgs_nil))))
        (fun _ _ _ _ _ => pts_nil) (fun _ _ _ _ _ => pe_callB call_len_seq (by rfl) T.z_len PySem.boot_len (pa_cons (pv 3) pa_nil))) pa_nil))), ?_⟩
    refine ⟨_, rfl, x, A.c_Store, dx, _, _, rfl, hx, T.k_Store.c, T.n_Store_groups, hf, ga, rfl, ⟨_, SqT.of hg⟩, fun D nD => ?_⟩
    refine lc_tup (K := K) (a := ga) (xs := xs) (fun i H' => Same H H' ∧ H' D = some (.lst (((gs.take i).map fun g => (g.2.2.length : Int)).map V.int))) ⟨Same.new nD, upd_same⟩ (fun i H' _ q => SqT.of (q.1 _ _ hg)) ?_ ?_
    · rintro i y H' hi ⟨s1, hD⟩
      obtain ⟨g, hgi, b, c, rfl, hb, ys, hc, hys⟩ := hxs.at hi
      refine ⟨b, _, rfl, SqT.of (s1 _ _ hb), rfl, _, _, rfl, _, _, rfl, _, _, rfl, rfl, rfl, tYes_ok (iteT ⟨_, rfl, c, ys, rfl, .inr (SqT.of (s1 _ _ hc)), _, hD, ?_, Same.upd0 s1 nD, ?_⟩)⟩
      · rw [List.length_map, List.length_map, List.length_take]
        exact line_lt (by omega)
      · rw [upd_same, take_snoc hgi, hys.len]
        simp
    · rintro H' ⟨s1, hD⟩
      rw [hxs.len, List.take_length] at hD
      refine ⟨D, _, rfl, SqL.of hD, ?_⟩
      rw [sum_nat]
      exact k H' s1
/-! ## Store.disk, Store.home -/
def spDisk (A : Adr) : Sp := fun vs H Q _ => ∃ (x : Addr) (S : Sto) (a : SAdr), vs = [.ref x] ∧ StoreAt A H x S a ∧ ∀ f H', Same H H' → H f = none → DiskAt A H' f S.dev → Q (.ref f) H'
theorem sc_sdisk : FnScope ["self"] ["self"] (defScope (inClass (top 40) 1)) := ⟨rfl, rfl, rfl, by decide +kernel, rfl, by decide +kernel, by decide +kernel⟩
theorem ok_Store_disk (T : Txt K mg A) : FnOk P w K mg base CX0 5 A.a_Store_disk A.d_Store_disk ["self"] (spDisk A) := by
  refine T.m_Store_disk.F.ok sc_sdisk (fun vs H Q E h => ?_) (fun cdv A0 outer s H vs Q E hr h => ?_)
  · obtain ⟨x, S, a, rfl, _⟩ := h
    rfl
  · obtain ⟨x, S, a, rfl, h, k⟩ := h
    refine ⟨_, pss_one (ps_ret (pe_call (ok_disk_after T) hr rfl T.t_disk_after.g T.t_disk_after.F.kp T.t_disk_after.b .nil pass0 (pa_cons (pe_fld (pv 0) rfl) (pa_cons (pe_tup pa_nil) (pa_cons pe_int pa_nil))))), ?_⟩
    refine ⟨_, rfl, x, A.c_Store, a.dx, _, _, rfl, h.ins, T.k_Store.c, T.n_Store_device, SN_get3 .., Nat.zero_le _, fun p np => ?_⟩
    obtain ⟨H1, e1, s1, hp⟩ := newE (.tup []) np
    rw [e1]
    refine ⟨a.dev, p, S.dev, [], 0, rfl, h.dev.same s1, ⟨[], hp, AllV.nil⟩, Nat.le_refl _, fun x hx => (by cases hx), ?_, fun f H' s2 nf hf => k f H' (s1.trans s2) (Same.free s1 nf) hf⟩
    have := h.dev.lz
    simpa using this
def spHome (A : Adr) : Sp := fun vs H Q _ => ∃ (x : Addr) (S : Sto) (a : SAdr), vs = [.ref x] ∧ StoreAt A H x S a ∧ ∀ f H', Same H H' → H f = none → DictAt H' f S.plates S.cells → Q (.ref f) H'
theorem sc_shome : FnScope ["self"] ["self"] (defScope (inClass (top 40) 2)) := ⟨rfl, rfl, rfl, by decide +kernel, rfl, by decide +kernel, by decide +kernel⟩
theorem ok_Store_home (T : Txt K mg A) : FnOk P w K mg base CX0 1 A.a_Store_home A.d_Store_home ["self"] (spHome A) := by
  refine T.m_Store_home.F.ok sc_shome (fun vs H Q E h => ?_) (fun cdv A0 outer s H vs Q E hr h => ?_)
  · obtain ⟨x, S, a, rfl, _⟩ := h
    rfl
  · obtain ⟨x, S, a, rfl, h, k⟩ := h
    refine ⟨_, pss_one (ps_ret (pe_callTy call_dictD (by rfl) T.z_dict (by decide +kernel) (pa_cons (pe_fld (pv 0) rfl) pa_nil))), ?_⟩
    obtain ⟨kvs, hc, hk⟩ := h.cel
    refine ⟨_, rfl, x, A.c_Store, a.dx, _, _, rfl, h.ins, T.k_Store.c, T.n_Store_cells, SN_get7 .., a.cel, kvs, rfl, .inl hc, fun p np => ?_⟩
    obtain ⟨H1, e1, s1, hp⟩ := newE (.dK kvs) np
    rw [e1]
    exact k p H1 s1 np ⟨kvs, hp, hk.mono (Same.tups s1)⟩
end
end PG

set_option Elab.async false
set_option linter.all false
set_option autoImplicit false
set_option maxRecDepth 100000
set_option maxHeartbeats 4000000
namespace PG
open PySem L2
theorem Chg.but_dev {x : Addr} {a : SAdr} {H H' : Hp} (b : But a.dev H H') (t : TupE H H') (l : H' a.dev ≠ none) : Chg x a a H H' := by
  refine ⟨fun c o _ h _ _ e => b c o h e, t, fun c h z => ?_, rfl, rfl, rfl, .inl rfl⟩
  by_cases e : c = a.dev
  · subst e; exact l z
  · cases e2 : H c with
    | none => exact h e2
    | some o => rw [b c o e e2] at z; cases z
theorem Chg.but_x {x : Addr} {a a' : SAdr} {H H' : Hp} (b : But x H H') (t : TupE H H') (l : H' x ≠ none) (e1 : a'.dev = a.dev) (e2 : a'.cel = a.cel) (e3 : a'.bg = a.bg) (e4 : a'.run = a.run ∨ H a'.run = none) : Chg x a a' H H' := by
  refine ⟨fun c o h _ _ _ e => b c o h e, t, fun c h z => ?_, e1, e2, e3, e4⟩
  by_cases e : c = x
  · subst e; exact l z
  · cases e2 : H c with
    | none => exact h e2
    | some o => rw [b c o e e2] at z; cases z
section
variable {A : Adr} {H H1 H' : Hp} {x : Addr} {S S' : Sto} {a a' : SAdr}
/-- the disk of the store has changed, nothing else -/
theorem StoreAt.devd (h : StoreAt A H x S a) (b : But a.dev H H') {D : Dk} (hD : DiskAt A H' a.dev D) : H' x = some (.ins A.c_Store a.dx (SN.zip (svals S a))) ∧ DiskAt A H' a.bg S.beg ∧ TrV H' a.tr S.trace ∧ H' a.hd = some (.tup [.int S.hn, .int S.hf, .int S.ht]) ∧ GrsV H' a.gr S.groups ∧
    DictAt H' a.cel S.plates S.cells ∧ DictAt H' a.run S.plates S.run ∧ PusV H' a.pu S.pushed ∧ TupE H H' ∧ Chg x a a H H' := by
  have t : TupE H H' := b.tups h.dev.notTup
  exact ⟨b _ _ h.xd h.ins, h.bg.mono t fun o e => b _ _ h.nbd e, h.tr.mono t, t _ _ h.hd, h.gr.mono t, h.cel.mono t fun o e => b _ _ h.dc.symm e, h.run.mono t fun o e => b _ _ h.dr.symm e, h.pu.mono t, t, .but_dev b t hD.there⟩
/-- the store's record has changed -/
theorem StoreAt.xed (h : StoreAt A H x S a) (b : But x H H') : TupE H H' ∧ DiskAt A H' a.bg S.beg ∧ DiskAt A H' a.dev S.dev ∧ TrV H' a.tr S.trace ∧ H' a.hd = some (.tup [.int S.hn, .int S.hf, .int S.ht]) ∧ GrsV H' a.gr S.groups ∧
    DictAt H' a.cel S.plates S.cells ∧ DictAt H' a.run S.plates S.run ∧ PusV H' a.pu S.pushed := by
  have t : TupE H H' := b.tups h.notTup
  exact ⟨t, h.bg.mono t fun o e => b _ _ h.xb.symm e, h.dev.mono t fun o e => b _ _ h.xd.symm e, h.tr.mono t, t _ _ h.hd, h.gr.mono t, h.cel.mono t fun o e => b _ _ h.xc.symm e, h.run.mono t fun o e => b _ _ h.xr.symm e, h.pu.mono t⟩
end
theorem some_ne {α : Type} {o : Option α} {v : α} (h : o = some v) : o ≠ none := fun z => by rw [h] at z; cases z
section
variable {P : Program} {w : World} {K : PySem.W.Frag} {mg : Str → Option Value} {base : Heap} {A : Adr}
/-! ## Store.write, Store.barrier, Store.settle -/
def spSWrite (A : Adr) : Sp := fun vs H Q _ => ∃ (x : Addr) (S : Sto) (a : SAdr) (p : Int) (v : V) (ns : Pl), vs = [.ref x, .int p, v] ∧ StoreAt A H x S a ∧ PlV H v ns ∧ ns.length ≤ 1000 ∧ 0 ≤ p ∧ p < 2 + (S.slots : Int) + S.plates ∧ S.trace.length < 90000 ∧
  ∀ a' H', StoreAt A H' x (S.ev (.wr p ns)) a' → Chg x a a' H H' → Q .non H'
theorem sc_swrite : FnScope ["self", "plate", "value"] ["self", "plate", "value"] (defScope (inClass (top 40) 4)) := ⟨rfl, rfl, rfl, by decide +kernel, rfl, by decide +kernel, by decide +kernel⟩
theorem ok_Store_write (T : Txt K mg A) : FnOk P w K mg base CX0 4 A.a_Store_write A.d_Store_write ["self", "plate", "value"] (spSWrite A) := by
  refine T.m_Store_write.F.ok sc_swrite (fun vs H Q E h => ?_) (fun cdv A0 outer s H vs Q E hr h => ?_)
  · obtain ⟨x, S, a, p, v, ns, rfl, _⟩ := h
    rfl
  · obtain ⟨x, S, a, p, v, ns, rfl, h, hv, hn, p0, p1, hz, k⟩ := h
    refine ⟨_, pss_cons (ps_expr (pe_meth (pe_fld (pv 0) rfl) T.k_Disk.c T.m_Disk_write.M (ok_Disk_write T) hr T.m_Disk_write.b .nil pass0 (pa_cons (pv 1) (pa_cons (pv 2) pa_nil))))
      (pss_one (ps_fld (pv 0) (pe_tup (StX.pa_star (pe_fld (pv 0) rfl) (pa_cons (pe_tup (pa_cons pe_str (pa_cons (pv 1) (pa_cons (pv 2) pa_nil)))) pa_nil))) rfl)), ?_⟩
    have hwf := h.wf
    obtain ⟨⟨ddx, dsa, dla, hdv, _⟩, _⟩ := id h.dev
    refine ⟨_, rfl, x, A.c_Store, a.dx, _, _, rfl, h.ins, T.k_Store.c, T.n_Store_device, SN_get3 .., a.dev, ddx, _, rfl, hdv, DN_no _ _ (by decide +kernel), _, rfl, _, rfl, a.dev, S.dev, p, v, ns, rfl, h.dev, hv, p0, by rw [hwf.dl]; omega, by have := hwf.lz; omega, fun H1 hD1 b1 => ?_⟩
    obtain ⟨h1x, h1b, h1t, h1h, h1g, h1c, h1r, h1p, t1, c1⟩ := h.devd b1 hD1
    obtain ⟨es, ht, hes⟩ := h1t
    refine ⟨_, rfl, x, A.c_Store, a.dx, _, _, rfl, h1x, T.k_Store.c, T.n_Store_trace, SN_get4 .., a.tr, es, rfl, .inl (SqT.of ht), _, rfl, _, rfl, line1000 (by show 3 ≤ 1000000; decide), fun t nt => ?_⟩
    obtain ⟨H2, e2, s2, ht2⟩ := newE (.tup [V.str "write", V.int p, v]) nt
    rw [e2]
    refine ⟨line1000 (by rw [List.length_append, hes.len]; show S.trace.length + 1 ≤ 1000000; omega), fun q nq => ?_⟩
    obtain ⟨H3, e3, s3, hq⟩ := newE (.tup (es ++ [V.ref t])) nq
    rw [e3]
    have s13 := s2.trans s3
    refine ⟨_, rfl, x, A.c_Store, a.dx, _, rfl, s13 _ _ h1x, T.k_Store.c, T.n_Store_trace, (by show 15 < 1000; decide), ?_⟩
    rw [show putF "trace" (V.ref q) (SN.zip (svals S a)) = SN.zip (svals (S.ev (.wr p ns)) { a with tr := q }) from SN_set4 ..]
    obtain ⟨H4, e4, b4, hx4⟩ := chgE (H := H3) (d := x) (.ins A.c_Store a.dx (SN.zip (svals (S.ev (.wr p ns)) { a with tr := q })))
    rw [e4]
    have h3x := s13 _ _ h1x
    have t4 : TupE H3 H4 := b4.ins h3x
    have t14 := (Same.tups s13).trans t4
    have t04 := t1.trans t14
    have nx : ∀ {d : Addr} {D : Dk}, DiskAt A H1 d D → DiskAt A H4 d D := fun {d D} hd => (hd.same s13).mono t4 fun o e => b4 _ _ (fun z => ins_ne_disk h1x hd (by rw [List.length_zip]; show min 15 15 ≠ 2; decide) z.symm) e
    have ny : ∀ {d : Addr} {n : Nat} {M : DM}, DictAt H1 d n M → DictAt H4 d n M := fun {d n M} hd => (hd.same s13).mono t4 fun o e => b4 _ _ (fun z => ins_ne_dict h1x hd z.symm) e
    refine k { a with tr := q } H4 ⟨hx4, nx h1b, nx hD1, ⟨_, t4 _ _ hq, (hes.mono fun _ _ z => z.mono t14).snoc ⟨t, v, rfl, t4 _ _ (s3 _ _ ht2), hv.mono t04⟩⟩, t14 _ _ h1h, h1g.mono t14, ny h1c, ny h1r, h1p.mono t14, h.ncr, h.nbd, hwf.ev hn⟩ ?_
    exact c1.trans ((Chg.of_same s13).trans (.but_x b4 t4 (some_ne hx4) rfl rfl rfl (.inl rfl)))
def spSBar (A : Adr) : Sp := fun vs H Q _ => ∃ (x : Addr) (S : Sto) (a : SAdr), vs = [.ref x] ∧ StoreAt A H x S a ∧ S.trace.length < 90000 ∧ ∀ a' H', StoreAt A H' x (S.ev .bar) a' → Chg x a a' H H' → Q .non H'
theorem sc_sbar : FnScope ["self"] ["self"] (defScope (inClass (top 40) 5)) := ⟨rfl, rfl, rfl, by decide +kernel, rfl, by decide +kernel, by decide +kernel⟩
theorem ok_Store_barrier (T : Txt K mg A) : FnOk P w K mg base CX0 3 A.a_Store_barrier A.d_Store_barrier ["self"] (spSBar A) := by
  refine T.m_Store_barrier.F.ok sc_sbar (fun vs H Q E h => ?_) (fun cdv A0 outer s H vs Q E hr h => ?_)
  · obtain ⟨x, S, a, rfl, _⟩ := h
    rfl
  · obtain ⟨x, S, a, rfl, h, hz, k⟩ := h
    refine ⟨_, pss_cons (ps_expr (pe_meth0 (pe_fld (pv 0) rfl) T.k_Disk.c T.m_Disk_barrier.M (ok_Disk_barrier T) hr T.m_Disk_barrier.b .nil pass0))
      (pss_one (ps_fld (pv 0) (pe_tup (StX.pa_star (pe_fld (pv 0) rfl) (pa_cons (pe_tup (pa_cons pe_str pa_nil)) pa_nil))) rfl)), ?_⟩
    have hwf := h.wf
    obtain ⟨⟨ddx, dsa, dla, hdv, _⟩, _⟩ := id h.dev
    refine ⟨_, rfl, x, A.c_Store, a.dx, _, _, rfl, h.ins, T.k_Store.c, T.n_Store_device, SN_get3 .., a.dev, ddx, _, rfl, hdv, DN_no _ _ (by decide +kernel), a.dev, S.dev, rfl, h.dev, fun H1 hD1 b1 => ?_⟩
    obtain ⟨h1x, h1b, h1t, h1h, h1g, h1c, h1r, h1p, t1, c1⟩ := h.devd b1 hD1
    obtain ⟨es, ht, hes⟩ := h1t
    refine ⟨_, rfl, x, A.c_Store, a.dx, _, _, rfl, h1x, T.k_Store.c, T.n_Store_trace, SN_get4 .., a.tr, es, rfl, .inl (SqT.of ht), line1000 (by show 1 ≤ 1000000; decide), fun t nt => ?_⟩
    obtain ⟨H2, e2, s2, ht2⟩ := newE (.tup [V.str "barrier"]) nt
    rw [e2]
    refine ⟨line1000 (by rw [List.length_append, hes.len]; show S.trace.length + 1 ≤ 1000000; omega), fun q nq => ?_⟩
    obtain ⟨H3, e3, s3, hq⟩ := newE (.tup (es ++ [V.ref t])) nq
    rw [e3]
    have s13 := s2.trans s3
    refine ⟨_, rfl, x, A.c_Store, a.dx, _, rfl, s13 _ _ h1x, T.k_Store.c, T.n_Store_trace, (by show 15 < 1000; decide), ?_⟩
    rw [show putF "trace" (V.ref q) (SN.zip (svals S a)) = SN.zip (svals (S.ev .bar) { a with tr := q }) from SN_set4 ..]
    obtain ⟨H4, e4, b4, hx4⟩ := chgE (H := H3) (d := x) (.ins A.c_Store a.dx (SN.zip (svals (S.ev .bar) { a with tr := q })))
    rw [e4]
    have h3x := s13 _ _ h1x
    have t4 : TupE H3 H4 := b4.ins h3x
    have t14 := (Same.tups s13).trans t4
    have t04 := t1.trans t14
    have nx : ∀ {d : Addr} {D : Dk}, DiskAt A H1 d D → DiskAt A H4 d D := fun {d D} hd => (hd.same s13).mono t4 fun o e => b4 _ _ (fun z => ins_ne_disk h1x hd (by rw [List.length_zip]; show min 15 15 ≠ 2; decide) z.symm) e
    have ny : ∀ {d : Addr} {n : Nat} {M : DM}, DictAt H1 d n M → DictAt H4 d n M := fun {d n M} hd => (hd.same s13).mono t4 fun o e => b4 _ _ (fun z => ins_ne_dict h1x hd z.symm) e
    refine k { a with tr := q } H4 ⟨hx4, nx h1b, nx hD1, ⟨_, t4 _ _ hq, (hes.mono fun _ _ z => z.mono t14).snoc ⟨t, rfl, t4 _ _ (s3 _ _ ht2)⟩⟩, t14 _ _ h1h, h1g.mono t14, ny h1c, ny h1r, h1p.mono t14, h.ncr, h.nbd, hwf.ev trivial⟩ ?_
    exact c1.trans ((Chg.of_same s13).trans (.but_x b4 t4 (some_ne hx4) rfl rfl rfl (.inl rfl)))
def spSettle (A : Adr) : Sp := fun vs H Q _ => ∃ (x : Addr) (S : Sto) (a : SAdr), vs = [.ref x] ∧ StoreAt A H x S a ∧ S.trace.length < 90000 ∧ ∀ a' H', StoreAt A H' x (settleS S) a' → Chg x a a' H H' → Q .non H'
theorem sc_settle : FnScope ["self"] ["self"] (defScope (inClass (top 40) 9)) := ⟨rfl, rfl, rfl, by decide +kernel, rfl, by decide +kernel, by decide +kernel⟩
theorem ok_Store_settle (T : Txt K mg A) : FnOk P w K mg base CX0 4 A.a_Store_settle A.d_Store_settle ["self"] (spSettle A) := by
  refine T.m_Store_settle.F.ok sc_settle (fun vs H Q E h => ?_) (fun cdv A0 outer s H vs Q E hr h => ?_)
  · obtain ⟨x, S, a, rfl, _⟩ := h
    rfl
  · obtain ⟨x, S, a, rfl, h, hz, k⟩ := h
    refine ⟨_, pss_cons (ps_expr (pe_meth0 (pv 0) T.k_Store.c T.m_Store_barrier.M (ok_Store_barrier T) hr T.m_Store_barrier.b .nil pass0))
      (pss_one (ps_fld (pv 0) (pe_op op_sub (pe_fld (pv 0) rfl) (pe_fld (pv 0) rfl)) rfl)), ?_⟩
    refine ⟨_, rfl, x, a.dx, _, rfl, h.ins, SN_no (by decide +kernel), x, S, a, rfl, h, hz, fun a1 H1 h1 c1 => ?_⟩
    refine ⟨_, rfl, x, A.c_Store, a1.dx, _, _, rfl, h1.ins, T.k_Store.c, T.n_Store_deeds, SN_get13 .., _, rfl, x, A.c_Store, a1.dx, _, _, rfl, h1.ins, T.k_Store.c, T.n_Store_running_deeds, SN_get11 .., _, _, rfl, rfl, ?_⟩
    refine ⟨_, rfl, x, A.c_Store, a1.dx, _, rfl, h1.ins, T.k_Store.c, T.n_Store_settled_deeds, (by show 15 < 1000; decide), ?_⟩
    have hr := h.wf.rle
    have e0 : ((S.ev .bar).deeds : Int) - ((S.ev .bar).rund : Int) = ((S.deeds - S.rund : Nat) : Int) := by
      show (S.deeds : Int) - (S.rund : Int) = _
      omega
    rw [show putF "settled_deeds" ((fun i j : Int => V.int (i - j)) ((S.ev .bar).deeds : Int) ((S.ev .bar).rund : Int)) (SN.zip (svals (S.ev .bar) a1)) = SN.zip (svals (settleS S) a1) from (congrArg (fun z => putF "settled_deeds" (V.int z) (SN.zip (svals (S.ev .bar) a1))) e0).trans (SN_set14 ..)]
    obtain ⟨H2, e2, b2, hx2⟩ := chgE (H := H1) (d := x) (.ins A.c_Store a1.dx (SN.zip (svals (settleS S) a1)))
    rw [e2]
    obtain ⟨t, q1, q2, q3, q4, q5, q6, q7, q8⟩ := h1.xed b2
    have hw := h1.wf
    exact k a1 H2 ⟨hx2, q1, q2, q3, q4, q5, q6, q7, q8, h1.ncr, h1.nbd, ⟨hw.s0, hw.s1, hw.p1, hw.dl, hw.gs, hw.rok, hw.sh, hw.lz, hw.rle, hw.gl⟩⟩ (c1.trans (.but_x b2 t (some_ne hx2) rfl rfl rfl (.inl rfl)))
end
end PG

set_option Elab.async false
set_option linter.all false
set_option autoImplicit false
set_option maxRecDepth 100000
set_option maxHeartbeats 4000000
namespace PG
open PySem L2
theorem asc_eq : ∀ {l m : List Int}, l.Pairwise (· < ·) → m.Pairwise (· < ·) → (∀ x, x ∈ l ↔ x ∈ m) → l = m
  | [], [], _, _, _ => rfl
  | [], y :: m, _, _, h => by have := (h y).mpr List.mem_cons_self; cases this
  | x :: l, [], _, _, h => by have := (h x).mp List.mem_cons_self; cases this
  | x :: l, y :: m, hl, hm, h => by
    obtain ⟨l1, l2⟩ := List.pairwise_cons.mp hl
    obtain ⟨m1, m2⟩ := List.pairwise_cons.mp hm
    have e : x = y := by
      rcases List.mem_cons.mp ((h x).mp List.mem_cons_self) with z | z
      · exact z
      · rcases List.mem_cons.mp ((h y).mpr List.mem_cons_self) with z' | z'
        · exact z'.symm
        · have := m1 x z
          have := l1 y z'
          omega
    subst e
    rw [asc_eq l2 m2 fun z => ?_]
    constructor
    · intro hz
      rcases List.mem_cons.mp ((h z).mp (List.mem_cons_of_mem _ hz)) with q | q
      · subst q; have := l1 z hz; omega
      · exact q
    · intro hz
      rcases List.mem_cons.mp ((h z).mpr (List.mem_cons_of_mem _ hz)) with q | q
      · subst q; have := m1 z hz; omega
      · exact q
theorem asc_of {l : List Int} (h : l.Pairwise (· ≤ ·)) (hn : l.Nodup) : l.Pairwise (· < ·) := (h.and hn).imp fun {a b} z => by
  have := z.1
  have h2 : a ≠ b := z.2
  omega
/-- the keys, sorted -/
theorem keys_sorted {M : DM} {n : Nat} {ks ks' : List Int} (hn : ks.Nodup) (hp : ks'.Perm ks) (hs : ks'.Pairwise (· ≤ ·)) (hm : ∀ p, p ∈ ks ↔ (M p).isSome = true) (hr : ∀ p ∈ ks, 0 ≤ p ∧ p < n) : ks' = keysOf M n := by
  refine asc_eq (asc_of hs (hp.nodup_iff.mpr hn)) (keysOf_asc M n) fun x => ?_
  rw [hp.mem_iff, mem_keysOf, hm]
  constructor
  · intro h
    have := hr x ((hm x).mpr h)
    exact ⟨this.1, this.2, h⟩
  · exact fun h => h.2.2
theorem evs_snoc (S : Sto) (l : List Ev) (e : Ev) : S.evs (l ++ [e]) = (S.evs l).ev e := by
  unfold Sto.evs
  rw [List.foldl_append]
  rfl
theorem evs_len (S : Sto) (l : List Ev) : (S.evs l).trace.length = S.trace.length + l.length := by rw [evs_eq]; show (S.trace ++ l).length = _; rw [List.length_append]
theorem homeEvs_keys (slots plates : Nat) (M : DM) : homeEvs slots plates M = (keysOf M plates).map fun p => .wr (homeP slots p) ((M p).getD []) := by
  unfold homeEvs chg
  rw [List.map_map]
  rfl
section
variable {P : Program} {w : World} {K : PySem.W.Frag} {mg : Str → Option Value} {base : Heap} {A : Adr}
/-! ## Store.write_home -/
def spWHome (A : Adr) : Sp := fun vs H Q _ => ∃ (x : Addr) (S : Sto) (a : SAdr), vs = [.ref x] ∧ StoreAt A H x S a ∧ S.trace.length < 85000 ∧ ∀ a' H', StoreAt A H' x (writeHomeS S) a' → Chg x a a' H H' → Q .non H'
theorem sc_whome : FnScope ["self", "found", "plate"] ["self"] (defScope (inClass (top 40) 12)) := ⟨rfl, rfl, rfl, by decide +kernel, rfl, by decide +kernel, by decide +kernel⟩
theorem ok_Store_write_home (T : Txt K mg A) : FnOk P w K mg base CX0 5 A.a_Store_write_home A.d_Store_write_home ["self"] (spWHome A) := by
  refine T.m_Store_write_home.F.ok sc_whome (fun vs H Q E h => ?_) (fun cdv A0 outer s H vs Q E hr h => ?_)
  · obtain ⟨x, S, a, rfl, _⟩ := h
    rfl
  · obtain ⟨x, S, a, rfl, h, hz, k⟩ := h
    refine ⟨_, pss_cons (ps_set (i := 1) sc_whome.nd rfl (Or.inl rfl) (pe_call (ok_merged T) (hr.mono (by decide)) rfl T.t_merged.g T.t_merged.F.kp T.t_merged.b .nil pass0 (pa_cons (pe_fld (pv 0) rfl) pa_nil)))
      (pss_cons (ps_for PassesOwn.never rfl (pi_list (pe_callB cr_sortedI (by rfl) T.z_sorted (by decide +kernel) (pa_cons (pe_callTy (call_list_dK rfl) (by rfl) T.z_list (by decide +kernel) (pa_cons (pv 1) pa_nil)) pa_nil))) (pg_name (i := 2) sc_whome.nd rfl (Or.inl rfl))
        (pss_one (ps_if (pt_cmpR op_lt (pv 2) (pe_fld (pv 0) rfl) (nomark _))
          (pss_one (ps_expr (pe_meth (pv 0) T.k_Store.c T.m_Store_write.M (ok_Store_write T) hr T.m_Store_write.b .nil pass0 (pa_cons (pe_call (ok_home_plate T) (hr.mono (by decide)) rfl T.t_home_plate.g T.t_home_plate.F.kp T.t_home_plate.b .nil pass0 (pa_cons (pe_fld (pv 0) rfl) (pa_cons (pv 2) pa_nil))) (pa_cons (pe_dget (hu_of hr) (pv 1) (pv 2) (fun _ _ => rfl)) pa_nil))))) pss_nil)))
      (pss_one (ps_expr (pe_meth0 (pv 0) T.k_Store.c T.m_Store_barrier.M (ok_Store_barrier T) (hr.mono (by decide)) T.m_Store_barrier.b .nil pass0)))), ?_⟩
    have hwf := h.wf
    refine ⟨_, rfl, x, A.c_Store, a.dx, _, _, rfl, h.ins, T.k_Store.c, T.n_Store_groups, SN_get6 .., a.gr, S.groups, S.plates, rfl, h.gr, hwf.gs, by have := hwf.p1; omega, fun m H1 s1 nm hm => ?_⟩
    have hm0 := hm
    obtain ⟨kvs, hmd, hkv⟩ := hm
    obtain ⟨ks, ks1, ks2, ks3, ks4⟩ := hkv.keys
    refine ⟨_, rfl, m, kvs, rfl, hmd, fun l nl => ?_⟩
    have ek : (kvs.map fun kv => kV kv.1) = ks.map V.int := by
      have : (kvs.map fun kv => kV kv.1) = (kvs.map (·.1)).map kV := by rw [List.map_map]; rfl
      rw [this, ks1, List.map_map]
      rfl
    rw [ek]
    obtain ⟨H2, e2, s2, hl⟩ := newE (.lst (ks.map V.int)) nl
    rw [e2]
    refine ⟨l, ks, rfl, SqL.of hl, fun ks' q hperm hsort nq => ?_⟩
    have hk' := keys_sorted ks2 hperm hsort ks3 ks4
    subst hk'
    obtain ⟨H3, e3, s3, hq⟩ := newE (.lst ((keysOf (PG.mg S.groups) S.plates).map V.int)) nq
    rw [e3]
    have s13 := s1.trans (s2.trans s3)
    have h3 := h.same s13
    have nq0 : H q = none := Same.free (s1.trans s2) nq
    have mnx : m ≠ x := fun z => h.there (z ▸ nm)
    have mnd : m ≠ a.dev := fun z => h.dev.there (z ▸ nm)
    have mnc : m ≠ a.cel := fun z => h.cel.there (z ▸ nm)
    have mnr : m ≠ a.run := fun z => h.run.there (z ▸ nm)
    have qnx : q ≠ x := fun z => h.there (z ▸ nq0)
    have qnd : q ≠ a.dev := fun z => h.dev.there (z ▸ nq0)
    have qnc : q ≠ a.cel := fun z => h.cel.there (z ▸ nq0)
    have qnr : q ≠ a.run := fun z => h.run.there (z ▸ nq0)
    refine ⟨q, rfl, ⟨_, SqL.of hq⟩, for_list (K := K) (a := q) (xs := (keysOf (PG.mg S.groups) S.plates).map V.int) (fun i σ H' => ∃ (v2 : Option V) (a' : SAdr), σ = [some (.ref x), some (.ref m), v2] ∧
      StoreAt A H' x (S.evs (((keysOf (PG.mg S.groups) S.plates).take i).map fun p => .wr (homeP S.slots p) ((PG.mg S.groups p).getD []))) a' ∧ Chg x a a' H3 H')
      ⟨none, a, rfl, h3, Chg.refl _ _ _⟩ (fun i σ H' _ ⟨_, _, _, _, c⟩ => SqL.of (c.keep _ _ qnx qnd qnc qnr hq)) ?_ ?_⟩
    · rintro i y σ H' hi ⟨v2, a', rfl, h4, c4⟩
      obtain ⟨p, hp, rfl⟩ := ints_get hi
      obtain ⟨p0, p1, p2⟩ := mem_keysOf.mp (List.mem_of_getElem? hp)
      obtain ⟨ns, hns⟩ := Option.isSome_iff_exists.mp p2
      have hn8 := (mg_ok hwf.gs hns).2.2
      generalize hS4 : S.evs (((keysOf (PG.mg S.groups) S.plates).take i).map fun p => .wr (homeP S.slots p) ((PG.mg S.groups p).getD [])) = S4 at h4
      have e4p : S4.plates = S.plates := by rw [← hS4, evs_eq]
      have e4s : S4.slots = S.slots := by rw [← hS4, evs_eq]
      have e4t : S4.trace.length ≤ S.trace.length + 50 := by
        rw [← hS4, evs_len]
        have := keysOf_le (PG.mg S.groups) S.plates
        have h50 := hwf.p1
        rw [List.length_map, List.length_take]
        omega
      refine ⟨_, rfl, _, rfl, x, A.c_Store, a'.dx, _, _, rfl, h4.ins, T.k_Store.c, T.n_Store_plates, SN_get0 .., _, _, rfl, rfl, _, rfl, ?_⟩
      rw [decide_eq_true (show p < (S4.plates : Int) by rw [e4p]; exact p1)]
      have hm4 : DictAt H' m S.plates (PG.mg S.groups) := ((hm0.same (s2.trans s3)).mono c4.tups fun o e => c4.keep _ _ mnx mnd mnc mnr e)
      obtain ⟨v, hg, hv⟩ := hm4.get hns
      refine iteT ⟨_, rfl, x, a'.dx, _, rfl, h4.ins, SN_no (by decide +kernel), _, rfl, x, A.c_Store, a'.dx, _, _, rfl, h4.ins, T.k_Store.c, T.n_Store_slots, SN_get1 .., _, rfl, S4.slots, p, rfl, _, rfl, _, rfl, m, v, rfl, hg, x, S4, a', homeP S4.slots p, v, ns, rfl, h4, hv, by omega, ?_, ?_, by omega, fun a5 H5 h5 c5 => ?_⟩
      · unfold homeP; omega
      · unfold homeP; rw [e4p]; omega
      · refine ⟨_, a5, rfl, ?_, c4.trans c5⟩
        rw [take_snoc hp, List.map_append]
        show StoreAt A H5 x (S.evs (_ ++ [_])) a5
        rw [evs_snoc, hS4]
        show StoreAt A H5 x (S4.ev (.wr (homeP S.slots p) ((PG.mg S.groups p).getD []))) a5
        rw [hns, ← e4s]
        exact h5
    · rintro σ H' ⟨v2, a', rfl, h4, c4⟩
      rw [List.length_map, List.take_length, ← homeEvs_keys] at h4
      refine ⟨_, rfl, x, a'.dx, _, rfl, h4.ins, SN_no (by decide +kernel), x, _, a', rfl, h4, ?_, fun a5 H5 h5 c5 => k a5 H5 h5 (((Chg.of_same s13).trans c4).trans c5)⟩
      rw [evs_len]
      unfold homeEvs chg
      have := keysOf_le (PG.mg S.groups) S.plates
      have h50 := hwf.p1
      rw [List.length_map, List.length_map]
      omega
/-! ## Store.turn_head -/
def spTurn (A : Adr) : Sp := fun vs H Q _ => ∃ (x : Addr) (S : Sto) (a : SAdr), vs = [.ref x] ∧ StoreAt A H x S a ∧ S.trace.length < 85000 ∧ ∀ a' H', StoreAt A H' x (turnHeadS S) a' → Chg x a a' H H' → Q .non H'
theorem sc_turn : FnScope ["self"] ["self"] (defScope (inClass (top 40) 13)) := ⟨rfl, rfl, rfl, by decide +kernel, rfl, by decide +kernel, by decide +kernel⟩
theorem ok_Store_turn_head (T : Txt K mg A) : FnOk P w K mg base CX0 5 A.a_Store_turn_head A.d_Store_turn_head ["self"] (spTurn A) := by
  refine T.m_Store_turn_head.F.ok sc_turn (fun vs H Q E h => ?_) (fun cdv A0 outer s H vs Q E hr h => ?_)
  · obtain ⟨x, S, a, rfl, _⟩ := h
    rfl
  · obtain ⟨x, S, a, rfl, h, hz, k⟩ := h
    refine ⟨_, pss_cons (ps_fld (pv 0) (pe_tup (pa_cons (pe_op op_add (pe_ix ix_tup (pe_fld (pv 0) rfl) pe_int (fun _ _ => rfl)) pe_int) (pa_cons (pe_fld (pv 0) rfl) (pa_cons (pe_fld (pv 0) rfl) pa_nil)))) rfl)
      (pss_cons (ps_expr (pe_meth (pv 0) T.k_Store.c T.m_Store_write.M (ok_Store_write T) hr T.m_Store_write.b .nil pass0 (pa_cons (pe_call (ok_head_plate T) (hr.mono (by decide)) rfl T.t_head_plate.g T.t_head_plate.F.kp T.t_head_plate.b .nil pass0 (pa_cons (pe_ix ix_tup (pe_fld (pv 0) rfl) pe_int (fun _ _ => rfl)) pa_nil)) (pa_cons (pe_fld (pv 0) rfl) pa_nil))))
      (pss_cons (ps_expr (pe_meth0 (pv 0) T.k_Store.c T.m_Store_barrier.M (ok_Store_barrier T) (hr.mono (by decide)) T.m_Store_barrier.b .nil pass0))
      (pss_one (ps_fld (pv 0) (pe_tup pa_nil) rfl)))), ?_⟩
    have hwf := h.wf
    refine ⟨_, rfl, x, A.c_Store, a.dx, _, _, rfl, h.ins, T.k_Store.c, T.n_Store_head, SN_get5 .., a.hd, _, 0, _, rfl, rfl, SqT.of h.hd, atI_of (i := 0) rfl rfl, _, _, rfl, rfl, _, rfl, x, A.c_Store, a.dx, _, _, rfl, h.ins, T.k_Store.c, T.n_Store_next_group, SN_get8 .., _, rfl, x, A.c_Store, a.dx, _, _, rfl, h.ins, T.k_Store.c, T.n_Store_next_slot, SN_get9 .., line1000 (by show 3 ≤ 1000000; decide), fun t nt => ?_⟩
    obtain ⟨H1, e1, s1, ht⟩ := newE (.tup [V.int (S.hn + 1), V.int S.ng, V.int S.nt]) nt
    rw [show upd H t _ = H1 from e1]
    have h1 := h.same s1
    refine ⟨_, rfl, x, A.c_Store, a.dx, _, rfl, h1.ins, T.k_Store.c, T.n_Store_head, (by show 15 < 1000; decide), ?_⟩
    rw [show putF "head" (V.ref t) (SN.zip (svals S a)) = SN.zip (svals { S with hn := S.hn + 1, hf := S.ng, ht := S.nt } { a with hd := t }) from SN_set5 ..]
    obtain ⟨H2, e2, b2, hx2⟩ := chgE (H := H1) (d := x) (.ins A.c_Store a.dx (SN.zip (svals { S with hn := S.hn + 1, hf := S.ng, ht := S.nt } { a with hd := t })))
    rw [e2]
    obtain ⟨t2, q1, q2, q3, q4, q5, q6, q7, q8⟩ := h1.xed b2
    have h2 : StoreAt A H2 x { S with hn := S.hn + 1, hf := S.ng, ht := S.nt } { a with hd := t } := ⟨hx2, q1, q2, q3, t2 _ _ ht, q5, q6, q7, q8, h.ncr, h.nbd, ⟨hwf.s0, hwf.s1, hwf.p1, hwf.dl, hwf.gs, hwf.rok, hwf.sh, hwf.lz, hwf.rle, hwf.gl⟩⟩
    have c2 : Chg x a { a with hd := t } H H2 := (Chg.of_same s1).trans (.but_x b2 t2 (some_ne hx2) rfl rfl rfl (.inl rfl))
    refine ⟨_, rfl, x, a.dx, _, rfl, hx2, SN_no (by decide +kernel), _, rfl, x, A.c_Store, a.dx, _, _, rfl, hx2, T.k_Store.c, T.n_Store_head, SN_get5 .., t, _, 0, _, rfl, rfl, SqT.of (t2 _ _ ht), atI_of (i := 0) rfl rfl, S.hn + 1, rfl, _, rfl, x, A.c_Store, a.dx, _, _, rfl, hx2, T.k_Store.c, T.n_Store_head, SN_get5 ..,
      x, _, _, (S.hn + 1) % 2, .ref t, [S.hn + 1, S.ng, S.nt], rfl, h2, ⟨t, rfl, t2 _ _ ht⟩, by show 3 ≤ 1000; decide, by omega, by have := hwf.s0; show (S.hn + 1) % 2 < 2 + (S.slots : Int) + S.plates; omega, by show S.trace.length < 90000; omega, fun a3 H3 h3 c3 => ?_⟩
    refine ⟨_, rfl, x, a3.dx, _, rfl, h3.ins, SN_no (by decide +kernel), x, _, a3, rfl, h3, by show (S.trace ++ [_]).length < 90000; rw [List.length_append]; show S.trace.length + 1 < 90000; omega, fun a4 H4 h4 c4 => ?_⟩
    refine ⟨Nat.zero_le _, fun r nr => ?_⟩
    obtain ⟨H5, e5, s5, hr5⟩ := newE (.tup []) nr
    rw [e5]
    have h5 := h4.same s5
    refine ⟨_, rfl, x, A.c_Store, a4.dx, _, rfl, h5.ins, T.k_Store.c, T.n_Store_groups, (by show 15 < 1000; decide), ?_⟩
    rw [show putF "groups" (V.ref r) (SN.zip (svals (Sto.ev (Sto.ev { S with hn := S.hn + 1, hf := S.ng, ht := S.nt } (.wr ((S.hn + 1) % 2) [S.hn + 1, S.ng, S.nt])) .bar) a4)) = SN.zip (svals (turnHeadS S) { a4 with gr := r }) from SN_set6 ..]
    obtain ⟨H6, e6, b6, hx6⟩ := chgE (H := H5) (d := x) (.ins A.c_Store a4.dx (SN.zip (svals (turnHeadS S) { a4 with gr := r })))
    rw [e6]
    obtain ⟨t6, r1, r2, r3, r4, r5, r6, r7, r8⟩ := h5.xed b6
    have w5 := h5.wf
    refine k { a4 with gr := r } H6 ⟨hx6, r1, r2, r3, r4, ⟨[], t6 _ _ hr5, AllV.nil⟩, r6, r7, r8, h5.ncr, h5.nbd, ⟨w5.s0, w5.s1, w5.p1, w5.dl, fun g hg => (by cases hg), w5.rok, w5.sh, w5.lz, w5.rle, Nat.zero_le _⟩⟩ ?_
    exact (c2.trans (c3.trans c4)).trans ((Chg.of_same s5).trans (.but_x b6 t6 (some_ne hx6) rfl rfl rfl (.inl rfl)))
/-! ## Store.lay -/
def spLay (A : Adr) : Sp := fun vs H Q _ => ∃ (x : Addr) (S : Sto) (a : SAdr), vs = [.ref x] ∧ StoreAt A H x S a ∧ S.trace.length < 80000 ∧ ∀ a' H', StoreAt A H' x (layS S) a' → Chg x a a' H H' → Q .non H'
theorem sc_lay : FnScope ["self"] ["self"] (defScope (inClass (top 40) 11)) := ⟨rfl, rfl, rfl, by decide +kernel, rfl, by decide +kernel, by decide +kernel⟩
theorem ok_Store_lay (T : Txt K mg A) : FnOk P w K mg base CX0 6 A.a_Store_lay A.d_Store_lay ["self"] (spLay A) := by
  refine T.m_Store_lay.F.ok sc_lay (fun vs H Q E h => ?_) (fun cdv A0 outer s H vs Q E hr h => ?_)
  · obtain ⟨x, S, a, rfl, _⟩ := h
    rfl
  · obtain ⟨x, S, a, rfl, h, hz, k⟩ := h
    refine ⟨_, pss_cons (ps_if (pt_cmpR (op_eqD hr.units) (pe_fld (pv 0) rfl) (pe_tup pa_nil) (nomark _)) (pss_one ps_retN) pss_nil)
      (pss_cons (ps_expr (pe_meth0 (pv 0) T.k_Store.c T.m_Store_settle.M (ok_Store_settle T) (hr.mono (by decide)) T.m_Store_settle.b .nil pass0))
      (pss_cons (ps_expr (pe_meth0 (pv 0) T.k_Store.c T.m_Store_write_home.M (ok_Store_write_home T) hr T.m_Store_write_home.b .nil pass0))
      (pss_one (ps_expr (pe_meth0 (pv 0) T.k_Store.c T.m_Store_turn_head.M (ok_Store_turn_head T) hr T.m_Store_turn_head.b .nil pass0))))), ?_⟩
    have hwf := h.wf
    obtain ⟨xs, hg, hxs⟩ := h.gr
    refine ⟨_, rfl, x, A.c_Store, a.dx, _, _, rfl, h.ins, T.k_Store.c, T.n_Store_groups, SN_get6 .., Nat.zero_le _, fun r nr => ?_⟩
    obtain ⟨H1, e1, s1, hr1⟩ := newE (.tup []) nr
    rw [e1]
    refine ⟨_, .tuple [], .tup (SqT.of (s1 _ _ hg)) (dpAllV (fun _ _ z => dpGrp z) (hxs.mono fun _ _ z => z.mono (Same.tups s1))), .tup (SqT.of hr1) .nil, (flat_tup (flat_map flat_grp _)).shaped, rfl, _, rfl, ?_⟩
    rw [eqv_tup0]
    have h1 := h.same s1
    by_cases hge : S.groups = []
    · rw [decide_eq_true hge]
      have e : layS S = S := by unfold layS; rw [if_pos hge]
      exact iteT (k a H1 (by rw [e]; exact h1) (Chg.of_same s1))
    · rw [decide_eq_false hge]
      have e : layS S = turnHeadS (writeHomeS (settleS S)) := by unfold layS; rw [if_neg hge]
      refine iteF ⟨_, rfl, x, a.dx, _, rfl, h1.ins, SN_no (by decide +kernel), x, S, a, rfl, h1, by omega, fun a2 H2 h2 c2 => ?_⟩
      refine ⟨_, rfl, x, a2.dx, _, rfl, h2.ins, SN_no (by decide +kernel), x, _, a2, rfl, h2, ?_, fun a3 H3 h3 c3 => ?_⟩
      · show (S.trace ++ [_]).length < 85000
        rw [List.length_append]
        show S.trace.length + 1 < 85000
        omega
      refine ⟨_, rfl, x, a3.dx, _, rfl, h3.ins, SN_no (by decide +kernel), x, _, a3, rfl, h3, ?_, fun a4 H4 h4 c4 => ?_⟩
      · unfold writeHomeS
        show (Sto.trace (Sto.evs _ _) ++ [_]).length < 85000
        rw [List.length_append, evs_len]
        have := keysOf_le (PG.mg (settleS S).groups) (settleS S).plates
        have h50 : (settleS S).plates ≤ 50 := hwf.p1
        unfold homeEvs chg
        rw [List.length_map, List.length_map]
        show (S.trace ++ [_]).length + _ + 1 < 85000
        rw [List.length_append]
        show S.trace.length + 1 + _ + 1 < 85000
        omega
      exact k a4 H4 (by rw [e]; exact h4) ((Chg.of_same s1).trans (c2.trans (c3.trans c4)))
end
end PG

set_option Elab.async false
set_option linter.all false
set_option autoImplicit false
set_option maxRecDepth 100000
set_option maxHeartbeats 4000000
namespace PG
open PySem L2
theorem rowEvs_take {slots : Nat} {t : Int} {rows : List Pl} {i : Nat} {v : Pl} (h : rows[i]? = some v) : (rowEvs slots t rows).take (i + 1) = (rowEvs slots t rows).take i ++ [.wr (slotP slots (t + i)) v] := by
  have hi := (List.getElem?_eq_some_iff.mp h).1
  refine take_snoc ?_
  unfold rowEvs
  rw [List.getElem?_map, List.getElem?_range hi]
  show some (Ev.wr (slotP slots (t + i)) (rows.getD i [])) = _
  rw [List.getD_eq_getElem?_getD, h]
  rfl
theorem rowEvs_len (slots : Nat) (t : Int) (rows : List Pl) : (rowEvs slots t rows).length = rows.length := by unfold rowEvs; simp
theorem logRows_short {g : Int} {ch : List (Int × Pl)} (h : ∀ e ∈ ch, e.2.length = 8) : ∀ v ∈ logRows g ch, v.length ≤ 1000 := by
  intro v hv
  unfold logRows at hv
  obtain ⟨i, hi, rfl⟩ := List.mem_map.mp hv
  have hi' : i < ch.length := by simpa using hi
  have : (ch.getD i (0, [])).2.length = 8 := by
    rw [List.getD_eq_getElem?_getD, List.getElem?_eq_getElem hi']
    exact h _ (List.getElem_mem hi')
  unfold logRow
  rw [List.length_append, this]
  show 4 + 8 ≤ 1000
  decide
theorem layS_groups (S : Sto) : (layS S).groups = [] := by
  unfold layS
  split
  · assumption
  · rfl
/-- what lay leaves as it was -/
theorem layS_eqs (S : Sto) : (layS S).plates = S.plates ∧ (layS S).slots = S.slots ∧ (layS S).run = S.run ∧ (layS S).rund = S.rund ∧ (layS S).pushed = S.pushed ∧ (layS S).deeds = S.deeds ∧ (layS S).ng = S.ng ∧ (layS S).nt = S.nt ∧ (layS S).cells = S.cells ∧ (layS S).beg = S.beg := by
  unfold layS
  split
  · exact ⟨rfl, rfl, rfl, rfl, rfl, rfl, rfl, rfl, rfl, rfl⟩
  · unfold turnHeadS writeHomeS settleS
    rw [evs_eq]
    exact ⟨rfl, rfl, rfl, rfl, rfl, rfl, rfl, rfl, rfl, rfl⟩
theorem layS_trace (S : Sto) (h : S.plates ≤ 50) : S.trace.length ≤ (layS S).trace.length ∧ (layS S).trace.length ≤ S.trace.length + 60 := by
  unfold layS
  split
  · omega
  · unfold turnHeadS writeHomeS
    show S.trace.length ≤ (((Sto.evs _ _).trace ++ [_]) ++ [_] ++ [_]).length ∧ (((Sto.evs _ _).trace ++ [_]) ++ [_] ++ [_]).length ≤ _
    rw [List.length_append, List.length_append, List.length_append, evs_len]
    have := keysOf_le (PG.mg (settleS S).groups) (settleS S).plates
    have h50 : (settleS S).plates ≤ 50 := h
    have e : (settleS S).trace.length = S.trace.length + 1 := by show (S.trace ++ [_]).length = _; rw [List.length_append]; rfl
    unfold homeEvs chg
    rw [List.length_map, List.length_map, e]
    show _ ≤ _ + 1 + 1 + 1 ∧ _ + 1 + 1 + 1 ≤ _
    omega
theorem both {b : Bool} {T E : Prop} (N F : SAdr → Hp → Prop) (h1 : (∀ a H, F a H → N a H) → b = true → T) (h2 : (∀ a H, F a H → N a H) → b = false → E) (rest : ∀ a H, F a H → N a H) : if b = true then T else E := by
  cases b with
  | true => exact iteT (h1 rest rfl)
  | false => exact iteF (h2 rest rfl)
theorem StoreAt.lst_ne {A : Adr} {H : Hp} {x l : Addr} {S : Sto} {a : SAdr} {xs : List V} (h : StoreAt A H x S a) (hl : H l = some (.lst xs)) : l ≠ x ∧ l ≠ a.dev ∧ l ≠ a.cel ∧ l ≠ a.run := by
  refine ⟨fun z => ?_, fun z => ?_, fun z => ?_, fun z => ?_⟩
  · rw [z, h.ins] at hl; cases hl
  · obtain ⟨⟨_, _, _, h1, _⟩, _⟩ := h.dev
    rw [z, h1] at hl; cases hl
  · obtain ⟨_, h1, _⟩ := h.cel
    rw [z, h1] at hl; cases hl
  · obtain ⟨_, h1, _⟩ := h.run
    rw [z, h1] at hl; cases hl
section
variable {P : Program} {w : World} {K : PySem.W.Frag} {mg : Str → Option Value} {base : Heap} {A : Adr}
/-! ## Store.push -/
def spPush (A : Adr) : Sp := fun vs H Q _ => ∃ (x : Addr) (S : Sto) (a : SAdr), vs = [.ref x] ∧ StoreAt A H x S a ∧ S.trace.length < 70000 ∧ S.pushed.length < 800 ∧ ∀ a' H', StoreAt A H' x (pushS S) a' → Chg x a a' H H' → Q .non H'
abbrev puN : List Str := ["self", "changes", "begin", "at", "value", "plate"]
theorem sc_push : FnScope puN ["self"] (defScope (inClass (top 40) 8)) := ⟨rfl, rfl, rfl, by decide +kernel, rfl, by decide +kernel, by decide +kernel⟩
theorem ok_Store_push (T : Txt K mg A) : FnOk P w K mg base CX0 7 A.a_Store_push A.d_Store_push ["self"] (spPush A) := by
  refine T.m_Store_push.F.ok sc_push (fun vs H Q E h => ?_) (fun cdv A0 outer s H vs Q E hr h => ?_)
  · obtain ⟨x, S, a, rfl, _⟩ := h
    rfl
  · obtain ⟨x, S, a, rfl, h, hz, hpz, k⟩ := h
    refine ⟨_, pss_cons (ps_if (pt_cmpR op_eq (pe_fld (pv 0) rfl) pe_int (nomark _)) (pss_one ps_retN) pss_nil)
      (pss_cons (ps_set (i := 1) sc_push.nd rfl (Or.inl rfl) (pe_callTy call_tuple_of (by rfl) T.z_tuple (by decide +kernel) (pa_cons
          (pe_lc (own := [("plate", 5)]) (g := gName 5) (tt := tYes) (te := tTup (tCons (tVar 5) (tCons (tDGet (tFld K (tVar 0) "running") (tVar 5)) tNil))) rfl sc_push.nd
            (pi_list (pe_callB cr_sortedI (by rfl) T.z_sorted (by decide +kernel) (pa_cons (pe_callTy (call_list_dK rfl) (by rfl) T.z_list (by decide +kernel) (pa_cons (pe_fld (pv 0) rfl) pa_nil)) pa_nil)))
            (blkOk_by (N := puN) (sc := defScope (inClass (top 40) 8)) (by decide +kernel))
            (fun _ _ _ _ _ => pg_name (i := 5) sc_push.nd rfl (Or.inl rfl)) (fun _ _ _ _ _ => pts_nil)
            (fun _ _ _ _ _ => pe_tup (pa_cons (pv 5) (pa_cons (pe_dget (hu_of hr) (pe_fld (pv 0) rfl) (pv 5) (fun _ _ => rfl)) pa_nil)))) pa_nil)))
      (pss_cons (ps_if (pt_cmpR op_gt (pe_op op_add (pe_meth0 (pv 0) T.k_Store.c T.m_Store_used.M (ok_Store_used T) (hr.mono (by decide)) T.m_Store_used.b .nil pass0) (pe_callB call_len_seq (by rfl) T.z_len PySem.boot_len (pa_cons (pv 1) pa_nil))) (pe_fld (pv 0) rfl) (nomark _))
          (pss_one (ps_expr (pe_meth0 (pv 0) T.k_Store.c T.m_Store_lay.M (ok_Store_lay T) hr T.m_Store_lay.b .nil pass0))) pss_nil)
      (pss_cons (ps_set (i := 2) sc_push.nd rfl (Or.inl rfl) (pe_callB call_len_seq (by rfl) T.z_len PySem.boot_len (pa_cons (pe_fld (pv 0) rfl) pa_nil)))
      (pss_cons (ps_for PassesOwn.never rfl (pi_enum rfl T.z_enumerate (pa_cons (pe_call (ok_log_rows T) (hr.mono (by decide)) rfl T.t_log_rows.g T.t_log_rows.F.kp T.t_log_rows.b .nil pass0 (pa_cons (pe_fld (pv 0) rfl) (pa_cons (pv 1) pa_nil))) pa_nil)) (pg_tup rfl (pgs_cons (pg_name (i := 3) sc_push.nd rfl (Or.inl rfl)) (pgs_cons (pg_name (i := 4) sc_push.nd rfl (Or.inl rfl)) pgs_nil)))
          (pss_one (ps_expr (pe_meth (pv 0) T.k_Store.c T.m_Store_write.M (ok_Store_write T) (hr.mono (by decide)) T.m_Store_write.b .nil pass0 (pa_cons (pe_call (ok_slot_plate T) (hr.mono (by decide)) rfl T.t_slot_plate.g T.t_slot_plate.F.kp T.t_slot_plate.b .nil pass0 (pa_cons (pe_fld (pv 0) rfl) (pa_cons (pe_op op_add (pe_fld (pv 0) rfl) (pv 3)) pa_nil))) (pa_cons (pv 4) pa_nil))))))
      (pss_cons (ps_fld (pv 0) (pe_tup (StX.pa_star (pe_fld (pv 0) rfl) (pa_cons (pe_tup (pa_cons (pe_fld (pv 0) rfl) (pa_cons (pe_fld (pv 0) rfl) (pa_cons (pv 1) pa_nil)))) pa_nil))) rfl)
      (pss_cons (ps_fld (pv 0) (pe_tup (StX.pa_star (pe_fld (pv 0) rfl) (pa_cons (pe_tup (pa_cons (pv 2) (pa_cons (pe_callB call_len_seq (by rfl) T.z_len PySem.boot_len (pa_cons (pe_fld (pv 0) rfl) pa_nil)) (pa_cons (pe_fld (pv 0) rfl) pa_nil)))) pa_nil))) rfl)
      (pss_cons (ps_fldaug (pv 0) pe_int in_add)
      (pss_cons (ps_fldaug (pv 0) (pe_callB call_len_seq (by rfl) T.z_len PySem.boot_len (pa_cons (pv 1) pa_nil)) in_add)
      (pss_cons (ps_fld (pv 0) pe_dnewK rfl)
      (pss_one (ps_fld (pv 0) pe_int rfl))))))))))), ?_⟩
    have hwf := h.wf
    refine ⟨_, rfl, x, A.c_Store, a.dx, _, _, rfl, h.ins, T.k_Store.c, T.n_Store_running_deeds, SN_get11 .., rfl, _, rfl, ?_⟩
    rw [decInt]
    by_cases hrd : S.rund = 0
    · rw [decide_eq_true (show (S.rund : Int) = 0 by omega)]
      have e : pushS S = S := by unfold pushS; rw [if_pos hrd]
      exact iteT (k a H (by rw [e]; exact h) (Chg.refl _ _ _))
    rw [decide_eq_false (show ¬ (S.rund : Int) = 0 by omega)]
    refine iteF ?_
    -- the changes
    obtain ⟨kvs, hmd, hkv⟩ := id h.run
    obtain ⟨ks, ks1, ks2, ks3, ks4⟩ := hkv.keys
    refine ⟨_, rfl, x, A.c_Store, a.dx, _, _, rfl, h.ins, T.k_Store.c, T.n_Store_running, SN_get10 .., a.run, kvs, rfl, hmd, fun l nl => ?_⟩
    have ek : (kvs.map fun kv => kV kv.1) = ks.map V.int := by
      have : (kvs.map fun kv => kV kv.1) = (kvs.map (·.1)).map kV := by rw [List.map_map]; rfl
      rw [this, ks1, List.map_map]
      rfl
    rw [ek]
    obtain ⟨H1, e1, s1, hl⟩ := newE (.lst (ks.map V.int)) nl
    rw [e1]
    refine ⟨l, ks, rfl, SqL.of hl, fun ks' q hperm hsort nq => ?_⟩
    have hk' := keys_sorted ks2 hperm hsort ks3 ks4
    subst hk'
    obtain ⟨H2, e2, s2, hq⟩ := newE (.lst ((keysOf S.run S.plates).map V.int)) nq
    rw [e2]
    have s02 := s1.trans s2
    have klen : (keysOf S.run S.plates).length ≤ 50 := Nat.le_trans (keysOf_le _ _) hwf.p1
    have chlen : (chg S.run S.plates).length = (keysOf S.run S.plates).length := chg_length _ _
    have ch8 : ∀ e ∈ chg S.run S.plates, e.2.length = 8 := fun e he => hwf.rok _ _ (mem_chg.mp he).2.2
    refine ⟨q, rfl, ⟨_, SqL.of hq⟩, fun D1 nD => lc_list (K := K) (a := q) (xs := (keysOf S.run S.plates).map V.int) (fun i H' => Same H2 H' ∧ ∃ acc, H' D1 = some (.lst acc) ∧ AllV (EntV H') acc ((chg S.run S.plates).take i))
      ⟨Same.new nD, [], upd_same, AllV.nil⟩ (fun i H' _ z => SqL.of (z.1 _ _ hq)) ?_ ?_⟩
    · rintro i y H' hi ⟨s3, acc, hA, hacc⟩
      obtain ⟨p, hp, rfl⟩ := ints_get hi
      have hil := (List.getElem?_eq_some_iff.mp hp).1
      obtain ⟨p0, p1, p2⟩ := mem_keysOf.mp (List.mem_of_getElem? hp)
      obtain ⟨ns, hns⟩ := Option.isSome_iff_exists.mp p2
      have h3 := h.same (s02.trans s3)
      obtain ⟨v, hg, hv⟩ := h3.run.get hns
      refine ⟨rfl, tYes_ok (iteT ⟨_, rfl, _, rfl, x, A.c_Store, a.dx, _, _, rfl, h3.ins, T.k_Store.c, T.n_Store_running, SN_get10 .., _, rfl, a.run, v, rfl, hg, line1000 (by show 2 ≤ 1000000; decide), fun t nt => ?_⟩)⟩
      obtain ⟨H4, e4, s4, ht⟩ := newE (.tup [V.int p, v]) nt
      rw [e4]
      have hA4 := s4 _ _ hA
      have te : TupE H4 (upd H4 D1 (.lst (acc ++ [V.ref t]))) := TupE.upd fun z r => by rw [hA4] at r; cases r
      have hce : (chg S.run S.plates)[i]? = some (p, ns) := by
        unfold chg
        rw [List.getElem?_map, hp]
        show some (p, (S.run p).getD []) = _
        rw [hns]
        rfl
      refine ⟨acc, hA4, line_lt ?_, Same.upd0 (s3.trans s4) nD, _, upd_same, ?_⟩
      · rw [hacc.len, List.length_take]
        omega
      · rw [take_snoc hce]
        exact AllV.snoc (hacc.mono fun _ _ z => z.mono ((Same.tups s4).trans te)) ⟨t, v, rfl, te _ _ ht, hv.mono ((Same.tups s4).trans te)⟩
    rintro H3 ⟨s3, acc, hA, hacc⟩
    rw [List.length_map, ← chlen, List.take_length] at hacc
    refine ⟨D1, acc, rfl, .inl ⟨SqL.of hA, fun c nc => ?_⟩⟩
    obtain ⟨H4, e4, s4, hc⟩ := newE (.tup acc) nc
    rw [e4]
    have s04 := s02.trans (s3.trans s4)
    have h4 := h.same s04
    have hcE : EntsV H4 c (chg S.run S.plates) := ⟨acc, hc, hacc.mono fun _ _ z => z.mono (Same.tups s4)⟩
    -- lay, if need be
    refine ⟨_, rfl, x, a.dx, _, rfl, h4.ins, SN_no (by decide +kernel), x, a.dx, a.gr, _, S.groups, rfl, h4.ins, SN_get6 .., h4.gr, by have := hwf.gl; omega, fun H5 s5 => ?_⟩
    have h5 := h4.same s5
    refine ⟨_, rfl, c, acc, rfl, .inr (SqT.of (s5 _ _ hc)), _, _, rfl, rfl, _, rfl, x, A.c_Store, a.dx, _, _, rfl, h5.ins, T.k_Store.c, T.n_Store_slots, SN_get1 .., _, _, rfl, rfl, _, rfl, ?_⟩
    rw [hacc.len]
    have e5 : ∃ S1 : Sto, S1 = if usedN S.groups + (chg S.run S.plates).length > S.slots then layS S else S := ⟨_, rfl⟩
    obtain ⟨S1, hS1⟩ := e5
    have ePush : pushS S = pushRows S1 (chg S.run S.plates) := by
      unfold pushS
      rw [if_neg hrd, hS1]
    have eqs : S1.plates = S.plates ∧ S1.slots = S.slots ∧ S1.run = S.run ∧ S1.rund = S.rund ∧ S1.pushed = S.pushed ∧ S1.deeds = S.deeds ∧ S1.trace.length ≤ S.trace.length + 60 := by
      rw [hS1]
      split
      · obtain ⟨q1, q2, q3, q4, q5, q6, _⟩ := layS_eqs S
        exact ⟨q1, q2, q3, q4, q5, q6, (layS_trace S hwf.p1).2⟩
      · exact ⟨rfl, rfl, rfl, rfl, rfl, rfl, Nat.le_add_right _ _⟩
    have c05 : Chg x a a H H5 := Chg.of_same (s04.trans s5)
    have eT : decide ((usedN S.groups : Int) + ((chg S.run S.plates).length : Int) > (S.slots : Int)) = true → S1 = layS S := fun hb => by
      have hb := of_decide_eq_true hb
      rw [hS1, if_pos (by omega)]
    have eF : decide ((usedN S.groups : Int) + ((chg S.run S.plates).length : Int) > (S.slots : Int)) = false → S1 = S := fun hb => by
      have hb := of_decide_eq_false hb
      rw [hS1, if_neg (by omega)]
    refine both _ (fun a1 H6 => StoreAt A H6 x S1 a1 ∧ Chg x a a1 H H6 ∧ EntsV H6 c (chg S.run S.plates)) (fun rest hb => ⟨_, rfl, x, a.dx, _, rfl, h5.ins, SN_no (by decide +kernel), x, S, a, rfl, h5, by omega, fun a6 H6 h6 c6 => rest a6 H6 ⟨(eT hb).symm ▸ h6, c05.trans c6, hcE.mono ((Same.tups s5).trans c6.tups)⟩⟩)
      (fun rest hb => rest a H5 ⟨(eF hb).symm ▸ h5, c05, hcE.mono (Same.tups s5)⟩) ?_
    rintro a1 H6 ⟨h6, c6, hc6⟩
    obtain ⟨q1, q2, q3, q4, q5, q6, q7⟩ := eqs
    have w6 := h6.wf
    obtain ⟨es, ht6, hes⟩ := h6.tr
    refine ⟨_, rfl, x, A.c_Store, a1.dx, _, _, rfl, h6.ins, T.k_Store.c, T.n_Store_trace, SN_get4 .., a1.tr, es, rfl, .inr (SqT.of ht6), ?_⟩
    rw [hes.len]
    refine ⟨_, rfl, x, A.c_Store, a1.dx, _, _, rfl, h6.ins, T.k_Store.c, T.n_Store_next_group, SN_get8 .., _, rfl, S1.ng, c, chg S.run S.plates, rfl, hc6, by omega, fun e he => by rw [ch8 e he]; decide, fun rl rxs H7 s7 hrl hrows => ?_⟩
    have h7 := h6.same s7
    have hc7 := hc6.mono (Same.tups s7)
    obtain ⟨n1, n2, n3, n4⟩ := h7.lst_ne hrl
    have rlen : (logRows S1.ng (chg S.run S.plates)).length = (chg S.run S.plates).length := logRows_length _ _
    refine ⟨rl, rxs, rfl, SqL.of hrl, for_enumL (K := K) (a := rl) (xs := rxs) (fun i σ H' => ∃ (v3 v4 : Option V) (a' : SAdr), σ = [some (.ref x), some (.ref c), some (.int S1.trace.length), v3, v4, none] ∧
      StoreAt A H' x (S1.evs ((rowEvs S1.slots S1.nt (logRows S1.ng (chg S.run S.plates))).take i)) a' ∧ Chg x a1 a' H7 H')
      ⟨none, none, a1, rfl, h7, Chg.refl _ _ _⟩ (fun i σ H' _ ⟨_, _, _, _, _, cc⟩ => SqL.of (cc.keep _ _ n1 n2 n3 n4 hrl)) ?_ ?_⟩
    · rintro i y σ H' p hi ⟨v3, v4, a', rfl, h8, c8⟩ np
      obtain ⟨ns, hns, hv⟩ := hrows.at hi
      have hsh := logRows_short ch8 ns (List.mem_of_getElem? hns)
      have hil : i < 50 := by
        have := (List.getElem?_eq_some_iff.mp hns).1
        omega
      generalize hS8 : S1.evs ((rowEvs S1.slots S1.nt (logRows S1.ng (chg S.run S.plates))).take i) = S8 at h8
      have e8p : S8.plates = S1.plates := by rw [← hS8, evs_eq]
      have e8s : S8.slots = S1.slots := by rw [← hS8, evs_eq]
      have e8n : S8.nt = S1.nt := by rw [← hS8, evs_eq]
      have e8t : S8.trace.length ≤ S1.trace.length + 50 := by
        rw [← hS8, evs_len, List.length_take]
        omega
      obtain ⟨H9, e9, s9, hp9⟩ := newE (.tup [V.int (i : Nat), y]) np
      rw [e9]
      have h9 := h8.same s9
      have hr9 := slot_range (w6.s0) (S1.nt + (i : Int))
      refine ⟨p, _, rfl, SqT.of hp9, rfl, _, _, rfl, _, _, rfl, rfl, ?_⟩
      refine ⟨_, rfl, x, a'.dx, _, rfl, h9.ins, SN_no (by decide +kernel), _, rfl, x, A.c_Store, a'.dx, _, _, rfl, h9.ins, T.k_Store.c, T.n_Store_slots, SN_get1 .., _, rfl, x, A.c_Store, a'.dx, _, _, rfl, h9.ins, T.k_Store.c, T.n_Store_next_slot, SN_get9 .., _, rfl, _, _, rfl, rfl, S8.slots, S8.nt + (i : Int), rfl, h9.wf.s0, _, rfl,
        x, S8, a', slotP S8.slots (S8.nt + (i : Int)), y, ns, rfl, h9, hv.mono (c8.tups.trans (Same.tups s9)), hsh, by rw [e8s, e8n]; omega, by rw [e8s, e8n, e8p]; omega, by omega, fun a5 Hb h10 c10 => ?_⟩
      refine ⟨_, _, a5, rfl, ?_, c8.trans ((Chg.of_same s9).trans c10)⟩
      rw [rowEvs_take hns, evs_snoc, hS8, ← e8s, ← e8n]
      exact h10
    rintro σ H8 ⟨v3, v4, a3, rfl, h8, c8⟩
    rw [hrows.len, ← rowEvs_len S1.slots S1.nt, List.take_length] at h8
    generalize hS2 : S1.evs (rowEvs S1.slots S1.nt (logRows S1.ng (chg S.run S.plates))) = S2 at h8
    have f1 : S2.ng = S1.ng := by rw [← hS2, evs_eq]
    have f2 : S2.nt = S1.nt := by rw [← hS2, evs_eq]
    have f3 : S2.pushed = S.pushed := by rw [← hS2, evs_eq]; exact q5
    have f4 : S2.trace.length = S1.trace.length + (chg S.run S.plates).length := by rw [← hS2, evs_len, rowEvs_len, rlen]
    have f5 : S2.plates = S.plates := by rw [← hS2, evs_eq]; exact q1
    have w8 := h8.wf
    have hc8 := hc7.mono c8.tups
    have ePR : pushRows S1 (chg S.run S.plates) = { S2 with groups := S2.groups ++ [(S2.ng, S2.nt, chg S.run S.plates)], pushed := S2.pushed ++ [(S1.trace.length, S2.trace.length, S2.deeds)], ng := S2.ng + 1, nt := S2.nt + (chg S.run S.plates).length, run := noDM, rund := 0 } := by
      unfold pushRows
      rw [hS2, ← f1, ← f2]
    obtain ⟨gxs, hg8, hgx⟩ := h8.gr
    obtain ⟨pxs, hp8, hpx⟩ := h8.pu
    obtain ⟨ts8, ht8, hts⟩ := h8.tr
    obtain ⟨ys8, hc8', hys⟩ := id hc8
    -- groups
    refine ⟨_, rfl, x, A.c_Store, a3.dx, _, _, rfl, h8.ins, T.k_Store.c, T.n_Store_groups, SN_get6 .., a3.gr, gxs, rfl, .inl (SqT.of hg8), _, rfl, x, A.c_Store, a3.dx, _, _, rfl, h8.ins, T.k_Store.c, T.n_Store_next_group, SN_get8 .., _, rfl, x, A.c_Store, a3.dx, _, _, rfl, h8.ins, T.k_Store.c, T.n_Store_next_slot, SN_get9 .., _, rfl, line1000 (by show 3 ≤ 1000000; decide), fun t nt => ?_⟩
    obtain ⟨Ha, ea, sa, hta⟩ := newE (.tup [V.int S2.ng, V.int S2.nt, .ref c]) nt
    rw [show upd H8 t _ = Ha from ea]
    refine ⟨line1000 (by have := w8.gl; rw [f3] at this; rw [List.length_append, hgx.len]; show S2.groups.length + 1 ≤ 1000000; omega), fun q nq => ?_⟩
    obtain ⟨Hb, eb, sb, hqb⟩ := newE (.tup (gxs ++ [V.ref t])) nq
    rw [eb]
    have s8b := sa.trans sb
    have hb8 := h8.same s8b
    refine ⟨_, rfl, x, A.c_Store, a3.dx, _, rfl, hb8.ins, T.k_Store.c, T.n_Store_groups, (by show 15 < 1000; decide), ?_⟩
    rw [show putF "groups" (V.ref q) (SN.zip (svals S2 a3)) = SN.zip (svals S2 { a3 with gr := q }) from SN_set6 ..]
    obtain ⟨Hc, ec, bc, hxc⟩ := chgE (H := Hb) (d := x) (.ins A.c_Store a3.dx (SN.zip (svals S2 { a3 with gr := q })))
    rw [ec]
    have tbc : TupE Hb Hc := bc.ins hb8.ins
    have t8c := (Same.tups s8b).trans tbc
    -- pushed
    refine ⟨_, rfl, x, A.c_Store, a3.dx, _, _, rfl, hxc, T.k_Store.c, T.n_Store_pushed, SN_get12 .., a3.pu, pxs, rfl, .inl (SqT.of (t8c _ _ hp8)), _, rfl, _, rfl, x, A.c_Store, a3.dx, _, _, rfl, hxc, T.k_Store.c, T.n_Store_trace, SN_get4 .., a3.tr, ts8, rfl, .inr (SqT.of (t8c _ _ ht8)), _, rfl, x, A.c_Store, a3.dx, _, _, rfl, hxc, T.k_Store.c, T.n_Store_deeds, SN_get13 .., line1000 (by show 3 ≤ 1000000; decide), fun u nu => ?_⟩
    rw [hts.len]
    obtain ⟨Hd, ed, sd, hud⟩ := newE (.tup [V.int S1.trace.length, V.int S2.trace.length, V.int S2.deeds]) nu
    rw [show upd Hc u _ = Hd from ed]
    refine ⟨line1000 (by rw [List.length_append, hpx.len, f3]; show S.pushed.length + 1 ≤ 1000000; omega), fun r nr => ?_⟩
    obtain ⟨He, ee, se, hre⟩ := newE (.tup (pxs ++ [V.ref u])) nr
    rw [ee]
    have sce := sd.trans se
    have hxe := sce _ _ hxc
    refine ⟨_, rfl, x, A.c_Store, a3.dx, _, rfl, hxe, T.k_Store.c, T.n_Store_pushed, (by show 15 < 1000; decide), ?_⟩
    rw [show putF "pushed" (V.ref r) (SN.zip (svals S2 { a3 with gr := q })) = SN.zip (svals S2 { a3 with gr := q, pu := r }) from SN_set12 ..]
    obtain ⟨Hf, ef, bf, hxf⟩ := chgE (H := He) (d := x) (.ins A.c_Store a3.dx (SN.zip (svals S2 { a3 with gr := q, pu := r })))
    rw [ef]
    have tef : TupE He Hf := bf.ins hxe
    have tcf := (Same.tups sce).trans tef
    -- next_group, next_slot
    refine ⟨_, rfl, x, A.c_Store, a3.dx, _, _, rfl, hxf, T.k_Store.c, T.n_Store_next_group, SN_get8 .., _, _, rfl, rfl, a3.dx, _, hxf, (by show 15 < 1000; decide), ?_⟩
    rw [show putF "next_group" (V.int (S2.ng + 1)) (SN.zip (svals S2 { a3 with gr := q, pu := r })) = SN.zip (svals { S2 with ng := S2.ng + 1 } { a3 with gr := q, pu := r }) from SN_set8 ..]
    obtain ⟨Hg, eg, bg, hxg⟩ := chgE (H := Hf) (d := x) (.ins A.c_Store a3.dx (SN.zip (svals { S2 with ng := S2.ng + 1 } { a3 with gr := q, pu := r })))
    rw [eg]
    have tfg : TupE Hf Hg := bg.ins hxf
    have t8g := t8c.trans (tcf.trans tfg)
    refine ⟨_, rfl, x, A.c_Store, a3.dx, _, _, rfl, hxg, T.k_Store.c, T.n_Store_next_slot, SN_get9 .., _, rfl, c, ys8, rfl, .inr (SqT.of (t8g _ _ hc8')), _, _, rfl, rfl, a3.dx, _, hxg, (by show 15 < 1000; decide), ?_⟩
    rw [hys.len]
    rw [show putF "next_slot" (V.int (S2.nt + (chg S.run S.plates).length)) (SN.zip (svals { S2 with ng := S2.ng + 1 } { a3 with gr := q, pu := r })) = SN.zip (svals { S2 with ng := S2.ng + 1, nt := S2.nt + (chg S.run S.plates).length } { a3 with gr := q, pu := r }) from SN_set9 ..]
    obtain ⟨Hh, eh, bh, hxh⟩ := chgE (H := Hg) (d := x) (.ins A.c_Store a3.dx (SN.zip (svals { S2 with ng := S2.ng + 1, nt := S2.nt + (chg S.run S.plates).length } { a3 with gr := q, pu := r })))
    rw [eh]
    have tgh : TupE Hg Hh := bh.ins hxg
    -- running
    refine fun d nd => ?_
    obtain ⟨Hi, ei, si, hdi⟩ := newE (.dK []) nd
    rw [ei]
    have hxi := si _ _ hxh
    have xd : x ≠ d := ne_of_none hxh nd
    refine ⟨_, rfl, x, A.c_Store, a3.dx, _, rfl, hxi, T.k_Store.c, T.n_Store_running, (by show 15 < 1000; decide), ?_⟩
    rw [show putF "running" (V.ref d) (SN.zip (svals { S2 with ng := S2.ng + 1, nt := S2.nt + (chg S.run S.plates).length } { a3 with gr := q, pu := r })) = SN.zip (svals { S2 with ng := S2.ng + 1, nt := S2.nt + (chg S.run S.plates).length } { a3 with gr := q, pu := r, run := d }) from SN_set10 ..]
    obtain ⟨Hj, ej, bj, hxj⟩ := chgE (H := Hi) (d := x) (.ins A.c_Store a3.dx (SN.zip (svals { S2 with ng := S2.ng + 1, nt := S2.nt + (chg S.run S.plates).length } { a3 with gr := q, pu := r, run := d })))
    rw [ej]
    have tij : TupE Hi Hj := bj.ins hxi
    refine ⟨_, rfl, x, A.c_Store, a3.dx, _, rfl, hxj, T.k_Store.c, T.n_Store_running_deeds, (by show 15 < 1000; decide), ?_⟩
    rw [show putF "running_deeds" (V.int 0) (SN.zip (svals { S2 with ng := S2.ng + 1, nt := S2.nt + (chg S.run S.plates).length } { a3 with gr := q, pu := r, run := d })) = SN.zip (svals (pushS S) { a3 with gr := q, pu := r, run := d }) by rw [ePush, ePR]; exact SN_set11 ..]
    obtain ⟨Hk, ek', bk, hxk⟩ := chgE (H := Hj) (d := x) (.ins A.c_Store a3.dx (SN.zip (svals (pushS S) { a3 with gr := q, pu := r, run := d })))
    rw [ek']
    have tjk : TupE Hj Hk := bk.ins hxj
    have b8k : But x H8 Hk := (Same.but' s8b).trans (bc.trans ((Same.but' sce).trans (bf.trans (bg.trans (bh.trans ((Same.but' si).trans (bj.trans bk)))))))
    have tgk := tgh.trans ((Same.tups si).trans (tij.trans tjk))
    have tck := tcf.trans (tfg.trans tgk)
    obtain ⟨t8k, r1, r2, r3, r4, r5, r6, r7, r8⟩ := h8.xed b8k
    have nd8 : H8 d = none := by
      cases e : H8 d with
      | none => rfl
      | some o =>
        have b8h : But x H8 Hh := (Same.but' s8b).trans (bc.trans ((Same.but' sce).trans (bf.trans (bg.trans bh))))
        rw [b8h _ _ xd.symm e] at nd
        cases nd
    have c78 : Chg x a a3 H H8 := c6.trans ((Chg.of_same s7).trans c8)
    have hdk : DictAt Hk d S.plates noDM := DictAt.new _ (bk _ _ xd.symm (bj _ _ xd.symm hdi))
    refine k { a3 with gr := q, pu := r, run := d } Hk ?_ (c78.trans (.but_x b8k t8k (some_ne hxk) rfl rfl rfl (.inr nd8)))
    rw [ePush, ePR] at hxk ⊢
    refine ⟨hxk, r1, r2, r3, r4, ?_, r6, ?_, ?_, fun z => ?_, h8.nbd, ?_⟩
    · exact ⟨_, tck _ _ (tbc _ _ hqb), (hgx.mono fun _ _ z => z.mono t8k).snoc ⟨t, c, rfl, tck _ _ (tbc _ _ (sb _ _ hta)), hc8.mono t8k⟩⟩
    · show DictAt Hk d S2.plates noDM
      rw [f5]; exact hdk
    · exact ⟨_, tgk _ _ (tfg _ _ (tef _ _ hre)), (hpx.mono fun _ _ z => z.mono t8k).snoc ⟨u, rfl, tgk _ _ (tfg _ _ (tef _ _ (se _ _ hud)))⟩⟩
    · have : a3.cel = d := z
      exact h8.cel.there (this ▸ nd8)
    · refine ⟨w8.s0, w8.s1, w8.p1, w8.dl, ?_, fun p v z => (by cases z), w8.sh, w8.lz, Nat.zero_le _, ?_⟩
      · intro g hg
        rcases List.mem_append.mp (show g ∈ S2.groups ++ [_] from hg) with z | z
        · exact w8.gs g z
        · rw [List.mem_singleton] at z
          subst z
          intro e he
          have := mem_chg.mp (show e ∈ chg S.run S.plates from he)
          refine ⟨this.1, ?_, hwf.rok _ _ this.2.2⟩
          show e.1 < (S2.plates : Int)
          rw [f5]; exact this.2.1
      · show (S2.groups ++ [_]).length ≤ 100 + (S2.pushed ++ [_]).length
        rw [List.length_append, List.length_append]
        have := w8.gl
        show S2.groups.length + 1 ≤ 100 + (S2.pushed.length + 1)
        omega
end
end PG

set_option Elab.async false
set_option linter.all false
set_option autoImplicit false
set_option maxRecDepth 100000
set_option maxHeartbeats 4000000
/-! Store.__init__ (printed by genI.py) -/
namespace PG
open PySem L2
theorem But.free {x f : Addr} {H H' : Hp} (b : But x H H') (hx : H' x ≠ none) (n : H' f = none) : H f = none := by
  cases e : H f with
  | none => rfl
  | some o =>
    by_cases h : f = x
    · subst h; exact absurd n hx
    · rw [b _ _ h e] at n; cases n
theorem readG_len (s : List Pl) (slots : Nat) : ∀ (fuel : Nat) (g t : Int) (used : Nat), (readG s slots fuel g t used).length ≤ fuel
  | 0, _, _, _ => Nat.le_refl _
  | n + 1, g, t, used => by
    unfold readG
    split
    · exact Nat.zero_le _
    · split
      · rw [List.length_cons]
        exact Nat.succ_le_succ (readG_len s slots n _ _ _)
      · exact Nat.zero_le _
section
variable {P : Program} {w : World} {K : PySem.W.Frag} {mg : Str → Option Value} {base : Heap} {A : Adr}
/-- a disk that a store can be opened of -/
structure CanOpen (plates slots : Nat) (s : List Pl) : Prop where
  s0 : 0 < slots
  s1 : slots ≤ 50
  p1 : plates ≤ 50
  len : s.length = 2 + slots + plates
  sh : Short s
  ne : heads s ≠ []
  tri : ∃ n f t, bestHead (heads s) = [n, f, t]
  ok : GsOk plates (newSto plates slots s).groups
def spInit (A : Adr) : Sp := fun vs H Q _ => ∃ (x dx d : Addr) (plates slots : Nat) (D : Dk), vs = [.ref x, .int plates, .int slots, .ref d] ∧ H x = some (.ins A.c_Store dx []) ∧ DiskAt A H d D ∧ D.loose = [] ∧ CanOpen plates slots D.settled ∧
  ∀ a H', StoreAt A H' x (newSto plates slots D.settled) a → But x H H' → H a.dev = none → H a.cel = none → H a.run = none → a.bg = d → Q .non H'
theorem sc_init : FnScope ["self", "plates", "slots", "disk"] ["self", "plates", "slots", "disk"] (defScope (inClass (top 40) 0)) := ⟨rfl, rfl, rfl, by decide +kernel, rfl, by decide +kernel, by decide +kernel⟩
theorem ok_Store_init (T : Txt K mg A) : FnOk P w K mg base CX0 6 A.a_Store___init__ A.d_Store___init__ ["self", "plates", "slots", "disk"] (spInit A) := by
  refine T.k_Store.F.ok sc_init (fun vs H Q E h => ?_) (fun cdv A0 outer s H vs Q E hr h => ?_)
  · obtain ⟨x, dx, d, plates, slots, D, rfl, _⟩ := h
    rfl
  · obtain ⟨x, dx, d, plates, slots, D, rfl, hx, hD, hloose, hcan, k⟩ := h
    obtain ⟨hs0, hs1, hp1, hlen, hsh, hne, ⟨n, hf, t, hb⟩, hok⟩ := hcan
    refine ⟨_, pss_cons (ps_fld (pv 0) (pv 1) rfl)
      (pss_cons (ps_fld (pv 0) (pv 2) rfl)
      (pss_cons (ps_fld (pv 0) (pv 3) rfl)
      (pss_cons (ps_fld (pv 0) (pe_call (ok_disk_after T) (hr.mono (by decide)) rfl T.t_disk_after.g T.t_disk_after.F.kp T.t_disk_after.b .nil pass0 (pa_cons (pv 3) (pa_cons (pe_tup pa_nil) (pa_cons pe_int pa_nil)))) rfl)
      (pss_cons (ps_fld (pv 0) (pe_tup pa_nil) rfl)
      (pss_cons (ps_fld (pv 0) (pe_call (ok_read_head T) (hr.mono (by decide)) rfl T.t_read_head.g T.t_read_head.F.kp T.t_read_head.b .nil pass0 (pa_cons (pv 3) pa_nil)) rfl)
      (pss_cons (ps_fld (pv 0) (pe_call (ok_read_groups T) hr rfl T.t_read_groups.g T.t_read_groups.F.kp T.t_read_groups.b .nil pass0 (pa_cons (pv 3) (pa_cons (pv 2) (pa_cons (pe_fld (pv 0) rfl) pa_nil)))) rfl)
      (pss_cons (ps_fld (pv 0) (pe_call (ok_read_home T) (hr.mono (by decide)) rfl T.t_read_home.g T.t_read_home.F.kp T.t_read_home.b .nil pass0 (pa_cons (pv 3) (pa_cons (pv 1) (pa_cons (pv 2) (pa_cons (pe_fld (pv 0) rfl) pa_nil))))) rfl)
      (pss_cons (ps_fld (pv 0) (pe_op op_add pe_int (pe_callB (call_max2 rfl) (by rfl) T.z_max (by decide +kernel) (pa_cons (pe_op op_sub (pe_ix ix_tup (pe_fld (pv 0) rfl) pe_int (fun _ _ => rfl)) pe_int) (pa_cons (pe_call (ok_last_seen T) (hr.mono (by decide)) rfl T.t_last_seen.g T.t_last_seen.F.kp T.t_last_seen.b .nil pass0 (pa_cons (pv 3) (pa_cons (pv 2) pa_nil))) pa_nil)))) rfl)
      (pss_cons (ps_fld (pv 0) (pe_op op_add (pe_ix ix_tup (pe_fld (pv 0) rfl) pe_int (fun _ _ => rfl)) (pe_meth0 (pv 0) T.k_Store.c T.m_Store_used.M (ok_Store_used T) (hr.mono (by decide)) T.m_Store_used.b .nil pass0)) rfl)
      (pss_cons (ps_fld (pv 0) pe_dnewK rfl)
      (pss_cons (ps_fld (pv 0) pe_int rfl)
      (pss_cons (ps_fld (pv 0) (pe_tup pa_nil) rfl)
      (pss_cons (ps_fld (pv 0) pe_int rfl)
      (pss_one (ps_fld (pv 0) pe_int rfl))))))))))))))), ?_⟩
    have ndx : d ≠ x := fun z => ins_ne_disk hx hD (by show 0 ≠ 2; decide) z.symm
    have hD0 := hD
    have bx : But x H H := But.refl x H
    have tx : TupE H H := TupE.refl H
    have hok : GsOk plates (readG D.settled slots (slots + 1) hf t 0) := by
      have e : (newSto plates slots D.settled).groups = readG D.settled slots (slots + 1) ((bestHead (heads D.settled)).getD 1 0) ((bestHead (heads D.settled)).getD 2 0) 0 := rfl
      rw [e, hb] at hok
      exact hok
    refine ⟨_, rfl, ?_⟩
    refine ⟨_, rfl, x, A.c_Store, dx, _, rfl, hx, T.k_Store.c, T.n_Store_plates, (by show 0 < 1000; decide), ?_⟩
    rw [SN_put0]
    obtain ⟨G1, ge, gb, hx2⟩ := chgE (H := H) (d := x) (.ins A.c_Store dx ((SN.take 1).zip [V.int plates]))
    rw [ge]
    have gt : TupE H G1 := gb.ins hx
    clear ge
    have bx := bx.trans gb
    have tx := tx.trans gt
    have hx := hx2
    have hD := hD.mono gt fun o e => gb _ _ ndx e
    refine ⟨_, rfl, ?_⟩
    refine ⟨_, rfl, x, A.c_Store, dx, _, rfl, hx, T.k_Store.c, T.n_Store_slots, (by show 1 < 1000; decide), ?_⟩
    rw [SN_put1]
    obtain ⟨G2, ge, gb, hx2⟩ := chgE (H := G1) (d := x) (.ins A.c_Store dx ((SN.take 2).zip [V.int plates, V.int slots]))
    rw [ge]
    have gt : TupE G1 G2 := gb.ins hx
    clear ge
    have bx := bx.trans gb
    have tx := tx.trans gt
    have hx := hx2
    have hD := hD.mono gt fun o e => gb _ _ ndx e
    refine ⟨_, rfl, ?_⟩
    refine ⟨_, rfl, x, A.c_Store, dx, _, rfl, hx, T.k_Store.c, T.n_Store_begin, (by show 2 < 1000; decide), ?_⟩
    rw [SN_put2]
    obtain ⟨G3, ge, gb, hx2⟩ := chgE (H := G2) (d := x) (.ins A.c_Store dx ((SN.take 3).zip [V.int plates, V.int slots, V.ref d]))
    rw [ge]
    have gt : TupE G2 G3 := gb.ins hx
    clear ge
    have bx := bx.trans gb
    have tx := tx.trans gt
    have hx := hx2
    have hD := hD.mono gt fun o e => gb _ _ ndx e
    refine ⟨_, rfl, Nat.zero_le _, fun e ne => ?_⟩
    obtain ⟨G4, e1, s1, he⟩ := newE (.tup []) ne
    rw [e1]
    have bx := bx.trans (Same.but' s1)
    have tx := tx.trans (Same.tups s1)
    have hx := s1 _ _ hx
    have hD := hD.same s1
    refine ⟨d, e, D, [], 0, rfl, hD, ⟨[], he, AllV.nil⟩, Nat.le_refl _, fun x hx => (by cases hx), (by have := hD.lz; simpa using this), fun f G5 s2 nf fD => ?_⟩
    have nf0 : H f = none := bx.free (some_ne hx) nf
    have nfx : f ≠ x := fun z => by rw [z, hx] at nf; cases nf
    have bx := bx.trans (Same.but' s2)
    have tx := tx.trans (Same.tups s2)
    have hx := s2 _ _ hx
    have hD := hD.same s2
    have fD : DiskAt A G5 f D := fD
    refine ⟨_, rfl, x, A.c_Store, dx, _, rfl, hx, T.k_Store.c, T.n_Store_device, (by show 3 < 1000; decide), ?_⟩
    rw [SN_put3]
    obtain ⟨G6, ge, gb, hx2⟩ := chgE (H := G5) (d := x) (.ins A.c_Store dx ((SN.take 4).zip [V.int plates, V.int slots, V.ref d, V.ref f]))
    rw [ge]
    have gt : TupE G5 G6 := gb.ins hx
    clear ge
    have bx := bx.trans gb
    have tx := tx.trans gt
    have hx := hx2
    have hD := hD.mono gt fun o e => gb _ _ ndx e
    have fD := fD.mono gt fun o e => gb _ _ nfx e
    refine ⟨Nat.zero_le _, fun tr ntr => ?_⟩
    obtain ⟨G7, e3, s3, htr⟩ := newE (.tup []) ntr
    rw [e3]
    have bx := bx.trans (Same.but' s3)
    have tx := tx.trans (Same.tups s3)
    have hx := s3 _ _ hx
    have hD := hD.same s3
    have fD := fD.mono (Same.tups s3) fun o e => (Same.but' s3) _ _ nfx e
    refine ⟨_, rfl, x, A.c_Store, dx, _, rfl, hx, T.k_Store.c, T.n_Store_trace, (by show 4 < 1000; decide), ?_⟩
    rw [SN_put4]
    obtain ⟨G8, ge, gb, hx2⟩ := chgE (H := G7) (d := x) (.ins A.c_Store dx ((SN.take 5).zip [V.int plates, V.int slots, V.ref d, V.ref f, V.ref tr]))
    rw [ge]
    have gt : TupE G7 G8 := gb.ins hx
    clear ge
    have bx := bx.trans gb
    have tx := tx.trans gt
    have hx := hx2
    have hD := hD.mono gt fun o e => gb _ _ ndx e
    have fD := fD.mono gt fun o e => gb _ _ nfx e
    have htr := gt _ _ htr
    refine ⟨_, rfl, d, D, rfl, hD, hloose, hsh, hne, fun v G9 s4 hv => ?_⟩
    rw [hb] at hv
    obtain ⟨hd, rfl, hhd⟩ := hv
    have bx := bx.trans (Same.but' s4)
    have tx := tx.trans (Same.tups s4)
    have hx := s4 _ _ hx
    have hD := hD.same s4
    have fD := fD.mono (Same.tups s4) fun o e => (Same.but' s4) _ _ nfx e
    have htr := (Same.tups s4) _ _ htr
    refine ⟨_, rfl, x, A.c_Store, dx, _, rfl, hx, T.k_Store.c, T.n_Store_head, (by show 5 < 1000; decide), ?_⟩
    rw [SN_put5]
    obtain ⟨G10, ge, gb, hx2⟩ := chgE (H := G9) (d := x) (.ins A.c_Store dx ((SN.take 6).zip [V.int plates, V.int slots, V.ref d, V.ref f, V.ref tr, V.ref hd]))
    rw [ge]
    have gt : TupE G9 G10 := gb.ins hx
    clear ge
    have bx := bx.trans gb
    have tx := tx.trans gt
    have hx := hx2
    have hD := hD.mono gt fun o e => gb _ _ ndx e
    have fD := fD.mono gt fun o e => gb _ _ nfx e
    have htr := gt _ _ htr
    have hhd := gt _ _ hhd
    refine ⟨_, rfl, _, rfl, _, rfl, x, A.c_Store, dx, _, _, rfl, hx, T.k_Store.c, T.n_Store_head, lookup_zip (ns := SN.take 6) (i := 5) (by decide +kernel) rfl rfl, d, hd, D, slots, n, hf, t, rfl, hD, hhd, hloose, hsh, hs0, (by omega), fun gr G11 s5 hgr => ?_⟩
    have bx := bx.trans (Same.but' s5)
    have tx := tx.trans (Same.tups s5)
    have hx := s5 _ _ hx
    have hD := hD.same s5
    have fD := fD.mono (Same.tups s5) fun o e => (Same.but' s5) _ _ nfx e
    have htr := (Same.tups s5) _ _ htr
    have hhd := (Same.tups s5) _ _ hhd
    refine ⟨_, rfl, x, A.c_Store, dx, _, rfl, hx, T.k_Store.c, T.n_Store_groups, (by show 6 < 1000; decide), ?_⟩
    rw [SN_put6]
    obtain ⟨G12, ge, gb, hx2⟩ := chgE (H := G11) (d := x) (.ins A.c_Store dx ((SN.take 7).zip [V.int plates, V.int slots, V.ref d, V.ref f, V.ref tr, V.ref hd, V.ref gr]))
    rw [ge]
    have gt : TupE G11 G12 := gb.ins hx
    clear ge
    have bx := bx.trans gb
    have tx := tx.trans gt
    have hx := hx2
    have hD := hD.mono gt fun o e => gb _ _ ndx e
    have fD := fD.mono gt fun o e => gb _ _ nfx e
    have htr := gt _ _ htr
    have hhd := gt _ _ hhd
    have hgr := GrsV.mono hgr gt
    refine ⟨_, rfl, _, rfl, _, rfl, _, rfl, x, A.c_Store, dx, _, _, rfl, hx, T.k_Store.c, T.n_Store_groups, lookup_zip (ns := SN.take 7) (i := 6) (by decide +kernel) rfl rfl, d, gr, D, plates, slots, _, rfl, hD, hloose, hsh, (by omega), hgr, hok, fun ce G13 s6 nce hce => ?_⟩
    have nce0 : H ce = none := bx.free (some_ne hx) nce
    have ncx : ce ≠ x := fun z => by rw [z, hx] at nce; cases nce
    have bx := bx.trans (Same.but' s6)
    have tx := tx.trans (Same.tups s6)
    have hx := s6 _ _ hx
    have hD := hD.same s6
    have fD := fD.mono (Same.tups s6) fun o e => (Same.but' s6) _ _ nfx e
    have htr := (Same.tups s6) _ _ htr
    have hhd := (Same.tups s6) _ _ hhd
    have hgr := GrsV.mono hgr (Same.tups s6)
    have hce : DictAt G13 ce plates _ := hce
    refine ⟨_, rfl, x, A.c_Store, dx, _, rfl, hx, T.k_Store.c, T.n_Store_cells, (by show 7 < 1000; decide), ?_⟩
    rw [SN_put7]
    obtain ⟨G14, ge, gb, hx2⟩ := chgE (H := G13) (d := x) (.ins A.c_Store dx ((SN.take 8).zip [V.int plates, V.int slots, V.ref d, V.ref f, V.ref tr, V.ref hd, V.ref gr, V.ref ce]))
    rw [ge]
    have gt : TupE G13 G14 := gb.ins hx
    clear ge
    have bx := bx.trans gb
    have tx := tx.trans gt
    have hx := hx2
    have hD := hD.mono gt fun o e => gb _ _ ndx e
    have fD := fD.mono gt fun o e => gb _ _ nfx e
    have htr := gt _ _ htr
    have hhd := gt _ _ hhd
    have hgr := GrsV.mono hgr gt
    have hce := DictAt.mono hce gt fun o e => gb _ _ ncx e
    refine ⟨_, rfl, x, A.c_Store, dx, _, _, rfl, hx, T.k_Store.c, T.n_Store_head, lookup_zip (ns := SN.take 8) (i := 5) (by decide +kernel) rfl rfl, hd, _, 1, _, rfl, rfl, SqT.of hhd, atI_of (i := 1) rfl rfl, _, _, rfl, rfl, _, rfl, _, rfl, d, D, slots, rfl, hD, hloose, hsh, hs0, (by omega), fun G15 s7 => ⟨_, _, rfl, _, _, rfl, rfl, ?_⟩⟩
    have bx := bx.trans (Same.but' s7)
    have tx := tx.trans (Same.tups s7)
    have hx := s7 _ _ hx
    have hD := hD.same s7
    have fD := fD.mono (Same.tups s7) fun o e => (Same.but' s7) _ _ nfx e
    have htr := (Same.tups s7) _ _ htr
    have hhd := (Same.tups s7) _ _ hhd
    have hgr := GrsV.mono hgr (Same.tups s7)
    have hce := DictAt.mono hce (Same.tups s7) fun o e => (Same.but' s7) _ _ ncx e
    have hv : (fun i j : Int => V.int (i + j)) 1 (if lastSeen D.settled slots > hf - 1 then lastSeen D.settled slots else hf - 1) = V.int (newSto plates slots D.settled).ng := by
      refine congrArg V.int ?_
      show _ = 1 + max ((bestHead (heads D.settled)).getD 1 0 - 1) (lastSeen D.settled slots)
      rw [hb]
      show _ = 1 + max (hf - 1) (lastSeen D.settled slots)
      split <;> omega
    refine ⟨_, rfl, x, A.c_Store, dx, _, rfl, hx, T.k_Store.c, T.n_Store_next_group, (by show 8 < 1000; decide), ?_⟩
    rw [hv]
    rw [SN_put8]
    obtain ⟨G16, ge, gb, hx2⟩ := chgE (H := G15) (d := x) (.ins A.c_Store dx ((SN.take 9).zip [V.int plates, V.int slots, V.ref d, V.ref f, V.ref tr, V.ref hd, V.ref gr, V.ref ce, V.int (newSto plates slots D.settled).ng]))
    rw [ge]
    have gt : TupE G15 G16 := gb.ins hx
    clear ge
    have bx := bx.trans gb
    have tx := tx.trans gt
    have hx := hx2
    have hD := hD.mono gt fun o e => gb _ _ ndx e
    have fD := fD.mono gt fun o e => gb _ _ nfx e
    have htr := gt _ _ htr
    have hhd := gt _ _ hhd
    have hgr := GrsV.mono hgr gt
    have hce := DictAt.mono hce gt fun o e => gb _ _ ncx e
    refine ⟨_, rfl, x, A.c_Store, dx, _, _, rfl, hx, T.k_Store.c, T.n_Store_head, lookup_zip (ns := SN.take 9) (i := 5) (by decide +kernel) rfl rfl, hd, _, 2, _, rfl, rfl, SqT.of hhd, atI_of (i := 2) rfl rfl, _, rfl, x, dx, _, rfl, hx, SN_noK (by decide +kernel), x, dx, gr, _, _, rfl, hx, lookup_zip (ns := SN.take 9) (i := 6) (by decide +kernel) rfl rfl, hgr, (by have := readG_len D.settled slots (slots + 1) hf t 0; omega), fun G17 s8 => ⟨_, _, rfl, rfl, ?_⟩⟩
    have bx := bx.trans (Same.but' s8)
    have tx := tx.trans (Same.tups s8)
    have hx := s8 _ _ hx
    have hD := hD.same s8
    have fD := fD.mono (Same.tups s8) fun o e => (Same.but' s8) _ _ nfx e
    have htr := (Same.tups s8) _ _ htr
    have hhd := (Same.tups s8) _ _ hhd
    have hgr := GrsV.mono hgr (Same.tups s8)
    have hce := DictAt.mono hce (Same.tups s8) fun o e => (Same.but' s8) _ _ ncx e
    have hv : (fun i j : Int => V.int (i + j)) t (usedN (readG D.settled slots (slots + 1) hf t 0) : Int) = V.int (newSto plates slots D.settled).nt := by
      refine congrArg V.int ?_
      show _ = (bestHead (heads D.settled)).getD 2 0 + (usedN (readG D.settled slots (slots + 1) ((bestHead (heads D.settled)).getD 1 0) ((bestHead (heads D.settled)).getD 2 0) 0) : Int)
      rw [hb]
      rfl
    refine ⟨_, rfl, x, A.c_Store, dx, _, rfl, hx, T.k_Store.c, T.n_Store_next_slot, (by show 9 < 1000; decide), ?_⟩
    rw [hv]
    rw [SN_put9]
    obtain ⟨G18, ge, gb, hx2⟩ := chgE (H := G17) (d := x) (.ins A.c_Store dx ((SN.take 10).zip [V.int plates, V.int slots, V.ref d, V.ref f, V.ref tr, V.ref hd, V.ref gr, V.ref ce, V.int (newSto plates slots D.settled).ng, V.int (newSto plates slots D.settled).nt]))
    rw [ge]
    have gt : TupE G17 G18 := gb.ins hx
    clear ge
    have bx := bx.trans gb
    have tx := tx.trans gt
    have hx := hx2
    have hD := hD.mono gt fun o e => gb _ _ ndx e
    have fD := fD.mono gt fun o e => gb _ _ nfx e
    have htr := gt _ _ htr
    have hhd := gt _ _ hhd
    have hgr := GrsV.mono hgr gt
    have hce := DictAt.mono hce gt fun o e => gb _ _ ncx e
    refine fun ru nru => ?_
    obtain ⟨G19, e9, s9, hru0⟩ := newE (.dK []) nru
    rw [e9]
    have nru0 : H ru = none := bx.free (some_ne hx) nru
    have nrx : ru ≠ x := fun z => by rw [z, hx] at nru; cases nru
    have ncr : ce ≠ ru := fun z => hce.there (z ▸ nru)
    have bx := bx.trans (Same.but' s9)
    have tx := tx.trans (Same.tups s9)
    have hx := s9 _ _ hx
    have hD := hD.same s9
    have fD := fD.mono (Same.tups s9) fun o e => (Same.but' s9) _ _ nfx e
    have htr := (Same.tups s9) _ _ htr
    have hhd := (Same.tups s9) _ _ hhd
    have hgr := GrsV.mono hgr (Same.tups s9)
    have hce := DictAt.mono hce (Same.tups s9) fun o e => (Same.but' s9) _ _ ncx e
    have hru : DictAt G19 ru plates noDM := DictAt.new _ hru0
    refine ⟨_, rfl, x, A.c_Store, dx, _, rfl, hx, T.k_Store.c, T.n_Store_running, (by show 10 < 1000; decide), ?_⟩
    rw [SN_put10]
    obtain ⟨G20, ge, gb, hx2⟩ := chgE (H := G19) (d := x) (.ins A.c_Store dx ((SN.take 11).zip [V.int plates, V.int slots, V.ref d, V.ref f, V.ref tr, V.ref hd, V.ref gr, V.ref ce, V.int (newSto plates slots D.settled).ng, V.int (newSto plates slots D.settled).nt, V.ref ru]))
    rw [ge]
    have gt : TupE G19 G20 := gb.ins hx
    clear ge
    have bx := bx.trans gb
    have tx := tx.trans gt
    have hx := hx2
    have hD := hD.mono gt fun o e => gb _ _ ndx e
    have fD := fD.mono gt fun o e => gb _ _ nfx e
    have htr := gt _ _ htr
    have hhd := gt _ _ hhd
    have hgr := GrsV.mono hgr gt
    have hce := DictAt.mono hce gt fun o e => gb _ _ ncx e
    have hru := DictAt.mono hru gt fun o e => gb _ _ nrx e
    refine ⟨_, rfl, x, A.c_Store, dx, _, rfl, hx, T.k_Store.c, T.n_Store_running_deeds, (by show 11 < 1000; decide), ?_⟩
    rw [SN_put11]
    obtain ⟨G21, ge, gb, hx2⟩ := chgE (H := G20) (d := x) (.ins A.c_Store dx ((SN.take 12).zip [V.int plates, V.int slots, V.ref d, V.ref f, V.ref tr, V.ref hd, V.ref gr, V.ref ce, V.int (newSto plates slots D.settled).ng, V.int (newSto plates slots D.settled).nt, V.ref ru, V.int 0]))
    rw [ge]
    have gt : TupE G20 G21 := gb.ins hx
    clear ge
    have bx := bx.trans gb
    have tx := tx.trans gt
    have hx := hx2
    have hD := hD.mono gt fun o e => gb _ _ ndx e
    have fD := fD.mono gt fun o e => gb _ _ nfx e
    have htr := gt _ _ htr
    have hhd := gt _ _ hhd
    have hgr := GrsV.mono hgr gt
    have hce := DictAt.mono hce gt fun o e => gb _ _ ncx e
    have hru := DictAt.mono hru gt fun o e => gb _ _ nrx e
    refine ⟨Nat.zero_le _, fun pu npu => ?_⟩
    obtain ⟨G22, e10, s10, hpu⟩ := newE (.tup []) npu
    rw [e10]
    have bx := bx.trans (Same.but' s10)
    have tx := tx.trans (Same.tups s10)
    have hx := s10 _ _ hx
    have hD := hD.same s10
    have fD := fD.mono (Same.tups s10) fun o e => (Same.but' s10) _ _ nfx e
    have htr := (Same.tups s10) _ _ htr
    have hhd := (Same.tups s10) _ _ hhd
    have hgr := GrsV.mono hgr (Same.tups s10)
    have hce := DictAt.mono hce (Same.tups s10) fun o e => (Same.but' s10) _ _ ncx e
    have hru := DictAt.mono hru (Same.tups s10) fun o e => (Same.but' s10) _ _ nrx e
    refine ⟨_, rfl, x, A.c_Store, dx, _, rfl, hx, T.k_Store.c, T.n_Store_pushed, (by show 12 < 1000; decide), ?_⟩
    rw [SN_put12]
    obtain ⟨G23, ge, gb, hx2⟩ := chgE (H := G22) (d := x) (.ins A.c_Store dx ((SN.take 13).zip [V.int plates, V.int slots, V.ref d, V.ref f, V.ref tr, V.ref hd, V.ref gr, V.ref ce, V.int (newSto plates slots D.settled).ng, V.int (newSto plates slots D.settled).nt, V.ref ru, V.int 0, V.ref pu]))
    rw [ge]
    have gt : TupE G22 G23 := gb.ins hx
    clear ge
    have bx := bx.trans gb
    have tx := tx.trans gt
    have hx := hx2
    have hD := hD.mono gt fun o e => gb _ _ ndx e
    have fD := fD.mono gt fun o e => gb _ _ nfx e
    have htr := gt _ _ htr
    have hhd := gt _ _ hhd
    have hgr := GrsV.mono hgr gt
    have hce := DictAt.mono hce gt fun o e => gb _ _ ncx e
    have hru := DictAt.mono hru gt fun o e => gb _ _ nrx e
    have hpu := gt _ _ hpu
    refine ⟨_, rfl, x, A.c_Store, dx, _, rfl, hx, T.k_Store.c, T.n_Store_deeds, (by show 13 < 1000; decide), ?_⟩
    rw [SN_put13]
    obtain ⟨G24, ge, gb, hx2⟩ := chgE (H := G23) (d := x) (.ins A.c_Store dx ((SN.take 14).zip [V.int plates, V.int slots, V.ref d, V.ref f, V.ref tr, V.ref hd, V.ref gr, V.ref ce, V.int (newSto plates slots D.settled).ng, V.int (newSto plates slots D.settled).nt, V.ref ru, V.int 0, V.ref pu, V.int 0]))
    rw [ge]
    have gt : TupE G23 G24 := gb.ins hx
    clear ge
    have bx := bx.trans gb
    have tx := tx.trans gt
    have hx := hx2
    have hD := hD.mono gt fun o e => gb _ _ ndx e
    have fD := fD.mono gt fun o e => gb _ _ nfx e
    have htr := gt _ _ htr
    have hhd := gt _ _ hhd
    have hgr := GrsV.mono hgr gt
    have hce := DictAt.mono hce gt fun o e => gb _ _ ncx e
    have hru := DictAt.mono hru gt fun o e => gb _ _ nrx e
    have hpu := gt _ _ hpu
    refine ⟨_, rfl, x, A.c_Store, dx, _, rfl, hx, T.k_Store.c, T.n_Store_settled_deeds, (by show 14 < 1000; decide), ?_⟩
    rw [SN_put14]
    obtain ⟨G25, ge, gb, hx2⟩ := chgE (H := G24) (d := x) (.ins A.c_Store dx ((SN.take 15).zip [V.int plates, V.int slots, V.ref d, V.ref f, V.ref tr, V.ref hd, V.ref gr, V.ref ce, V.int (newSto plates slots D.settled).ng, V.int (newSto plates slots D.settled).nt, V.ref ru, V.int 0, V.ref pu, V.int 0, V.int 0]))
    rw [ge]
    have gt : TupE G24 G25 := gb.ins hx
    clear ge
    have bx := bx.trans gb
    have tx := tx.trans gt
    have hx := hx2
    have hD := hD.mono gt fun o e => gb _ _ ndx e
    have fD := fD.mono gt fun o e => gb _ _ nfx e
    have htr := gt _ _ htr
    have hhd := gt _ _ hhd
    have hgr := GrsV.mono hgr gt
    have hce := DictAt.mono hce gt fun o e => gb _ _ ncx e
    have hru := DictAt.mono hru gt fun o e => gb _ _ nrx e
    have hpu := gt _ _ hpu
    have eD : D = ⟨D.settled, []⟩ := by
      cases D
      simp only at hloose
      rw [hloose]
    have q1 : (newSto plates slots D.settled).groups = readG D.settled slots (slots + 1) hf t 0 := by
      show readG D.settled slots (slots + 1) ((bestHead (heads D.settled)).getD 1 0) ((bestHead (heads D.settled)).getD 2 0) 0 = _
      rw [hb]
      rfl
    refine k ⟨dx, d, f, tr, hd, gr, ce, ru, pu⟩ _ ⟨hx, ?_, ?_, ⟨[], htr, AllV.nil⟩, ?_, ?_, ?_, hru, ⟨[], hpu, AllV.nil⟩, ncr, ?_, ?_⟩ bx nf0 nce0 nru0 rfl
    · show DiskAt A _ d ⟨D.settled, []⟩
      rw [← eD]; exact hD
    · show DiskAt A _ f ⟨D.settled, []⟩
      rw [← eD]; exact fD
    · show _ = some (HO.tup [V.int ((bestHead (heads D.settled)).getD 0 0), V.int ((bestHead (heads D.settled)).getD 1 0), V.int ((bestHead (heads D.settled)).getD 2 0)])
      rw [hb]; exact hhd
    · rw [q1]; exact hgr
    · show DictAt _ ce plates (readHome D.settled plates slots (newSto plates slots D.settled).groups)
      rw [q1]; exact hce
    · intro z
      have : d = f := z
      exact hD0.there (this ▸ nf0)
    · refine ⟨hs0, hs1, hp1, hlen, ?_, fun p v z => (by cases z), fun y hy => (by cases hy), Nat.zero_le _, Nat.zero_le _, ?_⟩
      · rw [q1]; exact hok
      · rw [q1]
        have := readG_len D.settled slots (slots + 1) hf t 0
        show _ ≤ 100 + 0
        omega
end
end PG

set_option Elab.async false
set_option linter.all false
set_option autoImplicit false
set_option maxRecDepth 100000
set_option maxHeartbeats 4000000
namespace PG
open PySem L2
def All8 (M : DM) : Prop := ∀ p v, M p = some v → v.length = 8
theorem chg_ok8 {M : DM} {n : Nat} (h : All8 M) : ChOk n (chg M n) := fun e he => by
  have := mem_chg.mp he
  exact ⟨this.1, this.2.1, h _ _ this.2.2⟩
theorem chg_nodup (M : DM) (n : Nat) : ((chg M n).map (·.1)).Nodup := by rw [chg_keys]; exact keysOf_nodup M n
section
variable {P : Program} {w : World} {K : PySem.W.Frag} {mg : Str → Option Value} {base : Heap} {A : Adr}
/-! ## checked_changes -/
def spChecked : Sp := fun vs H Q _ => ∃ (plates : Nat) (d : Addr) (M : DM), vs = [.int plates, .ref d] ∧ DictAt H d plates M ∧ All8 M ∧ plates ≤ 50 ∧ ∀ c H', Same H H' → EntsV H' c (chg M plates) → Q (.ref c) H'
theorem sc_check : FnScope ["plates", "changes", "plate", "found"] ["plates", "changes"] (defScope (top 16)) := ⟨rfl, rfl, rfl, by decide +kernel, rfl, by decide +kernel, by decide +kernel⟩
theorem ok_checked_changes (T : Txt K mg A) : FnOk P w K mg base CX0 3 A.a_checked_changes A.d_checked_changes ["plates", "changes"] spChecked := by
  refine T.t_checked_changes.F.ok sc_check (fun vs H Q E h => ?_) (fun cdv A0 outer s H vs Q E hr h => ?_)
  · obtain ⟨plates, d, M, rfl, _⟩ := h
    rfl
  · obtain ⟨plates, d, M, rfl, hd, h8, hp50, k⟩ := h
    refine ⟨_, pss_cons (ps_lock (ps_for PassesOwn.never rfl (pi_keys (pv 1)) (pg_name (i := 2) sc_check.nd rfl (Or.inl rfl))
        (pss_one (ps_if (pt_not (pt_val (pe_call (ok_is_below T) hr rfl T.t_is_below.g T.t_is_below.F.kp T.t_is_below.b .nil pass0 (pa_cons (pv 2) (pa_cons (pv 0) pa_nil))))) (pss_one ps_never) pss_nil))))
      (pss_cons (ps_set (i := 3) sc_check.nd rfl (Or.inl rfl) (pe_lst pa_nil))
      (pss_cons (ps_for PassesOwn.never rfl (pi_list (pe_callB cr_sortedI (by rfl) T.z_sorted (by decide +kernel) (pa_cons (pe_callTy (call_list_dK rfl) (by rfl) T.z_list (by decide +kernel) (pa_cons (pv 1) pa_nil)) pa_nil))) (pg_name (i := 2) sc_check.nd rfl (Or.inl rfl))
        (pss_cons (ps_if (pt_not (pt_val (pe_call (ok_is_cells T) hr rfl T.t_is_cells.g T.t_is_cells.F.kp T.t_is_cells.b .nil pass0 (pa_cons (pe_dget (hu_of hr) (pv 1) (pv 2) (fun _ _ => rfl)) pa_nil)))) (pss_one ps_never) pss_nil)
        (pss_one (ps_expr (pe_bm PySem.F.plainAttrs_list PySem.F.slot_list_append PySem.F.type_list_append mt_append (pv 3) (pa_cons (pe_tup (pa_cons (pv 2) (pa_cons (pe_dget (hu_of hr) (pv 1) (pv 2) (fun _ _ => rfl)) pa_nil))) pa_nil))))))
      (pss_one (ps_ret (pe_callTy call_tuple_of (by rfl) T.z_tuple (by decide +kernel) (pa_cons (pv 3) pa_nil)))))), ?_⟩
    have hd0 := hd
    obtain ⟨kvs, hdd, hk⟩ := hd
    obtain ⟨ks, ks1, ks2, ks3, ks4⟩ := hk.keys
    refine ⟨d, .dK kvs, hdd, trivial, fun od => ⟨_, rfl, d, od, rfl, .inl ⟨kvs, upd_same, ?_⟩⟩⟩
    refine for_it (walk_keys (d := d) (o := od) (kvs := kvs)) (fun i σ H' => ∃ v2 : Option V, σ = [some (.int plates), some (.ref d), v2, none] ∧ H' = upd H d (.frz od (.dK kvs))) ⟨none, rfl, rfl⟩ (fun i σ H' _ ⟨_, _, q⟩ => by rw [q]; exact upd_same) ?_ ?_
    · rintro i y σ H' H3 hi ⟨v2, rfl, rfl⟩ ⟨rfl, key, v, he, rfl⟩
      obtain ⟨p, ns, e1, p0, p1, hM, hv⟩ := hk.entry he
      have e1 : key = Sum.inl p := e1
      subst e1
      refine ⟨_, rfl, _, rfl, p, _, rfl, _, rfl, ?_⟩
      rw [inB_t p0 p1]
      exact iteF ⟨_, rfl, rfl⟩
    rintro σ H' ⟨v2, rfl, rfl⟩
    refine ⟨upd_same, ?_⟩
    have eH : upd (upd H d (.frz od (.dK kvs))) d (.dK kvs) = H := by
      funext b
      by_cases hb : b = d
      · subst hb; rw [upd_same, hdd]
      · rw [upd_ne hb, upd_ne hb]
    rw [eH]
    refine ⟨Nat.zero_le _, fun f nf => ?_⟩
    obtain ⟨H1, e1, s1, hf⟩ := newE (.lst []) nf
    rw [e1]
    refine ⟨_, rfl, d, kvs, rfl, s1 _ _ hdd, fun l nl => ?_⟩
    have ek : (kvs.map fun kv => kV kv.1) = ks.map V.int := by
      have : (kvs.map fun kv => kV kv.1) = (kvs.map (·.1)).map kV := by rw [List.map_map]; rfl
      rw [this, ks1, List.map_map]
      rfl
    rw [ek]
    obtain ⟨H2, e2, s2, hl⟩ := newE (.lst (ks.map V.int)) nl
    rw [e2]
    refine ⟨l, ks, rfl, SqL.of hl, fun ks' q hperm hsort nq => ?_⟩
    have hk' := keys_sorted ks2 hperm hsort ks3 ks4
    subst hk'
    obtain ⟨H3, e3, s3, hq⟩ := newE (.lst ((keysOf M plates).map V.int)) nq
    rw [e3]
    have s13 := s1.trans (s2.trans s3)
    have hqf : q ≠ f := fun z => by rw [z] at nq; rw [s2 _ _ hf] at nq; cases nq
    refine ⟨q, rfl, ⟨_, SqL.of hq⟩, for_list (K := K) (a := q) (xs := (keysOf M plates).map V.int) (fun i σ H' => ∃ (v2 : Option V) (acc : List V), σ = [some (.int plates), some (.ref d), v2, some (.ref f)] ∧ Same H H' ∧ H' q = some (.lst ((keysOf M plates).map V.int)) ∧ H' f = some (.lst acc) ∧ AllV (EntV H') acc ((chg M plates).take i))
      ⟨v2, [], rfl, s13, hq, s3 _ _ (s2 _ _ hf), AllV.nil⟩ (fun i σ H' _ ⟨_, _, _, _, z, _⟩ => SqL.of z) ?_ ?_⟩
    · rintro i y σ H' hi ⟨v2, acc, rfl, s4, hq4, hf4, hacc⟩
      obtain ⟨p, hp, rfl⟩ := ints_get hi
      have hil := (List.getElem?_eq_some_iff.mp hp).1
      obtain ⟨p0, p1, p2⟩ := mem_keysOf.mp (List.mem_of_getElem? hp)
      obtain ⟨ns, hns⟩ := Option.isSome_iff_exists.mp p2
      have hn8 := h8 _ _ hns
      obtain ⟨v, hg, hv⟩ := (hd0.same s4).get hns
      refine ⟨_, rfl, _, rfl, d, v, rfl, hg, v, ns, rfl, hv, by omega, fun H5 s5 => ⟨_, rfl, ?_⟩⟩
      rw [decide_eq_true hn8]
      obtain ⟨v', hg', hv'⟩ := (hd0.same (s4.trans s5)).get hns
      have hf5 := s5 _ _ hf4
      refine iteF ⟨_, rfl, .inl ⟨rfl, _, SqL.of hf5⟩, _, rfl, _, rfl, _, rfl, d, v', rfl, hg', line1000 (by show 2 ≤ 1000000; decide), fun t nt => ?_⟩
      obtain ⟨H6, e6, s6, ht⟩ := newE (.tup [V.int p, v']) nt
      rw [e6]
      have hf6 := s6 _ _ hf5
      have te : TupE H6 (upd H6 f (.lst (acc ++ [V.ref t]))) := TupE.upd fun z r => by rw [hf6] at r; cases r
      have hce : (chg M plates)[i]? = some (p, ns) := by
        unfold chg
        rw [List.getElem?_map, hp]
        show some (p, (M p).getD []) = _
        rw [hns]
        rfl
      have klen : (keysOf M plates).length ≤ plates := keysOf_le _ _
      refine ⟨f, acc, _, rfl, rfl, hf6, line_lt ?_, _, _, rfl, Same.upd0 (s4.trans (s5.trans s6)) nf, ?_, upd_same, ?_⟩
      · rw [hacc.len, List.length_take, chg_length]
        omega
      · rw [upd_ne hqf]; exact s6 _ _ (s5 _ _ hq4)
      · rw [take_snoc hce]
        exact AllV.snoc (hacc.mono fun _ _ z => z.mono ((Same.tups (s5.trans s6)).trans te)) ⟨t, v', rfl, te _ _ ht, hv'.mono ((Same.tups s6).trans te)⟩
    · rintro σ H' ⟨v2, acc, rfl, s4, hq4, hf4, hacc⟩
      rw [List.length_map, ← chg_length, List.take_length] at hacc
      refine ⟨_, rfl, f, acc, rfl, .inl ⟨SqL.of hf4, fun c nc => ?_⟩⟩
      obtain ⟨H5, e5, s5, hc⟩ := newE (.tup acc) nc
      rw [e5]
      exact k c H5 (s4.trans s5) ⟨acc, hc, hacc.mono fun _ _ z => z.mono (Same.tups s5)⟩
/-! ## Store.sync -/
def spSync (A : Adr) : Sp := fun vs H Q _ => ∃ (x : Addr) (S : Sto) (a : SAdr), vs = [.ref x] ∧ StoreAt A H x S a ∧ S.trace.length < 60000 ∧ S.pushed.length < 800 ∧ (keysOf S.run S.plates).length ≤ S.slots ∧ ∀ a' H', StoreAt A H' x (syncS S) a' → Chg x a a' H H' → Q .non H'
theorem sc_sync : FnScope ["self"] ["self"] (defScope (inClass (top 40) 10)) := ⟨rfl, rfl, rfl, by decide +kernel, rfl, by decide +kernel, by decide +kernel⟩
theorem ok_Store_sync (T : Txt K mg A) : FnOk P w K mg base CX0 8 A.a_Store_sync A.d_Store_sync ["self"] (spSync A) := by
  refine T.m_Store_sync.F.ok sc_sync (fun vs H Q E h => ?_) (fun cdv A0 outer s H vs Q E hr h => ?_)
  · obtain ⟨x, S, a, rfl, _⟩ := h
    rfl
  · obtain ⟨x, S, a, rfl, h, hz, hpz, hks, k⟩ := h
    refine ⟨_, pss_cons (ps_expr (pe_meth0 (pv 0) T.k_Store.c T.m_Store_push.M (ok_Store_push T) hr T.m_Store_push.b .nil pass0)) (pss_one (ps_expr (pe_meth0 (pv 0) T.k_Store.c T.m_Store_settle.M (ok_Store_settle T) (hr.mono (by decide)) T.m_Store_settle.b .nil pass0))), ?_⟩
    refine ⟨_, rfl, x, a.dx, _, rfl, h.ins, SN_no (by decide +kernel), x, S, a, rfl, h, by omega, hpz, fun a1 H1 h1 c1 => ?_⟩
    refine ⟨_, rfl, x, a1.dx, _, rfl, h1.ins, SN_no (by decide +kernel), x, _, a1, rfl, h1, ?_, fun a2 H2 h2 c2 => k a2 H2 h2 (c1.trans c2)⟩
    have := (pushS_len S hks).1
    have := h.wf.s1
    have := h.wf.p1
    omega
/-! ## open_store -/
def spOpen (A : Adr) : Sp := fun vs H Q _ => ∃ (d : Addr) (plates slots : Nat) (D : Dk), vs = [.ref d, .int plates, .int slots] ∧ DiskAt A H d D ∧ D.loose = [] ∧ CanOpen plates slots D.settled ∧
  ∀ x a S' H', Same H H' → H x = none → StoreAt A H' x S' a → S'.cells = (newSto plates slots D.settled).cells → S'.plates = plates → Q (.ref x) H'
theorem sc_open : FnScope ["disk", "plates", "slots", "found"] ["disk", "plates", "slots"] (defScope (top 42)) := ⟨rfl, rfl, rfl, by decide +kernel, rfl, by decide +kernel, by decide +kernel⟩
theorem ok_open_store (T : Txt K mg A) : FnOk P w K mg base CX0 8 A.a_open_store A.d_open_store ["disk", "plates", "slots"] (spOpen A) := by
  refine T.t_open_store.F.ok sc_open (fun vs H Q E h => ?_) (fun cdv A0 outer s H vs Q E hr h => ?_)
  · obtain ⟨d, plates, slots, D, rfl, _⟩ := h
    rfl
  · obtain ⟨d, plates, slots, D, rfl, hD, hloose, hcan, k⟩ := h
    refine ⟨_, pss_cons (ps_set (i := 3) sc_open.nd rfl (Or.inl rfl) (pe_make T.k_Store.M (ok_Store_init T) hr rfl T.k_Store.g T.k_Store.b .nil pass0 (pa_cons (pv 1) (pa_cons (pv 2) (pa_cons (pv 0) pa_nil)))))
      (pss_cons (ps_expr (pe_meth0 (pv 3) T.k_Store.c T.m_Store_write_home.M (ok_Store_write_home T) (hr.mono (by decide)) T.m_Store_write_home.b .nil pass0))
      (pss_cons (ps_expr (pe_meth0 (pv 3) T.k_Store.c T.m_Store_turn_head.M (ok_Store_turn_head T) (hr.mono (by decide)) T.m_Store_turn_head.b .nil pass0))
      (pss_one (ps_ret (pv 3))))), ?_⟩
    refine ⟨_, rfl, _, rfl, _, rfl, fun f fx nf nfx ne => ?_⟩
    have s0 : Same H (upd (upd H fx (.own f)) f (.ins A.c_Store fx [])) := fun b o e => by
      rw [upd_ne (ne_of_none e nf), upd_ne (ne_of_none e nfx)]
      exact e
    refine ⟨f, fx, d, plates, slots, D, rfl, upd_same, hD.same s0, hloose, hcan, fun a H1 h1 b1 n1 n2 n3 n4 => ⟨rfl, ?_⟩⟩
    have s1 : Same H H1 := fun b o e => b1 b o (ne_of_none e nf) (s0 b o e)
    have tr0 : (newSto plates slots D.settled).trace.length = 0 := rfl
    refine ⟨_, rfl, f, a.dx, _, rfl, h1.ins, SN_no (by decide +kernel), f, _, a, rfl, h1, by rw [tr0]; decide, fun a2 H2 h2 c2 => ?_⟩
    have tr1 : (writeHomeS (newSto plates slots D.settled)).trace.length ≤ 51 := by
      unfold writeHomeS
      show ((Sto.evs _ _).trace ++ [_]).length ≤ 51
      rw [List.length_append, evs_len]
      have := homeEvs_len (newSto plates slots D.settled).slots (newSto plates slots D.settled).plates (PG.mg (newSto plates slots D.settled).groups)
      have e : (newSto plates slots D.settled).plates = plates := rfl
      have := hcan.p1
      rw [tr0]
      show 0 + _ + 1 ≤ 51
      omega
    refine ⟨_, rfl, f, a2.dx, _, rfl, h2.ins, SN_no (by decide +kernel), f, _, a2, rfl, h2, by omega, fun a3 H3 h3 c3 => ?_⟩
    have c13 := c2.trans c3
    have s3 : Same H H3 := fun b o e => c13.keep b o (ne_of_none e nf) (fun z => ?_) (fun z => ?_) (fun z => ?_) (s1 b o e)
    · refine ⟨_, rfl, k f a3 _ H3 s3 nf h3 ?_ ?_⟩
      · unfold turnHeadS writeHomeS
        rw [evs_eq]
        rfl
      · unfold turnHeadS writeHomeS
        rw [evs_eq]
        rfl
    · have := Same.free s0 n1
      rw [← z, e] at this; cases this
    · have := Same.free s0 n2
      rw [← z, e] at this; cases this
    · have := Same.free s0 n3
      rw [← z, e] at this; cases this
end
end PG

set_option Elab.async false
set_option linter.all false
set_option autoImplicit false
set_option maxRecDepth 100000
set_option maxHeartbeats 4000000
namespace PG
open PySem L2
theorem short_spl {s : List Pl} {e : Int × Pl} (h : Short s) (he : e.2.length ≤ 1000) : Short (spl s e) := fun v hv => by
  rcases List.mem_or_eq_of_mem_set hv with z | z
  · exact h v z
  · rw [z]; exact he
theorem short_flushL : ∀ {l : List (Int × Pl)} {s : List Pl}, Short s → (∀ e ∈ l, e.2.length ≤ 1000) → Short (flushL s l)
  | [], _, h, _ => h
  | e :: l, s, h, hl => short_flushL (l := l) (short_spl h (hl e List.mem_cons_self)) fun x hx => hl x (List.mem_cons_of_mem _ hx)
theorem short_rep (n : Nat) : Short (List.replicate n []) := fun v hv => by
  rw [(List.mem_replicate.mp hv).2]
  exact Nat.zero_le _
theorem Opn.can {plates slots : Nat} {s : List Pl} {h : DM} (O : Opn plates slots s h) (h1 : slots ≤ 50) (h2 : plates ≤ 50) (hs : Short s) : CanOpen plates slots s := by
  obtain ⟨_, a, b, _, _, c, d, e⟩ := O.reads
  exact ⟨c, h1, h2, d, hs, a, e, b⟩
theorem keys_full {M : DM} {n : Nat} (h : ∀ p : Int, 0 ≤ p → p < n → (M p).isSome = true) : (keysOf M n).length = n := by
  unfold keysOf
  rw [List.filter_eq_self.mpr, List.length_map, List.length_range]
  intro p hp
  obtain ⟨i, hi, rfl⟩ := List.mem_map.mp hp
  have := List.mem_range.mp hi
  exact h _ (by omega) (by omega)
section
variable {P : Program} {w : World} {K : PySem.W.Frag} {mg : Str → Option Value} {base : Heap} {A : Adr}
/-! ## fresh_store -/
def spFresh (A : Adr) : Sp := fun vs H Q _ => ∃ (plates slots : Nat) (hd : Addr) (M : DM), vs = [.int plates, .int slots, .ref hd] ∧ DictAt H hd plates M ∧ All8 M ∧ (∀ p : Int, 0 ≤ p → p < plates → (M p).isSome = true) ∧ 0 < slots ∧ slots ≤ 50 ∧ plates ≤ 50 ∧
  ∀ x a H', Same H H' → H x = none → StoreAt A H' x (newSto plates slots (freshL plates slots (chg M plates))) a → H a.dev = none → H a.cel = none → H a.run = none → H a.bg = none → Q (.ref x) H'
abbrev fsN : List Str := ["plates", "slots", "home", "told", "disk", "plate", "cells"]
theorem sc_fresh : FnScope fsN ["plates", "slots", "home"] (defScope (top 41)) := ⟨rfl, rfl, rfl, by decide +kernel, rfl, by decide +kernel, by decide +kernel⟩
theorem ok_fresh_store (T : Txt K mg A) : FnOk P w K mg base CX0 8 A.a_fresh_store A.d_fresh_store ["plates", "slots", "home"] (spFresh A) := by
  obtain ⟨tw, hw⟩ := T.v_HEADS
  refine T.t_fresh_store.F.ok sc_fresh (fun vs H Q E h => ?_) (fun cdv A0 outer s H vs Q E hr h => ?_)
  · obtain ⟨plates, slots, hd, M, rfl, _⟩ := h
    rfl
  · obtain ⟨plates, slots, hd, M, rfl, hM, h8, hall, hs0, hs50, hp50, k⟩ := h
    refine ⟨_, pss_cons (ps_set (i := 3) sc_fresh.nd rfl (Or.inl rfl) (pe_call (ok_checked_changes T) (hr.mono (by decide)) rfl T.t_checked_changes.g T.t_checked_changes.F.kp T.t_checked_changes.b .nil pass0 (pa_cons (pv 0) (pa_cons (pv 2) pa_nil))))
      (pss_cons (ps_if (pt_cmpR op_lt (pe_callB call_len_seq (by rfl) T.z_len PySem.boot_len (pa_cons (pv 3) pa_nil)) (pv 0) (nomark _)) (pss_one ps_never) pss_nil)
      (pss_cons (ps_set (i := 4) sc_fresh.nd rfl (Or.inl rfl) (pe_make T.k_Disk.M (ok_Disk_init T) (hr.mono (by decide)) rfl T.k_Disk.g T.k_Disk.b .nil pass0 (pa_cons (pe_op op_add (pe_op op_add (pe_gint rfl hw) (pv 1)) (pv 0)) pa_nil)))
      (pss_cons (ps_for PassesOwn.never rfl (pi_tup (pv 3)) (pg_tup rfl (pgs_cons (pg_name (i := 5) sc_fresh.nd rfl (Or.inl rfl)) (pgs_cons (pg_name (i := 6) sc_fresh.nd rfl (Or.inl rfl)) pgs_nil)))
        (pss_one (ps_expr (pe_meth (pv 4) T.k_Disk.c T.m_Disk_write.M (ok_Disk_write T) (hr.mono (by decide)) T.m_Disk_write.b .nil pass0 (pa_cons (pe_call (ok_home_plate T) (hr.mono (by decide)) rfl T.t_home_plate.g T.t_home_plate.F.kp T.t_home_plate.b .nil pass0 (pa_cons (pv 1) (pa_cons (pv 5) pa_nil))) (pa_cons (pv 6) pa_nil))))))
      (pss_cons (ps_expr (pe_meth (pv 4) T.k_Disk.c T.m_Disk_write.M (ok_Disk_write T) (hr.mono (by decide)) T.m_Disk_write.b .nil pass0 (pa_cons (pe_call (ok_head_plate T) (hr.mono (by decide)) rfl T.t_head_plate.g T.t_head_plate.F.kp T.t_head_plate.b .nil pass0 (pa_cons pe_int pa_nil)) (pa_cons (pe_tup (pa_cons pe_int (pa_cons pe_int (pa_cons pe_int pa_nil)))) pa_nil))))
      (pss_cons (ps_expr (pe_meth0 (pv 4) T.k_Disk.c T.m_Disk_barrier.M (ok_Disk_barrier T) (hr.mono (by decide)) T.m_Disk_barrier.b .nil pass0))
      (pss_one (ps_ret (pe_make T.k_Store.M (ok_Store_init T) hr rfl T.k_Store.g T.k_Store.b .nil pass0 (pa_cons (pv 0) (pa_cons (pv 1) (pa_cons (pv 4) pa_nil)))))))))))
      , ?_⟩
    refine ⟨_, rfl, _, rfl, plates, hd, M, rfl, hM, h8, hp50, fun c H1 s1 hc => ?_⟩
    obtain ⟨ys, hcy, hys⟩ := hc
    have clen : (chg M plates).length = plates := by rw [chg_length, keys_full hall]
    refine ⟨_, rfl, c, ys, rfl, .inr (SqT.of hcy), _, rfl, _, _, rfl, rfl, _, rfl, ?_⟩
    rw [hys.len, clen, decide_eq_false (show ¬ ((plates : Int) < plates) by omega)]
    refine iteF ⟨_, rfl, _, _, rfl, rfl, _, rfl, _, _, rfl, rfl, fun f fx nf nfx ne => ?_⟩
    have s2 : Same H1 (upd (upd H1 fx (.own f)) f (.ins A.c_Disk fx [])) := fun b o e => by
      rw [upd_ne (ne_of_none e nf), upd_ne (ne_of_none e nfx)]
      exact e
    have nf0 : H f = none := Same.free s1 nf
    refine ⟨f, fx, 2 + slots + plates, congrArg (fun z => [V.ref f, V.int z]) (show (2 : Int) + (slots : Int) + (plates : Int) = ((2 + slots + plates : Nat) : Int) by omega), upd_same, by omega, by omega, fun H3 hf3 b3 => ⟨rfl, ?_⟩⟩
    have s3 : Same H1 H3 := fun b o e => b3 b o (ne_of_none e nf) (s2 b o e)
    refine ⟨_, rfl, c, rfl, ⟨_, SqT.of (s3 _ _ hcy)⟩, for_tup (K := K) (a := c) (xs := ys) (fun i σ H' => ∃ (v5 v6 : Option V), σ = [some (.int plates), some (.int slots), some (.ref hd), some (.ref c), some (.ref f), v5, v6] ∧ Same H1 H' ∧ DiskAt A H' f ⟨List.replicate (2 + slots + plates) [], ((chg M plates).take i).map fun e => (homeP slots e.1, e.2)⟩)
      ⟨none, none, rfl, s3, hf3⟩ (fun i σ H' _ ⟨_, _, _, z, _⟩ => SqT.of (z _ _ hcy)) ?_ ?_⟩
    · rintro i y σ H' hi ⟨v5, v6, rfl, s4, hf4⟩
      obtain ⟨e, he, b, z, rfl, hb, hz⟩ := hys.at hi
      have hil := (List.getElem?_eq_some_iff.mp he).1
      have hok := chg_ok8 (n := plates) h8 e (List.mem_of_getElem? he)
      obtain ⟨⟨gx, ga, gl, hg, _⟩, _⟩ := id hf4
      have hno := hf4.notTup
      refine ⟨b, _, rfl, SqT.of (s4 _ _ hb), rfl, _, _, rfl, _, _, rfl, rfl, ?_⟩
      refine ⟨_, rfl, f, gx, _, rfl, hg, DN_no _ _ (by decide +kernel), _, rfl, _, rfl, slots, e.1, rfl, _, rfl, f, _, homeP slots e.1, z, e.2, rfl, hf4, hz.mono (Same.tups s4), by unfold homeP; omega, ?_, ?_, fun H5 hf5 b5 => ?_⟩
      · show homeP slots e.1 < ((List.replicate (2 + slots + plates) ([] : Pl)).length : Int)
        rw [List.length_replicate]
        unfold homeP
        omega
      · rw [List.length_map, List.length_take]
        omega
      · refine ⟨_, _, rfl, Same.but s4 b5 nf, ?_⟩
        rw [take_snoc he, List.map_append]
        exact hf5
    rintro σ H' ⟨v5, v6, rfl, s4, hf4⟩
    rw [hys.len, List.take_length] at hf4
    obtain ⟨⟨gx, ga, gl, hg, _⟩, _⟩ := id hf4
    refine ⟨_, rfl, f, gx, _, rfl, hg, DN_no _ _ (by decide +kernel), 0, rfl, line1000 (by show 3 ≤ 1000000; decide), fun q nq => ?_⟩
    obtain ⟨H5, e5, s5, hq⟩ := newE (.tup [V.int 0, V.int 0, V.int 0]) nq
    rw [e5]
    have hf5 := hf4.same s5
    refine ⟨f, _, 0, .ref q, [0, 0, 0], rfl, hf5, ⟨q, rfl, hq⟩, by decide, ?_, ?_, fun H6 hf6 b6 => ?_⟩
    · show (0 : Int) < ((List.replicate (2 + slots + plates) ([] : Pl)).length : Int)
      rw [List.length_replicate]
      omega
    · rw [List.length_map]
      omega
    obtain ⟨⟨gx6, ga6, gl6, hg6, _⟩, _⟩ := id hf6
    refine ⟨_, rfl, f, gx6, _, rfl, hg6, DN_no _ _ (by decide +kernel), f, _, rfl, hf6, fun H7 hf7 b7 => ?_⟩
    have s7 : Same H1 H7 := Same.but (Same.but (s4.trans s5) b6 nf) b7 nf
    have s07 := s1.trans s7
    refine ⟨_, rfl, _, rfl, _, rfl, fun x xx nx nxx ne2 => ?_⟩
    have s8 : Same H7 (upd (upd H7 xx (.own x)) x (.ins A.c_Store xx [])) := fun b o e => by
      rw [upd_ne (ne_of_none e nx), upd_ne (ne_of_none e nxx)]
      exact e
    have R := fresh_rep (plates := plates) hs0 (chg_ok8 (n := plates) h8) (chg_nodup M plates) fun p p0 p1 => by
      rw [chg_keys]
      exact mem_keysOf.mpr ⟨p0, p1, hall p p0 p1⟩
    have O : Opn plates slots (freshL plates slots (chg M plates)) _ := ⟨_, _, _, _, _, R, rfl⟩
    have hcan : CanOpen plates slots (freshL plates slots (chg M plates)) := O.can hs50 hp50 (by
      unfold freshL
      refine short_flushL (short_rep _) fun e he => ?_
      rcases List.mem_append.mp he with z | z
      · obtain ⟨y, hy, rfl⟩ := List.mem_map.mp z
        have := (chg_ok8 (n := plates) h8 y hy).2.2
        show y.2.length ≤ 1000
        omega
      · rw [List.mem_singleton] at z
        subst z
        show 3 ≤ 1000
        decide)
    have hf8 : DiskAt A H7 f ⟨freshL plates slots (chg M plates), []⟩ := hf7
    refine ⟨x, xx, f, plates, slots, ⟨freshL plates slots (chg M plates), []⟩, rfl, upd_same, hf8.same s8, rfl, hcan, fun a H9 h9 b9 n1 n2 n3 n4 => ⟨rfl, ?_⟩⟩
    have s9 : Same H7 H9 := fun b o e => b9 b o (ne_of_none e nx) (s8 b o e)
    have fr : ∀ {b : Addr}, (upd (upd H7 xx (.own x)) x (.ins A.c_Store xx [])) b = none → H b = none := fun {b} z => Same.free s07 (Same.free s8 z)
    exact k x a H9 (s07.trans s9) (Same.free s07 nx) h9 (fr n1) (fr n2) (fr n3) (by rw [n4]; exact nf0)
end
end PG

set_option Elab.async false
set_option linter.all false
set_option autoImplicit false
set_option maxRecDepth 100000
set_option maxHeartbeats 4000000
namespace PG
open PySem L2
theorem pu_at {H : Hp} {xs : List V} {l : List (Nat × Nat × Nat)} {k : Nat} (h : AllV (PuV H) xs l) (h0 : 0 < k) (h1 : k ≤ l.length) : ∃ a, xs[k - 1]? = some (.ref a) ∧ H a = some (.tup [.int (l.getD (k - 1) (0, 0, 0)).1, .int (l.getD (k - 1) (0, 0, 0)).2.1, .int (l.getD (k - 1) (0, 0, 0)).2.2]) := by
  have hlt : k - 1 < l.length := by omega
  obtain ⟨v, e, a, rfl, ha⟩ := h.at' (List.getElem?_eq_getElem hlt)
  refine ⟨a, e, ?_⟩
  rw [List.getD_eq_getElem?_getD, List.getElem?_eq_getElem hlt]
  exact ha
def evBar : Ev → Bool
  | .bar => true
  | .wr _ _ => false
theorem ev_name {H : Hp} {v : V} {e : Ev} (h : EvV H v e) : ∃ a xs, v = .ref a ∧ H a = some (.tup xs) ∧ ∃ s : Str, xs[0]? = some (.str s) ∧ (decide (V.str s = V.str "barrier") = evBar e) := by
  cases e with
  | bar =>
    obtain ⟨a, rfl, ha⟩ := h
    exact ⟨a, _, rfl, ha, _, rfl, decide_eq_true rfl⟩
  | wr p ns =>
    obtain ⟨a, x, rfl, ha, _⟩ := h
    exact ⟨a, _, rfl, ha, _, rfl, decide_eq_false (by decide +kernel)⟩
theorem isBar_at {t : List Ev} {i : Nat} {e : Ev} (h : t[i]? = some e) : isBar t i = evBar e := by
  unfold isBar
  rw [h]
  cases e <;> rfl
theorem written_take {l : List (Nat × Nat × Nat)} {i m : Nat} {e : Nat × Nat × Nat} (h : l[i]? = some e) : ((l.take (i + 1)).filter fun x => decide (x.2.1 ≤ m)).length = ((l.take i).filter fun x => decide (x.2.1 ≤ m)).length + (if e.2.1 ≤ m then 1 else 0) := by
  rw [take_snoc h, List.filter_append, List.length_append]
  by_cases hp : e.2.1 ≤ m <;> simp [hp]
section
variable {P : Program} {w : World} {K : PySem.W.Frag} {mg : Str → Option Value} {base : Heap} {A : Adr}
/-! ## last_barrier -/
def spLastB : Sp := fun vs H Q _ => ∃ (ta : Addr) (t : List Ev) (m : Nat), vs = [.ref ta, .int m] ∧ TrV H ta t ∧ m ≤ t.length ∧ t.length ≤ 100000 ∧ Q (.int (lastBar t m)) H
theorem sc_lastb : FnScope ["trace", "moment", "found", "at"] ["trace", "moment"] (defScope (top 44)) := ⟨rfl, rfl, rfl, by decide +kernel, rfl, by decide +kernel, by decide +kernel⟩
theorem ok_last_barrier (T : Txt K mg A) : FnOk P w K mg base CX0 1 A.a_last_barrier A.d_last_barrier ["trace", "moment"] spLastB := by
  refine T.t_last_barrier.F.ok sc_lastb (fun vs H Q E h => ?_) (fun cdv A0 outer s H vs Q E hr h => ?_)
  · obtain ⟨ta, t, m, rfl, _⟩ := h
    rfl
  · obtain ⟨ta, t, m, rfl, ⟨es, ht, hes⟩, hm, hz, k⟩ := h
    refine ⟨_, pss_cons (ps_set (i := 2) sc_lastb.nd rfl (Or.inl rfl) pe_int)
      (pss_cons (ps_for PassesOwn.never rfl (pi_range1 rfl T.z_range (pa_cons (pv 1) pa_nil)) (pg_name (i := 3) sc_lastb.nd rfl (Or.inl rfl))
        (pss_one (ps_if (pt_cmpR op_eq (pe_ix ix_tup (pe_ix ix_tup (pv 0) (pv 3) (fun _ _ => rfl)) pe_int (fun _ _ => rfl)) pe_str (nomark _)) (pss_one (ps_set (i := 2) sc_lastb.nd rfl (Or.inl rfl) (pe_op op_add (pv 3) pe_int))) pss_nil)))
      (pss_one (ps_ret (pv 2)))), ?_⟩
    have big : (100000 : Int) < 2 ^ 62 := by decide
    have low : -(2 ^ 62) ≤ (0 : Int) := by decide
    refine ⟨_, rfl, m, rfl, by omega, by omega, for_range (fun i σ H' => ∃ v3 : Option V, σ = [some (.ref ta), some (.int m), some (.int (lastBar t i)), v3] ∧ H' = H) ⟨none, rfl, rfl⟩ ?_ ?_⟩
    · rintro i σ H' hi ⟨v3, rfl, rfl⟩
      rw [Int.zero_add]
      have hi : i < m := hi
      have hlt : i < t.length := by omega
      obtain ⟨v, hv, hev⟩ := hes.at' (List.getElem?_eq_getElem hlt)
      obtain ⟨a, xs, rfl, ha, s0, hs0, hd⟩ := ev_name hev
      refine ⟨_, rfl, _, rfl, ta, es, (i : Int), _, rfl, rfl, SqT.of ht, atI_of rfl hv, a, xs, 0, _, rfl, rfl, SqT.of ha, atI_of (i := 0) rfl hs0, rfl, _, rfl, ?_⟩
      rw [hd]
      have hb := isBar_at (List.getElem?_eq_getElem hlt)
      rw [← hb]
      by_cases hbar : isBar t i = true
      · rw [hbar]
        refine iteT ⟨_, rfl, _, _, rfl, rfl, some (.int (i : Nat)), ?_, rfl⟩
        have : lastBar t (i + 1) = i + 1 := by
          conv => lhs; unfold lastBar
          rw [hbar, if_pos rfl]
        rw [this]
        rfl
      · rw [show isBar t i = false by simpa using hbar]
        refine iteF ⟨some (.int (i : Nat)), ?_, rfl⟩
        have : lastBar t (i + 1) = lastBar t i := by
          conv => lhs; unfold lastBar
          rw [if_neg hbar]
        rw [this]
        rfl
    · rintro σ H' ⟨v3, rfl, rfl⟩
      exact ⟨_, rfl, k⟩
/-! ## need_moment, written_groups, settled_groups, deeds_behind -/
def spNeed (A : Adr) : Sp := fun vs H Q _ => ∃ (x : Addr) (S : Sto) (a : SAdr) (m : Nat), vs = [.ref x, .int m] ∧ StoreAt A H x S a ∧ m ≤ S.trace.length ∧ Q .non H
theorem sc_need : FnScope ["store", "moment"] ["store", "moment"] (defScope (top 45)) := ⟨rfl, rfl, rfl, by decide +kernel, rfl, by decide +kernel, by decide +kernel⟩
theorem ok_need_moment (T : Txt K mg A) : FnOk P w K mg base CX0 3 A.a_need_moment A.d_need_moment ["store", "moment"] (spNeed A) := by
  refine T.t_need_moment.F.ok sc_need (fun vs H Q E h => ?_) (fun cdv A0 outer s H vs Q E hr h => ?_)
  · obtain ⟨x, S, a, m, rfl, _⟩ := h
    rfl
  · obtain ⟨x, S, a, m, rfl, h, hm, k⟩ := h
    refine ⟨_, pss_one (ps_if (pt_not (pt_val (pe_call (ok_is_below T) hr rfl T.t_is_below.g T.t_is_below.F.kp T.t_is_below.b .nil pass0 (pa_cons (pv 1) (pa_cons (pe_op op_add (pe_callB call_len_seq (by rfl) T.z_len PySem.boot_len (pa_cons (pe_fld (pv 0) rfl) pa_nil)) pe_int) pa_nil))))) (pss_one ps_never) pss_nil), ?_⟩
    obtain ⟨es, ht, hes⟩ := h.tr
    refine ⟨_, rfl, _, rfl, x, A.c_Store, a.dx, _, _, rfl, h.ins, T.k_Store.c, T.n_Store_trace, SN_get4 .., a.tr, es, rfl, .inr (SqT.of ht), _, _, rfl, rfl, (m : Int), _, rfl, _, rfl, ?_⟩
    rw [hes.len, inB_t (by omega) (by omega)]
    exact iteF k
def spWritten (A : Adr) : Sp := fun vs H Q _ => ∃ (x : Addr) (S : Sto) (a : SAdr) (m : Nat), vs = [.ref x, .int m] ∧ StoreAt A H x S a ∧ S.pushed.length ≤ 900 ∧ ∀ H', Same H H' → Q (.int (written S.pushed m)) H'
theorem sc_written : FnScope ["store", "moment", "begin", "end", "deeds"] ["store", "moment"] (defScope (top 46)) := ⟨rfl, rfl, rfl, by decide +kernel, rfl, by decide +kernel, by decide +kernel⟩
theorem ok_written_groups (T : Txt K mg A) : FnOk P w K mg base CX0 1 A.a_written_groups A.d_written_groups ["store", "moment"] (spWritten A) := by
  refine T.t_written_groups.F.ok sc_written (fun vs H Q E h => ?_) (fun cdv A0 outer s H vs Q E hr h => ?_)
  · obtain ⟨x, S, a, m, rfl, _⟩ := h
    rfl
  · obtain ⟨x, S, a, m, rfl, h, hpl, k⟩ := h
    refine ⟨_, pss_one (ps_ret (pe_callB call_len_seq (by rfl) T.z_len PySem.boot_len (pa_cons (pe_lc (own := [("begin", 2), ("end", 3), ("deeds", 4)]) (g := gTup K 3 (gCons (gName 2) (gCons (gName 3) (gCons (gName 4) gNil)))) (tt := tTest (tOp (rI0 fun i j => .bl (decide (i ≤ j))) (tVar 3) (tVar 1))) (te := tVar 3) rfl sc_written.nd (pi_tup (pe_fld (pv 0) rfl))
        (blkOk_by (N := ["store", "moment", "begin", "end", "deeds"]) (sc := defScope (top 46)) (by decide +kernel))
        (fun _ _ _ _ _ => pg_tup rfl (pgs_cons (pg_name (i := 2) sc_written.nd rfl (Or.inl rfl)) (pgs_cons (pg_name (i := 3) sc_written.nd rfl (Or.inl rfl)) (pgs_cons (pg_name (i := 4) sc_written.nd rfl (Or.inl rfl)) pgs_nil))))
        (fun _ _ _ _ _ => pts_one (pt_cmpR op_le (pv 3) (pv 1) (nomark _))) (fun _ _ _ _ _ => pv 3)) pa_nil))), ?_⟩
    obtain ⟨xs, hp, hxs⟩ := h.pu
    refine ⟨_, rfl, x, A.c_Store, a.dx, _, _, rfl, h.ins, T.k_Store.c, T.n_Store_pushed, SN_get12 .., a.pu, rfl, ⟨_, SqT.of hp⟩, fun D nD => ?_⟩
    refine lc_tup (K := K) (a := a.pu) (xs := xs) (fun i H' => Same H H' ∧ ∃ acc, H' D = some (.lst acc) ∧ acc.length = ((S.pushed.take i).filter fun x => decide (x.2.1 ≤ m)).length) ⟨Same.new nD, [], upd_same, rfl⟩ (fun i H' _ q => SqT.of (q.1 _ _ hp)) ?_ ?_
    · rintro i y H' hi ⟨s1, acc, hA, hacc⟩
      obtain ⟨e, he, b, rfl, hb⟩ := hxs.at hi
      have hil := (List.getElem?_eq_some_iff.mp he).1
      have hle := List.length_filter_le (fun x : Nat × Nat × Nat => decide (x.2.1 ≤ m)) (S.pushed.take i)
      have htl : (S.pushed.take i).length ≤ 900 := by rw [List.length_take]; omega
      refine ⟨b, _, rfl, SqT.of (s1 _ _ hb), rfl, _, _, rfl, _, _, rfl, _, _, rfl, rfl, rfl, ?_⟩
      refine ⟨_, rfl, _, rfl, _, _, rfl, rfl, _, rfl, ?_⟩
      by_cases hp : e.2.1 ≤ m
      · rw [decide_eq_true (show (e.2.1 : Int) ≤ (m : Int) by omega)]
        refine iteT ⟨_, rfl, acc, hA, line_lt (by omega), Same.upd0 s1 nD, _, upd_same, ?_⟩
        rw [written_take he, if_pos hp, List.length_append, hacc]
        rfl
      · rw [decide_eq_false (show ¬ (e.2.1 : Int) ≤ (m : Int) by omega)]
        refine iteF ⟨s1, acc, hA, ?_⟩
        rw [written_take he, if_neg hp, hacc]
        rfl
    · rintro H' ⟨s1, acc, hA, hacc⟩
      rw [hxs.len, List.take_length] at hacc
      refine ⟨D, acc, rfl, .inl (SqL.of hA), ?_⟩
      rw [hacc]
      exact k H' s1
theorem sc_settledg : FnScope ["store", "moment"] ["store", "moment"] (defScope (top 47)) := ⟨rfl, rfl, rfl, by decide +kernel, rfl, by decide +kernel, by decide +kernel⟩
def spSettledG (A : Adr) : Sp := fun vs H Q _ => ∃ (x : Addr) (S : Sto) (a : SAdr) (m : Nat), vs = [.ref x, .int m] ∧ StoreAt A H x S a ∧ S.pushed.length ≤ 900 ∧ m ≤ S.trace.length ∧ S.trace.length ≤ 100000 ∧ ∀ H', Same H H' → Q (.int (written S.pushed (lastBar S.trace m))) H'
theorem ok_settled_groups (T : Txt K mg A) : FnOk P w K mg base CX0 2 A.a_settled_groups A.d_settled_groups ["store", "moment"] (spSettledG A) := by
  refine T.t_settled_groups.F.ok sc_settledg (fun vs H Q E h => ?_) (fun cdv A0 outer s H vs Q E hr h => ?_)
  · obtain ⟨x, S, a, m, rfl, _⟩ := h
    rfl
  · obtain ⟨x, S, a, m, rfl, h, hpl, hm, hz, k⟩ := h
    refine ⟨_, pss_one (ps_ret (pe_call (ok_written_groups T) hr rfl T.t_written_groups.g T.t_written_groups.F.kp T.t_written_groups.b .nil pass0 (pa_cons (pv 0) (pa_cons (pe_call (ok_last_barrier T) hr rfl T.t_last_barrier.g T.t_last_barrier.F.kp T.t_last_barrier.b .nil pass0 (pa_cons (pe_fld (pv 0) rfl) (pa_cons (pv 1) pa_nil))) pa_nil)))), ?_⟩
    exact ⟨_, rfl, _, rfl, x, A.c_Store, a.dx, _, _, rfl, h.ins, T.k_Store.c, T.n_Store_trace, SN_get4 .., _, rfl, a.tr, S.trace, m, rfl, h.tr, hm, hz, x, S, a, lastBar S.trace m, rfl, h, hpl, k⟩
def spDeedsB (A : Adr) : Sp := fun vs H Q _ => ∃ (x : Addr) (S : Sto) (a : SAdr) (j : Nat), vs = [.ref x, .int j] ∧ StoreAt A H x S a ∧ j ≤ S.pushed.length ∧ Q (.int (dB S.pushed j)) H
theorem sc_deedsb : FnScope ["store", "groups"] ["store", "groups"] (defScope (top 48)) := ⟨rfl, rfl, rfl, by decide +kernel, rfl, by decide +kernel, by decide +kernel⟩
theorem ok_deeds_behind (T : Txt K mg A) : FnOk P w K mg base CX0 1 A.a_deeds_behind A.d_deeds_behind ["store", "groups"] (spDeedsB A) := by
  refine T.t_deeds_behind.F.ok sc_deedsb (fun vs H Q E h => ?_) (fun cdv A0 outer s H vs Q E hr h => ?_)
  · obtain ⟨x, S, a, j, rfl, _⟩ := h
    rfl
  · obtain ⟨x, S, a, j, rfl, h, hj, k⟩ := h
    refine ⟨_, pss_one (ps_ret (pe_ifExp (pt_cmpR op_gt (pv 1) pe_int (nomark _)) (pe_ix ix_tup (pe_ix ix_tup (pe_fld (pv 0) rfl) (pe_op op_sub (pv 1) pe_int) (fun _ _ => rfl)) pe_int (fun _ _ => rfl)) pe_int)), ?_⟩
    obtain ⟨xs, hp, hxs⟩ := h.pu
    refine ⟨_, rfl, _, _, rfl, rfl, _, rfl, ?_⟩
    unfold dB at k
    by_cases h0 : 0 < j
    · rw [decide_eq_true (show (j : Int) > 0 by omega)]
      rw [if_pos h0] at k
      obtain ⟨b, hb, hb2⟩ := pu_at hxs h0 hj
      exact iteT ⟨_, rfl, x, A.c_Store, a.dx, _, _, rfl, h.ins, T.k_Store.c, T.n_Store_pushed, SN_get12 .., _, rfl, _, _, rfl, rfl, a.pu, xs, (j : Int) - 1, _, rfl, rfl, SqT.of hp, atI_of (show (j : Int) - 1 = ((j - 1 : Nat) : Int) by omega) hb, b, _, 2, _, rfl, rfl, SqT.of hb2, atI_of (i := 2) rfl rfl, k⟩
    · rw [decide_eq_false (show ¬ (j : Int) > 0 by omega)]
      rw [if_neg h0] at k
      exact iteF k
end
end PG

set_option Elab.async false
set_option linter.all false
set_option autoImplicit false
set_option maxRecDepth 100000
set_option maxHeartbeats 4000000
namespace PG
open PySem L2
/-! ## counts by number -/
structure CntAt (kvs : List (Key × V)) (f : Int → Nat) : Prop where
  nd : (kvs.map (·.1)).Nodup
  fm : ∀ e ∈ kvs, ∃ (p : Int) (c : Nat), e = (Sum.inl p, V.int c)
  at_ : ∀ p : Int, valV kvs (Sum.inl p) = if f p = 0 then none else some (.int (f p))
theorem CntAt.nil : CntAt [] (fun _ => 0) := ⟨List.nodup_nil, fun e he => (by cases he), fun p => rfl⟩
theorem CntAt.ext {kvs : List (Key × V)} {f f' : Int → Nat} (h : CntAt kvs f) (e : ∀ p, f p = f' p) : CntAt kvs f' := by rw [show f' = f from funext fun p => (e p).symm]; exact h
theorem CntAt.getD {kvs : List (Key × V)} {f : Int → Nat} (h : CntAt kvs f) (p : Int) : (valV kvs (Sum.inl p)).getD (.int 0) = .int (f p) := by
  rw [h.at_]
  by_cases e : f p = 0
  · rw [if_pos e, e]; rfl
  · rw [if_neg e]; rfl
theorem CntAt.put {kvs : List (Key × V)} {f f' : Int → Nat} {p : Int} {c : Nat} (h : CntAt kvs f) (hc : 0 < c) (hf : ∀ q, f' q = if q = p then c else f q) : CntAt (putK kvs (Sum.inl p) (.int c)) f' := by
  refine ⟨?_, ?_, fun q => ?_⟩
  · cases e : valV kvs (Sum.inl p) with
    | none => exact nd_putK _ h.nd e
    | some u =>
      have ha : (kvs.any fun kv => decide (kv.1 = (Sum.inl p : Key))) = true := by rw [valV_any, e]; rfl
      unfold putK
      rw [if_pos ha, List.map_map]
      have : ((fun x : Key × V => x.1) ∘ fun kv : Key × V => if kv.1 = Sum.inl p then (kv.1, V.int c) else kv) = fun kv => kv.1 := by
        funext kv
        show (if kv.1 = Sum.inl p then (kv.1, V.int c) else kv).1 = kv.1
        split <;> rfl
      rw [this]
      exact h.nd
  · intro e he
    unfold putK at he
    split at he
    · obtain ⟨kv, hkv, rfl⟩ := List.mem_map.mp he
      obtain ⟨q, d, e1⟩ := h.fm kv hkv
      rw [e1]
      split
      · exact ⟨q, c, rfl⟩
      · exact ⟨q, d, rfl⟩
    · rcases List.mem_append.mp he with z | z
      · exact h.fm e z
      · rw [List.mem_singleton] at z
        exact ⟨p, c, z⟩
  · rw [valV_put, hf]
    by_cases e : q = p
    · subst e
      rw [if_pos rfl, if_pos rfl, if_neg (by omega)]
    · rw [if_neg (fun z => e (by injection z)), if_neg e]
      exact h.at_ q
theorem CntAt.list {kvs : List (Key × V)} {f : Int → Nat} (h : CntAt kvs f) : ∃ kv : List (Int × Nat), kvs = KvI kv ∧ (kv.map (·.1)).Nodup ∧ ∀ p c, (p, c) ∈ kv ↔ c = f p ∧ 0 < c := by
  have go : ∀ l : List (Key × V), (∀ e ∈ l, ∃ (p : Int) (c : Nat), e = (Sum.inl p, V.int c)) → ∃ kv : List (Int × Nat), l = KvI kv := by
    intro l
    induction l with
    | nil => intro _; exact ⟨[], rfl⟩
    | cons e l ih =>
      intro hl
      obtain ⟨p, c, e1⟩ := hl e List.mem_cons_self
      obtain ⟨kv, k1⟩ := ih fun x hx => hl x (List.mem_cons_of_mem _ hx)
      exact ⟨(p, c) :: kv, by rw [e1, k1]; rfl⟩
  obtain ⟨kv, e⟩ := go kvs h.fm
  subst e
  have nd : (kv.map (·.1)).Nodup := by
    have := h.nd
    unfold KvI at this
    rw [List.map_map] at this
    have e : ((fun x : Key × V => x.1) ∘ fun e : Int × Nat => ((Sum.inl e.1 : Key), V.int e.2)) = (Sum.inl : Int → Key) ∘ fun e : Int × Nat => e.1 := rfl
    rw [e, ← List.map_map] at this
    exact List.Pairwise.of_map Sum.inl (fun a b hab z => hab (by rw [z])) this
  have hv : ∀ p c, (p, c) ∈ kv → valV (KvI kv) (Sum.inl p) = some (.int c) := fun p c hm => by
    have := val_nodup h.nd (Sum.inl p, V.int c) (by unfold KvI; exact List.mem_map.mpr ⟨(p, c), hm, rfl⟩)
    exact this
  refine ⟨kv, rfl, nd, fun p c => ⟨fun hm => ?_, fun hc => ?_⟩⟩
  · have a := hv p c hm
    rw [h.at_] at a
    by_cases e : f p = 0
    · rw [if_pos e] at a; cases a
    · rw [if_neg e] at a
      injection a with a
      injection a with a
      omega
  · have a := h.at_ p
    rw [if_neg (by omega)] at a
    have := valV_in a
    unfold KvI at this
    rw [List.map_map] at this
    obtain ⟨x, hx, e⟩ := List.mem_map.mp this
    have e : (Sum.inl x.1 : Key) = Sum.inl p := e
    injection e with e
    obtain ⟨x1, x2⟩ := x
    dsimp only at e
    subst e
    have b := hv _ _ hx
    rw [a] at b
    injection b with b
    injection b with b
    have : x2 = c := by omega
    subst this
    exact hx
def LwV (H : Hp) (v : V) (x : Nat × Int × Nat) : Prop := ∃ a, v = .ref a ∧ H a = some (.tup [.int x.1, .int x.2.1, .int x.2.2])
theorem LwV.mono {H H' : Hp} {v : V} {x : Nat × Int × Nat} (h : LwV H v x) (e : TupE H H') : LwV H' v x := let ⟨a, p, q⟩ := h; ⟨a, p, e _ _ q⟩
theorem looseW_len (t : List Ev) (lb n : Nat) : (looseW t lb n).length = n := by unfold looseW; simp
theorem cnt_next (t : List Ev) (lb i : Nat) (q : Int) : cntW t lb (i + 1) q = if q = plt t (lb + i) then cntW t lb (i + 1) (plt t (lb + i)) else cntW t lb i q := by
  by_cases h : q = plt t (lb + i)
  · rw [if_pos h, h]
  · rw [if_neg h]
    show cntW t lb i q + (if plt t (lb + i) = q then 1 else 0) = _
    rw [if_neg (fun z => h z.symm)]
    rfl
theorem cnt_self (t : List Ev) (lb i : Nat) : cntW t lb (i + 1) (plt t (lb + i)) = cntW t lb i (plt t (lb + i)) + 1 := by
  show cntW t lb i _ + (if plt t (lb + i) = plt t (lb + i) then 1 else 0) = _
  rw [if_pos rfl]
/-- a dict comprehension over a list that stays -/
theorem dc_list {K : PySem.W.Frag} {a : Addr} {xs : List V} {g : TG} {tt : TT} {tk tv : TE} {vs : List Nat} {σ : St} {H1 : Hp} {D : Addr} {Qd : Hp → Prop} (Pv : Nat → Hp → Prop) (h0 : Pv 0 (upd H1 D (.dK []))) (hl : ∀ i H, i ≤ xs.length → Pv i H → SqL K H a xs)
    (hs : ∀ i x H, xs[i]? = some x → Pv i H → g x (wipe σ vs) H fun σ2 H2 => wipe σ2 vs = wipe σ vs ∧ tt σ2 H2 fun b H3 => if b = true then tk σ2 H3 fun y H4 => tv σ2 H4 fun z H5 =>
      ∃ kvs k, y = kV k ∧ H5 D = some (.dK kvs) ∧ kvs.length < sizeLine ∧ Pv (i + 1) (upd H5 D (.dK (putK kvs k z))) else Pv (i + 1) H3) (hd : ∀ H, Pv xs.length H → Qd H) :
    ∃ W : Nat → Nat → Hp → Prop, (∃ m, W 0 m (upd H1 D (.dK []))) ∧ ∀ i m H, W i m H → ((Itl K a).stop i H ∧ Qd H) ∨ ((Itl K a).go i H ∧ ∃ Nx : Hp → Prop, (∀ H', Nx H' → ∃ m', m' < m ∧ W (i + 1) m' H') ∧
      ∀ x H', (Itl K a).yld i H x H' → g x (wipe σ vs) H' fun σ2 H2 => wipe σ2 vs = wipe σ vs ∧ tt σ2 H2 fun b H3 => if b = true then tk σ2 H3 fun y H4 => tv σ2 H4 fun z H5 =>
        ∃ kvs k, y = kV k ∧ H5 D = some (.dK kvs) ∧ kvs.length < sizeLine ∧ Nx (upd H5 D (.dK (putK kvs k z))) else Nx H3) := by
  refine ⟨fun i m H => m = xs.length - i ∧ i ≤ xs.length ∧ Pv i H, ⟨xs.length, by simp, Nat.zero_le _, h0⟩, ?_⟩
  rintro i m H ⟨rfl, hi, p⟩
  have q := hl i H hi p
  rcases Nat.lt_or_ge i xs.length with hlt | hge
  · refine .inr ⟨⟨xs, xs[i], q, by simp [hlt]⟩, Pv (i + 1), fun H' p' => ⟨xs.length - (i + 1), by omega, rfl, hlt, p'⟩, fun x H' y => ?_⟩
    obtain ⟨e, y⟩ := y
    subst e
    exact hs i x _ (y xs q) p
  · obtain rfl : i = xs.length := by omega
    exact .inl ⟨⟨xs, q, Nat.le_refl _⟩, hd H p⟩
/-- the deeds that a fall may leave -/
def openL (S : Sto) (m : Nat) : List Int := (List.range (written S.pushed m + 1 - written S.pushed (lastBar S.trace m))).map fun i : Nat => (dB S.pushed (written S.pushed (lastBar S.trace m) + i) : Int)
section
variable {P : Program} {w : World} {K : PySem.W.Frag} {mg : Str → Option Value} {base : Heap} {A : Adr}
/-! ## can_open -/
def spCanOpen (A : Adr) : Sp := fun vs H Q _ => ∃ (x : Addr) (S : Sto) (a : SAdr) (m : Nat), vs = [.ref x, .int m] ∧ StoreAt A H x S a ∧ S.pushed.length ≤ 800 ∧ m ≤ S.trace.length ∧ S.trace.length ≤ 90000 ∧ ∀ c H', Same H H' → H' c = some (.tup ((openL S m).map V.int)) → Q (.ref c) H'
abbrev coN : List Str := ["store", "moment", "first", "last", "groups"]
theorem sc_canopen : FnScope coN ["store", "moment"] (defScope (top 49)) := ⟨rfl, rfl, rfl, by decide +kernel, rfl, by decide +kernel, by decide +kernel⟩
theorem ok_can_open (T : Txt K mg A) : FnOk P w K mg base CX0 4 A.a_can_open A.d_can_open ["store", "moment"] (spCanOpen A) := by
  refine T.t_can_open.F.ok sc_canopen (fun vs H Q E h => ?_) (fun cdv A0 outer s H vs Q E hr h => ?_)
  · obtain ⟨x, S, a, m, rfl, _⟩ := h
    rfl
  · obtain ⟨x, S, a, m, rfl, h, hpl, hm, hz, k⟩ := h
    refine ⟨_, pss_cons (ps_expr (pe_call (ok_need_moment T) hr rfl T.t_need_moment.g T.t_need_moment.F.kp T.t_need_moment.b .nil pass0 (pa_cons (pv 0) (pa_cons (pv 1) pa_nil))))
      (pss_cons (ps_par (i := 2) (j := 3) rfl sc_canopen.nd rfl rfl (by decide) rfl rfl (pa_cons (pe_call (ok_settled_groups T) (hr.mono (by decide)) rfl T.t_settled_groups.g T.t_settled_groups.F.kp T.t_settled_groups.b .nil pass0 (pa_cons (pv 0) (pa_cons (pv 1) pa_nil))) (pa_cons (pe_call (ok_written_groups T) (hr.mono (by decide)) rfl T.t_written_groups.g T.t_written_groups.F.kp T.t_written_groups.b .nil pass0 (pa_cons (pv 0) (pa_cons (pv 1) pa_nil))) pa_nil)) rfl)
      (pss_one (ps_ret (pe_callTy call_tuple_of (by rfl) T.z_tuple (by decide +kernel) (pa_cons (pe_lc (own := [("groups", 4)]) (g := gName 4) (tt := tYes) (te := tCall (spDeedsB A) [] E0 (tCons (tVar 0) (tCons (tVar 4) tNil))) rfl sc_canopen.nd (pi_range2 rfl T.z_range (pa_cons (pv 2) (pa_cons (pe_op op_add (pv 3) pe_int) pa_nil)))
        (blkOk_by (N := coN) (sc := defScope (top 49)) (by decide +kernel)) (fun _ _ _ _ _ => pg_name (i := 4) sc_canopen.nd rfl (Or.inl rfl)) (fun _ _ _ _ _ => pts_nil)
        (fun _ _ _ _ _ => pe_call (ok_deeds_behind T) (hr.mono (by decide)) rfl T.t_deeds_behind.g T.t_deeds_behind.F.kp T.t_deeds_behind.b .nil pass0 (pa_cons (pv 0) (pa_cons (pv 4) pa_nil)))) pa_nil))))), ?_⟩
    have wl1 := written_le S.pushed m
    have wl2 := written_le S.pushed (lastBar S.trace m)
    have big : (1000 : Int) < 2 ^ 62 := by decide
    have low : -(2 ^ 62) ≤ (0 : Int) := by decide
    refine ⟨_, rfl, _, rfl, x, S, a, m, rfl, h, hm, ?_⟩
    refine ⟨_, rfl, _, rfl, x, S, a, m, rfl, h, by omega, hm, by omega, fun H1 s1 => ?_⟩
    refine ⟨_, rfl, _, rfl, x, S, a, m, rfl, h.same s1, by omega, fun H2 s2 => ⟨_, _, rfl, ?_⟩⟩
    have s12 := s1.trans s2
    refine ⟨_, rfl, _, rfl, _, _, rfl, rfl, _, _, rfl, ⟨by omega, by omega, by omega, by omega⟩, fun D nD => ?_⟩
    rw [show ((written S.pushed m : Int) + 1 - (written S.pushed (lastBar S.trace m) : Int)).toNat = written S.pushed m + 1 - written S.pushed (lastBar S.trace m) by omega]
    refine lc_range (fun i H' => Same H2 H' ∧ H' D = some (.lst (((List.range i).map fun i : Nat => (dB S.pushed (written S.pushed (lastBar S.trace m) + i) : Int)).map V.int))) ⟨Same.new nD, upd_same⟩ ?_ ?_
    · rintro i H' hi ⟨s3, hA⟩
      rw [show ((written S.pushed (lastBar S.trace m) : Int) + (i : Int)) = ((written S.pushed (lastBar S.trace m) + i : Nat) : Int) by omega]
      refine ⟨rfl, tYes_ok (iteT ⟨_, rfl, _, rfl, x, S, a, written S.pushed (lastBar S.trace m) + i, rfl, h.same (s12.trans s3), by omega, _, hA, line_lt ?_, Same.upd0 s3 nD, ?_⟩)⟩
      · simp
        omega
      · rw [upd_same, List.range_succ]
        simp
    · rintro H' ⟨s3, hA⟩
      refine ⟨D, _, rfl, .inl ⟨SqL.of hA, fun c nc => ?_⟩⟩
      exact k c _ (s12.trans (s3.trans (Same.new nc))) upd_same
/-! ## loose_writes -/
def spLoose (A : Adr) : Sp := fun vs H Q _ => ∃ (x : Addr) (S : Sto) (a : SAdr) (m : Nat), vs = [.ref x, .int m] ∧ StoreAt A H x S a ∧ m ≤ S.trace.length ∧ S.trace.length ≤ 90000 ∧
  ∀ l xs H', Same H H' → H' l = some (.lst xs) → AllV (LwV H') xs (looseW S.trace (lastBar S.trace m) (m - lastBar S.trace m)) → Q (.ref l) H'
abbrev lwN : List Str := ["store", "moment", "found", "many", "at", "plate"]
theorem sc_loose : FnScope lwN ["store", "moment"] (defScope (top 50)) := ⟨rfl, rfl, rfl, by decide +kernel, rfl, by decide +kernel, by decide +kernel⟩
theorem ok_loose_writes (T : Txt K mg A) : FnOk P w K mg base CX0 2 A.a_loose_writes A.d_loose_writes ["store", "moment"] (spLoose A) := by
  refine T.t_loose_writes.F.ok sc_loose (fun vs H Q E h => ?_) (fun cdv A0 outer s H vs Q E hr h => ?_)
  · obtain ⟨x, S, a, m, rfl, _⟩ := h
    rfl
  · obtain ⟨x, S, a, m, rfl, h, hm, hz, k⟩ := h
    refine ⟨_, pss_cons (ps_par (i := 2) (j := 3) rfl sc_loose.nd rfl rfl (by decide) rfl rfl (pa_cons (pe_lst pa_nil) (pa_cons pe_dnewK pa_nil)) rfl)
      (pss_cons (ps_for PassesOwn.never rfl (pi_range2 rfl T.z_range (pa_cons (pe_call (ok_last_barrier T) hr rfl T.t_last_barrier.g T.t_last_barrier.F.kp T.t_last_barrier.b .nil pass0 (pa_cons (pe_fld (pv 0) rfl) (pa_cons (pv 1) pa_nil))) (pa_cons (pv 1) pa_nil))) (pg_name (i := 4) sc_loose.nd rfl (Or.inl rfl))
        (pss_cons (ps_set (i := 5) sc_loose.nd rfl (Or.inl rfl) (pe_ix ix_tup (pe_ix ix_tup (pe_fld (pv 0) rfl) (pv 4) (fun _ _ => rfl)) pe_int (fun _ _ => rfl)))
        (pss_cons (ps_dput (hu_of hr) (pv 3) (pv 5) (pe_op op_add (pe_dget2 (hu_of hr) (pv 3) (pv 5) pe_int ⟨rfl, rfl, rfl, rfl⟩) pe_int) rfl)
        (pss_one (ps_expr (pe_bm PySem.F.plainAttrs_list PySem.F.slot_list_append PySem.F.type_list_append mt_append (pv 2) (pa_cons (pe_tup (pa_cons (pv 4) (pa_cons (pv 5) (pa_cons (pe_dget (hu_of hr) (pv 3) (pv 5) (fun _ _ => rfl)) pa_nil)))) pa_nil)))))))
      (pss_one (ps_ret (pv 2)))), ?_⟩
    have hlb := lastBar_le S.trace m
    have big : (100000 : Int) < 2 ^ 62 := by decide
    have low : -(2 ^ 62) ≤ (0 : Int) := by decide
    refine ⟨Nat.zero_le _, fun f nf => ?_⟩
    obtain ⟨H1, e1, s1, hf⟩ := newE (.lst []) nf
    rw [e1]
    refine fun d nd => ?_
    obtain ⟨H2, e2, s2, hd⟩ := newE (.dK []) nd
    rw [e2]
    have nd0 : H d = none := Same.free s1 nd
    have fd : f ≠ d := fun z => by rw [z] at hf; rw [hf] at nd; cases nd
    have s12 := s1.trans s2
    have h2 := h.same s12
    refine ⟨_, _, rfl, ?_⟩
    refine ⟨_, rfl, x, A.c_Store, a.dx, _, _, rfl, h2.ins, T.k_Store.c, T.n_Store_trace, SN_get4 .., _, rfl, a.tr, S.trace, m, rfl, h2.tr, hm, by omega, _, rfl, _, _, rfl, ⟨by omega, by omega, by omega, by omega⟩, ?_⟩
    rw [show ((m : Int) - (lastBar S.trace m : Int)).toNat = m - lastBar S.trace m by omega]
    refine for_range (fun i σ H' => ∃ (v4 v5 : Option V) (acc : List V) (kvs : List (Key × V)), σ = [some (.ref x), some (.int m), some (.ref f), some (.ref d), v4, v5] ∧ Same H H' ∧ H' f = some (.lst acc) ∧ AllV (LwV H') acc (looseW S.trace (lastBar S.trace m) i) ∧ H' d = some (.dK kvs) ∧ CntAt kvs (cntW S.trace (lastBar S.trace m) i) ∧ kvs.length ≤ i)
      ⟨none, none, [], [], rfl, s12, s2 _ _ hf, AllV.nil, hd, CntAt.nil, Nat.zero_le _⟩ ?_ ?_
    · rintro i σ H' hi ⟨v4, v5, acc, kvs, rfl, s3, hf3, hacc, hd3, hk, hkl⟩
      rw [show ((lastBar S.trace m : Int) + (i : Int)) = ((lastBar S.trace m + i : Nat) : Int) by omega]
      have hlt : lastBar S.trace m + i < S.trace.length := by omega
      have hnb := lastBar_no S.trace m (lastBar S.trace m + i) (by omega) (by omega)
      obtain ⟨p, ns, hev⟩ : ∃ p ns, S.trace[lastBar S.trace m + i]? = some (.wr p ns) := by
        cases e : S.trace[lastBar S.trace m + i]? with
        | none => rw [List.getElem?_eq_none_iff] at e; omega
        | some ev =>
          cases ev with
          | wr p ns => exact ⟨p, ns, rfl⟩
          | bar => rw [isBar_at e] at hnb; cases hnb
      have hplt : plt S.trace (lastBar S.trace m + i) = p := by unfold plt; rw [hev]
      have h3 := h.same s3
      obtain ⟨es, ht, hes⟩ := h3.tr
      obtain ⟨v, hv, b, y, rfl, hb, hy⟩ := hes.at' hev
      refine ⟨_, rfl, x, A.c_Store, a.dx, _, _, rfl, h3.ins, T.k_Store.c, T.n_Store_trace, SN_get4 .., _, rfl, a.tr, es, ((lastBar S.trace m + i : Nat) : Int), _, rfl, rfl, SqT.of ht, atI_of rfl hv, b, _, 1, _, rfl, rfl, SqT.of hb, atI_of (i := 1) rfl rfl, ?_⟩
      have hcs := cnt_self S.trace (lastBar S.trace m) i
      rw [hplt] at hcs
      have hk2 : CntAt (putK kvs (Sum.inl p) (.int (cntW S.trace (lastBar S.trace m) (i + 1) p : Nat))) (cntW S.trace (lastBar S.trace m) (i + 1)) := hk.put (by omega) fun q => by
        have := cnt_next S.trace (lastBar S.trace m) i q
        rw [hplt] at this
        exact this
      refine ⟨_, rfl, d, rfl, .inl ⟨kvs, .inl hd3⟩, _, rfl, valV kvs (Sum.inl p), DGet.k (k := Sum.inl p) hd3, (cntW S.trace (lastBar S.trace m) i p : Int), 1, hk.getD p, rfl, _, rfl, _, rfl, d, _, rfl, DPut.k (k := Sum.inl p) hd3 (line_lt (by omega)), ?_⟩
      rw [show (fun i j : Int => V.int (i + j)) (cntW S.trace (lastBar S.trace m) i p : Int) 1 = V.int ((cntW S.trace (lastBar S.trace m) (i + 1) p : Nat) : Int) from congrArg V.int (by rw [hcs]; omega)]
      obtain ⟨H4, e4, b4, hd4⟩ := chgE (H := H') (d := d) (.dK (putK kvs (Sum.inl p) (.int ((cntW S.trace (lastBar S.trace m) (i + 1) p : Nat) : Int))))
      rw [e4]
      have t4 : TupE H' H4 := b4.tups fun xs z => by rw [hd3] at z; cases z
      have hf4 := b4 _ _ fd hf3
      have hg4 : DGet H4 d (.int p) (some (.int ((cntW S.trace (lastBar S.trace m) (i + 1) p : Nat) : Int))) := .inl ⟨_, Sum.inl p, .inl hd4, rfl, by rw [valV_put, if_pos rfl]⟩
      refine ⟨_, rfl, .inl ⟨rfl, _, SqL.of hf4⟩, _, rfl, _, rfl, _, rfl, _, rfl, d, _, rfl, hg4, line1000 (by show 3 ≤ 1000000; decide), fun q nq => ?_⟩
      obtain ⟨H5, e5, s5, hq⟩ := newE (.tup [V.int ((lastBar S.trace m + i : Nat) : Int), V.int p, V.int ((cntW S.trace (lastBar S.trace m) (i + 1) p : Nat) : Int)]) nq
      rw [e5]
      have hf5 := s5 _ _ hf4
      refine ⟨f, acc, _, rfl, rfl, hf5, line_lt (by rw [hacc.len, looseW_len]; omega), ?_⟩
      have t5 : TupE H5 (upd H5 f (.lst (acc ++ [V.ref q]))) := TupE.upd fun z y => by rw [hf5] at y; cases y
      refine ⟨_, _, _, _, rfl, Same.upd0 ((Same.but s3 b4 nd0).trans s5) nf, upd_same, ?_, ?_, hk2, ?_⟩
      · rw [looseW_succ, hplt]
        exact (hacc.mono fun _ _ z => z.mono (t4.trans ((Same.tups s5).trans t5))).snoc ⟨q, rfl, t5 _ _ hq⟩
      · rw [upd_ne fd.symm]; exact s5 _ _ hd4
      · have := length_putK kvs (Sum.inl p) (V.int ((cntW S.trace (lastBar S.trace m) (i + 1) p : Nat) : Int))
        omega
    · rintro σ H' ⟨v4, v5, acc, kvs, rfl, s3, hf3, hacc, _⟩
      exact ⟨_, rfl, k f acc H' s3 hf3 hacc⟩
end
end PG

set_option Elab.async false
set_option linter.all false
set_option autoImplicit false
set_option maxRecDepth 100000
set_option maxHeartbeats 4000000
namespace PG
open PySem L2
/-- the choice that leaves of the loose writes those ahead of k groups' end -/
def IsChoice (S : Sto) (m k : Nat) (kv : List (Int × Nat)) : Prop := (kv.map (·.1)).Nodup ∧ ∀ p c, (p, c) ∈ kv ↔ c = cntW S.trace (lastBar S.trace m) (max (lastBar S.trace m) (endOf S.pushed k) - lastBar S.trace m) p ∧ 0 < c
theorem looseW_at {t : List Ev} {lb n i : Nat} {e : Nat × Int × Nat} (h : (looseW t lb n)[i]? = some e) : i < n ∧ e = (lb + i, plt t (lb + i), cntW t lb (i + 1) (plt t (lb + i))) := by
  have hi : i < n := by
    have := (List.getElem?_eq_some_iff.mp h).1
    rw [looseW_len] at this
    exact this
  unfold looseW at h
  rw [List.getElem?_map, List.getElem?_range hi] at h
  exact ⟨hi, (Option.some.inj h).symm⟩
section
variable {P : Program} {w : World} {K : PySem.W.Frag} {mg : Str → Option Value} {base : Heap} {A : Adr}
/-! ## choice_of -/
def spChoiceOf (A : Adr) : Sp := fun vs H Q _ => ∃ (x : Addr) (S : Sto) (a : SAdr) (m j : Nat), vs = [.ref x, .int m, .int j] ∧ StoreAt A H x S a ∧ m ≤ S.trace.length ∧ S.trace.length ≤ 90000 ∧ j ≤ S.pushed.length ∧ endOf S.pushed j ≤ m ∧
  ∀ c kv H', Same H H' → H' c = some (.dK (KvI kv)) → IsChoice S m j kv → Q (.ref c) H'
abbrev chN : List Str := ["store", "moment", "groups", "begin", "at", "plate", "number"]
theorem sc_choiceof : FnScope chN ["store", "moment", "groups"] (defScope (top 51)) := ⟨rfl, rfl, rfl, by decide +kernel, rfl, by decide +kernel, by decide +kernel⟩
theorem ok_choice_of (T : Txt K mg A) : FnOk P w K mg base CX0 3 A.a_choice_of A.d_choice_of ["store", "moment", "groups"] (spChoiceOf A) := by
  refine T.t_choice_of.F.ok sc_choiceof (fun vs H Q E h => ?_) (fun cdv A0 outer s H vs Q E hr h => ?_)
  · obtain ⟨x, S, a, m, j, rfl, _⟩ := h
    rfl
  · obtain ⟨x, S, a, m, j, rfl, h, hm, hz, hj, hend, k⟩ := h
    refine ⟨_, pss_cons (ps_set (i := 3) sc_choiceof.nd rfl (Or.inr rfl) (pe_ifExp (pt_cmpR op_gt (pv 2) pe_int (nomark _)) (pe_ix ix_tup (pe_ix ix_tup (pe_fld (pv 0) rfl) (pe_op op_sub (pv 2) pe_int) (fun _ _ => rfl)) pe_int (fun _ _ => rfl)) pe_int))
      (pss_one (ps_ret (pe_dc (own := [("at", 4), ("plate", 5), ("number", 6)]) (g := gTup K 3 (gCons (gName 4) (gCons (gName 5) (gCons (gName 6) gNil)))) (tt := tTest (tOp (rI0 fun i j => .bl (decide (i < j))) (tVar 4) (tVar 3))) (tk := tVar 5) (tv := tVar 6) rfl sc_choiceof.nd
        (pi_list (pe_call (ok_loose_writes T) hr rfl T.t_loose_writes.g T.t_loose_writes.F.kp T.t_loose_writes.b .nil pass0 (pa_cons (pv 0) (pa_cons (pv 1) pa_nil)))) (blkOk_by (N := chN) (sc := defScope (top 51)) (by decide +kernel))
        (fun _ _ _ _ _ => pg_tup rfl (pgs_cons (pg_name (i := 4) sc_choiceof.nd rfl (Or.inl rfl)) (pgs_cons (pg_name (i := 5) sc_choiceof.nd rfl (Or.inl rfl)) (pgs_cons (pg_name (i := 6) sc_choiceof.nd rfl (Or.inl rfl)) pgs_nil))))
        (fun _ _ _ _ _ => pts_one (pt_cmpR op_lt (pv 4) (pv 3) (nomark _))) (fun _ _ _ _ _ => pv 5) (fun _ _ _ _ _ => pv 6)))), ?_⟩
    obtain ⟨xs, hp, hxs⟩ := h.pu
    have hlb := lastBar_le S.trace m
    refine ⟨_, rfl, _, _, rfl, rfl, _, rfl, ?_⟩
    -- begin
    suffices go : ∀ b : Nat, b = endOf S.pushed j → tRet (tDc (iList K (tCall (spLoose A) [] E0 (tCons (tVar 0) (tCons (tVar 1) tNil)))) (gTup K 3 (gCons (gName 4) (gCons (gName 5) (gCons (gName 6) gNil)))) (tTest (tOp (rI0 fun i j => V.bl (decide (i < j))) (tVar 4) (tVar 3))) (tVar 5) (tVar 6) [4, 5, 6]) ({ nx := fun x H' => Q .non H', rt := Q } : Ends) [some (.ref x), some (.int m), some (.int j), some (.int b), none, none, none] H from by
      by_cases h0 : 0 < j
      · rw [decide_eq_true (show (j : Int) > 0 by omega)]
        obtain ⟨b, hb, hb2⟩ := pu_at hxs h0 hj
        refine iteT ⟨_, rfl, x, A.c_Store, a.dx, _, _, rfl, h.ins, T.k_Store.c, T.n_Store_pushed, SN_get12 .., _, rfl, _, _, rfl, rfl, a.pu, xs, (j : Int) - 1, _, rfl, rfl, SqT.of hp, atI_of (show (j : Int) - 1 = ((j - 1 : Nat) : Int) by omega) hb, b, _, 1, _, rfl, rfl, SqT.of hb2, atI_of (i := 1) rfl rfl, ?_⟩
        exact go _ (by unfold endOf; rw [if_pos h0])
      · rw [decide_eq_false (show ¬ (j : Int) > 0 by omega)]
        exact iteF (go 0 (by unfold endOf; rw [if_neg h0]))
    intro b hb
    refine ⟨_, rfl, _, rfl, x, S, a, m, rfl, h, hm, hz, fun l ls H1 s1 hl hls => ⟨l, rfl, ⟨_, SqL.of hl⟩, fun D nD => ?_⟩⟩
    refine dc_list (K := K) (a := l) (xs := ls) (fun i H' => Same H1 H' ∧ ∃ kvs, H' D = some (.dK kvs) ∧ CntAt kvs (cntW S.trace (lastBar S.trace m) (min i (b - lastBar S.trace m))) ∧ kvs.length ≤ i)
      ⟨Same.new nD, [], upd_same, CntAt.nil.ext fun p => (by rw [Nat.zero_min]; rfl), Nat.zero_le _⟩ (fun i H' _ q => SqL.of (q.1 _ _ hl)) ?_ ?_
    · rintro i y H' hi ⟨s2, kvs, hD, hk, hkl⟩
      obtain ⟨e, he, q, rfl, hq⟩ := hls.at hi
      obtain ⟨hin, rfl⟩ := looseW_at he
      refine ⟨q, _, rfl, SqT.of (s2 _ _ hq), rfl, _, _, rfl, _, _, rfl, _, _, rfl, rfl, rfl, ?_⟩
      refine ⟨_, rfl, _, rfl, _, _, rfl, rfl, _, rfl, ?_⟩
      by_cases hlt : i < b - lastBar S.trace m
      · rw [decide_eq_true (show ((lastBar S.trace m + i : Nat) : Int) < (b : Int) by omega)]
        rw [Nat.min_eq_left (by omega)] at hk
        refine iteT ⟨_, rfl, _, rfl, kvs, Sum.inl (plt S.trace (lastBar S.trace m + i)), rfl, hD, line_lt (by omega), Same.upd0 s2 nD, _, upd_same, ?_, ?_⟩
        · rw [Nat.min_eq_left (show i + 1 ≤ b - lastBar S.trace m by omega)]
          have hcs := cnt_self S.trace (lastBar S.trace m) i
          exact hk.put (show 0 < cntW S.trace (lastBar S.trace m) (i + 1) (plt S.trace (lastBar S.trace m + i)) by rw [hcs]; omega) fun q => cnt_next S.trace (lastBar S.trace m) i q
        · exact Nat.le_trans (length_putK _ _ _) (by omega)
      · rw [decide_eq_false (show ¬ ((lastBar S.trace m + i : Nat) : Int) < (b : Int) by omega)]
        refine iteF ⟨s2, kvs, hD, ?_, by omega⟩
        rw [Nat.min_eq_right (by omega)] at hk ⊢
        exact hk
    · rintro H' ⟨s2, kvs, hD, hk, hkl⟩
      obtain ⟨kv, e, nd, hkv⟩ := hk.list
      subst e
      refine k D kv H' (s1.trans s2) hD ⟨nd, fun p c => ?_⟩
      rw [hkv p c, hls.len, looseW_len, hb]
      rw [show min (m - lastBar S.trace m) (endOf S.pushed j - lastBar S.trace m) = max (lastBar S.trace m) (endOf S.pushed j) - lastBar S.trace m by omega]
/-! ## choice_for -/
def spChoiceFor (A : Adr) : Sp := fun vs H Q _ => ∃ (x : Addr) (S : Sto) (a : SAdr) (m j0 : Nat), vs = [.ref x, .int m, .int (dB S.pushed j0)] ∧ StoreAt A H x S a ∧ m ≤ S.trace.length ∧ S.trace.length ≤ 90000 ∧ S.pushed.length ≤ 800 ∧ written S.pushed (lastBar S.trace m) ≤ j0 ∧ j0 ≤ written S.pushed m ∧
  (∀ j, written S.pushed (lastBar S.trace m) ≤ j → j ≤ written S.pushed m → endOf S.pushed j ≤ m) ∧
  ∀ j c kv H', written S.pushed (lastBar S.trace m) ≤ j → j ≤ written S.pushed m → dB S.pushed j = dB S.pushed j0 → Same H H' → H' c = some (.dK (KvI kv)) → IsChoice S m j kv → Q (.ref c) H'
abbrev cfN : List Str := ["store", "moment", "deeds", "first", "last", "some", "groups"]
theorem sc_choicefor : FnScope cfN ["store", "moment", "deeds"] (defScope (top 52)) := ⟨rfl, rfl, rfl, by decide +kernel, rfl, by decide +kernel, by decide +kernel⟩
theorem ok_choice_for (T : Txt K mg A) : FnOk P w K mg base CX0 4 A.a_choice_for A.d_choice_for ["store", "moment", "deeds"] (spChoiceFor A) := by
  refine T.t_choice_for.F.ok sc_choicefor (fun vs H Q E h => ?_) (fun cdv A0 outer s H vs Q E hr h => ?_)
  · obtain ⟨x, S, a, m, j0, rfl, _⟩ := h
    rfl
  · obtain ⟨x, S, a, m, j0, rfl, h, hm, hz, hpl, hj1, hj2, hend, k⟩ := h
    refine ⟨_, pss_cons (ps_expr (pe_call (ok_need_moment T) hr rfl T.t_need_moment.g T.t_need_moment.F.kp T.t_need_moment.b .nil pass0 (pa_cons (pv 0) (pa_cons (pv 1) pa_nil))))
      (pss_cons (ps_par (i := 3) (j := 4) rfl sc_choicefor.nd rfl rfl (by decide) rfl rfl (pa_cons (pe_call (ok_settled_groups T) (hr.mono (by decide)) rfl T.t_settled_groups.g T.t_settled_groups.F.kp T.t_settled_groups.b .nil pass0 (pa_cons (pv 0) (pa_cons (pv 1) pa_nil))) (pa_cons (pe_call (ok_written_groups T) (hr.mono (by decide)) rfl T.t_written_groups.g T.t_written_groups.F.kp T.t_written_groups.b .nil pass0 (pa_cons (pv 0) (pa_cons (pv 1) pa_nil))) pa_nil)) rfl)
      (pss_cons (ps_setLc (i := 5) (own := [("groups", 6)]) (g := gName 6) (tt := tTest (tOp rEq (tCall (spDeedsB A) [] E0 (tCons (tVar 0) (tCons (tVar 6) tNil))) (tVar 2))) (te := tVar 6) rfl sc_choicefor.nd rfl rfl (sw_true rfl rfl rfl (by decide +kernel)) (pi_range2 rfl T.z_range (pa_cons (pv 3) (pa_cons (pe_op op_add (pv 4) pe_int) pa_nil)))
        (blkOk_by (N := cfN) (sc := defScope (top 52)) (by decide +kernel)) (fun _ _ _ _ _ => pg_name (i := 6) sc_choicefor.nd rfl (Or.inl rfl))
        (fun _ _ _ _ _ => pts_one (pt_cmpR op_eq (pe_call (ok_deeds_behind T) (hr.mono (by decide)) rfl T.t_deeds_behind.g T.t_deeds_behind.F.kp T.t_deeds_behind.b .nil pass0 (pa_cons (pv 0) (pa_cons (pv 6) pa_nil))) (pv 2) (nomark _))) (fun _ _ _ _ _ => pv 6))
      (pss_cons (ps_if (pt_cmpR (op_eqD hr.units) (pv 5) (pe_lst pa_nil) (nomark _)) (pss_one ps_never) pss_nil)
      (pss_one (ps_ret (pe_call (ok_choice_of T) hr rfl T.t_choice_of.g T.t_choice_of.F.kp T.t_choice_of.b .nil pass0 (pa_cons (pv 0) (pa_cons (pv 1) (pa_cons (pe_ix ix_list (pv 5) pe_int (fun _ _ => rfl)) pa_nil))))))))), ?_⟩
    have wl1 := written_le S.pushed m
    have wl2 := written_le S.pushed (lastBar S.trace m)
    have big : (1000 : Int) < 2 ^ 62 := by decide
    have low : -(2 ^ 62) ≤ (0 : Int) := by decide
    refine ⟨_, rfl, _, rfl, x, S, a, m, rfl, h, hm, ?_⟩
    refine ⟨_, rfl, _, rfl, x, S, a, m, rfl, h, by omega, hm, by omega, fun H1 s1 => ?_⟩
    refine ⟨_, rfl, _, rfl, x, S, a, m, rfl, h.same s1, by omega, fun H2 s2 => ⟨_, _, rfl, ?_⟩⟩
    have s12 := s1.trans s2
    refine ⟨_, rfl, _, rfl, _, _, rfl, rfl, _, _, rfl, ⟨by omega, by omega, by omega, by omega⟩, fun D nD => ?_⟩
    rw [show ((written S.pushed m : Int) + 1 - (written S.pushed (lastBar S.trace m) : Int)).toNat = written S.pushed m + 1 - written S.pushed (lastBar S.trace m) by omega]
    generalize hf : written S.pushed (lastBar S.trace m) = fi at *
    generalize hg : written S.pushed m = la at *
    refine lc_range (fun i H' => Same H2 H' ∧ H' D = some (.lst ((((List.range i).filter fun j => decide (dB S.pushed (fi + j) = dB S.pushed j0)).map fun j : Nat => ((fi + j : Nat) : Int)).map V.int))) ⟨Same.new nD, upd_same⟩ ?_ ?_
    · rintro i H' hi ⟨s3, hA⟩
      rw [show ((fi : Int) + (i : Int)) = ((fi + i : Nat) : Int) by omega]
      refine ⟨rfl, _, rfl, _, rfl, x, S, a, fi + i, rfl, h.same (s12.trans s3), by omega, _, rfl, rfl, _, rfl, ?_⟩
      rw [decInt]
      have fl := List.length_filter_le (fun j => decide (dB S.pushed (fi + j) = dB S.pushed j0)) (List.range i)
      rw [List.length_range] at fl
      by_cases he : dB S.pushed (fi + i) = dB S.pushed j0
      · rw [decide_eq_true (show (dB S.pushed (fi + i) : Int) = (dB S.pushed j0 : Int) by omega)]
        refine iteT ⟨_, rfl, _, hA, line_lt (by rw [List.length_map, List.length_map]; omega), Same.upd0 s3 nD, ?_⟩
        rw [upd_same, List.range_succ, List.filter_append]
        simp [he]
      · rw [decide_eq_false (show ¬ (dB S.pushed (fi + i) : Int) = (dB S.pushed j0 : Int) by omega)]
        refine iteF ⟨s3, ?_⟩
        rw [hA, List.range_succ, List.filter_append]
        simp [he]
    rintro H' ⟨s3, hA⟩
    have hmem : (j0 - fi) ∈ (List.range (la + 1 - fi)).filter fun j => decide (dB S.pushed (fi + j) = dB S.pushed j0) := by
      refine List.mem_filter.mpr ⟨List.mem_range.mpr (by omega), ?_⟩
      rw [show fi + (j0 - fi) = j0 by omega]
      exact decide_eq_true rfl
    obtain ⟨j1, rest, hfl⟩ : ∃ j1 rest, ((List.range (la + 1 - fi)).filter fun j => decide (dB S.pushed (fi + j) = dB S.pushed j0)) = j1 :: rest := by
      cases e : ((List.range (la + 1 - fi)).filter fun j => decide (dB S.pushed (fi + j) = dB S.pushed j0)) with
      | nil => rw [e] at hmem; cases hmem
      | cons a b => exact ⟨a, b, rfl⟩
    have hj1m : j1 ∈ (List.range (la + 1 - fi)).filter fun j => decide (dB S.pushed (fi + j) = dB S.pushed j0) := by rw [hfl]; exact List.mem_cons_self
    obtain ⟨hr1, hr2⟩ := List.mem_filter.mp hj1m
    have hr1 := List.mem_range.mp hr1
    have hr2 := of_decide_eq_true hr2
    rw [hfl] at hA
    refine ⟨_, rfl, Nat.zero_le _, fun e ne => ?_⟩
    obtain ⟨H4, e4, s4, he4⟩ := newE (.lst []) ne
    rw [e4]
    have hA4 := s4 _ _ hA
    refine ⟨.list (((j1 :: rest).map fun j : Nat => ((fi + j : Nat) : Int)).map PyData.int), .list [], .lst (SqL.of hA4) (dpInts _), .lst (SqL.of he4) .nil, (flat_lst (flat_map (fun i => flat_int 0 i) _)).shaped, rfl, _, rfl, ?_⟩
    rw [eqv_list0, decide_eq_false (by simp)]
    refine iteF ⟨_, rfl, _, rfl, _, rfl, D, _, 0, _, rfl, rfl, SqL.of hA4, atI_of (i := 0) rfl rfl, x, S, a, m, fi + j1, rfl, h.same (s12.trans (s3.trans s4)), hm, hz, by omega, hend _ (by omega) (by omega), fun c kv H5 s5 hc hch => ?_⟩
    exact k (fi + j1) c kv H5 (by omega) (by omega) hr2 (s12.trans (s3.trans (s4.trans s5))) hc hch
/-! ## fallen_disk -/
def spFallenD (A : Adr) : Sp := fun vs H Q _ => ∃ (x : Addr) (S : Sto) (a : SAdr) (m j : Nat) (c : Addr) (kv : List (Int × Nat)), vs = [.ref x, .int m, .ref c] ∧ StoreAt A H x S a ∧ m ≤ S.trace.length ∧ S.trace.length ≤ 90000 ∧ EvOk S.beg.settled.length S.trace ∧ S.beg.loose = [] ∧ H c = some (.dK (KvI kv)) ∧ IsChoice S m j kv ∧
  endOf S.pushed j ≤ m ∧ ∀ f H', Same H H' → H f = none → DiskAt A H' f ⟨apAll S.beg.settled (S.trace.take (max (lastBar S.trace m) (endOf S.pushed j))), []⟩ → Q (.ref f) H'
theorem sc_fallend : FnScope ["store", "moment", "choice"] ["store", "moment", "choice"] (defScope (top 53)) := ⟨rfl, rfl, rfl, by decide +kernel, rfl, by decide +kernel, by decide +kernel⟩
theorem cntW_mono (t : List Ev) (lb : Nat) (p : Int) {n k : Nat} (h : n ≤ k) : cntW t lb n p ≤ cntW t lb k p := by
  induction h with
  | refl => exact Nat.le_refl _
  | step _ ih => exact Nat.le_trans ih (Nat.le_add_right _ _)
theorem gp_fallL {D : Dk} {kv : List (Int × Nat)} (nd : (kv.map (·.1)).Nodup) (hr : ∀ e ∈ kv, 0 ≤ e.1) {q : Int} (q0 : 0 ≤ q) (q1 : q < D.settled.length) : (∀ c, (q, c) ∈ kv → gp (fallL D kv) q = chosenV D q c) ∧ ((∀ c, (q, c) ∉ kv) → gp (fallL D kv) q = gp D.settled q) := by
  refine ⟨fun c hc => ?_, fun hn => ?_⟩
  · refine gp_flush_map (ks := kv) (f := fun e : Int × Nat => e.1) (v := fun e => chosenV D e.1 e.2) (q := (q, c)) hc (fun k hk e => ?_) hr q1
    obtain ⟨k1, k2⟩ := k
    dsimp only at e
    subst e
    have key : ∀ {l : List (Int × Nat)}, (l.map (·.1)).Nodup → ∀ {a b : Nat}, (k1, a) ∈ l → (k1, b) ∈ l → a = b := by
      intro l
      induction l with
      | nil => intro _ a b h; cases h
      | cons x l ih =>
        intro hn a b ha hb
        rw [List.map_cons, List.nodup_cons] at hn
        rcases List.mem_cons.mp ha with z | z
        · rcases List.mem_cons.mp hb with z' | z'
          · rw [← z'] at z; injection z
          · exact absurd (List.mem_map.mpr ⟨_, z', by rw [← z]⟩) hn.1
        · rcases List.mem_cons.mp hb with z' | z'
          · exact absurd (List.mem_map.mpr ⟨_, z, by rw [← z']⟩) hn.1
          · exact ih hn.2 z z'
    rw [key nd hk hc]
  · refine gp_flushL_ne q0 fun e he => ?_
    obtain ⟨x, hx, rfl⟩ := List.mem_map.mp he
    refine ⟨hr x hx, fun z => ?_⟩
    have z : x.1 = q := z
    exact hn x.2 (by rw [← z]; exact hx)
theorem ok_fallen_disk (T : Txt K mg A) : FnOk P w K mg base CX0 5 A.a_fallen_disk A.d_fallen_disk ["store", "moment", "choice"] (spFallenD A) := by
  refine T.t_fallen_disk.F.ok sc_fallend (fun vs H Q E h => ?_) (fun cdv A0 outer s H vs Q E hr h => ?_)
  · obtain ⟨x, S, a, m, j, c, kv, rfl, _⟩ := h
    rfl
  · obtain ⟨x, S, a, m, j, c, kv, rfl, h, hm, hz, hok, hb0, hc, ⟨hnd, hkv⟩, hend, k⟩ := h
    refine ⟨_, pss_one (ps_ret (pe_meth (pe_call (ok_disk_after T) hr rfl T.t_disk_after.g T.t_disk_after.F.kp T.t_disk_after.b .nil pass0 (pa_cons (pe_fld (pv 0) rfl) (pa_cons (pe_fld (pv 0) rfl) (pa_cons (pv 1) pa_nil)))) T.k_Disk.c T.m_Disk_fallen.M (ok_Disk_fallen T) hr T.m_Disk_fallen.b .nil pass0 (pa_cons (pv 2) pa_nil))), ?_⟩
    have hlb := lastBar_le S.trace m
    refine ⟨_, rfl, x, A.c_Store, a.dx, _, _, rfl, h.ins, T.k_Store.c, T.n_Store_begin, SN_get2 .., _, rfl, x, A.c_Store, a.dx, _, _, rfl, h.ins, T.k_Store.c, T.n_Store_trace, SN_get4 .., _, rfl, a.bg, a.tr, S.beg, S.trace, m, rfl, h.bg, h.tr, hm, hok, by rw [hb0]; show 0 + _ ≤ _; omega, fun f H1 s1 nf hf => ?_⟩
    obtain ⟨⟨gx, ga, gl, hg, _⟩, _⟩ := id hf
    have hrun := run_at hb0 hm
    have hlen : (S.beg.run (S.trace.take m)).settled.length = S.beg.settled.length := len_settled_run _ _
    have hwr : ∀ x ∈ wrs S.trace, 0 ≤ x.1 := fun y hy => (hok y hy).1
    -- what the choice names stands among the versions
    have named : ∀ p cc, (p, cc) ∈ kv → 0 ≤ p ∧ p < S.beg.settled.length ∧ cc < (vers (S.beg.run (S.trace.take m)).settled (S.beg.run (S.trace.take m)).loose p).length := by
      intro p cc hm'
      obtain ⟨e1, e2⟩ := (hkv p cc).mp hm'
      have hn1 : lastBar S.trace m + (max (lastBar S.trace m) (endOf S.pushed j) - lastBar S.trace m) ≤ m := by omega
      have hno := lastBar_no S.trace m
      have c1 := cntW_eq S.trace (lastBar S.trace m) p (max (lastBar S.trace m) (endOf S.pushed j) - lastBar S.trace m) (by omega) fun i h1 h2 => hno i h1 (by omega)
      have c2 := cntW_eq S.trace (lastBar S.trace m) p (m - lastBar S.trace m) (by omega) fun i h1 h2 => hno i h1 (by omega)
      have c3 := cntW_mono S.trace (lastBar S.trace m) p (show max (lastBar S.trace m) (endOf S.pushed j) - lastBar S.trace m ≤ m - lastBar S.trace m by omega)
      rw [show lastBar S.trace m + (m - lastBar S.trace m) = m by omega] at c2
      have hr : 0 ≤ p ∧ p < S.beg.settled.length := by
        have : 0 < ((wrs ((S.trace.take m).drop (lastBar S.trace m))).filter fun e => decide (e.1 = p)).length := by omega
        obtain ⟨y, hy⟩ := List.exists_mem_of_length_pos this
        obtain ⟨hy1, hy2⟩ := List.mem_filter.mp hy
        have hy2 := of_decide_eq_true hy2
        have : y ∈ wrs S.trace := by
          rw [← List.take_append_drop m S.trace, wrs_append]
          refine List.mem_append_left _ ?_
          rw [← List.take_append_drop (lastBar S.trace m) (S.trace.take m), wrs_append]
          exact List.mem_append_right _ hy1
        rw [← hy2]
        exact hok y this
      refine ⟨hr.1, hr.2, ?_⟩
      rw [hrun]
      unfold vers
      rw [List.length_cons, List.length_map]
      dsimp only
      omega
    refine ⟨f, gx, _, rfl, hg, DN_no _ _ (by decide +kernel), _, rfl, f, c, S.beg.run (S.trace.take m), kv, rfl, hf, s1 _ _ hc, fun e he => ?_, fun f2 H2 s2 nf2 hf2 => ?_⟩
    · have := named e.1 e.2 he
      rw [hlen]
      exact this
    · refine k f2 H2 (s1.trans s2) (Same.free s1 nf2) ?_
      have e : fallL (S.beg.run (S.trace.take m)) kv = apAll S.beg.settled (S.trace.take (max (lastBar S.trace m) (endOf S.pushed j))) := by
        refine fall_eq hb0 hm (Nat.le_max_left _ _) (by omega) hwr ?_ fun q q0 q1 => ?_
        · unfold fallL
          rw [len_flushL, hlen]
        · obtain ⟨g1, g2⟩ := gp_fallL (D := S.beg.run (S.trace.take m)) hnd (fun e he => (named e.1 e.2 he).1) q0 (by rw [hlen]; exact q1)
          by_cases h0 : cntW S.trace (lastBar S.trace m) (max (lastBar S.trace m) (endOf S.pushed j) - lastBar S.trace m) q = 0
          · rw [if_pos h0]
            refine g2 fun c' hc' => ?_
            have := (hkv q c').mp hc'
            omega
          · rw [if_neg h0]
            exact g1 _ ((hkv q _).mpr ⟨rfl, by omega⟩)
      rw [← e]
      exact hf2
end
end PG

set_option Elab.async false
set_option linter.all false
set_option autoImplicit false
set_option maxRecDepth 100000
set_option maxHeartbeats 6400000
namespace PG
open PySem PySem.Spec L2
/-! ## set of a list of numbers, however often each stands there -/
section
variable {P : Program} {w : World} {A : Around} {E : Value → Shared → Prop} {s : Shared}
abbrev emptyS (w : World) : Obj := ⟨.type "set", none, .set #[] 0 (.fresh 0 0 (!w.params.followText "set-order")), #[]⟩
theorem set_listI {l : Addr} {xs : Array Value} (ns : List Int) {Q : Value → Shared → Prop} (calm : A.handled = none) (hx : s.heap.IsList l xs) (hi : PyProof.Rows.IntsAre xs.toList ns) (room : ns.length + 1 < scanBound)
    (k : ∀ (h' : Heap) (t c : Nat), SetR w h' s.heap.objs.size (fun j => decide (j ∈ ns)) c → (∀ b o, s.heap.get? b = some o → h'.get? b = some o) → Q (.ref s.heap.objs.size) { s with heap := h', toks := t }) :
    wpAny (model P w) A (call (.type "set") [.ref l]) Q E s := by
  have size_xs : xs.size = ns.length := by rw [← Array.length_toList]; exact PyProof.Rows.IntsAre.length hi
  obtain ⟨c0, c1, mro_set⟩ := F.called_set.mro
  have made_set := F.called_set.made
  have sub_set := F.called_set.sub
  have not_type := F.called_set.notType
  have can_make := F.called_set.canCreate
  have call_ok := F.typeCall_set_1 (.ref l)
  refine wpAny_call (codeAny_of_tree (?_ : wpAny _ _ (callAny (.type "set") _) _ _ _))
  refine wpAny_pure ⟨Code.quiet_builtin _ (by decide +kernel), codeAny_builtin F.entry_type_call ?_⟩
  rw [Around.under_plain (weight_type_call_type "set" [.ref l] []) rfl]
  repeat any_goals first | wp_step | assumption
  refine codeAny_mono (code_set_led1 (.ref l) (E := E) (Q₁ := fun v s1 => v = .ref s.heap.objs.size ∧ s1 = { s with heap := s.heap.push (emptyS w) }) ⟨rfl, rfl⟩) fun r s1 got => ?_
  match r, got with
  | .error _, got => exact got
  | .ok (.ret v), got =>
    obtain ⟨rfl, rfl⟩ := got
    have here : (s.heap.push (emptyS w)).get? s.heap.objs.size = some (emptyS w) := Heap.get?_push_size _ rfl
    have typ : Shared.TypeIs { s with heap := s.heap.push (emptyS w) } (.ref s.heap.objs.size) "set" := ⟨_, here, rfl⟩
    have look_init := F.called_set.init.lookup
    have bind_init := F.called_set.init.bind (.ref s.heap.objs.size)
    repeat any_goals first | wp_step | assumption
    refine codeAny_mono (codeAny_call_builtin (R := wants (fun r s2 => r = .none ∧ ∃ h' t c, s2 = { s with heap := h', toks := t } ∧ SetR w h' s.heap.objs.size (fun j => decide (j ∈ ns)) c ∧ ∀ b o, s.heap.get? b = some o → h'.get? b = some o) E)
      F.called_set.init.plain F.entry_set_init (check_set_init_1 typ ?_)) fun r2 s2 got2 => ?_
    · obtain ⟨⟨cl, dd, dat, slo⟩, at_l, is_l, nl, dat_l⟩ := hx
      cases (show cl = _ from is_l)
      cases (show dat = _ from dat_l)
      have at_l' : (s.heap.push (emptyS w)).get? l = some ⟨.type "list", dd, .seq xs nl, slo⟩ := Heap.get?_push_of_some _ at_l
      have isl : (s.heap.push (emptyS w)).IsList l xs := ⟨_, at_l', rfl, nl, rfl⟩
      have no1 := F.sub_list_set
      have no2 := F.sub_list_frozenset
      have no3 : (Value.type "list" == Value.type "dict") = false := by decide
      unfold Builtin.«set.__init__» Builtin.Frozenset.updateFrom noKeywords
      generalize hIt : pyIter = it
      wp_walk
      subst hIt
      refine wpAny_pyIter_list isl ?_
      refine wpAny_bind (wpAny_runValue ?_)
      have lt_l : l < s.heap.objs.size := Heap.lt_size at_l
      have size1 : (s.heap.push (emptyS w)).objs.size = s.heap.objs.size + 1 := Heap.size_push ..
      have apart : l ≠ (s.heap.push (emptyS w)).objs.size := by rw [size1]; exact Nat.ne_of_lt (Nat.lt_succ_of_lt lt_l)
      have vals : ∀ (i : Nat) (v : Value), xs[i]? = some v → ∃ z t, ns[i]? = some z ∧ v = .int z t := fun i v e => by
        have lt : i < ns.length := by rw [← size_xs]; exact (Array.getElem?_eq_some_iff.mp e).1
        obtain ⟨t, e2⟩ := PyProof.Rows.IntsAre.int_at hi i v (by rw [Array.getElem?_toList, e])
        exact ⟨ns[i], t, List.getElem?_eq_getElem lt, by rw [e2, List.getD_eq_getElem?_getD, List.getElem?_eq_getElem lt]; rfl⟩
      have W := Walks.list (prog := P) (w := w) (A := A.in1.in1.in1) (by simp [calm]) (s.heap.push (emptyS w)).objs.size l apart xs
      have far : s.heap.objs.size ∉ [(s.heap.push (emptyS w)).objs.size, l] := fun z => by
        rcases List.mem_cons.mp z with z | z
        · rw [size1] at z
          exact absurd z (Nat.ne_of_lt (Nat.lt_succ_self _))
        · exact Nat.ne_of_gt lt_l (List.mem_singleton.mp z)
      refine set_update_ints W.toS s.heap.objs.size far ns size_xs room vals (xs.size - 0) 0 _ (Nat.sub_zero _) (Nat.zero_le _) ⟨⟨_, Heap.get?_push_size _ rfl, rfl, rfl⟩, isl.push _⟩ ⟨0, Nat.le_refl 0, setR_new_at (Heap.get?_push_of_some _ here)⟩ ?_
      rintro ⟨h', g', d', t', o'⟩ c' mv _ new
      cases (show g' = s.gens from mv.gens)
      cases (show d' = s.drawn from mv.drawn)
      cases (show o' = s.os from mv.os)
      refine wpAny_pure (?_ : wpAny _ _ (ret Value.none) _ _ _)
      refine wpAny_pure ⟨rfl, h', t', c', rfl, new, fun b o e => mv.heap b o (fun z => ?_) (Heap.get?_push_of_some _ (Heap.get?_push_of_some _ e))⟩
      have lt_b : b < s.heap.objs.size := Heap.lt_size e
      rcases List.mem_cons.mp z with z | z
      · exact Nat.ne_of_lt lt_b z
      · rw [List.mem_singleton.mp z, size1] at lt_b
        exact absurd lt_b (Nat.not_lt.mpr (Nat.le_succ _))
    · match r2, got2 with
      | .error _, got2 => exact got2
      | .ok (.ret v), got2 =>
        obtain ⟨rfl, h', t, c, rfl, new, kp⟩ := got2
        repeat any_goals first | wp_step | assumption
        exact k _ _ _ new kp
      | .ok .next, got2 => exact got2.elim
      | .ok .brk, got2 => exact got2.elim
      | .ok .cont, got2 => exact got2.elim
  | .ok .next, got => exact got.elim
  | .ok .brk, got => exact got.elim
  | .ok .cont, got => exact got.elim
end
end PG

set_option Elab.async false
set_option linter.all false
set_option autoImplicit false
set_option maxRecDepth 100000
set_option maxHeartbeats 6400000
/-! ## TooGreat: made, with its field -/
namespace PySem
namespace PGX
open PySem.W PySem.Calls PyProof.Rows PySem.HandSPX Builtin Builtin.ObjectAttr
abbrev stI : Stmt := L2.inClass (PG.top 9) 0
abbrev bm3 : List Value := [.type "Exception", .type "BaseException", .type "object"]
/-- what the top has left of the class TooGreat, at C, and of its __init__, at fI -/
structure TgTxt (P : Program) (K : Frag) (mg : Str → Option Value) (C fI : Addr) : Prop where
  gC : mg "TooGreat" = some (.ref C)
  noS : mg "super" = none
  ini : excInitIn K C bm3 "Exception.__new__" = true
  ov : excOver K C bm3 = true
  hd : ∃ cd, clsIn K C = some cd ∧ cd.hasDict = true
  sup : ks_superIn K C C "__init__" = some (some (.builtin "Exception.__init__"))
  sub : mroIn K C (.ref C) = some true
  subE : subIn K (.ref C) (.type "Exception") = some true
  op : nsIn K cStatics "thirdparty.any" = some none
  sa : findIn K (.ref C) "__setattr__" = some (some (.builtin "object.__setattr__"))
  tk : takerIn K C "many" = some none
  noN : findIn K (.ref C) "many" = some none
  iC : findIn K (.ref C) "__init__" = some (some (.ref fI))
  fnC : isFn K (.ref fI) = true
  kC : keepIn K (.ref C) = true
  exC : subIn K (.ref C) (.type "BaseException") = some true
  tyC : typeIn K (.ref C) = some (.type "type")
  te : exmOne K (.ref C) (.ref C) = some true
  xf : L2.XfC K C
  fn : ∃ (oc : Value) (od an : Option Addr) (doc pm ct : Value) (cda cc : Addr) (osl : Array (Option Value)),
    K.lookup fI = some ⟨oc, od, .func (ksFn "__init__" "TooGreat.__init__" (L2.defArgs stI) (L2.defBody stI) (L2.defScope stI) .none .none doc pm an (.ref cda) ct cc), osl⟩ ∧ codeIn K (.ref cda) "TooGreat.__init__" = true ∧
    (∃ ccl cdd vs ccs file tf, K.lookup cda = some ⟨ccl, cdd, .fields vs, ccs⟩ ∧ vs[2]? = some (.str file tf) ∧ ((P.main.file : Str) == file) = true) ∧ ∃ cl cld csl, K.lookup cc = some ⟨cl, cld, .cell (some (.ref C)), csl⟩
  top : (P.main.scope.names.lookup ("super" : Str)).isSome = false
/-- what __init__ leaves of a new one at x -/
structure IEnd (h h' : Heap) (x C dx t1 : Addr) (v : Value) : Prop where
  keep : ∀ b o, b ≠ x → h.get? b = some o → h'.get? b = some o
  obj : h'.get? x = some { cls := .ref C, dict := some dx, data := .fields #[.ref t1, .none, .none, .none, .bool false, .none] }
  big : h.objs.size ≤ dx
  ne : dx ≠ x
  ns : h'.Ns1 dx (fun y => if y = "many" then some v else none)
section
variable {P : Program} {w : World} {A : Around} {R : Result → Shared → Prop} {s : Shared} {K : Frag} {mg mb : Str → Option Value} {C fI : Addr}
theorem tg_init (T : TgTxt P K mg C fI) {x t0 : Addr} {v : Value} (X : K.In s.heap) (hg : s.heap.Ns mainGlobals mg) (hb : s.heap.Ns builtinsNs mb) (hbs : mb "super" = some (.type "super")) (lim : s.heap.NoLimit)
    (hx : s.heap.get? x = some (excO C t0)) (nx : K.lookup x = none) (room : A.depth < recursionLimit) (q : ∀ h' tk dx t1, IEnd s.heap h' x C dx t1 v → R (.ok (.ret .none)) { s with heap := h', toks := tk }) :
    codeAny (model P w) A (.call (.ref fI) ⟨[.ref x, v], []⟩) R s := by
  obtain ⟨oc, od, an, doc, pm, ct, cda, cc, osl, ho, hcd, ⟨ccl, cdd, vs, ccs, file, tf, hcode, hvs, hfile⟩, cl, cld, csl, hcell⟩ := T.fn
  obtain ⟨cd, hC, hdict⟩ := T.hd
  obtain ⟨nm0, N0, qn0, bs0, bm0, hdct0, sn0, sub0, ab0, col0, dd0, k00, k01, k02, k03, k05, hCo, hT0⟩ := excInit_of X T.ini
  refine ks_codeAny_call_defAt (fd := ksFn "__init__" "TooGreat.__init__" (L2.defArgs stI) (L2.defBody stI) (L2.defScope stI) .none .none doc pm an (.ref cda) ct cc) (binds := [("self", .ref x), ("many", v)]) room (X _ _ ho) rfl lim (codeRec_of X hcd) rfl
    (BindsTo.of_eq (by first | rfl | with_unfolding_all rfl)) (show ∀ y ∈ (L2.defScope stI).names, y.2 ≠ .cell by decide +kernel) (fun y hy => ?_) (fun h₁ hns k1 => ?_) rfl rfl rfl
  · rcases List.mem_cons.mp hy with z | z
    · subst z; rfl
    · rw [List.mem_singleton] at z; subst z; rfl
  have X1 : K.In h₁ := X.keeps k1
  have hx1 := k1 _ _ hx
  obtain ⟨oD, hD1, hD2⟩ : ∃ oD, h₁.get? C = some oD ∧ oD.data = .cls cd := by
    unfold clsIn at hC
    split at hC
    · rename_i c d cd' sl hl
      cases hC
      exact ⟨_, X1 _ _ hl, rfl⟩
    · cases hC
  have ix : InstAt h₁ x (excO C t0) C none := ⟨hx1, rfl, rfl, trivial⟩
  have xC := ks_ne X1 ix hC
  refine ks_wpAt_execs_cons (ks_wpAt_Expr_any (ks_wpAt_MethodCall ?_))
  refine ks_wpAt_super_base (by rfl) (by rfl) (by decide) rfl (X1 _ _ ho) rfl rfl rfl (X1 _ _ hcode) rfl hvs hfile T.top ?_
  refine ks_loadName_global rfl (by rfl) (loadGlobal_builtin (hg.keeps k1) T.noS (hb.keeps k1) hbs ⟨rfl, ?_⟩)
  refine wpAny_loadName_free rfl (by rfl) rfl ⟨_, X1 _ _ hcell, rfl⟩ ?_
  refine wpAny_loadName_local rfl (by rfl) hns (v := .ref x) (by first | rfl | with_unfolding_all rfl) ?_
  refine ks_wpAny_isType_cls hD1 hD2 ⟨rfl, ?_⟩
  refine ks_wpAny_call_super hD1 hD2 hx1 rfl (fun c e => by cases e) (looks_mroIn X1 T.sub) (fun h₂ at2 k2 => ?_)
  have X2 : K.In h₂ := X1.keeps k2
  have ix2 : InstAt h₂ x (excO C t0) C none := ⟨k2 _ _ hx1, rfl, rfl, trivial⟩
  have hsup := T.sup
  unfold ks_superIn at hsup
  rw [hC] at hsup
  refine kxs_getMethod kxs_Exception at2 (looks_opaque X2 T.op) (l₀ := cd.mro) (fun A Q E s k q => wpAny_bind ((looks_clsIn X2 hC) A _ E s k (wpAny_pure q))) rfl X2 hsup (ix2.type.andThen (looks_subIn X2 T.subE)) xC (by decide) ?_
  refine ESX.callWith_bound (x := x) ?_
  refine args_cons (Calls.Constant_str ?_)
  refine args_nil ?_
  have k3 : ∀ b o, h₂.get? b = some o → (h₂.push (kxs_mw "Exception.__init__" x)).get? b = some o := fun b o e => Heap.get?_push_of_some _ e
  refine ⟨Heap.get?_push_size _ rfl, ?_⟩
  have X3 : K.In (h₂.push (kxs_mw "Exception.__init__" x)) := X2.keeps k3
  refine ESX.call_bw (k3 _ _ (k2 _ _ (k1 _ _ hCo))) (k3 _ _ (k2 _ _ hx1)) (Heap.get?_push_size _ rfl) (PG.line1000 (by show 1 ≤ 1000000; decide)) (fun h₄ t1 k4 hx4 => ?_)
  have X4 : K.In h₄ := fun a o e => k4 a o (fun z => by rw [z, nx] at e; cases e) (X3 a o e)
  have old : ∀ b o, b ≠ x → s.heap.get? b = some o → h₄.get? b = some o := fun b o hb e => k4 b o hb (k3 b o (k2 b o (k1 b o e)))
  have Lx : s.heap.objs.size ≠ x := Nat.ne_of_gt (Heap.lt_size hx)
  have hns4 := hns.at (h' := h₄) fun o e => k4 _ o Lx (k3 _ o (k2 _ o e))
  have L4 : s.heap.objs.size < h₄.objs.size := hns4.lt
  refine wpAt_of_wpAny (?_ : wpAny _ _ (execs _ _) _ _ _)
  refine wpAny_execs_cons (plainObj_wpAny_Assign_Attribute ?_)
  refine ESX.ldL (v := v) hns4 (by first | rfl | with_unfolding_all rfl) (ESX.ldL (v := .ref x) hns4 (by first | rfl | with_unfolding_all rfl) ?_ rfl (by rfl)) rfl (by rfl)
  have ix4 : InstAt h₄ x (excO C t1) C none := ⟨hx4, rfl, rfl, trivial⟩
  refine set_plain X4 ix4 T.sa ?_
  refine osa_openX PySem.F.store_Exception X4 ix4 T.ov T.tk (fun b => ?_)
  have hcls : Looks (model P w) h₄ (classData C) cd := looks_clsIn X4 hC
  have xs : x ≠ h₄.objs.size := Nat.ne_of_lt (Heap.lt_size hx4)
  clear hns4 hsup
  obtain ⟨hp, g, d, t, os⟩ := s
  obtain ⟨nm, bs, mro, ns, qn, hdd, sn, sb, ab, col, del⟩ := cd
  dsimp only at hdict
  subst hdict
  dsimp only
  unfold storeInOwnDict ownDictForStores
  repeat (first | with_reducible refine store_in_new ?_ ?_ | with_reducible refine wpAny_loadPart_at hx4 ?_ | with_reducible refine hcls.at ?_ | wp_step)
  · exact ⟨_, #[], _, (Heap.get?_update_ne _ _ _ _ xs.symm).trans (Heap.get?_push_at rfl rfl), rfl, (fun e he => by simp at he), fun _ => rfl⟩
  · intro h' tk' hn' hs
    have hx5 : (h₄.push ⟨.type "dict", none, .dict #[], #[]⟩).get? x = some (excO C t1) := Heap.get?_push_of_some _ hx4
    refine wpAny_execs_nil (q h' tk' h₄.objs.size t1 ⟨fun b o hne e => ?_, (hs.2 x xs).trans (Heap.get?_update_self _ hx5 rfl), Nat.le_of_lt L4, xs.symm, hn'⟩)
    have e4 := old b o hne e
    exact (hs.2 b (Nat.ne_of_lt (Heap.lt_size e4))).trans ((Heap.get?_update_ne _ _ _ _ hne).trans (Heap.get?_push_of_some _ e4))
/-- what stands behind TooGreat(v): the new error at e, its dict at d -/
structure TMade (h h' : Heap) (e C d : Addr) (v : Value) : Prop where
  keep : ∀ b o, h.get? b = some o → h'.get? b = some o
  new : h.objs.size ≤ e
  obj : ∃ oe vs, h'.get? e = some oe ∧ oe.cls = .ref C ∧ oe.dict = some d ∧ oe.data = .fields vs ∧ vs[1]? = some .none
  big : h.objs.size ≤ d
  ne : d ≠ e
  ns : h'.Ns1 d (fun y => if y = "many" then some v else none)
theorem tg_made (T : TgTxt P K mg C fI) {v : Value} (X : K.In s.heap) (hg : s.heap.Ns mainGlobals mg) (hb : s.heap.Ns builtinsNs mb) (hbs : mb "super" = some (.type "super")) (lim : s.heap.NoLimit) (room : A.depth + 1 < recursionLimit)
    (q : ∀ h' tk e d, TMade s.heap h' e C d v → R (.ok (.ret (.ref e))) { s with heap := h', toks := tk }) : codeAny (model P w) A (.call (.ref C) ⟨[v], []⟩) R s := by
  obtain ⟨nm, N', qn, bs, bm, hdct, sn, sub, ab, col, dd, k0, k1, k2, k3, k5, hC, hT⟩ := excInit_of X T.ini
  obtain ⟨oI, hoI, hcI⟩ : ∃ oI, s.heap.get? fI = some oI ∧ oI.cls = .type "function" := by
    obtain ⟨o, ho, hc⟩ := Option.map_eq_some_iff.mp (show (K.lookup fI).map (·.cls) = some (.type "function") from beq_iff_eq.mp T.fnC)
    exact ⟨o, X _ _ ho, hc⟩
  obtain ⟨hp, g, dr, tk, os⟩ := s
  have kp : ∀ b o, hp.get? b = some o → ((hp.push (kdv_tup [v])).push (excO C hp.objs.size)).get? b = some o := fun b o e => Heap.get?_push_of_some _ (Heap.get?_push_of_some _ e)
  have sz : (hp.push (kdv_tup [v])).objs.size = hp.objs.size + 1 := Heap.size_push ..
  have at_ : ((hp.push (kdv_tup [v])).push (excO C hp.objs.size)).get? (hp.objs.size + 1) = some (excO C hp.objs.size) := by
    have := Heap.get?_push_size (hp.push (kdv_tup [v])) (o := excO C hp.objs.size) rfl
    rw [sz] at this
    exact this
  have nx : K.lookup (hp.objs.size + 1) = none := by
    cases e : K.lookup (hp.objs.size + 1) with
    | none => rfl
    | some o => exact absurd (Nat.lt_of_succ_lt (Heap.lt_size (X _ _ e))) (Nat.lt_irrefl _)
  refine call_own PySem.F.excBase_Exception hT hC (looks_findIn X T.iC) (fun self => exc_bind hoI hcI self) (PG.line1000 (by show 1 ≤ 1000000; decide)) ?_
  refine tg_init (s := ⟨(hp.push (kdv_tup [v])).push (excO C hp.objs.size), g, dr, tk, os⟩) T (X.keeps kp) (hg.keeps kp) (hb.keeps kp) hbs (lim.keeps kp) at_ nx room fun h' tk' dx t1 I => ⟨rfl, q h' tk' (hp.objs.size + 1) dx ?_⟩
  have big : hp.objs.size + 1 + 1 ≤ dx := by
    have := I.big
    rw [Heap.size_push, sz] at this
    exact this
  refine ⟨fun b o e => I.keep b o (Nat.ne_of_lt (Nat.lt_succ_of_lt (Heap.lt_size e))) (kp b o e), Nat.le_succ _, ⟨_, _, I.obj, rfl, rfl, rfl, rfl⟩, ?_, I.ne, I.ns⟩
  exact Nat.le_trans (Nat.le_trans (Nat.le_succ _) (Nat.le_succ _)) big
end
end PGX
end PySem
namespace PG
open PySem PySem.Spec L2
theorem relO_one {x f : Str} {v : V} {u : Value} (r : RelV v u) : RelO (List.lookup f [(x, v)]) (if f = x then some u else none) := by
  rw [lookup_cons]
  by_cases h : f = x
  · rw [if_pos h, if_pos h]; exact r
  · rw [if_neg h, if_neg h]; trivial
section
variable {X : Cx} {C fI : Addr}
/-- TooGreat(e): the error's own dict, new, holds what e is -/
def tMkTG (C : Addr) (ta : TA) : St → Hp → XK → Prop := fun σ H Q => ta σ H fun vs H1 => ∃ v, vs = [v] ∧ ∀ d, H1 d = none → Q (.ref C) (some d) (upd H1 d (.xd [(("many" : Str), v)]))
theorem pmk_tg {a : Expr} {ta : TA} {p pos : Pos} {k : Nat} (T : PySem.PGX.TgTxt X.prog X.K X.mg C fI) (hr : Room k X.A) (ha : PA X [a] ta) (hg : Gl X "TooGreat" := by rfl)
    (he : starEach (a :: []) X.env = (false, eval a X.env) :: starEach [] X.env := by rfl) (hpl : (backTo pos (starEach [] X.env)).any (·.1) = false := by rfl) : PMk X (.Call (.Name "TooGreat" p) [a] [] pos) (tMkTG C ta) := by
  intro pins s σ H Q I h
  refine wpAny_Call_Name_kw (ld_glob I hg T.gC ?_)
  refine PySem.W.callWith_K (h₀ := X.base) I.ok.mod.kin T.kC (thn (ha.run pos pins s σ H _ I h) fun us s1 hh => ?_) he hpl
  obtain ⟨vs, H1, I1, r1, v, ev, q1⟩ := hh
  subst ev
  refine ⟨I1.kIn, ?_⟩
  cases r1 with
  | cons rv rn =>
    rename_i u us'
    cases rn
    have lim := I1.nolimit
    obtain ⟨mb, hb1, hb2⟩ := I1.mod.blt
    have gl := I1.mod.glob.keeps I1.bk
    have bl := hb1.keeps I1.bk
    obtain ⟨hp, g, dr, tk, os⟩ := s1
    refine wpAny_call (PySem.PGX.tg_made (mb := mb) T I1.kIn gl bl ((hb2 _ (by decide)).trans (by rfl)) lim (by have := hr.dp; omega) fun h' tk' e d M => ?_)
    show MkP X pins σ Q (.ref e) ⟨h', g, dr, tk', os⟩
    obtain ⟨oe, fv, hoe, hc, hd, hdat, h1⟩ := M.obj
    obtain ⟨G', g1, g2⟩ := restrict h' fun b => decide (b ≠ e)
    have gk : ∀ b, b ≠ e → G'.get? b = h'.get? b := fun b hb => g1 b (decide_eq_true hb)
    have ge : G'.get? e = none := g2 e (by simp)
    have old : ∀ b o, hp.get? b = some o → G'.get? b = some o := fun b o z => (gk b (Nat.ne_of_lt (Nat.lt_of_lt_of_le (Heap.lt_size z) M.new))).trans (M.keep b o z)
    have ob : ObjOk X.prog X.w (upd H1 d (.xd [(("many" : Str), v)])) G' d (.xd [(("many" : Str), v)]) := ⟨_, M.ns.at (fun o z => (gk d M.ne).trans z), fun f => relO_one rv⟩
    have J : Inv X pins σ (upd H1 d (.xd [(("many" : Str), v)])) ⟨G', g, dr, tk', os⟩ := I1.laid (t' := tk') old M.big ob
    refine ⟨e, oe, fv, ⟨G', g, dr, tk', os⟩, _, .ref C, some d, rfl, J, fun b o z => ?_, ge, hoe, ⟨hc, hd⟩, hdat, h1, ?_, rfl, I1.bare, raises_own T.exC T.tyC, q1 d (I1.hok.fresh M.big)⟩
    · refine (gk b fun hb => ?_).symm.trans z
      have z' : G'.get? b = some o := z
      rw [hb, ge] at z'
      cases z'
    · rw [upd_ne (Ne.symm M.ne)]
      exact I1.hok.fresh M.new
end
end PG

set_option Elab.async false
set_option linter.all false
set_option autoImplicit false
set_option maxRecDepth 100000
set_option maxHeartbeats 6400000
namespace PG
open PySem PySem.Spec L2
/-! ## *d of a dict, set of a list, len of a set -/
section
variable {X : Cx} {pins : List (Addr × Obj)} {σ : L2.St} {H : Hp} {s : Shared}
theorem star_dict (hc : X.calm = true) {d : Addr} {kvs : List (Key × V)} {E : Value → Shared → Prop} {Q : List Value → Shared → Prop} (I : Inv X pins σ H s) (h : H d = some (.dK kvs)) (hQ : ∀ us s', Inv X pins σ H s' → Vals (kvs.map fun kv => kV kv.1) us → Q us s') :
    PySem.W.StarOf (model X.prog X.w) X.A E (.ref d) Q s := by
  obtain ⟨z, lo, vs, rk, hd⟩ := (show ObjOk X.prog X.w H s.heap d (.dK kvs) from I.hok d _ h)
  obtain ⟨ep, hat⟩ := hd.dictAt
  have hl : kvs.length = vs.length := Paired.length rk
  unfold PySem.W.StarOf notIterableAtAll
  refine wpAny_bind (wpAny_specialOf hd.typeIs PySem.F.slot_dict_iter.lookup (wpAny_pure ⟨rfl, ?_⟩))
  refine PySem.W.kdu_collect (PySem.W.kdl_dict (knd := mixKind X.prog X.w) (kvs := vs) (ep := ep) lo) (I.ok.hd hc) hat (by rw [← hl]; exact z) fun h' tk acc kp items => hQ _ _ (I.kept (t' := tk) kp) ?_
  have ek : (kvs.map fun kv => kV kv.1) = (kvs.map (·.1)).map kV := by rw [List.map_map]; rfl
  refine vals_of_at ?_ fun j x u h1 h2 => ?_
  · rw [List.length_map, hl, ← items.1, Array.length_toList]
  · obtain ⟨key, y, hky, hi⟩ := items.2 j u (by rw [← Array.getElem?_toList]; exact h2)
    rw [ek, KV.keys rk, List.getElem?_map, List.getElem?_map, hky] at h1
    cases h1
    exact keyIs_rel hi
end
def tStarD (te : TE) (t : TA) : TA := fun σ H Q => te σ H fun x H1 => ∃ d kvs, x = V.ref d ∧ H1 d = some (.dK kvs) ∧ t σ H1 fun ys H2 => Q ((kvs.map fun kv => kV kv.1) ++ ys) H2
section
variable {X : Cx}
theorem pa_starD {e : Expr} {es : List Expr} {te : TE} {t : TA} {p : Pos} (hc : X.calm = true) (he : PE X e te) (hr : PA X es t) (hs : starEach (.Starred e p :: es) X.env = (true, eval e X.env) :: starEach es X.env := by rfl) : PA X (.Starred e p :: es) (tStarD te t) := by
  refine ⟨fun pos pins s σ H Q I h => ?_⟩
  refine PySem.W.items_star (thn (he.run pins s σ H _ I h) fun v s1 hv => ?_) hs
  obtain ⟨y, H1, I1, ry, d, kvs, ey, hd, q⟩ := hv
  subst ey
  obtain rfl : v = Value.ref d := ry
  refine star_dict hc I1 hd fun us s2 I2 rv => ?_
  exact thn (hr.run pos pins s2 σ H1 _ I2 q) fun ws s3 ⟨vs, H3, I3, r3, q3⟩ => ⟨_ ++ vs, H3, I3, rv.append r3, q3⟩
theorem setR_out {w : World} {h : Heap} {a : Addr} {S : Int → Bool} {n : Nat} (R : SetR w h a S n) : ∃ out : List Int, out.Nodup ∧ out.length = n ∧ ∀ k, S k = true ↔ k ∈ out := by
  obtain ⟨o, es, ep, t, ho, hx, hd, g, nd, hm, hb, hf, hn, _⟩ := R
  exact ⟨es.toList.map keyOf, nd, by rw [List.length_map, Array.length_toList]; exact hn, hm⟩
def rSetI (K : PySem.W.Frag) (w : World) : List V → Hp → VK → Prop := fun vs H Q => ∃ (l : Addr) (ns : List Int), vs = [.ref l] ∧ SqL K H l (ns.map V.int) ∧ ns.length ≤ 500 ∧
  ∀ (p : Addr) (out : List Int), H p = none → out.Nodup → (∀ k, k ∈ out ↔ k ∈ ns) → Q (.ref p) (upd H p (SetO w p (fun j => decide (j ∈ ns)) out.length))
theorem cr_setI (hc : X.calm = true) : CallR X (.type "set") (rSetI X.K X.w) := by
  intro pins s σ H vs us Q I r h
  obtain ⟨l, ns, rfl, hs, hz, q⟩ := h
  rw [Vals.ref1 r]
  obtain ⟨its, rv, pl, hzz⟩ := I.list hs
  refine set_listI ns (I.ok.hd hc) pl.isList (by simpa using ints_of_vals rv) (by unfold scanBound; omega) fun h' t c new kp => ?_
  obtain ⟨out, nd, ln, mem⟩ := setR_out new
  have J : Inv X pins σ (upd H s.heap.objs.size (SetO X.w s.heap.objs.size (fun j => decide (j ∈ ns)) c)) { s with heap := h', toks := t } := I.laid (t' := t) kp (Nat.le_refl _) (setO_new new)
  refine ⟨.ref s.heap.objs.size, _, J, rfl, ?_⟩
  have := q s.heap.objs.size out (I.hok.fresh (Nat.le_refl _)) nd fun k => by rw [← mem k]; exact decide_eq_true_iff
  rw [ln] at this
  exact this
theorem cr_lenO (hc : X.calm = true) : CallR X (.builtin "len") (fun vs H Q => ∃ (a : Addr) (S : Int → Bool) (n : Nat), vs = [.ref a] ∧ H a = some (SetO X.w a S n) ∧ Q (.int n) H) := by
  intro pins s σ H vs us Q I r h
  obtain ⟨a, S, n, rfl, ha, q⟩ := h
  rw [Vals.ref1 r]
  obtain ⟨o, es, ep, t, ho, hx, hd, g, nd, hm, hb, hf, hn, _⟩ := setO_get I ha
  refine call_len_set ho hx hd hf (by unfold scanBound at hb; omega) ⟨.int n, H, I.tok _, ⟨_, by rw [hn]⟩, q⟩
end
end PG

set_option Elab.async false
set_option linter.all false
set_option autoImplicit false
set_option maxRecDepth 100000
set_option maxHeartbeats 4000000
namespace PG
open PySem L2
theorem Chg.but_in {x d : Addr} {a : SAdr} {H H' : Hp} (hd : d = x ∨ d = a.dev ∨ d = a.cel ∨ d = a.run) (b : But d H H') (t : TupE H H') (l : H' d ≠ none) : Chg x a a H H' := by
  refine ⟨fun c o h1 h2 h3 h4 e => b c o (fun z => ?_) e, t, fun c h z => ?_, rfl, rfl, rfl, .inl rfl⟩
  · subst z
    rcases hd with z | z | z | z
    · exact h1 z
    · exact h2 z
    · exact h3 z
    · exact h4 z
  · by_cases e : c = d
    · subst e; exact l z
    · cases e2 : H c with
      | none => exact h e2
      | some o => rw [b c o e e2] at z; cases z
theorem dputs_snoc (M : DM) (l : List (Int × Pl)) (e : Int × Pl) : dputs M (l ++ [e]) = dput (dputs M l) e.1 e.2 := by
  rw [dputs_append]; rfl
theorem dputs_all8 {l : List (Int × Pl)} (hl : ∀ e ∈ l, e.2.length = 8) : ∀ {M : DM}, All8 M → All8 (dputs M l) := by
  induction l with
  | nil => intro M h; exact h
  | cons e l ih =>
    intro M h
    refine ih (fun x hx => hl x (List.mem_cons_of_mem _ hx)) (M := dput M e.1 e.2) fun p v hv => ?_
    unfold dput at hv
    split at hv
    · cases hv; exact hl e List.mem_cons_self
    · exact h p v hv
theorem dputs_isSome {l : List (Int × Pl)} (nd : (l.map (·.1)).Nodup) (M : DM) (p : Int) : (dputs M l p).isSome = true ↔ (M p).isSome = true ∨ p ∈ l.map (·.1) := by
  by_cases hp : p ∈ l.map (·.1)
  · obtain ⟨e, he, rfl⟩ := List.mem_map.mp hp
    rw [dputs_mem nd he]
    exact ⟨fun _ => .inr hp, fun _ => rfl⟩
  · rw [dputs_none fun e he z => hp (List.mem_map.mpr ⟨e, he, z⟩)]
    exact ⟨fun h => .inl h, fun h => h.elim id fun z => absurd z hp⟩
theorem nodup_len {l m : List Int} (hl : l.Nodup) (hm : m.Nodup) (h : ∀ x, x ∈ l ↔ x ∈ m) : l.length = m.length := ((List.perm_ext_iff_of_nodup hl hm).mpr h).length_eq
/-- the store, its two dicts ahead -/
def putTo (S : Sto) (l : List (Int × Pl)) : Sto := { S with run := dputs S.run l, cells := dputs S.cells l }
section
variable {A : Adr} {H H' : Hp} {x : Addr} {S : Sto} {a : SAdr}
theorem StoreAt.runned (h : StoreAt A H x S a) {M' : DM} (b : But a.run H H') (t : TupE H H') (hd : DictAt H' a.run S.plates M') (h8 : All8 M') : StoreAt A H' x { S with run := M' } a ∧ Chg x a a H H' := by
  have w := h.wf
  exact ⟨⟨b _ _ h.xr h.ins, h.bg.mono t fun o e => b _ _ h.br e, h.dev.mono t fun o e => b _ _ h.dr e, h.tr.mono t, t _ _ h.hd, h.gr.mono t, h.cel.mono t fun o e => b _ _ h.ncr e, hd, h.pu.mono t, h.ncr, h.nbd,
    ⟨w.s0, w.s1, w.p1, w.dl, w.gs, h8, w.sh, w.lz, w.rle, w.gl⟩⟩, .but_in (.inr (.inr (.inr rfl))) b t hd.there⟩
theorem StoreAt.celled (h : StoreAt A H x S a) {M' : DM} (b : But a.cel H H') (t : TupE H H') (hd : DictAt H' a.cel S.plates M') : StoreAt A H' x { S with cells := M' } a ∧ Chg x a a H H' := by
  have w := h.wf
  exact ⟨⟨b _ _ h.xc h.ins, h.bg.mono t fun o e => b _ _ h.bc e, h.dev.mono t fun o e => b _ _ h.dc e, h.tr.mono t, t _ _ h.hd, h.gr.mono t, hd, h.run.mono t fun o e => b _ _ h.ncr.symm e, h.pu.mono t, h.ncr, h.nbd,
    ⟨w.s0, w.s1, w.p1, w.dl, w.gs, w.rok, w.sh, w.lz, w.rle, w.gl⟩⟩, .but_in (.inr (.inr (.inl rfl))) b t hd.there⟩
end
section
variable {P : Program} {w : World} {K : PySem.W.Frag} {mg : Str → Option Value} {base : Heap} {A : Adr}
/-! ## Store.put -/
def spPut (A : Adr) (Cg : Addr) : Sp := fun vs H Q E => ∃ (x : Addr) (S : Sto) (a : SAdr) (d : Addr) (M : DM), vs = [.ref x, .ref d] ∧ StoreAt A H x S a ∧ DictAt H d S.plates M ∧ All8 M ∧ S.trace.length < 60000 ∧ S.pushed.length < 700 ∧
  (S.slots < (chg M S.plates).length → ∀ dd H', Same H H' → H dd = none → H' dd = some (.xd [(("many" : Str), .int (chg M S.plates).length)]) → E (.ref Cg) (some dd) H') ∧
  (chg M S.plates = [] → ∀ H', Same H H' → Q .non H') ∧
  ((chg M S.plates).length ≤ S.slots → chg M S.plates ≠ [] → ∀ a' H', StoreAt A H' x (putS S (chg M S.plates)) a' → Chg x a a' H H' → Q .non H')
abbrev ptN : List Str := ["self", "changes", "told", "plate", "cells"]
theorem sc_put : FnScope ptN ["self", "changes"] (defScope (inClass (top 40) 6)) := ⟨rfl, rfl, rfl, by decide +kernel, rfl, by decide +kernel, by decide +kernel⟩
theorem ok_Store_put {Cg fg : Addr} (T : Txt K mg A) (G : PySem.PGX.TgTxt P K mg Cg fg) : FnOk P w K mg base (L2.CX P w) 8 A.a_Store_put A.d_Store_put ["self", "changes"] (spPut A Cg) := by
  refine T.m_Store_put.F.okX sc_put (fun vs H Q E h => ?_) (fun cdv A0 outer s H vs Q E hr h => ?_)
  · obtain ⟨x, S, a, d, M, rfl, _⟩ := h
    rfl
  · obtain ⟨x, S, a, d, M, rfl, h, hM, h8, hz, hpz, kE, kN, kS⟩ := h
    refine ⟨_, pss_cons (ps_set (i := 2) sc_put.nd rfl (Or.inl rfl) (pe_call (ok_checked_changes T) (hr.mono (by decide)) rfl T.t_checked_changes.g T.t_checked_changes.F.kp T.t_checked_changes.b .nil pass0 (pa_cons (pe_fld (pv 0) rfl) (pa_cons (pv 1) pa_nil))))
      (pss_cons (ps_if (pt_cmpR op_gt (pe_callB call_len_seq (by rfl) T.z_len PySem.boot_len (pa_cons (pv 2) pa_nil)) (pe_fld (pv 0) rfl) (nomark _))
          (pss_one (ps_raise rfl (takes_of rfl rfl rfl rfl) (pmk_tg G hr (pa_cons (pe_callB call_len_seq (by rfl) T.z_len PySem.boot_len (pa_cons (pv 2) pa_nil)) pa_nil)))) pss_nil)
      (PSs.nox (pss_cons (ps_if (pt_cmpR (op_eqD hr.units) (pv 2) (pe_tup pa_nil) (nomark _)) (pss_one ps_retN) pss_nil)
      (pss_cons (ps_if (pt_cmpR op_gt (pe_callB (cr_lenO rfl) (by rfl) T.z_len PySem.boot_len (pa_cons (pe_callTy (cr_setI rfl) (by rfl) T.z_set (by decide +kernel) (pa_cons
            (pe_lst (pa_starD rfl (pe_fld (pv 0) rfl) (StX.pa_star (pe_lc (own := [("plate", 3), ("cells", 4)]) (g := gTup K 2 (gCons (gName 3) (gCons (gName 4) gNil))) (tt := tYes) (te := tVar 3) rfl sc_put.nd (pi_tup (pv 2)) (blkOk_by (N := ptN) (sc := defScope (inClass (top 40) 6)) (by decide +kernel))
              (fun _ _ _ _ _ => pg_tup rfl (pgs_cons (pg_name (i := 3) sc_put.nd rfl (Or.inl rfl)) (pgs_cons (pg_name (i := 4) sc_put.nd rfl (Or.inl rfl)) pgs_nil))) (fun _ _ _ _ _ => pts_nil) (fun _ _ _ _ _ => pv 3)) pa_nil))) pa_nil)) pa_nil)) (pe_fld (pv 0) rfl) (nomark _))
          (pss_one (ps_expr (pe_meth0 (pv 0) T.k_Store.c T.m_Store_push.M (ok_Store_push T) hr T.m_Store_push.b .nil pass0))) pss_nil)
      (pss_cons (ps_for PassesOwn.never rfl (pi_tup (pv 2)) (pg_tup rfl (pgs_cons (pg_name (i := 3) sc_put.nd rfl (Or.inl rfl)) (pgs_cons (pg_name (i := 4) sc_put.nd rfl (Or.inl rfl)) pgs_nil)))
          (pss_cons (ps_dput (hu_of hr) (pe_fld (pv 0) rfl) (pv 3) (pv 4) rfl) (pss_one (ps_dput (hu_of hr) (pe_fld (pv 0) rfl) (pv 3) (pv 4) rfl))))
      (pss_cons (ps_fldaug (pv 0) pe_int in_add) (pss_one (ps_fldaug (pv 0) pe_int in_add)))))))), ?_⟩
    have hwf := h.wf
    have s50 := hwf.s1
    have p50 := hwf.p1
    refine ⟨_, rfl, x, A.c_Store, a.dx, _, _, rfl, h.ins, T.k_Store.c, T.n_Store_plates, SN_get0 .., _, rfl, S.plates, d, M, rfl, hM, h8, p50, fun c H1 s1 hc => ?_⟩
    obtain ⟨ys, hcy, hys⟩ := id hc
    have h1 := h.same s1
    have clen : (chg M S.plates).length ≤ 50 := by rw [chg_length]; exact Nat.le_trans (keysOf_le _ _) p50
    have cok := chg_ok8 (n := S.plates) h8
    have cnd := chg_nodup M S.plates
    refine ⟨_, rfl, c, ys, rfl, .inr (SqT.of hcy), _, rfl, x, A.c_Store, a.dx, _, _, rfl, h1.ins, T.k_Store.c, T.n_Store_slots, SN_get1 .., _, _, rfl, rfl, _, rfl, ?_⟩
    rw [hys.len]
    by_cases hgt : S.slots < (chg M S.plates).length
    · rw [decide_eq_true (show ((chg M S.plates).length : Int) > (S.slots : Int) by omega)]
      refine iteT ⟨_, rfl, c, ys, rfl, .inr (SqT.of hcy), _, rfl, fun dd nd => ?_⟩
      rw [hys.len]
      exact kE hgt dd _ (s1.trans (Same.new nd)) (Same.free s1 nd) upd_same
    rw [decide_eq_false (show ¬ ((chg M S.plates).length : Int) > (S.slots : Int) by omega)]
    refine iteF ⟨_, rfl, Nat.zero_le _, fun e ne => ?_⟩
    obtain ⟨H2, e2, s2, he⟩ := newE (.tup []) ne
    rw [e2]
    have s02 := s1.trans s2
    have hcy2 := s2 _ _ hcy
    have hys2 := hys.mono fun _ _ z => EntV.mono z (Same.tups s2)
    refine ⟨.tuple ((chg M S.plates).map entD), .tuple [], .tup (SqT.of hcy2) (dpAllV (fun _ _ z => dpEnt z) hys2), .tup (SqT.of he) .nil, (flat_tup (flat_map flat_ent _)).shaped, rfl, _, rfl, ?_⟩
    rw [eqv_tup0]
    by_cases hem : chg M S.plates = []
    · rw [decide_eq_true hem]
      exact iteT (kN hem H2 s02)
    rw [decide_eq_false hem]
    have h2 := h.same s02
    obtain ⟨kvs, hrd, hkv⟩ := id h2.run
    obtain ⟨ks, ks1, ks2, ks3, ks4⟩ := hkv.keys
    have ek : (kvs.map fun kv => kV kv.1) = ks.map V.int := by
      have : (kvs.map fun kv => kV kv.1) = (kvs.map (·.1)).map kV := by rw [List.map_map]; rfl
      rw [this, ks1, List.map_map]
      rfl
    have klen : ks.length ≤ 50 := Nat.le_trans (nodup_le S.plates ks ks2 ks4) p50
    refine iteF ⟨_, rfl, x, A.c_Store, a.dx, _, _, rfl, h2.ins, T.k_Store.c, T.n_Store_running, SN_get10 .., a.run, kvs, rfl, hrd, _, rfl, c, rfl, ⟨_, SqT.of hcy2⟩, fun D nD => ?_⟩
    refine lc_tup (K := K) (a := c) (xs := ys) (fun i H' => Same H2 H' ∧ H' D = some (.lst ((((chg M S.plates).take i).map (·.1)).map V.int))) ⟨Same.new nD, upd_same⟩ (fun i H' _ z => SqT.of (z.1 _ _ hcy2)) ?_ ?_
    · rintro i y H' hi ⟨s3, hA⟩
      obtain ⟨en, hen, b, z, rfl, hb, hzz⟩ := hys2.at hi
      refine ⟨b, _, rfl, SqT.of (s3 _ _ hb), rfl, _, _, rfl, _, _, rfl, rfl, rfl, tYes_ok (iteT ⟨_, rfl, _, hA, line_lt ?_, Same.upd0 s3 nD, ?_⟩)⟩
      · rw [List.length_map, List.length_map, List.length_take]
        omega
      · rw [upd_same, take_snoc hen]
        simp
    rintro H3 ⟨s3, hA⟩
    rw [hys.len, List.take_length, chg_keys] at hA
    have chl : (keysOf M S.plates).length ≤ 50 := by rw [← chg_length]; exact clen
    refine ⟨D, _, rfl, .inr (SqL.of hA), line1000 (by rw [ek]; simp; omega), fun q nq => ?_⟩
    rw [ek]
    obtain ⟨H4, e4, s4, hq⟩ := newE (.lst (ks.map V.int ++ ((keysOf M S.plates).map V.int ++ []))) nq
    rw [e4]
    refine ⟨q, ks ++ keysOf M S.plates, rfl, SqL.of (by rw [hq]; simp), by rw [List.length_append]; omega, fun p out np ond omem => ?_⟩
    have olen : out.length = (keysOf (dputs S.run (chg M S.plates)) S.plates).length := nodup_len ond (keysOf_nodup _ _) fun k => by
      rw [omem, List.mem_append, mem_keysOf, mem_keysOf, dputs_isSome cnd, chg_keys, mem_keysOf, ks3]
      constructor
      · rintro (z | ⟨z1, z2, z3⟩)
        · have := ks4 k ((ks3 k).mpr z)
          exact ⟨this.1, this.2, .inl z⟩
        · exact ⟨z1, z2, .inr ⟨z1, z2, z3⟩⟩
      · rintro ⟨z1, z2, z3 | z3⟩
        · exact .inl z3
        · exact .inr z3
    have s5 : Same H4 (upd H4 p (SetO w p (fun j => decide (j ∈ ks ++ keysOf M S.plates)) out.length)) := Same.new np
    have s25 := s3.trans (s4.trans s5)
    have h5 := h2.same s25
    have hc5 : EntsV _ c (chg M S.plates) := ⟨ys, s25 _ _ hcy2, hys2.mono fun _ _ z => z.mono (Same.tups s25)⟩
    have c05 : Chg x a a H _ := Chg.of_same (s02.trans s25)
    refine ⟨p, _, out.length, rfl, upd_same, ?_⟩
    refine ⟨_, rfl, x, A.c_Store, a.dx, _, _, rfl, h5.ins, T.k_Store.c, T.n_Store_slots, SN_get1 .., _, _, rfl, rfl, _, rfl, ?_⟩
    rw [olen]
    rw [olen] at h5 c05 hc5
    obtain ⟨S1, hS1⟩ : ∃ S1 : Sto, S1 = if (keysOf (dputs S.run (chg M S.plates)) S.plates).length > S.slots then pushS S else S := ⟨_, rfl⟩
    have ePut : putS S (chg M S.plates) = addS S1 (chg M S.plates) := by unfold putS; rw [hS1]
    have ePl : S1.plates = S.plates := by
      rw [hS1]
      split
      · exact (pushS_same S).1
      · rfl
    have eT : decide (((keysOf (dputs S.run (chg M S.plates)) S.plates).length : Int) > (S.slots : Int)) = true → S1 = pushS S := fun hb => by
      have hb := of_decide_eq_true hb
      rw [hS1, if_pos (by omega)]
    have eF : decide (((keysOf (dputs S.run (chg M S.plates)) S.plates).length : Int) > (S.slots : Int)) = false → S1 = S := fun hb => by
      have hb := of_decide_eq_false hb
      rw [hS1, if_neg (by omega)]
    refine both _ (fun a1 H6 => StoreAt A H6 x S1 a1 ∧ Chg x a a1 H H6 ∧ EntsV H6 c (chg M S.plates)) (fun rest hb => ⟨_, rfl, x, a.dx, _, rfl, h5.ins, SN_no (by decide +kernel), x, S, a, rfl, h5, by omega, by omega, fun a6 H6 h6 c6 => rest a6 H6 ⟨(eT hb).symm ▸ h6, c05.trans c6, hc5.mono c6.tups⟩⟩)
      (fun rest hb => rest a _ ⟨(eF hb).symm ▸ h5, c05, hc5⟩) ?_
    rintro a1 H6 ⟨h6, c6, ⟨zs, hcz, hzs⟩⟩
    refine ⟨_, rfl, c, rfl, ⟨_, SqT.of hcz⟩, for_tup (K := K) (a := c) (xs := zs) (fun i σ H' => ∃ (v3 v4 : Option V), σ = [some (.ref x), some (.ref d), some (.ref c), v3, v4] ∧ StoreAt A H' x (putTo S1 ((chg M S.plates).take i)) a1 ∧ Chg x a1 a1 H6 H')
      ⟨none, none, rfl, h6, Chg.refl _ _ _⟩ (fun i σ H' _ ⟨_, _, _, _, cc⟩ => SqT.of (cc.tups _ _ hcz)) ?_ ?_⟩
    · rintro i y σ H' hi ⟨v3, v4, rfl, h7, c7⟩
      obtain ⟨e, he, b, z, rfl, hb, hz⟩ := hzs.at hi
      have hok := cok e (List.mem_of_getElem? he)
      have tk8 : ∀ e ∈ (chg M S.plates).take i, e.2.length = 8 := fun e he => (cok e (List.mem_of_mem_take he)).2.2
      have pl7 : (putTo S1 ((chg M S.plates).take i)).plates = S.plates := ePl
      obtain ⟨H8, dp8, b8, t8, hd8⟩ := h7.run.put hok.1 (by rw [pl7]; exact hok.2.1) (by rw [pl7]; omega) (hz.mono c7.tups)
      obtain ⟨h8', c8⟩ := h7.runned b8 t8 hd8 (fun p v hv => by
        unfold dput at hv
        split at hv
        · cases hv; exact hok.2.2
        · exact h7.wf.rok p v hv)
      obtain ⟨H9, dp9, b9, t9, hd9⟩ := h8'.cel.put hok.1 (by show e.1 < ((putTo S1 ((chg M S.plates).take i)).plates : Int); rw [pl7]; exact hok.2.1) (by show (putTo S1 ((chg M S.plates).take i)).plates ≤ 1000; rw [pl7]; omega) (hz.mono (c7.tups.trans t8))
      obtain ⟨h9, c9⟩ := h8'.celled b9 t9 hd9
      refine ⟨b, _, rfl, SqT.of (c7.tups _ _ hb), rfl, _, _, rfl, _, _, rfl, rfl, ?_⟩
      refine ⟨_, rfl, _, rfl, x, A.c_Store, a1.dx, _, _, rfl, h7.ins, T.k_Store.c, T.n_Store_running, SN_get10 .., _, rfl, a1.run, H8, rfl, dp8, ?_⟩
      refine ⟨_, rfl, _, rfl, x, A.c_Store, a1.dx, _, _, rfl, h8'.ins, T.k_Store.c, T.n_Store_cells, SN_get7 .., _, rfl, a1.cel, H9, rfl, dp9, _, _, rfl, ?_, c7.trans (c8.trans c9)⟩
      have eS : putTo S1 ((chg M S.plates).take (i + 1)) = { { putTo S1 ((chg M S.plates).take i) with run := dput (putTo S1 ((chg M S.plates).take i)).run e.1 e.2 } with cells := dput (putTo S1 ((chg M S.plates).take i)).cells e.1 e.2 } := by
        unfold putTo
        rw [take_snoc he, dputs_snoc, dputs_snoc]
      rw [eS]
      exact h9
    rintro σ H7 ⟨v3, v4, rfl, h7, c7⟩
    rw [hzs.len, List.take_length] at h7
    generalize hS2 : putTo S1 (chg M S.plates) = S2 at h7
    have w7 := h7.wf
    refine ⟨_, rfl, x, A.c_Store, a1.dx, _, _, rfl, h7.ins, T.k_Store.c, T.n_Store_running_deeds, SN_get11 .., _, _, rfl, rfl, a1.dx, _, h7.ins, (by show 15 < 1000; decide), ?_⟩
    rw [show putF "running_deeds" (V.int ((S2.rund : Int) + 1)) (SN.zip (svals S2 a1)) = SN.zip (svals { S2 with rund := S2.rund + 1 } a1) from SN_set11 ..]
    obtain ⟨H8, e8, b8, hx8⟩ := chgE (H := H7) (d := x) (.ins A.c_Store a1.dx (SN.zip (svals { S2 with rund := S2.rund + 1 } a1)))
    rw [e8]
    have t8 : TupE H7 H8 := b8.ins h7.ins
    refine ⟨_, rfl, x, A.c_Store, a1.dx, _, _, rfl, hx8, T.k_Store.c, T.n_Store_deeds, SN_get13 .., _, _, rfl, rfl, a1.dx, _, hx8, (by show 15 < 1000; decide), ?_⟩
    rw [show putF "deeds" (V.int ((S2.deeds : Int) + 1)) (SN.zip (svals { S2 with rund := S2.rund + 1 } a1)) = SN.zip (svals { S2 with rund := S2.rund + 1, deeds := S2.deeds + 1 } a1) from SN_set13 ..]
    obtain ⟨H9, e9, b9, hx9⟩ := chgE (H := H8) (d := x) (.ins A.c_Store a1.dx (SN.zip (svals { S2 with rund := S2.rund + 1, deeds := S2.deeds + 1 } a1)))
    rw [e9]
    have b79 := b8.trans b9
    obtain ⟨t79, r1, r2, r3, r4, r5, r6, r7, r8⟩ := h7.xed b79
    have eFin : putS S (chg M S.plates) = { S2 with rund := S2.rund + 1, deeds := S2.deeds + 1 } := by rw [ePut, ← hS2]; rfl
    refine kS (by omega) hem a1 H9 ?_ (c6.trans (c7.trans (.but_x b79 t79 (some_ne hx9) rfl rfl rfl (.inl rfl))))
    rw [eFin]
    exact ⟨hx9, r1, r2, r3, r4, r5, r6, r7, r8, h7.ncr, h7.nbd, ⟨w7.s0, w7.s1, w7.p1, w7.dl, w7.gs, w7.rok, w7.sh, w7.lz, Nat.succ_le_succ w7.rle, w7.gl⟩⟩
end
end PG

set_option Elab.async false
set_option linter.all false
set_option autoImplicit false
set_option maxRecDepth 100000
set_option maxHeartbeats 4000000
namespace PG
open PySem L2
theorem sqL_same {K : PySem.W.Frag} {H H' : Hp} {a : Addr} {xs : List V} (h : SqL K H a xs) (s : Same H H') : SqL K H' a xs := by
  rcases h with h | h
  · rcases h with h | ⟨od, h⟩
    · exact .inl (.inl (s _ _ h))
    · exact .inl (.inr ⟨od, s _ _ h⟩)
  · exact .inr h
theorem get_listP {X : Cx} : PGet X (fun o i H Q => ∃ (p : Addr) (xs : List V) (j : Nat) (v : V), o = .ref p ∧ i = .int (j : Int) ∧ H p = some (.lst xs) ∧ xs[j]? = some v ∧ Q v H) := by
  intro pins s σ H o i ov iv Q I ro ri h
  obtain ⟨p, xs, j, v, rfl, rfl, hp, hv, q⟩ := h
  cases ro
  obtain ⟨t, rfl⟩ := ri
  obtain ⟨its, n, r, ho, hz⟩ := I.lst hp
  obtain ⟨u, hu, ru⟩ := r.get hv
  have hj : j < its.length := (List.getElem?_eq_some_iff.mp hu).1
  have hl := r.length
  have hb : j < 2 ^ 62 := by rw [sizeLine_eq] at hz; omega
  exact wpAny_getItem_list (show s.heap.IsList p its.toArray from ⟨_, ho, rfl, n, rfl⟩) (by omega) (by omega) (by simpa using hu) ⟨v, H, I, ru, q⟩
section
variable {P : Program} {w : World} {K : PySem.W.Frag} {mg : Str → Option Value} {base : Heap} {A : Adr}
/-! ## _law_number -/
def spNumber (K : PySem.W.Frag) : Sp := fun vs H Q _ => ∃ (l : Addr) (ns : List Int) (i : Nat), vs = [.ref l, .int i] ∧ SqL K H l (ns.map V.int) ∧ ns.length ≤ 63 ∧ i ≤ 1000000 ∧ ∀ (z : Int) H', Same H H' → Q (.int z) H'
abbrev nuN : List Str := ["_law_script", "_law_index", "_law_cell", "_law_blend"]
theorem sc_number : FnScope nuN ["_law_script", "_law_index"] (defScope (top 55)) := ⟨rfl, rfl, rfl, by decide +kernel, rfl, by decide +kernel, by decide +kernel⟩
theorem ok_law_number (T : Txt K mg A) : FnOk P w K mg base CX0 1 A.a__law_number A.d__law_number ["_law_script", "_law_index"] (spNumber K) := by
  refine T.t__law_number.F.ok sc_number (fun vs H Q E h => ?_) (fun cdv A0 outer s H vs Q E hr h => ?_)
  · obtain ⟨l, ns, i, rfl, _⟩ := h
    rfl
  · obtain ⟨l, ns, i, rfl, hs, hn, hi, k⟩ := h
    refine ⟨_, pss_cons (ps_if (pt_cmpR (op_eqD hr.units) (pv 0) (pe_lst pa_nil) (nomark _)) (pss_one (ps_ret (pe_callTy call_int1 (by rfl) T.z_int (by decide +kernel) (pa_cons (pe_op op_mod (pe_op op_add (pe_op op_mul (pv 1) pe_int) pe_int) pe_int) pa_nil)))) pss_nil)
      (pss_cons (ps_set (i := 2) sc_number.nd rfl (Or.inl rfl) (pe_ix ix_list (pv 0) (pe_op op_mod (pv 1) (pe_callB call_len_seq (by rfl) T.z_len PySem.boot_len (pa_cons (pv 0) pa_nil))) (fun _ _ => rfl)))
      (pss_cons (ps_if (pt_cmpR op_ge (pe_callB call_abs (by rfl) T.z_abs (by decide +kernel) (pa_cons (pv 2) pa_nil)) (pe_op op_pow pe_int pe_int) (nomark _)) (pss_one (ps_set (i := 2) sc_number.nd rfl (Or.inl rfl) (pe_op op_mod (pv 2) (pe_op op_pow pe_int pe_int)))) pss_nil)
      (pss_cons (ps_set (i := 3) sc_number.nd rfl (Or.inl rfl) (pe_op op_mod (pe_op op_add (pe_op op_mul (pe_op op_add (pv 2) (pe_op op_mul pe_int (pv 1))) pe_int) (pe_op op_mul pe_int (pe_callB call_len_seq (by rfl) T.z_len PySem.boot_len (pa_cons (pv 0) pa_nil)))) pe_int))
      (pss_one (ps_ret (pe_callTy call_int1 (by rfl) T.z_int (by decide +kernel) (pa_cons (pe_op op_mod (pe_op op_add (pe_op op_mul (pe_op op_mod (pe_op op_mul (pv 3) pe_int) pe_int) pe_int) (pv 1)) pe_int) pa_nil))))))), ?_⟩
    have c1 : CMul (i : Int) 48271 := .inr (by decide)
    refine ⟨_, rfl, Nat.zero_le _, fun e ne => ?_⟩
    obtain ⟨H1, e1, s1, he⟩ := newE (.lst []) ne
    rw [e1]
    have hs1 := sqL_same hs s1
    refine ⟨.list (ns.map PyData.int), .list [], .lst hs1 (dpInts ns), .lst (SqL.of he) .nil, (flat_lst (flat_map (fun z => flat_int 0 z) _)).shaped, rfl, _, rfl, ?_⟩
    rw [eqv_list0]
    by_cases h0 : ns = []
    · rw [decide_eq_true h0]
      exact iteT ⟨_, rfl, _, _, rfl, rfl, .inr (by decide), _, _, rfl, rfl, _, _, rfl, rfl, (by show (0 : Int) < 2147483647; decide), .inl ⟨_, rfl, k _ H1 s1⟩⟩
    · rw [decide_eq_false h0]
      have hpos : 0 < ns.length := List.length_pos_iff.mpr h0
      have hlt : i % ns.length < ns.length := Nat.mod_lt _ hpos
      refine iteF ⟨_, rfl, _, rfl, _, rfl, l, _, rfl, .inl hs1, _, _, rfl, rfl, (by rw [List.length_map]; show (0 : Int) < (ns.length : Int); omega), l, _, _, _, rfl, rfl, hs1, atI_of (i := i % ns.length) (by rw [List.length_map]; exact (Int.natCast_emod i ns.length).symm) (ints_at hlt), ?_⟩
      have hp : CPow 10 60 := ⟨by decide, by decide, by decide⟩
      refine ⟨_, rfl, _, rfl, _, _, rfl, rfl, hp, _, _, rfl, rfl, _, rfl, ?_⟩
      refine ite_b (fun hb => ?_) fun hb => ?_
      · refine ⟨_, rfl, _, _, rfl, rfl, (⟨by decide, by decide, by decide⟩ : CPow 10 18), _, _, rfl, rfl, (by show (0 : Int) < 10 ^ (18 : Int).toNat; decide), ?_⟩
        refine ⟨_, rfl, _, rfl, _, _, rfl, rfl, .inl (by decide), _, _, rfl, rfl, _, _, rfl, rfl, .inr (by decide), _, rfl, l, _, rfl, .inl hs1, _, _, rfl, rfl, .inl (by decide), _, _, rfl, rfl, _, _, rfl, rfl, (by show (0 : Int) < 2147483647; decide), ?_⟩
        exact ⟨_, rfl, _, _, rfl, rfl, .inr (by decide), _, _, rfl, rfl, (by show (0 : Int) < 2147483629; decide), _, _, rfl, rfl, .inr (by decide), _, rfl, _, _, rfl, rfl, _, _, rfl, rfl, (by show (0 : Int) < 2147483587; decide), .inl ⟨_, rfl, k _ H1 s1⟩⟩
      · refine ⟨_, rfl, _, rfl, _, _, rfl, rfl, .inl (by decide), _, _, rfl, rfl, _, _, rfl, rfl, .inr (by decide), _, rfl, l, _, rfl, .inl hs1, _, _, rfl, rfl, .inl (by decide), _, _, rfl, rfl, _, _, rfl, rfl, (by show (0 : Int) < 2147483647; decide), ?_⟩
        exact ⟨_, rfl, _, _, rfl, rfl, .inr (by decide), _, _, rfl, rfl, (by show (0 : Int) < 2147483629; decide), _, _, rfl, rfl, .inr (by decide), _, rfl, _, _, rfl, rfl, _, _, rfl, rfl, (by show (0 : Int) < 2147483587; decide), .inl ⟨_, rfl, k _ H1 s1⟩⟩
/-! ## _law_take, _law_pick: the draws stand at dr -/
def DrawAt (H : Hp) (dr sc : Addr) (i : Nat) : Prop := H dr = some (.lst [.ref sc, .int (i : Int)])
def spTake (K : PySem.W.Frag) : Sp := fun vs H Q _ => ∃ (dr sc : Addr) (ns : List Int) (i many : Nat), vs = [.ref dr, .int many] ∧ DrawAt H dr sc i ∧ SqL K H sc (ns.map V.int) ∧ (∀ H', But dr H H' → SqL K H' sc (ns.map V.int)) ∧ ns.length ≤ 63 ∧ i ≤ 100000 ∧ 0 < many ∧
  ∀ (r : Nat) H', r < many → But dr H H' → DrawAt H' dr sc (i + 1) → Q (.int r) H'
theorem sc_take : FnScope ["_law_draw", "_law_many"] ["_law_draw", "_law_many"] (defScope (top 56)) := ⟨rfl, rfl, rfl, by decide +kernel, rfl, by decide +kernel, by decide +kernel⟩
theorem ok_law_take (T : Txt K mg A) : FnOk P w K mg base CX0 2 A.a__law_take A.d__law_take ["_law_draw", "_law_many"] (spTake K) := by
  refine T.t__law_take.F.ok sc_take (fun vs H Q E h => ?_) (fun cdv A0 outer s H vs Q E hr h => ?_)
  · obtain ⟨dr, sc, ns, i, many, rfl, _⟩ := h
    rfl
  · obtain ⟨dr, sc, ns, i, many, rfl, hd, hs, hkeep, hn, hi, hm, k⟩ := h
    refine ⟨_, pss_cons (ps_augS (pv 0) pe_int get_listP pe_int ip_add set_list)
      (pss_one (ps_ret (pe_op op_mod (pe_callTy call_int1 (by rfl) T.z_int (by decide +kernel) (pa_cons (pe_call (ok_law_number T) hr rfl T.t__law_number.g T.t__law_number.F.kp T.t__law_number.b .nil pass0 (pa_cons (pe_ix ix_list (pv 0) pe_int (fun _ _ => rfl)) (pa_cons (pe_callTy call_int1 (by rfl) T.z_int (by decide +kernel) (pa_cons (pe_ix ix_list (pv 0) pe_int (fun _ _ => rfl)) pa_nil)) pa_nil))) pa_nil)) (pv 1)))), ?_⟩
    refine ⟨_, rfl, dr, _, 1, _, rfl, rfl, hd, rfl, _, _, rfl, rfl, dr, _, 1, 1, rfl, rfl, hd, rfl, ?_⟩
    obtain ⟨H1, e1, b1, hd1⟩ := chgE (H := H) (d := dr) (.lst [V.ref sc, V.int ((i : Int) + 1)])
    rw [show upd H dr (.lst (([V.ref sc, V.int (i : Int)] : List V).set 1 (V.int ((i : Int) + 1)))) = H1 from e1]
    have hd1' : DrawAt H1 dr sc (i + 1) := by unfold DrawAt; rw [hd1]; rfl
    refine ⟨_, rfl, dr, _, 0, _, rfl, rfl, SqL.of hd1, atI_of (i := 0) rfl rfl, _, rfl, dr, _, 1, _, rfl, rfl, SqL.of hd1, atI_of (i := 1) rfl rfl, .inl ⟨_, rfl, sc, ns, i + 1, rfl, hkeep _ b1, hn, by omega, fun z H2 s2 => .inl ⟨z, rfl, _, rfl, _, _, rfl, rfl, (by show (0 : Int) < (many : Int); omega), ?_⟩⟩⟩
    have hz1 := Int.emod_nonneg z (show (many : Int) ≠ 0 by omega)
    have hz2 := Int.emod_lt_of_pos z (show (0 : Int) < (many : Int) by omega)
    have := k (z % (many : Int)).toNat H2 (by omega) (b1.trans (Same.but' s2)) (s2 _ _ hd1')
    rwa [show (((z % (many : Int)).toNat : Nat) : Int) = z % (many : Int) by omega] at this
def spPick (K : PySem.W.Frag) : Sp := fun vs H Q _ => ∃ (dr sc it : Addr) (ns : List Int) (i : Nat) (xs : List V), vs = [.ref dr, .ref it] ∧ DrawAt H dr sc i ∧ SqL K H sc (ns.map V.int) ∧ (∀ H', But dr H H' → SqL K H' sc (ns.map V.int)) ∧ ns.length ≤ 63 ∧ i ≤ 100000 ∧ H it = some (.lst xs) ∧ it ≠ dr ∧ xs ≠ [] ∧
  ∀ (v : V) H', v ∈ xs → But dr H H' → DrawAt H' dr sc (i + 1) → Q v H'
theorem sc_pick : FnScope ["_law_draw", "_law_items"] ["_law_draw", "_law_items"] (defScope (top 57)) := ⟨rfl, rfl, rfl, by decide +kernel, rfl, by decide +kernel, by decide +kernel⟩
theorem ok_law_pick (T : Txt K mg A) : FnOk P w K mg base CX0 3 A.a__law_pick A.d__law_pick ["_law_draw", "_law_items"] (spPick K) := by
  refine T.t__law_pick.F.ok sc_pick (fun vs H Q E h => ?_) (fun cdv A0 outer s H vs Q E hr h => ?_)
  · obtain ⟨dr, sc, it, ns, i, xs, rfl, _⟩ := h
    rfl
  · obtain ⟨dr, sc, it, ns, i, xs, rfl, hd, hs, hkeep, hn, hi, hx, hne, hxs, k⟩ := h
    refine ⟨_, pss_one (ps_ret (pe_ix ix_list (pv 1) (pe_call (ok_law_take T) hr rfl T.t__law_take.g T.t__law_take.F.kp T.t__law_take.b .nil pass0 (pa_cons (pv 0) (pa_cons (pe_callB call_len_seq (by rfl) T.z_len PySem.boot_len (pa_cons (pv 1) pa_nil)) pa_nil))) (fun _ _ => rfl))), ?_⟩
    have hpos : 0 < xs.length := List.length_pos_iff.mpr hxs
    refine ⟨_, rfl, _, rfl, _, rfl, it, xs, rfl, .inl (SqL.of hx), dr, sc, ns, i, xs.length, rfl, hd, hs, hkeep, hn, hi, hpos, fun r H1 hr1 b1 hd1 => ?_⟩
    exact ⟨it, xs, (r : Int), xs[r], rfl, rfl, SqL.of (b1 _ _ hne hx), atI_of rfl (List.getElem?_eq_getElem hr1), k _ H1 (List.getElem_mem hr1) b1 hd1⟩
end
end PG

set_option Elab.async false
set_option linter.all false
set_option autoImplicit false
set_option maxRecDepth 100000
set_option maxHeartbeats 6400000
namespace PG
open PySem PySem.Spec L2
/-! ## Two dicts of the same plates' values compared -/
theorem eqv_pl1 (ns : Pl) : PyData.eqv (.tuple (ns.map PyData.int)) (.tuple (ns.map PyData.int)) = true := by
  exact (eqv_pl ns ns).trans (decide_eq_true rfl)
theorem KvAt.mem {H : Hp} {kvs : List (Key × V)} {n : Nat} {M : DM} (h : KvAt H kvs n M) {e : Key × V} (he : e ∈ kvs) : ∃ p ns, e.1 = Sum.inl p ∧ M p = some ns ∧ PlV H e.2 ns := by
  obtain ⟨i, hi⟩ := List.getElem?_of_mem he
  obtain ⟨p, ns, a, _, _, b, c⟩ := h.entry hi
  exact ⟨p, ns, a, b, c⟩
theorem KvAt.lens {H : Hp} {kvs ls : List (Key × V)} {n m : Nat} {M : DM} (h : KvAt H kvs n M) (g : KvAt H ls m M) : kvs.length = ls.length := by
  obtain ⟨ks, k1, k2, k3, _⟩ := h.keys
  obtain ⟨js, j1, j2, j3, _⟩ := g.keys
  have a : kvs.length = ks.length := by have := congrArg List.length k1; simpa using this
  have b : ls.length = js.length := by have := congrArg List.length j1; simpa using this
  rw [a, b]
  exact nodup_len k2 j2 fun x => (k3 x).trans (j3 x).symm
section
variable {X : Cx} {pins : List (Addr × Obj)} {σ : L2.St} {H : Hp} {s : Shared}
theorem hitsPl (hu : X.A.in1.units + 64 < cLine) (I : Inv X pins σ H s) {M : DM} {m : Nat} {ls : List (Key × V)} {vb : List (Key × Value)} (rb : KV ls vb) (g : KvAt H ls m M) :
    ∀ {ks : List (Key × V)} {va : List (Key × Value)}, KV ks va → (∀ e ∈ ks, ∃ p ns, e.1 = Sum.inl p ∧ M p = some ns ∧ PlV H e.2 ns) → PySem.W.KeqHits X.A.in1 s vb va true := by
  intro ks va ra
  unfold KV at ra
  induction ra with
  | nil => intro _; exact .nil
  | @cons p q ps qs h t ih =>
    intro hp
    obtain ⟨h1, h2⟩ := h
    obtain ⟨z, ns, e1, e2, e3⟩ := hp p List.mem_cons_self
    have o := g.at_ z
    rw [e2] at o
    cases hv : valV ls (Sum.inl z) with
    | none => rw [hv] at o; exact o.elim
    | some v =>
      rw [hv] at o
      have rr : RelO (some v) (valueAt vb (Sum.inl z)) := by rw [← hv]; exact rb.val _
      obtain ⟨y, hy, ry⟩ := rr.some_of
      obtain ⟨k, u⟩ := q
      have hk : k = Sum.inl z := by rw [← e1]; exact h1.symm
      subst hk
      obtain ⟨as, r1⟩ := Dp.reads I _ _ _ (dpPl (K := X.K) e3) h2
      obtain ⟨bs, r2⟩ := Dp.reads I _ _ _ (dpPl (K := X.K) o) ry
      have eq := PySem.W.keq_at (A := X.A) r1 r2 (flat_tup (flat_map (fun z => flat_int 0 z) ns)).shaped (flat_tup (flat_map (fun z => flat_int 0 z) ns)).shaped hu
      rw [eqv_pl1] at eq
      show PySem.W.KeqHits X.A.in1 s vb ((Sum.inl z, u) :: qs) (true && true)
      exact .hit hy eq (ih fun p' hm => hp p' (List.mem_cons_of_mem _ hm))
end
/-- the two stand for one map -/
def rDicts (b : Bool) : R2 := fun x y H Q => ∃ (d e : Addr) (n m : Nat) (M : DM), x = .ref d ∧ y = .ref e ∧ DictAt H d n M ∧ DictAt H e m M ∧ Q (.bl b) H
section
variable {X : Cx}
theorem op_eq_pl (hu : X.A.units < cLine) (hu2 : X.A.in1.units + 64 < cLine) : OpR X (compareOp .Eq) (rDicts true) := by
  intro pins s σ H x y v u Q I rx ry h
  obtain ⟨a, b, n, m, M, rfl, rfl, ⟨ks, ea, ka⟩, ⟨ls, eb, kb⟩, q⟩ := h
  obtain rfl : v = Value.ref a := rx
  obtain rfl : u = Value.ref b := ry
  obtain ⟨_, ya, va, ra, da⟩ := (show ObjOk X.prog X.w H s.heap a (.dK ks) from I.hok a _ ea)
  obtain ⟨_, yb, vb, rb, db⟩ := (show ObjOk X.prog X.w H s.heap b (.dK ls) from I.hok b _ eb)
  have hl : va.length = vb.length := by rw [← ra.length, ← rb.length]; exact ka.lens kb
  exact PySem.W.keq_eq (knd := mixKind X.prog X.w) (r := true) ya yb da db hu (fun _ => hitsPl hu2 I rb kb ra fun _ he => ka.mem he) (fin_bl I q (by simp [hl]))
theorem op_ne_pl (hu : X.A.units < cLine) (hu2 : X.A.in1.units + 64 < cLine) : OpR X (compareOp .NotEq) (rDicts false) := by
  intro pins s σ H x y v u Q I rx ry h
  obtain ⟨a, b, n, m, M, rfl, rfl, ⟨ks, ea, ka⟩, ⟨ls, eb, kb⟩, q⟩ := h
  obtain rfl : v = Value.ref a := rx
  obtain rfl : u = Value.ref b := ry
  obtain ⟨_, ya, va, ra, da⟩ := (show ObjOk X.prog X.w H s.heap a (.dK ks) from I.hok a _ ea)
  obtain ⟨_, yb, vb, rb, db⟩ := (show ObjOk X.prog X.w H s.heap b (.dK ls) from I.hok b _ eb)
  have hl : va.length = vb.length := by rw [← ra.length, ← rb.length]; exact ka.lens kb
  exact PySem.W.keq_ne (knd := mixKind X.prog X.w) (r := true) ya yb da db hu (fun _ => hitsPl hu2 I rb kb ra fun _ he => ka.mem he) (fin_bl I q (by simp [hl]))
end
/-- a dict laid of pairs -/
theorem merge_kv {H : Hp} {n : Nat} : ∀ (l : List (Int × Pl)) (vs : List V), AllV (PlV H) vs (l.map (·.2)) → (∀ e ∈ l, 0 ≤ e.1 ∧ e.1 < n) → ∀ (kvs : List (Key × V)) (M : DM), KvAt H kvs n M →
    KvAt H (mergeK kvs ((l.map fun e => (Sum.inl e.1 : Key)).zip vs)) n (dputs M l)
  | [], vs, _, _, kvs, M, h => h
  | e :: l, [], a, _, kvs, M, h => by have := a.1; simp at this
  | e :: l, v :: vs, a, hr, kvs, M, h => by
    have h1 := hr e List.mem_cons_self
    have hp : PlV H v e.2 := a.2 0 v e.2 rfl rfl
    exact merge_kv l vs ⟨by have := a.1; simpa using this, fun i x y p q => a.2 (i + 1) x y p q⟩ (fun x hx => hr x (List.mem_cons_of_mem _ hx)) _ _ (h.put h1.1 h1.2 hp)
end PG

set_option Elab.async false
set_option linter.all false
set_option autoImplicit false
set_option maxRecDepth 100000
set_option maxHeartbeats 6400000
namespace PG
open PySem PySem.Spec PyProof.Rows L2
/-! ## o.m(e ..) where what it raises is told at the slots of the call -/
section
variable {X : Cx} {CX : CXT} {k : Nat} {f C : Addr} {fd : FuncData} {ps : List Str} {sp : Sp} {E : L2.St → XK} {m : Str} {pos apos : Pos} {e o : Expr} {es : List Expr} {ta : TE} {t : TA}
def tMethS (C : Addr) (m : Str) (sp : Sp) (E : L2.St → XK) (ta : TE) (t : TA) : TE := fun σ H Q => ta σ H fun x H1 => ∃ a dx fs, x = .ref a ∧ H1 a = some (.ins C dx fs) ∧ fs.lookup m = none ∧ t σ H1 fun vs H2 => sp (x :: vs) H2 Q (E σ)
theorem pe_methS {pl : Sem Bool} (he : PE X o ta) (c : Cls X.K C) (hm : Meth X.K C m f) (F : FnOk X.prog X.w X.K X.mg X.base CX k f fd ps sp) (hr : Room k X.A) (hb : Binds X.K fd ps []) (hx : ∀ σ, PassesAt CX X σ (E σ)) (ha : PA X (e :: es) t)
    (sE : starEach (e :: es) X.env = (false, eval e X.env) :: starEach es X.env := by rfl) (sP : (backTo pos (starEach es X.env)).any (·.1) = false := by rfl)
    (tE : eval (.Call (.Attribute o m apos) (e :: es) [] pos) X.env = (do let ov ← eval o X.env; standAt apos.atName; let (f, first) ← holding [ov] (getMethod ov m pl); callWith pos f first (backTo pos (starEach (e :: es) X.env)) (backToKw pos (keywordEach [] X.env))) := by rfl) :
    PE X (.Call (.Attribute o m apos) (e :: es) [] pos) (tMethS C m sp E ta t) := by
  refine ⟨fun pns s0 σ0 H0 Q0 I0 h0 => ?_⟩
  refine PySem.W.methodCall_KW (pl := pl) (thn (he.run pns s0 σ0 H0 _ I0 h0) fun u s1 ⟨x, H1, I1, rx, a, dx, fs, ex, ea, l, q⟩ => ?_) tE
  subst ex
  obtain rfl : u = Value.ref a := rx
  refine getmeth_ok I1 ea c hm l (PySem.W.callWith_K (first := [.ref a]) (h₀ := X.base) I0.ok.mod.kin hm.kp (thn (ha.run pos pns s1 σ0 H1 _ I1 q) fun us s2 ⟨vs, H2, I2, r, q2⟩ => ⟨I2.kIn, ?_⟩) sE sP)
  exact run_fnS (us := .ref a :: us) (vs := .ref a :: vs) F hr hb (hx σ0) I2 (.cons rfl r) q2
end
/-! ## A def called while an exception is handled, that itself raises nothing and asks for no calm -/
structure FnQ (P : Program) (w : World) (K : PySem.W.Frag) (mg : Str → Option Value) (base : Heap) (k : Nat) (f : Addr) (fd : FuncData) (ps : List Str) (sp : Sp) : Prop where
  len : ∀ vs H Q E, sp vs H Q E → vs.length = ps.length
  run : ∀ (A : Around) (outer : List Env) (s : Shared) (H : Hp) (args : Args) (us : List Value) (vs : List V) (Q : VK) (E : XK) (p : Addr × Obj), L2H.RoomH k A → L2H.PinOk outer H s p → Env0 P w K mg base A outer s H → BindsTo s fd args (ps.zip us) → Vals vs us → sp vs H Q E →
    codeAny (model P w) A (.call (.ref f) args) (CR CX0 outer P w H s Q E) s
section
variable {P : Program} {w : World} {K : PySem.W.Frag} {mg : Str → Option Value} {base : Heap}
theorem okQ {x qual : Str} {st : Stmt} {f : Addr} {fd : FuncData} {N ps : List Str} {k : Nat} {sp : Sp} (F : Fun K x qual st f fd) (S : FnScope N ps (defScope st)) (len : ∀ vs H Q E, sp vs H Q E → vs.length = ps.length)
    (body : ∀ (cdv : Value) (A : Around) (outer : List Env) (s : Shared) (H : Hp) (vs : List V) (Q : VK) (E : XK) (p : Addr × Obj), L2H.RoomH k (A.deeper (envOfC qual (defScope st) s.heap.objs.size f cdv)) → sp vs H Q E →
      ∃ t, PSs (L2H.cxH CX0 P w K mg base N qual (defScope st) f cdv A outer s H E p) (defBody st) t ∧ t { nx := fun _ H' => Q .non H', rt := Q } (L2.start N vs) H) : FnQ P w K mg base (k + 1) f fd ps sp := by
  obtain ⟨oc, od, kV, doc, pm, an, cdv, ct, osl, rfl, lk, cd⟩ := F.ex
  refine ⟨len, fun A outer s H args us vs Q E p hr pin e0 bnd r hsp => ?_⟩
  have kin : K.In s.heap := e0.mod.kin.keeps fun b o e => (e0.bs b o e).1
  have nol : s.heap.NoLimit := e0.mod.nolimit.keeps fun b o e => (e0.bs b o e).1
  have kinds : ∀ y ∈ ps.zip us, (defScope st).names.lookup y.1 = some .local ∨ ((defScope st).names.lookup y.1 = some .cell ∧ ((cellsFrom (s.heap.objs.size + 1) (defScope st).names []).lookup y.1).isSome = true) := by
    rintro ⟨n, v⟩ hy
    exact (S.par n (List.of_mem_zip hy).1).imp id fun q => ⟨q, PySem.W.cellsFrom_some _ _ _ (.inl q)⟩
  refine codeAny_call_function hr.depth (kin _ _ lk) rfl S.co S.gen rfl (PySem.W.codeRec_of kin cd) (bnd _ _ _ _ (wpAny_newFunctionEnv_cells S.kind kinds fun env he s1 x => ?_))
  subst he
  refine ⟨nol.keeps x.toInCall.keep, codeAny_func ?_⟩
  obtain ⟨t, ht, hq⟩ := body cdv A outer s H vs Q E p (hr.deeper _) hsp
  refine wpAny_mono (ht.run [] s1 (L2.start N vs) H _ (L2H.inv_startH S pin e0 (len _ _ _ _ hsp) r x) hq) (fun fl s2 hs => ?_) fun e s2 hs => hs
  have done : ∀ {σ2 : L2.St} {H2 : Hp} {v : V} {u : Value}, Inv (L2H.cxH CX0 P w K mg base N qual (defScope st) f cdv A outer s H E p) [] σ2 H2 s2 → RelV v u → Q v H2 → CE outer P w H s Q u s2 :=
    fun J rv q => ⟨_, _, J.os, J.bare, J.base, J.hok, rv, q⟩
  match fl, hs with
  | .ret u, ⟨v, σ2, H2, J, rv, q⟩ => exact done J rv q
  | .next, ⟨σ2, H2, J, q⟩ => exact done (v := V.non) (u := Value.none) J rfl q
  | .brk, ⟨_, _, _, q⟩ => exact False.elim q
  | .cont, ⟨_, _, _, q⟩ => exact False.elim q
end
section
variable {X : Cx} {k : Nat} {f C : Addr} {fd : FuncData} {ps : List Str} {sp : Sp} {E : XK} {m : Str} {pos apos : Pos} {o : Expr} {ta : TE}
/-- o.m() there -/
theorem pe_methQ {pl : Sem Bool} {p : Addr × Obj} (hp : p ∈ X.pn) (he : PE X o ta) (c : Cls X.K C) (hm : Meth X.K C m f) (F : FnQ X.prog X.w X.K X.mg X.base k f fd ps sp) (hr : L2H.RoomH k X.A) (hb : Binds X.K fd ps []) (hx : ∀ σ, PassesAt CX0 X σ E)
    (tE : eval (.Call (.Attribute o m apos) [] [] pos) X.env = (do let ov ← eval o X.env; standAt apos.atName; let (f, first) ← holding [ov] (getMethod ov m pl); callWith pos f first (backTo pos (starEach [] X.env)) (backToKw pos (keywordEach [] X.env))) := by rfl) :
    PE X (.Call (.Attribute o m apos) [] [] pos) (tMeth C m sp [] E ta tNil) := by
  refine ⟨fun pns s0 σ0 H0 Q0 I0 h0 => ?_⟩
  refine PySem.W.methodCall_KW (pl := pl) (thn (he.run pns s0 σ0 H0 _ I0 h0) fun u s1 ⟨x, H1, I1, rx, a, dx, fs, ex, ea, l, q⟩ => ?_) tE
  subst ex
  obtain rfl : u = Value.ref a := rx
  have q : sp ([V.ref a] ++ []) H1 Q0 E := q
  have len := F.len _ _ _ _ q
  have b := hb s1 [.ref a] I1.kIn (by rw [List.append_nil]; exact len)
  rw [List.append_nil] at b
  have P1 := I1.pin p (List.mem_append_left _ hp)
  have pin : L2H.PinOk X.stack H1 s1 p := ⟨P1.1, P1.2.1, fun z => (List.mem_cons.mp (I1.stkSub p.1 z)).elim P1.2.2.1 P1.2.2.2.1, P1.2.2.2.2⟩
  refine getmeth_ok I1 ea c hm l (PySem.W.callWith_K0 (first := [.ref a]) I1.kIn hm.kp (wpAny_call (codeAny_mono (F.run X.A X.stack s1 H1 ⟨[.ref a], []⟩ [.ref a] [.ref a] Q0 E p hr pin I1.env0 b (.cons rfl .nil) q) fun r s2 hq => ?_)))
  match r, hq with
  | .error e, hq => exact hx σ0 pns H1 s1 e s2 I1 hq
  | .ok (.ret u), hq => exact I1.after hq
  | .ok .next, hq => exact False.elim hq
  | .ok .brk, hq => exact False.elim hq
  | .ok .cont, hq => exact False.elim hq
end
section
variable {P : Program} {w : World} {K : PySem.W.Frag} {mg : Str → Option Value} {base : Heap} {A : Adr}
theorem okQ_Store_home (T : Txt K mg A) : FnQ P w K mg base 1 A.a_Store_home A.d_Store_home ["self"] (spHome A) := by
  refine okQ T.m_Store_home.F sc_shome (fun vs H Q E h => ?_) (fun cdv A0 outer s H vs Q E p hr h => ?_)
  · obtain ⟨x, S, a, rfl, _⟩ := h
    rfl
  · obtain ⟨x, S, a, rfl, h, k⟩ := h
    refine ⟨_, pss_one (ps_ret (pe_callTy call_dictD (by rfl) T.z_dict (by decide +kernel) (pa_cons (pe_fld (pv 0) rfl) pa_nil))), ?_⟩
    obtain ⟨kvs, hc, hk⟩ := h.cel
    refine ⟨_, rfl, x, A.c_Store, a.dx, _, _, rfl, h.ins, T.k_Store.c, T.n_Store_cells, SN_get7 .., a.cel, kvs, rfl, .inl hc, fun p np => ?_⟩
    obtain ⟨H1, e1, s1, hp⟩ := newE (.dK kvs) np
    rw [e1]
    exact k p H1 s1 np ⟨kvs, hp, hk.mono (Same.tups s1)⟩
end
end PG

set_option Elab.async false
set_option linter.all false
set_option autoImplicit false
set_option maxRecDepth 100000
set_option maxHeartbeats 6400000
namespace PG
open PySem L2
/-! ## What the law knows between its steps -/
theorem dict_ne_lst {H : Hp} {f d : Addr} {n : Nat} {M : DM} {xs : List V} (h : DictAt H f n M) (e : H d = some (.lst xs)) : f ≠ d := fun z => by
  subst z
  obtain ⟨_, h1, _⟩ := h
  rw [e] at h1
  cases h1
theorem dict_ne_ins {H : Hp} {f d C dx : Addr} {n : Nat} {M : DM} {fs : List (Str × V)} (h : DictAt H f n M) (e : H d = some (.ins C dx fs)) : f ≠ d := fun z => by
  subst z
  obtain ⟨_, h1, _⟩ := h
  rw [e] at h1
  cases h1
theorem StoreAt.lsted {A : Adr} {H H' : Hp} {x d : Addr} {S : Sto} {a : SAdr} {xs : List V} (h : StoreAt A H x S a) (hl : H d = some (.lst xs)) (b : But d H H') : StoreAt A H' x S a := by
  have t : TupE H H' := b.tups fun ys z => by rw [hl] at z; cases z
  obtain ⟨n1, n2, n3, n4⟩ := h.lst_ne hl
  have n5 : a.bg ≠ d := fun z => by
    obtain ⟨⟨_, _, _, h1, _⟩, _⟩ := h.bg
    rw [z, hl] at h1
    cases h1
  exact ⟨b _ _ n1.symm h.ins, h.bg.mono t fun o e => b _ _ n5 e, h.dev.mono t fun o e => b _ _ n2.symm e, h.tr.mono t, t _ _ h.hd, h.gr.mono t, h.cel.mono t fun o e => b _ _ n3.symm e, h.run.mono t fun o e => b _ _ n4.symm e, h.pu.mono t, h.ncr, h.nbd, h.wf⟩
structure LI (A : Adr) (H0 : Hp) (dr sc ho x : Addr) (S : Sto) (a : SAdr) (homes : List DM) (hs : List Addr) (i : Nat) (H : Hp) : Prop where
  same : Same H0 H
  dn : H0 dr = none
  da : DrawAt H dr sc i
  st : StoreAt A H x S a
  o1 : H0 x = none
  o2 : H0 a.dev = none
  o3 : H0 a.cel = none
  o4 : H0 a.run = none
  hn : H0 ho = none
  hod : ho ≠ dr
  hL : H ho = some (.lst (hs.map V.ref))
  hat : ∀ (j : Nat) (f : Addr) (M : DM), hs[j]? = some f → homes[j]? = some M → DictAt H f S.plates M ∧ f ≠ a.cel ∧ f ≠ a.run
section
variable {A : Adr} {H0 H H' : Hp} {dr sc ho x : Addr} {S S' : Sto} {a a' : SAdr} {homes : List DM} {hs : List Addr} {i j : Nat}
theorem LI.drawn (L : LI A H0 dr sc ho x S a homes hs i H) (b : But dr H H') (d : DrawAt H' dr sc j) : LI A H0 dr sc ho x S a homes hs j H' := by
  have t : TupE H H' := b.tups fun ys z => by rw [L.da] at z; cases z
  refine ⟨Same.but L.same b L.dn, L.dn, d, L.st.lsted L.da b, L.o1, L.o2, L.o3, L.o4, L.hn, L.hod, b _ _ L.hod L.hL, fun k f M h1 h2 => ?_⟩
  obtain ⟨h3, h4⟩ := L.hat k f M h1 h2
  exact ⟨h3.mono t fun o e => b _ _ (dict_ne_lst h3 L.da) e, h4⟩
theorem LI.to (L : LI A H0 dr sc ho x S a homes hs i H) (s : Same H H') : LI A H0 dr sc ho x S a homes hs i H' :=
  ⟨L.same.trans s, L.dn, s _ _ L.da, L.st.same s, L.o1, L.o2, L.o3, L.o4, L.hn, L.hod, s _ _ L.hL, fun k f M h1 h2 => ⟨(L.hat k f M h1 h2).1.same s, (L.hat k f M h1 h2).2⟩⟩
theorem LI.chg (L : LI A H0 dr sc ho x S a homes hs i H) (c : Chg x a a' H H') (st : StoreAt A H' x S' a') (hp : S'.plates = S.plates) : LI A H0 dr sc ho x S' a' homes hs i H' := by
  obtain ⟨n1, n2, n3, n4⟩ := L.st.lst_ne L.da
  obtain ⟨m1, m2, m3, m4⟩ := L.st.lst_ne L.hL
  obtain ⟨⟨_, _, _, hdv, _⟩, _⟩ := L.st.dev
  have keep0 : ∀ b, H0 b = none → ∀ c o, H0 c = some o → c ≠ b := fun b hb c o hc z => by rw [z, hb] at hc; cases hc
  refine ⟨fun b o e => c.keep b o (keep0 _ L.o1 _ _ e) (keep0 _ L.o2 _ _ e) (keep0 _ L.o3 _ _ e) (keep0 _ L.o4 _ _ e) (L.same b o e), L.dn, c.keep _ _ n1 n2 n3 n4 L.da, st, L.o1, by rw [c.dev]; exact L.o2, by rw [c.cel]; exact L.o3, ?_, L.hn, L.hod, c.keep _ _ m1 m2 m3 m4 L.hL, fun k f M h1 h2 => ?_⟩
  · rcases c.run with e | e
    · rw [e]; exact L.o4
    · exact Same.free L.same e
  · obtain ⟨h3, h4, h5⟩ := L.hat k f M h1 h2
    rw [hp, c.cel]
    refine ⟨h3.mono c.tups fun o e => c.keep _ _ (dict_ne_ins h3 L.st.ins) (dict_ne_ins h3 hdv) h4 h5 e, h4, ?_⟩
    rcases c.run with e | e
    · rw [e]; exact h5
    · exact fun z => h3.there (by rw [z]; exact e)
theorem LI.more (L : LI A H0 dr sc ho x S a homes hs i H) (len : hs.length = homes.length) (M : DM) : LI A H0 dr sc ho x S a (homes ++ [M]) hs i H :=
  ⟨L.same, L.dn, L.da, L.st, L.o1, L.o2, L.o3, L.o4, L.hn, L.hod, L.hL, fun k f M' h1 h2 => L.hat k f M' h1 (by
    have := (List.getElem?_eq_some_iff.mp h1).1
    rwa [List.getElem?_append_left (by omega)] at h2)⟩
theorem LI.snoc (L : LI A H0 dr sc ho x S a homes hs i H) {f : Addr} {M : DM} (hM : homes[hs.length]? = some M) (hf : DictAt H f S.plates M) (h1 : f ≠ a.cel) (h2 : f ≠ a.run) :
    LI A H0 dr sc ho x S a homes (hs ++ [f]) i (upd H ho (.lst (hs.map V.ref ++ [.ref f]))) := by
  obtain ⟨H1, e1, b1, hh⟩ := chgE (H := H) (d := ho) (.lst (hs.map V.ref ++ [.ref f]))
  rw [e1]
  have t : TupE H H1 := b1.tups fun ys z => by rw [L.hL] at z; cases z
  refine ⟨Same.but L.same b1 L.hn, L.dn, b1 _ _ L.hod.symm L.da, L.st.lsted L.hL b1, L.o1, L.o2, L.o3, L.o4, L.hn, L.hod, by rw [hh, List.map_append]; rfl, fun k g M' g1 g2 => ?_⟩
  have hd : DictAt H g S.plates M' ∧ g ≠ a.cel ∧ g ≠ a.run := by
    by_cases hk : k < hs.length
    · rw [List.getElem?_append_left hk] at g1
      exact L.hat k g M' g1 g2
    · rw [List.getElem?_append_right (by omega)] at g1
      have hk2 := (List.getElem?_eq_some_iff.mp g1).1
      have hk3 : k = hs.length := by
        rw [List.length_singleton] at hk2
        omega
      subst hk3
      rw [Nat.sub_self] at g1
      cases g1
      rw [hM] at g2
      cases g2
      exact ⟨hf, h1, h2⟩
  exact ⟨hd.1.mono t fun o e => b1 _ _ (dict_ne_lst hd.1 L.hL) e, hd.2⟩
end
/-! ## The plates of a deed -/
def rowM (sm : List Int) (z : Int) : DM := dputs noDM (sm.map fun p => (p, List.replicate 8 z))
theorem rowM_all8 (sm : List Int) (z : Int) : All8 (rowM sm z) := dputs_all8 (fun e he => by
  obtain ⟨p, _, rfl⟩ := List.mem_map.mp he
  exact List.length_replicate) fun p v hv => by cases hv
theorem rowM_some {sm : List Int} (nd : sm.Nodup) (z p : Int) : (rowM sm z p).isSome = true ↔ p ∈ sm := by
  unfold rowM
  have e : (sm.map fun p => (p, List.replicate 8 z)).map (·.1) = sm := by
    rw [List.map_map]
    exact List.map_id' _
  rw [dputs_isSome (by rw [e]; exact nd), e]
  exact ⟨fun h => h.elim (fun z => by cases z) id, .inr⟩
theorem asc_nodup {sm : List Int} (h : sm.Pairwise (· < ·)) : sm.Nodup := h.imp fun {a b} z => by omega
theorem rowM_len {sm : List Int} {n : Nat} (nd : sm.Nodup) (rg : ∀ p ∈ sm, 0 ≤ p ∧ p < n) (z : Int) : (chg (rowM sm z) n).length = sm.length := by
  rw [chg_length]
  refine nodup_len (keysOf_nodup _ _) nd fun p => ?_
  rw [mem_keysOf, rowM_some nd]
  exact ⟨fun h => h.2.2, fun h => ⟨(rg p h).1, (rg p h).2, h⟩⟩
theorem putS_beg (S : Sto) (l : List (Int × Pl)) : (putS S l).beg = S.beg := by
  unfold putS addS
  dsimp only
  split
  · exact (pushS_same S).2.2.2.2.1
  · rfl
theorem shortAt {S : Sto} (h : ∀ x ∈ wrs S.trace, x.2.length ≤ 1000) (hb : Short S.beg.settled) (n : Nat) : Short (apAll S.beg.settled (S.trace.take n)) := by
  rw [apAll_wrs]
  refine short_flushL hb fun e he => h e ?_
  have : S.trace = S.trace.take n ++ S.trace.drop n := (List.take_append_drop n _).symm
  rw [this, wrs_append]
  exact List.mem_append_left _ he
end PG

set_option Elab.async false
set_option linter.all false
set_option autoImplicit false
set_option maxRecDepth 100000
set_option maxHeartbeats 6400000
namespace PG
open PySem L2
section
variable {K : PySem.W.Frag} {H0 H : Hp} {Q : VK} {E : XK}
theorem pick_at {dr sc it : Addr} {ns : List Int} {i : Nat} {xs : List V} (hsc : SqL K H0 sc (ns.map V.int)) (s : Same H0 H) (dn : H0 dr = none) (hd : DrawAt H dr sc i) (hn : ns.length ≤ 63) (hi : i ≤ 100000) (nit : H it = none) (hx : xs ≠ [])
    (k : ∀ (v : V) H', v ∈ xs → But dr H H' → DrawAt H' dr sc (i + 1) → Q v H') : spPick K [.ref dr, .ref it] (upd H it (.lst xs)) Q E0 := by
  obtain ⟨H1, e1, s1, h1⟩ := newE (.lst xs) nit
  rw [e1]
  exact ⟨dr, sc, it, ns, i, xs, rfl, s1 _ _ hd, sqL_same hsc (s.trans s1), fun H' b => sqL_same hsc (Same.but (s.trans s1) b dn), hn, hi, h1, fun z => by (subst z; rw [hd] at nit; cases nit), hx,
    fun v H' hv b d => k v H' hv ((Same.but' s1).trans b) d⟩
theorem take_at {dr sc : Addr} {ns : List Int} {i many : Nat} (hsc : SqL K H0 sc (ns.map V.int)) (s : Same H0 H) (dn : H0 dr = none) (hd : DrawAt H dr sc i) (hn : ns.length ≤ 63) (hi : i ≤ 100000) (hm : 0 < many)
    (k : ∀ (r : Nat) H', r < many → But dr H H' → DrawAt H' dr sc (i + 1) → Q (.int r) H') : spTake K [.ref dr, .int many] H Q E0 :=
  ⟨dr, sc, ns, i, many, rfl, hd, sqL_same hsc s, fun H' b => sqL_same hsc (Same.but s b dn), hn, hi, hm, k⟩
theorem ents_pairs : ∀ (l : List (Int × Pl)) (acc : List V), AllV (EntV H) acc l → ∃ (ps : List Addr) (vs : List V), acc = ps.map V.ref ∧ Paired (fun p kv => SqT K H p [kV kv.1, kv.2]) ps ((l.map fun e => (Sum.inl e.1 : Key)).zip vs) ∧ AllV (PlV H) vs (l.map (·.2))
  | [], [], _ => ⟨[], [], rfl, .nil, .nil⟩
  | [], _ :: _, h => by have := h.1; simp at this
  | _ :: _, [], h => by have := h.1; simp at this
  | e :: l, v :: acc, h => by
    obtain ⟨ps, vs, h1, h2, h3⟩ := ents_pairs l acc ⟨by have := h.1; simpa using this, fun i x y p q => h.2 (i + 1) x y p q⟩
    obtain ⟨p, x, hp, ht, hx⟩ := h.2 0 v e rfl rfl
    exact ⟨p :: ps, x :: vs, by rw [hp, h1]; rfl, .cons (SqT.of ht) h2, ⟨by have := h3.1; simpa using this, fun i a b r s => by
      cases i with
      | zero => cases r; cases s; exact hx
      | succ i => exact h3.2 i a b r s⟩⟩
theorem dictP_get {D : Addr} {acc : List V} {l : List (Int × Pl)} {n : Nat} (hD : H D = some (.lst acc)) (ha : AllV (EntV H) acc l) (hr : ∀ e ∈ l, 0 ≤ e.1 ∧ e.1 < n) :
    ∃ (ps : List Addr) (kvs : List (Key × V)), SqL K H D (ps.map V.ref) ∧ Paired (fun p kv => SqT K H p [kV kv.1, kv.2]) ps kvs ∧ ∀ p H', Same H H' → H' p = some (.dK (mergeK [] kvs)) → DictAt H' p n (dputs noDM l) := by
  obtain ⟨ps, vs, h1, h2, h3⟩ := ents_pairs (K := K) l acc ha
  exact ⟨ps, _, by rw [← h1]; exact SqL.of hD, h2, fun p H1 s1 hp => ⟨_, hp, merge_kv l vs (h3.mono fun _ _ z => z.mono (Same.tups s1)) hr [] noDM (.nil _ _)⟩⟩
/-- (z,) * 8 -/
theorem rep8 {z : Int} {l : Addr} (hl : H l = some (.tup [V.int z])) (k : ∀ v H', Same H H' → PlV H' v (List.replicate 8 z) → Q v H') : rRepT K (.ref l) (.int 8) H Q := by
  refine ⟨l, 8, _, rfl, rfl, SqT.of hl, (by simp), by omega, by omega, (by show 1 ≤ 1000; decide), fun p np => ?_⟩
  exact k _ _ (Same.new np) ⟨p, rfl, by rw [upd_same]; rfl⟩
theorem comp_ent {H3 : Hp} {D : Addr} {acc : List V} {l : List (Int × Pl)} {p : Int} {ns : Pl} {v y : V} (s : Same H3 H) (nD : H3 D = none) (hA : H D = some (.lst acc)) (ha : AllV (EntV H) acc l) (hy : ∃ b, y = .ref b ∧ H b = some (.tup [.int p, v])) (hv : PlV H v ns) :
    Same H3 (upd H D (.lst (acc ++ [y]))) ∧ ∃ acc2, upd H D (.lst (acc ++ [y])) D = some (.lst acc2) ∧ AllV (EntV (upd H D (.lst (acc ++ [y])))) acc2 (l ++ [(p, ns)]) := by
  have t : TupE H (upd H D (.lst (acc ++ [y]))) := TupE.upd fun xs z => by rw [hA] at z; cases z
  obtain ⟨b, rfl, hb⟩ := hy
  exact ⟨Same.upd0 s nD, _, upd_same, (ha.mono fun _ _ z => z.mono t).snoc ⟨b, v, rfl, t _ _ hb, hv.mono t⟩⟩
theorem rng_succ (i : Nat) (z : Int) : (((List.range (i + 1)).map fun p : Nat => (p : Int)).map fun p => (p, List.replicate 8 z)) = (((List.range i).map fun p : Nat => (p : Int)).map fun p => (p, List.replicate 8 z)) ++ [((i : Int), List.replicate 8 z)] := by
  rw [List.range_succ]; simp
theorem rng_mem {n : Nat} {p : Int} : p ∈ ((List.range n).map fun p : Nat => (p : Int)) ↔ 0 ≤ p ∧ p < n := by
  constructor
  · intro h
    obtain ⟨k, hk, rfl⟩ := List.mem_map.mp h
    have := List.mem_range.mp hk
    omega
  · intro h
    exact List.mem_map.mpr ⟨p.toNat, List.mem_range.mpr (by omega), by omega⟩
theorem rng_nodup (n : Nat) : ((List.range n).map fun p : Nat => (p : Int)).Nodup := List.Pairwise.map _ (fun a b (h : a ≠ b) => by omega) List.nodup_range
/-- between two turns -/
def LT (A : Adr) (H0 : Hp) (dr sc ho x : Addr) (sl pl : Nat) (B : Dk) (t : Nat) (H : Hp) : Prop := ∃ (S : Sto) (a : SAdr) (homes : List DM) (hs : List Addr) (i : Nat), LI A H0 dr sc ho x S a homes hs i H ∧ SInv S homes ∧ hs.length = homes.length ∧ S.slots = sl ∧ S.plates = pl ∧ S.beg = B ∧
  i ≤ 3 + 3 * t ∧ S.trace.length ≤ 40 * t ∧ S.pushed.length ≤ 2 * t ∧ hs.length ≤ 1 + t
theorem atI_neg1 {xs : List V} {v : V} (h : xs[xs.length - 1]? = some v) : atI xs (-1) = some v := by
  rcases List.eq_nil_or_concat xs with rfl | ⟨ys, u, rfl⟩
  · cases h
  · rw [List.concat_eq_append] at h ⊢
    have : (ys ++ [u]).length - 1 = ys.length := by simp
    rw [this, get_append_here] at h
    cases h
    exact atI_last ys _
theorem LI.at {A : Adr} {H0 H : Hp} {dr sc ho x : Addr} {S : Sto} {a : SAdr} {homes : List DM} {hs : List Addr} {i k : Nat} {M : DM} (L : LI A H0 dr sc ho x S a homes hs i H) (len : hs.length = homes.length) (hM : homes[k]? = some M) :
    ∃ f, (hs.map V.ref)[k]? = some (.ref f) ∧ DictAt H f S.plates M := by
  have hk : k < hs.length := by rw [len]; exact (List.getElem?_eq_some_iff.mp hM).1
  refine ⟨hs[k], by rw [List.getElem?_map, List.getElem?_eq_getElem hk]; rfl, (L.hat k _ M (List.getElem?_eq_getElem hk) hM).1⟩
theorem LI.last {A : Adr} {H0 H : Hp} {dr sc ho x : Addr} {S : Sto} {a : SAdr} {homes : List DM} {hs : List Addr} {i : Nat} (L : LI A H0 dr sc ho x S a homes hs i H) (len : hs.length = homes.length) (inv : SInv S homes) :
    ∃ f, atI (hs.map V.ref) (-1) = some (.ref f) ∧ DictAt H f S.plates S.cells := by
  obtain ⟨f, h1, h2⟩ := L.at len inv.cells
  refine ⟨f, atI_neg1 ?_, h2⟩
  have := inv.hl
  rw [List.length_map, show hs.length - 1 = S.deeds by omega]
  exact h1
theorem openL_at {S : Sto} {m k : Nat} {z : Int} (h : (openL S m)[k]? = some z) : z = (dB S.pushed (written S.pushed (lastBar S.trace m) + k) : Int) ∧ written S.pushed (lastBar S.trace m) + k ≤ written S.pushed m := by
  unfold openL at h
  rw [List.getElem?_map] at h
  cases e : (List.range (written S.pushed m + 1 - written S.pushed (lastBar S.trace m)))[k]? with
  | none => rw [e] at h; cases h
  | some j =>
    rw [e] at h
    obtain ⟨h1, h2⟩ := List.getElem?_eq_some_iff.mp e
    rw [List.length_range] at h1
    rw [List.getElem_range] at h2
    subst h2
    cases h
    exact ⟨rfl, by omega⟩
theorem openL_len (S : Sto) (m : Nat) : (openL S m).length = written S.pushed m + 1 - written S.pushed (lastBar S.trace m) := by
  unfold openL
  rw [List.length_map, List.length_range]
end
end PG

set_option Elab.async false
set_option linter.all false
set_option autoImplicit false
set_option maxRecDepth 100000
set_option maxHeartbeats 16000000
namespace PG
open PySem L2
abbrev laN : List Str := ["_law_script", "_law_draw", "_law_slots", "_law_plates", "_law_store", "_law_homes", "_law_turn", "_law_many", "_law_first", "_law_some", "_law_changes", "fault", "_law_moment", "_law_told", "_law_deeds", "_law_late", "_law_plate", "_law_at"]
theorem sc_law : FnScope laN ["_law_script"] (defScope (top 58)) := ⟨rfl, rfl, rfl, by decide +kernel, rfl, by decide +kernel, by decide +kernel⟩
section
variable {P : Program} {w : World} {K : PySem.W.Frag} {mg : Str → Option Value} {base : Heap} {A : Adr}
def spLaw (K : PySem.W.Frag) : Sp := fun vs H Q _ => ∃ (a : Addr) (ns : List Int), vs = [.ref a] ∧ SqL K H a (ns.map V.int) ∧ ns.length ≤ 63 ∧ ∀ H', Q (.bl true) H'
theorem in1_un {A A2 : Around} {k : Nat} (hr : Room k A) (h : A2.units = A.units) : A2.in1.units + 64 < cLine := by
  have := hr.un
  show A2.units + 1 + 64 < cLine
  omega
theorem roomQ {A A2 : Around} (hr : Room 8 A) (h1 : A2.depth = A.depth) (h2 : A2.units = A.units) : L2H.RoomH 1 A2 := by
  have := hr.un
  have := hr.dp
  exact ⟨by omega, by omega⟩
theorem un0 {A A2 : Around} {k : Nat} (hr : Room k A) (h : A2.units = A.units) : A2.units < cLine := by
  have := hr.un
  omega
theorem ok_law {Cg fg f : Addr} {fd : FuncData} (T : Txt K mg A) (G : PySem.PGX.TgTxt P K mg Cg fg) (F : Fun K "law" "law" (top 58) f fd) : FnOk P w K mg base CX0 9 f fd ["_law_script"] (spLaw K) := by
  refine F.ok sc_law (fun vs H Q E h => ?_) (fun cdv A0 outer s H vs Q E hr h => ?_)
  · obtain ⟨a, ns, rfl, _⟩ := h
    rfl
  · obtain ⟨sc, ns, rfl, hsc, hns, kQ⟩ := h
    refine ⟨_, pss_cons (ps_set (i := 1) sc_law.nd rfl (Or.inl rfl) (pe_lst (pa_cons (pv 0) (pa_cons pe_int pa_nil))))
      (pss_cons (ps_set (i := 2) sc_law.nd rfl (Or.inl rfl) (pe_call (ok_law_pick T) (hr.mono (by decide)) rfl T.t__law_pick.g T.t__law_pick.F.kp T.t__law_pick.b .nil pass0 (pa_cons (pv 1) (pa_cons (pe_lst (pa_cons pe_int (pa_cons pe_int (pa_cons pe_int pa_nil)))) pa_nil))))
      (pss_cons (ps_set (i := 3) sc_law.nd rfl (Or.inr rfl) (pe_op op_add (pv 2) (pe_call (ok_law_pick T) (hr.mono (by decide)) rfl T.t__law_pick.g T.t__law_pick.F.kp T.t__law_pick.b .nil pass0 (pa_cons (pv 1) (pa_cons (pe_lst (pa_cons pe_int (pa_cons pe_int (pa_cons pe_int pa_nil)))) pa_nil)))))
      (pss_cons (ps_set (i := 4) sc_law.nd rfl (Or.inl rfl) (pe_call (ok_fresh_store T) (hr.mono (by decide)) rfl T.t_fresh_store.g T.t_fresh_store.F.kp T.t_fresh_store.b .nil pass0 (pa_cons (pv 3) (pa_cons (pv 2) (pa_cons (pe_callTy (call_dictP rfl) (by rfl) T.z_dict (by decide +kernel) (pa_cons
          (pe_lc (own := [("_law_plate", 16)]) (g := gName 16) (tt := tYes) (te := tTup (tCons (tVar 16) (tCons (tOp (rRepT K) (tTup (tCons (tC (.int 0)) tNil)) (tC (.int 8))) tNil))) rfl sc_law.nd (pi_range1 rfl T.z_range (pa_cons (pv 3) pa_nil))
            (blkOk_by (N := laN) (sc := defScope (top 58)) (by decide +kernel)) (fun _ _ _ _ _ => pg_name (i := 16) sc_law.nd rfl (Or.inl rfl)) (fun _ _ _ _ _ => pts_nil)
            (fun _ _ _ _ _ => pe_tup (pa_cons (pv 16) (pa_cons (pe_op op_repT (pe_tup (pa_cons pe_int pa_nil)) pe_int) pa_nil)))) pa_nil)) pa_nil)))))
      (pss_cons (ps_set (i := 5) sc_law.nd rfl (Or.inl rfl) (pe_lst (pa_cons (pe_meth0 (pv 4) T.k_Store.c T.m_Store_home.M (ok_Store_home T) (hr.mono (by decide)) T.m_Store_home.b .nil pass0) pa_nil)))
      (pss_cons (ps_for PassesOwn.never rfl (pi_range1 rfl T.z_range (pa_cons (pe_call (ok_law_pick T) (hr.mono (by decide)) rfl T.t__law_pick.g T.t__law_pick.F.kp T.t__law_pick.b .nil pass0 (pa_cons (pv 1) (pa_cons (pe_lst (pa_cons pe_int (pa_cons pe_int (pa_cons pe_int pa_nil)))) pa_nil))) pa_nil)) (pg_name (i := 6) sc_law.nd rfl (Or.inr rfl))
        (pss_cons (ps_asg (pe_tup (pa_cons (pe_call (ok_law_pick T) (hr.mono (by decide)) rfl T.t__law_pick.g T.t__law_pick.F.kp T.t__law_pick.b .nil pass0 (pa_cons (pv 1) (pa_cons (pe_lst (pa_cons pe_int (pa_cons (pe_op op_sub (pv 2) pe_int) (pa_cons (pv 2) (pa_cons (pv 2) (pa_cons (pe_op op_add (pv 2) pe_int) pa_nil)))))) pa_nil)))
            (pa_cons (pe_call (ok_law_take T) (hr.mono (by decide)) rfl T.t__law_take.g T.t__law_take.F.kp T.t__law_take.b .nil pass0 (pa_cons (pv 1) (pa_cons (pv 3) pa_nil))) pa_nil)))
            (pg_tup rfl (pgs_cons (pg_name (i := 7) sc_law.nd rfl (Or.inl rfl)) (pgs_cons (pg_name (i := 8) sc_law.nd rfl (Or.inr rfl)) pgs_nil))))
        (pss_cons (ps_set (i := 9) sc_law.nd rfl (Or.inl rfl) (pe_callB (cr_sortedSet rfl) (by rfl) T.z_sorted (by decide +kernel) (pa_cons (pe_callTy (cr_setI rfl) (by rfl) T.z_set (by decide +kernel) (pa_cons
          (pe_lc (own := [("_law_at", 17)]) (g := gName 17) (tt := tYes) (te := tOp (rI (fun _ j => 0 < j) fun i j => .int (i % j)) (tCB (fun xs H Q => (∃ i, xs = [.int i] ∧ Q (.int i) H) ∨ ∃ k, xs = [.bl k] ∧ Q (.int (if k then 1 else 0)) H) (tCons (tOp (rI0 fun i j => .int (i + j)) (tVar 8) (tVar 17)) tNil)) (tVar 3)) rfl sc_law.nd (pi_range1 rfl T.z_range (pa_cons (pe_callB (call_min2 rfl) (by rfl) T.z_min (by decide +kernel) (pa_cons (pv 7) (pa_cons (pv 3) pa_nil))) pa_nil))
            (blkOk_by (N := laN) (sc := defScope (top 58)) (by decide +kernel)) (fun _ _ _ _ _ => pg_name (i := 17) sc_law.nd rfl (Or.inl rfl)) (fun _ _ _ _ _ => pts_nil)
            (fun _ _ _ _ _ => pe_op op_mod (pe_callTy call_int1 (by rfl) T.z_int (by decide +kernel) (pa_cons (pe_op op_add (pv 8) (pv 17)) pa_nil)) (pv 3))) pa_nil)) pa_nil)))
        (pss_cons (ps_set (i := 10) sc_law.nd rfl (Or.inl rfl) (pe_callTy (call_dictP rfl) (by rfl) T.z_dict (by decide +kernel) (pa_cons
          (pe_lc (own := [("_law_plate", 16)]) (g := gName 16) (tt := tYes) (te := tTup (tCons (tVar 16) (tCons (tOp (rRepT K) (tTup (tCons (tOp (rI0 fun i j => .int (i + j)) (tVar 6) (tC (.int 1))) tNil)) (tC (.int 8))) tNil))) rfl sc_law.nd (pi_list (pv 9))
            (blkOk_by (N := laN) (sc := defScope (top 58)) (by decide +kernel)) (fun _ _ _ _ _ => pg_name (i := 16) sc_law.nd rfl (Or.inl rfl)) (fun _ _ _ _ _ => pts_nil)
            (fun _ _ _ _ _ => pe_tup (pa_cons (pv 16) (pa_cons (pe_op op_repT (pe_tup (pa_cons (pe_op op_add (pv 6) pe_int) pa_nil)) pe_int) pa_nil)))) pa_nil)))
        (pss_cons (ps_try_as (i := 11) rfl rfl sc_law.nd rfl rfl ⟨rfl, by decide, Or.inl G.gC⟩ takes0
            (fun W pn xe tk _ => pss_one (ps_expr (pe_methS (pv 4) T.k_Store.c T.m_Store_put.M (ok_Store_put T G) hr T.m_Store_put.b (fun σ => passAt tk σ) (pa_cons (pv 10) pa_nil))))
            (fun a oe cls d pn hz hf => pss_cons (ps_if (PW.pt (pw_or (pt_cmpR op_ne (pe_xf G.xf G.noN hz hf (pv 11)) (pe_callB (show CallR _ (.builtin "len") (PG.rLenS K) from call_len_seq) (by rfl) T.z_len PySem.boot_len (pa_cons (pv 9) pa_nil)) (nomark _))
                (pw_or (pt_cmpR op_le (pe_callB (show CallR _ (.builtin "len") (PG.rLenS K) from call_len_seq) (by rfl) T.z_len PySem.boot_len (pa_cons (pv 9) pa_nil)) (pv 2) (nomark _))
                (pw_or1 (pt_cmpR (op_ne_pl (un0 hr rfl) (in1_un hr rfl)) (pe_methQ (E := E0) (p := (a, oe)) List.mem_cons_self (pv 4) T.k_Store.c T.m_Store_home.M (okQ_Store_home T) (roomQ hr rfl rfl) T.m_Store_home.b (fun _ _ _ _ _ _ _ z => False.elim z)) (pe_ix (show IxR _ (rIxL K) from ix_list) (pv 5) (pe_un un_neg pe_int) (fun _ _ => rfl)) (nomark _))))))
                (pss_one (ps_ret pe_bl)) pss_nil) (pss_one ps_continue)))
        (pss_cons (ps_if (pt_cmpR op_gt (pe_callB call_len_seq (by rfl) T.z_len PySem.boot_len (pa_cons (pv 9) pa_nil)) (pv 2) (nomark _)) (pss_one (ps_ret pe_bl)) pss_nil)
        (pss_cons (ps_if (pt_cmpR (op_neD hr.units) (pv 9) (pe_lst pa_nil) (nomark _)) (pss_one (ps_expr (pe_bm PySem.F.plainAttrs_list PySem.F.slot_list_append PySem.F.type_list_append mt_append (pv 5) (pa_cons (pe_meth0 (pv 4) T.k_Store.c T.m_Store_home.M (ok_Store_home T) (hr.mono (by decide)) T.m_Store_home.b .nil pass0) pa_nil)))) pss_nil)
        (pss_one (ps_if (pt_cmpR op_eq (pe_call (ok_law_take T) (hr.mono (by decide)) rfl T.t__law_take.g T.t__law_take.F.kp T.t__law_take.b .nil pass0 (pa_cons (pv 1) (pa_cons pe_int pa_nil))) pe_int (nomark _)) (pss_one (ps_expr (pe_meth0 (pv 4) T.k_Store.c T.m_Store_push.M (ok_Store_push T) (hr.mono (by decide)) T.m_Store_push.b .nil pass0))) pss_nil)))))))))
      (pss_cons (ps_for PassesOwn.never rfl (pi_range1 rfl T.z_range (pa_cons (pe_op op_add (pe_callB call_len_seq (by rfl) T.z_len PySem.boot_len (pa_cons (pe_fld (pv 4) rfl) pa_nil)) pe_int) pa_nil)) (pg_name (i := 12) sc_law.nd rfl (Or.inl rfl))
        (pss_cons (ps_set (i := 13) sc_law.nd rfl (Or.inl rfl) (pe_call (ok_can_open T) (hr.mono (by decide)) rfl T.t_can_open.g T.t_can_open.F.kp T.t_can_open.b .nil pass0 (pa_cons (pv 4) (pa_cons (pv 12) pa_nil))))
        (pss_cons (ps_for PassesOwn.never rfl (pi_tup (pv 13)) (pg_name (i := 14) sc_law.nd rfl (Or.inl rfl))
          (pss_cons (ps_set (i := 15) sc_law.nd rfl (Or.inl rfl) (pe_call (ok_open_store T) (hr.mono (by decide)) rfl T.t_open_store.g T.t_open_store.F.kp T.t_open_store.b .nil pass0 (pa_cons
              (pe_call (ok_fallen_disk T) (hr.mono (by decide)) rfl T.t_fallen_disk.g T.t_fallen_disk.F.kp T.t_fallen_disk.b .nil pass0 (pa_cons (pv 4) (pa_cons (pv 12) (pa_cons
                (pe_call (ok_choice_for T) (hr.mono (by decide)) rfl T.t_choice_for.g T.t_choice_for.F.kp T.t_choice_for.b .nil pass0 (pa_cons (pv 4) (pa_cons (pv 12) (pa_cons (pv 14) pa_nil)))) pa_nil)))) (pa_cons (pv 3) (pa_cons (pv 2) pa_nil)))))
          (pss_one (ps_if (pt_cmpR (op_ne_pl (un0 hr rfl) (in1_un hr rfl)) (pe_meth0 (pv 15) T.k_Store.c T.m_Store_home.M (ok_Store_home T) (hr.mono (by decide)) T.m_Store_home.b .nil pass0) (pe_ix ix_list (pv 5) (pv 14) (fun _ _ => rfl)) (nomark _)) (pss_one (ps_ret pe_bl)) pss_nil))))
        (pss_one (ps_if (PW.pt (pw_and (pt_cmpR (op_eqD hr.units) (pe_fld (pe_call (ok_disk_after T) (hr.mono (by decide)) rfl T.t_disk_after.g T.t_disk_after.F.kp T.t_disk_after.b .nil pass0 (pa_cons (pe_fld (pv 4) rfl) (pa_cons (pe_fld (pv 4) rfl) (pa_cons (pv 12) pa_nil)))) rfl) (pe_tup pa_nil) (nomark _))
            (pw_and1 (pt_cmpR op_ne (pe_callB call_len_seq (by rfl) T.z_len PySem.boot_len (pa_cons (pv 13) pa_nil)) pe_int (nomark _))))) (pss_one (ps_ret pe_bl)) pss_nil)))))
      (pss_cons (ps_expr (pe_meth0 (pv 4) T.k_Store.c T.m_Store_sync.M (ok_Store_sync T) (hr.mono (by decide)) T.m_Store_sync.b .nil pass0))
      (pss_one (ps_ret (pe_and (pe_cmpR (op_eq_pl (un0 hr rfl) (in1_un hr rfl)) (pe_meth0 (pe_call (ok_open_store T) (hr.mono (by decide)) rfl T.t_open_store.g T.t_open_store.F.kp T.t_open_store.b .nil pass0 (pa_cons (pe_meth0 (pv 4) T.k_Store.c T.m_Store_disk.M (ok_Store_disk T) (hr.mono (by decide)) T.m_Store_disk.b .nil pass0) (pa_cons (pv 3) (pa_cons (pv 2) pa_nil)))) T.k_Store.c T.m_Store_home.M (ok_Store_home T) (hr.mono (by decide)) T.m_Store_home.b .nil pass0) (pe_ix ix_list (pv 5) (pe_un un_neg pe_int) (fun _ _ => rfl)) (nomark _))
        (pe_one (pe_chain op_eq op_eq (pe_fld (pv 4) rfl) (pe_fld (pv 4) rfl) (pe_op op_sub (pe_callB call_len_seq (by rfl) T.z_len PySem.boot_len (pa_cons (pv 5) pa_nil)) pe_int))))))))))))), ?_⟩
    have len2 : 2 ≤ sizeLine := by rw [sizeLine_eq]; decide
    have len3 : 3 ≤ sizeLine := by rw [sizeLine_eq]; decide
    have len1 : 1 ≤ sizeLine := by rw [sizeLine_eq]; decide
    have big : (1000 : Int) < 2 ^ 62 := by decide
    refine ⟨_, rfl, len2, fun dr ndr => ?_⟩
    obtain ⟨H1, e1, s1, hd1⟩ := newE (.lst [V.ref sc, V.int 0]) ndr
    rw [e1]
    have hd1 : DrawAt H1 dr sc 0 := hd1
    refine ⟨_, rfl, len3, fun it1 n1 => pick_at hsc s1 ndr hd1 hns (by omega) n1 (by simp) fun v H2 hv b2 hd2 => ?_⟩
    obtain ⟨sl, rfl, hsl⟩ : ∃ sl : Nat, v = .int (sl : Int) ∧ (sl = 2 ∨ sl = 3 ∨ sl = 5) := by
      simp only [List.mem_cons, List.not_mem_nil, or_false] at hv
      rcases hv with rfl | rfl | rfl
      · exact ⟨2, rfl, .inl rfl⟩
      · exact ⟨3, rfl, .inr (.inl rfl)⟩
      · exact ⟨5, rfl, .inr (.inr rfl)⟩
    have s2 : Same H H2 := Same.but s1 b2 ndr
    refine ⟨_, rfl, _, rfl, len3, fun it2 n2 => pick_at hsc s2 ndr hd2 hns (by omega) n2 (by simp) fun v H3 hv b3 hd3 => ?_⟩
    obtain ⟨ad, rfl, had⟩ : ∃ ad : Nat, v = .int (ad : Int) ∧ (ad = 0 ∨ ad = 1 ∨ ad = 4) := by
      simp only [List.mem_cons, List.not_mem_nil, or_false] at hv
      rcases hv with rfl | rfl | rfl
      · exact ⟨0, rfl, .inl rfl⟩
      · exact ⟨1, rfl, .inr (.inl rfl)⟩
      · exact ⟨4, rfl, .inr (.inr rfl)⟩
    have s3 : Same H H3 := Same.but s2 b3 ndr
    refine ⟨_, _, rfl, rfl, ?_⟩
    obtain ⟨pl, hpl⟩ : ∃ pl : Nat, pl = sl + ad := ⟨_, rfl⟩
    rw [show (fun i j : Int => V.int (i + j)) (sl : Int) (ad : Int) = V.int (pl : Int) from congrArg V.int (by omega)]
    refine ⟨_, rfl, _, rfl, _, rfl, pl, rfl, by omega, by omega, fun D nD => ?_⟩
    refine lc_range (fun i H' => Same H3 H' ∧ ∃ acc, H' D = some (.lst acc) ∧ AllV (EntV H') acc (((List.range i).map fun p : Nat => (p : Int)).map fun p => (p, List.replicate 8 (0 : Int)))) ⟨Same.new nD, [], upd_same, .nil⟩ ?_ ?_
    · rintro i H' hi ⟨s4, acc, hA, hacc⟩
      rw [Int.zero_add]
      have hi : i < pl := hi
      have hal := hacc.len
      rw [List.length_map, List.length_map, List.length_range] at hal
      refine ⟨rfl, tYes_ok (iteT ⟨_, rfl, len1, fun z nz => ?_⟩)⟩
      obtain ⟨G1, f1, t1, hz⟩ := newE (.tup [V.int 0]) nz
      rw [f1]
      delta tC tNil
      dsimp only
      refine rep8 hz fun v G2 t2 hv => ⟨len2, fun y ny => ?_⟩
      obtain ⟨G3, f3, t3, hy⟩ := newE (.tup [V.int (i : Int), v]) ny
      rw [f3]
      have t := t1.trans (t2.trans t3)
      refine ⟨acc, t _ _ hA, line_lt (by omega), ?_⟩
      rw [rng_succ]
      exact comp_ent (s4.trans t) nD (t _ _ hA) (hacc.mono fun _ _ z => z.mono (Same.tups t)) ⟨y, rfl, hy⟩ (hv.mono (Same.tups t3))
    rintro H4 ⟨s4, acc, hA, hacc⟩
    obtain ⟨ps, kvs, g1, g2, g3⟩ := dictP_get (K := K) (n := pl) hA hacc (fun e he => by
      obtain ⟨p, hp, rfl⟩ := List.mem_map.mp he
      exact rng_mem.mp hp)
    refine ⟨D, ps, kvs, rfl, g1, g2, fun hp nhp => ?_⟩
    obtain ⟨H5, e5, s5, hdk⟩ := newE (.dK (mergeK [] kvs)) nhp
    rw [e5]
    have hdict := g3 hp H5 s5 hdk
    have s05 : Same H H5 := s3.trans (s4.trans s5)
    have full : ∀ p : Int, 0 ≤ p → p < pl → (rowM ((List.range pl).map fun p : Nat => (p : Int)) 0 p).isSome = true := fun p h1 h2 => (rowM_some (rng_nodup pl) 0 p).mpr (rng_mem.mpr ⟨h1, h2⟩)
    have all8 := rowM_all8 ((List.range pl).map fun p : Nat => (p : Int)) 0
    refine ⟨pl, sl, hp, _, rfl, hdict, all8, full, by omega, by omega, by omega, fun x a H6 s6 nx st q1 q2 q3 q4 => ?_⟩
    obtain ⟨inv0, cel0⟩ := fresh_inv (plates := pl) (slots := sl) (by omega) (chg_ok8 all8) (chg_nodup _ pl) fun p h1 h2 => by
      rw [chg_keys]
      exact mem_keysOf.mpr ⟨h1, h2, full p h1 h2⟩
    change StoreAt A H6 x (newSto pl sl (freshL pl sl (chg (rowM ((List.range pl).map fun p : Nat => (p : Int)) 0) pl))) a at st
    generalize hS0 : newSto pl sl (freshL pl sl (chg (rowM ((List.range pl).map fun p : Nat => (p : Int)) 0) pl)) = S0 at st inv0 cel0
    have p0 : S0.plates = pl := by rw [← hS0]; rfl
    have l0 : S0.slots = sl := by rw [← hS0]; rfl
    have t0 : S0.trace = [] := by rw [← hS0]; rfl
    have u0 : S0.pushed = [] := by rw [← hS0]; rfl
    have v0 : S0.beg = S0.dev := by rw [← hS0]; rfl
    have B2 : Short S0.beg.settled := by
      rw [← hS0]
      show Short (freshL pl sl _)
      refine short_flushL (short_rep _) fun e he => ?_
      rcases List.mem_append.mp he with h1 | h1
      · obtain ⟨e2, h2, rfl⟩ := List.mem_map.mp h1
        have := (chg_ok8 all8 e2 h2).2.2
        show e2.2.length ≤ 1000
        omega
      · rw [List.mem_singleton] at h1
        subst h1
        show 3 ≤ 1000
        decide
    refine ⟨_, rfl, x, a.dx, _, rfl, st.ins, SN_no (by decide +kernel), x, S0, a, rfl, st, fun f H7 s7 nf hf => ⟨len1, fun ho nho => ?_⟩⟩
    obtain ⟨H8, e8, s8, hho⟩ := newE (.lst [V.ref f]) nho
    rw [e8]
    have s57 := s6.trans s7
    have s38 := s4.trans (s5.trans (s57.trans s8))
    have L0 : LI A H dr sc ho x S0 a [S0.cells] [f] 2 H8 :=
      ⟨s3.trans s38, ndr, s38 _ _ hd3, st.same (s7.trans s8), Same.free s05 nx, Same.free s05 q1, Same.free s05 q2, Same.free s05 q3, Same.free (s05.trans s57) nho, fun z => (by
        subst z
        have := (s4.trans (s5.trans s57)) _ _ hd3
        rw [nho] at this
        cases this), hho, fun j g M g1 g2 => by
          cases j with
          | zero =>
            cases g1; cases g2
            exact ⟨hf.same s8, fun z => st.cel.there (z ▸ nf), fun z => st.run.there (z ▸ nf)⟩
          | succ j => cases g1⟩
    rw [← cel0] at inv0
    have B0 : S0.beg.loose = [] := inv0.beg0
    have B1 : S0.beg.settled.length = 2 + sl + pl := by rw [v0, st.wf.dl, l0, p0]
    obtain ⟨B, hB⟩ : ∃ B, S0.beg = B := ⟨_, rfl⟩
    rw [hB] at B0 B1 B2
    refine ⟨_, rfl, len3, fun it n9 => pick_at hsc L0.same ndr L0.da hns (by omega) n9 (by simp) fun v H9 hv b9 hd9 => ?_⟩
    obtain ⟨tn, rfl, htn⟩ : ∃ tn : Nat, v = .int (tn : Int) ∧ (tn = 3 ∨ tn = 6 ∨ tn = 9) := by
      simp only [List.mem_cons, List.not_mem_nil, or_false] at hv
      rcases hv with rfl | rfl | rfl
      · exact ⟨3, rfl, .inl rfl⟩
      · exact ⟨6, rfl, .inr (.inl rfl)⟩
      · exact ⟨9, rfl, .inr (.inr rfl)⟩
    have LT9 : LT A H dr sc ho x sl pl B 0 H9 := ⟨S0, a, _, _, 3, L0.drawn b9 hd9, inv0, rfl, l0, p0, hB, by omega, by rw [t0]; exact Nat.zero_le _, by rw [u0]; exact Nat.zero_le _, Nat.le_refl _⟩
    refine ⟨tn, rfl, by omega, by omega, for_range (fun t σ H' => ∃ (v6 v7 v8 v9 v10 : Option V), σ = [some (.ref sc), some (.ref dr), some (.int sl), some (.int pl), some (.ref x), some (.ref ho), v6, v7, v8, v9, v10, none, none, none, none, none, none, none] ∧ LT A H dr sc ho x sl pl B t H')
      ⟨none, none, none, none, none, rfl, LT9⟩ ?_ ?_⟩
    · rintro t σ H' ht ⟨v6, v7, v8, v9, v10, rfl, S, a, homes, hs, i, L, inv, hlen, hsl1, hpl1, hbeg, hi, htr, hpu, hhs⟩
      rw [Int.zero_add]
      have ht : t < tn := ht
      have len5 : 5 ≤ sizeLine := by rw [sizeLine_eq]; decide
      refine ⟨_, rfl, _, rfl, _, _, rfl, rfl, _, rfl, _, rfl, _, rfl, _, _, rfl, rfl, len5, fun it n1 => pick_at hsc L.same L.dn L.da hns (by omega) n1 (by simp) fun v H1 hv b1 hd1 => ?_⟩
      obtain ⟨m, rfl, hm0⟩ : ∃ m : Nat, v = .int (m : Int) ∧ 0 < m := by
        simp only [List.mem_cons, List.not_mem_nil, or_false] at hv
        rcases hv with rfl | rfl | rfl | rfl | rfl
        · exact ⟨1, rfl, by omega⟩
        · exact ⟨sl - 1, congrArg V.int (by omega), by omega⟩
        · exact ⟨sl, rfl, by omega⟩
        · exact ⟨sl, rfl, by omega⟩
        · exact ⟨sl + 1, congrArg V.int (by omega), by omega⟩
      have L1 := L.drawn b1 hd1
      refine ⟨_, rfl, _, rfl, ?_⟩
      delta tNil
      dsimp only
      refine take_at hsc L1.same L1.dn L1.da hns (by omega) (show 0 < pl by omega) fun fr H2 hfr b2 hd2 => ?_
      refine ⟨len2, fun tp ntp => ?_⟩
      have L2 := L1.drawn b2 hd2
      obtain ⟨H3, e3, s3, htp⟩ := newE (.tup [V.int (m : Int), V.int (fr : Int)]) ntp
      rw [e3]
      have L3 := L2.to s3
      refine ⟨tp, _, rfl, SqT.of htp, rfl, _, _, rfl, _, _, rfl, rfl, ?_⟩
      refine ⟨_, rfl, _, rfl, _, _, rfl, ?_⟩
      obtain ⟨cn, hcn⟩ : ∃ cn : Nat, cn = min m pl := ⟨_, rfl⟩
      rw [show (if (pl : Int) < (m : Int) then (pl : Int) else (m : Int)) = (cn : Int) by split <;> omega]
      refine ⟨_, rfl, by omega, by omega, fun D nD => ?_⟩
      refine lc_range (fun i H' => Same H3 H' ∧ H' D = some (.lst (((List.range i).map fun k : Nat => ((fr : Int) + (k : Int)) % (pl : Int)).map V.int))) ⟨Same.new nD, upd_same⟩ ?_ ?_
      · rintro j H' hj ⟨s4, hA⟩
        rw [Int.zero_add]
        have hj : j < cn := hj
        refine ⟨rfl, tYes_ok (iteT ⟨_, rfl, _, rfl, _, _, rfl, rfl, .inl ⟨_, rfl, _, rfl, _, _, rfl, rfl, (by show (0 : Int) < (pl : Int); omega), _, hA, line_lt ?_, Same.upd0 s4 nD, ?_⟩⟩)⟩
        · rw [List.length_map, List.length_map, List.length_range]
          omega
        · rw [upd_same, List.range_succ]
          simp
      rintro H4 ⟨s4, hA⟩
      refine ⟨D, _, rfl, SqL.of hA, (by rw [List.length_map, List.length_range]; omega), fun p out np ond omem => ?_⟩
      have orng : ∀ k ∈ out, 0 ≤ k ∧ k < (pl : Int) := fun k hk => by
        obtain ⟨j, _, rfl⟩ := List.mem_map.mp ((omem k).mp hk)
        exact ⟨Int.emod_nonneg _ (by omega), Int.emod_lt_of_pos _ (by omega)⟩
      have olen : out.length ≤ pl := nodup_le pl out ond orng
      refine ⟨p, _, out.length, rfl, upd_same, by omega, fun sm q asc mem hsl nq => ?_⟩
      obtain ⟨H6, e6, s6, hq⟩ := newE (.lst (sm.map V.int)) nq
      rw [e6]
      have nd := asc_nodup asc
      have smem : ∀ k, k ∈ sm ↔ k ∈ out := fun k => by
        rw [mem k, omem k]
        exact decide_eq_true_iff
      have rg : ∀ p ∈ sm, 0 ≤ p ∧ p < (pl : Int) := fun p hp => orng p ((smem p).mp hp)
      have hne : sm ≠ [] := fun z => by
        have : ((fr : Int) + ((0 : Nat) : Int)) % (pl : Int) ∈ sm := (smem _).mpr ((omem _).mpr (List.mem_map.mpr ⟨0, List.mem_range.mpr (by omega), rfl⟩))
        rw [z] at this
        cases this
      have L6 := L3.to (s4.trans ((Same.new np).trans s6))
      refine ⟨_, rfl, q, rfl, ⟨_, SqL.of hq⟩, fun D2 nD2 => ?_⟩
      refine lc_list (K := K) (a := q) (xs := sm.map V.int) (fun i H' => Same H6 H' ∧ ∃ acc, H' D2 = some (.lst acc) ∧ AllV (EntV H') acc ((sm.take i).map fun p => (p, List.replicate 8 ((t : Int) + 1)))) ⟨Same.new nD2, [], upd_same, .nil⟩ (fun i H' _ z => SqL.of (z.1 _ _ hq)) ?_ ?_
      · rintro j y H' hj ⟨s7, acc, hA, hacc⟩
        obtain ⟨p, hp, rfl⟩ := ints_get hj
        have hal := hacc.len
        rw [List.length_map, List.length_take] at hal
        refine ⟨rfl, tYes_ok (iteT ⟨_, rfl, _, rfl, _, _, rfl, rfl, len1, fun z nz => ?_⟩)⟩
        delta tC tNil
        dsimp only
        obtain ⟨G1, f1, t1, hz⟩ := newE (.tup [V.int ((t : Int) + 1)]) nz
        rw [f1]
        refine rep8 hz fun v G2 t2 hv => ⟨len2, fun y ny => ?_⟩
        obtain ⟨G3, f3, t3, hy⟩ := newE (.tup [V.int p, v]) ny
        rw [f3]
        have tt := t1.trans (t2.trans t3)
        refine ⟨acc, tt _ _ hA, line_lt (by omega), ?_⟩
        rw [take_snoc hp, List.map_append]
        exact comp_ent (s7.trans tt) nD2 (tt _ _ hA) (hacc.mono fun _ _ z => z.mono (Same.tups tt)) ⟨y, rfl, hy⟩ (hv.mono (Same.tups t3))
      rintro H7 ⟨s7, acc, hA, hacc⟩
      rw [List.length_map, List.take_length] at hacc
      obtain ⟨ps, kvs, g1, g2, g3⟩ := dictP_get (K := K) (n := pl) hA hacc (fun e he => by
        obtain ⟨p, hp, rfl⟩ := List.mem_map.mp he
        exact rg p hp)
      refine ⟨D2, ps, kvs, rfl, g1, g2, fun hd nhd => ?_⟩
      obtain ⟨H8, e8, s8, hdk⟩ := newE (.dK (mergeK [] kvs)) nhd
      rw [e8]
      have hdict : DictAt H8 hd S.plates (rowM sm ((t : Int) + 1)) := by
        rw [hpl1]
        exact g3 hd H8 s8 hdk
      have L8 := L6.to (s7.trans s8)
      have all8t := rowM_all8 sm ((t : Int) + 1)
      have clen : (chg (rowM sm ((t : Int) + 1)) S.plates).length = sm.length := by
        rw [hpl1]
        exact rowM_len nd rg _
      have hq8 := (s7.trans s8) _ _ hq
      have spos : 0 < sm.length := List.length_pos_iff.mpr hne
      refine ⟨_, rfl, x, a.dx, _, rfl, L8.st.ins, SN_no (by decide +kernel), _, rfl, x, S, a, hd, _, rfl, L8.st, hdict, all8t, by omega, by omega, fun hgt dd H9 s9 ndd hdd => ?_, fun hem => ?_, fun hle hnem a9 H9 st9 c9 => ?_⟩
      · rw [clen] at hgt hdd
        have L9 := L8.to s9
        refine ⟨true, G.te, fun _ a0 na0 => ?_, fun q => Bool.noConfusion q⟩
        refine ⟨_, rfl, rfl, rfl, dd, _, _, rfl, hdd, rfl, _, rfl, q, _, rfl, .inl (SqL.of (s9 _ _ hq8)), rfl, _, rfl, ?_⟩
        rw [List.length_map]
        rw [show (!decide (V.int (sm.length : Int) = V.int (sm.length : Int))) = false by simp]
        refine iteF ⟨_, rfl, q, _, rfl, .inl (SqL.of (s9 _ _ hq8)), _, rfl, _, _, rfl, rfl, _, rfl, ?_⟩
        rw [List.length_map, decide_eq_false (show ¬ (sm.length : Int) ≤ (sl : Int) by omega)]
        obtain ⟨fl, hfl1, hfl2⟩ := L9.last hlen inv
        refine iteF ⟨_, rfl, x, a.dx, _, rfl, L9.st.ins, SN_no (by decide +kernel), x, S, a, rfl, L9.st, fun f H10 s10 nf hf => ?_⟩
        have L10 := L9.to s10
        refine ⟨_, rfl, _, rfl, ho, _, _, _, rfl, rfl, SqL.of L10.hL, hfl1, f, fl, _, _, _, rfl, rfl, hf, hfl2.same s10, _, rfl, iteF ?_⟩
        exact ⟨_, _, _, _, _, rfl, S, a, homes, hs, _, L10, inv, hlen, hsl1, hpl1, hbeg, by omega, by omega, by omega, by omega⟩
      · rw [hem] at clen
        exact absurd clen.symm (by show sm.length ≠ 0; omega)
      · rw [clen] at hle
        obtain ⟨inv2, cel2, pl2, sl2, d2⟩ := inv.put (told := chg (rowM sm ((t : Int) + 1)) S.plates) ⟨hnem, by rw [clen]; exact hle, chg_ok8 all8t, chg_nodup _ _⟩
        have tl2 := putS_len S (chg (rowM sm ((t : Int) + 1)) S.plates) inv.runle
        have bg2 := putS_beg S (chg (rowM sm ((t : Int) + 1)) S.plates)
        generalize putS S (chg (rowM sm ((t : Int) + 1)) S.plates) = S2 at st9 inv2 cel2 pl2 sl2 d2 tl2 bg2
        have L9 := (L8.chg c9 st9 pl2).more hlen (dputs S.cells (chg (rowM sm ((t : Int) + 1)) S.plates))
        have hq9 : H9 q = some (.lst (sm.map V.int)) := by
          obtain ⟨n1, n2, n3, n4⟩ := L8.st.lst_ne hq8
          exact c9.keep _ _ n1 n2 n3 n4 hq8
        refine ⟨_, rfl, q, _, rfl, .inl (SqL.of hq9), _, rfl, _, _, rfl, rfl, _, rfl, ?_⟩
        rw [List.length_map, decide_eq_false (show ¬ (sl : Int) < (sm.length : Int) by omega)]
        refine iteF ⟨_, rfl, Nat.zero_le _, fun e ne => ?_⟩
        obtain ⟨H10, e10, s10, he10⟩ := newE (.lst []) ne
        rw [e10]
        refine ⟨.list (sm.map PyData.int), .list [], .lst (SqL.of (s10 _ _ hq9)) (dpInts sm), .lst (SqL.of he10) .nil, (flat_lst (flat_map (fun z => flat_int 0 z) _)).shaped, rfl, _, rfl, ?_⟩
        rw [eqv_list0, decide_eq_false hne]
        have L10 := L9.to s10
        refine iteT ⟨_, rfl, .inl ⟨rfl, _, SqL.of L10.hL⟩, _, rfl, x, a9.dx, _, rfl, L10.st.ins, SN_no (by decide +kernel), x, S2, a9, rfl, L10.st, fun f H11 s11 nf hf => ?_⟩
        have L11 := L10.to s11
        have hh2 := inv2.hl
        have hh1 := inv.hl
        refine ⟨ho, _, _, rfl, rfl, L11.hL, line_lt (by rw [List.length_map]; omega), ?_⟩
        have L12 := LI.snoc L11 (f := f) (M := S2.cells) (by rw [cel2, hlen]; exact get_append_here) hf (fun z => L10.st.cel.there (z ▸ nf)) (fun z => L10.st.run.there (z ▸ nf))
        generalize upd H11 ho (.lst (hs.map V.ref ++ [.ref f])) = H12 at L12 ⊢
        have hlen2 : (hs ++ [f]).length = (homes ++ [dputs S.cells (chg (rowM sm ((t : Int) + 1)) S.plates)]).length := by rw [List.length_append, List.length_append, hlen]; rfl
        have hh12 : (hs ++ [f]).length ≤ 1 + (t + 1) := by
          rw [List.length_append, List.length_singleton]
          omega
        refine ⟨_, rfl, ?_⟩
        delta tCons tC tNil
        dsimp only
        refine take_at (many := 4) hsc L12.same L12.dn L12.da hns (by omega) (by omega) fun r H13 hr4 b13 hd13 => ?_
        have L13 := L12.drawn b13 hd13
        refine ⟨rfl, _, rfl, ite_b (fun _ => ?_) fun _ => ?_⟩
        · refine ⟨_, rfl, x, a9.dx, _, rfl, L13.st.ins, SN_no (by decide +kernel), x, S2, a9, rfl, L13.st, by omega, by omega, fun a14 H14 st14 c14 => ?_⟩
          obtain ⟨r1, r2, r3, r4, r5, r6, r7⟩ := pushS_same S2
          have tl3 := pushS_len S2 inv2.runle
          have L14 := L13.chg c14 st14 r1
          exact ⟨_, _, _, _, _, rfl, pushS S2, a14, _, _, _, L14, inv2.push, hlen2, by omega, by omega, by rw [r5, bg2]; exact hbeg, by omega, by omega, by omega, hh12⟩
        · exact ⟨_, _, _, _, _, rfl, S2, a9, _, _, _, L13, inv2, hlen2, by omega, by omega, by rw [bg2]; exact hbeg, by omega, by omega, by omega, hh12⟩
    rintro σ H' ⟨v6, v7, v8, v9, v10, rfl, S, a, homes, hs, i, L, inv, hlen, hsl1, hpl1, hbeg, hi, htr, hpu, hhs⟩
    have htr : S.trace.length ≤ 400 := by omega
    have hpu : S.pushed.length ≤ 20 := by omega
    obtain ⟨xs, hxs, hev⟩ := L.st.tr
    refine ⟨_, rfl, x, A.c_Store, a.dx, _, _, rfl, L.st.ins, T.k_Store.c, T.n_Store_trace, SN_get4 .., a.tr, xs, rfl, .inr (SqT.of hxs), _, _, rfl, rfl, ?_⟩
    rw [hev.len]
    have evok : EvOk S.beg.settled.length S.trace := by
      rw [hbeg, B1]
      intro y hy
      have := inv.wf y hy
      rw [hsl1, hpl1] at this
      omega
    have bl0 : S.beg.loose = [] := by rw [hbeg]; exact B0
    have bsh : Short S.beg.settled := by rw [hbeg]; exact B2
    have dbl : ∀ k h, homes[k]? = some h → k < homes.length := fun k h e => (List.getElem?_eq_some_iff.mp e).1
    refine ⟨_, rfl, by omega, by omega, for_range (fun m σ H2 => ∃ (v12 v13 v14 v15 : Option V), σ = [some (.ref sc), some (.ref dr), some (.int sl), some (.int pl), some (.ref x), some (.ref ho), v6, v7, v8, v9, v10, none, v12, v13, v14, v15, none, none] ∧ Same H' H2)
      ⟨none, none, none, none, rfl, fun _ _ e => e⟩ ?_ ?_⟩
    · rintro m σ H2 hm ⟨v12, v13, v14, v15, rfl, s2⟩
      rw [Int.zero_add]
      have hm : m ≤ S.trace.length := by omega
      have L2 := L.to s2
      refine ⟨_, rfl, _, rfl, x, S, a, m, rfl, L2.st, by omega, hm, by omega, fun c H3 s3 hc => ?_⟩
      have L3 := L2.to s3
      have mono := inv.mono_written m
      refine ⟨_, rfl, c, rfl, ⟨_, SqT.of hc⟩, for_tup (K := K) (a := c) (xs := (openL S m).map V.int) (fun k σ H4 => ∃ (v14 v15 : Option V), σ = [some (.ref sc), some (.ref dr), some (.int sl), some (.int pl), some (.ref x), some (.ref ho), v6, v7, v8, v9, v10, none, some (.int (m : Int)), some (.ref c), v14, v15, none, none] ∧ Same H3 H4)
        ⟨v14, v15, rfl, fun _ _ e => e⟩ (fun k σ H4 _ z => by obtain ⟨_, _, _, z⟩ := z; exact SqT.of (z _ _ hc)) ?_ ?_⟩
      · rintro k y σ H4 hk ⟨v14, v15, rfl, s4⟩
        obtain ⟨z, hz, rfl⟩ := ints_get hk
        obtain ⟨rfl, hle⟩ := openL_at hz
        have L4 := L3.to s4
        refine ⟨_, rfl, _, rfl, _, rfl, _, rfl, _, rfl, x, S, a, m, _, rfl, L4.st, hm, by omega, by omega, by omega, hle, fun j h1 h2 => (inv.moment hm h1 h2).2.2.1, fun j cc kv H5 hj1 hj2 hdb s5 hcc hch => ?_⟩
        have L5 := L4.to s5
        obtain ⟨m1, m2, m3, h, hh, O⟩ := inv.moment hm hj1 hj2
        refine ⟨x, S, a, m, j, cc, kv, rfl, L5.st, hm, by omega, evok, bl0, hcc, hch, m3, fun fd H6 s6 nfd hfd => ?_⟩
        have can := O.can L.st.wf.s1 L.st.wf.p1 (shortAt L.st.wf.sh bsh _)
        rw [hpl1, hsl1] at can
        refine ⟨_, rfl, _, rfl, fd, pl, sl, _, rfl, hfd, rfl, can, fun x2 a2 S2 H7 s7 nx2 st2 cel2 pls2 => ?_⟩
        have L7 := (L5.to s6).to s7
        obtain ⟨fh, fh1, fh2⟩ := L7.at hlen hh
        rw [hdb] at fh1
        refine ⟨_, rfl, x2, a2.dx, _, rfl, st2.ins, SN_no (by decide +kernel), x2, S2, a2, rfl, st2, fun g H8 s8 ng hg => ?_⟩
        have e2 : S2.cells = h := by
          rw [cel2]
          have := O.reads.1
          rw [hpl1, hsl1] at this
          exact this
        rw [e2] at hg
        refine ⟨_, rfl, _, rfl, ho, _, _, _, rfl, rfl, SqL.of (s8 _ _ L7.hL), atI_nat fh1, g, fh, _, _, h, rfl, rfl, hg, fh2.same s8, _, rfl, iteF ?_⟩
        exact ⟨_, _, rfl, s4.trans (s5.trans (s6.trans (s7.trans s8)))⟩
      · rintro σ H4 ⟨v14, v15, rfl, s4⟩
        have L4 := L3.to s4
        refine ⟨_, rfl, x, A.c_Store, a.dx, _, _, rfl, L4.st.ins, T.k_Store.c, T.n_Store_begin, SN_get2 .., _, rfl, x, A.c_Store, a.dx, _, _, rfl, L4.st.ins, T.k_Store.c, T.n_Store_trace, SN_get4 .., _, rfl, a.bg, a.tr, S.beg, S.trace, m, rfl, L4.st.bg, L4.st.tr, hm, evok, by rw [bl0]; show 0 + _ ≤ _; omega, fun fd H5 s5 nfd hfd => ?_⟩
        obtain ⟨⟨dx, sa, la, hfi, hse, hlo⟩, _⟩ := hfd
        obtain ⟨ys, hys, hye⟩ := hlo
        refine ⟨fd, A.c_Disk, dx, _, _, rfl, hfi, T.k_Disk.c, T.n_Disk_loose, DN_get1 _ _, Nat.zero_le _, fun e ne => ?_⟩
        obtain ⟨H6, e6, s6, he⟩ := newE (.tup []) ne
        rw [e6]
        refine ⟨.tuple ((S.beg.run (S.trace.take m)).loose.map entD), .tuple [], .tup (SqT.of (s6 _ _ hys)) (dpAllV (fun _ _ z => dpEnt z) (hye.mono fun _ _ z => z.mono (Same.tups s6))), .tup (SqT.of he) .nil, (flat_tup (flat_map flat_ent _)).shaped, rfl, _, rfl, ?_⟩
        rw [eqv_tup0]
        have s46 := s4.trans (s5.trans s6)
        have fin : ∃ (v12 v13 v14' v15' : Option V), [some (V.ref sc), some (.ref dr), some (.int sl), some (.int pl), some (.ref x), some (.ref ho), v6, v7, v8, v9, v10, none, some (.int (m : Int)), some (.ref c), v14, v15, none, none] = [some (.ref sc), some (.ref dr), some (.int sl), some (.int pl), some (.ref x), some (.ref ho), v6, v7, v8, v9, v10, none, v12, v13, v14', v15', none, none] ∧ Same H' H6 := ⟨_, _, _, _, rfl, s2.trans (s3.trans s46)⟩
        refine ite_b (fun hb => ?_) fun hb => ?_
        · have hb := of_decide_eq_true hb
          have q := inv.quiet hm hb
          refine ⟨_, rfl, c, _, rfl, .inr (SqT.of (s46 _ _ hc)), rfl, _, rfl, ?_⟩
          rw [List.length_map, openL_len, show (written S.pushed m + 1 - written S.pushed (lastBar S.trace m)) = 1 by omega]
          exact iteF fin
        · exact iteF fin
    rintro σ H2 ⟨v12, v13, v14, v15, rfl, s2⟩
    have L2 := L.to s2
    refine ⟨_, rfl, x, a.dx, _, rfl, L2.st.ins, SN_no (by decide +kernel), x, S, a, rfl, L2.st, by omega, by omega, inv.runle, fun a3 H3 st3 c3 => ?_⟩
    obtain ⟨inv3, y1, y2, y3, y4, y5, h, hh, O⟩ := inv.sync
    have L3 := L2.chg c3 st3 y4
    have ybeg : (syncS S).beg = S.beg := (pushS_same S).2.2.2.2.1
    generalize syncS S = S3 at st3 inv3 y1 y2 y3 y4 y5 O L3 ybeg
    refine ⟨_, rfl, x, a3.dx, _, rfl, st3.ins, SN_no (by decide +kernel), x, S3, a3, rfl, st3, fun fd H4 s4 nfd hfd => ?_⟩
    have sh3 : Short S3.dev.settled := by
      have e1 := inv3.sett
      unfold PG.sett at e1
      rw [y3] at e1
      have e2 := shortAt st3.wf.sh (by rw [ybeg]; exact bsh) S3.trace.length
      rw [List.take_length, ← e1] at e2
      exact e2
    have can := O.can L.st.wf.s1 L.st.wf.p1 sh3
    rw [hpl1, hsl1] at can
    refine ⟨_, rfl, _, rfl, fd, pl, sl, _, rfl, hfd, y3, can, fun x2 a2 S2 H5 s5 nx2 st2 cel2 pls2 => ?_⟩
    have L5 := (L3.to s4).to s5
    refine ⟨x2, a2.dx, _, rfl, st2.ins, SN_no (by decide +kernel), x2, S2, a2, rfl, st2, fun g H6 s6 ng hg => ?_⟩
    have L6 := L5.to s6
    have e2 : S2.cells = h := by
      rw [cel2]
      have := O.reads.1
      rw [hpl1, hsl1] at this
      exact this
    have hl1 := inv.hl
    have e3 : S3.cells = h := by
      have := inv3.cells
      rw [y2, hh] at this
      exact (Option.some.inj this).symm
    obtain ⟨fl, fl1, fl2⟩ := L6.last hlen inv3
    rw [e3] at fl2
    rw [e2] at hg
    refine ⟨_, rfl, _, rfl, ho, _, _, _, rfl, rfl, SqL.of L6.hL, fl1, g, fl, _, _, h, rfl, rfl, hg, fl2, true, rfl, iteT ?_⟩
    refine ⟨_, rfl, x, A.c_Store, a3.dx, _, _, rfl, L6.st.ins, T.k_Store.c, T.n_Store_settled_deeds, SN_get14 .., _, rfl, x, A.c_Store, a3.dx, _, _, rfl, L6.st.ins, T.k_Store.c, T.n_Store_deeds, SN_get13 .., rfl, _, rfl, ?_⟩
    rw [y1]
    rw [decide_eq_true (rfl : V.int (S3.deeds : Int) = V.int (S3.deeds : Int))]
    refine iteT ⟨_, rfl, ho, _, rfl, .inl (SqL.of L6.hL), _, _, rfl, rfl, rfl, ?_⟩
    rw [List.length_map, decide_eq_true (congrArg V.int (show (S3.deeds : Int) = (hs.length : Int) - 1 by omega))]
    exact kQ _
end
end PG

set_option Elab.async false
set_option linter.all false
set_option autoImplicit false
set_option maxRecDepth 100000
set_option maxHeartbeats 6400000
/-! ## The classes, from the facts (printed by genE.py) -/
namespace PG
open PySem L2
section
variable {K : PySem.W.Frag} {h : Heap} {mg : Str → Option Value}
theorem mk_Disk (X : K.In h) (G : h.Ns mainGlobals mg) {C : Addr}
    {f0 : Addr} {oc0 : Value} {od0 an0 : Option Addr} {sl0 : Array (Option Value)} {kV0 dc0 pm0 cd0 ct0 : Value}
    {f1 : Addr} {oc1 : Value} {od1 an1 : Option Addr} {sl1 : Array (Option Value)} {kV1 dc1 pm1 cd1 ct1 : Value}
    {f2 : Addr} {oc2 : Value} {od2 an2 : Option Addr} {sl2 : Array (Option Value)} {kV2 dc2 pm2 cd2 ct2 : Value}
    {f3 : Addr} {oc3 : Value} {od3 an3 : Option Addr} {sl3 : Array (Option Value)} {kV3 dc3 pm3 cd3 ct3 : Value}
    {f6 : Addr} {oc6 : Value} {od6 an6 : Option Addr} {sl6 : Array (Option Value)} {kV6 dc6 pm6 cd6 ct6 : Value}
    {f7 : Addr} {oc7 : Value} {od7 an7 : Option Addr} {sl7 : Array (Option Value)} {kV7 dc7 pm7 cd7 ct7 : Value}
    (g : PySem.W.nsIn K mainGlobals "Disk" = some (some (.ref C)))
    (a0 : PySem.W.findIn K (.ref C) "__init__" = some (some (.ref f0))) (i0 : PySem.W.isFn K (.ref f0) = true) (l0 : K.lookup f0 = some ⟨oc0, od0, .func (PySem.W.fnOf "__init__" "Disk.__init__" (defArgs (inClass (top 21) 0)) (defBody (inClass (top 21) 0)) (defScope (inClass (top 21) 0)) .none kV0 dc0 pm0 an0 cd0 ct0), sl0⟩) (c0 : PySem.W.codeIn K cd0 "Disk.__init__" = true) (k0 : PySem.W.keepIn K (.ref f0) = true)
    (pg : PySem.W.plainGet K C Str.empty = true) (hd : PySem.W.hasDictIn K C = true) (po : PySem.W.plainOver K C = true) (sa : PySem.W.findIn K (.ref C) "__setattr__" = some (some (.builtin "object.__setattr__"))) (mk : PySem.W.makesIn K C = true) (kc : PySem.W.keepIn K (.ref C) = true)
    (a1 : PySem.W.findIn K (.ref C) "write" = some (some (.ref f1))) (i1 : PySem.W.isFn K (.ref f1) = true) (l1 : K.lookup f1 = some ⟨oc1, od1, .func (PySem.W.fnOf "write" "Disk.write" (defArgs (inClass (top 21) 1)) (defBody (inClass (top 21) 1)) (defScope (inClass (top 21) 1)) .none kV1 dc1 pm1 an1 cd1 ct1), sl1⟩) (c1 : PySem.W.codeIn K cd1 "Disk.write" = true) (k1 : PySem.W.keepIn K (.ref f1) = true)
    (a2 : PySem.W.findIn K (.ref C) "barrier" = some (some (.ref f2))) (i2 : PySem.W.isFn K (.ref f2) = true) (l2 : K.lookup f2 = some ⟨oc2, od2, .func (PySem.W.fnOf "barrier" "Disk.barrier" (defArgs (inClass (top 21) 2)) (defBody (inClass (top 21) 2)) (defScope (inClass (top 21) 2)) .none kV2 dc2 pm2 an2 cd2 ct2), sl2⟩) (c2 : PySem.W.codeIn K cd2 "Disk.barrier" = true) (k2 : PySem.W.keepIn K (.ref f2) = true)
    (a3 : PySem.W.findIn K (.ref C) "now" = some (some (.ref f3))) (i3 : PySem.W.isFn K (.ref f3) = true) (l3 : K.lookup f3 = some ⟨oc3, od3, .func (PySem.W.fnOf "now" "Disk.now" (defArgs (inClass (top 21) 3)) (defBody (inClass (top 21) 3)) (defScope (inClass (top 21) 3)) .none kV3 dc3 pm3 an3 cd3 ct3), sl3⟩) (c3 : PySem.W.codeIn K cd3 "Disk.now" = true) (k3 : PySem.W.keepIn K (.ref f3) = true)
    (a6 : PySem.W.findIn K (.ref C) "fallen" = some (some (.ref f6))) (i6 : PySem.W.isFn K (.ref f6) = true) (l6 : K.lookup f6 = some ⟨oc6, od6, .func (PySem.W.fnOf "fallen" "Disk.fallen" (defArgs (inClass (top 21) 6)) (defBody (inClass (top 21) 6)) (defScope (inClass (top 21) 6)) .none kV6 dc6 pm6 an6 cd6 ct6), sl6⟩) (c6 : PySem.W.codeIn K cd6 "Disk.fallen" = true) (k6 : PySem.W.keepIn K (.ref f6) = true)
    (a7 : PySem.W.findIn K (.ref C) "chosen" = some (some (.ref f7))) (i7 : PySem.W.isFn K (.ref f7) = true) (l7 : K.lookup f7 = some ⟨oc7, od7, .func (PySem.W.fnOf "chosen" "Disk.chosen" (defArgs (inClass (top 21) 7)) (defBody (inClass (top 21) 7)) (defScope (inClass (top 21) 7)) .none kV7 dc7 pm7 an7 cd7 ct7), sl7⟩) (c7 : PySem.W.codeIn K cd7 "Disk.chosen" = true) (k7 : PySem.W.keepIn K (.ref f7) = true)
    (n_settled : PySem.W.findIn K (.ref C) "settled" = some none)
    (n_loose : PySem.W.findIn K (.ref C) "loose" = some none)
    : ∃ (C : Addr) (f0 : Addr) (d0 : FuncData) (f1 : Addr) (d1 : FuncData) (f2 : Addr) (d2 : FuncData) (f3 : Addr) (d3 : FuncData) (f6 : Addr) (d6 : FuncData) (f7 : Addr) (d7 : FuncData),
    TopC K mg "Disk" "Disk.__init__" (inClass (top 21) 0) C f0 d0 ["self", "many"] ∧
    TopM K C "write" "Disk.write" (inClass (top 21) 1) f1 d1 ["self", "plate", "value"] ∧
    TopM K C "barrier" "Disk.barrier" (inClass (top 21) 2) f2 d2 ["self"] ∧
    TopM K C "now" "Disk.now" (inClass (top 21) 3) f3 d3 ["self", "plate"] ∧
    TopM K C "fallen" "Disk.fallen" (inClass (top 21) 6) f6 d6 ["self", "choice"] ∧
    TopM K C "chosen" "Disk.chosen" (inClass (top 21) 7) f7 d7 ["self", "plate", "number"] ∧
    NoAttr K C "settled" ∧
    NoAttr K C "loose" :=
  ⟨C, f0, _, f1, _, f2, _, f3, _, f6, _, f7, _,
    ⟨fun_mk l0 c0 k0, ⟨mk, a0, i0, kc⟩, ⟨pg, hd, po, sa⟩, PySem.W.mg_of X G g, (fun_mk l0 c0 k0).binds (fun _ _ _ _ _ _ us hl => match us, hl with | [_, _], _ => rfl)⟩,
    ⟨fun_mk l1 c1 k1, ⟨a1, i1, k1⟩, (fun_mk l1 c1 k1).binds (fun _ _ _ _ _ _ us hl => match us, hl with | [_, _, _], _ => rfl)⟩,
    ⟨fun_mk l2 c2 k2, ⟨a2, i2, k2⟩, (fun_mk l2 c2 k2).binds (fun _ _ _ _ _ _ us hl => match us, hl with | [_], _ => rfl)⟩,
    ⟨fun_mk l3 c3 k3, ⟨a3, i3, k3⟩, (fun_mk l3 c3 k3).binds (fun _ _ _ _ _ _ us hl => match us, hl with | [_, _], _ => rfl)⟩,
    ⟨fun_mk l6 c6 k6, ⟨a6, i6, k6⟩, (fun_mk l6 c6 k6).binds (fun _ _ _ _ _ _ us hl => match us, hl with | [_, _], _ => rfl)⟩,
    ⟨fun_mk l7 c7 k7, ⟨a7, i7, k7⟩, (fun_mk l7 c7 k7).binds (fun _ _ _ _ _ _ us hl => match us, hl with | [_, _, _], _ => rfl)⟩,
    n_settled,
    n_loose⟩
theorem mk_Store (X : K.In h) (G : h.Ns mainGlobals mg) {C : Addr}
    {f0 : Addr} {oc0 : Value} {od0 an0 : Option Addr} {sl0 : Array (Option Value)} {kV0 dc0 pm0 cd0 ct0 : Value}
    {f1 : Addr} {oc1 : Value} {od1 an1 : Option Addr} {sl1 : Array (Option Value)} {kV1 dc1 pm1 cd1 ct1 : Value}
    {f2 : Addr} {oc2 : Value} {od2 an2 : Option Addr} {sl2 : Array (Option Value)} {kV2 dc2 pm2 cd2 ct2 : Value}
    {f4 : Addr} {oc4 : Value} {od4 an4 : Option Addr} {sl4 : Array (Option Value)} {kV4 dc4 pm4 cd4 ct4 : Value}
    {f5 : Addr} {oc5 : Value} {od5 an5 : Option Addr} {sl5 : Array (Option Value)} {kV5 dc5 pm5 cd5 ct5 : Value}
    {f6 : Addr} {oc6 : Value} {od6 an6 : Option Addr} {sl6 : Array (Option Value)} {kV6 dc6 pm6 cd6 ct6 : Value}
    {f7 : Addr} {oc7 : Value} {od7 an7 : Option Addr} {sl7 : Array (Option Value)} {kV7 dc7 pm7 cd7 ct7 : Value}
    {f8 : Addr} {oc8 : Value} {od8 an8 : Option Addr} {sl8 : Array (Option Value)} {kV8 dc8 pm8 cd8 ct8 : Value}
    {f9 : Addr} {oc9 : Value} {od9 an9 : Option Addr} {sl9 : Array (Option Value)} {kV9 dc9 pm9 cd9 ct9 : Value}
    {f10 : Addr} {oc10 : Value} {od10 an10 : Option Addr} {sl10 : Array (Option Value)} {kV10 dc10 pm10 cd10 ct10 : Value}
    {f11 : Addr} {oc11 : Value} {od11 an11 : Option Addr} {sl11 : Array (Option Value)} {kV11 dc11 pm11 cd11 ct11 : Value}
    {f12 : Addr} {oc12 : Value} {od12 an12 : Option Addr} {sl12 : Array (Option Value)} {kV12 dc12 pm12 cd12 ct12 : Value}
    {f13 : Addr} {oc13 : Value} {od13 an13 : Option Addr} {sl13 : Array (Option Value)} {kV13 dc13 pm13 cd13 ct13 : Value}
    (g : PySem.W.nsIn K mainGlobals "Store" = some (some (.ref C)))
    (a0 : PySem.W.findIn K (.ref C) "__init__" = some (some (.ref f0))) (i0 : PySem.W.isFn K (.ref f0) = true) (l0 : K.lookup f0 = some ⟨oc0, od0, .func (PySem.W.fnOf "__init__" "Store.__init__" (defArgs (inClass (top 40) 0)) (defBody (inClass (top 40) 0)) (defScope (inClass (top 40) 0)) .none kV0 dc0 pm0 an0 cd0 ct0), sl0⟩) (c0 : PySem.W.codeIn K cd0 "Store.__init__" = true) (k0 : PySem.W.keepIn K (.ref f0) = true)
    (pg : PySem.W.plainGet K C Str.empty = true) (hd : PySem.W.hasDictIn K C = true) (po : PySem.W.plainOver K C = true) (sa : PySem.W.findIn K (.ref C) "__setattr__" = some (some (.builtin "object.__setattr__"))) (mk : PySem.W.makesIn K C = true) (kc : PySem.W.keepIn K (.ref C) = true)
    (a1 : PySem.W.findIn K (.ref C) "disk" = some (some (.ref f1))) (i1 : PySem.W.isFn K (.ref f1) = true) (l1 : K.lookup f1 = some ⟨oc1, od1, .func (PySem.W.fnOf "disk" "Store.disk" (defArgs (inClass (top 40) 1)) (defBody (inClass (top 40) 1)) (defScope (inClass (top 40) 1)) .none kV1 dc1 pm1 an1 cd1 ct1), sl1⟩) (c1 : PySem.W.codeIn K cd1 "Store.disk" = true) (k1 : PySem.W.keepIn K (.ref f1) = true)
    (a2 : PySem.W.findIn K (.ref C) "home" = some (some (.ref f2))) (i2 : PySem.W.isFn K (.ref f2) = true) (l2 : K.lookup f2 = some ⟨oc2, od2, .func (PySem.W.fnOf "home" "Store.home" (defArgs (inClass (top 40) 2)) (defBody (inClass (top 40) 2)) (defScope (inClass (top 40) 2)) .none kV2 dc2 pm2 an2 cd2 ct2), sl2⟩) (c2 : PySem.W.codeIn K cd2 "Store.home" = true) (k2 : PySem.W.keepIn K (.ref f2) = true)
    (a4 : PySem.W.findIn K (.ref C) "write" = some (some (.ref f4))) (i4 : PySem.W.isFn K (.ref f4) = true) (l4 : K.lookup f4 = some ⟨oc4, od4, .func (PySem.W.fnOf "write" "Store.write" (defArgs (inClass (top 40) 4)) (defBody (inClass (top 40) 4)) (defScope (inClass (top 40) 4)) .none kV4 dc4 pm4 an4 cd4 ct4), sl4⟩) (c4 : PySem.W.codeIn K cd4 "Store.write" = true) (k4 : PySem.W.keepIn K (.ref f4) = true)
    (a5 : PySem.W.findIn K (.ref C) "barrier" = some (some (.ref f5))) (i5 : PySem.W.isFn K (.ref f5) = true) (l5 : K.lookup f5 = some ⟨oc5, od5, .func (PySem.W.fnOf "barrier" "Store.barrier" (defArgs (inClass (top 40) 5)) (defBody (inClass (top 40) 5)) (defScope (inClass (top 40) 5)) .none kV5 dc5 pm5 an5 cd5 ct5), sl5⟩) (c5 : PySem.W.codeIn K cd5 "Store.barrier" = true) (k5 : PySem.W.keepIn K (.ref f5) = true)
    (a6 : PySem.W.findIn K (.ref C) "put" = some (some (.ref f6))) (i6 : PySem.W.isFn K (.ref f6) = true) (l6 : K.lookup f6 = some ⟨oc6, od6, .func (PySem.W.fnOf "put" "Store.put" (defArgs (inClass (top 40) 6)) (defBody (inClass (top 40) 6)) (defScope (inClass (top 40) 6)) .none kV6 dc6 pm6 an6 cd6 ct6), sl6⟩) (c6 : PySem.W.codeIn K cd6 "Store.put" = true) (k6 : PySem.W.keepIn K (.ref f6) = true)
    (a7 : PySem.W.findIn K (.ref C) "used" = some (some (.ref f7))) (i7 : PySem.W.isFn K (.ref f7) = true) (l7 : K.lookup f7 = some ⟨oc7, od7, .func (PySem.W.fnOf "used" "Store.used" (defArgs (inClass (top 40) 7)) (defBody (inClass (top 40) 7)) (defScope (inClass (top 40) 7)) .none kV7 dc7 pm7 an7 cd7 ct7), sl7⟩) (c7 : PySem.W.codeIn K cd7 "Store.used" = true) (k7 : PySem.W.keepIn K (.ref f7) = true)
    (a8 : PySem.W.findIn K (.ref C) "push" = some (some (.ref f8))) (i8 : PySem.W.isFn K (.ref f8) = true) (l8 : K.lookup f8 = some ⟨oc8, od8, .func (PySem.W.fnOf "push" "Store.push" (defArgs (inClass (top 40) 8)) (defBody (inClass (top 40) 8)) (defScope (inClass (top 40) 8)) .none kV8 dc8 pm8 an8 cd8 ct8), sl8⟩) (c8 : PySem.W.codeIn K cd8 "Store.push" = true) (k8 : PySem.W.keepIn K (.ref f8) = true)
    (a9 : PySem.W.findIn K (.ref C) "settle" = some (some (.ref f9))) (i9 : PySem.W.isFn K (.ref f9) = true) (l9 : K.lookup f9 = some ⟨oc9, od9, .func (PySem.W.fnOf "settle" "Store.settle" (defArgs (inClass (top 40) 9)) (defBody (inClass (top 40) 9)) (defScope (inClass (top 40) 9)) .none kV9 dc9 pm9 an9 cd9 ct9), sl9⟩) (c9 : PySem.W.codeIn K cd9 "Store.settle" = true) (k9 : PySem.W.keepIn K (.ref f9) = true)
    (a10 : PySem.W.findIn K (.ref C) "sync" = some (some (.ref f10))) (i10 : PySem.W.isFn K (.ref f10) = true) (l10 : K.lookup f10 = some ⟨oc10, od10, .func (PySem.W.fnOf "sync" "Store.sync" (defArgs (inClass (top 40) 10)) (defBody (inClass (top 40) 10)) (defScope (inClass (top 40) 10)) .none kV10 dc10 pm10 an10 cd10 ct10), sl10⟩) (c10 : PySem.W.codeIn K cd10 "Store.sync" = true) (k10 : PySem.W.keepIn K (.ref f10) = true)
    (a11 : PySem.W.findIn K (.ref C) "lay" = some (some (.ref f11))) (i11 : PySem.W.isFn K (.ref f11) = true) (l11 : K.lookup f11 = some ⟨oc11, od11, .func (PySem.W.fnOf "lay" "Store.lay" (defArgs (inClass (top 40) 11)) (defBody (inClass (top 40) 11)) (defScope (inClass (top 40) 11)) .none kV11 dc11 pm11 an11 cd11 ct11), sl11⟩) (c11 : PySem.W.codeIn K cd11 "Store.lay" = true) (k11 : PySem.W.keepIn K (.ref f11) = true)
    (a12 : PySem.W.findIn K (.ref C) "write_home" = some (some (.ref f12))) (i12 : PySem.W.isFn K (.ref f12) = true) (l12 : K.lookup f12 = some ⟨oc12, od12, .func (PySem.W.fnOf "write_home" "Store.write_home" (defArgs (inClass (top 40) 12)) (defBody (inClass (top 40) 12)) (defScope (inClass (top 40) 12)) .none kV12 dc12 pm12 an12 cd12 ct12), sl12⟩) (c12 : PySem.W.codeIn K cd12 "Store.write_home" = true) (k12 : PySem.W.keepIn K (.ref f12) = true)
    (a13 : PySem.W.findIn K (.ref C) "turn_head" = some (some (.ref f13))) (i13 : PySem.W.isFn K (.ref f13) = true) (l13 : K.lookup f13 = some ⟨oc13, od13, .func (PySem.W.fnOf "turn_head" "Store.turn_head" (defArgs (inClass (top 40) 13)) (defBody (inClass (top 40) 13)) (defScope (inClass (top 40) 13)) .none kV13 dc13 pm13 an13 cd13 ct13), sl13⟩) (c13 : PySem.W.codeIn K cd13 "Store.turn_head" = true) (k13 : PySem.W.keepIn K (.ref f13) = true)
    (n_plates : PySem.W.findIn K (.ref C) "plates" = some none)
    (n_slots : PySem.W.findIn K (.ref C) "slots" = some none)
    (n_begin : PySem.W.findIn K (.ref C) "begin" = some none)
    (n_device : PySem.W.findIn K (.ref C) "device" = some none)
    (n_trace : PySem.W.findIn K (.ref C) "trace" = some none)
    (n_head : PySem.W.findIn K (.ref C) "head" = some none)
    (n_groups : PySem.W.findIn K (.ref C) "groups" = some none)
    (n_cells : PySem.W.findIn K (.ref C) "cells" = some none)
    (n_next_group : PySem.W.findIn K (.ref C) "next_group" = some none)
    (n_next_slot : PySem.W.findIn K (.ref C) "next_slot" = some none)
    (n_running : PySem.W.findIn K (.ref C) "running" = some none)
    (n_running_deeds : PySem.W.findIn K (.ref C) "running_deeds" = some none)
    (n_pushed : PySem.W.findIn K (.ref C) "pushed" = some none)
    (n_deeds : PySem.W.findIn K (.ref C) "deeds" = some none)
    (n_settled_deeds : PySem.W.findIn K (.ref C) "settled_deeds" = some none)
    : ∃ (C : Addr) (f0 : Addr) (d0 : FuncData) (f1 : Addr) (d1 : FuncData) (f2 : Addr) (d2 : FuncData) (f4 : Addr) (d4 : FuncData) (f5 : Addr) (d5 : FuncData) (f6 : Addr) (d6 : FuncData) (f7 : Addr) (d7 : FuncData) (f8 : Addr) (d8 : FuncData) (f9 : Addr) (d9 : FuncData) (f10 : Addr) (d10 : FuncData) (f11 : Addr) (d11 : FuncData) (f12 : Addr) (d12 : FuncData) (f13 : Addr) (d13 : FuncData),
    TopC K mg "Store" "Store.__init__" (inClass (top 40) 0) C f0 d0 ["self", "plates", "slots", "disk"] ∧
    TopM K C "disk" "Store.disk" (inClass (top 40) 1) f1 d1 ["self"] ∧
    TopM K C "home" "Store.home" (inClass (top 40) 2) f2 d2 ["self"] ∧
    TopM K C "write" "Store.write" (inClass (top 40) 4) f4 d4 ["self", "plate", "value"] ∧
    TopM K C "barrier" "Store.barrier" (inClass (top 40) 5) f5 d5 ["self"] ∧
    TopM K C "put" "Store.put" (inClass (top 40) 6) f6 d6 ["self", "changes"] ∧
    TopM K C "used" "Store.used" (inClass (top 40) 7) f7 d7 ["self"] ∧
    TopM K C "push" "Store.push" (inClass (top 40) 8) f8 d8 ["self"] ∧
    TopM K C "settle" "Store.settle" (inClass (top 40) 9) f9 d9 ["self"] ∧
    TopM K C "sync" "Store.sync" (inClass (top 40) 10) f10 d10 ["self"] ∧
    TopM K C "lay" "Store.lay" (inClass (top 40) 11) f11 d11 ["self"] ∧
    TopM K C "write_home" "Store.write_home" (inClass (top 40) 12) f12 d12 ["self"] ∧
    TopM K C "turn_head" "Store.turn_head" (inClass (top 40) 13) f13 d13 ["self"] ∧
    NoAttr K C "plates" ∧
    NoAttr K C "slots" ∧
    NoAttr K C "begin" ∧
    NoAttr K C "device" ∧
    NoAttr K C "trace" ∧
    NoAttr K C "head" ∧
    NoAttr K C "groups" ∧
    NoAttr K C "cells" ∧
    NoAttr K C "next_group" ∧
    NoAttr K C "next_slot" ∧
    NoAttr K C "running" ∧
    NoAttr K C "running_deeds" ∧
    NoAttr K C "pushed" ∧
    NoAttr K C "deeds" ∧
    NoAttr K C "settled_deeds" :=
  ⟨C, f0, _, f1, _, f2, _, f4, _, f5, _, f6, _, f7, _, f8, _, f9, _, f10, _, f11, _, f12, _, f13, _,
    ⟨fun_mk l0 c0 k0, ⟨mk, a0, i0, kc⟩, ⟨pg, hd, po, sa⟩, PySem.W.mg_of X G g, (fun_mk l0 c0 k0).binds (fun _ _ _ _ _ _ us hl => match us, hl with | [_, _, _, _], _ => rfl)⟩,
    ⟨fun_mk l1 c1 k1, ⟨a1, i1, k1⟩, (fun_mk l1 c1 k1).binds (fun _ _ _ _ _ _ us hl => match us, hl with | [_], _ => rfl)⟩,
    ⟨fun_mk l2 c2 k2, ⟨a2, i2, k2⟩, (fun_mk l2 c2 k2).binds (fun _ _ _ _ _ _ us hl => match us, hl with | [_], _ => rfl)⟩,
    ⟨fun_mk l4 c4 k4, ⟨a4, i4, k4⟩, (fun_mk l4 c4 k4).binds (fun _ _ _ _ _ _ us hl => match us, hl with | [_, _, _], _ => rfl)⟩,
    ⟨fun_mk l5 c5 k5, ⟨a5, i5, k5⟩, (fun_mk l5 c5 k5).binds (fun _ _ _ _ _ _ us hl => match us, hl with | [_], _ => rfl)⟩,
    ⟨fun_mk l6 c6 k6, ⟨a6, i6, k6⟩, (fun_mk l6 c6 k6).binds (fun _ _ _ _ _ _ us hl => match us, hl with | [_, _], _ => rfl)⟩,
    ⟨fun_mk l7 c7 k7, ⟨a7, i7, k7⟩, (fun_mk l7 c7 k7).binds (fun _ _ _ _ _ _ us hl => match us, hl with | [_], _ => rfl)⟩,
    ⟨fun_mk l8 c8 k8, ⟨a8, i8, k8⟩, (fun_mk l8 c8 k8).binds (fun _ _ _ _ _ _ us hl => match us, hl with | [_], _ => rfl)⟩,
    ⟨fun_mk l9 c9 k9, ⟨a9, i9, k9⟩, (fun_mk l9 c9 k9).binds (fun _ _ _ _ _ _ us hl => match us, hl with | [_], _ => rfl)⟩,
    ⟨fun_mk l10 c10 k10, ⟨a10, i10, k10⟩, (fun_mk l10 c10 k10).binds (fun _ _ _ _ _ _ us hl => match us, hl with | [_], _ => rfl)⟩,
    ⟨fun_mk l11 c11 k11, ⟨a11, i11, k11⟩, (fun_mk l11 c11 k11).binds (fun _ _ _ _ _ _ us hl => match us, hl with | [_], _ => rfl)⟩,
    ⟨fun_mk l12 c12 k12, ⟨a12, i12, k12⟩, (fun_mk l12 c12 k12).binds (fun _ _ _ _ _ _ us hl => match us, hl with | [_], _ => rfl)⟩,
    ⟨fun_mk l13 c13 k13, ⟨a13, i13, k13⟩, (fun_mk l13 c13 k13).binds (fun _ _ _ _ _ _ us hl => match us, hl with | [_], _ => rfl)⟩,
    n_plates,
    n_slots,
    n_begin,
    n_device,
    n_trace,
    n_head,
    n_groups,
    n_cells,
    n_next_group,
    n_next_slot,
    n_running,
    n_running_deeds,
    n_pushed,
    n_deeds,
    n_settled_deeds⟩
theorem mk_whole (X : K.In h) (G : h.Ns mainGlobals mg) {f T : Addr} {oc tc : Value} {od an td : Option Addr} {sl ts : Array (Option Value)} {kV dc pm cd ct : Value} {n : Nat}
    (a : PySem.W.nsIn K mainGlobals "is_whole" = some (some (.ref f))) (l : K.lookup f = some ⟨oc, od, .func (PySem.W.fnOf "is_whole" "is_whole" (defArgs (top 5)) (defBody (top 5)) (defScope (top 5)) (.ref T) kV dc pm an cd ct), sl⟩)
    (lt : K.lookup T = some ⟨tc, td, .seq #[.none, .none] n, ts⟩) (c : PySem.W.codeIn K cd "is_whole" = true) (k : PySem.W.keepIn K (.ref f) = true) :
    ∃ f fd, FunD K "is_whole" "is_whole" (defArgs (top 5)) (defBody (top 5)) (defScope (top 5)) [.non, .non] [] f fd ∧ mg "is_whole" = some (.ref f) :=
  ⟨f, _, ⟨⟨_, _, _, _, _, _, _, _, _, _, rfl, l, c, .inr ⟨by simp, T, _, [.none, .none], n, rfl, lt, rfl, .cons rfl (.cons rfl .nil)⟩, .inl rfl⟩, k⟩, PySem.W.mg_of X G a⟩
theorem mk_law (X : K.In h) (G : h.Ns mainGlobals mg) {fa f : Addr} {oc : Value} {od an : Option Addr} {sl : Array (Option Value)} {kV dc pm cd ct : Value} (hmg : mg "law" = some (.ref fa)) (a : PySem.W.nsIn K mainGlobals "law" = some (some (.ref f)))
    (l : K.lookup f = some ⟨oc, od, .func (PySem.W.fnOf "law" "law" (defArgs (top 58)) (defBody (top 58)) (defScope (top 58)) .none kV dc pm an cd ct), sl⟩) (c : PySem.W.codeIn K cd "law" = true) (k : PySem.W.keepIn K (.ref f) = true) :
    ∃ fd : FuncData, Fun K "law" "law" (top 58) fa fd ∧ ∀ (s : Shared) (u : Value), BindsTo s fd ⟨[u], []⟩ [("_law_script", u)] := by
  have e := hmg.symm.trans (PySem.W.mg_of X G a)
  cases e
  exact ⟨_, fun_mk l c k, fun s u => .of_eq rfl⟩
theorem has_dict {C : Addr} (hd : PySem.W.hasDictIn K C = true) : ∃ cd, PySem.W.clsIn K C = some cd ∧ cd.hasDict = true := by
  unfold PySem.W.hasDictIn at hd
  cases e : PySem.W.clsIn K C with
  | none => rw [e] at hd; cases hd
  | some cd => rw [e] at hd; exact ⟨cd, rfl, hd⟩
theorem own_exm {C : Addr} (h1 : PySem.W.subIn K (.ref C) (.type "BaseException") = some true) (h2 : (PySem.W.clsIn K C).isSome = true) (h3 : PySem.W.typeIn K (.ref C) = some (.type "type")) (h4 : PySem.W.subIn K (.ref C) (.ref C) = some true) : PySem.W.exmOne K (.ref C) (.ref C) = some true := by
  have g1 : (PySem.W.subIn K (.ref C) (.type "BaseException") == some true) = true := by rw [h1]; rfl
  have g2 : ((PySem.W.clsIn K C).isSome && PySem.W.typeIn K (.ref C) == some (.type "type")) = true := by rw [h2, h3]; rfl
  show (if (PySem.W.subIn K (.ref C) (.type "BaseException") == some true) = true then (if ((PySem.W.clsIn K C).isSome && PySem.W.typeIn K (.ref C) == some (.type "type")) = true then PySem.W.subIn K (.ref C) (.ref C) else none) else none) = some true
  rw [if_pos g1, if_pos g2, h4]
theorem mk_tg {P : Program} (X : K.In h) (G : h.Ns mainGlobals mg) {C f cda cc : Addr} {oc ccl vcl : Value} {od an cdd vcd : Option Addr} {sl ccs vcs : Array (Option Value)} {dc pm ct : Value} {vs : Array Value} {file : Str} {tf : Tok}
    (g : PySem.W.nsIn K mainGlobals "TooGreat" = some (some (.ref C))) (nos : PySem.W.nsIn K mainGlobals "super" = some none) (ini : PySem.W.excInitIn K C PySem.PGX.bm3 "Exception.__new__" = true) (ov : PySem.W.excOver K C PySem.PGX.bm3 = true) (hd : PySem.W.hasDictIn K C = true)
    (sup : PySem.W.ks_superIn K C C "__init__" = some (some (.builtin "Exception.__init__"))) (sub : PySem.W.mroIn K C (.ref C) = some true) (subE : PySem.W.subIn K (.ref C) (.type "Exception") = some true) (op : PySem.W.nsIn K cStatics "thirdparty.any" = some none)
    (sa : PySem.W.findIn K (.ref C) "__setattr__" = some (some (.builtin "object.__setattr__"))) (tk : PySem.W.takerIn K C "many" = some none) (nn : PySem.W.findIn K (.ref C) "many" = some none) (iC : PySem.W.findIn K (.ref C) "__init__" = some (some (.ref f))) (fnC : PySem.W.isFn K (.ref f) = true)
    (kC : PySem.W.keepIn K (.ref C) = true) (exC : PySem.W.subIn K (.ref C) (.type "BaseException") = some true) (tyC : PySem.W.typeIn K (.ref C) = some (.type "type")) (sC : PySem.W.subIn K (.ref C) (.ref C) = some true)
    (ga : PySem.W.findIn K (.ref C) "__getattribute__" = some (some (.builtin "BaseException.__getattribute__"))) (gg : PySem.W.findIn K (.ref C) "__getattr__" = some none)
    (l : K.lookup f = some ⟨oc, od, .func (PySem.W.ksFn "__init__" "TooGreat.__init__" (defArgs PySem.PGX.stI) (defBody PySem.PGX.stI) (defScope PySem.PGX.stI) .none .none dc pm an (.ref cda) ct cc), sl⟩) (c : PySem.W.codeIn K (.ref cda) "TooGreat.__init__" = true)
    (lc : K.lookup cda = some ⟨ccl, cdd, .fields vs, ccs⟩) (lv : vs[2]? = some (.str file tf)) (lf : ((P.main.file : Str) == file) = true) (lk : K.lookup cc = some ⟨vcl, vcd, .cell (some (.ref C)), vcs⟩) (tp : (P.main.scope.names.lookup ("super" : Str)).isSome = false) :
    ∃ C f, PySem.PGX.TgTxt P K mg C f :=
  ⟨C, f, { gC := PySem.W.mg_of X G g, noS := PySem.W.mg_none_of X G nos, ini := ini, ov := ov, hd := has_dict hd, sup := sup, sub := sub, subE := subE, op := op, sa := sa, tk := tk, noN := nn, iC := iC, fnC := fnC, kC := kC, exC := exC, tyC := tyC, te := own_exm exC (by obtain ⟨cd, e, _⟩ := has_dict hd; rw [e]; rfl) tyC sC, xf := ⟨ga, gg, exC, hd⟩, fn := ⟨_, _, _, _, _, _, _, _, _, l, c, ⟨_, _, _, _, _, _, lc, lv, lf⟩, _, _, _, lk⟩, top := tp }⟩
end
end PG

set_option Elab.async false
open PySem PySem.W PyProof.Rows
set_option maxRecDepth 100000
set_option maxHeartbeats 0
open_top PG.head for PySem.Challenge.rw_plugproof_k08_whole_great_deeds

set_option Elab.async false
set_option linter.all false
set_option maxRecDepth 100000
open PySem PySem.W PyProof.Rows in
set_option maxRecDepth 100000 in
set_option maxHeartbeats 0 in
theorem PySem.Challenge.cw_plugproof_k08_whole_great_deeds_holds : PySem.Challenge.rw_plugproof_k08_whole_great_deeds.Holds := by
  refine PG.head ?_
  k_fill
  refine L2.walk_ofK (l := PySem.Challenge.rw_plugproof_k08_whole_great_deeds) (n := 63) (k := 9) (x := "_law_script") (CX := L2.CX0) (sp := PG.spLaw) rfl (by decide) rfl ⟨rfl, by decide, by decide⟩ (fun w h Y => PySem.W.kIn_of Y) ?F (fun K H a ns h1 h2 h3 => ⟨a, ns, rfl, h3, h1, fun _ => rfl⟩) (fun _ _ _ _ z => z)
  case F =>
    intro w mg fa h KX G hmg
    obtain ⟨a_is_below, d_is_below, t_is_below⟩ : ∃ f fd, PG.TopF _ mg "is_below" (PG.top 14) f fd ["value", "many"] := by
      refine' PG.topF_mk KX G (fun _ _ _ _ _ _ us hl => match us, hl with | [_, _], _ => rfl) ?a ?l ?c ?k; (case a => k_is); (case l => k_is); (case c => k_is); (case k => k_is)
    obtain ⟨a_is_cells, d_is_cells, t_is_cells⟩ : ∃ f fd, PG.TopF _ mg "is_cells" (PG.top 15) f fd ["value"] := by
      refine' PG.topF_mk KX G (fun _ _ _ _ _ _ us hl => match us, hl with | [_], _ => rfl) ?a ?l ?c ?k; (case a => k_is); (case l => k_is); (case c => k_is); (case k => k_is)
    obtain ⟨a_checked_changes, d_checked_changes, t_checked_changes⟩ : ∃ f fd, PG.TopF _ mg "checked_changes" (PG.top 16) f fd ["plates", "changes"] := by
      refine' PG.topF_mk KX G (fun _ _ _ _ _ _ us hl => match us, hl with | [_, _], _ => rfl) ?a ?l ?c ?k; (case a => k_is); (case l => k_is); (case c => k_is); (case k => k_is)
    obtain ⟨a_versions_of, d_versions_of, t_versions_of⟩ : ∃ f fd, PG.TopF _ mg "versions_of" (PG.top 19) f fd ["settled", "loose", "plate"] := by
      refine' PG.topF_mk KX G (fun _ _ _ _ _ _ us hl => match us, hl with | [_, _, _], _ => rfl) ?a ?l ?c ?k; (case a => k_is); (case l => k_is); (case c => k_is); (case k => k_is)
    obtain ⟨a_after_barrier, d_after_barrier, t_after_barrier⟩ : ∃ f fd, PG.TopF _ mg "after_barrier" (PG.top 20) f fd ["settled", "loose"] := by
      refine' PG.topF_mk KX G (fun _ _ _ _ _ _ us hl => match us, hl with | [_, _], _ => rfl) ?a ?l ?c ?k; (case a => k_is); (case l => k_is); (case c => k_is); (case k => k_is)
    obtain ⟨a_disk_after, d_disk_after, t_disk_after⟩ : ∃ f fd, PG.TopF _ mg "disk_after" (PG.top 22) f fd ["disk", "trace", "moment"] := by
      refine' PG.topF_mk KX G (fun _ _ _ _ _ _ us hl => match us, hl with | [_, _, _], _ => rfl) ?a ?l ?c ?k; (case a => k_is); (case l => k_is); (case c => k_is); (case k => k_is)
    obtain ⟨a_head_plate, d_head_plate, t_head_plate⟩ : ∃ f fd, PG.TopF _ mg "head_plate" (PG.top 25) f fd ["number"] := by
      refine' PG.topF_mk KX G (fun _ _ _ _ _ _ us hl => match us, hl with | [_], _ => rfl) ?a ?l ?c ?k; (case a => k_is); (case l => k_is); (case c => k_is); (case k => k_is)
    obtain ⟨a_is_head, d_is_head, t_is_head⟩ : ∃ f fd, PG.TopF _ mg "is_head" (PG.top 26) f fd ["plate", "value"] := by
      refine' PG.topF_mk KX G (fun _ _ _ _ _ _ us hl => match us, hl with | [_, _], _ => rfl) ?a ?l ?c ?k; (case a => k_is); (case l => k_is); (case c => k_is); (case k => k_is)
    obtain ⟨a_read_head, d_read_head, t_read_head⟩ : ∃ f fd, PG.TopF _ mg "read_head" (PG.top 27) f fd ["disk"] := by
      refine' PG.topF_mk KX G (fun _ _ _ _ _ _ us hl => match us, hl with | [_], _ => rfl) ?a ?l ?c ?k; (case a => k_is); (case l => k_is); (case c => k_is); (case k => k_is)
    obtain ⟨a_slot_plate, d_slot_plate, t_slot_plate⟩ : ∃ f fd, PG.TopF _ mg "slot_plate" (PG.top 30) f fd ["slots", "slot"] := by
      refine' PG.topF_mk KX G (fun _ _ _ _ _ _ us hl => match us, hl with | [_, _], _ => rfl) ?a ?l ?c ?k; (case a => k_is); (case l => k_is); (case c => k_is); (case k => k_is)
    obtain ⟨a_log_rows, d_log_rows, t_log_rows⟩ : ∃ f fd, PG.TopF _ mg "log_rows" (PG.top 31) f fd ["group", "changes"] := by
      refine' PG.topF_mk KX G (fun _ _ _ _ _ _ us hl => match us, hl with | [_, _], _ => rfl) ?a ?l ?c ?k; (case a => k_is); (case l => k_is); (case c => k_is); (case k => k_is)
    obtain ⟨a_is_log_plate, d_is_log_plate, t_is_log_plate⟩ : ∃ f fd, PG.TopF _ mg "is_log_plate" (PG.top 32) f fd ["value"] := by
      refine' PG.topF_mk KX G (fun _ _ _ _ _ _ us hl => match us, hl with | [_], _ => rfl) ?a ?l ?c ?k; (case a => k_is); (case l => k_is); (case c => k_is); (case k => k_is)
    obtain ⟨a_whole_group, d_whole_group, t_whole_group⟩ : ∃ f fd, PG.TopF _ mg "whole_group" (PG.top 33) f fd ["disk", "slots", "slot", "group"] := by
      refine' PG.topF_mk KX G (fun _ _ _ _ _ _ us hl => match us, hl with | [_, _, _, _], _ => rfl) ?a ?l ?c ?k; (case a => k_is); (case l => k_is); (case c => k_is); (case k => k_is)
    obtain ⟨a_read_groups, d_read_groups, t_read_groups⟩ : ∃ f fd, PG.TopF _ mg "read_groups" (PG.top 34) f fd ["disk", "slots", "head"] := by
      refine' PG.topF_mk KX G (fun _ _ _ _ _ _ us hl => match us, hl with | [_, _, _], _ => rfl) ?a ?l ?c ?k; (case a => k_is); (case l => k_is); (case c => k_is); (case k => k_is)
    obtain ⟨a_last_seen, d_last_seen, t_last_seen⟩ : ∃ f fd, PG.TopF _ mg "last_seen" (PG.top 35) f fd ["disk", "slots"] := by
      refine' PG.topF_mk KX G (fun _ _ _ _ _ _ us hl => match us, hl with | [_, _], _ => rfl) ?a ?l ?c ?k; (case a => k_is); (case l => k_is); (case c => k_is); (case k => k_is)
    obtain ⟨a_home_plate, d_home_plate, t_home_plate⟩ : ∃ f fd, PG.TopF _ mg "home_plate" (PG.top 37) f fd ["slots", "plate"] := by
      refine' PG.topF_mk KX G (fun _ _ _ _ _ _ us hl => match us, hl with | [_, _], _ => rfl) ?a ?l ?c ?k; (case a => k_is); (case l => k_is); (case c => k_is); (case k => k_is)
    obtain ⟨a_merged, d_merged, t_merged⟩ : ∃ f fd, PG.TopF _ mg "merged" (PG.top 38) f fd ["groups"] := by
      refine' PG.topF_mk KX G (fun _ _ _ _ _ _ us hl => match us, hl with | [_], _ => rfl) ?a ?l ?c ?k; (case a => k_is); (case l => k_is); (case c => k_is); (case k => k_is)
    obtain ⟨a_read_home, d_read_home, t_read_home⟩ : ∃ f fd, PG.TopF _ mg "read_home" (PG.top 39) f fd ["disk", "plates", "slots", "groups"] := by
      refine' PG.topF_mk KX G (fun _ _ _ _ _ _ us hl => match us, hl with | [_, _, _, _], _ => rfl) ?a ?l ?c ?k; (case a => k_is); (case l => k_is); (case c => k_is); (case k => k_is)
    obtain ⟨a_fresh_store, d_fresh_store, t_fresh_store⟩ : ∃ f fd, PG.TopF _ mg "fresh_store" (PG.top 41) f fd ["plates", "slots", "home"] := by
      refine' PG.topF_mk KX G (fun _ _ _ _ _ _ us hl => match us, hl with | [_, _, _], _ => rfl) ?a ?l ?c ?k; (case a => k_is); (case l => k_is); (case c => k_is); (case k => k_is)
    obtain ⟨a_open_store, d_open_store, t_open_store⟩ : ∃ f fd, PG.TopF _ mg "open_store" (PG.top 42) f fd ["disk", "plates", "slots"] := by
      refine' PG.topF_mk KX G (fun _ _ _ _ _ _ us hl => match us, hl with | [_, _, _], _ => rfl) ?a ?l ?c ?k; (case a => k_is); (case l => k_is); (case c => k_is); (case k => k_is)
    obtain ⟨a_last_barrier, d_last_barrier, t_last_barrier⟩ : ∃ f fd, PG.TopF _ mg "last_barrier" (PG.top 44) f fd ["trace", "moment"] := by
      refine' PG.topF_mk KX G (fun _ _ _ _ _ _ us hl => match us, hl with | [_, _], _ => rfl) ?a ?l ?c ?k; (case a => k_is); (case l => k_is); (case c => k_is); (case k => k_is)
    obtain ⟨a_need_moment, d_need_moment, t_need_moment⟩ : ∃ f fd, PG.TopF _ mg "need_moment" (PG.top 45) f fd ["store", "moment"] := by
      refine' PG.topF_mk KX G (fun _ _ _ _ _ _ us hl => match us, hl with | [_, _], _ => rfl) ?a ?l ?c ?k; (case a => k_is); (case l => k_is); (case c => k_is); (case k => k_is)
    obtain ⟨a_written_groups, d_written_groups, t_written_groups⟩ : ∃ f fd, PG.TopF _ mg "written_groups" (PG.top 46) f fd ["store", "moment"] := by
      refine' PG.topF_mk KX G (fun _ _ _ _ _ _ us hl => match us, hl with | [_, _], _ => rfl) ?a ?l ?c ?k; (case a => k_is); (case l => k_is); (case c => k_is); (case k => k_is)
    obtain ⟨a_settled_groups, d_settled_groups, t_settled_groups⟩ : ∃ f fd, PG.TopF _ mg "settled_groups" (PG.top 47) f fd ["store", "moment"] := by
      refine' PG.topF_mk KX G (fun _ _ _ _ _ _ us hl => match us, hl with | [_, _], _ => rfl) ?a ?l ?c ?k; (case a => k_is); (case l => k_is); (case c => k_is); (case k => k_is)
    obtain ⟨a_deeds_behind, d_deeds_behind, t_deeds_behind⟩ : ∃ f fd, PG.TopF _ mg "deeds_behind" (PG.top 48) f fd ["store", "groups"] := by
      refine' PG.topF_mk KX G (fun _ _ _ _ _ _ us hl => match us, hl with | [_, _], _ => rfl) ?a ?l ?c ?k; (case a => k_is); (case l => k_is); (case c => k_is); (case k => k_is)
    obtain ⟨a_can_open, d_can_open, t_can_open⟩ : ∃ f fd, PG.TopF _ mg "can_open" (PG.top 49) f fd ["store", "moment"] := by
      refine' PG.topF_mk KX G (fun _ _ _ _ _ _ us hl => match us, hl with | [_, _], _ => rfl) ?a ?l ?c ?k; (case a => k_is); (case l => k_is); (case c => k_is); (case k => k_is)
    obtain ⟨a_loose_writes, d_loose_writes, t_loose_writes⟩ : ∃ f fd, PG.TopF _ mg "loose_writes" (PG.top 50) f fd ["store", "moment"] := by
      refine' PG.topF_mk KX G (fun _ _ _ _ _ _ us hl => match us, hl with | [_, _], _ => rfl) ?a ?l ?c ?k; (case a => k_is); (case l => k_is); (case c => k_is); (case k => k_is)
    obtain ⟨a_choice_of, d_choice_of, t_choice_of⟩ : ∃ f fd, PG.TopF _ mg "choice_of" (PG.top 51) f fd ["store", "moment", "groups"] := by
      refine' PG.topF_mk KX G (fun _ _ _ _ _ _ us hl => match us, hl with | [_, _, _], _ => rfl) ?a ?l ?c ?k; (case a => k_is); (case l => k_is); (case c => k_is); (case k => k_is)
    obtain ⟨a_choice_for, d_choice_for, t_choice_for⟩ : ∃ f fd, PG.TopF _ mg "choice_for" (PG.top 52) f fd ["store", "moment", "deeds"] := by
      refine' PG.topF_mk KX G (fun _ _ _ _ _ _ us hl => match us, hl with | [_, _, _], _ => rfl) ?a ?l ?c ?k; (case a => k_is); (case l => k_is); (case c => k_is); (case k => k_is)
    obtain ⟨a_fallen_disk, d_fallen_disk, t_fallen_disk⟩ : ∃ f fd, PG.TopF _ mg "fallen_disk" (PG.top 53) f fd ["store", "moment", "choice"] := by
      refine' PG.topF_mk KX G (fun _ _ _ _ _ _ us hl => match us, hl with | [_, _, _], _ => rfl) ?a ?l ?c ?k; (case a => k_is); (case l => k_is); (case c => k_is); (case k => k_is)
    obtain ⟨a__law_number, d__law_number, t__law_number⟩ : ∃ f fd, PG.TopF _ mg "_law_number" (PG.top 55) f fd ["_law_script", "_law_index"] := by
      refine' PG.topF_mk KX G (fun _ _ _ _ _ _ us hl => match us, hl with | [_, _], _ => rfl) ?a ?l ?c ?k; (case a => k_is); (case l => k_is); (case c => k_is); (case k => k_is)
    obtain ⟨a__law_take, d__law_take, t__law_take⟩ : ∃ f fd, PG.TopF _ mg "_law_take" (PG.top 56) f fd ["_law_draw", "_law_many"] := by
      refine' PG.topF_mk KX G (fun _ _ _ _ _ _ us hl => match us, hl with | [_, _], _ => rfl) ?a ?l ?c ?k; (case a => k_is); (case l => k_is); (case c => k_is); (case k => k_is)
    obtain ⟨a__law_pick, d__law_pick, t__law_pick⟩ : ∃ f fd, PG.TopF _ mg "_law_pick" (PG.top 57) f fd ["_law_draw", "_law_items"] := by
      refine' PG.topF_mk KX G (fun _ _ _ _ _ _ us hl => match us, hl with | [_, _], _ => rfl) ?a ?l ?c ?k; (case a => k_is); (case l => k_is); (case c => k_is); (case k => k_is)
    have e_Disk := by
      refine' PG.mk_Disk KX G ?g ?a0 ?i0 ?l0 ?c0 ?k0 ?pg ?hd ?po ?sa ?mk ?kc ?a1 ?i1 ?l1 ?c1 ?k1 ?a2 ?i2 ?l2 ?c2 ?k2 ?a3 ?i3 ?l3 ?c3 ?k3 ?a6 ?i6 ?l6 ?c6 ?k6 ?a7 ?i7 ?l7 ?c7 ?k7 ?n_settled ?n_loose
      (case g => k_is); (case a0 => k_is); (case i0 => k_is); (case l0 => k_is); (case c0 => k_is); (case k0 => k_is)
      (case pg => k_is); (case hd => k_is); (case po => k_is); (case sa => k_is); (case mk => k_is); (case kc => k_is)
      (case a1 => k_is); (case i1 => k_is); (case l1 => k_is); (case c1 => k_is); (case k1 => k_is); (case a2 => k_is)
      (case i2 => k_is); (case l2 => k_is); (case c2 => k_is); (case k2 => k_is); (case a3 => k_is); (case i3 => k_is)
      (case l3 => k_is); (case c3 => k_is); (case k3 => k_is); (case a6 => k_is); (case i6 => k_is); (case l6 => k_is)
      (case c6 => k_is); (case k6 => k_is); (case a7 => k_is); (case i7 => k_is); (case l7 => k_is); (case c7 => k_is)
      (case k7 => k_is); (case n_settled => k_is); (case n_loose => k_is)
    obtain ⟨c_Disk, a_Disk___init__, d_Disk___init__, a_Disk_write, d_Disk_write, a_Disk_barrier, d_Disk_barrier, a_Disk_now, d_Disk_now, a_Disk_fallen, d_Disk_fallen, a_Disk_chosen, d_Disk_chosen, k_Disk, m_Disk_write, m_Disk_barrier, m_Disk_now, m_Disk_fallen, m_Disk_chosen, n_Disk_settled, n_Disk_loose⟩ := e_Disk
    have e_Store := by
      refine' PG.mk_Store KX G ?g ?a0 ?i0 ?l0 ?c0 ?k0 ?pg ?hd ?po ?sa ?mk ?kc ?a1 ?i1 ?l1 ?c1 ?k1 ?a2 ?i2 ?l2 ?c2 ?k2 ?a4 ?i4 ?l4 ?c4 ?k4 ?a5 ?i5 ?l5 ?c5 ?k5 ?a6 ?i6 ?l6 ?c6 ?k6 ?a7 ?i7 ?l7 ?c7 ?k7 ?a8 ?i8 ?l8 ?c8 ?k8 ?a9 ?i9 ?l9 ?c9 ?k9 ?a10 ?i10 ?l10 ?c10 ?k10 ?a11 ?i11 ?l11 ?c11 ?k11 ?a12 ?i12 ?l12 ?c12 ?k12 ?a13 ?i13 ?l13 ?c13 ?k13 ?n_plates ?n_slots ?n_begin ?n_device ?n_trace ?n_head ?n_groups ?n_cells ?n_next_group ?n_next_slot ?n_running ?n_running_deeds ?n_pushed ?n_deeds ?n_settled_deeds
      (case g => k_is); (case a0 => k_is); (case i0 => k_is); (case l0 => k_is); (case c0 => k_is); (case k0 => k_is)
      (case pg => k_is); (case hd => k_is); (case po => k_is); (case sa => k_is); (case mk => k_is); (case kc => k_is)
      (case a1 => k_is); (case i1 => k_is); (case l1 => k_is); (case c1 => k_is); (case k1 => k_is); (case a2 => k_is)
      (case i2 => k_is); (case l2 => k_is); (case c2 => k_is); (case k2 => k_is); (case a4 => k_is); (case i4 => k_is)
      (case l4 => k_is); (case c4 => k_is); (case k4 => k_is); (case a5 => k_is); (case i5 => k_is); (case l5 => k_is)
      (case c5 => k_is); (case k5 => k_is); (case a6 => k_is); (case i6 => k_is); (case l6 => k_is); (case c6 => k_is)
      (case k6 => k_is); (case a7 => k_is); (case i7 => k_is); (case l7 => k_is); (case c7 => k_is); (case k7 => k_is)
      (case a8 => k_is); (case i8 => k_is); (case l8 => k_is); (case c8 => k_is); (case k8 => k_is); (case a9 => k_is)
      (case i9 => k_is); (case l9 => k_is); (case c9 => k_is); (case k9 => k_is); (case a10 => k_is); (case i10 => k_is)
      (case l10 => k_is); (case c10 => k_is); (case k10 => k_is); (case a11 => k_is); (case i11 => k_is); (case l11 => k_is)
      (case c11 => k_is); (case k11 => k_is); (case a12 => k_is); (case i12 => k_is); (case l12 => k_is); (case c12 => k_is)
      (case k12 => k_is); (case a13 => k_is); (case i13 => k_is); (case l13 => k_is); (case c13 => k_is); (case k13 => k_is)
      (case n_plates => k_is); (case n_slots => k_is); (case n_begin => k_is); (case n_device => k_is); (case n_trace => k_is); (case n_head => k_is)
      (case n_groups => k_is); (case n_cells => k_is); (case n_next_group => k_is); (case n_next_slot => k_is); (case n_running => k_is); (case n_running_deeds => k_is)
      (case n_pushed => k_is); (case n_deeds => k_is); (case n_settled_deeds => k_is)
    obtain ⟨c_Store, a_Store___init__, d_Store___init__, a_Store_disk, d_Store_disk, a_Store_home, d_Store_home, a_Store_write, d_Store_write, a_Store_barrier, d_Store_barrier, a_Store_put, d_Store_put, a_Store_used, d_Store_used, a_Store_push, d_Store_push, a_Store_settle, d_Store_settle, a_Store_sync, d_Store_sync, a_Store_lay, d_Store_lay, a_Store_write_home, d_Store_write_home, a_Store_turn_head, d_Store_turn_head, k_Store, m_Store_disk, m_Store_home, m_Store_write, m_Store_barrier, m_Store_put, m_Store_used, m_Store_push, m_Store_settle, m_Store_sync, m_Store_lay, m_Store_write_home, m_Store_turn_head, n_Store_plates, n_Store_slots, n_Store_begin, n_Store_device, n_Store_trace, n_Store_head, n_Store_groups, n_Store_cells, n_Store_next_group, n_Store_next_slot, n_Store_running, n_Store_running_deeds, n_Store_pushed, n_Store_deeds, n_Store_settled_deeds⟩ := e_Store
    have e_w := by
      refine' PG.mk_whole KX G ?a ?l ?lt ?c ?k; (case a => k_is); (case l => k_is); (case lt => k_is); (case c => k_is); (case k => k_is)
    obtain ⟨a_is_whole, d_is_whole, w_is_whole, w_g⟩ := e_w
    have e_t := by
      refine' PG.mk_tg (P := PySem.Challenge.rw_plugproof_k08_whole_great_deeds.prog) KX G ?g ?nos ?ini ?ov ?hd ?sup ?sub ?subE ?op ?sa ?tk ?nn ?iC ?fnC ?kC ?exC ?tyC ?sC ?ga ?gg ?l ?c ?lc ?lv ?lf ?lk ?tp
      (case g => k_is); (case nos => k_is); (case ini => kx_is); (case ov => kx_is); (case hd => k_is); (case sup => ks_is)
      (case sub => k_is); (case subE => k_is); (case op => k_is); (case sa => k_is); (case tk => k_is); (case nn => k_is)
      (case iC => k_is); (case fnC => k_is); (case kC => k_is); (case exC => k_is); (case tyC => k_is); (case sC => k_is)
      (case ga => k_is); (case gg => k_is); (case l => k_is); (case c => k_is); (case lc => k_is); (case lv => rfl)
      (case lf => first | rfl | decide +kernel); (case lk => k_is); (case tp => first | rfl | decide +kernel)
    obtain ⟨c_tg, a_tg, TG⟩ := e_t
    have v_WIDTH : ∃ t, mg "WIDTH" = some (.int 8 t) := by
      refine' PG.int_mk KX G ?a; (case a => k_is)
    have v_HEADS : ∃ t, mg "HEADS" = some (.int 2 t) := by
      refine' PG.int_mk KX G ?a; (case a => k_is)
    have v_PARTS : ∃ t, mg "PARTS" = some (.int 4 t) := by
      refine' PG.int_mk KX G ?a; (case a => k_is)
    have v_TORN : mg "TORN" = some .none := by
      refine' PG.val_mk KX G ?a; (case a => k_is)
    have z_isinstance : mg "isinstance" = none := by
      refine' PG.none_mk KX G ?a; (case a => k_is)
    have z_int : mg "int" = none := by
      refine' PG.none_mk KX G ?a; (case a => k_is)
    have z_bool : mg "bool" = none := by
      refine' PG.none_mk KX G ?a; (case a => k_is)
    have z_len : mg "len" = none := by
      refine' PG.none_mk KX G ?a; (case a => k_is)
    have z_tuple : mg "tuple" = none := by
      refine' PG.none_mk KX G ?a; (case a => k_is)
    have z_all : mg "all" = none := by
      refine' PG.none_mk KX G ?a; (case a => k_is)
    have z_sorted : mg "sorted" = none := by
      refine' PG.none_mk KX G ?a; (case a => k_is)
    have z_list : mg "list" = none := by
      refine' PG.none_mk KX G ?a; (case a => k_is)
    have z_max : mg "max" = none := by
      refine' PG.none_mk KX G ?a; (case a => k_is)
    have z_min : mg "min" = none := by
      refine' PG.none_mk KX G ?a; (case a => k_is)
    have z_range : mg "range" = none := by
      refine' PG.none_mk KX G ?a; (case a => k_is)
    have z_enumerate : mg "enumerate" = none := by
      refine' PG.none_mk KX G ?a; (case a => k_is)
    have z_sum : mg "sum" = none := by
      refine' PG.none_mk KX G ?a; (case a => k_is)
    have z_set : mg "set" = none := by
      refine' PG.none_mk KX G ?a; (case a => k_is)
    have z_dict : mg "dict" = none := by
      refine' PG.none_mk KX G ?a; (case a => k_is)
    have z_abs : mg "abs" = none := by
      refine' PG.none_mk KX G ?a; (case a => k_is)
    have e_l := by
      refine' PG.mk_law KX G hmg ?a ?l ?c ?k; (case a => k_is); (case l => k_is); (case c => k_is); (case k => k_is)
    obtain ⟨d_law, F_law, b_law⟩ := e_l
    have T : PG.Txt _ mg { a_is_below := a_is_below, d_is_below := d_is_below, a_is_cells := a_is_cells, d_is_cells := d_is_cells, a_checked_changes := a_checked_changes, d_checked_changes := d_checked_changes, a_versions_of := a_versions_of, d_versions_of := d_versions_of, a_after_barrier := a_after_barrier, d_after_barrier := d_after_barrier, a_disk_after := a_disk_after, d_disk_after := d_disk_after, a_head_plate := a_head_plate, d_head_plate := d_head_plate, a_is_head := a_is_head, d_is_head := d_is_head, a_read_head := a_read_head, d_read_head := d_read_head, a_slot_plate := a_slot_plate, d_slot_plate := d_slot_plate, a_log_rows := a_log_rows, d_log_rows := d_log_rows, a_is_log_plate := a_is_log_plate, d_is_log_plate := d_is_log_plate, a_whole_group := a_whole_group, d_whole_group := d_whole_group, a_read_groups := a_read_groups, d_read_groups := d_read_groups, a_last_seen := a_last_seen, d_last_seen := d_last_seen, a_home_plate := a_home_plate, d_home_plate := d_home_plate, a_merged := a_merged, d_merged := d_merged, a_read_home := a_read_home, d_read_home := d_read_home, a_fresh_store := a_fresh_store, d_fresh_store := d_fresh_store, a_open_store := a_open_store, d_open_store := d_open_store, a_last_barrier := a_last_barrier, d_last_barrier := d_last_barrier, a_need_moment := a_need_moment, d_need_moment := d_need_moment, a_written_groups := a_written_groups, d_written_groups := d_written_groups, a_settled_groups := a_settled_groups, d_settled_groups := d_settled_groups, a_deeds_behind := a_deeds_behind, d_deeds_behind := d_deeds_behind, a_can_open := a_can_open, d_can_open := d_can_open, a_loose_writes := a_loose_writes, d_loose_writes := d_loose_writes, a_choice_of := a_choice_of, d_choice_of := d_choice_of, a_choice_for := a_choice_for, d_choice_for := d_choice_for, a_fallen_disk := a_fallen_disk, d_fallen_disk := d_fallen_disk, a__law_number := a__law_number, d__law_number := d__law_number, a__law_take := a__law_take, d__law_take := d__law_take, a__law_pick := a__law_pick, d__law_pick := d__law_pick, c_Disk := c_Disk, a_Disk___init__ := a_Disk___init__, d_Disk___init__ := d_Disk___init__, a_Disk_write := a_Disk_write, d_Disk_write := d_Disk_write, a_Disk_barrier := a_Disk_barrier, d_Disk_barrier := d_Disk_barrier, a_Disk_now := a_Disk_now, d_Disk_now := d_Disk_now, a_Disk_fallen := a_Disk_fallen, d_Disk_fallen := d_Disk_fallen, a_Disk_chosen := a_Disk_chosen, d_Disk_chosen := d_Disk_chosen, c_Store := c_Store, a_Store___init__ := a_Store___init__, d_Store___init__ := d_Store___init__, a_Store_disk := a_Store_disk, d_Store_disk := d_Store_disk, a_Store_home := a_Store_home, d_Store_home := d_Store_home, a_Store_write := a_Store_write, d_Store_write := d_Store_write, a_Store_barrier := a_Store_barrier, d_Store_barrier := d_Store_barrier, a_Store_put := a_Store_put, d_Store_put := d_Store_put, a_Store_used := a_Store_used, d_Store_used := d_Store_used, a_Store_push := a_Store_push, d_Store_push := d_Store_push, a_Store_settle := a_Store_settle, d_Store_settle := d_Store_settle, a_Store_sync := a_Store_sync, d_Store_sync := d_Store_sync, a_Store_lay := a_Store_lay, d_Store_lay := d_Store_lay, a_Store_write_home := a_Store_write_home, d_Store_write_home := d_Store_write_home, a_Store_turn_head := a_Store_turn_head, d_Store_turn_head := d_Store_turn_head, a_is_whole := a_is_whole, d_is_whole := d_is_whole } :=
      { t_is_below := t_is_below, t_is_cells := t_is_cells, t_checked_changes := t_checked_changes, t_versions_of := t_versions_of, t_after_barrier := t_after_barrier, t_disk_after := t_disk_after, t_head_plate := t_head_plate, t_is_head := t_is_head, t_read_head := t_read_head, t_slot_plate := t_slot_plate, t_log_rows := t_log_rows, t_is_log_plate := t_is_log_plate, t_whole_group := t_whole_group, t_read_groups := t_read_groups, t_last_seen := t_last_seen, t_home_plate := t_home_plate, t_merged := t_merged, t_read_home := t_read_home, t_fresh_store := t_fresh_store, t_open_store := t_open_store, t_last_barrier := t_last_barrier, t_need_moment := t_need_moment, t_written_groups := t_written_groups, t_settled_groups := t_settled_groups, t_deeds_behind := t_deeds_behind, t_can_open := t_can_open, t_loose_writes := t_loose_writes, t_choice_of := t_choice_of, t_choice_for := t_choice_for, t_fallen_disk := t_fallen_disk, t__law_number := t__law_number, t__law_take := t__law_take, t__law_pick := t__law_pick, k_Disk := k_Disk, m_Disk_write := m_Disk_write, m_Disk_barrier := m_Disk_barrier, m_Disk_now := m_Disk_now, m_Disk_fallen := m_Disk_fallen, m_Disk_chosen := m_Disk_chosen, n_Disk_settled := n_Disk_settled, n_Disk_loose := n_Disk_loose, k_Store := k_Store, m_Store_disk := m_Store_disk, m_Store_home := m_Store_home, m_Store_write := m_Store_write, m_Store_barrier := m_Store_barrier, m_Store_put := m_Store_put, m_Store_used := m_Store_used, m_Store_push := m_Store_push, m_Store_settle := m_Store_settle, m_Store_sync := m_Store_sync, m_Store_lay := m_Store_lay, m_Store_write_home := m_Store_write_home, m_Store_turn_head := m_Store_turn_head, n_Store_plates := n_Store_plates, n_Store_slots := n_Store_slots, n_Store_begin := n_Store_begin, n_Store_device := n_Store_device, n_Store_trace := n_Store_trace, n_Store_head := n_Store_head, n_Store_groups := n_Store_groups, n_Store_cells := n_Store_cells, n_Store_next_group := n_Store_next_group, n_Store_next_slot := n_Store_next_slot, n_Store_running := n_Store_running, n_Store_running_deeds := n_Store_running_deeds, n_Store_pushed := n_Store_pushed, n_Store_deeds := n_Store_deeds, n_Store_settled_deeds := n_Store_settled_deeds, v_WIDTH := v_WIDTH, v_HEADS := v_HEADS, v_PARTS := v_PARTS, v_TORN := v_TORN, z_isinstance := z_isinstance, z_int := z_int, z_bool := z_bool, z_len := z_len, z_tuple := z_tuple, z_all := z_all, z_sorted := z_sorted, z_list := z_list, z_max := z_max, z_min := z_min, z_range := z_range, z_enumerate := z_enumerate, z_sum := z_sum, z_set := z_set, z_dict := z_dict, z_abs := z_abs, w_is_whole := w_is_whole, w_g := w_g }
    exact ⟨d_law, b_law, fun base _ _ => PG.ok_law T TG F_law⟩
