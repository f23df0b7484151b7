import PyProof.Rows.All
import Wide.All
import OpenK.AllK
import Wide.FinOn
import HandS.ForMost
import PyProof.EqAt
import PyProof.EqKinds
import PyProof.TupleCall
import KE.KExcSuper
import HandS.Exc
import HandS.ExcInit
import HandS.ExcCtx
import HandS.HotCalls
import HandS.ExcInitHot
import HandS.RaiseFrom
import HandS.SuiteRaise
import KE.KExcIs
import HandS.ExcField
import HandS.ExcIs
import HandS.IsInst
import PyProof.StrBlock2
import HandS.ExcOwn
import HandS.StrMore
import HandS.TryOnly
import HandS.WordsExc
import KE.RegKSuper
import KE.RegKIsAll
import KE.RegKTryMore
import PySem.Challenge.RW_lettercourt_k93_values_and_dossiers_read
set_option Elab.async false
set_option linter.all false
set_option maxRecDepth 100000
set_option maxHeartbeats 4000000
/-! The plain law of values and their texts: no program here. -/
namespace K93
open PySem TL

inductive Val where
  | int (i : Int)
  | str (s : Str)
  | tup (l : List Val)

abbrev mk (l : List Nat) : Str := ⟨l.toArray⟩
theorem tl_mk' (l : List Nat) : tl (mk l) = l := rfl
theorem mk_tl' (x : Str) : mk (tl x) = x := mk_tl x

mutual
def txt : Val → List Nat
  | .int i => tl (Str.ofString (toString i))
  | .str s => 34 :: (tl s ++ [34])
  | .tup l => 40 :: (joinL [32] (txts l) ++ [41])
def txts : List Val → List (List Nat)
  | [] => []
  | v :: r => txt v :: txts r
end
mutual
def dep : Val → Nat
  | .int _ => 0
  | .str _ => 0
  | .tup l => deps l + 1
def deps : List Val → Nat
  | [] => 0
  | v :: r => max (dep v) (deps r)
end
theorem txts_map : ∀ l : List Val, txts l = l.map txt
  | [] => rfl
  | v :: r => by rw [txts, txts_map r]; rfl
theorem dep_mem : ∀ {l : List Val} {v : Val}, v ∈ l → dep v ≤ deps l
  | [], _, h => by cases h
  | u :: r, v, h => by
    rw [deps]
    rcases List.mem_cons.mp h with e | h
    · rw [e]; omega
    · have := dep_mem h; omega
theorem deps_le : ∀ {l : List Val} {n : Nat}, (∀ v ∈ l, dep v ≤ n) → deps l ≤ n
  | [], n, _ => by rw [deps]; omega
  | u :: r, n, h => by
    rw [deps]
    have h1 := h u (List.mem_cons_self ..)
    have h2 := deps_le (l := r) (n := n) fun v hv => h v (List.mem_cons_of_mem _ hv)
    omega

/-! ### signs -/
def isDig (c : Nat) : Bool := decide (48 ≤ c) && decide (c ≤ 57)
def okc (c : Nat) : Bool := decide (32 ≤ c) && decide (c ≤ 126)
theorem isDig_iff {c : Nat} : isDig c = true ↔ 48 ≤ c ∧ c ≤ 57 := by unfold isDig; simp
theorem okc_iff {c : Nat} : okc c = true ↔ 32 ≤ c ∧ c ≤ 126 := by unfold okc; simp

/-- how many signs of p stand at the head -/
def run (p : Nat → Bool) : List Nat → Nat
  | [] => 0
  | c :: r => if p c = true then run p r + 1 else 0
theorem run_le (p : Nat → Bool) : ∀ l, run p l ≤ l.length
  | [] => Nat.le_refl _
  | c :: r => by
    unfold run
    have := run_le p r
    split <;> simp <;> omega
theorem run_in {p : Nat → Bool} : ∀ {l : List Nat} {k : Nat}, k < run p l → ∃ c, l[k]? = some c ∧ p c = true
  | [], k, h => by simp [run] at h
  | c :: r, k, h => by
    unfold run at h
    split at h
    · rename_i hc
      cases k with
      | zero => exact ⟨c, rfl, hc⟩
      | succ k => exact run_in (l := r) (k := k) (by omega)
    · omega
theorem run_out {p : Nat → Bool} : ∀ {l : List Nat} {c : Nat}, l[run p l]? = some c → p c = false
  | [], c, h => by simp [run] at h
  | d :: r, c, h => by
    unfold run at h
    split at h
    · exact run_out (l := r) (by simpa using h)
    · rename_i hd
      have e : d = c := by simpa using h
      rw [← e]; exact Bool.eq_false_iff.mpr hd
theorem run_app {p : Nat → Bool} : ∀ {l t : List Nat}, (∀ c ∈ l, p c = true) → (∀ c, t.head? = some c → p c = false) → run p (l ++ t) = l.length
  | [], t, _, h => by
    cases t with
    | nil => rfl
    | cons c t =>
      show run p (c :: t) = 0
      unfold run
      rw [if_neg (by rw [h c rfl]; decide)]
  | c :: l, t, h1, h2 => by
    show run p (c :: (l ++ t)) = _
    unfold run
    rw [if_pos (h1 c (List.mem_cons_self ..)), run_app (fun d hd => h1 d (List.mem_cons_of_mem _ hd)) h2]
    rfl
theorem run_take {p : Nat → Bool} : ∀ {l : List Nat} {k : Nat}, k ≤ run p l → ∀ c ∈ l.take k, p c = true
  | [], k, h, c, hc => by simp at hc
  | d :: r, 0, h, c, hc => by simp at hc
  | d :: r, k + 1, h, c, hc => by
    unfold run at h
    split at h
    · rename_i hd
      rw [List.take_succ_cons] at hc
      rcases List.mem_cons.mp hc with e | hc
      · rw [e]; exact hd
      · exact run_take (l := r) (k := k) (by omega) c hc
    · omega
/-- all n signs -/
theorem run_all {p : Nat → Bool} : ∀ {l : List Nat}, (∀ c ∈ l, p c = true) → run p l = l.length := fun {l} h => by
  have := run_app (p := p) (l := l) (t := []) h (fun c e => by simp at e)
  rw [List.append_nil] at this
  exact this

/-! ### an integer at the head: its length -/
def sgn (l : List Nat) : Nat := if l.head? = some 45 then 1 else 0
def digs (l : List Nat) : Nat := run isDig (l.drop (sgn l))
def numBad (l : List Nat) : Prop := digs l = 0 ∨ 300 < digs l ∨ (l[sgn l]? = some 48 ∧ 1 < sgn l + digs l)
instance (l : List Nat) : Decidable (numBad l) := by unfold numBad; exact inferInstance
def numEnd (l : List Nat) : Option Nat := if numBad l then none else some (sgn l + digs l)
/-- the worth of a text -/
def ival (l : List Nat) : Int := (intText? (mk l)).getD 0
theorem sgn_le (l : List Nat) : sgn l ≤ l.length := by
  unfold sgn
  split
  · rename_i h
    cases l with
    | nil => simp at h
    | cons c r => simp
  · omega
theorem numEnd_le {l : List Nat} {k : Nat} (h : numEnd l = some k) : k ≤ l.length ∧ 0 < k ∧ k ≤ 301 := by
  unfold numEnd at h
  split at h
  · cases h
  · rename_i hb
    injection h with h
    have h1 := run_le isDig (l.drop (sgn l))
    have h2 := sgn_le l
    rw [List.length_drop] at h1
    have h3 : sgn l ≤ 1 := by unfold sgn; split <;> omega
    unfold numBad at hb
    have h4 : digs l ≠ 0 ∧ ¬ 300 < digs l := ⟨fun z => hb (.inl z), fun z => hb (.inr (.inl z))⟩
    have h5 : digs l = run isDig (l.drop (sgn l)) := rfl
    omega
theorem ival_some {l : List Nat} {k : Nat} (h : numEnd l = some k) : intText? (mk (l.take k)) = some (ival (l.take k)) := by
  have hk := numEnd_le h
  have key : ∃ n, intText? (mk (l.take k)) = some n := by
    unfold numEnd at h
    split at h
    · cases h
    · rename_i hb
      injection h with h
      unfold numBad at hb
      have h4 : digs l ≠ 0 ∧ ¬ 300 < digs l := ⟨fun z => hb (.inl z), fun z => hb (.inr (.inl z))⟩
      have hlen : (mk (l.take k)).length ≤ 4300 := by
        rw [len_tl, tl_mk', List.length_take]; omega
      by_cases hm : l.head? = some 45
      · cases l with
        | nil => simp at hm
        | cons c r =>
          have ec : c = 45 := by simpa using hm
          subst ec
          have es : sgn (45 :: r) = 1 := rfl
          have ed : digs (45 :: r) = run isDig r := rfl
          rw [es] at h
          have ek : k = digs (45 :: r) + 1 := by omega
          have et : (45 :: r).take k = 45 :: r.take (digs (45 :: r)) := by rw [ek]; rfl
          rw [et] at hlen ⊢
          refine ⟨_, intText_neg (x := mk (45 :: r.take (digs (45 :: r)))) rfl (fun d hd => ?_) (fun z => ?_) hlen⟩
          · exact isDig_iff.mp (run_take (l := r) (k := digs (45 :: r)) (by rw [ed]; omega) d hd)
          · have := congrArg List.length z
            rw [List.length_take, List.length_nil] at this
            have := run_le isDig r
            omega
      · have es : sgn l = 0 := by unfold sgn; rw [if_neg hm]
        have ed : digs l = run isDig l := by unfold digs; rw [es]; rfl
        have ek : k = digs l := by omega
        rw [ek] at hlen ⊢
        refine ⟨_, intText_digits (x := mk (l.take (digs l))) (fun d hd => ?_) (fun z => ?_) hlen⟩
        · exact isDig_iff.mp (run_take (l := l) (k := digs l) (by rw [ed]; omega) d hd)
        · have q := congrArg List.length (show l.take (digs l) = [] from z)
          rw [List.length_take, List.length_nil] at q
          have := run_le isDig l
          omega
  obtain ⟨n, e⟩ := key
  unfold ival
  rw [e]; rfl

/-! ### a string at the head (its first sign, the quote, taken off): the length of what it holds -/
def nq (c : Nat) : Bool := !decide (c = 34)
def strBad (t : List Nat) : Prop := t.length ≤ run nq t ∨ ¬ ((t.take (run nq t)).all okc = true)
instance (t : List Nat) : Decidable (strBad t) := by unfold strBad; exact inferInstance
def strEnd (t : List Nat) : Option Nat := if strBad t then none else some (run nq t)

/-! ### the reader: one turn -/
inductive Want where
  | val | any | more
  deriving DecidableEq
def push (rows : List (List Val)) (v : Val) : List (List Val) :=
  match rows with
  | r :: up => (r ++ [v]) :: up
  | [] => []
def step (rows : List (List Val)) (w : Want) (c : Nat) (cs : List Nat) : Option (List (List Val) × Want × List Nat) :=
  if w = .more ∧ (rows.length = 1 ∨ ¬ (c = 32 ∨ c = 41)) then none
  else if c = 41 then (if w = .val then none else match rows with | r :: o :: up => some ((o ++ [.tup r]) :: up, .more, cs) | _ => none)
  else if w = .more then some (rows, .val, cs)
  else if c = 40 then (if 60 < rows.length then none else some ([] :: rows, .any, cs))
  else if c = 34 then (match strEnd cs with | none => none | some k => some (push rows (.str (mk (cs.take k))), .more, cs.drop (k + 1)))
  else (match numEnd (c :: cs) with | none => none | some k => some (push rows (.int (ival ((c :: cs).take k))), .more, (c :: cs).drop k))
def final (rows : List (List Val)) (w : Want) : Option Val :=
  match rows with
  | [[v]] => if w = .more then some v else none
  | _ => none
inductive Runs : List (List Val) → Want → List Nat → Option Val → Prop where
  | done {rows : List (List Val)} {w : Want} : Runs rows w [] (final rows w)
  | fail {rows : List (List Val)} {w : Want} {c : Nat} {cs : List Nat} : step rows w c cs = none → Runs rows w (c :: cs) none
  | next {rows rows' : List (List Val)} {w w' : Want} {c : Nat} {cs rest : List Nat} {r : Option Val} : step rows w c cs = some (rows', w', rest) → Runs rows' w' rest r → Runs rows w (c :: cs) r

theorem step_len {rows rows' : List (List Val)} {w w' : Want} {c : Nat} {cs rest : List Nat} (h : step rows w c cs = some (rows', w', rest)) : rest.length ≤ cs.length := by
  unfold step at h
  split at h
  · cases h
  split at h
  · split at h
    · cases h
    · split at h
      · injection h with h; injection h with _ h; injection h with _ h; rw [← h]; exact Nat.le_refl _
      · cases h
  split at h
  · injection h with h; injection h with _ h; injection h with _ h; rw [← h]; exact Nat.le_refl _
  split at h
  · split at h
    · cases h
    · injection h with h; injection h with _ h; injection h with _ h; rw [← h]; exact Nat.le_refl _
  split at h
  · split at h
    · cases h
    · injection h with h; injection h with _ h; injection h with _ h; rw [← h, List.length_drop]; omega
  · split at h
    · cases h
    · rename_i k hk
      have := numEnd_le hk
      injection h with h; injection h with _ h; injection h with _ h; rw [← h, List.length_drop, List.length_cons]
      omega
/-- every text is read, to a value or to none -/
theorem runs_total : ∀ (n : Nat) (rows : List (List Val)) (w : Want) (rest : List Nat), rest.length ≤ n → ∃ r, Runs rows w rest r
  | _, rows, w, [], _ => ⟨_, .done⟩
  | 0, rows, w, c :: cs, h => by simp at h
  | n + 1, rows, w, c :: cs, h => by
    cases e : step rows w c cs with
    | none => exact ⟨none, .fail e⟩
    | some q =>
      obtain ⟨rows', w', rest⟩ := q
      have hl := step_len e
      obtain ⟨r, hr⟩ := runs_total n rows' w' rest (by simp at h; omega)
      exact ⟨r, .next e hr⟩
theorem runs_det {rows : List (List Val)} {w : Want} {l : List Nat} {r r' : Option Val} (h : Runs rows w l r) (h' : Runs rows w l r') : r = r' := by
  induction h with
  | done => cases h'; rfl
  | fail e =>
    cases h' with
    | fail _ => rfl
    | next e' _ => rw [e] at e'; cases e'
  | next e _ ih =>
    cases h' with
    | fail e' => rw [e] at e'; cases e'
    | next e' h2 =>
      rw [e] at e'
      injection e' with e'
      injection e' with e1 e'
      injection e' with e2 e3
      subst e1 e2 e3
      exact ih h2

/-! ### what stands between the turns: the lowest row; the depth of what is held -/
structure Wf (rows : List (List Val)) (w : Want) : Prop where
  ne : rows ≠ []
  one : ∀ b, rows = [b] → if w = .more then ∃ v, b = [v] else b = []
  low : 2 ≤ rows.length → rows[rows.length - 1]? = some []
  any : w = .any → 2 ≤ rows.length
  most : rows.length ≤ 61
  /-- the row at place j from the bottom (0) holds values of depth at most 60 - j -/
  deep : ∀ (i : Nat) (r : List Val), rows[i]? = some r → ∀ v ∈ r, dep v + (rows.length - 1 - i) ≤ 60
theorem wf_init : Wf [[]] .val := by
  refine ⟨by simp, fun b e => ?_, fun h => ?_, fun h => ?_, by simp, fun i r e v hv => ?_⟩
  · cases e; rfl
  · simp at h
  · cases h
  · cases i with
    | zero => simp at e; subst e; cases hv
    | succ i => simp at e
theorem final_some {rows : List (List Val)} {w : Want} {v : Val} (e : final rows w = some v) : rows = [[v]] ∧ w = .more := by
  unfold final at e
  split at e
  · split at e
    · rename_i hw
      injection e with e
      exact ⟨by rw [e], hw⟩
    · cases e
  · cases e
theorem final_deep {rows : List (List Val)} {w : Want} {v : Val} (h : Wf rows w) (e : final rows w = some v) : dep v ≤ 60 := by
  obtain ⟨rfl, _⟩ := final_some e
  have := h.deep 0 [v] rfl v (by simp)
  simpa using this
theorem wf_push {rows : List (List Val)} {w : Want} {v : Val} (h : Wf rows w) (hw : w ≠ .more) (hv : dep v + (rows.length - 1) ≤ 60) : Wf (push rows v) .more := by
  cases rows with
  | nil => exact absurd rfl h.ne
  | cons r up =>
    refine ⟨by simp [push], fun b e => ?_, fun hl => ?_, fun e => by (cases e), by simpa [push] using h.most, fun i q e u hu => ?_⟩
    · have e' : (r ++ [v]) :: up = [b] := e
      injection e' with e1 e2
      subst e2
      have q := h.one r rfl
      rw [if_neg hw] at q
      subst q
      rw [if_pos rfl]
      exact ⟨v, by rw [← e1]; rfl⟩
    · have hl' : 2 ≤ (r :: up).length := hl
      have q := h.low hl'
      show ((r ++ [v]) :: up)[up.length]? = some []
      have q' : (r :: up)[up.length]? = some [] := q
      cases up with
      | nil => simp at hl'
      | cons o up => simpa using q'
    · cases i with
      | zero =>
        have e' : q = r ++ [v] := by simpa [push] using e.symm
        rw [e'] at hu
        rcases List.mem_append.mp hu with hu | hu
        · exact h.deep 0 r rfl u hu
        · rw [List.mem_singleton.mp hu]
          simpa [push] using hv
      | succ i =>
        have e' : (r :: up)[i + 1]? = some q := by simpa [push] using e
        have := h.deep (i + 1) q e' u hu
        simpa [push] using this
theorem wf_step {rows rows' : List (List Val)} {w w' : Want} {c : Nat} {cs rest : List Nat} (h : Wf rows w) (e : step rows w c cs = some (rows', w', rest)) : Wf rows' w' := by
  unfold step at e
  split at e
  · cases e
  rename_i h1
  split at e
  · split at e
    · cases e
    rename_i hc hw
    split at e
    · rename_i r o up
      injection e with e; injection e with e1 e; injection e with e2 _
      subst e1 e2
      refine ⟨by simp, fun b eb => ?_, fun hl => ?_, fun e => by (cases e), ?_, fun i q eq u hu => ?_⟩
      · injection eb with eb1 eb2
        subst eb2
        have q := h.low (by simp)
        have q' : o = [] := by simpa using q
        subst q'
        rw [if_pos rfl]
        exact ⟨_, eb1.symm⟩
      · have q := h.low (by simp)
        have q' : (r :: o :: up)[up.length + 1]? = some [] := q
        show ((o ++ [Val.tup r]) :: up)[up.length]? = some []
        cases up with
        | nil => simp at hl
        | cons p up => simpa using q'
      · have := h.most; simp at this ⊢; omega
      · have dr : deps r + (up.length + 1) ≤ 60 := by
          have hh : ∀ v ∈ r, dep v ≤ 60 - (up.length + 1) := fun v hv => by
            have z := h.deep 0 r rfl v hv
            simp at z; omega
          have z := deps_le hh
          have := h.most
          simp at this; omega
        cases i with
        | zero =>
          have e' : q = o ++ [.tup r] := by simpa using eq.symm
          rw [e'] at hu
          rcases List.mem_append.mp hu with hu | hu
          · have z := h.deep 1 o rfl u hu
            simpa using z
          · rw [List.mem_singleton.mp hu, dep]
            show deps r + 1 + (((o ++ [Val.tup r]) :: up).length - 1 - 0) ≤ 60
            simp; omega
        | succ i =>
          have e' : (r :: o :: up)[i + 2]? = some q := by simpa using eq
          have z := h.deep (i + 2) q e' u hu
          simp at z ⊢; omega
    · cases e
  split at e
  · rename_i hw
    injection e with e; injection e with e1 e; injection e with e2 _
    subst e1 e2
    have hl : rows.length ≠ 1 := fun z => h1 ⟨hw, .inl z⟩
    exact ⟨h.ne, fun b eb => absurd (by rw [eb]; rfl) hl, h.low, fun e => by (cases e), h.most, h.deep⟩
  rename_i hw
  split at e
  · split at e
    · cases e
    rename_i hl
    injection e with e; injection e with e1 e; injection e with e2 _
    subst e1 e2
    refine ⟨by simp, fun b eb => ?_, fun _ => ?_, fun _ => ?_, by simp; omega, fun i q eq u hu => ?_⟩
    · injection eb with _ eb
      exact absurd eb h.ne
    · show ([] :: rows)[rows.length]? = some []
      cases hr : rows with
      | nil => rfl
      | cons r up =>
        rw [← hr]
        have : rows.length = (rows.length - 1) + 1 := by rw [hr]; simp
        rw [this, List.getElem?_cons_succ]
        by_cases h2 : 2 ≤ rows.length
        · exact h.low h2
        · have h3 : up = [] := by
            cases up with
            | nil => rfl
            | cons a b => rw [hr] at h2; simp at h2
          subst h3
          have q := h.one r hr
          rw [if_neg hw] at q
          rw [hr, q]; rfl
    · have := List.length_pos_iff.mpr h.ne
      simp; omega
    · cases i with
      | zero => simp at eq; subst eq; cases hu
      | succ i =>
        have e' : rows[i]? = some q := by simpa using eq
        have z := h.deep i q e' u hu
        simp; omega
  have hp := List.length_pos_iff.mpr h.ne
  have hm := h.most
  split at e
  · split at e
    · cases e
    · injection e with e; injection e with e1 e; injection e with e2 _
      subst e1 e2
      exact wf_push h hw (by rw [dep]; omega)
  · split at e
    · cases e
    · injection e with e; injection e with e1 e; injection e with e2 _
      subst e1 e2
      exact wf_push h hw (by rw [dep]; omega)
theorem runs_deep {rows : List (List Val)} {w : Want} {l : List Nat} {r : Option Val} (h : Runs rows w l r) (hw : Wf rows w) : ∀ v, r = some v → dep v ≤ 60 := by
  induction h with
  | done => exact fun v e => final_deep hw e
  | fail _ => exact fun v e => by cases e
  | next e _ ih => exact ih (wf_step hw e)
end K93

/-! A value's text is read back to that value. -/
namespace K93
open PySem TL

theorem tl_int (i : Int) : tl (Str.ofString (toString i)) = if 0 ≤ i then numL i.natAbs else 45 :: numL i.natAbs := by
  cases i with
  | ofNat m =>
    rw [if_pos (show 0 ≤ Int.ofNat m from Int.natCast_nonneg m)]
    exact tl_num m
  | negSucc m =>
    have e : toString (Int.negSucc m) = "-" ++ Nat.repr (m + 1) := rfl
    rw [if_neg (by omega), tl_ofString, e, String.toList_append, List.map_append, Nat.toList_repr]
    rfl
theorem numL_head {n : Nat} (h : n ≠ 0) : (numL n).head? ≠ some 48 := by
  induction n using Nat.strongRecOn with
  | _ n ih =>
    by_cases h10 : n < 10
    · rw [numL_lt h10]
      simp; omega
    · rw [numL_step (by omega)]
      have q := ih (n / 10) (by omega) (by omega)
      cases e : numL (n / 10) with
      | nil => exact absurd e (numL_ne _)
      | cons c r => rw [e] at q; simpa using q
def NoDig (t : List Nat) : Prop := ∀ c, t.head? = some c → isDig c = false
theorem noDig_cons {c : Nat} {t : List Nat} (h : isDig c = false) : NoDig (c :: t) := fun d hd => by
  have e : c = d := by simpa using hd
  rw [← e]; exact h
theorem noDig_nil : NoDig [] := fun d hd => by simp at hd
theorem dig_all (n : Nat) : ∀ c ∈ numL n, isDig c = true := fun c hc => isDig_iff.mpr (numL_digits n c hc)
theorem head_get {l : List Nat} (h : l.head? ≠ some 48) (t : List Nat) (hne : l ≠ []) : (l ++ t)[0]? ≠ some 48 := by
  cases l with
  | nil => exact absurd rfl hne
  | cons c r => simpa using h
theorem numEnd_int {i : Int} {t : List Nat} (hi : i.natAbs < 10 ^ 300) (ht : NoDig t) : numEnd (tl (Str.ofString (toString i)) ++ t) = some (tl (Str.ofString (toString i))).length := by
  have hl : (numL i.natAbs).length ≤ 300 := numL_len (by decide) hi
  have hp : 0 < (numL i.natAbs).length := List.length_pos_iff.mpr (numL_ne _)
  rw [tl_int]
  by_cases h0 : 0 ≤ i
  · rw [if_pos h0]
    have hs : sgn (numL i.natAbs ++ t) = 0 := by
      unfold sgn
      rw [if_neg]
      intro z
      cases e : numL i.natAbs with
      | nil => exact absurd e (numL_ne _)
      | cons c r =>
        rw [e] at z
        have z' : c = 45 := by simpa using z
        have := numL_digits i.natAbs c (by rw [e]; simp)
        omega
    have hd : digs (numL i.natAbs ++ t) = (numL i.natAbs).length := by
      unfold digs
      rw [hs, List.drop_zero, run_app (dig_all _) ht]
    unfold numEnd
    rw [if_neg, hs, hd, Nat.zero_add]
    unfold numBad
    rw [hs, hd]
    rintro (z | z | ⟨z, z2⟩)
    · omega
    · omega
    · by_cases hz : i.natAbs = 0
      · rw [hz, numL_lt (by decide)] at z2
        simp at z2
      · exact head_get (numL_head hz) t (numL_ne _) z
  · rw [if_neg h0]
    have hs : sgn (45 :: numL i.natAbs ++ t) = 1 := rfl
    have hd : digs (45 :: numL i.natAbs ++ t) = (numL i.natAbs).length := by
      unfold digs
      rw [hs]
      show run isDig (numL i.natAbs ++ t) = _
      rw [run_app (dig_all _) ht]
    unfold numEnd
    rw [if_neg, hs, hd]
    · congr 1
      simp; omega
    unfold numBad
    rw [hs, hd]
    rintro (z | z | ⟨z, z2⟩)
    · omega
    · omega
    · have z' : (numL i.natAbs ++ t)[0]? = some 48 := by simpa using z
      exact head_get (numL_head (by omega)) t (numL_ne _) z'
theorem ival_int {i : Int} (hi : i.natAbs < 10 ^ 300) : ival (tl (Str.ofString (toString i))) = i := by
  have hl : (numL i.natAbs).length ≤ 300 := numL_len (by decide) hi
  have e : intText? (mk (tl (Str.ofString (toString i)))) = some i := by
    by_cases h0 : 0 ≤ i
    · have et : tl (Str.ofString (toString i)) = numL i.natAbs := by rw [tl_int, if_pos h0]
      rw [et, intText_digits (x := mk (numL i.natAbs)) (numL_digits _) (numL_ne _) (by rw [len_tl, tl_mk']; omega)]
      congr 1
      show ((NumText.digitsVal (numL i.natAbs) : Nat) : Int) = i
      rw [numL_val]; omega
    · have et : tl (Str.ofString (toString i)) = 45 :: numL i.natAbs := by rw [tl_int, if_neg h0]
      rw [et, intText_neg (x := mk (45 :: numL i.natAbs)) rfl (numL_digits _) (numL_ne _) (by rw [len_tl, tl_mk', List.length_cons]; omega)]
      congr 1
      rw [numL_val]; omega
  unfold ival
  rw [e]; rfl

/-! ### good values -/
inductive Good : Val → Prop where
  | int {i : Int} : i.natAbs < 10 ^ 300 → Good (.int i)
  | str {s : Str} : (∀ c ∈ tl s, okc c = true ∧ c ≠ 34) → Good (.str s)
  | tup {l : List Val} : (∀ v ∈ l, Good v) → Good (.tup l)
theorem Good.mem {l : List Val} (h : Good (.tup l)) : ∀ v ∈ l, Good v := by
  cases h with
  | tup h => exact h
theorem strEnd_app {s : List Nat} {t : List Nat} (h : ∀ c ∈ s, okc c = true ∧ c ≠ 34) : strEnd (s ++ 34 :: t) = some s.length := by
  have hr : run nq (s ++ 34 :: t) = s.length := run_app (fun c hc => by
      unfold nq
      rw [decide_eq_false (h c hc).2]; rfl) (fun c hc => by
      have e : 34 = c := by simpa using hc
      rw [← e]; rfl)
  unfold strEnd
  rw [if_neg, hr]
  unfold strBad
  rw [hr]
  rintro (z | z)
  · simp at z; omega
  · refine z ?_
    rw [List.take_left' rfl]
    exact List.all_eq_true.mpr fun c hc => (h c hc).1

/-- behind a value's text the value stands in the innermost row -/
theorem runs_list {up : List (List Val)} {tail : List Nat} {r : Option Val} (hup : up ≠ [])
    (P : Val → Prop)
    (hP : ∀ v, P v → ∀ (row : List Val) (w : Want) (t : List Nat), w ≠ .more → NoDig t → Runs ((row ++ [v]) :: up) .more t r → Runs (row :: up) w (txt v ++ t) r) :
    ∀ (l : List Val) (row : List Val) (w : Want), (∀ v ∈ l, P v) → w ≠ .more → Runs ((row ++ l) :: up) (if l = [] then w else .more) (41 :: tail) r → Runs (row :: up) w (joinL [32] (txts l) ++ 41 :: tail) r
  | [], row, w, _, _, h => by
    rw [if_pos rfl, List.append_nil] at h
    exact h
  | [v], row, w, hl, hw, h => by
    rw [if_neg (by simp)] at h
    show Runs (row :: up) w (txt v ++ 41 :: tail) r
    exact hP v (hl v (by simp)) row w _ hw (noDig_cons rfl) h
  | v :: u :: l, row, w, hl, hw, h => by
    rw [if_neg (by simp)] at h
    have e : joinL [32] (txts (v :: u :: l)) ++ 41 :: tail = txt v ++ (32 :: (joinL [32] (txts (u :: l)) ++ 41 :: tail)) := by
      show (txt v ++ ([32] ++ joinL [32] (txts (u :: l)))) ++ 41 :: tail = _
      simp
    rw [e]
    refine hP v (hl v (by simp)) row w _ hw (noDig_cons rfl) ?_
    refine .next (rows' := (row ++ [v]) :: up) (w' := .val) (rest := joinL [32] (txts (u :: l)) ++ 41 :: tail) ?_ ?_
    · unfold step
      rw [if_neg, if_neg (by decide), if_pos rfl]
      rintro ⟨_, z | z⟩
      · have := List.length_pos_iff.mpr hup
        simp at z; exact absurd z hup
      · exact z (.inl rfl)
    · refine runs_list hup P hP (u :: l) (row ++ [v]) .val (fun x hx => hl x (List.mem_cons_of_mem _ hx)) (by decide) ?_
      rw [if_neg (by simp), List.append_assoc]
      exact h
theorem runs_txt : ∀ (n : Nat) (v : Val), dep v ≤ n → Good v → ∀ (rows : List (List Val)) (w : Want) (t : List Nat) (r : Option Val), rows ≠ [] → w ≠ .more → dep v + rows.length ≤ 61 → NoDig t → Runs (push rows v) .more t r → Runs rows w (txt v ++ t) r := by
  intro n
  induction n with
  | zero =>
    intro v hd hg rows w t r hne hw hdep ht h
    cases hg with
    | int hi =>
      rename_i i
      show Runs rows w (tl (Str.ofString (toString i)) ++ t) r
      have e1 := numEnd_int hi ht
      have e2 := ival_int hi
      have e3 : ∃ c cs, tl (Str.ofString (toString i)) = c :: cs ∧ c ≠ 41 ∧ c ≠ 40 ∧ c ≠ 34 := by
        rw [tl_int]
        by_cases h0 : 0 ≤ i
        · rw [if_pos h0]
          cases e : numL i.natAbs with
          | nil => exact absurd e (numL_ne _)
          | cons c cs =>
            have := numL_digits i.natAbs c (by rw [e]; simp)
            exact ⟨c, cs, rfl, by omega, by omega, by omega⟩
        · rw [if_neg h0]
          exact ⟨45, _, rfl, by decide, by decide, by decide⟩
      obtain ⟨c, cs, e, h41, h40, h34⟩ := e3
      rw [e] at e1 e2 ⊢
      show Runs rows w (c :: (cs ++ t)) r
      refine .next (rows' := push rows (.int i)) (w' := .more) (rest := t) ?_ h
      unfold step
      rw [if_neg (fun z => hw z.1), if_neg h41, if_neg hw, if_neg h40, if_neg h34]
      have e1' : numEnd (c :: (cs ++ t)) = some (c :: cs).length := e1
      rw [e1']
      show some (push rows (.int (ival ((c :: cs ++ t).take (c :: cs).length))), Want.more, (c :: cs ++ t).drop (c :: cs).length) = _
      rw [List.take_left' rfl, List.drop_left' rfl, e2]
    | str hs =>
      rename_i s
      show Runs rows w (34 :: (tl s ++ [34]) ++ t) r
      have e : (34 :: (tl s ++ [34]) ++ t : List Nat) = 34 :: (tl s ++ 34 :: t) := by simp
      rw [e]
      refine .next (rows' := push rows (.str s)) (w' := .more) (rest := t) ?_ h
      unfold step
      rw [if_neg (fun z => hw z.1), if_neg (by decide), if_neg hw, if_neg (by decide), if_pos rfl, strEnd_app hs]
      show some (push rows (.str (mk ((tl s ++ 34 :: t).take (tl s).length))), Want.more, (tl s ++ 34 :: t).drop ((tl s).length + 1)) = _
      rw [List.take_left' rfl, mk_tl']
      have : (tl s ++ 34 :: t).drop ((tl s).length + 1) = t := by
        rw [← List.drop_drop, List.drop_left' rfl]; rfl
      rw [this]
    | tup _ => rw [dep] at hd; omega
  | succ n ih =>
    intro v hd hg rows w t r hne hw hdep ht h
    cases v with
    | int i => exact ih (.int i) (by rw [dep]; omega) hg rows w t r hne hw hdep ht h
    | str s => exact ih (.str s) (by rw [dep]; omega) hg rows w t r hne hw hdep ht h
    | tup l =>
      rw [dep] at hd hdep
      have e : txt (.tup l) ++ t = 40 :: (joinL [32] (txts l) ++ 41 :: t) := by
        rw [txt]; simp
      rw [e]
      refine .next (rows' := [] :: rows) (w' := .any) (rest := joinL [32] (txts l) ++ 41 :: t) ?_ ?_
      · unfold step
        rw [if_neg (fun z => hw z.1), if_neg (by decide), if_neg hw, if_pos rfl, if_neg (by omega)]
      · refine runs_list hne (fun v => v ∈ l) (fun v hv row w' t' hw' ht' h' => ?_) l [] .any (fun v hv => hv) (by decide) ?_
        · have := dep_mem hv
          refine ih v (by omega) (hg.mem v hv) (row :: rows) w' t' r (by simp) hw' (by simp; omega) ht' h'
        · rw [List.nil_append]
          have hwn : (if l = [] then Want.any else Want.more) ≠ .val := by split <;> decide
          refine .next (rows' := push rows (.tup l)) (w' := .more) (rest := t) ?_ h
          unfold step
          have hp := List.length_pos_iff.mpr hne
          rw [if_neg, if_pos rfl, if_neg hwn]
          · cases rows with
            | nil => exact absurd rfl hne
            | cons o up => rfl
          · rintro ⟨_, z | z⟩
            · simp at z; exact hne z
            · exact z (.inr rfl)
/-- THE ROUND TRIP -/
theorem runs_back {v : Val} (hg : Good v) (hd : dep v ≤ 60) : Runs [[]] .val (txt v) (some v) := by
  have q := runs_txt (dep v) v (Nat.le_refl _) hg [[]] .val [] (some v) (by simp) (by decide) (by simp; omega) (fun c e => by simp at e) (.done (rows := [[v]]) (w := .more))
  rw [List.append_nil] at q
  exact q

/-! ### too deep a text -/
theorem runs_deep61 : ∀ (k : Nat) (rows : List (List Val)) (w : Want) (t : List Nat), rows ≠ [] → w ≠ .more → 62 ≤ k + rows.length → rows.length ≤ 61 → Runs rows w (List.replicate k 40 ++ t) none
  | 0, rows, w, t, _, _, h, h2 => by omega
  | k + 1, rows, w, t, hne, hw, h, h2 => by
    show Runs rows w (40 :: (List.replicate k 40 ++ t)) none
    by_cases h60 : 60 < rows.length
    · refine .fail ?_
      unfold step
      rw [if_neg (fun z => hw z.1), if_neg (by decide), if_neg hw, if_pos rfl, if_pos h60]
    · refine .next (rows' := [] :: rows) (w' := .any) (rest := List.replicate k 40 ++ t) ?_ (runs_deep61 k _ _ _ (by simp) (by decide) (by simp; omega) (by simp; omega))
      unfold step
      rw [if_neg (fun z => hw z.1), if_neg (by decide), if_neg hw, if_pos rfl, if_neg h60]
/-- n tuples of one part around v -/
def wrap : Nat → Val → Val
  | 0, v => v
  | n + 1, v => .tup [wrap n v]
theorem dep_wrap : ∀ (n : Nat) (v : Val), dep (wrap n v) = n + dep v
  | 0, v => by rw [wrap, Nat.zero_add]
  | n + 1, v => by rw [wrap, dep, deps, deps, dep_wrap n v]; omega
theorem good_wrap {v : Val} (h : Good v) : ∀ n, Good (wrap n v)
  | 0 => h
  | n + 1 => .tup fun u hu => by rw [List.mem_singleton.mp hu]; exact good_wrap h n
theorem rep_snoc (n c : Nat) : List.replicate n c ++ [c] = c :: List.replicate n c := by
  rw [show c :: List.replicate n c = List.replicate (n + 1) c from rfl, List.replicate_succ']
theorem txt_wrap : ∀ (n : Nat) (v : Val), txt (wrap n v) = List.replicate n 40 ++ (txt v ++ List.replicate n 41)
  | 0, v => by rw [wrap]; simp
  | n + 1, v => by
    rw [wrap, txt]
    show 40 :: (txt (wrap n v) ++ [41]) = 40 :: (List.replicate n 40 ++ (txt v ++ List.replicate (n + 1) 41))
    rw [txt_wrap n v, List.replicate_succ' (n := n)]
    simp

/-! ### lengths -/
theorem len_int {i : Int} (hi : i.natAbs < 10 ^ 300) : (tl (Str.ofString (toString i))).length ≤ 301 := by
  have hl : (numL i.natAbs).length ≤ 300 := numL_len (by decide) hi
  rw [tl_int]
  split
  · omega
  · simp; omega
theorem joinL_len (S : List Nat) : ∀ (l : List (List Nat)) (n : Nat), (∀ x ∈ l, x.length ≤ n) → (joinL S l).length ≤ l.length * (n + S.length)
  | [], n, _ => Nat.zero_le _
  | [x], n, h => by
    show x.length ≤ _
    have := h x (by simp)
    simp; omega
  | x :: y :: r, n, h => by
    show (x ++ (S ++ joinL S (y :: r))).length ≤ _
    have h1 := h x (by simp)
    have h2 := joinL_len S (y :: r) n fun z hz => h z (List.mem_cons_of_mem _ hz)
    rw [List.length_append, List.length_append, List.length_cons (a := x), Nat.succ_mul]
    omega
end K93

/-! An own exception whose __init__ says super().__init__(text); self.at = at: made. -/
namespace PySem
namespace BtX
open PySem.W PySem.Calls PyProof.Rows PySem.HandSPX
/-! ### the text of __init__ -/
def top (i : Nat) : Stmt := PySem.Challenge.pw_lettercourt_k93_values_and_dossiers_read.main.body.getD i (.Pass ⟨0, 0, 0, 0⟩)
abbrev sBt : Stmt := L2.inClass (top 2) 0
def bB : List Stmt :=
  [.Expr (.Call (.Attribute (.Call (.Name "super" ⟨7, 8, 7, 13⟩) [] [] ⟨7, 8, 7, 15⟩) "__init__" ⟨7, 8, 7, 24⟩) [.Constant (.str "the text cannot be read here") 0 ⟨7, 25, 7, 55⟩] [] ⟨7, 8, 7, 56⟩) ⟨7, 8, 7, 56⟩,
    .Assign [.Attribute (.Name "self" ⟨8, 8, 8, 12⟩) "at" ⟨8, 8, 8, 15⟩] (.Name "at" ⟨8, 18, 8, 20⟩) ⟨8, 8, 8, 20⟩]
theorem bB_is : L2.defBody sBt = bB := rfl
structure BSc (sc : Scope) : Prop where
  su : sc.names.lookup ("super" : Str) = some .globalImplicit
  cl : sc.names.lookup ("__class__" : Str) = some .free
  se : sc.names.lookup ("self" : Str) = some .local
  at_ : sc.names.lookup ("at" : Str) = some .local
  cell : ∀ x ∈ sc.names, x.2 ≠ .cell
  co : sc.isCoroutine = false
  gen : sc.isGenerator = false
  kind : sc.kind = .function
/-- what the written part says of the class at C and of its __init__ at fI -/
structure BtTxt (prog : Program) (K : Frag) (mg : Str → Option Value) (C fI : Addr) (fd : FuncData) : Prop where
  cls : ∃ nm q N bs bm sn sub ab col dd k0 k1 k2 k3 k5, K.lookup C = some (excClassObj nm q C N bs bm true sn sub ab col dd k0 k1 k2 k3 k5 "ValueError.__new__") ∧ refsVE bm = true
  sa : findIn K (.ref C) "__setattr__" = some (some (.builtin "object.__setattr__"))
  noN : findIn K (.ref C) "at" = some none
  su : ks_superIn K C C "__init__" = some (some (.builtin "ValueError.__init__"))
  hB : subIn K (.ref C) (.type "ValueError") = some true
  opq : nsIn K cStatics "thirdparty.any" = some none
  hsub : mroIn K C (.ref C) = some true
  msup : mg "super" = none
  top : (prog.main.scope.names.lookup ("super" : Str)).isSome = false
  fn : ∃ (oc : Value) (od : Option Addr) (qual : Str) (dV kV doc pm ct : Value) (an : Option Addr) (cda cc : Addr) (osl : Array (Option Value))
      (ccl : Value) (cdd : Option Addr) (vs : Array Value) (ccs : Array (Option Value)) (file : Str) (tf : Tok) (cl : Value) (cld : Option Addr) (csl : Array (Option Value)),
    fd = ksFn "__init__" qual (L2.defArgs sBt) bB (L2.defScope sBt) dV kV doc pm an (.ref cda) ct cc ∧ K.lookup fI = some ⟨oc, od, .func fd, osl⟩ ∧ codeIn K (.ref cda) qual = true ∧
    K.lookup cda = some ⟨ccl, cdd, .fields vs, ccs⟩ ∧ vs[2]? = some (.str file tf) ∧ ((prog.main.file : Str) == file) = true ∧
    K.lookup cc = some ⟨cl, cld, .cell (some (.ref C)), csl⟩
/-- what __init__ leaves of a fresh exception at x -/
structure InitEnd (h h' : Heap) (x C dx t1 : Addr) (v : Value) : Prop where
  keep : ∀ b o, b ≠ x → h.get? b = some o → h'.get? b = some o
  obj : h'.get? x = some { cls := .ref C, dict := some dx, data := .fields #[.ref t1, .none, .none, .none, .bool false, .none] }
  dbig : h.objs.size ≤ dx
  dne : dx ≠ x
  ns : h'.Ns1 dx (fun y => if y = "at" then some v else none)
section
variable {prog : Program} {w : World} {A : Around} {E : Value → Shared → Prop} {h : Heap} {g : Array GenState} {d : Drawn} {t : Nat} {os : OsState}
variable {nm q : Str} {C N : Addr} {bs bm : List Value} {hdct : Bool} {sn : List Str} {sub : List Value} {ab : Bool} {col : Option Bool} {dd : Option Addr} {k0 k1 k2 k3 k5 : Option Value}
theorem call_mw {u e t0 : Addr} {rest : List Value} {Q : Value → Shared → Prop}
    (hC : h.get? C = some (excClassObj nm q C N bs bm hdct sn sub ab col dd k0 k1 k2 k3 k5 "ValueError.__new__")) (he : h.get? e = some (excO C t0)) (hu : h.get? u = some (kxs_mw "ValueError.__init__" e)) (hrest : rest.length ≤ sizeLine)
    (hq : ∀ h' t1, (∀ b o, b ≠ e → h.get? b = some o → h'.get? b = some o) → h'.get? e = some (excO C t1) → Q .none ⟨h', g, d, t, os⟩) :
    wpAny (model prog w) A (call (.ref u) rest) Q E ⟨h, g, d, t, os⟩ := by
  refine wpAny_call (codeAny_of_tree ?_)
  show wpAny _ A.in1 (callAny (.ref u) ⟨rest, []⟩) _ _ _
  simp only [callAny]
  refine wpAny_bind (wpAny_load hu ?_)
  simp only [kxs_mw, show (Value.type "method-wrapper" == Value.type "method" || Value.type "method-wrapper" == Value.type "builtin_function_or_method" || Value.type "method-wrapper" == Value.type "method-wrapper") = true by decide, if_true]
  refine W.KFB.if_so (by decide) ?_
  refine wpAny_bind (check_bound_init F.excBase_ValueError.toExcCallFacts hC he rfl ?_)
  refine wpAny_bind (wpAny_pure (wpAny_pure ?_))
  refine ⟨Code.quiet_builtin _ (by decide +kernel), codeAny_builtin F.excBase_ValueError.initEntry ?_⟩
  rw [Around.under_plainId F.excBase_ValueError.init.plain _]
  wp_walk
  refine hq _ h.objs.size (fun b o hb ho => ?_) ?_
  · rw [Heap.get?_update_other _ _ (Ne.symm hb)]
    exact Heap.get?_push_of_some _ ho
  · rw [Heap.get?_update_self _ (Heap.get?_push_of_some _ he) rfl]
    rfl
end
section
variable {prog : Program} {w : World} {A : Around} {R : Result → Shared → Prop} {s : Shared} {K : Frag} {mg : Str → Option Value} {C fI : Addr} {fd : FuncData}
theorem bsc : BSc (L2.defScope sBt) := ⟨rfl, rfl, rfl, rfl, by decide +kernel, rfl, rfl, rfl⟩
theorem bt_init (T : BtTxt prog K mg C fI fd) {x t0 : Addr} {v : Value} {args : Args} (hbind : BindsTo s fd args [("self", .ref x), ("at", v)]) (X : K.In s.heap) (hg : s.heap.Ns mainGlobals mg) (hbt : ∃ mb, s.heap.Ns builtinsNs mb ∧ ∀ x : Str, x ≠ "__name__" → mb x = bootBuiltins x) (hlim : s.heap.NoLimit)
    (hx : s.heap.get? x = some (excO C t0)) (hnx : K.lookup x = none) (hroom : A.depth < recursionLimit)
    (hq : ∀ h' tk dx t1, InitEnd s.heap h' x C dx t1 v → R (.ok (.ret .none)) { s with heap := h', toks := tk }) :
    codeAny (model prog w) A (.call (.ref fI) args) R s := by
  obtain ⟨oc, od, qual, dV, kV, doc, pm, ct, an, cda, cc, osl, ccl, cdd, vs, ccs, file, tf, cl, cld, csl, rfl, ho, hcd, hcode, hvs, hfile, hcell⟩ := T.fn
  have S := bsc
  obtain ⟨nm, q, N, bs, bm, sn, sub, ab, col, dd, k0, k1, k2, k3, k5, hC, hbm⟩ := T.cls
  have hcl : clsIn K C = some { name := nm, bases := bs, mro := .ref C :: bm, ns := N, qualname := q, hasDict := true, slotNames := sn, subclasses := sub, abstract := ab, collection := col, hasDel := false } := by unfold clsIn; rw [hC] <;> rfl
  obtain ⟨hp0, g, d, tk, os⟩ := s
  refine ks_codeAny_call_defAt (fd := ksFn "__init__" qual (L2.defArgs sBt) bB (L2.defScope sBt) dV kV doc pm an (.ref cda) ct cc) (body := bB) (binds := [("self", .ref x), ("at", v)])
    hroom (X _ _ ho) rfl hlim (codeRec_of X hcd) rfl hbind S.cell (fun y hy => ?_) (fun h₁ hns hk => ?_) S.co S.gen S.kind
  · rcases List.mem_cons.mp hy with e | hy
    · rw [e]; exact S.se
    · rw [List.mem_singleton.mp hy]; exact S.at_
  have X₁ : K.In h₁ := X.keeps hk
  have hx₁ : h₁.get? x = some (excO C t0) := hk _ _ hx
  have hxL : hp0.objs.size ≠ x := Nat.ne_of_gt (Heap.lt_size hx)
  obtain ⟨mb, hb1, hb2⟩ := hbt
  show _root_.PySem.wpAt _ _ _ (execs (bB) (ksEnv qual (L2.defScope sBt) hp0.objs.size fI (.ref cda) cc)) _ _ _
  unfold bB
  -- super().__init__(msg)
  refine ks_wpAt_execs_cons (ks_wpAt_Expr_any (ks_wpAt_MethodCall ?_) (by simp [interactive, S.kind]) ?_)
  · refine ks_wpAt_super_base (env := ksEnv qual (L2.defScope sBt) hp0.objs.size fI (.ref cda) cc) S.su S.cl (by decide) rfl (X₁ _ _ ho) rfl (show _ = some _ from rfl) rfl (X₁ _ _ hcode) rfl hvs hfile T.top ?_
    refine ks_loadName_global S.kind S.su (loadGlobal_builtin (env := ksEnv qual (L2.defScope sBt) hp0.objs.size fI (.ref cda) cc) (hg.keeps hk) T.msup (hb1.keeps hk) ((hb2 _ (by decide)).trans (by first | boot_by_name | rfl | kernel_rfl)) ⟨rfl, ?_⟩)
    refine wpAny_loadName_free S.kind S.cl rfl ⟨_, X₁ _ _ hcell, rfl⟩ ?_
    refine wpAny_loadName_local (v := .ref x) S.kind S.se hns (by rfl) ?_
    refine ks_wpAny_isType_cls (X₁ _ _ hC) rfl ⟨rfl, ?_⟩
    refine ks_wpAny_call_super (X₁ _ _ hC) rfl hx₁ rfl (fun c e => by cases e) (looks_mroIn X₁ T.hsub) (fun h₂ e2 k2 => ?_)
    have X₂ : K.In h₂ := X₁.keeps k2
    have hx₂ : h₂.get? x = some (excO C t0) := k2 _ _ hx₁
    have I2 : InstAt h₂ x (excO C t0) C none := ⟨hx₂, rfl, rfl, trivial⟩
    have hI : Looks (model prog w) h₂ (isInstance (.ref x) (.type "ValueError")) true := I2.type.andThen (looks_subIn X₂ T.hB)
    have hsu := T.su
    unfold ks_superIn at hsu
    rw [hcl] at hsu
    refine kxs_getMethod kxs_ValueError e2 (looks_opaque X₂ T.opq) (l₀ := .ref C :: bm) (fun A Q E s k q => wpAny_bind ((looks_clsIn X₂ hcl) A _ E s k (wpAny_pure q))) rfl X₂ hsu hI (ks_ne X₂ I2 hcl) (by decide) ?_
    -- its call
    have hu : (h₂.push (kxs_mw "ValueError.__init__" x)).get? h₂.objs.size = some (kxs_mw "ValueError.__init__" x) := Heap.get?_push_at rfl rfl
    have k3' : ∀ b o, h₂.get? b = some o → (h₂.push (kxs_mw "ValueError.__init__" x)).get? b = some o := fun b o e => Heap.get?_push_of_some _ e
    refine kxs_callWith (i := "ValueError.__init__") (x := x) (by rfl) (evalArgs_plain ?_)
    show wpAny _ _ (spliced ((false, eval (.Constant (.str "the text cannot be read here") 0 ⟨7, 25, 7, 55⟩) _) :: _)) _ _ _
    refine Calls.spliced_cons (Calls.Constant_str ?_)
    refine Calls.spliced_nil ⟨hu, ?_⟩
    refine call_mw (X₂.keeps k3' _ _ hC) (k3' _ _ hx₂) hu (by rw [sizeLine_eq]; exact (by decide : 1 ≤ 16777216)) fun h₄ t1 k4 hx4 => ?_
    have kk : ∀ b o, b ≠ x → h₁.get? b = some o → h₄.get? b = some o := fun b o hb e => k4 b o hb (k3' _ _ (k2 _ _ e))
    have nKx : ∀ b o, K.lookup b = some o → b ≠ x := fun b o e z => by rw [z, hnx] at e; cases e
    have X₄ : K.In h₄ := fun b o e => kk b o (nKx b o e) (X₁ _ _ e)
    have hns4 : h₄.Ns hp0.objs.size (fun y => ([("self", Value.ref x), ("at", v)] : List (Str × Value)).reverse.lookup y) := hns.at fun o e => kk _ o hxL e
    -- self.at = at
    show _root_.PySem.wpAt _ _ _ (execs [.Assign [.Attribute (.Name "self" ⟨8, 8, 8, 12⟩) "at" ⟨8, 8, 8, 15⟩] (.Name "at" ⟨8, 18, 8, 20⟩) ⟨8, 8, 8, 20⟩] (ksEnv qual (L2.defScope sBt) hp0.objs.size fI (.ref cda) cc)) _ _ _
    refine ks_wpAt_execs_cons (ks_wpAt_Assign_Attr (_root_.PySem.wpAt_of_wpAny ?_))
    refine wpAny_Name (wpAny_loadName_local (v := v) S.kind S.at_ hns4 (by rfl) ?_) (by decide)
    refine wpAny_Name (wpAny_loadName_local (v := .ref x) S.kind S.se hns4 (by rfl) ?_) (by decide)
    refine set_plain X₄ (ox := excO C t1) (od := none) ⟨hx4, rfl, rfl, trivial⟩ T.sa ?_
    refine exc_osa X₄ hx4 hcl (show refsVE (.ref C :: bm) = true from hbm) rfl T.noN (fun h₅ tk₅ dx k₅ dn dne hx₅ hn₅ => ?_)
    refine _root_.PySem.wpAt_of_wpAny (wpAny_execs_nil (hq h₅ tk₅ dx t1 ⟨fun b o hb e => k₅ b o hb (kk b o hb (hk b o e)), hx₅, ?_, dne, hn₅⟩))
    exact Nat.le_trans (Nat.le_of_lt hns4.lt) dn
  · rfl
end
end BtX
end PySem

namespace L2
open PySem PySem.Spec PyProof.Rows
/-- self.at = v on the exception that is being made -/
def spBt : Sp := fun vs H Q _ => ∃ (a C : Addr) (v : V), vs = [.ref a, v] ∧ H a = some (exo a C none) ∧ ∀ dx, H dx = none → dx ≠ a → Q .non (upd (upd H dx (exd dx [("at", v)])) a (exo a C (some dx)))
def spBtC (C : Addr) : Sp := fun vs H Q _ => ∃ (a : Addr) (v : V), vs = [.ref a, v] ∧ H a = some (exo a C none) ∧ ∀ dx, H dx = none → dx ≠ a → Q .non (upd (upd H dx (exd dx [("at", v)])) a (exo a C (some dx)))
section
variable {P : Program} {w : World} {K : PySem.W.Frag} {mg : Str → Option Value} {base : Heap} {C fI : Addr} {fd : FuncData} {CX : CXT}
theorem bt_run (T : PySem.BtX.BtTxt P K mg C fI fd) {A : Around} {outer : List Env} {s : Shared} {H : Hp} {args : Args} {us : List Value} {vs : List V} {Q : VK} {E : XK} (hd : A.depth < recursionLimit) (e0 : Env0 P w K mg base A outer s H)
    (hb : BindsTo s fd args ((["self", "at"] : List Str).zip us)) (r : Vals vs us) (h : spBtC C vs H Q E) : codeAny (model P w) A (.call (.ref fI) args) (CR CX outer P w H s Q E) s := by
  obtain ⟨a, v, rfl, ea, q⟩ := h
  cases r with
  | cons ra rr =>
    cases rr with
    | cons rv rr =>
      cases rr
      rename_i u0 u1
      obtain rfl : u0 = Value.ref a := ra
      have kb : ∀ b o, base.get? b = some o → s.heap.get? b = some o := fun b o e => (e0.bs b o e).1
      obtain ⟨mb, hb1, hb2⟩ := e0.mod.blt
      obtain ⟨t1, ho⟩ := exo_at e0.hok ea
      have hnx : K.lookup a = none := by
        cases e : K.lookup a with
        | none => rfl
        | some o =>
          have z := (e0.bs a o (e0.mod.kin a o e)).2
          rw [ea] at z; cases z
      refine PySem.BtX.bt_init T hb (e0.mod.kin.keeps kb) (e0.mod.glob.keeps kb) ⟨mb, hb1.keeps kb, hb2⟩ (e0.mod.nolimit.keeps kb) ho hnx hd fun h' tk dx t2 M => ?_
      obtain ⟨k, hx, dn, dne, hn⟩ := M
      have hnd : H dx = none := e0.hok.fresh dn
      have nd : ∀ {b : Addr} {o : Obj}, s.heap.get? b = some o → b ≠ dx := fun {b o} q => Nat.ne_of_lt (Nat.lt_of_lt_of_le (Heap.lt_size q) dn)
      have na : ∀ {b : Addr}, H b = none → b ≠ a := fun {b} n z => by
        rw [z, ea] at n
        cases n
      refine ⟨.non, _, rfl, e0.bare, {
        keep := fun b o q n _ _ => k b o (na n) q
        slot := fun b o q n _ _ => ⟨o.slots, k b o (na n) q⟩
        free := fun b o q n _ => by rw [upd_ne (na n), upd_ne (nd q)]; exact n
        there := fun b o q _ => by
          by_cases hb : b = a
          · exact ⟨_, by rw [hb]; exact hx⟩
          · exact ⟨o, k b o hb q⟩
        tups := fun b xs q => by rw [upd_ne (at_ne ea q exo_tup), upd_ne (ne_of_none q hnd)]; exact q
        frzs := fun b o v q => by rw [upd_ne (at_ne ea q exo_frz), upd_ne (ne_of_none q hnd)]; exact q
        tbls := fun b ps q => ⟨#[], by rw [upd_ne (at_ne ea q exo_tbl), upd_ne (ne_of_none q hnd), q]; simp⟩ }, fun b o q => ?_, rfl, q dx hnd dne⟩
      by_cases hb : b = a
      · subst hb
        rw [upd_same] at q
        cases q
        exact exo_ok hx
      · rw [upd_ne hb] at q
        by_cases hd : b = dx
        · subst hd
          rw [upd_same] at q
          cases q
          exact exd_ok hn (relO_put (fs := []) rv fun g => True.intro)
        · rw [upd_ne hd] at q
          exact (e0.hok b o q).stay (fun c v hc z => k c v (by
              rcases hc with hc | hc
              · rw [hc]
                exact hb
              · exact at_ne ea hc exo_own) z)
            (fun c hc => by rw [upd_ne (at_ne ea hc exo_own), upd_ne (ne_of_none hc hnd)]; exact hc) (fun c xs hc => by rw [upd_ne (at_ne ea hc exo_tup), upd_ne (ne_of_none hc hnd)]; exact hc)
theorem bt_len {vs : List V} {H : Hp} {Q : VK} {E : XK} (h : spBtC C vs H Q E) : vs.length = (["self", "at"] : List Str).length := by
  obtain ⟨a, v, rfl, _⟩ := h
  rfl
theorem bt_ok (T : PySem.BtX.BtTxt P K mg C fI fd) {k : Nat} : FnOk P w K mg base CX k fI fd ["self", "at"] (spBtC C) :=
  ⟨fun vs H Q E h => bt_len h, fun A outer s H args us vs Q E hr e0 hb r h => bt_run T hr.depth e0 hb r h⟩
theorem bt_okH (T : PySem.BtX.BtTxt P K mg C fI fd) {k : Nat} : L2H.FnH P w K mg base CX k fI fd ["self", "at"] (spBtC C) :=
  ⟨fun vs H Q E h => bt_len h, fun A outer s H args us vs Q E p hr hot hp e0 hb r h => bt_run T hr.depth e0 hb r h⟩
end
end L2

/-! Exceptions whose context is None, or an exception whose context is None that stands in the ground: the case «raise .. from None in an except suite». -/
namespace Qx
open PySem PySem.Spec PyProof.Rows L2
abbrev Sig := L2.St
/-- the context of the exception's record -/
def Ctx (B : Heap) (H : Hp) (o : Obj) : Prop := ∀ vs, o.data = .fields vs → vs[2]? = some .none ∨
  ∃ (x2 : Addr) (o2 : Obj) (vs2 : Array Value), vs[2]? = some (.ref x2) ∧ B.get? x2 = some o2 ∧ H x2 = none ∧ o2.data = .fields vs2 ∧ vs2[2]? = some .none
def Zq (B : Heap) (H : Hp) (cls : Value) (d : Option Addr) : Obj → Prop := fun o => o.cls = cls ∧ o.dict = d ∧ Ctx B H o
theorem two_of_one {vs : Array Value} {v : Value} : (vs.setIfInBounds 1 v)[2]? = vs[2]? := by simp [Array.getElem?_setIfInBounds]
theorem Zq.steady {B : Heap} {H : Hp} {cls : Value} {d : Option Addr} : PXN.Steady1 (Zq B H cls d) := fun o v h => by
  obtain ⟨h1, h2, h3⟩ := h
  refine ⟨PXN.steady_cls o v h1, PXN.steady_dict o v h2, ?_⟩
  obtain ⟨c, dd, dt, sl⟩ := o
  cases dt with
  | fields vs0 =>
    intro vs e
    have e2 : vs0.setIfInBounds 1 v = vs := Data.fields.inj e
    rw [← e2, two_of_one]
    exact h3 vs0 rfl
  | _ =>
    intro vs e
    first
    | exact Data.noConfusion e
    | cases e
theorem Zq.zc {B : Heap} {H : Hp} {cls : Value} {d : Option Addr} {o : Obj} (h : Zq B H cls d o) : Zc cls d o := ⟨h.1, h.2.1⟩
theorem Zq.of_n {B : Heap} {H : Hp} {cls : Value} {d : Option Addr} {o : Obj} (h : L2N.Zn cls d o) : Zq B H cls d o := ⟨h.1, h.2.1, fun vs e => .inl (h.2.2 vs e)⟩
/-- in the air of X -/
def Air (X : Cx) (W : WX) (u : Value) (s' : Shared) : Prop :=
  ∃ (a : Addr) (B : Heap) (sI : Shared) (pins : List (Addr × Obj)) (σ : Sig) (H : Hp) (cls : Value) (d : Option Addr),
    u = .ref a ∧ Inv X pins σ H sI ∧ (∀ b o, sI.heap.get? b = some o → b ∉ frs X.stack → B.get? b = some o) ∧ sI.heap.UpToSlots s'.heap ∧
      Sky B X.stack a (Zq B H cls d) X.env.locals s'.heap ∧ H a = none ∧ s'.os = sI.os ∧ AllBare s'.gens ∧ W cls d σ H
def Takes (X : Cx) (W : WX) : Prop := ∀ u s', Air X W u s' → X.xe u s'
/-- out of a call -/
def CX (P : Program) (w : World) (outer : List Env) (H : Hp) (s : Shared) (E : XK) (u : Value) (s' : Shared) : Prop :=
  ∃ (a : Addr) (B : Heap) (H' : Hp) (cls : Value) (d : Option Addr), u = .ref a ∧ HandSPX.FlyingZ B outer a (Zq B H' cls d) s'.heap ∧ HOk P w H' B ∧ UB (frs outer) H H' s.heap B s'.heap ∧ H' a = none ∧ s'.os = s.os ∧ AllBare s'.gens ∧ E cls d H'
theorem traced_imp {h B : Heap} {a : Addr} {Z Z' : Obj → Prop} {fl : Value} (z : ∀ o, Z o → Z' o) (x : HandSPX.TracedZ h B a Z fl) : HandSPX.TracedZ h B a Z' fl := by
  obtain ⟨oe, vs, T, oT, ts, he, hz, r⟩ := x
  exact ⟨oe, vs, T, oT, ts, he, z _ hz, r⟩
theorem flying_imp {h B : Heap} {l : List Env} {a : Addr} {Z Z' : Obj → Prop} (z : ∀ o, Z o → Z' o) (x : HandSPX.FlyingZ B l a Z h) : HandSPX.FlyingZ B l a Z' h := ⟨x.1, x.2.1, x.2.2.1, traced_imp z x.2.2.2⟩
theorem held_imp {h B : Heap} {l : List Env} {a L : Addr} {Z Z' : Obj → Prop} (z : ∀ o, Z o → Z' o) (x : HandSPX.HeldZ B l a Z L h) : HandSPX.HeldZ B l a Z' L h := ⟨x.1, x.2.1, x.2.2.1, traced_imp z x.2.2.2⟩
theorem sky_imp {h B : Heap} {l : List Env} {a L : Addr} {Z Z' : Obj → Prop} (z : ∀ o, Z o → Z' o) (x : Sky B l a Z L h) : Sky B l a Z' L h := by
  rcases x with ⟨h1, h2, h3, oe, vs, h4, h5, h6⟩ | x | x
  · exact .inl ⟨h1, h2, h3, oe, vs, h4, z _ h5, h6⟩
  · exact .inr (.inl (flying_imp z x))
  · exact .inr (.inr (held_imp z x))
section
variable {X : Cx} {pins : List (Addr × Obj)} {σ : Sig} {H : Hp} {sI s s' : Shared} {B : Heap} {W : WX} {E : XK}
theorem Air.of_n {u : Value} (x : L2N.XE X W u s') : Air X W u s' := by
  obtain ⟨a, B, sI, pins, σ, H, cls, d, e, I, nb, up, sky, r⟩ := x
  exact ⟨a, B, sI, pins, σ, H, cls, d, e, I, nb, up, sky_imp (fun o z => Zq.of_n z) sky, r⟩
theorem Air.to_c {u : Value} (x : Air X W u s') : L2.XE X W u s' := by
  obtain ⟨a, B, sI, pins, σ, H, cls, d, e, I, nb, up, sky, r⟩ := x
  exact ⟨a, B, sI, pins, σ, H, cls, d, e, I, nb, up, sky_imp (fun o z => z.zc) sky, r⟩
theorem Takes.n (t : Takes X W) : L2N.Takes X W := fun u s' x => t u s' (.of_n x)
theorem cx_c {P : Program} {w : World} {outer : List Env} {H : Hp} {s : Shared} {E : XK} {u : Value} {s' : Shared} (x : CX P w outer H s E u s') : L2.CX P w outer H s E u s' := by
  obtain ⟨a, B, H', cls, d, e, fl, r⟩ := x
  exact ⟨a, B, H', cls, d, e, flying_imp (fun o z => z.zc) fl, r⟩
/-- a call's exception -/
theorem Air.of_call (I : Inv X pins σ H s) (hW : ∀ cls d H', E cls d H' → W cls d σ H') {u : Value} (c : CX X.prog X.w X.stack H s E u s') : Air X W u s' := by
  obtain ⟨a, B, H', cls, d, rfl, fl, hok, ub, na, os, ag, hE⟩ := c
  obtain ⟨G, gin, gout⟩ := restrict s'.heap fun b => (B.get? b).isSome || decide (b ∈ frs X.stack)
  have gB : ∀ b o, B.get? b = some o → G.get? b = some o := fun b o e => (gin b (by simp [e])).trans (fl.1 b o e)
  have gF : ∀ b, b ∈ frs X.stack → G.get? b = s'.heap.get? b := fun b hb => gin b (by simp [hb])
  have og : ∀ b o, G.get? b = some o → s'.heap.get? b = some o ∧ ((B.get? b).isSome = true ∨ b ∈ frs X.stack) := fun b o e => by
    cases q : ((B.get? b).isSome || decide (b ∈ frs X.stack)) with
    | false => rw [gout b q] at e; cases e
    | true => exact ⟨(gin b q) ▸ e, by simpa [Bool.or_eq_true] using q⟩
  have J : Inv X pins σ H' { s with heap := G, gens := s'.gens, drawn := s'.drawn, toks := s'.toks } := by
    refine I.call (ch := []) ⟨fun b o e n hb _ => gB b o (ub.keep b o e n hb), fun b o e n hb _ => ?_, fun b o e n _ => ub.free b o e n, fun b o e _ => ?_, ub.tups, ub.frzs, ub.tbls⟩ (hok.kept gB) ag (fun _ z => nomatch z)
    · obtain ⟨sl, q⟩ := ub.slot b o e hb
      exact ⟨sl, (gF b hb).trans q⟩
    · by_cases hb : b ∈ frs X.stack
      · obtain ⟨sl, q⟩ := ub.slot b o e hb
        exact ⟨_, (gF b hb).trans q⟩
      · obtain ⟨o', q⟩ := ub.there b o e hb
        exact ⟨o', gB b o' q⟩
  refine ⟨a, B, _, pins, σ, H', cls, d, rfl, J, fun b o e hb => ?_, Heap.UpToSlots.of_keeps fun b o e => (og b o e).1, .inr (.inl fl), na, os, ag, hW _ _ _ hE⟩
  obtain ⟨e', h⟩ := og b o e
  rcases h with h | h
  · obtain ⟨o', q⟩ := Option.isSome_iff_exists.mp h
    have z := fl.1 b o' q
    rw [e'] at z; cases z
    exact q
  · exact absurd h hb
theorem passes_call (tk : Takes X W) (hW : ∀ cls d σ H, E cls d H → W cls d σ H) : Passes (CX X.prog X.w) X E :=
  fun _ σ _ _ e s' I c => tk e s' (Air.of_call I (fun cls d H' h => hW cls d σ H' h) c)
/-- a new exception -/
theorem Air.new {a : Addr} {oe : Obj} {vs : Array Value} {cls : Value} {d : Option Addr} (I : Inv X pins σ H sI) (k : ∀ b o, sI.heap.get? b = some o → s'.heap.get? b = some o) (hne : sI.heap.get? a = none) (he : s'.heap.get? a = some oe)
    (hc : oe.cls = cls) (hd' : oe.dict = d) (hx : ∀ vs, oe.data = .fields vs → vs[2]? = some .none ∨ ∃ p ∈ X.pn ++ pins, vs[2]? = some (.ref p.1) ∧ ∃ vs2, p.2.data = .fields vs2 ∧ vs2[2]? = some .none)
    (hd : oe.data = .fields vs) (h1 : vs[1]? = some .none) (na : H a = none) (os : s'.os = sI.os) (ag : AllBare s'.gens) (w : W cls d σ H) : Air X W (.ref a) s' := by
  have nfr : ∀ p ∈ X.pn ++ pins, p.1 ∉ frs X.stack := fun p hp hm => (List.mem_cons.mp (I.stkSub p.1 hm)).elim (I.pin p hp).2.2.1 (I.pin p hp).2.2.2.1
  refine ⟨a, PySem.W.hideAll sI.heap (frs X.stack), sI, pins, σ, H, cls, d, rfl, I, fun b o e hb => PySem.W.hideAll_get _ e hb, Heap.UpToSlots.of_keeps k,
    .inl ⟨fun b o e => k b o (PySem.W.of_hideAll _ e), ?_, ?_, oe, vs, he, ⟨hc, hd', fun vs e => ?_⟩, hd, h1⟩, na, os, ag, w⟩
  · cases q : (PySem.W.hideAll sI.heap (frs X.stack)).get? a with
    | none => rfl
    | some o =>
      have z := PySem.W.of_hideAll _ q
      rw [hne] at z; cases z
  · exact Heap.FunFrames.of_keeps (fun b o e _ => ⟨o, k b o e, rfl⟩) (funFrames_none I.stack fun b hb => PySem.W.hideAll_none _ hb)
  · rcases hx vs e with z | ⟨p, hp, z, vs2, d2, c2⟩
    · exact .inl z
    · exact .inr ⟨p.1, p.2, vs2, z, PySem.W.hideAll_get _ (I.pin p hp).1 (nfr p hp), (I.pin p hp).2.1, d2, c2⟩
/-- it leaves the def -/
theorem Air.leave (hs : X.stack = X.env :: X.outer) (hf : X.env.frame = some X.env.locals) (hex : X.ex = []) {E₁ : Value → Shared → Prop} (hW : ∀ cls d σ H, W cls d σ H → E cls d H) {u : Value} (x : Air X W u s') :
    wpAny (model X.prog X.w) X.A (leaving X.env u) (fun _ s'' => CX X.prog X.w X.outer X.H_0 X.s_0 E u s'') E₁ s' := by
  obtain ⟨a, B, sI, pins, σ, H, cls, d, rfl, I, nb, up, sky, na, os, ag, w⟩ := x
  have hfr : X.A.frames = some (X.env :: X.outer) := by rw [I.ok.frames, hs]
  have nst : ∀ b o, X.s_0.heap.get? b = some o → b ∉ X.fs → b ∉ frs X.stack := fun b o e hb hm => by
    rcases List.mem_cons.mp (I.stkSub b hm) with z | z
    · have h1 := Heap.lt_size e
      have h2 := I.ok.above
      rw [z] at h1
      exact absurd (Nat.lt_of_lt_of_le h1 h2) (Nat.lt_irrefl _)
    · exact hb z
  have nex : ∀ b, b ∉ X.ex := fun b hb => by rw [hex] at hb; cases hb
  have hokB := I.inGround nb
  have fin : ∀ h', HandSPX.FlyingZ B X.outer a (Zq B H cls d) h' → s'.heap.UpToSlots h' → CX X.prog X.w X.outer X.H_0 X.s_0 E (.ref a) { s' with heap := h' } := fun h' fl up' => by
    refine ⟨a, B, H, cls, d, rfl, fl, hokB, ⟨fun b o e n hb => nb b o (I.base.keep b o e n hb (nex b)) (nst b o e hb), fun b o e hb => ?_, fun b o e n => I.base.free b o e n (nex b), fun b o e hb => ?_, I.base.tups, I.base.frzs, I.base.tbls⟩,
      na, os.trans I.os, ag, hW _ _ _ _ w⟩
    · obtain ⟨_, o₀, e₀, hnf⟩ := I.ok.funs.mem hb
      rw [e] at e₀; cases e₀
      obtain ⟨sl, e1⟩ := I.base.slot b o e (I.ok.frf b hb) hb (nex b)
      obtain ⟨sl2, e2⟩ := up b _ e1 hnf
      obtain ⟨sl3, e3⟩ := up' b _ e2 hnf
      exact ⟨sl3, e3⟩
    · obtain ⟨o', e1⟩ := I.base.there b o e (nex b)
      exact ⟨o', nb b o' e1 (nst b o e hb)⟩
  rw [hs] at sky
  rcases sky with ⟨hB, hn, hl, oe, vs, he, hz, hd, h1⟩ | fl | hd
  · exact PXN.leaving_firstZ Zq.steady hfr hl hf he hB hn hd h1 hz fin
  · exact PXN.leaves_onZ Zq.steady hfr hf fl fin
  · exact HandSPX.leaves_heldZ hf hd fin
theorem takes_of (hs : X.stack = X.env :: X.outer) (hf : X.env.frame = some X.env.locals) (hex : X.ex = []) {E₁ : Value → Shared → Prop}
    (hx : X.xe = fun e s' => wpAny (model X.prog X.w) X.A (leaving X.env e) (fun _ s'' => CX X.prog X.w X.outer X.H_0 X.s_0 E e s'') E₁ s') : Takes X (fun cls d _ H => E cls d H) := fun u s' x => by
  rw [hx]
  exact x.leave (W := fun cls d _ H => E cls d H) (E := E) hs hf hex (fun _ _ _ _ h => h)
/-- raise, where nothing is handled -/
theorem ps_raise {e : Expr} {t : Sig → Hp → XK → Prop} {pos : Pos} (hc : X.calm = true) (tk : Takes X W) (he : L2N.PMk X e t) : PS X (.Raise (some e) none pos) (fun _ σ H => t σ H fun cls d H' => W cls d σ H') :=
  L2N.ps_raise hc tk.n he
/-- noted by the frame at hand -/
theorem sky_note {M : Model} {A : Around} {E₁ : Value → Shared → Prop} {env : Env} {outer : List Env} {L a : Addr} {Z : Obj → Prop} {Q : Unit → Shared → Prop} (hZ : PXN.Steady1 Z) (hfr : A.frames = some (env :: outer)) (hf : env.frame = some L)
    (x : Sky B (env :: outer) a Z L s.heap) (hQ : ∀ h', HandSPX.HeldZ B (env :: outer) a Z L h' → s.heap.UpToSlots h' → Q () { s with heap := h' }) : wpAny M A (noteFrame (.ref a) env) Q E₁ s := by
  rcases x with ⟨hB, hn, hl, oe, vs, he, hz, hd, h1⟩ | fl | hh
  · exact PXN.look_newZ hZ hfr hl hf he hB hn hd h1 hz hQ
  · exact PXN.looks_onZ hZ hfr hf fl hQ
  · exact HandSPX.againZ hf hh.2.2.2 (hQ s.heap hh (Heap.UpToSlots.refl _))
theorem sky_land {M : Model} {A : Around} {E₁ : Value → Shared → Prop} {env : Env} {outer : List Env} {L a : Addr} {Z : Obj → Prop} {Q : Unit → Shared → Prop} (hZ : PXN.Steady1 Z) (hfr : A.frames = some (env :: outer)) (hf : env.frame = some L)
    (x : Sky B (env :: outer) a Z L s.heap) (hQ : ∀ h', HandSPX.FlyingZ B (env :: outer) a Z h' → s.heap.UpToSlots h' → Q () { s with heap := h' }) :
    wpAny M A (noteFrame (.ref a) env) (fun _ s₂ => wpAny M A (setFlight (.ref a) none) Q E₁ s₂) E₁ s :=
  sky_note hZ hfr hf x fun h1 hh up => HandSPX.landsZ hh fun h' fl up' => hQ h' fl (up.trans up')
end
end Qx

/-! try .. except x as n, the suite calling or raising. -/
namespace Qx
open PySem PySem.Spec PyProof.Rows L2
/-- the handled exception's record, and what its context says of the pins -/
def Chain (a : Addr) (oe : Obj) (pn : List (Addr × Obj)) : Prop := ∃ vs, oe.data = .fields vs ∧ (vs[2]? = some .none ∨ ∃ p ∈ pn, vs[2]? = some (.ref p.1) ∧ p.1 ≠ a ∧ ∃ vs2, p.2.data = .fields vs2 ∧ vs2[2]? = some .none)
def wAsT (K : PySem.W.Frag) (c : Value) (i : Nat) (ts : Addr → Value → Option Addr → TS) (D : Ends) : WX := fun cls d σ H =>
  PySem.W.exmOne K cls c = some true ∧ ∀ a, H a = none → ts a cls d { nx := fun σ' H' => D.nx (σ'.set i none) H', rt := D.rt, bk := fun σ' H' => D.bk (σ'.set i none) H', ct := fun σ' H' => D.ct (σ'.set i none) H' } (σ.set i (some (.ref a))) H
section
variable {X : Cx} {x n : Str} {c : Value} {i : Nat} {body suite : List Stmt} {b₀ : Stmt} {np pos pos' : Pos} {tb : WX → TS} {ts : Addr → Value → Option Addr → TS}
theorem not_frame {B h : Heap} {a : Addr} {o : Obj} {vs : Array Value} {l : List Env} (ff : h.FunFrames B l) (e : h.get? a = some o) (dd : o.data = .fields vs) : a ∉ frs l := fun hm => by
  obtain ⟨_, o', e', hnf⟩ := ff.mem hm
  rw [e] at e'; cases e'
  exact hnf _ dd
theorem frs_cons {env : Env} {l : List Env} {a L : Addr} (hf : env.frame = some L) (h : a ∉ frs (env :: l)) : a ≠ L ∧ a ∉ frs l :=
  ⟨fun z => h (List.mem_filterMap.mpr ⟨env, List.mem_cons_self, by rw [hf, z]⟩), fun hm => by
    obtain ⟨e, he, q⟩ := List.mem_filterMap.mp hm
    exact h (List.mem_filterMap.mpr ⟨e, List.mem_cons_of_mem _ he, q⟩)⟩
theorem more_pins {pins : List (Addr × Obj)} {σ : Sig} {H : Hp} {s : Shared} {B : Heap} {oe : Obj} {vs : Array Value} (I : Inv X pins σ H s) (hs : X.stack = X.env :: X.outer) (hf : X.env.frame = some X.env.locals) (st : B.StaysIn s.heap) (ff : s.heap.FunFrames B (X.env :: X.outer))
    (z : Ctx B H oe) (hd : oe.data = .fields vs) {a : Addr} (hea : s.heap.get? a = some oe) : ∃ pins', Inv X pins' σ H s ∧ Chain a oe (X.pn ++ pins') ∧ ∀ p ∈ pins, p ∈ pins' := by
  rcases z vs hd with z | ⟨x2, o2, vs2, z, b2, h2, d2, c2⟩
  · exact ⟨pins, I, ⟨vs, hd, .inl z⟩, fun p hp => hp⟩
  · have e2 := st x2 o2 b2
    have nfr := not_frame ff e2 d2
    obtain ⟨nL, nF⟩ := frs_cons hf nfr
    refine ⟨(x2, o2) :: pins, I.pins_of fun p hp => ?_, ⟨vs, hd, .inr ⟨(x2, o2), List.mem_append_right _ List.mem_cons_self, z, (fun e => by
      have e' : x2 = a := e
      subst e'
      rw [e2] at hea
      cases hea
      rw [d2] at hd
      cases hd
      rw [c2] at z
      cases z), vs2, d2, c2⟩⟩, fun p hp => List.mem_cons_of_mem _ hp⟩
    rcases List.mem_cons.mp hp with e | hp
    · rw [e]
      exact ⟨e2, h2, nL, nF, fun v q => by rw [d2] at q; cases q⟩
    · exact I.pin p (List.mem_append_right _ hp)
theorem less_pins {pins pins' : List (Addr × Obj)} {σ : Sig} {H : Hp} {s : Shared} (I : Inv X pins' σ H s) (h : ∀ p ∈ pins, p ∈ pins') : Inv X pins σ H s := I.pins_of fun p hp => I.pin p (List.mem_append_right _ (h p hp))
/-- the suite raises nothing; every exception of the body is one of the clause's -/
theorem ps_try_as (hs : X.stack = X.env :: X.outer) (hf : X.env.frame = some X.env.locals) (hN : X.N.Nodup) (hi : X.N[i]? = some n) (hln : X.env.kindOf n = some .local) (hc : Names X x c)
    (hb : ∀ (W : WX) (pn : List (Addr × Obj)) (xe : Value → Shared → Prop), Takes (X.tr pn xe) W → PassesOwn (model X.prog X.w) X.A X.env xe → PSs (X.tr pn xe) body (tb W))
    (hsu : ∀ (a : Addr) (oe : Obj) (cls : Value) (d : Option Addr) (pn : List (Addr × Obj)), Zc cls d oe → Chain a oe pn → PSs (X.suite a ((a, oe) :: pn)) (b₀ :: suite) (ts a cls d)) :
    PS X (.Try body [.ExceptHandler (some (.Name x np)) (some n) (b₀ :: suite) pos'] [] [] pos) (fun D σ H => tb (wAsT X.K c i ts D) D σ H) := by
  refine ⟨fun pins s σ H D I h => ?_⟩
  have ok := I.ok
  have hfr : X.A.frames = some (X.env :: X.outer) := by rw [ok.frames, hs]
  have hloc : Loc X.env.scope n := .inl hln
  refine wpAny_Try_except ?_
  refine wpAny_mono ((hb (wAsT X.K c i ts D) (X.pn ++ pins) (fun e s₁ => wpAny (model X.prog X.w) X.A (noteFrame e X.env) (fun _ s₂ => wpAny (model X.prog X.w) X.A (setFlight e none) (fun _ s₃ =>
    wpAny (model X.prog X.w) X.A (handleBy e X.env [.ExceptHandler (some (.Name x np)) (some n) (b₀ :: suite) pos']) (SP X pins D) X.xe s₃) X.xe s₂) X.xe s₁) (fun u s' xx => ?_) PassesOwn.looking).run [] s σ H D (I.toTry _) h) (fun f s1 hsp => ?_) (fun e s1 he => he)
  · obtain ⟨a, B, sI, pins0, σ', H', cls, d, rfl, J', nb, up, sky, na, os, ag, hb1, hyes⟩ := xx
    have J : Inv X pins σ' H' sI := J'.ofTry ok
    show wpAny (model X.prog X.w) X.A (noteFrame (.ref a) X.env) _ _ _
    refine sky_land Zq.steady hfr hf (by rw [← hs]; exact sky) fun h3 fl3 up3 => ?_
    have J3 : Inv X pins σ' H' { s' with heap := h3 } := J.landed nb fl3.1 (up.trans up3) os ag
    obtain ⟨oe3, vs3, he3, hz3, hd3⟩ := fl3.there
    obtain ⟨nL, nF⟩ := frs_cons hf (not_frame fl3.2.2.1 he3 hd3)
    have S3 := J3.suite he3 hd3 na nL nF
    refine wpAny_handleBy_cons (codeAny_handlers_test ?_) (by intro q; cases q)
    have LT : PySem.W.Looks (model X.prog X.w) h3 (typeOf (.ref a)) cls := fun A Q E s k q => wpAny_typeOf_ref (k _ _ he3) (by rw [hz3.1]; exact q)
    have LM := PySem.W.exm_one (M := model X.prog X.w) (J3.kIn) LT hb1
    have test : ∀ {Q : Value → Shared → Prop} {E : Value → Shared → Prop}, Q c { s' with heap := h3 } → wpAny (model X.prog X.w) (X.A.mark (some (.ref a))) (eval (.Name x np) X.env) Q E { s' with heap := h3 } := fun {Q E} q => by
      obtain ⟨hg, hdbg, hm | ⟨hm, hv, hnn⟩⟩ := hc
      · exact ld_glob (X := X.suite a ((a, oe3) :: (X.pn ++ pins))) S3 hg hm q hdbg
      · exact ld_blt (X := X.suite a ((a, oe3) :: (X.pn ++ pins))) S3 hg hm hv q hnn hdbg
    refine test (LM.here ?_)
    refine codeAny_handlers_suite_as ?_
    refine HandSPX.lands_againZ fl3 fun h4 fl4 up4 => ?_
    have J4 : Inv X pins σ' H' { s' with heap := h4 } := J.landed nb fl4.1 ((up.trans up3).trans up4) os ag
    obtain ⟨oe4, vs4, he4, hz4, hd4⟩ := fl4.there
    obtain ⟨pins', J4', ch, sub⟩ := more_pins J4 hs hf fl4.1 fl4.2.2.1 hz4.2.2 hd4 he4
    have S4 := J4'.suite he4 hd4 na nL nF
    refine store_ok (X := X.suite a ((a, oe4) :: (X.pn ++ pins'))) (v := .ref a) S4 hN hi hloc rfl (fun s5 S5 => ?_) (.inr hln)
    refine wpAny_mono ((hsu a oe4 cls d (X.pn ++ pins') hz4.zc ch).run [] s5 _ H' _ S5 (hyes a na)) (fun f s6 hsp => ?_) (fun _ _ z => False.elim z)
    have back : ∀ {σ6 : Sig} {H6 : Hp} {Q : Shared → Prop}, Inv (X.suite a ((a, oe4) :: (X.pn ++ pins'))) [] σ6 H6 s6 → (∀ s7, Inv X pins (σ6.set i none) H6 s7 → Q s7) →
        wpAny (model X.prog X.w) X.A (do bindName X.env n .none; unbindBehindTheSuite X.env n pos') (fun _ s7 => Q s7) X.xe s6 := fun {σ6 H6 Q} S6 hq => gone_ok (less_pins (S6.unsuite ok) sub) hN hi hln hq
    cases f with
    | next =>
      obtain ⟨σ6, H6, S6, q6⟩ := hsp
      exact back S6 fun s7 J7 => ⟨_, _, J7, q6⟩
    | brk =>
      obtain ⟨σ6, H6, S6, q6⟩ := hsp
      exact back S6 fun s7 J7 => ⟨_, _, J7, q6⟩
    | cont =>
      obtain ⟨σ6, H6, S6, q6⟩ := hsp
      exact back S6 fun s7 J7 => ⟨_, _, J7, q6⟩
    | ret u =>
      obtain ⟨v6, σ6, H6, S6, r6, q6⟩ := hsp
      exact back S6 fun s7 J7 => ⟨_, _, _, J7, r6, q6⟩
  · cases f with
    | next =>
      obtain ⟨σ', H', J', q⟩ := hsp
      exact wpAny_execs_nil ⟨σ', H', J'.ofTry ok, q⟩
    | brk =>
      obtain ⟨σ', H', J', q⟩ := hsp
      exact ⟨σ', H', J'.ofTry ok, q⟩
    | cont =>
      obtain ⟨σ', H', J', q⟩ := hsp
      exact ⟨σ', H', J'.ofTry ok, q⟩
    | ret u =>
      obtain ⟨v, σ', H', J', r, q⟩ := hsp
      exact ⟨v, σ', H', J'.ofTry ok, r, q⟩
end
/-! ### a suite that raises -/
/-- the context of such a suite -/
abbrev suiteE (X : Cx) (a : Addr) (pn : List (Addr × Obj)) (xe : Value → Shared → Prop) : Cx := { X with A := X.A.mark (some (.ref a)), calm := false, pn := pn, xe := xe }
section
variable {X : Cx} {x n : Str} {c : Value} {i : Nat} {body suite : List Stmt} {b₀ : Stmt} {np pos pos' : Pos} {tb : WX → TS} {ts : Addr → Value → Option Addr → TS} {Wout : WX}
theorem suiteE_of {pn pn' : List (Addr × Obj)} {σ : Sig} {H : Hp} {s : Shared} {a : Addr} {xe : Value → Shared → Prop} (I : Inv (X.suite a pn) pn' σ H s) : Inv (suiteE X a pn xe) pn' σ H s := Inv.unwish (X := suiteE X a pn xe) (E := fun _ _ => False) I
theorem unsuiteE {pins pn' : List (Addr × Obj)} {σ : Sig} {H : Hp} {s : Shared} {a : Addr} {q : Addr × Obj} {xe : Value → Shared → Prop} (I : Inv (suiteE X a (q :: (X.pn ++ pins)) xe) pn' σ H s) (ok : X.Ok) : Inv X pins σ H s :=
  Inv.unsuite (X := X) (a := a) (q := q) (pn' := pn') (show Inv (X.suite a (q :: (X.pn ++ pins))) pn' σ H s from I.wish fun _ _ => False) ok
theorem ns_same {h : Heap} {L : Addr} {m m' : Str → Option Value} (a : h.Ns L m) (b : h.Ns L m') (y : Str) : m y = m' y := by
  obtain ⟨o, es, ep, e1, d1, _, f1⟩ := a
  obtain ⟨o', es', ep', e2, d2, _, f2⟩ := b
  rw [e1] at e2; cases e2
  rw [d1] at d2
  injection d2 with d2 _
  subst d2
  rw [← f1, ← f2]
/-- a name's value goes in the frame's own dict: the state behind it -/
theorem gone_inv {pins : List (Addr × Obj)} {σ : Sig} {H : Hp} {s : Shared} {h' : Heap} {m' : Str → Option Value} {tk : Nat} (I : Inv X pins σ H s) (hN : X.N.Nodup) (hi : X.N[i]? = some n)
    (hn' : h'.Ns X.env.locals m') (hm : ∀ m, s.heap.Ns X.env.locals m → ∀ y, y ≠ n → m' y = m y) (hs : ∀ b, b ≠ X.env.locals → h'.get? b = s.heap.get? b) : Inv X pins (σ.set i none) H { s with heap := h', toks := tk } := by
  obtain ⟨m, hn, hlk⟩ := id I.loc
  have neL : ∀ b o, X.s_0.heap.get? b = some o → b ≠ X.env.locals := fun b o e => Nat.ne_of_lt (Nat.lt_of_lt_of_le (Heap.lt_size e) I.ok.above)
  have cellK : ∀ y c v, X.env.cells.lookup y = some c → s.heap.IsCell c v → h'.IsCell c v := fun y c v e z => by
    obtain ⟨o, ho, hd⟩ := z
    exact ⟨o, (hs c (I.cne y c e)).trans ho, hd⟩
  refine ⟨I.ok, I.os, I.bare, ⟨fun b o e n hb hx => (hs b (neL b o e)).trans (I.base.keep b o e n hb hx), fun b o e n hb hx => ?_, I.base.free, fun b o e hx => ?_, I.base.tups, I.base.frzs, I.base.tbls⟩, ⟨_, hn', fun j y v' e1 e2 e3 => ?_⟩, fun y c e => ?_, I.free, I.freeC, fun p hp => ?_, fun b ob e => ?_, by simpa using I.len⟩
  · obtain ⟨sl, q⟩ := I.base.slot b o e n hb hx
    exact ⟨sl, (hs b (neL b o e)).trans q⟩
  · obtain ⟨o', q⟩ := I.base.there b o e hx
    exact ⟨o', (hs b (neL b o e)).trans q⟩
  · have hj : j ≠ i := fun z => by
      subst z
      by_cases hlt : j < σ.length
      · rw [List.getElem?_set_self hlt] at e2; cases e2
      · rw [List.getElem?_eq_none (by simpa using hlt)] at e2; cases e2
    rw [List.getElem?_set_ne (Ne.symm hj)] at e2
    obtain ⟨u', r', q⟩ := hlk j y v' e1 e2 e3
    refine ⟨u', r', ?_⟩
    rcases q with ⟨k, e⟩ | ⟨k, c, e, z⟩
    · have ny : y ≠ n := fun e => hj (nodup_ix hN e1 (e ▸ hi))
      exact .inl ⟨k, (hm m hn y ny).trans e⟩
    · exact .inr ⟨k, c, e, cellK y c _ e z⟩
  · obtain ⟨w', z⟩ := I.cell y c e
    exact ⟨w', cellK y c w' e z⟩
  · obtain ⟨e, n, ne, nf, d⟩ := I.pin p hp
    exact ⟨(hs p.1 ne).trans e, n, ne, nf, d⟩
  · refine (I.hok b ob e).stay (fun c w' hc q => (hs c ?_).trans q) (fun _ q => q) fun _ _ q => q
    intro z
    subst z
    rcases hc with hc | hc
    · rw [← hc, I.free] at e; cases e
    · rw [I.free] at hc; cases hc
theorem air_wish {a : Addr} {pn : List (Addr × Obj)} {xe xe' : Value → Shared → Prop} {W : WX} {u : Value} {s' : Shared} (z : Air (suiteE X a pn xe) W u s') : Air (suiteE X a pn xe') W u s' := by
  obtain ⟨a2, B, sI, pins, σ, H, cls, d, e, I, r⟩ := z
  exact ⟨a2, B, sI, pins, σ, H, cls, d, e, Inv.unwish (X := suiteE X a pn xe') (E := xe) (show Inv ((suiteE X a pn xe').wish xe) pins σ H sI from I), r⟩
theorem freed_dict {o : Obj} {es : _} {ep : _} (h : o.data = .dict es ep) : o.isFreed = false := by
  obtain ⟨c, d, dt, sl⟩ := o
  simp only at h
  subst h
  rfl
theorem frames_keep {h h' base : Heap} (k : ∀ b o, h.get? b = some o → (∀ vs, o.data ≠ .fields vs) → ∃ o', h'.get? b = some o' ∧ ∀ vs, o'.data ≠ .fields vs) : ∀ {l : List Env}, h.FunFrames base l → h'.FunFrames base l
  | [], _ => trivial
  | _ :: _, hl => by
    obtain ⟨hk, ⟨L, o, hf, hn, ho, hd⟩, hr⟩ := hl
    obtain ⟨o', ho', hd'⟩ := k L o ho hd
    exact ⟨hk, ⟨L, o', hf, hn, ho', hd'⟩, frames_keep k hr⟩
/-- every exception of the body is one of the clause's; the suite raises -/
theorem ps_try_asX (hs : X.stack = X.env :: X.outer) (hf : X.env.frame = some X.env.locals) (hN : X.N.Nodup) (hi : X.N[i]? = some n) (hln : X.env.kindOf n = some .local) (hc : Names X x c)
    (hpa : ∀ hd : Option Value, PassesOwnAt (model X.prog X.w) (X.A.mark hd) X.A X.env X.xe) (tk : Takes X Wout)
    (hb : ∀ (W : WX) (pn : List (Addr × Obj)) (xe : Value → Shared → Prop), L2N.Takes (X.tr pn xe) W → PassesOwn (model X.prog X.w) X.A X.env xe → PSs (X.tr pn xe) body (tb W))
    (hsu : ∀ (a : Addr) (oe : Obj) (cls : Value) (d : Option Addr) (pn : List (Addr × Obj)) (xe : Value → Shared → Prop), Zc cls d oe → (∃ vs, oe.data = .fields vs ∧ vs[2]? = some .none) → Takes (suiteE X a ((a, oe) :: pn) xe) (fun cls d σ H => Wout cls d (σ.set i none) H) →
      PSs (suiteE X a ((a, oe) :: pn) xe) (b₀ :: suite) (ts a cls d)) :
    PS X (.Try body [.ExceptHandler (some (.Name x np)) (some n) (b₀ :: suite) pos'] [] [] pos) (fun D σ H => tb (wAsT X.K c i ts D) D σ H) := by
  refine ⟨fun pins s σ H D I h => ?_⟩
  have ok := I.ok
  have hfr : X.A.frames = some (X.env :: X.outer) := by rw [ok.frames, hs]
  have hloc : Loc X.env.scope n := .inl hln
  have hcls : (X.env.scope.kind == .class || (X.env.scope.kind == .module && X.env.locals != X.env.globals)) = false := by rw [ok.kind]; rfl
  refine wpAny_Try_except ?_
  refine wpAny_mono ((hb (wAsT X.K c i ts D) (X.pn ++ pins) (fun e s₁ => wpAny (model X.prog X.w) X.A (noteFrame e X.env) (fun _ s₂ => wpAny (model X.prog X.w) X.A (setFlight e none) (fun _ s₃ =>
    wpAny (model X.prog X.w) X.A (handleBy e X.env [.ExceptHandler (some (.Name x np)) (some n) (b₀ :: suite) pos']) (SP X pins D) X.xe s₃) X.xe s₂) X.xe s₁) (fun u s' xx => ?_) PassesOwn.looking).run [] s σ H D (I.toTry _) h) (fun f s1 hsp => ?_) (fun e s1 he => he)
  · obtain ⟨a, B, sI, pins0, σ', H', cls, d, rfl, J', nb, up, sky, na, os, ag, hb1, hyes⟩ := xx
    have J : Inv X pins σ' H' sI := J'.ofTry ok
    show wpAny (model X.prog X.w) X.A (noteFrame (.ref a) X.env) _ _ _
    refine sky_land L2N.Zn.steady hfr hf (by rw [← hs]; exact sky) fun h3 fl3 up3 => ?_
    have J3 : Inv X pins σ' H' { s' with heap := h3 } := J.landed nb fl3.1 (up.trans up3) os ag
    obtain ⟨oe3, vs3, he3, hz3, hd3⟩ := fl3.there
    obtain ⟨nL, nF⟩ := frs_cons hf (not_frame fl3.2.2.1 he3 hd3)
    have S3 := J3.suite he3 hd3 na nL nF
    refine wpAny_handleBy_cons (codeAny_handlers_test ?_) (by intro q; cases q)
    have LT : PySem.W.Looks (model X.prog X.w) h3 (typeOf (.ref a)) cls := fun A Q E s k q => wpAny_typeOf_ref (k _ _ he3) (by rw [hz3.1]; exact q)
    have LM := PySem.W.exm_one (M := model X.prog X.w) (J3.kIn) LT hb1
    have test : ∀ {Q : Value → Shared → Prop} {E : Value → Shared → Prop}, Q c { s' with heap := h3 } → wpAny (model X.prog X.w) (X.A.mark (some (.ref a))) (eval (.Name x np) X.env) Q E { s' with heap := h3 } := fun {Q E} q => by
      obtain ⟨hg, hdbg, hm | ⟨hm, hv, hnn⟩⟩ := hc
      · exact ld_glob (X := X.suite a ((a, oe3) :: (X.pn ++ pins))) S3 hg hm q hdbg
      · exact ld_blt (X := X.suite a ((a, oe3) :: (X.pn ++ pins))) S3 hg hm hv q hnn hdbg
    refine test (LM.here ?_)
    refine codeAny_handlers_suite_as ?_
    refine HandSPX.lands_againZ fl3 fun h4 fl4 up4 => ?_
    have J4 : Inv X pins σ' H' { s' with heap := h4 } := J.landed nb fl4.1 ((up.trans up3).trans up4) os ag
    obtain ⟨oe4, vs4, he4, hz4, hd4⟩ := fl4.there
    have S4 := J4.suite he4 hd4 na nL nF
    refine store_ok (X := X.suite a ((a, oe4) :: (X.pn ++ pins))) (v := .ref a) S4 hN hi hloc rfl (fun s5 S5 => ?_) (.inr hln)
    refine wpAny_mono ((hsu a oe4 cls d (X.pn ++ pins) (Air (suiteE X a ((a, oe4) :: (X.pn ++ pins)) (fun _ _ => False)) (fun cls d σ H => Wout cls d (σ.set i none) H)) hz4.zc ⟨vs4, hd4, hz4.2.2 vs4 hd4⟩ (fun u s' z => air_wish z)).run [] s5 _ H' _ (suiteE_of S5) (hyes a na)) (fun f s6 hsp => ?_) (fun e6 s6 z => ?_)
    · have back : ∀ {σ6 : Sig} {H6 : Hp} {Q : Shared → Prop} {xe : Value → Shared → Prop}, Inv (suiteE X a ((a, oe4) :: (X.pn ++ pins)) xe) [] σ6 H6 s6 → (∀ s7, Inv X pins (σ6.set i none) H6 s7 → Q s7) →
          wpAny (model X.prog X.w) X.A (do bindName X.env n .none; unbindBehindTheSuite X.env n pos') (fun _ s7 => Q s7) X.xe s6 := fun {σ6 H6 Q xe} S6 hq => gone_ok (unsuiteE S6 ok) hN hi hln hq
      cases f with
      | next =>
        obtain ⟨σ6, H6, S6, q6⟩ := hsp
        exact back S6 fun s7 J7 => ⟨_, _, J7, q6⟩
      | brk =>
        obtain ⟨σ6, H6, S6, q6⟩ := hsp
        exact back S6 fun s7 J7 => ⟨_, _, J7, q6⟩
      | cont =>
        obtain ⟨σ6, H6, S6, q6⟩ := hsp
        exact back S6 fun s7 J7 => ⟨_, _, J7, q6⟩
      | ret u =>
        obtain ⟨v6, σ6, H6, S6, r6, q6⟩ := hsp
        exact back S6 fun s7 J7 => ⟨_, _, _, J7, r6, q6⟩
    · -- an exception of the suite's
      obtain ⟨a2, B2, sI2, pins2, σ2, H2, cls2, d2, rfl, I2, nb2, up2, sky2, na2, os2, ag2, w2⟩ := z
      have I2x : Inv X pins σ2 H2 sI2 := unsuiteE I2 ok
      refine sky_note Zq.steady hfr hf (show Sky B2 (X.env :: X.outer) a2 (Zq B2 H2 cls2 d2) X.env.locals s6.heap by rw [← hs]; exact sky2) fun h7 hh7 up7 => ?_
      obtain ⟨st7, nB7, ff7, tr7⟩ := hh7
      have J7 : Inv X pins σ2 H2 { s6 with heap := h7 } := I2x.landed nb2 st7 (up2.trans up7) os2 ag2
      obtain ⟨m7, hn7, _⟩ := id J7.loc
      refine PySem.wpAny_nameGoes_keeps hln hn7 hcls fun h8 v8 hn8 hs8 => ?_
      -- the exception is held still
      have Lfs : X.env.locals ∈ frs (X.env :: X.outer) := List.mem_filterMap.mpr ⟨X.env, List.mem_cons_self, hf⟩
      have nBL : B2.get? X.env.locals = none := (ff7.mem Lfs).1
      have neF : ∀ {b : Addr} {o : Obj} {vs : Array Value}, h7.get? b = some o → o.data = .fields vs → b ≠ X.env.locals := fun {b o vs} e dd => (frs_cons hf (not_frame ff7 e dd)).1
      have hh8 : HandSPX.HeldZ B2 (X.env :: X.outer) a2 (Zq B2 H2 cls2 d2) X.env.locals h8 := by
        refine ⟨fun b o e => (hs8.2 b fun z => by rw [z, nBL] at e; cases e).trans (st7 b o e), nB7, ?_, ?_⟩
        · obtain ⟨o8, es8, ep8, ho8, hd8, _⟩ := id hn8
          refine frames_keep (fun b o e hnf => ?_) ff7
          by_cases hb : b = X.env.locals
          · exact ⟨o8, by rw [hb]; exact ho8, fun vs z => by rw [hd8] at z; cases z⟩
          · exact ⟨o, (hs8.2 b hb).trans e, hnf⟩
        · obtain ⟨oe, vs, T, oT, tsv, he, hz, hd, h1, hnT, hTe, hT, hdT, h3⟩ := tr7
          exact ⟨oe, vs, T, oT, tsv, (hs8.2 a2 (neF he hd)).trans he, hz, hd, h1, hnT, hTe, (hs8.2 T (neF hT hdT)).trans hT, hdT, h3⟩
      -- the state without it
      obtain ⟨o8, es8, ep8, ho8, hd8, hr8⟩ := id hn8
      obtain ⟨oI, esI, epI, hoI, hdI, hrI⟩ := id I2x.loc.choose_spec.1
      have hLI : (sI2.heap.update X.env.locals fun _ => o8).get? X.env.locals = some o8 := Heap.get?_update_self _ hoI (freed_dict hd8)
      have hnI : ∀ b, b ≠ X.env.locals → (sI2.heap.update X.env.locals fun _ => o8).get? b = sI2.heap.get? b := fun b hb => Heap.get?_update_other _ _ (Ne.symm hb)
      have up67 : sI2.heap.UpToSlots h7 := up2.trans up7
      have Jg : Inv X pins (σ2.set i none) H2 { sI2 with heap := sI2.heap.update X.env.locals fun _ => o8, toks := sI2.toks } :=
        gone_inv (tk := sI2.toks) I2x hN hi (m' := fun y => if y = n then v8 else m7 y) ⟨o8, es8, ep8, hLI, hd8, hr8⟩ (fun m hm y hy => by
          show (if y = n then v8 else m7 y) = m y
          rw [if_neg hy]
          exact ns_same hn7 (up67.ns hm) y) hnI
      obtain ⟨k1, k2, k3, oe, vs, T, oT, tsv, he, hz, hd, h1, hr⟩ := id hh8
      unfold PySem.passOn
      refine wpAny_bind (wpAny_field he hd h1 ?_)
      rw [if_neg (show ¬ ((Value.ref T == Value.none) = true) from by simp)]
      refine wpAny_bind ?_
      rw [hf]
      refine (HandSPX.setFlight_onZ hh8 fun h9 hh9 up9 => wpAny_throw (hpa (some (.ref a)) _ _ (tk _ _ ?_)))
      refine ⟨a2, B2, _, pins, _, H2, cls2, d2, rfl, Jg, fun b o e hb => ?_, fun b o e hnf => ?_, .inr (.inr (by rw [hs]; exact hh9)), na2, os2, ag2, w2⟩
      · have hbL : b ≠ X.env.locals := fun z => hb (by rw [hs, z]; exact Lfs)
        exact nb2 b o ((hnI b hbL) ▸ e) hb
      · by_cases hb : b = X.env.locals
        · subst hb
          have e' : (sI2.heap.update X.env.locals fun _ => o8).get? X.env.locals = some o := e
          rw [hLI] at e'; cases e'
          exact up9 _ _ ho8 hnf
        · have e' : sI2.heap.get? b = some o := (hnI b hb) ▸ e
          obtain ⟨sl, q⟩ := up67 b o e' hnf
          obtain ⟨sl2, q2⟩ := up9 b _ ((hs8.2 b hb).trans q) hnf
          exact ⟨sl2, q2⟩
  · cases f with
    | next =>
      obtain ⟨σ', H', J', q⟩ := hsp
      exact wpAny_execs_nil ⟨σ', H', J'.ofTry ok, q⟩
    | brk =>
      obtain ⟨σ', H', J', q⟩ := hsp
      exact ⟨σ', H', J'.ofTry ok, q⟩
    | cont =>
      obtain ⟨σ', H', J', q⟩ := hsp
      exact ⟨σ', H', J'.ofTry ok, q⟩
    | ret u =>
      obtain ⟨v, σ', H', J', r, q⟩ := hsp
      exact ⟨v, σ', H', J'.ofTry ok, r, q⟩
end
end Qx

/-! In an except suite, and in a def that is called there with the error itself. -/
namespace Qx
open PySem PySem.Spec PyProof.Rows L2
/-! ### the error as a value: its class, its field -/
structure ErrC (K : PySem.W.Frag) (D : Addr) : Prop where
  cl : (PySem.W.clsIn K D).isSome = true
  ga : PySem.W.findIn K (.ref D) "__getattribute__" = some (some (.builtin "BaseException.__getattribute__"))
  gg : PySem.W.findIn K (.ref D) "__getattr__" = some none
  ex : PySem.W.subIn K (.ref D) (.type "BaseException") = some true
  hd : PySem.W.hasDictIn K D = true
  ha : PySem.W.findIn K (.ref D) "__class__" = some (some (.builtin "object.__class__"))
  hn : PySem.W.specialIn K (.builtin "object.__class__") "__get__" = some (some (.builtin "getset_descriptor.__get__"))
  ht : PySem.W.takesIn K (.builtin "object.__class__") = some true
  hm : PySem.W.mroIn K D (.type "object") = some true
  noAt : PySem.W.findIn K (.ref D) "at" = some none
/-- isinstance(e, c) -/
def rIsP (K : PySem.W.Frag) (D a dd : Addr) : List V → Hp → VK → Prop := fun xs H Q => ∃ (c : V) (cv : Value) (b : Bool) (fs : List (Str × V)), xs = [.ref a, c] ∧ ClsV c cv ∧ PySem.W.kitOne K (.ref D) cv = some b ∧ H dd = some (.xd fs) ∧ Q (.bl b) H
section
variable {X : Cx} {a D dd : Addr} {oe : Obj}
theorem err_at {pins : List (Addr × Obj)} {σ : Sig} {H : Hp} {s : Shared} {fs : List (Str × V)} (I : Inv X pins σ H s) (hp : (a, oe) ∈ X.pn) (hz : Zc (.ref D) (some dd) oe) (hf : ∃ vs, oe.data = .fields vs) (e : H dd = some (.xd fs)) :
    ∃ (od : Obj) (mA : Str → Option Value), PySem.W.InstAt s.heap a oe D (some od) ∧ (∀ f, PySem.W.lookIn f od = some (mA f)) ∧ ∀ f, RelO (fs.lookup f) (mA f) := by
  obtain ⟨ha, _⟩ := I.pin (a, oe) (List.mem_append_left _ hp)
  obtain ⟨vs, hd⟩ := hf
  have hx : ObjOk X.prog X.w H s.heap dd (.xd fs) := I.hok dd _ e
  obtain ⟨mA, hns, hr⟩ := hx
  obtain ⟨od, ho, hl⟩ := lookIn_ns hns
  exact ⟨od, mA, ⟨ha, hz.1, by unfold PySem.W.notCls; rw [hd] <;> rfl, by rw [hz.2]; exact ho⟩, hl, hr⟩
theorem call_isP (C : ErrC X.K D) (hp : (a, oe) ∈ X.pn) (hz : Zc (.ref D) (some dd) oe) (hf : ∃ vs, oe.data = .fields vs) : CallR X (.builtin "isinstance") (rIsP X.K D a dd) := by
  intro pins s σ H xs us Q I r h
  obtain ⟨c, cv, b, fs, rfl, k, e, ed, q⟩ := h
  obtain ⟨u1, u2, rfl, r1, r2⟩ := vals2 r
  obtain rfl : u1 = Value.ref a := r1
  have e2 := k.eq r2
  subst e2
  obtain ⟨od, mA, J, _, _⟩ := err_at I hp hz hf ed
  exact PySem.W.kia_one (PySem.W.kitx_exc C.cl C.ga C.gg C.ex C.ha C.hn C.ht C.hm) I.kIn J e (fun z => nomatch z) fun tk => ⟨.bl b, H, I.tok tk, rfl, q⟩
/-- e.at -/
def tAtP (a dd : Addr) (te : TE) : TE := fun σ H Q => te σ H fun x H1 => x = .ref a ∧ ∃ (fs : List (Str × V)) (v : V), H1 dd = some (.xd fs) ∧ fs.lookup ("at" : Str) = some v ∧ Q v H1
theorem pe_atP {e : Expr} {te : TE} {pos : Pos} (C : ErrC X.K D) (hp : (a, oe) ∈ X.pn) (hz : Zc (.ref D) (some dd) oe) (hf : ∃ vs, oe.data = .fields vs) (he : PE X e te) (hb : attributeBase e "at" X.env (eval e X.env) = eval e X.env := by rfl) :
    PE X (.Attribute e "at" pos) (tAtP a dd te) := by
  refine ⟨fun pins s σ H Q I h => ?_⟩
  refine attr_of hb (thn (he.run pins s σ H _ I h) fun u s1 hh => ?_)
  obtain ⟨x, H1, I1, rx, ex, fs, v, ea, l, q⟩ := hh
  subst ex
  obtain rfl : u = Value.ref a := rx
  obtain ⟨od, mA, J, hl, hr⟩ := err_at I1 hp hz hf ea
  obtain ⟨u, hu, ru⟩ := RelO.some_of (v := v) (o := mA "at") (by rw [← l]; exact hr "at")
  exact HandSPX.exc_get I1.kIn J C.ga C.gg C.ex (PySem.W.findObj_own C.hd C.noAt rfl (by rw [hl, hu])) (handed_of ru) ⟨v, H1, I1.tok _, ru, q⟩
end
/-! ### any(..) of a list of truths, where an error is handled -/
/-- the handled error x1 and its context, as they stand -/
def Hot (A : Around) (pl : List (Addr × Obj)) : Prop := ∃ p ∈ pl, A.handled = some (.ref p.1) ∧ ∃ vs : Array Value, p.2.data = .fields vs ∧ (vs[2]? = some .none ∨ ∃ p2 ∈ pl, vs[2]? = some (.ref p2.1) ∧ p2.1 ≠ p.1 ∧ ∃ vs2, p2.2.data = .fields vs2 ∧ vs2[2]? = some .none)
def HotS (A : Around) (h : Heap) : Prop := ∃ (x1 : Addr) (o1 : Obj) (vs : Array Value), A.handled = some (.ref x1) ∧ h.get? x1 = some o1 ∧ o1.data = .fields vs ∧ (vs[2]? = some .none ∨ ∃ (x2 : Addr) (o2 : Obj) (vs2 : Array Value), vs[2]? = some (.ref x2) ∧ x2 ≠ x1 ∧ h.get? x2 = some o2 ∧ o2.data = .fields vs2 ∧ vs2[2]? = some .none)
theorem HotS.keeps {A : Around} {h h' : Heap} (x : HotS A h) (k : ∀ b o vs, h.get? b = some o → o.data = .fields vs → (b ≠ b ∨ True) → h'.get? b = some o) : HotS A h' := by
  obtain ⟨x1, o1, vs, e, g, d, z⟩ := x
  refine ⟨x1, o1, vs, e, k _ _ _ g d (.inr trivial), d, ?_⟩
  rcases z with z | ⟨x2, o2, vs2, z, ne, g2, d2, c2⟩
  · exact .inl z
  · exact .inr ⟨x2, o2, vs2, z, ne, k _ _ _ g2 d2 (.inr trivial), d2, c2⟩
section
variable {prog : Program} {w : World} {A : Around} {E : Value → Shared → Prop} {s : Shared}
theorem unchained2 {x1 x2 a : Addr} {o1 o2 : Obj} {vs1 vs2 : Array Value} {Q : Value → Shared → Prop} (h1 : s.heap.get? x1 = some o1) (d1 : o1.data = .fields vs1) (c1 : vs1[2]? = some (.ref x2)) (ne : x2 ≠ x1) (na : x2 ≠ a)
    (h2 : s.heap.get? x2 = some o2) (d2 : o2.data = .fields vs2) (c2 : vs2[2]? = some .none) (q : Q .none s) :
    wpAny (model prog w) A (holding [Value.ref a] (runValue (.builtin "proto.unchain" ⟨[.ref a, .ref x1, .ref x1, .bool false], []⟩))) Q E s := by
  refine wpAny_holding (wpAny_runValue (codeAny_builtin HotX.entry_unchain ?_))
  show wpAny _ _ (field (.ref x1) 2 >>= _) _ _ s
  refine wpAny_bind (wpAny_field h1 d1 c1 ?_)
  rw [if_neg (show ¬ ((Value.ref x2 == Value.none) = true) from by simp)]
  rw [if_neg (show ¬ ((Value.ref x2 == Value.ref a) = true) from by simp [na])]
  rw [if_neg (show ¬ ((Value.ref x2 == Value.ref x1) = true) from by simp [ne])]
  refine wpAny_bind (wpAny_pure (wpAny_pure ⟨by first | rfl | decide | exact Code.quiet_builtin _ (by decide +kernel), codeAny_builtin HotX.entry_unchain ?_⟩))
  show wpAny _ _ (field (.ref x2) 2 >>= _) _ _ s
  refine wpAny_bind (wpAny_field h2 d2 c2 ?_)
  rw [if_pos (show (Value.none == Value.none) = true from rfl)]
  first
  | exact wpAny_bind (wpAny_pure (wpAny_pure q))
  | exact wpAny_pure q
theorem raiseNew_hot {α : Type} {a : Addr} {oe : Obj} {vs : Array Value} {Q : α → Shared → Prop} {h0 : Heap} (hot : HotS A h0) (k : ∀ b o vs, h0.get? b = some o → o.data = .fields vs → vs.size ≠ 2 → s.heap.get? b = some o ∧ b ≠ a) (hsz : ∀ b o (vs : Array Value), h0.get? b = some o → o.data = .fields vs → ∀ y, vs[2]? = some y → vs.size ≠ 2)
    (ha : s.heap.get? a = some oe) (da : oe.data = .fields vs) (hi : 2 < vs.size)
    (hE : ∀ x1, E (.ref a) { s with heap := s.heap.update a (Obj.mapFields (·.setIfInBounds 2 (.ref x1))) }) : wpAny (model prog w) A (raiseNew (.ref a) : Sem α) Q E s := by
  obtain ⟨x1, o1, vs1, hh, g1, d1, c1⟩ := hot
  have s1 : vs1.size ≠ 2 := by
    rcases c1 with c1 | ⟨x2, _, _, c1, _⟩
    · exact hsz x1 o1 vs1 g1 d1 _ c1
    · exact hsz x1 o1 vs1 g1 d1 _ c1
  obtain ⟨h1, nx⟩ := k x1 o1 vs1 g1 d1 s1
  have go : ∀ {Q' : Value → Shared → Prop}, Q' .none s → wpAny (model prog w) A (holding [Value.ref a] (runValue (.builtin "proto.unchain" ⟨[.ref a, .ref x1, .ref x1, .bool false], []⟩))) Q' E s := fun {Q'} q => by
    rcases c1 with c1 | ⟨x2, o2, vs2, z, ne, g2, d2, c2⟩
    · exact HotX.unchained h1 d1 c1 q
    · obtain ⟨h2, n2⟩ := k x2 o2 vs2 g2 d2 (hsz x2 o2 vs2 g2 d2 _ c2)
      exact unchained2 h1 d1 z ne n2 h2 d2 c2 q
  unfold raiseNew
  refine wpAny_bind (wpAny_handled ?_)
  rw [hh]
  have hb : (Value.ref x1 != Value.ref a) = true := HotX.ref_bne nx
  show wpAny _ _ (if (Value.ref x1 != Value.ref a) = true then _ else _) _ _ _
  rw [if_pos hb]
  first
  | exact wpAny_bind (go (wpAny_bind (HotX.chained ha da hi (wpAny_throw (hE x1)))))
  | exact wpAny_bind (wpAny_bind (go (HotX.chained ha da hi (wpAny_throw (hE x1)))))
theorem two_size (vs : Array Value) (y : Value) (h : vs[2]? = some y) : vs.size ≠ 2 := fun z => by
  have := (Array.getElem?_eq_some_iff.mp h).1
  omega
/-- a list iterator at its end -/
theorem list_end_hot {it l : Addr} {i : Nat} {items : Array Value} {Q : Option Value → Shared → Prop} (hot : HotS A s.heap)
    (hit : s.heap.IsListIter it l i) (hl : s.heap.IsList l items) (hx : items[i]? = none)
    (hQ : ∀ h', Heap.ExtBut it s.heap h' → Q none { s with heap := h' }) : wpAny (model prog w) A (pyNext (.ref it)) Q E s := by
  obtain ⟨o, ho, hc, hd⟩ := id hit
  obtain ⟨ol, hol, _, nl, hdl⟩ := hl
  unfold pyNext
  refine wpAny_bind (wpAny_attempt (wpAny_callSpecial?_slot (name := Str.ofString "__next__") hit.typeIs slot_listiter_next
    (wpAny_call_entry slot_listiter_next hit.typeIs entry_listiter_next ?_ (args_listiter_next _))))
  show wpAny _ _ (field (.ref it) 0 >>= _) _ _ s
  refine wpAny_bind (wpAny_field ho hd (x := .ref l) rfl ?_)
  show wpAny _ _ (if (Value.ref l == Value.none) = true then _ else _) _ _ s
  rw [if_neg (show ¬ ((Value.ref l == Value.none) = true) from Bool.false_ne_true)]
  show wpAny _ _ (field (.ref it) 1 >>= _) _ _ s
  refine wpAny_bind (wpAny_field ho hd (x := .int i 0) rfl ?_)
  show wpAny _ _ (seqItems? (.ref l) >>= _) _ _ s
  refine wpAny_bind (wpAny_seqItems hol hdl ?_)
  simp only [Int.toNat_natCast, hx]
  refine wpAny_bind (wpAny_rule (wpAny_bind (wpAny_setField ho hd (by simp) ?_)))
  show wpAny _ _ (newExc (.type "StopIteration") [] >>= _) _ _ _
  refine wpAny_bind ?_
  simp only [newExc, newTuple]
  refine wpAny_bind (wpAny_newObj_type ?_ (by size_fits))
  refine wpAny_bind (m := firstArgMember _ _) (wpAny_of_eq (a := Value.none) (by first | rfl | (simp only [firstArgMember]; rfl)) ?_)
  refine wpAny_newObj_type ?_ (by size_fits)
  have hnit : ∀ b ob (vs : Array Value), s.heap.get? b = some ob → ob.data = .fields vs → vs.size ≠ 2 → b ≠ it := fun b ob vs e dd sz z => by
    rw [z, ho] at e; cases e
    rw [hd] at dd; cases dd
    exact sz rfl
  refine raiseNew_hot (h0 := s.heap) (A := A.in1) hot (fun b ob vs e dd sz => ⟨?_, ?_⟩) (fun b ob vs e dd y hy => two_size vs y hy) (Heap.get?_push_size _ rfl) rfl (by first | (simp; done) | (simp; omega) | (simp only [Array.size_append]; simp; omega)) fun x1 => ?_
  · refine Heap.get?_push_of_some _ (Heap.get?_push_of_some _ ?_)
    rw [Heap.get?_update_other _ _ (Ne.symm (hnit b ob vs e dd sz))]
    exact e
  · refine Nat.ne_of_lt (Heap.lt_size (o := ob) (Heap.get?_push_of_some _ ?_))
    rw [Heap.get?_update_other _ _ (Ne.symm (hnit b ob vs e dd sz))]
    exact e
  refine wpAny_bind (wpAny_isInstance (T := "StopIteration") (b := true) ⟨_, Heap.get?_update_self _ (Heap.get?_push_size _ rfl) rfl, rfl⟩ isSubtype_stop ?_)
  refine wpAny_pure (hQ _ fun b ob hb e => ?_)
  rw [Heap.get?_update_other _ _ (Nat.ne_of_gt (Heap.lt_size (o := ob) (Heap.get?_push_of_some _ (by rw [Heap.get?_update_other _ _ (Ne.symm hb)]; exact e))))]
  exact Heap.get?_push_of_some _ (Heap.get?_push_of_some _ (by rw [Heap.get?_update_other _ _ (Ne.symm hb)]; exact e))
/-- a list walked, an error handled -/
theorem walks_hot {x1 : Addr} {l : Addr} (I ax : Addr) (hne : ax ≠ I) (fp : List Addr) (hfp : ∀ b ∈ fp, b ≠ I) (items : Array Value) (hot : ∀ h : Heap, (∀ b ∈ fp, ∀ o, s.heap.get? b = some o → h.get? b = some o) → HotS A h) :
    Walks prog w A I ([I, ax] ++ fp) [I] items.size (fun i v => items[i]? = some v) (fun i h => h.IsListIter I ax i ∧ h.IsList ax items ∧ ∀ b ∈ fp, ∀ o, s.heap.get? b = some o → h.get? b = some o) where
  sub := fun b hb => by simp at hb; simp [hb]
  frame := fun _ _ _ st hk => ⟨st.1.at fun o e => hk I (by simp) o e, st.2.1.at fun o e => hk ax (by simp) o e, fun b hb o e => hk b (by simp [hb]) o (st.2.2 b hb o e)⟩
  item := fun i s2 Q E hi st hQ => by
    refine wpAny_pyNext_list_item st.1 st.2.1 (x := items[i]) (by simp [hi]) fun h' hit' hs' => ?_
    exact hQ _ h' s2.toks (by simp [hi]) ⟨hit', st.2.1.extBut hs'.extBut hne, fun b hb o e => hs'.extBut b o (hfp b hb) (st.2.2 b hb o e)⟩ fun b o hb e => hs'.extBut b o (fun h => hb (by simp [h])) e
  done := fun s2 Q E st hQ => list_end_hot (hot s2.heap st.2.2) st.1 st.2.1 (by simp) fun h' he' => hQ h' s2.toks fun b o hb e => he' b o (fun h => hb (by simp [h])) e
  self := fun _ _ _ _ st hQ => wpAny_pyIter_listiter st.1 hQ
end
section
variable {X : Cx}
theorem hot_of {pl : List (Addr × Obj)} {A : Around} {h : Heap} (x : Hot A pl) (k : ∀ p ∈ pl, h.get? p.1 = some p.2) : HotS A h := by
  obtain ⟨p, hp, hh, vs, e, z⟩ := x
  refine ⟨p.1, p.2, vs, hh, k p hp, e, ?_⟩
  rcases z with z | ⟨p2, hp2, z, ne, vs2, e2, c2⟩
  · exact .inl z
  · exact .inr ⟨p2.1, p2.2, vs2, z, ne, k p2 hp2, e2, c2⟩
theorem cr_anyH {pl : List (Addr × Obj)} (hc : Hot X.A pl) (hpl : ∀ p ∈ pl, p ∈ X.pn) : CallR X (.builtin "any") (rAny X.K) := by
  intro pins s σ H vs us Q I r h
  obtain ⟨a, bs, rfl, hs, q⟩ := h
  obtain ⟨its, rv, hl, _⟩ := I.list hs
  rw [Vals.ref1 r]
  have hb := rv.bls
  have kp : ∀ p ∈ pl, s.heap.get? p.1 = some p.2 := fun p hp => (I.pin p (List.mem_append_left _ (hpl p hp))).1
  refine call_any_walk (iter_any hl.isList fun s₂ e2 st hne => ?_)
  subst e2
  have kp2 : ∀ p ∈ pl, (s.heap.push { cls := .type "list_iterator", data := .fields #[.ref a, .int 0 0] }).get? p.1 = some p.2 := fun p hp => Heap.get?_push_of_some _ (kp p hp)
  refine ⟨_, _, _, _, _, _, _, rfl, walks_hot (s := { s with heap := s.heap.push { cls := .type "list_iterator", data := .fields #[.ref a, .int 0 0] } }) (A := X.A.in1) (x1 := 0) (l := 0) _ a hne (pl.map (·.1)) (fun b hb => ?_) its.toArray (fun h k => hot_of (A := X.A.in1) hc fun p hp => k p.1 (List.mem_map_of_mem hp) _ (kp2 p hp)), ⟨st.1, st.2, fun b _ o e => e⟩, truth_bools hb, fun h' tk hk => ?_⟩
  · obtain ⟨p, hp, rfl⟩ := List.mem_map.mp hb
    exact Nat.ne_of_lt (Heap.lt_size (kp p hp))
  refine ⟨.bl _, H, I.kept fun b o eo => hk b o (fun hmem => ?_) (Heap.get?_push_of_some _ eo), ?_, q⟩
  · rcases List.mem_cons.mp hmem with e1 | hmem
    · exact absurd (e1 ▸ Heap.lt_size eo) (Nat.lt_irrefl _)
    · cases hmem
  · show Value.bool _ = Value.bool _
    rw [← L2.any_range, hb, List.size_toArray, List.length_map]
end

/-! ### a def that is called there -/
/-- the context of such a def's body: pl, the pins that it may rest on -/
def cxQ (P : Program) (w : World) (K : PySem.W.Frag) (mg : Str → Option Value) (base : Heap) (N : List Str) (qual : Str) (scope : Scope) (f : Addr) (cd : Value) (A : Around) (outer : List Env) (s : Shared) (H : Hp) (pl : List (Addr × Obj)) : Cx :=
  { cxOf CX0 P w K mg base N qual scope f cd A outer s H E0 with calm := false, pn := pl, xe := fun _ _ => False }
structure FnQ (P : Program) (w : World) (K : PySem.W.Frag) (mg : Str → Option Value) (base : Heap) (k : Nat) (f : Addr) (fd : FuncData) (ps : List Str) (sp : List (Addr × Obj) → Sp) : Prop where
  len : ∀ pl vs H Q E, sp pl vs H Q E → vs.length = ps.length
  run : ∀ (A : Around) (outer : List Env) (s : Shared) (H : Hp) (args : Args) (us : List Value) (vs : List V) (Q : VK) (E : XK) (pl : List (Addr × Obj)), L2H.RoomH k A → Hot A pl → (∀ p ∈ pl, L2H.PinOk outer H s p) → Env0 P w K mg base A outer s H → BindsTo s fd args (ps.zip us) → Vals vs us → sp pl vs H Q E →
    codeAny (model P w) A (.call (.ref f) args) (CR CX0 outer P w H s Q E) s
theorem fn_ofQ {P : Program} {w : World} {K : PySem.W.Frag} {mg : Str → Option Value} {base : Heap} {k : Nat} {f : Addr} {x qual : Str} {st : Stmt} {fd : FuncData} {N ps : List Str} {sp : List (Addr × Obj) → Sp} (F : Fun K x qual st f fd) (S : FnScope N ps (defScope st))
    (len : ∀ pl vs H Q E, sp pl vs H Q E → vs.length = ps.length)
    (hbody : ∀ (cdv : Value) (A : Around) (outer : List Env) (s : Shared) (H : Hp) (vs : List V) (Q : VK) (E : XK) (pl : List (Addr × Obj)), Hot A pl → L2H.RoomH k (A.deeper (envOfC qual (defScope st) s.heap.objs.size f cdv)) → sp pl vs H Q E →
      ∃ t, PSs (cxQ P w K mg base N qual (defScope st) f cdv A outer s H pl) (defBody st) t ∧ t { nx := fun _ H' => Q .non H', rt := Q } (L2.start N vs) H) :
    FnQ P w K mg base (k + 1) f fd ps sp := by
  obtain ⟨oc, od, kV, doc, pm, an, cdv, ct, osl, rfl, lk, hcd⟩ := F.ex
  refine ⟨len, fun A outer s H args us vs Q E pl hr hot hpin e0 hb r hsp => ?_⟩
  have hl := len _ _ _ _ _ hsp
  have KX : K.In s.heap := e0.mod.kin.keeps fun b o e => (e0.bs b o e).1
  have lim : s.heap.NoLimit := e0.mod.nolimit.keeps fun b o e => (e0.bs b o e).1
  have hkind : ∀ y ∈ ps.zip us, (defScope st).names.lookup y.1 = some .local ∨ ((defScope st).names.lookup y.1 = some .cell ∧ ((cellsFrom (s.heap.objs.size + 1) (defScope st).names []).lookup y.1).isSome = true) := fun ⟨n, v⟩ hy =>
    (S.par n (List.of_mem_zip hy).1).imp id fun q => ⟨q, PySem.W.cellsFrom_some _ _ _ (.inl q)⟩
  refine codeAny_call_function hr.depth (KX _ _ lk) rfl S.co S.gen rfl (PySem.W.codeRec_of KX hcd) (hb _ _ _ _ ?_)
  refine wpAny_newFunctionEnv_cells S.kind hkind fun env he s1 y => ?_
  subst he
  refine ⟨lim.keeps y.toInCall.keep, codeAny_func ?_⟩
  obtain ⟨t, ht, hq⟩ := hbody cdv A outer s H vs Q E pl hot (hr.deeper _) hsp
  obtain ⟨p0, hp0, _⟩ := id hot
  have I0 := L2H.inv_startH (CX := CX0) (E := E0) (N := N) (f := f) (cd := cdv) (mg := mg) (base := base) (K := K) (A := A) S (hpin p0 hp0) e0 hl r y
  have I : Inv (cxQ P w K mg base N qual (defScope st) f cdv A outer s H pl) [] (L2.start N vs) H s1 :=
    ⟨⟨I0.ok.mod, I0.ok.kind, I0.ok.glob, I0.ok.blt, I0.ok.above, I0.ok.inj, I0.ok.has, I0.ok.cab, fun z => Bool.noConfusion (show false = true from z), I0.ok.frames, I0.ok.stk, I0.ok.exf, I0.ok.bs, I0.ok.bsz, I0.ok.noex, I0.ok.exfs, I0.ok.funs, I0.ok.frf⟩,
      I0.os, I0.bare, I0.base, I0.loc, I0.cell, I0.free, I0.freeC, fun p hp => by
        have hp' : p ∈ pl := by simpa using (show p ∈ pl ++ ([] : List (Addr × Obj)) from hp)
        have z := hpin p hp'
        exact ⟨y.toInCall.keep p.1 p.2 z.get, z.free, Nat.ne_of_lt (Heap.lt_size z.get), z.nofs, z.nocell⟩, I0.hok, I0.len⟩
  refine wpAny_mono (ht.run [] s1 (L2.start N vs) H _ I hq) (fun fl s' hs => ?_) fun e s' hs => False.elim hs
  have fin : ∀ {σ' : Sig} {H' : Hp} {v : V} {u : Value}, Inv (cxQ P w K mg base N qual (defScope st) f cdv A outer s H pl) [] σ' H' s' → RelV v u → Q v H' → CE outer P w H s Q u s' :=
    fun {σ' H' v u} J rv q => ⟨v, H', J.os, J.bare, J.base, J.hok, rv, q⟩
  cases fl with
  | ret u =>
    obtain ⟨v, σ', H', J, rv, q⟩ := hs
    exact fin J rv q
  | next =>
    obtain ⟨σ', H', J, q⟩ := hs
    exact fin (v := V.non) (u := Value.none) J rfl q
  | brk =>
    obtain ⟨_, _, _, q⟩ := hs
    exact False.elim q
  | cont =>
    obtain ⟨_, _, _, q⟩ := hs
    exact False.elim q
def tCallQ (sp' : List V → Hp → VK → Prop) (t : TA) : TE := fun σ H Q => t σ H fun vs H1 => sp' vs H1 Q
theorem hot_chain {A : Around} {a : Addr} {oe : Obj} {pn : List (Addr × Obj)} (h : Chain a oe pn) (e : A.handled = some (.ref a)) : Hot A ((a, oe) :: pn) := by
  obtain ⟨vs, d, z⟩ := h
  refine ⟨(a, oe), List.mem_cons_self, e, vs, d, ?_⟩
  rcases z with z | ⟨p, hp, z, n, r⟩
  · exact .inl z
  · exact .inr ⟨p, List.mem_cons_of_mem _ hp, z, n, r⟩
theorem pe_callQ {X : Cx} {k : Nat} {f : Addr} {fd : FuncData} {ps : List Str} {sp : List (Addr × Obj) → Sp} {x : Str} {q pos : Pos} {e : Expr} {es : List Expr} {t : TA} {pl : List (Addr × Obj)} (F : FnQ X.prog X.w X.K X.mg X.base k f fd ps sp) {sp' : List V → Hp → VK → Prop} (hsp : ∀ vs H Q, sp' vs H Q → sp pl vs H Q E0) (hr : L2H.RoomH k X.A) (hc : Hot X.A pl) (hpl : ∀ p ∈ pl, p ∈ X.pn)
    (hg : Gl X x) (hm : X.mg x = some (.ref f)) (hk : PySem.W.keepIn X.K (.ref f) = true) (hb : Binds X.K fd ps []) (ha : PA X (e :: es) t) (hdb : (x == ("__debug__" : Str)) = false := by decide)
    (he : starEach (e :: es) X.env = (false, eval e X.env) :: starEach es X.env := by rfl) (hpl2 : (backTo pos (starEach es X.env)).any (·.1) = false := by rfl) :
    PE X (.Call (.Name x q) (e :: es) [] pos) (tCallQ sp' t) := by
  refine ⟨fun pins s σ H Q I h => ?_⟩
  refine wpAny_Call_Name_kw (ld_glob I hg hm ?_ hdb)
  refine PySem.W.callWith_K (h₀ := X.base) I.ok.mod.kin hk (thn (ha.run pos pins s σ H _ I h) fun us s1 ⟨vs, H1, I1, r, q0⟩ => ⟨I1.kIn, ?_⟩) he hpl2
  have q := hsp _ _ _ q0
  have hl : us.length = ps.length := by rw [← r.length]; exact F.len _ _ _ _ _ q
  have b := hb s1 us I1.kIn (by rw [List.append_nil]; exact hl)
  rw [List.append_nil] at b
  have hpin : ∀ p ∈ pl, L2H.PinOk X.stack H1 s1 p := fun p hp => by
    have P1 := I1.pin p (List.mem_append_left _ (hpl p hp))
    exact ⟨P1.1, P1.2.1, fun hm => (List.mem_cons.mp (I1.stkSub p.1 hm)).elim P1.2.2.1 P1.2.2.2.1, P1.2.2.2.2⟩
  refine wpAny_call (codeAny_mono (F.run X.A X.stack s1 H1 ⟨us, []⟩ us vs Q E0 pl hr hc hpin I1.env0 b r q) fun r s' hq => ?_)
  cases r with
  | error e => exact False.elim hq
  | ok fl =>
    cases fl with
    | ret u => exact I1.after hq
    | next => exact False.elim hq
    | brk => exact False.elim hq
    | cont => exact False.elim hq
end Qx

/-! BadText(e) raised. -/
namespace Qx
open PySem PySem.Spec PyProof.Rows L2
/-- BadText(e): behind it an error whose own dict d, new, holds at -/
def tMkBt (C : Addr) (ta : TA) : Sig → Hp → XK → Prop := fun σ H Q => ta σ H fun vs H1 => ∃ v, vs = [v] ∧ ∀ d, H1 d = none → Q (.ref C) (some d) (upd H1 d (.xd [(("at" : Str), v)]))
theorem mko_of {C : Addr} {vs : List V} {H1 : Hp} {Q : XK} {v : V} (hv : vs = [v]) (q : ∀ d, H1 d = none → Q (.ref C) (some d) (upd H1 d (.xd [(("at" : Str), v)]))) (a : Addr) (ha : H1 a = none) :
    spBtC C (.ref a :: (vs ++ [])) (upd H1 a (exo a C none)) (fun v H2 => v = .non ∧ ∃ (d : Addr) (fs : List (Str × V)), H2 a = some (exo a C (some d)) ∧ H2 d = some (exd d fs) ∧ H1 d = none ∧ Q (.ref C) (some d) (upd (del H2 a) d (.xd fs))) E0 := by
  subst hv
  refine ⟨a, v, rfl, upd_same, fun dx hdx ne => ⟨rfl, dx, [(("at" : Str), v)], upd_same, ?_, ?_, ?_⟩⟩
  · rw [upd_ne ne, upd_same]
  · rw [upd_ne ne] at hdx
    exact hdx
  · have e : upd (del (upd (upd (upd H1 a (exo a C none)) dx (exd dx [(("at" : Str), v)])) a (exo a C (some dx))) a) dx (.xd [(("at" : Str), v)]) = upd H1 dx (.xd [(("at" : Str), v)]) := by
      funext b
      by_cases h1 : b = dx
      · rw [h1, upd_same, upd_same]
      · rw [upd_ne h1, upd_ne h1]
        by_cases h2 : b = a
        · rw [h2, del_same, ha]
        · rw [del_ne h2, upd_ne h2, upd_ne h1, upd_ne h2]
    rw [e]
    rw [upd_ne ne] at hdx
    exact q dx hdx
section
variable {X : Cx} {C fI : Addr} {fd : FuncData} {e : Expr} {ta : TA} {p pos : Pos} {x : Str}
theorem pmk_bt (T : OexC X.K C) (iC : PySem.W.findIn X.K (.ref C) "__init__" = some (some (.ref fI))) (tI : PySem.W.typeIn X.K (.ref fI) = some (.type "function")) (B : PySem.BtX.BtTxt X.prog X.K X.mg C fI fd) (hb : Binds X.K fd ["self", "at"] [])
    (hr : Room 1 X.A) (hg : Gl X x) (hm : X.mg x = some (.ref C)) (ha : PA X [e] ta)
    (hdb : (x == ("__debug__" : Str)) = false := by decide) (he : starEach (e :: []) X.env = (false, eval e X.env) :: starEach [] X.env := by rfl) (hpl : (backTo pos (starEach [] X.env)).any (·.1) = false := by rfl) :
    L2N.PMk X (.Call (.Name x p) [e] [] pos) (tMkBt C ta) := by
  intro pins s σ H Q I h
  obtain ⟨nm, q, N, bs, bm, sn, sub, ab, col, dd, k0, k1, k2, k3, k5, hC, hbm⟩ := T.cls
  have F1 : FnOk X.prog X.w X.K X.mg X.base CX0 0 fI fd ["self", "at"] (spBtC C) := bt_ok B
  refine wpAny_Call_Name_kw (ld_glob I hg hm ?_ hdb)
  refine PySem.W.callWith_K (h₀ := X.base) I.ok.mod.kin T.kC (thn (ha.run pos pins s σ H _ I h) fun us s1 ⟨vs, H1, I1, r1, v, hv, q1⟩ => ⟨I1.kIn, ?_⟩) he hpl
  show wpAny _ _ (call (.ref C) us) _ _ _
  obtain ⟨hp, g, dr, tk, os⟩ := s1
  have hsz : hp.objs.size ≤ hp.objs.size + 1 := Nat.le_succ _
  have hn : H1 (hp.objs.size + 1) = none := I1.hok.fresh hsz
  have hq := mko_of (C := C) (Q := Q) hv q1 (hp.objs.size + 1) hn
  have kk : ∀ b o, hp.get? b = some o → ((hp.push (PySem.W.kdv_tup us)).push (PySem.HandSPX.excO C hp.objs.size)).get? b = some o := fun b o e => Heap.get?_push_of_some _ (Heap.get?_push_of_some _ e)
  have hget : ((hp.push (PySem.W.kdv_tup us)).push (PySem.HandSPX.excO C hp.objs.size)).get? (hp.objs.size + 1) = some (PySem.HandSPX.excO C hp.objs.size) := by heap_get
  have I2 : Inv X pins σ (upd H1 (hp.objs.size + 1) (exo (hp.objs.size + 1) C none)) ⟨(hp.push (PySem.W.kdv_tup us)).push (PySem.HandSPX.excO C hp.objs.size), g, dr, tk, os⟩ :=
    I1.laid (t' := tk) (a := hp.objs.size + 1) (o := exo (hp.objs.size + 1) C none) (h' := (hp.push (PySem.W.kdv_tup us)).push (PySem.HandSPX.excO C hp.objs.size)) kk hsz (exo_ok hget)
  have r2 : Vals (V.ref (hp.objs.size + 1) :: (vs ++ [])) (Value.ref (hp.objs.size + 1) :: us) := by rw [List.append_nil]; exact .cons rfl r1
  have hl : (Value.ref (hp.objs.size + 1) :: us ++ []).length = (["self", "at"] : List Str).length := by
    have e := r2.length
    rw [F1.len _ _ _ _ hq] at e
    rw [List.append_nil]
    exact e.symm
  have b2 := hb _ (Value.ref (hp.objs.size + 1) :: us) I2.kIn hl
  rw [List.append_nil] at b2
  have hus : us.length ≤ sizeLine := by
    rw [← Paired.length r1, hv, sizeLine_eq]
    exact (by decide : 1 ≤ 16777216)
  refine wpAny_call (PySem.HandSPX.call_own F.excBase_ValueError (fun Y => PySem.HandSPX.refsVE_contains Y bm hbm) (I1.kIn _ _ hC) (PySem.W.looks_findIn I1.kIn iC) (fun self => PySem.W.bind_fn I1.kIn self tI) hus
    (codeAny_mono (F1.run _ X.stack _ _ ⟨Value.ref (hp.objs.size + 1) :: us, []⟩ (Value.ref (hp.objs.size + 1) :: us) _ _ E0 (hr.make C us []) (I2.env0.make C us []) b2 r2 hq) fun r s' hq' => ?_))
  cases r with
  | error er => exact False.elim hq'
  | ok fl =>
    cases fl with
    | ret u =>
      obtain ⟨v, H2, os2, bare2, un2, hok2, rv, ev, d, fs, ea, ed, hd1, q2⟩ := hq'
      subst ev
      obtain ⟨h2, g2, d2, t2, os'⟩ := s'
      obtain ⟨t0, G, J, kG, ge, hoe, na⟩ := mk_end0 (d2 := d2) (t2 := t2) I1 hsz kk un2 hok2 os2 bare2 ea ed hd1
      exact ⟨rv, hp.objs.size + 1, _, _, ⟨G, g2, d2, t2, os'⟩, _, .ref C, some d, rfl, J, kG, ge, hoe, ⟨rfl, rfl, fun vs hv => by cases hv; rfl⟩, rfl, rfl, na, rfl, bare2, raises_own T.exC T.tyC, q2⟩
    | next => exact False.elim hq'
    | brk => exact False.elim hq'
    | cont => exact False.elim hq'
/-- raise BadText(e), nothing handled -/
theorem ps_raiseBt {W : WX} {pos2 : Pos} (hc : X.calm = true) (tk : L2N.Takes X W) (T : OexC X.K C) (iC : PySem.W.findIn X.K (.ref C) "__init__" = some (some (.ref fI))) (tI : PySem.W.typeIn X.K (.ref fI) = some (.type "function")) (B : PySem.BtX.BtTxt X.prog X.K X.mg C fI fd) (hb : Binds X.K fd ["self", "at"] [])
    (hr : Room 1 X.A) (hg : Gl X x) (hm : X.mg x = some (.ref C)) (ha : PA X [e] ta)
    (hdb : (x == ("__debug__" : Str)) = false := by decide) (he : starEach (e :: []) X.env = (false, eval e X.env) :: starEach [] X.env := by rfl) (hpl : (backTo pos (starEach [] X.env)).any (·.1) = false := by rfl) :
    PS X (.Raise (some (.Call (.Name x p) [e] [] pos)) none pos2) (fun _ σ H => tMkBt C ta σ H fun cls d H' => W cls d σ H') :=
  L2N.ps_raise hc tk (pmk_bt T iC tI B hb hr hg hm ha hdb he hpl)
theorem tMk_imp {Y : Cx} {e0 : Expr} {t t' : Sig → Hp → XK → Prop} (h : L2H.PMk5 Y e0 t) (hi : ∀ σ H Q, t' σ H Q → t σ H Q) : L2H.PMk5 Y e0 t' := fun pins s σ H Q I q => h pins s σ H Q I (hi _ _ _ q)
theorem ta_mono_bt {C : Addr} {ta : TA} (hta : ∀ σ H (P P' : List V → Hp → Prop), (∀ vs H', P vs H' → P' vs H') → ta σ H P → ta σ H P') {σ : Sig} {H : Hp} {Q : XK} (h : tMkBt C ta σ H Q) : tMkO C (spBtC C) [] ta σ H Q := by
  refine hta σ H _ _ (fun vs H1 q => ?_) h
  obtain ⟨v, hv, q⟩ := q
  exact ⟨by rw [hv]; exact (by decide : 1 ≤ 1000), fun a ha => mko_of hv q a ha⟩
/-- raise BadText(e) from None, in an except suite -/
theorem ps_raiseBtN {W : WX} {a : Addr} {oe : Obj} {pn : List (Addr × Obj)} {xe : Value → Shared → Prop} {j : Nat} {cpos pos2 : Pos} (hx : ∃ vs, oe.data = .fields vs ∧ vs[2]? = some .none) (tk : Takes (suiteE X a ((a, oe) :: pn) xe) W)
    (T : OexC X.K C) (iC : PySem.W.findIn X.K (.ref C) "__init__" = some (some (.ref fI))) (tI : PySem.W.typeIn X.K (.ref fI) = some (.type "function")) (B : PySem.BtX.BtTxt X.prog X.K X.mg C fI fd) (hb : Binds X.K fd ["self", "at"] [])
    (hr : Room 1 X.A) (hg : Gl X x) (hm : X.mg x = some (.ref C)) (ha : PA (suiteE X a ((a, oe) :: pn) xe) [e] ta) (hta : ∀ σ H (P P' : List V → Hp → Prop), (∀ vs H', P vs H' → P' vs H') → ta σ H P → ta σ H P')
    (hdb : (x == ("__debug__" : Str)) = false := by decide) (he : starEach (e :: []) X.env = (false, eval e X.env) :: starEach [] X.env := by rfl) (hpl : (backTo pos (starEach [] X.env)).any (·.1) = false := by rfl) :
    PS (suiteE X a ((a, oe) :: pn) xe) (.Raise (some (.Call (.Name x p) [e] [] pos)) (some (.Constant .none j cpos)) pos2) (fun _ σ H => tMkBt C ta σ H fun cls d H' => W cls d σ H') := by
  have hc : L2H.HotC (suiteE X a ((a, oe) :: pn) xe) := ⟨(a, oe), ⟨rfl, hx⟩, List.mem_cons_self⟩
  have mk5 : L2H.PMk5 (suiteE X a ((a, oe) :: pn) xe) (.Call (.Name x p) [e] [] pos) (tMkBt C ta) :=
    tMk_imp (L2H.pmk5_oexH (CX := CX0) (X := suiteE X a ((a, oe) :: pn) xe) T iC tI (bt_okH (k := 0) B) (L2H.roomH_mark hr _) hc hb (fun _ _ _ _ _ _ _ h => h.elim) hg hm ha hdb he hpl) fun σ H Q h => ta_mono_bt hta h
  refine ⟨fun pins s σ H D I h => ?_⟩
  obtain ⟨vx, dx, cx⟩ := hx
  show wpAny _ _ (do standAt pos2; raiseStmt X.env (some (do let v ← eval (.Call (.Name x p) [e] [] pos) X.env; standAt pos2; pure v)) (some (do let v ← eval (.Constant .none j cpos) X.env; standAt pos2; pure v))) _ _ _
  refine wpAny_bind (wpAny_standAt (HotX.raise_made_hotN (x1 := a) (fun s2 Q2 q2 => wpAny_bind (Constant_none (wpAny_bind (wpAny_standAt (wpAny_pure q2))))) (wpAny_bind (wpAny_mono (mk5 pins s σ H _ I h) (fun u s1 hu => wpAny_bind (wpAny_standAt (wpAny_pure ?_))) fun _ _ x => x))))
  obtain ⟨⟨b, ob, vs, sI, H', cls, d, rfl, J, k, hne, hb1, hz, hd, h1, na, os, ag, r, q⟩, h5⟩ := hu
  have hi : 4 < vs.size := h5 b ob vs rfl hb1 hd
  have nab : ∀ {y : Addr} {u : Obj}, sI.heap.get? y = some u → b ≠ y := fun {y u} z e => by
    rw [← e, hne] at z
    cases z
  have k4 : ∀ y u, sI.heap.get? y = some u → (HotX.noneFrom s1.heap b).get? y = some u := fun y u z => (HotX.noneFrom_other (nab z)).trans (k y u z)
  obtain ⟨r1, _⟩ := r (model X.prog X.w) s1.heap (J.kIn.keeps k)
  obtain ⟨_, r2⟩ := r (model X.prog X.w) (HotX.noneFrom s1.heap b) (J.kIn.keeps k4)
  have P1 := (J.pin (a, oe) (List.mem_append_left _ List.mem_cons_self)).1
  obtain ⟨hb4, hd4⟩ := HotX.noneFrom_at hb1 hd
  have h12 : (((vs.setIfInBounds 3 Value.none).setIfInBounds 4 (Value.bool true)).setIfInBounds 2 (Value.ref a))[1]? = some Value.none := HotX.set_other (by decide) (HotX.set_other (by decide) (HotX.set_other (by decide) h1))
  have h22 : (((vs.setIfInBounds 3 Value.none).setIfInBounds 4 (Value.bool true)).setIfInBounds 2 (Value.ref a))[2]? = some (Value.ref a) := by
    have : 2 < vs.size := by omega
    simp [Array.getElem?_setIfInBounds, this]
  refine ⟨b, ob, vs, cls, rfl, hb1, hz.1, hd, h1, hi, (nab P1).symm, ⟨rfl, oe, vx, k _ _ P1, dx, cx⟩, r1, r2, tk _ _ ?_⟩
  refine Air.new J (fun y u z => ?_) hne (Heap.get?_update_self _ hb4 (Obj.isFreed_of_fields (Obj.data_mapFields hd4 _))) (by rw [Obj.cls_mapFields, Obj.cls_mapFields, Obj.cls_mapFields]; exact hz.1) (by rw [HandSPX.dict_mapFields, HandSPX.dict_mapFields, HandSPX.dict_mapFields]; exact hz.2.1)
    (fun w ew => .inr ⟨(a, oe), List.mem_append_left _ List.mem_cons_self, ?_, vx, dx, cx⟩) (Obj.data_mapFields hd4 _) h12 na os ag q
  · show ((HotX.noneFrom s1.heap b).update b (Obj.mapFields (·.setIfInBounds 2 (.ref a)))).get? y = some u
    rw [Heap.get?_update_other _ _ (nab z)]
    exact k4 y u z
  · have e2 := (Obj.data_mapFields hd4 (·.setIfInBounds 2 (.ref a))).symm.trans ew
    injection e2 with e2
    rw [← e2]
    exact h22
end
end Qx

/-! Small rules; how a def stands; values in memory; the state of the draws. -/
namespace K93
open PySem PySem.Spec PyProof.Rows L2 TL

/-! ### rules -/
section
variable {X : Cx}
theorem get_list : PGet X (fun o i H Q => ∃ (p : Addr) (xs : List V) (k : Nat) (v : V), o = .ref p ∧ i = .int k ∧ H p = some (.lst xs) ∧ xs[k]? = some v ∧ Q v H) := by
  intro pins s σ H o i ov iv Q I ro ri h
  obtain ⟨p, xs, k, v, rfl, rfl, hp, hv, q⟩ := h
  cases ro
  obtain ⟨t, rfl⟩ := ri
  obtain ⟨its, r, pl, hz⟩ := I.list (.inl (.inl hp))
  obtain ⟨w, ew, rw'⟩ := r.get hv
  have hk := (List.getElem?_eq_some_iff.mp hv).1
  have hs := sizeLine_eq
  refine wpAny_getItem_list pl.isList (by omega) (by omega) (x := w) (by simpa using ew) ⟨v, H, I, rw', q⟩
theorem foldl_app : ∀ (n : Nat) (a acc : Array Nat), ((List.replicate n a).foldl (· ++ ·) acc).toList = acc.toList ++ (List.replicate n a.toList).flatten
  | 0, a, acc => by simp
  | n + 1, a, acc => by
    rw [List.replicate_succ, List.foldl_cons, foldl_app n a (acc ++ a), List.replicate_succ, List.flatten_cons]
    simp
theorem tl_mul (x : Str) (n : Nat) : tl (Txt.mul x (n : Int)) = (List.replicate n (tl x)).flatten := by
  unfold Txt.mul
  split
  · have : n = 0 := by omega
    rw [this]; rfl
  · split
    · rename_i h1 h2
      rcases Bool.or_eq_true _ _ ▸ h2 with h | h
      · have h' : (n : Int) = 1 := by simpa using h
        have : n = 1 := by omega
        rw [this]; simp
      · have e : x.length = 0 := by simpa using h
        have e2 : tl x = [] := List.length_eq_zero_iff.mp (by rw [← len_tl]; exact e)
        rw [e2]; simp
    · show (((List.replicate (n : Int).toNat x.cps).foldl (· ++ ·) #[])).toList = _
      rw [foldl_app]
      rfl
theorem op_mul_str : OpR X (binaryOp .Mult) (fun x y H Q => ∃ (a : Str) (n : Nat), x = .str a ∧ y = .int n ∧ a.length ≤ 16 ∧ n ≤ 1000000 ∧ Q (.str (mk (List.replicate n (tl a)).flatten)) H) := by
  intro pins s σ H x y v u Q I rx ry h
  obtain ⟨a, n, rfl, rfl, ha, hn, q⟩ := h
  obtain ⟨t, rfl⟩ := rx
  obtain ⟨t', rfl⟩ := ry
  refine PySem.SB.mul (PyProof.Rows.mulOk_of 16 1000000 ha (by omega) (by omega) (by decide) (by decide)) fun t' k => ?_
  have e : Txt.mul a (n : Int) = mk (List.replicate n (tl a)).flatten := by
    rw [← mk_tl' (Txt.mul a n), tl_mul]
  rw [e]
  exact ⟨.str _, H, I.tok _, ⟨t', rfl⟩, q⟩
end

/-! ### how a def stands -/
structure Df (P : Program) (w : World) (K : PySem.W.Frag) (mg : Str → Option Value) (base : Heap) (CX : CXT) (k : Nat) (x : Str) (ps : List Str) (sp : Sp) : Prop where
  ex : ∃ (f : Addr) (fd : FuncData), FnOk P w K mg base CX k f fd ps sp ∧ Binds K fd ps [] ∧ PySem.W.keepIn K (.ref f) = true ∧ mg x = some (.ref f)
theorem Df.mono {P : Program} {w : World} {K : PySem.W.Frag} {mg : Str → Option Value} {base : Heap} {CX : CXT} {j k : Nat} {x : Str} {ps : List Str} {sp : Sp} (D : Df P w K mg base CX j x ps sp) (h : j ≤ k) : Df P w K mg base CX k x ps sp := by
  obtain ⟨f, fd, F, r⟩ := D.ex
  exact ⟨f, fd, F.mono h, r⟩
theorem Df.imp {P : Program} {w : World} {K : PySem.W.Frag} {mg : Str → Option Value} {base : Heap} {CX : CXT} {k : Nat} {x : Str} {ps : List Str} {sp sp' : Sp} (D : Df P w K mg base CX k x ps sp) (h : ∀ vs H Q E, sp' vs H Q E → sp vs H Q E) : Df P w K mg base CX k x ps sp' := by
  obtain ⟨f, fd, F, r⟩ := D.ex
  exact ⟨f, fd, F.imp h, r⟩
def tD (sp : Sp) (t : TA) : TE := fun σ H Q => t σ H fun vs H1 => sp vs H1 Q E0
section
variable {X : Cx} {CX : CXT} {k : Nat} {ps : List Str} {sp : Sp} {x : Str} {p pos : Pos} {e : Expr} {es : List Expr} {t : TA} {E : L2.St → XK}
theorem pe_d (D : Df X.prog X.w X.K X.mg X.base CX0 k x ps sp) (hr : Room k X.A) (ha : PA X (e :: es) t) (hg : Gl X x := by rfl) (hdb : (x == ("__debug__" : Str)) = false := by decide)
    (he : starEach (e :: es) X.env = (false, eval e X.env) :: starEach es X.env := by rfl) (hpl : (backTo pos (starEach es X.env)).any (·.1) = false := by rfl) : PE X (.Call (.Name x p) (e :: es) [] pos) (tD sp t) := by
  obtain ⟨f, fd, F, b, kp, m⟩ := D.ex
  exact pe_callS (CX := CX0) (E := fun _ => E0) F hr hg m kp b (fun _ _ _ _ _ _ _ h => h.elim) ha hdb he hpl
theorem pe_d0 (D : Df X.prog X.w X.K X.mg X.base CX0 k x [] sp) (hr : Room k X.A) (hg : Gl X x := by rfl) (hdb : (x == ("__debug__" : Str)) = false := by decide) :
    PE X (.Call (.Name x p) [] [] pos) (fun _ H Q => sp [] H Q E0) := by
  obtain ⟨f, fd, F, b, kp, m⟩ := D.ex
  exact pe_call0 (CX := CX0) (E := E0) F hr hg m kp b .nil pass0 hdb
/-- a def that may raise -/
theorem pe_dS (D : Df X.prog X.w X.K X.mg X.base CX k x ps sp) (hr : Room k X.A) (hx : ∀ σ, PassesAt CX X σ (E σ)) (ha : PA X (e :: es) t) (hg : Gl X x := by rfl) (hdb : (x == ("__debug__" : Str)) = false := by decide)
    (he : starEach (e :: es) X.env = (false, eval e X.env) :: starEach es X.env := by rfl) (hpl : (backTo pos (starEach es X.env)).any (·.1) = false := by rfl) : PE X (.Call (.Name x p) (e :: es) [] pos) (tCallS sp E t) := by
  obtain ⟨f, fd, F, b, kp, m⟩ := D.ex
  exact pe_callS F hr hg m kp b hx ha hdb he hpl
end
theorem df_mk {P : Program} {w : World} {K : PySem.W.Frag} {mg : Str → Option Value} {base : Heap} {CX : CXT} {k : Nat} {x : Str} {ps : List Str} {sp : Sp} {f : Addr} {fd : FuncData} (F : FnOk P w K mg base CX k f fd ps sp) (b : Binds K fd ps []) (kp : PySem.W.keepIn K (.ref f) = true) (m : mg x = some (.ref f)) :
    Df P w K mg base CX k x ps sp := ⟨f, fd, F, b, kp, m⟩

/-- the built-ins' names are free -/
structure Mo (mg : Str → Option Value) : Prop where
  len : mg "len" = none
  isinstance : mg "isinstance" = none
  tuple : mg "tuple" = none
  str : mg "str" = none
  int : mg "int" = none
  bool : mg "bool" = none
  abs : mg "abs" = none
  all : mg "all" = none
  any : mg "any" = none
  range : mg "range" = none
  DEPTH_LIMIT : ∃ t, mg "DEPTH_LIMIT" = some (.int 60 t)
  DIGITS_LIMIT : ∃ t, mg "DIGITS_LIMIT" = some (.int 300 t)

/-! ### a value in memory -/
inductive At (H : Hp) : V → Val → Prop
  | int (i : Int) : At H (.int i) (.int i)
  | str (s : Str) : At H (.str s) (.str s)
  | tup {a : Addr} {xs : List V} {l : List Val} : H a = some (.tup xs) → xs.length ≤ 1000000 → xs.length = l.length → (∀ (i : Nat) (v : V) (x : Val), xs[i]? = some v → l[i]? = some x → At H v x) → At H (.ref a) (.tup l)
/-- the tuples stand -/
def Tk (H H' : Hp) : Prop := ∀ a xs, H a = some (.tup xs) → H' a = some (.tup xs)
theorem Tk.refl (H : Hp) : Tk H H := fun _ _ h => h
theorem Tk.trans {H H1 H2 : Hp} (a : Tk H H1) (b : Tk H1 H2) : Tk H H2 := fun c xs h => b c xs (a c xs h)
theorem Same.tk {H H' : Hp} (s : Same H H') : Tk H H' := fun a xs h => s a _ h
theorem tk_new {H : Hp} {p : Addr} (h : H p = none) (o : HO) : Tk H (upd H p o) := fun a xs q => by rw [upd_ne (ne_of_none q h)]; exact q
theorem At.mono {H H' : Hp} (t : Tk H H') {v : V} {x : Val} (h : At H v x) : At H' v x := by
  induction h with
  | int i => exact .int i
  | str s => exact .str s
  | tup e hb hl _ ih => exact .tup (t _ _ e) hb hl ih
def Ats (H : Hp) (xs : List V) (l : List Val) : Prop := xs.length = l.length ∧ ∀ (i : Nat) (v : V) (x : Val), xs[i]? = some v → l[i]? = some x → At H v x
theorem Ats.mono {H H' : Hp} (t : Tk H H') {xs : List V} {l : List Val} (h : Ats H xs l) : Ats H' xs l := ⟨h.1, fun i v x a b => (h.2 i v x a b).mono t⟩
theorem Ats.nil {H : Hp} : Ats H [] [] := ⟨rfl, fun i v x a b => by simp at a⟩
theorem Ats.snoc {H : Hp} {xs : List V} {l : List Val} {v : V} {x : Val} (h : Ats H xs l) (hv : At H v x) : Ats H (xs ++ [v]) (l ++ [x]) := by
  refine ⟨by simp [h.1], fun i u y a b => ?_⟩
  by_cases hi : i < xs.length
  · rw [List.getElem?_append_left hi] at a
    rw [List.getElem?_append_left (by rw [← h.1]; exact hi)] at b
    exact h.2 i u y a b
  · rw [List.getElem?_append_right (by omega)] at a
    rw [List.getElem?_append_right (by rw [← h.1]; omega)] at b
    have e : i - xs.length = 0 := by
      cases q : i - xs.length with
      | zero => rfl
      | succ n => rw [q] at a; simp at a
    rw [e] at a
    rw [← h.1, e] at b
    have e1 : v = u := by simpa using a
    have e2 : x = y := by simpa using b
    rw [← e1, ← e2]; exact hv
theorem Ats.at {H : Hp} {a : Addr} {xs : List V} {l : List Val} (h : Ats H xs l) (e : H a = some (.tup xs)) (hb : xs.length ≤ 1000000) : At H (.ref a) (.tup l) := .tup e hb h.1 h.2
theorem At.of_tup {H : Hp} {v : V} {l : List Val} (h : At H v (.tup l)) : ∃ a xs, v = .ref a ∧ H a = some (.tup xs) ∧ Ats H xs l ∧ xs.length ≤ 1000000 := by
  cases h with
  | tup e hb hl hi => exact ⟨_, _, rfl, e, ⟨hl, hi⟩, hb⟩
theorem Ats.get {H : Hp} {xs : List V} {l : List Val} (h : Ats H xs l) {i : Nat} (hi : i < l.length) : ∃ v x, xs[i]? = some v ∧ l[i]? = some x ∧ At H v x :=
  ⟨_, _, List.getElem?_eq_getElem (by rw [h.1]; exact hi), List.getElem?_eq_getElem hi, h.2 i _ _ (List.getElem?_eq_getElem (by rw [h.1]; exact hi)) (List.getElem?_eq_getElem hi)⟩
theorem Ats.some {H : Hp} {xs : List V} {l : List Val} (h : Ats H xs l) {i : Nat} {v : V} (e : xs[i]? = some v) : ∃ x, l[i]? = some x ∧ At H v x := by
  have hi := (List.getElem?_eq_some_iff.mp e).1
  rw [h.1] at hi
  exact ⟨_, List.getElem?_eq_getElem hi, h.2 i _ _ e (List.getElem?_eq_getElem hi)⟩
theorem ats_one {H : Hp} {v : V} {x : Val} (h : At H v x) : Ats H [v] [x] := Ats.nil.snoc h

/-! ### what draws leave alone -/
def But (d : Addr) (H H' : Hp) : Prop := ∀ b o, b ≠ d → H b = some o → H' b = some o
theorem But.refl (d : Addr) (H : Hp) : But d H H := fun _ _ _ h => h
theorem But.trans {d : Addr} {H H1 H2 : Hp} (a : But d H H1) (b : But d H1 H2) : But d H H2 := fun c o n h => b c o n (a c o n h)
theorem Same.but {d : Addr} {H H' : Hp} (s : Same H H') : But d H H' := fun b o _ h => s b o h
theorem same_new {H : Hp} {p : Addr} (h : H p = none) (o : HO) : Same H (upd H p o) := fun b u q => by rw [upd_ne (ne_of_none q h)]; exact q
/-- the state of the draws: cells, place, rest, the seed, a spare -/
structure Dr (H : Hp) (d c : Addr) : Prop where
  ex : ∃ (ns : List Int) (k f x z : Int), H d = some (.lst [.ref c, .int k, .int f, .int x, .int z]) ∧ H c = some (.lst (ns.map V.int)) ∧ c ≠ d ∧ 0 ≤ k
theorem Dr.lst {H : Hp} {d c : Addr} (h : Dr H d c) : ∃ xs, H d = some (.lst xs) := by
  obtain ⟨ns, k, f, x, z, e, _⟩ := h.ex
  exact ⟨_, e⟩
theorem Dr.but {H H' : Hp} {d c : Addr} (h : Dr H d c) (b : Same H H') : Dr H' d c := by
  obtain ⟨ns, k, f, x, z, e, e2, n⟩ := h.ex
  exact ⟨ns, k, f, x, z, b _ _ e, b _ _ e2, n⟩
theorem But.tk {d c : Addr} {H H' : Hp} (b : But d H H') (h : Dr H d c) : Tk H H' := fun a xs e => by
  obtain ⟨ys, e2⟩ := h.lst
  exact b a _ (fun z => by rw [z, e2] at e; cases e) e
theorem But.keep {d a : Addr} {H H' : Hp} {o : HO} (b : But d H H') (n : a ≠ d) (h : H a = some o) : H' a = some o := b a o n h
theorem Dr.new {H : Hp} {d c p : Addr} (h : Dr H d c) (n : H p = none) (o : HO) : Dr (upd H p o) d c := h.but (same_new n o)
theorem Dr.ne {H : Hp} {d c p : Addr} (h : Dr H d c) (n : H p = none) : p ≠ d := fun z => by
  obtain ⟨ys, e2⟩ := h.lst
  rw [z, e2] at n; cases n
theorem Dr.nec {H : Hp} {d c p : Addr} (h : Dr H d c) (n : H p = none) : p ≠ c := fun z => by
  obtain ⟨_, _, _, _, _, _, e2, _⟩ := h.ex
  rw [z, e2] at n; cases n
theorem Dr.put {H : Hp} {d c p : Addr} (h : Dr H d c) (n : p ≠ d) (n2 : p ≠ c) (o : HO) : Dr (upd H p o) d c := by
  obtain ⟨ns, k, f, x, z, e, e2, n'⟩ := h.ex
  exact ⟨ns, k, f, x, z, by rw [upd_ne n.symm]; exact e, by rw [upd_ne n2.symm]; exact e2, n'⟩
theorem But.put {d p : Addr} {H H' : Hp} (b : But d H H') (n : H p = none) (o : HO) : But d H (upd H' p o) := fun a u h e => by
  rw [upd_ne (ne_of_none e n)]; exact b a u h e
theorem Same.put {p : Addr} {H H' : Hp} (b : L2.Same H H') (n : H p = none) (o : HO) : L2.Same H (upd H' p o) := fun a u e => by
  rw [upd_ne (ne_of_none e n)]; exact b a u e
/-- the frame of a call that draws -/
structure Fr (d c : Addr) (H H' : Hp) : Prop where
  b : But d H H'
  d : Dr H' d c
theorem Fr.trans {d c : Addr} {H H1 H2 : Hp} (a : Fr d c H H1) (b : Fr d c H1 H2) : Fr d c H H2 := ⟨a.b.trans b.b, b.d⟩
theorem Fr.refl {d c : Addr} {H : Hp} (h : Dr H d c) : Fr d c H H := ⟨.refl _ _, h⟩
theorem Fr.same {d c : Addr} {H H1 H2 : Hp} (a : Fr d c H H1) (s : L2.Same H1 H2) : Fr d c H H2 := ⟨a.b.trans (Same.but s), a.d.but s⟩
theorem Fr.new {d c p : Addr} {H H1 : Hp} (a : Fr d c H H1) (n : H1 p = none) (o : HO) : Fr d c H (upd H1 p o) := a.same (same_new n o)
/-- a list that was new at H, stored to -/
theorem Fr.put {d c p : Addr} {H H1 : Hp} (a : Fr d c H H1) (h : Dr H d c) (n : H p = none) (o : HO) : Fr d c H (upd H1 p o) := ⟨a.b.put n o, a.d.put (h.ne n) (h.nec n) o⟩
theorem Fr.at {d c p : Addr} {H H1 : Hp} {o : HO} (a : Fr d c H H1) (n : p ≠ d) (h : H p = some o) : H1 p = some o := a.b p o n h
theorem Fr.tk {d c : Addr} {H H1 : Hp} (a : Fr d c H H1) (h : Dr H d c) : Tk H H1 := a.b.tk h
end K93

/-! The draws. -/
namespace K93
open PySem PySem.Spec PyProof.Rows L2 TL
abbrev top := PySem.BtX.top

/-- isinstance(e, T), T a built-in type: the reading asks [e] _, rfl, _, _, TyX, kitB, rest -/
def rIsiB (K : PySem.W.Frag) (T : String) : List V → Hp → VK → Prop := fun xs H Q => ∃ v, xs = [v, .ty T] ∧ ∃ (t : String) (b : Bool), TyX K H v (.type t) ∧ kitB t T = some b ∧ Q (.bl b) H
theorem call_isiB {X : Cx} {T : String} : CallR X (.builtin "isinstance") (rIsiB X.K T) := by
  intro pins s σ H xs us Q I r h
  obtain ⟨v, e, t, b, ty, k, q⟩ := h
  exact call_isi pins s σ H xs us Q I r ⟨v, .ty T, .type t, .type T, b, e, .ty T, ty, kit_ty k, q⟩
theorem pe_isi {X : Cx} {e : Expr} {te : TE} {p q pos : Pos} {y : Str} (T : String) (hi : X.mg "isinstance" = none) (hT : X.mg y = none) (he : PE X e te) (hgi : Gl X "isinstance" := by rfl) (hg : Gl X y := by rfl) (hv : bootBuiltins y = some (.type T) := by decide +kernel)
    (hn : y ≠ "__name__" := by decide) (hd : (y == ("__debug__" : Str)) = false := by decide)
    (h1 : starEach (e :: [.Name y q]) X.env = (false, eval e X.env) :: starEach [.Name y q] X.env := by rfl) (h2 : (backTo pos (starEach [.Name y q] X.env)).any (·.1) = false := by rfl)
    (h3 : starEach (e :: [.Name y q]) X.env = (false, eval e X.env) :: starEach [.Name y q] X.env := by rfl) (h4 : starEach [.Name y q] X.env = (false, eval (.Name y q) X.env) :: starEach [] X.env := by rfl) :
    PE X (.Call (.Name "isinstance" p) [e, .Name y q] [] pos) (tCB (rIsiB X.K T) (tCons te (tCons (tC (V.ty T)) tNil))) :=
  pe_callB (p := p) (pos := pos) (call_isiB (X := X) (T := T)) hgi hi (by decide +kernel) (pa_cons he (pa_cons (pe_bltn (pos := q) (v := V.ty T) hg hT hv rfl hn hd) pa_nil h4) h3) (by decide) (by decide) h1 h2
def tyn : Val → String
  | .int _ => "int"
  | .str _ => "str"
  | .tup _ => "tuple"
theorem At.ty {K : PySem.W.Frag} {H : Hp} {v : V} {x : Val} (h : At H v x) : TyX K H v (.type (tyn x)) := by
  cases h with
  | int i => exact .base (.int i)
  | str s => exact .base (.str s)
  | tup e _ _ _ => exact .base (.tup e)
theorem k_int_int : kitB "int" "int" = some true := by decide +kernel
theorem k_int_str : kitB "int" "str" = some false := by decide +kernel
theorem k_int_tuple : kitB "int" "tuple" = some false := by decide +kernel
theorem k_int_bool : kitB "int" "bool" = some false := by decide +kernel
theorem k_str_int : kitB "str" "int" = some false := by decide +kernel
theorem k_str_str : kitB "str" "str" = some true := by decide +kernel
theorem k_str_tuple : kitB "str" "tuple" = some false := by decide +kernel
theorem k_str_bool : kitB "str" "bool" = some false := by decide +kernel
theorem k_tuple_int : kitB "tuple" "int" = some false := by decide +kernel
theorem k_tuple_str : kitB "tuple" "str" = some false := by decide +kernel
theorem k_tuple_tuple : kitB "tuple" "tuple" = some true := by decide +kernel
theorem k_tuple_bool : kitB "tuple" "bool" = some false := by decide +kernel
section
variable {P : Program} {w : World} {K : PySem.W.Frag} {mg : Str → Option Value} {base : Heap} {f : Addr} {fd : FuncData}
theorem big (n : Nat) (h : n ≤ 1000000) : n ≤ sizeLine := Nat.le_trans h (by decide)

/-! ### the start -/
def spBegin (K : PySem.W.Frag) : Sp := fun vs H Q _ => ∃ (a : Addr) (ns : List Int), vs = [.ref a] ∧ SqL K H a (ns.map V.int) ∧ ns.length ≤ 63 ∧ ∀ d c H', Same H H' → Dr H' d c → Q (.ref d) H'
abbrev sLawBegin : Stmt := top 22
theorem scLawBegin : FnScope ["script", "cell"] ["script"] (defScope sLawBegin) := ⟨rfl, rfl, rfl, by decide +kernel, rfl, by decide +kernel, by decide +kernel⟩
theorem map_get {ns : List Int} {i : Nat} {x : V} (h : (ns.map V.int)[i]? = some x) : ∃ n, ns[i]? = some n ∧ x = .int n := by
  rw [List.getElem?_map] at h
  cases e : ns[i]? with
  | none => rw [e] at h; cases h
  | some n => rw [e] at h; exact ⟨n, rfl, (Option.some.inj h).symm⟩
theorem ok_begin (T : Mo mg) (F : Fun K "_law_begin" "_law_begin" sLawBegin f fd) : FnOk P w K mg base CX0 1 f fd ["script"] (spBegin K) := by
  refine F.ok scLawBegin (fun vs H Q E h => ?_) (fun cdv A outer s H vs Q E hr h => ?_)
  · obtain ⟨a, ns, rfl, _⟩ := h
    rfl
  obtain ⟨a, ns, rfl, hS, h63, q⟩ := h
  refine ⟨_, (pss_one (ps_ret (pe_lst (pa_cons (pe_lc (own := [("cell", 1)]) (g := gName 1) (tt := tYes) rfl scLawBegin.nd (pi_list (pv 0)) (blkOk_by (own := [("cell", 1)]) (N := ["script", "cell"]) (sc := defScope sLawBegin) (by decide +kernel)) (fun _ _ _ _ _ => pg_name (i := 1) scLawBegin.nd rfl (Or.inl rfl)) (fun _ _ _ _ _ => pts_nil) (fun _ _ _ _ _ => (pe_callTy call_int1 (by rfl) T.int (by decide +kernel) (pa_cons (pv 1) pa_nil)))) (pa_cons pe_int (pa_cons pe_int (pa_cons pe_int (pa_cons pe_int pa_nil)))))))), ?_⟩
  refine ⟨_, rfl, a, rfl, ⟨_, hS⟩, fun D hD => lc_list (K := K) (a := a) (xs := ns.map V.int) (fun i H' => Same H H' ∧ H' D = some (.lst ((ns.take i).map V.int))) ⟨same_new hD _, by rw [upd_same]; rfl⟩ (fun i H' _ z => z.1.seq hS) (fun i x H' hx z => ?_) (fun H' z => ?_)⟩
  · obtain ⟨n, hn, rfl⟩ := map_get hx
    have hlt := (List.getElem?_eq_some_iff.mp hn).1
    refine ⟨rfl, _, rfl, .inl ⟨_, rfl, _, z.2, ?_, fun b o e => ?_, ?_⟩⟩
    · rw [List.length_map, List.length_take]; exact Nat.lt_of_le_of_lt (show _ ≤ 63 by omega) (by decide)
    · have : b ≠ D := ne_of_none e hD
      rw [upd_ne this]; exact z.1 b o e
    · rw [upd_same, List.take_add_one, hn]; simp
  · rw [List.length_map, List.take_length] at z
    refine ⟨big 5 (by decide), fun p hp => ?_⟩
    exact q p D _ (z.1.trans (same_new hp _)) ⟨ns, 0, 0, 7, 0, upd_same, by rw [upd_ne (ne_of_none z.2 hp)]; exact z.2, ne_of_none z.2 hp, Int.le_refl _⟩

/-! ### a draw -/
def spDraw : Sp := fun vs H Q _ => ∃ (d c : Addr) (m : Int), vs = [.ref d, .int m] ∧ Dr H d c ∧ 0 < m ∧ m < 1073741824 ∧ ∀ r H', Fr d c H H' → 0 ≤ r → r < m → Q (.int r) H'
abbrev sLawDraw : Stmt := top 23
theorem scLawDraw : FnScope ["d", "many", "found", "size", "cell"] ["d", "many"] (defScope sLawDraw) := ⟨rfl, rfl, rfl, by decide +kernel, rfl, by decide +kernel, by decide +kernel⟩
theorem pow_ne (n : Nat) : (1 * 2 ^ n : Int) ≠ 0 := by
  rw [Int.one_mul]
  exact Int.ne_of_gt (Int.pow_pos (by decide))
theorem k1n {k : Int} (h : 0 ≤ k) : 0 ≤ (fun i j : Int => i + j) k 1 := by
  show 0 ≤ k + 1
  omega
theorem but_upd {d : Addr} {H : Hp} {o : HO} : But d H (upd H d o) := fun b u n h => by rw [upd_ne n]; exact h
theorem fmod_in {a m : Int} (h : 0 < m) : 0 ≤ a.fmod m ∧ a.fmod m < m := ⟨Int.fmod_nonneg_of_pos a h, Int.fmod_lt_of_pos a h⟩
theorem atI_in {xs : List V} {k : Int} (h0 : 0 ≤ k) (h : k < (xs.length : Int)) : ∃ v, atI xs k = some v ∧ xs[k.toNat]? = some v := by
  have hk : k.toNat < xs.length := by omega
  have ek : k = ((k.toNat : Nat) : Int) := by omega
  refine ⟨xs[k.toNat], ?_, List.getElem?_eq_getElem hk⟩
  have q := atI_nat (List.getElem?_eq_getElem hk)
  rw [← ek] at q
  exact q
theorem ok_draw (T : Mo mg) (F : Fun K "_law_draw" "_law_draw" sLawDraw f fd) : FnOk P w K mg base CX0 1 f fd ["d", "many"] spDraw := by
  refine F.ok scLawDraw (fun vs H Q E h => ?_) (fun cdv A outer s H vs Q E hr h => ?_)
  · obtain ⟨d, c, m, rfl, _⟩ := h
    rfl
  obtain ⟨d, c, m, rfl, D, m0, m1, q⟩ := h
  obtain ⟨ns, k, fo, x, z, ed, ec, ncd, k0⟩ := D.ex
  have mN : m ≠ 0 ∧ m.natAbs < 1073741824 := ⟨by omega, by omega⟩
  have fin : ∀ (H1 : Hp) (a : Int), But d H H1 → Dr H1 d c → Q (.int (a.fmod m)) H1 := fun H1 a b e => q _ _ ⟨b, e⟩ (fmod_in m0).1 (fmod_in m0).2
  have dr : ∀ (H1 : Hp) (k' f' x' z' : Int), 0 ≤ k' → H1 c = some (.lst (ns.map V.int)) → Dr (upd H1 d (.lst [.ref c, .int k', .int f', .int x', .int z'])) d c := fun H1 k' f' x' z' hk e1 => ⟨ns, k', f', x', z', upd_same, by rw [upd_ne ncd]; exact e1, ncd, hk⟩
  refine ⟨_, (pss_cons (ps_if (pt_cmpR op_gt (pe_ix ix_list (pv 0) pe_int (fun _ _ => rfl)) pe_int (nomark _)) (pss_cons (ps_set (i := 2) scLawDraw.nd rfl (Or.inl rfl) (pe_ix ix_list (pv 0) pe_int (fun _ _ => rfl))) (pss_cons (ps_asg (pe_op op_fdivN (pv 2) (pv 1)) (pg_sub (pv 0) pe_int set_list)) (pss_one (ps_ret (pe_op op_modN (pe_callTy call_int1 (by rfl) T.int (by decide +kernel) (pa_cons (pv 2) pa_nil)) (pv 1)))))) pss_nil) (pss_cons (ps_set (i := 3) scLawDraw.nd rfl (Or.inl rfl) pe_int) (pss_cons (ps_if (pt_cmpR op_lt (pe_ix ix_list (pv 0) pe_int (fun _ _ => rfl)) (pe_callB call_len_seq (by rfl) T.len PySem.boot_len (pa_cons (pe_ix ix_list (pv 0) pe_int (fun _ _ => rfl)) pa_nil)) (nomark _)) (pss_cons (ps_set (i := 4) scLawDraw.nd rfl (Or.inl rfl) (pe_ix ix_list (pe_ix ix_list (pv 0) pe_int (fun _ _ => rfl)) (pe_ix ix_list (pv 0) pe_int (fun _ _ => rfl)) (fun _ _ => rfl))) (pss_one (ps_set (i := 3) scLawDraw.nd rfl (Or.inl rfl) (pe_op op_add (pe_op op_mul pe_int (pe_callB call_abs (by rfl) T.abs (by decide +kernel) (pa_cons (pv 4) pa_nil))) (pe_callTy call_int1 (by rfl) T.int (by decide +kernel) (pa_cons (pe_cmpR op_lt (pv 4) pe_int (nomark _)) pa_nil)))))) pss_nil) (pss_cons (ps_augS (pv 0) pe_int get_list pe_int ip_add set_list) (pss_cons (ps_if (pt_cmpR op_ge (pv 3) (pe_op op_mul pe_int (pe_op op_pow pe_int pe_int)) (nomark _)) (pss_cons (ps_set (i := 2) scLawDraw.nd rfl (Or.inl rfl) (pe_op op_modN (pe_callTy call_int1 (by rfl) T.int (by decide +kernel) (pa_cons (pe_op op_fdivN (pv 3) pe_int) pa_nil)) (pe_op op_shl pe_int pe_int))) (pss_cons (ps_asg (pe_op op_fdivN (pv 2) (pv 1)) (pg_sub (pv 0) pe_int set_list)) (pss_one (ps_ret (pe_op op_modN (pe_callTy call_int1 (by rfl) T.int (by decide +kernel) (pa_cons (pv 2) pa_nil)) (pv 1)))))) pss_nil) (pss_cons (ps_asg (pe_op op_modN (pe_callTy call_int1 (by rfl) T.int (by decide +kernel) (pa_cons (pe_op op_add (pe_op op_add (pe_op op_add (pe_op op_mul (pe_ix ix_list (pv 0) pe_int (fun _ _ => rfl)) pe_int) (pe_op op_mul (pe_op op_modN (pe_callTy call_int1 (by rfl) T.int (by decide +kernel) (pa_cons (pv 3) pa_nil)) pe_int) pe_int)) (pe_op op_mul (pe_ix ix_list (pv 0) pe_int (fun _ _ => rfl)) pe_int)) pe_int) pa_nil)) pe_int) (pg_sub (pv 0) pe_int set_list)) (pss_one (ps_ret (pe_op op_modN (pe_callTy call_int1 (by rfl) T.int (by decide +kernel) (pa_cons (pe_op op_fdivN (pe_ix ix_list (pv 0) pe_int (fun _ _ => rfl)) pe_int) pa_nil)) (pv 1)))))))))), ?_⟩
  refine ⟨_, rfl, d, _, _, _, rfl, rfl, SqL.of ed, rfl, _, _, rfl, rfl, _, rfl, ite2 (fun _ => ?_) (fun _ => ?_)⟩
  · refine ⟨_, rfl, d, _, _, _, rfl, rfl, SqL.of ed, rfl, _, rfl, _, rfl, _, _, rfl, rfl, mN, _, rfl, d, _, _, 2, rfl, rfl, ed, rfl, _, rfl, .inl ⟨_, rfl, _, rfl, _, _, rfl, rfl, mN.1, ?_⟩⟩
    exact fin _ _ but_upd (dr _ _ _ _ _ k0 ec)
  refine ⟨_, rfl, d, _, _, _, rfl, rfl, SqL.of ed, rfl, _, rfl, d, _, _, _, rfl, rfl, SqL.of ed, rfl, c, _, rfl, .inl (SqL.of ec), _, _, rfl, rfl, _, rfl, ite2 (fun hc => ?_) (fun _ => ?_)⟩
  · obtain ⟨v, hv, hv2⟩ := atI_in k0 (of_decide_eq_true hc)
    obtain ⟨n, _, rfl⟩ := map_get hv2
    refine ⟨_, rfl, d, _, _, _, rfl, rfl, SqL.of ed, rfl, _, rfl, d, _, _, _, rfl, rfl, SqL.of ed, rfl, c, _, _, _, rfl, rfl, SqL.of ec, hv, _, rfl, _, rfl, _, _, rfl, rfl, .inl ⟨by decide, by decide⟩, _, rfl, _, _, rfl, rfl, .inr ⟨_, rfl, _, _, rfl, rfl, ?_⟩⟩
    refine ⟨_, rfl, d, _, 1, _, rfl, rfl, ed, rfl, _, _, rfl, rfl, d, _, _, 1, rfl, rfl, ed, rfl, _, rfl, _, _, rfl, rfl, ⟨by decide, by decide, by decide⟩, _, _, rfl, rfl, .inl ⟨by decide, by decide⟩, _, _, rfl, rfl, _, rfl, ite2 (fun _ => ?_) (fun _ => ?_)⟩
    · refine ⟨_, rfl, _, _, rfl, rfl, ⟨by decide, by decide⟩, .inl ⟨_, rfl, _, _, rfl, rfl, ⟨by decide, by decide, by decide⟩, _, _, rfl, rfl, pow_ne _, _, rfl, _, rfl, _, _, rfl, rfl, mN, _, rfl, d, _, _, 2, rfl, rfl, upd_same, rfl, _, rfl, .inl ⟨_, rfl, _, rfl, _, _, rfl, rfl, mN.1, ?_⟩⟩⟩
      exact fin _ _ (but_upd.trans but_upd) (dr _ _ _ _ _ (k1n k0) (by rw [upd_ne ncd]; exact ec))
    · refine ⟨_, rfl, d, _, _, _, rfl, rfl, SqL.of upd_same, rfl, _, _, rfl, rfl, .inr ⟨by decide, by decide⟩, _, rfl, .inl ⟨_, rfl, _, _, rfl, rfl, (by show (2147483629 : Int) ≠ 0; decide), _, _, rfl, rfl, .inr ⟨by decide, by decide⟩, _, _, rfl, rfl, _, rfl, d, _, _, _, rfl, rfl, SqL.of upd_same, rfl, _, _, rfl, rfl, .inr ⟨by decide, by decide⟩, _, _, rfl, rfl, _, _, rfl, rfl, .inl ⟨_, rfl, _, _, rfl, rfl, (by show (2147483647 : Int) ≠ 0; decide), _, rfl, d, _, _, 3, rfl, rfl, upd_same, rfl, _, rfl, d, _, _, _, rfl, rfl, SqL.of upd_same, rfl, _, _, rfl, rfl, ⟨by decide, by decide⟩, .inl ⟨_, rfl, _, rfl, _, _, rfl, rfl, mN.1, ?_⟩⟩⟩⟩
      exact fin _ _ (but_upd.trans but_upd) (dr _ _ _ _ _ (k1n k0) (by rw [upd_ne ncd]; exact ec))
  · refine ⟨_, rfl, d, _, 1, _, rfl, rfl, ed, rfl, _, _, rfl, rfl, d, _, _, 1, rfl, rfl, ed, rfl, _, rfl, _, _, rfl, rfl, ⟨by decide, by decide, by decide⟩, _, _, rfl, rfl, .inl ⟨by decide, by decide⟩, _, _, rfl, rfl, _, rfl, ite2 (fun _ => ?_) (fun _ => ?_)⟩
    · refine ⟨_, rfl, _, _, rfl, rfl, ⟨by decide, by decide⟩, .inl ⟨_, rfl, _, _, rfl, rfl, ⟨by decide, by decide, by decide⟩, _, _, rfl, rfl, pow_ne _, _, rfl, _, rfl, _, _, rfl, rfl, mN, _, rfl, d, _, _, 2, rfl, rfl, upd_same, rfl, _, rfl, .inl ⟨_, rfl, _, rfl, _, _, rfl, rfl, mN.1, ?_⟩⟩⟩
      exact fin _ _ (but_upd.trans but_upd) (dr _ _ _ _ _ (k1n k0) (by rw [upd_ne ncd]; exact ec))
    · refine ⟨_, rfl, d, _, _, _, rfl, rfl, SqL.of upd_same, rfl, _, _, rfl, rfl, .inr ⟨by decide, by decide⟩, _, rfl, .inl ⟨_, rfl, _, _, rfl, rfl, (by show (2147483629 : Int) ≠ 0; decide), _, _, rfl, rfl, .inr ⟨by decide, by decide⟩, _, _, rfl, rfl, _, rfl, d, _, _, _, rfl, rfl, SqL.of upd_same, rfl, _, _, rfl, rfl, .inr ⟨by decide, by decide⟩, _, _, rfl, rfl, _, _, rfl, rfl, .inl ⟨_, rfl, _, _, rfl, rfl, (by show (2147483647 : Int) ≠ 0; decide), _, rfl, d, _, _, 3, rfl, rfl, upd_same, rfl, _, rfl, d, _, _, _, rfl, rfl, SqL.of upd_same, rfl, _, _, rfl, rfl, ⟨by decide, by decide⟩, .inl ⟨_, rfl, _, rfl, _, _, rfl, rfl, mN.1, ?_⟩⟩⟩⟩
      exact fin _ _ (but_upd.trans but_upd) (dr _ _ _ _ _ (k1n k0) (by rw [upd_ne ncd]; exact ec))

/-! ### a pick out of a list or of a text -/
def spPick : Sp := fun vs H Q _ => ∃ (d c : Addr) (y : V), vs = [.ref d, y] ∧ Dr H d c ∧
  ((∃ (a : Addr) (xs : List V), y = .ref a ∧ a ≠ d ∧ H a = some (.lst xs) ∧ xs ≠ [] ∧ xs.length < 1073741824 ∧ ∀ (i : Nat) (v : V) H', xs[i]? = some v → Fr d c H H' → Q v H') ∨
    (∃ z : Str, y = .str z ∧ tl z ≠ [] ∧ (tl z).length ≤ 1000000 ∧ ∀ x H', x ∈ tl z → Fr d c H H' → Q (.str (mk [x])) H'))
abbrev sLawPick : Stmt := top 24
theorem scLawPick : FnScope ["d", "row"] ["d", "row"] (defScope sLawPick) := ⟨rfl, rfl, rfl, by decide +kernel, rfl, by decide +kernel, by decide +kernel⟩
theorem ok_pick (T : Mo mg) (F : Fun K "_law_pick" "_law_pick" sLawPick f fd) (d_l_draw : Df P w K mg base CX0 1 "_law_draw" ["d", "many"] spDraw) : FnOk P w K mg base CX0 2 f fd ["d", "row"] spPick := by
  refine F.ok scLawPick (fun vs H Q E h => ?_) (fun cdv A outer s H vs Q E hr h => ?_)
  · obtain ⟨d, c, y, rfl, _⟩ := h
    rfl
  obtain ⟨d, c, y, rfl, D, h⟩ := h
  refine ⟨_, (pss_one (ps_ret (pe_ix ix_seq (pv 1) (pe_d d_l_draw (hr.mono (by decide)) (pa_cons (pv 0) (pa_cons (pe_callB call_len (by rfl) T.len PySem.boot_len (pa_cons (pv 1) pa_nil)) pa_nil))) (fun _ _ => rfl)))), ?_⟩
  rcases h with ⟨a, xs, rfl, nad, ea, ne, hl, q⟩ | ⟨z, rfl, ne, hl, q⟩
  · have hp := List.length_pos_iff.mpr ne
    refine ⟨_, rfl, _, rfl, _, rfl, _, _, rfl, .inl ⟨_, SqL.of ea, rfl⟩, d, c, (xs.length : Int), rfl, D, by omega, by omega, fun r H' b h0 h1 => ?_⟩
    obtain ⟨v, hv, hv2⟩ := atI_in h0 h1
    exact .inl ⟨_, _, _, v, rfl, rfl, SqL.of (b.at nad ea), hv, q _ _ _ hv2 b⟩
  · have hp := List.length_pos_iff.mpr ne
    have el : z.length = (tl z).length := len_tl z
    refine ⟨_, rfl, _, rfl, _, rfl, _, _, rfl, ⟨big _ (by omega), rfl⟩, d, c, (z.length : Int), rfl, D, by omega, by omega, fun r H' b h0 h1 => ?_⟩
    have hk : r.toNat < (tl z).length := by omega
    have qa := atI_nat (xs := tl z) (List.getElem?_eq_getElem hk)
    have ek : ((r.toNat : Nat) : Int) = r := by omega
    rw [ek] at qa
    exact .inr (.inr ⟨_, _, _, rfl, rfl, big _ (by omega), qa, q _ _ (List.getElem_mem hk) b⟩)

/-! ### the head of a drawn text -/
def lets : List String := ["ab", "ab", "bc", "az", "ab", "abc", "a", "bdy"]
def spLetters : Sp := fun vs H Q _ => ∃ (d c : Addr), vs = [.ref d] ∧ Dr H d c ∧ ∀ z H', z ∈ lets → Fr d c H H' → Q (.str (Str.ofString z)) H'
abbrev sLawLetters : Stmt := top 25
theorem scLawLetters : FnScope ["d"] ["d"] (defScope sLawLetters) := ⟨rfl, rfl, rfl, by decide +kernel, rfl, by decide +kernel, by decide +kernel⟩
theorem ok_letters (T : Mo mg) (F : Fun K "_law_letters" "_law_letters" sLawLetters f fd) (d_l_draw : Df P w K mg base CX0 1 "_law_draw" ["d", "many"] spDraw) : FnOk P w K mg base CX0 2 f fd ["d"] spLetters := by
  refine F.ok scLawLetters (fun vs H Q E h => ?_) (fun cdv A outer s H vs Q E hr h => ?_)
  · obtain ⟨d, c, rfl, _⟩ := h
    rfl
  obtain ⟨d, c, rfl, D, q⟩ := h
  refine ⟨_, (pss_one (ps_ret (pe_ix ix_list (pe_lst (pa_cons pe_str (pa_cons pe_str (pa_cons pe_str (pa_cons pe_str (pa_cons pe_str (pa_cons pe_str (pa_cons pe_str (pa_cons pe_str pa_nil))))))))) (pe_d d_l_draw (hr.mono (by decide)) (pa_cons (pv 0) (pa_cons pe_int pa_nil))) (fun _ _ => rfl)))), ?_⟩
  refine ⟨big 8 (by decide), fun l hl => ?_⟩
  refine ⟨_, rfl, d, c, 8, rfl, D.new hl _, by decide, by decide, fun r H' b h0 h1 => ?_⟩
  have nl := D.ne hl
  have eL : upd H l (.lst (lets.map fun z => V.str (Str.ofString z))) l = some (.lst (lets.map fun z => V.str (Str.ofString z))) := upd_same
  obtain ⟨v, hv, hv2⟩ := atI_in (xs := lets.map fun z => V.str (Str.ofString z)) h0 h1
  rw [List.getElem?_map] at hv2
  cases e : lets[r.toNat]? with
  | none => rw [e] at hv2; cases hv2
  | some z =>
    rw [e] at hv2
    cases hv2
    exact ⟨_, _, _, _, rfl, rfl, SqL.of (b.at nl eL), hv, q z _ (List.mem_of_getElem? e) (((Fr.refl D).new hl _).trans b)⟩

/-! ### is it an int -/
def spIsInt : Sp := fun vs H Q _ => ∃ (v : V) (x : Val), vs = [v] ∧ At H v x ∧ Q (.bl (decide (tyn x = "int"))) H
abbrev sLawIsInt : Stmt := top 26
theorem scLawIsInt : FnScope ["thing"] ["thing"] (defScope sLawIsInt) := ⟨rfl, rfl, rfl, by decide +kernel, rfl, by decide +kernel, by decide +kernel⟩
theorem ok_is_int (T : Mo mg) (F : Fun K "_law_is_int" "_law_is_int" sLawIsInt f fd) : FnOk P w K mg base CX0 1 f fd ["thing"] spIsInt := by
  refine F.ok scLawIsInt (fun vs H Q E h => ?_) (fun cdv A outer s H vs Q E hr h => ?_)
  · obtain ⟨v, x, rfl, _⟩ := h
    rfl
  obtain ⟨v, x, rfl, hx, q⟩ := h
  refine ⟨_, (pss_one (ps_ret (pe_and (pe_isi "int" T.isinstance T.int (pv 0)) (pe_one (pe_not (pe_isi "bool" T.isinstance T.bool (pv 0))))))), ?_⟩
  have ty := hx.ty (K := K)
  cases x with
  | int i => refine ⟨_, rfl, _, rfl, _, true, ty, k_int_int, _, rfl, iteT ⟨_, rfl, _, rfl, _, false, ty, k_int_bool, _, rfl, q⟩⟩
  | str i => refine ⟨_, rfl, _, rfl, _, false, ty, k_str_int, _, rfl, iteF q⟩
  | tup i => refine ⟨_, rfl, _, rfl, _, false, ty, k_tuple_int, _, rfl, iteF q⟩

/-! ### the signs -/
def signsL : List Nat := tl (Str.ofString " !#$&'()*+,-./0123456789:;<=>?@ABCDEFGHIJKLMNOPQRSTUVWXYZ") ++ tl (Str.ofString "[\\]^_`abcdefghijklmnopqrstuvwxyz{|}~")
def spSigns : Sp := fun vs H Q _ => vs = [] ∧ Q (.str (mk signsL)) H
abbrev sLawSigns : Stmt := top 27
theorem scLawSigns : FnScope ["signs"] [] (defScope sLawSigns) := ⟨rfl, rfl, rfl, by decide +kernel, rfl, by decide +kernel, by decide +kernel⟩
theorem tl_app (a b : Str) : tl (a ++ b) = tl a ++ tl b := by
  show (a.cps ++ b.cps).toList = _
  simp [tl]
theorem app_mk (a b : Str) : a ++ b = mk (tl a ++ tl b) := by rw [← tl_app, mk_tl']
theorem ok_signs (T : Mo mg) (F : Fun K "_law_signs" "_law_signs" sLawSigns f fd) : FnOk P w K mg base CX0 1 f fd [] spSigns := by
  refine F.ok scLawSigns (fun vs H Q E h => ?_) (fun cdv A outer s H vs Q E hr h => ?_)
  · obtain ⟨rfl, _⟩ := h
    rfl
  obtain ⟨rfl, q⟩ := h
  refine ⟨_, (pss_cons (ps_set (i := 0) scLawSigns.nd rfl (Or.inl rfl) pe_str) (pss_one (ps_ret (pe_op op_add_str (pv 0) pe_str)))), ?_⟩
  refine ⟨_, rfl, _, _, rfl, rfl, (by decide +kernel), ?_⟩
  rw [app_mk]
  exact q
end
end K93

/-! Drawn strings, numbers, values. -/
namespace K93
open PySem PySem.Spec PyProof.Rows L2 TL

theorem tl_jn (a : Str) (ys : List Str) : tl (Txt.join a ys) = joinL (tl a) (ys.map tl) := (congrArg tl (TL.join_eq a ys)).trans (TL.tl_join a ys)
theorem joinL_nil : ∀ l : List (List Nat), joinL [] l = l.flatten
  | [] => rfl
  | [x] => by show x = _; simp
  | x :: y :: r => by
    show x ++ ([] ++ joinL [] (y :: r)) = _
    rw [joinL_nil (y :: r)]; simp
theorem dv_lt (n : Nat) : ∀ l : List Nat, l.length = n → NumText.AllDigits l → NumText.digitsVal l < 10 ^ n := by
  induction n with
  | zero =>
    intro l e _
    rw [List.length_eq_zero_iff.mp e]; decide
  | succ n ih =>
    intro l e h
    have hne : l ≠ [] := fun z => by rw [z] at e; cases e
    have e1 := List.dropLast_concat_getLast hne
    have h1 := ih l.dropLast (by rw [List.length_dropLast, e]; rfl) fun d hd => h d (List.dropLast_subset l hd)
    have h2 := h (l.getLast hne) (List.getLast_mem hne)
    rw [← e1, NumText.digitsVal_snoc, Nat.pow_succ]
    omega
theorem log_ok {n : Nat} (h : n < 10 ^ 300) : n.log2 < 1920 := by
  by_cases h0 : n = 0
  · rw [h0]; decide
  · rw [Nat.log2_lt h0]
    exact Nat.lt_trans h (by decide +kernel)
/-- figures -/
def Fig (m : Nat) (z : Str) : Prop := NumText.AllDigits (tl z) ∧ tl z ≠ [] ∧ (tl z).length ≤ m
theorem fig_app {m n : Nat} {a b : Str} (h : Fig m a) (h' : Fig n b) : Fig (m + n) (a ++ b) := by
  refine ⟨fun c hc => ?_, fun e => ?_, ?_⟩
  · rw [tl_app] at hc
    rcases List.mem_append.mp hc with hc | hc
    · exact h.1 c hc
    · exact h'.1 c hc
  · rw [tl_app] at e
    exact h.2.1 (List.append_eq_nil_iff.mp e).1
  · rw [tl_app, List.length_append]
    exact Nat.add_le_add h.2.2 h'.2.2
theorem fig_one {r : Int} (h0 : 0 ≤ r) (h : r < 10) : Fig 1 (toString r : String) := by
  have e : tl (Str.ofString (toString r)) = numL r.natAbs := by rw [tl_int, if_pos h0]
  have e2 : numL r.natAbs = [48 + r.natAbs] := numL_lt (by omega)
  refine ⟨fun c hc => ?_, fun z => ?_, ?_⟩
  · have hc' : c ∈ tl (Str.ofString (toString r)) := hc
    rw [e, e2, List.mem_singleton] at hc'
    omega
  · have z' : tl (Str.ofString (toString r)) = [] := z
    rw [e, e2] at z'; cases z'
  · show (tl (Str.ofString (toString r))).length ≤ 1
    rw [e, e2]; exact Nat.le_refl _
theorem fig_rep {z : Str} (h : Fig 1 z) (n : Nat) (hn : 0 < n) : Fig n (mk (List.replicate n (tl z)).flatten) := by
  refine ⟨fun c hc => ?_, fun e => ?_, ?_⟩
  · have hc' : c ∈ (List.replicate n (tl z)).flatten := hc
    obtain ⟨l, hl, hc⟩ := List.mem_flatten.mp hc'
    rw [(List.mem_replicate.mp hl).2] at hc
    exact h.1 c hc
  · have e' : (List.replicate n (tl z)).flatten = [] := e
    exact h.2.1 (List.flatten_eq_nil_iff.mp e' _ (List.mem_replicate.mpr ⟨by omega, rfl⟩))
  · show ((List.replicate n (tl z)).flatten).length ≤ n
    rw [List.length_flatten, List.map_replicate, List.sum_replicate_nat]
    have := h.2.2
    exact Nat.le_trans (Nat.mul_le_mul_left n this) (by omega)
theorem fig_int {z : Str} {m : Nat} (h : Fig m z) (hm : m ≤ 300) : ∃ n : Nat, PySem.intText? z = some (n : Int) ∧ n < 10 ^ 300 := by
  have hl : z.length = (tl z).length := len_tl z
  refine ⟨_, intText_digits h.1 h.2.1 (by have := h.2.2; omega), ?_⟩
  exact Nat.lt_of_lt_of_le (dv_lt _ _ rfl h.1) (Nat.pow_le_pow_right (by decide) (Nat.le_trans h.2.2 hm))
section
variable {P : Program} {w : World} {K : PySem.W.Frag} {mg : Str → Option Value} {base : Heap} {f : Addr} {fd : FuncData}

/-! ### a string -/
def spString : Sp := fun vs H Q _ => ∃ (d c : Addr), vs = [.ref d] ∧ Dr H d c ∧ ∀ z H', (∀ x ∈ tl z, okc x = true ∧ x ≠ 34) → (tl z).length ≤ 12 → Fr d c H H' → Q (.str z) H'
theorem signs_ok : ∀ c ∈ signsL, okc c = true ∧ c ≠ 34 := by decide +kernel
theorem flat_one {ss : List Str} (h : ∀ z ∈ ss, ∃ c ∈ signsL, tl z = [c]) : (∀ x ∈ (ss.map tl).flatten, okc x = true ∧ x ≠ 34) ∧ (ss.map tl).flatten.length = ss.length ∧ (ss.map (·.length)).sum = ss.length := by
  induction ss with
  | nil => exact ⟨by simp, rfl, rfl⟩
  | cons z r ih =>
    obtain ⟨h1, h2, h3⟩ := ih fun y hy => h y (List.mem_cons_of_mem _ hy)
    obtain ⟨c, hc, e⟩ := h z (List.mem_cons_self ..)
    refine ⟨fun x hx => ?_, ?_, ?_⟩
    · rw [List.map_cons, List.flatten_cons, e] at hx
      rcases List.mem_append.mp hx with hx | hx
      · rw [List.mem_singleton.mp hx]; exact signs_ok c hc
      · exact h1 x hx
    · rw [List.map_cons, List.flatten_cons, e, List.length_append, h2, List.length_cons]; simp; omega
    · rw [List.map_cons, List.sum_cons, h3, List.length_cons, len_tl, e]; simp; omega
abbrev sLawString : Stmt := top 28
theorem scLawString : FnScope ["d", "signs", "k"] ["d"] (defScope sLawString) := ⟨rfl, rfl, rfl, by decide +kernel, rfl, by decide +kernel, by decide +kernel⟩
theorem ok_string (T : Mo mg) (F : Fun K "_law_string" "_law_string" sLawString f fd) (d_l_signs : Df P w K mg base CX0 1 "_law_signs" [] spSigns) (d_l_draw : Df P w K mg base CX0 1 "_law_draw" ["d", "many"] spDraw) (d_l_pick : Df P w K mg base CX0 2 "_law_pick" ["d", "row"] spPick) : FnOk P w K mg base CX0 3 f fd ["d"] spString := by
  refine F.ok scLawString (fun vs H Q E h => ?_) (fun cdv A outer s H vs Q E hr h => ?_)
  · obtain ⟨d, c, rfl, _⟩ := h
    rfl
  obtain ⟨d, c, rfl, D, q⟩ := h
  refine ⟨_, (pss_cons (ps_set (i := 1) scLawString.nd rfl (Or.inr rfl) (pe_d0 d_l_signs (hr.mono (by omega)))) (pss_one (ps_ret (pe_join pe_str (pe_lc (own := [("k", 2)]) (g := gName 2) (tt := tYes) rfl scLawString.nd (pi_range1 (by rfl) T.range (pa_cons (pe_d d_l_draw (hr.mono (by omega)) (pa_cons (pv 0) (pa_cons pe_int pa_nil))) pa_nil)) (blkOk_by (own := [("k", 2)]) (N := ["d", "signs", "k"]) (sc := defScope sLawString) (by decide +kernel)) (fun _ _ _ _ _ => pg_name (i := 2) scLawString.nd rfl (Or.inl rfl)) (fun _ _ _ _ _ => pts_nil) (fun _ _ _ _ _ => (pe_d d_l_pick (hr.mono (by omega)) (pa_cons (pv 0) (pa_cons (pv 1) pa_nil))))))))), ?_⟩
  refine ⟨rfl, ⟨_, rfl⟩, _, rfl, d, c, 13, rfl, D, by decide, by decide, fun r H1 b1 r0 r1 => ⟨r, rfl, by omega, by omega, ?_⟩⟩
  intro L hL
  have nL := b1.d.ne hL
  refine lc_range (lo := 0) (n := r.toNat) (fun i H' => Fr d c H1 H' ∧ ∃ ss : List Str, ss.length = i ∧ (∀ z ∈ ss, ∃ c ∈ signsL, tl z = [c]) ∧ H' L = some (.lst (ss.map V.str))) ⟨(Fr.refl b1.d).new hL _, [], rfl, (by simp), by rw [upd_same]; rfl⟩ (fun i H' hi z => ?_) (fun H' z => ?_)
  · obtain ⟨b, ss, hl, hs, eL⟩ := z
    refine ⟨rfl, _, rfl, _, rfl, d, c, _, rfl, b.d, .inr ⟨mk signsL, rfl, by decide +kernel, by decide +kernel, fun x H2 hc b2 => ?_⟩⟩
    refine ⟨_, b2.at nL eL, ?_, (b.trans b2).put b1.d hL _, ss ++ [mk [x]], ?_, ?_, ?_⟩
    · rw [List.length_map]; exact Nat.lt_of_lt_of_le (show ss.length < 20 by omega) (by decide)
    · rw [List.length_append, hl]; rfl
    · intro z hz
      rcases List.mem_append.mp hz with hz | hz
      · exact hs z hz
      · rw [List.mem_singleton.mp hz]; exact ⟨x, hc, rfl⟩
    · rw [upd_same, List.map_append]; rfl
  · obtain ⟨b, ss, hl, hs, eL⟩ := z
    obtain ⟨h1, h2, h3⟩ := flat_one hs
    have e : tl (Txt.join (Str.ofString "") ss) = (ss.map tl).flatten := by rw [tl_jn]; exact joinL_nil _
    refine ⟨_, L, ss, rfl, rfl, .inl (SqL.of eL), ?_, q _ _ ?_ ?_ (b1.trans b)⟩
    · rw [h3]
      have : (Str.ofString "").length = 0 := rfl
      rw [this]; omega
    · rw [e]; exact h1
    · rw [e, h2]; omega


/-! ### a number -/
def spNumber : Sp := fun vs H Q _ => ∃ (d c : Addr), vs = [.ref d] ∧ Dr H d c ∧ ∀ (i : Int) H', i.natAbs < 10 ^ 300 → Fr d c H H' → Q (.int i) H'
theorem p300 : 1000 < 10 ^ 300 := by decide +kernel
abbrev sLawNumber : Stmt := top 29
theorem scLawNumber : FnScope ["d", "kind", "figures", "k"] ["d"] (defScope sLawNumber) := ⟨rfl, rfl, rfl, by decide +kernel, rfl, by decide +kernel, by decide +kernel⟩
theorem ok_number (T : Mo mg) (F : Fun K "_law_number" "_law_number" sLawNumber f fd) (d_l_draw : Df P w K mg base CX0 1 "_law_draw" ["d", "many"] spDraw) : FnOk P w K mg base CX0 2 f fd ["d"] spNumber := by
  refine F.ok scLawNumber (fun vs H Q E h => ?_) (fun cdv A outer s H vs Q E hr h => ?_)
  · obtain ⟨d, c, rfl, _⟩ := h
    rfl
  obtain ⟨d, c, rfl, D, q⟩ := h
  refine ⟨_, (pss_cons (ps_set (i := 1) scLawNumber.nd rfl (Or.inl rfl) (pe_d d_l_draw (hr.mono (by omega)) (pa_cons (pv 0) (pa_cons pe_int pa_nil)))) (pss_cons (ps_if (pt_cmpR op_lt (pv 1) pe_int (nomark _)) (pss_one (ps_ret (pe_d d_l_draw (hr.mono (by omega)) (pa_cons (pv 0) (pa_cons pe_int pa_nil))))) pss_nil) (pss_cons (ps_if (pt_cmpR op_lt (pv 1) pe_int (nomark _)) (pss_one (ps_ret (pe_op op_sub (pe_un un_neg pe_int) (pe_d d_l_draw (hr.mono (by omega)) (pa_cons (pv 0) (pa_cons pe_int pa_nil)))))) pss_nil) (pss_cons (ps_set (i := 2) scLawNumber.nd rfl (Or.inl rfl) (pe_callTy call_str_int (by rfl) T.str (by decide +kernel) (pa_cons (pe_op op_add pe_int (pe_d d_l_draw (hr.mono (by omega)) (pa_cons (pv 0) (pa_cons pe_int pa_nil)))) pa_nil))) (pss_cons (ps_if (pt_cmpR op_eq (pv 1) pe_int (nomark _)) (pss_one (ps_set (i := 2) scLawNumber.nd rfl (Or.inl rfl) (pe_op op_add_str (pv 2) (pe_op op_mul_str (pe_callTy call_str_int (by rfl) T.str (by decide +kernel) (pa_cons (pe_d d_l_draw (hr.mono (by omega)) (pa_cons (pv 0) (pa_cons pe_int pa_nil))) pa_nil)) pe_int)))) (pss_one (ps_for PassesOwn.never rfl (pi_range1 (by rfl) T.range (pa_cons (pe_d d_l_draw (hr.mono (by omega)) (pa_cons (pv 0) (pa_cons pe_int pa_nil))) pa_nil)) (pg_name (i := 3) scLawNumber.nd rfl (Or.inl rfl)) (pss_one (ps_set (i := 2) scLawNumber.nd rfl (Or.inl rfl) (pe_op op_add_str (pv 2) (pe_callTy call_str_int (by rfl) T.str (by decide +kernel) (pa_cons (pe_d d_l_draw (hr.mono (by omega)) (pa_cons (pv 0) (pa_cons pe_int pa_nil))) pa_nil)))))))) (pss_one (ps_ret (pe_ifExp (pt_cmpR op_eq (pe_d d_l_draw (hr.mono (by omega)) (pa_cons (pv 0) (pa_cons pe_int pa_nil))) pe_int (nomark _)) (pe_callTy call_int_str (by rfl) T.int (by decide +kernel) (pa_cons (pv 2) pa_nil)) (pe_un un_neg (pe_callTy call_int_str (by rfl) T.int (by decide +kernel) (pa_cons (pv 2) pa_nil))))))))))), ?_⟩
  have p3 := p300
  refine ⟨_, rfl, d, c, 8, rfl, D, by decide, by decide, fun kd H1 b1 k0 k1 => ?_⟩
  refine ⟨_, rfl, _, _, rfl, rfl, _, rfl, ite2 (fun _ => ?_) (fun _ => ?_)⟩
  · exact ⟨_, rfl, d, c, 12, rfl, b1.d, by decide, by decide, fun r H2 b2 r0 r1 => q _ _ (by omega) (b1.trans b2)⟩
  refine ⟨_, rfl, _, _, rfl, rfl, _, rfl, ite2 (fun _ => ?_) (fun _ => ?_)⟩
  · exact ⟨_, rfl, _, rfl, d, c, 300, rfl, b1.d, by decide, by decide, fun r H2 b2 r0 r1 => ⟨_, _, rfl, rfl, q _ _ (by omega) (b1.trans b2)⟩⟩
  refine ⟨_, rfl, d, c, 9, rfl, b1.d, by decide, by decide, fun r H2 b2 r0 r1 => ⟨_, _, rfl, rfl, _, rfl, log_ok (by omega), ?_⟩⟩
  have F1 : Fig 1 (toString (1 + r) : String) := fig_one (by omega) (by omega)
  have b12 := b1.trans b2
  refine ⟨_, rfl, rfl, _, rfl, ite2 (fun _ => ?_) (fun _ => ?_)⟩
  · refine ⟨_, rfl, _, rfl, d, c, 10, rfl, b2.d, by decide, by decide, fun r3 H3 b3 u0 u1 => ⟨_, rfl, log_ok (by omega), _, 299, rfl, rfl, ?_, by decide, _, _, rfl, rfl, ?_, ?_⟩⟩
    · rw [len_tl]; exact Nat.le_trans (fig_one u0 u1).2.2 (by decide)
    · have h1 := F1.2.2
      have h2 := (fig_rep (fig_one u0 u1) 299 (by decide)).2.2
      rw [len_tl, len_tl]
      exact big _ (by omega)
    have hF : Fig 300 _ := fig_app F1 (fig_rep (fig_one u0 u1) 299 (by decide))
    have b := b12.trans b3
    refine ⟨_, rfl, d, c, 2, rfl, b.d, by decide, by decide, fun r2 H4 b4 _ _ => ⟨rfl, _, rfl, ite2 (fun _ => ?_) (fun _ => ?_)⟩⟩
    · obtain ⟨n, en, hn⟩ := fig_int hF (Nat.le_refl _)
      exact ⟨_, rfl, _, (n : Int), rfl, en, by have := hF.2.2; rw [len_tl]; omega, q _ _ (by omega) (b.trans b4)⟩
    · obtain ⟨n, en, hn⟩ := fig_int hF (Nat.le_refl _)
      exact ⟨_, rfl, _, (n : Int), rfl, en, by have := hF.2.2; rw [len_tl]; omega, _, rfl, q _ _ (by omega) (b.trans b4)⟩
  · refine ⟨_, rfl, d, c, 30, rfl, b2.d, by decide, by decide, fun r3 H3 b3 u0 u1 => ⟨r3, rfl, by omega, by omega, ?_⟩⟩
    refine for_range (lo := 0) (n := r3.toNat) (fun i σ H' => ∃ (z : Str) (v : Option V), σ = [some (.ref d), some (.int kd), some (.str z), v] ∧ Fr d c H H' ∧ Fig (1 + i) z) ⟨_, _, rfl, b12.trans b3, F1⟩ ?_ ?_
    · rintro i σ H' hi ⟨z, v, rfl, b, hF⟩
      refine ⟨_, rfl, _, rfl, d, c, 10, rfl, b.d, by decide, by decide, fun r4 H4 b4 v0 v1 => ⟨_, rfl, log_ok (by omega), _, _, rfl, rfl, ?_, ?_⟩⟩
      · have h1 := hF.2.2
        have h2 := (fig_one v0 v1).2.2
        rw [len_tl, len_tl]
        exact big _ (by omega)
      · exact ⟨_, _, rfl, b.trans b4, by have := fig_app hF (fig_one v0 v1); rw [Nat.add_assoc] at this; exact this⟩
    · rintro σ H' ⟨z, v, rfl, b, hF0⟩
      have hF : Fig 300 z := ⟨hF0.1, hF0.2.1, Nat.le_trans hF0.2.2 (by omega)⟩
      refine ⟨_, rfl, d, c, 2, rfl, b.d, by decide, by decide, fun r2 H4 b4 _ _ => ⟨rfl, _, rfl, ite2 (fun _ => ?_) (fun _ => ?_)⟩⟩
      · obtain ⟨n, en, hn⟩ := fig_int hF (Nat.le_refl _)
        exact ⟨_, rfl, _, (n : Int), rfl, en, by have := hF.2.2; rw [len_tl]; omega, q _ _ (by omega) (b.trans b4)⟩
      · obtain ⟨n, en, hn⟩ := fig_int hF (Nat.le_refl _)
        exact ⟨_, rfl, _, (n : Int), rfl, en, by have := hF.2.2; rw [len_tl]; omega, _, rfl, q _ _ (by omega) (b.trans b4)⟩


end
end K93

/-! Drawn values; a value written. -/
namespace K93
open PySem PySem.Spec PyProof.Rows L2 TL

/-- the longest text of a value drawn at this depth -/
def bnd : Nat → Nat
  | 0 => 301
  | n + 1 => 4 * (bnd n + 1) + 2
theorem bnd_ge : ∀ n, 301 ≤ bnd n
  | 0 => Nat.le_refl _
  | n + 1 => by show 301 ≤ 4 * (bnd n + 1) + 2; have := bnd_ge n; omega
theorem bnd_mono (n : Nat) : bnd n ≤ bnd (n + 1) := by show _ ≤ 4 * (bnd n + 1) + 2; omega
theorem txts_len {l : List Val} : (txts l).length = l.length := by rw [txts_map, List.length_map]
/-- a value as it is drawn -/
structure Vd (n : Nat) (x : Val) : Prop where
  g : Good x
  d : dep x ≤ n
  t : (txt x).length ≤ bnd n
theorem joinL_mem {S : List Nat} : ∀ {l : List (List Nat)} {x : List Nat}, x ∈ l → x.length ≤ (joinL S l).length
  | [y], x, h => by rw [List.mem_singleton.mp h]; exact Nat.le_refl _
  | y :: z :: r, x, h => by
    show _ ≤ (y ++ (S ++ joinL S (z :: r))).length
    rw [List.length_append, List.length_append]
    rcases List.mem_cons.mp h with e | h
    · rw [e]; omega
    · have := joinL_mem (S := S) h; omega
theorem joinL_sum {S : List Nat} : ∀ (l : List (List Nat)), (l.map List.length).sum + l.length * S.length ≤ (joinL S l).length + S.length
  | [] => by simp
  | [x] => by show ([x.length].sum) + 1 * S.length ≤ x.length + S.length; simp
  | x :: y :: r => by
    have q := joinL_sum (S := S) (y :: r)
    show ((x.length :: ((y :: r).map List.length)).sum) + ((y :: r).length + 1) * S.length ≤ (x ++ (S ++ joinL S (y :: r))).length + S.length
    rw [List.sum_cons, List.length_append, List.length_append, Nat.succ_mul]
    omega
theorem joinL_cnt {S : List Nat} (hS : S.length = 1) (l : List (List Nat)) : l.length ≤ (joinL S l).length + 1 := by
  have := joinL_sum (S := S) l
  rw [hS] at this
  omega
theorem vd_tup {n : Nat} {l : List Val} (h : ∀ x ∈ l, Vd n x) (hl : l.length ≤ 4) : Vd (n + 1) (.tup l) := by
  refine ⟨.tup fun x hx => (h x hx).g, ?_, ?_⟩
  · show deps l + 1 ≤ n + 1
    have := deps_le (l := l) (n := n) fun x hx => (h x hx).d
    omega
  · show (40 :: (joinL [32] (txts l) ++ [41])).length ≤ 4 * (bnd n + 1) + 2
    have q := joinL_len [32] (txts l) (bnd n) fun y hy => by
      rw [txts_map] at hy
      obtain ⟨x, hx, rfl⟩ := List.mem_map.mp hy
      exact (h x hx).t
    rw [txts_len] at q
    have q2 : l.length * (bnd n + [32].length) ≤ 4 * (bnd n + 1) := Nat.mul_le_mul_right _ hl
    simp only [List.length_cons, List.length_append, List.length_nil]
    omega
theorem vd_int {n : Nat} {i : Int} (h : i.natAbs < 10 ^ 300) : Vd n (.int i) := ⟨.int h, Nat.zero_le _, Nat.le_trans (len_int h) (bnd_ge n)⟩
theorem vd_str {n : Nat} {s : Str} (h : ∀ x ∈ tl s, okc x = true ∧ x ≠ 34) (hl : (tl s).length ≤ 12) : Vd n (.str s) := ⟨.str h, Nat.zero_le _, by
  refine Nat.le_trans ?_ (bnd_ge n)
  show (34 :: (tl s ++ [34])).length ≤ 301
  simp only [List.length_cons, List.length_append, List.length_nil]
  omega⟩
theorem Vd.up {n : Nat} {x : Val} (h : Vd n x) : Vd (n + 1) x := ⟨h.g, by have := h.d; omega, Nat.le_trans h.t (bnd_mono n)⟩
/-- a promise that is never asked -/
theorem fn_never {P : Program} {w : World} {K : PySem.W.Frag} {mg : Str → Option Value} {base : Heap} {CX : CXT} {k : Nat} {f : Addr} {fd : FuncData} {ps : List Str} {sp : Sp} (h : ∀ vs H Q E, ¬ sp vs H Q E) : FnOk P w K mg base CX k f fd ps sp :=
  ⟨fun vs H Q E q => (h _ _ _ _ q).elim, fun A outer s H args us vs Q E _ _ _ _ q => (h _ _ _ _ q).elim⟩
section
variable {P : Program} {w : World} {K : PySem.W.Frag} {mg : Str → Option Value} {base : Heap} {f : Addr} {fd : FuncData}

/-! ### a value drawn -/
def spValue (n : Nat) : Sp := fun vs H Q _ => ∃ (d c : Addr) (m : Nat), vs = [.ref d, .int (m : Int)] ∧ m < n ∧ Dr H d c ∧ ∀ v x H', At H' v x → Vd m x → Fr d c H H' → Q v H'
abbrev sLawValue : Stmt := top 30
theorem scLawValue : FnScope ["d", "depth", "k"] ["d", "depth"] (defScope sLawValue) := ⟨rfl, rfl, rfl, by decide +kernel, rfl, by decide +kernel, by decide +kernel⟩
theorem ok_value (T : Mo mg) (F : Fun K "_law_value" "_law_value" sLawValue f fd) (d_l_draw : Df P w K mg base CX0 1 "_law_draw" ["d", "many"] spDraw) (d_l_number : Df P w K mg base CX0 2 "_law_number" ["d"] spNumber) (d_l_string : Df P w K mg base CX0 3 "_law_string" ["d"] spString) {n : Nat} (d_l_value : Df P w K mg base CX0 (n + 4) "_law_value" ["d", "depth"] (spValue n)) : FnOk P w K mg base CX0 (n + 1 + 4) f fd ["d", "depth"] (spValue (n + 1)) := by
  refine F.ok scLawValue (fun vs H Q E h => ?_) (fun cdv A outer s H vs Q E hr h => ?_)
  · obtain ⟨d, c, m, rfl, _⟩ := h
    rfl
  obtain ⟨d, c, m, rfl, hm, D, q⟩ := h
  refine ⟨_, (pss_cons (ps_if (PW.pt (pw_or (pt_cmpR op_eq (pv 1) pe_int (nomark _)) (pw_or1 (pt_cmpR op_eq (pe_d d_l_draw (hr.mono (by omega)) (pa_cons (pv 0) (pa_cons pe_int pa_nil))) pe_int (nomark _))))) (pss_one (ps_ret (pe_ifExp (pt_cmpR op_eq (pe_d d_l_draw (hr.mono (by omega)) (pa_cons (pv 0) (pa_cons pe_int pa_nil))) pe_int (nomark _)) (pe_d d_l_number (hr.mono (by omega)) (pa_cons (pv 0) pa_nil)) (pe_d d_l_string (hr.mono (by omega)) (pa_cons (pv 0) pa_nil))))) pss_nil) (pss_one (ps_ret (pe_callTy call_tuple_of (by rfl) T.tuple (by decide +kernel) (pa_cons (pe_lc (own := [("k", 2)]) (g := gName 2) (tt := tYes) rfl scLawValue.nd (pi_range1 (by rfl) T.range (pa_cons (pe_d d_l_draw (hr.mono (by omega)) (pa_cons (pv 0) (pa_cons pe_int pa_nil))) pa_nil)) (blkOk_by (own := [("k", 2)]) (N := ["d", "depth", "k"]) (sc := defScope sLawValue) (by decide +kernel)) (fun _ _ _ _ _ => pg_name (i := 2) scLawValue.nd rfl (Or.inl rfl)) (fun _ _ _ _ _ => pts_nil) (fun _ _ _ _ _ => (pe_d d_l_value (hr.mono (by omega)) (pa_cons (pv 0) (pa_cons (pe_op op_sub (pv 1) pe_int) pa_nil))))) pa_nil))))), ?_⟩
  have leaf : ∀ H1, Fr d c H H1 → (tIf (tTest (tOp rEq (tD spDraw (tCons (tVar 0) (tCons (tC (V.int 2)) tNil))) (tC (V.int 0)))) (tD spNumber (tCons (tVar 0) tNil)) (tD spString (tCons (tVar 0) tNil))) [some (.ref d), some (.int m), none] H1 Q := by
    intro H1 b
    refine ⟨_, rfl, d, c, 2, rfl, b.d, by decide, by decide, fun r2 H4 b4 _ _ => ⟨rfl, _, rfl, ite2 (fun _ => ?_) (fun _ => ?_)⟩⟩
    · exact ⟨_, rfl, d, c, rfl, b4.d, fun i H5 hi b5 => q _ (.int i) _ (.int i) (vd_int hi) ((b.trans b4).trans b5)⟩
    · exact ⟨_, rfl, d, c, rfl, b4.d, fun z H5 hz hl b5 => q _ (.str z) _ (.str z) (vd_str hz hl) ((b.trans b4).trans b5)⟩
  refine ⟨_, rfl, rfl, _, rfl, ite2 (fun _ => leaf H (.refl D)) (fun h0 => ?_)⟩
  refine ⟨_, rfl, d, c, 3, rfl, D, by decide, by decide, fun r1 H1 b1 _ _ => ⟨rfl, _, rfl, ite2 (fun _ => leaf H1 b1) (fun _ => ?_)⟩⟩
  have hm0 : m ≠ 0 := fun z => h0 (by rw [z]; exact decide_eq_true rfl)
  obtain ⟨m', rfl⟩ : ∃ m', m = m' + 1 := ⟨m - 1, by omega⟩
  refine ⟨_, rfl, d, c, 5, rfl, b1.d, by decide, by decide, fun r H2 b2 r0 r1 => ⟨r, rfl, by omega, by omega, ?_⟩⟩
  intro L hL
  have nL := b2.d.ne hL
  refine lc_range (lo := 0) (n := r.toNat) (fun i H' => Fr d c H2 H' ∧ ∃ xs l, l.length = i ∧ Ats H' xs l ∧ (∀ x ∈ l, Vd m' x) ∧ H' L = some (.lst xs)) ⟨(Fr.refl b2.d).new hL _, [], [], rfl, .nil, (by simp), by rw [upd_same]⟩ (fun i H' hi z => ?_) (fun H' z => ?_)
  · obtain ⟨b, xs, l, hl, ha, hg, eL⟩ := z
    refine ⟨rfl, _, rfl, _, rfl, _, _, rfl, rfl, d, c, m', (by congr 2; show V.int (((m' + 1 : Nat) : Int) - 1) = _; congr 1; omega), by omega, b.d, fun v x H3 hx hv b3 => ?_⟩
    have eL3 : H3 L = some (.lst xs) := b3.at nL eL
    have tk : Tk H3 (upd H3 L (.lst (xs ++ [v]))) := fun a ys e => by rw [upd_ne (ne_of e eL3 (by intro z; cases z))]; exact e
    refine ⟨_, eL3, ?_, (b.trans b3).put b2.d hL _, xs ++ [v], l ++ [x], ?_, ((ha.mono (b3.tk b.d)).snoc hx).mono tk, ?_, ?_⟩
    · rw [ha.1, hl]; exact Nat.lt_of_lt_of_le (show i < 20 by omega) (by decide)
    · rw [List.length_append, hl]; rfl
    · intro y hy
      rcases List.mem_append.mp hy with hy | hy
      · exact hg y hy
      · rw [List.mem_singleton.mp hy]; exact hv
    · rw [upd_same]
  · obtain ⟨b, xs, l, hl, ha, hg, eL⟩ := z
    refine ⟨L, xs, rfl, .inl ⟨SqL.of eL, fun t ht => ?_⟩⟩
    refine q _ (.tup l) _ ((ha.mono (tk_new ht _)).at upd_same (by rw [ha.1]; omega)) (vd_tup hg (by omega)) (((b1.trans b2).trans b).new ht _)


theorem all_value (T : Mo mg) (F : Fun K "_law_value" "_law_value" sLawValue f fd) (bb : Binds K fd ["d", "depth"] []) (mf : mg "_law_value" = some (.ref f)) (d_l_draw : Df P w K mg base CX0 1 "_law_draw" ["d", "many"] spDraw) (d_l_number : Df P w K mg base CX0 2 "_law_number" ["d"] spNumber) (d_l_string : Df P w K mg base CX0 3 "_law_string" ["d"] spString) : ∀ n : Nat, Df P w K mg base CX0 (n + 4) "_law_value" ["d", "depth"] (spValue n)
  | 0 => df_mk (fn_never fun vs H Q E h => by obtain ⟨_, _, m, _, hm, _⟩ := h; omega) bb F.kp mf
  | n + 1 => df_mk (ok_value T F d_l_draw d_l_number d_l_string (all_value T F bb mf d_l_draw d_l_number d_l_string n)) bb F.kp mf

/-! ### a value written: the program's def and the law's -/
def spWrite (n : Nat) : Sp := fun vs H Q _ => ∃ (v : V) (x : Val), vs = [v] ∧ dep x < n ∧ Good x ∧ (txt x).length ≤ 100000 ∧ At H v x ∧ ∀ H', Same H H' → Q (.str (mk (txt x))) H'
abbrev sWriteValue : Stmt := top 12
theorem scWriteValue : FnScope ["value", "part"] ["value"] (defScope sWriteValue) := ⟨rfl, rfl, rfl, by decide +kernel, rfl, by decide +kernel, by decide +kernel⟩
theorem ok_write (T : Mo mg) (F : Fun K "write_value" "write_value" sWriteValue f fd) {n : Nat} (d_write_value : Df P w K mg base CX0 (n + 2) "write_value" ["value"] (spWrite n)) : FnOk P w K mg base CX0 (n + 1 + 2) f fd ["value"] (spWrite (n + 1)) := by
  refine F.ok scWriteValue (fun vs H Q E h => ?_) (fun cdv A outer s H vs Q E hr h => ?_)
  · obtain ⟨v, x, rfl, _⟩ := h
    rfl
  obtain ⟨v, x, rfl, hd, hg, hl, hx, q⟩ := h
  refine ⟨_, (pss_cons (ps_if (pt_val (pe_isi "tuple" T.isinstance T.tuple (pv 0))) (pss_one (ps_ret (pe_op op_add_str (pe_op op_add_str pe_str (pe_join pe_str (pe_lc (own := [("part", 1)]) (g := gName 1) (tt := tYes) rfl scWriteValue.nd (pi_tup (pv 0)) (blkOk_by (own := [("part", 1)]) (N := ["value", "part"]) (sc := defScope sWriteValue) (by decide +kernel)) (fun _ _ _ _ _ => pg_name (i := 1) scWriteValue.nd rfl (Or.inl rfl)) (fun _ _ _ _ _ => pts_nil) (fun _ _ _ _ _ => (pe_d d_write_value (hr.mono (by omega)) (pa_cons (pv 1) pa_nil)))))) pe_str))) pss_nil) (pss_cons (ps_if (pt_val (pe_isi "str" T.isinstance T.str (pv 0))) (pss_one (ps_ret (pe_op op_add_str (pe_op op_add_str pe_str (pv 0)) pe_str))) pss_nil) (pss_one (ps_ret (pe_callTy call_str_int (by rfl) T.str (by decide +kernel) (pa_cons (pv 0) pa_nil)))))), ?_⟩
  have ty := hx.ty (K := K)
  cases x with
  | int i =>
    cases hx
    cases hg with
    | int hi =>
    refine ⟨_, rfl, _, rfl, _, false, ty, k_int_tuple, _, rfl, iteF ⟨_, rfl, _, rfl, _, false, ty, k_int_str, _, rfl, iteF ⟨_, rfl, _, rfl, log_ok hi, ?_⟩⟩⟩
    exact q _ (.refl _)
  | str s =>
    cases hx
    refine ⟨_, rfl, _, rfl, _, false, ty, k_str_tuple, _, rfl, iteF ⟨_, rfl, _, rfl, _, true, ty, k_str_str, _, rfl, iteT ⟨_, rfl, _, _, rfl, rfl, ?_, _, _, rfl, rfl, ?_, ?_⟩⟩⟩
    · have e : (34 :: (tl s ++ [34])).length ≤ 100000 := hl
      simp only [List.length_cons, List.length_append, List.length_nil] at e
      refine big _ ?_
      rw [len_tl, len_tl]
      have : (tl (Str.ofString "\"")).length = 1 := rfl
      omega
    · have e : (34 :: (tl s ++ [34])).length ≤ 100000 := hl
      simp only [List.length_cons, List.length_append, List.length_nil] at e
      refine big _ ?_
      rw [len_tl, len_tl, tl_app, List.length_append]
      have : (tl (Str.ofString "\"")).length = 1 := rfl
      omega
    · rw [app_mk, app_mk]
      exact q _ (.refl _)
  | tup l =>
    obtain ⟨a, xs, rfl, ea, hs, hsb⟩ := hx.of_tup
    refine ⟨_, rfl, _, rfl, _, true, ty, k_tuple_tuple, _, rfl, iteT ⟨⟨_, rfl⟩, _, rfl, a, rfl, ⟨_, SqT.of ea⟩, fun L hL => ?_⟩⟩
    have hlen : (40 :: (joinL [32] (txts l) ++ [41])).length ≤ 100000 := hl
    simp only [List.length_cons, List.length_append, List.length_nil] at hlen
    have tb : ∀ x ∈ l, (txt x).length ≤ 100000 := fun x hx => by
      have := joinL_mem (S := [32]) (l := txts l) (x := txt x) (by rw [txts_map]; exact List.mem_map.mpr ⟨x, hx, rfl⟩)
      omega
    refine lc_tup (K := K) (a := a) (xs := xs) (fun i H' => Same H H' ∧ H' L = some (.lst ((l.take i).map fun x => V.str (mk (txt x))))) ⟨same_new hL _, by rw [upd_same]; rfl⟩ (fun i H' _ z => SqT.of (z.1 _ _ ea)) (fun i v H' hv z => ?_) (fun H' z => ?_)
    · obtain ⟨b, eL⟩ := z
      obtain ⟨x, hlx, hx⟩ := hs.some hv
      have hm := List.mem_of_getElem? hlx
      have hdx := dep_mem hm
      rw [dep] at hd
      refine ⟨rfl, _, rfl, _, x, rfl, by omega, hg.mem x hm, tb x hm, hx.mono (Same.tk b), fun H3 b3 => ?_⟩
      refine ⟨_, b3 _ _ eL, ?_, Same.put (b.trans b3) hL _, ?_⟩
      · rw [List.length_map, List.length_take]
        have h1 : l.length ≤ (joinL [32] (txts l)).length + 1 := by
          have := joinL_cnt (S := [32]) (by decide) (txts l)
          rw [txts_len] at this
          exact this
        exact Nat.lt_of_le_of_lt (show _ ≤ 100001 by omega) (by decide)
      · rw [upd_same, List.take_add_one, hlx]; simp
    · obtain ⟨b, eL⟩ := z
      rw [hs.1, List.take_length] at eL
      have eL' : H' L = some (.lst ((l.map fun x => mk (txt x)).map V.str)) := by rw [eL, List.map_map]; rfl
      have et : (l.map fun x => mk (txt x)).map tl = txts l := by rw [List.map_map, txts_map]; rfl
      have ej : tl (Txt.join (Str.ofString " ") (l.map fun x => mk (txt x))) = joinL [32] (txts l) := by rw [tl_jn, et]; rfl
      refine ⟨_, L, _, rfl, rfl, .inl (SqL.of eL'), ?_, _, _, rfl, rfl, ?_, _, _, rfl, rfl, ?_, ?_⟩
      · have h2 := joinL_sum (S := [32]) (txts l)
        have e3 : ((l.map fun x => mk (txt x)).map (·.length)).sum = ((txts l).map List.length).sum := by
          rw [← et, List.map_map, List.map_map, List.map_map]
          congr 1
        rw [e3, List.length_map]
        have e4 : (Str.ofString " ").length = 1 := rfl
        rw [e4]
        rw [txts_len] at h2
        have e5 : ([32] : List Nat).length = 1 := rfl
        rw [e5] at h2
        omega
      · refine big _ ?_
        rw [len_tl, len_tl, ej]
        have : (tl (Str.ofString "(")).length = 1 := rfl
        omega
      · refine big _ ?_
        rw [len_tl, len_tl, tl_app, ej, List.length_append]
        have : (tl (Str.ofString "(")).length = 1 := rfl
        have : (tl (Str.ofString ")")).length = 1 := rfl
        omega
      · rw [app_mk, tl_app, ej]
        have := q H' b
        rw [txt] at this
        exact this

theorem all_write (T : Mo mg) (F : Fun K "write_value" "write_value" sWriteValue f fd) (bb : Binds K fd ["value"] []) (mf : mg "write_value" = some (.ref f)) : ∀ n : Nat, Df P w K mg base CX0 (n + 2) "write_value" ["value"] (spWrite n)
  | 0 => df_mk (fn_never fun vs H Q E h => by obtain ⟨_, _, _, hm, _⟩ := h; omega) bb F.kp mf
  | n + 1 => df_mk (ok_write T F (all_write T F bb mf n)) bb F.kp mf
abbrev sLawTextOf : Stmt := top 31
theorem scLawTextOf : FnScope ["value", "part"] ["value"] (defScope sLawTextOf) := ⟨rfl, rfl, rfl, by decide +kernel, rfl, by decide +kernel, by decide +kernel⟩
theorem ok_text_of (T : Mo mg) (F : Fun K "_law_text_of" "_law_text_of" sLawTextOf f fd) {n : Nat} (d_l_text_of : Df P w K mg base CX0 (n + 2) "_law_text_of" ["value"] (spWrite n)) : FnOk P w K mg base CX0 (n + 1 + 2) f fd ["value"] (spWrite (n + 1)) := by
  refine F.ok scLawTextOf (fun vs H Q E h => ?_) (fun cdv A outer s H vs Q E hr h => ?_)
  · obtain ⟨v, x, rfl, _⟩ := h
    rfl
  obtain ⟨v, x, rfl, hd, hg, hl, hx, q⟩ := h
  refine ⟨_, (pss_cons (ps_if (pt_val (pe_isi "tuple" T.isinstance T.tuple (pv 0))) (pss_one (ps_ret (pe_op op_add_str (pe_op op_add_str pe_str (pe_join pe_str (pe_lc (own := [("part", 1)]) (g := gName 1) (tt := tYes) rfl scLawTextOf.nd (pi_tup (pv 0)) (blkOk_by (own := [("part", 1)]) (N := ["value", "part"]) (sc := defScope sLawTextOf) (by decide +kernel)) (fun _ _ _ _ _ => pg_name (i := 1) scLawTextOf.nd rfl (Or.inl rfl)) (fun _ _ _ _ _ => pts_nil) (fun _ _ _ _ _ => (pe_d d_l_text_of (hr.mono (by omega)) (pa_cons (pv 1) pa_nil)))))) pe_str))) pss_nil) (pss_cons (ps_if (pt_val (pe_isi "str" T.isinstance T.str (pv 0))) (pss_one (ps_ret (pe_op op_add_str (pe_op op_add_str pe_str (pv 0)) pe_str))) pss_nil) (pss_one (ps_ret (pe_callTy call_str_int (by rfl) T.str (by decide +kernel) (pa_cons (pv 0) pa_nil)))))), ?_⟩
  have ty := hx.ty (K := K)
  cases x with
  | int i =>
    cases hx
    cases hg with
    | int hi =>
    refine ⟨_, rfl, _, rfl, _, false, ty, k_int_tuple, _, rfl, iteF ⟨_, rfl, _, rfl, _, false, ty, k_int_str, _, rfl, iteF ⟨_, rfl, _, rfl, log_ok hi, ?_⟩⟩⟩
    exact q _ (.refl _)
  | str s =>
    cases hx
    refine ⟨_, rfl, _, rfl, _, false, ty, k_str_tuple, _, rfl, iteF ⟨_, rfl, _, rfl, _, true, ty, k_str_str, _, rfl, iteT ⟨_, rfl, _, _, rfl, rfl, ?_, _, _, rfl, rfl, ?_, ?_⟩⟩⟩
    · have e : (34 :: (tl s ++ [34])).length ≤ 100000 := hl
      simp only [List.length_cons, List.length_append, List.length_nil] at e
      refine big _ ?_
      rw [len_tl, len_tl]
      have : (tl (Str.ofString "\"")).length = 1 := rfl
      omega
    · have e : (34 :: (tl s ++ [34])).length ≤ 100000 := hl
      simp only [List.length_cons, List.length_append, List.length_nil] at e
      refine big _ ?_
      rw [len_tl, len_tl, tl_app, List.length_append]
      have : (tl (Str.ofString "\"")).length = 1 := rfl
      omega
    · rw [app_mk, app_mk]
      exact q _ (.refl _)
  | tup l =>
    obtain ⟨a, xs, rfl, ea, hs, hsb⟩ := hx.of_tup
    refine ⟨_, rfl, _, rfl, _, true, ty, k_tuple_tuple, _, rfl, iteT ⟨⟨_, rfl⟩, _, rfl, a, rfl, ⟨_, SqT.of ea⟩, fun L hL => ?_⟩⟩
    have hlen : (40 :: (joinL [32] (txts l) ++ [41])).length ≤ 100000 := hl
    simp only [List.length_cons, List.length_append, List.length_nil] at hlen
    have tb : ∀ x ∈ l, (txt x).length ≤ 100000 := fun x hx => by
      have := joinL_mem (S := [32]) (l := txts l) (x := txt x) (by rw [txts_map]; exact List.mem_map.mpr ⟨x, hx, rfl⟩)
      omega
    refine lc_tup (K := K) (a := a) (xs := xs) (fun i H' => Same H H' ∧ H' L = some (.lst ((l.take i).map fun x => V.str (mk (txt x))))) ⟨same_new hL _, by rw [upd_same]; rfl⟩ (fun i H' _ z => SqT.of (z.1 _ _ ea)) (fun i v H' hv z => ?_) (fun H' z => ?_)
    · obtain ⟨b, eL⟩ := z
      obtain ⟨x, hlx, hx⟩ := hs.some hv
      have hm := List.mem_of_getElem? hlx
      have hdx := dep_mem hm
      rw [dep] at hd
      refine ⟨rfl, _, rfl, _, x, rfl, by omega, hg.mem x hm, tb x hm, hx.mono (Same.tk b), fun H3 b3 => ?_⟩
      refine ⟨_, b3 _ _ eL, ?_, Same.put (b.trans b3) hL _, ?_⟩
      · rw [List.length_map, List.length_take]
        have h1 : l.length ≤ (joinL [32] (txts l)).length + 1 := by
          have := joinL_cnt (S := [32]) (by decide) (txts l)
          rw [txts_len] at this
          exact this
        exact Nat.lt_of_le_of_lt (show _ ≤ 100001 by omega) (by decide)
      · rw [upd_same, List.take_add_one, hlx]; simp
    · obtain ⟨b, eL⟩ := z
      rw [hs.1, List.take_length] at eL
      have eL' : H' L = some (.lst ((l.map fun x => mk (txt x)).map V.str)) := by rw [eL, List.map_map]; rfl
      have et : (l.map fun x => mk (txt x)).map tl = txts l := by rw [List.map_map, txts_map]; rfl
      have ej : tl (Txt.join (Str.ofString " ") (l.map fun x => mk (txt x))) = joinL [32] (txts l) := by rw [tl_jn, et]; rfl
      refine ⟨_, L, _, rfl, rfl, .inl (SqL.of eL'), ?_, _, _, rfl, rfl, ?_, _, _, rfl, rfl, ?_, ?_⟩
      · have h2 := joinL_sum (S := [32]) (txts l)
        have e3 : ((l.map fun x => mk (txt x)).map (·.length)).sum = ((txts l).map List.length).sum := by
          rw [← et, List.map_map, List.map_map, List.map_map]
          congr 1
        rw [e3, List.length_map]
        have e4 : (Str.ofString " ").length = 1 := rfl
        rw [e4]
        rw [txts_len] at h2
        have e5 : ([32] : List Nat).length = 1 := rfl
        rw [e5] at h2
        omega
      · refine big _ ?_
        rw [len_tl, len_tl, ej]
        have : (tl (Str.ofString "(")).length = 1 := rfl
        omega
      · refine big _ ?_
        rw [len_tl, len_tl, tl_app, ej, List.length_append]
        have : (tl (Str.ofString "(")).length = 1 := rfl
        have : (tl (Str.ofString ")")).length = 1 := rfl
        omega
      · rw [app_mk, tl_app, ej]
        have := q H' b
        rw [txt] at this
        exact this

theorem all_text_of (T : Mo mg) (F : Fun K "_law_text_of" "_law_text_of" sLawTextOf f fd) (bb : Binds K fd ["value"] []) (mf : mg "_law_text_of" = some (.ref f)) : ∀ n : Nat, Df P w K mg base CX0 (n + 2) "_law_text_of" ["value"] (spWrite n)
  | 0 => df_mk (fn_never fun vs H Q E h => by obtain ⟨_, _, _, hm, _⟩ := h; omega) bb F.kp mf
  | n + 1 => df_mk (ok_text_of T F (all_text_of T F bb mf n)) bb F.kp mf
end
end K93

/-! The ends of numbers and of strings, by the program and by the law. -/
namespace K93
open PySem PySem.Spec PyProof.Rows L2 TL

/-! ### a def that may raise -/
theorem _root_.L2.Fun.okG {P : Program} {w : World} {K : PySem.W.Frag} {mg : Str → Option Value} {base : Heap} (CX : CXT) {x qual : Str} {st : Stmt} {f : Addr} {fd : FuncData} {N ps : List Str} {k : Nat} {sp : Sp} (F : Fun K x qual st f fd) (S : FnScope N ps (defScope st)) (len : ∀ vs H Q E, sp vs H Q E → vs.length = ps.length)
    (hbody : ∀ (cdv : Value) (A : Around) (outer : List Env) (s : Shared) (H : Hp) (vs : List V) (Q : VK) (E : XK), Room k (A.deeper (envOfC qual (defScope st) s.heap.objs.size f cdv)) → sp vs H Q E →
      ∃ t, PSs (cxOf CX P w K mg base N qual (defScope st) f cdv A outer s H E) (defBody st) t ∧ t { nx := fun _ H' => Q .non H', rt := Q } (start N vs) H) : FnOk P w K mg base CX (k + 1) f fd ps sp := by
  obtain ⟨oc, od, kV, doc, pm, an, cdv, ct, osl, rfl, lk, hcd⟩ := F.ex
  exact fn_of lk hcd S len fun A outer s H vs Q E hr hsp => hbody cdv A outer s H vs Q E hr hsp
/-- the class BadText, C -/
structure Bt (P : Program) (K : PySem.W.Frag) (mg : Str → Option Value) (C : Addr) : Prop where
  ex : ∃ (fI : Addr) (fd : FuncData), PySem.W.findIn K (.ref C) "__init__" = some (some (.ref fI)) ∧ PySem.W.typeIn K (.ref fI) = some (.type "function") ∧ PySem.BtX.BtTxt P K mg C fI fd ∧ Binds K fd ["self", "at"] []
  o : OexC K C
  m : mg "BadText" = some (.ref C)
section
variable {X : Cx} {C : Addr} {e : Expr} {ta : TA} {p pos pos2 : Pos} {W : WX}
theorem ps_bad (B : Bt X.prog X.K X.mg C) (hr : Room 1 X.A) (tk : L2N.Takes X W) (ha : PA X [e] ta) (hc : X.calm = true := by rfl) (hg : Gl X "BadText" := by rfl)
    (he : starEach (e :: []) X.env = (false, eval e X.env) :: starEach [] X.env := by rfl) (hpl : (backTo pos (starEach [] X.env)).any (·.1) = false := by rfl) :
    PS X (.Raise (some (.Call (.Name "BadText" p) [e] [] pos)) none pos2) (fun _ σ H => Qx.tMkBt C ta σ H fun cls d H' => W cls d σ H') := by
  obtain ⟨fI, fd, iC, tI, T, b⟩ := B.ex
  exact Qx.ps_raiseBt hc tk B.o iC tI T b hr hg B.m ha (by decide) he hpl
end
/-- what is promised where BadText is raised: its place is at most n -/
def Bad (C : Addr) (n : Nat) (H : Hp) (E : XK) : Prop := ∀ (H' : Hp) (dx : Addr) (k : Int), Same H H' → H' dx = none → 0 ≤ k → k ≤ n → E (.ref C) (some dx) (upd H' dx (.xd [(("at" : Str), .int k)]))
theorem Bad.at {C : Addr} {n : Nat} {H H1 : Hp} {E : XK} (h : Bad C n H E) (s : Same H H1) : Bad C n H1 E := fun H' dx k s' => h H' dx k (s.trans s')

/-! ### single signs -/
theorem sg_lt {a b : Nat} : ([a] < [b]) ↔ a < b := by
  constructor
  · intro h
    rcases List.cons_lt_cons_iff.mp h with h | ⟨_, h⟩
    · exact h
    · cases h
  · intro h
    exact List.cons_lt_cons_iff.mpr (.inl h)
theorem sg_le {a b : Nat} : (!decide ([b] < [a])) = true ↔ a ≤ b := by
  rw [Bool.not_eq_true', decide_eq_false_iff_not, sg_lt]
  omega
theorem mk_inj {a b : List Nat} (h : V.str (mk a) = V.str (mk b)) : a = b := by
  injection h with h
  have := congrArg tl h
  exact this
theorem sg_eq {a b : Nat} : (V.str (mk [a]) = V.str (mk [b])) ↔ a = b := ⟨fun h => by
  have := mk_inj h
  injection this, fun h => by rw [h]⟩
theorem mk_len (l : List Nat) : (mk l).length = l.length := by rw [len_tl, tl_mk']
theorem at_l {l : List Nat} {p : Int} {k : Nat} {c : Nat} (e : p = (k : Int)) (h : l[k]? = some c) : atI (mk l).cps.toList p = some c := by
  rw [e]
  exact atI_nat h
theorem drop_get {l : List Nat} {a k : Nat} : (l.drop a)[k]? = l[a + k]? := List.getElem?_drop
theorem head_at {l : List Nat} {a : Nat} (h : a < l.length) : ∃ c, l[a]? = some c ∧ (l.drop a).head? = some c ∧ l.drop a = c :: l.drop (a + 1) := by
  refine ⟨l[a], List.getElem?_eq_getElem h, ?_, List.drop_eq_getElem_cons h⟩
  rw [List.drop_eq_getElem_cons h]; rfl
theorem digs_le {l : List Nat} {a : Nat} (h : a ≤ l.length) : a + sgn (l.drop a) + digs (l.drop a) ≤ l.length := by
  have h1 := run_le isDig ((l.drop a).drop (sgn (l.drop a)))
  have h2 := sgn_le (l.drop a)
  rw [List.length_drop] at h1 h2
  rw [List.length_drop] at h1
  have h3 : digs (l.drop a) = run isDig ((l.drop a).drop (sgn (l.drop a))) := rfl
  omega
/-- the j-th sign behind the head's sign -/
theorem dig_in {l : List Nat} {a j : Nat} (hj : j ≤ digs (l.drop a)) {c : Nat} (hc : l[a + sgn (l.drop a) + j]? = some c) : (isDig c = true → j + 1 ≤ digs (l.drop a)) ∧ (isDig c = false → j = digs (l.drop a)) := by
  have e : ((l.drop a).drop (sgn (l.drop a)))[j]? = some c := by
    rw [List.getElem?_drop, List.getElem?_drop, ← Nat.add_assoc]; exact hc
  have hd : digs (l.drop a) = run isDig ((l.drop a).drop (sgn (l.drop a))) := rfl
  rcases Nat.lt_or_ge j (digs (l.drop a)) with h | h
  · obtain ⟨c', e', h'⟩ := run_in (p := isDig) (k := j) (by rw [← hd]; exact h)
    rw [e] at e'; cases e'
    exact ⟨fun _ => h, fun z => by rw [h'] at z; cases z⟩
  · have ej : j = digs (l.drop a) := by omega
    have := run_out (p := isDig) (c := c) (by rw [← hd, ← ej]; exact e)
    exact ⟨fun z => (by rw [this] at z; cases z), fun _ => ej⟩
theorem dig_out {l : List Nat} {a j : Nat} (ha : a ≤ l.length) (hj : j ≤ digs (l.drop a)) (h : l.length ≤ a + sgn (l.drop a) + j) : j = digs (l.drop a) := by
  have := digs_le (l := l) (a := a) ha
  omega
section
variable {P : Program} {w : World} {K : PySem.W.Frag} {mg : Str → Option Value} {base : Heap} {f : Addr} {fd : FuncData}

variable {C : Addr}
/-! ### the end of a number -/
def spNum (C : Addr) : Sp := fun vs H Q E => ∃ (l : List Nat) (a : Nat), vs = [.str (mk l), .int (a : Int)] ∧ a < l.length ∧ l.length ≤ 1000000 ∧ (∀ k, numEnd (l.drop a) = some k → Q (.int ((a + k : Nat) : Int)) H) ∧ (numEnd (l.drop a) = none → Bad C l.length H E)
def spNumL : Sp := fun vs H Q _ => ∃ (l : List Nat) (a : Nat), vs = [.str (mk l), .int (a : Int)] ∧ a < l.length ∧ l.length ≤ 1000000 ∧ (∀ k, numEnd (l.drop a) = some k → Q (.int ((a + k : Nat) : Int)) H) ∧ (numEnd (l.drop a) = none → Q .non H)
def spStr (C : Addr) : Sp := fun vs H Q E => ∃ (l : List Nat) (a : Nat), vs = [.str (mk l), .int (a : Int)] ∧ a < l.length ∧ l.length ≤ 1000000 ∧ (∀ k, strEnd (l.drop (a + 1)) = some k → Q (.int ((a + 1 + k : Nat) : Int)) H) ∧ (strEnd (l.drop (a + 1)) = none → Bad C l.length H E)
abbrev sNumberEnd : Stmt := top 13
theorem scNumberEnd : FnScope ["text", "at", "end", "first", "size"] ["text", "at"] (defScope sNumberEnd) := ⟨rfl, rfl, rfl, by decide +kernel, rfl, by decide +kernel, by decide +kernel⟩
theorem ok_number_end (T : Mo mg) (F : Fun K "number_end" "number_end" sNumberEnd f fd) (B : Bt P K mg C) : FnOk P w K mg base (L2N.CX P w) 2 f fd ["text", "at"] (spNum C) := by
  refine F.okG (L2N.CX P w) scNumberEnd (fun vs H Q E h => ?_) (fun cdv A outer s H vs Q E hr h => ?_)
  · obtain ⟨l, a, rfl, _⟩ := h
    rfl
  obtain ⟨l, a, rfl, ha, hlen, q, hbad⟩ := h
  obtain ⟨t300, hDIGITS_LIMIT⟩ := T.DIGITS_LIMIT
  refine ⟨_, (pss_cons (ps_set (i := 2) scNumberEnd.nd rfl (Or.inl rfl) (pe_ifExp (pt_cmpR op_eq (pe_ix ix_str (pv 0) (pv 1) (fun _ _ => rfl)) pe_str (nomark _)) (pe_op op_add (pv 1) pe_int) (pv 1))) (pss_cons (ps_set (i := 3) scNumberEnd.nd rfl (Or.inl rfl) (pv 2)) (pss_cons (ps_while (passes_of rfl) (PW.pt (pw_and (pt_cmpR op_lt (pv 2) (pe_callB call_len_str (by rfl) T.len PySem.boot_len (pa_cons (pv 0) pa_nil)) (nomark _)) (pw_and1 (pt_chain op_le_str op_le_str pe_str (pe_ix ix_str (pv 0) (pv 2) (fun _ _ => rfl)) pe_str)))) (pss_one (ps_aug (i := 2) scNumberEnd.nd rfl (Or.inl rfl) pe_int ip_add))) (pss_cons (ps_set (i := 4) scNumberEnd.nd rfl (Or.inl rfl) (pe_op op_sub (pv 2) (pv 3))) (pss_cons (ps_if (PW.pt (pw_or (pt_cmpR op_eq (pv 4) pe_int (nomark _)) (pw_or (pt_cmpR op_gt (pv 4) (pe_glob (v := .int 300) rfl hDIGITS_LIMIT ⟨_, rfl⟩) (nomark _)) (pw_or1 (PW.pt (pw_and (pt_cmpR op_eq (pe_ix ix_str (pv 0) (pv 3) (fun _ _ => rfl)) pe_str (nomark _)) (pw_and1 (PW.pt (pw_or (pt_cmpR op_gt (pv 4) pe_int (nomark _)) (pw_or1 (pt_cmpR op_gt (pv 3) (pv 1) (nomark _)))))))))))) (pss_one (ps_bad B (hr.mono (by omega)) (L2N.takes_of rfl rfl rfl rfl) (pa_cons (pv 1) pa_nil))) pss_nil) (pss_one (ps_ret (pv 2)))))))), ?_⟩
  have numNone : numBad (l.drop a) → numEnd (l.drop a) = none := fun z => by unfold numEnd; rw [if_pos z]
  have numSome : digs (l.drop a) ≠ 0 → ¬ 300 < digs (l.drop a) → ¬ ((l.drop a)[sgn (l.drop a)]? = some 48 ∧ 1 < sgn (l.drop a) + digs (l.drop a)) → numEnd (l.drop a) = some (sgn (l.drop a) + digs (l.drop a)) := fun h1 h2 h3 => by
    unfold numEnd
    rw [if_neg]
    rintro (z | z | z)
    · exact h1 z
    · exact h2 z
    · exact h3 z
  obtain ⟨c0, hc0, hh, hdr⟩ := head_at ha
  refine ⟨_, rfl, _, rfl, _, _, c0, rfl, rfl, big _ (by rw [mk_len]; exact hlen), at_l rfl hc0, rfl, _, rfl, ite2 (fun hm => ?_) (fun hm => ?_)⟩
  · have hsg : sgn (l.drop a) = 1 := by
      have : c0 = 45 := sg_eq.mp (of_decide_eq_true hm)
      unfold sgn; rw [hh, this]; rfl
    refine ⟨_, rfl, _, _, rfl, rfl, _, rfl, ?_⟩
    refine ⟨fun m σ H' => H' = H ∧ ∃ j : Nat, σ = [some (.str (mk l)), some (.int (a : Int)), some (.int (((a : Int) + 1) + (j : Int))), some (.int ((a : Int) + 1)), none] ∧ j ≤ digs (l.drop a) ∧ m = l.length - j, ⟨_, rfl, 0, by rw [show ((a : Int) + 1) + ((0 : Nat) : Int) = ((a : Int) + 1) by omega]; rfl, Nat.zero_le _, rfl⟩, ?_⟩
    rintro m σ H' ⟨rfl, j, rfl, hj, rfl⟩
    have dl := digs_le (l := l) (a := a) (by omega)
    refine ⟨_, rfl, _, rfl, _, rfl, big _ (by rw [mk_len]; exact hlen), _, _, rfl, rfl, _, rfl, ite2 (fun hin => ?_) (fun hout => ?_)⟩
    · have hin' : ((a : Int) + 1) + (j : Int) < ((mk l).length : Int) := of_decide_eq_true hin
      rw [mk_len] at hin'
      have hp : a + sgn (l.drop a) + j < l.length := by rw [hsg]; omega
      obtain ⟨c, hc, _, _⟩ := head_at hp
      have hci := dig_in hj hc
      refine ⟨_, rfl, _, rfl, _, _, c, rfl, rfl, big _ (by rw [mk_len]; exact hlen), at_l (by rw [hsg]; omega) hc, _, _, rfl, rfl, _, rfl, ite2 (fun h1 => ⟨_, _, rfl, rfl, _, rfl, ite2 (fun h2 => ?_) (fun h2 => ?_)⟩) (fun h1 => ⟨_, rfl, iteF ?_⟩)⟩
      · have hd : isDig c = true := isDig_iff.mpr ⟨sg_le.mp h1, sg_le.mp h2⟩
        refine ⟨fun σ' H' => ∃ m', m' < l.length - j ∧ _, fun _ _ h => h, ?_⟩
        refine ⟨_, rfl, _, _, rfl, rfl, l.length - (j + 1), by omega, rfl, j + 1, ?_, hci.1 hd, rfl⟩
        simp [List.set, Int.add_assoc]
      · have hd : isDig c = false := Bool.eq_false_iff.mpr fun z => h2 (sg_le.mpr (isDig_iff.mp z).2)
        obtain rfl := hci.2 hd
        refine ⟨_, rfl, _, rfl, _, _, rfl, rfl, _, rfl, rfl, _, rfl, ite2 (fun h0 => iteT ?_) (fun h0 => ?_)⟩
        · have h0' : V.int (((a : Int) + 1) + ((digs (l.drop a) : Nat) : Int) - ((a : Int) + 1)) = V.int 0 := of_decide_eq_true h0
          injection h0' with h0'
          exact ⟨_, rfl, _, rfl, fun dx hdx => hbad (numNone (.inl (by omega))) H' dx _ (.refl _) hdx (by omega) (by omega)⟩
        have n0 : digs (l.drop a) ≠ 0 := fun z => h0 (decide_eq_true (congrArg V.int (show ((a : Int) + 1) + ((digs (l.drop a) : Nat) : Int) - ((a : Int) + 1) = 0 by omega)))
        refine ⟨_, rfl, _, _, rfl, rfl, _, rfl, ite2 (fun h1 => iteT ?_) (fun h1 => ?_)⟩
        · have h1' : ((a : Int) + 1) + ((digs (l.drop a) : Nat) : Int) - ((a : Int) + 1) > 300 := of_decide_eq_true h1
          exact ⟨_, rfl, _, rfl, fun dx hdx => hbad (numNone (.inr (.inl (by omega)))) H' dx _ (.refl _) hdx (by omega) (by omega)⟩
        have n1 : ¬ 300 < digs (l.drop a) := fun z => h1 (decide_eq_true (by show ((a : Int) + 1) + ((digs (l.drop a) : Nat) : Int) - ((a : Int) + 1) > 300; omega))
        obtain ⟨c2, hc2, _, _⟩ := head_at (l := l) (a := a + sgn (l.drop a)) (by omega)
        have hf : (l.drop a)[sgn (l.drop a)]? = some c2 := by rw [List.getElem?_drop]; exact hc2
        refine ⟨_, rfl, _, rfl, _, _, c2, rfl, rfl, big _ (by rw [mk_len]; exact hlen), at_l (by rw [hsg]; omega) hc2, rfl, _, rfl, ite2 (fun h2 => ?_) (fun h2 => iteF ?_)⟩
        · have e48 : c2 = 48 := sg_eq.mp (of_decide_eq_true h2)
          refine ⟨_, rfl, _, _, rfl, rfl, _, rfl, ite2 (fun h3 => iteT ?_) (fun h3 => ?_)⟩
          · have h3' : ((a : Int) + 1) + ((digs (l.drop a) : Nat) : Int) - ((a : Int) + 1) > 1 := of_decide_eq_true h3
            exact ⟨_, rfl, _, rfl, fun dx hdx => hbad (numNone (.inr (.inr ⟨by rw [hf, e48], by omega⟩))) H' dx _ (.refl _) hdx (by omega) (by omega)⟩
          · have n3 : ¬ 1 < digs (l.drop a) := fun z => h3 (decide_eq_true (by show ((a : Int) + 1) + ((digs (l.drop a) : Nat) : Int) - ((a : Int) + 1) > 1; omega))
            refine ⟨_, rfl, _, rfl, _, _, rfl, rfl, _, rfl, ite2 (fun h4 => ?_) (fun h4 => ?_)⟩
            · have h4' : ((a : Int) + 1) > (a : Int) := of_decide_eq_true h4
              exact ⟨_, rfl, _, rfl, fun dx hdx => hbad (numNone (.inr (.inr ⟨by rw [hf, e48], by omega⟩))) H' dx _ (.refl _) hdx (by omega) (by omega)⟩
            · have n4 : ¬ ((a : Int) + 1) > (a : Int) := fun z => h4 (decide_eq_true z)
              refine ⟨_, rfl, ?_⟩
              have := q _ (numSome n0 n1 (fun z => absurd z.2 (by omega)))
              rw [show ((a + (sgn (l.drop a) + digs (l.drop a)) : Nat) : Int) = ((a : Int) + 1) + ((digs (l.drop a) : Nat) : Int) by omega] at this; exact this
        · have n48 : c2 ≠ 48 := fun z => h2 (decide_eq_true (sg_eq.mpr z))
          refine ⟨_, rfl, ?_⟩
          have := q _ (numSome n0 n1 (fun z => absurd z.1 (by rw [hf]; exact fun e => n48 (Option.some.inj e))))
          rw [show ((a + (sgn (l.drop a) + digs (l.drop a)) : Nat) : Int) = ((a : Int) + 1) + ((digs (l.drop a) : Nat) : Int) by omega] at this; exact this
      · have hd : isDig c = false := Bool.eq_false_iff.mpr fun z => h1 (sg_le.mpr (isDig_iff.mp z).1)
        obtain rfl := hci.2 hd
        refine ⟨_, rfl, _, rfl, _, _, rfl, rfl, _, rfl, rfl, _, rfl, ite2 (fun h0 => iteT ?_) (fun h0 => ?_)⟩
        · have h0' : V.int (((a : Int) + 1) + ((digs (l.drop a) : Nat) : Int) - ((a : Int) + 1)) = V.int 0 := of_decide_eq_true h0
          injection h0' with h0'
          exact ⟨_, rfl, _, rfl, fun dx hdx => hbad (numNone (.inl (by omega))) H' dx _ (.refl _) hdx (by omega) (by omega)⟩
        have n0 : digs (l.drop a) ≠ 0 := fun z => h0 (decide_eq_true (congrArg V.int (show ((a : Int) + 1) + ((digs (l.drop a) : Nat) : Int) - ((a : Int) + 1) = 0 by omega)))
        refine ⟨_, rfl, _, _, rfl, rfl, _, rfl, ite2 (fun h1 => iteT ?_) (fun h1 => ?_)⟩
        · have h1' : ((a : Int) + 1) + ((digs (l.drop a) : Nat) : Int) - ((a : Int) + 1) > 300 := of_decide_eq_true h1
          exact ⟨_, rfl, _, rfl, fun dx hdx => hbad (numNone (.inr (.inl (by omega)))) H' dx _ (.refl _) hdx (by omega) (by omega)⟩
        have n1 : ¬ 300 < digs (l.drop a) := fun z => h1 (decide_eq_true (by show ((a : Int) + 1) + ((digs (l.drop a) : Nat) : Int) - ((a : Int) + 1) > 300; omega))
        obtain ⟨c2, hc2, _, _⟩ := head_at (l := l) (a := a + sgn (l.drop a)) (by omega)
        have hf : (l.drop a)[sgn (l.drop a)]? = some c2 := by rw [List.getElem?_drop]; exact hc2
        refine ⟨_, rfl, _, rfl, _, _, c2, rfl, rfl, big _ (by rw [mk_len]; exact hlen), at_l (by rw [hsg]; omega) hc2, rfl, _, rfl, ite2 (fun h2 => ?_) (fun h2 => iteF ?_)⟩
        · have e48 : c2 = 48 := sg_eq.mp (of_decide_eq_true h2)
          refine ⟨_, rfl, _, _, rfl, rfl, _, rfl, ite2 (fun h3 => iteT ?_) (fun h3 => ?_)⟩
          · have h3' : ((a : Int) + 1) + ((digs (l.drop a) : Nat) : Int) - ((a : Int) + 1) > 1 := of_decide_eq_true h3
            exact ⟨_, rfl, _, rfl, fun dx hdx => hbad (numNone (.inr (.inr ⟨by rw [hf, e48], by omega⟩))) H' dx _ (.refl _) hdx (by omega) (by omega)⟩
          · have n3 : ¬ 1 < digs (l.drop a) := fun z => h3 (decide_eq_true (by show ((a : Int) + 1) + ((digs (l.drop a) : Nat) : Int) - ((a : Int) + 1) > 1; omega))
            refine ⟨_, rfl, _, rfl, _, _, rfl, rfl, _, rfl, ite2 (fun h4 => ?_) (fun h4 => ?_)⟩
            · have h4' : ((a : Int) + 1) > (a : Int) := of_decide_eq_true h4
              exact ⟨_, rfl, _, rfl, fun dx hdx => hbad (numNone (.inr (.inr ⟨by rw [hf, e48], by omega⟩))) H' dx _ (.refl _) hdx (by omega) (by omega)⟩
            · have n4 : ¬ ((a : Int) + 1) > (a : Int) := fun z => h4 (decide_eq_true z)
              refine ⟨_, rfl, ?_⟩
              have := q _ (numSome n0 n1 (fun z => absurd z.2 (by omega)))
              rw [show ((a + (sgn (l.drop a) + digs (l.drop a)) : Nat) : Int) = ((a : Int) + 1) + ((digs (l.drop a) : Nat) : Int) by omega] at this; exact this
        · have n48 : c2 ≠ 48 := fun z => h2 (decide_eq_true (sg_eq.mpr z))
          refine ⟨_, rfl, ?_⟩
          have := q _ (numSome n0 n1 (fun z => absurd z.1 (by rw [hf]; exact fun e => n48 (Option.some.inj e))))
          rw [show ((a + (sgn (l.drop a) + digs (l.drop a)) : Nat) : Int) = ((a : Int) + 1) + ((digs (l.drop a) : Nat) : Int) by omega] at this; exact this
    · have hout' : ¬ ((a : Int) + 1) + (j : Int) < ((mk l).length : Int) := fun z => hout (decide_eq_true z)
      rw [mk_len] at hout'
      obtain rfl := dig_out (a := a) (j := j) (by omega) hj (by rw [hsg]; omega)
      refine iteF ?_
      refine ⟨_, rfl, _, rfl, _, _, rfl, rfl, _, rfl, rfl, _, rfl, ite2 (fun h0 => iteT ?_) (fun h0 => ?_)⟩
      · have h0' : V.int (((a : Int) + 1) + ((digs (l.drop a) : Nat) : Int) - ((a : Int) + 1)) = V.int 0 := of_decide_eq_true h0
        injection h0' with h0'
        exact ⟨_, rfl, _, rfl, fun dx hdx => hbad (numNone (.inl (by omega))) H' dx _ (.refl _) hdx (by omega) (by omega)⟩
      have n0 : digs (l.drop a) ≠ 0 := fun z => h0 (decide_eq_true (congrArg V.int (show ((a : Int) + 1) + ((digs (l.drop a) : Nat) : Int) - ((a : Int) + 1) = 0 by omega)))
      refine ⟨_, rfl, _, _, rfl, rfl, _, rfl, ite2 (fun h1 => iteT ?_) (fun h1 => ?_)⟩
      · have h1' : ((a : Int) + 1) + ((digs (l.drop a) : Nat) : Int) - ((a : Int) + 1) > 300 := of_decide_eq_true h1
        exact ⟨_, rfl, _, rfl, fun dx hdx => hbad (numNone (.inr (.inl (by omega)))) H' dx _ (.refl _) hdx (by omega) (by omega)⟩
      have n1 : ¬ 300 < digs (l.drop a) := fun z => h1 (decide_eq_true (by show ((a : Int) + 1) + ((digs (l.drop a) : Nat) : Int) - ((a : Int) + 1) > 300; omega))
      obtain ⟨c2, hc2, _, _⟩ := head_at (l := l) (a := a + sgn (l.drop a)) (by omega)
      have hf : (l.drop a)[sgn (l.drop a)]? = some c2 := by rw [List.getElem?_drop]; exact hc2
      refine ⟨_, rfl, _, rfl, _, _, c2, rfl, rfl, big _ (by rw [mk_len]; exact hlen), at_l (by rw [hsg]; omega) hc2, rfl, _, rfl, ite2 (fun h2 => ?_) (fun h2 => iteF ?_)⟩
      · have e48 : c2 = 48 := sg_eq.mp (of_decide_eq_true h2)
        refine ⟨_, rfl, _, _, rfl, rfl, _, rfl, ite2 (fun h3 => iteT ?_) (fun h3 => ?_)⟩
        · have h3' : ((a : Int) + 1) + ((digs (l.drop a) : Nat) : Int) - ((a : Int) + 1) > 1 := of_decide_eq_true h3
          exact ⟨_, rfl, _, rfl, fun dx hdx => hbad (numNone (.inr (.inr ⟨by rw [hf, e48], by omega⟩))) H' dx _ (.refl _) hdx (by omega) (by omega)⟩
        · have n3 : ¬ 1 < digs (l.drop a) := fun z => h3 (decide_eq_true (by show ((a : Int) + 1) + ((digs (l.drop a) : Nat) : Int) - ((a : Int) + 1) > 1; omega))
          refine ⟨_, rfl, _, rfl, _, _, rfl, rfl, _, rfl, ite2 (fun h4 => ?_) (fun h4 => ?_)⟩
          · have h4' : ((a : Int) + 1) > (a : Int) := of_decide_eq_true h4
            exact ⟨_, rfl, _, rfl, fun dx hdx => hbad (numNone (.inr (.inr ⟨by rw [hf, e48], by omega⟩))) H' dx _ (.refl _) hdx (by omega) (by omega)⟩
          · have n4 : ¬ ((a : Int) + 1) > (a : Int) := fun z => h4 (decide_eq_true z)
            refine ⟨_, rfl, ?_⟩
            have := q _ (numSome n0 n1 (fun z => absurd z.2 (by omega)))
            rw [show ((a + (sgn (l.drop a) + digs (l.drop a)) : Nat) : Int) = ((a : Int) + 1) + ((digs (l.drop a) : Nat) : Int) by omega] at this; exact this
      · have n48 : c2 ≠ 48 := fun z => h2 (decide_eq_true (sg_eq.mpr z))
        refine ⟨_, rfl, ?_⟩
        have := q _ (numSome n0 n1 (fun z => absurd z.1 (by rw [hf]; exact fun e => n48 (Option.some.inj e))))
        rw [show ((a + (sgn (l.drop a) + digs (l.drop a)) : Nat) : Int) = ((a : Int) + 1) + ((digs (l.drop a) : Nat) : Int) by omega] at this; exact this
  · have hsg : sgn (l.drop a) = 0 := by
      have : c0 ≠ 45 := fun z => hm (decide_eq_true (sg_eq.mpr z))
      unfold sgn; rw [hh, if_neg (fun e => this (Option.some.inj e))]
    refine ⟨_, rfl, _, rfl, ?_⟩
    refine ⟨fun m σ H' => H' = H ∧ ∃ j : Nat, σ = [some (.str (mk l)), some (.int (a : Int)), some (.int ((a : Int) + (j : Int))), some (.int (a : Int)), none] ∧ j ≤ digs (l.drop a) ∧ m = l.length - j, ⟨_, rfl, 0, by rw [show (a : Int) + ((0 : Nat) : Int) = (a : Int) by omega]; rfl, Nat.zero_le _, rfl⟩, ?_⟩
    rintro m σ H' ⟨rfl, j, rfl, hj, rfl⟩
    have dl := digs_le (l := l) (a := a) (by omega)
    refine ⟨_, rfl, _, rfl, _, rfl, big _ (by rw [mk_len]; exact hlen), _, _, rfl, rfl, _, rfl, ite2 (fun hin => ?_) (fun hout => ?_)⟩
    · have hin' : (a : Int) + (j : Int) < ((mk l).length : Int) := of_decide_eq_true hin
      rw [mk_len] at hin'
      have hp : a + sgn (l.drop a) + j < l.length := by rw [hsg]; omega
      obtain ⟨c, hc, _, _⟩ := head_at hp
      have hci := dig_in hj hc
      refine ⟨_, rfl, _, rfl, _, _, c, rfl, rfl, big _ (by rw [mk_len]; exact hlen), at_l (by rw [hsg]; omega) hc, _, _, rfl, rfl, _, rfl, ite2 (fun h1 => ⟨_, _, rfl, rfl, _, rfl, ite2 (fun h2 => ?_) (fun h2 => ?_)⟩) (fun h1 => ⟨_, rfl, iteF ?_⟩)⟩
      · have hd : isDig c = true := isDig_iff.mpr ⟨sg_le.mp h1, sg_le.mp h2⟩
        refine ⟨fun σ' H' => ∃ m', m' < l.length - j ∧ _, fun _ _ h => h, ?_⟩
        refine ⟨_, rfl, _, _, rfl, rfl, l.length - (j + 1), by omega, rfl, j + 1, ?_, hci.1 hd, rfl⟩
        simp [List.set, Int.add_assoc]
      · have hd : isDig c = false := Bool.eq_false_iff.mpr fun z => h2 (sg_le.mpr (isDig_iff.mp z).2)
        obtain rfl := hci.2 hd
        refine ⟨_, rfl, _, rfl, _, _, rfl, rfl, _, rfl, rfl, _, rfl, ite2 (fun h0 => iteT ?_) (fun h0 => ?_)⟩
        · have h0' : V.int ((a : Int) + ((digs (l.drop a) : Nat) : Int) - (a : Int)) = V.int 0 := of_decide_eq_true h0
          injection h0' with h0'
          exact ⟨_, rfl, _, rfl, fun dx hdx => hbad (numNone (.inl (by omega))) H' dx _ (.refl _) hdx (by omega) (by omega)⟩
        have n0 : digs (l.drop a) ≠ 0 := fun z => h0 (decide_eq_true (congrArg V.int (show (a : Int) + ((digs (l.drop a) : Nat) : Int) - (a : Int) = 0 by omega)))
        refine ⟨_, rfl, _, _, rfl, rfl, _, rfl, ite2 (fun h1 => iteT ?_) (fun h1 => ?_)⟩
        · have h1' : (a : Int) + ((digs (l.drop a) : Nat) : Int) - (a : Int) > 300 := of_decide_eq_true h1
          exact ⟨_, rfl, _, rfl, fun dx hdx => hbad (numNone (.inr (.inl (by omega)))) H' dx _ (.refl _) hdx (by omega) (by omega)⟩
        have n1 : ¬ 300 < digs (l.drop a) := fun z => h1 (decide_eq_true (by show (a : Int) + ((digs (l.drop a) : Nat) : Int) - (a : Int) > 300; omega))
        obtain ⟨c2, hc2, _, _⟩ := head_at (l := l) (a := a + sgn (l.drop a)) (by omega)
        have hf : (l.drop a)[sgn (l.drop a)]? = some c2 := by rw [List.getElem?_drop]; exact hc2
        refine ⟨_, rfl, _, rfl, _, _, c2, rfl, rfl, big _ (by rw [mk_len]; exact hlen), at_l (by rw [hsg]; omega) hc2, rfl, _, rfl, ite2 (fun h2 => ?_) (fun h2 => iteF ?_)⟩
        · have e48 : c2 = 48 := sg_eq.mp (of_decide_eq_true h2)
          refine ⟨_, rfl, _, _, rfl, rfl, _, rfl, ite2 (fun h3 => iteT ?_) (fun h3 => ?_)⟩
          · have h3' : (a : Int) + ((digs (l.drop a) : Nat) : Int) - (a : Int) > 1 := of_decide_eq_true h3
            exact ⟨_, rfl, _, rfl, fun dx hdx => hbad (numNone (.inr (.inr ⟨by rw [hf, e48], by omega⟩))) H' dx _ (.refl _) hdx (by omega) (by omega)⟩
          · have n3 : ¬ 1 < digs (l.drop a) := fun z => h3 (decide_eq_true (by show (a : Int) + ((digs (l.drop a) : Nat) : Int) - (a : Int) > 1; omega))
            refine ⟨_, rfl, _, rfl, _, _, rfl, rfl, _, rfl, ite2 (fun h4 => ?_) (fun h4 => ?_)⟩
            · have h4' : (a : Int) > (a : Int) := of_decide_eq_true h4
              exact ⟨_, rfl, _, rfl, fun dx hdx => hbad (numNone (.inr (.inr ⟨by rw [hf, e48], by omega⟩))) H' dx _ (.refl _) hdx (by omega) (by omega)⟩
            · have n4 : ¬ (a : Int) > (a : Int) := fun z => h4 (decide_eq_true z)
              refine ⟨_, rfl, ?_⟩
              have := q _ (numSome n0 n1 (fun z => absurd z.2 (by omega)))
              rw [show ((a + (sgn (l.drop a) + digs (l.drop a)) : Nat) : Int) = (a : Int) + ((digs (l.drop a) : Nat) : Int) by omega] at this; exact this
        · have n48 : c2 ≠ 48 := fun z => h2 (decide_eq_true (sg_eq.mpr z))
          refine ⟨_, rfl, ?_⟩
          have := q _ (numSome n0 n1 (fun z => absurd z.1 (by rw [hf]; exact fun e => n48 (Option.some.inj e))))
          rw [show ((a + (sgn (l.drop a) + digs (l.drop a)) : Nat) : Int) = (a : Int) + ((digs (l.drop a) : Nat) : Int) by omega] at this; exact this
      · have hd : isDig c = false := Bool.eq_false_iff.mpr fun z => h1 (sg_le.mpr (isDig_iff.mp z).1)
        obtain rfl := hci.2 hd
        refine ⟨_, rfl, _, rfl, _, _, rfl, rfl, _, rfl, rfl, _, rfl, ite2 (fun h0 => iteT ?_) (fun h0 => ?_)⟩
        · have h0' : V.int ((a : Int) + ((digs (l.drop a) : Nat) : Int) - (a : Int)) = V.int 0 := of_decide_eq_true h0
          injection h0' with h0'
          exact ⟨_, rfl, _, rfl, fun dx hdx => hbad (numNone (.inl (by omega))) H' dx _ (.refl _) hdx (by omega) (by omega)⟩
        have n0 : digs (l.drop a) ≠ 0 := fun z => h0 (decide_eq_true (congrArg V.int (show (a : Int) + ((digs (l.drop a) : Nat) : Int) - (a : Int) = 0 by omega)))
        refine ⟨_, rfl, _, _, rfl, rfl, _, rfl, ite2 (fun h1 => iteT ?_) (fun h1 => ?_)⟩
        · have h1' : (a : Int) + ((digs (l.drop a) : Nat) : Int) - (a : Int) > 300 := of_decide_eq_true h1
          exact ⟨_, rfl, _, rfl, fun dx hdx => hbad (numNone (.inr (.inl (by omega)))) H' dx _ (.refl _) hdx (by omega) (by omega)⟩
        have n1 : ¬ 300 < digs (l.drop a) := fun z => h1 (decide_eq_true (by show (a : Int) + ((digs (l.drop a) : Nat) : Int) - (a : Int) > 300; omega))
        obtain ⟨c2, hc2, _, _⟩ := head_at (l := l) (a := a + sgn (l.drop a)) (by omega)
        have hf : (l.drop a)[sgn (l.drop a)]? = some c2 := by rw [List.getElem?_drop]; exact hc2
        refine ⟨_, rfl, _, rfl, _, _, c2, rfl, rfl, big _ (by rw [mk_len]; exact hlen), at_l (by rw [hsg]; omega) hc2, rfl, _, rfl, ite2 (fun h2 => ?_) (fun h2 => iteF ?_)⟩
        · have e48 : c2 = 48 := sg_eq.mp (of_decide_eq_true h2)
          refine ⟨_, rfl, _, _, rfl, rfl, _, rfl, ite2 (fun h3 => iteT ?_) (fun h3 => ?_)⟩
          · have h3' : (a : Int) + ((digs (l.drop a) : Nat) : Int) - (a : Int) > 1 := of_decide_eq_true h3
            exact ⟨_, rfl, _, rfl, fun dx hdx => hbad (numNone (.inr (.inr ⟨by rw [hf, e48], by omega⟩))) H' dx _ (.refl _) hdx (by omega) (by omega)⟩
          · have n3 : ¬ 1 < digs (l.drop a) := fun z => h3 (decide_eq_true (by show (a : Int) + ((digs (l.drop a) : Nat) : Int) - (a : Int) > 1; omega))
            refine ⟨_, rfl, _, rfl, _, _, rfl, rfl, _, rfl, ite2 (fun h4 => ?_) (fun h4 => ?_)⟩
            · have h4' : (a : Int) > (a : Int) := of_decide_eq_true h4
              exact ⟨_, rfl, _, rfl, fun dx hdx => hbad (numNone (.inr (.inr ⟨by rw [hf, e48], by omega⟩))) H' dx _ (.refl _) hdx (by omega) (by omega)⟩
            · have n4 : ¬ (a : Int) > (a : Int) := fun z => h4 (decide_eq_true z)
              refine ⟨_, rfl, ?_⟩
              have := q _ (numSome n0 n1 (fun z => absurd z.2 (by omega)))
              rw [show ((a + (sgn (l.drop a) + digs (l.drop a)) : Nat) : Int) = (a : Int) + ((digs (l.drop a) : Nat) : Int) by omega] at this; exact this
        · have n48 : c2 ≠ 48 := fun z => h2 (decide_eq_true (sg_eq.mpr z))
          refine ⟨_, rfl, ?_⟩
          have := q _ (numSome n0 n1 (fun z => absurd z.1 (by rw [hf]; exact fun e => n48 (Option.some.inj e))))
          rw [show ((a + (sgn (l.drop a) + digs (l.drop a)) : Nat) : Int) = (a : Int) + ((digs (l.drop a) : Nat) : Int) by omega] at this; exact this
    · have hout' : ¬ (a : Int) + (j : Int) < ((mk l).length : Int) := fun z => hout (decide_eq_true z)
      rw [mk_len] at hout'
      obtain rfl := dig_out (a := a) (j := j) (by omega) hj (by rw [hsg]; omega)
      refine iteF ?_
      refine ⟨_, rfl, _, rfl, _, _, rfl, rfl, _, rfl, rfl, _, rfl, ite2 (fun h0 => iteT ?_) (fun h0 => ?_)⟩
      · have h0' : V.int ((a : Int) + ((digs (l.drop a) : Nat) : Int) - (a : Int)) = V.int 0 := of_decide_eq_true h0
        injection h0' with h0'
        exact ⟨_, rfl, _, rfl, fun dx hdx => hbad (numNone (.inl (by omega))) H' dx _ (.refl _) hdx (by omega) (by omega)⟩
      have n0 : digs (l.drop a) ≠ 0 := fun z => h0 (decide_eq_true (congrArg V.int (show (a : Int) + ((digs (l.drop a) : Nat) : Int) - (a : Int) = 0 by omega)))
      refine ⟨_, rfl, _, _, rfl, rfl, _, rfl, ite2 (fun h1 => iteT ?_) (fun h1 => ?_)⟩
      · have h1' : (a : Int) + ((digs (l.drop a) : Nat) : Int) - (a : Int) > 300 := of_decide_eq_true h1
        exact ⟨_, rfl, _, rfl, fun dx hdx => hbad (numNone (.inr (.inl (by omega)))) H' dx _ (.refl _) hdx (by omega) (by omega)⟩
      have n1 : ¬ 300 < digs (l.drop a) := fun z => h1 (decide_eq_true (by show (a : Int) + ((digs (l.drop a) : Nat) : Int) - (a : Int) > 300; omega))
      obtain ⟨c2, hc2, _, _⟩ := head_at (l := l) (a := a + sgn (l.drop a)) (by omega)
      have hf : (l.drop a)[sgn (l.drop a)]? = some c2 := by rw [List.getElem?_drop]; exact hc2
      refine ⟨_, rfl, _, rfl, _, _, c2, rfl, rfl, big _ (by rw [mk_len]; exact hlen), at_l (by rw [hsg]; omega) hc2, rfl, _, rfl, ite2 (fun h2 => ?_) (fun h2 => iteF ?_)⟩
      · have e48 : c2 = 48 := sg_eq.mp (of_decide_eq_true h2)
        refine ⟨_, rfl, _, _, rfl, rfl, _, rfl, ite2 (fun h3 => iteT ?_) (fun h3 => ?_)⟩
        · have h3' : (a : Int) + ((digs (l.drop a) : Nat) : Int) - (a : Int) > 1 := of_decide_eq_true h3
          exact ⟨_, rfl, _, rfl, fun dx hdx => hbad (numNone (.inr (.inr ⟨by rw [hf, e48], by omega⟩))) H' dx _ (.refl _) hdx (by omega) (by omega)⟩
        · have n3 : ¬ 1 < digs (l.drop a) := fun z => h3 (decide_eq_true (by show (a : Int) + ((digs (l.drop a) : Nat) : Int) - (a : Int) > 1; omega))
          refine ⟨_, rfl, _, rfl, _, _, rfl, rfl, _, rfl, ite2 (fun h4 => ?_) (fun h4 => ?_)⟩
          · have h4' : (a : Int) > (a : Int) := of_decide_eq_true h4
            exact ⟨_, rfl, _, rfl, fun dx hdx => hbad (numNone (.inr (.inr ⟨by rw [hf, e48], by omega⟩))) H' dx _ (.refl _) hdx (by omega) (by omega)⟩
          · have n4 : ¬ (a : Int) > (a : Int) := fun z => h4 (decide_eq_true z)
            refine ⟨_, rfl, ?_⟩
            have := q _ (numSome n0 n1 (fun z => absurd z.2 (by omega)))
            rw [show ((a + (sgn (l.drop a) + digs (l.drop a)) : Nat) : Int) = (a : Int) + ((digs (l.drop a) : Nat) : Int) by omega] at this; exact this
      · have n48 : c2 ≠ 48 := fun z => h2 (decide_eq_true (sg_eq.mpr z))
        refine ⟨_, rfl, ?_⟩
        have := q _ (numSome n0 n1 (fun z => absurd z.1 (by rw [hf]; exact fun e => n48 (Option.some.inj e))))
        rw [show ((a + (sgn (l.drop a) + digs (l.drop a)) : Nat) : Int) = (a : Int) + ((digs (l.drop a) : Nat) : Int) by omega] at this; exact this

abbrev sLawNumberEnd : Stmt := top 33
theorem scLawNumberEnd : FnScope ["text", "at", "first", "end"] ["text", "at"] (defScope sLawNumberEnd) := ⟨rfl, rfl, rfl, by decide +kernel, rfl, by decide +kernel, by decide +kernel⟩
theorem ok_number_endL (T : Mo mg) (F : Fun K "_law_number_end" "_law_number_end" sLawNumberEnd f fd)  : FnOk P w K mg base CX0 1 f fd ["text", "at"] spNumL := by
  refine F.ok scLawNumberEnd (fun vs H Q E h => ?_) (fun cdv A outer s H vs Q E hr h => ?_)
  · obtain ⟨l, a, rfl, _⟩ := h
    rfl
  obtain ⟨l, a, rfl, ha, hlen, q, qn⟩ := h
  refine ⟨_, (pss_cons (ps_set (i := 2) scLawNumberEnd.nd rfl (Or.inl rfl) (pe_ifExp (pt_cmpR op_eq (pe_ix ix_str (pv 0) (pv 1) (fun _ _ => rfl)) pe_str (nomark _)) (pe_op op_add (pv 1) pe_int) (pv 1))) (pss_cons (ps_set (i := 3) scLawNumberEnd.nd rfl (Or.inl rfl) (pv 2)) (pss_cons (ps_while PassesOwn.never (PW.pt (pw_and (pt_cmpR op_lt (pv 3) (pe_callB call_len_str (by rfl) T.len PySem.boot_len (pa_cons (pv 0) pa_nil)) (nomark _)) (pw_and1 (pt_chain op_le_str op_le_str pe_str (pe_ix ix_str (pv 0) (pv 3) (fun _ _ => rfl)) pe_str)))) (pss_one (ps_aug (i := 3) scLawNumberEnd.nd rfl (Or.inl rfl) pe_int ip_add))) (pss_cons (ps_if (PW.pt (pw_or (pt_cmpR op_eq (pv 3) (pv 2) (nomark _)) (pw_or1 (pt_cmpR op_gt (pe_op op_sub (pv 3) (pv 2)) pe_int (nomark _))))) (pss_one (ps_ret pe_non)) pss_nil) (pss_cons (ps_if (PW.pt (pw_and (pt_cmpR op_eq (pe_ix ix_str (pv 0) (pv 2) (fun _ _ => rfl)) pe_str (nomark _)) (pw_and1 (pt_cmpR op_gt (pe_op op_sub (pv 3) (pv 1)) pe_int (nomark _))))) (pss_one (ps_ret pe_non)) pss_nil) (pss_one (ps_ret (pv 3)))))))), ?_⟩
  have numNone : numBad (l.drop a) → numEnd (l.drop a) = none := fun z => by unfold numEnd; rw [if_pos z]
  have numSome : digs (l.drop a) ≠ 0 → ¬ 300 < digs (l.drop a) → ¬ ((l.drop a)[sgn (l.drop a)]? = some 48 ∧ 1 < sgn (l.drop a) + digs (l.drop a)) → numEnd (l.drop a) = some (sgn (l.drop a) + digs (l.drop a)) := fun h1 h2 h3 => by
    unfold numEnd
    rw [if_neg]
    rintro (z | z | z)
    · exact h1 z
    · exact h2 z
    · exact h3 z
  obtain ⟨c0, hc0, hh, hdr⟩ := head_at ha
  refine ⟨_, rfl, _, rfl, _, _, c0, rfl, rfl, big _ (by rw [mk_len]; exact hlen), at_l rfl hc0, rfl, _, rfl, ite2 (fun hm => ?_) (fun hm => ?_)⟩
  · have hsg : sgn (l.drop a) = 1 := by
      have : c0 = 45 := sg_eq.mp (of_decide_eq_true hm)
      unfold sgn; rw [hh, this]; rfl
    refine ⟨_, rfl, _, _, rfl, rfl, _, rfl, ?_⟩
    refine ⟨fun m σ H' => H' = H ∧ ∃ j : Nat, σ = [some (.str (mk l)), some (.int (a : Int)), some (.int ((a : Int) + 1)), some (.int (((a : Int) + 1) + (j : Int)))] ∧ j ≤ digs (l.drop a) ∧ m = l.length - j, ⟨_, rfl, 0, by rw [show ((a : Int) + 1) + ((0 : Nat) : Int) = ((a : Int) + 1) by omega]; rfl, Nat.zero_le _, rfl⟩, ?_⟩
    rintro m σ H' ⟨rfl, j, rfl, hj, rfl⟩
    have dl := digs_le (l := l) (a := a) (by omega)
    refine ⟨_, rfl, _, rfl, _, rfl, big _ (by rw [mk_len]; exact hlen), _, _, rfl, rfl, _, rfl, ite2 (fun hin => ?_) (fun hout => ?_)⟩
    · have hin' : ((a : Int) + 1) + (j : Int) < ((mk l).length : Int) := of_decide_eq_true hin
      rw [mk_len] at hin'
      have hp : a + sgn (l.drop a) + j < l.length := by rw [hsg]; omega
      obtain ⟨c, hc, _, _⟩ := head_at hp
      have hci := dig_in hj hc
      refine ⟨_, rfl, _, rfl, _, _, c, rfl, rfl, big _ (by rw [mk_len]; exact hlen), at_l (by rw [hsg]; omega) hc, _, _, rfl, rfl, _, rfl, ite2 (fun h1 => ⟨_, _, rfl, rfl, _, rfl, ite2 (fun h2 => ?_) (fun h2 => ?_)⟩) (fun h1 => ⟨_, rfl, iteF ?_⟩)⟩
      · have hd : isDig c = true := isDig_iff.mpr ⟨sg_le.mp h1, sg_le.mp h2⟩
        refine ⟨fun σ' H' => ∃ m', m' < l.length - j ∧ _, fun _ _ h => h, ?_⟩
        refine ⟨_, rfl, _, _, rfl, rfl, l.length - (j + 1), by omega, rfl, j + 1, ?_, hci.1 hd, rfl⟩
        simp [List.set, Int.add_assoc]
      · have hd : isDig c = false := Bool.eq_false_iff.mpr fun z => h2 (sg_le.mpr (isDig_iff.mp z).2)
        obtain rfl := hci.2 hd
        refine ⟨_, rfl, _, rfl, rfl, _, rfl, ite2 (fun h0 => iteT ?_) (fun h0 => ?_)⟩
        · have h0' : V.int (((a : Int) + 1) + ((digs (l.drop a) : Nat) : Int)) = V.int ((a : Int) + 1) := of_decide_eq_true h0
          injection h0' with h0'
          exact qn (numNone (.inl (by omega)))
        have n0 : digs (l.drop a) ≠ 0 := fun z => h0 (decide_eq_true (congrArg V.int (show ((a : Int) + 1) + ((digs (l.drop a) : Nat) : Int) = ((a : Int) + 1) by omega)))
        refine ⟨_, rfl, _, rfl, _, _, rfl, rfl, _, _, rfl, rfl, _, rfl, ite2 (fun h1 => ?_) (fun h1 => ?_)⟩
        · have h1' : ((a : Int) + 1) + ((digs (l.drop a) : Nat) : Int) - ((a : Int) + 1) > 300 := of_decide_eq_true h1
          exact qn (numNone (.inr (.inl (by omega))))
        have n1 : ¬ 300 < digs (l.drop a) := fun z => h1 (decide_eq_true (by show ((a : Int) + 1) + ((digs (l.drop a) : Nat) : Int) - ((a : Int) + 1) > 300; omega))
        obtain ⟨c2, hc2, _, _⟩ := head_at (l := l) (a := a + sgn (l.drop a)) (by omega)
        have hf : (l.drop a)[sgn (l.drop a)]? = some c2 := by rw [List.getElem?_drop]; exact hc2
        refine ⟨_, rfl, _, rfl, _, _, c2, rfl, rfl, big _ (by rw [mk_len]; exact hlen), at_l (by rw [hsg]; omega) hc2, rfl, _, rfl, ite2 (fun h2 => ?_) (fun h2 => iteF ?_)⟩
        · have e48 : c2 = 48 := sg_eq.mp (of_decide_eq_true h2)
          refine ⟨_, rfl, _, rfl, _, _, rfl, rfl, _, _, rfl, rfl, _, rfl, ite2 (fun h3 => ?_) (fun h3 => ?_)⟩
          · have h3' : ((a : Int) + 1) + ((digs (l.drop a) : Nat) : Int) - (a : Int) > 1 := of_decide_eq_true h3
            exact qn (numNone (.inr (.inr ⟨by rw [hf, e48], by omega⟩)))
          · have n3 : ¬ ((a : Int) + 1) + ((digs (l.drop a) : Nat) : Int) - (a : Int) > 1 := fun z => h3 (decide_eq_true z)
            refine ⟨_, rfl, ?_⟩
            have := q _ (numSome n0 n1 (fun z => absurd z.2 (by omega)))
            rw [show ((a + (sgn (l.drop a) + digs (l.drop a)) : Nat) : Int) = ((a : Int) + 1) + ((digs (l.drop a) : Nat) : Int) by omega] at this; exact this
        · have n48 : c2 ≠ 48 := fun z => h2 (decide_eq_true (sg_eq.mpr z))
          refine ⟨_, rfl, ?_⟩
          have := q _ (numSome n0 n1 (fun z => absurd z.1 (by rw [hf]; exact fun e => n48 (Option.some.inj e))))
          rw [show ((a + (sgn (l.drop a) + digs (l.drop a)) : Nat) : Int) = ((a : Int) + 1) + ((digs (l.drop a) : Nat) : Int) by omega] at this; exact this
      · have hd : isDig c = false := Bool.eq_false_iff.mpr fun z => h1 (sg_le.mpr (isDig_iff.mp z).1)
        obtain rfl := hci.2 hd
        refine ⟨_, rfl, _, rfl, rfl, _, rfl, ite2 (fun h0 => iteT ?_) (fun h0 => ?_)⟩
        · have h0' : V.int (((a : Int) + 1) + ((digs (l.drop a) : Nat) : Int)) = V.int ((a : Int) + 1) := of_decide_eq_true h0
          injection h0' with h0'
          exact qn (numNone (.inl (by omega)))
        have n0 : digs (l.drop a) ≠ 0 := fun z => h0 (decide_eq_true (congrArg V.int (show ((a : Int) + 1) + ((digs (l.drop a) : Nat) : Int) = ((a : Int) + 1) by omega)))
        refine ⟨_, rfl, _, rfl, _, _, rfl, rfl, _, _, rfl, rfl, _, rfl, ite2 (fun h1 => ?_) (fun h1 => ?_)⟩
        · have h1' : ((a : Int) + 1) + ((digs (l.drop a) : Nat) : Int) - ((a : Int) + 1) > 300 := of_decide_eq_true h1
          exact qn (numNone (.inr (.inl (by omega))))
        have n1 : ¬ 300 < digs (l.drop a) := fun z => h1 (decide_eq_true (by show ((a : Int) + 1) + ((digs (l.drop a) : Nat) : Int) - ((a : Int) + 1) > 300; omega))
        obtain ⟨c2, hc2, _, _⟩ := head_at (l := l) (a := a + sgn (l.drop a)) (by omega)
        have hf : (l.drop a)[sgn (l.drop a)]? = some c2 := by rw [List.getElem?_drop]; exact hc2
        refine ⟨_, rfl, _, rfl, _, _, c2, rfl, rfl, big _ (by rw [mk_len]; exact hlen), at_l (by rw [hsg]; omega) hc2, rfl, _, rfl, ite2 (fun h2 => ?_) (fun h2 => iteF ?_)⟩
        · have e48 : c2 = 48 := sg_eq.mp (of_decide_eq_true h2)
          refine ⟨_, rfl, _, rfl, _, _, rfl, rfl, _, _, rfl, rfl, _, rfl, ite2 (fun h3 => ?_) (fun h3 => ?_)⟩
          · have h3' : ((a : Int) + 1) + ((digs (l.drop a) : Nat) : Int) - (a : Int) > 1 := of_decide_eq_true h3
            exact qn (numNone (.inr (.inr ⟨by rw [hf, e48], by omega⟩)))
          · have n3 : ¬ ((a : Int) + 1) + ((digs (l.drop a) : Nat) : Int) - (a : Int) > 1 := fun z => h3 (decide_eq_true z)
            refine ⟨_, rfl, ?_⟩
            have := q _ (numSome n0 n1 (fun z => absurd z.2 (by omega)))
            rw [show ((a + (sgn (l.drop a) + digs (l.drop a)) : Nat) : Int) = ((a : Int) + 1) + ((digs (l.drop a) : Nat) : Int) by omega] at this; exact this
        · have n48 : c2 ≠ 48 := fun z => h2 (decide_eq_true (sg_eq.mpr z))
          refine ⟨_, rfl, ?_⟩
          have := q _ (numSome n0 n1 (fun z => absurd z.1 (by rw [hf]; exact fun e => n48 (Option.some.inj e))))
          rw [show ((a + (sgn (l.drop a) + digs (l.drop a)) : Nat) : Int) = ((a : Int) + 1) + ((digs (l.drop a) : Nat) : Int) by omega] at this; exact this
    · have hout' : ¬ ((a : Int) + 1) + (j : Int) < ((mk l).length : Int) := fun z => hout (decide_eq_true z)
      rw [mk_len] at hout'
      obtain rfl := dig_out (a := a) (j := j) (by omega) hj (by rw [hsg]; omega)
      refine iteF ?_
      refine ⟨_, rfl, _, rfl, rfl, _, rfl, ite2 (fun h0 => iteT ?_) (fun h0 => ?_)⟩
      · have h0' : V.int (((a : Int) + 1) + ((digs (l.drop a) : Nat) : Int)) = V.int ((a : Int) + 1) := of_decide_eq_true h0
        injection h0' with h0'
        exact qn (numNone (.inl (by omega)))
      have n0 : digs (l.drop a) ≠ 0 := fun z => h0 (decide_eq_true (congrArg V.int (show ((a : Int) + 1) + ((digs (l.drop a) : Nat) : Int) = ((a : Int) + 1) by omega)))
      refine ⟨_, rfl, _, rfl, _, _, rfl, rfl, _, _, rfl, rfl, _, rfl, ite2 (fun h1 => ?_) (fun h1 => ?_)⟩
      · have h1' : ((a : Int) + 1) + ((digs (l.drop a) : Nat) : Int) - ((a : Int) + 1) > 300 := of_decide_eq_true h1
        exact qn (numNone (.inr (.inl (by omega))))
      have n1 : ¬ 300 < digs (l.drop a) := fun z => h1 (decide_eq_true (by show ((a : Int) + 1) + ((digs (l.drop a) : Nat) : Int) - ((a : Int) + 1) > 300; omega))
      obtain ⟨c2, hc2, _, _⟩ := head_at (l := l) (a := a + sgn (l.drop a)) (by omega)
      have hf : (l.drop a)[sgn (l.drop a)]? = some c2 := by rw [List.getElem?_drop]; exact hc2
      refine ⟨_, rfl, _, rfl, _, _, c2, rfl, rfl, big _ (by rw [mk_len]; exact hlen), at_l (by rw [hsg]; omega) hc2, rfl, _, rfl, ite2 (fun h2 => ?_) (fun h2 => iteF ?_)⟩
      · have e48 : c2 = 48 := sg_eq.mp (of_decide_eq_true h2)
        refine ⟨_, rfl, _, rfl, _, _, rfl, rfl, _, _, rfl, rfl, _, rfl, ite2 (fun h3 => ?_) (fun h3 => ?_)⟩
        · have h3' : ((a : Int) + 1) + ((digs (l.drop a) : Nat) : Int) - (a : Int) > 1 := of_decide_eq_true h3
          exact qn (numNone (.inr (.inr ⟨by rw [hf, e48], by omega⟩)))
        · have n3 : ¬ ((a : Int) + 1) + ((digs (l.drop a) : Nat) : Int) - (a : Int) > 1 := fun z => h3 (decide_eq_true z)
          refine ⟨_, rfl, ?_⟩
          have := q _ (numSome n0 n1 (fun z => absurd z.2 (by omega)))
          rw [show ((a + (sgn (l.drop a) + digs (l.drop a)) : Nat) : Int) = ((a : Int) + 1) + ((digs (l.drop a) : Nat) : Int) by omega] at this; exact this
      · have n48 : c2 ≠ 48 := fun z => h2 (decide_eq_true (sg_eq.mpr z))
        refine ⟨_, rfl, ?_⟩
        have := q _ (numSome n0 n1 (fun z => absurd z.1 (by rw [hf]; exact fun e => n48 (Option.some.inj e))))
        rw [show ((a + (sgn (l.drop a) + digs (l.drop a)) : Nat) : Int) = ((a : Int) + 1) + ((digs (l.drop a) : Nat) : Int) by omega] at this; exact this
  · have hsg : sgn (l.drop a) = 0 := by
      have : c0 ≠ 45 := fun z => hm (decide_eq_true (sg_eq.mpr z))
      unfold sgn; rw [hh, if_neg (fun e => this (Option.some.inj e))]
    refine ⟨_, rfl, _, rfl, ?_⟩
    refine ⟨fun m σ H' => H' = H ∧ ∃ j : Nat, σ = [some (.str (mk l)), some (.int (a : Int)), some (.int (a : Int)), some (.int ((a : Int) + (j : Int)))] ∧ j ≤ digs (l.drop a) ∧ m = l.length - j, ⟨_, rfl, 0, by rw [show (a : Int) + ((0 : Nat) : Int) = (a : Int) by omega]; rfl, Nat.zero_le _, rfl⟩, ?_⟩
    rintro m σ H' ⟨rfl, j, rfl, hj, rfl⟩
    have dl := digs_le (l := l) (a := a) (by omega)
    refine ⟨_, rfl, _, rfl, _, rfl, big _ (by rw [mk_len]; exact hlen), _, _, rfl, rfl, _, rfl, ite2 (fun hin => ?_) (fun hout => ?_)⟩
    · have hin' : (a : Int) + (j : Int) < ((mk l).length : Int) := of_decide_eq_true hin
      rw [mk_len] at hin'
      have hp : a + sgn (l.drop a) + j < l.length := by rw [hsg]; omega
      obtain ⟨c, hc, _, _⟩ := head_at hp
      have hci := dig_in hj hc
      refine ⟨_, rfl, _, rfl, _, _, c, rfl, rfl, big _ (by rw [mk_len]; exact hlen), at_l (by rw [hsg]; omega) hc, _, _, rfl, rfl, _, rfl, ite2 (fun h1 => ⟨_, _, rfl, rfl, _, rfl, ite2 (fun h2 => ?_) (fun h2 => ?_)⟩) (fun h1 => ⟨_, rfl, iteF ?_⟩)⟩
      · have hd : isDig c = true := isDig_iff.mpr ⟨sg_le.mp h1, sg_le.mp h2⟩
        refine ⟨fun σ' H' => ∃ m', m' < l.length - j ∧ _, fun _ _ h => h, ?_⟩
        refine ⟨_, rfl, _, _, rfl, rfl, l.length - (j + 1), by omega, rfl, j + 1, ?_, hci.1 hd, rfl⟩
        simp [List.set, Int.add_assoc]
      · have hd : isDig c = false := Bool.eq_false_iff.mpr fun z => h2 (sg_le.mpr (isDig_iff.mp z).2)
        obtain rfl := hci.2 hd
        refine ⟨_, rfl, _, rfl, rfl, _, rfl, ite2 (fun h0 => iteT ?_) (fun h0 => ?_)⟩
        · have h0' : V.int ((a : Int) + ((digs (l.drop a) : Nat) : Int)) = V.int (a : Int) := of_decide_eq_true h0
          injection h0' with h0'
          exact qn (numNone (.inl (by omega)))
        have n0 : digs (l.drop a) ≠ 0 := fun z => h0 (decide_eq_true (congrArg V.int (show (a : Int) + ((digs (l.drop a) : Nat) : Int) = (a : Int) by omega)))
        refine ⟨_, rfl, _, rfl, _, _, rfl, rfl, _, _, rfl, rfl, _, rfl, ite2 (fun h1 => ?_) (fun h1 => ?_)⟩
        · have h1' : (a : Int) + ((digs (l.drop a) : Nat) : Int) - (a : Int) > 300 := of_decide_eq_true h1
          exact qn (numNone (.inr (.inl (by omega))))
        have n1 : ¬ 300 < digs (l.drop a) := fun z => h1 (decide_eq_true (by show (a : Int) + ((digs (l.drop a) : Nat) : Int) - (a : Int) > 300; omega))
        obtain ⟨c2, hc2, _, _⟩ := head_at (l := l) (a := a + sgn (l.drop a)) (by omega)
        have hf : (l.drop a)[sgn (l.drop a)]? = some c2 := by rw [List.getElem?_drop]; exact hc2
        refine ⟨_, rfl, _, rfl, _, _, c2, rfl, rfl, big _ (by rw [mk_len]; exact hlen), at_l (by rw [hsg]; omega) hc2, rfl, _, rfl, ite2 (fun h2 => ?_) (fun h2 => iteF ?_)⟩
        · have e48 : c2 = 48 := sg_eq.mp (of_decide_eq_true h2)
          refine ⟨_, rfl, _, rfl, _, _, rfl, rfl, _, _, rfl, rfl, _, rfl, ite2 (fun h3 => ?_) (fun h3 => ?_)⟩
          · have h3' : (a : Int) + ((digs (l.drop a) : Nat) : Int) - (a : Int) > 1 := of_decide_eq_true h3
            exact qn (numNone (.inr (.inr ⟨by rw [hf, e48], by omega⟩)))
          · have n3 : ¬ (a : Int) + ((digs (l.drop a) : Nat) : Int) - (a : Int) > 1 := fun z => h3 (decide_eq_true z)
            refine ⟨_, rfl, ?_⟩
            have := q _ (numSome n0 n1 (fun z => absurd z.2 (by omega)))
            rw [show ((a + (sgn (l.drop a) + digs (l.drop a)) : Nat) : Int) = (a : Int) + ((digs (l.drop a) : Nat) : Int) by omega] at this; exact this
        · have n48 : c2 ≠ 48 := fun z => h2 (decide_eq_true (sg_eq.mpr z))
          refine ⟨_, rfl, ?_⟩
          have := q _ (numSome n0 n1 (fun z => absurd z.1 (by rw [hf]; exact fun e => n48 (Option.some.inj e))))
          rw [show ((a + (sgn (l.drop a) + digs (l.drop a)) : Nat) : Int) = (a : Int) + ((digs (l.drop a) : Nat) : Int) by omega] at this; exact this
      · have hd : isDig c = false := Bool.eq_false_iff.mpr fun z => h1 (sg_le.mpr (isDig_iff.mp z).1)
        obtain rfl := hci.2 hd
        refine ⟨_, rfl, _, rfl, rfl, _, rfl, ite2 (fun h0 => iteT ?_) (fun h0 => ?_)⟩
        · have h0' : V.int ((a : Int) + ((digs (l.drop a) : Nat) : Int)) = V.int (a : Int) := of_decide_eq_true h0
          injection h0' with h0'
          exact qn (numNone (.inl (by omega)))
        have n0 : digs (l.drop a) ≠ 0 := fun z => h0 (decide_eq_true (congrArg V.int (show (a : Int) + ((digs (l.drop a) : Nat) : Int) = (a : Int) by omega)))
        refine ⟨_, rfl, _, rfl, _, _, rfl, rfl, _, _, rfl, rfl, _, rfl, ite2 (fun h1 => ?_) (fun h1 => ?_)⟩
        · have h1' : (a : Int) + ((digs (l.drop a) : Nat) : Int) - (a : Int) > 300 := of_decide_eq_true h1
          exact qn (numNone (.inr (.inl (by omega))))
        have n1 : ¬ 300 < digs (l.drop a) := fun z => h1 (decide_eq_true (by show (a : Int) + ((digs (l.drop a) : Nat) : Int) - (a : Int) > 300; omega))
        obtain ⟨c2, hc2, _, _⟩ := head_at (l := l) (a := a + sgn (l.drop a)) (by omega)
        have hf : (l.drop a)[sgn (l.drop a)]? = some c2 := by rw [List.getElem?_drop]; exact hc2
        refine ⟨_, rfl, _, rfl, _, _, c2, rfl, rfl, big _ (by rw [mk_len]; exact hlen), at_l (by rw [hsg]; omega) hc2, rfl, _, rfl, ite2 (fun h2 => ?_) (fun h2 => iteF ?_)⟩
        · have e48 : c2 = 48 := sg_eq.mp (of_decide_eq_true h2)
          refine ⟨_, rfl, _, rfl, _, _, rfl, rfl, _, _, rfl, rfl, _, rfl, ite2 (fun h3 => ?_) (fun h3 => ?_)⟩
          · have h3' : (a : Int) + ((digs (l.drop a) : Nat) : Int) - (a : Int) > 1 := of_decide_eq_true h3
            exact qn (numNone (.inr (.inr ⟨by rw [hf, e48], by omega⟩)))
          · have n3 : ¬ (a : Int) + ((digs (l.drop a) : Nat) : Int) - (a : Int) > 1 := fun z => h3 (decide_eq_true z)
            refine ⟨_, rfl, ?_⟩
            have := q _ (numSome n0 n1 (fun z => absurd z.2 (by omega)))
            rw [show ((a + (sgn (l.drop a) + digs (l.drop a)) : Nat) : Int) = (a : Int) + ((digs (l.drop a) : Nat) : Int) by omega] at this; exact this
        · have n48 : c2 ≠ 48 := fun z => h2 (decide_eq_true (sg_eq.mpr z))
          refine ⟨_, rfl, ?_⟩
          have := q _ (numSome n0 n1 (fun z => absurd z.1 (by rw [hf]; exact fun e => n48 (Option.some.inj e))))
          rw [show ((a + (sgn (l.drop a) + digs (l.drop a)) : Nat) : Int) = (a : Int) + ((digs (l.drop a) : Nat) : Int) by omega] at this; exact this
    · have hout' : ¬ (a : Int) + (j : Int) < ((mk l).length : Int) := fun z => hout (decide_eq_true z)
      rw [mk_len] at hout'
      obtain rfl := dig_out (a := a) (j := j) (by omega) hj (by rw [hsg]; omega)
      refine iteF ?_
      refine ⟨_, rfl, _, rfl, rfl, _, rfl, ite2 (fun h0 => iteT ?_) (fun h0 => ?_)⟩
      · have h0' : V.int ((a : Int) + ((digs (l.drop a) : Nat) : Int)) = V.int (a : Int) := of_decide_eq_true h0
        injection h0' with h0'
        exact qn (numNone (.inl (by omega)))
      have n0 : digs (l.drop a) ≠ 0 := fun z => h0 (decide_eq_true (congrArg V.int (show (a : Int) + ((digs (l.drop a) : Nat) : Int) = (a : Int) by omega)))
      refine ⟨_, rfl, _, rfl, _, _, rfl, rfl, _, _, rfl, rfl, _, rfl, ite2 (fun h1 => ?_) (fun h1 => ?_)⟩
      · have h1' : (a : Int) + ((digs (l.drop a) : Nat) : Int) - (a : Int) > 300 := of_decide_eq_true h1
        exact qn (numNone (.inr (.inl (by omega))))
      have n1 : ¬ 300 < digs (l.drop a) := fun z => h1 (decide_eq_true (by show (a : Int) + ((digs (l.drop a) : Nat) : Int) - (a : Int) > 300; omega))
      obtain ⟨c2, hc2, _, _⟩ := head_at (l := l) (a := a + sgn (l.drop a)) (by omega)
      have hf : (l.drop a)[sgn (l.drop a)]? = some c2 := by rw [List.getElem?_drop]; exact hc2
      refine ⟨_, rfl, _, rfl, _, _, c2, rfl, rfl, big _ (by rw [mk_len]; exact hlen), at_l (by rw [hsg]; omega) hc2, rfl, _, rfl, ite2 (fun h2 => ?_) (fun h2 => iteF ?_)⟩
      · have e48 : c2 = 48 := sg_eq.mp (of_decide_eq_true h2)
        refine ⟨_, rfl, _, rfl, _, _, rfl, rfl, _, _, rfl, rfl, _, rfl, ite2 (fun h3 => ?_) (fun h3 => ?_)⟩
        · have h3' : (a : Int) + ((digs (l.drop a) : Nat) : Int) - (a : Int) > 1 := of_decide_eq_true h3
          exact qn (numNone (.inr (.inr ⟨by rw [hf, e48], by omega⟩)))
        · have n3 : ¬ (a : Int) + ((digs (l.drop a) : Nat) : Int) - (a : Int) > 1 := fun z => h3 (decide_eq_true z)
          refine ⟨_, rfl, ?_⟩
          have := q _ (numSome n0 n1 (fun z => absurd z.2 (by omega)))
          rw [show ((a + (sgn (l.drop a) + digs (l.drop a)) : Nat) : Int) = (a : Int) + ((digs (l.drop a) : Nat) : Int) by omega] at this; exact this
      · have n48 : c2 ≠ 48 := fun z => h2 (decide_eq_true (sg_eq.mpr z))
        refine ⟨_, rfl, ?_⟩
        have := q _ (numSome n0 n1 (fun z => absurd z.1 (by rw [hf]; exact fun e => n48 (Option.some.inj e))))
        rw [show ((a + (sgn (l.drop a) + digs (l.drop a)) : Nat) : Int) = (a : Int) + ((digs (l.drop a) : Nat) : Int) by omega] at this; exact this

end
end K93

/-! The end of a string; an atom. -/
namespace K93
open PySem PySem.Spec PyProof.Rows L2 TL

theorem run_step {p : Nat → Bool} {t : List Nat} {j c : Nat} (hj : j ≤ run p t) (e : t[j]? = some c) : (p c = true → j + 1 ≤ run p t) ∧ (p c = false → j = run p t) := by
  rcases Nat.lt_or_ge j (run p t) with h | h
  · obtain ⟨c', e', h'⟩ := run_in h
    rw [e] at e'; cases e'
    exact ⟨fun _ => h, fun z => by rw [h'] at z; cases z⟩
  · have ej : j = run p t := by omega
    subst ej
    have := run_out e
    exact ⟨fun z => (by rw [this] at z; cases z), fun _ => rfl⟩
theorem nq_iff {c : Nat} : nq c = true ↔ c ≠ 34 := by unfold nq; simp
theorem cut_l {l : List Nat} {i j : Nat} (hi : i ≤ j) (hj : j ≤ l.length) : cutS (mk l) (some (i : Int)) (some (j : Int)) = mk ((l.drop i).take (j - i)) := by
  unfold cutS
  rw [HT.sIx_nat, HT.sIx_nat, mk_len, Nat.min_eq_left hj, Nat.min_eq_left (Nat.le_trans hi hj)]
theorem strEnd_le {t : List Nat} {k : Nat} (h : strEnd t = some k) : k < t.length ∧ t[k]? = some 34 ∧ k = run nq t := by
  unfold strEnd at h
  split at h
  · cases h
  · rename_i hb
    injection h with h
    unfold strBad at hb
    have h1 : ¬ t.length ≤ run nq t := fun z => hb (.inl z)
    have hk : k < t.length := by omega
    refine ⟨hk, ?_, h.symm⟩
    have e := List.getElem?_eq_getElem hk
    rw [e]
    have q := run_out (p := nq) (l := t) (c := t[k]) (by rw [h]; exact e)
    unfold nq at q
    have : t[k] = 34 := by simpa using q
    rw [this]
/-- an atom at the head -/
def atomOf : List Nat → Option (Val × Nat)
  | [] => none
  | c :: cs => if c = 34 then (match strEnd cs with | none => none | some k => some (.str (mk (cs.take k)), k + 2))
    else (match numEnd (c :: cs) with | none => none | some k => some (.int (ival ((c :: cs).take k)), k))
theorem atomOf_34 (cs : List Nat) : atomOf (34 :: cs) = (match strEnd cs with | none => none | some k => some (Val.str (mk (cs.take k)), k + 2)) := by
  show (if (34 : Nat) = 34 then (match strEnd cs with | none => none | some k => some (Val.str (mk (cs.take k)), k + 2)) else (match numEnd (34 :: cs) with | none => none | some k => some (Val.int (ival ((34 :: cs).take k)), k))) = _
  rw [if_pos rfl]
theorem atomOf_ne {c : Nat} (h : c ≠ 34) (cs : List Nat) : atomOf (c :: cs) = (match numEnd (c :: cs) with | none => none | some k => some (Val.int (ival ((c :: cs).take k)), k)) := by
  show (if c = 34 then (match strEnd cs with | none => none | some k => some (Val.str (mk (cs.take k)), k + 2)) else (match numEnd (c :: cs) with | none => none | some k => some (Val.int (ival ((c :: cs).take k)), k))) = _
  rw [if_neg h]
theorem atomOf_le {l : List Nat} {x : Val} {k : Nat} (h : atomOf l = some (x, k)) : 0 < k ∧ k ≤ l.length ∧ dep x = 0 := by
  cases l with
  | nil => cases h
  | cons c cs =>
    by_cases h34 : c = 34
    · subst h34
      rw [atomOf_34] at h
      cases e : strEnd cs with
      | none => rw [e] at h; cases h
      | some k' =>
        rw [e] at h
        have := strEnd_le e
        cases h
        simp only [List.length_cons]
        exact ⟨by omega, by omega, rfl⟩
    · rw [atomOf_ne h34] at h
      cases e : numEnd (c :: cs) with
      | none => rw [e] at h; cases h
      | some k' =>
        rw [e] at h
        have := numEnd_le e
        cases h
        exact ⟨this.2.1, this.1, rfl⟩
section
variable {P : Program} {w : World} {K : PySem.W.Frag} {mg : Str → Option Value} {base : Heap} {f : Addr} {fd : FuncData}

variable {C : Addr}
abbrev sStringEnd : Stmt := top 14
theorem scStringEnd : FnScope ["text", "at", "end"] ["text", "at"] (defScope sStringEnd) := ⟨rfl, rfl, rfl, by decide +kernel, rfl, by decide +kernel, by decide +kernel⟩
theorem ok_string_end (T : Mo mg) (F : Fun K "string_end" "string_end" sStringEnd f fd) (B : Bt P K mg C) : FnOk P w K mg base (L2N.CX P w) 2 f fd ["text", "at"] (spStr C) := by
  refine F.okG (L2N.CX P w) scStringEnd (fun vs H Q E h => ?_) (fun cdv A outer s H vs Q E hr h => ?_)
  · obtain ⟨l, a, rfl, _⟩ := h
    rfl
  obtain ⟨l, a, rfl, ha, hlen, q, hbad⟩ := h
  refine ⟨_, (pss_cons (ps_set (i := 2) scStringEnd.nd rfl (Or.inl rfl) (pe_op op_add (pv 1) pe_int)) (pss_cons (ps_while (passes_of rfl) (PW.pt (pw_and (pt_cmpR op_lt (pv 2) (pe_callB call_len_str (by rfl) T.len PySem.boot_len (pa_cons (pv 0) pa_nil)) (nomark _)) (pw_and1 (pt_cmpR op_ne (pe_ix ix_str (pv 0) (pv 2) (fun _ _ => rfl)) pe_str (nomark _))))) (pss_cons (ps_if (pt_not (pt_chain op_le_str op_le_str pe_str (pe_ix ix_str (pv 0) (pv 2) (fun _ _ => rfl)) pe_str)) (pss_one (ps_bad B (hr.mono (by omega)) (L2N.takes_of rfl rfl rfl rfl) (pa_cons (pv 2) pa_nil))) pss_nil) (pss_one (ps_aug (i := 2) scStringEnd.nd rfl (Or.inl rfl) pe_int ip_add)))) (pss_cons (ps_if (pt_cmpR op_eq (pv 2) (pe_callB call_len_str (by rfl) T.len PySem.boot_len (pa_cons (pv 0) pa_nil)) (nomark _)) (pss_one (ps_bad B (hr.mono (by omega)) (L2N.takes_of rfl rfl rfl rfl) (pa_cons (pv 1) pa_nil))) pss_nil) (pss_one (ps_ret (pv 2)))))), ?_⟩
  refine ⟨_, rfl, _, _, rfl, rfl, ?_⟩
  refine ⟨fun m σ H' => H' = H ∧ ∃ j : Nat, σ = [some (.str (mk l)), some (.int (a : Int)), some (.int ((a : Int) + 1 + (j : Int)))] ∧ j ≤ run nq (l.drop (a + 1)) ∧ ((l.drop (a + 1)).take j).all okc = true ∧ m = l.length - j, ⟨_, rfl, 0, by rw [show (a : Int) + 1 + ((0 : Nat) : Int) = (a : Int) + 1 by omega]; rfl, Nat.zero_le _, by simp, rfl⟩, ?_⟩
  rintro m σ H' ⟨rfl, j, rfl, hj, hok, rfl⟩
  have rl := run_le nq (l.drop (a + 1))
  rw [List.length_drop] at rl
  have fin : ∀ (j : Nat), j = run nq (l.drop (a + 1)) → ((l.drop (a + 1)).take j).all okc = true → (a + 1 + j < l.length → strEnd (l.drop (a + 1)) = some j) ∧ (l.length ≤ a + 1 + j → strEnd (l.drop (a + 1)) = none) := by
    intro j ej hok
    constructor
    · intro h
      unfold strEnd
      rw [if_neg, ← ej]
      unfold strBad
      rw [← ej, List.length_drop]
      rintro (z | z)
      · omega
      · exact z hok
    · intro h
      unfold strEnd
      rw [if_pos]
      unfold strBad
      left
      rw [List.length_drop]; omega
  refine ⟨_, rfl, _, rfl, _, rfl, big _ (by rw [mk_len]; exact hlen), _, _, rfl, rfl, _, rfl, ite2 (fun hin => ?_) (fun hout => iteF ?_)⟩
  · have hin' : (a : Int) + 1 + (j : Int) < ((mk l).length : Int) := of_decide_eq_true hin
    rw [mk_len] at hin'
    obtain ⟨c, hc, _, _⟩ := head_at (l := l) (a := a + 1 + j) (by omega)
    have hd : (l.drop (a + 1))[j]? = some c := by rw [List.getElem?_drop]; exact hc
    have st := run_step hj hd
    refine ⟨_, rfl, _, rfl, _, _, c, rfl, rfl, big _ (by rw [mk_len]; exact hlen), at_l (by omega) hc, rfl, _, rfl, ?_⟩
    by_cases h34 : c = 34
    · have e1 : decide (V.str (mk [c]) = V.str (Str.ofString "\"")) = true := decide_eq_true (sg_eq.mpr h34)
      have ej := st.2 (by rw [h34]; rfl)
      have hf := (fin j ej hok).1 (by omega)
      rw [show (!decide (V.str (⟨#[c]⟩ : Str) = V.str (Str.ofString "\""))) = false by rw [show decide (V.str (⟨#[c]⟩ : Str) = V.str (Str.ofString "\"")) = true from e1]; rfl]
      refine iteF ⟨_, rfl, _, rfl, _, rfl, big _ (by rw [mk_len]; exact hlen), rfl, _, rfl, ite2 (fun h => ?_) (fun h => ?_)⟩
      · have h' := of_decide_eq_true h
        injection h' with h'
        rw [mk_len] at h'
        omega
      · refine ⟨_, rfl, ?_⟩
        have := q _ hf
        rw [show ((a + 1 + j : Nat) : Int) = (a : Int) + 1 + (j : Int) by omega] at this
        exact this
    · have e1 : decide (V.str (⟨#[c]⟩ : Str) = V.str (Str.ofString "\"")) = false := decide_eq_false fun z => h34 (sg_eq.mp z)
      rw [e1]
      have sj := st.1 (nq_iff.mpr h34)
      have bad : okc c = false → strEnd (l.drop (a + 1)) = none := fun z => by
        unfold strEnd
        rw [if_pos]
        unfold strBad
        right
        intro w
        have hm : c ∈ (l.drop (a + 1)).take (run nq (l.drop (a + 1))) := List.mem_of_getElem? (i := j) (by rw [List.getElem?_take_of_lt (by omega)]; exact hd)
        have := List.all_eq_true.mp w c hm
        rw [z] at this; cases this
      refine iteT ⟨fun σ' H' => ∃ m', m' < l.length - j ∧ _, fun _ _ h => h, ?_⟩
      refine ⟨_, rfl, _, rfl, _, _, c, rfl, rfl, big _ (by rw [mk_len]; exact hlen), at_l (by omega) hc, _, _, rfl, rfl, _, rfl, ite2 (fun h1 => ⟨_, _, rfl, rfl, _, rfl, ?_⟩) (fun h1 => ⟨_, rfl, iteT ?_⟩)⟩
      · by_cases h2 : c ≤ 126
        · have e2 : (!decide ((Str.ofString "~").cps.toList < (⟨#[c]⟩ : Str).cps.toList)) = true := sg_le.mpr h2
          rw [e2]
          refine iteF ⟨_, rfl, _, _, rfl, rfl, l.length - (j + 1), by omega, rfl, j + 1, ?_, sj, ?_, rfl⟩
          · simp [List.set, Int.add_assoc]
          · rw [List.take_add_one, hd]
            simp only [Option.toList, List.all_append, hok, List.all_cons, List.all_nil, Bool.and_true, Bool.true_and]
            exact okc_iff.mpr ⟨sg_le.mp h1, h2⟩
        · have e2 : (!decide ((Str.ofString "~").cps.toList < (⟨#[c]⟩ : Str).cps.toList)) = false := Bool.eq_false_iff.mpr fun z => h2 (sg_le.mp z)
          rw [e2]
          refine iteT ⟨_, rfl, _, rfl, fun dx hdx => hbad (bad (Bool.eq_false_iff.mpr fun z => h2 (okc_iff.mp z).2)) H' dx _ (.refl _) hdx (by omega) (by omega)⟩
      · refine ⟨_, rfl, _, rfl, fun dx hdx => hbad (bad (Bool.eq_false_iff.mpr fun z => h1 (sg_le.mpr (okc_iff.mp z).1))) H' dx _ (.refl _) hdx (by omega) (by omega)⟩
  · have hout' : ¬ (a : Int) + 1 + (j : Int) < ((mk l).length : Int) := fun z => hout (decide_eq_true z)
    rw [mk_len] at hout'
    have ej : j = run nq (l.drop (a + 1)) := by omega
    have hf := (fin j ej hok).2 (by omega)
    refine ⟨_, rfl, _, rfl, _, rfl, big _ (by rw [mk_len]; exact hlen), rfl, _, rfl, ite2 (fun h => ?_) (fun h => ?_)⟩
    · exact ⟨_, rfl, _, rfl, fun dx hdx => hbad hf H' dx _ (.refl _) hdx (by omega) (by omega)⟩
    · exact absurd (decide_eq_true (congrArg V.int (show (a : Int) + 1 + (j : Int) = ((mk l).length : Int) by rw [mk_len]; omega))) h


/-! ### an atom -/
def spAtom (C : Addr) : Sp := fun vs H Q E => ∃ (l : List Nat) (a : Nat), vs = [.str (mk l), .int (a : Int)] ∧ a < l.length ∧ l.length ≤ 1000000 ∧
  (∀ x k, atomOf (l.drop a) = some (x, k) → ∀ p v, H p = none → (∀ H', At H' v x) → Q (.ref p) (upd H p (.tup [v, .int ((a + k : Nat) : Int)]))) ∧ (atomOf (l.drop a) = none → Bad C l.length H E)
abbrev sAtomAt : Stmt := top 15
theorem scAtomAt : FnScope ["text", "at", "end"] ["text", "at"] (defScope sAtomAt) := ⟨rfl, rfl, rfl, by decide +kernel, rfl, by decide +kernel, by decide +kernel⟩
theorem ok_atom_at (T : Mo mg) (F : Fun K "atom_at" "atom_at" sAtomAt f fd) (B : Bt P K mg C) (d_string_end : Df P w K mg base (L2N.CX P w) 2 "string_end" ["text", "at"] (spStr C)) (d_number_end : Df P w K mg base (L2N.CX P w) 2 "number_end" ["text", "at"] (spNum C)) : FnOk P w K mg base (L2N.CX P w) 3 f fd ["text", "at"] (spAtom C) := by
  refine F.okG (L2N.CX P w) scAtomAt (fun vs H Q E h => ?_) (fun cdv A outer s H vs Q E hr h => ?_)
  · obtain ⟨l, a, rfl, _⟩ := h
    rfl
  obtain ⟨l, a, rfl, ha, hlen, q, hbad⟩ := h
  refine ⟨_, (pss_cons (ps_if (pt_cmpR op_eq (pe_ix ix_str (pv 0) (pv 1) (fun _ _ => rfl)) pe_str (nomark _)) (pss_cons (ps_set (i := 2) scAtomAt.nd rfl (Or.inl rfl) (pe_dS d_string_end (hr.mono (by omega)) (fun σ => L2N.passAt (L2N.takes_of rfl rfl rfl rfl) σ) (pa_cons (pv 0) (pa_cons (pv 1) pa_nil)))) (pss_one (ps_ret (pe_tup (pa_cons (pe_slice sl_str (pv 0) (po_some (pe_op op_add (pv 1) pe_int)) (po_some (pv 2))) (pa_cons (pe_op op_add (pv 2) pe_int) pa_nil)))))) pss_nil) (pss_cons (ps_set (i := 2) scAtomAt.nd rfl (Or.inl rfl) (pe_dS d_number_end (hr.mono (by omega)) (fun σ => L2N.passAt (L2N.takes_of rfl rfl rfl rfl) σ) (pa_cons (pv 0) (pa_cons (pv 1) pa_nil)))) (pss_one (ps_ret (pe_tup (pa_cons (pe_callTy call_int_str (by rfl) T.int (by decide +kernel) (pa_cons (pe_slice sl_str (pv 0) (po_some (pv 1)) (po_some (pv 2))) pa_nil)) (pa_cons (pv 2) pa_nil))))))), ?_⟩
  obtain ⟨c, hc, hh, hdr⟩ := head_at ha
  rw [hdr] at q hbad
  refine ⟨_, rfl, _, rfl, _, _, c, rfl, rfl, big _ (by rw [mk_len]; exact hlen), at_l rfl hc, rfl, _, rfl, ite2 (fun h => ?_) (fun h => ?_)⟩
  · have h34 : c = 34 := sg_eq.mp (of_decide_eq_true h)
    subst h34
    refine ⟨_, rfl, _, rfl, l, a, rfl, ha, hlen, fun k hk => ?_, fun hk => ?_⟩
    · have hl := strEnd_le hk
      rw [List.length_drop] at hl
      refine ⟨_, rfl, _, rfl, _, _, rfl, rfl, _, rfl, _, rfl, _, rfl, mk l, rfl, big _ (by rw [mk_len]; exact hlen), _, rfl, _, _, rfl, rfl, big 2 (by decide), fun p hp => ?_⟩
      have e := cut_l (l := l) (i := a + 1) (j := a + 1 + k) (by omega) (by omega)
      have e2 : a + 1 + k - (a + 1) = k := by omega
      rw [e2] at e
      have q' := q (.str (mk ((l.drop (a + 1)).take k))) (k + 2) (by rw [atomOf_34, hk]) p (.str (mk ((l.drop (a + 1)).take k))) hp fun H' => .str _
      rw [← e, show ((a + (k + 2) : Nat) : Int) = ((a + 1 + k : Nat) : Int) + 1 by omega] at q'
      exact q'
    · exact hbad (by rw [atomOf_34, hk])
  · have h34 : c ≠ 34 := fun z => h (decide_eq_true (sg_eq.mpr z))
    refine ⟨_, rfl, _, rfl, l, a, rfl, ha, hlen, fun k hk => ?_, fun hk => ?_⟩
    · have hl := numEnd_le hk
      rw [List.length_drop] at hl
      have e := cut_l (l := l) (i := a) (j := a + k) (by omega) (by omega)
      have e2 : a + k - a = k := by omega
      rw [e2] at e
      have ei := ival_some hk
      rw [← e] at ei
      refine ⟨_, rfl, _, rfl, _, rfl, _, rfl, _, rfl, mk l, rfl, big _ (by rw [mk_len]; exact hlen), _, _, rfl, ei, ?_, _, rfl, big 2 (by decide), fun p hp => ?_⟩
      · rw [e, mk_len, List.length_take]; omega
      rw [hdr] at hk
      have q' := q _ k (by rw [atomOf_ne h34, hk]) p _ hp fun H' => .int _
      rw [← hdr] at q'
      exact q'
    · rw [hdr] at hk
      exact hbad (by rw [atomOf_ne h34, hk])

end
end K93

/-! The reader. -/
namespace K93
open PySem PySem.Spec PyProof.Rows L2 TL

/-! ### the machine's turns -/
theorem runs_cons {rows : List (List Val)} {w : Want} {c : Nat} {cs : List Nat} {r : Option Val} (h : Runs rows w (c :: cs) r) : (step rows w c cs = none ∧ r = none) ∨ ∃ rows' w' rest, step rows w c cs = some (rows', w', rest) ∧ Runs rows' w' rest r := by
  cases h with
  | fail e => exact .inl ⟨e, rfl⟩
  | next e h => exact .inr ⟨_, _, _, e, h⟩
theorem runs_nil {rows : List (List Val)} {w : Want} {r : Option Val} (h : Runs rows w [] r) : r = final rows w := by
  cases h; rfl
theorem runs_none {rows : List (List Val)} {w : Want} {c : Nat} {cs : List Nat} {r : Option Val} (h : Runs rows w (c :: cs) r) (e : step rows w c cs = none) : r = none := by
  rcases runs_cons h with ⟨_, h⟩ | ⟨_, _, _, e', _⟩
  · exact h
  · rw [e] at e'; cases e'
theorem runs_some {rows rows' : List (List Val)} {w w' : Want} {c : Nat} {cs rest : List Nat} {r : Option Val} (h : Runs rows w (c :: cs) r) (e : step rows w c cs = some (rows', w', rest)) : Runs rows' w' rest r := by
  rcases runs_cons h with ⟨e', _⟩ | ⟨_, _, _, e', h⟩
  · rw [e] at e'; cases e'
  · rw [e] at e'; cases e'; exact h
section
variable {rows : List (List Val)} {w : Want} {c : Nat} {cs : List Nat}
theorem step_40 (hw : w ≠ .more) : step rows w 40 cs = if 60 < rows.length then none else some ([] :: rows, .any, cs) := by
  unfold step
  rw [if_neg (fun z => hw z.1), if_neg (by decide), if_neg hw, if_pos rfl]
theorem step_41val (h : w = .val) : step rows w 41 cs = none := by
  subst h
  unfold step
  rw [if_neg (fun z => nomatch z.1), if_pos rfl, if_pos rfl]
theorem step_41 {q o : List Val} {up : List (List Val)} (h : w ≠ .val) : step (q :: o :: up) w 41 cs = some ((o ++ [.tup q]) :: up, .more, cs) := by
  unfold step
  rw [if_neg, if_pos rfl, if_neg h]
  rintro ⟨_, z | z⟩
  · simp at z
  · exact z (.inr rfl)
theorem step_at (hw : w ≠ .more) (h1 : c ≠ 41) (h0 : c ≠ 40) : step rows w c cs = (match atomOf (c :: cs) with | none => none | some (x, k) => some (push rows x, .more, (c :: cs).drop k)) := by
  unfold step
  rw [if_neg (fun z => hw z.1), if_neg h1, if_neg hw, if_neg h0]
  by_cases h34 : c = 34
  · subst h34
    rw [if_pos rfl, atomOf_34]
    cases strEnd cs <;> rfl
  · rw [if_neg h34, atomOf_ne h34]
    cases numEnd (c :: cs) <;> rfl
theorem step_32 (h : rows.length ≠ 1) : step rows .more 32 cs = some (rows, .val, cs) := by
  unfold step
  rw [if_neg, if_neg (by decide), if_pos rfl]
  rintro ⟨_, z | z⟩
  · exact h z
  · exact z (.inl rfl)
theorem step_more (h : rows.length = 1 ∨ ¬ (c = 32 ∨ c = 41)) : step rows .more c cs = none := by
  unfold step
  rw [if_pos ⟨rfl, h⟩]
theorem atom_32 : atomOf (32 :: cs) = none := by
  have hb : numBad (32 :: cs) := .inl rfl
  rw [atomOf_ne (by decide)]
  unfold numEnd
  rw [if_pos hb]
theorem step_val32 : step rows .val 32 cs = none := by
  rw [step_at (by decide) (by decide) (by decide), atom_32]
end

/-! ### the rows in memory: the outermost first in the list at R, as and rows innermost first -/
structure Rw (H0 H : Hp) (R : Addr) (as : List Addr) (rows : List (List Val)) : Prop where
  s : Same H0 H
  r0 : H0 R = none
  r : H R = some (.lst ((as.map V.ref).reverse))
  n0 : ∀ a ∈ as, H0 a = none
  nr : R ∉ as
  nd : as.Nodup
  len : as.length = rows.length
  row : ∀ (i : Nat) (a : Addr) (q : List Val), as[i]? = some a → rows[i]? = some q → ∃ xs, H a = some (.lst xs) ∧ Ats H xs q
theorem tk_lst {H : Hp} {a : Addr} {xs : List V} (h : H a = some (.lst xs)) (o : HO) : Tk H (upd H a o) := fun b ys e => by
  rw [upd_ne (ne_of e h (by intro z; cases z))]; exact e
section
variable {H0 H : Hp} {R : Addr} {as : List Addr} {rows : List (List Val)}
theorem Rw.tup (h : Rw H0 H R as rows) {p : Addr} (hp : H p = none) (o : HO) : Rw H0 (upd H p o) R as rows := by
  refine ⟨h.s.trans (same_new hp o), h.r0, same_new hp o _ _ h.r, h.n0, h.nr, h.nd, h.len, fun i a q e1 e2 => ?_⟩
  obtain ⟨xs, e, ha⟩ := h.row i a q e1 e2
  exact ⟨xs, same_new hp o _ _ e, ha.mono (tk_new hp o)⟩
theorem Rw.ne {a : Addr} (h : Rw H0 H R as rows) (ha : a ∈ as) : a ≠ R := fun z => h.nr (z ▸ ha)
theorem Rw.init {b R : Addr} (hb : H b = none) (hR : upd H b (.lst []) R = none) : Rw H (upd (upd H b (.lst [])) R (.lst [.ref b])) R [b] [[]] := by
  have nb : R ≠ b := fun z => by rw [z, upd_same] at hR; cases hR
  have r0 : H R = none := by rw [upd_ne nb] at hR; exact hR
  refine ⟨Same.put (same_new hb _) r0 _, r0, upd_same, fun a ha => by rw [List.mem_singleton.mp ha]; exact hb, fun z => nb (List.mem_singleton.mp z), by simp, rfl, fun i a q e1 e2 => ?_⟩
  cases i with
  | zero =>
    have ea : b = a := by simpa using e1
    have eq : [] = q := by simpa using e2
    subst ea eq
    exact ⟨[], by rw [upd_ne nb.symm, upd_same], .nil⟩
  | succ i => simp at e1
theorem Rw.push (h : Rw H0 H R as rows) {b : Addr} (hb : H b = none) : Rw H0 (upd (upd H b (.lst [])) R (.lst ((as.map V.ref).reverse ++ [.ref b]))) R (b :: as) ([] :: rows) := by
  have h1 := h.tup hb (.lst [])
  have nb : b ≠ R := fun z => by rw [z, h.r] at hb; cases hb
  have nin : b ∉ as := fun z => by
    obtain ⟨i, hi⟩ := List.getElem?_of_mem z
    have hl : i < rows.length := by rw [← h.len]; exact (List.getElem?_eq_some_iff.mp hi).1
    obtain ⟨xs, e, _⟩ := h.row i b _ hi (List.getElem?_eq_getElem hl)
    rw [hb] at e; cases e
  refine ⟨Same.put h1.s h.r0 _, h.r0, by rw [upd_same]; simp, fun a ha => ?_, fun z => ?_, List.nodup_cons.mpr ⟨nin, h.nd⟩, by simp [h.len], fun i a q e1 e2 => ?_⟩
  · rcases List.mem_cons.mp ha with e | ha
    · rw [e]; exact h.s.free hb
    · exact h.n0 a ha
  · rcases List.mem_cons.mp z with e | z
    · exact nb e.symm
    · exact h.nr z
  · cases i with
    | zero =>
      have ea : b = a := by simpa using e1
      have eq : [] = q := by simpa using e2
      subst ea eq
      exact ⟨[], by rw [upd_ne nb, upd_same], .nil⟩
    | succ i =>
      have e1' : as[i]? = some a := by simpa using e1
      obtain ⟨xs, e, ha⟩ := h1.row i a q e1' (by simpa using e2)
      exact ⟨xs, by rw [upd_ne (h.ne (List.mem_of_getElem? e1'))]; exact e, ha.mono (tk_lst h1.r _)⟩
theorem Rw.pop {a : Addr} {q : List Val} (h : Rw H0 H R (a :: as) (q :: rows)) : Rw H0 (upd H R (.lst ((a :: as).map V.ref).reverse.dropLast)) R as rows ∧ a ≠ R ∧ H0 a = none ∧ ∃ xs, upd H R (.lst ((a :: as).map V.ref).reverse.dropLast) a = some (.lst xs) ∧ Ats (upd H R (.lst ((a :: as).map V.ref).reverse.dropLast)) xs q := by
  have na : a ≠ R := h.ne (List.mem_cons_self ..)
  obtain ⟨xs, e, hx⟩ := h.row 0 a q rfl rfl
  refine ⟨⟨Same.put h.s h.r0 _, h.r0, by rw [upd_same]; simp, fun b hb => h.n0 b (List.mem_cons_of_mem _ hb), fun z => h.nr (List.mem_cons_of_mem _ z), (List.nodup_cons.mp h.nd).2, by simpa using h.len, fun i b p e1 e2 => ?_⟩, na, h.n0 a (List.mem_cons_self ..), xs, by rw [upd_ne na]; exact e, hx.mono (tk_lst h.r _)⟩
  obtain ⟨ys, ey, hy⟩ := h.row (i + 1) b p (by simpa using e1) (by simpa using e2)
  exact ⟨ys, by rw [upd_ne (h.ne (List.mem_cons_of_mem _ (List.mem_of_getElem? e1)))]; exact ey, hy.mono (tk_lst h.r _)⟩
theorem Rw.app {a : Addr} {q : List Val} (h : Rw H0 H R (a :: as) (q :: rows)) {xs : List V} (e : H a = some (.lst xs)) {v : V} {x : Val} (hv : At H v x) : Ats H xs q ∧ Rw H0 (upd H a (.lst (xs ++ [v]))) R (a :: as) ((q ++ [x]) :: rows) := by
  have na : a ≠ R := h.ne (List.mem_cons_self ..)
  obtain ⟨xs', e', hx⟩ := h.row 0 a q rfl rfl
  rw [e] at e'; cases e'
  refine ⟨hx, Same.put h.s (h.n0 a (List.mem_cons_self ..)) _, h.r0, by rw [upd_ne na.symm]; exact h.r, h.n0, h.nr, h.nd, by simpa using h.len, fun i b p e1 e2 => ?_⟩
  cases i with
  | zero =>
    have ea : a = b := by simpa using e1
    have eq : q ++ [x] = p := by simpa using e2
    subst ea eq
    exact ⟨_, upd_same, (hx.snoc hv).mono (tk_lst e _)⟩
  | succ i =>
    have e1' : as[i]? = some b := by simpa using e1
    obtain ⟨ys, ey, hy⟩ := h.row (i + 1) b p e1 (by simpa using e2)
    have nba : b ≠ a := fun z => (List.nodup_cons.mp h.nd).1 (z ▸ List.mem_of_getElem? e1')
    exact ⟨ys, by rw [upd_ne nba]; exact ey, hy.mono (tk_lst e _)⟩
theorem Rw.top {a : Addr} {q : List Val} (h : Rw H0 H R (a :: as) (q :: rows)) : ∃ xs, H a = some (.lst xs) ∧ Ats H xs q := h.row 0 a q rfl rfl
theorem Rw.cons {q : List Val} (h : Rw H0 H R as (q :: rows)) : ∃ a as', as = a :: as' := by
  cases as with
  | nil => have := h.len; simp at this
  | cons a as' => exact ⟨a, as', rfl⟩
theorem rev_len {as : List Addr} : ((as.map V.ref).reverse).length = as.length := by simp
theorem rev_last {a : Addr} {as : List Addr} : atI (((a :: as).map V.ref).reverse) (-1) = some (.ref a) := by
  rw [List.map_cons, List.reverse_cons]; exact atI_last _ _
theorem rev_top {a : Addr} {as : List Addr} : (((a :: as).map V.ref).reverse)[(((a :: as).map V.ref).reverse).length - 1]? = some (.ref a) := by
  rw [List.map_cons, List.reverse_cons]; simp
end
/-- what stands behind a statement, once: the reading chooses Aft -/
def tCutA (t u : TS) : TS := fun D σ H => ∃ Aft : L2.St → Hp → Prop, (∀ σ H, Aft σ H → u D σ H) ∧ ∀ nx : L2.St → Hp → Prop, (∀ σ H, Aft σ H → nx σ H) → t { D with nx := nx } σ H
theorem pss_cutA {X : Cx} {s : Stmt} {r : List Stmt} {t u : TS} (h1 : PS X s t) (h2 : PSs X r u) : PSs X (s :: r) (tCutA t u) :=
  ⟨fun pins s σ H D I ⟨_, ha, h⟩ => (pss_cons h1 h2).run pins s σ H D I (h _ ha)⟩
section
variable {P : Program} {w : World} {K : PySem.W.Frag} {mg : Str → Option Value} {base : Heap} {f : Addr} {fd : FuncData}

variable {C : Addr}
def spRead (C : Addr) : Sp := fun vs H Q E => ∃ (l : List Nat) (r : Option Val), vs = [.str (mk l)] ∧ l.length ≤ 1000000 ∧ Runs [[]] .val l r ∧ (∀ x, r = some x → ∀ v H', Same H H' → At H' v x → Q v H') ∧ (r = none → Bad C l.length H E)
abbrev sReadValue : Stmt := top 16
theorem scReadValue : FnScope ["text", "rows", "at", "row", "value"] ["text"] (defScope sReadValue) := ⟨rfl, rfl, rfl, by decide +kernel, rfl, by decide +kernel, by decide +kernel⟩
theorem ok_read_value (T : Mo mg) (F : Fun K "read_value" "read_value" sReadValue f fd) (B : Bt P K mg C) (d_atom_at : Df P w K mg base (L2N.CX P w) 3 "atom_at" ["text", "at"] (spAtom C)) : FnOk P w K mg base (L2N.CX P w) 4 f fd ["text"] (spRead C) := by
  refine F.okG (L2N.CX P w) scReadValue (fun vs H Q E h => ?_) (fun cdv A outer s H vs Q E hr h => ?_)
  · obtain ⟨l, r, rfl, _⟩ := h
    rfl
  obtain ⟨l, r, rfl, hlen, hrun, q, hbad⟩ := h
  obtain ⟨t60, hDEPTH_LIMIT⟩ := T.DEPTH_LIMIT
  refine ⟨_, (pss_cons (ps_set (i := 1) scReadValue.nd rfl (Or.inl rfl) (pe_lst (pa_cons (pe_lst pa_nil) pa_nil))) (pss_cons (ps_set (i := 2) scReadValue.nd rfl (Or.inl rfl) pe_int) (pss_cutA (ps_while (passes_of rfl) (pt_cmpR op_lt (pv 2) (pe_callB call_len_str (by rfl) T.len PySem.boot_len (pa_cons (pv 0) pa_nil)) (nomark _)) (pss_cons (ps_if (pt_cmpR op_eq (pe_ix ix_str (pv 0) (pv 2) (fun _ _ => rfl)) pe_str (nomark _)) (pss_cons (ps_if (pt_cmpR op_gt (pe_callB call_len_seq (by rfl) T.len PySem.boot_len (pa_cons (pv 1) pa_nil)) (pe_glob (v := .int 60) rfl hDEPTH_LIMIT ⟨_, rfl⟩) (nomark _)) (pss_one (ps_bad B (hr.mono (by omega)) (L2N.takes_of rfl rfl rfl rfl) (pa_cons (pv 2) pa_nil))) pss_nil) (pss_cons (ps_expr (pe_bm PySem.F.plainAttrs_list PySem.F.slot_list_append PySem.F.type_list_append mt_append (pv 1) (pa_cons (pe_lst pa_nil) pa_nil))) (pss_cons (ps_aug (i := 2) scReadValue.nd rfl (Or.inl rfl) pe_int ip_add) (pss_one ps_continue)))) pss_nil) (pss_cutA (ps_if (pt_cmpR op_eq (pe_ix ix_str (pv 0) (pv 2) (fun _ _ => rfl)) pe_str (nomark _)) (pss_cons (ps_if (pt_cmpR op_eq (pe_callB call_len_seq (by rfl) T.len PySem.boot_len (pa_cons (pv 1) pa_nil)) pe_int (nomark _)) (pss_one (ps_bad B (hr.mono (by omega)) (L2N.takes_of rfl rfl rfl rfl) (pa_cons (pv 2) pa_nil))) pss_nil) (pss_cons (ps_set (i := 3) scReadValue.nd rfl (Or.inl rfl) (pe_bm0 PySem.F.plainAttrs_list PySem.F.slot_list_pop PySem.F.type_list_pop mt_pop (pv 1))) (pss_cons (ps_expr (pe_bm PySem.F.plainAttrs_list PySem.F.slot_list_append PySem.F.type_list_append mt_append (pe_ix ix_list (pv 1) (pe_un un_neg pe_int) (fun _ _ => rfl)) (pa_cons (pe_callTy call_tuple_of (by rfl) T.tuple (by decide +kernel) (pa_cons (pv 3) pa_nil)) pa_nil))) (pss_one (ps_aug (i := 2) scReadValue.nd rfl (Or.inl rfl) pe_int ip_add))))) (pss_cons (ps_asg (pe_dS d_atom_at (hr.mono (by omega)) (fun σ => L2N.passAt (L2N.takes_of rfl rfl rfl rfl) σ) (pa_cons (pv 0) (pa_cons (pv 2) pa_nil))) (pg_tup (by rfl) (pgs_cons (pg_name (i := 4) scReadValue.nd rfl (Or.inl rfl)) (pgs_cons (pg_name (i := 2) scReadValue.nd rfl (Or.inl rfl)) pgs_nil)))) (pss_one (ps_expr (pe_bm PySem.F.plainAttrs_list PySem.F.slot_list_append PySem.F.type_list_append mt_append (pe_ix ix_list (pv 1) (pe_un un_neg pe_int) (fun _ _ => rfl)) (pa_cons (pv 4) pa_nil)))))) (pss_cons (ps_if (pt_cmpR op_eq (pe_callB call_len_seq (by rfl) T.len PySem.boot_len (pa_cons (pv 1) pa_nil)) pe_int (nomark _)) (pss_one ps_break) pss_nil) (pss_one (ps_if (PW.pt (pw_and (pt_cmpR op_lt (pv 2) (pe_callB call_len_str (by rfl) T.len PySem.boot_len (pa_cons (pv 0) pa_nil)) (nomark _)) (pw_and (pt_cmpR op_eq (pe_ix ix_str (pv 0) (pv 2) (fun _ _ => rfl)) pe_str (nomark _)) (pw_and (pt_cmpR op_lt (pe_op op_add (pv 2) pe_int) (pe_callB call_len_str (by rfl) T.len PySem.boot_len (pa_cons (pv 0) pa_nil)) (nomark _)) (pw_and1 (pt_cmpR op_notIn_sign (pe_ix ix_str (pv 0) (pe_op op_add (pv 2) pe_int) (fun _ _ => rfl)) pe_str rfl)))))) (pss_one (ps_aug (i := 2) scReadValue.nd rfl (Or.inl rfl) pe_int ip_add)) (pss_one (ps_if (PW.pt (pw_and (pt_cmpR op_lt (pv 2) (pe_callB call_len_str (by rfl) T.len PySem.boot_len (pa_cons (pv 0) pa_nil)) (nomark _)) (pw_and1 (pt_cmpR op_ne (pe_ix ix_str (pv 0) (pv 2) (fun _ _ => rfl)) pe_str (nomark _))))) (pss_one (ps_bad B (hr.mono (by omega)) (L2N.takes_of rfl rfl rfl rfl) (pa_cons (pv 2) pa_nil))) pss_nil)))))))) (pss_cons (ps_if (PW.pt (pw_or (pt_cmpR op_ne (pe_callB call_len_seq (by rfl) T.len PySem.boot_len (pa_cons (pv 1) pa_nil)) pe_int (nomark _)) (pw_or (pt_cmpR op_ne (pe_callB call_len_seq (by rfl) T.len PySem.boot_len (pa_cons (pe_ix ix_list (pv 1) pe_int (fun _ _ => rfl)) pa_nil)) pe_int (nomark _)) (pw_or1 (pt_cmpR op_ne (pv 2) (pe_callB call_len_str (by rfl) T.len PySem.boot_len (pa_cons (pv 0) pa_nil)) (nomark _)))))) (pss_one (ps_bad B (hr.mono (by omega)) (L2N.takes_of rfl rfl rfl rfl) (pa_cons (pv 2) pa_nil))) pss_nil) (pss_one (ps_ret (pe_ix ix_list (pe_ix ix_list (pv 1) pe_int (fun _ _ => rfl)) pe_int (fun _ _ => rfl)))))))), ?_⟩
  have LS : ∀ {n : Nat}, n ≤ 1000000 → n ≤ sizeLine := fun h => big _ h
  refine ⟨big 0 (by decide), fun b hb => ⟨big 1 (by decide), fun R hR => ?_⟩⟩
  have rw0 := Rw.init hb hR
  -- what stands behind the loop
  refine ⟨fun σ H' => ∃ (a : Nat) (as : List Addr) (rows : List (List Val)) (w : Want) (v3 v4 : Option V), σ = [some (.str (mk l)), some (.ref R), some (.int (a : Int)), v3, v4] ∧ a ≤ l.length ∧ Rw H H' R as rows ∧ Wf rows w ∧ Runs rows w (l.drop a) r ∧ (∀ q ∈ rows, q.length ≤ a) ∧ (l.drop a = [] ∨ (w = .more ∧ rows.length = 1)) ∧ (w = .more → rows.length = 1 → True), ?_, ?_⟩
  · rintro σ H' ⟨a, as, rows, w, v3, v4, rfl, ha, hw, wf, hr', hq, hend, _⟩
    have hz : as.length = rows.length := hw.len
    refine ⟨_, rfl, R, _, rfl, .inl (SqL.of hw.r), rfl, _, rfl, ?_⟩
    by_cases h1 : rows.length = 1
    · have e1 : decide (V.int ((((as.map V.ref).reverse).length : Nat) : Int) = V.int 1) = true := decide_eq_true (by rw [rev_len, hz, h1]; rfl)
      rw [e1]
      obtain ⟨bq, rfl⟩ : ∃ bq, rows = [bq] := by
        cases rows with
        | nil => simp at h1
        | cons bq up => cases up with
          | nil => exact ⟨bq, rfl⟩
          | cons o up => simp at h1
      obtain ⟨b0, as', rfl⟩ := hw.cons
      have has' : as' = [] := by cases as' with
        | nil => rfl
        | cons x y => simp at hz
      subst has'
      obtain ⟨xs, exs, hxs⟩ := hw.top
      refine iteF ⟨_, rfl, R, _, _, _, rfl, rfl, SqL.of hw.r, rfl, b0, _, rfl, .inl (SqL.of exs), rfl, _, rfl, ?_⟩
      have one := wf.one bq rfl
      by_cases hm : w = .more
      · rw [if_pos hm] at one
        obtain ⟨x, rfl⟩ := one
        have e2 : decide (V.int ((xs.length : Nat) : Int) = V.int 1) = true := decide_eq_true (by rw [hxs.1]; rfl)
        rw [e2]
        refine iteF ⟨_, rfl, _, rfl, _, rfl, LS (by rw [mk_len]; exact hlen), rfl, _, rfl, ?_⟩
        by_cases he : a = l.length
        · have e3 : decide (V.int (a : Int) = V.int (((mk l).length : Nat) : Int)) = true := decide_eq_true (by rw [mk_len, he])
          rw [e3]
          have hd : l.drop a = [] := by rw [he]; exact List.drop_length
          rw [hd] at hr'
          have hr2 := runs_nil hr'
          rw [hm] at hr2
          obtain ⟨v, y, ev, ey, hv⟩ := hxs.get (i := 0) (by simp)
          have ey' : x = y := by simpa using ey
          subst ey'
          exact iteF ⟨_, rfl, R, _, _, _, rfl, rfl, SqL.of hw.r, rfl, b0, _, _, v, rfl, rfl, SqL.of exs, at_of rfl ev, q x hr2 v H' hw.s hv⟩
        · have e3 : decide (V.int (a : Int) = V.int (((mk l).length : Nat) : Int)) = false := decide_eq_false fun z => by
            injection z with z
            rw [mk_len] at z
            omega
          rw [e3]
          obtain ⟨c, hc, hh, hdr⟩ := head_at (l := l) (a := a) (by omega)
          rw [hdr, hm] at hr'
          have rn := runs_none hr' (step_more (.inl rfl))
          exact iteT ⟨_, rfl, _, rfl, fun dx hdx => hbad rn H' dx _ hw.s hdx (by omega) (by omega)⟩
      · rw [if_neg hm] at one
        subst one
        have e2 : decide (V.int ((xs.length : Nat) : Int) = V.int 1) = false := decide_eq_false (by rw [hxs.1]; intro z; injection z with z; simp at z)
        rw [e2]
        rcases hend with hd | hd
        · rw [hd] at hr'
          have hr2 : r = none := runs_nil hr'
          exact iteT (iteT ⟨_, rfl, _, rfl, fun dx hdx => hbad hr2 H' dx _ hw.s hdx (by omega) (by omega)⟩)
        · exact absurd hd.1 hm
    · have e1 : decide (V.int ((((as.map V.ref).reverse).length : Nat) : Int) = V.int 1) = false := decide_eq_false (by
        rw [rev_len, hz]
        intro z
        injection z with z
        exact h1 (by omega))
      rw [e1]
      rcases hend with hd | hd
      · rw [hd] at hr'
        have hr2 : r = none := by
          rw [runs_nil hr']
          unfold final
          split
          · simp at h1
          · rfl
        exact iteT (iteT ⟨_, rfl, _, rfl, fun dx hdx => hbad hr2 H' dx _ hw.s hdx (by omega) (by omega)⟩)
      · exact absurd hd.2 h1
  -- the loop
  intro nx hnx
  refine ⟨fun m σ H' => ∃ (a : Nat) (as : List Addr) (rows : List (List Val)) (w : Want) (v3 v4 : Option V), σ = [some (.str (mk l)), some (.ref R), some (.int (a : Int)), v3, v4] ∧ a ≤ l.length ∧ Rw H H' R as rows ∧ Wf rows w ∧ Runs rows w (l.drop a) r ∧ (∀ q ∈ rows, q.length ≤ a) ∧
    (w = .more → 2 ≤ rows.length ∧ ∀ c, (l.drop a).head? = some c → c = 41) ∧ (w = .val → 2 ≤ rows.length → ∀ c, (l.drop a).head? = some c → c ≠ 41) ∧ m = l.length - a,
    ⟨_, 0, [b], [[]], .val, none, none, rfl, Nat.zero_le _, rw0, wf_init, by rw [List.drop_zero]; exact hrun, by simp, (fun z => nomatch z), (fun _ z => absurd z (by simp)), rfl⟩, ?_⟩
  rintro m σ H' ⟨a, as, rows, w, v3, v4, rfl, ha, hw, wf, hr', hq, hmore, hval, rfl⟩
  have hz : as.length = rows.length := hw.len
  refine ⟨_, rfl, _, rfl, _, rfl, LS (by rw [mk_len]; exact hlen), _, _, rfl, rfl, _, rfl, ite2 (fun hin => ?_) (fun hout => ?_)⟩
  rotate_left
  · have hout' : ¬ (a : Int) < ((mk l).length : Int) := fun z => hout (decide_eq_true z)
    rw [mk_len] at hout'
    exact hnx _ _ ⟨a, as, rows, w, v3, v4, rfl, ha, hw, wf, hr', hq, .inl (List.drop_eq_nil_of_le (by omega)), fun _ _ => trivial⟩
  have hin' : (a : Int) < ((mk l).length : Int) := of_decide_eq_true hin
  rw [mk_len] at hin'
  obtain ⟨c, hc, hh, hdr⟩ := head_at (l := l) (a := a) (by omega)
  rw [hdr] at hr'
  have hcA : atI (mk l).cps.toList (a : Int) = some c := at_l rfl hc
  have hm61 := wf.most
  refine ⟨fun σ' H' => ∃ m', m' < l.length - a ∧ _, fun _ _ h => h, ?_⟩
  refine ⟨_, rfl, _, rfl, _, _, c, rfl, rfl, LS (by rw [mk_len]; exact hlen), hcA, rfl, _, rfl, ite2 (fun hp => ?_) (fun hp => ?_)⟩
  · -- an opening sign
    have e40 : c = 40 := sg_eq.mp (of_decide_eq_true hp)
    subst e40
    have hwm : w ≠ .more := fun z => absurd ((hmore z).2 40 hh) (by decide)
    have hst := step_40 (rows := rows) (cs := l.drop (a + 1)) hwm
    refine ⟨_, rfl, R, _, rfl, .inl (SqL.of hw.r), _, _, rfl, rfl, _, rfl, ite2 (fun h60 => ?_) (fun h60 => ?_)⟩
    · have h60' : ((((as.map V.ref).reverse).length : Nat) : Int) > 60 := of_decide_eq_true h60
      rw [rev_len, hz] at h60'
      rw [if_pos (by omega)] at hst
      exact ⟨_, rfl, _, rfl, fun dx hdx => hbad (runs_none hr' hst) H' dx _ hw.s hdx (by omega) (by omega)⟩
    · have h60' : ¬ 60 < rows.length := fun z => h60 (decide_eq_true (by rw [rev_len, hz]; show (60 : Int) < _; omega))
      rw [if_neg h60'] at hst
      refine ⟨_, rfl, .inl ⟨rfl, _, SqL.of hw.r⟩, big 0 (by decide), fun b2 hb2 => ?_⟩
      have nR : R ≠ b2 := fun z => by rw [← z, hw.r] at hb2; cases hb2
      refine ⟨R, _, _, rfl, rfl, by rw [upd_ne nR]; exact hw.r, ?_, ?_⟩
      · rw [rev_len, hz]; exact Nat.lt_of_le_of_lt (show rows.length ≤ 100 by omega) (by decide)
      refine ⟨_, rfl, _, _, rfl, rfl, l.length - (a + 1), by omega, a + 1, b2 :: as, [] :: rows, .any, v3, v4, rfl, by omega, hw.push hb2, wf_step wf hst, runs_some hr' hst, fun q hq' => ?_, (fun z => nomatch z), (fun z => nomatch z), rfl⟩
      rcases List.mem_cons.mp hq' with e | hq'
      · rw [e]; exact Nat.zero_le _
      · have := hq q hq'; omega
  have n40 : c ≠ 40 := fun z => hp (decide_eq_true (sg_eq.mpr z))
  -- a closing sign, or an atom; behind it the row holds one more
  refine ⟨fun σ H' => ∃ (a' : Nat) (as : List Addr) (rows : List (List Val)) (v3 v4 : Option V), σ = [some (.str (mk l)), some (.ref R), some (.int (a' : Int)), v3, v4] ∧ a < a' ∧ a' ≤ l.length ∧ Rw H H' R as rows ∧ Wf rows .more ∧ Runs rows .more (l.drop a') r ∧ (∀ q ∈ rows, q.length ≤ a'), ?_, ?_⟩
  · rintro σ H' ⟨a', as, rows, v3, v4, rfl, haa, ha', hw, wf, hr', hq⟩
    have hz : as.length = rows.length := hw.len
    have hm61 := wf.most
    refine ⟨_, rfl, R, _, rfl, .inl (SqL.of hw.r), rfl, _, rfl, ite2 (fun h1 => ?_) (fun h1 => ?_)⟩
    · have h1' : V.int ((((as.map V.ref).reverse).length : Nat) : Int) = V.int 1 := of_decide_eq_true h1
      injection h1' with h1'
      rw [rev_len, hz] at h1'
      exact hnx _ _ ⟨a', as, rows, .more, v3, v4, rfl, ha', hw, wf, hr', hq, .inr ⟨rfl, by omega⟩, fun _ _ => trivial⟩
    have n1 : rows.length ≠ 1 := fun z => h1 (decide_eq_true (by rw [rev_len, hz, z]; rfl))
    have hp := List.length_pos_iff.mpr wf.ne
    -- on, with a blank or without
    refine ⟨_, rfl, _, rfl, _, rfl, LS (by rw [mk_len]; exact hlen), _, _, rfl, rfl, _, rfl, ?_⟩
    by_cases hlt : a' < l.length
    · have e1 : decide ((a' : Int) < (((mk l).length : Nat) : Int)) = true := decide_eq_true (by rw [mk_len]; omega)
      rw [e1]
      obtain ⟨c1, hc1, hh1, hdr1⟩ := head_at (l := l) (a := a') hlt
      rw [hdr1] at hr'
      refine iteT ⟨_, rfl, _, rfl, _, _, c1, rfl, rfl, LS (by rw [mk_len]; exact hlen), at_l rfl hc1, rfl, _, rfl, ?_⟩
      by_cases h32 : c1 = 32
      · subst h32
        have e2 : decide (V.str (⟨#[32]⟩ : Str) = V.str (Str.ofString " ")) = true := decide_eq_true rfl
        rw [e2]
        have hst := step_32 (rows := rows) (cs := l.drop (a' + 1)) n1
        have hr2 := runs_some hr' hst
        refine iteT ⟨_, rfl, _, _, rfl, rfl, _, rfl, _, rfl, LS (by rw [mk_len]; exact hlen), _, _, rfl, rfl, _, rfl, ?_⟩
        by_cases hlt2 : a' + 1 < l.length
        · have e3 : decide ((a' : Int) + 1 < (((mk l).length : Nat) : Int)) = true := decide_eq_true (by rw [mk_len]; omega)
          rw [e3]
          obtain ⟨c2, hc2, hh2, hdr2⟩ := head_at (l := l) (a := a' + 1) hlt2
          refine iteT ⟨_, rfl, _, rfl, _, _, rfl, rfl, _, _, c2, rfl, rfl, LS (by rw [mk_len]; exact hlen), at_l (by omega) hc2, c2, _, rfl, rfl, _, rfl, ?_⟩
          by_cases hin2 : c2 = 41 ∨ c2 = 32
          · have e4 : decide (c2 ∈ (Str.ofString ") ").cps.toList) = true := decide_eq_true (by
              show c2 ∈ [41, 32]
              rcases hin2 with h | h <;> simp [h])
            rw [e4]
            rw [hdr2] at hr2
            have rn : r = none := by
              rcases hin2 with h | h
              · exact runs_none hr2 (by rw [h]; exact step_41val rfl)
              · exact runs_none hr2 (by rw [h]; exact step_val32)
            refine iteF ⟨_, rfl, _, rfl, _, rfl, LS (by rw [mk_len]; exact hlen), _, _, rfl, rfl, _, rfl, by rw [e1]; exact iteT ⟨_, rfl, _, rfl, _, _, 32, rfl, rfl, LS (by rw [mk_len]; exact hlen), at_l rfl hc1, rfl, _, rfl, iteT ⟨_, rfl, _, rfl, fun dx hdx => hbad rn H' dx _ hw.s hdx (by omega) (by omega)⟩⟩⟩
          · have e4 : decide (c2 ∈ (Str.ofString ") ").cps.toList) = false := decide_eq_false (by
              show ¬ c2 ∈ [41, 32]
              simpa using hin2)
            rw [e4]
            refine iteT ⟨_, rfl, _, _, rfl, rfl, l.length - (a' + 1), by omega, a' + 1, as, rows, .val, v3, v4, rfl, by omega, hw, wf_step wf hst, hr2, fun q hq' => by have := hq q hq'; omega, (fun z => nomatch z), (fun _ _ c3 hc3 => ?_), rfl⟩
            rw [hh2] at hc3
            cases hc3
            exact fun z => hin2 (.inl z)
        · have e3 : decide ((a' : Int) + 1 < (((mk l).length : Nat) : Int)) = false := decide_eq_false (by rw [mk_len]; omega)
          rw [e3]
          have hd2 : l.drop (a' + 1) = [] := List.drop_eq_nil_of_le (by omega)
          rw [hd2] at hr2
          have rn : r = none := by
            rw [runs_nil hr2]
            unfold final
            split
            · rfl
            · rfl
          exact iteF (iteF ⟨_, rfl, _, rfl, _, rfl, LS (by rw [mk_len]; exact hlen), _, _, rfl, rfl, _, rfl, by rw [e1]; exact iteT ⟨_, rfl, _, rfl, _, _, 32, rfl, rfl, LS (by rw [mk_len]; exact hlen), at_l rfl hc1, rfl, _, rfl, iteT ⟨_, rfl, _, rfl, fun dx hdx => hbad rn H' dx _ hw.s hdx (by omega) (by omega)⟩⟩⟩)
      · have e2 : decide (V.str (⟨#[c1]⟩ : Str) = V.str (Str.ofString " ")) = false := decide_eq_false fun z => h32 (sg_eq.mp z)
        rw [e2]
        refine iteF (iteF ⟨_, rfl, _, rfl, _, rfl, LS (by rw [mk_len]; exact hlen), _, _, rfl, rfl, _, rfl, ?_⟩)
        rw [e1]
        refine iteT ⟨_, rfl, _, rfl, _, _, c1, rfl, rfl, LS (by rw [mk_len]; exact hlen), at_l rfl hc1, rfl, _, rfl, ?_⟩
        by_cases h41 : c1 = 41
        · have e5 : decide (V.str (⟨#[c1]⟩ : Str) = V.str (Str.ofString ")")) = true := decide_eq_true (sg_eq.mpr h41)
          rw [e5]
          exact iteF ⟨l.length - a', by omega, a', as, rows, .more, v3, v4, rfl, ha', hw, wf, by rw [hdr1]; exact hr', hq, fun _ => ⟨by omega, fun c3 hc3 => by rw [hh1] at hc3; cases hc3; exact h41⟩, (fun z => nomatch z), rfl⟩
        · have e5 : decide (V.str (⟨#[c1]⟩ : Str) = V.str (Str.ofString ")")) = false := decide_eq_false fun z => h41 (sg_eq.mp z)
          rw [e5]
          have rn := runs_none hr' (step_more (.inr fun z => z.elim h32 h41))
          exact iteT ⟨_, rfl, _, rfl, fun dx hdx => hbad rn H' dx _ hw.s hdx (by omega) (by omega)⟩
    · have e1 : decide ((a' : Int) < (((mk l).length : Nat) : Int)) = false := decide_eq_false (by rw [mk_len]; omega)
      rw [e1]
      refine iteF (iteF ⟨_, rfl, _, rfl, _, rfl, LS (by rw [mk_len]; exact hlen), _, _, rfl, rfl, _, rfl, ?_⟩)
      rw [e1]
      have hd : l.drop a' = [] := List.drop_eq_nil_of_le (by omega)
      exact iteF (iteF ⟨l.length - a', by omega, a', as, rows, .more, v3, v4, rfl, ha', hw, wf, hr', hq, fun _ => ⟨by omega, fun c3 hc3 => by rw [hd] at hc3; cases hc3⟩, (fun z => nomatch z), rfl⟩)
  intro nx2 hnx2
  refine ⟨_, rfl, _, rfl, _, _, c, rfl, rfl, LS (by rw [mk_len]; exact hlen), hcA, rfl, _, rfl, ite2 (fun hp1 => ?_) (fun hp1 => ?_)⟩
  · -- a closing sign
    have e41 : c = 41 := sg_eq.mp (of_decide_eq_true hp1)
    subst e41
    refine ⟨_, rfl, R, _, rfl, .inl (SqL.of hw.r), rfl, _, rfl, ite2 (fun h1 => ?_) (fun h1 => ?_)⟩
    · have h1' : V.int ((((as.map V.ref).reverse).length : Nat) : Int) = V.int 1 := of_decide_eq_true h1
      injection h1' with h1'
      rw [rev_len, hz] at h1'
      have hv : w = .val := by
        cases w with
        | val => rfl
        | any => have := wf.any rfl; omega
        | more => have := (hmore rfl).1; omega
      exact ⟨_, rfl, _, rfl, fun dx hdx => hbad (runs_none hr' (step_41val hv)) H' dx _ hw.s hdx (by omega) (by omega)⟩
    have n1 : rows.length ≠ 1 := fun z => h1 (decide_eq_true (by rw [rev_len, hz, z]; rfl))
    have hp := List.length_pos_iff.mpr wf.ne
    obtain ⟨q1, o, up, rfl⟩ : ∃ q1 o up, rows = q1 :: o :: up := by
      cases rows with
      | nil => simp at hp
      | cons q1 r1 => cases r1 with
        | nil => simp at n1
        | cons o up => exact ⟨q1, o, up, rfl⟩
    obtain ⟨a1, as1, rfl⟩ := hw.cons
    have hv : w ≠ .val := fun z => hval z (by simp) 41 hh rfl
    have hst := step_41 (q := q1) (o := o) (up := up) (cs := l.drop (a + 1)) hv
    have hwf2 := wf_step wf hst
    refine ⟨_, rfl, .inl ⟨rfl, _, SqL.of hw.r⟩, R, _, _, rfl, rfl, hw.r, rev_top, ?_⟩
    obtain ⟨hw1, na1, n01, xs1, ex1, hx1⟩ := hw.pop
    obtain ⟨a2, as2, rfl⟩ := hw1.cons
    obtain ⟨xs2, ex2, _⟩ := hw1.top
    refine ⟨_, rfl, _, rfl, R, _, _, _, rfl, rfl, SqL.of hw1.r, rev_last, .inl ⟨rfl, _, SqL.of ex2⟩, _, rfl, a1, xs1, rfl, .inl ⟨SqL.of ex1, fun t ht => ?_⟩⟩
    have hw2 := hw1.tup ht (.tup xs1)
    have ex2' := same_new ht (.tup xs1) _ _ ex2
    have hv2 : At (upd (upd H' R (.lst ((a1 :: a2 :: as2).map V.ref).reverse.dropLast)) t (.tup xs1)) (.ref t) (.tup q1) := (hx1.mono (tk_new ht _)).at upd_same (by rw [hx1.1]; have := hq q1 (by simp); omega)
    obtain ⟨hxo, hw3⟩ := hw2.app ex2' hv2
    have lo := hq o (by simp)
    refine ⟨a2, xs2, _, rfl, rfl, ex2', ?_, ?_⟩
    · rw [hxo.1]; exact Nat.lt_of_le_of_lt (show o.length ≤ 1000000 by omega) (by decide)
    refine ⟨_, rfl, _, _, rfl, rfl, hnx2 _ _ ⟨a + 1, a2 :: as2, (o ++ [.tup q1]) :: up, _, _, rfl, by omega, by omega, hw3, hwf2, runs_some hr' hst, fun q hq' => ?_⟩⟩
    rcases List.mem_cons.mp hq' with e | hq'
    · rw [e, List.length_append]; simp; omega
    · have := hq q (by simp [hq']); omega
  · -- an atom
    have n41 : c ≠ 41 := fun z => hp1 (decide_eq_true (sg_eq.mpr z))
    have hwm : w ≠ .more := fun z => n41 ((hmore z).2 c hh)
    have hst := step_at (rows := rows) (cs := l.drop (a + 1)) hwm n41 n40
    refine ⟨_, rfl, _, rfl, l, a, rfl, by omega, hlen, fun x k hk p v hp2 hv => ?_, fun hk => ?_⟩
    · have hk1 := atomOf_le hk
      rw [List.length_drop] at hk1
      rw [hdr] at hk
      rw [hk] at hst
      obtain ⟨q1, up, rfl⟩ : ∃ q1 up, rows = q1 :: up := by
        cases rows with
        | nil => exact absurd rfl wf.ne
        | cons q1 up => exact ⟨q1, up, rfl⟩
      obtain ⟨a1, as1, rfl⟩ := hw.cons
      have hw1 := hw.tup hp2 (.tup [v, .int ((a + k : Nat) : Int)])
      obtain ⟨xs1, ex1, _⟩ := hw1.top
      obtain ⟨hx1, hw2⟩ := hw1.app ex1 (hv _)
      have lo := hq q1 (by simp)
      refine ⟨p, _, rfl, SqT.of upd_same, rfl, _, _, rfl, _, _, rfl, rfl, ?_⟩
      refine ⟨_, rfl, _, rfl, R, _, _, _, rfl, rfl, SqL.of hw1.r, rev_last, .inl ⟨rfl, _, SqL.of ex1⟩, _, rfl, a1, xs1, _, rfl, rfl, ex1, ?_, ?_⟩
      · rw [hx1.1]; exact Nat.lt_of_le_of_lt (show q1.length ≤ 1000000 by omega) (by decide)
      have hst' : step (q1 :: up) w c (l.drop (a + 1)) = some ((q1 ++ [x]) :: up, .more, l.drop (a + k)) := by
        rw [hst, ← hdr, ← List.drop_drop]; rfl
      refine hnx2 _ _ ⟨a + k, a1 :: as1, (q1 ++ [x]) :: up, _, _, rfl, by omega, by omega, hw2, wf_step wf hst', runs_some hr' hst', fun q hq' => ?_⟩
      rcases List.mem_cons.mp hq' with e | hq'
      · rw [e, List.length_append]; simp; omega
      · have := hq q (by simp [hq']); omega
    · rw [hdr] at hk
      rw [hk] at hst
      exact fun H2 dx k2 s2 hdx h0 h1 => hbad (runs_none hr' hst) H2 dx k2 (hw.s.trans s2) hdx h0 h1

end
end K93

/-! The law's own reader. -/
namespace K93
open PySem PySem.Spec PyProof.Rows L2 TL

theorem run_eq {p : Nat → Bool} {t : List Nat} {j : Nat} (hj : j ≤ t.length) (h1 : ∀ i c, i < j → t[i]? = some c → p c = true) (h2 : ∀ c, t[j]? = some c → p c = false) : run p t = j := by
  have e : t = t.take j ++ t.drop j := (List.take_append_drop j t).symm
  rw [e, run_app]
  · rw [List.length_take]; omega
  · intro c hc
    obtain ⟨i, hi⟩ := List.getElem?_of_mem hc
    have hl : i < j := by
      have := (List.getElem?_eq_some_iff.mp hi).1
      rw [List.length_take] at this; omega
    rw [List.getElem?_take_of_lt hl] at hi
    exact h1 i c hl hi
  · intro c hc
    rw [List.head?_drop] at hc
    exact h2 c hc
theorem find_run {l : List Nat} {a : Nat} (ha : a < l.length) : (a + 1 + run nq (l.drop (a + 1)) < l.length ∧ Txt.find3 (mk l) (mk [34]) ((a : Int) + 1) = ((a + 1 + run nq (l.drop (a + 1)) : Nat) : Int)) ∨
    (l.length ≤ a + 1 + run nq (l.drop (a + 1)) ∧ Txt.find3 (mk l) (mk [34]) ((a : Int) + 1) = -1) := by
  have ei : ((a : Int) + 1) = ((a + 1 : Nat) : Int) := by omega
  have ef : PySem.fromIndex (mk l).length ((a : Int) + 1) = a + 1 := by
    unfold PySem.fromIndex
    rw [if_neg (by omega)]
    omega
  have eg : ∀ v, v < l.length → l[v]? = some ((mk l).cps.getD v 0) := fun v hv => by
    have : (mk l).cps.getD v 0 = l[v] := by simp [mk, Array.getD, hv]
    rw [this]; exact List.getElem?_eq_getElem hv
  rcases StrLaws.find3_spec (mk l) 34 ((a : Int) + 1) with ⟨h, hn⟩ | ⟨k, h, hlo, hk, he, hn⟩
  · right
    rw [ef, mk_len] at hn
    refine ⟨?_, h⟩
    have hr : run nq (l.drop (a + 1)) = (l.drop (a + 1)).length := run_eq (Nat.le_refl _) (fun i c hi hc => by
      rw [List.length_drop] at hi
      rw [List.getElem?_drop, eg _ (by omega)] at hc
      cases hc
      exact nq_iff.mpr (hn _ (by omega) (by omega))) (fun c hc => by rw [List.getElem?_eq_none (Nat.le_refl _)] at hc; cases hc)
    rw [hr, List.length_drop]; omega
  · left
    rw [ef] at hlo hn
    rw [mk_len] at hk
    have hr : run nq (l.drop (a + 1)) = k - (a + 1) := run_eq (by rw [List.length_drop]; omega) (fun i c hi hc => by
      rw [List.getElem?_drop, eg _ (by omega)] at hc
      cases hc
      exact nq_iff.mpr (hn _ (by omega) (by omega))) (fun c hc => by
      rw [List.getElem?_drop, show a + 1 + (k - (a + 1)) = k by omega, eg _ hk, he] at hc
      cases hc; rfl)
    rw [hr, show a + 1 + (k - (a + 1)) = k by omega]
    exact ⟨hk, h⟩
theorem Rw.same {H0 H H' : Hp} {R : Addr} {as : List Addr} {rows : List (List Val)} (h : Rw H0 H R as rows) (s : Same H H') : Rw H0 H' R as rows :=
  ⟨h.s.trans s, h.r0, s _ _ h.r, h.n0, h.nr, h.nd, h.len, fun i a q e1 e2 => by
    obtain ⟨xs, e, hx⟩ := h.row i a q e1 e2
    exact ⟨xs, s _ _ e, hx.mono (Same.tk s)⟩⟩
/-- a comprehension over a text -/
theorem lc_str {x : Str} {g : TG} {tt : TT} {te : TE} {vs : List Nat} {σ : L2.St} {H1 : Hp} {D : Addr} {Qd : Hp → Prop} (Pv : Nat → Hp → Prop) (h0 : Pv 0 (upd H1 D (.lst [])))
    (hs : ∀ i c H, x.cps[i]? = some c → Pv i H → g (.str ⟨#[c]⟩) (wipe σ vs) H fun σ2 H2 => wipe σ2 vs = wipe σ vs ∧ tt σ2 H2 fun b H3 =>
      if b = true then te σ2 H3 fun y H4 => ∃ acc, H4 D = some (.lst acc) ∧ acc.length < sizeLine ∧ Pv (i + 1) (upd H4 D (.lst (acc ++ [y]))) else Pv (i + 1) H3) (hd : ∀ H, Pv x.cps.size H → Qd H) :
    ∃ W : Nat → Nat → Hp → Prop, (∃ m, W 0 m (upd H1 D (.lst []))) ∧ ∀ i m H, W i m H →
      ((Its x).stop i H ∧ Qd H) ∨ ((Its x).go i H ∧ ∃ Nx : Hp → Prop, (∀ H', Nx H' → ∃ m', m' < m ∧ W (i + 1) m' H') ∧ ∀ y H', (Its x).yld i H y H' → g y (wipe σ vs) H' fun σ2 H2 => wipe σ2 vs = wipe σ vs ∧ tt σ2 H2 fun b H3 =>
        if b = true then te σ2 H3 fun y H4 => ∃ acc, H4 D = some (.lst acc) ∧ acc.length < sizeLine ∧ Nx (upd H4 D (.lst (acc ++ [y]))) else Nx H3) := by
  refine ⟨fun i m H => m = x.cps.size - i ∧ i ≤ x.cps.size ∧ Pv i H, ⟨x.cps.size, by simp, Nat.zero_le _, h0⟩, ?_⟩
  rintro i m H ⟨rfl, hi, p⟩
  by_cases hlt : i < x.cps.size
  · refine .inr ⟨hlt, Pv (i + 1), fun H' p' => ⟨x.cps.size - (i + 1), by omega, rfl, hlt, p'⟩, fun y H' hy => ?_⟩
    obtain ⟨e, c, hc, e2⟩ := hy
    subst e e2
    exact hs i c _ hc p
  · have e : i = x.cps.size := by omega
    subst e
    exact .inl ⟨Nat.le_refl _, hd H p⟩
def wstr : Want → Str
  | .val => Str.ofString "value"
  | .any => Str.ofString "any"
  | .more => Str.ofString "more"
theorem w_more (w : Want) : decide (V.str (wstr w) = V.str (Str.ofString "more")) = decide (w = .more) := by cases w <;> decide +kernel
theorem w_val (w : Want) : decide (V.str (wstr w) = V.str (Str.ofString "value")) = decide (w = .val) := by cases w <;> decide +kernel
theorem mem_sp {c : Nat} : (c ∈ (Str.ofString " )").cps.toList) ↔ (c = 32 ∨ c = 41) := by
  show c ∈ [32, 41] ↔ _
  simp
section
variable {P : Program} {w : World} {K : PySem.W.Frag} {mg : Str → Option Value} {base : Heap} {f : Addr} {fd : FuncData}

def spFound : Sp := fun vs H Q _ => ∃ (l : List Nat) (r : Option Val), vs = [.str (mk l)] ∧ l.length ≤ 1000000 ∧ Runs [[]] .val l r ∧ (∀ x, r = some x → ∀ p v H', Same H H' → H' p = some (.lst [v]) → At H' v x → Q (.ref p) H') ∧ (r = none → ∀ H', Same H H' → Q .non H')
abbrev sLawFound : Stmt := top 34
theorem scLawFound : FnScope ["text", "rows", "want", "at", "sign", "row", "outer", "end", "other"] ["text"] (defScope sLawFound) := ⟨rfl, rfl, rfl, by decide +kernel, rfl, by decide +kernel, by decide +kernel⟩
theorem ok_found (T : Mo mg) (F : Fun K "_law_found" "_law_found" sLawFound f fd) (d_l_number_end : Df P w K mg base CX0 1 "_law_number_end" ["text", "at"] spNumL) : FnOk P w K mg base CX0 2 f fd ["text"] spFound := by
  refine F.ok scLawFound (fun vs H Q E h => ?_) (fun cdv A outer s H vs Q E hr h => ?_)
  · obtain ⟨l, r, rfl, _⟩ := h
    rfl
  obtain ⟨l, r, rfl, hlen, hrun, q, qn⟩ := h
  refine ⟨_, (pss_cons (ps_set (i := 1) scLawFound.nd rfl (Or.inl rfl) (pe_lst (pa_cons (pe_lst pa_nil) pa_nil))) (pss_cons (ps_set (i := 2) scLawFound.nd rfl (Or.inl rfl) pe_str) (pss_cons (ps_set (i := 3) scLawFound.nd rfl (Or.inl rfl) pe_int) (pss_cons (ps_while PassesOwn.never (pt_cmpR op_lt (pv 3) (pe_callB call_len_str (by rfl) T.len PySem.boot_len (pa_cons (pv 0) pa_nil)) (nomark _)) (pss_cons (ps_set (i := 4) scLawFound.nd rfl (Or.inl rfl) (pe_ix ix_str (pv 0) (pv 3) (fun _ _ => rfl))) (pss_cons (ps_set (i := 5) scLawFound.nd rfl (Or.inl rfl) (pe_ix ix_list (pv 1) (pe_un un_neg pe_int) (fun _ _ => rfl))) (pss_cons (ps_if (PW.pt (pw_and (pt_cmpR op_eq (pv 2) pe_str (nomark _)) (pw_and1 (PW.pt (pw_or (pt_cmpR op_eq (pe_callB call_len_seq (by rfl) T.len PySem.boot_len (pa_cons (pv 1) pa_nil)) pe_int (nomark _)) (pw_or1 (pt_cmpR op_notIn_sign (pv 4) pe_str rfl))))))) (pss_one (ps_ret pe_non)) pss_nil) (pss_one (ps_if (pt_cmpR op_eq (pv 4) pe_str (nomark _)) (pss_cons (ps_if (pt_cmpR op_eq (pv 2) pe_str (nomark _)) (pss_one (ps_ret pe_non)) pss_nil) (pss_cons (ps_expr (pe_bm0 PySem.F.plainAttrs_list PySem.F.slot_list_pop PySem.F.type_list_pop mt_pop (pv 1))) (pss_cons (ps_set (i := 6) scLawFound.nd rfl (Or.inl rfl) (pe_ix ix_list (pv 1) (pe_un un_neg pe_int) (fun _ _ => rfl))) (pss_cons (ps_expr (pe_bm PySem.F.plainAttrs_list PySem.F.slot_list_append PySem.F.type_list_append mt_append (pv 6) (pa_cons (pe_callTy call_tuple_of (by rfl) T.tuple (by decide +kernel) (pa_cons (pv 5) pa_nil)) pa_nil))) (pss_cons (ps_set (i := 2) scLawFound.nd rfl (Or.inl rfl) pe_str) (pss_one (ps_aug (i := 3) scLawFound.nd rfl (Or.inl rfl) pe_int ip_add))))))) (pss_one (ps_if (pt_cmpR op_eq (pv 2) pe_str (nomark _)) (pss_cons (ps_set (i := 2) scLawFound.nd rfl (Or.inl rfl) pe_str) (pss_one (ps_aug (i := 3) scLawFound.nd rfl (Or.inl rfl) pe_int ip_add))) (pss_one (ps_if (pt_cmpR op_eq (pv 4) pe_str (nomark _)) (pss_cons (ps_if (pt_cmpR op_gt (pe_callB call_len_seq (by rfl) T.len PySem.boot_len (pa_cons (pv 1) pa_nil)) pe_int (nomark _)) (pss_one (ps_ret pe_non)) pss_nil) (pss_cons (ps_expr (pe_bm PySem.F.plainAttrs_list PySem.F.slot_list_append PySem.F.type_list_append mt_append (pv 1) (pa_cons (pe_lst pa_nil) pa_nil))) (pss_cons (ps_set (i := 2) scLawFound.nd rfl (Or.inl rfl) pe_str) (pss_one (ps_aug (i := 3) scLawFound.nd rfl (Or.inl rfl) pe_int ip_add))))) (pss_one (ps_if (pt_cmpR op_eq (pv 4) pe_str (nomark _)) (pss_cons (ps_set (i := 7) scLawFound.nd rfl (Or.inl rfl) (pe_bm PySem.F.plainAttrs_str PySem.F.slot_str_find PySem.F.type_str_find mt_find3 (pv 0) (pa_cons pe_str (pa_cons (pe_op op_add (pv 3) pe_int) pa_nil)))) (pss_cons (ps_if (PW.pt (pw_or (pt_cmpR op_lt (pv 7) pe_int (nomark _)) (pw_or1 (pt_not (pt_val (pe_callB (cr_all rfl) (by rfl) T.all (by decide +kernel) (pa_cons (pe_lc (own := [("other", 8)]) (g := gName 8) (tt := tYes) rfl scLawFound.nd (pi_str (pe_slice sl_str (pv 0) (po_some (pe_op op_add (pv 3) pe_int)) (po_some (pv 7)))) (blkOk_by (own := [("other", 8)]) (N := ["text", "rows", "want", "at", "sign", "row", "outer", "end", "other"]) (sc := defScope sLawFound) (by decide +kernel)) (fun _ _ _ _ _ => pg_name (i := 8) scLawFound.nd rfl (Or.inl rfl)) (fun _ _ _ _ _ => pts_nil) (fun _ _ _ _ _ => (pe_chain op_le_str op_le_str pe_str (pv 8) pe_str))) pa_nil))))))) (pss_one (ps_ret pe_non)) pss_nil) (pss_cons (ps_expr (pe_bm PySem.F.plainAttrs_list PySem.F.slot_list_append PySem.F.type_list_append mt_append (pv 5) (pa_cons (pe_slice sl_str (pv 0) (po_some (pe_op op_add (pv 3) pe_int)) (po_some (pv 7))) pa_nil))) (pss_cons (ps_set (i := 2) scLawFound.nd rfl (Or.inl rfl) pe_str) (pss_one (ps_set (i := 3) scLawFound.nd rfl (Or.inl rfl) (pe_op op_add (pv 7) pe_int))))))) (pss_cons (ps_set (i := 7) scLawFound.nd rfl (Or.inl rfl) (pe_d d_l_number_end (hr.mono (by omega)) (pa_cons (pv 0) (pa_cons (pv 3) pa_nil)))) (pss_cons (ps_if (pt_cmpR op_isN (pv 7) pe_non (nomark _)) (pss_one (ps_ret pe_non)) pss_nil) (pss_cons (ps_expr (pe_bm PySem.F.plainAttrs_list PySem.F.slot_list_append PySem.F.type_list_append mt_append (pv 5) (pa_cons (pe_callTy call_int_str (by rfl) T.int (by decide +kernel) (pa_cons (pe_slice sl_str (pv 0) (po_some (pv 3)) (po_some (pv 7))) pa_nil)) pa_nil))) (pss_cons (ps_set (i := 2) scLawFound.nd rfl (Or.inl rfl) pe_str) (pss_one (ps_set (i := 3) scLawFound.nd rfl (Or.inl rfl) (pv 7))))))))))))))))))) (pss_one (ps_ret (pe_ifExp (PW.pt (pw_and (pt_cmpR op_eq (pe_callB call_len_seq (by rfl) T.len PySem.boot_len (pa_cons (pv 1) pa_nil)) pe_int (nomark _)) (pw_and1 (pt_cmpR op_eq (pv 2) pe_str (nomark _))))) (pe_ix ix_list (pv 1) pe_int (fun _ _ => rfl)) pe_non))))))), ?_⟩
  have LS : ∀ {n : Nat}, n ≤ 1000000 → n ≤ sizeLine := fun h => big _ h
  refine ⟨big 0 (by decide), fun b hb => ⟨big 1 (by decide), fun R hR => ?_⟩⟩
  have rw0 := Rw.init hb hR
  refine ⟨fun m σ H' => ∃ (a : Nat) (as : List Addr) (rows : List (List Val)) (w : Want) (v4 v5 v6 v7 v8 : Option V), σ = [some (.str (mk l)), some (.ref R), some (.str (wstr w)), some (.int (a : Int)), v4, v5, v6, v7, v8] ∧ a ≤ l.length ∧ Rw H H' R as rows ∧ Wf rows w ∧ Runs rows w (l.drop a) r ∧ (∀ q ∈ rows, q.length ≤ a) ∧ m = l.length - a,
    ⟨_, 0, [b], [[]], .val, none, none, none, none, none, rfl, Nat.zero_le _, rw0, wf_init, by rw [List.drop_zero]; exact hrun, by simp, rfl⟩, ?_⟩
  rintro m σ H' ⟨a, as, rows, w, v4, v5, v6, v7, v8, rfl, ha, hw, wf, hr', hq, rfl⟩
  have hz : as.length = rows.length := hw.len
  have hm61 := wf.most
  refine ⟨_, rfl, _, rfl, _, rfl, LS (by rw [mk_len]; exact hlen), _, _, rfl, rfl, _, rfl, ite2 (fun hin => ?_) (fun hout => ?_)⟩
  rotate_left
  · -- the end
    have hout' : ¬ (a : Int) < ((mk l).length : Int) := fun z => hout (decide_eq_true z)
    rw [mk_len] at hout'
    rw [List.drop_eq_nil_of_le (by omega)] at hr'
    have hr2 := runs_nil hr'
    refine ⟨_, rfl, R, _, rfl, .inl (SqL.of hw.r), rfl, _, rfl, ite2 (fun h1 => ⟨_, rfl, rfl, _, rfl, ?_⟩) (fun h1 => iteF ?_)⟩
    · have h1' : V.int ((((as.map V.ref).reverse).length : Nat) : Int) = V.int 1 := of_decide_eq_true h1
      injection h1' with h1'
      rw [rev_len, hz] at h1'
      obtain ⟨bq, rfl⟩ : ∃ bq, rows = [bq] := by
        cases rows with
        | nil => simp at h1'
        | cons bq up => cases up with
          | nil => exact ⟨bq, rfl⟩
          | cons o up => simp at h1'; omega
      have one := wf.one bq rfl
      rw [w_more]
      by_cases hm : w = .more
      · rw [if_pos hm] at one
        obtain ⟨x, rfl⟩ := one
        rw [decide_eq_true hm]
        obtain ⟨b0, as', rfl⟩ := hw.cons
        have has' : as' = [] := by cases as' with
          | nil => rfl
          | cons x y => simp at hz
        subst has'
        obtain ⟨xs, exs, hxs⟩ := hw.top
        obtain ⟨v, y, ev, ey, hv⟩ := hxs.get (i := 0) (by simp)
        have ey' : x = y := by simpa using ey
        subst ey'
        have exs1 : xs = [v] := by
          have hl1 := hxs.1
          cases xs with
          | nil => simp at hl1
          | cons u us => cases us with
            | nil => simp at ev; rw [ev]
            | cons _ _ => simp at hl1
        rw [exs1] at exs
        rw [hm] at hr2
        exact iteT ⟨_, rfl, R, _, _, _, rfl, rfl, SqL.of hw.r, rfl, q x hr2 b0 v H' hw.s exs hv⟩
      · rw [decide_eq_false hm]
        have hr3 : r = none := by
          rw [hr2]
          unfold final
          split
          · rw [if_neg hm]
          · rfl
        exact iteF (qn hr3 H' hw.s)
    · have n1 : rows.length ≠ 1 := fun z => h1 (decide_eq_true (by rw [rev_len, hz, z]; rfl))
      have hr3 : r = none := by
        rw [hr2]
        unfold final
        split
        · simp at n1
        · rfl
      exact qn hr3 H' hw.s
  have hin' : (a : Int) < ((mk l).length : Int) := of_decide_eq_true hin
  rw [mk_len] at hin'
  obtain ⟨c, hc, hh, hdr⟩ := head_at (l := l) (a := a) (by omega)
  rw [hdr] at hr'
  have hcA : atI (mk l).cps.toList (a : Int) = some c := at_l rfl hc
  obtain ⟨q1, up, rfl⟩ : ∃ q1 up, rows = q1 :: up := by
    cases rows with
    | nil => exact absurd rfl wf.ne
    | cons q1 up => exact ⟨q1, up, rfl⟩
  obtain ⟨a1, as1, rfl⟩ := hw.cons
  refine ⟨fun σ' H' => ∃ m', m' < l.length - a ∧ _, fun _ _ h => h, ?_⟩
  refine ⟨_, rfl, _, rfl, _, _, c, rfl, rfl, LS (by rw [mk_len]; exact hlen), hcA, _, rfl, _, rfl, R, _, _, _, rfl, rfl, SqL.of hw.r, rev_last, ?_⟩
  have none_now : step (q1 :: up) w c (l.drop (a + 1)) = none → Q .non H' := fun e => qn (runs_none hr' e) H' hw.s
  -- the first test
  refine ⟨_, rfl, rfl, _, rfl, ?_⟩
  rw [w_more]
  by_cases hm : w = .more
  · subst hm
    rw [decide_eq_true rfl]
    refine iteT ⟨_, rfl, R, _, rfl, .inl (SqL.of hw.r), rfl, _, rfl, ite2 (fun h1 => iteT ?_) (fun h1 => ⟨_, rfl, c, _, rfl, rfl, _, rfl, ite2 (fun h2 => ?_) (fun h2 => ?_)⟩)⟩
    · have h1' : V.int (((((a1 :: as1).map V.ref).reverse).length : Nat) : Int) = V.int 1 := of_decide_eq_true h1
      injection h1' with h1'
      rw [rev_len, hz] at h1'
      exact none_now (step_more (.inl (by omega)))
    · have h2' : ¬ c ∈ (Str.ofString " )").cps.toList := by simpa using h2
      exact none_now (step_more (.inr fun z => h2' (mem_sp.mpr z)))
    · have h2' : c = 32 ∨ c = 41 := mem_sp.mp (by simpa using h2)
      have n1 : (q1 :: up).length ≠ 1 := fun z => h1 (decide_eq_true (by rw [rev_len, hz, z]; rfl))
      refine ⟨_, rfl, rfl, _, rfl, ite2 (fun hp1 => ?_) (fun hp1 => ?_)⟩
      · have e41 : c = 41 := sg_eq.mp (of_decide_eq_true hp1)
        subst e41
        refine ⟨_, rfl, rfl, _, rfl, ?_⟩
        rw [w_val, decide_eq_false (by decide)]
        refine iteF ?_
        have hv : Want.more ≠ .val := by decide
        obtain ⟨o, up2, rfl⟩ : ∃ o up2, up = o :: up2 := by
          cases up with
          | nil => simp at n1
          | cons o up2 => exact ⟨o, up2, rfl⟩
        have hst := step_41 (q := q1) (o := o) (up := up2) (cs := l.drop (a + 1)) hv
        have hwf2 := wf_step wf hst
        refine ⟨_, rfl, .inl ⟨rfl, _, SqL.of hw.r⟩, R, _, _, rfl, rfl, hw.r, rev_top, ?_⟩
        obtain ⟨hw1, na1, n01, xs1, ex1, hx1⟩ := hw.pop
        obtain ⟨a2, as2, rfl⟩ := hw1.cons
        obtain ⟨xs2, ex2, _⟩ := hw1.top
        refine ⟨_, rfl, _, rfl, R, _, _, _, rfl, rfl, SqL.of hw1.r, rev_last, _, rfl, .inl ⟨rfl, _, SqL.of ex2⟩, _, rfl, a1, xs1, rfl, .inl ⟨SqL.of ex1, fun t ht => ?_⟩⟩
        have hw2 := hw1.tup ht (.tup xs1)
        have ex2' := same_new ht (.tup xs1) _ _ ex2
        have hv2 : At (upd (upd H' R (.lst ((a1 :: a2 :: as2).map V.ref).reverse.dropLast)) t (.tup xs1)) (.ref t) (.tup q1) := (hx1.mono (tk_new ht _)).at upd_same (by rw [hx1.1]; have := hq q1 (by simp); omega)
        obtain ⟨hxo, hw3⟩ := hw2.app ex2' hv2
        have lo := hq o (by simp)
        refine ⟨a2, xs2, _, rfl, rfl, ex2', ?_, ?_⟩
        · rw [hxo.1]; exact Nat.lt_of_le_of_lt (show o.length ≤ 1000000 by omega) (by decide)
        refine ⟨_, rfl, _, _, rfl, rfl, l.length - (a + 1), by omega, a + 1, a2 :: as2, (o ++ [.tup q1]) :: up2, .more, _, _, _, _, _, rfl, by omega, hw3, hwf2, runs_some hr' hst, fun q hq' => ?_, rfl⟩
        rcases List.mem_cons.mp hq' with e | hq'
        · rw [e, List.length_append]; simp; omega
        · have := hq q (by simp [hq']); omega
      · have n41 : c ≠ 41 := fun z => hp1 (decide_eq_true (sg_eq.mpr z))
        have e32 : c = 32 := h2'.resolve_right n41
        subst e32
        have hst := step_32 (rows := q1 :: up) (cs := l.drop (a + 1)) n1
        refine ⟨_, rfl, rfl, _, rfl, ?_⟩
        rw [w_more, decide_eq_true rfl]
        refine iteT ⟨_, rfl, _, _, rfl, rfl, l.length - (a + 1), by omega, a + 1, a1 :: as1, q1 :: up, .val, _, _, _, _, _, rfl, by omega, hw, wf_step wf hst, runs_some hr' hst, fun q hq' => by have := hq q hq'; omega, rfl⟩
  · rw [decide_eq_false hm]
    refine iteF ?_
    refine ⟨_, rfl, rfl, _, rfl, ite2 (fun hp1 => ?_) (fun hp1 => ?_)⟩
    · have e41 : c = 41 := sg_eq.mp (of_decide_eq_true hp1)
      subst e41
      refine ⟨_, rfl, rfl, _, rfl, ?_⟩
      rw [w_val]
      by_cases hv0 : w = .val
      · rw [decide_eq_true hv0]
        exact iteT (none_now (step_41val hv0))
      rw [decide_eq_false hv0]
      refine iteF ?_
      have hv : w ≠ .val := hv0
      obtain ⟨o, up2, rfl⟩ : ∃ o up2, up = o :: up2 := by
        cases up with
        | nil => exact absurd (wf.any (by cases w with
          | val => exact absurd rfl hv0
          | any => rfl
          | more => exact absurd rfl hm)) (by simp)
        | cons o up2 => exact ⟨o, up2, rfl⟩
      have hst := step_41 (q := q1) (o := o) (up := up2) (cs := l.drop (a + 1)) hv
      have hwf2 := wf_step wf hst
      refine ⟨_, rfl, .inl ⟨rfl, _, SqL.of hw.r⟩, R, _, _, rfl, rfl, hw.r, rev_top, ?_⟩
      obtain ⟨hw1, na1, n01, xs1, ex1, hx1⟩ := hw.pop
      obtain ⟨a2, as2, rfl⟩ := hw1.cons
      obtain ⟨xs2, ex2, _⟩ := hw1.top
      refine ⟨_, rfl, _, rfl, R, _, _, _, rfl, rfl, SqL.of hw1.r, rev_last, _, rfl, .inl ⟨rfl, _, SqL.of ex2⟩, _, rfl, a1, xs1, rfl, .inl ⟨SqL.of ex1, fun t ht => ?_⟩⟩
      have hw2 := hw1.tup ht (.tup xs1)
      have ex2' := same_new ht (.tup xs1) _ _ ex2
      have hv2 : At (upd (upd H' R (.lst ((a1 :: a2 :: as2).map V.ref).reverse.dropLast)) t (.tup xs1)) (.ref t) (.tup q1) := (hx1.mono (tk_new ht _)).at upd_same (by rw [hx1.1]; have := hq q1 (by simp); omega)
      obtain ⟨hxo, hw3⟩ := hw2.app ex2' hv2
      have lo := hq o (by simp)
      refine ⟨a2, xs2, _, rfl, rfl, ex2', ?_, ?_⟩
      · rw [hxo.1]; exact Nat.lt_of_le_of_lt (show o.length ≤ 1000000 by omega) (by decide)
      refine ⟨_, rfl, _, _, rfl, rfl, l.length - (a + 1), by omega, a + 1, a2 :: as2, (o ++ [.tup q1]) :: up2, .more, _, _, _, _, _, rfl, by omega, hw3, hwf2, runs_some hr' hst, fun q hq' => ?_, rfl⟩
      rcases List.mem_cons.mp hq' with e | hq'
      · rw [e, List.length_append]; simp; omega
      · have := hq q (by simp [hq']); omega
    have n41 : c ≠ 41 := fun z => hp1 (decide_eq_true (sg_eq.mpr z))
    refine ⟨_, rfl, rfl, _, rfl, ?_⟩
    rw [w_more, decide_eq_false hm]
    refine iteF ⟨_, rfl, rfl, _, rfl, ite2 (fun hp => ?_) (fun hp => ?_)⟩
    · have e40 : c = 40 := sg_eq.mp (of_decide_eq_true hp)
      subst e40
      have hst := step_40 (rows := q1 :: up) (cs := l.drop (a + 1)) hm
      refine ⟨_, rfl, R, _, rfl, .inl (SqL.of hw.r), _, _, rfl, rfl, _, rfl, ite2 (fun h60 => ?_) (fun h60 => ?_)⟩
      · have h60' : (((((a1 :: as1).map V.ref).reverse).length : Nat) : Int) > 60 := of_decide_eq_true h60
        rw [rev_len, hz] at h60'
        rw [if_pos (by omega)] at hst
        exact none_now hst
      · have h60' : ¬ 60 < (q1 :: up).length := fun z => h60 (decide_eq_true (by rw [rev_len, hz]; show (60 : Int) < _; omega))
        rw [if_neg h60'] at hst
        refine ⟨_, rfl, .inl ⟨rfl, _, SqL.of hw.r⟩, big 0 (by decide), fun b2 hb2 => ?_⟩
        have nR : R ≠ b2 := fun z => by rw [← z, hw.r] at hb2; cases hb2
        refine ⟨R, _, _, rfl, rfl, by rw [upd_ne nR]; exact hw.r, ?_, ?_⟩
        · rw [rev_len, hz]; exact Nat.lt_of_le_of_lt (show (q1 :: up).length ≤ 100 by omega) (by decide)
        refine ⟨_, rfl, _, _, rfl, rfl, l.length - (a + 1), by omega, a + 1, b2 :: a1 :: as1, [] :: q1 :: up, .any, _, _, _, _, _, rfl, by omega, hw.push hb2, wf_step wf hst, runs_some hr' hst, fun q hq' => ?_, rfl⟩
        rcases List.mem_cons.mp hq' with e | hq'
        · rw [e]; exact Nat.zero_le _
        · have := hq q hq'; omega
    have n40 : c ≠ 40 := fun z => hp (decide_eq_true (sg_eq.mpr z))
    have hst := step_at (rows := q1 :: up) (cs := l.drop (a + 1)) hm n41 n40
    obtain ⟨xs1, ex1, hx1⟩ := hw.top
    have lo := hq q1 (by simp)
    have hbig : xs1.length < sizeLine := by rw [hx1.1]; exact Nat.lt_of_le_of_lt (show q1.length ≤ 1000000 by omega) (by decide)
    refine ⟨_, rfl, rfl, _, rfl, ite2 (fun hs => ?_) (fun hs => ?_)⟩
    · have e34 : c = 34 := sg_eq.mp (of_decide_eq_true hs)
      subst e34
      rw [atomOf_34] at hst
      have hrl := run_le nq (l.drop (a + 1))
      rw [List.length_drop] at hrl
      refine ⟨_, rfl, rfl, _, rfl, _, _, rfl, rfl, _, _, _, rfl, rfl, ?_⟩
      have QUOT : tl (Str.ofString "\"") = [34] := rfl
      rcases find_run (l := l) (a := a) (by omega) with ⟨hlt, hf⟩ | ⟨hge, hf⟩
      rotate_left
      · have hfq : Txt.find3 (mk l) (Str.ofString "\"") ((a : Int) + 1) = -1 := hf
        rw [hfq]
        have e : strEnd (l.drop (a + 1)) = none := by
          unfold strEnd
          rw [if_pos]
          unfold strBad
          left
          rw [List.length_drop]; omega
        rw [e] at hst
        exact ⟨_, rfl, _, _, rfl, rfl, _, rfl, iteT (iteT (none_now hst))⟩
      have hfq : Txt.find3 (mk l) (Str.ofString "\"") ((a : Int) + 1) = ((a + 1 + run nq (l.drop (a + 1)) : Nat) : Int) := hf
      rw [hfq]
      have hneg : decide (((a + 1 + run nq (l.drop (a + 1)) : Nat) : Int) < 0) = false := decide_eq_false (by omega)
      refine ⟨_, rfl, _, _, rfl, rfl, _, rfl, ?_⟩
      rw [hneg]
      have ecut := cut_l (l := l) (i := a + 1) (j := a + 1 + run nq (l.drop (a + 1))) (by omega) (by omega)
      rw [show a + 1 + run nq (l.drop (a + 1)) - (a + 1) = run nq (l.drop (a + 1)) by omega] at ecut
      have ecut' : cutS (mk l) (some ((a : Int) + 1)) (some ((a + 1 + run nq (l.drop (a + 1)) : Nat) : Int)) = mk ((l.drop (a + 1)).take (run nq (l.drop (a + 1)))) := ecut
      refine iteF ⟨_, rfl, _, rfl, _, _, rfl, rfl, _, rfl, _, rfl, _, rfl, mk l, rfl, LS (by rw [mk_len]; exact hlen), _, rfl, ?_⟩
      rw [ecut']
      intro D hD
      have htl : ((l.drop (a + 1)).take (run nq (l.drop (a + 1)))).length ≤ 1000000 := by rw [List.length_take, List.length_drop]; omega
      refine lc_str (fun i H2 => Same H' H2 ∧ H2 D = some (.lst ((((l.drop (a + 1)).take (run nq (l.drop (a + 1)))).take i).map fun x => V.bl (okc x)))) ⟨same_new hD _, by rw [upd_same]; rfl⟩ (fun i x H2 hx z => ?_) (fun H2 z => ?_)
      · have hx' : ((l.drop (a + 1)).take (run nq (l.drop (a + 1))))[i]? = some x := by rw [← hx]; simp [mk]
        have done : ∀ bb : Bool, bb = okc x → ∃ acc, H2 D = some (.lst acc) ∧ acc.length < sizeLine ∧ (Same H' (upd H2 D (.lst (acc ++ [V.bl bb]))) ∧ upd H2 D (.lst (acc ++ [V.bl bb])) D = some (.lst ((((l.drop (a + 1)).take (run nq (l.drop (a + 1)))).take (i + 1)).map fun x => V.bl (okc x)))) := fun bb ebb => by
          refine ⟨_, z.2, ?_, Same.put z.1 hD _, ?_⟩
          · rw [List.length_map, List.length_take]
            exact Nat.lt_of_le_of_lt (show _ ≤ 1000000 by omega) (by decide)
          · rw [upd_same, ebb, List.take_add_one, hx']; simp
        refine ⟨rfl, _, rfl, _, _, rfl, rfl, _, rfl, ite2 (fun h1 => ⟨_, _, rfl, rfl, done _ ?_⟩) (fun h1 => done _ ?_)⟩
        · by_cases h2 : x ≤ 126
          · rw [show okc x = true from okc_iff.mpr ⟨sg_le.mp h1, h2⟩]
            exact sg_le.mpr h2
          · rw [show okc x = false from Bool.eq_false_iff.mpr fun z => h2 (okc_iff.mp z).2]
            exact Bool.eq_false_iff.mpr fun z => h2 (sg_le.mp z)
        · exact (Bool.eq_false_iff.mpr fun z => h1 (sg_le.mpr (okc_iff.mp z).1)).symm
      · have esz : (mk ((l.drop (a + 1)).take (run nq (l.drop (a + 1))))).cps.size = ((l.drop (a + 1)).take (run nq (l.drop (a + 1)))).length := by simp [mk]
        rw [esz, List.take_length] at z
        have eD : H2 D = some (.lst ((((l.drop (a + 1)).take (run nq (l.drop (a + 1)))).map okc).map V.bl)) := by rw [z.2, List.map_map]; rfl
        refine ⟨D, _, rfl, SqL.of eD, _, rfl, ?_⟩
        have eall : (((l.drop (a + 1)).take (run nq (l.drop (a + 1)))).map okc).all id = ((l.drop (a + 1)).take (run nq (l.drop (a + 1)))).all okc := by rw [List.all_map]; rfl
        rw [eall]
        cases hall : ((l.drop (a + 1)).take (run nq (l.drop (a + 1)))).all okc with
        | false =>
          have e : strEnd (l.drop (a + 1)) = none := by
            unfold strEnd
            rw [if_pos]
            unfold strBad
            right
            rw [hall]; decide
          rw [e] at hst
          exact iteT (qn (runs_none hr' hst) H2 (hw.s.trans z.1))
        | true =>
          have e : strEnd (l.drop (a + 1)) = some (run nq (l.drop (a + 1))) := by
            unfold strEnd
            rw [if_neg]
            unfold strBad
            rintro (w1 | w1)
            · rw [List.length_drop] at w1; omega
            · exact w1 hall
          rw [e] at hst
          have hwz := hw.same z.1
          have ex2 := z.1 _ _ ex1
          obtain ⟨_, hw2⟩ := hwz.app ex2 (.str (mk ((l.drop (a + 1)).take (run nq (l.drop (a + 1))))))
          refine iteF ⟨_, rfl, .inl ⟨rfl, _, SqL.of ex2⟩, _, rfl, _, rfl, _, _, rfl, rfl, _, rfl, _, rfl, _, rfl, mk l, rfl, LS (by rw [mk_len]; exact hlen), ?_⟩
          rw [ecut']
          have hst' : step (q1 :: up) w 34 (l.drop (a + 1)) = some ((q1 ++ [.str (mk ((l.drop (a + 1)).take (run nq (l.drop (a + 1)))))]) :: up, .more, l.drop (a + 1 + run nq (l.drop (a + 1)) + 1)) := by
            rw [hst]
            show some (_, _, (l.drop (a + 1)).drop _) = _
            rw [List.drop_drop]; rfl
          refine ⟨a1, xs1, _, rfl, rfl, ex2, hbig, _, rfl, _, _, rfl, rfl, l.length - (a + 1 + run nq (l.drop (a + 1)) + 1), by omega, a + 1 + run nq (l.drop (a + 1)) + 1, a1 :: as1, _, .more, _, _, _, _, _, rfl, by omega, hw2, wf_step wf hst', runs_some hr' hst', fun q hq' => ?_, rfl⟩
          rcases List.mem_cons.mp hq' with e | hq'
          · rw [e, List.length_append]; simp; omega
          · have := hq q (by simp [hq']); omega
    · have n34 : c ≠ 34 := fun z => hs (decide_eq_true (sg_eq.mpr z))
      rw [atomOf_ne n34, ← hdr] at hst
      refine ⟨_, rfl, _, rfl, l, a, rfl, by omega, hlen, fun k hk => ?_, fun hk => ?_⟩
      · rw [hk] at hst
        have hl := numEnd_le hk
        rw [List.length_drop] at hl
        have e := cut_l (l := l) (i := a) (j := a + k) (by omega) (by omega)
        have e2 : a + k - a = k := by omega
        rw [e2] at e
        have ei := ival_some hk
        rw [← e] at ei
        have hst' : step (q1 :: up) w c (l.drop (a + 1)) = some ((q1 ++ [.int (ival ((l.drop a).take k))]) :: up, .more, l.drop (a + k)) := by
          rw [hst, ← List.drop_drop]; rfl
        obtain ⟨_, hw2⟩ := hw.app ex1 (.int (ival ((l.drop a).take k)))
        refine ⟨_, rfl, rfl, _, rfl, iteF ?_⟩
        refine ⟨_, rfl, .inl ⟨rfl, _, SqL.of ex1⟩, _, rfl, _, rfl, _, rfl, _, rfl, _, rfl, mk l, rfl, LS (by rw [mk_len]; exact hlen), _, _, rfl, ei, ?_, a1, xs1, _, rfl, rfl, ex1, hbig, ?_⟩
        · rw [e, mk_len, List.length_take]; omega
        refine ⟨_, rfl, l.length - (a + k), by omega, a + k, a1 :: as1, _, .more, _, _, _, _, _, rfl, by omega, hw2, wf_step wf hst', runs_some hr' hst', fun q hq' => ?_, rfl⟩
        rcases List.mem_cons.mp hq' with e | hq'
        · rw [e, List.length_append]; simp; omega
        · have := hq q (by simp [hq']); omega
      · rw [hk] at hst
        exact ⟨_, rfl, rfl, _, rfl, iteT (none_now hst)⟩

end
end K93

/-! Alike; spoilt texts; edges. -/
namespace K93
open PySem PySem.Spec PyProof.Rows L2 TL

theorem len_app (a b : Str) : (a ++ b).length = a.length + b.length := by rw [len_tl, len_tl, len_tl, tl_app, List.length_append]
theorem cut_len (l : List Nat) (lo hi : Option Int) : (cutS (mk l) lo hi).length ≤ l.length := by
  have := cutS_length (mk l) lo hi
  rw [mk_len] at this
  exact this
theorem sz {n : Nat} (h : n ≤ 10000000) : n ≤ sizeLine := Nat.le_trans h (by decide)
section
variable {P : Program} {w : World} {K : PySem.W.Frag} {mg : Str → Option Value} {base : Heap} {f : Addr} {fd : FuncData}

/-! ### alike -/
def spAlike (n : Nat) : Sp := fun vs H Q _ => ∃ (u v : V) (x : Val), vs = [u, v] ∧ dep x < n ∧ At H u x ∧ At H v x ∧ ∀ H', Same H H' → Q (.bl true) H'
abbrev sLawAlike : Stmt := top 32
theorem scLawAlike : FnScope ["told", "value", "k"] ["told", "value"] (defScope sLawAlike) := ⟨rfl, rfl, rfl, by decide +kernel, rfl, by decide +kernel, by decide +kernel⟩
theorem ok_alike (T : Mo mg) (F : Fun K "_law_alike" "_law_alike" sLawAlike f fd) (d_l_is_int : Df P w K mg base CX0 1 "_law_is_int" ["thing"] spIsInt) {n : Nat} (d_l_alike : Df P w K mg base CX0 (n + 2) "_law_alike" ["told", "value"] (spAlike n)) : FnOk P w K mg base CX0 (n + 1 + 2) f fd ["told", "value"] (spAlike (n + 1)) := by
  refine F.ok scLawAlike (fun vs H Q E h => ?_) (fun cdv A outer s H vs Q E hr h => ?_)
  · obtain ⟨u, v, x, rfl, _⟩ := h
    rfl
  obtain ⟨u, v, x, rfl, hd, hu, hv, q⟩ := h
  refine ⟨_, (pss_cons (ps_if (pt_val (pe_isi "tuple" T.isinstance T.tuple (pv 1))) (pss_cons (ps_if (PW.pt (pw_or (pt_not (pt_val (pe_isi "tuple" T.isinstance T.tuple (pv 0)))) (pw_or1 (pt_cmpR op_ne (pe_callB call_len_seq (by rfl) T.len PySem.boot_len (pa_cons (pv 0) pa_nil)) (pe_callB call_len_seq (by rfl) T.len PySem.boot_len (pa_cons (pv 1) pa_nil)) (nomark _))))) (pss_one (ps_ret pe_bl)) pss_nil) (pss_one (ps_ret (pe_callB (cr_all rfl) (by rfl) T.all (by decide +kernel) (pa_cons (pe_lc (own := [("k", 2)]) (g := gName 2) (tt := tYes) rfl scLawAlike.nd (pi_range1 (by rfl) T.range (pa_cons (pe_callB call_len_seq (by rfl) T.len PySem.boot_len (pa_cons (pv 1) pa_nil)) pa_nil)) (blkOk_by (own := [("k", 2)]) (N := ["told", "value", "k"]) (sc := defScope sLawAlike) (by decide +kernel)) (fun _ _ _ _ _ => pg_name (i := 2) scLawAlike.nd rfl (Or.inl rfl)) (fun _ _ _ _ _ => pts_nil) (fun _ _ _ _ _ => (pe_d d_l_alike (hr.mono (by omega)) (pa_cons (pe_ix (r := rIxT K) ix_tup (pv 0) (pv 2) (fun _ _ => rfl)) (pa_cons (pe_ix (r := rIxT K) ix_tup (pv 1) (pv 2) (fun _ _ => rfl)) pa_nil))))) pa_nil))))) pss_nil) (pss_cons (ps_if (pt_val (pe_isi "str" T.isinstance T.str (pv 1))) (pss_one (ps_ret (pe_and (pe_isi "str" T.isinstance T.str (pv 0)) (pe_one (pe_cmpR op_eq (pv 0) (pv 1) (nomark _)))))) pss_nil) (pss_one (ps_ret (pe_and (pe_d d_l_is_int (hr.mono (by omega)) (pa_cons (pv 0) pa_nil)) (pe_one (pe_cmpR op_eq (pv 0) (pv 1) (nomark _)))))))), ?_⟩
  have tu := hu.ty (K := K)
  have tv := hv.ty (K := K)
  cases x with
  | int i =>
    have hu' := hu
    cases hu
    cases hv
    refine ⟨_, rfl, _, rfl, _, false, tv, k_int_tuple, _, rfl, iteF ⟨_, rfl, _, rfl, _, false, tv, k_int_str, _, rfl, iteF ⟨_, rfl, _, .int i, rfl, hu', ?_⟩⟩⟩
    refine ⟨_, rfl, iteT ⟨_, rfl, _, rfl, rfl, ?_⟩⟩
    rw [decide_eq_true (rfl : V.int i = V.int i)]
    exact q H (.refl _)
  | str s =>
    cases hu
    cases hv
    refine ⟨_, rfl, _, rfl, _, false, tv, k_str_tuple, _, rfl, iteF ⟨_, rfl, _, rfl, _, true, tv, k_str_str, _, rfl, iteT ⟨_, rfl, _, rfl, _, true, tu, k_str_str, _, rfl, iteT ⟨_, rfl, _, rfl, rfl, ?_⟩⟩⟩⟩
    rw [decide_eq_true (rfl : V.str s = V.str s)]
    exact q H (.refl _)
  | tup l =>
    obtain ⟨a, xs, rfl, ea, hs, hb⟩ := hu.of_tup
    obtain ⟨b, ys, rfl, eb, ht, hb2⟩ := hv.of_tup
    refine ⟨_, rfl, _, rfl, _, true, tv, k_tuple_tuple, _, rfl, iteT ⟨_, rfl, _, rfl, _, true, tu, k_tuple_tuple, _, rfl, iteF ⟨_, rfl, a, _, rfl, .inr (SqT.of ea), _, rfl, b, _, rfl, .inr (SqT.of eb), rfl, _, rfl, ?_⟩⟩⟩
    rw [show decide (V.int (xs.length : Int) = V.int (ys.length : Int)) = true from decide_eq_true (by rw [hs.1, ht.1])]
    refine iteF ⟨_, rfl, b, _, rfl, .inr (SqT.of eb), _, rfl, by omega, by omega, fun D hD => ?_⟩
    refine lc_range (lo := 0) (n := ((ys.length : Nat) : Int).toNat) (fun i H' => Same H H' ∧ H' D = some (.lst ((List.replicate i true).map V.bl))) ⟨same_new hD _, by rw [upd_same]; rfl⟩ (fun i H' hi z => ?_) (fun H' z => ?_)
    · have hi' : i < l.length := by rw [← ht.1]; omega
      obtain ⟨v1, x1, ev, ex, h1⟩ := hs.get hi'
      obtain ⟨v2, x2, ev2, ex2, h2⟩ := ht.get hi'
      rw [ex] at ex2; cases ex2
      have dm := dep_mem (List.mem_of_getElem? ex)
      rw [dep] at hd
      refine ⟨rfl, _, rfl, _, rfl, a, _, _, v1, rfl, rfl, SqT.of (z.1 _ _ ea), at_of (by omega) ev, _, rfl, _, rfl, b, _, _, v2, rfl, rfl, SqT.of (z.1 _ _ eb), at_of (by omega) ev2, v1, v2, x1, rfl, by omega, h1.mono (Same.tk z.1), h2.mono (Same.tk z.1), fun H3 b3 => ?_⟩
      refine ⟨_, b3 _ _ z.2, ?_, Same.put (z.1.trans b3) hD _, ?_⟩
      · rw [List.length_map, List.length_replicate]; exact Nat.lt_of_le_of_lt (show i ≤ 1000000 by omega) (by decide)
      · rw [upd_same, List.replicate_succ', List.map_append]; rfl
    · refine ⟨D, _, rfl, SqL.of z.2, ?_⟩
      rw [show (List.replicate ((ys.length : Nat) : Int).toNat true).all id = true from List.all_eq_true.mpr fun y hy => (List.mem_replicate.mp hy).2]
      exact q H' z.1


theorem all_alike (T : Mo mg) (F : Fun K "_law_alike" "_law_alike" sLawAlike f fd) (bb : Binds K fd ["told", "value"] []) (mf : mg "_law_alike" = some (.ref f)) (d_l_is_int : Df P w K mg base CX0 1 "_law_is_int" ["thing"] spIsInt) : ∀ n : Nat, Df P w K mg base CX0 (n + 2) "_law_alike" ["told", "value"] (spAlike n)
  | 0 => df_mk (fn_never fun vs H Q E h => by obtain ⟨_, _, _, _, hm, _⟩ := h; omega) bb F.kp mf
  | n + 1 => df_mk (ok_alike T F d_l_is_int (all_alike T F bb mf d_l_is_int n)) bb F.kp mf

/-! ### a text spoilt -/
def spSpoilt : Sp := fun vs H Q _ => ∃ (d c : Addr) (l : List Nat), vs = [.ref d, .str (mk l)] ∧ Dr H d c ∧ l.length ≤ 1000000 ∧ ∀ z H', z.length ≤ 3 * l.length + 1 → Fr d c H H' → Q (.str z) H'
abbrev sLawSpoilt : Stmt := top 37
theorem scLawSpoilt : FnScope ["d", "text", "place", "sign", "kind"] ["d", "text"] (defScope sLawSpoilt) := ⟨rfl, rfl, rfl, by decide +kernel, rfl, by decide +kernel, by decide +kernel⟩
theorem ok_spoilt (T : Mo mg) (F : Fun K "_law_spoilt" "_law_spoilt" sLawSpoilt f fd) (d_l_draw : Df P w K mg base CX0 1 "_law_draw" ["d", "many"] spDraw) (d_l_pick : Df P w K mg base CX0 2 "_law_pick" ["d", "row"] spPick) : FnOk P w K mg base CX0 3 f fd ["d", "text"] spSpoilt := by
  refine F.ok scLawSpoilt (fun vs H Q E h => ?_) (fun cdv A outer s H vs Q E hr h => ?_)
  · obtain ⟨d, c, l, rfl, _⟩ := h
    rfl
  obtain ⟨d, c, l, rfl, D, hl, q⟩ := h
  refine ⟨_, (pss_cons (ps_set (i := 2) scLawSpoilt.nd rfl (Or.inl rfl) (pe_d d_l_draw (hr.mono (by omega)) (pa_cons (pv 0) (pa_cons (pe_op op_add (pe_callB call_len_str (by rfl) T.len PySem.boot_len (pa_cons (pv 1) pa_nil)) pe_int) pa_nil)))) (pss_cons (ps_set (i := 3) scLawSpoilt.nd rfl (Or.inl rfl) (pe_d d_l_pick (hr.mono (by omega)) (pa_cons (pv 0) (pa_cons pe_str pa_nil)))) (pss_cons (ps_set (i := 4) scLawSpoilt.nd rfl (Or.inl rfl) (pe_d d_l_draw (hr.mono (by omega)) (pa_cons (pv 0) (pa_cons pe_int pa_nil)))) (pss_cons (ps_if (pt_cmpR op_eq (pv 4) pe_int (nomark _)) (pss_one (ps_ret (pe_op op_add_str (pe_op op_add_str (pe_slice sl_str (pv 1) po_none (po_some (pv 2))) (pv 3)) (pe_slice sl_str (pv 1) (po_some (pv 2)) po_none)))) pss_nil) (pss_cons (ps_if (pt_cmpR op_eq (pv 4) pe_int (nomark _)) (pss_one (ps_ret (pe_op op_add_str (pe_slice sl_str (pv 1) po_none (po_some (pv 2))) (pe_slice sl_str (pv 1) (po_some (pe_op op_add (pv 2) pe_int)) po_none)))) pss_nil) (pss_cons (ps_if (pt_cmpR op_eq (pv 4) pe_int (nomark _)) (pss_one (ps_ret (pe_op op_add_str (pe_op op_add_str (pe_slice sl_str (pv 1) po_none (po_some (pv 2))) (pe_slice sl_str (pv 1) (po_some (pv 2)) (po_some (pe_op op_add (pv 2) pe_int)))) (pe_slice sl_str (pv 1) (po_some (pv 2)) po_none)))) pss_nil) (pss_cons (ps_if (pt_cmpR op_eq (pv 4) pe_int (nomark _)) (pss_one (ps_ret (pe_op op_add_str (pe_op op_add_str (pe_slice sl_str (pv 1) po_none (po_some (pv 2))) (pv 3)) (pe_slice sl_str (pv 1) (po_some (pe_op op_add (pv 2) pe_int)) po_none)))) pss_nil) (pss_cons (ps_if (pt_cmpR op_eq (pv 4) pe_int (nomark _)) (pss_one (ps_ret (pe_op op_add_str (pe_slice sl_str (pv 1) (po_some (pv 2)) po_none) (pe_slice sl_str (pv 1) po_none (po_some (pv 2)))))) pss_nil) (pss_one (ps_ret (pe_slice sl_str (pv 1) po_none (po_some (pv 2))))))))))))), ?_⟩
  have LS : ∀ {n : Nat}, n ≤ 1000000 → n ≤ sizeLine := fun h => big _ h
  have hml : (mk l).length ≤ sizeLine := LS (by rw [mk_len]; exact hl)
  refine ⟨_, rfl, _, rfl, _, rfl, hml, _, _, rfl, rfl, d, c, (l.length : Int) + 1, (by rw [mk_len]), D, by omega, by omega, fun p H1 b1 p0 p1 => ?_⟩
  refine ⟨_, rfl, d, c, _, rfl, b1.d, .inr ⟨_, rfl, by decide +kernel, by decide +kernel, fun sg H2 hsg b2 => ?_⟩⟩
  refine ⟨_, rfl, d, c, 6, rfl, b2.d, by decide, by decide, fun kd H3 b3 k0 k1 => ?_⟩
  have fr := (b1.trans b2).trans b3
  have sl : (mk [sg]).length = 1 := mk_len [sg]
  have c1 : ∀ lo hi, (cutS (mk l) lo hi).length ≤ l.length := cut_len l
  have fin : ∀ z : Str, z.length ≤ 3 * l.length + 1 → Q (.str z) H3 := fun z hz => q z H3 hz fr
  refine ⟨_, rfl, rfl, _, rfl, ite2 (fun _ => ?_) (fun _ => ?_)⟩
  · refine ⟨_, rfl, _, rfl, _, rfl, mk l, rfl, hml, _, rfl, _, _, rfl, rfl, ?_, _, rfl, _, rfl, _, rfl, mk l, rfl, hml, _, _, rfl, rfl, ?_, fin _ ?_⟩
    · exact sz (by have := c1 none (some p); have : (⟨#[sg]⟩ : Str).length = 1 := sl; omega)
    · rw [len_app]
      exact sz (by have := c1 none (some p); have := c1 (some p) none; have : (⟨#[sg]⟩ : Str).length = 1 := sl; omega)
    · rw [len_app, len_app]
      have := c1 none (some p); have := c1 (some p) none; have : (⟨#[sg]⟩ : Str).length = 1 := sl; omega
  refine ⟨_, rfl, rfl, _, rfl, ite2 (fun _ => ?_) (fun _ => ?_)⟩
  · refine ⟨_, rfl, _, rfl, _, rfl, mk l, rfl, hml, _, rfl, _, rfl, _, _, rfl, rfl, _, rfl, mk l, rfl, hml, _, _, rfl, rfl, ?_, fin _ ?_⟩
    · exact sz (by have := c1 none (some p); have := c1 (some (p + 1)) none; omega)
    · rw [len_app]
      have := c1 none (some p); have := c1 (some (p + 1)) none; omega
  refine ⟨_, rfl, rfl, _, rfl, ite2 (fun _ => ?_) (fun _ => ?_)⟩
  · refine ⟨_, rfl, _, rfl, _, rfl, mk l, rfl, hml, _, rfl, _, rfl, _, rfl, _, rfl, _, _, rfl, rfl, _, rfl, mk l, rfl, hml, _, _, rfl, rfl, ?_, _, rfl, _, rfl, _, rfl, mk l, rfl, hml, _, _, rfl, rfl, ?_, fin _ ?_⟩
    · exact sz (by have := c1 none (some p); have := c1 (some p) (some (p + 1)); omega)
    · rw [len_app]
      exact sz (by have := c1 none (some p); have := c1 (some p) (some (p + 1)); have := c1 (some p) none; omega)
    · rw [len_app, len_app]
      have := c1 none (some p); have := c1 (some p) (some (p + 1)); have := c1 (some p) none; omega
  refine ⟨_, rfl, rfl, _, rfl, ite2 (fun _ => ?_) (fun _ => ?_)⟩
  · refine ⟨_, rfl, _, rfl, _, rfl, mk l, rfl, hml, _, rfl, _, _, rfl, rfl, ?_, _, rfl, _, rfl, _, _, rfl, rfl, _, rfl, mk l, rfl, hml, _, _, rfl, rfl, ?_, fin _ ?_⟩
    · exact sz (by have := c1 none (some p); have : (⟨#[sg]⟩ : Str).length = 1 := sl; omega)
    · rw [len_app]
      exact sz (by have := c1 none (some p); have := c1 (some (p + 1)) none; have : (⟨#[sg]⟩ : Str).length = 1 := sl; omega)
    · rw [len_app, len_app]
      have := c1 none (some p); have := c1 (some (p + 1)) none; have : (⟨#[sg]⟩ : Str).length = 1 := sl; omega
  refine ⟨_, rfl, rfl, _, rfl, ite2 (fun _ => ?_) (fun _ => ?_)⟩
  · refine ⟨_, rfl, _, rfl, _, rfl, mk l, rfl, hml, _, rfl, _, rfl, _, rfl, mk l, rfl, hml, _, _, rfl, rfl, ?_, fin _ ?_⟩
    · exact sz (by have := c1 none (some p); have := c1 (some p) none; omega)
    · rw [len_app]
      have := c1 none (some p); have := c1 (some p) none; omega
  · refine ⟨_, rfl, _, rfl, _, rfl, mk l, rfl, hml, fin _ ?_⟩
    have := c1 none (some p); omega


/-! ### the edges -/
def spEdges : Sp := fun vs H Q _ => vs = [] ∧ ∀ a xs H', Same H H' → H' a = some (.lst xs) → H a = none → xs ≠ [] → xs.length ≤ 100 → (∀ x ∈ xs, ∃ z : Str, x = .str z ∧ z.length ≤ 20) → Q (.ref a) H'
def short (L : List String) : Bool := L.all fun s => decide ((Str.ofString s).length ≤ 20)
theorem short_all {L : List String} (h : short L = true) : ∀ x ∈ L.map (fun s => V.str (Str.ofString s)), ∃ z : Str, x = .str z ∧ z.length ≤ 20 := fun x hx => by
  obtain ⟨s, hs, rfl⟩ := List.mem_map.mp hx
  exact ⟨_, rfl, of_decide_eq_true (List.all_eq_true.mp h s hs)⟩
def edg0 : List String := ["",
  " ",
  "-",
  "-0",
  "0",
  "00",
  "01",
  "-01",
  "+1",
  "--1",
  "1 ",
  " 1",
  "1 2",
  "1_0",
  "()",
  "( )",
  "(1 )"]
def edg1 : List String := ["( 1)",
  "(1  2)",
  "(1 2)",
  "(1)(2)",
  "(1(2))",
  "(1 (2))",
  "()()",
  "(()())",
  "(() ())",
  "(",
  ")"]
def edg2 : List String := ["(1",
  "1)",
  "(-)",
  "\"",
  "\"a",
  "\"\"",
  "(\"a\"1)",
  "(1\"a\")",
  "(\"a\" 1)",
  "\"a\nb\"",
  "(1\t2)"]
def edg3 : List String := ["\"a\tb\"",
  "-\"a\"",
  "(1\n2)",
  "1\n",
  "\"a\"\n",
  "x",
  "(x)",
  "True",
  "\"(\"",
  "\")\""]
def edg4 : List String := ["1.0",
  "(1,2)",
  "[1]",
  "(0 -1)",
  "-10",
  "(\"-0\" -0)"]
abbrev sLawEdges : Stmt := top 38
theorem scLawEdges : FnScope ["texts"] [] (defScope sLawEdges) := ⟨rfl, rfl, rfl, by decide +kernel, rfl, by decide +kernel, by decide +kernel⟩
theorem lst_upd {H : Hp} {p q : Addr} {o o2 : HO} (e : H p = some o) (k : H q = none) : upd H q o2 p = some o := by rw [upd_ne (ne_of_none e k)]; exact e
theorem ok_edges (T : Mo mg) (F : Fun K "_law_edges" "_law_edges" sLawEdges f fd)  : FnOk P w K mg base CX0 1 f fd [] spEdges := by
  refine F.ok scLawEdges (fun vs H Q E h => ?_) (fun cdv A outer s H vs Q E hr h => ?_)
  · obtain ⟨rfl, _⟩ := h
    rfl
  obtain ⟨rfl, q⟩ := h
  refine ⟨_, (pss_cons (ps_set (i := 0) scLawEdges.nd rfl (Or.inl rfl) (pe_lst (pa_cons pe_str (pa_cons pe_str (pa_cons pe_str (pa_cons pe_str (pa_cons pe_str (pa_cons pe_str (pa_cons pe_str (pa_cons pe_str (pa_cons pe_str (pa_cons pe_str (pa_cons pe_str (pa_cons pe_str (pa_cons pe_str (pa_cons pe_str (pa_cons pe_str (pa_cons pe_str (pa_cons pe_str pa_nil))))))))))))))))))) (pss_cons (ps_set (i := 0) scLawEdges.nd rfl (Or.inl rfl) (pe_op op_cat (pv 0) (pe_lst (pa_cons pe_str (pa_cons pe_str (pa_cons pe_str (pa_cons pe_str (pa_cons pe_str (pa_cons pe_str (pa_cons pe_str (pa_cons pe_str (pa_cons pe_str (pa_cons pe_str (pa_cons pe_str pa_nil)))))))))))))) (pss_cons (ps_set (i := 0) scLawEdges.nd rfl (Or.inl rfl) (pe_op op_cat (pv 0) (pe_lst (pa_cons pe_str (pa_cons pe_str (pa_cons pe_str (pa_cons pe_str (pa_cons pe_str (pa_cons pe_str (pa_cons pe_str (pa_cons pe_str (pa_cons pe_str (pa_cons pe_str (pa_cons pe_str pa_nil)))))))))))))) (pss_cons (ps_set (i := 0) scLawEdges.nd rfl (Or.inl rfl) (pe_op op_cat (pv 0) (pe_lst (pa_cons pe_str (pa_cons pe_str (pa_cons pe_str (pa_cons pe_str (pa_cons pe_str (pa_cons pe_str (pa_cons pe_str (pa_cons pe_str (pa_cons pe_str (pa_cons pe_str pa_nil))))))))))))) (pss_one (ps_ret (pe_op op_cat (pv 0) (pe_lst (pa_cons pe_str (pa_cons pe_str (pa_cons pe_str (pa_cons pe_str (pa_cons pe_str (pa_cons pe_str pa_nil)))))))))))))), ?_⟩
  refine ⟨big 17 (by decide), fun p0 h0 => ?_⟩
  refine ⟨_, rfl, big 11 (by decide), fun q1 k1 => ⟨p0, q1, _, _, rfl, rfl, lst_upd upd_same k1, upd_same, big 28 (by decide), fun p1 h1 => ?_⟩⟩
  refine ⟨_, rfl, big 11 (by decide), fun q2 k2 => ⟨p1, q2, _, _, rfl, rfl, lst_upd upd_same k2, upd_same, big 39 (by decide), fun p2 h2 => ?_⟩⟩
  refine ⟨_, rfl, big 10 (by decide), fun q3 k3 => ⟨p2, q3, _, _, rfl, rfl, lst_upd upd_same k3, upd_same, big 49 (by decide), fun p3 h3 => ?_⟩⟩
  refine ⟨_, rfl, big 6 (by decide), fun q4 k4 => ⟨p3, q4, _, _, rfl, rfl, lst_upd upd_same k4, upd_same, big 55 (by decide), fun p4 h4 => ?_⟩⟩
  refine q p4 _ _ (((((((((same_new h0 _).trans (same_new k1 _)).trans (same_new h1 _)).trans (same_new k2 _)).trans (same_new h2 _)).trans (same_new k3 _)).trans (same_new h3 _)).trans (same_new k4 _)).trans (same_new h4 _)) upd_same (Same.free ((((((((same_new h0 _).trans (same_new k1 _)).trans (same_new h1 _)).trans (same_new k2 _)).trans (same_new h2 _)).trans (same_new k3 _)).trans (same_new h3 _)).trans (same_new k4 _)) h4) (by simp) (by simp only [List.length_append, List.length_cons, List.length_nil]; decide) fun x hx => ?_
  have hx : x ∈ ((((edg0.map fun s => V.str (Str.ofString s)) ++ (edg1.map fun s => V.str (Str.ofString s))) ++ (edg2.map fun s => V.str (Str.ofString s))) ++ (edg3.map fun s => V.str (Str.ofString s))) ++ (edg4.map fun s => V.str (Str.ofString s)) := hx
  simp only [List.mem_append] at hx
  rcases hx with (((hx | hx) | hx) | hx) | hx
  · exact short_all (L := edg0) (by decide +kernel) x hx
  · exact short_all (L := edg1) (by decide +kernel) x hx
  · exact short_all (L := edg2) (by decide +kernel) x hx
  · exact short_all (L := edg3) (by decide +kernel) x hx
  · exact short_all (L := edg4) (by decide +kernel) x hx

end
end K93

/-! The refusals; a text read by both readers. -/
namespace K93
open PySem PySem.Spec PyProof.Rows L2 TL

/-- how a def stands that is called in an except suite -/
structure DfQ (P : Program) (w : World) (K : PySem.W.Frag) (mg : Str → Option Value) (base : Heap) (k : Nat) (x : Str) (ps : List Str) (sp : List (Addr × Obj) → Sp) : Prop where
  ex : ∃ (f : Addr) (fd : FuncData), Qx.FnQ P w K mg base k f fd ps sp ∧ Binds K fd ps [] ∧ PySem.W.keepIn K (.ref f) = true ∧ mg x = some (.ref f)
section
variable {X : Cx} {k : Nat} {ps : List Str} {sp : List (Addr × Obj) → Sp} {sp' : List V → Hp → VK → Prop} {pl : List (Addr × Obj)} {x : Str} {p pos : Pos} {e : Expr} {es : List Expr} {t : TA}
theorem pe_dQ (D : DfQ X.prog X.w X.K X.mg X.base k x ps sp) (hsp : ∀ vs H Q, sp' vs H Q → sp pl vs H Q E0) (hr : L2H.RoomH k X.A) (hc : Qx.Hot X.A pl) (hpl : ∀ p ∈ pl, p ∈ X.pn) (ha : PA X (e :: es) t) (hg : Gl X x := by rfl) (hdb : (x == ("__debug__" : Str)) = false := by decide)
    (he : starEach (e :: es) X.env = (false, eval e X.env) :: starEach es X.env := by rfl) (hpl2 : (backTo pos (starEach es X.env)).any (·.1) = false := by rfl) : PE X (.Call (.Name x p) (e :: es) [] pos) (Qx.tCallQ sp' t) := by
  obtain ⟨f, fd, F, b, kp, m⟩ := D.ex
  exact Qx.pe_callQ F hsp hr hc hpl hg m kp b ha hdb he hpl2
end
theorem dfq_mk {P : Program} {w : World} {K : PySem.W.Frag} {mg : Str → Option Value} {base : Heap} {k : Nat} {x : Str} {ps : List Str} {sp : List (Addr × Obj) → Sp} {f : Addr} {fd : FuncData} (F : Qx.FnQ P w K mg base k f fd ps sp) (b : Binds K fd ps []) (kp : PySem.W.keepIn K (.ref f) = true) (m : mg x = some (.ref f)) :
    DfQ P w K mg base k x ps sp := ⟨f, fd, F, b, kp, m⟩
/-- isinstance(error, class) -/
def rIsP1 (a dd A : Addr) (b : Bool) : List V → Hp → VK → Prop := fun xs H Q => xs = [.ref a, .ref A] ∧ (∃ fs, H dd = some (.xd fs)) ∧ Q (.bl b) H
section
variable {X : Cx} {a D dd A : Addr} {oe : Obj} {b : Bool} {y : Str} {e : Expr} {te : TE} {p q pos : Pos}
theorem pe_isP (C : Qx.ErrC X.K D) (hp : (a, oe) ∈ X.pn) (hz : Zc (.ref D) (some dd) oe) (hf : ∃ vs, oe.data = .fields vs) (m : X.mg y = some (.ref A)) (k : PySem.W.kitOne X.K (.ref D) (.ref A) = some b) (hi : X.mg "isinstance" = none) (he : PE X e te)
    (hgi : Gl X "isinstance" := by rfl) (hg : Gl X y := by rfl) (hd : (y == ("__debug__" : Str)) = false := by decide)
    (h1 : starEach (e :: [.Name y q]) X.env = (false, eval e X.env) :: starEach [.Name y q] X.env := by rfl) (h2 : (backTo pos (starEach [.Name y q] X.env)).any (·.1) = false := by rfl) (h4 : starEach [.Name y q] X.env = (false, eval (.Name y q) X.env) :: starEach [] X.env := by rfl) :
    PE X (.Call (.Name "isinstance" p) [e, .Name y q] [] pos) (tCB (rIsP1 a dd A b) (tCons te (tCons (tC (V.ref A)) tNil))) := by
  have hc : CallR X (.builtin "isinstance") (rIsP1 a dd A b) := fun pins s σ H xs us Q I r h => by
    obtain ⟨e1, ⟨fs, e2⟩, q⟩ := h
    exact Qx.call_isP C hp hz hf pins s σ H xs us Q I r ⟨.ref A, .ref A, b, fs, e1, .own A, k, e2, q⟩
  exact pe_callB (p := p) (pos := pos) hc hgi hi (by decide +kernel) (pa_cons he (pa_cons (pe_glob (pos := q) (v := V.ref A) hg m rfl hd) pa_nil h4) h1) (by decide) (by decide) h1 h2
end
/-- the classes -/
structure Rf (K : PySem.W.Frag) (mg : Str → Option Value) (C CE : Addr) : Prop where
  err : Qx.ErrC K C
  no : ∀ y ∈ (["BadPage", "TooMany", "WrongKind", "NoLevel", "BadPaper", "BadCommand"] : List Str), ∃ A, mg y = some (.ref A) ∧ PySem.W.kitOne K (.ref C) (.ref A) = some false
  yes : PySem.W.kitOne K (.ref C) (.ref C) = some true
  m : mg "BadText" = some (.ref C)
  ce : mg "CourtError" = some (.ref CE)
  ex : PySem.W.exmOne K (.ref C) (.ref CE) = some true
  ex1 : PySem.W.exmOne K (.ref C) (.ref C) = some true
theorem flat_rep (n c : Nat) : (List.replicate n [c]).flatten = List.replicate n c := by
  induction n with
  | zero => rfl
  | succ n ih => rw [List.replicate_succ, List.flatten_cons, ih]; rfl
section
variable {P : Program} {w : World} {K : PySem.W.Frag} {mg : Str → Option Value} {base : Heap} {f : Addr} {fd : FuncData}

variable {C CE : Addr}

theorem ok_is_intQ (T : Mo mg) (F : Fun K "_law_is_int" "_law_is_int" sLawIsInt f fd) : Qx.FnQ P w K mg base 1 f fd ["thing"] (fun _ => spIsInt) := by
  refine Qx.fn_ofQ F scLawIsInt (fun pl vs H Q E h => ?_) (fun cdv A outer s H vs Q E pl hot hr h => ?_)
  · obtain ⟨v, x, rfl, _⟩ := h
    rfl
  obtain ⟨v, x, rfl, hx, q⟩ := h
  refine ⟨_, (pss_one (ps_ret (pe_and (pe_isi "int" T.isinstance T.int (pv 0)) (pe_one (pe_not (pe_isi "bool" T.isinstance T.bool (pv 0))))))), ?_⟩
  have ty := hx.ty (K := K)
  cases x with
  | int i => refine ⟨_, rfl, _, rfl, _, true, ty, k_int_int, _, rfl, iteT ⟨_, rfl, _, rfl, _, false, ty, k_int_bool, _, rfl, q⟩⟩
  | str i => refine ⟨_, rfl, _, rfl, _, false, ty, k_str_int, _, rfl, iteF q⟩
  | tup i => refine ⟨_, rfl, _, rfl, _, false, ty, k_tuple_int, _, rfl, iteF q⟩
def spRefQ (C : Addr) (pl : List (Addr × Obj)) : Sp := fun vs H Q _ => ∃ (a dd : Addr) (oe : Obj) (n k : Int), vs = [.ref a, .int n] ∧ (a, oe) ∈ pl ∧ Zc (.ref C) (some dd) oe ∧ (∃ vs, oe.data = .fields vs) ∧ H dd = some (.xd [(("at" : Str), .int k)]) ∧ 0 ≤ k ∧ k ≤ n ∧ ∀ H', Same H H' → Q (.bl true) H'
/-- the same, the error's object not named -/
def spRef (C a : Addr) (cls : Value) (d : Option Addr) : List V → Hp → VK → Prop := fun vs H Q => ∃ (dd : Addr) (n k : Int), vs = [.ref a, .int n] ∧ cls = .ref C ∧ d = some dd ∧ H dd = some (.xd [(("at" : Str), .int k)]) ∧ 0 ≤ k ∧ k ≤ n ∧ ∀ H', Same H H' → Q (.bl true) H'
theorem ref_conv {C a : Addr} {cls : Value} {d : Option Addr} {oe : Obj} {pn : List (Addr × Obj)} (hz : Zc cls d oe) (ch : Qx.Chain a oe pn) : ∀ vs H Q, spRef C a cls d vs H Q → spRefQ C ((a, oe) :: pn) vs H Q E0 := fun vs H Q h => by
  obtain ⟨dd, n, k, e, rfl, rfl, r⟩ := h
  obtain ⟨fs, ef, _⟩ := ch
  exact ⟨a, dd, oe, n, k, e, List.mem_cons_self, hz, ⟨fs, ef⟩, r⟩
abbrev sLawIsRefusal : Stmt := top 35
theorem scLawIsRefusal : FnScope ["fault", "size", "kinds"] ["fault", "size"] (defScope sLawIsRefusal) := ⟨rfl, rfl, rfl, by decide +kernel, rfl, by decide +kernel, by decide +kernel⟩
theorem ok_refusal (T : Mo mg) (F : Fun K "_law_is_refusal" "_law_is_refusal" sLawIsRefusal f fd) (R : Rf K mg C CE) (d_l_is_int : DfQ P w K mg base 1 "_law_is_int" ["thing"] (fun _ => spIsInt)) : Qx.FnQ P w K mg base 2 f fd ["fault", "size"] (spRefQ C) := by
  refine Qx.fn_ofQ F scLawIsRefusal (fun pl vs H Q E h => ?_) (fun cdv A outer s H vs Q E pl hot hr h => ?_)
  · obtain ⟨a, dd, oe, n, k, rfl, _⟩ := h
    rfl
  obtain ⟨a, dd, oe, n, k, rfl, hp, hz, hf, hd, h0, h1, q⟩ := h
  obtain ⟨ABadPage, mBadPage, kBadPage⟩ := R.no "BadPage" (by simp)
  obtain ⟨ATooMany, mTooMany, kTooMany⟩ := R.no "TooMany" (by simp)
  obtain ⟨AWrongKind, mWrongKind, kWrongKind⟩ := R.no "WrongKind" (by simp)
  obtain ⟨ANoLevel, mNoLevel, kNoLevel⟩ := R.no "NoLevel" (by simp)
  obtain ⟨ABadPaper, mBadPaper, kBadPaper⟩ := R.no "BadPaper" (by simp)
  obtain ⟨ABadCommand, mBadCommand, kBadCommand⟩ := R.no "BadCommand" (by simp)
  have mBadText := R.m
  have kBadText := R.yes
  refine ⟨_, (pss_cons (ps_set (i := 2) scLawIsRefusal.nd rfl (Or.inl rfl) (pe_lst (pa_cons (pe_isP R.err hp hz hf mBadPage kBadPage T.isinstance (pv 0)) (pa_cons (pe_isP R.err hp hz hf mTooMany kTooMany T.isinstance (pv 0)) (pa_cons (pe_isP R.err hp hz hf mWrongKind kWrongKind T.isinstance (pv 0)) pa_nil))))) (pss_cons (ps_set (i := 2) scLawIsRefusal.nd rfl (Or.inl rfl) (pe_op op_cat (pv 2) (pe_lst (pa_cons (pe_isP R.err hp hz hf mNoLevel kNoLevel T.isinstance (pv 0)) (pa_cons (pe_isP R.err hp hz hf mBadPaper kBadPaper T.isinstance (pv 0)) (pa_cons (pe_isP R.err hp hz hf mBadCommand kBadCommand T.isinstance (pv 0)) pa_nil)))))) (pss_cons (ps_if (PW.pt (pw_or (pt_not (pt_val (pe_isP R.err hp hz hf mBadText kBadText T.isinstance (pv 0)))) (pw_or1 (pt_val (pe_callB (Qx.cr_anyH hot (fun p hp => hp)) (by rfl) T.any (by decide +kernel) (pa_cons (pv 2) pa_nil)))))) (pss_one (ps_ret pe_bl)) pss_nil) (pss_one (ps_ret (pe_and (pe_dQ (sp' := fun vs H Q => spIsInt vs H Q E0) d_l_is_int (fun _ _ _ h => h) (hr.mono (by omega)) hot (fun p hp => hp) (pa_cons (Qx.pe_atP R.err hp hz hf (pv 0)) pa_nil)) (pe_one (pe_chain op_le op_le pe_int (Qx.pe_atP R.err hp hz hf (pv 0)) (pv 1))))))))), ?_⟩
  refine ⟨_, rfl, rfl, ⟨_, hd⟩, _, rfl, rfl, ⟨_, hd⟩, _, rfl, rfl, ⟨_, hd⟩, big 3 (by decide), fun p1 hp1 => ?_⟩
  have hd1 := same_new hp1 (.lst [V.bl false, .bl false, .bl false]) _ _ hd
  refine ⟨_, rfl, _, rfl, rfl, ⟨_, hd1⟩, _, rfl, rfl, ⟨_, hd1⟩, _, rfl, rfl, ⟨_, hd1⟩, big 3 (by decide), fun p2 hp2 => ⟨p1, p2, [V.bl false, .bl false, .bl false], [V.bl false, .bl false, .bl false], rfl, rfl, by rw [upd_ne (ne_of_none upd_same hp2)]; exact upd_same, upd_same, big 6 (by decide), fun p3 hp3 => ?_⟩⟩
  have s3 := ((same_new hp1 (.lst [V.bl false, .bl false, .bl false])).trans (same_new hp2 (.lst [V.bl false, .bl false, .bl false]))).trans (same_new hp3 (.lst ([V.bl false, .bl false, .bl false] ++ [V.bl false, .bl false, .bl false])))
  have hd3 := s3 _ _ hd
  refine ⟨_, rfl, rfl, ⟨_, hd3⟩, _, rfl, iteF ⟨_, rfl, p3, [false, false, false, false, false, false], rfl, SqL.of upd_same, _, rfl, iteF ?_⟩⟩
  refine ⟨_, rfl, rfl, _, .int k, hd3, rfl, .int k, .int k, rfl, .int k, _, rfl, iteT ?_⟩
  refine ⟨_, rfl, rfl, _, .int k, hd3, rfl, _, _, rfl, rfl, _, rfl, ?_⟩
  rw [decide_eq_true h0]
  refine iteT ⟨_, rfl, _, _, rfl, rfl, ?_⟩
  show Q (.bl (decide (k ≤ n))) _
  rw [decide_eq_true h1]
  exact q _ s3

/-! ### both readers agree -/
def spReads : Sp := fun vs H Q _ => ∃ (l : List Nat), vs = [.str (mk l)] ∧ l.length ≤ 1000000 ∧ ∀ H', Same H H' → Q (.bl true) H'
abbrev sLawReads : Stmt := top 36
theorem scLawReads : FnScope ["text", "due", "told", "fault"] ["text"] (defScope sLawReads) := ⟨rfl, rfl, rfl, by decide +kernel, rfl, by decide +kernel, by decide +kernel⟩
theorem ok_reads (T : Mo mg) (F : Fun K "_law_reads" "_law_reads" sLawReads f fd) (d_l_found : Df P w K mg base CX0 2 "_law_found" ["text"] spFound) (R : Rf K mg C CE) (d_read_value : Df P w K mg base (L2N.CX P w) 4 "read_value" ["text"] (spRead C)) (d_l_is_refusal : DfQ P w K mg base 2 "_law_is_refusal" ["fault", "size"] (spRefQ C)) (d_l_alike : Df P w K mg base CX0 64 "_law_alike" ["told", "value"] (spAlike 62)) : FnOk P w K mg base CX0 65 f fd ["text"] spReads := by
  refine F.ok scLawReads (fun vs H Q E h => ?_) (fun cdv A outer s H vs Q E hr h => ?_)
  · obtain ⟨l, rfl, _⟩ := h
    rfl
  obtain ⟨l, rfl, hlen, q⟩ := h
  refine ⟨_, (pss_cons (ps_set (i := 1) scLawReads.nd rfl (Or.inl rfl) (pe_d d_l_found (hr.mono (by omega)) (pa_cons (pv 0) pa_nil))) (pss_cons (Qx.ps_try_as (i := 3) rfl rfl scLawReads.nd rfl rfl ⟨rfl, by decide, .inl R.ce⟩ (fun W pn xe tk po => (pss_one (ps_set (i := 2) scLawReads.nd rfl (Or.inl rfl) (pe_dS d_read_value (hr.mono (by omega)) (fun σ => L2N.passAt tk.n σ) (pa_cons (pv 0) pa_nil))))) (fun a oe cls d pn hz ch => (pss_one (ps_ret (pe_and (pe_cmpR op_isN (pv 1) pe_non (nomark _)) (pe_one (pe_dQ d_l_is_refusal (ref_conv hz ch) (L2H.roomH_mark (hr.mono (by omega)) _) (Qx.hot_chain ch rfl) (fun p hp => hp) (pa_cons (pv 3) (pa_cons (pe_callB call_len_str (by rfl) T.len PySem.boot_len (pa_cons (pv 0) pa_nil)) pa_nil))))))))) (pss_one (ps_ret (pe_and (pe_cmpR op_notN (pv 1) pe_non (nomark _)) (pe_one (pe_d d_l_alike (hr.mono (by omega)) (pa_cons (pv 2) (pa_cons (pe_ix ix_list (pv 1) pe_int (fun _ _ => rfl)) pa_nil))))))))), ?_⟩
  obtain ⟨r, hrun⟩ := runs_total l.length [[]] .val l (Nat.le_refl _)
  have hml : (mk l).length ≤ sizeLine := big _ (by rw [mk_len]; exact hlen)
  refine ⟨_, rfl, l, r, rfl, hlen, hrun, fun x hx p v H1 s1 ep hv => ?_, fun hn H1 s1 => ?_⟩
  · refine ⟨_, rfl, l, r, rfl, hlen, hrun, fun y hy u H2 s2 hu => ?_, fun hn => (by rw [hn] at hx; cases hx)⟩
    rw [hx] at hy
    cases hy
    have hdx := runs_deep hrun wf_init x hx
    refine ⟨_, rfl, rfl, _, rfl, iteT ⟨_, rfl, _, rfl, p, _, _, v, rfl, rfl, SqL.of (s2 _ _ ep), rfl, u, v, x, rfl, by omega, hu, hv.mono (Same.tk s2), fun H3 s3 => q H3 ((s1.trans s2).trans s3)⟩⟩
  · refine ⟨_, rfl, l, r, rfl, hlen, hrun, fun y hy => (by rw [hn] at hy; cases hy), fun _ H2 dx k s2 hdx k0 k1 => ⟨R.ex, fun a ha => ?_⟩⟩
    refine ⟨_, rfl, rfl, _, rfl, iteT ⟨_, rfl, _, rfl, _, rfl, hml, dx, _, k, rfl, rfl, rfl, upd_same, k0, by rw [mk_len]; exact k1, fun H3 s3 => q H3 (((s1.trans s2).trans (same_new hdx _)).trans s3)⟩⟩


/-! ### deep texts -/
def spDeep : Sp := fun vs H Q _ => ∃ (m : Nat) (v : V) (l : List Val), vs = [.int (m : Int), v] ∧ 1 ≤ m ∧ m ≤ 62 ∧ At H v (.tup l) ∧ dep (.tup l) = 1 ∧ Vd 1 (.tup l) ∧ ∀ H', Same H H' → Q (.bl true) H'
abbrev sLawDeep : Stmt := top 39
theorem scLawDeep : FnScope ["many", "inner", "text", "told", "fault", "k"] ["many", "inner"] (defScope sLawDeep) := ⟨rfl, rfl, rfl, by decide +kernel, rfl, by decide +kernel, by decide +kernel⟩
theorem ok_deep (T : Mo mg) (F : Fun K "_law_deep" "_law_deep" sLawDeep f fd) (d_l_text_of : Df P w K mg base CX0 66 "_law_text_of" ["value"] (spWrite 64)) (R : Rf K mg C CE) (d_read_value : Df P w K mg base (L2N.CX P w) 4 "read_value" ["text"] (spRead C)) (d_l_is_refusal : DfQ P w K mg base 2 "_law_is_refusal" ["fault", "size"] (spRefQ C)) (d_l_alike : Df P w K mg base CX0 64 "_law_alike" ["told", "value"] (spAlike 62)) : FnOk P w K mg base CX0 67 f fd ["many", "inner"] spDeep := by
  refine F.ok scLawDeep (fun vs H Q E h => ?_) (fun cdv A outer s H vs Q E hr h => ?_)
  · obtain ⟨m, v, l0, rfl, _⟩ := h
    rfl
  obtain ⟨m, v, l0, rfl, m1, m2, hv, hdep, hvd, q⟩ := h
  refine ⟨_, (pss_cons (ps_set (i := 2) scLawDeep.nd rfl (Or.inl rfl) (pe_op op_add_str (pe_op op_add_str (pe_op op_mul_str pe_str (pe_op op_sub (pv 0) pe_int)) (pe_d d_l_text_of (hr.mono (by omega)) (pa_cons (pv 1) pa_nil))) (pe_op op_mul_str pe_str (pe_op op_sub (pv 0) pe_int)))) (pss_cons (Qx.ps_try_as (i := 4) rfl rfl scLawDeep.nd rfl rfl ⟨rfl, by decide, .inl R.ce⟩ (fun W pn xe tk po => (pss_one (ps_set (i := 3) scLawDeep.nd rfl (Or.inl rfl) (pe_dS d_read_value (hr.mono (by omega)) (fun σ => L2N.passAt tk.n σ) (pa_cons (pv 2) pa_nil))))) (fun a oe cls d pn hz ch => (pss_one (ps_ret (pe_and (pe_cmpR op_gt (pv 0) pe_int (nomark _)) (pe_one (pe_dQ d_l_is_refusal (ref_conv hz ch) (L2H.roomH_mark (hr.mono (by omega)) _) (Qx.hot_chain ch rfl) (fun p hp => hp) (pa_cons (pv 4) (pa_cons (pe_callB call_len_str (by rfl) T.len PySem.boot_len (pa_cons (pv 2) pa_nil)) pa_nil))))))))) (pss_cons (ps_if (pt_cmpR op_gt (pv 0) pe_int (nomark _)) (pss_one (ps_ret pe_bl)) pss_nil) (pss_cons (ps_for PassesOwn.never rfl (pi_range1 (by rfl) T.range (pa_cons (pe_op op_sub (pv 0) pe_int) pa_nil)) (pg_name (i := 5) scLawDeep.nd rfl (Or.inl rfl)) (pss_cons (ps_if (PW.pt (pw_or (pt_not (pt_val (pe_isi "tuple" T.isinstance T.tuple (pv 3)))) (pw_or1 (pt_cmpR op_ne (pe_callB call_len_seq (by rfl) T.len PySem.boot_len (pa_cons (pv 3) pa_nil)) pe_int (nomark _))))) (pss_one (ps_ret pe_bl)) pss_nil) (pss_one (ps_set (i := 3) scLawDeep.nd rfl (Or.inl rfl) (pe_ix ix_tup (pv 3) pe_int (fun _ _ => rfl)))))) (pss_one (ps_ret (pe_d d_l_alike (hr.mono (by omega)) (pa_cons (pv 3) (pa_cons (pv 1) pa_nil))))))))), ?_⟩
  have em : (V.int ((m : Int) - 1)) = V.int ((m - 1 : Nat) : Int) := by congr 1; omega
  have hb1 : (txt (.tup l0)).length ≤ 1210 := hvd.t
  have eA : mk (List.replicate (m - 1) (tl (Str.ofString "("))).flatten = mk (List.replicate (m - 1) 40) := by
    rw [show tl (Str.ofString "(") = [40] from rfl, flat_rep]
  have eB : mk (List.replicate (m - 1) (tl (Str.ofString ")"))).flatten = mk (List.replicate (m - 1) 41) := by
    rw [show tl (Str.ofString ")") = [41] from rfl, flat_rep]
  refine ⟨_, rfl, _, _, rfl, rfl, _, m - 1, rfl, em, by decide, by omega, _, rfl, v, .tup l0, rfl, by omega, hvd.g, by omega, hv, fun H1 s1 => ?_⟩
  rw [eA]
  refine ⟨_, _, rfl, rfl, ?_, _, rfl, _, _, rfl, rfl, _, m - 1, rfl, em, by decide, by omega, ?_⟩
  · rw [mk_len, mk_len, List.length_replicate]; exact big _ (by omega)
  rw [eB]
  refine ⟨_, _, rfl, rfl, ?_, ?_⟩
  · rw [len_app, mk_len, mk_len, mk_len, List.length_replicate, List.length_replicate]; exact big _ (by omega)
  have et : mk (List.replicate (m - 1) 40) ++ mk (txt (.tup l0)) ++ mk (List.replicate (m - 1) 41) = mk (txt (wrap (m - 1) (.tup l0))) := by
    rw [app_mk, tl_app, txt_wrap]
    simp only [tl_mk']
    rw [List.append_assoc]
  rw [et]
  have hlen : (txt (wrap (m - 1) (.tup l0))).length ≤ 1000000 := by
    rw [txt_wrap, List.length_append, List.length_append, List.length_replicate, List.length_replicate]; omega
  have hml : (mk (txt (wrap (m - 1) (.tup l0)))).length ≤ sizeLine := big _ (by rw [mk_len]; exact hlen)
  by_cases h60 : m ≤ 60
  · have hrun := runs_back (good_wrap hvd.g (m - 1)) (by rw [dep_wrap, hdep]; omega)
    refine ⟨_, rfl, _, some (wrap (m - 1) (.tup l0)), rfl, hlen, hrun, fun y hy u H2 s2 hu => ?_, fun hn => (by cases hn)⟩
    cases hy
    refine ⟨_, rfl, _, _, rfl, rfl, _, rfl, ?_⟩
    rw [show decide ((m : Int) > 60) = false from decide_eq_false (by omega)]
    refine iteF ⟨_, rfl, _, _, rfl, rfl, (m : Int) - 1, rfl, by omega, by omega, ?_⟩
    refine for_range (lo := 0) (n := ((m : Int) - 1).toNat) (fun i σ H' => H' = H2 ∧ ∃ (u : V) (w4 w5 : Option V), σ = [some (.int (m : Int)), some v, some (.str (mk (txt (wrap (m - 1) (.tup l0))))), some u, w4, w5] ∧ At H2 u (wrap (m - 1 - i) (.tup l0))) ⟨rfl, u, _, _, rfl, hu⟩ ?_ ?_
    · rintro i σ H' hi ⟨rfl, u, w4, w5, rfl, hu⟩
      have ew : wrap (m - 1 - i) (.tup l0) = .tup [wrap (m - 1 - (i + 1)) (.tup l0)] := by
        rw [show m - 1 - i = (m - 1 - (i + 1)) + 1 by omega]; rfl
      rw [ew] at hu
      have ty := hu.ty (K := K)
      obtain ⟨b, xs, rfl, eb, hxs, _⟩ := hu.of_tup
      obtain ⟨u1, y1, e1, e2, h1⟩ := hxs.get (i := 0) (by simp)
      have e2' : wrap (m - 1 - (i + 1)) (.tup l0) = y1 := by simpa using e2
      refine ⟨_, rfl, _, rfl, _, true, ty, k_tuple_tuple, _, rfl, iteF ⟨_, rfl, b, _, rfl, .inr (SqT.of eb), rfl, _, rfl, ?_⟩⟩
      rw [show decide (V.int (xs.length : Int) = V.int 1) = true from decide_eq_true (by rw [hxs.1]; rfl)]
      exact iteF ⟨_, rfl, b, _, _, u1, rfl, rfl, SqT.of eb, at_of rfl e1, rfl, u1, _, _, rfl, by rw [e2']; exact h1⟩
    · rintro σ H' ⟨rfl, u, w4, w5, rfl, hu⟩
      rw [show m - 1 - ((m : Int) - 1).toNat = 0 by omega] at hu
      have hu' : At H' u (.tup l0) := hu
      exact ⟨_, rfl, _, rfl, u, v, .tup l0, rfl, by omega, hu', hv.mono (Same.tk (s1.trans s2)), fun H3 s3 => q H3 ((s1.trans s2).trans s3)⟩
  · have hrun : Runs [[]] .val (txt (wrap (m - 1) (.tup l0))) none := by
      have e : txt (wrap (m - 1) (.tup l0)) = List.replicate m 40 ++ ((joinL [32] (txts l0) ++ [41]) ++ List.replicate (m - 1) 41) := by
        rw [txt_wrap, show List.replicate m 40 = List.replicate (m - 1) 40 ++ [40] by rw [← List.replicate_succ']; congr 1; omega, txt]
        simp
      rw [e]
      exact runs_deep61 m [[]] .val _ (by simp) (by decide) (by simp; omega) (by simp)
    refine ⟨_, rfl, _, none, rfl, hlen, hrun, fun y hy => (by cases hy), fun _ H2 dx k s2 hdx k0 k1 => ⟨R.ex, fun a ha => ?_⟩⟩
    refine ⟨_, rfl, _, _, rfl, rfl, _, rfl, ?_⟩
    rw [show decide ((m : Int) > 60) = true from decide_eq_true (by omega)]
    exact iteT ⟨_, rfl, _, rfl, _, rfl, hml, dx, _, k, rfl, rfl, rfl, upd_same, k0, by rw [mk_len]; exact k1, fun H3 s3 => q H3 (((s1.trans s2).trans (same_new hdx _)).trans s3)⟩

end
end K93

/-! The plain law of dossiers. -/
namespace K93
open PySem TL

/-! ### lines -/
abbrev lns (l : List Nat) : List (List Nat) := spl [10] 0 [] l
theorem lns_cut : ∀ (n : Nat) (l : List Nat), l.length ≤ n → (10 ∉ l) ∨ ∃ p r, l = p ++ 10 :: r ∧ 10 ∉ p
  | n, [], _ => .inl (by simp)
  | 0, c :: r, h => by simp at h
  | n + 1, c :: r, h => by
    by_cases hc : c = 10
    · exact .inr ⟨[], r, by rw [hc]; rfl, by simp⟩
    · rcases lns_cut n r (by simp at h; omega) with q | ⟨p, s, e, q⟩
      · refine .inl fun z => ?_
        rcases List.mem_cons.mp z with z | z
        · exact hc z.symm
        · exact q z
      · refine .inr ⟨c :: p, s, by rw [e]; rfl, fun z => ?_⟩
        rcases List.mem_cons.mp z with z | z
        · exact hc z.symm
        · exact q z
theorem lns_one {l : List Nat} (h : 10 ∉ l) : lns l = [l] := by
  show spl [10] 0 [] l = _
  rw [spl_last1 h, List.nil_append]
theorem lns_part {p r : List Nat} (h : 10 ∉ p) : lns (p ++ 10 :: r) = p :: lns r := by
  have := spl_part1 (s := 10) (S := []) (p := p) (rest := r) (acc := []) h
  rw [List.nil_append] at this
  exact this
theorem joinL_cons {S : List Nat} {x : List Nat} {r : List (List Nat)} (h : r ≠ []) : joinL S (x :: r) = x ++ (S ++ joinL S r) := by
  cases r with
  | nil => exact absurd rfl h
  | cons y r => rfl
theorem lns_all : ∀ (n : Nat) (l : List Nat), l.length ≤ n → lns l ≠ [] ∧ joinL [10] (lns l) = l ∧ ∀ p ∈ lns l, 10 ∉ p := by
  intro n
  induction n with
  | zero =>
    intro l h
    have e : l = [] := List.length_eq_zero_iff.mp (by omega)
    subst e
    rw [lns_one (by simp)]
    exact ⟨by simp, rfl, fun p hp => by rw [List.mem_singleton.mp hp]; simp⟩
  | succ n ih =>
    intro l h
    rcases lns_cut l.length l (Nat.le_refl _) with q | ⟨p, r, e, q⟩
    · rw [lns_one q]
      exact ⟨by simp, rfl, fun p hp => by rw [List.mem_singleton.mp hp]; exact q⟩
    · subst e
      have hl : r.length ≤ n := by
        rw [List.length_append, List.length_cons] at h; omega
      obtain ⟨h1, h2, h3⟩ := ih r hl
      rw [lns_part q]
      refine ⟨by simp, ?_, fun p' hp => ?_⟩
      · rw [joinL_cons h1, h2]; rfl
      · rcases List.mem_cons.mp hp with e | hp
        · rw [e]; exact q
        · exact h3 p' hp
theorem lns_ne (l : List Nat) : lns l ≠ [] := (lns_all _ l (Nat.le_refl _)).1
theorem lns_join (l : List Nat) : joinL [10] (lns l) = l := (lns_all _ l (Nat.le_refl _)).2.1
theorem lns_no (l : List Nat) : ∀ p ∈ lns l, 10 ∉ p := (lns_all _ l (Nat.le_refl _)).2.2
theorem join_lns {R : List (List Nat)} (h : R ≠ []) (h2 : ∀ p ∈ R, 10 ∉ p) : lns (joinL [10] R) = R := spl_join h h2
theorem joinL_app {S : List Nat} : ∀ {xs ys : List (List Nat)}, xs ≠ [] → ys ≠ [] → joinL S (xs ++ ys) = joinL S xs ++ (S ++ joinL S ys)
  | [x], ys, _, h => joinL_cons h
  | x :: y :: r, ys, _, h => by
    show joinL S (x :: ((y :: r) ++ ys)) = _
    rw [joinL_cons (by simp), joinL_app (xs := y :: r) (by simp) h, joinL_cons (r := y :: r) (by simp)]
    simp
theorem lns_app (a b : List Nat) : lns (a ++ 10 :: b) = lns a ++ lns b := by
  have e : a ++ 10 :: b = joinL [10] (lns a ++ lns b) := by
    rw [joinL_app (lns_ne a) (lns_ne b), lns_join, lns_join]; rfl
  rw [e]
  refine join_lns (by simp [lns_ne]) fun p hp => ?_
  rcases List.mem_append.mp hp with hp | hp
  · exact lns_no a p hp
  · exact lns_no b p hp
theorem lns_end {R : List (List Nat)} (h : R ≠ []) (h2 : ∀ p ∈ R, 10 ∉ p) : lns (joinL [10] R ++ [10]) = R ++ [[]] := by
  rw [show joinL [10] R ++ [10] = joinL [10] R ++ 10 :: [] from rfl, lns_app, join_lns h h2, lns_one (by simp)]

/-! ### places -/
def plc : Nat → List (List Nat) → List Nat
  | _, [] => []
  | a, r :: R => a :: plc (a + r.length + 1) R
theorem plc_len : ∀ (a : Nat) (R : List (List Nat)), (plc a R).length = R.length
  | _, [] => rfl
  | a, r :: R => by rw [plc, List.length_cons, List.length_cons, plc_len]
theorem plc_get : ∀ (a : Nat) (R : List (List Nat)) (i : Nat) (r : List Nat), R[i]? = some r → ∃ k, (plc a R)[i]? = some k ∧ k + r.length ≤ a + (joinL [10] R).length
  | _, [], i, r, h => by simp at h
  | a, q :: R, 0, r, h => by
    have e : q = r := by simpa using h
    subst e
    refine ⟨a, rfl, ?_⟩
    cases R with
    | nil => exact Nat.le_refl _
    | cons y R =>
      rw [joinL_cons (by simp), List.length_append]; omega
  | a, q :: R, i + 1, r, h => by
    have h' : R[i]? = some r := by simpa using h
    obtain ⟨k, e, hk⟩ := plc_get (a + q.length + 1) R i r h'
    refine ⟨k, by simpa [plc] using e, ?_⟩
    have hne : R ≠ [] := fun z => by rw [z] at h'; simp at h'
    rw [joinL_cons hne, List.length_append, List.length_append]
    simp only [List.length_cons, List.length_nil]
    omega
theorem plc_snoc : ∀ (a : Nat) (R : List (List Nat)) (r : List Nat), plc a (R ++ [r]) = plc a R ++ [a + (R.map fun x => x.length + 1).sum]
  | a, [], r => by simp [plc]
  | a, q :: R, r => by
    show a :: plc (a + q.length + 1) (R ++ [r]) = _
    rw [plc_snoc, plc, List.map_cons, List.sum_cons, List.cons_append]
    congr 2
    simp; omega

/-! ### the parts of a dossier -/
def dosL : List Nat := tl (Str.ofString "dossier ")
def bar (r : List Nat) : List Nat := [124, 32] ++ r
def eqr (r : List Nat) : List Nat := [61, 32] ++ r
abbrev Grp := List (List Nat)
def gstep (s : Option (List Grp × Grp)) (row : List Nat) : Option (List Grp × Grp) :=
  match s with
  | none => none
  | some (done, cur) => if row.take 2 = [124, 32] then some (done, cur ++ [row.drop 2]) else if row = [43] ∧ cur ≠ [] then some (done ++ [cur], []) else none
def groups (s : Option (List Grp × Grp)) (M : List (List Nat)) : Option (List Grp × Grp) := M.foldl gstep s
def dparse (R : List (List Nat)) : Option (List Nat × List Grp × List Nat) :=
  if (R.headD []).take 8 = dosL ∧ 4 ≤ R.length ∧ R.getD (R.length - 1) [] = [] ∧ (R.getD (R.length - 2) []).take 2 = [61, 32] then
    (match groups (some ([], [])) ((R.drop 1).take (R.length - 3)) with
      | some (done, cur) => if cur = [] then none else some ((R.headD []).drop 8, done ++ [cur], (R.getD (R.length - 2) []).drop 2)
      | none => none)
  else none
def mid : List Grp → List (List Nat)
  | [] => []
  | [g] => g.map bar
  | g :: h :: r => g.map bar ++ [43] :: mid (h :: r)
theorem mid_snoc : ∀ (gs : List Grp) (g : Grp), mid (gs ++ [g]) = if gs = [] then g.map bar else mid gs ++ [43] :: g.map bar
  | [], g => rfl
  | [x], g => rfl
  | x :: y :: r, g => by
    show x.map bar ++ [43] :: mid ((y :: r) ++ [g]) = _
    rw [mid_snoc (y :: r) g, if_neg (by simp), if_neg (by simp)]
    show _ = (x.map bar ++ [43] :: mid (y :: r)) ++ [43] :: g.map bar
    simp
def drows (p : List Nat) (gs : List Grp) (pt : List Nat) : List (List Nat) := (dosL ++ p) :: (mid gs ++ [eqr pt])
theorem gstep_none : ∀ M : List (List Nat), groups none M = none
  | [] => rfl
  | _ :: r => gstep_none r
theorem gstep_bar (done : List Grp) (cur : Grp) (r : List Nat) : gstep (some (done, cur)) (bar r) = some (done, cur ++ [r]) := by
  show (if (bar r).take 2 = [124, 32] then some (done, cur ++ [(bar r).drop 2]) else if bar r = [43] ∧ cur ≠ [] then some (done ++ [cur], []) else none) = _
  rw [if_pos (show (bar r).take 2 = [124, 32] from rfl)]; rfl
theorem groups_bars : ∀ (g : Grp) (done : List Grp) (cur : Grp), groups (some (done, cur)) (g.map bar) = some (done, cur ++ g)
  | [], done, cur => by rw [List.append_nil]; rfl
  | r :: g, done, cur => by
    show groups (gstep (some (done, cur)) (bar r)) (g.map bar) = _
    rw [gstep_bar, groups_bars g done (cur ++ [r])]; simp
theorem groups_app (s : Option (List Grp × Grp)) (M N : List (List Nat)) : groups s (M ++ N) = groups (groups s M) N := List.foldl_append
theorem groups_mid : ∀ (gs : List Grp) (g : Grp) (done : List Grp), (∀ x ∈ gs, x ≠ []) → groups (some (done, [])) (mid (gs ++ [g])) = some (done ++ gs, g)
  | [], g, done, h => by
    show groups (some (done, [])) (g.map bar) = _
    rw [groups_bars]; simp
  | x :: r, g, done, h => by
    have e : mid (x :: r ++ [g]) = x.map bar ++ [43] :: mid (r ++ [g]) := by
      cases r with
      | nil => rfl
      | cons y r => rfl
    rw [e, groups_app, groups_bars, List.nil_append]
    show groups (gstep (some (done, x)) [43]) (mid (r ++ [g])) = _
    have e2 : gstep (some (done, x)) [43] = some (done ++ [x], []) := by
      show (if ([43] : List Nat).take 2 = [124, 32] then some (done, x ++ [([43] : List Nat).drop 2]) else if ([43] : List Nat) = [43] ∧ x ≠ [] then some (done ++ [x], []) else none) = _
      rw [if_neg (by decide), if_pos ⟨rfl, h x (List.mem_cons_self ..)⟩]
    rw [e2, groups_mid r g (done ++ [x]) fun y hy => h y (List.mem_cons_of_mem _ hy)]
    simp
def badRow (b : List Nat) : Prop := b.take 2 ≠ [124, 32] ∧ b ≠ [43]
theorem groups_bad {b : List Nat} (h : badRow b) (s : Option (List Grp × Grp)) (M N : List (List Nat)) : groups s (M ++ b :: N) = none := by
  rw [groups_app]
  show groups (gstep (groups s M) b) N = none
  have e : gstep (groups s M) b = none := by
    cases q : groups s M with
    | none => rfl
    | some z =>
      obtain ⟨done, cur⟩ := z
      show (if b.take 2 = [124, 32] then some (done, cur ++ [b.drop 2]) else if b = [43] ∧ cur ≠ [] then some (done ++ [cur], []) else none) = none
      rw [if_neg h.1, if_neg fun z => h.2 z.1]
  rw [e, gstep_none]
theorem getD_1 (A : List (List Nat)) (y : List Nat) : (A ++ [y]).getD ((A ++ [y]).length - 1) [] = y := by
  rw [List.length_append]; simp
theorem getD_2 (A : List (List Nat)) (x y : List Nat) : (A ++ [x, y]).getD ((A ++ [x, y]).length - 2) [] = x := by
  rw [List.length_append]; simp
theorem dp_head {R : List (List Nat)} (h : (R.headD []).take 8 ≠ dosL) : dparse R = none := by
  unfold dparse; rw [if_neg fun z => h z.1]
theorem dp_last {A : List (List Nat)} {y : List Nat} (h : y ≠ []) : dparse (A ++ [y]) = none := by
  unfold dparse; rw [if_neg fun z => h (by have := z.2.2.1; rw [getD_1] at this; exact this)]
theorem dp_eq {A : List (List Nat)} {x y : List Nat} (h : x.take 2 ≠ [61, 32]) : dparse (A ++ [x, y]) = none := by
  unfold dparse; rw [if_neg fun z => h (by have := z.2.2.2; rw [getD_2] at this; exact this)]
theorem dp_mid {h b : List Nat} {M N : List (List Nat)} (hb : badRow b) (hN : 2 ≤ N.length) : dparse (h :: (M ++ b :: N)) = none := by
  have e : (((h :: (M ++ b :: N)).drop 1).take ((h :: (M ++ b :: N)).length - 3)) = M ++ b :: N.take (N.length - 2) := by
    show (M ++ b :: N).take _ = _
    rw [List.take_append, List.take_of_length_le (by simp; omega)]
    congr 1
    obtain ⟨k, hk⟩ : ∃ k, (h :: (M ++ b :: N)).length - 3 - M.length = k + 1 := ⟨N.length - 2, by simp; omega⟩
    rw [hk, List.take_succ_cons]
    congr 2
    simp at hk; omega
  unfold dparse
  rw [e, groups_bad hb]
  split <;> rfl
theorem dp_ok {p : List Nat} {gs : List Grp} {pt : List Nat} (hne : gs ≠ []) (hg : ∀ g ∈ gs, g ≠ []) : dparse (drows p gs pt ++ [[]]) = some (p, gs, pt) := by
  obtain ⟨g0, g, rfl⟩ : ∃ g0 g, gs = g0 ++ [g] := ⟨gs.dropLast, gs.getLast hne, (List.dropLast_concat_getLast hne).symm⟩
  have hgn : g ≠ [] := hg g (by simp)
  have hml : 0 < (mid (g0 ++ [g])).length := by
    rw [mid_snoc]
    split
    · rw [List.length_map]; exact List.length_pos_iff.mpr hgn
    · simp; omega
  have eR : drows p (g0 ++ [g]) pt ++ [[]] = ((dosL ++ p) :: mid (g0 ++ [g])) ++ [eqr pt, []] := by unfold drows; simp
  rw [eR]
  have e1 : (((dosL ++ p) :: mid (g0 ++ [g])) ++ [eqr pt, []]).getD ((((dosL ++ p) :: mid (g0 ++ [g])) ++ [eqr pt, []]).length - 2) [] = eqr pt := getD_2 _ _ _
  have e2 : (((dosL ++ p) :: mid (g0 ++ [g])) ++ [eqr pt, []]).getD ((((dosL ++ p) :: mid (g0 ++ [g])) ++ [eqr pt, []]).length - 1) [] = [] := by
    have := getD_1 (((dosL ++ p) :: mid (g0 ++ [g])) ++ [eqr pt]) []
    simpa using this
  have e3 : ((((dosL ++ p) :: mid (g0 ++ [g])) ++ [eqr pt, []]).drop 1).take ((((dosL ++ p) :: mid (g0 ++ [g])) ++ [eqr pt, []]).length - 3) = mid (g0 ++ [g]) := by
    show (mid (g0 ++ [g]) ++ [eqr pt, []]).take _ = _
    rw [show (((dosL ++ p) :: mid (g0 ++ [g])) ++ [eqr pt, []]).length - 3 = (mid (g0 ++ [g])).length by simp]
    exact List.take_left' rfl
  have e4 : (((dosL ++ p) :: mid (g0 ++ [g])) ++ [eqr pt, []]).headD [] = dosL ++ p := rfl
  unfold dparse
  rw [e1, e2, e3, e4, groups_mid g0 g [] fun x hx => hg x (by simp [hx])]
  have t8 : (dosL ++ p).take 8 = dosL := List.take_left' rfl
  have d8 : (dosL ++ p).drop 8 = p := List.drop_left' rfl
  rw [t8, d8, if_pos ⟨rfl, by simp; omega, rfl, rfl⟩]
  show (if g = [] then none else some (p, [] ++ g0 ++ [g], (eqr pt).drop 2)) = _
  rw [if_neg hgn]
  rfl

/-! ### a text refused -/
def Ref (l : List Nat) : Prop := ∀ p gs pt, dparse (lns l) = some (p, gs, pt) → Runs [[]] .val pt none
theorem ref_none {l : List Nat} (h : dparse (lns l) = none) : Ref l := fun p gs pt e => by rw [h] at e; cases e
def dtext (p : List Nat) (gs : List Grp) (pt : List Nat) : List Nat := joinL [10] (drows p gs pt) ++ [10]
/-- the groups -/
structure Gs (gs : List Grp) : Prop where
  ne : gs ≠ []
  full : ∀ g ∈ gs, g ≠ []
  no : ∀ g ∈ gs, ∀ r ∈ g, 10 ∉ r
theorem mid_no : ∀ {gs : List Grp}, (∀ g ∈ gs, ∀ r ∈ g, 10 ∉ r) → ∀ r ∈ mid gs, 10 ∉ r
  | [], _, r, h => by cases h
  | [g], hg, r, h => by
    obtain ⟨q, hq, rfl⟩ := List.mem_map.mp h
    have := hg g (by simp) q hq
    unfold bar
    simpa using this
  | g :: x :: t, hg, r, h => by
    rcases List.mem_append.mp (show r ∈ g.map bar ++ [43] :: mid (x :: t) from h) with h | h
    · obtain ⟨q, hq, rfl⟩ := List.mem_map.mp h
      have := hg g (by simp) q hq
      unfold bar
      simpa using this
    · rcases List.mem_cons.mp h with e | h
      · rw [e]; decide
      · exact mid_no (gs := x :: t) (fun g' hg' => hg g' (List.mem_cons_of_mem _ hg')) r h
theorem mid_ne {gs : List Grp} (h : Gs gs) : mid gs ≠ [] := by
  obtain ⟨g0, g, rfl⟩ : ∃ g0 g, gs = g0 ++ [g] := ⟨gs.dropLast, gs.getLast h.ne, (List.dropLast_concat_getLast h.ne).symm⟩
  have hgn : g ≠ [] := h.full g (by simp)
  rw [mid_snoc]
  split
  · simpa using hgn
  · simp
theorem mid_first {gs : List Grp} (h : Gs gs) : ∃ r t, mid gs = bar r :: t := by
  cases gs with
  | nil => exact absurd rfl h.ne
  | cons g r =>
    have hg := h.full g (by simp)
    cases g with
    | nil => exact absurd rfl hg
    | cons q g =>
      cases r with
      | nil => exact ⟨q, g.map bar, rfl⟩
      | cons x r => exact ⟨q, _, rfl⟩
theorem mid_last {gs : List Grp} (h : Gs gs) : ∃ t r, mid gs = t ++ [bar r] := by
  obtain ⟨g0, g, rfl⟩ : ∃ g0 g, gs = g0 ++ [g] := ⟨gs.dropLast, gs.getLast h.ne, (List.dropLast_concat_getLast h.ne).symm⟩
  have hgn : g ≠ [] := h.full g (by simp)
  have eg : g.map bar = g.dropLast.map bar ++ [bar (g.getLast hgn)] := by
    conv => lhs; rw [← List.dropLast_concat_getLast hgn]
    simp
  rw [mid_snoc, eg]
  split
  · exact ⟨_, _, rfl⟩
  · exact ⟨mid g0 ++ [43] :: g.dropLast.map bar, g.getLast hgn, by simp⟩
theorem drows_no {p : List Nat} {gs : List Grp} {pt : List Nat} (hp : 10 ∉ p) (hg : Gs gs) (ht : 10 ∉ pt) : ∀ r ∈ drows p gs pt, 10 ∉ r := by
  intro r hr
  rcases List.mem_cons.mp hr with e | hr
  · rw [e]
    intro z
    rcases List.mem_append.mp z with z | z
    · revert z; decide +kernel
    · exact hp z
  · rcases List.mem_append.mp hr with hr | hr
    · exact mid_no hg.no r hr
    · rw [List.mem_singleton.mp hr]
      unfold eqr
      simpa using ht
theorem dtext_lns {p : List Nat} {gs : List Grp} {pt : List Nat} (hp : 10 ∉ p) (hg : Gs gs) (ht : 10 ∉ pt) : lns (dtext p gs pt) = drows p gs pt ++ [[]] :=
  lns_end (by simp [drows]) (drows_no hp hg ht)
theorem dtext_ok {p : List Nat} {gs : List Grp} {pt : List Nat} (hp : 10 ∉ p) (hg : Gs gs) (ht : 10 ∉ pt) : dparse (lns (dtext p gs pt)) = some (p, gs, pt) := by
  rw [dtext_lns hp hg ht]
  exact dp_ok hg.ne hg.full
/-- the paper's text runs to nothing, or holds a line's end -/
theorem dtext_ref {p : List Nat} {gs : List Grp} {pt : List Nat} (hp : 10 ∉ p) (hg : Gs gs) (h : 10 ∈ pt ∨ Runs [[]] .val pt none) : Ref (dtext p gs pt) := by
  by_cases ht : 10 ∈ pt
  · rcases lns_cut pt.length pt (Nat.le_refl _) with q | ⟨s0, s1, e, q⟩
    · exact absurd ht q
    · refine ref_none ?_
      have ea : dtext p gs pt = joinL [10] ((dosL ++ p) :: mid gs) ++ 10 :: (eqr pt ++ 10 :: []) := by
        unfold dtext drows
        rw [show (dosL ++ p) :: (mid gs ++ [eqr pt]) = ((dosL ++ p) :: mid gs) ++ [eqr pt] from rfl, joinL_app (by simp) (by simp)]
        show _ ++ ([10] ++ eqr pt) ++ [10] = _
        simp
      have e2 : lns (eqr pt) = eqr s0 :: lns s1 := by
        have e3 : eqr pt = eqr s0 ++ 10 :: s1 := by unfold eqr; rw [e]; simp
        rw [e3]
        exact lns_part (by unfold eqr; simpa using q)
      rw [ea, lns_app, lns_app, e2, lns_one (l := []) (by simp), join_lns (by simp)]
      · show dparse ((dosL ++ p) :: (mid gs ++ (eqr s0 :: lns s1 ++ [[]]))) = none
        refine dp_mid ⟨by unfold eqr; simp, by unfold eqr; simp⟩ ?_
        have := List.length_pos_iff.mpr (lns_ne s1)
        simp; omega
      · intro r hr
        rcases List.mem_cons.mp hr with e | hr
        · rw [e]
          intro z
          rcases List.mem_append.mp z with z | z
          · revert z; decide +kernel
          · exact hp z
        · exact mid_no hg.no r hr
  · intro p' gs' pt' e
    rw [dtext_ok hp hg ht] at e
    cases e
    rcases h with h | h
    · exact absurd h ht
    · exact h
/-- a value's text and something behind it -/
theorem runs_more {x : Val} (hg : Good x) (hd : dep x ≤ 60) {t : List Nat} (ht : NoDig t) (hne : t ≠ []) : Runs [[]] .val (txt x ++ t) none := by
  refine runs_txt (dep x) x (Nat.le_refl _) hg [[]] .val t none (by simp) (by decide) (by simp; omega) ht ?_
  cases t with
  | nil => exact absurd rfl hne
  | cons c cs =>
    refine .fail ?_
    unfold step
    rw [if_pos ⟨rfl, .inl rfl⟩]
theorem txt_no10 : ∀ (n : Nat) (x : Val), dep x ≤ n → Good x → 10 ∉ txt x := by
  intro n
  induction n with
  | zero =>
    intro x hd hg
    cases hg with
    | int hi =>
      rename_i i
      show 10 ∉ tl (Str.ofString (toString i))
      rw [tl_int]
      intro z
      split at z
      · have := numL_digits _ 10 z; omega
      · rcases List.mem_cons.mp z with z | z
        · omega
        · have := numL_digits _ 10 z; omega
    | str hs =>
      rename_i s
      show 10 ∉ 34 :: (tl s ++ [34])
      intro z
      rcases List.mem_cons.mp z with z | z
      · omega
      · rcases List.mem_append.mp z with z | z
        · have := okc_iff.mp (hs 10 z).1; omega
        · simp at z
    | tup _ => rw [dep] at hd; omega
  | succ n ih =>
    intro x hd hg
    cases x with
    | int i => exact ih _ (by rw [dep]; omega) hg
    | str s => exact ih _ (by rw [dep]; omega) hg
    | tup l =>
      rw [dep] at hd
      have hj : ∀ L : List (List Nat), (∀ y ∈ L, 10 ∉ y) → 10 ∉ joinL [32] L := by
        intro L
        induction L with
        | nil => intro _ z; cases z
        | cons y r ih2 =>
          intro h
          cases r with
          | nil => exact h y (by simp)
          | cons u r =>
            rw [joinL_cons (by simp)]
            intro z
            rcases List.mem_append.mp z with z | z
            · exact h y (by simp) z
            · rcases List.mem_append.mp z with z | z
              · simp at z
              · exact ih2 (fun q hq => h q (List.mem_cons_of_mem _ hq)) z
      rw [txt]
      intro z
      rcases List.mem_cons.mp z with z | z
      · omega
      · rcases List.mem_append.mp z with z | z
        · refine hj (txts l) (fun y hy => ?_) z
          rw [txts_map] at hy
          obtain ⟨v, hv, rfl⟩ := List.mem_map.mp hy
          have := dep_mem hv
          exact ih v (by omega) (hg.mem v hv)
        · simp at z
end K93

/-! Dossiers written; lines drawn; places. -/
namespace K93
open PySem PySem.Spec PyProof.Rows L2 TL

abbrev NL : Str := Str.ofString "\n"
theorem nl_len : (NL.length == 0) = false := rfl
theorem split_lns (l : List Nat) : Txt.split (mk l) NL = (lns l).map mk := by
  refine TL.map_tl_inj ?_
  rw [TL.split_spl (mk l) NL (by decide +kernel) (TL.kind_ok (by decide +kernel)), List.map_map]
  show spl [10] 0 [] l = _
  conv => lhs; rw [← List.map_id (spl [10] 0 [] l)]
  rfl
def gtext (g : Grp) : List Nat := joinL [10] g ++ [10]
abbrev vs_ (g : List (List Nat)) : List V := (g.map mk).map V.str
theorem gtext_lns {g : Grp} (h : g ≠ []) (h2 : ∀ r ∈ g, 10 ∉ r) : lns (gtext g) = g ++ [[]] := lns_end h h2
theorem cut_last (xs : List V) (v : V) : cutV (xs ++ [v]) none (some (-1)) = xs := by
  unfold cutV
  have e1 : HT.sIx (xs ++ [v]).length 0 none = 0 := rfl
  have e2 : HT.sIx (xs ++ [v]).length (xs ++ [v]).length (some (-1)) = xs.length := by
    show (if (-1 : Int) < 0 then ((-1 : Int) + ((xs ++ [v]).length : Int)).toNat else min (-1 : Int).toNat (xs ++ [v]).length) = _
    rw [if_pos (by decide), List.length_append]; simp; omega
  rw [e1, e2]
  simp
theorem cut_lo {l : List Nat} {i : Nat} : cutS (mk l) (some (i : Int)) none = mk (l.drop i) := by
  unfold cutS
  rw [HT.sIx_nat, HT.sIx_none, mk_len]
  show mk ((l.drop (min i l.length)).take (l.length - min i l.length)) = _
  by_cases h : i ≤ l.length
  · rw [Nat.min_eq_left h, List.take_of_length_le (by rw [List.length_drop]; omega)]
  · rw [Nat.min_eq_right (by omega), List.drop_eq_nil_of_le (Nat.le_refl _), List.drop_eq_nil_of_le (by omega), List.take_nil]
theorem cut_hi {l : List Nat} {i : Nat} : cutS (mk l) none (some (i : Int)) = mk (l.take i) := by
  unfold cutS
  rw [HT.sIx_nat, HT.sIx_none, mk_len]
  show mk ((l.drop 0).take (min i l.length - 0)) = _
  rw [List.drop_zero, Nat.sub_zero]
  by_cases h : i ≤ l.length
  · rw [Nat.min_eq_left h]
  · rw [Nat.min_eq_right (by omega), List.take_of_length_le (Nat.le_refl _), List.take_of_length_le (by omega)]
/-- small groups -/
structure Sm (g : Grp) : Prop where
  ne : g ≠ []
  len : g.length ≤ 20
  no : ∀ r ∈ g, 10 ∉ r
  row : ∀ r ∈ g, r.length ≤ 20
structure Sms (gs : List Grp) : Prop where
  ne : gs ≠ []
  len : gs.length ≤ 2
  g : ∀ g ∈ gs, Sm g
theorem Sms.gs {gs : List Grp} (h : Sms gs) : Gs gs := ⟨h.ne, fun g hg => (h.g g hg).ne, fun g hg => (h.g g hg).no⟩
theorem mid_len : ∀ {gs : List Grp}, (∀ g ∈ gs, g.length ≤ 20) → (mid gs).length ≤ gs.length * 21
  | [], _ => Nat.zero_le _
  | [g], h => by
    show (g.map bar).length ≤ 1 * 21
    have := h g (by simp)
    rw [List.length_map]; omega
  | g :: x :: r, h => by
    have h1 := h g (by simp)
    have h2 := mid_len (gs := x :: r) fun y hy => h y (List.mem_cons_of_mem _ hy)
    show (g.map bar ++ [43] :: mid (x :: r)).length ≤ ((x :: r).length + 1) * 21
    rw [List.length_append, List.length_map, List.length_cons, Nat.succ_mul]; omega
theorem mid_row : ∀ {gs : List Grp}, (∀ g ∈ gs, ∀ r ∈ g, r.length ≤ 20) → ∀ r ∈ mid gs, r.length ≤ 22
  | [], _, r, h => by cases h
  | [g], hg, r, h => by
    obtain ⟨q, hq, rfl⟩ := List.mem_map.mp h
    have := hg g (by simp) q hq
    unfold bar; simp; omega
  | g :: x :: t, hg, r, h => by
    rcases List.mem_append.mp (show r ∈ g.map bar ++ [43] :: mid (x :: t) from h) with h | h
    · obtain ⟨q, hq, rfl⟩ := List.mem_map.mp h
      have := hg g (by simp) q hq
      unfold bar; simp; omega
    · rcases List.mem_cons.mp h with e | h
      · rw [e]; decide
      · exact mid_row (gs := x :: t) (fun g' hg' => hg g' (List.mem_cons_of_mem _ hg')) r h
theorem dtext_len {p : List Nat} {gs : List Grp} {pt : List Nat} (hp : p.length ≤ 14) (h : Sms gs) : (dtext p gs pt).length ≤ 1100 + pt.length := by
  have h1 : joinL [10] (drows p gs pt) = joinL [10] ((dosL ++ p) :: mid gs) ++ ([10] ++ eqr pt) := by
    unfold drows
    rw [show (dosL ++ p) :: (mid gs ++ [eqr pt]) = ((dosL ++ p) :: mid gs) ++ [eqr pt] from rfl, joinL_app (by simp) (by simp)]; rfl
  have h2 := joinL_len [10] ((dosL ++ p) :: mid gs) 22 fun r hr => by
    rcases List.mem_cons.mp hr with e | hr
    · rw [e, List.length_append]
      have : dosL.length = 8 := by decide +kernel
      omega
    · exact mid_row (fun g hg => (h.g g hg).row) r hr
  have h3 := mid_len (gs := gs) fun g hg => (h.g g hg).len
  have h4 := h.len
  unfold dtext
  rw [h1]
  unfold eqr
  simp only [List.length_append, List.length_cons, List.length_nil] at h2 ⊢
  have h5 : ((mid gs).length + 1) * (22 + (0 + 1)) ≤ 43 * (22 + (0 + 1)) := Nat.mul_le_mul_right _ (by omega)
  omega
theorem app_str (a : String) (p : List Nat) : Str.ofString a ++ mk p = mk (tl (Str.ofString a) ++ p) := by rw [app_mk]
theorem map_mk_len (R : List (List Nat)) : ((R.map mk).map (·.length)).sum = (R.map List.length).sum := by
  rw [List.map_map]
  congr 1
theorem join_mk (R : List (List Nat)) : Txt.join NL (R.map mk) = mk (joinL [10] R) := by
  rw [← mk_tl' (Txt.join NL (R.map mk)), tl_jn, List.map_map]
  congr 2
  show R.map (tl ∘ mk) = R
  conv => rhs; rw [← List.map_id R]
  rfl
theorem join_sz {R : List (List Nat)} {n : Nat} (h : (joinL [10] R).length ≤ n) (hn : n ≤ 1000000) : ((R.map mk).map (·.length)).sum + (R.map mk).length * NL.length ≤ 16777216 := by
  rw [map_mk_len, List.length_map]
  have h2 := joinL_sum (S := [10]) R
  have e : NL.length = 1 := rfl
  have e2 : ([10] : List Nat).length = 1 := rfl
  rw [e]; rw [e2] at h2; omega
theorem vs_len (R : List (List Nat)) : (vs_ R).length = R.length := by simp
theorem vs_app (A B : List (List Nat)) : vs_ A ++ vs_ B = vs_ (A ++ B) := by simp
theorem vs_get {R : List (List Nat)} {i : Nat} {v : V} (h : (vs_ R)[i]? = some v) : ∃ r, R[i]? = some r ∧ v = .str (mk r) := by
  rw [List.getElem?_map, List.getElem?_map] at h
  cases e : R[i]? with
  | none => rw [e] at h; cases h
  | some r => rw [e] at h; exact ⟨r, rfl, (Option.some.inj h).symm⟩
theorem vs_at {R : List (List Nat)} {i : Nat} {r : List Nat} (h : R[i]? = some r) : (vs_ R)[i]? = some (.str (mk r)) := by
  rw [List.getElem?_map, List.getElem?_map, h]; rfl
theorem take_next {gs : List Grp} {k : Nat} {g : Grp} (h : gs[k]? = some g) : gs.take (k + 1) = gs.take k ++ [g] := by
  rw [List.take_add_one, h]; rfl
theorem mid_next {gs : List Grp} {k : Nat} {g : Grp} (h : gs[k]? = some g) : mid (gs.take (k + 1)) = (if 0 < k then mid (gs.take k) ++ [[43]] else mid (gs.take k)) ++ g.map bar := by
  have hk := (List.getElem?_eq_some_iff.mp h).1
  rw [take_next h, mid_snoc]
  cases k with
  | zero => simp [mid]
  | succ k =>
    rw [if_neg, if_pos (by omega)]
    · simp
    · intro z
      have := congrArg List.length z
      rw [List.length_take, List.length_nil] at this; omega
section
variable {P : Program} {w : World} {K : PySem.W.Frag} {mg : Str → Option Value} {base : Heap} {f : Addr} {fd : FuncData}

/-- the texts -/
def Txs (H : Hp) (a : Addr) (gs : List Grp) : Prop := H a = some (.tup (gs.map fun g => V.str (mk (gtext g))))
theorem txs_get {gs : List Grp} {k : Nat} {g : Grp} (h : gs[k]? = some g) : (gs.map fun g => V.str (mk (gtext g)))[k]? = some (.str (mk (gtext g))) := by
  rw [List.getElem?_map, h]; rfl
theorem gtext_len {g : Grp} (h : Sm g) : (gtext g).length ≤ 1000 := by
  have h2 := joinL_len [10] g 20 h.row
  have := h.len
  unfold gtext
  simp only [List.length_append, List.length_cons, List.length_nil] at h2 ⊢
  have h5 : g.length * (20 + (0 + 1)) ≤ 20 * (20 + (0 + 1)) := Nat.mul_le_mul_right _ (by omega)
  omega

def spWriteD : Sp := fun vs H Q _ => ∃ (p : List Nat) (gs : List Grp) (a : Addr) (v : V) (x : Val), vs = [.str (mk p), .ref a, v] ∧ p.length ≤ 14 ∧ Sms gs ∧ Txs H a gs ∧ At H v x ∧ dep x < 64 ∧ Good x ∧ (txt x).length ≤ 100000 ∧ ∀ H', Same H H' → Q (.str (mk (dtext p gs (txt x)))) H'
def spLawD : Sp := fun vs H Q _ => ∃ (p : List Nat) (gs : List Grp) (a : Addr) (pt : List Nat), vs = [.str (mk p), .ref a, .str (mk pt)] ∧ p.length ≤ 14 ∧ Sms gs ∧ Txs H a gs ∧ pt.length ≤ 900000 ∧ ∀ H', Same H H' → Q (.str (mk (dtext p gs pt))) H'
theorem dos_mk (p : List Nat) : V.str (Str.ofString "dossier " ++ mk p) = V.str (mk (dosL ++ p)) := by rw [app_str]; rfl
theorem eqr_mk (p : List Nat) : V.str (Str.ofString "= " ++ mk p) = V.str (mk (eqr p)) := by rw [app_str]; rfl
theorem bar_mk (p : List Nat) : V.str (Str.ofString "| " ++ mk p) = V.str (mk (bar p)) := by rw [app_str]; rfl
theorem sl (s : String) (n : Nat) (h : (Str.ofString s).length ≤ n := by decide +kernel) : (Str.ofString s).length ≤ n := h
abbrev sWriteDossier : Stmt := top 18
theorem scWriteDossier : FnScope ["part", "texts", "paper", "rows", "k", "row"] ["part", "texts", "paper"] (defScope sWriteDossier) := ⟨rfl, rfl, rfl, by decide +kernel, rfl, by decide +kernel, by decide +kernel⟩
theorem ok_write_dossier (T : Mo mg) (F : Fun K "write_dossier" "write_dossier" sWriteDossier f fd) (d_write_value : Df P w K mg base CX0 66 "write_value" ["value"] (spWrite 64)) : FnOk P w K mg base CX0 67 f fd ["part", "texts", "paper"] spWriteD := by
  refine F.ok scWriteDossier (fun vs H Q E h => ?_) (fun cdv A outer s H vs Q E hr h => ?_)
  · obtain ⟨p, gs, a, v, x, rfl, _⟩ := h
    rfl
  obtain ⟨p, gs, a, v, x, rfl, hp, hgs, ha, hv, hd, hg, hl, q⟩ := h
  refine ⟨_, (pss_cons (ps_set (i := 3) scWriteDossier.nd rfl (Or.inl rfl) (pe_lst (pa_cons (pe_op op_add_str pe_str (pv 0)) pa_nil))) (pss_cons (ps_for PassesOwn.never rfl (pi_range1 (by rfl) T.range (pa_cons (pe_callB call_len_seq (by rfl) T.len PySem.boot_len (pa_cons (pv 1) pa_nil)) pa_nil)) (pg_name (i := 4) scWriteDossier.nd rfl (Or.inl rfl)) (pss_cons (ps_if (pt_cmpR op_gt (pv 4) pe_int (nomark _)) (pss_one (ps_expr (pe_bm PySem.F.plainAttrs_list PySem.F.slot_list_append PySem.F.type_list_append mt_append (pv 3) (pa_cons pe_str pa_nil)))) pss_nil) (pss_one (ps_expr (pe_bm PySem.F.plainAttrs_list PySem.F.slot_list_extend PySem.F.type_list_extend mt_extend (pv 3) (pa_cons (pe_lc (own := [("row", 5)]) (g := gName 5) (tt := tYes) rfl scWriteDossier.nd (pi_list (pe_slice sl_list (pe_split (pe_ix ix_tup (pv 1) (pv 4) (fun _ _ => rfl)) pe_str) po_none (po_some (pe_un un_neg pe_int)))) (blkOk_by (own := [("row", 5)]) (N := ["part", "texts", "paper", "rows", "k", "row"]) (sc := defScope sWriteDossier) (by decide +kernel)) (fun _ _ _ _ _ => pg_name (i := 5) scWriteDossier.nd rfl (Or.inl rfl)) (fun _ _ _ _ _ => pts_nil) (fun _ _ _ _ _ => (pe_op op_add_str pe_str (pv 5)))) pa_nil)))))) (pss_cons (ps_expr (pe_bm PySem.F.plainAttrs_list PySem.F.slot_list_append PySem.F.type_list_append mt_append (pv 3) (pa_cons (pe_op op_add_str pe_str (pe_d d_write_value (hr.mono (by omega)) (pa_cons (pv 2) pa_nil))) pa_nil))) (pss_one (ps_ret (pe_op op_add_str (pe_join pe_str (pv 3)) pe_str)))))), ?_⟩
  have pl := mk_len p
  refine ⟨_, rfl, _, _, rfl, rfl, big _ (by rw [pl]; have := sl "dossier " 8; omega), big 1 (by decide), fun R hR => ?_⟩
  obtain ⟨H1, e1⟩ : ∃ H1, H1 = upd H R (.lst [V.str (Str.ofString "dossier " ++ mk p)]) := ⟨_, rfl⟩
  have b1 : Same H H1 := by rw [e1]; exact same_new hR _
  have eR1 : H1 R = some (.lst (vs_ ((dosL ++ p) :: mid (gs.take 0)))) := by rw [e1, upd_same, dos_mk]; rfl
  rw [← e1]
  have hgl : (gs.map fun g => V.str (mk (gtext g))).length = gs.length := List.length_map _
  have hgs2 := hgs.len
  have cap : ∀ k, (vs_ ((dosL ++ p) :: mid (gs.take k))).length ≤ 43 := fun k => by
    rw [vs_len, List.length_cons]
    have h3 := mid_len (gs := gs.take k) fun g hg => (hgs.g g (List.mem_of_mem_take hg)).len
    have h4 : (gs.take k).length ≤ 2 := by rw [List.length_take]; omega
    have : (gs.take k).length * 21 ≤ 2 * 21 := Nat.mul_le_mul_right _ h4
    omega
  refine ⟨_, rfl, a, _, rfl, .inr (SqT.of (b1 _ _ ha)), _, rfl, by omega, by omega, ?_⟩
  refine for_range (lo := 0) (n := (((gs.map fun g => V.str (mk (gtext g))).length : Nat) : Int).toNat) (fun k σ H' => ∃ v4 v5, σ = [some (.str (mk p)), some (.ref a), some v, some (.ref R), v4, v5] ∧ Same H H' ∧ H' R = some (.lst (vs_ ((dosL ++ p) :: mid (gs.take k))))) ⟨_, _, rfl, b1, eR1⟩ ?_ ?_
  · rintro k σ H' hk ⟨v4, v5, rfl, b, eR⟩
    have hk' : k < gs.length := by omega
    obtain ⟨g, hgk⟩ : ∃ g, gs[k]? = some g := ⟨_, List.getElem?_eq_getElem hk'⟩
    have hsm := hgs.g g (List.mem_of_getElem? hgk)
    have cp := cap k
    have ek : (0 : Int) + (k : Int) = (k : Int) := by omega
    have spl_g : Txt.split (mk (gtext g)) NL = (g ++ [[]]).map mk := by rw [split_lns, gtext_lns hsm.ne hsm.no]
    -- + ahead of all but the first
    have step2 : ∀ (H2 : Hp), Same H H2 → H2 R = some (.lst (vs_ ((dosL ++ p) :: (if 0 < k then mid (gs.take k) ++ [[43]] else mid (gs.take k))))) → ∀ D H3, H2 D = none → Same H2 H3 → H3 D = some (.lst (vs_ (g.map bar))) →
        H3 R = some (.lst (vs_ ((dosL ++ p) :: (if 0 < k then mid (gs.take k) ++ [[43]] else mid (gs.take k))))) ∧ vs_ ((dosL ++ p) :: (if 0 < k then mid (gs.take k) ++ [[43]] else mid (gs.take k))) ++ vs_ (g.map bar) = vs_ ((dosL ++ p) :: mid (gs.take (k + 1))) := fun H2 s2 e2 D H3 hD s3 e3 => ⟨s3 _ _ e2, by rw [vs_app, mid_next hgk]; rfl⟩
    by_cases h0 : 0 < k
    · have e0 : decide ((0 : Int) + (k : Int) > 0) = true := decide_eq_true (by omega)
      refine ⟨_, rfl, _, _, rfl, rfl, _, rfl, ?_⟩
      rw [e0]
      refine iteT ⟨_, rfl, .inl ⟨rfl, _, SqL.of eR⟩, R, _, _, rfl, rfl, eR, Nat.lt_of_le_of_lt cp (by decide), ?_⟩
      have eR2 : upd H' R (.lst (vs_ ((dosL ++ p) :: mid (gs.take k)) ++ [V.str (Str.ofString "+")])) R = some (.lst (vs_ ((dosL ++ p) :: (if 0 < k then mid (gs.take k) ++ [[43]] else mid (gs.take k))))) := by
        rw [upd_same, if_pos h0]
        have : V.str (Str.ofString "+") = V.str (mk [43]) := rfl
        rw [this]
        show some (HO.lst (vs_ ((dosL ++ p) :: mid (gs.take k)) ++ vs_ [[43]])) = _
        rw [vs_app]; rfl
      have b2 : Same H (upd H' R (.lst (vs_ ((dosL ++ p) :: mid (gs.take k)) ++ [V.str (Str.ofString "+")]))) := Same.put b hR _
      refine ⟨_, rfl, .inl ⟨rfl, _, SqL.of eR2⟩, _, rfl, _, rfl, a, _, _, _, rfl, rfl, SqT.of (b2 _ _ ha), at_of ek (txs_get hgk), ⟨_, rfl⟩, _, _, rfl, rfl, nl_len, (by rw [mk_len]; have := gtext_len hsm; exact sz (by omega)), fun S hS => ?_⟩
      have ecut : cutV ((Txt.split (mk (gtext g)) NL).map V.str) none (some (-1)) = vs_ g := by
        rw [spl_g, List.map_append, List.map_append]; exact cut_last _ _
      refine ⟨_, rfl, _, rfl, S, _, rfl, SqL.of upd_same, fun P hP => ⟨P, rfl, ⟨_, SqL.of (upd_same.trans (congrArg (fun z => some (HO.lst z)) ecut))⟩, fun D hD => ?_⟩⟩
      have sSP := (same_new hS (.lst ((Txt.split (mk (gtext g)) NL).map V.str))).trans (same_new hP (.lst (cutV ((Txt.split (mk (gtext g)) NL).map V.str) none (some (-1)))))
      have eP : (upd (upd (upd H' R (.lst (vs_ ((dosL ++ p) :: mid (gs.take k)) ++ [V.str (Str.ofString "+")]))) S (.lst ((Txt.split (mk (gtext g)) NL).map V.str))) P (.lst (cutV ((Txt.split (mk (gtext g)) NL).map V.str) none (some (-1))))) P = some (.lst (vs_ g)) := upd_same.trans (congrArg (fun z => some (HO.lst z)) ecut)
      refine lc_list (K := K) (a := P) (xs := vs_ g) (fun i H4 => Same ((upd (upd (upd H' R (.lst (vs_ ((dosL ++ p) :: mid (gs.take k)) ++ [V.str (Str.ofString "+")]))) S (.lst ((Txt.split (mk (gtext g)) NL).map V.str))) P (.lst (cutV ((Txt.split (mk (gtext g)) NL).map V.str) none (some (-1)))))) H4 ∧ H4 D = some (.lst (vs_ ((g.take i).map bar)))) ⟨same_new hD _, by rw [upd_same]; rfl⟩ (fun i H4 _ z => SqL.of (z.1 _ _ eP)) (fun i y H4 hy z => ?_) (fun H4 z => ?_)
      · obtain ⟨r, hr2, rfl⟩ := vs_get hy
        have hlr := hsm.row r (List.mem_of_getElem? hr2)
        have hli := (List.getElem?_eq_some_iff.mp hr2).1
        have hgl2 := hsm.len
        refine ⟨rfl, _, rfl, _, _, rfl, rfl, big _ (by have := mk_len r; have := sl "| " 2; omega), ?_⟩
        rw [bar_mk]
        refine ⟨_, z.2, ?_, Same.put z.1 hD _, ?_⟩
        · rw [vs_len, List.length_map, List.length_take]; exact Nat.lt_of_le_of_lt (show _ ≤ 20 by omega) (by decide)
        · rw [upd_same, List.take_add_one, hr2]
          show some (HO.lst (vs_ ((g.take i).map bar) ++ vs_ [bar r])) = _
          rw [vs_app]; simp
      · rw [vs_len, List.take_length] at z
        obtain ⟨eR3, erow⟩ := step2 _ b2 eR2 D H4 (Same.free sSP hD) ((sSP.trans z.1)) z.2
        have cp1 := cap (k + 1)
        refine ⟨R, D, _, _, rfl, rfl, eR3, z.2, ?_, ?_⟩
        · have := congrArg List.length erow
          rw [List.length_append] at this
          exact big _ (by omega)
        rw [erow]
        exact ⟨_, _, rfl, Same.put (b2.trans (sSP.trans z.1)) hR _, upd_same⟩
    · have e0 : decide ((0 : Int) + (k : Int) > 0) = false := decide_eq_false (by omega)
      refine ⟨_, rfl, _, _, rfl, rfl, _, rfl, ?_⟩
      rw [e0]
      refine iteF ?_
      have eR2 : H' R = some (.lst (vs_ ((dosL ++ p) :: (if 0 < k then mid (gs.take k) ++ [[43]] else mid (gs.take k))))) := by
        rw [if_neg h0]; exact eR
      have b2 := b
      refine ⟨_, rfl, .inl ⟨rfl, _, SqL.of eR2⟩, _, rfl, _, rfl, a, _, _, _, rfl, rfl, SqT.of (b2 _ _ ha), at_of ek (txs_get hgk), ⟨_, rfl⟩, _, _, rfl, rfl, nl_len, (by rw [mk_len]; have := gtext_len hsm; exact sz (by omega)), fun S hS => ?_⟩
      have ecut : cutV ((Txt.split (mk (gtext g)) NL).map V.str) none (some (-1)) = vs_ g := by
        rw [spl_g, List.map_append, List.map_append]; exact cut_last _ _
      refine ⟨_, rfl, _, rfl, S, _, rfl, SqL.of upd_same, fun P hP => ⟨P, rfl, ⟨_, SqL.of (upd_same.trans (congrArg (fun z => some (HO.lst z)) ecut))⟩, fun D hD => ?_⟩⟩
      have sSP := (same_new hS (.lst ((Txt.split (mk (gtext g)) NL).map V.str))).trans (same_new hP (.lst (cutV ((Txt.split (mk (gtext g)) NL).map V.str) none (some (-1)))))
      have eP : (upd (upd H' S (.lst ((Txt.split (mk (gtext g)) NL).map V.str))) P (.lst (cutV ((Txt.split (mk (gtext g)) NL).map V.str) none (some (-1))))) P = some (.lst (vs_ g)) := upd_same.trans (congrArg (fun z => some (HO.lst z)) ecut)
      refine lc_list (K := K) (a := P) (xs := vs_ g) (fun i H4 => Same ((upd (upd H' S (.lst ((Txt.split (mk (gtext g)) NL).map V.str))) P (.lst (cutV ((Txt.split (mk (gtext g)) NL).map V.str) none (some (-1)))))) H4 ∧ H4 D = some (.lst (vs_ ((g.take i).map bar)))) ⟨same_new hD _, by rw [upd_same]; rfl⟩ (fun i H4 _ z => SqL.of (z.1 _ _ eP)) (fun i y H4 hy z => ?_) (fun H4 z => ?_)
      · obtain ⟨r, hr2, rfl⟩ := vs_get hy
        have hlr := hsm.row r (List.mem_of_getElem? hr2)
        have hli := (List.getElem?_eq_some_iff.mp hr2).1
        have hgl2 := hsm.len
        refine ⟨rfl, _, rfl, _, _, rfl, rfl, big _ (by have := mk_len r; have := sl "| " 2; omega), ?_⟩
        rw [bar_mk]
        refine ⟨_, z.2, ?_, Same.put z.1 hD _, ?_⟩
        · rw [vs_len, List.length_map, List.length_take]; exact Nat.lt_of_le_of_lt (show _ ≤ 20 by omega) (by decide)
        · rw [upd_same, List.take_add_one, hr2]
          show some (HO.lst (vs_ ((g.take i).map bar) ++ vs_ [bar r])) = _
          rw [vs_app]; simp
      · rw [vs_len, List.take_length] at z
        obtain ⟨eR3, erow⟩ := step2 _ b2 eR2 D H4 (Same.free sSP hD) ((sSP.trans z.1)) z.2
        have cp1 := cap (k + 1)
        refine ⟨R, D, _, _, rfl, rfl, eR3, z.2, ?_, ?_⟩
        · have := congrArg List.length erow
          rw [List.length_append] at this
          exact big _ (by omega)
        rw [erow]
        exact ⟨_, _, rfl, Same.put (b2.trans (sSP.trans z.1)) hR _, upd_same⟩
  · rintro σ H' ⟨v4, v5, rfl, b, eR⟩
    have etake : gs.take (((gs.map fun g => V.str (mk (gtext g))).length : Nat) : Int).toNat = gs := by rw [hgl]; exact List.take_of_length_le (by omega)
    have cp := cap (((gs.map fun g => V.str (mk (gtext g))).length : Nat) : Int).toNat
    rw [etake] at eR cp
    refine ⟨_, rfl, .inl ⟨rfl, _, SqL.of eR⟩, _, rfl, v, x, rfl, hd, hg, hl, hv.mono (Same.tk b), fun H3 s3 => ⟨_, _, rfl, rfl, big _ (by have := mk_len (txt x); have := sl "= " 2; omega), ?_⟩⟩
    rw [eqr_mk]
    have eR3 := s3 _ _ eR
    refine ⟨R, _, _, rfl, rfl, eR3, Nat.lt_of_le_of_lt cp (by decide), ?_⟩
    have erow : vs_ ((dosL ++ p) :: mid gs) ++ [V.str (mk (eqr (txt x)))] = vs_ (drows p gs (txt x)) := by
      show vs_ ((dosL ++ p) :: mid gs) ++ vs_ [eqr (txt x)] = _
      rw [vs_app]; rfl
    rw [erow]
    have hdl := dtext_len (pt := txt x) hp hgs
    have hjl : (joinL [10] (drows p gs (txt x))).length ≤ 101100 := by unfold dtext at hdl; rw [List.length_append] at hdl; simp at hdl; omega
    refine ⟨⟨_, rfl⟩, _, rfl, _, R, (drows p gs (txt x)).map mk, rfl, rfl, .inl (SqL.of upd_same), join_sz hjl (by decide), ?_⟩
    rw [join_mk]
    refine ⟨_, _, rfl, rfl, big _ (by rw [mk_len]; have : (Str.ofString "\n").length = 1 := rfl; omega), ?_⟩
    rw [app_mk]
    exact q _ (Same.put (b.trans s3) hR _)

end
end K93

/-! The law's own dossiers; lines; places. -/
namespace K93
open PySem PySem.Spec PyProof.Rows L2 TL
section
variable {P : Program} {w : World} {K : PySem.W.Frag} {mg : Str → Option Value} {base : Heap} {f : Addr} {fd : FuncData}
abbrev sLawDossier : Stmt := top 41
theorem scLawDossier : FnScope ["part", "texts", "shown", "rows", "k", "line"] ["part", "texts", "shown"] (defScope sLawDossier) := ⟨rfl, rfl, rfl, by decide +kernel, rfl, by decide +kernel, by decide +kernel⟩
theorem ok_law_dossier (T : Mo mg) (F : Fun K "_law_dossier" "_law_dossier" sLawDossier f fd)  : FnOk P w K mg base CX0 1 f fd ["part", "texts", "shown"] spLawD := by
  refine F.ok scLawDossier (fun vs H Q E h => ?_) (fun cdv A outer s H vs Q E hr h => ?_)
  · obtain ⟨p, gs, a, pt, rfl, _⟩ := h
    rfl
  obtain ⟨p, gs, a, pt, rfl, hp, hgs, ha, hl, q⟩ := h
  refine ⟨_, (pss_cons (ps_set (i := 3) scLawDossier.nd rfl (Or.inl rfl) (pe_lst (pa_cons (pe_op op_add_str pe_str (pv 0)) pa_nil))) (pss_cons (ps_for PassesOwn.never rfl (pi_range1 (by rfl) T.range (pa_cons (pe_callB call_len_seq (by rfl) T.len PySem.boot_len (pa_cons (pv 1) pa_nil)) pa_nil)) (pg_name (i := 4) scLawDossier.nd rfl (Or.inl rfl)) (pss_cons (ps_if (pt_cmpR op_gt (pv 4) pe_int (nomark _)) (pss_one (ps_expr (pe_bm PySem.F.plainAttrs_list PySem.F.slot_list_append PySem.F.type_list_append mt_append (pv 3) (pa_cons pe_str pa_nil)))) pss_nil) (pss_one (ps_set (i := 3) scLawDossier.nd rfl (Or.inl rfl) (pe_op op_cat (pv 3) (pe_lc (own := [("line", 5)]) (g := gName 5) (tt := tYes) rfl scLawDossier.nd (pi_list (pe_slice sl_list (pe_split (pe_ix ix_tup (pv 1) (pv 4) (fun _ _ => rfl)) pe_str) po_none (po_some (pe_un un_neg pe_int)))) (blkOk_by (own := [("line", 5)]) (N := ["part", "texts", "shown", "rows", "k", "line"]) (sc := defScope sLawDossier) (by decide +kernel)) (fun _ _ _ _ _ => pg_name (i := 5) scLawDossier.nd rfl (Or.inl rfl)) (fun _ _ _ _ _ => pts_nil) (fun _ _ _ _ _ => (pe_op op_add_str pe_str (pv 5))))))))) (pss_one (ps_ret (pe_op op_add_str (pe_join pe_str (pe_op op_cat (pv 3) (pe_lst (pa_cons (pe_op op_add_str pe_str (pv 2)) pa_nil)))) pe_str))))), ?_⟩
  have pl := mk_len p
  refine ⟨_, rfl, _, _, rfl, rfl, big _ (by rw [pl]; have := sl "dossier " 8; omega), big 1 (by decide), fun R hR => ?_⟩
  obtain ⟨H1, e1⟩ : ∃ H1, H1 = upd H R (.lst [V.str (Str.ofString "dossier " ++ mk p)]) := ⟨_, rfl⟩
  have b1 : Same H H1 := by rw [e1]; exact same_new hR _
  have eR1 : H1 R = some (.lst (vs_ ((dosL ++ p) :: mid (gs.take 0)))) := by rw [e1, upd_same, dos_mk]; rfl
  rw [← e1]
  have hgl : (gs.map fun g => V.str (mk (gtext g))).length = gs.length := List.length_map _
  have hgs2 := hgs.len
  have cap : ∀ k, (vs_ ((dosL ++ p) :: mid (gs.take k))).length ≤ 43 := fun k => by
    rw [vs_len, List.length_cons]
    have h3 := mid_len (gs := gs.take k) fun g hg => (hgs.g g (List.mem_of_mem_take hg)).len
    have h4 : (gs.take k).length ≤ 2 := by rw [List.length_take]; omega
    have : (gs.take k).length * 21 ≤ 2 * 21 := Nat.mul_le_mul_right _ h4
    omega
  refine ⟨_, rfl, a, _, rfl, .inr (SqT.of (b1 _ _ ha)), _, rfl, by omega, by omega, ?_⟩
  refine for_range (lo := 0) (n := (((gs.map fun g => V.str (mk (gtext g))).length : Nat) : Int).toNat) (fun k σ H' => ∃ (R : Addr) (v4 v5 : Option V), σ = [some (.str (mk p)), some (.ref a), some (.str (mk pt)), some (.ref R), v4, v5] ∧ Same H H' ∧ H R = none ∧ H' R = some (.lst (vs_ ((dosL ++ p) :: mid (gs.take k))))) ⟨R, _, _, rfl, b1, hR, eR1⟩ ?_ ?_
  · clear e1 b1 eR1 H1 hR
    rintro k σ H' hk ⟨R, v4, v5, rfl, b, hR, eR⟩
    have hk' : k < gs.length := by omega
    obtain ⟨g, hgk⟩ : ∃ g, gs[k]? = some g := ⟨_, List.getElem?_eq_getElem hk'⟩
    have hsm := hgs.g g (List.mem_of_getElem? hgk)
    have cp := cap k
    have ek : (0 : Int) + (k : Int) = (k : Int) := by omega
    have spl_g : Txt.split (mk (gtext g)) NL = (g ++ [[]]).map mk := by rw [split_lns, gtext_lns hsm.ne hsm.no]
    have step2 : ∀ (H2 : Hp), Same H H2 → H2 R = some (.lst (vs_ ((dosL ++ p) :: (if 0 < k then mid (gs.take k) ++ [[43]] else mid (gs.take k))))) → ∀ D H3, H2 D = none → Same H2 H3 → H3 D = some (.lst (vs_ (g.map bar))) →
        H3 R = some (.lst (vs_ ((dosL ++ p) :: (if 0 < k then mid (gs.take k) ++ [[43]] else mid (gs.take k))))) ∧ vs_ ((dosL ++ p) :: (if 0 < k then mid (gs.take k) ++ [[43]] else mid (gs.take k))) ++ vs_ (g.map bar) = vs_ ((dosL ++ p) :: mid (gs.take (k + 1))) := fun H2 s2 e2 D H3 hD s3 e3 => ⟨s3 _ _ e2, by rw [vs_app, mid_next hgk]; rfl⟩
    by_cases h0 : 0 < k
    · have e0 : decide ((0 : Int) + (k : Int) > 0) = true := decide_eq_true (by omega)
      refine ⟨_, rfl, _, _, rfl, rfl, _, rfl, ?_⟩
      rw [e0]
      refine iteT ⟨_, rfl, .inl ⟨rfl, _, SqL.of eR⟩, R, _, _, rfl, rfl, eR, Nat.lt_of_le_of_lt cp (by decide), ?_⟩
      have eR2 : upd H' R (.lst (vs_ ((dosL ++ p) :: mid (gs.take k)) ++ [V.str (Str.ofString "+")])) R = some (.lst (vs_ ((dosL ++ p) :: (if 0 < k then mid (gs.take k) ++ [[43]] else mid (gs.take k))))) := by
        rw [upd_same, if_pos h0]
        have : V.str (Str.ofString "+") = V.str (mk [43]) := rfl
        rw [this]
        show some (HO.lst (vs_ ((dosL ++ p) :: mid (gs.take k)) ++ vs_ [[43]])) = _
        rw [vs_app]; rfl
      have b2 : Same H (upd H' R (.lst (vs_ ((dosL ++ p) :: mid (gs.take k)) ++ [V.str (Str.ofString "+")]))) := Same.put b hR _
      refine ⟨_, rfl, _, rfl, _, rfl, a, _, _, _, rfl, rfl, SqT.of (b2 _ _ ha), at_of ek (txs_get hgk), ⟨_, rfl⟩, _, _, rfl, rfl, nl_len, (by rw [mk_len]; have := gtext_len hsm; exact sz (by omega)), fun S hS => ?_⟩
      have ecut : cutV ((Txt.split (mk (gtext g)) NL).map V.str) none (some (-1)) = vs_ g := by
        rw [spl_g, List.map_append, List.map_append]; exact cut_last _ _
      refine ⟨_, rfl, _, rfl, S, _, rfl, SqL.of upd_same, fun P hP => ⟨P, rfl, ⟨_, SqL.of (upd_same.trans (congrArg (fun z => some (HO.lst z)) ecut))⟩, fun D hD => ?_⟩⟩
      have sSP := (same_new hS (.lst ((Txt.split (mk (gtext g)) NL).map V.str))).trans (same_new hP (.lst (cutV ((Txt.split (mk (gtext g)) NL).map V.str) none (some (-1)))))
      have eP : (upd (upd (upd H' R (.lst (vs_ ((dosL ++ p) :: mid (gs.take k)) ++ [V.str (Str.ofString "+")]))) S (.lst ((Txt.split (mk (gtext g)) NL).map V.str))) P (.lst (cutV ((Txt.split (mk (gtext g)) NL).map V.str) none (some (-1))))) P = some (.lst (vs_ g)) := upd_same.trans (congrArg (fun z => some (HO.lst z)) ecut)
      refine lc_list (K := K) (a := P) (xs := vs_ g) (fun i H4 => Same ((upd (upd (upd H' R (.lst (vs_ ((dosL ++ p) :: mid (gs.take k)) ++ [V.str (Str.ofString "+")]))) S (.lst ((Txt.split (mk (gtext g)) NL).map V.str))) P (.lst (cutV ((Txt.split (mk (gtext g)) NL).map V.str) none (some (-1)))))) H4 ∧ H4 D = some (.lst (vs_ ((g.take i).map bar)))) ⟨same_new hD _, by rw [upd_same]; rfl⟩ (fun i H4 _ z => SqL.of (z.1 _ _ eP)) (fun i y H4 hy z => ?_) (fun H4 z => ?_)
      · obtain ⟨r, hr2, rfl⟩ := vs_get hy
        have hlr := hsm.row r (List.mem_of_getElem? hr2)
        have hli := (List.getElem?_eq_some_iff.mp hr2).1
        have hgl2 := hsm.len
        refine ⟨rfl, _, rfl, _, _, rfl, rfl, big _ (by have := mk_len r; have := sl "| " 2; omega), ?_⟩
        rw [bar_mk]
        refine ⟨_, z.2, ?_, Same.put z.1 hD _, ?_⟩
        · rw [vs_len, List.length_map, List.length_take]; exact Nat.lt_of_le_of_lt (show _ ≤ 20 by omega) (by decide)
        · rw [upd_same, List.take_add_one, hr2]
          show some (HO.lst (vs_ ((g.take i).map bar) ++ vs_ [bar r])) = _
          rw [vs_app]; simp
      · rw [vs_len, List.take_length] at z
        obtain ⟨eR3, erow⟩ := step2 _ b2 eR2 D H4 (Same.free sSP hD) ((sSP.trans z.1)) z.2
        have cp1 := cap (k + 1)
        refine ⟨R, D, _, _, rfl, rfl, eR3, z.2, ?_, fun R2 hR2 => ?_⟩
        · have := congrArg List.length erow
          rw [List.length_append] at this
          exact big _ (by omega)
        rw [erow]
        have s14 := b2.trans (sSP.trans z.1)
        exact ⟨R2, _, _, rfl, s14.trans (same_new hR2 _), s14.free hR2, upd_same⟩
    · have e0 : decide ((0 : Int) + (k : Int) > 0) = false := decide_eq_false (by omega)
      refine ⟨_, rfl, _, _, rfl, rfl, _, rfl, ?_⟩
      rw [e0]
      refine iteF ?_
      have eR2 : H' R = some (.lst (vs_ ((dosL ++ p) :: (if 0 < k then mid (gs.take k) ++ [[43]] else mid (gs.take k))))) := by
        rw [if_neg h0]; exact eR
      have b2 := b
      refine ⟨_, rfl, _, rfl, _, rfl, a, _, _, _, rfl, rfl, SqT.of (b2 _ _ ha), at_of ek (txs_get hgk), ⟨_, rfl⟩, _, _, rfl, rfl, nl_len, (by rw [mk_len]; have := gtext_len hsm; exact sz (by omega)), fun S hS => ?_⟩
      have ecut : cutV ((Txt.split (mk (gtext g)) NL).map V.str) none (some (-1)) = vs_ g := by
        rw [spl_g, List.map_append, List.map_append]; exact cut_last _ _
      refine ⟨_, rfl, _, rfl, S, _, rfl, SqL.of upd_same, fun P hP => ⟨P, rfl, ⟨_, SqL.of (upd_same.trans (congrArg (fun z => some (HO.lst z)) ecut))⟩, fun D hD => ?_⟩⟩
      have sSP := (same_new hS (.lst ((Txt.split (mk (gtext g)) NL).map V.str))).trans (same_new hP (.lst (cutV ((Txt.split (mk (gtext g)) NL).map V.str) none (some (-1)))))
      have eP : (upd (upd H' S (.lst ((Txt.split (mk (gtext g)) NL).map V.str))) P (.lst (cutV ((Txt.split (mk (gtext g)) NL).map V.str) none (some (-1))))) P = some (.lst (vs_ g)) := upd_same.trans (congrArg (fun z => some (HO.lst z)) ecut)
      refine lc_list (K := K) (a := P) (xs := vs_ g) (fun i H4 => Same ((upd (upd H' S (.lst ((Txt.split (mk (gtext g)) NL).map V.str))) P (.lst (cutV ((Txt.split (mk (gtext g)) NL).map V.str) none (some (-1)))))) H4 ∧ H4 D = some (.lst (vs_ ((g.take i).map bar)))) ⟨same_new hD _, by rw [upd_same]; rfl⟩ (fun i H4 _ z => SqL.of (z.1 _ _ eP)) (fun i y H4 hy z => ?_) (fun H4 z => ?_)
      · obtain ⟨r, hr2, rfl⟩ := vs_get hy
        have hlr := hsm.row r (List.mem_of_getElem? hr2)
        have hli := (List.getElem?_eq_some_iff.mp hr2).1
        have hgl2 := hsm.len
        refine ⟨rfl, _, rfl, _, _, rfl, rfl, big _ (by have := mk_len r; have := sl "| " 2; omega), ?_⟩
        rw [bar_mk]
        refine ⟨_, z.2, ?_, Same.put z.1 hD _, ?_⟩
        · rw [vs_len, List.length_map, List.length_take]; exact Nat.lt_of_le_of_lt (show _ ≤ 20 by omega) (by decide)
        · rw [upd_same, List.take_add_one, hr2]
          show some (HO.lst (vs_ ((g.take i).map bar) ++ vs_ [bar r])) = _
          rw [vs_app]; simp
      · rw [vs_len, List.take_length] at z
        obtain ⟨eR3, erow⟩ := step2 _ b2 eR2 D H4 (Same.free sSP hD) ((sSP.trans z.1)) z.2
        have cp1 := cap (k + 1)
        refine ⟨R, D, _, _, rfl, rfl, eR3, z.2, ?_, fun R2 hR2 => ?_⟩
        · have := congrArg List.length erow
          rw [List.length_append] at this
          exact big _ (by omega)
        rw [erow]
        have s14 := b2.trans (sSP.trans z.1)
        exact ⟨R2, _, _, rfl, s14.trans (same_new hR2 _), s14.free hR2, upd_same⟩
  · clear e1 b1 eR1 H1 hR
    rintro σ H' ⟨R, v4, v5, rfl, b, hR, eR⟩
    have etake : gs.take (((gs.map fun g => V.str (mk (gtext g))).length : Nat) : Int).toNat = gs := by rw [hgl]; exact List.take_of_length_le (by omega)
    have cp := cap (((gs.map fun g => V.str (mk (gtext g))).length : Nat) : Int).toNat
    rw [etake] at eR cp
    refine ⟨⟨_, rfl⟩, _, rfl, _, rfl, _, _, rfl, rfl, big _ (by have := mk_len pt; have := sl "= " 2; omega), big 1 (by decide), fun L hL => ⟨R, L, _, _, rfl, rfl, same_new hL _ _ _ eR, upd_same, ?_, fun R2 hR2 => ?_⟩⟩
    · exact big _ (by simp only [List.length_cons, List.length_nil]; omega)
    have erow : vs_ ((dosL ++ p) :: mid gs) ++ [V.str (Str.ofString "= " ++ mk pt)] = vs_ (drows p gs pt) := by
      rw [eqr_mk]
      show vs_ ((dosL ++ p) :: mid gs) ++ vs_ [eqr pt] = _
      rw [vs_app]; rfl
    rw [erow]
    have hdl := dtext_len (pt := pt) hp hgs
    have hjl : (joinL [10] (drows p gs pt)).length ≤ 901100 := by unfold dtext at hdl; rw [List.length_append] at hdl; simp at hdl; omega
    refine ⟨_, R2, (drows p gs pt).map mk, rfl, rfl, .inl (SqL.of upd_same), join_sz hjl (by decide), ?_⟩
    rw [join_mk]
    refine ⟨_, _, rfl, rfl, big _ (by rw [mk_len]; have : (Str.ofString "\n").length = 1 := rfl; omega), ?_⟩
    rw [app_mk]
    exact q _ ((b.trans (same_new hL _)).trans (same_new hR2 _))


/-! ### where lines begin -/
def spPlaces : Sp := fun vs H Q _ => ∃ (a : Addr) (R : List (List Nat)), vs = [.ref a] ∧ H a = some (.lst (vs_ R)) ∧ (joinL [10] R).length ≤ 1000000 ∧ ∀ p H', Same H H' → H p = none → H' p = some (.lst ((plc 0 R).map fun n : Nat => V.int (n : Int))) → Q (.ref p) H'
theorem row_le {R : List (List Nat)} {i : Nat} {r : List Nat} (h : R[i]? = some r) : r.length ≤ (joinL [10] R).length := joinL_mem (List.mem_of_getElem? h)
theorem plc_take {R : List (List Nat)} {i : Nat} {r : List Nat} (h : R[i]? = some r) : plc 0 (R.take (i + 1)) = plc 0 (R.take i) ++ [((R.take i).map fun x => x.length + 1).sum] := by
  rw [List.take_add_one, h]
  show plc 0 (R.take i ++ [r]) = _
  rw [plc_snoc, Nat.zero_add]
abbrev sLinePlaces : Stmt := top 19
theorem scLinePlaces : FnScope ["rows", "found", "at", "row"] ["rows"] (defScope sLinePlaces) := ⟨rfl, rfl, rfl, by decide +kernel, rfl, by decide +kernel, by decide +kernel⟩
theorem ok_line_places (T : Mo mg) (F : Fun K "line_places" "line_places" sLinePlaces f fd)  : FnOk P w K mg base CX0 1 f fd ["rows"] spPlaces := by
  refine F.ok scLinePlaces (fun vs H Q E h => ?_) (fun cdv A outer s H vs Q E hr h => ?_)
  · obtain ⟨a, R, rfl, _⟩ := h
    rfl
  obtain ⟨a, R, rfl, ha, hl, q⟩ := h
  refine ⟨_, (pss_cons (ps_set (i := 1) scLinePlaces.nd rfl (Or.inl rfl) (pe_lst pa_nil)) (pss_cons (ps_set (i := 2) scLinePlaces.nd rfl (Or.inl rfl) pe_int) (pss_cons (ps_for PassesOwn.never rfl (pi_list (pv 0)) (pg_name (i := 3) scLinePlaces.nd rfl (Or.inl rfl)) (pss_cons (ps_expr (pe_bm PySem.F.plainAttrs_list PySem.F.slot_list_append PySem.F.type_list_append mt_append (pv 1) (pa_cons (pv 2) pa_nil))) (pss_one (ps_aug (i := 2) scLinePlaces.nd rfl (Or.inl rfl) (pe_op op_add (pe_callB call_len_str (by rfl) T.len PySem.boot_len (pa_cons (pv 3) pa_nil)) pe_int) ip_add)))) (pss_one (ps_ret (pv 1)))))), ?_⟩
  have cnt : R.length ≤ 1000001 := by
    have := joinL_cnt (S := [10]) rfl R
    omega
  refine ⟨big 0 (by decide), fun F hF => ?_⟩
  have naF : a ≠ F := ne_of_none ha hF
  refine ⟨_, rfl, a, rfl, ⟨_, SqL.of (same_new hF _ _ _ ha)⟩, for_list (K := K) (a := a) (xs := vs_ R) (fun i σ H' => ∃ v3, σ = [some (.ref a), some (.ref F), some (.int ((((R.take i).map fun x => x.length + 1).sum : Nat) : Int)), v3] ∧ Same H H' ∧ H' F = some (.lst ((plc 0 (R.take i)).map fun n : Nat => V.int (n : Int)))) ⟨_, rfl, same_new hF _, upd_same⟩ (fun i σ H' _ ⟨_, _, b, _⟩ => SqL.of (b _ _ ha)) ?_ ?_⟩
  · rintro i y σ H' hi ⟨v3, rfl, b, eF⟩
    obtain ⟨r, hr2, rfl⟩ := vs_get hi
    have hrl := row_le hr2
    have hil := (List.getElem?_eq_some_iff.mp hr2).1
    refine ⟨_, rfl, .inl ⟨rfl, _, SqL.of eF⟩, _, rfl, F, _, _, rfl, rfl, eF, ?_, ?_⟩
    · rw [List.length_map, plc_len, List.length_take]; exact Nat.lt_of_le_of_lt (show _ ≤ 1000001 by omega) (by decide)
    refine ⟨_, rfl, _, rfl, _, rfl, big _ (by rw [mk_len]; omega), _, _, rfl, rfl, _, _, rfl, rfl, some (.str (mk r)), ?_, Same.put b hF _, ?_⟩
    · have e : (((R.take (i + 1)).map fun x => x.length + 1).sum : Nat) = ((R.take i).map fun x => x.length + 1).sum + (r.length + 1) := by
        rw [List.take_add_one, hr2, List.map_append, List.sum_append]; simp
      have e2 : ((((R.take i).map fun x => x.length + 1).sum : Nat) : Int) + (((mk r).length : Int) + 1) = ((((R.take (i + 1)).map fun x => x.length + 1).sum : Nat) : Int) := by
        rw [e, mk_len]; omega
      exact congrArg (fun z => [some (V.ref a), some (V.ref F), some (V.int z), some (V.str (mk r))]) e2
    · rw [upd_same, plc_take hr2, List.map_append]; rfl
  · rintro σ H' ⟨v3, rfl, b, eF⟩
    rw [vs_len, List.take_length] at eF
    exact ⟨_, rfl, q F H' b hF eF⟩


/-! ### lines drawn -/
def spLines : Sp := fun vs H Q _ => ∃ (d c : Addr), vs = [.ref d] ∧ Dr H d c ∧ ∀ g H', Sm g → Fr d c H H' → Q (.str (mk (gtext g))) H'
def grp (L : List String) : Grp := L.map fun s => tl (Str.ofString s)
theorem grp_vs (L : List String) : vs_ (grp L) = L.map fun s => V.str (Str.ofString s) := by
  unfold grp vs_
  rw [List.map_map, List.map_map]
  exact List.map_congr_left fun s _ => rfl
/-- at most three short lines -/
def okG (g : Grp) : Prop := g.length ≤ 3 ∧ (∀ r ∈ g, 10 ∉ r) ∧ ∀ r ∈ g, r.length ≤ 20
instance (g : Grp) : Decidable (okG g) := by unfold okG; exact inferInstance
/-- the groups to pick from -/
def Gl8 (H : Hp) (d G : Addr) : Prop := ∃ rs : List Addr, H G = some (.lst (rs.map V.ref)) ∧ rs ≠ [] ∧ rs.length ≤ 100 ∧ G ≠ d ∧ ∀ r ∈ rs, r ≠ d ∧ ∃ g, okG g ∧ H r = some (.lst (vs_ g))
theorem Gl8.fr {H H' : Hp} {d c G : Addr} (h : Gl8 H d G) (f : Fr d c H H') : Gl8 H' d G := by
  obtain ⟨rs, e, h1, h2, h3, h4⟩ := h
  exact ⟨rs, f.at h3 e, h1, h2, h3, fun r hr => ⟨(h4 r hr).1, by
    obtain ⟨g, hg, e⟩ := (h4 r hr).2
    exact ⟨g, hg, f.at (h4 r hr).1 e⟩⟩⟩
abbrev sLawLines : Stmt := top 40
theorem scLawLines : FnScope ["d", "groups", "lines", "k"] ["d"] (defScope sLawLines) := ⟨rfl, rfl, rfl, by decide +kernel, rfl, by decide +kernel, by decide +kernel⟩
theorem ok_lines (T : Mo mg) (F : Fun K "_law_lines" "_law_lines" sLawLines f fd) (d_l_letters : Df P w K mg base CX0 2 "_law_letters" ["d"] spLetters) (d_l_draw : Df P w K mg base CX0 1 "_law_draw" ["d", "many"] spDraw) (d_l_pick : Df P w K mg base CX0 2 "_law_pick" ["d", "row"] spPick) : FnOk P w K mg base CX0 3 f fd ["d"] spLines := by
  refine F.ok scLawLines (fun vs H Q E h => ?_) (fun cdv A outer s H vs Q E hr h => ?_)
  · obtain ⟨d, c, rfl, _⟩ := h
    rfl
  obtain ⟨d, c, rfl, D, q⟩ := h
  refine ⟨_, (pss_cons (ps_set (i := 1) scLawLines.nd rfl (Or.inl rfl) (pe_lst (pa_cons (pe_lst (pa_cons pe_str pa_nil)) (pa_cons (pe_lst (pa_cons pe_str (pa_cons pe_str pa_nil))) (pa_cons (pe_lst (pa_cons pe_str (pa_cons pe_str pa_nil))) (pa_cons (pe_lst (pa_cons pe_str (pa_cons pe_str (pa_cons pe_str pa_nil)))) (pa_cons (pe_lst (pa_cons pe_str (pa_cons pe_str pa_nil))) pa_nil))))))) (pss_cons (ps_set (i := 1) scLawLines.nd rfl (Or.inl rfl) (pe_op op_cat (pv 1) (pe_lst (pa_cons (pe_lst (pa_cons pe_str (pa_cons pe_str pa_nil))) (pa_cons (pe_lst (pa_cons pe_str pa_nil)) (pa_cons (pe_lst (pa_cons pe_str (pa_cons pe_str (pa_cons pe_str pa_nil)))) pa_nil)))))) (pss_cons (ps_set (i := 2) scLawLines.nd rfl (Or.inl rfl) (pe_lst (pa_cons (pe_op op_add_str pe_str (pe_d d_l_letters (hr.mono (by omega)) (pa_cons (pv 0) pa_nil))) pa_nil))) (pss_cons (ps_for PassesOwn.never rfl (pi_range1 (by rfl) T.range (pa_cons (pe_d d_l_draw (hr.mono (by omega)) (pa_cons (pv 0) (pa_cons pe_int pa_nil))) pa_nil)) (pg_name (i := 3) scLawLines.nd rfl (Or.inl rfl)) (pss_one (ps_set (i := 2) scLawLines.nd rfl (Or.inl rfl) (pe_op op_cat (pv 2) (pe_d d_l_pick (hr.mono (by omega)) (pa_cons (pv 0) (pa_cons (pv 1) pa_nil))))))) (pss_one (ps_ret (pe_op op_add_str (pe_join pe_str (pv 2)) pe_str))))))), ?_⟩
  refine ⟨big 1 (by decide), fun p0 hp0 => ⟨big 2 (by decide), fun p1 hp1 => ⟨big 2 (by decide), fun p2 hp2 => ⟨big 3 (by decide), fun p3 hp3 => ⟨big 2 (by decide), fun p4 hp4 => ⟨big 5 (by decide), fun A hA => ?_⟩⟩⟩⟩⟩⟩
  refine ⟨_, rfl, big 2 (by decide), fun p5 hp5 => ⟨big 1 (by decide), fun p6 hp6 => ⟨big 3 (by decide), fun p7 hp7 => ⟨big 3 (by decide), fun B hB => ⟨A, B, _, _, rfl, rfl, lst_upd (lst_upd (lst_upd (lst_upd upd_same hp5) hp6) hp7) hB, upd_same, big 8 (by decide), fun G hG => ?_⟩⟩⟩⟩⟩
  have hd : ∀ {b : Addr} {Hx : Hp}, Fr d c H Hx → Hx b = none → b ≠ d := fun f n => f.d.ne n
  have fp0 := (Fr.refl D).new hp0 (.lst (vs_ (grp ["word x"])))
  have np0 : p0 ≠ d := hd (Fr.refl D) hp0
  have fp1 := fp0.new hp1 (.lst (vs_ (grp ["word left", ""])))
  have np1 : p1 ≠ d := hd fp0 hp1
  have fp2 := fp1.new hp2 (.lst (vs_ (grp ["row u", "= x \"a\""])))
  have np2 : p2 ≠ d := hd fp1 hp2
  have fp3 := fp2.new hp3 (.lst (vs_ (grp ["say c: sum x", "+", "x <= 3"])))
  have np3 : p3 ≠ d := hd fp2 hp3
  have fp4 := fp3.new hp4 (.lst (vs_ (grp ["", " "])))
  have np4 : p4 ≠ d := hd fp3 hp4
  have fA := fp4.new hA (.lst ([p0, p1, p2, p3, p4].map V.ref))
  have nA : A ≠ d := hd fp4 hA
  have fp5 := fA.new hp5 (.lst (vs_ (grp ["machine f = map \"a\"", "\"b\""])))
  have np5 : p5 ≠ d := hd fA hp5
  have fp6 := fp5.new hp6 (.lst (vs_ (grp ["  say e: true"])))
  have np6 : p6 ≠ d := hd fp5 hp6
  have fp7 := fp6.new hp7 (.lst (vs_ (grp ["say k: x in", "| \"a\"", "| \"b\""])))
  have np7 : p7 ≠ d := hd fp6 hp7
  have fB := fp7.new hB (.lst ([p5, p6, p7].map V.ref))
  have nB : B ≠ d := hd fp7 hB
  have fG := fB.new hG (.lst ([p0, p1, p2, p3, p4, p5, p6, p7].map V.ref))
  have nG : G ≠ d := hd fB hG
  have hG : Gl8 (upd (upd (upd (upd (upd (upd (upd (upd (upd (upd (upd H p0 (.lst (vs_ (grp ["word x"])))) p1 (.lst (vs_ (grp ["word left", ""])))) p2 (.lst (vs_ (grp ["row u", "= x \"a\""])))) p3 (.lst (vs_ (grp ["say c: sum x", "+", "x <= 3"])))) p4 (.lst (vs_ (grp ["", " "])))) A (.lst ([p0, p1, p2, p3, p4].map V.ref))) p5 (.lst (vs_ (grp ["machine f = map \"a\"", "\"b\""])))) p6 (.lst (vs_ (grp ["  say e: true"])))) p7 (.lst (vs_ (grp ["say k: x in", "| \"a\"", "| \"b\""])))) B (.lst ([p5, p6, p7].map V.ref))) G (.lst ([p0, p1, p2, p3, p4, p5, p6, p7].map V.ref))) d G := by
    refine ⟨[p0, p1, p2, p3, p4, p5, p6, p7], upd_same, by simp, by simp, nG, fun r hr => ?_⟩
    simp only [List.mem_cons, List.not_mem_nil, or_false] at hr
    rcases hr with rfl | rfl | rfl | rfl | rfl | rfl | rfl | rfl
    · exact ⟨np0, (grp ["word x"]), by decide +kernel, lst_upd (lst_upd (lst_upd (lst_upd (lst_upd (lst_upd (lst_upd (lst_upd (lst_upd (lst_upd upd_same hp1) hp2) hp3) hp4) hA) hp5) hp6) hp7) hB) hG⟩
    · exact ⟨np1, (grp ["word left", ""]), by decide +kernel, lst_upd (lst_upd (lst_upd (lst_upd (lst_upd (lst_upd (lst_upd (lst_upd (lst_upd upd_same hp2) hp3) hp4) hA) hp5) hp6) hp7) hB) hG⟩
    · exact ⟨np2, (grp ["row u", "= x \"a\""]), by decide +kernel, lst_upd (lst_upd (lst_upd (lst_upd (lst_upd (lst_upd (lst_upd (lst_upd upd_same hp3) hp4) hA) hp5) hp6) hp7) hB) hG⟩
    · exact ⟨np3, (grp ["say c: sum x", "+", "x <= 3"]), by decide +kernel, lst_upd (lst_upd (lst_upd (lst_upd (lst_upd (lst_upd (lst_upd upd_same hp4) hA) hp5) hp6) hp7) hB) hG⟩
    · exact ⟨np4, (grp ["", " "]), by decide +kernel, lst_upd (lst_upd (lst_upd (lst_upd (lst_upd (lst_upd upd_same hA) hp5) hp6) hp7) hB) hG⟩
    · exact ⟨np5, (grp ["machine f = map \"a\"", "\"b\""]), by decide +kernel, lst_upd (lst_upd (lst_upd (lst_upd upd_same hp6) hp7) hB) hG⟩
    · exact ⟨np6, (grp ["  say e: true"]), by decide +kernel, lst_upd (lst_upd (lst_upd upd_same hp7) hB) hG⟩
    · exact ⟨np7, (grp ["say k: x in", "| \"a\"", "| \"b\""]), by decide +kernel, lst_upd (lst_upd upd_same hB) hG⟩
  have hG : Gl8 _ d G := hG
  have fG' := fG
  refine ⟨_, rfl, d, c, rfl, fG.d, fun z H1 hz b1 => ⟨_, _, rfl, rfl, ?_, ?_⟩⟩
  · have : z.length ≤ 3 ∨ True := .inr trivial
    have h3 : (Str.ofString z).length ≤ 3 := by
      have : ∀ z ∈ lets, (Str.ofString z).length ≤ 3 := by decide +kernel
      exact this z hz
    exact big _ (by have := sl "letters " 8; omega)
  have hG1 := hG.fr b1
  have f1 := fG.trans b1
  have sm0 : Sm (grp ["letters " ++ z]) ∧ V.str (Str.ofString "letters " ++ Str.ofString z) = V.str (mk (tl (Str.ofString "letters ") ++ tl (Str.ofString z))) := ⟨by
    have : ∀ z ∈ lets, (grp ["letters " ++ z]) ≠ [] ∧ (grp ["letters " ++ z]).length ≤ 20 ∧ (∀ r ∈ grp ["letters " ++ z], 10 ∉ r) ∧ ∀ r ∈ grp ["letters " ++ z], r.length ≤ 20 := by decide +kernel
    obtain ⟨a1, a2, a3, a4⟩ := this z hz
    exact ⟨a1, a2, a3, a4⟩, by rw [app_mk]⟩
  have hz2 : (∀ r ∈ [tl (Str.ofString "letters ") ++ tl (Str.ofString z)], 10 ∉ r) ∧ ∀ r ∈ [tl (Str.ofString "letters ") ++ tl (Str.ofString z)], r.length ≤ 20 := by
    have : ∀ z ∈ lets, (∀ r ∈ [tl (Str.ofString "letters ") ++ tl (Str.ofString z)], 10 ∉ r) ∧ ∀ r ∈ [tl (Str.ofString "letters ") ++ tl (Str.ofString z)], r.length ≤ 20 := by decide +kernel
    exact this z hz
  refine ⟨big 1 (by decide), fun L hL => ?_⟩
  rw [sm0.2]
  have nL := f1.d.ne hL
  have f2 := f1.new hL (.lst (vs_ [tl (Str.ofString "letters ") ++ tl (Str.ofString z)]))
  have hG2 : Gl8 _ d G := hG1.fr ((Fr.refl f1.d).new hL (.lst (vs_ [tl (Str.ofString "letters ") ++ tl (Str.ofString z)])))
  refine ⟨_, rfl, d, c, 5, rfl, f2.d, by decide, by decide, fun r H3 b3 r0 r1 => ⟨r, rfl, by omega, by omega, ?_⟩⟩
  refine for_range (lo := 0) (n := r.toNat) (fun i σ H' => ∃ (L : Addr) (g : Grp) (v3 : Option V), σ = [some (.ref d), some (.ref G), some (.ref L), v3] ∧ Fr d c H H' ∧ Gl8 H' d G ∧ L ≠ d ∧ H' L = some (.lst (vs_ g)) ∧ g ≠ [] ∧ g.length ≤ 1 + 3 * i ∧ (∀ r ∈ g, 10 ∉ r) ∧ ∀ r ∈ g, r.length ≤ 20)
    ⟨L, _, _, rfl, f2.trans b3, hG2.fr b3, nL, b3.at nL upd_same, by simp, by simp, hz2.1, hz2.2⟩ ?_ ?_
  · rintro i σ H' hi ⟨L, g, v3, rfl, b, hG, nL, eL, gn, gl, g1, g2⟩
    obtain ⟨rs, eG, rn, rl, nGd, hrs⟩ := id hG
    refine ⟨_, rfl, _, rfl, _, rfl, d, c, _, rfl, b.d, .inl ⟨G, _, rfl, nGd, eG, by simpa using rn, by rw [List.length_map]; omega, fun j v H4 hj b4 => ?_⟩⟩
    rw [List.getElem?_map] at hj
    cases ej : rs[j]? with
    | none => rw [ej] at hj; cases hj
    | some rr =>
      rw [ej] at hj
      cases hj
      obtain ⟨nr, g', hg', er⟩ := hrs rr (List.mem_of_getElem? ej)
      refine ⟨L, rr, _, _, rfl, rfl, b4.at nL eL, b4.at nr er, ?_, fun L2 hL2 => ?_⟩
      · rw [vs_len, vs_len]; exact big _ (by have := hg'.1; omega)
      rw [vs_app]
      have b5 := (b.trans b4).new hL2 (.lst (vs_ (g ++ g')))
      refine ⟨L2, g ++ g', _, rfl, b5, (hG.fr b4).fr ((Fr.refl b4.d).new hL2 _), b4.d.ne hL2, upd_same, by simp [gn], ?_, ?_, ?_⟩
      · rw [List.length_append]; have := hg'.1; omega
      · intro r hr
        rcases List.mem_append.mp hr with hr | hr
        · exact g1 r hr
        · exact hg'.2.1 r hr
      · intro r hr
        rcases List.mem_append.mp hr with hr | hr
        · exact g2 r hr
        · exact hg'.2.2 r hr
  · rintro σ H' ⟨L, g, v3, rfl, b, hG, nL, eL, gn, gl, g1, g2⟩
    have hsm : Sm g := ⟨gn, by omega, g1, g2⟩
    have hgl := gtext_len hsm
    have hjl : (joinL [10] g).length ≤ 1000 := by unfold gtext at hgl; rw [List.length_append] at hgl; simp at hgl; omega
    refine ⟨⟨_, rfl⟩, _, rfl, _, L, g.map mk, rfl, rfl, .inl (SqL.of eL), join_sz hjl (by decide), ?_⟩
    rw [join_mk]
    refine ⟨_, _, rfl, rfl, big _ (by rw [mk_len]; have : (Str.ofString "\n").length = 1 := rfl; omega), ?_⟩
    rw [app_mk]
    exact q g H' hsm b

end
end K93

/-! A dossier read. -/
namespace K93
open PySem PySem.Spec PyProof.Rows L2 TL

/-- e.at in an except suite, whatever the class and the dict are called -/
def tAtX (C a : Addr) (cls : Value) (d : Option Addr) (te : TE) : TE := fun σ H Q => te σ H fun x H1 => x = .ref a ∧ cls = .ref C ∧ ∃ (dd : Addr) (fs : List (Str × V)) (v : V), d = some dd ∧ H1 dd = some (.xd fs) ∧ fs.lookup ("at" : Str) = some v ∧ Q v H1
section
variable {X : Cx} {C a : Addr} {oe : Obj} {cls : Value} {d : Option Addr} {pn : List (Addr × Obj)} {xe : Value → Shared → Prop}
theorem pe_atX {e : Expr} {te : TE} {pos : Pos} (R : Qx.ErrC X.K C) (hz : Zc cls d oe) (hx : ∃ vs, oe.data = .fields vs ∧ vs[2]? = some .none) (he : PE (Qx.suiteE X a ((a, oe) :: pn) xe) e te) (hb : attributeBase e "at" X.env (eval e X.env) = eval e X.env := by rfl) :
    PE (Qx.suiteE X a ((a, oe) :: pn) xe) (.Attribute e "at" pos) (tAtX C a cls d te) := by
  refine ⟨fun pins s σ H Q I h => ?_⟩
  refine attr_of hb (thn (he.run pins s σ H _ I h) fun u s1 hh => ?_)
  obtain ⟨x, H1, I1, rx, ex, ec, dd, fs, v, ed, ea, l, q⟩ := hh
  subst ex ec ed
  obtain rfl : u = Value.ref a := rx
  obtain ⟨vs, e1, _⟩ := hx
  obtain ⟨od, mA, J, hl, hr⟩ := Qx.err_at I1 List.mem_cons_self hz ⟨vs, e1⟩ ea
  obtain ⟨u, hu, ru⟩ := RelO.some_of (v := v) (o := mA "at") (by rw [← l]; exact hr "at")
  exact HandSPX.exc_get I1.kIn J R.ga R.gg R.ex (PySem.W.findObj_own R.hd R.noAt rfl (by rw [hl, hu])) (handed_of ru) ⟨v, H1, I1.tok _, ru, q⟩
theorem ps_badN {e : Expr} {ta : TA} {p pos pos2 cpos : Pos} {j : Nat} {W : WX} (B : Bt X.prog X.K X.mg C) (hr : Room 1 X.A) (hx : ∃ vs, oe.data = .fields vs ∧ vs[2]? = some .none) (tk : Qx.Takes (Qx.suiteE X a ((a, oe) :: pn) xe) W)
    (hta : ∀ σ H (P P' : List V → Hp → Prop), (∀ vs H', P vs H' → P' vs H') → ta σ H P → ta σ H P') (ha : PA (Qx.suiteE X a ((a, oe) :: pn) xe) [e] ta) (hg : Gl X "BadText" := by rfl)
    (he : starEach (e :: []) X.env = (false, eval e X.env) :: starEach [] X.env := by rfl) (hpl : (backTo pos (starEach [] X.env)).any (·.1) = false := by rfl) :
    PS (Qx.suiteE X a ((a, oe) :: pn) xe) (.Raise (some (.Call (.Name "BadText" p) [e] [] pos)) (some (.Constant .none j cpos)) pos2) (fun _ σ H => Qx.tMkBt C ta σ H fun cls d H' => W cls d σ H') := by
  obtain ⟨fI, fd, iC, tI, T, b⟩ := B.ex
  exact Qx.ps_raiseBtN hx tk B.o iC tI T b hr hg B.m ha hta (by decide) he hpl
end
theorem hta_rd {K : PySem.W.Frag} {C a : Addr} {cls : Value} {d : Option Addr} : ∀ σ H (P P' : List V → Hp → Prop), (∀ vs H', P vs H' → P' vs H') →
    (tCons (tOp (rI0 fun i j => .int (i + j)) (tOp (rI0 fun i j => .int (i + j)) (tOp (rIxL K) (tVar 2) (tUn (rU fun i => .int (-i)) (tC (.int 2)))) (tC (.int 2))) (tAtX C a cls d (tVar 6))) tNil : TA) σ H P →
    (tCons (tOp (rI0 fun i j => .int (i + j)) (tOp (rI0 fun i j => .int (i + j)) (tOp (rIxL K) (tVar 2) (tUn (rU fun i => .int (-i)) (tC (.int 2)))) (tC (.int 2))) (tAtX C a cls d (tVar 6))) tNil : TA) σ H P' := by
  intro σ H P P' h q
  obtain ⟨v, e1, i, e2, p, xs, j, u, e3, e4, e5, e6, i1, j1, e7, e8, v2, e9, e10, ec, dd, fs, v3, e11, e12, e13, i2, j2, e14, e15, r⟩ := q
  exact ⟨v, e1, i, e2, p, xs, j, u, e3, e4, e5, e6, i1, j1, e7, e8, v2, e9, e10, ec, dd, fs, v3, e11, e12, e13, i2, j2, e14, e15, h _ _ r⟩
def rJn (K : PySem.W.Frag) : V → List V → Hp → VK → Prop := fun x xs H Q => ∃ a p, ∃ ys : List Str, x = .str a ∧ xs = [.ref p] ∧ (SqL K H p (ys.map V.str) ∨ SqT K H p (ys.map V.str)) ∧ (ys.map (·.length)).sum + ys.length * a.length ≤ 16777216 ∧ Q (.str (Txt.join a ys)) H
theorem at_back {α : Type} {xs : List α} {k : Nat} {v : α} (hk : 1 ≤ k) (h2 : k ≤ xs.length) (h : xs[xs.length - k]? = some v) : atI xs (-(k : Int)) = some v := by
  have e : ixN xs.length (-(k : Int)) = some (xs.length - k) := by
    unfold ixN
    rw [if_neg (by omega), if_pos (by omega)]
    congr 1
    omega
  unfold atI
  rw [e]
  exact h
theorem mk_eq {a : List Nat} {s : Str} : (V.str (mk a) = V.str s) ↔ a = tl s := ⟨fun h => by
  injection h with h
  exact congrArg tl h, fun h => by rw [h, mk_tl']⟩
def lsum (g : List (List Nat)) : Nat := (g.map fun r => r.length + 1).sum
theorem lsum_app (a b : List (List Nat)) : lsum (a ++ b) = lsum a + lsum b := by unfold lsum; rw [List.map_append, List.sum_append]
theorem joinL_lsum : ∀ g : List (List Nat), (joinL [10] g).length ≤ lsum g
  | [] => Nat.zero_le _
  | [r] => by show r.length ≤ _; unfold lsum; simp
  | r :: x :: g => by
    have := joinL_lsum (x :: g)
    show (r ++ ([10] ++ joinL [10] (x :: g))).length ≤ lsum ([r] ++ (x :: g))
    rw [lsum_app, List.length_append, List.length_append]
    have e : lsum [r] = r.length + 1 := by unfold lsum; simp
    rw [e]
    simp only [List.length_cons, List.length_nil]
    omega
theorem lsum_join : ∀ g : List (List Nat), lsum g ≤ (joinL [10] g).length + 1
  | [] => Nat.zero_le _
  | [r] => by show lsum [r] ≤ r.length + 1; unfold lsum; simp
  | r :: x :: g => by
    have := lsum_join (x :: g)
    show lsum ([r] ++ (x :: g)) ≤ (r ++ ([10] ++ joinL [10] (x :: g))).length + 1
    rw [lsum_app, List.length_append, List.length_append]
    have e : lsum [r] = r.length + 1 := by unfold lsum; simp
    rw [e]
    simp only [List.length_cons, List.length_nil]
    omega
theorem lsum_len : ∀ g : List (List Nat), g.length ≤ lsum g
  | [] => Nat.le_refl _
  | r :: g => by
    have := lsum_len g
    show g.length + 1 ≤ lsum ([r] ++ g)
    rw [lsum_app]
    have e : lsum [r] = r.length + 1 := by unfold lsum; simp
    omega
abbrev vst (g : Grp) : List Val := g.map fun r => Val.str (mk r)
theorem ats_vs {H : Hp} {xs : List V} {g : Grp} (h : Ats H xs (vst g)) : xs = vs_ g := by
  apply List.ext_getElem?
  intro i
  rcases Nat.lt_or_ge i (vst g).length with hi | hi
  · obtain ⟨v, x, e1, e2, h1⟩ := h.get hi
    rw [List.getElem?_map] at e2
    cases e : g[i]? with
    | none => rw [e] at e2; cases e2
    | some r =>
      rw [e] at e2
      cases e2
      cases h1
      rw [e1, vs_at e]
  · rw [List.getElem?_eq_none (by rw [h.1]; exact hi), List.getElem?_eq_none (by rw [List.length_map] at hi; simpa using hi)]
section
variable {P : Program} {w : World} {K : PySem.W.Frag} {mg : Str → Option Value} {base : Heap} {f : Addr} {fd : FuncData}

variable {C CE : Addr}
def spReadD (C : Addr) : Sp := fun vs H Q E => ∃ (l : List Nat), vs = [.str (mk l)] ∧ l.length ≤ 999990 ∧ (Ref l → Bad C l.length H E) ∧
  ∀ p gs pt x, dparse (lns l) = some (p, gs, pt) → Runs [[]] .val pt (some x) → ∀ t a v H', Same H H' → H' t = some (.tup [.str (mk p), .ref a, v]) → Txs H' a gs → At H' v x → Q (.ref t) H'
abbrev sReadDossier : Stmt := top 20
theorem scReadDossier : FnScope ["text", "rows", "places", "texts", "k", "paper", "fault", "part"] ["text"] (defScope sReadDossier) := ⟨rfl, rfl, rfl, by decide +kernel, rfl, by decide +kernel, by decide +kernel⟩
theorem ok_read_dossier (T : Mo mg) (F : Fun K "read_dossier" "read_dossier" sReadDossier f fd) (B : Bt P K mg C) (R : Rf K mg C CE) (d_line_places : Df P w K mg base CX0 1 "line_places" ["rows"] spPlaces) (d_read_value : Df P w K mg base (L2N.CX P w) 4 "read_value" ["text"] (spRead C)) : FnOk P w K mg base (Qx.CX P w) 5 f fd ["text"] (spReadD C) := by
  refine F.okG (Qx.CX P w) scReadDossier (fun vs H Q E h => ?_) (fun cdv A outer s H vs Q E hr h => ?_)
  · obtain ⟨l, rfl, _⟩ := h
    rfl
  obtain ⟨l, rfl, hlen, hbad, q⟩ := h

  have hta : ∀ (a : Addr) (cls : Value) (d : Option Addr), ∀ σ H (P P' : List V → Hp → Prop), (∀ vs H', P vs H' → P' vs H') → _ → _ := fun a cls d => hta_rd (K := K) (C := C) (a := a) (cls := cls) (d := d)
  refine ⟨_, (pss_cons (ps_set (i := 1) scReadDossier.nd rfl (Or.inl rfl) (pe_split (pv 0) pe_str)) (pss_cons (ps_set (i := 2) scReadDossier.nd rfl (Or.inl rfl) (pe_d d_line_places (hr.mono (by omega)) (pa_cons (pv 1) pa_nil))) (pss_cons (ps_if (PW.pt (pw_or (pt_cmpR op_ne (pe_slice sl_str (pe_ix ix_list (pv 1) pe_int (fun _ _ => rfl)) po_none (po_some pe_int)) pe_str (nomark _)) (pw_or1 (pt_cmpR op_lt (pe_callB call_len_seq (by rfl) T.len PySem.boot_len (pa_cons (pv 1) pa_nil)) pe_int (nomark _))))) (pss_one (ps_bad B (hr.mono (by omega)) (Qx.takes_of rfl rfl rfl rfl).n (pa_cons pe_int pa_nil))) pss_nil) (pss_cons (ps_if (PW.pt (pw_or (pt_cmpR op_ne (pe_ix ix_list (pv 1) (pe_un un_neg pe_int) (fun _ _ => rfl)) pe_str (nomark _)) (pw_or1 (pt_cmpR op_ne (pe_slice sl_str (pe_ix ix_list (pv 1) (pe_un un_neg pe_int) (fun _ _ => rfl)) po_none (po_some pe_int)) pe_str (nomark _))))) (pss_one (ps_bad B (hr.mono (by omega)) (Qx.takes_of rfl rfl rfl rfl).n (pa_cons (pe_ix ix_list (pv 2) (pe_un un_neg pe_int) (fun _ _ => rfl)) pa_nil))) pss_nil) (pss_cons (ps_set (i := 3) scReadDossier.nd rfl (Or.inl rfl) (pe_lst (pa_cons (pe_lst pa_nil) pa_nil))) (pss_cutA (ps_for (passes_of rfl) rfl (pi_range2 (by rfl) T.range (pa_cons pe_int (pa_cons (pe_op op_sub (pe_callB call_len_seq (by rfl) T.len PySem.boot_len (pa_cons (pv 1) pa_nil)) pe_int) pa_nil))) (pg_name (i := 4) scReadDossier.nd rfl (Or.inl rfl)) (pss_one (ps_if (pt_cmpR op_eq (pe_slice sl_str (pe_ix ix_list (pv 1) (pv 4) (fun _ _ => rfl)) po_none (po_some pe_int)) pe_str (nomark _)) (pss_one (ps_expr (pe_bm PySem.F.plainAttrs_list PySem.F.slot_list_append PySem.F.type_list_append mt_append (pe_ix ix_list (pv 3) (pe_un un_neg pe_int) (fun _ _ => rfl)) (pa_cons (pe_slice sl_str (pe_ix ix_list (pv 1) (pv 4) (fun _ _ => rfl)) (po_some pe_int) po_none) pa_nil)))) (pss_one (ps_if (PW.pt (pw_and (pt_cmpR op_eq (pe_ix ix_list (pv 1) (pv 4) (fun _ _ => rfl)) pe_str (nomark _)) (pw_and1 (pt_cmpR op_gt (pe_callB call_len_seq (by rfl) T.len PySem.boot_len (pa_cons (pe_ix ix_list (pv 3) (pe_un un_neg pe_int) (fun _ _ => rfl)) pa_nil)) pe_int (nomark _))))) (pss_one (ps_expr (pe_bm PySem.F.plainAttrs_list PySem.F.slot_list_append PySem.F.type_list_append mt_append (pv 3) (pa_cons (pe_lst pa_nil) pa_nil)))) (pss_one (ps_bad B (hr.mono (by omega)) (Qx.takes_of rfl rfl rfl rfl).n (pa_cons (pe_ix ix_list (pv 2) (pv 4) (fun _ _ => rfl)) pa_nil)))))))) (pss_cons (ps_if (pt_cmpR op_eq (pe_callB call_len_seq (by rfl) T.len PySem.boot_len (pa_cons (pe_ix ix_list (pv 3) (pe_un un_neg pe_int) (fun _ _ => rfl)) pa_nil)) pe_int (nomark _)) (pss_one (ps_bad B (hr.mono (by omega)) (Qx.takes_of rfl rfl rfl rfl).n (pa_cons (pe_ix ix_list (pv 2) (pe_un un_neg pe_int) (fun _ _ => rfl)) pa_nil))) pss_nil) (pss_cons (Qx.ps_try_asX (i := 6) rfl rfl scReadDossier.nd rfl rfl ⟨rfl, by decide, .inl R.m⟩ (L2H.passesAt_of rfl) (Qx.takes_of rfl rfl rfl rfl) (fun W pn xe tk po => (pss_one (ps_set (i := 5) scReadDossier.nd rfl (Or.inl rfl) (pe_dS d_read_value (hr.mono (by omega)) (fun σ => L2N.passAt tk σ) (pa_cons (pe_slice sl_str (pe_ix (r := rIxL K) ix_list (pv 1) (pe_un un_neg pe_int) (fun _ _ => rfl)) (po_some pe_int) po_none) pa_nil))))) (fun a oe cls d pn xe hz hx tk => (pss_one (ps_badN B (hr.mono (by omega)) hx tk (hta a cls d) (pa_cons (pe_op op_add (pe_op op_add (pe_ix (r := rIxL K) ix_list (pv 2) (pe_un un_neg pe_int) (fun _ _ => rfl)) pe_int) (pe_atX R.err hz hx (pv 6))) pa_nil))))) (pss_one (ps_ret (pe_tup (pa_cons (pe_slice sl_str (pe_ix ix_list (pv 1) pe_int (fun _ _ => rfl)) (po_some pe_int) po_none) (pa_cons (pe_callTy call_tuple_of (by rfl) T.tuple (by decide +kernel) (pa_cons (pe_lc (own := [("part", 7)]) (g := gName 7) (tt := tYes) rfl scReadDossier.nd (pi_list (pv 3)) (blkOk_by (own := [("part", 7)]) (N := ["text", "rows", "places", "texts", "k", "paper", "fault", "part"]) (sc := defScope sReadDossier) (by decide +kernel)) (fun _ _ _ _ _ => pg_name (i := 7) scReadDossier.nd rfl (Or.inl rfl)) (fun _ _ _ _ _ => pts_nil) (fun _ _ _ _ _ => (pe_op op_add_str (pe_m1 (r := rJn K) PySem.F.slot_str_join PySem.F.type_str_join mt_join pe_str (pv 7)) pe_str))) pa_nil)) (pa_cons (pv 5) pa_nil)))))))))))))), ?_⟩
  have hml : (mk l).length = l.length := mk_len l
  refine ⟨_, rfl, ⟨_, rfl⟩, _, _, rfl, rfl, nl_len, (by rw [hml]; exact sz (by omega)), fun A hA => ?_⟩
  rw [split_lns]
  generalize hR : lns l = R at *
  have hj : joinL [10] R = l := by rw [← hR]; exact lns_join l
  have hRn : R ≠ [] := by rw [← hR]; exact lns_ne l
  obtain ⟨H1, e1⟩ : ∃ H1, H1 = upd H A (.lst (vs_ R)) := ⟨_, rfl⟩
  rw [← e1]
  have s1 : Same H H1 := by rw [e1]; exact same_new hA _
  have eA : H1 A = some (.lst (vs_ R)) := by rw [e1]; exact upd_same
  refine ⟨_, rfl, A, R, rfl, eA, by rw [hj]; omega, fun P H2 s2 hP eP => ?_⟩
  have s02 := s1.trans s2
  have eA2 := s2 _ _ eA
  have hlr : lsum R ≤ l.length + 1 := by rw [← hj]; exact lsum_join R
  have hnR := lsum_len R
  obtain ⟨r0, R', rfl⟩ : ∃ r0 R', R = r0 :: R' := by
    cases R with
    | nil => exact absurd rfl hRn
    | cons r0 R' => exact ⟨r0, R', rfl⟩
  have hrow : ∀ {i : Nat} {r : List Nat}, (r0 :: R')[i]? = some r → r.length ≤ l.length := fun {i r} h => by
    have := row_le h
    rw [hj] at this; exact this
  have hplc : ∀ {i : Nat} {r : List Nat}, (r0 :: R')[i]? = some r → ∃ k, ((plc 0 (r0 :: R')).map fun n : Nat => V.int (n : Int))[i]? = some (.int ((k : Nat) : Int)) ∧ k + r.length ≤ l.length := fun {i r} h => by
    obtain ⟨k, e, hk⟩ := plc_get 0 _ i r h
    rw [hj, Nat.zero_add] at hk
    exact ⟨k, by rw [List.getElem?_map, e]; rfl, hk⟩
  have refn : dparse (r0 :: R') = none → Bad C l.length H E := fun h => hbad (ref_none (by rw [hR]; exact h))
  have lv : ∀ r : List Nat, r.length ≤ l.length → (mk r).length ≤ sizeLine := fun r h => by rw [mk_len]; exact sz (by omega)
  -- the first row, and how many there are
  have ec8 : cutS (mk r0) none (some 8) = mk (r0.take 8) := cut_hi (i := 8)
  refine ⟨_, rfl, A, _, _, _, rfl, rfl, SqL.of eA2, at_of (j := 0) rfl (vs_at rfl), _, rfl, mk r0, rfl, lv r0 (hrow (i := 0) rfl), ?_⟩
  rw [ec8]
  refine ⟨rfl, _, rfl, ?_⟩
  by_cases h8 : r0.take 8 = dosL
  rotate_left
  · rw [show decide (V.str (mk (r0.take 8)) = V.str (Str.ofString "dossier ")) = false from decide_eq_false fun z => h8 (mk_eq.mp z)]
    exact iteT (iteT ⟨_, rfl, fun dx hdx => refn (dp_head h8) H2 dx 0 s02 hdx (by omega) (by omega)⟩)
  rw [show decide (V.str (mk (r0.take 8)) = V.str (Str.ofString "dossier ")) = true from decide_eq_true (mk_eq.mpr h8)]
  refine iteF ⟨_, rfl, A, _, rfl, .inl (SqL.of eA2), _, _, rfl, rfl, _, rfl, ?_⟩
  by_cases h4 : 4 ≤ (r0 :: R').length
  rotate_left
  · rw [show decide ((((vs_ (r0 :: R')).length : Nat) : Int) < 4) = true from decide_eq_true (by rw [vs_len]; omega)]
    refine iteT ⟨_, rfl, fun dx hdx => refn ?_ H2 dx 0 s02 hdx (by omega) (by omega)⟩
    unfold dparse; rw [if_neg fun z => h4 z.2.1]
  rw [show decide ((((vs_ (r0 :: R')).length : Nat) : Int) < 4) = false from decide_eq_false (by rw [vs_len]; omega)]
  refine iteF ?_
  -- the last two rows
  obtain ⟨n, hn⟩ : ∃ n, (r0 :: R').length = n := ⟨_, rfl⟩
  obtain ⟨y, hy⟩ : ∃ y, (r0 :: R')[n - 1]? = some y := ⟨_, List.getElem?_eq_getElem (by omega)⟩
  obtain ⟨x2, hx2⟩ : ∃ x, (r0 :: R')[n - 2]? = some x := ⟨_, List.getElem?_eq_getElem (by omega)⟩
  have gy : (r0 :: R').getD ((r0 :: R').length - 1) [] = y := by rw [hn, List.getD_eq_getElem?_getD, hy]; rfl
  have gx : (r0 :: R').getD ((r0 :: R').length - 2) [] = x2 := by rw [hn, List.getD_eq_getElem?_getD, hx2]; rfl
  have nv : (vs_ (r0 :: R')).length = n := by rw [vs_len, hn]
  have atY : atI (vs_ (r0 :: R')) (-1) = some (.str (mk y)) := at_back (k := 1) (by decide) (by omega) (by rw [nv]; exact vs_at hy)
  have atX : atI (vs_ (r0 :: R')) (-2) = some (.str (mk x2)) := at_back (k := 2) (by decide) (by omega) (by rw [nv]; exact vs_at hx2)
  obtain ⟨px, epx, hpx⟩ := hplc hx2
  have lp : ((plc 0 (r0 :: R')).map fun n : Nat => V.int (n : Int)).length = n := by rw [List.length_map, plc_len, hn]
  have atP : atI ((plc 0 (r0 :: R')).map fun n : Nat => V.int (n : Int)) (-2) = some (.int ((px : Nat) : Int)) := at_back (k := 2) (by decide) (by omega) (by rw [lp]; exact epx)
  have ec2 : cutS (mk x2) none (some 2) = mk (x2.take 2) := cut_hi (i := 2)
  refine ⟨_, rfl, _, rfl, A, _, _, _, rfl, rfl, SqL.of eA2, atY, rfl, _, rfl, ?_⟩
  have raise2 : dparse (r0 :: R') = none → ∀ (H3 : Hp), Same H2 H3 → ∀ dx, H3 dx = none → E (.ref C) (some dx) (upd H3 dx (.xd [(("at" : Str), .int ((px : Nat) : Int))])) := fun h H3 s3 dx hdx => refn h H3 dx _ (s02.trans s3) hdx (by omega) (by omega)
  by_cases hy0 : y = []
  rotate_left
  · rw [show decide (V.str (mk y) = V.str (Str.ofString "")) = false from decide_eq_false fun z => hy0 (mk_eq.mp z)]
    refine iteT (iteT ⟨_, rfl, _, rfl, P, _, _, _, rfl, rfl, SqL.of eP, atP, _, rfl, fun dx hdx => raise2 ?_ H2 (.refl _) dx hdx⟩)
    unfold dparse; rw [if_neg fun z => hy0 (by rw [← gy]; exact z.2.2.1)]
  rw [show decide (V.str (mk y) = V.str (Str.ofString "")) = true from decide_eq_true (by rw [hy0]; rfl)]
  refine iteF ⟨_, rfl, _, rfl, A, _, _, _, rfl, rfl, SqL.of eA2, atX, _, rfl, mk x2, rfl, lv x2 (hrow hx2), ?_⟩
  rw [ec2]
  refine ⟨rfl, _, rfl, ?_⟩
  by_cases h61 : x2.take 2 = [61, 32]
  rotate_left
  · rw [show decide (V.str (mk (x2.take 2)) = V.str (Str.ofString "= ")) = false from decide_eq_false fun z => h61 (mk_eq.mp z)]
    refine iteT ⟨_, rfl, _, rfl, P, _, _, _, rfl, rfl, SqL.of eP, atP, _, rfl, fun dx hdx => raise2 ?_ H2 (.refl _) dx hdx⟩
    unfold dparse; rw [if_neg fun z => h61 (by rw [← gx]; exact z.2.2.2)]
  rw [show decide (V.str (mk (x2.take 2)) = V.str (Str.ofString "= ")) = true from decide_eq_true (mk_eq.mpr h61)]
  refine iteF ?_
  have hcond : ((r0 :: R').headD []).take 8 = dosL ∧ 4 ≤ (r0 :: R').length ∧ (r0 :: R').getD ((r0 :: R').length - 1) [] = [] ∧ ((r0 :: R').getD ((r0 :: R').length - 2) []).take 2 = [61, 32] := ⟨h8, h4, by rw [gy, hy0], by rw [gx, h61]⟩
  obtain ⟨M, eM⟩ : ∃ M, M = ((r0 :: R').drop 1).take (n - 3) := ⟨_, rfl⟩
  have hpar : ∀ done cur, groups (some ([], [])) M = some (done, cur) → dparse (r0 :: R') = if cur = [] then none else some (r0.drop 8, done ++ [cur], x2.drop 2) := fun done cur h => by
    unfold dparse
    rw [if_pos hcond, hn, ← eM, h, ← hn, gx]; rfl
  have hparn : groups (some ([], [])) M = none → dparse (r0 :: R') = none := fun h => by
    unfold dparse
    rw [if_pos hcond, hn, ← eM, h]
  have hMl : M.length = n - 3 := by
    rw [eM, List.length_take, List.length_drop, hn]; omega
  have hMg : ∀ i r, M[i]? = some r → (r0 :: R')[1 + i]? = some r := fun i r h => by
    have hi := (List.getElem?_eq_some_iff.mp h).1
    rw [eM, List.getElem?_take_of_lt (by omega), List.getElem?_drop] at h
    exact h
  have hMs : lsum M ≤ l.length + 1 := by
    have a1 : lsum ((r0 :: R').drop 1) ≤ lsum (r0 :: R') := by
      conv => rhs; rw [← List.take_append_drop 1 (r0 :: R'), lsum_app]
      omega
    have a2 : lsum M ≤ lsum ((r0 :: R').drop 1) := by
      conv => rhs; rw [← List.take_append_drop (n - 3) ((r0 :: R').drop 1), lsum_app, ← eM]
      omega
    omega
  -- the groups
  refine ⟨big 0 (by decide), fun b hb => ⟨big 1 (by decide), fun Tx hTx => ?_⟩⟩
  have rw0 := Rw.init hb hTx
  refine ⟨fun σ H' => ∃ (done : List Grp) (cur : Grp) (as : List Addr) (v4 v7 : Option V), σ = [some (.str (mk l)), some (.ref A), some (.ref P), some (.ref Tx), v4, none, none, v7] ∧ groups (some ([], [])) M = some (done, cur) ∧ Rw H2 H' Tx as ((cur :: done.reverse).map vst) ∧ ∀ g ∈ cur :: done, lsum g ≤ lsum M, ?_, ?_⟩
  rotate_left
  · -- the loop
    intro nx hnx
    refine ⟨_, rfl, A, _, rfl, .inl (SqL.of (rw0.s _ _ eA2)), _, _, rfl, rfl, 1, _, rfl, ⟨by decide, by decide, by rw [nv]; omega, by rw [nv]; omega⟩, ?_⟩
    refine for_range (lo := 1) (n := ((((vs_ (r0 :: R')).length : Nat) : Int) - 2 - 1).toNat) (fun i σ H' => ∃ (done : List Grp) (cur : Grp) (as : List Addr) (v4 v7 : Option V), σ = [some (.str (mk l)), some (.ref A), some (.ref P), some (.ref Tx), v4, none, none, v7] ∧ groups (some ([], [])) (M.take i) = some (done, cur) ∧ Rw H2 H' Tx as ((cur :: done.reverse).map vst) ∧ ∀ g ∈ cur :: done, lsum g ≤ lsum (M.take i))
      ⟨[], [], [b], _, _, rfl, rfl, rw0, fun g hg => by rw [List.mem_singleton.mp hg]; exact Nat.zero_le _⟩ ?_ ?_
    · rintro i σ H' hi ⟨done, cur, as, v4, v7, rfl, hgr, hw, hls⟩
      have hi' : i < M.length := by rw [hMl]; rw [nv] at hi; omega
      obtain ⟨row, hrw⟩ : ∃ row, M[i]? = some row := ⟨_, List.getElem?_eq_getElem hi'⟩
      have hRi := hMg i row hrw
      have etk : M.take (i + 1) = M.take i ++ [row] := by rw [List.take_add_one, hrw]; rfl
      have hls1 : lsum (M.take (i + 1)) = lsum (M.take i) + (row.length + 1) := by
        rw [etk, lsum_app]; unfold lsum; simp
      have hlsM : lsum (M.take (i + 1)) ≤ lsum M := by
        conv => rhs; rw [← List.take_append_drop (i + 1) M, lsum_app]
        omega
      have hg1 : groups (some ([], [])) (M.take (i + 1)) = gstep (some (done, cur)) row := by
        rw [etk, groups_app, hgr]; rfl
      have eAi := hw.s _ _ eA2
      have atR : atI (vs_ (r0 :: R')) ((1 : Int) + (i : Int)) = some (.str (mk row)) := at_of (j := 1 + i) (by omega) (vs_at hRi)
      have ecr : cutS (mk row) none (some 2) = mk (row.take 2) := cut_hi (i := 2)
      obtain ⟨a1, as1, rfl⟩ := Rw.cons (q := vst cur) (rows := done.reverse.map vst) hw
      obtain ⟨xs, ex, hxs⟩ := Rw.top (q := vst cur) (rows := done.reverse.map vst) hw
      have exs := ats_vs hxs
      subst exs
      have hcl := hls cur (by simp)
      have hcn := lsum_len cur
      refine ⟨_, rfl, _, rfl, A, _, _, _, rfl, rfl, SqL.of eAi, atR, _, rfl, mk row, rfl, lv row (hrow hRi), ?_⟩
      rw [ecr]
      refine ⟨rfl, _, rfl, ?_⟩
      by_cases h124 : row.take 2 = [124, 32]
      · rw [show decide (V.str (mk (row.take 2)) = V.str (Str.ofString "| ")) = true from decide_eq_true (mk_eq.mpr h124)]
        have ecd : cutS (mk row) (some 2) none = mk (row.drop 2) := cut_lo (i := 2)
        refine iteT ⟨_, rfl, _, rfl, Tx, _, _, _, rfl, rfl, SqL.of hw.r, rev_last, .inl ⟨rfl, _, SqL.of ex⟩, _, rfl, _, rfl, A, _, _, _, rfl, rfl, SqL.of eAi, atR, _, rfl, mk row, rfl, lv row (hrow hRi), ?_⟩
        rw [ecd]
        obtain ⟨_, hw2⟩ := Rw.app (q := vst cur) (rows := done.reverse.map vst) hw ex (.str (mk (row.drop 2)))
        refine ⟨a1, _, _, rfl, rfl, ex, ?_, done, cur ++ [row.drop 2], a1 :: as1, _, _, rfl, ?_, ?_, fun g hg => ?_⟩
        · rw [vs_len]; exact Nat.lt_of_le_of_lt (show cur.length ≤ 1000002 by omega) (by decide)
        · rw [hg1]
          show (if row.take 2 = [124, 32] then some (done, cur ++ [row.drop 2]) else if row = [43] ∧ cur ≠ [] then some (done ++ [cur], []) else none) = _
          rw [if_pos h124]
        · have e : ((cur ++ [row.drop 2]) :: done.reverse).map vst = (vst cur ++ [Val.str (mk (row.drop 2))]) :: done.reverse.map vst := by simp
          rw [e]; exact hw2
        · rcases List.mem_cons.mp hg with e | hg
          · rw [e, lsum_app]
            have : lsum [row.drop 2] = (row.length - 2) + 1 := by unfold lsum; simp
            omega
          · have := hls g (List.mem_cons_of_mem _ hg); omega
      · rw [show decide (V.str (mk (row.take 2)) = V.str (Str.ofString "| ")) = false from decide_eq_false fun z => h124 (mk_eq.mp z)]
        obtain ⟨pk, epk, hpk⟩ := hplc hRi
        have atK : atI ((plc 0 (r0 :: R')).map fun n : Nat => V.int (n : Int)) ((1 : Int) + (i : Int)) = some (.int ((pk : Nat) : Int)) := at_of (j := 1 + i) (by omega) epk
        have badly : gstep (some (done, cur)) row = none → ∀ dx, H' dx = none → E (.ref C) (some dx) (upd H' dx (.xd [(("at" : Str), .int ((pk : Nat) : Int))])) := fun hst dx hdx => by
          refine refn (hparn ?_) H' dx _ (s02.trans hw.s) hdx (by omega) (by omega)
          rw [← List.take_append_drop (i + 1) M, groups_app, hg1, hst]
          exact gstep_none _
        refine iteF ⟨_, rfl, _, rfl, A, _, _, _, rfl, rfl, SqL.of eAi, atR, rfl, _, rfl, ?_⟩
        by_cases h43 : row = [43]
        · rw [show decide (V.str (mk row) = V.str (Str.ofString "+")) = true from decide_eq_true (mk_eq.mpr h43)]
          refine iteT ⟨_, rfl, _, rfl, Tx, _, _, _, rfl, rfl, SqL.of hw.r, rev_last, a1, _, rfl, .inl (SqL.of ex), _, _, rfl, rfl, _, rfl, ?_⟩
          by_cases hc0 : cur = []
          · rw [show decide ((((vs_ cur).length : Nat) : Int) > 0) = false from decide_eq_false (by rw [vs_len, hc0]; simp)]
            refine iteF ⟨_, rfl, _, rfl, P, _, _, _, rfl, rfl, SqL.of (hw.s _ _ eP), atK, _, rfl, badly ?_⟩
            show (if row.take 2 = [124, 32] then some (done, cur ++ [row.drop 2]) else if row = [43] ∧ cur ≠ [] then some (done ++ [cur], []) else none) = _
            rw [if_neg h124, if_neg fun z => z.2 hc0]
          · have hcp := List.length_pos_iff.mpr hc0
            rw [show decide ((((vs_ cur).length : Nat) : Int) > 0) = true from decide_eq_true (by rw [vs_len]; omega)]
            refine iteT ⟨_, rfl, .inl ⟨rfl, _, SqL.of hw.r⟩, big 0 (by decide), fun b2 hb2 => ?_⟩
            have nT : Tx ≠ b2 := ne_of_none hw.r hb2
            have hlen := hw.len
            have hdl : done.length ≤ M.length := by
              have : ∀ (L : List (List Nat)) (d0 : List Grp) (c0 : Grp) (d1 : List Grp) (c1 : Grp), groups (some (d0, c0)) L = some (d1, c1) → d1.length ≤ d0.length + L.length := by
                intro L
                induction L with
                | nil => intro d0 c0 d1 c1 h; cases h; exact Nat.le_refl _
                | cons r L ih =>
                  intro d0 c0 d1 c1 h
                  have h' : groups (gstep (some (d0, c0)) r) L = some (d1, c1) := h
                  have hg : gstep (some (d0, c0)) r = if r.take 2 = [124, 32] then some (d0, c0 ++ [r.drop 2]) else if r = [43] ∧ c0 ≠ [] then some (d0 ++ [c0], []) else none := rfl
                  rw [hg] at h'
                  split at h'
                  · have := ih _ _ _ _ h'; simp; omega
                  · split at h'
                    · have := ih _ _ _ _ h'; rw [List.length_append] at this; simp at this ⊢; omega
                    · rw [gstep_none] at h'; cases h'
              have := this _ _ _ _ _ hgr
              rw [List.length_take] at this
              simp at this; omega
            refine ⟨Tx, _, _, rfl, rfl, by rw [upd_ne nT]; exact hw.r, ?_, done ++ [cur], [], b2 :: a1 :: as1, _, _, rfl, ?_, ?_, fun g hg => ?_⟩
            · rw [rev_len, hlen, List.length_map, List.length_cons, List.length_reverse]
              exact Nat.lt_of_le_of_lt (show _ ≤ 1000003 by omega) (by decide)
            · rw [hg1]
              show (if row.take 2 = [124, 32] then some (done, cur ++ [row.drop 2]) else if row = [43] ∧ cur ≠ [] then some (done ++ [cur], []) else none) = _
              rw [if_neg h124, if_pos ⟨h43, hc0⟩]
            · have e : (([] : Grp) :: (done ++ [cur]).reverse).map vst = [] :: (cur :: done.reverse).map vst := by simp
              rw [e]; exact hw.push hb2
            · rcases List.mem_cons.mp hg with e | hg
              · rw [e]; exact Nat.zero_le _
              · rcases List.mem_append.mp hg with hg | hg
                · have := hls g (List.mem_cons_of_mem _ hg); omega
                · rw [List.mem_singleton.mp hg]; omega
        · rw [show decide (V.str (mk row) = V.str (Str.ofString "+")) = false from decide_eq_false fun z => h43 (mk_eq.mp z)]
          refine iteF (iteF ⟨_, rfl, _, rfl, P, _, _, _, rfl, rfl, SqL.of (hw.s _ _ eP), atK, _, rfl, badly ?_⟩)
          show (if row.take 2 = [124, 32] then some (done, cur ++ [row.drop 2]) else if row = [43] ∧ cur ≠ [] then some (done ++ [cur], []) else none) = _
          rw [if_neg h124, if_neg fun z => h43 z.1]
    · rintro σ H' ⟨done, cur, as, v4, v7, rfl, hgr, hw, hls⟩
      have et : M.take ((((vs_ (r0 :: R')).length : Nat) : Int) - 2 - 1).toNat = M := List.take_of_length_le (by rw [hMl, nv]; omega)
      rw [et] at hgr hls
      exact hnx _ _ ⟨done, cur, as, v4, v7, rfl, hgr, hw, hls⟩
  -- behind the loop
  rintro σ H' ⟨done, cur, as, v4, v7, rfl, hgr, hw, hls⟩
  obtain ⟨a1, as1, rfl⟩ := Rw.cons (q := vst cur) (rows := done.reverse.map vst) hw
  obtain ⟨xs, ex, hxs⟩ := Rw.top (q := vst cur) (rows := done.reverse.map vst) hw
  have exs := ats_vs hxs
  subst exs
  have hdp := hpar done cur hgr
  have eA3 := hw.s _ _ eA2
  have eP3 := hw.s _ _ eP
  have s03 := s02.trans hw.s
  refine ⟨_, rfl, _, rfl, Tx, _, _, _, rfl, rfl, SqL.of hw.r, rev_last, a1, _, rfl, .inl (SqL.of ex), rfl, _, rfl, ?_⟩
  by_cases hc0 : cur = []
  · rw [show decide (V.int (((vs_ cur).length : Nat) : Int) = V.int 0) = true from decide_eq_true (by rw [vs_len, hc0]; rfl)]
    refine iteT ⟨_, rfl, _, rfl, P, _, _, _, rfl, rfl, SqL.of eP3, atP, _, rfl, fun dx hdx => raise2 (by rw [hdp, if_pos hc0]) H' hw.s dx hdx⟩
  have hcp := List.length_pos_iff.mpr hc0
  rw [show decide (V.int (((vs_ cur).length : Nat) : Int) = V.int 0) = false from decide_eq_false (fun z => by injection z with z; rw [vs_len] at z; omega)]
  rw [if_neg hc0] at hdp
  refine iteF ?_
  -- the paper
  have ecp : cutS (mk x2) (some 2) none = mk (x2.drop 2) := cut_lo (i := 2)
  obtain ⟨r, hrun⟩ := runs_total (x2.drop 2).length [[]] .val (x2.drop 2) (Nat.le_refl _)
  have hx2l := hrow hx2
  have hx22 : 2 ≤ x2.length := by
    have := congrArg List.length h61
    rw [List.length_take] at this
    simp at this; omega
  refine ⟨_, rfl, _, rfl, A, _, _, _, rfl, rfl, SqL.of eA3, atX, _, rfl, mk x2, rfl, lv x2 hx2l, ?_⟩
  rw [ecp]
  refine ⟨x2.drop 2, r, rfl, by rw [List.length_drop]; omega, hrun, fun x hx v H4 s4 hv => ?_, fun hn0 H4 dx k s4 hdx k0 k1 => ⟨R.ex1, fun a ha => ?_⟩⟩
  rotate_left
  · -- the paper can't be read
    have hRef : Ref l := by
      unfold Ref
      intro p gs pt e
      rw [hR, hdp] at e
      cases e
      rw [hn0] at hrun
      exact hrun
    have s5 := same_new hdx (.xd [(("at" : Str), .int k)])
    have s35 := s4.trans s5
    refine ⟨_, rfl, _, rfl, P, _, _, _, rfl, rfl, SqL.of (s35 _ _ eP3), atP, _, _, rfl, rfl, _, rfl, rfl, rfl, dx, _, .int k, rfl, upd_same, rfl, _, _, rfl, rfl, _, rfl, fun dx2 hdx2 => ?_⟩
    rw [List.length_drop] at k1
    exact hbad hRef _ dx2 _ (s03.trans s35) hdx2 (by omega) (by omega)
  -- the answer
  have ecd : cutS (mk r0) (some 8) none = mk (r0.drop 8) := cut_lo (i := 8)
  have eA4 := s4 _ _ eA3
  refine ⟨_, rfl, A, _, _, _, rfl, rfl, SqL.of eA4, at_of (j := 0) rfl (vs_at rfl), _, rfl, mk r0, rfl, lv r0 (hrow (i := 0) rfl), ?_⟩
  rw [ecd]
  have eT4 := s4 _ _ hw.r
  have hlen := hw.len
  have hasl : as1.length = done.length := by
    rw [List.length_map, List.length_cons, List.length_cons, List.length_reverse] at hlen; omega
  refine ⟨_, rfl, Tx, rfl, ⟨_, SqL.of eT4⟩, fun D hD => ?_⟩
  obtain ⟨G, eG⟩ : ∃ G, G = done ++ [cur] := ⟨_, rfl⟩
  have hGl : G.length = done.length + 1 := by rw [eG, List.length_append]; rfl
  have hrefs : ∀ i v, (((a1 :: as1).map V.ref).reverse)[i]? = some v → ∃ (b : Addr) (g : Grp), v = V.ref b ∧ G[i]? = some g ∧ H' b = some (.lst (vs_ g)) := fun i v h => by
    have hi := (List.getElem?_eq_some_iff.mp h).1
    rw [rev_len, List.length_cons, hasl] at hi
    have hi2 : i < ((a1 :: as1).map V.ref).length := by rw [List.length_map, List.length_cons, hasl]; exact hi
    rw [List.getElem?_reverse hi2, List.getElem?_map] at h
    rw [List.length_map, List.length_cons, hasl] at h
    cases e : (a1 :: as1)[done.length + 1 - 1 - i]? with
    | none => rw [e] at h; cases h
    | some b =>
      rw [e] at h
      cases h
      have hgi : (cur :: done.reverse)[done.length + 1 - 1 - i]? = G[i]? := by
        have e2 : cur :: done.reverse = G.reverse := by rw [eG]; simp
        rw [e2, List.getElem?_reverse (by rw [hGl]; omega), hGl]
        congr 1; omega
      obtain ⟨g, hg⟩ : ∃ g, G[i]? = some g := ⟨_, List.getElem?_eq_getElem (by rw [hGl]; exact hi)⟩
      obtain ⟨ys, ey, hys⟩ := hw.row (done.length + 1 - 1 - i) b (vst g) e (by rw [List.getElem?_map, hgi, hg]; rfl)
      refine ⟨b, g, rfl, hg, ?_⟩
      rw [← ats_vs hys]; exact ey
  refine lc_list (K := K) (a := Tx) (xs := ((a1 :: as1).map V.ref).reverse) (fun i H5 => Same H4 H5 ∧ H5 D = some (.lst ((G.take i).map fun g => V.str (mk (gtext g))))) ⟨same_new hD _, by rw [upd_same]; rfl⟩ (fun i H5 _ z => SqL.of (z.1 _ _ eT4)) (fun i u H5 hu z => ?_) (fun H5 z => ?_)
  · obtain ⟨b, g, rfl, hg, eb⟩ := hrefs i u hu
    have hgm : g ∈ cur :: done := by
      have := List.mem_of_getElem? hg
      rw [eG] at this
      rcases List.mem_append.mp this with h | h
      · exact List.mem_cons_of_mem _ h
      · rw [List.mem_singleton.mp h]; simp
    have hgs := hls g hgm
    have hjg := joinL_lsum g
    have hil := (List.getElem?_eq_some_iff.mp hg).1
    have hdl2 : done.length ≤ 1000000 := by
      have a1 : done.length ≤ M.length := by
        have : ∀ (L : List (List Nat)) (d0 : List Grp) (c0 : Grp) (d1 : List Grp) (c1 : Grp), groups (some (d0, c0)) L = some (d1, c1) → d1.length ≤ d0.length + L.length := by
          intro L
          induction L with
          | nil => intro d0 c0 d1 c1 h; cases h; exact Nat.le_refl _
          | cons r L ih =>
            intro d0 c0 d1 c1 h
            have h' : groups (gstep (some (d0, c0)) r) L = some (d1, c1) := h
            have hg : gstep (some (d0, c0)) r = if r.take 2 = [124, 32] then some (d0, c0 ++ [r.drop 2]) else if r = [43] ∧ c0 ≠ [] then some (d0 ++ [c0], []) else none := rfl
            rw [hg] at h'
            split at h'
            · have := ih _ _ _ _ h'; simp; omega
            · split at h'
              · have := ih _ _ _ _ h'; rw [List.length_append] at this; simp at this ⊢; omega
              · rw [gstep_none] at h'; cases h'
        have := this _ _ _ _ _ hgr
        simp at this; omega
      omega
    refine ⟨rfl, ⟨_, rfl⟩, _, rfl, _, b, g.map mk, rfl, rfl, .inl (SqL.of (z.1 _ _ (s4 _ _ eb))), join_sz (n := 1000000) (by omega) (by decide), ?_⟩
    rw [join_mk]
    refine ⟨_, _, rfl, rfl, sz (by rw [mk_len]; have : (Str.ofString "\n").length = 1 := rfl; omega), ?_⟩
    rw [app_mk]
    refine ⟨_, z.2, ?_, Same.put z.1 hD _, ?_⟩
    · rw [List.length_map, List.length_take]; exact Nat.lt_of_le_of_lt (show _ ≤ 1000001 by omega) (by decide)
    · rw [upd_same, List.take_add_one, hg, List.map_append]; rfl
  · rw [rev_len, List.length_cons, hasl, ← hGl, List.take_length] at z
    refine ⟨D, _, rfl, .inl ⟨SqL.of z.2, fun t ht => ?_⟩⟩
    refine ⟨_, rfl, big 3 (by decide), fun t2 ht2 => ?_⟩
    have s6 := (z.1.trans (same_new ht (.tup (G.map fun g => V.str (mk (gtext g)))))).trans (same_new ht2 (.tup [V.str (mk (r0.drop 8)), V.ref t, v]))
    refine q (r0.drop 8) G (x2.drop 2) x (by rw [hdp, eG]) (by rw [← hx]; exact hrun) t2 t v _ (s03.trans (s4.trans s6)) upd_same ?_ (hv.mono (Same.tk s6))
    exact lst_upd upd_same ht2

end
end K93

/-! A dossier broken. -/
namespace K93
open PySem PySem.Spec PyProof.Rows L2 TL

theorem lsum_take (g : List (List Nat)) (k : Nat) : lsum (g.take k) ≤ lsum g := by
  conv => rhs; rw [← List.take_append_drop k g, lsum_app]
  omega
theorem lsum_drop (g : List (List Nat)) (k : Nat) : lsum (g.drop k) ≤ lsum g := by
  conv => rhs; rw [← List.take_append_drop k g, lsum_app]
  omega
theorem lsum_one (r : List Nat) : lsum [r] = r.length + 1 := by unfold lsum; simp
theorem cutV_lo (xs : List V) (i : Nat) : cutV xs (some (i : Int)) none = xs.drop i := by
  unfold cutV
  rw [HT.sIx_nat, HT.sIx_none]
  by_cases h : i ≤ xs.length
  · rw [Nat.min_eq_left h, List.take_of_length_le (by rw [List.length_drop]; omega)]
  · rw [Nat.min_eq_right (by omega), List.drop_eq_nil_of_le (Nat.le_refl _), List.drop_eq_nil_of_le (by omega), List.take_nil]
theorem cutV_hi (xs : List V) (i : Nat) : cutV xs none (some (i : Int)) = xs.take i := by
  unfold cutV
  rw [HT.sIx_nat, HT.sIx_none, List.drop_zero, Nat.sub_zero]
  by_cases h : i ≤ xs.length
  · rw [Nat.min_eq_left h]
  · rw [Nat.min_eq_right (by omega), List.take_of_length_le (Nat.le_refl _), List.take_of_length_le (by omega)]
theorem vs_drop (R : List (List Nat)) (k : Nat) : (vs_ R).drop k = vs_ (R.drop k) := by simp [List.map_drop]
theorem vs_take (R : List (List Nat)) (k : Nat) : (vs_ R).take k = vs_ (R.take k) := by simp [List.map_take]
theorem cut_init (l : List Nat) (c : Nat) : cutS (mk (l ++ [c])) none (some (-1)) = mk l := by
  unfold cutS
  have e1 : HT.sIx (mk (l ++ [c])).length 0 none = 0 := rfl
  have e2 : HT.sIx (mk (l ++ [c])).length (mk (l ++ [c])).length (some (-1)) = l.length := by
    show (if (-1 : Int) < 0 then ((-1 : Int) + ((mk (l ++ [c])).length : Int)).toNat else min (-1 : Int).toNat (mk (l ++ [c])).length) = _
    rw [if_pos (by decide), mk_len, List.length_append]; simp; omega
  rw [e1, e2]
  show mk (((l ++ [c]).drop 0).take (l.length - 0)) = _
  simp
/-- the first word of a dossier -/
structure Part (p : List Nat) : Prop where
  len : p.length ≤ 14
  no : 10 ∉ p
  head : ∃ c r, p = c :: r ∧ c ≠ 32 ∧ c ≠ 100
def ali : List String := ["", "|", "word x", " | x", "=3", "++", "x", "dossier"]
theorem ali_ok : ∀ s ∈ ali, (tl (Str.ofString s)).take 8 ≠ dosL ∧ badRow (tl (Str.ofString s)) ∧ (tl (Str.ofString s)).take 2 ≠ [61, 32] ∧ 10 ∉ tl (Str.ofString s) ∧ (tl (Str.ofString s)).length ≤ 10 := by
  unfold badRow
  decide +kernel
def heads (p : List Nat) : List (List Nat) := [tl (Str.ofString "dossier"), tl (Str.ofString "Dossier ") ++ p, tl (Str.ofString " ") ++ (dosL ++ p), p, tl (Str.ofString "dossier") ++ p]
theorem heads_ok {p : List Nat} (h : Part p) : ∀ r ∈ heads p, r.take 8 ≠ dosL ∧ 10 ∉ r ∧ r.length ≤ 40 := by
  obtain ⟨c, q, rfl, h1, h2⟩ := h.head
  have hl := h.len
  have hno := h.no
  have ed : dosL = [100, 111, 115, 115, 105, 101, 114, 32] := by decide +kernel
  have e7 : tl (Str.ofString "dossier") = [100, 111, 115, 115, 105, 101, 114] := by decide +kernel
  have eD : tl (Str.ofString "Dossier ") = [68, 111, 115, 115, 105, 101, 114, 32] := by decide +kernel
  have es : tl (Str.ofString " ") = [32] := rfl
  intro r hr
  unfold heads at hr
  rw [ed, e7, eD, es] at hr
  rw [ed]
  simp only [List.mem_cons, List.not_mem_nil, or_false] at hr
  have hno' : 10 ∉ q ∧ c ≠ 10 := ⟨fun z => hno (List.mem_cons_of_mem _ z), fun z => hno (by rw [z]; simp)⟩
  simp only [List.length_cons] at hl
  rcases hr with rfl | rfl | rfl | rfl | rfl
  · exact ⟨by decide, by decide, by decide⟩
  · refine ⟨by simp, by simp; exact ⟨hno'.2.symm, hno'.1⟩, by simp; omega⟩
  · refine ⟨by simp, by simp; exact ⟨hno'.2.symm, hno'.1⟩, by simp; omega⟩
  · refine ⟨by simp; exact fun z => absurd z h2, by simp; exact ⟨hno'.2.symm, hno'.1⟩, by simp; omega⟩
  · refine ⟨by simp; exact h1, by simp; exact ⟨hno'.2.symm, hno'.1⟩, by simp; omega⟩
section
variable {P : Program} {w : World} {K : PySem.W.Frag} {mg : Str → Option Value} {base : Heap} {f : Addr} {fd : FuncData}

def spBroken : Sp := fun vs H Q _ => ∃ (d c : Addr) (p : List Nat) (gs : List Grp) (x : Val), vs = [.ref d, .str (mk (dtext p gs (txt x)))] ∧ Dr H d c ∧ Part p ∧ Sms gs ∧ Vd 3 x ∧ ∀ l H', Ref l → l.length ≤ 900000 → Fr d c H H' → Q (.str (mk l)) H'
abbrev sLawBroken : Stmt := top 42
theorem scLawBroken : FnScope ["d", "text", "rows", "kind", "place", "alien", "head"] ["d", "text"] (defScope sLawBroken) := ⟨rfl, rfl, rfl, by decide +kernel, rfl, by decide +kernel, by decide +kernel⟩
theorem ok_broken (T : Mo mg) (F : Fun K "_law_broken" "_law_broken" sLawBroken f fd) (d_l_draw : Df P w K mg base CX0 1 "_law_draw" ["d", "many"] spDraw) (d_l_pick : Df P w K mg base CX0 2 "_law_pick" ["d", "row"] spPick) : FnOk P w K mg base CX0 3 f fd ["d", "text"] spBroken := by
  refine F.ok scLawBroken (fun vs H Q E h => ?_) (fun cdv A outer s H vs Q E hr h => ?_)
  · obtain ⟨d, c, p, gs, x, rfl, _⟩ := h
    rfl
  obtain ⟨d, c, p, gs, x, rfl, D, hP, hS, hV, q⟩ := h

  refine ⟨_, (pss_cons (ps_set (i := 2) scLawBroken.nd rfl (Or.inl rfl) (pe_slice sl_list (pe_split (pv 1) pe_str) po_none (po_some (pe_un un_neg pe_int)))) (pss_cons (ps_set (i := 3) scLawBroken.nd rfl (Or.inl rfl) (pe_d d_l_draw (hr.mono (by omega)) (pa_cons (pv 0) (pa_cons pe_int pa_nil)))) (pss_cons (ps_set (i := 4) scLawBroken.nd rfl (Or.inl rfl) (pe_op op_add pe_int (pe_d d_l_draw (hr.mono (by omega)) (pa_cons (pv 0) (pa_cons (pe_op op_sub (pe_callB call_len_seq (by rfl) T.len PySem.boot_len (pa_cons (pv 2) pa_nil)) pe_int) pa_nil))))) (pss_cons (ps_if (pt_cmpR op_eq (pv 3) pe_int (nomark _)) (pss_one (ps_ret (pe_slice sl_str (pv 1) po_none (po_some (pe_un un_neg pe_int))))) pss_nil) (pss_cons (ps_if (pt_cmpR op_eq (pv 3) pe_int (nomark _)) (pss_one (ps_ret (pe_op op_add_str (pv 1) pe_str))) pss_nil) (pss_cons (ps_if (pt_cmpR op_eq (pv 3) pe_int (nomark _)) (pss_one (ps_ret (pe_op op_add_str (pe_join pe_str (pe_slice sl_list (pv 2) (po_some pe_int) po_none)) pe_str))) pss_nil) (pss_cons (ps_if (pt_cmpR op_eq (pv 3) pe_int (nomark _)) (pss_one (ps_ret (pe_op op_add_str (pe_join pe_str (pe_slice sl_list (pv 2) po_none (po_some (pe_un un_neg pe_int)))) pe_str))) pss_nil) (pss_cons (ps_if (pt_cmpR op_eq (pv 3) pe_int (nomark _)) (pss_one (ps_ret (pe_op op_add_str (pe_join pe_str (pe_op op_cat (pe_op op_cat (pe_slice sl_list (pv 2) po_none (po_some (pv 4))) (pe_lst (pa_cons (pe_op op_add_str pe_str (pe_slice sl_str (pe_ix ix_list (pv 2) (pv 4) (fun _ _ => rfl)) (po_some pe_int) po_none)) pa_nil))) (pe_slice sl_list (pv 2) (po_some (pe_op op_add (pv 4) pe_int)) po_none))) pe_str))) pss_nil) (pss_cons (ps_if (pt_cmpR op_eq (pv 3) pe_int (nomark _)) (pss_cons (ps_set (i := 4) scLawBroken.nd rfl (Or.inl rfl) (pe_d d_l_draw (hr.mono (by omega)) (pa_cons (pv 0) (pa_cons (pe_op op_add (pe_callB call_len_seq (by rfl) T.len PySem.boot_len (pa_cons (pv 2) pa_nil)) pe_int) pa_nil)))) (pss_cons (ps_set (i := 5) scLawBroken.nd rfl (Or.inl rfl) (pe_d d_l_pick (hr.mono (by omega)) (pa_cons (pv 0) (pa_cons (pe_lst (pa_cons pe_str (pa_cons pe_str (pa_cons pe_str (pa_cons pe_str (pa_cons pe_str (pa_cons pe_str (pa_cons pe_str (pa_cons pe_str pa_nil))))))))) pa_nil)))) (pss_one (ps_ret (pe_op op_add_str (pe_join pe_str (pe_op op_cat (pe_op op_cat (pe_slice sl_list (pv 2) po_none (po_some (pv 4))) (pe_lst (pa_cons (pv 5) pa_nil))) (pe_slice sl_list (pv 2) (po_some (pv 4)) po_none))) pe_str))))) pss_nil) (pss_cons (ps_if (pt_cmpR op_eq (pv 3) pe_int (nomark _)) (pss_cons (ps_set (i := 6) scLawBroken.nd rfl (Or.inl rfl) (pe_d d_l_pick (hr.mono (by omega)) (pa_cons (pv 0) (pa_cons (pe_lst (pa_cons pe_str (pa_cons (pe_op op_add_str pe_str (pe_slice sl_str (pe_ix ix_list (pv 2) pe_int (fun _ _ => rfl)) (po_some pe_int) po_none)) (pa_cons (pe_op op_add_str pe_str (pe_ix ix_list (pv 2) pe_int (fun _ _ => rfl))) (pa_cons (pe_slice sl_str (pe_ix ix_list (pv 2) pe_int (fun _ _ => rfl)) (po_some pe_int) po_none) (pa_cons (pe_op op_add_str pe_str (pe_slice sl_str (pe_ix ix_list (pv 2) pe_int (fun _ _ => rfl)) (po_some pe_int) po_none)) pa_nil)))))) pa_nil)))) (pss_one (ps_ret (pe_op op_add_str (pe_join pe_str (pe_op op_cat (pe_lst (pa_cons (pv 6) pa_nil)) (pe_slice sl_list (pv 2) (po_some pe_int) po_none))) pe_str)))) pss_nil) (pss_cons (ps_if (pt_cmpR op_eq (pv 3) pe_int (nomark _)) (pss_one (ps_ret (pe_op op_add_str (pe_op op_add_str (pv 1) (pe_ix ix_list (pv 2) (pe_un un_neg pe_int) (fun _ _ => rfl))) pe_str))) pss_nil) (pss_one (ps_ret (pe_op op_add_str (pe_join pe_str (pe_op op_cat (pe_slice sl_list (pv 2) po_none (po_some (pe_un un_neg pe_int))) (pe_lst (pa_cons (pe_op op_add_str (pe_op op_add_str pe_str (pe_slice sl_str (pe_ix ix_list (pv 2) (pe_un un_neg pe_int) (fun _ _ => rfl)) (po_some pe_int) po_none)) pe_str) pa_nil)))) pe_str)))))))))))))), ?_⟩
  have hgs := hS.gs
  have hpt10 := txt_no10 3 x hV.d hV.g
  have hb : (txt x).length ≤ 20000 := Nat.le_trans hV.t (by decide)
  have hdl := dtext_len (pt := txt x) hP.len hS
  obtain ⟨pt, ept⟩ : ∃ pt, pt = txt x := ⟨_, rfl⟩
  obtain ⟨Dw, eD⟩ : ∃ Dw, Dw = drows p gs pt := ⟨_, rfl⟩
  have etx : dtext p gs (txt x) = joinL [10] Dw ++ [10] := by rw [← ept, eD]; rfl
  rw [etx] at hdl ⊢
  rw [← ept] at hb hpt10 hdl
  have hno : ∀ r ∈ Dw, 10 ∉ r := by rw [eD]; exact drows_no hP.no hgs hpt10
  have hDne : Dw ≠ [] := by rw [eD]; unfold drows; simp
  have hsD : lsum Dw ≤ 30000 := by
    have := lsum_join Dw
    rw [List.length_append] at hdl
    simp at hdl; omega
  have hDn := lsum_len Dw
  have hdr : ∀ j, (Dw.drop j).length ≤ Dw.length := fun j => by rw [List.length_drop]; omega
  have htk : ∀ j, (Dw.take j).length ≤ Dw.length := fun j => by rw [List.length_take]; omega
  have hmn := List.length_pos_iff.mpr (mid_ne hgs)
  have eDc : Dw = (dosL ++ p) :: (mid gs ++ [eqr pt]) := eD
  have hD3 : 3 ≤ Dw.length := by rw [eDc]; simp; omega
  have hTl : (joinL [10] Dw ++ [10]).length ≤ 30000 := by omega
  refine ⟨_, rfl, ⟨_, rfl⟩, _, _, rfl, rfl, nl_len, (by rw [mk_len]; exact sz (by omega)), fun S0 hS0 => ?_⟩
  rw [split_lns, lns_end hDne hno]
  have ecut : cutV (((Dw ++ [[]]).map mk).map V.str) none (some (-1)) = vs_ Dw := by
    rw [List.map_append, List.map_append]; exact cut_last _ _
  refine ⟨_, rfl, _, rfl, S0, _, rfl, SqL.of upd_same, fun Ro hRo => ?_⟩
  have f1 := ((Fr.refl D).new hS0 (.lst (((Dw ++ [[]]).map mk).map V.str)))
  have f2 := f1.new hRo (.lst (cutV (((Dw ++ [[]]).map mk).map V.str) none (some (-1))))
  have nR : Ro ≠ d := f1.d.ne hRo
  have eR0 : upd (upd H S0 (.lst (((Dw ++ [[]]).map mk).map V.str))) Ro (.lst (cutV (((Dw ++ [[]]).map mk).map V.str) none (some (-1)))) Ro = some (.lst (vs_ Dw)) := by rw [upd_same, ecut]
  refine ⟨_, rfl, d, c, 9, rfl, f2.d, by decide, by decide, fun kd H3 b3 k0 k1 => ?_⟩
  have eR3 := b3.at nR eR0
  refine ⟨_, rfl, _, rfl, Ro, _, rfl, .inl (SqL.of eR3), _, _, rfl, rfl, d, c, _, rfl, b3.d, by rw [vs_len]; omega, by rw [vs_len]; omega, fun pl H4 b4 p0 p1 => ⟨_, _, rfl, rfl, ?_⟩⟩
  rw [vs_len] at p1
  have eR := b4.at nR eR3
  have f4 := (f2.trans b3).trans b4
  have fin : ∀ (l : List Nat) (H5 : Hp), Same H4 H5 → Ref l → l.length ≤ 900000 → Q (.str (mk l)) H5 := fun l H5 s hr hl => q l H5 hr hl (f4.same s)
  have finR : ∀ (R' : List (List Nat)) (H5 : Hp), Same H4 H5 → R' ≠ [] → (∀ r ∈ R', 10 ∉ r) → lsum R' ≤ 800000 → dparse (R' ++ [[]]) = none → Q (.str (mk (joinL [10] R' ++ [10]))) H5 := fun R' H5 s hne hno hl hd => fin _ H5 s (ref_none (by rw [lns_end hne hno]; exact hd)) (by
    have := joinL_lsum R'
    rw [List.length_append]; simp; omega)
  have jn : ∀ (R' : List (List Nat)), lsum R' ≤ 800000 → ((R'.map mk).map (·.length)).sum + (R'.map mk).length * NL.length ≤ 16777216 := fun R' h => join_sz (n := 800000) (Nat.le_trans (joinL_lsum _) h) (by decide)
  have ap : ∀ (R' : List (List Nat)), lsum R' ≤ 800000 → (mk (joinL [10] R')).length + (Str.ofString "\n").length ≤ sizeLine := fun R' h => sz (by
    have := joinL_lsum R'
    have : (Str.ofString "\n").length = 1 := rfl
    rw [mk_len]; omega)
  -- 0: the last line's end gone
  refine ⟨_, rfl, rfl, _, rfl, ite2 (fun _ => ?_) (fun _ => ?_)⟩
  · refine ⟨_, rfl, _, rfl, _, rfl, mk (joinL [10] Dw ++ [10]), rfl, (by rw [mk_len]; exact sz (by omega)), ?_⟩
    rw [show cutS (mk (joinL [10] Dw ++ [10])) none (some ((fun i : Int => (-i)) 1)) = mk (joinL [10] Dw) from cut_init _ _]
    refine fin _ H4 (.refl _) (ref_none ?_) (by rw [List.length_append] at hTl; omega)
    rw [join_lns hDne hno, eDc, show (dosL ++ p) :: (mid gs ++ [eqr pt]) = ((dosL ++ p) :: mid gs) ++ [eqr pt] from rfl]
    exact dp_last (by unfold eqr; simp)
  -- 1: an empty line behind
  refine ⟨_, rfl, rfl, _, rfl, ite2 (fun _ => ?_) (fun _ => ?_)⟩
  · refine ⟨_, rfl, _, _, rfl, rfl, sz (by rw [mk_len]; have : (Str.ofString "\n").length = 1 := rfl; omega), ?_⟩
    rw [app_mk]
    have e : tl (mk (joinL [10] Dw ++ [10])) ++ tl (Str.ofString "\n") = joinL [10] (Dw ++ [[]]) ++ [10] := by
      rw [joinL_app hDne (by simp)]; rfl
    rw [e]
    refine finR _ H4 (.refl _) (by simp) (fun r hr => ?_) (by rw [lsum_app, lsum_one]; simp; omega) ?_
    · rcases List.mem_append.mp hr with hr | hr
      · exact hno r hr
      · rw [List.mem_singleton.mp hr]; simp
    · rw [List.append_assoc]
      exact dp_eq (A := Dw) (by decide)
  -- 2: without the first line
  refine ⟨_, rfl, rfl, _, rfl, ite2 (fun _ => ?_) (fun _ => ?_)⟩
  · have ec : cutV (vs_ Dw) (some 1) none = vs_ (Dw.drop 1) := (cutV_lo (vs_ Dw) 1).trans (vs_drop Dw 1)
    have hl : lsum (Dw.drop 1) ≤ 800000 := by have := lsum_drop Dw 1; omega
    refine ⟨⟨_, rfl⟩, _, rfl, _, rfl, Ro, _, rfl, SqL.of eR, fun P2 hP2 => ⟨_, P2, (Dw.drop 1).map mk, rfl, rfl, .inl (SqL.of (upd_same.trans (congrArg (fun z => some (HO.lst z)) ec))), jn _ hl, ?_⟩⟩
    rw [join_mk]
    refine ⟨_, _, rfl, rfl, ap _ hl, ?_⟩
    rw [app_mk]
    refine finR _ _ (same_new hP2 _) (fun z => by have := congrArg List.length z; rw [List.length_drop] at this; simp at this; omega) (fun r hr => hno r (List.mem_of_mem_drop hr)) hl ?_
    obtain ⟨r, tt, em⟩ := mid_first hgs
    rw [eDc]
    show dparse ((mid gs ++ [eqr pt]) ++ [[]]) = none
    rw [em]
    refine dp_head ?_
    show (bar r).take 8 ≠ dosL
    unfold bar
    have ed : dosL = [100, 111, 115, 115, 105, 101, 114, 32] := by decide +kernel
    rw [ed]; simp
  -- 3: without the last line
  refine ⟨_, rfl, rfl, _, rfl, ite2 (fun _ => ?_) (fun _ => ?_)⟩
  · have ec : cutV (vs_ Dw) none (some ((fun i : Int => (-i)) 1)) = vs_ ((dosL ++ p) :: mid gs) := by
      rw [eDc, show (dosL ++ p) :: (mid gs ++ [eqr pt]) = ((dosL ++ p) :: mid gs) ++ [eqr pt] from rfl, ← vs_app]
      exact cut_last _ _
    have hl : lsum ((dosL ++ p) :: mid gs) ≤ 800000 := by
      have e : lsum Dw = lsum ((dosL ++ p) :: mid gs) + lsum [eqr pt] := by rw [← lsum_app, eDc]; rfl
      omega
    refine ⟨⟨_, rfl⟩, _, rfl, _, rfl, _, rfl, Ro, _, rfl, SqL.of eR, fun P2 hP2 => ⟨_, P2, ((dosL ++ p) :: mid gs).map mk, rfl, rfl, .inl (SqL.of (upd_same.trans (congrArg (fun z => some (HO.lst z)) ec))), jn _ hl, ?_⟩⟩
    rw [join_mk]
    refine ⟨_, _, rfl, rfl, ap _ hl, ?_⟩
    rw [app_mk]
    refine finR _ _ (same_new hP2 _) (by simp) (fun r hr => hno r (by rw [eDc, show (dosL ++ p) :: (mid gs ++ [eqr pt]) = ((dosL ++ p) :: mid gs) ++ [eqr pt] from rfl]; exact List.mem_append_left _ hr)) hl ?_
    obtain ⟨tt, r, em⟩ := mid_last hgs
    rw [em, show ((dosL ++ p) :: (tt ++ [bar r])) ++ [[]] = ((dosL ++ p) :: tt) ++ [bar r, []] by simp]
    exact dp_eq (by unfold bar; simp)
  -- 4: a line of another kind
  refine ⟨_, rfl, rfl, _, rfl, ite2 (fun _ => ?_) (fun _ => ?_)⟩
  · obtain ⟨k, ek⟩ : ∃ k : Nat, (1 : Int) + pl = (k : Int) := ⟨((1 : Int) + pl).toNat, by omega⟩
    have hk1 : 1 ≤ k := by omega
    have hk2 : k + 2 ≤ Dw.length := by omega
    obtain ⟨row, hrow⟩ : ∃ row, Dw[k]? = some row := ⟨_, List.getElem?_eq_getElem (by omega)⟩
    have hrl : row.length + 1 ≤ lsum Dw := by
      have e : Dw = Dw.take k ++ (row :: Dw.drop (k + 1)) := by
        have := List.getElem?_eq_some_iff.mp hrow
        obtain ⟨h1, h2⟩ := this
        conv => lhs; rw [← List.take_append_drop k Dw, List.drop_eq_getElem_cons h1, h2]
      rw [e, lsum_app, show row :: Dw.drop (k + 1) = [row] ++ Dw.drop (k + 1) from rfl, lsum_app, lsum_one]; omega
    have ec1 : cutV (vs_ Dw) none (some ((fun i j : Int => i + j) 1 pl)) = vs_ (Dw.take k) := by
      show cutV (vs_ Dw) none (some ((1 : Int) + pl)) = _
      rw [ek]; exact (cutV_hi (vs_ Dw) k).trans (vs_take Dw k)
    have ec2 : cutS (mk row) (some 2) none = mk (row.drop 2) := cut_lo (i := 2)
    have ec3 : cutV (vs_ Dw) (some ((fun i j : Int => i + j) ((fun i j : Int => i + j) 1 pl) 1)) none = vs_ (Dw.drop (k + 1)) := by
      show cutV (vs_ Dw) (some ((1 : Int) + pl + 1)) none = _
      rw [ek, show (k : Int) + 1 = ((k + 1 : Nat) : Int) by omega]; exact (cutV_lo (vs_ Dw) (k + 1)).trans (vs_drop Dw (k + 1))
    refine ⟨⟨_, rfl⟩, _, rfl, _, rfl, _, rfl, Ro, _, rfl, SqL.of eR, fun P1 hP1 => ?_⟩
    rw [ec1]
    have eR1 := same_new hP1 (.lst (vs_ (Dw.take k))) _ _ eR
    refine ⟨_, rfl, _, rfl, Ro, _, _, _, rfl, rfl, SqL.of eR1, at_of ek (vs_at hrow), _, rfl, mk row, rfl, sz (by rw [mk_len]; omega), ?_⟩
    rw [ec2]
    refine ⟨_, _, rfl, rfl, sz (by have := mk_len (row.drop 2); rw [List.length_drop] at this; have := sl "! " 2; omega), big 1 (by decide), fun P2 hP2 => ?_⟩
    rw [app_str]
    refine ⟨P1, P2, _, _, rfl, rfl, lst_upd upd_same hP2, upd_same, by rw [vs_len]; exact sz (by have a1 := htk k; simp only [List.length_cons, List.length_nil]; omega), fun P3 hP3 => ?_⟩
    have s123 := ((same_new hP1 (.lst (vs_ (Dw.take k)))).trans (same_new hP2 (.lst [V.str (mk (tl (Str.ofString "! ") ++ row.drop 2))]))).trans (same_new hP3 (.lst (vs_ (Dw.take k) ++ [V.str (mk (tl (Str.ofString "! ") ++ row.drop 2))])))
    refine ⟨_, rfl, _, rfl, _, _, rfl, rfl, _, rfl, Ro, _, rfl, SqL.of (s123 _ _ eR), fun P4 hP4 => ?_⟩
    rw [ec3]
    refine ⟨P3, P4, _, _, rfl, rfl, lst_upd upd_same hP4, upd_same, sz (by have a1 := htk k; have a2 := hdr (k + 1); rw [List.length_append, vs_len, vs_len]; simp only [List.length_cons, List.length_nil]; omega), fun P5 hP5 => ?_⟩
    have s5 := (s123.trans (same_new hP4 (.lst (vs_ (Dw.drop (k + 1)))))).trans (same_new hP5 (.lst ((vs_ (Dw.take k) ++ [V.str (mk (tl (Str.ofString "! ") ++ row.drop 2))]) ++ vs_ (Dw.drop (k + 1)))))
    have eL : (vs_ (Dw.take k) ++ [V.str (mk (tl (Str.ofString "! ") ++ row.drop 2))]) ++ vs_ (Dw.drop (k + 1)) = vs_ ((Dw.take k ++ [tl (Str.ofString "! ") ++ row.drop 2]) ++ Dw.drop (k + 1)) := by
      rw [← vs_app, ← vs_app]; rfl
    have hl : lsum ((Dw.take k ++ [tl (Str.ofString "! ") ++ row.drop 2]) ++ Dw.drop (k + 1)) ≤ 800000 := by
      rw [lsum_app, lsum_app, lsum_one, List.length_append, List.length_drop]
      have := lsum_take Dw k
      have := lsum_drop Dw (k + 1)
      have : (tl (Str.ofString "! ")).length = 2 := rfl
      omega
    refine ⟨_, P5, ((Dw.take k ++ [tl (Str.ofString "! ") ++ row.drop 2]) ++ Dw.drop (k + 1)).map mk, rfl, rfl, .inl (SqL.of (upd_same.trans (congrArg (fun z => some (HO.lst z)) eL))), jn _ hl, ?_⟩
    rw [join_mk]
    refine ⟨_, _, rfl, rfl, ap _ hl, ?_⟩
    rw [app_mk]
    refine finR _ _ s5 (by simp) (fun r hr => ?_) hl ?_
    · rcases List.mem_append.mp hr with hr | hr
      · rcases List.mem_append.mp hr with hr | hr
        · exact hno r (List.mem_of_mem_take hr)
        · rw [List.mem_singleton.mp hr]
          intro z
          rcases List.mem_append.mp z with z | z
          · revert z; decide +kernel
          · exact hno row (List.mem_of_getElem? hrow) (List.mem_of_mem_drop z)
      · exact hno r (List.mem_of_mem_drop hr)
    · obtain ⟨k', rfl⟩ : ∃ k', k = k' + 1 := ⟨k - 1, by omega⟩
      have e : ((Dw.take (k' + 1) ++ [tl (Str.ofString "! ") ++ row.drop 2]) ++ Dw.drop (k' + 1 + 1)) ++ [[]] = (dosL ++ p) :: ((mid gs ++ [eqr pt]).take k' ++ (tl (Str.ofString "! ") ++ row.drop 2) :: (Dw.drop (k' + 1 + 1) ++ [[]])) := by
        conv => lhs; rw [show Dw.take (k' + 1) = (dosL ++ p) :: (mid gs ++ [eqr pt]).take k' by rw [eDc]; rfl]
        simp
      rw [e]
      refine dp_mid ⟨?_, ?_⟩ ?_
      · show ([33, 32] ++ row.drop 2).take 2 ≠ _
        simp
      · show ([33, 32] ++ row.drop 2) ≠ _
        simp
      · rw [List.length_append, List.length_drop]; simp; omega
  -- 5: an alien line
  refine ⟨_, rfl, rfl, _, rfl, ite2 (fun _ => ?_) (fun _ => ?_)⟩
  · refine ⟨_, rfl, _, rfl, Ro, _, rfl, .inl (SqL.of eR), _, _, rfl, rfl, d, c, _, rfl, b4.d, by rw [vs_len]; omega, by rw [vs_len]; omega, fun pq H5 b5 q0 q1 => ?_⟩
    rw [vs_len] at q1
    have eR5 := b5.at nR eR
    refine ⟨_, rfl, big 8 (by decide), fun P0 hP0 => ?_⟩
    have nP0 : P0 ≠ d := b5.d.ne hP0
    have f5 := b5.new hP0 (.lst (ali.map fun s => V.str (Str.ofString s)))
    have eP0 : upd H5 P0 (.lst (ali.map fun s => V.str (Str.ofString s))) P0 = some (.lst (ali.map fun s => V.str (Str.ofString s))) := upd_same
    refine ⟨d, c, _, rfl, f5.d, .inl ⟨P0, _, rfl, nP0, eP0, by decide, by decide, fun j v H6 hj b6 => ?_⟩⟩
    rw [List.getElem?_map] at hj
    cases ej : ali[j]? with
    | none => rw [ej] at hj; cases hj
    | some s =>
    rw [ej] at hj
    obtain ⟨o1, o2, o3, o4, o5⟩ := ali_ok s (List.mem_of_getElem? ej)
    obtain ⟨al, eal⟩ : ∃ al, al = tl (Str.ofString s) := ⟨_, rfl⟩
    rw [← eal] at o1 o2 o3 o4 o5
    have ev : v = V.str (mk al) := by
      rw [← Option.some.inj hj, eal, mk_tl']
    subst ev
    have f6 := f5.trans b6
    have eR6 := b6.at nR (same_new hP0 _ _ _ eR5)
    obtain ⟨k, ek⟩ : ∃ k : Nat, pq = (k : Int) := ⟨pq.toNat, by omega⟩
    subst ek
    have hk2 : k ≤ Dw.length := by omega
    have ec1 : cutV (vs_ Dw) none (some (k : Int)) = vs_ (Dw.take k) := (cutV_hi (vs_ Dw) k).trans (vs_take Dw k)
    have ec3 : cutV (vs_ Dw) (some (k : Int)) none = vs_ (Dw.drop k) := (cutV_lo (vs_ Dw) k).trans (vs_drop Dw k)
    refine ⟨⟨_, rfl⟩, _, rfl, _, rfl, _, rfl, Ro, _, rfl, SqL.of eR6, fun P1 hP1 => ?_⟩
    rw [ec1]
    refine ⟨_, rfl, big 1 (by decide), fun P2 hP2 => ⟨P1, P2, _, _, rfl, rfl, lst_upd upd_same hP2, upd_same, by rw [vs_len]; exact sz (by have a1 := htk k; simp only [List.length_cons, List.length_nil]; omega), fun P3 hP3 => ?_⟩⟩
    have s123 := ((same_new hP1 (.lst (vs_ (Dw.take k)))).trans (same_new hP2 (.lst [V.str (mk al)]))).trans (same_new hP3 (.lst (vs_ (Dw.take k) ++ [V.str (mk al)])))
    refine ⟨_, rfl, _, rfl, _, rfl, Ro, _, rfl, SqL.of (s123 _ _ eR6), fun P4 hP4 => ?_⟩
    rw [ec3]
    refine ⟨P3, P4, _, _, rfl, rfl, lst_upd upd_same hP4, upd_same, sz (by have a1 := htk k; have a2 := hdr k; rw [List.length_append, vs_len, vs_len]; simp only [List.length_cons, List.length_nil]; omega), fun P5 hP5 => ?_⟩
    have s5 := (s123.trans (same_new hP4 (.lst (vs_ (Dw.drop k))))).trans (same_new hP5 (.lst ((vs_ (Dw.take k) ++ [V.str (mk al)]) ++ vs_ (Dw.drop k))))
    have eL : (vs_ (Dw.take k) ++ [V.str (mk al)]) ++ vs_ (Dw.drop k) = vs_ ((Dw.take k ++ [al]) ++ Dw.drop k) := by
      rw [← vs_app, ← vs_app]; rfl
    have hl : lsum ((Dw.take k ++ [al]) ++ Dw.drop k) ≤ 800000 := by
      rw [lsum_app, lsum_app, lsum_one]
      have := lsum_take Dw k
      have := lsum_drop Dw k
      omega
    refine ⟨_, P5, ((Dw.take k ++ [al]) ++ Dw.drop k).map mk, rfl, rfl, .inl (SqL.of (upd_same.trans (congrArg (fun z => some (HO.lst z)) eL))), jn _ hl, ?_⟩
    rw [join_mk]
    refine ⟨_, _, rfl, rfl, ap _ hl, ?_⟩
    rw [app_mk]
    have hno5 : ∀ r ∈ (Dw.take k ++ [al]) ++ Dw.drop k, 10 ∉ r := fun r hr => by
      rcases List.mem_append.mp hr with hr | hr
      · rcases List.mem_append.mp hr with hr | hr
        · exact hno r (List.mem_of_mem_take hr)
        · rw [List.mem_singleton.mp hr]; exact o4
      · exact hno r (List.mem_of_mem_drop hr)
    refine q _ _ (ref_none ?_) ?_ ((f4.trans f6).same s5)
    rotate_left
    · have := joinL_lsum ((Dw.take k ++ [al]) ++ Dw.drop k)
      show (joinL [10] _ ++ [10]).length ≤ _
      rw [List.length_append]; simp only [List.length_cons, List.length_nil]; omega
    show dparse (lns (joinL [10] ((Dw.take k ++ [al]) ++ Dw.drop k) ++ [10])) = none
    rw [lns_end (by simp) hno5]
    cases k with
    | zero => exact dp_head o1
    | succ k' =>
      by_cases hkn : k' + 1 < Dw.length
      · have e : ((Dw.take (k' + 1) ++ [al]) ++ Dw.drop (k' + 1)) ++ [[]] = (dosL ++ p) :: ((mid gs ++ [eqr pt]).take k' ++ al :: (Dw.drop (k' + 1) ++ [[]])) := by
          conv => lhs; rw [show Dw.take (k' + 1) = (dosL ++ p) :: (mid gs ++ [eqr pt]).take k' by rw [eDc]; rfl]
          simp
        rw [e]
        refine dp_mid o2 ?_
        rw [List.length_append, List.length_drop]; simp; omega
      · rw [List.take_of_length_le (by omega), List.drop_eq_nil_of_le (by omega), show (Dw ++ [al] ++ []) ++ [[]] = Dw ++ [al, []] by simp]
        exact dp_eq o3
  -- 6: another head
  refine ⟨_, rfl, rfl, _, rfl, ite2 (fun _ => ?_) (fun _ => ?_)⟩
  · have at0 : atI (vs_ Dw) 0 = some (.str (mk (dosL ++ p))) := at_of (j := 0) rfl (by rw [eDc]; rfl)
    have hr0 : (mk (dosL ++ p)).length ≤ 22 := by
      rw [mk_len, List.length_append]
      have := hP.len
      have : dosL.length = 8 := by decide +kernel
      omega
    have ec8 : cutS (mk (dosL ++ p)) (some 8) none = mk p := by
      have e : cutS (mk (dosL ++ p)) (some 8) none = mk ((dosL ++ p).drop 8) := cut_lo (i := 8)
      rw [e, show (dosL ++ p).drop 8 = p from List.drop_left' rfl]
    have hpl : (mk p).length ≤ 14 := by rw [mk_len]; exact hP.len
    refine ⟨_, rfl, _, rfl, Ro, _, _, _, rfl, rfl, SqL.of eR, at0, _, rfl, _, rfl, sz (by omega), ?_⟩
    rw [ec8]
    refine ⟨_, _, rfl, rfl, sz (by have := sl "Dossier " 8; omega), _, rfl, Ro, _, _, _, rfl, rfl, SqL.of eR, at0, _, _, rfl, rfl, sz (by have := sl " " 1; omega), _, rfl, Ro, _, _, _, rfl, rfl, SqL.of eR, at0, _, rfl, _, rfl, sz (by omega), ?_⟩
    rw [ec8]
    refine ⟨_, rfl, Ro, _, _, _, rfl, rfl, SqL.of eR, at0, _, rfl, _, rfl, sz (by omega), ?_⟩
    rw [ec8]
    refine ⟨_, _, rfl, rfl, sz (by have := sl "dossier" 7; omega), big 5 (by decide), fun P0 hP0 => ?_⟩
    have eL6 : [V.str (Str.ofString "dossier"), V.str (Str.ofString "Dossier " ++ mk p), V.str (Str.ofString " " ++ mk (dosL ++ p)), V.str (mk p), V.str (Str.ofString "dossier" ++ mk p)] = vs_ (heads p) := by
      rw [app_str, app_str, app_str]; rfl
    rw [eL6]
    have nP0 : P0 ≠ d := b4.d.ne hP0
    have f5 := (Fr.refl b4.d).new hP0 (.lst (vs_ (heads p)))
    have eP0 : upd H4 P0 (.lst (vs_ (heads p))) P0 = some (.lst (vs_ (heads p))) := upd_same
    refine ⟨d, c, _, rfl, f5.d, .inl ⟨P0, _, rfl, nP0, eP0, by simp [heads], by simp [heads], fun j v H6 hj b6 => ?_⟩⟩
    obtain ⟨hh, ehh, rfl⟩ := vs_get hj
    obtain ⟨o1, o2, o3⟩ := heads_ok hP hh (List.mem_of_getElem? ehh)
    have f6 := f5.trans b6
    have eR6 := b6.at nR (same_new hP0 _ _ _ eR)
    have ec : cutV (vs_ Dw) (some 1) none = vs_ (Dw.drop 1) := (cutV_lo (vs_ Dw) 1).trans (vs_drop Dw 1)
    refine ⟨⟨_, rfl⟩, _, rfl, big 1 (by decide), fun P1 hP1 => ⟨_, rfl, _, rfl, Ro, _, rfl, SqL.of (same_new hP1 _ _ _ eR6), fun P2 hP2 => ?_⟩⟩
    rw [ec]
    refine ⟨P1, P2, _, _, rfl, rfl, lst_upd upd_same hP2, upd_same, sz (by rw [vs_len, List.length_drop]; simp; omega), fun P3 hP3 => ?_⟩
    have s5 := ((same_new hP1 (.lst [V.str (mk hh)])).trans (same_new hP2 (.lst (vs_ (Dw.drop 1))))).trans (same_new hP3 (.lst ([V.str (mk hh)] ++ vs_ (Dw.drop 1))))
    have eL : [V.str (mk hh)] ++ vs_ (Dw.drop 1) = vs_ ([hh] ++ Dw.drop 1) := by rw [← vs_app]; rfl
    have hl : lsum ([hh] ++ Dw.drop 1) ≤ 800000 := by
      rw [lsum_app, lsum_one]
      have := lsum_drop Dw 1
      omega
    refine ⟨_, P3, ([hh] ++ Dw.drop 1).map mk, rfl, rfl, .inl (SqL.of (upd_same.trans (congrArg (fun z => some (HO.lst z)) eL))), jn _ hl, ?_⟩
    rw [join_mk]
    refine ⟨_, _, rfl, rfl, ap _ hl, ?_⟩
    rw [app_mk]
    refine q _ _ (ref_none ?_) ?_ ((f4.trans f6).same s5)
    · show dparse (lns (joinL [10] ([hh] ++ Dw.drop 1) ++ [10])) = none
      rw [lns_end (by simp) (fun r hr => by
        rcases List.mem_append.mp hr with hr | hr
        · rw [List.mem_singleton.mp hr]; exact o2
        · exact hno r (List.mem_of_mem_drop hr))]
      exact dp_head o1
    · have := joinL_lsum ([hh] ++ Dw.drop 1)
      show (joinL [10] _ ++ [10]).length ≤ _
      rw [List.length_append]; simp only [List.length_cons, List.length_nil]; omega
  have atL : atI (vs_ Dw) ((fun i : Int => (-i)) 1) = some (.str (mk (eqr pt))) := by
    show atI (vs_ Dw) (-1) = _
    rw [eDc, show (dosL ++ p) :: (mid gs ++ [eqr pt]) = ((dosL ++ p) :: mid gs) ++ [eqr pt] from rfl, ← vs_app]
    exact atI_last _ _
  have hel : (mk (eqr pt)).length ≤ 20002 := by rw [mk_len]; unfold eqr; simp; omega
  -- 7: the last line twice
  refine ⟨_, rfl, rfl, _, rfl, ite2 (fun _ => ?_) (fun _ => ?_)⟩
  · refine ⟨_, rfl, _, rfl, _, rfl, Ro, _, _, _, rfl, rfl, SqL.of eR, atL, _, _, rfl, rfl, sz (by rw [mk_len]; omega), _, _, rfl, rfl, sz (by rw [len_app, mk_len]; have : (Str.ofString "\n").length = 1 := rfl; omega), ?_⟩
    rw [app_mk, tl_app]
    have e : (tl (mk (joinL [10] Dw ++ [10])) ++ tl (mk (eqr pt))) ++ tl (Str.ofString "\n") = joinL [10] (Dw ++ [eqr pt]) ++ [10] := by
      rw [joinL_app hDne (by simp)]
      show (joinL [10] Dw ++ [10]) ++ eqr pt ++ [10] = _
      simp [joinL]
    rw [e]
    refine finR _ H4 (.refl _) (by simp) (fun r hr => ?_) (by rw [lsum_app, lsum_one]; rw [mk_len] at hel; omega) ?_
    · rcases List.mem_append.mp hr with hr | hr
      · exact hno r hr
      · rw [List.mem_singleton.mp hr]; exact hno _ (by rw [eDc]; simp)
    · have e2 : (Dw ++ [eqr pt]) ++ [[]] = (dosL ++ p) :: (mid gs ++ eqr pt :: [eqr pt, []]) := by rw [eDc]; simp
      rw [e2]
      exact dp_mid ⟨by unfold eqr; simp, by unfold eqr; simp⟩ (by simp)
  -- 8: something behind the paper
  have ec : cutV (vs_ Dw) none (some ((fun i : Int => (-i)) 1)) = vs_ ((dosL ++ p) :: mid gs) := by
    rw [eDc, show (dosL ++ p) :: (mid gs ++ [eqr pt]) = ((dosL ++ p) :: mid gs) ++ [eqr pt] from rfl, ← vs_app]
    exact cut_last _ _
  have ec2 : cutS (mk (eqr pt)) (some 2) none = mk pt := by
    have e : cutS (mk (eqr pt)) (some 2) none = mk ((eqr pt).drop 2) := cut_lo (i := 2)
    rw [e]; rfl
  refine ⟨⟨_, rfl⟩, _, rfl, _, rfl, _, rfl, Ro, _, rfl, SqL.of eR, fun P1 hP1 => ?_⟩
  rw [ec]
  have hpl : (mk pt).length ≤ 20000 := by rw [mk_len]; exact hb
  refine ⟨_, rfl, _, rfl, Ro, _, _, _, rfl, rfl, SqL.of (same_new hP1 _ _ _ eR), atL, _, rfl, _, rfl, sz (by omega), ?_⟩
  rw [ec2]
  refine ⟨_, _, rfl, rfl, sz (by have := sl "= " 2; omega), _, _, rfl, rfl, sz (by rw [len_app]; have := sl "= " 2; have := sl " 1" 2; omega), big 1 (by decide), fun P2 hP2 => ?_⟩
  have ee : V.str (Str.ofString "= " ++ mk pt ++ Str.ofString " 1") = V.str (mk (eqr (pt ++ [32, 49]))) := by
    rw [app_mk, tl_app]
    show V.str (mk (([61, 32] ++ pt) ++ [32, 49])) = _
    unfold eqr
    rw [List.append_assoc]
  rw [ee]
  have hml : ((dosL ++ p) :: mid gs).length ≤ 43 := by
    have h3 := mid_len (gs := gs) fun g hg => (hS.g g hg).len
    have := hS.len
    rw [List.length_cons]; omega
  refine ⟨P1, P2, _, _, rfl, rfl, lst_upd upd_same hP2, upd_same, sz (by rw [vs_len]; simp only [List.length_cons, List.length_nil] at hml ⊢; omega), fun P3 hP3 => ?_⟩
  have s5 := ((same_new hP1 (.lst (vs_ ((dosL ++ p) :: mid gs)))).trans (same_new hP2 (.lst [V.str (mk (eqr (pt ++ [32, 49])))]))).trans (same_new hP3 (.lst (vs_ ((dosL ++ p) :: mid gs) ++ [V.str (mk (eqr (pt ++ [32, 49])))])))
  have eL : vs_ ((dosL ++ p) :: mid gs) ++ [V.str (mk (eqr (pt ++ [32, 49])))] = vs_ (drows p gs (pt ++ [32, 49])) := by
    show vs_ ((dosL ++ p) :: mid gs) ++ vs_ [eqr (pt ++ [32, 49])] = _
    rw [vs_app]; rfl
  have hl : lsum (drows p gs (pt ++ [32, 49])) ≤ 800000 := by
    have e1 : drows p gs (pt ++ [32, 49]) = ((dosL ++ p) :: mid gs) ++ [eqr (pt ++ [32, 49])] := rfl
    have e2 : Dw = ((dosL ++ p) :: mid gs) ++ [eqr pt] := eDc
    rw [e2, lsum_app] at hsD
    rw [e1, lsum_app, lsum_one]
    unfold eqr
    simp only [List.length_append, List.length_cons, List.length_nil]
    omega
  refine ⟨_, P3, (drows p gs (pt ++ [32, 49])).map mk, rfl, rfl, .inl (SqL.of (upd_same.trans (congrArg (fun z => some (HO.lst z)) eL))), jn _ hl, ?_⟩
  rw [join_mk]
  refine ⟨_, _, rfl, rfl, ap _ hl, ?_⟩
  rw [app_mk]
  refine fin _ _ s5 (dtext_ref hP.no hgs (.inr ?_)) ?_
  · rw [ept]
    exact runs_more hV.g (by have := hV.d; omega) (noDig_cons rfl) (by simp)
  · have := joinL_lsum (drows p gs (pt ++ [32, 49]))
    show (joinL [10] _ ++ [10]).length ≤ _
    rw [List.length_append]; simp only [List.length_cons, List.length_nil]; omega

end
end K93

/-! Dossiers; the law. -/
namespace K93
open PySem PySem.Spec PyProof.Rows L2 TL

theorem passQ {X : Cx} {W : WX} (tk : Qx.Takes X W) (σ : L2.St) : PassesAt (Qx.CX X.prog X.w) X σ (WE W σ) := fun _ _ _ e s' I c => tk e s' (Qx.Air.of_call I (fun _ _ _ h => h) c)
theorem passC {X : Cx} {W : WX} (tk : L2.Takes X W) (σ : L2.St) : PassesAt (Qx.CX X.prog X.w) X σ (WE W σ) := fun pins H s e s' I c => L2.passAt tk σ pins H s e s' I (Qx.cx_c c)
theorem passN0 {X : Cx} (σ : L2.St) : PassesAt (L2N.CX X.prog X.w) X σ ((fun _ => E0) σ) := fun _ _ _ _ _ _ h => by
  obtain ⟨_, _, _, _, _, _, _, _, _, _, _, _, z⟩ := h
  exact z.elim
theorem txs_at {H : Hp} {a : Addr} {gs : List Grp} (h : Txs H a gs) (hl : gs.length ≤ 1000000) : At H (.ref a) (.tup (gs.map fun g => Val.str (mk (gtext g)))) := by
  refine .tup h (by rw [List.length_map]; exact hl) (by simp) (fun i v x e1 e2 => ?_)
  rw [List.getElem?_map] at e1 e2
  cases e : gs[i]? with
  | none => rw [e] at e1; cases e1
  | some g =>
    rw [e] at e1 e2
    cases e1
    cases e2
    exact .str _
theorem txs_dep (gs : List Grp) : dep (.tup (gs.map fun g => Val.str (mk (gtext g)))) ≤ 1 := by
  rw [dep]
  have := deps_le (l := gs.map fun g => Val.str (mk (gtext g))) (n := 0) fun v hv => by
    obtain ⟨g, _, rfl⟩ := List.mem_map.mp hv
    exact Nat.le_refl _
  omega
def wds : List String := ["model", "refutation", "least", "conflicts", "interpolant", "recurrence", "steps", "verified", "clean"]
def wds2 : List String := ["equivalent"]
theorem part_ok : ∀ s ∈ wds ++ wds2, Part (tl (Str.ofString s)) := by
  have h : ∀ s ∈ wds ++ wds2, (tl (Str.ofString s)).length ≤ 14 ∧ 10 ∉ tl (Str.ofString s) ∧ (tl (Str.ofString s)).head? ≠ none ∧ (tl (Str.ofString s)).head? ≠ some 32 ∧ (tl (Str.ofString s)).head? ≠ some 100 := by decide +kernel
  intro s hs
  obtain ⟨h1, h2, h3, h4, h5⟩ := h s hs
  refine ⟨h1, h2, ?_⟩
  cases e : tl (Str.ofString s) with
  | nil => rw [e] at h3; exact absurd rfl h3
  | cons c r =>
    rw [e] at h4 h5
    exact ⟨c, r, rfl, fun z => h4 (by rw [z]; rfl), fun z => h5 (by rw [z]; rfl)⟩
section
variable {P : Program} {w : World} {K : PySem.W.Frag} {mg : Str → Option Value} {base : Heap} {f : Addr} {fd : FuncData}

variable {C CE : Addr}

def spTriple : Sp := fun vs H Q _ => ∃ (t a a' : Addr) (p : List Nat) (gs : List Grp) (v v' : V) (x : Val), vs = [.ref t, .str (mk p), .ref a, v] ∧ H t = some (.tup [.str (mk p), .ref a', v']) ∧ Txs H a' gs ∧ Txs H a gs ∧ gs.length ≤ 1000000 ∧ At H v' x ∧ At H v x ∧ dep x ≤ 60 ∧ ∀ H', Same H H' → Q (.bl true) H'
abbrev sLawIsTriple : Stmt := top 43
theorem scLawIsTriple : FnScope ["told", "part", "texts", "value"] ["told", "part", "texts", "value"] (defScope sLawIsTriple) := ⟨rfl, rfl, rfl, by decide +kernel, rfl, by decide +kernel, by decide +kernel⟩
theorem ok_triple (T : Mo mg) (F : Fun K "_law_is_triple" "_law_is_triple" sLawIsTriple f fd) (d_l_alike : Df P w K mg base CX0 64 "_law_alike" ["told", "value"] (spAlike 62)) : FnOk P w K mg base CX0 65 f fd ["told", "part", "texts", "value"] spTriple := by
  refine F.ok scLawIsTriple (fun vs H Q E h => ?_) (fun cdv A outer s H vs Q E hr h => ?_)
  · obtain ⟨t, a, a', p, gs, v, v', x, rfl, _⟩ := h
    rfl
  obtain ⟨t, a, a', p, gs, v, v', x, rfl, et, ha1, ha, hgl, hv1, hv, hd, q⟩ := h
  refine ⟨_, (pss_cons (ps_if (PW.pt (pw_or (pt_not (pt_val (pe_isi "tuple" T.isinstance T.tuple (pv 0)))) (pw_or (pt_cmpR op_ne (pe_callB call_len_seq (by rfl) T.len PySem.boot_len (pa_cons (pv 0) pa_nil)) pe_int (nomark _)) (pw_or (pt_not (pt_val (pe_isi "str" T.isinstance T.str (pe_ix ix_tup (pv 0) pe_int (fun _ _ => rfl))))) (pw_or1 (pt_cmpR op_ne (pe_ix ix_tup (pv 0) pe_int (fun _ _ => rfl)) (pv 1) (nomark _))))))) (pss_one (ps_ret pe_bl)) pss_nil) (pss_one (ps_ret (pe_and (pe_d d_l_alike (hr.mono (by omega)) (pa_cons (pe_ix ix_tup (pv 0) pe_int (fun _ _ => rfl)) (pa_cons (pv 2) pa_nil))) (pe_one (pe_d d_l_alike (hr.mono (by omega)) (pa_cons (pe_ix ix_tup (pv 0) pe_int (fun _ _ => rfl)) (pa_cons (pv 3) pa_nil)))))))), ?_⟩
  have ty : TyX K H (.ref t) (.type "tuple") := .base (.tup et)
  have ty2 : TyX K H (.str (mk p)) (.type "str") := .base (.str _)
  have hdx := txs_dep gs
  refine ⟨_, rfl, _, rfl, _, true, ty, k_tuple_tuple, _, rfl, iteF ⟨_, rfl, t, _, rfl, .inr (SqT.of et), rfl, _, rfl, iteF ⟨_, rfl, t, _, _, _, rfl, rfl, SqT.of et, at_of (j := 0) rfl rfl, _, rfl, _, true, ty2, k_str_str, _, rfl, iteF ⟨_, rfl, t, _, _, _, rfl, rfl, SqT.of et, at_of (j := 0) rfl rfl, _, rfl, rfl, _, rfl, ?_⟩⟩⟩⟩
  rw [decide_eq_true (rfl : V.str (mk p) = V.str (mk p))]
  refine iteF ⟨_, rfl, t, _, _, _, rfl, rfl, SqT.of et, at_of (j := 1) rfl rfl, _, rfl, _, _, _, rfl, by omega, txs_at ha1 hgl, txs_at ha hgl, fun H1 s1 => ⟨_, rfl, iteT ⟨_, rfl, t, _, _, _, rfl, rfl, SqT.of (s1 _ _ et), at_of (j := 2) rfl rfl, _, rfl, _, _, x, rfl, by omega, hv1.mono (Same.tk s1), hv.mono (Same.tk s1), fun H2 s2 => q H2 (s1.trans s2)⟩⟩⟩


def spDRead : Sp := fun vs H Q _ => ∃ (l p : List Nat) (gs : List Grp) (pt : List Nat) (x : Val) (a : Addr) (v : V), vs = [.str (mk l), .str (mk p), .ref a, v] ∧ l.length ≤ 999990 ∧ dparse (lns l) = some (p, gs, pt) ∧ Runs [[]] .val pt (some x) ∧ Txs H a gs ∧ gs.length ≤ 1000000 ∧ At H v x ∧ ∀ H', Same H H' → Q (.bl true) H'
abbrev sLawDossierRead : Stmt := top 44
theorem scLawDossierRead : FnScope ["text", "part", "texts", "value", "told"] ["text", "part", "texts", "value"] (defScope sLawDossierRead) := ⟨rfl, rfl, rfl, by decide +kernel, rfl, by decide +kernel, by decide +kernel⟩
theorem ok_dossier_read (T : Mo mg) (F : Fun K "_law_dossier_read" "_law_dossier_read" sLawDossierRead f fd) (R : Rf K mg C CE) (d_read_dossier : Df P w K mg base (Qx.CX P w) 5 "read_dossier" ["text"] (spReadD C)) (d_l_is_triple : Df P w K mg base CX0 65 "_law_is_triple" ["told", "part", "texts", "value"] spTriple) : FnOk P w K mg base CX0 66 f fd ["text", "part", "texts", "value"] spDRead := by
  refine F.ok scLawDossierRead (fun vs H Q E h => ?_) (fun cdv A outer s H vs Q E hr h => ?_)
  · obtain ⟨l, p, gs, pt, x, a, v, rfl, _⟩ := h
    rfl
  obtain ⟨l, p, gs, pt, x, a, v, rfl, hlen, hdp, hrun, ha, hgl, hv, q⟩ := h
  refine ⟨_, (pss_cons (ps_try_only rfl rfl ⟨rfl, by decide, .inl R.ce⟩ takes0 (fun W pn xe tk _ => (pss_one (ps_set (i := 4) scLawDossierRead.nd rfl (Or.inl rfl) (pe_dS d_read_dossier (hr.mono (by omega)) (fun σ => passC tk σ) (pa_cons (pv 0) pa_nil))))) (fun a oe cls d pn _ _ => (pss_one (ps_ret pe_bl)))) (pss_one (ps_ret (pe_d d_l_is_triple (hr.mono (by omega)) (pa_cons (pv 4) (pa_cons (pv 1) (pa_cons (pv 2) (pa_cons (pv 3) pa_nil)))))))), ?_⟩
  refine ⟨_, rfl, l, rfl, hlen, fun hr => (by have := runs_det (hr _ _ _ hdp) hrun; cases this), fun p' gs' pt' x' hdp' hrun' t a' v' H1 s1 et ha' hv' => ?_⟩
  rw [hdp] at hdp'
  cases hdp'
  have ex := runs_det hrun' hrun
  cases ex
  have hdx := runs_deep hrun wf_init x rfl
  exact ⟨_, rfl, _, rfl, _, rfl, _, rfl, t, a, a', p, gs, v, v', x, rfl, et, ha', s1 _ _ ha, hgl, hv', hv.mono (Same.tk s1), hdx, fun H2 s2 => q H2 (s1.trans s2)⟩


def spDRef : Sp := fun vs H Q _ => ∃ (l : List Nat), vs = [.str (mk l)] ∧ l.length ≤ 999990 ∧ Ref l ∧ ∀ H', Same H H' → Q (.bl true) H'
abbrev sLawDossierRefused : Stmt := top 45
theorem scLawDossierRefused : FnScope ["text", "fault"] ["text"] (defScope sLawDossierRefused) := ⟨rfl, rfl, rfl, by decide +kernel, rfl, by decide +kernel, by decide +kernel⟩
theorem ok_dossier_refused (T : Mo mg) (F : Fun K "_law_dossier_refused" "_law_dossier_refused" sLawDossierRefused f fd) (R : Rf K mg C CE) (d_read_dossier : Df P w K mg base (Qx.CX P w) 5 "read_dossier" ["text"] (spReadD C)) (d_l_is_refusal : DfQ P w K mg base 2 "_law_is_refusal" ["fault", "size"] (spRefQ C)) : FnOk P w K mg base CX0 6 f fd ["text"] spDRef := by
  refine F.ok scLawDossierRefused (fun vs H Q E h => ?_) (fun cdv A outer s H vs Q E hr h => ?_)
  · obtain ⟨l, rfl, _⟩ := h
    rfl
  obtain ⟨l, rfl, hlen, hr0, q⟩ := h
  refine ⟨_, (pss_cons (Qx.ps_try_as (i := 1) rfl rfl scLawDossierRefused.nd rfl rfl ⟨rfl, by decide, .inl R.ce⟩ (fun W pn xe tk po => (pss_one (ps_expr (pe_dS d_read_dossier (hr.mono (by omega)) (fun σ => passQ tk σ) (pa_cons (pv 0) pa_nil))))) (fun a oe cls d pn hz ch => (pss_one (ps_ret (pe_dQ d_l_is_refusal (ref_conv hz ch) (L2H.roomH_mark (hr.mono (by omega)) _) (Qx.hot_chain ch rfl) (fun p hp => hp) (pa_cons (pv 1) (pa_cons (pe_callB call_len_str (by rfl) T.len PySem.boot_len (pa_cons (pv 0) pa_nil)) pa_nil))))))) (pss_one (ps_ret pe_bl))), ?_⟩
  refine ⟨_, rfl, l, rfl, hlen, fun _ H2 dx k s2 hdx k0 k1 => ⟨R.ex, fun a ha => ?_⟩, fun p' gs' pt' x' hdp' hrun' => (by have := runs_det (hr0 _ _ _ hdp') hrun'; cases this)⟩
  exact ⟨_, rfl, _, rfl, _, rfl, sz (by rw [mk_len]; omega), dx, _, k, rfl, rfl, rfl, upd_same, k0, by rw [mk_len]; exact k1, fun H3 s3 => q H3 ((s2.trans (same_new hdx _)).trans s3)⟩


def spDs : Sp := fun vs H Q _ => ∃ (d c : Addr) (v : V) (x : Val), vs = [.ref d, v] ∧ Dr H d c ∧ At H v x ∧ Vd 3 x ∧ ∀ H', Fr d c H H' → Q (.bl true) H'
abbrev sLawDossiers : Stmt := top 46
theorem scLawDossiers : FnScope ["d", "value", "words", "part", "texts", "text", "shown", "changed", "due", "k"] ["d", "value"] (defScope sLawDossiers) := ⟨rfl, rfl, rfl, by decide +kernel, rfl, by decide +kernel, by decide +kernel⟩
theorem ok_dossiers (T : Mo mg) (F : Fun K "_law_dossiers" "_law_dossiers" sLawDossiers f fd) (d_l_pick : Df P w K mg base CX0 2 "_law_pick" ["d", "row"] spPick) (d_l_lines : Df P w K mg base CX0 3 "_law_lines" ["d"] spLines) (d_l_dossier : Df P w K mg base CX0 1 "_law_dossier" ["part", "texts", "shown"] spLawD) (d_l_text_of : Df P w K mg base CX0 66 "_law_text_of" ["value"] (spWrite 64)) (d_write_dossier : Df P w K mg base CX0 67 "write_dossier" ["part", "texts", "paper"] spWriteD)
    (d_l_dossier_read : Df P w K mg base CX0 66 "_law_dossier_read" ["text", "part", "texts", "value"] spDRead) (d_l_dossier_refused : Df P w K mg base CX0 6 "_law_dossier_refused" ["text"] spDRef) (d_l_broken : Df P w K mg base CX0 3 "_law_broken" ["d", "text"] spBroken) (d_l_spoilt : Df P w K mg base CX0 3 "_law_spoilt" ["d", "text"] spSpoilt) (d_l_found : Df P w K mg base CX0 2 "_law_found" ["text"] spFound) : FnOk P w K mg base CX0 68 f fd ["d", "value"] spDs := by
  refine F.ok scLawDossiers (fun vs H Q E h => ?_) (fun cdv A outer s H vs Q E hr h => ?_)
  · obtain ⟨d, c, v, x, rfl, _⟩ := h
    rfl
  obtain ⟨d, c, v, x, rfl, D, hv, hV, q⟩ := h
  refine ⟨_, (pss_cons (ps_set (i := 2) scLawDossiers.nd rfl (Or.inl rfl) (pe_lst (pa_cons pe_str (pa_cons pe_str (pa_cons pe_str (pa_cons pe_str (pa_cons pe_str (pa_cons pe_str (pa_cons pe_str (pa_cons pe_str (pa_cons pe_str pa_nil))))))))))) (pss_cons (ps_set (i := 3) scLawDossiers.nd rfl (Or.inl rfl) (pe_d d_l_pick (hr.mono (by omega)) (pa_cons (pv 0) (pa_cons (pe_op op_cat (pv 2) (pe_lst (pa_cons pe_str pa_nil))) pa_nil)))) (pss_cons (ps_set (i := 4) scLawDossiers.nd rfl (Or.inl rfl) (pe_callTy call_tuple_of (by rfl) T.tuple (by decide +kernel) (pa_cons (pe_lc (own := [("k", 9)]) (g := gName 9) (tt := tYes) rfl scLawDossiers.nd (pi_range1 (by rfl) T.range (pa_cons (pe_op op_add pe_int (pe_callTy call_int1 (by rfl) T.int (by decide +kernel) (pa_cons (pe_cmpR op_eq (pv 3) pe_str (nomark _)) pa_nil))) pa_nil)) (blkOk_by (own := [("k", 9)]) (N := ["d", "value", "words", "part", "texts", "text", "shown", "changed", "due", "k"]) (sc := defScope sLawDossiers) (by decide +kernel)) (fun _ _ _ _ _ => pg_name (i := 9) scLawDossiers.nd rfl (Or.inl rfl)) (fun _ _ _ _ _ => pts_nil) (fun _ _ _ _ _ => (pe_d d_l_lines (hr.mono (by omega)) (pa_cons (pv 0) pa_nil)))) pa_nil))) (pss_cons (ps_set (i := 5) scLawDossiers.nd rfl (Or.inl rfl) (pe_d d_l_dossier (hr.mono (by omega)) (pa_cons (pv 3) (pa_cons (pv 4) (pa_cons (pe_d d_l_text_of (hr.mono (by omega)) (pa_cons (pv 1) pa_nil)) pa_nil))))) (pss_cons (ps_if (PW.pt (pw_or (pt_cmpR op_ne (pe_d d_write_dossier (hr.mono (by omega)) (pa_cons (pv 3) (pa_cons (pv 4) (pa_cons (pv 1) pa_nil)))) (pv 5) (nomark _)) (pw_or1 (pt_not (pt_val (pe_d d_l_dossier_read (hr.mono (by omega)) (pa_cons (pv 5) (pa_cons (pv 3) (pa_cons (pv 4) (pa_cons (pv 1) pa_nil)))))))))) (pss_one (ps_ret pe_bl)) pss_nil) (pss_cons (ps_if (pt_not (pt_val (pe_d d_l_dossier_refused (hr.mono (by omega)) (pa_cons (pe_d d_l_broken (hr.mono (by omega)) (pa_cons (pv 0) (pa_cons (pv 5) pa_nil))) pa_nil)))) (pss_one (ps_ret pe_bl)) pss_nil) (pss_cons (ps_set (i := 6) scLawDossiers.nd rfl (Or.inl rfl) (pe_d d_l_spoilt (hr.mono (by omega)) (pa_cons (pv 0) (pa_cons (pe_d d_l_text_of (hr.mono (by omega)) (pa_cons (pv 1) pa_nil)) pa_nil)))) (pss_cons (ps_set (i := 7) scLawDossiers.nd rfl (Or.inl rfl) (pe_d d_l_dossier (hr.mono (by omega)) (pa_cons (pv 3) (pa_cons (pv 4) (pa_cons (pv 6) pa_nil))))) (pss_cons (ps_set (i := 8) scLawDossiers.nd rfl (Or.inl rfl) (pe_ifExp (pt_cmpR op_in_sign pe_str (pv 6) rfl) pe_non (pe_d d_l_found (hr.mono (by omega)) (pa_cons (pv 6) pa_nil)))) (pss_cons (ps_if (pt_cmpR op_isN (pv 8) pe_non (nomark _)) (pss_one (ps_if (pt_not (pt_val (pe_d d_l_dossier_refused (hr.mono (by omega)) (pa_cons (pv 7) pa_nil)))) (pss_one (ps_ret pe_bl)) pss_nil)) (pss_one (ps_if (pt_not (pt_val (pe_d d_l_dossier_read (hr.mono (by omega)) (pa_cons (pv 7) (pa_cons (pv 3) (pa_cons (pv 4) (pa_cons (pe_ix ix_list (pv 8) pe_int (fun _ _ => rfl)) pa_nil))))))) (pss_one (ps_ret pe_bl)) pss_nil))) (pss_one (ps_ret (pe_d d_l_dossier_read (hr.mono (by omega)) (pa_cons (pv 5) (pa_cons (pv 3) (pa_cons (pv 4) (pa_cons (pv 1) pa_nil))))))))))))))))), ?_⟩
  have hb : (txt x).length ≤ 20000 := Nat.le_trans hV.t (by decide)
  have hd3 := hV.d
  have hrun : Runs [[]] .val (txt x) (some x) := runs_back hV.g (by omega)
  -- the first word
  refine ⟨big 9 (by decide), fun W0 hW0 => ⟨_, rfl, _, rfl, big 1 (by decide), fun W1 hW1 => ⟨W0, W1, _, _, rfl, rfl, lst_upd upd_same hW1, upd_same, big 10 (by decide), fun W2 hW2 => ?_⟩⟩⟩
  have fa := (((Fr.refl D).new hW0 (.lst (wds.map fun s => V.str (Str.ofString s)))).new hW1 (.lst (wds2.map fun s => V.str (Str.ofString s))))
  have nW2 : W2 ≠ d := fa.d.ne hW2
  have f1 := fa.new hW2 (.lst ((wds.map fun s => V.str (Str.ofString s)) ++ (wds2.map fun s => V.str (Str.ofString s))))
  refine ⟨d, c, _, rfl, f1.d, .inl ⟨W2, _, rfl, nW2, upd_same, by simp, by simp [wds, wds2], fun j u H1 hj b1 => ?_⟩⟩
  have hj' : ((wds ++ wds2).map fun s => V.str (Str.ofString s))[j]? = some u := by rw [List.map_append]; exact hj
  rw [List.getElem?_map] at hj'
  cases es : (wds ++ wds2)[j]? with
  | none => rw [es] at hj'; cases hj'
  | some s =>
  rw [es] at hj'
  have hP := part_ok s (List.mem_of_getElem? es)
  obtain ⟨p, ep⟩ : ∃ p, p = tl (Str.ofString s) := ⟨_, rfl⟩
  rw [← ep] at hP
  have eu : u = V.str (mk p) := by rw [← Option.some.inj hj', ep, mk_tl']
  subst eu
  have f2 := f1.trans b1
  -- the texts
  obtain ⟨bb, ebb⟩ : ∃ bb, decide (V.str (mk p) = V.str (Str.ofString "equivalent")) = bb := ⟨_, rfl⟩
  refine ⟨_, rfl, rfl, .inr ⟨_, rfl, _, _, rfl, rfl, (1 : Int) + (if bb = true then 1 else 0), ?_, ?_, ?_, fun L hL => ?_⟩⟩
  · rw [ebb]
  · split <;> decide
  · split <;> decide
  have nL : L ≠ d := f2.d.ne hL
  refine lc_range (lo := 0) (n := ((1 : Int) + (if bb = true then 1 else 0)).toNat) (fun i H' => Fr d c H1 H' ∧ ∃ gs : List Grp, gs.length = i ∧ (∀ g ∈ gs, Sm g) ∧ H' L = some (.lst (gs.map fun g => V.str (mk (gtext g))))) ⟨(Fr.refl f2.d).new hL _, [], rfl, by simp, by rw [upd_same]; rfl⟩ (fun i H' hi z => ?_) (fun H2 z => ?_)
  · obtain ⟨b, gs, hl, hg, eL⟩ := z
    refine ⟨rfl, _, rfl, d, c, rfl, b.d, fun g H3 hsm b3 => ⟨_, b3.at nL eL, ?_, (b.trans b3).put f2.d hL _, gs ++ [g], ?_, ?_, ?_⟩⟩
    · rw [List.length_map]
      have : ((1 : Int) + (if bb = true then 1 else 0)).toNat ≤ 2 := by split <;> decide
      exact Nat.lt_of_le_of_lt (show gs.length ≤ 2 by omega) (by decide)
    · rw [List.length_append, hl]; rfl
    · intro g' hg'
      rcases List.mem_append.mp hg' with h | h
      · exact hg g' h
      · rw [List.mem_singleton.mp h]; exact hsm
    · rw [upd_same, List.map_append]; rfl
  obtain ⟨b2, gs, hl, hg, eL⟩ := z
  refine ⟨L, _, rfl, .inl ⟨SqL.of eL, fun ta hta0 => ?_⟩⟩
  have hgs : Sms gs := by
    refine ⟨fun z => ?_, ?_, hg⟩
    · rw [z] at hl
      have : 1 ≤ ((1 : Int) + (if bb = true then 1 else 0)).toNat := by split <;> decide
      simp at hl; omega
    · rw [hl]; split <;> decide
  have hgl : gs.length ≤ 1000000 := by have := hgs.len; omega
  have f3a := f2.trans b2
  have nta : ta ≠ d := f3a.d.ne hta0
  have f3 := f3a.new hta0 (.tup (gs.map fun g => V.str (mk (gtext g))))
  obtain ⟨H3, eH3⟩ : ∃ H3, H3 = upd H2 ta (.tup (gs.map fun g => V.str (mk (gtext g)))) := ⟨_, rfl⟩
  rw [← eH3] at f3 ⊢
  have hta : Txs H3 ta gs := by rw [eH3]; exact upd_same
  have hv3 := hv.mono (f3.tk D)
  have hdl := dtext_len (pt := txt x) hP.len hgs
  have hpt10 := txt_no10 3 x hV.d hV.g
  have hdp : dparse (lns (dtext p gs (txt x))) = some (p, gs, txt x) := dtext_ok hP.no hgs.gs hpt10
  -- the text
  refine ⟨_, rfl, _, rfl, _, rfl, v, x, rfl, by omega, hV.g, by omega, hv3, fun H4 s4 => ⟨p, gs, ta, txt x, rfl, hP.len, hgs, s4 _ _ hta, by omega, fun H5 s5 => ?_⟩⟩
  have s35 := s4.trans s5
  refine ⟨_, rfl, _, rfl, _, rfl, p, gs, ta, v, x, rfl, hP.len, hgs, s35 _ _ hta, hv3.mono (Same.tk s35), by omega, hV.g, by omega, fun H6 s6 => ⟨_, rfl, rfl, _, rfl, ?_⟩⟩
  rw [decide_eq_true (rfl : V.str (mk (dtext p gs (txt x))) = V.str (mk (dtext p gs (txt x))))]
  have s36 := s35.trans s6
  refine iteF ⟨_, rfl, _, rfl, _, rfl, _, rfl, dtext p gs (txt x), p, gs, txt x, x, ta, v, rfl, by omega, hdp, hrun, s36 _ _ hta, hgl, hv3.mono (Same.tk s36), fun H7 s7 => ⟨_, rfl, iteF ?_⟩⟩
  have s37 := s36.trans s7
  have f7 := f3.same s37
  -- broken
  refine ⟨_, rfl, _, rfl, d, c, p, gs, x, rfl, f7.d, hP, hgs, hV, fun lb H8 href hlb b8 => ⟨lb, rfl, by omega, href, fun H9 s9 => ⟨_, rfl, iteF ?_⟩⟩⟩
  have f9 := (f7.trans b8).same s9
  have hta9 : Txs H9 ta gs := s9 _ _ (b8.at nta (s37 _ _ hta))
  have hv9 := hv.mono (f9.tk D)
  -- spoilt
  refine ⟨_, rfl, _, rfl, v, x, rfl, by omega, hV.g, by omega, hv9, fun H10 s10 => ⟨d, c, txt x, rfl, (f9.same s10).d, by omega, fun z H11 hz b11 => ?_⟩⟩
  have f11 := (f9.same s10).trans b11
  have hta11 : Txs H11 ta gs := b11.at nta (s10 _ _ hta9)
  obtain ⟨sh, esh⟩ : ∃ sh, sh = tl z := ⟨_, rfl⟩
  have ez : z = mk sh := by rw [esh, mk_tl']
  subst ez
  rw [mk_len] at hz
  have hdl2 := dtext_len (pt := sh) hP.len hgs
  refine ⟨_, rfl, _, rfl, _, rfl, p, gs, ta, sh, rfl, hP.len, hgs, hta11, by omega, fun H12 s12 => ?_⟩
  have f12 := f11.same s12
  have hta12 := s12 _ _ hta11
  have hv12 := hv.mono (f12.tk D)
  refine ⟨_, rfl, 10, mk sh, rfl, rfl, _, rfl, ite2 (fun hin => ?_) (fun hin => ?_)⟩
  · have h10 : 10 ∈ sh := of_decide_eq_true hin
    refine ⟨_, rfl, rfl, _, rfl, iteT ⟨_, rfl, dtext p gs sh, rfl, by omega, dtext_ref hP.no hgs.gs (.inl h10), fun H13 s13 => ⟨_, rfl, iteF ?_⟩⟩⟩
    have s13' := s13
    exact ⟨_, rfl, _, rfl, _, rfl, _, rfl, dtext p gs (txt x), p, gs, txt x, x, ta, v, rfl, by omega, hdp, hrun, s13 _ _ hta12, hgl, hv12.mono (Same.tk s13), fun H14 s14 => q H14 ((f12.same s13).same s14)⟩
  · have h10 : 10 ∉ sh := fun z => hin (decide_eq_true z)
    obtain ⟨r, hrs⟩ := runs_total sh.length [[]] .val sh (Nat.le_refl _)
    refine ⟨_, rfl, sh, r, rfl, by omega, hrs, fun y hy a1 v1 H13 s13 ea1 hv1 => ?_, fun hn H13 s13 => ?_⟩
    · rw [hy] at hrs
      refine ⟨_, rfl, rfl, _, rfl, iteF ⟨_, rfl, _, rfl, _, rfl, _, rfl, a1, _, _, v1, rfl, rfl, SqL.of ea1, rfl, dtext p gs sh, p, gs, sh, y, ta, v1, rfl, by omega, dtext_ok hP.no hgs.gs h10, hrs, s13 _ _ hta12, hgl, hv1, fun H14 s14 => ⟨_, rfl, iteF ?_⟩⟩⟩
      have s2 := s13.trans s14
      exact ⟨_, rfl, _, rfl, _, rfl, _, rfl, dtext p gs (txt x), p, gs, txt x, x, ta, v, rfl, by omega, hdp, hrun, s2 _ _ hta12, hgl, hv12.mono (Same.tk s2), fun H15 s15 => q H15 ((f12.same s2).same s15)⟩
    · rw [hn] at hrs
      refine ⟨_, rfl, rfl, _, rfl, iteT ⟨_, rfl, dtext p gs sh, rfl, by omega, dtext_ref hP.no hgs.gs (.inr hrs), fun H14 s14 => ⟨_, rfl, iteF ?_⟩⟩⟩
      have s2 := s13.trans s14
      exact ⟨_, rfl, _, rfl, _, rfl, _, rfl, dtext p gs (txt x), p, gs, txt x, x, ta, v, rfl, by omega, hdp, hrun, s2 _ _ hta12, hgl, hv12.mono (Same.tk s2), fun H15 s15 => q H15 ((f12.same s2).same s15)⟩


def spLaw (K : PySem.W.Frag) : Sp := fun vs H Q _ => ∃ (a : Addr) (ns : List Int), vs = [.ref a] ∧ SqL K H a (ns.map V.int) ∧ ns.length ≤ 63 ∧ ∀ H', Q (.bl true) H'
abbrev sLaw : Stmt := top 47
theorem scLaw : FnScope ["script", "d", "value", "text", "k", "spoilt", "edges", "figures"] ["script"] (defScope sLaw) := ⟨rfl, rfl, rfl, by decide +kernel, rfl, by decide +kernel, by decide +kernel⟩
theorem ok_law (T : Mo mg) (F : Fun K "law" "law" sLaw f fd) (d_l_begin : Df P w K mg base CX0 1 "_law_begin" ["script"] (spBegin K)) (d_l_value : Df P w K mg base CX0 8 "_law_value" ["d", "depth"] (spValue 4)) (d_l_text_of : Df P w K mg base CX0 66 "_law_text_of" ["value"] (spWrite 64)) (d_write_value : Df P w K mg base CX0 66 "write_value" ["value"] (spWrite 64)) (d_l_reads : Df P w K mg base CX0 65 "_law_reads" ["text"] spReads)
    (d_l_alike : Df P w K mg base CX0 64 "_law_alike" ["told", "value"] (spAlike 62)) (d_read_value : Df P w K mg base (L2N.CX P w) 4 "read_value" ["text"] (spRead C)) (d_l_spoilt : Df P w K mg base CX0 3 "_law_spoilt" ["d", "text"] spSpoilt) (d_l_edges : Df P w K mg base CX0 1 "_law_edges" [] spEdges) (d_l_draw : Df P w K mg base CX0 1 "_law_draw" ["d", "many"] spDraw) (d_l_pick : Df P w K mg base CX0 2 "_law_pick" ["d", "row"] spPick)
    (d_l_deep : Df P w K mg base CX0 67 "_law_deep" ["many", "inner"] spDeep) (d_l_dossiers : Df P w K mg base CX0 68 "_law_dossiers" ["d", "value"] spDs) : FnOk P w K mg base CX0 69 f fd ["script"] (spLaw K) := by
  refine F.ok scLaw (fun vs H Q E h => ?_) (fun cdv A outer s H vs Q E hr h => ?_)
  · obtain ⟨a, ns, rfl, _⟩ := h
    rfl
  obtain ⟨a, ns, rfl, hS, h63, q⟩ := h
  refine ⟨_, (pss_cons (ps_set (i := 1) scLaw.nd rfl (Or.inl rfl) (pe_d d_l_begin (hr.mono (by omega)) (pa_cons (pv 0) pa_nil))) (pss_cons (ps_set (i := 2) scLaw.nd rfl (Or.inl rfl) (pe_d d_l_value (hr.mono (by omega)) (pa_cons (pv 1) (pa_cons pe_int pa_nil)))) (pss_cons (ps_set (i := 3) scLaw.nd rfl (Or.inl rfl) (pe_d d_l_text_of (hr.mono (by omega)) (pa_cons (pv 2) pa_nil))) (pss_cons (ps_if (PW.pt (pw_or (pt_cmpR op_ne (pe_d d_write_value (hr.mono (by omega)) (pa_cons (pv 2) pa_nil)) (pv 3) (nomark _)) (pw_or (pt_not (pt_val (pe_d d_l_reads (hr.mono (by omega)) (pa_cons (pv 3) pa_nil)))) (pw_or1 (pt_not (pt_val (pe_d d_l_alike (hr.mono (by omega)) (pa_cons (pe_dS (E := fun _ => E0) d_read_value (hr.mono (by omega)) passN0 (pa_cons (pv 3) pa_nil)) (pa_cons (pv 2) pa_nil))))))))) (pss_one (ps_ret pe_bl)) pss_nil) (pss_cons (ps_for PassesOwn.never rfl (pi_range1 (by rfl) T.range (pa_cons pe_int pa_nil)) (pg_name (i := 4) scLaw.nd rfl (Or.inl rfl)) (pss_cons (ps_set (i := 5) scLaw.nd rfl (Or.inl rfl) (pe_d d_l_spoilt (hr.mono (by omega)) (pa_cons (pv 1) (pa_cons (pv 3) pa_nil)))) (pss_one (ps_if (PW.pt (pw_or (pt_not (pt_val (pe_d d_l_reads (hr.mono (by omega)) (pa_cons (pv 5) pa_nil)))) (pw_or1 (pt_not (pt_val (pe_d d_l_reads (hr.mono (by omega)) (pa_cons (pe_d d_l_spoilt (hr.mono (by omega)) (pa_cons (pv 1) (pa_cons (pv 5) pa_nil))) pa_nil))))))) (pss_one (ps_ret pe_bl)) pss_nil)))) (pss_cons (ps_set (i := 6) scLaw.nd rfl (Or.inl rfl) (pe_d0 d_l_edges (hr.mono (by omega)))) (pss_cons (ps_for PassesOwn.never rfl (pi_range1 (by rfl) T.range (pa_cons pe_int pa_nil)) (pg_name (i := 4) scLaw.nd rfl (Or.inl rfl)) (pss_one (ps_if (pt_not (pt_val (pe_d d_l_reads (hr.mono (by omega)) (pa_cons (pe_d d_l_pick (hr.mono (by omega)) (pa_cons (pv 1) (pa_cons (pv 6) pa_nil))) pa_nil)))) (pss_one (ps_ret pe_bl)) pss_nil))) (pss_cons (ps_set (i := 7) scLaw.nd rfl (Or.inl rfl) (pe_op op_add_str (pe_op op_add_str (pe_d d_l_pick (hr.mono (by omega)) (pa_cons (pv 1) (pa_cons (pe_lst (pa_cons pe_str (pa_cons pe_str pa_nil))) pa_nil))) (pe_callTy call_str_int (by rfl) T.str (by decide +kernel) (pa_cons (pe_op op_add pe_int (pe_d d_l_draw (hr.mono (by omega)) (pa_cons (pv 1) (pa_cons pe_int pa_nil)))) pa_nil))) (pe_op op_mul_str pe_str (pe_op op_add pe_int (pe_d d_l_draw (hr.mono (by omega)) (pa_cons (pv 1) (pa_cons pe_int pa_nil))))))) (pss_cons (ps_if (PW.pt (pw_or (pt_not (pt_val (pe_d d_l_reads (hr.mono (by omega)) (pa_cons (pv 7) pa_nil)))) (pw_or1 (pt_not (pt_val (pe_d d_l_reads (hr.mono (by omega)) (pa_cons (pe_op op_add_str (pe_op op_add_str (pe_op op_add_str (pe_op op_add_str pe_str (pv 7)) pe_str) (pv 3)) pe_str) pa_nil))))))) (pss_one (ps_ret pe_bl)) pss_nil) (pss_cons (ps_if (PW.pt (pw_or (pt_not (pt_val (pe_d d_l_deep (hr.mono (by omega)) (pa_cons (pe_op op_add pe_int (pe_d d_l_draw (hr.mono (by omega)) (pa_cons (pv 1) (pa_cons pe_int pa_nil)))) (pa_cons (pe_d d_l_pick (hr.mono (by omega)) (pa_cons (pv 1) (pa_cons (pe_lst (pa_cons (pe_tup pa_nil) (pa_cons (pe_tup (pa_cons pe_int pa_nil)) (pa_cons (pe_tup (pa_cons pe_str pa_nil)) pa_nil)))) pa_nil))) pa_nil))))) (pw_or1 (pt_not (pt_val (pe_d d_l_dossiers (hr.mono (by omega)) (pa_cons (pv 1) (pa_cons (pv 2) pa_nil)))))))) (pss_one (ps_ret pe_bl)) pss_nil) (pss_one (ps_ret (pe_and (pe_cmpR op_eq (pe_d d_write_value (hr.mono (by omega)) (pa_cons (pe_tup (pa_cons (pv 2) (pa_cons pe_int (pa_cons pe_str pa_nil)))) pa_nil)) (pe_op op_add_str (pe_op op_add_str pe_str (pv 3)) pe_str) (nomark _)) (pe_one (pe_d d_l_alike (hr.mono (by omega)) (pa_cons (pe_dS (E := fun _ => E0) d_read_value (hr.mono (by omega)) passN0 (pa_cons (pv 3) pa_nil)) (pa_cons (pv 2) pa_nil))))))))))))))))), ?_⟩
  refine ⟨_, rfl, a, ns, rfl, hS, h63, fun d c H1 s1 D => ?_⟩
  refine ⟨_, rfl, d, c, 3, rfl, by decide, D, fun v x H2 hv2 hV b2 => ?_⟩
  have hb : (txt x).length ≤ 20000 := Nat.le_trans hV.t (by decide)
  have hd3 := hV.d
  have hrun : Runs [[]] .val (txt x) (some x) := runs_back hV.g (by omega)
  have D2 := b2.d
  have hvF : ∀ {H' : Hp}, Fr d c H2 H' → At H' v x := fun f => hv2.mono (f.tk D2)
  refine ⟨_, rfl, v, x, rfl, by omega, hV.g, by omega, hv2, fun H3 s3 => ?_⟩
  have f3 := (Fr.refl D2).same s3
  refine ⟨_, rfl, v, x, rfl, by omega, hV.g, by omega, hvF f3, fun H4 s4 => ⟨_, rfl, rfl, _, rfl, ?_⟩⟩
  rw [decide_eq_true (rfl : V.str (mk (txt x)) = V.str (mk (txt x)))]
  have f4 := f3.same s4
  refine iteF ⟨_, rfl, txt x, rfl, by omega, fun H5 s5 => ⟨_, rfl, iteF ⟨_, rfl, txt x, some x, rfl, by omega, hrun, fun y hy u H6 s6 hu => ?_, fun hn => (by cases hn)⟩⟩⟩
  cases hy
  have f5 := f4.same s5
  have f6 := f5.same s6
  refine ⟨_, rfl, u, v, x, rfl, by omega, hu, hvF f6, fun H7 s7 => ⟨_, rfl, iteF ?_⟩⟩
  have f7 := f6.same s7
  -- spoilt texts
  refine ⟨4, rfl, by decide, by decide, ?_⟩
  refine for_range (lo := 0) (n := (4 : Int).toNat) (fun i σ H' => ∃ (v4 v5 : Option V), σ = [some (.ref a), some (.ref d), some v, some (.str (mk (txt x))), v4, v5, none, none] ∧ Fr d c H2 H') ⟨_, _, rfl, f7⟩ ?_ ?_
  · rintro i σ H' hi ⟨v4, v5, rfl, f⟩
    refine ⟨_, rfl, _, rfl, d, c, txt x, rfl, f.d, by omega, fun z H8 hz b8 => ?_⟩
    obtain ⟨sh, esh⟩ : ∃ sh, sh = tl z := ⟨_, rfl⟩
    have ez : z = mk sh := by rw [esh, mk_tl']
    subst ez
    rw [mk_len] at hz
    have f8 := f.trans b8
    refine ⟨_, rfl, sh, rfl, by omega, fun H9 s9 => ⟨_, rfl, iteF ⟨_, rfl, _, rfl, d, c, sh, rfl, (f8.same s9).d, by omega, fun z2 H10 hz2 b10 => ?_⟩⟩⟩
    obtain ⟨sh2, esh2⟩ : ∃ sh2, sh2 = tl z2 := ⟨_, rfl⟩
    have ez2 : z2 = mk sh2 := by rw [esh2, mk_tl']
    subst ez2
    rw [mk_len] at hz2
    exact ⟨sh2, rfl, by omega, fun H11 s11 => ⟨_, rfl, iteF ⟨_, _, rfl, ((f8.same s9).trans b10).same s11⟩⟩⟩
  rintro σ H' ⟨v4, v5, rfl, f8⟩
  -- the edges
  refine ⟨rfl, fun E xs H9 s9 eE hE xn xl hxs => ?_⟩
  have nE : E ≠ d := f8.d.ne hE
  have f9 := f8.same s9
  refine ⟨6, rfl, by decide, by decide, ?_⟩
  refine for_range (lo := 0) (n := (6 : Int).toNat) (fun i σ H' => ∃ (v4 : Option V), σ = [some (.ref a), some (.ref d), some v, some (.str (mk (txt x))), v4, v5, some (.ref E), none] ∧ Fr d c H2 H' ∧ H' E = some (.lst xs)) ⟨_, rfl, f9, eE⟩ ?_ ?_
  · rintro i σ H' hi ⟨v4, rfl, f, eE'⟩
    refine ⟨_, rfl, _, rfl, d, c, _, rfl, f.d, .inl ⟨E, xs, rfl, nE, eE', xn, by omega, fun j u H10 hj b10 => ?_⟩⟩
    obtain ⟨z, rfl, hz⟩ := hxs u (List.mem_of_getElem? hj)
    exact ⟨tl z, by rw [mk_tl'], by rw [← len_tl]; omega, fun H11 s11 => ⟨_, rfl, iteF ⟨_, rfl, (f.trans b10).same s11, s11 _ _ (b10.at nE eE')⟩⟩⟩
  rintro σ H' ⟨v4, rfl, f10, eE'⟩
  -- long numbers
  refine ⟨_, rfl, big 2 (by decide), fun G0 hG0 => ?_⟩
  have nG0 : G0 ≠ d := f10.d.ne hG0
  have f11 := f10.new hG0 (.lst [V.str (Str.ofString ""), V.str (Str.ofString "-")])
  refine ⟨d, c, _, rfl, f11.d, .inl ⟨G0, _, rfl, nG0, upd_same, by simp, by simp, fun j u H12 hj b12 => ?_⟩⟩
  have hu : ∃ zs : Str, u = .str zs ∧ zs.length ≤ 1 := by
    have hm := List.mem_of_getElem? hj
    simp only [List.mem_cons, List.not_mem_nil, or_false] at hm
    rcases hm with rfl | rfl
    · exact ⟨_, rfl, by decide⟩
    · exact ⟨_, rfl, by decide⟩
  obtain ⟨zs, rfl, hzs⟩ := hu
  have f12 := f11.trans b12
  refine ⟨_, rfl, d, c, 9, rfl, f12.d, by decide, by decide, fun r1 H13 b13 r10 r11 => ⟨_, _, rfl, rfl, _, rfl, log_ok (Nat.lt_trans (show (1 + r1).natAbs < 1000 by omega) p300), ?_⟩⟩
  have F1 : Fig 1 (toString (1 + r1) : String) := fig_one (by omega) (by omega)
  have hf1 : (Str.ofString (toString (1 + r1))).length ≤ 1 := by rw [len_tl]; exact F1.2.2
  have f13 := f12.trans b13
  refine ⟨_, _, rfl, rfl, sz (by omega), _, rfl, d, c, 4, rfl, f13.d, by decide, by decide, fun r2 H14 b14 r20 r21 => ⟨_, _, rfl, rfl, _, (298 + r2).toNat, rfl, ?_, by decide, by omega, _, _, rfl, rfl, ?_, ?_⟩⟩
  · show V.int ((298 : Int) + r2) = V.int (((298 + r2).toNat : Nat) : Int)
    congr 1
    omega
  · have mr := mk_len (List.replicate (298 + r2).toNat 55)
    rw [List.length_replicate] at mr
    rw [len_app, show tl (Str.ofString "7") = [55] from rfl, flat_rep]; exact sz (by omega)
  rw [show tl (Str.ofString "7") = [55] from rfl, flat_rep]
  have f14 := f13.trans b14
  obtain ⟨fg, efg⟩ : ∃ fg, fg = tl (zs ++ Str.ofString (toString (1 + r1)) ++ mk (List.replicate (298 + r2).toNat 55)) := ⟨_, rfl⟩
  have hfg : zs ++ Str.ofString (toString (1 + r1)) ++ mk (List.replicate (298 + r2).toNat 55) = mk fg := by rw [efg, mk_tl']
  have hfl : fg.length ≤ 303 := by
    have mr := mk_len (List.replicate (298 + r2).toNat 55)
    rw [List.length_replicate] at mr
    rw [efg, ← len_tl, len_app, len_app]; omega
  have mfg := mk_len fg
  have mtx := mk_len (txt x)
  rw [hfg]
  refine ⟨_, rfl, fg, rfl, by omega, fun H15 s15 => ⟨_, rfl, iteF ⟨_, rfl, _, _, rfl, rfl, ?_, _, _, rfl, rfl, ?_, _, rfl, _, _, rfl, rfl, ?_, _, _, rfl, rfl, ?_, ?_⟩⟩⟩
  · have := sl "(" 1; exact sz (by omega)
  · rw [len_app]; have := sl "(" 1; have := sl " " 1; exact sz (by omega)
  · rw [len_app, len_app]; have := sl "(" 1; have := sl " " 1; exact sz (by omega)
  · rw [len_app, len_app, len_app]; have := sl "(" 1; have := sl " " 1; have := sl ")" 1; exact sz (by omega)
  obtain ⟨f2g, ef2g⟩ : ∃ fg2, fg2 = tl (Str.ofString "(" ++ mk fg ++ Str.ofString " " ++ mk (txt x) ++ Str.ofString ")") := ⟨_, rfl⟩
  have hf2g : Str.ofString "(" ++ mk fg ++ Str.ofString " " ++ mk (txt x) ++ Str.ofString ")" = mk f2g := by rw [ef2g, mk_tl']
  have hf2l : f2g.length ≤ 20400 := by
    rw [ef2g, ← len_tl, len_app, len_app, len_app, len_app]
    have := sl "(" 1; have := sl " " 1; have := sl ")" 1; omega
  rw [hf2g]
  refine ⟨f2g, rfl, by omega, fun H16 s16 => ⟨_, rfl, iteF ?_⟩⟩
  have f16 := (f14.same s15).same s16
  -- deep texts
  refine ⟨_, rfl, d, c, 5, rfl, f16.d, by decide, by decide, fun r3 H17 b17 r30 r31 => ⟨_, _, rfl, rfl, _, rfl, big 0 (by decide), fun T0 hT0 => ⟨big 1 (by decide), fun T1 hT1 => ⟨big 1 (by decide), fun T2 hT2 => ⟨big 3 (by decide), fun TL hTL => ?_⟩⟩⟩⟩⟩
  have f17 := f16.trans b17
  have g0 := f17.new hT0 (.tup [])
  have g1 := g0.new hT1 (.tup [V.int 7])
  have g2 := g1.new hT2 (.tup [V.str (Str.ofString "a")])
  have g3 := g2.new hTL (.lst [V.ref T0, V.ref T1, V.ref T2])
  have nTL : TL ≠ d := g2.d.ne hTL
  refine ⟨d, c, _, rfl, g3.d, .inl ⟨TL, _, rfl, nTL, upd_same, by simp, by simp, fun j u H18 hj b18 => ?_⟩⟩
  have hu : ∃ l0 : List Val, At H18 u (.tup l0) ∧ dep (.tup l0) = 1 ∧ Vd 1 (.tup l0) := by
    have tk18 := b18.tk g3.d
    have hm := List.mem_of_getElem? hj
    simp only [List.mem_cons, List.not_mem_nil, or_false] at hm
    rcases hm with rfl | rfl | rfl
    · exact ⟨[], (Ats.nil.at (a := T0) (lst_upd (lst_upd (lst_upd upd_same hT1) hT2) hTL) (by simp)).mono tk18, rfl, vd_tup (by simp) (by simp)⟩
    · refine ⟨[.int 7], ((ats_one (.int 7)).at (a := T1) (lst_upd (lst_upd upd_same hT2) hTL) (by simp)).mono tk18, rfl, vd_tup (fun y hy => ?_) (by simp)⟩
      rw [List.mem_singleton.mp hy]; exact vd_int (Nat.lt_trans (by decide : 7 < 1000) p300)
    · refine ⟨[.str (Str.ofString "a")], ((ats_one (.str _)).at (a := T2) (lst_upd upd_same hTL) (by simp)).mono tk18, rfl, vd_tup (fun y hy => ?_) (by simp)⟩
      rw [List.mem_singleton.mp hy]; exact vd_str (by decide) (by decide)
  obtain ⟨l0, hu, hdep, hvd⟩ := hu
  refine ⟨(58 + r3).toNat, u, l0, ?_, by omega, by omega, hu, hdep, hvd, fun H19 s19 => ⟨_, rfl, iteF ?_⟩⟩
  · have e : (58 : Int) + r3 = (((58 + r3).toNat : Nat) : Int) := by omega
    show [V.int ((58 : Int) + r3), u] = _
    rw [← e]
  have f19 := (g3.trans b18).same s19
  -- dossiers
  refine ⟨_, rfl, _, rfl, d, c, v, x, rfl, f19.d, hvF f19, hV, fun H20 b20 => ⟨_, rfl, iteF ?_⟩⟩
  have f20 := f19.trans b20
  -- a last value
  have hv20 := hvF f20
  refine ⟨_, rfl, big 3 (by decide), fun TT hTT => ?_⟩
  have s21 := same_new hTT (.tup [v, V.int 0, V.str (Str.ofString "")])
  have hx3 : At (upd H20 TT (.tup [v, V.int 0, V.str (Str.ofString "")])) (.ref TT) (.tup [x, .int 0, .str (Str.ofString "")]) :=
    (((ats_one (hv20.mono (Same.tk s21))).snoc (.int 0)).snoc (.str (Str.ofString ""))).at (a := TT) upd_same (by simp)
  have hg3 : Good (.tup [x, .int 0, .str (Str.ofString "")]) := .tup fun y hy => by
    simp only [List.mem_cons, List.not_mem_nil, or_false] at hy
    rcases hy with rfl | rfl | rfl
    · exact hV.g
    · exact .int (Nat.lt_trans (by decide : 0 < 1000) p300)
    · exact .str (by decide)
  have ht3 : txt (.tup [x, .int 0, .str (Str.ofString "")]) = 40 :: ((txt x ++ ([32] ++ ([48] ++ ([32] ++ [34, 34])))) ++ [41]) := by
    have e0 : txt (.int 0) = [48] := by decide +kernel
    have e1 : txt (.str (Str.ofString "")) = [34, 34] := by decide +kernel
    rw [txt, txts, txts, txts, txts, e0, e1]; rfl
  refine ⟨_, _, rfl, ?_, hg3, ?_, hx3, fun H22 s22 => ?_⟩
  · rw [dep, deps, deps, deps, deps]
    have e0 : dep (.int 0) = 0 := rfl
    have e1 : dep (.str (Str.ofString "")) = 0 := rfl
    rw [e0, e1]; omega
  · rw [ht3]; simp; omega
  rw [ht3]
  have f22 := (f20.same s21).same s22
  refine ⟨_, rfl, _, _, rfl, rfl, ?_, _, _, rfl, rfl, ?_, rfl, _, rfl, ?_⟩
  · have := sl "(" 1; exact sz (by omega)
  · rw [len_app]; have := sl "(" 1; have := sl " 0 \"\")" 6; exact sz (by omega)
  have eqs : Str.ofString "(" ++ mk (txt x) ++ Str.ofString " 0 \"\")" = mk (40 :: ((txt x ++ ([32] ++ ([48] ++ ([32] ++ [34, 34])))) ++ [41])) := by
    rw [app_mk, tl_app]
    show mk (([40] ++ txt x) ++ [32, 48, 32, 34, 34, 41]) = _
    congr 1
    simp
  rw [eqs, decide_eq_true (rfl : V.str (mk (40 :: ((txt x ++ ([32] ++ ([48] ++ ([32] ++ [34, 34])))) ++ [41]))) = V.str (mk (40 :: ((txt x ++ ([32] ++ ([48] ++ ([32] ++ [34, 34])))) ++ [41]))))]
  refine iteT ⟨_, rfl, txt x, some x, rfl, by omega, hrun, fun y hy u2 H23 s23 hu2 => ?_, fun hn => (by cases hn)⟩
  cases hy
  exact ⟨_, rfl, u2, v, x, rfl, by omega, hu2, hvF (f22.same s23), fun H24 s24 => q H24⟩

end
end K93

/-! What the top has written. -/
namespace K93
open PySem PySem.Spec PyProof.Rows L2 TL
theorem all_mk {l : PySem.W.OpenLaw} {w : World} {K : PySem.W.Frag} {h : Heap} {mg : Str → Option Value} {fa : Addr} (X : K.In h) (G : h.Ns mainGlobals mg) (hfa : mg "law" = some (.ref fa))
    {f0 : Addr} {od0 an0 : Option Addr} {sl0 : Array (Option Value)} {oc0 kV0 dc0 pm0 cd0 ct0 : Value}
    {f1 : Addr} {od1 an1 : Option Addr} {sl1 : Array (Option Value)} {oc1 kV1 dc1 pm1 cd1 ct1 : Value}
    {f2 : Addr} {od2 an2 : Option Addr} {sl2 : Array (Option Value)} {oc2 kV2 dc2 pm2 cd2 ct2 : Value}
    {f3 : Addr} {od3 an3 : Option Addr} {sl3 : Array (Option Value)} {oc3 kV3 dc3 pm3 cd3 ct3 : Value}
    {f4 : Addr} {od4 an4 : Option Addr} {sl4 : Array (Option Value)} {oc4 kV4 dc4 pm4 cd4 ct4 : Value}
    {f5 : Addr} {od5 an5 : Option Addr} {sl5 : Array (Option Value)} {oc5 kV5 dc5 pm5 cd5 ct5 : Value}
    {f6 : Addr} {od6 an6 : Option Addr} {sl6 : Array (Option Value)} {oc6 kV6 dc6 pm6 cd6 ct6 : Value}
    {f7 : Addr} {od7 an7 : Option Addr} {sl7 : Array (Option Value)} {oc7 kV7 dc7 pm7 cd7 ct7 : Value}
    {f8 : Addr} {od8 an8 : Option Addr} {sl8 : Array (Option Value)} {oc8 kV8 dc8 pm8 cd8 ct8 : Value}
    {f9 : Addr} {od9 an9 : Option Addr} {sl9 : Array (Option Value)} {oc9 kV9 dc9 pm9 cd9 ct9 : Value}
    {f10 : Addr} {od10 an10 : Option Addr} {sl10 : Array (Option Value)} {oc10 kV10 dc10 pm10 cd10 ct10 : Value}
    {f11 : Addr} {od11 an11 : Option Addr} {sl11 : Array (Option Value)} {oc11 kV11 dc11 pm11 cd11 ct11 : Value}
    {f12 : Addr} {od12 an12 : Option Addr} {sl12 : Array (Option Value)} {oc12 kV12 dc12 pm12 cd12 ct12 : Value}
    {f13 : Addr} {od13 an13 : Option Addr} {sl13 : Array (Option Value)} {oc13 kV13 dc13 pm13 cd13 ct13 : Value}
    {f14 : Addr} {od14 an14 : Option Addr} {sl14 : Array (Option Value)} {oc14 kV14 dc14 pm14 cd14 ct14 : Value}
    {f15 : Addr} {od15 an15 : Option Addr} {sl15 : Array (Option Value)} {oc15 kV15 dc15 pm15 cd15 ct15 : Value}
    {f16 : Addr} {od16 an16 : Option Addr} {sl16 : Array (Option Value)} {oc16 kV16 dc16 pm16 cd16 ct16 : Value}
    {f17 : Addr} {od17 an17 : Option Addr} {sl17 : Array (Option Value)} {oc17 kV17 dc17 pm17 cd17 ct17 : Value}
    {f18 : Addr} {od18 an18 : Option Addr} {sl18 : Array (Option Value)} {oc18 kV18 dc18 pm18 cd18 ct18 : Value}
    {f19 : Addr} {od19 an19 : Option Addr} {sl19 : Array (Option Value)} {oc19 kV19 dc19 pm19 cd19 ct19 : Value}
    {f20 : Addr} {od20 an20 : Option Addr} {sl20 : Array (Option Value)} {oc20 kV20 dc20 pm20 cd20 ct20 : Value}
    {f21 : Addr} {od21 an21 : Option Addr} {sl21 : Array (Option Value)} {oc21 kV21 dc21 pm21 cd21 ct21 : Value}
    {f22 : Addr} {od22 an22 : Option Addr} {sl22 : Array (Option Value)} {oc22 kV22 dc22 pm22 cd22 ct22 : Value}
    {f23 : Addr} {od23 an23 : Option Addr} {sl23 : Array (Option Value)} {oc23 kV23 dc23 pm23 cd23 ct23 : Value}
    {f24 : Addr} {od24 an24 : Option Addr} {sl24 : Array (Option Value)} {oc24 kV24 dc24 pm24 cd24 ct24 : Value}
    {f25 : Addr} {od25 an25 : Option Addr} {sl25 : Array (Option Value)} {oc25 kV25 dc25 pm25 cd25 ct25 : Value}
    {f26 : Addr} {od26 an26 : Option Addr} {sl26 : Array (Option Value)} {oc26 kV26 dc26 pm26 cd26 ct26 : Value}
    {f27 : Addr} {od27 an27 : Option Addr} {sl27 : Array (Option Value)} {oc27 kV27 dc27 pm27 cd27 ct27 : Value}
    {f28 : Addr} {od28 an28 : Option Addr} {sl28 : Array (Option Value)} {oc28 kV28 dc28 pm28 cd28 ct28 : Value}
    {f29 : Addr} {od29 an29 : Option Addr} {sl29 : Array (Option Value)} {oc29 kV29 dc29 pm29 cd29 ct29 : Value}
    {f30 : Addr} {od30 an30 : Option Addr} {sl30 : Array (Option Value)} {oc30 kV30 dc30 pm30 cd30 ct30 : Value}
    {f31 : Addr} {od31 an31 : Option Addr} {sl31 : Array (Option Value)} {oc31 kV31 dc31 pm31 cd31 ct31 : Value}
    {f32 : Addr} {od32 an32 : Option Addr} {sl32 : Array (Option Value)} {oc32 kV32 dc32 pm32 cd32 ct32 : Value}
    {f33 : Addr} {od33 an33 : Option Addr} {sl33 : Array (Option Value)} {oc33 kV33 dc33 pm33 cd33 ct33 : Value}
    {td tg : Tok}
    {C CE fI cda cc : Addr} {nm q qual file : Str} {N : Addr} {bs bm : List Value} {sn : List Str} {sub : List Value} {ab : Bool} {col : Option Bool} {dd : Option Addr} {j0 j1 j2 j3 j5 : Option Value} {ocI kVI dcI pmI ctI cclI clI : Value} {odI anI cddI cldI : Option Addr} {slI ccsI cslI : Array (Option Value)} {vsI : Array Value} {tfI : Tok}
    {DBadPage DTooMany DWrongKind DNoLevel DBadPaper DBadCommand : Addr}
    (a0 : PySem.W.nsIn K mainGlobals "write_value" = some (some (.ref f0)))
    (l0 : K.lookup f0 = some ⟨oc0, od0, .func (PySem.W.fnOf "write_value" "write_value" (defArgs sWriteValue) (defBody sWriteValue) (defScope sWriteValue) .none kV0 dc0 pm0 an0 cd0 ct0), sl0⟩)
    (c0 : PySem.W.codeIn K cd0 "write_value" = true)
    (k0 : PySem.W.keepIn K (.ref f0) = true)
    (a1 : PySem.W.nsIn K mainGlobals "number_end" = some (some (.ref f1)))
    (l1 : K.lookup f1 = some ⟨oc1, od1, .func (PySem.W.fnOf "number_end" "number_end" (defArgs sNumberEnd) (defBody sNumberEnd) (defScope sNumberEnd) .none kV1 dc1 pm1 an1 cd1 ct1), sl1⟩)
    (c1 : PySem.W.codeIn K cd1 "number_end" = true)
    (k1 : PySem.W.keepIn K (.ref f1) = true)
    (a2 : PySem.W.nsIn K mainGlobals "string_end" = some (some (.ref f2)))
    (l2 : K.lookup f2 = some ⟨oc2, od2, .func (PySem.W.fnOf "string_end" "string_end" (defArgs sStringEnd) (defBody sStringEnd) (defScope sStringEnd) .none kV2 dc2 pm2 an2 cd2 ct2), sl2⟩)
    (c2 : PySem.W.codeIn K cd2 "string_end" = true)
    (k2 : PySem.W.keepIn K (.ref f2) = true)
    (a3 : PySem.W.nsIn K mainGlobals "atom_at" = some (some (.ref f3)))
    (l3 : K.lookup f3 = some ⟨oc3, od3, .func (PySem.W.fnOf "atom_at" "atom_at" (defArgs sAtomAt) (defBody sAtomAt) (defScope sAtomAt) .none kV3 dc3 pm3 an3 cd3 ct3), sl3⟩)
    (c3 : PySem.W.codeIn K cd3 "atom_at" = true)
    (k3 : PySem.W.keepIn K (.ref f3) = true)
    (a4 : PySem.W.nsIn K mainGlobals "read_value" = some (some (.ref f4)))
    (l4 : K.lookup f4 = some ⟨oc4, od4, .func (PySem.W.fnOf "read_value" "read_value" (defArgs sReadValue) (defBody sReadValue) (defScope sReadValue) .none kV4 dc4 pm4 an4 cd4 ct4), sl4⟩)
    (c4 : PySem.W.codeIn K cd4 "read_value" = true)
    (k4 : PySem.W.keepIn K (.ref f4) = true)
    (a5 : PySem.W.nsIn K mainGlobals "write_dossier" = some (some (.ref f5)))
    (l5 : K.lookup f5 = some ⟨oc5, od5, .func (PySem.W.fnOf "write_dossier" "write_dossier" (defArgs sWriteDossier) (defBody sWriteDossier) (defScope sWriteDossier) .none kV5 dc5 pm5 an5 cd5 ct5), sl5⟩)
    (c5 : PySem.W.codeIn K cd5 "write_dossier" = true)
    (k5 : PySem.W.keepIn K (.ref f5) = true)
    (a6 : PySem.W.nsIn K mainGlobals "line_places" = some (some (.ref f6)))
    (l6 : K.lookup f6 = some ⟨oc6, od6, .func (PySem.W.fnOf "line_places" "line_places" (defArgs sLinePlaces) (defBody sLinePlaces) (defScope sLinePlaces) .none kV6 dc6 pm6 an6 cd6 ct6), sl6⟩)
    (c6 : PySem.W.codeIn K cd6 "line_places" = true)
    (k6 : PySem.W.keepIn K (.ref f6) = true)
    (a7 : PySem.W.nsIn K mainGlobals "read_dossier" = some (some (.ref f7)))
    (l7 : K.lookup f7 = some ⟨oc7, od7, .func (PySem.W.fnOf "read_dossier" "read_dossier" (defArgs sReadDossier) (defBody sReadDossier) (defScope sReadDossier) .none kV7 dc7 pm7 an7 cd7 ct7), sl7⟩)
    (c7 : PySem.W.codeIn K cd7 "read_dossier" = true)
    (k7 : PySem.W.keepIn K (.ref f7) = true)
    (a8 : PySem.W.nsIn K mainGlobals "_law_begin" = some (some (.ref f8)))
    (l8 : K.lookup f8 = some ⟨oc8, od8, .func (PySem.W.fnOf "_law_begin" "_law_begin" (defArgs sLawBegin) (defBody sLawBegin) (defScope sLawBegin) .none kV8 dc8 pm8 an8 cd8 ct8), sl8⟩)
    (c8 : PySem.W.codeIn K cd8 "_law_begin" = true)
    (k8 : PySem.W.keepIn K (.ref f8) = true)
    (a9 : PySem.W.nsIn K mainGlobals "_law_draw" = some (some (.ref f9)))
    (l9 : K.lookup f9 = some ⟨oc9, od9, .func (PySem.W.fnOf "_law_draw" "_law_draw" (defArgs sLawDraw) (defBody sLawDraw) (defScope sLawDraw) .none kV9 dc9 pm9 an9 cd9 ct9), sl9⟩)
    (c9 : PySem.W.codeIn K cd9 "_law_draw" = true)
    (k9 : PySem.W.keepIn K (.ref f9) = true)
    (a10 : PySem.W.nsIn K mainGlobals "_law_pick" = some (some (.ref f10)))
    (l10 : K.lookup f10 = some ⟨oc10, od10, .func (PySem.W.fnOf "_law_pick" "_law_pick" (defArgs sLawPick) (defBody sLawPick) (defScope sLawPick) .none kV10 dc10 pm10 an10 cd10 ct10), sl10⟩)
    (c10 : PySem.W.codeIn K cd10 "_law_pick" = true)
    (k10 : PySem.W.keepIn K (.ref f10) = true)
    (a11 : PySem.W.nsIn K mainGlobals "_law_letters" = some (some (.ref f11)))
    (l11 : K.lookup f11 = some ⟨oc11, od11, .func (PySem.W.fnOf "_law_letters" "_law_letters" (defArgs sLawLetters) (defBody sLawLetters) (defScope sLawLetters) .none kV11 dc11 pm11 an11 cd11 ct11), sl11⟩)
    (c11 : PySem.W.codeIn K cd11 "_law_letters" = true)
    (k11 : PySem.W.keepIn K (.ref f11) = true)
    (a12 : PySem.W.nsIn K mainGlobals "_law_is_int" = some (some (.ref f12)))
    (l12 : K.lookup f12 = some ⟨oc12, od12, .func (PySem.W.fnOf "_law_is_int" "_law_is_int" (defArgs sLawIsInt) (defBody sLawIsInt) (defScope sLawIsInt) .none kV12 dc12 pm12 an12 cd12 ct12), sl12⟩)
    (c12 : PySem.W.codeIn K cd12 "_law_is_int" = true)
    (k12 : PySem.W.keepIn K (.ref f12) = true)
    (a13 : PySem.W.nsIn K mainGlobals "_law_signs" = some (some (.ref f13)))
    (l13 : K.lookup f13 = some ⟨oc13, od13, .func (PySem.W.fnOf "_law_signs" "_law_signs" (defArgs sLawSigns) (defBody sLawSigns) (defScope sLawSigns) .none kV13 dc13 pm13 an13 cd13 ct13), sl13⟩)
    (c13 : PySem.W.codeIn K cd13 "_law_signs" = true)
    (k13 : PySem.W.keepIn K (.ref f13) = true)
    (a14 : PySem.W.nsIn K mainGlobals "_law_string" = some (some (.ref f14)))
    (l14 : K.lookup f14 = some ⟨oc14, od14, .func (PySem.W.fnOf "_law_string" "_law_string" (defArgs sLawString) (defBody sLawString) (defScope sLawString) .none kV14 dc14 pm14 an14 cd14 ct14), sl14⟩)
    (c14 : PySem.W.codeIn K cd14 "_law_string" = true)
    (k14 : PySem.W.keepIn K (.ref f14) = true)
    (a15 : PySem.W.nsIn K mainGlobals "_law_number" = some (some (.ref f15)))
    (l15 : K.lookup f15 = some ⟨oc15, od15, .func (PySem.W.fnOf "_law_number" "_law_number" (defArgs sLawNumber) (defBody sLawNumber) (defScope sLawNumber) .none kV15 dc15 pm15 an15 cd15 ct15), sl15⟩)
    (c15 : PySem.W.codeIn K cd15 "_law_number" = true)
    (k15 : PySem.W.keepIn K (.ref f15) = true)
    (a16 : PySem.W.nsIn K mainGlobals "_law_value" = some (some (.ref f16)))
    (l16 : K.lookup f16 = some ⟨oc16, od16, .func (PySem.W.fnOf "_law_value" "_law_value" (defArgs sLawValue) (defBody sLawValue) (defScope sLawValue) .none kV16 dc16 pm16 an16 cd16 ct16), sl16⟩)
    (c16 : PySem.W.codeIn K cd16 "_law_value" = true)
    (k16 : PySem.W.keepIn K (.ref f16) = true)
    (a17 : PySem.W.nsIn K mainGlobals "_law_text_of" = some (some (.ref f17)))
    (l17 : K.lookup f17 = some ⟨oc17, od17, .func (PySem.W.fnOf "_law_text_of" "_law_text_of" (defArgs sLawTextOf) (defBody sLawTextOf) (defScope sLawTextOf) .none kV17 dc17 pm17 an17 cd17 ct17), sl17⟩)
    (c17 : PySem.W.codeIn K cd17 "_law_text_of" = true)
    (k17 : PySem.W.keepIn K (.ref f17) = true)
    (a18 : PySem.W.nsIn K mainGlobals "_law_alike" = some (some (.ref f18)))
    (l18 : K.lookup f18 = some ⟨oc18, od18, .func (PySem.W.fnOf "_law_alike" "_law_alike" (defArgs sLawAlike) (defBody sLawAlike) (defScope sLawAlike) .none kV18 dc18 pm18 an18 cd18 ct18), sl18⟩)
    (c18 : PySem.W.codeIn K cd18 "_law_alike" = true)
    (k18 : PySem.W.keepIn K (.ref f18) = true)
    (a19 : PySem.W.nsIn K mainGlobals "_law_number_end" = some (some (.ref f19)))
    (l19 : K.lookup f19 = some ⟨oc19, od19, .func (PySem.W.fnOf "_law_number_end" "_law_number_end" (defArgs sLawNumberEnd) (defBody sLawNumberEnd) (defScope sLawNumberEnd) .none kV19 dc19 pm19 an19 cd19 ct19), sl19⟩)
    (c19 : PySem.W.codeIn K cd19 "_law_number_end" = true)
    (k19 : PySem.W.keepIn K (.ref f19) = true)
    (a20 : PySem.W.nsIn K mainGlobals "_law_found" = some (some (.ref f20)))
    (l20 : K.lookup f20 = some ⟨oc20, od20, .func (PySem.W.fnOf "_law_found" "_law_found" (defArgs sLawFound) (defBody sLawFound) (defScope sLawFound) .none kV20 dc20 pm20 an20 cd20 ct20), sl20⟩)
    (c20 : PySem.W.codeIn K cd20 "_law_found" = true)
    (k20 : PySem.W.keepIn K (.ref f20) = true)
    (a21 : PySem.W.nsIn K mainGlobals "_law_is_refusal" = some (some (.ref f21)))
    (l21 : K.lookup f21 = some ⟨oc21, od21, .func (PySem.W.fnOf "_law_is_refusal" "_law_is_refusal" (defArgs sLawIsRefusal) (defBody sLawIsRefusal) (defScope sLawIsRefusal) .none kV21 dc21 pm21 an21 cd21 ct21), sl21⟩)
    (c21 : PySem.W.codeIn K cd21 "_law_is_refusal" = true)
    (k21 : PySem.W.keepIn K (.ref f21) = true)
    (a22 : PySem.W.nsIn K mainGlobals "_law_reads" = some (some (.ref f22)))
    (l22 : K.lookup f22 = some ⟨oc22, od22, .func (PySem.W.fnOf "_law_reads" "_law_reads" (defArgs sLawReads) (defBody sLawReads) (defScope sLawReads) .none kV22 dc22 pm22 an22 cd22 ct22), sl22⟩)
    (c22 : PySem.W.codeIn K cd22 "_law_reads" = true)
    (k22 : PySem.W.keepIn K (.ref f22) = true)
    (a23 : PySem.W.nsIn K mainGlobals "_law_spoilt" = some (some (.ref f23)))
    (l23 : K.lookup f23 = some ⟨oc23, od23, .func (PySem.W.fnOf "_law_spoilt" "_law_spoilt" (defArgs sLawSpoilt) (defBody sLawSpoilt) (defScope sLawSpoilt) .none kV23 dc23 pm23 an23 cd23 ct23), sl23⟩)
    (c23 : PySem.W.codeIn K cd23 "_law_spoilt" = true)
    (k23 : PySem.W.keepIn K (.ref f23) = true)
    (a24 : PySem.W.nsIn K mainGlobals "_law_edges" = some (some (.ref f24)))
    (l24 : K.lookup f24 = some ⟨oc24, od24, .func (PySem.W.fnOf "_law_edges" "_law_edges" (defArgs sLawEdges) (defBody sLawEdges) (defScope sLawEdges) .none kV24 dc24 pm24 an24 cd24 ct24), sl24⟩)
    (c24 : PySem.W.codeIn K cd24 "_law_edges" = true)
    (k24 : PySem.W.keepIn K (.ref f24) = true)
    (a25 : PySem.W.nsIn K mainGlobals "_law_deep" = some (some (.ref f25)))
    (l25 : K.lookup f25 = some ⟨oc25, od25, .func (PySem.W.fnOf "_law_deep" "_law_deep" (defArgs sLawDeep) (defBody sLawDeep) (defScope sLawDeep) .none kV25 dc25 pm25 an25 cd25 ct25), sl25⟩)
    (c25 : PySem.W.codeIn K cd25 "_law_deep" = true)
    (k25 : PySem.W.keepIn K (.ref f25) = true)
    (a26 : PySem.W.nsIn K mainGlobals "_law_lines" = some (some (.ref f26)))
    (l26 : K.lookup f26 = some ⟨oc26, od26, .func (PySem.W.fnOf "_law_lines" "_law_lines" (defArgs sLawLines) (defBody sLawLines) (defScope sLawLines) .none kV26 dc26 pm26 an26 cd26 ct26), sl26⟩)
    (c26 : PySem.W.codeIn K cd26 "_law_lines" = true)
    (k26 : PySem.W.keepIn K (.ref f26) = true)
    (a27 : PySem.W.nsIn K mainGlobals "_law_dossier" = some (some (.ref f27)))
    (l27 : K.lookup f27 = some ⟨oc27, od27, .func (PySem.W.fnOf "_law_dossier" "_law_dossier" (defArgs sLawDossier) (defBody sLawDossier) (defScope sLawDossier) .none kV27 dc27 pm27 an27 cd27 ct27), sl27⟩)
    (c27 : PySem.W.codeIn K cd27 "_law_dossier" = true)
    (k27 : PySem.W.keepIn K (.ref f27) = true)
    (a28 : PySem.W.nsIn K mainGlobals "_law_broken" = some (some (.ref f28)))
    (l28 : K.lookup f28 = some ⟨oc28, od28, .func (PySem.W.fnOf "_law_broken" "_law_broken" (defArgs sLawBroken) (defBody sLawBroken) (defScope sLawBroken) .none kV28 dc28 pm28 an28 cd28 ct28), sl28⟩)
    (c28 : PySem.W.codeIn K cd28 "_law_broken" = true)
    (k28 : PySem.W.keepIn K (.ref f28) = true)
    (a29 : PySem.W.nsIn K mainGlobals "_law_is_triple" = some (some (.ref f29)))
    (l29 : K.lookup f29 = some ⟨oc29, od29, .func (PySem.W.fnOf "_law_is_triple" "_law_is_triple" (defArgs sLawIsTriple) (defBody sLawIsTriple) (defScope sLawIsTriple) .none kV29 dc29 pm29 an29 cd29 ct29), sl29⟩)
    (c29 : PySem.W.codeIn K cd29 "_law_is_triple" = true)
    (k29 : PySem.W.keepIn K (.ref f29) = true)
    (a30 : PySem.W.nsIn K mainGlobals "_law_dossier_read" = some (some (.ref f30)))
    (l30 : K.lookup f30 = some ⟨oc30, od30, .func (PySem.W.fnOf "_law_dossier_read" "_law_dossier_read" (defArgs sLawDossierRead) (defBody sLawDossierRead) (defScope sLawDossierRead) .none kV30 dc30 pm30 an30 cd30 ct30), sl30⟩)
    (c30 : PySem.W.codeIn K cd30 "_law_dossier_read" = true)
    (k30 : PySem.W.keepIn K (.ref f30) = true)
    (a31 : PySem.W.nsIn K mainGlobals "_law_dossier_refused" = some (some (.ref f31)))
    (l31 : K.lookup f31 = some ⟨oc31, od31, .func (PySem.W.fnOf "_law_dossier_refused" "_law_dossier_refused" (defArgs sLawDossierRefused) (defBody sLawDossierRefused) (defScope sLawDossierRefused) .none kV31 dc31 pm31 an31 cd31 ct31), sl31⟩)
    (c31 : PySem.W.codeIn K cd31 "_law_dossier_refused" = true)
    (k31 : PySem.W.keepIn K (.ref f31) = true)
    (a32 : PySem.W.nsIn K mainGlobals "_law_dossiers" = some (some (.ref f32)))
    (l32 : K.lookup f32 = some ⟨oc32, od32, .func (PySem.W.fnOf "_law_dossiers" "_law_dossiers" (defArgs sLawDossiers) (defBody sLawDossiers) (defScope sLawDossiers) .none kV32 dc32 pm32 an32 cd32 ct32), sl32⟩)
    (c32 : PySem.W.codeIn K cd32 "_law_dossiers" = true)
    (k32 : PySem.W.keepIn K (.ref f32) = true)
    (a33 : PySem.W.nsIn K mainGlobals "law" = some (some (.ref f33)))
    (l33 : K.lookup f33 = some ⟨oc33, od33, .func (PySem.W.fnOf "law" "law" (defArgs sLaw) (defBody sLaw) (defScope sLaw) .none kV33 dc33 pm33 an33 cd33 ct33), sl33⟩)
    (c33 : PySem.W.codeIn K cd33 "law" = true)
    (k33 : PySem.W.keepIn K (.ref f33) = true)
    (z_len : PySem.W.nsIn K mainGlobals "len" = some none)
    (z_isinstance : PySem.W.nsIn K mainGlobals "isinstance" = some none)
    (z_tuple : PySem.W.nsIn K mainGlobals "tuple" = some none)
    (z_str : PySem.W.nsIn K mainGlobals "str" = some none)
    (z_int : PySem.W.nsIn K mainGlobals "int" = some none)
    (z_bool : PySem.W.nsIn K mainGlobals "bool" = some none)
    (z_abs : PySem.W.nsIn K mainGlobals "abs" = some none)
    (z_all : PySem.W.nsIn K mainGlobals "all" = some none)
    (z_any : PySem.W.nsIn K mainGlobals "any" = some none)
    (z_range : PySem.W.nsIn K mainGlobals "range" = some none)
    (z_super : PySem.W.nsIn K mainGlobals "super" = some none)
    (d1 : PySem.W.nsIn K mainGlobals "DEPTH_LIMIT" = some (some (.int 60 td)))
    (d2 : PySem.W.nsIn K mainGlobals "DIGITS_LIMIT" = some (some (.int 300 tg)))
    (e0 : PySem.W.nsIn K mainGlobals "BadText" = some (some (.ref C)))
    (e1 : K.lookup C = some (excClassObj nm q C N bs bm true sn sub ab col dd j0 j1 j2 j3 j5 "ValueError.__new__"))
    (e3 : PySem.W.findIn K (.ref C) "__setattr__" = some (some (.builtin "object.__setattr__")))
    (e4 : PySem.W.findIn K (.ref C) "at" = some none)
    (e5 : PySem.W.ks_superIn K C C "__init__" = some (some (.builtin "ValueError.__init__")))
    (e6 : PySem.W.subIn K (.ref C) (.type "ValueError") = some true)
    (e7 : PySem.W.nsIn K PySem.cStatics "thirdparty.any" = some none)
    (e8 : PySem.W.mroIn K C (.ref C) = some true)
    (e9 : PySem.W.findIn K (.ref C) "__init__" = some (some (.ref fI)))
    (e10 : K.lookup fI = some ⟨ocI, odI, .func (PySem.W.ksFn "__init__" qual (defArgs PySem.BtX.sBt) PySem.BtX.bB (defScope PySem.BtX.sBt) .none kVI dcI pmI anI (.ref cda) ctI cc), slI⟩)
    (e11 : PySem.W.codeIn K (.ref cda) qual = true)
    (e12 : K.lookup cda = some ⟨cclI, cddI, .fields vsI, ccsI⟩)
    (e15 : K.lookup cc = some ⟨clI, cldI, .cell (some (.ref C)), cslI⟩)
    (e16 : PySem.W.typeIn K (.ref fI) = some (.type "function"))
    (e17 : PySem.W.subIn K (.ref C) (.type "BaseException") = some true)
    (e18 : PySem.W.typeIn K (.ref C) = some (.type "type"))
    (e19 : PySem.W.keepIn K (.ref C) = true)
    (r1 : PySem.W.findIn K (.ref C) "__getattribute__" = some (some (.builtin "BaseException.__getattribute__")))
    (r2 : PySem.W.findIn K (.ref C) "__getattr__" = some none)
    (r3 : PySem.W.hasDictIn K C = true)
    (r4 : PySem.W.findIn K (.ref C) "__class__" = some (some (.builtin "object.__class__")))
    (r5 : PySem.W.specialIn K (.builtin "object.__class__") "__get__" = some (some (.builtin "getset_descriptor.__get__")))
    (r6 : PySem.W.takesIn K (.builtin "object.__class__") = some true)
    (r7 : PySem.W.mroIn K C (.type "object") = some true)
    (r8 : PySem.W.kitOne K (.ref C) (.ref C) = some true)
    (r9 : PySem.W.nsIn K mainGlobals "CourtError" = some (some (.ref CE)))
    (r10 : PySem.W.exmOne K (.ref C) (.ref CE) = some true)
    (r11 : PySem.W.exmOne K (.ref C) (.ref C) = some true)
    (n_BadPage : PySem.W.nsIn K mainGlobals "BadPage" = some (some (.ref DBadPage)))
    (o_BadPage : PySem.W.kitOne K (.ref C) (.ref DBadPage) = some false)
    (n_TooMany : PySem.W.nsIn K mainGlobals "TooMany" = some (some (.ref DTooMany)))
    (o_TooMany : PySem.W.kitOne K (.ref C) (.ref DTooMany) = some false)
    (n_WrongKind : PySem.W.nsIn K mainGlobals "WrongKind" = some (some (.ref DWrongKind)))
    (o_WrongKind : PySem.W.kitOne K (.ref C) (.ref DWrongKind) = some false)
    (n_NoLevel : PySem.W.nsIn K mainGlobals "NoLevel" = some (some (.ref DNoLevel)))
    (o_NoLevel : PySem.W.kitOne K (.ref C) (.ref DNoLevel) = some false)
    (n_BadPaper : PySem.W.nsIn K mainGlobals "BadPaper" = some (some (.ref DBadPaper)))
    (o_BadPaper : PySem.W.kitOne K (.ref C) (.ref DBadPaper) = some false)
    (n_BadCommand : PySem.W.nsIn K mainGlobals "BadCommand" = some (some (.ref DBadCommand)))
    (o_BadCommand : PySem.W.kitOne K (.ref C) (.ref DBadCommand) = some false)
    (e2 : PySem.HandSPX.refsVE bm = true) (e13 : vsI[2]? = some (.str file tfI)) (e14 : ((l.prog.main.file : Str) == file) = true) (eS : (l.prog.main.scope.names.lookup ("super" : Str)).isSome = false) :
    ∃ fd : FuncData, (∀ (s : Shared) (v : Value), BindsTo s fd ⟨[v], []⟩ [("script", v)]) ∧ ∀ base : Heap, K.In base → base.Ns mainGlobals mg → FnOk l.prog w K mg base CX0 69 fa fd ["script"] (spLaw K) := by
  have e := hfa.symm.trans (PySem.W.mg_of X G a33)
  cases e
  have F0 := fun_mk (st := sWriteValue) l0 c0 k0
  have b0 := F0.binds (ps := ["value"]) fun _ _ _ _ _ _ us hl => match us, hl with | [_], _ => rfl
  have m0 := PySem.W.mg_of X G a0
  have F1 := fun_mk (st := sNumberEnd) l1 c1 k1
  have b1 := F1.binds (ps := ["text", "at"]) fun _ _ _ _ _ _ us hl => match us, hl with | [_, _], _ => rfl
  have m1 := PySem.W.mg_of X G a1
  have F2 := fun_mk (st := sStringEnd) l2 c2 k2
  have b2 := F2.binds (ps := ["text", "at"]) fun _ _ _ _ _ _ us hl => match us, hl with | [_, _], _ => rfl
  have m2 := PySem.W.mg_of X G a2
  have F3 := fun_mk (st := sAtomAt) l3 c3 k3
  have b3 := F3.binds (ps := ["text", "at"]) fun _ _ _ _ _ _ us hl => match us, hl with | [_, _], _ => rfl
  have m3 := PySem.W.mg_of X G a3
  have F4 := fun_mk (st := sReadValue) l4 c4 k4
  have b4 := F4.binds (ps := ["text"]) fun _ _ _ _ _ _ us hl => match us, hl with | [_], _ => rfl
  have m4 := PySem.W.mg_of X G a4
  have F5 := fun_mk (st := sWriteDossier) l5 c5 k5
  have b5 := F5.binds (ps := ["part", "texts", "paper"]) fun _ _ _ _ _ _ us hl => match us, hl with | [_, _, _], _ => rfl
  have m5 := PySem.W.mg_of X G a5
  have F6 := fun_mk (st := sLinePlaces) l6 c6 k6
  have b6 := F6.binds (ps := ["rows"]) fun _ _ _ _ _ _ us hl => match us, hl with | [_], _ => rfl
  have m6 := PySem.W.mg_of X G a6
  have F7 := fun_mk (st := sReadDossier) l7 c7 k7
  have b7 := F7.binds (ps := ["text"]) fun _ _ _ _ _ _ us hl => match us, hl with | [_], _ => rfl
  have m7 := PySem.W.mg_of X G a7
  have F8 := fun_mk (st := sLawBegin) l8 c8 k8
  have b8 := F8.binds (ps := ["script"]) fun _ _ _ _ _ _ us hl => match us, hl with | [_], _ => rfl
  have m8 := PySem.W.mg_of X G a8
  have F9 := fun_mk (st := sLawDraw) l9 c9 k9
  have b9 := F9.binds (ps := ["d", "many"]) fun _ _ _ _ _ _ us hl => match us, hl with | [_, _], _ => rfl
  have m9 := PySem.W.mg_of X G a9
  have F10 := fun_mk (st := sLawPick) l10 c10 k10
  have b10 := F10.binds (ps := ["d", "row"]) fun _ _ _ _ _ _ us hl => match us, hl with | [_, _], _ => rfl
  have m10 := PySem.W.mg_of X G a10
  have F11 := fun_mk (st := sLawLetters) l11 c11 k11
  have b11 := F11.binds (ps := ["d"]) fun _ _ _ _ _ _ us hl => match us, hl with | [_], _ => rfl
  have m11 := PySem.W.mg_of X G a11
  have F12 := fun_mk (st := sLawIsInt) l12 c12 k12
  have b12 := F12.binds (ps := ["thing"]) fun _ _ _ _ _ _ us hl => match us, hl with | [_], _ => rfl
  have m12 := PySem.W.mg_of X G a12
  have F13 := fun_mk (st := sLawSigns) l13 c13 k13
  have b13 := F13.binds (ps := []) fun _ _ _ _ _ _ us hl => match us, hl with | [], _ => rfl
  have m13 := PySem.W.mg_of X G a13
  have F14 := fun_mk (st := sLawString) l14 c14 k14
  have b14 := F14.binds (ps := ["d"]) fun _ _ _ _ _ _ us hl => match us, hl with | [_], _ => rfl
  have m14 := PySem.W.mg_of X G a14
  have F15 := fun_mk (st := sLawNumber) l15 c15 k15
  have b15 := F15.binds (ps := ["d"]) fun _ _ _ _ _ _ us hl => match us, hl with | [_], _ => rfl
  have m15 := PySem.W.mg_of X G a15
  have F16 := fun_mk (st := sLawValue) l16 c16 k16
  have b16 := F16.binds (ps := ["d", "depth"]) fun _ _ _ _ _ _ us hl => match us, hl with | [_, _], _ => rfl
  have m16 := PySem.W.mg_of X G a16
  have F17 := fun_mk (st := sLawTextOf) l17 c17 k17
  have b17 := F17.binds (ps := ["value"]) fun _ _ _ _ _ _ us hl => match us, hl with | [_], _ => rfl
  have m17 := PySem.W.mg_of X G a17
  have F18 := fun_mk (st := sLawAlike) l18 c18 k18
  have b18 := F18.binds (ps := ["told", "value"]) fun _ _ _ _ _ _ us hl => match us, hl with | [_, _], _ => rfl
  have m18 := PySem.W.mg_of X G a18
  have F19 := fun_mk (st := sLawNumberEnd) l19 c19 k19
  have b19 := F19.binds (ps := ["text", "at"]) fun _ _ _ _ _ _ us hl => match us, hl with | [_, _], _ => rfl
  have m19 := PySem.W.mg_of X G a19
  have F20 := fun_mk (st := sLawFound) l20 c20 k20
  have b20 := F20.binds (ps := ["text"]) fun _ _ _ _ _ _ us hl => match us, hl with | [_], _ => rfl
  have m20 := PySem.W.mg_of X G a20
  have F21 := fun_mk (st := sLawIsRefusal) l21 c21 k21
  have b21 := F21.binds (ps := ["fault", "size"]) fun _ _ _ _ _ _ us hl => match us, hl with | [_, _], _ => rfl
  have m21 := PySem.W.mg_of X G a21
  have F22 := fun_mk (st := sLawReads) l22 c22 k22
  have b22 := F22.binds (ps := ["text"]) fun _ _ _ _ _ _ us hl => match us, hl with | [_], _ => rfl
  have m22 := PySem.W.mg_of X G a22
  have F23 := fun_mk (st := sLawSpoilt) l23 c23 k23
  have b23 := F23.binds (ps := ["d", "text"]) fun _ _ _ _ _ _ us hl => match us, hl with | [_, _], _ => rfl
  have m23 := PySem.W.mg_of X G a23
  have F24 := fun_mk (st := sLawEdges) l24 c24 k24
  have b24 := F24.binds (ps := []) fun _ _ _ _ _ _ us hl => match us, hl with | [], _ => rfl
  have m24 := PySem.W.mg_of X G a24
  have F25 := fun_mk (st := sLawDeep) l25 c25 k25
  have b25 := F25.binds (ps := ["many", "inner"]) fun _ _ _ _ _ _ us hl => match us, hl with | [_, _], _ => rfl
  have m25 := PySem.W.mg_of X G a25
  have F26 := fun_mk (st := sLawLines) l26 c26 k26
  have b26 := F26.binds (ps := ["d"]) fun _ _ _ _ _ _ us hl => match us, hl with | [_], _ => rfl
  have m26 := PySem.W.mg_of X G a26
  have F27 := fun_mk (st := sLawDossier) l27 c27 k27
  have b27 := F27.binds (ps := ["part", "texts", "shown"]) fun _ _ _ _ _ _ us hl => match us, hl with | [_, _, _], _ => rfl
  have m27 := PySem.W.mg_of X G a27
  have F28 := fun_mk (st := sLawBroken) l28 c28 k28
  have b28 := F28.binds (ps := ["d", "text"]) fun _ _ _ _ _ _ us hl => match us, hl with | [_, _], _ => rfl
  have m28 := PySem.W.mg_of X G a28
  have F29 := fun_mk (st := sLawIsTriple) l29 c29 k29
  have b29 := F29.binds (ps := ["told", "part", "texts", "value"]) fun _ _ _ _ _ _ us hl => match us, hl with | [_, _, _, _], _ => rfl
  have m29 := PySem.W.mg_of X G a29
  have F30 := fun_mk (st := sLawDossierRead) l30 c30 k30
  have b30 := F30.binds (ps := ["text", "part", "texts", "value"]) fun _ _ _ _ _ _ us hl => match us, hl with | [_, _, _, _], _ => rfl
  have m30 := PySem.W.mg_of X G a30
  have F31 := fun_mk (st := sLawDossierRefused) l31 c31 k31
  have b31 := F31.binds (ps := ["text"]) fun _ _ _ _ _ _ us hl => match us, hl with | [_], _ => rfl
  have m31 := PySem.W.mg_of X G a31
  have F32 := fun_mk (st := sLawDossiers) l32 c32 k32
  have b32 := F32.binds (ps := ["d", "value"]) fun _ _ _ _ _ _ us hl => match us, hl with | [_, _], _ => rfl
  have m32 := PySem.W.mg_of X G a32
  have F33 := fun_mk (st := sLaw) l33 c33 k33
  have m33 := PySem.W.mg_of X G a33
  refine ⟨PySem.W.fnOf "law" "law" (defArgs sLaw) (defBody sLaw) (defScope sLaw) .none kV33 dc33 pm33 an33 cd33 ct33, fun s v => .of_eq rfl, fun base _ _ => ?_⟩
  have T : Mo mg := ⟨PySem.W.mg_none_of X G z_len, PySem.W.mg_none_of X G z_isinstance, PySem.W.mg_none_of X G z_tuple, PySem.W.mg_none_of X G z_str, PySem.W.mg_none_of X G z_int, PySem.W.mg_none_of X G z_bool, PySem.W.mg_none_of X G z_abs, PySem.W.mg_none_of X G z_all, PySem.W.mg_none_of X G z_any, PySem.W.mg_none_of X G z_range, ⟨td, PySem.W.mg_of X G d1⟩, ⟨tg, PySem.W.mg_of X G d2⟩⟩
  have BT : PySem.BtX.BtTxt l.prog K mg C fI (PySem.W.ksFn "__init__" qual (defArgs PySem.BtX.sBt) PySem.BtX.bB (defScope PySem.BtX.sBt) .none kVI dcI pmI anI (.ref cda) ctI cc) :=
    ⟨⟨_, _, _, _, _, _, _, _, _, _, _, _, _, _, _, e1, e2⟩, e3, e4, e5, e6, e7, e8, PySem.W.mg_none_of X G z_super, eS, ⟨_, _, _, _, _, _, _, _, _, _, _, _, _, _, _, _, _, _, _, _, _, rfl, e10, e11, e12, e13, e14, e15⟩⟩
  have B : Bt l.prog K mg C := ⟨⟨_, _, e9, e16, BT, .all fun us hl => match us, hl with | [_, _], _ => rfl⟩, ⟨⟨_, _, _, _, _, _, _, _, _, _, _, _, _, _, _, e1, e2⟩, e3, e17, e18, e19⟩, PySem.W.mg_of X G e0⟩
  have R : Rf K mg C CE := by
    refine ⟨⟨by unfold PySem.W.clsIn; rw [e1]; rfl, r1, r2, e17, r3, r4, r5, r6, r7, e4⟩, fun y hy => ?_, r8, PySem.W.mg_of X G e0, PySem.W.mg_of X G r9, r10, r11⟩
    simp only [List.mem_cons, List.not_mem_nil, or_false] at hy
    rcases hy with rfl | rfl | rfl | rfl | rfl | rfl
    · exact ⟨_, PySem.W.mg_of X G n_BadPage, o_BadPage⟩
    · exact ⟨_, PySem.W.mg_of X G n_TooMany, o_TooMany⟩
    · exact ⟨_, PySem.W.mg_of X G n_WrongKind, o_WrongKind⟩
    · exact ⟨_, PySem.W.mg_of X G n_NoLevel, o_NoLevel⟩
    · exact ⟨_, PySem.W.mg_of X G n_BadPaper, o_BadPaper⟩
    · exact ⟨_, PySem.W.mg_of X G n_BadCommand, o_BadCommand⟩
  have d_l_begin : Df l.prog w K mg base CX0 1 _ _ _ := df_mk (ok_begin T F8) b8 k8 m8
  have d_l_draw : Df l.prog w K mg base CX0 1 _ _ _ := df_mk (ok_draw T F9) b9 k9 m9
  have d_l_pick : Df l.prog w K mg base CX0 2 _ _ _ := df_mk (ok_pick T F10 d_l_draw) b10 k10 m10
  have d_l_letters : Df l.prog w K mg base CX0 2 _ _ _ := df_mk (ok_letters T F11 d_l_draw) b11 k11 m11
  have d_l_is_int : Df l.prog w K mg base CX0 1 _ _ _ := df_mk (ok_is_int T F12) b12 k12 m12
  have d_l_signs : Df l.prog w K mg base CX0 1 _ _ _ := df_mk (ok_signs T F13) b13 k13 m13
  have d_l_string : Df l.prog w K mg base CX0 3 _ _ _ := df_mk (ok_string T F14 d_l_signs d_l_draw d_l_pick) b14 k14 m14
  have d_l_number : Df l.prog w K mg base CX0 2 _ _ _ := df_mk (ok_number T F15 d_l_draw) b15 k15 m15
  have d_l_value : Df l.prog w K mg base CX0 8 _ _ _ := all_value T F16 b16 m16 d_l_draw d_l_number d_l_string 4
  have d_write_value : Df l.prog w K mg base CX0 66 _ _ _ := all_write T F0 b0 m0 64
  have d_l_text_of : Df l.prog w K mg base CX0 66 _ _ _ := all_text_of T F17 b17 m17 64
  have d_number_end : Df l.prog w K mg base (L2N.CX l.prog w) 2 _ _ _ := df_mk (ok_number_end T F1 B) b1 k1 m1
  have d_string_end : Df l.prog w K mg base (L2N.CX l.prog w) 2 _ _ _ := df_mk (ok_string_end T F2 B) b2 k2 m2
  have d_atom_at : Df l.prog w K mg base (L2N.CX l.prog w) 3 _ _ _ := df_mk (ok_atom_at T F3 B d_string_end d_number_end) b3 k3 m3
  have d_read_value : Df l.prog w K mg base (L2N.CX l.prog w) 4 _ _ _ := df_mk (ok_read_value T F4 B d_atom_at) b4 k4 m4
  have d_l_number_end : Df l.prog w K mg base CX0 1 _ _ _ := df_mk (ok_number_endL T F19) b19 k19 m19
  have d_l_found : Df l.prog w K mg base CX0 2 _ _ _ := df_mk (ok_found T F20 d_l_number_end) b20 k20 m20
  have d_l_alike : Df l.prog w K mg base CX0 64 _ _ _ := all_alike T F18 b18 m18 d_l_is_int 62
  have d_l_spoilt : Df l.prog w K mg base CX0 3 _ _ _ := df_mk (ok_spoilt T F23 d_l_draw d_l_pick) b23 k23 m23
  have d_l_edges : Df l.prog w K mg base CX0 1 _ _ _ := df_mk (ok_edges T F24) b24 k24 m24
  have q_l_is_int : DfQ l.prog w K mg base 1 _ _ _ := dfq_mk (ok_is_intQ T F12) b12 k12 m12
  have d_l_is_refusal : DfQ l.prog w K mg base 2 _ _ _ := dfq_mk (ok_refusal T F21 R q_l_is_int) b21 k21 m21
  have d_l_reads : Df l.prog w K mg base CX0 65 _ _ _ := df_mk (ok_reads T F22 d_l_found R d_read_value d_l_is_refusal d_l_alike) b22 k22 m22
  have d_l_deep : Df l.prog w K mg base CX0 67 _ _ _ := df_mk (ok_deep T F25 d_l_text_of R d_read_value d_l_is_refusal d_l_alike) b25 k25 m25
  have d_write_dossier : Df l.prog w K mg base CX0 67 _ _ _ := df_mk (ok_write_dossier T F5 d_write_value) b5 k5 m5
  have d_l_dossier : Df l.prog w K mg base CX0 1 _ _ _ := df_mk (ok_law_dossier T F27) b27 k27 m27
  have d_line_places : Df l.prog w K mg base CX0 1 _ _ _ := df_mk (ok_line_places T F6) b6 k6 m6
  have d_l_lines : Df l.prog w K mg base CX0 3 _ _ _ := df_mk (ok_lines T F26 d_l_letters d_l_draw d_l_pick) b26 k26 m26
  have d_read_dossier : Df l.prog w K mg base (Qx.CX l.prog w) 5 _ _ _ := df_mk (ok_read_dossier T F7 B R d_line_places d_read_value) b7 k7 m7
  have d_l_broken : Df l.prog w K mg base CX0 3 _ _ _ := df_mk (ok_broken T F28 d_l_draw d_l_pick) b28 k28 m28
  have d_l_is_triple : Df l.prog w K mg base CX0 65 _ _ _ := df_mk (ok_triple T F29 d_l_alike) b29 k29 m29
  have d_l_dossier_read : Df l.prog w K mg base CX0 66 _ _ _ := df_mk (ok_dossier_read T F30 R d_read_dossier d_l_is_triple) b30 k30 m30
  have d_l_dossier_refused : Df l.prog w K mg base CX0 6 _ _ _ := df_mk (ok_dossier_refused T F31 R d_read_dossier d_l_is_refusal) b31 k31 m31
  have d_l_dossiers : Df l.prog w K mg base CX0 68 _ _ _ := df_mk (ok_dossiers T F32 d_l_pick d_l_lines d_l_dossier d_l_text_of d_write_dossier d_l_dossier_read d_l_dossier_refused d_l_broken d_l_spoilt d_l_found) b32 k32 m32
  exact ok_law T F33 d_l_begin d_l_value d_l_text_of d_write_value d_l_reads d_l_alike d_read_value d_l_spoilt d_l_edges d_l_draw d_l_pick d_l_deep d_l_dossiers
theorem walk {l : PySem.W.OpenLaw} {q : Program} {loose : List Str} {XP : (Str → Option Value) → Heap → Prop} {YP : World → Heap → Prop} {d : DefRec} {K : Params → PySem.W.Frag} (hn : l.most = some 63) (hdf : d.params.defaults = [])
    (hY : ∀ (w : World) (h : Heap), YP w h → (K w.params).In h)
    (F : ∀ (w : World) (mg : Str → Option Value) (fa : Addr) (h : Heap), (K w.params).In h → h.Ns mainGlobals mg → mg d.name = some (.ref fa) →
      ∃ fd : FuncData, (∀ (s : Shared) (u : Value), BindsTo s fd ⟨[u], []⟩ [("script", u)]) ∧ ∀ base : Heap, (K w.params).In base → base.Ns mainGlobals mg → FnOk l.prog w (K w.params) mg base CX0 69 fa fd ["script"] (spLaw (K w.params))) :
    PySem.W.WalkO q loose XP YP l.row.toRowW d [] (fun f vs => PySem.call f vs) :=
  L2.walk_of (n := 63) (k := 69) (x := "script") (CX := fun _ => CX0) (sp := fun w => spLaw (K w.params)) hn (by decide) hdf ⟨rfl, by decide, by decide⟩ hY F (fun _ _ a ns hl _ hS => ⟨a, ns, rfl, hS, hl, fun _ => rfl⟩) fun _ _ _ _ _ z => z
end K93

/-! The end. -/

open PySem PySem.W PyProof.Rows in
set_option maxRecDepth 100000 in
set_option maxHeartbeats 0 in
theorem PySem.Challenge.cw_lettercourt_k93_values_and_dossiers_read_holds : PySem.Challenge.rw_lettercourt_k93_values_and_dossiers_read.Holds := by
  w_on; o_law; k_head; (case hw => w_witness2)
  k_fill
  refine K93.walk (l := PySem.Challenge.rw_lettercourt_k93_values_and_dossiers_read) rfl rfl (fun w h Y => PySem.W.kIn_of Y) ?F
  case F =>
    intro w mg fa h KX G hmg
    refine' K93.all_mk KX G hmg ?a0 ?l0 ?c0 ?k0 ?a1 ?l1 ?c1 ?k1 ?a2 ?l2 ?c2 ?k2 ?a3 ?l3 ?c3 ?k3 ?a4 ?l4 ?c4 ?k4 ?a5 ?l5 ?c5 ?k5 ?a6 ?l6 ?c6 ?k6 ?a7 ?l7 ?c7 ?k7 ?a8 ?l8 ?c8 ?k8 ?a9 ?l9 ?c9 ?k9 ?a10 ?l10 ?c10 ?k10 ?a11 ?l11 ?c11 ?k11 ?a12 ?l12 ?c12 ?k12 ?a13 ?l13 ?c13 ?k13 ?a14 ?l14 ?c14 ?k14 ?a15 ?l15 ?c15 ?k15 ?a16 ?l16 ?c16 ?k16 ?a17 ?l17 ?c17 ?k17 ?a18 ?l18 ?c18 ?k18 ?a19 ?l19 ?c19 ?k19 ?a20 ?l20 ?c20 ?k20 ?a21 ?l21 ?c21 ?k21 ?a22 ?l22 ?c22 ?k22 ?a23 ?l23 ?c23 ?k23 ?a24 ?l24 ?c24 ?k24 ?a25 ?l25 ?c25 ?k25 ?a26 ?l26 ?c26 ?k26 ?a27 ?l27 ?c27 ?k27 ?a28 ?l28 ?c28 ?k28 ?a29 ?l29 ?c29 ?k29 ?a30 ?l30 ?c30 ?k30 ?a31 ?l31 ?c31 ?k31 ?a32 ?l32 ?c32 ?k32 ?a33 ?l33 ?c33 ?k33 ?z_len ?z_isinstance ?z_tuple ?z_str ?z_int ?z_bool ?z_abs ?z_all ?z_any ?z_range ?z_super ?d1 ?d2 ?e0 ?e1 ?e3 ?e4 ?e5 ?e6 ?e7 ?e8 ?e9 ?e10 ?e11 ?e12 ?e15 ?e16 ?e17 ?e18 ?e19 ?r1 ?r2 ?r3 ?r4 ?r5 ?r6 ?r7 ?r8 ?r9 ?r10 ?r11 ?n_BadPage ?o_BadPage ?n_TooMany ?o_TooMany ?n_WrongKind ?o_WrongKind ?n_NoLevel ?o_NoLevel ?n_BadPaper ?o_BadPaper ?n_BadCommand ?o_BadCommand ?e2 ?e13 ?e14 ?eS
    (case a0 => k_is)
    (case l0 => k_is)
    (case c0 => k_is)
    (case k0 => k_is)
    (case a1 => k_is)
    (case l1 => k_is)
    (case c1 => k_is)
    (case k1 => k_is)
    (case a2 => k_is)
    (case l2 => k_is)
    (case c2 => k_is)
    (case k2 => k_is)
    (case a3 => k_is)
    (case l3 => k_is)
    (case c3 => k_is)
    (case k3 => k_is)
    (case a4 => k_is)
    (case l4 => k_is)
    (case c4 => k_is)
    (case k4 => k_is)
    (case a5 => k_is)
    (case l5 => k_is)
    (case c5 => k_is)
    (case k5 => k_is)
    (case a6 => k_is)
    (case l6 => k_is)
    (case c6 => k_is)
    (case k6 => k_is)
    (case a7 => k_is)
    (case l7 => k_is)
    (case c7 => k_is)
    (case k7 => k_is)
    (case a8 => k_is)
    (case l8 => k_is)
    (case c8 => k_is)
    (case k8 => k_is)
    (case a9 => k_is)
    (case l9 => k_is)
    (case c9 => k_is)
    (case k9 => k_is)
    (case a10 => k_is)
    (case l10 => k_is)
    (case c10 => k_is)
    (case k10 => k_is)
    (case a11 => k_is)
    (case l11 => k_is)
    (case c11 => k_is)
    (case k11 => k_is)
    (case a12 => k_is)
    (case l12 => k_is)
    (case c12 => k_is)
    (case k12 => k_is)
    (case a13 => k_is)
    (case l13 => k_is)
    (case c13 => k_is)
    (case k13 => k_is)
    (case a14 => k_is)
    (case l14 => k_is)
    (case c14 => k_is)
    (case k14 => k_is)
    (case a15 => k_is)
    (case l15 => k_is)
    (case c15 => k_is)
    (case k15 => k_is)
    (case a16 => k_is)
    (case l16 => k_is)
    (case c16 => k_is)
    (case k16 => k_is)
    (case a17 => k_is)
    (case l17 => k_is)
    (case c17 => k_is)
    (case k17 => k_is)
    (case a18 => k_is)
    (case l18 => k_is)
    (case c18 => k_is)
    (case k18 => k_is)
    (case a19 => k_is)
    (case l19 => k_is)
    (case c19 => k_is)
    (case k19 => k_is)
    (case a20 => k_is)
    (case l20 => k_is)
    (case c20 => k_is)
    (case k20 => k_is)
    (case a21 => k_is)
    (case l21 => k_is)
    (case c21 => k_is)
    (case k21 => k_is)
    (case a22 => k_is)
    (case l22 => k_is)
    (case c22 => k_is)
    (case k22 => k_is)
    (case a23 => k_is)
    (case l23 => k_is)
    (case c23 => k_is)
    (case k23 => k_is)
    (case a24 => k_is)
    (case l24 => k_is)
    (case c24 => k_is)
    (case k24 => k_is)
    (case a25 => k_is)
    (case l25 => k_is)
    (case c25 => k_is)
    (case k25 => k_is)
    (case a26 => k_is)
    (case l26 => k_is)
    (case c26 => k_is)
    (case k26 => k_is)
    (case a27 => k_is)
    (case l27 => k_is)
    (case c27 => k_is)
    (case k27 => k_is)
    (case a28 => k_is)
    (case l28 => k_is)
    (case c28 => k_is)
    (case k28 => k_is)
    (case a29 => k_is)
    (case l29 => k_is)
    (case c29 => k_is)
    (case k29 => k_is)
    (case a30 => k_is)
    (case l30 => k_is)
    (case c30 => k_is)
    (case k30 => k_is)
    (case a31 => k_is)
    (case l31 => k_is)
    (case c31 => k_is)
    (case k31 => k_is)
    (case a32 => k_is)
    (case l32 => k_is)
    (case c32 => k_is)
    (case k32 => k_is)
    (case a33 => k_is)
    (case l33 => k_is)
    (case c33 => k_is)
    (case k33 => k_is)
    (case z_len => k_is)
    (case z_isinstance => k_is)
    (case z_tuple => k_is)
    (case z_str => k_is)
    (case z_int => k_is)
    (case z_bool => k_is)
    (case z_abs => k_is)
    (case z_all => k_is)
    (case z_any => k_is)
    (case z_range => k_is)
    (case z_super => k_is)
    (case d1 => k_is)
    (case d2 => k_is)
    (case e0 => k_is)
    (case e1 => k_is)
    (case e3 => k_is)
    (case e4 => k_is)
    (case e5 => ks_is)
    (case e6 => k_is)
    (case e7 => k_is)
    (case e8 => k_is)
    (case e9 => k_is)
    (case e10 => k_is)
    (case e11 => k_is)
    (case e12 => k_is)
    (case e15 => k_is)
    (case e16 => k_is)
    (case e17 => k_is)
    (case e18 => k_is)
    (case e19 => k_is)
    (case r1 => k_is)
    (case r2 => k_is)
    (case r3 => k_is)
    (case r4 => k_is)
    (case r5 => k_is)
    (case r6 => k_is)
    (case r7 => k_is)
    (case r8 => kit_is)
    (case r9 => k_is)
    (case r10 => kts_exm)
    (case r11 => kts_exm)
    (case n_BadPage => k_is)
    (case o_BadPage => kit_is)
    (case n_TooMany => k_is)
    (case o_TooMany => kit_is)
    (case n_WrongKind => k_is)
    (case o_WrongKind => kit_is)
    (case n_NoLevel => k_is)
    (case o_NoLevel => kit_is)
    (case n_BadPaper => k_is)
    (case o_BadPaper => kit_is)
    (case n_BadCommand => k_is)
    (case o_BadCommand => kit_is)
    (case e2 => decide +kernel)
    (case e13 => rfl)
    (case e14 => decide +kernel)
    (case eS => decide +kernel)
