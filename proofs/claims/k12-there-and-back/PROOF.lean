import PyProof.Rows.All
import Wide.All
import OpenK.AllK
import Wide.FinOn
import KE.KStateDown
import HandS.ForMost
import HandS.IsInst
import HandS.SetKeys
import HandS.Zip
import HandS.TupAny
import HandS.Walk
import HandS.Defaults
import PySem.Challenge.RW_backstair_k12_whole_there_and_back
import HandS.Codes
import HandS.Head0
import HandS.Head1
import HandS.Head2
import HandS.HeadEnd
import HandS.HeadHook1
import HandS.HeadHook2
namespace Bk
/-! ### trim -/
def trim : List Int → List Int
  | [] => []
  | x :: xs => if trim xs = [] ∧ x = 0 then [] else x :: trim xs
/-- no blank at the end -/
def Trd (xs : List Int) : Prop := trim xs = xs
theorem trim_cons (x : Int) (xs : List Int) : trim (x :: xs) = if trim xs = [] ∧ x = 0 then [] else x :: trim xs := rfl
theorem trim_trim : ∀ xs : List Int, trim (trim xs) = trim xs
  | [] => rfl
  | x :: xs => by
    rw [trim_cons]
    by_cases h : trim xs = [] ∧ x = 0
    · rw [if_pos h]; rfl
    · rw [if_neg h, trim_cons, trim_trim xs, if_neg h]
theorem Trd.of (xs : List Int) : Trd (trim xs) := trim_trim xs
theorem Trd.nil : Trd [] := rfl
theorem Trd.tail : ∀ {xs : List Int}, Trd xs → Trd xs.tail
  | [], _ => rfl
  | x :: xs, h => by
    unfold Trd at h
    rw [trim_cons] at h
    by_cases c : trim xs = [] ∧ x = 0
    · rw [if_pos c] at h; cases h
    · rw [if_neg c] at h
      exact (List.cons.inj h).2
/-- the last is not 0: as it stands -/
theorem trim_append_ne : ∀ (xs : List Int) {x : Int}, x ≠ 0 → trim (xs ++ [x]) = xs ++ [x]
  | [], x, h => by
    show (if trim [] = [] ∧ x = 0 then [] else x :: trim []) = [x]
    rw [if_neg fun c => h c.2]; rfl
  | y :: ys, x, h => by
    show (if trim (ys ++ [x]) = [] ∧ y = 0 then [] else y :: trim (ys ++ [x])) = y :: (ys ++ [x])
    rw [trim_append_ne ys h, if_neg fun c => by simp at c]
theorem trim_append_0 : ∀ (xs : List Int), trim (xs ++ [0]) = trim xs
  | [] => rfl
  | y :: ys => by
    show (if trim (ys ++ [0]) = [] ∧ y = 0 then [] else y :: trim (ys ++ [0])) = trim (y :: ys)
    rw [trim_append_0 ys]; rfl
/-- a loop from the end: at most n, the rest all blanks -/
theorem trim_take_0 {xs : List Int} {n : Nat} (h : xs[n]? = some 0) : trim (xs.take (n + 1)) = trim (xs.take n) := by
  rw [List.take_add_one, h]
  exact trim_append_0 _
theorem trim_take_ne {xs : List Int} {n : Nat} {x : Int} (h : xs[n]? = some x) (hx : x ≠ 0) : trim (xs.take (n + 1)) = xs.take (n + 1) := by
  rw [List.take_add_one, h]
  exact trim_append_ne _ hx
theorem trim_all {p : Int → Prop} : ∀ {xs : List Int}, (∀ x ∈ xs, p x) → ∀ x ∈ trim xs, p x
  | [], _ => fun x h => by cases h
  | y :: ys, h => fun x hx => by
    rw [trim_cons] at hx
    by_cases c : trim ys = [] ∧ y = 0
    · rw [if_pos c] at hx; cases hx
    · rw [if_neg c] at hx
      rcases List.mem_cons.mp hx with e | e
      · exact h x (List.mem_cons.mpr (.inl e))
      · exact trim_all (fun z hz => h z (List.mem_cons_of_mem _ hz)) x e

theorem trim_length : ∀ xs : List Int, (trim xs).length ≤ xs.length
  | [] => Nat.le_refl _
  | y :: ys => by
    rw [trim_cons]
    by_cases c : trim ys = [] ∧ y = 0
    · rw [if_pos c]; exact Nat.zero_le _
    · rw [if_neg c]; exact Nat.succ_le_succ (trim_length ys)

/-! ### tapes -/
structure Tp where
  l : List Int
  m : Int
  r : List Int
  deriving DecidableEq
def moved (t : Tp) (v : Int) : Tp :=
  if v = 1 then ⟨trim (t.m :: t.l), t.r.headD 0, t.r.tail⟩
  else if v = -1 then ⟨t.l.tail, t.l.headD 0, trim (t.m :: t.r)⟩ else t
def TpOk (t : Tp) : Prop := Trd t.l ∧ Trd t.r
theorem moved_ok {t : Tp} (h : TpOk t) (v : Int) : TpOk (moved t v) := by
  unfold moved
  by_cases h1 : v = 1
  · rw [if_pos h1]; exact ⟨Trd.of _, h.2.tail⟩
  · rw [if_neg h1]
    by_cases h2 : v = -1
    · rw [if_pos h2]; exact ⟨h.1.tail, Trd.of _⟩
    · rw [if_neg h2]; exact h
theorem cons_back {xs : List Int} (h : Trd xs) : trim (xs.headD 0 :: xs.tail) = xs := by
  cases xs with
  | nil => show (if trim [] = [] ∧ (0 : Int) = 0 then [] else _) = []; rw [if_pos ⟨rfl, rfl⟩]
  | cons x xs => exact h
theorem head_trim (m : Int) {xs : List Int} (h : Trd xs) : (trim (m :: xs)).headD 0 = m ∧ (trim (m :: xs)).tail = xs := by
  rw [trim_cons]
  by_cases c : trim xs = [] ∧ m = 0
  · rw [if_pos c]
    refine ⟨c.2.symm, ?_⟩
    have e : trim xs = xs := h
    rw [← e, c.1]; rfl
  · rw [if_neg c]
    exact ⟨rfl, h⟩
theorem moved_back {t : Tp} (h : TpOk t) {v : Int} (hv : v = -1 ∨ v = 0 ∨ v = 1) : moved (moved t v) (-v) = t := by
  obtain ⟨l, m, r⟩ := t
  obtain ⟨hl, hr⟩ := h
  rcases hv with rfl | rfl | rfl
  · show moved ⟨l.tail, l.headD 0, trim (m :: r)⟩ 1 = _
    show (⟨trim (l.headD 0 :: l.tail), (trim (m :: r)).headD 0, (trim (m :: r)).tail⟩ : Tp) = _
    rw [cons_back hl, (head_trim m hr).1, (head_trim m hr).2]
  · rfl
  · show moved ⟨trim (m :: l), r.headD 0, r.tail⟩ (-1) = _
    show (⟨(trim (m :: l)).tail, (trim (m :: l)).headD 0, trim (r.headD 0 :: r.tail)⟩ : Tp) = _
    rw [cons_back hr, (head_trim m hl).1, (head_trim m hl).2]

/-! ### rows, configurations -/
inductive Row where
  | mv (q : Int) (ms : List Int) (t : Int)
  | wr (q : Int) (rs ws : List Int) (t : Int)
  deriving DecidableEq
structure Conf where
  s : Int
  ts : List Tp
  deriving DecidableEq
def Row.st : Row → Int
  | .mv q _ _ => q
  | .wr q _ _ _ => q
def Row.nx : Row → Int
  | .mv _ _ t => t
  | .wr _ _ _ t => t
def Row.bw : Row → Row
  | .mv q ms t => .mv t (ms.map fun v => -v) q
  | .wr q rs ws t => .wr t ws rs q
theorem map_neg_neg : ∀ ms : List Int, (ms.map fun v => -v).map (fun v => -v) = ms
  | [] => rfl
  | v :: ms => by
    show (- - v) :: _ = v :: ms
    rw [Int.neg_neg, map_neg_neg ms]
theorem Row.bw_bw (r : Row) : r.bw.bw = r := by
  cases r with
  | mv q ms t => show Row.mv q _ t = _; rw [map_neg_neg]
  | wr q rs ws t => rfl
def bws (rows : List Row) : List Row := rows.map Row.bw
theorem bws_bws : ∀ rows : List Row, bws (bws rows) = rows
  | [] => rfl
  | r :: rows => by
    show r.bw.bw :: bws (bws rows) = _
    rw [Row.bw_bw, bws_bws rows]
def heads (c : Conf) : List Int := c.ts.map (·.m)
def setM (t : Tp) (w : Int) : Tp := ⟨t.l, w, t.r⟩
def Row.app (r : Row) (c : Conf) : Option Conf := match r with
  | .mv q ms t => if q = c.s then some ⟨t, List.zipWith moved c.ts ms⟩ else none
  | .wr q rs ws t => if q = c.s ∧ rs = heads c then some ⟨t, List.zipWith setM c.ts ws⟩ else none
def after (rows : List Row) (c : Conf) : Option Conf := rows.findSome? (·.app c)
/-- a row for machines of k tapes -/
def RowK (k : Nat) : Row → Prop
  | .mv _ ms _ => ms.length = k ∧ ∀ v ∈ ms, v = -1 ∨ v = 0 ∨ v = 1
  | .wr _ rs ws _ => rs.length = k ∧ ws.length = k
def ConfK (k : Nat) (c : Conf) : Prop := c.ts.length = k ∧ ∀ t ∈ c.ts, TpOk t
theorem RowK.bw {k : Nat} {r : Row} (h : RowK k r) : RowK k r.bw := by
  cases r with
  | mv q ms t =>
    refine ⟨by rw [List.length_map]; exact h.1, fun v hv => ?_⟩
    obtain ⟨u, hu, rfl⟩ := List.mem_map.mp hv
    rcases h.2 u hu with rfl | rfl | rfl
    · exact .inr (.inr rfl)
    · exact .inr (.inl rfl)
    · exact .inl rfl
  | wr q rs ws t => exact ⟨h.2, h.1⟩
/-- two rows do not clash -/
def NC : Row → Row → Prop
  | .wr q rs _ _, .wr q' rs' _ _ => q = q' → rs ≠ rs'
  | r, r' => r.st ≠ r'.st
def NCs (rows : List Row) : Prop := rows.Pairwise NC
theorem zw_moved : ∀ (ts : List Tp) (ms : List Int), ts.length = ms.length → (∀ t ∈ ts, TpOk t) → (∀ v ∈ ms, v = -1 ∨ v = 0 ∨ v = 1) →
    List.zipWith moved (List.zipWith moved ts ms) (ms.map fun v => -v) = ts
  | [], [], _, _, _ => rfl
  | t :: ts, v :: ms, h, h1, h2 => by
    show moved (moved t v) (-v) :: List.zipWith moved (List.zipWith moved ts ms) (ms.map fun v => -v) = t :: ts
    rw [moved_back (h1 t List.mem_cons_self) (h2 v List.mem_cons_self), zw_moved ts ms (Nat.succ.inj h) (fun a ha => h1 a (List.mem_cons_of_mem _ ha)) (fun a ha => h2 a (List.mem_cons_of_mem _ ha))]
  | [], _ :: _, h, _, _ => by cases h
  | _ :: _, [], h, _, _ => by cases h
theorem zw_set : ∀ (ts : List Tp) (ws : List Int), ts.length = ws.length → List.zipWith setM (List.zipWith setM ts ws) (ts.map (·.m)) = ts
  | [], [], _ => rfl
  | t :: ts, v :: ms, h => by
    show setM (setM t v) t.m :: List.zipWith setM (List.zipWith setM ts ms) (ts.map (·.m)) = t :: ts
    rw [zw_set ts ms (Nat.succ.inj h)]; rfl
  | [], _ :: _, h => by cases h
  | _ :: _, [], h => by cases h
theorem zw_heads : ∀ (ts : List Tp) (ws : List Int), ts.length = ws.length → (List.zipWith setM ts ws).map (·.m) = ws
  | [], [], _ => rfl
  | t :: ts, v :: ms, h => by
    show v :: (List.zipWith setM ts ms).map (·.m) = v :: ms
    rw [zw_heads ts ms (Nat.succ.inj h)]
  | [], _ :: _, h => by cases h
  | _ :: _, [], h => by cases h
theorem zw_ok {f : Tp → Int → Tp} (hf : ∀ t v, TpOk t → TpOk (f t v)) : ∀ (ts : List Tp) (ms : List Int), (∀ t ∈ ts, TpOk t) → ∀ t ∈ List.zipWith f ts ms, TpOk t
  | [], _, _, t, ht => by simp at ht
  | _ :: _, [], _, t, ht => by simp at ht
  | a :: ts, v :: ms, h, t, ht => by
    have ht' : t ∈ f a v :: List.zipWith f ts ms := ht
    rcases List.mem_cons.mp ht' with e | e
    · rw [e]; exact hf a v (h a List.mem_cons_self)
    · exact zw_ok hf ts ms (fun b hb => h b (List.mem_cons_of_mem _ hb)) t e
theorem app_ok {k : Nat} {r : Row} {c d : Conf} (hr : RowK k r) (hc : ConfK k c) (h : r.app c = some d) : ConfK k d := by
  cases r with
  | mv q ms t =>
    unfold Row.app at h
    by_cases e : q = c.s
    · simp only [if_pos e] at h
      cases h
      refine ⟨?_, zw_ok (fun t v h => moved_ok h v) _ _ hc.2⟩
      show (List.zipWith moved c.ts ms).length = k
      rw [List.length_zipWith, hc.1, hr.1, Nat.min_self]
    · simp only [if_neg e] at h; cases h
  | wr q rs ws t =>
    unfold Row.app at h
    by_cases e : q = c.s ∧ rs = heads c
    · simp only [if_pos e] at h
      cases h
      refine ⟨?_, zw_ok (f := setM) (fun t v h => h) _ _ hc.2⟩
      show (List.zipWith setM c.ts ws).length = k
      rw [List.length_zipWith, hc.1, hr.2, Nat.min_self]
    · simp only [if_neg e] at h; cases h
theorem app_back {k : Nat} {r : Row} {c d : Conf} (hr : RowK k r) (hc : ConfK k c) (h : r.app c = some d) : r.bw.app d = some c := by
  obtain ⟨s, ts⟩ := c
  cases r with
  | mv q ms t =>
    unfold Row.app at h
    by_cases e : q = s
    · simp only [if_pos e] at h
      cases h
      unfold Row.app Row.bw
      simp only [if_true]
      rw [zw_moved ts ms (hc.1.trans hr.1.symm) hc.2 hr.2, e]
    · simp only [if_neg e] at h; cases h
  | wr q rs ws t =>
    unfold Row.app at h
    by_cases e : q = s ∧ rs = heads ⟨s, ts⟩
    · simp only [if_pos e] at h
      cases h
      have hl : ts.length = ws.length := hc.1.trans hr.2.symm
      have e1 : ws = heads ⟨t, List.zipWith setM ts ws⟩ := (zw_heads ts ws hl).symm
      show (if t = t ∧ ws = heads ⟨t, List.zipWith setM ts ws⟩ then some (Conf.mk q (List.zipWith setM (List.zipWith setM ts ws) rs)) else none) = some ⟨s, ts⟩
      have e2 : rs = ts.map (·.m) := e.2
      rw [if_pos ⟨rfl, e1⟩, e2, zw_set ts ws hl, e.1]
    · simp only [if_neg e] at h; cases h
theorem NC.st {r r' : Row} {c d d' : Conf} (n : NC r r') (h : r.app c = some d) (h' : r'.app c = some d') : False := by
  have s1 : r.st = c.s := by
    cases r with
    | mv q ms t =>
      unfold Row.app at h
      by_cases e : q = c.s
      · exact e
      · simp only [if_neg e] at h; cases h
    | wr q rs ws t =>
      unfold Row.app at h
      by_cases e : q = c.s ∧ rs = heads c
      · exact e.1
      · simp only [if_neg e] at h; cases h
  have s2 : r'.st = c.s := by
    cases r' with
    | mv q ms t =>
      unfold Row.app at h'
      by_cases e : q = c.s
      · exact e
      · simp only [if_neg e] at h'; cases h'
    | wr q rs ws t =>
      unfold Row.app at h'
      by_cases e : q = c.s ∧ rs = heads c
      · exact e.1
      · simp only [if_neg e] at h'; cases h'
  cases r with
  | mv q ms t => cases r' <;> exact n (s1.trans s2.symm)
  | wr q rs ws t =>
    cases r' with
    | mv q' ms t' => exact n (s1.trans s2.symm)
    | wr q' rs' ws' t' =>
      refine n (s1.trans s2.symm) ?_
      unfold Row.app at h h'
      by_cases e : q = c.s ∧ rs = heads c
      · by_cases e' : q' = c.s ∧ rs' = heads c
        · exact e.2.trans e'.2.symm
        · simp only [if_neg e'] at h'; cases h'
      · simp only [if_neg e] at h; cases h
theorem after_mem : ∀ {rows : List Row} {c d : Conf}, after rows c = some d → ∃ r ∈ rows, r.app c = some d
  | [], c, d, h => by cases h
  | r :: rows, c, d, h => by
    unfold after at h
    rw [List.findSome?_cons] at h
    cases e : r.app c with
    | none =>
      rw [e] at h
      obtain ⟨r', hm, hr⟩ := after_mem (rows := rows) h
      exact ⟨r', List.mem_cons_of_mem _ hm, hr⟩
    | some d' =>
      rw [e] at h
      cases h
      exact ⟨r, List.mem_cons_self, e⟩
theorem after_of : ∀ {rows : List Row} {c d : Conf} {r : Row}, NCs rows → r ∈ rows → r.app c = some d → after rows c = some d
  | [], _, _, _, _, hm, _ => by cases hm
  | r0 :: rows, c, d, r, n, hm, h => by
    obtain ⟨n1, n2⟩ := List.pairwise_cons.mp n
    unfold after
    rw [List.findSome?_cons]
    rcases List.mem_cons.mp hm with e | e
    · subst e; rw [h]
    · cases e0 : r0.app c with
      | none => exact after_of n2 e h
      | some d' => exact ((n1 r e).st e0 h).elim
theorem after_back {k : Nat} {rows : List Row} {c d : Conf} (hr : ∀ r ∈ rows, RowK k r) (hc : ConfK k c) (n : NCs (bws rows)) (h : after rows c = some d) : after (bws rows) d = some c := by
  obtain ⟨r, hm, e⟩ := after_mem h
  exact after_of n (List.mem_map.mpr ⟨r, hm, rfl⟩) (app_back (hr r hm) hc e)
theorem after_ok {k : Nat} {rows : List Row} {c d : Conf} (hr : ∀ r ∈ rows, RowK k r) (hc : ConfK k c) (h : after rows c = some d) : ConfK k d := by
  obtain ⟨r, hm, e⟩ := after_mem h
  exact app_ok (hr r hm) hc e

/-! ### runs -/
/-- so many steps, all taken -/
def steps (rows : List Row) : Nat → Conf → Option Conf
  | 0, c => some c
  | n + 1, c => (steps rows n c).bind (after rows)
theorem steps_succ (rows : List Row) (n : Nat) (c : Conf) : steps rows (n + 1) c = (steps rows n c).bind (after rows) := rfl
theorem steps_first : ∀ (rows : List Row) (n : Nat) (c : Conf), steps rows (n + 1) c = (after rows c).bind (steps rows n)
  | rows, 0, c => by
    show (after rows c) = (after rows c).bind some
    cases after rows c <;> rfl
  | rows, n + 1, c => by
    rw [steps_succ, steps_first rows n c]
    cases after rows c <;> rfl
theorem steps_ok {k : Nat} {rows : List Row} (hr : ∀ r ∈ rows, RowK k r) : ∀ {n : Nat} {c d : Conf}, ConfK k c → steps rows n c = some d → ConfK k d
  | 0, c, d, hc, h => by cases h; exact hc
  | n + 1, c, d, hc, h => by
    rw [steps_succ] at h
    cases e : steps rows n c with
    | none => rw [e] at h; cases h
    | some d' => rw [e] at h; exact after_ok hr (steps_ok hr hc e) h
theorem steps_back {k : Nat} {rows : List Row} (hr : ∀ r ∈ rows, RowK k r) (nb : NCs (bws rows)) : ∀ {n : Nat} {c d : Conf}, ConfK k c → steps rows n c = some d → steps (bws rows) n d = some c
  | 0, c, d, hc, h => by cases h; rfl
  | n + 1, c, d, hc, h => by
    rw [steps_succ] at h
    cases e : steps rows n c with
    | none => rw [e] at h; cases h
    | some d' =>
      rw [e] at h
      have h1 : after rows d' = some d := h
      rw [steps_first, after_back hr (steps_ok hr hc e) nb h1]
      exact steps_back hr nb hc e
/-- what run hands back -/
def Ran (rows : List Row) (c : Conf) (n : Nat) (d : Conf) (m : Nat) : Prop := m ≤ n ∧ steps rows m c = some d ∧ (m < n → after rows d = none)
theorem steps_stop {rows : List Row} {c d : Conf} {m : Nat} (h : steps rows m c = some d) (ha : after rows d = none) : ∀ i, steps rows (m + 1 + i) c = none
  | 0 => by rw [Nat.add_zero, steps_succ, h]; exact ha
  | i + 1 => by
    show (steps rows (m + 1 + i) c).bind (after rows) = none
    rw [steps_stop h ha i]; rfl
theorem Ran.unique {rows : List Row} {c d d' : Conf} {n m m' : Nat} (h : Ran rows c n d m) (h' : Ran rows c n d' m') : d = d' ∧ m = m' := by
  obtain ⟨h1, h2, h3⟩ := h
  obtain ⟨k1, k2, k3⟩ := h'
  have e : m = m' := by
    rcases Nat.lt_trichotomy m m' with l | l | l
    · have q := steps_stop h2 (h3 (Nat.lt_of_lt_of_le l k1)) (m' - (m + 1))
      rw [show m + 1 + (m' - (m + 1)) = m' by omega, k2] at q
      cases q
    · exact l
    · have q := steps_stop k2 (k3 (Nat.lt_of_lt_of_le l h1)) (m - (m' + 1))
      rw [show m' + 1 + (m - (m' + 1)) = m by omega, h2] at q
      cases q
  subst e
  rw [h2] at k2
  exact ⟨Option.some.inj k2, rfl⟩
/-- the same number back -/
theorem Ran.back {k : Nat} {rows : List Row} {c d : Conf} {n m : Nat} (hr : ∀ r ∈ rows, RowK k r) (nb : NCs (bws rows)) (hc : ConfK k c) (h : Ran rows c n d m) : Ran (bws rows) d m c m :=
  ⟨Nat.le_refl _, steps_back hr nb hc h.2.1, fun l => absurd l (Nat.lt_irrefl _)⟩
theorem steps_inj {k : Nat} {rows : List Row} (hr : ∀ r ∈ rows, RowK k r) (nb : NCs (bws rows)) {n : Nat} {c c' d : Conf} (hc : ConfK k c) (hc' : ConfK k c') (h : steps rows n c = some d) (h' : steps rows n c' = some d) : c = c' := by
  have a := steps_back hr nb hc h
  have b := steps_back hr nb hc' h'
  rw [a] at b
  exact Option.some.inj b
end Bk

set_option Elab.async false
set_option linter.all false
set_option maxRecDepth 100000
namespace Bk
open PySem PySem.Spec PyProof.Rows L2

/-! ### the text by places -/
def top (i : Nat) : Stmt := PySem.Challenge.pw_backstair_k12_whole_there_and_back.main.body.getD i (.Pass ⟨0, 0, 0, 0⟩)
abbrev Fn (K : PySem.W.Frag) (x qual : Str) (st : Stmt) (f : Addr) (fd : FuncData) : Prop := FunD K x qual (defArgs st) (defBody st) (defScope st) [] [] f fd
/-- a def of the text, none of whose errors leaves it -/
theorem ok0 {P : Program} {w : World} {K : PySem.W.Frag} {mg : Str → Option Value} {base : Heap} {x qual : Str} {st : Stmt} {f : Addr} {fd : FuncData} {N ps : List Str} {k : Nat} {sp : Sp} (F : Fn K x qual st f fd) (S : FnScope N ps (defScope st))
    (len : ∀ vs H Q E, sp vs H Q E → vs.length = ps.length)
    (hbody : ∀ (cdv : Value) (A : Around) (outer : List Env) (s : Shared) (H : Hp) (vs : List V) (Q : VK) (E : XK), Room k (A.deeper (envOfC qual (defScope st) s.heap.objs.size f cdv)) → sp vs H Q E →
      ∃ t, PSs (cxOf CX0 P w K mg base N qual (defScope st) f cdv A outer s H E).nox (defBody st) t ∧ t { nx := fun _ H' => Q .non H', rt := Q } (start N vs) H) : FnOk P w K mg base CX0 (k + 1) f fd ps sp :=
  F.ok S len fun cdv A outer s H vs Q E hr h => by
    obtain ⟨t, a, b⟩ := hbody cdv A outer s H vs Q E hr h
    exact ⟨t, a.nox, b⟩
/-- a def that can be called by its name -/
structure Cal (P : Program) (w : World) (K : PySem.W.Frag) (mg : Str → Option Value) (base : Heap) (k : Nat) (x : Str) (sp : Sp) : Prop where
  ex : ∃ (f : Addr) (fd : FuncData) (ps : List Str), FnOk P w K mg base CX0 k f fd ps sp ∧ mg x = some (.ref f) ∧ PySem.W.keepIn K (.ref f) = true ∧ Binds K fd ps []
/-- a method -/
structure Met (P : Program) (w : World) (K : PySem.W.Frag) (mg : Str → Option Value) (base : Heap) (k : Nat) (C : Addr) (m : Str) (sp : Sp) : Prop where
  ex : ∃ (f : Addr) (fd : FuncData) (ps : List Str), FnOk P w K mg base CX0 k f fd ps sp ∧ Meth K C m f ∧ Binds K fd ps []
section
variable {X : Cx} {k j : Nat} {x m : Str} {sp : Sp} {C : Addr} {e o : Expr} {es : List Expr} {p pos apos : Pos} {t : TA} {ta : TE} {pl : Sem Bool}
theorem pe_cal (c : Cal X.prog X.w X.K X.mg X.base k x sp) (hr : Room j X.A) (hk : k ≤ j) (hg : Gl X x) (ha : PA X (e :: es) t)
    (hdb : (x == ("__debug__" : Str)) = false := by decide) (he : starEach (e :: es) X.env = (false, eval e X.env) :: starEach es X.env := by rfl) (hpl : (backTo pos (starEach es X.env)).any (·.1) = false := by rfl) :
    PE X (.Call (.Name x p) (e :: es) [] pos) (tCall sp [] E0 t) := by
  obtain ⟨f, fd, ps, F, hm, hkp, hb⟩ := c.ex
  exact pe_call F (hr.mono hk) hg hm hkp hb .nil pass0 ha hdb he hpl
theorem pe_met (c : Met X.prog X.w X.K X.mg X.base k C m sp) (cl : Cls X.K C) (hr : Room j X.A) (hk : k ≤ j) (ho : PE X o ta) (ha : PA X (e :: es) t)
    (hst : starEach (e :: es) X.env = (false, eval e X.env) :: starEach es X.env := by rfl) (hpl : (backTo pos (starEach es X.env)).any (·.1) = false := by rfl)
    (ht : eval (.Call (.Attribute o m apos) (e :: es) [] pos) X.env = (do
      let ov ← eval o X.env
      standAt apos.atName
      let (f, first) ← holding [ov] (getMethod ov m pl)
      callWith pos f first (backTo pos (starEach (e :: es) X.env)) (backToKw pos (keywordEach [] X.env))) := by rfl) :
    PE X (.Call (.Attribute o m apos) (e :: es) [] pos) (tMeth C m sp [] E0 ta t) := by
  obtain ⟨f, fd, ps, F, hm, hb⟩ := c.ex
  exact pe_meth (pl := pl) ho cl hm F (hr.mono hk) hb .nil pass0 ha hst hpl ht
theorem pe_met0 (c : Met X.prog X.w X.K X.mg X.base k C m sp) (cl : Cls X.K C) (hr : Room j X.A) (hk : k ≤ j) (ho : PE X o ta)
    (ht : eval (.Call (.Attribute o m apos) [] [] pos) X.env = (do
      let ov ← eval o X.env
      standAt apos.atName
      let (f, first) ← holding [ov] (getMethod ov m pl)
      callWith pos f first (backTo pos (starEach [] X.env)) (backToKw pos (keywordEach [] X.env))) := by rfl) :
    PE X (.Call (.Attribute o m apos) [] [] pos) (tMeth C m sp [] E0 ta tNil) := by
  obtain ⟨f, fd, ps, F, hm, hb⟩ := c.ex
  exact pe_meth0 (pl := pl) ho cl hm F (hr.mono hk) hb .nil pass0 ht
end

/-! ### heaps -/
/-- tuples stay -/
def Tk (H H' : Hp) : Prop := ∀ p xs, H p = some (.tup xs) → H' p = some (.tup xs)
theorem Tk.refl (H : Hp) : Tk H H := fun _ _ h => h
theorem Tk.trans {H H1 H2 : Hp} (a : Tk H H1) (b : Tk H1 H2) : Tk H H2 := fun p xs h => b p xs (a p xs h)
theorem _root_.L2.Same.tk {H H' : Hp} (s : Same H H') : Tk H H' := fun p xs h => s p _ h
theorem _root_.L2.Same.new {H : Hp} {p : Addr} {o : HO} (h : H p = none) : Same H (upd H p o) := fun b u e => by
  rw [upd_ne (ne_of_none e h)]; exact e
/-- an object that H0 does not know may change -/
theorem _root_.L2.Same.mut {H0 H : Hp} {p : Addr} {o : HO} (e : Same H0 H) (h : H0 p = none) : Same H0 (upd H p o) := fun b u q => by
  rw [upd_ne (ne_of_none q h)]; exact e b u q
theorem Tk.mut {H : Hp} {p : Addr} {o u : HO} (h : H p = some u) (nt : ∀ xs, u ≠ .tup xs) : Tk H (upd H p o) := fun b xs e => by
  rw [upd_ne fun q => by rw [q, h] at e; exact nt xs (Option.some.inj e)]; exact e
theorem Tk.mutL {H : Hp} {p : Addr} {o : HO} {xs : List V} (h : H p = some (.lst xs)) : Tk H (upd H p o) := Tk.mut h fun _ z => by cases z
theorem Tk.mutK {H : Hp} {p : Addr} {o : HO} {xs : List (Key × V)} (h : H p = some (.dK xs)) : Tk H (upd H p o) := Tk.mut h fun _ z => by cases z
theorem Tk.mutT {H : Hp} {p : Addr} {o : HO} {xs : List (List Key × V)} (h : H p = some (.dT xs)) : Tk H (upd H p o) := Tk.mut h fun _ z => by cases z
theorem small {n : Nat} (h : n ≤ 100000) : n ≤ sizeLine := Nat.le_trans h (by decide)
theorem smallT {n : Nat} (h : n < 100000) : n < sizeLine := Nat.lt_of_lt_of_le h (by decide)

/-! ### data in the heap -/
def Ints (H : Hp) (v : V) (ns : List Int) : Prop := ∃ a, v = .ref a ∧ H a = some (.tup (ns.map V.int))
def TpAt (H : Hp) (v : V) (t : Tp) : Prop := ∃ a x y, v = .ref a ∧ H a = some (.tup [x, .int t.m, y]) ∧ Ints H x t.l ∧ Ints H y t.r
def TpsAt (H : Hp) (v : V) (ts : List Tp) : Prop := ∃ a vs, v = .ref a ∧ H a = some (.tup vs) ∧ Paired (TpAt H) vs ts
def CfAt (H : Hp) (v : V) (c : Conf) : Prop := ∃ a x, v = .ref a ∧ H a = some (.tup [.int c.s, x]) ∧ TpsAt H x c.ts
def RwAt (H : Hp) (v : V) : Row → Prop
  | .mv q ms t => ∃ a x, v = .ref a ∧ H a = some (.tup [.str "move", .int q, x, .int t]) ∧ Ints H x ms
  | .wr q rs ws t => ∃ a x y, v = .ref a ∧ H a = some (.tup [.str "write", .int q, x, y, .int t]) ∧ Ints H x rs ∧ Ints H y ws
/-- a configuration and a number -/
def CnAt (H : Hp) (v : V) (c : Conf) (n : Nat) : Prop := ∃ a x, v = .ref a ∧ H a = some (.tup [x, .int n]) ∧ CfAt H x c
def OcAt (H : Hp) (v : V) : Option Conf → Prop
  | none => v = .non
  | some c => CfAt H v c
/-- a list of rows -/
def RwsAt (H : Hp) (a : Addr) (rows : List Row) : Prop := ∃ vs, H a = some (.lst vs) ∧ Paired (RwAt H) vs rows
section
variable {H H' : Hp} {v : V}
theorem Ints.mono (e : Tk H H') {ns : List Int} (h : Ints H v ns) : Ints H' v ns := let ⟨a, h1, h2⟩ := h; ⟨a, h1, e _ _ h2⟩
theorem TpAt.mono (e : Tk H H') {t : Tp} (h : TpAt H v t) : TpAt H' v t := let ⟨a, x, y, h1, h2, h3, h4⟩ := h; ⟨a, x, y, h1, e _ _ h2, h3.mono e, h4.mono e⟩
theorem TpsAt.mono (e : Tk H H') {t : List Tp} (h : TpsAt H v t) : TpsAt H' v t := let ⟨a, x, h1, h2, h3⟩ := h; ⟨a, x, h1, e _ _ h2, L2.Paired.mapP h3 fun _ _ q => q.mono e⟩
theorem CfAt.mono (e : Tk H H') {c : Conf} (h : CfAt H v c) : CfAt H' v c := let ⟨a, x, h1, h2, h3⟩ := h; ⟨a, x, h1, e _ _ h2, h3.mono e⟩
theorem RwAt.mono (e : Tk H H') {r : Row} (h : RwAt H v r) : RwAt H' v r := by
  cases r with
  | mv q ms t => obtain ⟨a, x, h1, h2, h3⟩ := h; exact ⟨a, x, h1, e _ _ h2, h3.mono e⟩
  | wr q rs ws t => obtain ⟨a, x, y, h1, h2, h3, h4⟩ := h; exact ⟨a, x, y, h1, e _ _ h2, h3.mono e, h4.mono e⟩
theorem CnAt.mono (e : Tk H H') {c : Conf} {n : Nat} (h : CnAt H v c n) : CnAt H' v c n := let ⟨a, x, h1, h2, h3⟩ := h; ⟨a, x, h1, e _ _ h2, h3.mono e⟩
theorem OcAt.mono (e : Tk H H') {o : Option Conf} (h : OcAt H v o) : OcAt H' v o := by
  cases o with
  | none => exact h
  | some c => exact CfAt.mono e h
theorem RwsAt.mono (e : Same H H') {a : Addr} {rows : List Row} (h : RwsAt H a rows) : RwsAt H' a rows := let ⟨vs, h1, h2⟩ := h; ⟨vs, e _ _ h1, L2.Paired.mapP h2 fun _ _ q => q.mono e.tk⟩
end
theorem pd_len {α β : Type} {F : α → β → Prop} {xs : List α} {ys : List β} (h : Paired F xs ys) : xs.length = ys.length := Paired.length h
theorem pd_get {α β : Type} {F : α → β → Prop} : ∀ {xs : List α} {ys : List β} {i : Nat} {x : α}, Paired F xs ys → xs[i]? = some x → ∃ y, ys[i]? = some y ∧ F x y
  | _, _, _, _, .nil, e => by simp at e
  | _, _, 0, _, .cons r _, e => by simp at e; subst e; exact ⟨_, rfl, r⟩
  | _, _, i + 1, x, .cons _ t, e => pd_get (i := i) (x := x) t (by simpa using e)
theorem pd_get' {α β : Type} {F : α → β → Prop} : ∀ {xs : List α} {ys : List β} {i : Nat} {y : β}, Paired F xs ys → ys[i]? = some y → ∃ x, xs[i]? = some x ∧ F x y
  | _, _, _, _, .nil, e => by simp at e
  | _, _, 0, _, .cons r _, e => by simp at e; subst e; exact ⟨_, rfl, r⟩
  | _, _, i + 1, x, .cons _ t, e => pd_get' (i := i) (y := x) t (by simpa using e)
theorem pd_of {α β : Type} {F : α → β → Prop} : ∀ {xs : List α} {ys : List β}, xs.length = ys.length → (∀ (i : Nat) (x : α) (y : β), xs[i]? = some x → ys[i]? = some y → F x y) → Paired F xs ys
  | [], [], _, _ => .nil
  | x :: xs, y :: ys, h, k => .cons (k 0 x y rfl rfl) (pd_of (Nat.succ.inj h) fun i a b ha hb => k (i + 1) a b ha hb)
  | [], _ :: _, h, _ => by cases h
  | _ :: _, [], h, _ => by cases h
theorem pd_snoc {α β : Type} {F : α → β → Prop} {x : α} {y : β} (h : F x y) : ∀ {xs : List α} {ys : List β}, Paired F xs ys → Paired F (xs ++ [x]) (ys ++ [y])
  | _, _, .nil => .cons h .nil
  | _, _, .cons r t => .cons r (pd_snoc h t)

/-! ### a comprehension without an if, whose element makes new things at most -/
theorem lcW {J : It} {n : Nat} {G : Hp → Prop} {Y : Nat → Hp → V → Hp → Prop} (w : Walk J n G Y) {g : TG} {te : TE} {vs : List Nat} {σ : L2.St} {H1 : Hp} {Q : VK} (R : Nat → Hp → V → Prop) (hn : n ≤ 100000)
    (mono : ∀ i H H' v, i < n → Tk H H' → R i H v → R i H' v) (hG : ∀ H, Same H1 H → G H)
    (hs : ∀ i x H H', i < n → Same H1 H → Y i H x H' → ∀ Q : VK, (∀ y H3, Same H H3 → R i H3 y → Q y H3) → g x (wipe σ vs) H' fun σ2 H2 => wipe σ2 vs = wipe σ vs ∧ te σ2 H2 Q)
    (k : ∀ D H' us, H1 D = none → Same H1 H' → H' D = some (.lst us) → us.length = n → (∀ i v, us[i]? = some v → R i H' v) → Q (.ref D) H')
    (gm : ∀ x σ H (Q Q' : L2.St → Hp → Prop), (∀ σ' H', Q σ' H' → Q' σ' H') → g x σ H Q → g x σ H Q') :
    ∀ D, H1 D = none → ∃ W : Nat → Nat → Hp → Prop, (∃ m, W 0 m (upd H1 D (.lst []))) ∧ ∀ i m H, W i m H →
      (J.stop i H ∧ Q (.ref D) H) ∨ (J.go i H ∧ ∃ Nx : Hp → Prop, (∀ H', Nx H' → ∃ m', m' < m ∧ W (i + 1) m' H') ∧ ∀ x H', J.yld i H x H' → g x (wipe σ vs) H' fun σ2 H2 => wipe σ2 vs = wipe σ vs ∧ tYes σ2 H2 fun b H3 =>
        if b = true then te σ2 H3 fun y H4 => ∃ acc, H4 D = some (.lst acc) ∧ acc.length < sizeLine ∧ Nx (upd H4 D (.lst (acc ++ [y]))) else Nx H3) := fun D hD =>
  lc_it w (fun i H => Same H1 H ∧ ∃ us, H D = some (.lst us) ∧ us.length = i ∧ ∀ j v, us[j]? = some v → R j H v)
    ⟨Same.new hD, [], upd_same, rfl, fun j v h => by simp at h⟩ (fun i H _ p => hG H p.1)
    (fun i x H H' hi ⟨p1, us, p2, p3, p4⟩ y => by
      refine gm x _ H' _ _ (fun σ2 H2 q => ⟨q.1, ?_⟩) (hs i x H H' hi p1 y (fun y H4 => ∃ acc, H4 D = some (.lst acc) ∧ acc.length < sizeLine ∧ (Same H1 (upd H4 D (.lst (acc ++ [y]))) ∧ ∃ us, upd H4 D (.lst (acc ++ [y])) D = some (.lst us) ∧ us.length = i + 1 ∧ ∀ j v, us[j]? = some v → R j (upd H4 D (.lst (acc ++ [y]))) v)) fun z H3 s3 r3 => ?_)
      · exact q.2
      · have d3 : H3 D = some (.lst us) := s3 _ _ p2
        have tk : Tk H3 (upd H3 D (.lst (us ++ [z]))) := Tk.mutL d3
        refine ⟨us, d3, smallT (by omega), (p1.trans s3).mut hD, us ++ [z], upd_same, by rw [List.length_append, p3]; rfl, fun j v hj => ?_⟩
        by_cases hl : j < us.length
        · rw [List.getElem?_append_left hl] at hj
          exact mono j _ _ v (by omega) (s3.tk.trans tk) (p4 j v hj)
        · have ej : j = i := by
            have := (List.getElem?_eq_some_iff.mp hj).1
            rw [List.length_append, List.length_singleton] at this
            omega
          subst ej
          rw [← p3, List.getElem?_concat_length] at hj
          cases hj
          exact mono _ _ _ _ hi tk r3)
    fun H ⟨p1, us, p2, p3, p4⟩ => k D H us hD p1 p2 p3 p4
theorem gm_name {i : Nat} : ∀ x σ H (Q Q' : L2.St → Hp → Prop), (∀ σ' H', Q σ' H' → Q' σ' H') → gName i x σ H Q → gName i x σ H Q' := fun _ _ _ _ _ h q => h _ _ q
theorem gm_pair {K : PySem.W.Frag} {i j : Nat} : ∀ x σ H (Q Q' : L2.St → Hp → Prop), (∀ σ' H', Q σ' H' → Q' σ' H') → gTup K 2 (gCons (gName i) (gCons (gName j) gNil)) x σ H Q → gTup K 2 (gCons (gName i) (gCons (gName j) gNil)) x σ H Q' := by
  intro x σ H Q Q' h ⟨a, xs, e1, e2, e3, v, r, e4, v2, r2, e5, e6, q⟩
  exact ⟨a, xs, e1, e2, e3, v, r, e4, v2, r2, e5, e6, h _ _ q⟩
/-- zip of two tuples -/
theorem walk_zipT {K : PySem.W.Frag} {a b : Addr} {xs ys : List V} {n : Nat} (hn : n = min xs.length ys.length) : Walk (RZ.ItzT K a b) n (fun H => SqT K H a xs ∧ SqT K H b ys) (YPair (fun i => xs[i]?) (fun i => ys[i]?)) := by
  subst hn
  refine ⟨fun i _ hi q => ?_, fun _ q => ⟨xs, ys, q.1, q.2, by omega⟩, fun i H v H' _ q y => ?_⟩
  · have h1 : i < xs.length := by omega
    have h2 : i < ys.length := by omega
    exact ⟨xs, ys, xs[i], ys[i], q.1, q.2, by simp [h1], by simp [h2]⟩
  · obtain ⟨T, x, z, h1, h2, h3, h4, h5⟩ := y
    exact ⟨T, x, z, h1, h2, h3, h4 xs q.1, h5 ys q.2⟩
theorem _root_.L2.Same.seqT {K : PySem.W.Frag} {H H' : Hp} {a : Addr} {xs : List V} (e : Same H H') (h : SqT K H a xs) : SqT K H' a xs := by
  rcases h with (h | ⟨o, h⟩) | h
  · exact .inl (.inl (e _ _ h))
  · exact .inl (.inr ⟨o, e _ _ h⟩)
  · exact .inr h

/-! ### equality -/
def intsD (ns : List Int) : PyData := .tuple (ns.map PyData.int)
def tpD (t : Tp) : PyData := .tuple [intsD t.l, .int t.m, intsD t.r]
def cfD (c : Conf) : PyData := .tuple [.int c.s, .tuple (c.ts.map tpD)]
def cnD (c : Conf) (n : Nat) : PyData := .tuple [cfD c, .int n]
section
variable {K : PySem.W.Frag} {H : Hp} {v : V}
theorem dp_ints : ∀ ns : List Int, DpAll K H (ns.map V.int) (ns.map PyData.int)
  | [] => .nil
  | n :: ns => .cons (.int n) (dp_ints ns)
theorem Ints.dp {ns : List Int} (h : Ints H v ns) : Dp K H v (intsD ns) := by
  obtain ⟨a, rfl, h2⟩ := h
  exact .tup (SqT.of h2) (dp_ints ns)
theorem TpAt.dp {t : Tp} (h : TpAt H v t) : Dp K H v (tpD t) := by
  obtain ⟨a, x, y, rfl, h2, h3, h4⟩ := h
  exact .tup (SqT.of h2) (.cons h3.dp (.cons (.int _) (.cons h4.dp .nil)))
theorem tps_dp : ∀ {vs : List V} {ts : List Tp}, Paired (TpAt H) vs ts → DpAll K H vs (ts.map tpD)
  | _, _, .nil => .nil
  | _, _, .cons r t => .cons r.dp (tps_dp t)
theorem CfAt.dp {c : Conf} (h : CfAt H v c) : Dp K H v (cfD c) := by
  obtain ⟨a, x, rfl, h2, b, vs, rfl, h4, h5⟩ := h
  exact .tup (SqT.of h2) (.cons (.int _) (.cons (.tup (SqT.of h4) (tps_dp h5)) .nil))
theorem CnAt.dp {c : Conf} {n : Nat} (h : CnAt H v c n) : Dp K H v (cnD c n) := by
  obtain ⟨a, x, rfl, h2, h3⟩ := h
  exact .tup (SqT.of h2) (.cons h3.dp (.cons (.int _) .nil))
end
theorem eqv_ints : ∀ {a b : List Int}, PyData.eqvAll (a.map PyData.int) (b.map PyData.int) = true → a = b
  | [], [], _ => rfl
  | x :: xs, y :: ys, h => by
    have h' : (x == y && PyData.eqvAll (xs.map PyData.int) (ys.map PyData.int)) = true := by
      simpa only [List.map_cons, PyData.eqvAll, PyData.eqv] using h
    obtain ⟨h1, h2⟩ := Bool.and_eq_true_iff.mp h'
    rw [eq_of_beq h1, eqv_ints h2]
  | [], _ :: _, h => by simp [PyData.eqvAll] at h
  | _ :: _, [], h => by simp [PyData.eqvAll] at h
theorem eqv_tp {a b : Tp} (h : PyData.eqv (tpD a) (tpD b) = true) : a = b := by
  obtain ⟨l, m, r⟩ := a
  obtain ⟨l', m', r'⟩ := b
  have h' : (PyData.eqvAll (l.map PyData.int) (l'.map PyData.int) && (m == m' && (PyData.eqvAll (r.map PyData.int) (r'.map PyData.int) && true))) = true := by
    simpa only [tpD, intsD, PyData.eqvAll, PyData.eqv] using h
  obtain ⟨h1, h2⟩ := Bool.and_eq_true_iff.mp h'
  obtain ⟨h2, h3⟩ := Bool.and_eq_true_iff.mp h2
  obtain ⟨h3, _⟩ := Bool.and_eq_true_iff.mp h3
  rw [eqv_ints h1, eq_of_beq h2, eqv_ints h3]
theorem eqv_tps : ∀ {a b : List Tp}, PyData.eqvAll (a.map tpD) (b.map tpD) = true → a = b
  | [], [], _ => rfl
  | x :: xs, y :: ys, h => by
    have h' : (PyData.eqv (tpD x) (tpD y) && PyData.eqvAll (xs.map tpD) (ys.map tpD)) = true := by
      simpa only [List.map_cons, PyData.eqvAll] using h
    obtain ⟨h1, h2⟩ := Bool.and_eq_true_iff.mp h'
    rw [eqv_tp h1, eqv_tps h2]
  | [], _ :: _, h => by simp [PyData.eqvAll] at h
  | _ :: _, [], h => by simp [PyData.eqvAll] at h
theorem eqv_cf {a b : Conf} (h : PyData.eqv (cfD a) (cfD b) = true) : a = b := by
  obtain ⟨s, ts⟩ := a
  obtain ⟨s', ts'⟩ := b
  have h' : (s == s' && (PyData.eqvAll (ts.map tpD) (ts'.map tpD) && true)) = true := by
    simpa only [cfD, PyData.eqvAll, PyData.eqv] using h
  obtain ⟨h1, h2⟩ := Bool.and_eq_true_iff.mp h'
  obtain ⟨h2, _⟩ := Bool.and_eq_true_iff.mp h2
  rw [eq_of_beq h1, eqv_tps h2]
/-- shallow data that can be compared -/
def Sh (n : Nat) (d : PyData) : Prop := d.canLay0 = true ∧ d.depth ≤ n
theorem Sh.shaped {n : Nat} {d : PyData} (h : Sh n d) (hn : n ≤ 64 := by decide) : SeqAt.shaped d = true := by
  unfold SeqAt.shaped
  rw [h.1, decide_eq_true (Nat.le_trans h.2 hn)]
  rfl
theorem Sh.int (n : Nat) (i : Int) : Sh n (.int i) := ⟨by simp [PyData.canLay0], by simp [PyData.depth]⟩
theorem Sh.non (n : Nat) : Sh n .none := ⟨by simp [PyData.canLay0], by simp [PyData.depth]⟩
theorem sh_all {n : Nat} : ∀ {ds : List PyData}, (∀ d ∈ ds, Sh n d) → PyData.canLayAll0 ds = true ∧ PyData.depthAll ds ≤ n
  | [], _ => ⟨by simp [PyData.canLayAll0], by simp [PyData.depthAll]⟩
  | d :: ds, h => by
    obtain ⟨a, b⟩ := h d List.mem_cons_self
    obtain ⟨c, e⟩ := sh_all (n := n) (ds := ds) fun x hx => h x (List.mem_cons_of_mem _ hx)
    refine ⟨by rw [PyData.canLayAll0, a, c]; rfl, ?_⟩
    rw [PyData.depthAll]
    omega
theorem Sh.tup {n : Nat} {ds : List PyData} (h : ∀ d ∈ ds, Sh n d) : Sh (n + 1) (.tuple ds) := by
  obtain ⟨a, b⟩ := sh_all h
  exact ⟨by rw [PyData.canLay0]; exact a, by rw [PyData.depth]; omega⟩
theorem Sh.ints (ns : List Int) : Sh 1 (intsD ns) := Sh.tup fun d hd => by
  obtain ⟨i, _, rfl⟩ := List.mem_map.mp hd
  exact Sh.int 0 i
theorem Sh.up {n m : Nat} {d : PyData} (h : Sh n d) (l : n ≤ m := by decide) : Sh m d := ⟨h.1, Nat.le_trans h.2 l⟩
theorem Sh.tp (t : Tp) : Sh 2 (tpD t) := Sh.tup fun d hd => by
  simp only [List.mem_cons, List.not_mem_nil, or_false] at hd
  rcases hd with rfl | rfl | rfl
  · exact Sh.ints _
  · exact Sh.int _ _
  · exact Sh.ints _
theorem Sh.cf (c : Conf) : Sh 4 (cfD c) := Sh.tup fun d hd => by
  simp only [List.mem_cons, List.not_mem_nil, or_false] at hd
  rcases hd with rfl | rfl
  · exact Sh.int _ _
  · refine Sh.tup fun d hd => ?_
    obtain ⟨t, _, rfl⟩ := List.mem_map.mp hd
    exact Sh.tp t
theorem Sh.cn (c : Conf) (n : Nat) : Sh 5 (cnD c n) := Sh.tup fun d hd => by
  simp only [List.mem_cons, List.not_mem_nil, or_false] at hd
  rcases hd with rfl | rfl
  · exact Sh.cf _
  · exact Sh.int _ _
theorem eqv_self {n : Nat} {d : PyData} (h : Sh n d) : PyData.eqv d d = true := SeqAt.eqv_refl d h.1
theorem eqv_intsD {a b : List Int} : PyData.eqv (intsD a) (intsD b) = decide (a = b) := by
  by_cases e : a = b
  · subst e
    rw [eqv_self (Sh.ints a), decide_eq_true rfl]
  · rw [decide_eq_false e]
    cases q : PyData.eqv (intsD a) (intsD b) with
    | false => rfl
    | true =>
      rw [intsD, intsD, PyData.eqv] at q
      exact (e (eqv_ints q)).elim
end Bk

set_option Elab.async false
set_option linter.all false
set_option maxRecDepth 100000
namespace Bk
open PySem PySem.Spec PyProof.Rows L2
/-! ### what the module's built-in names are -/
structure Bi (mg : Str → Option Value) : Prop where
  len : mg "len" = none
  tuple : mg "tuple" = none
  isi : mg "isinstance" = none
  int : mg "int" = none
  bool : mg "bool" = none
  all : mg "all" = none
  any : mg "any" = none
  enum : mg "enumerate" = none
  list : mg "list" = none
  zip : mg "zip" = none
  range : mg "range" = none
theorem boot_tuple' : bootBuiltins "tuple" = some (.type "tuple") := by decide +kernel
theorem boot_int' : bootBuiltins "int" = some (.type "int") := by decide +kernel
theorem boot_bool' : bootBuiltins "bool" = some (.type "bool") := by decide +kernel
theorem boot_list' : bootBuiltins "list" = some (.type "list") := by decide +kernel
theorem boot_all' : bootBuiltins "all" = some (.builtin "all") := by decide +kernel
theorem boot_any' : bootBuiltins "any" = some (.builtin "any") := by decide +kernel
theorem boot_isi' : bootBuiltins "isinstance" = some (.builtin "isinstance") := by decide +kernel
theorem sIx0 (n : Nat) : HT.sIx n 0 none = 0 := rfl
theorem cutV_to (xs : List V) (k : Nat) (h : k ≤ xs.length) : cutV xs none (some (k : Int)) = xs.take k := by
  unfold cutV
  rw [HT.sIx_nat, HT.sIx_none, Nat.sub_zero, List.drop_zero, Nat.min_eq_left h]
theorem atI_of {α : Type} {xs : List α} {z : Int} {j : Nat} {v : α} (e : z = (j : Int)) (h : xs[j]? = some v) : atI xs z = some v := by
  rw [e]; exact atI_nat h
theorem int_at {ns : List Int} {j : Nat} (h : j < ns.length) : (ns.map V.int)[j]? = some (.int ns[j]) := by
  rw [List.getElem?_map, List.getElem?_eq_getElem h]; rfl

/-! ### steps of the reading: each is sealed, so that its rule is met by name -/
@[irreducible] def NTup (xs : List V) (H : Hp) (Q : VK) : Prop := xs.length ≤ sizeLine ∧ ∀ p, H p = none → Q (.ref p) (upd H p (.tup xs))
@[irreducible] def NLst (xs : List V) (H : Hp) (Q : VK) : Prop := xs.length ≤ sizeLine ∧ ∀ p, H p = none → Q (.ref p) (upd H p (.lst xs))
@[irreducible] def NObj (o : HO) (H : Hp) (Q : VK) : Prop := ∀ p, H p = none → Q (.ref p) (upd H p o)
@[irreducible] def CatA (K : PySem.W.Frag) (x y : V) (H : Hp) (Q : VK) : Prop := rCatA K x y H Q
@[irreducible] def CatL (x y : V) (H : Hp) (Q : VK) : Prop := rCat x y H Q
@[irreducible] def SlA (K : PySem.W.Frag) (x : V) (lo hi : Option Int) (H : Hp) (Q : VK) : Prop := rSlA K x lo hi H Q ∨ rSlL K x lo hi H Q
@[irreducible] def TupOf (K : PySem.W.Frag) (xs : List V) (H : Hp) (Q : VK) : Prop := ∃ p ys, xs = [V.ref p] ∧ ((SqL K H p ys ∧ ∀ l, H l = none → Q (.ref l) (upd H l (.tup ys))) ∨ (SqT K H p ys ∧ Q (.ref p) H))
@[irreducible] def LstOf (K : PySem.W.Frag) (xs : List V) (H : Hp) (Q : VK) : Prop := ∃ p ys, xs = [V.ref p] ∧ (SqL K H p ys ∨ SqT K H p ys) ∧ ∀ l, H l = none → Q (.ref l) (upd H l (.lst ys))
@[irreducible] def Isi (K : PySem.W.Frag) (xs : List V) (H : Hp) (Q : VK) : Prop := rIsi K xs H Q
@[irreducible] def LenS (K : PySem.W.Frag) (xs : List V) (H : Hp) (Q : VK) : Prop := ∃ p ys, xs = [.ref p] ∧ (SqL K H p ys ∨ SqT K H p ys) ∧ Q (.int ys.length) H
@[irreducible] def Ixs (K : PySem.W.Frag) (x y : V) (H : Hp) (Q : VK) : Prop := rIx K x y H Q
@[irreducible] def EqD (K : PySem.W.Frag) (x y : V) (H : Hp) (Q : VK) : Prop := rEqD K x y H Q
@[irreducible] def NeD (K : PySem.W.Frag) (x y : V) (H : Hp) (Q : VK) : Prop := rNeD K x y H Q
@[irreducible] def AllB (K : PySem.W.Frag) (xs : List V) (H : Hp) (Q : VK) : Prop := rAll K xs H Q
@[irreducible] def AnyB (K : PySem.W.Frag) (xs : List V) (H : Hp) (Q : VK) : Prop := rAny K xs H Q
@[irreducible] def Lc (J : It) (g : TG) (te : TE) (vs : List Nat) (σ : L2.St) (Q : VK) (H1 : Hp) : Prop := ∀ D, H1 D = none → ∃ W : Nat → Nat → Hp → Prop, (∃ m, W 0 m (upd H1 D (.lst []))) ∧ ∀ i m H, W i m H →
      (J.stop i H ∧ Q (.ref D) H) ∨ (J.go i H ∧ ∃ Nx : Hp → Prop, (∀ H', Nx H' → ∃ m', m' < m ∧ W (i + 1) m' H') ∧ ∀ x H', J.yld i H x H' → g x (wipe σ vs) H' fun σ2 H2 => wipe σ2 vs = wipe σ vs ∧ tYes σ2 H2 fun b H3 =>
        if b = true then te σ2 H3 fun y H4 => ∃ acc, H4 D = some (.lst acc) ∧ acc.length < sizeLine ∧ Nx (upd H4 D (.lst (acc ++ [y]))) else Nx H3)
@[irreducible] def ForB (J : It) (g : TG) (tb : TS) (D : Ends) (σ : L2.St) (H1 : Hp) : Prop := ∃ W : Nat → Nat → L2.St → Hp → Prop, (∃ m, W 0 m σ H1) ∧ ∀ i m σ H, W i m σ H →
  (J.stop i H ∧ D.nx σ H) ∨ (J.go i H ∧ ∃ N : L2.St → Hp → Prop, (∀ σ' H', N σ' H' → ∃ m', m' < m ∧ W (i + 1) m' σ' H') ∧ ∀ x H', J.yld i H x H' → g x σ H' fun σ2 H2 => tb { D with nx := N, ct := N, bk := D.nx } σ2 H2)
def tTupN (t : TA) : TE := fun σ H Q => t σ H fun xs H1 => NTup xs H1 Q
def tLstN (t : TA) : TE := fun σ H Q => t σ H fun xs H1 => NLst xs H1 Q
def tObjN (o : HO) : TE := fun _ H Q => NObj o H Q
def tLcN (wi : TI) (g : TG) (te : TE) (vs : List Nat) : TE := fun σ H Q => wi σ H fun J H1 => Lc J g te vs σ Q H1
def tForN (wi : TI) (g : TG) (tb : TS) : TS := fun D σ H => wi σ H fun J H1 => ForB J g tb D σ H1
section
variable {X : Cx} {es : List Expr} {t : TA} {pos : Pos}
theorem pe_tupN {x1} (h : PA X es t) : PE X (.Tuple es x1 pos) (tTupN t) := ⟨fun pins s σ H Q I q => (pe_tup h).run pins s σ H Q I (by unfold tTupN NTup at q; exact q)⟩
theorem pe_lstN (h : PA X es t) : PE X (.List es pos) (tLstN t) := ⟨fun pins s σ H Q I q => (pe_lst h).run pins s σ H Q I (by unfold tLstN NLst at q; exact q)⟩
theorem pe_dK : PE X (.Dict [] [] pos) (tObjN (.dK [])) := ⟨fun pins s σ H Q I q => pe_dnewK.run pins s σ H Q I (by unfold tObjN NObj at q; exact q)⟩
theorem pe_dT : PE X (.Dict [] [] pos) (tObjN (.dT [])) := ⟨fun pins s σ H Q I q => pe_dnewT.run pins s σ H Q I (by unfold tObjN NObj at q; exact q)⟩
theorem op_catN : OpR X (binaryOp .Add) (CatA X.K) := fun pins s σ H x y v u Q I rx ry h => op_catA pins s σ H x y v u Q I rx ry (by unfold CatA at h; exact h)
theorem op_catLN : OpR X (binaryOp .Add) CatL := fun pins s σ H x y v u Q I rx ry h => op_cat pins s σ H x y v u Q I rx ry (by unfold CatL at h; exact h)
theorem sl_N : SlR X (SlA X.K) := fun pins s σ H x v vl vu lo hi sl Q I rx hs pl pu h => (SlR.or sl_tupA sl_list) pins s σ H x v vl vu lo hi sl Q I rx hs pl pu (by unfold SlA at h; exact h)
theorem call_tupN : CallR X (.type "tuple") (TupOf X.K) := fun pins s σ H xs us Q I r h => call_tuple_of pins s σ H xs us Q I r (by unfold TupOf at h; exact h)
theorem call_lstN : CallR X (.type "list") (LstOf X.K) := fun pins s σ H xs us Q I r h => call_list_of pins s σ H xs us Q I r (by unfold LstOf at h; exact h)
theorem call_isiN : CallR X (.builtin "isinstance") (Isi X.K) := fun pins s σ H xs us Q I r h => call_isi pins s σ H xs us Q I r (by unfold Isi at h; exact h)
theorem call_lenN : CallR X (.builtin "len") (LenS X.K) := fun pins s σ H xs us Q I r h => call_len_seq pins s σ H xs us Q I r (by unfold LenS at h; exact h)
theorem ix_N : IxR X (Ixs X.K) := by
  unfold Ixs
  exact ix_seq
theorem op_eqN (hu : X.A.units + 64 < cLine) : OpR X (compareOp .Eq) (EqD X.K) := fun pins s σ H x y v u Q I rx ry h => op_eqD hu pins s σ H x y v u Q I rx ry (by unfold EqD at h; exact h)
theorem op_neN (hu : X.A.units + 64 < cLine) : OpR X (compareOp .NotEq) (NeD X.K) := fun pins s σ H x y v u Q I rx ry h => op_neD hu pins s σ H x y v u Q I rx ry (by unfold NeD at h; exact h)
theorem cr_allN (hc : X.calm = true) : CallR X (.builtin "all") (AllB X.K) := fun pins s σ H xs us Q I r h => cr_all hc pins s σ H xs us Q I r (by unfold AllB at h; exact h)
theorem cr_anyN (hc : X.calm = true) : CallR X (.builtin "any") (AnyB X.K) := fun pins s σ H xs us Q I r h => cr_any hc pins s σ H xs us Q I r (by unfold AnyB at h; exact h)
theorem pe_lcN {elt tg iter : Expr} {scope : Scope} {own : List (Str × Nat)} {wi : TI} {g : TG} {te : TE} (hc : X.calm = true) (hN : X.N.Nodup) (hi : PI X tg iter wi) (ok : BlkOk X.N X.env.scope scope own)
    (hg : ∀ (s : Shared) (H : Hp) (C : Addr) (cl : List (Str × Addr)) (fp : List Addr), PG (X.blk s H scope (compEnvC scope cl C X.env) fp) tg g)
    (he : ∀ (s : Shared) (H : Hp) (C : Addr) (cl : List (Str × Addr)) (fp : List Addr), PE (X.blk s H scope (compEnvC scope cl C X.env) fp) elt te) (hs : ∀ x, foldedSetIterable iter X.env x = pure x := by intro _; rfl) :
    PE X (.ListComp elt [⟨tg, iter, [], 0⟩] scope pos) (tLcN wi g te (own.map (·.2))) := ⟨fun pins s σ H Q I q => (pe_lc (tt := tYes) hc hN hi ok hg (fun _ _ _ _ _ => pts_nil) he hs).run pins s σ H Q I (by unfold tLcN Lc at q; exact q)⟩
theorem ps_setLcN {i : Nat} {y : Str} {py : Pos} {elt tg iter : Expr} {scope : Scope} {own : List (Str × Nat)} {spos : Pos} {wi : TI} {g : TG} {te : TE} (hc : X.calm = true) (hN : X.N.Nodup) (hy : X.N[i]? = some y) (hyl : X.env.scope.names.lookup y = some .local)
    (hsw : swapsWith (.ListComp elt [⟨tg, iter, [], 0⟩] scope pos) (some (.Name y py)) spos.line X.env = pure true) (hi : PI X tg iter wi) (ok : BlkOk X.N X.env.scope scope own)
    (hg : ∀ (s : Shared) (H : Hp) (C : Addr) (cl : List (Str × Addr)) (fp : List Addr), PG (X.blk s H scope (compEnvC scope cl C X.env) fp) tg g)
    (he : ∀ (s : Shared) (H : Hp) (C : Addr) (cl : List (Str × Addr)) (fp : List Addr), PE (X.blk s H scope (compEnvC scope cl C X.env) fp) elt te) (hs : ∀ x, foldedSetIterable iter X.env x = pure x := by intro _; rfl) :
    PS X (.Assign [.Name y py] (.ListComp elt [⟨tg, iter, [], 0⟩] scope pos) spos) (tAsg (tLcN wi g te (own.map (·.2))) (gName i)) :=
  ⟨fun pins s σ H D I q => (ps_setLc (tt := tYes) hc hN hy hyl hsw hi ok hg (fun _ _ _ _ _ => pts_nil) he hs).run pins s σ H D I (by unfold tAsg tLcN Lc at q; exact q)⟩
theorem ps_forN {tg iter : Expr} {body : List Stmt} {wi : TI} {g : TG} {tb : TS} (hp : PassesOwn (model X.prog X.w) X.A X.env X.xe) (hc : X.calm = true) (hi : PI X tg iter wi) (hg : PG X tg g) (hb : PSs X body tb)
    (hs : ∀ x, foldedSetIterable iter X.env x = pure x := by intro _; rfl) : PS X (.For tg iter body [] pos) (tForN wi g tb) := ⟨fun pins s σ H D I q => (ps_for hp hc hi hg hb hs).run pins s σ H D I (by unfold tForN ForB at q; exact q)⟩
end
/-! what each asks -/
section
variable {K : PySem.W.Frag} {H : Hp} {a b : Addr} {x y : V} {xs ys : List V} {lo hi : Option Int} {Q : VK}
theorem nTup (hl : xs.length ≤ 100000) (k : ∀ p H', H p = none → Same H H' → H' p = some (.tup xs) → Q (.ref p) H') : NTup xs H Q := by
  unfold NTup; exact ⟨small hl, fun p hp => k p _ hp (Same.new hp) upd_same⟩
theorem nLst (hl : xs.length ≤ 100000) (k : ∀ p H', H p = none → Same H H' → H' p = some (.lst xs) → Q (.ref p) H') : NLst xs H Q := by
  unfold NLst; exact ⟨small hl, fun p hp => k p _ hp (Same.new hp) upd_same⟩
theorem nObj {o : HO} (k : ∀ p H', H p = none → Same H H' → H' p = some o → Q (.ref p) H') : NObj o H Q := by
  unfold NObj; exact fun p hp => k p _ hp (Same.new hp) upd_same
theorem catA (ha : H a = some (.tup xs)) (hb : H b = some (.tup ys)) (hl : xs.length + ys.length ≤ 100000) (k : ∀ p H', Same H H' → H' p = some (.tup (xs ++ ys)) → Q (.ref p) H') : CatA K (.ref a) (.ref b) H Q := by
  unfold CatA
  refine ⟨a, b, xs, ys, rfl, rfl, SqT.of ha, SqT.of hb, small hl, fun h => k _ _ (Same.refl _) ?_, fun _ h => k _ _ (Same.refl _) ?_, fun _ _ p hp => k _ _ (Same.new hp) upd_same⟩
  · rw [h]; exact hb
  · rw [h, List.append_nil]; exact ha
theorem catL (ha : H a = some (.lst xs)) (hb : H b = some (.lst ys)) (hl : xs.length + ys.length ≤ 100000) (k : ∀ p H', H p = none → Same H H' → H' p = some (.lst (xs ++ ys)) → Q (.ref p) H') : CatL (.ref a) (.ref b) H Q := by
  unfold CatL
  exact ⟨a, b, xs, ys, rfl, rfl, ha, hb, small hl, fun p hp => k _ _ hp (Same.new hp) upd_same⟩
theorem slT (ha : H a = some (.tup xs)) (k : ∀ p H', Same H H' → H' p = some (.tup (cutV xs lo hi)) → Q (.ref p) H') : SlA K (.ref a) lo hi H Q := by
  unfold SlA
  refine .inl ⟨a, xs, rfl, SqT.of ha, fun h => k _ _ (Same.refl _) ?_, fun _ p hp => k _ _ (Same.new hp) upd_same⟩
  unfold cutV
  rw [h.1, h.2, Nat.sub_zero, List.drop_zero, List.take_length]
  exact ha
theorem slL (ha : SqL K H a xs) (k : ∀ p H', H p = none → Same H H' → H' p = some (.lst (cutV xs lo hi)) → Q (.ref p) H') : SlA K (.ref a) lo hi H Q := by
  unfold SlA
  exact .inr ⟨a, xs, rfl, ha, fun p hp => k _ _ hp (Same.new hp) upd_same⟩
theorem tupL (ha : H a = some (.lst xs)) (k : ∀ p H', Same H H' → H' p = some (.tup xs) → Q (.ref p) H') : TupOf K [.ref a] H Q := by
  unfold TupOf; exact ⟨a, xs, rfl, .inl ⟨SqL.of ha, fun p hp => k _ _ (Same.new hp) upd_same⟩⟩
theorem tupT (ha : H a = some (.tup xs)) (k : ∀ p H', Same H H' → H' p = some (.tup xs) → Q (.ref p) H') : TupOf K [.ref a] H Q := by
  unfold TupOf; exact ⟨a, xs, rfl, .inr ⟨SqT.of ha, k _ _ (Same.refl _) ha⟩⟩
theorem lstL (ha : SqL K H a xs) (k : ∀ p H', H p = none → Same H H' → H' p = some (.lst xs) → Q (.ref p) H') : LstOf K [.ref a] H Q := by
  unfold LstOf; exact ⟨a, xs, rfl, .inl ha, fun p hp => k _ _ hp (Same.new hp) upd_same⟩
theorem lenT (ha : H a = some (.tup xs)) (q : Q (.int xs.length) H) : LenS K [.ref a] H Q := by
  unfold LenS; exact ⟨a, xs, rfl, .inr (SqT.of ha), q⟩
theorem lenL (ha : SqL K H a xs) (q : Q (.int xs.length) H) : LenS K [.ref a] H Q := by
  unfold LenS; exact ⟨a, xs, rfl, .inl ha, q⟩
/-- an item by a place from the left -/
theorem ixT {i : Int} {v : V} (ha : H a = some (.tup xs)) (j : Nat) (hi : i = (j : Int)) (hv : xs[j]? = some v) (q : Q v H) : Ixs K (.ref a) (.int i) H Q := by
  unfold Ixs; exact .inr (.inl ⟨a, xs, i, v, rfl, rfl, SqT.of ha, atI_of hi hv, q⟩)
theorem ixTI {i : Int} {v : V} (ha : H a = some (.tup xs)) (hv : atI xs i = some v) (q : Q v H) : Ixs K (.ref a) (.int i) H Q := by
  unfold Ixs; exact .inr (.inl ⟨a, xs, i, v, rfl, rfl, SqT.of ha, hv, q⟩)
theorem ixL {i : Int} {v : V} (ha : SqL K H a xs) (j : Nat) (hi : i = (j : Int)) (hv : xs[j]? = some v) (q : Q v H) : Ixs K (.ref a) (.int i) H Q := by
  unfold Ixs; exact .inl ⟨a, xs, i, v, rfl, rfl, ha, atI_of hi hv, q⟩
theorem ixLI {i : Int} {v : V} (ha : SqL K H a xs) (hv : atI xs i = some v) (q : Q v H) : Ixs K (.ref a) (.int i) H Q := by
  unfold Ixs; exact .inl ⟨a, xs, i, v, rfl, rfl, ha, hv, q⟩
theorem isi_int {i : Int} (q : Q (.bl true) H) : Isi K [.int i, .ty "int"] H Q := by
  unfold Isi; exact ⟨_, _, .type "int", _, true, rfl, .ty "int", .base (.int i), kit_ty (by decide +kernel), q⟩
theorem isi_bool {i : Int} (q : Q (.bl false) H) : Isi K [.int i, .ty "bool"] H Q := by
  unfold Isi; exact ⟨_, _, .type "int", _, false, rfl, .ty "bool", .base (.int i), kit_ty (by decide +kernel), q⟩
theorem isi_tuple (h : H a = some (.tup xs)) (q : Q (.bl true) H) : Isi K [.ref a, .ty "tuple"] H Q := by
  unfold Isi; exact ⟨_, _, .type "tuple", _, true, rfl, .ty "tuple", .base (.tup h), kit_ty (by decide +kernel), q⟩
theorem eqD {d e : PyData} (hx : Dp K H x d) (hy : Dp K H y e) (n : Nat) (s : Sh n d) (s' : Sh n e) (hn : n ≤ 64) (q : Q (.bl (PyData.eqv d e)) H) : EqD K x y H Q := by
  unfold EqD; exact ⟨d, e, hx, hy, s.shaped hn, s'.shaped hn, q⟩
theorem neD {d e : PyData} (hx : Dp K H x d) (hy : Dp K H y e) (n : Nat) (s : Sh n d) (s' : Sh n e) (hn : n ≤ 64) (q : Q (.bl (!PyData.eqv d e)) H) : NeD K x y H Q := by
  unfold NeD; exact ⟨d, e, hx, hy, s.shaped hn, s'.shaped hn, q⟩
/-- two that are the same -/
theorem neSame {d : PyData} (n : Nat) (hx : Dp K H x d) (hy : Dp K H y d) (s : Sh n d) (hn : n ≤ 64) (q : Q (.bl false) H) : NeD K x y H Q :=
  neD hx hy n s s hn (by rw [eqv_self s]; exact q)
theorem allB {bs : List Bool} (h : SqL K H a (bs.map V.bl)) (q : Q (.bl (bs.all id)) H) : AllB K [.ref a] H Q := by
  unfold AllB; exact ⟨a, bs, rfl, h, q⟩
theorem anyB {bs : List Bool} (h : SqL K H a (bs.map V.bl)) (q : Q (.bl (bs.any id)) H) : AnyB K [.ref a] H Q := by
  unfold AnyB; exact ⟨a, bs, rfl, h, q⟩
end
theorem lcN {J : It} {n : Nat} {G : Hp → Prop} {Y : Nat → Hp → V → Hp → Prop} (w : Walk J n G Y) {g : TG} {te : TE} {vs : List Nat} {σ : L2.St} {H1 : Hp} {Q : VK} (R : Nat → Hp → V → Prop) (hn : n ≤ 100000)
    (mono : ∀ i H H' v, i < n → Tk H H' → R i H v → R i H' v) (hG : ∀ H, Same H1 H → G H)
    (hs : ∀ i x H H', i < n → Same H1 H → Y i H x H' → ∀ Q : VK, (∀ y H3, Same H H3 → R i H3 y → Q y H3) → g x (wipe σ vs) H' fun σ2 H2 => wipe σ2 vs = wipe σ vs ∧ te σ2 H2 Q)
    (k : ∀ D H' us, H1 D = none → Same H1 H' → H' D = some (.lst us) → us.length = n → (∀ (i : Nat) v, us[i]? = some v → R i H' v) → Q (.ref D) H')
    (gm : ∀ x σ H (Q Q' : L2.St → Hp → Prop), (∀ σ' H', Q σ' H' → Q' σ' H') → g x σ H Q → g x σ H Q') : Lc J g te vs σ Q H1 := by
  unfold Lc
  exact lcW w R hn mono hG hs k gm
/-- a loop over a walk -/
theorem forN {J : It} {n : Nat} {G : Hp → Prop} {Y : Nat → Hp → V → Hp → Prop} (w : Walk J n G Y) {g : TG} {tb : TS} {D : Ends} {σ : L2.St} {H : Hp} (Pv : Nat → L2.St → Hp → Prop) (h0 : Pv 0 σ H) (hG : ∀ i σ H, i ≤ n → Pv i σ H → G H)
    (hs : ∀ i x σ H H', i < n → Pv i σ H → Y i H x H' → g x σ H' fun σ2 H2 => tb { D with nx := Pv (i + 1), ct := Pv (i + 1), bk := D.nx } σ2 H2) (hd : ∀ σ H, Pv n σ H → D.nx σ H) : ForB J g tb D σ H := by
  unfold ForB
  exact for_it w Pv h0 hG hs hd
theorem bls_of {us : List V} (h : ∀ (i : Nat) (v : V), us[i]? = some v → v = .bl true) : us = (List.replicate us.length true).map V.bl := by
  refine List.ext_getElem? fun i => ?_
  by_cases hi : i < us.length
  · rw [List.getElem?_map, List.getElem?_replicate, if_pos hi, List.getElem?_eq_getElem hi, h i _ (List.getElem?_eq_getElem hi)]; rfl
  · rw [List.getElem?_eq_none (by omega), List.getElem?_eq_none (by rw [List.length_map, List.length_replicate]; omega)]
theorem all_rep (n : Nat) : (List.replicate n true).all id = true := by
  rw [List.all_eq_true]
  intro b hb
  exact (List.mem_replicate.mp hb).2
theorem blsF_of {us : List V} (h : ∀ (i : Nat) (v : V), us[i]? = some v → v = .bl false) : us = (List.replicate us.length false).map V.bl := by
  refine List.ext_getElem? fun i => ?_
  by_cases hi : i < us.length
  · rw [List.getElem?_map, List.getElem?_replicate, if_pos hi, List.getElem?_eq_getElem hi, h i _ (List.getElem?_eq_getElem hi)]; rfl
  · rw [List.getElem?_eq_none (by omega), List.getElem?_eq_none (by rw [List.length_map, List.length_replicate]; omega)]
theorem any_rep (n : Nat) : (List.replicate n false).any id = false := by
  rw [List.any_eq_false]
  intro b hb
  rw [(List.mem_replicate.mp hb).2]; decide
theorem cutV_from1 (xs : List V) : cutV xs (some 1) none = xs.tail := by
  unfold cutV
  rw [show HT.sIx xs.length 0 (some 1) = min 1 xs.length from HT.sIx_nat xs.length 0 1, HT.sIx_none]
  cases xs with
  | nil => rfl
  | cons x r =>
    rw [show min 1 (x :: r).length = 1 by rw [List.length_cons]; omega]
    show (List.take ((x :: r).length - 1) r) = r
    rw [List.length_cons, Nat.add_sub_cancel]
    exact List.take_length
/-- the ints that stand in a list of values -/
theorem ints_of {us : List V} {ns : List Int} (hl : us.length = ns.length) (h : ∀ (i : Nat) (v : V), us[i]? = some v → ∃ n, ns[i]? = some n ∧ v = .int n) : us = ns.map V.int := by
  refine List.ext_getElem? fun i => ?_
  by_cases hi : i < us.length
  · obtain ⟨n, h1, h2⟩ := h i _ (List.getElem?_eq_getElem hi)
    rw [List.getElem?_map, h1, List.getElem?_eq_getElem hi, h2]; rfl
  · rw [List.getElem?_eq_none (by omega), List.getElem?_eq_none (by rw [List.length_map]; omega)]
end Bk

set_option Elab.async false
set_option linter.all false
set_option maxRecDepth 100000
namespace Bk
open PySem PySem.Spec PyProof.Rows L2
section
variable {P : Program} {w : World} {K : PySem.W.Frag} {mg : Str → Option Value} {base : Heap} {f : Addr} {fd : FuncData}
/-! ### trimmed -/
/-- tuple(x[:m]) -/
theorem trimEnd {a : Addr} {ns : List Int} {m : Nat} {H : Hp} {Q : VK} {nx : L2.St → Hp → Prop} {σ : L2.St} (ha : H a = some (.tup (ns.map V.int)) ∨ H a = some (.lst (ns.map V.int))) (hm : m ≤ ns.length) (e : ns.take m = trim ns)
    (k : ∀ v' H', Same H H' → Ints H' v' (trim ns) → Q v' H') : tRet (tCB (TupOf K) (tCons (tSl (SlA K) (tVar 0) tNoPart (tPart (tVar 1))) tNil)) { nx := nx, rt := Q } (some (.ref a) :: some (.int (m : Nat)) :: σ) H := by
  have c : cutV (ns.map V.int) none (some (m : Int)) = (trim ns).map V.int := by
    rw [cutV_to _ _ (by rw [List.length_map]; exact hm), ← List.map_take, e]
  refine ⟨_, rfl, _, rfl, m, rfl, ?_⟩
  rcases ha with ha | ha
  · refine slT ha fun p H1 s1 h1 => ?_
    refine tupT h1 fun q H2 s2 h2 => ?_
    exact k _ _ (s1.trans s2) ⟨q, rfl, by rw [h2, c]⟩
  · refine slL (SqL.of ha) fun p H1 n1 s1 h1 => ?_
    refine tupL h1 fun q H2 s2 h2 => ?_
    exact k _ _ (s1.trans s2) ⟨q, rfl, by rw [h2, c]⟩
abbrev sTrimmed : Stmt := top 6
theorem scTrimmed : FnScope ["marks", "count"] ["marks"] (defScope sTrimmed) := ⟨rfl, rfl, rfl, by decide +kernel, rfl, by decide +kernel, by decide +kernel⟩
def spTrim : Sp := fun vs H Q _ => ∃ v ns, vs = [v] ∧ Ints H v ns ∧ ns.length ≤ 10000 ∧ ∀ v' H', Same H H' → Ints H' v' (trim ns) → Q v' H'
theorem ok_trimmed (F : Fn K "trimmed" "trimmed" sTrimmed f fd) (B : Bi mg) : FnOk P w K mg base CX0 1 f fd ["marks"] spTrim := by
  refine ok0 F scTrimmed (fun vs H Q E h => ?_) (fun cdv A outer s H vs Q E hr h => ?_)
  · obtain ⟨v, ns, rfl, _⟩ := h
    rfl
  · obtain ⟨v, ns, rfl, ⟨a, rfl, ha⟩, _, k⟩ := h
    refine ⟨_, pss_cons (ps_set (i := 1) scTrimmed.nd rfl (.inl rfl) (pe_callB call_lenN (by rfl) B.len boot_len (pa_cons (pv 0) pa_nil)))
      (pss_cons (ps_while PassesOwn.never (PW.pt (pw_and (pt_cmpR op_gt (pv 1) pe_int (nomark _)) (pw_and1 (pt_cmpR op_eq (pe_ix ix_N (pv 0) (pe_op op_sub (pv 1) pe_int) (fun _ _ => rfl)) pe_int (nomark _)))))
        (pss_one (ps_aug (i := 1) scTrimmed.nd rfl (.inl rfl) pe_int ip_sub)))
      (pss_one (ps_ret (pe_callTy call_tupN (by rfl) B.tuple boot_tuple' (pa_cons (pe_slice sl_N (pv 0) po_none (po_some (pv 1))) pa_nil))))), ?_⟩
    refine ⟨_, rfl, ?_⟩
    refine lenT ha ?_
    refine ⟨fun m σ H' => σ = [some (.ref a), some (.int m)] ∧ m ≤ ns.length ∧ trim (ns.take m) = trim ns ∧ H' = H, ⟨ns.length, by rw [List.length_map]; rfl, Nat.le_refl _, by rw [List.take_length], rfl⟩, ?_⟩
    rintro m σ H' ⟨rfl, hm, ht, rfl⟩
    refine ⟨_, rfl, _, _, rfl, rfl, _, rfl, ite2 (fun h0 => ?_) (fun h0 => ?_)⟩
    · have h0' : 0 < m := by have := of_decide_eq_true h0; omega
      have hl : m - 1 < ns.length := by omega
      refine ⟨_, rfl, _, rfl, _, _, rfl, rfl, ?_⟩
      refine ixT ha (m - 1) (by omega) (int_at hl) ?_
      refine ⟨rfl, _, rfl, ?_⟩
      have em : m - 1 + 1 = m := by omega
      refine ite2 (fun h1 => ?_) (fun h1 => ?_)
      · have e0 : ns[m - 1] = 0 := by
          have := of_decide_eq_true h1
          exact V.int.inj this
        refine ⟨fun σ' H2 => σ' = [some (.ref a), some (.int ((m : Int) - 1))] ∧ H2 = H', fun σ' H2 q => ⟨m - 1, by omega, ?_, by omega, ?_, q.2⟩, ?_⟩
        · rw [q.1, show ((m - 1 : Nat) : Int) = (m : Int) - 1 by omega]
        · have := trim_take_0 (xs := ns) (n := m - 1) (by rw [List.getElem?_eq_getElem hl, e0])
          rw [em] at this
          rw [← this]; exact ht
        · exact ⟨_, rfl, _, _, rfl, rfl, rfl, rfl⟩
      · refine trimEnd (.inl ha) hm ?_ k
        have e0 : ns[m - 1] ≠ 0 := fun z => h1 (decide_eq_true (by rw [z]))
        have := trim_take_ne (xs := ns) (n := m - 1) (List.getElem?_eq_getElem hl) e0
        rw [em] at this
        rw [← ht, this]
    · have h0' : m = 0 := by
        rcases Nat.eq_zero_or_pos m with z | z
        · exact z
        · exact absurd (decide_eq_true (by omega)) h0
      subst h0'
      exact trimEnd (.inl ha) hm (by rw [← ht]; rfl) k
/-! ### is_number, is_tuple -/
abbrev sIsNum : Stmt := top 12
theorem scIsNum : FnScope ["value", "least", "most"] ["value", "least", "most"] (defScope sIsNum) := ⟨rfl, rfl, rfl, by decide +kernel, rfl, by decide +kernel, by decide +kernel⟩
def spIsNum : Sp := fun vs H Q _ => ∃ i lo hi : Int, vs = [.int i, .int lo, .int hi] ∧ lo ≤ i ∧ i ≤ hi ∧ Q (.bl true) H
theorem ok_isNum (F : Fn K "is_number" "is_number" sIsNum f fd) (B : Bi mg) : FnOk P w K mg base CX0 1 f fd ["value", "least", "most"] spIsNum := by
  refine ok0 F scIsNum (fun vs H Q E h => ?_) (fun cdv A outer s H vs Q E hr h => ?_)
  · obtain ⟨i, lo, hi, rfl, _⟩ := h
    rfl
  · obtain ⟨i, lo, hi, rfl, h1, h2, k⟩ := h
    refine ⟨_, pss_one (ps_ret (pe_and (pe_callB call_isiN (by rfl) B.isi boot_isi' (pa_cons (pv 0) (pa_cons (pe_bltn (v := .ty "int") (by rfl) B.int boot_int' rfl) pa_nil)))
      (pe_and (pe_not (pe_callB call_isiN (by rfl) B.isi boot_isi' (pa_cons (pv 0) (pa_cons (pe_bltn (v := .ty "bool") (by rfl) B.bool boot_bool' rfl) pa_nil))))
        (pe_one (pe_chain op_le op_le (pv 1) (pv 0) (pv 2)))))), ?_⟩
    refine ⟨_, rfl, ?_⟩
    refine isi_int ?_
    refine ⟨true, rfl, _, rfl, ?_⟩
    refine isi_bool ?_
    refine ⟨false, rfl, true, rfl, ?_⟩
    refine ⟨_, rfl, _, rfl, _, _, rfl, rfl, _, rfl, ?_⟩
    rw [decide_eq_true h1]
    refine ⟨_, rfl, _, _, rfl, rfl, ?_⟩
    show Q (.bl (decide (i ≤ hi))) H
    rw [decide_eq_true h2]
    exact k
abbrev sIsTup : Stmt := top 13
theorem scIsTup : FnScope ["value", "count", "least", "most", "one"] ["value", "count", "least", "most"] (defScope sIsTup) := ⟨rfl, rfl, rfl, by decide +kernel, rfl, by decide +kernel, by decide +kernel⟩
def spIsTup : Sp := fun vs H Q _ => ∃ v ns lo hi, vs = [v, .int (ns.length : Nat), .int lo, .int hi] ∧ Ints H v ns ∧ (∀ n ∈ ns, lo ≤ n ∧ n ≤ hi) ∧ ns.length ≤ 1000 ∧ ∀ H', Same H H' → Q (.bl true) H'
theorem ok_isTup (F : Fn K "is_tuple" "is_tuple" sIsTup f fd) (B : Bi mg) (cN : Cal P w K mg base 1 "is_number" spIsNum) : FnOk P w K mg base CX0 2 f fd ["value", "count", "least", "most"] spIsTup := by
  refine ok0 F scIsTup (fun vs H Q E h => ?_) (fun cdv A outer s H vs Q E hr h => ?_)
  · obtain ⟨v, ns, lo, hi, rfl, _⟩ := h
    rfl
  · obtain ⟨v, ns, lo, hi, rfl, ⟨a, rfl, ha⟩, hb, hl, k⟩ := h
    refine ⟨_, pss_one (ps_ret (pe_and (pe_callB call_isiN (by rfl) B.isi boot_isi' (pa_cons (pv 0) (pa_cons (pe_bltn (v := .ty "tuple") (by rfl) B.tuple boot_tuple' rfl) pa_nil)))
      (pe_and (pe_cmpR op_eq (pe_callB call_lenN (by rfl) B.len boot_len (pa_cons (pv 0) pa_nil)) (pv 1) (nomark _))
        (pe_one (pe_callB (cr_allN rfl) (by rfl) B.all boot_all' (pa_cons (pe_lcN (own := [("one", 4)]) (g := gName 4) rfl scIsTup.nd (pi_tup (pv 0)) (blkOk_by (N := ["value", "count", "least", "most", "one"]) (sc := defScope sIsTup) (by decide +kernel))
          (fun _ _ _ _ _ => pg_name (i := 4) scIsTup.nd rfl (Or.inl rfl)) (fun _ _ _ _ _ => pe_cal cN hr (by decide) (by rfl) (pa_cons (pv 4) (pa_cons (pv 2) (pa_cons (pv 3) pa_nil))))) pa_nil)))))), ?_⟩
    refine ⟨_, rfl, ?_⟩
    refine isi_tuple ha ?_
    refine ⟨true, rfl, _, rfl, ?_⟩
    refine lenT ha ?_
    refine ⟨_, rfl, rfl, true, by rw [List.length_map, decide_eq_true rfl], ?_⟩
    refine ⟨_, rfl, a, rfl, ⟨_, SqT.of ha⟩, ?_⟩
    refine lcN (walk_tup (xs := ns.map V.int)) (fun _ _ v => v = .bl true) (by rw [List.length_map]; omega) (fun _ _ _ _ _ _ h => h) (fun H' s => s.seqT (SqT.of ha)) ?_ ?_ gm_name
    · rintro i x H1 H2 hi s ⟨rfl, hx⟩ Q' kq
      obtain ⟨n, hn, rfl⟩ : ∃ n ∈ ns, x = .int n := by
        rw [List.getElem?_map] at hx
        obtain ⟨n, e1, e2⟩ := Option.map_eq_some_iff.mp hx
        exact ⟨n, List.mem_of_getElem? e1, e2.symm⟩
      refine ⟨rfl, _, rfl, _, rfl, _, rfl, n, lo, _, rfl, (hb n hn).1, (hb n hn).2, kq _ _ (Same.refl _) rfl⟩
    · intro D H1 us hD s hu hlen hall
      refine allB (bs := List.replicate us.length true) ?_ ?_
      · rw [← bls_of hall]; exact SqL.of hu
      · rw [all_rep]; exact k _ s
end
end Bk

set_option Elab.async false
set_option linter.all false
set_option maxRecDepth 100000
namespace Bk
open PySem PySem.Spec PyProof.Rows L2
section
variable {P : Program} {w : World} {K : PySem.W.Frag} {mg : Str → Option Value} {base : Heap} {f : Addr} {fd : FuncData}
def spMoved : Sp := fun vs H Q _ => ∃ v t i, vs = [v, .int i] ∧ TpAt H v t ∧ t.l.length ≤ 1000 ∧ t.r.length ≤ 1000 ∧ ∀ v' H', Same H H' → TpAt H' v' (moved t i) → Q v' H'
/-! ### moved_tape -/
abbrev sMoved : Stmt := top 19
theorem scsMoved : FnScope ["tape", "move", "left", "mark", "right"] ["tape", "move"] (defScope sMoved) := ⟨rfl, rfl, rfl, by decide +kernel, rfl, by decide +kernel, by decide +kernel⟩
theorem ok_sMoved (F : Fn K "moved_tape" "moved_tape" sMoved f fd) (cT : Cal P w K mg base 1 "trimmed" spTrim) : FnOk P w K mg base CX0 2 f fd ["tape", "move"] spMoved := by
  refine ok0 F scsMoved (fun vs H Q E h => ?_) (fun cdv A outer s H vs Q E hr h => ?_)
  · obtain ⟨v, t, i, rfl, _⟩ := h
    rfl
  · obtain ⟨v, ⟨l, m, r⟩, i, rfl, ⟨a, x, y, rfl, ha, ⟨p, rfl, hp⟩, ⟨q, rfl, hq⟩⟩, bl, br, k⟩ := h
    refine ⟨_, pss_cons (ps_asg (pv 0) (pg_tup rfl (pgs_cons (pg_name (i := 2) scsMoved.nd rfl (.inl rfl)) (pgs_cons (pg_name (i := 3) scsMoved.nd rfl (.inl rfl)) (pgs_cons (pg_name (i := 4) scsMoved.nd rfl (.inl rfl)) pgs_nil)))))
      (pss_cons (ps_if (pt_cmpR op_eq (pv 1) pe_int (nomark _)) (pss_one (ps_ret (pe_tupN (pa_cons (pe_cal cT hr (by decide) (by rfl) (pa_cons (pe_op op_catN (pe_tupN (pa_cons (pv 3) pa_nil)) (pv 2)) pa_nil))
          (pa_cons (pe_ix ix_N (pe_op op_catN (pv 4) (pe_tupN (pa_cons pe_int pa_nil))) pe_int (fun _ _ => rfl)) (pa_cons (pe_slice sl_N (pv 4) (po_some pe_int) po_none) pa_nil)))))) pss_nil)
      (pss_cons (ps_if (pt_cmpR op_eq (pv 1) (pe_un un_neg pe_int) (nomark _)) (pss_one (ps_ret (pe_tupN (pa_cons (pe_slice sl_N (pv 2) (po_some pe_int) po_none)
          (pa_cons (pe_ix ix_N (pe_op op_catN (pv 2) (pe_tupN (pa_cons pe_int pa_nil))) pe_int (fun _ _ => rfl)) (pa_cons (pe_cal cT hr (by decide) (by rfl) (pa_cons (pe_op op_catN (pe_tupN (pa_cons (pv 3) pa_nil)) (pv 4)) pa_nil)) pa_nil)))))) pss_nil)
      (pss_one (ps_ret (pv 0))))), ?_⟩
    refine ⟨_, rfl, a, _, rfl, SqT.of ha, rfl, _, _, rfl, _, _, rfl, _, _, rfl, rfl, ?_⟩
    refine ⟨_, rfl, rfl, _, rfl, ite2 (fun h1 => ?_) (fun h1 => ?_)⟩
    · obtain rfl : i = 1 := V.int.inj (of_decide_eq_true h1)
      refine ⟨_, rfl, ?_⟩
      refine nTup (by simp) fun u H1 n1 s1 h1 => ?_
      refine ⟨_, rfl, ?_⟩
      refine catA h1 (s1 _ _ hp) (by rw [List.length_map]; show 1 + l.length ≤ 100000; dsimp only at bl; omega) fun u2 H2 s2 h2 => ?_
      refine ⟨_, m :: l, rfl, ⟨u2, rfl, h2⟩, by dsimp only at bl; show l.length + 1 ≤ 10000; omega, fun tv H3 s3 ht => ?_⟩
      have S3 := (s1.trans s2).trans s3
      refine ⟨_, rfl, ?_⟩
      refine nTup (by simp) fun u4 H4 n4 s4 h4 => ?_
      refine catA (s4 _ _ (S3 _ _ hq)) h4 (by rw [List.length_map]; show r.length + 1 ≤ 100000; dsimp only at br; omega) fun u5 H5 s5 h5 => ?_
      refine ixT h5 0 rfl (v := .int (r.headD 0)) (by cases r <;> rfl) ?_
      have S5 := (S3.trans s4).trans s5
      refine ⟨_, rfl, 1, rfl, ?_⟩
      refine slT (S5 _ _ hq) fun u6 H6 s6 h6 => ?_
      refine nTup (by simp) fun u7 H7 n7 s7 h7 => ?_
      refine k _ _ ((S5.trans s6).trans s7) ⟨u7, _, _, rfl, h7, ht.mono (((s4.trans s5).trans s6).trans s7).tk, ⟨u6, rfl, ?_⟩⟩
      rw [s7 _ _ h6, cutV_from1]
      cases r <;> rfl
    · have n1 : i ≠ 1 := fun e => h1 (decide_eq_true (by rw [e]))
      refine ⟨_, rfl, _, rfl, rfl, _, rfl, ite2 (fun h2 => ?_) (fun h2 => ?_)⟩
      · obtain rfl : i = -1 := V.int.inj (of_decide_eq_true h2)
        refine ⟨_, rfl, 1, rfl, ?_⟩
        refine slT hp fun u1 H1 s1 h1 => ?_
        refine ⟨_, rfl, ?_⟩
        refine nTup (by simp) fun u2 H2 n2 s2 h2 => ?_
        refine catA (s2 _ _ (s1 _ _ hp)) h2 (by rw [List.length_map]; show l.length + 1 ≤ 100000; dsimp only at bl; omega) fun u3 H3 s3 h3 => ?_
        refine ixT h3 0 rfl (v := .int (l.headD 0)) (by cases l <;> rfl) ?_
        have S3 := (s1.trans s2).trans s3
        refine ⟨_, rfl, ?_⟩
        refine nTup (by simp) fun u4 H4 n4 s4 h4 => ?_
        refine ⟨_, rfl, ?_⟩
        refine catA h4 (s4 _ _ (S3 _ _ hq)) (by rw [List.length_map]; show 1 + r.length ≤ 100000; dsimp only at br; omega) fun u5 H5 s5 h5 => ?_
        refine ⟨_, m :: r, rfl, ⟨u5, rfl, h5⟩, by dsimp only at br; show r.length + 1 ≤ 10000; omega, fun tv H6 s6 ht => ?_⟩
        have S6 := ((S3.trans s4).trans s5).trans s6
        refine nTup (by simp) fun u7 H7 n7 s7 h7 => ?_
        refine k _ _ (S6.trans s7) ⟨u7, _, _, rfl, h7, ⟨u1, rfl, ?_⟩, ht.mono s7.tk⟩
        rw [(((((s2.trans s3).trans s4).trans s5).trans s6).trans s7) _ _ h1, cutV_from1]
        cases l <;> rfl
      · have n2 : i ≠ -1 := fun e => h2 (decide_eq_true (by rw [e]))
        refine ⟨_, rfl, k _ _ (Same.refl _) ?_⟩
        unfold moved
        rw [if_neg n1, if_neg n2]
        exact ⟨a, _, _, rfl, ha, ⟨p, rfl, hp⟩, ⟨q, rfl, hq⟩⟩
/-! ### _law_moved -/
abbrev sLMoved : Stmt := top 36
theorem scsLMoved : FnScope ["_law_tape", "_law_move", "_law_left", "_law_mark_here", "_law_right"] ["_law_tape", "_law_move"] (defScope sLMoved) := ⟨rfl, rfl, rfl, by decide +kernel, rfl, by decide +kernel, by decide +kernel⟩
theorem ok_sLMoved (F : Fn K "_law_moved" "_law_moved" sLMoved f fd) (cT : Cal P w K mg base 1 "_law_trim" spTrim) : FnOk P w K mg base CX0 2 f fd ["_law_tape", "_law_move"] spMoved := by
  refine ok0 F scsLMoved (fun vs H Q E h => ?_) (fun cdv A outer s H vs Q E hr h => ?_)
  · obtain ⟨v, t, i, rfl, _⟩ := h
    rfl
  · obtain ⟨v, ⟨l, m, r⟩, i, rfl, ⟨a, x, y, rfl, ha, ⟨p, rfl, hp⟩, ⟨q, rfl, hq⟩⟩, bl, br, k⟩ := h
    refine ⟨_, pss_cons (ps_asg (pv 0) (pg_tup rfl (pgs_cons (pg_name (i := 2) scsLMoved.nd rfl (.inl rfl)) (pgs_cons (pg_name (i := 3) scsLMoved.nd rfl (.inl rfl)) (pgs_cons (pg_name (i := 4) scsLMoved.nd rfl (.inl rfl)) pgs_nil)))))
      (pss_cons (ps_if (pt_cmpR op_eq (pv 1) pe_int (nomark _)) (pss_one (ps_ret (pe_tupN (pa_cons (pe_cal cT hr (by decide) (by rfl) (pa_cons (pe_op op_catN (pe_tupN (pa_cons (pv 3) pa_nil)) (pv 2)) pa_nil))
          (pa_cons (pe_ix ix_N (pe_op op_catN (pv 4) (pe_tupN (pa_cons pe_int pa_nil))) pe_int (fun _ _ => rfl)) (pa_cons (pe_slice sl_N (pv 4) (po_some pe_int) po_none) pa_nil)))))) pss_nil)
      (pss_cons (ps_if (pt_cmpR op_eq (pv 1) (pe_un un_neg pe_int) (nomark _)) (pss_one (ps_ret (pe_tupN (pa_cons (pe_slice sl_N (pv 2) (po_some pe_int) po_none)
          (pa_cons (pe_ix ix_N (pe_op op_catN (pv 2) (pe_tupN (pa_cons pe_int pa_nil))) pe_int (fun _ _ => rfl)) (pa_cons (pe_cal cT hr (by decide) (by rfl) (pa_cons (pe_op op_catN (pe_tupN (pa_cons (pv 3) pa_nil)) (pv 4)) pa_nil)) pa_nil)))))) pss_nil)
      (pss_one (ps_ret (pv 0))))), ?_⟩
    refine ⟨_, rfl, a, _, rfl, SqT.of ha, rfl, _, _, rfl, _, _, rfl, _, _, rfl, rfl, ?_⟩
    refine ⟨_, rfl, rfl, _, rfl, ite2 (fun h1 => ?_) (fun h1 => ?_)⟩
    · obtain rfl : i = 1 := V.int.inj (of_decide_eq_true h1)
      refine ⟨_, rfl, ?_⟩
      refine nTup (by simp) fun u H1 n1 s1 h1 => ?_
      refine ⟨_, rfl, ?_⟩
      refine catA h1 (s1 _ _ hp) (by rw [List.length_map]; show 1 + l.length ≤ 100000; dsimp only at bl; omega) fun u2 H2 s2 h2 => ?_
      refine ⟨_, m :: l, rfl, ⟨u2, rfl, h2⟩, by dsimp only at bl; show l.length + 1 ≤ 10000; omega, fun tv H3 s3 ht => ?_⟩
      have S3 := (s1.trans s2).trans s3
      refine ⟨_, rfl, ?_⟩
      refine nTup (by simp) fun u4 H4 n4 s4 h4 => ?_
      refine catA (s4 _ _ (S3 _ _ hq)) h4 (by rw [List.length_map]; show r.length + 1 ≤ 100000; dsimp only at br; omega) fun u5 H5 s5 h5 => ?_
      refine ixT h5 0 rfl (v := .int (r.headD 0)) (by cases r <;> rfl) ?_
      have S5 := (S3.trans s4).trans s5
      refine ⟨_, rfl, 1, rfl, ?_⟩
      refine slT (S5 _ _ hq) fun u6 H6 s6 h6 => ?_
      refine nTup (by simp) fun u7 H7 n7 s7 h7 => ?_
      refine k _ _ ((S5.trans s6).trans s7) ⟨u7, _, _, rfl, h7, ht.mono (((s4.trans s5).trans s6).trans s7).tk, ⟨u6, rfl, ?_⟩⟩
      rw [s7 _ _ h6, cutV_from1]
      cases r <;> rfl
    · have n1 : i ≠ 1 := fun e => h1 (decide_eq_true (by rw [e]))
      refine ⟨_, rfl, _, rfl, rfl, _, rfl, ite2 (fun h2 => ?_) (fun h2 => ?_)⟩
      · obtain rfl : i = -1 := V.int.inj (of_decide_eq_true h2)
        refine ⟨_, rfl, 1, rfl, ?_⟩
        refine slT hp fun u1 H1 s1 h1 => ?_
        refine ⟨_, rfl, ?_⟩
        refine nTup (by simp) fun u2 H2 n2 s2 h2 => ?_
        refine catA (s2 _ _ (s1 _ _ hp)) h2 (by rw [List.length_map]; show l.length + 1 ≤ 100000; dsimp only at bl; omega) fun u3 H3 s3 h3 => ?_
        refine ixT h3 0 rfl (v := .int (l.headD 0)) (by cases l <;> rfl) ?_
        have S3 := (s1.trans s2).trans s3
        refine ⟨_, rfl, ?_⟩
        refine nTup (by simp) fun u4 H4 n4 s4 h4 => ?_
        refine ⟨_, rfl, ?_⟩
        refine catA h4 (s4 _ _ (S3 _ _ hq)) (by rw [List.length_map]; show 1 + r.length ≤ 100000; dsimp only at br; omega) fun u5 H5 s5 h5 => ?_
        refine ⟨_, m :: r, rfl, ⟨u5, rfl, h5⟩, by dsimp only at br; show r.length + 1 ≤ 10000; omega, fun tv H6 s6 ht => ?_⟩
        have S6 := ((S3.trans s4).trans s5).trans s6
        refine nTup (by simp) fun u7 H7 n7 s7 h7 => ?_
        refine k _ _ (S6.trans s7) ⟨u7, _, _, rfl, h7, ⟨u1, rfl, ?_⟩, ht.mono s7.tk⟩
        rw [(((((s2.trans s3).trans s4).trans s5).trans s6).trans s7) _ _ h1, cutV_from1]
        cases l <;> rfl
      · have n2 : i ≠ -1 := fun e => h2 (decide_eq_true (by rw [e]))
        refine ⟨_, rfl, k _ _ (Same.refl _) ?_⟩
        unfold moved
        rw [if_neg n1, if_neg n2]
        exact ⟨a, _, _, rfl, ha, ⟨p, rfl, hp⟩, ⟨q, rfl, hq⟩⟩

/-! ### backward -/
abbrev sBackward : Stmt := top 14
theorem scBackward : FnScope ["row", "move"] ["row"] (defScope sBackward) := ⟨rfl, rfl, rfl, by decide +kernel, rfl, by decide +kernel, by decide +kernel⟩
def spBackward : Sp := fun vs H Q _ => ∃ v r n, vs = [v] ∧ RwAt H v r ∧ RowK n r ∧ n ≤ 4 ∧ ∀ v' H', Same H H' → RwAt H' v' r.bw → Q v' H'
theorem mv_wr : ¬ (V.str ("move" : Str) = V.str "write") := by
  intro h
  exact absurd (V.str.inj h) (by decide +kernel)
theorem ok_backward (F : Fn K "backward" "backward" sBackward f fd) (B : Bi mg) : FnOk P w K mg base CX0 1 f fd ["row"] spBackward := by
  refine ok0 F scBackward (fun vs H Q E h => ?_) (fun cdv A outer s H vs Q E hr h => ?_)
  · obtain ⟨v, r, n, rfl, _⟩ := h
    rfl
  · obtain ⟨v, r, n, rfl, hr, hk, hn, k⟩ := h
    refine ⟨_, pss_cons (ps_if (pt_cmpR op_eq (pe_ix ix_N (pv 0) pe_int (fun _ _ => rfl)) pe_str (nomark _))
        (pss_one (ps_ret (pe_tupN (pa_cons pe_str (pa_cons (pe_ix ix_N (pv 0) pe_int (fun _ _ => rfl)) (pa_cons (pe_ix ix_N (pv 0) pe_int (fun _ _ => rfl)) (pa_cons (pe_ix ix_N (pv 0) pe_int (fun _ _ => rfl)) (pa_cons (pe_ix ix_N (pv 0) pe_int (fun _ _ => rfl)) pa_nil)))))))) pss_nil)
      (pss_one (ps_ret (pe_tupN (pa_cons pe_str (pa_cons (pe_ix ix_N (pv 0) pe_int (fun _ _ => rfl)) (pa_cons
        (pe_callTy call_tupN (by rfl) B.tuple boot_tuple' (pa_cons (pe_lcN (own := [("move", 1)]) (g := gName 1) rfl scBackward.nd (pi_tup (pe_ix ix_N (pv 0) pe_int (fun _ _ => rfl))) (blkOk_by (N := ["row", "move"]) (sc := defScope sBackward) (by decide +kernel))
          (fun _ _ _ _ _ => pg_name (i := 1) scBackward.nd rfl (Or.inl rfl)) (fun _ _ _ _ _ => pe_un un_neg (pv 1))) pa_nil)) (pa_cons (pe_ix ix_N (pv 0) pe_int (fun _ _ => rfl)) pa_nil))))))), ?_⟩
    cases r with
    | wr q rs ws t =>
      obtain ⟨a, x, y, rfl, ha, hx, hy⟩ := hr
      refine ⟨_, rfl, ?_⟩
      refine ixT ha 0 rfl rfl ?_
      refine ⟨rfl, _, rfl, ite2 (fun h1 => ?_) (fun h1 => absurd (decide_eq_true rfl) h1)⟩
      refine ⟨_, rfl, ?_⟩
      refine ixT ha 4 rfl rfl ?_
      refine ⟨_, rfl, ?_⟩
      refine ixT ha 3 rfl rfl ?_
      refine ⟨_, rfl, ?_⟩
      refine ixT ha 2 rfl rfl ?_
      refine ⟨_, rfl, ?_⟩
      refine ixT ha 1 rfl rfl ?_
      refine nTup (by simp) fun p H1 n1 s1 h1 => ?_
      exact k _ _ s1 ⟨p, _, _, rfl, h1, hy.mono s1.tk, hx.mono s1.tk⟩
    | mv q ms t =>
      obtain ⟨a, x, rfl, ha, b, rfl, hb⟩ := hr
      refine ⟨_, rfl, ?_⟩
      refine ixT ha 0 rfl rfl ?_
      refine ⟨rfl, _, rfl, ite2 (fun h1 => absurd (of_decide_eq_true h1) mv_wr) (fun h1 => ?_)⟩
      refine ⟨_, rfl, ?_⟩
      refine ixT ha 3 rfl rfl ?_
      refine ⟨_, rfl, ?_⟩
      refine ixT ha 2 rfl rfl ?_
      refine ⟨b, rfl, ⟨_, SqT.of hb⟩, ?_⟩
      refine lcN (walk_tup (xs := ms.map V.int)) (fun i _ v => ∃ n, (ms.map fun v => -v)[i]? = some n ∧ v = .int n) (by rw [List.length_map, hk.1]; omega) (fun _ _ _ _ _ _ h => h) (fun H' s => s.seqT (SqT.of hb)) ?_ ?_ gm_name
      · rintro i x H1 H2 hi s ⟨rfl, hx⟩ Q' kq
        rw [List.getElem?_map] at hx
        obtain ⟨n, e1, e2⟩ := Option.map_eq_some_iff.mp hx
        subst e2
        exact ⟨rfl, _, rfl, n, rfl, kq _ _ (Same.refl _) ⟨-n, by rw [List.getElem?_map, e1]; rfl, rfl⟩⟩
      · intro D H1 us hD s hu hlen hall
        have e := ints_of (ns := ms.map fun v => -v) (by rw [hlen, List.length_map, List.length_map]) hall
        refine tupL hu fun p H2 s2 h2 => ?_
        have S2 := s.trans s2
        refine ⟨_, rfl, ?_⟩
        refine ixT (S2 _ _ ha) 1 rfl rfl ?_
        refine nTup (by simp) fun p3 H3 n3 s3 h3 => ?_
        refine k _ _ (S2.trans s3) ⟨p3, _, rfl, h3, p, rfl, ?_⟩
        rw [s3 _ _ h2, e]
end
end Bk

set_option Elab.async false
set_option linter.all false
set_option maxRecDepth 100000
namespace Bk
open PySem PySem.Spec PyProof.Rows L2
section
variable {K : PySem.W.Frag} {H : Hp} {a : Addr} {xs : List V} {Q : VK}
theorem lenX (ha : H a = some (.tup xs) ∨ H a = some (.lst xs)) (q : Q (.int xs.length) H) : LenS K [.ref a] H Q := by
  rcases ha with h | h
  · exact lenT h q
  · exact lenL (SqL.of h) q
theorem ixX {i : Int} {v : V} (ha : H a = some (.tup xs) ∨ H a = some (.lst xs)) (j : Nat) (hi : i = (j : Int)) (hv : xs[j]? = some v) (q : Q v H) : Ixs K (.ref a) (.int i) H Q := by
  rcases ha with h | h
  · exact ixT h j hi hv q
  · exact ixL (SqL.of h) j hi hv q
end
section
variable {P : Program} {w : World} {K : PySem.W.Frag} {mg : Str → Option Value} {base : Heap} {f : Addr} {fd : FuncData}
/-! ### _law_trim -/
abbrev sLTrim : Stmt := top 34
theorem scLTrim : FnScope ["_law_row_here", "_law_end", "_law_k"] ["_law_row_here"] (defScope sLTrim) := ⟨rfl, rfl, rfl, by decide +kernel, rfl, by decide +kernel, by decide +kernel⟩
def spLTrim : Sp := fun vs H Q _ => ∃ a ns, vs = [.ref a] ∧ (H a = some (.tup (ns.map V.int)) ∨ H a = some (.lst (ns.map V.int))) ∧ ns.length ≤ 10000 ∧ ∀ v' H', Same H H' → Ints H' v' (trim ns) → Q v' H'
theorem ok_lTrim (F : Fn K "_law_trim" "_law_trim" sLTrim f fd) (B : Bi mg) : FnOk P w K mg base CX0 1 f fd ["_law_row_here"] spLTrim := by
  refine ok0 F scLTrim (fun vs H Q E h => ?_) (fun cdv A outer s H vs Q E hr h => ?_)
  · obtain ⟨v, ns, rfl, _⟩ := h
    rfl
  · obtain ⟨a, ns, rfl, ha, hl, k⟩ := h
    refine ⟨_, pss_cons (ps_set (i := 1) scLTrim.nd rfl (.inl rfl) (pe_callB call_lenN (by rfl) B.len boot_len (pa_cons (pv 0) pa_nil)))
      (pss_cons (ps_forN PassesOwn.never rfl (pi_range1 (by rfl) B.range (pa_cons (pe_callB call_lenN (by rfl) B.len boot_len (pa_cons (pv 0) pa_nil)) pa_nil)) (pg_name (i := 2) scLTrim.nd rfl (.inl rfl))
        (pss_one (ps_if (PW.pt (pw_and (pt_cmpR op_gt (pv 1) pe_int (nomark _)) (pw_and1 (pt_cmpR op_eq (pe_ix ix_N (pv 0) (pe_op op_sub (pv 1) pe_int) (fun _ _ => rfl)) pe_int (nomark _)))))
          (pss_one (ps_set (i := 1) scLTrim.nd rfl (.inl rfl) (pe_op op_sub (pv 1) pe_int))) pss_nil)))
      (pss_one (ps_ret (pe_callTy call_tupN (by rfl) B.tuple boot_tuple' (pa_cons (pe_slice sl_N (pv 0) po_none (po_some (pv 1))) pa_nil))))), ?_⟩
    refine ⟨_, rfl, ?_⟩
    refine lenX ha ?_
    refine ⟨_, rfl, ?_⟩
    refine lenX ha ?_
    have en : ((((ns.map V.int).length : Nat) : Int)).toNat = ns.length := by rw [List.length_map]; rfl
    refine ⟨_, rfl, by omega, by rw [List.length_map]; omega, ?_⟩
    rw [en, List.length_map]
    refine forN walk_range (fun i σ H' => ∃ (e : Nat) (v : Option V), σ = [some (.ref a), some (.int e), v] ∧ e ≤ ns.length ∧ trim (ns.take e) = trim ns ∧ (e + i = ns.length ∨ ns.take e = trim ns) ∧ H' = H)
      ⟨ns.length, none, rfl, Nat.le_refl _, by rw [List.take_length], .inl rfl, rfl⟩ (fun _ _ _ _ _ => trivial) ?_ ?_
    · rintro i x σ H1 H2 hi ⟨e, v, rfl, he, ht, hd, rfl⟩ ⟨rfl, rfl⟩
      refine ⟨_, rfl, _, _, rfl, rfl, _, rfl, ite2 (fun h0 => ?_) (fun h0 => ?_)⟩
      · have h0' : 0 < e := by have := of_decide_eq_true h0; omega
        have hl : e - 1 < ns.length := by omega
        have em : e - 1 + 1 = e := by omega
        refine ⟨_, rfl, _, rfl, _, _, rfl, rfl, ?_⟩
        refine ixX ha (e - 1) (by omega) (int_at hl) ?_
        refine ⟨rfl, _, rfl, ite2 (fun h1 => ?_) (fun h1 => ?_)⟩
        · have e0 : ns[e - 1] = 0 := V.int.inj (of_decide_eq_true h1)
          have q := trim_take_0 (xs := ns) (n := e - 1) (by rw [List.getElem?_eq_getElem hl, e0])
          rw [em] at q
          refine ⟨_, rfl, _, _, rfl, rfl, e - 1, some (.int (0 + (i : Int))), ?_, by omega, by rw [← q, ht], ?_, rfl⟩
          · show [some (V.ref a), some (V.int ((e : Int) - 1)), some (V.int (0 + (i : Int)))] = _
            rw [show ((e - 1 : Nat) : Int) = (e : Int) - 1 by omega]
          · rcases hd with hd | hd
            · exact .inl (by omega)
            · exfalso
              have q1 : (trim (ns.take e)).length ≤ e - 1 := by
                rw [q]
                refine Nat.le_trans (trim_length _) ?_
                rw [List.length_take]
                exact Nat.min_le_left _ _
              rw [ht, ← hd, List.length_take] at q1
              omega
        · have e0 : ns[e - 1] ≠ 0 := fun z => h1 (decide_eq_true (by rw [z]))
          have q := trim_take_ne (xs := ns) (n := e - 1) (List.getElem?_eq_getElem hl) e0
          rw [em] at q
          exact ⟨e, _, rfl, he, ht, .inr (by rw [← ht, q]), rfl⟩
      · have h0' : e = 0 := by
          rcases Nat.eq_zero_or_pos e with z | z
          · exact z
          · exact absurd (decide_eq_true (by omega)) h0
        subst h0'
        exact ⟨0, _, rfl, he, ht, .inr (by rw [← ht]; rfl), rfl⟩
    · rintro σ H1 ⟨e, v, rfl, he, ht, hd, rfl⟩
      refine trimEnd ha he ?_ k
      rcases hd with hd | hd
      · have h0 : e = 0 := by omega
        subst h0
        rw [← ht]; rfl
      · exact hd
/-- as the moves take it -/
theorem cal_trim (c : Cal P w K mg base 1 "_law_trim" spLTrim) : Cal P w K mg base 1 "_law_trim" spTrim := by
  obtain ⟨f, fd, ps, F, h1, h2, h3⟩ := c.ex
  refine ⟨f, fd, ps, F.imp ?_, h1, h2, h3⟩
  rintro vs H Q E ⟨v, ns, rfl, ⟨a, rfl, ha⟩, hl, k⟩
  exact ⟨a, ns, rfl, .inl ha, hl, k⟩
/-! ### _law_cell -/
abbrev sLCell : Stmt := top 26
theorem scLCell : FnScope ["_law_script", "_law_k"] ["_law_script", "_law_k"] (defScope sLCell) := ⟨rfl, rfl, rfl, by decide +kernel, rfl, by decide +kernel, by decide +kernel⟩
def spLCell (K : PySem.W.Frag) : Sp := fun vs H Q _ => ∃ (a : Addr) (ns : List Int) (j : Nat), vs = [.ref a, .int (j : Nat)] ∧ SqL K H a (ns.map V.int) ∧ ∀ i, Q (.int i) H
theorem ok_lCell (F : Fn K "_law_cell" "_law_cell" sLCell f fd) (B : Bi mg) : FnOk P w K mg base CX0 1 f fd ["_law_script", "_law_k"] (spLCell K) := by
  refine ok0 F scLCell (fun vs H Q E h => ?_) (fun cdv A outer s H vs Q E hr h => ?_)
  · obtain ⟨a, ns, j, rfl, _⟩ := h
    rfl
  · obtain ⟨a, ns, j, rfl, ha, k⟩ := h
    refine ⟨_, pss_cons (ps_if (pt_cmpR op_lt (pv 1) (pe_callB call_lenN (by rfl) B.len boot_len (pa_cons (pv 0) pa_nil)) (nomark _)) (pss_one (ps_ret (pe_ix ix_N (pv 0) (pv 1) (fun _ _ => rfl)))) pss_nil) (pss_one (ps_ret pe_int)), ?_⟩
    refine ⟨_, rfl, _, rfl, ?_⟩
    refine lenL ha ?_
    refine ⟨_, _, rfl, rfl, _, rfl, ite2 (fun h1 => ?_) (fun h1 => k 0)⟩
    have hl : j < ns.length := by
      have := of_decide_eq_true h1
      rw [List.length_map] at this
      omega
    refine ⟨_, rfl, _, rfl, ?_⟩
    refine ixL ha j rfl (int_at hl) (k _)
/-! ### _law_mixed -/
abbrev sLMixed : Stmt := top 27
theorem scLMixed : FnScope ["_law_cell_here", "_law_k", "_law_first", "_law_second"] ["_law_cell_here", "_law_k"] (defScope sLMixed) := ⟨rfl, rfl, rfl, by decide +kernel, rfl, by decide +kernel, by decide +kernel⟩
def spLMixed : Sp := fun vs H Q _ => ∃ c j, vs = [.int c, .int j] ∧ ∀ i : Int, Q (.int i) H
theorem ok_lMixed (F : Fn K "_law_mixed" "_law_mixed" sLMixed f fd) (B : Bi mg) : FnOk P w K mg base CX0 1 f fd ["_law_cell_here", "_law_k"] spLMixed := by
  refine ok0 F scLMixed (fun vs H Q E h => ?_) (fun cdv A outer s H vs Q E hr h => ?_)
  · obtain ⟨c, j, rfl, _⟩ := h
    rfl
  · obtain ⟨c, j, rfl, k⟩ := h
    have hI : ∀ {X : Cx}, CallR X (.type "int") (fun xs H Q => (∃ i, xs = [.int i] ∧ Q (.int i) H) ∨ ∃ k, xs = [.bl k] ∧ Q (.int (if k then 1 else 0)) H) := call_int1
    refine ⟨_, pss_cons (ps_set (i := 2) scLMixed.nd rfl (.inl rfl) (pe_op op_mod (pe_callTy hI (by rfl) B.int boot_int' (pa_cons (pe_op op_add (pe_op op_add (pe_op op_mul (pe_callTy hI (by rfl) B.int boot_int' (pa_cons (pv 0) pa_nil)) pe_int) (pe_op op_mul (pv 1) pe_int)) pe_int) pa_nil)) pe_int))
      (pss_cons (ps_set (i := 3) scLMixed.nd rfl (.inl rfl) (pe_op op_mod (pe_callTy hI (by rfl) B.int boot_int' (pa_cons (pe_op op_add (pe_op op_add (pe_op op_mul (pv 2) pe_int) (pe_op op_mul (pe_op op_add (pv 1) pe_int) pe_int)) pe_int) pa_nil)) pe_int))
      (pss_one (ps_ret (pe_op op_fdiv (pv 3) pe_int)))), ?_⟩
    refine ⟨_, rfl, .inl ⟨_, rfl, _, _, rfl, rfl, .inr ⟨by decide, by decide⟩, _, rfl, _, _, rfl, rfl, .inr ⟨by decide, by decide⟩, _, _, rfl, rfl, _, _, rfl, rfl, .inl ⟨_, rfl, _, _, rfl, rfl, (by show (0 : Int) < 2147483647; decide), ?_⟩⟩⟩
    refine ⟨_, rfl, _, _, rfl, rfl, .inr ⟨by decide, by decide⟩, _, rfl, _, _, rfl, rfl, _, _, rfl, rfl, .inr ⟨by decide, by decide⟩, _, _, rfl, rfl, _, _, rfl, rfl, .inl ⟨_, rfl, _, _, rfl, rfl, (by show (0 : Int) < 2147483563; decide), ?_⟩⟩
    exact ⟨_, rfl, _, _, rfl, rfl, ⟨by decide, by decide⟩, k _⟩
end
end Bk

set_option Elab.async false
set_option linter.all false
set_option maxRecDepth 100000
namespace Bk
open PySem PySem.Spec PyProof.Rows L2
/-- a row of a machine with such sizes -/
def RowV (k : Nat) (m s : Int) : Row → Prop
  | .mv q ms t => (ms.length = k ∧ ∀ v ∈ ms, -1 ≤ v ∧ v ≤ 1) ∧ (0 ≤ q ∧ q ≤ s - 1) ∧ (0 ≤ t ∧ t ≤ s - 1)
  | .wr q rs ws t => (rs.length = k ∧ ∀ v ∈ rs, 0 ≤ v ∧ v ≤ m - 1) ∧ (ws.length = k ∧ ∀ v ∈ ws, 0 ≤ v ∧ v ≤ m - 1) ∧ (0 ≤ q ∧ q ≤ s - 1) ∧ (0 ≤ t ∧ t ≤ s - 1)
theorem RowV.k {k : Nat} {m s : Int} {r : Row} (h : RowV k m s r) : RowK k r := by
  cases r with
  | mv q ms t => exact ⟨h.1.1, fun v hv => by have := h.1.2 v hv; omega⟩
  | wr q rs ws t => exact ⟨h.1.1, h.2.1.1⟩
theorem RowV.bw {k : Nat} {m s : Int} {r : Row} (h : RowV k m s r) : RowV k m s r.bw := by
  cases r with
  | mv q ms t =>
    refine ⟨⟨by rw [List.length_map]; exact h.1.1, fun v hv => ?_⟩, h.2.2, h.2.1⟩
    obtain ⟨u, hu, rfl⟩ := List.mem_map.mp hv
    have := h.1.2 u hu
    omega
  | wr q rs ws t => exact ⟨h.2.1, h.1, h.2.2.2, h.2.2.1⟩
/-- sizes: tapes, marks, states -/
structure Szs (k : Nat) (m s : Int) : Prop where
  k1 : 1 ≤ k
  k4 : k ≤ 4
  m2 : 2 ≤ m
  m400 : m ≤ 400
  m11 : 9 < m → 11 ≤ m
  s1 : 1 ≤ s
  s9 : s ≤ 5000
section
variable {P : Program} {w : World} {K : PySem.W.Frag} {mg : Str → Option Value} {base : Heap} {f : Addr} {fd : FuncData}
/-! ### _law_digits -/
abbrev sLDigits : Stmt := top 28
theorem scLDigits : FnScope ["_law_cell_here", "_law_count", "_law_many", "_law_digits_here", "_law_k"] ["_law_cell_here", "_law_count", "_law_many"] (defScope sLDigits) := ⟨rfl, rfl, rfl, by decide +kernel, rfl, by decide +kernel, by decide +kernel⟩
def spLDigits : Sp := fun vs H Q _ => ∃ (c : Int) (n : Nat) (m : Int), vs = [.int c, .int (n : Nat), .int m] ∧ n ≤ 1000 ∧ 0 < m ∧ m < 1073741824 ∧
  ∀ (p : Addr) (ns : List Int) (H' : Hp), Same H H' → H p = none → H' p = some (.lst (ns.map V.int)) → ns.length = n → (∀ x ∈ ns, 0 ≤ x) → Q (.ref p) H'
theorem ok_lDigits (F : Fn K "_law_digits" "_law_digits" sLDigits f fd) (B : Bi mg) (cM : Cal P w K mg base 1 "_law_mixed" spLMixed) : FnOk P w K mg base CX0 2 f fd ["_law_cell_here", "_law_count", "_law_many"] spLDigits := by
  refine ok0 F scLDigits (fun vs H Q E h => ?_) (fun cdv A outer s H vs Q E hr h => ?_)
  · obtain ⟨c, n, m, rfl, _⟩ := h
    rfl
  · obtain ⟨c, n, m, rfl, hn, hm0, hm1, k⟩ := h
    have hI : ∀ {X : Cx}, CallR X (.type "int") (fun xs H Q => (∃ i, xs = [.int i] ∧ Q (.int i) H) ∨ ∃ k, xs = [.bl k] ∧ Q (.int (if k then 1 else 0)) H) := call_int1
    refine ⟨_, pss_cons (ps_set (i := 3) scLDigits.nd rfl (.inl rfl) (pe_lstN pa_nil))
      (pss_cons (ps_if (pt_cmpR op_lt (pv 0) (pe_op op_pow pe_int pe_int) (nomark _))
        (pss_cons (ps_forN PassesOwn.never rfl (pi_range1 (by rfl) B.range (pa_cons (pv 1) pa_nil)) (pg_name (i := 4) scLDigits.nd rfl (.inl rfl))
          (pss_one (ps_expr (pe_bm PySem.F.plainAttrs_list PySem.F.slot_list_append PySem.F.type_list_append mt_append (pv 3) (pa_cons (pe_op op_mod (pe_callTy hI (by rfl) B.int boot_int' (pa_cons (pe_cal cM hr (by decide) (by rfl) (pa_cons (pv 0) (pa_cons (pv 4) pa_nil))) pa_nil)) (pv 2)) pa_nil)))))
        (pss_one (ps_ret (pv 3)))) pss_nil)
      (pss_cons (ps_forN PassesOwn.never rfl (pi_range1 (by rfl) B.range (pa_cons (pv 1) pa_nil)) (pg_name (i := 4) scLDigits.nd rfl (.inl rfl))
          (pss_cons (ps_expr (pe_bm PySem.F.plainAttrs_list PySem.F.slot_list_append PySem.F.type_list_append mt_append (pv 3) (pa_cons (pe_op op_mod (pe_callTy hI (by rfl) B.int boot_int' (pa_cons (pv 0) pa_nil)) (pv 2)) pa_nil)))
          (pss_one (ps_set (i := 0) scLDigits.nd rfl (.inl rfl) (pe_op op_fdiv (pv 0) (pv 2))))))
        (pss_one (ps_ret (pv 3))))), ?_⟩
    refine nLst (by simp) fun p H1 n1 s1 h1 => ?_
    have en : (((n : Nat) : Int)).toNat = n := rfl
    refine ⟨_, rfl, _, _, rfl, rfl, ⟨by decide, by decide, by decide⟩, _, _, rfl, rfl, _, rfl, ite2 (fun h0 => ?_) (fun h0 => ?_)⟩
    · refine ⟨_, rfl, _, rfl, by omega, by omega, ?_⟩
      rw [en]
      refine forN walk_range (fun i σ H' => ∃ (v : Option V) (ns : List Int), σ = [some (.int c), some (.int (n : Nat)), some (.int m), some (.ref p), v] ∧ Same H H' ∧ H' p = some (.lst (ns.map V.int)) ∧ ns.length = i ∧ ∀ x ∈ ns, 0 ≤ x)
        ⟨none, [], rfl, s1, h1, rfl, fun x hx => by cases hx⟩ (fun _ _ _ _ _ => trivial) ?_ ?_
      · rintro i x σ H2 H3 hi ⟨v, ns, rfl, S, hp, hl, hx⟩ ⟨rfl, rfl⟩
        refine ⟨_, rfl, .inl ⟨rfl, _, SqL.of hp⟩, _, rfl, _, rfl, c, _, rfl, fun z => .inl ⟨z, rfl, _, rfl, _, _, rfl, rfl, hm0, p, _, _, rfl, rfl, hp, ?_, ?_⟩⟩
        · rw [List.length_map]; exact smallT (by omega)
        · refine ⟨_, ns ++ [z % m], rfl, S.mut n1, ?_, by rw [List.length_append, hl]; rfl, fun y hy => ?_⟩
          · rw [upd_same, List.map_append]; rfl
          · rcases List.mem_append.mp hy with q | q
            · exact hx y q
            · rw [List.mem_singleton.mp q]; exact Int.emod_nonneg _ (by omega)
      · rintro σ H2 ⟨v, ns, rfl, S, hp, hl, hx⟩
        exact ⟨_, rfl, k p ns _ S n1 hp hl hx⟩
    · refine ⟨_, rfl, _, rfl, by omega, by omega, ?_⟩
      rw [en]
      refine forN walk_range (fun i σ H' => ∃ (v : Option V) (c : Int) (ns : List Int), σ = [some (.int c), some (.int (n : Nat)), some (.int m), some (.ref p), v] ∧ Same H H' ∧ H' p = some (.lst (ns.map V.int)) ∧ ns.length = i ∧ ∀ x ∈ ns, 0 ≤ x)
        ⟨none, c, [], rfl, s1, h1, rfl, fun x hx => by cases hx⟩ (fun _ _ _ _ _ => trivial) ?_ ?_
      · rintro i x σ H2 H3 hi ⟨v, c, ns, rfl, S, hp, hl, hx⟩ ⟨rfl, rfl⟩
        refine ⟨_, rfl, .inl ⟨rfl, _, SqL.of hp⟩, _, rfl, .inl ⟨c, rfl, _, rfl, _, _, rfl, rfl, hm0, p, _, _, rfl, rfl, hp, ?_, ?_⟩⟩
        · rw [List.length_map]; exact smallT (by omega)
        · refine ⟨_, rfl, _, rfl, _, _, rfl, rfl, ⟨hm0, hm1⟩, _, _, ns ++ [c % m], rfl, S.mut n1, ?_, by rw [List.length_append, hl]; rfl, fun y hy => ?_⟩
          · rw [upd_same, List.map_append]; rfl
          · rcases List.mem_append.mp hy with q | q
            · exact hx y q
            · rw [List.mem_singleton.mp q]; exact Int.emod_nonneg _ (by omega)
      · rintro σ H2 ⟨v, c, ns, rfl, S, hp, hl, hx⟩
        exact ⟨_, rfl, k p ns _ S n1 hp hl hx⟩
/-! ### _law_mark -/
abbrev sLMark : Stmt := top 30
theorem scLMark : FnScope ["_law_digit", "_law_marks"] ["_law_digit", "_law_marks"] (defScope sLMark) := ⟨rfl, rfl, rfl, by decide +kernel, rfl, by decide +kernel, by decide +kernel⟩
def spLMark : Sp := fun vs H Q _ => ∃ d m : Int, vs = [.int d, .int m] ∧ 2 ≤ m ∧ (9 < m → 11 ≤ m) ∧ ∀ i H', 0 ≤ i ∧ i ≤ m - 1 → Same H H' → Q (.int i) H'
theorem ok_lMark (F : Fn K "_law_mark" "_law_mark" sLMark f fd) : FnOk P w K mg base CX0 1 f fd ["_law_digit", "_law_marks"] spLMark := by
  refine ok0 F scLMark (fun vs H Q E h => ?_) (fun cdv A outer s H vs Q E hr h => ?_)
  · obtain ⟨c, j, rfl, _⟩ := h
    rfl
  · obtain ⟨d, m, rfl, h2, h9, k⟩ := h
    refine ⟨_, pss_cons (ps_if (pt_cmpR op_gt (pv 1) pe_int (nomark _)) (pss_one (ps_ret (pe_ix ix_N (pe_lstN (pa_cons pe_int (pa_cons pe_int (pa_cons pe_int (pa_cons (pe_op op_sub (pv 1) pe_int) pa_nil))))) (pe_op op_mod (pv 0) pe_int) (fun _ _ => rfl)))) pss_nil)
      (pss_one (ps_ret (pe_op op_mod (pv 0) (pv 1)))), ?_⟩
    refine ⟨_, rfl, _, _, rfl, rfl, _, rfl, ite2 (fun h1 => ?_) (fun h1 => ?_)⟩
    · have h9' := h9 (of_decide_eq_true h1)
      refine ⟨_, rfl, _, _, rfl, rfl, ?_⟩
      refine nLst (by simp) fun p H1 n1 s1 hp => ?_
      refine ⟨_, rfl, _, _, rfl, rfl, (by show (0 : Int) < 4; decide), ?_⟩
      have d0 : d % 4 = 0 ∨ d % 4 = 1 ∨ d % 4 = 2 ∨ d % 4 = 3 := by omega
      rcases d0 with e | e | e | e
      · refine ixL (SqL.of hp) 0 (by rw [e]; rfl) rfl (k _ _ (by omega) s1)
      · refine ixL (SqL.of hp) 1 (by rw [e]; rfl) rfl (k _ _ (by omega) s1)
      · refine ixL (SqL.of hp) 2 (by rw [e]; rfl) rfl (k _ _ (by omega) s1)
      · refine ixL (SqL.of hp) 3 (by rw [e]; rfl) rfl (k _ _ (by omega) s1)
    · refine ⟨_, rfl, _, rfl, _, _, rfl, rfl, (by show (0 : Int) < m; omega), k _ _ ⟨Int.emod_nonneg _ (by omega), ?_⟩ (Same.refl _)⟩
      have := Int.emod_lt_of_pos d (show 0 < m by omega)
      omega
/-! ### _law_sizes -/
abbrev sLSizes : Stmt := top 32
theorem scLSizes : FnScope ["_law_number"] ["_law_number"] (defScope sLSizes) := ⟨rfl, rfl, rfl, by decide +kernel, rfl, by decide +kernel, by decide +kernel⟩
def spLSizes : Sp := fun vs H Q _ => ∃ n : Int, vs = [.int n] ∧ ∀ p (k : Nat) m s H', Szs k m s → Same H H' → H' p = some (.tup [.int (k : Nat), .int m, .int s]) → Q (.ref p) H'
theorem ok_lSizes (F : Fn K "_law_sizes" "_law_sizes" sLSizes f fd) : FnOk P w K mg base CX0 1 f fd ["_law_number"] spLSizes := by
  refine ok0 F scLSizes (fun vs H Q E h => ?_) (fun cdv A outer s H vs Q E hr h => ?_)
  · obtain ⟨n, rfl, _⟩ := h
    rfl
  · obtain ⟨n, rfl, k⟩ := h
    refine ⟨_, pss_cons (ps_if (pt_cmpR op_eq (pe_op op_mod (pv 0) pe_int) pe_int (nomark _)) (pss_one (ps_ret (pe_tupN (pa_cons pe_int (pa_cons pe_int (pa_cons pe_int pa_nil)))))) pss_nil)
      (pss_one (ps_ret (pe_tupN (pa_cons (pe_op op_add pe_int (pe_op op_mod (pv 0) pe_int)) (pa_cons (pe_op op_add pe_int (pe_op op_mod (pe_op op_fdiv (pv 0) pe_int) pe_int)) (pa_cons (pe_op op_add pe_int (pe_op op_mod (pe_op op_fdiv (pv 0) pe_int) pe_int)) pa_nil)))))), ?_⟩
    refine ⟨_, rfl, _, _, rfl, rfl, (by show (0 : Int) < 10; decide), rfl, _, rfl, ite2 (fun h1 => ?_) (fun h1 => ?_)⟩
    · refine nTup (by simp) fun p H1 n1 s1 hp => ?_
      exact k p 4 300 6 _ ⟨by decide, by decide, by decide, by decide, by decide, by decide, by decide⟩ s1 hp
    · refine ⟨_, rfl, _, _, rfl, rfl, (by show (0 : Int) < 3; decide), _, _, rfl, rfl, ?_⟩
      refine ⟨_, rfl, _, _, rfl, rfl, ⟨by decide, by decide⟩, _, _, rfl, rfl, (by show (0 : Int) < 3; decide), _, _, rfl, rfl, ?_⟩
      refine ⟨_, rfl, _, _, rfl, rfl, ⟨by decide, by decide⟩, _, _, rfl, rfl, (by show (0 : Int) < 6; decide), _, _, rfl, rfl, ?_⟩
      refine nTup (by simp) fun p H1 n1 s1 hp => ?_
      refine k p (1 + n % 3).toNat (2 + n / 3 % 3) (1 + n / 9 % 6) _ ⟨by omega, by omega, by omega, by omega, by omega, by omega, by omega⟩ s1 ?_
      rw [hp, show (((1 + n % 3).toNat : Nat) : Int) = 1 + n % 3 by omega]
end
end Bk

set_option Elab.async false
set_option linter.all false
set_option maxRecDepth 100000
namespace Bk
open PySem PySem.Spec PyProof.Rows L2
theorem ints_ex {C : Int → Prop} : ∀ {us : List V}, (∀ (i : Nat) (v : V), us[i]? = some v → ∃ n, v = .int n ∧ C n) → ∃ ns : List Int, us = ns.map V.int ∧ ns.length = us.length ∧ ∀ n ∈ ns, C n
  | [], _ => ⟨[], rfl, rfl, fun n hn => by cases hn⟩
  | u :: us, h => by
    obtain ⟨n, e, c⟩ := h 0 u rfl
    obtain ⟨ns, e2, l2, c2⟩ := ints_ex (us := us) fun i v hv => h (i + 1) v hv
    refine ⟨n :: ns, by rw [e, e2]; rfl, by rw [List.length_cons, List.length_cons, l2], fun x hx => ?_⟩
    rcases List.mem_cons.mp hx with q | q
    · rw [q]; exact c
    · exact c2 x q
/-! ### a row by its parts -/
def Row.kind : Row → Str
  | .mv _ _ _ => "move"
  | .wr _ _ _ _ => "write"
def Row.isW : Row → Bool
  | .mv _ _ _ => false
  | .wr _ _ _ _ => true
def Row.rd : Row → List Int
  | .mv _ _ _ => []
  | .wr _ rs _ _ => rs
def Row.wt : Row → List Int
  | .mv _ _ _ => []
  | .wr _ _ ws _ => ws
theorem wr_mv : ¬ (("move" : Str) = "write") := by decide +kernel
theorem Row.kind_w (r : Row) : decide (V.str r.kind = V.str "write") = r.isW := by
  cases r with
  | mv q ms t => exact decide_eq_false fun h => wr_mv (V.str.inj h)
  | wr q rs ws t => exact decide_eq_true rfl
theorem RwAt.parts {H : Hp} {v : V} {r : Row} (h : RwAt H v r) : ∃ a xs, v = .ref a ∧ H a = some (.tup xs) ∧ xs[0]? = some (.str r.kind) ∧ xs[1]? = some (.int r.st) ∧ atI xs (-1) = some (.int r.nx) ∧
    (r.isW = true → ∃ x y, xs[2]? = some x ∧ xs[3]? = some y ∧ Ints H x r.rd ∧ Ints H y r.wt) := by
  cases r with
  | mv q ms t =>
    obtain ⟨a, x, rfl, ha, hx⟩ := h
    exact ⟨a, _, rfl, ha, rfl, rfl, rfl, fun z => by cases z⟩
  | wr q rs ws t =>
    obtain ⟨a, x, y, rfl, ha, hx, hy⟩ := h
    exact ⟨a, _, rfl, ha, rfl, rfl, rfl, fun _ => ⟨x, y, rfl, rfl, hx, hy⟩⟩
theorem nc_st {r r' : Row} (h : r.st ≠ r'.st) : NC r r' := by
  cases r with
  | mv q ms t => cases r' <;> exact h
  | wr q rs ws t =>
    cases r' with
    | mv q' ms' t' => exact h
    | wr q' rs' ws' t' => exact fun e => absurd e h
theorem nc_rd {r r' : Row} (h : r.isW = true) (h' : r'.isW = true) (n : r.rd ≠ r'.rd) : NC r r' := by
  cases r with
  | mv q ms t => cases h
  | wr q rs ws t =>
    cases r' with
    | mv q' ms' t' => cases h'
    | wr q' rs' ws' t' => exact fun _ => n
def fb (b : Bool) (r : Row) : Row := if b = true then r.bw else r
theorem fb_st (b : Bool) (r : Row) : (fb b r).st = if b = true then r.nx else r.st := by
  cases b <;> cases r <;> rfl
theorem fb_w (b : Bool) (r : Row) : (fb b r).isW = r.isW := by
  cases b <;> cases r <;> rfl
theorem fb_rd (b : Bool) (r : Row) : (fb b r).rd = if b = true then r.wt else r.rd := by
  cases b <;> cases r <;> rfl
section
variable {P : Program} {w : World} {K : PySem.W.Frag} {mg : Str → Option Value} {base : Heap} {f : Addr} {fd : FuncData}
/-! ### _law_row -/
abbrev sLRow : Stmt := top 31
abbrev nLRow : List Str := ["_law_digits_here", "_law_sizes_here", "_law_tapes", "_law_marks", "_law_states", "_law_state", "_law_following", "_law_reads", "_law_writes", "_law_k"]
theorem scLRow : FnScope nLRow ["_law_digits_here", "_law_sizes_here"] (defScope sLRow) := ⟨rfl, rfl, rfl, by decide +kernel, rfl, by decide +kernel, by decide +kernel⟩
def spLRow : Sp := fun vs H Q _ => ∃ (p z : Addr) (ns : List Int) (k : Nat) (m s : Int), vs = [.ref p, .ref z] ∧ H p = some (.lst (ns.map V.int)) ∧ ns.length = 10 ∧ H z = some (.tup [.int (k : Nat), .int m, .int s]) ∧ Szs k m s ∧
  ∀ v r H', RowV k m s r → Same H H' → RwAt H' v r → Q v H'
theorem ok_lRow (F : Fn K "_law_row" "_law_row" sLRow f fd) (B : Bi mg) (cM : Cal P w K mg base 1 "_law_mark" spLMark) : FnOk P w K mg base CX0 2 f fd ["_law_digits_here", "_law_sizes_here"] spLRow := by
  refine ok0 F scLRow (fun vs H Q E h => ?_) (fun cdv A outer s H vs Q E hr h => ?_)
  · obtain ⟨p, z, ns, k, m, s, rfl, _⟩ := h
    rfl
  · obtain ⟨p, z, ns, k, m, s, rfl, hp, hl, hz, S, kq⟩ := h
    obtain ⟨k1, k4, m2, m400, m11, s1, s9⟩ := S
    refine ⟨_, pss_cons (ps_asg (pv 1) (pg_tup rfl (pgs_cons (pg_name (i := 2) scLRow.nd rfl (.inl rfl)) (pgs_cons (pg_name (i := 3) scLRow.nd rfl (.inr rfl)) (pgs_cons (pg_name (i := 4) scLRow.nd rfl (.inl rfl)) pgs_nil)))))
      (pss_cons (ps_par (i := 5) (j := 6) (by rfl) scLRow.nd rfl rfl (by decide) rfl rfl (pa_cons (pe_op op_mod (pe_ix ix_N (pv 0) pe_int (fun _ _ => rfl)) (pv 4)) (pa_cons (pe_op op_mod (pe_ix ix_N (pv 0) pe_int (fun _ _ => rfl)) (pv 4)) pa_nil)) (by rfl))
      (pss_cons (ps_if (pt_cmpR op_eq (pe_op op_mod (pe_ix ix_N (pv 0) pe_int (fun _ _ => rfl)) pe_int) pe_int (nomark _))
        (pss_one (ps_ret (pe_tupN (pa_cons pe_str (pa_cons (pv 5) (pa_cons
          (pe_callTy call_tupN (by rfl) B.tuple boot_tuple' (pa_cons (pe_lcN (own := [("_law_k", 9)]) (g := gName 9) rfl scLRow.nd (pi_range1 (by rfl) B.range (pa_cons (pv 2) pa_nil)) (blkOk_by (N := nLRow) (sc := defScope sLRow) (by decide +kernel))
            (fun _ _ _ _ _ => pg_name (i := 9) scLRow.nd rfl (Or.inl rfl)) (fun _ _ _ _ _ => pe_op op_sub (pe_op op_mod (pe_ix (r := Ixs K) ix_N (pv 0) (pe_op op_add pe_int (pv 9)) (fun _ _ => rfl)) pe_int) pe_int)) pa_nil)) (pa_cons (pv 6) pa_nil))))))) pss_nil)
      (pss_cons (ps_set (i := 7) scLRow.nd rfl (.inl rfl) (pe_callTy call_tupN (by rfl) B.tuple boot_tuple' (pa_cons (pe_lcN (own := [("_law_k", 9)]) (g := gName 9) rfl scLRow.nd (pi_range1 (by rfl) B.range (pa_cons (pv 2) pa_nil)) (blkOk_by (N := nLRow) (sc := defScope sLRow) (by decide +kernel))
            (fun _ _ _ _ _ => pg_name (i := 9) scLRow.nd rfl (Or.inl rfl)) (fun _ _ _ _ _ => pe_cal cM hr (by decide) (by rfl) (pa_cons (pe_ix (r := Ixs K) ix_N (pv 0) (pe_op op_add pe_int (pv 9)) (fun _ _ => rfl)) (pa_cons (pv 3) pa_nil)))) pa_nil)))
      (pss_cons (ps_set (i := 8) scLRow.nd rfl (.inl rfl) (pe_callTy call_tupN (by rfl) B.tuple boot_tuple' (pa_cons (pe_lcN (own := [("_law_k", 9)]) (g := gName 9) rfl scLRow.nd (pi_range1 (by rfl) B.range (pa_cons (pv 2) pa_nil)) (blkOk_by (N := nLRow) (sc := defScope sLRow) (by decide +kernel))
            (fun _ _ _ _ _ => pg_name (i := 9) scLRow.nd rfl (Or.inl rfl)) (fun _ _ _ _ _ => pe_cal cM hr (by decide) (by rfl) (pa_cons (pe_ix (r := Ixs K) ix_N (pv 0) (pe_op op_add pe_int (pv 9)) (fun _ _ => rfl)) (pa_cons (pv 3) pa_nil)))) pa_nil)))
      (pss_one (ps_ret (pe_tupN (pa_cons pe_str (pa_cons (pv 5) (pa_cons (pv 7) (pa_cons (pv 8) (pa_cons (pv 6) pa_nil)))))))))))), ?_⟩
    have at_ : ∀ {H' : Hp}, Same H H' → ∀ (i : Int) (j : Nat), i = (j : Int) → j < 10 → ∀ Q' : VK, (∀ d : Int, Q' (.int d) H') → Ixs K (.ref p) (.int i) H' Q' := fun S i j e hj Q' q => ixL (SqL.of (S _ _ hp)) j e (int_at (by omega)) (q _)
    have md : ∀ d : Int, 0 ≤ d % s ∧ d % s ≤ s - 1 := fun d => ⟨Int.emod_nonneg _ (by omega), by have := Int.emod_lt_of_pos d (show 0 < s by omega); omega⟩
    refine ⟨_, rfl, z, _, rfl, SqT.of hz, rfl, _, _, rfl, _, _, rfl, _, _, rfl, rfl, ?_⟩
    refine ⟨_, rfl, ?_⟩
    refine at_ (Same.refl _) _ 0 rfl (by decide) _ fun d0 => ?_
    refine ⟨_, rfl, _, _, rfl, rfl, (by show (0 : Int) < s; omega), _, rfl, ?_⟩
    refine at_ (Same.refl _) _ 1 rfl (by decide) _ fun d1 => ?_
    refine ⟨_, rfl, _, _, rfl, rfl, (by show (0 : Int) < s; omega), _, _, rfl, ?_⟩
    refine ⟨_, rfl, ?_⟩
    refine at_ (Same.refl _) _ 2 rfl (by decide) _ fun d2 => ?_
    refine ⟨_, _, rfl, rfl, (by show (0 : Int) < 3; decide), rfl, _, rfl, ite2 (fun h1 => ?_) (fun h1 => ?_)⟩
    · refine ⟨_, rfl, _, rfl, k, rfl, by omega, by omega, ?_⟩
      refine lcN (n := k) walk_range (fun _ _ v => ∃ n, v = .int n ∧ -1 ≤ n ∧ n ≤ 1) (by omega) (fun _ _ _ _ _ _ h => h) (fun _ _ => trivial) ?_ ?_ gm_name
      · rintro i x H1 H2 hi S ⟨rfl, rfl⟩ Q' kq
        refine ⟨rfl, _, rfl, _, rfl, _, _, rfl, rfl, ?_⟩
        refine at_ S _ (3 + i) (by omega) (by omega) _ fun d => ?_
        refine ⟨_, _, rfl, rfl, (by show (0 : Int) < 3; decide), _, _, rfl, rfl, kq _ _ (Same.refl _) ⟨_, rfl, by omega, by omega⟩⟩
      · intro D H1 us hD S hu hlen hall
        obtain ⟨ms, e, l2, c⟩ := ints_ex hall
        subst e
        refine tupL hu fun q H2 S2 hq => ?_
        refine ⟨_, rfl, ?_⟩
        refine nTup (by simp) fun u H3 n3 S3 hu3 => ?_
        refine kq _ (.mv (d0 % s) ms (d1 % s)) _ ⟨⟨by rw [← hlen, l2], c⟩, md _, md _⟩ ((S.trans S2).trans S3) ⟨u, _, rfl, hu3, q, rfl, S3 _ _ hq⟩
    · refine ⟨_, rfl, k, rfl, by omega, by omega, ?_⟩
      refine lcN (n := k) walk_range (fun _ _ v => ∃ n, v = .int n ∧ 0 ≤ n ∧ n ≤ m - 1) (by omega) (fun _ _ _ _ _ _ h => h) (fun _ _ => trivial) ?_ ?_ gm_name
      · rintro i x H1 H2 hi S ⟨rfl, rfl⟩ Q' kq
        refine ⟨rfl, _, rfl, _, rfl, _, _, rfl, rfl, ?_⟩
        refine at_ S _ (3 + i) (by omega) (by omega) _ fun d => ?_
        exact ⟨_, rfl, d, m, rfl, m2, m11, fun i H' hi S' => kq _ _ S' ⟨i, rfl, hi.1, hi.2⟩⟩
      · intro D H1 us hD S hu hlen hall
        obtain ⟨rs, e, l2, c⟩ := ints_ex hall
        subst e
        refine tupL hu fun q H2 S2 hq => ?_
        refine ⟨_, rfl, k, rfl, by omega, by omega, ?_⟩
        refine lcN (n := k) walk_range (fun _ _ v => ∃ n, v = .int n ∧ 0 ≤ n ∧ n ≤ m - 1) (by omega) (fun _ _ _ _ _ _ h => h) (fun _ _ => trivial) ?_ ?_ gm_name
        · rintro i x H3 H4 hi S3 ⟨rfl, rfl⟩ Q' kq
          refine ⟨rfl, _, rfl, _, rfl, _, _, rfl, rfl, ?_⟩
          refine at_ ((S.trans S2).trans S3) _ (6 + i) (by omega) (by omega) _ fun d => ?_
          exact ⟨_, rfl, d, m, rfl, m2, m11, fun i H' hi S' => kq _ _ S' ⟨i, rfl, hi.1, hi.2⟩⟩
        · intro D2 H3 us2 hD2 S3 hu2 hlen2 hall2
          obtain ⟨ws, e, l3, c2⟩ := ints_ex hall2
          subst e
          refine tupL hu2 fun q2 H4 S4 hq2 => ?_
          refine ⟨_, rfl, _, rfl, _, rfl, _, rfl, ?_⟩
          refine nTup (by simp) fun u H5 n5 S5 hu5 => ?_
          exact kq _ (.wr (d0 % s) rs ws (d1 % s)) _ ⟨⟨by rw [← hlen, l2], c⟩, ⟨by rw [← hlen2, l3], c2⟩, md _, md _⟩ ((((S.trans S2).trans S3).trans S4).trans S5) ⟨u, _, _, rfl, hu5, ⟨q, rfl, S5 _ _ (S4 _ _ (S3 _ _ hq))⟩, ⟨q2, rfl, S5 _ _ hq2⟩⟩
end
end Bk

set_option Elab.async false
set_option linter.all false
set_option maxRecDepth 100000
namespace Bk
open PySem PySem.Spec PyProof.Rows L2
def fbs (b : Bool) (rows : List Row) : List Row := rows.map (fb b)
theorem fbs_T (rows : List Row) : fbs true rows = bws rows := rfl
theorem fbs_F : ∀ rows : List Row, fbs false rows = rows
  | [] => rfl
  | r :: rows => by
    show fb false r :: fbs false rows = _
    rw [fbs_F rows]; rfl
section
variable {P : Program} {w : World} {K : PySem.W.Frag} {mg : Str → Option Value} {base : Heap} {f : Addr} {fd : FuncData}
/-! ### _law_clash -/
abbrev sLClash : Stmt := top 29
abbrev nLClash : List Str := ["_law_rows_here", "_law_is_back", "_law_first", "_law_second", "_law_one", "_law_two", "_law_ends", "_law_keys"]
theorem scLClash : FnScope nLClash ["_law_rows_here", "_law_is_back"] (defScope sLClash) := ⟨rfl, rfl, rfl, by decide +kernel, rfl, by decide +kernel, by decide +kernel⟩
def spLClash : Sp := fun vs H Q _ => ∃ (a : Addr) (rows : List Row) (b : Bool), vs = [.ref a, .bl b] ∧ RwsAt H a rows ∧ rows.length ≤ 1000 ∧
  (NCs (fbs b rows) → ∀ H', Same H H' → Q .non H') ∧ ∀ p H', Same H H' → Q (.ref p) H'
theorem ok_lClash (F : Fn K "_law_clash" "_law_clash" sLClash f fd) (B : Bi mg) : FnOk P w K mg base CX0 1 f fd ["_law_rows_here", "_law_is_back"] spLClash := by
  refine ok0 F scLClash (fun vs H Q E h => ?_) (fun cdv A outer s H vs Q E hr h => ?_)
  · obtain ⟨a, rows, b, rfl, _⟩ := h
    rfl
  · obtain ⟨a, rows, b, rfl, ⟨rv, hrv, prv⟩, hl, kN, kP⟩ := h
    have hlen : rv.length = rows.length := pd_len prv
    have hI : ∀ {X : Cx}, CallR X (.type "int") (fun xs H Q => (∃ i, xs = [.int i] ∧ Q (.int i) H) ∨ ∃ k, xs = [.bl k] ∧ Q (.int (if k then 1 else 0)) H) := call_int1
    refine ⟨_, pss_cons (ps_forN PassesOwn.never rfl (pi_range1 (by rfl) B.range (pa_cons (pe_callB call_lenN (by rfl) B.len boot_len (pa_cons (pv 0) pa_nil)) pa_nil)) (pg_name (i := 2) scLClash.nd rfl (.inl rfl))
        (pss_one (ps_forN PassesOwn.never rfl (pi_range2 (by rfl) B.range (pa_cons (pe_op op_add (pv 2) pe_int) (pa_cons (pe_callB call_lenN (by rfl) B.len boot_len (pa_cons (pv 0) pa_nil)) pa_nil))) (pg_name (i := 3) scLClash.nd rfl (.inl rfl))
          (pss_cons (ps_par (i := 4) (j := 5) (by rfl) scLClash.nd rfl rfl (by decide) rfl rfl (pa_cons (pe_ix ix_N (pv 0) (pv 2) (fun _ _ => rfl)) (pa_cons (pe_ix ix_N (pv 0) (pv 3) (fun _ _ => rfl)) pa_nil)) (by rfl))
          (pss_cons (ps_set (i := 6) scLClash.nd rfl (.inl rfl) (pe_ix ix_N (pe_lstN (pa_cons (pe_lstN (pa_cons (pe_ix ix_N (pv 4) pe_int (fun _ _ => rfl)) (pa_cons (pe_ix ix_N (pv 5) pe_int (fun _ _ => rfl)) pa_nil)))
              (pa_cons (pe_lstN (pa_cons (pe_ix ix_N (pv 4) (pe_un un_neg pe_int) (fun _ _ => rfl)) (pa_cons (pe_ix ix_N (pv 5) (pe_un un_neg pe_int) (fun _ _ => rfl)) pa_nil))) pa_nil)))
              (pe_callTy hI (by rfl) B.int boot_int' (pa_cons (pv 1) pa_nil)) (fun _ _ => rfl)))
          (pss_cons (ps_set (i := 7) scLClash.nd rfl (.inl rfl) (pe_lstN (pa_cons pe_int (pa_cons pe_int pa_nil))))
          (C8.pss_cut (ps_if (PW.pt (pw_and (pt_cmpR op_eq (pe_ix ix_N (pv 4) pe_int (fun _ _ => rfl)) pe_str (nomark _)) (pw_and1 (pt_cmpR op_eq (pe_ix ix_N (pv 5) pe_int (fun _ _ => rfl)) pe_str (nomark _)))))
              (pss_one (ps_set (i := 7) scLClash.nd rfl (.inl rfl) (pe_ix ix_N (pe_lstN (pa_cons (pe_lstN (pa_cons (pe_ix ix_N (pv 4) pe_int (fun _ _ => rfl)) (pa_cons (pe_ix ix_N (pv 5) pe_int (fun _ _ => rfl)) pa_nil)))
              (pa_cons (pe_lstN (pa_cons (pe_ix ix_N (pv 4) pe_int (fun _ _ => rfl)) (pa_cons (pe_ix ix_N (pv 5) pe_int (fun _ _ => rfl)) pa_nil))) pa_nil)))
              (pe_callTy hI (by rfl) B.int boot_int' (pa_cons (pv 1) pa_nil)) (fun _ _ => rfl)))) pss_nil)
          (pss_one (ps_if (PW.pt (pw_and (pt_cmpR op_eq (pe_ix ix_N (pv 6) pe_int (fun _ _ => rfl)) (pe_ix ix_N (pv 6) pe_int (fun _ _ => rfl)) (nomark _)) (pw_and1 (pt_cmpR (op_eqN hr.units) (pe_ix ix_N (pv 7) pe_int (fun _ _ => rfl)) (pe_ix ix_N (pv 7) pe_int (fun _ _ => rfl)) (nomark _)))))
              (pss_one (ps_ret (pe_tupN (pa_cons (pv 2) (pa_cons (pv 3) pa_nil))))) pss_nil)))))))))
      (pss_one (ps_ret pe_non)), ?_⟩
    refine ⟨_, rfl, ?_⟩
    refine lenL (SqL.of hrv) ?_
    have en : (((rv.length : Nat) : Int)).toNat = rows.length := by rw [hlen]; rfl
    refine ⟨_, rfl, by omega, by omega, ?_⟩
    rw [en]
    -- pairs seen so far do not clash
    refine forN walk_range (fun i σ H' => ∃ v2 v3 v4 v5 v6 v7, σ = [some (.ref a), some (.bl b), v2, v3, v4, v5, v6, v7] ∧ Same H H' ∧ ∀ (x y : Nat) (r r' : Row), x < i → x < y → rows[x]? = some r → rows[y]? = some r' → NC (fb b r) (fb b r'))
      ⟨none, none, none, none, none, none, rfl, Same.refl _, fun x y r r' h => absurd h (Nat.not_lt_zero _)⟩ (fun _ _ _ _ _ => trivial) ?_ ?_
    · rintro i x σ H1 H2 hi ⟨v2, v3, v4, v5, v6, v7, rfl, S, hp⟩ ⟨rfl, rfl⟩
      refine ⟨_, rfl, _, _, rfl, rfl, _, rfl, ?_⟩
      refine lenL (SqL.of (S _ _ hrv)) ?_
      refine ⟨_, _, rfl, by omega, ?_⟩
      have en2 : ((((rv.length : Nat) : Int)) - (0 + (i : Int) + 1)).toNat = rows.length - (i + 1) := by omega
      rw [en2]
      refine forN walk_range (fun j σ H' => ∃ v3 v4 v5 v6 v7, σ = [some (.ref a), some (.bl b), some (.int (0 + (i : Int))), v3, v4, v5, v6, v7] ∧ Same H H' ∧ ∀ (y : Nat) (r r' : Row), i < y → y < i + 1 + j → rows[i]? = some r → rows[y]? = some r' → NC (fb b r) (fb b r'))
        ⟨_, _, _, _, _, rfl, S, fun y r r' h1 h2 => absurd h2 (by omega)⟩ (fun _ _ _ _ _ => trivial) ?_ ?_
      · rintro j x σ H1 H3 hj ⟨v3, v4, v5, v6, v7, rfl, S, hq⟩ ⟨rfl, rfl⟩
        -- the two rows
        have hjl : i + 1 + j < rows.length := by omega
        have gi : rv[i]? = some rv[i] := List.getElem?_eq_getElem (by omega)
        have gj : rv[i + 1 + j]? = some (rv[i + 1 + j]'(by omega)) := List.getElem?_eq_getElem (by omega)
        obtain ⟨r1, er1, at1⟩ := pd_get prv gi
        obtain ⟨r2, er2, at2⟩ := pd_get prv gj
        obtain ⟨a1, xs1, ea1, ha1, x10, x11, x1n, x1w⟩ := (at1.mono S.tk).parts
        obtain ⟨a2, xs2, ea2, ha2, x20, x21, x2n, x2w⟩ := (at2.mono S.tk).parts
        refine ⟨_, rfl, _, rfl, ?_⟩
        refine ixL (SqL.of (S _ _ hrv)) i (by omega) gi ?_
        refine ⟨_, rfl, _, rfl, ?_⟩
        refine ixL (SqL.of (S _ _ hrv)) (i + 1 + j) (by omega) gj ?_
        rw [ea1, ea2]
        refine ⟨_, _, rfl, ?_⟩
        -- the ends
        refine ⟨_, rfl, ?_⟩
        refine ixT ha1 1 rfl x11 ?_
        refine ⟨_, rfl, ?_⟩
        refine ixT ha2 1 rfl x21 ?_
        refine nLst (by simp) fun l1 H4 n4 s4 h4 => ?_
        refine ⟨_, rfl, _, rfl, ?_⟩
        refine ixTI (s4 _ _ ha1) x1n ?_
        refine ⟨_, rfl, _, rfl, ?_⟩
        refine ixTI (s4 _ _ ha2) x2n ?_
        refine nLst (by simp) fun l2 H5 n5 s5 h5 => ?_
        refine nLst (by simp) fun l3 H6 n6 s6 h6 => ?_
        refine ⟨_, rfl, .inr ⟨b, rfl, ?_⟩⟩
        refine ixL (SqL.of h6) (if b = true then 1 else 0) (by cases b <;> rfl) (v := .ref (if b = true then l2 else l1)) (by cases b <;> rfl) ?_
        have hE : H6 (if b = true then l2 else l1) = some (.lst [.int (fb b r1).st, .int (fb b r2).st]) := by
          rw [fb_st, fb_st]
          cases b with
          | true => exact s6 _ _ h5
          | false => exact s6 _ _ (s5 _ _ h4)
        have S6 : Same H H6 := ((S.trans s4).trans s5).trans s6
        have T6 : Same H3 H6 := (s4.trans s5).trans s6
        refine nLst (by simp) fun l4 H7 n7 s7 h7 => ?_
        have S7 := S6.trans s7
        refine ⟨fun σ' H' => ∃ pk x y d e, σ' = [some (.ref a), some (.bl b), some (.int (0 + (i : Int))), some (.int (0 + (i : Int) + 1 + (j : Int))), some (.ref a1), some (.ref a2), some (.ref (if b = true then l2 else l1)), some (.ref pk)] ∧ Same H7 H' ∧
          H' pk = some (.lst [x, y]) ∧ Dp K H' x d ∧ Dp K H' y e ∧ Sh 1 d ∧ Sh 1 e ∧ (PyData.eqv d e = false → NC (fb b r1) (fb b r2)), ?_, ?_⟩
        · refine ⟨_, rfl, ?_⟩
          refine ixT (s7 _ _ (T6 _ _ ha1)) 0 rfl x10 ?_
          refine ⟨rfl, _, rfl, ite2 (fun hw1 => ?_) (fun hw1 => ?_)⟩
          · refine ⟨_, rfl, ?_⟩
            refine ixT (s7 _ _ (T6 _ _ ha2)) 0 rfl x20 ?_
            refine ⟨rfl, _, rfl, ite2 (fun hw2 => ?_) (fun hw2 => ?_)⟩
            · have w1 : r1.isW = true := by rw [← Row.kind_w]; exact hw1
              have w2 : r2.isW = true := by rw [← Row.kind_w]; exact hw2
              obtain ⟨y12, y13, e12, e13, i12, i13⟩ := x1w w1
              obtain ⟨y22, y23, e22, e23, i22, i23⟩ := x2w w2
              refine ⟨_, rfl, ?_⟩
              refine ixT (s7 _ _ (T6 _ _ ha1)) 2 rfl e12 ?_
              refine ⟨_, rfl, ?_⟩
              refine ixT (s7 _ _ (T6 _ _ ha2)) 2 rfl e22 ?_
              refine nLst (by simp) fun m1 H8 n8 s8 h8 => ?_
              refine ⟨_, rfl, ?_⟩
              refine ixT (s8 _ _ (s7 _ _ (T6 _ _ ha1))) 3 rfl e13 ?_
              refine ⟨_, rfl, ?_⟩
              refine ixT (s8 _ _ (s7 _ _ (T6 _ _ ha2))) 3 rfl e23 ?_
              refine nLst (by simp) fun m2 H9 n9 s9 h9 => ?_
              refine nLst (by simp) fun m3 H10 n10 s10 h10 => ?_
              refine ⟨_, rfl, .inr ⟨b, rfl, ?_⟩⟩
              refine ixL (SqL.of h10) (if b = true then 1 else 0) (by cases b <;> rfl) (v := .ref (if b = true then m2 else m1)) (by cases b <;> rfl) ?_
              have T10 : Tk H3 H10 := (((T6.trans s7).trans s8).trans (s9.trans s10)).tk
              refine ⟨(if b = true then m2 else m1), (if b = true then y13 else y12), (if b = true then y23 else y22), intsD (fb b r1).rd, intsD (fb b r2).rd, rfl, (s8.trans s9).trans s10, ?_, ?_, ?_, Sh.ints _, Sh.ints _, fun z => ?_⟩
              · cases b with
                | true => exact s10 _ _ h9
                | false => exact s10 _ _ (s9 _ _ h8)
              · rw [fb_rd]
                cases b with
                | true => exact (i13.mono T10).dp
                | false => exact (i12.mono T10).dp
              · rw [fb_rd]
                cases b with
                | true => exact (i23.mono T10).dp
                | false => exact (i22.mono T10).dp
              · rw [eqv_intsD] at z
                exact nc_rd (by rw [fb_w]; exact w1) (by rw [fb_w]; exact w2) (of_decide_eq_false z)
            · exact ⟨l4, _, _, _, _, rfl, Same.refl _, h7, .int 0, .int 0, Sh.int _ _, Sh.int _ _, fun z => by simp [PyData.eqv] at z⟩
          · exact ⟨l4, _, _, _, _, rfl, Same.refl _, h7, .int 0, .int 0, Sh.int _ _, Sh.int _ _, fun z => by simp [PyData.eqv] at z⟩
        · rintro σ' H8 ⟨pk, x, y, d, e, rfl, s8, hk, dx, dy, sd, se, hnc⟩
          have next : NC (fb b r1) (fb b r2) → ∀ (y : Nat) (r r' : Row), i < y → y < i + 1 + (j + 1) → rows[i]? = some r → rows[y]? = some r' → NC (fb b r) (fb b r') := fun n y r r' h1 h2 h3 h4 => by
            by_cases hy : y < i + 1 + j
            · exact hq y r r' h1 hy h3 h4
            · have e : y = i + 1 + j := by omega
              subst e
              rw [er1] at h3
              rw [er2] at h4
              cases h3
              cases h4
              exact n
          refine ⟨_, rfl, ?_⟩
          refine ixL (SqL.of (s8 _ _ (s7 _ _ hE))) 0 rfl rfl ?_
          refine ⟨_, rfl, ?_⟩
          refine ixL (SqL.of (s8 _ _ (s7 _ _ hE))) 1 rfl rfl ?_
          refine ⟨rfl, _, rfl, ite2 (fun h1 => ?_) (fun h1 => ?_)⟩
          · refine ⟨_, rfl, ?_⟩
            refine ixL (SqL.of hk) 0 rfl rfl ?_
            refine ⟨_, rfl, ?_⟩
            refine ixL (SqL.of hk) 1 rfl rfl ?_
            refine eqD dx dy 1 sd se (by decide) ?_
            refine ⟨_, rfl, ite2 (fun h2 => ?_) (fun h2 => ?_)⟩
            · refine ⟨_, rfl, _, rfl, ?_⟩
              refine nTup (by simp) fun u H9 n9 s9 h9 => ?_
              exact kP _ _ ((S7.trans s8).trans s9)
            · refine ⟨_, _, _, _, _, rfl, S7.trans s8, next (hnc ?_)⟩
              cases q : PyData.eqv d e with
              | false => rfl
              | true => exact absurd q h2
          · refine ⟨_, _, _, _, _, rfl, S7.trans s8, next (nc_st fun z => h1 (decide_eq_true (by rw [z])))⟩
      · rintro σ H3 ⟨v3, v4, v5, v6, v7, rfl, S, hq⟩
        refine ⟨_, _, _, _, _, _, rfl, S, fun x y r r' h1 h2 h3 h4 => ?_⟩
        by_cases hx : x < i
        · exact hp x y r r' hx h2 h3 h4
        · have e : x = i := by omega
          subst e
          refine hq y r r' h2 ?_ h3 h4
          have := (List.getElem?_eq_some_iff.mp h4).1
          omega
    · rintro σ H1 ⟨v2, v3, v4, v5, v6, v7, rfl, S, hp⟩
      refine kN ?_ _ S
      unfold NCs fbs
      rw [List.pairwise_iff_getElem]
      intro x y hx hy hxy
      rw [List.getElem_map, List.getElem_map]
      rw [List.length_map] at hx hy
      exact hp x y _ _ hx hxy (List.getElem?_eq_getElem hx) (List.getElem?_eq_getElem hy)
end
end Bk

set_option Elab.async false
set_option linter.all false
set_option maxRecDepth 100000
namespace Bk
open PySem PySem.Spec PyProof.Rows L2
/-! ### sizes of tapes -/
def SzC (n : Nat) (c : Conf) : Prop := ∀ t ∈ c.ts, t.l.length ≤ n ∧ t.r.length ≤ n
theorem SzC.mono {n m : Nat} {c : Conf} (h : SzC n c) (l : n ≤ m) : SzC m c := fun t ht => ⟨Nat.le_trans (h t ht).1 l, Nat.le_trans (h t ht).2 l⟩
theorem zw_all {f : Tp → Int → Tp} {P P' : Tp → Prop} (hf : ∀ t v, P t → P' (f t v)) : ∀ (ts : List Tp) (ms : List Int), (∀ t ∈ ts, P t) → ∀ t ∈ List.zipWith f ts ms, P' t
  | [], _, _, t, ht => by simp at ht
  | _ :: _, [], _, t, ht => by simp at ht
  | a :: ts, v :: ms, h, t, ht => by
    have ht' : t ∈ f a v :: List.zipWith f ts ms := ht
    rcases List.mem_cons.mp ht' with e | e
    · rw [e]; exact hf a v (h a List.mem_cons_self)
    · exact zw_all hf ts ms (fun b hb => h b (List.mem_cons_of_mem _ hb)) t e
theorem moved_sz {n : Nat} (t : Tp) (v : Int) (h : t.l.length ≤ n ∧ t.r.length ≤ n) : (moved t v).l.length ≤ n + 1 ∧ (moved t v).r.length ≤ n + 1 := by
  unfold moved
  have a := trim_length (t.m :: t.l)
  have b := trim_length (t.m :: t.r)
  rw [List.length_cons] at a b
  by_cases h1 : v = 1
  · rw [if_pos h1]
    refine ⟨?_, ?_⟩
    · show (trim (t.m :: t.l)).length ≤ n + 1; omega
    · show t.r.tail.length ≤ n + 1; rw [List.length_tail]; omega
  · rw [if_neg h1]
    by_cases h2 : v = -1
    · rw [if_pos h2]
      refine ⟨?_, ?_⟩
      · show t.l.tail.length ≤ n + 1; rw [List.length_tail]; omega
      · show (trim (t.m :: t.r)).length ≤ n + 1; omega
    · rw [if_neg h2]; omega
theorem after_sz {n : Nat} {rows : List Row} {c d : Conf} (h : SzC n c) (e : after rows c = some d) : SzC (n + 1) d := by
  obtain ⟨r, _, e⟩ := after_mem e
  cases r with
  | mv q ms t =>
    unfold Row.app at e
    by_cases z : q = c.s
    · simp only [if_pos z] at e
      cases e
      exact zw_all (fun t v h => moved_sz t v h) c.ts ms h
    · simp only [if_neg z] at e; cases e
  | wr q rs ws t =>
    unfold Row.app at e
    by_cases z : q = c.s ∧ rs = heads c
    · simp only [if_pos z] at e
      cases e
      exact zw_all (P := fun t => t.l.length ≤ n ∧ t.r.length ≤ n) (f := setM) (fun t v h => ⟨Nat.le_succ_of_le h.1, Nat.le_succ_of_le h.2⟩) c.ts ws h
    · simp only [if_neg z] at e; cases e
theorem steps_sz {rows : List Row} : ∀ {i n : Nat} {c d : Conf}, SzC n c → steps rows i c = some d → SzC (n + i) d
  | 0, n, c, d, h, e => by cases e; exact h
  | i + 1, n, c, d, h, e => by
    rw [steps_succ] at e
    cases q : steps rows i c with
    | none => rw [q] at e; cases e
    | some d' => rw [q] at e; exact after_sz (steps_sz h q) e
theorem cutV_mid (xs : List V) {i j : Nat} {a b : Int} (ha : a = (i : Int)) (hb : b = (j : Int)) (h : i ≤ j) (hj : j ≤ xs.length) : cutV xs (some a) (some b) = (xs.drop i).take (j - i) := by
  rw [ha, hb]
  unfold cutV
  rw [HT.sIx_nat, HT.sIx_nat, Nat.min_eq_left hj, Nat.min_eq_left (Nat.le_trans h hj)]
theorem drop_get {α : Type} {xs : List α} {i : Nat} {x : α} (h : xs[i]? = some x) : xs.drop i = x :: xs.drop (i + 1) := by
  obtain ⟨hl, e⟩ := List.getElem?_eq_some_iff.mp h
  rw [List.drop_eq_getElem_cons hl, e]
theorem after_cons (r : Row) (rows : List Row) (c : Conf) : after (r :: rows) c = match r.app c with | some d => some d | none => after rows c := by
  unfold after
  rw [List.findSome?_cons]
  cases r.app c <;> rfl
section
variable {P : Program} {w : World} {K : PySem.W.Frag} {mg : Str → Option Value} {base : Heap} {f : Addr} {fd : FuncData}
/-! ### _law_rows -/
abbrev sLRows : Stmt := top 33
abbrev nLRows : List Str := ["_law_numbers", "_law_sizes_here", "_law_is_back", "_law_rows_here", "_law_cell_here", "_law_row_here", "_law_more"]
theorem scLRows : FnScope nLRows ["_law_numbers", "_law_sizes_here", "_law_is_back"] (defScope sLRows) := ⟨rfl, rfl, rfl, by decide +kernel, rfl, by decide +kernel, by decide +kernel⟩
def spLRows (K : PySem.W.Frag) : Sp := fun vs H Q _ => ∃ (nb z : Addr) (ns : List Int) (k : Nat) (m s : Int), vs = [.ref nb, .ref z, .bl true] ∧ SqL K H nb (ns.map V.int) ∧ ns.length ≤ 16 ∧ H z = some (.tup [.int (k : Nat), .int m, .int s]) ∧ Szs k m s ∧
  ∀ p rows H', Same H H' → RwsAt H' p rows → rows.length ≤ 16 → (∀ r ∈ rows, RowV k m s r) → NCs rows → NCs (bws rows) → Q (.ref p) H'
theorem ok_lRows (F : Fn K "_law_rows" "_law_rows" sLRows f fd) (B : Bi mg) (cR : Cal P w K mg base 2 "_law_row" spLRow) (cD : Cal P w K mg base 2 "_law_digits" spLDigits) (cC : Cal P w K mg base 1 "_law_clash" spLClash) :
    FnOk P w K mg base CX0 3 f fd ["_law_numbers", "_law_sizes_here", "_law_is_back"] (spLRows K) := by
  refine ok0 F scLRows (fun vs H Q E h => ?_) (fun cdv A outer s H vs Q E hr h => ?_)
  · obtain ⟨nb, z, ns, k, m, s, rfl, _⟩ := h
    rfl
  · obtain ⟨nb, z, ns, k, m, s, rfl, hS, hl, hz, S, kq⟩ := h
    refine ⟨_, pss_cons (ps_set (i := 3) scLRows.nd rfl (.inl rfl) (pe_lstN pa_nil))
      (pss_cons (ps_forN PassesOwn.never rfl (pi_list (pv 0)) (pg_name (i := 4) scLRows.nd rfl (.inl rfl))
        (pss_cons (ps_set (i := 5) scLRows.nd rfl (.inl rfl) (pe_cal cR hr (by decide) (by rfl) (pa_cons (pe_cal cD hr (by decide) (by rfl) (pa_cons (pv 4) (pa_cons pe_int (pa_cons pe_int pa_nil)))) (pa_cons (pv 1) pa_nil))))
        (pss_cons (ps_set (i := 6) scLRows.nd rfl (.inl rfl) (pe_op op_catLN (pv 3) (pe_lstN (pa_cons (pv 5) pa_nil))))
        (pss_one (ps_if (PW.pt (pw_and (pt_cmpR op_isN (pe_cal cC hr (by decide) (by rfl) (pa_cons (pv 6) (pa_cons pe_bl pa_nil))) pe_non (nomark _))
            (pw_and1 (PW.pt (pw_or (pt_not (pt_val (pv 2))) (pw_or1 (pt_cmpR op_isN (pe_cal cC hr (by decide) (by rfl) (pa_cons (pv 6) (pa_cons pe_bl pa_nil))) pe_non (nomark _))))))))
          (pss_one (ps_set (i := 3) scLRows.nd rfl (.inl rfl) (pv 6))) pss_nil)))))
      (pss_one (ps_ret (pv 3)))), ?_⟩
    refine nLst (by simp) fun p0 H0 n0 s0 h0 => ?_
    refine ⟨_, rfl, nb, rfl, ⟨_, s0.seq hS⟩, ?_⟩
    refine forN (walk_list (xs := ns.map V.int)) (fun i σ H' => ∃ p rows v4 v5 v6, σ = [some (.ref nb), some (.ref z), some (.bl true), some (.ref p), v4, v5, v6] ∧ Same H H' ∧ RwsAt H' p rows ∧ rows.length ≤ i ∧ (∀ r ∈ rows, RowV k m s r) ∧ NCs rows ∧ NCs (bws rows))
      ⟨p0, [], none, none, none, rfl, s0, ⟨[], h0, .nil⟩, Nat.le_refl _, (fun r hr => nomatch hr), List.Pairwise.nil, List.Pairwise.nil⟩ (fun i σ H' _ ⟨_, _, _, _, _, _, S', _⟩ => S'.seq hS) ?_ ?_
    · rintro i x σ H1 H2 hi ⟨p, rows, v4, v5, v6, rfl, S1, hR, hrl, hv, nf, nb'⟩ ⟨rfl, hx⟩
      rw [List.length_map] at hi
      obtain ⟨c, rfl⟩ : ∃ c, x = .int c := by
        rw [int_at hi] at hx
        exact ⟨_, (Option.some.inj hx).symm⟩
      refine ⟨_, rfl, c, 10, 900, rfl, by decide, by decide, by decide, fun pd ds H3 s3 n3 h3 hdl _ => ?_⟩
      refine ⟨_, rfl, pd, z, ds, k, m, s, rfl, h3, hdl, (S1.trans s3) _ _ hz, S, fun rv r H4 hrv s4 hr4 => ?_⟩
      refine ⟨_, rfl, _, rfl, ?_⟩
      refine nLst (by simp) fun pl H5 n5 s5 h5 => ?_
      obtain ⟨us, hus, pus⟩ := hR
      have S5 := (s3.trans s4).trans s5
      have hul : us.length = rows.length := pd_len pus
      refine catL (S5 _ _ hus) h5 (by simp; omega) fun pm H6 n6 s6 h6 => ?_
      have S6 := S5.trans s6
      have hM : ∀ {H'}, Same H6 H' → RwsAt H' pm (rows ++ [r]) := fun {H'} e => ⟨us ++ [rv], e _ _ h6, pd_snoc ((hr4.mono s5.tk).mono (s6.trans e).tk) (L2.Paired.mapP pus fun _ _ q => q.mono (S6.trans e).tk)⟩
      have hOld : ∀ {H'}, Same H6 H' → RwsAt H' p rows := fun {H'} e => RwsAt.mono (S6.trans e) ⟨us, hus, pus⟩
      have ml : (rows ++ [r]).length ≤ 1000 := by rw [List.length_append, List.length_singleton]; omega
      refine ⟨_, rfl, pm, rows ++ [r], false, rfl, hM (Same.refl _), ml, fun ncf H7 s7 => ?_, fun pc H7 s7 => ?_⟩
      · refine ⟨rfl, _, rfl, ?_⟩
        refine ite2 (fun _ => ?_) (fun h => absurd (decide_eq_true rfl) h)
        refine ⟨_, rfl, true, rfl, ?_⟩
        refine ⟨_, rfl, pm, rows ++ [r], true, rfl, hM s7, ml, fun ncb H8 s8 => ?_, fun pc H8 s8 => ?_⟩
        · refine ⟨rfl, _, rfl, ?_⟩
          refine ite2 (fun _ => ?_) (fun h => absurd (decide_eq_true rfl) h)
          refine ⟨_, rfl, pm, rows ++ [r], _, _, _, rfl, ((S1.trans S6).trans s7).trans s8, hM (s7.trans s8), by rw [List.length_append, List.length_singleton]; omega, fun r' hr' => ?_, ?_, ?_⟩
          · rcases List.mem_append.mp hr' with q | q
            · exact hv r' q
            · rw [List.mem_singleton.mp q]; exact hrv
          · rw [fbs_F] at ncf; exact ncf
          · rw [fbs_T] at ncb; exact ncb
        · refine ⟨rfl, _, rfl, ?_⟩
          refine ite2 (fun h => absurd (of_decide_eq_true h) (by intro z; cases z)) (fun h => ?_)
          exact ⟨p, rows, _, _, _, rfl, ((S1.trans S6).trans s7).trans s8, hOld (s7.trans s8), Nat.le_succ_of_le hrl, hv, nf, nb'⟩
      · refine ⟨rfl, _, rfl, ?_⟩
        refine ite2 (fun h => absurd (of_decide_eq_true h) (by intro z; cases z)) (fun h => ?_)
        exact ⟨p, rows, _, _, _, rfl, (S1.trans S6).trans s7, hOld s7, Nat.le_succ_of_le hrl, hv, nf, nb'⟩
    · rintro σ H1 ⟨p, rows, v4, v5, v6, rfl, S1, hR, hrl, hv, nf, nb'⟩
      rw [List.length_map] at hrl
      exact ⟨_, rfl, kq p rows _ S1 hR (Nat.le_trans hrl hl) hv nf nb'⟩
end
end Bk

set_option Elab.async false
set_option linter.all false
set_option maxRecDepth 100000
namespace Bk
open PySem PySem.Spec PyProof.Rows L2
section
variable {P : Program} {w : World} {K : PySem.W.Frag} {mg : Str → Option Value} {base : Heap} {f : Addr} {fd : FuncData}
/-! ### _law_configuration -/
abbrev sLConf : Stmt := top 35
abbrev nLConf : List Str := ["_law_cell_here", "_law_sizes_here", "_law_digits_here", "_law_tapes", "_law_k", "_law_part", "_law_one"]
theorem scLConf : FnScope nLConf ["_law_cell_here", "_law_sizes_here"] (defScope sLConf) := ⟨rfl, rfl, rfl, by decide +kernel, rfl, by decide +kernel, by decide +kernel⟩
def spLConf : Sp := fun vs H Q _ => ∃ (c : Int) (z : Addr) (k : Nat) (m s : Int), vs = [.int c, .ref z] ∧ H z = some (.tup [.int (k : Nat), .int m, .int s]) ∧ Szs k m s ∧
  ∀ v cf H', Same H H' → CfAt H' v cf → ConfK k cf → SzC 10 cf → Q v H'
theorem ok_lConf (F : Fn K "_law_configuration" "_law_configuration" sLConf f fd) (B : Bi mg) (cD : Cal P w K mg base 2 "_law_digits" spLDigits) (cM : Cal P w K mg base 1 "_law_mark" spLMark) (cT : Cal P w K mg base 1 "_law_trim" spLTrim) :
    FnOk P w K mg base CX0 3 f fd ["_law_cell_here", "_law_sizes_here"] spLConf := by
  refine ok0 F scLConf (fun vs H Q E h => ?_) (fun cdv A outer s H vs Q E hr h => ?_)
  · obtain ⟨c, z, k, m, s, rfl, _⟩ := h
    rfl
  · obtain ⟨c, z, k, m, s, rfl, hz, ⟨k1, k4, m2, m400, m11, s1, s9⟩, kq⟩ := h
    refine ⟨_, pss_cons (ps_set (i := 2) scLConf.nd rfl (.inl rfl) (pe_cal cD hr (by decide) (by rfl) (pa_cons (pv 0) (pa_cons pe_int (pa_cons pe_int pa_nil)))))
      (pss_cons (ps_set (i := 3) scLConf.nd rfl (.inl rfl) (pe_lstN pa_nil))
      (pss_cons (ps_forN PassesOwn.never rfl (pi_range1 (by rfl) B.range (pa_cons (pe_ix ix_N (pv 1) pe_int (fun _ _ => rfl)) pa_nil)) (pg_name (i := 4) scLConf.nd rfl (.inl rfl))
        (pss_cons (ps_setLcN (i := 5) (own := [("_law_one", 6)]) (g := gName 6) rfl scLConf.nd rfl rfl (sw_true rfl rfl rfl (by decide +kernel))
            (pi_list (pe_slice sl_N (pv 2) (po_some (pe_op op_add pe_int (pe_op op_mul pe_int (pv 4)))) (po_some (pe_op op_add pe_int (pe_op op_mul pe_int (pv 4)))))) (blkOk_by (N := nLConf) (sc := defScope sLConf) (by decide +kernel))
            (fun _ _ _ _ _ => pg_name (i := 6) scLConf.nd rfl (Or.inl rfl)) (fun _ _ _ _ _ => pe_cal cM hr (by decide) (by rfl) (pa_cons (pv 6) (pa_cons (pe_ix (r := Ixs K) ix_N (pv 1) pe_int (fun _ _ => rfl)) pa_nil))))
        (pss_one (ps_expr (pe_bm PySem.F.plainAttrs_list PySem.F.slot_list_append PySem.F.type_list_append mt_append (pv 3) (pa_cons (pe_tupN
          (pa_cons (pe_cal cT hr (by decide) (by rfl) (pa_cons (pe_slice sl_N (pv 5) po_none (po_some (pe_op op_mod (pe_ix ix_N (pv 2) pe_int (fun _ _ => rfl)) pe_int))) pa_nil))
          (pa_cons (pe_ix ix_N (pv 5) pe_int (fun _ _ => rfl))
          (pa_cons (pe_cal cT hr (by decide) (by rfl) (pa_cons (pe_slice sl_N (pv 5) (po_some pe_int) (po_some (pe_op op_add pe_int (pe_op op_mod (pe_ix ix_N (pv 2) pe_int (fun _ _ => rfl)) pe_int)))) pa_nil)) pa_nil)))) pa_nil))))))
      (pss_one (ps_ret (pe_tupN (pa_cons (pe_op op_mod (pe_op op_fdiv (pe_ix ix_N (pv 2) pe_int (fun _ _ => rfl)) pe_int) (pe_ix ix_N (pv 1) pe_int (fun _ _ => rfl))) (pa_cons (pe_callTy call_tupN (by rfl) B.tuple boot_tuple' (pa_cons (pv 3) pa_nil)) pa_nil))))))), ?_⟩
    refine ⟨_, rfl, c, 34, 900, rfl, by decide, by decide, by decide, fun pd ds H1 s1 n1 h1 hdl _ => ?_⟩
    refine nLst (by simp) fun pt H2 n2 s2 h2 => ?_
    have S2 := s1.trans s2
    have n2' : H pt = none := s1.free n2
    have n2d : ∀ {H'}, Same H1 H' → H' pd = some (.lst (ds.map V.int)) := fun e => e _ _ h1
    refine ⟨_, rfl, ?_⟩
    refine ixT (S2 _ _ hz) 0 rfl rfl ?_
    refine ⟨k, rfl, by omega, by omega, ?_⟩
    refine forN (n := k) walk_range (fun i σ H' => ∃ v4 v5 ts us, σ = [some (.int c), some (.ref z), some (.ref pd), some (.ref pt), v4, v5, none] ∧ Same H1 H' ∧ H' pt = some (.lst us) ∧ Paired (TpAt H') us ts ∧ ts.length = i ∧ ∀ t ∈ ts, TpOk t ∧ t.l.length ≤ 10 ∧ t.r.length ≤ 10)
      ⟨none, none, [], [], rfl, s2, h2, .nil, rfl, fun t ht => by cases ht⟩ (fun _ _ _ _ _ => trivial) ?_ ?_
    · rintro i x σ H3 H4 hi ⟨v4, v5, ts, us, rfl, S3, hpt, pts, tl, tok⟩ ⟨rfl, rfl⟩
      -- the part
      refine ⟨_, rfl, _, rfl, _, _, rfl, rfl, .inl ⟨by decide, by decide⟩, _, _, rfl, rfl, 2 + 8 * (0 + (i : Int)), rfl, _, rfl, _, _, rfl, rfl, .inl ⟨by decide, by decide⟩, _, _, rfl, rfl, 10 + 8 * (0 + (i : Int)), rfl, ?_⟩
      refine slL (SqL.of (S3 _ _ h1)) fun ps H5 n5 s5 h5 => ?_
      rw [cutV_mid _ (i := 2 + 8 * i) (j := 10 + 8 * i) (by omega) (by omega) (by omega) (by rw [List.length_map, hdl]; omega)] at h5
      have l8 : (((ds.map V.int).drop (2 + 8 * i)).take (10 + 8 * i - (2 + 8 * i))).length = 8 := by
        rw [List.length_take, List.length_drop, List.length_map, hdl]; omega
      refine ⟨ps, rfl, ⟨_, SqL.of h5⟩, ?_⟩
      refine lcN (walk_list (xs := ((ds.map V.int).drop (2 + 8 * i)).take (10 + 8 * i - (2 + 8 * i)))) (fun _ _ v => ∃ n, v = .int n ∧ True) (by omega) (fun _ _ _ _ _ _ h => h) (fun H' e => e.seq (SqL.of h5)) ?_ ?_ gm_name
      · rintro j x H6 H7 hj S6 ⟨rfl, hx⟩ Q' kq
        obtain ⟨d, rfl⟩ : ∃ d, x = .int d := by
          rw [← List.map_drop, ← List.map_take, List.getElem?_map] at hx
          obtain ⟨d, _, e⟩ := Option.map_eq_some_iff.mp hx
          exact ⟨d, e.symm⟩
        refine ⟨rfl, _, rfl, _, rfl, ?_⟩
        refine ixT (S6 _ _ (s5 _ _ (S3 _ _ (s1 _ _ hz)))) 1 rfl rfl ?_
        exact ⟨d, m, rfl, m2, m11, fun i H' _ S' => kq _ _ S' ⟨i, rfl, trivial⟩⟩
      · intro D H6 ms hD S6 hm hml hall
        obtain ⟨pn, e, pl, _⟩ := ints_ex hall
        subst e
        rw [l8] at hml
        have S6' := s5.trans S6
        have pl8 : pn.length = 8 := by rw [pl, hml]
        -- append((trim(..), part[3], trim(..)))
        refine ⟨_, rfl, .inl ⟨rfl, _, SqL.of (S6' _ _ hpt)⟩, _, rfl, _, rfl, ?_⟩
        refine ixL (SqL.of (S6' _ _ (S3 _ _ h1))) 0 rfl (int_at (by omega)) ?_
        refine ⟨_, _, rfl, rfl, (by show (0 : Int) < 4; decide), _, rfl, ?_⟩
        refine slL (SqL.of hm) fun q1 H7 n7 s7 h7 => ?_
        have e0 : (ds[0] % (4 : Int)) = (((ds[0] % (4 : Int)).toNat : Nat) : Int) := (Int.toNat_of_nonneg (by omega)).symm
        have l0 : (ds[0] % 4).toNat ≤ 3 := by omega
        rw [e0, cutV_to _ _ (by rw [List.length_map]; omega), ← List.map_take] at h7
        refine ⟨q1, _, rfl, .inr h7, by rw [List.length_take]; omega, fun lv H8 s8 hlv => ?_⟩
        refine ⟨_, rfl, ?_⟩
        have S8 := s7.trans s8
        refine ixL (SqL.of (S8 _ _ hm)) 3 rfl (int_at (by omega)) ?_
        refine ⟨_, rfl, _, rfl, _, rfl, ?_⟩
        refine ixL (SqL.of (S8 _ _ (S6' _ _ (S3 _ _ h1)))) 1 rfl (int_at (by omega)) ?_
        refine ⟨_, _, rfl, rfl, (by show (0 : Int) < 4; decide), _, _, rfl, rfl, _, rfl, ?_⟩
        refine slL (SqL.of (S8 _ _ hm)) fun q2 H9 n9 s9 h9 => ?_
        rw [cutV_mid (pn.map V.int) (a := 4) (b := (4 : Int) + ds[1] % (4 : Int)) (i := 4) (j := 4 + (ds[1] % (4 : Int)).toNat) (by rfl) (by omega) (by omega) (by rw [List.length_map]; omega), ← List.map_drop, ← List.map_take] at h9
        refine ⟨q2, _, rfl, .inr h9, by rw [List.length_take]; omega, fun rv H10 s10 hrv => ?_⟩
        refine nTup (by simp) fun pu H11 n11 s11 h11 => ?_
        have S11 : Same H6 H11 := ((S8.trans s9).trans s10).trans s11
        have SS := S6'.trans S11
        have hpt' := SS _ _ hpt
        refine ⟨pt, us, _, rfl, rfl, hpt', ?_, ?_⟩
        · rw [pd_len pts, tl]; exact smallT (by omega)
        · have tk : Tk H11 (upd H11 pt (.lst (us ++ [.ref pu]))) := Tk.mutL hpt'
          refine ⟨_, _, ts ++ [⟨trim (pn.take (ds[0] % 4).toNat), pn[3], trim ((pn.drop 4).take (4 + (ds[1] % 4).toNat - 4))⟩], _, rfl, (S3.trans SS).mut n2, upd_same, pd_snoc ?_ (L2.Paired.mapP pts fun _ _ q => q.mono (SS.tk.trans tk)), ?_, fun t ht => ?_⟩
          · exact ⟨pu, _, _, rfl, tk _ _ h11, hlv.mono (((s9.trans s10).trans s11).tk.trans tk), hrv.mono (s11.tk.trans tk)⟩
          · rw [List.length_append, tl]; rfl
          · rcases List.mem_append.mp ht with q | q
            · exact tok t q
            · rw [List.mem_singleton.mp q]
              refine ⟨⟨Trd.of _, Trd.of _⟩, ?_, ?_⟩
              · refine Nat.le_trans (trim_length _) ?_
                rw [List.length_take]; omega
              · refine Nat.le_trans (trim_length _) ?_
                rw [List.length_take]; omega
    · rintro σ H3 ⟨v4, v5, ts, us, rfl, S3, hpt, pts, tl, tok⟩
      refine ⟨_, rfl, ?_⟩
      refine ixL (SqL.of (S3 _ _ h1)) 0 rfl (int_at (by omega)) ?_
      refine ⟨_, _, rfl, rfl, ⟨by decide, by decide⟩, _, rfl, ?_⟩
      refine ixT (S3 _ _ (s1 _ _ hz)) 2 rfl rfl ?_
      refine ⟨_, _, rfl, rfl, (by show (0 : Int) < s; omega), _, rfl, ?_⟩
      refine tupL hpt fun q H4 s4 h4 => ?_
      refine nTup (by simp) fun u H5 n5 s5 h5 => ?_
      refine kq _ ⟨ds[0] / 4 % s, ts⟩ _ (((s1.trans S3).trans s4).trans s5) ⟨u, _, rfl, h5, q, us, rfl, s5 _ _ h4, L2.Paired.mapP pts fun _ _ q => q.mono (s4.trans s5).tk⟩ ⟨tl, fun t ht => (tok t ht).1⟩ fun t ht => (tok t ht).2
end
end Bk

set_option Elab.async false
set_option linter.all false
set_option maxRecDepth 100000
namespace Bk
open PySem PySem.Spec PyProof.Rows L2
theorem tps_of {H : Hp} {us : List V} {ts : List Tp} (hl : us.length = ts.length) (h : ∀ (i : Nat) (v : V), us[i]? = some v → ∃ t, ts[i]? = some t ∧ TpAt H v t) : Paired (TpAt H) us ts :=
  pd_of hl fun i x y hx hy => by
    obtain ⟨t, e, q⟩ := h i x hx
    rw [e] at hy
    cases hy
    exact q
theorem zw_get {f : Tp → Int → Tp} {ts : List Tp} {ms : List Int} {i : Nat} {t : Tp} {v : Int} (h1 : ts[i]? = some t) (h2 : ms[i]? = some v) : (List.zipWith f ts ms)[i]? = some (f t v) := by
  rw [List.getElem?_zipWith, h1, h2]
theorem app_mv {q t : Int} {ms : List Int} {c : Conf} (h : q = c.s) : (Row.mv q ms t).app c = some ⟨t, List.zipWith moved c.ts ms⟩ := if_pos h
theorem app_mv_no {q t : Int} {ms : List Int} {c : Conf} (h : ¬ q = c.s) : (Row.mv q ms t).app c = none := if_neg h
theorem app_wr {q t : Int} {rs ws : List Int} {c : Conf} (h : q = c.s ∧ rs = heads c) : (Row.wr q rs ws t).app c = some ⟨t, List.zipWith setM c.ts ws⟩ := if_pos h
theorem app_wr_no {q t : Int} {rs ws : List Int} {c : Conf} (h : ¬ (q = c.s ∧ rs = heads c)) : (Row.wr q rs ws t).app c = none := if_neg h
section
variable {P : Program} {w : World} {K : PySem.W.Frag} {mg : Str → Option Value} {base : Heap} {f : Addr} {fd : FuncData}
/-! ### _law_after -/
abbrev sLAfter : Stmt := top 37
abbrev nLAfter : List Str := ["_law_rows_here", "_law_configuration_here", "_law_state", "_law_tapes", "_law_heads", "_law_row_here", "_law_tape", "_law_k"]
theorem scLAfter : FnScope nLAfter ["_law_rows_here", "_law_configuration_here"] (defScope sLAfter) := ⟨rfl, rfl, rfl, by decide +kernel, rfl, by decide +kernel, by decide +kernel⟩
def spLAfter : Sp := fun vs H Q _ => ∃ (a : Addr) (v : V) (rows : List Row) (c : Conf) (k : Nat), vs = [.ref a, v] ∧ RwsAt H a rows ∧ (∀ r ∈ rows, RowK k r) ∧ CfAt H v c ∧ ConfK k c ∧ SzC 900 c ∧ k ≤ 4 ∧
  ∀ v' H', Same H H' → OcAt H' v' (after rows c) → Q v' H'
theorem ok_lAfter (F : Fn K "_law_after" "_law_after" sLAfter f fd) (B : Bi mg) (cM : Cal P w K mg base 2 "_law_moved" spMoved) : FnOk P w K mg base CX0 3 f fd ["_law_rows_here", "_law_configuration_here"] spLAfter := by
  refine ok0 F scLAfter (fun vs H Q E h => ?_) (fun cdv A outer s H vs Q E hr h => ?_)
  · obtain ⟨a, v, rows, c, k, rfl, _⟩ := h
    rfl
  · obtain ⟨a, v, rows, ⟨st, ts⟩, k, rfl, ⟨rv, hrv, prv⟩, hk, ⟨pc, x, rfl, hc, pt, tv, rfl, htv, ptv⟩, ⟨htl, _⟩, hsz, hk4, kq⟩ := h
    dsimp only at hc ptv htl
    have htl2 : tv.length = k := (pd_len ptv).trans htl
    refine ⟨_, pss_cons (ps_asg (pv 1) (pg_tup rfl (pgs_cons (pg_name (i := 2) scLAfter.nd rfl (.inl rfl)) (pgs_cons (pg_name (i := 3) scLAfter.nd rfl (.inr rfl)) pgs_nil))))
      (pss_cons (ps_set (i := 4) scLAfter.nd rfl (.inl rfl) (pe_callTy call_tupN (by rfl) B.tuple boot_tuple' (pa_cons (pe_lcN (own := [("_law_tape", 6)]) (g := gName 6) rfl scLAfter.nd (pi_tup (pv 3)) (blkOk_by (N := nLAfter) (sc := defScope sLAfter) (by decide +kernel))
            (fun _ _ _ _ _ => pg_name (i := 6) scLAfter.nd rfl (Or.inl rfl)) (fun _ _ _ _ _ => pe_ix (r := Ixs K) ix_N (pv 6) pe_int (fun _ _ => rfl))) pa_nil)))
      (pss_cons (ps_forN PassesOwn.never rfl (pi_list (pv 0)) (pg_name (i := 5) scLAfter.nd rfl (.inr rfl))
        (pss_cons (ps_if (PW.pt (pw_and (pt_cmpR op_eq (pe_ix ix_N (pv 5) pe_int (fun _ _ => rfl)) (pv 2) (nomark _)) (pw_and1 (pt_cmpR op_eq (pe_ix ix_N (pv 5) pe_int (fun _ _ => rfl)) pe_str (nomark _)))))
          (pss_one (ps_ret (pe_tupN (pa_cons (pe_ix ix_N (pv 5) pe_int (fun _ _ => rfl)) (pa_cons (pe_callTy call_tupN (by rfl) B.tuple boot_tuple' (pa_cons (pe_lcN (own := [("_law_k", 7)]) (g := gName 7) rfl scLAfter.nd (pi_range1 (by rfl) B.range (pa_cons (pe_callB call_lenN (by rfl) B.len boot_len (pa_cons (pv 3) pa_nil)) pa_nil)) (blkOk_by (N := nLAfter) (sc := defScope sLAfter) (by decide +kernel))
            (fun _ _ _ _ _ => pg_name (i := 7) scLAfter.nd rfl (Or.inl rfl)) (fun _ _ _ _ _ => pe_cal cM hr (by decide) (by rfl) (pa_cons (pe_ix (r := Ixs K) ix_N (pv 3) (pv 7) (fun _ _ => rfl)) (pa_cons (pe_ix (r := Ixs K) ix_N (pe_ix (r := Ixs K) ix_N (pv 5) pe_int (fun _ _ => rfl)) (pv 7) (fun _ _ => rfl)) pa_nil)))) pa_nil)) pa_nil))))) pss_nil)
        (pss_one (ps_if (PW.pt (pw_and (pt_cmpR op_eq (pe_ix ix_N (pv 5) pe_int (fun _ _ => rfl)) (pv 2) (nomark _)) (pw_and1 (pt_cmpR (op_eqN hr.units) (pe_ix ix_N (pv 5) pe_int (fun _ _ => rfl)) (pv 4) (nomark _)))))
          (pss_one (ps_ret (pe_tupN (pa_cons (pe_ix ix_N (pv 5) pe_int (fun _ _ => rfl)) (pa_cons (pe_callTy call_tupN (by rfl) B.tuple boot_tuple' (pa_cons (pe_lcN (own := [("_law_k", 7)]) (g := gName 7) rfl scLAfter.nd (pi_range1 (by rfl) B.range (pa_cons (pe_callB call_lenN (by rfl) B.len boot_len (pa_cons (pv 3) pa_nil)) pa_nil)) (blkOk_by (N := nLAfter) (sc := defScope sLAfter) (by decide +kernel))
            (fun _ _ _ _ _ => pg_name (i := 7) scLAfter.nd rfl (Or.inl rfl)) (fun _ _ _ _ _ => pe_tupN (pa_cons (pe_ix (r := Ixs K) ix_N (pe_ix (r := Ixs K) ix_N (pv 3) (pv 7) (fun _ _ => rfl)) pe_int (fun _ _ => rfl)) (pa_cons (pe_ix (r := Ixs K) ix_N (pe_ix (r := Ixs K) ix_N (pv 5) pe_int (fun _ _ => rfl)) (pv 7) (fun _ _ => rfl)) (pa_cons (pe_ix (r := Ixs K) ix_N (pe_ix (r := Ixs K) ix_N (pv 3) (pv 7) (fun _ _ => rfl)) pe_int (fun _ _ => rfl)) pa_nil))))) pa_nil)) pa_nil))))) pss_nil))))
      (pss_one (ps_ret pe_non)))), ?_⟩
    refine ⟨_, rfl, pc, _, rfl, SqT.of hc, rfl, _, _, rfl, _, _, rfl, rfl, ?_⟩
    -- the heads
    refine ⟨_, rfl, pt, rfl, ⟨_, SqT.of htv⟩, ?_⟩
    refine lcN (walk_tup (xs := tv)) (fun i _ v => ∃ n, (ts.map (·.m))[i]? = some n ∧ v = .int n) (by omega) (fun _ _ _ _ _ _ h => h) (fun H' e => e.seqT (SqT.of htv)) ?_ ?_ gm_name
    · rintro i x H1 H2 hi S ⟨rfl, hx⟩ Q' kq
      obtain ⟨t, et, a', x', y', rfl, ha', _⟩ := pd_get ptv hx
      refine ⟨rfl, _, rfl, ?_⟩
      refine ixT (S _ _ ha') 1 rfl rfl ?_
      exact kq _ _ (Same.refl _) ⟨t.m, by rw [List.getElem?_map, et]; rfl, rfl⟩
    · intro D H1 us hD S1 hu hul hall
      have e := ints_of (ns := ts.map (·.m)) (by rw [List.length_map, hul, htl2, htl]) hall
      subst e
      refine tupL hu fun ph H2 S2 hph => ?_
      have SS := S1.trans S2
      refine ⟨_, rfl, a, rfl, ⟨_, SqL.of (SS _ _ hrv)⟩, ?_⟩
      have len4 : ∀ {H'}, Same H H' → ∀ Q' : VK, Q' (.int (k : Nat)) H' → LenS K [.ref pt] H' Q' := fun e Q' q => lenT (e _ _ htv) (by rw [htl2]; exact q)
      refine forN (walk_list (xs := rv)) (fun i σ H' => ∃ v5, σ = [some (.ref a), some (.ref pc), some (.int st), some (.ref pt), some (.ref ph), v5, none, none] ∧ Same H2 H' ∧ after (rows.drop i) ⟨st, ts⟩ = after rows ⟨st, ts⟩)
        ⟨none, rfl, Same.refl _, rfl⟩ (fun i σ H' _ ⟨_, _, e, _⟩ => (SS.trans e).seq (SqL.of hrv)) ?_ ?_
      · rintro i x σ H3 H4 hi ⟨v5, rfl, S3, hd⟩ ⟨rfl, hx⟩
        obtain ⟨r, er, ar⟩ := pd_get prv hx
        have S4 := SS.trans S3
        have ar := ar.mono S4.tk
        have hrk := hk r (List.mem_of_getElem? er)
        rw [drop_get er, after_cons] at hd
        have next : r.app ⟨st, ts⟩ = none → after (rows.drop (i + 1)) ⟨st, ts⟩ = after rows ⟨st, ts⟩ := fun n => by
          rw [n] at hd; exact hd
        have found : ∀ d, r.app ⟨st, ts⟩ = some d → after rows ⟨st, ts⟩ = some d := fun d n => by
          rw [n] at hd; exact hd.symm
        cases r with
        | mv q ms t =>
          obtain ⟨b, y, rfl, hb, pm, rfl, hm⟩ := ar
          refine ⟨_, rfl, ?_⟩
          refine ixT hb 1 rfl rfl ?_
          refine ⟨_, rfl, rfl, _, rfl, ite2 (fun h1 => ?_) (fun h1 => ?_)⟩
          · obtain rfl : q = st := V.int.inj (of_decide_eq_true h1)
            refine ⟨_, rfl, ?_⟩
            refine ixT hb 0 rfl rfl ?_
            refine ⟨rfl, _, rfl, ite2 (fun h2 => ?_) (fun h2 => absurd (decide_eq_true rfl) h2)⟩
            refine ⟨_, rfl, ?_⟩
            refine ixT hb 3 rfl rfl ?_
            refine ⟨_, rfl, ?_⟩
            refine len4 S4 _ ?_
            refine ⟨k, rfl, by omega, by omega, ?_⟩
            refine lcN (n := k) walk_range (fun i H' v => ∃ t, (List.zipWith moved ts ms)[i]? = some t ∧ TpAt H' v t) (by omega) (fun _ _ _ _ _ e ⟨t, a, b⟩ => ⟨t, a, b.mono e⟩) (fun _ _ => trivial) ?_ ?_ gm_name
            · rintro j x H5 H6 hj S5 ⟨rfl, rfl⟩ Q' kq'
              obtain ⟨tvj, etv⟩ : ∃ v, tv[j]? = some v := ⟨_, List.getElem?_eq_getElem (by omega)⟩
              obtain ⟨tj, etj, atj⟩ := pd_get ptv etv
              obtain ⟨mj, emj⟩ : ∃ v, ms[j]? = some v := ⟨_, List.getElem?_eq_getElem (by rw [hrk.1]; exact hj)⟩
              refine ⟨rfl, _, rfl, _, rfl, ?_⟩
              refine ixT (S5 _ _ (S4 _ _ htv)) j (by omega) etv ?_
              refine ⟨_, rfl, ?_⟩
              refine ixT (S5 _ _ hb) 2 rfl rfl ?_
              refine ⟨_, rfl, ?_⟩
              refine ixT (v := .int mj) (S5 _ _ hm) j (by omega) (by rw [List.getElem?_map, emj]; rfl) ?_
              have b := hsz tj (List.mem_of_getElem? etj)
              exact ⟨_, tj, mj, rfl, atj.mono (S4.trans S5).tk, by omega, by omega, fun v' H' S' hv' => kq' _ _ S' ⟨_, zw_get etj emj, hv'⟩⟩
            · intro D H5 us hD S5 hu hul hall
              refine tupL hu fun pu H6 S6 hpu => ?_
              refine nTup (by simp) fun pr H7 n7 S7 hpr => ?_
              refine kq _ _ (((S4.trans S5).trans S6).trans S7) ?_
              rw [found _ (app_mv rfl)]
              refine ⟨pr, _, rfl, hpr, pu, us, rfl, S7 _ _ hpu, tps_of ?_ fun i v hv => ?_⟩
              · show us.length = (List.zipWith moved ts ms).length
                rw [hul, List.length_zipWith, htl, hrk.1, Nat.min_self]
              · obtain ⟨t, e1, e2⟩ := hall i v hv
                exact ⟨t, e1, e2.mono (S6.trans S7).tk⟩
          · have hq : ¬ q = st := fun z => h1 (decide_eq_true (by rw [z]))
            refine ⟨_, rfl, ?_⟩
            refine ixT hb 1 rfl rfl ?_
            refine ⟨_, rfl, rfl, _, rfl, ite2 (fun h2 => absurd h2 h1) (fun _ => ?_)⟩
            exact ⟨_, rfl, S3, next (app_mv_no hq)⟩
        | wr q rs ws t =>
          obtain ⟨b, y, z, rfl, hb, ⟨pm, rfl, hm⟩, ⟨pw, rfl, hw⟩⟩ := ar
          have wno : ¬ (V.str ("write" : Str) = V.str "move") := fun e => wr_mv (V.str.inj e).symm
          refine ⟨_, rfl, ?_⟩
          refine ixT hb 1 rfl rfl ?_
          refine ⟨_, rfl, rfl, _, rfl, ite2 (fun h1 => ?_) (fun h1 => ?_)⟩
          · obtain rfl : q = st := V.int.inj (of_decide_eq_true h1)
            refine ⟨_, rfl, ?_⟩
            refine ixT hb 0 rfl rfl ?_
            refine ⟨rfl, _, rfl, ite2 (fun h2 => absurd (of_decide_eq_true h2) wno) (fun _ => ?_)⟩
            refine ⟨_, rfl, ?_⟩
            refine ixT hb 1 rfl rfl ?_
            refine ⟨_, rfl, rfl, _, rfl, ite2 (fun _ => ?_) (fun h => absurd h1 h)⟩
            refine ⟨_, rfl, ?_⟩
            refine ixT hb 2 rfl rfl ?_
            refine ⟨_, rfl, ?_⟩
            refine eqD (Ints.dp ⟨pm, rfl, hm⟩) (Ints.dp ⟨ph, rfl, S3 _ _ hph⟩) 1 (Sh.ints _) (Sh.ints _) (by decide) ?_
            rw [eqv_intsD]
            refine ⟨_, rfl, ite2 (fun h3 => ?_) (fun h3 => ?_)⟩
            · have hh : rs = heads ⟨q, ts⟩ := of_decide_eq_true h3
              refine ⟨_, rfl, ?_⟩
              refine ixT hb 4 rfl rfl ?_
              refine ⟨_, rfl, ?_⟩
              refine len4 S4 _ ?_
              refine ⟨k, rfl, by omega, by omega, ?_⟩
              refine lcN (n := k) walk_range (fun i H' v => ∃ t, (List.zipWith setM ts ws)[i]? = some t ∧ TpAt H' v t) (by omega) (fun _ _ _ _ _ e ⟨t, a, b⟩ => ⟨t, a, b.mono e⟩) (fun _ _ => trivial) ?_ ?_ gm_name
              · rintro j x H5 H6 hj S5 ⟨rfl, rfl⟩ Q' kq'
                obtain ⟨tvj, etv⟩ : ∃ v, tv[j]? = some v := ⟨_, List.getElem?_eq_getElem (by omega)⟩
                obtain ⟨tj, etj, atj⟩ := pd_get ptv etv
                obtain ⟨wj, ewj⟩ : ∃ v, ws[j]? = some v := ⟨_, List.getElem?_eq_getElem (by rw [hrk.2]; exact hj)⟩
                obtain ⟨pj, xj, yj, rfl, hj1, hj2, hj3⟩ := atj.mono (S4.trans S5).tk
                refine ⟨rfl, _, rfl, _, rfl, ?_⟩
                refine ixT (S5 _ _ (S4 _ _ htv)) j (by omega) etv ?_
                refine ixT hj1 0 rfl rfl ?_
                refine ⟨_, rfl, ?_⟩
                refine ixT (S5 _ _ hb) 3 rfl rfl ?_
                refine ⟨_, rfl, ?_⟩
                refine ixT (v := .int wj) (S5 _ _ hw) j (by omega) (by rw [List.getElem?_map, ewj]; rfl) ?_
                refine ⟨_, rfl, _, rfl, ?_⟩
                refine ixT (S5 _ _ (S4 _ _ htv)) j (by omega) etv ?_
                refine ixT hj1 2 rfl rfl ?_
                refine nTup (by simp) fun pn H7 n7 S7 hpn => ?_
                exact kq' _ _ S7 ⟨_, zw_get etj ewj, pn, _, _, rfl, hpn, hj2.mono S7.tk, hj3.mono S7.tk⟩
              · intro D H5 us hD S5 hu hul hall
                refine tupL hu fun pu H6 S6 hpu => ?_
                refine nTup (by simp) fun pr H7 n7 S7 hpr => ?_
                refine kq _ _ (((S4.trans S5).trans S6).trans S7) ?_
                rw [found _ (app_wr ⟨rfl, hh⟩)]
                refine ⟨pr, _, rfl, hpr, pu, us, rfl, S7 _ _ hpu, tps_of ?_ fun i v hv => ?_⟩
                · show us.length = (List.zipWith setM ts ws).length
                  rw [hul, List.length_zipWith, htl, hrk.2, Nat.min_self]
                · obtain ⟨t, e1, e2⟩ := hall i v hv
                  exact ⟨t, e1, e2.mono (S6.trans S7).tk⟩
            · exact ⟨_, rfl, S3, next (app_wr_no fun z => h3 (decide_eq_true z.2))⟩
          · have hq : ¬ q = st := fun z => h1 (decide_eq_true (by rw [z]))
            refine ⟨_, rfl, ?_⟩
            refine ixT hb 1 rfl rfl ?_
            refine ⟨_, rfl, rfl, _, rfl, ite2 (fun h2 => absurd h2 h1) (fun _ => ?_)⟩
            exact ⟨_, rfl, S3, next (app_wr_no fun z => hq z.1)⟩
      · rintro σ H3 ⟨v5, rfl, S3, hd⟩
        refine kq _ _ (SS.trans S3) ?_
        rw [pd_len prv, List.drop_length] at hd
        rw [← hd]
        rfl
end
end Bk

set_option Elab.async false
set_option linter.all false
set_option maxRecDepth 100000
namespace Bk
open PySem PySem.Spec PyProof.Rows L2
theorem NC.symm {r r' : Row} (h : NC r r') : NC r' r := by
  cases r with
  | mv q ms t => cases r' <;> exact fun e => h e.symm
  | wr q rs ws t =>
    cases r' with
    | mv q' ms' t' => exact fun e => h e.symm
    | wr q' rs' ws' t' => exact fun e z => h e.symm z.symm
theorem NC.both {r r' : Row} (h : NC r r') (e : r.st = r'.st) : r.isW = true ∧ r'.isW = true ∧ r.rd ≠ r'.rd := by
  cases r with
  | mv q ms t => cases r' <;> exact absurd e h
  | wr q rs ws t =>
    cases r' with
    | mv q' ms' t' => exact absurd e h
    | wr q' rs' ws' t' => exact ⟨rfl, rfl, h e⟩
theorem NCs.at {rows : List Row} (n : NCs rows) {i j : Nat} {r r' : Row} (h : i ≠ j) (hi : rows[i]? = some r) (hj : rows[j]? = some r') : NC r r' := by
  obtain ⟨li, ei⟩ := List.getElem?_eq_some_iff.mp hi
  obtain ⟨lj, ej⟩ := List.getElem?_eq_some_iff.mp hj
  rw [NCs, List.pairwise_iff_getElem] at n
  rcases Nat.lt_or_gt_of_ne h with l | l
  · have := n i j li lj l
    rw [ei, ej] at this
    exact this
  · have := n j i lj li l
    rw [ei, ej] at this
    exact this.symm
theorem pt_never {X : Cx} {e : Expr} : PT X e (fun _ _ _ => False) := ⟨fun _ _ _ _ _ _ h => h.elim⟩
theorem map_kV (rs : List Int) : (rs.map Sum.inl : List Key).map kV = rs.map V.int := by
  rw [List.map_map]; rfl
section
variable {P : Program} {w : World} {K : PySem.W.Frag} {mg : Str → Option Value} {base : Heap} {f : Addr} {fd : FuncData}
/-! ### _clash_among -/
abbrev sAmong : Stmt := top 16
abbrev nAmong : List Str := ["rows", "indexes", "at", "first", "other", "found", "known", "reads"]
theorem scAmong : FnScope nAmong ["rows", "indexes"] (defScope sAmong) := ⟨rfl, rfl, rfl, by decide +kernel, rfl, by decide +kernel, by decide +kernel⟩
def nats (is : List Nat) : List V := is.map fun i => V.int (i : Nat)
def spAmong : Sp := fun vs H Q _ => ∃ (a b : Addr) (rows : List Row) (is : List Nat) (q : Int), vs = [.ref a, .ref b] ∧ RwsAt H a rows ∧ NCs rows ∧ H b = some (.lst (nats is)) ∧ is.length ≤ 1000 ∧ is.Nodup ∧ (∀ i ∈ is, ∃ r, rows[i]? = some r ∧ r.st = q) ∧
  ∀ H', Same H H' → Q .non H'
theorem ok_among (F : Fn K "_clash_among" "_clash_among" sAmong f fd) (B : Bi mg) : FnOk P w K mg base CX0 1 f fd ["rows", "indexes"] spAmong := by
  refine ok0 F scAmong (fun vs H Q E h => ?_) (fun cdv A outer s H vs Q E hr h => ?_)
  · obtain ⟨a, b, rows, is, q, rfl, _⟩ := h
    rfl
  · obtain ⟨a, b, rows, is, q, rfl, ⟨rv, hrv, prv⟩, hn, hb, hl, hd, hi, kq⟩ := h
    have hlen : (nats is).length = is.length := List.length_map ..
    refine ⟨_, pss_cons (ps_if (pt_cmpR op_lt (pe_callB call_lenN (by rfl) B.len boot_len (pa_cons (pv 1) pa_nil)) pe_int (nomark _)) (pss_one (ps_ret pe_non)) pss_nil)
      (pss_cons (ps_if (pt_val (pe_callB (cr_anyN rfl) (by rfl) B.any boot_any' (pa_cons (pe_lcN (own := [("at", 2)]) (g := gName 2) rfl scAmong.nd (pi_list (pv 1)) (blkOk_by (N := nAmong) (sc := defScope sAmong) (by decide +kernel))
          (fun _ _ _ _ _ => pg_name (i := 2) scAmong.nd rfl (Or.inl rfl)) (fun _ _ _ _ _ => pe_cmpR op_eq (pe_ix (r := Ixs K) ix_N (pe_ix (r := Ixs K) ix_N (pv 0) (pv 2) (fun _ _ => rfl)) pe_int (fun _ _ => rfl)) pe_str (nomark _))) pa_nil))) pss_never pss_nil)
      (pss_cons (ps_set (i := 5) scAmong.nd rfl (.inl rfl) pe_non)
      (pss_cons (ps_set (i := 6) scAmong.nd rfl (.inl rfl) pe_dT)
      (pss_cons (ps_forN PassesOwn.never rfl (pi_list (pv 1)) (pg_name (i := 2) scAmong.nd rfl (.inl rfl))
        (pss_cons (ps_set (i := 7) scAmong.nd rfl (.inl rfl) (pe_ix ix_N (pe_ix ix_N (pv 0) (pv 2) (fun _ _ => rfl)) pe_int (fun _ _ => rfl)))
        (pss_one (ps_if (pt_cmp (pc_dnotin (hu_of hr) (pv 7) (pv 6)) rfl) (pss_one (ps_dput (hu_of hr) (pv 6) (pv 7) (pv 2) rfl)) (pss_one ps_never)))))
      (pss_one (ps_ret (pv 5))))))), ?_⟩
    refine ⟨_, rfl, ?_⟩
    refine lenL (SqL.of hb) ?_
    refine ⟨_, _, rfl, rfl, _, rfl, ite2 (fun _ => kq _ (Same.refl _)) (fun h2 => ?_)⟩
    have h2' : 2 ≤ is.length := by
      have := of_decide_eq_false (Bool.eq_false_iff.mpr h2)
      omega
    -- every row that is met writes
    have row_ : ∀ (i : Nat), i < is.length → ∃ n r v, is[i]? = some n ∧ rows[n]? = some r ∧ rv[n]? = some v ∧ RwAt H v r ∧ r.st = q := fun i hi' => by
      have e : is[i]? = some is[i] := List.getElem?_eq_getElem hi'
      obtain ⟨r, er, es⟩ := hi is[i] (List.getElem_mem hi')
      obtain ⟨v, ev, av⟩ := pd_get' prv er
      exact ⟨_, r, v, e, er, ev, av, es⟩
    have ne_ : ∀ (i j : Nat) (n m : Nat), i ≠ j → is[i]? = some n → is[j]? = some m → n ≠ m := fun i j n m hij e1 e2 z => by
      subst z
      exact hij (nd_ix hd e1 e2)
    have wr_ : ∀ (i n : Nat) (r : Row), is[i]? = some n → rows[n]? = some r → r.st = q → r.isW = true := fun i n r e1 e2 e3 => by
      obtain ⟨j, hj, hij⟩ : ∃ j, j < is.length ∧ i ≠ j := by
        by_cases z : i = 0
        · exact ⟨1, by omega, by omega⟩
        · exact ⟨0, by omega, z⟩
      obtain ⟨m, r', _, f1, f2, _, _, f4⟩ := row_ j hj
      exact ((hn.at (ne_ i j n m hij e1 f1) e2 f2).both (e3.trans f4.symm)).1
    refine ⟨_, rfl, b, rfl, ⟨_, SqL.of hb⟩, ?_⟩
    refine lcN (walk_list (xs := nats is)) (fun _ _ v => v = .bl false) (by omega) (fun _ _ _ _ _ _ h => h) (fun H' e => e.seq (SqL.of hb)) ?_ ?_ gm_name
    · rintro i x H1 H2 hi' S ⟨rfl, hx⟩ Q' kq'
      obtain ⟨n, r, v, e1, e2, e3, e4, e5⟩ := row_ i (by omega)
      have ex : x = .int (n : Nat) := by
        rw [nats, List.getElem?_map, e1] at hx
        exact (Option.some.inj hx).symm
      subst ex
      obtain ⟨a1, xs1, ea1, ha1, x10, _⟩ := (e4.mono S.tk).parts
      subst ea1
      refine ⟨rfl, _, rfl, _, rfl, ?_⟩
      refine ixL (SqL.of (S _ _ hrv)) n rfl e3 ?_
      refine ixT ha1 0 rfl x10 ?_
      refine ⟨rfl, kq' _ _ (Same.refl _) ?_⟩
      have hw := wr_ i n r e1 e2 e5
      cases r with
      | mv q' ms t => cases hw
      | wr q' rs ws t => exact congrArg V.bl (decide_eq_false fun e => wr_mv (V.str.inj e).symm)
    · intro D H1 us hD S1 hu hul hall
      refine anyB (bs := List.replicate us.length false) (by rw [← blsF_of hall]; exact SqL.of hu) ?_
      rw [any_rep]
      refine ⟨false, rfl, ?_⟩
      refine nObj fun pd H2 n2 S2 hpd => ?_
      have SS := S1.trans S2
      have n2' : H pd = none := S1.free n2
      refine ⟨_, rfl, b, rfl, ⟨_, SqL.of (SS _ _ hb)⟩, ?_⟩
      refine forN (walk_list (xs := nats is)) (fun i σ H' => ∃ v2 v7 kvs, σ = [some (.ref a), some (.ref b), v2, none, none, some .non, some (.ref pd), v7] ∧ Same H H' ∧ H' pd = some (.dT kvs) ∧ kvs.length ≤ i ∧
          ∀ rs : List Int, valV kvs (rs.map Sum.inl : List Key) ≠ none → ∃ j n r, j < i ∧ is[j]? = some n ∧ rows[n]? = some r ∧ r.rd = rs)
        ⟨none, none, [], rfl, SS, hpd, Nat.le_refl _, fun rs h => absurd valV_nil h⟩ (fun i σ H' _ ⟨_, _, _, _, e, _⟩ => e.seq (SqL.of hb)) ?_ ?_
      · rintro i x σ H3 H4 hi' ⟨v2, v7, kvs, rfl, S3, hk, hkl, hkk⟩ ⟨rfl, hx⟩
        obtain ⟨n, r, v, e1, e2, e3, e4, e5⟩ := row_ i (by omega)
        have ex : x = .int (n : Nat) := by
          rw [nats, List.getElem?_map, e1] at hx
          exact (Option.some.inj hx).symm
        subst ex
        have hw := wr_ i n r e1 e2 e5
        obtain ⟨a1, xs1, ea1, ha1, _, _, _, x1w⟩ := (e4.mono S3.tk).parts
        subst ea1
        obtain ⟨y2, y3, ey2, _, ⟨pr, rfl, hpr⟩, _⟩ := x1w hw
        refine ⟨_, rfl, _, rfl, ?_⟩
        refine ixL (SqL.of (S3 _ _ hrv)) n rfl e3 ?_
        refine ixT ha1 2 rfl ey2 ?_
        have hpr' : H4 pr = some (.tup ((r.rd.map Sum.inl : List Key).map kV)) := by rw [map_kV]; exact hpr
        have vn : valV kvs (r.rd.map Sum.inl : List Key) = none := by
          cases hq : valV kvs (r.rd.map Sum.inl : List Key) with
          | none => rfl
          | some v =>
            obtain ⟨j, m, r', hj, f1, f2, f3⟩ := hkk r.rd (by rw [hq]; exact fun z => nomatch z)
            obtain ⟨r'', f4, f5⟩ := hi m (List.mem_of_getElem? f1)
            rw [f2] at f4
            cases f4
            exact absurd f3.symm ((hn.at (ne_ i j n m (by omega) e1 f1) e2 f2).both (e5.trans f5.symm)).2.2
        refine ⟨_, rfl, _, rfl, pd, none, rfl, vn ▸ DGet.t hk hpr', true, rfl, ?_⟩
        refine ⟨_, rfl, _, rfl, _, rfl, pd, _, rfl, DPut.t hk hpr' (smallT (by omega)), ?_⟩
        refine ⟨_, _, putK kvs (r.rd.map Sum.inl) (.int (n : Nat)), rfl, S3.mut n2', upd_same, Nat.le_trans (length_putK ..) (by omega), fun rs hrs => ?_⟩
        rw [valV_put] at hrs
        by_cases z : (rs.map Sum.inl : List Key) = r.rd.map Sum.inl
        · have zz : rs = r.rd := List.map_inj_right (fun _ _ h => Sum.inl.inj h) |>.mp z
          exact ⟨i, n, r, Nat.lt_succ_self _, e1, e2, zz.symm⟩
        · rw [if_neg z] at hrs
          obtain ⟨j, m, r', hj, f⟩ := hkk rs hrs
          exact ⟨j, m, r', Nat.lt_succ_of_lt hj, f⟩
      · rintro σ H3 ⟨v2, v7, kvs, rfl, S3, _⟩
        exact ⟨_, rfl, kq _ S3⟩
end
end Bk

set_option Elab.async false
set_option linter.all false
set_option maxRecDepth 100000
namespace Bk
open PySem PySem.Spec PyProof.Rows L2
/-! ### the places of a state's rows -/
def idx (rows : List Row) (q : Int) (i : Nat) : List Nat := (List.range i).filter fun j => decide (rows[j]?.map Row.st = some q)
theorem idx_same {rows : List Row} {i : Nat} {r : Row} (h : rows[i]? = some r) : idx rows r.st (i + 1) = idx rows r.st i ++ [i] := by
  unfold idx
  rw [List.range_succ, List.filter_append, List.filter_cons, if_pos (by rw [h]; exact decide_eq_true rfl)]
  rfl
theorem idx_other {rows : List Row} {i : Nat} {r : Row} {q : Int} (h : rows[i]? = some r) (n : q ≠ r.st) : idx rows q (i + 1) = idx rows q i := by
  unfold idx
  rw [List.range_succ, List.filter_append, List.filter_cons, if_neg (by rw [h]; intro z; exact n (Option.some.inj (of_decide_eq_true z)).symm)]
  exact List.append_nil _
theorem idx_mem {rows : List Row} {q : Int} {i j : Nat} (h : j ∈ idx rows q i) : j < i ∧ ∃ r, rows[j]? = some r ∧ r.st = q := by
  obtain ⟨h1, h2⟩ := List.mem_filter.mp h
  refine ⟨List.mem_range.mp h1, ?_⟩
  obtain ⟨r, e1, e2⟩ := Option.map_eq_some_iff.mp (of_decide_eq_true h2)
  exact ⟨r, e1, e2⟩
theorem idx_nodup (rows : List Row) (q : Int) (i : Nat) : (idx rows q i).Nodup := List.Pairwise.filter _ List.nodup_range
theorem idx_len (rows : List Row) (q : Int) (i : Nat) : (idx rows q i).length ≤ i := by
  have h := List.length_filter_le (fun j => decide (rows[j]?.map Row.st = some q)) (List.range i)
  rw [List.length_range] at h
  exact h
theorem nats_inj : ∀ {a b : List Nat}, nats a = nats b → a = b
  | [], [], _ => rfl
  | x :: xs, y :: ys, h => by
    have h' : V.int (x : Nat) :: nats xs = V.int (y : Nat) :: nats ys := h
    obtain ⟨h1, h2⟩ := List.cons.inj h'
    rw [nats_inj h2, show x = y from Int.ofNat.inj (V.int.inj h1)]
  | [], _ :: _, h => by cases h
  | _ :: _, [], h => by cases h
theorem idx_ne {rows : List Row} {q q' : Int} {i : Nat} (n : q ≠ q') (h : idx rows q i ≠ []) : nats (idx rows q i) ≠ nats (idx rows q' i) := fun e => by
  have e := nats_inj e
  obtain ⟨j, hj⟩ := List.exists_mem_of_ne_nil _ h
  obtain ⟨_, r, e1, e2⟩ := idx_mem hj
  rw [e] at hj
  obtain ⟨_, r', f1, f2⟩ := idx_mem hj
  rw [e1] at f1
  cases f1
  exact n (e2.symm.trans f2)
/-- what the dict by_state holds of a state -/
def FcAt (rows : List Row) (H0 H : Hp) (kvs : List (Key × V)) (i : Nat) (q : Int) : Prop :=
  (valV kvs (.inl q) = none ∧ idx rows q i = []) ∨ ∃ l, valV kvs (.inl q) = some (.ref l) ∧ H0 l = none ∧ H l = some (.lst (nats (idx rows q i))) ∧ idx rows q i ≠ []
theorem fc_step {rows : List Row} {H0 H : Hp} {kvs : List (Key × V)} {i : Nat} {r : Row} {l : Addr} (hr : rows[i]? = some r) (hl0 : H0 l = none) (hv : valV kvs (.inl r.st) = some (.ref l))
    (hl : H l = some (.lst (nats (idx rows r.st i)))) (oth : ∀ q, q ≠ r.st → (valV kvs (.inl q) = none ∧ idx rows q i = []) ∨ ∃ l', valV kvs (.inl q) = some (.ref l') ∧ H0 l' = none ∧ H l' = some (.lst (nats (idx rows q i))) ∧ idx rows q i ≠ []) :
    ∀ q, FcAt rows H0 (upd H l (.lst (nats (idx rows r.st i) ++ [V.int (i : Nat)]))) kvs (i + 1) q := fun q => by
  by_cases e : q = r.st
  · subst e
    refine .inr ⟨l, hv, hl0, ?_, ?_⟩
    · rw [upd_same, idx_same hr, nats, nats, List.map_append]; rfl
    · rw [idx_same hr]; simp
  · rcases oth q e with ⟨h1, h2⟩ | ⟨l', h1, h2, h3, h4⟩
    · exact .inl ⟨h1, by rw [idx_other hr e]; exact h2⟩
    · refine .inr ⟨l', h1, h2, ?_, by rw [idx_other hr e]; exact h4⟩
      have n : l' ≠ l := ne_of h3 hl fun z => idx_ne e h4 (HO.lst.inj z)
      rw [upd_ne n, idx_other hr e]
      exact h3
section
variable {P : Program} {w : World} {K : PySem.W.Frag} {mg : Str → Option Value} {base : Heap} {f : Addr} {fd : FuncData}
/-! ### first_clash -/
abbrev sFirst : Stmt := top 15
abbrev nFirst : List Str := ["rows", "by_state", "at", "row", "found", "state", "pair"]
theorem scFirst : FnScope nFirst ["rows"] (defScope sFirst) := ⟨rfl, rfl, rfl, by decide +kernel, rfl, by decide +kernel, by decide +kernel⟩
def spFirst : Sp := fun vs H Q _ => ∃ (a : Addr) (rows : List Row), vs = [.ref a] ∧ RwsAt H a rows ∧ NCs rows ∧ rows.length ≤ 1000 ∧ ∀ H', Same H H' → Q .non H'
theorem ok_first (F : Fn K "first_clash" "first_clash" sFirst f fd) (B : Bi mg) (cA : Cal P w K mg base 1 "_clash_among" spAmong) : FnOk P w K mg base CX0 2 f fd ["rows"] spFirst := by
  refine ok0 F scFirst (fun vs H Q E h => ?_) (fun cdv A outer s H vs Q E hr h => ?_)
  · obtain ⟨a, rows, rfl, _⟩ := h
    rfl
  · obtain ⟨a, rows, rfl, ⟨rv, hrv, prv⟩, hn, hl, kq⟩ := h
    have hlen : rv.length = rows.length := pd_len prv
    refine ⟨_, pss_cons (ps_set (i := 1) scFirst.nd rfl (.inl rfl) pe_dK)
      (pss_cons (ps_forN PassesOwn.never rfl (pi_enum (by rfl) B.enum (pa_cons (pv 0) pa_nil)) (pg_tup rfl (pgs_cons (pg_name (i := 2) scFirst.nd rfl (.inl rfl)) (pgs_cons (pg_name (i := 3) scFirst.nd rfl (.inl rfl)) pgs_nil)))
        (pss_one (ps_expr (pe_bm PySem.F.plainAttrs_list PySem.F.slot_list_append PySem.F.type_list_append mt_append (pe_dsetd (pv 1) (pe_ix ix_N (pv 3) pe_int (fun _ _ => rfl)) (pe_lstN pa_nil) ⟨rfl, rfl, rfl, rfl⟩) (pa_cons (pv 2) pa_nil)))))
      (pss_cons (ps_set (i := 4) scFirst.nd rfl (.inl rfl) pe_non)
      (pss_cons (ps_lock (ps_forN PassesOwn.never rfl (pi_keys (pv 1)) (pg_name (i := 5) scFirst.nd rfl (.inl rfl))
        (pss_cons (ps_set (i := 6) scFirst.nd rfl (.inl rfl) (pe_cal cA hr (by decide) (by rfl) (pa_cons (pv 0) (pa_cons (pe_dget (hu_of hr) (pv 1) (pv 5) (fun _ _ => rfl)) pa_nil))))
        (pss_one (ps_if (PW.pt (pw_and (pt_cmpR op_notN (pv 6) pe_non (nomark _)) (pw_and1 pt_never))) pss_never pss_nil)))))
      (pss_one (ps_ret (pv 4)))))), ?_⟩
    refine nObj fun pd H1 n1 S1 hpd => ?_
    refine ⟨_, rfl, a, _, rfl, S1.seq (SqL.of hrv), ?_⟩
    refine forN (walk_enum (xs := rv)) (fun i σ H' => ∃ v2 v3 kvs, σ = [some (.ref a), some (.ref pd), v2, v3, none, none, none] ∧ Same H H' ∧ H' pd = some (.dK kvs) ∧ kvs.length ≤ i ∧ (∀ p ∈ kvs, ∃ q : Int, p.1 = .inl q) ∧ ∀ q, FcAt rows H H' kvs i q)
      ⟨none, none, [], rfl, S1, hpd, Nat.le_refl _, (fun p hp => nomatch hp), fun q => .inl ⟨valV_nil, rfl⟩⟩ (fun i σ H' _ ⟨_, _, _, _, e, _⟩ => e.seq (SqL.of hrv)) ?_ ?_
    · rintro i x σ H2 H3 hi ⟨v2, v3, kvs, rfl, S2, hk, hkl, hki, hfc⟩ ⟨T, x1, y1, rfl, nT, rfl, ex, ey⟩
      cases ex
      obtain ⟨r, er, ar⟩ := pd_get prv ey
      have S3 : Same H2 (upd H2 T (.tup [.int (i : Nat), y1])) := Same.new nT
      refine ⟨T, _, rfl, SqT.of upd_same, rfl, _, _, rfl, _, _, rfl, rfl, ?_⟩
      revert S3
      generalize upd H2 T (.tup [.int (i : Nat), y1]) = H3
      intro S3
      have S3' := S2.trans S3
      obtain ⟨a1, xs1, ea1, ha1, _, x11, _⟩ := (ar.mono S3'.tk).parts
      subst ea1
      refine ⟨_, rfl, pd, rfl, .inl ⟨kvs, .inl (S3 _ _ hk)⟩, _, rfl, ?_⟩
      refine ixT ha1 1 rfl x11 ?_
      refine nLst (by simp) fun p H4 n4 S4 hp => ?_
      have S4' := S3.trans S4
      refine ⟨kvs, .inl r.st, S4' _ _ hk, rfl, smallT (by omega), fun v hv => ?_, fun hv => ?_⟩
      · rcases hfc r.st with ⟨h1, _⟩ | ⟨l, h1, h2, h3, h4⟩
        · rw [h1] at hv; cases hv
        · rw [h1] at hv
          cases hv
          have h3' := S4' _ _ h3
          refine ⟨.inl ⟨rfl, _, SqL.of h3'⟩, _, rfl, l, _, _, rfl, rfl, h3', ?_, ?_⟩
          · rw [nats, List.length_map]
            have := idx_len rows r.st i
            exact smallT (by omega)
          · refine ⟨_, _, kvs, rfl, (S2.trans S4').mut h2, ?_, Nat.le_succ_of_le hkl, hki, ?_⟩
            · rw [upd_ne (ne_of (S4' _ _ hk) h3' fun z => by cases z)]
              exact S4' _ _ hk
            · refine fc_step er h2 h1 h3' fun q hq => ?_
              rcases hfc q with z | ⟨l', z1, z2, z3, z4⟩
              · exact .inl z
              · exact .inr ⟨l', z1, z2, S4' _ _ z3, z4⟩
      · rcases hfc r.st with ⟨h1, h2⟩ | ⟨l, h1, _⟩
        · have np : p ≠ pd := ne_of hp (S4' _ _ hk) fun z => by cases z
          have hp5 : upd H4 pd (.dK (putK kvs (.inl r.st) (.ref p))) p = some (.lst (nats (idx rows r.st i))) := by
            rw [upd_ne np, h2]; exact hp
          have p0 : H p = none := S2.free (S3.free n4)
          have d0 : H pd = none := n1
          refine ⟨.inl ⟨rfl, _, SqL.of hp5⟩, _, rfl, p, _, _, rfl, rfl, hp5, ?_, ?_⟩
          · rw [nats, List.length_map]
            have := idx_len rows r.st i
            exact smallT (by omega)
          · refine ⟨_, _, putK kvs (.inl r.st) (.ref p), rfl, ((S2.trans S4').mut d0).mut p0, ?_, Nat.le_trans (length_putK ..) (by omega), ?_, ?_⟩
            · rw [upd_ne (Ne.symm np), upd_same]
            · rw [putK_new _ hv]
              intro z hz
              rcases List.mem_append.mp hz with z1 | z1
              · exact hki z z1
              · rw [List.mem_singleton.mp z1]; exact ⟨_, rfl⟩
            · refine fc_step er p0 (by rw [valV_put, if_pos rfl]) hp5 fun q hq => ?_
              have nq : ¬ (Sum.inl q : Key) = .inl r.st := fun z => hq (Sum.inl.inj z)
              rw [valV_put, if_neg nq]
              rcases hfc q with z | ⟨l', z1, z2, z3, z4⟩
              · exact .inl z
              · refine .inr ⟨l', z1, z2, ?_, z4⟩
                rw [upd_ne (ne_of z3 hk fun z => by cases z)]
                exact S4' _ _ z3
        · rw [h1] at hv; cases hv
    · rintro σ H2 ⟨v2, v3, kvs, rfl, S2, hk, hkl, hki, hfc⟩
      refine ⟨pd, .dK kvs, hk, trivial, fun od => ?_⟩
      have S3 : Same H (upd H2 pd (.frz od (.dK kvs))) := S2.mut n1
      refine ⟨_, rfl, pd, od, rfl, .inl ⟨kvs, upd_same, ?_⟩⟩
      refine forN (walk_keys (kvs := kvs)) (fun i σ H' => ∃ v5 v6, σ = [some (.ref a), some (.ref pd), v2, v3, some .non, v5, v6] ∧ Same (upd H2 pd (.frz od (.dK kvs))) H')
        ⟨none, none, rfl, Same.refl _⟩ (fun i σ H' _ ⟨_, _, _, e⟩ => e _ _ upd_same) ?_ ?_
      · rintro i x σ H3 H4 hi ⟨v5, v6, rfl, S4⟩ ⟨rfl, ky, v, ek, rfl⟩
        obtain ⟨q, eq⟩ := hki _ (List.mem_of_getElem? ek)
        have eq : ky = .inl q := eq
        subst eq
        rcases hfc q with ⟨h1, _⟩ | ⟨l, h1, h2, h3, h4⟩
        · exact absurd (List.mem_map.mpr ⟨_, List.mem_of_getElem? ek, rfl⟩) (valV_not h1)
        · have nl : l ≠ pd := ne_of h3 hk fun z => by cases z
          have hl' : H4 l = some (.lst (nats (idx rows q rv.length))) := S4 _ _ (by rw [upd_ne nl]; exact h3)
          refine ⟨_, rfl, _, rfl, _, rfl, pd, .ref l, rfl, .inl ⟨kvs, .inl q, .inr ⟨od, S4 _ _ upd_same⟩, rfl, h1.symm⟩, ?_⟩
          refine ⟨a, l, rows, idx rows q rv.length, q, rfl, RwsAt.mono (S3.trans S4) ⟨rv, hrv, prv⟩, hn, hl', ?_, idx_nodup .., fun j hj => (idx_mem hj).2, fun H5 S5 => ?_⟩
          · have := idx_len rows q rv.length
            omega
          · refine ⟨_, rfl, rfl, _, rfl, ?_⟩
            refine ite2 (fun z => absurd z (by decide)) (fun _ => ?_)
            exact ⟨_, _, rfl, S4.trans S5⟩
      · rintro σ H3 ⟨v5, v6, rfl, S4⟩
        exact ⟨S4 _ _ upd_same, _, rfl, kq _ ((S3.trans S4).mut n1)⟩
end
end Bk

set_option Elab.async false
set_option linter.all false
set_option maxRecDepth 100000
namespace Bk
open PySem PySem.Spec PyProof.Rows L2
/-! ### a table of rows -/
def EntM (H : Hp) (e : Addr) (q : Int) (rows : List Row) : Prop := ∃ ms t pm pw, H e = some (.tup [.ref pm, .int t, .ref pw]) ∧ H pm = some (.tup (ms.map V.int)) ∧ Row.mv q ms t ∈ rows
structure EntW (H : Hp) (e : Addr) (q : Int) (rows : List Row) (pw : Addr) (tk : List (List Key × V)) : Prop where
  he : H e = some (.tup [.non, .non, .ref pw])
  hw : H pw = some (.dT tk)
  len : tk.length ≤ rows.length
  isw : ∀ r ∈ rows, r.st = q → r.isW = true
  no : ∀ rs : List Int, valV tk (rs.map Sum.inl : List Key) = none → ∀ r ∈ rows, r.st = q → r.rd ≠ rs
  yes : ∀ (rs : List Int) v, valV tk (rs.map Sum.inl : List Key) = some v → ∃ p pws ws t, v = .ref p ∧ H p = some (.tup [.ref pws, .int t]) ∧ H pws = some (.tup (ws.map V.int)) ∧ Row.wr q rs ws t ∈ rows
def TabAt (H : Hp) (d : Addr) (rows : List Row) : Prop := ∃ kvs, H d = some (.dK kvs) ∧ (∀ q : Int, valV kvs (.inl q) = none → ∀ r ∈ rows, r.st ≠ q) ∧
  ∀ (q : Int) v, valV kvs (.inl q) = some v → ∃ e, v = .ref e ∧ (EntM H e q rows ∨ ∃ pw tk, EntW H e q rows pw tk)
theorem EntM.mono {H H' : Hp} {e : Addr} {q : Int} {rows rows' : List Row} (t : Tk H H') (hr : ∀ r ∈ rows, r ∈ rows') (h : EntM H e q rows) : EntM H' e q rows' := by
  obtain ⟨ms, tt, pm, pw, h1, h2, h3⟩ := h
  exact ⟨ms, tt, pm, pw, t _ _ h1, t _ _ h2, hr _ h3⟩
/-- other states' rows may join -/
theorem EntW.mono {H H' : Hp} {e : Addr} {q : Int} {rows : List Row} {pw : Addr} {tk : List (List Key × V)} (t : Tk H H') (hp : H' pw = H pw) (h : EntW H e q rows pw tk) : EntW H' e q rows pw tk :=
  ⟨t _ _ h.he, hp.trans h.hw, h.len, h.isw, h.no, fun rs v hv => by
    obtain ⟨p, pws, ws, tt, e1, e2, e3, e4⟩ := h.yes rs v hv
    exact ⟨p, pws, ws, tt, e1, t _ _ e2, t _ _ e3, e4⟩⟩
theorem EntW.snoc {H : Hp} {e : Addr} {q : Int} {rows : List Row} {pw : Addr} {tk : List (List Key × V)} {r : Row} (n : r.st ≠ q) (h : EntW H e q rows pw tk) : EntW H e q (rows ++ [r]) pw tk :=
  ⟨h.he, h.hw, by rw [List.length_append]; exact Nat.le_trans h.len (Nat.le_add_right _ _), fun x hx e => by
    rcases List.mem_append.mp hx with z | z
    · exact h.isw x z e
    · rw [List.mem_singleton.mp z] at e; exact absurd e n, fun rs hv x hx e => by
    rcases List.mem_append.mp hx with z | z
    · exact h.no rs hv x z e
    · rw [List.mem_singleton.mp z] at e; exact absurd e n, fun rs v hv => by
    obtain ⟨p, pws, ws, tt, e1, e2, e3, e4⟩ := h.yes rs v hv
    exact ⟨p, pws, ws, tt, e1, e2, e3, List.mem_append_left _ e4⟩⟩
theorem TabAt.mono {H H' : Hp} {d : Addr} {rows : List Row} (s : Same H H') (h : TabAt H d rows) : TabAt H' d rows := by
  obtain ⟨kvs, h1, h2, h3⟩ := h
  refine ⟨kvs, s _ _ h1, h2, fun q v hv => ?_⟩
  obtain ⟨e, rfl, h4 | ⟨pw, tk, h4⟩⟩ := h3 q v hv
  · exact ⟨e, rfl, .inl (h4.mono s.tk fun _ z => z)⟩
  · exact ⟨e, rfl, .inr ⟨pw, tk, h4.mono s.tk ((s _ _ h4.hw).trans h4.hw.symm)⟩⟩
/-! while the table is filled: ws tells the inner dict of each state that writes -/
def TE (ws : List (Int × Addr)) (H0 H : Hp) (kvs : List (Key × V)) (rows : List Row) (q : Int) : Prop :=
  (valV kvs (.inl q) = none ∧ ∀ r ∈ rows, r.st ≠ q) ∨ (∃ e, valV kvs (.inl q) = some (.ref e) ∧ EntM H e q rows) ∨
    ∃ e pw tk, valV kvs (.inl q) = some (.ref e) ∧ H0 pw = none ∧ (q, pw) ∈ ws ∧ EntW H e q rows pw tk
structure WsOk (H : Hp) (ws : List (Int × Addr)) : Prop where
  inj : ∀ q q' a, (q, a) ∈ ws → (q', a) ∈ ws → q = q'
  dT : ∀ q a, (q, a) ∈ ws → ∃ tk, H a = some (.dT tk)
theorem WsOk.mono {H H' : Hp} {ws : List (Int × Addr)} (s : Same H H') (h : WsOk H ws) : WsOk H' ws := ⟨h.inj, fun q a m => let ⟨tk, e⟩ := h.dT q a m; ⟨tk, s _ _ e⟩⟩
theorem WsOk.upd {H : Hp} {ws : List (Int × Addr)} {d : Addr} {o : HO} (h : WsOk H ws) (n : ∀ q a, (q, a) ∈ ws → a ≠ d) : WsOk (L2.upd H d o) ws := ⟨h.inj, fun q a m => let ⟨tk, e⟩ := h.dT q a m; ⟨tk, by rw [upd_ne (n q a m)]; exact e⟩⟩
theorem WsOk.put {H : Hp} {ws : List (Int × Addr)} {d : Addr} {tk : List (List Key × V)} (h : WsOk H ws) : WsOk (L2.upd H d (.dT tk)) ws := ⟨h.inj, fun q a m => by
  by_cases e : a = d
  · rw [e, upd_same]; exact ⟨tk, rfl⟩
  · rw [upd_ne e]; exact h.dT q a m⟩
theorem TE.same {ws : List (Int × Addr)} {H0 H H' : Hp} {kvs : List (Key × V)} {rows : List Row} {q : Int} (s : Same H H') (h : TE ws H0 H kvs rows q) : TE ws H0 H' kvs rows q := by
  rcases h with h | ⟨e, h1, h2⟩ | ⟨e, pw, tk, h1, h2, h3, h4⟩
  · exact .inl h
  · exact .inr (.inl ⟨e, h1, h2.mono s.tk fun _ z => z⟩)
  · exact .inr (.inr ⟨e, pw, tk, h1, h2, h3, h4.mono s.tk ((s _ _ h4.hw).trans h4.hw.symm)⟩)
/-- the outer dict is written at another state -/
theorem TE.put {ws : List (Int × Addr)} {H0 H : Hp} {kvs kvs0 : List (Key × V)} {rows : List Row} {q q0 : Int} {d : Addr} {v : V} (hd : H d = some (.dK kvs0)) (n : q ≠ q0) (h : TE ws H0 H kvs rows q) :
    TE ws H0 (upd H d (.dK (putK kvs (.inl q0) v))) (putK kvs (.inl q0) v) rows q := by
  have t : Tk H (upd H d (.dK (putK kvs (.inl q0) v))) := Tk.mutK hd
  have e0 : valV (putK kvs (.inl q0) v) (.inl q : Key) = valV kvs (.inl q) := by
    rw [valV_put, if_neg fun z => n (Sum.inl.inj z)]
  rcases h with h | ⟨e, h1, h2⟩ | ⟨e, pw, tk, h1, h2, h3, h4⟩
  · exact .inl ⟨e0.trans h.1, h.2⟩
  · exact .inr (.inl ⟨e, e0.trans h1, h2.mono t fun _ z => z⟩)
  · exact .inr (.inr ⟨e, pw, tk, e0.trans h1, h2, h3, h4.mono t (upd_ne (ne_of h4.hw hd fun z => by cases z))⟩)
theorem TE.snoc {ws : List (Int × Addr)} {H0 H : Hp} {kvs : List (Key × V)} {rows : List Row} {q : Int} {r : Row} (n : r.st ≠ q) (h : TE ws H0 H kvs rows q) : TE ws H0 H kvs (rows ++ [r]) q := by
  rcases h with h | ⟨e, h1, h2⟩ | ⟨e, pw, tk, h1, h2, h3, h4⟩
  · refine .inl ⟨h.1, fun x hx => ?_⟩
    rcases List.mem_append.mp hx with z | z
    · exact h.2 x z
    · rw [List.mem_singleton.mp z]; exact n
  · exact .inr (.inl ⟨e, h1, h2.mono (Tk.refl _) fun _ z => List.mem_append_left _ z⟩)
  · exact .inr (.inr ⟨e, pw, tk, h1, h2, h3, h4.snoc n⟩)
theorem TE.ws {ws : List (Int × Addr)} {H0 H : Hp} {kvs : List (Key × V)} {rows : List Row} {q : Int} {z : Int × Addr} (h : TE ws H0 H kvs rows q) : TE (z :: ws) H0 H kvs rows q := by
  rcases h with h | h | ⟨e, pw, tk, h1, h2, h3, h4⟩
  · exact .inl h
  · exact .inr (.inl h)
  · exact .inr (.inr ⟨e, pw, tk, h1, h2, List.mem_cons_of_mem _ h3, h4⟩)
theorem NCs.last {rows : List Row} {i : Nat} {r r' : Row} (n : NCs rows) (h : rows[i]? = some r) (h' : r' ∈ rows.take i) : NC r' r := by
  obtain ⟨j, hj⟩ := List.mem_iff_getElem?.mp h'
  rw [List.getElem?_take] at hj
  by_cases l : j < i
  · rw [if_pos l] at hj
    exact n.at (by omega) hj h
  · rw [if_neg l] at hj; cases hj
theorem take_snoc {rows : List Row} {i : Nat} {r : Row} (h : rows[i]? = some r) : rows.take (i + 1) = rows.take i ++ [r] := by
  rw [List.take_add_one, h]; rfl
section
variable {P : Program} {w : World} {K : PySem.W.Frag} {mg : Str → Option Value} {base : Heap} {f : Addr} {fd : FuncData}
/-! ### _table_of -/
abbrev sTable : Stmt := top 18
abbrev nTable : List Str := ["rows", "found", "row"]
theorem scTable : FnScope nTable ["rows"] (defScope sTable) := ⟨rfl, rfl, rfl, by decide +kernel, rfl, by decide +kernel, by decide +kernel⟩
def spTable : Sp := fun vs H Q _ => ∃ (a : Addr) (rows : List Row), vs = [.ref a] ∧ RwsAt H a rows ∧ NCs rows ∧ rows.length ≤ 1000 ∧ ∀ d H', Same H H' → TabAt H' d rows → Q (.ref d) H'
theorem ok_table (F : Fn K "_table_of" "_table_of" sTable f fd) : FnOk P w K mg base CX0 1 f fd ["rows"] spTable := by
  refine ok0 F scTable (fun vs H Q E h => ?_) (fun cdv A outer s H vs Q E hr h => ?_)
  · obtain ⟨a, rows, rfl, _⟩ := h
    rfl
  · obtain ⟨a, rows, rfl, ⟨rv, hrv, prv⟩, hn, hl, kq⟩ := h
    have hlen : rv.length = rows.length := pd_len prv
    refine ⟨_, pss_cons (ps_set (i := 1) scTable.nd rfl (.inl rfl) pe_dK)
      (pss_cons (ps_forN PassesOwn.never rfl (pi_list (pv 0)) (pg_name (i := 2) scTable.nd rfl (.inl rfl))
        (pss_one (ps_if (pt_cmpR op_eq (pe_ix ix_N (pv 2) pe_int (fun _ _ => rfl)) pe_str (nomark _))
          (pss_one (ps_dput (hu_of hr) (pv 1) (pe_ix ix_N (pv 2) pe_int (fun _ _ => rfl)) (pe_tupN (pa_cons (pe_ix ix_N (pv 2) pe_int (fun _ _ => rfl)) (pa_cons (pe_ix ix_N (pv 2) pe_int (fun _ _ => rfl)) (pa_cons pe_dT pa_nil)))) rfl))
          (C8.pss_cut (ps_expr (pe_dsetd (pv 1) (pe_ix ix_N (pv 2) pe_int (fun _ _ => rfl)) (pe_tupN (pa_cons pe_non (pa_cons pe_non (pa_cons pe_dT pa_nil)))) ⟨rfl, rfl, rfl, rfl⟩))
          (pss_one (ps_dput (hu_of hr) (pe_ix ix_N (pe_dget (hu_of hr) (pv 1) (pe_ix ix_N (pv 2) pe_int (fun _ _ => rfl)) (fun _ _ => rfl)) pe_int (fun _ _ => rfl)) (pe_ix ix_N (pv 2) pe_int (fun _ _ => rfl))
            (pe_tupN (pa_cons (pe_ix ix_N (pv 2) pe_int (fun _ _ => rfl)) (pa_cons (pe_ix ix_N (pv 2) pe_int (fun _ _ => rfl)) pa_nil))) rfl))))))
      (pss_one (ps_ret (pv 1)))), ?_⟩
    refine nObj fun pd H1 n1 S1 hpd => ?_
    refine ⟨_, rfl, a, rfl, ⟨_, S1.seq (SqL.of hrv)⟩, ?_⟩
    refine forN (walk_list (xs := rv)) (fun i σ H' => ∃ v2 kvs ws, σ = [some (.ref a), some (.ref pd), v2] ∧ Same H H' ∧ H' pd = some (.dK kvs) ∧ kvs.length ≤ i ∧ WsOk H' ws ∧ ∀ q, TE ws H H' kvs (rows.take i) q)
      ⟨none, [], [], rfl, S1, hpd, Nat.le_refl _, ⟨(fun _ _ _ z => nomatch z), (fun _ _ z => nomatch z)⟩, fun q => .inl ⟨valV_nil, fun r hr => by simp at hr⟩⟩ (fun i σ H' _ ⟨_, _, _, _, e, _⟩ => e.seq (SqL.of hrv)) ?_ ?_
    · rintro i x σ H2 H3 hi ⟨v2, kvs, wl, rfl, S2, hk, hkl, hws, hte⟩ ⟨rfl, hx⟩
      obtain ⟨r, er, ar⟩ := pd_get prv hx
      have ar := ar.mono S2.tk
      have hts := take_snoc er
      cases r with
      | mv q0 ms t =>
        obtain ⟨b, y, rfl, hb, pm, rfl, hm⟩ := ar
        refine ⟨_, rfl, ?_⟩
        refine ixT hb 0 rfl rfl ?_
        refine ⟨rfl, _, rfl, ite2 (fun _ => ?_) (fun h => absurd (decide_eq_true rfl) h)⟩
        refine ⟨_, rfl, ?_⟩
        refine ixT hb 2 rfl rfl ?_
        refine ⟨_, rfl, ?_⟩
        refine ixT hb 3 rfl rfl ?_
        refine nObj fun pw H4 n4 S4 hpw => ?_
        refine nTup (by simp) fun e H5 n5 S5 he => ?_
        have S5' := S4.trans S5
        refine ⟨_, rfl, _, rfl, ?_⟩
        refine ixT (S5' _ _ hb) 1 rfl rfl ?_
        refine ⟨pd, _, rfl, DPut.k (k := .inl q0) (S5' _ _ hk) (smallT (by omega)), ?_⟩
        have hk5 := S5' _ _ hk
        refine ⟨_, putK kvs (.inl q0) (.ref e), wl, rfl, (S2.trans S5').mut n1, upd_same, Nat.le_trans (length_putK ..) (by omega), (hws.mono S5').upd fun q a m => ?_, fun q => ?_⟩
        · obtain ⟨tk, z⟩ := (hws.mono S5').dT q a m
          exact ne_of z hk5 fun z => by cases z
        · rw [hts]
          by_cases eq : q = q0
          · subst eq
            refine .inr (.inl ⟨e, by rw [valV_put, if_pos rfl], ?_⟩)
            have t5 : Tk H5 (upd H5 pd (.dK (putK kvs (.inl q) (.ref e)))) := Tk.mutK hk5
            exact ⟨ms, t, pm, pw, t5 _ _ he, t5 _ _ (S5' _ _ hm), List.mem_append_right _ (List.mem_singleton.mpr rfl)⟩
          · exact (((hte q).same S5').put hk5 eq).snoc (fun z => eq z.symm)
      | wr q0 rs ws t =>
        obtain ⟨b, y, z, rfl, hb, ⟨prs, rfl, hrs⟩, ⟨pws, rfl, hpws⟩⟩ := ar
        refine ⟨_, rfl, ?_⟩
        refine ixT hb 0 rfl rfl ?_
        refine ⟨rfl, _, rfl, ite2 (fun h => absurd (of_decide_eq_true h) (fun e => wr_mv (V.str.inj e).symm)) (fun _ => ?_)⟩
        -- the state's entry
        refine ⟨fun σ' H' => ∃ kvs wl e pw tk, σ' = [some (.ref a), some (.ref pd), some (.ref b)] ∧ Same H H' ∧ Tk H3 H' ∧ H' pd = some (.dK kvs) ∧ kvs.length ≤ i + 1 ∧ WsOk H' wl ∧ (∀ q, q ≠ q0 → TE wl H H' kvs (rows.take i) q) ∧
          valV kvs (.inl q0) = some (.ref e) ∧ H pw = none ∧ (q0, pw) ∈ wl ∧ EntW H' e q0 (rows.take i) pw tk, ?_, ?_⟩
        · refine ⟨_, rfl, pd, rfl, .inl ⟨kvs, .inl hk⟩, _, rfl, ?_⟩
          refine ixT hb 1 rfl rfl ?_
          refine nObj fun pw0 H4 n4 S4 hpw0 => ?_
          refine nTup (by simp) fun e0 H5 n5 S5 he0 => ?_
          have S5' := S4.trans S5
          have hk5 := S5' _ _ hk
          refine ⟨kvs, .inl q0, hk5, rfl, smallT (by omega), fun v hv => ?_, fun hv => ?_⟩
          · rcases hte q0 with ⟨h1, _⟩ | ⟨e, h1, ms, t', _, _, _, _, h2⟩ | ⟨e, pw, tk, h1, h2, h3, h4⟩
            · rw [h1] at hv; cases hv
            · exact (Bool.false_ne_true ((hn.last er h2).both rfl).1).elim
            · exact ⟨kvs, wl, e, pw, tk, rfl, S2.trans S5', S5'.tk, hk5, by omega, hws.mono S5', fun q _ => (hte q).same S5', h1, h2, h3, h4.mono S5'.tk ((S5' _ _ h4.hw).trans h4.hw.symm)⟩
          · have none_ : ∀ r ∈ rows.take i, r.st ≠ q0 := by
              rcases hte q0 with ⟨_, h2⟩ | ⟨e, h1, _⟩ | ⟨e, pw, tk, h1, _⟩
              · exact h2
              · rw [h1] at hv; cases hv
              · rw [h1] at hv; cases hv
            have t5 : Tk H5 (upd H5 pd (.dK (putK kvs (.inl q0) (.ref e0)))) := Tk.mutK hk5
            have hpw5 := S5 _ _ hpw0
            have npw : pw0 ≠ pd := ne_of hpw5 hk5 fun z => by cases z
            refine ⟨putK kvs (.inl q0) (.ref e0), (q0, pw0) :: wl, e0, pw0, [], rfl, (S2.trans S5').mut n1, S5'.tk.trans t5, upd_same, Nat.le_trans (length_putK ..) (by omega), ?_, fun q nq => (((hte q).same S5').put hk5 nq).ws, by rw [valV_put, if_pos rfl], S2.free n4, List.mem_cons_self, ?_⟩
            · have old : ∀ q, (q, pw0) ∉ wl := fun q m => by
                obtain ⟨tk, z⟩ := hws.dT q pw0 m
                rw [n4] at z; cases z
              refine ⟨fun q q' a m m' => ?_, fun q a m => ?_⟩
              · rcases List.mem_cons.mp m with z | z
                · cases z
                  rcases List.mem_cons.mp m' with z' | z'
                  · cases z'; rfl
                  · exact absurd z' (old _)
                · rcases List.mem_cons.mp m' with z' | z'
                  · cases z'; exact absurd z (old _)
                  · exact hws.inj q q' a z z'
              · rcases List.mem_cons.mp m with z | z
                · cases z; exact ⟨[], by rw [upd_ne npw]; exact hpw5⟩
                · obtain ⟨tk, z⟩ := (hws.mono S5').dT q a z
                  exact ⟨tk, by rw [upd_ne (ne_of z hk5 fun z => by cases z)]; exact z⟩
            · exact ⟨t5 _ _ he0, by rw [upd_ne npw]; exact hpw5, Nat.zero_le _, fun r hr e => absurd e (none_ r hr), fun _ _ r hr e => absurd e (none_ r hr), fun rs v hv => by rw [valV_nil] at hv; cases hv⟩
        · rintro σ' H4 ⟨kvs, wl, e, pw, tk, rfl, S4, T4, hk, hkl, hws, hte, he, hpw0, hpm, W⟩
          refine ⟨_, rfl, ?_⟩
          refine ixT (T4 _ _ hb) 3 rfl rfl ?_
          refine ⟨_, rfl, ?_⟩
          refine ixT (T4 _ _ hb) 4 rfl rfl ?_
          refine nTup (by simp) fun p H5 n5 S5 hp => ?_
          have T5 := T4.trans S5.tk
          refine ⟨_, rfl, _, rfl, ?_⟩
          refine ixT (T5 _ _ hb) 1 rfl rfl ?_
          refine ⟨pd, .ref e, rfl, he ▸ DGet.k (k := .inl q0) (S5 _ _ hk), ?_⟩
          refine ixT (S5 _ _ W.he) 2 rfl rfl ?_
          refine ⟨_, rfl, ?_⟩
          refine ixT (T5 _ _ hb) 2 rfl rfl ?_
          have W5 := W.mono S5.tk ((S5 _ _ W.hw).trans W.hw.symm)
          have key : H5 prs = some (.tup ((rs.map Sum.inl : List Key).map kV)) := by rw [map_kV]; exact T5 _ _ hrs
          have tl : (rows.take i).length ≤ 1000 := by rw [List.length_take]; omega
          refine ⟨pw, _, rfl, DPut.t W5.hw key (smallT (by have := W.len; omega)), ?_⟩
          have t6 : Tk H5 (upd H5 pw (.dT (putK tk (rs.map Sum.inl) (.ref p)))) := Tk.mutT W5.hw
          have npd : pd ≠ pw := ne_of (S5 _ _ hk) W5.hw fun z => by cases z
          refine ⟨_, kvs, wl, rfl, (S4.trans S5).mut hpw0, ?_, hkl, (hws.mono S5).put, fun q => ?_⟩
          · rw [upd_ne npd]; exact S5 _ _ hk
          · rw [hts]
            by_cases eq : q = q0
            · subst eq
              refine .inr (.inr ⟨e, pw, _, he, hpw0, hpm, ⟨t6 _ _ W5.he, upd_same, ?_, fun r hr e => ?_, fun rs' hv r hr e => ?_, fun rs' v hv => ?_⟩⟩)
              · rw [List.length_append, List.length_singleton]
                exact Nat.le_trans (length_putK ..) (Nat.succ_le_succ W.len)
              · rcases List.mem_append.mp hr with z | z
                · exact W.isw r z e
                · rw [List.mem_singleton.mp z]; rfl
              · rw [valV_put] at hv
                by_cases ek : (rs'.map Sum.inl : List Key) = rs.map Sum.inl
                · rw [if_pos ek] at hv; cases hv
                · rw [if_neg ek] at hv
                  rcases List.mem_append.mp hr with z | z
                  · exact W.no rs' hv r z e
                  · rw [List.mem_singleton.mp z]
                    exact fun z => ek (by rw [show rs = rs' from z])
              · rw [valV_put] at hv
                by_cases ek : (rs'.map Sum.inl : List Key) = rs.map Sum.inl
                · rw [if_pos ek] at hv
                  cases hv
                  have er' : rs' = rs := List.map_inj_right (fun _ _ h => Sum.inl.inj h) |>.mp ek
                  exact ⟨p, pws, ws, t, rfl, t6 _ _ hp, t6 _ _ (T5 _ _ hpws), by rw [er']; exact List.mem_append_right _ (List.mem_singleton.mpr rfl)⟩
                · rw [if_neg ek] at hv
                  obtain ⟨p', pws', ws', t', e1, e2, e3, e4⟩ := W5.yes rs' v hv
                  exact ⟨p', pws', ws', t', e1, t6 _ _ e2, t6 _ _ e3, List.mem_append_left _ e4⟩
            · have h := (hte q eq).same S5
              refine TE.snoc (fun z => eq z.symm) ?_
              rcases h with h | ⟨e', h1, h2⟩ | ⟨e', pw', tk', h1, h2, h3, h4⟩
              · exact .inl h
              · exact .inr (.inl ⟨e', h1, h2.mono t6 fun _ z => z⟩)
              · exact .inr (.inr ⟨e', pw', tk', h1, h2, h3, h4.mono t6 (upd_ne fun z => eq (hws.inj q q0 pw (z ▸ h3) hpm))⟩)
    · rintro σ H2 ⟨v2, kvs, wl, rfl, S2, hk, hkl, hws, hte⟩
      rw [hlen, List.take_length] at hte
      refine ⟨_, rfl, kq pd _ S2 ⟨kvs, hk, fun q hv => ?_, fun q v hv => ?_⟩⟩
      · rcases hte q with ⟨_, h⟩ | ⟨e, h, _⟩ | ⟨e, pw, tk, h, _⟩
        · exact h
        · rw [h] at hv; cases hv
        · rw [h] at hv; cases hv
      · rcases hte q with ⟨h, _⟩ | ⟨e, h, h2⟩ | ⟨e, pw, tk, h, _, _, h2⟩
        · rw [h] at hv; cases hv
        · rw [h] at hv; cases hv; exact ⟨e, rfl, .inl h2⟩
        · rw [h] at hv; cases hv; exact ⟨e, rfl, .inr ⟨pw, tk, h2⟩⟩
end
end Bk

set_option Elab.async false
set_option linter.all false
set_option maxRecDepth 100000
namespace Bk
open PySem PySem.Spec PyProof.Rows L2
theorem after_none {c : Conf} : ∀ {rows : List Row}, (∀ r ∈ rows, r.app c = none) → after rows c = none
  | [], _ => rfl
  | r :: rows, h => by
    rw [after_cons, h r List.mem_cons_self]
    exact after_none fun x hx => h x (List.mem_cons_of_mem _ hx)
theorem app_st {r : Row} {c : Conf} (h : r.st ≠ c.s) : r.app c = none := by
  cases r with
  | mv q ms t => exact app_mv_no h
  | wr q rs ws t => exact app_wr_no fun z => h z.1
theorem app_rd {r : Row} {c : Conf} (hw : r.isW = true) (h : r.rd ≠ heads c) : r.app c = none := by
  cases r with
  | mv q ms t => cases hw
  | wr q rs ws t => exact app_wr_no fun z => h z.2
theorem wipe2 {σ : L2.St} {i j : Nat} {x y : Option V} (h : i ≠ j) : wipe (((wipe σ [i, j]).set i x).set j y) [i, j] = wipe σ [i, j] := by
  show (((((σ.set j none).set i none).set i x).set j y).set j none).set i none = (σ.set j none).set i none
  rw [List.set_set, List.set_comm _ _ (Ne.symm h), List.set_set, List.set_set, List.set_comm _ _ h, List.set_set]
theorem not_non (a : Addr) : (!decide (V.ref a = V.non)) = true := by
  rw [decide_eq_false (fun z => nomatch z)]; rfl
section
variable {P : Program} {w : World} {K : PySem.W.Frag} {mg : Str → Option Value} {base : Heap} {f : Addr} {fd : FuncData}
/-! ### _taken -/
abbrev sTaken : Stmt := top 20
abbrev nTaken : List Str := ["table", "configuration", "state", "tapes", "moves", "following", "writing", "entry", "tape", "move", "mark"]
theorem scTaken : FnScope nTaken ["table", "configuration"] (defScope sTaken) := ⟨rfl, rfl, rfl, by decide +kernel, rfl, by decide +kernel, by decide +kernel⟩
def spTaken : Sp := fun vs H Q _ => ∃ (d : Addr) (v : V) (rows : List Row) (c : Conf) (k : Nat), vs = [.ref d, v] ∧ TabAt H d rows ∧ NCs rows ∧ (∀ r ∈ rows, RowK k r) ∧ CfAt H v c ∧ ConfK k c ∧ SzC 900 c ∧ k ≤ 4 ∧
  ∀ v' H', Same H H' → OcAt H' v' (after rows c) → Q v' H'
theorem ok_taken (F : Fn K "_taken" "_taken" sTaken f fd) (B : Bi mg) (cM : Cal P w K mg base 2 "moved_tape" spMoved) : FnOk P w K mg base CX0 3 f fd ["table", "configuration"] spTaken := by
  refine ok0 F scTaken (fun vs H Q E h => ?_) (fun cdv A outer s H vs Q E hr h => ?_)
  · obtain ⟨d, v, rows, c, k, rfl, _⟩ := h
    rfl
  · obtain ⟨d, v, rows, ⟨st, ts⟩, k, rfl, ⟨kvs, hk, hno, hyes⟩, hn, hrk, ⟨pc, x, rfl, hc, pt, tv, rfl, htv, ptv⟩, ⟨htl, _⟩, hsz, hk4, kq⟩ := h
    dsimp only at hc ptv htl
    have htl2 : tv.length = k := (pd_len ptv).trans htl
    refine ⟨_, pss_cons (ps_asg (pv 1) (pg_tup rfl (pgs_cons (pg_name (i := 2) scTaken.nd rfl (.inl rfl)) (pgs_cons (pg_name (i := 3) scTaken.nd rfl (.inl rfl)) pgs_nil))))
      (pss_cons (ps_if (pt_cmp (pc_dnotin (hu_of hr) (pv 2) (pv 0)) rfl) (pss_one (ps_ret pe_non)) pss_nil)
      (pss_cons (ps_asg (pe_dget (hu_of hr) (pv 0) (pv 2) (fun _ _ => rfl)) (pg_tup rfl (pgs_cons (pg_name (i := 4) scTaken.nd rfl (.inl rfl)) (pgs_cons (pg_name (i := 5) scTaken.nd rfl (.inl rfl)) (pgs_cons (pg_name (i := 6) scTaken.nd rfl (.inl rfl)) pgs_nil)))))
      (pss_cons (ps_if (pt_cmpR op_notN (pv 4) pe_non (nomark _))
        (pss_one (ps_ret (pe_tupN (pa_cons (pv 5) (pa_cons (pe_callTy call_tupN (by rfl) B.tuple boot_tuple' (pa_cons (pe_lcN (own := [("tape", 8), ("move", 9)]) (g := gTup K 2 (gCons (gName 8) (gCons (gName 9) gNil))) rfl scTaken.nd (RZ.pi_zipA (by rfl) B.zip (pa_cons (pv 3) (pa_cons (pv 4) pa_nil))) (blkOk_by (N := nTaken) (sc := defScope sTaken) (by decide +kernel))
            (fun _ _ _ _ _ => pg_tup rfl (pgs_cons (pg_name (i := 8) scTaken.nd rfl (Or.inl rfl)) (pgs_cons (pg_name (i := 9) scTaken.nd rfl (Or.inl rfl)) pgs_nil)))
            (fun _ _ _ _ _ => pe_cal cM hr (by decide) (by rfl) (pa_cons (pv 8) (pa_cons (pv 9) pa_nil)))) pa_nil)) pa_nil))))) pss_nil)
      (C8.pss_cut (ps_set (i := 7) scTaken.nd rfl (.inl rfl) (pe_dget1 (hu_of hr) (pv 6) (pe_callTy call_tupN (by rfl) B.tuple boot_tuple' (pa_cons (pe_lcN (own := [("tape", 8)]) (g := gName 8) rfl scTaken.nd (pi_tup (pv 3)) (blkOk_by (N := nTaken) (sc := defScope sTaken) (by decide +kernel))
            (fun _ _ _ _ _ => pg_name (i := 8) scTaken.nd rfl (Or.inl rfl)) (fun _ _ _ _ _ => pe_ix (r := Ixs K) ix_N (pv 8) pe_int (fun _ _ => rfl))) pa_nil)) ⟨rfl, rfl, rfl, rfl⟩))
      (pss_cons (ps_if (pt_cmpR op_isN (pv 7) pe_non (nomark _)) (pss_one (ps_ret pe_non)) pss_nil)
      (pss_one (ps_ret (pe_tupN (pa_cons (pe_ix ix_N (pv 7) pe_int (fun _ _ => rfl)) (pa_cons (pe_callTy call_tupN (by rfl) B.tuple boot_tuple' (pa_cons (pe_lcN (own := [("tape", 8), ("mark", 10)]) (g := gTup K 2 (gCons (gName 8) (gCons (gName 10) gNil))) rfl scTaken.nd (RZ.pi_zipA (by rfl) B.zip (pa_cons (pv 3) (pa_cons (pe_ix ix_N (pv 7) pe_int (fun _ _ => rfl)) pa_nil))) (blkOk_by (N := nTaken) (sc := defScope sTaken) (by decide +kernel))
            (fun _ _ _ _ _ => pg_tup rfl (pgs_cons (pg_name (i := 8) scTaken.nd rfl (Or.inl rfl)) (pgs_cons (pg_name (i := 10) scTaken.nd rfl (Or.inl rfl)) pgs_nil)))
            (fun _ _ _ _ _ => pe_tupN (pa_cons (pe_ix (r := Ixs K) ix_N (pv 8) pe_int (fun _ _ => rfl)) (pa_cons (pv 10) (pa_cons (pe_ix (r := Ixs K) ix_N (pv 8) pe_int (fun _ _ => rfl)) pa_nil))))) pa_nil)) pa_nil)))))))))), ?_⟩
    refine ⟨_, rfl, pc, _, rfl, SqT.of hc, rfl, _, _, rfl, _, _, rfl, rfl, ?_⟩
    refine ⟨_, rfl, _, rfl, d, _, rfl, DGet.k (k := .inl st) hk, _, rfl, ?_⟩
    cases hv : valV kvs (.inl st) with
    | none =>
      refine iteT (kq _ _ (Same.refl _) ?_)
      rw [after_none fun r hr => app_st (hno st hv r hr)]
      rfl
    | some v =>
      refine iteF ?_
      obtain ⟨e, rfl, ⟨ms, t, pm, pw, he, hpm, hmem⟩ | ⟨pw, tk, W⟩⟩ := hyes st v hv
      · refine ⟨_, rfl, _, rfl, d, _, rfl, hv ▸ DGet.k (k := .inl st) hk, e, _, rfl, SqT.of he, rfl, _, _, rfl, _, _, rfl, _, _, rfl, rfl, ?_⟩
        refine ⟨_, rfl, rfl, _, rfl, ?_⟩
        refine ite2 (fun _ => ?_) (fun z => absurd (not_non pm) z)
        have hms : ms.length = k := (hrk _ hmem).1
        refine ⟨_, rfl, _, rfl, _, rfl, pt, pm, _, _, rfl, .inr ⟨SqT.of htv, SqT.of hpm, ?_⟩⟩
        refine lcN (n := k) (walk_zipT (xs := tv) (ys := ms.map V.int) (by rw [List.length_map, htl2, hms, Nat.min_self])) (fun i H' v => ∃ t, (List.zipWith moved ts ms)[i]? = some t ∧ TpAt H' v t) (by omega) (fun _ _ _ _ _ e ⟨t, a, b⟩ => ⟨t, a, b.mono e⟩) (fun H' e => ⟨e.seqT (SqT.of htv), e.seqT (SqT.of hpm)⟩) ?_ ?_ gm_pair
        · rintro j x H5 H6 hj S5 ⟨T, x1, y1, rfl, nT, rfl, ex, ey⟩ Q' kq'
          obtain ⟨tj, etj, atj⟩ := pd_get ptv ex
          obtain ⟨mj, emj, rfl⟩ : ∃ m, ms[j]? = some m ∧ y1 = .int m := by
            have ey : (ms.map V.int)[j]? = some y1 := ey
            rw [List.getElem?_map] at ey
            obtain ⟨m, e1, e2⟩ := Option.map_eq_some_iff.mp ey
            exact ⟨m, e1, e2.symm⟩
          have S6 : Same H5 (upd H5 T (.tup [x1, .int mj])) := Same.new nT
          refine ⟨T, _, rfl, SqT.of upd_same, rfl, _, _, rfl, _, _, rfl, rfl, rfl, ?_⟩
          have b := hsz tj (List.mem_of_getElem? etj)
          exact ⟨_, rfl, _, rfl, _, tj, mj, rfl, atj.mono (S5.trans S6).tk, by omega, by omega, fun v' H' S' hv' => kq' _ _ (S6.trans S') ⟨_, zw_get etj emj, hv'⟩⟩
        · intro D H5 us hD S5 hu hul hall
          refine tupL hu fun pu H6 S6 hpu => ?_
          refine nTup (by simp) fun pr H7 n7 S7 hpr => ?_
          refine kq _ _ ((S5.trans S6).trans S7) ?_
          rw [after_of hn hmem (app_mv rfl)]
          refine ⟨pr, _, rfl, hpr, pu, us, rfl, S7 _ _ hpu, tps_of ?_ fun i v hv => ?_⟩
          · show us.length = (List.zipWith moved ts ms).length
            rw [hul, List.length_zipWith, htl, hms, Nat.min_self]
          · obtain ⟨t, e1, e2⟩ := hall i v hv
            exact ⟨t, e1, e2.mono (S6.trans S7).tk⟩
      · refine ⟨_, rfl, _, rfl, d, _, rfl, hv ▸ DGet.k (k := .inl st) hk, e, _, rfl, SqT.of W.he, rfl, _, _, rfl, _, _, rfl, _, _, rfl, rfl, ?_⟩
        refine ⟨_, rfl, rfl, _, rfl, ?_⟩
        refine ite2 (fun z => absurd z (by decide)) (fun _ => ?_)
        refine ⟨fun σ' H' => ∃ v7, σ' = [some (.ref d), some (.ref pc), some (.int st), some (.ref pt), some .non, some .non, some (.ref pw), some v7, none, none, none] ∧ Same H H' ∧
          ((v7 = .non ∧ after rows ⟨st, ts⟩ = none) ∨ ∃ p pws ws t, v7 = .ref p ∧ H' p = some (.tup [.ref pws, .int t]) ∧ H' pws = some (.tup (ws.map V.int)) ∧ Row.wr st (heads ⟨st, ts⟩) ws t ∈ rows), ?_, ?_⟩
        · refine ⟨_, rfl, pw, rfl, .inr ⟨tk, .inl W.hw⟩, ?_⟩
          refine ⟨_, rfl, pt, rfl, ⟨_, SqT.of htv⟩, ?_⟩
          refine lcN (walk_tup (xs := tv)) (fun i _ v => ∃ n, (ts.map (·.m))[i]? = some n ∧ v = .int n) (by omega) (fun _ _ _ _ _ _ h => h) (fun H' e => e.seqT (SqT.of htv)) ?_ ?_ gm_name
          · rintro i x H1 H2 hi S ⟨rfl, hx⟩ Q' kq
            obtain ⟨t, et, a', x', y', rfl, ha', _⟩ := pd_get ptv hx
            refine ⟨rfl, _, rfl, ?_⟩
            refine ixT (S _ _ ha') 1 rfl rfl ?_
            exact kq _ _ (Same.refl _) ⟨t.m, by rw [List.getElem?_map, et]; rfl, rfl⟩
          · intro D H1 us hD S1 hu hul hall
            have e1 := ints_of (ns := heads ⟨st, ts⟩) (by show us.length = (ts.map (·.m)).length; rw [List.length_map, hul, htl2, htl]) hall
            subst e1
            refine tupL hu fun ph H2 S2 hph => ?_
            have SS := S1.trans S2
            have key : H2 ph = some (.tup (((heads ⟨st, ts⟩).map Sum.inl : List Key).map kV)) := by rw [map_kV]; exact hph
            refine ⟨_, DGet.t (SS _ _ W.hw) key, ?_⟩
            refine ⟨_, rfl, SS, ?_⟩
            cases hv2 : valV tk ((heads ⟨st, ts⟩).map Sum.inl : List Key) with
            | none =>
              refine .inl ⟨rfl, after_none fun r hr => ?_⟩
              by_cases es : r.st = st
              · exact app_rd (W.isw r hr es) (W.no _ hv2 r hr es)
              · exact app_st es
            | some v2 =>
              obtain ⟨p, pws, ws, t, rfl, hp, hpws, hmem⟩ := W.yes _ _ hv2
              exact .inr ⟨p, pws, ws, t, rfl, SS _ _ hp, SS _ _ hpws, hmem⟩
        · rintro σ' H2 ⟨v7, rfl, SS, ⟨rfl, ha⟩ | ⟨p, pws, ws, t, rfl, hp, hpws, hmem⟩⟩
          · refine ⟨_, rfl, rfl, _, rfl, ?_⟩
            refine ite2 (fun _ => ?_) (fun z => absurd (by decide) z)
            refine kq _ _ SS ?_
            rw [ha]; rfl
          · refine ⟨_, rfl, rfl, _, rfl, ?_⟩
            refine ite2 (fun z => absurd (of_decide_eq_true z) (fun z => nomatch z)) (fun _ => ?_)
            have hws : ws.length = k := (hrk _ hmem).2
            refine ⟨_, rfl, ?_⟩
            refine ixT hp 1 rfl rfl ?_
            refine ⟨_, rfl, _, rfl, ?_⟩
            refine ixT hp 0 rfl rfl ?_
            refine ⟨pt, pws, _, _, rfl, .inr ⟨SqT.of (SS _ _ htv), SqT.of hpws, ?_⟩⟩
            refine lcN (n := k) (walk_zipT (xs := tv) (ys := ws.map V.int) (by rw [List.length_map, htl2, hws, Nat.min_self])) (fun i H' v => ∃ t, (List.zipWith setM ts ws)[i]? = some t ∧ TpAt H' v t) (by omega) (fun _ _ _ _ _ e ⟨t, a, b⟩ => ⟨t, a, b.mono e⟩) (fun H' e => ⟨(SS.trans e).seqT (SqT.of htv), e.seqT (SqT.of hpws)⟩) ?_ ?_ gm_pair
            · rintro j x H5 H6 hj S5 ⟨T, x1, y1, rfl, nT, rfl, ex, ey⟩ Q' kq'
              obtain ⟨tj, etj, atj⟩ := pd_get ptv ex
              obtain ⟨wj, ewj, rfl⟩ : ∃ m, ws[j]? = some m ∧ y1 = .int m := by
                have ey : (ws.map V.int)[j]? = some y1 := ey
                rw [List.getElem?_map] at ey
                obtain ⟨m, e1, e2⟩ := Option.map_eq_some_iff.mp ey
                exact ⟨m, e1, e2.symm⟩
              have S6 : Same H5 (upd H5 T (.tup [x1, .int wj])) := Same.new nT
              obtain ⟨pj, xj, yj, rfl, hj1, hj2, hj3⟩ := atj.mono ((SS.trans S5).trans S6).tk
              refine ⟨T, _, rfl, SqT.of upd_same, rfl, _, _, rfl, _, _, rfl, rfl, rfl, ?_⟩
              refine ⟨_, rfl, ?_⟩
              refine ixT hj1 0 rfl rfl ?_
              refine ⟨_, rfl, _, rfl, ?_⟩
              refine ixT hj1 2 rfl rfl ?_
              refine nTup (by simp) fun pn H7 n7 S7 hpn => ?_
              exact kq' _ _ (S6.trans S7) ⟨_, zw_get etj ewj, pn, _, _, rfl, hpn, hj2.mono S7.tk, hj3.mono S7.tk⟩
            · intro D H5 us hD S5 hu hul hall
              refine tupL hu fun pu H6 S6 hpu => ?_
              refine nTup (by simp) fun pr H7 n7 S7 hpr => ?_
              refine kq _ _ (((SS.trans S5).trans S6).trans S7) ?_
              rw [after_of hn hmem (app_wr ⟨rfl, rfl⟩)]
              refine ⟨pr, _, rfl, hpr, pu, us, rfl, S7 _ _ hpu, tps_of ?_ fun i v hv => ?_⟩
              · show us.length = (List.zipWith setM ts ws).length
                rw [hul, List.length_zipWith, htl, hws, Nat.min_self]
              · obtain ⟨t, e1, e2⟩ := hall i v hv
                exact ⟨t, e1, e2.mono (S6.trans S7).tk⟩
/-! ### _run -/
abbrev sRun : Stmt := top 21
abbrev nRun : List Str := ["table", "configuration", "steps", "count", "after"]
theorem scRun : FnScope nRun ["table", "configuration", "steps"] (defScope sRun) := ⟨rfl, rfl, rfl, by decide +kernel, rfl, by decide +kernel, by decide +kernel⟩
def spRun : Sp := fun vs H Q _ => ∃ (d : Addr) (v : V) (rows : List Row) (c : Conf) (k n : Nat), vs = [.ref d, v, .int (n : Nat)] ∧ TabAt H d rows ∧ NCs rows ∧ (∀ r ∈ rows, RowK k r) ∧ CfAt H v c ∧ ConfK k c ∧ SzC 800 c ∧ k ≤ 4 ∧ n ≤ 100 ∧
  ∀ v' e m H', Same H H' → CnAt H' v' e m → Ran rows c n e m → Q v' H'
theorem ok_run (F : Fn K "_run" "_run" sRun f fd) (B : Bi mg) (cT : Cal P w K mg base 3 "_taken" spTaken) : FnOk P w K mg base CX0 4 f fd ["table", "configuration", "steps"] spRun := by
  refine ok0 F scRun (fun vs H Q E h => ?_) (fun cdv A outer s H vs Q E hr h => ?_)
  · obtain ⟨d, v, rows, c, k, n, rfl, _⟩ := h
    rfl
  · obtain ⟨d, v, rows, c, k, n, rfl, hT, hn, hrk, hc, hck, hsz, hk4, hn1, kq⟩ := h
    refine ⟨_, pss_cons (ps_forN PassesOwn.never rfl (pi_range1 (by rfl) B.range (pa_cons (pv 2) pa_nil)) (pg_name (i := 3) scRun.nd rfl (.inl rfl))
        (pss_cons (ps_set (i := 4) scRun.nd rfl (.inl rfl) (pe_cal cT hr (by decide) (by rfl) (pa_cons (pv 0) (pa_cons (pv 1) pa_nil))))
        (pss_cons (ps_if (pt_cmpR op_isN (pv 4) pe_non (nomark _)) (pss_one (ps_ret (pe_tupN (pa_cons (pv 1) (pa_cons (pv 3) pa_nil))))) pss_nil)
        (pss_one (ps_set (i := 1) scRun.nd rfl (.inl rfl) (pv 4))))))
      (pss_one (ps_ret (pe_tupN (pa_cons (pv 1) (pa_cons (pv 2) pa_nil))))), ?_⟩
    refine ⟨_, rfl, n, rfl, by omega, by omega, ?_⟩
    refine forN (n := n) walk_range (fun i σ H' => ∃ v' v3 v4 e, σ = [some (.ref d), some v', some (.int (n : Nat)), v3, v4] ∧ Same H H' ∧ CfAt H' v' e ∧ steps rows i c = some e)
      ⟨v, none, none, c, rfl, Same.refl _, hc, rfl⟩ (fun _ _ _ _ _ => trivial) ?_ ?_
    · rintro i x σ H1 H2 hi ⟨v', v3, v4, e, rfl, S, he, hs⟩ ⟨rfl, rfl⟩
      refine ⟨_, rfl, _, rfl, d, v', rows, e, k, rfl, hT.mono S, hn, hrk, he, steps_ok hrk hck hs, (steps_sz hsz hs).mono (by omega), hk4, fun w' H3 S3 ho => ?_⟩
      cases ha : after rows e with
      | none =>
        rw [ha] at ho
        obtain rfl : w' = .non := ho
        refine ⟨_, rfl, rfl, _, rfl, ?_⟩
        refine ite2 (fun _ => ?_) (fun z => absurd (by decide) z)
        refine ⟨_, rfl, _, rfl, ?_⟩
        refine nTup (by simp) fun p H4 n4 S4 hp => ?_
        refine kq _ e i _ ((S.trans S3).trans S4) ⟨p, _, rfl, by rw [hp]; show some (HO.tup [v', V.int (0 + (i : Int))]) = _; rw [Int.zero_add], he.mono (S3.trans S4).tk⟩ ⟨Nat.le_of_lt hi, hs, fun _ => ha⟩
      | some e' =>
        rw [ha] at ho
        have ho : CfAt H3 w' e' := ho
        have nn : w' ≠ .non := by
          obtain ⟨_, _, rfl, _⟩ := ho
          exact fun z => nomatch z
        refine ⟨_, rfl, rfl, _, rfl, ?_⟩
        refine ite2 (fun z => absurd (of_decide_eq_true z) nn) (fun _ => ?_)
        exact ⟨_, rfl, _, _, _, e', rfl, S.trans S3, ho, by rw [steps_succ, hs]; exact ha⟩
    · rintro σ H1 ⟨v', v3, v4, e, rfl, S, he, hs⟩
      refine ⟨_, rfl, _, rfl, ?_⟩
      refine nTup (by simp) fun p H4 n4 S4 hp => ?_
      exact kq _ e n _ (S.trans S4) ⟨p, _, rfl, hp, he.mono S4.tk⟩ ⟨Nat.le_refl _, hs, fun z => absurd z (Nat.lt_irrefl _)⟩
end
end Bk

set_option Elab.async false
set_option linter.all false
set_option maxRecDepth 100000
namespace Bk
open PySem PySem.Spec PyProof.Rows L2
/-! ### the class -/
structure SevC (K : PySem.W.Frag) (C : Addr) : Prop where
  cl : Cls K C
  n1 : NoAttr K C "tapes"
  n2 : NoAttr K C "marks"
  n3 : NoAttr K C "states"
  n4 : NoAttr K C "_rows"
  n5 : NoAttr K C "_back_clash"
  n6 : NoAttr K C "_by_state"
  n7 : NoAttr K C "_by_next"
/-- names that are no attribute -/
def meths : List Str := ["_is_row", "table", "back_clash", "step", "run", "back", "run_back", "_check_back"]
structure SevF (fs : List (Str × V)) (k m s : Int) (rl bs bn : Addr) : Prop where
  f1 : fs.lookup ("tapes" : Str) = some (.int k)
  f2 : fs.lookup ("marks" : Str) = some (.int m)
  f3 : fs.lookup ("states" : Str) = some (.int s)
  f4 : fs.lookup ("_rows" : Str) = some (.ref rl)
  f5 : fs.lookup ("_back_clash" : Str) = some .non
  f6 : fs.lookup ("_by_state" : Str) = some (.ref bs)
  f7 : fs.lookup ("_by_next" : Str) = some (.ref bn)
  no : ∀ x ∈ meths, fs.lookup x = none
/-- a machine with such rows stands at x -/
def SevAt (C : Addr) (H : Hp) (x : Addr) (rows : List Row) (k : Nat) (m s : Int) : Prop :=
  ∃ dx fs rl bs bn, H x = some (.ins C dx fs) ∧ SevF fs (k : Nat) m s rl bs bn ∧ RwsAt H rl rows ∧ TabAt H bs rows ∧ TabAt H bn (bws rows)
theorem SevAt.mono {C : Addr} {H H' : Hp} {x : Addr} {rows : List Row} {k : Nat} {m s : Int} (e : Same H H') (h : SevAt C H x rows k m s) : SevAt C H' x rows k m s := by
  obtain ⟨dx, fs, rl, bs, bn, h1, h2, h3, h4, h5⟩ := h
  exact ⟨dx, fs, rl, bs, bn, e _ _ h1, h2, h3.mono e, h4.mono e, h5.mono e⟩
section
variable {P : Program} {w : World} {K : PySem.W.Frag} {mg : Str → Option Value} {base : Heap} {f C : Addr} {fd : FuncData}
abbrev sCls : Stmt := top 17
/-! ### _is_row -/
abbrev sIsRow : Stmt := inClass sCls 1
theorem scIsRow : FnScope ["self", "row"] ["self", "row"] (defScope sIsRow) := ⟨rfl, rfl, rfl, by decide +kernel, rfl, by decide +kernel, by decide +kernel⟩
def spIsRow (C : Addr) : Sp := fun vs H Q _ => ∃ (x dx : Addr) (fs : List (Str × V)) (v : V) (r : Row) (k : Nat) (m s : Int), vs = [.ref x, v] ∧ H x = some (.ins C dx fs) ∧ fs.lookup ("tapes" : Str) = some (.int (k : Nat)) ∧ fs.lookup ("marks" : Str) = some (.int m) ∧ fs.lookup ("states" : Str) = some (.int s) ∧
  RwAt H v r ∧ RowV k m s r ∧ k ≤ 4 ∧ ∀ H', Same H H' → Q (.bl true) H'
theorem ok_isRow (F : Fn K "_is_row" "Several._is_row" sIsRow f fd) (B : Bi mg) (T : SevC K C) (cN : Cal P w K mg base 1 "is_number" spIsNum) (cT : Cal P w K mg base 2 "is_tuple" spIsTup) : FnOk P w K mg base CX0 3 f fd ["self", "row"] (spIsRow C) := by
  refine ok0 F scIsRow (fun vs H Q E h => ?_) (fun cdv A outer s H vs Q E hr h => ?_)
  · obtain ⟨x, dx, fs, v, r, k, m, s, rfl, _⟩ := h
    rfl
  · obtain ⟨x, dx, fs, v, r, k, m, s, rfl, hx, ft, fm, fst, hrw, hv, hk4, kq⟩ := h
    refine ⟨_, pss_cons (ps_if (PW.pt (pw_or (pt_not (pt_val (pe_callB call_isiN (by rfl) B.isi boot_isi' (pa_cons (pv 1) (pa_cons (pe_bltn (v := .ty "tuple") (by rfl) B.tuple boot_tuple' rfl) pa_nil))))) (pw_or1 (pt_cmpR op_lt (pe_callB call_lenN (by rfl) B.len boot_len (pa_cons (pv 1) pa_nil)) pe_int (nomark _))))) pss_never pss_nil)
      (pss_cons (ps_if (PW.pt (pw_or (pt_not (pt_val (pe_cal cN hr (by decide) (by rfl) (pa_cons (pe_ix ix_N (pv 1) pe_int (fun _ _ => rfl)) (pa_cons pe_int (pa_cons (pe_op op_sub (pe_fld (pv 0) rfl) pe_int) pa_nil))))))
          (pw_or1 (pt_not (pt_val (pe_cal cN hr (by decide) (by rfl) (pa_cons (pe_ix ix_N (pv 1) (pe_un un_neg pe_int) (fun _ _ => rfl)) (pa_cons pe_int (pa_cons (pe_op op_sub (pe_fld (pv 0) rfl) pe_int) pa_nil))))))))) pss_never pss_nil)
      (pss_cons (ps_if (pt_cmpR op_eq (pe_ix ix_N (pv 1) pe_int (fun _ _ => rfl)) pe_str (nomark _))
        (pss_one (ps_ret (pe_and (pe_cmpR op_eq (pe_callB call_lenN (by rfl) B.len boot_len (pa_cons (pv 1) pa_nil)) pe_int (nomark _)) (pe_one (pe_cal cT hr (by decide) (by rfl) (pa_cons (pe_ix ix_N (pv 1) pe_int (fun _ _ => rfl)) (pa_cons (pe_fld (pv 0) rfl) (pa_cons (pe_un un_neg pe_int) (pa_cons pe_int pa_nil))))))))) pss_nil)
      (pss_cons (ps_if (PW.pt (pw_or (pt_cmpR op_ne (pe_ix ix_N (pv 1) pe_int (fun _ _ => rfl)) pe_str (nomark _)) (pw_or1 (pt_cmpR op_ne (pe_callB call_lenN (by rfl) B.len boot_len (pa_cons (pv 1) pa_nil)) pe_int (nomark _))))) pss_never pss_nil)
      (pss_one (ps_ret (pe_and (pe_cal cT hr (by decide) (by rfl) (pa_cons (pe_ix ix_N (pv 1) pe_int (fun _ _ => rfl)) (pa_cons (pe_fld (pv 0) rfl) (pa_cons pe_int (pa_cons (pe_op op_sub (pe_fld (pv 0) rfl) pe_int) pa_nil)))))
        (pe_one (pe_cal cT hr (by decide) (by rfl) (pa_cons (pe_ix ix_N (pv 1) pe_int (fun _ _ => rfl)) (pa_cons (pe_fld (pv 0) rfl) (pa_cons pe_int (pa_cons (pe_op op_sub (pe_fld (pv 0) rfl) pe_int) pa_nil)))))))))))), ?_⟩
    cases r with
    | mv q ms t =>
      obtain ⟨a, y, rfl, ha, p, rfl, hp⟩ := hrw
      obtain ⟨⟨hml, hmr⟩, hq, ht⟩ := hv
      subst hml
      refine ⟨_, rfl, ?_⟩
      refine isi_tuple ha ?_
      refine ⟨true, rfl, _, rfl, ?_⟩
      refine lenT ha ?_
      refine ⟨_, _, rfl, rfl, _, rfl, ?_⟩
      refine ⟨_, rfl, ?_⟩
      refine ixT ha 1 rfl rfl ?_
      refine ⟨_, rfl, x, C, dx, fs, _, rfl, hx, T.cl, T.n3, fst, _, _, rfl, rfl, q, 0, s - 1, rfl, hq.1, hq.2, true, rfl, _, rfl, _, rfl, ?_⟩
      refine ixTI ha rfl ?_
      refine ⟨_, rfl, x, C, dx, fs, _, rfl, hx, T.cl, T.n3, fst, _, _, rfl, rfl, t, 0, s - 1, rfl, ht.1, ht.2, true, rfl, ?_⟩
      refine ⟨_, rfl, ?_⟩
      refine ixT ha 0 rfl rfl ?_
      refine ⟨rfl, _, rfl, ite2 (fun _ => ?_) (fun h => absurd (decide_eq_true rfl) h)⟩
      refine ⟨_, rfl, ?_⟩
      refine lenT ha ?_
      refine ⟨rfl, true, by rfl, ?_⟩
      refine ⟨_, rfl, ?_⟩
      refine ixT ha 2 rfl rfl ?_
      refine ⟨_, rfl, x, C, dx, fs, _, rfl, hx, T.cl, T.n1, ft, _, rfl, ?_⟩
      exact ⟨_, ms, -1, 1, rfl, ⟨p, rfl, hp⟩, hmr, by omega, kq⟩
    | wr q rs ws t =>
      obtain ⟨a, y, z, rfl, ha, ⟨p, rfl, hp⟩, ⟨p2, rfl, hp2⟩⟩ := hrw
      obtain ⟨⟨hml, hmr⟩, ⟨hwl, hwr⟩, hq, ht⟩ := hv
      refine ⟨_, rfl, ?_⟩
      refine isi_tuple ha ?_
      refine ⟨true, rfl, _, rfl, ?_⟩
      refine lenT ha ?_
      refine ⟨_, _, rfl, rfl, _, rfl, ?_⟩
      refine ⟨_, rfl, ?_⟩
      refine ixT ha 1 rfl rfl ?_
      refine ⟨_, rfl, x, C, dx, fs, _, rfl, hx, T.cl, T.n3, fst, _, _, rfl, rfl, q, 0, s - 1, rfl, hq.1, hq.2, true, rfl, _, rfl, _, rfl, ?_⟩
      refine ixTI ha rfl ?_
      refine ⟨_, rfl, x, C, dx, fs, _, rfl, hx, T.cl, T.n3, fst, _, _, rfl, rfl, t, 0, s - 1, rfl, ht.1, ht.2, true, rfl, ?_⟩
      refine ⟨_, rfl, ?_⟩
      refine ixT ha 0 rfl rfl ?_
      refine ⟨rfl, _, rfl, ite2 (fun h => absurd (of_decide_eq_true h) (fun e => wr_mv (V.str.inj e).symm)) (fun _ => ?_)⟩
      refine ⟨_, rfl, ?_⟩
      refine ixT ha 0 rfl rfl ?_
      refine ⟨rfl, false, congrArg V.bl (congrArg Bool.not (decide_eq_true rfl)), ?_⟩
      refine ⟨_, rfl, ?_⟩
      refine lenT ha ?_
      refine ⟨rfl, false, by rfl, ?_⟩
      refine ⟨_, rfl, ?_⟩
      refine ixT ha 2 rfl rfl ?_
      refine ⟨_, rfl, x, C, dx, fs, _, rfl, hx, T.cl, T.n1, ft, _, rfl, x, C, dx, fs, _, rfl, hx, T.cl, T.n2, fm, _, _, rfl, rfl, ?_⟩
      refine ⟨_, rs, 0, m - 1, by rw [hml]; rfl, ⟨p, rfl, hp⟩, hmr, by omega, fun H1 S1 => ⟨true, rfl, ?_⟩⟩
      refine ⟨_, rfl, ?_⟩
      refine ixT (S1 _ _ ha) 3 rfl rfl ?_
      refine ⟨_, rfl, x, C, dx, fs, _, rfl, S1 _ _ hx, T.cl, T.n1, ft, _, rfl, x, C, dx, fs, _, rfl, S1 _ _ hx, T.cl, T.n2, fm, _, _, rfl, rfl, ?_⟩
      exact ⟨_, ws, 0, m - 1, by rw [hwl]; rfl, ⟨p2, rfl, S1 _ _ hp2⟩, hwr, by omega, fun H2 S2 => kq _ (S1.trans S2)⟩
end
end Bk

set_option Elab.async false
set_option linter.all false
set_option maxRecDepth 100000
namespace Bk
open PySem PySem.Spec PyProof.Rows L2
/-! ### the names of the fields differ -/
theorem e12 : ¬ (("tapes" : Str) = "marks") := by decide +kernel
theorem e13 : ¬ (("tapes" : Str) = "states") := by decide +kernel
theorem e14 : ¬ (("tapes" : Str) = "_rows") := by decide +kernel
theorem e15 : ¬ (("tapes" : Str) = "_back_clash") := by decide +kernel
theorem e16 : ¬ (("tapes" : Str) = "_by_state") := by decide +kernel
theorem e17 : ¬ (("tapes" : Str) = "_by_next") := by decide +kernel
theorem e21 : ¬ (("marks" : Str) = "tapes") := by decide +kernel
theorem e23 : ¬ (("marks" : Str) = "states") := by decide +kernel
theorem e24 : ¬ (("marks" : Str) = "_rows") := by decide +kernel
theorem e25 : ¬ (("marks" : Str) = "_back_clash") := by decide +kernel
theorem e26 : ¬ (("marks" : Str) = "_by_state") := by decide +kernel
theorem e27 : ¬ (("marks" : Str) = "_by_next") := by decide +kernel
theorem e31 : ¬ (("states" : Str) = "tapes") := by decide +kernel
theorem e32 : ¬ (("states" : Str) = "marks") := by decide +kernel
theorem e34 : ¬ (("states" : Str) = "_rows") := by decide +kernel
theorem e35 : ¬ (("states" : Str) = "_back_clash") := by decide +kernel
theorem e36 : ¬ (("states" : Str) = "_by_state") := by decide +kernel
theorem e37 : ¬ (("states" : Str) = "_by_next") := by decide +kernel
theorem e41 : ¬ (("_rows" : Str) = "tapes") := by decide +kernel
theorem e42 : ¬ (("_rows" : Str) = "marks") := by decide +kernel
theorem e43 : ¬ (("_rows" : Str) = "states") := by decide +kernel
theorem e45 : ¬ (("_rows" : Str) = "_back_clash") := by decide +kernel
theorem e46 : ¬ (("_rows" : Str) = "_by_state") := by decide +kernel
theorem e47 : ¬ (("_rows" : Str) = "_by_next") := by decide +kernel
theorem e51 : ¬ (("_back_clash" : Str) = "tapes") := by decide +kernel
theorem e52 : ¬ (("_back_clash" : Str) = "marks") := by decide +kernel
theorem e53 : ¬ (("_back_clash" : Str) = "states") := by decide +kernel
theorem e54 : ¬ (("_back_clash" : Str) = "_rows") := by decide +kernel
theorem e56 : ¬ (("_back_clash" : Str) = "_by_state") := by decide +kernel
theorem e57 : ¬ (("_back_clash" : Str) = "_by_next") := by decide +kernel
theorem e61 : ¬ (("_by_state" : Str) = "tapes") := by decide +kernel
theorem e62 : ¬ (("_by_state" : Str) = "marks") := by decide +kernel
theorem e63 : ¬ (("_by_state" : Str) = "states") := by decide +kernel
theorem e64 : ¬ (("_by_state" : Str) = "_rows") := by decide +kernel
theorem e65 : ¬ (("_by_state" : Str) = "_back_clash") := by decide +kernel
theorem e67 : ¬ (("_by_state" : Str) = "_by_next") := by decide +kernel
theorem e71 : ¬ (("_by_next" : Str) = "tapes") := by decide +kernel
theorem e72 : ¬ (("_by_next" : Str) = "marks") := by decide +kernel
theorem e73 : ¬ (("_by_next" : Str) = "states") := by decide +kernel
theorem e74 : ¬ (("_by_next" : Str) = "_rows") := by decide +kernel
theorem e75 : ¬ (("_by_next" : Str) = "_back_clash") := by decide +kernel
theorem e76 : ¬ (("_by_next" : Str) = "_by_state") := by decide +kernel
def flds : List Str := ["tapes", "marks", "states", "_rows", "_back_clash", "_by_state", "_by_next"]
theorem mf : ∀ x ∈ meths, ∀ y ∈ flds, ¬ x = y := by decide +kernel
def F3 (k m s : Int) : List (Str × V) := putF "states" (.int s) (putF "marks" (.int m) (putF "tapes" (.int k) []))
def F4 (k m s : Int) (rl : Addr) : List (Str × V) := putF "_rows" (.ref rl) (F3 k m s)
def F5 (k m s : Int) (rl : Addr) : List (Str × V) := putF "_back_clash" .non (F4 k m s rl)
def F6 (k m s : Int) (rl bs : Addr) : List (Str × V) := putF "_by_state" (.ref bs) (F5 k m s rl)
def F7 (k m s : Int) (rl bs bn : Addr) : List (Str × V) := putF "_by_next" (.ref bn) (F6 k m s rl bs)
def F8 (k m s : Int) (rl bs b0 bn : Addr) : List (Str × V) := putF "_by_next" (.ref bn) (F7 k m s rl bs b0)
theorem put_no {f : Str} {v : V} {fs : List (Str × V)} (hf : f ∈ flds) (h : ∀ x ∈ meths, fs.lookup x = none) : ∀ x ∈ meths, (putF f v fs).lookup x = none := fun x hx => by
  rw [lookup_putF, if_neg (mf x hx f hf)]
  exact h x hx
theorem put_len {f : Str} {v : V} {fs : List (Str × V)} {n : Nat} (h : fs.length ≤ n) : (putF f v fs).length ≤ n + 1 := Nat.le_trans (length_putF ..) (Nat.succ_le_succ h)
theorem f3_no (k m s : Int) : ∀ x ∈ meths, (F3 k m s).lookup x = none := put_no (by decide +kernel) (put_no (by decide +kernel) (put_no (by decide +kernel) fun _ _ => rfl))
theorem f4_no (k m s : Int) (rl : Addr) : ∀ x ∈ meths, (F4 k m s rl).lookup x = none := put_no (by decide +kernel) (f3_no k m s)
theorem f8_no (k m s : Int) (rl bs b0 bn : Addr) : ∀ x ∈ meths, (F8 k m s rl bs b0 bn).lookup x = none := put_no (by decide +kernel) (put_no (by decide +kernel) (put_no (by decide +kernel) (put_no (by decide +kernel) (f4_no k m s rl))))
theorem f3_len (k m s : Int) : (F3 k m s).length ≤ 3 := put_len (put_len (put_len (Nat.le_refl 0)))
theorem f4_len (k m s : Int) (rl : Addr) : (F4 k m s rl).length ≤ 4 := put_len (f3_len ..)
theorem f5_len (k m s : Int) (rl : Addr) : (F5 k m s rl).length ≤ 5 := put_len (f4_len ..)
theorem f6_len (k m s : Int) (rl bs : Addr) : (F6 k m s rl bs).length ≤ 6 := put_len (f5_len ..)
theorem f7_len (k m s : Int) (rl bs bn : Addr) : (F7 k m s rl bs bn).length ≤ 7 := put_len (f6_len ..)
theorem f4_1 (k m s : Int) (rl : Addr) : (F4 k m s rl).lookup ("tapes" : Str) = some (.int k) := by
  simp only [F4, F3, lookup_putF, e12, e13, e14, e15, e16, e17, e21, e23, e24, e25, e26, e27, e31, e32, e34, e35, e36, e37, e41, e42, e43, e45, e46, e47, e51, e52, e53, e54, e56, e57, e61, e62, e63, e64, e65, e67, e71, e72, e73, e74, e75, e76, if_true, if_false]
theorem f4_2 (k m s : Int) (rl : Addr) : (F4 k m s rl).lookup ("marks" : Str) = some (.int m) := by
  simp only [F4, F3, lookup_putF, e12, e13, e14, e15, e16, e17, e21, e23, e24, e25, e26, e27, e31, e32, e34, e35, e36, e37, e41, e42, e43, e45, e46, e47, e51, e52, e53, e54, e56, e57, e61, e62, e63, e64, e65, e67, e71, e72, e73, e74, e75, e76, if_true, if_false]
theorem f4_3 (k m s : Int) (rl : Addr) : (F4 k m s rl).lookup ("states" : Str) = some (.int s) := by
  simp only [F4, F3, lookup_putF, e12, e13, e14, e15, e16, e17, e21, e23, e24, e25, e26, e27, e31, e32, e34, e35, e36, e37, e41, e42, e43, e45, e46, e47, e51, e52, e53, e54, e56, e57, e61, e62, e63, e64, e65, e67, e71, e72, e73, e74, e75, e76, if_true, if_false]
theorem f4_4 (k m s : Int) (rl : Addr) : (F4 k m s rl).lookup ("_rows" : Str) = some (.ref rl) := by
  simp only [F4, F3, lookup_putF, e12, e13, e14, e15, e16, e17, e21, e23, e24, e25, e26, e27, e31, e32, e34, e35, e36, e37, e41, e42, e43, e45, e46, e47, e51, e52, e53, e54, e56, e57, e61, e62, e63, e64, e65, e67, e71, e72, e73, e74, e75, e76, if_true, if_false]
theorem f5_4 (k m s : Int) (rl : Addr) : (F5 k m s rl).lookup ("_rows" : Str) = some (.ref rl) := by
  simp only [F5, F4, F3, lookup_putF, e12, e13, e14, e15, e16, e17, e21, e23, e24, e25, e26, e27, e31, e32, e34, e35, e36, e37, e41, e42, e43, e45, e46, e47, e51, e52, e53, e54, e56, e57, e61, e62, e63, e64, e65, e67, e71, e72, e73, e74, e75, e76, if_true, if_false]
theorem f7_4 (k m s : Int) (rl bs bn : Addr) : (F7 k m s rl bs bn).lookup ("_rows" : Str) = some (.ref rl) := by
  simp only [F7, F6, F5, F4, F3, lookup_putF, e12, e13, e14, e15, e16, e17, e21, e23, e24, e25, e26, e27, e31, e32, e34, e35, e36, e37, e41, e42, e43, e45, e46, e47, e51, e52, e53, e54, e56, e57, e61, e62, e63, e64, e65, e67, e71, e72, e73, e74, e75, e76, if_true, if_false]
theorem f7_5 (k m s : Int) (rl bs bn : Addr) : (F7 k m s rl bs bn).lookup ("_back_clash" : Str) = some .non := by
  simp only [F7, F6, F5, F4, F3, lookup_putF, e12, e13, e14, e15, e16, e17, e21, e23, e24, e25, e26, e27, e31, e32, e34, e35, e36, e37, e41, e42, e43, e45, e46, e47, e51, e52, e53, e54, e56, e57, e61, e62, e63, e64, e65, e67, e71, e72, e73, e74, e75, e76, if_true, if_false]
theorem sevF8 (k m s : Int) (rl bs b0 bn : Addr) : SevF (F8 k m s rl bs b0 bn) k m s rl bs bn := by
  refine ⟨?_, ?_, ?_, ?_, ?_, ?_, ?_, f8_no k m s rl bs b0 bn⟩ <;> simp only [F8, F7, F6, F5, F4, F3, lookup_putF, e12, e13, e14, e15, e16, e17, e21, e23, e24, e25, e26, e27, e31, e32, e34, e35, e36, e37, e41, e42, e43, e45, e46, e47, e51, e52, e53, e54, e56, e57, e61, e62, e63, e64, e65, e67, e71, e72, e73, e74, e75, e76, if_true, if_false]
/-! ### what stands beside an instance that changes -/
section
variable {H H' : Hp} {x C dx : Addr} {fs : List (Str × V)}
theorem tk_sx (hx : H x = some (.ins C dx fs)) (e : ∀ b o, b ≠ x → H b = some o → H' b = some o) : Tk H H' := fun p xs hp => e p _ (ne_of hp hx fun z => by cases z) hp
theorem RwsAt.sx (hx : H x = some (.ins C dx fs)) (e : ∀ b o, b ≠ x → H b = some o → H' b = some o) {a : Addr} {rows : List Row} (h : RwsAt H a rows) : RwsAt H' a rows := by
  obtain ⟨vs, h1, h2⟩ := h
  exact ⟨vs, e _ _ (ne_of h1 hx fun z => by cases z) h1, L2.Paired.mapP h2 fun _ _ q => q.mono (tk_sx hx e)⟩
theorem TabAt.sx (hx : H x = some (.ins C dx fs)) (e : ∀ b o, b ≠ x → H b = some o → H' b = some o) {d : Addr} {rows : List Row} (h : TabAt H d rows) : TabAt H' d rows := by
  obtain ⟨kvs, h1, h2, h3⟩ := h
  refine ⟨kvs, e _ _ (ne_of h1 hx fun z => by cases z) h1, h2, fun q v hv => ?_⟩
  obtain ⟨e0, rfl, h4 | ⟨pw, tk, h4⟩⟩ := h3 q v hv
  · exact ⟨e0, rfl, .inl (h4.mono (tk_sx hx e) fun _ z => z)⟩
  · exact ⟨e0, rfl, .inr ⟨pw, tk, h4.mono (tk_sx hx e) ((e _ _ (ne_of h4.hw hx fun z => by cases z) h4.hw).trans h4.hw.symm)⟩⟩
theorem sx_upd {o : HO} : ∀ b u, b ≠ x → H b = some u → upd H x o b = some u := fun b u n e => by rw [upd_ne n]; exact e
end
end Bk

set_option Elab.async false
set_option linter.all false
set_option maxRecDepth 100000
namespace Bk
open PySem PySem.Spec PyProof.Rows L2
section
variable {P : Program} {w : World} {K : PySem.W.Frag} {mg : Str → Option Value} {base : Heap} {f C : Addr} {fd : FuncData}
/-! ### the small methods -/
abbrev sMTable : Stmt := inClass sCls 2
theorem scMTable : FnScope ["self"] ["self"] (defScope sMTable) := ⟨rfl, rfl, rfl, by decide +kernel, rfl, by decide +kernel, by decide +kernel⟩
def spMTable (C : Addr) : Sp := fun vs H Q _ => ∃ (x : Addr) (rows : List Row) (k : Nat) (m s : Int), vs = [.ref x] ∧ SevAt C H x rows k m s ∧ ∀ p H', Same H H' → RwsAt H' p rows → Q (.ref p) H'
theorem ok_mTable (F : Fn K "table" "Several.table" sMTable f fd) (B : Bi mg) (T : SevC K C) : FnOk P w K mg base CX0 1 f fd ["self"] (spMTable C) := by
  refine ok0 F scMTable (fun vs H Q E h => ?_) (fun cdv A outer s H vs Q E hr h => ?_)
  · obtain ⟨x, rows, k, m, s, rfl, _⟩ := h
    rfl
  · obtain ⟨x, rows, k, m, s, rfl, ⟨dx, fs, rl, bs, bn, hx, hf, hR, _⟩, kq⟩ := h
    refine ⟨_, pss_one (ps_ret (pe_callTy call_lstN (by rfl) B.list boot_list' (pa_cons (pe_fld (pv 0) rfl) pa_nil))), ?_⟩
    refine ⟨_, rfl, x, C, dx, fs, _, rfl, hx, T.cl, T.n4, hf.f4, ?_⟩
    obtain ⟨vs, h1, h2⟩ := hR
    refine lstL (SqL.of h1) fun p H1 n1 S1 hp => ?_
    exact kq p _ S1 ⟨vs, hp, L2.Paired.mapP h2 fun _ _ q => q.mono S1.tk⟩
abbrev sMClash : Stmt := inClass sCls 3
theorem scMClash : FnScope ["self"] ["self"] (defScope sMClash) := ⟨rfl, rfl, rfl, by decide +kernel, rfl, by decide +kernel, by decide +kernel⟩
def spMNon (C : Addr) : Sp := fun vs H Q _ => ∃ (x : Addr) (rows : List Row) (k : Nat) (m s : Int), vs = [.ref x] ∧ SevAt C H x rows k m s ∧ Q .non H
theorem ok_mClash (F : Fn K "back_clash" "Several.back_clash" sMClash f fd) (T : SevC K C) : FnOk P w K mg base CX0 1 f fd ["self"] (spMNon C) := by
  refine ok0 F scMClash (fun vs H Q E h => ?_) (fun cdv A outer s H vs Q E hr h => ?_)
  · obtain ⟨x, rows, k, m, s, rfl, _⟩ := h
    rfl
  · obtain ⟨x, rows, k, m, s, rfl, ⟨dx, fs, rl, bs, bn, hx, hf, hR, _⟩, kq⟩ := h
    refine ⟨_, pss_one (ps_ret (pe_fld (pv 0) rfl)), ?_⟩
    exact ⟨_, rfl, x, C, dx, fs, _, rfl, hx, T.cl, T.n5, hf.f5, kq⟩
abbrev sMCheck : Stmt := inClass sCls 12
theorem scMCheck : FnScope ["self"] ["self"] (defScope sMCheck) := ⟨rfl, rfl, rfl, by decide +kernel, rfl, by decide +kernel, by decide +kernel⟩
theorem ok_mCheck (F : Fn K "_check_back" "Several._check_back" sMCheck f fd) (T : SevC K C) : FnOk P w K mg base CX0 1 f fd ["self"] (spMNon C) := by
  refine ok0 F scMCheck (fun vs H Q E h => ?_) (fun cdv A outer s H vs Q E hr h => ?_)
  · obtain ⟨x, rows, k, m, s, rfl, _⟩ := h
    rfl
  · obtain ⟨x, rows, k, m, s, rfl, ⟨dx, fs, rl, bs, bn, hx, hf, hR, _⟩, kq⟩ := h
    refine ⟨_, pss_one (ps_if (pt_cmpR op_notN (pe_fld (pv 0) rfl) pe_non (nomark _)) pss_never pss_nil), ?_⟩
    refine ⟨_, rfl, x, C, dx, fs, _, rfl, hx, T.cl, T.n5, hf.f5, rfl, _, rfl, ?_⟩
    exact ite2 (fun z => absurd z (by decide)) (fun _ => kq)
/-! ### step, run, back, run_back -/
abbrev sMStep : Stmt := inClass sCls 7
theorem scMStep : FnScope ["self", "configuration"] ["self", "configuration"] (defScope sMStep) := ⟨rfl, rfl, rfl, by decide +kernel, rfl, by decide +kernel, by decide +kernel⟩
/-- a machine goes both ways -/
structure Both (k : Nat) (rows : List Row) : Prop where
  nf : NCs rows
  nb : NCs (bws rows)
  rk : ∀ r ∈ rows, RowK k r
  k4 : k ≤ 4
theorem Both.bw {k : Nat} {rows : List Row} (h : Both k rows) : Both k (bws rows) := ⟨h.nb, by rw [bws_bws]; exact h.nf, fun r hr => by
  obtain ⟨r', h1, rfl⟩ := List.mem_map.mp hr
  exact (h.rk r' h1).bw, h.k4⟩
def spMStep (C : Addr) (b : Bool) : Sp := fun vs H Q _ => ∃ (x : Addr) (v : V) (rows : List Row) (c : Conf) (k : Nat) (m s : Int), vs = [.ref x, v] ∧ SevAt C H x rows k m s ∧ Both k rows ∧ CfAt H v c ∧ ConfK k c ∧ SzC 900 c ∧
  ∀ v' H', Same H H' → OcAt H' v' (after (fbs b rows) c) → Q v' H'
def spMRun (C : Addr) (b : Bool) : Sp := fun vs H Q _ => ∃ (x : Addr) (v : V) (rows : List Row) (c : Conf) (k n : Nat) (m s : Int), vs = [.ref x, v, .int (n : Nat)] ∧ SevAt C H x rows k m s ∧ Both k rows ∧ CfAt H v c ∧ ConfK k c ∧ SzC 800 c ∧ n ≤ 100 ∧
  ∀ v' e j H', Same H H' → CnAt H' v' e j → Ran (fbs b rows) c n e j → Q v' H'
theorem ok_mStep (F : Fn K "step" "Several.step" sMStep f fd) (T : SevC K C) (cT : Cal P w K mg base 3 "_taken" spTaken) : FnOk P w K mg base CX0 4 f fd ["self", "configuration"] (spMStep C false) := by
  refine ok0 F scMStep (fun vs H Q E h => ?_) (fun cdv A outer s H vs Q E hr h => ?_)
  · obtain ⟨x, v, rows, c, k, m, s, rfl, _⟩ := h
    rfl
  · obtain ⟨x, v, rows, c, k, m, s, rfl, ⟨dx, fs, rl, bs, bn, hx, hf, hR, hT, hB⟩, hb, hc, hck, hsz, kq⟩ := h
    refine ⟨_, pss_one (ps_ret (pe_cal cT hr (by decide) (by rfl) (pa_cons (pe_fld (pv 0) rfl) (pa_cons (pv 1) pa_nil)))), ?_⟩
    refine ⟨_, rfl, x, C, dx, fs, _, rfl, hx, T.cl, T.n6, hf.f6, _, rfl, ?_⟩
    rw [fbs_F] at kq
    exact ⟨bs, v, rows, c, k, rfl, hT, hb.nf, hb.rk, hc, hck, hsz, hb.k4, kq⟩
abbrev sMRun : Stmt := inClass sCls 9
theorem scMRun : FnScope ["self", "configuration", "steps"] ["self", "configuration", "steps"] (defScope sMRun) := ⟨rfl, rfl, rfl, by decide +kernel, rfl, by decide +kernel, by decide +kernel⟩
theorem ok_mRun (F : Fn K "run" "Several.run" sMRun f fd) (T : SevC K C) (cR : Cal P w K mg base 4 "_run" spRun) : FnOk P w K mg base CX0 5 f fd ["self", "configuration", "steps"] (spMRun C false) := by
  refine ok0 F scMRun (fun vs H Q E h => ?_) (fun cdv A outer s H vs Q E hr h => ?_)
  · obtain ⟨x, v, rows, c, k, n, m, s, rfl, _⟩ := h
    rfl
  · obtain ⟨x, v, rows, c, k, n, m, s, rfl, ⟨dx, fs, rl, bs, bn, hx, hf, hR, hT, hB⟩, hb, hc, hck, hsz, hn, kq⟩ := h
    refine ⟨_, pss_one (ps_ret (pe_cal cR hr (by decide) (by rfl) (pa_cons (pe_fld (pv 0) rfl) (pa_cons (pv 1) (pa_cons (pv 2) pa_nil))))), ?_⟩
    refine ⟨_, rfl, x, C, dx, fs, _, rfl, hx, T.cl, T.n6, hf.f6, _, rfl, _, rfl, ?_⟩
    rw [fbs_F] at kq
    exact ⟨bs, v, rows, c, k, n, rfl, hT, hb.nf, hb.rk, hc, hck, hsz, hb.k4, hn, kq⟩
theorem mem_ {a : Str} {l : List Str} (h : (decide (a ∈ l)) = true) : a ∈ l := of_decide_eq_true h
theorem m_check : ("_check_back" : Str) ∈ meths := by decide +kernel
theorem m_isrow : ("_is_row" : Str) ∈ meths := by decide +kernel
theorem m_table : ("table" : Str) ∈ meths := by decide +kernel
theorem m_clash : ("back_clash" : Str) ∈ meths := by decide +kernel
theorem m_step : ("step" : Str) ∈ meths := by decide +kernel
theorem m_run : ("run" : Str) ∈ meths := by decide +kernel
theorem m_back : ("back" : Str) ∈ meths := by decide +kernel
theorem m_rback : ("run_back" : Str) ∈ meths := by decide +kernel
abbrev sMBack : Stmt := inClass sCls 10
theorem scMBack : FnScope ["self", "configuration"] ["self", "configuration"] (defScope sMBack) := ⟨rfl, rfl, rfl, by decide +kernel, rfl, by decide +kernel, by decide +kernel⟩
theorem ok_mBack (F : Fn K "back" "Several.back" sMBack f fd) (T : SevC K C) (cT : Cal P w K mg base 3 "_taken" spTaken) (cC : Met P w K mg base 1 C "_check_back" (spMNon C)) : FnOk P w K mg base CX0 4 f fd ["self", "configuration"] (spMStep C true) := by
  refine ok0 F scMBack (fun vs H Q E h => ?_) (fun cdv A outer s H vs Q E hr h => ?_)
  · obtain ⟨x, v, rows, c, k, m, s, rfl, _⟩ := h
    rfl
  · obtain ⟨x, v, rows, c, k, m, s, rfl, hS, hb, hc, hck, hsz, kq⟩ := h
    obtain ⟨dx, fs, rl, bs, bn, hx, hf, hR, hT, hB⟩ := id hS
    refine ⟨_, pss_cons (ps_expr (pe_met0 cC T.cl hr (by decide) (pv 0))) (pss_one (ps_ret (pe_cal cT hr (by decide) (by rfl) (pa_cons (pe_fld (pv 0) rfl) (pa_cons (pv 1) pa_nil))))), ?_⟩
    refine ⟨_, rfl, x, dx, fs, rfl, hx, hf.no _ m_check, x, rows, k, m, s, rfl, hS, ?_⟩
    refine ⟨_, rfl, x, C, dx, fs, _, rfl, hx, T.cl, T.n7, hf.f7, _, rfl, ?_⟩
    exact ⟨bn, v, bws rows, c, k, rfl, hB, hb.nb, hb.bw.rk, hc, hck, hsz, hb.k4, kq⟩
abbrev sMRBack : Stmt := inClass sCls 11
theorem scMRBack : FnScope ["self", "configuration", "steps"] ["self", "configuration", "steps"] (defScope sMRBack) := ⟨rfl, rfl, rfl, by decide +kernel, rfl, by decide +kernel, by decide +kernel⟩
theorem ok_mRBack (F : Fn K "run_back" "Several.run_back" sMRBack f fd) (T : SevC K C) (cR : Cal P w K mg base 4 "_run" spRun) (cC : Met P w K mg base 1 C "_check_back" (spMNon C)) : FnOk P w K mg base CX0 5 f fd ["self", "configuration", "steps"] (spMRun C true) := by
  refine ok0 F scMRBack (fun vs H Q E h => ?_) (fun cdv A outer s H vs Q E hr h => ?_)
  · obtain ⟨x, v, rows, c, k, n, m, s, rfl, _⟩ := h
    rfl
  · obtain ⟨x, v, rows, c, k, n, m, s, rfl, hS, hb, hc, hck, hsz, hn, kq⟩ := h
    obtain ⟨dx, fs, rl, bs, bn, hx, hf, hR, hT, hB⟩ := id hS
    refine ⟨_, pss_cons (ps_expr (pe_met0 cC T.cl hr (by decide) (pv 0))) (pss_one (ps_ret (pe_cal cR hr (by decide) (by rfl) (pa_cons (pe_fld (pv 0) rfl) (pa_cons (pv 1) (pa_cons (pv 2) pa_nil)))))), ?_⟩
    refine ⟨_, rfl, x, dx, fs, rfl, hx, hf.no _ m_check, x, rows, k, m, s, rfl, hS, ?_⟩
    refine ⟨_, rfl, x, C, dx, fs, _, rfl, hx, T.cl, T.n7, hf.f7, _, rfl, _, rfl, ?_⟩
    exact ⟨bn, v, bws rows, c, k, n, rfl, hB, hb.nb, hb.bw.rk, hc, hck, hsz, hb.k4, hn, kq⟩
/-! ### __init__ -/
abbrev sInit : Stmt := inClass sCls 0
abbrev nInit : List Str := ["self", "tapes", "marks", "states", "rows", "pair", "row"]
theorem scInit : FnScope nInit ["self", "tapes", "marks", "states", "rows"] (defScope sInit) := ⟨rfl, rfl, rfl, by decide +kernel, rfl, by decide +kernel, by decide +kernel⟩
def spInit (C : Addr) : Sp := fun vs H Q _ => ∃ (H0 : Hp) (x dx a : Addr) (rows : List Row) (k : Nat) (m s : Int), vs = [.ref x, .int (k : Nat), .int m, .int s, .ref a] ∧ Same H0 H ∧ H0 x = none ∧ H x = some (.ins C dx []) ∧
  RwsAt H0 a rows ∧ rows.length ≤ 16 ∧ Szs k m s ∧ (∀ r ∈ rows, RowV k m s r) ∧ NCs rows ∧ NCs (bws rows) ∧ ∀ H', Same H0 H' → SevAt C H' x rows k m s → Q .non H'
structure Mosts (mg : Str → Option Value) : Prop where
  t : ∃ t, mg "MOST_TAPES" = some (.int 4 t)
  m : ∃ t, mg "MOST_MARKS" = some (.int 400 t)
  s : ∃ t, mg "MOST_STATES" = some (.int 5000 t)
  r : ∃ t, mg "MOST_ROWS" = some (.int 20000 t)
/-- [backward(row) for row in ..]: what is made -/
theorem rws_of {H : Hp} {D : Addr} {us : List V} {rows : List Row} (h : H D = some (.lst us)) (hl : us.length = rows.length) (ha : ∀ (i : Nat) (v : V), us[i]? = some v → ∃ r, (bws rows)[i]? = some r ∧ RwAt H v r) : RwsAt H D (bws rows) :=
  ⟨us, h, pd_of (by rw [hl]; exact (List.length_map _).symm) fun i x y hx hy => by
    obtain ⟨r, e, q⟩ := ha i x hx
    rw [e] at hy
    cases hy
    exact q⟩
end
end Bk

set_option Elab.async false
set_option linter.all false
set_option maxRecDepth 100000
namespace Bk
open PySem PySem.Spec PyProof.Rows L2
@[irreducible] def SetF (K : PySem.W.Frag) (f : Str) (v y : V) (nx : L2.St → Hp → Prop) (σ : L2.St) (H : Hp) : Prop := ∃ a C dx fs, v = .ref a ∧ H a = some (.ins C dx fs) ∧ Cls K C ∧ NoAttr K C f ∧ fs.length < 1000 ∧ nx σ (upd H a (.ins C dx (putF f y fs)))
def sFldN (K : PySem.W.Frag) (ta tv : L2.TE) (f : Str) : TS := fun D σ H => tv σ H fun y H1 => ta σ H1 fun x H2 => SetF K f x y D.nx σ H2
theorem ps_fldN {X : Cx} {o value : Expr} {ta tv : L2.TE} {f : Str} {pos pos' : Pos} (ha : PE X o ta) (hv : PE X value tv) (hs : swapsWith value (some (.Attribute o f pos')) pos.line X.env = pure false) : PS X (.Assign [.Attribute o f pos'] value pos) (sFldN X.K ta tv f) :=
  ⟨fun pins s σ H D I q => (ps_fld ha hv hs).run pins s σ H D I (by unfold sFldN SetF at q; exact q)⟩
theorem setF {K : PySem.W.Frag} {f : Str} {x C dx : Addr} {y : V} {nx : L2.St → Hp → Prop} {σ : L2.St} {H : Hp} {fs : List (Str × V)} (hx : H x = some (.ins C dx fs)) (cl : Cls K C) (na : NoAttr K C f) (hl : fs.length ≤ 100)
    (k : ∀ H', (∀ b o, b ≠ x → H b = some o → H' b = some o) → (∀ H0, Same H0 H → H0 x = none → Same H0 H') → H' x = some (.ins C dx (putF f y fs)) → nx σ H') : SetF K f (.ref x) y nx σ H := by
  unfold SetF
  exact ⟨x, C, dx, fs, rfl, hx, cl, na, by omega, k _ (fun b o n e => by rw [upd_ne n]; exact e) (fun H0 S0 n => S0.mut n) upd_same⟩
theorem bwComp {K : PySem.W.Frag} {H : Hp} {a : Addr} {rv : List V} {rows : List Row} {k i : Nat} {σ : L2.St} {Q : VK} (hi : i < σ.length) (hrv : H a = some (.lst rv)) (prv : Paired (RwAt H) rv rows) (rk : ∀ r ∈ rows, RowK k r) (k4 : k ≤ 4) (hl : rows.length ≤ 1000)
    (kq : ∀ D H', H D = none → Same H H' → RwsAt H' D (bws rows) → Q (.ref D) H') : Lc (Itl K a) (gName i) (tCall spBackward [] E0 (tCons (tVar i) tNil)) [i] σ Q H := by
  have hlen := pd_len prv
  refine lcN (walk_list (xs := rv)) (fun i H' v => ∃ r, (bws rows)[i]? = some r ∧ RwAt H' v r) (by omega) (fun _ _ _ _ _ e ⟨r, a, b⟩ => ⟨r, a, b.mono e⟩) (fun H' e => e.seq (SqL.of hrv)) ?_ ?_ gm_name
  · rintro j x H1 H2 hj S ⟨rfl, hx⟩ Q' kq'
    obtain ⟨r, er, ar⟩ := pd_get prv hx
    refine ⟨?_, x, ?_, x, r, k, rfl, ar.mono S.tk, rk r (List.mem_of_getElem? er), k4, fun v' H3 S3 hv => kq' _ _ S3 ⟨r.bw, by rw [bws, List.getElem?_map, er]; rfl, hv⟩⟩
    · show ((σ.set i none).set i (some x)).set i none = σ.set i none
      rw [List.set_set, List.set_set]
    · show ((σ.set i none).set i (some x))[i]? = some (some x)
      exact List.getElem?_set_self (by rw [List.length_set]; exact hi)
  · intro D H1 us hD S hu hul hall
    exact kq D H1 hD S (rws_of hu (by rw [hul, hlen]) hall)
section
variable {P : Program} {w : World} {K : PySem.W.Frag} {mg : Str → Option Value} {base : Heap} {f C : Addr} {fd : FuncData}
theorem ok_init (F : Fn K "__init__" "Several.__init__" sInit f fd) (B : Bi mg) (M : Mosts mg) (T : SevC K C) (cN : Cal P w K mg base 1 "is_number" spIsNum) (cI : Met P w K mg base 3 C "_is_row" (spIsRow C)) (cF : Cal P w K mg base 2 "first_clash" spFirst)
    (cB : Cal P w K mg base 1 "backward" spBackward) (cT : Cal P w K mg base 1 "_table_of" spTable) : FnOk P w K mg base CX0 4 f fd ["self", "tapes", "marks", "states", "rows"] (spInit C) := by
  refine ok0 F scInit (fun vs H Q E h => ?_) (fun cdv A outer s H vs Q E hr h => ?_)
  · obtain ⟨H0, x, dx, a, rows, k, m, s, rfl, _⟩ := h
    rfl
  · obtain ⟨H0, x, dx, a, rows, k, m, s, rfl, S0, x0, hx0, hR0, hl16, hsz, hrv, nf, nb, kq⟩ := h
    obtain ⟨k1, k4, m2, m400, m11, s1, s9⟩ := hsz
    obtain ⟨t4, mT⟩ := M.t
    obtain ⟨tm, mM⟩ := M.m
    obtain ⟨ts, mS⟩ := M.s
    obtain ⟨tr, mR⟩ := M.r
    have hrk : ∀ r ∈ rows, RowK k r := fun r h => (hrv r h).k
    refine ⟨_, pss_cons (ps_if (PW.pt (pw_or (pt_not (pt_val (pe_cal cN hr (by decide) (by rfl) (pa_cons (pv 1) (pa_cons pe_int (pa_cons (pe_glob (v := .int 4) (by rfl) mT ⟨_, rfl⟩) pa_nil))))))
          (pw_or1 (pt_not (pt_val (pe_cal cN hr (by decide) (by rfl) (pa_cons (pv 2) (pa_cons pe_int (pa_cons (pe_glob (v := .int 400) (by rfl) mM ⟨_, rfl⟩) pa_nil))))))))) pss_never pss_nil)
      (pss_cons (ps_if (PW.pt (pw_or (pt_not (pt_val (pe_cal cN hr (by decide) (by rfl) (pa_cons (pv 3) (pa_cons pe_int (pa_cons (pe_glob (v := .int 5000) (by rfl) mS ⟨_, rfl⟩) pa_nil))))))
          (pw_or1 (pt_cmpR op_gt (pe_callB call_lenN (by rfl) B.len boot_len (pa_cons (pv 4) pa_nil)) (pe_glob (v := .int 20000) (by rfl) mR ⟨_, rfl⟩) (nomark _))))) pss_never pss_nil)
      (pss_cons (ps_fldN (pv 0) (pv 1) rfl) (pss_cons (ps_fldN (pv 0) (pv 2) rfl) (pss_cons (ps_fldN (pv 0) (pv 3) rfl)
      (pss_cons (ps_fldN (pv 0) (pe_callTy call_lstN (by rfl) B.list boot_list' (pa_cons (pv 4) pa_nil)) rfl)
      (pss_cons (ps_if (pt_not (pt_val (pe_callB (cr_allN rfl) (by rfl) B.all boot_all' (pa_cons (pe_lcN (own := [("row", 6)]) (g := gName 6) rfl scInit.nd (pi_list (pe_fld (pv 0) rfl)) (blkOk_by (N := nInit) (sc := defScope sInit) (by decide +kernel))
          (fun _ _ _ _ _ => pg_name (i := 6) scInit.nd rfl (Or.inl rfl)) (fun _ _ _ _ _ => pe_met cI T.cl hr (by decide) (pv 0) (pa_cons (pv 6) pa_nil))) pa_nil)))) pss_never pss_nil)
      (pss_cons (ps_set (i := 5) scInit.nd rfl (.inl rfl) (pe_cal cF hr (by decide) (by rfl) (pa_cons (pe_fld (pv 0) rfl) pa_nil)))
      (pss_cons (ps_if (pt_cmpR op_notN (pv 5) pe_non (nomark _)) pss_never pss_nil)
      (pss_cons (ps_fldN (pv 0) (pe_cal cF hr (by decide) (by rfl) (pa_cons (pe_lcN (own := [("row", 6)]) (g := gName 6) rfl scInit.nd (pi_list (pe_fld (pv 0) rfl)) (blkOk_by (N := nInit) (sc := defScope sInit) (by decide +kernel))
          (fun _ _ _ _ _ => pg_name (i := 6) scInit.nd rfl (Or.inl rfl)) (fun _ _ _ _ _ => pe_cal cB hr (by decide) (by rfl) (pa_cons (pv 6) pa_nil))) pa_nil)) rfl)
      (pss_cons (ps_fldN (pv 0) (pe_cal cT hr (by decide) (by rfl) (pa_cons (pe_fld (pv 0) rfl) pa_nil)) rfl)
      (pss_cons (ps_fldN (pv 0) pe_dK rfl)
      (pss_one (ps_if (pt_cmpR op_isN (pe_fld (pv 0) rfl) pe_non (nomark _)) (pss_one (ps_fldN (pv 0) (pe_cal cT hr (by decide) (by rfl) (pa_cons (pe_lcN (own := [("row", 6)]) (g := gName 6) rfl scInit.nd (pi_list (pe_fld (pv 0) rfl)) (blkOk_by (N := nInit) (sc := defScope sInit) (by decide +kernel))
          (fun _ _ _ _ _ => pg_name (i := 6) scInit.nd rfl (Or.inl rfl)) (fun _ _ _ _ _ => pe_cal cB hr (by decide) (by rfl) (pa_cons (pv 6) pa_nil))) pa_nil)) rfl)) pss_nil))))))))))))), ?_⟩
    -- the numbers
    refine ⟨_, rfl, k, 1, 4, rfl, by omega, by omega, true, rfl, ?_⟩
    refine ⟨_, rfl, m, 2, 400, rfl, by omega, by omega, true, rfl, ?_⟩
    refine ⟨_, rfl, s, 1, 5000, rfl, by omega, by omega, true, rfl, ?_⟩
    obtain ⟨rv, hrv0, prv0⟩ := id hR0
    have hrl : rv.length = rows.length := pd_len prv0
    refine ⟨_, rfl, ?_⟩
    refine lenL (SqL.of (S0 _ _ hrv0)) ?_
    refine ⟨_, _, rfl, rfl, _, rfl, ?_⟩
    refine ite2 (fun z => absurd (of_decide_eq_true z) (by omega)) (fun _ => ?_)
    -- the fields
    refine ⟨_, rfl, _, rfl, ?_⟩
    refine setF hx0 T.cl T.n1 (by simp) fun H1 X1 Y1 hx1 => ?_
    refine ⟨_, rfl, _, rfl, ?_⟩
    refine setF hx1 T.cl T.n2 (Nat.le_trans (put_len (Nat.le_refl 0)) (by decide)) fun H2 X2 Y2 hx2 => ?_
    refine ⟨_, rfl, _, rfl, ?_⟩
    refine setF hx2 T.cl T.n3 (Nat.le_trans (put_len (put_len (Nat.le_refl 0))) (by decide)) fun H3 X3 Y3 hx3 => ?_
    have S3 : Same H0 H3 := Y3 _ (Y2 _ (Y1 _ S0 x0) x0) x0
    have hx3 : H3 x = some (.ins C dx (F3 k m s)) := hx3
    refine ⟨_, rfl, ?_⟩
    refine lstL (SqL.of (S3 _ _ hrv0)) fun rl H4 n4 S4 hrl4 => ?_
    refine ⟨_, rfl, ?_⟩
    refine setF (S4 _ _ hx3) T.cl T.n4 (Nat.le_trans (f3_len ..) (by decide)) fun H5 X5 Y5 hx5 => ?_
    have S5 : Same H0 H5 := Y5 _ (S3.trans S4) x0
    have hx5 : H5 x = some (.ins C dx (F4 k m s rl)) := hx5
    have hrl5 : H5 rl = some (.lst rv) := X5 _ _ (ne_of hrl4 (S4 _ _ hx3) fun z => by cases z) hrl4
    have prv5 : Paired (RwAt H5) rv rows := L2.Paired.mapP prv0 fun _ _ q => q.mono S5.tk
    -- all of them are rows
    refine ⟨_, rfl, x, C, dx, _, _, rfl, hx5, T.cl, T.n4, f4_4 .., rl, rfl, ⟨_, SqL.of hrl5⟩, ?_⟩
    refine lcN (walk_list (xs := rv)) (fun _ _ v => v = .bl true) (by omega) (fun _ _ _ _ _ _ h => h) (fun H' e => e.seq (SqL.of hrl5)) ?_ ?_ gm_name
    · rintro j y H6 H7 hj S6 ⟨rfl, hy⟩ Q' kq'
      obtain ⟨r, er, ar⟩ := pd_get prv5 hy
      exact ⟨rfl, _, rfl, x, dx, _, rfl, S6 _ _ hx5, f4_no _ _ _ _ _ m_isrow, _, rfl, x, dx, _, y, r, k, m, s, rfl, S6 _ _ hx5, f4_1 .., f4_2 .., f4_3 .., ar.mono S6.tk, hrv r (List.mem_of_getElem? er), k4, fun H8 S8 => kq' _ _ S8 rfl⟩
    · intro D H6 us hD S6 hu hul hall
      refine allB (bs := List.replicate us.length true) (by rw [← bls_of hall]; exact SqL.of hu) ?_
      rw [all_rep]
      refine ⟨true, rfl, ?_⟩
      have hx6 := S6 _ _ hx5
      have hR6 : RwsAt H6 rl rows := RwsAt.mono S6 ⟨rv, hrl5, prv5⟩
      -- no clash
      refine ⟨_, rfl, x, C, dx, _, _, rfl, hx6, T.cl, T.n4, f4_4 .., rl, rows, rfl, hR6, nf, by omega, fun H7 S7 => ?_⟩
      refine ⟨_, rfl, rfl, _, rfl, ?_⟩
      refine ite2 (fun z => absurd z (by decide)) (fun _ => ?_)
      have hx7 := S7 _ _ hx6
      obtain ⟨rv7, hrl7, prv7⟩ := RwsAt.mono S7 hR6
      refine ⟨_, rfl, x, C, dx, _, _, rfl, hx7, T.cl, T.n4, f4_4 .., rl, rfl, ⟨_, SqL.of hrl7⟩, ?_⟩
      refine bwComp (show (6 : Nat) < 7 by decide) hrl7 prv7 hrk k4 (by omega) fun D8 H8 n8 S8 hR8 => ?_
      refine ⟨D8, bws rows, rfl, hR8, nb, by rw [bws, List.length_map]; omega, fun H9 S9 => ?_⟩
      have S9' := S8.trans S9
      refine ⟨_, rfl, ?_⟩
      refine setF (S9' _ _ hx7) T.cl T.n5 (Nat.le_trans (f4_len ..) (by decide)) fun H10 X10 Y10 hx10 => ?_
      have S10 : Same H0 H10 := Y10 _ ((((S5.trans S6).trans S7).trans S9')) x0
      have hx10 : H10 x = some (.ins C dx (F5 k m s rl)) := hx10
      have hR10 : RwsAt H10 rl rows := RwsAt.sx (S9' _ _ hx7) X10 (RwsAt.mono S9' ⟨rv7, hrl7, prv7⟩)
      -- the table of the rows
      refine ⟨_, rfl, x, C, dx, _, _, rfl, hx10, T.cl, T.n4, f5_4 .., rl, rows, rfl, hR10, nf, by omega, fun bs H11 S11 hT11 => ?_⟩
      refine ⟨_, rfl, ?_⟩
      refine setF (S11 _ _ hx10) T.cl T.n6 (Nat.le_trans (f5_len ..) (by decide)) fun H12 X12 Y12 hx12 => ?_
      have S12 : Same H0 H12 := Y12 _ (S10.trans S11) x0
      have hx12 : H12 x = some (.ins C dx (F6 k m s rl bs)) := hx12
      have hR12 : RwsAt H12 rl rows := RwsAt.sx (S11 _ _ hx10) X12 (RwsAt.mono S11 hR10)
      have hT12 : TabAt H12 bs rows := hT11.sx (S11 _ _ hx10) X12
      refine nObj fun b0 H13 n13 S13 hb13 => ?_
      refine ⟨_, rfl, ?_⟩
      refine setF (S13 _ _ hx12) T.cl T.n7 (Nat.le_trans (f6_len ..) (by decide)) fun H14 X14 Y14 hx14 => ?_
      have S14 : Same H0 H14 := Y14 _ (S12.trans S13) x0
      have hx14 : H14 x = some (.ins C dx (F7 k m s rl bs b0)) := hx14
      have hR14 : RwsAt H14 rl rows := RwsAt.sx (S13 _ _ hx12) X14 (RwsAt.mono S13 hR12)
      have hT14 : TabAt H14 bs rows := (hT12.mono S13).sx (S13 _ _ hx12) X14
      refine ⟨_, rfl, x, C, dx, _, _, rfl, hx14, T.cl, T.n5, f7_5 .., rfl, _, rfl, ?_⟩
      refine ite2 (fun _ => ?_) (fun z => absurd (by decide) z)
      obtain ⟨rv14, hrl14, prv14⟩ := id hR14
      refine ⟨_, rfl, x, C, dx, _, _, rfl, hx14, T.cl, T.n4, f7_4 .., rl, rfl, ⟨_, SqL.of hrl14⟩, ?_⟩
      refine bwComp (show (6 : Nat) < 7 by decide) hrl14 prv14 hrk k4 (by omega) fun D15 H15 n15 S15 hR15 => ?_
      refine ⟨D15, bws rows, rfl, hR15, nb, by rw [bws, List.length_map]; omega, fun bn H16 S16 hB16 => ?_⟩
      have S16' := S15.trans S16
      refine ⟨_, rfl, ?_⟩
      refine setF (S16' _ _ hx14) T.cl T.n7 (Nat.le_trans (f7_len ..) (by decide)) fun H17 X17 Y17 hx17 => ?_
      have hx16 := S16' _ _ hx14
      refine kq _ (Y17 _ (S14.trans S16') x0) ⟨dx, F8 k m s rl bs b0 bn, rl, bs, bn, hx17, sevF8 .., RwsAt.sx hx16 X17 (RwsAt.mono S16' hR14), (hT14.mono S16').sx hx16 X17, hB16.sx hx16 X17⟩
end
end Bk

set_option Elab.async false
set_option linter.all false
set_option maxRecDepth 100000
namespace Bk
open PySem PySem.Spec PyProof.Rows L2
/-- a class that can be made by its name -/
structure Mak (P : Program) (w : World) (K : PySem.W.Frag) (mg : Str → Option Value) (base : Heap) (k : Nat) (x : Str) (C : Addr) (sp : Sp) : Prop where
  ex : ∃ (f : Addr) (fd : FuncData) (ps : List Str), Mk K C f ∧ FnOk P w K mg base CX0 k f fd ps sp ∧ mg x = some (.ref C) ∧ Binds K fd ps []
theorem pe_mak {X : Cx} {k j : Nat} {x : Str} {C : Addr} {sp : Sp} {e : Expr} {es : List Expr} {p pos : Pos} {t : TA} (c : Mak X.prog X.w X.K X.mg X.base k x C sp) (hr : Room j X.A) (hk : k + 1 ≤ j) (hg : Gl X x) (ha : PA X (e :: es) t)
    (hdb : (x == ("__debug__" : Str)) = false := by decide) (he : starEach (e :: es) X.env = (false, eval e X.env) :: starEach es X.env := by rfl) (hpl : (backTo pos (starEach es X.env)).any (·.1) = false := by rfl) :
    PE X (.Call (.Name x p) (e :: es) [] pos) (tMake C sp [] E0 t) := by
  obtain ⟨f, fd, ps, M, F, hm, hb⟩ := c.ex
  exact pe_make M F (hr.mono hk) hg hm hb .nil pass0 ha hdb he hpl
/-- .. what is asked where it is made -/
theorem made {C : Addr} {H : Hp} {Q : VK} {a : Addr} {rows : List Row} {k : Nat} {m s : Int} {E : XK} (hR : RwsAt H a rows) (hl : rows.length ≤ 16) (hz : Szs k m s) (hv : ∀ r ∈ rows, RowV k m s r) (nf : NCs rows) (nb : NCs (bws rows))
    (kq : ∀ x H', Same H H' → SevAt C H' x rows k m s → Q (.ref x) H') :
    ∀ x dx, H x = none → H dx = none → dx ≠ x → spInit C [.ref x, .int (k : Nat), .int m, .int s, .ref a] (upd (upd H dx (.own x)) x (.ins C dx [])) (fun v H2 => v = .non ∧ Q (.ref x) H2) E := fun x dx nx nd ne =>
  ⟨H, x, dx, a, rows, k, m, s, rfl, (Same.new nd).mut nx, nx, upd_same, hR, hl, hz, hv, nf, nb, fun H' S' h => ⟨rfl, kq x H' S' h⟩⟩
section
variable {P : Program} {w : World} {K : PySem.W.Frag} {mg : Str → Option Value} {base : Heap} {f C : Addr} {fd : FuncData}
/-! ### inverse -/
abbrev sInverse : Stmt := top 23
abbrev nInverse : List Str := ["machine", "pair", "rows", "row"]
theorem scInverse : FnScope nInverse ["machine"] (defScope sInverse) := ⟨rfl, rfl, rfl, by decide +kernel, rfl, by decide +kernel, by decide +kernel⟩
def spInverse (C : Addr) : Sp := fun vs H Q _ => ∃ (x : Addr) (rows : List Row) (k : Nat) (m s : Int), vs = [.ref x] ∧ SevAt C H x rows k m s ∧ rows.length ≤ 16 ∧ Szs k m s ∧ (∀ r ∈ rows, RowV k m s r) ∧ NCs rows ∧ NCs (bws rows) ∧
  ∀ y H', Same H H' → SevAt C H' y (bws rows) k m s → Q (.ref y) H'
theorem ok_inverse (F : Fn K "inverse" "inverse" sInverse f fd) (T : SevC K C) (cM : Mak P w K mg base 4 "Several" C (spInit C)) (cB : Cal P w K mg base 1 "backward" spBackward) (mC : Met P w K mg base 1 C "back_clash" (spMNon C)) (mT : Met P w K mg base 1 C "table" (spMTable C)) :
    FnOk P w K mg base CX0 6 f fd ["machine"] (spInverse C) := by
  refine ok0 F scInverse (fun vs H Q E h => ?_) (fun cdv A outer s H vs Q E hr h => ?_)
  · obtain ⟨x, rows, k, m, s, rfl, _⟩ := h
    rfl
  · obtain ⟨x, rows, k, m, s, rfl, hS, hl, hz, hv, nf, nb, kq⟩ := h
    obtain ⟨dx, fs, rl, bs, bn, hx, hf, _⟩ := id hS
    refine ⟨_, pss_cons (ps_set (i := 1) scInverse.nd rfl (.inl rfl) (pe_met0 mC T.cl hr (by decide) (pv 0)))
      (pss_cons (ps_if (pt_cmpR op_notN (pv 1) pe_non (nomark _)) pss_never pss_nil)
      (pss_cons (ps_setLcN (i := 2) (own := [("row", 3)]) (g := gName 3) rfl scInverse.nd rfl rfl (sw_true rfl rfl rfl (by decide +kernel)) (pi_list (pe_met0 mT T.cl hr (by decide) (pv 0))) (blkOk_by (N := nInverse) (sc := defScope sInverse) (by decide +kernel))
          (fun _ _ _ _ _ => pg_name (i := 3) scInverse.nd rfl (Or.inl rfl)) (fun _ _ _ _ _ => pe_cal cB hr (by decide) (by rfl) (pa_cons (pv 3) pa_nil)))
      (pss_one (ps_ret (pe_mak cM hr (by decide) (by rfl) (pa_cons (pe_fld (pv 0) rfl) (pa_cons (pe_fld (pv 0) rfl) (pa_cons (pe_fld (pv 0) rfl) (pa_cons (pv 2) pa_nil))))))))), ?_⟩
    refine ⟨_, rfl, x, dx, fs, rfl, hx, hf.no _ m_clash, x, rows, k, m, s, rfl, hS, ?_⟩
    refine ⟨_, rfl, rfl, _, rfl, ?_⟩
    refine ite2 (fun z => absurd z (by decide)) (fun _ => ?_)
    refine ⟨_, rfl, x, dx, fs, rfl, hx, hf.no _ m_table, x, rows, k, m, s, rfl, hS, fun p H1 S1 hR1 => ?_⟩
    obtain ⟨rv, hrv, prv⟩ := hR1
    refine ⟨p, rfl, ⟨_, SqL.of hrv⟩, ?_⟩
    refine bwComp (show (3 : Nat) < 4 by decide) hrv prv (fun r h => (hv r h).k) hz.k4 (by omega) fun D H2 n2 S2 hR2 => ?_
    have S := S1.trans S2
    refine ⟨_, rfl, x, C, dx, fs, _, rfl, S _ _ hx, T.cl, T.n1, hf.f1, _, rfl, x, C, dx, fs, _, rfl, S _ _ hx, T.cl, T.n2, hf.f2, _, rfl, x, C, dx, fs, _, rfl, S _ _ hx, T.cl, T.n3, hf.f3, _, rfl, ?_⟩
    exact made hR2 (by rw [bws, List.length_map]; exact hl) hz (fun r hr => by
      obtain ⟨r', h1, rfl⟩ := List.mem_map.mp hr
      exact (hv r' h1).bw) nb (by rw [bws_bws]; exact nf) fun y H3 S3 hy => kq y H3 (S.trans S3) hy
end
end Bk

set_option Elab.async false
set_option linter.all false
set_option maxRecDepth 100000
namespace Bk
open PySem PySem.Spec PyProof.Rows L2
@[irreducible] def MkQ (C : Addr) (sp : Sp) (vs : List V) (H : Hp) (Q : VK) : Prop := ∀ x dx, H x = none → H dx = none → dx ≠ x → sp (.ref x :: (vs ++ [])) (upd (upd H dx (.own x)) x (.ins C dx [])) (fun v H2 => v = .non ∧ Q (.ref x) H2) E0
def tMakeN (C : Addr) (sp : Sp) (t : TA) : L2.TE := fun σ H Q => t σ H fun vs H1 => MkQ C sp vs H1 Q
theorem pe_makN {X : Cx} {k j : Nat} {x : Str} {C : Addr} {sp : Sp} {e : Expr} {es : List Expr} {p pos : Pos} {t : TA} (c : Mak X.prog X.w X.K X.mg X.base k x C sp) (hr : Room j X.A) (hk : k + 1 ≤ j) (hg : Gl X x) (ha : PA X (e :: es) t)
    (hdb : (x == ("__debug__" : Str)) = false := by decide) (he : starEach (e :: es) X.env = (false, eval e X.env) :: starEach es X.env := by rfl) (hpl : (backTo pos (starEach es X.env)).any (·.1) = false := by rfl) :
    PE X (.Call (.Name x p) (e :: es) [] pos) (tMakeN C sp t) := ⟨fun pins s σ H Q I q => (pe_mak c hr hk hg ha hdb he hpl).run pins s σ H Q I (by unfold tMakeN MkQ at q; exact q)⟩
theorem madeN {C : Addr} {H : Hp} {Q : VK} {a : Addr} {rows : List Row} {k : Nat} {m s : Int} (hR : RwsAt H a rows) (hl : rows.length ≤ 16) (hz : Szs k m s) (hv : ∀ r ∈ rows, RowV k m s r) (nf : NCs rows) (nb : NCs (bws rows))
    (kq : ∀ x H', Same H H' → SevAt C H' x rows k m s → Q (.ref x) H') : MkQ C (spInit C) [.int (k : Nat), .int m, .int s, .ref a] H Q := by
  unfold MkQ
  exact made hR hl hz hv nf nb kq
theorem cut_script (ns : List Int) : ∃ ms : List Int, cutV (ns.map V.int) (some 3) (some 19) = ms.map V.int ∧ ms.length ≤ 16 := by
  refine ⟨(ns.drop (min 3 ns.length)).take (min 19 ns.length - min 3 ns.length), ?_, ?_⟩
  · unfold cutV
    rw [show HT.sIx (ns.map V.int).length 0 (some 3) = min 3 (ns.map V.int).length from HT.sIx_nat _ 0 3, show HT.sIx (ns.map V.int).length (ns.map V.int).length (some 19) = min 19 (ns.map V.int).length from HT.sIx_nat _ _ 19, List.length_map, ← List.map_drop, ← List.map_take]
  · rw [List.length_take]
    omega
/-- the law's names -/
abbrev sLaw : Stmt := top 39
abbrev nLaw : List Str := ["_law_script", "_law_number", "_law_sizes_here", "_law_rows_here", "_law_machine", "_law_other", "_law_first", "_law_second", "_law_steps", "_law_run", "_law_k", "_law_after_here", "_law_count", "_law_begin", "_law_back", "_law_found", "_law_taken"]
theorem scLaw : FnScope nLaw ["_law_script"] (defScope sLaw) := ⟨rfl, rfl, rfl, by decide +kernel, rfl, by decide +kernel, by decide +kernel⟩
/-- what stays known once the machines are made -/
structure Lw (C : Addr) (H : Hp) (rl xm xo : Addr) (rows : List Row) (k : Nat) (m s : Int) (vf vg : V) (c0 c1 : Conf) : Prop where
  hR : RwsAt H rl rows
  hm : SevAt C H xm rows k m s
  ho : SevAt C H xo (bws rows) k m s
  hf : CfAt H vf c0
  hg : CfAt H vg c1
theorem Lw.mono {C : Addr} {H H' : Hp} {rl xm xo : Addr} {rows : List Row} {k : Nat} {m s : Int} {vf vg : V} {c0 c1 : Conf} (e : Same H H') (h : Lw C H rl xm xo rows k m s vf vg c0 c1) : Lw C H' rl xm xo rows k m s vf vg c0 c1 :=
  ⟨h.hR.mono e, h.hm.mono e, h.ho.mono e, h.hf.mono e.tk, h.hg.mono e.tk⟩
/-- the configurations of the run, the last one apart -/
structure Rn (H : Hp) (pr : Addr) (vs : List V) (v : V) (L : List Conf) (c : Conf) (rows : List Row) (c0 : Conf) (i : Nat) : Prop where
  hp : H pr = some (.lst (vs ++ [v]))
  pl : Paired (CfAt H) vs L
  hc : CfAt H v c
  len : L.length = i
  old : ∀ (j : Nat) d, L[j]? = some d → steps rows j c0 = some d
  new : steps rows i c0 = some c
theorem Rn.mono {H H' : Hp} {pr : Addr} {vs : List V} {v : V} {L : List Conf} {c : Conf} {rows : List Row} {c0 : Conf} {i : Nat} (e : Same H H') (h : Rn H pr vs v L c rows c0 i) : Rn H' pr vs v L c rows c0 i :=
  ⟨e _ _ h.hp, L2.Paired.mapP h.pl fun _ _ q => q.mono e.tk, h.hc.mono e.tk, h.len, h.old, h.new⟩
theorem Rn.vlen {H : Hp} {pr : Addr} {vs : List V} {v : V} {L : List Conf} {c : Conf} {rows : List Row} {c0 : Conf} {i : Nat} (h : Rn H pr vs v L c rows c0 i) : vs.length = i := (pd_len h.pl).trans h.len
/-- any of them -/
theorem Rn.at {H : Hp} {pr : Addr} {vs : List V} {v : V} {L : List Conf} {c : Conf} {rows : List Row} {c0 : Conf} {i j : Nat} (h : Rn H pr vs v L c rows c0 i) (hj : j ≤ i) : ∃ x d, (vs ++ [v])[j]? = some x ∧ CfAt H x d ∧ steps rows j c0 = some d := by
  have hv := h.vlen
  by_cases l : j < vs.length
  · obtain ⟨d, e1, e2⟩ := pd_get h.pl (List.getElem?_eq_getElem l)
    exact ⟨_, d, by rw [List.getElem?_append_left l, List.getElem?_eq_getElem l], e2, h.old j d e1⟩
  · have e : j = vs.length := by omega
    subst e
    exact ⟨v, c, List.getElem?_concat_length, h.hc, by rw [hv]; exact h.new⟩
def σL (a : Addr) (num : V) (z rl xm xo : Addr) (vf vg st : V) (pr : Addr) (rest : L2.St) : L2.St :=
  some (.ref a) :: some num :: some (.ref z) :: some (.ref rl) :: some (.ref xm) :: some (.ref xo) :: some vf :: some vg :: some st :: some (.ref pr) :: rest
/-! ### a call of one of the machine's methods -/
section
variable {K : PySem.W.Frag} {C x : Addr} {H : Hp} {rows : List Row} {k : Nat} {m s : Int} {v : V} {c : Conf} {Q : VK} {E : XK}
theorem step_ {b : Bool} (h : SevAt C H x rows k m s) (hb : Both k rows) (hc : CfAt H v c) (hk : ConfK k c) (hz : SzC 900 c) (kq : ∀ v' H', Same H H' → OcAt H' v' (after (fbs b rows) c) → Q v' H') : spMStep C b [.ref x, v] H Q E :=
  ⟨x, v, rows, c, k, m, s, rfl, h, hb, hc, hk, hz, kq⟩
theorem run_ {b : Bool} {n : Nat} (h : SevAt C H x rows k m s) (hb : Both k rows) (hc : CfAt H v c) (hk : ConfK k c) (hz : SzC 800 c) (hn : n ≤ 100) (kq : ∀ v' e j H', Same H H' → CnAt H' v' e j → Ran (fbs b rows) c n e j → Q v' H') : spMRun C b [.ref x, v, .int (n : Nat)] H Q E :=
  ⟨x, v, rows, c, k, n, m, s, rfl, h, hb, hc, hk, hz, hn, kq⟩
end
end Bk

set_option Elab.async false
set_option linter.all false
set_option maxRecDepth 100000
set_option maxHeartbeats 1000000
namespace Bk
open PySem PySem.Spec PyProof.Rows L2
section
variable {P : Program} {w : World} {K : PySem.W.Frag} {mg : Str → Option Value} {base : Heap} {f C : Addr} {fd : FuncData}
def spLaw (K : PySem.W.Frag) : Sp := fun vs H Q _ => ∃ (a : Addr) (ns : List Int), vs = [.ref a] ∧ SqL K H a (ns.map V.int) ∧ ∀ H', Q (.bl true) H'
theorem ok_law (F : Fn K "law" "law" sLaw f fd) (B : Bi mg) (T : SevC K C) (cCell : Cal P w K mg base 1 "_law_cell" (spLCell K)) (cSizes : Cal P w K mg base 1 "_law_sizes" spLSizes) (cRows : Cal P w K mg base 3 "_law_rows" (spLRows K)) (cSev : Mak P w K mg base 4 "Several" C (spInit C))
    (cInv : Cal P w K mg base 6 "inverse" (spInverse C)) (cConf : Cal P w K mg base 3 "_law_configuration" spLConf) (cAfter : Cal P w K mg base 3 "_law_after" spLAfter)
    (mStep : Met P w K mg base 4 C "step" (spMStep C false)) (mBack : Met P w K mg base 4 C "back" (spMStep C true)) (mRun : Met P w K mg base 5 C "run" (spMRun C false)) (mRBack : Met P w K mg base 5 C "run_back" (spMRun C true)) :
    FnOk P w K mg base CX0 7 f fd ["_law_script"] (spLaw K) := by
  refine ok0 F scLaw (fun vs H Q E h => ?_) (fun cdv A outer s H vs Q E hr h => ?_)
  · obtain ⟨a, ns, rfl, _⟩ := h
    rfl
  · obtain ⟨a, ns, rfl, hS, kq⟩ := h
    have hI : ∀ {X : Cx}, CallR X (.type "int") (fun xs H Q => (∃ i, xs = [.int i] ∧ Q (.int i) H) ∨ ∃ k, xs = [.bl k] ∧ Q (.int (if k then 1 else 0)) H) := call_int1
    refine ⟨_, pss_cons (ps_set (i := 1) scLaw.nd rfl (.inl rfl) (pe_op op_mod (pe_callTy hI (by rfl) B.int boot_int' (pa_cons (pe_cal cCell hr (by decide) (by rfl) (pa_cons (pv 0) (pa_cons pe_int pa_nil))) pa_nil)) pe_int))
      (pss_cons (ps_set (i := 2) scLaw.nd rfl (.inl rfl) (pe_cal cSizes hr (by decide) (by rfl) (pa_cons (pv 1) pa_nil)))
      (pss_cons (ps_set (i := 3) scLaw.nd rfl (.inl rfl) (pe_cal cRows hr (by decide) (by rfl) (pa_cons (pe_slice sl_N (pv 0) (po_some pe_int) (po_some pe_int)) (pa_cons (pv 2) (pa_cons pe_bl pa_nil)))))
      (pss_cons (ps_set (i := 4) scLaw.nd rfl (.inl rfl) (pe_makN cSev hr (by decide) (by rfl) (pa_cons (pe_ix ix_N (pv 2) pe_int (fun _ _ => rfl)) (pa_cons (pe_ix ix_N (pv 2) pe_int (fun _ _ => rfl)) (pa_cons (pe_ix ix_N (pv 2) pe_int (fun _ _ => rfl)) (pa_cons (pv 3) pa_nil))))))
      (pss_cons (ps_set (i := 5) scLaw.nd rfl (.inl rfl) (pe_cal cInv hr (by decide) (by rfl) (pa_cons (pv 4) pa_nil)))
      (pss_cons (ps_par (i := 6) (j := 7) (by rfl) scLaw.nd rfl rfl (by decide) rfl rfl
        (pa_cons (pe_cal cConf hr (by decide) (by rfl) (pa_cons (pe_cal cCell hr (by decide) (by rfl) (pa_cons (pv 0) (pa_cons pe_int pa_nil))) (pa_cons (pv 2) pa_nil)))
        (pa_cons (pe_cal cConf hr (by decide) (by rfl) (pa_cons (pe_cal cCell hr (by decide) (by rfl) (pa_cons (pv 0) (pa_cons pe_int pa_nil))) (pa_cons (pv 2) pa_nil))) pa_nil)) (by rfl))
      (pss_cons (ps_set (i := 8) scLaw.nd rfl (.inl rfl) (pe_op op_mod (pe_op op_fdiv (pv 1) pe_int) pe_int))
      (C8.pss_cut (ps_set (i := 9) scLaw.nd rfl (.inl rfl) (pe_lstN (pa_cons (pv 6) pa_nil)))
      (C8.pss_cut (ps_forN PassesOwn.never rfl (pi_range1 (by rfl) B.range (pa_cons (pv 8) pa_nil)) (pg_name (i := 10) scLaw.nd rfl (.inl rfl))
        (pss_cons (ps_set (i := 11) scLaw.nd rfl (.inl rfl) (pe_cal cAfter hr (by decide) (by rfl) (pa_cons (pv 3) (pa_cons (pe_ix ix_N (pv 9) (pe_un un_neg pe_int) (fun _ _ => rfl)) pa_nil))))
        (pss_cons (ps_if (pt_cmpR op_isN (pv 11) pe_non (nomark _)) (pss_one ps_break) pss_nil)
        (pss_cons (ps_if (PW.pt (pw_or (pt_cmpR (op_neN hr.units) (pe_met mBack T.cl hr (by decide) (pv 4) (pa_cons (pv 11) pa_nil)) (pe_ix ix_N (pv 9) (pe_un un_neg pe_int) (fun _ _ => rfl)) (nomark _))
            (pw_or1 (pt_cmpR (op_neN hr.units) (pe_met mStep T.cl hr (by decide) (pv 4) (pa_cons (pe_ix ix_N (pv 9) (pe_un un_neg pe_int) (fun _ _ => rfl)) pa_nil)) (pv 11) (nomark _))))) pss_never pss_nil)
        (pss_one (ps_expr (pe_bm PySem.F.plainAttrs_list PySem.F.slot_list_append PySem.F.type_list_append mt_append (pv 9) (pa_cons (pv 11) pa_nil))))))))
      (C8.pss_cut (ps_set (i := 12) scLaw.nd rfl (.inl rfl) (pe_op op_sub (pe_callB call_lenN (by rfl) B.len boot_len (pa_cons (pv 9) pa_nil)) pe_int))
      (pss_cons (ps_if (PW.pt (pw_or (pt_cmpR (op_neN hr.units) (pe_met mRun T.cl hr (by decide) (pv 4) (pa_cons (pv 6) (pa_cons (pv 8) pa_nil))) (pe_tupN (pa_cons (pe_ix ix_N (pv 9) (pe_un un_neg pe_int) (fun _ _ => rfl)) (pa_cons (pv 12) pa_nil))) (nomark _))
          (pw_or1 (pt_cmpR (op_neN hr.units) (pe_met mRBack T.cl hr (by decide) (pv 4) (pa_cons (pe_ix ix_N (pv 9) (pe_un un_neg pe_int) (fun _ _ => rfl)) (pa_cons (pv 12) pa_nil))) (pe_tupN (pa_cons (pv 6) (pa_cons (pv 12) pa_nil))) (nomark _))))) pss_never pss_nil)
      (pss_cons (ps_if (PW.pt (pw_or (pt_cmpR (op_neN hr.units) (pe_met mRun T.cl hr (by decide) (pv 5) (pa_cons (pe_ix ix_N (pv 9) (pe_un un_neg pe_int) (fun _ _ => rfl)) (pa_cons (pv 12) pa_nil))) (pe_tupN (pa_cons (pv 6) (pa_cons (pv 12) pa_nil))) (nomark _))
          (pw_or1 (pt_cmpR (op_neN hr.units) (pe_met mRBack T.cl hr (by decide) (pv 5) (pa_cons (pv 6) (pa_cons (pv 8) pa_nil))) (pe_tupN (pa_cons (pe_ix ix_N (pv 9) (pe_un un_neg pe_int) (fun _ _ => rfl)) (pa_cons (pv 12) pa_nil))) (nomark _))))) pss_never pss_nil)
      (pss_cons (ps_asg (pe_met mRBack T.cl hr (by decide) (pv 4) (pa_cons (pv 6) (pa_cons (pv 8) pa_nil))) (pg_tup rfl (pgs_cons (pg_name (i := 13) scLaw.nd rfl (.inl rfl)) (pgs_cons (pg_name (i := 14) scLaw.nd rfl (.inl rfl)) pgs_nil))))
      (pss_cons (ps_if (pt_cmpR (op_neN hr.units) (pe_met mRun T.cl hr (by decide) (pv 4) (pa_cons (pv 13) (pa_cons (pv 14) pa_nil))) (pe_tupN (pa_cons (pv 6) (pa_cons (pv 14) pa_nil))) (nomark _)) pss_never pss_nil)
      (pss_cons (ps_forN PassesOwn.never rfl (pi_range1 (by rfl) B.range (pa_cons (pe_op op_add (pv 12) pe_int) pa_nil)) (pg_name (i := 10) scLaw.nd rfl (.inl rfl))
        (pss_cons (ps_asg (pe_met mRun T.cl hr (by decide) (pv 4) (pa_cons (pv 7) (pa_cons (pv 10) pa_nil))) (pg_tup rfl (pgs_cons (pg_name (i := 15) scLaw.nd rfl (.inl rfl)) (pgs_cons (pg_name (i := 16) scLaw.nd rfl (.inl rfl)) pgs_nil))))
        (pss_one (ps_if (PW.pt (pw_and (pt_cmpR op_eq (pv 16) (pv 10) (nomark _)) (pw_and (pt_cmpR (op_eqN hr.units) (pv 15) (pe_ix ix_N (pv 9) (pv 10) (fun _ _ => rfl)) (nomark _)) (pw_and1 (pt_cmpR (op_neN hr.units) (pv 6) (pv 7) (nomark _)))))) pss_never pss_nil))))
      (pss_one (ps_ret pe_bl)))))))))))))))), ?_⟩
    -- the machine
    refine ⟨_, rfl, a, ns, 0, rfl, hS, fun c => .inl ⟨c, rfl, _, _, rfl, rfl, (by show (0 : Int) < 9000; decide), ?_⟩⟩
    refine ⟨_, rfl, c % 9000, rfl, fun z k m s H1 hz S1 hz1 => ?_⟩
    obtain ⟨ms, ems, lms⟩ := cut_script ns
    refine ⟨_, rfl, 3, rfl, 19, rfl, ?_⟩
    refine slL (S1.seq hS) fun p3 H2 n2 S2 h2 => ?_
    rw [ems] at h2
    refine ⟨_, rfl, p3, z, ms, k, m, s, rfl, SqL.of h2, lms, S2 _ _ hz1, hz, fun rl rows H3 S3 hR3 hl16 hv nf nb => ?_⟩
    have hz3 := S3 _ _ (S2 _ _ hz1)
    refine ⟨_, rfl, ?_⟩
    refine ixT hz3 0 rfl rfl ?_
    refine ⟨_, rfl, ?_⟩
    refine ixT hz3 1 rfl rfl ?_
    refine ⟨_, rfl, ?_⟩
    refine ixT hz3 2 rfl rfl ?_
    refine ⟨_, rfl, ?_⟩
    refine madeN hR3 hl16 hz hv nf nb fun xm H4 S4 hm4 => ?_
    refine ⟨_, rfl, xm, rows, k, m, s, rfl, hm4, hl16, hz, hv, nf, nb, fun xo H5 S5 ho5 => ?_⟩
    have S05 := (((S1.trans S2).trans S3).trans S4).trans S5
    have hz5 := S5 _ _ (S4 _ _ hz3)
    -- two configurations
    refine ⟨_, rfl, a, ns, 1, rfl, S05.seq hS, fun c1 => ?_⟩
    refine ⟨_, rfl, c1, z, k, m, s, rfl, hz5, hz, fun vf k0 H6 S6 hf6 hk0 hs0 => ?_⟩
    refine ⟨_, rfl, a, ns, 2, rfl, (S05.trans S6).seq hS, fun c2 => ?_⟩
    refine ⟨_, rfl, c2, z, k, m, s, rfl, S6 _ _ hz5, hz, fun vg k1 H7 S7 hg7 hk1 hs1 => ?_⟩
    refine ⟨_, _, rfl, ?_⟩
    have W7 : Lw C H7 rl xm xo rows k m s vf vg k0 k1 := ⟨hR3.mono (((S4.trans S5).trans S6).trans S7), hm4.mono ((S5.trans S6).trans S7), ho5.mono (S6.trans S7), hf6.mono S7.tk, hg7⟩
    have hb : Both k rows := ⟨nf, nb, fun r h => (hv r h).k, hz.k4⟩
    have hb' : Both k (bws rows) := hb.bw
    -- how many steps
    refine ⟨_, rfl, _, _, rfl, rfl, ⟨by decide, by decide⟩, _, _, rfl, rfl, (by show (0 : Int) < 26; decide), ?_⟩
    obtain ⟨n, en⟩ : ∃ n : Nat, (c % 9000) / 54 % 26 = (n : Int) := ⟨((c % 9000) / 54 % 26).toNat, by omega⟩
    have hn : n ≤ 25 := by omega
    refine ⟨fun σ' H' => ∃ pr, σ' = σL a (.int (c % 9000)) z rl xm xo vf vg (.int (n : Nat)) pr [none, none, none, none, none, none, none] ∧ H7 pr = none ∧ Same H7 H' ∧ H' pr = some (.lst [vf]), ?_, ?_⟩
    · refine ⟨_, rfl, ?_⟩
      refine nLst (by simp) fun pr H8 n8 S8 h8 => ?_
      exact ⟨pr, by rw [← en]; rfl, n8, S8, h8⟩
    rintro σ' H8 ⟨pr, rfl, n8, S8, h8⟩
    -- the loop: step by step
    refine ⟨fun σ' H' => ∃ v10 v11 vs v L d i, σ' = σL a (.int (c % 9000)) z rl xm xo vf vg (.int (n : Nat)) pr [v10, v11, none, none, none, none, none] ∧ Same H7 H' ∧ Rn H' pr vs v L d rows k0 i ∧ i ≤ n ∧ (i < n → after rows d = none), ?_, ?_⟩
    · refine ⟨_, rfl, n, rfl, by omega, by omega, ?_⟩
      refine forN (n := n) walk_range (fun i σ H' => ∃ v10 v11 vs v L d, σ = σL a (.int (c % 9000)) z rl xm xo vf vg (.int (n : Nat)) pr [v10, v11, none, none, none, none, none] ∧ Same H7 H' ∧ Rn H' pr vs v L d rows k0 i)
        ⟨none, none, [], vf, [], k0, rfl, S8, ⟨h8, .nil, W7.hf.mono S8.tk, rfl, fun j d h => by simp at h, rfl⟩⟩ (fun _ _ _ _ _ => trivial) ?_ ?_
      · rintro i x σ H9 H10 hi ⟨v10, v11, vs, v, L, d, rfl, S9, R⟩ ⟨rfl, rfl⟩
        have W := W7.mono S9
        have hkd : ConfK k d := steps_ok hb.rk hk0 R.new
        have hsd : SzC 40 d := (steps_sz hs0 R.new).mono (by omega)
        refine ⟨_, rfl, _, rfl, _, rfl, ?_⟩
        refine ixLI (SqL.of R.hp) (atI_last _ _) ?_
        refine ⟨rl, v, rows, d, k, rfl, W.hR, hb.rk, R.hc, hkd, hsd.mono (by decide), hz.k4, fun wv H11 S11 ho => ?_⟩
        cases ha : after rows d with
        | none =>
          rw [ha] at ho
          obtain rfl : wv = .non := ho
          refine ⟨_, rfl, rfl, _, rfl, ?_⟩
          refine ite2 (fun _ => ?_) (fun z => absurd (by decide) z)
          exact ⟨_, _, vs, v, L, d, i, rfl, S9.trans S11, R.mono S11, Nat.le_of_lt hi, fun _ => ha⟩
        | some e =>
          rw [ha] at ho
          have ho : CfAt H11 wv e := ho
          have nn : wv ≠ .non := by
            obtain ⟨_, _, rfl, _⟩ := ho
            exact fun z => nomatch z
          have hke : ConfK k e := after_ok hb.rk hkd ha
          have hse : SzC 41 e := after_sz hsd ha
          have hback : after (bws rows) e = some d := after_back hb.rk hkd nb ha
          refine ⟨_, rfl, rfl, _, rfl, ?_⟩
          refine ite2 (fun z => absurd (of_decide_eq_true z) nn) (fun _ => ?_)
          have W1 := W.mono S11
          have R1 := R.mono S11
          obtain ⟨dx, fs, _, _, _, hx, hf, _⟩ := id W1.hm
          refine ⟨_, rfl, xm, dx, fs, rfl, hx, hf.no _ m_back, _, rfl, ?_⟩
          refine ⟨xm, wv, rows, e, k, m, s, rfl, W1.hm, hb, ho, hke, hse.mono (by decide), fun u1 H12 S12 hu1 => ?_⟩
          rw [fbs_T, hback] at hu1
          have hu1 : CfAt H12 u1 d := hu1
          refine ⟨_, rfl, _, rfl, ?_⟩
          refine ixLI (SqL.of (R1.mono S12).hp) (atI_last _ _) ?_
          refine neSame 4 hu1.dp (R1.mono S12).hc.dp (Sh.cf d) (by decide) ?_
          refine ⟨false, rfl, ?_⟩
          have W2 := W1.mono S12
          have R2 := R1.mono S12
          refine ⟨_, rfl, xm, dx, fs, rfl, S12 _ _ hx, hf.no _ m_step, _, rfl, _, rfl, ?_⟩
          refine ixLI (SqL.of R2.hp) (atI_last _ _) ?_
          refine ⟨xm, v, rows, d, k, m, s, rfl, W2.hm, hb, R2.hc, hkd, hsd.mono (by decide), fun u2 H13 S13 hu2 => ?_⟩
          rw [fbs_F, ha] at hu2
          have hu2 : CfAt H13 u2 e := hu2
          have ho13 := ho.mono (S12.trans S13).tk
          refine ⟨_, rfl, ?_⟩
          refine neSame 4 hu2.dp ho13.dp (Sh.cf e) (by decide) ?_
          refine ⟨false, rfl, ?_⟩
          have R3 := R2.mono S13
          refine ⟨_, rfl, .inl ⟨rfl, _, SqL.of R3.hp⟩, _, rfl, pr, _, _, rfl, rfl, R3.hp, ?_, ?_⟩
          · rw [List.length_append, R3.vlen]; exact smallT (by simp; omega)
          · have tk : Tk H13 (upd H13 pr (.lst (vs ++ [v] ++ [wv]))) := Tk.mutL R3.hp
            refine ⟨_, _, vs ++ [v], wv, L ++ [d], e, rfl, (((S9.trans S11).trans S12).trans S13).mut n8, upd_same, pd_snoc (R3.hc.mono tk) (L2.Paired.mapP R3.pl fun _ _ q => q.mono tk), ho13.mono tk, by rw [List.length_append, R3.len]; rfl, fun j d' hj => ?_, by rw [steps_succ, R3.new]; exact ha⟩
            by_cases hjl : j < L.length
            · rw [List.getElem?_append_left hjl] at hj
              exact R3.old j d' hj
            · have ej : j = L.length := by
                have := (List.getElem?_eq_some_iff.mp hj).1
                rw [List.length_append, List.length_singleton] at this
                omega
              subst ej
              rw [List.getElem?_concat_length] at hj
              cases hj
              rw [R3.len]
              exact R3.new
      · rintro σ H9 ⟨v10, v11, vs, v, L, d, rfl, S9, R⟩
        exact ⟨v10, v11, vs, v, L, d, n, rfl, S9, R, Nat.le_refl _, fun z => absurd z (Nat.lt_irrefl _)⟩
    rintro σ' H9 ⟨v10, v11, vs, v, L, d, i, rfl, S9, R9, hi, hstop⟩
    have ran : Ran rows k0 n d i := ⟨hi, R9.new, hstop⟩
    have hkd : ConfK k d := steps_ok hb.rk hk0 R9.new
    have hsd : SzC 40 d := (steps_sz hs0 R9.new).mono (by omega)
    have ranb : Ran (bws rows) d i k0 i := ran.back hb.rk nb hk0
    -- the count
    refine ⟨fun σ' H' => σ' = σL a (.int (c % 9000)) z rl xm xo vf vg (.int (n : Nat)) pr [v10, v11, some (.int (i : Nat)), none, none, none, none] ∧ H' = H9, ?_, ?_⟩
    · refine ⟨_, rfl, ?_⟩
      refine lenL (SqL.of R9.hp) ?_
      refine ⟨_, _, rfl, rfl, ?_, rfl⟩
      have e : (((vs ++ [v]).length : Nat) : Int) - 1 = (i : Int) := by
        rw [List.length_append, List.length_singleton, R9.vlen]; omega
      rw [← e]
      rfl
    rintro σ' H9' ⟨rfl, rfl⟩
    have W9 := W7.mono S9
    obtain ⟨dx, fs, _, _, _, hx9, hf, _⟩ := id W9.hm
    obtain ⟨dxo, fso, _, _, _, hxo9, hfo, _⟩ := id W9.ho
    -- machine.run(first, steps), machine.run_back(run[-1], count)
    refine ⟨_, rfl, xm, dx, fs, rfl, hx9, hf.no _ m_run, _, rfl, _, rfl, ?_⟩
    refine ⟨xm, vf, rows, k0, k, n, m, s, rfl, W9.hm, hb, W9.hf, hk0, hs0.mono (by decide), by omega, fun u e j H10 S10 hu hran => ?_⟩
    rw [fbs_F] at hran
    obtain ⟨rfl, rfl⟩ := ran.unique hran
    have R10 := R9.mono S10
    refine ⟨_, rfl, _, rfl, ?_⟩
    refine ixLI (SqL.of R10.hp) (atI_last _ _) ?_
    refine ⟨_, rfl, ?_⟩
    refine nTup (by simp) fun p H11 n11 S11 hp => ?_
    refine neSame 5 (hu.mono S11.tk).dp (CnAt.dp ⟨p, _, rfl, hp, R10.hc.mono S11.tk⟩) (Sh.cn d i) (by decide) ?_
    refine ⟨false, rfl, ?_⟩
    have S1011 := S10.trans S11
    have W11 := W9.mono S1011
    have R11 := R9.mono S1011
    refine ⟨_, rfl, xm, dx, fs, rfl, S1011 _ _ hx9, hf.no _ m_rback, _, rfl, _, rfl, ?_⟩
    refine ixLI (SqL.of R11.hp) (atI_last _ _) ?_
    refine ⟨_, rfl, ?_⟩
    refine ⟨xm, v, rows, d, k, i, m, s, rfl, W11.hm, hb, R11.hc, hkd, hsd.mono (by decide), by omega, fun u e j H12 S12 hu hran => ?_⟩
    rw [fbs_T] at hran
    obtain ⟨rfl, rfl⟩ := ranb.unique hran
    refine ⟨_, rfl, _, rfl, ?_⟩
    refine nTup (by simp) fun p H13 n13 S13 hp => ?_
    refine neSame 5 (hu.mono S13.tk).dp (CnAt.dp ⟨p, _, rfl, hp, W11.hf.mono (S12.trans S13).tk⟩) (Sh.cn k0 i) (by decide) ?_
    refine ⟨false, rfl, ?_⟩
    -- the inverse does the same
    have S13' := S1011.trans (S12.trans S13)
    have W13 := W9.mono S13'
    have R13 := R9.mono S13'
    refine ⟨_, rfl, xo, dxo, fso, rfl, S13' _ _ hxo9, hfo.no _ m_run, _, rfl, _, rfl, ?_⟩
    refine ixLI (SqL.of R13.hp) (atI_last _ _) ?_
    refine ⟨_, rfl, ?_⟩
    refine ⟨xo, v, bws rows, d, k, i, m, s, rfl, W13.ho, hb', R13.hc, hkd, hsd.mono (by decide), by omega, fun u e j H14 S14 hu hran => ?_⟩
    rw [fbs_F] at hran
    obtain ⟨rfl, rfl⟩ := ranb.unique hran
    refine ⟨_, rfl, _, rfl, ?_⟩
    refine nTup (by simp) fun p H15 n15 S15 hp => ?_
    refine neSame 5 (hu.mono S15.tk).dp (CnAt.dp ⟨p, _, rfl, hp, W13.hf.mono (S14.trans S15).tk⟩) (Sh.cn k0 i) (by decide) ?_
    refine ⟨false, rfl, ?_⟩
    have S15' := S13'.trans (S14.trans S15)
    have W15 := W9.mono S15'
    refine ⟨_, rfl, xo, dxo, fso, rfl, S15' _ _ hxo9, hfo.no _ m_rback, _, rfl, _, rfl, ?_⟩
    refine ⟨xo, vf, bws rows, k0, k, n, m, s, rfl, W15.ho, hb', W15.hf, hk0, hs0.mono (by decide), by omega, fun u e j H16 S16 hu hran => ?_⟩
    rw [fbs_T, bws_bws] at hran
    obtain ⟨rfl, rfl⟩ := ran.unique hran
    have S16' := S15'.trans S16
    have R16 := R9.mono S16'
    refine ⟨_, rfl, _, rfl, ?_⟩
    refine ixLI (SqL.of R16.hp) (atI_last _ _) ?_
    refine ⟨_, rfl, ?_⟩
    refine nTup (by simp) fun p H17 n17 S17 hp => ?_
    refine neSame 5 (hu.mono S17.tk).dp (CnAt.dp ⟨p, _, rfl, hp, R16.hc.mono S17.tk⟩) (Sh.cn d i) (by decide) ?_
    refine ⟨false, rfl, ?_⟩
    -- back and forth
    have S17' := S16'.trans S17
    have W17 := W9.mono S17'
    refine ⟨_, rfl, xm, dx, fs, rfl, S17' _ _ hx9, hf.no _ m_rback, _, rfl, _, rfl, ?_⟩
    refine ⟨xm, vf, rows, k0, k, n, m, s, rfl, W17.hm, hb, W17.hf, hk0, hs0.mono (by decide), by omega, fun u e j H18 S18 hu hran => ?_⟩
    rw [fbs_T] at hran
    obtain ⟨pe, xe, rfl, hpe, hxe⟩ := hu
    have ranf : Ran rows e j k0 j := by
      have := hran.back (rows := bws rows) hb'.rk (by rw [bws_bws]; exact nf) hk0
      rw [bws_bws] at this
      exact this
    have hke : ConfK k e := steps_ok hb'.rk hk0 hran.2.1
    have hse : SzC 40 e := (steps_sz hs0 hran.2.1).mono (by have := hran.1; omega)
    have hj : j ≤ 25 := Nat.le_trans hran.1 hn
    refine ⟨pe, _, rfl, SqT.of hpe, rfl, _, _, rfl, _, _, rfl, rfl, ?_⟩
    have S18' := S17'.trans S18
    have W18 := W9.mono S18'
    refine ⟨_, rfl, xm, dx, fs, rfl, S18' _ _ hx9, hf.no _ m_run, _, rfl, _, rfl, ?_⟩
    refine ⟨xm, xe, rows, e, k, j, m, s, rfl, W18.hm, hb, hxe, hke, hse.mono (by decide), by omega, fun u e' j' H19 S19 hu hran' => ?_⟩
    rw [fbs_F] at hran'
    obtain ⟨rfl, rfl⟩ := ranf.unique hran'
    refine ⟨_, rfl, _, rfl, ?_⟩
    refine nTup (by simp) fun p H20 n20 S20 hp => ?_
    refine neSame 5 (hu.mono S20.tk).dp (CnAt.dp ⟨p, _, rfl, hp, W18.hf.mono (S19.trans S20).tk⟩) (Sh.cn k0 j) (by decide) ?_
    refine ⟨false, rfl, ?_⟩
    -- two different ones never meet
    have S20' := S18'.trans (S19.trans S20)
    refine ⟨_, rfl, _, _, rfl, rfl, (i : Int) + 1, rfl, by omega, by omega, ?_⟩
    refine forN (n := i + 1) walk_range (fun _ σ H' => ∃ v10 v15 v16, σ = σL a (.int (c % 9000)) z rl xm xo vf vg (.int (n : Nat)) pr [v10, v11, some (.int (i : Nat)), some xe, some (.int (j : Nat)), v15, v16] ∧ Same H9' H')
      ⟨v10, none, none, rfl, S20'⟩ (fun _ _ _ _ _ => trivial) ?_ ?_
    · rintro q x σ H21 H22 hq ⟨v10, v15, v16, rfl, S21⟩ ⟨rfl, rfl⟩
      have W21 := W9.mono S21
      refine ⟨_, rfl, xm, dx, fs, rfl, S21 _ _ hx9, hf.no _ m_run, _, rfl, _, rfl, ?_⟩
      refine ⟨xm, vg, rows, k1, k, q, m, s, congrArg (fun z => [V.ref xm, vg, V.int z]) (Int.zero_add _), W21.hm, hb, W21.hg, hk1, hs1.mono (by decide), by omega, fun u e1 j1 H23 S23 hu hran1 => ?_⟩
      rw [fbs_F] at hran1
      obtain ⟨pu, xu, rfl, hpu, hxu⟩ := hu
      refine ⟨pu, _, rfl, SqT.of hpu, rfl, _, _, rfl, _, _, rfl, rfl, ?_⟩
      refine ⟨_, rfl, _, rfl, rfl, _, rfl, ite2 (fun h1 => ?_) (fun _ => ⟨_, _, _, rfl, S21.trans S23⟩)⟩
      have ej : j1 = q := by
        have := V.int.inj (of_decide_eq_true h1)
        omega
      subst ej
      have R23 := R9.mono (S21.trans S23)
      obtain ⟨y, d', ey, hy, hst⟩ := R23.at (j := j1) (by omega)
      refine ⟨_, rfl, _, rfl, _, rfl, ?_⟩
      refine ixL (SqL.of R23.hp) j1 (by omega) ey ?_
      refine eqD hxu.dp hy.dp 4 (Sh.cf _) (Sh.cf _) (by decide) ?_
      refine ⟨_, rfl, ite2 (fun h2 => ?_) (fun _ => ⟨_, _, _, rfl, S21.trans S23⟩)⟩
      have e2 := eqv_cf h2
      subst e2
      have e3 : k1 = k0 := steps_inj hb.rk nb hk1 hk0 hran1.2.1 hst
      subst e3
      have W23 := W21.mono S23
      refine ⟨_, rfl, _, rfl, ?_⟩
      refine neSame 4 W23.hf.dp W23.hg.dp (Sh.cf _) (by decide) ?_
      exact ⟨false, rfl, _, _, _, rfl, S21.trans S23⟩
    · rintro σ H21 ⟨v10, v15, v16, rfl, S21⟩
      exact kq _
end
end Bk

set_option Elab.async false
set_option linter.all false
set_option maxRecDepth 100000
set_option maxHeartbeats 0
namespace Bk
open PySem PySem.Spec PyProof.Rows L2
def dTrimmed : He.DefD := ⟨("trimmed", none), "trimmed", "trimmed", defArgs sTrimmed, defBody sTrimmed, defScope sTrimmed, [], []⟩
def dIsNum : He.DefD := ⟨("is_number", none), "is_number", "is_number", defArgs sIsNum, defBody sIsNum, defScope sIsNum, [], []⟩
def dIsTup : He.DefD := ⟨("is_tuple", none), "is_tuple", "is_tuple", defArgs sIsTup, defBody sIsTup, defScope sIsTup, [], []⟩
def dBackward : He.DefD := ⟨("backward", none), "backward", "backward", defArgs sBackward, defBody sBackward, defScope sBackward, [], []⟩
def dFirst : He.DefD := ⟨("first_clash", none), "first_clash", "first_clash", defArgs sFirst, defBody sFirst, defScope sFirst, [], []⟩
def dAmong : He.DefD := ⟨("_clash_among", none), "_clash_among", "_clash_among", defArgs sAmong, defBody sAmong, defScope sAmong, [], []⟩
def dTable : He.DefD := ⟨("_table_of", none), "_table_of", "_table_of", defArgs sTable, defBody sTable, defScope sTable, [], []⟩
def dMoved : He.DefD := ⟨("moved_tape", none), "moved_tape", "moved_tape", defArgs sMoved, defBody sMoved, defScope sMoved, [], []⟩
def dTaken : He.DefD := ⟨("_taken", none), "_taken", "_taken", defArgs sTaken, defBody sTaken, defScope sTaken, [], []⟩
def dRun : He.DefD := ⟨("_run", none), "_run", "_run", defArgs sRun, defBody sRun, defScope sRun, [], []⟩
def dInverse : He.DefD := ⟨("inverse", none), "inverse", "inverse", defArgs sInverse, defBody sInverse, defScope sInverse, [], []⟩
def dLCell : He.DefD := ⟨("_law_cell", none), "_law_cell", "_law_cell", defArgs sLCell, defBody sLCell, defScope sLCell, [], []⟩
def dLMixed : He.DefD := ⟨("_law_mixed", none), "_law_mixed", "_law_mixed", defArgs sLMixed, defBody sLMixed, defScope sLMixed, [], []⟩
def dLDigits : He.DefD := ⟨("_law_digits", none), "_law_digits", "_law_digits", defArgs sLDigits, defBody sLDigits, defScope sLDigits, [], []⟩
def dLClash : He.DefD := ⟨("_law_clash", none), "_law_clash", "_law_clash", defArgs sLClash, defBody sLClash, defScope sLClash, [], []⟩
def dLMark : He.DefD := ⟨("_law_mark", none), "_law_mark", "_law_mark", defArgs sLMark, defBody sLMark, defScope sLMark, [], []⟩
def dLRow : He.DefD := ⟨("_law_row", none), "_law_row", "_law_row", defArgs sLRow, defBody sLRow, defScope sLRow, [], []⟩
def dLSizes : He.DefD := ⟨("_law_sizes", none), "_law_sizes", "_law_sizes", defArgs sLSizes, defBody sLSizes, defScope sLSizes, [], []⟩
def dLRows : He.DefD := ⟨("_law_rows", none), "_law_rows", "_law_rows", defArgs sLRows, defBody sLRows, defScope sLRows, [], []⟩
def dLTrim : He.DefD := ⟨("_law_trim", none), "_law_trim", "_law_trim", defArgs sLTrim, defBody sLTrim, defScope sLTrim, [], []⟩
def dLConf : He.DefD := ⟨("_law_configuration", none), "_law_configuration", "_law_configuration", defArgs sLConf, defBody sLConf, defScope sLConf, [], []⟩
def dLMoved : He.DefD := ⟨("_law_moved", none), "_law_moved", "_law_moved", defArgs sLMoved, defBody sLMoved, defScope sLMoved, [], []⟩
def dLAfter : He.DefD := ⟨("_law_after", none), "_law_after", "_law_after", defArgs sLAfter, defBody sLAfter, defScope sLAfter, [], []⟩
def dLaw : He.DefD := ⟨("law", none), "law", "law", defArgs sLaw, defBody sLaw, defScope sLaw, [], []⟩
def dInit : He.DefD := ⟨("Several", some "__init__"), "__init__", "Several.__init__", defArgs sInit, defBody sInit, defScope sInit, [], []⟩
def dIsRow : He.DefD := ⟨("Several", some "_is_row"), "_is_row", "Several._is_row", defArgs sIsRow, defBody sIsRow, defScope sIsRow, [], []⟩
def dMTable : He.DefD := ⟨("Several", some "table"), "table", "Several.table", defArgs sMTable, defBody sMTable, defScope sMTable, [], []⟩
def dMClash : He.DefD := ⟨("Several", some "back_clash"), "back_clash", "Several.back_clash", defArgs sMClash, defBody sMClash, defScope sMClash, [], []⟩
def dMStep : He.DefD := ⟨("Several", some "step"), "step", "Several.step", defArgs sMStep, defBody sMStep, defScope sMStep, [], []⟩
def dMRun : He.DefD := ⟨("Several", some "run"), "run", "Several.run", defArgs sMRun, defBody sMRun, defScope sMRun, [], []⟩
def dMBack : He.DefD := ⟨("Several", some "back"), "back", "Several.back", defArgs sMBack, defBody sMBack, defScope sMBack, [], []⟩
def dMRBack : He.DefD := ⟨("Several", some "run_back"), "run_back", "Several.run_back", defArgs sMRBack, defBody sMRBack, defScope sMRBack, [], []⟩
def dMCheck : He.DefD := ⟨("Several", some "_check_back"), "_check_back", "Several._check_back", defArgs sMCheck, defBody sMCheck, defScope sMCheck, [], []⟩
def fnL : List He.DefD := [dTrimmed, dIsNum, dIsTup, dBackward, dFirst, dAmong, dTable, dMoved, dTaken, dRun, dInverse, dLCell, dLMixed, dLDigits, dLClash, dLMark, dLRow, dLSizes, dLRows, dLTrim, dLConf, dLMoved, dLAfter, dLaw, dInit, dIsRow, dMTable, dMClash, dMStep, dMRun, dMBack, dMRBack, dMCheck]
def faL : List He.Fa := [.glo "trimmed", .glo "is_number", .glo "is_tuple", .glo "backward", .glo "first_clash", .glo "_clash_among", .glo "_table_of", .glo "moved_tape", .glo "_taken", .glo "_run", .glo "inverse", .glo "_law_cell", .glo "_law_mixed", .glo "_law_digits", .glo "_law_clash", .glo "_law_mark", .glo "_law_row", .glo "_law_sizes", .glo "_law_rows", .glo "_law_trim", .glo "_law_configuration", .glo "_law_moved", .glo "_law_after", .glo "law", .glo "Several", .free "len", .free "tuple", .free "isinstance", .free "int", .free "bool", .free "all", .free "any", .free "enumerate", .free "list", .free "zip", .free "range", .int "MOST_TAPES" 4, .int "MOST_MARKS" 400, .int "MOST_STATES" 5000, .int "MOST_ROWS" 20000, .cls "Several", .noat "Several" "tapes", .noat "Several" "marks", .noat "Several" "states", .noat "Several" "_rows", .noat "Several" "_back_clash", .noat "Several" "_by_state", .noat "Several" "_by_next", .meth "Several" "_is_row", .meth "Several" "table", .meth "Several" "back_clash", .meth "Several" "step", .meth "Several" "run", .meth "Several" "back", .meth "Several" "run_back", .meth "Several" "_check_back", .mkr "Several"]
def looseA : List Str := ["_wall", "BackError", "BadMachine", "Clash", "trimmed", "MOST_TAPES", "MOST_MARKS", "MOST_STATES", "MOST_ROWS", "is_number", "is_tuple", "backward", "first_clash", "_clash_among", "Several", "_table_of", "moved_tape", "_taken"]
def looseB : List Str := ["_run", "inverse", "_law_is_integer", "_law_cell", "_law_mixed", "_law_digits", "_law_clash", "_law_mark", "_law_row", "_law_sizes", "_law_rows", "_law_trim", "_law_configuration", "_law_moved", "_law_after", "_law_turned"]
def looseL : List Str := looseA ++ looseB
abbrev RR : PySem.W.OpenRow := PySem.W.OpenLaw.row PySem.Challenge.rw_backstair_k12_whole_there_and_back
abbrev hkL : PySem.W.Hook := He.hookD 6 faL fnL
def obL (s : PySem.W.SharedT) : He.AlD := He.obsDG 6 faL fnL (HandSHeadRun.getT s)
theorem obL_eq (s : PySem.W.SharedT) : obL s = hkL.obs s.abs := He.obsDG_eq (HandSHeadRun.getT_eq s)
theorem run_top (w : World) : HandSHeadRun.RunEq RR (PySem.W.view RR.prog [39]) hkL obL 6000 looseL w := by
  intro os
  kernel_rfl
theorem facts {P : Program} {w : World} {K : PySem.W.Frag} {h : Heap} {mg : Str → Option Value} {f : Addr} (X : K.In h) (G : h.Ns mainGlobals mg) (hfa : mg ("law" : Str) = some (.ref f)) (c : He.SaysD faL fnL K) :
    ∃ fd : FuncData, (∀ (s : Shared) (v : Value), BindsTo s fd ⟨[v], []⟩ [("_law_script", v)]) ∧ ∀ base : Heap, K.In base → base.Ns mainGlobals mg → FnOk P w K mg base CX0 7 f fd ["_law_script"] (spLaw K) := by
  obtain ⟨fTrimmed, FTrimmed⟩ := c.def_ 0 (d := dTrimmed) rfl
  obtain ⟨fIsNum, FIsNum⟩ := c.def_ 1 (d := dIsNum) rfl
  obtain ⟨fIsTup, FIsTup⟩ := c.def_ 2 (d := dIsTup) rfl
  obtain ⟨fBackward, FBackward⟩ := c.def_ 3 (d := dBackward) rfl
  obtain ⟨fFirst, FFirst⟩ := c.def_ 4 (d := dFirst) rfl
  obtain ⟨fAmong, FAmong⟩ := c.def_ 5 (d := dAmong) rfl
  obtain ⟨fTable, FTable⟩ := c.def_ 6 (d := dTable) rfl
  obtain ⟨fMoved, FMoved⟩ := c.def_ 7 (d := dMoved) rfl
  obtain ⟨fTaken, FTaken⟩ := c.def_ 8 (d := dTaken) rfl
  obtain ⟨fRun, FRun⟩ := c.def_ 9 (d := dRun) rfl
  obtain ⟨fInverse, FInverse⟩ := c.def_ 10 (d := dInverse) rfl
  obtain ⟨fLCell, FLCell⟩ := c.def_ 11 (d := dLCell) rfl
  obtain ⟨fLMixed, FLMixed⟩ := c.def_ 12 (d := dLMixed) rfl
  obtain ⟨fLDigits, FLDigits⟩ := c.def_ 13 (d := dLDigits) rfl
  obtain ⟨fLClash, FLClash⟩ := c.def_ 14 (d := dLClash) rfl
  obtain ⟨fLMark, FLMark⟩ := c.def_ 15 (d := dLMark) rfl
  obtain ⟨fLRow, FLRow⟩ := c.def_ 16 (d := dLRow) rfl
  obtain ⟨fLSizes, FLSizes⟩ := c.def_ 17 (d := dLSizes) rfl
  obtain ⟨fLRows, FLRows⟩ := c.def_ 18 (d := dLRows) rfl
  obtain ⟨fLTrim, FLTrim⟩ := c.def_ 19 (d := dLTrim) rfl
  obtain ⟨fLConf, FLConf⟩ := c.def_ 20 (d := dLConf) rfl
  obtain ⟨fLMoved, FLMoved⟩ := c.def_ 21 (d := dLMoved) rfl
  obtain ⟨fLAfter, FLAfter⟩ := c.def_ 22 (d := dLAfter) rfl
  obtain ⟨fLaw, FLaw⟩ := c.def_ 23 (d := dLaw) rfl
  obtain ⟨fInit, FInit⟩ := c.def_ 24 (d := dInit) rfl
  obtain ⟨fIsRow, FIsRow⟩ := c.def_ 25 (d := dIsRow) rfl
  obtain ⟨fMTable, FMTable⟩ := c.def_ 26 (d := dMTable) rfl
  obtain ⟨fMClash, FMClash⟩ := c.def_ 27 (d := dMClash) rfl
  obtain ⟨fMStep, FMStep⟩ := c.def_ 28 (d := dMStep) rfl
  obtain ⟨fMRun, FMRun⟩ := c.def_ 29 (d := dMRun) rfl
  obtain ⟨fMBack, FMBack⟩ := c.def_ 30 (d := dMBack) rfl
  obtain ⟨fMRBack, FMRBack⟩ := c.def_ 31 (d := dMRBack) rfl
  obtain ⟨fMCheck, FMCheck⟩ := c.def_ 32 (d := dMCheck) rfl
  have e := hfa.symm.trans (He.glo_ok X G (c.fact 23 (f := .glo "law") rfl))
  cases e
  have B : Bi mg := ⟨He.free_ok X G (c.fact 25 (f := .free "len") rfl), He.free_ok X G (c.fact 26 (f := .free "tuple") rfl), He.free_ok X G (c.fact 27 (f := .free "isinstance") rfl), He.free_ok X G (c.fact 28 (f := .free "int") rfl), He.free_ok X G (c.fact 29 (f := .free "bool") rfl), He.free_ok X G (c.fact 30 (f := .free "all") rfl), He.free_ok X G (c.fact 31 (f := .free "any") rfl), He.free_ok X G (c.fact 32 (f := .free "enumerate") rfl), He.free_ok X G (c.fact 33 (f := .free "list") rfl), He.free_ok X G (c.fact 34 (f := .free "zip") rfl), He.free_ok X G (c.fact 35 (f := .free "range") rfl)⟩
  have M : Mosts mg := ⟨He.int_ok X G (c.fact 36 (f := .int "MOST_TAPES" 4) rfl), He.int_ok X G (c.fact 37 (f := .int "MOST_MARKS" 400) rfl), He.int_ok X G (c.fact 38 (f := .int "MOST_STATES" 5000) rfl), He.int_ok X G (c.fact 39 (f := .int "MOST_ROWS" 20000) rfl)⟩
  have T : SevC K (He.ga K "Several") := ⟨He.cls_ok (c.fact 40 (f := .cls "Several") rfl), He.noat_ok (c.fact 41 (f := .noat "Several" "tapes") rfl), He.noat_ok (c.fact 42 (f := .noat "Several" "marks") rfl), He.noat_ok (c.fact 43 (f := .noat "Several" "states") rfl), He.noat_ok (c.fact 44 (f := .noat "Several" "_rows") rfl), He.noat_ok (c.fact 45 (f := .noat "Several" "_back_clash") rfl), He.noat_ok (c.fact 46 (f := .noat "Several" "_by_state") rfl), He.noat_ok (c.fact 47 (f := .noat "Several" "_by_next") rfl)⟩
  have bTrimmed := (FTrimmed.bindsN (ps := ["marks"]) fun _ _ _ _ _ _ us hl => match us, hl with | [_], _ => rfl)
  have bIsNum := (FIsNum.bindsN (ps := ["value", "least", "most"]) fun _ _ _ _ _ _ us hl => match us, hl with | [_, _, _], _ => rfl)
  have bIsTup := (FIsTup.bindsN (ps := ["value", "count", "least", "most"]) fun _ _ _ _ _ _ us hl => match us, hl with | [_, _, _, _], _ => rfl)
  have bBackward := (FBackward.bindsN (ps := ["row"]) fun _ _ _ _ _ _ us hl => match us, hl with | [_], _ => rfl)
  have bFirst := (FFirst.bindsN (ps := ["rows"]) fun _ _ _ _ _ _ us hl => match us, hl with | [_], _ => rfl)
  have bAmong := (FAmong.bindsN (ps := ["rows", "indexes"]) fun _ _ _ _ _ _ us hl => match us, hl with | [_, _], _ => rfl)
  have bTable := (FTable.bindsN (ps := ["rows"]) fun _ _ _ _ _ _ us hl => match us, hl with | [_], _ => rfl)
  have bMoved := (FMoved.bindsN (ps := ["tape", "move"]) fun _ _ _ _ _ _ us hl => match us, hl with | [_, _], _ => rfl)
  have bTaken := (FTaken.bindsN (ps := ["table", "configuration"]) fun _ _ _ _ _ _ us hl => match us, hl with | [_, _], _ => rfl)
  have bRun := (FRun.bindsN (ps := ["table", "configuration", "steps"]) fun _ _ _ _ _ _ us hl => match us, hl with | [_, _, _], _ => rfl)
  have bInverse := (FInverse.bindsN (ps := ["machine"]) fun _ _ _ _ _ _ us hl => match us, hl with | [_], _ => rfl)
  have bLCell := (FLCell.bindsN (ps := ["_law_script", "_law_k"]) fun _ _ _ _ _ _ us hl => match us, hl with | [_, _], _ => rfl)
  have bLMixed := (FLMixed.bindsN (ps := ["_law_cell_here", "_law_k"]) fun _ _ _ _ _ _ us hl => match us, hl with | [_, _], _ => rfl)
  have bLDigits := (FLDigits.bindsN (ps := ["_law_cell_here", "_law_count", "_law_many"]) fun _ _ _ _ _ _ us hl => match us, hl with | [_, _, _], _ => rfl)
  have bLClash := (FLClash.bindsN (ps := ["_law_rows_here", "_law_is_back"]) fun _ _ _ _ _ _ us hl => match us, hl with | [_, _], _ => rfl)
  have bLMark := (FLMark.bindsN (ps := ["_law_digit", "_law_marks"]) fun _ _ _ _ _ _ us hl => match us, hl with | [_, _], _ => rfl)
  have bLRow := (FLRow.bindsN (ps := ["_law_digits_here", "_law_sizes_here"]) fun _ _ _ _ _ _ us hl => match us, hl with | [_, _], _ => rfl)
  have bLSizes := (FLSizes.bindsN (ps := ["_law_number"]) fun _ _ _ _ _ _ us hl => match us, hl with | [_], _ => rfl)
  have bLRows := (FLRows.bindsN (ps := ["_law_numbers", "_law_sizes_here", "_law_is_back"]) fun _ _ _ _ _ _ us hl => match us, hl with | [_, _, _], _ => rfl)
  have bLTrim := (FLTrim.bindsN (ps := ["_law_row_here"]) fun _ _ _ _ _ _ us hl => match us, hl with | [_], _ => rfl)
  have bLConf := (FLConf.bindsN (ps := ["_law_cell_here", "_law_sizes_here"]) fun _ _ _ _ _ _ us hl => match us, hl with | [_, _], _ => rfl)
  have bLMoved := (FLMoved.bindsN (ps := ["_law_tape", "_law_move"]) fun _ _ _ _ _ _ us hl => match us, hl with | [_, _], _ => rfl)
  have bLAfter := (FLAfter.bindsN (ps := ["_law_rows_here", "_law_configuration_here"]) fun _ _ _ _ _ _ us hl => match us, hl with | [_, _], _ => rfl)
  have bLaw := FunD.bindsA (ps := ["_law_script"]) FLaw fun _ _ _ _ _ _ us hl => match us, hl with | [_], _ => rfl
  have bInit := (FInit.bindsN (ps := ["self", "tapes", "marks", "states", "rows"]) fun _ _ _ _ _ _ us hl => match us, hl with | [_, _, _, _, _], _ => rfl)
  have bIsRow := (FIsRow.bindsN (ps := ["self", "row"]) fun _ _ _ _ _ _ us hl => match us, hl with | [_, _], _ => rfl)
  have bMTable := (FMTable.bindsN (ps := ["self"]) fun _ _ _ _ _ _ us hl => match us, hl with | [_], _ => rfl)
  have bMClash := (FMClash.bindsN (ps := ["self"]) fun _ _ _ _ _ _ us hl => match us, hl with | [_], _ => rfl)
  have bMStep := (FMStep.bindsN (ps := ["self", "configuration"]) fun _ _ _ _ _ _ us hl => match us, hl with | [_, _], _ => rfl)
  have bMRun := (FMRun.bindsN (ps := ["self", "configuration", "steps"]) fun _ _ _ _ _ _ us hl => match us, hl with | [_, _, _], _ => rfl)
  have bMBack := (FMBack.bindsN (ps := ["self", "configuration"]) fun _ _ _ _ _ _ us hl => match us, hl with | [_, _], _ => rfl)
  have bMRBack := (FMRBack.bindsN (ps := ["self", "configuration", "steps"]) fun _ _ _ _ _ _ us hl => match us, hl with | [_, _, _], _ => rfl)
  have bMCheck := (FMCheck.bindsN (ps := ["self"]) fun _ _ _ _ _ _ us hl => match us, hl with | [_], _ => rfl)
  refine ⟨fLaw, fun s v => bLaw s [v] rfl, fun base _ _ => ?_⟩
  have cTrim : Cal P w K mg base 1 "trimmed" spTrim := ⟨⟨_, fTrimmed, ["marks"], ok_trimmed FTrimmed B, He.glo_ok X G (c.fact 0 (f := .glo "trimmed") rfl), FTrimmed.kp, bTrimmed⟩⟩
  have cNum : Cal P w K mg base 1 "is_number" spIsNum := ⟨⟨_, fIsNum, ["value", "least", "most"], ok_isNum FIsNum B, He.glo_ok X G (c.fact 1 (f := .glo "is_number") rfl), FIsNum.kp, bIsNum⟩⟩
  have cTup : Cal P w K mg base 2 "is_tuple" spIsTup := ⟨⟨_, fIsTup, ["value", "count", "least", "most"], ok_isTup FIsTup B cNum, He.glo_ok X G (c.fact 2 (f := .glo "is_tuple") rfl), FIsTup.kp, bIsTup⟩⟩
  have cBackward : Cal P w K mg base 1 "backward" spBackward := ⟨⟨_, fBackward, ["row"], ok_backward FBackward B, He.glo_ok X G (c.fact 3 (f := .glo "backward") rfl), FBackward.kp, bBackward⟩⟩
  have cAmong : Cal P w K mg base 1 "_clash_among" spAmong := ⟨⟨_, fAmong, ["rows", "indexes"], ok_among FAmong B, He.glo_ok X G (c.fact 5 (f := .glo "_clash_among") rfl), FAmong.kp, bAmong⟩⟩
  have cFirst : Cal P w K mg base 2 "first_clash" spFirst := ⟨⟨_, fFirst, ["rows"], ok_first FFirst B cAmong, He.glo_ok X G (c.fact 4 (f := .glo "first_clash") rfl), FFirst.kp, bFirst⟩⟩
  have cTable : Cal P w K mg base 1 "_table_of" spTable := ⟨⟨_, fTable, ["rows"], ok_table FTable, He.glo_ok X G (c.fact 6 (f := .glo "_table_of") rfl), FTable.kp, bTable⟩⟩
  have cMoved : Cal P w K mg base 2 "moved_tape" spMoved := ⟨⟨_, fMoved, ["tape", "move"], ok_sMoved FMoved cTrim, He.glo_ok X G (c.fact 7 (f := .glo "moved_tape") rfl), FMoved.kp, bMoved⟩⟩
  have cTaken : Cal P w K mg base 3 "_taken" spTaken := ⟨⟨_, fTaken, ["table", "configuration"], ok_taken FTaken B cMoved, He.glo_ok X G (c.fact 8 (f := .glo "_taken") rfl), FTaken.kp, bTaken⟩⟩
  have cRun : Cal P w K mg base 4 "_run" spRun := ⟨⟨_, fRun, ["table", "configuration", "steps"], ok_run FRun B cTaken, He.glo_ok X G (c.fact 9 (f := .glo "_run") rfl), FRun.kp, bRun⟩⟩
  have mRow : Met P w K mg base 3 (He.ga K "Several") "_is_row" (spIsRow (He.ga K "Several")) := ⟨⟨_, fIsRow, ["self", "row"], ok_isRow FIsRow B T cNum cTup, He.meth_ok (c.fact 48 (f := .meth "Several" "_is_row") rfl), bIsRow⟩⟩
  have mTable : Met P w K mg base 1 (He.ga K "Several") "table" (spMTable (He.ga K "Several")) := ⟨⟨_, fMTable, ["self"], ok_mTable FMTable B T, He.meth_ok (c.fact 49 (f := .meth "Several" "table") rfl), bMTable⟩⟩
  have mClash : Met P w K mg base 1 (He.ga K "Several") "back_clash" (spMNon (He.ga K "Several")) := ⟨⟨_, fMClash, ["self"], ok_mClash FMClash T, He.meth_ok (c.fact 50 (f := .meth "Several" "back_clash") rfl), bMClash⟩⟩
  have mCheck : Met P w K mg base 1 (He.ga K "Several") "_check_back" (spMNon (He.ga K "Several")) := ⟨⟨_, fMCheck, ["self"], ok_mCheck FMCheck T, He.meth_ok (c.fact 55 (f := .meth "Several" "_check_back") rfl), bMCheck⟩⟩
  have mStep : Met P w K mg base 4 (He.ga K "Several") "step" (spMStep (He.ga K "Several") false) := ⟨⟨_, fMStep, ["self", "configuration"], ok_mStep FMStep T cTaken, He.meth_ok (c.fact 51 (f := .meth "Several" "step") rfl), bMStep⟩⟩
  have mBack : Met P w K mg base 4 (He.ga K "Several") "back" (spMStep (He.ga K "Several") true) := ⟨⟨_, fMBack, ["self", "configuration"], ok_mBack FMBack T cTaken mCheck, He.meth_ok (c.fact 53 (f := .meth "Several" "back") rfl), bMBack⟩⟩
  have mRun : Met P w K mg base 5 (He.ga K "Several") "run" (spMRun (He.ga K "Several") false) := ⟨⟨_, fMRun, ["self", "configuration", "steps"], ok_mRun FMRun T cRun, He.meth_ok (c.fact 52 (f := .meth "Several" "run") rfl), bMRun⟩⟩
  have mRBack : Met P w K mg base 5 (He.ga K "Several") "run_back" (spMRun (He.ga K "Several") true) := ⟨⟨_, fMRBack, ["self", "configuration", "steps"], ok_mRBack FMRBack T cRun mCheck, He.meth_ok (c.fact 54 (f := .meth "Several" "run_back") rfl), bMRBack⟩⟩
  have cSev : Mak P w K mg base 4 "Several" (He.ga K "Several") (spInit (He.ga K "Several")) := ⟨⟨_, fInit, ["self", "tapes", "marks", "states", "rows"], He.mkr_ok (c.fact 56 (f := .mkr "Several") rfl), ok_init FInit B M T cNum mRow cFirst cBackward cTable, He.glo_ok X G (c.fact 24 (f := .glo "Several") rfl), bInit⟩⟩
  have cInv : Cal P w K mg base 6 "inverse" (spInverse (He.ga K "Several")) := ⟨⟨_, fInverse, ["machine"], ok_inverse FInverse T cSev cBackward mClash mTable, He.glo_ok X G (c.fact 10 (f := .glo "inverse") rfl), FInverse.kp, bInverse⟩⟩
  have cCell : Cal P w K mg base 1 "_law_cell" (spLCell K) := ⟨⟨_, fLCell, ["_law_script", "_law_k"], ok_lCell FLCell B, He.glo_ok X G (c.fact 11 (f := .glo "_law_cell") rfl), FLCell.kp, bLCell⟩⟩
  have cMixed : Cal P w K mg base 1 "_law_mixed" spLMixed := ⟨⟨_, fLMixed, ["_law_cell_here", "_law_k"], ok_lMixed FLMixed B, He.glo_ok X G (c.fact 12 (f := .glo "_law_mixed") rfl), FLMixed.kp, bLMixed⟩⟩
  have cDigits : Cal P w K mg base 2 "_law_digits" spLDigits := ⟨⟨_, fLDigits, ["_law_cell_here", "_law_count", "_law_many"], ok_lDigits FLDigits B cMixed, He.glo_ok X G (c.fact 13 (f := .glo "_law_digits") rfl), FLDigits.kp, bLDigits⟩⟩
  have cClash : Cal P w K mg base 1 "_law_clash" spLClash := ⟨⟨_, fLClash, ["_law_rows_here", "_law_is_back"], ok_lClash FLClash B, He.glo_ok X G (c.fact 14 (f := .glo "_law_clash") rfl), FLClash.kp, bLClash⟩⟩
  have cMark : Cal P w K mg base 1 "_law_mark" spLMark := ⟨⟨_, fLMark, ["_law_digit", "_law_marks"], ok_lMark FLMark, He.glo_ok X G (c.fact 15 (f := .glo "_law_mark") rfl), FLMark.kp, bLMark⟩⟩
  have cRow : Cal P w K mg base 2 "_law_row" spLRow := ⟨⟨_, fLRow, ["_law_digits_here", "_law_sizes_here"], ok_lRow FLRow B cMark, He.glo_ok X G (c.fact 16 (f := .glo "_law_row") rfl), FLRow.kp, bLRow⟩⟩
  have cSizes : Cal P w K mg base 1 "_law_sizes" spLSizes := ⟨⟨_, fLSizes, ["_law_number"], ok_lSizes FLSizes, He.glo_ok X G (c.fact 17 (f := .glo "_law_sizes") rfl), FLSizes.kp, bLSizes⟩⟩
  have cRows : Cal P w K mg base 3 "_law_rows" (spLRows K) := ⟨⟨_, fLRows, ["_law_numbers", "_law_sizes_here", "_law_is_back"], ok_lRows FLRows B cRow cDigits cClash, He.glo_ok X G (c.fact 18 (f := .glo "_law_rows") rfl), FLRows.kp, bLRows⟩⟩
  have cLTrim : Cal P w K mg base 1 "_law_trim" spLTrim := ⟨⟨_, fLTrim, ["_law_row_here"], ok_lTrim FLTrim B, He.glo_ok X G (c.fact 19 (f := .glo "_law_trim") rfl), FLTrim.kp, bLTrim⟩⟩
  have cConf : Cal P w K mg base 3 "_law_configuration" spLConf := ⟨⟨_, fLConf, ["_law_cell_here", "_law_sizes_here"], ok_lConf FLConf B cDigits cMark cLTrim, He.glo_ok X G (c.fact 20 (f := .glo "_law_configuration") rfl), FLConf.kp, bLConf⟩⟩
  have cLMoved : Cal P w K mg base 2 "_law_moved" spMoved := ⟨⟨_, fLMoved, ["_law_tape", "_law_move"], ok_sLMoved FLMoved (cal_trim cLTrim), He.glo_ok X G (c.fact 21 (f := .glo "_law_moved") rfl), FLMoved.kp, bLMoved⟩⟩
  have cAfter : Cal P w K mg base 3 "_law_after" spLAfter := ⟨⟨_, fLAfter, ["_law_rows_here", "_law_configuration_here"], ok_lAfter FLAfter B cLMoved, He.glo_ok X G (c.fact 22 (f := .glo "_law_after") rfl), FLAfter.kp, bLAfter⟩⟩
  exact ok_law FLaw B T cCell cSizes cRows cSev cInv cConf cAfter mStep mBack mRun mRBack
end Bk

open PySem PySem.W PySem.Calls PyProof.Rows in
set_option maxRecDepth 100000 in
set_option maxHeartbeats 0 in
theorem PySem.Challenge.cw_backstair_k12_whole_there_and_back_holds : PySem.Challenge.rw_backstair_k12_whole_there_and_back.Holds := by
  w_on; o_law
  refine HandSHeadRun.head_any (r := OpenLaw.row PySem.Challenge.rw_backstair_k12_whole_there_and_back) (q := view (OpenLaw.row PySem.Challenge.rw_backstair_k12_whole_there_and_back).prog [39]) (H := Bk.hkL) (ob := Bk.obL) (M := 6000) (loose := Bk.looseL) (d := HandSHeadRun.topDef (OpenLaw.row PySem.Challenge.rw_backstair_k12_whole_there_and_back).prog 39) (kwd := []) Bk.obL_eq
    (by kernel_rfl) (fun s => by kernel_rfl) Bk.run_top (by kernel_rfl) (by kernel_rfl) (by kernel_rfl) (by rfl) (by first | assumption | decide +kernel) (by decide +kernel) ⟨rfl, rfl, rfl, rfl, rfl, by decide +kernel⟩ ?hw ?hc
  case hw => w_witness2
  case hc =>
    refine L2.walk_ofE (l := PySem.Challenge.rw_backstair_k12_whole_there_and_back) (n := 63) (k := 7) (x := "_law_script") (CX := L2.CX0) rfl (by decide) (by kernel_rfl) ⟨rfl, by decide, by decide⟩ ?F (fun _ _ _ _ z => z)
    intro w mg fa h Y G hmg0
    obtain ⟨K, KX, c⟩ := Y
    have hmg : mg ("law" : PySem.Str) = some (.ref fa) := by
      have e : (HandSHeadRun.topDef (OpenLaw.row PySem.Challenge.rw_backstair_k12_whole_there_and_back).prog 39).name = ("law" : PySem.Str) := by kernel_rfl
      rw [← e]
      exact hmg0
    obtain ⟨fd, hb, hF⟩ := Bk.facts (P := (PySem.Challenge.rw_backstair_k12_whole_there_and_back).prog) (w := w) KX G hmg c
    exact ⟨K, fd, Bk.spLaw K, KX, hb, fun H a ns hl _ hS => ⟨a, ns, rfl, hS, fun _ => rfl⟩, hF⟩
