import PyProof.Rows.All
import Wide.All
import OpenK.AllK
import Wide.FinOn
import Lean
import PySem.Challenge.RW_pb0150_01
open PySem PySem.W PyProof.Rows
set_option Elab.async false
set_option pp.deepTerms false
set_option pp.maxSteps 400
set_option maxRecDepth 100000
set_option maxHeartbeats 8000000
namespace Mine
open PySem.Spec PySem.Calls
local macro_rules | `(tactic| walk_at $s:str) => `(tactic| k_extra $s)
-- PART Top0
open_top hd for PySem.Challenge.rw_pb0150_01
-- PART B0
noncomputable abbrev Lo0 : List Str := looseW hd.view_39 [Str.ofString "ShapeError"]
section
variable {prog : Program} {w : World} {A : Around} {E : Value → Shared → Prop} {s : Shared} {value slice : PySem.Expr} {x y : PySem.Str} {t u : Tok} {i : Int} {Q : Value → Shared → Prop}
/-- the code of a text at a place -/
def cod (x : PySem.Str) (i : Int) : Nat := (x.cps.toList).getD i.toNat 0
def has (y : PySem.Str) (c : Nat) : Bool := y.cps.toList.contains c
theorem has_eq (y : PySem.Str) (c : Nat) : has y c = decide (c ∈ y.cps.toList) := by simp [has]
theorem item_cod (h0 : 0 ≤ i) (h1 : i < (x.length : Int)) : Txt.item x i = ⟨#[cod x i]⟩ := by
  unfold Txt.item cod Txt.charAt PySem.seqIndex?
  simp only [PySem.Str.length] at h1 ⊢
  have : i.toNat < x.cps.size := by omega
  have h2 : ¬ i < 0 := by omega
  simp [h2, h0, h1, this]
theorem my_item (h0 : 0 ≤ i) (h1 : i < (x.length : Int)) (hn : x.length ≤ 1000) (h : Q (.str ⟨#[cod x i]⟩ s.toks) { s with toks := s.toks + 1 })
    (hs : subscripted slice false (.str x t) (.int i u) = operate [.str x t, .int i u] (getItem (.str x t) (.int i u)) := by with_unfolding_all rfl)
    (ht : ∀ r, letTemporaryGo value (.str x t) r = pure () := by intro _; with_unfolding_all rfl) :
    wpAny (model prog w) A (subscriptTail value slice (.str x t) (.int i u)) Q E s :=
  item_str (fitsSsize_of (N := 9223372036854775808) (by omega) (by omega) (Int.le_refl _)) (by omega) (by omega) (fun _ => by rw [item_cod h0 h1]; exact h) hs ht
theorem my_in {c : Nat} (h : Q (.bool (has x c)) s) : wpAny (model prog w) A (compareOp .In (.str ⟨#[c]⟩ u) (.str x t)) Q E s := by
  refine P.in_str ?_
  rw [PySem.StrLaws.found_one, ← has_eq]
  exact h
theorem my_notIn {c : Nat} (h : Q (.bool (!has x c)) s) : wpAny (model prog w) A (compareOp .NotIn (.str ⟨#[c]⟩ u) (.str x t)) Q E s := by
  refine P.notIn_str ?_
  rw [PySem.StrLaws.found_one, ← has_eq]
  exact h
end
local macro_rules | `(tactic| k_all) => `(tactic| assumption)
local macro_rules | `(tactic| units_room) => `(tactic| ((try simp only [units_in1, units_deeper, Around.mark_units, units_caller]); (try dsimp only [ktrTop]); omega))
-- PART C1
/-- where the run of signs from i on ends -/
def runEnd (cs : List Nat) (sg : List Nat) (i : Nat) : Nat := i + ((cs.drop i).takeWhile sg.contains).length
def runEndI (x : PySem.Str) (i : Int) (y : PySem.Str) : Int := ((runEnd x.cps.toList y.cps.toList i.toNat : Nat) : Int)
theorem runEnd_ge (cs sg : List Nat) (i : Nat) : i ≤ runEnd cs sg i := Nat.le_add_right _ _
theorem runEnd_le (cs sg : List Nat) (i : Nat) (h : i ≤ cs.length) : runEnd cs sg i ≤ cs.length := by
  unfold runEnd
  have := (List.takeWhile_prefix sg.contains (l := cs.drop i)).length_le
  rw [List.length_drop] at this
  omega
theorem runEnd_step (cs sg : List Nat) (i : Nat) (h : i < cs.length) (hc : sg.contains (cs.getD i 0) = true) : runEnd cs sg (i + 1) = runEnd cs sg i := by
  unfold runEnd
  have e : cs.drop i = cs[i] :: cs.drop (i + 1) := List.drop_eq_getElem_cons h
  have e2 : cs.getD i 0 = cs[i] := by simp [h]
  rw [e2] at hc
  rw [e, List.takeWhile_cons, if_pos hc, List.length_cons]
  omega
theorem runEnd_stop (cs sg : List Nat) (i : Nat) (h : i < cs.length) (hc : sg.contains (cs.getD i 0) = false) : runEnd cs sg i = i := by
  unfold runEnd
  have e : cs.drop i = cs[i] :: cs.drop (i + 1) := List.drop_eq_getElem_cons h
  have e2 : cs.getD i 0 = cs[i] := by simp [h]
  rw [e2] at hc
  rw [e, List.takeWhile_cons, if_neg (by rw [hc]; exact Bool.false_ne_true)]
  rfl
theorem runEnd_end (cs sg : List Nat) (i : Nat) (h : cs.length ≤ i) : runEnd cs sg i = i := by
  unfold runEnd
  rw [List.drop_eq_nil_of_le h]
  rfl
theorem runEndI_step {x y : PySem.Str} {i : Int} (h0 : 0 ≤ i) (h : i < (x.length : Int)) (hc : has y (cod x i) = true) : runEndI x (i + 1) y = runEndI x i y := by
  unfold runEndI
  have : (i + 1).toNat = i.toNat + 1 := by omega
  rw [this, runEnd_step _ _ _ (by simp only [PySem.Str.length] at h; simp; omega) hc]
theorem runEndI_stop {x y : PySem.Str} {i : Int} (h0 : 0 ≤ i) (h : i < (x.length : Int)) (hc : has y (cod x i) = false) : runEndI x i y = i := by
  unfold runEndI
  rw [runEnd_stop _ _ _ (by simp only [PySem.Str.length] at h; simp; omega) hc]
  omega
theorem runEndI_end {x y : PySem.Str} {i : Int} (h0 : 0 ≤ i) (h : (x.length : Int) ≤ i) : runEndI x i y = i := by
  unfold runEndI
  rw [runEnd_end _ _ _ (by simp only [PySem.Str.length] at h; simp; omega)]
  omega
set_option maxHeartbeats 8000000 in
theorem run_end_c (w : World) (mean : ExcName → Option Value) (mg mb : PySem.Str → Option Value) (x : PySem.Str) (tx : Tok) (i : Int) (ti : Tok) (y : PySem.Str) (ty : Tok) (news : CbLed) :
    CbClaim PySem.Challenge.rw_pb0150_01.row.prog w (hd.heap_39 w.params) hd.view_39 Lo0 mean mg mb 70 news [] (0 ≤ i ∧ i ≤ (x.length : Int) ∧ x.length ≤ 1000) [.str x tx, .int i ti, .str y ty] (fun t => .int (runEndI x i y) t) := by
  k_with_none
  w_top off
  k_with "subscriptTail Name Name str int" => (k_here; (with_reducible show wpAny _ _ (subscriptTail _ _ (Value.str _ _) (Value.int _ _)) _ _ _); (refine my_item (by omega) (by omega) (by omega) ?_))
  k_with "compareOp In str str" => (k_here; (with_reducible show wpAny _ _ (compareOp CmpOp.In (Value.str (PySem.Str.mk _) _) (Value.str _ _)) _ _ _); refine my_in ?_)
  k_with "compareOp NotIn str str" => (k_here; (with_reducible show wpAny _ _ (compareOp CmpOp.NotIn (Value.str (PySem.Str.mk _) _) (Value.str _ _)) _ _ _); refine my_notIn ?_)
  k_fill
  dsimp only [CbClaim, CbLists, CbRet]; intros; rename_i hret
  refine wpAny_call ?_
  k_dflt cell_enter
  k_with "exec While BoolOp cons nil" => k_while_given ["text", "at", "signs"] (fun x a y _ e => a ≤ e ∧ e ≤ (x.length : Int) ∧ runEndI x e y = runEndI x a y) (fun x a y _ e => ((x.length : Int) - e).toNat) "end"
  k_with "state" => (refine ⟨?_, ?_, ?_⟩ <;> first | omega | rfl | (rw [runEndI_step (by omega) (by omega) (by assumption)]; assumption))
  k_steps
  all_goals (refine cb_retI hret ?_ (by assumption) (by assumption))
  all_goals grind [runEndI_stop, runEndI_end]
-- PART PL
section Plain
/-- the four kinds of signs -/
def isL (c : Nat) : Bool := decide ((97 ≤ c ∧ c ≤ 122) ∨ (65 ≤ c ∧ c ≤ 90) ∨ c = 95 ∨ c = 46)
def isF (c : Nat) : Bool := decide (48 ≤ c ∧ c ≤ 57)
def isS (c : Nat) : Bool := decide (c = 123 ∨ c = 125 ∨ c = 91 ∨ c = 93 ∨ c = 59 ∨ c = 39 ∨ c = 60 ∨ c = 62)
def isB (c : Nat) : Bool := decide (c = 32 ∨ c = 9 ∨ c = 13 ∨ c = 10)
def isW (c : Nat) : Bool := isL c || isF c
/-- how many signs are skipped; true: within a remark -/
def skipL : Bool → List Nat → Nat
  | _, [] => 0
  | true, c :: r => if c = 10 ∨ c = 13 then 1 + skipL false r else 1 + skipL true r
  | false, c :: r => if c = 32 ∨ c = 9 ∨ c = 13 ∨ c = 10 then 1 + skipL false r else if c = 35 then 1 + skipL true r else 0
/-- how far a word goes beyond its first sign -/
def wordMore (c : Nat) (r : List Nat) : Option Nat :=
  if isL c then some (r.takeWhile isW).length
  else if isF c then some (r.takeWhile isF).length
  else if c = 45 ∧ 0 < (r.takeWhile isF).length then some (r.takeWhile isF).length
  else if isS c then some 0
  else none
abbrev Wd := List Nat × Nat
/-- the words of a text, each with its offset (without the end) -/
def words (bm : Bool) (cs : List Nat) (at_ : Nat) : Except Nat (List Wd) :=
  match _h : cs.drop (skipL bm cs) with
  | [] => .ok []
  | c :: r => match wordMore c r with
    | none => .error (at_ + skipL bm cs)
    | some n => match words false (r.drop n) (at_ + skipL bm cs + 1 + n) with
      | .ok ws => .ok ((c :: r.take n, at_ + skipL bm cs) :: ws)
      | .error e => .error e
termination_by cs.length
decreasing_by
  have h1 : (cs.drop (skipL bm cs)).length = (c :: r).length := by rw [_h]
  simp only [List.length_drop, List.length_cons] at h1 ⊢
  omega
def md (c : Nat) : Nat := if isL c then 1 else if isF c then 2 else 0
/-- the walk sign by sign: 0 none, 1 name, 2 number, 3 minus, 4 remark -/
def mach (m : Nat) (w : List Nat) (b at_ : Nat) (found : List Wd) : List Nat → Except Nat (List Wd)
  | [] => .ok found
  | c :: r =>
    if m = 4 then mach (if c = 10 ∨ c = 13 then 0 else 4) w b (at_ + 1) found r
    else if m = 1 ∧ isW c = true then mach 1 (w ++ [c]) b (at_ + 1) found r
    else if m = 2 ∧ isF c = true then mach 2 (w ++ [c]) b (at_ + 1) found r
    else if m = 3 ∧ isF c = true then mach 2 (w ++ [c]) b (at_ + 1) found r
    else if m = 3 then .error b
    else if c = 45 then mach 3 [c] at_ (at_ + 1) (if m = 0 then found else found ++ [(w, b)]) r
    else if c = 35 then mach 4 [c] at_ (at_ + 1) (if m = 0 then found else found ++ [(w, b)]) r
    else if isS c = true then mach (md c) [c] at_ (at_ + 1) ((if m = 0 then found else found ++ [(w, b)]) ++ [([c], at_)]) r
    else if md c = 0 ∧ isB c = false then .error at_
    else mach (md c) [c] at_ (at_ + 1) (if m = 0 then found else found ++ [(w, b)]) r
def putE (found : List Wd) : Except Nat (List Wd) → Except Nat (List Wd)
  | .ok ws => .ok (found ++ ws)
  | .error e => .error e

theorem words_eq (bm : Bool) (cs : List Nat) (at_ : Nat) : words bm cs at_ = (match cs.drop (skipL bm cs) with
  | [] => .ok []
  | c :: r => match wordMore c r with
    | none => .error (at_ + skipL bm cs)
    | some n => match words false (r.drop n) (at_ + skipL bm cs + 1 + n) with
      | .ok ws => .ok ((c :: r.take n, at_ + skipL bm cs) :: ws)
      | .error e => .error e) := by
  rw [words]
  split <;> rename_i h <;> rw [h]
theorem words_shift {bm bm' : Bool} {c : Nat} {r : List Nat} {at_ : Nat} (h : skipL bm (c :: r) = 1 + skipL bm' r) : words bm (c :: r) at_ = words bm' r (at_ + 1) := by
  have e1 : (c :: r).drop (skipL bm (c :: r)) = r.drop (skipL bm' r) := by rw [h, Nat.add_comm]; rfl
  have e2 : at_ + skipL bm (c :: r) = at_ + 1 + skipL bm' r := by rw [h]; omega
  rw [words_eq bm, words_eq bm', e1, e2]
theorem words_word {c : Nat} {r : List Nat} {at_ : Nat} (h : skipL false (c :: r) = 0) : words false (c :: r) at_ = (match wordMore c r with
    | none => .error at_
    | some n => match words false (r.drop n) (at_ + 1 + n) with
      | .ok ws => .ok ((c :: r.take n, at_) :: ws)
      | .error e => .error e) := by
  rw [words_eq, h]
  rfl
theorem words_nil (bm : Bool) (at_ : Nat) : words bm [] at_ = .ok [] := by rw [words_eq]; rfl
theorem mach_zero (w w' : List Nat) (b b' at_ : Nat) (found : List Wd) (l : List Nat) : mach 0 w b at_ found l = mach 0 w' b' at_ found l := by
  cases l with
  | nil => rfl
  | cons c r => simp [mach]
theorem mach_leave {m : Nat} (hm : m = 1 ∨ m = 2) {c : Nat} (hc : m = 1 → isW c = false) (hf : m = 2 → isF c = false) (w : List Nat) (b at_ : Nat) (found : List Wd) (r : List Nat) :
    mach m w b at_ found (c :: r) = mach 0 [] 0 at_ (found ++ [(w, b)]) (c :: r) := by
  rcases hm with rfl | rfl
  · simp [mach, hc rfl]
  · simp [mach, hf rfl]
theorem mach_name (b : Nat) : ∀ (r : List Nat) (w : List Nat) (at_ : Nat) (found : List Wd),
    mach 1 w b at_ found (r ++ [10]) = mach 0 [] 0 (at_ + (r.takeWhile isW).length) (found ++ [(w ++ r.take (r.takeWhile isW).length, b)]) (r.drop (r.takeWhile isW).length ++ [10])
  | [], w, at_, found => by
    have := mach_leave (.inl rfl) (c := 10) (fun _ => by decide) (fun h => by cases h) w b at_ found []
    simpa using this
  | c :: r, w, at_, found => by
    cases hc : isW c with
    | true =>
      have ih := mach_name b r (w ++ [c]) (at_ + 1) found
      have e : mach 1 w b at_ found (c :: r ++ [10]) = mach 1 (w ++ [c]) b (at_ + 1) found (r ++ [10]) := by simp [mach, hc]
      rw [e, ih, List.takeWhile_cons, if_pos hc, List.length_cons, List.take_succ_cons, List.drop_succ_cons, List.append_assoc]
      have e2 : at_ + 1 + (r.takeWhile isW).length = at_ + ((r.takeWhile isW).length + 1) := by omega
      rw [e2]
      rfl
    | false =>
      have := mach_leave (.inl rfl) (c := c) (fun _ => hc) (fun h => by cases h) w b at_ found (r ++ [10])
      rw [List.takeWhile_cons, if_neg (by rw [hc]; exact Bool.false_ne_true)]
      simpa using this
theorem mach_num (b : Nat) : ∀ (r : List Nat) (w : List Nat) (at_ : Nat) (found : List Wd),
    mach 2 w b at_ found (r ++ [10]) = mach 0 [] 0 (at_ + (r.takeWhile isF).length) (found ++ [(w ++ r.take (r.takeWhile isF).length, b)]) (r.drop (r.takeWhile isF).length ++ [10])
  | [], w, at_, found => by
    have := mach_leave (.inr rfl) (c := 10) (fun h => by cases h) (fun _ => by decide) w b at_ found []
    simpa using this
  | c :: r, w, at_, found => by
    cases hc : isF c with
    | true =>
      have ih := mach_num b r (w ++ [c]) (at_ + 1) found
      have e : mach 2 w b at_ found (c :: r ++ [10]) = mach 2 (w ++ [c]) b (at_ + 1) found (r ++ [10]) := by simp [mach, hc]
      rw [e, ih, List.takeWhile_cons, if_pos hc, List.length_cons, List.take_succ_cons, List.drop_succ_cons, List.append_assoc]
      have e2 : at_ + 1 + (r.takeWhile isF).length = at_ + ((r.takeWhile isF).length + 1) := by omega
      rw [e2]
      rfl
    | false =>
      have := mach_leave (.inr rfl) (c := c) (fun h => by cases h) (fun _ => hc) w b at_ found (r ++ [10])
      rw [List.takeWhile_cons, if_neg (by rw [hc]; exact Bool.false_ne_true)]
      simpa using this
theorem kinds (c : Nat) : (isL c = true → isF c = false ∧ isS c = false ∧ isB c = false ∧ c ≠ 45 ∧ c ≠ 35) ∧ (isF c = true → isL c = false ∧ isS c = false ∧ isB c = false ∧ c ≠ 45 ∧ c ≠ 35) ∧
    (isS c = true → isL c = false ∧ isF c = false ∧ isB c = false ∧ c ≠ 45 ∧ c ≠ 35) ∧ (isB c = true → isL c = false ∧ isF c = false ∧ isS c = false ∧ c ≠ 45 ∧ c ≠ 35) := by
  simp only [isL, isF, isS, isB, decide_eq_true_eq, decide_eq_false_iff_not]
  refine ⟨fun h => ⟨?_, ?_, ?_, ?_, ?_⟩, fun h => ⟨?_, ?_, ?_, ?_, ?_⟩, fun h => ⟨?_, ?_, ?_, ?_, ?_⟩, fun h => ⟨?_, ?_, ?_, ?_, ?_⟩⟩ <;> omega
theorem skip_stop {c : Nat} {r : List Nat} (hb : isB c = false) (hr : c ≠ 35) : skipL false (c :: r) = 0 := by
  have : ¬ (c = 32 ∨ c = 9 ∨ c = 13 ∨ c = 10) := by simpa [isB] using hb
  simp [skipL, this, hr]
theorem putE_cons (found : List Wd) (x : Wd) (e : Except Nat (List Wd)) : putE (found ++ [x]) e = putE found (match e with | .ok ws => .ok (x :: ws) | .error e => .error e) := by
  cases e <;> simp [putE]
end Plain
-- PART C2
def skT (b : Bool) (x : PySem.Str) (i : Int) : Int := i + ((skipL b (x.cps.toList.drop i.toNat) : Nat) : Int)
theorem drop_cod {x : PySem.Str} {i : Int} (h0 : 0 ≤ i) (h : i < (x.length : Int)) : x.cps.toList.drop i.toNat = cod x i :: x.cps.toList.drop (i + 1).toNat := by
  have h1 : i.toNat < x.cps.toList.length := by simp only [PySem.Str.length] at h; simp; omega
  have e : (i + 1).toNat = i.toNat + 1 := by omega
  rw [e, List.drop_eq_getElem_cons h1]
  unfold cod
  congr 1
  simp [List.getD, List.getElem?_eq_getElem h1]
theorem drop_end {x : PySem.Str} {i : Int} (h : (x.length : Int) ≤ i) : x.cps.toList.drop i.toNat = [] := by
  apply List.drop_eq_nil_of_le
  simp only [PySem.Str.length] at h; simp; omega
abbrev sBlank : PySem.Str := PySem.Str.ofString " \t\r\n"
abbrev sLine : PySem.Str := PySem.Str.ofString "\r\n"
abbrev sHash : PySem.Str := PySem.Str.ofString "#"
theorem sBlank_eq : sBlank = ⟨#[32, 9, 13, 10]⟩ := by decide +kernel
theorem sLine_eq : sLine = ⟨#[13, 10]⟩ := by decide +kernel
theorem sHash_eq : sHash = ⟨#[35]⟩ := by decide +kernel
theorem has_blank (c : Nat) : has sBlank c = true ↔ (c = 32 ∨ c = 9 ∨ c = 13 ∨ c = 10) := by rw [sBlank_eq]; simp [has]
theorem has_line (c : Nat) : has sLine c = true ↔ (c = 10 ∨ c = 13) := by rw [sLine_eq]; simp [has]; omega
theorem is_one (c d : Nat) : (((⟨#[c]⟩ : PySem.Str) == ⟨#[d]⟩) = true) ↔ c = d := by simp
theorem is_hash (c : Nat) : (((⟨#[c]⟩ : PySem.Str) == sHash) = true) ↔ c = 35 := by rw [sHash_eq]; exact is_one _ _
theorem skT_blank {x : PySem.Str} {i : Int} (h0 : 0 ≤ i) (h : i < (x.length : Int)) (hc : has sBlank (cod x i) = true) : skT false x (i + 1) = skT false x i := by
  unfold skT
  rw [drop_cod h0 h, skipL, if_pos ((has_blank _).mp hc)]
  omega
theorem skT_remark {x : PySem.Str} {i : Int} (h0 : 0 ≤ i) (h : i < (x.length : Int)) (hc : ((⟨#[cod x i]⟩ : PySem.Str) == sHash) = true) : skT true x i = skT false x i := by
  rw [is_hash] at hc
  unfold skT
  rw [drop_cod h0 h, skipL, skipL, hc]
  simp
theorem skT_in {x : PySem.Str} {i : Int} (h0 : 0 ≤ i) (h : i < (x.length : Int)) (hc : has sLine (cod x i) = false) : skT true x (i + 1) = skT true x i := by
  unfold skT
  rw [drop_cod h0 h, skipL, if_neg (fun e => by rw [(has_line _).mpr e] at hc; cases hc)]
  omega
theorem skT_out {x : PySem.Str} {i : Int} (h0 : 0 ≤ i) (h : i < (x.length : Int)) (hc : has sLine (cod x i) = true) : skT true x i = skT false x i := by
  unfold skT
  rw [drop_cod h0 h, skipL, skipL, if_pos ((has_line _).mp hc), if_pos (by have := (has_line _).mp hc; omega)]
theorem skT_end {x : PySem.Str} {i : Int} {b : Bool} (h : (x.length : Int) ≤ i) : skT b x i = i := by
  unfold skT
  rw [drop_end h]
  cases b <;> simp [skipL]
theorem skT_same {x : PySem.Str} {i : Int} (h : (x.length : Int) ≤ i) : skT true x i = skT false x i := by rw [skT_end h, skT_end h]
theorem skT_stop {x : PySem.Str} {i : Int} (h0 : 0 ≤ i) (h : i < (x.length : Int)) (hc : has sBlank (cod x i) = false) (hr : ((⟨#[cod x i]⟩ : PySem.Str) == sHash) = false) : skT false x i = i := by
  have hr : ¬ cod x i = 35 := fun e => by rw [(is_hash _).mpr e] at hr; cases hr
  unfold skT
  rw [drop_cod h0 h, skipL, if_neg (fun e => by rw [(has_blank _).mpr e] at hc; cases hc), if_neg hr]
  omega
theorem ne_of_line {x : PySem.Str} {i j : Int} (h1 : has sLine (cod x j) = true) (h2 : ((⟨#[cod x i]⟩ : PySem.Str) == sHash) = true) : j ≠ i := by
  rintro rfl
  rw [is_hash] at h2
  rw [has_line, h2] at h1
  omega
set_option maxHeartbeats 8000000 in
theorem skipped_c (w : World) (mean : ExcName → Option Value) (mg mb : PySem.Str → Option Value) (x : PySem.Str) (tx : Tok) (i : Int) (ti : Tok) (news : CbLed) :
    CbClaim PySem.Challenge.rw_pb0150_01.row.prog w (hd.heap_39 w.params) hd.view_39 Lo0 mean mg mb 77 news [] (0 ≤ i ∧ i ≤ (x.length : Int) ∧ x.length ≤ 1000) [.str x tx, .int i ti] (fun t => .int (skT false x i) t) := by
  k_with_none
  w_top off
  k_with "subscriptTail Name Name str int" => (k_here; (with_reducible show wpAny _ _ (subscriptTail _ _ (Value.str _ _) (Value.int _ _)) _ _ _); (refine my_item (by omega) (by omega) (by omega) ?_))
  k_with "compareOp In str str" => (k_here; (with_reducible show wpAny _ _ (compareOp CmpOp.In (Value.str (PySem.Str.mk _) _) (Value.str _ _)) _ _ _); refine my_in ?_)
  k_with "compareOp NotIn str str" => (k_here; (with_reducible show wpAny _ _ (compareOp CmpOp.NotIn (Value.str (PySem.Str.mk _) _) (Value.str _ _)) _ _ _); refine my_notIn ?_)
  k_fill
  dsimp only [CbClaim, CbLists, CbRet]; intros; rename_i hret
  refine wpAny_call ?_
  k_dflt cell_enter
  k_with "exec While BoolOp cons nil" => (first
    | ((with_reducible show wpAny _ _ (exec (Stmt.While _ [Stmt.Assign _ _ _] _ _) _) _ _ _); k_while_given ["text", "at", "here!"] (fun x a e₀ _ e => a ≤ e ∧ e₀ ≤ e ∧ e ≤ (x.length : Int) ∧ skT true x e = skT false x a) (fun x a _ _ e => ((x.length : Int) - e).toNat) "here")
    | k_while_given ["text", "at"] (fun x a _ e => a ≤ e ∧ e ≤ (x.length : Int) ∧ skT false x e = skT false x a) (fun x a _ e => ((x.length : Int) - e).toNat) "here")
  k_with "state" => ((repeat' refine And.intro ?_ ?_) <;> first | omega | rfl | (rw [skT_blank (by omega) (by omega) (by assumption)]; assumption) | (rw [skT_in (by omega) (by omega) (by assumption)]; assumption) | (rw [skT_remark (by omega) (by omega) (by assumption)]; assumption) | (rw [← skT_out (by omega) (by omega) (by assumption)]; assumption) | (rw [← skT_same (by omega)]; assumption))
  k_with "measure" => first | omega | (have hne := ne_of_line (by assumption) (by assumption); omega)
  k_steps
  all_goals (refine cb_retI hret ?_ (by assumption) (by assumption))
  all_goals grind [skT_end, skT_stop]
-- PART X1
section KeepsDict
open PySem.Sem (wp wp_pure' wp_bind' wp_mono)
/-- every object that stands keeps its dict -/
def DK (h h' : Heap) : Prop := ∀ a o, h.get? a = some o → ∃ o', h'.get? a = some o' ∧ o'.dict = o.dict
theorem DK.refl (h : Heap) : DK h h := fun _ o e => ⟨o, e, rfl⟩
theorem DK.trans {h₁ h₂ h₃ : Heap} (x : DK h₁ h₂) (y : DK h₂ h₃) : DK h₁ h₃ := fun a o e => by
  obtain ⟨o', e', d'⟩ := x a o e
  obtain ⟨o'', e'', d''⟩ := y a o' e'
  exact ⟨o'', e'', d''.trans d'⟩
theorem DK.push (h : Heap) (o : Obj) : DK h (h.push o) := fun a o' e => ⟨o', Heap.get?_push_of_some o e, rfl⟩
theorem DK.update {h : Heap} {a : Addr} {f : Obj → Obj} (hf : ∀ o, h.get? a = some o → (f o).dict = o.dict ∧ (f o).isFreed = false) : DK h (h.update a f) := fun b o e => by
  by_cases hab : a = b
  · subst hab
    exact ⟨f o, Heap.get?_update_self f e (hf o e).2, (hf o e).1⟩
  · exact ⟨o, by rw [Heap.get?_update_other _ _ hab]; exact e, rfl⟩
def KeepD {α : Type} (t : Sem α) : Prop := ∀ (M : Model) (Γ : PySem.Ctx) (Q : α → Pos → Shared → Prop) (E : Value → Pos → Shared → Prop) (p : Pos) (s : Shared), wp M Γ t Q E p s →
  wp M Γ t (fun a p' s' => Q a p' s' ∧ DK s.heap s'.heap) (fun e p' s' => E e p' s' ∧ DK s.heap s'.heap) p s
theorem KeepD.pure {α : Type} (a : α) : KeepD (Pure.pure a : Sem α) := fun M Γ Q E p s h => by
  rw [wp_pure'] at h ⊢
  exact ⟨h, DK.refl _⟩
theorem KeepD.unsup {α : Type} (w : String) : KeepD (PySem.unsupported w : Sem α) := fun M Γ Q E p s h => by
  simp only [PySem.unsupported, wp] at h
theorem KeepD.bind {α β : Type} {x : Sem α} {f : α → Sem β} (hx : KeepD x) (hf : ∀ a, KeepD (f a)) : KeepD (x >>= f) := fun M Γ Q E p s h => by
  rw [wp_bind'] at h ⊢
  refine wp_mono M Γ x (fun a p' s' z => ?_) (fun e p' s' z => z) p s (hx M Γ _ _ p s h)
  exact wp_mono M Γ (f a) (fun b p'' s'' y => ⟨y.1, z.2.trans y.2⟩) (fun e p'' s'' y => ⟨y.1, z.2.trans y.2⟩) p' s' (hf a M Γ Q E p' s' z.1)
theorem KeepD.load (a : Addr) : KeepD (PySem.load a) := fun M Γ Q E p s h => by
  simp only [PySem.load, wp] at h ⊢
  obtain ⟨o, ho, hq⟩ := h
  exact ⟨o, ho, hq, DK.refl _⟩
theorem KeepD.stack : KeepD PySem.stack := fun M Γ Q E p s h => by
  simp only [PySem.stack, wp] at h ⊢
  exact ⟨h, DK.refl _⟩
theorem KeepD.alloc (o : Obj) : KeepD (PySem.alloc o) := fun M Γ Q E p s h => by
  simp only [PySem.alloc, wp] at h ⊢
  exact ⟨h, DK.push _ _⟩
theorem KeepD.register (a : Addr) : KeepD (PySem.register a) := fun M Γ Q E p s h => by
  simp only [PySem.register, wp] at h
theorem mapFields_dict (o : Obj) (f : Array Value → Array Value) : (Obj.mapFields f o).dict = o.dict := by
  unfold Obj.mapFields
  split <;> rfl
theorem mapFields_freed (o : Obj) (f : Array Value → Array Value) (h : o.isFreed = false) : (Obj.mapFields f o).isFreed = false := by
  unfold Obj.mapFields
  split
  · rfl
  · exact h
theorem KeepD.update {a : Addr} {f : Obj → Obj} (hf : ∀ o, o.isFreed = false → (f o).dict = o.dict ∧ (f o).isFreed = false) : KeepD (PySem.update a f) := fun M Γ Q E p s h => by
  simp only [PySem.update, wp] at h ⊢
  exact ⟨h.1, h.2, DK.update fun o e => hf o (Heap.get?_some_iff.mp e).2⟩
theorem keep_fieldsOf (v : Value) : KeepD (fieldsOf v) := by
  unfold fieldsOf
  split
  · refine KeepD.bind (KeepD.load _) fun o => ?_
    split
    · exact KeepD.pure _
    · exact KeepD.unsup _
  · exact KeepD.unsup _
theorem keep_field (v : Value) (i : Nat) : KeepD (field v i) := by
  unfold field
  refine KeepD.bind (keep_fieldsOf v) fun vs => ?_
  split
  · exact KeepD.pure _
  · exact KeepD.unsup _
theorem keep_setField (v : Value) (i : Nat) (x : Value) : KeepD (setField v i x) := by
  unfold setField
  split
  · unfold updateField
    refine KeepD.bind (KeepD.load _) fun o => ?_
    split
    · split
      · exact KeepD.update fun o h => ⟨mapFields_dict _ _, mapFields_freed _ _ h⟩
      · exact KeepD.unsup _
    · exact KeepD.unsup _
  · exact KeepD.unsup _
theorem keep_setFlight (e : Value) (f : Option Addr) : KeepD (setFlight e f) := by
  unfold setFlight
  refine KeepD.bind (keep_field _ _) fun tb => ?_
  split
  · exact keep_setField _ _ _
  · exact KeepD.pure _
theorem keep_entryPlaceOf (f : Addr) (b : Bool) : KeepD (entryPlaceOf f b) := by
  unfold entryPlaceOf
  refine KeepD.bind KeepD.stack fun acts => ?_
  split <;> exact KeepD.pure _
theorem keep_frameEnvs : KeepD frameEnvs := by
  unfold frameEnvs
  exact KeepD.bind KeepD.stack fun acts => KeepD.pure _
theorem keep_under : KeepD underTheClaimsCaller := by
  unfold underTheClaimsCaller
  exact KeepD.bind KeepD.stack fun acts => KeepD.pure _
theorem keep_behind (env : Env) (outer : List Env) : KeepD (behindIsImport env outer) := by
  unfold behindIsImport
  repeat' (first | exact KeepD.pure _ | exact keep_field _ _ | split | (refine KeepD.bind ?_ fun _ => ?_))
theorem keep_back (env : Env) (b : Bool) (outer : List Env) : KeepD (keptBack env b outer) := by
  cases outer with
  | nil =>
    unfold keptBack
    show KeepD (if _ then _ else _)
    split
    · exact KeepD.pure _
    · exact KeepD.bind keep_under fun _ => KeepD.pure _
  | cons x r => exact KeepD.pure _
theorem keep_ready : ∀ l : List Env, KeepD (readyFrames l)
  | [] => KeepD.pure _
  | env :: outer => by
    unfold readyFrames
    split
    · refine KeepD.bind (KeepD.load _) fun o => ?_
      split
      · exact KeepD.pure _
      · refine KeepD.bind (keep_behind _ _) fun b => KeepD.bind (keep_back _ _ _) fun v => KeepD.bind (KeepD.update fun o h => ⟨rfl, ?_⟩) fun _ => keep_ready outer
        obtain ⟨_, _, dt, _⟩ := o
        cases dt <;> first | rfl | exact h
    · exact KeepD.unsup _
theorem keep_frameOf (env : Env) : KeepD (PySem.frameOf env) := by
  unfold PySem.frameOf
  refine KeepD.bind keep_frameEnvs fun l => KeepD.bind ?_ fun o => ?_
  · unfold frameObject
    split
    · exact KeepD.pure _
    · exact KeepD.bind (keep_ready _) fun _ => KeepD.pure _
  · split
    · exact KeepD.pure _
    · exact KeepD.unsup _
theorem keep_newFields (ty : String) (vs : List Value) : KeepD (newFields ty vs) := by
  unfold newFields newObj newObjAsIs
  repeat' (first | exact KeepD.pure _ | exact KeepD.unsup _ | exact KeepD.alloc _ | exact KeepD.load _ | exact KeepD.register _ | split | (refine KeepD.bind ?_ fun _ => ?_))
theorem keep_noteFrame (e : Value) (env : Env) : KeepD (noteFrame e env) := by
  unfold noteFrame EntryCells.newEntry
  repeat' (first | exact KeepD.pure _ | exact KeepD.unsup _ | exact keep_field _ _ | exact keep_setField _ _ _ | exact keep_frameOf _ | exact keep_entryPlaceOf _ _ | exact keep_newFields _ _ | split | (refine KeepD.bind ?_ fun _ => ?_))
theorem keep_leaving (env : Env) (e : Value) : KeepD (leaving env e) := by
  unfold leaving
  exact KeepD.bind (keep_noteFrame _ _) fun _ => keep_setFlight _ _
theorem KeepD.any {α : Type} {t : Sem α} (k : KeepD t) {M : Model} {A : Around} {s : Shared} {Q : α → Shared → Prop} {E : Value → Shared → Prop} (h : wpAny M A t Q E s) :
    wpAny M A t (fun a s' => Q a s' ∧ DK s.heap s'.heap) (fun e s' => E e s' ∧ DK s.heap s'.heap) s := fun Γ p hΓ => k M Γ _ _ p s (h Γ p hΓ)
end KeepsDict
-- PART X2
section ExcMake
open PySem.Sem (wp)
variable {prog : Program} {w : World} {A : Around} {R : Result → Shared → Prop} {h : Heap} {g : Array GenState} {d : Drawn} {t : Nat} {os : OsState}
variable {nm q : Str} {C N : Addr} {bs bm bmB : List Value} {hdct : Bool} {sn : List Str} {sub : List Value} {ab : Bool} {col : Option Bool} {dd : Option Addr} {k0 k1 k2 k3 k5 : Option Value} {B newId initId : String}
theorem x_check_new (F : ExcBaseFacts B newId initId bmB) (hB : bm.contains (.type B) = true) {M : Model} {E : Value → Shared → Prop} {rest : List Value} {Q : Unit → Shared → Prop} (hC : h.get? C = some (excClassObj nm q C N bs bm hdct sn sub ab col dd k0 k1 k2 k3 k5 newId))
    (hq : Q () ⟨h, g, d, t, os⟩) : wpAny M A (checkBuiltinCall newId ⟨.ref C :: rest, []⟩) Q E ⟨h, g, d, t, os⟩ := by
  have hcont : (Value.ref C :: bm).contains (.type B) = true := by rw [List.contains_cons, hB, Bool.or_true]
  have hstar := F.noStar
  simp only [checkBuiltinCall, F.newKind, F.newSplit, F.newRow]
  repeat (first | refine wpAny_loadPart_at hC ?_ | (refine wpAny_isSubtype_exc hC ?_; rw [hcont]) | refine wpAny_staticBase_exc hC ?_ | refine wpAny_madeBy_exc hC ?_ | simp only [bne_self_eq_false, Bool.false_eq_true, if_false] | wp_step)
  exact hq
theorem x_new (F : ExcBaseFacts B newId initId bmB) (hB : bm.contains (.type B) = true) (hA : bm.contains (.type "AttributeError") = false) (hN : bm.contains (.type "NameError") = false) {rest : List Value}
    (hC : h.get? C = some (excClassObj nm q C N bs bm hdct sn sub ab col dd k0 k1 k2 k3 k5 newId))
    (hq : R (.ok (.ret (.ref (h.objs.size + 1)))) ⟨(h.push { cls := .type "tuple", data := .seq rest.toArray }).push
      { cls := .ref C, data := .fields #[.ref h.objs.size, .none, .none, .none, .bool false, .none] }, g, d, t, os⟩) (hrest : rest.length ≤ sizeLine) :
    codeAny (model prog w) A (.builtin newId ⟨.ref C :: rest, []⟩) R ⟨h, g, d, t, os⟩ := by
  have hends := F.ends
  have hcB : (Value.ref C :: bm).contains (.type B) = true := by rw [List.contains_cons, hB, Bool.or_true]
  have hcA : (Value.ref C :: bm).contains (.type "AttributeError") = false := by rw [List.contains_cons, hA]; rfl
  have hcN : (Value.ref C :: bm).contains (.type "NameError") = false := by rw [List.contains_cons, hN]; rfl
  refine codeAny_builtinAt F.entry ?_
  unfold Builtin.«BaseException.__new__»
  refine PySem.wpAt_bind ?_
  show PySem.wpAt _ _ _ (stack >>= _) _ _ _
  refine PySem.wpAt_bind (PySem.wpAt_stack fun p below => PySem.wpAt_of_wpAny ?_)
  wp_walk
  refine PySem.wpAt_of_wpAny ?_
  rw [F.owner]
  repeat (first | with_reducible refine wpAny_madeHere_exc F.canon hC ?_ | with_reducible refine wpAny_loadPart_at hC ?_ | (with_reducible refine wpAny_isSubtype_exc hC ?_; first | rw [hcB] | rw [hcA] | rw [hcN]) | wp_step)
  show R _ _
  rw [Heap.size_push]
  exact hq
/-- what stands when the class's own __init__ is called -/
def xHeap (h : Heap) (C : Addr) (rest : List Value) : Heap := (h.push { cls := .type "tuple", data := .seq rest.toArray }).push { cls := .ref C, data := .fields #[.ref h.objs.size, .none, .none, .none, .bool false, .none] }
theorem x_type_call {fI : Addr} (F : ExcBaseFacts B newId initId bmB) (hB : bm.contains (.type B) = true) (hA : bm.contains (.type "AttributeError") = false) (hN : bm.contains (.type "NameError") = false) {rest : List Value} {E : Value → Shared → Prop} {Q : Fin → Shared → Prop}
    (hC : h.get? C = some (excClassObj nm q C N bs bm hdct sn sub ab col dd k0 k1 k2 k3 k5 newId))
    (hi : Looks (model prog w) (xHeap h C rest) (typeLookup (.ref C) "__init__") (some (.ref fI))) (hb : ∀ self, Looks (model prog w) (xHeap h C rest) (bindSpecial (.ref fI) self) (.ref fI, [self]))
    (hq : codeAny (model prog w) A (.call (.ref fI) ⟨.ref (h.objs.size + 1) :: rest, []⟩) (InitBack (h.objs.size + 1) fun r s' => match r with | .ok (.ret v) => Q (.done (.ret v)) s' | .ok _ => False | .error e => E e s') ⟨xHeap h C rest, g, d, t, os⟩)
    (hrest : rest.length ≤ sizeLine) :
    wpAny (model prog w) A (Builtin.«type.__call__» ⟨.ref C :: rest, []⟩) Q E ⟨h, g, d, t, os⟩ := by
  repeat (first | with_reducible refine wpAny_loadPart_at hC ?_ | with_reducible refine wpAny_madeBy_exc hC ?_ | wp_step)
  refine codeAny_call_builtin_code (Code.quiet_builtin _ F.quiet) (x_check_new F hB hC ?_)
  refine x_new F hB hA hN hC ?_ hrest
  show wpAny _ _ _ _ _ ⟨xHeap h C rest, g, d, t, os⟩
  have hC₁ : (xHeap h C rest).get? C = some (excClassObj nm q C N bs bm hdct sn sub ab col dd k0 k1 k2 k3 k5 newId) := Heap.get?_push_of_some _ (Heap.get?_push_of_some _ hC)
  have hget : (xHeap h C rest).get? (h.objs.size + 1) = some
      { cls := .ref C, data := .fields #[.ref h.objs.size, .none, .none, .none, .bool false, .none] } := by unfold xHeap; heap_get
  have hcC : (Value.ref C :: bm).contains (.ref C) = true := by simp
  have t1 : Looks (model prog w) (xHeap h C rest) (typeOf (.ref (h.objs.size + 1))) (.ref C) := (Looks.ld hget).andThen .now
  unfold isInstance
  repeat (first | with_reducible refine wpAny_loadPart_at hget ?_ | (with_reducible refine wpAny_isSubtype_exc hC₁ ?_; rw [hcC]) | wp_step)
  refine hi.here ?_
  dsimp only
  refine wpAny_holding (wpAny_bind ((hb _).here ?_))
  dsimp only
  refine wpAny_bind (wpAny_call ?_)
  refine codeAny_mono hq fun r s' z => ?_
  rcases r with e | (v | _ | _ | _) <;> first | exact z | exact z.elim | skip
  obtain ⟨rfl, z⟩ := z
  repeat wp_step
  exact z
theorem x_call {fI : Addr} (F : ExcBaseFacts B newId initId bmB) (hB : bm.contains (.type B) = true) (hA : bm.contains (.type "AttributeError") = false) (hN : bm.contains (.type "NameError") = false) {rest : List Value} {E : Value → Shared → Prop} {Q : Value → Shared → Prop}
    (hC : h.get? C = some (excClassObj nm q C N bs bm hdct sn sub ab col dd k0 k1 k2 k3 k5 newId))
    (hi : Looks (model prog w) (xHeap h C rest) (typeLookup (.ref C) "__init__") (some (.ref fI))) (hb : ∀ self, Looks (model prog w) (xHeap h C rest) (bindSpecial (.ref fI) self) (.ref fI, [self]))
    (hq : codeAny (model prog w) (A.under (.builtin "type.__call__" ⟨.ref C :: rest, []⟩)) (.call (.ref fI) ⟨.ref (h.objs.size + 1) :: rest, []⟩) (InitBack (h.objs.size + 1) fun r s' => match r with | .ok (.ret v) => Q v s' | .ok _ => False | .error e => E e s') ⟨xHeap h C rest, g, d, t, os⟩)
    (hrest : rest.length ≤ sizeLine) :
    wpAny (model prog w) A (call (.ref C) rest) Q E ⟨h, g, d, t, os⟩ := by
  have f1 := tc_lookup
  have f2 := tc_bind (.ref C)
  have hT : (⟨h, g, d, t, os⟩ : Shared).TypeIs (.ref C) "type" := ⟨_, hC, rfl⟩
  refine wpAny_call (codeAny_of_tree ?_)
  show wpAny _ _ (callAny (.ref C) _) _ _ _
  repeat (any_goals (first | assumption | with_reducible refine wpAny_loadPart_at hC ?_ | wp_step))
  refine ⟨rfl, ?_⟩
  refine codeAny_call_builtin_at (Code.quiet_builtin _ (by decide +kernel)) entry_typeCall (wpAny_check_type_call_sub hC (x_type_call F hB hA hN hC hi hb ?_ hrest))
  exact hq
end ExcMake
-- PART X3
section ExcStore
open PySem.Sem (wp)
open PySem.Builtin PySem.Builtin.ObjectAttr
variable {prog : Program} {w : World} {A : Around} {E : Value → Shared → Prop} {h : Heap} {g : Array GenState} {d : Drawn} {t : Nat} {os : OsState}
variable {nm q : Str} {C N x : Addr} {bs bm bmB : List Value} {sn : List Str} {sub : List Value} {ab : Bool} {col : Option Bool} {dd : Option Addr} {k0 k1 k2 k3 k5 : Option Value} {B newId sa owner : String}
  {mA : Str → Option Value} {name : Str} {v : Value} {K : Frag}
theorem x_check_sa {M : Model} {o : Obj} {nameV : Value} {Q : Unit → Shared → Prop} (SF : StoreFacts B bmB sa owner) (hO : bm.contains (.type owner) = true)
    (hC : h.get? C = some (excClassObj nm q C N bs bm true sn sub ab col dd k0 k1 k2 k3 k5 newId)) (hx : h.get? x = some o) (hc : o.cls = .ref C) (hq : Q () ⟨h, g, d, t, os⟩) :
    wpAny M A (checkBuiltinCall sa ⟨[.ref x, nameV, v], []⟩) Q E ⟨h, g, d, t, os⟩ := by
  have hcB : (Value.ref C :: bm).contains (.type owner) = true := by rw [List.contains_cons, hO, Bool.or_true]
  have ha := SF.args (.ref x) nameV v
  simp only [checkBuiltinCall, SF.kind, SF.split]
  refine wpAny_bind ?_
  · unfold isInstance
    repeat (first | (with_reducible refine wpAny_loadPart_at hx ?_; rw [hc]) | (with_reducible refine wpAny_isSubtype_exc hC ?_; rw [hcB]) | wp_step)
    cases hsig : Manifest.signature? sa with
    | none => exact wpAny_pure hq
    | some sig =>
      simp only [argsOk, hsig] at ha
      have h2 : Bind.checkArgs sa sig ⟨[.ref x, nameV, v], []⟩ = pure () := ha
      show wpAny M A (Bind.checkArgs sa sig ⟨[.ref x, nameV, v], []⟩) Q E _
      rw [h2]; exact wpAny_pure hq
/-- how a store into an object leaves the heap -/
def XKept (h h' : Heap) (x : Addr) : Prop :=
  (∀ b o, b ≠ x → (∀ o₀ dx, h.get? x = some o₀ → o₀.dict = some dx → b ≠ dx) → h.get? b = some o → h'.get? b = some o) ∧
  (∀ o₀, h.get? x = some o₀ → ∃ o₁, h'.get? x = some o₁ ∧ o₁.cls = o₀.cls ∧ o₁.data = o₀.data ∧ o₁.slots = o₀.slots ∧ ∀ dx, o₀.dict = some dx → o₁.dict = some dx) ∧
  (∀ o₀ o₁ dx, h.get? x = some o₀ → o₀.dict = none → h'.get? x = some o₁ → o₁.dict = some dx → h.get? dx = none)
theorem x_store_entry {tk : Tok} {Q : Fin → Shared → Prop} {ns : List Str} (hpass : refuseLoop (.ref x) "__setattr__" (.ref C :: bm) = pure ())
    (hC : h.get? C = some (excClassObj nm q C N bs bm true sn sub ab col dd k0 k1 k2 k3 k5 newId)) (hl : Looks (model prog w) h (typeLookup (.ref C) name) none) (I : h.Inst x C mA)
    (hq : ∀ h' tk', h'.Inst x C (fun y => if y = name then some v else mA y) → XKept h h' x → Q (.done (.ret .none)) ⟨h', g, d, tk', os⟩) (hw : Within mA ns) (hsz : ns.length ≤ 100) :
    wpAny (model prog w) A (Builtin.«object.__setattr__» ⟨[.ref x, .str name tk, v], []⟩) Q E ⟨h, g, d, t, os⟩ := by
  have hsz : ns.length + 2 ≤ sizeLine := by rw [sizeLine_eq]; omega
  obtain ⟨o, hx, hc, hnc, hd⟩ := I
  unfold Builtin.«object.__setattr__»
  repeat (first | rw [refuse_eq] | (rw [hpass]) | (with_reducible refine wpAny_loadPart_at hx ?_; rw [hc]) | with_reducible refine wpAny_mroOf_exc hC ?_ | (with_reducible refine hl.here ?_) | wp_step)
  rcases hd with ⟨hdn, hmA⟩ | ⟨dx, hdx, hne, hns⟩
  ·
    rw [hdn, if_neg (by simp [typeHasDict])]
    split
    · rename_i hcd
      cases hcd
    split
    · rename_i c hcd
      exact absurd hcd (hnc c)
    · have hx₁ : (h.push { cls := .type "dict", data := .dict #[] }).get? x = some o := Heap.get?_push_of_some _ hx
      have hxs : x ≠ h.objs.size := Nat.ne_of_lt (Heap.lt_size hx)
      refine wpAny_bind (wpAny_alloc' ?_)
      refine wpAny_bind (wpAny_update' hx₁ ?_)
      refine wpAny_pure ?_
      have hgd : ((h.push { cls := .type "dict", data := .dict #[] }).update x fun o => { cls := o.cls, dict := some h.objs.size, data := o.data, slots := o.slots }).get? h.objs.size
          = some { cls := .type "dict", data := .dict #[] } :=
        (Heap.get?_update_ne _ _ _ _ hxs.symm).trans (Heap.get?_push_at rfl rfl)
      have hnd : ((h.push { cls := .type "dict", data := .dict #[] }).update x fun o => { cls := o.cls, dict := some h.objs.size, data := o.data, slots := o.slots }).Ns h.objs.size (fun _ => none) :=
        ⟨_, #[], _, hgd, rfl, fun e he => absurd he (by simp), fun _ => rfl⟩
      show wpAny _ _ (storeInDict h.objs.size (.str name tk) name v) _ _ _
      unfold storeInDict newKeyGuard
      refine wpAny_bind (wpAny_pure (wpAny_bind (wpAny_nsSet1 (Heap.Ns1.of_empty hnd) fun h' hn' hs => ?_)))
      obtain ⟨oD, esD, epD, hoD, hdD, hcD⟩ := hn'.count (Within.cons name v Within.nil)
      refine wpAny_bind (wpAny_lookBehind hoD (by rw [hdD]; exact pastItsLine_dict (Nat.le_trans hcD (by rw [List.length_cons, List.length_nil, sizeLine_eq]; omega))) ?_)
      wp_walk
      have hx' : h'.get? x = some { cls := o.cls, dict := some h.objs.size, data := o.data, slots := o.slots } := ?_
      refine hq h' _ ⟨{ cls := o.cls, dict := some h.objs.size, data := o.data, slots := o.slots }, hx', hc, hnc, .inr ⟨h.objs.size, rfl, hxs.symm, ?_⟩⟩ ⟨fun b ob hbx _ hb => ?_,
        fun o₀ h₀ => by obtain rfl : o = o₀ := Option.some.inj (hx.symm.trans h₀); exact ⟨_, hx', rfl, rfl, rfl, fun dx e => by rw [hdn] at e; cases e⟩,
        fun o₀ o₁ dx _ _ h₁ e => by rw [hx'] at h₁; cases h₁; cases e; exact Heap.get?_none_of_le (Nat.le_refl _)⟩
      · obtain ⟨o', es, ep, e1, e2, e3, eu, e4⟩ := hn'
        exact ⟨o', es, ep, e1, e2, e3, eu, fun y => by rw [e4 y]; by_cases hy : y = name <;> simp [hy, hmA]⟩
      · exact (hs.2 b (Nat.ne_of_lt (Heap.lt_size hb))).trans ((Heap.get?_update_ne _ _ _ _ hbx).trans (Heap.get?_push_of_some _ hb))
      · refine (hs.2 x hxs).trans (Heap.get?_update_self _ hx₁ ?_)
        have hfr := (Heap.get?_some_iff.mp hx).2
        obtain ⟨oc, od, odt, osl⟩ := o
        cases odt <;> first | rfl | exact hfr
  ·
    rw [hdx]
    refine wpAny_pure ?_
    show wpAny _ _ (storeInDict dx (.str name tk) name v) _ _ _
    unfold storeInDict newKeyGuard
    refine wpAny_bind (wpAny_pure (wpAny_bind (wpAny_nsSet1 hns fun h' hn' hs => ?_)))
    obtain ⟨oD, esD, epD, hoD, hdD, hcD⟩ := hn'.count (Within.cons name v hw)
    refine wpAny_bind (wpAny_lookBehind hoD (by rw [hdD]; exact pastItsLine_dict (Nat.le_trans hcD (by rw [List.length_cons]; omega))) ?_)
    wp_walk
    refine hq h' _ ⟨o, (hs.2 x hne.symm).trans hx, hc, hnc, .inr ⟨dx, hdx, hne, hn'⟩⟩ ⟨fun b ob _ hbd hb => ?_,
      fun o₀ h₀ => ⟨o₀, (hs.2 x hne.symm).trans h₀, rfl, rfl, rfl, fun _ e => e⟩, fun o₀ o₁ d' h₀ hn _ _ => by rw [hx] at h₀; cases h₀; rw [hdx] at hn; cases hn⟩
    exact (hs.2 b (hbd o dx hx hdx)).trans hb
theorem x_store {Q : Unit → Shared → Prop} {ns : List Str} (SF : StoreFacts B bmB sa owner) (hO : bm.contains (.type owner) = true) (hpass : refuseLoop (.ref x) "__setattr__" (.ref C :: bm) = pure ())
    (hC : h.get? C = some (excClassObj nm q C N bs bm true sn sub ab col dd k0 k1 k2 k3 k5 newId)) (hs : Looks (model prog w) h (typeLookup (.ref C) "__setattr__") (some (.builtin sa))) (hl : Looks (model prog w) h (typeLookup (.ref C) name) none) (I : h.Inst x C mA)
    (hq : ∀ h' tk', h'.Inst x C (fun y => if y = name then some v else mA y) → XKept h h' x → Q () ⟨h', g, d, tk', os⟩) (hw : Within mA ns) (hsz : ns.length ≤ 100) :
    wpAny (model prog w) A (setAttr (.ref x) name v) Q E ⟨h, g, d, t, os⟩ := by
  obtain ⟨o, hx, hc, _⟩ := id I
  have f3 := SF.slot.bind (.ref x)
  unfold setAttr callSpecial? specialOf
  repeat (any_goals (first | assumption | (with_reducible refine wpAny_loadPart_at hx ?_; rw [hc]) | (with_reducible refine hs.here ?_) | wp_step))
  refine codeAny_call_builtin SF.slot.plain SF.entry (x_check_sa SF hO hC hx hc (x_store_entry hpass hC hl I (fun h' tk' I' hk => ?_) hw hsz))
  repeat (any_goals (first | assumption | wp_step))
  exact hq h' tk' I' hk
theorem x_pass (self : Value) : refuseLoop self "__setattr__" [.ref 61, .ref 48, .type "Exception", .type "BaseException", .type "object"] = pure () := by
  rw [refuseLoop_ref, refuseLoop_ref]
  exact PySem.F.store_Exception.passes self
end ExcStore
-- PART X4
section ExcLoad
open PySem.Sem (wp)
open PySem.Builtin PySem.Builtin.ObjectAttr
variable {prog : Program} {w : World} {A : Around} {E : Value → Shared → Prop} {h : Heap} {g : Array GenState} {d : Drawn} {t : Nat} {os : OsState}
variable {nm q : Str} {C N x : Addr} {bs bm : List Value} {sn : List Str} {sub : List Value} {ab : Bool} {col : Option Bool} {dd : Option Addr} {k0 k1 k2 k3 k5 : Option Value} {newId : String}
  {mA : Str → Option Value} {name : Str} {v : Value}
theorem x_check_ga {M : Model} {o : Obj} {nameV : Value} {Q : Unit → Shared → Prop} (hbase : bm.contains (.type "BaseException") = true) (hC : h.get? C = some (excClassObj nm q C N bs bm true sn sub ab col dd k0 k1 k2 k3 k5 newId))
    (hx : h.get? x = some o) (hc : o.cls = .ref C) (hq : Q () ⟨h, g, d, t, os⟩) : wpAny M A (checkBuiltinCall "BaseException.__getattribute__" ⟨[.ref x, nameV], []⟩) Q E ⟨h, g, d, t, os⟩ := by
  have hk : builtinKind "BaseException.__getattribute__" = some .slot := by decide +kernel
  have hsplit : splitId "BaseException.__getattribute__" = some ("BaseException", "__getattribute__") := by decide +kernel
  have hcB : (Value.ref C :: bm).contains (.type "BaseException") = true := by rw [List.contains_cons, hbase]; rfl
  have ha := PySem.F.args_bexc_ga (.ref x) nameV
  simp only [checkBuiltinCall, hk, hsplit]
  refine wpAny_bind ?_
  · unfold isInstance
    repeat (first | (with_reducible refine wpAny_loadPart_at hx ?_; rw [hc]) | (with_reducible refine wpAny_isSubtype_exc hC ?_; rw [hcB]) | wp_step)
    exact hq
theorem x_load_entry {tk : Tok} {Q : Fin → Shared → Prop}
    (hC : h.get? C = some (excClassObj nm q C N bs bm true sn sub ab col dd k0 k1 k2 k3 k5 newId)) (hl : Looks (model prog w) h (typeLookup (.ref C) name) none)
    (I : h.Inst x C mA) (hv : mA name = some v) (hq : Q (.done (.ret v)) ⟨h, g, d, t, os⟩) :
    wpAny (model prog w) A (Builtin.«object.__getattribute__» ⟨[.ref x, .str name tk], []⟩) Q E ⟨h, g, d, t, os⟩ := by
  obtain ⟨o, hx, hc, hnc, hd⟩ := I
  rcases hd with ⟨_, hmA⟩ | ⟨dx, hdx, hne, hns⟩
  · rw [hmA name] at hv; cases hv
  repeat (any_goals (first | assumption | (with_reducible refine wpAny_loadPart_at hx ?_; rw [hc]) | (with_reducible refine hl.here ?_) | wp_step))
  split
  · rename_i c hcd
    exact absurd hcd (hnc c)
  unfold instanceDict
  repeat (first | (with_reducible refine wpAny_loadPart_at hx ?_; rw [hc]) | with_reducible refine wpAny_loadPart_at hC ?_ | wp_step)
  rw [hdx]
  repeat (first | (with_reducible refine wpAny_nsGet hns.ns ?_; rw [hv]) | wp_step)
  exact hq
theorem x_load {expr : Bool} {Q : Value → Shared → Prop} (G : Slot "Exception" "__getattribute__" "BaseException.__getattribute__") (hbase : bm.contains (.type "BaseException") = true)
    (hC : h.get? C = some (excClassObj nm q C N bs bm true sn sub ab col dd k0 k1 k2 k3 k5 newId)) (hs : Looks (model prog w) h (typeLookup (.ref C) "__getattribute__") (some (.builtin "BaseException.__getattribute__")))
    (hg : Looks (model prog w) h (typeLookup (.ref C) "__getattr__") none)
    (hl : Looks (model prog w) h (typeLookup (.ref C) name) none) (I : h.Inst x C mA) (hv : mA name = some v) (hh : handedOut v = pure v) (hq : Q v ⟨h, g, d, t + 1, os⟩) :
    wpAny (model prog w) A (getAttr (.ref x) name expr) Q E ⟨h, g, d, t, os⟩ := by
  obtain ⟨o, hx, hc, _⟩ := id I
  have f3 := G.bind (.ref x)
  have hx0 : (expr && onTheHeap (Value.builtin "BaseException.__getattribute__")) = false := by cases expr <;> rfl
  have hx2 : (Value.builtin "BaseException.__getattribute__" == Value.builtin "object.__getattribute__") = false := by decide +kernel
  have hx1 : (onTheHeap (Value.ref C) && Value.builtin "BaseException.__getattribute__" == Value.builtin "object.__getattribute__") = false := by rw [hx2]; rfl
  unfold getAttr getAttrBy
  repeat (any_goals (first | assumption | (with_reducible refine wpAny_loadPart_at hx ?_; rw [hc]) | (with_reducible refine hs.here ?_) | (with_reducible refine hg.here ?_) | wp_step))
  refine codeAny_call_builtin G.plain PySem.F.entry_bexc_ga (x_check_ga hbase hC hx hc (x_load_entry hC hl I hv ?_))
  show wpAny _ _ (handedOut v) _ _ _
  rw [hh]
  exact wpAny_pure hq
end ExcLoad
-- PART X5
section ExcSuper
open PySem.Sem (wp)
open PySem.Builtin PySem.Builtin.ObjectAttr
variable {nm q : Str} {N : Addr} {bs bm : List Value} {sn : List Str} {sub : List Value} {ab : Bool} {col : Option Bool} {dd : Option Addr} {k0 k1 k2 k3 k5 : Option Value} {newId : String}
variable {prog : Program} {w : World} {M : Model} {A : Around} {E : Value → Shared → Prop} {h : Heap} {g : Array GenState} {d : Drawn} {t : Nat} {os : OsState}
theorem x_slot_get : Slot "wrapper_descriptor" "__get__" "wrapper_descriptor.__get__" :=
  .of (owner := "wrapper_descriptor") (n := "__get__") (by rw [typeLookup_type, builtinLookup_eq_fast]; kernel_rfl) (by decide +kernel) (by decide +kernel) (by decide +kernel) (.inl (by decide +kernel)) (by rw [isSubtype_type]; kernel_rfl)
theorem x_entry_get : entryFor table "wrapper_descriptor.__get__" = some Builtin.«wrapper_descriptor.__get__» := entryFor_of_tree (by kernel_rfl)
theorem x_args_get (a b c : Value) : argsOk "wrapper_descriptor.__get__" ⟨[a, b, c], []⟩ := by unfold argsOk; kernel_rfl
theorem x_type_init : typeOf (.builtin "Exception.__init__") = pure (.type "wrapper_descriptor") := by
  show builtinType "Exception.__init__" = _
  rw [builtinType_eq_fast]; kernel_rfl
theorem x_owner : (".".intercalate ("Exception.__init__".cutAt '.').dropLast) = "Exception" := by decide +kernel
theorem x_super_ga {so D x C : Addr} {l₀ l : List Value} {K : Frag} {name : Str} {tk : Tok} {Q : Fin → Shared → Prop}
    (hso : h.get? so = some { cls := .type "super", dict := none, data := .fields #[.ref D, .ref x, .ref C], slots := #[] }) (hno : Looks (model prog w) h (opaqueClassAbove (.ref C)) none)
    (hC : Looks (model prog w) h (mroOf (.ref C)) l₀) (hl : (l₀.dropWhile (· != .ref D)).drop 1 = l) (X : K.In h)
    (hf : alongIn K name l = some (some (.builtin "Exception.__init__"))) (hCC : h.get? C = some (excClassObj nm q C N bs bm true sn sub ab col dd k0 k1 k2 k3 k5 newId)) (hB : bm.contains (.type "Exception") = true) {ox : Obj} (hx : h.get? x = some ox) (hc : ox.cls = .ref C) (hxC : x ≠ C) (hn : (name == ("__class__" : Str)) = false)
    (hq : Q (.done (.ret (.ref h.objs.size))) ⟨h.push { cls := .type "method-wrapper", data := .fields #[.builtin "Exception.__init__", .ref x] }, g, d, t, os⟩) :
    wpAny (model prog w) A (Builtin.«super.__getattribute__» ⟨[.ref so, .str name tk], []⟩) Q E ⟨h, g, d, t, os⟩ := by
  have hlk := x_slot_get.lookup
  have hcB : (Value.ref C :: bm).contains (.type "Exception") = true := by rw [List.contains_cons, hB, Bool.or_true]
  have hne : (Value.ref x == Value.ref C) = false := by simp [hxC]
  have hTf : (⟨h, g, d, t, os⟩ : Shared).TypeIs (.builtin "Exception.__init__") "wrapper_descriptor" := x_type_init
  have hdt : ({ cls := .type "super", dict := none, data := .fields #[.ref D, .ref x, .ref C], slots := #[] } : Obj).data = .fields #[.ref D, .ref x, .ref C] := rfl
  have f0 : (#[.ref D, .ref x, .ref C] : Array Value)[0]? = some (.ref D) := rfl
  have f1 : (#[.ref D, .ref x, .ref C] : Array Value)[1]? = some (.ref x) := rfl
  have f2 : (#[.ref D, .ref x, .ref C] : Array Value)[2]? = some (.ref C) := rfl
  unfold Builtin.«super.__getattribute__»
  repeat (first
    | (with_reducible refine wpAny_field hso hdt f0 ?_) | (with_reducible refine wpAny_field hso hdt f1 ?_) | (with_reducible refine wpAny_field hso hdt f2 ?_)
    | (with_reducible refine ks_wpAny_notOpaque hno ?_)
    | (with_reducible refine Looks.at hC ?_; rw [hl])
    | (refine ks_forIn_along X (fun _ _ => rfl) rfl ?_ hf)
    | (with_reducible refine wpAny_typeOf hTf ?_)
    | (with_reducible refine wpAny_call_entry x_slot_get hTf x_entry_get ?_ (x_args_get _ _ _))
    | (with_reducible refine ⟨_, rfl, ?_⟩)
    | (simp only [hn, hne, Bool.or_false, Bool.false_eq_true, if_false])
    | (with_reducible refine wpAny_loadPart_at hx ?_; rw [hc]) | (with_reducible refine wpAny_isSubtype_exc hCC ?_; rw [x_owner, hcB])
    | wp_step
    | dsimp only)
  all_goals exact hq
end ExcSuper
-- PART X6
section ExcSuper2
open PySem.Sem (wp)
open PySem.Builtin PySem.Builtin.ObjectAttr
variable {nm q : Str} {N : Addr} {bs bm bmB : List Value} {sn : List Str} {sub : List Value} {ab : Bool} {col : Option Bool} {dd : Option Addr} {k0 k1 k2 k3 k5 : Option Value} {newId nid : String}
variable {prog : Program} {w : World} {M : Model} {A : Around} {E : Value → Shared → Prop} {h : Heap} {g : Array GenState} {d : Drawn} {t : Nat} {os : OsState}
abbrev mwObj (x : Addr) : Obj := { cls := .type "method-wrapper", data := .fields #[.builtin "Exception.__init__", .ref x] }
theorem x_getMethod {so D x C : Addr} {l₀ l : List Value} {K : Frag} {name : Str} {pl : Sem Bool} {Q : Value × List Value → Shared → Prop}
    (hso : h.get? so = some { cls := .type "super", dict := none, data := .fields #[.ref D, .ref x, .ref C], slots := #[] }) (hno : Looks (model prog w) h (opaqueClassAbove (.ref C)) none)
    (hC : Looks (model prog w) h (mroOf (.ref C)) l₀) (hl : (l₀.dropWhile (· != .ref D)).drop 1 = l) (X : K.In h)
    (hf : alongIn K name l = some (some (.builtin "Exception.__init__"))) (hCC : h.get? C = some (excClassObj nm q C N bs bm true sn sub ab col dd k0 k1 k2 k3 k5 newId)) (hB : bm.contains (.type "Exception") = true) {ox : Obj} (hx : h.get? x = some ox) (hc : ox.cls = .ref C)
    (hxC : x ≠ C) (hn : (name == ("__class__" : Str)) = false)
    (hq : Q (.ref h.objs.size, []) ⟨h.push (mwObj x), g, d, t + 1, os⟩) :
    wpAny (model prog w) A (getMethod (.ref so) name pl) Q E ⟨h, g, d, t, os⟩ := by
  have hlk := PySem.F.ks_slot_super_ga.lookup
  have hcan := PySem.F.ks_canon_super_ga
  have hT : ∀ t', (⟨h, g, d, t', os⟩ : Shared).TypeIs (.ref so) "super" := fun _ => ⟨_, hso, rfl⟩
  unfold getMethod
  refine wpAny_bind (wpAny_specialOf (hT _) hlk ?_)
  show wpAny _ _ (if (Manifest.canonical "super.__getattribute__" != "object.__getattribute__") = true then _ else _) _ _ _
  rw [if_pos hcan]
  unfold getAttr getAttrBy
  refine wpAny_bind (wpAny_bind (wpAny_mkText (wpAny_holding (wpAny_bind (wpAny_typeOf (hT _) (wpAny_bind (wpAny_of_eq hlk ?_)))))))
  show wpAny _ _ (getAttrByItsOwn (.ref so) (.str name t) (.type "super") (.builtin "super.__getattribute__") true false) _ _ _
  unfold getAttrByItsOwn hookBefore callGetattribute boundAndCalled
  refine wpAny_bind (wpAny_of_eq (show (if onTheHeap (.type "super") then typeLookup (.type "super") "__getattr__" else pure none) = pure none from rfl) ?_)
  refine wpAny_bind (wpAny_attempt (wpAny_holding ?_))
  show wpAny _ _ (bindSpecial (.builtin "super.__getattribute__") (.ref so) >>= _) _ _ _
  refine wpAny_bind (wpAny_of_eq (PySem.F.ks_slot_super_ga.bind _) ?_)
  refine wpAny_mono (Q := fun v s' => v = .ref h.objs.size ∧ s' = ⟨h.push (mwObj x), g, d, t + 1, os⟩) (E := fun _ _ => False)
    (wpAny_call_entry PySem.F.ks_slot_super_ga (hT _) PySem.F.ks_entry_super_ga (x_super_ga hso hno hC hl X hf hCC hB hx hc hxC hn ⟨_, rfl, rfl, rfl⟩) (PySem.F.ks_gaArgs_super _ _)) (fun v s' hv => ?_) fun _ _ z => z.elim
  obtain ⟨rfl, rfl⟩ := hv
  exact wpAny_pure (wpAny_pure hq)
theorem x_check_init {initId B : String} (F : ExcBaseFacts B nid initId bmB) {C e : Addr} {oe : Obj} {rest : List Value} {Q : Unit → Shared → Prop} (hB : bm.contains (.type B) = true)
    (hC : h.get? C = some (excClassObj nm q C N bs bm true sn sub ab col dd k0 k1 k2 k3 k5 newId)) (he : h.get? e = some oe) (hcls : oe.cls = .ref C) (hq : Q () ⟨h, g, d, t, os⟩) :
    wpAny M A (checkBuiltinCall initId ⟨.ref e :: rest, []⟩) Q E ⟨h, g, d, t, os⟩ := by
  have hcB : (Value.ref C :: bm).contains (.type B) = true := by rw [List.contains_cons, hB, Bool.or_true]
  have hshort := F.noStar
  simp only [checkBuiltinCall, F.initKind, F.initSplit, F.initRow]
  repeat (first | (with_reducible refine wpAny_loadPart_at he ?_; rw [hcls]) | with_reducible refine wpAny_loadPart_at hC ?_ | (with_reducible refine wpAny_isSubtype_exc hC ?_; rw [hcB]) | wp_step)
  refine wpAny_onRaise ?_
  rw [show ∀ (a b : String) (n : Nat), Bind.check ⟨.positional, "*", B, .self, [⟨"args", .varPos, false⟩]⟩ a b n (List.map (fun x => x.fst) ({ pos := Value.ref e :: rest } : Args).kw) = pure () from
    fun a b n => check_star_args _ _ _ _ _ _]
  exact wpAny_pure hq
theorem x_bound {x C : Addr} {v : Value} {ox : Obj} {Q : Unit → Shared → Prop} (hC : h.get? C = some (excClassObj nm q C N bs bm true sn sub ab col dd k0 k1 k2 k3 k5 newId)) (hx : h.get? x = some ox) (hc : ox.cls = .ref C) (hq : Q () ⟨h, g, d, t, os⟩) :
    wpAny M A (checkBoundCall "Exception.__init__" ⟨[.ref x, v], []⟩) Q E ⟨h, g, d, t, os⟩ := by
  have F := PySem.F.excBase_Exception
  have hshort := F.noStar
  simp only [checkBoundCall, F.initKind, F.initRow]
  rw [if_pos (by decide)]
  repeat (first | (with_reducible refine wpAny_loadPart_at hx ?_; rw [hc]) | with_reducible refine wpAny_loadPart_at hC ?_ | wp_step)
  exact hq
theorem x_mw_call {mw x C : Addr} {ox : Obj} {vs : Array Value} {v : Value} {Q : Value → Shared → Prop} (hmw : h.get? mw = some (mwObj x)) (hB : bm.contains (.type "Exception") = true)
    (hC : h.get? C = some (excClassObj nm q C N bs bm true sn sub ab col dd k0 k1 k2 k3 k5 newId)) (hx : h.get? x = some ox) (hc : ox.cls = .ref C) (hd : ox.data = .fields vs) {t0 : Addr} (h0 : vs[0]? = some (.ref t0))
    (hq : Q .none ⟨(h.push { cls := .type "tuple", data := .seq [v].toArray }).update x (Obj.mapFields (·.setIfInBounds 0 (.ref h.objs.size))), g, d, t, os⟩) :
    wpAny (model prog w) A (call (.ref mw) [v]) Q E ⟨h, g, d, t, os⟩ := by
  have F := PySem.F.excBase_Exception
  refine wpAny_call (codeAny_of_tree ?_)
  show wpAny _ _ (callAny (.ref mw) _) _ _ _
  unfold callAny
  refine wpAny_bind (wpAny_load hmw ?_)
  dsimp only
  rw [if_pos (by decide)]
  show wpAny _ _ (do checkBoundCall "Exception.__init__" ⟨[.ref x, v], []⟩; again (Code.builtin "Exception.__init__" ⟨[.ref x, v], []⟩)) _ _ _
  refine wpAny_bind (x_bound hC hx hc (wpAny_pure ?_))
  refine ⟨Code.quiet_builtin _ (by decide +kernel), codeAny_builtin F.initEntry ?_⟩
  have hx₁ := Heap.get?_push_of_some { cls := .type "tuple", data := .seq [v].toArray } hx
  unfold Builtin.«BaseException.__init__»
  have hz : 0 < vs.size := (Array.getElem?_eq_some_iff.mp h0).1
  repeat (first | exact hq | with_reducible refine wpAny_field hx₁ hd h0 ?_ | with_reducible refine wpAny_setField hx₁ hd hz ?_ | wp_step)
end ExcSuper2
-- PART X7
section ExcK
open PySem.Sem (wp)
abbrev bm61 : List Value := [.ref 48, .type "Exception", .type "BaseException", .type "object"]
abbrev P0 : Program := PySem.Challenge.rw_pb0150_01.row.prog
structure C61 (w : World) (h : Heap) : Prop where
  cls : ∃ nm q N bs sn sub ab col dd k0 k1 k2 k3 k5, h.get? 61 = some (excClassObj nm q 61 N bs bm61 true sn sub ab col dd k0 k1 k2 k3 k5 "Exception.__new__")
  init : Looks (model P0 w) h (typeLookup (.ref 61) "__init__") (some (.ref 38))
  seta : Looks (model P0 w) h (typeLookup (.ref 61) "__setattr__") (some (.builtin "object.__setattr__"))
  geta : Looks (model P0 w) h (typeLookup (.ref 61) "__getattribute__") (some (.builtin "BaseException.__getattribute__"))
  gett : Looks (model P0 w) h (typeLookup (.ref 61) "__getattr__") none
  what : Looks (model P0 w) h (typeLookup (.ref 61) "what") none
  at_ : Looks (model P0 w) h (typeLookup (.ref 61) "at") none
  bind : ∀ self, Looks (model P0 w) h (bindSpecial (.ref 38) self) (.ref 38, [self])
  opaq : Looks (model P0 w) h (opaqueClassAbove (.ref 61)) none
  mro : Looks (model P0 w) h (mroOf (.ref 61)) (.ref 61 :: bm61)
  along : alongIn (hd.heap_39 w.params) "__init__" [.type "Exception", .type "BaseException", .type "object"] = some (some (.builtin "Exception.__init__"))
set_option maxHeartbeats 8000000 in
theorem c61_of (w : World) (h : Heap) : (hd.heap_39 w.params).In h → C61 w h := by
  show (hd.heap_39 w.params).In h → (fun (_ : Program) => C61 w h) PySem.Challenge.rw_pb0150_01.row.prog
  k_with_none
  w_top off
  k_fill
  intro X
  have hc : ∃ nm q N bs sn sub ab col dd k0 k1 k2 k3 k5, h.get? 61 = some (excClassObj nm q 61 N bs bm61 true sn sub ab col dd k0 k1 k2 k3 k5 "Exception.__new__") :=
    ⟨_, _, _, _, _, _, _, _, _, _, _, _, _, _, X _ _ (by k_is)⟩
  refine ⟨hc, looks_findIn X (by k_is), looks_findIn X (by k_is), looks_findIn X (by k_is), looks_findIn X (by k_is), looks_findIn X (by k_is), looks_findIn X (by k_is), fun self => bind_fn X self (by k_is), looks_opaque X (by k_is), ?_, ?_⟩
  · obtain ⟨nm, q, N, bs, sn, sub, ab, col, dd, k0, k1, k2, k3, k5, hC⟩ := hc
    exact ((Looks.ld (part := none) hC).andThen .now).andThen .now
  · kernel_rfl
end ExcK
-- PART X8
section ExcFr
open PySem.Sem (wp)
def DH (o : Obj) (m : Str → Option Value) : Prop := ∃ es ep, o.data = .dict es ep ∧ StrKeys es ∧ UniqKeys es ∧ ∀ name, nsFind es name = m name
theorem DH.of {h : Heap} {a : Addr} {m : Str → Option Value} (x : h.Ns1 a m) : ∃ o, h.get? a = some o ∧ DH o m := let ⟨o, es, ep, e, d⟩ := x; ⟨o, e, es, ep, d⟩
theorem DH.ns1 {h : Heap} {a : Addr} {o : Obj} {m : Str → Option Value} (x : DH o m) (e : h.get? a = some o) : h.Ns1 a m := let ⟨es, ep, d⟩ := x; ⟨o, es, ep, e, d⟩
structure EO (eo : Obj) (dx : Option Addr) (vs : Array Value) : Prop where
  cls : eo.cls = .ref 61
  dict : eo.dict = dx
  data : eo.data = .fields vs
theorem EO.noCls {eo : Obj} {dx : Option Addr} {vs : Array Value} (x : EO eo dx vs) : ∀ c, eo.data ≠ .cls c := fun c e => by rw [x.data] at e; cases e
variable {w : World} {A : Around} {E : Value → Shared → Prop} {s : Shared} {h₀ h' : Heap} {L e dx : Addr} {m mA : Str → Option Value} {news : List (Addr × Obj)} {eo dO : Obj} {vs : Array Value} {name : Str} {v : Value}
theorem fr_but (F : Fr h₀ L s.heap m) (hx : h₀.get? e = none) (nl : e ≠ L) (hd : h₀.get? dx = none) (nd : dx ≠ L) (k : ∀ b o, b ≠ e → b ≠ dx → s.heap.get? b = some o → h'.get? b = some o) : Fr h₀ L h' m :=
  ⟨F.ns.at fun o z => k L o (Ne.symm nl) (Ne.symm nd) z, fun b o z => k b o (fun q => by rw [q, hx] at z; cases z) (fun q => by rw [q, hd] at z; cases z) (F.keep b o z), F.above⟩
theorem x_setK {Q : Unit → Shared → Prop} (X₀ : (hd.heap_39 w.params).In h₀) (F : Fr h₀ L s.heap m) (N : News h₀ L s.heap ((e, eo) :: news)) (O : EO eo none vs) (off : ∀ p ∈ news, p.1 ≠ e)
    (hl : Looks (model P0 w) s.heap (typeLookup (.ref 61) name) none)
    (hq : ∀ h' tk' eo' dx dO, Fr h₀ L h' m → News h₀ L h' ((e, eo') :: (dx, dO) :: news) → EO eo' (some dx) vs → DH dO (fun y => if y = name then some v else none) → dx ≠ e → (∀ p ∈ news, p.1 ≠ dx) → Q () { s with heap := h', toks := tk' }) :
    wpAny (model P0 w) A (setAttr (.ref e) name v) Q E s := by
  have c := c61_of w s.heap (X₀.keeps F.keep)
  obtain ⟨nm, q, Nn, bs, sn, sub, ab, col, dd, k0, k1, k2, k3, k5, hC⟩ := c.cls
  obtain ⟨he, hnl, hne⟩ := N (e, eo) (List.mem_cons_self ..)
  obtain ⟨h, g, d, t, os⟩ := s
  have I : h.Inst e 61 (fun _ => none) := ⟨eo, he, O.cls, O.noCls, .inl ⟨O.dict, fun _ => rfl⟩⟩
  refine x_store (ns := []) PySem.F.store_Exception (by decide) (x_pass _) hC c.seta hl I (fun h' tk' I' K' => ?_) Within.nil (by decide)
  obtain ⟨o₁, ho₁, hcls, hdata, hsl, _⟩ := K'.2.1 eo he
  obtain ⟨o, ho, oc, onc, od⟩ := I'
  obtain rfl : o₁ = o := Option.some.inj (ho₁.symm.trans ho)
  rcases od with ⟨_, z⟩ | ⟨dx, hdx, hdne, hns⟩
  · have := z name; simp at this
  obtain ⟨dO, hdO, DHo⟩ := DH.of hns
  have hdn : h.get? dx = none := K'.2.2 eo o₁ dx he O.dict ho₁ hdx
  have hd0 : h₀.get? dx = none := by
    cases q : h₀.get? dx with
    | none => rfl
    | some o => have := F.keep _ _ q; rw [hdn] at this; cases this
  have hdL : dx ≠ L := fun q => by
    obtain ⟨oL, _, _, hL, _⟩ := F.ns
    rw [← q, hdn] at hL; cases hL
  have hdp : ∀ p ∈ news, p.1 ≠ dx := fun p hp q => by
    have := (N p (List.mem_cons_of_mem _ hp)).1
    rw [q, hdn] at this; cases this
  have kp : ∀ b o, b ≠ e → b ≠ dx → h.get? b = some o → h'.get? b = some o := fun b o h1 _ z => K'.1 b o h1 (fun o₀ d' h0' hd' => by rw [he] at h0'; cases h0'; rw [O.dict] at hd'; cases hd') z
  have F' : Fr h₀ L h' m := fr_but (s := ⟨h, g, d, t, os⟩) F hne hnl hd0 hdL kp
  refine hq h' tk' o₁ dx dO F' (fun p hp => ?_) ⟨oc, hdx, hdata.trans O.data⟩ DHo hdne hdp
  rcases List.mem_cons.mp hp with rfl | hp
  · exact ⟨ho₁, hnl, hne⟩
  rcases List.mem_cons.mp hp with rfl | hp
  · exact ⟨hdO, hdL, hd0⟩
  · obtain ⟨z1, z2, z3⟩ := N p (List.mem_cons_of_mem _ hp)
    exact ⟨kp _ _ (off p hp) (hdp p hp) z1, z2, z3⟩
theorem x_setK2 {Q : Unit → Shared → Prop} {ns : List Str} (X₀ : (hd.heap_39 w.params).In h₀) (F : Fr h₀ L s.heap m) (N : News h₀ L s.heap ((e, eo) :: (dx, dO) :: news)) (O : EO eo (some dx) vs) (D : DH dO mA) (hde : dx ≠ e) (off : ∀ p ∈ news, p.1 ≠ e) (offd : ∀ p ∈ news, p.1 ≠ dx)
    (hl : Looks (model P0 w) s.heap (typeLookup (.ref 61) name) none) (hw : Within mA ns) (hsz : ns.length ≤ 100)
    (hq : ∀ h' tk' eo' dO', Fr h₀ L h' m → News h₀ L h' ((e, eo') :: (dx, dO') :: news) → EO eo' (some dx) vs → DH dO' (fun y => if y = name then some v else mA y) → Q () { s with heap := h', toks := tk' }) :
    wpAny (model P0 w) A (setAttr (.ref e) name v) Q E s := by
  have c := c61_of w s.heap (X₀.keeps F.keep)
  obtain ⟨nm, q, Nn, bs, sn, sub, ab, col, dd, k0, k1, k2, k3, k5, hC⟩ := c.cls
  obtain ⟨he, hnl, hne⟩ := N (e, eo) (List.mem_cons_self ..)
  obtain ⟨hdx, hdL, hd0⟩ := N (dx, dO) (List.mem_cons_of_mem _ (List.mem_cons_self ..))
  obtain ⟨h, g, d, t, os⟩ := s
  have I : h.Inst e 61 mA := ⟨eo, he, O.cls, O.noCls, .inr ⟨dx, O.dict, hde, D.ns1 hdx⟩⟩
  refine x_store PySem.F.store_Exception (by decide) (x_pass _) hC c.seta hl I (fun h' tk' I' K' => ?_) hw hsz
  obtain ⟨o₁, ho₁, hcls, hdata, hsl, hdk⟩ := K'.2.1 eo he
  have hd1 := hdk dx O.dict
  obtain ⟨o, ho, oc, onc, od⟩ := I'
  obtain rfl : o₁ = o := Option.some.inj (ho₁.symm.trans ho)
  rcases od with ⟨z, _⟩ | ⟨dx', hdx', hdne, hns⟩
  · rw [hd1] at z; cases z
  obtain rfl : dx = dx' := Option.some.inj (hd1.symm.trans hdx')
  obtain ⟨dO', hdO, DHo⟩ := DH.of hns
  have kp : ∀ b o, b ≠ e → b ≠ dx → h.get? b = some o → h'.get? b = some o := fun b o h1 h2 z => K'.1 b o h1 (fun o₀ d' h0' hd' => by rw [he] at h0'; cases h0'; rw [O.dict] at hd'; cases hd'; exact h2) z
  have F' : Fr h₀ L h' m := fr_but (s := ⟨h, g, d, t, os⟩) F hne hnl hd0 hdL kp
  refine hq h' tk' o₁ dO' F' (fun p hp => ?_) ⟨oc, hd1, hdata.trans O.data⟩ DHo
  rcases List.mem_cons.mp hp with rfl | hp
  · exact ⟨ho₁, hnl, hne⟩
  rcases List.mem_cons.mp hp with rfl | hp
  · exact ⟨hdO, hdL, hd0⟩
  · obtain ⟨z1, z2, z3⟩ := N p (List.mem_cons_of_mem _ (List.mem_cons_of_mem _ hp))
    exact ⟨kp _ _ (off p hp) (offd p hp) z1, z2, z3⟩
/-- reading an exception's attribute -/
theorem x_getK {expr : Bool} {Q : Value → Shared → Prop} (X₀ : (hd.heap_39 w.params).In h₀) (F : Fr h₀ L s.heap m) (he : s.heap.get? e = some eo) (hdx : s.heap.get? dx = some dO) (O : EO eo (some dx) vs) (D : DH dO mA) (hde : dx ≠ e)
    (hl : Looks (model P0 w) s.heap (typeLookup (.ref 61) name) none) (hv : mA name = some v) (hh : handedOut v = pure v) (hq : Q v { s with toks := s.toks + 1 }) :
    wpAny (model P0 w) A (getAttr (.ref e) name expr) Q E s := by
  have c := c61_of w s.heap (X₀.keeps F.keep)
  obtain ⟨nm, q, Nn, bs, sn, sub, ab, col, dd, k0, k1, k2, k3, k5, hC⟩ := c.cls
  obtain ⟨h, g, d, t, os⟩ := s
  have I : h.Inst e 61 mA := ⟨eo, he, O.cls, O.noCls, .inr ⟨dx, O.dict, hde, D.ns1 hdx⟩⟩
  exact x_load PySem.F.attrBase_Exception.ga (by decide) hC c.geta c.gett hl I hv hh hq
end ExcFr
-- PART X9
section ExcInitK
open PySem.Sem (wp)
variable {w : World} {A : Around} {E : Value → Shared → Prop} {s : Shared} {h₀ h' : Heap} {L e so mw t0 : Addr} {m : Str → Option Value} {news nw : List (Addr × Obj)} {eo : Obj} {vs : Array Value} {v : Value}
theorem x_ne61 (X₀ : (hd.heap_39 w.params).In h₀) (he : h₀.get? e = none) : e ≠ 61 := by
  obtain ⟨nm, q, Nn, bs, sn, sub, ab, col, dd, k0, k1, k2, k3, k5, hC⟩ := (c61_of w h₀ X₀).cls
  rintro rfl
  rw [he] at hC
  cases hC
theorem x_getMethodK {pl : Sem Bool} {Q : Value × List Value → Shared → Prop} (X₀ : (hd.heap_39 w.params).In h₀) (F : Fr h₀ L s.heap m) (N : News h₀ L s.heap nw) (hso : (so, ks_superObj 48 e 61) ∈ nw) (he : (e, eo) ∈ nw) (O : EO eo none vs)
    (hq : ∀ q h', Fr h₀ L h' m → News h₀ L h' ((q, mwObj e) :: nw) → (∀ p ∈ nw, p.1 < q) → Q (.ref q, []) { s with heap := h', toks := s.toks + 1 }) :
    wpAny (model P0 w) A (getMethod (.ref so) "__init__" pl) Q E s := by
  have c := c61_of w s.heap (X₀.keeps F.keep)
  obtain ⟨nm, q, Nn, bs, sn, sub, ab, col, dd, k0, k1, k2, k3, k5, hC⟩ := c.cls
  have z := hq s.heap.objs.size (s.heap.push (mwObj e)) (F.push _) (N.push F _) fun p hp => Heap.lt_size (N p hp).1
  have hne := x_ne61 X₀ (N _ he).2.2
  have hs := (N _ hso).1
  have hx := (N _ he).1
  have X := X₀.keeps F.keep
  obtain ⟨h, g, d, t, os⟩ := s
  exact x_getMethod hs c.opaq c.mro rfl X c.along hC (by decide) hx O.cls hne (by decide) z
theorem x_mwK {Q : Value → Shared → Prop} (X₀ : (hd.heap_39 w.params).In h₀) (F : Fr h₀ L s.heap m) (N : News h₀ L s.heap nw) (hmw : (mw, mwObj e) ∈ nw) (he : (e, eo) ∈ nw) (O : EO eo none vs) (h0 : vs[0]? = some (.ref t0))
    (hsub : ∀ p ∈ news, p ∈ nw) (off : ∀ p ∈ news, p.1 ≠ e)
    (hq : ∀ h' eo' t1, Fr h₀ L h' m → News h₀ L h' ((e, eo') :: news) → EO eo' none (vs.setIfInBounds 0 (.ref t1)) → Q .none { s with heap := h' }) :
    wpAny (model P0 w) A (call (.ref mw) [v]) Q E s := by
  have c := c61_of w s.heap (X₀.keeps F.keep)
  obtain ⟨nm, q, Nn, bs, sn, sub, ab, col, dd, k0, k1, k2, k3, k5, hC⟩ := c.cls
  obtain ⟨hx, hnl, hne⟩ := N _ he
  have hm := (N _ hmw).1
  obtain ⟨h, g, d, t, os⟩ := s
  refine x_mw_call hm (by decide) hC hx O.cls O.data h0 ?_
  have hx₁ := Heap.get?_push_of_some { cls := .type "tuple", data := .seq [v].toArray } hx
  have hd₃ := Obj.data_mapFields O.data (·.setIfInBounds 0 (Value.ref h.objs.size))
  have he₃ := Heap.get?_update_self (Obj.mapFields (·.setIfInBounds 0 (Value.ref h.objs.size))) hx₁ (Obj.isFreed_of_fields hd₃)
  have kp : ∀ b o, b ≠ e → h.get? b = some o → ((h.push { cls := .type "tuple", data := .seq [v].toArray }).update e (Obj.mapFields (·.setIfInBounds 0 (Value.ref h.objs.size)))).get? b = some o := fun b o hb z => by
    rw [Heap.get?_update_other _ _ (Ne.symm hb)]
    exact Heap.get?_push_of_some _ z
  refine hq _ (Obj.mapFields (·.setIfInBounds 0 (Value.ref h.objs.size)) eo) h.objs.size ?_ (fun p hp => ?_) ⟨(Obj.cls_mapFields _ _).trans O.cls, (mapFields_dict _ _).trans O.dict, hd₃⟩
  · exact ⟨F.ns.at fun o z => kp L o (Ne.symm hnl) z, fun b o z => kp b o (fun q => by rw [q, hne] at z; cases z) (F.keep b o z), F.above⟩
  · rcases List.mem_cons.mp hp with rfl | hp
    · exact ⟨he₃, hnl, hne⟩
    · obtain ⟨z1, z2, z3⟩ := N p (hsub p hp)
      exact ⟨kp _ _ (off p hp) z1, z2, z3⟩
theorem x_keeper {M : Model} {h : Heap} (hm : h.get? mw = some (mwObj e)) : Looks M h (keeperOf (.ref mw)) .machine := by
  refine (Looks.ld (part := none) hm).andThen ?_
  exact .now
theorem x_callWith {env : Env} {pos : Pos} {Q : Value → Shared → Prop} {arg : Expr} (hm : s.heap.get? mw = some (mwObj e))
    (h : wpAny (model P0 w) A (spliced (backTo pos (starEach [arg] env))) (fun vs s₁ => s₁.heap.get? mw = some (mwObj e) ∧ wpAny (model P0 w) A (call (.ref mw) vs) Q E s₁) E s)
    (he : starEach [arg] env = (false, eval arg env) :: starEach [] env := by rfl) :
    wpAny (model P0 w) A (callWith pos (.ref mw) [] (backTo pos (starEach [arg] env)) []) Q E s := by
  rw [he] at h ⊢
  exact callWith_of (P := fun h => h.get? mw = some (mwObj e)) (by rfl) (fun h hp => ⟨_, .inr (.inl rfl), x_keeper hp⟩) (evalArgs_plain h)
end ExcInitK
-- PART X10
section ExcInit
open PySem.Sem (wp)
theorem x_callWithK {w : World} {A : Around} {E : Value → Shared → Prop} {s : Shared} {h₀ : Heap} {L mw e : Addr} {nw : List (Addr × Obj)} {env : Env} {pos : Pos} {Q : Value → Shared → Prop} {arg : Expr} (N : News h₀ L s.heap nw) (hm : (mw, mwObj e) ∈ nw)
    (h : wpAny (model P0 w) A (spliced (backTo pos (starEach [arg] env))) (fun vs s₁ => s₁.heap.get? mw = some (mwObj e) ∧ wpAny (model P0 w) A (call (.ref mw) vs) Q E s₁) E s)
    (he : starEach [arg] env = (false, eval arg env) :: starEach [] env := by rfl) :
    wpAny (model P0 w) A (callWith pos (.ref mw) [] (backTo pos (starEach [arg] env)) []) Q E s := x_callWith (N _ hm).1 h he
theorem x_inst {h₀ h : Heap} {L e : Addr} {eo : Obj} {vs : Array Value} {nw : List (Addr × Obj)} (N : News h₀ L h nw) (he : (e, eo) ∈ nw) (O : EO eo none vs) : InstAt h e eo 61 none :=
  ⟨(N _ he).1, O.cls, by unfold notCls; rw [O.data], by rw [O.dict]; trivial⟩
theorem x_mem {h₀ h : Heap} {L e : Addr} {eo : Obj} {nw : List (Addr × Obj)} (N : News h₀ L h nw) (he : (e, eo) ∈ nw) : h.get? e = some eo := (N _ he).1
theorem x_initK (w : World) (mean : ExcName → Option Value) (mg mb : Str → Option Value) (A A₀ : Around) (base h₀ : Heap) (outer : List Env) (env : Env) (L e t0 : Addr) (m : Str → Option Value) (s : Shared) (R : Result → Shared → Prop) (eo : Obj) (vs : Array Value) (y : PySem.Str) (ty : Tok) (i : Int) (ti : Tok) (news : CbLed)
    (B : Below A₀ base outer h₀) (F : Fr h₀ L s.heap m) (X : (hd.heap_39 w.params).In h₀) (N : News h₀ L s.heap ((e, eo) :: news)) (T : Top hd.view_39 Lo0 mean mg mb h₀)
    (hA : A.frames = some (env :: outer)) (hf : env.frame = some L) (hke : env.scope.kind = .function) (hroom : A.depth < recursionLimit) (O : EO eo none vs) (h0 : vs[0]? = some (.ref t0)) (off : ∀ p ∈ news, p.1 ≠ e)
    (hret : ∀ h' tk' eo' dx dO t1, Fr h₀ L h' m → News h₀ L h' ((e, eo') :: (dx, dO) :: news) → EO eo' (some dx) (vs.setIfInBounds 0 (.ref t1)) → DH dO (fun z => if z = "at" then some (.int i ti) else if z = "what" then some (.str y ty) else none) → dx ≠ e → (∀ p ∈ news, p.1 ≠ dx) →
      R (.ok (.ret .none)) { s with heap := h', toks := tk' }) :
    codeAny (model PySem.Challenge.rw_pb0150_01.row.prog w) A (.call (.ref 38) ⟨[.ref e, .str y ty, .int i ti], []⟩) R s := by
  k_with_none
  w_top off
  k_with "subscriptTail Name Name str int" => (k_here; (with_reducible show wpAny _ _ (subscriptTail _ _ (Value.str _ _) (Value.int _ _)) _ _ _); (refine my_item (by omega) (by omega) (by omega) ?_))
  k_with "compareOp In str str" => (k_here; (with_reducible show wpAny _ _ (compareOp CmpOp.In (Value.str (PySem.Str.mk _) _) (Value.str _ _)) _ _ _); refine my_in ?_)
  k_with "compareOp NotIn str str" => (k_here; (with_reducible show wpAny _ _ (compareOp CmpOp.NotIn (Value.str (PySem.Str.mk _) _) (Value.str _ _)) _ _ _); refine my_notIn ?_)
  k_with "wpAt" => (ks_step "attributeBase Call"; k_here; k_dflt (refine ks_node (by k_asm) (by k_asm) (by k_asm) (by k_asm) (by k_is) (by rfl) (by rfl) (x_inst (by k_asm) (by k_mem) (by assumption)) (by k_is) (by rfl) (by first | rfl | decide +kernel) (by k_is) (by k_is) (by k_is) (by k_is) (by decide) (by rfl) (by rfl) (by rfl) (by rfl) (by decide +kernel) (by first | boot_by_name | rfl | kernel_rfl) ?_; intro so' h' F' N' l1; (try k_lt l1)))
  k_with "getMethod ref" => (k_here; (refine' x_getMethodK ?row4k1 ?row4k2 ?row4k3 ?row4k4 ?row4k5 ?row4k6 ?_; (case row4k1 => k_asm); (case row4k2 => k_asm); (case row4k3 => k_asm); (case row4k4 => k_mem); (case row4k5 => k_mem); (case row4k6 => assumption); intro q' h' F' N' l1; (try k_lt l1)))
  k_with "callWith" => (k_here; (refine' x_callWithK ?row5k1 ?row5k2 ?_; (case row5k1 => k_asm); (case row5k2 => k_mem)))
  k_with "And" => (refine ⟨x_mem (by k_asm) (by k_mem), ?_⟩)
  k_with "call ref" => (k_here; (refine' x_mwK (news := ?row7nw) ?row7k1 ?row7k2 ?row7k3 ?row7k4 ?row7k5 ?row7k6 ?row7k7 ?row7k9 ?row7k8 ?_; (case row7k1 => k_asm); (case row7k2 => k_asm); (case row7k3 => k_asm); (case row7k4 => k_mem); (case row7k5 => k_mem); (case row7k6 => assumption); (case row7k7 => assumption); (case row7k8 => assumption); (case row7k9 => (intro p hp; first | exact hp | exact .tail _ hp | exact .tail _ (.tail _ hp) | exact .tail _ (.tail _ (.tail _ hp)))); intro h' eo' t1 F' N' O'))
  k_with "setAttr ref" => (k_here; first | (refine x_setK (by k_asm) (by k_asm) (by k_asm) (by assumption) (by assumption) (by (first | exact (c61_of _ _ (Frag.In.keeps (by k_asm) (Fr.keep (by k_asm)))).what | exact (c61_of _ _ (Frag.In.keeps (by k_asm) (Fr.keep (by k_asm)))).at_)) ?_; intro h' tk' eo' dx dO F' N' O' D' hde offd) | (refine x_setK2 (by k_asm) (by k_asm) (by k_asm) (by assumption) (by assumption) (by assumption) (by assumption) (by assumption) (by (first | exact (c61_of _ _ (Frag.In.keeps (by k_asm) (Fr.keep (by k_asm)))).what | exact (c61_of _ _ (Frag.In.keeps (by k_asm) (Fr.keep (by k_asm)))).at_)) (Within.cons _ _ Within.nil) (by decide) ?_; intro h' tk' eo' dO' F' N' O' D'))
  revert X; k_fill; intro X
  (refine' ks_code_super ?k1 ?k2 ?k3 ?k4 ?k5 ?kA ?kF ?kK ?k6 ?k7 ?k8 ?k9 ?kB ?_ ?c1 ?c2 ?c3 ?c4; (case kA => exact hA); (case kF => exact hf); (case kK => exact hke); (case k1 => k_asm); (case k2 => k_asm); (case k3 => k_asm); (case k4 => k_asm); (case k5 => k_asm); (case k6 => k_is); (case k7 => k_is); (case k8 => exact hroom); (case k9 => exact kp_binds (K := hd.heap_39 w.params) (Frag.In.keeps X F.keep) (fun _ => rfl)); (case kB => exact locs rfl); (case c1 => decide); (case c2 => exact rfl); (case c3 => exact rfl); (case c4 => exact rfl); intro g' L' h' FG' F' N' B' X' T' l1; (try k_lt l1); (try dsimp only); (try k_lift B'))
  k_steps
  all_goals first
    | exact x_mem (by assumption) (by k_mem)
    | exact hret _ _ _ _ _ _ (by assumption) (by assumption) (by assumption) (by assumption) (by assumption) (by assumption)
end ExcInit
-- PART X11
section ExcMakeK
theorem x_makeK (w : World) (mean : ExcName → Option Value) (mg mb : Str → Option Value) (A A₀ : Around) (base h₀ : Heap) (outer : List Env) (env : Env) (L : Addr) (m : Str → Option Value) (s : Shared) (Q E : Value → Shared → Prop) (y : PySem.Str) (ty : Tok) (i : Int) (ti : Tok) (news : CbLed)
    (B : Below A₀ base outer h₀) (F : Fr h₀ L s.heap m) (X : (hd.heap_39 w.params).In h₀) (N : News h₀ L s.heap news) (T : Top hd.view_39 Lo0 mean mg mb h₀)
    (hA : A.frames = some (env :: outer)) (hf : env.frame = some L) (hke : env.scope.kind = .function) (hroom : A.depth + 1 < recursionLimit)
    (hret : ∀ h' tk' e eo vs dx dO t1, Fr h₀ L h' m → News h₀ L h' ((e, eo) :: (dx, dO) :: news) → EO eo (some dx) vs → vs[0]? = some (.ref t1) → vs[1]? = some .none → DH dO (fun z => if z = "at" then some (.int i ti) else if z = "what" then some (.str y ty) else none) → dx ≠ e → (∀ p ∈ news, p.1 ≠ e) → (∀ p ∈ news, p.1 ≠ dx) →
      Q (.ref e) { s with heap := h', toks := tk' }) :
    wpAny (model PySem.Challenge.rw_pb0150_01.row.prog w) A (call (.ref 61) [.str y ty, .int i ti]) Q E s := by
  have c := c61_of w s.heap (X.keeps F.keep)
  obtain ⟨nm, q, Nn, bs, sn, sub, ab, col, dd, k0, k1, k2, k3, k5, hC⟩ := c.cls
  obtain ⟨h, g, d, t, os⟩ := s
  have F1 : Fr h₀ L (xHeap h 61 [.str y ty, .int i ti]) m := (F.push _).push _
  have N0 := (N.push F { cls := .type "tuple", data := .seq ([.str y ty, .int i ti] : List Value).toArray }).push (F.push _) { cls := .ref 61, data := .fields #[.ref h.objs.size, .none, .none, .none, .bool false, .none] }
  rw [Heap.size_push] at N0
  have N1 : News h₀ L (xHeap h 61 [.str y ty, .int i ti]) ((h.objs.size + 1, { cls := .ref 61, data := .fields #[.ref h.objs.size, .none, .none, .none, .bool false, .none] }) :: news) := fun p hp => N0 p (by
    rcases List.mem_cons.mp hp with rfl | hp
    · exact .head _
    · exact .tail _ (.tail _ hp))
  have c1 := c61_of w (xHeap h 61 [.str y ty, .int i ti]) (X.keeps F1.keep)
  have off : ∀ p ∈ news, p.1 ≠ h.objs.size + 1 := fun p hp => Nat.ne_of_lt (Nat.lt_succ_of_lt (Heap.lt_size (N p hp).1))
  refine x_call PySem.F.excBase_Exception (by decide) (by decide) (by decide) hC c1.init c1.bind ?_ (by rw [sizeLine_eq]; show 2 ≤ 16777216; decide)
  refine x_initK w mean mg mb _ A₀ base h₀ outer env L (h.objs.size + 1) h.objs.size m ⟨xHeap h 61 [.str y ty, .int i ti], g, d, t, os⟩ _ _ #[.ref h.objs.size, .none, .none, .none, .bool false, .none] y ty i ti news B F1 X N1 T ?_ hf hke ?_ ⟨rfl, rfl, rfl⟩ rfl off ?_
  · exact hA
  · exact hroom
  · intro h' tk' eo' dx dO t1 F' N' O' D' hde offd
    refine ⟨rfl, ?_⟩
    exact hret h' tk' _ eo' _ dx dO t1 F' N' O' rfl rfl D' hde off offd
end ExcMakeK
-- PART X12
section ExcRaise
theorem x_raiseStmt {M : Model} {A : Around} {E : Value → Shared → Prop} {env : Env} {s : Shared} {x : Sem Value} {Q : Flow → Shared → Prop} (hh : A.handled = none)
    (h : wpAny M A x (fun v s₁ => ∃ e eo dx vs nm q N bs sn sub ab col dd k0 k1 k2 k3 k5, v = .ref e ∧ s₁.heap.get? 61 = some (excClassObj nm q 61 N bs bm61 true sn sub ab col dd k0 k1 k2 k3 k5 "Exception.__new__") ∧
      s₁.heap.get? e = some eo ∧ EO eo dx vs ∧ vs[1]? = some .none ∧ E (.ref e) s₁) E s) :
    wpAny M A (raiseStmt env (some x) none) Q E s := by
  have hcB : (Value.ref 61 :: bm61).contains (.type "BaseException") = true := by decide
  unfold raiseStmt
  refine wpAny_bind (wpAny_mono h (fun v s₁ h₁ => ?_) fun _ _ x => x)
  obtain ⟨e, eo, dx, vs, nm, q, N, bs, sn, sub, ab, col, dd, k0, k1, k2, k3, k5, rfl, hC, he, O, h1, hE⟩ := h₁
  obtain ⟨hp, g, d, tk, os⟩ := s₁
  have hd := O.data
  have hcl := O.cls
  repeat (first | (with_reducible refine wpAny_loadPart_at he ?_; (try rw [hcl]); (try rw [hd])) | with_reducible refine wpAny_field he hd h1 ?_ | with_reducible refine wpAny_loadPart_at hC ?_ | (with_reducible refine wpAny_isSubtype_exc hC ?_; rw [hcB]) | wp_step)
  exact wpAny_raiseNew_none hh hE
theorem x_Raise {w : World} {A : Around} {E : Value → Shared → Prop} {env : Env} {s : Shared} {Q : Flow → Shared → Prop} {ev : PySem.Expr} {pos : Pos} (hh : A.handled = none)
    (h : wpAny (model P0 w) A (eval ev env) (fun v s₁ => ∃ e eo dx vs, v = .ref e ∧ (hd.heap_39 w.params).In s₁.heap ∧ s₁.heap.get? e = some eo ∧ EO eo dx vs ∧ vs[1]? = some .none ∧ E (.ref e) s₁) E s) :
    wpAny (model P0 w) A (exec (.Raise (some ev) none pos) env) Q E s := by
  rw [arm_exec_Raise]
  refine wpAny_bind (wpAny_standAt ?_)
  simp only [evalOpt, Option.map]
  refine x_raiseStmt hh (wpAny_bind (wpAny_mono h (fun v s₁ z => ?_) fun _ _ x => x))
  obtain ⟨e, eo, dx, vs, rfl, X, he, O, h1, hE⟩ := z
  obtain ⟨nm, q, Nn, bs, sn, sub, ab, col, dd, k0, k1, k2, k3, k5, hC⟩ := (c61_of w s₁.heap X).cls
  exact wpAny_bind (wpAny_standAt (wpAny_pure ⟨e, eo, dx, vs, nm, q, Nn, bs, sn, sub, ab, col, dd, k0, k1, k2, k3, k5, rfl, hC, he, O, h1, hE⟩))
end ExcRaise
-- PART X13
section ExcLeave
/-- RuleFault under way: its class, its dict and the ledger are known -/
def RaisedD (base G : Heap) (l : List Env) (e dx : Addr) (news : List (Addr × Obj)) (h : Heap) : Prop := RaisedSN base G l e (.ref 61) news h ∧ ∃ eo, h.get? e = some eo ∧ eo.dict = some dx
variable {M : Model} {A : Around} {E : Value → Shared → Prop} {s' : Shared} {base g g₂ h : Heap} {outer : List Env} {L a e dx : Addr} {m : Str → Option Value} {name : Str} {scope : Scope} {cd a0 : Value} {Q : Unit → Shared → Prop} {news : List (Addr × Obj)} {eo : Obj} {vs : Array Value}
theorem leave_firstD (K : Below A base outer g) (F : Fr g L s'.heap m) (N : News g L s'.heap ((e, eo) :: news)) (O : EO eo (some dx) vs) (h0 : vs[0]? = some a0) (h1 : vs[1]? = some .none) (off : ∀ p ∈ news, p.1 ≠ e)
    (hQ : ∀ h', RaisedD base g outer e dx news h' → g.UpToSlots h' → Q () { s' with heap := h' }) (hk : scope.kind = .function := by rfl) :
    wpAny M (A.deeper (envOf name scope L a cd)) (leaving (envOf name scope L a cd) (.ref e)) Q E s' := by
  have K' := K.push (name := name) (a := a) (cd := cd) F hk
  obtain ⟨he, heL, heg⟩ := N (e, eo) (List.mem_cons_self ..)
  have hin : ∀ env ∈ (envOf name scope L a cd :: outer), ∀ b, env.frame = some b → b ∈ e :: (envOf name scope L a cd :: outer).filterMap (·.frame) := fun env he b hb => List.mem_cons_of_mem _ (List.mem_filterMap.mpr ⟨env, he, hb⟩)
  have st : base.StaysIn (hideAll s'.heap (e :: (envOf name scope L a cd :: outer).filterMap (·.frame))) := fun b o q => hideAll_get _ (K'.stays b o q) fun hm => by
    rcases List.mem_cons.mp hm with rfl | hm
    · have := fresh_of_stays K.stays heg; rw [this] at q; cases q
    · rw [(K'.frames.mem hm).1] at q; cases q
  have sg : ∀ b o, g.get? b = some o → b ∉ outer.filterMap (·.frame) → (hideAll s'.heap (e :: (envOf name scope L a cd :: outer).filterMap (·.frame))).get? b = some o := fun b o q nm => hideAll_get _ (F.keep b o q) fun hm => by
    rcases List.mem_cons.mp hm with rfl | hm
    · rw [heg] at q; cases q
    · rcases kts_mem hm with z | z
      · rw [z, kts_self F] at q
        cases q
      · exact nm z
  have hl : ∀ q ∈ news, (hideAll s'.heap (e :: (envOf name scope L a cd :: outer).filterMap (·.frame))).get? q.1 = some q.2 ∧ g.get? q.1 = none ∧ base.get? q.1 = none := fun q hq => by
    have Nq := N q (List.mem_cons_of_mem _ hq)
    refine ⟨hideAll_get _ Nq.1 fun hm => ?_, Nq.2.2, fresh_of_stays K.stays Nq.2.2⟩
    rcases List.mem_cons.mp hm with z | hm
    · exact off q hq z
    · obtain ⟨env, he, hf⟩ := List.mem_filterMap.mp hm
      rcases List.mem_cons.mp he with rfl | he
      · exact Nq.2.1 (Option.some.inj hf).symm
      · obtain ⟨o, ho, _⟩ := (K.frames.mem (List.mem_filterMap.mpr ⟨env, he, hf⟩)).2
        rw [Nq.2.2] at ho; cases ho
  have hen : (hideAll s'.heap (e :: (envOf name scope L a cd :: outer).filterMap (·.frame))).get? e = none := hideAll_none _ (List.mem_cons_self ..)
  have one := wpAny_leaving_firstW (M := M) (A := A.deeper (envOf name scope L a cd)) (E := E) (s := s') (a0 := a0) (Q := fun _ s'' => ∃ h', s'' = { s' with heap := h' } ∧ Heap.LeftW _ _ e eo.cls a0 s'.heap h')
    K'.stack (funFrames_hide K'.frames hin) rfl he (fun b o hb => of_hideAll _ hb) hen O.data h1 h0 fun h' hL => ⟨h', rfl, hL⟩
  refine wpAny_mono ((keep_leaving _ _).any one) (fun _ s'' z => ?_) fun _ _ z => z.1
  obtain ⟨⟨h', rfl, hL⟩, dk⟩ := z
  obtain ⟨k1, ⟨_, _, k2⟩, k3, k4⟩ := hL
  obtain ⟨eo', he', hd'⟩ := dk e eo he
  exact hQ h' ⟨⟨_, a0, st, sg, hl, k1, hen, k2, by rw [← O.cls]; exact k3⟩, eo', he', hd'.trans O.dict⟩ ((Heap.UpToSlots.of_keeps F.keep).trans k4)
theorem leave_onD (K : Below A base outer g) (F : Fr g L g₂ m) (R : RaisedD base g₂ (envOf name scope L a cd :: outer) e dx news s'.heap) (hsm : g₂.UpToSlots s'.heap)
    (hQ : ∀ h', RaisedD base g outer e dx news h' → g.UpToSlots h' → Q () { s' with heap := h' }) :
    wpAny M (A.deeper (envOf name scope L a cd)) (leaving (envOf name scope L a cd) (.ref e)) Q E s' := by
  obtain ⟨R, eo, he, hd⟩ := R
  have one := leave_onSN (M := M) (E := E) (Q := fun _ s'' => ∃ h', s'' = { s' with heap := h' } ∧ RaisedSN base g outer e (.ref 61) news h' ∧ g.UpToSlots h') K F R hsm fun h' R' _ U => ⟨h', rfl, R', U⟩
  refine wpAny_mono ((keep_leaving _ _).any one) (fun _ s'' z => ?_) fun _ _ z => z.1
  obtain ⟨⟨h', rfl, R', U⟩, dk⟩ := z
  obtain ⟨eo', he', hd'⟩ := dk e eo he
  exact hQ h' ⟨R', eo', he', hd'.trans hd⟩ U
end ExcLeave
-- PART X14
section ExcCatch
variable {w : World} {A₀ : Around} {E : Value → Shared → Prop} {s' : Shared} {base g g₀ G : Heap} {outer : List Env} {L a e dx : Addr} {m : Str → Option Value} {name : Str} {scope : Scope} {cd : Value}
  {n : Str} {b₀ : Stmt} {suite : List Stmt} {pos : Pos} {rest hs : List ExceptHandler} {Q : Flow → Shared → Prop} {news : List (Addr × Obj)} {KF : Frag} {tt : PySem.Expr}
  {p : Program} {loose : List Str} {mean : ExcName → Option Value} {mg mb : Str → Option Value} {prog : Program}
theorem lookD (R : RaisedD base G (envOf name scope L a cd :: outer) e dx news s'.heap) (K : Below A₀ base outer g) (hsm : G.UpToSlots s'.heap)
    (k : ∀ h', RaisedD base G (envOf name scope L a cd :: outer) e dx news h' → G.UpToSlots h' → wpAny (model prog w) (A₀.deeper (envOf name scope L a cd)) (handleBy (.ref e) (envOf name scope L a cd) hs) Q E { s' with heap := h' }) :
    wpAny (model prog w) (A₀.deeper (envOf name scope L a cd)) (noteFrame (.ref e) (envOf name scope L a cd))
      (fun _ s₂ => wpAny (model prog w) (A₀.deeper (envOf name scope L a cd)) (setFlight (.ref e) none) (fun _ s₃ =>
        wpAny (model prog w) (A₀.deeper (envOf name scope L a cd)) (handleBy (.ref e) (envOf name scope L a cd) hs) Q E s₃) E s₂) E s' := by
  obtain ⟨⟨B, a0, hB, hBG, hl, hfl⟩, eo, he, hd⟩ := R
  have one := wpAny_looks_onW (M := model prog w) (E := E) (Q := fun _ s'' => ∃ h', s'' = { s' with heap := h' } ∧ Heap.HeldW B (envOf name scope L a cd :: outer) e (.ref 61) a0 L h' ∧ s'.heap.UpToSlots h') (Around.frames_deeper K.stack) rfl hfl fun h' x y => ⟨h', rfl, x, y⟩
  refine wpAny_mono ((keep_noteFrame _ _).any one) (fun _ s'' z => ?_) fun _ _ z => z.1
  obtain ⟨⟨h₄, rfl, hheld₄, hsm₄⟩, dk₄⟩ := z
  have two := wpAny_landsW (M := model prog w) (A := A₀.deeper (envOf name scope L a cd)) (E := E) (s := { s' with heap := h₄ }) (Q := fun _ s'' => ∃ h', s'' = { s' with heap := h' } ∧ Heap.FlyingW B (envOf name scope L a cd :: outer) e (.ref 61) a0 h' ∧ h₄.UpToSlots h') hheld₄ fun h' x y => ⟨h', rfl, x, y⟩
  refine wpAny_mono ((keep_setFlight _ _).any two) (fun _ s'' z => ?_) fun _ _ z => z.1
  obtain ⟨⟨h₅, rfl, hheld, hsm₅⟩, dk₅⟩ := z
  obtain ⟨e4, he4, hd4⟩ := dk₄ e eo he
  obtain ⟨e5, he5, hd5⟩ := dk₅ e e4 he4
  exact k h₅ ⟨⟨B, a0, hB, hBG, hl, hheld⟩, e5, he5, hd5.trans (hd4.trans hd)⟩ (hsm.trans (hsm₄.trans hsm₅))
theorem hitD (R : RaisedD base G (envOf name scope L a cd :: outer) e dx news s'.heap) (F : Fr g L G m) (K : Below A₀ base outer g) (hsm : G.UpToSlots s'.heap) (XB : KF.In base) (TB : Top p loose mean mg mb base)
    (D : KtsDicts (outer.filterMap (·.frame)) g) (T0 : KtsTurn (outer.filterMap (·.frame)) g₀ g) (T : KtsTest prog w KF p loose mg mb name scope L a cd (.ref 61) tt true)
    (k : ∀ h' g' tk eo vs, KtsTurn (outer.filterMap (·.frame)) g₀ g' → Fr g' L h' (fun y => if y = n then some (.ref e) else m y) → News g' L h' ((e, eo) :: news) → EO eo (some dx) vs → Below A₀ base outer g' → KF.In g' → Top p loose mean mg mb g' → KtsDicts (outer.filterMap (·.frame)) g' →
      wpAny (model prog w) ((A₀.deeper (envOf name scope L a cd)).mark (some (.ref e))) (execs (b₀ :: suite) (envOf name scope L a cd))
        (fun f s₄ => wpAny (model prog w) (A₀.deeper (envOf name scope L a cd)) (do bindName (envOf name scope L a cd) n .none; unbindBehindTheSuite (envOf name scope L a cd) n pos) (fun _ s₅ => Q f s₅) E s₄)
        (AsSuiteRaised (model prog w) ((A₀.deeper (envOf name scope L a cd)).mark (some (.ref e))) (envOf name scope L a cd) n pos (notedBy (model prog w) ((A₀.deeper (envOf name scope L a cd)).mark (some (.ref e))) (envOf name scope L a cd) (cameBackBy (model prog w) (A₀.deeper (envOf name scope L a cd)) (envOf name scope L a cd) E)))
        { s' with heap := h', toks := tk })
    (hk : scope.kind = .function := by rfl) (hlo : (envOf name scope L a cd).kindOf n = some .local := by rfl) :
    wpAny (model prog w) (A₀.deeper (envOf name scope L a cd)) (handleBy (.ref e) (envOf name scope L a cd) (.ExceptHandler (some tt) (some n) (b₀ :: suite) pos :: rest)) Q E s' := by
  obtain ⟨R, eo, he, hd⟩ := R
  have R' := R
  obtain ⟨B₁, a1, _, hBG₁, _, hfl₁⟩ := R'
  obtain ⟨g₅, T₅, F₅, K₅⟩ := kts_ground K F hBG₁ hfl₁.1 hsm
  refine wpAny_handleBy_cons (codeAny_handlers_test (T _ _ _ _ g₅ e m F₅ (XB.keeps K₅.stays) (topRead_of (TB.keeps K₅.stays)) R.ty fun h₅ kp => ?_)) (by intro q; cases q)
  have hsm₅ : G.UpToSlots h₅ := hsm.trans (Heap.UpToSlots.of_keeps kp)
  have he₅ := kp e eo he
  obtain ⟨B, a0, hB, hBG, hl, hheld⟩ := R.keeps kp
  have hL : B.get? L = none := by
    obtain ⟨_, ⟨L', _, hf, hn', _⟩, _⟩ := hheld.2.2.1
    obtain rfl : L = L' := Option.some.inj hf
    exact hn'
  refine codeAny_handlers_suite_as ?_
  have one := fun E' => lands_againW (M := model prog w) (A := (A₀.deeper (envOf name scope L a cd)).mark (some (.ref e))) (E := E') (s := { s' with heap := h₅ }) (Q := fun _ s'' => ∃ h', s'' = { s' with heap := h' } ∧ Heap.FlyingW B (envOf name scope L a cd :: outer) e (.ref 61) a0 h' ∧ h₅.UpToSlots h') hheld fun h' x y => ⟨h', rfl, x, y⟩
  refine wpAny_mono ((keep_setFlight _ _).any (one _)) (fun _ s'' z => ?_) fun _ _ z => z.1
  obtain ⟨⟨h₆, rfl, hfl₆, hsm₆⟩, dk⟩ := z
  obtain ⟨g₆, T₆, F₆, K₆⟩ := kts_ground K F hBG hfl₆.1 (hsm₅.trans hsm₆)
  have Nl : News g₆ L h₆ news := fun q hq => ⟨hfl₆.1 _ _ (hl q hq).1, (fun z => by have := (hl q hq).1; rw [z, hL] at this; cases this), T₆.none_ _ (kts_none F.keep (hl q hq).2.1)⟩
  obtain ⟨eo₆, heo₆, hdi₆⟩ := dk e eo he₅
  obtain ⟨oe, ws, hoe, hoec, hoed, hoe0⟩ := hfl₆.first
  obtain rfl : oe = eo₆ := Option.some.inj (hoe.symm.trans heo₆)
  have ne₆ : g₆.get? e = none := T₆.none_ _ (kts_fresh F hBG hfl₆.2.1 fun o ho m => by
    obtain ⟨_, o', ho', hd⟩ := K.frames.mem m
    rw [ho] at ho'
    cases ho'
    obtain ⟨sl, hs⟩ := (hsm₅.trans hsm₆) _ _ (F.keep _ _ ho) hd
    rw [hoe] at hs
    cases hs
    exact hd _ hoed)
  have X₆ : KF.In g₆ := XB.keeps K₆.stays
  have P₆ : Top p loose mean mg mb g₆ := TB.keeps K₆.stays
  have D₆ : KtsDicts (outer.filterMap (·.frame)) g₆ := D.turn T₆
  have N₆ := News.more F₆ Nl hoe (fun es n q => by rw [hoed] at q; cases q) ne₆
  refine stN F₆ N₆ (fun h₇ F₇ N₇ => ?_) hk hlo
  exact k h₇ g₆ _ oe ws (T0.trans T₆) F₇ N₇ ⟨hoec, hdi₆.trans hd, hoed⟩ K₆ X₆ P₆ D₆
end ExcCatch
-- PART C3
section WordEnd
abbrev sLet : PySem.Str := PySem.Str.ofString "abcdefghijklmnopqrstuvwxyzABCDEFGHIJKLMNOPQRSTUVWXYZ_."
abbrev sFig : PySem.Str := PySem.Str.ofString "0123456789"
abbrev sSig : PySem.Str := PySem.Str.ofString "{}[];'<>"
abbrev sMin : PySem.Str := PySem.Str.ofString "-"
def wordEndI (x : PySem.Str) (i : Int) : Option Int :=
  if has sLet (cod x i) = true then some (runEndI x i (sLet ++ sFig))
  else if has sFig (cod x i) = true then some (runEndI x i sFig)
  else if ((⟨#[cod x i]⟩ : PySem.Str) == sMin) = true ∧ i + 1 < runEndI x (i + 1) sFig then some (runEndI x (i + 1) sFig)
  else if has sSig (cod x i) = true then some (i + 1)
  else none
theorem run_end_u {w : World} {mean : ExcName → Option Value} {mg mb : Str → Option Value} {x : PySem.Str} {tx : Tok} {i : Int} {ti : Tok} {y : PySem.Str} {ty : Tok} {news : CbLed}
    {dp un : Nat} {gd : Option (List Code)} {cn : Str} {cs : Scope} {a : Addr} {ccd : Value} {cl : List (Str × Addr)} {outer : List Env} {A₀ : Around} {base h₀ : Heap} {L : Addr} {m : Str → Option Value} {s : Shared} {Q E : Value → Shared → Prop}
    (B : Below A₀ base outer h₀) (F : Fr h₀ L s.heap m) (X : (hd.heap_39 w.params).In h₀) (N : News h₀ L s.heap news) (T : Top hd.view_39 Lo0 mean mg mb h₀) (hcs : cs.kind = .function)
    (hp : 0 ≤ i ∧ i ≤ (x.length : Int) ∧ x.length ≤ 1000) (hd : dp + 1 < recursionLimit) (hu : un + 8 < cLine)
    (hret : ∀ (t : Tok) (h' : Heap) (tk' : Nat), Fr h₀ L h' m → News h₀ L h' news → Q (.int (runEndI x i y) t) { s with heap := h', toks := tk' }) :
    wpAny (model PySem.Challenge.rw_pb0150_01.row.prog w) (ktrTop dp un gd cn cs L a ccd cl outer) (call (.ref 70) [.str x tx, .int i ti, .str y ty]) Q E s :=
  run_end_c w mean mg mb x tx i ti y ty news dp un gd cn cs a ccd cl outer A₀ base h₀ L m s Q E B F X N T hcs hp hd hu hret
end WordEnd
-- PART C4
section WordEnd2
abbrev atDict (y : PySem.Str) (ty : Tok) (i : Int) (ti : Tok) : Str → Option Value := fun z => if z = "at" then some (.int i ti) else if z = "what" then some (.str y ty) else none
section
variable {x : PySem.Str} {i : Int}
theorem we1 (h : has sLet (cod x i) = true) : wordEndI x i = some (runEndI x i (sLet ++ sFig)) := by rw [wordEndI, if_pos h]
theorem we2 (h : has sLet (cod x i) = false) (h2 : has sFig (cod x i) = true) : wordEndI x i = some (runEndI x i sFig) := by
  rw [wordEndI, if_neg (by rw [h]; exact Bool.false_ne_true), if_pos h2]
theorem we3 (h : has sLet (cod x i) = false) (h2 : has sFig (cod x i) = false) (h3 : ((⟨#[cod x i]⟩ : PySem.Str) == sMin) = true) (h4 : i + 1 < runEndI x (i + 1) sFig) : wordEndI x i = some (runEndI x (i + 1) sFig) := by
  rw [wordEndI, if_neg (by rw [h]; exact Bool.false_ne_true), if_neg (by rw [h2]; exact Bool.false_ne_true), if_pos ⟨h3, h4⟩]
theorem we4 (h : has sLet (cod x i) = false) (h2 : has sFig (cod x i) = false) (h3 : ¬ (((⟨#[cod x i]⟩ : PySem.Str) == sMin) = true ∧ i + 1 < runEndI x (i + 1) sFig)) (h5 : has sSig (cod x i) = true) : wordEndI x i = some (i + 1) := by
  rw [wordEndI, if_neg (by rw [h]; exact Bool.false_ne_true), if_neg (by rw [h2]; exact Bool.false_ne_true), if_neg h3, if_pos h5]
theorem we5 (h : has sLet (cod x i) = false) (h2 : has sFig (cod x i) = false) (h3 : ¬ (((⟨#[cod x i]⟩ : PySem.Str) == sMin) = true ∧ i + 1 < runEndI x (i + 1) sFig)) (h5 : has sSig (cod x i) = false) : wordEndI x i = none := by
  rw [wordEndI, if_neg (by rw [h]; exact Bool.false_ne_true), if_neg (by rw [h2]; exact Bool.false_ne_true), if_neg h3, if_neg (by rw [h5]; exact Bool.false_ne_true)]
theorem no1 {b : Bool} {P : Prop} (h : b = false) : ¬ (b = true ∧ P) := fun e => by rw [h] at e; exact Bool.false_ne_true e.1
theorem no2 {p P : Prop} (h : ¬ P) : ¬ (p ∧ P) := fun e => h e.2
end
set_option maxHeartbeats 8000000 in
theorem word_end_c (w : World) (mean : ExcName → Option Value) (mg mb : Str → Option Value) (x : PySem.Str) (tx : Tok) (i : Int) (ti : Tok) (news : CbLed)
    (dp un : Nat) (gd : Option (List Code)) (cn : Str) (cs : Scope) (a : Addr) (ccd : Value) (cl : List (Str × Addr)) (outer : List Env) (A₀ : Around) (base h₀ : Heap) (L : Addr) (m : Str → Option Value) (s : Shared) (Q E : Value → Shared → Prop)
    (B : Below A₀ base outer h₀) (F : Fr h₀ L s.heap m) (X : (hd.heap_39 w.params).In h₀) (N : News h₀ L s.heap news) (T : Top hd.view_39 Lo0 mean mg mb h₀) (hcs : cs.kind = .function)
    (hp : 0 ≤ i ∧ i < (x.length : Int) ∧ x.length ≤ 1000) (hd1 : dp + 5 < recursionLimit) (hu1 : un + 200 < cLine)
    (hok : ∀ k, wordEndI x i = some k → ∀ (t : Tok) (h' : Heap) (tk' : Nat), Fr h₀ L h' m → News h₀ L h' news → Q (.int k t) { s with heap := h', toks := tk' })
    (herr : wordEndI x i = none → ∀ (e dx : Addr) (dO : Obj) (y : PySem.Str) (ty ti' : Tok) (G h' : Heap) (tk' : Nat), Fr h₀ L G m → RaisedD base G (envX cn cs L a ccd cl :: outer) e dx ((dx, dO) :: news) h' → G.UpToSlots h' → DH dO (atDict y ty i ti') → E (.ref e) { s with heap := h', toks := tk' }) :
    wpAny (model PySem.Challenge.rw_pb0150_01.row.prog w) (ktrTop dp un gd cn cs L a ccd cl outer) (call (.ref 84) [.str x tx, .int i ti]) Q E s := by
  k_with_none
  w_top off
  k_with "subscriptTail Name Name str int" => (k_here; (with_reducible show wpAny _ _ (subscriptTail _ _ (Value.str _ _) (Value.int _ _)) _ _ _); (refine my_item (by omega) (by omega) (by omega) ?_))
  k_with "compareOp In str str" => (k_here; (with_reducible show wpAny _ _ (compareOp CmpOp.In (Value.str (PySem.Str.mk _) _) (Value.str _ _)) _ _ _); refine my_in ?_)
  k_with "compareOp NotIn str str" => (k_here; (with_reducible show wpAny _ _ (compareOp CmpOp.NotIn (Value.str (PySem.Str.mk _) _) (Value.str _ _)) _ _ _); refine my_notIn ?_)
  k_with "call ref" => (k_here; (with_reducible show wpAny _ _ (call (Value.ref 70) [_, _, _]) _ _ _); k_dflt (refine' run_end_u ?row9k1 ?row9k2 ?row9k3 ?row9k4 ?row9k5 ?row9kK ?row9kp ?row9kd ?row9ku ?_; (case row9k1 => k_asm); (case row9k2 => k_asm); (case row9k3 => k_asm); (case row9k4 => k_asm); (case row9k5 => k_asm); (case row9kK => first | exact rfl | assumption); (case row9kp => (refine ⟨?_, ?_, ?_⟩ <;> omega)); (case row9kd => (first | omega | ktr_room | ((try simp only [depth_deeper, depth_in1]); (try dsimp only [ktrTop]); omega))); (case row9ku => (first | omega | ktr_units | ((try simp only [units_in1, units_deeper, Around.mark_units, units_caller]); (try dsimp only [ktrTop]); omega)))); intro t9 h9 tk9 F9 N9; (try dsimp only); (try k_fold))
  k_with "exec Raise some none" => (k_here; k_dflt (refine' x_Raise ?row10k1 ?_; (case row10k1 => first | rfl | assumption)))
  k_with "call ref" => (k_here; (with_reducible show wpAny _ _ (call (Value.ref 61) [_, _]) _ _ _); k_dflt (refine' x_makeK _ _ _ _ _ _ _ _ _ _ _ _ _ _ _ _ _ _ _ _ ?row11k1 ?row11k2 ?row11k3 ?row11k4 ?row11k5 ?row11kA ?row11kF ?row11kK ?row11kd ?_; (case row11k1 => k_asm); (case row11k2 => k_asm); (case row11k3 => k_asm); (case row11k4 => k_asm); (case row11k5 => k_asm); (case row11kA => exact rfl); (case row11kF => exact rfl); (case row11kK => exact rfl); (case row11kd => (first | omega | ktr_room | ((try simp only [depth_deeper, depth_in1]); (try dsimp only [ktrTop]); omega)))); intro h' tk' e' eo' vs' dx' dO' t1' F' N' O' z0' z1' D' hde' off' offd'; (try dsimp only); refine ⟨_, _, _, _, rfl, Frag.In.keeps (by k_asm) (Fr.keep F'), x_mem N' (List.Mem.head _), O', z1', ?_⟩; (try dsimp only))
  k_with "leaving ref" => (k_here; k_dflt (refine' leave_firstD ?row12k1 ?row12k2 ?row12k3 ?row12k4 ?row12k5 ?row12k6 ?row12k7 ?_; (case row12k1 => k_asm); (case row12k2 => assumption); (case row12k3 => assumption); (case row12k4 => assumption); (case row12k5 => assumption); (case row12k6 => assumption); (case row12k7 => exact List.forall_mem_cons.mpr ⟨by assumption, by assumption⟩)); intro h' R' U'; (try dsimp only))
  revert X; k_fill; intro X
  refine wpAny_call ?_
  k_dflt cell_enter
  k_steps
  all_goals first
    | exact hok _ (we1 (by assumption)) _ _ _ (by assumption) (by assumption)
    | exact hok _ (we2 (by assumption) (by assumption)) _ _ _ (by assumption) (by assumption)
    | exact hok _ (we3 (by assumption) (by assumption) (by assumption) (by assumption)) _ _ _ (by assumption) (by assumption)
    | exact hok _ (we4 (by assumption) (by assumption) (no1 (by assumption)) (by assumption)) _ _ _ (by assumption) (by assumption)
    | exact hok _ (we4 (by assumption) (by assumption) (no2 (by assumption)) (by assumption)) _ _ _ (by assumption) (by assumption)
    | exact herr (we5 (by assumption) (by assumption) (no1 (by assumption)) (by assumption)) _ _ _ _ _ _ _ _ _ (by assumption) (by assumption) (by assumption) (by assumption)
    | exact herr (we5 (by assumption) (by assumption) (no2 (by assumption)) (by assumption)) _ _ _ _ _ _ _ _ _ (by assumption) (by assumption) (by assumption) (by assumption)
end WordEnd2
-- PART C6
section Words
theorem skipped_u {w : World} {mean : ExcName → Option Value} {mg mb : Str → Option Value} {x : PySem.Str} {tx : Tok} {i : Int} {ti : Tok} {news : CbLed}
    {dp un : Nat} {gd : Option (List Code)} {cn : Str} {cs : Scope} {a : Addr} {ccd : Value} {cl : List (Str × Addr)} {outer : List Env} {A₀ : Around} {base h₀ : Heap} {L : Addr} {m : Str → Option Value} {s : Shared} {Q E : Value → Shared → Prop}
    (B : Below A₀ base outer h₀) (F : Fr h₀ L s.heap m) (X : (hd.heap_39 w.params).In h₀) (N : News h₀ L s.heap news) (T : Top hd.view_39 Lo0 mean mg mb h₀) (hcs : cs.kind = .function)
    (hp : 0 ≤ i ∧ i ≤ (x.length : Int) ∧ x.length ≤ 1000) (hd : dp + 1 < recursionLimit) (hu : un + 8 < cLine)
    (hret : ∀ (t : Tok) (h' : Heap) (tk' : Nat), Fr h₀ L h' m → News h₀ L h' news → Q (.int (skT false x i) t) { s with heap := h', toks := tk' }) :
    wpAny (model PySem.Challenge.rw_pb0150_01.row.prog w) (ktrTop dp un gd cn cs L a ccd cl outer) (call (.ref 77) [.str x tx, .int i ti]) Q E s :=
  skipped_c w mean mg mb x tx i ti news dp un gd cn cs a ccd cl outer A₀ base h₀ L m s Q E B F X N T hcs hp hd hu hret
theorem skT_ge (b : Bool) (x : PySem.Str) (i : Int) : i ≤ skT b x i := by unfold skT; omega
theorem skipL_le : ∀ (b : Bool) (l : List Nat), skipL b l ≤ l.length
  | true, [] => Nat.le_refl _
  | false, [] => Nat.le_refl _
  | true, c :: r => by
    have h1 := skipL_le true r
    have h2 := skipL_le false r
    simp only [skipL, List.length_cons]
    split <;> omega
  | false, c :: r => by
    have h1 := skipL_le true r
    have h2 := skipL_le false r
    simp only [skipL, List.length_cons]
    split
    · omega
    · split <;> omega
theorem skT_le {x : PySem.Str} {i : Int} (b : Bool) (h0 : 0 ≤ i) (h : i ≤ (x.length : Int)) : skT b x i ≤ (x.length : Int) := by
  have h1 := skipL_le b (x.cps.toList.drop i.toNat)
  rw [List.length_drop] at h1
  unfold skT
  simp only [PySem.Str.length] at h ⊢
  have : x.cps.toList.length = x.cps.size := by simp
  omega
theorem wordEndI_gt {x : PySem.Str} {i k : Int} (h0 : 0 ≤ i) (h : i < (x.length : Int)) (e : wordEndI x i = some k) : i < k ∧ k ≤ (x.length : Int) := by
  have rl : ∀ j y, 0 ≤ j → j ≤ (x.length : Int) → j ≤ runEndI x j y ∧ runEndI x j y ≤ (x.length : Int) := fun j y hj hjl => by
    unfold runEndI
    have a1 := runEnd_ge x.cps.toList y.cps.toList j.toNat
    have a2 := runEnd_le x.cps.toList y.cps.toList j.toNat (by simp only [PySem.Str.length] at hjl; simp; omega)
    simp only [PySem.Str.length] at hjl ⊢
    have : x.cps.toList.length = x.cps.size := by simp
    omega
  have step : ∀ y, has y (cod x i) = true → i + 1 ≤ runEndI x i y := fun y hy => by
    rw [← runEndI_step h0 h hy]
    exact (rl (i + 1) y (by omega) (by omega)).1
  unfold wordEndI at e
  split at e
  · rename_i hl
    cases e
    refine ⟨?_, (rl i _ h0 (by omega)).2⟩
    have : has (sLet ++ sFig) (cod x i) = true := by
      rw [has_eq] at hl ⊢
      rw [PySem.Str.cps_append, Array.toList_append]
      simp only [decide_eq_true_eq] at hl ⊢
      exact List.mem_append_left _ hl
    have := step _ this
    omega
  · split at e
    · rename_i hf
      cases e
      have := step _ hf
      exact ⟨by omega, (rl i _ h0 (by omega)).2⟩
    · split at e
      · rename_i hm
        cases e
        exact ⟨by omega, (rl (i + 1) _ (by omega) (by omega)).2⟩
      · split at e
        · cases e; exact ⟨by omega, by omega⟩
        · cases e
end Words
-- PART PL2
section Plain2
theorem mach_words : ∀ (n : Nat) (cs : List Nat), cs.length ≤ n →
    (∀ w b at_ found, mach 0 w b at_ found (cs ++ [10]) = putE found (words false cs at_)) ∧ (∀ w b at_ found, mach 4 w b at_ found (cs ++ [10]) = putE found (words true cs at_)) := by
  intro n
  induction n with
  | zero =>
    intro cs h
    have : cs = [] := List.length_eq_zero_iff.mp (by omega)
    subst this
    refine ⟨fun w b at_ found => ?_, fun w b at_ found => ?_⟩ <;> rw [words_nil] <;> simp [mach, putE, md, isL, isF, isS, isB]
  | succ n ih =>
    intro cs h
    cases cs with
    | nil => exact ih [] (by simp)
    | cons c r =>
      have hr : r.length ≤ n := by simpa using h
      have ihr := ih r hr
      have ihd : ∀ k, (∀ w b at_ found, mach 0 w b at_ found (r.drop k ++ [10]) = putE found (words false (r.drop k) at_)) := fun k => (ih (r.drop k) (by rw [List.length_drop]; omega)).1
      refine ⟨fun w b at_ found => ?_, fun w b at_ found => ?_⟩
      · obtain ⟨kL, kF, kS, kB⟩ := kinds c
        cases hb : isB c with
        | true =>
          obtain ⟨h1, h2, h3, h4, h5⟩ := kB hb
          have e : words false (c :: r) at_ = words false r (at_ + 1) := words_shift (by
            have : (c = 32 ∨ c = 9 ∨ c = 13 ∨ c = 10) := by simpa [isB] using hb
            simp [skipL, this])
          rw [e, ← ihr.1 [c] at_ (at_ + 1) found]
          simp [mach, h3, h4, h5, md, h1, h2, hb]
        | false =>
          by_cases h35 : c = 35
          · subst h35
            have e : words false (35 :: r) at_ = words true r (at_ + 1) := words_shift (by simp [skipL])
            rw [e, ← ihr.2 [35] at_ (at_ + 1) found]
            simp [mach]
          · have e := words_word (r := r) (at_ := at_) (skip_stop (r := r) hb h35)
            rw [e]
            cases hl : isL c with
            | true =>
              obtain ⟨h1, h2, h3, h4, h5⟩ := kL hl
              have em : mach 0 w b at_ found (c :: r ++ [10]) = mach 1 [c] at_ (at_ + 1) found (r ++ [10]) := by simp [mach, h2, h4, h5, md, hl]
              rw [em, mach_name, ihd, putE_cons]
              simp only [wordMore, hl, if_true]
              rfl
            | false =>
              cases hf : isF c with
              | true =>
                obtain ⟨h1, h2, h3, h4, h5⟩ := kF hf
                have em : mach 0 w b at_ found (c :: r ++ [10]) = mach 2 [c] at_ (at_ + 1) found (r ++ [10]) := by simp [mach, h2, h4, h5, md, hl, hf]
                rw [em, mach_num, ihd, putE_cons]
                simp only [wordMore, hl, hf, if_true, Bool.false_eq_true, if_false]
                rfl
              | false =>
                by_cases h45 : c = 45
                · subst h45
                  have em : mach 0 w b at_ found (45 :: r ++ [10]) = mach 3 [45] at_ (at_ + 1) found (r ++ [10]) := by simp [mach]
                  rw [em]
                  cases r with
                  | nil => simp [mach, wordMore, isL, isF, isS, putE]
                  | cons d q =>
                    cases hd : isF d with
                    | true =>
                      have em2 : mach 3 [45] at_ (at_ + 1) found (d :: q ++ [10]) = mach 2 [45, d] at_ (at_ + 2) found (q ++ [10]) := by simp [mach, hd]
                      have hq := ihd (1 + (q.takeWhile isF).length)
                      have et : ((d :: q).takeWhile isF).length = 1 + (q.takeWhile isF).length := by rw [List.takeWhile_cons, if_pos hd, List.length_cons]; omega
                      have ed : (d :: q).drop (1 + (q.takeWhile isF).length) = q.drop (q.takeWhile isF).length := by rw [Nat.add_comm]; rfl
                      have ek : (d :: q).take (1 + (q.takeWhile isF).length) = d :: q.take (q.takeWhile isF).length := by rw [Nat.add_comm]; rfl
                      rw [ed] at hq
                      rw [em2, mach_num, hq, putE_cons]
                      have hw : wordMore 45 (d :: q) = some (1 + (q.takeWhile isF).length) := by
                        unfold wordMore
                        rw [et]
                        simp [isL, isF]
                      rw [hw]
                      dsimp only
                      rw [ed, ek]
                      have ea : at_ + 2 + (q.takeWhile isF).length = at_ + 1 + (1 + (q.takeWhile isF).length) := by omega
                      rw [ea]
                      rfl
                    | false =>
                      have em2 : mach 3 [45] at_ (at_ + 1) found (d :: q ++ [10]) = .error at_ := by simp [mach, hd]
                      rw [em2]
                      have hw : wordMore 45 (d :: q) = none := by
                        have et : ((d :: q).takeWhile isF).length = 0 := by rw [List.takeWhile_cons, if_neg (by rw [hd]; exact Bool.false_ne_true)]; rfl
                        unfold wordMore
                        rw [et]
                        simp [isL, isF, isS]
                      rw [hw]
                      rfl
                · cases hs : isS c with
                  | true =>
                    have em : mach 0 w b at_ found (c :: r ++ [10]) = mach 0 [c] at_ (at_ + 1) (found ++ [([c], at_)]) (r ++ [10]) := by simp [mach, h45, h35, hs, md, hl, hf]
                    rw [em, ihr.1, putE_cons]
                    have hw : wordMore c r = some 0 := by simp [wordMore, hl, hf, h45, hs]
                    rw [hw]
                    rfl
                  | false =>
                    have em : mach 0 w b at_ found (c :: r ++ [10]) = .error at_ := by simp [mach, h45, h35, hs, md, hl, hf, hb]
                    have hw : wordMore c r = none := by simp [wordMore, hl, hf, h45, hs]
                    rw [em, hw]
                    rfl
      · by_cases hc : c = 10 ∨ c = 13
        · have e : words true (c :: r) at_ = words false r (at_ + 1) := words_shift (by simp [skipL, hc])
          rw [e, ← ihr.1 w b (at_ + 1) found]
          simp [mach, hc]
        · have e : words true (c :: r) at_ = words true r (at_ + 1) := words_shift (by simp [skipL, hc])
          rw [e, ← ihr.2 w b (at_ + 1) found]
          simp [mach, hc]
theorem mach_all (cs : List Nat) : mach 0 [] 0 0 [] (cs ++ [10]) = words false cs 0 := by
  rw [(mach_words cs.length cs (Nat.le_refl _)).1]
  cases words false cs 0 <;> simp [putE]
end Plain2
-- PART PL3
section Plain3
/-- words with single blanks between them -/
def joinSp : List (List Nat) → List Nat
  | [] => []
  | [w] => w
  | w :: v :: rest => w ++ 32 :: joinSp (v :: rest)
/-- a word that is cut alike whatever stands behind its blank -/
def Valid (w : List Nat) : Prop := ∃ c r, w = c :: r ∧ isB c = false ∧ c ≠ 35 ∧ ∀ t : List Nat, (t = [] ∨ ∃ q, t = 32 :: q) → wordMore c (r ++ t) = some r.length
theorem tw_app (p : Nat → Bool) (h32 : p 32 = false) (r t : List Nat) (ht : t = [] ∨ ∃ q, t = 32 :: q) : ((r.take (r.takeWhile p).length) ++ t).takeWhile p = r.take (r.takeWhile p).length := by
  have e : r.take (r.takeWhile p).length = r.takeWhile p := (List.prefix_iff_eq_take.mp (List.takeWhile_prefix p)).symm
  rw [e, List.takeWhile_append_of_pos (fun a ha => List.all_eq_true.mp List.all_takeWhile a ha)]
  have : t.takeWhile p = [] := by
    rcases ht with rfl | ⟨q, rfl⟩
    · rfl
    · rw [List.takeWhile_cons, if_neg (by rw [h32]; exact Bool.false_ne_true)]
  rw [this, List.append_nil]
theorem take_tw_length (p : Nat → Bool) (r : List Nat) : (r.take (r.takeWhile p).length).length = (r.takeWhile p).length := by
  rw [List.length_take]
  exact Nat.min_eq_left (List.takeWhile_prefix p).length_le
theorem wordMore_valid {c : Nat} {r : List Nat} {n : Nat} (h : wordMore c r = some n) : Valid (c :: r.take n) := by
  obtain ⟨kL, kF, kS, kB⟩ := kinds c
  unfold wordMore at h
  split at h
  · rename_i hl
    cases h
    refine ⟨c, _, rfl, (kL hl).2.2.1, (kL hl).2.2.2.2, fun t ht => ?_⟩
    unfold wordMore
    rw [if_pos hl, tw_app _ (by decide) _ _ ht]
  · rename_i hl
    split at h
    · rename_i hf
      cases h
      refine ⟨c, _, rfl, (kF hf).2.2.1, (kF hf).2.2.2.2, fun t ht => ?_⟩
      unfold wordMore
      rw [if_neg hl, if_pos hf, tw_app _ (by decide) _ _ ht]
    · rename_i hf
      split at h
      · rename_i h45
        cases h
        refine ⟨c, _, rfl, by rw [h45.1]; decide, by omega, fun t ht => ?_⟩
        unfold wordMore
        rw [if_neg hl, if_neg hf, tw_app _ (by decide) _ _ ht, take_tw_length, if_pos h45]
      · rename_i h45
        split at h
        · rename_i hs
          cases h
          refine ⟨c, _, rfl, (kS hs).2.2.1, (kS hs).2.2.2.2, fun t ht => ?_⟩
          have hn : ¬ (c = 45 ∧ 0 < ((r.take 0 ++ t).takeWhile isF).length) := fun e => (kS hs).2.2.2.1 e.1
          unfold wordMore
          rw [if_neg hl, if_neg hf, if_neg hn, if_pos hs]
          rfl
        · cases h
theorem words_valid : ∀ (n : Nat) (bm : Bool) (cs : List Nat) (at_ : Nat) (ws : List Wd), cs.length ≤ n → words bm cs at_ = .ok ws → ∀ x ∈ ws, Valid x.1 := by
  intro n
  induction n with
  | zero =>
    intro bm cs at_ ws hl h x hx
    have : cs = [] := List.length_eq_zero_iff.mp (by omega)
    subst this
    rw [words_nil] at h
    cases h
    cases hx
  | succ n ih =>
    intro bm cs at_ ws hl h x hx
    rw [words_eq] at h
    split at h
    · cases h; cases hx
    · rename_i c r hd
      split at h
      · cases h
      · rename_i k hk
        have hlen : (cs.drop (skipL bm cs)).length = r.length + 1 := by rw [hd]; rfl
        rw [List.length_drop] at hlen
        split at h
        · rename_i ws' hw
          cases h
          rcases List.mem_cons.mp hx with rfl | hx
          · exact wordMore_valid hk
          · exact ih false (r.drop k) _ ws' (by rw [List.length_drop]; omega) hw x hx
        · cases h
theorem words_join : ∀ (W : List (List Nat)) (at_ : Nat), (∀ w ∈ W, Valid w) → ∃ ws, words false (joinSp W) at_ = .ok ws ∧ ws.map (·.1) = W
  | [], at_, _ => ⟨[], words_nil _ _, rfl⟩
  | [w], at_, h => by
    obtain ⟨c, r, rfl, hb, h35, hm⟩ := h w (List.mem_singleton.mpr rfl)
    have hm0 := hm [] (.inl rfl)
    rw [List.append_nil] at hm0
    refine ⟨[(c :: r, at_)], ?_, rfl⟩
    show words false (c :: r) at_ = _
    rw [words_word (skip_stop hb h35), hm0]
    dsimp only
    rw [List.drop_length, words_nil, List.take_length]
  | w :: v :: rest, at_, h => by
    obtain ⟨c, r, rfl, hb, h35, hm⟩ := h w (List.mem_cons_self ..)
    obtain ⟨ws, e, ew⟩ := words_join (v :: rest) (at_ + 1 + r.length + 1) fun x hx => h x (List.mem_cons_of_mem _ hx)
    have hm0 := hm (32 :: joinSp (v :: rest)) (.inr ⟨_, rfl⟩)
    refine ⟨(c :: r, at_) :: ws, ?_, by rw [List.map_cons, ew]⟩
    show words false (c :: (r ++ 32 :: joinSp (v :: rest))) at_ = _
    rw [words_word (skip_stop hb h35), hm0]
    dsimp only
    rw [List.drop_left, List.take_left, words_shift (bm' := false) (by simp [skipL]), e]
end Plain3
-- PART C7a
section WordsLoop
open PyProof.V PySem.Spec
/-- a word with its offset, as the program's tuple -/
def wdat (p : Wd) : Dat := .tuple [.str ⟨p.1.toArray⟩, .int p.2]
structure WS where
  at_ : Int
  t : Tok
  vs : List Value
  n : Nat
  tl : List (Addr × Obj)
  acc : List Wd
/-- what holds between the turns -/
structure WF (x : PySem.Str) (l : Addr) (news : List (Addr × Obj)) (c : WS) : Prop where
  lo : 0 ≤ c.at_
  hi : c.at_ ≤ (x.length : Int)
  stop : skT false x c.at_ = c.at_
  few : (c.vs.length : Int) ≤ c.at_
  dat : DatAll c.tl c.vs (c.acc.map wdat)
  off : ∀ p ∈ c.tl ++ news, p.1 ≠ l
  eq : words false x.cps.toList 0 = putE c.acc (words false (x.cps.toList.drop c.at_.toNat) c.at_.toNat)
def WLed (l : Addr) (news : List (Addr × Obj)) (c : WS) : List (Addr × Obj) := (l, listOf c.vs.toArray c.n) :: (c.tl ++ news)
def WEnd (h₀ : Heap) (L : Addr) (s : Shared) (x : PySem.Str) (l : Addr) (news : List (Addr × Obj)) (m₀ : Str → Option Value) (c : WS) (s₂ : Shared) : Prop :=
  ∃ (c' : WS) (h' : Heap) (tk : Nat) (m' : Str → Option Value), s₂ = { s with heap := h', toks := tk } ∧ Fr h₀ L h' m' ∧ News h₀ L h' (WLed l news c') ∧ m' "at" = some (.int c'.at_ c'.t) ∧ (∀ z : Str, z ≠ "at" → z ≠ "end" → m' z = m₀ z) ∧ WF x l news c' ∧ c.at_ < c'.at_
def WPost (h₀ : Heap) (L : Addr) (s : Shared) (x : PySem.Str) (l : Addr) (news : List (Addr × Obj)) (m₀ : Str → Option Value) (Q : Flow → Shared → Prop) (c : WS) (f : Flow) (s₂ : Shared) : Prop :=
  match f with
  | .ret v => Q (.ret v) s₂
  | .brk => Q .next s₂
  | _ => WEnd h₀ L s x l news m₀ c s₂
variable {prog : Program} {w : World} {A : Around} {E : Value → Shared → Prop} {Q : Flow → Shared → Prop} {s : Shared} {env : Env} {h₀ : Heap} {L l : Addr} {news : List (Addr × Obj)} {x : PySem.Str}
theorem words_while {test : PySem.Expr} {body : List Stmt} {pos : Pos} {m₀ : Str → Option Value} {i : Int} {ti : Tok} (x : PySem.Str)
    (F : Fr h₀ L s.heap m₀) (N : News h₀ L s.heap ((l, listOf #[] 0) :: news)) (off : ∀ p ∈ news, p.1 ≠ l) (hat : m₀ "at" = some (.int i ti)) (h0 : 0 ≤ i) (h1 : i ≤ (x.length : Int)) (hs : skT false x i = i)
    (he : words false x.cps.toList 0 = words false (x.cps.toList.drop i.toNat) i.toNat)
    (turn : ∀ (c : WS) (u : Str → Option Value) h tk, WF x l news c → Fr h₀ L h (fun z : Str => if z = "at" then some (.int c.at_ c.t) else if z = "end" then u z else m₀ z) → News h₀ L h (WLed l news c) →
      wpAny (model prog w) A (isTrue test env (eval test env)) (fun b s₂ =>
        if b = true then wpAny (model prog w) A (execs body env) (WPost h₀ L s x l news m₀ Q c) E s₂ else Q .next s₂) E { s with heap := h, toks := tk })
    (hE : PassesOwn (model prog w) A env E := by passes_own) :
    wpAny (model prog w) A (exec (.While test body [] pos) env) Q E s := by
  have N' : News h₀ L s.heap (WLed l news ⟨i, ti, [], 0, [], []⟩) := N
  refine While_inv2 (fun n m nx => ∃ c : WS, nx = WLed l news c ∧ ((x.length : Int) - c.at_).toNat = n ∧ WF x l news c ∧ m "at" = some (.int c.at_ c.t) ∧ (∀ z : Str, z ≠ "at" → z ≠ "end" → m z = m₀ z)) F N'
    ⟨⟨i, ti, [], 0, [], []⟩, rfl, rfl, ⟨h0, h1, hs, by simpa using h0, .nil, by simpa using off, ?_⟩, hat, fun _ _ _ => rfl⟩ ?_ hE
  · rw [he]
    cases words false (x.cps.toList.drop i.toNat) i.toNat <;> simp [putE]
  rintro n m₁ nx h tk F₁ N₁ ⟨c, hnx, hsz, hf, hm, hr⟩
  rw [hnx] at N₁
  rw [← hsz]
  have em : (fun z : Str => if z = "at" then some (.int c.at_ c.t) else if z = "end" then m₁ z else m₀ z) = m₁ := by
    funext z
    by_cases h1 : z = "at"
    · rw [if_pos h1, h1, hm]
    · rw [if_neg h1]
      by_cases h2 : z = "end"
      · rw [if_pos h2]
      · rw [if_neg h2, hr z h1 h2]
  refine wpAny_mono (turn c m₁ h tk hf (by rw [em]; exact F₁) N₁) (fun b s₂ p => ?_) fun _ _ x => x
  cases b with
  | false => simpa using p
  | true =>
    simp only [if_true] at p ⊢
    refine wpAny_mono p (fun f s₃ q => ?_) fun _ _ x => x
    have fin : WEnd h₀ L s x l news m₀ c s₃ → ∃ (h' : Heap) (tk' : Nat) (m' : Str → Option Value) (nx' : List (Addr × Obj)) (n' : Nat), s₃ = { s with heap := h', toks := tk' } ∧ Fr h₀ L h' m' ∧ News h₀ L h' nx' ∧ n' < ((x.length : Int) - c.at_).toNat ∧
        ∃ c : WS, nx' = WLed l news c ∧ ((x.length : Int) - c.at_).toNat = n' ∧ WF x l news c ∧ m' "at" = some (.int c.at_ c.t) ∧ (∀ z : Str, z ≠ "at" → z ≠ "end" → m' z = m₀ z) := by
      rintro ⟨c', h', tk', m', rfl, F', N', hm', hr', hf', hlt⟩
      exact ⟨h', tk', m', _, _, rfl, F', N', by have := hf'.hi; omega, c', rfl, rfl, hf', hm', hr'⟩
    cases f with
    | ret v => exact q
    | brk => exact q
    | next => exact fin q
    | cont => exact fin q
end WordsLoop
-- PART C7b
section Ties
theorem has_tie {y : PySem.Str} {f : Nat → Bool} (h1 : ∀ c, c < 128 → has y c = f c) (h2 : y.cps.toList.all (fun c => decide (c < 128)) = true) (h3 : ∀ c, 128 ≤ c → f c = false) (c : Nat) : has y c = f c := by
  by_cases h : c < 128
  · exact h1 c h
  · rw [h3 c (by omega), has_eq, decide_eq_false_iff_not]
    intro hm
    have := List.all_eq_true.mp h2 c hm
    simp at this
    exact h this
theorem has_let (c : Nat) : has sLet c = isL c := has_tie (by decide +kernel) (by decide +kernel) (fun c h => by simp [isL]; omega) c
theorem has_fig (c : Nat) : has sFig c = isF c := has_tie (by decide +kernel) (by decide +kernel) (fun c h => by simp [isF]; omega) c
theorem has_sig (c : Nat) : has sSig c = isS c := has_tie (by decide +kernel) (by decide +kernel) (fun c h => by simp [isS]; omega) c
theorem has_word (c : Nat) : has (sLet ++ sFig) c = isW c := has_tie (by decide +kernel) (by decide +kernel) (fun c h => by simp [isW, isL, isF]; omega) c
theorem is_min (c : Nat) : (((⟨#[c]⟩ : PySem.Str) == sMin) = true) ↔ c = 45 := by
  have : sMin = ⟨#[45]⟩ := by decide +kernel
  rw [this]; exact is_one _ _
theorem tw_congr {p q : Nat → Bool} (h : ∀ c, p c = q c) (l : List Nat) : l.takeWhile p = l.takeWhile q := by
  have : p = q := funext h
  rw [this]
theorem runEndI_tw {x : PySem.Str} {y : PySem.Str} {f : Nat → Bool} (h : ∀ c, has y c = f c) {i : Int} (h0 : 0 ≤ i) : runEndI x i y = i + (((x.cps.toList.drop i.toNat).takeWhile f).length : Int) := by
  unfold runEndI runEnd
  have : (x.cps.toList.drop i.toNat).takeWhile y.cps.toList.contains = (x.cps.toList.drop i.toNat).takeWhile f := tw_congr (fun c => h c) _
  rw [this]
  push_cast
  omega
/-- the word's end, in the plain words -/
theorem wordEndI_eq {x : PySem.Str} {i : Int} (h0 : 0 ≤ i) (h : i < (x.length : Int)) : wordEndI x i = (wordMore (cod x i) (x.cps.toList.drop (i + 1).toNat)).map (fun n : Nat => i + 1 + (n : Int)) := by
  have hd := drop_cod h0 h
  unfold wordEndI wordMore
  rw [has_let, has_fig, has_sig]
  cases hl : isL (cod x i) with
  | true =>
    simp only [if_true]
    rw [runEndI_tw has_word h0, hd, List.takeWhile_cons, if_pos (by simp [isW, hl]), List.length_cons]
    congr 1
    push_cast
    omega
  | false =>
    simp only [Bool.false_eq_true, if_false]
    cases hf : isF (cod x i) with
    | true =>
      simp only [if_true]
      rw [runEndI_tw has_fig h0, hd, List.takeWhile_cons, if_pos hf, List.length_cons]
      congr 1
      push_cast
      omega
    | false =>
      simp only [Bool.false_eq_true, if_false, is_min]
      have hr := runEndI_tw (x := x) has_fig (i := i + 1) (by omega)
      rw [hr]
      by_cases hm : cod x i = 45 ∧ 0 < ((x.cps.toList.drop (i + 1).toNat).takeWhile isF).length
      · rw [if_pos ⟨hm.1, by omega⟩, if_pos hm]
        rfl
      · rw [if_neg (fun e => hm ⟨e.1, by omega⟩), if_neg hm]
        cases isS (cod x i) <;> simp
theorem skT_eq (b : Bool) (x : PySem.Str) (i : Int) : skT b x i = i + (skipL b (x.cps.toList.drop i.toNat) : Int) := rfl
theorem drop_one_add (n : Nat) (c : Nat) (r : List Nat) : (c :: r).drop (1 + n) = r.drop n := by rw [Nat.add_comm]; rfl
theorem skip_idem : ∀ (l : List Nat) (b : Bool), skipL false (l.drop (skipL b l)) = 0
  | [], b => by cases b <;> rfl
  | c :: r, true => by
    have h1 := skip_idem r false
    have h2 := skip_idem r true
    rw [skipL]
    split
    · rw [drop_one_add]; exact h1
    · rw [drop_one_add]; exact h2
  | c :: r, false => by
    have h1 := skip_idem r false
    have h2 := skip_idem r true
    by_cases hb : c = 32 ∨ c = 9 ∨ c = 13 ∨ c = 10
    · have e : skipL false (c :: r) = 1 + skipL false r := by simp [skipL, hb]
      rw [e, drop_one_add]; exact h1
    · by_cases hr : c = 35
      · have e : skipL false (c :: r) = 1 + skipL true r := by simp [skipL, hb, hr]
        rw [e, drop_one_add]; exact h2
      · have e : skipL false (c :: r) = 0 := by simp [skipL, hb, hr]
        rw [e]
        exact e
/-- a skip changes nothing in the words -/
theorem words_skip {x : PySem.Str} {i : Int} (h0 : 0 ≤ i) : words false (x.cps.toList.drop i.toNat) i.toNat = words false (x.cps.toList.drop (skT false x i).toNat) (skT false x i).toNat := by
  have e : (skT false x i).toNat = i.toNat + skipL false (x.cps.toList.drop i.toNat) := by rw [skT_eq]; omega
  rw [e, ← List.drop_drop]
  generalize x.cps.toList.drop i.toNat = l
  generalize i.toNat = a
  rw [words_eq false (l.drop (skipL false l)), skip_idem l false, words_eq false l]
  rfl
theorem words_step {x : PySem.Str} {i : Int} (h0 : 0 ≤ i) (h : i < (x.length : Int)) (hs : skT false x i = i) : words false (x.cps.toList.drop i.toNat) i.toNat = (match wordEndI x i with
    | none => .error i.toNat
    | some k => match words false (x.cps.toList.drop k.toNat) k.toNat with
      | .ok ws => .ok (((x.cps.toList.drop i.toNat).take (k.toNat - i.toNat), i.toNat) :: ws)
      | .error e => .error e) := by
  have hd := drop_cod h0 h
  have hk : skipL false (cod x i :: x.cps.toList.drop (i + 1).toNat) = 0 := by
    rw [← hd]
    rw [skT_eq] at hs
    omega
  rw [hd, words_word hk, wordEndI_eq h0 h]
  cases wordMore (cod x i) (x.cps.toList.drop (i + 1).toNat) with
  | none => rfl
  | some n =>
    dsimp only [Option.map]
    have e1 : (i + 1 + (n : Int)).toNat = i.toNat + 1 + n := by omega
    have e2 : (x.cps.toList.drop (i + 1).toNat).drop n = x.cps.toList.drop (i.toNat + 1 + n) := by
      rw [List.drop_drop]
      congr 1
      omega
    have e3 : (cod x i :: x.cps.toList.drop (i + 1).toNat).take (i.toNat + 1 + n - i.toNat) = cod x i :: (x.cps.toList.drop (i + 1).toNat).take n := by
      have : i.toNat + 1 + n - i.toNat = n + 1 := by omega
      rw [this, List.take_succ_cons]
    rw [e1, e2, e3]
    try (cases words false (x.cps.toList.drop (i.toNat + 1 + n)) (i.toNat + 1 + n) <;> rfl)
end Ties
-- PART C8
section Words3
theorem ne_of_lts {l : Addr} {news : List (Addr × Obj)} (h : ∀ p ∈ news, p.1 < l) : ∀ p ∈ news, p.1 ≠ l := fun p hp => Nat.ne_of_lt (h p hp)
theorem skT_idem {x : PySem.Str} {i : Int} (h0 : 0 ≤ i) : skT false x (skT false x i) = skT false x i := by
  have e : (skT false x i).toNat = i.toNat + skipL false (x.cps.toList.drop i.toNat) := by rw [skT_eq]; omega
  have h := skip_idem (x.cps.toList.drop i.toNat) false
  rw [List.drop_drop, ← e] at h
  rw [skT_eq false x (skT false x i), h]
  omega
theorem RaisedD.drop {base G h : Heap} {l : List Env} {e dx : Addr} {news news' : List (Addr × Obj)} (R : RaisedD base G l e dx news h) (hs : ∀ p ∈ news', p ∈ news) : RaisedD base G l e dx news' h := by
  obtain ⟨⟨B, a0, x1, x2, x3, x4⟩, x5⟩ := R
  exact ⟨⟨B, a0, x1, x2, fun q hq => x3 q (hs q hq), x4⟩, x5⟩
theorem news_swap {h₀ h : Heap} {L : Addr} {p q : Addr × Obj} {l l' : List (Addr × Obj)} (N : News h₀ L h (p :: q :: l)) (he : ∀ r ∈ l', r = q ∨ r = p ∨ r ∈ l) : News h₀ L h l' := by
  intro r hr
  rcases he r hr with rfl | rfl | h
  · exact N _ (.tail _ (.head _))
  · exact N _ (.head _)
  · exact N _ (.tail _ (.tail _ h))
theorem slice_wd {x : PySem.Str} {i k : Int} (h0 : 0 ≤ i) (h1 : i < k) (h2 : k ≤ (x.length : Int)) : Txt.slice x (some i) (some k) = ⟨((x.cps.toList.drop i.toNat).take (k.toNat - i.toNat)).toArray⟩ := by
  have e := eq_of_beq (slice_closesL (x := x) (i := i) (j := k) h0 (by omega) h2)
  have e2 : (k - i).toNat = k.toNat - i.toNat := by omega
  rw [e, e2]
abbrev wobj (y : PySem.Str) (t : Tok) (i : Int) (u : Tok) : Obj := { cls := .type "tuple", data := .seq #[.str y t, .int i u] }
theorem wdat_in {l : List (Addr × Obj)} {D : Addr} {x : PySem.Str} {a : List Nat} {i : Int} {t u : Tok} {n : Nat} {y : PySem.Str} (h0 : 0 ≤ i) (hm : (D, ({ cls := .type "tuple", data := .seq #[.str y t, .int i u] } : Obj)) ∈ l) (hy : y = ⟨a.toArray⟩) (hn : i.toNat = n) :
    DatIn l (.ref D) (wdat (a, n)) := by
  subst hy hn
  have e : ((i.toNat : Nat) : Int) = i := by omega
  unfold wdat
  dsimp only
  rw [e]
  exact .tuple (vs := [.str ⟨a.toArray⟩ t, .int i u]) (n := 0) hm (.cons (.str _ _) (.cons (.int _ _) .nil))
theorem words_turn {h₀ h : Heap} {L l D : Addr} {s : Shared} {x : PySem.Str} {news : List (Addr × Obj)} {m₀ m' : Str → Option Value} {c : WS} {k : Int} {t' t2 : Tok} {tk : Nat}
    (hf : WF x l news c) (hlt : c.at_ < (x.length : Int)) (hk : wordEndI x c.at_ = some k) (F : Fr h₀ L h m')
    (N : News h₀ L h ((D, ({ cls := .type "tuple", data := .seq #[.str (Txt.slice x (some c.at_) (some k)) t', .int c.at_ c.t] } : Obj)) :: (l, listOf (c.vs.toArray.push (.ref D)) (c.n + 1)) :: (c.tl ++ news)))
    (hD : l < D) (hm : m' "at" = some (.int (skT false x k) t2)) (hr : ∀ z : Str, z ≠ "at" → z ≠ "end" → m' z = m₀ z) : WEnd h₀ L s x l news m₀ c { s with heap := h, toks := tk } := by
  have hg := wordEndI_gt hf.lo hlt hk
  have g1 := skT_ge false x k
  have g2 := skT_le (x := x) (i := k) false (by have := hf.lo; omega) hg.2
  have e0 : c.vs.toArray.push (.ref D) = (c.vs ++ [Value.ref D]).toArray := by simp
  rw [e0] at N
  have lo := hf.lo
  refine ⟨⟨skT false x k, t2, c.vs ++ [.ref D], c.n + 1, (D, wobj (Txt.slice x (some c.at_) (some k)) t' c.at_ c.t) :: c.tl, c.acc ++ [((x.cps.toList.drop c.at_.toNat).take (k.toNat - c.at_.toNat), c.at_.toNat)]⟩, h, tk, m', rfl, F, news_swap N ?_, hm, hr, ⟨?_, g2, skT_idem (by omega), ?_, ?_, ?_, ?_⟩, ?_⟩
  · intro r hr
    rcases List.mem_cons.mp hr with rfl | hr
    · exact .inl rfl
    · rcases List.mem_cons.mp hr with rfl | hr
      · exact .inr (.inl rfl)
      · exact .inr (.inr hr)
  · show 0 ≤ skT false x k; omega
  · have := hf.few
    show ((c.vs ++ [Value.ref D]).length : Int) ≤ skT false x k
    rw [List.length_append]
    simp only [List.length_cons, List.length_nil]
    push_cast
    omega
  · show DatAll ((D, _) :: c.tl) (c.vs ++ [.ref D]) ((c.acc ++ [_]).map wdat)
    rw [List.map_append]
    exact (DatAll.mono (fun _ h => .tail _ h) hf.dat).append (.one (wdat_in (x := x) lo (.head _) (slice_wd lo hg.1 hg.2) rfl))
  · intro p hp
    rcases List.mem_cons.mp hp with rfl | hp
    · exact Nat.ne_of_gt hD
    · exact hf.off p hp
  · show words false x.cps.toList 0 = putE (c.acc ++ [_]) (words false (x.cps.toList.drop (skT false x k).toNat) (skT false x k).toNat)
    rw [hf.eq, words_step lo hlt hf.stop, hk, ← words_skip (by omega), putE_cons]
    try (dsimp only; generalize words false (List.drop k.toNat x.cps.toList) k.toNat = r; cases r <;> rfl)
  · show c.at_ < skT false x k; omega
theorem words_fin {x : PySem.Str} {l : Addr} {news : List (Addr × Obj)} {c : WS} (hf : WF x l news c) (h : ¬ c.at_ < (x.length : Int)) : words false x.cps.toList 0 = .ok c.acc := by
  rw [hf.eq, drop_end (by omega), words_nil]
  simp [putE]
theorem words_bad {x : PySem.Str} {l : Addr} {news : List (Addr × Obj)} {c : WS} (hf : WF x l news c) (hlt : c.at_ < (x.length : Int)) (hk : wordEndI x c.at_ = none) : words false x.cps.toList 0 = .error c.at_.toNat := by
  rw [hf.eq, words_step hf.lo hlt hf.stop, hk]
  rfl
theorem words_done {h₀ h : Heap} {L l D : Addr} {x : PySem.Str} {news : List (Addr × Obj)} {c : WS} {t u : Tok} (hf : WF x l news c) (hlt : ¬ c.at_ < (x.length : Int))
    (N : News h₀ L h ((D, ({ cls := .type "tuple", data := .seq #[.str (PySem.Str.ofString "") t, .int (x.length : Int) u] } : Obj)) :: (l, listOf (c.vs.toArray.push (.ref D)) (c.n + 1)) :: (c.tl ++ news))) (hD : l < D) :
    ∃ tl vs n, c.vs.toArray.push (.ref D) = vs.toArray ∧ News h₀ L h ((l, listOf vs.toArray n) :: (tl ++ news)) ∧ DatAll tl vs ((c.acc ++ [([], x.length)]).map wdat) ∧ (∀ p ∈ tl ++ news, p.1 ≠ l) := by
  have e0 : c.vs.toArray.push (.ref D) = (c.vs ++ [Value.ref D]).toArray := by simp
  rw [e0] at N
  refine ⟨(D, wobj (PySem.Str.ofString "") t (x.length : Int) u) :: c.tl, c.vs ++ [.ref D], c.n + 1, e0, news_swap N ?_, ?_, ?_⟩
  · intro r hr
    rcases List.mem_cons.mp hr with rfl | hr
    · exact .inl rfl
    · rcases List.mem_cons.mp hr with rfl | hr
      · exact .inr (.inl rfl)
      · exact .inr (.inr hr)
  · rw [List.map_append]
    exact (DatAll.mono (fun _ h => .tail _ h) hf.dat).append (.one (wdat_in (x := x) (by omega) (.head _) (by decide +kernel) (by omega)))
  · intro p hp
    rcases List.mem_cons.mp hp with rfl | hp
    · exact Nat.ne_of_gt hD
    · exact hf.off p hp
set_option maxHeartbeats 8000000 in
theorem words_c (w : World) (mean : ExcName → Option Value) (mg mb : Str → Option Value) (x : PySem.Str) (tx : Tok) (news : CbLed)
    (dp un : Nat) (gd : Option (List Code)) (cn : Str) (cs : Scope) (a : Addr) (ccd : Value) (cl : List (Str × Addr)) (outer : List Env) (A₀ : Around) (base h₀ : Heap) (L : Addr) (m : Str → Option Value) (s : Shared) (Q E : Value → Shared → Prop)
    (B : Below A₀ base outer h₀) (F : Fr h₀ L s.heap m) (X : (hd.heap_39 w.params).In h₀) (N : News h₀ L s.heap news) (T : Top hd.view_39 Lo0 mean mg mb h₀) (hcs : cs.kind = .function)
    (hp : x.length ≤ 900) (hd1 : dp + 10 < recursionLimit) (hu1 : un + 300 < cLine)
    (hok : ∀ ws, words false x.cps.toList 0 = .ok ws → ∀ l vs n tl h' tk', Fr h₀ L h' m → News h₀ L h' ((l, listOf vs.toArray n) :: (tl ++ news)) → DatAll tl vs ((ws ++ [([], x.length)]).map wdat) → (∀ p ∈ tl ++ news, p.1 ≠ l) → Q (.ref l) { s with heap := h', toks := tk' })
    (herr : ∀ at_, words false x.cps.toList 0 = .error at_ → ∀ (e dx : Addr) (dO : Obj) (y : PySem.Str) (ty ti' : Tok) (G h' : Heap) (tk' : Nat), Fr h₀ L G m → RaisedD base G (envX cn cs L a ccd cl :: outer) e dx ((dx, dO) :: news) h' → G.UpToSlots h' → DH dO (atDict y ty (at_ : Int) ti') → E (.ref e) { s with heap := h', toks := tk' }) :
    wpAny (model PySem.Challenge.rw_pb0150_01.row.prog w) (ktrTop dp un gd cn cs L a ccd cl outer) (call (.ref 91) [.str x tx]) Q E s := by
  k_with_none
  w_top off
  k_with "subscriptTail Name Name str int" => (k_here; (with_reducible show wpAny _ _ (subscriptTail _ _ (Value.str _ _) (Value.int _ _)) _ _ _); (refine my_item (by omega) (by omega) (by omega) ?_))
  k_with "compareOp In str str" => (k_here; (with_reducible show wpAny _ _ (compareOp CmpOp.In (Value.str (PySem.Str.mk _) _) (Value.str _ _)) _ _ _); refine my_in ?_)
  k_with "compareOp NotIn str str" => (k_here; (with_reducible show wpAny _ _ (compareOp CmpOp.NotIn (Value.str (PySem.Str.mk _) _) (Value.str _ _)) _ _ _); refine my_notIn ?_)
  k_with "call ref" => (k_here; (with_reducible show wpAny _ _ (call (Value.ref 70) [_, _, _]) _ _ _); k_dflt (refine' run_end_u ?row9k1 ?row9k2 ?row9k3 ?row9k4 ?row9k5 ?row9kK ?row9kp ?row9kd ?row9ku ?_; (case row9k1 => k_asm); (case row9k2 => k_asm); (case row9k3 => k_asm); (case row9k4 => k_asm); (case row9k5 => k_asm); (case row9kK => first | exact rfl | assumption); (case row9kp => (refine ⟨?_, ?_, ?_⟩ <;> omega)); (case row9kd => (first | omega | ktr_room | ((try simp only [depth_deeper, depth_in1]); (try dsimp only [ktrTop]); omega))); (case row9ku => (first | omega | ktr_units | ((try simp only [units_in1, units_deeper, Around.mark_units, units_caller]); (try dsimp only [ktrTop]); omega)))); intro t9 h9 tk9 F9 N9; (try dsimp only); (try k_fold))
  k_with "exec Raise some none" => (k_here; k_dflt (refine' x_Raise ?row10k1 ?_; (case row10k1 => first | rfl | assumption)))
  k_with "call ref" => (k_here; (with_reducible show wpAny _ _ (call (Value.ref 61) [_, _]) _ _ _); k_dflt (refine' x_makeK _ _ _ _ _ _ _ _ _ _ _ _ _ _ _ _ _ _ _ _ ?row11k1 ?row11k2 ?row11k3 ?row11k4 ?row11k5 ?row11kA ?row11kF ?row11kK ?row11kd ?_; (case row11k1 => k_asm); (case row11k2 => k_asm); (case row11k3 => k_asm); (case row11k4 => k_asm); (case row11k5 => k_asm); (case row11kA => exact rfl); (case row11kF => exact rfl); (case row11kK => exact rfl); (case row11kd => (first | omega | ktr_room | ((try simp only [depth_deeper, depth_in1]); (try dsimp only [ktrTop]); omega)))); intro h' tk' e' eo' vs' dx' dO' t1' F' N' O' z0' z1' D' hde' off' offd'; (try dsimp only); refine ⟨_, _, _, _, rfl, Frag.In.keeps (by k_asm) (Fr.keep F'), x_mem N' (List.Mem.head _), O', z1', ?_⟩; (try dsimp only))
  k_with "leaving ref" => (k_here; k_dflt (refine' leave_firstD ?row12k1 ?row12k2 ?row12k3 ?row12k4 ?row12k5 ?row12k6 ?row12k7 ?_; (case row12k1 => k_asm); (case row12k2 => assumption); (case row12k3 => assumption); (case row12k4 => assumption); (case row12k5 => assumption); (case row12k6 => assumption); (case row12k7 => exact List.forall_mem_cons.mpr ⟨by assumption, by assumption⟩)); intro h' R' U'; (try dsimp only))
  k_with "call ref" => (k_here; (with_reducible show wpAny _ _ (call (Value.ref 77) [_, _]) _ _ _); k_dflt (refine' skipped_u ?row13k1 ?row13k2 ?row13k3 ?row13k4 ?row13k5 ?row13kK ?row13kp ?row13kd ?row13ku ?_; (case row13k1 => k_asm); (case row13k2 => k_asm); (case row13k3 => k_asm); (case row13k4 => k_asm); (case row13k5 => k_asm); (case row13kK => first | exact rfl | assumption); (case row13kp => (refine ⟨?_, ?_, ?_⟩ <;> omega)); (case row13kd => (first | omega | ktr_room | ((try simp only [depth_deeper, depth_in1]); (try dsimp only [ktrTop]); omega))); (case row13ku => (first | omega | ktr_units | ((try simp only [units_in1, units_deeper, Around.mark_units, units_caller]); (try dsimp only [ktrTop]); omega)))); intro t9 h9 tk9 F9 N9; (try dsimp only); (try k_fold))
  k_with "call ref" => (k_here; (with_reducible show wpAny _ _ (call (Value.ref 84) [_, _]) _ _ _); k_dflt (refine' word_end_c _ _ _ _ _ _ _ _ _ _ _ _ _ _ _ _ _ _ _ _ _ _ _ _ _ _ ?row14k1 ?row14k2 ?row14k3 ?row14k4 ?row14k5 ?row14kK ?row14kp ?row14kd ?row14ku ?row14ko ?row14ke; (case row14k1 => k_asm); (case row14k2 => k_asm); (case row14k3 => k_asm); (case row14k4 => k_asm); (case row14k5 => k_asm); (case row14kK => first | exact rfl | assumption); (case row14kp => (refine ⟨?_, ?_, ?_⟩ <;> omega)); (case row14kd => (first | omega | ktr_room | ((try simp only [depth_deeper, depth_in1]); (try dsimp only [ktrTop]); omega))); (case row14ku => (first | omega | ktr_units | ((try simp only [units_in1, units_deeper, Around.mark_units, units_caller]); (try dsimp only [ktrTop]); omega)))); rotate_left; (intro hn9 e9 dx9 dO9 y9 ty9 ti9 G9 h9 tk9 F9 R9 U9 D9; (try dsimp only)); rotate_left; (intro k9 hk9 t9 h9 tk9 F9 N9; have kq9 := wordEndI_gt (by omega) (by omega) hk9; obtain ⟨kp9, kq9⟩ := kq9; (try dsimp only)))
  k_with "leaving ref" => (k_here; k_dflt (refine' leave_onD ?row15k1 ?row15k2 ?row15k3 ?row15k4 ?_; (case row15k1 => k_asm); (case row15k2 => assumption); (case row15k3 => assumption); (case row15k4 => assumption)); intro h' R' U'; (try dsimp only))
  revert X; k_fill; intro X
  have z0 : (0 : Int) ≤ skT false x 0 := skT_ge false x 0
  have z1 : skT false x 0 ≤ (x.length : Int) := skT_le false (by omega) (by omega)
  have z2 : skT false x (skT false x 0) = skT false x 0 := skT_idem (by omega)
  have z3 : words false x.cps.toList 0 = words false (x.cps.toList.drop (skT false x 0).toNat) (skT false x 0).toNat := words_skip (x := x) (i := 0) (by omega)
  refine wpAny_call ?_
  k_dflt cell_enter
  k_with "exec While Compare cons nil" =>  (k_dflt (refine' words_while x ?w1 ?w2 ?w3 ?w4 z0 z1 z2 z3 ?_; (case w1 => k_asm); (case w2 => k_asm); (case w3 => exact ne_of_lts (by assumption)); (case w4 => with_unfolding_all rfl)); intro c u hw tkw hf kF kN; (dsimp only [WLed] at kN); have y0 := hf.lo; have y1 := hf.hi; have y2 := hf.off; have y3 : c.vs.toArray.size ≤ 900 := (by have := hf.few; rw [List.size_toArray]; omega); (try k_fold))
  k_steps
  all_goals first
    | (obtain ⟨tl, vs, n, ev, NN, DD, OO⟩ := words_done hf (by assumption) (by assumption) (And.left (b := AllLt _ (c.tl ++ news)) (by assumption)); exact hok _ (words_fin hf (by assumption)) _ _ _ _ _ _ (by assumption) NN DD OO)
    | exact words_turn hf (by assumption) (by assumption) (by assumption) (by assumption) (And.left (b := AllLt _ (c.tl ++ news)) (by assumption)) rfl (fun z h1 h2 => by simp only [if_neg h1, if_neg h2])
    | exact herr _ (words_bad hf (by assumption) (by assumption)) _ _ _ _ _ _ _ _ _ (by assumption) (RaisedD.drop (by assumption) (fun p hp => by
        rcases List.mem_cons.mp hp with rfl | hp
        · exact .head _
        · exact .tail _ (.tail _ (List.mem_append_right _ hp)))) (by assumption) (by rw [Int.toNat_of_nonneg y0]; assumption)
end Words3
-- PART C9
section EnumStr
open PyProof.V PySem.Spec
def enumSigns : Nat → List Nat → List Itm
  | _, [] => []
  | i, c :: r => .pairF (fun t => .int (i : Int) t) (.str ⟨#[c]⟩) :: enumSigns (i + 1) r
theorem enumSigns_length : ∀ (l : List Nat) (a : Nat), (enumSigns a l).length = l.length
  | [], _ => rfl
  | _ :: r, a => congrArg (· + 1) (enumSigns_length r (a + 1))
theorem enumSigns_get : ∀ (l : List Nat) (a i : Nat) {c : Nat}, l[i]? = some c → (enumSigns a l)[i]? = some (.pairF (fun t => .int ((a + i : Nat) : Int) t) (.str ⟨#[c]⟩))
  | [], _, _, _, h => by simp at h
  | x :: r, a, 0, c, h => by
    have e : x = c := by simpa using h
    subst e
    rfl
  | x :: r, a, i + 1, c, h => by
    have h' : r[i]? = some c := by simpa using h
    have q := enumSigns_get r (a + 1) i h'
    have e : a + 1 + i = a + (i + 1) := by omega
    rw [e] at q
    simpa [enumSigns] using q
variable {prog : Program} {w : World} {A : Around} {E : Value → Shared → Prop} {s : Shared} {env : Env} {h₀ : Heap} {body : List Stmt} {Q : Flow → Shared → Prop}
theorem draws_str (hh : A.handled = none) (it : Addr) (y : PySem.Str) (t : Tok) :
    Draws prog w A it [it] y.cps.size (fun i v => ∃ c u, y.cps[i]? = some c ∧ v = .str ⟨#[c]⟩ u) (fun i h => h.IsStrIter it (strIterType y) y t i) := by
  unfold strIterType
  cases y.cps.all (· < 128) with
  | true => exact Draws.strAscii hh it y t
  | false => exact Draws.strWide hh it y t
theorem enum_str {elts : List PySem.Expr} {k : Nat} {pos : Pos} {y : PySem.Str} {t : Tok} {m₀ : Str → Option Value} {news : List (Addr × Obj)}
    (hh : A.handled = none) (F : Fr h₀ env.locals s.heap m₀) (N : News h₀ env.locals s.heap news)
    (rest₀ : ∀ I : Addr, (∀ p ∈ news, p.1 < I) → ItemsRest prog w A E h₀ env (.Tuple elts k pos) body Q s [(I + 1, "enumerate"), (I, strIterType y)] [] (enumSigns 0 y.cps.toList) m₀ news) :
    wpAny (model prog w) A (call (.type "enumerate") [.str y t]) (fun xv s₁ => wpAny (model prog w) A (pyIter xv) (fun it s₂ => TurnsAt prog w A h₀ env (.Tuple elts k pos) body Q E it s₂) E s₁) E s := by
  have hLs : env.locals < s.heap.objs.size := F.ns.lt
  refine call_enumerate_str fun h' hE hI hsz hk => ?_
  refine wpAny_pyIter_enum hE ?_
  refine ktu_core (tk0 := s.toks) (keep := []) (KTurns.ofWalksU (WalksT.enumerateD (draws_str (show A.in1.handled = none from hh) s.heap.objs.size y t) (s.heap.objs.size + 1) (Nat.succ_ne_self _) (by simp) (by simp)).toU) (by simp [enumSigns_length]) ?_ ?_ ?_ ?_ ?_ ?_ ?_ ?_ (F.keeps hk) (N.grown hk) trivial (rest₀ _ fun p hp => Heap.lt_size (N p hp).1)
  · rintro i v h ⟨T, vals, rfl, ⟨t, x, ⟨c, u, hc, rfl⟩, rfl⟩, hT⟩
    have q := enumSigns_get y.cps.toList 0 i (c := c) (by simpa using hc)
    rw [Nat.zero_add] at q
    exact ⟨_, q, T, t, _, rfl, Flat.str _ _, hT⟩
  · rintro i h ⟨⟨old, he⟩, ⟨oi, hoi, hic, _⟩⟩
    have he' : ∃ oe : Obj, h.get? (s.heap.objs.size + 1) = some oe ∧ oe.cls = .type "enumerate" := ⟨_, he, rfl⟩
    obtain ⟨oe, h1, h2⟩ := he'
    refine ⟨[(s.heap.objs.size + 1, oe), (s.heap.objs.size, oi)], ⟨⟨rfl, h2⟩, ⟨rfl, hic⟩, trivial⟩, fun p hp => ?_⟩
    rcases List.mem_cons.mp hp with rfl | hp
    · exact h1
    · rw [List.mem_singleton.mp hp]; exact hoi
  · intro b hb
    have hb' : b = s.heap.objs.size + 1 ∨ b = s.heap.objs.size := by simpa using hb
    rcases hb' with rfl | rfl
    · exact ⟨by simp, ktu_new F (Nat.le_add_right _ _)⟩
    · exact ⟨by simp, ktu_new F (Nat.le_refl _)⟩
  · intro b hb
    simpa using hb
  · intro b hb
    have hb' : b = s.heap.objs.size + 1 ∨ b = s.heap.objs.size := by simpa using hb
    rcases hb' with rfl | rfl
    · exact .inl (by simp)
    · exact .inl (by simp)
  · intro hI'
    have hb' : env.locals = s.heap.objs.size + 1 ∨ env.locals = s.heap.objs.size := by simpa using hI'
    rcases hb' with e | e
    · exact ktu_ne 1 hLs e
    · exact Nat.ne_of_lt hLs e
  · intro p hp hI'
    have hb' : p.1 = s.heap.objs.size + 1 ∨ p.1 = s.heap.objs.size := by simpa using hI'
    have hlp := Heap.lt_size (N p hp).1
    rcases hb' with e | e
    · exact ktu_ne 1 hlp e
    · exact Nat.ne_of_lt hlp e
  · exact ⟨⟨.none, hE⟩, hI⟩
end EnumStr
section LawLoop
open PyProof.V PySem.Spec
def modeS : Nat → PySem.Str
  | 0 => PySem.Str.ofString ""
  | 1 => PySem.Str.ofString "name"
  | 2 => PySem.Str.ofString "number"
  | 3 => PySem.Str.ofString "minus"
  | _ => PySem.Str.ofString "remark"
structure LS where
  mode : Nat
  tm : Tok
  b : Nat
  tb : Tok
  vs : List Value
  n : Nat
  tl : List (Addr × Obj)
  acc : List Wd
structure LF (x : PySem.Str) (l : Addr) (news : List (Addr × Obj)) (i : Nat) (c : LS) (rest : List Nat) : Prop where
  mode : c.mode ≤ 4
  bi : c.b ≤ i
  hi : i ≤ x.length + 1
  few : c.vs.length ≤ 2 * i
  dat : DatAll c.tl c.vs (c.acc.map wdat)
  off : ∀ p ∈ c.tl ++ news, p.1 ≠ l
  tup : ∀ p ∈ c.tl, p.2.cls = .type "tuple"
  left : (x.cps.toList ++ [10]).drop i = rest
  eq : words false x.cps.toList 0 = mach c.mode ((x.cps.toList.drop c.b).take (i - c.b)) c.b i c.acc rest
def LLed (l : Addr) (news : List (Addr × Obj)) (c : LS) : List (Addr × Obj) := (l, listOf c.vs.toArray c.n) :: (c.tl ++ news)
def LEnd (h₀ : Heap) (L : Addr) (s : Shared) (x : PySem.Str) (l : Addr) (news : List (Addr × Obj)) (m₀ : Str → Option Value) (i : Nat) (rest : List Nat) (pe pi : Addr × Obj) (s₂ : Shared) : Prop :=
  ∃ (c : LS) (h' : Heap) (tk : Nat) (m' : Str → Option Value) (led : List (Addr × Obj)), s₂ = { s with heap := h', toks := tk } ∧ Fr h₀ L h' m' ∧ News h₀ L h' led ∧ pe ∈ led ∧ pi ∈ led ∧ (∀ p ∈ LLed l news c, p ∈ led) ∧
    m' "mode" = some (.str (modeS c.mode) c.tm) ∧ m' "begun" = some (.int (c.b : Int) c.tb) ∧ (∀ z : Str, z ≠ "mode" → z ≠ "begun" → z ≠ "at" → z ≠ "sign" → m' z = m₀ z) ∧ LF x l news (i + 1) c rest
def LPost (h₀ : Heap) (L : Addr) (s : Shared) (x : PySem.Str) (l : Addr) (news : List (Addr × Obj)) (m₀ : Str → Option Value) (i : Nat) (rest : List Nat) (pe pi : Addr × Obj) (Q : Flow → Shared → Prop) (f : Flow) (s₂ : Shared) : Prop :=
  match f with
  | .ret v => Q (.ret v) s₂
  | .brk => Q .next s₂
  | _ => LEnd h₀ L s x l news m₀ i rest pe pi s₂
variable {prog : Program} {w : World} {A : Around} {E : Value → Shared → Prop} {s : Shared} {env : Env} {h₀ : Heap} {body : List Stmt} {Q : Flow → Shared → Prop}
theorem strIter_ne (y : PySem.Str) : (Value.type (strIterType y)) ≠ .type "tuple" ∧ (Value.type (strIterType y)) ≠ .type "list" := by
  unfold strIterType
  cases y.cps.all (· < 128) <;> simp
theorem news_cls {h : Heap} {L : Addr} {led : List (Addr × Obj)} {p q : Addr × Obj} (N : News h₀ L h led) (hp : p ∈ led) (hq : q ∈ led) (hc : p.2.cls ≠ q.2.cls) : p.1 ≠ q.1 := by
  intro e
  have h1 := (N p hp).1
  have h2 := (N q hq).1
  rw [e, h2] at h1
  exact hc (congrArg Obj.cls (Option.some.inj h1)).symm
theorem law_rest {elts : List PySem.Expr} {k : Nat} {pos : Pos} {x y : PySem.Str} {l I : Addr} {news : List (Addr × Obj)} {m₀ : Str → Option Value}
    (hI : ∀ p ∈ news, p.1 < I) (hl : l < I)
    (turn : ∀ (c : LS) (i cd : Nat) (rest : List Nat) (ua us : Option Value) (h : Heap) (tk : Nat) (T : Addr) (t u : Tok) (oe oi : Obj), LF x l news i c (cd :: rest) → IsTup h T #[.int (i : Int) t, .str ⟨#[cd]⟩ u] →
      Fr h₀ env.locals h (fun z : Str => if z = "mode" then some (.str (modeS c.mode) c.tm) else if z = "begun" then some (.int (c.b : Int) c.tb) else if z = "at" then ua else if z = "sign" then us else m₀ z) →
      oe.cls = .type "enumerate" → oi.cls = .type (strIterType y) → News h₀ env.locals h ((I + 1, oe) :: (I, oi) :: LLed l news c) →
      wpAny (model prog w) A (assign (.Tuple elts k pos) env (.ref T)) (fun _ s₂ => wpAny (model prog w) A (execs body env) (LPost h₀ env.locals { s with heap := h, toks := tk } x l news m₀ i rest (I + 1, oe) (I, oi) Q) E s₂) E { s with heap := h, toks := tk })
    (done : ∀ (c : LS) (i : Nat) (ua us : Option Value) (h : Heap) (tk : Nat), LF x l news i c [] →
      Fr h₀ env.locals h (fun z : Str => if z = "mode" then some (.str (modeS c.mode) c.tm) else if z = "begun" then some (.int (c.b : Int) c.tb) else if z = "at" then ua else if z = "sign" then us else m₀ z) →
      News h₀ env.locals h (LLed l news c) → Q .next { s with heap := h, toks := tk }) :
    ∀ (rest : List Nat) (i : Nat) (c : LS) (m' : Str → Option Value), LF x l news i c rest → m' "mode" = some (.str (modeS c.mode) c.tm) → m' "begun" = some (.int (c.b : Int) c.tb) → (∀ z : Str, z ≠ "mode" → z ≠ "begun" → z ≠ "at" → z ≠ "sign" → m' z = m₀ z) →
      ItemsRest prog w A E h₀ env (.Tuple elts k pos) body Q s [(I + 1, "enumerate"), (I, strIterType y)] [] (enumSigns i rest) m' (LLed l news c) := by
  have same : ∀ (c : LS) (m' : Str → Option Value), m' "mode" = some (.str (modeS c.mode) c.tm) → m' "begun" = some (.int (c.b : Int) c.tb) → (∀ z : Str, z ≠ "mode" → z ≠ "begun" → z ≠ "at" → z ≠ "sign" → m' z = m₀ z) →
      (fun z : Str => if z = "mode" then some (.str (modeS c.mode) c.tm) else if z = "begun" then some (.int (c.b : Int) c.tb) else if z = "at" then m' "at" else if z = "sign" then m' "sign" else m₀ z) = m' := by
    intro c m' h1 h2 h3
    funext z
    by_cases e1 : z = "mode"
    · rw [if_pos e1, e1, h1]
    · rw [if_neg e1]
      by_cases e2 : z = "begun"
      · rw [if_pos e2, e2, h2]
      · rw [if_neg e2]
        by_cases e3 : z = "at"
        · rw [if_pos e3, e3]
        · rw [if_neg e3]
          by_cases e4 : z = "sign"
          · rw [if_pos e4, e4]
          · rw [if_neg e4, h3 z e1 e2 e3 e4]
  intro rest
  induction rest with
  | nil =>
    intro i c m' hf h1 h2 h3 h tk F N
    exact done c i (m' "at") (m' "sign") h tk hf (by rw [same c m' h1 h2 h3]; exact F) N
  | cons cd rest ih =>
    intro i c m' hf h1 h2 h3
    refine ItemsRest.pairF fun T t v h tk hv hT F => ?_
    obtain ⟨u, rfl⟩ := Flat.str_inv hv
    refine AllObj.cons fun oe hoe => AllObj.cons fun oi hoi => AllObj.nil fun N => ?_
    dsimp only at hoe hoi
    have go := turn c i cd rest (m' "at") (m' "sign") h tk T t u oe oi hf hT (by rw [same c m' h1 h2 h3]; exact F) hoe hoi N
    have fin : ∀ s₃, LEnd h₀ env.locals { s with heap := h, toks := tk } x l news m₀ i rest (I + 1, oe) (I, oi) s₃ →
        UnrEndW h₀ env.locals { s with heap := h, toks := tk } [(I + 1, oe), (I, oi)] (fun m' n' => SubL [] n' ∧ ItemsRest prog w A E h₀ env (.Tuple elts k pos) body Q s [(I + 1, "enumerate"), (I, strIterType y)] [] (enumSigns (i + 1) rest) m' n') s₃ := by
      rintro s₃ ⟨c', h', tk', m'', led, rfl, F', N', he, hi, hsub, g1, g2, g3, hf'⟩
      have N2 : News h₀ env.locals h' ([(I + 1, oe), (I, oi)] ++ LLed l news c') := by
        intro p hp
        rcases List.mem_append.mp hp with hp | hp
        · rcases List.mem_cons.mp hp with rfl | hp
          · exact N' _ he
          · rw [List.mem_singleton.mp hp]; exact N' _ hi
        · exact N' _ (hsub p hp)
      refine ⟨h', tk', m'', LLed l news c', rfl, F', N2, ?_, trivial, ih (i + 1) c' m'' hf' g1 g2 g3⟩
      intro p hp q hq
      rcases List.mem_cons.mp hp with rfl | hp'
      · rcases List.mem_cons.mp hq with rfl | hq
        · exact Nat.ne_of_lt (Nat.lt_succ_of_lt hl)
        · rw [List.mem_singleton.mp hq]; exact Nat.ne_of_lt hl
      · rcases List.mem_append.mp hp' with hp' | hp'
        · have hcp := hf'.tup p hp'
          have hm := hsub p hp
          rcases List.mem_cons.mp hq with rfl | hq
          · exact news_cls N' hm he (by rw [hcp, hoe]; simp)
          · rw [List.mem_singleton.mp hq]
            exact news_cls N' hm hi (by rw [hcp, hoi]; exact fun e => (strIter_ne y).1 e.symm)
        · have := hI p hp'
          rcases List.mem_cons.mp hq with rfl | hq
          · exact Nat.ne_of_lt (Nat.lt_succ_of_lt this)
          · rw [List.mem_singleton.mp hq]; exact Nat.ne_of_lt this
    refine wpAny_mono go (fun _ s₂ h₂ => wpAny_mono h₂ (fun f s₃ p => ?_) fun _ _ e => e) fun _ _ e => e
    cases f with
    | ret v => exact p
    | brk => exact p
    | next => exact fin _ p
    | cont => exact fin _ p
theorem law_for {elts : List PySem.Expr} {k : Nat} {pos : Pos} {x y : PySem.Str} {t : Tok} {l : Addr} {news : List (Addr × Obj)} {m₀ : Str → Option Value} {tm tb : Tok}
    (hh : A.handled = none) (F : Fr h₀ env.locals s.heap m₀) (N : News h₀ env.locals s.heap ((l, listOf #[] 0) :: news)) (off : ∀ p ∈ news, p.1 ≠ l) (hy : y.cps.toList = x.cps.toList ++ [10])
    (hm : m₀ "mode" = some (.str (PySem.Str.ofString "") tm)) (hb : m₀ "begun" = some (.int 0 tb))
    (turn : ∀ (I : Addr) (c : LS) (i cd : Nat) (rest : List Nat) (ua us : Option Value) (h : Heap) (tk : Nat) (T : Addr) (t u : Tok) (oe oi : Obj), (∀ p ∈ news, p.1 < I) → l < I → LF x l news i c (cd :: rest) → IsTup h T #[.int (i : Int) t, .str ⟨#[cd]⟩ u] →
      Fr h₀ env.locals h (fun z : Str => if z = "mode" then some (.str (modeS c.mode) c.tm) else if z = "begun" then some (.int (c.b : Int) c.tb) else if z = "at" then ua else if z = "sign" then us else m₀ z) →
      oe.cls = .type "enumerate" → oi.cls = .type (strIterType y) → News h₀ env.locals h ((I + 1, oe) :: (I, oi) :: LLed l news c) →
      wpAny (model prog w) A (assign (.Tuple elts k pos) env (.ref T)) (fun _ s₂ => wpAny (model prog w) A (execs body env) (LPost h₀ env.locals { s with heap := h, toks := tk } x l news m₀ i rest (I + 1, oe) (I, oi) Q) E s₂) E { s with heap := h, toks := tk })
    (done : ∀ (c : LS) (i : Nat) (ua us : Option Value) (h : Heap) (tk : Nat), LF x l news i c [] →
      Fr h₀ env.locals h (fun z : Str => if z = "mode" then some (.str (modeS c.mode) c.tm) else if z = "begun" then some (.int (c.b : Int) c.tb) else if z = "at" then ua else if z = "sign" then us else m₀ z) →
      News h₀ env.locals h (LLed l news c) → Q .next { s with heap := h, toks := tk }) :
    wpAny (model prog w) A (call (.type "enumerate") [.str y t]) (fun xv s₁ => wpAny (model prog w) A (pyIter xv) (fun it s₂ => TurnsAt prog w A h₀ env (.Tuple elts k pos) body Q E it s₂) E s₁) E s := by
  refine enum_str hh F N fun I hI => ?_
  have hl : l < I := hI (l, listOf #[] 0) (.head _)
  have hn : ∀ p ∈ news, p.1 < I := fun p hp => hI p (.tail _ hp)
  exact law_rest (x := x) (y := y) (m₀ := m₀) hn hl (fun c i cd rest ua us h tk T t u oe oi a b d e f g => turn I c i cd rest ua us h tk T t u oe oi hn hl a b d e f g) done y.cps.toList 0 ⟨0, tm, 0, tb, [], 0, [], []⟩ m₀
    ⟨by simp, by simp, by simp, by simp, .nil, by simpa using off, (fun p hp => nomatch hp), by rw [hy]; rfl, by rw [hy]; exact (mach_all _).symm⟩ hm hb (fun _ _ _ _ _ => rfl)
end LawLoop
-- PART C9b
section LawSteps
open PyProof.V PySem.Spec
abbrev sNl : PySem.Str := PySem.Str.ofString "\n"
abbrev sCr : PySem.Str := PySem.Str.ofString "\r"
theorem is_nl (c : Nat) : (((⟨#[c]⟩ : PySem.Str) == sNl) = true) ↔ c = 10 := by
  have : sNl = ⟨#[10]⟩ := by decide +kernel
  rw [this]; exact is_one _ _
theorem is_cr (c : Nat) : (((⟨#[c]⟩ : PySem.Str) == sCr) = true) ↔ c = 13 := by
  have : sCr = ⟨#[13]⟩ := by decide +kernel
  rw [this]; exact is_one _ _
theorem not_one {c d : Nat} {z : PySem.Str} (h : (((⟨#[c]⟩ : PySem.Str) == z) = true) ↔ c = d) (e : ((⟨#[c]⟩ : PySem.Str) == z) = false) : c ≠ d := fun e2 => by rw [h.mpr e2] at e; cases e
theorem has_bl (c : Nat) : has sBlank c = isB c := has_tie (by decide +kernel) (by decide +kernel) (fun c h => by simp [isB]; omega) c
abbrev WW (x : PySem.Str) (c : LS) (i : Nat) : List Nat := (x.cps.toList.drop c.b).take (i - c.b)
def Step (x : PySem.Str) (c : LS) (i cd : Nat) (rest : List Nat) (add : List Wd) (k b' : Nat) : Prop :=
  k ≤ 4 ∧ b' ≤ i + 1 ∧ mach c.mode (WW x c i) c.b i c.acc (cd :: rest) = mach k ((x.cps.toList.drop b').take (i + 1 - b')) b' (i + 1) (c.acc ++ add) rest
/-- the new sign ends no word that has begun, or ends it -/
def Adds (x : PySem.Str) (c : LS) (i cd : Nat) (add : List Wd) : Prop :=
  (c.mode = 0 ∧ add = []) ∨ (((c.mode = 1 ∧ isL cd = false ∧ isF cd = false) ∨ (c.mode = 2 ∧ isF cd = false)) ∧ add = [(WW x c i, c.b)])
variable {x : PySem.Str} {l : Addr} {news : List (Addr × Obj)} {i cd : Nat} {c : LS} {rest : List Nat} {add : List Wd}
theorem LF.sign (hf : LF x l news i c (cd :: rest)) : (i < x.cps.toList.length ∧ x.cps.toList.drop i = cd :: x.cps.toList.drop (i + 1)) ∨ cd = 10 := by
  have h := hf.left
  by_cases hi : i < x.cps.toList.length
  · refine .inl ⟨hi, ?_⟩
    rw [List.drop_append_of_le_length (by omega), List.drop_eq_getElem_cons hi] at h
    rw [List.drop_eq_getElem_cons hi]
    simp only [List.cons_append, List.cons.injEq] at h
    rw [h.1]
  · refine .inr ?_
    have hle := LF_i' hf
    have e : i = x.cps.toList.length := by omega
    rw [e, List.drop_left] at h
    simp only [List.cons.injEq] at h
    exact h.1.symm
where
  LF_i' {x : PySem.Str} {l : Addr} {news : List (Addr × Obj)} {i : Nat} {c : LS} {cd : Nat} {rest : List Nat} (hf : LF x l news i c (cd :: rest)) : i ≤ x.cps.toList.length := by
    have h := congrArg List.length hf.left
    simp only [List.length_drop, List.length_append, List.length_cons, List.length_nil] at h
    omega
theorem LF.one (hf : LF x l news i c (cd :: rest)) (h : cd ≠ 10) : (x.cps.toList.drop i).take (i + 1 - i) = [cd] := by
  rcases hf.sign with ⟨hi, e⟩ | e
  · have : i + 1 - i = 1 := by omega
    rw [e, this]; rfl
  · exact absurd e h
theorem LF.more (hf : LF x l news i c (cd :: rest)) (h : cd ≠ 10) : WW x c i ++ [cd] = (x.cps.toList.drop c.b).take (i + 1 - c.b) := by
  have hb := hf.bi
  rcases hf.sign with ⟨hi, e⟩ | e
  · have e2 : i + 1 - c.b = (i - c.b) + 1 := by omega
    have e3 : (x.cps.toList.drop c.b)[i - c.b]? = some cd := by
      rw [List.getElem?_drop]
      have e4 : c.b + (i - c.b) = i := by omega
      rw [e4]
      have := congrArg List.head? e
      rw [List.head?_drop] at this
      exact this
    rw [e2, List.take_add_one, e3]
    rfl
  · exact absurd e h
theorem mach_four (w w' : List Nat) (b b' : Nat) (found : List Wd) : ∀ (r : List Nat) (at_ : Nat), mach 4 w b at_ found r = mach 4 w' b' at_ found r
  | [], _ => rfl
  | c :: r, at_ => by
    have ih := mach_four w w' b b' found r (at_ + 1)
    by_cases h : c = 10 ∨ c = 13
    · simp only [mach, if_true, if_pos h]
      exact mach_zero _ _ _ _ _ _ _
    · simp only [mach, if_true, if_neg h]
      exact ih
theorem kind10 (h : isL cd = true ∨ isF cd = true ∨ isS cd = true ∨ cd = 45 ∨ cd = 35) : cd ≠ 10 := by
  rintro rfl
  simp [isL, isF, isS] at h
theorem adds_else (ha : Adds x c i cd add) (w : List Nat) (hw : w = WW x c i) : mach c.mode w c.b i c.acc (cd :: rest) =
    (if cd = 45 then mach 3 [cd] i (i + 1) (c.acc ++ add) rest
    else if cd = 35 then mach 4 [cd] i (i + 1) (c.acc ++ add) rest
    else if isS cd = true then mach (md cd) [cd] i (i + 1) ((c.acc ++ add) ++ [([cd], i)]) rest
    else if md cd = 0 ∧ isB cd = false then .error i
    else mach (md cd) [cd] i (i + 1) (c.acc ++ add) rest) := by
  subst hw
  rcases ha with ⟨e, rfl⟩ | ⟨⟨e, h1, h2⟩ | ⟨e, h2⟩, rfl⟩
  · rw [e]; simp [mach]
  · rw [e]; simp [mach, isW, h1, h2]
  · rw [e]; simp [mach, h2]
theorem st_L (hf : LF x l news i c (cd :: rest)) (ha : Adds x c i cd add) (h : has sLet cd = true) : Step x c i cd rest add 1 i := by
  rw [has_let] at h
  obtain ⟨k1, k2, k3, k4, k5⟩ := (kinds cd).1 h
  refine ⟨by omega, by omega, ?_⟩
  rw [adds_else ha _ rfl, if_neg k4, if_neg k5, k2, hf.one (kind10 (.inl h))]
  simp [md, h]
theorem st_F (hf : LF x l news i c (cd :: rest)) (ha : Adds x c i cd add) (h : has sFig cd = true) : Step x c i cd rest add 2 i := by
  rw [has_fig] at h
  obtain ⟨k1, k2, k3, k4, k5⟩ := (kinds cd).2.1 h
  refine ⟨by omega, by omega, ?_⟩
  rw [adds_else ha _ rfl, if_neg k4, if_neg k5, k2, hf.one (kind10 (.inr (.inl h)))]
  simp [md, h, k1]
theorem st_M (hf : LF x l news i c (cd :: rest)) (ha : Adds x c i cd add) (h : ((⟨#[cd]⟩ : PySem.Str) == sMin) = true) : Step x c i cd rest add 3 i := by
  rw [is_min] at h
  refine ⟨by omega, by omega, ?_⟩
  rw [adds_else ha _ rfl, if_pos h, hf.one (kind10 (.inr (.inr (.inr (.inl h)))))]
theorem st_R (hf : LF x l news i c (cd :: rest)) (ha : Adds x c i cd add) (h : ((⟨#[cd]⟩ : PySem.Str) == sHash) = true) : Step x c i cd rest add 4 i := by
  rw [is_hash] at h
  refine ⟨by omega, by omega, ?_⟩
  rw [adds_else ha _ rfl, if_neg (by omega), if_pos h, hf.one (kind10 (.inr (.inr (.inr (.inr h)))))]
theorem st_S (hf : LF x l news i c (cd :: rest)) (ha : Adds x c i cd add) (h : has sSig cd = true) : Step x c i cd rest (add ++ [([cd], i)]) 0 i := by
  rw [has_sig] at h
  obtain ⟨k1, k2, k3, k4, k5⟩ := (kinds cd).2.2.1 h
  refine ⟨by omega, by omega, ?_⟩
  have e : md cd = 0 := by simp [md, k1, k2]
  rw [adds_else ha _ rfl, if_neg k4, if_neg k5, if_pos h, e, List.append_assoc]
  exact mach_zero _ _ _ _ _ _ _
theorem st_B (ha : Adds x c i cd add) (h : has sBlank cd = true) : Step x c i cd rest add 0 i := by
  rw [has_bl] at h
  obtain ⟨k1, k2, k3, k4, k5⟩ := (kinds cd).2.2.2 h
  refine ⟨by omega, by omega, ?_⟩
  have e : md cd = 0 := by simp [md, k1, k2]
  rw [adds_else ha _ rfl, if_neg k4, if_neg k5, k3, h, e]
  simp only [Bool.false_eq_true, if_false, and_false, Bool.true_eq_false]
  exact mach_zero _ _ _ _ _ _ _
theorem st_bad (hf : LF x l news i c (cd :: rest)) (ha : Adds x c i cd add) (h1 : has sLet cd = false) (h2 : has sFig cd = false) (h3 : ((⟨#[cd]⟩ : PySem.Str) == sMin) = false) (h4 : ((⟨#[cd]⟩ : PySem.Str) == sHash) = false) (h5 : has sSig cd = false) (h6 : has sBlank cd = false) :
    words false x.cps.toList 0 = .error i := by
  rw [has_let] at h1
  rw [has_fig] at h2
  rw [has_sig] at h5
  rw [has_bl] at h6
  rw [hf.eq, adds_else ha _ rfl, if_neg (not_one (is_min cd) h3), if_neg (not_one (is_hash cd) h4), h5, h6]
  simp [md, h1, h2]
theorem st_minus (hf : LF x l news i c (cd :: rest)) (e : c.mode = 3) (h2 : has sFig cd = false) : words false x.cps.toList 0 = .error c.b := by
  rw [has_fig] at h2
  rw [hf.eq, e]
  simp [mach, h2]
theorem st_go (hf : LF x l news i c (cd :: rest)) (h10 : cd ≠ 10) (k : Nat) (hk : k ≤ 4) (e : mach c.mode (WW x c i) c.b i c.acc (cd :: rest) = mach k (WW x c i ++ [cd]) c.b (i + 1) c.acc rest) : Step x c i cd rest [] k c.b := by
  refine ⟨hk, by have := hf.bi; omega, ?_⟩
  rw [e, hf.more h10, List.append_nil]
theorem st_1L (hf : LF x l news i c (cd :: rest)) (e : c.mode = 1) (h : has sLet cd = true) : Step x c i cd rest [] 1 c.b := by
  rw [has_let] at h
  exact st_go hf (kind10 (.inl h)) 1 (by omega) (by rw [e]; simp [mach, isW, h])
theorem st_1F (hf : LF x l news i c (cd :: rest)) (e : c.mode = 1) (h : has sFig cd = true) : Step x c i cd rest [] 1 c.b := by
  rw [has_fig] at h
  exact st_go hf (kind10 (.inr (.inl h))) 1 (by omega) (by rw [e]; simp [mach, isW, h])
theorem st_2F (hf : LF x l news i c (cd :: rest)) (e : c.mode = 2) (h : has sFig cd = true) : Step x c i cd rest [] 2 c.b := by
  rw [has_fig] at h
  exact st_go hf (kind10 (.inr (.inl h))) 2 (by omega) (by rw [e]; simp [mach, h])
theorem st_3F (hf : LF x l news i c (cd :: rest)) (e : c.mode = 3) (h : has sFig cd = true) : Step x c i cd rest [] 2 c.b := by
  rw [has_fig] at h
  exact st_go hf (kind10 (.inr (.inl h))) 2 (by omega) (by rw [e]; simp [mach, h])
theorem st_4nl (hf : LF x l news i c (cd :: rest)) (e : c.mode = 4) (h : cd = 10 ∨ cd = 13) : Step x c i cd rest [] 0 c.b := by
  refine ⟨by omega, by have := hf.bi; omega, ?_⟩
  rw [e, List.append_nil]
  simp only [mach, if_true, if_pos h]
  exact mach_zero _ _ _ _ _ _ _
theorem st_4n (hf : LF x l news i c (cd :: rest)) (e : c.mode = 4) (h : ((⟨#[cd]⟩ : PySem.Str) == sNl) = true) : Step x c i cd rest [] 0 c.b := st_4nl hf e (.inl ((is_nl cd).mp h))
theorem st_4r (hf : LF x l news i c (cd :: rest)) (e : c.mode = 4) (h : ((⟨#[cd]⟩ : PySem.Str) == sCr) = true) : Step x c i cd rest [] 0 c.b := st_4nl hf e (.inr ((is_cr cd).mp h))
theorem st_4 (hf : LF x l news i c (cd :: rest)) (e : c.mode = 4) (h1 : ((⟨#[cd]⟩ : PySem.Str) == sNl) = false) (h2 : ((⟨#[cd]⟩ : PySem.Str) == sCr) = false) : Step x c i cd rest [] 4 c.b := by
  have h : ¬ (cd = 10 ∨ cd = 13) := fun q => q.elim (not_one (is_nl cd) h1) (not_one (is_cr cd) h2)
  refine ⟨by omega, by have := hf.bi; omega, ?_⟩
  rw [e, List.append_nil]
  simp only [mach, if_true, if_neg h]
  exact mach_four _ _ _ _ _ _ _
theorem ad0 (e : c.mode = 0) : Adds x c i cd [] := .inl ⟨e, rfl⟩
theorem ad1 (e : c.mode = 1) (h1 : has sLet cd = false) (h2 : has sFig cd = false) : Adds x c i cd [(WW x c i, c.b)] := .inr ⟨.inl ⟨e, by rw [← has_let]; exact h1, by rw [← has_fig]; exact h2⟩, rfl⟩
theorem ad2 (e : c.mode = 2) (h2 : has sFig cd = false) : Adds x c i cd [(WW x c i, c.b)] := .inr ⟨.inr ⟨e, by rw [← has_fig]; exact h2⟩, rfl⟩
/-- what cannot be -/
theorem no_LM (h1 : has sLet cd = true) (h2 : ((⟨#[cd]⟩ : PySem.Str) == sMin) = true) : False := by
  rw [has_let] at h1; rw [is_min] at h2; exact ((kinds cd).1 h1).2.2.2.1 h2
theorem no_LR (h1 : has sLet cd = true) (h2 : ((⟨#[cd]⟩ : PySem.Str) == sHash) = true) : False := by
  rw [has_let] at h1; rw [is_hash] at h2; exact ((kinds cd).1 h1).2.2.2.2 h2
theorem no_LS (h1 : has sLet cd = true) (h2 : has sSig cd = true) : False := by
  rw [has_let] at h1; rw [has_sig, ((kinds cd).1 h1).2.1] at h2; cases h2
theorem no_FM (h1 : has sFig cd = true) (h2 : ((⟨#[cd]⟩ : PySem.Str) == sMin) = true) : False := by
  rw [has_fig] at h1; rw [is_min] at h2; exact ((kinds cd).2.1 h1).2.2.2.1 h2
theorem no_FR (h1 : has sFig cd = true) (h2 : ((⟨#[cd]⟩ : PySem.Str) == sHash) = true) : False := by
  rw [has_fig] at h1; rw [is_hash] at h2; exact ((kinds cd).2.1 h1).2.2.2.2 h2
theorem no_FS (h1 : has sFig cd = true) (h2 : has sSig cd = true) : False := by
  rw [has_fig] at h1; rw [has_sig, ((kinds cd).2.1 h1).2.1] at h2; cases h2
variable {h₀ h : Heap} {L : Addr} {s : Shared} {m₀ m' : Str → Option Value} {pe pi : Addr × Obj} {k b' : Nat} {tm' tb' : Tok} {tk : Nat}
theorem LF.left' (hf : LF x l news i c (cd :: rest)) : (x.cps.toList ++ [10]).drop (i + 1) = rest := by
  rw [← List.drop_drop, hf.left]
  rfl
theorem LF.hi' (hf : LF x l news i c (cd :: rest)) : i + 1 ≤ x.length + 1 := by
  have h := LF.sign.LF_i' hf
  have e : x.cps.toList.length = x.length := by simp [PySem.Str.length]
  omega
theorem end0 (hf : LF x l news i c (cd :: rest)) (st : Step x c i cd rest [] k b') (F : Fr h₀ L h m') (N : News h₀ L h (pe :: pi :: (l, listOf c.vs.toArray c.n) :: (c.tl ++ news)))
    (hm : m' "mode" = some (.str (modeS k) tm')) (hb : m' "begun" = some (.int (b' : Int) tb')) (hr : ∀ z : Str, z ≠ "mode" → z ≠ "begun" → z ≠ "at" → z ≠ "sign" → m' z = m₀ z) :
    LEnd h₀ L s x l news m₀ i rest pe pi { s with heap := h, toks := tk } :=
  ⟨⟨k, tm', b', tb', c.vs, c.n, c.tl, c.acc⟩, h, tk, m', _, rfl, F, N, .head _, .tail _ (.head _), fun _ hp => .tail _ (.tail _ hp), hm, hb, hr,
    ⟨st.1, st.2.1, hf.hi', by have := hf.few; show c.vs.length ≤ 2 * (i + 1); omega, hf.dat, hf.off, hf.tup, hf.left', by rw [hf.eq, st.2.2, List.append_nil]⟩⟩
theorem end1 {D : Addr} {y : PySem.Str} {t u : Tok} {wd : Wd} {j : Int} (hf : LF x l news i c (cd :: rest)) (st : Step x c i cd rest [wd] k b') (hy : y = ⟨wd.1.toArray⟩) (hj : j = (wd.2 : Int)) (F : Fr h₀ L h m')
    (N : News h₀ L h ((D, ({ cls := .type "tuple", data := .seq #[.str y t, .int j u] } : Obj)) :: pe :: pi :: (l, listOf (c.vs.toArray.push (.ref D)) (c.n + 1)) :: (c.tl ++ news)))
    (hD : pe.1 < D ∧ pi.1 < D ∧ l < D ∧ AllLt D (c.tl ++ news))
    (hm : m' "mode" = some (.str (modeS k) tm')) (hb : m' "begun" = some (.int (b' : Int) tb')) (hr : ∀ z : Str, z ≠ "mode" → z ≠ "begun" → z ≠ "at" → z ≠ "sign" → m' z = m₀ z) :
    LEnd h₀ L s x l news m₀ i rest pe pi { s with heap := h, toks := tk } := by
  replace hD := hD.2.2.1
  subst hj
  refine ⟨⟨k, tm', b', tb', c.vs ++ [.ref D], c.n + 1, (D, wobj y t (wd.2 : Int) u) :: c.tl, c.acc ++ [wd]⟩, h, tk, m', _, rfl, F, N, .tail _ (.head _), .tail _ (.tail _ (.head _)), fun p hp => ?_, hm, hb, hr,
    ⟨st.1, st.2.1, hf.hi', ?_, ?_, ?_, ?_, hf.left', by rw [hf.eq, st.2.2]⟩⟩
  · have e0 : c.vs.toArray.push (.ref D) = (c.vs ++ [Value.ref D]).toArray := by simp
    rw [e0]
    rcases List.mem_cons.mp hp with rfl | hp
    · exact .tail _ (.tail _ (.tail _ (.head _)))
    · rcases List.mem_cons.mp hp with rfl | hp
      · exact .head _
      · exact .tail _ (.tail _ (.tail _ (.tail _ hp)))
  · have := hf.few
    show (c.vs ++ [Value.ref D]).length ≤ 2 * (i + 1)
    rw [List.length_append]
    simp only [List.length_cons, List.length_nil]
    omega
  · show DatAll ((D, _) :: c.tl) (c.vs ++ [.ref D]) ((c.acc ++ [wd]).map wdat)
    rw [List.map_append]
    exact (DatAll.mono (fun _ h => .tail _ h) hf.dat).append (.one (wdat_in (x := x) (by omega) (.head _) hy (by omega)))
  · intro p hp
    rcases List.mem_cons.mp hp with rfl | hp
    · exact Nat.ne_of_gt hD
    · exact hf.off p hp
  · intro p hp
    rcases List.mem_cons.mp hp with rfl | hp
    · rfl
    · exact hf.tup p hp
theorem end2 {D D2 : Addr} {y y2 : PySem.Str} {t u t2 u2 : Tok} {wd wd2 : Wd} {j j2 : Int} (hf : LF x l news i c (cd :: rest)) (st : Step x c i cd rest ([wd] ++ [wd2]) k b') (hy : y = ⟨wd.1.toArray⟩) (hj : j = (wd.2 : Int)) (hy2 : y2 = ⟨wd2.1.toArray⟩) (hj2 : j2 = (wd2.2 : Int)) (F : Fr h₀ L h m')
    (N : News h₀ L h ((D2, ({ cls := .type "tuple", data := .seq #[.str y2 t2, .int j2 u2] } : Obj)) :: (D, ({ cls := .type "tuple", data := .seq #[.str y t, .int j u] } : Obj)) :: pe :: pi :: (l, listOf ((c.vs.toArray.push (.ref D)).push (.ref D2)) (c.n + 1 + 1)) :: (c.tl ++ news)))
    (hD : pe.1 < D ∧ pi.1 < D ∧ l < D ∧ AllLt D (c.tl ++ news)) (hD2 : D < D2 ∧ pe.1 < D2 ∧ pi.1 < D2 ∧ l < D2 ∧ AllLt D2 (c.tl ++ news))
    (hm : m' "mode" = some (.str (modeS k) tm')) (hb : m' "begun" = some (.int (b' : Int) tb')) (hr : ∀ z : Str, z ≠ "mode" → z ≠ "begun" → z ≠ "at" → z ≠ "sign" → m' z = m₀ z) :
    LEnd h₀ L s x l news m₀ i rest pe pi { s with heap := h, toks := tk } := by
  replace hD := hD.2.2.1
  replace hD2 := hD2.2.2.2.1
  subst hj hj2
  refine ⟨⟨k, tm', b', tb', c.vs ++ [.ref D, .ref D2], c.n + 1 + 1, (D2, wobj y2 t2 (wd2.2 : Int) u2) :: (D, wobj y t (wd.2 : Int) u) :: c.tl, c.acc ++ [wd, wd2]⟩, h, tk, m', _, rfl, F, N, .tail _ (.tail _ (.head _)), .tail _ (.tail _ (.tail _ (.head _))), fun p hp => ?_, hm, hb, hr,
    ⟨st.1, st.2.1, hf.hi', ?_, ?_, ?_, ?_, hf.left', by rw [hf.eq, st.2.2]; rfl⟩⟩
  · have e0 : (c.vs.toArray.push (.ref D)).push (.ref D2) = (c.vs ++ [Value.ref D, Value.ref D2]).toArray := by simp
    rw [e0]
    rcases List.mem_cons.mp hp with rfl | hp
    · exact .tail _ (.tail _ (.tail _ (.tail _ (.head _))))
    · rcases List.mem_cons.mp hp with rfl | hp
      · exact .head _
      · rcases List.mem_cons.mp hp with rfl | hp
        · exact .tail _ (.head _)
        · exact .tail _ (.tail _ (.tail _ (.tail _ (.tail _ hp))))
  · have := hf.few
    show (c.vs ++ [Value.ref D, Value.ref D2]).length ≤ 2 * (i + 1)
    rw [List.length_append]
    simp only [List.length_cons, List.length_nil]
    omega
  · show DatAll ((D2, _) :: (D, _) :: c.tl) (c.vs ++ [.ref D, .ref D2]) ((c.acc ++ [wd, wd2]).map wdat)
    rw [List.map_append]
    exact (DatAll.mono (fun _ h => .tail _ (.tail _ h)) hf.dat).append (.cons (wdat_in (x := x) (by omega) (.tail _ (.head _)) hy (by omega)) (.one (wdat_in (x := x) (by omega) (.head _) hy2 (by omega))))
  · intro p hp
    rcases List.mem_cons.mp hp with rfl | hp
    · exact Nat.ne_of_gt hD2
    · rcases List.mem_cons.mp hp with rfl | hp
      · exact Nat.ne_of_gt hD
      · exact hf.off p hp
  · intro p hp
    rcases List.mem_cons.mp hp with rfl | hp
    · rfl
    · rcases List.mem_cons.mp hp with rfl | hp
      · rfl
      · exact hf.tup p hp
theorem slice_ww (hf : LF x l news i c (cd :: rest)) : Txt.slice x (some (c.b : Int)) (some (i : Int)) = ⟨(WW x c i).toArray⟩ := by
  have h := LF.sign.LF_i' hf
  have hb := hf.bi
  have e : x.cps.toList.length = x.length := by simp [PySem.Str.length]
  have q := eq_of_beq (slice_closesL (x := x) (i := (c.b : Int)) (j := (i : Int)) (by omega) (by omega) (by omega))
  have e2 : ((i : Int) - (c.b : Int)).toNat = i - c.b := by omega
  rw [q, e2]
  rfl
end LawSteps
-- PART C10
section LawWalk
open PyProof.V PySem.Spec
def due (x : PySem.Str) : Dat := match words false x.cps.toList 0 with
  | .ok ws => .tuple [.list ((ws ++ [([], x.length)]).map wdat), .none]
  | .error e => .tuple [.none, .int (e : Int)]
theorem nl_cps (x : PySem.Str) : (x ++ PySem.Str.ofString "\n").cps.toList = x.cps.toList ++ [10] := by
  have e : (PySem.Str.ofString "\n").cps.toList = [10] := by decide +kernel
  rw [PySem.Str.cps_append, Array.toList_append, e]
theorem mode5 {m : Nat} (h : m ≤ 4) : m = 0 ∨ m = 1 ∨ m = 2 ∨ m = 3 ∨ m = 4 := by omega
theorem modeS0 : modeS 0 = PySem.Str.ofString "" := rfl
theorem modeS1 : modeS 1 = PySem.Str.ofString "name" := rfl
theorem modeS2 : modeS 2 = PySem.Str.ofString "number" := rfl
theorem modeS3 : modeS 3 = PySem.Str.ofString "minus" := rfl
theorem modeS4 : modeS 4 = PySem.Str.ofString "remark" := rfl
theorem LF_i {x : PySem.Str} {l : Addr} {news : List (Addr × Obj)} {i : Nat} {c : LS} {cd : Nat} {rest : List Nat} (hf : LF x l news i c (cd :: rest)) : i ≤ x.length := by
  have h := congrArg List.length hf.left
  simp only [List.length_drop, List.length_append, List.length_cons, List.length_nil] at h
  have e : x.cps.toList.length = x.length := by simp [PySem.Str.length]
  omega
theorem LF_size {x : PySem.Str} {l : Addr} {news : List (Addr × Obj)} {i : Nat} {c : LS} {rest : List Nat} (hf : LF x l news i c rest) (hp : x.length ≤ 900) : c.vs.toArray.size ≤ 3000 := by
  have h := hf.hi
  have h2 := hf.few
  rw [List.size_toArray]
  omega
theorem due_err {x : PySem.Str} {tl : List (Addr × Obj)} {D : Addr} {n : Nat} {j : Int} {u : Tok} (he : words false x.cps.toList 0 = .error n) (hj : j = (n : Int)) (hm : (D, ({ cls := .type "tuple", data := .seq #[.none, .int j u] } : Obj)) ∈ tl) : DatIn tl (.ref D) (due x) := by
  subst hj
  unfold due
  rw [he]
  exact .tuple (vs := [.none, .int (n : Int) u]) (n := 0) hm (.cons .none (.cons (.int _ _) .nil))
theorem ret_err {x : PySem.Str} {h₀ h : Heap} {L D : Addr} {m : Str → Option Value} {s : Shared} {tk : Nat} {Q : Value → Shared → Prop} {news led : List (Addr × Obj)} {n : Nat} {j : Int} {u : Tok}
    (hret : ∀ v tl h' tk', Fr h₀ L h' m → News h₀ L h' (tl ++ news) → DatIn tl v (due x) → Q v { s with heap := h', toks := tk' })
    (he : words false x.cps.toList 0 = .error n) (hj : j = (n : Int)) (F : Fr h₀ L h m) (N : News h₀ L h ((D, ({ cls := .type "tuple", data := .seq #[.none, .int j u] } : Obj)) :: led)) (hs : ∀ p ∈ news, p ∈ led) : Q (.ref D) { s with heap := h, toks := tk } :=
  hret _ [(D, _)] _ _ F (fun p hp => by
    rcases List.mem_append.mp hp with hp | hp
    · rw [List.mem_singleton.mp hp]; exact N _ (.head _)
    · exact N _ (.tail _ (hs p hp))) (due_err he hj (.head _))
theorem ret_ok {x : PySem.Str} {h₀ h : Heap} {L D D1 a l l2 : Addr} {o2 o3 : Obj} {m : Str → Option Value} {s : Shared} {tk : Nat} {Q : Value → Shared → Prop} {news : List (Addr × Obj)} {i : Nat} {c : LS} {j : Int} {t u : Tok}
    (hret : ∀ v tl h' tk', Fr h₀ L h' m → News h₀ L h' (tl ++ news) → DatIn tl v (due x) → Q v { s with heap := h', toks := tk' })
    (hf : LF x l news i c []) (hj : j = (x.length : Int)) (F : Fr h₀ L h m)
    (N : News h₀ L h ((D, ({ cls := .type "tuple", data := .seq #[.ref a, .none] } : Obj)) :: (a, ({ cls := .type "list", data := .seq (c.vs ++ [Value.ref D1]).toArray } : Obj)) :: (l2, o2) :: (D1, ({ cls := .type "tuple", data := .seq #[.str (PySem.Str.ofString "") t, .int j u] } : Obj)) :: (l, o3) :: (c.tl ++ news))) :
    Q (.ref D) { s with heap := h, toks := tk } := by
  subst hj
  have e : words false x.cps.toList 0 = .ok c.acc := by rw [hf.eq]; rfl
  refine hret _ ((D, ({ cls := .type "tuple", data := .seq #[.ref a, .none] } : Obj)) :: (a, ({ cls := .type "list", data := .seq (c.vs ++ [Value.ref D1]).toArray } : Obj)) :: (D1, wobj (PySem.Str.ofString "") t (x.length : Int) u) :: c.tl) _ _ F (fun p hp => ?_) ?_
  · rcases List.mem_cons.mp hp with rfl | hp
    · exact N _ (.head _)
    · rcases List.mem_cons.mp hp with rfl | hp
      · exact N _ (.tail _ (.head _))
      · rcases List.mem_cons.mp hp with rfl | hp
        · exact N _ (.tail _ (.tail _ (.tail _ (.head _))))
        · exact N _ (.tail _ (.tail _ (.tail _ (.tail _ (.tail _ hp)))))
  · unfold due
    rw [e]
    refine .tuple (vs := [.ref a, .none]) (n := 0) (.head _) (.cons (.list (vs := c.vs ++ [.ref D1]) (n := 0) (.tail _ (.head _)) ?_) (.cons .none .nil))
    rw [List.map_append]
    exact (DatAll.mono (fun _ h => .tail _ (.tail _ (.tail _ h))) hf.dat).append (.one (wdat_in (x := x) (by omega) (.tail _ (.tail _ (.head _))) (by decide +kernel) (by omega)))
set_option maxHeartbeats 8000000 in
theorem law_walk_c (w : World) (mean : ExcName → Option Value) (mg mb : Str → Option Value) (x : PySem.Str) (tx : Tok) (news : CbLed)
    (dp un : Nat) (gd : Option (List Code)) (cn : Str) (cs : Scope) (a : Addr) (ccd : Value) (cl : List (Str × Addr)) (outer : List Env) (A₀ : Around) (base h₀ : Heap) (L : Addr) (m : Str → Option Value) (s : Shared) (Q E : Value → Shared → Prop)
    (B : Below A₀ base outer h₀) (F : Fr h₀ L s.heap m) (X : (hd.heap_39 w.params).In h₀) (N : News h₀ L s.heap news) (T : Top hd.view_39 Lo0 mean mg mb h₀) (hcs : cs.kind = .function)
    (hp : x.length ≤ 900) (hd1 : dp + 10 < recursionLimit) (hu1 : un + 300 < cLine)
    (hret : ∀ v tl h' tk', Fr h₀ L h' m → News h₀ L h' (tl ++ news) → DatIn tl v (due x) → Q v { s with heap := h', toks := tk' }) :
    wpAny (model PySem.Challenge.rw_pb0150_01.row.prog w) (ktrTop dp un gd cn cs L a ccd cl outer) (call (.ref 110) [.str x tx]) Q E s := by
  k_with_none
  w_top off
  k_with "subscriptTail Name Name str int" => (k_here; (with_reducible show wpAny _ _ (subscriptTail _ _ (Value.str _ _) (Value.int _ _)) _ _ _); (refine my_item (by omega) (by omega) (by omega) ?_))
  k_with "compareOp In str str" => (k_here; (with_reducible show wpAny _ _ (compareOp CmpOp.In (Value.str (PySem.Str.mk _) _) (Value.str _ _)) _ _ _); refine my_in ?_)
  k_with "compareOp NotIn str str" => (k_here; (with_reducible show wpAny _ _ (compareOp CmpOp.NotIn (Value.str (PySem.Str.mk _) _) (Value.str _ _)) _ _ _); refine my_notIn ?_)
  k_with "call ref" => (k_here; (with_reducible show wpAny _ _ (call (Value.ref 70) [_, _, _]) _ _ _); k_dflt (refine' run_end_u ?row9k1 ?row9k2 ?row9k3 ?row9k4 ?row9k5 ?row9kK ?row9kp ?row9kd ?row9ku ?_; (case row9k1 => k_asm); (case row9k2 => k_asm); (case row9k3 => k_asm); (case row9k4 => k_asm); (case row9k5 => k_asm); (case row9kK => first | exact rfl | assumption); (case row9kp => (refine ⟨?_, ?_, ?_⟩ <;> omega)); (case row9kd => (first | omega | ktr_room | ((try simp only [depth_deeper, depth_in1]); (try dsimp only [ktrTop]); omega))); (case row9ku => (first | omega | ktr_units | ((try simp only [units_in1, units_deeper, Around.mark_units, units_caller]); (try dsimp only [ktrTop]); omega)))); intro t9 h9 tk9 F9 N9; (try dsimp only); (try k_fold))
  k_with "exec Raise some none" => (k_here; k_dflt (refine' x_Raise ?row10k1 ?_; (case row10k1 => first | rfl | assumption)))
  k_with "call ref" => (k_here; (with_reducible show wpAny _ _ (call (Value.ref 61) [_, _]) _ _ _); k_dflt (refine' x_makeK _ _ _ _ _ _ _ _ _ _ _ _ _ _ _ _ _ _ _ _ ?row11k1 ?row11k2 ?row11k3 ?row11k4 ?row11k5 ?row11kA ?row11kF ?row11kK ?row11kd ?_; (case row11k1 => k_asm); (case row11k2 => k_asm); (case row11k3 => k_asm); (case row11k4 => k_asm); (case row11k5 => k_asm); (case row11kA => exact rfl); (case row11kF => exact rfl); (case row11kK => exact rfl); (case row11kd => (first | omega | ktr_room | ((try simp only [depth_deeper, depth_in1]); (try dsimp only [ktrTop]); omega)))); intro h' tk' e' eo' vs' dx' dO' t1' F' N' O' z0' z1' D' hde' off' offd'; (try dsimp only); refine ⟨_, _, _, _, rfl, Frag.In.keeps (by k_asm) (Fr.keep F'), x_mem N' (List.Mem.head _), O', z1', ?_⟩; (try dsimp only))
  k_with "leaving ref" => (k_here; k_dflt (refine' leave_firstD ?row12k1 ?row12k2 ?row12k3 ?row12k4 ?row12k5 ?row12k6 ?row12k7 ?_; (case row12k1 => k_asm); (case row12k2 => assumption); (case row12k3 => assumption); (case row12k4 => assumption); (case row12k5 => assumption); (case row12k6 => assumption); (case row12k7 => exact List.forall_mem_cons.mpr ⟨by assumption, by assumption⟩)); intro h' R' U'; (try dsimp only))
  k_with "call ref" => (k_here; (with_reducible show wpAny _ _ (call (Value.ref 77) [_, _]) _ _ _); k_dflt (refine' skipped_u ?row13k1 ?row13k2 ?row13k3 ?row13k4 ?row13k5 ?row13kK ?row13kp ?row13kd ?row13ku ?_; (case row13k1 => k_asm); (case row13k2 => k_asm); (case row13k3 => k_asm); (case row13k4 => k_asm); (case row13k5 => k_asm); (case row13kK => first | exact rfl | assumption); (case row13kp => (refine ⟨?_, ?_, ?_⟩ <;> omega)); (case row13kd => (first | omega | ktr_room | ((try simp only [depth_deeper, depth_in1]); (try dsimp only [ktrTop]); omega))); (case row13ku => (first | omega | ktr_units | ((try simp only [units_in1, units_deeper, Around.mark_units, units_caller]); (try dsimp only [ktrTop]); omega)))); intro t9 h9 tk9 F9 N9; (try dsimp only); (try k_fold))
  k_with "call ref" => (k_here; (with_reducible show wpAny _ _ (call (Value.ref 84) [_, _]) _ _ _); k_dflt (refine' word_end_c _ _ _ _ _ _ _ _ _ _ _ _ _ _ _ _ _ _ _ _ _ _ _ _ _ _ ?row14k1 ?row14k2 ?row14k3 ?row14k4 ?row14k5 ?row14kK ?row14kp ?row14kd ?row14ku ?row14ko ?row14ke; (case row14k1 => k_asm); (case row14k2 => k_asm); (case row14k3 => k_asm); (case row14k4 => k_asm); (case row14k5 => k_asm); (case row14kK => first | exact rfl | assumption); (case row14kp => (refine ⟨?_, ?_, ?_⟩ <;> omega)); (case row14kd => (first | omega | ktr_room | ((try simp only [depth_deeper, depth_in1]); (try dsimp only [ktrTop]); omega))); (case row14ku => (first | omega | ktr_units | ((try simp only [units_in1, units_deeper, Around.mark_units, units_caller]); (try dsimp only [ktrTop]); omega)))); rotate_left; (intro hn9 e9 dx9 dO9 y9 ty9 ti9 G9 h9 tk9 F9 R9 U9 D9; (try dsimp only)); rotate_left; (intro k9 hk9 t9 h9 tk9 F9 N9; have kq9 := wordEndI_gt (by omega) (by omega) hk9; obtain ⟨kp9, kq9⟩ := kq9; (try dsimp only)))
  k_with "leaving ref" => (k_here; k_dflt (refine' leave_onD ?row15k1 ?row15k2 ?row15k3 ?row15k4 ?_; (case row15k1 => k_asm); (case row15k2 => assumption); (case row15k3 => assumption); (case row15k4 => assumption)); intro h' R' U'; (try dsimp only))
  k_with "call ref" => (k_here; (with_reducible show wpAny _ _ (call (Value.ref 91) [_]) _ _ _); k_dflt (refine' words_c _ _ _ _ _ _ _ _ _ _ _ _ _ _ _ _ _ _ _ _ _ _ _ _ ?row16k1 ?row16k2 ?row16k3 ?row16k4 ?row16k5 ?row16kK ?row16kp ?row16kd ?row16ku ?row16ko ?row16ke; (case row16k1 => k_asm); (case row16k2 => k_asm); (case row16k3 => k_asm); (case row16k4 => k_asm); (case row16k5 => k_asm); (case row16kK => first | exact rfl | assumption); (case row16kp => omega); (case row16kd => (first | omega | ktr_room | ((try simp only [depth_deeper, depth_in1]); (try dsimp only [ktrTop]); omega))); (case row16ku => (first | omega | ktr_units | ((try simp only [units_in1, units_deeper, Around.mark_units, units_caller]); (try dsimp only [ktrTop]); omega)))); rotate_left; (intro at9 hn9 e9 dx9 dO9 y9 ty9 ti9 G9 h9 tk9 F9 R9 U9 D9; (try dsimp only)); rotate_left; (intro ws9 hk9 l9 vs9 n9 tl9 h9 tk9 F9 N9 A9 O9; (try dsimp only)))
  revert X; k_fill; intro X
  refine wpAny_call ?_
  k_dflt cell_enter
  k_with "exec For Tuple Call cons nil" => (k_here; (rename Fr _ _ _ _ => lF'); (with_unfolding_all refine' For_turns lF' ?_; k_whole))
  k_with "call type:enumerate" => (k_here; k_dflt (refine' law_for (x := x) ?k1 ?k2 ?k3 ?k4 ?k5 ?k6 ?k7 ?_ ?_; (case k1 => exact rfl); (case k2 => k_asm); (case k3 => k_asm); (case k4 => exact ne_of_lts (by assumption)); (case k5 => exact nl_cps x); (case k6 => with_unfolding_all rfl); (case k7 => with_unfolding_all rfl)); rotate_left; (intro c i ua us h tk hf kF kN; (dsimp only [LLed] at kN); (dsimp only [modeS] at kF); have y1 : c.vs.toArray.size ≤ 3000 := LF_size hf hp; (try k_fold)); rotate_left; (intro I c i cd rest ua us h tk T t u oe oi hn hl hf hT kF ho1 ho2 kN; (dsimp only [LLed] at kN); have hl' : @LT.lt Nat _ _ I := hl; have y1 : c.vs.toArray.size ≤ 3000 := LF_size hf hp; have y2 := hf.off; have y3 := LF_i hf; have y4 := hf.bi; rcases mode5 hf.mode with e | e | e | e | e <;> (simp only [e, modeS0, modeS1, modeS2, modeS3, modeS4] at kF); (all_goals try k_fold)))
  k_with "LPost" => (dsimp only [LPost])
  k_steps
  all_goals try first
    | exact (no_LM (by assumption) (by assumption)).elim
    | exact (no_LR (by assumption) (by assumption)).elim
    | exact (no_LS (by assumption) (by assumption)).elim
    | exact (no_FM (by assumption) (by assumption)).elim
    | exact (no_FR (by assumption) (by assumption)).elim
    | exact (no_FS (by assumption) (by assumption)).elim
  all_goals try first
    | exact end0 hf (st_1L hf e (by assumption)) (by assumption) (by assumption) rfl rfl (fun z h1 h2 h3 h4 => by simp only [if_neg h1, if_neg h2, if_neg h3, if_neg h4])
    | exact end0 hf (st_1F hf e (by assumption)) (by assumption) (by assumption) rfl rfl (fun z h1 h2 h3 h4 => by simp only [if_neg h1, if_neg h2, if_neg h3, if_neg h4])
    | exact end0 hf (st_2F hf e (by assumption)) (by assumption) (by assumption) rfl rfl (fun z h1 h2 h3 h4 => by simp only [if_neg h1, if_neg h2, if_neg h3, if_neg h4])
    | exact end0 hf (st_3F hf e (by assumption)) (by assumption) (by assumption) rfl rfl (fun z h1 h2 h3 h4 => by simp only [if_neg h1, if_neg h2, if_neg h3, if_neg h4])
    | exact end0 hf (st_4n hf e (by assumption)) (by assumption) (by assumption) rfl rfl (fun z h1 h2 h3 h4 => by simp only [if_neg h1, if_neg h2, if_neg h3, if_neg h4])
    | exact end0 hf (st_4r hf e (by assumption)) (by assumption) (by assumption) rfl rfl (fun z h1 h2 h3 h4 => by simp only [if_neg h1, if_neg h2, if_neg h3, if_neg h4])
    | exact end0 hf (st_4 hf e (by assumption) (by assumption)) (by assumption) (by assumption) rfl rfl (fun z h1 h2 h3 h4 => by simp only [if_neg h1, if_neg h2, if_neg h3, if_neg h4])
    | exact end0 hf (st_L hf (ad0 e) (by assumption)) (by assumption) (by assumption) rfl rfl (fun z h1 h2 h3 h4 => by simp only [if_neg h1, if_neg h2, if_neg h3, if_neg h4])
    | exact end0 hf (st_F hf (ad0 e) (by assumption)) (by assumption) (by assumption) rfl rfl (fun z h1 h2 h3 h4 => by simp only [if_neg h1, if_neg h2, if_neg h3, if_neg h4])
    | exact end0 hf (st_M hf (ad0 e) (by assumption)) (by assumption) (by assumption) rfl rfl (fun z h1 h2 h3 h4 => by simp only [if_neg h1, if_neg h2, if_neg h3, if_neg h4])
    | exact end0 hf (st_R hf (ad0 e) (by assumption)) (by assumption) (by assumption) rfl rfl (fun z h1 h2 h3 h4 => by simp only [if_neg h1, if_neg h2, if_neg h3, if_neg h4])
    | exact end0 hf (st_B (ad0 e) (by assumption)) (by assumption) (by assumption) rfl rfl (fun z h1 h2 h3 h4 => by simp only [if_neg h1, if_neg h2, if_neg h3, if_neg h4])
    | exact end1 hf (st_S hf (ad0 e) (by assumption)) rfl rfl (by assumption) (by assumption) (by assumption) rfl rfl (fun z h1 h2 h3 h4 => by simp only [if_neg h1, if_neg h2, if_neg h3, if_neg h4])
    | exact end1 hf (st_M hf (ad1 e (by assumption) (by assumption)) (by assumption)) (slice_ww hf) rfl (by assumption) (by assumption) (by assumption) rfl rfl (fun z h1 h2 h3 h4 => by simp only [if_neg h1, if_neg h2, if_neg h3, if_neg h4])
    | exact end1 hf (st_R hf (ad1 e (by assumption) (by assumption)) (by assumption)) (slice_ww hf) rfl (by assumption) (by assumption) (by assumption) rfl rfl (fun z h1 h2 h3 h4 => by simp only [if_neg h1, if_neg h2, if_neg h3, if_neg h4])
    | exact end1 hf (st_B (ad1 e (by assumption) (by assumption)) (by assumption)) (slice_ww hf) rfl (by assumption) (by assumption) (by assumption) rfl rfl (fun z h1 h2 h3 h4 => by simp only [if_neg h1, if_neg h2, if_neg h3, if_neg h4])
    | exact end2 hf (st_S hf (ad1 e (by assumption) (by assumption)) (by assumption)) (slice_ww hf) rfl rfl rfl (by assumption) (by assumption) (by assumption) (by assumption) rfl rfl (fun z h1 h2 h3 h4 => by simp only [if_neg h1, if_neg h2, if_neg h3, if_neg h4])
    | exact ret_err hret (st_bad hf (ad1 e (by assumption) (by assumption)) (by assumption) (by assumption) (by assumption) (by assumption) (by assumption) (by assumption)) rfl (by assumption) (by assumption) (fun p hp => .tail _ (.tail _ (.tail _ (.tail _ (List.mem_append_right _ hp)))))
    | exact end1 hf (st_L hf (ad2 e (by assumption)) (by assumption)) (slice_ww hf) rfl (by assumption) (by assumption) (by assumption) rfl rfl (fun z h1 h2 h3 h4 => by simp only [if_neg h1, if_neg h2, if_neg h3, if_neg h4])
    | exact end1 hf (st_M hf (ad2 e (by assumption)) (by assumption)) (slice_ww hf) rfl (by assumption) (by assumption) (by assumption) rfl rfl (fun z h1 h2 h3 h4 => by simp only [if_neg h1, if_neg h2, if_neg h3, if_neg h4])
    | exact end1 hf (st_R hf (ad2 e (by assumption)) (by assumption)) (slice_ww hf) rfl (by assumption) (by assumption) (by assumption) rfl rfl (fun z h1 h2 h3 h4 => by simp only [if_neg h1, if_neg h2, if_neg h3, if_neg h4])
    | exact end1 hf (st_B (ad2 e (by assumption)) (by assumption)) (slice_ww hf) rfl (by assumption) (by assumption) (by assumption) rfl rfl (fun z h1 h2 h3 h4 => by simp only [if_neg h1, if_neg h2, if_neg h3, if_neg h4])
    | exact end2 hf (st_S hf (ad2 e (by assumption)) (by assumption)) (slice_ww hf) rfl rfl rfl (by assumption) (by assumption) (by assumption) (by assumption) rfl rfl (fun z h1 h2 h3 h4 => by simp only [if_neg h1, if_neg h2, if_neg h3, if_neg h4])
    | exact ret_err hret (st_bad hf (ad2 e (by assumption)) (by assumption) (by assumption) (by assumption) (by assumption) (by assumption) (by assumption)) rfl (by assumption) (by assumption) (fun p hp => .tail _ (.tail _ (.tail _ (.tail _ (List.mem_append_right _ hp)))))
    | exact ret_err hret (st_bad hf (ad0 e) (by assumption) (by assumption) (by assumption) (by assumption) (by assumption) (by assumption)) rfl (by assumption) (by assumption) (fun p hp => .tail _ (.tail _ (.tail _ (List.mem_append_right _ hp))))
    | exact ret_err hret (st_minus hf e (by assumption)) rfl (by assumption) (by assumption) (fun p hp => .tail _ (.tail _ (.tail _ (List.mem_append_right _ hp))))
    | exact ret_ok hret hf rfl (by assumption) (by assumption)
end LawWalk
-- PART C11a
section EnterX
open PySem.Spec
variable {prog : Program} {w : World} {A₀ A : Around} {s : Shared} {base h₀ : Heap} {L : Addr} {m : Str → Option Value} {env : Env} {news : List (Addr × Obj)} {K : Frag} {p : Program} {loose : List Str} {mean : ExcName → Option Value} {mg mb : Str → Option Value}
    {R : Result → Shared → Prop} {name qual : Str} {params : Arguments} {body : List Stmt} {scope : Scope} {dV kV doc pm cdv ct oc : Value} {an od : Option Addr} {osl : Array (Option Value)} {f : Addr} {args : Args} {binds : List (Str × Value)}
theorem ground_dict (F : Fr h₀ L s.heap m) (N : News h₀ L s.heap news) : ∃ oL es ep, (hideAll s.heap (news.map (·.1))).get? L = some oL ∧ oL.data = .dict es ep ∧ ∀ (sl : Array (Option Value)) h', h'.get? L = some { oL with slots := sl } → Heap.Ns h' L m := by
  obtain ⟨oL, es, ep, hL, hLd, hLk, hLf⟩ := F.ns
  have nL : L ∉ news.map (·.1) := fun q => by
    obtain ⟨p, hp, e⟩ := List.mem_map.mp q
    exact (N p hp).2.1 e
  exact ⟨oL, es, ep, hideAll_get (news.map (·.1)) hL nL, hLd, fun sl h' e => ⟨_, es, ep, e, hLd, hLk, hLf⟩⟩
theorem code_defSX (B : Below A₀ base [] h₀) (F : Fr h₀ L s.heap m) (X₀ : K.In h₀) (N : News h₀ L s.heap news) (T : Top p loose mean mg mb h₀) (hA : A.frames = some [env]) (hf : env.frame = some L) (hke : env.scope.kind = .function)
    (ho : K.lookup f = some ⟨oc, od, .func (fnOf name qual params body scope dV kV doc pm an cdv ct), osl⟩) (hcd : codeIn K cdv qual = true) (hroom : A.depth < recursionLimit)
    (hbind : BindsTo s (fnOf name qual params body scope dV kV doc pm an cdv ct) args binds) (hloc : ∀ y ∈ binds, scope.names.lookup y.1 = some .local)
    (h : ∀ g L' h₁, Fr h₀ L g m → Fr g L' h₁ (fun y => binds.reverse.lookup y) → News g L' h₁ news → Below A base [env] g → K.In g → Top p loose mean mg mb g → KtsDicts ([env].filterMap (·.frame)) g →
      wpAny (model prog w) (A.deeper (envOf qual scope L' f cdv)) (execs body (envOf qual scope L' f cdv))
        (fun fl s' => LeaveS0 ([env].filterMap (·.frame)) h₀ L m g R (match fl with | .ret v => v | _ => .none) s')
        (fun e s' => wpAny (model prog w) (A.deeper (envOf qual scope L' f cdv)) (leaving (envOf qual scope L' f cdv) e) (fun _ s'' => R (.error e) s'') (fun e' s'' => R (.error e') s'') s')
        { s with heap := h₁, toks := s.toks + binds.length })
    (hco : scope.isCoroutine = false) (hgen : scope.isGenerator = false) (hk : scope.kind = .function)
    (hcell : ∀ x ∈ scope.names, x.2 ≠ .cell) : codeAny (model prog w) A (.call (.ref f) args) R s := by
  have X := X₀.keeps F.keep
  have hfr : ∀ b, b ∈ [env].filterMap (·.frame) → b = L := fun b hb => by
    simp only [List.filterMap_cons, hf, List.filterMap_nil, List.mem_singleton] at hb
    exact hb
  have hfL : L ∈ [env].filterMap (·.frame) := by
    simp only [List.filterMap_cons, hf, List.filterMap_nil, List.mem_singleton]
  obtain ⟨FG, B₂, st, _⟩ := groundX (R := R) B F N hA hf hke
  obtain ⟨oL, es, ep, hLg, hLd, hNs⟩ := ground_dict F N
  refine codeAny_call_def (fd := fnOf name qual params body scope dV kV doc pm an cdv ct) (body := body) (binds := binds) hroom (X _ _ ho) rfl (T.nolimit.keeps F.keep) (codeRec_of X hcd) rfl hbind hcell hloc (fun h₁ hns hk₁ => ?_) hco hgen hk
  refine wpAny_mono (h _ s.heap.objs.size h₁ FG ⟨hns, fun b o e => hk₁ b o (of_hideAll _ e), Nat.le_of_eq (hideAll_size _ _)⟩
    (fun p hp => ⟨hk₁ _ _ (N p hp).1, Nat.ne_of_lt (Heap.lt_size (N p hp).1), hideAll_none _ (List.mem_map_of_mem hp)⟩) B₂ (X₀.keeps st) (T.keeps st) (fun b hb => by
      rw [hfr b hb]; exact ⟨oL, es, ep, hLg, hLd⟩)) (fun fl s' hl => ?_) fun _ _ y => y
  obtain ⟨g', L', m', news', T', F', N', k⟩ := hl
  have nL₀ : h₀.get? L = none := kts_self F
  obtain ⟨sl, hs⟩ := T'.up hLg
  refine k ⟨hNs sl _ (F'.keep _ _ hs), fun b o e => F'.keep b o (T'.other b o (st b o e) (fun q => by
    rw [hfr b q, nL₀] at e
    cases e)), F.above⟩ fun p hp => ⟨(N' p hp).1, fun q => ?_, ?_⟩
  · have := (N' p hp).2.2; rw [q, hs] at this; cases this
  · cases q : h₀.get? p.1 with
    | none => rfl
    | some o =>
      obtain ⟨sl', hs'⟩ := T'.up (st _ _ q)
      have := (N' p hp).2.2
      rw [hs'] at this
      cases this
end EnterX
-- PART C11
section LawHeard
open PyProof.V PySem.Spec
theorem dx_ne {h₀ h : Heap} {L e dx : Addr} {eo dO : Obj} {vs : Array Value} {d : Option Addr} {mA : Str → Option Value} {news : List (Addr × Obj)} (N : News h₀ L h ((e, eo) :: (dx, dO) :: news)) (O : EO eo d vs) (D : DH dO mA) : dx ≠ e := by
  intro q
  have h1 := (N (e, eo) (.head _)).1
  have h2 := (N (dx, dO) (.tail _ (.head _))).1
  obtain ⟨es, ep, hd, _⟩ := D
  have h2' : h.get? e = some dO := q ▸ h2
  have e2 : eo = dO := Option.some.inj (h1.symm.trans h2')
  have := O.data
  rw [e2, hd] at this
  cases this
theorem ret_heard {x : PySem.Str} {h₀ h : Heap} {L D l : Addr} {m : Str → Option Value} {s : Shared} {tk n : Nat} {Q : Value → Shared → Prop} {news tl : List (Addr × Obj)} {vs : List Value} {ws : List Wd}
    (hret : ∀ v tl h' tk', Fr h₀ L h' m → News h₀ L h' (tl ++ news) → DatIn tl v (due x) → Q v { s with heap := h', toks := tk' })
    (he : words false x.cps.toList 0 = .ok ws) (A : DatAll tl vs ((ws ++ [([], x.length)]).map wdat)) (F : Fr h₀ L h m)
    (N : News h₀ L h ((D, ({ cls := .type "tuple", data := .seq #[.ref l, .none] } : Obj)) :: (l, listOf vs.toArray n) :: (tl ++ news))) : Q (.ref D) { s with heap := h, toks := tk } := by
  refine hret _ ((D, ({ cls := .type "tuple", data := .seq #[.ref l, .none] } : Obj)) :: (l, listOf vs.toArray n) :: tl) _ _ F N ?_
  unfold due
  rw [he]
  exact .tuple (vs := [.ref l, .none]) (n := 0) (.head _) (.cons (.list (.tail _ (.head _)) (DatAll.mono (fun _ h => .tail _ (.tail _ h)) A)) (.cons .none .nil))
set_option maxHeartbeats 8000000 in
theorem law_heard_c (w : World) (mean : ExcName → Option Value) (mg mb : Str → Option Value) (x : PySem.Str) (tx : Tok) (news : CbLed)
    (dp un : Nat) (gd : Option (List Code)) (cn : Str) (cs : Scope) (a : Addr) (ccd : Value) (cl : List (Str × Addr)) (A₀ : Around) (base h₀ : Heap) (L : Addr) (m : Str → Option Value) (s : Shared) (Q E : Value → Shared → Prop)
    (B : Below A₀ base [] h₀) (F : Fr h₀ L s.heap m) (X : (hd.heap_39 w.params).In h₀) (N : News h₀ L s.heap news) (T : Top hd.view_39 Lo0 mean mg mb h₀) (hcs : cs.kind = .function)
    (XB : (hd.heap_39 w.params).In base) (TB : Top hd.view_39 Lo0 mean mg mb base)
    (hp : x.length ≤ 900) (hd1 : dp + 15 < recursionLimit) (hu1 : un + 400 < cLine)
    (hret : ∀ v tl h' tk', Fr h₀ L h' m → News h₀ L h' (tl ++ news) → DatIn tl v (due x) → Q v { s with heap := h', toks := tk' }) :
    wpAny (model PySem.Challenge.rw_pb0150_01.row.prog w) (ktrTop dp un gd cn cs L a ccd cl []) (call (.ref 117) [.str x tx]) Q E s := by
  k_with_none
  w_top off
  k_with "subscriptTail Name Name str int" => (k_here; (with_reducible show wpAny _ _ (subscriptTail _ _ (Value.str _ _) (Value.int _ _)) _ _ _); (refine my_item (by omega) (by omega) (by omega) ?_))
  k_with "compareOp In str str" => (k_here; (with_reducible show wpAny _ _ (compareOp CmpOp.In (Value.str (PySem.Str.mk _) _) (Value.str _ _)) _ _ _); refine my_in ?_)
  k_with "compareOp NotIn str str" => (k_here; (with_reducible show wpAny _ _ (compareOp CmpOp.NotIn (Value.str (PySem.Str.mk _) _) (Value.str _ _)) _ _ _); refine my_notIn ?_)
  k_with "call ref" => (k_here; (with_reducible show wpAny _ _ (call (Value.ref 70) [_, _, _]) _ _ _); k_dflt (refine' run_end_u ?row9k1 ?row9k2 ?row9k3 ?row9k4 ?row9k5 ?row9kK ?row9kp ?row9kd ?row9ku ?_; (case row9k1 => k_asm); (case row9k2 => k_asm); (case row9k3 => k_asm); (case row9k4 => k_asm); (case row9k5 => k_asm); (case row9kK => first | exact rfl | assumption); (case row9kp => (refine ⟨?_, ?_, ?_⟩ <;> omega)); (case row9kd => (first | omega | ktr_room | ((try simp only [depth_deeper, depth_in1]); (try dsimp only [ktrTop]); omega))); (case row9ku => (first | omega | ktr_units | ((try simp only [units_in1, units_deeper, Around.mark_units, units_caller]); (try dsimp only [ktrTop]); omega)))); intro t9 h9 tk9 F9 N9; (try dsimp only); (try k_fold))
  k_with "exec Raise some none" => (k_here; k_dflt (refine' x_Raise ?row10k1 ?_; (case row10k1 => first | rfl | assumption)))
  k_with "call ref" => (k_here; (with_reducible show wpAny _ _ (call (Value.ref 61) [_, _]) _ _ _); k_dflt (refine' x_makeK _ _ _ _ _ _ _ _ _ _ _ _ _ _ _ _ _ _ _ _ ?row11k1 ?row11k2 ?row11k3 ?row11k4 ?row11k5 ?row11kA ?row11kF ?row11kK ?row11kd ?_; (case row11k1 => k_asm); (case row11k2 => k_asm); (case row11k3 => k_asm); (case row11k4 => k_asm); (case row11k5 => k_asm); (case row11kA => exact rfl); (case row11kF => exact rfl); (case row11kK => exact rfl); (case row11kd => (first | omega | ktr_room | ((try simp only [depth_deeper, depth_in1]); (try dsimp only [ktrTop]); omega)))); intro h' tk' e' eo' vs' dx' dO' t1' F' N' O' z0' z1' D' hde' off' offd'; (try dsimp only); refine ⟨_, _, _, _, rfl, Frag.In.keeps (by k_asm) (Fr.keep F'), x_mem N' (List.Mem.head _), O', z1', ?_⟩; (try dsimp only))
  k_with "leaving ref" => (k_here; k_dflt (refine' leave_firstD ?row12k1 ?row12k2 ?row12k3 ?row12k4 ?row12k5 ?row12k6 ?row12k7 ?_; (case row12k1 => k_asm); (case row12k2 => assumption); (case row12k3 => assumption); (case row12k4 => assumption); (case row12k5 => assumption); (case row12k6 => assumption); (case row12k7 => exact List.forall_mem_cons.mpr ⟨by assumption, by assumption⟩)); intro h' R' U'; (try dsimp only))
  k_with "call ref" => (k_here; (with_reducible show wpAny _ _ (call (Value.ref 77) [_, _]) _ _ _); k_dflt (refine' skipped_u ?row13k1 ?row13k2 ?row13k3 ?row13k4 ?row13k5 ?row13kK ?row13kp ?row13kd ?row13ku ?_; (case row13k1 => k_asm); (case row13k2 => k_asm); (case row13k3 => k_asm); (case row13k4 => k_asm); (case row13k5 => k_asm); (case row13kK => first | exact rfl | assumption); (case row13kp => (refine ⟨?_, ?_, ?_⟩ <;> omega)); (case row13kd => (first | omega | ktr_room | ((try simp only [depth_deeper, depth_in1]); (try dsimp only [ktrTop]); omega))); (case row13ku => (first | omega | ktr_units | ((try simp only [units_in1, units_deeper, Around.mark_units, units_caller]); (try dsimp only [ktrTop]); omega)))); intro t9 h9 tk9 F9 N9; (try dsimp only); (try k_fold))
  k_with "call ref" => (k_here; (with_reducible show wpAny _ _ (call (Value.ref 84) [_, _]) _ _ _); k_dflt (refine' word_end_c _ _ _ _ _ _ _ _ _ _ _ _ _ _ _ _ _ _ _ _ _ _ _ _ _ _ ?row14k1 ?row14k2 ?row14k3 ?row14k4 ?row14k5 ?row14kK ?row14kp ?row14kd ?row14ku ?row14ko ?row14ke; (case row14k1 => k_asm); (case row14k2 => k_asm); (case row14k3 => k_asm); (case row14k4 => k_asm); (case row14k5 => k_asm); (case row14kK => first | exact rfl | assumption); (case row14kp => (refine ⟨?_, ?_, ?_⟩ <;> omega)); (case row14kd => (first | omega | ktr_room | ((try simp only [depth_deeper, depth_in1]); (try dsimp only [ktrTop]); omega))); (case row14ku => (first | omega | ktr_units | ((try simp only [units_in1, units_deeper, Around.mark_units, units_caller]); (try dsimp only [ktrTop]); omega)))); rotate_left; (intro hn9 e9 dx9 dO9 y9 ty9 ti9 G9 h9 tk9 F9 R9 U9 D9; (try dsimp only)); rotate_left; (intro k9 hk9 t9 h9 tk9 F9 N9; have kq9 := wordEndI_gt (by omega) (by omega) hk9; obtain ⟨kp9, kq9⟩ := kq9; (try dsimp only)))
  k_with "leaving ref" => (k_here; k_dflt (refine' leave_onD ?row15k1 ?row15k2 ?row15k3 ?row15k4 ?_; (case row15k1 => k_asm); (case row15k2 => assumption); (case row15k3 => assumption); (case row15k4 => assumption)); intro h' R' U'; (try dsimp only))
  k_with "call ref" => (k_here; (with_reducible show wpAny _ _ (call (Value.ref 91) [_]) _ _ _); k_dflt (refine' words_c _ _ _ _ _ _ _ _ _ _ _ _ _ _ _ _ _ _ _ _ _ _ _ _ ?row16k1 ?row16k2 ?row16k3 ?row16k4 ?row16k5 ?row16kK ?row16kp ?row16kd ?row16ku ?row16ko ?row16ke; (case row16k1 => k_asm); (case row16k2 => k_asm); (case row16k3 => k_asm); (case row16k4 => k_asm); (case row16k5 => k_asm); (case row16kK => first | exact rfl | assumption); (case row16kp => omega); (case row16kd => (first | omega | ktr_room | ((try simp only [depth_deeper, depth_in1]); (try dsimp only [ktrTop]); omega))); (case row16ku => (first | omega | ktr_units | ((try simp only [units_in1, units_deeper, Around.mark_units, units_caller]); (try dsimp only [ktrTop]); omega)))); rotate_left; (intro at9 hn9 e9 dx9 dO9 y9 ty9 ti9 G9 h9 tk9 F9 R9 U9 D9; (try dsimp only)); rotate_left; (intro ws9 hk9 l9 vs9 n9 tl9 h9 tk9 F9 N9 A9 O9; (try dsimp only)))
  revert X; k_fill; intro X
  refine wpAny_call ?_
  k_dflt (refine' code_defSX ?k1 ?k2 ?k3 ?k4 ?k5 ?kA ?kF ?kK ?k6 ?k7 ?k8 ?k9 ?kB ?_ ?c2 ?c3 ?c4 ?c5; (case kA => exact rfl); (case kF => exact rfl); (case kK => assumption); (case k1 => k_asm); (case k2 => k_asm); (case k3 => k_asm); (case k4 => k_asm); (case k5 => k_asm); (case k6 => k_is); (case k7 => k_is); (case k8 => ktr_room); (case k9 => exact BindsTo.of_eq rfl); (case c5 => decide); (case kB => exact locs rfl); (case c2 => exact rfl); (case c3 => exact rfl); (case c4 => exact rfl); k_whole; intro g' L' h' FG' F' N' B' X' T' D'; (try dsimp only); (try k_lift B'); (try k_fold))
  k_with "noteFrame ref" => (k_dflt (refine' lookD ?R ?K ?U ?_; (case R => assumption); (case K => assumption); (case U => assumption)); intro h' R' U'; (try dsimp only))
  k_with "handleBy ref" => (k_dflt (refine' hitD ?R ?F ?K ?U ?XB ?TB ?D ?T0 ?T ?_ ?c1 ?c2; (case R => assumption); (case F => assumption); (case K => assumption); (case U => assumption); (case XB => assumption); (case TB => assumption); (case D => assumption); (case T0 => first | assumption | exact KtsTurn.refl); (case T => kts_test); (case c1 => exact rfl); (case c2 => exact rfl)); intro h' g' tk' eo' vs' T' F' N' O' K' X' P' D'; (try dsimp only); (try k_lift K'); (try k_sweep))
  k_with "getAttr ref" => (k_dflt (refine' x_getK ?X ?F ?he ?hdx ?O ?D ?hde ?hl ?hv ?hh ?_; (case X => exact X'); (case F => exact F'); (case he => exact News.get N' (.head _)); (case hdx => exact News.get N' (.tail _ (.head _))); (case O => exact O'); (case D => assumption); (case hde => exact dx_ne N' O' (by assumption)); (case hl => exact (c61_of w _ (Frag.In.keeps X' F'.keep)).at_); (case hv => exact if_pos rfl); (case hh => exact rfl)); (try dsimp only))
  k_steps
  all_goals first
    | exact ret_heard hret (by assumption) (by assumption) (by assumption) (by assumption)
    | exact ret_err hret (by assumption) rfl (by assumption) (by assumption) (fun p hp => .tail _ (.tail _ hp))
end LawHeard
-- PART C5
section LinesC5
/-- the pen's three places -/
abbrev penObj (c : Addr) (a : Int) (ta : Tok) (b : Int) (tb : Tok) (n : Nat) : Obj := listOf #[.ref c, .int a ta, .int b tb] n
def powI (x y : Int) : Int := x ^ y.toNat
section
variable {prog : Program} {w : World} {A : Around} {E : Value → Shared → Prop} {s : Shared} {x y : Int} {t u : Tok} {Q : Value → Shared → Prop}
theorem my_mul (ha : 0 ≤ x) (ha' : x ≤ 2147483648) (hb : 0 ≤ y) (hb' : y ≤ 1000000) (h : ∀ r : Int, 0 ≤ r → r ≤ 2147483648000000 → Q (.int r s.toks) { s with toks := s.toks + 1 }) :
    wpAny (model prog w) A (binaryOp .Mult (.int x t) (.int y u)) Q E s := by
  refine PyProof.Rows.mul_int (h _ (Int.mul_nonneg ha hb) ?_) (IntMulOk.of_left (intBits_le_64 (by omega) (by omega)))
  exact Int.le_trans (Int.mul_le_mul ha' hb' hb (by omega)) (by decide)
theorem my_pow (hn : 0 ≤ y) (hn2 : y ≤ 1000000) (ha : x.natAbs < 2 ^ 64) (h : Q (.int (powI x y) s.toks) { s with toks := s.toks + 1 }) :
    wpAny (model prog w) A (binaryOp .Pow (.int x t) (.int y u)) Q E s := PyProof.Rows.pow_int_small hn hn2 ha h
theorem my_mod (hy : 0 < y) (h : ∀ r : Int, 0 ≤ r → r < y → Q (.int r s.toks) { s with toks := s.toks + 1 }) :
    wpAny (model prog w) A (binaryOp .Mod (.int x t) (.int y u)) Q E s := PyProof.Rows.mod_int' (by omega) (h _ (fmod_lo _ hy) (fmod_hi _ hy))
theorem my_div (hy : 0 < y) (hy' : y < 1000) (h : ∀ r : Int, (0 ≤ x → 0 ≤ r) → Q (.int r s.toks) { s with toks := s.toks + 1 }) :
    wpAny (model prog w) A (binaryOp .FloorDiv (.int x t) (.int y u)) Q E s :=
  PyProof.Rows.floordiv_int (by omega) (h _ fun hx => Int.fdiv_nonneg hx (by omega)) (Or.inl (PyProof.noPylong_small (by omega)))
theorem my_abs (h : ∀ u tk, Q (.int ((x.natAbs : Nat) : Int) u) { s with toks := tk }) : wpAny (model prog w) A (call (.builtin "abs") [.int x t]) Q E s :=
  PyProof.Rows.call_abs_int fun u tk => by
    have e : (if x < 0 then -x else x) = ((x.natAbs : Nat) : Int) := by split <;> omega
    rw [e]
    exact h u tk
end
abbrev DrawRet (h₀ : Heap) (L : Addr) (m : PySem.Str → Option Value) (s : Shared) (p c : Addr) (vs : List Value) (n n' : Nat) (a k : Int) (rest : CbLed) (Q : Value → Shared → Prop) : Prop :=
  ∀ (r a' b' : Int) (t ta' tb' : Tok) (h' : Heap) (tk' : Nat), 0 ≤ r → r < k → 0 ≤ a' → a' ≤ a + 1 → 0 ≤ b' → Fr h₀ L h' m → News h₀ L h' ((p, penObj c a' ta' b' tb' n) :: (c, listOf vs.toArray n') :: rest) → Q (.int r t) { s with heap := h', toks := tk' }
section
variable {h₀ h' : Heap} {L : Addr} {m : PySem.Str → Option Value} {s : Shared} {p c : Addr} {vs : List Value} {n n' : Nat} {a k r a' b' : Int} {rest : CbLed} {Q : Value → Shared → Prop} {t ta' tb' : Tok} {tk' : Nat} {o : Addr × Obj}
theorem draw_ret0 (hret : DrawRet h₀ L m s p c vs n n' a k rest Q) (F : Fr h₀ L h' m) (N : News h₀ L h' ((p, penObj c a' ta' b' tb' n) :: (c, listOf vs.toArray n') :: rest)) (h1 : 0 ≤ r ∧ r < k ∧ 0 ≤ a' ∧ a' ≤ a + 1 ∧ 0 ≤ b') :
    Q (.int r t) { s with heap := h', toks := tk' } := hret _ _ _ _ _ _ _ _ h1.1 h1.2.1 h1.2.2.1 h1.2.2.2.1 h1.2.2.2.2 F N
theorem draw_ret1 (hret : DrawRet h₀ L m s p c vs n n' a k rest Q) (F : Fr h₀ L h' m) (N : News h₀ L h' (o :: (p, penObj c a' ta' b' tb' n) :: (c, listOf vs.toArray n') :: rest)) (h1 : 0 ≤ r ∧ r < k ∧ 0 ≤ a' ∧ a' ≤ a + 1 ∧ 0 ≤ b') :
    Q (.int r t) { s with heap := h', toks := tk' } := draw_ret0 hret F (fun q hq => N q (List.mem_cons_of_mem _ hq)) h1
end
set_option maxHeartbeats 8000000 in
theorem draw_c (w : World) (mean : ExcName → Option Value) (mg mb : PySem.Str → Option Value) (p c : Addr) (vs : List Value) (ns : List Int) (a b : Int) (ta tb : Tok) (n n' : Nat) (k : Int) (tk₀ : Tok) (rest : CbLed)
    (dp un : Nat) (gd : Option (List Code)) (cn : Str) (cs : Scope) (ad : Addr) (ccd : Value) (cl : List (Str × Addr)) (outer : List Env) (A₀ : Around) (base h₀ : Heap) (L : Addr) (m : Str → Option Value) (s : Shared) (Q E : Value → Shared → Prop)
    (B : Below A₀ base outer h₀) (F : Fr h₀ L s.heap m) (X : (hd.heap_39 w.params).In h₀) (N : News h₀ L s.heap ((p, penObj c a ta b tb n) :: (c, listOf vs.toArray n') :: rest)) (T : Top hd.view_39 Lo0 mean mg mb h₀) (hcs : cs.kind = .function)
    (hI : IntsAre vs ns) (hlen : ns.length ≤ 63) (hpc : p ≠ c) (hp : ∀ q ∈ rest, q.1 ≠ p) (h0 : 0 ≤ a) (h1 : a ≤ 1000) (h2 : 0 ≤ b) (hk0 : 0 < k) (hk1 : k ≤ 63) (hd1 : dp + 1 < recursionLimit) (hu1 : un + 200 < cLine)
    (hret : DrawRet h₀ L m s p c vs n n' a k rest Q) :
    wpAny (model PySem.Challenge.rw_pb0150_01.row.prog w) (ktrTop dp un gd cn cs L ad ccd cl outer) (call (.ref 103) [.ref p, .int k tk₀]) Q E s := by
  k_with_none
  w_top off
  k_with "subscriptTail Name Name str int" => (k_here; (with_reducible show wpAny _ _ (subscriptTail _ _ (Value.str _ _) (Value.int _ _)) _ _ _); (refine my_item (by omega) (by omega) (by omega) ?_))
  k_with "compareOp In str str" => (k_here; (with_reducible show wpAny _ _ (compareOp CmpOp.In (Value.str (PySem.Str.mk _) _) (Value.str _ _)) _ _ _); refine my_in ?_)
  k_with "compareOp NotIn str str" => (k_here; (with_reducible show wpAny _ _ (compareOp CmpOp.NotIn (Value.str (PySem.Str.mk _) _) (Value.str _ _)) _ _ _); refine my_notIn ?_)
  k_with "call builtin:abs" => (k_here; (with_reducible refine my_abs ?_); intro _ _)
  k_with "binaryOp Pow int int" => (k_here; (with_reducible refine my_pow (by omega) (by omega) (by omega) ?_))
  k_with "binaryOp Mult int int" => (k_here; (fail_if_success (with_reducible show wpAny _ _ (binaryOp Operator.Mult (Value.int (OfNat.ofNat _) _) _) _ _ _)); (with_reducible refine my_mul (by omega) (by omega) (by omega) (by omega) ?_); intro ml ml0 ml1)
  k_with "binaryOp Mod int int" => (k_here; (with_reducible refine my_mod (by omega) ?_); intro md md0 md1)
  k_with "binaryOp FloorDiv int int" => (k_here; (with_reducible refine my_div (by omega) (by omega) ?_); intro dv dv0)
  revert X; k_fill; intro X
  replace hpc := neN hpc
  refine wpAny_call ?_
  k_dflt cell_enter
  k_steps
  all_goals first
    | (refine draw_ret0 hret (by assumption) (by assumption) ?_; refine ⟨?_, ?_, ?_, ?_, ?_⟩ <;> omega)
    | (refine draw_ret1 hret (by assumption) (by assumption) ?_; refine ⟨?_, ?_, ?_, ?_, ?_⟩ <;> omega)
    | (exfalso; have hz : (ns.length : Int) = 0 := by assumption
       have hn : decide (ns = []) = false := by assumption
       cases ns with
       | nil => simp at hn
       | cons z zs => simp only [List.length_cons] at hz; omega)
end LinesC5
-- PART C12
section LawTurns
open PyProof.V PySem.Spec
abbrev PLed (p c : Addr) (n : Nat) (rest : List (Addr × Obj)) (a : Int) (ta : Tok) (b : Int) (tb : Tok) : List (Addr × Obj) := (p, penObj c a ta b tb n) :: rest
def TEnd (h₀ : Heap) (L : Addr) (s : Shared) (p c : Addr) (n : Nat) (rest : List (Addr × Obj)) (i : Nat) (pi : Addr × Obj) (s₂ : Shared) : Prop :=
  ∃ (a b : Int) (ta tb : Tok) (h' : Heap) (tk : Nat) (m' : Str → Option Value) (led : List (Addr × Obj)), s₂ = { s with heap := h', toks := tk } ∧ 0 ≤ a ∧ a ≤ 60 * ((i : Int) + 1) ∧ 0 ≤ b ∧ Fr h₀ L h' m' ∧ News h₀ L h' led ∧ pi ∈ led ∧ ∀ q ∈ PLed p c n rest a ta b tb, q ∈ led
def TPost (h₀ : Heap) (L : Addr) (s : Shared) (p c : Addr) (n : Nat) (rest : List (Addr × Obj)) (i : Nat) (pi : Addr × Obj) (Q : Flow → Shared → Prop) (f : Flow) (s₂ : Shared) : Prop :=
  match f with
  | .ret v => Q (.ret v) s₂
  | .brk => Q .next s₂
  | _ => TEnd h₀ L s p c n rest i pi s₂
variable {prog : Program} {w : World} {A : Around} {E : Value → Shared → Prop} {s : Shared} {env : Env} {h₀ : Heap} {body : List Stmt} {Q : Flow → Shared → Prop}
def rItems : Nat → Nat → List Itm
  | _, 0 => []
  | i, k + 1 => .tok (fun t => .int (i : Int) t) :: rItems (i + 1) k
theorem rItems_length : ∀ (k i : Nat), (rItems i k).length = k
  | 0, _ => rfl
  | k + 1, i => congrArg (· + 1) (rItems_length k (i + 1))
theorem rItems_get : ∀ (k i j : Nat), j < k → (rItems i k)[j]? = some (.tok fun t => .int ((i + j : Nat) : Int) t)
  | 0, _, _, h => absurd h (Nat.not_lt_zero _)
  | k + 1, i, 0, _ => rfl
  | k + 1, i, j + 1, h => by
    have q := rItems_get k (i + 1) j (by omega)
    have e : i + 1 + j = i + (j + 1) := by omega
    rw [e] at q
    simpa [rItems] using q
theorem turns_rest {target : PySem.Expr} {p c I : Addr} {n : Nat} {rest : List (Addr × Obj)} (hp : p < I) (hr : ∀ q ∈ rest, q.1 < I)
    (turn : ∀ (i : Nat) (a b : Int) (ta tb : Tok) (m₁ : Str → Option Value) (h : Heap) (tk : Nat) (t : Tok) (oi : Obj), i < 3 → 0 ≤ a → a ≤ 60 * (i : Int) → 0 ≤ b → Fr h₀ env.locals h m₁ → oi.cls = .type "range_iterator" →
      News h₀ env.locals h ((I, oi) :: PLed p c n rest a ta b tb) →
      wpAny (model prog w) A (assign target env (.int (i : Int) t)) (fun _ s₂ => wpAny (model prog w) A (execs body env) (TPost h₀ env.locals { s with heap := h, toks := tk } p c n rest i (I, oi) Q) E s₂) E { s with heap := h, toks := tk })
    (done : ∀ (a b : Int) (ta tb : Tok) (m₁ : Str → Option Value) (h : Heap) (tk : Nat), 0 ≤ a → a ≤ 180 → 0 ≤ b → Fr h₀ env.locals h m₁ → News h₀ env.locals h (PLed p c n rest a ta b tb) → Q .next { s with heap := h, toks := tk }) :
    ∀ (k i : Nat) (a b : Int) (ta tb : Tok) (m' : Str → Option Value), i + k = 3 → 0 ≤ a → a ≤ 60 * (i : Int) → 0 ≤ b →
      ItemsRest prog w A E h₀ env target body Q s [(I, "range_iterator")] [] (rItems i k) m' (PLed p c n rest a ta b tb) := by
  intro k
  induction k with
  | zero =>
    intro i a b ta tb m' hi h0 h1 h2 h tk F N
    exact done a b ta tb m' h tk h0 (by omega) h2 F N
  | succ k ih =>
    intro i a b ta tb m' hi h0 h1 h2
    refine ItemsRest.tok fun t h tk F => ?_
    refine AllObj.cons fun oi hoi => AllObj.nil fun N => ?_
    dsimp only at hoi
    refine wpAny_mono (turn i a b ta tb m' h tk t oi (by omega) h0 h1 h2 F hoi N) (fun _ s₂ h₂ => wpAny_mono h₂ (fun f s₃ q => ?_) fun _ _ e => e) fun _ _ e => e
    have fin : TEnd h₀ env.locals { s with heap := h, toks := tk } p c n rest i (I, oi) s₃ →
        UnrEndW h₀ env.locals { s with heap := h, toks := tk } [(I, oi)] (fun m' n' => SubL [] n' ∧ ItemsRest prog w A E h₀ env target body Q s [(I, "range_iterator")] [] (rItems (i + 1) k) m' n') s₃ := by
      rintro ⟨a', b', ta', tb', h', tk', m'', led, rfl, g0, g1, g2, F', N', hpi, hsub⟩
      refine ⟨h', tk', m'', PLed p c n rest a' ta' b' tb', rfl, F', fun q hq => ?_, fun q hq r' hr' => ?_, trivial, ih (i + 1) a' b' ta' tb' m'' (by omega) g0 (by push_cast; omega) g2⟩
      · rcases List.mem_append.mp hq with hq | hq
        · rw [List.mem_singleton.mp hq]; exact N' _ hpi
        · exact N' _ (hsub q hq)
      · rw [List.mem_singleton.mp hr']
        rcases List.mem_cons.mp hq with rfl | hq
        · exact Nat.ne_of_lt hp
        · exact Nat.ne_of_lt (hr q hq)
    cases f with
    | ret v => exact q
    | brk => exact q
    | next => exact fin q
    | cont => exact fin q
theorem law_range {x₀ : Str} {px : Pos} {r p c : Addr} {n : Nat} {rest news : List (Addr × Obj)} {a₀ b₀ : Int} {ta₀ tb₀ t₀ u₀ v₀ : Tok} {m₀ : Str → Option Value}
    (hh : A.handled = none) (hr : IsRange s.heap r 0 3 1 t₀ u₀ v₀) (F : Fr h₀ env.locals s.heap m₀) (N : News h₀ env.locals s.heap news) (hsub : ∀ q ∈ PLed p c n rest a₀ ta₀ b₀ tb₀, q ∈ news) (h0 : a₀ = 0) (h2 : b₀ = 0)
    (turn : ∀ (I : Addr) (i : Nat) (a b : Int) (ta tb : Tok) (m₁ : Str → Option Value) (h : Heap) (tk : Nat) (t : Tok) (oi : Obj), p < I → (∀ q ∈ rest, q.1 < I) → i < 3 → 0 ≤ a → a ≤ 60 * (i : Int) → 0 ≤ b → Fr h₀ env.locals h m₁ → oi.cls = .type "range_iterator" →
      News h₀ env.locals h ((I, oi) :: PLed p c n rest a ta b tb) →
      wpAny (model prog w) A (assign (.Name x₀ px) env (.int (i : Int) t)) (fun _ s₂ => wpAny (model prog w) A (execs body env) (TPost h₀ env.locals { s with heap := h, toks := tk } p c n rest i (I, oi) Q) E s₂) E { s with heap := h, toks := tk })
    (done : ∀ (a b : Int) (ta tb : Tok) (m₁ : Str → Option Value) (h : Heap) (tk : Nat), 0 ≤ a → a ≤ 180 → 0 ≤ b → Fr h₀ env.locals h m₁ → News h₀ env.locals h (PLed p c n rest a ta b tb) → Q .next { s with heap := h, toks := tk }) :
    wpAny (model prog w) A (pyIter (.ref r)) (fun it s₂ => TurnsAt prog w A h₀ env (.Name x₀ px) body Q E it s₂) E s := by
  have N₀ : News h₀ env.locals s.heap (PLed p c n rest a₀ ta₀ b₀ tb₀) := fun q hq => N q (hsub q hq)
  refine wpAny_pyIter_range hr (by decide) ?_
  have hn : Builtin.Range.rangeSize 0 3 1 = ((3 : Nat) : Int) := by decide
  have W : Walks prog w A s.heap.objs.size [s.heap.objs.size] [s.heap.objs.size] 3 (fun i v => i < 3 ∧ ∃ t, v = .int (0 + (i : Int) * 1) t) (fun i h => IsRangeIter h s.heap.objs.size (0 + (i : Nat) * 1) (((3 : Nat) : Int) - (i : Nat)) 1) := (Walks.range hh _ 0 1 3).bound
  refine ktu_core (tk0 := s.toks) (keep := []) (xs := rItems 0 3) (KTurns.ofWalks W fun i v s Q E st q => by unfold letOwnedTupleGo; exact wpAny_pure q) rfl ?_ ?_ ?_ ?_ ?_ ?_ ?_ (by rw [hn]; simpa using Heap.get?_push_size _ rfl) (F.push _) (fun p hp => ⟨Heap.get?_push_of_some _ (N₀ p hp).1, (N₀ p hp).2⟩) trivial
    (turns_rest (Heap.lt_size (N₀ (p, _) (.head _)).1) (fun q hq => Heap.lt_size (N₀ q (.tail _ hq)).1) (fun i a b ta tb m₁ h tk t oi => turn _ i a b ta tb m₁ h tk t oi (Heap.lt_size (N₀ (p, _) (.head _)).1) (fun q hq => Heap.lt_size (N₀ q (.tail _ hq)).1)) done 3 0 a₀ b₀ ta₀ tb₀ m₀ rfl (by omega) (by omega) (by omega))
  · rintro i v h ⟨hi, t, rfl⟩
    refine ⟨_, rItems_get 3 0 i hi, t, ?_⟩
    have e : (0 : Int) + (i : Int) * 1 = ((0 + i : Nat) : Int) := by omega
    rw [e]
  · rintro i h st
    exact ⟨[(s.heap.objs.size, _)], ⟨⟨rfl, rfl⟩, trivial⟩, fun q hq => by rw [List.mem_singleton.mp hq]; exact st⟩
  · intro b hb
    have hb' : b = s.heap.objs.size := by simpa using hb
    rw [hb']
    exact ⟨by simp, next_is_new F⟩
  · intro b hb
    simpa using hb
  · intro b hb
    exact .inl (by simpa using hb)
  · intro hm
    exact absurd F.ns.lt ((List.mem_singleton.mp hm) ▸ Nat.lt_irrefl _)
  · intro q hq hI
    exact absurd (Heap.lt_size (N₀ q hq).1) ((List.mem_singleton.mp hI) ▸ Nat.lt_irrefl _)
end LawTurns
-- PART PL4
section Plain4
def wsum (ws : List Wd) : Nat := (ws.map fun p => p.1.length).sum
theorem words_facts : ∀ (n : Nat) (bm : Bool) (cs : List Nat) (at_ : Nat) (ws : List Wd), cs.length ≤ n → words bm cs at_ = .ok ws → (∀ x ∈ ws, ∀ c ∈ x.1, c ∈ cs) ∧ wsum ws ≤ cs.length ∧ ws.length ≤ wsum ws := by
  intro n
  induction n with
  | zero =>
    intro bm cs at_ ws hl h
    have : cs = [] := List.length_eq_zero_iff.mp (by omega)
    subst this
    rw [words_nil] at h
    cases h
    exact ⟨fun x hx => (nomatch hx), Nat.le_refl _, Nat.le_refl _⟩
  | succ n ih =>
    intro bm cs at_ ws hl h
    rw [words_eq] at h
    split at h
    · cases h
      exact ⟨fun x hx => (nomatch hx), Nat.zero_le _, Nat.le_refl _⟩
    · rename_i c r hd
      split at h
      · cases h
      · rename_i k hk
        have hlen : (cs.drop (skipL bm cs)).length = r.length + 1 := by rw [hd]; rfl
        have hsub : ∀ a ∈ c :: r, a ∈ cs := fun a ha => List.mem_of_mem_drop (hd ▸ ha)
        rw [List.length_drop] at hlen
        split at h
        · rename_i ws' hw
          cases h
          obtain ⟨i1, i2, i3⟩ := ih false (r.drop k) _ ws' (by rw [List.length_drop]; omega) hw
          rw [List.length_drop] at i2
          have e : wsum ((c :: r.take k, at_ + skipL bm cs) :: ws') = (r.take k).length + 1 + wsum ws' := by simp [wsum]
          rw [e, List.length_cons, List.length_take]
          refine ⟨fun x hx a ha => ?_, by omega, by omega⟩
          rcases List.mem_cons.mp hx with rfl | hx
          · rcases List.mem_cons.mp ha with rfl | ha
            · exact hsub _ (.head _)
            · exact hsub _ (.tail _ (List.mem_of_mem_take ha))
          · exact hsub _ (.tail _ (List.mem_of_mem_drop (i1 x hx a ha)))
        · cases h
theorem words_some {cs : List Nat} {ws : List Wd} (h : words false cs 0 = .ok ws) : (∀ x ∈ ws, ∀ c ∈ x.1, c ∈ cs) ∧ wsum ws ≤ cs.length ∧ ws.length ≤ wsum ws := words_facts _ false cs 0 ws (Nat.le_refl _) h
/-- single blanks between the words keep them all -/
theorem words_again {cs : List Nat} {ws : List Wd} (h : words false cs 0 = .ok ws) : ∃ ws', words false (joinSp (ws.map (·.1))) 0 = .ok ws' ∧ ws'.map (·.1) = ws.map (·.1) :=
  words_join _ 0 fun w hw => by
    obtain ⟨x, hx, rfl⟩ := List.mem_map.mp hw
    exact words_valid _ false cs 0 ws (Nat.le_refl _) h x hx
theorem joinSp_len : ∀ W : List (List Nat), (joinSp W).length ≤ (W.map (·.length)).sum + W.length
  | [] => Nat.le_refl _
  | [w] => by simp [joinSp]
  | w :: v :: r => by
    have ih := joinSp_len (v :: r)
    have e : joinSp (w :: v :: r) = w ++ 32 :: joinSp (v :: r) := rfl
    simp only [e, List.length_append, List.length_cons, List.map_cons, List.sum_cons] at ih ⊢
    omega
theorem joinSp_mem : ∀ (W : List (List Nat)) (a : Nat), a ∈ joinSp W → a = 32 ∨ ∃ w ∈ W, a ∈ w
  | [], a, h => nomatch h
  | [w], a, h => .inr ⟨w, .head _, h⟩
  | w :: v :: r, a, h => by
    have e : joinSp (w :: v :: r) = w ++ 32 :: joinSp (v :: r) := rfl
    rw [e] at h
    rcases List.mem_append.mp h with h | h
    · exact .inr ⟨w, .head _, h⟩
    · rcases List.mem_cons.mp h with h | h
      · exact .inl h
      · rcases joinSp_mem (v :: r) a h with h | ⟨u, hu, h⟩
        · exact .inl h
        · exact .inr ⟨u, .tail _ hu, h⟩
/-- a text of codes that Python has -/
def TOk (x : PySem.Str) : Prop := ∀ c ∈ x.cps.toList, c < 0x110000
theorem TOk.strOk {x : PySem.Str} (h : TOk x) : PyData.strOk x = true := by
  unfold PyData.strOk
  rw [Array.all_eq_true']
  intro c hc
  exact decide_eq_true (h c (Array.mem_toList_iff.mpr hc))
theorem TOk.app {x y : PySem.Str} (h : TOk x) (k : TOk y) : TOk (x ++ y) := by
  intro c hc
  rw [PySem.Str.cps_append, Array.toList_append] at hc
  rcases List.mem_append.mp hc with hc | hc
  · exact h c hc
  · exact k c hc
def strOf (w : List Nat) : PySem.Str := ⟨w.toArray⟩
theorem join_sp : ∀ W : List (List Nat), (Str.join (PySem.Str.ofString " ") (W.map strOf)).cps.toList = joinSp W
  | [] => rfl
  | [w] => by simp [Str.join, strOf, joinSp]
  | w :: v :: r => by
    have ih := join_sp (v :: r)
    have e : joinSp (w :: v :: r) = w ++ 32 :: joinSp (v :: r) := rfl
    have e2 : (PySem.Str.ofString " ").cps.toList = [32] := by decide +kernel
    have e3 : Str.join (PySem.Str.ofString " ") ((w :: v :: r).map strOf) = strOf w ++ PySem.Str.ofString " " ++ Str.join (PySem.Str.ofString " ") ((v :: r).map strOf) := rfl
    rw [e, e3, PySem.Str.cps_append, Array.toList_append, PySem.Str.cps_append, Array.toList_append, ih, e2]
    simp [strOf]
end Plain4
-- PART C13
section LawText
open PyProof.V PySem.Spec
/-- one sign that Python has -/
def Sg (x : PySem.Str) : Prop := x.length = 1 ∧ TOk x
theorem tok_item {y : PySem.Str} (h : TOk y) (i : Int) : TOk ⟨#[cod y i]⟩ := by
  intro c hc
  have : c = cod y i := by simpa using hc
  subst this
  unfold cod
  rw [List.getD_eq_getElem?_getD]
  cases e : y.cps.toList[i.toNat]? with
  | none => decide
  | some v => exact h v (List.mem_of_getElem? e)
theorem sg_item {y : PySem.Str} (h : TOk y) (i : Int) : Sg ⟨#[cod y i]⟩ := ⟨rfl, tok_item h i⟩
theorem tok_join {sep : PySem.Str} (hs : TOk sep) : ∀ l : List PySem.Str, (∀ z ∈ l, TOk z) → TOk (Str.join sep l)
  | [], _ => fun c hc => nomatch hc
  | [x], h => h x (.head _)
  | x :: y :: r, h => ((h x (.head _)).app hs).app (tok_join hs (y :: r) fun z hz => h z (.tail _ hz))
theorem tok_lit {x : PySem.Str} (h : x.cps.toList.all (fun c => decide (c < 0x110000)) = true) : TOk x := fun c hc => by simpa using List.all_eq_true.mp h c hc
/-- the element's end: a sign, the pen moved -/
def ElPost (h₀ : Heap) (L : Addr) (m : Str → Option Value) (s : Shared) (p c : Addr) (n : Nat) (rest : List (Addr × Obj)) (a : Int) (l3 : List (Addr × Obj)) (y : Value) (s₂ : Shared) : Prop :=
  ∃ (a' b' : Int) (ta' tb' : Tok) (h' : Heap) (tk : Nat) (led : List (Addr × Obj)) (x : PySem.Str) (t : Tok), s₂ = { s with heap := h', toks := tk } ∧ y = .str x t ∧ Sg x ∧ 0 ≤ a' ∧ a' ≤ a + 1 ∧ 0 ≤ b' ∧ Fr h₀ L h' m ∧ News h₀ L h' led ∧ (∀ q ∈ l3, q ∈ led) ∧ ∀ q ∈ PLed p c n rest a' ta' b' tb', q ∈ led
theorem strs_snoc {y : PySem.Str} {t : Tok} : ∀ {vs : List Value} {ys : List PySem.Str}, StrsAre vs ys → StrsAre (vs ++ [.str y t]) (ys ++ [y])
  | _, _, .nil => .cons y t .nil
  | _, _, .cons z u r => .cons z u (strs_snoc r)
variable {prog : Program} {w : World} {A : Around} {E : Value → Shared → Prop} {s : Shared} {env : Env} {h₀ : Heap} {L : Addr} {m : Str → Option Value} {elt : PySem.Expr} {x : Str} {scope : Scope} {cl : List (Str × Addr)}
theorem off3_led {I C D p c : Addr} {n : Nat} {rest : List (Addr × Obj)} {a b a' b' : Int} {ta tb ta' tb' : Tok} (h : LCg.Off3 I C D (PLed p c n rest a ta b tb)) : LCg.Off3 I C D (PLed p c n rest a' ta' b' tb') := h
theorem text_rest {P : Nat → Value → Prop} {Fin : List Value → List (Addr × Obj) → Prop} {p c : Addr} {n k₀ : Nat} {rest : List (Addr × Obj)} {a₀ : Int}
    (turn : ∀ (a b : Int) (ta tb : Tok) (I : Addr) (oI : Obj) (C : Addr) (oC : Obj) (D : Addr) (oD : Obj) (m₂ : Str → Option Value) (h : Heap) (tk : Nat) (E' : Value → Shared → Prop), 0 ≤ a → a ≤ a₀ + (k₀ : Int) → 0 ≤ b → LCg.NsObj oC m₂ → Fr h₀ L h m →
      News h₀ L h ((I, oI) :: (C, oC) :: (D, oD) :: PLed p c n rest a ta b tb) → LCg.Off3 I C D (PLed p c n rest a ta b tb) → ((@Ne Nat I C) ∧ (@Ne Nat I D) ∧ (@Ne Nat C D)) →
      wpAny (model prog w) A (eval elt (compEnvC scope cl C env)) (ElPost h₀ L m { s with heap := h, toks := tk } p c n rest a [(I, oI), (C, oC), (D, oD)]) E' { s with heap := h, toks := tk })
    (h0 : 0 ≤ a₀)
    (fin : ∀ (ys : List Value) (xs : List PySem.Str) (a b : Int) (ta tb : Tok), StrsAre ys xs → (∀ z ∈ xs, Sg z) → xs.length = k₀ → 0 ≤ a → a ≤ a₀ + (k₀ : Int) → 0 ≤ b → Fin ys (PLed p c n rest a ta b tb)) :
    ∀ (k i : Nat) (ys : List Value) (xs : List PySem.Str) (a b : Int) (ta tb : Tok), i + k = k₀ → StrsAre ys xs → (∀ z ∈ xs, Sg z) → xs.length = i → 0 ≤ a → a ≤ a₀ + (i : Int) → 0 ≤ b →
      LCg.CompRest prog w A h₀ L m env elt x scope cl s (fun _ => True) P Fin k i ys (PLed p c n rest a ta b tb) := by
  intro k
  induction k with
  | zero =>
    intro i ys xs a b ta tb hi hs h1 hl hlo ha hb
    exact LCg.CompRest.zero (fin ys xs a b ta tb hs h1 (by omega) (by omega) (by omega) hb)
  | succ k ih =>
    intro i ys xs a b ta tb hi hs h1 hl hlo ha hb
    refine LCg.CompRest.succ fun v I oI C oC D m₂ h tk E' hv hC hx F N off ne => ?_
    refine wpAny_mono (turn a b ta tb I oI C oC D _ m₂ h tk E' hlo (by omega) hb hC F N off ne) (fun y s₂ q => ?_) fun _ _ e => e
    obtain ⟨a', b', ta', tb', h', tk', led, x', t, rfl, rfl, hx1, g0, g1, g2, F', N', h3, hP⟩ := q
    refine ⟨h', tk', PLed p c n rest a' ta' b' tb', rfl, F', fun q hq => ?_, off3_led off, trivial, ih (i + 1) (ys ++ [.str x' t]) (xs ++ [x']) a' b' ta' tb' (by omega) (strs_snoc hs) (fun z hz => ?_) (by rw [List.length_append, hl]; rfl) g0 (by push_cast; omega) g2⟩
    · rcases List.mem_cons.mp hq with rfl | hq
      · exact N' _ (h3 _ (.head _))
      · rcases List.mem_cons.mp hq with rfl | hq
        · exact N' _ (h3 _ (.tail _ (.head _)))
        · rcases List.mem_cons.mp hq with rfl | hq
          · exact N' _ (h3 _ (.tail _ (.tail _ (.head _))))
          · exact N' _ (hP q hq)
    · rcases List.mem_append.mp hz with hz | hz
      · exact h1 z hz
      · rw [List.mem_singleton.mp hz]; exact hx1
theorem text_src {Fin : Shared → List Value → List (Addr × Obj) → Prop} {p c r : Addr} {n : Nat} {rest news : List (Addr × Obj)} {a₀ b₀ k : Int} {ta₀ tb₀ t₀ u₀ v₀ : Tok} {s₁ : Shared}
    (hh : A.handled = none) (hr : IsRange s₁.heap r 0 k 1 t₀ u₀ v₀) (F : Fr h₀ L s₁.heap m) (N : News h₀ L s₁.heap news) (hsub : ∀ q ∈ PLed p c n rest a₀ ta₀ b₀ tb₀, q ∈ news) (h0 : 0 ≤ a₀) (h2 : 0 ≤ b₀) (hk : 0 ≤ k) (hk1 : k ≤ 62)
    (turn : ∀ (g : Heap) (a b : Int) (ta tb : Tok) (I : Addr) (oI : Obj) (C : Addr) (oC : Obj) (D : Addr) (oD : Obj) (m₂ : Str → Option Value) (h : Heap) (tk : Nat) (E' : Value → Shared → Prop), 0 ≤ a → a ≤ a₀ + k → 0 ≤ b → LCg.NsObj oC m₂ → Fr h₀ L h m →
      News h₀ L h ((I, oI) :: (C, oC) :: (D, oD) :: PLed p c n rest a ta b tb) → LCg.Off3 I C D (PLed p c n rest a ta b tb) → ((@Ne Nat I C) ∧ (@Ne Nat I D) ∧ (@Ne Nat C D)) →
      wpAny (model prog w) A (eval elt (compEnvC scope cl C env)) (ElPost h₀ L m { s₁ with heap := h, toks := tk } p c n rest a [(I, oI), (C, oC), (D, oD)]) E' { s₁ with heap := h, toks := tk })
    (fin : ∀ (g : Heap) (ys : List Value) (xs : List PySem.Str) (a b : Int) (ta tb : Tok), StrsAre ys xs → (∀ z ∈ xs, Sg z) → (xs.length : Int) = k → 0 ≤ a → a ≤ a₀ + k → 0 ≤ b → Fin { s₁ with heap := g } ys (PLed p c n rest a ta b tb)) :
    LCg.CompSrc prog w A h₀ L m env elt x scope cl Fin (.ref r) s₁ := by
  have ek : ((k.toNat : Nat) : Int) = k := by omega
  have hn : Builtin.Range.rangeSize 0 k 1 = ((k.toNat : Nat) : Int) := by rw [rangeSize_nat]; congr 2; omega
  refine LCg.CompSrc.range hh F (fun q hq => N q (hsub q hq)) hr (small_one (by omega) (by omega) (by omega) (by omega)) hn (by rw [PySem.sizeLine_eq]; omega) fun g => ?_
  refine text_rest (s := { s₁ with heap := g }) (k₀ := k.toNat) (a₀ := a₀) (fun a b ta tb I oI C oC D oD m₂ h tk E' h1 h2 h3 hC F' N' off ne => turn g a b ta tb I oI C oC D oD m₂ h tk E' h1 (by omega) h3 hC F' N' off ne) h0
    (fun ys xs a b ta tb hs h1 hl h3 h4 h5 => fin g ys xs a b ta tb hs h1 (by omega) h3 (by omega) h5) k.toNat 0 [] [] a₀ b₀ ta₀ tb₀ (by omega) .nil (fun z hz => nomatch hz) rfl h0 (by omega) h2
theorem my_join {D : Addr} {ys : List Value} {xs : List PySem.Str} {t : Tok} {Q : Value → Shared → Prop} (hl : s.heap.IsList D ys.toArray) (hc : StrsAre ys xs) (h1 : ∀ z ∈ xs, Sg z) (hn : xs.length ≤ 100)
    (h : ∀ (y : PySem.Str) t' k, y.length = xs.length → TOk y → Q (.str y t') { s with toks := k }) : wpAny (model prog w) A (call (.builtin "str.join") [.str (PySem.Str.ofString "") t, .ref D]) Q E s := by
  refine KT.join_1 (g := fun z => z) (l := xs) hl hc.carried (fun z hz => (h1 z hz).1) (by omega) fun t' k e => h _ t' k e ?_
  show TOk (Builtin.Str.glued (PySem.Str.ofString "") (xs.map fun z => z))
  rw [StrLaws.glued_eq_join, List.map_id']
  exact tok_join (tok_lit (by decide +kernel)) xs fun z hz => (h1 z hz).2
end LawText
-- PART C14
section DrawU
theorem draw_u {w : World} {mean : ExcName → Option Value} {mg mb : PySem.Str → Option Value} {p c : Addr} {vs : List Value} {ns : List Int} {a b : Int} {ta tb : Tok} {n n' : Nat} {k : Int} {tk₀ : Tok} {news : CbLed} {g : Obj → CbLed}
    {dp un : Nat} {gd : Option (List Code)} {cn : Str} {cs : Scope} {ad : Addr} {ccd : Value} {cl : List (Str × Addr)} {outer : List Env} {A₀ : Around} {base h₀ : Heap} {L : Addr} {m : Str → Option Value} {s : Shared} {Q E : Value → Shared → Prop}
    (B : Below A₀ base outer h₀) (F : Fr h₀ L s.heap m) (X : (hd.heap_39 w.params).In h₀) (N : News h₀ L s.heap news) (T : Top hd.view_39 Lo0 mean mg mb h₀) (U : UpdF p (penObj c a ta b tb n) news g) (hc : (c, listOf vs.toArray n') ∈ news) (hcs : cs.kind = .function)
    (hI : IntsAre vs ns) (hlen : ns.length ≤ 63) (hpc : p ≠ c) (h0 : 0 ≤ a) (h1 : a ≤ 1000) (h2 : 0 ≤ b) (hk0 : 0 < k) (hk1 : k ≤ 63) (hd1 : dp + 1 < recursionLimit) (hu1 : un + 200 < cLine)
    (hret : ∀ (r a' b' : Int) (t ta' tb' : Tok) (h' : Heap) (tk' : Nat), 0 ≤ r → r < k → 0 ≤ a' → a' ≤ a + 1 → 0 ≤ b' → Fr h₀ L h' m → News h₀ L h' (g (penObj c a' ta' b' tb' n)) → Q (.int r t) { s with heap := h', toks := tk' }) :
    wpAny (model PySem.Challenge.rw_pb0150_01.row.prog w) (ktrTop dp un gd cn cs L ad ccd cl outer) (call (.ref 103) [.ref p, .int k tk₀]) Q E s := by
  obtain ⟨pre, post, rfl, hg, h1', h2'⟩ := U.split
  refine draw_c w mean mg mb p c vs ns a b ta tb n n' k tk₀ (pre ++ post) dp un gd cn cs ad ccd cl outer A₀ base h₀ L m s Q E B F X (fun q hq => ?_) T hcs hI hlen hpc (fun q hq => ?_) h0 h1 h2 hk0 hk1 hd1 hu1 (fun r a' b' t ta' tb' h' tk' g0 g1 g2 g3 g4 F' N' => ?_)
  · rcases List.mem_cons.mp hq with rfl | hq
    · exact N _ (List.mem_append_right _ (.head _))
    · rcases List.mem_cons.mp hq with rfl | hq
      · exact N _ hc
      · rcases List.mem_append.mp hq with hq | hq
        · exact N _ (List.mem_append_left _ hq)
        · exact N _ (List.mem_append_right _ (.tail _ hq))
  · rcases List.mem_append.mp hq with hq | hq
    · exact h1' q hq
    · exact h2' q hq
  · refine hret r a' b' t ta' tb' h' tk' g0 g1 g2 g3 g4 F' ?_
    rw [hg]
    intro q hq
    rcases List.mem_append.mp hq with hq | hq
    · exact N' _ (.tail _ (.tail _ (List.mem_append_left _ hq)))
    · rcases List.mem_cons.mp hq with rfl | hq
      · exact N' _ (.head _)
      · exact N' _ (.tail _ (.tail _ (List.mem_append_right _ hq)))
end DrawU
-- PART C15
section LawDat
open PyProof.V PySem.Spec
variable {prog : Program} {w : World} {A : Around} {E : Value → Shared → Prop} {s : Shared} {h₀ : Heap} {L a b : Addr} {news n₁ n₂ tl : List (Addr × Obj)} {d e : Dat} {v : Value} {Q : Value → Shared → Prop} {x : PySem.Str} {ws : List Wd}
theorem dat_shaped (n : Nat) (hn : n ≤ 9) (h : kqdOk n d = true) : SeqAt.shaped (kqdP d) = true := by
  have la := kqd_lay n d h
  unfold SeqAt.shaped
  rw [la.1, Bool.true_and]
  exact decide_eq_true (Nat.le_trans la.2 (Nat.le_trans hn (by decide)))
theorem dat_eq (N : News h₀ L s.heap news) (Da : DatIn n₁ (.ref a) d) (sa : ∀ p ∈ n₁, p ∈ news) (Db : DatIn n₂ (.ref b) d) (sb : ∀ p ∈ n₂, p ∈ news) (hk : kqdOk 8 d = true) (hu : A.units + 64 < cLine) (h : Q (.bool true) s) :
    wpAny (model prog w) A (compareOp .Eq (.ref a) (.ref b)) Q E s := by
  obtain ⟨as, ra⟩ := kqd_in N 8 (Da.mono sa) hk
  obtain ⟨bs, rb⟩ := kqd_in N 8 (Db.mono sb) hk
  exact eq_dataH ra rb (dat_shaped 8 (by decide) hk) (dat_shaped 8 (by decide) hk) hu (by rw [(kqd_eqv 8 d d 8 hk hk).mpr rfl]; exact h)
theorem dat_ne (N : News h₀ L s.heap news) (Da : DatIn n₁ (.ref a) d) (sa : ∀ p ∈ n₁, p ∈ news) (Db : DatIn n₂ (.ref b) d) (sb : ∀ p ∈ n₂, p ∈ news) (hk : kqdOk 8 d = true) (hu : A.units + 64 < cLine) (h : Q (.bool false) s) :
    wpAny (model prog w) A (compareOp .NotEq (.ref a) (.ref b)) Q E s := by
  obtain ⟨as, ra⟩ := kqd_in N 8 (Da.mono sa) hk
  obtain ⟨bs, rb⟩ := kqd_in N 8 (Db.mono sb) hk
  exact ne_dataH ra rb (dat_shaped 8 (by decide) hk) (dat_shaped 8 (by decide) hk) hu (by rw [(kqd_eqv 8 d d 8 hk hk).mpr rfl]; exact h)
theorem wdat_ok {p : Wd} (h : ∀ c ∈ p.1, c < 0x110000) (n : Nat) : kqdOk (n + 1) (wdat p) = true := by
  have : PyData.strOk ⟨p.1.toArray⟩ = true := TOk.strOk fun c hc => h c (by simpa using hc)
  cases n <;> simp [wdat, kqdOk, this]
theorem wlist_ok (h : ∀ p ∈ ws, ∀ c ∈ p.1, c < 0x110000) (k : Nat) : ∀ d ∈ (ws ++ [([], k)]).map wdat, kqdOk 6 d = true := by
  intro d hd
  obtain ⟨p, hp, rfl⟩ := List.mem_map.mp hd
  rcases List.mem_append.mp hp with hp | hp
  · exact wdat_ok (h p hp) 5
  · rw [List.mem_singleton.mp hp]
    exact wdat_ok (fun c hc => absurd hc (by simp)) 5
theorem due_kqd (hx : TOk x) : kqdOk 8 (due x) = true := by
  unfold due
  cases e : words false x.cps.toList 0 with
  | error n => simp [kqdOk]
  | ok ws =>
    have h := wlist_ok (ws := ws) (fun p hp c hc => hx c ((words_some e).1 p hp c hc)) x.length
    simp only [kqdOk, List.all_cons, List.all_nil, Bool.and_true]
    exact List.all_eq_true.mpr h
theorem due_ref (D : DatIn tl v (due x)) : ∃ a, v = .ref a := by
  unfold due at D
  split at D <;> cases D <;> exact ⟨_, rfl⟩
abbrev tup2 (v w : Value) (n : Nat) : Obj := { cls := .type "tuple", data := .seq #[v, w] n }
theorem due_okI (D : DatIn tl (.ref a) (due x)) (e : words false x.cps.toList 0 = .ok ws) : ∃ l vs n k, (a, tup2 (.ref l) .none k) ∈ tl ∧ (l, listOf vs.toArray n) ∈ tl ∧ DatAll tl vs ((ws ++ [([], x.length)]).map wdat) := by
  unfold due at D
  rw [e] at D
  dsimp only at D
  cases D with
  | tuple hm r =>
    cases r with
    | cons d1 r =>
      cases r with
      | cons d2 r =>
        cases r
        cases d2
        cases d1 with
        | list hm2 r2 => exact ⟨_, _, _, _, hm, hm2, r2⟩
theorem due_errI {n : Nat} (D : DatIn tl (.ref a) (due x)) (e : words false x.cps.toList 0 = .error n) : ∃ t k, (a, tup2 .none (.int (n : Int) t) k) ∈ tl := by
  unfold due at D
  rw [e] at D
  dsimp only at D
  cases D with
  | tuple hm r =>
    cases r with
    | cons d1 r =>
      cases r with
      | cons d2 r =>
        cases r
        cases d1
        cases d2
        exact ⟨_, _, hm⟩
theorem wdatI {p : Wd} (D : DatIn tl v (wdat p)) : ∃ a t u n, v = .ref a ∧ (a, tup2 (.str (strOf p.1) t) (.int (p.2 : Int) u) n) ∈ tl := by
  unfold wdat at D
  cases D with
  | tuple hm r =>
    cases r with
    | cons d1 r =>
      cases r with
      | cons d2 r =>
        cases r
        cases d1
        cases d2
        exact ⟨_, _, _, _, rfl, hm⟩
/-- the ledger written anew -/
theorem news_sub {h : Heap} {l l' : List (Addr × Obj)} (N : News h₀ L h l) (hs : ∀ p ∈ l', p ∈ l) : News h₀ L h l' := fun p hp => N p (hs p hp)
end LawDat
-- PART C16
section LawCalls
open PyProof.V PySem.Spec
theorem dat_init {tl : List (Addr × Obj)} : ∀ {ws : List Wd} {p : Wd} {vs : List Value}, DatAll tl vs ((ws ++ [p]).map wdat) → ∃ us z, vs = us ++ [z] ∧ DatAll tl us (ws.map wdat)
  | [], _, _, .cons _ .nil => ⟨[], _, rfl, .nil⟩
  | _ :: ws, p, _, .cons d r => by
    obtain ⟨us, z, rfl, D⟩ := dat_init (ws := ws) (p := p) r
    exact ⟨_ :: us, z, rfl, .cons d D⟩
theorem law_walk_u {w : World} {mean : ExcName → Option Value} {mg mb : Str → Option Value} {x : PySem.Str} {tx : Tok} {news : CbLed}
    {dp un : Nat} {gd : Option (List Code)} {cn : Str} {cs : Scope} {a : Addr} {ccd : Value} {cl : List (Str × Addr)} {outer : List Env} {A₀ : Around} {base h₀ : Heap} {L : Addr} {m : Str → Option Value} {s : Shared} {Q E : Value → Shared → Prop}
    (B : Below A₀ base outer h₀) (F : Fr h₀ L s.heap m) (X : (hd.heap_39 w.params).In h₀) (N : News h₀ L s.heap news) (T : Top hd.view_39 Lo0 mean mg mb h₀) (hcs : cs.kind = .function)
    (hp : x.length ≤ 900) (hd1 : dp + 10 < recursionLimit) (hu1 : un + 300 < cLine)
    (hok : ∀ ws, words false x.cps.toList 0 = .ok ws → wsum ws ≤ x.length → ws.length ≤ wsum ws → ∀ (v l : Addr) us z n k tl h' tk', Fr h₀ L h' m → News h₀ L h' ((v, tup2 (.ref l) .none k) :: (l, listOf (us ++ [z]).toArray n) :: (news ++ tl)) → DatAll tl us (ws.map wdat) → DatIn tl (.ref v) (due x) → Q (.ref v) { s with heap := h', toks := tk' })
    (herr : ∀ n : Nat, words false x.cps.toList 0 = .error n → ∀ (v : Addr) t k tl h' tk', Fr h₀ L h' m → News h₀ L h' ((v, tup2 .none (.int (n : Int) t) k) :: (news ++ tl)) → DatIn tl (.ref v) (due x) → Q (.ref v) { s with heap := h', toks := tk' }) :
    wpAny (model PySem.Challenge.rw_pb0150_01.row.prog w) (ktrTop dp un gd cn cs L a ccd cl outer) (call (.ref 110) [.str x tx]) Q E s := by
  refine law_walk_c w mean mg mb x tx news dp un gd cn cs a ccd cl outer A₀ base h₀ L m s Q E B F X N T hcs hp hd1 hu1 fun v tl h' tk' F' N' D => ?_
  obtain ⟨v, rfl⟩ := due_ref D
  have N2 : News h₀ L h' (news ++ tl) := fun p hp => N' p (List.mem_append.mpr (List.mem_append.mp hp).symm)
  cases e : words false x.cps.toList 0 with
  | error n =>
    obtain ⟨t, k, hm⟩ := due_errI D e
    exact herr n e v t k tl h' tk' F' (fun p hp => by
      rcases List.mem_cons.mp hp with rfl | hp
      · exact N' _ (List.mem_append_left _ hm)
      · exact N2 p hp) D
  | ok ws =>
    obtain ⟨l, vs, n, k, h1, h2, DA⟩ := due_okI D e
    obtain ⟨us, z, rfl, DB⟩ := dat_init DA
    have hw := words_some e
    exact hok ws e (by have : x.cps.toList.length = x.length := by simp [PySem.Str.length]
                       omega) hw.2.2 v l us z n k tl h' tk' F' (fun p hp => by
      rcases List.mem_cons.mp hp with rfl | hp
      · exact N' _ (List.mem_append_left _ h1)
      · rcases List.mem_cons.mp hp with rfl | hp
        · exact N' _ (List.mem_append_left _ h2)
        · exact N2 p hp) DB D
theorem law_heard_u {w : World} {mean : ExcName → Option Value} {mg mb : Str → Option Value} {x : PySem.Str} {tx : Tok} {news : CbLed}
    {dp un : Nat} {gd : Option (List Code)} {cn : Str} {cs : Scope} {a : Addr} {ccd : Value} {cl : List (Str × Addr)} {A₀ : Around} {base h₀ : Heap} {L : Addr} {m : Str → Option Value} {s : Shared} {Q E : Value → Shared → Prop}
    (B : Below A₀ base [] h₀) (F : Fr h₀ L s.heap m) (X : (hd.heap_39 w.params).In h₀) (N : News h₀ L s.heap news) (T : Top hd.view_39 Lo0 mean mg mb h₀) (hcs : cs.kind = .function)
    (XB : (hd.heap_39 w.params).In base) (TB : Top hd.view_39 Lo0 mean mg mb base)
    (hp : x.length ≤ 900) (hd1 : dp + 15 < recursionLimit) (hu1 : un + 400 < cLine)
    (hret : ∀ (v : Addr) tl h' tk', Fr h₀ L h' m → News h₀ L h' (news ++ tl) → DatIn tl (.ref v) (due x) → Q (.ref v) { s with heap := h', toks := tk' }) :
    wpAny (model PySem.Challenge.rw_pb0150_01.row.prog w) (ktrTop dp un gd cn cs L a ccd cl []) (call (.ref 117) [.str x tx]) Q E s := by
  refine law_heard_c w mean mg mb x tx news dp un gd cn cs a ccd cl A₀ base h₀ L m s Q E B F X N T hcs XB TB hp hd1 hu1 fun v tl h' tk' F' N' D => ?_
  obtain ⟨v, rfl⟩ := due_ref D
  exact hret v tl h' tk' F' (fun p hp => N' p (List.mem_append.mpr (List.mem_append.mp hp).symm)) D
end LawCalls
-- PART C17
section LawRules
open PyProof.V PySem.Spec
variable {prog : Program} {w : World} {A : Around} {E : Value → Shared → Prop} {s : Shared} {h₀ : Heap} {L : Addr} {m : Str → Option Value} {news tl : List (Addr × Obj)} {env : Env} {x y : PySem.Str} {t u : Tok} {j : Int} {Q : Value → Shared → Prop} {value slice : PySem.Expr}
theorem my_len (hn : x.length ≤ 1000) (h : ∀ t' tk, Q (.int (x.length : Int) t') { s with toks := tk }) : wpAny (model prog w) A (call (.builtin "len") [.str x t]) Q E s :=
  PyProof.Rows.len_str (by omega) (h _ _)
theorem sl_size {n : Nat} (h : n ≤ 1000) : n ≤ sizeLine := by rw [PySem.sizeLine_eq]; omega
theorem tok_cut (hx : TOk x) (a b : Nat) : TOk ⟨((x.cps.toList.drop a).take b).toArray⟩ := fun c hc => hx c (List.mem_of_mem_drop (List.mem_of_mem_take (i := b) (by simpa only [List.toList_toArray] using hc)))
theorem tok_to (hx : TOk x) (h0 : 0 ≤ j) (h1 : j ≤ (x.length : Int)) : TOk (Txt.slice x none (some j)) := by
  rw [eq_of_beq (slice_closes_toL h0 h1)]
  exact tok_cut hx _ _
theorem tok_from (hx : TOk x) (h0 : 0 ≤ j) (h1 : j ≤ (x.length : Int)) : TOk (Txt.slice x (some j) none) := by
  rw [eq_of_beq (slice_closes_fromL h0 h1 rfl)]
  exact tok_cut hx _ _
theorem my_slice_to (F : Fr h₀ L s.heap m) (N : News h₀ L s.heap news) (hx : TOk x) (h0 : 0 ≤ j) (h1 : j ≤ (x.length : Int)) (hn : x.length ≤ 1000)
    (h : ∀ (y : PySem.Str) h' t' k, Fr h₀ L h' m → News h₀ L h' news → y.length ≤ x.length → TOk y → Q (.str y t') { s with heap := h', toks := k })
    (hs : subscripted slice false (.str x t) (.ref s.heap.objs.size) = operate [.ref s.heap.objs.size, .str x t] (getItem (.str x t) (.ref s.heap.objs.size)))
    (ht : ∀ r, letTemporaryGo value (.str x t) r = pure ()) :
    wpAny (model prog w) A (subscriptTail value slice (.str x t) (.ref s.heap.objs.size)) Q E { s with heap := s.heap.push { cls := .type "slice", data := .fields #[.none, .int j u, .none] } } :=
  slice_strN_ns_len F N (fun h' t' k a b c => h _ h' t' k a b c (tok_to hx h0 h1)) hs ht (sl_size hn)
theorem my_slice_from (F : Fr h₀ L s.heap m) (N : News h₀ L s.heap news) (hx : TOk x) (h0 : 0 ≤ j) (h1 : j ≤ (x.length : Int)) (hn : x.length ≤ 1000)
    (h : ∀ (y : PySem.Str) h' t' k, Fr h₀ L h' m → News h₀ L h' news → y.length ≤ x.length → TOk y → Q (.str y t') { s with heap := h', toks := k })
    (hs : subscripted slice false (.str x t) (.ref s.heap.objs.size) = operate [.ref s.heap.objs.size, .str x t] (getItem (.str x t) (.ref s.heap.objs.size)))
    (ht : ∀ r, letTemporaryGo value (.str x t) r = pure ()) :
    wpAny (model prog w) A (subscriptTail value slice (.str x t) (.ref s.heap.objs.size)) Q E { s with heap := s.heap.push { cls := .type "slice", data := .fields #[.int j u, .none, .none] } } :=
  slice_strN_sn_len F N (fun h' t' k a b c => h _ h' t' k a b c (tok_from hx h0 h1)) hs ht (sl_size hn)
theorem my_add (hx : TOk x) (hy : TOk y) (h1 : x.length ≤ 1000) (h2 : y.length ≤ 1000) (h : ∀ (z : PySem.Str) t' tk, z.length = x.length + y.length → TOk z → Q (.str z t') { s with toks := tk }) :
    wpAny (model prog w) A (binaryOp .Add (.str x t) (.str y u)) Q E s :=
  PyProof.Rows.add_str (fun t' tk => h _ t' tk (PySem.Str.length_append ..) (hx.app hy)) (by rw [PySem.sizeLine_eq]; omega)
/-- the text's source, the pen behind the range's iterator -/
theorem text_src2 {elt : PySem.Expr} {z : Str} {scope : Scope} {cl : List (Str × Addr)} {Fin : Shared → List Value → List (Addr × Obj) → Prop} {p c r : Addr} {n : Nat} {i₀ : Addr × Obj} {rest : List (Addr × Obj)} {a₀ b₀ k : Int} {ta₀ tb₀ t₀ u₀ v₀ : Tok} {s₁ : Shared}
    (hh : A.handled = none) (hr : IsRange s₁.heap r 0 k 1 t₀ u₀ v₀) (F : Fr h₀ L s₁.heap m) (N : News h₀ L s₁.heap (i₀ :: (p, penObj c a₀ ta₀ b₀ tb₀ n) :: rest)) (h0 : 0 ≤ a₀) (h2 : 0 ≤ b₀) (hk : 0 ≤ k) (hk1 : k ≤ 62)
    (turn : ∀ (g : Heap) (a b : Int) (ta tb : Tok) (I : Addr) (oI : Obj) (C : Addr) (oC : Obj) (D : Addr) (oD : Obj) (m₂ : Str → Option Value) (h : Heap) (tk : Nat) (E' : Value → Shared → Prop), 0 ≤ a → a ≤ a₀ + k → 0 ≤ b → LCg.NsObj oC m₂ → Fr h₀ L h m →
      News h₀ L h ((I, oI) :: (C, oC) :: (D, oD) :: PLed p c n (i₀ :: rest) a ta b tb) → LCg.Off3 I C D (PLed p c n (i₀ :: rest) a ta b tb) → ((@Ne Nat I C) ∧ (@Ne Nat I D) ∧ (@Ne Nat C D)) →
      wpAny (model prog w) A (eval elt (compEnvC scope cl C env)) (ElPost h₀ L m { s₁ with heap := h, toks := tk } p c n (i₀ :: rest) a [(I, oI), (C, oC), (D, oD)]) E' { s₁ with heap := h, toks := tk })
    (fin : ∀ (g : Heap) (ys : List Value) (xs : List PySem.Str) (a b : Int) (ta tb : Tok), StrsAre ys xs → (∀ z ∈ xs, Sg z) → (xs.length : Int) = k → 0 ≤ a → a ≤ a₀ + k → 0 ≤ b → Fin { s₁ with heap := g } ys (PLed p c n (i₀ :: rest) a ta b tb)) :
    LCg.CompSrc prog w A h₀ L m env elt z scope cl Fin (.ref r) s₁ := by
  refine text_src (p := p) (c := c) (n := n) (ta₀ := ta₀) (tb₀ := tb₀) (rest := i₀ :: rest) hh hr F N (fun q hq => ?_) h0 h2 hk hk1 turn fin
  rcases List.mem_cons.mp hq with rfl | hq
  · exact .tail _ (.head _)
  · rcases List.mem_cons.mp hq with rfl | hq
    · exact .head _
    · exact .tail _ (.tail _ hq)
theorem el_fin {p c : Addr} {n tk : Nat} {rest : List (Addr × Obj)} {a a' b' : Int} {ta' tb' : Tok} {i₁ c₁ d₁ : Addr × Obj} {h' : Heap} {k : Int} (F : Fr h₀ L h' m) (N : News h₀ L h' (i₁ :: c₁ :: d₁ :: PLed p c n rest a' ta' b' tb')) (hy : TOk y) (g0 : 0 ≤ a') (g1 : a' ≤ a + 1) (g2 : 0 ≤ b') :
    ElPost h₀ L m s p c n rest a [i₁, c₁, d₁] (.str ⟨#[cod y k]⟩ t) { s with heap := h', toks := tk } :=
  ⟨a', b', ta', tb', h', tk, _, _, t, rfl, rfl, sg_item hy k, g0, g1, g2, F, N, fun q hq => List.mem_append_left (PLed p c n rest a' ta' b' tb') hq, fun q hq => .tail _ (.tail _ (.tail _ hq))⟩
/-- a list of words without its last -/
theorem pick_init (us : List Value) (z : Value) : kms_pick (us ++ [z]).toArray.toList none (some (-1)) = us := by
  unfold kms_pick
  have e : kms_hi (some (-1)) (us ++ [z]).length = us.length := by
    show (us ++ [z]).length - 1 = us.length
    rw [List.length_append]; rfl
  show ((us ++ [z]).drop 0).take (kms_hi (some (-1)) (us ++ [z]).length - 0) = us
  rw [e, List.drop_zero, Nat.sub_zero, List.take_left]
theorem my_init {l : Addr} {us : List Value} {z : Value} {n : Nat} (F : Fr h₀ L s.heap m) (N : News h₀ L s.heap news) (hm : (l, listOf (us ++ [z]).toArray n) ∈ news) (hn : us.length ≤ 900)
    (h : ∀ D h', Fr h₀ L h' m → News h₀ L h' ((D, listOf us.toArray 0) :: news) → (∀ p ∈ news, p.1 < D) → Q (.ref D) { s with heap := h' })
    (hs : subscripted slice false (.ref l) (.ref s.heap.objs.size) = operate [.ref s.heap.objs.size, .ref l] (getItem (.ref l) (.ref s.heap.objs.size))) (ht : ∀ r, letTemporaryGo value (.ref l) r = pure ()) :
    wpAny (model prog w) A (subscriptTail value slice (.ref l) (.ref s.heap.objs.size)) Q E { s with heap := s.heap.push { cls := .type "slice", data := .fields #[.none, .int (-1) u, .none] } } :=
  kms_slice_lit F N (N.isList hm) .none (.int _ _) (pick_init us z) h hs ht (sl_size (by simp; omega))
/-- the words of a list of pairs -/
theorem words_rest {px : Pos} {x₁ x₂ : Str} {scope : Scope} {cl : List (Str × Addr)} {S : List (Addr × Obj) → Prop} {Fin : List Value → List (Addr × Obj) → Prop} {us : List Value} {ws : List Wd}
    (hk : ∀ C, (compEnvC scope cl C env).scope.kind = .function) (hl : ∀ C, (compEnvC scope cl C env).kindOf x₁ = some .local) (hd : (x₁ == ("__debug__" : Str)) = false)
    (D : DatAll tl us (ws.map wdat)) (sub : ∀ p ∈ tl, p ∈ news) (hS : S news) (fin : ∀ ys, StrsAre ys (ws.map fun p => strOf p.1) → Fin ys news) :
    ∀ (k i : Nat) (ys : List Value), i + k = us.length → StrsAre ys ((ws.take i).map fun p => strOf p.1) → LCp.CompRestP prog w A h₀ L m env (.Name x₁ px) x₁ x₂ scope cl s S (fun i v => us.toArray[i]? = some v) Fin k i ys news := by
  have hlen : us.length = ws.length := by rw [D.length, List.length_map]
  intro k
  induction k with
  | zero =>
    intro i ys hi hs
    rw [List.take_of_length_le (by omega)] at hs
    exact LCp.CompRestP.zero (fin ys hs)
  | succ k ih =>
    intro i ys hi hs
    refine LCp.CompRestP.succ fun v hv => ?_
    have hi' : i < ws.length := by omega
    obtain ⟨v', hv', hD⟩ := D.get (k := i) (by rw [List.length_map]; exact hi')
    obtain rfl : v' = v := by simpa [hv'] using hv
    rw [List.getElem_map] at hD
    obtain ⟨a, t, u, n, rfl, hm⟩ := wdatI hD
    refine ⟨a, _, _, _, n, rfl, sub _ hm, rfl, rfl, fun I oI C oC D' m₂ h tk E' hC h1 h2 F N off ne => ?_⟩
    refine LCgL.ld_own N (.tail _ (.head _)) hC h1 ?_ (hk C) (hl C) hd
    refine LCg.CompEnd.intro F N news (fun p hp => hp) off hS (ih (i + 1) _ (by omega) ?_)
    have e : ws.take (i + 1) = ws.take i ++ [ws[i]] := by rw [List.take_succ_eq_append_getElem hi']
    rw [e, List.map_append]
    exact strs_snoc hs
theorem words_src {px : Pos} {x₁ x₂ : Str} {scope : Scope} {cl : List (Str × Addr)} {Fin : Shared → List Value → List (Addr × Obj) → Prop} {ax : Addr} {k : Nat} {us : List Value} {ws : List Wd} {s₁ : Shared}
    (hh : A.handled = none) (F : Fr h₀ L s₁.heap m) (N : News h₀ L s₁.heap news) (hm : (ax, listOf us.toArray k) ∈ news) (D : DatAll tl us (ws.map wdat)) (sub : ∀ p ∈ tl, p ∈ news) (hn : ws.length ≤ 900)
    (fin : ∀ g ys, StrsAre ys (ws.map fun p => strOf p.1) → Fin { s₁ with heap := g } ys news)
    (hk : ∀ C, (compEnvC scope cl C env).scope.kind = .function) (hl : ∀ C, (compEnvC scope cl C env).kindOf x₁ = some .local) (hd : (x₁ == ("__debug__" : Str)) = false) :
    LCp.SrcLP prog w A h₀ L m env (.Name x₁ px) x₁ x₂ scope cl Fin (.ref ax) s₁ := by
  have hlen : us.length = ws.length := by rw [D.length, List.length_map]
  refine LCp.SrcLP.ledger hh F N hm (sl_size (by rw [List.size_toArray]; omega)) fun g => ?_
  rw [List.size_toArray]
  exact words_rest hk hl hd D sub (.inr ⟨_, hm, rfl, _, rfl⟩) (fin g) _ 0 [] (by omega) .nil
theorem wsum_eq (ws : List Wd) : ((ws.map fun p => strOf p.1).map (·.length)).sum = wsum ws := by
  rw [List.map_map]
  rfl
/-- the words with single blanks between them -/
theorem my_join2 {D : Addr} {ys : List Value} {ws : List Wd} (hl : s.heap.IsList D ys.toArray) (hc : StrsAre ys (ws.map fun p => strOf p.1)) (h1 : wsum ws ≤ 100) (h2 : ws.length ≤ wsum ws)
    (h : ∀ (y : PySem.Str) t' k, y.cps.toList = joinSp (ws.map (·.1)) → y.length ≤ 300 → Q (.str y t') { s with toks := k }) : wpAny (model prog w) A (call (.builtin "str.join") [.str (PySem.Str.ofString " ") t, .ref D]) Q E s := by
  refine join_listC hl (by simpa using hc) (by decide) (by rw [wsum_eq, List.length_map]; omega) fun t' k => ?_
  have e : (Txt.join (PySem.Str.ofString " ") (ws.map fun p => strOf p.1)).cps.toList = joinSp (ws.map (·.1)) := by
    show (Builtin.Str.glued (PySem.Str.ofString " ") _).cps.toList = _
    rw [StrLaws.glued_eq_join, ← join_sp, List.map_map]
    rfl
  refine h _ t' k e ?_
  have hl := joinSp_len (ws.map (·.1))
  rw [← e, List.map_map, List.length_map] at hl
  have h3 : (ws.map ((·.length) ∘ (·.1))).sum = wsum ws := rfl
  rw [h3] at hl
  have h4 : ∀ z : PySem.Str, z.cps.toList.length = z.length := fun z => by simp [PySem.Str.length]
  rw [h4] at hl
  omega
/-- the words of the joined text -/
theorem words_again_u {w : World} {mean : ExcName → Option Value} {mg mb : Str → Option Value} {x y : PySem.Str} {tx : Tok} {news : CbLed} {ws : List Wd}
    {dp un : Nat} {gd : Option (List Code)} {cn : Str} {cs : Scope} {a : Addr} {ccd : Value} {cl : List (Str × Addr)} {outer : List Env} {A₀ : Around} {base h₀ : Heap} {L : Addr} {m : Str → Option Value} {s : Shared} {Q E : Value → Shared → Prop}
    (hy : y.cps.toList = joinSp (ws.map (·.1))) (he : words false x.cps.toList 0 = .ok ws)
    (B : Below A₀ base outer h₀) (F : Fr h₀ L s.heap m) (X : (hd.heap_39 w.params).In h₀) (N : News h₀ L s.heap news) (T : Top hd.view_39 Lo0 mean mg mb h₀) (hcs : cs.kind = .function)
    (hp : y.length ≤ 900) (hd1 : dp + 10 < recursionLimit) (hu1 : un + 300 < cLine)
    (hok : ∀ (ws' : List Wd) l vs n tl h' tk', Fr h₀ L h' m → News h₀ L h' ((l, listOf vs.toArray n) :: (news ++ tl)) → DatAll tl vs (ws'.map wdat) → ws'.map (fun p => strOf p.1) = ws.map (fun p => strOf p.1) ++ [PySem.Str.ofString ""] → ws'.length = ws.length + 1 → Q (.ref l) { s with heap := h', toks := tk' }) :
    wpAny (model PySem.Challenge.rw_pb0150_01.row.prog w) (ktrTop dp un gd cn cs L a ccd cl outer) (call (.ref 91) [.str y tx]) Q E s := by
  obtain ⟨ws', e', em⟩ := words_again he
  rw [← hy] at e'
  refine words_c w mean mg mb y tx news dp un gd cn cs a ccd cl outer A₀ base h₀ L m s Q E B F X N T hcs hp hd1 hu1 (fun ws₂ e₂ l vs n tl h' tk' F' N' D off => ?_) (fun n e₂ => ?_)
  · obtain rfl : ws' = ws₂ := by rw [e'] at e₂; exact Except.ok.inj e₂
    refine hok _ l vs n tl h' tk' F' (fun p hp => ?_) D ?_ (by have := congrArg List.length em; simpa using this)
    · rcases List.mem_cons.mp hp with rfl | hp
      · exact N' _ (.head _)
      · exact N' _ (.tail _ (List.mem_append.mpr (List.mem_append.mp hp).symm))
    · rw [List.map_append]
      congr 1
      · have : ∀ l : List Wd, l.map (fun p => strOf p.1) = (l.map (·.1)).map strOf := fun l => by rw [List.map_map]; rfl
        rw [this, this, em]
  · rw [e'] at e₂
    cases e₂
theorem strs_dat : ∀ {ys : List Value} {zs : List PySem.Str}, StrsAre ys zs → DatAll [] ys (zs.map Dat.str)
  | _, _, .nil => .nil
  | _, _, .cons y t r => .cons (.str y t) (strs_dat r)
theorem strs_ne {a b : Addr} {oa ob : Obj} {xs ys : List Value} {ka kb : Nat} {zs : List PySem.Str} (N : News h₀ L s.heap news) (ma : (a, oa) ∈ news) (ca : oa.cls = .type "list") (da : oa.data = .seq xs.toArray ka)
    (mb : (b, ob) ∈ news) (cb : ob.cls = .type "list") (db : ob.data = .seq ys.toArray kb) (Sa : StrsAre xs zs) (Sb : StrsAre ys zs) (hz : ∀ z ∈ zs, TOk z) (hu : A.units + 64 < cLine) (h : Q (.bool false) s) :
    wpAny (model prog w) A (compareOp .NotEq (.ref a) (.ref b)) Q E s := by
  have ok : ∀ d ∈ zs.map Dat.str, kqdOk 8 d = true := fun d hd => by
    obtain ⟨z, hz', rfl⟩ := List.mem_map.mp hd
    simp [kqdOk, (hz z hz').strOk]
  exact kqd_ne N ma ca da (strs_dat Sa) (fun _ h => nomatch h) mb cb db (strs_dat Sb) (fun _ h => nomatch h) ok ok hu (by simpa using h)
theorem tok_words {ws : List Wd} (hx : TOk x) (he : words false x.cps.toList 0 = .ok ws) : ∀ z ∈ ws.map (fun p => strOf p.1) ++ [PySem.Str.ofString ""], TOk z := by
  intro z hz
  rcases List.mem_append.mp hz with hz | hz
  · obtain ⟨p, hp, rfl⟩ := List.mem_map.mp hz
    intro c hc
    exact hx c ((words_some he).1 p hp c (by simpa [strOf] using hc))
  · rw [List.mem_singleton.mp hz]
    exact tok_lit (by decide +kernel)
theorem due_nil : due (PySem.Str.ofString "") = .tuple [.list [.tuple [.str (PySem.Str.ofString ""), .int 0]], .none] := by
  have e : (PySem.Str.ofString "").cps.toList = [] := by decide +kernel
  unfold due
  rw [e, words_nil]
  rfl
theorem due_min : due (PySem.Str.ofString "-") = .tuple [.none, .int 0] := by
  have e : (PySem.Str.ofString "-").cps.toList = [45] := by decide +kernel
  have e2 : words false [45] 0 = .error 0 := by
    rw [words_word (by decide)]
    rfl
  unfold due
  rw [e, e2]
  rfl
theorem nil_eq {a b : Addr} (N : News h₀ L s.heap news) (Da : DatIn tl (.ref a) (due (PySem.Str.ofString ""))) (sa : ∀ p ∈ tl, p ∈ news) (Db : DatIn news (.ref b) (.tuple [.list [.tuple [.str (PySem.Str.ofString ""), .int 0]], .none])) (hu : A.units + 64 < cLine) (h : Q (.bool true) s) :
    wpAny (model prog w) A (compareOp .Eq (.ref a) (.ref b)) Q E s := by
  rw [due_nil] at Da
  exact dat_eq N Da sa Db (fun _ h => h) (by decide +kernel) hu h
theorem min_eq {a b : Addr} (N : News h₀ L s.heap news) (Da : DatIn tl (.ref a) (due (PySem.Str.ofString "-"))) (sa : ∀ p ∈ tl, p ∈ news) (Db : DatIn news (.ref b) (.tuple [.none, .int 0])) (hu : A.units + 64 < cLine) (h : Q (.bool true) s) :
    wpAny (model prog w) A (compareOp .Eq (.ref a) (.ref b)) Q E s := by
  rw [due_min] at Da
  exact dat_eq N Da sa Db (fun _ h => h) (by decide +kernel) hu h
theorem my_add1 {c : Nat} (hx : TOk x) (hy : TOk ⟨#[c]⟩) (h1 : x.length ≤ 1000) (h : ∀ (z : PySem.Str) t' tk, z.length = x.length + 1 → TOk z → Q (.str z t') { s with toks := tk }) :
    wpAny (model prog w) A (binaryOp .Add (.str x t) (.str ⟨#[c]⟩ u)) Q E s := my_add hx hy h1 (show 1 ≤ 1000 by decide) h
theorem len_menu : (PySem.Str.ofString "ab.x_Z019-{}[];'<>  \t\r\n#").length = 24 := by decide +kernel
theorem len_odd : (PySem.Str.ofString "!(é/+").length = 5 := by decide +kernel
theorem my_cat {l b : Addr} {xs ys : List Value} {zs us : List PySem.Str} {ka kb : Nat} (F : Fr h₀ L s.heap m) (N : News h₀ L s.heap news) (ma : (l, listOf xs.toArray ka) ∈ news) (mb : (b, listOf ys.toArray kb) ∈ news) (Sx : StrsAre xs zs) (Sy : StrsAre ys us)
    (hn : zs.length ≤ 1000) (hm : us.length ≤ 1000) (h : ∀ D h', Fr h₀ L h' m → News h₀ L h' ((D, listOf (xs ++ ys).toArray 0) :: news) → StrsAre (xs ++ ys) (zs ++ us) → Q (.ref D) { s with heap := h' }) :
    wpAny (model prog w) A (binaryOp .Add (.ref l) (.ref b)) Q E s := by
  have app : ∀ {xs : List Value} {zs : List PySem.Str}, StrsAre xs zs → StrsAre (xs ++ ys) (zs ++ us) := fun S => by
    induction S with
    | nil => exact Sy
    | cons y t _ ih => exact .cons y t ih
  exact add_arrays (hsz := by rw [List.size_toArray, List.size_toArray, Sx.length, Sy.length, PySem.sizeLine_eq]; omega) F N (N.isList ma) (N.isList mb) fun h' F' N' => h _ h' F' N' (app Sx)
theorem strs_as {ys : List Value} {zs zs' : List PySem.Str} (S : StrsAre ys zs') (e : zs' = zs) : StrsAre ys zs := e ▸ S
theorem t_end {p c : Addr} {n i tk : Nat} {rest led : List (Addr × Obj)} {a b : Int} {ta tb : Tok} {pi : Addr × Obj} {h' : Heap} (F : Fr h₀ L h' m) (N : News h₀ L h' led) (hs : ∀ q ∈ PLed p c n rest a ta b tb, q ∈ led) (hpi : pi ∈ led) (h0 : 0 ≤ a) (h1 : a ≤ 60 * ((i : Int) + 1)) (h2 : 0 ≤ b) :
    TEnd h₀ L s p c n rest i pi { s with heap := h', toks := tk } := ⟨a, b, ta, tb, h', tk, _, led, rfl, h0, h1, h2, F, N, hpi, hs⟩
end LawRules
-- PART Z1
theorem law_holds : PySem.Challenge.rw_pb0150_01.Holds := hd (by
  k_with_none
  w_top off
  k_with "subscriptTail Name Name str int" => (k_here; (with_reducible show wpAny _ _ (subscriptTail _ _ (Value.str _ _) (Value.int _ _)) _ _ _); (refine my_item (by omega) (by omega) (by omega) ?_))
  k_with "compareOp In str str" => (k_here; (with_reducible show wpAny _ _ (compareOp CmpOp.In (Value.str (PySem.Str.mk _) _) (Value.str _ _)) _ _ _); refine my_in ?_)
  k_with "compareOp NotIn str str" => (k_here; (with_reducible show wpAny _ _ (compareOp CmpOp.NotIn (Value.str (PySem.Str.mk _) _) (Value.str _ _)) _ _ _); refine my_notIn ?_)
  k_with "call ref" => (k_here; (with_reducible show wpAny _ _ (call (Value.ref 70) [_, _, _]) _ _ _); k_dflt (refine' run_end_u ?row9k1 ?row9k2 ?row9k3 ?row9k4 ?row9k5 ?row9kK ?row9kp ?row9kd ?row9ku ?_; (case row9k1 => k_asm); (case row9k2 => k_asm); (case row9k3 => k_asm); (case row9k4 => k_asm); (case row9k5 => k_asm); (case row9kK => first | exact rfl | assumption); (case row9kp => (refine ⟨?_, ?_, ?_⟩ <;> omega)); (case row9kd => (first | omega | ktr_room | ((try simp only [depth_deeper, depth_in1]); (try dsimp only [ktrTop]); omega))); (case row9ku => (first | omega | ktr_units | ((try simp only [units_in1, units_deeper, Around.mark_units, units_caller]); (try dsimp only [ktrTop]); omega)))); intro t9 h9 tk9 F9 N9; (try dsimp only); (try k_fold))
  k_with "exec Raise some none" => (k_here; k_dflt (refine' x_Raise ?row10k1 ?_; (case row10k1 => first | rfl | assumption)))
  k_with "call ref" => (k_here; (with_reducible show wpAny _ _ (call (Value.ref 61) [_, _]) _ _ _); k_dflt (refine' x_makeK _ _ _ _ _ _ _ _ _ _ _ _ _ _ _ _ _ _ _ _ ?row11k1 ?row11k2 ?row11k3 ?row11k4 ?row11k5 ?row11kA ?row11kF ?row11kK ?row11kd ?_; (case row11k1 => k_asm); (case row11k2 => k_asm); (case row11k3 => k_asm); (case row11k4 => k_asm); (case row11k5 => k_asm); (case row11kA => exact rfl); (case row11kF => exact rfl); (case row11kK => exact rfl); (case row11kd => (first | omega | ktr_room | ((try simp only [depth_deeper, depth_in1]); (try dsimp only [ktrTop]); omega)))); intro h' tk' e' eo' vs' dx' dO' t1' F' N' O' z0' z1' D' hde' off' offd'; (try dsimp only); refine ⟨_, _, _, _, rfl, Frag.In.keeps (by k_asm) (Fr.keep F'), x_mem N' (List.Mem.head _), O', z1', ?_⟩; (try dsimp only))
  k_with "leaving ref" => (k_here; k_dflt (refine' leave_firstD ?row12k1 ?row12k2 ?row12k3 ?row12k4 ?row12k5 ?row12k6 ?row12k7 ?_; (case row12k1 => k_asm); (case row12k2 => assumption); (case row12k3 => assumption); (case row12k4 => assumption); (case row12k5 => assumption); (case row12k6 => assumption); (case row12k7 => exact List.forall_mem_cons.mpr ⟨by assumption, by assumption⟩)); intro h' R' U'; (try dsimp only))
  k_with "call ref" => (k_here; (with_reducible show wpAny _ _ (call (Value.ref 77) [_, _]) _ _ _); k_dflt (refine' skipped_u ?row13k1 ?row13k2 ?row13k3 ?row13k4 ?row13k5 ?row13kK ?row13kp ?row13kd ?row13ku ?_; (case row13k1 => k_asm); (case row13k2 => k_asm); (case row13k3 => k_asm); (case row13k4 => k_asm); (case row13k5 => k_asm); (case row13kK => first | exact rfl | assumption); (case row13kp => (refine ⟨?_, ?_, ?_⟩ <;> omega)); (case row13kd => (first | omega | ktr_room | ((try simp only [depth_deeper, depth_in1]); (try dsimp only [ktrTop]); omega))); (case row13ku => (first | omega | ktr_units | ((try simp only [units_in1, units_deeper, Around.mark_units, units_caller]); (try dsimp only [ktrTop]); omega)))); intro t9 h9 tk9 F9 N9; (try dsimp only); (try k_fold))
  k_with "call ref" => (k_here; (with_reducible show wpAny _ _ (call (Value.ref 84) [_, _]) _ _ _); k_dflt (refine' word_end_c _ _ _ _ _ _ _ _ _ _ _ _ _ _ _ _ _ _ _ _ _ _ _ _ _ _ ?row14k1 ?row14k2 ?row14k3 ?row14k4 ?row14k5 ?row14kK ?row14kp ?row14kd ?row14ku ?row14ko ?row14ke; (case row14k1 => k_asm); (case row14k2 => k_asm); (case row14k3 => k_asm); (case row14k4 => k_asm); (case row14k5 => k_asm); (case row14kK => first | exact rfl | assumption); (case row14kp => (refine ⟨?_, ?_, ?_⟩ <;> omega)); (case row14kd => (first | omega | ktr_room | ((try simp only [depth_deeper, depth_in1]); (try dsimp only [ktrTop]); omega))); (case row14ku => (first | omega | ktr_units | ((try simp only [units_in1, units_deeper, Around.mark_units, units_caller]); (try dsimp only [ktrTop]); omega)))); rotate_left; (intro hn9 e9 dx9 dO9 y9 ty9 ti9 G9 h9 tk9 F9 R9 U9 D9; (try dsimp only)); rotate_left; (intro k9 hk9 t9 h9 tk9 F9 N9; have kq9 := wordEndI_gt (by omega) (by omega) hk9; obtain ⟨kp9, kq9⟩ := kq9; (try dsimp only)))
  k_with "leaving ref" => (k_here; k_dflt (refine' leave_onD ?row15k1 ?row15k2 ?row15k3 ?row15k4 ?_; (case row15k1 => k_asm); (case row15k2 => assumption); (case row15k3 => assumption); (case row15k4 => assumption)); intro h' R' U'; (try dsimp only))
  k_with "call ref" => (k_here; (with_reducible show wpAny _ _ (call (Value.ref 91) [_]) _ _ _); k_dflt (refine' words_c _ _ _ _ _ _ _ _ _ _ _ _ _ _ _ _ _ _ _ _ _ _ _ _ ?row16k1 ?row16k2 ?row16k3 ?row16k4 ?row16k5 ?row16kK ?row16kp ?row16kd ?row16ku ?row16ko ?row16ke; (case row16k1 => k_asm); (case row16k2 => k_asm); (case row16k3 => k_asm); (case row16k4 => k_asm); (case row16k5 => k_asm); (case row16kK => first | exact rfl | assumption); (case row16kp => omega); (case row16kd => (first | omega | ktr_room | ((try simp only [depth_deeper, depth_in1]); (try dsimp only [ktrTop]); omega))); (case row16ku => (first | omega | ktr_units | ((try simp only [units_in1, units_deeper, Around.mark_units, units_caller]); (try dsimp only [ktrTop]); omega)))); rotate_left; (intro at9 hn9 e9 dx9 dO9 y9 ty9 ti9 G9 h9 tk9 F9 R9 U9 D9; (try dsimp only)); rotate_left; (intro ws9 hk9 l9 vs9 n9 tl9 h9 tk9 F9 N9 A9 O9; (try dsimp only)))
  k_with "call ref" => (k_here; (with_reducible show wpAny _ _ (call (Value.ref 103) [Value.ref _, Value.int _ _]) _ _ _); k_dflt (refine' draw_u ?row22k1 ?row22k2 ?row22k3 ?row22k4 ?row22k5 ?row22kU ?row22kc ?row22kK ?row22kI ?row22kl ?row22kp ?row22ka ?row22kb ?row22kb2 ?row22kk ?row22kk1 ?row22kd ?row22ku ?_; (case row22k1 => k_asm); (case row22k2 => k_asm); (case row22k3 => k_asm); (case row22k4 => k_asm); (case row22k5 => k_asm); (case row22kU => k_updF); (case row22kc => k_mem); (case row22kK => first | exact rfl | assumption); (case row22kI => assumption); (case row22kl => first | omega | (simp only [List.length_map, List.length_take]; omega)); (case row22kp => first | assumption | k_ne); (case row22ka => omega); (case row22kb => omega); (case row22kb2 => omega); (case row22kk => first | omega | decide); (case row22kk1 => first | omega | decide); (case row22kd => first | (first | omega | ktr_room | ((try simp only [depth_deeper, depth_in1]); (try dsimp only [ktrTop]); omega)) | decide); (case row22ku => first | (first | omega | ktr_units | ((try simp only [units_in1, units_deeper, Around.mark_units, units_caller]); (try dsimp only [ktrTop]); omega)) | decide)); intro r9 a9 b9 t9 ta9 tb9 h9 tk9 hr9 hr9' ha9 ha9' hb9 F9 N9; (try dsimp only))
  k_with "call ref" => (k_here; (with_reducible show wpAny _ _ (call (Value.ref 110) [_]) _ _ _); k_dflt (refine law_walk_u (by k_asm) (by k_asm) (by k_asm) (by k_asm) (by k_asm) (by first | exact rfl | assumption) (by omega) (by (first | omega | ktr_room | ((try simp only [depth_deeper, depth_in1]); (try dsimp only [ktrTop]); omega))) (by (first | omega | ktr_units | ((try simp only [units_in1, units_deeper, Around.mark_units, units_caller]); (try dsimp only [ktrTop]); omega))) ?_ ?_); rotate_left; (intro n9 hn9 v9 t9 k9 tl9 h9 tk9 F9 N9 D9; (simp only [List.cons_append, List.nil_append, List.append_assoc] at N9); (try dsimp only)); rotate_left; (intro ws9 hk9 hw9 hq9 v9 l9 us9 z9 n9 k9 tl9 h9 tk9 F9 N9 A9 D9; (simp only [List.cons_append, List.nil_append, List.append_assoc] at N9); (try dsimp only)))
  k_with "call ref" => (k_here; (with_reducible show wpAny _ _ (call (Value.ref 117) [_]) _ _ _); k_dflt (refine law_heard_u (by k_asm) (by k_asm) (by k_asm) (by k_asm) (by k_asm) (by first | exact rfl | assumption) (by assumption) (by assumption) (by first | omega | decide) (by (first | omega | ktr_room | ((try simp only [depth_deeper, depth_in1]); (try dsimp only [ktrTop]); omega))) (by (first | omega | ktr_units | ((try simp only [units_in1, units_deeper, Around.mark_units, units_caller]); (try dsimp only [ktrTop]); omega))) ?_); intro v8 tl8 h8 tk8 F8 N8 D8; (simp only [List.cons_append, List.nil_append, List.append_assoc] at N8); (try dsimp only))
  k_with "CompSrc" => (k_here; k_dflt (refine' text_src2 ?row25k1 ?row25k2 ?row25k3 ?row25k4 ?row25k5 ?row25k6 ?row25k7 ?row25k8 ?_ ?_; (case row25k1 => exact rfl); (case row25k2 => assumption); (case row25k3 => k_asm); (case row25k4 => assumption); (case row25k5 => omega); (case row25k6 => omega); (case row25k7 => omega); (case row25k8 => omega)); rotate_left; (intro g ys9 xs9 a9 b9 ta9 tb9 hS9 hg9 hx9 ha9 ha9' hb9; (dsimp only [PLed])); rotate_left; (intro g a b ta tb I oI C oC D oD m₂ h tk E' ha ha' hb hC F N off ne; (dsimp only [PLed] at N off); (simp only [LCg.Off3, and_true] at off); (try dsimp only)))
  k_with "ElPost" => exact el_fin (by assumption) (by assumption) (tok_lit (by decide +kernel)) (by omega) (by omega) (by omega)
  k_with "call builtin:str.join" => (k_here; first | (k_dflt (refine' my_join ?row27l ?row27c ?row27s ?row27n ?_; (case row27l => kmk_list); (case row27c => assumption); (case row27s => assumption); (case row27n => omega)); intro y9 t9 k9 hl9 hT9) | (k_dflt (refine' my_join2 ?row27l ?row27c ?row27s ?row27n ?_; (case row27l => kmk_list); (case row27c => assumption); (case row27s => omega); (case row27n => assumption)); intro y9 t9 k9 hy9 hl9))
  k_with "call builtin:len" => (k_here; (with_reducible show wpAny _ _ (call (Value.builtin "len") [Value.str _ _]) _ _ _); (with_reducible refine my_len (by omega) ?_); intro t9 k9)
  k_with "binaryOp Add str str" => (k_here; (with_reducible show wpAny _ _ (binaryOp Operator.Add (Value.str _ _) (Value.str _ _)) _ _ _); first | (refine' my_add1 ?row29x ?row29y ?row29n ?_; (case row29x => (first | assumption | exact tok_item (tok_lit (by decide +kernel)) _ | exact tok_lit (by decide +kernel))); (case row29y => (first | assumption | exact tok_item (tok_lit (by decide +kernel)) _ | exact tok_lit (by decide +kernel))); (case row29n => omega); intro z9 t9 k9 hl9 hT9) | (refine' my_add ?row29x ?row29y ?row29n ?row29k ?_; (case row29x => (first | assumption | exact tok_item (tok_lit (by decide +kernel)) _ | exact tok_lit (by decide +kernel))); (case row29y => (first | assumption | exact tok_item (tok_lit (by decide +kernel)) _ | exact tok_lit (by decide +kernel))); (case row29n => omega); (case row29k => omega); intro z9 t9 k9 hl9 hT9))
  k_with "subscriptTail Name Slice str ref" => (k_here; first | ((with_reducible show wpAny _ _ (subscriptTail _ (PySem.Expr.Slice none (some _) none _) (Value.str _ _) (Value.ref _)) _ _ _); k_dflt (refine' my_slice_to (s := ⟨_, _, _, _, _⟩) ?row30F ?row30N ?row30x ?row30a ?row30b ?row30n ?_ ?row30s ?row30t; (case row30F => k_asm); (case row30N => k_asm); (case row30x => assumption); (case row30a => omega); (case row30b => omega); (case row30n => omega); (case row30s => with_unfolding_all rfl); (case row30t => kmk_pure)); intro y9 h9 t9 k9 F9 N9 hl9 hT9) | ((with_reducible show wpAny _ _ (subscriptTail _ (PySem.Expr.Slice (some _) none none _) (Value.str _ _) (Value.ref _)) _ _ _); k_dflt (refine' my_slice_from (s := ⟨_, _, _, _, _⟩) ?row30F ?row30N ?row30x ?row30a ?row30b ?row30n ?_ ?row30s ?row30t; (case row30F => k_asm); (case row30N => k_asm); (case row30x => assumption); (case row30a => omega); (case row30b => omega); (case row30n => omega); (case row30s => with_unfolding_all rfl); (case row30t => kmk_pure)); intro y9 h9 t9 k9 F9 N9 hl9 hT9))
  k_with "subscriptTail" => (k_here; (with_reducible show wpAny _ _ (subscriptTail _ (PySem.Expr.Slice none (some _) none _) (Value.ref _) (Value.ref _)) _ _ _); k_dflt (refine' my_init ?row31F ?row31N ?row31m ?row31n ?_ ?row31s ?row31t; (case row31F => k_asm); (case row31N => k_asm); (case row31m => k_mem); (case row31n => (first | omega | (rw [List.length_map]; omega) | ((have hq := DatAll.length (by assumption)); rw [List.length_map] at hq; omega))); (case row31s => with_unfolding_all rfl); (case row31t => kmk_pure)); intro D9 h9 F9 N9 l9)
  k_with "SrcLP" => (k_here; k_dflt (refine' words_src ?row32hh ?row32F ?row32N ?row32m ?row32D ?row32sub ?row32n ?_ ?row32k ?row32l ?row32d; (case row32hh => exact rfl); (case row32F => k_asm); (case row32N => k_asm); (case row32m => k_mem); (case row32D => assumption); (case row32sub => ((intro q hq; (simp only [List.mem_cons, List.mem_append, hq, true_or, or_true])))); (case row32n => omega); (case row32k => intro _; rfl); (case row32l => intro _; rfl); (case row32d => decide)); intro g9 ys9 hS9; (try dsimp only))
  k_with "call ref" => (k_here; (with_reducible show wpAny _ _ (call (Value.ref 91) [_]) _ _ _); k_dflt (refine words_again_u (by assumption) (by assumption) (by k_asm) (by k_asm) (by k_asm) (by k_asm) (by k_asm) (by first | exact rfl | assumption) (by omega) (by (first | omega | ktr_room | ((try simp only [depth_deeper, depth_in1]); (try dsimp only [ktrTop]); omega))) (by (first | omega | ktr_units | ((try simp only [units_in1, units_deeper, Around.mark_units, units_caller]); (try dsimp only [ktrTop]); omega))) ?_); intro ws8 l8 vs8 n8 tl8 h8 tk8 F8 N8 A8 E8 M8; (simp only [List.cons_append, List.nil_append, List.append_assoc] at N8); (try dsimp only))
  k_with "compareOp NotEq ref ref" => (k_here; (with_reducible show wpAny _ _ (compareOp CmpOp.NotEq (Value.ref _) (Value.ref _)) _ _ _); k_dflt (first | (refine' dat_ne ?row34N ?row34a ?row34s ?row34b ?row34t ?row34k ?row34u ?_; (case row34N => k_asm); (case row34a => assumption); (case row34s => ((intro q hq; (simp only [List.mem_cons, List.mem_append, hq, true_or, or_true])))); (case row34b => assumption); (case row34t => ((intro q hq; (simp only [List.mem_cons, List.mem_append, hq, true_or, or_true])))); (case row34k => exact due_kqd (by assumption)); (case row34u => (first | omega | ktr_units | ((try simp only [units_in1, units_deeper, Around.mark_units, units_caller]); (try dsimp only [ktrTop]); omega)))) | (refine' strs_ne ?row34N ?row34a ?row34b ?row34c ?row34d ?row34e ?row34f ?row34Sa ?row34Sb ?row34z ?row34u ?_; (case row34N => k_asm); (case row34a => k_mem); (case row34b => rfl); (case row34c => rfl); (case row34d => k_mem); (case row34e => rfl); (case row34f => rfl); (case row34Sb => assumption); (case row34Sa => exact strs_as (by assumption) (by assumption)); (case row34z => exact tok_words (by assumption) (by assumption)); (case row34u => (first | omega | ktr_units | ((try simp only [units_in1, units_deeper, Around.mark_units, units_caller]); (try dsimp only [ktrTop]); omega))))))
  k_with "compareOp Eq ref ref" => (k_here; (with_reducible show wpAny _ _ (compareOp CmpOp.Eq (Value.ref _) (Value.ref _)) _ _ _); k_dflt (first | (refine' nil_eq ?row35N ?row35a ?row35s ?row35b ?row35u ?_; (case row35N => k_asm); (case row35a => assumption); (case row35s => ((intro q hq; (simp only [List.mem_cons, List.mem_append, hq, true_or, or_true])))); (case row35b => kqd_in); (case row35u => (first | omega | ktr_units | ((try simp only [units_in1, units_deeper, Around.mark_units, units_caller]); (try dsimp only [ktrTop]); omega)))) | (refine' min_eq ?row35N ?row35a ?row35s ?row35b ?row35u ?_; (case row35N => k_asm); (case row35a => assumption); (case row35s => ((intro q hq; (simp only [List.mem_cons, List.mem_append, hq, true_or, or_true])))); (case row35b => kqd_in); (case row35u => (first | omega | ktr_units | ((try simp only [units_in1, units_deeper, Around.mark_units, units_caller]); (try dsimp only [ktrTop]); omega))))))
  k_with "TPost" => dsimp only [TPost]
  k_with "TEnd" => (refine' t_end ?row37F ?row37N ?row37s ?row37p ?row37a ?row37b ?row37c; (case row37F => k_asm); (case row37N => k_asm); (case row37s => (dsimp only [PLed]; lcg_sub)); (case row37p => k_mem); (case row37a => omega); (case row37b => omega); (case row37c => omega))
  k_with "subscriptTail" => (k_here; (with_reducible show wpAny _ _ (subscriptTail _ _ (Value.str (PySem.Str.ofString _) _) (Value.int _ _)) _ _ _); (refine my_item (by omega) (by simp only [len_menu, len_odd]; omega) (by simp only [len_menu, len_odd]; omega) ?_))
  k_with "binaryOp Add ref ref" => (k_here; (with_reducible show wpAny _ _ (binaryOp Operator.Add (Value.ref _) (Value.ref _)) _ _ _); k_dflt (refine' my_cat ?row39F ?row39N ?row39a ?row39b ?row39x ?row39y ?row39n ?row39k ?_; (case row39F => k_asm); (case row39N => k_asm); (case row39a => k_mem); (case row39b => k_mem); (case row39x => assumption); (case row39y => exact StrsAre.cons _ _ .nil); (case row39n => (first | omega | (rw [List.length_map]; omega) | ((have hq := DatAll.length (by assumption)); rw [List.length_map] at hq; omega))); (case row39k => exact Nat.le_of_ble_eq_true rfl)); intro D9 h9 F9 N9 S9)
  k_go0
  all_goals try k_fold
  k_with "exec For Name Call cons nil" => (k_here; (rename Fr _ _ _ _ => lF'); (with_unfolding_all refine' For_turns lF' ?_; k_whole))
  k_with "pyIter ref" => ((with_reducible show wpAny _ _ (pyIter _) (fun it s₂ => TurnsAt _ _ _ _ _ _ _ _ _ it s₂) _ _); k_dflt (refine' law_range ?k1 ?k2 ?k3 ?k4 ?k5 ?k6 ?k7 ?_ ?_; (case k1 => exact rfl); (case k2 => assumption); (case k3 => k_asm); (case k4 => k_asm); (case k5 => exact fun q hq => hq); (case k6 => exact rfl); (case k7 => exact rfl)); rotate_left; (intro a b ta tb m₁ h tk ha hb hc kF kN; (dsimp only [PLed] at kN); (dsimp only at kF kN ⊢)); rotate_left; (intro I i a b ta tb m₁ h tk t oi hI1 hI2 hi ha ha' hb kF hoi kN; (dsimp only [PLed] at kN); (dsimp only at kF kN ⊢); have hI1' := ltN hI1; (k_lt hI2)))
  k_steps)
end Mine
theorem PySem.Challenge.cw_pb0150_01_holds : PySem.Challenge.rw_pb0150_01.Holds := by
  exact Mine.law_holds
