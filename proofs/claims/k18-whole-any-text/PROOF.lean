import PyProof.Rows.All
import Wide.All
import OpenK.AllK
import Wide.FinOn
import HandS.ForMost
import HandS.ForExc
import HandS.ExcCtx
import HandS.Hot
import HandS.HotCalls
import HandS.ExcInit
import HandS.ExcField
import HandS.IsInst
import HandS.ReplaceLit
import HandS.ReplaceDef
import PySem.Challenge.RW_whomaywhat_k18_whole_any_text
import HandS.SetFor
import HandS.SetTxt0
import HandS.Strs
import HandS.TupSets
import PyProof.Rows.SortShellAny
import PyProof.StrOps2
import PyProof.Rows.StrStrike
section PartWm1
set_option autoImplicit false
set_option linter.all false
namespace Wm
abbrev L := List Nat
def isLet (c : Nat) : Bool := decide (97 ≤ c) && decide (c ≤ 122)
def isDig (c : Nat) : Bool := decide (48 ≤ c) && decide (c ≤ 57)
def marks : L := [40, 41, 123, 125, 44, 47, 46]
def isMark (c : Nat) : Bool := marks.contains c
inductive Tk where
  | word (w : L) | name (w : L) | int (n : Int) | mark (c : Nat) | bad | fin
  deriving DecidableEq
/-! ### the lexer -/
def dval (ds : L) : Nat := ds.foldl (fun a d => a * 10 + (d - 48)) 0
def numBad (neg : Bool) (ds : L) : Bool := decide (ds.length = 0) || decide (60 < ds.length) || (decide (ds.head? = some 48) && (decide (1 < ds.length) || neg))
def numAt (neg : Bool) (ds : L) : Option Int := if numBad neg ds = true then none else some (if neg = true then -(dval ds : Int) else (dval ds : Int))
def run (p : Nat → Bool) (cs : L) : Nat := (cs.takeWhile p).length
/-- the token that begins with c, and how many further signs it takes -/
def tokAt (c : Nat) (cs : L) : Option (Tk × Nat) :=
  if isMark c = true then some (.mark c, 0)
  else if isLet c = true then some (.word (c :: cs.take (run isLet cs)), run isLet cs)
  else if c = 34 then (if cs[run isLet cs]? = some 34 then some (.name (cs.take (run isLet cs)), run isLet cs + 1) else none)
  else if c = 45 then (numAt true (cs.takeWhile isDig)).map fun n => (.int n, run isDig cs)
  else (numAt false ((c :: cs).takeWhile isDig)).map fun n => (.int n, run isDig (c :: cs) - 1)
def lex : L → Nat → List (Tk × Nat)
  | [], p => [(.fin, p + 1)]
  | c :: cs, p => if c = 32 then lex cs (p + 1) else
    match tokAt c cs with
    | none => [(.bad, p + 1)]
    | some (t, m) => (t, p + 1) :: lex (cs.drop m) (p + 1 + m)
termination_by cs => cs.length
decreasing_by
  all_goals simp_wf
  all_goals (try rw [List.length_drop]) <;> omega
/-! ### conditions -/
inductive Trm where
  | nm (w : L) | fld (w : L) | part (w : L) (i : Nat)
  deriving DecidableEq
inductive Tgt where
  | set (w : L) | names (ws : List L)
  deriving DecidableEq
inductive Smp where
  | tt | ff
  | is (t u : Trm) | inn (t : Trm) (s : L) | mem (t : Trm) (g : L) | within (s : L) (g : Tgt) | most (x y : L) (c : Int) | path (u : Bool) (p : L) (ts : List Trm)
  deriving DecidableEq
inductive Cnd where
  | smp (s : Smp) | not (c : Cnd) | many (all : Bool) (cs : List Cnd)
/-! ### the automaton -/
inductive Hd where
  | is | inn | mem | within | most | path (u : Bool) | not | many (all : Bool)
  deriving DecidableEq
inductive TC where
  | is1 | is2 (t : Trm) | in1 | mem1 | tmp (u : Bool) (p : L) (ts : List Trm)
inductive WC where
  | wit1 | pth1 (u : Bool) | in2 (t : Trm) | mem2 (t : Trm)
inductive CC where
  | is (t : Trm) | inn (t : Trm) | mem (t : Trm) | wit (s : L) | pth (u : Bool) (p : L) | most1 (x : L) | most2 (x y : L)
inductive NC where
  | x | y (x : L)
inductive Md where
  | cond | condOr | opn (h : Hd) | done (c : Cnd) | close (s : Smp)
  | term (k : TC) | fend (k : TC) (w : L) | idx (k : TC) (w : L) | wrd (k : WC) | com (k : CC)
  | tm0 (u : Bool) (p : L) | tm1 (u : Bool) (p : L) | tmE (u : Bool) (p : L) (ts : List Trm)
  | tgt (s : L) | brN (s : L) (ws : List L) | brE (s : L) (ws : List L) | br0 (s : L) | num (k : NC) | int3 (x y : L)
inductive Fr where
  | notF | manyF (all : Bool) (acc : List Cnd)
def wYes : L := [121, 101, 115]
def wNo : L := [110, 111]
def wIs : L := [105, 115]
def wIn : L := [105, 110]
def wWithin : L := [119, 105, 116, 104, 105, 110]
def wMost : L := [109, 111, 115, 116]
def wMember : L := [109, 101, 109, 98, 101, 114]
def wUnder : L := [117, 110, 100, 101, 114]
def wAt : L := [97, 116]
def wNot : L := [110, 111, 116]
def wAll : L := [97, 108, 108]
def wAny : L := [97, 110, 121]
def hdW : Hd → L
  | .is => wIs | .inn => wIn | .mem => wMember | .within => wWithin | .most => wMost | .path true => wUnder | .path false => wAt | .not => wNot | .many true => wAll | .many false => wAny
/-- what a condition's word begins: a whole condition, or a head -/
def headOf (w : L) : Option (Smp ⊕ Hd) :=
  if w = wYes then some (.inl .tt) else if w = wNo then some (.inl .ff) else if w = wIs then some (.inr .is) else if w = wIn then some (.inr .inn)
  else if w = wWithin then some (.inr .within) else if w = wMost then some (.inr .most) else if w = wMember then some (.inr .mem) else if w = wUnder then some (.inr (.path true))
  else if w = wAt then some (.inr (.path false)) else if w = wNot then some (.inr .not) else if w = wAll then some (.inr (.many true)) else if w = wAny then some (.inr (.many false)) else none
abbrev St := Md × List Fr
def opened (h : Hd) (S : List Fr) : St := match h with
  | .is => (.term .is1, S) | .inn => (.term .in1, S) | .mem => (.term .mem1, S) | .within => (.wrd .wit1, S) | .most => (.num .x, S) | .path u => (.wrd (.pth1 u), S)
  | .not => (.cond, .notF :: S) | .many a => (.condOr, .manyF a [] :: S)
def endT : TC → Trm → Md
  | .is1, t => .com (.is t) | .is2 t, u => .close (.is t u) | .in1, t => .com (.inn t) | .mem1, t => .com (.mem t) | .tmp u p ts, t => .tmE u p (ts ++ [t])
def nameOk : TC → L → Bool
  | .mem1, _ => false | .tmp _ _ _, w => !w.isEmpty | _, _ => true
def afterC : CC → Md
  | .is t => .term (.is2 t) | .inn t => .wrd (.in2 t) | .mem t => .wrd (.mem2 t) | .wit s => .tgt s | .pth u p => .tm0 u p | .most1 x => .num (.y x) | .most2 x y => .int3 x y
def afterW : WC → L → Md
  | .wit1, w => .com (.wit w) | .pth1 u, w => .com (.pth u w) | .in2 t, w => .close (.inn t w) | .mem2 t, w => .close (.mem t w)
def afterN : NC → L → Md
  | .x, w => .com (.most1 w) | .y x, w => .com (.most2 x w)
def lastW (ws : List L) : L := ws.getLast?.getD []
/-- a term is due -/
def dTerm (k : TC) (S : List Fr) : Tk → Option St
  | .name w => if nameOk k w = true then some (endT k (.nm w), S) else none
  | .word w => some (.fend k w, S)
  | _ => none
/-- a condition is due -/
def dCond (S : List Fr) : Tk → Option St
  | .word w => if S.length + 1 ≤ 12 then (match headOf w with | some (.inl s) => some (.done (.smp s), S) | some (.inr h) => some (.opn h, S) | none => none) else none
  | _ => none
/-- a name that is greater than the last is due -/
def dName (s : L) (ws : List L) (S : List Fr) : Tk → Option St
  | .name w => if lastW ws < w then some (.brE s (ws ++ [w]), S) else none
  | _ => none
/-- every mode but fend -/
def step0 (m : Md) (S : List Fr) (t : Tk) : Option St := match m with
  | .cond => dCond S t
  | .condOr => if t = .mark 41 then (match S with | .manyF a acc :: S' => some (.done (.many a acc), S') | _ => none) else dCond S t
  | .opn h => if t = .mark 40 then some (opened h S) else none
  | .done c => match S with
    | [] => none
    | .notF :: S' => if t = .mark 41 then some (.done (.not c), S') else none
    | .manyF a acc :: S' => if t = .mark 41 then some (.done (.many a (acc ++ [c])), S') else if t = .mark 44 then some (.cond, .manyF a (acc ++ [c]) :: S') else none
  | .close s => if t = .mark 41 then some (.done (.smp s), S) else none
  | .term k => dTerm k S t
  | .fend _ _ => none
  | .idx k w => match t with
    | .int n => if 0 ≤ n ∧ n ≤ 40 then some (endT k (.part w n.toNat), S) else none
    | _ => none
  | .wrd k => match t with
    | .word w => some (afterW k w, S)
    | _ => none
  | .com k => if t = .mark 44 then some (afterC k, S) else none
  | .tm0 u p => if t = .mark 47 then some (.tm1 u p, S) else none
  | .tm1 u p => if t = .mark 41 then some (.done (.smp (.path u p [])), S) else dTerm (.tmp u p []) S t
  | .tmE u p ts => if t = .mark 41 then some (.done (.smp (.path u p ts)), S) else if t = .mark 47 ∧ ts.length < 40 then some (.term (.tmp u p ts), S) else none
  | .tgt s => match t with
    | .word w => some (.close (.within s (.set w)), S)
    | t => if t = .mark 123 then some (.br0 s, S) else none
  | .br0 s => if t = .mark 125 then some (.close (.within s (.names [])), S) else dName s [] S t
  | .brN s ws => dName s ws S t
  | .brE s ws => if t = .mark 125 then some (.close (.within s (.names ws)), S) else if t = .mark 44 then some (.brN s ws, S) else none
  | .num k => match t with
    | .word w => some (afterN k w, S)
    | .int n => if n = 0 then some (afterN k [], S) else none
    | _ => none
  | .int3 x y => match t with
    | .int n => some (.close (.most x y n), S)
    | _ => none
def step (s : St) (t : Tk) : Option St := match s with
  | (.fend k w, S) => if t = .mark 46 then some (.idx k w, S) else step0 (endT k (.fld w)) S t
  | (m, S) => step0 m S t
inductive Res where
  | ok (c : Cnd) | bad (col : Nat)
def final : St → Option Cnd
  | (.done c, []) => some c
  | _ => none
def go : St → List (Tk × Nat) → Res
  | _, [] => .bad 0
  | s, (t, c) :: ts => match (if t = .fin then final s else none) with
    | some c => .ok c
    | none => match step s t with
      | some s' => go s' ts
      | none => .bad c
def st0 : St := (.cond, [])
def read (cs : L) : Res := go st0 (lex cs 0)
end Wm
end PartWm1
section PartWm2
set_option autoImplicit false
set_option linter.all false
namespace Wm
/-! ### the texts of tokens -/
def ndig (n : Nat) : L := (Nat.toDigits 10 n).map Char.toNat
def itxt (n : Int) : L := if n < 0 then 45 :: ndig n.natAbs else ndig n.natAbs
def tkText : Tk → L
  | .word w => w | .name w => 34 :: (w ++ [34]) | .int n => itxt n | .mark c => [c] | .bad => [] | .fin => []
def WF : Tk → Prop
  | .word w => w ≠ [] ∧ w.all isLet = true
  | .name w => w.all isLet = true
  | .int n => ∃ neg ds, numAt neg ds = some n ∧ ds.all isDig = true ∧ itxt n = (if neg = true then 45 :: ds else ds)
  | .mark c => isMark c = true
  | _ => False
theorem take_run (p : Nat → Bool) (cs : L) : cs.take (run p cs) = cs.takeWhile p := by
  unfold run
  induction cs with
  | nil => rfl
  | cons c cs ih =>
    rw [List.takeWhile_cons]
    cases h : p c with
    | true => simp [ih]
    | false => simp
theorem run_le (p : Nat → Bool) (cs : L) : run p cs ≤ cs.length := by
  unfold run
  exact (List.takeWhile_sublist p).length_le
theorem run_cons (p : Nat → Bool) (c : Nat) (cs : L) : run p (c :: cs) = if p c = true then run p cs + 1 else 0 := by
  unfold run
  rw [List.takeWhile_cons]
  cases p c <;> simp
theorem run_all (p : Nat → Bool) (cs : L) : (cs.takeWhile p).all p = true := by
  induction cs with
  | nil => rfl
  | cons c cs ih =>
    rw [List.takeWhile_cons]
    cases h : p c with
    | true => simp [h, ih]
    | false => simp
/-- no run goes on into x -/
def Stop (p : Nat → Bool) (x : L) : Prop := ∀ d r, x = d :: r → p d = false
theorem run_app {p : Nat → Bool} {x : L} (h : Stop p x) : ∀ cs : L, (cs ++ x).takeWhile p = cs.takeWhile p
  | [] => by
    cases x with
    | nil => rfl
    | cons d r =>
      have e := h d r rfl
      simp [e]
  | c :: cs => by
    have ih := run_app h cs
    rw [List.cons_append, List.takeWhile_cons, List.takeWhile_cons, ih]
theorem run_app' {p : Nat → Bool} {x : L} (h : Stop p x) (cs : L) : run p (cs ++ x) = run p cs := by
  unfold run
  rw [run_app h]
theorem run_full {p : Nat → Bool} {x cs : L} (h : Stop p x) (ha : cs.all p = true) : (cs ++ x).takeWhile p = cs := by
  rw [run_app h]
  induction cs with
  | nil => rfl
  | cons c cs ih =>
    simp only [List.all_cons, Bool.and_eq_true] at ha
    rw [List.takeWhile_cons, ha.1]
    simp only [if_true]
    rw [ih ha.2]
theorem takeWhile_take {p : Nat → Bool} : ∀ (cs : L) (k : Nat), run p cs ≤ k → (cs.take k).takeWhile p = cs.takeWhile p
  | [], k, _ => by simp
  | c :: cs, 0, h => by
    rw [run_cons] at h
    cases e : p c with
    | true => rw [e] at h; simp at h
    | false => simp [e]
  | c :: cs, k + 1, h => by
    rw [List.take_succ_cons, List.takeWhile_cons, List.takeWhile_cons]
    cases e : p c with
    | true =>
      rw [run_cons, e] at h
      simp only [if_true] at h
      have ih := takeWhile_take (p := p) cs k (by omega)
      rw [ih]
    | false => rfl
/-! ### numbers -/
theorem digitChar_nat : ∀ d : Nat, d < 10 → (Nat.digitChar d).toNat = 48 + d := by decide
theorem isDig_iff {c : Nat} : isDig c = true ↔ 48 ≤ c ∧ c ≤ 57 := by simp [isDig]
theorem isLet_iff {c : Nat} : isLet c = true ↔ 97 ≤ c ∧ c ≤ 122 := by simp [isLet]
theorem ndig_lt {n : Nat} (h : n < 10) : ndig n = [48 + n] := by
  unfold ndig
  rw [Nat.toDigits_of_lt_base h]
  show [(Nat.digitChar n).toNat] = _
  rw [digitChar_nat n h]
theorem ndig_snoc {q d : Nat} (hq : 0 < q) (hd : d < 10) : ndig (10 * q + d) = ndig q ++ [48 + d] := by
  unfold ndig
  rw [← Nat.toDigits_append_toDigits (by decide) hq hd, List.map_append, Nat.toDigits_of_lt_base hd]
  show _ ++ [(Nat.digitChar d).toNat] = _
  rw [digitChar_nat d hd]
theorem dval_snoc (ds : L) (d : Nat) : dval (ds ++ [d]) = dval ds * 10 + (d - 48) := by
  unfold dval
  rw [List.foldl_append] <;> rfl
theorem snoc_ind {P : L → Prop} (h0 : P []) (h1 : ∀ l d, P l → P (l ++ [d])) : ∀ l, P l := fun l => by
  have key : ∀ r : L, P r.reverse := fun r => by
    induction r with
    | nil => exact h0
    | cons d r ih => rw [List.reverse_cons]; exact h1 _ _ ih
  have z := key l.reverse
  rw [List.reverse_reverse] at z
  exact z
theorem dval_pos : ∀ (ds : L), ds.all isDig = true → ds ≠ [] → ds.head? ≠ some 48 → 0 < dval ds := by
  refine snoc_ind (fun _ h _ => absurd rfl h) fun l d ih ha _ hh => ?_
  rw [dval_snoc]
  rw [List.all_append, Bool.and_eq_true] at ha
  have hd : isDig d = true := by simpa using ha.2
  have hd' := isDig_iff.mp hd
  cases l with
  | nil =>
    have : d ≠ 48 := fun e => hh (by rw [e]; rfl)
    have e : dval [] = 0 := rfl
    omega
  | cons c r =>
    have := ih ha.1 (by simp) (by simpa using hh)
    omega
theorem ndig_dval : ∀ (ds : L), ds.all isDig = true → ds ≠ [] → (ds.head? = some 48 → ds.length = 1) → ndig (dval ds) = ds := by
  refine snoc_ind (fun _ h _ => absurd rfl h) fun l d ih ha _ hh => ?_
  rw [List.all_append, Bool.and_eq_true] at ha
  have hd : isDig d = true := by simpa using ha.2
  have hd' := isDig_iff.mp hd
  rw [dval_snoc]
  cases l with
  | nil =>
    have e : dval [] = 0 := rfl
    rw [e, Nat.zero_mul, Nat.zero_add, ndig_lt (by omega)]
    show [48 + (d - 48)] = [d]
    rw [show 48 + (d - 48) = d by omega]
  | cons c r =>
    have hne : (c :: r).head? ≠ some 48 := fun e => by
      have z := hh (by simpa using e)
      simp at z
    have ih' := ih ha.1 (by simp) (fun e => absurd e hne)
    have hp := dval_pos (c :: r) ha.1 (by simp) hne
    rw [Nat.mul_comm, ndig_snoc hp (by omega), ih', show 48 + (d - 48) = d by omega]
theorem numAt_text {neg : Bool} {ds : L} {n : Int} (ha : ds.all isDig = true) (h : numAt neg ds = some n) : itxt n = (if neg = true then 45 :: ds else ds) ∧ ds ≠ [] ∧ ds.length ≤ 60 := by
  unfold numAt at h
  cases hb : numBad neg ds with
  | true => rw [hb] at h; simp at h
  | false =>
    rw [hb] at h
    simp only [Bool.false_eq_true, if_false, Option.some.injEq] at h
    unfold numBad at hb
    simp only [Bool.or_eq_false_iff, Bool.and_eq_false_iff, decide_eq_false_iff_not] at hb
    obtain ⟨⟨h0, h60⟩, hz⟩ := hb
    have hne : ds ≠ [] := fun e => h0 (by rw [e]; rfl)
    have hlen : 0 < ds.length := List.length_pos_iff.mpr hne
    refine ⟨?_, hne, by omega⟩
    cases neg with
    | true =>
      have hh : ds.head? ≠ some 48 := by
        rcases hz with hz | hz
        · exact hz
        · exact absurd hz.2 (by simp)
      have hp := dval_pos ds ha hne hh
      simp only [if_true] at h ⊢
      unfold itxt
      rw [← h, if_pos (by omega), Int.natAbs_neg, Int.natAbs_natCast, ndig_dval ds ha hne fun e => absurd e hh]
    | false =>
      have hh : ds.head? = some 48 → ds.length = 1 := fun e => by
        rcases hz with hz | hz
        · exact absurd e hz
        · omega
      simp only [Bool.false_eq_true, if_false] at h ⊢
      unfold itxt
      rw [← h, if_neg (by omega), Int.natAbs_natCast, ndig_dval ds ha hne hh]
/-! ### one token -/
theorem mark_not {c : Nat} (h : isMark c = true) : isLet c = false ∧ isDig c = false ∧ c ≠ 34 ∧ c ≠ 45 ∧ c ≠ 32 := by
  unfold isMark marks at h
  simp only [List.contains_cons, List.contains_nil, Bool.or_eq_true, beq_iff_eq, Bool.or_false] at h
  rcases h with h | h | h | h | h | h | h <;> subst h <;> decide
theorem tokAt_text {c : Nat} {cs : L} {t : Tk} {m : Nat} (h : tokAt c cs = some (t, m)) : WF t ∧ tkText t = c :: cs.take m ∧ m ≤ cs.length := by
  unfold tokAt at h
  split at h
  · rename_i hm
    cases h
    exact ⟨hm, rfl, Nat.zero_le _⟩
  · split at h
    · rename_i hl
      cases h
      refine ⟨⟨by simp, ?_⟩, rfl, run_le _ _⟩
      rw [List.all_cons, hl, Bool.true_and, take_run, run_all]
    · split at h
      · rename_i hc
        split at h
        · rename_i hq
          cases h
          obtain ⟨hlt, hg⟩ := List.getElem?_eq_some_iff.mp hq
          refine ⟨?_, ?_, hlt⟩
          · show (cs.take (run isLet cs)).all isLet = true
            rw [take_run, run_all]
          · show 34 :: (cs.take (run isLet cs) ++ [34]) = c :: cs.take (run isLet cs + 1)
            rw [List.take_add_one, hq, hc] <;> rfl
        · cases h
      · split at h
        · rename_i hc
          rw [Option.map_eq_some_iff] at h
          obtain ⟨n, hn, e⟩ := h
          cases e
          have z := numAt_text (run_all _ _) hn
          refine ⟨⟨true, _, hn, run_all _ _, z.1⟩, ?_, run_le _ _⟩
          show itxt n = _
          rw [z.1, take_run, hc] <;> rfl
        · rw [Option.map_eq_some_iff] at h
          obtain ⟨n, hn, e⟩ := h
          cases e
          have z := numAt_text (run_all _ _) hn
          have hr := take_run isDig (c :: cs)
          have hl := run_le isDig (c :: cs)
          have hpos : 0 < run isDig (c :: cs) := List.length_pos_iff.mpr z.2.1
          refine ⟨⟨false, _, hn, run_all _ _, z.1⟩, ?_, ?_⟩
          · show itxt n = _
            rw [z.1, ← hr]
            obtain ⟨k, hk⟩ : ∃ k, run isDig (c :: cs) = k + 1 := ⟨_, (Nat.succ_pred_eq_of_pos hpos).symm⟩
            rw [hk] <;> rfl
          · rw [List.length_cons] at hl
            omega
theorem tokAt_app {c : Nat} {cs x : L} {r : Tk × Nat} (h1 : Stop isLet x) (h2 : Stop isDig x) (h : tokAt c cs = some r) : tokAt c (cs ++ x) = some r := by
  unfold tokAt at h ⊢
  rw [run_app' h1, run_app' h2, run_app h2, ← List.cons_append, run_app h2, run_app' h2, List.take_append_of_le_length (run_le _ _)]
  split at h
  · rename_i hm; rw [if_pos hm]; exact h
  · rename_i hm
    rw [if_neg hm]
    split at h
    · rename_i hl; rw [if_pos hl]; exact h
    · rename_i hl
      rw [if_neg hl]
      split at h
      · rename_i hc
        rw [if_pos hc]
        split at h
        · rename_i hq
          obtain ⟨hlt, _⟩ := List.getElem?_eq_some_iff.mp hq
          rw [List.getElem?_append_left hlt, if_pos hq]
          exact h
        · cases h
      · rename_i hc
        rw [if_neg hc]
        exact h
theorem tokAt_app_none {c : Nat} {cs x : L} (h1 : Stop isLet x) (h2 : Stop isDig x) (h3 : x.head? ≠ some 34) (h : tokAt c cs = none) : tokAt c (cs ++ x) = none := by
  unfold tokAt at h ⊢
  rw [run_app' h1, run_app' h2, run_app h2, ← List.cons_append, run_app h2, run_app' h2]
  split at h
  · cases h
  · rename_i hm
    rw [if_neg hm]
    split at h
    · cases h
    · rename_i hl
      rw [if_neg hl]
      split at h
      · rename_i hc
        rw [if_pos hc]
        split at h
        · cases h
        · rename_i hq
          rw [if_neg]
          intro e
          by_cases hlt : run isLet cs < cs.length
          · rw [List.getElem?_append_left hlt] at e
            exact hq e
          · have hl := run_le isLet cs
            rw [List.getElem?_append_right (by omega), show run isLet cs - cs.length = 0 by omega, ← List.head?_eq_getElem?] at e
            exact h3 e
      · rename_i hc
        rw [if_neg hc]
        exact h
theorem tokAt_take {c : Nat} {cs : L} {t : Tk} {m k : Nat} (h : tokAt c cs = some (t, m)) (hk : m ≤ k) : tokAt c (cs.take k) = some (t, m) := by
  unfold tokAt at h ⊢
  split at h
  · rename_i hm; rw [if_pos hm]; exact h
  · rename_i hm
    rw [if_neg hm]
    split at h
    · rename_i hl
      rw [if_pos hl]
      cases h
      have e : run isLet (cs.take k) = run isLet cs := by unfold run; rw [takeWhile_take cs k hk]
      rw [e, List.take_take, Nat.min_eq_left hk]
    · rename_i hl
      rw [if_neg hl]
      split at h
      · rename_i hc
        rw [if_pos hc]
        split at h
        · rename_i hq
          cases h
          have e : run isLet (cs.take k) = run isLet cs := by unfold run; rw [takeWhile_take cs k (by omega)]
          rw [e, List.getElem?_take_of_lt (by omega), if_pos hq, List.take_take, Nat.min_eq_left (by omega)]
        · cases h
      · rename_i hc
        rw [if_neg hc]
        split at h
        · rename_i h45
          rw [if_pos h45]
          rw [Option.map_eq_some_iff] at h
          obtain ⟨n, hn, e⟩ := h
          cases e
          rw [takeWhile_take cs k hk, hn]
          show some _ = some _
          have e : run isDig (cs.take k) = run isDig cs := by unfold run; rw [takeWhile_take cs k hk]
          rw [e]
        · rename_i h45
          rw [if_neg h45]
          rw [Option.map_eq_some_iff] at h
          obtain ⟨n, hn, e⟩ := h
          cases e
          have e0 : c :: cs.take k = (c :: cs).take (k + 1) := rfl
          rw [e0]
          have e : run isDig ((c :: cs).take (k + 1)) = run isDig (c :: cs) := by unfold run; rw [takeWhile_take (c :: cs) (k + 1) (by omega)]
          rw [takeWhile_take (c :: cs) (k + 1) (by omega), hn, e] <;> rfl
end Wm
end PartWm2
section PartWm3
set_option autoImplicit false
set_option linter.all false
namespace Wm
/-! ### the lexer, in whole -/
theorem lex_nil (p : Nat) : lex [] p = [(.fin, p + 1)] := by rw [lex]
theorem lex_space (cs : L) (p : Nat) : lex (32 :: cs) p = lex cs (p + 1) := by rw [lex, if_pos rfl]
theorem lex_bad {c : Nat} {cs : L} {p : Nat} (h : c ≠ 32) (e : tokAt c cs = none) : lex (c :: cs) p = [(.bad, p + 1)] := by rw [lex, if_neg h, e]
theorem lex_tok {c : Nat} {cs : L} {p m : Nat} {t : Tk} (h : c ≠ 32) (e : tokAt c cs = some (t, m)) : lex (c :: cs) p = (t, p + 1) :: lex (cs.drop m) (p + 1 + m) := by rw [lex, if_neg h, e]
/-- the four ways of a text -/
theorem lex_ind {P : L → Nat → Prop} (h0 : ∀ p, P [] p) (h1 : ∀ cs p, P cs (p + 1) → P (32 :: cs) p) (h2 : ∀ c cs p, c ≠ 32 → tokAt c cs = none → P (c :: cs) p)
    (h3 : ∀ c cs p t m, c ≠ 32 → tokAt c cs = some (t, m) → P (cs.drop m) (p + 1 + m) → P (c :: cs) p) : ∀ cs p, P cs p := by
  have key : ∀ n (cs : L), cs.length ≤ n → ∀ p, P cs p := by
    intro n
    induction n with
    | zero =>
      intro cs h p
      have e : cs = [] := List.eq_nil_of_length_eq_zero (by omega)
      rw [e]; exact h0 p
    | succ n ih =>
      intro cs h p
      cases cs with
      | nil => exact h0 p
      | cons c cs =>
        rw [List.length_cons] at h
        by_cases hc : c = 32
        · rw [hc]; exact h1 cs p (ih cs (by omega) _)
        · cases e : tokAt c cs with
          | none => exact h2 c cs p hc e
          | some r =>
            obtain ⟨t, m⟩ := r
            exact h3 c cs p t m hc e (ih _ (by rw [List.length_drop]; omega) _)
  exact fun cs p => key cs.length cs (Nat.le_refl _) p
def sh (k : Nat) (x : Tk × Nat) : Tk × Nat := (x.1, x.2 + k)
theorem lex_shift (k : Nat) : ∀ cs p, lex cs (p + k) = (lex cs p).map (sh k) := by
  refine lex_ind ?_ ?_ ?_ ?_
  · intro p
    rw [lex_nil, lex_nil]
    show [(Tk.fin, p + k + 1)] = [(Tk.fin, p + 1 + k)]
    rw [show p + k + 1 = p + 1 + k by omega]
  · intro cs p ih
    rw [lex_space, lex_space, ← ih, show p + k + 1 = p + 1 + k by omega]
  · intro c cs p hc e
    rw [lex_bad hc e, lex_bad hc e]
    show [(Tk.bad, p + k + 1)] = [(Tk.bad, p + 1 + k)]
    rw [show p + k + 1 = p + 1 + k by omega]
  · intro c cs p t m hc e ih
    rw [lex_tok hc e, lex_tok hc e, List.map_cons, ← ih]
    show (t, p + k + 1) :: _ = (t, p + 1 + k) :: _
    rw [show p + k + 1 = p + 1 + k by omega, show p + 1 + k + m = p + 1 + m + k by omega]
/-- good tokens, then the end or a bad one -/
theorem lex_shape : ∀ cs p, ∃ pre t c, lex cs p = pre ++ [(t, c)] ∧ (∀ x ∈ pre, WF x.1) ∧ (t = .fin ∧ c = p + cs.length + 1 ∨ t = .bad) := by
  refine lex_ind ?_ ?_ ?_ ?_
  · intro p
    exact ⟨[], .fin, p + 1, lex_nil p, fun x h => absurd h List.not_mem_nil, .inl ⟨rfl, rfl⟩⟩
  · intro cs p ⟨pre, t, c, e, w, h⟩
    refine ⟨pre, t, c, (lex_space cs p).trans e, w, ?_⟩
    rcases h with h | h
    · exact .inl ⟨h.1, by rw [List.length_cons]; omega⟩
    · exact .inr h
  · intro c cs p hc e
    exact ⟨[], .bad, p + 1, lex_bad hc e, fun x h => absurd h List.not_mem_nil, .inr rfl⟩
  · intro c cs p t m hc e ⟨pre, u, d, e2, w, h⟩
    have z := tokAt_text e
    refine ⟨(t, p + 1) :: pre, u, d, by rw [lex_tok hc e, e2] <;> rfl, fun x hx => ?_, ?_⟩
    · rcases List.mem_cons.mp hx with hx | hx
      · rw [hx]; exact z.1
      · exact w x hx
    · rcases h with h | h
      · refine .inl ⟨h.1, ?_⟩
        rw [List.length_drop] at h
        rw [List.length_cons]
        have := z.2.2
        omega
      · exact .inr h
theorem WF.nfin {t : Tk} (h : WF t) : t ≠ .fin ∧ t ≠ .bad := by
  constructor <;> (intro e; rw [e] at h; exact h)
theorem snoc_split {α : Type} {pre : List α} {x : α} {a : List α} {y : α} {b : List α} (e : pre ++ [x] = a ++ y :: b) : (b = [] ∧ a = pre ∧ y = x) ∨ (∃ b', b = b' ++ [x] ∧ pre = a ++ y :: b') := by
  cases hb : b.reverse with
  | nil =>
    have eb : b = [] := List.reverse_eq_nil_iff.mp hb
    subst eb
    have := List.append_inj' e rfl
    exact .inl ⟨rfl, this.1.symm, (List.singleton_inj.mp this.2).symm⟩
  | cons z r =>
    have eb : b = r.reverse ++ [z] := by rw [← List.reverse_reverse b, hb, List.reverse_cons]
    subst eb
    have e' : pre ++ [x] = (a ++ y :: r.reverse) ++ [z] := by rw [e]; simp
    have := List.append_inj' e' rfl
    have hz := List.singleton_inj.mp this.2
    exact .inr ⟨r.reverse, by rw [hz], this.1⟩
/-- the end token stands last -/
theorem lex_fin {cs : L} {p c : Nat} {a b : List (Tk × Nat)} (h : lex cs p = a ++ (.fin, c) :: b) : b = [] ∧ c = p + cs.length + 1 ∧ ∀ x ∈ a, WF x.1 := by
  obtain ⟨pre, t, d, e, w, q⟩ := lex_shape cs p
  rw [e] at h
  rcases snoc_split h with ⟨hb, ha, hx⟩ | ⟨b', hb, ha⟩
  · cases hx
    rcases q with q | q
    · exact ⟨hb, q.2, by rw [ha]; exact w⟩
    · cases q
  · have z := w (.fin, c) (by rw [ha]; simp)
    exact absurd rfl (WF.nfin z).1
theorem lex_pre {cs : L} {p c : Nat} {t : Tk} {a b : List (Tk × Nat)} (h : lex cs p = a ++ (t, c) :: b) : ∀ x ∈ a, WF x.1 := by
  obtain ⟨pre, u, d, e, w, q⟩ := lex_shape cs p
  rw [e] at h
  rcases snoc_split h with ⟨hb, ha, hx⟩ | ⟨b', hb, ha⟩
  · rw [ha]; exact w
  · intro x hx
    exact w x (by rw [ha]; exact List.mem_append_left _ hx)
/-- where tokens stand -/
theorem lex_col : ∀ cs p, ∀ t c, (t, c) ∈ lex cs p → p < c ∧ c ≤ p + cs.length + 1 ∧ (t ≠ .fin → c ≤ p + cs.length ∧ ∃ d, cs[c - 1 - p]? = some d ∧ d ≠ 32) := by
  refine lex_ind ?_ ?_ ?_ ?_
  · intro p t c h
    rw [lex_nil, List.mem_singleton] at h
    cases h
    exact ⟨by omega, by simp, fun e => absurd rfl e⟩
  · intro cs p ih t c h
    rw [lex_space] at h
    obtain ⟨h1, h2, h3⟩ := ih t c h
    refine ⟨by omega, by rw [List.length_cons]; omega, fun e => ?_⟩
    obtain ⟨h4, d, h5, h6⟩ := h3 e
    refine ⟨by rw [List.length_cons]; omega, d, ?_, h6⟩
    rw [show c - 1 - p = (c - 1 - (p + 1)) + 1 by omega, List.getElem?_cons_succ]
    exact h5
  · intro c cs p hc e t d h
    rw [lex_bad hc e, List.mem_singleton] at h
    cases h
    refine ⟨by omega, by simp, fun _ => ⟨by rw [List.length_cons]; omega, c, ?_, hc⟩⟩
    rw [show p + 1 - 1 - p = 0 by omega] <;> rfl
  · intro c cs p t m hc e ih u d h
    have z := tokAt_text e
    rw [lex_tok hc e] at h
    rcases List.mem_cons.mp h with h | h
    · cases h
      refine ⟨by omega, by simp, fun _ => ⟨by rw [List.length_cons]; omega, c, ?_, hc⟩⟩
      rw [show p + 1 - 1 - p = 0 by omega] <;> rfl
    · obtain ⟨h1, h2, h3⟩ := ih u d h
      rw [List.length_drop] at h2 h3
      have := z.2.2
      refine ⟨by omega, by rw [List.length_cons]; omega, fun e => ?_⟩
      obtain ⟨h4, x, h5, h6⟩ := h3 e
      refine ⟨by rw [List.length_cons]; omega, x, ?_, h6⟩
      rw [List.getElem?_drop] at h5
      rw [show d - 1 - p = (m + (d - 1 - (p + 1 + m))) + 1 by omega, List.getElem?_cons_succ]
      exact h5
/-- a text cut ahead of a token -/
theorem lex_cut : ∀ cs p, ∀ pre t c rest, lex cs p = pre ++ (t, c) :: rest → lex (cs.take (c - 1 - p)) p = pre ++ [(.fin, c)] := by
  have one : ∀ p : Nat, ∀ cs : L, lex (cs.take (p + 1 - 1 - p)) p = [] ++ [(Tk.fin, p + 1)] := fun p cs => by
    rw [show p + 1 - 1 - p = 0 by omega, List.take_zero, lex_nil] <;> rfl
  refine lex_ind ?_ ?_ ?_ ?_
  · intro p pre t c rest h
    rw [lex_nil] at h
    cases pre with
    | nil => cases h; exact one p []
    | cons x r => simp at h
  · intro cs p ih pre t c rest h
    have hm := lex_col _ _ t c (by rw [lex_space] at h; rw [h]; simp : (t, c) ∈ lex cs (p + 1))
    rw [lex_space] at h
    rw [show c - 1 - p = (c - 1 - (p + 1)) + 1 by omega, List.take_succ_cons, lex_space]
    exact ih pre t c rest h
  · intro c cs p hc e pre t d rest h
    rw [lex_bad hc e] at h
    cases pre with
    | nil => cases h; exact one p _
    | cons x r => simp at h
  · intro c cs p t m hc e ih pre u d rest h
    rw [lex_tok hc e] at h
    cases pre with
    | nil => cases h; exact one p _
    | cons x r =>
      rw [List.cons_append, List.cons.injEq] at h
      obtain ⟨hx, h⟩ := h
      have hm := lex_col _ _ u d (by rw [h]; simp : (u, d) ∈ lex (cs.drop m) (p + 1 + m))
      rw [show d - 1 - p = (d - 2 - p) + 1 by omega, List.take_succ_cons, lex_tok hc (tokAt_take e (by omega)), List.cons_append, hx]
      have q := ih r u d rest h
      rw [show d - 1 - (p + 1 + m) = d - 2 - p - m by omega] at q
      rw [List.drop_take, q]
/-- a text that goes on -/
theorem lex_app {x : L} (h1 : Stop isLet x) (h2 : Stop isDig x) : ∀ cs p, ∀ pre c, lex cs p = pre ++ [(.fin, c)] → lex (cs ++ x) p = pre ++ lex x (p + cs.length) := by
  refine lex_ind ?_ ?_ ?_ ?_
  · intro p pre c h
    rw [lex_nil] at h
    cases pre with
    | nil => rfl
    | cons y r => simp at h
  · intro cs p ih pre c h
    rw [lex_space] at h
    rw [List.cons_append, lex_space, ih pre c h, List.length_cons, show p + (cs.length + 1) = p + 1 + cs.length by omega]
  · intro c cs p hc e pre d h
    rw [lex_bad hc e] at h
    cases pre with
    | nil => simp at h
    | cons y r => simp at h
  · intro c cs p t m hc e ih pre d h
    have z := tokAt_text e
    rw [lex_tok hc e] at h
    cases pre with
    | nil =>
      rw [List.nil_append, List.cons.injEq] at h
      have h' := h.1
      cases h'
      exact absurd rfl (WF.nfin z.1).1
    | cons y r =>
      rw [List.cons_append, List.cons.injEq] at h
      rw [List.cons_append, lex_tok hc (tokAt_app h1 h2 e), List.drop_append_of_le_length z.2.2, ih r d h.2, List.length_drop, List.cons_append, h.1, List.length_cons]
      rw [show p + 1 + m + (cs.length - m) = p + (cs.length + 1) by have := z.2.2; omega]
/-- a token that stands, stands when a space and more follow -/
theorem lex_more (x : L) : ∀ cs p, ∀ pre t c rest, t ≠ .fin → lex cs p = pre ++ (t, c) :: rest → ∃ rest', lex (cs ++ 32 :: x) p = pre ++ (t, c) :: rest' := by
  have s1 : Stop isLet (32 :: x) := fun d r e => by cases e; rfl
  have s2 : Stop isDig (32 :: x) := fun d r e => by cases e; rfl
  refine lex_ind ?_ ?_ ?_ ?_
  · intro p pre t c rest hf h
    rw [lex_nil] at h
    cases pre with
    | nil => cases h; exact absurd rfl hf
    | cons y r => simp at h
  · intro cs p ih pre t c rest hf h
    rw [lex_space] at h
    obtain ⟨r, e⟩ := ih pre t c rest hf h
    exact ⟨r, by rw [List.cons_append, lex_space]; exact e⟩
  · intro c cs p hc e pre t d rest hf h
    rw [lex_bad hc e] at h
    cases pre with
    | nil =>
      cases h
      exact ⟨[], by rw [List.cons_append, lex_bad hc (tokAt_app_none s1 s2 (by simp) e)] <;> rfl⟩
    | cons y r => simp at h
  · intro c cs p t m hc e ih pre u d rest hf h
    have z := tokAt_text e
    rw [lex_tok hc e] at h
    have e2 : lex (c :: cs ++ 32 :: x) p = (t, p + 1) :: lex (cs.drop m ++ 32 :: x) (p + 1 + m) := by
      rw [List.cons_append, lex_tok hc (tokAt_app s1 s2 e), List.drop_append_of_le_length z.2.2]
    cases pre with
    | nil =>
      cases h
      exact ⟨_, e2⟩
    | cons y r =>
      rw [List.cons_append, List.cons.injEq] at h
      obtain ⟨r', er⟩ := ih r u d rest hf h.2
      exact ⟨r', by rw [e2, er, h.1] <;> rfl⟩
/-! ### the text but for its spaces -/
def nosp (cs : L) : L := cs.filter fun c => c != 32
def flat (ts : List Tk) : L := (ts.map tkText).flatten
theorem nosp_app (a b : L) : nosp (a ++ b) = nosp a ++ nosp b := List.filter_append _ _
theorem nosp_id {l : L} (h : ∀ c ∈ l, c ≠ 32) : nosp l = l := List.filter_eq_self.mpr fun c hc => by simpa using h c hc
theorem let_sp {w : L} (h : w.all isLet = true) : ∀ c ∈ w, c ≠ 32 := fun c hc e => by
  have := List.all_eq_true.mp h c hc
  rw [e] at this
  exact absurd this (by decide)
theorem dig_sp {w : L} (h : w.all isDig = true) : ∀ c ∈ w, c ≠ 32 := fun c hc e => by
  have := List.all_eq_true.mp h c hc
  rw [e] at this
  exact absurd this (by decide)
theorem WF.nosp {t : Tk} (h : WF t) : nosp (tkText t) = tkText t := by
  refine nosp_id ?_
  cases t with
  | word w => exact let_sp h.2
  | name w =>
    intro c hc
    rcases List.mem_cons.mp hc with e | hc
    · rw [e]; decide
    · rcases List.mem_append.mp hc with hc | hc
      · exact let_sp h c hc
      · rw [List.mem_singleton.mp hc]; decide
  | int n =>
    obtain ⟨neg, ds, _, ha, e⟩ := h
    intro c hc
    have hc' : c ∈ itxt n := hc
    rw [e] at hc'
    cases neg with
    | true =>
      rcases List.mem_cons.mp hc' with e | hc
      · rw [e]; decide
      · exact dig_sp ha c hc
    | false => exact dig_sp ha c hc'
  | mark d =>
    intro c hc
    rw [List.mem_singleton.mp hc]
    exact (mark_not h).2.2.2.2
  | bad => exact h.elim
  | fin => exact h.elim
theorem lex_nosp : ∀ cs p, ∀ pre c, lex cs p = pre ++ [(.fin, c)] → nosp cs = flat (pre.map (·.1)) := by
  refine lex_ind ?_ ?_ ?_ ?_
  · intro p pre c h
    rw [lex_nil] at h
    cases pre with
    | nil => rfl
    | cons y r => simp at h
  · intro cs p ih pre c h
    rw [lex_space] at h
    rw [← ih pre c h] <;> rfl
  · intro c cs p hc e pre d h
    rw [lex_bad hc e] at h
    cases pre with
    | nil => simp at h
    | cons y r => simp at h
  · intro c cs p t m hc e ih pre d h
    have z := tokAt_text e
    rw [lex_tok hc e] at h
    cases pre with
    | nil =>
      rw [List.nil_append, List.cons.injEq] at h
      have h' := h.1
      cases h'
      exact absurd rfl (WF.nfin z.1).1
    | cons y r =>
      rw [List.cons_append, List.cons.injEq] at h
      have q := ih r d h.2
      have e1 : c :: cs = tkText t ++ cs.drop m := by rw [z.2.1, List.cons_append, List.take_append_drop]
      rw [e1, nosp_app, q, WF.nosp z.1, ← h.1] <;> rfl
end Wm
end PartWm3
section PartWm4
set_option autoImplicit false
set_option linter.all false
namespace Wm
/-! ### runs of the automaton -/
def adv : St → List Tk → Option St
  | s, [] => some s
  | s, t :: ts => match step s t with
    | some s' => adv s' ts
    | none => none
theorem adv_app : ∀ (a b : List Tk) (s : St), adv s (a ++ b) = (adv s a).bind fun s' => adv s' b
  | [], _, _ => rfl
  | t :: a, b, s => by
    show (match step s t with | some s' => adv s' (a ++ b) | none => none) = (match step s t with | some s' => adv s' a | none => none).bind _
    cases step s t with
    | none => rfl
    | some s' => exact adv_app a b s'
theorem dTerm_none {k : TC} {S : List Fr} : dTerm k S .fin = none ∧ dTerm k S .bad = none := ⟨rfl, rfl⟩
theorem step0_none (m : Md) (S : List Fr) : step0 m S .fin = none ∧ step0 m S .bad = none := by
  cases m with
  | done c =>
    cases S with
    | nil => exact ⟨rfl, rfl⟩
    | cons f S => cases f <;> exact ⟨rfl, rfl⟩
  | _ => exact ⟨rfl, rfl⟩
theorem step_none (s : St) : step s .fin = none ∧ step s .bad = none := by
  obtain ⟨m, S⟩ := s
  cases m with
  | fend k w => exact step0_none _ _
  | done c =>
    show step0 (.done c) S .fin = none ∧ step0 (.done c) S .bad = none
    exact step0_none _ _
  | _ => exact ⟨rfl, rfl⟩
theorem go_cons (s : St) (t : Tk) (c : Nat) (ts : List (Tk × Nat)) (h : t ≠ .fin) : go s ((t, c) :: ts) = match step s t with | some s' => go s' ts | none => .bad c := by
  rw [go, if_neg h] <;> rfl
theorem go_fin (s : St) (c : Nat) (ts : List (Tk × Nat)) : go s ((.fin, c) :: ts) = match final s with | some k => .ok k | none => .bad c := by
  rw [go, if_pos rfl, (step_none s).1] <;> rfl
theorem go_app : ∀ (pre rest : List (Tk × Nat)) (s s' : St), adv s (pre.map (·.1)) = some s' → go s (pre ++ rest) = go s' rest
  | [], _, s, s', h => by cases h; rfl
  | (t, c) :: pre, rest, s, s', h => by
    have hf : t ≠ .fin := fun e => by
      rw [e] at h
      have h' : (match step s .fin with | some s' => adv s' (pre.map (·.1)) | none => none) = some s' := h
      rw [(step_none s).1] at h'
      cases h'
    rw [List.cons_append, go_cons s t c _ hf]
    have h' : (match step s t with | some s' => adv s' (pre.map (·.1)) | none => none) = some s' := h
    cases e : step s t with
    | none => rw [e] at h'; cases h'
    | some s1 =>
      rw [e] at h'
      exact go_app pre rest s1 s' h'
theorem go_ok : ∀ (ts : List (Tk × Nat)) (s : St) (k : Cnd), go s ts = .ok k → ∃ pre c rest s', ts = pre ++ (.fin, c) :: rest ∧ adv s (pre.map (·.1)) = some s' ∧ final s' = some k
  | [], s, k, h => by cases h
  | (t, c) :: ts, s, k, h => by
    by_cases hf : t = .fin
    · subst hf
      rw [go_fin] at h
      cases e : final s with
      | none => rw [e] at h; cases h
      | some k' =>
        rw [e] at h
        cases h
        exact ⟨[], c, ts, s, rfl, rfl, e⟩
    · rw [go_cons s t c ts hf] at h
      cases e : step s t with
      | none => rw [e] at h; cases h
      | some s1 =>
        rw [e] at h
        obtain ⟨pre, d, rest, s', e1, e2, e3⟩ := go_ok ts s1 k h
        refine ⟨(t, c) :: pre, d, rest, s', by rw [e1] <;> rfl, ?_, e3⟩
        show (match step s t with | some s' => adv s' (pre.map (·.1)) | none => none) = some s'
        rw [e]
        exact e2
theorem go_bad : ∀ (ts : List (Tk × Nat)) (s : St) (col : Nat), go s ts = .bad col → (col = 0 ∧ adv s (ts.map (·.1)) ≠ none) ∨
    ∃ pre t rest s', ts = pre ++ (t, col) :: rest ∧ adv s (pre.map (·.1)) = some s' ∧ step s' t = none ∧ (t = .fin → final s' = none)
  | [], s, col, h => by cases h; exact .inl ⟨rfl, fun z => by cases z⟩
  | (t, c) :: ts, s, col, h => by
    by_cases hf : t = .fin
    · subst hf
      rw [go_fin] at h
      cases e : final s with
      | some k' => rw [e] at h; cases h
      | none =>
        rw [e] at h
        cases h
        exact .inr ⟨[], .fin, ts, s, rfl, rfl, (step_none s).1, fun _ => e⟩
    · rw [go_cons s t c ts hf] at h
      cases e : step s t with
      | none =>
        rw [e] at h
        cases h
        exact .inr ⟨[], t, ts, s, rfl, rfl, e, fun z => absurd z hf⟩
      | some s1 =>
        rw [e] at h
        rcases go_bad ts s1 col h with ⟨h0, h1⟩ | ⟨pre, u, rest, s', e1, e2, e3, e4⟩
        · refine .inl ⟨h0, ?_⟩
          show (match step s t with | some s' => adv s' (ts.map (·.1)) | none => none) ≠ none
          rw [e]
          exact h1
        · refine .inr ⟨(t, c) :: pre, u, rest, s', by rw [e1] <;> rfl, ?_, e3, e4⟩
          show (match step s t with | some s' => adv s' (pre.map (·.1)) | none => none) = some s'
          rw [e]
          exact e2
theorem adv_last {s : St} : ∀ {a : List Tk} {t : Tk}, (t = .fin ∨ t = .bad) → adv s (a ++ [t]) = none := fun {a t} h => by
  rw [adv_app]
  cases e : adv s a with
  | none => rfl
  | some s' =>
    show (match step s' t with | some s'' => adv s'' [] | none => none) = none
    rcases h with h | h <;> rw [h]
    · rw [(step_none s').1]
    · rw [(step_none s').2]
/-- reading, from the text -/
theorem read_ok {cs : L} {k : Cnd} (h : read cs = .ok k) : ∃ pre, lex cs 0 = pre ++ [(.fin, cs.length + 1)] ∧ (∀ x ∈ pre, WF x.1) ∧ adv st0 (pre.map (·.1)) = some (.done k, []) := by
  obtain ⟨pre, c, rest, s', e1, e2, e3⟩ := go_ok _ _ _ h
  obtain ⟨h1, h2, h3⟩ := lex_fin e1
  subst h1
  rw [Nat.zero_add] at h2
  refine ⟨pre, by rw [e1, h2], h3, ?_⟩
  rw [e2]
  obtain ⟨m, S⟩ := s'
  cases m with
  | done c =>
    cases S with
    | nil =>
      have z : some c = some k := e3
      cases z
      rfl
    | cons f S => cases e3
  | _ => cases e3
theorem read_bad {cs : L} {col : Nat} (h : read cs = .bad col) : ∃ pre t rest s', lex cs 0 = pre ++ (t, col) :: rest ∧ adv st0 (pre.map (·.1)) = some s' ∧ step s' t = none ∧ (t = .fin → final s' = none) := by
  rcases go_bad _ _ _ h with ⟨h0, h1⟩ | h
  · exfalso
    obtain ⟨pre, t, c, e, _, q⟩ := lex_shape cs 0
    apply h1
    rw [e, List.map_append]
    exact adv_last (q.imp (·.1) id)
  · exact h
theorem read_of {cs : L} {pre rest : List (Tk × Nat)} {s' : St} (e : lex cs 0 = pre ++ rest) (h : adv st0 (pre.map (·.1)) = some s') : read cs = go s' rest := by
  unfold read
  rw [e]
  exact go_app pre rest st0 s' h
theorem bad_at {s' : St} {t : Tk} {col : Nat} {rest : List (Tk × Nat)} (h : step s' t = none) (hf : t = .fin → final s' = none) : go s' ((t, col) :: rest) = .bad col := by
  by_cases e : t = .fin
  · rw [e, go_fin, hf e]
  · rw [go_cons _ _ _ _ e, h]
theorem stop32 (x : L) : Stop isLet (32 :: x) ∧ Stop isDig (32 :: x) := ⟨fun d r e => by cases e; rfl, fun d r e => by cases e; rfl⟩
theorem map_sh (k : Nat) (l : List (Tk × Nat)) : (l.map (sh k)).map (·.1) = l.map (·.1) := by
  rw [List.map_map]
  rfl
def spaces (k : Nat) : L := List.replicate k 32
theorem lex_spaces : ∀ (k : Nat) (cs : L) (p : Nat), lex (spaces k ++ cs) p = lex cs (p + k)
  | 0, cs, p => rfl
  | k + 1, cs, p => by
    show lex (32 :: (spaces k ++ cs)) p = _
    rw [lex_space, lex_spaces k cs (p + 1), show p + 1 + k = p + (k + 1) by omega]
/-- T4: spaces before and behind -/
theorem read_spaced {cs : L} {k : Cnd} (h : read cs = .ok k) (i : Nat) (x : L) (hx : x = [] ∨ ∃ n, x = spaces (n + 1)) : read (spaces i ++ (cs ++ x)) = .ok k := by
  obtain ⟨pre, e, w, a⟩ := read_ok h
  have sx : Stop isLet x ∧ Stop isDig x := by
    rcases hx with rfl | ⟨n, rfl⟩
    · exact ⟨fun d r e => absurd e.symm (List.cons_ne_nil _ _), fun d r e => absurd e.symm (List.cons_ne_nil _ _)⟩
    · exact stop32 (spaces n)
  have e2 := lex_app sx.1 sx.2 cs 0 pre _ e
  have e3 : ∃ c, lex (cs ++ x) 0 = pre ++ [(.fin, c)] := by
    rw [e2]
    rcases hx with rfl | ⟨n, rfl⟩
    · exact ⟨_, by rw [lex_nil]⟩
    · have z := lex_spaces (n + 1) [] (0 + cs.length)
      rw [List.append_nil] at z
      exact ⟨_, by rw [z, lex_nil]⟩
  obtain ⟨c, e3⟩ := e3
  have e4 : lex (spaces i ++ (cs ++ x)) 0 = pre.map (sh i) ++ [(.fin, c + i)] := by
    rw [lex_spaces, lex_shift, e3, List.map_append] <;> rfl
  rw [read_of e4 (s' := (.done k, [])) (by rw [map_sh]; exact a), go_fin] <;> rfl
/-- T5 -/
theorem read_yes {cs : L} {k : Cnd} (h : read cs = .ok k) : read (cs ++ 32 :: wYes) = .bad (cs.length + 2) := by
  obtain ⟨pre, e, w, a⟩ := read_ok h
  have e2 := lex_app (stop32 wYes).1 (stop32 wYes).2 cs 0 pre _ e
  have e3 : lex (32 :: wYes) (0 + cs.length) = [(.word wYes, 0 + cs.length + 1 + 1), (.fin, 0 + cs.length + 1 + 1 + 2 + 1)] := by
    rw [lex_space, show wYes = 121 :: [101, 115] from rfl, lex_tok (t := .word wYes) (m := 2) (by decide) (by decide)]
    rw [show ([101, 115] : L).drop 2 = [] from rfl, lex_nil] <;> rfl
  rw [e3] at e2
  rw [read_of e2 a, go_cons _ _ _ _ (by simp)]
  rw [show step ((.done k, []) : St) (.word wYes) = none from rfl]
  show Res.bad (0 + cs.length + 1 + 1) = _
  rw [show 0 + cs.length + 1 + 1 = cs.length + 2 by omega]
theorem read_close {cs : L} {k : Cnd} (h : read cs = .ok k) : read (cs ++ [41]) = .bad (cs.length + 1) := by
  obtain ⟨pre, e, w, a⟩ := read_ok h
  have e2 := lex_app (x := [41]) (fun d r e => by cases e; rfl) (fun d r e => by cases e; rfl) cs 0 pre _ e
  have e3 : lex [41] (0 + cs.length) = [(.mark 41, 0 + cs.length + 1), (.fin, 0 + cs.length + 1 + 0 + 1)] := by
    rw [lex_tok (t := .mark 41) (m := 0) (by decide) (by decide)]
    rw [show ([] : L).drop 0 = [] from rfl, lex_nil]
  rw [e3] at e2
  rw [read_of e2 a, go_cons _ _ _ _ (by simp)]
  rw [show step ((.done k, []) : St) (.mark 41) = none from rfl]
  show Res.bad (0 + cs.length + 1) = _
  rw [Nat.zero_add]
/-- T6 -/
theorem bad_place {cs : L} {p : Nat} (h : read cs = .bad p) : 1 ≤ p ∧ p ≤ cs.length + 1 := by
  obtain ⟨pre, t, rest, s', e, a, n, f⟩ := read_bad h
  have z := lex_col cs 0 t p (by rw [e]; simp)
  omega
theorem bad_before {cs : L} {p : Nat} (h : read cs = .bad p) (i : Nat) : read (spaces i ++ cs) = .bad (p + i) := by
  obtain ⟨pre, t, rest, s', e, a, n, f⟩ := read_bad h
  have e4 : lex (spaces i ++ cs) 0 = pre.map (sh i) ++ (t, p + i) :: rest.map (sh i) := by
    rw [lex_spaces, lex_shift, e, List.map_append] <;> rfl
  rw [read_of e4 (s' := s') (by rw [map_sh]; exact a)]
  exact bad_at n f
/-- T7 -/
theorem bad_behind {cs : L} {p : Nat} (h : read cs = .bad p) (hp : cs.length < p) (i : Nat) : read (cs ++ spaces (i + 1)) = .bad (p + (i + 1)) := by
  obtain ⟨pre, t, rest, s', e, a, n, f⟩ := read_bad h
  have z := lex_col cs 0 t p (by rw [e]; simp)
  have ht : t = .fin := by
    refine Classical.byContradiction fun c => ?_
    have := (z.2.2 c).1
    omega
  subst ht
  obtain ⟨h1, h2, h3⟩ := lex_fin e
  subst h1
  have e2 := lex_app (x := spaces (i + 1)) (stop32 (spaces i)).1 (stop32 (spaces i)).2 cs 0 pre _ e
  have e3 := lex_spaces (i + 1) [] (0 + cs.length)
  rw [List.append_nil, lex_nil] at e3
  rw [e3] at e2
  rw [read_of e2 a, bad_at n f, show 0 + cs.length + (i + 1) + 1 = p + (i + 1) by omega]
/-- T8 -/
theorem bad_sign {cs : L} {p : Nat} (h : read cs = .bad p) (hp : p ≤ cs.length) : ∃ d, cs[p - 1]? = some d ∧ d ≠ 32 := by
  obtain ⟨pre, t, rest, s', e, a, n, f⟩ := read_bad h
  have z := lex_col cs 0 t p (by rw [e]; simp)
  by_cases ht : t = .fin
  · subst ht
    have := (lex_fin e).2.1
    omega
  · obtain ⟨_, d, h5, h6⟩ := z.2.2 ht
    exact ⟨d, by rw [Nat.sub_zero] at h5; exact h5, h6⟩
theorem bad_more {cs : L} {p : Nat} (h : read cs = .bad p) (hp : p ≤ cs.length) (x : L) : read (cs ++ 32 :: x) = .bad p := by
  obtain ⟨pre, t, rest, s', e, a, n, f⟩ := read_bad h
  by_cases ht : t = .fin
  · subst ht
    have := (lex_fin e).2.1
    omega
  · obtain ⟨r, e2⟩ := lex_more x cs 0 pre t p rest ht e
    rw [read_of e2 a]
    exact bad_at n f
theorem bad_cut {cs : L} {p : Nat} (h : read cs = .bad p) : (∃ k, read (cs.take (p - 1)) = .ok k) ∨ read (cs.take (p - 1)) = .bad p := by
  obtain ⟨pre, t, rest, s', e, a, n, f⟩ := read_bad h
  have e2 := lex_cut cs 0 pre t p rest e
  rw [Nat.sub_zero] at e2
  rw [read_of e2 a, go_fin]
  cases final s' with
  | none => exact .inr rfl
  | some k => exact .inl ⟨k, rfl⟩
end Wm
end PartWm4
section PartWm5
set_option autoImplicit false
set_option linter.all false
namespace Wm
/-! ### the tokens of a condition -/
def joinC : List (List Tk) → List Tk
  | [] => []
  | [x] => x
  | x :: y :: r => x ++ .mark 44 :: joinC (y :: r)
def flatC (l : List (List Tk)) : List Tk := (l.map (· ++ [.mark 44])).flatten
theorem joinC_snoc (x : List Tk) : ∀ l, joinC (l ++ [x]) = flatC l ++ x
  | [] => rfl
  | [y] => by
    show y ++ .mark 44 :: x = (y ++ [.mark 44]) ++ [] ++ x
    simp
  | y :: z :: r => by
    have ih := joinC_snoc x (z :: r)
    show y ++ .mark 44 :: joinC (z :: (r ++ [x])) = (y ++ [.mark 44]) ++ flatC (z :: r) ++ x
    rw [show z :: (r ++ [x]) = (z :: r) ++ [x] from rfl, ih]
    simp
theorem flatC_snoc (x : List Tk) (l : List (List Tk)) : flatC (l ++ [x]) = flatC l ++ (x ++ [.mark 44]) := by
  unfold flatC
  rw [List.map_append, List.flatten_append]
  simp
def toksT : Trm → List Tk
  | .nm w => [.name w] | .fld w => [.word w] | .part w i => [.word w, .mark 46, .int i]
def nameL (w : L) : List Tk := [.name w]
def toksG : Tgt → List Tk
  | .set w => [.word w] | .names ws => .mark 123 :: (joinC (ws.map nameL) ++ [.mark 125])
def numT (x : L) : List Tk := if x = [] then [.int 0] else [.word x]
def tmplT (ts : List Trm) : List Tk := (ts.map fun t => .mark 47 :: toksT t).flatten
def pathT (ts : List Trm) : List Tk := if ts = [] then [.mark 47] else tmplT ts
def hdS : Smp → Hd
  | .is _ _ => .is | .inn _ _ => .inn | .mem _ _ => .mem | .within _ _ => .within | .most _ _ _ => .most | .path u _ _ => .path u | _ => .not
/-- what stands in the parentheses -/
def toksB : Smp → List Tk
  | .is t u => toksT t ++ .mark 44 :: toksT u
  | .inn t s => toksT t ++ [.mark 44, .word s]
  | .mem t s => toksT t ++ [.mark 44, .word s]
  | .within s g => .word s :: .mark 44 :: toksG g
  | .most x y c => numT x ++ .mark 44 :: (numT y ++ [.mark 44, .int c])
  | .path _ p ts => .word p :: .mark 44 :: pathT ts
  | _ => []
def toksS : Smp → List Tk
  | .tt => [.word wYes] | .ff => [.word wNo]
  | s => .word (hdW (hdS s)) :: .mark 40 :: (toksB s ++ [.mark 41])
mutual
def toksC : Cnd → List Tk
  | .smp s => toksS s
  | .not c => .word wNot :: .mark 40 :: (toksC c ++ [.mark 41])
  | .many a cs => .word (hdW (.many a)) :: .mark 40 :: (joinC (toksCs cs) ++ [.mark 41])
def toksCs : List Cnd → List (List Tk)
  | [] => []
  | c :: cs => toksC c :: toksCs cs
end
theorem toksCs_map : ∀ cs, toksCs cs = cs.map toksC
  | [] => rfl
  | c :: cs => by rw [toksCs, toksCs_map cs, List.map_cons]
/-! ### the tokens of a state -/
def toksFr : List Fr → List Tk
  | [] => []
  | .notF :: S => toksFr S ++ [.word wNot, .mark 40]
  | .manyF a acc :: S => toksFr S ++ .word (hdW (.many a)) :: .mark 40 :: flatC (acc.map toksC)
def hp (h : Hd) : List Tk := [.word (hdW h), .mark 40]
def toksTC : TC → List Tk
  | .is1 => hp .is | .is2 t => hp .is ++ (toksT t ++ [.mark 44]) | .in1 => hp .inn | .mem1 => hp .mem
  | .tmp u p ts => hp (.path u) ++ .word p :: .mark 44 :: (tmplT ts ++ [.mark 47])
def toksWC : WC → List Tk
  | .wit1 => hp .within | .pth1 u => hp (.path u) | .in2 t => hp .inn ++ (toksT t ++ [.mark 44]) | .mem2 t => hp .mem ++ (toksT t ++ [.mark 44])
def toksCC : CC → List Tk
  | .is t => hp .is ++ toksT t | .inn t => hp .inn ++ toksT t | .mem t => hp .mem ++ toksT t | .wit s => hp .within ++ [.word s] | .pth u p => hp (.path u) ++ [.word p]
  | .most1 x => hp .most ++ numT x | .most2 x y => hp .most ++ (numT x ++ .mark 44 :: numT y)
def toksNC : NC → List Tk
  | .x => hp .most | .y x => hp .most ++ (numT x ++ [.mark 44])
def toksM : Md → List Tk
  | .cond => [] | .condOr => [] | .opn h => [.word (hdW h)] | .done c => toksC c | .close s => hp (hdS s) ++ toksB s
  | .term k => toksTC k | .fend k w => toksTC k ++ [.word w] | .idx k w => toksTC k ++ [.word w, .mark 46] | .wrd k => toksWC k | .com k => toksCC k
  | .tm0 u p => hp (.path u) ++ [.word p, .mark 44] | .tm1 u p => hp (.path u) ++ [.word p, .mark 44, .mark 47] | .tmE u p ts => hp (.path u) ++ .word p :: .mark 44 :: tmplT ts
  | .tgt s => hp .within ++ [.word s, .mark 44] | .br0 s => hp .within ++ [.word s, .mark 44, .mark 123]
  | .brN s ws => hp .within ++ .word s :: .mark 44 :: .mark 123 :: flatC (ws.map nameL)
  | .brE s ws => hp .within ++ .word s :: .mark 44 :: .mark 123 :: joinC (ws.map nameL)
  | .num k => toksNC k | .int3 x y => hp .most ++ (numT x ++ .mark 44 :: (numT y ++ [.mark 44]))
/-- what holds of every state that is reached -/
def Shp : Md → List Fr → Prop
  | .condOr, S => ∃ a S', S = .manyF a [] :: S'
  | .brE _ ws, _ => ws ≠ [] | .tmE _ _ ts, _ => ts ≠ [] | .close .tt, _ => False | .close .ff, _ => False
  | _, _ => True
def tk (s : St) : List Tk := toksFr s.2 ++ toksM s.1
theorem tmplT_snoc (ts : List Trm) (t : Trm) : tmplT (ts ++ [t]) = tmplT ts ++ .mark 47 :: toksT t := by
  unfold tmplT
  rw [List.map_append, List.flatten_append]
  simp
theorem endT_tk (k : TC) (t : Trm) : toksM (endT k t) = toksTC k ++ toksT t := by
  cases k <;> simp [endT, toksM, toksTC, toksCC, hp, hdS, toksB, tmplT_snoc]
theorem afterC_tk (k : CC) : toksM (afterC k) = toksCC k ++ [.mark 44] := by
  cases k <;> simp [afterC, toksM, toksTC, toksCC, toksWC, toksNC, hp]
theorem afterW_tk (k : WC) (w : L) : toksM (afterW k w) = toksWC k ++ [.word w] := by
  cases k <;> simp [afterW, toksM, toksTC, toksCC, toksWC, hp, hdS, toksB]
theorem afterN_tk (k : NC) (x : L) : toksM (afterN k x) = toksNC k ++ numT x := by
  cases k <;> simp [afterN, toksM, toksCC, toksNC, hp]
theorem headOf_some {w : L} {r : Smp ⊕ Hd} (h : headOf w = some r) : (r = .inl .tt ∧ w = wYes) ∨ (r = .inl .ff ∧ w = wNo) ∨ (∃ d, r = .inr d ∧ w = hdW d) := by
  unfold headOf at h
  by_cases e : w = wYes
  · rw [if_pos e] at h
    cases h
    exact .inl ⟨rfl, e⟩
  rw [if_neg e] at h
  clear e
  by_cases e : w = wNo
  · rw [if_pos e] at h
    cases h
    exact .inr (.inl ⟨rfl, e⟩)
  rw [if_neg e] at h
  clear e
  by_cases e : w = wIs
  · rw [if_pos e] at h
    cases h
    exact .inr (.inr ⟨.is, rfl, e⟩)
  rw [if_neg e] at h
  clear e
  by_cases e : w = wIn
  · rw [if_pos e] at h
    cases h
    exact .inr (.inr ⟨.inn, rfl, e⟩)
  rw [if_neg e] at h
  clear e
  by_cases e : w = wWithin
  · rw [if_pos e] at h
    cases h
    exact .inr (.inr ⟨.within, rfl, e⟩)
  rw [if_neg e] at h
  clear e
  by_cases e : w = wMost
  · rw [if_pos e] at h
    cases h
    exact .inr (.inr ⟨.most, rfl, e⟩)
  rw [if_neg e] at h
  clear e
  by_cases e : w = wMember
  · rw [if_pos e] at h
    cases h
    exact .inr (.inr ⟨.mem, rfl, e⟩)
  rw [if_neg e] at h
  clear e
  by_cases e : w = wUnder
  · rw [if_pos e] at h
    cases h
    exact .inr (.inr ⟨(.path true), rfl, e⟩)
  rw [if_neg e] at h
  clear e
  by_cases e : w = wAt
  · rw [if_pos e] at h
    cases h
    exact .inr (.inr ⟨(.path false), rfl, e⟩)
  rw [if_neg e] at h
  clear e
  by_cases e : w = wNot
  · rw [if_pos e] at h
    cases h
    exact .inr (.inr ⟨.not, rfl, e⟩)
  rw [if_neg e] at h
  clear e
  by_cases e : w = wAll
  · rw [if_pos e] at h
    cases h
    exact .inr (.inr ⟨(.many true), rfl, e⟩)
  rw [if_neg e] at h
  clear e
  by_cases e : w = wAny
  · rw [if_pos e] at h
    cases h
    exact .inr (.inr ⟨(.many false), rfl, e⟩)
  rw [if_neg e] at h
  clear e
  cases h
theorem pathT_ne {ts : List Trm} (h : ts ≠ []) : pathT ts = tmplT ts := if_neg h
theorem opened_tk (h : Hd) (S : List Fr) : tk (opened h S) = toksFr S ++ hp h := by
  cases h with
  | not => simp [opened, tk, toksFr, toksM, hp, hdW]
  | many a => simp [opened, tk, toksFr, toksM, hp, flatC]
  | _ => simp [opened, tk, toksM, toksTC, toksWC, toksNC]
theorem dTerm_tk {k : TC} {S : List Fr} {t : Tk} {s' : St} (h : dTerm k S t = some s') : tk s' = toksFr S ++ (toksTC k ++ [t]) ∧ Shp s'.1 s'.2 := by
  cases t with
  | name w =>
    simp only [dTerm] at h
    split at h
    · cases h
      refine ⟨?_, by cases k <;> simp [endT, Shp]⟩
      show toksFr S ++ toksM (endT k (.nm w)) = _
      rw [endT_tk] <;> rfl
    · cases h
  | word w =>
    cases h
    exact ⟨rfl, trivial⟩
  | _ => cases h
theorem dCond_tk {S : List Fr} {t : Tk} {s' : St} (h : dCond S t = some s') : tk s' = toksFr S ++ [t] ∧ Shp s'.1 s'.2 := by
  cases t with
  | word w =>
    simp only [dCond] at h
    split at h
    · cases e : headOf w with
      | none => rw [e] at h; cases h
      | some r =>
        rw [e] at h
        rcases headOf_some e with ⟨e1, e2⟩ | ⟨e1, e2⟩ | ⟨d, e1, e2⟩ <;> subst e1 <;> cases h
        · exact ⟨by rw [e2] <;> rfl, trivial⟩
        · exact ⟨by rw [e2] <;> rfl, trivial⟩
        · exact ⟨by rw [e2] <;> rfl, trivial⟩
    · cases h
  | _ => cases h
theorem dName_tk {s : L} {ws : List L} {S : List Fr} {t : Tk} {s' : St} (h : dName s ws S t = some s') : tk s' = toksFr S ++ (hp .within ++ .word s :: .mark 44 :: .mark 123 :: (flatC (ws.map nameL) ++ [t])) ∧ Shp s'.1 s'.2 := by
  cases t with
  | name w =>
    simp only [dName] at h
    split at h
    · cases h
      refine ⟨?_, by simp [Shp]⟩
      show toksFr S ++ (hp .within ++ .word s :: .mark 44 :: .mark 123 :: joinC ((ws ++ [w]).map nameL)) = _
      rw [List.map_append, List.map_cons, List.map_nil, joinC_snoc] <;> rfl
    · cases h
  | _ => cases h
theorem step0_tk {m : Md} {S : List Fr} {t : Tk} {s' : St} (hw : WF t) (hs : Shp m S) (h : step0 m S t = some s') : tk s' = toksFr S ++ (toksM m ++ [t]) ∧ Shp s'.1 s'.2 := by
  cases m with
  | cond => exact dCond_tk h
  | condOr =>
    simp only [step0] at h
    split at h
    · rename_i e
      subst e
      obtain ⟨a, S', e⟩ := hs
      subst e
      cases h
      exact ⟨by simp [tk, toksFr, toksM, toksC, toksCs, joinC, flatC], trivial⟩
    · exact dCond_tk h
  | opn d =>
    simp only [step0] at h
    split at h
    · rename_i e
      subst e
      cases h
      refine ⟨by rw [opened_tk] <;> rfl, ?_⟩
      cases d with
      | many a => exact ⟨a, S, rfl⟩
      | _ => simp [opened, Shp]
    · cases h
  | done c =>
    cases S with
    | nil => cases h
    | cons f S =>
      cases f with
      | notF =>
        simp only [step0] at h
        split at h
        · rename_i e
          subst e
          cases h
          exact ⟨by simp [tk, toksFr, toksM, toksC], trivial⟩
        · cases h
      | manyF a acc =>
        simp only [step0] at h
        split at h
        · rename_i e
          subst e
          cases h
          refine ⟨?_, trivial⟩
          simp [tk, toksFr, toksM, toksC, toksCs_map, joinC_snoc]
        · split at h
          · rename_i e
            subst e
            cases h
            refine ⟨?_, trivial⟩
            simp [tk, toksFr, toksM, flatC_snoc]
          · cases h
  | close s =>
    simp only [step0] at h
    split at h
    · rename_i e
      subst e
      cases h
      refine ⟨?_, trivial⟩
      cases s with
      | tt => exact hs.elim
      | ff => exact hs.elim
      | _ => simp [tk, toksM, toksC, toksS, hp, hdS]
    · cases h
  | term k => exact dTerm_tk h
  | fend k w => cases h
  | idx k w =>
    cases t with
    | int n =>
      simp only [step0] at h
      split at h
      · rename_i hn
        cases h
        refine ⟨?_, by cases k <;> simp [endT, Shp]⟩
        show toksFr S ++ toksM (endT k (.part w n.toNat)) = _
        rw [endT_tk]
        have e : ((n.toNat : Nat) : Int) = n := Int.toNat_of_nonneg hn.1
        simp [toksM, toksT, e]
      · cases h
    | _ => cases h
  | wrd k =>
    cases t with
    | word w =>
      cases h
      refine ⟨?_, by cases k <;> simp [afterW, Shp]⟩
      show toksFr S ++ toksM (afterW k w) = _
      rw [afterW_tk] <;> rfl
    | _ => cases h
  | com k =>
    simp only [step0] at h
    split at h
    · rename_i e
      subst e
      cases h
      refine ⟨?_, by cases k <;> simp [afterC, Shp]⟩
      show toksFr S ++ toksM (afterC k) = _
      rw [afterC_tk] <;> rfl
    · cases h
  | tm0 u p =>
    simp only [step0] at h
    split at h
    · rename_i e
      subst e
      cases h
      exact ⟨by simp [tk, toksM], trivial⟩
    · cases h
  | tm1 u p =>
    simp only [step0] at h
    split at h
    · rename_i e
      subst e
      cases h
      exact ⟨by simp [tk, toksM, toksC, toksS, hp, hdS, toksB, pathT], trivial⟩
    · have z := dTerm_tk h
      exact ⟨by rw [z.1]; simp [toksM, toksTC, tmplT], z.2⟩
  | tmE u p ts =>
    simp only [step0] at h
    split at h
    · rename_i e
      subst e
      cases h
      refine ⟨?_, trivial⟩
      have e : pathT ts = tmplT ts := if_neg hs
      simp [tk, toksM, toksC, toksS, hp, hdS, toksB, e]
    · split at h
      · rename_i e
        obtain ⟨e, _⟩ := e
        subst e
        cases h
        exact ⟨by simp [tk, toksM, toksTC], trivial⟩
      · cases h
  | tgt s =>
    cases t with
    | word w =>
      cases h
      exact ⟨by simp [tk, toksM, hp, hdS, toksB, toksG], trivial⟩
    | mark c =>
      simp only [step0] at h
      split at h
      · rename_i e
        cases e
        cases h
        exact ⟨by simp [tk, toksM], trivial⟩
      · cases h
    | _ => simp [step0] at h
  | brN s ws =>
    have z := dName_tk h
    exact ⟨by rw [z.1]; simp [toksM], z.2⟩
  | brE s ws =>
    simp only [step0] at h
    split at h
    · rename_i e
      subst e
      cases h
      exact ⟨by simp [tk, toksM, hp, hdS, toksB, toksG], trivial⟩
    · split at h
      · rename_i e
        subst e
        cases h
        refine ⟨?_, trivial⟩
        have key : joinC (ws.map nameL) ++ [.mark 44] = flatC (ws.map nameL) := by
          obtain ⟨r, x, e⟩ : ∃ r x, ws = r ++ [x] := ⟨ws.dropLast, ws.getLast hs, (List.dropLast_concat_getLast hs).symm⟩
          rw [e, List.map_append, List.map_cons, List.map_nil, joinC_snoc, flatC_snoc, List.append_assoc]
        show toksFr S ++ (hp .within ++ .word s :: .mark 44 :: .mark 123 :: flatC (ws.map nameL)) = _
        rw [← key]
        simp [toksM]
      · cases h
  | br0 s =>
    simp only [step0] at h
    split at h
    · rename_i e
      subst e
      cases h
      exact ⟨by simp [tk, toksM, hp, hdS, toksB, toksG, joinC], trivial⟩
    · have z := dName_tk h
      exact ⟨by rw [z.1]; simp [toksM, flatC], z.2⟩
  | num k =>
    cases t with
    | word w =>
      cases h
      refine ⟨?_, by cases k <;> simp [afterN, Shp]⟩
      show toksFr S ++ toksM (afterN k w) = _
      have e : numT w = [.word w] := if_neg hw.1
      rw [afterN_tk, e] <;> rfl
    | int n =>
      simp only [step0] at h
      split at h
      · rename_i hn
        cases h
        refine ⟨?_, by cases k <;> simp [afterN, Shp]⟩
        show toksFr S ++ toksM (afterN k []) = _
        rw [afterN_tk, hn] <;> rfl
      · cases h
    | _ => cases h
  | int3 x y =>
    cases t with
    | int n =>
      cases h
      exact ⟨by simp [tk, toksM, hp, hdS, toksB], trivial⟩
    | _ => cases h
theorem step_tk {s : St} {t : Tk} {s' : St} (hw : WF t) (hs : Shp s.1 s.2) (h : step s t = some s') : tk s' = tk s ++ [t] ∧ Shp s'.1 s'.2 := by
  obtain ⟨m, S⟩ := s
  cases m with
  | fend k w =>
    simp only [step] at h
    split at h
    · rename_i e
      subst e
      cases h
      exact ⟨by simp [tk, toksM], trivial⟩
    · have z := step0_tk hw (by cases k <;> simp [endT, Shp]) h
      refine ⟨?_, z.2⟩
      rw [z.1, endT_tk]
      simp [tk, toksM, toksT]
  | _ =>
    have z := step0_tk hw hs h
    refine ⟨?_, z.2⟩
    rw [z.1]
    simp [tk]
theorem adv_tk : ∀ (ts : List Tk) (s s' : St), (∀ t ∈ ts, WF t) → Shp s.1 s.2 → adv s ts = some s' → tk s' = tk s ++ ts ∧ Shp s'.1 s'.2
  | [], s, s', _, hs, h => by cases h; exact ⟨(List.append_nil _).symm, hs⟩
  | t :: ts, s, s', hw, hs, h => by
    have h' : (match step s t with | some s' => adv s' ts | none => none) = some s' := h
    cases e : step s t with
    | none => rw [e] at h'; cases h'
    | some s1 =>
      rw [e] at h'
      have z := step_tk (hw t List.mem_cons_self) hs e
      have q := adv_tk ts s1 s' (fun u hu => hw u (List.mem_cons_of_mem _ hu)) z.2 h'
      exact ⟨by rw [q.1, z.1, List.append_assoc] <;> rfl, q.2⟩
/-- the tokens that were read are the condition's own -/
theorem read_toks {k : Cnd} {ts : List Tk} (hw : ∀ t ∈ ts, WF t) (h : adv st0 ts = some (.done k, [])) : ts = toksC k := by
  have z := (adv_tk ts st0 _ hw trivial h).1
  have e : tk st0 ++ ts = ts := rfl
  rw [e] at z
  rw [← z] <;> rfl
end Wm
end PartWm5
section PartWm6
set_option autoImplicit false
set_option linter.all false
namespace Wm
/-! ### the written form -/
def sepT (t : Tk) : L := if t = .mark 44 then [44, 32] else tkText t
def sep (ts : List Tk) : L := (ts.map sepT).flatten
theorem sep_app (a b : List Tk) : sep (a ++ b) = sep a ++ sep b := by unfold sep; rw [List.map_append, List.flatten_append]
theorem sep_cons (t : Tk) (b : List Tk) : sep (t :: b) = sepT t ++ sep b := rfl
theorem flat_cons (t : Tk) (b : List Tk) : flat (t :: b) = tkText t ++ flat b := rfl
theorem flat_app (a b : List Tk) : flat (a ++ b) = flat a ++ flat b := by unfold flat; rw [List.map_append, List.flatten_append]
theorem sep_nosp : ∀ ts : List Tk, (∀ t ∈ ts, WF t) → nosp (sep ts) = flat ts
  | [], _ => rfl
  | t :: ts, h => by
    rw [sep_cons, flat_cons, nosp_app, sep_nosp ts fun u hu => h u (List.mem_cons_of_mem _ hu)]
    have z := WF.nosp (h t List.mem_cons_self)
    by_cases e : t = .mark 44
    · subst e; rfl
    · rw [show sepT t = tkText t from if_neg e, z]
/-- t and u may stand side by side -/
def Sep : Tk → Tk → Prop
  | .word _, .word _ => False
  | .int _, .int _ => False
  | _, _ => True
theorem text_head {t : Tk} (h : WF t) : ∃ c r, tkText t = c :: r ∧ c ≠ 32 ∧ ((∃ w, t = .word w) ∨ isLet c = false) ∧ ((∃ n, t = .int n) ∨ isDig c = false) := by
  cases t with
  | word w =>
    obtain ⟨hn, ha⟩ := h
    cases w with
    | nil => exact absurd rfl hn
    | cons c r =>
      rw [List.all_cons, Bool.and_eq_true] at ha
      have hl := isLet_iff.mp ha.1
      refine ⟨c, r, rfl, by omega, .inl ⟨_, rfl⟩, .inr ?_⟩
      cases e : isDig c with
      | false => rfl
      | true => have := isDig_iff.mp e; omega
  | name w => exact ⟨34, w ++ [34], rfl, by decide, .inr rfl, .inr rfl⟩
  | int n =>
    obtain ⟨neg, ds, hn, ha, e⟩ := h
    have z := numAt_text ha hn
    cases neg with
    | true => exact ⟨45, ds, e, by decide, .inr rfl, .inl ⟨_, rfl⟩⟩
    | false =>
      cases ds with
      | nil => exact absurd rfl z.2.1
      | cons c r =>
        rw [List.all_cons, Bool.and_eq_true] at ha
        have hd := isDig_iff.mp ha.1
        refine ⟨c, r, e, by omega, .inr ?_, .inl ⟨_, rfl⟩⟩
        cases e : isLet c with
        | false => rfl
        | true => have := isLet_iff.mp e; omega
  | mark c =>
    have z := mark_not h
    exact ⟨c, [], rfl, z.2.2.2.2, .inr z.1, .inr z.2.1⟩
  | bad => exact h.elim
  | fin => exact h.elim
/-- a token's own text gives the token back -/
theorem tok_back {t : Tk} (h : WF t) (x : L) (hl : (∃ w, t = .word w) → Stop isLet x) (hd : (∃ n, t = .int n) → Stop isDig x) : ∃ c r, tkText t = c :: r ∧ c ≠ 32 ∧ tokAt c (r ++ x) = some (t, r.length) := by
  cases t with
  | word w =>
    obtain ⟨hn, ha⟩ := h
    cases w with
    | nil => exact absurd rfl hn
    | cons c r =>
      rw [List.all_cons, Bool.and_eq_true] at ha
      have hc := isLet_iff.mp ha.1
      refine ⟨c, r, rfl, by omega, ?_⟩
      have hm : ¬ isMark c = true := fun e => by have := (mark_not e).1; rw [ha.1] at this; cases this
      have hr := run_full (hl ⟨_, rfl⟩) ha.2
      have hr' : run isLet (r ++ x) = r.length := by unfold run; rw [hr]
      unfold tokAt
      rw [if_neg hm, if_pos ha.1, hr', List.take_left]
  | name w =>
    refine ⟨34, w ++ [34], rfl, by decide, ?_⟩
    have ha : w.all isLet = true := h
    have s34 : Stop isLet (34 :: x) := fun d r e => by cases e; rfl
    have hr := run_full s34 ha
    have e : w ++ [34] ++ x = w ++ 34 :: x := by rw [List.append_assoc] <;> rfl
    have hr' : run isLet (w ++ 34 :: x) = w.length := by unfold run; rw [hr]
    unfold tokAt
    rw [if_neg (by decide), if_neg (by decide), if_pos rfl, e, hr', List.getElem?_append_right (Nat.le_refl _), Nat.sub_self, List.take_left, List.length_append]
    rfl
  | int n =>
    obtain ⟨neg, ds, hn, ha, e⟩ := h
    have z := numAt_text ha hn
    have hs := hd ⟨_, rfl⟩
    cases neg with
    | true =>
      refine ⟨45, ds, e, by decide, ?_⟩
      have hr := run_full hs ha
      have hr' : run isDig (ds ++ x) = ds.length := by unfold run; rw [hr]
      unfold tokAt
      rw [if_neg (by decide), if_neg (by decide), if_neg (by decide), if_pos rfl, hr, hn, hr'] <;> rfl
    | false =>
      cases ds with
      | nil => exact absurd rfl z.2.1
      | cons c r =>
        have ha' := ha
        rw [List.all_cons, Bool.and_eq_true] at ha
        have hc := isDig_iff.mp ha.1
        refine ⟨c, r, e, by omega, ?_⟩
        have hm : ¬ isMark c = true := fun e => by have := (mark_not e).2.1; rw [ha.1] at this; cases this
        have hl' : ¬ isLet c = true := fun e => by have := isLet_iff.mp e; omega
        have hr := run_full hs ha'
        rw [List.cons_append] at hr
        have hr' : run isDig (c :: (r ++ x)) = r.length + 1 := by unfold run; rw [hr] <;> rfl
        unfold tokAt
        rw [if_neg hm, if_neg hl', if_neg (by omega), if_neg (by omega), hr, hn, hr'] <;> rfl
  | mark c =>
    have z := mark_not h
    refine ⟨c, [], rfl, z.2.2.2.2, ?_⟩
    unfold tokAt
    rw [if_pos (show isMark c = true from h)] <;> rfl
  | bad => exact h.elim
  | fin => exact h.elim
theorem sepT_head {t : Tk} (h : WF t) : ∃ r, sepT t = tkText t ++ r := by
  by_cases e : t = .mark 44
  · subst e; exact ⟨[32], rfl⟩
  · exact ⟨[], by rw [show sepT t = tkText t from if_neg e, List.append_nil]⟩
/-- no two neighbours melt -/
def Seps : List Tk → Prop
  | t :: u :: r => Sep t u ∧ Seps (u :: r)
  | _ => True
theorem lex_sep : ∀ (ts : List Tk) (p : Nat), (∀ t ∈ ts, WF t) → Seps ts → ∃ pre c, lex (sep ts) p = pre ++ [(.fin, c)] ∧ pre.map (·.1) = ts
  | [], p, _, _ => ⟨[], p + 1, lex_nil p, rfl⟩
  | t :: ts, p, hw, hs => by
    have ht := hw t List.mem_cons_self
    have hs' : Seps ts := by
      cases ts with
      | nil => trivial
      | cons u r => exact hs.2
    have stop : ∀ x, x = sep ts ∨ x = 32 :: sep ts → ((∃ w, t = .word w) → Stop isLet x) ∧ ((∃ n, t = .int n) → Stop isDig x) := by
      intro x hx
      rcases hx with rfl | rfl
      · cases ts with
        | nil => exact ⟨fun _ d r e => absurd e.symm (List.cons_ne_nil _ _), fun _ d r e => absurd e.symm (List.cons_ne_nil _ _)⟩
        | cons u r =>
          obtain ⟨c, q, e, hc, h1, h2⟩ := text_head (hw u (List.mem_cons_of_mem _ List.mem_cons_self))
          obtain ⟨z, ez⟩ := sepT_head (hw u (List.mem_cons_of_mem _ List.mem_cons_self))
          have es : sep (u :: r) = c :: (q ++ z ++ sep r) := by rw [sep_cons, ez, e] <;> simp
          refine ⟨fun ⟨w, ew⟩ d y ed => ?_, fun ⟨n, en⟩ d y ed => ?_⟩
          · rw [es] at ed
            cases ed
            rcases h1 with ⟨w', e'⟩ | h1
            · subst ew e'
              exact hs.1.elim
            · exact h1
          · rw [es] at ed
            cases ed
            rcases h2 with ⟨n', e'⟩ | h2
            · subst en e'
              exact hs.1.elim
            · exact h2
      · exact ⟨fun _ => (stop32 _).1, fun _ => (stop32 _).2⟩
    by_cases e : t = .mark 44
    · subst e
      obtain ⟨c, r, e1, h1, h2⟩ := tok_back ht (32 :: sep ts) (stop _ (.inr rfl)).1 (stop _ (.inr rfl)).2
      cases e1
      obtain ⟨pre, d, e3, e4⟩ := lex_sep ts (p + 1 + 0 + 1) (fun u hu => hw u (List.mem_cons_of_mem _ hu)) hs'
      refine ⟨(.mark 44, p + 1) :: pre, d, ?_, by rw [List.map_cons, e4]⟩
      show lex (44 :: ([] ++ 32 :: sep ts)) p = _
      rw [lex_tok h1 h2]
      show _ :: lex (32 :: sep ts) _ = _
      rw [lex_space]
      exact congrArg _ e3
    · obtain ⟨c, r, e1, h1, h2⟩ := tok_back ht (sep ts) (stop _ (.inl rfl)).1 (stop _ (.inl rfl)).2
      obtain ⟨pre, d, e3, e4⟩ := lex_sep ts (p + 1 + r.length) (fun u hu => hw u (List.mem_cons_of_mem _ hu)) hs'
      refine ⟨(t, p + 1) :: pre, d, ?_, by rw [List.map_cons, e4]⟩
      rw [sep_cons, show sepT t = tkText t from if_neg e, e1, List.cons_append, lex_tok h1 h2, List.drop_left, e3] <;> rfl
/-! ### side by side in what is read -/
def noW (s : St) : Prop := ∀ w, step s (.word w) = none
def noI (s : St) : Prop := ∀ n, step s (.int n) = none
theorem dTerm_noI (k : TC) (S : List Fr) (n : Int) : dTerm k S (.int n) = none := rfl
theorem endT_no (k : TC) (t : Trm) (S : List Fr) : noW (endT k t, S) ∧ noI (endT k t, S) := by
  cases k <;> exact ⟨fun _ => rfl, fun _ => rfl⟩
theorem step_eq {m : Md} {S : List Fr} {t : Tk} (h : ∀ k w, m ≠ .fend k w) : step (m, S) t = step0 m S t := by
  cases m with
  | fend k w => exact absurd rfl (h k w)
  | _ => rfl
theorem step_fend {k : TC} {w : L} {S : List Fr} {t : Tk} (h : t ≠ .mark 46) : step (.fend k w, S) t = step0 (endT k (.fld w)) S t := if_neg h
theorem after_word {s : St} {w : L} {s' : St} (h : step s (.word w) = some s') : noW s' := by
  obtain ⟨m, S⟩ := s
  have key : ∀ m, step0 m S (.word w) = some s' → noW s' := by
    intro m h
    have term : ∀ k, dTerm k S (.word w) = some s' → noW s' := fun k h => by
      cases h
      intro v
      rw [step_fend (by simp)]
      cases k <;> rfl
    have cnd : dCond S (.word w) = some s' → noW s' := fun h => by
      simp only [dCond] at h
      split at h
      · split at h
        · cases h
          intro v
          cases S with
          | nil => rfl
          | cons f S => cases f <;> rfl
        · cases h
          intro v
          rfl
        · cases h
      · cases h
    cases m with
    | cond => exact cnd h
    | condOr => simp only [step0] at h; rw [if_neg (by simp)] at h; exact cnd h
    | done c =>
      cases S with
      | nil => cases h
      | cons f S => cases f <;> simp [step0] at h
    | term k => exact term k h
    | wrd k => cases h; cases k <;> exact fun _ => rfl
    | tm1 u p => simp only [step0] at h; rw [if_neg (by simp)] at h; exact term _ h
    | tgt s => cases h; exact fun _ => rfl
    | num k => cases h; cases k <;> exact fun _ => rfl
    | br0 s => simp [step0, dName] at h
    | brN s ws => simp [step0, dName] at h
    | _ => simp [step0] at h
  cases m with
  | fend k v =>
    simp only [step] at h
    rw [if_neg (by simp)] at h
    exact key _ h
  | _ =>
    rw [step_eq (fun k w e => by cases e)] at h
    exact key _ h
theorem after_int {s : St} {n : Int} {s' : St} (h : step s (.int n) = some s') : noI s' := by
  obtain ⟨m, S⟩ := s
  have key : ∀ m, step0 m S (.int n) = some s' → noI s' := by
    intro m h
    cases m with
    | cond => cases h
    | condOr => simp [step0, dCond] at h
    | done c =>
      cases S with
      | nil => cases h
      | cons f S => cases f <;> simp [step0] at h
    | term k => cases h
    | idx k w =>
      simp only [step0] at h
      split at h
      · cases h
        exact (endT_no _ _ _).2
      · cases h
    | wrd k => cases h
    | tm1 u p => simp [step0, dTerm] at h
    | tgt s => simp [step0] at h
    | num k =>
      simp only [step0] at h
      split at h
      · cases h
        cases k <;> exact fun _ => rfl
      · cases h
    | int3 x y => cases h; exact fun _ => rfl
    | br0 s => simp [step0, dName] at h
    | brN s ws => simp [step0, dName] at h
    | _ => simp [step0] at h
  cases m with
  | fend k v =>
    simp only [step] at h
    rw [if_neg (by simp)] at h
    exact key _ h
  | _ =>
    rw [step_eq (fun k w e => by cases e)] at h
    exact key _ h
theorem adv_seps : ∀ (ts : List Tk) (s s' : St), adv s ts = some s' → Seps ts
  | [], _, _, _ => trivial
  | [_], _, _, _ => trivial
  | t :: u :: r, s, s', h => by
    have h' : (match step s t with | some s1 => adv s1 (u :: r) | none => none) = some s' := h
    cases e : step s t with
    | none => rw [e] at h'; cases h'
    | some s1 =>
      rw [e] at h'
      refine ⟨?_, adv_seps (u :: r) s1 s' h'⟩
      have h2 : (match step s1 u with | some s2 => adv s2 r | none => none) = some s' := h'
      cases t with
      | word w =>
        cases u with
        | word v => rw [after_word e v] at h2; cases h2
        | _ => trivial
      | int n =>
        cases u with
        | int v => rw [after_int e v] at h2; cases h2
        | _ => trivial
      | _ => cases u <;> trivial
/-- T2, T3: the written form -/
def wr (k : Cnd) : L := sep (toksC k)
theorem read_written {cs : L} {k : Cnd} (h : read cs = .ok k) : nosp (wr k) = nosp cs ∧ read (wr k) = .ok k := by
  obtain ⟨pre, e, w, a⟩ := read_ok h
  have hw : ∀ t ∈ pre.map (·.1), WF t := fun t ht => by
    obtain ⟨x, hx, e⟩ := List.mem_map.mp ht
    rw [← e]
    exact w x hx
  have et := read_toks hw a
  refine ⟨?_, ?_⟩
  · rw [lex_nosp cs 0 pre _ e]
    unfold wr
    rw [← et, sep_nosp _ hw]
  · obtain ⟨pre2, c, e2, e3⟩ := lex_sep (pre.map (·.1)) 0 hw (adv_seps _ _ _ a)
    unfold wr
    rw [← et, read_of e2 (s' := (.done k, [])) (by rw [e3]; exact a), go_fin] <;> rfl
end Wm
end PartWm6
section PartWm7
set_option autoImplicit false
set_option linter.all false
namespace Wm
/-! ### what is read is valid -/
def wordOk (w : L) : Prop := w ≠ [] ∧ w.all isLet = true
def TrmOk : Trm → Prop
  | .nm w => w.all isLet = true | .fld w => wordOk w | .part w i => wordOk w ∧ i ≤ 40
def TgtOk : Tgt → Prop
  | .set w => wordOk w | .names ws => (∀ w ∈ ws, wordOk w) ∧ ws.Pairwise (· < ·)
def SmpOk : Smp → Prop
  | .tt => True | .ff => True
  | .is t u => TrmOk t ∧ TrmOk u | .inn t s => TrmOk t ∧ wordOk s | .mem t s => TrmOk t ∧ (∀ w, t ≠ .nm w) ∧ wordOk s
  | .within s g => wordOk s ∧ TgtOk g | .most x y _ => x.all isLet = true ∧ y.all isLet = true
  | .path _ p ts => wordOk p ∧ ts.length ≤ 40 ∧ ∀ t ∈ ts, TrmOk t ∧ t ≠ .nm []
inductive CndOk : Nat → Cnd → Prop where
  | smp {d : Nat} {s : Smp} (h : d ≤ 12) (hs : SmpOk s) : CndOk d (.smp s)
  | not {d : Nat} {c : Cnd} (h : d ≤ 12) (hc : CndOk (d + 1) c) : CndOk d (.not c)
  | many {d : Nat} {a : Bool} {cs : List Cnd} (h : d ≤ 12) (hc : ∀ c ∈ cs, CndOk (d + 1) c) : CndOk d (.many a cs)
def FrOk : List Fr → Prop
  | [] => True
  | .notF :: S => S.length + 1 ≤ 12 ∧ FrOk S
  | .manyF _ acc :: S => S.length + 1 ≤ 12 ∧ (∀ c ∈ acc, CndOk (S.length + 2) c) ∧ FrOk S
def TCOk : TC → Prop
  | .is1 => True | .is2 t => TrmOk t | .in1 => True | .mem1 => True
  | .tmp _ p ts => wordOk p ∧ ts.length < 40 ∧ ∀ t ∈ ts, TrmOk t ∧ t ≠ .nm []
def WCOk : WC → Prop
  | .wit1 => True | .pth1 _ => True | .in2 t => TrmOk t | .mem2 t => TrmOk t ∧ ∀ w, t ≠ .nm w
def CCOk : CC → Prop
  | .is t => TrmOk t | .inn t => TrmOk t | .mem t => TrmOk t ∧ ∀ w, t ≠ .nm w | .wit s => wordOk s | .pth _ p => wordOk p | .most1 x => x.all isLet = true | .most2 x y => x.all isLet = true ∧ y.all isLet = true
def NCOk : NC → Prop
  | .x => True | .y x => x.all isLet = true
def MdOk (d : Nat) : Md → Prop
  | .cond => True | .condOr => True | .opn _ => d ≤ 12 | .done c => CndOk d c
  | .close s => d ≤ 12 ∧ SmpOk s | .term k => d ≤ 12 ∧ TCOk k | .fend k w => d ≤ 12 ∧ TCOk k ∧ wordOk w | .idx k w => d ≤ 12 ∧ TCOk k ∧ wordOk w
  | .wrd k => d ≤ 12 ∧ WCOk k | .com k => d ≤ 12 ∧ CCOk k | .tm0 _ p => d ≤ 12 ∧ wordOk p | .tm1 _ p => d ≤ 12 ∧ wordOk p
  | .tmE _ p ts => d ≤ 12 ∧ wordOk p ∧ ts.length ≤ 40 ∧ ∀ t ∈ ts, TrmOk t ∧ t ≠ .nm []
  | .tgt s => d ≤ 12 ∧ wordOk s | .br0 s => d ≤ 12 ∧ wordOk s
  | .brN s ws => d ≤ 12 ∧ wordOk s ∧ TgtOk (.names ws) | .brE s ws => d ≤ 12 ∧ wordOk s ∧ TgtOk (.names ws)
  | .num k => d ≤ 12 ∧ NCOk k | .int3 x y => d ≤ 12 ∧ x.all isLet = true ∧ y.all isLet = true
def StOk (s : St) : Prop := MdOk (s.2.length + 1) s.1 ∧ FrOk s.2
theorem mem_snoc {α : Type} {P : α → Prop} {l : List α} {x : α} (h : ∀ y ∈ l, P y) (hx : P x) : ∀ y ∈ l ++ [x], P y := fun y hy => by
  rcases List.mem_append.mp hy with hy | hy
  · exact h y hy
  · rw [List.mem_singleton.mp hy]; exact hx
theorem endT_ok {d : Nat} {k : TC} {t : Trm} (hd : d ≤ 12) (hk : TCOk k) (ht : TrmOk t) (hm : k = .mem1 → ∀ w, t ≠ .nm w) (hp : ∀ u p ts, k = .tmp u p ts → t ≠ .nm []) : MdOk d (endT k t) := by
  cases k with
  | is1 => exact ⟨hd, ht⟩
  | is2 u => exact ⟨hd, hk, ht⟩
  | in1 => exact ⟨hd, ht⟩
  | mem1 => exact ⟨hd, ht, hm rfl⟩
  | tmp u p ts => exact ⟨hd, hk.1, by rw [List.length_append]; have := hk.2.1; show ts.length + 1 ≤ 40; omega, mem_snoc hk.2.2 ⟨ht, hp u p ts rfl⟩⟩
theorem dTerm_ok {k : TC} {S : List Fr} {t : Tk} {s' : St} (hw : WF t) (hd : S.length + 1 ≤ 12) (hk : TCOk k) (hS : FrOk S) (h : dTerm k S t = some s') : StOk s' := by
  cases t with
  | name w =>
    simp only [dTerm] at h
    split at h
    · rename_i hn
      cases h
      refine ⟨endT_ok hd hk hw (fun e => ?_) (fun u p ts e => ?_), hS⟩
      · subst e; simp [nameOk] at hn
      · subst e
        intro e
        have e' : w = [] := by injection e
        subst e'
        simp [nameOk] at hn
    · cases h
  | word w => cases h; exact ⟨⟨hd, hk, hw⟩, hS⟩
  | _ => cases h
theorem dCond_ok {S : List Fr} {t : Tk} {s' : St} (hS : FrOk S) (h : dCond S t = some s') : StOk s' := by
  cases t with
  | word w =>
    simp only [dCond] at h
    split at h
    · rename_i hd
      cases e : headOf w with
      | none => rw [e] at h; cases h
      | some r =>
        rw [e] at h
        rcases headOf_some e with ⟨e1, e2⟩ | ⟨e1, e2⟩ | ⟨d, e1, e2⟩ <;> subst e1 <;> cases h
        · exact ⟨.smp hd trivial, hS⟩
        · exact ⟨.smp hd trivial, hS⟩
        · exact ⟨hd, hS⟩
    · cases h
  | _ => cases h
theorem lastW_snoc (ws : List L) (w : L) : lastW (ws ++ [w]) = w := by simp [lastW]
theorem lt_trans' {a b c : L} (h1 : a < b) (h2 : b < c) : a < c := List.lt_trans h1 h2
theorem pair_snoc {ws : List L} {w : L} (h : ws.Pairwise (· < ·)) (hl : lastW ws < w) : (ws ++ [w]).Pairwise (· < ·) := by
  rw [List.pairwise_append]
  refine ⟨h, List.pairwise_singleton _ _, fun a ha b hb => ?_⟩
  rw [List.mem_singleton.mp hb]
  by_cases hn : ws = []
  · rw [hn] at ha; cases ha
  · have e := (List.dropLast_concat_getLast hn).symm
    have e2 : lastW ws = ws.getLast hn := by unfold lastW; rw [List.getLast?_eq_some_getLast hn] <;> rfl
    rw [e2] at hl
    rw [e] at ha h
    rcases List.mem_append.mp ha with ha | ha
    · exact lt_trans' ((List.pairwise_append.mp h).2.2 a ha _ (List.mem_singleton.mpr rfl)) hl
    · rw [List.mem_singleton.mp ha]; exact hl
theorem nil_lt_ne {a w : L} (h : a < w) : w ≠ [] := fun e => by
  subst e
  exact absurd h (List.not_lt_nil _)
theorem dName_ok {s : L} {ws : List L} {S : List Fr} {t : Tk} {s' : St} (hw : WF t) (hd : S.length + 1 ≤ 12) (hs : wordOk s) (hg : TgtOk (.names ws)) (hS : FrOk S) (h : dName s ws S t = some s') : StOk s' := by
  cases t with
  | name w =>
    simp only [dName] at h
    split at h
    · rename_i hl
      cases h
      exact ⟨⟨hd, hs, mem_snoc hg.1 ⟨nil_lt_ne hl, hw⟩, pair_snoc hg.2 hl⟩, hS⟩
    · cases h
  | _ => cases h
theorem step0_ok {m : Md} {S : List Fr} {t : Tk} {s' : St} (hw : WF t) (hs : StOk (m, S)) (h : step0 m S t = some s') : StOk s' := by
  obtain ⟨hm, hS⟩ := hs
  cases m with
  | cond => exact dCond_ok hS h
  | condOr =>
    simp only [step0] at h
    split at h
    · split at h
      · rename_i a acc S'
        cases h
        exact ⟨.many hS.1 hS.2.1, hS.2.2⟩
      · cases h
    · exact dCond_ok hS h
  | opn d =>
    simp only [step0] at h
    split at h
    · cases h
      have hd : S.length + 1 ≤ 12 := hm
      cases d with
      | not => exact ⟨trivial, hd, hS⟩
      | many a => exact ⟨trivial, hd, fun c hc => absurd hc List.not_mem_nil, hS⟩
      | is => exact ⟨⟨hd, trivial⟩, hS⟩
      | inn => exact ⟨⟨hd, trivial⟩, hS⟩
      | mem => exact ⟨⟨hd, trivial⟩, hS⟩
      | within => exact ⟨⟨hd, trivial⟩, hS⟩
      | most => exact ⟨⟨hd, trivial⟩, hS⟩
      | path u => exact ⟨⟨hd, trivial⟩, hS⟩
    · cases h
  | done c =>
    cases S with
    | nil => cases h
    | cons f S =>
      cases f with
      | notF =>
        simp only [step0] at h
        split at h
        · cases h
          exact ⟨.not hS.1 hm, hS.2⟩
        · cases h
      | manyF a acc =>
        simp only [step0] at h
        split at h
        · cases h
          exact ⟨.many hS.1 (mem_snoc hS.2.1 hm), hS.2.2⟩
        · split at h
          · cases h
            exact ⟨trivial, hS.1, mem_snoc hS.2.1 hm, hS.2.2⟩
          · cases h
  | close s =>
    simp only [step0] at h
    split at h
    · cases h
      exact ⟨.smp hm.1 hm.2, hS⟩
    · cases h
  | term k => exact dTerm_ok hw hm.1 hm.2 hS h
  | fend k w => cases h
  | idx k w =>
    cases t with
    | int n =>
      simp only [step0] at h
      split at h
      · rename_i hn
        cases h
        exact ⟨endT_ok hm.1 hm.2.1 ⟨hm.2.2, by omega⟩ (fun _ w e => by cases e) (fun _ _ _ _ e => by cases e), hS⟩
      · cases h
    | _ => cases h
  | wrd k =>
    cases t with
    | word w =>
      cases h
      refine ⟨?_, hS⟩
      cases k with
      | wit1 => exact ⟨hm.1, hw⟩
      | pth1 u => exact ⟨hm.1, hw⟩
      | in2 t => exact ⟨hm.1, hm.2, hw⟩
      | mem2 t => exact ⟨hm.1, hm.2.1, hm.2.2, hw⟩
    | _ => cases h
  | com k =>
    simp only [step0] at h
    split at h
    · cases h
      refine ⟨?_, hS⟩
      cases k <;> exact hm
    · cases h
  | tm0 u p =>
    simp only [step0] at h
    split at h
    · cases h; exact ⟨hm, hS⟩
    · cases h
  | tm1 u p =>
    simp only [step0] at h
    split at h
    · cases h
      exact ⟨.smp hm.1 ⟨hm.2, by simp, fun t ht => absurd ht List.not_mem_nil⟩, hS⟩
    · exact dTerm_ok (k := .tmp u p []) hw hm.1 ⟨hm.2, by simp, fun t ht => absurd ht List.not_mem_nil⟩ hS h
  | tmE u p ts =>
    simp only [step0] at h
    split at h
    · cases h
      exact ⟨.smp hm.1 hm.2, hS⟩
    · split at h
      · rename_i e
        cases h
        exact ⟨⟨hm.1, hm.2.1, e.2, hm.2.2.2⟩, hS⟩
      · cases h
  | tgt s =>
    cases t with
    | word w => cases h; exact ⟨⟨hm.1, hm.2, hw⟩, hS⟩
    | mark c =>
      simp only [step0] at h
      split at h
      · cases h; exact ⟨hm, hS⟩
      · cases h
    | _ => simp [step0] at h
  | brN s ws => exact dName_ok hw hm.1 hm.2.1 hm.2.2 hS h
  | brE s ws =>
    simp only [step0] at h
    split at h
    · cases h; exact ⟨⟨hm.1, hm.2.1, hm.2.2⟩, hS⟩
    · split at h
      · cases h; exact ⟨hm, hS⟩
      · cases h
  | br0 s =>
    simp only [step0] at h
    split at h
    · cases h
      exact ⟨⟨hm.1, hm.2, fun w hw => absurd hw List.not_mem_nil, List.Pairwise.nil⟩, hS⟩
    · exact dName_ok hw hm.1 hm.2 ⟨fun w hw => absurd hw List.not_mem_nil, List.Pairwise.nil⟩ hS h
  | num k =>
    have key : ∀ x : L, x.all isLet = true → MdOk (S.length + 1) (afterN k x) := fun x hx => by
      cases k with
      | x => exact ⟨hm.1, hx⟩
      | y v => exact ⟨hm.1, hm.2, hx⟩
    cases t with
    | word w => cases h; exact ⟨key w hw.2, hS⟩
    | int n =>
      simp only [step0] at h
      split at h
      · cases h; exact ⟨key [] rfl, hS⟩
      · cases h
    | _ => cases h
  | int3 x y =>
    cases t with
    | int n => cases h; exact ⟨⟨hm.1, hm.2.1, hm.2.2⟩, hS⟩
    | _ => cases h
theorem step_ok {s : St} {t : Tk} {s' : St} (hw : WF t) (hs : StOk s) (h : step s t = some s') : StOk s' := by
  obtain ⟨m, S⟩ := s
  cases m with
  | fend k w =>
    obtain ⟨hm, hS⟩ := hs
    simp only [step] at h
    split at h
    · cases h; exact ⟨hm, hS⟩
    · exact step0_ok hw ⟨endT_ok (t := .fld w) hm.1 hm.2.1 hm.2.2 (fun _ w e => by cases e) (fun _ _ _ _ e => by cases e), hS⟩ h
  | _ =>
    rw [step_eq (fun k w e => by cases e)] at h
    exact step0_ok hw hs h
theorem adv_ok : ∀ (ts : List Tk) (s s' : St), (∀ t ∈ ts, WF t) → StOk s → adv s ts = some s' → StOk s'
  | [], s, s', _, hs, h => by cases h; exact hs
  | t :: ts, s, s', hw, hs, h => by
    have h' : (match step s t with | some s' => adv s' ts | none => none) = some s' := h
    cases e : step s t with
    | none => rw [e] at h'; cases h'
    | some s1 =>
      rw [e] at h'
      exact adv_ok ts s1 s' (fun u hu => hw u (List.mem_cons_of_mem _ hu)) (step_ok (hw t List.mem_cons_self) hs e) h'
/-- T1 -/
theorem read_valid {cs : L} {k : Cnd} (h : read cs = .ok k) : CndOk 1 k ∧ flat (toksC k) = nosp cs ∧ ∀ t ∈ toksC k, WF t := by
  obtain ⟨pre, e, w, a⟩ := read_ok h
  have hw : ∀ t ∈ pre.map (·.1), WF t := fun t ht => by
    obtain ⟨x, hx, e⟩ := List.mem_map.mp ht
    rw [← e]
    exact w x hx
  have et := read_toks hw a
  refine ⟨(adv_ok _ st0 _ hw ⟨trivial, trivial⟩ a).1, ?_, by rw [← et]; exact hw⟩
  rw [← et, lex_nosp cs 0 pre _ e]
end Wm
end PartWm7
section PartInf
set_option Elab.async false
set_option linter.all false
set_option maxRecDepth 100000
set_option maxHeartbeats 4000000
namespace Wk
open PySem PySem.Spec PyProof.Rows L2
def topS (i : Nat) : Stmt := PySem.Challenge.pw_whomaywhat_k18_whole_any_text.main.body.getD i (.Pass ⟨0, 0, 0, 0⟩)
/-! ### a def of the text, and what it promises -/
/-- the def of the name x stands in the module as the text says -/
def Df (K : PySem.W.Frag) (mg : Str → Option Value) (x : Str) (st : Stmt) (ps : List Str) : Prop := ∃ f fd, Fun K x x st f fd ∧ mg x = some (.ref f) ∧ Binds K fd ps []
/-- the name x holds a def that keeps the promise -/
def Cal (P : Program) (w : World) (K : PySem.W.Frag) (mg : Str → Option Value) (base : Heap) (CX : CXT) (k : Nat) (x : Str) (ps : List Str) (sp : Sp) : Prop :=
  ∃ f fd, FnOk P w K mg base CX k f fd ps sp ∧ mg x = some (.ref f) ∧ PySem.W.keepIn K (.ref f) = true ∧ Binds K fd ps []
section
variable {P : Program} {w : World} {K : PySem.W.Frag} {mg : Str → Option Value} {base : Heap}
theorem Cal.mono {CX : CXT} {j k : Nat} {x : Str} {ps : List Str} {sp : Sp} (C : Cal P w K mg base CX j x ps sp) (h : j ≤ k) : Cal P w K mg base CX k x ps sp := by
  obtain ⟨f, fd, F, r⟩ := C
  exact ⟨f, fd, F.mono h, r⟩
/-- a def that lets no error out -/
theorem Df.ok {x : Str} {st : Stmt} {N ps : List Str} {k : Nat} {sp : Sp} (D : Df K mg x st ps) (S : FnScope N ps (defScope st)) (len : ∀ vs H Q E, sp vs H Q E → vs.length = ps.length)
    (hbody : ∀ (f : Addr) (cdv : Value) (A : Around) (outer : List Env) (s : Shared) (H : Hp) (vs : List V) (Q : VK) (E : XK), Room k (A.deeper (envOfC x (defScope st) s.heap.objs.size f cdv)) → sp vs H Q E →
      ∃ t, PSs (cxOf CX0 P w K mg base N x (defScope st) f cdv A outer s H E).nox (defBody st) t ∧ t { nx := fun _ H' => Q .non H', rt := Q } (start N vs) H) : Cal P w K mg base CX0 (k + 1) x ps sp := by
  obtain ⟨f, fd, F, m, b⟩ := D
  exact ⟨f, fd, F.ok S len (hbody f), m, F.kp, b⟩
/-- a def that may raise -/
theorem Df.okN {x : Str} {st : Stmt} {N ps : List Str} {k : Nat} {sp : Sp} (D : Df K mg x st ps) (S : FnScope N ps (defScope st)) (len : ∀ vs H Q E, sp vs H Q E → vs.length = ps.length)
    (hbody : ∀ (f : Addr) (cdv : Value) (A : Around) (outer : List Env) (s : Shared) (H : Hp) (vs : List V) (Q : VK) (E : XK), Room k (A.deeper (envOfC x (defScope st) s.heap.objs.size f cdv)) → sp vs H Q E →
      ∃ t, PSs (cxOf (L2N.CX P w) P w K mg base N x (defScope st) f cdv A outer s H E) (defBody st) t ∧ t { nx := fun _ H' => Q .non H', rt := Q } (start N vs) H) : Cal P w K mg base (L2N.CX P w) (k + 1) x ps sp := by
  obtain ⟨f, fd, F, m, b⟩ := D
  obtain ⟨oc, od, kV, doc, pm, an, cdv, ct, osl, rfl, lk, hcd⟩ := F.ex
  exact ⟨f, _, fn_of lk hcd S len fun A outer s H vs Q E hr hsp => hbody f cdv A outer s H vs Q E hr hsp, m, F.kp, b⟩
end
section
variable {X : Cx} {CX : CXT} {k : Nat} {ps : List Str} {sp : Sp} {E : XK} {x : Str} {p pos : Pos} {e : Expr} {es : List Expr} {t : TA}
theorem pe_cal (C : Cal X.prog X.w X.K X.mg X.base CX k x ps sp) (hr : Room k X.A) (hx : Passes CX X E) (ha : PA X (e :: es) t) (hg : Gl X x := by rfl)
    (hdb : (x == ("__debug__" : Str)) = false := by decide) (he : starEach (e :: es) X.env = (false, eval e X.env) :: starEach es X.env := by rfl) (hpl : (backTo pos (starEach es X.env)).any (·.1) = false := by rfl) :
    PE X (.Call (.Name x p) (e :: es) [] pos) (tCall sp [] E t) := by
  obtain ⟨f, fd, F, m, kp, b⟩ := C
  exact pe_call F hr hg m kp b .nil hx ha hdb he hpl
/-- what a callee lets out leaves the def that calls -/
theorem passN (hs : X.stack = X.env :: X.outer) (hf : X.env.frame = some X.env.locals) (hex : X.ex = []) {E₁ : Value → Shared → Prop}
    (hx : X.xe = fun e s' => wpAny (model X.prog X.w) X.A (leaving X.env e) (fun _ s'' => L2N.CX X.prog X.w X.outer X.H_0 X.s_0 E e s'') E₁ s') : Passes (L2N.CX X.prog X.w) X E :=
  L2N.passes_call (L2N.takes_of hs hf hex hx) fun _ _ _ _ h => h
/-- a name of the module -/
def Gv (mg : Str → Option Value) (x : Str) (v : V) : Prop := ∃ u, mg x = some u ∧ RelV v u
theorem pe_gv {v : V} (h : Gv X.mg x v) (hg : Gl X x := by rfl) (hd : (x == ("__debug__" : Str)) = false := by decide) : PE X (.Name x pos) (tC v) := by
  obtain ⟨u, m, r⟩ := h
  exact pe_glob hg m r hd
end
/-! ### methods of an own class -/
def CalM (P : Program) (w : World) (K : PySem.W.Frag) (mg : Str → Option Value) (base : Heap) (CX : CXT) (k : Nat) (C : Addr) (m : Str) (ps : List Str) (sp : Sp) : Prop :=
  ∃ f fd, FnOk P w K mg base CX k f fd ps sp ∧ Meth K C m f ∧ Binds K fd ps []
/-- the def in the class -/
def DfM (K : PySem.W.Frag) (C : Addr) (m qual : Str) (st : Stmt) (ps : List Str) : Prop := ∃ f fd, Fun K m qual st f fd ∧ Meth K C m f ∧ Binds K fd ps []
section
variable {P : Program} {w : World} {K : PySem.W.Frag} {mg : Str → Option Value} {base : Heap} {C : Addr}
theorem DfM.ok {m qual : Str} {st : Stmt} {N ps : List Str} {k : Nat} {sp : Sp} (D : DfM K C m qual st ps) (S : FnScope N ps (defScope st)) (len : ∀ vs H Q E, sp vs H Q E → vs.length = ps.length)
    (hbody : ∀ (f : Addr) (cdv : Value) (A : Around) (outer : List Env) (s : Shared) (H : Hp) (vs : List V) (Q : VK) (E : XK), Room k (A.deeper (envOfC qual (defScope st) s.heap.objs.size f cdv)) → sp vs H Q E →
      ∃ t, PSs (cxOf CX0 P w K mg base N qual (defScope st) f cdv A outer s H E).nox (defBody st) t ∧ t { nx := fun _ H' => Q .non H', rt := Q } (start N vs) H) : CalM P w K mg base CX0 (k + 1) C m ps sp := by
  obtain ⟨f, fd, F, m, b⟩ := D
  exact ⟨f, fd, F.ok S len (hbody f), m, b⟩
theorem DfM.okN {m qual : Str} {st : Stmt} {N ps : List Str} {k : Nat} {sp : Sp} (D : DfM K C m qual st ps) (S : FnScope N ps (defScope st)) (len : ∀ vs H Q E, sp vs H Q E → vs.length = ps.length)
    (hbody : ∀ (f : Addr) (cdv : Value) (A : Around) (outer : List Env) (s : Shared) (H : Hp) (vs : List V) (Q : VK) (E : XK), Room k (A.deeper (envOfC qual (defScope st) s.heap.objs.size f cdv)) → sp vs H Q E →
      ∃ t, PSs (cxOf (L2N.CX P w) P w K mg base N qual (defScope st) f cdv A outer s H E) (defBody st) t ∧ t { nx := fun _ H' => Q .non H', rt := Q } (start N vs) H) : CalM P w K mg base (L2N.CX P w) (k + 1) C m ps sp := by
  obtain ⟨f, fd, F, m, b⟩ := D
  obtain ⟨oc, od, kV, doc, pm, an, cdv, ct, osl, rfl, lk, hcd⟩ := F.ex
  exact ⟨f, _, fn_of lk hcd S len fun A outer s H vs Q E hr hsp => hbody f cdv A outer s H vs Q E hr hsp, m, b⟩
end
section
variable {X : Cx} {CX : CXT} {k : Nat} {ps : List Str} {sp : Sp} {E : XK} {m : Str} {p pos apos : Pos} {e o : Expr} {es : List Expr} {ta : TE} {t : TA} {C : Addr}
theorem pe_calM {pl : Sem Bool} (he : PE X o ta) (c : Cls X.K C) (M : CalM X.prog X.w X.K X.mg X.base CX k C m ps sp) (hr : Room k X.A) (hx : Passes CX X E) (ha : PA X (e :: es) t)
    (hst : starEach (e :: es) X.env = (false, eval e X.env) :: starEach es X.env := by rfl) (hpl : (backTo pos (starEach es X.env)).any (·.1) = false := by rfl)
    (ht : eval (.Call (.Attribute o m apos) (e :: es) [] pos) X.env = (do
      let ov ← eval o X.env
      standAt apos.atName
      let (f, first) ← holding [ov] (getMethod ov m pl)
      callWith pos f first (backTo pos (starEach (e :: es) X.env)) (backToKw pos (keywordEach [] X.env))) := by rfl) :
    PE X (.Call (.Attribute o m apos) (e :: es) [] pos) (tMeth C m sp [] E ta t) := by
  obtain ⟨f, fd, F, hm, b⟩ := M
  exact pe_meth he c hm F hr b .nil hx ha hst hpl ht
theorem pe_calM0 {pl : Sem Bool} (he : PE X o ta) (c : Cls X.K C) (M : CalM X.prog X.w X.K X.mg X.base CX k C m ps sp) (hr : Room k X.A) (hx : Passes CX X E)
    (ht : eval (.Call (.Attribute o m apos) [] [] pos) X.env = (do
      let ov ← eval o X.env
      standAt apos.atName
      let (f, first) ← holding [ov] (getMethod ov m pl)
      callWith pos f first (backTo pos (starEach [] X.env)) (backToKw pos (keywordEach [] X.env))) := by rfl) :
    PE X (.Call (.Attribute o m apos) [] [] pos) (tMeth C m sp [] E ta tNil) := by
  obtain ⟨f, fd, F, hm, b⟩ := M
  exact pe_meth0 he c hm F hr b .nil hx ht
end
/-! ### the module's names -/
def sL (l : List Nat) : Str := ⟨l.toArray⟩
theorem boot_int : bootBuiltins "int" = some (.type "int") := by decide +kernel
theorem boot_str : bootBuiltins "str" = some (.type "str") := by decide +kernel
theorem boot_list : bootBuiltins "list" = some (.type "list") := by decide +kernel
theorem boot_tuple : bootBuiltins "tuple" = some (.type "tuple") := by decide +kernel
theorem boot_bool : bootBuiltins "bool" = some (.type "bool") := by decide +kernel
theorem boot_set : bootBuiltins "set" = some (.type "set") := by decide +kernel
theorem boot_sorted : bootBuiltins "sorted" = some (.builtin "sorted") := by decide +kernel
theorem boot_isinstance : bootBuiltins "isinstance" = some (.builtin "isinstance") := by decide +kernel
theorem boot_abs : bootBuiltins "abs" = some (.builtin "abs") := by decide +kernel
def cLETTERS : Str := "abcdefghijklmnopqrstuvwxyz"
def cDIGITS : Str := "0123456789"
def cMARKS : Str := "(){},/."
def cHEADS : List V := [.str "yes", .str "no", .str "is", .str "in", .str "within", .str "most", .str "member", .str "under", .str "at", .str "not", .str "all", .str "any"]
structure Glob (K : PySem.W.Frag) (mg : Str → Option Value) : Prop where
  len : mg "len" = none
  range : mg "range" = none
  int : mg "int" = none
  str : mg "str" = none
  list : mg "list" = none
  tuple : mg "tuple" = none
  bool : mg "bool" = none
  set : mg "set" = none
  sorted : mg "sorted" = none
  isinstance : mg "isinstance" = none
  abs : mg "abs" = none
  LETTERS : Gv mg "LETTERS" (.str cLETTERS)
  DIGITS : Gv mg "DIGITS" (.str cDIGITS)
  MARKS : Gv mg "MARKS" (.str cMARKS)
  MOST_DEPTH : Gv mg "MOST_DEPTH" (.int 12)
  MOST_INDEX : Gv mg "MOST_INDEX" (.int 40)
  MOST_TERMS : Gv mg "MOST_TERMS" (.int 40)
  MOST_DIGITS : Gv mg "MOST_DIGITS" (.int 60)
  HEADS : ∃ a, Gv mg "HEADS" (.ref a) ∧ ∀ H : Hp, SqT K H a cHEADS
end Wk
end PartInf
section PartHlp
set_option Elab.async false
set_option linter.all false
set_option maxRecDepth 100000
set_option maxHeartbeats 4000000
namespace Wk
open PySem PySem.Spec PyProof.Rows L2
/-! ### texts as lists of signs -/
theorem tl_sL (l : List Nat) : (sL l).cps.toList = l := rfl
theorem len_sL (l : List Nat) : (sL l).length = l.length := rfl
theorem sL_tl (z : Str) : sL z.cps.toList = z := by
  obtain ⟨a⟩ := z
  rfl
theorem sL_inj {a b : List Nat} (h : sL a = sL b) : a = b := by
  have e := congrArg (fun z : Str => z.cps.toList) h
  exact e
theorem sL_app (a b : List Nat) : sL a ++ sL b = sL (a ++ b) := TL.ext_tl (by rw [TL.tl_append] <;> rfl)
theorem dec_sL (a b : List Nat) : decide (V.str (sL a) = V.str (sL b)) = decide (a = b) := by
  by_cases h : a = b
  · subst h; simp
  · have : ¬ V.str (sL a) = V.str (sL b) := fun e => h (sL_inj (V.str.inj e))
    rw [decide_eq_false h, decide_eq_false this]
theorem dec_int' (a b : Int) : decide (V.int a = V.int b) = decide (a = b) := by
  by_cases h : a = b
  · subst h; simp
  · have : ¬ V.int a = V.int b := fun e => h (V.int.inj e)
    rw [decide_eq_false h, decide_eq_false this]
theorem dec_str' (a b : Str) : decide (V.str a = V.str b) = decide (a = b) := by
  by_cases h : a = b
  · subst h; simp
  · have : ¬ V.str a = V.str b := fun e => h (V.str.inj e)
    rw [decide_eq_false h, decide_eq_false this]
theorem cut_nat {l : List Nat} {a b : Nat} (ha : a ≤ l.length) (hb : b ≤ l.length) : cutS (sL l) (some (a : Int)) (some (b : Int)) = sL ((l.drop a).take (b - a)) := by
  unfold cutS
  rw [HT.sIx_nat, HT.sIx_nat, len_sL, Nat.min_eq_left ha, Nat.min_eq_left hb] <;> rfl
/-- one sign, or none -/
theorem cut_one {l : List Nat} {a : Nat} (ha : a ≤ l.length) : cutS (sL l) (some (a : Int)) (some ((a : Int) + 1)) = sL (l[a]?.toList) := by
  rw [show ((a : Int) + 1) = ((a + 1 : Nat) : Int) by omega]
  unfold cutS
  rw [HT.sIx_nat, HT.sIx_nat, len_sL, Nat.min_eq_left ha]
  by_cases h : a < l.length
  · rw [Nat.min_eq_left (by omega : a + 1 ≤ l.length), show a + 1 - a = 1 by omega, tl_sL, List.getElem?_eq_getElem h, List.drop_eq_getElem_cons h] <;> rfl
  · rw [show l.length = a by omega, Nat.min_eq_right (by omega), Nat.sub_self, List.getElem?_eq_none (by omega)] <;> rfl
theorem mem_LETTERS (c : Nat) : decide (c ∈ cLETTERS.cps.toList) = Wm.isLet c := by
  have e : cLETTERS.cps.toList = [97, 98, 99, 100, 101, 102, 103, 104, 105, 106, 107, 108, 109, 110, 111, 112, 113, 114, 115, 116, 117, 118, 119, 120, 121, 122] := by decide +kernel
  rw [e]
  have h : c ∈ [97, 98, 99, 100, 101, 102, 103, 104, 105, 106, 107, 108, 109, 110, 111, 112, 113, 114, 115, 116, 117, 118, 119, 120, 121, 122] ↔ 97 ≤ c ∧ c ≤ 122 := by
    simp only [List.mem_cons, List.not_mem_nil, or_false]
    omega
  refine (show _ = decide (97 ≤ c ∧ c ≤ 122) from decide_eq_decide.mpr h).trans ?_
  unfold Wm.isLet
  by_cases h1 : 97 ≤ c <;> by_cases h2 : c ≤ 122 <;> simp [h1, h2]
theorem mem_DIGITS (c : Nat) : decide (c ∈ cDIGITS.cps.toList) = Wm.isDig c := by
  have e : cDIGITS.cps.toList = [48, 49, 50, 51, 52, 53, 54, 55, 56, 57] := by decide +kernel
  rw [e]
  have h : c ∈ [48, 49, 50, 51, 52, 53, 54, 55, 56, 57] ↔ 48 ≤ c ∧ c ≤ 57 := by
    simp only [List.mem_cons, List.not_mem_nil, or_false]
    omega
  refine (show _ = decide (48 ≤ c ∧ c ≤ 57) from decide_eq_decide.mpr h).trans ?_
  unfold Wm.isDig
  by_cases h1 : 48 ≤ c <;> by_cases h2 : c ≤ 57 <;> simp [h1, h2]
theorem mem_MARKS (c : Nat) : decide (c ∈ cMARKS.cps.toList) = Wm.isMark c := by
  have e : cMARKS.cps.toList = Wm.marks := by decide +kernel
  rw [e]
  unfold Wm.isMark
  rw [List.contains_eq_mem] <;> rfl
theorem run_LETTERS (l : List Nat) : Wm.run (fun c => decide (c ∈ cLETTERS.cps.toList)) l = Wm.run Wm.isLet l := by
  rw [show (fun c => decide (c ∈ cLETTERS.cps.toList)) = Wm.isLet from funext mem_LETTERS]
theorem run_DIGITS (l : List Nat) : Wm.run (fun c => decide (c ∈ cDIGITS.cps.toList)) l = Wm.run Wm.isDig l := by
  rw [show (fun c => decide (c ∈ cDIGITS.cps.toList)) = Wm.isDig from funext mem_DIGITS]
/-! ### tokens in the heap -/
def sWord : Str := "word"
def sName : Str := "name"
def sInteger : Str := "integer"
def sBad : Str := "bad"
def sEnd : Str := "end"
def kindS : Wm.Tk → Str
  | .word _ => "word" | .name _ => "name" | .int _ => "integer" | .mark c => sL [c] | .bad => "bad" | .fin => "end"
def valV : Wm.Tk → V
  | .word w => .str (sL w) | .name w => .str (sL w) | .int n => .int n | _ => .str ""
def tokV (x : Wm.Tk × Nat) : List V := [.str (kindS x.1), valV x.1, .int (x.2 : Int)]
def ToksAt (H : Hp) : List Addr → List (Wm.Tk × Nat) → Prop
  | [], [] => True
  | a :: as, x :: xs => H a = some (.tup (tokV x)) ∧ ToksAt H as xs
  | _, _ => False
def Tups (H H' : Hp) : Prop := ∀ a xs, H a = some (.tup xs) → H' a = some (.tup xs)
theorem Tups.refl (H : Hp) : Tups H H := fun _ _ h => h
theorem Tups.trans {H H1 H2 : Hp} (a : Tups H H1) (b : Tups H1 H2) : Tups H H2 := fun c xs h => b c xs (a c xs h)
theorem Tups.new {H : Hp} {p : Addr} {o : HO} (h : H p = none) : Tups H (upd H p o) := fun a xs e => by rw [upd_ne (ne_of_none e h)]; exact e
theorem Tups.put {H : Hp} {p : Addr} {o o' : HO} (h : H p = some o') (d : ∀ xs, o' ≠ .tup xs) : Tups H (upd H p o) := fun a xs e => by
  rw [upd_ne (fun z => by subst z; rw [h] at e; exact d _ (Option.some.inj e))]
  exact e
theorem Same.tups {H H' : Hp} (s : Same H H') : Tups H H' := fun a xs h => s a _ h
theorem Same.new {H : Hp} {p : Addr} {o : HO} (h : H p = none) : Same H (upd H p o) := fun a u e => by rw [upd_ne (ne_of_none e h)]; exact e
theorem ToksAt.keep {H H' : Hp} (s : Tups H H') : ∀ {as : List Addr} {xs : List (Wm.Tk × Nat)}, ToksAt H as xs → ToksAt H' as xs
  | [], [], _ => trivial
  | a :: as, x :: xs, h => ⟨s _ _ h.1, ToksAt.keep s h.2⟩
  | [], _ :: _, h => h.elim
  | _ :: _, [], h => h.elim
theorem ToksAt.snoc {H : Hp} {a : Addr} {x : Wm.Tk × Nat} (h : H a = some (.tup (tokV x))) : ∀ {as : List Addr} {xs : List (Wm.Tk × Nat)}, ToksAt H as xs → ToksAt H (as ++ [a]) (xs ++ [x])
  | [], [], _ => ⟨h, trivial⟩
  | b :: as, y :: xs, k => ⟨k.1, ToksAt.snoc h k.2⟩
  | [], _ :: _, h => h.elim
  | _ :: _, [], h => h.elim
theorem ToksAt.len {H : Hp} : ∀ {as : List Addr} {xs : List (Wm.Tk × Nat)}, ToksAt H as xs → as.length = xs.length
  | [], [], _ => rfl
  | b :: as, y :: xs, k => by rw [List.length_cons, List.length_cons, ToksAt.len k.2]
  | [], _ :: _, h => h.elim
  | _ :: _, [], h => h.elim
theorem ToksAt.get {H : Hp} : ∀ {as : List Addr} {xs : List (Wm.Tk × Nat)} {i : Nat} {x : Wm.Tk × Nat}, ToksAt H as xs → xs[i]? = some x → ∃ a, as[i]? = some a ∧ H a = some (.tup (tokV x))
  | a :: as, y :: xs, 0, x, h, e => by
    have e' : y = x := by simpa using e
    subst e'
    exact ⟨a, rfl, h.1⟩
  | a :: as, y :: xs, i + 1, x, h, e => by
    obtain ⟨b, h1, h2⟩ := ToksAt.get (i := i) (x := x) h.2 (by simpa using e)
    exact ⟨b, by simpa using h1, h2⟩
  | [], [], _, _, _, e => by simp at e
  | [], _ :: _, _, _, h, _ => h.elim
  | _ :: _, [], _, _, h, _ => h.elim
end Wk
end PartHlp
section PartRun
set_option Elab.async false
set_option linter.all false
set_option maxRecDepth 100000
set_option maxHeartbeats 4000000
namespace Wk
open PySem PySem.Spec PyProof.Rows L2
section
variable {P : Program} {w : World} {K : PySem.W.Frag} {mg : Str → Option Value} {base : Heap}
abbrev s_run_end : Stmt := topS 24
abbrev N_run_end : List Str := ["text", "start", "allowed", "end"]
theorem sc_run_end : FnScope N_run_end ["text", "start", "allowed"] (defScope s_run_end) := ⟨rfl, rfl, rfl, by decide +kernel, rfl, by decide +kernel, by decide +kernel⟩
def sp_run_end : Sp := fun vs H Q _ => ∃ (z a : Str) (i : Nat), vs = [.str z, .int i, .str a] ∧ z.length ≤ sizeLine ∧ i ≤ z.length ∧ Q (.int ((i + Wm.run (fun c => decide (c ∈ a.cps.toList)) (z.cps.toList.drop i) : Nat) : Int)) H
theorem ok_run_end (G : Glob K mg) (D : Df K mg "run_end" s_run_end ["text", "start", "allowed"]) : Cal P w K mg base CX0 1 "run_end" ["text", "start", "allowed"] sp_run_end := by
  refine D.ok sc_run_end (fun vs H Q E h => ?_) (fun f cdv A outer s H vs Q E hr h => ?_)
  · obtain ⟨z, a, i, rfl, _⟩ := h
    rfl
  obtain ⟨z, a, i, rfl, hz, hi, q⟩ := h
  refine ⟨_, (pss_cons (ps_set (i := 3) sc_run_end.nd rfl (Or.inl rfl) (pv 1))
    (pss_cons (ps_while PassesOwn.never (PW.pt (pw_and (pt_cmpR op_lt (pv 3) (pe_callB call_len_str rfl G.len PySem.boot_len (pa_cons (pv 0) pa_nil)) (nomark _)) (pw_and1 (pt_cmpR op_in_sign (pe_ix ix_str (pv 0) (pv 3) (fun _ _ => rfl)) (pv 2) rfl))))
      (pss_one (ps_aug (i := 3) sc_run_end.nd rfl (Or.inl rfl) pe_int ip_add)))
    (pss_one (ps_ret (pv 3))))), ?_⟩
  have hp : ∀ c : Nat, (fun c => decide (c ∈ a.cps.toList)) c = decide (c ∈ a.cps.toList) := fun _ => rfl
  generalize hpp : (fun c => decide (c ∈ a.cps.toList)) = p at q hp
  have hlen : z.length = z.cps.toList.length := by simp [Str.length]
  refine ⟨_, rfl, ?_⟩
  refine ⟨fun m σ H' => ∃ j : Nat, m = z.length - (i + j) ∧ σ = [some (.str z), some (.int i), some (.str a), some (.int ((i + j : Nat) : Int))] ∧ H' = H ∧ i + j ≤ z.length ∧ Wm.run p (z.cps.toList.drop i) = j + Wm.run p (z.cps.toList.drop (i + j)),
    ⟨_, 0, rfl, rfl, rfl, hi, (Nat.zero_add _).symm⟩, ?_⟩
  rintro m σ H' ⟨j, rfl, rfl, rfl, hj, hr⟩
  refine ⟨_, rfl, _, rfl, _, rfl, hz, _, _, rfl, rfl, _, rfl, ?_⟩
  refine ite2 (fun c => ?_) (fun c => ?_)
  · have c' : i + j < z.length := by have := of_decide_eq_true c; omega
    have hg : i + j < z.cps.toList.length := by omega
    have hd := List.drop_eq_getElem_cons hg
    refine ⟨_, rfl, _, rfl, _, _, z.cps.toList[i + j], rfl, rfl, hz, atI_nat (List.getElem?_eq_getElem hg), _, rfl, _, _, rfl, rfl, _, rfl, ?_⟩
    rw [← hp]
    refine ite2 (fun e => ?_) (fun e => ?_)
    · refine ⟨fun σ' H'' => ∃ j' : Nat, j' = j + 1 ∧ σ' = [some (.str z), some (.int i), some (.str a), some (.int ((i + j' : Nat) : Int))] ∧ H'' = H' ∧ i + j' ≤ z.length ∧ Wm.run p (z.cps.toList.drop i) = j' + Wm.run p (z.cps.toList.drop (i + j')),
        fun σ' H'' ⟨j', e1, e2, e3, e4, e5⟩ => ⟨_, ?_, j', rfl, e2, e3, e4, e5⟩, ?_⟩
      · omega
      · refine ⟨_, rfl, _, _, rfl, rfl, j + 1, rfl, rfl, rfl, by omega, ?_⟩
        rw [hr, hd, Wm.run_cons, e]
        simp only [if_true]
        rw [Nat.add_assoc i j 1]
        omega
    · refine ⟨_, rfl, ?_⟩
      have e' : Wm.run p (z.cps.toList.drop (i + j)) = 0 := by rw [hd, Wm.run_cons, if_neg e]
      rw [hr, e'] at q
      exact q
  · have c' : ¬ (i + j < z.length) := fun c' => c (decide_eq_true (by omega))
    refine ⟨_, rfl, ?_⟩
    have e' : Wm.run p (z.cps.toList.drop (i + j)) = 0 := by
      rw [List.drop_eq_nil_of_le (by omega)] <;> rfl
    rw [hr, e'] at q
    exact q
end
end Wk
end PartRun
section PartTok
set_option Elab.async false
set_option linter.all false
set_option maxRecDepth 100000
set_option maxHeartbeats 4000000
namespace Wk
open PySem PySem.Spec PyProof.Rows L2
section
variable {P : Program} {w : World} {K : PySem.W.Frag} {mg : Str → Option Value} {base : Heap}
abbrev s_token_at : Stmt := topS 25
abbrev N_token_at : List Str := ["text", "start", "char", "first", "end", "leading"]
theorem sc_token_at : FnScope N_token_at ["text", "start"] (defScope s_token_at) := ⟨rfl, rfl, rfl, by decide +kernel, rfl, by decide +kernel, by decide +kernel⟩
/-- what token_at hands back: the token's kind and value, and where it ends -/
def tkA (i : Nat) : Option (Wm.Tk × Nat) → List V
  | none => [.str "bad", .str "", .int (i : Int)]
  | some (t, m) => [.str (kindS t), valV t, .int ((i + 1 + m : Nat) : Int)]
def sp_token_at : Sp := fun vs H Q _ => ∃ (cs : List Nat) (i c : Nat) (r : List Nat), vs = [.str (sL cs), .int i] ∧ cs.length ≤ sizeLine ∧ cs.drop i = c :: r ∧ ∀ p, H p = none → Q (.ref p) (upd H p (.tup (tkA i (Wm.tokAt c r))))
theorem drop_cons {cs r : List Nat} {i c : Nat} (h : cs.drop i = c :: r) : cs[i]? = some c ∧ cs.drop (i + 1) = r ∧ i < cs.length ∧ r.length = cs.length - (i + 1) := by
  have hi : i < cs.length := by
    refine Classical.byContradiction fun n => ?_
    rw [List.drop_eq_nil_of_le (by omega)] at h
    cases h
  have e := List.drop_eq_getElem_cons hi
  rw [h, List.cons.injEq] at e
  refine ⟨by rw [List.getElem?_eq_getElem hi, e.1], e.2.symm, hi, by rw [e.2, List.length_drop]⟩
theorem ok_token_at (G : Glob K mg) (D : Df K mg "token_at" s_token_at ["text", "start"]) (C_run_end : Cal P w K mg base CX0 1 "run_end" ["text", "start", "allowed"] sp_run_end) :
    Cal P w K mg base CX0 2 "token_at" ["text", "start"] sp_token_at := by
  refine D.ok sc_token_at (fun vs H Q E h => ?_) (fun f cdv A outer s H vs Q E hr h => ?_)
  · obtain ⟨cs, i, c, r, rfl, _⟩ := h
    rfl
  obtain ⟨cs, i, c, r, rfl, hz, hd, q⟩ := h
  refine ⟨_, (pss_cons (ps_set (i := 2) sc_token_at.nd rfl (Or.inl rfl) (pe_ix ix_str (pv 0) (pv 1) (fun _ _ => rfl)))
    (pss_cons (ps_if (pt_cmpR op_in_sign (pv 2) (pe_gv G.MARKS) rfl)
      (pss_one (ps_ret (pe_tup (pa_cons (pv 2) (pa_cons pe_str (pa_cons (pe_op op_add (pv 1) pe_int) pa_nil))))))
      pss_nil)
    (pss_cons (ps_if (pt_cmpR op_in_sign (pv 2) (pe_gv G.LETTERS) rfl)
      (pss_cons (ps_set (i := 4) sc_token_at.nd rfl (Or.inl rfl) (pe_cal C_run_end (hr.mono (by decide)) pass0 (pa_cons (pv 0) (pa_cons (pv 1) (pa_cons (pe_gv G.LETTERS) pa_nil)))))
      (pss_one (ps_ret (pe_tup (pa_cons pe_str (pa_cons (pe_slice sl_str (pv 0) (po_some (pv 1)) (po_some (pv 4))) (pa_cons (pv 4) pa_nil)))))))
      pss_nil)
    (pss_cons (ps_if (pt_cmpR op_eq (pv 2) pe_str (nomark _))
      (pss_cons (ps_set (i := 4) sc_token_at.nd rfl (Or.inl rfl) (pe_cal C_run_end (hr.mono (by decide)) pass0 (pa_cons (pv 0) (pa_cons (pe_op op_add (pv 1) pe_int) (pa_cons (pe_gv G.LETTERS) pa_nil)))))
      (pss_cons (ps_if (pt_cmpR op_eq (pe_slice sl_str (pv 0) (po_some (pv 4)) (po_some (pe_op op_add (pv 4) pe_int))) pe_str (nomark _))
        (pss_one (ps_ret (pe_tup (pa_cons pe_str (pa_cons (pe_slice sl_str (pv 0) (po_some (pe_op op_add (pv 1) pe_int)) (po_some (pv 4))) (pa_cons (pe_op op_add (pv 4) pe_int) pa_nil))))))
        pss_nil)
      (pss_one (ps_ret (pe_tup (pa_cons pe_str (pa_cons pe_str (pa_cons (pv 1) pa_nil))))))))
      pss_nil)
    (pss_cons (ps_set (i := 3) sc_token_at.nd rfl (Or.inl rfl) (pe_ifExp (pt_cmpR op_eq (pv 2) pe_str (nomark _)) (pe_op op_add (pv 1) pe_int) (pv 1)))
    (pss_cons (ps_set (i := 4) sc_token_at.nd rfl (Or.inl rfl) (pe_cal C_run_end (hr.mono (by decide)) pass0 (pa_cons (pv 0) (pa_cons (pv 3) (pa_cons (pe_gv G.DIGITS) pa_nil)))))
    (pss_cons (ps_set (i := 5) sc_token_at.nd rfl (Or.inl rfl) (pe_and (pe_cmpR op_eq (pe_slice sl_str (pv 0) (po_some (pv 3)) (po_some (pe_op op_add (pv 3) pe_int))) pe_str (nomark _)) (pe_one (pe_or (pe_cmpR op_gt (pe_op op_sub (pv 4) (pv 3)) pe_int (nomark _)) (pe_one (pe_cmpR op_eq (pv 2) pe_str (nomark _)))))))
    (pss_cons (ps_if (PW.pt (pw_or (pt_cmpR op_eq (pv 4) (pv 3) (nomark _)) (pw_or (pt_cmpR op_gt (pe_op op_sub (pv 4) (pv 3)) (pe_gv G.MOST_DIGITS) (nomark _)) (pw_or1 (pt_val (pv 5))))))
      (pss_one (ps_ret (pe_tup (pa_cons pe_str (pa_cons pe_str (pa_cons (pv 1) pa_nil))))))
      pss_nil)
    (pss_one (ps_ret (pe_tup (pa_cons pe_str (pa_cons (pe_callTy call_int_str rfl G.int boot_int (pa_cons (pe_slice sl_str (pv 0) (po_some (pv 1)) (po_some (pv 4))) pa_nil)) (pa_cons (pv 4) pa_nil)))))))))))))), ?_⟩
  obtain ⟨hg, hd1, hi, hrl⟩ := drop_cons hd
  have fits3 : ∀ {a b c : V}, ([a, b, c] : List V).length ≤ sizeLine := by intro a b c; show 3 ≤ sizeLine; decide
  -- char = text[start]
  refine ⟨_, rfl, _, rfl, sL cs, (i : Int), c, rfl, rfl, hz, atI_nat hg, ?_⟩
  -- if char in MARKS
  refine ⟨_, rfl, c, _, rfl, rfl, _, rfl, ?_⟩
  rw [mem_MARKS]
  refine ite2 (fun e1 => ?_) (fun e1 => ?_)
  · refine ⟨_, rfl, _, rfl, _, _, rfl, rfl, fits3, fun p hp => ?_⟩
    have z := q p hp
    rw [show Wm.tokAt c r = some (.mark c, 0) by unfold Wm.tokAt; rw [if_pos e1]] at z
    exact z
  have dec_sign : ∀ (c : Nat) {t : Str} {d : Nat}, t = sL [d] → decide (V.str ⟨#[c]⟩ = V.str t) = decide (c = d) := fun c t d e => by
    subst e
    rw [show V.str ⟨#[c]⟩ = V.str (sL [c]) from rfl, dec_sL]
    refine decide_eq_decide.mpr ?_
    simp
  -- if char in LETTERS
  refine ⟨_, rfl, c, _, rfl, rfl, _, rfl, ?_⟩
  rw [mem_LETTERS]
  refine ite2 (fun e2 => ?_) (fun e2 => ?_)
  · have eL : Wm.run (fun c => decide (c ∈ cLETTERS.cps.toList)) ((sL cs).cps.toList.drop i) = Wm.run Wm.isLet r + 1 := by rw [run_LETTERS, tl_sL, hd, Wm.run_cons, if_pos e2]
    have hm := Wm.run_le Wm.isLet r
    refine ⟨_, rfl, _, rfl, sL cs, cLETTERS, i, rfl, hz, by rw [len_sL]; omega, ?_⟩
    rw [eL]
    refine ⟨_, rfl, _, rfl, _, rfl, _, rfl, _, rfl, sL cs, rfl, hz, _, rfl, fits3, fun p hp => ?_⟩
    have z := q p hp
    rw [show Wm.tokAt c r = some (.word (c :: r.take (Wm.run Wm.isLet r)), Wm.run Wm.isLet r) by unfold Wm.tokAt; rw [if_neg e1, if_pos e2]] at z
    rw [cut_nat (by omega) (by omega), hd, show i + (Wm.run Wm.isLet r + 1) - i = Wm.run Wm.isLet r + 1 by omega, List.take_succ_cons, show i + (Wm.run Wm.isLet r + 1) = i + 1 + Wm.run Wm.isLet r by omega]
    exact z
  -- if char == '"'
  refine ⟨_, rfl, rfl, _, rfl, ?_⟩
  rw [dec_sign c (d := 34) (by decide +kernel)]
  refine ite2 (fun e3 => ?_) (fun e3 => ?_)
  · have e3' : c = 34 := of_decide_eq_true e3
    have hm := Wm.run_le Wm.isLet r
    have eL : Wm.run (fun c => decide (c ∈ cLETTERS.cps.toList)) ((sL cs).cps.toList.drop (i + 1)) = Wm.run Wm.isLet r := by rw [run_LETTERS, tl_sL, hd1]
    refine ⟨_, rfl, _, rfl, _, _, rfl, rfl, sL cs, cLETTERS, i + 1, rfl, hz, by rw [len_sL]; omega, ?_⟩
    rw [eL]
    refine ⟨_, rfl, _, rfl, _, rfl, _, rfl, _, _, rfl, rfl, _, rfl, sL cs, rfl, hz, rfl, _, rfl, ?_⟩
    rw [cut_one (by omega), show (Str.ofString "\"" : Str) = sL [34] from by decide +kernel, dec_sL]
    have eq : cs[i + 1 + Wm.run Wm.isLet r]? = r[Wm.run Wm.isLet r]? := by rw [← hd1, List.getElem?_drop]
    rw [eq]
    refine ite2 (fun e4 => ?_) (fun e4 => ?_)
    · have e4' : r[Wm.run Wm.isLet r]? = some 34 := by
        have := of_decide_eq_true e4
        cases h : r[Wm.run Wm.isLet r]? with
        | none => rw [h] at this; cases this
        | some d => rw [h] at this; simpa using this
      refine ⟨_, rfl, _, rfl, _, _, rfl, rfl, _, rfl, _, rfl, _, rfl, sL cs, rfl, hz, _, rfl, _, _, rfl, rfl, fits3, fun p hp => ?_⟩
      have z := q p hp
      rw [show Wm.tokAt c r = some (.name (r.take (Wm.run Wm.isLet r)), Wm.run Wm.isLet r + 1) by unfold Wm.tokAt; rw [if_neg e1, if_neg e2, if_pos e3', if_pos e4']] at z
      have ec : cutS (sL cs) (some ((i : Int) + 1)) (some ((i + 1 + Wm.run Wm.isLet r : Nat) : Int)) = sL (r.take (Wm.run Wm.isLet r)) := by
        have := cut_nat (l := cs) (a := i + 1) (b := i + 1 + Wm.run Wm.isLet r) (by omega) (by omega)
        rw [hd1, Nat.add_sub_cancel_left] at this
        exact this
      rw [ec]
      exact z
    · have e4' : ¬ r[Wm.run Wm.isLet r]? = some 34 := fun h => e4 (by rw [h] <;> rfl)
      refine ⟨_, rfl, fits3, fun p hp => ?_⟩
      have z := q p hp
      rw [show Wm.tokAt c r = none by unfold Wm.tokAt; rw [if_neg e1, if_neg e2, if_pos e3', if_neg e4']] at z
      exact z
  have e3' : ¬ c = 34 := fun h => e3 (decide_eq_true h)
  have head48 : ∀ l : List Nat, l[0]?.toList = [48] ↔ (l.takeWhile Wm.isDig).head? = some 48 := fun l => by
    cases l with
    | nil => simp
    | cons x y =>
      rw [List.takeWhile_cons]
      cases h : Wm.isDig x with
      | true => simp
      | false =>
        simp
        intro e
        rw [e] at h
        exact absurd h (by decide)
  have nbl : ∀ {b : Bool} {l : List Nat}, Wm.numBad b l = false → l.length ≠ 0 ∧ l.length ≤ 60 := fun {b l} h => by
    unfold Wm.numBad at h
    simp only [Bool.or_eq_false_iff, decide_eq_false_iff_not] at h
    exact ⟨h.1.1, by have := h.1.2; omega⟩
  have digs : ∀ l : List Nat, PySem.NumText.AllDigits (l.takeWhile Wm.isDig) := fun l x hx => Wm.isDig_iff.mp (List.all_eq_true.mp (Wm.run_all Wm.isDig l) x hx)
  -- first = ..
  refine ⟨_, rfl, rfl, _, rfl, ?_⟩
  rw [dec_sign c (d := 45) (by decide +kernel)]
  refine ite2 (fun e5 => ?_) (fun e5 => ?_)
  · have e5' : c = 45 := of_decide_eq_true e5
    obtain ⟨ds, hds⟩ : ∃ ds, ds = r.takeWhile Wm.isDig := ⟨_, rfl⟩
    have hF : (cs.drop (i + 1)).takeWhile Wm.isDig = ds := by rw [hd1, hds]
    refine ⟨_, rfl, _, _, rfl, rfl, ?_⟩
    -- first, end
    refine ⟨_, rfl, _, rfl, sL cs, cDIGITS, (i + 1), rfl, hz, by rw [len_sL]; omega, ?_⟩
    have eD : Wm.run (fun c => decide (c ∈ cDIGITS.cps.toList)) ((sL cs).cps.toList.drop (i + 1)) = ds.length := by rw [run_DIGITS, tl_sL]; unfold Wm.run; rw [hF]
    rw [eD]
    have hdl : ds.length ≤ cs.length - (i + 1) := by
      have := Wm.run_le Wm.isDig (cs.drop (i + 1))
      rw [List.length_drop] at this
      have e : Wm.run Wm.isDig (cs.drop (i + 1)) = ds.length := by unfold Wm.run; rw [hF]
      omega
    have eC : cutS (sL cs) (some ((i : Int) + 1)) (some (((i : Int) + 1) + 1)) = sL (cs[(i + 1)]?.toList) := cut_one (a := (i + 1)) (by omega)
    have eH : decide (cs[(i + 1)]?.toList = [48]) = decide (ds.head? = some 48) := by
      refine decide_eq_decide.mpr ?_
      have eg : cs[(i + 1)]? = (cs.drop (i + 1))[0]? := by rw [List.getElem?_drop, Nat.add_zero]
      rw [eg, ← hF]
      exact head48 _
    have eS : decide ((1 : Int) < ((((i + 1) + ds.length : Nat) : Int) - ((i : Int) + 1))) = decide (1 < ds.length) := decide_eq_decide.mpr (by omega)
    have eB : decide ((60 : Int) < ((((i + 1) + ds.length : Nat) : Int) - ((i : Int) + 1))) = decide (60 < ds.length) := decide_eq_decide.mpr (by omega)
    have e0 : decide (V.int (((i + 1) + ds.length : Nat) : Int) = V.int ((i : Int) + 1)) = decide (ds.length = 0) := by
      rw [dec_int']
      exact decide_eq_decide.mpr (by omega)
    have eN : decide (V.str ⟨#[c]⟩ = V.str (Str.ofString "-")) = true := (dec_sign c (d := 45) (by decide +kernel)).trans (decide_eq_true e5')
    obtain ⟨ld, hld⟩ : ∃ ld, ld = (decide (ds.head? = some 48) && (decide (1 < ds.length) || true)) := ⟨_, rfl⟩
    have eNB : Wm.numBad true ds = (decide (ds.length = 0) || (decide (60 < ds.length) || ld)) := by
      unfold Wm.numBad
      rw [hld, Bool.or_assoc]
    have bad : Wm.numBad true ds = true → ∀ p, H p = none → Q (.ref p) (upd H p (.tup [.str (Str.ofString "bad"), .str (Str.ofString ""), .int (i : Int)])) := fun nb p hp => by
      have z := q p hp
      rw [show Wm.tokAt c r = none from by 
        unfold Wm.tokAt Wm.numAt
        rw [if_neg e1, if_neg e2, if_neg e3', if_pos e5', ← hds, nb] <;> rfl] at z
      exact z
    have ecut : cutS (sL cs) (some (i : Int)) (some ((i + 1 + ds.length : Nat) : Int)) = sL (45 :: ds) := by
      rw [cut_nat (by omega) (by omega), hd, show i + 1 + ds.length - i = ds.length + 1 by omega, List.take_succ_cons, e5', hds]
      have := Wm.take_run Wm.isDig r
      unfold Wm.run at this
      rw [this]
    have good1 : Wm.numBad true ds = false → PySem.intText? (cutS (sL cs) (some (i : Int)) (some ((i + 1 + ds.length : Nat) : Int))) = some (-(Wm.dval ds : Int)) := fun nb => by
      rw [ecut]
      have hb : ds.length ≠ 0 ∧ ds.length ≤ 60 := nbl nb
      exact PySem.intText_neg (x := sL (45 :: ds)) (cs := ds) rfl (by rw [hds]; exact digs r) (fun e => hb.1 (by rw [e]; rfl)) (by rw [len_sL, List.length_cons]; omega)
    have good2 : Wm.numBad true ds = false → (cutS (sL cs) (some (i : Int)) (some ((i + 1 + ds.length : Nat) : Int))).length ≤ 640 := fun nb => by
      have hb : ds.length ≠ 0 ∧ ds.length ≤ 60 := nbl nb
      rw [ecut, len_sL, List.length_cons]
      omega
    have good3 : Wm.numBad true ds = false → ∀ p, H p = none → Q (.ref p) (upd H p (.tup [.str (Str.ofString "integer"), .int (-(Wm.dval ds : Int)), .int ((i + 1 + ds.length : Nat) : Int)])) := fun nb p hp => by
      have z := q p hp
      rw [show Wm.tokAt c r = some (.int (-(Wm.dval ds : Int)), ds.length) from by
        unfold Wm.tokAt Wm.numAt
        rw [if_neg e1, if_neg e2, if_neg e3', if_pos e5', ← hds, nb]
        unfold Wm.run
        rw [← hds] <;> rfl] at z
      exact z
    -- leading
    refine ⟨_, rfl, _, rfl, _, rfl, _, rfl, _, _, rfl, rfl, _, rfl, sL cs, rfl, hz, rfl, _, rfl, ?_⟩
    rw [eC, show (Str.ofString "0" : Str) = sL [48] from by decide +kernel, dec_sL, eH]
    refine ite2 (fun e6 => ?_) (fun e6 => ?_)
    · refine ⟨_, rfl, _, rfl, _, _, rfl, rfl, _, _, rfl, rfl, _, rfl, ?_⟩
      rw [eS]
      refine ite2 (fun e7 => ?_) (fun e7 => ?_)
      · have hl : ld = true := by rw [hld, e6, e7] <;> rfl
        refine ⟨_, rfl, _, rfl, rfl, _, rfl, ?_⟩
        rw [e0]
        refine ite2 (fun z0 => ?_) (fun z0 => ?_)
        · refine iteT ?_
          refine ⟨_, rfl, fits3, fun p hp => ?_⟩
          exact bad (by rw [eNB, z0] <;> rfl) p hp
        refine ⟨_, rfl, _, rfl, _, _, rfl, rfl, _, _, rfl, rfl, _, rfl, ?_⟩
        rw [eB]
        refine ite2 (fun z1 => ?_) (fun z1 => ?_)
        · refine iteT ?_
          refine ⟨_, rfl, fits3, fun p hp => ?_⟩
          exact bad (by rw [eNB, z1, Bool.true_or, Bool.or_true]) p hp
        refine ⟨_, rfl, _, rfl, ?_⟩
        refine ite2 (fun z2 => ?_) (fun z2 => ?_)
        · refine ⟨_, rfl, fits3, fun p hp => ?_⟩
          exact bad (by rw [eNB, hl, z2, Bool.or_true, Bool.or_true]) p hp
        have nb : Wm.numBad true ds = false := by
          rw [eNB, hl, Bool.eq_false_iff.mpr z0, Bool.eq_false_iff.mpr z1, Bool.eq_false_iff.mpr z2] <;> rfl
        refine ⟨_, rfl, _, rfl, _, rfl, _, rfl, _, rfl, sL cs, rfl, hz, _, _, rfl, good1 nb, good2 nb, _, rfl, fits3, fun p hp => ?_⟩
        exact good3 nb p hp
      · refine ⟨_, rfl, rfl, ?_⟩
        rw [eN]
        have hl : ld = true := by rw [hld, e6, Bool.eq_false_iff.mpr e7] <;> rfl
        refine ⟨_, rfl, _, rfl, rfl, _, rfl, ?_⟩
        rw [e0]
        refine ite2 (fun z0 => ?_) (fun z0 => ?_)
        · refine iteT ?_
          refine ⟨_, rfl, fits3, fun p hp => ?_⟩
          exact bad (by rw [eNB, z0] <;> rfl) p hp
        refine ⟨_, rfl, _, rfl, _, _, rfl, rfl, _, _, rfl, rfl, _, rfl, ?_⟩
        rw [eB]
        refine ite2 (fun z1 => ?_) (fun z1 => ?_)
        · refine iteT ?_
          refine ⟨_, rfl, fits3, fun p hp => ?_⟩
          exact bad (by rw [eNB, z1, Bool.true_or, Bool.or_true]) p hp
        refine ⟨_, rfl, _, rfl, ?_⟩
        refine ite2 (fun z2 => ?_) (fun z2 => ?_)
        · refine ⟨_, rfl, fits3, fun p hp => ?_⟩
          exact bad (by rw [eNB, hl, z2, Bool.or_true, Bool.or_true]) p hp
        have nb : Wm.numBad true ds = false := by
          rw [eNB, hl, Bool.eq_false_iff.mpr z0, Bool.eq_false_iff.mpr z1, Bool.eq_false_iff.mpr z2] <;> rfl
        refine ⟨_, rfl, _, rfl, _, rfl, _, rfl, _, rfl, sL cs, rfl, hz, _, _, rfl, good1 nb, good2 nb, _, rfl, fits3, fun p hp => ?_⟩
        exact good3 nb p hp
    · have hl : ld = false := by rw [hld, Bool.eq_false_iff.mpr e6] <;> rfl
      refine ⟨_, rfl, _, rfl, rfl, _, rfl, ?_⟩
      rw [e0]
      refine ite2 (fun z0 => ?_) (fun z0 => ?_)
      · refine iteT ?_
        refine ⟨_, rfl, fits3, fun p hp => ?_⟩
        exact bad (by rw [eNB, z0] <;> rfl) p hp
      refine ⟨_, rfl, _, rfl, _, _, rfl, rfl, _, _, rfl, rfl, _, rfl, ?_⟩
      rw [eB]
      refine ite2 (fun z1 => ?_) (fun z1 => ?_)
      · refine iteT ?_
        refine ⟨_, rfl, fits3, fun p hp => ?_⟩
        exact bad (by rw [eNB, z1, Bool.true_or, Bool.or_true]) p hp
      refine ⟨_, rfl, _, rfl, ?_⟩
      refine ite2 (fun z2 => ?_) (fun z2 => ?_)
      · refine ⟨_, rfl, fits3, fun p hp => ?_⟩
        exact bad (by rw [eNB, hl, z2, Bool.or_true, Bool.or_true]) p hp
      have nb : Wm.numBad true ds = false := by
        rw [eNB, hl, Bool.eq_false_iff.mpr z0, Bool.eq_false_iff.mpr z1, Bool.eq_false_iff.mpr z2] <;> rfl
      refine ⟨_, rfl, _, rfl, _, rfl, _, rfl, _, rfl, sL cs, rfl, hz, _, _, rfl, good1 nb, good2 nb, _, rfl, fits3, fun p hp => ?_⟩
      exact good3 nb p hp
  · have e5' : ¬ c = 45 := fun h => e5 (decide_eq_true h)
    obtain ⟨ds, hds⟩ : ∃ ds, ds = (c :: r).takeWhile Wm.isDig := ⟨_, rfl⟩
    have hF : (cs.drop i).takeWhile Wm.isDig = ds := by rw [hd, hds]
    refine ⟨_, rfl, ?_⟩
    -- first, end
    refine ⟨_, rfl, _, rfl, sL cs, cDIGITS, i, rfl, hz, by rw [len_sL]; omega, ?_⟩
    have eD : Wm.run (fun c => decide (c ∈ cDIGITS.cps.toList)) ((sL cs).cps.toList.drop i) = ds.length := by rw [run_DIGITS, tl_sL]; unfold Wm.run; rw [hF]
    rw [eD]
    have hdl : ds.length ≤ cs.length - i := by
      have := Wm.run_le Wm.isDig (cs.drop i)
      rw [List.length_drop] at this
      have e : Wm.run Wm.isDig (cs.drop i) = ds.length := by unfold Wm.run; rw [hF]
      omega
    have eC : cutS (sL cs) (some (i : Int)) (some ((i : Int) + 1)) = sL (cs[i]?.toList) := cut_one (a := i) (by omega)
    have eH : decide (cs[i]?.toList = [48]) = decide (ds.head? = some 48) := by
      refine decide_eq_decide.mpr ?_
      have eg : cs[i]? = (cs.drop i)[0]? := by rw [List.getElem?_drop, Nat.add_zero]
      rw [eg, ← hF]
      exact head48 _
    have eS : decide ((1 : Int) < (((i + ds.length : Nat) : Int) - (i : Int))) = decide (1 < ds.length) := decide_eq_decide.mpr (by omega)
    have eB : decide ((60 : Int) < (((i + ds.length : Nat) : Int) - (i : Int))) = decide (60 < ds.length) := decide_eq_decide.mpr (by omega)
    have e0 : decide (V.int ((i + ds.length : Nat) : Int) = V.int (i : Int)) = decide (ds.length = 0) := by
      rw [dec_int']
      exact decide_eq_decide.mpr (by omega)
    have eN : decide (V.str ⟨#[c]⟩ = V.str (Str.ofString "-")) = false := (dec_sign c (d := 45) (by decide +kernel)).trans (decide_eq_false e5')
    obtain ⟨ld, hld⟩ : ∃ ld, ld = (decide (ds.head? = some 48) && (decide (1 < ds.length) || false)) := ⟨_, rfl⟩
    have eNB : Wm.numBad false ds = (decide (ds.length = 0) || (decide (60 < ds.length) || ld)) := by
      unfold Wm.numBad
      rw [hld, Bool.or_assoc]
    have bad : Wm.numBad false ds = true → ∀ p, H p = none → Q (.ref p) (upd H p (.tup [.str (Str.ofString "bad"), .str (Str.ofString ""), .int (i : Int)])) := fun nb p hp => by
      have z := q p hp
      rw [show Wm.tokAt c r = none from by 
        unfold Wm.tokAt Wm.numAt
        rw [if_neg e1, if_neg e2, if_neg e3', if_neg e5', ← hds, nb] <;> rfl] at z
      exact z
    have ecut : cutS (sL cs) (some (i : Int)) (some ((i + ds.length : Nat) : Int)) = sL ds := by
      rw [cut_nat (by omega) (by omega), hd, Nat.add_sub_cancel_left, hds]
      have := Wm.take_run Wm.isDig (c :: r)
      unfold Wm.run at this
      rw [this]
    have good1 : Wm.numBad false ds = false → PySem.intText? (cutS (sL cs) (some (i : Int)) (some ((i + ds.length : Nat) : Int))) = some (Wm.dval ds : Int) := fun nb => by
      rw [ecut]
      have hb : ds.length ≠ 0 ∧ ds.length ≤ 60 := nbl nb
      exact PySem.intText_digits (x := sL ds) (by rw [tl_sL, hds]; exact digs (c :: r)) (fun e => hb.1 (by rw [tl_sL] at e; rw [e]; rfl)) (by rw [len_sL]; omega)
    have good2 : Wm.numBad false ds = false → (cutS (sL cs) (some (i : Int)) (some ((i + ds.length : Nat) : Int))).length ≤ 640 := fun nb => by
      have hb : ds.length ≠ 0 ∧ ds.length ≤ 60 := nbl nb
      rw [ecut, len_sL]
      omega
    have good3 : Wm.numBad false ds = false → ∀ p, H p = none → Q (.ref p) (upd H p (.tup [.str (Str.ofString "integer"), .int (Wm.dval ds : Int), .int ((i + ds.length : Nat) : Int)])) := fun nb p hp => by
      have hb : ds.length ≠ 0 ∧ ds.length ≤ 60 := nbl nb
      have z := q p hp
      rw [show Wm.tokAt c r = some (.int (Wm.dval ds : Int), ds.length - 1) from by
        unfold Wm.tokAt Wm.numAt
        rw [if_neg e1, if_neg e2, if_neg e3', if_neg e5', ← hds, nb]
        unfold Wm.run
        rw [← hds] <;> rfl] at z
      have z' : Q (.ref p) (upd H p (.tup [.str (Str.ofString "integer"), .int (Wm.dval ds : Int), .int ((i + 1 + (ds.length - 1) : Nat) : Int)])) := z
      rw [show i + 1 + (ds.length - 1) = i + ds.length by omega] at z'
      exact z'
    -- leading
    refine ⟨_, rfl, _, rfl, _, rfl, _, rfl, _, _, rfl, rfl, _, rfl, sL cs, rfl, hz, rfl, _, rfl, ?_⟩
    rw [eC, show (Str.ofString "0" : Str) = sL [48] from by decide +kernel, dec_sL, eH]
    refine ite2 (fun e6 => ?_) (fun e6 => ?_)
    · refine ⟨_, rfl, _, rfl, _, _, rfl, rfl, _, _, rfl, rfl, _, rfl, ?_⟩
      rw [eS]
      refine ite2 (fun e7 => ?_) (fun e7 => ?_)
      · have hl : ld = true := by rw [hld, e6, e7] <;> rfl
        refine ⟨_, rfl, _, rfl, rfl, _, rfl, ?_⟩
        rw [e0]
        refine ite2 (fun z0 => ?_) (fun z0 => ?_)
        · refine iteT ?_
          refine ⟨_, rfl, fits3, fun p hp => ?_⟩
          exact bad (by rw [eNB, z0] <;> rfl) p hp
        refine ⟨_, rfl, _, rfl, _, _, rfl, rfl, _, _, rfl, rfl, _, rfl, ?_⟩
        rw [eB]
        refine ite2 (fun z1 => ?_) (fun z1 => ?_)
        · refine iteT ?_
          refine ⟨_, rfl, fits3, fun p hp => ?_⟩
          exact bad (by rw [eNB, z1, Bool.true_or, Bool.or_true]) p hp
        refine ⟨_, rfl, _, rfl, ?_⟩
        refine ite2 (fun z2 => ?_) (fun z2 => ?_)
        · refine ⟨_, rfl, fits3, fun p hp => ?_⟩
          exact bad (by rw [eNB, hl, z2, Bool.or_true, Bool.or_true]) p hp
        have nb : Wm.numBad false ds = false := by
          rw [eNB, hl, Bool.eq_false_iff.mpr z0, Bool.eq_false_iff.mpr z1, Bool.eq_false_iff.mpr z2] <;> rfl
        refine ⟨_, rfl, _, rfl, _, rfl, _, rfl, _, rfl, sL cs, rfl, hz, _, _, rfl, good1 nb, good2 nb, _, rfl, fits3, fun p hp => ?_⟩
        exact good3 nb p hp
      · refine ⟨_, rfl, rfl, ?_⟩
        rw [eN]
        have hl : ld = false := by rw [hld, e6, Bool.eq_false_iff.mpr e7] <;> rfl
        refine ⟨_, rfl, _, rfl, rfl, _, rfl, ?_⟩
        rw [e0]
        refine ite2 (fun z0 => ?_) (fun z0 => ?_)
        · refine iteT ?_
          refine ⟨_, rfl, fits3, fun p hp => ?_⟩
          exact bad (by rw [eNB, z0] <;> rfl) p hp
        refine ⟨_, rfl, _, rfl, _, _, rfl, rfl, _, _, rfl, rfl, _, rfl, ?_⟩
        rw [eB]
        refine ite2 (fun z1 => ?_) (fun z1 => ?_)
        · refine iteT ?_
          refine ⟨_, rfl, fits3, fun p hp => ?_⟩
          exact bad (by rw [eNB, z1, Bool.true_or, Bool.or_true]) p hp
        refine ⟨_, rfl, _, rfl, ?_⟩
        refine ite2 (fun z2 => ?_) (fun z2 => ?_)
        · refine ⟨_, rfl, fits3, fun p hp => ?_⟩
          exact bad (by rw [eNB, hl, z2, Bool.or_true, Bool.or_true]) p hp
        have nb : Wm.numBad false ds = false := by
          rw [eNB, hl, Bool.eq_false_iff.mpr z0, Bool.eq_false_iff.mpr z1, Bool.eq_false_iff.mpr z2] <;> rfl
        refine ⟨_, rfl, _, rfl, _, rfl, _, rfl, _, rfl, sL cs, rfl, hz, _, _, rfl, good1 nb, good2 nb, _, rfl, fits3, fun p hp => ?_⟩
        exact good3 nb p hp
    · have hl : ld = false := by rw [hld, Bool.eq_false_iff.mpr e6] <;> rfl
      refine ⟨_, rfl, _, rfl, rfl, _, rfl, ?_⟩
      rw [e0]
      refine ite2 (fun z0 => ?_) (fun z0 => ?_)
      · refine iteT ?_
        refine ⟨_, rfl, fits3, fun p hp => ?_⟩
        exact bad (by rw [eNB, z0] <;> rfl) p hp
      refine ⟨_, rfl, _, rfl, _, _, rfl, rfl, _, _, rfl, rfl, _, rfl, ?_⟩
      rw [eB]
      refine ite2 (fun z1 => ?_) (fun z1 => ?_)
      · refine iteT ?_
        refine ⟨_, rfl, fits3, fun p hp => ?_⟩
        exact bad (by rw [eNB, z1, Bool.true_or, Bool.or_true]) p hp
      refine ⟨_, rfl, _, rfl, ?_⟩
      refine ite2 (fun z2 => ?_) (fun z2 => ?_)
      · refine ⟨_, rfl, fits3, fun p hp => ?_⟩
        exact bad (by rw [eNB, hl, z2, Bool.or_true, Bool.or_true]) p hp
      have nb : Wm.numBad false ds = false := by
        rw [eNB, hl, Bool.eq_false_iff.mpr z0, Bool.eq_false_iff.mpr z1, Bool.eq_false_iff.mpr z2] <;> rfl
      refine ⟨_, rfl, _, rfl, _, rfl, _, rfl, _, rfl, sL cs, rfl, hz, _, _, rfl, good1 nb, good2 nb, _, rfl, fits3, fun p hp => ?_⟩
      exact good3 nb p hp
end
end Wk
end PartTok
section PartToks
set_option Elab.async false
set_option linter.all false
set_option maxRecDepth 100000
set_option maxHeartbeats 4000000
namespace Wk
open PySem PySem.Spec PyProof.Rows L2
theorem Same.put {H H' : Hp} {l : Addr} {o : HO} (s : Same H H') (hl : H l = none) : Same H (upd H' l o) := fun b u e => by
  rw [upd_ne (ne_of_none e hl)]
  exact s b u e
section
variable {P : Program} {w : World} {K : PySem.W.Frag} {mg : Str → Option Value} {base : Heap}
abbrev s_tokens_of : Stmt := topS 26
abbrev N_tokens_of : List Str := ["text", "tokens", "at", "kind", "value", "end"]
theorem sc_tokens_of : FnScope N_tokens_of ["text"] (defScope s_tokens_of) := ⟨rfl, rfl, rfl, by decide +kernel, rfl, by decide +kernel, by decide +kernel⟩
def sp_tokens_of : Sp := fun vs H Q _ => ∃ cs : List Nat, vs = [.str (sL cs)] ∧ cs.length + 2 ≤ sizeLine ∧
  ∀ (H' : Hp) (l : Addr) (refs : List Addr), Same H H' → H l = none → H' l = some (.lst (refs.map V.ref)) → ToksAt H' refs (Wm.lex cs 0) → Q (.ref l) H'
theorem kind_bad (t : Wm.Tk) (h : Wm.WF t) : decide (V.str (kindS t) = V.str (Str.ofString "bad")) = false := by
  rw [dec_str']
  refine decide_eq_false ?_
  cases t with
  | word w => show ¬ (Str.ofString "word" = Str.ofString "bad"); decide +kernel
  | name w => show ¬ (Str.ofString "name" = Str.ofString "bad"); decide +kernel
  | int n => show ¬ (Str.ofString "integer" = Str.ofString "bad"); decide +kernel
  | mark c =>
    intro e
    have e' : sL [c] = Str.ofString "bad" := e
    rw [show Str.ofString "bad" = sL [98, 97, 100] from by decide +kernel] at e'
    have := sL_inj e'
    simp at this
  | bad => exact h.elim
  | fin => exact h.elim
theorem ok_tokens_of (G : Glob K mg) (D : Df K mg "tokens_of" s_tokens_of ["text"]) (C_token_at : Cal P w K mg base CX0 2 "token_at" ["text", "start"] sp_token_at) :
    Cal P w K mg base CX0 3 "tokens_of" ["text"] sp_tokens_of := by
  refine D.ok sc_tokens_of (fun vs H Q E h => ?_) (fun f cdv A outer s H vs Q E hr h => ?_)
  · obtain ⟨cs, rfl, _⟩ := h
    rfl
  obtain ⟨cs, rfl, hz, q⟩ := h
  refine ⟨_, (pss_cons (ps_set (i := 1) sc_tokens_of.nd rfl (Or.inl rfl) (pe_lst pa_nil))
    (pss_cons (ps_set (i := 2) sc_tokens_of.nd rfl (Or.inl rfl) pe_int)
    (pss_cons (ps_while PassesOwn.never (pt_cmpR op_lt (pv 2) (pe_callB call_len_str rfl G.len PySem.boot_len (pa_cons (pv 0) pa_nil)) (nomark _))
      (pss_one (ps_if (pt_cmpR op_eq (pe_ix ix_str (pv 0) (pv 2) (fun _ _ => rfl)) pe_str (nomark _))
        (pss_one (ps_aug (i := 2) sc_tokens_of.nd rfl (Or.inl rfl) pe_int ip_add))
        (pss_cons (ps_asg (pe_cal C_token_at (hr.mono (by decide)) pass0 (pa_cons (pv 0) (pa_cons (pv 2) pa_nil))) (pg_tup rfl (pgs_cons (pg_name (i := 3) sc_tokens_of.nd rfl (Or.inl rfl)) (pgs_cons (pg_name (i := 4) sc_tokens_of.nd rfl (Or.inl rfl)) (pgs_cons (pg_name (i := 5) sc_tokens_of.nd rfl (Or.inl rfl)) pgs_nil)))))
        (pss_cons (ps_expr (pe_bm PySem.F.plainAttrs_list PySem.F.slot_list_append PySem.F.type_list_append mt_append (pv 1) (pa_cons (pe_tup (pa_cons (pv 3) (pa_cons (pv 4) (pa_cons (pe_op op_add (pv 2) pe_int) pa_nil)))) pa_nil)))
        (pss_cons (ps_if (pt_cmpR op_eq (pv 3) pe_str (nomark _))
          (pss_one (ps_ret (pv 1)))
          pss_nil)
        (pss_one (ps_set (i := 2) sc_tokens_of.nd rfl (Or.inl rfl) (pv 5)))))))))
    (pss_cons (ps_expr (pe_bm PySem.F.plainAttrs_list PySem.F.slot_list_append PySem.F.type_list_append mt_append (pv 1) (pa_cons (pe_tup (pa_cons pe_str (pa_cons pe_str (pa_cons (pe_op op_add (pe_callB call_len_str rfl G.len PySem.boot_len (pa_cons (pv 0) pa_nil)) pe_int) pa_nil)))) pa_nil)))
    (pss_one (ps_ret (pv 1))))))), ?_⟩
  have fits3 : ∀ {a b c : V}, ([a, b, c] : List V).length ≤ sizeLine := by intro a b c; show 3 ≤ sizeLine; decide
  have hzl : (sL cs).length ≤ sizeLine := by rw [len_sL]; omega
  refine ⟨(by show 0 ≤ sizeLine; decide), fun l hl => ?_⟩
  refine ⟨fun m σ H' => ∃ (i : Nat) (pre : List (Wm.Tk × Nat)) (refs : List Addr) (a b c : Option V), m = cs.length - i ∧ σ = [some (.str (sL cs)), some (.ref l), some (.int (i : Int)), a, b, c] ∧ Same H H' ∧ H' l = some (.lst (refs.map V.ref)) ∧
      ToksAt H' refs pre ∧ Wm.lex cs 0 = pre ++ Wm.lex (cs.drop i) i ∧ i ≤ cs.length ∧ refs.length ≤ i,
    ⟨_, 0, [], [], none, none, none, rfl, rfl, Same.new hl, upd_same, trivial, rfl, Nat.zero_le _, Nat.le_refl _⟩, ?_⟩
  rintro m σ H' ⟨i, pre, refs, a, b, c, rfl, rfl, hS, hL, hT, hx, hi, hn⟩
  refine ⟨_, rfl, _, rfl, _, rfl, hzl, _, _, rfl, rfl, _, rfl, ?_⟩
  rw [len_sL]
  refine ite2 (fun e1 => ?_) (fun e1 => ?_)
  · have hlt : i < cs.length := by have := of_decide_eq_true e1; omega
    obtain ⟨c0, r, hd⟩ : ∃ c0 r, cs.drop i = c0 :: r := ⟨_, _, List.drop_eq_getElem_cons hlt⟩
    obtain ⟨hg, hd1, _, hrl⟩ := drop_cons hd
    rw [hd] at hx
    refine ⟨fun σ' H'' => ∃ (i' : Nat) (pre : List (Wm.Tk × Nat)) (refs : List Addr) (a b c : Option V), i < i' ∧ σ' = [some (.str (sL cs)), some (.ref l), some (.int (i' : Int)), a, b, c] ∧ Same H H'' ∧ H'' l = some (.lst (refs.map V.ref)) ∧
      ToksAt H'' refs pre ∧ Wm.lex cs 0 = pre ++ Wm.lex (cs.drop i') i' ∧ i' ≤ cs.length ∧ refs.length ≤ i', fun σ' H'' ⟨i', p', r', a', b', c', h1, h2⟩ => ⟨_, ?_, i', p', r', a', b', c', rfl, h2⟩, ?_⟩
    · have := h2.2.2.2.2.2.1
      omega
    refine ⟨_, rfl, _, rfl, sL cs, (i : Int), c0, rfl, rfl, hzl, atI_nat hg, rfl, _, rfl, ?_⟩
    rw [show V.str ⟨#[c0]⟩ = V.str (sL [c0]) from rfl, show (Str.ofString " " : Str) = sL [32] from by decide +kernel, dec_sL]
    refine ite2 (fun e2 => ?_) (fun e2 => ?_)
    · have e3 : c0 = 32 := by simpa using e2
      refine ⟨_, rfl, _, _, rfl, rfl, i + 1, pre, refs, a, b, c, Nat.lt_succ_self i, rfl, hS, hL, hT, ?_, hlt, by omega⟩
      rw [hx, e3, Wm.lex_space, hd1]
    · have e3 : c0 ≠ 32 := fun e => e2 (by rw [e]; rfl)
      refine ⟨_, rfl, _, rfl, cs, i, c0, r, rfl, by omega, hd, fun p hp => ?_⟩
      have hpl : p ≠ l := fun e => by rw [e, hL] at hp; cases hp
      have hLp : ∀ o, upd H' p o l = some (.lst (refs.map V.ref)) := fun o => by rw [upd_ne (Ne.symm hpl)]; exact hL
      -- what the turn leaves behind: p2, the new token
      have more : ∀ (p2 : Addr) (o : HO) (x : Wm.Tk × Nat), upd H' p o p2 = none → upd (upd H' p o) p2 (.tup (tokV x)) l = some (.lst (refs.map V.ref)) ∧
          Same H (upd (upd (upd H' p o) p2 (.tup (tokV x))) l (.lst ((refs ++ [p2]).map V.ref))) ∧ upd (upd (upd H' p o) p2 (.tup (tokV x))) l (.lst ((refs ++ [p2]).map V.ref)) l = some (.lst ((refs ++ [p2]).map V.ref)) ∧
          ToksAt (upd (upd (upd H' p o) p2 (.tup (tokV x))) l (.lst ((refs ++ [p2]).map V.ref))) (refs ++ [p2]) (pre ++ [x]) := fun p2 o x h2 => by
        have h2l : p2 ≠ l := fun e => by rw [e, hLp o] at h2; cases h2
        have e1 : upd (upd H' p o) p2 (.tup (tokV x)) l = some (.lst (refs.map V.ref)) := by rw [upd_ne (Ne.symm h2l)]; exact hLp o
        refine ⟨e1, Same.put (hS.trans ((Same.new hp).trans (Same.new h2))) hl, upd_same, ToksAt.snoc ?_ (hT.keep ?_)⟩
        · rw [upd_ne h2l]; exact upd_same
        · exact (Same.tups (Same.new hp)).trans ((Same.tups (Same.new h2)).trans (Tups.put e1 fun xs e => by cases e))
      have hml : (refs.map V.ref).length < sizeLine := by rw [List.length_map]; omega
      cases ht : Wm.tokAt c0 r with
      | none =>
        refine ⟨p, _, rfl, SqT.of upd_same, rfl, _, _, rfl, _, _, rfl, _, _, rfl, rfl, ?_⟩
        refine ⟨_, rfl, .inl ⟨rfl, _, SqL.of (hLp _)⟩, _, rfl, _, rfl, _, rfl, _, _, rfl, rfl, fits3, fun p2 hp2 => ?_⟩
        obtain ⟨m1, m2, m3, m4⟩ := more p2 _ (.bad, i + 1) hp2
        refine ⟨l, _, _, rfl, rfl, m1, hml, ?_⟩
        refine ⟨_, rfl, rfl, _, rfl, ?_⟩
        rw [show decide (V.str (Str.ofString "bad") = V.str (Str.ofString "bad")) = true from decide_eq_true rfl]
        refine iteT ?_
        refine ⟨_, rfl, ?_⟩
        rw [show (refs.map V.ref ++ [V.ref p2]) = (refs ++ [p2]).map V.ref by simp]
        refine q _ l _ m2 hl m3 ?_
        rw [hx, Wm.lex_bad e3 ht]
        exact m4
      | some tm =>
        obtain ⟨t, m⟩ := tm
        have hw := Wm.tokAt_text ht
        refine ⟨p, _, rfl, SqT.of upd_same, rfl, _, _, rfl, _, _, rfl, _, _, rfl, rfl, ?_⟩
        refine ⟨_, rfl, .inl ⟨rfl, _, SqL.of (hLp _)⟩, _, rfl, _, rfl, _, rfl, _, _, rfl, rfl, fits3, fun p2 hp2 => ?_⟩
        obtain ⟨m1, m2, m3, m4⟩ := more p2 _ (t, i + 1) hp2
        refine ⟨l, _, _, rfl, rfl, m1, hml, ?_⟩
        refine ⟨_, rfl, rfl, _, rfl, ?_⟩
        rw [kind_bad t hw.1]
        refine iteF ?_
        refine ⟨_, rfl, ?_⟩
        rw [show (refs.map V.ref ++ [V.ref p2]) = (refs ++ [p2]).map V.ref by simp]
        refine ⟨i + 1 + m, pre ++ [(t, i + 1)], refs ++ [p2], _, _, _, by omega, rfl, m2, m3, m4, ?_, by have := hw.2.2; omega, by rw [List.length_append]; show refs.length + 1 ≤ _; omega⟩
        rw [hx, Wm.lex_tok e3 ht, ← hd1, List.drop_drop, List.append_assoc] <;> rfl
  · have hge : i = cs.length := by
      refine Classical.byContradiction fun h => e1 (decide_eq_true ?_)
      omega
    refine ⟨_, rfl, .inl ⟨rfl, _, SqL.of hL⟩, _, rfl, _, rfl, hzl, _, _, rfl, rfl, fits3, fun p2 hp2 => ?_⟩
    have h2l : p2 ≠ l := fun e => by rw [e, hL] at hp2; cases hp2
    have e4 : upd H' p2 (.tup [.str (Str.ofString "end"), .str (Str.ofString ""), .int (((sL cs).length : Int) + 1)]) l = some (.lst (refs.map V.ref)) := by rw [upd_ne (Ne.symm h2l)]; exact hL
    refine ⟨l, _, _, rfl, rfl, e4, by rw [List.length_map]; omega, ?_⟩
    refine ⟨_, rfl, ?_⟩
    rw [show (refs.map V.ref ++ [V.ref p2]) = (refs ++ [p2]).map V.ref by simp]
    refine q _ l _ (Same.put (hS.trans (Same.new hp2)) hl) hl upd_same ?_
    rw [hx, hge, List.drop_length, Wm.lex_nil]
    refine ToksAt.snoc ?_ (hT.keep ((Same.tups (Same.new hp2)).trans (Tups.put e4 fun xs e => by cases e)))
    rw [upd_ne h2l, upd_same] <;> rfl
end
end Wk
end PartToks
section PartExc
set_option Elab.async false
set_option linter.all false
set_option maxRecDepth 100000
set_option maxHeartbeats 4000000
namespace Wk
open PySem PySem.Spec PyProof.Rows L2
/-! ### an own error with an __init__ of two fields, raised where nothing is handled -/
section
variable {X : Cx} {e : Expr} {es : List Expr} {ta : TA} {p pos : Pos}
/-- C(e, ..), the error's context told (None) -/
theorem pmkN {CX : CXT} {x : Str} {C fI : Addr} {k : Nat} {fd : FuncData} {ps : List Str} {sp : Sp} (T : OexC X.K C) (iC : PySem.W.findIn X.K (.ref C) "__init__" = some (some (.ref fI))) (tI : PySem.W.typeIn X.K (.ref fI) = some (.type "function"))
    (F1 : FnOk X.prog X.w X.K X.mg X.base CX k fI fd ps sp) (hr : Room (k + 1) X.A) (hb : Binds X.K fd ps []) (hx : Passes CX X (fun _ _ _ => False)) (hm : X.mg x = some (.ref C)) (ha : PA X (e :: es) ta) (hg : Gl X x := by rfl)
    (hdb : (x == ("__debug__" : Str)) = false := by decide) (he : starEach (e :: es) X.env = (false, eval e X.env) :: starEach es X.env := by rfl) (hpl : (backTo pos (starEach es X.env)).any (·.1) = false := by rfl) :
    L2N.PMk X (.Call (.Name x p) (e :: es) [] pos) (tMkO C sp [] ta) := by
  intro pins s σ H Q I h
  obtain ⟨nm, q, N, bs, bm, sn, sub, ab, col, dd, k0, k1, k2, k3, k5, hC, hbm⟩ := T.cls
  refine wpAny_Call_Name_kw (ld_glob I hg hm ?_ hdb)
  refine PySem.W.callWith_K (h₀ := X.base) I.ok.mod.kin T.kC (thn (ha.run pos pins s σ H _ I h) fun us s1 ⟨vs, H1, I1, r1, hz, q1⟩ => ⟨I1.kIn, ?_⟩) he hpl
  show wpAny _ _ (call (.ref C) us) _ _ _
  obtain ⟨hp, g, dr, tk, os⟩ := s1
  have hsz : hp.objs.size ≤ hp.objs.size + 1 := Nat.le_succ _
  have hq := q1 (hp.objs.size + 1) (I1.hok.fresh hsz)
  rw [List.append_nil] at hq
  have kk : ∀ b o, hp.get? b = some o → ((hp.push (PySem.W.kdv_tup us)).push (PySem.HandSPX.excO C hp.objs.size)).get? b = some o := fun b o e => Heap.get?_push_of_some _ (Heap.get?_push_of_some _ e)
  have hget : ((hp.push (PySem.W.kdv_tup us)).push (PySem.HandSPX.excO C hp.objs.size)).get? (hp.objs.size + 1) = some (PySem.HandSPX.excO C hp.objs.size) := by heap_get
  have I2 := I1.laid (t' := tk) (a := hp.objs.size + 1) (o := exo (hp.objs.size + 1) C none) (h' := (hp.push (PySem.W.kdv_tup us)).push (PySem.HandSPX.excO C hp.objs.size)) kk hsz (exo_ok hget)
  have r2 : Vals (V.ref (hp.objs.size + 1) :: vs) (Value.ref (hp.objs.size + 1) :: us) := .cons rfl r1
  have hl : (Value.ref (hp.objs.size + 1) :: us ++ []).length = ps.length := by
    rw [List.append_nil]
    exact r2.length.symm.trans (F1.len _ _ _ _ hq)
  have hus : us.length ≤ sizeLine := by
    rw [← Paired.length r1, sizeLine_eq]
    omega
  have b2 := hb _ (Value.ref (hp.objs.size + 1) :: us) I2.kIn hl
  rw [List.append_nil] at b2
  refine wpAny_call (PySem.HandSPX.call_own F.excBase_ValueError (fun Y => PySem.HandSPX.refsVE_contains Y bm hbm) (I1.kIn _ _ hC) (PySem.W.looks_findIn I1.kIn iC) (fun self => PySem.W.bind_fn I1.kIn self tI) hus
    (codeAny_mono (F1.run _ X.stack _ _ ⟨Value.ref (hp.objs.size + 1) :: us, []⟩ (Value.ref (hp.objs.size + 1) :: us) _ _ (fun _ _ _ => False) (hr.make C us []) (I2.env0.make C us []) b2 r2 hq) fun r s' hq' => ?_))
  cases r with
  | error er => exact hx pins σ _ _ er s' I2 hq'
  | ok fl =>
    cases fl with
    | ret u =>
      obtain ⟨v, H2, os2, bare2, un2, hok2, rv, ev, d, fs, ea, ed, hd1, q2⟩ := hq'
      subst ev
      obtain ⟨h2, g2, d2, t2, os'⟩ := s'
      obtain ⟨t0, G, J, kG, ge, hoe, na⟩ := mk_end0 (d2 := d2) (t2 := t2) I1 hsz kk un2 hok2 os2 bare2 ea ed hd1
      exact ⟨rv, hp.objs.size + 1, _, _, ⟨G, g2, d2, t2, os'⟩, _, .ref C, some d, rfl, J, kG, ge, hoe, ⟨rfl, rfl, fun vs hv => by cases hv; rfl⟩, rfl, rfl, na, rfl, bare2, raises_own T.exC T.tyC, q2⟩
    | next => exact False.elim hq'
    | brk => exact False.elim hq'
    | cont => exact False.elim hq'
end
/-! ### BadText -/
/-- what the top has written of BadText, at B -/
structure BadT (K : PySem.W.Frag) (mg : Str → Option Value) (B : Addr) : Prop where
  g : mg "BadText" = some (.ref B)
  ox : OexC K B
  xf : XfC K B
  nl : PySem.W.findIn K (.ref B) "line" = some none
  nc : PySem.W.findIn K (.ref B) "column" = some none
  te : PySem.W.exmOne K (.ref B) (.ref B) = some true
abbrev s_bad_init : Stmt := inClass (topS 3) 0
abbrev N_bad_init : List Str := ["self", "line", "column"]
theorem sc_bad_init : FnScope N_bad_init ["self", "line", "column"] (defScope s_bad_init) := ⟨rfl, rfl, rfl, by decide +kernel, rfl, by decide +kernel, by decide +kernel⟩
def sp_bad_init (B : Addr) : Sp := fun vs H Q _ => ∃ (a : Addr) (x y : V), vs = [.ref a, x, y] ∧ H a = some (exo a B none) ∧
  ∀ (d : Addr) (H2 : Hp), H d = none → d ≠ a → H2 a = some (exo a B (some d)) → H2 d = some (exd d [("column", y), ("line", x)]) → (∀ b o, b ≠ a → H b = some o → H2 b = some o) → Q .non H2
/-- BadText's __init__ as it stands in the class -/
def BadI (K : PySem.W.Frag) (B : Addr) : Prop := ∃ f fd, Fun K "__init__" "BadText.__init__" s_bad_init f fd ∧ PySem.W.findIn K (.ref B) "__init__" = some (some (.ref f)) ∧ PySem.W.typeIn K (.ref f) = some (.type "function") ∧ Binds K fd ["self", "line", "column"] []
def BadIC (P : Program) (w : World) (K : PySem.W.Frag) (mg : Str → Option Value) (base : Heap) (k : Nat) (B : Addr) : Prop :=
  ∃ f fd, FnOk P w K mg base CX0 k f fd ["self", "line", "column"] (sp_bad_init B) ∧ PySem.W.findIn K (.ref B) "__init__" = some (some (.ref f)) ∧ PySem.W.typeIn K (.ref f) = some (.type "function") ∧ Binds K fd ["self", "line", "column"] []
section
variable {P : Program} {w : World} {K : PySem.W.Frag} {mg : Str → Option Value} {base : Heap} {B : Addr}
theorem ok_bad_init (T : BadT K mg B) (D : BadI K B) : BadIC P w K mg base 1 B := by
  obtain ⟨f, fd, F, h1, h2, h3⟩ := D
  refine ⟨f, fd, F.ok sc_bad_init (fun vs H Q E h => ?_) (fun cdv A outer s H vs Q E hr h => ?_), h1, h2, h3⟩
  · obtain ⟨a, x, y, rfl, _⟩ := h
    rfl
  obtain ⟨a, x, y, rfl, ha, q⟩ := h
  refine ⟨_, pss_cons (ps_ost (pv 0) (pv 1)) (pss_one (ps_ost (pv 0) (pv 2))), ?_⟩
  refine ⟨_, rfl, _, rfl, a, B, rfl, T.ox, T.nl, .inl ⟨ha, fun dx hdx ne => ?_⟩⟩
  refine ⟨_, rfl, _, rfl, a, B, rfl, T.ox, T.nc, .inr ⟨dx, [(("line" : Str), x)], upd_same, ?_, (by show 1 ≤ 900; decide), ?_⟩⟩
  · rw [upd_ne ne, upd_same]
  · refine q dx _ hdx ne ?_ upd_same fun b o hb e => ?_
    · rw [upd_ne (Ne.symm ne), upd_same]
    · rw [upd_ne (ne_of_none e hdx), upd_ne hb, upd_ne (ne_of_none e hdx)]
      exact e
end
/-- what stands, all but r, stands -/
def SameBut (r : Addr) (H H' : Hp) : Prop := ∀ b o, b ≠ r → H b = some o → H' b = some o
theorem SameBut.refl {r : Addr} {H : Hp} : SameBut r H H := fun _ _ _ h => h
theorem SameBut.trans {r : Addr} {H H1 H2 : Hp} (a : SameBut r H H1) (b : SameBut r H1 H2) : SameBut r H H2 := fun c o n h => b c o n (a c o n h)
theorem Same.but {r : Addr} {H H' : Hp} (s : Same H H') : SameBut r H H' := fun b o _ h => s b o h
theorem SameBut.new {r p : Addr} {H : Hp} {o : HO} (h : H p = none) : SameBut r H (upd H p o) := Same.but (Same.new h)
theorem SameBut.put {r : Addr} {H : Hp} {o : HO} : SameBut r H (upd H r o) := fun b u n h => by rw [upd_ne n]; exact h
/-- a BadText of this column may be let out -/
def Rs (B r : Addr) (H : Hp) (E : XK) (col : Nat) : Prop :=
  ∀ (d : Addr) (H' : Hp), SameBut r H H' → H' d = some (.xd [("column", .int (col : Int)), ("line", .int 1)]) → E (.ref B) (some d) H'
theorem Rs.on {B r : Addr} {H H1 : Hp} {E : XK} {col : Nat} (h : Rs B r H E col) (s : SameBut r H H1) : Rs B r H1 E col := fun d H' s' e => h d H' (s.trans s') e
end Wk
end PartExc
section PartRdr
set_option Elab.async false
set_option linter.all false
set_option maxRecDepth 100000
set_option maxHeartbeats 4000000
namespace Wk
open PySem PySem.Spec PyProof.Rows L2
/-! ### Reader -/
structure RdT (K : PySem.W.Frag) (C : Addr) : Prop where
  cl : Cls K C
  nL : NoAttr K C "line"
  nT : NoAttr K C "tokens"
  nD : NoAttr K C "done"
def rdF (l : Addr) (j : Nat) : List (Str × V) := [(("line" : Str), V.int 1), (("tokens" : Str), V.ref l), (("done" : Str), V.int (j : Int))]
theorem rdF_line (l : Addr) (j : Nat) : (rdF l j).lookup ("line" : Str) = some (V.int 1) := by
  unfold rdF
  simp [List.lookup]
theorem ne_LT : ((Str.ofString "tokens" : Str) == Str.ofString "line") = false := by decide +kernel
theorem ne_LD : ((Str.ofString "done" : Str) == Str.ofString "line") = false := by decide +kernel
theorem ne_TD : ((Str.ofString "done" : Str) == Str.ofString "tokens") = false := by decide +kernel
theorem rdF_tokens (l : Addr) (j : Nat) : (rdF l j).lookup ("tokens" : Str) = some (V.ref l) := by
  unfold rdF
  simp [List.lookup, ne_LT]
theorem rdF_done (l : Addr) (j : Nat) : (rdF l j).lookup ("done" : Str) = some (V.int (j : Int)) := by
  unfold rdF
  simp [List.lookup, ne_LD, ne_TD]
theorem rdF_put (l : Addr) (j : Nat) (v : V) : putF ("done" : Str) v (rdF l j) = [(("line" : Str), V.int 1), (("tokens" : Str), V.ref l), (("done" : Str), v)] := by
  have h1 : ¬ (Str.ofString "line" : Str) = Str.ofString "done" := by decide +kernel
  have h2 : ¬ (Str.ofString "tokens" : Str) = Str.ofString "done" := by decide +kernel
  unfold rdF
  simp only [putF]
  rw [if_neg h1, if_neg h2, if_pos trivial]
theorem rdF_no {m : Str} (h1 : (m == Str.ofString "line") = false) (h2 : (m == Str.ofString "tokens") = false) (h3 : (m == Str.ofString "done") = false) (l : Addr) (j : Nat) : (rdF l j).lookup m = none := by
  unfold rdF
  simp [List.lookup, h1, h2, h3]
theorem rdF_kind (l : Addr) (j : Nat) : (rdF l j).lookup ("kind" : Str) = none := rdF_no (by decide +kernel) (by decide +kernel) (by decide +kernel) l j
theorem rdF_value (l : Addr) (j : Nat) : (rdF l j).lookup ("value" : Str) = none := rdF_no (by decide +kernel) (by decide +kernel) (by decide +kernel) l j
theorem rdF_need (l : Addr) (j : Nat) : (rdF l j).lookup ("need" : Str) = none := rdF_no (by decide +kernel) (by decide +kernel) (by decide +kernel) l j
theorem rdF_take (l : Addr) (j : Nat) : (rdF l j).lookup ("take" : Str) = none := rdF_no (by decide +kernel) (by decide +kernel) (by decide +kernel) l j
/-- at r: a reader of these tokens, j of them read -/
structure RdAt (C : Addr) (H : Hp) (r dx l : Addr) (refs : List Addr) (toks : List (Wm.Tk × Nat)) (j : Nat) : Prop where
  obj : H r = some (.ins C dx (rdF l j))
  lst : H l = some (.lst (refs.map V.ref))
  tok : ToksAt H refs toks
  few : toks.length ≤ sizeLine
theorem RdAt.on {C : Addr} {H H' : Hp} {r dx l : Addr} {refs : List Addr} {toks : List (Wm.Tk × Nat)} {j j' : Nat} (R : RdAt C H r dx l refs toks j) (s : SameBut r H H') (o : H' r = some (.ins C dx (rdF l j'))) : RdAt C H' r dx l refs toks j' where
  obj := o
  lst := s _ _ (fun e => by have z := R.lst; rw [e, R.obj] at z; cases z) R.lst
  tok := R.tok.keep fun a xs h => s _ _ (fun e => by rw [e, R.obj] at h; cases h) h
  few := R.few
theorem SameBut.tups {C r dx : Addr} {fs : List (Str × V)} {H H' : Hp} (s : SameBut r H H') (o : H r = some (.ins C dx fs)) : Tups H H' := fun a xs h => s _ _ (fun e => by rw [e, o] at h; cases h) h
/-- the token that is next -/
theorem RdAt.next {C : Addr} {H : Hp} {r dx l : Addr} {refs : List Addr} {toks : List (Wm.Tk × Nat)} {j : Nat} {x : Wm.Tk × Nat} (R : RdAt C H r dx l refs toks j) (h : toks[j]? = some x) : ∃ a, atI (refs.map V.ref) (j : Int) = some (.ref a) ∧ H a = some (.tup (tokV x)) := by
  obtain ⟨a, h1, h2⟩ := R.tok.get h
  exact ⟨a, atI_nat (by rw [List.getElem?_map, h1] <;> rfl), h2⟩
section
variable {P : Program} {w : World} {K : PySem.W.Frag} {mg : Str → Option Value} {base : Heap} {C B : Addr}
abbrev s_kind : Stmt := inClass (topS 27) 1
abbrev N_kind : List Str := ["self"]
theorem sc_kind : FnScope N_kind ["self"] (defScope s_kind) := ⟨rfl, rfl, rfl, by decide +kernel, rfl, by decide +kernel, by decide +kernel⟩
def sp_kind (C : Addr) : Sp := fun vs H Q _ => ∃ (r dx l : Addr) (refs : List Addr) (toks : List (Wm.Tk × Nat)) (j : Nat) (x : Wm.Tk × Nat), vs = [.ref r] ∧ RdAt C H r dx l refs toks j ∧ toks[j]? = some x ∧ Q (.str (kindS x.1)) H
theorem ok_kind (R : RdT K C) (D : DfM K C "kind" "Reader.kind" s_kind ["self"]) : CalM P w K mg base CX0 1 C "kind" ["self"] (sp_kind C) := by
  refine D.ok sc_kind (fun vs H Q E h => ?_) (fun f cdv A outer s H vs Q E hr h => ?_)
  · obtain ⟨r, dx, l, refs, toks, j, x, rfl, _⟩ := h
    rfl
  obtain ⟨r, dx, l, refs, toks, j, x, rfl, at_, hx, q⟩ := h
  refine ⟨_, (pss_one (ps_ret (pe_ix ix_tup (pe_ix ix_list (pe_fld (pv 0) rfl) (pe_fld (pv 0) rfl) (fun _ _ => rfl)) pe_int (fun _ _ => rfl)))), ?_⟩
  obtain ⟨a, h1, h2⟩ := at_.next hx
  exact ⟨_, rfl, r, C, dx, _, _, rfl, at_.obj, R.cl, R.nT, rdF_tokens _ _, _, rfl, r, C, dx, _, _, rfl, at_.obj, R.cl, R.nD, rdF_done _ _, l, _, (j : Int), _, rfl, rfl, SqL.of at_.lst, h1, a, _, 0, _, rfl, rfl, SqT.of h2, rfl, q⟩
abbrev s_value : Stmt := inClass (topS 27) 2
abbrev N_value : List Str := ["self"]
theorem sc_value : FnScope N_value ["self"] (defScope s_value) := ⟨rfl, rfl, rfl, by decide +kernel, rfl, by decide +kernel, by decide +kernel⟩
def sp_value (C : Addr) : Sp := fun vs H Q _ => ∃ (r dx l : Addr) (refs : List Addr) (toks : List (Wm.Tk × Nat)) (j : Nat) (x : Wm.Tk × Nat), vs = [.ref r] ∧ RdAt C H r dx l refs toks j ∧ toks[j]? = some x ∧ Q (valV x.1) H
theorem ok_value (R : RdT K C) (D : DfM K C "value" "Reader.value" s_value ["self"]) : CalM P w K mg base CX0 1 C "value" ["self"] (sp_value C) := by
  refine D.ok sc_value (fun vs H Q E h => ?_) (fun f cdv A outer s H vs Q E hr h => ?_)
  · obtain ⟨r, dx, l, refs, toks, j, x, rfl, _⟩ := h
    rfl
  obtain ⟨r, dx, l, refs, toks, j, x, rfl, at_, hx, q⟩ := h
  refine ⟨_, (pss_one (ps_ret (pe_ix ix_tup (pe_ix ix_list (pe_fld (pv 0) rfl) (pe_fld (pv 0) rfl) (fun _ _ => rfl)) pe_int (fun _ _ => rfl)))), ?_⟩
  obtain ⟨a, h1, h2⟩ := at_.next hx
  exact ⟨_, rfl, r, C, dx, _, _, rfl, at_.obj, R.cl, R.nT, rdF_tokens _ _, _, rfl, r, C, dx, _, _, rfl, at_.obj, R.cl, R.nD, rdF_done _ _, l, _, (j : Int), _, rfl, rfl, SqL.of at_.lst, h1, a, _, 1, _, rfl, rfl, SqT.of h2, rfl, q⟩
abbrev s_need : Stmt := inClass (topS 27) 3
abbrev N_need : List Str := ["self", "fits"]
theorem sc_need : FnScope N_need ["self", "fits"] (defScope s_need) := ⟨rfl, rfl, rfl, by decide +kernel, rfl, by decide +kernel, by decide +kernel⟩
def sp_need (C B : Addr) : Sp := fun vs H Q E => ∃ (r dx l : Addr) (refs : List Addr) (toks : List (Wm.Tk × Nat)) (j : Nat) (x : Wm.Tk × Nat) (b : Bool), vs = [.ref r, .bl b] ∧ RdAt C H r dx l refs toks j ∧ toks[j]? = some x ∧
  (b = true → Q .non H) ∧ (b = false → Rs B r H E x.2)
theorem ok_need (R : RdT K C) (T : BadT K mg B) (D : DfM K C "need" "Reader.need" s_need ["self", "fits"]) (I : BadIC P w K mg base 1 B) : CalM P w K mg base (L2N.CX P w) 3 C "need" ["self", "fits"] (sp_need C B) := by
  refine D.okN sc_need (fun vs H Q E h => ?_) (fun f cdv A outer s H vs Q E hr h => ?_)
  · obtain ⟨r, dx, l, refs, toks, j, x, b, rfl, _⟩ := h
    rfl
  obtain ⟨r, dx, l, refs, toks, j, x, b, rfl, at_, hx, q1, q2⟩ := h
  obtain ⟨fI, fdI, FI, iI, tI, bI⟩ := I
  refine ⟨_, (pss_one (ps_if (pt_not (pt_val (pv 1)))
      (pss_one (L2N.ps_raise rfl (L2N.takes_of rfl rfl rfl rfl) (pmkN T.ox iI tI FI hr bI pass0 T.g (by exact (pa_cons (pe_fld (pv 0) rfl) (pa_cons (pe_ix ix_tup (pe_ix ix_list (pe_fld (pv 0) rfl) (pe_fld (pv 0) rfl) (fun _ _ => rfl)) pe_int (fun _ _ => rfl)) pa_nil))))))
      pss_nil)), ?_⟩
  obtain ⟨a, h1, h2⟩ := at_.next hx
  refine ⟨_, rfl, b, rfl, ?_⟩
  cases b with
  | true => exact iteF (q1 rfl)
  | false =>
    refine iteT ?_
    refine ⟨_, rfl, r, C, dx, _, _, rfl, at_.obj, R.cl, R.nL, rdF_line _ _, _, rfl, r, C, dx, _, _, rfl, at_.obj, R.cl, R.nT, rdF_tokens _ _, _, rfl, r, C, dx, _, _, rfl, at_.obj, R.cl, R.nD, rdF_done _ _, l, _, (j : Int), _, rfl, rfl, SqL.of at_.lst, h1, a, _, 2, _, rfl, rfl, SqT.of h2, rfl, (by show 2 ≤ 1000; decide), fun ea hea => ?_⟩
    refine ⟨ea, _, _, rfl, upd_same, fun d H2 hd ne e1 e2 k => ⟨rfl, d, _, e1, e2, ?_, ?_⟩⟩
    · rw [upd_ne ne] at hd
      exact hd
    · have hd0 : H d = none := by rw [upd_ne ne] at hd; exact hd
      refine q2 rfl d _ (fun b o _ e => ?_) upd_same
      rw [upd_ne (ne_of_none e hd0), del_ne (ne_of_none e hea)]
      exact k b o (ne_of_none e hea) (by rw [upd_ne (ne_of_none e hea)]; exact e)
abbrev s_take : Stmt := inClass (topS 27) 4
abbrev N_take : List Str := ["self", "kind", "value"]
theorem sc_take : FnScope N_take ["self", "kind"] (defScope s_take) := ⟨rfl, rfl, rfl, by decide +kernel, rfl, by decide +kernel, by decide +kernel⟩
def sp_take (C B : Addr) : Sp := fun vs H Q E => ∃ (r dx l : Addr) (refs : List Addr) (toks : List (Wm.Tk × Nat)) (j : Nat) (x : Wm.Tk × Nat) (k : Str), vs = [.ref r, .str k] ∧ RdAt C H r dx l refs toks j ∧ toks[j]? = some x ∧
  (kindS x.1 = k → Q (valV x.1) (upd H r (.ins C dx (rdF l (j + 1))))) ∧ (kindS x.1 ≠ k → Rs B r H E x.2)
theorem ok_take (R : RdT K C) (D : DfM K C "take" "Reader.take" s_take ["self", "kind"]) (M_kind : CalM P w K mg base CX0 1 C "kind" ["self"] (sp_kind C)) (M_value : CalM P w K mg base CX0 1 C "value" ["self"] (sp_value C))
    (M_need : CalM P w K mg base (L2N.CX P w) 3 C "need" ["self", "fits"] (sp_need C B)) : CalM P w K mg base (L2N.CX P w) 4 C "take" ["self", "kind"] (sp_take C B) := by
  refine D.okN sc_take (fun vs H Q E h => ?_) (fun f cdv A outer s H vs Q E hr h => ?_)
  · obtain ⟨r, dx, l, refs, toks, j, x, k, rfl, _⟩ := h
    rfl
  obtain ⟨r, dx, l, refs, toks, j, x, k, rfl, at_, hx, q1, q2⟩ := h
  refine ⟨_, (pss_cons (ps_expr (pe_calM (pv 0) R.cl M_need (hr.mono (by decide)) (passN rfl rfl rfl rfl) (pa_cons (pe_cmpR op_eq (pe_calM0 (pv 0) R.cl M_kind (hr.mono (by decide)) pass0) (pv 1) (nomark _)) pa_nil)))
    (pss_cons (ps_set (i := 2) sc_take.nd rfl (Or.inl rfl) (pe_calM0 (pv 0) R.cl M_value (hr.mono (by decide)) pass0))
    (pss_cons (ps_fldaug (pv 0) pe_int in_add)
    (pss_one (ps_ret (pv 2)))))), ?_⟩
  refine ⟨_, rfl, r, dx, _, rfl, at_.obj, rdF_need _ _, _, rfl, r, dx, _, rfl, at_.obj, rdF_kind _ _, r, dx, l, refs, toks, j, x, rfl, at_, hx, _, rfl, rfl, r, dx, l, refs, toks, j, x, _, rfl, at_, hx, fun e => ?_, fun e => ?_⟩
  · rw [dec_str'] at e
    refine ⟨_, rfl, r, dx, _, rfl, at_.obj, rdF_value _ _, r, dx, l, refs, toks, j, x, rfl, at_, hx, ?_⟩
    refine ⟨_, rfl, r, C, dx, _, _, rfl, at_.obj, R.cl, R.nD, rdF_done _ _, _, _, rfl, rfl, _, _, at_.obj, (by show 3 < 1000; decide), ?_⟩
    rw [rdF_put]
    exact ⟨_, rfl, q1 (of_decide_eq_true e)⟩
  · rw [dec_str'] at e
    exact q2 (of_decide_eq_false e)
end
end Wk
end PartRdr
section PartRd0
set_option Elab.async false
set_option linter.all false
set_option maxRecDepth 100000
set_option maxHeartbeats 4000000
namespace Wk
open PySem PySem.Spec PyProof.Rows L2
/-! ### kinds -/
theorem not_sign {x : Str} {c : Nat} (h : x.length ≠ 1) : ¬ sL [c] = x := fun e => h (by rw [← e]; rfl)
theorem kind_word (t : Wm.Tk) : kindS t = Str.ofString "word" ↔ ∃ w, t = .word w := by
  cases t with
  | word w => exact ⟨fun _ => ⟨w, rfl⟩, fun _ => rfl⟩
  | mark c => exact ⟨fun e => absurd e (not_sign (by decide +kernel)), fun ⟨w, e⟩ => by cases e⟩
  | name w => exact ⟨fun e => absurd (show Str.ofString "name" = Str.ofString "word" from e) (by decide +kernel), fun ⟨w, e⟩ => by cases e⟩
  | int n => exact ⟨fun e => absurd (show Str.ofString "integer" = Str.ofString "word" from e) (by decide +kernel), fun ⟨w, e⟩ => by cases e⟩
  | bad => exact ⟨fun e => absurd (show Str.ofString "bad" = Str.ofString "word" from e) (by decide +kernel), fun ⟨w, e⟩ => by cases e⟩
  | fin => exact ⟨fun e => absurd (show Str.ofString "end" = Str.ofString "word" from e) (by decide +kernel), fun ⟨w, e⟩ => by cases e⟩
theorem kind_name (t : Wm.Tk) : kindS t = Str.ofString "name" ↔ ∃ w, t = .name w := by
  cases t with
  | name w => exact ⟨fun _ => ⟨w, rfl⟩, fun _ => rfl⟩
  | mark c => exact ⟨fun e => absurd e (not_sign (by decide +kernel)), fun ⟨w, e⟩ => by cases e⟩
  | word w => exact ⟨fun e => absurd (show Str.ofString "word" = Str.ofString "name" from e) (by decide +kernel), fun ⟨w, e⟩ => by cases e⟩
  | int n => exact ⟨fun e => absurd (show Str.ofString "integer" = Str.ofString "name" from e) (by decide +kernel), fun ⟨w, e⟩ => by cases e⟩
  | bad => exact ⟨fun e => absurd (show Str.ofString "bad" = Str.ofString "name" from e) (by decide +kernel), fun ⟨w, e⟩ => by cases e⟩
  | fin => exact ⟨fun e => absurd (show Str.ofString "end" = Str.ofString "name" from e) (by decide +kernel), fun ⟨w, e⟩ => by cases e⟩
theorem kind_int (t : Wm.Tk) : kindS t = Str.ofString "integer" ↔ ∃ n, t = .int n := by
  cases t with
  | int w => exact ⟨fun _ => ⟨w, rfl⟩, fun _ => rfl⟩
  | mark c => exact ⟨fun e => absurd e (not_sign (by decide +kernel)), fun ⟨w, e⟩ => by cases e⟩
  | word w => exact ⟨fun e => absurd (show Str.ofString "word" = Str.ofString "integer" from e) (by decide +kernel), fun ⟨w, e⟩ => by cases e⟩
  | name n => exact ⟨fun e => absurd (show Str.ofString "name" = Str.ofString "integer" from e) (by decide +kernel), fun ⟨w, e⟩ => by cases e⟩
  | bad => exact ⟨fun e => absurd (show Str.ofString "bad" = Str.ofString "integer" from e) (by decide +kernel), fun ⟨w, e⟩ => by cases e⟩
  | fin => exact ⟨fun e => absurd (show Str.ofString "end" = Str.ofString "integer" from e) (by decide +kernel), fun ⟨w, e⟩ => by cases e⟩
theorem kind_end (t : Wm.Tk) : kindS t = Str.ofString "end" ↔ t = .fin := by
  cases t with
  | fin => exact ⟨fun _ => rfl, fun _ => rfl⟩
  | mark c => exact ⟨fun e => absurd e (not_sign (by decide +kernel)), fun e => by cases e⟩
  | word w => exact ⟨fun e => absurd (show Str.ofString "word" = Str.ofString "end" from e) (by decide +kernel), fun e => by cases e⟩
  | name n => exact ⟨fun e => absurd (show Str.ofString "name" = Str.ofString "end" from e) (by decide +kernel), fun e => by cases e⟩
  | int n => exact ⟨fun e => absurd (show Str.ofString "integer" = Str.ofString "end" from e) (by decide +kernel), fun e => by cases e⟩
  | bad => exact ⟨fun e => absurd (show Str.ofString "bad" = Str.ofString "end" from e) (by decide +kernel), fun e => by cases e⟩
theorem kind_mark {x : Str} {d : Nat} (h : x = sL [d]) (t : Wm.Tk) : kindS t = x ↔ t = .mark d := by
  subst h
  have no : ∀ y : Str, y.length ≠ 1 → ¬ y = sL [d] := fun y hy e => hy (by rw [e]; rfl)
  cases t with
  | mark c => exact ⟨fun e => by have := sL_inj (show sL [c] = sL [d] from e); simp at this; rw [this], fun e => by cases e; rfl⟩
  | word w => exact ⟨fun e => absurd e (no _ (by show (Str.ofString "word").length ≠ 1; decide +kernel)), fun e => by cases e⟩
  | name n => exact ⟨fun e => absurd e (no _ (by show (Str.ofString "name").length ≠ 1; decide +kernel)), fun e => by cases e⟩
  | int n => exact ⟨fun e => absurd e (no _ (by show (Str.ofString "integer").length ≠ 1; decide +kernel)), fun e => by cases e⟩
  | bad => exact ⟨fun e => absurd e (no _ (by show (Str.ofString "bad").length ≠ 1; decide +kernel)), fun e => by cases e⟩
  | fin => exact ⟨fun e => absurd e (no _ (by show (Str.ofString "end").length ≠ 1; decide +kernel)), fun e => by cases e⟩
theorem l_open : Str.ofString "(" = sL [40] := by decide +kernel
theorem l_close : Str.ofString ")" = sL [41] := by decide +kernel
theorem l_comma : Str.ofString "," = sL [44] := by decide +kernel
theorem l_slash : Str.ofString "/" = sL [47] := by decide +kernel
theorem l_dot : Str.ofString "." = sL [46] := by decide +kernel
theorem l_brace : Str.ofString "{" = sL [123] := by decide +kernel
theorem l_unbrace : Str.ofString "}" = sL [125] := by decide +kernel
/-! ### the automaton at a token -/
abbrev Toks := List (Wm.Tk × Nat)
/-- a token that is taken is not the last -/
def Lst (toks : Toks) : Prop := ∀ j t c s s', toks[j]? = some (t, c) → Wm.step s t = some s' → j + 1 < toks.length
theorem lst_lex (cs : List Nat) (p : Nat) : Lst (Wm.lex cs p) := by
  intro j t c s s' h hs
  obtain ⟨pre, u, d, e, w, q⟩ := Wm.lex_shape cs p
  rw [e] at h ⊢
  rw [List.length_append, List.length_singleton]
  by_cases hj : j < pre.length
  · omega
  · exfalso
    rw [List.getElem?_append_right (by omega)] at h
    have hj2 : j - pre.length = 0 := by
      refine Classical.byContradiction fun n => ?_
      rw [List.getElem?_eq_none (by rw [List.length_singleton]; omega)] at h
      cases h
    rw [hj2] at h
    have h' : (u, d) = (t, c) := by simpa using h
    cases h'
    rcases q with ⟨q, _⟩ | q <;> subst q
    · rw [(Wm.step_none s).1] at hs; cases hs
    · rw [(Wm.step_none s).2] at hs; cases hs
theorem drop_at {α : Type} {l : List α} {j : Nat} {x : α} (h : l[j]? = some x) : l.drop j = x :: l.drop (j + 1) := by
  obtain ⟨hj, e⟩ := List.getElem?_eq_some_iff.mp h
  rw [List.drop_eq_getElem_cons hj, e]
theorem go_step {toks : Toks} {j : Nat} {t : Wm.Tk} {c : Nat} {s s' : Wm.St} (h : toks[j]? = some (t, c)) (e : Wm.step s t = some s') : Wm.go s (toks.drop j) = Wm.go s' (toks.drop (j + 1)) := by
  rw [drop_at h, Wm.go_cons _ _ _ _ (fun z => by rw [z, (Wm.step_none s).1] at e; cases e), e]
theorem go_stop {toks : Toks} {j : Nat} {t : Wm.Tk} {c : Nat} {s : Wm.St} (h : toks[j]? = some (t, c)) (e : Wm.step s t = none) (f : Wm.final s = none) : Wm.go s (toks.drop j) = .bad c := by
  rw [drop_at h]
  exact Wm.bad_at e fun _ => f
theorem go_same {toks : Toks} {j : Nat} {t : Wm.Tk} {c : Nat} {s s' : Wm.St} (h : toks[j]? = some (t, c)) (e : Wm.step s t = Wm.step s' t) (f : Wm.final s = none) (f' : Wm.final s' = none) : Wm.go s (toks.drop j) = Wm.go s' (toks.drop j) := by
  cases q : Wm.step s t with
  | none => rw [go_stop h q f, go_stop h (e ▸ q) f']
  | some s2 => rw [go_step h q, go_step h (e ▸ q)]
theorem tok_at {toks : Toks} {j : Nat} (h : j < toks.length) : ∃ t c, toks[j]? = some (t, c) := ⟨_, _, List.getElem?_eq_getElem h⟩
/-! ### conditions in the heap -/
def TrmV (H : Hp) (v : V) : Wm.Trm → Prop
  | .nm w => ∃ a, v = .ref a ∧ H a = some (.tup [.str "name", .str (sL w)])
  | .fld w => ∃ a, v = .ref a ∧ H a = some (.tup [.str "field", .str (sL w)])
  | .part w i => ∃ a, v = .ref a ∧ H a = some (.tup [.str "part", .str (sL w), .int (i : Int)])
def TrmsV (H : Hp) : List V → List Wm.Trm → Prop
  | [], [] => True
  | v :: vs, t :: ts => TrmV H v t ∧ TrmsV H vs ts
  | _, _ => False
def TgtV (H : Hp) (v : V) : Wm.Tgt → Prop
  | .set w => ∃ a, v = .ref a ∧ H a = some (.tup [.str "set", .str (sL w)])
  | .names ws => ∃ a b, v = .ref a ∧ H a = some (.tup [.str "names", .ref b]) ∧ H b = some (.tup (ws.map fun w => V.str (sL w)))
def SmpV (H : Hp) (v : V) : Wm.Smp → Prop
  | .tt => ∃ a, v = .ref a ∧ H a = some (.tup [.str "true"])
  | .ff => ∃ a, v = .ref a ∧ H a = some (.tup [.str "false"])
  | .is t u => ∃ a x y, v = .ref a ∧ H a = some (.tup [.str (sL Wm.wIs), x, y]) ∧ TrmV H x t ∧ TrmV H y u
  | .inn t s => ∃ a x, v = .ref a ∧ H a = some (.tup [.str (sL Wm.wIn), x, .str (sL s)]) ∧ TrmV H x t
  | .mem t s => ∃ a x, v = .ref a ∧ H a = some (.tup [.str (sL Wm.wMember), x, .str (sL s)]) ∧ TrmV H x t
  | .within s g => ∃ a x, v = .ref a ∧ H a = some (.tup [.str (sL Wm.wWithin), .str (sL s), x]) ∧ TgtV H x g
  | .most x y c => ∃ a, v = .ref a ∧ H a = some (.tup [.str (sL Wm.wMost), .str (sL x), .str (sL y), .int c])
  | .path u p ts => ∃ a b vs, v = .ref a ∧ H a = some (.tup [.str (sL (Wm.hdW (.path u))), .str (sL p), .ref b]) ∧ H b = some (.tup vs) ∧ TrmsV H vs ts
mutual
def CndV (H : Hp) : Wm.Cnd → V → Prop
  | .smp s, v => SmpV H v s
  | .not c, v => ∃ a x, v = .ref a ∧ H a = some (.tup [.str (sL Wm.wNot), x]) ∧ CndV H c x
  | .many b cs, v => ∃ a d vs, v = .ref a ∧ H a = some (.tup [.str (sL (Wm.hdW (.many b))), .ref d]) ∧ H d = some (.tup vs) ∧ CndsV H cs vs
def CndsV (H : Hp) : List Wm.Cnd → List V → Prop
  | [], vs => vs = []
  | c :: cs, vs => ∃ x r, vs = x :: r ∧ CndV H c x ∧ CndsV H cs r
end
section
variable {H H' : Hp}
theorem TrmV.keep (s : Tups H H') {v : V} {t : Wm.Trm} (h : TrmV H v t) : TrmV H' v t := by
  cases t with
  | nm w => obtain ⟨a, e, h⟩ := h; exact ⟨a, e, s _ _ h⟩
  | fld w => obtain ⟨a, e, h⟩ := h; exact ⟨a, e, s _ _ h⟩
  | part w i => obtain ⟨a, e, h⟩ := h; exact ⟨a, e, s _ _ h⟩
theorem TrmsV.keep (s : Tups H H') : ∀ {vs : List V} {ts : List Wm.Trm}, TrmsV H vs ts → TrmsV H' vs ts
  | [], [], _ => trivial
  | v :: vs, t :: ts, h => ⟨h.1.keep s, TrmsV.keep s h.2⟩
  | [], _ :: _, h => h.elim
  | _ :: _, [], h => h.elim
theorem TrmsV.snoc {x : V} {t : Wm.Trm} (hx : TrmV H x t) : ∀ {vs : List V} {ts : List Wm.Trm}, TrmsV H vs ts → TrmsV H (vs ++ [x]) (ts ++ [t])
  | [], [], _ => ⟨hx, trivial⟩
  | v :: vs, t :: ts, h => ⟨h.1, TrmsV.snoc hx h.2⟩
  | [], _ :: _, h => h.elim
  | _ :: _, [], h => h.elim
theorem TrmsV.len : ∀ {vs : List V} {ts : List Wm.Trm}, TrmsV H vs ts → vs.length = ts.length
  | [], [], _ => rfl
  | v :: vs, t :: ts, h => by rw [List.length_cons, List.length_cons, TrmsV.len h.2]
  | [], _ :: _, h => h.elim
  | _ :: _, [], h => h.elim
theorem TgtV.keep (s : Tups H H') {v : V} {g : Wm.Tgt} (h : TgtV H v g) : TgtV H' v g := by
  cases g with
  | set w => obtain ⟨a, e, h⟩ := h; exact ⟨a, e, s _ _ h⟩
  | names ws => obtain ⟨a, b, e, h, k⟩ := h; exact ⟨a, b, e, s _ _ h, s _ _ k⟩
theorem SmpV.keep (s : Tups H H') {v : V} {g : Wm.Smp} (h : SmpV H v g) : SmpV H' v g := by
  cases g with
  | tt => obtain ⟨a, e, h⟩ := h; exact ⟨a, e, s _ _ h⟩
  | ff => obtain ⟨a, e, h⟩ := h; exact ⟨a, e, s _ _ h⟩
  | is t u => obtain ⟨a, x, y, e, h, h1, h2⟩ := h; exact ⟨a, x, y, e, s _ _ h, h1.keep s, h2.keep s⟩
  | inn t u => obtain ⟨a, x, e, h, h1⟩ := h; exact ⟨a, x, e, s _ _ h, h1.keep s⟩
  | mem t u => obtain ⟨a, x, e, h, h1⟩ := h; exact ⟨a, x, e, s _ _ h, h1.keep s⟩
  | within t u => obtain ⟨a, x, e, h, h1⟩ := h; exact ⟨a, x, e, s _ _ h, h1.keep s⟩
  | most x y c => obtain ⟨a, e, h⟩ := h; exact ⟨a, e, s _ _ h⟩
  | path u p ts => obtain ⟨a, b, vs, e, h, k, h1⟩ := h; exact ⟨a, b, vs, e, s _ _ h, s _ _ k, h1.keep s⟩
mutual
theorem CndV.keep (s : Tups H H') : ∀ {c : Wm.Cnd} {v : V}, CndV H c v → CndV H' c v
  | .smp g, v, h => by rw [CndV] at h ⊢; exact SmpV.keep s h
  | .not c, v, h => by
    rw [CndV] at h ⊢
    obtain ⟨a, x, e, h, k⟩ := h
    exact ⟨a, x, e, s _ _ h, CndV.keep s k⟩
  | .many b cs, v, h => by
    rw [CndV] at h ⊢
    obtain ⟨a, d, vs, e, h, k, q⟩ := h
    exact ⟨a, d, vs, e, s _ _ h, s _ _ k, CndsV.keep s q⟩
theorem CndsV.keep (s : Tups H H') : ∀ {cs : List Wm.Cnd} {vs : List V}, CndsV H cs vs → CndsV H' cs vs
  | [], vs, h => by rw [CndsV] at h ⊢; exact h
  | c :: cs, vs, h => by
    rw [CndsV] at h ⊢
    obtain ⟨x, r, e, h, k⟩ := h
    exact ⟨x, r, e, CndV.keep s h, CndsV.keep s k⟩
end
theorem CndsV.snoc {x : V} {c : Wm.Cnd} (hx : CndV H c x) : ∀ {cs : List Wm.Cnd} {vs : List V}, CndsV H cs vs → CndsV H (cs ++ [c]) (vs ++ [x])
  | [], vs, h => by
    rw [CndsV] at h
    subst h
    show CndsV H [c] [x]
    rw [CndsV]
    exact ⟨x, [], rfl, hx, by rw [CndsV]⟩
  | d :: cs, vs, h => by
    rw [CndsV] at h
    obtain ⟨y, r, e, h, k⟩ := h
    subst e
    show CndsV H (d :: (cs ++ [c])) (y :: (r ++ [x]))
    rw [CndsV]
    exact ⟨y, _, rfl, h, CndsV.snoc hx k⟩
theorem CndsV.len : ∀ {cs : List Wm.Cnd} {vs : List V}, CndsV H cs vs → vs.length = cs.length
  | [], vs, h => by rw [CndsV] at h; subst h; rfl
  | d :: cs, vs, h => by
    rw [CndsV] at h
    obtain ⟨y, r, e, h, k⟩ := h
    subst e
    rw [List.length_cons, List.length_cons, CndsV.len k]
end
/-! ### what a reading def is given, and what it leaves -/
/-- at r the reader, j tokens read, the automaton in s, the whole's result res -/
structure At (C B : Addr) (H : Hp) (E : XK) (r dx l : Addr) (refs : List Addr) (toks : Toks) (j : Nat) (s : Wm.St) (res : Wm.Res) : Prop where
  rd : RdAt C H r dx l refs toks j
  last : Lst toks
  lt : j < toks.length
  go : Wm.go s (toks.drop j) = res
  no : ∀ col, res = .bad col → Rs B r H E col
section
variable {C B : Addr} {H H' : Hp} {E : XK} {r dx l : Addr} {refs : List Addr} {toks : Toks} {j j' : Nat} {s s' : Wm.St} {res : Wm.Res} {t : Wm.Tk} {c : Nat}
theorem At.on (A : At C B H E r dx l refs toks j s res) (k : SameBut r H H') (o : H' r = some (.ins C dx (rdF l j'))) (lt : j' < toks.length) (g : Wm.go s' (toks.drop j') = res) : At C B H' E r dx l refs toks j' s' res :=
  ⟨A.rd.on k o, A.last, lt, g, fun col e => (A.no col e).on k⟩
/-- a token is taken -/
theorem At.step (A : At C B H E r dx l refs toks j s res) (h : toks[j]? = some (t, c)) (e : Wm.step s t = some s') : At C B (upd H r (.ins C dx (rdF l (j + 1)))) E r dx l refs toks (j + 1) s' res :=
  A.on SameBut.put upd_same (A.last j t c s s' h e) ((go_step h e).symm.trans A.go)
/-- a token does not fit -/
theorem At.stop (A : At C B H E r dx l refs toks j s res) (h : toks[j]? = some (t, c)) (e : Wm.step s t = none) (f : Wm.final s = none) : Rs B r H E c :=
  A.no c (A.go.symm.trans (go_stop h e f))
/-- the state is told otherwise -/
theorem At.same (A : At C B H E r dx l refs toks j s res) (h : toks[j]? = some (t, c)) (e : Wm.step s t = Wm.step s' t) (f : Wm.final s = none) (f' : Wm.final s' = none) : At C B H E r dx l refs toks j s' res :=
  ⟨A.rd, A.last, A.lt, (go_same h e f f').symm.trans A.go, A.no⟩
/-- other things change -/
theorem At.new {p : Addr} {o : HO} (A : At C B H E r dx l refs toks j s res) (h : H p = none) : At C B (upd H p o) E r dx l refs toks j s res :=
  A.on (SameBut.new h) (by rw [upd_ne (ne_of_none A.rd.obj h)]; exact A.rd.obj) A.lt A.go
theorem At.put {p : Addr} {xs ys : List V} (A : At C B H E r dx l refs toks j s res) (h : H p = some (.lst xs)) (hl : p ≠ l) (no : ∀ col, res = .bad col → Rs B r (upd H p (.lst ys)) E col) : At C B (upd H p (.lst ys)) E r dx l refs toks j s res := by
  have hr : p ≠ r := fun e => by have z := A.rd.obj; rw [← e, h] at z; cases z
  refine ⟨⟨?_, ?_, A.rd.tok.keep (Tups.put h fun xs e => by cases e), A.rd.few⟩, A.last, A.lt, A.go, no⟩
  · rw [upd_ne (Ne.symm hr)]; exact A.rd.obj
  · rw [upd_ne (Ne.symm hl)]; exact A.rd.lst
end
end Wk
end PartRd0
section PartRd1
set_option Elab.async false
set_option linter.all false
set_option maxRecDepth 100000
set_option maxHeartbeats 4000000
namespace Wk
open PySem PySem.Spec PyProof.Rows L2
/-- Reader's methods, and the errors' class -/
structure Rds (P : Program) (w : World) (K : PySem.W.Frag) (mg : Str → Option Value) (base : Heap) (C B : Addr) : Prop where
  R : RdT K C
  T : BadT K mg B
  kind : CalM P w K mg base CX0 1 C "kind" ["self"] (sp_kind C)
  value : CalM P w K mg base CX0 1 C "value" ["self"] (sp_value C)
  need : CalM P w K mg base (L2N.CX P w) 3 C "need" ["self", "fits"] (sp_need C B)
  take : CalM P w K mg base (L2N.CX P w) 4 C "take" ["self", "kind"] (sp_take C B)
section
variable {C B : Addr} {H : Hp} {E : XK} {r dx l : Addr} {refs : List Addr} {toks : Toks} {j : Nat} {s : Wm.St} {res : Wm.Res} {t : Wm.Tk} {c : Nat} {σ : L2.St} {Q : VK} {k : Str}
theorem rd_kind {E' : XK} (hσ : σ[0]? = some (some (.ref r))) (R : RdAt C H r dx l refs toks j) (h : toks[j]? = some (t, c)) (q : Q (.str (kindS t)) H) : tMeth C "kind" (sp_kind C) [] E' (tVar 0) tNil σ H Q :=
  ⟨_, hσ, r, dx, _, rfl, R.obj, rdF_kind _ _, r, dx, l, refs, toks, j, (t, c), rfl, R, h, q⟩
theorem rd_value {E' : XK} (hσ : σ[0]? = some (some (.ref r))) (R : RdAt C H r dx l refs toks j) (h : toks[j]? = some (t, c)) (q : Q (valV t) H) : tMeth C "value" (sp_value C) [] E' (tVar 0) tNil σ H Q :=
  ⟨_, hσ, r, dx, _, rfl, R.obj, rdF_value _ _, r, dx, l, refs, toks, j, (t, c), rfl, R, h, q⟩
/-- reader.take(k) where the next token is of that kind -/
theorem rd_take (hσ : σ[0]? = some (some (.ref r))) (R : RdAt C H r dx l refs toks j) (h : toks[j]? = some (t, c)) (q1 : kindS t = k → Q (valV t) (upd H r (.ins C dx (rdF l (j + 1))))) (q2 : kindS t ≠ k → Rs B r H E c) :
    tMeth C "take" (sp_take C B) [] E (tVar 0) (tCons (tC (.str k)) tNil) σ H Q :=
  ⟨_, hσ, r, dx, _, rfl, R.obj, rdF_take _ _, r, dx, l, refs, toks, j, (t, c), k, rfl, R, h, q1, q2⟩
theorem rd_need {te : TE} {b : Bool} (hσ : σ[0]? = some (some (.ref r))) (R : RdAt C H r dx l refs toks j) (h : toks[j]? = some (t, c)) (e : ∀ Q' : VK, Q' (.bl b) H → te σ H Q') (q1 : b = true → Q .non H) (q2 : b = false → Rs B r H E c) :
    tMeth C "need" (sp_need C B) [] E (tVar 0) (tCons te tNil) σ H Q :=
  ⟨_, hσ, r, dx, _, rfl, R.obj, rdF_need _ _, e _ ⟨r, dx, l, refs, toks, j, (t, c), b, rfl, R, h, q1, q2⟩⟩
end
/-- what a reading def hands back: v, the reader at j', the automaton in s' -/
def Bk (C : Addr) (H : Hp) (r dx l : Addr) (toks : Toks) (j : Nat) (res : Wm.Res) (s' : Wm.St) (H' : Hp) : Prop :=
  SameBut r H H' ∧ ∃ j', j ≤ j' ∧ H' r = some (.ins C dx (rdF l j')) ∧ j' < toks.length ∧ Wm.go s' (toks.drop j') = res
/-- .. and the bracket closes c next, or the next token does not fit -/
def BkC (C : Addr) (H : Hp) (r dx l : Addr) (toks : Toks) (j : Nat) (res : Wm.Res) (c : Wm.Cnd) (S : List Wm.Fr) (H' : Hp) : Prop :=
  SameBut r H H' ∧ ∃ j' s', j ≤ j' ∧ H' r = some (.ins C dx (rdF l j')) ∧ j' < toks.length ∧ Wm.go s' (toks.drop j') = res ∧ Wm.final s' = none ∧ ∀ t d, toks[j']? = some (t, d) → Wm.step s' t = if t = .mark 41 then some (.done c, S) else none
theorem final_endT (k : Wm.TC) (t : Wm.Trm) (S : List Wm.Fr) : Wm.final (Wm.endT k t, S) = none := by cases k <;> rfl
section
variable {P : Program} {w : World} {K : PySem.W.Frag} {mg : Str → Option Value} {base : Heap} {C B : Addr}
abbrev s_read_field_term : Stmt := topS 28
abbrev N_read_field_term : List Str := ["reader", "field"]
theorem sc_read_field_term : FnScope N_read_field_term ["reader"] (defScope s_read_field_term) := ⟨rfl, rfl, rfl, by decide +kernel, rfl, by decide +kernel, by decide +kernel⟩
/-- a field or part term is due (a name stands next only where none may) -/
def sp_read_field_term (C B : Addr) : Sp := fun vs H Q E => ∃ (r dx l : Addr) (refs : List Addr) (toks : Toks) (j : Nat) (k : Wm.TC) (S : List Wm.Fr) (res : Wm.Res), vs = [.ref r] ∧ At C B H E r dx l refs toks j (.term k, S) res ∧
  (∀ w c, toks[j]? = some (.name w, c) → Wm.nameOk k w = false) ∧ ∀ v H' tr, TrmV H' v tr → Bk C H r dx l toks j res (Wm.endT k tr, S) H' → Q v H'
theorem ok_read_field_term (G : Glob K mg) (M : Rds P w K mg base C B) (D : Df K mg "read_field_term" s_read_field_term ["reader"]) : Cal P w K mg base (L2N.CX P w) 5 "read_field_term" ["reader"] (sp_read_field_term C B) := by
  refine D.okN sc_read_field_term (fun vs H Q E h => ?_) (fun f cdv A outer s H vs Q E hr h => ?_)
  · obtain ⟨r, dx, l, refs, toks, j, k, S, res, rfl, _⟩ := h
    rfl
  obtain ⟨r, dx, l, refs, toks, j, k, S, res, rfl, A1, hn, q⟩ := h
  obtain ⟨R, T, M_kind, M_value, M_need, M_take⟩ := M
  refine ⟨_, (pss_cons (ps_set (i := 1) sc_read_field_term.nd rfl (Or.inl rfl) (pe_calM (pv 0) R.cl M_take (hr.mono (by decide)) (passN rfl rfl rfl rfl) (pa_cons pe_str pa_nil)))
    (pss_cons (ps_if (pt_cmpR op_ne (pe_calM0 (pv 0) R.cl M_kind (hr.mono (by decide)) pass0) pe_str (nomark _))
      (pss_one (ps_ret (pe_tup (pa_cons pe_str (pa_cons (pv 1) pa_nil)))))
      pss_nil)
    (pss_cons (ps_expr (pe_calM (pv 0) R.cl M_take (hr.mono (by decide)) (passN rfl rfl rfl rfl) (pa_cons pe_str pa_nil)))
    (pss_cons (ps_expr (pe_calM (pv 0) R.cl M_need (hr.mono (by decide)) (passN rfl rfl rfl rfl) (pa_cons (pe_and (pe_cmpR op_eq (pe_calM0 (pv 0) R.cl M_kind (hr.mono (by decide)) pass0) pe_str (nomark _)) (pe_one (pe_chain op_le op_le pe_int (pe_calM0 (pv 0) R.cl M_value (hr.mono (by decide)) pass0) (pe_gv G.MOST_INDEX)))) pa_nil)))
    (pss_one (ps_ret (pe_tup (pa_cons pe_str (pa_cons (pv 1) (pa_cons (pe_calM (pv 0) R.cl M_take (hr.mono (by decide)) (passN rfl rfl rfl rfl) (pa_cons pe_str pa_nil)) pa_nil)))))))))), ?_⟩
  obtain ⟨t, c, ht⟩ := tok_at A1.lt
  refine rd_take rfl A1.rd ht (fun e => ?_) (fun e => ?_)
  rotate_left
  · refine A1.stop ht ?_ rfl
    show Wm.dTerm k S t = none
    cases t with
    | word w => exact absurd rfl e
    | name w => simp only [Wm.dTerm]; rw [hn w c ht] <;> rfl
    | _ => rfl
  obtain ⟨wd, rfl⟩ := (kind_word t).mp e
  have A2 := A1.step ht (s' := (.fend k wd, S)) rfl
  obtain ⟨t2, c2, ht2⟩ := tok_at A2.lt
  -- if reader.kind() != "."
  refine rd_kind rfl A2.rd ht2 ⟨rfl, _, rfl, ?_⟩
  rw [dec_str']
  by_cases e2 : kindS t2 = Str.ofString "."
  · rw [decide_eq_true e2]
    refine iteF ?_
    have e2' := (kind_mark l_dot t2).mp e2
    subst e2'
    refine rd_take rfl A2.rd ht2 (fun _ => ?_) (fun e => absurd e2 e)
    have A3 := A2.step ht2 (s' := (.idx k wd, S)) rfl
    obtain ⟨t3, c3, ht3⟩ := tok_at A3.lt
    have bad : (∀ n, t3 = .int n → ¬ (0 ≤ n ∧ n ≤ 40)) → Rs B r _ E c3 := fun h => by
      refine A3.stop ht3 ?_ rfl
      cases t3 with
      | int n => exact if_neg (h n rfl)
      | _ => rfl
    by_cases e3 : kindS t3 = Str.ofString "integer"
    · obtain ⟨n, rfl⟩ := (kind_int t3).mp e3
      by_cases hn : 0 ≤ n ∧ n ≤ 40
      · refine rd_need (b := true) rfl A3.rd ht3 (fun Q' q' => ?_) (fun _ => ?_) (fun e => by cases e)
        · refine rd_kind rfl A3.rd ht3 ⟨rfl, _, rfl, ?_⟩
          rw [dec_str', decide_eq_true e3]
          refine iteT ?_
          refine rd_value rfl A3.rd ht3 ⟨_, _, rfl, rfl, _, rfl, ?_⟩
          rw [decide_eq_true hn.1]
          refine iteT ⟨_, _, rfl, rfl, ?_⟩
          show Q' (V.bl (decide (n ≤ (40 : Int)))) _
          rw [decide_eq_true hn.2]
          exact q'
        refine ⟨_, rfl, rd_take rfl A3.rd ht3 (fun _ => ?_) (fun e => absurd e3 e)⟩
        have hst : Wm.step (.idx k wd, S) (.int n) = some (Wm.endT k (.part wd n.toNat), S) := if_pos hn
        have A4 := A3.step ht3 hst
        refine ⟨(by show 3 ≤ sizeLine; decide), fun p hp => ?_⟩
        have A5 := A4.new hp (o := .tup [.str (Str.ofString "part"), .str (sL wd), .int n])
        refine q _ _ (.part wd n.toNat) ⟨p, rfl, ?_⟩ ⟨((SameBut.put.trans SameBut.put).trans SameBut.put).trans (SameBut.new hp), _, by omega, A5.rd.obj, A5.lt, A5.go⟩
        rw [upd_same, show ((n.toNat : Nat) : Int) = n from Int.toNat_of_nonneg hn.1]
        rfl
      · refine rd_need (b := false) rfl A3.rd ht3 (fun Q' q' => ?_) (fun e => by cases e) (fun _ => bad fun m e => by cases e; exact hn)
        refine rd_kind rfl A3.rd ht3 ⟨rfl, _, rfl, ?_⟩
        rw [dec_str', decide_eq_true e3]
        refine iteT ?_
        refine rd_value rfl A3.rd ht3 ⟨_, _, rfl, rfl, _, rfl, ?_⟩
        by_cases h0 : 0 ≤ n
        · rw [decide_eq_true h0]
          refine iteT ⟨_, _, rfl, rfl, ?_⟩
          show Q' (V.bl (decide (n ≤ (40 : Int)))) _
          rw [decide_eq_false (fun h => hn ⟨h0, h⟩)]
          exact q'
        · rw [decide_eq_false h0]
          exact iteF q'
    · refine rd_need (b := false) rfl A3.rd ht3 (fun Q' q' => ?_) (fun e => by cases e) (fun _ => bad fun m e => absurd ((kind_int t3).mpr ⟨m, e⟩) e3)
      refine rd_kind rfl A3.rd ht3 ⟨rfl, _, rfl, ?_⟩
      rw [dec_str', decide_eq_false e3]
      exact iteF q'
  · rw [decide_eq_false e2]
    refine iteT ?_
    have e2' : t2 ≠ .mark 46 := fun e => e2 ((kind_mark l_dot t2).mpr e)
    refine ⟨_, rfl, (by show 2 ≤ sizeLine; decide), fun p hp => ?_⟩
    have A3 := A2.same ht2 (s' := (Wm.endT k (.fld wd), S)) (by rw [Wm.step_fend e2', Wm.step_eq]; intro k' w' e; cases k <;> cases e) rfl (final_endT _ _ _)
    have A4 := A3.new hp (o := .tup [.str (Str.ofString "field"), .str (sL wd)])
    exact q _ _ (.fld wd) ⟨p, rfl, upd_same⟩ ⟨SameBut.put.trans (SameBut.new hp), _, by omega, A4.rd.obj, A4.lt, A4.go⟩
abbrev s_read_term : Stmt := topS 29
abbrev N_read_term : List Str := ["reader"]
theorem sc_read_term : FnScope N_read_term ["reader"] (defScope s_read_term) := ⟨rfl, rfl, rfl, by decide +kernel, rfl, by decide +kernel, by decide +kernel⟩
/-- a term is due; a name that stands next may stand there -/
def sp_read_term (C B : Addr) : Sp := fun vs H Q E => ∃ (r dx l : Addr) (refs : List Addr) (toks : Toks) (j : Nat) (k : Wm.TC) (S : List Wm.Fr) (res : Wm.Res), vs = [.ref r] ∧ At C B H E r dx l refs toks j (.term k, S) res ∧
  (∀ w c, toks[j]? = some (.name w, c) → Wm.nameOk k w = true) ∧ ∀ v H' tr, TrmV H' v tr → Bk C H r dx l toks j res (Wm.endT k tr, S) H' → Q v H'
theorem ok_read_term (M : Rds P w K mg base C B) (D : Df K mg "read_term" s_read_term ["reader"]) (C_read_field_term : Cal P w K mg base (L2N.CX P w) 5 "read_field_term" ["reader"] (sp_read_field_term C B)) :
    Cal P w K mg base (L2N.CX P w) 6 "read_term" ["reader"] (sp_read_term C B) := by
  refine D.okN sc_read_term (fun vs H Q E h => ?_) (fun f cdv A outer s H vs Q E hr h => ?_)
  · obtain ⟨r, dx, l, refs, toks, j, k, S, res, rfl, _⟩ := h
    rfl
  obtain ⟨r, dx, l, refs, toks, j, k, S, res, rfl, A1, hn, q⟩ := h
  obtain ⟨R, T, M_kind, M_value, M_need, M_take⟩ := M
  refine ⟨_, (pss_cons (ps_if (pt_cmpR op_eq (pe_calM0 (pv 0) R.cl M_kind (hr.mono (by decide)) pass0) pe_str (nomark _))
      (pss_one (ps_ret (pe_tup (pa_cons pe_str (pa_cons (pe_calM (pv 0) R.cl M_take (hr.mono (by decide)) (passN rfl rfl rfl rfl) (pa_cons pe_str pa_nil)) pa_nil)))))
      pss_nil)
    (pss_one (ps_ret (pe_cal C_read_field_term (hr.mono (by decide)) (passN rfl rfl rfl rfl) (pa_cons (pv 0) pa_nil))))), ?_⟩
  obtain ⟨t, c, ht⟩ := tok_at A1.lt
  refine rd_kind rfl A1.rd ht ⟨rfl, _, rfl, ?_⟩
  rw [dec_str']
  by_cases e : kindS t = Str.ofString "name"
  · rw [decide_eq_true e]
    refine iteT ?_
    obtain ⟨wd, rfl⟩ := (kind_name t).mp e
    refine rd_take rfl A1.rd ht (fun _ => ?_) (fun z => absurd e z)
    have hst : Wm.step (.term k, S) (.name wd) = some (Wm.endT k (.nm wd), S) := if_pos (hn wd c ht)
    have A2 := A1.step ht hst
    refine ⟨(by show 2 ≤ sizeLine; decide), fun p hp => ?_⟩
    have A3 := A2.new hp (o := .tup [.str (Str.ofString "name"), .str (sL wd)])
    exact q _ _ (.nm wd) ⟨p, rfl, upd_same⟩ ⟨SameBut.put.trans (SameBut.new hp), _, by omega, A3.rd.obj, A3.lt, A3.go⟩
  · rw [decide_eq_false e]
    refine iteF ?_
    refine ⟨_, rfl, r, dx, l, refs, toks, j, k, S, res, rfl, A1, fun w' c' h' => ?_, q⟩
    rw [ht] at h'
    cases h'
    exact absurd rfl e
abbrev s_read_template_term : Stmt := topS 30
abbrev N_read_template_term : List Str := ["reader"]
theorem sc_read_template_term : FnScope N_read_template_term ["reader"] (defScope s_read_template_term) := ⟨rfl, rfl, rfl, by decide +kernel, rfl, by decide +kernel, by decide +kernel⟩
def sp_read_template_term (C B : Addr) : Sp := fun vs H Q E => ∃ (r dx l : Addr) (refs : List Addr) (toks : Toks) (j : Nat) (u : Bool) (p : Wm.L) (ts : List Wm.Trm) (S : List Wm.Fr) (res : Wm.Res), vs = [.ref r] ∧
  At C B H E r dx l refs toks j (.term (.tmp u p ts), S) res ∧ ∀ v H' tr, TrmV H' v tr → Bk C H r dx l toks j res (.tmE u p (ts ++ [tr]), S) H' → Q v H'
theorem dec_ne (a b : V) : (!decide (a = b)) = decide (a ≠ b) := by
  by_cases h : a = b
  · simp [h]
  · simp [h]
theorem s_empty : Str.ofString "" = sL [] := by decide +kernel
theorem ok_read_template_term (M : Rds P w K mg base C B) (D : Df K mg "read_template_term" s_read_template_term ["reader"]) (C_read_term : Cal P w K mg base (L2N.CX P w) 6 "read_term" ["reader"] (sp_read_term C B)) :
    Cal P w K mg base (L2N.CX P w) 7 "read_template_term" ["reader"] (sp_read_template_term C B) := by
  refine D.okN sc_read_template_term (fun vs H Q E h => ?_) (fun f cdv A outer s H vs Q E hr h => ?_)
  · obtain ⟨r, dx, l, refs, toks, j, u, p, ts, S, res, rfl, _⟩ := h
    rfl
  obtain ⟨r, dx, l, refs, toks, j, u, p, ts, S, res, rfl, A1, q⟩ := h
  obtain ⟨R, T, M_kind, M_value, M_need, M_take⟩ := M
  refine ⟨_, (pss_cons (ps_expr (pe_calM (pv 0) R.cl M_need (hr.mono (by decide)) (passN rfl rfl rfl rfl) (pa_cons (pe_or (pe_cmpR op_ne (pe_calM0 (pv 0) R.cl M_kind (hr.mono (by decide)) pass0) pe_str (nomark _)) (pe_one (pe_cmpR op_ne (pe_calM0 (pv 0) R.cl M_value (hr.mono (by decide)) pass0) pe_str (nomark _)))) pa_nil)))
    (pss_one (ps_ret (pe_cal C_read_term (hr.mono (by decide)) (passN rfl rfl rfl rfl) (pa_cons (pv 0) pa_nil))))), ?_⟩
  obtain ⟨t, c, ht⟩ := tok_at A1.lt
  -- the test
  have test : ∀ b : Bool, (b = true ↔ ∀ wd, t = .name wd → wd ≠ []) → ∀ Q' : VK, Q' (.bl b) H → (tOrV (tOp rNe (tMeth C "kind" (sp_kind C) [] E0 (tVar 0) tNil) (tC (.str (Str.ofString "name")))) (tOp rNe (tMeth C "value" (sp_value C) [] E0 (tVar 0) tNil) (tC (.str (Str.ofString ""))))) (L2.start N_read_template_term [V.ref r]) H Q' := by
    intro b hb Q' q'
    refine rd_kind rfl A1.rd ht ⟨rfl, _, rfl, ?_⟩
    rw [dec_str']
    by_cases e : kindS t = Str.ofString "name"
    · rw [decide_eq_true e]
      refine iteF ?_
      obtain ⟨wd, rfl⟩ := (kind_name t).mp e
      refine rd_value rfl A1.rd ht ⟨rfl, ?_⟩
      rw [show valV (.name wd) = V.str (sL wd) from rfl, s_empty, dec_sL]
      have eb : b = !decide (wd = []) := by
        by_cases hw : wd = []
        · rw [decide_eq_true hw]
          cases b with
          | false => rfl
          | true => exact absurd hw (hb.mp rfl wd rfl)
        · rw [decide_eq_false hw]
          exact hb.mpr fun w' e' => by cases e'; exact hw
      rw [← eb]
      exact q'
    · rw [decide_eq_false e]
      refine iteT ?_
      have eb : b = true := hb.mpr fun w' e' => absurd (show kindS t = Str.ofString "name" by rw [e']; rfl) e
      rw [← eb]
      exact q'
  by_cases hb : ∀ wd, t = .name wd → wd ≠ []
  · refine rd_need (b := true) rfl A1.rd ht (test true ⟨fun _ => hb, fun _ => rfl⟩) (fun _ => ?_) (fun e => by cases e)
    refine ⟨_, rfl, r, dx, l, refs, toks, j, .tmp u p ts, S, res, rfl, A1, fun w' c' h' => ?_, q⟩
    rw [ht] at h'
    cases h'
    have := hb w' rfl
    cases w' with
    | nil => exact absurd rfl this
    | cons a b => rfl
  · refine rd_need (b := false) rfl A1.rd ht (test false ⟨fun e => (by cases e), fun e => absurd e hb⟩) (fun e => by cases e) (fun _ => A1.stop ht ?_ rfl)
    have : ∃ wd, t = .name wd ∧ wd = [] := by
      refine Classical.byContradiction fun n => hb fun wd e1 e2 => n ⟨wd, e1, e2⟩
    obtain ⟨wd, e1, e2⟩ := this
    subst e1 e2
    rfl
end
end Wk
end PartRd1
section PartRd2
set_option Elab.async false
set_option linter.all false
set_option maxRecDepth 100000
set_option maxHeartbeats 4000000
namespace Wk
open PySem PySem.Spec PyProof.Rows L2
section
variable {C B : Addr} {H H0 : Hp} {E : XK} {r dx l p : Addr} {refs : List Addr} {toks : Toks} {j : Nat} {s : Wm.St} {res : Wm.Res} {xs ys : List V}
theorem SameBut.put0 {o : HO} (k : SameBut r H0 H) (h0 : H0 p = none) : SameBut r H0 (upd H p o) := fun b u n e => by
  rw [upd_ne (ne_of_none e h0)]
  exact k b u n e
/-- a list of the def's own is changed -/
theorem At.app (A : At C B H E r dx l refs toks j s res) (h : H p = some (.lst xs)) (hl : p ≠ l) (k : SameBut r H0 H) (h0 : H0 p = none) (no : ∀ col, res = .bad col → Rs B r H0 E col) : At C B (upd H p (.lst ys)) E r dx l refs toks j s res :=
  A.put h hl fun col e => (no col e).on (k.put0 h0)
theorem At.nl (A : At C B H E r dx l refs toks j s res) (h : H p = none) : p ≠ l := fun e => by
  rw [e, A.rd.lst] at h
  cases h
theorem At.nr (A : At C B H E r dx l refs toks j s res) (h : H p = none) : p ≠ r := fun e => by
  rw [e, A.rd.obj] at h
  cases h
end
theorem step_tmE (u : Bool) (p : Wm.L) (ts : List Wm.Trm) (S : List Wm.Fr) (t : Wm.Tk) : Wm.step (.tmE u p ts, S) t = if t = .mark 41 then some (.done (.smp (.path u p ts)), S) else if t = .mark 47 ∧ ts.length < 40 then some (.term (.tmp u p ts), S) else none := rfl
section
variable {P : Program} {w : World} {K : PySem.W.Frag} {mg : Str → Option Value} {base : Heap} {C B : Addr}
abbrev s_read_template : Stmt := topS 31
abbrev N_read_template : List Str := ["reader", "terms"]
theorem sc_read_template : FnScope N_read_template ["reader"] (defScope s_read_template) := ⟨rfl, rfl, rfl, by decide +kernel, rfl, by decide +kernel, by decide +kernel⟩
def sp_read_template (C B : Addr) : Sp := fun vs H Q E => ∃ (r dx l : Addr) (refs : List Addr) (toks : Toks) (j : Nat) (u : Bool) (p : Wm.L) (S : List Wm.Fr) (res : Wm.Res), vs = [.ref r] ∧ At C B H E r dx l refs toks j (.tm0 u p, S) res ∧
  ∀ a H' xs ts, H' a = some (.tup xs) → TrmsV H' xs ts → BkC C H r dx l toks j res (.smp (.path u p ts)) S H' → Q (.ref a) H'
theorem ok_read_template (G : Glob K mg) (M : Rds P w K mg base C B) (D : Df K mg "read_template" s_read_template ["reader"]) (C_read_template_term : Cal P w K mg base (L2N.CX P w) 7 "read_template_term" ["reader"] (sp_read_template_term C B)) :
    Cal P w K mg base (L2N.CX P w) 8 "read_template" ["reader"] (sp_read_template C B) := by
  refine D.okN sc_read_template (fun vs H Q E h => ?_) (fun f cdv A outer s H vs Q E hr h => ?_)
  · obtain ⟨r, dx, l, refs, toks, j, u, p, S, res, rfl, _⟩ := h
    rfl
  obtain ⟨r, dx, l, refs, toks, j, u, pth, S, res, rfl, A1, q⟩ := h
  obtain ⟨R, T, M_kind, M_value, M_need, M_take⟩ := M
  refine ⟨_, (pss_cons (ps_expr (pe_calM (pv 0) R.cl M_take (hr.mono (by decide)) (passN rfl rfl rfl rfl) (pa_cons pe_str pa_nil)))
    (pss_cons (ps_if (pt_cmpR op_eq (pe_calM0 (pv 0) R.cl M_kind (hr.mono (by decide)) pass0) pe_str (nomark _))
      (pss_one (ps_ret (pe_tup pa_nil)))
      pss_nil)
    (pss_cons (ps_set (i := 1) sc_read_template.nd rfl (Or.inl rfl) (pe_lst (pa_cons (pe_cal C_read_template_term (hr.mono (by decide)) (passN rfl rfl rfl rfl) (pa_cons (pv 0) pa_nil)) pa_nil)))
    (pss_cons (ps_while (passes_of rfl) (pt_cmpR op_eq (pe_calM0 (pv 0) R.cl M_kind (hr.mono (by decide)) pass0) pe_str (nomark _))
      (pss_cons (ps_expr (pe_calM (pv 0) R.cl M_need (hr.mono (by decide)) (passN rfl rfl rfl rfl) (pa_cons (pe_cmpR op_lt (pe_callB call_len_seq rfl G.len PySem.boot_len (pa_cons (pv 1) pa_nil)) (pe_gv G.MOST_TERMS) (nomark _)) pa_nil)))
      (pss_cons (ps_expr (pe_calM (pv 0) R.cl M_take (hr.mono (by decide)) (passN rfl rfl rfl rfl) (pa_cons pe_str pa_nil)))
      (pss_one (ps_expr (pe_bm PySem.F.plainAttrs_list PySem.F.slot_list_append PySem.F.type_list_append mt_append (pv 1) (pa_cons (pe_cal C_read_template_term (hr.mono (by decide)) (passN rfl rfl rfl rfl) (pa_cons (pv 0) pa_nil)) pa_nil)))))))
    (pss_one (ps_ret (pe_callTy call_tuple_of rfl G.tuple boot_tuple (pa_cons (pv 1) pa_nil)))))))), ?_⟩
  obtain ⟨t, c, ht⟩ := tok_at A1.lt
  -- take("/")
  refine rd_take rfl A1.rd ht (fun e => ?_) (fun e => A1.stop ht ?_ rfl)
  rotate_left
  · refine if_neg fun h => e ?_
    exact (kind_mark l_slash t).mpr h
  have et := (kind_mark l_slash t).mp e
  subst et
  have A2 := A1.step ht (s' := (.tm1 u pth, S)) rfl
  obtain ⟨t2, c2, ht2⟩ := tok_at A2.lt
  -- if reader.kind() == ")"
  refine rd_kind rfl A2.rd ht2 ⟨rfl, _, rfl, ?_⟩
  rw [dec_str']
  by_cases e2 : kindS t2 = Str.ofString ")"
  · rw [decide_eq_true e2]
    refine iteT ?_
    have et2 := (kind_mark l_close t2).mp e2
    refine ⟨(by show 0 ≤ sizeLine; decide), fun p hp => ?_⟩
    have A3 := A2.new hp (o := .tup [])
    refine q p _ [] [] upd_same trivial ⟨SameBut.put.trans (SameBut.new hp), _, _, by omega, A3.rd.obj, A3.lt, A3.go, rfl, fun t d h => ?_⟩
    rw [ht2] at h
    cases h
    subst et2
    rfl
  rw [decide_eq_false e2]
  refine iteF ?_
  have et2 : t2 ≠ .mark 41 := fun h => e2 ((kind_mark l_close t2).mpr h)
  have A3 := A2.same ht2 (s' := (.term (.tmp u pth []), S)) (if_neg et2) rfl rfl
  -- terms = [..]
  refine ⟨_, rfl, r, dx, l, refs, toks, j + 1, u, pth, [], S, res, rfl, A3, fun v1 H1 tr1 hv1 ⟨k1, j1, le1, o1, lt1, g1⟩ => ?_⟩
  have A4 := A3.on k1 o1 lt1 g1
  refine ⟨(by show 1 ≤ sizeLine; decide), fun lt hlt => ?_⟩
  have A5 := A4.new hlt (o := .lst [v1])
  have k01 : SameBut r H H1 := SameBut.put.trans k1
  have k02 : SameBut r H (upd H1 lt (.lst [v1])) := k01.trans (SameBut.new hlt)
  have h0 : H lt = none := by
    cases z : H lt with
    | none => rfl
    | some o => rw [k01 lt o (A4.nr hlt) z] at hlt; cases hlt
  have hll := A4.nl hlt
  refine ⟨fun m σ H' => ∃ (xs : List V) (ts : List Wm.Trm) (j' : Nat), m = toks.length - j' ∧ σ = [some (.ref r), some (.ref lt)] ∧ H' lt = some (.lst xs) ∧ TrmsV H' xs ts ∧ SameBut r H H' ∧ j ≤ j' ∧ At C B H' E r dx l refs toks j' (.tmE u pth ts, S) res,
    ⟨_, [v1], [tr1], j1, rfl, rfl, upd_same, ⟨hv1.keep (Same.tups (Same.new hlt)), trivial⟩, k02, by omega, A5⟩, ?_⟩
  rintro m σ H' ⟨xs, ts, j', rfl, rfl, hL, hT, hS, hj, A6⟩
  obtain ⟨t3, c3, ht3⟩ := tok_at A6.lt
  refine rd_kind rfl A6.rd ht3 ⟨rfl, _, rfl, ?_⟩
  rw [dec_str']
  by_cases e3 : kindS t3 = Str.ofString "/"
  · rw [decide_eq_true e3]
    refine iteT ?_
    have et3 := (kind_mark l_slash t3).mp e3
    subst et3
    refine ⟨fun σ' H'' => ∃ (xs : List V) (ts : List Wm.Trm) (j'' : Nat), j' < j'' ∧ σ' = [some (.ref r), some (.ref lt)] ∧ H'' lt = some (.lst xs) ∧ TrmsV H'' xs ts ∧ SameBut r H H'' ∧ j ≤ j'' ∧ At C B H'' E r dx l refs toks j'' (.tmE u pth ts, S) res,
      fun σ' H'' ⟨xs, ts, j'', h1, h2⟩ => ⟨_, by have := h2.2.2.2.2.2.lt; have := A6.lt; omega, xs, ts, j'', rfl, h2⟩, ?_⟩
    have hlen := hT.len
    have tlen : ∀ Q' : VK, Q' (.bl (decide (ts.length < 40))) H' → (tOp (rI0 fun i j => .bl (decide (i < j))) (tCB (fun xs H Q => ∃ p ys, xs = [.ref p] ∧ (SqL K H p ys ∨ SqT K H p ys) ∧ Q (.int ys.length) H) (tCons (tVar 1) tNil)) (tC (.int 40))) [some (.ref r), some (.ref lt)] H' Q' := by
      intro Q' q'
      refine ⟨_, rfl, lt, xs, rfl, .inl (SqL.of hL), _, _, rfl, rfl, ?_⟩
      show Q' (.bl (decide ((xs.length : Int) < 40))) H'
      rw [show decide ((xs.length : Int) < 40) = decide (ts.length < 40) from decide_eq_decide.mpr (by omega)]
      exact q'
    refine rd_need (b := decide (ts.length < 40)) rfl A6.rd ht3 tlen (fun hb => ?_) (fun hb => A6.stop ht3 ?_ rfl)
    rotate_left
    · rw [step_tmE, if_neg (by simp), if_neg (fun h => of_decide_eq_false hb h.2)]
    have hb' := of_decide_eq_true hb
    refine rd_take rfl A6.rd ht3 (fun _ => ?_) (fun e => absurd e3 e)
    have A7 := A6.step ht3 (s' := (.term (.tmp u pth ts), S)) (by
      rw [step_tmE, if_neg (by simp), if_pos ⟨rfl, hb'⟩])
    have nlr : lt ≠ r := A4.nr hlt
    have hL7 : upd H' r (.ins C dx (rdF l (j' + 1))) lt = some (.lst xs) := by rw [upd_ne nlr]; exact hL
    refine ⟨_, rfl, .inl ⟨rfl, _, SqL.of hL7⟩, _, rfl, r, dx, l, refs, toks, j' + 1, u, pth, ts, S, res, rfl, A7, fun v2 H2 tr2 hv2 ⟨k2, j2, le2, o2, lt2, g2⟩ => ?_⟩
    have A8 := A7.on k2 o2 lt2 g2
    have hL8 : H2 lt = some (.lst xs) := k2 _ _ nlr hL7
    have k8 : SameBut r H H2 := hS.trans (SameBut.put.trans k2)
    have k68 : SameBut r H' H2 := SameBut.put.trans k2
    have up : Tups H2 (upd H2 lt (.lst (xs ++ [v2]))) := Tups.put hL8 fun xs e => by cases e
    refine ⟨lt, xs, v2, rfl, rfl, hL8, Nat.lt_of_lt_of_le (by omega : xs.length < 1000) (by decide), ?_⟩
    have hjj : j' < j2 := by omega
    exact ⟨xs ++ [v2], ts ++ [tr2], j2, hjj, rfl, upd_same, TrmsV.snoc (hv2.keep up) ((hT.keep (k68.tups A6.rd.obj)).keep up), k8.put0 h0, by omega, A8.app hL8 hll k8 h0 A1.no⟩
  · rw [decide_eq_false e3]
    refine iteF ?_
    have et3 : t3 ≠ .mark 47 := fun h => e3 ((kind_mark l_slash t3).mpr h)
    refine ⟨_, rfl, lt, xs, rfl, .inl ⟨SqL.of hL, fun p hp => ?_⟩⟩
    have A7 := A6.new hp (o := .tup xs)
    refine q p _ xs ts upd_same (hT.keep (Same.tups (Same.new hp))) ⟨hS.trans (SameBut.new hp), _, _, by omega, A7.rd.obj, A7.lt, A7.go, rfl, fun t d h => ?_⟩
    rw [ht3] at h
    cases h
    rw [step_tmE]
    by_cases h41 : t3 = .mark 41
    · rw [if_pos h41, if_pos h41]
    · rw [if_neg h41, if_neg h41, if_neg fun h => et3 h.1]
end
end Wk
end PartRd2
section PartRd3
set_option Elab.async false
set_option linter.all false
set_option maxRecDepth 100000
set_option maxHeartbeats 4000000
namespace Wk
open PySem PySem.Spec PyProof.Rows L2
theorem step_brE (s : Wm.L) (ws : List Wm.L) (S : List Wm.Fr) (t : Wm.Tk) : Wm.step (.brE s ws, S) t = if t = .mark 125 then some (.close (.within s (.names ws)), S) else if t = .mark 44 then some (.brN s ws, S) else none := rfl
theorem step_br0 (s : Wm.L) (S : List Wm.Fr) (t : Wm.Tk) : Wm.step (.br0 s, S) t = if t = .mark 125 then some (.close (.within s (.names [])), S) else Wm.dName s [] S t := rfl
section
variable {P : Program} {w : World} {K : PySem.W.Frag} {mg : Str → Option Value} {base : Heap} {C B : Addr}
abbrev s_read_name_after : Stmt := topS 32
abbrev N_read_name_after : List Str := ["reader", "before"]
theorem sc_read_name_after : FnScope N_read_name_after ["reader", "before"] (defScope s_read_name_after) := ⟨rfl, rfl, rfl, by decide +kernel, rfl, by decide +kernel, by decide +kernel⟩
def sp_read_name_after (C B : Addr) : Sp := fun vs H Q E => ∃ (r dx l : Addr) (refs : List Addr) (toks : Toks) (j : Nat) (sw : Wm.L) (ws : List Wm.L) (S : List Wm.Fr) (res : Wm.Res), vs = [.ref r, .str (sL (Wm.lastW ws))] ∧ At C B H E r dx l refs toks j (.brN sw ws, S) res ∧
  ∀ H' wd, Bk C H r dx l toks (j + 1) res (.brE sw (ws ++ [wd]), S) H' → Q (.str (sL wd)) H'
theorem ok_read_name_after (M : Rds P w K mg base C B) (D : Df K mg "read_name_after" s_read_name_after ["reader", "before"]) : Cal P w K mg base (L2N.CX P w) 5 "read_name_after" ["reader", "before"] (sp_read_name_after C B) := by
  refine D.okN sc_read_name_after (fun vs H Q E h => ?_) (fun f cdv A outer s H vs Q E hr h => ?_)
  · obtain ⟨r, dx, l, refs, toks, j, sw, ws, S, res, rfl, _⟩ := h
    rfl
  obtain ⟨r, dx, l, refs, toks, j, sw, ws, S, res, rfl, A1, q⟩ := h
  obtain ⟨R, T, M_kind, M_value, M_need, M_take⟩ := M
  refine ⟨_, (pss_cons (ps_expr (pe_calM (pv 0) R.cl M_need (hr.mono (by decide)) (passN rfl rfl rfl rfl) (pa_cons (pe_and (pe_cmpR op_eq (pe_calM0 (pv 0) R.cl M_kind (hr.mono (by decide)) pass0) pe_str (nomark _)) (pe_one (pe_cmpR op_gt_str (pe_calM0 (pv 0) R.cl M_value (hr.mono (by decide)) pass0) (pv 1) (nomark _)))) pa_nil)))
    (pss_one (ps_ret (pe_calM (pv 0) R.cl M_take (hr.mono (by decide)) (passN rfl rfl rfl rfl) (pa_cons pe_str pa_nil))))), ?_⟩
  obtain ⟨t, c, ht⟩ := tok_at A1.lt
  by_cases e : kindS t = Str.ofString "name"
  · obtain ⟨wd, rfl⟩ := (kind_name t).mp e
    refine rd_need (b := decide (Wm.lastW ws < wd)) rfl A1.rd ht (fun Q' q' => ?_) (fun hb => ?_) (fun hb => A1.stop ht ?_ rfl)
    · refine rd_kind rfl A1.rd ht ⟨rfl, _, rfl, ?_⟩
      rw [dec_str', decide_eq_true e]
      refine iteT ?_
      exact rd_value rfl A1.rd ht ⟨_, rfl, _, _, rfl, rfl, q'⟩
    · have hl := of_decide_eq_true hb
      refine rd_take rfl A1.rd ht (fun _ => ?_) (fun z => absurd e z)
      have A2 := A1.step ht (s' := (.brE sw (ws ++ [wd]), S)) (if_pos hl)
      exact q _ wd ⟨SameBut.put, _, Nat.le_refl _, A2.rd.obj, A2.lt, A2.go⟩
    · exact if_neg (of_decide_eq_false hb)
  · refine rd_need (b := false) rfl A1.rd ht (fun Q' q' => ?_) (fun hb => by cases hb) (fun hb => A1.stop ht ?_ rfl)
    · refine rd_kind rfl A1.rd ht ⟨rfl, _, rfl, ?_⟩
      rw [dec_str', decide_eq_false e]
      exact iteF q'
    · cases t with
      | name wd => exact absurd rfl e
      | _ => rfl
abbrev s_read_target : Stmt := topS 33
abbrev N_read_target : List Str := ["reader", "words"]
theorem sc_read_target : FnScope N_read_target ["reader"] (defScope s_read_target) := ⟨rfl, rfl, rfl, by decide +kernel, rfl, by decide +kernel, by decide +kernel⟩
def sp_read_target (C B : Addr) : Sp := fun vs H Q E => ∃ (r dx l : Addr) (refs : List Addr) (toks : Toks) (j : Nat) (sw : Wm.L) (S : List Wm.Fr) (res : Wm.Res), vs = [.ref r] ∧ At C B H E r dx l refs toks j (.tgt sw, S) res ∧
  ∀ v H' g, TgtV H' v g → Bk C H r dx l toks j res (.close (.within sw g), S) H' → Q v H'
theorem ok_read_target (G : Glob K mg) (M : Rds P w K mg base C B) (D : Df K mg "read_target" s_read_target ["reader"]) (C_read_name_after : Cal P w K mg base (L2N.CX P w) 5 "read_name_after" ["reader", "before"] (sp_read_name_after C B)) :
    Cal P w K mg base (L2N.CX P w) 6 "read_target" ["reader"] (sp_read_target C B) := by
  refine D.okN sc_read_target (fun vs H Q E h => ?_) (fun f cdv A outer s H vs Q E hr h => ?_)
  · obtain ⟨r, dx, l, refs, toks, j, sw, S, res, rfl, _⟩ := h
    rfl
  obtain ⟨r, dx, l, refs, toks, j, sw, S, res, rfl, A1, q⟩ := h
  obtain ⟨R, T, M_kind, M_value, M_need, M_take⟩ := M
  refine ⟨_, (pss_cons (ps_if (pt_cmpR op_ne (pe_calM0 (pv 0) R.cl M_kind (hr.mono (by decide)) pass0) pe_str (nomark _))
      (pss_one (ps_ret (pe_tup (pa_cons pe_str (pa_cons (pe_calM (pv 0) R.cl M_take (hr.mono (by decide)) (passN rfl rfl rfl rfl) (pa_cons pe_str pa_nil)) pa_nil)))))
      pss_nil)
    (pss_cons (ps_expr (pe_calM (pv 0) R.cl M_take (hr.mono (by decide)) (passN rfl rfl rfl rfl) (pa_cons pe_str pa_nil)))
    (pss_cons (ps_set (i := 1) sc_read_target.nd rfl (Or.inl rfl) (pe_lst pa_nil))
    (pss_cons (ps_if (pt_cmpR op_ne (pe_calM0 (pv 0) R.cl M_kind (hr.mono (by decide)) pass0) pe_str (nomark _))
      (pss_cons (ps_expr (pe_bm PySem.F.plainAttrs_list PySem.F.slot_list_append PySem.F.type_list_append mt_append (pv 1) (pa_cons (pe_cal C_read_name_after (hr.mono (by decide)) (passN rfl rfl rfl rfl) (pa_cons (pv 0) (pa_cons pe_str pa_nil))) pa_nil)))
      (pss_one (ps_while (passes_of rfl) (pt_cmpR op_eq (pe_calM0 (pv 0) R.cl M_kind (hr.mono (by decide)) pass0) pe_str (nomark _))
        (pss_cons (ps_expr (pe_calM (pv 0) R.cl M_take (hr.mono (by decide)) (passN rfl rfl rfl rfl) (pa_cons pe_str pa_nil)))
        (pss_one (ps_expr (pe_bm PySem.F.plainAttrs_list PySem.F.slot_list_append PySem.F.type_list_append mt_append (pv 1) (pa_cons (pe_cal C_read_name_after (hr.mono (by decide)) (passN rfl rfl rfl rfl) (pa_cons (pv 0) (pa_cons (pe_ix ix_list (pv 1) (pe_un un_neg pe_int) (fun _ _ => rfl)) pa_nil))) pa_nil))))))))
      pss_nil)
    (pss_cons (ps_expr (pe_calM (pv 0) R.cl M_take (hr.mono (by decide)) (passN rfl rfl rfl rfl) (pa_cons pe_str pa_nil)))
    (pss_one (ps_ret (pe_tup (pa_cons pe_str (pa_cons (pe_callTy call_tuple_of rfl G.tuple boot_tuple (pa_cons (pv 1) pa_nil)) pa_nil)))))))))), ?_⟩
  have fits2 : ∀ {a b : V}, ([a, b] : List V).length ≤ sizeLine := by intro a b; show 2 ≤ sizeLine; decide
  obtain ⟨t, c, ht⟩ := tok_at A1.lt
  refine rd_kind rfl A1.rd ht ⟨rfl, _, rfl, ?_⟩
  rw [dec_str']
  by_cases e : kindS t = Str.ofString "{"
  rotate_left
  · -- a set's field
    rw [decide_eq_false e]
    refine iteT ?_
    have et : t ≠ .mark 123 := fun h => e ((kind_mark l_brace t).mpr h)
    refine rd_take rfl A1.rd ht (fun e1 => ?_) (fun e1 => A1.stop ht ?_ rfl)
    · obtain ⟨wd, rfl⟩ := (kind_word t).mp e1
      have A2 := A1.step ht (s' := (.close (.within sw (.set wd)), S)) rfl
      refine ⟨fits2, fun p hp => ?_⟩
      have A3 := A2.new hp (o := .tup [.str (Str.ofString "set"), .str (sL wd)])
      exact q _ _ (.set wd) ⟨p, rfl, upd_same⟩ ⟨SameBut.put.trans (SameBut.new hp), _, by omega, A3.rd.obj, A3.lt, A3.go⟩
    · cases t with
      | word wd => exact absurd rfl e1
      | mark d => exact if_neg et
      | _ => rfl
  rw [decide_eq_true e]
  refine iteF ?_
  have et := (kind_mark l_brace t).mp e
  subst et
  refine rd_take rfl A1.rd ht (fun _ => ?_) (fun z => absurd e z)
  have A2 := A1.step ht (s' := (.br0 sw, S)) rfl
  -- words = []
  refine ⟨(by show 0 ≤ sizeLine; decide), fun lw hlw => ?_⟩
  have A3 := A2.new hlw (o := .lst [])
  have nlr := A2.nr hlw
  have nll := A2.nl hlw
  have h0 : H lw = none := by rw [upd_ne nlr] at hlw; exact hlw
  have k3 : SameBut r H (upd (upd H r (.ins C dx (rdF l (j + 1)))) lw (.lst [])) := SameBut.put.trans (SameBut.new hlw)
  -- the end, from any words
  have fin : ∀ (ws : List Wm.L) (j' : Nat) (H' : Hp) (s' : Wm.St), H' lw = some (.lst (ws.map fun w => V.str (sL w))) → SameBut r H H' → j ≤ j' → At C B H' E r dx l refs toks j' s' res → Wm.final s' = none →
      (∀ t c, toks[j']? = some (t, c) → Wm.step s' t = if t = .mark 125 then some (.close (.within sw (.names ws)), S) else none) →
      (tSeq (tDrop (tMeth C "take" (sp_take C B) [] E (tVar 0) (tCons (tC (.str (Str.ofString "}"))) tNil))) (tRet (tTup (tCons (tC (.str (Str.ofString "names"))) (tCons (tCB (fun xs H Q => ∃ p ys, xs = [V.ref p] ∧ ((SqL K H p ys ∧ ∀ l, H l = none → Q (.ref l) (upd H l (.tup ys))) ∨ (SqT K H p ys ∧ Q (.ref p) H))) (tCons (tVar 1) tNil)) tNil))))) { nx := fun _ H' => Q .non H', rt := Q } [some (.ref r), some (.ref lw)] H' := by
    intro ws j' H' s' hL hS hj A4 hf hst
    obtain ⟨t2, c2, ht2⟩ := tok_at A4.lt
    have st2 := hst t2 c2 ht2
    refine rd_take rfl A4.rd ht2 (fun e2 => ?_) (fun e2 => A4.stop ht2 ?_ hf)
    · have et2 := (kind_mark l_unbrace t2).mp e2
      rw [if_pos et2] at st2
      have A5 := A4.step ht2 st2
      refine ⟨_, rfl, lw, _, rfl, .inl ⟨SqL.of (by rw [upd_ne nlr]; exact hL), fun b hb => ?_⟩⟩
      have A6 := A5.new hb (o := .tup (ws.map fun w => V.str (sL w)))
      refine ⟨fits2, fun a ha => ?_⟩
      have A7 := A6.new ha (o := .tup [.str (Str.ofString "names"), .ref b])
      have hba : b ≠ a := fun z => by rw [← z, upd_same] at ha; cases ha
      exact q _ _ (.names ws) ⟨a, b, rfl, upd_same, by rw [upd_ne hba]; exact upd_same⟩ ⟨(hS.trans SameBut.put).trans ((SameBut.new hb).trans (SameBut.new ha)), _, by omega, A7.rd.obj, A7.lt, A7.go⟩
    · have et2 : t2 ≠ .mark 125 := fun z => e2 ((kind_mark l_unbrace t2).mpr z)
      rw [st2, if_neg et2]
  obtain ⟨t1, c1, ht1⟩ := tok_at A3.lt
  refine rd_kind rfl A3.rd ht1 ⟨rfl, _, rfl, ?_⟩
  rw [dec_str']
  by_cases e1 : kindS t1 = Str.ofString "}"
  · rw [decide_eq_true e1]
    refine iteF ?_
    have et1 := (kind_mark l_unbrace t1).mp e1
    refine fin [] (j + 1) _ _ upd_same k3 (by omega) A3 rfl fun t' c' h' => ?_
    rw [ht1] at h'
    cases h'
    rw [step_br0, if_pos et1, if_pos et1]
  rw [decide_eq_false e1]
  refine iteT ?_
  have et1 : t1 ≠ .mark 125 := fun z => e1 ((kind_mark l_unbrace t1).mpr z)
  have A4 := A3.same ht1 (s' := (.brN sw [], S)) (by rw [step_br0, if_neg et1] <;> rfl) rfl rfl
  -- the first name
  refine ⟨_, rfl, .inl ⟨rfl, _, SqL.of upd_same⟩, _, rfl, r, dx, l, refs, toks, j + 1, sw, [], S, res, by rw [show Wm.lastW [] = [] from rfl, ← s_empty] <;> rfl, A4, fun H5 w1 ⟨k5, j5, le5, o5, lt5, g5⟩ => ?_⟩
  have A5 := A4.on k5 o5 lt5 g5
  have hL5 : H5 lw = some (.lst []) := k5 _ _ nlr upd_same
  refine ⟨lw, [], _, rfl, rfl, hL5, (by show 0 < sizeLine; decide), ?_⟩
  have k6 : SameBut r H H5 := k3.trans k5
  have A6 := A5.app (ys := [.str (sL w1)]) hL5 nll k6 h0 A1.no
  refine ⟨fun m σ H' => ∃ (ws : List Wm.L) (wl : Wm.L) (j' : Nat), m = toks.length - j' ∧ σ = [some (.ref r), some (.ref lw)] ∧ H' lw = some (.lst ((ws ++ [wl]).map fun w => V.str (sL w))) ∧ SameBut r H H' ∧ j ≤ j' ∧ ws.length + 1 ≤ j' ∧ At C B H' E r dx l refs toks j' (.brE sw (ws ++ [wl]), S) res,
    ⟨_, [], w1, j5, rfl, rfl, upd_same, k6.put0 h0, by omega, by show 0 + 1 ≤ j5; omega, A6⟩, ?_⟩
  rintro m σ H' ⟨ws, wl, j', rfl, rfl, hL, hS, hj, hn, A7⟩
  obtain ⟨t3, c3, ht3⟩ := tok_at A7.lt
  refine rd_kind rfl A7.rd ht3 ⟨rfl, _, rfl, ?_⟩
  rw [dec_str']
  by_cases e3 : kindS t3 = Str.ofString ","
  · rw [decide_eq_true e3]
    refine iteT ?_
    have et3 := (kind_mark l_comma t3).mp e3
    subst et3
    refine ⟨fun σ' H'' => ∃ (ws : List Wm.L) (wl : Wm.L) (j'' : Nat), j' < j'' ∧ σ' = [some (.ref r), some (.ref lw)] ∧ H'' lw = some (.lst ((ws ++ [wl]).map fun w => V.str (sL w))) ∧ SameBut r H H'' ∧ j ≤ j'' ∧ ws.length + 1 ≤ j'' ∧ At C B H'' E r dx l refs toks j'' (.brE sw (ws ++ [wl]), S) res,
      fun σ' H'' ⟨ws, wl, j'', h1, h2⟩ => ⟨_, by have := h2.2.2.2.2.2.lt; have := A7.lt; omega, ws, wl, j'', rfl, h2⟩, ?_⟩
    refine rd_take rfl A7.rd ht3 (fun _ => ?_) (fun z => absurd e3 z)
    have A8 := A7.step ht3 (s' := (.brN sw (ws ++ [wl]), S)) (by rw [step_brE, if_neg (by simp), if_pos rfl])
    have hL8 : upd H' r (.ins C dx (rdF l (j' + 1))) lw = some (.lst ((ws ++ [wl]).map fun w => V.str (sL w))) := by rw [upd_ne nlr]; exact hL
    have hlast : atI ((ws ++ [wl]).map fun w => V.str (sL w)) (-1) = some (.str (sL wl)) := by rw [List.map_append]; exact atI_last _ _
    refine ⟨_, rfl, .inl ⟨rfl, _, SqL.of hL8⟩, _, rfl, _, rfl, _, rfl, lw, _, (-1 : Int), _, rfl, rfl, SqL.of hL8, hlast, r, dx, l, refs, toks, j' + 1, sw, ws ++ [wl], S, res, by rw [Wm.lastW_snoc] <;> rfl, A8, fun H9 w9 ⟨k9, j9, le9, o9, lt9, g9⟩ => ?_⟩
    have A9 := A8.on k9 o9 lt9 g9
    have hL9 : H9 lw = some (.lst ((ws ++ [wl]).map fun w => V.str (sL w))) := k9 _ _ nlr hL8
    have kS : SameBut r H H9 := hS.trans (SameBut.put.trans k9)
    have hsz : ((ws ++ [wl]).map fun w => V.str (sL w)).length < sizeLine := by
      rw [List.length_map, List.length_append, List.length_singleton]
      have := A7.lt
      have := A7.rd.few
      omega
    refine ⟨lw, _, _, rfl, rfl, hL9, hsz, ?_⟩
    exact ⟨ws ++ [wl], w9, j9, by omega, rfl, by rw [upd_same]; simp, kS.put0 h0, by omega, by rw [List.length_append, List.length_singleton]; omega, A9.app hL9 nll kS h0 A1.no⟩
  · rw [decide_eq_false e3]
    refine iteF ?_
    have et3 : t3 ≠ .mark 44 := fun h => e3 ((kind_mark l_comma t3).mpr h)
    refine fin (ws ++ [wl]) j' _ _ hL hS hj A7 rfl fun t' c' h' => ?_
    rw [ht3] at h'
    cases h'
    rw [step_brE]
    by_cases h125 : t3 = .mark 125
    · rw [if_pos h125, if_pos h125]
    · rw [if_neg h125, if_neg h125, if_neg et3]
end
end Wk
end PartRd3
section PartRd4
set_option Elab.async false
set_option linter.all false
set_option maxRecDepth 100000
set_option maxHeartbeats 4000000
namespace Wk
open PySem PySem.Spec PyProof.Rows L2
theorem l_yes : Str.ofString "yes" = sL Wm.wYes := by decide +kernel
theorem l_no : Str.ofString "no" = sL Wm.wNo := by decide +kernel
theorem l_is : Str.ofString "is" = sL Wm.wIs := by decide +kernel
theorem l_in : Str.ofString "in" = sL Wm.wIn := by decide +kernel
theorem l_within : Str.ofString "within" = sL Wm.wWithin := by decide +kernel
theorem l_most : Str.ofString "most" = sL Wm.wMost := by decide +kernel
theorem l_member : Str.ofString "member" = sL Wm.wMember := by decide +kernel
theorem l_not : Str.ofString "not" = sL Wm.wNot := by decide +kernel
theorem l_all : Str.ofString "all" = sL Wm.wAll := by decide +kernel
theorem l_any : Str.ofString "any" = sL Wm.wAny := by decide +kernel
theorem hq {a w : Wm.L} {x : Str} {b : Bool} (hx : x = sL w) (h : decide (a = w) = b) : decide (V.str (sL a) = V.str x) = b := by
  subst hx
  rw [dec_sL, h]
section
variable {C : Addr} {H H1 : Hp} {r dx l p : Addr} {toks : Toks} {j j1 : Nat} {s : Wm.St} {res : Wm.Res} {S : List Wm.Fr} {k : Wm.Cnd} {sm : Wm.Smp}
theorem Bk.close (h : Bk C H r dx l toks j res (.close sm, S) H1) : BkC C H r dx l toks j res (.smp sm) S H1 := by
  obtain ⟨k, j', h1, h2, h3, h4⟩ := h
  exact ⟨k, j', _, h1, h2, h3, h4, rfl, fun t d _ => rfl⟩
theorem BkC.new {o : HO} (h : BkC C H r dx l toks j res k S H1) (hp : H1 p = none) : BkC C H r dx l toks j res k S (upd H1 p o) := by
  obtain ⟨k, j', s', h1, h2, h3⟩ := h
  exact ⟨k.trans (SameBut.new hp), j', s', h1, by rw [upd_ne (ne_of_none h2 hp)]; exact h2, h3⟩
theorem BkC.from (k1 : SameBut r H H1) (le : j ≤ j1) {H2 : Hp} (h : BkC C H1 r dx l toks j1 res k S H2) : BkC C H r dx l toks j res k S H2 := by
  obtain ⟨k2, j', s', h1, h2⟩ := h
  exact ⟨k1.trans k2, j', s', by omega, h2⟩
theorem Bk.from (k1 : SameBut r H H1) (le : j ≤ j1) {H2 : Hp} (h : Bk C H1 r dx l toks j1 res s H2) : Bk C H r dx l toks j res s H2 := by
  obtain ⟨k2, j', h1, h2⟩ := h
  exact ⟨k1.trans k2, j', by omega, h2⟩
theorem Bk.new {o : HO} (h : Bk C H r dx l toks j res s H1) (hp : H1 p = none) : Bk C H r dx l toks j res s (upd H1 p o) := by
  obtain ⟨k, j', h1, h2, h3⟩ := h
  exact ⟨k.trans (SameBut.new hp), j', h1, by rw [upd_ne (ne_of_none h2 hp)]; exact h2, h3⟩
theorem Bk.but (h : Bk C H r dx l toks j res s H1) : SameBut r H H1 := h.1
end
theorem Bk.at {C B : Addr} {H H1 : Hp} {E : XK} {r dx l : Addr} {refs : List Addr} {toks : Toks} {j j0 : Nat} {s s' : Wm.St} {res : Wm.Res} (h : Bk C H r dx l toks j0 res s' H1) (A : At C B H E r dx l refs toks j s res) : ∃ j', j0 ≤ j' ∧ At C B H1 E r dx l refs toks j' s' res := by
  obtain ⟨k, j', h1, h2, h3, h4⟩ := h
  exact ⟨j', h1, A.on k h2 h3 h4⟩
theorem final_afterN (k : Wm.NC) (x : Wm.L) (S : List Wm.Fr) : Wm.final (Wm.afterN k x, S) = none := by cases k <;> rfl
section
variable {P : Program} {w : World} {K : PySem.W.Frag} {mg : Str → Option Value} {base : Heap} {C B : Addr}
abbrev s_read_number_field : Stmt := topS 34
abbrev N_read_number_field : List Str := ["reader"]
theorem sc_read_number_field : FnScope N_read_number_field ["reader"] (defScope s_read_number_field) := ⟨rfl, rfl, rfl, by decide +kernel, rfl, by decide +kernel, by decide +kernel⟩
def sp_read_number_field (C B : Addr) : Sp := fun vs H Q E => ∃ (r dx l : Addr) (refs : List Addr) (toks : Toks) (j : Nat) (k : Wm.NC) (S : List Wm.Fr) (res : Wm.Res), vs = [.ref r] ∧ At C B H E r dx l refs toks j (.num k, S) res ∧
  ∀ H' x, Bk C H r dx l toks j res (Wm.afterN k x, S) H' → Q (.str (sL x)) H'
theorem ok_read_number_field (M : Rds P w K mg base C B) (D : Df K mg "read_number_field" s_read_number_field ["reader"]) : Cal P w K mg base (L2N.CX P w) 5 "read_number_field" ["reader"] (sp_read_number_field C B) := by
  refine D.okN sc_read_number_field (fun vs H Q E h => ?_) (fun f cdv A outer s H vs Q E hr h => ?_)
  · obtain ⟨r, dx, l, refs, toks, j, k, S, res, rfl, _⟩ := h
    rfl
  obtain ⟨r, dx, l, refs, toks, j, k, S, res, rfl, A1, q⟩ := h
  obtain ⟨R, T, M_kind, M_value, M_need, M_take⟩ := M
  refine ⟨_, (pss_cons (ps_if (pt_cmpR op_ne (pe_calM0 (pv 0) R.cl M_kind (hr.mono (by decide)) pass0) pe_str (nomark _))
      (pss_one (ps_ret (pe_calM (pv 0) R.cl M_take (hr.mono (by decide)) (passN rfl rfl rfl rfl) (pa_cons pe_str pa_nil))))
      pss_nil)
    (pss_cons (ps_expr (pe_calM (pv 0) R.cl M_need (hr.mono (by decide)) (passN rfl rfl rfl rfl) (pa_cons (pe_cmpR op_eq (pe_calM0 (pv 0) R.cl M_value (hr.mono (by decide)) pass0) pe_int (nomark _)) pa_nil)))
    (pss_cons (ps_expr (pe_calM (pv 0) R.cl M_take (hr.mono (by decide)) (passN rfl rfl rfl rfl) (pa_cons pe_str pa_nil)))
    (pss_one (ps_ret pe_str))))), ?_⟩
  obtain ⟨t, c, ht⟩ := tok_at A1.lt
  refine rd_kind rfl A1.rd ht ⟨rfl, _, rfl, ?_⟩
  rw [dec_str']
  by_cases e : kindS t = Str.ofString "integer"
  · rw [decide_eq_true e]
    refine iteF ?_
    obtain ⟨n, rfl⟩ := (kind_int t).mp e
    refine rd_need (b := decide (n = 0)) rfl A1.rd ht (fun Q' q' => ?_) (fun hb => ?_) (fun hb => A1.stop ht (if_neg (of_decide_eq_false hb)) rfl)
    · refine rd_value rfl A1.rd ht ⟨rfl, ?_⟩
      show Q' (.bl (decide (V.int n = V.int 0))) H
      rw [dec_int']
      exact q'
    · refine rd_take rfl A1.rd ht (fun _ => ?_) (fun z => absurd e z)
      have A2 := A1.step ht (s' := (Wm.afterN k [], S)) (if_pos (of_decide_eq_true hb))
      have z := q _ [] ⟨SameBut.put, _, by omega, A2.rd.obj, A2.lt, A2.go⟩
      rw [← s_empty] at z
      exact z
  · rw [decide_eq_false e]
    refine iteT ?_
    refine rd_take rfl A1.rd ht (fun e1 => ?_) (fun e1 => A1.stop ht ?_ rfl)
    · obtain ⟨wd, rfl⟩ := (kind_word t).mp e1
      have A2 := A1.step ht (s' := (Wm.afterN k wd, S)) rfl
      exact q _ wd ⟨SameBut.put, _, by omega, A2.rd.obj, A2.lt, A2.go⟩
    · cases t with
      | word wd => exact absurd rfl e1
      | int n => exact absurd rfl e
      | _ => rfl
abbrev s_read_most : Stmt := topS 35
abbrev N_read_most : List Str := ["reader", "one", "other"]
theorem sc_read_most : FnScope N_read_most ["reader"] (defScope s_read_most) := ⟨rfl, rfl, rfl, by decide +kernel, rfl, by decide +kernel, by decide +kernel⟩
def sp_read_most (C B : Addr) : Sp := fun vs H Q E => ∃ (r dx l : Addr) (refs : List Addr) (toks : Toks) (j : Nat) (S : List Wm.Fr) (res : Wm.Res), vs = [.ref r] ∧ At C B H E r dx l refs toks j (.num .x, S) res ∧
  ∀ v H' sm, SmpV H' v sm → Bk C H r dx l toks j res (.close sm, S) H' → Q v H'
theorem ok_read_most (M : Rds P w K mg base C B) (D : Df K mg "read_most" s_read_most ["reader"]) (C_read_number_field : Cal P w K mg base (L2N.CX P w) 5 "read_number_field" ["reader"] (sp_read_number_field C B)) : Cal P w K mg base (L2N.CX P w) 6 "read_most" ["reader"] (sp_read_most C B) := by
  refine D.okN sc_read_most (fun vs H Q E h => ?_) (fun f cdv A outer s H vs Q E hr h => ?_)
  · obtain ⟨r, dx, l, refs, toks, j, S, res, rfl, _⟩ := h
    rfl
  obtain ⟨r, dx, l, refs, toks, j, S, res, rfl, A1, q⟩ := h
  obtain ⟨R, T, M_kind, M_value, M_need, M_take⟩ := M
  refine ⟨_, (pss_cons (ps_set (i := 1) sc_read_most.nd rfl (Or.inl rfl) (pe_cal C_read_number_field (hr.mono (by decide)) (passN rfl rfl rfl rfl) (pa_cons (pv 0) pa_nil)))
    (pss_cons (ps_expr (pe_calM (pv 0) R.cl M_take (hr.mono (by decide)) (passN rfl rfl rfl rfl) (pa_cons pe_str pa_nil)))
    (pss_cons (ps_set (i := 2) sc_read_most.nd rfl (Or.inl rfl) (pe_cal C_read_number_field (hr.mono (by decide)) (passN rfl rfl rfl rfl) (pa_cons (pv 0) pa_nil)))
    (pss_cons (ps_expr (pe_calM (pv 0) R.cl M_take (hr.mono (by decide)) (passN rfl rfl rfl rfl) (pa_cons pe_str pa_nil)))
    (pss_one (ps_ret (pe_tup (pa_cons pe_str (pa_cons (pv 1) (pa_cons (pv 2) (pa_cons (pe_calM (pv 0) R.cl M_take (hr.mono (by decide)) (passN rfl rfl rfl rfl) (pa_cons pe_str pa_nil)) pa_nil))))))))))), ?_⟩
  refine ⟨_, rfl, r, dx, l, refs, toks, j, .x, S, res, rfl, A1, fun H1 x b1 => ?_⟩
  obtain ⟨j1, le1, A2⟩ := b1.at A1
  obtain ⟨t2, c2, ht2⟩ := tok_at A2.lt
  refine rd_take rfl A2.rd ht2 (fun e => ?_) (fun e => A2.stop ht2 (if_neg fun z => e ((kind_mark l_comma t2).mpr z)) rfl)
  have A3 := A2.step ht2 (s' := (.num (.y x), S)) (if_pos ((kind_mark l_comma t2).mp e))
  refine ⟨_, rfl, r, dx, l, refs, toks, j1 + 1, .y x, S, res, rfl, A3, fun H2 y b2 => ?_⟩
  obtain ⟨j2, le2, A4⟩ := b2.at A3
  obtain ⟨t3, c3, ht3⟩ := tok_at A4.lt
  refine rd_take rfl A4.rd ht3 (fun e => ?_) (fun e => A4.stop ht3 (if_neg fun z => e ((kind_mark l_comma t3).mpr z)) rfl)
  have A5 := A4.step ht3 (s' := (.int3 x y, S)) (if_pos ((kind_mark l_comma t3).mp e))
  obtain ⟨t4, c4, ht4⟩ := tok_at A5.lt
  refine ⟨_, rfl, _, rfl, rd_take rfl A5.rd ht4 (fun e => ?_) (fun e => A5.stop ht4 ?_ rfl)⟩
  · obtain ⟨n, rfl⟩ := (kind_int t4).mp e
    have A6 := A5.step ht4 (s' := (.close (.most x y n), S)) rfl
    refine ⟨(by show 4 ≤ sizeLine; decide), fun p hp => ?_⟩
    have A7 := A6.new hp (o := .tup [.str (Str.ofString "most"), .str (sL x), .str (sL y), .int n])
    refine q _ _ (.most x y n) ⟨p, rfl, by rw [← l_most]; exact upd_same⟩ ⟨(b1.but.trans SameBut.put).trans ((b2.but.trans SameBut.put).trans (SameBut.put.trans (SameBut.new hp))), _, by omega, A7.rd.obj, A7.lt, A7.go⟩
  · cases t4 with
    | int n => exact absurd rfl e
    | _ => rfl
abbrev s_read_simple : Stmt := topS 36
abbrev N_read_simple : List Str := ["reader", "head", "first"]
theorem sc_read_simple : FnScope N_read_simple ["reader", "head"] (defScope s_read_simple) := ⟨rfl, rfl, rfl, by decide +kernel, rfl, by decide +kernel, by decide +kernel⟩
def sp_read_simple (C B : Addr) : Sp := fun vs H Q E => ∃ (r dx l : Addr) (refs : List Addr) (toks : Toks) (j : Nat) (h : Wm.Hd) (S : List Wm.Fr) (res : Wm.Res), vs = [.ref r, .str (sL (Wm.hdW h))] ∧ (h ≠ .not ∧ ∀ a, h ≠ .many a) ∧ At C B H E r dx l refs toks j (Wm.opened h S) res ∧
  ∀ v H' sm, SmpV H' v sm → BkC C H r dx l toks j res (.smp sm) S H' → Q v H'
theorem ok_read_simple (M : Rds P w K mg base C B) (D : Df K mg "read_simple" s_read_simple ["reader", "head"]) (C_read_most : Cal P w K mg base (L2N.CX P w) 6 "read_most" ["reader"] (sp_read_most C B))
    (C_read_term : Cal P w K mg base (L2N.CX P w) 6 "read_term" ["reader"] (sp_read_term C B)) (C_read_field_term : Cal P w K mg base (L2N.CX P w) 5 "read_field_term" ["reader"] (sp_read_field_term C B))
    (C_read_target : Cal P w K mg base (L2N.CX P w) 6 "read_target" ["reader"] (sp_read_target C B)) (C_read_template : Cal P w K mg base (L2N.CX P w) 8 "read_template" ["reader"] (sp_read_template C B)) :
    Cal P w K mg base (L2N.CX P w) 9 "read_simple" ["reader", "head"] (sp_read_simple C B) := by
  refine D.okN sc_read_simple (fun vs H Q E h => ?_) (fun f cdv A outer s H vs Q E hr h => ?_)
  · obtain ⟨r, dx, l, refs, toks, j, hd, S, res, rfl, _⟩ := h
    rfl
  obtain ⟨r, dx, l, refs, toks, j, hd, S, res, rfl, ⟨n1, n2⟩, A1, q⟩ := h
  obtain ⟨R, T, M_kind, M_value, M_need, M_take⟩ := M
  refine ⟨_, (pss_cons (ps_if (pt_cmpR op_eq (pv 1) pe_str (nomark _))
      (pss_one (ps_ret (pe_cal C_read_most (hr.mono (by decide)) (passN rfl rfl rfl rfl) (pa_cons (pv 0) pa_nil))))
      pss_nil)
    (pss_cons (ps_if (PW.pt (pw_or (pt_cmpR op_eq (pv 1) pe_str (nomark _)) (pw_or1 (pt_cmpR op_eq (pv 1) pe_str (nomark _)))))
      (pss_one (ps_set (i := 2) sc_read_simple.nd rfl (Or.inl rfl) (pe_cal C_read_term (hr.mono (by decide)) (passN rfl rfl rfl rfl) (pa_cons (pv 0) pa_nil))))
      (pss_one (ps_if (pt_cmpR op_eq (pv 1) pe_str (nomark _))
        (pss_one (ps_set (i := 2) sc_read_simple.nd rfl (Or.inl rfl) (pe_cal C_read_field_term (hr.mono (by decide)) (passN rfl rfl rfl rfl) (pa_cons (pv 0) pa_nil))))
        (pss_one (ps_set (i := 2) sc_read_simple.nd rfl (Or.inl rfl) (pe_calM (pv 0) R.cl M_take (hr.mono (by decide)) (passN rfl rfl rfl rfl) (pa_cons pe_str pa_nil)))))))
    (pss_cons (ps_expr (pe_calM (pv 0) R.cl M_take (hr.mono (by decide)) (passN rfl rfl rfl rfl) (pa_cons pe_str pa_nil)))
    (pss_cons (ps_if (pt_cmpR op_eq (pv 1) pe_str (nomark _))
      (pss_one (ps_ret (pe_tup (pa_cons (pv 1) (pa_cons (pv 2) (pa_cons (pe_cal C_read_term (hr.mono (by decide)) (passN rfl rfl rfl rfl) (pa_cons (pv 0) pa_nil)) pa_nil))))))
      pss_nil)
    (pss_cons (ps_if (PW.pt (pw_or (pt_cmpR op_eq (pv 1) pe_str (nomark _)) (pw_or1 (pt_cmpR op_eq (pv 1) pe_str (nomark _)))))
      (pss_one (ps_ret (pe_tup (pa_cons (pv 1) (pa_cons (pv 2) (pa_cons (pe_calM (pv 0) R.cl M_take (hr.mono (by decide)) (passN rfl rfl rfl rfl) (pa_cons pe_str pa_nil)) pa_nil))))))
      pss_nil)
    (pss_cons (ps_if (pt_cmpR op_eq (pv 1) pe_str (nomark _))
      (pss_one (ps_ret (pe_tup (pa_cons (pv 1) (pa_cons (pv 2) (pa_cons (pe_cal C_read_target (hr.mono (by decide)) (passN rfl rfl rfl rfl) (pa_cons (pv 0) pa_nil)) pa_nil))))))
      pss_nil)
    (pss_one (ps_ret (pe_tup (pa_cons (pv 1) (pa_cons (pv 2) (pa_cons (pe_cal C_read_template (hr.mono (by decide)) (passN rfl rfl rfl rfl) (pa_cons (pv 0) pa_nil)) pa_nil)))))))))))), ?_⟩
  have fits3 : ∀ {a b c : V}, ([a, b, c] : List V).length ≤ sizeLine := by intro a b c; show 3 ≤ sizeLine; decide
  cases hd with
  | not => exact absurd rfl n1
  | many a => exact absurd rfl (n2 a)
  | is =>
    refine ⟨_, rfl, rfl, _, rfl, ?_⟩
    rw [hq l_most (show decide (Wm.hdW .is = Wm.wMost) = false from by decide)]
    refine iteF ?_
    refine ⟨_, rfl, rfl, _, rfl, ?_⟩
    rw [hq l_is (show decide (Wm.hdW .is = Wm.wIs) = true from by decide)]
    refine iteT ?_
    refine iteT ?_
    refine ⟨_, rfl, r, dx, l, refs, toks, j, .is1, S, res, rfl, A1, fun _ _ _ => rfl, fun v1 H1 t1 hv1 b1 => ?_⟩
    obtain ⟨j1, le1, A2⟩ := b1.at A1
    obtain ⟨t2, c2, ht2⟩ := tok_at A2.lt
    refine rd_take rfl A2.rd ht2 (fun e => ?_) (fun e => A2.stop ht2 (if_neg fun z => e ((kind_mark l_comma t2).mpr z)) rfl)
    have A3 := A2.step ht2 (s' := (.term (.is2 t1), S)) (if_pos ((kind_mark l_comma t2).mp e))
    refine ⟨_, rfl, rfl, _, rfl, ?_⟩
    rw [hq l_is (show decide (Wm.hdW .is = Wm.wIs) = true from by decide)]
    refine iteT ?_
    refine ⟨_, rfl, _, rfl, _, rfl, r, dx, l, refs, toks, j1 + 1, .is2 t1, S, res, rfl, A3, fun _ _ _ => rfl, fun v2 H2 t2 hv2 b2 => ?_⟩
    refine ⟨fits3, fun p hp => ?_⟩
    have k12 : Tups H1 H2 := (SameBut.put.trans b2.but).tups A2.rd.obj
    have kp : Tups H2 (upd H2 p (.tup [.str (sL Wm.wIs), v1, v2])) := Same.tups (Same.new hp)
    exact q _ _ (.is t1 t2) ⟨p, v1, v2, rfl, upd_same, (hv1.keep k12).keep kp, hv2.keep kp⟩ ((b2.from (b1.but.trans SameBut.put) (by omega)).close.new hp)
  | inn =>
    refine ⟨_, rfl, rfl, _, rfl, ?_⟩
    rw [hq l_most (show decide (Wm.hdW .inn = Wm.wMost) = false from by decide)]
    refine iteF ?_
    refine ⟨_, rfl, rfl, _, rfl, ?_⟩
    rw [hq l_is (show decide (Wm.hdW .inn = Wm.wIs) = false from by decide)]
    refine iteF ?_
    refine ⟨_, rfl, rfl, _, rfl, ?_⟩
    rw [hq l_in (show decide (Wm.hdW .inn = Wm.wIn) = true from by decide)]
    refine iteT ?_
    refine ⟨_, rfl, r, dx, l, refs, toks, j, .in1, S, res, rfl, A1, fun _ _ _ => rfl, fun v1 H1 t1 hv1 b1 => ?_⟩
    obtain ⟨j1, le1, A2⟩ := b1.at A1
    obtain ⟨t2, c2, ht2⟩ := tok_at A2.lt
    refine rd_take rfl A2.rd ht2 (fun e => ?_) (fun e => A2.stop ht2 (if_neg fun z => e ((kind_mark l_comma t2).mpr z)) rfl)
    have A3 := A2.step ht2 (s' := (.wrd (.in2 t1), S)) (if_pos ((kind_mark l_comma t2).mp e))
    refine ⟨_, rfl, rfl, _, rfl, ?_⟩
    rw [hq l_is (show decide (Wm.hdW .inn = Wm.wIs) = false from by decide)]
    refine iteF ?_
    refine ⟨_, rfl, rfl, _, rfl, ?_⟩
    rw [hq l_in (show decide (Wm.hdW .inn = Wm.wIn) = true from by decide)]
    refine iteT ?_
    refine iteT ?_
    obtain ⟨t3, c3, ht3⟩ := tok_at A3.lt
    refine ⟨_, rfl, _, rfl, rd_take rfl A3.rd ht3 (fun e => ?_) (fun e => A3.stop ht3 ?_ rfl)⟩
    rotate_left
    · cases t3 with
      | word wd => exact absurd rfl e
      | _ => rfl
    obtain ⟨wd, rfl⟩ := (kind_word t3).mp e
    have A4 := A3.step ht3 (s' := (.close (.inn t1 wd), S)) rfl
    refine ⟨fits3, fun p hp => ?_⟩
    have A5 := A4.new hp (o := .tup [.str (sL Wm.wIn), v1, .str (sL wd)])
    have k12 := (SameBut.put.trans (SameBut.put.trans (SameBut.new (o := .tup [.str (sL Wm.wIn), v1, .str (sL wd)]) hp))).tups A2.rd.obj
    exact q _ _ (.inn t1 wd) ⟨p, v1, rfl, upd_same, hv1.keep k12⟩ (Bk.close ⟨b1.but.trans (SameBut.put.trans (SameBut.put.trans (SameBut.new hp))), _, by omega, A5.rd.obj, A5.lt, A5.go⟩)
  | mem =>
    refine ⟨_, rfl, rfl, _, rfl, ?_⟩
    rw [hq l_most (show decide (Wm.hdW .mem = Wm.wMost) = false from by decide)]
    refine iteF ?_
    refine ⟨_, rfl, rfl, _, rfl, ?_⟩
    rw [hq l_is (show decide (Wm.hdW .mem = Wm.wIs) = false from by decide)]
    refine iteF ?_
    refine ⟨_, rfl, rfl, _, rfl, ?_⟩
    rw [hq l_in (show decide (Wm.hdW .mem = Wm.wIn) = false from by decide)]
    refine iteF ?_
    refine ⟨_, rfl, rfl, _, rfl, ?_⟩
    rw [hq l_member (show decide (Wm.hdW .mem = Wm.wMember) = true from by decide)]
    refine iteT ?_
    refine ⟨_, rfl, r, dx, l, refs, toks, j, .mem1, S, res, rfl, A1, fun _ _ _ => rfl, fun v1 H1 t1 hv1 b1 => ?_⟩
    obtain ⟨j1, le1, A2⟩ := b1.at A1
    obtain ⟨t2, c2, ht2⟩ := tok_at A2.lt
    refine rd_take rfl A2.rd ht2 (fun e => ?_) (fun e => A2.stop ht2 (if_neg fun z => e ((kind_mark l_comma t2).mpr z)) rfl)
    have A3 := A2.step ht2 (s' := (.wrd (.mem2 t1), S)) (if_pos ((kind_mark l_comma t2).mp e))
    refine ⟨_, rfl, rfl, _, rfl, ?_⟩
    rw [hq l_is (show decide (Wm.hdW .mem = Wm.wIs) = false from by decide)]
    refine iteF ?_
    refine ⟨_, rfl, rfl, _, rfl, ?_⟩
    rw [hq l_in (show decide (Wm.hdW .mem = Wm.wIn) = false from by decide)]
    refine iteF ?_
    refine ⟨_, rfl, rfl, _, rfl, ?_⟩
    rw [hq l_member (show decide (Wm.hdW .mem = Wm.wMember) = true from by decide)]
    refine iteT ?_
    obtain ⟨t3, c3, ht3⟩ := tok_at A3.lt
    refine ⟨_, rfl, _, rfl, rd_take rfl A3.rd ht3 (fun e => ?_) (fun e => A3.stop ht3 ?_ rfl)⟩
    rotate_left
    · cases t3 with
      | word wd => exact absurd rfl e
      | _ => rfl
    obtain ⟨wd, rfl⟩ := (kind_word t3).mp e
    have A4 := A3.step ht3 (s' := (.close (.mem t1 wd), S)) rfl
    refine ⟨fits3, fun p hp => ?_⟩
    have A5 := A4.new hp (o := .tup [.str (sL Wm.wMember), v1, .str (sL wd)])
    have k12 := (SameBut.put.trans (SameBut.put.trans (SameBut.new (o := .tup [.str (sL Wm.wMember), v1, .str (sL wd)]) hp))).tups A2.rd.obj
    exact q _ _ (.mem t1 wd) ⟨p, v1, rfl, upd_same, hv1.keep k12⟩ (Bk.close ⟨b1.but.trans (SameBut.put.trans (SameBut.put.trans (SameBut.new hp))), _, by omega, A5.rd.obj, A5.lt, A5.go⟩)
  | within =>
    refine ⟨_, rfl, rfl, _, rfl, ?_⟩
    rw [hq l_most (show decide (Wm.hdW .within = Wm.wMost) = false from by decide)]
    refine iteF ?_
    refine ⟨_, rfl, rfl, _, rfl, ?_⟩
    rw [hq l_is (show decide (Wm.hdW .within = Wm.wIs) = false from by decide)]
    refine iteF ?_
    refine ⟨_, rfl, rfl, _, rfl, ?_⟩
    rw [hq l_in (show decide (Wm.hdW .within = Wm.wIn) = false from by decide)]
    refine iteF ?_
    refine ⟨_, rfl, rfl, _, rfl, ?_⟩
    rw [hq l_member (show decide (Wm.hdW .within = Wm.wMember) = false from by decide)]
    refine iteF ?_
    obtain ⟨t1, c1, ht1⟩ := tok_at A1.lt
    refine rd_take rfl A1.rd ht1 (fun e => ?_) (fun e => A1.stop ht1 ?_ rfl)
    rotate_left
    · cases t1 with
      | word wd => exact absurd rfl e
      | _ => rfl
    obtain ⟨wd, rfl⟩ := (kind_word t1).mp e
    have A2 := A1.step ht1 (s' := (.com (.wit wd), S)) rfl
    obtain ⟨j1, ej1⟩ : ∃ j1, j1 = j + 1 := ⟨_, rfl⟩
    have le1 : j ≤ j1 := by omega
    rw [← ej1] at A2 ⊢
    obtain ⟨t2, c2, ht2⟩ := tok_at A2.lt
    refine rd_take rfl A2.rd ht2 (fun e => ?_) (fun e => A2.stop ht2 (if_neg fun z => e ((kind_mark l_comma t2).mpr z)) rfl)
    have A3 := A2.step ht2 (s' := (.tgt wd, S)) (if_pos ((kind_mark l_comma t2).mp e))
    refine ⟨_, rfl, rfl, _, rfl, ?_⟩
    rw [hq l_is (show decide (Wm.hdW .within = Wm.wIs) = false from by decide)]
    refine iteF ?_
    refine ⟨_, rfl, rfl, _, rfl, ?_⟩
    rw [hq l_in (show decide (Wm.hdW .within = Wm.wIn) = false from by decide)]
    refine iteF ?_
    refine ⟨_, rfl, rfl, _, rfl, ?_⟩
    rw [hq l_member (show decide (Wm.hdW .within = Wm.wMember) = false from by decide)]
    refine iteF ?_
    refine ⟨_, rfl, rfl, _, rfl, ?_⟩
    rw [hq l_within (show decide (Wm.hdW .within = Wm.wWithin) = true from by decide)]
    refine iteT ?_
    refine ⟨_, rfl, _, rfl, _, rfl, r, dx, l, refs, toks, j1 + 1, wd, S, res, rfl, A3, fun v2 H2 g hv2 b2 => ?_⟩
    refine ⟨fits3, fun p hp => ?_⟩
    have kp : Tups H2 (upd H2 p (.tup [.str (sL Wm.wWithin), .str (sL wd), v2])) := Same.tups (Same.new hp)
    exact q _ _ (.within wd g) ⟨p, v2, rfl, upd_same, hv2.keep kp⟩ ((b2.from (SameBut.put.trans SameBut.put) (by omega)).close.new hp)
  | most =>
    refine ⟨_, rfl, rfl, _, rfl, ?_⟩
    rw [hq l_most (show decide (Wm.hdW .most = Wm.wMost) = true from by decide)]
    refine iteT ?_
    exact ⟨_, rfl, r, dx, l, refs, toks, j, S, res, rfl, A1, fun v H' sm hv b => q v H' sm hv b.close⟩
  | path u =>
    cases u with
    | true =>
      refine ⟨_, rfl, rfl, _, rfl, ?_⟩
      rw [hq l_most (show decide (Wm.hdW (.path true) = Wm.wMost) = false from by decide)]
      refine iteF ?_
      refine ⟨_, rfl, rfl, _, rfl, ?_⟩
      rw [hq l_is (show decide (Wm.hdW (.path true) = Wm.wIs) = false from by decide)]
      refine iteF ?_
      refine ⟨_, rfl, rfl, _, rfl, ?_⟩
      rw [hq l_in (show decide (Wm.hdW (.path true) = Wm.wIn) = false from by decide)]
      refine iteF ?_
      refine ⟨_, rfl, rfl, _, rfl, ?_⟩
      rw [hq l_member (show decide (Wm.hdW (.path true) = Wm.wMember) = false from by decide)]
      refine iteF ?_
      obtain ⟨t1, c1, ht1⟩ := tok_at A1.lt
      refine rd_take rfl A1.rd ht1 (fun e => ?_) (fun e => A1.stop ht1 ?_ rfl)
      rotate_left
      · cases t1 with
        | word wd => exact absurd rfl e
        | _ => rfl
      obtain ⟨wd, rfl⟩ := (kind_word t1).mp e
      have A2 := A1.step ht1 (s' := (.com (.pth true wd), S)) rfl
      obtain ⟨j1, ej1⟩ : ∃ j1, j1 = j + 1 := ⟨_, rfl⟩
      have le1 : j ≤ j1 := by omega
      rw [← ej1] at A2 ⊢
      obtain ⟨t2, c2, ht2⟩ := tok_at A2.lt
      refine rd_take rfl A2.rd ht2 (fun e => ?_) (fun e => A2.stop ht2 (if_neg fun z => e ((kind_mark l_comma t2).mpr z)) rfl)
      have A3 := A2.step ht2 (s' := (.tm0 true wd, S)) (if_pos ((kind_mark l_comma t2).mp e))
      refine ⟨_, rfl, rfl, _, rfl, ?_⟩
      rw [hq l_is (show decide (Wm.hdW (.path true) = Wm.wIs) = false from by decide)]
      refine iteF ?_
      refine ⟨_, rfl, rfl, _, rfl, ?_⟩
      rw [hq l_in (show decide (Wm.hdW (.path true) = Wm.wIn) = false from by decide)]
      refine iteF ?_
      refine ⟨_, rfl, rfl, _, rfl, ?_⟩
      rw [hq l_member (show decide (Wm.hdW (.path true) = Wm.wMember) = false from by decide)]
      refine iteF ?_
      refine ⟨_, rfl, rfl, _, rfl, ?_⟩
      rw [hq l_within (show decide (Wm.hdW (.path true) = Wm.wWithin) = false from by decide)]
      refine iteF ?_
      refine ⟨_, rfl, _, rfl, _, rfl, r, dx, l, refs, toks, j1 + 1, true, wd, S, res, rfl, A3, fun a H2 xs ts hxs hts b2 => ?_⟩
      refine ⟨fits3, fun p hp => ?_⟩
      have kp : Tups H2 (upd H2 p (.tup [.str (sL (Wm.hdW (.path true))), .str (sL wd), .ref a])) := Same.tups (Same.new hp)
      exact q _ _ (.path true wd ts) ⟨p, a, xs, rfl, upd_same, kp _ _ hxs, hts.keep kp⟩ ((b2.from (SameBut.put.trans SameBut.put) (by omega)).new hp)
    | false =>
      refine ⟨_, rfl, rfl, _, rfl, ?_⟩
      rw [hq l_most (show decide (Wm.hdW (.path false) = Wm.wMost) = false from by decide)]
      refine iteF ?_
      refine ⟨_, rfl, rfl, _, rfl, ?_⟩
      rw [hq l_is (show decide (Wm.hdW (.path false) = Wm.wIs) = false from by decide)]
      refine iteF ?_
      refine ⟨_, rfl, rfl, _, rfl, ?_⟩
      rw [hq l_in (show decide (Wm.hdW (.path false) = Wm.wIn) = false from by decide)]
      refine iteF ?_
      refine ⟨_, rfl, rfl, _, rfl, ?_⟩
      rw [hq l_member (show decide (Wm.hdW (.path false) = Wm.wMember) = false from by decide)]
      refine iteF ?_
      obtain ⟨t1, c1, ht1⟩ := tok_at A1.lt
      refine rd_take rfl A1.rd ht1 (fun e => ?_) (fun e => A1.stop ht1 ?_ rfl)
      rotate_left
      · cases t1 with
        | word wd => exact absurd rfl e
        | _ => rfl
      obtain ⟨wd, rfl⟩ := (kind_word t1).mp e
      have A2 := A1.step ht1 (s' := (.com (.pth false wd), S)) rfl
      obtain ⟨j1, ej1⟩ : ∃ j1, j1 = j + 1 := ⟨_, rfl⟩
      have le1 : j ≤ j1 := by omega
      rw [← ej1] at A2 ⊢
      obtain ⟨t2, c2, ht2⟩ := tok_at A2.lt
      refine rd_take rfl A2.rd ht2 (fun e => ?_) (fun e => A2.stop ht2 (if_neg fun z => e ((kind_mark l_comma t2).mpr z)) rfl)
      have A3 := A2.step ht2 (s' := (.tm0 false wd, S)) (if_pos ((kind_mark l_comma t2).mp e))
      refine ⟨_, rfl, rfl, _, rfl, ?_⟩
      rw [hq l_is (show decide (Wm.hdW (.path false) = Wm.wIs) = false from by decide)]
      refine iteF ?_
      refine ⟨_, rfl, rfl, _, rfl, ?_⟩
      rw [hq l_in (show decide (Wm.hdW (.path false) = Wm.wIn) = false from by decide)]
      refine iteF ?_
      refine ⟨_, rfl, rfl, _, rfl, ?_⟩
      rw [hq l_member (show decide (Wm.hdW (.path false) = Wm.wMember) = false from by decide)]
      refine iteF ?_
      refine ⟨_, rfl, rfl, _, rfl, ?_⟩
      rw [hq l_within (show decide (Wm.hdW (.path false) = Wm.wWithin) = false from by decide)]
      refine iteF ?_
      refine ⟨_, rfl, _, rfl, _, rfl, r, dx, l, refs, toks, j1 + 1, false, wd, S, res, rfl, A3, fun a H2 xs ts hxs hts b2 => ?_⟩
      refine ⟨fits3, fun p hp => ?_⟩
      have kp : Tups H2 (upd H2 p (.tup [.str (sL (Wm.hdW (.path false))), .str (sL wd), .ref a])) := Same.tups (Same.new hp)
      exact q _ _ (.path false wd ts) ⟨p, a, xs, rfl, upd_same, kp _ _ hxs, hts.keep kp⟩ ((b2.from (SameBut.put.trans SameBut.put) (by omega)).new hp)
end
end Wk
end PartRd4
section PartRd5
set_option Elab.async false
set_option linter.all false
set_option maxRecDepth 100000
set_option maxHeartbeats 4000000
namespace Wk
open PySem PySem.Spec PyProof.Rows L2
theorem in_heads (wd : Wm.L) : inV (.str (sL wd)) cHEADS = (Wm.headOf wd).isSome := by
  have e : ∀ {x : Str} {v : Wm.L}, x = sL v → (x == sL wd) = decide (wd = v) := fun {x v} h => by
    subst h
    by_cases q : wd = v
    · subst q; simp
    · rw [decide_eq_false q]
      exact beq_eq_false_iff_ne.mpr fun z => q (sL_inj z).symm
  have lu : Str.ofString "under" = sL Wm.wUnder := by decide +kernel
  have la : Str.ofString "at" = sL Wm.wAt := by decide +kernel
  unfold inV cHEADS
  simp only [List.any_cons, List.any_nil, eqV]
  rw [e l_yes, e l_no, e l_is, e l_in, e l_within, e l_most, e l_member, e lu, e la, e l_not, e l_all, e l_any]
  unfold Wm.headOf
  by_cases h1 : wd = Wm.wYes
  · rw [if_pos h1, decide_eq_true h1] <;> rfl
  rw [if_neg h1, decide_eq_false h1]
  by_cases h2 : wd = Wm.wNo
  · rw [if_pos h2, decide_eq_true h2] <;> rfl
  rw [if_neg h2, decide_eq_false h2]
  by_cases h3 : wd = Wm.wIs
  · rw [if_pos h3, decide_eq_true h3] <;> rfl
  rw [if_neg h3, decide_eq_false h3]
  by_cases h4 : wd = Wm.wIn
  · rw [if_pos h4, decide_eq_true h4] <;> rfl
  rw [if_neg h4, decide_eq_false h4]
  by_cases h5 : wd = Wm.wWithin
  · rw [if_pos h5, decide_eq_true h5] <;> rfl
  rw [if_neg h5, decide_eq_false h5]
  by_cases h6 : wd = Wm.wMost
  · rw [if_pos h6, decide_eq_true h6] <;> rfl
  rw [if_neg h6, decide_eq_false h6]
  by_cases h7 : wd = Wm.wMember
  · rw [if_pos h7, decide_eq_true h7] <;> rfl
  rw [if_neg h7, decide_eq_false h7]
  by_cases h8 : wd = Wm.wUnder
  · rw [if_pos h8, decide_eq_true h8] <;> rfl
  rw [if_neg h8, decide_eq_false h8]
  by_cases h9 : wd = Wm.wAt
  · rw [if_pos h9, decide_eq_true h9] <;> rfl
  rw [if_neg h9, decide_eq_false h9]
  by_cases h10 : wd = Wm.wNot
  · rw [if_pos h10, decide_eq_true h10] <;> rfl
  rw [if_neg h10, decide_eq_false h10]
  by_cases h11 : wd = Wm.wAll
  · rw [if_pos h11, decide_eq_true h11] <;> rfl
  rw [if_neg h11, decide_eq_false h11]
  by_cases h12 : wd = Wm.wAny
  · rw [if_pos h12, decide_eq_true h12] <;> rfl
  rw [if_neg h12, decide_eq_false h12] <;> rfl
section
variable {P : Program} {w : World} {K : PySem.W.Frag} {mg : Str → Option Value} {base : Heap} {C B : Addr}
/-- a condition is due; n: how many depths are left, and two -/
def sp_read_at (C B : Addr) (n : Nat) : Sp := fun vs H Q E => ∃ (r dx l : Addr) (refs : List Addr) (toks : Toks) (j : Nat) (S : List Wm.Fr) (res : Wm.Res), vs = [.ref r, .int ((S.length : Int) + 1)] ∧ (S.length + n = 13 ∧ S.length ≤ 12) ∧ At C B H E r dx l refs toks j (.cond, S) res ∧
  ∀ v H' c, CndV H' c v → Bk C H r dx l toks (j + 1) res (.done c, S) H' → Q v H'
def sp_read_parts (C B : Addr) (n : Nat) : Sp := fun vs H Q E => ∃ (r dx l : Addr) (refs : List Addr) (toks : Toks) (j : Nat) (b : Bool) (S : List Wm.Fr) (res : Wm.Res), vs = [.ref r, .int ((S.length : Int) + 2)] ∧ (S.length + 1 + n = 13 ∧ S.length + 1 ≤ 12) ∧ At C B H E r dx l refs toks j (.condOr, .manyF b [] :: S) res ∧
  ∀ a H' xs cs, H' a = some (.tup xs) → CndsV H' cs xs → BkC C H r dx l toks j res (.many b cs) S H' → Q (.ref a) H'
abbrev s_read_parts : Stmt := topS 37
abbrev N_read_parts : List Str := ["reader", "depth", "parts"]
theorem sc_read_parts : FnScope N_read_parts ["reader", "depth"] (defScope s_read_parts) := ⟨rfl, rfl, rfl, by decide +kernel, rfl, by decide +kernel, by decide +kernel⟩
theorem step_dm (b : Bool) (acc : List Wm.Cnd) (c : Wm.Cnd) (S : List Wm.Fr) (t : Wm.Tk) : Wm.step (.done c, .manyF b acc :: S) t = if t = .mark 41 then some (.done (.many b (acc ++ [c])), S) else if t = .mark 44 then some (.cond, .manyF b (acc ++ [c]) :: S) else none := rfl
theorem step_co (b : Bool) (acc : List Wm.Cnd) (S : List Wm.Fr) (t : Wm.Tk) : Wm.step (.condOr, .manyF b acc :: S) t = if t = .mark 41 then some (.done (.many b acc), S) else Wm.dCond (.manyF b acc :: S) t := rfl
theorem ok_read_parts (G : Glob K mg) (M : Rds P w K mg base C B) (D : Df K mg "read_parts" s_read_parts ["reader", "depth"]) (n : Nat) (C_read_at : Cal P w K mg base (L2N.CX P w) (10 + 2 * n) "read_at" ["reader", "depth"] (sp_read_at C B n)) :
    Cal P w K mg base (L2N.CX P w) (10 + 2 * n + 1) "read_parts" ["reader", "depth"] (sp_read_parts C B n) := by
  refine D.okN sc_read_parts (fun vs H Q E h => ?_) (fun f cdv A outer s H vs Q E hr h => ?_)
  · obtain ⟨r, dx, l, refs, toks, j, b, S, res, rfl, _⟩ := h
    rfl
  obtain ⟨r, dx, l, refs, toks, j, b, S, res, rfl, ⟨hn1, hn2⟩, A1, q⟩ := h
  obtain ⟨R, T, M_kind, M_value, M_need, M_take⟩ := M
  refine ⟨_, (pss_cons (ps_set (i := 2) sc_read_parts.nd rfl (Or.inl rfl) (pe_lst pa_nil))
    (pss_cons (ps_if (pt_cmpR op_ne (pe_calM0 (pv 0) R.cl M_kind (hr.mono (by omega)) pass0) pe_str (nomark _))
      (pss_cons (ps_expr (pe_bm PySem.F.plainAttrs_list PySem.F.slot_list_append PySem.F.type_list_append mt_append (pv 2) (pa_cons (pe_cal C_read_at hr (passN rfl rfl rfl rfl) (pa_cons (pv 0) (pa_cons (pv 1) pa_nil))) pa_nil)))
      (pss_one (ps_while (passes_of rfl) (pt_cmpR op_eq (pe_calM0 (pv 0) R.cl M_kind (hr.mono (by omega)) pass0) pe_str (nomark _))
        (pss_cons (ps_expr (pe_calM (pv 0) R.cl M_take (hr.mono (by omega)) (passN rfl rfl rfl rfl) (pa_cons pe_str pa_nil)))
        (pss_one (ps_expr (pe_bm PySem.F.plainAttrs_list PySem.F.slot_list_append PySem.F.type_list_append mt_append (pv 2) (pa_cons (pe_cal C_read_at hr (passN rfl rfl rfl rfl) (pa_cons (pv 0) (pa_cons (pv 1) pa_nil))) pa_nil))))))))
      pss_nil)
    (pss_one (ps_ret (pe_callTy call_tuple_of rfl G.tuple boot_tuple (pa_cons (pv 2) pa_nil)))))), ?_⟩
  -- parts = []
  refine ⟨(by show 0 ≤ sizeLine; decide), fun lt hlt => ?_⟩
  have A2 := A1.new hlt (o := .lst [])
  have nlr := A1.nr hlt
  have nll := A1.nl hlt
  have k2 : SameBut r H (upd H lt (.lst [])) := SameBut.new hlt
  have hdep : ∀ acc, V.int ((S.length : Int) + 2) = V.int (((Wm.Fr.manyF b acc :: S).length : Int) + 1) := fun acc => by
    rw [List.length_cons]
    congr 1
  -- the end
  have fin : ∀ (cs : List Wm.Cnd) (xs : List V) (j' : Nat) (H' : Hp) (s' : Wm.St), H' lt = some (.lst xs) → CndsV H' cs xs → SameBut r H H' → j ≤ j' → At C B H' E r dx l refs toks j' s' res → Wm.final s' = none →
      (∀ t c, toks[j']? = some (t, c) → Wm.step s' t = if t = .mark 41 then some (.done (.many b cs), S) else none) →
      (tRet (tCB (fun xs H Q => ∃ p ys, xs = [V.ref p] ∧ ((SqL K H p ys ∧ ∀ l, H l = none → Q (.ref l) (upd H l (.tup ys))) ∨ (SqT K H p ys ∧ Q (.ref p) H))) (tCons (tVar 2) tNil))) { nx := fun _ H' => Q .non H', rt := Q } [some (.ref r), some (.int ((S.length : Int) + 2)), some (.ref lt)] H' := by
    intro cs xs j' H' s' hL hT hS hj A4 hf hst
    refine ⟨_, rfl, lt, xs, rfl, .inl ⟨SqL.of hL, fun p hp => ?_⟩⟩
    have A5 := A4.new hp (o := .tup xs)
    exact q p _ xs cs upd_same (CndsV.keep (Same.tups (Same.new hp)) hT) ⟨hS.trans (SameBut.new hp), j', s', hj, A5.rd.obj, A5.lt, A5.go, hf, hst⟩
  obtain ⟨t1, c1, ht1⟩ := tok_at A2.lt
  refine rd_kind rfl A2.rd ht1 ⟨rfl, _, rfl, ?_⟩
  rw [dec_str']
  by_cases e1 : kindS t1 = Str.ofString ")"
  · rw [decide_eq_true e1]
    refine iteF ?_
    have et1 := (kind_mark l_close t1).mp e1
    refine fin [] [] j _ _ upd_same (by rw [CndsV]) k2 (Nat.le_refl _) A2 rfl fun t' c' h' => ?_
    rw [ht1] at h'
    cases h'
    rw [step_co, if_pos et1, if_pos et1]
  rw [decide_eq_false e1]
  refine iteT ?_
  have et1 : t1 ≠ .mark 41 := fun z => e1 ((kind_mark l_close t1).mpr z)
  have A3 := A2.same ht1 (s' := (.cond, .manyF b [] :: S)) (by rw [step_co, if_neg et1] <;> rfl) rfl rfl
  refine ⟨_, rfl, .inl ⟨rfl, _, SqL.of upd_same⟩, _, rfl, _, rfl, r, dx, l, refs, toks, j, .manyF b [] :: S, res, by rw [hdep []] <;> rfl, ⟨by rw [List.length_cons]; omega, by rw [List.length_cons]; omega⟩, A3, fun v1 H5 c0 hv1 ⟨k5, j5, le5, o5, lt5, g5⟩ => ?_⟩
  have A5 := A3.on k5 o5 lt5 g5
  have hL5 : H5 lt = some (.lst []) := k5 _ _ nlr upd_same
  refine ⟨lt, [], _, rfl, rfl, hL5, (by show 0 < sizeLine; decide), ?_⟩
  have k6 : SameBut r H H5 := k2.trans k5
  have A6 := A5.app (ys := [v1]) hL5 nll k6 hlt A1.no
  have up5 : Tups H5 (upd H5 lt (.lst [v1])) := Tups.put hL5 fun xs e => by cases e
  refine ⟨fun m σ H' => ∃ (acc : List Wm.Cnd) (ca : Wm.Cnd) (xs : List V) (j' : Nat), m = toks.length - j' ∧ σ = [some (.ref r), some (.int ((S.length : Int) + 2)), some (.ref lt)] ∧ H' lt = some (.lst xs) ∧ CndsV H' (acc ++ [ca]) xs ∧ SameBut r H H' ∧ j ≤ j' ∧ xs.length ≤ j' ∧ At C B H' E r dx l refs toks j' (.done ca, .manyF b acc :: S) res,
    ⟨_, [], c0, [v1], j5, rfl, rfl, upd_same, CndsV.snoc (cs := []) (vs := []) (CndV.keep up5 hv1) (by rw [CndsV]), k6.put0 hlt, by omega, by show 1 ≤ j5; omega, A6⟩, ?_⟩
  rintro m σ H' ⟨acc, ca, xs, j', rfl, rfl, hL, hT, hS, hj, hx, A7⟩
  obtain ⟨t3, c3, ht3⟩ := tok_at A7.lt
  refine rd_kind rfl A7.rd ht3 ⟨rfl, _, rfl, ?_⟩
  rw [dec_str']
  by_cases e3 : kindS t3 = Str.ofString ","
  · rw [decide_eq_true e3]
    refine iteT ?_
    have et3 := (kind_mark l_comma t3).mp e3
    subst et3
    refine ⟨fun σ' H'' => ∃ (acc : List Wm.Cnd) (ca : Wm.Cnd) (xs : List V) (j'' : Nat), j' < j'' ∧ σ' = [some (.ref r), some (.int ((S.length : Int) + 2)), some (.ref lt)] ∧ H'' lt = some (.lst xs) ∧ CndsV H'' (acc ++ [ca]) xs ∧ SameBut r H H'' ∧ j ≤ j'' ∧ xs.length ≤ j'' ∧ At C B H'' E r dx l refs toks j'' (.done ca, .manyF b acc :: S) res,
      fun σ' H'' ⟨acc, ca, xs, j'', h1, h2⟩ => ⟨_, by have := h2.2.2.2.2.2.2.lt; have := A7.lt; omega, acc, ca, xs, j'', rfl, h2⟩, ?_⟩
    refine rd_take rfl A7.rd ht3 (fun _ => ?_) (fun z => absurd e3 z)
    have A8 := A7.step ht3 (s' := (.cond, .manyF b (acc ++ [ca]) :: S)) (by rw [step_dm, if_neg (by simp), if_pos rfl])
    have hL8 : upd H' r (.ins C dx (rdF l (j' + 1))) lt = some (.lst xs) := by rw [upd_ne nlr]; exact hL
    refine ⟨_, rfl, .inl ⟨rfl, _, SqL.of hL8⟩, _, rfl, _, rfl, r, dx, l, refs, toks, j' + 1, .manyF b (acc ++ [ca]) :: S, res, by rw [hdep (acc ++ [ca])] <;> rfl, ⟨by rw [List.length_cons]; omega, by rw [List.length_cons]; omega⟩, A8, fun v9 H9 c9 hv9 ⟨k9, j9, le9, o9, lt9, g9⟩ => ?_⟩
    have A9 := A8.on k9 o9 lt9 g9
    have hL9 : H9 lt = some (.lst xs) := k9 _ _ nlr hL8
    have kS : SameBut r H H9 := hS.trans (SameBut.put.trans k9)
    have kT : Tups H' H9 := (SameBut.put.trans k9).tups A7.rd.obj
    have up9 : Tups H9 (upd H9 lt (.lst (xs ++ [v9]))) := Tups.put hL9 fun xs e => by cases e
    refine ⟨lt, xs, v9, rfl, rfl, hL9, by have := A7.lt; have := A7.rd.few; omega, ?_⟩
    exact ⟨acc ++ [ca], c9, xs ++ [v9], j9, by omega, rfl, upd_same, CndsV.snoc (CndV.keep up9 hv9) (CndsV.keep up9 (CndsV.keep kT hT)), kS.put0 hlt, by omega, by rw [List.length_append, List.length_singleton]; omega, A9.app hL9 nll kS hlt A1.no⟩
  · rw [decide_eq_false e3]
    refine iteF ?_
    have et3 : t3 ≠ .mark 44 := fun h => e3 ((kind_mark l_comma t3).mpr h)
    refine fin (acc ++ [ca]) xs j' _ _ hL hT hS hj A7 rfl fun t' c' h' => ?_
    rw [ht3] at h'
    cases h'
    rw [step_dm]
    by_cases h41 : t3 = .mark 41
    · rw [if_pos h41, if_pos h41]
    · rw [if_neg h41, if_neg h41, if_neg et3]
abbrev s_read_at : Stmt := topS 38
abbrev N_read_at : List Str := ["reader", "depth", "head", "condition"]
theorem sc_read_at : FnScope N_read_at ["reader", "depth"] (defScope s_read_at) := ⟨rfl, rfl, rfl, by decide +kernel, rfl, by decide +kernel, by decide +kernel⟩
theorem step_cond (S : List Wm.Fr) (wd : Wm.L) : Wm.step (.cond, S) (.word wd) = if S.length + 1 ≤ 12 then (match Wm.headOf wd with | some (.inl s) => some (.done (.smp s), S) | some (.inr h) => some (.opn h, S) | none => none) else none := rfl
def hdSt (S : List Wm.Fr) : Wm.Smp ⊕ Wm.Hd → Wm.St
  | .inl s => (.done (.smp s), S)
  | .inr h => (.opn h, S)
theorem step_cond' {S : List Wm.Fr} {wd : Wm.L} {r' : Wm.Smp ⊕ Wm.Hd} (hd : S.length + 1 ≤ 12) (e : Wm.headOf wd = some r') : Wm.step (.cond, S) (.word wd) = some (hdSt S r') := by
  rw [step_cond, if_pos hd, e]
  cases r' <;> rfl
theorem ok_read_at (G : Glob K mg) (M : Rds P w K mg base C B) (D : Df K mg "read_at" s_read_at ["reader", "depth"]) (n : Nat) (C_read_at : Cal P w K mg base (L2N.CX P w) (10 + 2 * n) "read_at" ["reader", "depth"] (sp_read_at C B n))
    (C_read_parts : Cal P w K mg base (L2N.CX P w) (10 + 2 * n + 1) "read_parts" ["reader", "depth"] (sp_read_parts C B n)) (C_read_simple : Cal P w K mg base (L2N.CX P w) 9 "read_simple" ["reader", "head"] (sp_read_simple C B)) :
    Cal P w K mg base (L2N.CX P w) (10 + 2 * n + 1 + 1) "read_at" ["reader", "depth"] (sp_read_at C B (n + 1)) := by
  refine D.okN sc_read_at (fun vs H Q E h => ?_) (fun f cdv A outer s H vs Q E hr h => ?_)
  · obtain ⟨r, dx, l, refs, toks, j, S, res, rfl, _⟩ := h
    rfl
  obtain ⟨r, dx, l, refs, toks, j, S, res, rfl, ⟨hn1, hn2⟩, A1, q⟩ := h
  obtain ⟨R, T, M_kind, M_value, M_need, M_take⟩ := M
  obtain ⟨ha, hHEADS, sHEADS⟩ := G.HEADS
  refine ⟨_, (pss_cons (ps_expr (pe_calM (pv 0) R.cl M_need (hr.mono (by omega)) (passN rfl rfl rfl rfl) (pa_cons (pe_and (pe_cmpR op_le (pv 1) (pe_gv G.MOST_DEPTH) (nomark _)) (pe_and (pe_cmpR op_eq (pe_calM0 (pv 0) R.cl M_kind (hr.mono (by omega)) pass0) pe_str (nomark _)) (pe_one (pe_cmpR op_in_seq (pe_calM0 (pv 0) R.cl M_value (hr.mono (by omega)) pass0) (pe_gv hHEADS) (by rfl))))) pa_nil)))
    (pss_cons (ps_set (i := 2) sc_read_at.nd rfl (Or.inl rfl) (pe_calM (pv 0) R.cl M_take (hr.mono (by omega)) (passN rfl rfl rfl rfl) (pa_cons pe_str pa_nil)))
    (pss_cons (ps_if (pt_cmpR op_eq (pv 2) pe_str (nomark _))
      (pss_one (ps_ret (pe_tup (pa_cons pe_str pa_nil))))
      pss_nil)
    (pss_cons (ps_if (pt_cmpR op_eq (pv 2) pe_str (nomark _))
      (pss_one (ps_ret (pe_tup (pa_cons pe_str pa_nil))))
      pss_nil)
    (pss_cons (ps_expr (pe_calM (pv 0) R.cl M_take (hr.mono (by omega)) (passN rfl rfl rfl rfl) (pa_cons pe_str pa_nil)))
    (pss_cons (ps_if (pt_cmpR op_eq (pv 2) pe_str (nomark _))
      (pss_one (ps_set (i := 3) sc_read_at.nd rfl (Or.inl rfl) (pe_tup (pa_cons (pv 2) (pa_cons (pe_cal C_read_at (hr.mono (by omega)) (passN rfl rfl rfl rfl) (pa_cons (pv 0) (pa_cons (pe_op op_add (pv 1) pe_int) pa_nil))) pa_nil)))))
      (pss_one (ps_if (PW.pt (pw_or (pt_cmpR op_eq (pv 2) pe_str (nomark _)) (pw_or1 (pt_cmpR op_eq (pv 2) pe_str (nomark _)))))
        (pss_one (ps_set (i := 3) sc_read_at.nd rfl (Or.inl rfl) (pe_tup (pa_cons (pv 2) (pa_cons (pe_cal C_read_parts hr (passN rfl rfl rfl rfl) (pa_cons (pv 0) (pa_cons (pe_op op_add (pv 1) pe_int) pa_nil))) pa_nil)))))
        (pss_one (ps_set (i := 3) sc_read_at.nd rfl (Or.inl rfl) (pe_cal C_read_simple (hr.mono (by omega)) (passN rfl rfl rfl rfl) (pa_cons (pv 0) (pa_cons (pv 2) pa_nil))))))))
    (pss_cons (ps_expr (pe_calM (pv 0) R.cl M_take (hr.mono (by omega)) (passN rfl rfl rfl rfl) (pa_cons pe_str pa_nil)))
    (pss_one (ps_ret (pv 3)))))))))), ?_⟩
  obtain ⟨t, c, ht⟩ := tok_at A1.lt
  have edep : decide (((S.length : Int) + 1) ≤ 12) = decide (S.length + 1 ≤ 12) := decide_eq_decide.mpr (by omega)
  -- the head fits, or an error here
  by_cases good : S.length + 1 ≤ 12 ∧ ∃ wd r', t = .word wd ∧ Wm.headOf wd = some r'
  rotate_left
  · have hstop : Wm.step (.cond, S) t = none := by
      cases t with
      | word wd =>
        rw [step_cond]
        by_cases hd : S.length + 1 ≤ 12
        · rw [if_pos hd]
          cases e : Wm.headOf wd with
          | none => rfl
          | some r' => exact absurd ⟨hd, wd, r', rfl, e⟩ good
        · rw [if_neg hd]
      | _ => rfl
    refine rd_need (b := false) rfl A1.rd ht (fun Q' q' => ?_) (fun z => by cases z) (fun _ => A1.stop ht hstop rfl)
    refine ⟨_, rfl, _, _, rfl, rfl, _, rfl, ?_⟩
    rw [edep]
    by_cases hd : S.length + 1 ≤ 12
    · rw [decide_eq_true hd]
      refine iteT ?_
      refine rd_kind rfl A1.rd ht ⟨rfl, _, rfl, ?_⟩
      rw [dec_str']
      by_cases hk : kindS t = Str.ofString "word"
      · rw [decide_eq_true hk]
        refine iteT ?_
        obtain ⟨wd, rfl⟩ := (kind_word t).mp hk
        refine rd_value rfl A1.rd ht ⟨ha, cHEADS, rfl, .inr (sHEADS _), rfl, rfl, ?_⟩
        have e : inV (valV (.word wd)) cHEADS = false := by
          rw [show valV (.word wd) = V.str (sL wd) from rfl, in_heads]
          cases e : Wm.headOf wd with
          | none => rfl
          | some r' => exact absurd ⟨hd, wd, r', rfl, e⟩ good
        rw [e]
        exact q'
      · rw [decide_eq_false hk]
        exact iteF q'
    · rw [decide_eq_false hd]
      exact iteF q'
  obtain ⟨hd, wd, r', rfl, hr'⟩ := good
  refine rd_need (b := true) rfl A1.rd ht (fun Q' q' => ?_) (fun _ => ?_) (fun z => by cases z)
  · refine ⟨_, rfl, _, _, rfl, rfl, _, rfl, ?_⟩
    rw [edep, decide_eq_true hd]
    refine iteT ?_
    refine rd_kind rfl A1.rd ht ⟨rfl, _, rfl, ?_⟩
    rw [dec_str', decide_eq_true (show kindS (.word wd) = Str.ofString "word" from rfl)]
    refine iteT ?_
    refine rd_value rfl A1.rd ht ⟨ha, cHEADS, rfl, .inr (sHEADS _), rfl, rfl, ?_⟩
    have e : inV (valV (.word wd)) cHEADS = true := by
      rw [show valV (.word wd) = V.str (sL wd) from rfl, in_heads, hr'] <;> rfl
    rw [e]
    exact q'
  refine rd_take rfl A1.rd ht (fun _ => ?_) (fun z => absurd rfl z)
  refine ⟨_, rfl, rfl, _, rfl, ?_⟩
  have hst := step_cond' hd hr'
  have fits1 : ∀ {a : V}, ([a] : List V).length ≤ sizeLine := by intro a; show 1 ≤ sizeLine; decide
  have fits2 : ∀ {a b : V}, ([a, b] : List V).length ≤ sizeLine := by intro a b; show 2 ≤ sizeLine; decide
  rcases Wm.headOf_some hr' with ⟨e1, e2⟩ | ⟨e1, e2⟩ | ⟨h, e1, e2⟩ <;> subst e1 <;> subst e2
  · -- yes
    rw [show valV (.word Wm.wYes) = V.str (sL Wm.wYes) from rfl, hq l_yes (show decide (Wm.wYes = Wm.wYes) = true from by decide)]
    refine iteT ?_
    have A2 := A1.step ht hst
    refine ⟨fits1, fun p hp => ?_⟩
    have A3 := A2.new hp (o := .tup [.str (Str.ofString "true")])
    exact q _ _ (.smp .tt) (by rw [CndV]; exact ⟨p, rfl, upd_same⟩) ⟨SameBut.put.trans (SameBut.new hp), _, Nat.le_refl _, A3.rd.obj, A3.lt, A3.go⟩
  · -- no
    rw [show valV (.word Wm.wNo) = V.str (sL Wm.wNo) from rfl, hq l_yes (show decide (Wm.wNo = Wm.wYes) = false from by decide)]
    refine iteF ?_
    refine ⟨_, rfl, rfl, _, rfl, ?_⟩
    rw [hq l_no (show decide (Wm.wNo = Wm.wNo) = true from by decide)]
    refine iteT ?_
    have A2 := A1.step ht hst
    refine ⟨fits1, fun p hp => ?_⟩
    have A3 := A2.new hp (o := .tup [.str (Str.ofString "false")])
    exact q _ _ (.smp .ff) (by rw [CndV]; exact ⟨p, rfl, upd_same⟩) ⟨SameBut.put.trans (SameBut.new hp), _, Nat.le_refl _, A3.rd.obj, A3.lt, A3.go⟩
  · -- a head
    have ny : decide (Wm.hdW h = Wm.wYes) = false := by cases h with
      | path u => cases u <;> decide
      | many a => cases a <;> decide
      | _ => decide
    have nn : decide (Wm.hdW h = Wm.wNo) = false := by cases h with
      | path u => cases u <;> decide
      | many a => cases a <;> decide
      | _ => decide
    rw [show valV (.word (Wm.hdW h)) = V.str (sL (Wm.hdW h)) from rfl, hq l_yes ny]
    refine iteF ?_
    refine ⟨_, rfl, rfl, _, rfl, ?_⟩
    rw [hq l_no nn]
    refine iteF ?_
    have A2 := A1.step ht hst
    obtain ⟨t2, c2, ht2⟩ := tok_at A2.lt
    refine rd_take rfl A2.rd ht2 (fun e => ?_) (fun e => A2.stop ht2 (if_neg fun z => e ((kind_mark l_open t2).mpr z)) rfl)
    have A3 := A2.step ht2 (s' := Wm.opened h S) (if_pos ((kind_mark l_open t2).mp e))
    -- behind the parenthesis: the closing one, and the end
    have fin : ∀ (v : V) (H4 : Hp) (c4 : Wm.Cnd), CndV H4 c4 v → BkC C H r dx l toks (j + 1) res c4 S H4 →
        (tSeq (tDrop (tMeth C "take" (sp_take C B) [] E (tVar 0) (tCons (tC (.str (Str.ofString ")"))) tNil))) (tRet (tVar 3))) { nx := fun _ H' => Q .non H', rt := Q } [some (.ref r), some (.int ((S.length : Int) + 1)), some (.str (sL (Wm.hdW h))), some v] H4 := by
      intro v H4 c4 hv ⟨k4, j4, s4, le4, o4, lt4, g4, f4, st4⟩
      have A4 := A1.on k4 o4 lt4 g4
      obtain ⟨t5, c5, ht5⟩ := tok_at lt4
      have st5 := st4 t5 c5 ht5
      refine rd_take rfl A4.rd ht5 (fun e5 => ?_) (fun e5 => A4.stop ht5 ?_ f4)
      · rw [if_pos ((kind_mark l_close t5).mp e5)] at st5
        have A5 := A4.step ht5 st5
        exact ⟨_, rfl, q v _ c4 (CndV.keep (SameBut.tups SameBut.put A4.rd.obj) hv) ⟨k4.trans SameBut.put, _, by omega, A5.rd.obj, A5.lt, A5.go⟩⟩
      · rw [st5, if_neg fun z => e5 ((kind_mark l_close t5).mpr z)]
    have k3 : SameBut r H (upd (upd H r (.ins C dx (rdF l (j + 1)))) r (.ins C dx (rdF l (j + 1 + 1)))) := SameBut.put.trans SameBut.put
    refine ⟨_, rfl, rfl, _, rfl, ?_⟩
    cases h with
    | not =>
      rw [hq l_not (show decide (Wm.hdW .not = Wm.wNot) = true from by decide)]
      refine iteT ?_
      refine ⟨_, rfl, _, rfl, _, rfl, _, _, rfl, rfl, r, dx, l, refs, toks, j + 1 + 1, .notF :: S, res, rfl, ⟨by rw [List.length_cons]; omega, by rw [List.length_cons]; omega⟩, A3, fun v4 H4 c4 hv4 ⟨k4, j4, le4, o4, lt4, g4⟩ => ?_⟩
      refine ⟨fits2, fun p hp => ?_⟩
      have kp : Tups H4 (upd H4 p (.tup [.str (sL (Wm.hdW .not)), v4])) := Same.tups (Same.new hp)
      refine fin _ _ (.not c4) (by rw [CndV]; exact ⟨p, v4, rfl, upd_same, CndV.keep kp hv4⟩) (BkC.new ⟨k3.trans k4, j4, _, by omega, o4, lt4, g4, rfl, fun t d _ => rfl⟩ hp)
    | many b =>
      rw [hq l_not (show decide (Wm.hdW (.many b) = Wm.wNot) = false from by cases b <;> decide)]
      refine iteF ?_
      have go : (tAsg (tTup (tCons (tVar 2) (tCons (tCall (sp_read_parts C B n) [] E (tCons (tVar 0) (tCons (tOp (rI0 fun i j => .int (i + j)) (tVar 1) (tC (.int 1))) tNil))) tNil))) (gName 3))
          { nx := fun σ' H' => (tSeq (tDrop (tMeth C "take" (sp_take C B) [] E (tVar 0) (tCons (tC (.str (Str.ofString ")"))) tNil))) (tRet (tVar 3))) { nx := fun _ H' => Q .non H', rt := Q } σ' H', rt := Q }
          [some (.ref r), some (.int ((S.length : Int) + 1)), some (.str (sL (Wm.hdW (.many b)))), none] (upd (upd H r (.ins C dx (rdF l (j + 1)))) r (.ins C dx (rdF l (j + 1 + 1)))) := by
        refine ⟨_, rfl, _, rfl, _, rfl, _, _, rfl, rfl, r, dx, l, refs, toks, j + 1 + 1, b, S, res, ?_, ⟨by omega, by omega⟩, A3, fun a H4 xs cs hxs hcs b4 => ?_⟩
        · show [V.ref r, V.int ((S.length : Int) + 1 + 1)] = [V.ref r, V.int ((S.length : Int) + 2)]
          rw [Int.add_assoc] <;> rfl
        refine ⟨fits2, fun p hp => ?_⟩
        have kp : Tups H4 (upd H4 p (.tup [.str (sL (Wm.hdW (.many b))), .ref a])) := Same.tups (Same.new hp)
        exact fin _ _ (.many b cs) (by rw [CndV]; exact ⟨p, a, xs, rfl, upd_same, kp _ _ hxs, CndsV.keep kp hcs⟩) (BkC.from k3 (by omega) (b4.new hp))
      refine ⟨_, rfl, rfl, _, rfl, ?_⟩
      cases b with
      | true =>
        rw [hq l_all (show decide (Wm.hdW (.many true) = Wm.wAll) = true from by decide)]
        exact iteT (iteT go)
      | false =>
        rw [hq l_all (show decide (Wm.hdW (.many false) = Wm.wAll) = false from by decide)]
        refine iteF ?_
        refine ⟨_, rfl, rfl, _, rfl, ?_⟩
        rw [hq l_any (show decide (Wm.hdW (.many false) = Wm.wAny) = true from by decide)]
        exact iteT go
    | is =>
      rw [hq l_not (show decide (Wm.hdW .is = Wm.wNot) = false from by decide)]
      refine iteF ?_
      refine ⟨_, rfl, rfl, _, rfl, ?_⟩
      rw [hq l_all (show decide (Wm.hdW .is = Wm.wAll) = false from by decide)]
      refine iteF ?_
      refine ⟨_, rfl, rfl, _, rfl, ?_⟩
      rw [hq l_any (show decide (Wm.hdW .is = Wm.wAny) = false from by decide)]
      refine iteF ?_
      exact ⟨_, rfl, _, rfl, r, dx, l, refs, toks, j + 1 + 1, .is, S, res, rfl, ⟨fun z => (by cases z), fun a z => (by cases z)⟩, A3, fun v H4 sm hv b4 => fin v H4 (.smp sm) (by rw [CndV]; exact hv) (BkC.from k3 (by omega) b4)⟩
    | inn =>
      rw [hq l_not (show decide (Wm.hdW .inn = Wm.wNot) = false from by decide)]
      refine iteF ?_
      refine ⟨_, rfl, rfl, _, rfl, ?_⟩
      rw [hq l_all (show decide (Wm.hdW .inn = Wm.wAll) = false from by decide)]
      refine iteF ?_
      refine ⟨_, rfl, rfl, _, rfl, ?_⟩
      rw [hq l_any (show decide (Wm.hdW .inn = Wm.wAny) = false from by decide)]
      refine iteF ?_
      exact ⟨_, rfl, _, rfl, r, dx, l, refs, toks, j + 1 + 1, .inn, S, res, rfl, ⟨fun z => (by cases z), fun a z => (by cases z)⟩, A3, fun v H4 sm hv b4 => fin v H4 (.smp sm) (by rw [CndV]; exact hv) (BkC.from k3 (by omega) b4)⟩
    | mem =>
      rw [hq l_not (show decide (Wm.hdW .mem = Wm.wNot) = false from by decide)]
      refine iteF ?_
      refine ⟨_, rfl, rfl, _, rfl, ?_⟩
      rw [hq l_all (show decide (Wm.hdW .mem = Wm.wAll) = false from by decide)]
      refine iteF ?_
      refine ⟨_, rfl, rfl, _, rfl, ?_⟩
      rw [hq l_any (show decide (Wm.hdW .mem = Wm.wAny) = false from by decide)]
      refine iteF ?_
      exact ⟨_, rfl, _, rfl, r, dx, l, refs, toks, j + 1 + 1, .mem, S, res, rfl, ⟨fun z => (by cases z), fun a z => (by cases z)⟩, A3, fun v H4 sm hv b4 => fin v H4 (.smp sm) (by rw [CndV]; exact hv) (BkC.from k3 (by omega) b4)⟩
    | within =>
      rw [hq l_not (show decide (Wm.hdW .within = Wm.wNot) = false from by decide)]
      refine iteF ?_
      refine ⟨_, rfl, rfl, _, rfl, ?_⟩
      rw [hq l_all (show decide (Wm.hdW .within = Wm.wAll) = false from by decide)]
      refine iteF ?_
      refine ⟨_, rfl, rfl, _, rfl, ?_⟩
      rw [hq l_any (show decide (Wm.hdW .within = Wm.wAny) = false from by decide)]
      refine iteF ?_
      exact ⟨_, rfl, _, rfl, r, dx, l, refs, toks, j + 1 + 1, .within, S, res, rfl, ⟨fun z => (by cases z), fun a z => (by cases z)⟩, A3, fun v H4 sm hv b4 => fin v H4 (.smp sm) (by rw [CndV]; exact hv) (BkC.from k3 (by omega) b4)⟩
    | most =>
      rw [hq l_not (show decide (Wm.hdW .most = Wm.wNot) = false from by decide)]
      refine iteF ?_
      refine ⟨_, rfl, rfl, _, rfl, ?_⟩
      rw [hq l_all (show decide (Wm.hdW .most = Wm.wAll) = false from by decide)]
      refine iteF ?_
      refine ⟨_, rfl, rfl, _, rfl, ?_⟩
      rw [hq l_any (show decide (Wm.hdW .most = Wm.wAny) = false from by decide)]
      refine iteF ?_
      exact ⟨_, rfl, _, rfl, r, dx, l, refs, toks, j + 1 + 1, .most, S, res, rfl, ⟨fun z => (by cases z), fun a z => (by cases z)⟩, A3, fun v H4 sm hv b4 => fin v H4 (.smp sm) (by rw [CndV]; exact hv) (BkC.from k3 (by omega) b4)⟩
    | path u =>
      rw [hq l_not (show decide (Wm.hdW (.path u) = Wm.wNot) = false from by cases u <;> decide)]
      refine iteF ?_
      refine ⟨_, rfl, rfl, _, rfl, ?_⟩
      rw [hq l_all (show decide (Wm.hdW (.path u) = Wm.wAll) = false from by cases u <;> decide)]
      refine iteF ?_
      refine ⟨_, rfl, rfl, _, rfl, ?_⟩
      rw [hq l_any (show decide (Wm.hdW (.path u) = Wm.wAny) = false from by cases u <;> decide)]
      refine iteF ?_
      exact ⟨_, rfl, _, rfl, r, dx, l, refs, toks, j + 1 + 1, (.path u), S, res, rfl, ⟨fun z => (by cases z), fun a z => (by cases z)⟩, A3, fun v H4 sm hv b4 => fin v H4 (.smp sm) (by rw [CndV]; exact hv) (BkC.from k3 (by omega) b4)⟩
end
end Wk
end PartRd5
section PartRd6
set_option Elab.async false
set_option linter.all false
set_option maxRecDepth 100000
set_option maxHeartbeats 4000000
namespace Wm
theorem lex_len : ∀ cs p, (lex cs p).length ≤ cs.length + 1 := by
  refine lex_ind ?_ ?_ ?_ ?_
  · intro p; rw [lex_nil]; exact Nat.le_refl _
  · intro cs p h; rw [lex_space, List.length_cons]; omega
  · intro c cs p h e
    rw [lex_bad h e]
    simp
  · intro c cs p t m h e ih
    rw [lex_tok h e, List.length_cons, List.length_cons]
    rw [List.length_drop] at ih
    omega
end Wm
namespace Wk
open PySem PySem.Spec PyProof.Rows L2
section
variable {P : Program} {w : World} {K : PySem.W.Frag} {mg : Str → Option Value} {base : Heap} {C B : Addr}
theorem rdF_mk (l : Addr) : putF ("done" : Str) (V.int 0) (putF ("tokens" : Str) (V.ref l) (putF ("line" : Str) (V.int 1) [])) = rdF l 0 := by
  have h1 : ¬ (Str.ofString "line" : Str) = Str.ofString "tokens" := by decide +kernel
  have h2 : ¬ (Str.ofString "line" : Str) = Str.ofString "done" := by decide +kernel
  have h3 : ¬ (Str.ofString "tokens" : Str) = Str.ofString "done" := by decide +kernel
  unfold rdF
  simp only [putF]
  rw [if_neg h1]
  simp only [putF]
  rw [if_neg h2, if_neg h3]
  rfl
abbrev s_rd_init : Stmt := inClass (topS 27) 0
abbrev N_rd_init : List Str := ["self", "line", "text"]
theorem sc_rd_init : FnScope N_rd_init ["self", "line", "text"] (defScope s_rd_init) := ⟨rfl, rfl, rfl, by decide +kernel, rfl, by decide +kernel, by decide +kernel⟩
def sp_rd_init (C : Addr) : Sp := fun vs H Q _ => ∃ (r dx : Addr) (cs : List Nat), vs = [.ref r, .int 1, .str (sL cs)] ∧ H r = some (.ins C dx []) ∧ cs.length + 2 ≤ sizeLine ∧
  ∀ (H' : Hp) (l : Addr) (refs : List Addr), SameBut r H H' → RdAt C H' r dx l refs (Wm.lex cs 0) 0 → Q .non H'
/-- Reader's __init__ as it stands in the class -/
def RdI (K : PySem.W.Frag) (C : Addr) : Prop := ∃ f fd, Fun K "__init__" "Reader.__init__" s_rd_init f fd ∧ Mk K C f ∧ Binds K fd ["self", "line", "text"] []
def RdIC (P : Program) (w : World) (K : PySem.W.Frag) (mg : Str → Option Value) (base : Heap) (k : Nat) (C : Addr) : Prop :=
  ∃ f fd, FnOk P w K mg base CX0 k f fd ["self", "line", "text"] (sp_rd_init C) ∧ Mk K C f ∧ Binds K fd ["self", "line", "text"] []
theorem ok_rd_init (R : RdT K C) (D : RdI K C) (C_tokens_of : Cal P w K mg base CX0 3 "tokens_of" ["text"] sp_tokens_of) : RdIC P w K mg base 4 C := by
  obtain ⟨f, fd, F, h1, h2⟩ := D
  refine ⟨f, fd, F.ok sc_rd_init (fun vs H Q E h => ?_) (fun cdv A outer s H vs Q E hr h => ?_), h1, h2⟩
  · obtain ⟨r, dx, cs, rfl, _⟩ := h
    rfl
  obtain ⟨r, dx, cs, rfl, hi, hz, q⟩ := h
  refine ⟨_, (pss_cons (ps_fld (pv 0) (pv 1) rfl)
    (pss_cons (ps_fld (pv 0) (pe_cal C_tokens_of hr pass0 (pa_cons (pv 2) pa_nil)) rfl)
    (pss_one (ps_fld (pv 0) pe_int rfl)))), ?_⟩
  refine ⟨_, rfl, _, rfl, r, C, dx, _, rfl, hi, R.cl, R.nL, (by show 0 < 1000; decide), ?_⟩
  refine ⟨_, rfl, cs, rfl, hz, fun H2 l refs s2 hl hL hT => ?_⟩
  have hr2 : H2 r = some (.ins C dx (putF ("line" : Str) (V.int 1) [])) := s2 _ _ upd_same
  refine ⟨_, rfl, r, C, dx, _, rfl, hr2, R.cl, R.nT, (by show 1 < 1000; decide), ?_⟩
  refine ⟨_, rfl, r, C, dx, _, rfl, upd_same, R.cl, R.nD, (by show 2 < 1000; decide), ?_⟩
  rw [rdF_mk]
  have hlr : l ≠ r := fun e => by rw [e, upd_same] at hl; cases hl
  have k2 : SameBut r H2 (upd (upd H2 r (.ins C dx (putF ("tokens" : Str) (V.ref l) (putF ("line" : Str) (V.int 1) [])))) r (.ins C dx (rdF l 0))) := SameBut.put.trans SameBut.put
  refine q _ l refs (SameBut.put.trans ((Same.but s2).trans k2)) ⟨upd_same, k2 _ _ hlr hL, hT.keep (k2.tups hr2), ?_⟩
  have := Wm.lex_len cs 0
  omega
theorem no_depth (C B : Addr) {vs : List V} {H : Hp} {Q : VK} {E : XK} (h : sp_read_at C B 0 vs H Q E) : False := by
  obtain ⟨r, dx, l, refs, toks, j, S, res, _, ⟨h1, h2⟩, _⟩ := h
  omega
theorem ok_read_all (G : Glob K mg) (M : Rds P w K mg base C B) (DA : Df K mg "read_at" s_read_at ["reader", "depth"]) (DP : Df K mg "read_parts" s_read_parts ["reader", "depth"])
    (C_read_simple : Cal P w K mg base (L2N.CX P w) 9 "read_simple" ["reader", "head"] (sp_read_simple C B)) : ∀ n, Cal P w K mg base (L2N.CX P w) (10 + 2 * n) "read_at" ["reader", "depth"] (sp_read_at C B n)
  | 0 => DA.okN sc_read_at (fun vs H Q E h => (no_depth C B h).elim) fun f cdv A outer s H vs Q E hr h => (no_depth C B h).elim
  | n + 1 => ok_read_at G M DA n (ok_read_all G M DA DP C_read_simple n) (ok_read_parts G M DP n (ok_read_all G M DA DP C_read_simple n)) C_read_simple
abbrev s_read_condition : Stmt := topS 39
abbrev N_read_condition : List Str := ["text", "reader", "condition"]
theorem sc_read_condition : FnScope N_read_condition ["text"] (defScope s_read_condition) := ⟨rfl, rfl, rfl, by decide +kernel, rfl, by decide +kernel, by decide +kernel⟩
def sp_read_condition (B : Addr) : Sp := fun vs H Q E => ∃ cs : List Nat, vs = [.str (sL cs)] ∧ cs.length + 2 ≤ sizeLine ∧
  (∀ c, Wm.read cs = .ok c → ∀ v H', Same H H' → CndV H' c v → Q v H') ∧
  (∀ col, Wm.read cs = .bad col → ∀ d H', Same H H' → H' d = some (.xd [("column", .int (col : Int)), ("line", .int 1)]) → E (.ref B) (some d) H')
theorem ok_read_condition (M : Rds P w K mg base C B) (D : Df K mg "read_condition" s_read_condition ["text"]) (I : RdIC P w K mg base 4 C) (mC : mg "Reader" = some (.ref C)) (C_read_at : Cal P w K mg base (L2N.CX P w) 36 "read_at" ["reader", "depth"] (sp_read_at C B 13)) :
    Cal P w K mg base (L2N.CX P w) 37 "read_condition" ["text"] (sp_read_condition B) := by
  refine D.okN sc_read_condition (fun vs H Q E h => ?_) (fun f cdv A outer s H vs Q E hr h => ?_)
  · obtain ⟨cs, rfl, _⟩ := h
    rfl
  obtain ⟨cs, rfl, hz, q1, q2⟩ := h
  obtain ⟨R, T, M_kind, M_value, M_need, M_take⟩ := M
  obtain ⟨fI, fdI, FI, mk, bI⟩ := I
  refine ⟨_, (pss_cons (ps_set (i := 1) sc_read_condition.nd rfl (Or.inl rfl) (pe_make mk FI (hr.mono (by decide)) rfl mC bI .nil pass0 (pa_cons pe_int (pa_cons (pv 0) pa_nil))))
    (pss_cons (ps_set (i := 2) sc_read_condition.nd rfl (Or.inl rfl) (pe_cal C_read_at hr (passN rfl rfl rfl rfl) (pa_cons (pv 1) (pa_cons pe_int pa_nil))))
    (pss_cons (ps_expr (pe_calM (pv 1) R.cl M_take (hr.mono (by decide)) (passN rfl rfl rfl rfl) (pa_cons pe_str pa_nil)))
    (pss_one (ps_ret (pv 2)))))), ?_⟩
  refine ⟨_, rfl, fun r dx hr0 hd0 ne => ?_⟩
  refine ⟨r, dx, cs, rfl, upd_same, hz, fun H1 l refs k1 R1 => ⟨rfl, ?_⟩⟩
  have sb : SameBut r H H1 := fun b o nb e => k1 b o nb (by rw [upd_ne nb, upd_ne (ne_of_none e hd0)]; exact e)
  have toSame : ∀ {H' : Hp}, SameBut r H1 H' → Same H H' := fun s' b o e => (sb.trans s') b o (ne_of_none e hr0) e
  have no : ∀ col, Wm.read cs = .bad col → Rs B r H1 E col := fun col e d H' s' e' => q2 col e d H' (toSame s') e'
  have lt0 : 0 < (Wm.lex cs 0).length := by
    obtain ⟨pre, t, d, e, _⟩ := Wm.lex_shape cs 0
    rw [e, List.length_append, List.length_singleton]
    omega
  have A1 : At C B H1 E r dx l refs (Wm.lex cs 0) 0 (.cond, []) (Wm.read cs) := ⟨R1, lst_lex cs 0, lt0, rfl, no⟩
  refine ⟨_, rfl, r, dx, l, refs, _, 0, [], _, rfl, ⟨rfl, Nat.zero_le _⟩, A1, fun v H2 c hv ⟨k2, j2, _, o2, lt2, g2⟩ => ?_⟩
  have A2 := A1.on k2 o2 lt2 g2
  obtain ⟨t, cc, ht⟩ := tok_at A2.lt
  refine rd_take rfl A2.rd ht (fun e => ?_) (fun e => ?_)
  · have et := (kind_end t).mp e
    subst et
    have ok : Wm.read cs = .ok c := by
      have g := A2.go
      rw [drop_at ht, Wm.go_fin] at g
      exact g.symm
    exact ⟨_, rfl, q1 c ok v _ (toSame (k2.trans SameBut.put)) (CndV.keep (SameBut.tups SameBut.put A2.rd.obj) hv)⟩
  · refine A2.no cc ?_
    have hf : t ≠ .fin := fun z => e ((kind_end t).mpr z)
    have g := A2.go
    rw [drop_at ht, Wm.bad_at rfl (fun z => absurd z hf)] at g
    exact g.symm
end
end Wk
end PartRd6
section PartCk1
set_option Elab.async false
set_option linter.all false
set_option maxRecDepth 100000
set_option maxHeartbeats 4000000
namespace Wk
open PySem PySem.Spec PyProof.Rows L2
/-- for over the signs of a text -/
theorem for_str {x : Str} {g : TG} {tb : TS} {D : Ends} {σ : L2.St} {H : Hp} (Pv : Nat → L2.St → Hp → Prop) (h0 : Pv 0 σ H)
    (hs : ∀ i c σ H, x.cps[i]? = some c → Pv i σ H → g (.str ⟨#[c]⟩) σ H fun σ2 H2 => tb { D with nx := Pv (i + 1), ct := Pv (i + 1), bk := D.nx } σ2 H2) (hd : ∀ σ H, Pv x.cps.size σ H → D.nx σ H) :
    ∃ W : Nat → Nat → L2.St → Hp → Prop, (∃ m, W 0 m σ H) ∧ ∀ i m σ H, W i m σ H →
      ((Its x).stop i H ∧ D.nx σ H) ∨ ((Its x).go i H ∧ ∃ N : L2.St → Hp → Prop, (∀ σ' H', N σ' H' → ∃ m', m' < m ∧ W (i + 1) m' σ' H') ∧ ∀ y H', (Its x).yld i H y H' → g y σ H' fun σ2 H2 => tb { D with nx := N, ct := N, bk := D.nx } σ2 H2) := by
  refine ⟨fun i m σ H => m = x.cps.size - i ∧ i ≤ x.cps.size ∧ Pv i σ H, ⟨x.cps.size, by simp, Nat.zero_le _, h0⟩, ?_⟩
  rintro i m σ H ⟨rfl, hi, p⟩
  by_cases hlt : i < x.cps.size
  · refine .inr ⟨hlt, Pv (i + 1), fun σ' H' p' => ⟨x.cps.size - (i + 1), by omega, rfl, hlt, p'⟩, fun y H' z => ?_⟩
    obtain ⟨e, c, hc, ey⟩ := z
    subst e
    subst ey
    exact hs i c σ _ hc p
  · have e : i = x.cps.size := by omega
    subst e
    exact .inl ⟨Nat.le_refl _, hd σ H p⟩
theorem nd2 {b : Bool} {y : V} {p : Prop} (h : b = true) (q : p) : ∃ x, [V.bl b, y] = [V.bl true, x] ∧ p := ⟨y, by rw [h], q⟩
theorem nil_str : Str.ofString "" = sL [] := by decide +kernel
section
variable {P : Program} {w : World} {K : PySem.W.Frag} {mg : Str → Option Value} {base : Heap} {C B : Addr}
abbrev s_is_word : Stmt := topS 6
abbrev N_is_word : List Str := ["text", "letter"]
theorem sc_is_word : FnScope N_is_word ["text"] (defScope s_is_word) := ⟨rfl, rfl, rfl, by decide +kernel, rfl, by decide +kernel, by decide +kernel⟩
def sp_is_word : Sp := fun vs H Q _ => ∃ wd : List Nat, vs = [.str (sL wd)] ∧ Wm.wordOk wd ∧ Q (.bl true) H
theorem ok_is_word (G : Glob K mg) (D : Df K mg "is_word" s_is_word ["text"]) : Cal P w K mg base CX0 1 "is_word" ["text"] sp_is_word := by
  refine D.ok sc_is_word (fun vs H Q E h => ?_) (fun f cdv A outer s H vs Q E hr h => ?_)
  · obtain ⟨wd, rfl, _⟩ := h
    rfl
  obtain ⟨wd, rfl, ⟨hne, hall⟩, q⟩ := h
  refine ⟨_, (pss_cons (ps_for PassesOwn.never rfl (pi_str (pv 0)) (pg_name (i := 1) sc_is_word.nd rfl (Or.inl rfl))
      (pss_one (ps_if (pt_cmpR op_notIn_sign (pv 1) (pe_gv G.LETTERS) rfl)
        (pss_one (ps_ret pe_bl))
        pss_nil)))
    (pss_one (ps_ret (pe_cmpR op_ne (pv 0) pe_str (nomark _))))), ?_⟩
  refine ⟨_, rfl, _, rfl, for_str (fun i σ H' => H' = H ∧ ∃ o, σ = [some (.str (sL wd)), o]) ⟨rfl, none, rfl⟩ ?_ ?_⟩
  · rintro i c σ H' hc ⟨rfl, o, rfl⟩
    have hm : c ∈ wd := by
      have e : wd[i]? = some c := by
        have : (wd.toArray)[i]? = some c := hc
        simpa using this
      exact List.mem_of_getElem? e
    refine ⟨_, rfl, c, _, rfl, rfl, _, rfl, ?_⟩
    rw [mem_LETTERS, List.all_eq_true.mp hall c hm]
    exact iteF ⟨rfl, _, rfl⟩
  · rintro σ H' ⟨rfl, o, rfl⟩
    refine ⟨_, rfl, rfl, ?_⟩
    rw [nil_str]
    show Q (.bl (!decide (V.str (sL wd) = V.str (sL [])))) _
    rw [dec_sL, decide_eq_false hne]
    exact q
abbrev s_need2 : Stmt := topS 11
abbrev N_need2 : List Str := ["right", "why"]
theorem sc_need2 : FnScope N_need2 ["right", "why"] (defScope s_need2) := ⟨rfl, rfl, rfl, by decide +kernel, rfl, by decide +kernel, by decide +kernel⟩
def sp_need2 : Sp := fun vs H Q _ => ∃ x, vs = [.bl true, x] ∧ Q .non H
theorem ok_need2 (D : Df K mg "need" s_need2 ["right", "why"]) : Cal P w K mg base CX0 1 "need" ["right", "why"] sp_need2 := by
  refine D.ok sc_need2 (fun vs H Q E h => ?_) (fun f cdv A outer s H vs Q E hr h => ?_)
  · obtain ⟨x, rfl, _⟩ := h
    rfl
  obtain ⟨x, rfl, q⟩ := h
  refine ⟨_, (pss_one (ps_if (pt_not (pt_val (pv 0)))
      (pss_one ps_never)
      pss_nil)), ?_⟩
  exact ⟨_, rfl, true, rfl, iteF q⟩
abbrev s_check_term : Stmt := topS 12
abbrev N_check_term : List Str := ["term", "kind"]
theorem sc_check_term : FnScope N_check_term ["term"] (defScope s_check_term) := ⟨rfl, rfl, rfl, by decide +kernel, rfl, by decide +kernel, by decide +kernel⟩
def sp_check_term : Sp := fun vs H Q _ => ∃ (v : V) (t : Wm.Trm), vs = [v] ∧ TrmV H v t ∧ Wm.TrmOk t ∧ Q .non H
theorem ok_check_term (G : Glob K mg) (D : Df K mg "check_term" s_check_term ["term"]) (C_is_word : Cal P w K mg base CX0 1 "is_word" ["text"] sp_is_word) (C_need : Cal P w K mg base CX0 1 "need" ["right", "why"] sp_need2) :
    Cal P w K mg base CX0 2 "check_term" ["term"] sp_check_term := by
  refine D.ok sc_check_term (fun vs H Q E h => ?_) (fun f cdv A outer s H vs Q E hr h => ?_)
  · obtain ⟨v, t, rfl, _⟩ := h
    rfl
  obtain ⟨v, t, rfl, hv, ht, q⟩ := h
  refine ⟨_, (pss_cons (ps_set (i := 1) sc_check_term.nd rfl (Or.inl rfl) (pe_ix ix_tup (pv 0) pe_int (fun _ _ => rfl)))
    (pss_one (ps_if (pt_cmpR op_eq (pv 1) pe_str (nomark _))
      (pss_one (ps_expr (pe_cal C_need (hr.mono (by decide)) pass0 (pa_cons (pe_or (pe_cmpR op_eq (pe_ix ix_tup (pv 0) pe_int (fun _ _ => rfl)) pe_str (nomark _)) (pe_one (pe_cal C_is_word (hr.mono (by decide)) pass0 (pa_cons (pe_ix ix_tup (pv 0) pe_int (fun _ _ => rfl)) pa_nil)))) (pa_cons pe_str pa_nil)))))
      (pss_one (ps_if (pt_cmpR op_eq (pv 1) pe_str (nomark _))
        (pss_one (ps_expr (pe_cal C_need (hr.mono (by decide)) pass0 (pa_cons (pe_cal C_is_word (hr.mono (by decide)) pass0 (pa_cons (pe_ix ix_tup (pv 0) pe_int (fun _ _ => rfl)) pa_nil)) (pa_cons pe_str pa_nil)))))
        (pss_cons (ps_expr (pe_cal C_need (hr.mono (by decide)) pass0 (pa_cons (pe_cmpR op_eq (pv 1) pe_str (nomark _)) (pa_cons pe_str pa_nil))))
        (pss_cons (ps_expr (pe_cal C_need (hr.mono (by decide)) pass0 (pa_cons (pe_cal C_is_word (hr.mono (by decide)) pass0 (pa_cons (pe_ix ix_tup (pv 0) pe_int (fun _ _ => rfl)) pa_nil)) (pa_cons pe_str pa_nil))))
        (pss_one (ps_expr (pe_cal C_need (hr.mono (by decide)) pass0 (pa_cons (pe_chain op_le op_le pe_int (pe_ix ix_tup (pv 0) pe_int (fun _ _ => rfl)) (pe_gv G.MOST_INDEX)) (pa_cons pe_str pa_nil)))))))))))), ?_⟩
  have d1 : (Str.ofString "field" : Str) ≠ Str.ofString "name" := by decide +kernel
  have d2 : (Str.ofString "part" : Str) ≠ Str.ofString "name" := by decide +kernel
  have d3 : (Str.ofString "part" : Str) ≠ Str.ofString "field" := by decide +kernel
  cases t with
  | nm wd =>
    obtain ⟨a, rfl, ha⟩ := hv
    refine ⟨_, rfl, a, _, 0, _, rfl, rfl, SqT.of ha, rfl, ?_⟩
    refine ⟨_, rfl, rfl, _, rfl, ?_⟩
    rw [dec_str', decide_eq_true rfl]
    refine iteT ?_
    refine ⟨_, rfl, a, _, 1, _, rfl, rfl, SqT.of ha, rfl, rfl, _, rfl, ?_⟩
    rw [nil_str, dec_sL]
    by_cases e : wd = []
    · rw [decide_eq_true e]
      exact iteT ⟨_, rfl, q⟩
    · rw [decide_eq_false e]
      refine iteF ?_
      exact ⟨_, rfl, a, _, 1, _, rfl, rfl, SqT.of ha, rfl, wd, rfl, ⟨e, ht⟩, _, rfl, q⟩
  | fld wd =>
    obtain ⟨a, rfl, ha⟩ := hv
    refine ⟨_, rfl, a, _, 0, _, rfl, rfl, SqT.of ha, rfl, ?_⟩
    refine ⟨_, rfl, rfl, _, rfl, ?_⟩
    rw [dec_str', decide_eq_false d1]
    refine iteF ?_
    refine ⟨_, rfl, rfl, _, rfl, ?_⟩
    rw [dec_str', decide_eq_true rfl]
    refine iteT ?_
    exact ⟨_, rfl, a, _, 1, _, rfl, rfl, SqT.of ha, rfl, wd, rfl, ht, _, rfl, q⟩
  | part wd n =>
    obtain ⟨a, rfl, ha⟩ := hv
    refine ⟨_, rfl, a, _, 0, _, rfl, rfl, SqT.of ha, rfl, ?_⟩
    refine ⟨_, rfl, rfl, _, rfl, ?_⟩
    rw [dec_str', decide_eq_false d2]
    refine iteF ?_
    refine ⟨_, rfl, rfl, _, rfl, ?_⟩
    rw [dec_str', decide_eq_false d3]
    refine iteF ?_
    refine ⟨_, rfl, rfl, nd2 (by rw [dec_str', decide_eq_true rfl]) ?_⟩
    refine ⟨_, rfl, a, _, 1, _, rfl, rfl, SqT.of ha, rfl, wd, rfl, ht.1, _, rfl, ?_⟩
    refine ⟨_, rfl, a, _, 2, _, rfl, rfl, SqT.of ha, rfl, _, _, rfl, rfl, _, rfl, ?_⟩
    rw [decide_eq_true (show (0 : Int) ≤ (n : Int) from Int.natCast_nonneg n)]
    exact iteT ⟨_, _, rfl, rfl, nd2 (decide_eq_true (show (n : Int) ≤ 40 by have := ht.2; omega)) q⟩
end
end Wk
end PartCk1
section PartCk2
set_option Elab.async false
set_option linter.all false
set_option maxRecDepth 100000
set_option maxHeartbeats 4000000
namespace Wk
open PySem PySem.Spec PyProof.Rows L2
abbrev wTrue : Wm.L := [116, 114, 117, 101]
abbrev wFalse : Wm.L := [102, 97, 108, 115, 101]
theorem l_true : Str.ofString "true" = sL wTrue := by decide +kernel
theorem l_false : Str.ofString "false" = sL wFalse := by decide +kernel
theorem l_under : Str.ofString "under" = sL Wm.wUnder := by decide +kernel
theorem l_at : Str.ofString "at" = sL Wm.wAt := by decide +kernel
/-! ### the data of a term -/
def trmD : Wm.Trm → PyData
  | .nm w => .tuple [.str "name", .str (sL w)]
  | .fld w => .tuple [.str "field", .str (sL w)]
  | .part w i => .tuple [.str "part", .str (sL w), .int (i : Int)]
theorem trm_Dp {K : PySem.W.Frag} {H : Hp} {v : V} {t : Wm.Trm} (h : TrmV H v t) : Dp K H v (trmD t) := by
  cases t with
  | nm w => obtain ⟨a, rfl, h⟩ := h; exact .tup (SqT.of h) (.cons (.str _) (.cons (.str _) .nil))
  | fld w => obtain ⟨a, rfl, h⟩ := h; exact .tup (SqT.of h) (.cons (.str _) (.cons (.str _) .nil))
  | part w i => obtain ⟨a, rfl, h⟩ := h; exact .tup (SqT.of h) (.cons (.str _) (.cons (.str _) (.cons (.int _) .nil)))
theorem let_lt {c : Nat} (h : Wm.isLet c = true) : c < 1114112 := by
  unfold Wm.isLet at h
  simp at h
  omega
theorem strOk_sL {w : Wm.L} (h : w.all Wm.isLet = true) : PyData.strOk (sL w) = true := by
  unfold PyData.strOk sL
  rw [List.all_toArray, List.all_eq_true]
  intro c hc
  exact decide_eq_true (let_lt (List.all_eq_true.mp h c hc))
theorem shaped_tup {ds : List PyData} (h1 : PyData.canLayAll0 ds = true) (h2 : PyData.depthAll ds ≤ 63) : SeqAt.shaped (.tuple ds) = true := by
  show (PyData.canLay0 (.tuple ds) && decide (PyData.depth (.tuple ds) ≤ 64)) = true
  rw [Bool.and_eq_true]
  exact ⟨by rw [PyData.canLay0]; exact h1, decide_eq_true (by rw [PyData.depth]; omega)⟩
theorem shaped_lst {ds : List PyData} (h1 : PyData.canLayAll0 ds = true) (h2 : PyData.depthAll ds ≤ 63) : SeqAt.shaped (.list ds) = true := by
  show (PyData.canLay0 (.list ds) && decide (PyData.depth (.list ds) ≤ 64)) = true
  rw [Bool.and_eq_true]
  exact ⟨by rw [PyData.canLay0]; exact h1, decide_eq_true (by rw [PyData.depth]; omega)⟩
theorem strs_lay {ws : List Wm.L} (h : ∀ w ∈ ws, w.all Wm.isLet = true) : PyData.canLayAll0 (ws.map fun w => PyData.str (sL w)) = true := by
  induction ws with
  | nil => rfl
  | cons w ws ih =>
    show PyData.canLayAll0 (PyData.str (sL w) :: ws.map fun w => PyData.str (sL w)) = true
    rw [PyData.canLayAll0, PyData.canLay0, strOk_sL (h w List.mem_cons_self), ih fun u hu => h u (List.mem_cons_of_mem _ hu)]
    rfl
theorem strs_depth : ∀ ws : List Wm.L, PyData.depthAll (ws.map fun w => PyData.str (sL w)) = 0
  | [] => rfl
  | w :: ws => by
    show PyData.depthAll (PyData.str (sL w) :: ws.map fun w => PyData.str (sL w)) = 0
    rw [PyData.depthAll, PyData.depth, strs_depth ws] <;> rfl
theorem strs_eqv : ∀ ws : List Wm.L, PyData.eqvAll (ws.map fun w => PyData.str (sL w)) (ws.map fun w => PyData.str (sL w)) = true
  | [] => rfl
  | w :: ws => by
    show PyData.eqvAll (PyData.str (sL w) :: ws.map fun w => PyData.str (sL w)) (PyData.str (sL w) :: ws.map fun w => PyData.str (sL w)) = true
    rw [PyData.eqvAll, PyData.eqv, strs_eqv ws, beq_self_eq_true] <;> rfl
theorem k_name : PyData.strOk (Str.ofString "name") = true := by decide +kernel
theorem k_field : PyData.strOk (Str.ofString "field") = true := by decide +kernel
theorem k_part : PyData.strOk (Str.ofString "part") = true := by decide +kernel
theorem trm_shaped {t : Wm.Trm} (h : Wm.TrmOk t) : SeqAt.shaped (trmD t) = true := by
  cases t with
  | nm w =>
    refine shaped_tup ?_ ?_
    · simp only [PyData.canLayAll0, PyData.canLay0]; rw [k_name, strOk_sL h] <;> rfl
    · simp only [PyData.depthAll, PyData.depth] <;> decide
  | fld w =>
    refine shaped_tup ?_ ?_
    · simp only [PyData.canLayAll0, PyData.canLay0]; rw [k_field, strOk_sL h.2] <;> rfl
    · simp only [PyData.depthAll, PyData.depth] <;> decide
  | part w i =>
    refine shaped_tup ?_ ?_
    · simp only [PyData.canLayAll0, PyData.canLay0]; rw [k_part, strOk_sL h.1.2] <;> rfl
    · simp only [PyData.depthAll, PyData.depth] <;> decide
theorem nm0_shaped : SeqAt.shaped (.tuple [.str "name", .str ""]) = true := by decide +kernel
theorem trm_eqv {t : Wm.Trm} (h : t ≠ .nm []) : PyData.eqv (trmD t) (.tuple [.str "name", .str ""]) = false := by
  cases t with
  | nm w =>
    have : ¬ sL w = Str.ofString "" := fun e => h (by rw [nil_str] at e; rw [sL_inj e])
    simp [trmD, PyData.eqv, PyData.eqvAll, this]
  | fld w => simp [trmD, PyData.eqv, PyData.eqvAll]; intro e; exact absurd e (by decide +kernel)
  | part w i => simp [trmD, PyData.eqv, PyData.eqvAll]
end Wk
end PartCk2
section PartCk3
set_option Elab.async false
set_option linter.all false
set_option maxRecDepth 100000
set_option maxHeartbeats 4000000
namespace Wk
open PySem PySem.Spec PyProof.Rows L2
theorem l_name : Str.ofString "name" = sL [110, 97, 109, 101] := by decide +kernel
theorem l_field : Str.ofString "field" = sL [102, 105, 101, 108, 100] := by decide +kernel
theorem l_part : Str.ofString "part" = sL [112, 97, 114, 116] := by decide +kernel
theorem l_set : Str.ofString "set" = sL [115, 101, 116] := by decide +kernel
theorem l_names : Str.ofString "names" = sL [110, 97, 109, 101, 115] := by decide +kernel
theorem TrmsV.get {H : Hp} : ∀ {vs : List V} {ts : List Wm.Trm} {i : Nat} {x : V}, TrmsV H vs ts → vs[i]? = some x → ∃ t, ts[i]? = some t ∧ TrmV H x t
  | v :: vs, t :: ts, 0, x, h, e => by
    have e' : v = x := by simpa using e
    subst e'
    exact ⟨t, rfl, h.1⟩
  | v :: vs, t :: ts, i + 1, x, h, e => by
    obtain ⟨b, h1, h2⟩ := TrmsV.get (i := i) (x := x) h.2 (by simpa using e)
    exact ⟨b, by simpa using h1, h2⟩
  | [], [], _, _, _, e => by simp at e
  | [], _ :: _, _, _, h, _ => h.elim
  | _ :: _, [], _, _, h, _ => h.elim
theorem CndsV.get {H : Hp} : ∀ {cs : List Wm.Cnd} {vs : List V} {i : Nat} {x : V}, CndsV H cs vs → vs[i]? = some x → ∃ c, cs[i]? = some c ∧ CndV H c x
  | [], vs, i, x, h, e => by rw [CndsV] at h; subst h; simp at e
  | c :: cs, vs, i, x, h, e => by
    rw [CndsV] at h
    obtain ⟨y, r, rfl, h1, h2⟩ := h
    cases i with
    | zero =>
      have e' : y = x := by simpa using e
      subst e'
      exact ⟨c, rfl, h1⟩
    | succ i =>
      obtain ⟨b, h3, h4⟩ := CndsV.get (i := i) (x := x) h2 (by simpa using e)
      exact ⟨b, by simpa using h3, h4⟩
section
variable {P : Program} {w : World} {K : PySem.W.Frag} {mg : Str → Option Value} {base : Heap} {C B : Addr}
abbrev s_check_template : Stmt := topS 14
abbrev N_check_template : List Str := ["template", "term"]
theorem sc_check_template : FnScope N_check_template ["template"] (defScope s_check_template) := ⟨rfl, rfl, rfl, by decide +kernel, rfl, by decide +kernel, by decide +kernel⟩
def sp_check_template : Sp := fun vs H Q _ => ∃ (b : Addr) (xs : List V) (ts : List Wm.Trm), vs = [.ref b] ∧ H b = some (.tup xs) ∧ TrmsV H xs ts ∧ ts.length ≤ 40 ∧ (∀ t ∈ ts, Wm.TrmOk t ∧ t ≠ .nm []) ∧ ∀ H', Same H H' → Q .non H'
theorem ok_check_template (G : Glob K mg) (D : Df K mg "check_template" s_check_template ["template"]) (C_check_term : Cal P w K mg base CX0 2 "check_term" ["term"] sp_check_term) (C_need : Cal P w K mg base CX0 1 "need" ["right", "why"] sp_need2) :
    Cal P w K mg base CX0 3 "check_template" ["template"] sp_check_template := by
  refine D.ok sc_check_template (fun vs H Q E h => ?_) (fun f cdv A outer s H vs Q E hr h => ?_)
  · obtain ⟨b, xs, ts, rfl, _⟩ := h
    rfl
  obtain ⟨b, xs, ts, rfl, hb, hts, hle, hok, q⟩ := h
  refine ⟨_, (pss_cons (ps_expr (pe_cal C_need (hr.mono (by decide)) pass0 (pa_cons (pe_cmpR op_le (pe_callB call_len_seq rfl G.len PySem.boot_len (pa_cons (pv 0) pa_nil)) (pe_gv G.MOST_TERMS) (nomark _)) (pa_cons pe_str pa_nil))))
    (pss_one (ps_for PassesOwn.never rfl (pi_tup (pv 0)) (pg_name (i := 1) sc_check_template.nd rfl (Or.inl rfl))
      (pss_cons (ps_expr (pe_cal C_check_term (hr.mono (by decide)) pass0 (pa_cons (pv 1) pa_nil)))
      (pss_one (ps_expr (pe_cal C_need (hr.mono (by decide)) pass0 (pa_cons (pe_cmpR (op_neD hr.units) (pv 1) (pe_tup (pa_cons pe_str (pa_cons pe_str pa_nil))) (nomark _)) (pa_cons pe_str pa_nil))))))))), ?_⟩
  have hlen := hts.len
  refine ⟨_, rfl, b, xs, rfl, .inr (SqT.of hb), _, _, rfl, rfl, nd2 (decide_eq_true (by rw [hlen]; omega)) ?_⟩
  refine ⟨_, rfl, b, rfl, ⟨xs, SqT.of hb⟩, for_tup (xs := xs) (fun i σ H' => Same H H' ∧ ∃ o, σ = [some (.ref b), o]) ⟨fun _ _ h => h, none, rfl⟩ (fun i σ H' _ h => SqT.of (h.1 _ _ hb)) ?_ ?_⟩
  · rintro i x σ H' hx ⟨sm, o, rfl⟩
    obtain ⟨t, ht, hv⟩ := hts.get hx
    have hv' := hv.keep (Same.tups sm)
    have ho := hok t (List.mem_of_getElem? ht)
    refine ⟨_, rfl, x, t, rfl, hv', ho.1, ?_⟩
    refine ⟨_, rfl, (by show 2 ≤ sizeLine; decide), fun p hp => ?_⟩
    have hv2 := hv'.keep (Same.tups (Same.new (o := .tup [.str (Str.ofString "name"), .str (Str.ofString "")]) hp))
    refine ⟨_, _, trm_Dp hv2, .tup (SqT.of upd_same) (.cons (.str _) (.cons (.str _) .nil)), trm_shaped ho.1, nm0_shaped, nd2 (by rw [trm_eqv ho.2] <;> rfl) ?_⟩
    exact ⟨sm.trans (Same.new hp), _, rfl⟩
  · rintro σ H' ⟨sm, o, rfl⟩
    exact q H' sm
abbrev s_inner_conditions : Stmt := topS 16
abbrev N_inner_conditions : List Str := ["condition"]
theorem sc_inner_conditions : FnScope N_inner_conditions ["condition"] (defScope s_inner_conditions) := ⟨rfl, rfl, rfl, by decide +kernel, rfl, by decide +kernel, by decide +kernel⟩
def innerC : Wm.Cnd → List Wm.Cnd
  | .smp _ => [] | .not c => [c] | .many _ cs => cs
def sp_inner_conditions : Sp := fun vs H Q _ => ∃ (v : V) (c : Wm.Cnd), vs = [v] ∧ CndV H c v ∧ ∀ d H' xs, Same H H' → H' d = some (.tup xs) → CndsV H' (innerC c) xs → Q (.ref d) H'
/-- the kind of a simple condition -/
def kindL : Wm.Smp → Wm.L
  | .tt => wTrue | .ff => wFalse | .is _ _ => Wm.wIs | .inn _ _ => Wm.wIn | .mem _ _ => Wm.wMember | .within _ _ => Wm.wWithin | .most _ _ _ => Wm.wMost | .path u _ _ => Wm.hdW (.path u)
theorem smp_kind {H : Hp} {v : V} {s : Wm.Smp} (h : SmpV H v s) : ∃ a xs, v = .ref a ∧ H a = some (.tup (.str (sL (kindL s)) :: xs)) := by
  cases s with
  | tt => obtain ⟨a, e, h⟩ := h; exact ⟨a, _, e, h.trans (by rw [l_true] <;> rfl)⟩
  | ff => obtain ⟨a, e, h⟩ := h; exact ⟨a, _, e, h.trans (by rw [l_false] <;> rfl)⟩
  | is t u => obtain ⟨a, x, y, e, h, _⟩ := h; exact ⟨a, _, e, h⟩
  | inn t u => obtain ⟨a, x, e, h, _⟩ := h; exact ⟨a, _, e, h⟩
  | mem t u => obtain ⟨a, x, e, h, _⟩ := h; exact ⟨a, _, e, h⟩
  | within t u => obtain ⟨a, x, e, h, _⟩ := h; exact ⟨a, _, e, h⟩
  | most x y c => obtain ⟨a, e, h⟩ := h; exact ⟨a, _, e, h⟩
  | path u p ts => obtain ⟨a, b, vs, e, h, _⟩ := h; exact ⟨a, _, e, h⟩
theorem kindL_ne (s : Wm.Smp) : decide (kindL s = Wm.wNot) = false ∧ decide (kindL s = Wm.wAll) = false ∧ decide (kindL s = Wm.wAny) = false := by
  cases s with
  | path u p ts => cases u <;> exact ⟨rfl, rfl, rfl⟩
  | _ => exact ⟨rfl, rfl, rfl⟩
theorem ok_inner_conditions (D : Df K mg "inner_conditions" s_inner_conditions ["condition"]) : Cal P w K mg base CX0 1 "inner_conditions" ["condition"] sp_inner_conditions := by
  refine D.ok sc_inner_conditions (fun vs H Q E h => ?_) (fun f cdv A outer s H vs Q E hr h => ?_)
  · obtain ⟨v, c, rfl, _⟩ := h
    rfl
  obtain ⟨v, c, rfl, hv, q⟩ := h
  refine ⟨_, (pss_cons (ps_if (pt_cmpR op_eq (pe_ix ix_tup (pv 0) pe_int (fun _ _ => rfl)) pe_str (nomark _))
      (pss_one (ps_ret (pe_tup (pa_cons (pe_ix ix_tup (pv 0) pe_int (fun _ _ => rfl)) pa_nil))))
      pss_nil)
    (pss_cons (ps_if (PW.pt (pw_or (pt_cmpR op_eq (pe_ix ix_tup (pv 0) pe_int (fun _ _ => rfl)) pe_str (nomark _)) (pw_or1 (pt_cmpR op_eq (pe_ix ix_tup (pv 0) pe_int (fun _ _ => rfl)) pe_str (nomark _)))))
      (pss_one (ps_ret (pe_ix ix_tup (pv 0) pe_int (fun _ _ => rfl))))
      pss_nil)
    (pss_one (ps_ret (pe_tup pa_nil))))), ?_⟩
  cases c with
  | smp s =>
    rw [CndV] at hv
    obtain ⟨a, xs, rfl, ha⟩ := smp_kind hv
    obtain ⟨n1, n2, n3⟩ := kindL_ne s
    have h0 : atI (V.str (sL (kindL s)) :: xs) 0 = some (V.str (sL (kindL s))) := atI_nat (j := 0) rfl
    refine ⟨_, rfl, a, _, 0, _, rfl, rfl, SqT.of ha, h0, rfl, _, rfl, ?_⟩
    rw [hq l_not n1]
    refine iteF ?_
    refine ⟨_, rfl, a, _, 0, _, rfl, rfl, SqT.of ha, h0, rfl, _, rfl, ?_⟩
    rw [hq l_all n2]
    refine iteF ?_
    refine ⟨_, rfl, a, _, 0, _, rfl, rfl, SqT.of ha, h0, rfl, _, rfl, ?_⟩
    rw [hq l_any n3]
    refine iteF ⟨(by show 0 ≤ sizeLine; decide), fun p hp => ?_⟩
    exact q p _ [] (Same.new hp) upd_same (by rw [innerC, CndsV])
  | not c =>
    rw [CndV] at hv
    obtain ⟨a, x, rfl, ha, hx⟩ := hv
    refine ⟨_, rfl, a, _, 0, _, rfl, rfl, SqT.of ha, rfl, rfl, _, rfl, ?_⟩
    rw [hq l_not (show decide (Wm.wNot = Wm.wNot) = true from by decide)]
    refine iteT ⟨_, rfl, a, _, 1, _, rfl, rfl, SqT.of ha, rfl, (by show 1 ≤ sizeLine; decide), fun p hp => ?_⟩
    have s1 : Same H (upd H p (.tup [x])) := Same.new hp
    refine q p _ [x] s1 upd_same ?_
    rw [innerC, CndsV]
    exact ⟨x, [], rfl, CndV.keep (Same.tups s1) hx, by rw [CndsV]⟩
  | many b cs =>
    rw [CndV] at hv
    obtain ⟨a, d, xs, rfl, ha, hd, hx⟩ := hv
    refine ⟨_, rfl, a, _, 0, _, rfl, rfl, SqT.of ha, rfl, rfl, _, rfl, ?_⟩
    rw [hq l_not (show decide (Wm.hdW (.many b) = Wm.wNot) = false from by cases b <;> decide)]
    refine iteF ?_
    have fin : tRet (tOp (rIxT K) (tVar 0) (tC (.int 1))) { nx := fun _ H' => Q .non H', rt := Q } [some (.ref a)] H := ⟨_, rfl, a, _, 1, _, rfl, rfl, SqT.of ha, rfl, q d H xs (fun _ _ h => h) hd hx⟩
    refine ⟨_, rfl, a, _, 0, _, rfl, rfl, SqT.of ha, rfl, rfl, _, rfl, ?_⟩
    cases b with
    | true =>
      rw [hq l_all (show decide (Wm.hdW (.many true) = Wm.wAll) = true from by decide)]
      exact iteT (iteT fin)
    | false =>
      rw [hq l_all (show decide (Wm.hdW (.many false) = Wm.wAll) = false from by decide)]
      refine iteF ?_
      refine ⟨_, rfl, a, _, 0, _, rfl, rfl, SqT.of ha, rfl, rfl, _, rfl, ?_⟩
      rw [hq l_any (show decide (Wm.hdW (.many false) = Wm.wAny) = true from by decide)]
      exact iteT fin
end
end Wk
end PartCk3
section PartCk4
set_option Elab.async false
set_option linter.all false
set_option maxRecDepth 100000
set_option maxHeartbeats 4000000
namespace Wk
open PySem PySem.Spec PyProof.Rows L2
/-- how many names a condition names at most at one place -/
def fewS : Wm.Smp → Prop
  | .within _ (.names ws) => ws.length ≤ 4090
  | _ => True
def fewG : Wm.Tgt → Prop
  | .names ws => ws.length ≤ 4090
  | .set _ => True
theorem fewT {g : Wm.L} (t : Wm.Tgt) {s : Wm.Smp} (e : s = .within g t) (h : fewS s) : fewG t := by
  subst e
  cases t with
  | set w => trivial
  | names ws => exact h
mutual
def fewC : Wm.Cnd → Prop
  | .smp s => fewS s
  | .not c => fewC c
  | .many _ cs => fewCs cs
def fewCs : List Wm.Cnd → Prop
  | [] => True
  | c :: cs => fewC c ∧ fewCs cs
end
theorem fewCs_mem : ∀ {cs : List Wm.Cnd}, fewCs cs → ∀ c ∈ cs, fewC c
  | [], _, c, h => absurd h List.not_mem_nil
  | d :: cs, h, c, hc => by
    rw [fewCs] at h
    rcases List.mem_cons.mp hc with e | e
    · rw [e]; exact h.1
    · exact fewCs_mem h.2 c e
theorem trm_kind {H : Hp} {v : V} {t : Wm.Trm} (h : TrmV H v t) (hn : ∀ w, t ≠ .nm w) : ∃ p y ys, v = .ref p ∧ H p = some (.tup (.str y :: ys)) ∧ decide (V.str y = V.str (Str.ofString "name")) = false := by
  cases t with
  | nm w => exact absurd rfl (hn w)
  | fld w => obtain ⟨a, e, h⟩ := h; exact ⟨a, _, _, e, h, by rw [dec_str']; decide +kernel⟩
  | part w i => obtain ⟨a, e, h⟩ := h; exact ⟨a, _, _, e, h, by rw [dec_str']; decide +kernel⟩
section
variable {P : Program} {w : World} {K : PySem.W.Frag} {mg : Str → Option Value} {base : Heap} {C B : Addr}
def sp_check_target : Sp := fun vs H Q _ => ∃ (v : V) (t : Wm.Tgt), vs = [v] ∧ TgtV H v t ∧ Wm.TgtOk t ∧ fewG t ∧ ∀ H', Same H H' → Q .non H'
abbrev s_check_simple : Stmt := topS 15
abbrev N_check_simple : List Str := ["condition", "kind", "field"]
theorem sc_check_simple : FnScope N_check_simple ["condition"] (defScope s_check_simple) := ⟨rfl, rfl, rfl, by decide +kernel, rfl, by decide +kernel, by decide +kernel⟩
def smpOkC : Wm.Cnd → Prop
  | .smp s => Wm.SmpOk s ∧ fewS s
  | _ => True
def sp_check_simple : Sp := fun vs H Q _ => ∃ (v : V) (c : Wm.Cnd), vs = [v] ∧ CndV H c v ∧ smpOkC c ∧ ∀ H', Same H H' → Q .non H'
theorem ok_check_simple (G : Glob K mg) (D : Df K mg "check_simple" s_check_simple ["condition"]) (C_is_word : Cal P w K mg base CX0 1 "is_word" ["text"] sp_is_word) (C_check_term : Cal P w K mg base CX0 2 "check_term" ["term"] sp_check_term)
    (C_need : Cal P w K mg base CX0 1 "need" ["right", "why"] sp_need2) (C_check_template : Cal P w K mg base CX0 3 "check_template" ["template"] sp_check_template) (C_check_target : Cal P w K mg base CX0 3 "check_target" ["target"] sp_check_target) :
    Cal P w K mg base CX0 4 "check_simple" ["condition"] sp_check_simple := by
  refine D.ok sc_check_simple (fun vs H Q E h => ?_) (fun f cdv A outer s H vs Q E hr h => ?_)
  · obtain ⟨v, c, rfl, _⟩ := h
    rfl
  obtain ⟨v, c, rfl, hv, hc, q⟩ := h
  refine ⟨_, (pss_cons (ps_set (i := 1) sc_check_simple.nd rfl (Or.inl rfl) (pe_ix ix_tup (pv 0) pe_int (fun _ _ => rfl)))
    (pss_one (ps_if (pt_cmpR op_eq (pv 1) pe_str (nomark _))
      (pss_cons (ps_expr (pe_cal C_check_term (hr.mono (by decide)) pass0 (pa_cons (pe_ix ix_tup (pv 0) pe_int (fun _ _ => rfl)) pa_nil)))
      (pss_one (ps_expr (pe_cal C_check_term (hr.mono (by decide)) pass0 (pa_cons (pe_ix ix_tup (pv 0) pe_int (fun _ _ => rfl)) pa_nil)))))
      (pss_one (ps_if (pt_cmpR op_eq (pv 1) pe_str (nomark _))
        (pss_cons (ps_expr (pe_cal C_check_term (hr.mono (by decide)) pass0 (pa_cons (pe_ix ix_tup (pv 0) pe_int (fun _ _ => rfl)) pa_nil)))
        (pss_one (ps_expr (pe_cal C_need (hr.mono (by decide)) pass0 (pa_cons (pe_cal C_is_word (hr.mono (by decide)) pass0 (pa_cons (pe_ix ix_tup (pv 0) pe_int (fun _ _ => rfl)) pa_nil)) (pa_cons pe_str pa_nil))))))
        (pss_one (ps_if (pt_cmpR op_eq (pv 1) pe_str (nomark _))
          (pss_cons (ps_expr (pe_cal C_need (hr.mono (by decide)) pass0 (pa_cons (pe_cal C_is_word (hr.mono (by decide)) pass0 (pa_cons (pe_ix ix_tup (pv 0) pe_int (fun _ _ => rfl)) pa_nil)) (pa_cons pe_str pa_nil))))
          (pss_one (ps_expr (pe_cal C_check_target (hr.mono (by decide)) pass0 (pa_cons (pe_ix ix_tup (pv 0) pe_int (fun _ _ => rfl)) pa_nil)))))
          (pss_one (ps_if (pt_cmpR op_eq (pv 1) pe_str (nomark _))
            (pss_one (ps_for PassesOwn.never rfl (pi_tup (pe_tup (pa_cons (pe_ix ix_tup (pv 0) pe_int (fun _ _ => rfl)) (pa_cons (pe_ix ix_tup (pv 0) pe_int (fun _ _ => rfl)) pa_nil)))) (pg_name (i := 2) sc_check_simple.nd rfl (Or.inl rfl))
              (pss_one (ps_expr (pe_cal C_need (hr.mono (by decide)) pass0 (pa_cons (pe_or (pe_cmpR op_eq (pv 2) pe_str (nomark _)) (pe_one (pe_cal C_is_word (hr.mono (by decide)) pass0 (pa_cons (pv 2) pa_nil)))) (pa_cons pe_str pa_nil)))))))
            (pss_one (ps_if (pt_cmpR op_eq (pv 1) pe_str (nomark _))
              (pss_cons (ps_expr (pe_cal C_check_term (hr.mono (by decide)) pass0 (pa_cons (pe_ix ix_tup (pv 0) pe_int (fun _ _ => rfl)) pa_nil)))
              (pss_cons (ps_expr (pe_cal C_need (hr.mono (by decide)) pass0 (pa_cons (pe_cmpR op_ne (pe_ix ix_tup (pe_ix ix_tup (pv 0) pe_int (fun _ _ => rfl)) pe_int (fun _ _ => rfl)) pe_str (nomark _)) (pa_cons pe_str pa_nil))))
              (pss_one (ps_expr (pe_cal C_need (hr.mono (by decide)) pass0 (pa_cons (pe_cal C_is_word (hr.mono (by decide)) pass0 (pa_cons (pe_ix ix_tup (pv 0) pe_int (fun _ _ => rfl)) pa_nil)) (pa_cons pe_str pa_nil)))))))
              (pss_one (ps_if (PW.pt (pw_or (pt_cmpR op_eq (pv 1) pe_str (nomark _)) (pw_or1 (pt_cmpR op_eq (pv 1) pe_str (nomark _)))))
                (pss_cons (ps_expr (pe_cal C_need (hr.mono (by decide)) pass0 (pa_cons (pe_cal C_is_word (hr.mono (by decide)) pass0 (pa_cons (pe_ix ix_tup (pv 0) pe_int (fun _ _ => rfl)) pa_nil)) (pa_cons pe_str pa_nil))))
                (pss_one (ps_expr (pe_cal C_check_template (hr.mono (by decide)) pass0 (pa_cons (pe_ix ix_tup (pv 0) pe_int (fun _ _ => rfl)) pa_nil)))))
                pss_nil))))))))))))), ?_⟩
  cases c with
  | not c =>
    rw [CndV] at hv
    obtain ⟨a, x, rfl, ha, _⟩ := hv
    refine ⟨_, rfl, a, _, 0, _, rfl, rfl, SqT.of ha, rfl, ?_⟩
    refine ⟨_, rfl, rfl, _, rfl, ?_⟩
    rw [hq l_is (show decide (Wm.wNot = Wm.wIs) = false from by decide)]
    refine iteF ?_
    refine ⟨_, rfl, rfl, _, rfl, ?_⟩
    rw [hq l_in (show decide (Wm.wNot = Wm.wIn) = false from by decide)]
    refine iteF ?_
    refine ⟨_, rfl, rfl, _, rfl, ?_⟩
    rw [hq l_within (show decide (Wm.wNot = Wm.wWithin) = false from by decide)]
    refine iteF ?_
    refine ⟨_, rfl, rfl, _, rfl, ?_⟩
    rw [hq l_most (show decide (Wm.wNot = Wm.wMost) = false from by decide)]
    refine iteF ?_
    refine ⟨_, rfl, rfl, _, rfl, ?_⟩
    rw [hq l_member (show decide (Wm.wNot = Wm.wMember) = false from by decide)]
    refine iteF ?_
    refine ⟨_, rfl, rfl, _, rfl, ?_⟩
    rw [hq l_under (show decide (Wm.wNot = Wm.wUnder) = false from by decide)]
    refine iteF ?_
    refine ⟨_, rfl, rfl, _, rfl, ?_⟩
    rw [hq l_at (show decide (Wm.wNot = Wm.wAt) = false from by decide)]
    refine iteF ?_
    exact q H fun _ _ h => h
  | many b cs =>
    rw [CndV] at hv
    obtain ⟨a, x, xs, rfl, ha, _⟩ := hv
    cases b with
    | true =>
      have ha' : H a = some (.tup [.str (sL Wm.wAll), .ref x]) := ha
      refine ⟨_, rfl, a, _, 0, _, rfl, rfl, SqT.of ha', rfl, ?_⟩
      refine ⟨_, rfl, rfl, _, rfl, ?_⟩
      rw [hq l_is (show decide (Wm.wAll = Wm.wIs) = false from by decide)]
      refine iteF ?_
      refine ⟨_, rfl, rfl, _, rfl, ?_⟩
      rw [hq l_in (show decide (Wm.wAll = Wm.wIn) = false from by decide)]
      refine iteF ?_
      refine ⟨_, rfl, rfl, _, rfl, ?_⟩
      rw [hq l_within (show decide (Wm.wAll = Wm.wWithin) = false from by decide)]
      refine iteF ?_
      refine ⟨_, rfl, rfl, _, rfl, ?_⟩
      rw [hq l_most (show decide (Wm.wAll = Wm.wMost) = false from by decide)]
      refine iteF ?_
      refine ⟨_, rfl, rfl, _, rfl, ?_⟩
      rw [hq l_member (show decide (Wm.wAll = Wm.wMember) = false from by decide)]
      refine iteF ?_
      refine ⟨_, rfl, rfl, _, rfl, ?_⟩
      rw [hq l_under (show decide (Wm.wAll = Wm.wUnder) = false from by decide)]
      refine iteF ?_
      refine ⟨_, rfl, rfl, _, rfl, ?_⟩
      rw [hq l_at (show decide (Wm.wAll = Wm.wAt) = false from by decide)]
      refine iteF ?_
      exact q H fun _ _ h => h
    | false =>
      have ha' : H a = some (.tup [.str (sL Wm.wAny), .ref x]) := ha
      refine ⟨_, rfl, a, _, 0, _, rfl, rfl, SqT.of ha', rfl, ?_⟩
      refine ⟨_, rfl, rfl, _, rfl, ?_⟩
      rw [hq l_is (show decide (Wm.wAny = Wm.wIs) = false from by decide)]
      refine iteF ?_
      refine ⟨_, rfl, rfl, _, rfl, ?_⟩
      rw [hq l_in (show decide (Wm.wAny = Wm.wIn) = false from by decide)]
      refine iteF ?_
      refine ⟨_, rfl, rfl, _, rfl, ?_⟩
      rw [hq l_within (show decide (Wm.wAny = Wm.wWithin) = false from by decide)]
      refine iteF ?_
      refine ⟨_, rfl, rfl, _, rfl, ?_⟩
      rw [hq l_most (show decide (Wm.wAny = Wm.wMost) = false from by decide)]
      refine iteF ?_
      refine ⟨_, rfl, rfl, _, rfl, ?_⟩
      rw [hq l_member (show decide (Wm.wAny = Wm.wMember) = false from by decide)]
      refine iteF ?_
      refine ⟨_, rfl, rfl, _, rfl, ?_⟩
      rw [hq l_under (show decide (Wm.wAny = Wm.wUnder) = false from by decide)]
      refine iteF ?_
      refine ⟨_, rfl, rfl, _, rfl, ?_⟩
      rw [hq l_at (show decide (Wm.wAny = Wm.wAt) = false from by decide)]
      refine iteF ?_
      exact q H fun _ _ h => h
  | smp s =>
  rw [CndV] at hv
  obtain ⟨hs, hf⟩ := hc
  cases s with
  | tt =>
    obtain ⟨a, rfl, ha⟩ := hv
    rw [l_true] at ha
    refine ⟨_, rfl, a, _, 0, _, rfl, rfl, SqT.of ha, rfl, ?_⟩
    refine ⟨_, rfl, rfl, _, rfl, ?_⟩
    rw [hq l_is (show decide (wTrue = Wm.wIs) = false from by decide)]
    refine iteF ?_
    refine ⟨_, rfl, rfl, _, rfl, ?_⟩
    rw [hq l_in (show decide (wTrue = Wm.wIn) = false from by decide)]
    refine iteF ?_
    refine ⟨_, rfl, rfl, _, rfl, ?_⟩
    rw [hq l_within (show decide (wTrue = Wm.wWithin) = false from by decide)]
    refine iteF ?_
    refine ⟨_, rfl, rfl, _, rfl, ?_⟩
    rw [hq l_most (show decide (wTrue = Wm.wMost) = false from by decide)]
    refine iteF ?_
    refine ⟨_, rfl, rfl, _, rfl, ?_⟩
    rw [hq l_member (show decide (wTrue = Wm.wMember) = false from by decide)]
    refine iteF ?_
    refine ⟨_, rfl, rfl, _, rfl, ?_⟩
    rw [hq l_under (show decide (wTrue = Wm.wUnder) = false from by decide)]
    refine iteF ?_
    refine ⟨_, rfl, rfl, _, rfl, ?_⟩
    rw [hq l_at (show decide (wTrue = Wm.wAt) = false from by decide)]
    refine iteF ?_
    exact q H fun _ _ h => h
  | ff =>
    obtain ⟨a, rfl, ha⟩ := hv
    rw [l_false] at ha
    refine ⟨_, rfl, a, _, 0, _, rfl, rfl, SqT.of ha, rfl, ?_⟩
    refine ⟨_, rfl, rfl, _, rfl, ?_⟩
    rw [hq l_is (show decide (wFalse = Wm.wIs) = false from by decide)]
    refine iteF ?_
    refine ⟨_, rfl, rfl, _, rfl, ?_⟩
    rw [hq l_in (show decide (wFalse = Wm.wIn) = false from by decide)]
    refine iteF ?_
    refine ⟨_, rfl, rfl, _, rfl, ?_⟩
    rw [hq l_within (show decide (wFalse = Wm.wWithin) = false from by decide)]
    refine iteF ?_
    refine ⟨_, rfl, rfl, _, rfl, ?_⟩
    rw [hq l_most (show decide (wFalse = Wm.wMost) = false from by decide)]
    refine iteF ?_
    refine ⟨_, rfl, rfl, _, rfl, ?_⟩
    rw [hq l_member (show decide (wFalse = Wm.wMember) = false from by decide)]
    refine iteF ?_
    refine ⟨_, rfl, rfl, _, rfl, ?_⟩
    rw [hq l_under (show decide (wFalse = Wm.wUnder) = false from by decide)]
    refine iteF ?_
    refine ⟨_, rfl, rfl, _, rfl, ?_⟩
    rw [hq l_at (show decide (wFalse = Wm.wAt) = false from by decide)]
    refine iteF ?_
    exact q H fun _ _ h => h
  | is t u =>
    obtain ⟨a, x, y, rfl, ha, hx, hy⟩ := hv
    refine ⟨_, rfl, a, _, 0, _, rfl, rfl, SqT.of ha, rfl, ?_⟩
    refine ⟨_, rfl, rfl, _, rfl, ?_⟩
    rw [hq l_is (show decide (Wm.wIs = Wm.wIs) = true from by decide)]
    refine iteT ?_
    exact ⟨_, rfl, a, _, 1, _, rfl, rfl, SqT.of ha, rfl, x, t, rfl, hx, hs.1, _, rfl, a, _, 2, _, rfl, rfl, SqT.of ha, rfl, y, u, rfl, hy, hs.2, q H fun _ _ h => h⟩
  | inn t g =>
    obtain ⟨a, x, rfl, ha, hx⟩ := hv
    refine ⟨_, rfl, a, _, 0, _, rfl, rfl, SqT.of ha, rfl, ?_⟩
    refine ⟨_, rfl, rfl, _, rfl, ?_⟩
    rw [hq l_is (show decide (Wm.wIn = Wm.wIs) = false from by decide)]
    refine iteF ?_
    refine ⟨_, rfl, rfl, _, rfl, ?_⟩
    rw [hq l_in (show decide (Wm.wIn = Wm.wIn) = true from by decide)]
    refine iteT ?_
    exact ⟨_, rfl, a, _, 1, _, rfl, rfl, SqT.of ha, rfl, x, t, rfl, hx, hs.1, _, rfl, a, _, 2, _, rfl, rfl, SqT.of ha, rfl, g, rfl, hs.2, nd2 rfl (q H fun _ _ h => h)⟩
  | mem t g =>
    obtain ⟨a, x, rfl, ha, hx⟩ := hv
    refine ⟨_, rfl, a, _, 0, _, rfl, rfl, SqT.of ha, rfl, ?_⟩
    refine ⟨_, rfl, rfl, _, rfl, ?_⟩
    rw [hq l_is (show decide (Wm.wMember = Wm.wIs) = false from by decide)]
    refine iteF ?_
    refine ⟨_, rfl, rfl, _, rfl, ?_⟩
    rw [hq l_in (show decide (Wm.wMember = Wm.wIn) = false from by decide)]
    refine iteF ?_
    refine ⟨_, rfl, rfl, _, rfl, ?_⟩
    rw [hq l_within (show decide (Wm.wMember = Wm.wWithin) = false from by decide)]
    refine iteF ?_
    refine ⟨_, rfl, rfl, _, rfl, ?_⟩
    rw [hq l_most (show decide (Wm.wMember = Wm.wMost) = false from by decide)]
    refine iteF ?_
    refine ⟨_, rfl, rfl, _, rfl, ?_⟩
    rw [hq l_member (show decide (Wm.wMember = Wm.wMember) = true from by decide)]
    refine iteT ?_
    refine ⟨_, rfl, a, _, 1, _, rfl, rfl, SqT.of ha, rfl, x, t, rfl, hx, hs.1, ?_⟩
    obtain ⟨p, y, ys, ey, hp, hne⟩ := trm_kind hx hs.2.1
    subst ey
    refine ⟨_, rfl, a, _, 1, _, rfl, rfl, SqT.of ha, rfl, p, _, 0, _, rfl, rfl, SqT.of hp, atI_nat (j := 0) rfl, rfl, nd2 (by rw [hne] <;> rfl) ?_⟩
    exact ⟨_, rfl, a, _, 2, _, rfl, rfl, SqT.of ha, rfl, g, rfl, hs.2.2, nd2 rfl (q H fun _ _ h => h)⟩
  | within g t =>
    obtain ⟨a, x, rfl, ha, hx⟩ := hv
    refine ⟨_, rfl, a, _, 0, _, rfl, rfl, SqT.of ha, rfl, ?_⟩
    refine ⟨_, rfl, rfl, _, rfl, ?_⟩
    rw [hq l_is (show decide (Wm.wWithin = Wm.wIs) = false from by decide)]
    refine iteF ?_
    refine ⟨_, rfl, rfl, _, rfl, ?_⟩
    rw [hq l_in (show decide (Wm.wWithin = Wm.wIn) = false from by decide)]
    refine iteF ?_
    refine ⟨_, rfl, rfl, _, rfl, ?_⟩
    rw [hq l_within (show decide (Wm.wWithin = Wm.wWithin) = true from by decide)]
    refine iteT ?_
    exact ⟨_, rfl, a, _, 1, _, rfl, rfl, SqT.of ha, rfl, g, rfl, hs.1, nd2 rfl ⟨_, rfl, a, _, 2, _, rfl, rfl, SqT.of ha, rfl, x, t, rfl, hx, hs.2, fewT t rfl hf, fun H' s' => q H' s'⟩⟩
  | most x y c =>
    obtain ⟨a, rfl, ha⟩ := hv
    refine ⟨_, rfl, a, _, 0, _, rfl, rfl, SqT.of ha, rfl, ?_⟩
    refine ⟨_, rfl, rfl, _, rfl, ?_⟩
    rw [hq l_is (show decide (Wm.wMost = Wm.wIs) = false from by decide)]
    refine iteF ?_
    refine ⟨_, rfl, rfl, _, rfl, ?_⟩
    rw [hq l_in (show decide (Wm.wMost = Wm.wIn) = false from by decide)]
    refine iteF ?_
    refine ⟨_, rfl, rfl, _, rfl, ?_⟩
    rw [hq l_within (show decide (Wm.wMost = Wm.wWithin) = false from by decide)]
    refine iteF ?_
    refine ⟨_, rfl, rfl, _, rfl, ?_⟩
    rw [hq l_most (show decide (Wm.wMost = Wm.wMost) = true from by decide)]
    refine iteT ?_
    refine ⟨_, rfl, a, _, 1, _, rfl, rfl, SqT.of ha, rfl, _, rfl, a, _, 2, _, rfl, rfl, SqT.of ha, rfl, (by show 2 ≤ sizeLine; decide), fun p hp => ?_⟩
    refine ⟨p, rfl, ⟨_, SqT.of upd_same⟩, for_tup (xs := [V.str (sL x), V.str (sL y)]) (fun i σ H' => H' = upd H p (.tup [V.str (sL x), V.str (sL y)]) ∧ ∃ o, σ = [some (.ref a), some (.str (sL Wm.wMost)), o]) ⟨rfl, none, rfl⟩ (fun i σ H' _ h => by rw [h.1]; exact SqT.of upd_same) ?_ ?_⟩
    · rintro i z σ H' hz ⟨rfl, o, rfl⟩
      have hz' : ∃ u : Wm.L, z = .str (sL u) ∧ u.all Wm.isLet = true := by
        match i, hz with
        | 0, e => exact ⟨x, by simpa using e.symm, hs.1⟩
        | 1, e => exact ⟨y, by simpa using e.symm, hs.2⟩
        | i + 2, e => simp at e
      obtain ⟨u, rfl, hu⟩ := hz'
      refine ⟨_, rfl, rfl, _, rfl, ?_⟩
      rw [nil_str, dec_sL]
      by_cases e : u = []
      · rw [decide_eq_true e]
        exact iteT ⟨_, rfl, rfl, _, rfl⟩
      · rw [decide_eq_false e]
        refine iteF ?_
        exact ⟨_, rfl, u, rfl, ⟨e, hu⟩, nd2 rfl ⟨rfl, _, rfl⟩⟩
    · rintro σ H' ⟨rfl, o, rfl⟩
      exact q _ (Same.new hp)
  | path u p ts =>
    obtain ⟨a, b, vs, rfl, ha, hb, hts⟩ := hv
    cases u with
    | true =>
      have ha' : H a = some (.tup [.str (sL Wm.wUnder), .str (sL p), .ref b]) := ha
      clear ha
      refine ⟨_, rfl, a, _, 0, _, rfl, rfl, SqT.of ha', rfl, ?_⟩
      refine ⟨_, rfl, rfl, _, rfl, ?_⟩
      rw [hq l_is (show decide (Wm.wUnder = Wm.wIs) = false from by decide)]
      refine iteF ?_
      refine ⟨_, rfl, rfl, _, rfl, ?_⟩
      rw [hq l_in (show decide (Wm.wUnder = Wm.wIn) = false from by decide)]
      refine iteF ?_
      refine ⟨_, rfl, rfl, _, rfl, ?_⟩
      rw [hq l_within (show decide (Wm.wUnder = Wm.wWithin) = false from by decide)]
      refine iteF ?_
      refine ⟨_, rfl, rfl, _, rfl, ?_⟩
      rw [hq l_most (show decide (Wm.wUnder = Wm.wMost) = false from by decide)]
      refine iteF ?_
      refine ⟨_, rfl, rfl, _, rfl, ?_⟩
      rw [hq l_member (show decide (Wm.wUnder = Wm.wMember) = false from by decide)]
      refine iteF ?_
      refine ⟨_, rfl, rfl, _, rfl, ?_⟩
      rw [hq l_under (show decide (Wm.wUnder = Wm.wUnder) = true from by decide)]
      refine iteT (iteT ?_)
      exact ⟨_, rfl, a, _, 1, _, rfl, rfl, SqT.of ha', rfl, p, rfl, hs.1, nd2 rfl ⟨_, rfl, a, _, 2, _, rfl, rfl, SqT.of ha', rfl, b, vs, ts, rfl, hb, hts, hs.2.1, hs.2.2, fun H' s' => q H' s'⟩⟩
    | false =>
      have ha' : H a = some (.tup [.str (sL Wm.wAt), .str (sL p), .ref b]) := ha
      clear ha
      refine ⟨_, rfl, a, _, 0, _, rfl, rfl, SqT.of ha', rfl, ?_⟩
      refine ⟨_, rfl, rfl, _, rfl, ?_⟩
      rw [hq l_is (show decide (Wm.wAt = Wm.wIs) = false from by decide)]
      refine iteF ?_
      refine ⟨_, rfl, rfl, _, rfl, ?_⟩
      rw [hq l_in (show decide (Wm.wAt = Wm.wIn) = false from by decide)]
      refine iteF ?_
      refine ⟨_, rfl, rfl, _, rfl, ?_⟩
      rw [hq l_within (show decide (Wm.wAt = Wm.wWithin) = false from by decide)]
      refine iteF ?_
      refine ⟨_, rfl, rfl, _, rfl, ?_⟩
      rw [hq l_most (show decide (Wm.wAt = Wm.wMost) = false from by decide)]
      refine iteF ?_
      refine ⟨_, rfl, rfl, _, rfl, ?_⟩
      rw [hq l_member (show decide (Wm.wAt = Wm.wMember) = false from by decide)]
      refine iteF ?_
      refine ⟨_, rfl, rfl, _, rfl, ?_⟩
      rw [hq l_under (show decide (Wm.wAt = Wm.wUnder) = false from by decide)]
      refine iteF ?_
      refine ⟨_, rfl, rfl, _, rfl, ?_⟩
      rw [hq l_at (show decide (Wm.wAt = Wm.wAt) = true from by decide)]
      refine iteT ?_
      exact ⟨_, rfl, a, _, 1, _, rfl, rfl, SqT.of ha', rfl, p, rfl, hs.1, nd2 rfl ⟨_, rfl, a, _, 2, _, rfl, rfl, SqT.of ha', rfl, b, vs, ts, rfl, hb, hts, hs.2.1, hs.2.2, fun H' s' => q H' s'⟩⟩

abbrev s_check_at : Stmt := topS 17
abbrev N_check_at : List Str := ["condition", "depth", "part"]
theorem sc_check_at : FnScope N_check_at ["condition", "depth"] (defScope s_check_at) := ⟨rfl, rfl, rfl, by decide +kernel, rfl, by decide +kernel, by decide +kernel⟩
def sp_check_at (n : Nat) : Sp := fun vs H Q _ => ∃ (v : V) (c : Wm.Cnd) (d : Nat), vs = [v, .int (d : Int)] ∧ d + n = 13 ∧ CndV H c v ∧ Wm.CndOk d c ∧ fewC c ∧ ∀ H', Same H H' → Q .non H'
theorem cnd_depth {d : Nat} {c : Wm.Cnd} (h : Wm.CndOk d c) : d ≤ 12 := by cases h <;> assumption
theorem cnd_inner {d : Nat} {c : Wm.Cnd} (h : Wm.CndOk d c) : ∀ x ∈ innerC c, Wm.CndOk (d + 1) x := by
  cases h with
  | smp h hs => intro x hx; exact absurd hx List.not_mem_nil
  | not h hc => intro x hx; rw [show x = _ from List.mem_singleton.mp hx]; exact hc
  | many h hc => exact hc
theorem few_inner {c : Wm.Cnd} (h : fewC c) : ∀ x ∈ innerC c, fewC x := by
  cases c with
  | smp s => intro x hx; exact absurd hx List.not_mem_nil
  | not c => intro x hx; rw [fewC] at h; rw [show x = _ from List.mem_singleton.mp hx]; exact h
  | many b cs => rw [fewC] at h; exact fewCs_mem h
theorem ok_check_at (G : Glob K mg) (D : Df K mg "check_at" s_check_at ["condition", "depth"]) (C_need : Cal P w K mg base CX0 1 "need" ["right", "why"] sp_need2) (C_inner_conditions : Cal P w K mg base CX0 1 "inner_conditions" ["condition"] sp_inner_conditions)
    (C_check_simple : Cal P w K mg base CX0 4 "check_simple" ["condition"] sp_check_simple) (n : Nat) (C_check_at : Cal P w K mg base CX0 (5 + n) "check_at" ["condition", "depth"] (sp_check_at n)) : Cal P w K mg base CX0 (5 + n + 1) "check_at" ["condition", "depth"] (sp_check_at (n + 1)) := by
  refine D.ok sc_check_at (fun vs H Q E h => ?_) (fun f cdv A outer s H vs Q E hr h => ?_)
  · obtain ⟨v, c, d, rfl, _⟩ := h
    rfl
  obtain ⟨v, c, d, rfl, hd, hv, hc, hf, q⟩ := h
  refine ⟨_, (pss_cons (ps_expr (pe_cal C_need (hr.mono (by omega)) pass0 (pa_cons (pe_cmpR op_le (pv 1) (pe_gv G.MOST_DEPTH) (nomark _)) (pa_cons pe_str pa_nil))))
    (pss_cons (ps_expr (pe_cal C_check_simple (hr.mono (by omega)) pass0 (pa_cons (pv 0) pa_nil)))
    (pss_one (ps_for PassesOwn.never rfl (pi_tup (pe_cal C_inner_conditions (hr.mono (by omega)) pass0 (pa_cons (pv 0) pa_nil))) (pg_name (i := 2) sc_check_at.nd rfl (Or.inl rfl))
      (pss_one (ps_expr (pe_cal C_check_at hr pass0 (pa_cons (pv 2) (pa_cons (pe_op op_add (pv 1) pe_int) pa_nil))))))))), ?_⟩
  refine ⟨_, rfl, _, _, rfl, rfl, nd2 (decide_eq_true (by have := cnd_depth hc; omega)) ?_⟩
  refine ⟨_, rfl, v, c, rfl, hv, ?_, fun H1 s1 => ?_⟩
  · cases hc with
    | smp h hs => rw [fewC] at hf; exact ⟨hs, hf⟩
    | not h hc => trivial
    | many h hc => trivial
  refine ⟨_, rfl, v, c, rfl, CndV.keep (Same.tups s1) hv, fun e H2 xs s2 he hxs => ?_⟩
  refine ⟨e, rfl, ⟨xs, SqT.of he⟩, for_tup (xs := xs) (fun i σ H' => Same H2 H' ∧ ∃ o, σ = [some v, some (.int (d : Int)), o]) ⟨fun _ _ h => h, none, rfl⟩ (fun i σ H' _ h => SqT.of (h.1 _ _ he)) ?_ ?_⟩
  · rintro i x σ H' hx ⟨sm, o, rfl⟩
    obtain ⟨t, ht, hv2⟩ := hxs.get hx
    have hm := List.mem_of_getElem? ht
    refine ⟨_, rfl, _, rfl, _, _, rfl, rfl, x, t, d + 1, ?_, by omega, CndV.keep (Same.tups sm) hv2, cnd_inner hc t hm, few_inner hf t hm, fun H3 s3 => ⟨sm.trans s3, _, rfl⟩⟩
    show [x, V.int ((d : Int) + 1)] = _
    rw [show ((d : Int) + 1) = ((d + 1 : Nat) : Int) by omega]
  · rintro σ H' ⟨sm, o, rfl⟩
    exact q H' (s1.trans (s2.trans sm))
theorem no_check {vs : List V} {H : Hp} {Q : VK} {E : XK} (h : sp_check_at 0 vs H Q E) : False := by
  obtain ⟨v, c, d, _, hd, _, hc, _⟩ := h
  have := cnd_depth hc
  omega
theorem ok_check_all (G : Glob K mg) (D : Df K mg "check_at" s_check_at ["condition", "depth"]) (C_need : Cal P w K mg base CX0 1 "need" ["right", "why"] sp_need2) (C_inner_conditions : Cal P w K mg base CX0 1 "inner_conditions" ["condition"] sp_inner_conditions)
    (C_check_simple : Cal P w K mg base CX0 4 "check_simple" ["condition"] sp_check_simple) : ∀ n, Cal P w K mg base CX0 (5 + n) "check_at" ["condition", "depth"] (sp_check_at n)
  | 0 => D.ok sc_check_at (fun vs H Q E h => (no_check h).elim) fun f cdv A outer s H vs Q E hr h => (no_check h).elim
  | n + 1 => ok_check_at G D C_need C_inner_conditions C_check_simple n (ok_check_all G D C_need C_inner_conditions C_check_simple n)
abbrev s_check_condition : Stmt := topS 18
abbrev N_check_condition : List Str := ["condition"]
theorem sc_check_condition : FnScope N_check_condition ["condition"] (defScope s_check_condition) := ⟨rfl, rfl, rfl, by decide +kernel, rfl, by decide +kernel, by decide +kernel⟩
def sp_check_condition : Sp := fun vs H Q _ => ∃ (v : V) (c : Wm.Cnd), vs = [v] ∧ CndV H c v ∧ Wm.CndOk 1 c ∧ fewC c ∧ ∀ H', Same H H' → Q .non H'
theorem ok_check_condition (D : Df K mg "check_condition" s_check_condition ["condition"]) (C_check_at : Cal P w K mg base CX0 17 "check_at" ["condition", "depth"] (sp_check_at 12)) : Cal P w K mg base CX0 18 "check_condition" ["condition"] sp_check_condition := by
  refine D.ok sc_check_condition (fun vs H Q E h => ?_) (fun f cdv A outer s H vs Q E hr h => ?_)
  · obtain ⟨v, c, rfl, _⟩ := h
    rfl
  obtain ⟨v, c, rfl, hv, hc, hf, q⟩ := h
  refine ⟨_, (pss_one (ps_expr (pe_cal C_check_at hr pass0 (pa_cons (pv 0) (pa_cons pe_int pa_nil))))), ?_⟩
  exact ⟨_, rfl, v, c, 1, rfl, rfl, hv, hc, hf, q⟩
end
end Wk
end PartCk4
section PartSetT
set_option Elab.async false
set_option linter.all false
set_option maxRecDepth 100000
set_option maxHeartbeats 4000000
/-! sorted(set(xs)), xs a list or tuple of texts -/
namespace Wk
open PySem PySem.Spec PyProof.Rows L2
def keysOf (es : Array (Int × Value)) : List Str := es.toList.map fun e => strOf e.2
/-- the set's table can be walked; the texts that stand in it -/
def Walkable (w : World) (D : Froz.SD) (l : List Str) : Prop := Ris D.2.2.place.toList ∧ (w.params.followText "set-order" = true ∨ D.2.2.led = true) ∧ (keysOf D.1).Perm l
theorem walkable_add {w : World} {h : Int} {k : Str} {u : Tok} {D : Froz.SD} {l : List Str} (W : Walkable w D l) : Walkable w (Froz.addTx h (.str k u) D) (k :: l) := by
  obtain ⟨es, ep, t⟩ := D
  generalize hv : Value.str k u = v
  have p1 : (keysOf (layNew t es h v).1).Perm (k :: l) := by
    have z := (layNew_perm t es h v).map fun e : Int × Value => strOf e.2
    rw [Array.toList_push, List.map_append] at z
    refine z.trans ((List.perm_append_singleton _ _).trans ?_)
    rw [← hv]
    exact W.2.2.cons k
  have r1 : Ris (layNew t es h v).2.1.place.toList := layNew_ris t es h v W.1
  have l1 : w.params.followText "set-order" = true ∨ (layNew t es h v).2.1.led = true := W.2.1.imp id fun z => (layNew_led t es h v).trans z
  unfold Froz.addTx
  show Walkable w (Froz.tailTx ep (layNew t es h v).1 (if (layNew t es h v).2.1.plain = true then { (layNew t es h v).2.1 with plain := false } else (layNew t es h v).2.1) (layNew t es h v).2.2.1) (k :: l)
  generalize layNew t es h v = Z at r1 l1 p1 ⊢
  obtain ⟨es1, t1, dm, gv⟩ := Z
  have r2 : Ris (if t1.plain = true then { t1 with plain := false } else t1).place.toList := by split <;> exact r1
  have l2 : w.params.followText "set-order" = true ∨ (if t1.plain = true then { t1 with plain := false } else t1).led = true := by split <;> exact l1
  show Walkable w (Froz.tailTx ep es1 (if t1.plain = true then { t1 with plain := false } else t1) dm) (k :: l)
  generalize (if t1.plain = true then { t1 with plain := false } else t1) = t2 at r2 l2 ⊢
  unfold Froz.tailTx
  split
  · exact ⟨relayAll_ris t2 es1 _, l2.imp id fun z => (relayAll_led t2 es1 _).trans z, ((relayAll_perm t2 es1 _).map fun e : Int × Value => strOf e.2).trans p1⟩
  · exact ⟨r2, l2, p1⟩
/-- at a: a set of the texts l -/
def Txs (P : Program) (w : World) (h : Heap) (a : Addr) (l : List Str) : Prop := ∃ D : Froz.SD, h.get? a = some (Froz.sObj "set" D) ∧ Froz.TxOk P w D l ∧ Walkable w D l
section
variable {P : Program} {w : World} {A : Around} {E : Value → Shared → Prop} {s : Shared} {a : Addr} {l : List Str} {k : Str} {u : Tok}
/-- a text that is there is put in again: nothing changes -/
theorem add_old {D : Froz.SD} {Q : Bool → Shared → Prop} (ho : s.heap.get? a = some (Froz.sObj "set" D)) (F : Froz.TxOk P w D l) (hk : k ∈ l) (hb : l.length < scanBound) (q : Q false s) :
    wpAny (model P w) A (setAddHashed a (.str k u) (hashStr w k)) Q E s := by
  obtain ⟨es, ep, t⟩ := D
  have few : es.size < scanBound := by have e : es.size = l.length := F.sz; omega
  obtain ⟨e, he, ke⟩ := (F.mem k).mp hk
  unfold setAddHashed setAddHashedIn
  refine wpAny_holding (wpAny_bind (wpAny_setState_of ho rfl F.fit ?_))
  show wpAny _ _ _ _ _ s
  dsimp only
  rw [byScan_of (show (Value.str k u).scannable = true from rfl) few F.el]
  simp only [↓reduceIte]
  unfold setAddByScan
  refine wpAny_bind (wpAny_bind (wpAny_rule (wpAny_bind (wpAny_setScan_of (knd := PySem.strKind P w) (Froz.is_str k u) ho rfl F.fit F.el ?_))))
  cases hf : List.findIdx? (fun e => (PySem.strKind P w).is k e.2) es.toList with
  | none =>
    have := List.findIdx?_eq_none_iff.mp hf e he
    rw [ke] at this
    cases this
  | some j => exact wpAny_pure (wpAny_pure q)
/-- set.add's heart -/
theorem txs_add {Q : Bool → Shared → Prop} (R : Txs P w s.heap a l) (hb : l.length + 1 < scanBound) (q : ∀ b h', Heap.SameBut a s.heap h' → Txs P w h' a (if k ∈ l then l else k :: l) → Q b { s with heap := h', toks := s.toks + 1 }) :
    wpAny (model P w) A (setAdd a (.str k u)) Q E s := by
  obtain ⟨D, ho, F, W⟩ := R
  unfold setAdd
  refine wpAny_holding (wpAny_bind ((PySem.strKind P w).pyHash (k := k) (Froz.is_str k u) ?_))
  by_cases hk : k ∈ l
  · rw [if_pos hk] at q
    exact add_old (s := { s with toks := s.toks + 1 }) ho F hk (by omega) (q false s.heap (Heap.SameBut.refl a _) ⟨D, ho, F, W⟩)
  · rw [if_neg hk] at q
    exact Froz.add_x (s := { s with toks := s.toks + 1 }) ho F hk hb (q true _ (Heap.SameBut.update s.heap a _) ⟨_, Froz.get_upd _ ho rfl, Froz.add_ok u F, walkable_add W⟩)
end
end Wk
end PartSetT
section PartSetT2
set_option Elab.async false
set_option linter.all false
set_option maxRecDepth 100000
set_option maxHeartbeats 4000000
namespace Wk
open PySem PySem.Spec PyProof.Rows L2
section
variable {P : Program} {w : World} {A : Around} {E : Value → Shared → Prop} {s : Shared}
/-- a set that was just made -/
def newS (w : World) : Obj := Froz.sObj "set" (#[], 0, .fresh 0 0 (!w.params.followText "set-order"))
theorem newS_at {h : Heap} {a : Addr} (e : h.get? a = some (newS w)) : Txs P w h a [] := by
  refine ⟨_, e, .nil rfl, List.Pairwise.nil, ?_, List.Perm.nil⟩
  show w.params.followText "set-order" = true ∨ (!w.params.followText "set-order") = true
  cases w.params.followText "set-order"
  · exact .inr rfl
  · exact .inl rfl
/-- how set.__init__ ends -/
def iniEnd (P : Program) (w : World) (A : Around) (E : Value → Shared → Prop) (T : Shared → Prop) (fin : PySem.Fin) (s' : Shared) : Prop :=
  match fin with
  | .done f => wants (fun r s₂ => r = .none ∧ T s₂) E (.ok f) s'
  | .again c' => c'.quiet = true ∧ codeAny (model P w) A.in1 c' (wants (fun r s₂ => r = .none ∧ T s₂) E) s'
set_option maxHeartbeats 3200000 in
/-- set(x): what its __init__ leaves -/
theorem set_call {x : Value} {T : Shared → Prop} {Q : Value → Shared → Prop}
    (hI : wpAny (model P w) A.in1.in1 (Builtin.«set.__init__» ⟨[.ref s.heap.objs.size, x], []⟩) (iniEnd P w A E T) (fun e s' => E e s') { s with heap := s.heap.push (newS w) }) (q : ∀ s₂, T s₂ → Q (.ref s.heap.objs.size) s₂) :
    wpAny (model P w) A (call (.type "set") [x]) Q E s := by
  obtain ⟨tail0, more, mro⟩ := PySem.F.called_set.mro
  have made := PySem.F.called_set.made
  have sub := PySem.F.called_set.sub
  have h1 := PySem.F.called_set.notType
  have h2 := PySem.F.called_set.canCreate
  have hc := PySem.F.typeCall_set_1 x
  refine wpAny_call (codeAny_of_tree ?_)
  show wpAny _ _ (callAny (.type "set") _) _ _ _
  refine wpAny_pure ⟨Code.quiet_builtin _ (by decide +kernel), codeAny_builtin PySem.F.entry_type_call ?_⟩
  rw [Around.under_plain (weight_type_call_type "set" [x] []) rfl]
  repeat (any_goals (first | assumption | wp_step))
  refine codeAny_mono (code_set_led1 x (E := E) (Q₁ := fun obj s₁ => obj = .ref s.heap.objs.size ∧ s₁ = { s with heap := s.heap.push (newS w) }) ⟨rfl, rfl⟩) fun r s₁ hr => ?_
  cases r with
  | error e => exact hr
  | ok fl =>
    cases fl with
    | ret obj =>
      obtain ⟨rfl, rfl⟩ := hr
      have at_ : (s.heap.push (newS w)).get? s.heap.objs.size = some (newS w) := Heap.get?_push_size _ rfl
      have hT : Shared.TypeIs { s with heap := s.heap.push (newS w) } (.ref s.heap.objs.size) "set" := ⟨_, at_, rfl⟩
      have look := PySem.F.called_set.init.lookup
      have bind_ := PySem.F.called_set.init.bind (.ref s.heap.objs.size)
      repeat (any_goals (first | assumption | wp_step))
      refine codeAny_mono (codeAny_call_builtin (R := wants (fun r s₂ => r = .none ∧ T s₂) E) PySem.F.called_set.init.plain PySem.F.entry_set_init (check_set_init_1 hT ?_)) fun r₂ s₂ hr₂ => ?_
      · exact hI
      · cases r₂ with
        | error e => exact hr₂
        | ok fl₂ =>
          cases fl₂ with
          | ret r =>
            obtain ⟨rfl, t⟩ := hr₂
            repeat (any_goals (first | assumption | wp_step))
            exact q s₂ t
          | _ => exact hr₂.elim
    | _ => exact hr.elim
/-- the loop that puts the texts in -/
theorem put_texts {I S : Addr} {fp wr : List Addr} {G : Array GenState → Array GenState → Prop} {n : Nat} {Pv : Nat → Value → Prop} {St : Nat → Shared → Prop} {R : Result → Shared → Prop} {ns : List Str}
    (W : WalksS P w A.in1 I fp wr G n Pv St) (out : S ∉ fp) (len : n = ns.length) (few : ns.length + 1 < scanBound) (val : ∀ i v, Pv i v → ∃ k t, ns[i]? = some k ∧ v = .str k t) :
    ∀ (left i : Nat) (s : Shared), i + left = n → St i s → (∃ l, Txs P w s.heap S l ∧ (∀ x, x ∈ l ↔ x ∈ ns.take i) ∧ l.Nodup ∧ l.length ≤ i) →
      (∀ s' l, Moved (S :: wr) G s s' → Txs P w s'.heap S l → (∀ x, x ∈ l ↔ x ∈ ns) → l.Nodup → l.length ≤ n → R (.ok (.ret .none)) s') →
      codeAny (model P w) A (.builtin "set.update.loop" ⟨[.ref S, .ref I], []⟩) R s := by
  have far : S ∉ wr := fun h => out (W.sub _ h)
  have stay : ∀ {s s' : Shared} {l : List Str}, Moved wr G s s' → Txs P w s.heap S l → Txs P w s'.heap S l := fun mv ⟨D, e, r⟩ => ⟨D, mv.heap S _ far e, r⟩
  have wide : ∀ {s s' : Shared}, Moved wr G s s' → Moved (S :: wr) G s s' := fun mv => mv.mono fun b hb => List.mem_cons_of_mem _ hb
  intro left
  induction left with
  | zero =>
    rintro i s hi hst ⟨l, hT, hm, hnd, hle⟩ q
    obtain rfl : i = n := by omega
    refine codeAny_builtin PyProof.Rows.F.entry_set_update_loop ?_
    rw [Around.under_plainId PyProof.Rows.F.plain_set_update_loop _]
    refine wpAny_bind (show wpAny _ A.in1 (pyNext (.ref I)) _ _ s from W.done s _ _ hst fun s' mv => ?_)
    rw [List.take_of_length_le (by omega)] at hm
    exact wpAny_pure (q s' l (wide mv) (stay mv hT) hm hnd hle)
  | succ left ih =>
    rintro i s hi hst ⟨l, hT, hm, hnd, hle⟩ q
    refine codeAny_builtin PyProof.Rows.F.entry_set_update_loop ?_
    rw [Around.under_plainId PyProof.Rows.F.plain_set_update_loop _]
    refine wpAny_bind (show wpAny _ A.in1 (pyNext (.ref I)) _ _ s from W.item i s _ _ (by omega) hst fun v s' hv hst' mv => ?_)
    obtain ⟨k, t, hk, rfl⟩ := val i v hv
    refine wpAny_bind (show wpAny _ A.in1 (holding [Value.str k t] (setAdd S (.str k t))) _ _ s' from wpAny_holding (txs_add (stay mv hT) (by omega) fun b h' sb hT' => ?_))
    refine wpAny_pure ⟨plainId_quiet PyProof.Rows.F.plain_set_update_loop _, ih (i + 1) _ (by omega) (W.frame _ s' _ _ hst' (Nat.le_succ _) fun b hb o e => (sb.2 b fun z => out (z ▸ hb)).trans e) ⟨_, hT', ?_, ?_, ?_⟩ fun s'' l' mv' => q s'' l' (Moved.trans W.gtrans ((wide mv).then_heap (Nat.le_succ _) fun b o hb e => (sb.2 b fun z => hb (z ▸ List.mem_cons_self)).trans e) mv')⟩
    · intro x
      rw [List.take_add_one, hk]
      by_cases h : k ∈ l
      · rw [if_pos h]
        have := (hm k).mp h
        simp only [Option.toList_some, List.mem_append, List.mem_singleton, hm x]
        exact ⟨.inl, fun z => z.elim id fun e => e ▸ this⟩
      · rw [if_neg h]
        simp only [Option.toList_some, List.mem_append, List.mem_cons, List.not_mem_nil, or_false, hm x]
        exact Or.comm
    · by_cases h : k ∈ l
      · rw [if_pos h]; exact hnd
      · rw [if_neg h]; exact List.nodup_cons.mpr ⟨h, hnd⟩
    · by_cases h : k ∈ l
      · rw [if_pos h]; omega
      · rw [if_neg h, List.length_cons]; omega
/-- what set(xs) leaves -/
def Made (P : Program) (w : World) (s : Shared) (ns : List Str) (s₂ : Shared) : Prop :=
  ∃ h' tk l, s₂ = { s with heap := h', toks := tk } ∧ Txs P w h' s.heap.objs.size l ∧ (∀ x, x ∈ l ↔ x ∈ ns) ∧ l.Nodup ∧ l.length ≤ ns.length ∧ ∀ b o, s.heap.get? b = some o → h'.get? b = some o
set_option maxHeartbeats 3200000 in
theorem set_of_list {l : Addr} {items : Array Value} {ns : List Str} {Q : Value → Shared → Prop} (calm : A.handled = none) (hl : s.heap.IsList l items) (hit : StrsAre items.toList ns) (few : ns.length + 1 < scanBound)
    (q : ∀ s₂, Made P w s ns s₂ → Q (.ref s.heap.objs.size) s₂) : wpAny (model P w) A (call (.type "set") [.ref l]) Q E s := by
  refine set_call (T := Made P w s ns) ?_ q
  have len : items.size = ns.length := (Array.length_toList (xs := items)).symm.trans (StrsAre.length hit)
  obtain ⟨⟨oc, odd, oda, osl⟩, at0, rfl, ep, rfl⟩ := id hl
  have below := Heap.lt_size at0
  have at1 : (s.heap.push (newS w)).get? l = some { cls := .type "list", dict := odd, data := .seq items ep, slots := osl } := Heap.get?_push_of_some _ at0
  have seq1 : (s.heap.push (newS w)).IsList l items := ⟨_, at1, rfl, ep, rfl⟩
  have no1 := PySem.F.sub_list_set
  have no2 := PySem.F.sub_list_frozenset
  have no3 : (Value.type "list" == Value.type "dict") = false := by decide
  have two : (s.heap.push (newS w)).objs.size = s.heap.objs.size + 1 := Heap.size_push ..
  have nI : l ≠ (s.heap.push (newS w)).objs.size := by rw [two]; exact Nat.ne_of_lt (Nat.lt_succ_of_lt below)
  have nS : s.heap.objs.size ∉ [(s.heap.push (newS w)).objs.size, l] := by
    intro h
    rcases List.mem_cons.mp h with e | h
    · rw [two] at e; exact Nat.ne_of_lt (Nat.lt_succ_self _) e
    · exact Nat.ne_of_lt below (List.mem_singleton.mp h).symm
  have val : ∀ (i : Nat) (v : Value), items[i]? = some v → ∃ k t, ns[i]? = some k ∧ v = .str k t := fun i v hv => by
    have hi : i < ns.length := len ▸ (Array.getElem?_eq_some_iff.mp hv).1
    obtain ⟨t, e⟩ := StrsAre.get hit i ns[i] (List.getElem?_eq_getElem hi)
    exact ⟨ns[i], t, List.getElem?_eq_getElem hi, Option.some.inj ((Array.getElem?_toList.trans hv).symm.trans e)⟩
  unfold Builtin.«set.__init__» noKeywords Builtin.Frozenset.updateFrom
  generalize hPI : pyIter = PI
  wp_walk
  subst hPI
  refine wpAny_pyIter_list seq1 (wpAny_bind (wpAny_runValue ?_))
  refine put_texts ((Walks.list (by simp [calm]) _ l nI items).toS) nS len few val items.size 0 _ (Nat.zero_add _) ⟨⟨_, Heap.get?_push_size _ rfl, rfl, rfl⟩, seq1.push _⟩
    ⟨[], newS_at (Heap.get?_push_of_some _ (Heap.get?_push_size _ rfl)), fun x => by simp, List.nodup_nil, Nat.le_refl 0⟩ fun s' l' mv hT hm hnd hle => ?_
  obtain ⟨h', g, d, tk, os⟩ := s'
  obtain rfl : g = s.gens := mv.gens
  obtain rfl : d = s.drawn := mv.drawn
  obtain rfl : os = s.os := mv.os
  refine wpAny_pure (show wpAny _ _ (ret Value.none) _ _ _ from wpAny_pure ⟨rfl, h', tk, l', rfl, hT, hm, hnd, len ▸ hle, fun b o e => ?_⟩)
  have lo := Heap.lt_size e
  refine mv.heap b o (fun h => ?_) (Heap.get?_push_of_some _ (Heap.get?_push_of_some _ e))
  rcases List.mem_cons.mp h with z | z
  · exact Nat.ne_of_lt lo z
  · rw [List.mem_singleton, two] at z
    exact Nat.ne_of_lt (Nat.lt_succ_of_lt lo) z
set_option maxHeartbeats 3200000 in
theorem set_of_tuple {l : Addr} {items : Array Value} {ns : List Str} {Q : Value → Shared → Prop} (calm : A.handled = none) (hl : s.heap.IsTuple l items) (hit : StrsAre items.toList ns) (few : ns.length + 1 < scanBound)
    (q : ∀ s₂, Made P w s ns s₂ → Q (.ref s.heap.objs.size) s₂) : wpAny (model P w) A (call (.type "set") [.ref l]) Q E s := by
  refine set_call (T := Made P w s ns) ?_ q
  have len : items.size = ns.length := (Array.length_toList (xs := items)).symm.trans (StrsAre.length hit)
  obtain ⟨⟨oc, odd, oda, osl⟩, at0, rfl, ep, rfl⟩ := id hl
  have below := Heap.lt_size at0
  have at1 : (s.heap.push (newS w)).get? l = some { cls := .type "tuple", dict := odd, data := .seq items ep, slots := osl } := Heap.get?_push_of_some _ at0
  have seq1 : (s.heap.push (newS w)).IsTuple l items := ⟨_, at1, rfl, ep, rfl⟩
  have no1 := PySem.F.sub_tuple_set
  have no2 := PySem.F.sub_tuple_frozenset
  have no3 : (Value.type "tuple" == Value.type "dict") = false := by decide
  have two : (s.heap.push (newS w)).objs.size = s.heap.objs.size + 1 := Heap.size_push ..
  have nI : l ≠ (s.heap.push (newS w)).objs.size := by rw [two]; exact Nat.ne_of_lt (Nat.lt_succ_of_lt below)
  have nS : s.heap.objs.size ∉ [(s.heap.push (newS w)).objs.size, l] := by
    intro h
    rcases List.mem_cons.mp h with e | h
    · rw [two] at e; exact Nat.ne_of_lt (Nat.lt_succ_self _) e
    · exact Nat.ne_of_lt below (List.mem_singleton.mp h).symm
  have val : ∀ (i : Nat) (v : Value), items[i]? = some v → ∃ k t, ns[i]? = some k ∧ v = .str k t := fun i v hv => by
    have hi : i < ns.length := len ▸ (Array.getElem?_eq_some_iff.mp hv).1
    obtain ⟨t, e⟩ := StrsAre.get hit i ns[i] (List.getElem?_eq_getElem hi)
    exact ⟨ns[i], t, List.getElem?_eq_getElem hi, Option.some.inj ((Array.getElem?_toList.trans hv).symm.trans e)⟩
  unfold Builtin.«set.__init__» noKeywords Builtin.Frozenset.updateFrom
  generalize hPI : pyIter = PI
  wp_walk
  subst hPI
  refine wpAny_pyIter_tuple seq1 (wpAny_bind (wpAny_runValue ?_))
  refine put_texts ((Walks.tuple (by simp [calm]) _ l nI items).toS) nS len few val items.size 0 _ (Nat.zero_add _) ⟨⟨_, Heap.get?_push_size _ rfl, rfl, rfl⟩, seq1.push _⟩
    ⟨[], newS_at (Heap.get?_push_of_some _ (Heap.get?_push_size _ rfl)), fun x => by simp, List.nodup_nil, Nat.le_refl 0⟩ fun s' l' mv hT hm hnd hle => ?_
  obtain ⟨h', g, d, tk, os⟩ := s'
  obtain rfl : g = s.gens := mv.gens
  obtain rfl : d = s.drawn := mv.drawn
  obtain rfl : os = s.os := mv.os
  refine wpAny_pure (show wpAny _ _ (ret Value.none) _ _ _ from wpAny_pure ⟨rfl, h', tk, l', rfl, hT, hm, hnd, len ▸ hle, fun b o e => ?_⟩)
  have lo := Heap.lt_size e
  refine mv.heap b o (fun h => ?_) (Heap.get?_push_of_some _ (Heap.get?_push_of_some _ e))
  rcases List.mem_cons.mp h with z | z
  · exact Nat.ne_of_lt lo z
  · rw [List.mem_singleton, two] at z
    exact Nat.ne_of_lt (Nat.lt_succ_of_lt lo) z
end
end Wk
end PartSetT2
section PartSetT3
set_option Elab.async false
set_option linter.all false
set_option maxRecDepth 100000
set_option maxHeartbeats 4000000
namespace Wk
open PySem PySem.Spec PyProof.Rows L2
section
variable {P : Program} {w : World} {A : Around} {E : Value → Shared → Prop} {s : Shared} {a : Addr}
theorem sorted_texts {l : List Str} {Q : Value → Shared → Prop} (R : Txs P w s.heap a l) (calm : A.handled = none) (few : l.length < scanBound)
    (q : ∀ s' p (out : Array Value) (c : Nat) (ns : List Str), (∀ b o, s.heap.get? b = some o → s'.heap.get? b = some o) → s'.gens = s.gens → s'.os = s.os → s.heap.objs.size ≤ p →
      s'.heap.get? p = some (seqObj "list" out c) → StrsAre out.toList ns → sortedS ns = true → ns.Perm l → Q (.ref p) s') :
    wpAny (model P w) A (call (.builtin "sorted") [.ref a]) Q E s := by
  obtain ⟨⟨es, ep, t⟩, ho, F, W1, W2, W3⟩ := R
  have sz : es.size = l.length := F.sz
  have isx : ∀ v ∈ es.toList.map (·.2), ∃ k tk, v = Value.str k tk := fun v hv => by
    obtain ⟨e, he, rfl⟩ := List.mem_map.mp hv
    obtain ⟨⟨k, hk, _⟩, _⟩ := F.el e he
    have hk' : Value.isStrOf k e.2 = true := hk
    cases hx : e.2 with
    | str x u => exact ⟨x, u, rfl⟩
    | _ => rw [hx] at hk'; cases hk'
  refine Calls.call_function_entry kind_sorted plain_sorted entry_sorted (args_sorted1 _) ?_
  unfold Builtin.«sorted»
  refine wpAny_bind (m := checkCount "sorted" 1 1 _) (wpAny_pure (wpAny_bind (collect_set (A := A.in1) calm ⟨_, ho, rfl, rfl⟩ F.fit (by rw [show (es, ep, t).1 = es from rfl, sz]; exact few) W1 W2 fun s1 vs kept more gens os perm => ?_)))
  have each : StrsAre vs (vs.map strOf) := strsAre_map vs fun v hv => isx v (perm.mem_iff.mp hv)
  have names : (vs.map strOf).Perm l := ((perm.map strOf).trans (List.Perm.of_eq (List.map_map ..))).trans W3
  have len : vs.length ≤ sizeLine := by
    have := names.length_eq
    rw [List.length_map] at this
    rw [this]
    exact fits_of_scanBound few
  refine wpAny_bind (wpAny_newList ?_ len)
  have at1 : (s1.heap.push (seqObj "list" vs.toArray 0)).get? s1.heap.objs.size = some (seqObj "list" vs.toArray 0) := Heap.get?_push_size _ rfl
  refine wpAny_bind (wpAny_holding (wpAny_call_entry slot_list_sort ⟨_, at1, rfl⟩ entry_list_sort (list_sort_treeKAny strKind_oneLt at1 each.keysOf (fun x y rest e => keyKind_strs (e ▸ each)) len fun st hp hs => ⟨_, rfl, ?_⟩) (args_list_sort _)))
  obtain ⟨ns, b1, b2, b3⟩ := sorted_out_str each hp hs
  obtain ⟨c, hc⟩ := sortedHeap_at (vs := vs) (out := (arrOf st).map (·.2)) at1
  refine wpAny_pure ⟨_, rfl, q _ s1.heap.objs.size _ c ns (fun b o e => ?_) gens os more hc b1 b3 (b2.trans names)⟩
  have old := kept b o e
  have lo := Heap.lt_size old
  exact (sortedHeap_old (Nat.ne_of_lt lo) (by rw [size_push']; exact Nat.lt_succ_of_lt lo)).trans (Heap.get?_push_of_some _ old)
end
theorem sortedS_pw : ∀ {ns : List Str}, sortedS ns = true → ns.Pairwise (fun a b => ¬ b.cps.toList < a.cps.toList)
  | [], _ => List.Pairwise.nil
  | [x], _ => List.pairwise_singleton _ _
  | x :: y :: r, h => by
    have h' : (!ltCps y.cps.toList x.cps.toList && risingS y r) = true := h
    rw [Bool.and_eq_true] at h'
    have ih := sortedS_pw (ns := y :: r) h'.2
    have hxy : ¬ y.cps.toList < x.cps.toList := by
      have e := h'.1
      rw [ltCps_eq] at e
      simpa using e
    refine List.pairwise_cons.mpr ⟨fun z hz => ?_, ih⟩
    rcases List.mem_cons.mp hz with e | e
    · rw [e]; exact hxy
    · have hyz := (List.pairwise_cons.mp ih).1 z e
      exact fun hzx => by
        have h1 : x.cps.toList ≤ y.cps.toList := List.not_lt.mp hxy
        have h2 : y.cps.toList ≤ z.cps.toList := List.not_lt.mp hyz
        exact List.not_lt.mpr (List.le_trans h1 h2) hzx
theorem vals_of_strs : ∀ {vs : List Value} {ss : List Str}, StrsAre vs ss → Vals (ss.map V.str) vs
  | _, _, .nil => .nil
  | _, _, .cons x t h => .cons (show RelV (.str x) (.str x t) from ⟨t, rfl⟩) (vals_of_strs h)
section
variable {X : Cx} {a : Expr} {ta : TE} {p p2 q pos : Pos}
/-- sorted(set(xs)) -/
def tSortSet (K : PySem.W.Frag) (ta : TE) : TE := fun σ H Q => ta σ H fun x H1 => ∃ (l : Addr) (xs : List Str), x = V.ref l ∧ (SqL K H1 l (xs.map V.str) ∨ SqT K H1 l (xs.map V.str)) ∧ xs.length + 1 < scanBound ∧
  ∀ (p : Addr) (ys : List Str), H1 p = none → ys.Pairwise (fun a b => ¬ b.cps.toList < a.cps.toList) → ys.Nodup → (∀ y, y ∈ ys ↔ y ∈ xs) → ys.length ≤ xs.length → Q (.ref p) (upd H1 p (.lst (ys.map V.str)))
theorem pe_sortedSet (G : Glob X.K X.mg) (ha : PE X a ta) (hc : X.calm = true := by rfl) (hg : Gl X "sorted" := by rfl) (hg2 : Gl X "set" := by rfl)
    (na : starEach [a] X.env = (false, eval a X.env) :: starEach [] X.env := by rfl) : PE X (.Call (.Name "sorted" p) [.Call (.Name "set" p2) [a] [] q] [] pos) (tSortSet X.K ta) := by
  refine ⟨fun pins s σ H Q I h => ?_⟩
  refine Call_ (ld_blt I hg G.sorted Wk.boot_sorted ?_)
  refine PyProof.Rows.callWith_builtin1 (PyProof.Rows.args_cons ?_ rfl) rfl rfl
  refine Call_ (ld_blt I hg2 G.set Wk.boot_set ?_)
  refine PyProof.Rows.callWith_type1 (PyProof.Rows.args_cons (thn (ha.run pins s σ H _ I h) fun v s1 ⟨x, H1, I1, r1, q1⟩ => PyProof.Rows.args_nil ?_) na) na rfl
  obtain ⟨l, xs, rfl, hq, h1, q1⟩ := q1
  cases r1
  have fin : ∀ s₂, Made X.prog X.w s1 xs s₂ → wpAny (model X.prog X.w) X.A (call (.builtin "sorted") [.ref s1.heap.objs.size]) (EP X pins σ Q) X.xe s₂ := by
    rintro s₂ ⟨h', tk, l, rfl, R, hm, hnd, hle, hk⟩
    have I2 : Inv X pins σ H1 { s1 with heap := h', toks := tk } := I1.kept fun b o e => hk b o e
    refine sorted_texts R (I2.ok.hd hc) (by omega) fun s' p out c ns kept gens os far at1 hS hsrt pm => ?_
    have hz : (ns.map V.str).length ≤ sizeLine := by
      rw [List.length_map, pm.length_eq, sizeLine_eq]
      unfold scanBound at h1
      omega
    have free : H1 p = none := I2.hok.fresh far
    have J : Inv X pins σ (upd H1 p (.lst (ns.map V.str))) { ({ s1 with heap := h', toks := tk } : Shared) with heap := s'.heap, gens := s'.gens, drawn := s'.drawn, toks := s'.toks } :=
      I2.call (ch := []) (Un.laid kept far free) (I2.hok.laid kept far ⟨hz, out.toList, c, vals_of_strs hS, at1⟩) (by rw [gens]; exact I2.bare) (fun _ z => nomatch z)
    have e : s' = { ({ s1 with heap := h', toks := tk } : Shared) with heap := s'.heap, gens := s'.gens, drawn := s'.drawn, toks := s'.toks } := by
      cases s'
      cases s1
      cases os
      rfl
    rw [e]
    exact ⟨.ref p, _, J, rfl, q1 p ns free (sortedS_pw hsrt) (pm.nodup_iff.mpr hnd) (fun y => pm.mem_iff.trans (hm y)) (by rw [pm.length_eq]; exact hle)⟩
  rcases hq with hq | hq
  · obtain ⟨its, r, pl, hz⟩ := I1.list hq
    exact set_of_list (I1.ok.hd hc) pl.isList (by simpa using strsAre_of r) h1 fun s₂ m => PyProof.Rows.args_nil (fin s₂ m)
  · obtain ⟨its, r, pl, hz⟩ := I1.tuple hq
    exact set_of_tuple (I1.ok.hd hc) (show s1.heap.IsTuple _ its.toArray from pl) (by simpa using strsAre_of r) h1 fun s₂ m => PyProof.Rows.args_nil (fin s₂ m)
end
/-- a strictly rising list is its own sorted set -/
theorem sorted_same {ws : List Wm.L} {ys : List Str} (h : ws.Pairwise (· < ·)) (hp : ys.Pairwise (fun a b => ¬ b.cps.toList < a.cps.toList)) (hn : ys.Nodup) (hm : ∀ y, y ∈ ys ↔ y ∈ ws.map sL) : ys = ws.map sL := by
  have hw : (ws.map sL).Pairwise (fun a b => ¬ b.cps.toList < a.cps.toList) := by
    rw [List.pairwise_map]
    exact h.imp fun {a b} hab hba => List.lt_irrefl a (List.lt_trans hab hba)
  have hwn : (ws.map sL).Nodup := by
    refine List.Pairwise.map _ (fun a b hab e => ?_) h
    have e2 : a = b := congrArg (fun z : Str => z.cps.toList) e
    subst e2
    exact List.lt_irrefl a hab
  refine List.Perm.eq_of_pairwise (le := fun a b => ¬ b.cps.toList < a.cps.toList) (fun a b _ _ h1 h2 => ?_) hp hw ?_
  · have e : a.cps.toList = b.cps.toList := List.le_antisymm (List.not_lt.mp h1) (List.not_lt.mp h2)
    obtain ⟨⟨a⟩⟩ := a
    obtain ⟨⟨b⟩⟩ := b
    have e' : a = b := e
    rw [e']
  · exact (List.perm_ext_iff_of_nodup hn hwn).mpr hm
end Wk
end PartSetT3
section PartCk5
set_option Elab.async false
set_option linter.all false
set_option maxRecDepth 100000
set_option maxHeartbeats 4000000
namespace Wk
open PySem PySem.Spec PyProof.Rows L2
theorem strs_Dp {K : PySem.W.Frag} {H : Hp} : ∀ ws : List Wm.L, DpAll K H (ws.map fun w => V.str (sL w)) (ws.map fun w => PyData.str (sL w))
  | [] => .nil
  | w :: ws => .cons (.str _) (strs_Dp ws)
section
variable {P : Program} {w : World} {K : PySem.W.Frag} {mg : Str → Option Value} {base : Heap} {C B : Addr}
abbrev s_check_target : Stmt := topS 13
abbrev N_check_target : List Str := ["target", "word"]
theorem sc_check_target : FnScope N_check_target ["target"] (defScope s_check_target) := ⟨rfl, rfl, rfl, by decide +kernel, rfl, by decide +kernel, by decide +kernel⟩
theorem ok_check_target (G : Glob K mg) (D : Df K mg "check_target" s_check_target ["target"]) (C_is_word : Cal P w K mg base CX0 1 "is_word" ["text"] sp_is_word) (C_need : Cal P w K mg base CX0 1 "need" ["right", "why"] sp_need2) :
    Cal P w K mg base CX0 3 "check_target" ["target"] sp_check_target := by
  refine D.ok sc_check_target (fun vs H Q E h => ?_) (fun f cdv A outer s H vs Q E hr h => ?_)
  · obtain ⟨v, t, rfl, _⟩ := h
    rfl
  obtain ⟨v, t, rfl, hv, hok, hf, q⟩ := h
  refine ⟨_, (pss_cons (ps_if (pt_cmpR op_eq (pe_ix ix_tup (pv 0) pe_int (fun _ _ => rfl)) pe_str (nomark _))
      (pss_cons (ps_expr (pe_cal C_need (hr.mono (by decide)) pass0 (pa_cons (pe_cal C_is_word (hr.mono (by decide)) pass0 (pa_cons (pe_ix ix_tup (pv 0) pe_int (fun _ _ => rfl)) pa_nil)) (pa_cons pe_str pa_nil))))
      (pss_one ps_retN))
      pss_nil)
    (pss_cons (ps_for PassesOwn.never rfl (pi_tup (pe_ix ix_tup (pv 0) pe_int (fun _ _ => rfl))) (pg_name (i := 1) sc_check_target.nd rfl (Or.inl rfl))
      (pss_one (ps_expr (pe_cal C_need (hr.mono (by decide)) pass0 (pa_cons (pe_cal C_is_word (hr.mono (by decide)) pass0 (pa_cons (pv 1) pa_nil)) (pa_cons pe_str pa_nil))))))
    (pss_one (ps_expr (pe_cal C_need (hr.mono (by decide)) pass0 (pa_cons (pe_cmpR (op_eqD hr.units) (pe_callTy call_list_of rfl G.list boot_list (pa_cons (pe_ix ix_tup (pv 0) pe_int (fun _ _ => rfl)) pa_nil)) (pe_sortedSet G (pe_ix ix_tup (pv 0) pe_int (fun _ _ => rfl))) (nomark _)) (pa_cons pe_str pa_nil))))))), ?_⟩
  cases t with
  | set wd =>
    obtain ⟨a, rfl, ha⟩ := hv
    rw [l_set] at ha
    refine ⟨_, rfl, a, _, 0, _, rfl, rfl, SqT.of ha, rfl, rfl, _, rfl, ?_⟩
    rw [hq l_set (decide_eq_true rfl)]
    exact iteT ⟨_, rfl, a, _, 1, _, rfl, rfl, SqT.of ha, rfl, wd, rfl, hok, nd2 rfl (q H fun _ _ h => h)⟩
  | names ws =>
    obtain ⟨a, b, rfl, ha, hxs⟩ := hv
    rw [l_names] at ha
    refine ⟨_, rfl, a, _, 0, _, rfl, rfl, SqT.of ha, rfl, rfl, _, rfl, ?_⟩
    rw [hq l_set (show decide (_ = _) = false from by decide)]
    refine iteF ?_
    refine ⟨_, rfl, a, _, 1, _, rfl, rfl, SqT.of ha, rfl, b, rfl, ⟨_, SqT.of hxs⟩, for_tup (xs := ws.map fun w => V.str (sL w)) (fun i σ H' => H' = H ∧ ∃ o, σ = [some (.ref a), o]) ⟨rfl, none, rfl⟩ (fun i σ H' _ h => by rw [h.1]; exact SqT.of hxs) ?_ ?_⟩
    · rintro i x σ H' hx ⟨rfl, o, rfl⟩
      rw [List.getElem?_map] at hx
      cases e : ws[i]? with
      | none => rw [e] at hx; cases hx
      | some u =>
        rw [e] at hx
        cases hx
        exact ⟨_, rfl, u, rfl, hok.1 u (List.mem_of_getElem? e), nd2 rfl ⟨rfl, _, rfl⟩⟩
    · rintro σ H' ⟨rfl, o, rfl⟩
      have hlen : ws.length ≤ 4090 := hf
      have em : (ws.map fun w => V.str (sL w)) = (ws.map sL).map V.str := by rw [List.map_map] <;> rfl
      refine ⟨_, rfl, a, _, 1, _, rfl, rfl, SqT.of ha, rfl, b, _, rfl, .inr (SqT.of hxs), fun l hl => ?_⟩
      have ha' : ∀ o : HO, upd H' l o a = some (.tup [.str (sL [110, 97, 109, 101, 115]), .ref b]) := fun o => by rw [upd_ne (ne_of_none ha hl)]; exact ha
      have hb' : ∀ o : HO, upd H' l o b = some (.tup (ws.map fun w => V.str (sL w))) := fun o => by rw [upd_ne (ne_of_none hxs hl)]; exact hxs
      refine ⟨_, rfl, a, _, 1, _, rfl, rfl, SqT.of (ha' _), rfl, b, ws.map sL, rfl, .inr (SqT.of ((hb' _).trans (by rw [em]))), by rw [List.length_map]; unfold scanBound; omega, fun p ys hp h1 h2 h3 h4 => ?_⟩
      have ey := sorted_same hok.2 h1 h2 h3
      subst ey
      have sm : Same H' (upd (upd H' l (.lst (ws.map fun w => V.str (sL w)))) p (.lst ((ws.map sL).map V.str))) := (Same.new hl).trans (Same.new hp)
      have hlp : p ≠ l := fun e => by rw [e, upd_same] at hp; cases hp
      have sh : SeqAt.shaped (.list (ws.map fun w => PyData.str (sL w))) = true := shaped_lst (strs_lay fun w hw => (hok.1 w hw).2) (by rw [strs_depth]; decide)
      refine ⟨.list (ws.map fun w => PyData.str (sL w)), .list (ws.map fun w => PyData.str (sL w)), .lst (SqL.of (by rw [upd_ne (Ne.symm hlp), upd_same])) (strs_Dp ws), .lst (SqL.of (upd_same.trans (by rw [← em]))) (strs_Dp ws), sh, sh, nd2 ?_ (q _ sm)⟩
      rw [PyData.eqv, strs_eqv]
end
end Wk
end PartCk5
section PartWm8
set_option autoImplicit false
set_option linter.all false
namespace Wm
/-! ### lengths -/
theorem sub_len {f : Tk → L} {a b : List Tk} (h : a.Sublist b) : ((a.map f).flatten).length ≤ ((b.map f).flatten).length := by
  induction h with
  | slnil => exact Nat.le_refl _
  | cons t h ih => rw [List.map_cons, List.flatten_cons, List.length_append]; omega
  | cons_cons t h ih => rw [List.map_cons, List.flatten_cons, List.length_append, List.map_cons, List.flatten_cons, List.length_append]; omega
theorem joinC_sub {x : List Tk} : ∀ {l : List (List Tk)}, x ∈ l → x.Sublist (joinC l)
  | [y], h => by rw [List.mem_singleton.mp h] <;> exact List.Sublist.refl _
  | y :: z :: r, h => by
    show x.Sublist (y ++ .mark 44 :: joinC (z :: r))
    rcases List.mem_cons.mp h with e | e
    · rw [e]; exact List.sublist_append_left _ _
    · exact ((joinC_sub e).cons _).trans (List.sublist_append_right _ _)
theorem sub_not (c : Cnd) : (toksC c).Sublist (toksC (.not c)) := by
  rw [toksC]
  exact ((List.sublist_append_left _ _).cons _).cons _
theorem sub_many {b : Bool} {cs : List Cnd} {c : Cnd} (h : c ∈ cs) : (toksC c).Sublist (toksC (.many b cs)) := by
  rw [toksC.eq_3, toksCs_map]
  exact (((joinC_sub (List.mem_map_of_mem h)).trans (List.sublist_append_left _ _)).cons _).cons _
theorem sepT_len (t : Tk) : (sepT t).length ≤ 2 * (tkText t).length := by
  unfold sepT
  by_cases e : t = .mark 44
  · rw [if_pos e, e]; exact Nat.le_refl _
  · rw [if_neg e]; omega
theorem sep_len : ∀ ts : List Tk, (sep ts).length ≤ 2 * (flat ts).length
  | [] => Nat.le_refl _
  | t :: ts => by
    have := sepT_len t
    have := sep_len ts
    rw [sep_cons, flat_cons, List.length_append, List.length_append]
    omega
theorem dval_lt (ds : L) : ds.all isDig = true → dval ds < 10 ^ ds.length := by
  refine snoc_ind (P := fun ds => ds.all isDig = true → dval ds < 10 ^ ds.length) (fun _ => by decide) (fun l d ih h => ?_) ds
  rw [List.all_append, Bool.and_eq_true] at h
  have h1 := ih h.1
  have h2 : isDig d = true := by simpa using h.2
  have h3 := isDig_iff.mp h2
  rw [dval_snoc, List.length_append, List.length_singleton, Nat.pow_succ]
  omega
theorem int_log {n : Int} (h : WF (.int n)) : n.natAbs.log2 < 1920 := by
  obtain ⟨neg, ds, hn, ha, e⟩ := h
  have hl := (numAt_text ha hn).2.2
  have hb : n.natAbs = dval ds := by
    unfold numAt at hn
    cases hb : numBad neg ds with
    | true => rw [hb] at hn; simp at hn
    | false =>
      rw [hb] at hn
      cases neg with
      | true => simp at hn; omega
      | false => simp at hn; omega
  have h1 := dval_lt ds ha
  have h2 : (10 : Nat) ^ ds.length ≤ 10 ^ 60 := Nat.pow_le_pow_right (by decide) hl
  have h3 : (10 : Nat) ^ 60 < 2 ^ 1919 := by decide +kernel
  rw [hb]
  by_cases h0 : dval ds = 0
  · rw [h0]; decide
  · exact Nat.lt_trans ((Nat.log2_lt h0).mpr (by omega : dval ds < 2 ^ 1919)) (by decide)
/-! ### names -/
theorem names_len : ∀ ws : List L, (∀ w ∈ ws, wordOk w) → 4 * ws.length ≤ (flat (joinC (ws.map nameL))).length + 1
  | [], _ => by decide
  | [w], h => by
    have := h w (List.mem_singleton.mpr rfl)
    have h1 : w.length ≠ 0 := fun e => this.1 (List.length_eq_zero_iff.mp e)
    show 4 * 1 ≤ (flat (nameL w)).length + 1
    show 4 * 1 ≤ (34 :: (w ++ [34]) ++ []).length + 1
    simp
    omega
  | w :: x :: r, h => by
    have := h w List.mem_cons_self
    have h1 : w.length ≠ 0 := fun e => this.1 (List.length_eq_zero_iff.mp e)
    have ih := names_len (x :: r) fun u hu => h u (List.mem_cons_of_mem _ hu)
    show 4 * (w :: x :: r).length ≤ (flat (nameL w ++ .mark 44 :: joinC ((x :: r).map nameL))).length + 1
    rw [flat_app, flat_cons, List.length_append, List.length_append]
    have h2 : (flat (nameL w)).length = w.length + 2 := by show (34 :: (w ++ [34]) ++ []).length = _; simp
    have h3 : (tkText (.mark 44)).length = 1 := rfl
    rw [h2, h3, List.length_cons]
    omega
end Wm
end PartWm8
section PartWr1
set_option Elab.async false
set_option linter.all false
set_option maxRecDepth 100000
set_option maxHeartbeats 4000000
namespace Wk
open PySem PySem.Spec PyProof.Rows L2
/-! ### the written text -/
def bigT (ts : List Wm.Tk) : Prop := (Wm.sep ts).length ≤ 1000000 ∧ ∀ n, Wm.Tk.int n ∈ ts → n.natAbs.log2 < 1920
theorem bigT.sub {a b : List Wm.Tk} (h : bigT b) (s : a.Sublist b) : bigT a := ⟨Nat.le_trans (Wm.sub_len (f := Wm.sepT) s) h.1, fun n hn => h.2 n (s.subset hn)⟩
theorem bigT.le {ts : List Wm.Tk} (h : bigT ts) : (Wm.sep ts).length ≤ sizeLine := by rw [sizeLine_eq]; have := h.1; omega
theorem str_itxt (n : Int) : Str.ofString (toString n) = sL (Wm.itxt n) := by
  rw [Str.ofString_eq_toList]
  unfold sL
  congr 1
  congr 1
  unfold Wm.itxt Wm.ndig
  rw [Int.toString_eq_repr, Int.repr_eq_if]
  by_cases h : 0 ≤ n
  · rw [if_pos h, if_neg (by omega), Nat.toList_repr, show n.toNat = n.natAbs by omega]
  · rw [if_neg h, if_pos (by omega), String.toList_append, Nat.toList_repr, List.map_append, show (-n).toNat = n.natAbs by omega] <;> rfl
theorem sL_join (y : List Nat) (xs : List (List Nat)) : Txt.join (sL y) (xs.map sL) = sL (TL.joinL y xs) := by
  refine TL.ext_tl ?_
  rw [TL.join_eq, TL.tl_join, List.map_map]
  show TL.joinL y (xs.map _) = TL.joinL y xs
  congr 1
  exact List.map_id _
theorem joinL_len (y : List Nat) : ∀ xs : List (List Nat), (xs.map List.length).sum + xs.length * y.length ≤ (TL.joinL y xs).length + y.length
  | [] => by simp
  | [x] => by simp [TL.joinL]
  | x :: z :: r => by
    have ih := joinL_len y (z :: r)
    show _ ≤ (x ++ (y ++ TL.joinL y (z :: r))).length + y.length
    rw [List.length_append, List.length_append, List.map_cons, List.sum_cons, List.length_cons, Nat.add_mul]
    omega
theorem sep_joinC : ∀ l : List (List Wm.Tk), Wm.sep (Wm.joinC l) = TL.joinL [44, 32] (l.map Wm.sep)
  | [] => rfl
  | [x] => rfl
  | x :: y :: r => by
    show Wm.sep (x ++ .mark 44 :: Wm.joinC (y :: r)) = Wm.sep x ++ ([44, 32] ++ TL.joinL [44, 32] ((y :: r).map Wm.sep))
    rw [Wm.sep_app, Wm.sep_cons, sep_joinC (y :: r)] <;> rfl
theorem joinL_nil : ∀ xs : List (List Nat), TL.joinL [] xs = xs.flatten
  | [] => rfl
  | [x] => by simp [TL.joinL]
  | x :: y :: r => by
    show x ++ ([] ++ TL.joinL [] (y :: r)) = x ++ (y :: r).flatten
    rw [joinL_nil (y :: r)] <;> rfl
/-- the bound that join asks -/
theorem join_fits {y : List Nat} {xs : List (List Nat)} (h : (TL.joinL y xs).length + y.length ≤ 1000008) : ((xs.map sL).map (·.length)).sum + (xs.map sL).length * (sL y).length ≤ 16777216 := by
  have := joinL_len y xs
  rw [List.map_map, List.length_map]
  show (xs.map List.length).sum + xs.length * y.length ≤ _
  omega
theorem few_joined {y : List Nat} {xs : List (List Nat)} (hy : 0 < y.length) (h : (TL.joinL y xs).length + y.length ≤ 1000008) : xs.length ≤ 1000008 := by
  have := joinL_len y xs
  have h2 : xs.length * 1 ≤ xs.length * y.length := Nat.mul_le_mul_left _ hy
  omega
theorem l_quote : Str.ofString "\"" = sL [34] := by decide +kernel
theorem l_sep : Str.ofString ", " = sL [44, 32] := by decide +kernel
theorem l_zero : Str.ofString "0" = sL [48] := by decide +kernel
theorem sepT_name (w : Wm.L) : Wm.sepT (.name w) = 34 :: (w ++ [34]) := rfl
theorem sepT_word (w : Wm.L) : Wm.sepT (.word w) = w := rfl
theorem sepT_int (n : Int) : Wm.sepT (.int n) = Wm.itxt n := rfl
theorem sep_one (t : Wm.Tk) : Wm.sep [t] = Wm.sepT t := by rw [Wm.sep_cons]; exact List.append_nil _
section
variable {P : Program} {w : World} {K : PySem.W.Frag} {mg : Str → Option Value} {base : Heap} {C B : Addr}
abbrev s_write_term : Stmt := topS 41
abbrev N_write_term : List Str := ["term"]
theorem sc_write_term : FnScope N_write_term ["term"] (defScope s_write_term) := ⟨rfl, rfl, rfl, by decide +kernel, rfl, by decide +kernel, by decide +kernel⟩
def sp_write_term : Sp := fun vs H Q _ => ∃ (v : V) (t : Wm.Trm), vs = [v] ∧ TrmV H v t ∧ bigT (Wm.toksT t) ∧ Q (.str (sL (Wm.sep (Wm.toksT t)))) H
theorem ok_write_term (G : Glob K mg) (D : Df K mg "write_term" s_write_term ["term"]) : Cal P w K mg base CX0 1 "write_term" ["term"] sp_write_term := by
  refine D.ok sc_write_term (fun vs H Q E h => ?_) (fun f cdv A outer s H vs Q E hr h => ?_)
  · obtain ⟨v, t, rfl, _⟩ := h
    rfl
  obtain ⟨v, t, rfl, hv, hb, q⟩ := h
  refine ⟨_, (pss_cons (ps_if (pt_cmpR op_eq (pe_ix ix_tup (pv 0) pe_int (fun _ _ => rfl)) pe_str (nomark _))
      (pss_one (ps_ret (pe_op op_add_str (pe_op op_add_str pe_str (pe_ix ix_tup (pv 0) pe_int (fun _ _ => rfl))) pe_str)))
      pss_nil)
    (pss_cons (ps_if (pt_cmpR op_eq (pe_ix ix_tup (pv 0) pe_int (fun _ _ => rfl)) pe_str (nomark _))
      (pss_one (ps_ret (pe_ix ix_tup (pv 0) pe_int (fun _ _ => rfl))))
      pss_nil)
    (pss_one (ps_ret (pe_op op_add_str (pe_op op_add_str (pe_ix ix_tup (pv 0) pe_int (fun _ _ => rfl)) pe_str) (pe_callTy call_str_int rfl G.str boot_str (pa_cons (pe_ix ix_tup (pv 0) pe_int (fun _ _ => rfl)) pa_nil))))))), ?_⟩
  have d1 : (Str.ofString "field" : Str) ≠ Str.ofString "name" := by decide +kernel
  have d2 : (Str.ofString "part" : Str) ≠ Str.ofString "name" := by decide +kernel
  have d3 : (Str.ofString "part" : Str) ≠ Str.ofString "field" := by decide +kernel
  have hz := hb.le
  cases t with
  | nm wd =>
    obtain ⟨a, rfl, ha⟩ := hv
    refine ⟨_, rfl, a, _, 0, _, rfl, rfl, SqT.of ha, rfl, rfl, _, rfl, ?_⟩
    rw [dec_str', decide_eq_true rfl]
    have e : Wm.sep (Wm.toksT (.nm wd)) = [34] ++ wd ++ [34] := (sep_one _).trans rfl
    rw [e, List.length_append, List.length_append] at hz
    refine iteT ⟨_, rfl, a, _, 1, _, rfl, rfl, SqT.of ha, rfl, _, _, rfl, rfl, ?_, _, _, rfl, rfl, ?_, ?_⟩
    · rw [l_quote, len_sL, len_sL]; omega
    · rw [l_quote, sL_app, len_sL, len_sL, List.length_append]; omega
    · rw [l_quote, sL_app, sL_app, ← e]; exact q
  | fld wd =>
    obtain ⟨a, rfl, ha⟩ := hv
    refine ⟨_, rfl, a, _, 0, _, rfl, rfl, SqT.of ha, rfl, rfl, _, rfl, ?_⟩
    rw [dec_str', decide_eq_false d1]
    refine iteF ?_
    refine ⟨_, rfl, a, _, 0, _, rfl, rfl, SqT.of ha, rfl, rfl, _, rfl, ?_⟩
    rw [dec_str', decide_eq_true rfl]
    refine iteT ⟨_, rfl, a, _, 1, _, rfl, rfl, SqT.of ha, rfl, ?_⟩
    have e : Wm.sep (Wm.toksT (.fld wd)) = wd := (sep_one _).trans rfl
    rw [e] at q
    exact q
  | part wd n =>
    obtain ⟨a, rfl, ha⟩ := hv
    refine ⟨_, rfl, a, _, 0, _, rfl, rfl, SqT.of ha, rfl, rfl, _, rfl, ?_⟩
    rw [dec_str', decide_eq_false d2]
    refine iteF ?_
    refine ⟨_, rfl, a, _, 0, _, rfl, rfl, SqT.of ha, rfl, rfl, _, rfl, ?_⟩
    rw [dec_str', decide_eq_false d3]
    refine iteF ?_
    have e : Wm.sep (Wm.toksT (.part wd n)) = wd ++ [46] ++ Wm.itxt n := by
      show Wm.sepT (.word wd) ++ (Wm.sepT (.mark 46) ++ (Wm.sepT (.int n) ++ [])) = _
      rw [List.append_nil, List.append_assoc] <;> rfl
    rw [e, List.length_append, List.length_append] at hz
    have hi : ((n : Int)).natAbs.log2 < 1920 := hb.2 n (by simp [Wm.toksT])
    refine ⟨_, rfl, a, _, 1, _, rfl, rfl, SqT.of ha, rfl, _, _, rfl, rfl, ?_, _, rfl, a, _, 2, _, rfl, rfl, SqT.of ha, rfl, _, rfl, hi, _, _, rfl, rfl, ?_, ?_⟩
    · rw [l_dot, len_sL, len_sL]; omega
    · rw [l_dot, sL_app, str_itxt, len_sL, len_sL, List.length_append]; omega
    · rw [l_dot, sL_app, str_itxt, sL_app, ← e]; exact q
abbrev s_write_number_field : Stmt := topS 44
abbrev N_write_number_field : List Str := ["field"]
theorem sc_write_number_field : FnScope N_write_number_field ["field"] (defScope s_write_number_field) := ⟨rfl, rfl, rfl, by decide +kernel, rfl, by decide +kernel, by decide +kernel⟩
def sp_write_number_field : Sp := fun vs H Q _ => ∃ x : Wm.L, vs = [.str (sL x)] ∧ Q (.str (sL (Wm.sep (Wm.numT x)))) H
theorem ok_write_number_field (D : Df K mg "write_number_field" s_write_number_field ["field"]) : Cal P w K mg base CX0 1 "write_number_field" ["field"] sp_write_number_field := by
  refine D.ok sc_write_number_field (fun vs H Q E h => ?_) (fun f cdv A outer s H vs Q E hr h => ?_)
  · obtain ⟨x, rfl, _⟩ := h
    rfl
  obtain ⟨x, rfl, q⟩ := h
  refine ⟨_, (pss_cons (ps_if (pt_cmpR op_eq (pv 0) pe_str (nomark _))
      (pss_one (ps_ret pe_str))
      pss_nil)
    (pss_one (ps_ret (pv 0)))), ?_⟩
  refine ⟨_, rfl, rfl, _, rfl, ?_⟩
  rw [nil_str, dec_sL]
  unfold Wm.numT at q
  by_cases e : x = []
  · rw [decide_eq_true e]
    rw [if_pos e, sep_one, sepT_int] at q
    refine iteT ?_
    show Q (.str (Str.ofString "0")) H
    rw [l_zero]
    exact q
  · rw [decide_eq_false e]
    rw [if_neg e, sep_one, sepT_word] at q
    exact iteF ⟨_, rfl, q⟩
end
end Wk
end PartWr1
section PartWr2
set_option Elab.async false
set_option linter.all false
set_option maxRecDepth 100000
set_option maxHeartbeats 4000000
namespace Wk
open PySem PySem.Spec PyProof.Rows L2
/-- [f(x) for x in a tuple], each item made apart -/
theorem lc_map {K : PySem.W.Frag} {a : Addr} {xs ys : List V} {gi : Nat} {te : TE} {vs : List Nat} {σ : L2.St} {H1 : Hp} {D : Addr} {Qd : Hp → Prop} (hlen : ys.length = xs.length) (few : xs.length ≤ sizeLine) (ha : H1 a = some (.tup xs)) (hD : H1 D = none)
    (hw : ∀ x, wipe ((wipe σ vs).set gi (some x)) vs = wipe σ vs)
    (hs : ∀ (i : Nat) (x y : V) (H' : Hp), xs[i]? = some x → ys[i]? = some y → Same H1 H' → ∀ R : VK, (∀ H'', Same H' H'' → R y H'') → te ((wipe σ vs).set gi (some x)) H' R)
    (hd : ∀ H', Same H1 H' → H' D = some (.lst ys) → Qd H') :
    ∃ W : Nat → Nat → Hp → Prop, (∃ m, W 0 m (upd H1 D (.lst []))) ∧ ∀ i m H, W i m H →
      ((Itt K a).stop i H ∧ Qd H) ∨ ((Itt K a).go i H ∧ ∃ Nx : Hp → Prop, (∀ H', Nx H' → ∃ m', m' < m ∧ W (i + 1) m' H') ∧ ∀ x H', (Itt K a).yld i H x H' → gName gi x (wipe σ vs) H' fun σ2 H2 => wipe σ2 vs = wipe σ vs ∧ tYes σ2 H2 fun b H3 =>
        if b = true then te σ2 H3 fun y H4 => ∃ acc, H4 D = some (.lst acc) ∧ acc.length < sizeLine ∧ Nx (upd H4 D (.lst (acc ++ [y]))) else Nx H3) := by
  refine lc_tup (K := K) (xs := xs) (Qd := Qd) (fun i H' => Same H1 H' ∧ H' D = some (.lst (ys.take i))) ⟨Same.new hD, upd_same⟩ (fun i H' _ h => SqT.of (h.1 _ _ ha)) ?_ ?_
  · rintro i x H' hx ⟨sm, hl⟩
    have hlt : i < ys.length := by rw [hlen]; exact (List.getElem?_eq_some_iff.mp hx).1
    have hy : ys[i]? = some ys[i] := List.getElem?_eq_getElem hlt
    refine ⟨hw x, ?_⟩
    have z := hs i x ys[i] H' hx hy sm (fun y H4 => ∃ acc, H4 D = some (.lst acc) ∧ acc.length < sizeLine ∧ (Same H1 (upd H4 D (.lst (acc ++ [y]))) ∧ upd H4 D (.lst (acc ++ [y])) D = some (.lst (ys.take (i + 1))))) fun H'' s2 => ⟨_, s2 _ _ hl, ?_, Same.put (sm.trans s2) hD, ?_⟩
    · exact z
    · rw [List.length_take]; omega
    · rw [upd_same, List.take_add_one, hy] <;> rfl
  · rintro H' ⟨sm, hl⟩
    refine hd H' sm ?_
    rw [← hlen, List.take_length] at hl
    exact hl
theorem l_unb : Str.ofString "}" = sL [125] := by decide +kernel
theorem map_get {α β : Type} {f : α → β} {l : List α} {i : Nat} {x : β} (h : (l.map f)[i]? = some x) : ∃ y, l[i]? = some y ∧ x = f y := by
  rw [List.getElem?_map] at h
  cases e : l[i]? with
  | none => rw [e] at h; cases h
  | some y => rw [e] at h; cases h; exact ⟨y, rfl, rfl⟩
theorem tmpl_len : ∀ ts : List Wm.Trm, ts.length ≤ (Wm.sep (Wm.tmplT ts)).length
  | [] => Nat.zero_le _
  | t :: ts => by
    have ih := tmpl_len ts
    show _ ≤ (Wm.sep ((.mark 47 :: Wm.toksT t) ++ Wm.tmplT ts)).length
    rw [Wm.sep_app, Wm.sep_cons, List.length_append, List.length_append, List.length_cons]
    have : (Wm.sepT (.mark 47)).length = 1 := rfl
    omega
theorem tmpl_sep : ∀ ts : List Wm.Trm, Wm.sep (Wm.tmplT ts) = (ts.map fun t => [47] ++ Wm.sep (Wm.toksT t)).flatten
  | [] => rfl
  | t :: ts => by
    show Wm.sep ((.mark 47 :: Wm.toksT t) ++ Wm.tmplT ts) = ([47] ++ Wm.sep (Wm.toksT t)) ++ _
    rw [Wm.sep_app, Wm.sep_cons, tmpl_sep ts] <;> rfl
theorem tmpl_sub {t : Wm.Trm} : ∀ {ts : List Wm.Trm}, t ∈ ts → (Wm.Tk.mark 47 :: Wm.toksT t).Sublist (Wm.tmplT ts)
  | u :: ts, h => by
    show (Wm.Tk.mark 47 :: Wm.toksT t).Sublist ((.mark 47 :: Wm.toksT u) ++ Wm.tmplT ts)
    rcases List.mem_cons.mp h with e | e
    · rw [e]; exact List.sublist_append_left _ _
    · exact (tmpl_sub e).trans (List.sublist_append_right _ _)
section
variable {P : Program} {w : World} {K : PySem.W.Frag} {mg : Str → Option Value} {base : Heap} {C B : Addr}
abbrev s_write_target : Stmt := topS 42
abbrev N_write_target : List Str := ["target", "word"]
theorem sc_write_target : FnScope N_write_target ["target"] (defScope s_write_target) := ⟨rfl, rfl, rfl, by decide +kernel, rfl, by decide +kernel, by decide +kernel⟩
def sp_write_target : Sp := fun vs H Q _ => ∃ (v : V) (g : Wm.Tgt), vs = [v] ∧ TgtV H v g ∧ bigT (Wm.toksG g) ∧ ∀ H', Same H H' → Q (.str (sL (Wm.sep (Wm.toksG g)))) H'
theorem ok_write_target (G : Glob K mg) (D : Df K mg "write_target" s_write_target ["target"]) (C_write_term : Cal P w K mg base CX0 1 "write_term" ["term"] sp_write_term) : Cal P w K mg base CX0 2 "write_target" ["target"] sp_write_target := by
  refine D.ok sc_write_target (fun vs H Q E h => ?_) (fun f cdv A outer s H vs Q E hr h => ?_)
  · obtain ⟨v, g, rfl, _⟩ := h
    rfl
  obtain ⟨v, g, rfl, hv, hb, q⟩ := h
  refine ⟨_, (pss_cons (ps_if (pt_cmpR op_eq (pe_ix ix_tup (pv 0) pe_int (fun _ _ => rfl)) pe_str (nomark _))
      (pss_one (ps_ret (pe_ix ix_tup (pv 0) pe_int (fun _ _ => rfl))))
      pss_nil)
    (pss_one (ps_ret (pe_op op_add_str (pe_op op_add_str pe_str (pe_join pe_str (pe_lc (own := [("word", 1)]) (g := gName 1) (tt := tYes) rfl sc_write_target.nd (pi_tup (pe_ix ix_tup (pv 0) pe_int (fun _ _ => rfl))) (blkOk_by (N := N_write_target) (sc := defScope s_write_target) (by decide +kernel)) (fun _ _ _ _ _ => pg_name (i := 1) sc_write_target.nd rfl (Or.inl rfl)) (fun _ _ _ _ _ => pts_nil) (fun _ _ _ _ _ => (pe_cal C_write_term (hr.mono (by decide)) pass0 (pa_cons (pe_tup (pa_cons pe_str (pa_cons (pv 1) pa_nil))) pa_nil)))))) pe_str)))), ?_⟩
  have hz := hb.le
  cases g with
  | set wd =>
    obtain ⟨a, rfl, ha⟩ := hv
    rw [l_set] at ha
    refine ⟨_, rfl, a, _, 0, _, rfl, rfl, SqT.of ha, rfl, rfl, _, rfl, ?_⟩
    rw [hq l_set (decide_eq_true rfl)]
    refine iteT ⟨_, rfl, a, _, 1, _, rfl, rfl, SqT.of ha, rfl, ?_⟩
    have e : Wm.sep (Wm.toksG (.set wd)) = wd := (sep_one _).trans rfl
    have z := q H fun _ _ h => h
    rw [e] at z
    exact z
  | names ws =>
    obtain ⟨a, b, rfl, ha, hxs⟩ := hv
    rw [l_names] at ha
    refine ⟨_, rfl, a, _, 0, _, rfl, rfl, SqT.of ha, rfl, rfl, _, rfl, ?_⟩
    rw [hq l_set (show decide (_ = _) = false from by decide)]
    refine iteF ?_
    have e : Wm.sep (Wm.toksG (.names ws)) = [123] ++ TL.joinL [44, 32] (ws.map fun x => Wm.sep (Wm.nameL x)) ++ [125] := by
      show Wm.sep (.mark 123 :: (Wm.joinC (ws.map Wm.nameL) ++ [.mark 125])) = _
      rw [Wm.sep_cons, Wm.sep_app, sep_joinC, List.map_map, sep_one, List.append_assoc] <;> rfl
    have hl := hb.1
    rw [e, List.length_append, List.length_append] at hl
    have h1 : ([123] : List Nat).length = 1 := rfl
    have h2 : ([125] : List Nat).length = 1 := rfl
    have h3 : ([44, 32] : List Nat).length = 2 := rfl
    have few := few_joined (y := [44, 32]) (by decide) (show (TL.joinL [44, 32] (ws.map fun x => Wm.sep (Wm.nameL x))).length + ([44, 32] : List Nat).length ≤ 1000008 by omega)
    rw [List.length_map] at few
    refine ⟨⟨_, rfl⟩, _, rfl, a, _, 1, _, rfl, rfl, SqT.of ha, rfl, b, rfl, ⟨_, SqT.of hxs⟩, fun D hD => ?_⟩
    refine lc_map (ys := ((ws.map fun x => Wm.sep (Wm.nameL x)).map sL).map V.str) (by simp) (by rw [List.length_map, sizeLine_eq]; omega) hxs hD ?_ ?_ ?_
    · intro x; rfl
    · intro i x y H' hx hy sm R hR
      obtain ⟨u, hu, rfl⟩ := map_get hx
      rw [List.map_map, List.map_map] at hy
      obtain ⟨u', hu', rfl⟩ := map_get hy
      rw [hu] at hu'
      cases hu'
      refine ⟨_, rfl, (by show 2 ≤ sizeLine; decide), fun p hp => ?_⟩
      refine ⟨.ref p, .nm u, rfl, ⟨p, rfl, upd_same⟩, ?_, hR _ (Same.new hp)⟩
      refine hb.sub ?_
      show (Wm.nameL u).Sublist (.mark 123 :: (Wm.joinC (ws.map Wm.nameL) ++ [.mark 125]))
      exact ((Wm.joinC_sub (List.mem_map_of_mem (List.mem_of_getElem? hu))).trans (List.sublist_append_left _ _)).cons _
    · intro H' sm hD'
      refine ⟨_, D, (ws.map fun x => Wm.sep (Wm.nameL x)).map sL, congrArg V.str l_sep, rfl, .inl (SqL.of hD'), join_fits (by omega), ?_⟩
      rw [sL_join]
      refine ⟨_, _, rfl, rfl, ?_, _, _, rfl, rfl, ?_, ?_⟩
      · rw [l_brace, len_sL, len_sL, sizeLine_eq]; omega
      · rw [l_brace, l_unb, sL_app, len_sL, len_sL, List.length_append, sizeLine_eq]; omega
      · rw [l_brace, l_unb, sL_app, sL_app, ← e]; exact q H' sm
abbrev s_write_template : Stmt := topS 43
abbrev N_write_template : List Str := ["template", "term"]
theorem sc_write_template : FnScope N_write_template ["template"] (defScope s_write_template) := ⟨rfl, rfl, rfl, by decide +kernel, rfl, by decide +kernel, by decide +kernel⟩
def sp_write_template : Sp := fun vs H Q _ => ∃ (b : Addr) (xs : List V) (ts : List Wm.Trm), vs = [.ref b] ∧ H b = some (.tup xs) ∧ TrmsV H xs ts ∧ bigT (Wm.pathT ts) ∧ ∀ H', Same H H' → Q (.str (sL (Wm.sep (Wm.pathT ts)))) H'
theorem ok_write_template (G : Glob K mg) (D : Df K mg "write_template" s_write_template ["template"]) (C_write_term : Cal P w K mg base CX0 1 "write_term" ["term"] sp_write_term) : Cal P w K mg base CX0 2 "write_template" ["template"] sp_write_template := by
  refine D.ok sc_write_template (fun vs H Q E h => ?_) (fun f cdv A outer s H vs Q E hr h => ?_)
  · obtain ⟨b, xs, ts, rfl, _⟩ := h
    rfl
  obtain ⟨b, xs, ts, rfl, hxs, hts, hb, q⟩ := h
  refine ⟨_, (pss_cons (ps_if (pt_cmpR op_eq (pe_callB call_len_seq rfl G.len PySem.boot_len (pa_cons (pv 0) pa_nil)) pe_int (nomark _))
      (pss_one (ps_ret pe_str))
      pss_nil)
    (pss_one (ps_ret (pe_join pe_str (pe_lc (own := [("term", 1)]) (g := gName 1) (tt := tYes) rfl sc_write_template.nd (pi_tup (pv 0)) (blkOk_by (N := N_write_template) (sc := defScope s_write_template) (by decide +kernel)) (fun _ _ _ _ _ => pg_name (i := 1) sc_write_template.nd rfl (Or.inl rfl)) (fun _ _ _ _ _ => pts_nil) (fun _ _ _ _ _ => (pe_op op_add_str pe_str (pe_cal C_write_term (hr.mono (by decide)) pass0 (pa_cons (pv 1) pa_nil))))))))), ?_⟩
  have hlen := hts.len
  refine ⟨_, rfl, b, xs, rfl, .inr (SqT.of hxs), rfl, _, rfl, ?_⟩
  unfold Wm.pathT at q hb
  by_cases e : ts = []
  · rw [show decide (V.int (xs.length : Int) = V.int 0) = true from decide_eq_true (by rw [hlen, e] <;> rfl)]
    rw [if_pos e, sep_one] at q
    refine iteT ?_
    have z := q H fun _ _ h => h
    show Q (.str (Str.ofString "/")) H
    rw [l_slash]
    exact z
  · have hne : ¬ V.int (xs.length : Int) = V.int 0 := fun z => e (List.length_eq_zero_iff.mp (by have := V.int.inj z; omega))
    rw [decide_eq_false hne]
    rw [if_neg e] at q hb
    refine iteF ?_
    have hz := hb.1
    have few := tmpl_len ts
    refine ⟨⟨_, rfl⟩, _, rfl, b, rfl, ⟨_, SqT.of hxs⟩, fun D hD => ?_⟩
    refine lc_map (ys := ((ts.map fun t => [47] ++ Wm.sep (Wm.toksT t)).map sL).map V.str) (by simp [hlen]) (by rw [hlen, sizeLine_eq]; omega) hxs hD ?_ ?_ ?_
    · intro x; rfl
    · intro i x y H' hx hy sm R hR
      obtain ⟨t, ht, hv⟩ := hts.get hx
      rw [List.map_map, List.map_map] at hy
      obtain ⟨t', ht', rfl⟩ := map_get hy
      rw [ht] at ht'
      cases ht'
      have b1 : bigT (.mark 47 :: Wm.toksT t) := hb.sub (tmpl_sub (List.mem_of_getElem? ht))
      have b2 : bigT (Wm.toksT t) := b1.sub (List.Sublist.refl _ |>.cons _)
      refine ⟨_, rfl, x, t, rfl, hv.keep (Same.tups sm), b2, _, _, rfl, rfl, ?_, ?_⟩
      · have := b2.1
        rw [l_slash, len_sL, len_sL, sizeLine_eq]
        show 1 + _ ≤ _
        omega
      · rw [l_slash, sL_app]
        exact hR _ fun _ _ h => h
    · intro H' sm hD'
      refine ⟨_, D, (ts.map fun t => [47] ++ Wm.sep (Wm.toksT t)).map sL, congrArg V.str nil_str, rfl, .inl (SqL.of hD'), ?_, ?_⟩
      · refine join_fits ?_
        rw [joinL_nil, ← tmpl_sep]
        show _ + 0 ≤ _
        omega
      · rw [sL_join, joinL_nil, ← tmpl_sep]
        exact q H' sm
end
end Wk
end PartWr2
section PartWr3
set_option Elab.async false
set_option linter.all false
set_option maxRecDepth 100000
set_option maxHeartbeats 4000000
namespace Wk
open PySem PySem.Spec PyProof.Rows L2
section
variable {P : Program} {w : World} {K : PySem.W.Frag} {mg : Str → Option Value} {base : Heap} {C B : Addr}
abbrev s_simple_items : Stmt := topS 45
abbrev N_simple_items : List Str := ["condition", "kind"]
theorem sc_simple_items : FnScope N_simple_items ["condition"] (defScope s_simple_items) := ⟨rfl, rfl, rfl, by decide +kernel, rfl, by decide +kernel, by decide +kernel⟩
def notYN : Wm.Smp → Prop
  | .tt => False | .ff => False | _ => True
/-- a list of texts -/
def txtV (ys : List Wm.L) : List V := (ys.map sL).map V.str
def sp_simple_items : Sp := fun vs H Q _ => ∃ (v : V) (s : Wm.Smp), vs = [v] ∧ SmpV H v s ∧ notYN s ∧ bigT (Wm.toksB s) ∧ ∀ l H' ys, Same H H' → H' l = some (.lst (txtV ys)) → TL.joinL [44, 32] ys = Wm.sep (Wm.toksB s) → Q (.ref l) H'
theorem two_join (x y : Wm.L) : TL.joinL [44, 32] [x, y] = x ++ ([44, 32] ++ y) := rfl
theorem sep_comma : Wm.sepT (.mark 44) = [44, 32] := rfl
theorem ok_simple_items (G : Glob K mg) (D : Df K mg "simple_items" s_simple_items ["condition"]) (C_write_term : Cal P w K mg base CX0 1 "write_term" ["term"] sp_write_term) (C_write_target : Cal P w K mg base CX0 2 "write_target" ["target"] sp_write_target)
    (C_write_template : Cal P w K mg base CX0 2 "write_template" ["template"] sp_write_template) (C_write_number_field : Cal P w K mg base CX0 1 "write_number_field" ["field"] sp_write_number_field) : Cal P w K mg base CX0 3 "simple_items" ["condition"] sp_simple_items := by
  refine D.ok sc_simple_items (fun vs H Q E h => ?_) (fun f cdv A outer s H vs Q E hr h => ?_)
  · obtain ⟨v, s, rfl, _⟩ := h
    rfl
  obtain ⟨v, s, rfl, hv, hn, hb, q⟩ := h
  refine ⟨_, (pss_cons (ps_set (i := 1) sc_simple_items.nd rfl (Or.inl rfl) (pe_ix ix_tup (pv 0) pe_int (fun _ _ => rfl)))
    (pss_cons (ps_if (pt_cmpR op_eq (pv 1) pe_str (nomark _))
      (pss_one (ps_ret (pe_lst (pa_cons (pe_cal C_write_term (hr.mono (by decide)) pass0 (pa_cons (pe_ix ix_tup (pv 0) pe_int (fun _ _ => rfl)) pa_nil)) (pa_cons (pe_cal C_write_term (hr.mono (by decide)) pass0 (pa_cons (pe_ix ix_tup (pv 0) pe_int (fun _ _ => rfl)) pa_nil)) pa_nil)))))
      pss_nil)
    (pss_cons (ps_if (PW.pt (pw_or (pt_cmpR op_eq (pv 1) pe_str (nomark _)) (pw_or1 (pt_cmpR op_eq (pv 1) pe_str (nomark _)))))
      (pss_one (ps_ret (pe_lst (pa_cons (pe_cal C_write_term (hr.mono (by decide)) pass0 (pa_cons (pe_ix ix_tup (pv 0) pe_int (fun _ _ => rfl)) pa_nil)) (pa_cons (pe_ix ix_tup (pv 0) pe_int (fun _ _ => rfl)) pa_nil)))))
      pss_nil)
    (pss_cons (ps_if (pt_cmpR op_eq (pv 1) pe_str (nomark _))
      (pss_one (ps_ret (pe_lst (pa_cons (pe_ix ix_tup (pv 0) pe_int (fun _ _ => rfl)) (pa_cons (pe_cal C_write_target (hr.mono (by decide)) pass0 (pa_cons (pe_ix ix_tup (pv 0) pe_int (fun _ _ => rfl)) pa_nil)) pa_nil)))))
      pss_nil)
    (pss_cons (ps_if (pt_cmpR op_eq (pv 1) pe_str (nomark _))
      (pss_one (ps_ret (pe_lst (pa_cons (pe_cal C_write_number_field (hr.mono (by decide)) pass0 (pa_cons (pe_ix ix_tup (pv 0) pe_int (fun _ _ => rfl)) pa_nil)) (pa_cons (pe_cal C_write_number_field (hr.mono (by decide)) pass0 (pa_cons (pe_ix ix_tup (pv 0) pe_int (fun _ _ => rfl)) pa_nil)) (pa_cons (pe_callTy call_str_int rfl G.str boot_str (pa_cons (pe_ix ix_tup (pv 0) pe_int (fun _ _ => rfl)) pa_nil)) pa_nil))))))
      pss_nil)
    (pss_one (ps_ret (pe_lst (pa_cons (pe_ix ix_tup (pv 0) pe_int (fun _ _ => rfl)) (pa_cons (pe_cal C_write_template (hr.mono (by decide)) pass0 (pa_cons (pe_ix ix_tup (pv 0) pe_int (fun _ _ => rfl)) pa_nil)) pa_nil)))))))))), ?_⟩
  have fits2 : ∀ {a b : V}, ([a, b] : List V).length ≤ sizeLine := by intro a b; show 2 ≤ sizeLine; decide
  have fits3 : ∀ {a b c : V}, ([a, b, c] : List V).length ≤ sizeLine := by intro a b c; show 3 ≤ sizeLine; decide
  cases s with
  | tt => exact hn.elim
  | ff => exact hn.elim
  | is t u =>
    obtain ⟨a, x, y, rfl, ha, hx, hy⟩ := hv
    refine ⟨_, rfl, a, _, 0, _, rfl, rfl, SqT.of ha, rfl, ?_⟩
    refine ⟨_, rfl, rfl, _, rfl, ?_⟩
    rw [hq l_is (show decide (Wm.wIs = Wm.wIs) = true from by decide)]
    refine iteT ?_

    have b1 : bigT (Wm.toksT t) := hb.sub (List.sublist_append_left _ _)
    have b2 : bigT (Wm.toksT u) := hb.sub (((List.Sublist.refl _).cons _).trans (List.sublist_append_right _ _))
    refine ⟨_, rfl, a, _, 1, _, rfl, rfl, SqT.of ha, rfl, x, t, rfl, hx, b1, _, rfl, a, _, 2, _, rfl, rfl, SqT.of ha, rfl, y, u, rfl, hy, b2, fits2, fun p hp => ?_⟩
    refine q p _ [_, _] (Same.new hp) upd_same ?_
    rw [two_join]
    show _ = Wm.sep (Wm.toksT t ++ .mark 44 :: Wm.toksT u)
    rw [Wm.sep_app, Wm.sep_cons, sep_comma]
  | inn t g =>
    obtain ⟨a, x, rfl, ha, hx⟩ := hv
    refine ⟨_, rfl, a, _, 0, _, rfl, rfl, SqT.of ha, rfl, ?_⟩
    refine ⟨_, rfl, rfl, _, rfl, ?_⟩
    rw [hq l_is (show decide (Wm.wIn = Wm.wIs) = false from by decide)]
    refine iteF ?_
    refine ⟨_, rfl, rfl, _, rfl, ?_⟩
    rw [hq l_in (show decide (Wm.wIn = Wm.wIn) = true from by decide)]
    refine iteT ?_

    have b1 : bigT (Wm.toksT t) := hb.sub (List.sublist_append_left _ _)
    refine iteT ⟨_, rfl, a, _, 1, _, rfl, rfl, SqT.of ha, rfl, x, t, rfl, hx, b1, _, rfl, a, _, 2, _, rfl, rfl, SqT.of ha, rfl, fits2, fun p hp => ?_⟩
    refine q p _ [_, _] (Same.new hp) upd_same ?_
    rw [two_join]
    show _ = Wm.sep (Wm.toksT t ++ [.mark 44, .word g])
    rw [Wm.sep_app, Wm.sep_cons, sep_comma, sep_one] <;> rfl
  | mem t g =>
    obtain ⟨a, x, rfl, ha, hx⟩ := hv
    refine ⟨_, rfl, a, _, 0, _, rfl, rfl, SqT.of ha, rfl, ?_⟩
    refine ⟨_, rfl, rfl, _, rfl, ?_⟩
    rw [hq l_is (show decide (Wm.wMember = Wm.wIs) = false from by decide)]
    refine iteF ?_
    refine ⟨_, rfl, rfl, _, rfl, ?_⟩
    rw [hq l_in (show decide (Wm.wMember = Wm.wIn) = false from by decide)]
    refine iteF ?_
    refine ⟨_, rfl, rfl, _, rfl, ?_⟩
    rw [hq l_member (show decide (Wm.wMember = Wm.wMember) = true from by decide)]
    refine iteT ?_

    have b1 : bigT (Wm.toksT t) := hb.sub (List.sublist_append_left _ _)
    refine ⟨_, rfl, a, _, 1, _, rfl, rfl, SqT.of ha, rfl, x, t, rfl, hx, b1, _, rfl, a, _, 2, _, rfl, rfl, SqT.of ha, rfl, fits2, fun p hp => ?_⟩
    refine q p _ [_, _] (Same.new hp) upd_same ?_
    rw [two_join]
    show _ = Wm.sep (Wm.toksT t ++ [.mark 44, .word g])
    rw [Wm.sep_app, Wm.sep_cons, sep_comma, sep_one] <;> rfl
  | within g t =>
    obtain ⟨a, x, rfl, ha, hx⟩ := hv
    refine ⟨_, rfl, a, _, 0, _, rfl, rfl, SqT.of ha, rfl, ?_⟩
    refine ⟨_, rfl, rfl, _, rfl, ?_⟩
    rw [hq l_is (show decide (Wm.wWithin = Wm.wIs) = false from by decide)]
    refine iteF ?_
    refine ⟨_, rfl, rfl, _, rfl, ?_⟩
    rw [hq l_in (show decide (Wm.wWithin = Wm.wIn) = false from by decide)]
    refine iteF ?_
    refine ⟨_, rfl, rfl, _, rfl, ?_⟩
    rw [hq l_member (show decide (Wm.wWithin = Wm.wMember) = false from by decide)]
    refine iteF ?_
    refine ⟨_, rfl, rfl, _, rfl, ?_⟩
    rw [hq l_within (show decide (Wm.wWithin = Wm.wWithin) = true from by decide)]
    refine iteT ?_

    have b2 : bigT (Wm.toksG t) := hb.sub (((List.Sublist.refl _).cons _).cons _)
    refine ⟨_, rfl, a, _, 1, _, rfl, rfl, SqT.of ha, rfl, _, rfl, a, _, 2, _, rfl, rfl, SqT.of ha, rfl, x, t, rfl, hx, b2, fun H' sm => ⟨fits2, fun p hp => ?_⟩⟩
    refine q p _ [g, _] (sm.trans (Same.new hp)) upd_same ?_
    rw [two_join]
    show _ = Wm.sep (.word g :: .mark 44 :: Wm.toksG t)
    rw [Wm.sep_cons, Wm.sep_cons, sep_comma] <;> rfl
  | most x y c =>
    obtain ⟨a, rfl, ha⟩ := hv
    refine ⟨_, rfl, a, _, 0, _, rfl, rfl, SqT.of ha, rfl, ?_⟩
    refine ⟨_, rfl, rfl, _, rfl, ?_⟩
    rw [hq l_is (show decide (Wm.wMost = Wm.wIs) = false from by decide)]
    refine iteF ?_
    refine ⟨_, rfl, rfl, _, rfl, ?_⟩
    rw [hq l_in (show decide (Wm.wMost = Wm.wIn) = false from by decide)]
    refine iteF ?_
    refine ⟨_, rfl, rfl, _, rfl, ?_⟩
    rw [hq l_member (show decide (Wm.wMost = Wm.wMember) = false from by decide)]
    refine iteF ?_
    refine ⟨_, rfl, rfl, _, rfl, ?_⟩
    rw [hq l_within (show decide (Wm.wMost = Wm.wWithin) = false from by decide)]
    refine iteF ?_
    refine ⟨_, rfl, rfl, _, rfl, ?_⟩
    rw [hq l_most (show decide (Wm.wMost = Wm.wMost) = true from by decide)]
    refine iteT ?_

    have hc : c.natAbs.log2 < 1920 := hb.2 c (by simp [Wm.toksB])
    refine ⟨_, rfl, a, _, 1, _, rfl, rfl, SqT.of ha, rfl, x, rfl, _, rfl, a, _, 2, _, rfl, rfl, SqT.of ha, rfl, y, rfl, _, rfl, a, _, 3, _, rfl, rfl, SqT.of ha, rfl, c, rfl, hc, fits3, fun p hp => ?_⟩
    refine q p _ [_, _, Wm.itxt c] (Same.new hp) (upd_same.trans (by rw [str_itxt] <;> rfl)) ?_
    show _ ++ ([44, 32] ++ (_ ++ ([44, 32] ++ Wm.itxt c))) = Wm.sep (Wm.numT x ++ .mark 44 :: (Wm.numT y ++ [.mark 44, .int c]))
    rw [Wm.sep_app, Wm.sep_cons, Wm.sep_app, Wm.sep_cons, sep_comma, sep_one] <;> rfl
  | path u p ts =>
    obtain ⟨a, b, vs, rfl, ha, hb', hts⟩ := hv
    have b2 : bigT (Wm.pathT ts) := hb.sub (((List.Sublist.refl _).cons _).cons _)
    have fin : ∀ l H', Same H H' → H' l = some (.lst [.str (sL p), .str (sL (Wm.sep (Wm.pathT ts)))]) → Q (.ref l) H' := fun l H' sm hl => by
      refine q l H' [p, _] sm hl ?_
      rw [two_join]
      show _ = Wm.sep (.word p :: .mark 44 :: Wm.pathT ts)
      rw [Wm.sep_cons, Wm.sep_cons, sep_comma] <;> rfl
    cases u with
    | true =>
      have ha' : H a = some (.tup [.str (sL Wm.wUnder), .str (sL p), .ref b]) := ha
      refine ⟨_, rfl, a, _, 0, _, rfl, rfl, SqT.of ha', rfl, ?_⟩
      refine ⟨_, rfl, rfl, _, rfl, ?_⟩
      rw [hq l_is (show decide (Wm.wUnder = Wm.wIs) = false from by decide)]
      refine iteF ?_
      refine ⟨_, rfl, rfl, _, rfl, ?_⟩
      rw [hq l_in (show decide (Wm.wUnder = Wm.wIn) = false from by decide)]
      refine iteF ?_
      refine ⟨_, rfl, rfl, _, rfl, ?_⟩
      rw [hq l_member (show decide (Wm.wUnder = Wm.wMember) = false from by decide)]
      refine iteF ?_
      refine ⟨_, rfl, rfl, _, rfl, ?_⟩
      rw [hq l_within (show decide (Wm.wUnder = Wm.wWithin) = false from by decide)]
      refine iteF ?_
      refine ⟨_, rfl, rfl, _, rfl, ?_⟩
      rw [hq l_most (show decide (Wm.wUnder = Wm.wMost) = false from by decide)]
      refine iteF ?_

      exact ⟨_, rfl, a, _, 1, _, rfl, rfl, SqT.of ha', rfl, _, rfl, a, _, 2, _, rfl, rfl, SqT.of ha', rfl, b, vs, ts, rfl, hb', hts, b2, fun H' sm => ⟨fits2, fun p' hp => fin p' _ (sm.trans (Same.new hp)) upd_same⟩⟩
    | false =>
      have ha' : H a = some (.tup [.str (sL Wm.wAt), .str (sL p), .ref b]) := ha
      refine ⟨_, rfl, a, _, 0, _, rfl, rfl, SqT.of ha', rfl, ?_⟩
      refine ⟨_, rfl, rfl, _, rfl, ?_⟩
      rw [hq l_is (show decide (Wm.wAt = Wm.wIs) = false from by decide)]
      refine iteF ?_
      refine ⟨_, rfl, rfl, _, rfl, ?_⟩
      rw [hq l_in (show decide (Wm.wAt = Wm.wIn) = false from by decide)]
      refine iteF ?_
      refine ⟨_, rfl, rfl, _, rfl, ?_⟩
      rw [hq l_member (show decide (Wm.wAt = Wm.wMember) = false from by decide)]
      refine iteF ?_
      refine ⟨_, rfl, rfl, _, rfl, ?_⟩
      rw [hq l_within (show decide (Wm.wAt = Wm.wWithin) = false from by decide)]
      refine iteF ?_
      refine ⟨_, rfl, rfl, _, rfl, ?_⟩
      rw [hq l_most (show decide (Wm.wAt = Wm.wMost) = false from by decide)]
      refine iteF ?_

      exact ⟨_, rfl, a, _, 1, _, rfl, rfl, SqT.of ha', rfl, _, rfl, a, _, 2, _, rfl, rfl, SqT.of ha', rfl, b, vs, ts, rfl, hb', hts, b2, fun H' sm => ⟨fits2, fun p' hp => fin p' _ (sm.trans (Same.new hp)) upd_same⟩⟩
abbrev s_write_condition : Stmt := topS 46
abbrev N_write_condition : List Str := ["condition", "kind", "items", "part"]
theorem sc_write_condition : FnScope N_write_condition ["condition"] (defScope s_write_condition) := ⟨rfl, rfl, rfl, by decide +kernel, rfl, by decide +kernel, by decide +kernel⟩
def sp_write_condition (n : Nat) : Sp := fun vs H Q _ => ∃ (v : V) (c : Wm.Cnd) (d : Nat), vs = [v] ∧ d + n = 13 ∧ Wm.CndOk d c ∧ CndV H c v ∧ bigT (Wm.toksC c) ∧ ∀ H', Same H H' → Q (.str (sL (Wm.wr c))) H'
/-- the tail of a written condition -/
theorem write_end {K : PySem.W.Frag} {H' : Hp} {D : Ends} {l : Addr} {ys : List Wm.L} {wd W : Wm.L} {o p : Option V} (hl : H' l = some (.lst (txtV ys))) (hW : wd ++ [40] ++ TL.joinL [44, 32] ys ++ [41] = W) (hb : W.length ≤ 1000000) (q : D.rt (.str (sL W)) H') :
    tRet (tOp (fun x y H Q => ∃ i j, x = .str i ∧ y = .str j ∧ i.length + j.length ≤ sizeLine ∧ Q (.str (i ++ j)) H) (tOp (fun x y H Q => ∃ i j, x = .str i ∧ y = .str j ∧ i.length + j.length ≤ sizeLine ∧ Q (.str (i ++ j)) H) (tOp (fun x y H Q => ∃ i j, x = .str i ∧ y = .str j ∧ i.length + j.length ≤ sizeLine ∧ Q (.str (i ++ j)) H) (tVar 1) (tC (.str (Str.ofString "("))))
      (tM1 (fun x xs H Q => ∃ a p, ∃ ys : List Str, x = .str a ∧ xs = [.ref p] ∧ (SqL K H p (ys.map V.str) ∨ SqT K H p (ys.map V.str)) ∧ (ys.map (·.length)).sum + ys.length * a.length ≤ 16777216 ∧ Q (.str (Txt.join a ys)) H) (tC (.str (Str.ofString ", "))) (tVar 2))) (tC (.str (Str.ofString ")"))))
      D [o, some (.str (sL wd)), some (.ref l), p] H' := by
  have hl' := hb
  rw [← hW, List.length_append, List.length_append, List.length_append] at hl'
  have h1 : ([40] : List Nat).length = 1 := rfl
  have h2 : ([41] : List Nat).length = 1 := rfl
  have h3 : ([44, 32] : List Nat).length = 2 := rfl
  refine ⟨_, rfl, _, _, rfl, rfl, ?_, ⟨_, rfl⟩, _, rfl, _, l, ys.map sL, congrArg V.str l_sep, rfl, .inl (SqL.of hl), join_fits (by omega), _, _, rfl, rfl, ?_, _, _, rfl, rfl, ?_, ?_⟩
  · rw [l_open, len_sL, len_sL, sizeLine_eq]; omega
  · rw [l_open, sL_app, sL_join, len_sL, len_sL, List.length_append, sizeLine_eq]; omega
  · rw [l_open, l_close, sL_app, sL_join, sL_app, len_sL, len_sL, List.length_append, List.length_append, sizeLine_eq]; omega
  · rw [l_open, l_close, sL_app, sL_join, sL_app, sL_app, hW]; exact q
theorem ok_write_condition (G : Glob K mg) (D : Df K mg "write_condition" s_write_condition ["condition"]) (C_simple_items : Cal P w K mg base CX0 3 "simple_items" ["condition"] sp_simple_items) (n : Nat)
    (C_write_condition : Cal P w K mg base CX0 (4 + n) "write_condition" ["condition"] (sp_write_condition n)) : Cal P w K mg base CX0 (4 + n + 1) "write_condition" ["condition"] (sp_write_condition (n + 1)) := by
  refine D.ok sc_write_condition (fun vs H Q E h => ?_) (fun f cdv A outer s H vs Q E hr h => ?_)
  · obtain ⟨v, c, d, rfl, _⟩ := h
    rfl
  obtain ⟨v, c, d, rfl, hd, hok, hv, hb, q⟩ := h
  refine ⟨_, (pss_cons (ps_set (i := 1) sc_write_condition.nd rfl (Or.inl rfl) (pe_ix ix_tup (pv 0) pe_int (fun _ _ => rfl)))
    (pss_cons (ps_if (pt_cmpR op_eq (pv 1) pe_str (nomark _))
      (pss_one (ps_ret pe_str))
      pss_nil)
    (pss_cons (ps_if (pt_cmpR op_eq (pv 1) pe_str (nomark _))
      (pss_one (ps_ret pe_str))
      pss_nil)
    (pss_cons (ps_if (pt_cmpR op_eq (pv 1) pe_str (nomark _))
      (pss_one (ps_set (i := 2) sc_write_condition.nd rfl (Or.inl rfl) (pe_lst (pa_cons (pe_cal C_write_condition (hr.mono (by omega)) pass0 (pa_cons (pe_ix ix_tup (pv 0) pe_int (fun _ _ => rfl)) pa_nil)) pa_nil))))
      (pss_one (ps_if (PW.pt (pw_or (pt_cmpR op_eq (pv 1) pe_str (nomark _)) (pw_or1 (pt_cmpR op_eq (pv 1) pe_str (nomark _)))))
        (pss_one (ps_setLc (i := 2) (own := [("part", 3)]) (g := gName 3) (tt := tYes) rfl sc_write_condition.nd rfl rfl (sw_true rfl rfl rfl (by decide +kernel)) (pi_tup (pe_ix ix_tup (pv 0) pe_int (fun _ _ => rfl))) (blkOk_by (N := N_write_condition) (sc := defScope s_write_condition) (by decide +kernel)) (fun _ _ _ _ _ => pg_name (i := 3) sc_write_condition.nd rfl (Or.inl rfl)) (fun _ _ _ _ _ => pts_nil) (fun _ _ _ _ _ => (pe_cal C_write_condition (hr.mono (by omega)) pass0 (pa_cons (pv 3) pa_nil)))))
        (pss_one (ps_set (i := 2) sc_write_condition.nd rfl (Or.inl rfl) (pe_cal C_simple_items (hr.mono (by omega)) pass0 (pa_cons (pv 0) pa_nil)))))))
    (pss_one (ps_ret (pe_op op_add_str (pe_op op_add_str (pe_op op_add_str (pv 1) pe_str) (pe_join pe_str (pv 2))) pe_str))))))), ?_⟩
  have fits1 : ∀ {a : V}, ([a] : List V).length ≤ sizeLine := by intro a; show 1 ≤ sizeLine; decide
  cases c with
  | smp s =>
    rw [CndV] at hv
    by_cases hyn : notYN s
    · have ek : kindL s = Wm.hdW (Wm.hdS s) := by cases s <;> first | exact hyn.elim | rfl
      have eW : Wm.wr (.smp s) = Wm.hdW (Wm.hdS s) ++ [40] ++ Wm.sep (Wm.toksB s) ++ [41] := by
        have e1 : Wm.wr (.smp s) = Wm.sep (.word (Wm.hdW (Wm.hdS s)) :: .mark 40 :: (Wm.toksB s ++ [.mark 41])) := by
          unfold Wm.wr
          rw [Wm.toksC]
          cases s <;> first | exact hyn.elim | rfl
        rw [e1, Wm.sep_cons, Wm.sep_cons, Wm.sep_app, sep_one, List.append_assoc, List.append_assoc] <;> rfl
      have hb2 : bigT (Wm.toksB s) := by
        refine hb.sub ?_
        rw [Wm.toksC]
        have : Wm.toksS s = .word (Wm.hdW (Wm.hdS s)) :: .mark 40 :: (Wm.toksB s ++ [.mark 41]) := by cases s <;> first | exact hyn.elim | rfl
        rw [this]
        exact ((List.sublist_append_left _ _).cons _).cons _
      obtain ⟨a, xs, rfl, ha⟩ := smp_kind hv
      rw [ek] at ha
      have h0 : atI (V.str (sL (Wm.hdW (Wm.hdS s))) :: xs) 0 = some (V.str (sL (Wm.hdW (Wm.hdS s)))) := atI_nat (j := 0) rfl
      refine ⟨_, rfl, a, _, 0, _, rfl, rfl, SqT.of ha, h0, ?_⟩
      have nk : ∀ wd : Wm.L, wd ∈ [wTrue, wFalse, Wm.wNot, Wm.wAll, Wm.wAny] → decide (Wm.hdW (Wm.hdS s) = wd) = false := by
        have hh : Wm.hdW (Wm.hdS s) ∈ [Wm.wIs, Wm.wIn, Wm.wMember, Wm.wWithin, Wm.wMost, Wm.wUnder, Wm.wAt] := by
          cases s with
          | tt => exact hyn.elim
          | ff => exact hyn.elim
          | is t u => show Wm.wIs ∈ _; decide
          | inn t u => show Wm.wIn ∈ _; decide
          | mem t u => show Wm.wMember ∈ _; decide
          | within t u => show Wm.wWithin ∈ _; decide
          | most t u c => show Wm.wMost ∈ _; decide
          | path u p ts =>
            cases u with
            | true => show Wm.wUnder ∈ _; decide
            | false => show Wm.wAt ∈ _; decide
        have all : ∀ k ∈ [Wm.wIs, Wm.wIn, Wm.wMember, Wm.wWithin, Wm.wMost, Wm.wUnder, Wm.wAt], ∀ wd ∈ [wTrue, wFalse, Wm.wNot, Wm.wAll, Wm.wAny], decide (k = wd) = false := by decide
        exact all _ hh
      refine ⟨_, rfl, rfl, _, rfl, ?_⟩
      rw [hq l_true (nk wTrue (by decide))]
      refine iteF ?_
      refine ⟨_, rfl, rfl, _, rfl, ?_⟩
      rw [hq l_false (nk wFalse (by decide))]
      refine iteF ?_
      refine ⟨_, rfl, rfl, _, rfl, ?_⟩
      rw [hq l_not (nk Wm.wNot (by decide))]
      refine iteF ?_
      refine ⟨_, rfl, rfl, _, rfl, ?_⟩
      rw [hq l_all (nk Wm.wAll (by decide))]
      refine iteF ?_
      refine ⟨_, rfl, rfl, _, rfl, ?_⟩
      rw [hq l_any (nk Wm.wAny (by decide))]
      refine iteF ?_
      refine ⟨_, rfl, .ref a, s, rfl, hv, hyn, hb2, fun l H' ys sm hl hj => ?_⟩
      exact write_end hl (by rw [hj]; exact eW.symm) hb.1 (q H' sm)
    · have z := q H fun _ _ h => h
      cases s with
      | tt =>
        obtain ⟨a, rfl, ha⟩ := hv
        rw [l_true] at ha
        refine ⟨_, rfl, a, _, 0, _, rfl, rfl, SqT.of ha, rfl, ?_⟩
        refine ⟨_, rfl, rfl, _, rfl, ?_⟩
        rw [hq l_true (show decide (wTrue = wTrue) = true from by decide)]
        refine iteT ?_

        show Q (.str (Str.ofString "yes")) H
        rw [l_yes]
        have e1 : Wm.wr (.smp .tt) = Wm.wYes := by unfold Wm.wr; rw [Wm.toksC]; exact (sep_one _).trans rfl
        rw [e1] at z
        exact z
      | ff =>
        obtain ⟨a, rfl, ha⟩ := hv
        rw [l_false] at ha
        refine ⟨_, rfl, a, _, 0, _, rfl, rfl, SqT.of ha, rfl, ?_⟩
        refine ⟨_, rfl, rfl, _, rfl, ?_⟩
        rw [hq l_true (show decide (wFalse = wTrue) = false from by decide)]
        refine iteF ?_
        refine ⟨_, rfl, rfl, _, rfl, ?_⟩
        rw [hq l_false (show decide (wFalse = wFalse) = true from by decide)]
        refine iteT ?_

        show Q (.str (Str.ofString "no")) H
        rw [l_no]
        have e1 : Wm.wr (.smp .ff) = Wm.wNo := by unfold Wm.wr; rw [Wm.toksC]; exact (sep_one _).trans rfl
        rw [e1] at z
        exact z
      | _ => exact absurd trivial hyn
  | not c =>
    rw [CndV] at hv
    obtain ⟨a, x, rfl, ha, hx⟩ := hv
    have eW : Wm.wr (.not c) = Wm.wNot ++ [40] ++ Wm.wr c ++ [41] := by
      unfold Wm.wr
      rw [Wm.toksC, Wm.sep_cons, Wm.sep_cons, Wm.sep_app, sep_one, List.append_assoc, List.append_assoc] <;> rfl
    refine ⟨_, rfl, a, _, 0, _, rfl, rfl, SqT.of ha, rfl, ?_⟩
    refine ⟨_, rfl, rfl, _, rfl, ?_⟩
    rw [hq l_true (show decide (Wm.wNot = wTrue) = false from by decide)]
    refine iteF ?_
    refine ⟨_, rfl, rfl, _, rfl, ?_⟩
    rw [hq l_false (show decide (Wm.wNot = wFalse) = false from by decide)]
    refine iteF ?_
    refine ⟨_, rfl, rfl, _, rfl, ?_⟩
    rw [hq l_not (show decide (Wm.wNot = Wm.wNot) = true from by decide)]
    refine iteT ?_

    cases hok with
    | not hd12 hok =>
    refine ⟨_, rfl, a, _, 1, _, rfl, rfl, SqT.of ha, rfl, x, c, d + 1, rfl, by omega, hok, hx, hb.sub (Wm.sub_not c), fun H' sm => ⟨fits1, fun p hp => ?_⟩⟩
    exact write_end (ys := [Wm.wr c]) upd_same eW.symm hb.1 (q _ (sm.trans (Same.new hp)))
  | many b cs =>
    rw [CndV] at hv
    obtain ⟨a, e, xs, rfl, ha, he, hxs⟩ := hv
    have eW : Wm.wr (.many b cs) = Wm.hdW (.many b) ++ [40] ++ TL.joinL [44, 32] (cs.map Wm.wr) ++ [41] := by
      unfold Wm.wr
      rw [Wm.toksC.eq_3, Wm.toksCs_map, Wm.sep_cons, Wm.sep_cons, Wm.sep_app, sep_joinC, List.map_map, sep_one, List.append_assoc, List.append_assoc] <;> rfl
    have hlen := hxs.len
    have hbl := hb.1
    have few : cs.length ≤ 1000008 := by
      have h1 := hb.1
      have h2 : (Wm.sep (Wm.toksC (.many b cs))) = Wm.wr (.many b cs) := rfl
      rw [h2, eW, List.length_append, List.length_append, List.length_append] at h1
      have h3 := few_joined (y := [44, 32]) (xs := cs.map Wm.wr) (by decide) (by show _ + 2 ≤ _; omega)
      rw [List.length_map] at h3
      exact h3
    cases hok with
    | many hd12 hok =>
    have go : ∀ wd : Wm.L, wd = Wm.hdW (.many b) → ∀ (Dn : Ends) (σ : L2.St), σ = [some (.ref a), some (.str (sL wd)), none, none] →
        (∀ l H', Same H H' → H' l = some (.lst (txtV (cs.map Wm.wr))) → Dn.nx [some (.ref a), some (.str (sL wd)), some (.ref l), none] H') →
        (tAsg (tLc (iTup K (tOp (rIxT K) (tVar 0) (tC (.int 1)))) (gName 3) tYes (tCall (sp_write_condition n) [] E0 (tCons (tVar 3) tNil)) ([(("part" : Str), 3)].map (·.2))) (gName 2)) Dn σ H := by
      intro wd hwd Dn σ hσ k
      subst hσ
      subst hwd
      refine ⟨_, rfl, a, _, 1, _, rfl, rfl, SqT.of ha, rfl, e, rfl, ⟨_, SqT.of he⟩, fun D hD => ?_⟩
      refine lc_map (ys := txtV (cs.map Wm.wr)) (by simp [txtV, hlen]) (by rw [hlen, sizeLine_eq]; omega) he hD ?_ ?_ ?_
      · intro x; rfl
      · intro i x y H' hx hy sm R hR
        obtain ⟨c, hc, hv⟩ := hxs.get hx
        unfold txtV at hy
        rw [List.map_map, List.map_map] at hy
        obtain ⟨c', hc', rfl⟩ := map_get hy
        rw [hc] at hc'
        cases hc'
        have hm := List.mem_of_getElem? hc
        exact ⟨_, rfl, x, c, d + 1, rfl, by omega, hok c hm, CndV.keep (Same.tups sm) hv, hb.sub (Wm.sub_many hm), fun H'' s2 => hR _ s2⟩
      · intro H' sm hD'
        exact k D H' sm hD'
    refine ⟨_, rfl, a, _, 0, _, rfl, rfl, SqT.of ha, rfl, ?_⟩
    cases b with
    | true =>
      show (tSeq _ _) _ [some (.ref a), some (.str (sL Wm.wAll)), none, none] H
      refine ⟨_, rfl, rfl, _, rfl, ?_⟩
      rw [hq l_true (show decide (Wm.wAll = wTrue) = false from by decide)]
      refine iteF ?_
      refine ⟨_, rfl, rfl, _, rfl, ?_⟩
      rw [hq l_false (show decide (Wm.wAll = wFalse) = false from by decide)]
      refine iteF ?_
      refine ⟨_, rfl, rfl, _, rfl, ?_⟩
      rw [hq l_not (show decide (Wm.wAll = Wm.wNot) = false from by decide)]
      refine iteF ?_

      refine ⟨_, rfl, rfl, _, rfl, ?_⟩
      rw [hq l_all (show decide (Wm.wAll = Wm.wAll) = true from by decide)]
      refine iteT (iteT ?_)
      refine go _ rfl _ _ rfl fun l H' sm hl => ?_
      exact write_end hl eW.symm hb.1 (q H' sm)
    | false =>
      show (tSeq _ _) _ [some (.ref a), some (.str (sL Wm.wAny)), none, none] H
      refine ⟨_, rfl, rfl, _, rfl, ?_⟩
      rw [hq l_true (show decide (Wm.wAny = wTrue) = false from by decide)]
      refine iteF ?_
      refine ⟨_, rfl, rfl, _, rfl, ?_⟩
      rw [hq l_false (show decide (Wm.wAny = wFalse) = false from by decide)]
      refine iteF ?_
      refine ⟨_, rfl, rfl, _, rfl, ?_⟩
      rw [hq l_not (show decide (Wm.wAny = Wm.wNot) = false from by decide)]
      refine iteF ?_
      refine ⟨_, rfl, rfl, _, rfl, ?_⟩
      rw [hq l_all (show decide (Wm.wAny = Wm.wAll) = false from by decide)]
      refine iteF ?_
      refine ⟨_, rfl, rfl, _, rfl, ?_⟩
      rw [hq l_any (show decide (Wm.wAny = Wm.wAny) = true from by decide)]
      refine iteT ?_

      refine go _ rfl _ _ rfl fun l H' sm hl => ?_
      exact write_end hl eW.symm hb.1 (q H' sm)
theorem no_write {vs : List V} {H : Hp} {Q : VK} {E : XK} (h : sp_write_condition 0 vs H Q E) : False := by
  obtain ⟨v, c, d, _, hd, hc, _⟩ := h
  have := cnd_depth hc
  omega
theorem ok_write_all (G : Glob K mg) (D : Df K mg "write_condition" s_write_condition ["condition"]) (C_simple_items : Cal P w K mg base CX0 3 "simple_items" ["condition"] sp_simple_items) : ∀ n, Cal P w K mg base CX0 (4 + n) "write_condition" ["condition"] (sp_write_condition n)
  | 0 => D.ok sc_write_condition (fun vs H Q E h => (no_write h).elim) fun f cdv A outer s H vs Q E hr h => (no_write h).elim
  | n + 1 => ok_write_condition G D C_simple_items n (ok_write_all G D C_simple_items n)
end
end Wk
end PartWr3
section PartBl0
set_option Elab.async false
set_option linter.all false
set_option maxRecDepth 100000
set_option maxHeartbeats 4000000
namespace Wk
open PySem PySem.Spec PyProof.Rows L2
/-! ### one sign, many times -/
theorem rep_fold (c : Nat) : ∀ (n : Nat) (acc : Array Nat), (List.replicate n (#[c] : Array Nat)).foldl (· ++ ·) acc = acc ++ (List.replicate n c).toArray
  | 0, acc => by simp
  | n + 1, acc => by
    rw [List.replicate_succ, List.foldl_cons, rep_fold c n, List.replicate_succ]
    refine Array.ext' ?_
    rw [Array.toList_append, Array.toList_append, Array.toList_append, List.append_assoc] <;> rfl
theorem op_rep_str {X : Cx} : OpR X (binaryOp .Mult) (fun x y H Q => ∃ (c n : Nat), x = .str (sL [c]) ∧ y = .int (n : Int) ∧ n ≤ 1000 ∧ Q (.str (sL (List.replicate n c))) H) := by
  intro pins s σ H x y v u Q I rx ry h
  obtain ⟨c, n, rfl, rfl, hz, q⟩ := h
  obtain ⟨t, rfl⟩ := rx
  obtain ⟨t', rfl⟩ := ry
  have hlen : (sL [c]).length = 1 := rfl
  refine PySem.P.mul_str ?_ (fun h1 h2 => ?_) (fun h1 h2 => ?_) ?_
  · rw [decide_eq_false (by omega : ¬ (n : Int) < -(2 ^ 63)), decide_eq_false (by omega : ¬ (n : Int) ≥ 2 ^ 63)] <;> rfl
  · rw [hlen]
    have : (1 : Int) ≤ (2 ^ 63 - 1) / (n : Int) := by
      refine (Int.le_ediv_iff_mul_le (by omega)).mpr ?_
      omega
    omega
  · rw [hlen, Int.toNat_natCast]
    show decide (_ > _) = false
    refine decide_eq_false ?_
    rw [sizeLine_eq]
    omega
  · by_cases h1 : (n : Int) < 1
    · rw [if_pos h1]
      have e : n = 0 := by omega
      subst e
      exact ⟨by decide, .str (sL []), H, I.tok _, ⟨_, rfl⟩, q⟩
    · rw [if_neg h1]
      by_cases h2 : n = 1
      · subst h2
        rw [if_pos (by simp)]
        exact ⟨.str (sL [c]), H, I, ⟨_, rfl⟩, q⟩
      · have h3 : ¬ (((n : Int) == 1 || (sL [c]).length == 0) = true) := by
          rw [hlen]
          simp
          omega
        rw [if_neg h3, Int.toNat_natCast]
        have e : (⟨(List.replicate n (sL [c]).cps).foldl (· ++ ·) #[]⟩ : Str) = sL (List.replicate n c) := by
          show (⟨(List.replicate n (#[c] : Array Nat)).foldl (· ++ ·) #[]⟩ : Str) = _
          rw [rep_fold]
          simp [sL]
        rw [e]
        refine ⟨?_, .str (sL (List.replicate n c)), H, I.tok _, ⟨_, rfl⟩, q⟩
        rw [len_sL, List.length_replicate, sizeLine_eq]
        omega
/-! ### the draws: a list of ints -/
def Dr (H : Hp) (d : Addr) : Prop := ∃ ns : List Int, H d = some (.lst (ns.map V.int))
/-- other objects stand, the draws are a list of ints -/
def Go (d : Addr) (H H' : Hp) : Prop := SameBut d H H' ∧ Dr H' d
section
variable {d : Addr} {H H1 H2 H' : Hp}
theorem Dr.refl (h : Dr H d) : Go d H H := ⟨SameBut.refl, h⟩
theorem Go.trans (a : Go d H H1) (b : Go d H1 H2) : Go d H H2 := ⟨a.1.trans b.1, b.2⟩
theorem Go.new {p : Addr} {o : HO} (a : Go d H H1) (hp : H1 p = none) : Go d H (upd H1 p o) := by
  refine ⟨a.1.trans (SameBut.new hp), ?_⟩
  obtain ⟨ns, e⟩ := a.2
  exact ⟨ns, by rw [upd_ne (ne_of_none e hp)]; exact e⟩
theorem Dr.new {p : Addr} {o : HO} (a : Dr H d) (hp : H p = none) : Dr (upd H p o) d := ((Dr.refl a).new hp).2
theorem Go.tups (a : Go d H H1) (h : Dr H d) : Tups H H1 := fun p xs e => by
  refine a.1 p _ (fun z => ?_) e
  obtain ⟨ns, e2⟩ := h
  rw [z, e2] at e
  cases e
theorem Go.put {p : Addr} {o : HO} (a : Go d H H1) (hp : H p = none) (hd : p ≠ d) : Go d H (upd H1 p o) := by
  refine ⟨fun b u hb e => ?_, ?_⟩
  · rw [upd_ne (ne_of_none e hp)]
    exact a.1 b u hb e
  · obtain ⟨ns, e⟩ := a.2
    exact ⟨ns, by rw [upd_ne (Ne.symm hd)]; exact e⟩
theorem Dr.ne {p : Addr} (h : Dr H d) (hp : H p = none) : p ≠ d := fun e => by
  obtain ⟨ns, e2⟩ := h
  rw [← e, hp] at e2
  cases e2
end
theorem pick {xs : List V} {i : Int} (h0 : 0 ≤ i) (h1 : i < (xs.length : Int)) : ∃ z ∈ xs, atI xs i = some z := by
  have hl : i.toNat < xs.length := by omega
  refine ⟨xs[i.toNat], List.getElem_mem hl, ?_⟩
  have := atI_nat (xs := xs) (j := i.toNat) (List.getElem?_eq_getElem hl)
  rw [Int.toNat_of_nonneg h0] at this
  exact this
theorem pickN {l : List Nat} {i : Int} (h0 : 0 ≤ i) (h1 : i < (l.length : Int)) : ∃ c ∈ l, atI l i = some c := by
  have hl : i.toNat < l.length := by omega
  refine ⟨l[i.toNat], List.getElem_mem hl, ?_⟩
  have := atI_nat (xs := l) (j := i.toNat) (List.getElem?_eq_getElem hl)
  rw [Int.toNat_of_nonneg h0] at this
  exact this
section
variable {P : Program} {w : World} {K : PySem.W.Frag} {mg : Str → Option Value} {base : Heap} {C B : Addr}
abbrev s__law_take : Stmt := topS 49
abbrev N__law_take : List Str := ["_law_draws_here", "_law_many_here"]
theorem sc__law_take : FnScope N__law_take ["_law_draws_here", "_law_many_here"] (defScope s__law_take) := ⟨rfl, rfl, rfl, by decide +kernel, rfl, by decide +kernel, by decide +kernel⟩
def sp_take2 : Sp := fun vs H Q _ => ∃ (d : Addr) (m : Int), vs = [.ref d, .int m] ∧ 0 < m ∧ Dr H d ∧ ∀ (r : Int) H', 0 ≤ r → r < m → Go d H H' → Q (.int r) H'
theorem ok__law_take (G : Glob K mg) (D : Df K mg "_law_take" s__law_take ["_law_draws_here", "_law_many_here"]) : Cal P w K mg base CX0 1 "_law_take" ["_law_draws_here", "_law_many_here"] sp_take2 := by
  refine D.ok sc__law_take (fun vs H Q E h => ?_) (fun f cdv A outer s H vs Q E hr h => ?_)
  · obtain ⟨d, m, rfl, _⟩ := h
    rfl
  obtain ⟨d, m, rfl, hm, ⟨ns, hd⟩, q⟩ := h
  refine ⟨_, (pss_cons (ps_if (pt_cmpR op_eq (pe_callB call_len_seq rfl G.len PySem.boot_len (pa_cons (pv 0) pa_nil)) pe_int (nomark _))
      (pss_one (ps_ret pe_int))
      pss_nil)
    (pss_one (ps_ret (pe_op op_mod (pe_callTy call_int1 rfl G.int boot_int (pa_cons (pe_bm0 PySem.F.plainAttrs_list PySem.F.slot_list_pop PySem.F.type_list_pop mt_pop (pv 0)) pa_nil)) (pv 1))))), ?_⟩
  refine ⟨_, rfl, d, _, rfl, .inl (SqL.of hd), rfl, _, rfl, ?_⟩
  refine ite2 (fun e => ?_) (fun e => ?_)
  · exact q 0 H (Int.le_refl _) hm ⟨SameBut.refl, ns, hd⟩
  · have hne : ns ≠ [] := fun z => e (by rw [z]; exact decide_eq_true rfl)
    have hl : ns.length - 1 < ns.length := by have := List.length_pos_iff.mpr hne; omega
    have hy : (ns.map V.int)[(ns.map V.int).length - 1]? = some (V.int ns[ns.length - 1]) := by
      rw [List.length_map, List.getElem?_map, List.getElem?_eq_getElem hl] <;> rfl
    refine ⟨_, rfl, .inl ⟨rfl, _, SqL.of hd⟩, d, _, _, rfl, rfl, hd, hy, .inl ⟨_, rfl, _, rfl, _, _, rfl, rfl, hm, ?_⟩⟩
    refine q _ _ (Int.emod_nonneg _ (by omega)) (Int.emod_lt_of_pos _ hm) ⟨SameBut.put, ns.dropLast, ?_⟩
    rw [upd_same, List.map_dropLast]
end
end Wk
end PartBl0
section PartJn
set_option Elab.async false
set_option linter.all false
set_option maxRecDepth 100000
set_option maxHeartbeats 4000000
namespace Wk
open PySem PySem.Spec PyProof.Rows L2
/-- behind a statement: J at its end -/
def tJoin (t : TS) : TS := fun D σ H => ∃ J : L2.St → Hp → Prop, t { D with nx := J } σ H ∧ ∀ σ' H', J σ' H' → D.nx σ' H'
theorem ps_join {X : Cx} {st : Stmt} {t : TS} (h : PS X st t) : PS X st (tJoin t) := by
  refine ⟨fun pins s σ H D I ⟨J, ht, hJ⟩ => thn (h.run pins s σ H { D with nx := J } I ht) fun f s' q => ?_⟩
  cases f with
  | next =>
    obtain ⟨σ', H', I', j⟩ := q
    exact ⟨σ', H', I', hJ σ' H' j⟩
  | brk => exact q
  | cont => exact q
  | ret u => exact q
theorem ixN_at {n j : Nat} (h : j < n) : ixN n (j : Int) = some j := by
  unfold ixN
  rw [if_pos (Int.natCast_nonneg j), if_pos (by omega), Int.toNat_natCast]
theorem SqL.past {K : PySem.W.Frag} {H H1 H2 : Hp} {a d : Addr} {xs : List V} (h : SqL K H a xs) (hd : H d = none) (s1 : Same H H1) (s2 : SameBut d H1 H2) : SqL K H2 a xs := by
  rcases h with (h | ⟨o, h⟩) | h
  · exact .inl (.inl (s2 _ _ (ne_of_none h hd) (s1 _ _ h)))
  · exact .inl (.inr ⟨o, s2 _ _ (ne_of_none h hd) (s1 _ _ h)⟩)
  · exact .inr h
theorem int_get {ns : List Int} {j : Nat} (h : j < ns.length) : atI (ns.map V.int) (j : Int) = some (V.int ns[j]) := atI_nat (by rw [List.getElem?_map, List.getElem?_eq_getElem h] <;> rfl)
/-- [f(x) for x in a list of ints], nothing else touched -/
theorem lc_ints {K : PySem.W.Frag} {a : Addr} {ns : List Int} {gi : Nat} {te : TE} {vs : List Nat} {σ : L2.St} {H1 : Hp} {D : Addr} {Qd : Hp → Prop} (few : ns.length ≤ sizeLine) (ha : SqL K H1 a (ns.map V.int)) (hD : H1 D = none)
    (hw : ∀ x, wipe ((wipe σ vs).set gi (some x)) vs = wipe σ vs)
    (hs : ∀ (n : Int) (H' : Hp) (R : VK), R (.int n) H' → te ((wipe σ vs).set gi (some (.int n))) H' R)
    (hd : ∀ H', Same H1 H' → H' D = some (.lst (ns.map V.int)) → Qd H') :
    ∃ W : Nat → Nat → Hp → Prop, (∃ m, W 0 m (upd H1 D (.lst []))) ∧ ∀ i m H, W i m H →
      ((Itl K a).stop i H ∧ Qd H) ∨ ((Itl K a).go i H ∧ ∃ Nx : Hp → Prop, (∀ H', Nx H' → ∃ m', m' < m ∧ W (i + 1) m' H') ∧ ∀ x H', (Itl K a).yld i H x H' → gName gi x (wipe σ vs) H' fun σ2 H2 => wipe σ2 vs = wipe σ vs ∧ tYes σ2 H2 fun b H3 =>
        if b = true then te σ2 H3 fun y H4 => ∃ acc, H4 D = some (.lst acc) ∧ acc.length < sizeLine ∧ Nx (upd H4 D (.lst (acc ++ [y]))) else Nx H3) := by
  refine lc_list (K := K) (xs := ns.map V.int) (Qd := Qd) (fun i H' => Same H1 H' ∧ H' D = some (.lst ((ns.map V.int).take i))) ⟨Same.new hD, upd_same⟩ (fun i H' _ h => h.1.seq ha) ?_ ?_
  · rintro i x H' hx ⟨sm, hl⟩
    obtain ⟨n, hn, rfl⟩ := map_get hx
    have hlt : i < ns.length := (List.getElem?_eq_some_iff.mp hn).1
    refine ⟨hw _, ?_⟩
    have z := hs n H' (fun y H4 => ∃ acc, H4 D = some (.lst acc) ∧ acc.length < sizeLine ∧ (Same H1 (upd H4 D (.lst (acc ++ [y]))) ∧ upd H4 D (.lst (acc ++ [y])) D = some (.lst ((ns.map V.int).take (i + 1))))) ⟨_, hl, ?_, Same.put sm hD, ?_⟩
    · exact z
    · rw [List.length_take, List.length_map]; omega
    · rw [upd_same, List.take_add_one, hx] <;> rfl
  · rintro H' ⟨sm, hl⟩
    refine hd H' sm ?_
    rw [List.take_length] at hl
    exact hl
/-- [f(i) for i in range(n)] where each item pops draws -/
theorem lc_draw {n : Nat} {gi : Nat} {te : TE} {vs : List Nat} {σ : L2.St} {H1 : Hp} {D d : Addr} {Qd : Hp → Prop} (Pi : V → Hp → Prop) (few : n ≤ sizeLine) (hD : H1 D = none) (hd0 : Dr H1 d)
    (hw : ∀ x, wipe ((wipe σ vs).set gi (some x)) vs = wipe σ vs)
    (keep : ∀ y H' H'', Pi y H' → Tups H' H'' → Pi y H'')
    (hs : ∀ (i : Int) (H' : Hp) (R : VK), Go d H1 H' → (∀ y H'', Pi y H'' → Go d H' H'' → R y H'') → te ((wipe σ vs).set gi (some (.int i))) H' R)
    (hd : ∀ H' ys, Go d H1 H' → H' D = some (.lst ys) → ys.length = n → (∀ y ∈ ys, Pi y H') → Qd H') :
    ∃ W : Nat → Nat → Hp → Prop, (∃ m, W 0 m (upd H1 D (.lst []))) ∧ ∀ i m H, W i m H →
      ((Itr 0 n).stop i H ∧ Qd H) ∨ ((Itr 0 n).go i H ∧ ∃ Nx : Hp → Prop, (∀ H', Nx H' → ∃ m', m' < m ∧ W (i + 1) m' H') ∧ ∀ x H', (Itr 0 n).yld i H x H' → gName gi x (wipe σ vs) H' fun σ2 H2 => wipe σ2 vs = wipe σ vs ∧ tYes σ2 H2 fun b H3 =>
        if b = true then te σ2 H3 fun y H4 => ∃ acc, H4 D = some (.lst acc) ∧ acc.length < sizeLine ∧ Nx (upd H4 D (.lst (acc ++ [y]))) else Nx H3) := by
  have hDd : D ≠ d := hd0.ne hD
  refine lc_range (Qd := Qd) (fun i H' => Go d H1 H' ∧ ∃ ys, H' D = some (.lst ys) ∧ ys.length = i ∧ ∀ y ∈ ys, Pi y H') ⟨hd0.refl.new hD, [], upd_same, rfl, fun y hy => absurd hy List.not_mem_nil⟩ ?_ ?_
  · rintro i H' hi ⟨go, ys, hl, hn, hp⟩
    refine ⟨hw _, ?_⟩
    have z := hs (0 + (i : Int)) H' (fun y H4 => ∃ acc, H4 D = some (.lst acc) ∧ acc.length < sizeLine ∧ (Go d H1 (upd H4 D (.lst (acc ++ [y]))) ∧ ∃ ys, upd H4 D (.lst (acc ++ [y])) D = some (.lst ys) ∧ ys.length = i + 1 ∧ ∀ y' ∈ ys, Pi y' (upd H4 D (.lst (acc ++ [y]))))) go
      fun y H'' py g2 => ?_
    · exact z
    · have hl2 := g2.1 _ _ hDd hl
      refine ⟨ys, hl2, by omega, (go.trans g2).put hD hDd, ys ++ [y], upd_same, by rw [List.length_append, List.length_singleton, hn], fun y' hy' => ?_⟩
      have up : Tups H'' (upd H'' D (.lst (ys ++ [y]))) := Tups.put hl2 fun xs e => by cases e
      rcases List.mem_append.mp hy' with h | h
      · exact keep _ _ _ (keep _ _ _ (hp y' h) (g2.tups go.2)) up
      · rw [List.mem_singleton.mp h]
        exact keep _ _ _ py up
  · rintro H' ⟨go, ys, hl, hn, hp⟩
    exact hd H' ys go hl hn hp
end Wk
end PartJn
section PartBl1
set_option Elab.async false
set_option linter.all false
set_option maxRecDepth 100000
set_option maxHeartbeats 4000000
namespace Wk
open PySem PySem.Spec PyProof.Rows L2
section
variable {P : Program} {w : World} {K : PySem.W.Frag} {mg : Str → Option Value} {base : Heap} {C B : Addr}
abbrev s__law_draws : Stmt := topS 48
abbrev N__law_draws : List Str := ["_law_script", "_law_many_here", "_law_cells", "_law_rest", "_law_draws_here", "_law_k", "_law_at", "_law_cell_here", "_law_once"]
theorem sc__law_draws : FnScope N__law_draws ["_law_script", "_law_many_here"] (defScope s__law_draws) := ⟨rfl, rfl, rfl, by decide +kernel, rfl, by decide +kernel, by decide +kernel⟩
def sp_draws (K : PySem.W.Frag) : Sp := fun vs H Q _ => ∃ (a : Addr) (ns : List Int), vs = [.ref a, .int 360] ∧ SqL K H a (ns.map V.int) ∧ ns.length ≤ 63 ∧ ∀ (d : Addr) H', Same H H' → H d = none → Dr H' d → Q (.ref d) H'
theorem ok__law_draws (G : Glob K mg) (D : Df K mg "_law_draws" s__law_draws ["_law_script", "_law_many_here"]) : Cal P w K mg base CX0 1 "_law_draws" ["_law_script", "_law_many_here"] (sp_draws K) := by
  refine D.ok sc__law_draws (fun vs H Q E h => ?_) (fun f cdv A outer s H vs Q E hr h => ?_)
  · obtain ⟨a, ns, rfl, _⟩ := h
    rfl
  obtain ⟨a, ns, rfl, ha, h63, q⟩ := h
  refine ⟨_, (pss_cons (ps_setLc (i := 2) (own := [("_law_cell_here", 7)]) (g := gName 7) (tt := tYes) rfl sc__law_draws.nd rfl rfl (sw_true rfl rfl rfl (by decide +kernel)) (pi_list (pv 0)) (blkOk_by (N := N__law_draws) (sc := defScope s__law_draws) (by decide +kernel)) (fun _ _ _ _ _ => pg_name (i := 7) sc__law_draws.nd rfl (Or.inl rfl)) (fun _ _ _ _ _ => pts_nil) (fun _ _ _ _ _ => (pe_callTy call_int1 rfl G.int boot_int (pa_cons (pv 7) pa_nil))))
    (pss_cons (ps_join <| ps_if (pt_cmpR op_eq (pe_callB call_len_seq rfl G.len PySem.boot_len (pa_cons (pv 2) pa_nil)) pe_int (nomark _))
      (pss_one (ps_expr (pe_bm PySem.F.plainAttrs_list PySem.F.slot_list_append PySem.F.type_list_append mt_append (pv 2) (pa_cons pe_int pa_nil))))
      pss_nil)
    (pss_cons (ps_set (i := 3) sc__law_draws.nd rfl (Or.inl rfl) (pe_callTy call_list_of rfl G.list boot_list (pa_cons (pv 2) pa_nil)))
    (pss_cons (ps_set (i := 4) sc__law_draws.nd rfl (Or.inl rfl) (pe_lst pa_nil))
    (pss_cons (ps_for PassesOwn.never rfl (pi_range1 rfl G.range (pa_cons (pv 1) pa_nil)) (pg_name (i := 5) sc__law_draws.nd rfl (Or.inl rfl))
      (pss_cons (ps_set (i := 6) sc__law_draws.nd rfl (Or.inl rfl) (pe_op op_mod (pv 5) (pe_callB call_len_seq rfl G.len PySem.boot_len (pa_cons (pv 2) pa_nil))))
      (pss_one (ps_join <| ps_if (pt_cmpR op_ge (pe_ix ix_list (pv 2) (pv 6) (fun _ _ => rfl)) (pe_op op_pow pe_int pe_int) (nomark _))
        (pss_cons (ps_expr (pe_bm PySem.F.plainAttrs_list PySem.F.slot_list_append PySem.F.type_list_append mt_append (pv 4) (pa_cons (pe_op op_mod (pe_callTy call_int1 rfl G.int boot_int (pa_cons (pe_ix ix_list (pv 3) (pv 6) (fun _ _ => rfl)) pa_nil)) pe_int) pa_nil)))
        (pss_one (ps_asg (pe_op op_fdiv (pe_ix ix_list (pv 3) (pv 6) (fun _ _ => rfl)) pe_int) (pg_sub (pv 3) (pv 6) set_list))))
        (pss_cons (ps_set (i := 8) sc__law_draws.nd rfl (Or.inl rfl) (pe_op op_mod (pe_callTy call_int1 rfl G.int boot_int (pa_cons (pe_op op_add (pe_op op_add (pe_op op_mul (pe_ix ix_list (pv 2) (pv 6) (fun _ _ => rfl)) pe_int) (pe_op op_mul (pv 5) pe_int)) pe_int) pa_nil)) pe_int))
        (pss_one (ps_expr (pe_bm PySem.F.plainAttrs_list PySem.F.slot_list_append PySem.F.type_list_append mt_append (pv 4) (pa_cons (pe_op op_mod (pe_callTy call_int1 rfl G.int boot_int (pa_cons (pe_op op_add (pe_op op_add (pe_op op_mul (pv 8) (pv 8)) (pe_op op_mul pe_int (pv 8))) (pv 5)) pa_nil)) pe_int) pa_nil)))))))))
    (pss_cons (ps_expr (pe_bm0 PySem.F.plainAttrs_list PySem.F.slot_list_reverse PySem.F.type_list_reverse mt_reverse (pv 4)))
    (pss_one (ps_ret (pv 4))))))))), ?_⟩
  refine ⟨_, rfl, a, rfl, ⟨_, ha⟩, fun c hc => ?_⟩
  refine lc_ints (by rw [sizeLine_eq]; omega) ha hc ?_ ?_ ?_
  · intro x; rfl
  · intro n H' R hR
    exact ⟨_, rfl, .inl ⟨_, rfl, hR⟩⟩
  intro H1 s1 h1
  refine ⟨fun σ H' => σ = [some (.ref a), some (.int 360), some (.ref c), none, none, none, none, none, none] ∧ Same H H' ∧ ∃ ms : List Int, H' c = some (.lst (ms.map V.int)) ∧ 0 < ms.length ∧ ms.length ≤ 64, ?_, ?_⟩
  · refine ⟨_, rfl, c, _, rfl, .inl (SqL.of h1), rfl, _, rfl, ?_⟩
    refine ite2 (fun e => ?_) (fun e => ?_)
    · refine ⟨_, rfl, .inl ⟨rfl, _, SqL.of h1⟩, c, _, _, rfl, rfl, h1, by rw [List.length_map, sizeLine_eq]; omega, ?_⟩
      exact ⟨rfl, Same.put s1 hc, ns ++ [0], by rw [upd_same, List.map_append] <;> rfl, by rw [List.length_append]; exact Nat.succ_pos _, by rw [List.length_append]; show ns.length + 1 ≤ 64; omega⟩
    · have hne : ns ≠ [] := fun z => e (by rw [z]; exact decide_eq_true rfl)
      exact ⟨rfl, s1, ns, h1, List.length_pos_iff.mpr hne, by omega⟩
  rintro σ H2 ⟨rfl, s2, ms, h2, hm0, hm64⟩
  refine ⟨_, rfl, c, _, rfl, .inl (SqL.of h2), fun r hr0 => ?_⟩
  refine ⟨(by show 0 ≤ sizeLine; decide), fun d hd0 => ?_⟩
  have hr1 : H r = none := by
    cases e : H r with
    | none => rfl
    | some u => rw [s2 _ _ e] at hr0; cases hr0
  have hd1 : H2 d = none ∧ d ≠ r := by
    refine ⟨?_, fun e => by rw [e, upd_same] at hd0; cases hd0⟩
    by_cases e : d = r
    · rw [e, upd_same] at hd0; cases hd0
    · rw [upd_ne e] at hd0; exact hd0
  have hd2 : H d = none := by
    cases e : H d with
    | none => rfl
    | some u => rw [s2 _ _ e] at hd1; cases hd1.1
  have hcr : c ≠ r := ne_of_none h2 hr0
  have hcd : c ≠ d := ne_of_none h2 hd1.1
  refine ⟨_, rfl, 360, rfl, by decide, by decide, for_range (n := 360) (fun i σ H' => ∃ (rs ds : List Int) (o5 o6 o7 o8 : Option V), σ = [some (.ref a), some (.int 360), some (.ref c), some (.ref r), some (.ref d), o5, o6, o7, o8] ∧ Same H H' ∧ H' c = some (.lst (ms.map V.int)) ∧ H' r = some (.lst (rs.map V.int)) ∧ rs.length = ms.length ∧ H' d = some (.lst (ds.map V.int)) ∧ ds.length ≤ i)
    ⟨ms, [], none, none, none, none, rfl, Same.put (Same.put s2 hr1) hd2, by rw [upd_ne hcd, upd_ne hcr]; exact h2, by rw [upd_ne (Ne.symm hd1.2), upd_same], rfl, upd_same, Nat.le_refl _⟩ ?_ ?_⟩
  · rintro i σ H' hi ⟨rs, ds, o5, o6, o7, o8, rfl, sm, hC, hR, hlen, hD, hds⟩
    refine ⟨_, rfl, _, rfl, c, _, rfl, .inl (SqL.of hC), _, _, rfl, rfl, (by rw [List.length_map]; omega), ?_⟩
    have hat : (0 + (i : Int)) % ((ms.map V.int).length : Int) = ((i % ms.length : Nat) : Int) := by
      rw [List.length_map, Int.zero_add]
      exact (Int.natCast_emod i ms.length).symm
    have hlt : i % ms.length < ms.length := Nat.mod_lt _ hm0
    refine ⟨fun σ H' => ∃ (rs ds : List Int) (o5 o6 o7 o8 : Option V), σ = [some (.ref a), some (.int 360), some (.ref c), some (.ref r), some (.ref d), o5, o6, o7, o8] ∧ Same H H' ∧ H' c = some (.lst (ms.map V.int)) ∧ H' r = some (.lst (rs.map V.int)) ∧ rs.length = ms.length ∧ H' d = some (.lst (ds.map V.int)) ∧ ds.length ≤ i + 1, ?_, fun σ' H'' h => h⟩
    have gC := int_get (ns := ms) hlt
    have gR := int_get (ns := rs) (j := i % ms.length) (by rw [hlen]; exact hlt)
    have small : ∀ k, k ≤ 360 → k < sizeLine := fun k hk => by rw [sizeLine_eq]; omega
    refine ⟨_, rfl, _, rfl, c, _, _, _, rfl, rfl, SqL.of hC, by rw [hat]; exact gC, _, _, rfl, rfl, ⟨by decide, by decide, by decide⟩, _, _, rfl, rfl, _, rfl, ?_⟩
    refine ite2 (fun e => ?_) (fun e => ?_)
    · refine ⟨_, rfl, .inl ⟨rfl, _, SqL.of hD⟩, _, rfl, _, rfl, r, _, _, _, rfl, rfl, SqL.of hR, by rw [hat]; exact gR, .inl ⟨_, rfl, _, _, rfl, rfl, (by show (0 : Int) < _; decide), d, _, _, rfl, rfl, hD, by rw [List.length_map]; exact small _ (by omega), ?_⟩⟩
      have hR2 : upd H' d (.lst (ds.map V.int ++ [.int (rs[i % ms.length]'(by rw [hlen]; exact hlt) % 1000)])) r = some (.lst (rs.map V.int)) := by rw [upd_ne (Ne.symm hd1.2)]; exact hR
      refine ⟨_, rfl, _, rfl, r, _, _, _, rfl, rfl, SqL.of hR2, by rw [hat]; exact gR, _, _, rfl, rfl, ⟨by decide, by decide⟩, _, rfl, _, rfl, r, _, _, _, rfl, rfl, hR2, by rw [hat, List.length_map]; exact ixN_at (by rw [hlen]; exact hlt), ?_⟩
      exact ⟨_, ds ++ [_], _, _, _, _, rfl, Same.put (Same.put sm hd2) hr1, by rw [upd_ne hcr, upd_ne hcd]; exact hC, upd_same.trans (by rw [← List.map_set]), by rw [List.length_set]; exact hlen, by rw [upd_ne hd1.2, upd_same, List.map_append] <;> rfl, by rw [List.length_append]; show ds.length + 1 ≤ _; omega⟩
    · refine ⟨_, rfl, _, rfl, c, _, _, _, rfl, rfl, SqL.of hC, by rw [hat]; exact gC, _, _, rfl, rfl, .inr ⟨by decide, by decide⟩, _, rfl, _, _, rfl, rfl, .inr ⟨by decide, by decide⟩, _, _, rfl, rfl, _, _, rfl, rfl, .inl ⟨_, rfl, _, _, rfl, rfl, (by show (0 : Int) < _; decide), ?_⟩⟩
      have hb : ∀ z : Int, -(2 ^ 64) < z % 2147483647 ∧ z % 2147483647 < 2 ^ 64 := fun z => by
        have h1 := Int.emod_nonneg z (show (2147483647 : Int) ≠ 0 by decide)
        have h2 := Int.emod_lt_of_pos z (show (0 : Int) < 2147483647 by decide)
        omega
      refine ⟨_, rfl, .inl ⟨rfl, _, SqL.of hD⟩, _, rfl, _, rfl, _, _, rfl, rfl, .inl (hb _), _, rfl, _, _, rfl, rfl, .inl ⟨by decide, by decide⟩, _, _, rfl, rfl, _, rfl, _, _, rfl, rfl, .inl ⟨_, rfl, _, _, rfl, rfl, (by show (0 : Int) < _; decide), d, _, _, rfl, rfl, hD, by rw [List.length_map]; exact small _ (by omega), ?_⟩⟩
      exact ⟨rs, ds ++ [_], _, _, _, _, rfl, Same.put sm hd2, by rw [upd_ne hcd]; exact hC, by rw [upd_ne (Ne.symm hd1.2)]; exact hR, hlen, by rw [upd_same, List.map_append] <;> rfl, by rw [List.length_append]; show ds.length + 1 ≤ _; omega⟩
  · rintro σ H' ⟨rs, ds, o5, o6, o7, o8, rfl, sm, hC, hR, hlen, hD, hds⟩
    refine ⟨_, rfl, .inl ⟨rfl, _, SqL.of hD⟩, d, _, rfl, rfl, hD, _, rfl, ?_⟩
    exact q d _ (Same.put sm hd2) hd2 ⟨ds.reverse, by rw [upd_same, List.map_reverse]⟩
end
end Wk
end PartBl1
section PartWm9
set_option autoImplicit false
set_option linter.all false
namespace Wm
/-! ### short texts, few of them -/
def okT (y : L) : Prop := y ≠ [] ∧ y.length ≤ 100
def okTok (t : Tk) : Prop := okT (tkText t) ∧ ∀ n, t = .int n → n.natAbs < 10 ^ 60
def okL (n : Nat) (ts : List Tk) : Prop := (∀ t ∈ ts, okTok t) ∧ ts.length ≤ n
theorem okL_nil : okL 0 [] := ⟨fun t h => absurd h List.not_mem_nil, Nat.le_refl _⟩
theorem okL_cons {n : Nat} {t : Tk} {ts : List Tk} (h : okTok t) (k : okL n ts) : okL (n + 1) (t :: ts) := ⟨fun u hu => by
  rcases List.mem_cons.mp hu with e | e
  · rw [e]; exact h
  · exact k.1 u e, by rw [List.length_cons]; exact Nat.succ_le_succ k.2⟩
theorem okL_app {n m : Nat} {a b : List Tk} (h : okL n a) (k : okL m b) : okL (n + m) (a ++ b) := ⟨fun u hu => by
  rcases List.mem_append.mp hu with e | e
  · exact h.1 u e
  · exact k.1 u e, by rw [List.length_append]; exact Nat.add_le_add h.2 k.2⟩
theorem okL.mono {n m : Nat} {a : List Tk} (h : okL n a) (k : n ≤ m) : okL m a := ⟨h.1, Nat.le_trans h.2 k⟩
theorem ok_mark (c : Nat) : okTok (.mark c) := ⟨⟨List.cons_ne_nil _ _, (by show 1 ≤ 100; decide)⟩, fun n e => by cases e⟩
theorem ok_word {w : L} (h1 : w ≠ []) (h2 : w.length ≤ 60) : okTok (.word w) := ⟨⟨h1, (by show w.length ≤ 100; omega)⟩, fun n e => by cases e⟩
theorem ok_name {w : L} (h2 : w.length ≤ 60) : okTok (.name w) := ⟨⟨List.cons_ne_nil _ _, by show (34 :: (w ++ [34])).length ≤ 100; simp; omega⟩, fun n e => by cases e⟩
theorem ndig_len : ∀ (k n : Nat), n < 10 ^ k → (ndig n).length ≤ k + (if k = 0 then 1 else 0)
  | 0, n, h => by
    have : n = 0 := by simpa using h
    subst this
    decide
  | k + 1, n, h => by
    rw [if_neg (Nat.succ_ne_zero k)]
    by_cases h10 : n < 10
    · have : (ndig n).length = 1 := by
        unfold ndig
        rw [Nat.toDigits_of_lt_base h10] <;> rfl
      omega
    · have hq : 0 < n / 10 := by omega
      have hk : n / 10 < 10 ^ k := by rw [Nat.pow_succ] at h; omega
      have ih := ndig_len k (n / 10) hk
      have e : n = 10 * (n / 10) + n % 10 := by omega
      rw [e, ndig_snoc hq (Nat.mod_lt _ (by decide)), List.length_append, List.length_singleton]
      by_cases k0 : k = 0
      · subst k0
        have : n / 10 = 0 := by simpa using hk
        omega
      · rw [if_neg k0] at ih
        omega
theorem ndig_ne (n : Nat) : ndig n ≠ [] := by
  unfold ndig
  intro e
  have e2 : Nat.toDigits 10 n = [] := List.map_eq_nil_iff.mp e
  by_cases h10 : n < 10
  · rw [Nat.toDigits_of_lt_base h10] at e2
    cases e2
  · have hq : 0 < n / 10 := by omega
    have z := ndig_snoc hq (Nat.mod_lt n (show 0 < 10 by decide))
    rw [show 10 * (n / 10) + n % 10 = n by omega] at z
    unfold ndig at z
    rw [e2] at z
    have z2 := congrArg List.length z
    simp at z2
theorem itxt_len {k : Nat} {n : Int} (hk : 0 < k) (h : n.natAbs < 10 ^ k) : (itxt n).length ≤ k + 1 ∧ itxt n ≠ [] := by
  have z := ndig_len k n.natAbs h
  rw [if_neg (by omega)] at z
  unfold itxt
  by_cases e : n < 0
  · rw [if_pos e]
    exact ⟨by rw [List.length_cons]; omega, List.cons_ne_nil _ _⟩
  · rw [if_neg e]
    exact ⟨by omega, ndig_ne _⟩
theorem ok_int {n : Int} (h : n.natAbs < 10 ^ 60) : okTok (.int n) := by
  have z := itxt_len (by decide) h
  exact ⟨⟨z.2, (by show (itxt n).length ≤ 100; omega)⟩, fun m e => by cases e; exact h⟩
theorem log_of {n : Int} (h : n.natAbs < 10 ^ 62) : n.natAbs.log2 < 1920 := by
  have h3 : (10 : Nat) ^ 62 < 2 ^ 256 := by decide +kernel
  by_cases h0 : n.natAbs = 0
  · rw [h0]; decide
  · exact Nat.lt_trans ((Nat.log2_lt h0).mpr (by omega : n.natAbs < 2 ^ 256)) (by decide)
theorem okL_join {n : Nat} : ∀ {l : List (List Tk)}, (∀ x ∈ l, okL n x) → okL (l.length * (n + 1)) (joinC l)
  | [], _ => okL_nil.mono (Nat.zero_le _)
  | [x], h => (h x (List.mem_singleton.mpr rfl)).mono (by simp)
  | x :: y :: r, h => by
    have ih := okL_join fun z hz => h z (List.mem_cons_of_mem _ hz)
    refine (okL_app (h x List.mem_cons_self) (okL_cons (ok_mark 44) ih)).mono ?_
    rw [List.length_cons (a := x), Nat.add_mul]
    omega
/-! ### what the law's builder makes -/
def okW (w : L) : Prop := w ≠ [] ∧ w.length ≤ 60
def okTr : Trm → Prop
  | .nm w => w.length ≤ 60 | .fld w => okW w | .part w i => okW w ∧ i ≤ 40
theorem okTr_toks {t : Trm} (h : okTr t) : okL 3 (toksT t) := by
  cases t with
  | nm w => exact (okL_cons (ok_name h) okL_nil).mono (by decide)
  | fld w => exact (okL_cons (ok_word h.1 h.2) okL_nil).mono (by decide)
  | part w i =>
    refine okL_cons (ok_word h.1.1 h.1.2) (okL_cons (ok_mark 46) (okL_cons (ok_int ?_) okL_nil))
    have := h.2
    have h3 : (41 : Nat) < 10 ^ 60 := by decide +kernel
    show (i : Int).natAbs < _
    omega
theorem num_toks {x : L} (h : x.length ≤ 60) : okL 1 (numT x) := by
  unfold numT
  by_cases e : x = []
  · rw [if_pos e]; exact okL_cons (ok_int (by decide)) okL_nil
  · rw [if_neg e]; exact okL_cons (ok_word e h) okL_nil
def okS : Smp → Prop
  | .tt => True | .ff => True
  | .is t u => okTr t ∧ okTr u | .inn t s => okTr t ∧ okW s | .mem t s => okTr t ∧ okW s
  | .within s (.set g) => okW s ∧ okW g | .within s (.names ws) => okW s ∧ ws.length ≤ 7 ∧ ∀ w ∈ ws, okW w
  | .most x y c => x.length ≤ 60 ∧ y.length ≤ 60 ∧ c.natAbs < 10 ^ 60
  | .path _ p ts => okW p ∧ ts.length ≤ 3 ∧ ∀ t ∈ ts, okTr t
theorem tmpl_toks : ∀ {ts : List Trm}, (∀ t ∈ ts, okTr t) → okL (ts.length * 4) (tmplT ts)
  | [], _ => okL_nil
  | t :: ts, h => by
    have ih := tmpl_toks fun u hu => h u (List.mem_cons_of_mem _ hu)
    refine (okL_app (okL_cons (ok_mark 47) (okTr_toks (h t List.mem_cons_self))) ih).mono ?_
    rw [List.length_cons, Nat.add_mul]
    omega
theorem hd_ok (h : Hd) : okTok (.word (hdW h)) := by
  cases h with
  | path u => cases u <;> exact ⟨⟨by decide, by decide⟩, fun n e => by cases e⟩
  | many u => cases u <;> exact ⟨⟨by decide, by decide⟩, fun n e => by cases e⟩
  | _ => exact ⟨⟨by decide, by decide⟩, fun n e => by cases e⟩
theorem okS_body {s : Smp} (h : okS s) : okL 18 (toksB s) := by
  cases s with
  | tt => exact okL_nil.mono (Nat.zero_le _)
  | ff => exact okL_nil.mono (Nat.zero_le _)
  | is t u => exact (okL_app (okTr_toks h.1) (okL_cons (ok_mark 44) (okTr_toks h.2))).mono (by decide)
  | inn t s => exact (okL_app (okTr_toks h.1) (okL_cons (ok_mark 44) (okL_cons (ok_word h.2.1 h.2.2) okL_nil))).mono (by decide)
  | mem t s => exact (okL_app (okTr_toks h.1) (okL_cons (ok_mark 44) (okL_cons (ok_word h.2.1 h.2.2) okL_nil))).mono (by decide)
  | within s g =>
    cases g with
    | set w => exact (okL_cons (ok_word h.1.1 h.1.2) (okL_cons (ok_mark 44) (okL_cons (ok_word h.2.1 h.2.2) okL_nil))).mono (by decide)
    | names ws =>
      have hj : okL ((ws.map nameL).length * (1 + 1)) (joinC (ws.map nameL)) := okL_join fun x hx => by
        obtain ⟨w, hw, e⟩ := List.mem_map.mp hx
        rw [← e]
        exact okL_cons (ok_name (h.2.2 w hw).2) okL_nil
      refine (okL_cons (ok_word h.1.1 h.1.2) (okL_cons (ok_mark 44) (okL_cons (ok_mark 123) (okL_app hj (okL_cons (ok_mark 125) okL_nil))))).mono ?_
      have := h.2.1
      rw [List.length_map]
      omega
  | most x y c =>
    exact (okL_app (num_toks h.1) (okL_cons (ok_mark 44) (okL_app (num_toks h.2.1) (okL_cons (ok_mark 44) (okL_cons (ok_int h.2.2) okL_nil))))).mono (by decide)
  | path u p ts =>
    have hp : okL 13 (pathT ts) := by
      unfold pathT
      by_cases e : ts = []
      · rw [if_pos e]; exact (okL_cons (ok_mark 47) okL_nil).mono (by decide)
      · rw [if_neg e]; exact (tmpl_toks h.2.2).mono (by have := h.2.1; omega)
    exact (okL_cons (ok_word h.1.1 h.1.2) (okL_cons (ok_mark 44) hp)).mono (by decide)
theorem okS_toks {s : Smp} (h : okS s) : okL 21 (toksS s) := by
  have hb := okS_body h
  have all : okL 21 (.word (hdW (hdS s)) :: .mark 40 :: (toksB s ++ [.mark 41])) := okL_cons (hd_ok _) (okL_cons (ok_mark 40) (okL_app hb (okL_cons (ok_mark 41) okL_nil)))
  cases s with
  | tt => exact (okL_cons (show okTok (.word wYes) from ⟨⟨by decide, by decide⟩, fun n e => by cases e⟩) okL_nil).mono (by decide)
  | ff => exact (okL_cons (show okTok (.word wNo) from ⟨⟨by decide, by decide⟩, fun n e => by cases e⟩) okL_nil).mono (by decide)
  | _ => exact all
/-- how deep -/
def dOk : Nat → Cnd → Prop
  | 0, _ => False
  | _ + 1, .smp _ => True
  | n + 1, .not c => dOk n c
  | n + 1, .many _ cs => ∀ c ∈ cs, dOk n c
theorem ok_not {n : Nat} {c : Cnd} (h : okL n (toksC c)) : okL (n + 3) (toksC (.not c)) := by
  rw [toksC]
  exact okL_cons (hd_ok .not) (okL_cons (ok_mark 40) (okL_app h (okL_cons (ok_mark 41) okL_nil)))
theorem ok_many {n m : Nat} {b : Bool} {cs : List Cnd} (h : ∀ c ∈ cs, okL n (toksC c)) (hm : cs.length * (n + 1) + 3 ≤ m) : okL m (toksC (.many b cs)) := by
  rw [toksC.eq_3, toksCs_map]
  have hj : okL ((cs.map toksC).length * (n + 1)) (joinC (cs.map toksC)) := okL_join fun x hx => by
    obtain ⟨c, hc, e⟩ := List.mem_map.mp hx
    rw [← e]
    exact h c hc
  rw [List.length_map] at hj
  exact (okL_cons (hd_ok (.many b)) (okL_cons (ok_mark 40) (okL_app hj (okL_cons (ok_mark 41) okL_nil)))).mono hm
end Wm
end PartWm9
section PartBl2
set_option Elab.async false
set_option linter.all false
set_option maxRecDepth 100000
set_option maxHeartbeats 4000000
namespace Wk
open PySem PySem.Spec PyProof.Rows L2
open Wm (okW okTr okS okL okT okTok dOk)
def isW (z : V) : Prop := ∃ w : Wm.L, z = .str (sL w) ∧ okW w
def bW : V → Bool
  | .str x => decide (x.length ≠ 0) && decide (x.length ≤ 60)
  | _ => false
theorem isW_of {z : V} (h : bW z = true) : isW z := by
  cases z with
  | str x =>
    simp only [bW, Bool.and_eq_true, decide_eq_true_eq] at h
    refine ⟨x.cps.toList, by rw [sL_tl], fun e => h.1 ?_, ?_⟩
    · have e2 := congrArg List.length e
      exact e2
    · exact h.2
  | _ => cases h
theorem all_W {xs : List V} (h : xs.all bW = true) : ∀ z ∈ xs, isW z := fun z hz => isW_of (List.all_eq_true.mp h z hz)
section
variable {P : Program} {w : World} {K : PySem.W.Frag} {mg : Str → Option Value} {base : Heap} {C B : Addr}
abbrev s__law_cell : Stmt := topS 50
abbrev N__law_cell : List Str := ["_law_script", "_law_draws_here"]
theorem sc__law_cell : FnScope N__law_cell ["_law_script", "_law_draws_here"] (defScope s__law_cell) := ⟨rfl, rfl, rfl, by decide +kernel, rfl, by decide +kernel, by decide +kernel⟩
def sp_cell (K : PySem.W.Frag) : Sp := fun vs H Q _ => ∃ (a d : Addr) (ns : List Int), vs = [.ref a, .ref d] ∧ Dr H d ∧ (∀ H', SameBut d H H' → SqL K H' a (ns.map V.int)) ∧ ∀ (i : Int) H', Go d H H' → Q (.int i) H'
theorem ok__law_cell (G : Glob K mg) (D : Df K mg "_law_cell" s__law_cell ["_law_script", "_law_draws_here"]) (C__law_take : Cal P w K mg base CX0 1 "_law_take" ["_law_draws_here", "_law_many_here"] sp_take2) : Cal P w K mg base CX0 2 "_law_cell" ["_law_script", "_law_draws_here"] (sp_cell K) := by
  refine D.ok sc__law_cell (fun vs H Q E h => ?_) (fun f cdv A outer s H vs Q E hr h => ?_)
  · obtain ⟨a, d, ns, rfl, _⟩ := h
    rfl
  obtain ⟨a, d, ns, rfl, hd, ha, q⟩ := h
  refine ⟨_, (pss_cons (ps_if (pt_cmpR op_eq (pe_callB call_len_seq rfl G.len PySem.boot_len (pa_cons (pv 0) pa_nil)) pe_int (nomark _))
      (pss_one (ps_ret pe_int))
      pss_nil)
    (pss_one (ps_ret (pe_callTy call_int1 rfl G.int boot_int (pa_cons (pe_ix ix_list (pv 0) (pe_cal C__law_take (hr.mono (by decide)) pass0 (pa_cons (pv 1) (pa_cons (pe_callB call_len_seq rfl G.len PySem.boot_len (pa_cons (pv 0) pa_nil)) pa_nil))) (fun _ _ => rfl)) pa_nil))))), ?_⟩
  have ha0 := ha H SameBut.refl
  refine ⟨_, rfl, a, _, rfl, .inl ha0, rfl, _, rfl, ?_⟩
  refine ite2 (fun e => ?_) (fun e => ?_)
  · exact q 0 H hd.refl
  · have hne : ns ≠ [] := fun z => e (by rw [z]; exact decide_eq_true rfl)
    have hl := List.length_pos_iff.mpr hne
    refine ⟨_, rfl, _, rfl, _, rfl, a, _, rfl, .inl ha0, d, _, rfl, by rw [List.length_map]; omega, hd, fun r H' h0 h1 go => ?_⟩
    obtain ⟨z, hz, hat⟩ := pick (xs := ns.map V.int) h0 h1
    obtain ⟨n, hn, rfl⟩ := List.mem_map.mp hz
    exact ⟨a, _, _, _, rfl, rfl, ha H' go.1, hat, .inl ⟨_, rfl, q n H' go⟩⟩
abbrev s__law_word : Stmt := topS 51
abbrev N__law_word : List Str := ["_law_number", "_law_word_here", "_law_k"]
theorem sc__law_word : FnScope N__law_word ["_law_number"] (defScope s__law_word) := ⟨rfl, rfl, rfl, by decide +kernel, rfl, by decide +kernel, by decide +kernel⟩
def sp_word : Sp := fun vs H Q _ => ∃ n : Int, vs = [.int n] ∧ ∀ wd : Wm.L, wd.length ≤ 60 → (1 ≤ n → wd ≠ []) → Q (.str (sL wd)) H
theorem ok__law_word (G : Glob K mg) (D : Df K mg "_law_word" s__law_word ["_law_number"]) : Cal P w K mg base CX0 1 "_law_word" ["_law_number"] sp_word := by
  refine D.ok sc__law_word (fun vs H Q E h => ?_) (fun f cdv A outer s H vs Q E hr h => ?_)
  · obtain ⟨n, rfl, _⟩ := h
    rfl
  obtain ⟨n, rfl, q⟩ := h
  refine ⟨_, (pss_cons (ps_set (i := 1) sc__law_word.nd rfl (Or.inl rfl) pe_str)
    (pss_cons (ps_for PassesOwn.never rfl (pi_range1 rfl G.range (pa_cons pe_int pa_nil)) (pg_name (i := 2) sc__law_word.nd rfl (Or.inl rfl))
      (pss_cons (ps_if (pt_cmpR op_lt (pv 0) pe_int (nomark _))
        (pss_one ps_break)
        pss_nil)
      (pss_cons (ps_set (i := 1) sc__law_word.nd rfl (Or.inl rfl) (pe_op op_add_str (pe_ix ix_str pe_str (pe_op op_mod (pe_callTy call_int1 rfl G.int boot_int (pa_cons (pe_op op_sub (pv 0) pe_int) pa_nil)) pe_int) (fun _ _ => rfl)) (pv 1)))
      (pss_one (ps_set (i := 0) sc__law_word.nd rfl (Or.inl rfl) (pe_op op_fdiv (pe_op op_sub (pv 0) pe_int) pe_int))))))
    (pss_one (ps_ret (pv 1))))), ?_⟩
  refine ⟨60, rfl, by decide, by decide, for_range (n := 60) (fun i σ H' => H' = H ∧ ∃ (m : Int) (wd : Wm.L) (o : Option V), σ = [some (.int m), some (.str (sL wd)), o] ∧ wd.length ≤ i ∧ (i = 0 → m = n) ∧ (0 < i → wd ≠ [])) ⟨rfl, n, [], none, by rw [← nil_str] <;> rfl, Nat.le_refl _, fun _ => rfl, fun h => absurd h (Nat.lt_irrefl 0)⟩ ?_ ?_⟩
  · rintro i σ H' hi ⟨rfl, m, wd, o, rfl, hl, h0, h1⟩
    refine ⟨_, rfl, _, _, rfl, rfl, _, rfl, ?_⟩
    refine ite2 (fun e => ?_) (fun e => ?_)
    · have hm : m < 1 := of_decide_eq_true e
      refine ⟨_, rfl, q wd (by omega) fun hn => ?_⟩
      by_cases hi0 : i = 0
      · have := h0 hi0; omega
      · exact h1 (by omega)
    · have hlen : (Str.ofString "abcdefghijklmnopqrstuvwxyz").cps.toList.length = 26 := by decide +kernel
      obtain ⟨c, _, hc⟩ := pickN (l := (Str.ofString "abcdefghijklmnopqrstuvwxyz").cps.toList) (i := (m - 1) % 26) (Int.emod_nonneg _ (by decide)) (by rw [hlen]; exact Int.emod_lt_of_pos _ (by decide))
      refine ⟨_, rfl, _, _, rfl, rfl, .inl ⟨_, rfl, _, _, rfl, rfl, (by show (0 : Int) < _; decide), _, _, c, rfl, rfl, by decide +kernel, hc, _, rfl, _, _, rfl, rfl, ?_, ?_⟩⟩
      · rw [len_sL, sizeLine_eq]
        show 1 + _ ≤ _
        omega
      · rw [show (⟨#[c]⟩ : Str) = sL [c] from rfl, sL_app]
        refine ⟨_, rfl, _, _, rfl, rfl, _, _, rfl, rfl, ⟨by decide, by decide⟩, ?_⟩
        exact ⟨rfl, _, [c] ++ wd, _, rfl, by show wd.length + 1 ≤ i + 1; omega, fun h => absurd h (Nat.succ_ne_zero i), fun _ => by simp⟩
  · rintro σ H' ⟨rfl, m, wd, o, rfl, hl, h0, h1⟩
    exact ⟨_, rfl, q wd hl fun _ => h1 (by decide)⟩
abbrev s__law_some_word : Stmt := topS 52
abbrev N__law_some_word : List Str := ["_law_draws_here", "_law_number", "_law_great"]
theorem sc__law_some_word : FnScope N__law_some_word ["_law_draws_here"] (defScope s__law_some_word) := ⟨rfl, rfl, rfl, by decide +kernel, rfl, by decide +kernel, by decide +kernel⟩
def sp_some_word : Sp := fun vs H Q _ => ∃ d : Addr, vs = [.ref d] ∧ Dr H d ∧ ∀ (wd : Wm.L) H', okW wd → Go d H H' → Q (.str (sL wd)) H'
theorem ok__law_some_word (D : Df K mg "_law_some_word" s__law_some_word ["_law_draws_here"]) (C__law_take : Cal P w K mg base CX0 1 "_law_take" ["_law_draws_here", "_law_many_here"] sp_take2) (C__law_word : Cal P w K mg base CX0 1 "_law_word" ["_law_number"] sp_word) :
    Cal P w K mg base CX0 2 "_law_some_word" ["_law_draws_here"] sp_some_word := by
  refine D.ok sc__law_some_word (fun vs H Q E h => ?_) (fun f cdv A outer s H vs Q E hr h => ?_)
  · obtain ⟨d, rfl, _⟩ := h
    rfl
  obtain ⟨d, rfl, hd, q⟩ := h
  refine ⟨_, (pss_cons (ps_set (i := 1) sc__law_some_word.nd rfl (Or.inl rfl) (pe_cal C__law_take (hr.mono (by decide)) pass0 (pa_cons (pv 0) (pa_cons pe_int pa_nil))))
    (pss_cons (ps_if (pt_cmpR op_lt (pv 1) pe_int (nomark _))
      (pss_one (ps_ret (pe_cal C__law_word (hr.mono (by decide)) pass0 (pa_cons (pe_op op_add (pe_op op_add pe_int (pe_op op_mod (pv 1) pe_int)) (pe_op op_mul pe_int (pe_op op_mod (pe_op op_fdiv (pv 1) pe_int) pe_int))) pa_nil))))
      pss_nil)
    (pss_cons (ps_if (pt_cmpR op_lt (pv 1) pe_int (nomark _))
      (pss_one (ps_ret (pe_cal C__law_word (hr.mono (by decide)) pass0 (pa_cons (pe_op op_add pe_int (pe_cal C__law_take (hr.mono (by decide)) pass0 (pa_cons (pv 0) (pa_cons pe_int pa_nil)))) pa_nil))))
      pss_nil)
    (pss_cons (ps_set (i := 2) sc__law_some_word.nd rfl (Or.inl rfl) (pe_op op_add (pe_op op_mul pe_int (pe_cal C__law_take (hr.mono (by decide)) pass0 (pa_cons (pv 0) (pa_cons pe_int pa_nil)))) (pe_op op_mul pe_int (pe_cal C__law_take (hr.mono (by decide)) pass0 (pa_cons (pv 0) (pa_cons pe_int pa_nil))))))
    (pss_cons (ps_join <| ps_if (pt_cmpR op_ge (pv 1) pe_int (nomark _))
      (pss_one (ps_set (i := 2) sc__law_some_word.nd rfl (Or.inl rfl) (pe_op op_mul (pv 2) (pe_op op_pow pe_int pe_int))))
      pss_nil)
    (pss_one (ps_ret (pe_cal C__law_word (hr.mono (by decide)) pass0 (pa_cons (pe_op op_add (pe_op op_add pe_int (pv 2)) (pe_cal C__law_take (hr.mono (by decide)) pass0 (pa_cons (pv 0) (pa_cons pe_int pa_nil)))) pa_nil))))))))), ?_⟩
  refine ⟨_, rfl, d, _, rfl, by decide, hd, fun r H1 h0 h1 g1 => ?_⟩
  refine ⟨_, rfl, _, _, rfl, rfl, _, rfl, ?_⟩
  refine ite2 (fun e => ?_) (fun e => ?_)
  · refine ⟨_, rfl, _, _, rfl, rfl, (by show (0 : Int) < _; decide), _, _, rfl, rfl, _, rfl, _, _, rfl, rfl, ⟨by decide, by decide⟩, _, _, rfl, rfl, (by show (0 : Int) < _; decide), _, _, rfl, rfl, .inl ⟨by decide, by decide⟩, _, _, rfl, rfl, _, rfl, fun wd hl hne => q wd H1 ⟨hne ?_, hl⟩ g1⟩
    have a1 := Int.emod_nonneg r (show (6 : Int) ≠ 0 by decide)
    have a2 := Int.emod_nonneg (r / 6) (show (2 : Int) ≠ 0 by decide)
    omega
  refine ⟨_, rfl, _, _, rfl, rfl, _, rfl, ?_⟩
  refine ite2 (fun e => ?_) (fun e => ?_)
  · refine ⟨_, rfl, d, _, rfl, by decide, g1.2, fun r2 H2 h02 _ g2 => ⟨_, _, rfl, rfl, _, rfl, fun wd hl hne => q wd H2 ⟨hne (by omega), hl⟩ (g1.trans g2)⟩⟩
  refine ⟨_, rfl, d, _, rfl, by decide, g1.2, fun r2 H2 h02 _ g2 => ⟨_, _, rfl, rfl, .inl ⟨by decide, by decide⟩, _, rfl, d, _, rfl, by decide, g2.2, fun r3 H3 h03 _ g3 => ⟨_, _, rfl, rfl, .inl ⟨by decide, by decide⟩, _, _, rfl, rfl, ?_⟩⟩⟩
  refine ⟨fun σ H' => H' = H3 ∧ ∃ z : Int, 0 ≤ z ∧ σ = [some (.ref d), some (.int r), some (.int z)], ?_, ?_⟩
  · refine ⟨_, rfl, _, _, rfl, rfl, _, rfl, ?_⟩
    refine ite2 (fun e => ?_) (fun e => ?_)
    · refine ⟨_, rfl, _, _, rfl, rfl, ⟨by decide, by decide, by decide⟩, _, _, rfl, rfl, .inr ⟨by decide, by decide⟩, ?_⟩
      exact ⟨rfl, _, Int.mul_nonneg (by omega) (by decide), rfl⟩
    · exact ⟨rfl, _, by omega, rfl⟩
  · rintro σ H' ⟨rfl, z, hz, rfl⟩
    exact ⟨_, rfl, _, _, rfl, rfl, _, rfl, d, _, rfl, by decide, g3.2, fun r4 H4 h04 _ g4 => ⟨_, _, rfl, rfl, _, rfl, fun wd hl hne => q wd H4 ⟨hne (by omega), hl⟩ (g1.trans (g2.trans (g3.trans g4)))⟩⟩
abbrev s__law_char : Stmt := topS 55
abbrev N__law_char : List Str := ["_law_number", "_law_chars"]
theorem sc__law_char : FnScope N__law_char ["_law_number"] (defScope s__law_char) := ⟨rfl, rfl, rfl, by decide +kernel, rfl, by decide +kernel, by decide +kernel⟩
def sp_char : Sp := fun vs H Q _ => ∃ n : Int, vs = [.int n] ∧ ∀ c : Nat, Q (.str (sL [c])) H
theorem ok__law_char (D : Df K mg "_law_char" s__law_char ["_law_number"]) : Cal P w K mg base CX0 1 "_law_char" ["_law_number"] sp_char := by
  refine D.ok sc__law_char (fun vs H Q E h => ?_) (fun f cdv A outer s H vs Q E hr h => ?_)
  · obtain ⟨n, rfl, _⟩ := h
    rfl
  obtain ⟨n, rfl, q⟩ := h
  refine ⟨_, (pss_cons (ps_set (i := 1) sc__law_char.nd rfl (Or.inl rfl) pe_str)
    (pss_cons (ps_set (i := 1) sc__law_char.nd rfl (Or.inl rfl) (pe_op op_add_str (pv 1) pe_str))
    (pss_one (ps_ret (pe_ix ix_str (pv 1) (pe_op op_mod (pv 0) pe_int) (fun _ _ => rfl)))))), ?_⟩
  refine ⟨_, rfl, _, _, rfl, rfl, by decide +kernel, ?_⟩
  refine ⟨_, rfl, _, rfl, _, _, rfl, rfl, (by show (0 : Int) < _; decide), ?_⟩
  have fin : ∀ x : Str, x.cps.toList.length = 96 → rIxS (.str x) (.int (n % 96)) H fun y H' => Q y H' := fun x hx => by
    obtain ⟨c, _, hc⟩ := pickN (l := x.cps.toList) (i := n % 96) (Int.emod_nonneg _ (by decide)) (by rw [hx]; exact Int.emod_lt_of_pos _ (by decide))
    refine ⟨x, _, c, rfl, rfl, ?_, hc, q c⟩
    have : x.length = 96 := hx
    rw [this, sizeLine_eq]; omega
  exact fin _ (by decide +kernel)
abbrev s__law_text_word : Stmt := topS 56
abbrev N__law_text_word : List Str := ["_law_draws_here", "_law_known"]
theorem sc__law_text_word : FnScope N__law_text_word ["_law_draws_here"] (defScope s__law_text_word) := ⟨rfl, rfl, rfl, by decide +kernel, rfl, by decide +kernel, by decide +kernel⟩
theorem ok__law_text_word (D : Df K mg "_law_text_word" s__law_text_word ["_law_draws_here"]) (C__law_take : Cal P w K mg base CX0 1 "_law_take" ["_law_draws_here", "_law_many_here"] sp_take2) (C__law_some_word : Cal P w K mg base CX0 2 "_law_some_word" ["_law_draws_here"] sp_some_word) :
    Cal P w K mg base CX0 3 "_law_text_word" ["_law_draws_here"] sp_some_word := by
  refine D.ok sc__law_text_word (fun vs H Q E h => ?_) (fun f cdv A outer s H vs Q E hr h => ?_)
  · obtain ⟨d, rfl, _⟩ := h
    rfl
  obtain ⟨d, rfl, hd, q⟩ := h
  refine ⟨_, (pss_cons (ps_set (i := 1) sc__law_text_word.nd rfl (Or.inl rfl) (pe_lst (pa_cons pe_str (pa_cons pe_str (pa_cons pe_str (pa_cons pe_str (pa_cons pe_str (pa_cons pe_str (pa_cons pe_str (pa_cons pe_str (pa_cons pe_str (pa_cons pe_str (pa_cons pe_str (pa_cons pe_str (pa_cons pe_str (pa_cons pe_str pa_nil))))))))))))))))
    (pss_cons (ps_if (pt_cmpR op_eq (pe_cal C__law_take (hr.mono (by decide)) pass0 (pa_cons (pv 0) (pa_cons pe_int pa_nil))) pe_int (nomark _))
      (pss_one (ps_ret (pe_ix ix_list (pv 1) (pe_cal C__law_take (hr.mono (by decide)) pass0 (pa_cons (pv 0) (pa_cons pe_int pa_nil))) (fun _ _ => rfl))))
      pss_nil)
    (pss_one (ps_ret (pe_cal C__law_some_word (hr.mono (by decide)) pass0 (pa_cons (pv 0) pa_nil)))))), ?_⟩
  refine ⟨(by decide), fun l hl => ?_⟩
  have g0 := hd.refl.new (o := .lst [.str (Str.ofString "yes"), .str (Str.ofString "no"), .str (Str.ofString "is"), .str (Str.ofString "in"), .str (Str.ofString "within"), .str (Str.ofString "most"), .str (Str.ofString "member"), .str (Str.ofString "under"), .str (Str.ofString "at"), .str (Str.ofString "not"), .str (Str.ofString "all"), .str (Str.ofString "any"), .str (Str.ofString "permit"), .str (Str.ofString "forbid")]) hl
  refine ⟨_, rfl, d, _, rfl, by decide, g0.2, fun r H1 h0 h1 g1 => ?_⟩
  refine ⟨rfl, _, rfl, ?_⟩
  refine ite2 (fun e => ?_) (fun e => ?_)
  · refine ⟨_, rfl, _, rfl, d, _, rfl, by decide, g1.2, fun r2 H2 h02 h12 g2 => ?_⟩
    have hL := (g1.trans g2).1 _ _ (hd.ne hl) upd_same
    obtain ⟨z, hz, hat⟩ := pick (xs := [.str (Str.ofString "yes"), .str (Str.ofString "no"), .str (Str.ofString "is"), .str (Str.ofString "in"), .str (Str.ofString "within"), .str (Str.ofString "most"), .str (Str.ofString "member"), .str (Str.ofString "under"), .str (Str.ofString "at"), .str (Str.ofString "not"), .str (Str.ofString "all"), .str (Str.ofString "any"), .str (Str.ofString "permit"), .str (Str.ofString "forbid")]) h02 h12
    obtain ⟨wd, rfl, hw⟩ := all_W (by decide +kernel) z hz
    exact ⟨l, _, _, _, rfl, rfl, SqL.of hL, hat, q wd H2 hw (g0.trans (g1.trans g2))⟩
  · exact ⟨_, rfl, d, rfl, g1.2, fun wd H2 hw g2 => q wd H2 hw (g0.trans (g1.trans g2))⟩
end
end Wk
end PartBl2
section PartBl3
set_option Elab.async false
set_option linter.all false
set_option maxRecDepth 100000
set_option maxHeartbeats 4000000
namespace Wk
open PySem PySem.Spec PyProof.Rows L2
open Wm (okW okTr okS okL okT okTok dOk)
theorem Go.same {d : Addr} {H H1 : Hp} (h : Dr H d) (p : Addr) (u : HO) (e : H p = some u) (hne : p ≠ d) (g : Go d H H1) : H1 p = some u := g.1 _ _ hne e
/-- a new list, then a draw into it -/
theorem pick_new {K : PySem.W.Frag} {xs : List V} {H' : Hp} {l : Addr} {i : Int} {Q : VK} (h : H' l = some (.lst xs)) (h0 : 0 ≤ i) (h1 : i < (xs.length : Int)) (q : ∀ z ∈ xs, Q z H') : rIxL K (.ref l) (.int i) H' Q := by
  obtain ⟨z, hz, hat⟩ := pick h0 h1
  exact ⟨l, xs, i, z, rfl, rfl, SqL.of h, hat, q z hz⟩
section
variable {P : Program} {w : World} {K : PySem.W.Frag} {mg : Str → Option Value} {base : Heap} {C B : Addr}
abbrev s__law_term : Stmt := topS 57
abbrev N__law_term : List Str := ["_law_draws_here", "_law_names", "_law_shape"]
theorem sc__law_term : FnScope N__law_term ["_law_draws_here", "_law_names"] (defScope s__law_term) := ⟨rfl, rfl, rfl, by decide +kernel, rfl, by decide +kernel, by decide +kernel⟩
def sp_term : Sp := fun vs H Q _ => ∃ (d : Addr) (k : Int), vs = [.ref d, .int k] ∧ Dr H d ∧ ∀ (v : V) (t : Wm.Trm) H', TrmV H' v t → okTr t → Go d H H' → Q v H'
theorem ok__law_term (D : Df K mg "_law_term" s__law_term ["_law_draws_here", "_law_names"]) (C__law_take : Cal P w K mg base CX0 1 "_law_take" ["_law_draws_here", "_law_many_here"] sp_take2) (C__law_text_word : Cal P w K mg base CX0 3 "_law_text_word" ["_law_draws_here"] sp_some_word) :
    Cal P w K mg base CX0 4 "_law_term" ["_law_draws_here", "_law_names"] sp_term := by
  refine D.ok sc__law_term (fun vs H Q E h => ?_) (fun f cdv A outer s H vs Q E hr h => ?_)
  · obtain ⟨d, k, rfl, _⟩ := h
    rfl
  obtain ⟨d, k, rfl, hd, q⟩ := h
  refine ⟨_, (pss_cons (ps_set (i := 2) sc__law_term.nd rfl (Or.inl rfl) (pe_cal C__law_take (hr.mono (by decide)) pass0 (pa_cons (pv 0) (pa_cons pe_int pa_nil))))
    (pss_cons (ps_join <| ps_if (PW.pt (pw_and (pt_cmpR op_eq (pv 2) pe_int (nomark _)) (pw_and1 (pt_cmpR op_gt (pv 1) pe_int (nomark _)))))
      (pss_cons (ps_if (PW.pt (pw_and (pt_cmpR op_eq (pv 1) pe_int (nomark _)) (pw_and1 (pt_cmpR op_eq (pe_cal C__law_take (hr.mono (by decide)) pass0 (pa_cons (pv 0) (pa_cons pe_int pa_nil))) pe_int (nomark _)))))
        (pss_one (ps_ret (pe_tup (pa_cons pe_str (pa_cons pe_str pa_nil)))))
        pss_nil)
      (pss_one (ps_ret (pe_tup (pa_cons pe_str (pa_cons (pe_cal C__law_text_word (hr.mono (by decide)) pass0 (pa_cons (pv 0) pa_nil)) pa_nil))))))
      pss_nil)
    (pss_cons (ps_if (pt_cmpR op_eq (pv 2) pe_int (nomark _))
      (pss_one (ps_ret (pe_tup (pa_cons pe_str (pa_cons (pe_cal C__law_text_word (hr.mono (by decide)) pass0 (pa_cons (pv 0) pa_nil)) (pa_cons (pe_ix ix_list (pe_lst (pa_cons pe_int (pa_cons pe_int (pa_cons (pe_cal C__law_take (hr.mono (by decide)) pass0 (pa_cons (pv 0) (pa_cons pe_int pa_nil))) pa_nil)))) (pe_cal C__law_take (hr.mono (by decide)) pass0 (pa_cons (pv 0) (pa_cons pe_int pa_nil))) (fun _ _ => rfl)) pa_nil))))))
      pss_nil)
    (pss_one (ps_ret (pe_tup (pa_cons pe_str (pa_cons (pe_cal C__law_text_word (hr.mono (by decide)) pass0 (pa_cons (pv 0) pa_nil)) pa_nil)))))))), ?_⟩
  have fits2 : ∀ {a b : V}, ([a, b] : List V).length ≤ sizeLine := by intro a b; show 2 ≤ sizeLine; decide
  have fits3 : ∀ {a b c : V}, ([a, b, c] : List V).length ≤ sizeLine := by intro a b c; show 3 ≤ sizeLine; decide
  refine ⟨_, rfl, d, _, rfl, by decide, hd, fun r H1 h0 h1 g1 => ?_⟩
  refine ⟨fun σ H' => H' = H1 ∧ σ = [some (.ref d), some (.int k), some (.int r)], ?_, ?_⟩
  · refine ⟨_, rfl, rfl, _, rfl, ?_⟩
    refine ite2 (fun e => ?_) (fun e => ⟨rfl, rfl⟩)
    refine ⟨_, rfl, _, _, rfl, rfl, _, rfl, ?_⟩
    refine ite2 (fun e => ?_) (fun e => ⟨rfl, rfl⟩)
    have word : tRet (tTup (tCons (tC (.str (Str.ofString "name"))) (tCons (tCall sp_some_word [] E0 (tCons (tVar 0) tNil)) tNil))) { nx := fun _ _ => False, rt := Q } [some (.ref d), some (.int k), some (.int r)] H1 := by
      refine ⟨_, rfl, d, rfl, g1.2, fun wd H2 hw g2 => ⟨fits2, fun p hp => ?_⟩⟩
      exact q _ (.nm wd) _ ⟨p, rfl, upd_same⟩ hw.2 ((g1.trans g2).new hp)
    refine ⟨_, rfl, rfl, _, rfl, ?_⟩
    refine ite2 (fun e => ?_) (fun e => word)
    refine ⟨_, rfl, d, _, rfl, by decide, g1.2, fun r2 H2 _ _ g2 => ?_⟩
    refine ⟨rfl, _, rfl, ?_⟩
    refine ite2 (fun e => ⟨fits2, fun p hp => ?_⟩) (fun e => ?_)
    · exact q _ (.nm []) _ ⟨p, rfl, upd_same.trans (by rw [nil_str])⟩ (Nat.zero_le _) ((g1.trans g2).new hp)
    · refine ⟨_, rfl, d, rfl, g2.2, fun wd H3 hw g3 => ⟨fits2, fun p hp => ?_⟩⟩
      exact q _ (.nm wd) _ ⟨p, rfl, upd_same⟩ hw.2 ((g1.trans (g2.trans g3)).new hp)
  · rintro σ H' ⟨rfl, rfl⟩
    refine ⟨_, rfl, rfl, _, rfl, ?_⟩
    refine ite2 (fun e => ?_) (fun e => ?_)
    · refine ⟨_, rfl, d, rfl, g1.2, fun wd H2 hw g2 => ?_⟩
      refine ⟨_, rfl, d, _, rfl, by decide, g2.2, fun r3 H3 h03 h13 g3 => ⟨fits3, fun l hl => ?_⟩⟩
      have g4 := g3.new (o := .lst [.int 0, .int 40, .int r3]) hl
      refine ⟨_, rfl, d, _, rfl, by decide, g4.2, fun r5 H5 h05 h15 g5 => ?_⟩
      have hl5 := g5.1 _ _ (g3.2.ne hl) upd_same
      refine pick_new hl5 h05 h15 fun z hz => ⟨fits3, fun p hp => ?_⟩
      have hz' : ∃ i : Nat, z = .int (i : Int) ∧ i ≤ 40 := by
        simp only [List.mem_cons, List.not_mem_nil, or_false] at hz
        rcases hz with e | e | e
        · exact ⟨0, e, by decide⟩
        · exact ⟨40, e, by decide⟩
        · exact ⟨r3.toNat, by rw [e, Int.toNat_of_nonneg h03], by omega⟩
      obtain ⟨i, rfl, hi⟩ := hz'
      exact q _ (.part wd i) _ ⟨p, rfl, upd_same⟩ ⟨hw, hi⟩ ((g1.trans (g2.trans (g4.trans g5))).new hp)
    · refine ⟨_, rfl, d, rfl, g1.2, fun wd H2 hw g2 => ⟨fits2, fun p hp => ?_⟩⟩
      exact q _ (.fld wd) _ ⟨p, rfl, upd_same⟩ hw ((g1.trans g2).new hp)
abbrev s__law_bound : Stmt := topS 58
abbrev N__law_bound : List Str := ["_law_draws_here", "_law_great", "_law_small"]
theorem sc__law_bound : FnScope N__law_bound ["_law_draws_here", "_law_great"] (defScope s__law_bound) := ⟨rfl, rfl, rfl, by decide +kernel, rfl, by decide +kernel, by decide +kernel⟩
def sp_bound : Sp := fun vs H Q _ => ∃ (d : Addr) (g : Int), vs = [.ref d, .int g] ∧ (0 ≤ g ∧ g < 10 ^ 60) ∧ Dr H d ∧ ∀ (c : Int) H', c.natAbs < 10 ^ 60 → Go d H H' → Q (.int c) H'
theorem ok__law_bound (D : Df K mg "_law_bound" s__law_bound ["_law_draws_here", "_law_great"]) (C__law_take : Cal P w K mg base CX0 1 "_law_take" ["_law_draws_here", "_law_many_here"] sp_take2) :
    Cal P w K mg base CX0 2 "_law_bound" ["_law_draws_here", "_law_great"] sp_bound := by
  refine D.ok sc__law_bound (fun vs H Q E h => ?_) (fun f cdv A outer s H vs Q E hr h => ?_)
  · obtain ⟨d, g, rfl, _⟩ := h
    rfl
  obtain ⟨d, g, rfl, hg, hd, q⟩ := h
  refine ⟨_, (pss_cons (ps_set (i := 2) sc__law_bound.nd rfl (Or.inl rfl) (pe_op op_sub (pe_cal C__law_take (hr.mono (by decide)) pass0 (pa_cons (pv 0) (pa_cons pe_int pa_nil))) pe_int))
    (pss_one (ps_ret (pe_ix ix_list (pe_lst (pa_cons pe_int (pa_cons (pv 2) (pa_cons (pv 1) (pa_cons (pe_un un_neg (pv 1)) (pa_cons (pe_op op_sub (pe_op op_pow pe_int pe_int) pe_int) (pa_cons (pe_op op_sub pe_int (pe_op op_pow pe_int pe_int)) (pa_cons (pe_op op_pow pe_int pe_int) (pa_cons (pv 2) pa_nil))))))))) (pe_cal C__law_take (hr.mono (by decide)) pass0 (pa_cons (pv 0) (pa_cons pe_int pa_nil))) (fun _ _ => rfl))))), ?_⟩
  refine ⟨_, rfl, d, _, rfl, by decide, hd, fun r H1 h0 h1 g1 => ?_⟩
  refine ⟨_, _, rfl, rfl, ?_⟩
  refine ⟨_, rfl, _, rfl, _, rfl, _, rfl, _, _, rfl, rfl, ⟨by decide, by decide, by decide⟩, _, _, rfl, rfl, _, _, rfl, rfl, ⟨by decide, by decide, by decide⟩, _, _, rfl, rfl, _, _, rfl, rfl, ⟨by decide, by decide, by decide⟩, _, rfl, (by show 8 ≤ sizeLine; decide), fun l hl => ?_⟩
  have p60 : (10 : Int) ^ ((60 : Int).toNat) = 10 ^ 60 := rfl
  have p59 : (10 : Int) ^ ((59 : Int).toNat) = 10 ^ 59 := rfl
  have n60 : (10 : Nat) ^ 60 = 1000000000000000000000000000000000000000000000000000000000000 := by decide +kernel
  have i60 : (10 : Int) ^ 60 = 1000000000000000000000000000000000000000000000000000000000000 := by decide +kernel
  have i59 : (10 : Int) ^ 59 = 100000000000000000000000000000000000000000000000000000000000 := by decide +kernel
  have g2 := g1.new (o := .lst [.int 0, .int (r - 100), .int g, .int (-g), .int ((10 : Int) ^ ((60 : Int).toNat) - 1), .int (1 - (10 : Int) ^ ((60 : Int).toNat)), .int ((10 : Int) ^ ((59 : Int).toNat)), .int (r - 100)]) hl
  refine ⟨_, rfl, d, _, rfl, by decide, g2.2, fun r3 H3 h03 h13 g3 => ?_⟩
  have hl3 := g3.1 _ _ (g1.2.ne hl) upd_same
  refine pick_new hl3 h03 h13 fun z hz => ?_
  have hz' : ∃ c : Int, z = .int c ∧ c.natAbs < 10 ^ 60 := by
    rw [i60] at hg
    rw [n60]
    simp only [List.mem_cons, List.not_mem_nil, or_false] at hz
    rcases hz with e | e | e | e | e | e | e | e
    · exact ⟨_, e, by decide⟩
    · exact ⟨_, e, by omega⟩
    · exact ⟨_, e, by omega⟩
    · exact ⟨_, e, by omega⟩
    · exact ⟨_, e, by rw [p60, i60]; decide⟩
    · exact ⟨_, e, by rw [p60, i60]; decide⟩
    · exact ⟨_, e, by rw [p59, i59]; decide⟩
    · exact ⟨_, e, by omega⟩
  obtain ⟨c, rfl, hc⟩ := hz'
  exact q c H3 hc (g2.trans g3)
end
end Wk
end PartBl3
section PartBl4
set_option Elab.async false
set_option linter.all false
set_option maxRecDepth 100000
set_option maxHeartbeats 4000000
namespace Wk
open PySem PySem.Spec PyProof.Rows L2
open Wm (okW okTr okS okL okT okTok dOk)
theorem words_of {ys : List V} (h : ∀ y ∈ ys, isW y) : ∃ ws : List Wm.L, ys = (ws.map sL).map V.str ∧ ∀ w ∈ ws, okW w := by
  induction ys with
  | nil => exact ⟨[], rfl, fun w h => absurd h List.not_mem_nil⟩
  | cons y ys ih =>
    obtain ⟨ws, e, hw⟩ := ih fun z hz => h z (List.mem_cons_of_mem _ hz)
    obtain ⟨w, rfl, ho⟩ := h y List.mem_cons_self
    refine ⟨w :: ws, by rw [e] <;> rfl, fun u hu => ?_⟩
    rcases List.mem_cons.mp hu with z | z
    · rw [z]; exact ho
    · exact hw u z
theorem terms_of {H : Hp} {ys : List V} (h : ∀ y ∈ ys, ∃ t, TrmV H y t ∧ okTr t) : ∃ ts : List Wm.Trm, TrmsV H ys ts ∧ ts.length = ys.length ∧ ∀ t ∈ ts, okTr t := by
  induction ys with
  | nil => exact ⟨[], trivial, rfl, fun w h => absurd h List.not_mem_nil⟩
  | cons y ys ih =>
    obtain ⟨ts, e, hl, hw⟩ := ih fun z hz => h z (List.mem_cons_of_mem _ hz)
    obtain ⟨t, ht, ho⟩ := h y List.mem_cons_self
    refine ⟨t :: ts, ⟨ht, e⟩, by rw [List.length_cons, List.length_cons, hl], fun u hu => ?_⟩
    rcases List.mem_cons.mp hu with z | z
    · rw [z]; exact ho
    · exact hw u z
theorem conds_of {H : Hp} {R : Wm.Cnd → Prop} {ys : List V} (h : ∀ y ∈ ys, ∃ c, CndV H c y ∧ R c) : ∃ cs : List Wm.Cnd, CndsV H cs ys ∧ cs.length = ys.length ∧ ∀ c ∈ cs, R c := by
  induction ys with
  | nil => exact ⟨[], by rw [CndsV], rfl, fun w h => absurd h List.not_mem_nil⟩
  | cons y ys ih =>
    obtain ⟨cs, e, hl, hw⟩ := ih fun z hz => h z (List.mem_cons_of_mem _ hz)
    obtain ⟨c, hc, ho⟩ := h y List.mem_cons_self
    refine ⟨c :: cs, by rw [CndsV]; exact ⟨y, ys, rfl, hc, e⟩, by rw [List.length_cons, List.length_cons, hl], fun u hu => ?_⟩
    rcases List.mem_cons.mp hu with z | z
    · rw [z]; exact ho
    · exact hw u z
def isE (z : V) : Prop := ∃ w : Wm.L, z = .str (sL w) ∧ w.length ≤ 60
section
variable {P : Program} {w : World} {K : PySem.W.Frag} {mg : Str → Option Value} {base : Heap} {C B : Addr}
abbrev s__law_simple : Stmt := topS 59
abbrev N__law_simple : List Str := ["_law_draws_here", "_law_great", "_law_kind", "_law_word_here", "_law_names", "_law_both", "_law_k"]
theorem sc__law_simple : FnScope N__law_simple ["_law_draws_here", "_law_great"] (defScope s__law_simple) := ⟨rfl, rfl, rfl, by decide +kernel, rfl, by decide +kernel, by decide +kernel⟩
def sp_simple : Sp := fun vs H Q _ => ∃ (d : Addr) (g : Int), vs = [.ref d, .int g] ∧ (0 ≤ g ∧ g < 10 ^ 60) ∧ Dr H d ∧ ∀ (v : V) (s : Wm.Smp) H', SmpV H' v s → okS s → Go d H H' → Q v H'
theorem ok__law_simple (G : Glob K mg) (D : Df K mg "_law_simple" s__law_simple ["_law_draws_here", "_law_great"]) (C__law_take : Cal P w K mg base CX0 1 "_law_take" ["_law_draws_here", "_law_many_here"] sp_take2) (C__law_text_word : Cal P w K mg base CX0 3 "_law_text_word" ["_law_draws_here"] sp_some_word)
    (C__law_term : Cal P w K mg base CX0 4 "_law_term" ["_law_draws_here", "_law_names"] sp_term) (C__law_bound : Cal P w K mg base CX0 2 "_law_bound" ["_law_draws_here", "_law_great"] sp_bound) :
    Cal P w K mg base CX0 5 "_law_simple" ["_law_draws_here", "_law_great"] sp_simple := by
  refine D.ok sc__law_simple (fun vs H Q E h => ?_) (fun f cdv A outer s H vs Q E hr h => ?_)
  · obtain ⟨d, g, rfl, _⟩ := h
    rfl
  obtain ⟨d, g, rfl, hg, hd, q⟩ := h
  refine ⟨_, (pss_cons (ps_set (i := 2) sc__law_simple.nd rfl (Or.inl rfl) (pe_cal C__law_take (hr.mono (by decide)) pass0 (pa_cons (pv 0) (pa_cons pe_int pa_nil))))
    (pss_cons (ps_if (pt_cmpR op_eq (pv 2) pe_int (nomark _))
      (pss_one (ps_ret (pe_tup (pa_cons (pe_ix ix_list (pe_lst (pa_cons pe_str (pa_cons pe_str pa_nil))) (pe_cal C__law_take (hr.mono (by decide)) pass0 (pa_cons (pv 0) (pa_cons pe_int pa_nil))) (fun _ _ => rfl)) pa_nil))))
      pss_nil)
    (pss_cons (ps_if (pt_cmpR op_eq (pv 2) pe_int (nomark _))
      (pss_one (ps_ret (pe_tup (pa_cons pe_str (pa_cons (pe_cal C__law_term (hr.mono (by decide)) pass0 (pa_cons (pv 0) (pa_cons pe_int pa_nil))) (pa_cons (pe_cal C__law_term (hr.mono (by decide)) pass0 (pa_cons (pv 0) (pa_cons pe_int pa_nil))) pa_nil))))))
      pss_nil)
    (pss_cons (ps_if (pt_cmpR op_eq (pv 2) pe_int (nomark _))
      (pss_one (ps_ret (pe_tup (pa_cons pe_str (pa_cons (pe_cal C__law_term (hr.mono (by decide)) pass0 (pa_cons (pv 0) (pa_cons pe_int pa_nil))) (pa_cons (pe_cal C__law_text_word (hr.mono (by decide)) pass0 (pa_cons (pv 0) pa_nil)) pa_nil))))))
      pss_nil)
    (pss_cons (ps_if (pt_cmpR op_eq (pv 2) pe_int (nomark _))
      (pss_one (ps_ret (pe_tup (pa_cons pe_str (pa_cons (pe_cal C__law_term (hr.mono (by decide)) pass0 (pa_cons (pv 0) (pa_cons pe_int pa_nil))) (pa_cons (pe_cal C__law_text_word (hr.mono (by decide)) pass0 (pa_cons (pv 0) pa_nil)) pa_nil))))))
      pss_nil)
    (pss_cons (ps_set (i := 3) sc__law_simple.nd rfl (Or.inl rfl) (pe_cal C__law_text_word (hr.mono (by decide)) pass0 (pa_cons (pv 0) pa_nil)))
    (pss_cons (ps_if (pt_cmpR op_eq (pv 2) pe_int (nomark _))
      (pss_one (ps_ret (pe_tup (pa_cons pe_str (pa_cons (pv 3) (pa_cons (pe_tup (pa_cons pe_str (pa_cons (pe_cal C__law_text_word (hr.mono (by decide)) pass0 (pa_cons (pv 0) pa_nil)) pa_nil))) pa_nil))))))
      pss_nil)
    (pss_cons (ps_if (pt_cmpR op_eq (pv 2) pe_int (nomark _))
      (pss_cons (ps_set (i := 4) sc__law_simple.nd rfl (Or.inl rfl) (pe_sortedSet G (pe_lc (own := [("_law_k", 6)]) (g := gName 6) (tt := tYes) rfl sc__law_simple.nd (pi_range1 rfl G.range (pa_cons (pe_cal C__law_take (hr.mono (by decide)) pass0 (pa_cons (pv 0) (pa_cons (pe_ix ix_list (pe_lst (pa_cons pe_int (pa_cons pe_int (pa_cons pe_int pa_nil)))) (pe_cal C__law_take (hr.mono (by decide)) pass0 (pa_cons (pv 0) (pa_cons pe_int pa_nil))) (fun _ _ => rfl)) pa_nil))) pa_nil)) (blkOk_by (N := N__law_simple) (sc := defScope s__law_simple) (by decide +kernel)) (fun _ _ _ _ _ => pg_name (i := 6) sc__law_simple.nd rfl (Or.inl rfl)) (fun _ _ _ _ _ => pts_nil) (fun _ _ _ _ _ => (pe_cal C__law_text_word (hr.mono (by decide)) pass0 (pa_cons (pv 0) pa_nil))))))
      (pss_one (ps_ret (pe_tup (pa_cons pe_str (pa_cons (pv 3) (pa_cons (pe_tup (pa_cons pe_str (pa_cons (pe_callTy call_tuple_of rfl G.tuple boot_tuple (pa_cons (pv 4) pa_nil)) pa_nil))) pa_nil)))))))
      pss_nil)
    (pss_cons (ps_if (pt_cmpR op_lt (pv 2) pe_int (nomark _))
      (pss_cons (ps_setLc (i := 5) (own := [("_law_k", 6)]) (g := gName 6) (tt := tYes) rfl sc__law_simple.nd rfl rfl (sw_true rfl rfl rfl (by decide +kernel)) (pi_range1 rfl G.range (pa_cons pe_int pa_nil)) (blkOk_by (N := N__law_simple) (sc := defScope s__law_simple) (by decide +kernel)) (fun _ _ _ _ _ => pg_name (i := 6) sc__law_simple.nd rfl (Or.inl rfl)) (fun _ _ _ _ _ => pts_nil) (fun _ _ _ _ _ => (pe_ix (show IxR _ (rIxL K) from ix_list) (pe_lst (pa_cons pe_str (pa_cons (pe_cal C__law_text_word (hr.mono (by decide)) pass0 (pa_cons (pv 0) pa_nil)) pa_nil))) (pe_cal C__law_take (hr.mono (by decide)) pass0 (pa_cons (pv 0) (pa_cons pe_int pa_nil))) (fun _ _ => rfl))))
      (pss_one (ps_ret (pe_tup (pa_cons pe_str (pa_cons (pe_ix ix_list (pv 5) pe_int (fun _ _ => rfl)) (pa_cons (pe_ix ix_list (pv 5) pe_int (fun _ _ => rfl)) (pa_cons (pe_cal C__law_bound (hr.mono (by decide)) pass0 (pa_cons (pv 0) (pa_cons (pv 1) pa_nil))) pa_nil))))))))
      pss_nil)
    (pss_one (ps_ret (pe_tup (pa_cons (pe_ix ix_list (pe_lst (pa_cons pe_str (pa_cons pe_str pa_nil))) (pe_op op_sub (pv 2) pe_int) (fun _ _ => rfl)) (pa_cons (pv 3) (pa_cons (pe_callTy call_tuple_of rfl G.tuple boot_tuple (pa_cons (pe_lc (own := [("_law_k", 6)]) (g := gName 6) (tt := tYes) rfl sc__law_simple.nd (pi_range1 rfl G.range (pa_cons (pe_cal C__law_take (hr.mono (by decide)) pass0 (pa_cons (pv 0) (pa_cons pe_int pa_nil))) pa_nil)) (blkOk_by (N := N__law_simple) (sc := defScope s__law_simple) (by decide +kernel)) (fun _ _ _ _ _ => pg_name (i := 6) sc__law_simple.nd rfl (Or.inl rfl)) (fun _ _ _ _ _ => pts_nil) (fun _ _ _ _ _ => (pe_cal C__law_term (hr.mono (by decide)) pass0 (pa_cons (pv 0) (pa_cons pe_int pa_nil))))) pa_nil)) pa_nil))))))))))))))), ?_⟩
  have fits1 : ∀ {a : V}, ([a] : List V).length ≤ sizeLine := by intro a; show 1 ≤ sizeLine; decide
  have fits2 : ∀ {a b : V}, ([a, b] : List V).length ≤ sizeLine := by intro a b; show 2 ≤ sizeLine; decide
  have fits3 : ∀ {a b c : V}, ([a, b, c] : List V).length ≤ sizeLine := by intro a b c; show 3 ≤ sizeLine; decide
  have fits4 : ∀ {a b c e : V}, ([a, b, c, e] : List V).length ≤ sizeLine := by intro a b c e; show 4 ≤ sizeLine; decide
  refine ⟨_, rfl, d, _, rfl, by decide, hd, fun r H1 h0 h1 g1 => ?_⟩
  refine ⟨_, rfl, rfl, _, rfl, ?_⟩
  refine ite2 (fun e => ?_) (fun e0 => ?_)
  · refine ⟨fits2, fun l hl => ?_⟩
    have g2 := g1.new (o := .lst [.str (Str.ofString "true"), .str (Str.ofString "false")]) hl
    refine ⟨_, rfl, d, _, rfl, by decide, g2.2, fun r3 H3 h03 h13 g3 => ?_⟩
    have hl3 := g3.1 _ _ (g1.2.ne hl) upd_same
    refine pick_new hl3 h03 h13 fun z hz => ⟨fits1, fun p hp => ?_⟩
    simp only [List.mem_cons, List.not_mem_nil, or_false] at hz
    rcases hz with e | e
    · subst e; exact q _ .tt _ ⟨p, rfl, upd_same⟩ trivial ((g2.trans g3).new hp)
    · subst e; exact q _ .ff _ ⟨p, rfl, upd_same⟩ trivial ((g2.trans g3).new hp)
  refine ⟨_, rfl, rfl, _, rfl, ?_⟩
  refine ite2 (fun e => ?_) (fun e1 => ?_)
  · refine ⟨_, rfl, d, _, rfl, g1.2, fun v2 t2 H2 hv2 ht2 g2 => ⟨_, rfl, d, _, rfl, g2.2, fun v3 t3 H3 hv3 ht3 g3 => ⟨fits3, fun p hp => ?_⟩⟩⟩
    exact q _ (.is t2 t3) _ ⟨p, v2, v3, rfl, upd_same.trans (by rw [l_is]), (hv2.keep (g3.tups g2.2)).keep (Same.tups (Same.new hp)), hv3.keep (Same.tups (Same.new hp))⟩ ⟨ht2, ht3⟩ ((g1.trans (g2.trans g3)).new hp)
  refine ⟨_, rfl, rfl, _, rfl, ?_⟩
  refine ite2 (fun e => ?_) (fun e2 => ?_)
  · refine ⟨_, rfl, d, _, rfl, g1.2, fun v2 t2 H2 hv2 ht2 g2 => ⟨_, rfl, d, rfl, g2.2, fun wd H3 hw g3 => ⟨fits3, fun p hp => ?_⟩⟩⟩
    exact q _ (.inn t2 wd) _ ⟨p, v2, rfl, upd_same.trans (by rw [l_in]), (hv2.keep (g3.tups g2.2)).keep (Same.tups (Same.new hp))⟩ ⟨ht2, hw⟩ ((g1.trans (g2.trans g3)).new hp)
  refine ⟨_, rfl, rfl, _, rfl, ?_⟩
  refine ite2 (fun e => ?_) (fun e3 => ?_)
  · refine ⟨_, rfl, d, _, rfl, g1.2, fun v2 t2 H2 hv2 ht2 g2 => ⟨_, rfl, d, rfl, g2.2, fun wd H3 hw g3 => ⟨fits3, fun p hp => ?_⟩⟩⟩
    exact q _ (.mem t2 wd) _ ⟨p, v2, rfl, upd_same.trans (by rw [l_member]), (hv2.keep (g3.tups g2.2)).keep (Same.tups (Same.new hp))⟩ ⟨ht2, hw⟩ ((g1.trans (g2.trans g3)).new hp)
  refine ⟨_, rfl, d, rfl, g1.2, fun wd H2 hw g2' => ?_⟩
  have g2 := g1.trans g2'
  refine ⟨_, rfl, rfl, _, rfl, ?_⟩
  refine ite2 (fun e => ?_) (fun e4 => ?_)
  · refine ⟨_, rfl, _, rfl, d, rfl, g2.2, fun w3 H3 hw3 g3 => ⟨fits2, fun p hp => ⟨fits3, fun p2 hp2 => ?_⟩⟩⟩
    refine q _ (.within wd (.set w3)) _ ⟨p2, .ref p, rfl, upd_same.trans (by rw [l_within]), p, rfl, ?_⟩ ⟨hw, hw3⟩ (((g2.trans g3).new hp).new hp2)
    exact Same.new hp2 _ _ (upd_same.trans (by rw [l_set]))
  refine ⟨_, rfl, rfl, _, rfl, ?_⟩
  refine ite2 (fun e => ?_) (fun e5 => ?_)
  · refine ⟨_, rfl, fits3, fun l hl => ?_⟩
    have g3 := g2.new (o := .lst [.int 4, .int 4, .int 8]) hl
    refine ⟨_, rfl, d, _, rfl, by decide, g3.2, fun r4 H4 h04 h14 g4 => ?_⟩
    have hl4 := g4.1 _ _ (g2.2.ne hl) upd_same
    refine pick_new hl4 h04 h14 fun z hz => ?_
    have hz' : ∃ m : Int, z = .int m ∧ 0 < m ∧ m ≤ 8 := by
      simp only [List.mem_cons, List.not_mem_nil, or_false] at hz
      rcases hz with e | e | e <;> exact ⟨_, e, by decide, by decide⟩
    obtain ⟨m, rfl, hm0, hm8⟩ := hz'
    refine ⟨d, _, rfl, hm0, g4.2, fun r5 H5 h05 h15 g5 => ⟨_, rfl, by omega, by omega, fun D hD => ?_⟩⟩
    refine lc_draw (fun y _ => isW y) (by rw [sizeLine_eq]; omega) hD g5.2 ?_ (fun y H' H'' h _ => h) ?_ ?_
    · intro x; rfl
    · intro i H' R go hR
      exact ⟨_, rfl, d, rfl, go.2, fun wd H'' hw g => hR _ H'' ⟨wd, rfl, hw⟩ g⟩
    intro H6 ys g6 hys hlen hall
    obtain ⟨ws, rfl, hws⟩ := words_of hall
    rw [List.length_map, List.length_map] at hlen
    refine ⟨D, ws.map sL, rfl, .inl (SqL.of hys), by rw [List.length_map]; unfold scanBound; omega, fun p zs hp h1 h2 h3 h4 => ?_⟩
    have hzs : ∀ y ∈ zs.map V.str, isW y := fun y hy => by
      obtain ⟨x, hx, rfl⟩ := List.mem_map.mp hy
      obtain ⟨u, hu, rfl⟩ := List.mem_map.mp ((h3 x).mp hx)
      exact ⟨u, rfl, hws u hu⟩
    obtain ⟨us, eus, hus⟩ := words_of hzs
    have hlu : us.length ≤ 7 := by
      have := congrArg List.length eus
      rw [List.length_map, List.length_map, List.length_map] at this
      rw [List.length_map] at h4
      omega
    rw [eus]
    have g7 := ((g3.trans (g4.trans (g5.trans g6))).new (o := .lst ((us.map sL).map V.str)) hp)
    refine ⟨_, rfl, _, rfl, p, _, rfl, .inl ⟨SqL.of upd_same, fun p2 hp2 => ⟨fits2, fun p3 hp3 => ⟨fits3, fun p4 hp4 => ?_⟩⟩⟩⟩
    refine q _ (.within wd (.names us)) _ ⟨p4, .ref p3, rfl, upd_same.trans (by rw [l_within]), p3, p2, rfl, ?_, ?_⟩ ⟨hw, hlu, hus⟩ (((g7.new hp2).new hp3).new hp4)
    · exact Same.new hp4 _ _ (upd_same.trans (by rw [l_names]))
    · exact Same.new hp4 _ _ (Same.new hp3 _ _ (upd_same.trans (by rw [List.map_map] <;> rfl)))
  refine ⟨_, rfl, _, _, rfl, rfl, _, rfl, ?_⟩
  refine ite2 (fun e => ?_) (fun e8 => ?_)
  · refine ⟨2, rfl, by decide, by decide, fun D hD => ?_⟩
    refine lc_draw (n := 2) (fun y _ => isE y) (by decide) hD g2.2 ?_ (fun y H' H'' h _ => h) ?_ ?_
    · intro x; rfl
    · intro i H' R go hR
      refine ⟨_, rfl, d, rfl, go.2, fun w3 H3 hw3 g3 => ⟨fits2, fun l hl => ?_⟩⟩
      have g4 := g3.new (o := .lst [.str (Str.ofString ""), .str (sL w3)]) hl
      refine ⟨_, rfl, d, _, rfl, by decide, g4.2, fun r5 H5 h05 h15 g5 => ?_⟩
      have hl5 := g5.1 _ _ (g3.2.ne hl) upd_same
      refine pick_new hl5 h05 h15 fun z hz => hR z H5 ?_ (g4.trans g5)
      simp only [List.mem_cons, List.not_mem_nil, or_false] at hz
      rcases hz with e | e
      · exact ⟨[], by rw [e, nil_str], Nat.zero_le _⟩
      · exact ⟨w3, e, hw3.2⟩
    intro H6 ys g6 hys hlen hall
    match ys, hlen, hall, hys with
    | [y1, y2], _, hall, hys =>
      obtain ⟨w1, rfl, hw1⟩ := hall y1 (by simp)
      obtain ⟨w2, rfl, hw2⟩ := hall y2 (by simp)
      refine ⟨_, rfl, D, _, 0, _, rfl, rfl, SqL.of hys, atI_nat (j := 0) rfl, _, rfl, D, _, 1, _, rfl, rfl, SqL.of hys, atI_nat (j := 1) rfl, _, rfl, _, rfl, d, g, rfl, hg, g6.2, fun c H7 hc g7 => ⟨fits4, fun p hp => ?_⟩⟩
      exact q _ (.most w1 w2 c) _ ⟨p, rfl, upd_same.trans (by rw [l_most])⟩ ⟨hw1, hw2, hc⟩ ((g2.trans (g6.trans g7)).new hp)
  · have hr8 : ¬ r < 8 := fun z => e8 (decide_eq_true z)
    refine ⟨fits2, fun l hl => ?_⟩
    have g3 := g2.new (o := .lst [.str (Str.ofString "under"), .str (Str.ofString "at")]) hl
    refine ⟨_, rfl, _, _, rfl, rfl, ?_⟩
    refine pick_new upd_same (by omega) (by show r - 8 < ((2 : Nat) : Int); omega) fun z hz => ?_
    have hz' : ∃ u, z = .str (sL (Wm.hdW (.path u))) := by
      simp only [List.mem_cons, List.not_mem_nil, or_false] at hz
      rcases hz with e | e
      · exact ⟨true, by rw [e, l_under] <;> rfl⟩
      · exact ⟨false, by rw [e, l_at] <;> rfl⟩
    obtain ⟨u, rfl⟩ := hz'
    refine ⟨_, rfl, _, rfl, d, _, rfl, by decide, g3.2, fun r5 H5 h05 h15 g5 => ⟨_, rfl, by omega, by omega, fun D hD => ?_⟩⟩
    refine lc_draw (fun y H => ∃ t, TrmV H y t ∧ okTr t) (by rw [sizeLine_eq]; omega) hD g5.2 ?_ (fun y H' H'' h k => ?_) ?_ ?_
    · intro x; rfl
    · obtain ⟨t, h1, h2⟩ := h
      exact ⟨t, h1.keep k, h2⟩
    · intro i H' R go hR
      exact ⟨_, rfl, d, _, rfl, go.2, fun v t H'' hv ht g => hR _ H'' ⟨t, hv, ht⟩ g⟩
    intro H6 ys g6 hys hlen hall
    obtain ⟨ts, hts, hlt, hok⟩ := terms_of hall
    refine ⟨D, ys, rfl, .inl ⟨SqL.of hys, fun p2 hp2 => ⟨fits3, fun p3 hp3 => ?_⟩⟩⟩
    refine q _ (.path u wd ts) _ ⟨p3, p2, ys, rfl, upd_same, Same.new hp3 _ _ upd_same, (hts.keep (Same.tups (Same.new hp2))).keep (Same.tups (Same.new hp3))⟩ ⟨hw, by omega, hok⟩ (((g3.trans (g5.trans g6)).new hp2).new hp3)
end
end Wk
end PartBl4
section PartBl5
set_option Elab.async false
set_option linter.all false
set_option maxRecDepth 100000
set_option maxHeartbeats 4000000
namespace Wk
open PySem PySem.Spec PyProof.Rows L2
open Wm (okW okTr okS okL okT okTok dOk)
/-- how many tokens at most -/
def bnd : Nat → Nat
  | 0 => 0
  | 1 => 21
  | n + 2 => (n + 2) * (bnd (n + 1) + 1) + 3
theorem bnd_ge : ∀ n, 21 ≤ bnd (n + 1)
  | 0 => Nat.le_refl _
  | n + 1 => by
    have := bnd_ge n
    show 21 ≤ (n + 2) * (bnd (n + 1) + 1) + 3
    have h2 : 1 * (bnd (n + 1) + 1) ≤ (n + 2) * (bnd (n + 1) + 1) := Nat.mul_le_mul_right _ (by omega)
    omega
theorem bnd_not (n : Nat) : bnd (n + 1) + 3 ≤ bnd (n + 2) := by
  show _ ≤ (n + 2) * (bnd (n + 1) + 1) + 3
  have h2 : 1 * (bnd (n + 1) + 1) ≤ (n + 2) * (bnd (n + 1) + 1) := Nat.mul_le_mul_right _ (by omega)
  omega
def madeC (n : Nat) (c : Wm.Cnd) : Prop := dOk n c ∧ okL (bnd n) (Wm.toksC c)
theorem made_smp {n : Nat} {s : Wm.Smp} (h : okS s) : madeC (n + 1) (.smp s) := ⟨trivial, by rw [Wm.toksC]; exact (Wm.okS_toks h).mono (bnd_ge n)⟩
theorem mem_two {z x y : V} (h : z ∈ [x, y]) : z = x ∨ z = y := by simpa using h
section
variable {P : Program} {w : World} {K : PySem.W.Frag} {mg : Str → Option Value} {base : Heap} {C B : Addr}
abbrev s__law_condition : Stmt := topS 60
abbrev N__law_condition : List Str := ["_law_draws_here", "_law_great", "_law_depth", "_law_shape", "_law_parts", "_law_k"]
theorem sc__law_condition : FnScope N__law_condition ["_law_draws_here", "_law_great", "_law_depth"] (defScope s__law_condition) := ⟨rfl, rfl, rfl, by decide +kernel, rfl, by decide +kernel, by decide +kernel⟩
def sp_cond (n : Nat) : Sp := fun vs H Q _ => ∃ (d : Addr) (g : Int), vs = [.ref d, .int g, .int (n : Int)] ∧ (0 < n ∧ n ≤ 100) ∧ (0 ≤ g ∧ g < 10 ^ 60) ∧ Dr H d ∧ ∀ (v : V) (c : Wm.Cnd) H', CndV H' c v → madeC n c → Go d H H' → Q v H'
theorem ok__law_condition (G : Glob K mg) (D : Df K mg "_law_condition" s__law_condition ["_law_draws_here", "_law_great", "_law_depth"]) (C__law_take : Cal P w K mg base CX0 1 "_law_take" ["_law_draws_here", "_law_many_here"] sp_take2)
    (C__law_simple : Cal P w K mg base CX0 5 "_law_simple" ["_law_draws_here", "_law_great"] sp_simple) (n : Nat) (C__law_condition : Cal P w K mg base CX0 (6 + n) "_law_condition" ["_law_draws_here", "_law_great", "_law_depth"] (sp_cond n)) :
    Cal P w K mg base CX0 (6 + n + 1) "_law_condition" ["_law_draws_here", "_law_great", "_law_depth"] (sp_cond (n + 1)) := by
  refine D.ok sc__law_condition (fun vs H Q E h => ?_) (fun f cdv A outer s H vs Q E hr h => ?_)
  · obtain ⟨d, g, rfl, _⟩ := h
    rfl
  obtain ⟨d, g, rfl, ⟨_, hn100⟩, hg, hd, q⟩ := h
  refine ⟨_, (pss_cons (ps_set (i := 3) sc__law_condition.nd rfl (Or.inl rfl) (pe_cal C__law_take (hr.mono (by omega)) pass0 (pa_cons (pv 0) (pa_cons pe_int pa_nil))))
    (pss_cons (ps_if (PW.pt (pw_or (pt_cmpR op_lt (pv 2) pe_int (nomark _)) (pw_or1 (pt_cmpR op_eq (pv 3) pe_int (nomark _)))))
      (pss_one (ps_ret (pe_cal C__law_simple (hr.mono (by omega)) pass0 (pa_cons (pv 0) (pa_cons (pv 1) pa_nil)))))
      pss_nil)
    (pss_cons (ps_if (pt_cmpR op_eq (pv 3) pe_int (nomark _))
      (pss_one (ps_ret (pe_tup (pa_cons pe_str (pa_cons (pe_cal C__law_condition (hr.mono (by omega)) pass0 (pa_cons (pv 0) (pa_cons (pv 1) (pa_cons (pe_op op_sub (pv 2) pe_int) pa_nil)))) pa_nil)))))
      pss_nil)
    (pss_cons (ps_set (i := 4) sc__law_condition.nd rfl (Or.inl rfl) (pe_lst pa_nil))
    (pss_cons (ps_for PassesOwn.never rfl (pi_range1 rfl G.range (pa_cons (pe_cal C__law_take (hr.mono (by omega)) pass0 (pa_cons (pv 0) (pa_cons (pe_op op_add (pv 2) pe_int) pa_nil))) pa_nil)) (pg_name (i := 5) sc__law_condition.nd rfl (Or.inl rfl))
      (pss_one (ps_expr (pe_bm PySem.F.plainAttrs_list PySem.F.slot_list_append PySem.F.type_list_append mt_append (pv 4) (pa_cons (pe_cal C__law_condition (hr.mono (by omega)) pass0 (pa_cons (pv 0) (pa_cons (pv 1) (pa_cons (pe_op op_sub (pv 2) pe_int) pa_nil)))) pa_nil)))))
    (pss_one (ps_ret (pe_tup (pa_cons (pe_ix ix_list (pe_lst (pa_cons pe_str (pa_cons pe_str pa_nil))) (pe_op op_sub (pv 3) pe_int) (fun _ _ => rfl)) (pa_cons (pe_callTy call_tuple_of rfl G.tuple boot_tuple (pa_cons (pv 4) pa_nil)) pa_nil)))))))))), ?_⟩
  have fits2 : ∀ {a b : V}, ([a, b] : List V).length ≤ sizeLine := by intro a b; show 2 ≤ sizeLine; decide
  have edep : ((n + 1 : Nat) : Int) - 1 = (n : Int) := by omega
  refine ⟨_, rfl, d, _, rfl, by decide, hd, fun r H1 h0 h1 g1 => ?_⟩
  refine ⟨_, rfl, _, _, rfl, rfl, _, rfl, ?_⟩
  have simple : ∀ (Dn : Ends), Dn.rt = Q → (tRet (tCall sp_simple [] E0 (tCons (tVar 0) (tCons (tVar 1) tNil)))) Dn [some (.ref d), some (.int g), some (.int ((n + 1 : Nat) : Int)), some (.int r), none, none] H1 := by
    intro Dn hDn
    refine ⟨_, rfl, _, rfl, d, g, rfl, hg, g1.2, fun v s H' hv hs g2 => ?_⟩
    show Dn.rt v H'
    rw [hDn]
    exact q v (.smp s) H' (by rw [CndV]; exact hv) (made_smp hs) (g1.trans g2)
  refine ite2 (fun e => iteT (simple _ rfl)) (fun e => ?_)
  have hn1 : ∃ m, n = m + 1 := by
    have : ¬ (((n + 1 : Nat) : Int) < 2) := fun z => e (decide_eq_true z)
    exact ⟨n - 1, by omega⟩
  obtain ⟨m, rfl⟩ := hn1
  have eargs : [V.ref d, V.int g, V.int (((m + 1 + 1 : Nat) : Int) - 1)] = [V.ref d, V.int g, V.int ((m + 1 : Nat) : Int)] := by rw [edep]
  refine ⟨_, rfl, rfl, _, rfl, ?_⟩
  refine ite2 (fun e => simple _ rfl) (fun e0 => ?_)
  refine ⟨_, rfl, rfl, _, rfl, ?_⟩
  refine ite2 (fun e => ?_) (fun e1 => ?_)
  · refine ⟨_, rfl, _, rfl, _, rfl, _, _, rfl, rfl, d, g, eargs, ⟨Nat.succ_pos m, by omega⟩, hg, g1.2, fun v c H2 hv hc g2 => ⟨fits2, fun p hp => ?_⟩⟩
    refine q _ (.not c) _ (by rw [CndV]; exact ⟨p, v, rfl, upd_same.trans (by rw [l_not]), CndV.keep (Same.tups (Same.new hp)) hv⟩) ⟨hc.1, (Wm.ok_not hc.2).mono (bnd_not m)⟩ ((g1.trans g2).new hp)
  refine ⟨(by show 0 ≤ sizeLine; decide), fun l hl => ?_⟩
  have g2 := g1.new (o := .lst []) hl
  have hld := g1.2.ne hl
  refine ⟨_, rfl, _, rfl, _, _, rfl, rfl, d, _, rfl, by omega, g2.2, fun r3 H3 h03 h13 g3 => ⟨r3, rfl, by omega, by omega, ?_⟩⟩
  refine for_range (n := r3.toNat) (fun i σ H' => Go d H1 H' ∧ ∃ (o : Option V) (ys : List V), σ = [some (.ref d), some (.int g), some (.int ((m + 1 + 1 : Nat) : Int)), some (.int r), some (.ref l), o] ∧ H' l = some (.lst ys) ∧ ys.length = i ∧ ∀ y ∈ ys, ∃ c, CndV H' c y ∧ madeC (m + 1) c)
    ⟨(g1.2.refl.new hl).trans g3, none, [], rfl, g3.1 _ _ hld upd_same, rfl, fun y hy => absurd hy List.not_mem_nil⟩ ?_ ?_
  · rintro i σ H' hi ⟨go, o, ys, rfl, hL, hlen, hall⟩
    refine ⟨_, rfl, .inl ⟨rfl, _, SqL.of hL⟩, _, rfl, _, rfl, _, rfl, _, _, rfl, rfl, d, g, eargs, ⟨Nat.succ_pos m, by omega⟩, hg, go.2, fun v c H5 hv hc g5 => ?_⟩
    have hL5 := g5.1 _ _ hld hL
    refine ⟨l, ys, v, rfl, rfl, hL5, by rw [sizeLine_eq]; omega, ?_⟩
    have up : Tups H5 (upd H5 l (.lst (ys ++ [v]))) := Tups.put hL5 fun xs e => by cases e
    refine ⟨(go.trans g5).put hl hld, _, ys ++ [v], rfl, upd_same, by rw [List.length_append, List.length_singleton, hlen], fun y hy => ?_⟩
    rcases List.mem_append.mp hy with h | h
    · obtain ⟨c2, hc2, hm2⟩ := hall y h
      exact ⟨c2, CndV.keep up (CndV.keep (g5.tups go.2) hc2), hm2⟩
    · rw [List.mem_singleton.mp h]
      exact ⟨c, CndV.keep up hv, hc⟩
  · rintro σ H' ⟨go, o, ys, rfl, hL, hlen, hall⟩
    obtain ⟨cs, hcs, hcl, hok⟩ := conds_of hall
    have hr0 : r ≠ 0 := fun z => e0 (by rw [z]; exact decide_eq_true rfl)
    have hr1 : r ≠ 1 := fun z => e1 (by rw [z]; exact decide_eq_true rfl)
    refine ⟨fits2, fun l2 hl2 => ?_⟩
    have g4 := go.new (o := .lst [.str (Str.ofString "all"), .str (Str.ofString "any")]) hl2
    refine ⟨_, rfl, _, _, rfl, rfl, ?_⟩
    refine pick_new upd_same (by omega) (by show r - 2 < ((2 : Nat) : Int); omega) fun z hz => ?_
    have hz' : ∃ b, z = .str (sL (Wm.hdW (.many b))) := by
      rcases mem_two hz with e | e
      · exact ⟨true, by rw [e, l_all] <;> rfl⟩
      · exact ⟨false, by rw [e, l_any] <;> rfl⟩
    obtain ⟨b, rfl⟩ := hz'
    have hL2 : upd H' l2 (.lst [.str (Str.ofString "all"), .str (Str.ofString "any")]) l = some (.lst ys) := Same.new hl2 _ _ hL
    refine ⟨_, rfl, l, ys, rfl, .inl ⟨SqL.of hL2, fun p2 hp2 => ⟨fits2, fun p3 hp3 => ?_⟩⟩⟩
    have k : Tups H' (upd (upd (upd H' l2 (.lst [.str (Str.ofString "all"), .str (Str.ofString "any")])) p2 (.tup ys)) p3 (.tup [.str (sL (Wm.hdW (.many b))), .ref p2])) := ((Same.tups (Same.new hl2)).trans (Same.tups (Same.new hp2))).trans (Same.tups (Same.new hp3))
    refine q _ (.many b cs) _ (by rw [CndV]; exact ⟨p3, p2, ys, rfl, upd_same, Same.new hp3 _ _ upd_same, CndsV.keep k hcs⟩) ⟨fun c hc => (hok c hc).1, Wm.ok_many (fun c hc => (hok c hc).2) ?_⟩ (((g1.trans g4).new hp2).new hp3)
    show _ ≤ (m + 2) * (bnd (m + 1) + 1) + 3
    have h2 : cs.length * (bnd (m + 1) + 1) ≤ (m + 2) * (bnd (m + 1) + 1) := Nat.mul_le_mul_right _ (by omega)
    omega
theorem ok_cond_all (G : Glob K mg) (D : Df K mg "_law_condition" s__law_condition ["_law_draws_here", "_law_great", "_law_depth"]) (C__law_take : Cal P w K mg base CX0 1 "_law_take" ["_law_draws_here", "_law_many_here"] sp_take2)
    (C__law_simple : Cal P w K mg base CX0 5 "_law_simple" ["_law_draws_here", "_law_great"] sp_simple) : ∀ n, Cal P w K mg base CX0 (6 + n) "_law_condition" ["_law_draws_here", "_law_great", "_law_depth"] (sp_cond n)
  | 0 => D.ok sc__law_condition (fun vs H Q E h => by obtain ⟨d, g, _, ⟨h, _⟩, _⟩ := h; exact absurd h (Nat.lt_irrefl 0)) fun f cdv A outer s H vs Q E hr h => by obtain ⟨d, g, _, ⟨h, _⟩, _⟩ := h; exact absurd h (Nat.lt_irrefl 0)
  | n + 1 => ok__law_condition G D C__law_take C__law_simple n (ok_cond_all G D C__law_take C__law_simple n)
abbrev s__law_many : Stmt := topS 61
abbrev N__law_many : List Str := ["_law_draws_here", "_law_great", "_law_parts", "_law_k"]
theorem sc__law_many : FnScope N__law_many ["_law_draws_here", "_law_great"] (defScope s__law_many) := ⟨rfl, rfl, rfl, by decide +kernel, rfl, by decide +kernel, by decide +kernel⟩
def sp_many : Sp := fun vs H Q _ => ∃ (d : Addr) (g : Int), vs = [.ref d, .int g] ∧ (0 ≤ g ∧ g < 10 ^ 60) ∧ Dr H d ∧ ∀ (v : V) (c : Wm.Cnd) H', CndV H' c v → (dOk 3 c ∧ okL 147 (Wm.toksC c)) → Go d H H' → Q v H'
theorem ok__law_many (G : Glob K mg) (D : Df K mg "_law_many" s__law_many ["_law_draws_here", "_law_great"]) (C__law_take : Cal P w K mg base CX0 1 "_law_take" ["_law_draws_here", "_law_many_here"] sp_take2)
    (C__law_simple : Cal P w K mg base CX0 5 "_law_simple" ["_law_draws_here", "_law_great"] sp_simple) : Cal P w K mg base CX0 6 "_law_many" ["_law_draws_here", "_law_great"] sp_many := by
  refine D.ok sc__law_many (fun vs H Q E h => ?_) (fun f cdv A outer s H vs Q E hr h => ?_)
  · obtain ⟨d, g, rfl, _⟩ := h
    rfl
  obtain ⟨d, g, rfl, hg, hd, q⟩ := h
  refine ⟨_, (pss_cons (ps_setLc (i := 2) (own := [("_law_k", 3)]) (g := gName 3) (tt := tYes) rfl sc__law_many.nd rfl rfl (sw_true rfl rfl rfl (by decide +kernel)) (pi_range1 rfl G.range (pa_cons (pe_op op_add pe_int (pe_cal C__law_take (hr.mono (by decide)) pass0 (pa_cons (pv 0) (pa_cons pe_int pa_nil)))) pa_nil)) (blkOk_by (N := N__law_many) (sc := defScope s__law_many) (by decide +kernel)) (fun _ _ _ _ _ => pg_name (i := 3) sc__law_many.nd rfl (Or.inl rfl)) (fun _ _ _ _ _ => pts_nil) (fun _ _ _ _ _ => (pe_cal C__law_simple (hr.mono (by decide)) pass0 (pa_cons (pv 0) (pa_cons (pv 1) pa_nil)))))
    (pss_one (ps_ret (pe_tup (pa_cons (pe_ix ix_list (pe_lst (pa_cons pe_str (pa_cons pe_str pa_nil))) (pe_cal C__law_take (hr.mono (by decide)) pass0 (pa_cons (pv 0) (pa_cons pe_int pa_nil))) (fun _ _ => rfl)) (pa_cons (pe_callTy call_tuple_of rfl G.tuple boot_tuple (pa_cons (pv 2) pa_nil)) pa_nil)))))), ?_⟩
  have fits2 : ∀ {a b : V}, ([a, b] : List V).length ≤ sizeLine := by intro a b; show 2 ≤ sizeLine; decide
  refine ⟨_, rfl, d, _, rfl, by decide, hd, fun r H1 h0 h1 g1 => ⟨_, _, rfl, rfl, _, rfl, by omega, by omega, fun D hD => ?_⟩⟩
  refine lc_draw (fun y H => ∃ c, CndV H c y ∧ madeC 1 c) (by rw [sizeLine_eq]; omega) hD g1.2 ?_ (fun y H' H'' h k => ?_) ?_ ?_
  · intro x; rfl
  · obtain ⟨c, h1, h2⟩ := h
    exact ⟨c, CndV.keep k h1, h2⟩
  · intro i H' R go hR
    exact ⟨_, rfl, _, rfl, d, g, rfl, hg, go.2, fun v s H'' hv hs g => hR _ H'' ⟨.smp s, by rw [CndV]; exact hv, made_smp hs⟩ g⟩
  intro H6 ys g6 hys hlen hall
  obtain ⟨cs, hcs, hcl, hok⟩ := conds_of hall
  refine ⟨fits2, fun l hl => ?_⟩
  have g7 := (g1.trans g6).new (o := .lst [.str (Str.ofString "all"), .str (Str.ofString "any")]) hl
  refine ⟨_, rfl, d, _, rfl, by decide, g7.2, fun r8 H8 h08 h18 g8 => ?_⟩
  have hl8 := g8.1 _ _ ((g1.trans g6).2.ne hl) upd_same
  refine pick_new hl8 h08 h18 fun z hz => ?_
  have hz' : ∃ b, z = .str (sL (Wm.hdW (.many b))) := by
    rcases mem_two hz with e | e
    · exact ⟨true, by rw [e, l_all] <;> rfl⟩
    · exact ⟨false, by rw [e, l_any] <;> rfl⟩
  obtain ⟨b, rfl⟩ := hz'
  have hD6 : upd H6 l (.lst [.str (Str.ofString "all"), .str (Str.ofString "any")]) D = some (.lst ys) := Same.new hl _ _ hys
  have hD8 := g8.1 _ _ (g1.2.ne hD) hD6
  refine ⟨_, rfl, D, ys, rfl, .inl ⟨SqL.of hD8, fun p2 hp2 => ⟨fits2, fun p3 hp3 => ?_⟩⟩⟩
  have k : Tups H6 (upd (upd H8 p2 (.tup ys)) p3 (.tup [.str (sL (Wm.hdW (.many b))), .ref p2])) := (((Same.tups (Same.new hl)).trans (g8.tups g7.2)).trans (Same.tups (Same.new hp2))).trans (Same.tups (Same.new hp3))
  refine q _ (.many b cs) _ (by rw [CndV]; exact ⟨p3, p2, ys, rfl, upd_same, Same.new hp3 _ _ upd_same, CndsV.keep k hcs⟩) ⟨fun c hc => ?_, Wm.ok_many (fun c hc => (hok c hc).2) ?_⟩ (((g7.trans g8).new hp2).new hp3)
  · have := (hok c hc).1
    cases c with
    | smp s => trivial
    | not c => exact this.elim
    | many b cs =>
      intro x hx
      exact (this x hx).elim
  · have : bnd 1 = 21 := rfl
    rw [this]
    omega
end
end Wk
end PartBl5
section PartBl6
set_option Elab.async false
set_option linter.all false
set_option maxRecDepth 100000
set_option maxHeartbeats 4000000
namespace Wm
theorem joinC_flat : ∀ {l : List (List Tk)}, l ≠ [] → joinC l ++ [.mark 44] = flatC l
  | [], h => absurd rfl h
  | [x], _ => by show x ++ [.mark 44] = (x ++ [.mark 44]) ++ []; rw [List.append_nil]
  | x :: y :: r, _ => by
    have ih := joinC_flat (l := y :: r) (List.cons_ne_nil _ _)
    show (x ++ .mark 44 :: joinC (y :: r)) ++ [.mark 44] = (x ++ [.mark 44]) ++ flatC (y :: r)
    rw [← ih]
    simp
theorem joinC_app : ∀ {a b : List (List Tk)}, a ≠ [] → b ≠ [] → joinC (a ++ b) = joinC a ++ .mark 44 :: joinC b
  | [], _, h, _ => absurd rfl h
  | [x], y :: r, _, _ => rfl
  | [x], [], _, h => absurd rfl h
  | x :: y :: r, b, _, h => by
    have ih := joinC_app (a := y :: r) (b := b) (List.cons_ne_nil _ _) h
    show x ++ .mark 44 :: joinC (y :: r ++ b) = (x ++ .mark 44 :: joinC (y :: r)) ++ .mark 44 :: joinC b
    rw [ih]
    simp
theorem joinC_cut {a b c : List (List Tk)} (ha : a ≠ []) (hb : b ≠ []) (e : a ++ b = c) : joinC c = joinC a ++ Tk.mark 44 :: joinC b := by rw [← e]; exact joinC_app ha hb
end Wm
namespace Wk
open PySem PySem.Spec PyProof.Rows L2
open Wm (okW okTr okS okL okT okTok dOk)
/-- the tokens' texts -/
def tv (ts : List Wm.Tk) : List V := txtV (ts.map Wm.tkText)
theorem tv_app (a b : List Wm.Tk) : tv (a ++ b) = tv a ++ tv b := by unfold tv txtV; simp
theorem tv_len (a : List Wm.Tk) : (tv a).length = a.length := by unfold tv txtV; simp
theorem tv_cons (t : Wm.Tk) (b : List Wm.Tk) : tv (t :: b) = .str (sL (Wm.tkText t)) :: tv b := rfl
def RowsAt (H : Hp) : List Addr → List (List Wm.Tk) → Prop
  | [], [] => True
  | a :: as, x :: xs => H a = some (.lst (tv x)) ∧ RowsAt H as xs
  | _, _ => False
theorem RowsAt.keep {H H' : Hp} (s : Same H H') : ∀ {as : List Addr} {xs : List (List Wm.Tk)}, RowsAt H as xs → RowsAt H' as xs
  | [], [], _ => trivial
  | a :: as, x :: xs, h => ⟨s _ _ h.1, RowsAt.keep s h.2⟩
  | [], _ :: _, h => h.elim
  | _ :: _, [], h => h.elim
theorem RowsAt.len {H : Hp} : ∀ {as : List Addr} {xs : List (List Wm.Tk)}, RowsAt H as xs → as.length = xs.length
  | [], [], _ => rfl
  | b :: as, y :: xs, k => by rw [List.length_cons, List.length_cons, RowsAt.len k.2]
  | [], _ :: _, h => h.elim
  | _ :: _, [], h => h.elim
theorem RowsAt.get {H : Hp} : ∀ {as : List Addr} {xs : List (List Wm.Tk)} {i : Nat}, RowsAt H as xs → i < xs.length → ∃ a x, as[i]? = some a ∧ xs[i]? = some x ∧ H a = some (.lst (tv x))
  | a :: as, y :: xs, 0, h, _ => ⟨a, y, rfl, rfl, h.1⟩
  | a :: as, y :: xs, i + 1, h, e => by
    obtain ⟨b, x, h1, h2, h3⟩ := RowsAt.get (i := i) h.2 (by simpa using e)
    exact ⟨b, x, by simpa using h1, by simpa using h2, h3⟩
  | [], [], _, _, e => absurd e (Nat.not_lt_zero _)
  | [], _ :: _, _, h, _ => h.elim
  | _ :: _, [], _, h, _ => h.elim
/-- rows gathered by a comprehension -/
theorem rows_of {H : Hp} : ∀ {xs : List (List Wm.Tk)} {ys : List V}, ys.length = xs.length → (∀ (i : Nat) (x : List Wm.Tk) (y : V), xs[i]? = some x → ys[i]? = some y → ∃ a, y = .ref a ∧ H a = some (.lst (tv x))) → ∃ as : List Addr, ys = as.map V.ref ∧ RowsAt H as xs
  | [], [], _, _ => ⟨[], rfl, trivial⟩
  | x :: xs, y :: ys, hl, h => by
    obtain ⟨a, rfl, ha⟩ := h 0 x y rfl rfl
    obtain ⟨as, rfl, hr⟩ := rows_of (xs := xs) (ys := ys) (by simpa using hl) fun i x' y' h1 h2 => h (i + 1) x' y' (by simpa using h1) (by simpa using h2)
    exact ⟨a :: as, rfl, ha, hr⟩
  | [], _ :: _, hl, _ => by simp at hl
  | _ :: _, [], hl, _ => by simp at hl
/-- [f(x) for x in a tuple], each item its own new object -/
theorem lc_tupP {K : PySem.W.Frag} {a : Addr} {xs : List V} {gi : Nat} {te : TE} {vs : List Nat} {σ : L2.St} {H1 : Hp} {D : Addr} {Qd : Hp → Prop} (Pi : Nat → V → Hp → Prop) (few : xs.length ≤ sizeLine) (ha : H1 a = some (.tup xs)) (hD : H1 D = none)
    (hw : ∀ x, wipe ((wipe σ vs).set gi (some x)) vs = wipe σ vs)
    (keep : ∀ i y H' H'', Pi i y H' → SameBut D H' H'' → Pi i y H'')
    (hs : ∀ (i : Nat) (x : V) (H' : Hp) (R : VK), xs[i]? = some x → Same H1 H' → (∃ acc, H' D = some (.lst acc)) → (∀ y H'', Pi i y H'' → Same H' H'' → R y H'') → te ((wipe σ vs).set gi (some x)) H' R)
    (hd : ∀ H' ys, Same H1 H' → H' D = some (.lst ys) → ys.length = xs.length → (∀ i y, ys[i]? = some y → Pi i y H') → Qd H') :
    ∃ W : Nat → Nat → Hp → Prop, (∃ m, W 0 m (upd H1 D (.lst []))) ∧ ∀ i m H, W i m H →
      ((Itt K a).stop i H ∧ Qd H) ∨ ((Itt K a).go i H ∧ ∃ Nx : Hp → Prop, (∀ H', Nx H' → ∃ m', m' < m ∧ W (i + 1) m' H') ∧ ∀ x H', (Itt K a).yld i H x H' → gName gi x (wipe σ vs) H' fun σ2 H2 => wipe σ2 vs = wipe σ vs ∧ tYes σ2 H2 fun b H3 =>
        if b = true then te σ2 H3 fun y H4 => ∃ acc, H4 D = some (.lst acc) ∧ acc.length < sizeLine ∧ Nx (upd H4 D (.lst (acc ++ [y]))) else Nx H3) := by
  refine lc_tup (K := K) (xs := xs) (Qd := Qd) (fun i H' => i ≤ xs.length ∧ Same H1 H' ∧ ∃ ys, H' D = some (.lst ys) ∧ ys.length = i ∧ ∀ j y, ys[j]? = some y → Pi j y H') ⟨Nat.zero_le _, Same.new hD, [], upd_same, rfl, fun j y h => by simp at h⟩ (fun i H' _ h => SqT.of (h.2.1 _ _ ha)) ?_ ?_
  · rintro i x H' hx ⟨_, sm, ys, hl, hn, hp⟩
    have hlt : i < xs.length := (List.getElem?_eq_some_iff.mp hx).1
    refine ⟨hw x, ?_⟩
    have z := hs i x H' (fun y H4 => ∃ acc, H4 D = some (.lst acc) ∧ acc.length < sizeLine ∧ (i + 1 ≤ xs.length ∧ Same H1 (upd H4 D (.lst (acc ++ [y]))) ∧ ∃ ys, upd H4 D (.lst (acc ++ [y])) D = some (.lst ys) ∧ ys.length = i + 1 ∧ ∀ j y', ys[j]? = some y' → Pi j y' (upd H4 D (.lst (acc ++ [y]))))) hx sm ⟨ys, hl⟩
      fun y H'' py s2 => ⟨ys, s2 _ _ hl, by omega, hlt, Same.put (sm.trans s2) hD, ys ++ [y], upd_same, by rw [List.length_append, List.length_singleton, hn], fun j y' hj => ?_⟩
    · exact z
    · by_cases hjl : j < ys.length
      · rw [List.getElem?_append_left hjl] at hj
        exact keep _ _ _ _ (keep _ _ _ _ (hp j y' hj) (Same.but s2)) SameBut.put
      · have hj2 : j = i := by
          have := (List.getElem?_eq_some_iff.mp hj).1
          rw [List.length_append, List.length_singleton] at this
          omega
        subst hj2
        rw [← hn, List.getElem?_append_right (Nat.le_refl _), Nat.sub_self] at hj
        have : y = y' := by simpa using hj
        subst this
        exact keep _ _ _ _ py SameBut.put
  · rintro H' ⟨_, sm, ys, hl, hn, hp⟩
    exact hd H' ys sm hl hn hp
section
variable {P : Program} {w : World} {K : PySem.W.Frag} {mg : Str → Option Value} {base : Heap} {C B : Addr}
abbrev s__law_joined : Stmt := topS 64
abbrev N__law_joined : List Str := ["_law_rows", "_law_found", "_law_k"]
theorem sc__law_joined : FnScope N__law_joined ["_law_rows"] (defScope s__law_joined) := ⟨rfl, rfl, rfl, by decide +kernel, rfl, by decide +kernel, by decide +kernel⟩
def sp_joined : Sp := fun vs H Q _ => ∃ (l : Addr) (as : List Addr) (tss : List (List Wm.Tk)), vs = [.ref l] ∧ H l = some (.lst (as.map V.ref)) ∧ RowsAt H as tss ∧ (Wm.joinC tss).length ≤ 1000 ∧ tss.length ≤ 1000 ∧ ∀ d H', Same H H' → H d = none → H' d = some (.lst (tv (Wm.joinC tss))) → Q (.ref d) H'
theorem ok__law_joined (G : Glob K mg) (D : Df K mg "_law_joined" s__law_joined ["_law_rows"]) : Cal P w K mg base CX0 1 "_law_joined" ["_law_rows"] sp_joined := by
  refine D.ok sc__law_joined (fun vs H Q E h => ?_) (fun f cdv A outer s H vs Q E hr h => ?_)
  · obtain ⟨l, as, tss, rfl, _⟩ := h
    rfl
  obtain ⟨l, as, tss, rfl, hl, hrows, h1000, ht1000, q⟩ := h
  refine ⟨_, (pss_cons (ps_set (i := 1) sc__law_joined.nd rfl (Or.inl rfl) (pe_lst pa_nil))
    (pss_cons (ps_for PassesOwn.never rfl (pi_range1 rfl G.range (pa_cons (pe_callB call_len_seq rfl G.len PySem.boot_len (pa_cons (pv 0) pa_nil)) pa_nil)) (pg_name (i := 2) sc__law_joined.nd rfl (Or.inl rfl))
      (pss_cons (ps_join <| ps_if (pt_cmpR op_gt (pv 2) pe_int (nomark _))
        (pss_one (ps_expr (pe_bm PySem.F.plainAttrs_list PySem.F.slot_list_append PySem.F.type_list_append mt_append (pv 1) (pa_cons pe_str pa_nil))))
        pss_nil)
      (pss_one (ps_expr (pe_bm PySem.F.plainAttrs_list PySem.F.slot_list_extend PySem.F.type_list_extend mt_extend (pv 1) (pa_cons (pe_ix ix_list (pv 0) (pv 2) (fun _ _ => rfl)) pa_nil))))))
    (pss_one (ps_ret (pv 1))))), ?_⟩
  have hlen := hrows.len
  refine ⟨(by show 0 ≤ sizeLine; decide), fun d hd => ?_⟩
  have hl1 : upd H d (.lst []) l = some (.lst (as.map V.ref)) := Same.new hd _ _ hl
  have hld : l ≠ d := ne_of_none hl hd
  have sub : ∀ i, (Wm.joinC (tss.take i)).length ≤ 1000 := fun i => by
    by_cases e : i < tss.length
    · by_cases e0 : tss.take i = []
      · rw [e0]; exact Nat.zero_le _
      · have h2 : Wm.joinC tss = Wm.joinC (tss.take i) ++ Wm.Tk.mark 44 :: Wm.joinC (tss.drop i) := Wm.joinC_cut e0 (by intro z; have := congrArg List.length z; rw [List.length_drop] at this; simp at this; omega) (List.take_append_drop i tss)
        rw [h2, List.length_append] at h1000
        omega
    · rw [List.take_of_length_le (by omega)]; exact h1000
  refine ⟨_, rfl, l, _, rfl, .inl (SqL.of hl1), _, rfl, by omega, by rw [List.length_map]; omega, ?_⟩
  rw [List.length_map, Int.toNat_natCast, hlen]
  refine for_range (n := tss.length) (fun i σ H' => i ≤ tss.length ∧ Same H H' ∧ ∃ o : Option V, σ = [some (.ref l), some (.ref d), o] ∧ H' d = some (.lst (tv (Wm.joinC (tss.take i))))) ⟨Nat.zero_le _, Same.new hd, none, rfl, upd_same⟩ ?_ ?_
  · rintro i σ H' hi ⟨_, sm, o, rfl, hF⟩
    obtain ⟨a, x, ha, hx, hrow⟩ := (hrows.keep sm).get hi
    have had : a ≠ d := fun e => by
      obtain ⟨a', x', ha', hx', hrow'⟩ := hrows.get hi
      rw [ha] at ha'
      cases ha'
      rw [e, hd] at hrow'
      cases hrow'
    have hstep : Wm.joinC (tss.take (i + 1)) = Wm.flatC (tss.take i) ++ x := by
      rw [List.take_add_one, hx]
      exact Wm.joinC_snoc x _
    refine ⟨fun σ H' => Same H H' ∧ σ = [some (.ref l), some (.ref d), some (.int (0 + (i : Int)))] ∧ H' d = some (.lst (tv (Wm.flatC (tss.take i)))), ?_, ?_⟩
    · refine ⟨_, rfl, _, _, rfl, rfl, _, rfl, ?_⟩
      refine ite2 (fun e => ?_) (fun e => ?_)
      · have hi0 : 0 < i := by have := of_decide_eq_true e; omega
        refine ⟨_, rfl, .inl ⟨rfl, _, SqL.of hF⟩, d, _, _, rfl, rfl, hF, by rw [tv_len, sizeLine_eq]; have := sub i; omega, ?_⟩
        refine ⟨Same.put sm hd, rfl, upd_same.trans ?_⟩
        have hne : tss.take i ≠ [] := fun z => by
          have := congrArg List.length z
          rw [List.length_take, show ([] : List (List Wm.Tk)).length = 0 from rfl] at this
          omega
        rw [← Wm.joinC_flat hne, tv_app, l_comma] <;> rfl
      · have hi0 : i = 0 := by
          refine Classical.byContradiction fun z => e (decide_eq_true ?_)
          show (0 : Int) < 0 + (i : Int)
          omega
        subst hi0
        exact ⟨sm, rfl, hF⟩
    · rintro σ H2 ⟨s2, rfl, hF2⟩
      have hl2 := s2 _ _ hl
      obtain ⟨a', x', ha', hx', hrow2⟩ := (hrows.keep s2).get hi
      rw [ha] at ha'
      cases ha'
      rw [hx] at hx'
      cases hx'
      have hfl : (Wm.flatC (tss.take i) ++ x).length ≤ 1000 := by rw [← hstep]; exact sub (i + 1)
      refine ⟨_, rfl, .inl ⟨rfl, _, SqL.of hF2⟩, _, rfl, _, rfl, l, _, _, _, rfl, rfl, SqL.of hl2, by rw [Int.zero_add]; exact atI_nat (by rw [List.getElem?_map, ha] <;> rfl), d, a, _, _, rfl, rfl, hF2, hrow2, ?_, ?_⟩
      · rw [tv_len, tv_len, sizeLine_eq, ← List.length_append]; omega
      · exact ⟨hi, Same.put s2 hd, _, rfl, upd_same.trans (by rw [hstep, tv_app])⟩
  · rintro σ H' ⟨_, sm, o, rfl, hF⟩
    rw [List.take_length] at hF
    exact ⟨_, rfl, q d H' sm hd hF⟩
end
end Wk
end PartBl6
section PartBl7
set_option Elab.async false
set_option linter.all false
set_option maxRecDepth 100000
set_option maxHeartbeats 4000000
namespace Wk
open PySem PySem.Spec PyProof.Rows L2
open Wm (okW okTr okS okL okT okTok dOk)
theorem Same.fresh {H H' : Hp} {p : Addr} (s : Same H H') (h : H' p = none) : H p = none := by
  cases e : H p with
  | none => rfl
  | some u => rw [s _ _ e] at h; cases h
theorem tv_one (t : Wm.Tk) : tv [t] = [.str (sL (Wm.tkText t))] := rfl
section
variable {P : Program} {w : World} {K : PySem.W.Frag} {mg : Str → Option Value} {base : Heap} {C B : Addr}
abbrev s__law_term_tokens : Stmt := topS 65
abbrev N__law_term_tokens : List Str := ["_law_term_here"]
theorem sc__law_term_tokens : FnScope N__law_term_tokens ["_law_term_here"] (defScope s__law_term_tokens) := ⟨rfl, rfl, rfl, by decide +kernel, rfl, by decide +kernel, by decide +kernel⟩
def sp_term_tokens : Sp := fun vs H Q _ => ∃ (v : V) (t : Wm.Trm), vs = [v] ∧ TrmV H v t ∧ okL 3 (Wm.toksT t) ∧ ∀ l H', Same H H' → H l = none → H' l = some (.lst (tv (Wm.toksT t))) → Q (.ref l) H'
theorem ok__law_term_tokens (G : Glob K mg) (D : Df K mg "_law_term_tokens" s__law_term_tokens ["_law_term_here"]) : Cal P w K mg base CX0 1 "_law_term_tokens" ["_law_term_here"] sp_term_tokens := by
  refine D.ok sc__law_term_tokens (fun vs H Q E h => ?_) (fun f cdv A outer s H vs Q E hr h => ?_)
  · obtain ⟨v, t, rfl, _⟩ := h
    rfl
  obtain ⟨v, t, rfl, hv, hok, q⟩ := h
  refine ⟨_, (pss_cons (ps_if (pt_cmpR op_eq (pe_ix ix_tup (pv 0) pe_int (fun _ _ => rfl)) pe_str (nomark _))
      (pss_one (ps_ret (pe_lst (pa_cons (pe_op op_add_str (pe_op op_add_str pe_str (pe_ix ix_tup (pv 0) pe_int (fun _ _ => rfl))) pe_str) pa_nil))))
      pss_nil)
    (pss_cons (ps_if (pt_cmpR op_eq (pe_ix ix_tup (pv 0) pe_int (fun _ _ => rfl)) pe_str (nomark _))
      (pss_one (ps_ret (pe_lst (pa_cons (pe_ix ix_tup (pv 0) pe_int (fun _ _ => rfl)) pa_nil))))
      pss_nil)
    (pss_one (ps_ret (pe_lst (pa_cons (pe_ix ix_tup (pv 0) pe_int (fun _ _ => rfl)) (pa_cons pe_str (pa_cons (pe_callTy call_str_int rfl G.str boot_str (pa_cons (pe_ix ix_tup (pv 0) pe_int (fun _ _ => rfl)) pa_nil)) pa_nil)))))))), ?_⟩
  have d1 : (Str.ofString "field" : Str) ≠ Str.ofString "name" := by decide +kernel
  have d2 : (Str.ofString "part" : Str) ≠ Str.ofString "name" := by decide +kernel
  have d3 : (Str.ofString "part" : Str) ≠ Str.ofString "field" := by decide +kernel
  have fits1 : ∀ {a : V}, ([a] : List V).length ≤ sizeLine := by intro a; show 1 ≤ sizeLine; decide
  have fits3 : ∀ {a b c : V}, ([a, b, c] : List V).length ≤ sizeLine := by intro a b c; show 3 ≤ sizeLine; decide
  cases t with
  | nm wd =>
    obtain ⟨a, rfl, ha⟩ := hv
    refine ⟨_, rfl, a, _, 0, _, rfl, rfl, SqT.of ha, rfl, rfl, _, rfl, ?_⟩
    rw [dec_str', decide_eq_true rfl]
    have hz := (hok.1 (.name wd) (by simp [Wm.toksT])).1.2
    have hz2 : (34 :: (wd ++ [34])).length ≤ 100 := hz
    rw [List.length_cons, List.length_append] at hz2
    refine iteT ⟨_, rfl, a, _, 1, _, rfl, rfl, SqT.of ha, rfl, _, _, rfl, rfl, ?_, _, _, rfl, rfl, ?_, fits1, fun l hl => ?_⟩
    · rw [l_quote, len_sL, len_sL, sizeLine_eq]; show 1 + _ ≤ _; omega
    · rw [l_quote, sL_app, len_sL, len_sL, List.length_append, sizeLine_eq]; show 1 + _ + 1 ≤ _; omega
    · refine q l _ (Same.new hl) hl (upd_same.trans ?_)
      rw [l_quote, sL_app, sL_app] <;> rfl
  | fld wd =>
    obtain ⟨a, rfl, ha⟩ := hv
    refine ⟨_, rfl, a, _, 0, _, rfl, rfl, SqT.of ha, rfl, rfl, _, rfl, ?_⟩
    rw [dec_str', decide_eq_false d1]
    refine iteF ?_
    refine ⟨_, rfl, a, _, 0, _, rfl, rfl, SqT.of ha, rfl, rfl, _, rfl, ?_⟩
    rw [dec_str', decide_eq_true rfl]
    exact iteT ⟨_, rfl, a, _, 1, _, rfl, rfl, SqT.of ha, rfl, fits1, fun l hl => q l _ (Same.new hl) hl upd_same⟩
  | part wd n =>
    obtain ⟨a, rfl, ha⟩ := hv
    refine ⟨_, rfl, a, _, 0, _, rfl, rfl, SqT.of ha, rfl, rfl, _, rfl, ?_⟩
    rw [dec_str', decide_eq_false d2]
    refine iteF ?_
    refine ⟨_, rfl, a, _, 0, _, rfl, rfl, SqT.of ha, rfl, rfl, _, rfl, ?_⟩
    rw [dec_str', decide_eq_false d3]
    refine iteF ?_
    have hi := (hok.1 (.int n) (by simp [Wm.toksT])).2 n rfl
    refine ⟨_, rfl, a, _, 1, _, rfl, rfl, SqT.of ha, rfl, _, rfl, a, _, 2, _, rfl, rfl, SqT.of ha, rfl, _, rfl, Wm.log_of (Nat.lt_trans hi (by decide +kernel)), fits3, fun l hl => ?_⟩
    refine q l _ (Same.new hl) hl (upd_same.trans ?_)
    rw [str_itxt, l_dot] <;> rfl
abbrev s__law_last_tokens : Stmt := topS 66
abbrev N__law_last_tokens : List Str := ["_law_condition_here", "_law_last", "_law_found", "_law_term_here", "_law_word_here"]
theorem sc__law_last_tokens : FnScope N__law_last_tokens ["_law_condition_here"] (defScope s__law_last_tokens) := ⟨rfl, rfl, rfl, by decide +kernel, rfl, by decide +kernel, by decide +kernel⟩
/-- what _law_last_tokens gives -/
def lastT : Wm.Smp → Option (List Wm.Tk)
  | .within _ g => some (Wm.toksG g)
  | .path _ _ ts => some (Wm.pathT ts)
  | _ => none
def sp_last_tokens : Sp := fun vs H Q _ => ∃ (v : V) (s : Wm.Smp) (ts : List Wm.Tk), vs = [v] ∧ SmpV H v s ∧ lastT s = some ts ∧ okL 1000 ts ∧ ∀ l H', Same H H' → H l = none → H' l = some (.lst (tv ts)) → Q (.ref l) H'
theorem ok__law_last_tokens (G : Glob K mg) (D : Df K mg "_law_last_tokens" s__law_last_tokens ["_law_condition_here"]) (C__law_joined : Cal P w K mg base CX0 1 "_law_joined" ["_law_rows"] sp_joined) (C__law_term_tokens : Cal P w K mg base CX0 1 "_law_term_tokens" ["_law_term_here"] sp_term_tokens) :
    Cal P w K mg base CX0 2 "_law_last_tokens" ["_law_condition_here"] sp_last_tokens := by
  refine D.ok sc__law_last_tokens (fun vs H Q E h => ?_) (fun f cdv A outer s H vs Q E hr h => ?_)
  · obtain ⟨v, s, ts, rfl, _⟩ := h
    rfl
  obtain ⟨v, s, ts, rfl, hv, hts, hok, q⟩ := h
  refine ⟨_, (pss_cons (ps_set (i := 1) sc__law_last_tokens.nd rfl (Or.inl rfl) (pe_ix ix_tup (pv 0) pe_int (fun _ _ => rfl)))
    (pss_cons (ps_if (pt_cmpR op_eq (pe_ix ix_tup (pv 0) pe_int (fun _ _ => rfl)) pe_str (nomark _))
      (pss_cons (ps_if (pt_cmpR op_eq (pe_ix ix_tup (pv 1) pe_int (fun _ _ => rfl)) pe_str (nomark _))
        (pss_one (ps_ret (pe_lst (pa_cons (pe_ix ix_tup (pv 1) pe_int (fun _ _ => rfl)) pa_nil))))
        pss_nil)
      (pss_one (ps_ret (pe_op op_cat (pe_op op_cat (pe_lst (pa_cons pe_str pa_nil)) (pe_cal C__law_joined (hr.mono (by decide)) pass0 (pa_cons (pe_lc (own := [("_law_word_here", 4)]) (g := gName 4) (tt := tYes) rfl sc__law_last_tokens.nd (pi_tup (pe_ix ix_tup (pv 1) pe_int (fun _ _ => rfl))) (blkOk_by (N := N__law_last_tokens) (sc := defScope s__law_last_tokens) (by decide +kernel)) (fun _ _ _ _ _ => pg_name (i := 4) sc__law_last_tokens.nd rfl (Or.inl rfl)) (fun _ _ _ _ _ => pts_nil) (fun _ _ _ _ _ => (pe_lst (pa_cons (pe_op op_add_str (pe_op op_add_str pe_str (pv 4)) pe_str) pa_nil)))) pa_nil))) (pe_lst (pa_cons pe_str pa_nil))))))
      pss_nil)
    (pss_cons (ps_if (pt_cmpR op_eq (pe_callB call_len_seq rfl G.len PySem.boot_len (pa_cons (pv 1) pa_nil)) pe_int (nomark _))
      (pss_one (ps_ret (pe_lst (pa_cons pe_str pa_nil))))
      pss_nil)
    (pss_cons (ps_set (i := 2) sc__law_last_tokens.nd rfl (Or.inl rfl) (pe_lst pa_nil))
    (pss_cons (ps_for PassesOwn.never rfl (pi_tup (pv 1)) (pg_name (i := 3) sc__law_last_tokens.nd rfl (Or.inl rfl))
      (pss_cons (ps_expr (pe_bm PySem.F.plainAttrs_list PySem.F.slot_list_append PySem.F.type_list_append mt_append (pv 2) (pa_cons pe_str pa_nil)))
      (pss_one (ps_expr (pe_bm PySem.F.plainAttrs_list PySem.F.slot_list_extend PySem.F.type_list_extend mt_extend (pv 2) (pa_cons (pe_cal C__law_term_tokens (hr.mono (by decide)) pass0 (pa_cons (pv 3) pa_nil)) pa_nil))))))
    (pss_one (ps_ret (pv 2)))))))), ?_⟩
  have fits1 : ∀ {a : V}, ([a] : List V).length ≤ sizeLine := by intro a; show 1 ≤ sizeLine; decide
  cases s with
  | within s g =>
    cases hts
    obtain ⟨a, x, rfl, ha, hg⟩ := hv
    refine ⟨_, rfl, a, _, 2, _, rfl, rfl, SqT.of ha, rfl, ?_⟩
    refine ⟨_, rfl, a, _, 0, _, rfl, rfl, SqT.of ha, rfl, rfl, _, rfl, ?_⟩
    rw [hq l_within (show decide (Wm.wWithin = Wm.wWithin) = true from by decide)]
    refine iteT ?_
    cases g with
    | set wd =>
      obtain ⟨b, rfl, hb⟩ := hg
      rw [l_set] at hb
      refine ⟨_, rfl, b, _, 0, _, rfl, rfl, SqT.of hb, rfl, rfl, _, rfl, ?_⟩
      rw [hq l_set (decide_eq_true rfl)]
      exact iteT ⟨_, rfl, b, _, 1, _, rfl, rfl, SqT.of hb, rfl, fits1, fun l hl => q l _ (Same.new hl) hl upd_same⟩
    | names ws =>
      obtain ⟨b, c, rfl, hb, hc⟩ := hg
      rw [l_names] at hb
      refine ⟨_, rfl, b, _, 0, _, rfl, rfl, SqT.of hb, rfl, rfl, _, rfl, ?_⟩
      rw [hq l_set (show decide (_ = _) = false from by decide)]
      refine iteF ?_
      have hjl : (Wm.joinC (ws.map Wm.nameL)).length + 2 ≤ 1000 := by
        have := hok.2
        have e : (Wm.toksG (.names ws)).length = (Wm.joinC (ws.map Wm.nameL)).length + 2 := by show (Wm.Tk.mark 123 :: (Wm.joinC (ws.map Wm.nameL) ++ [.mark 125])).length = _; simp
        omega
      have hwl : ws.length ≤ 1000 := by
        have : ∀ us : List Wm.L, us.length ≤ (Wm.joinC (us.map Wm.nameL)).length := fun us => by
          induction us with
          | nil => exact Nat.zero_le _
          | cons u us ih =>
            cases us with
            | nil => exact Nat.le_refl _
            | cons u2 us =>
              show _ ≤ (Wm.nameL u ++ .mark 44 :: Wm.joinC ((u2 :: us).map Wm.nameL)).length
              rw [List.length_append, List.length_cons, List.length_cons (a := Wm.Tk.mark 44)]
              have : (Wm.nameL u).length = 1 := rfl
              omega
        have := this ws
        omega
      have short : ∀ u ∈ ws, u.length ≤ 98 := fun u hu => by
        have hm : Wm.Tk.name u ∈ Wm.toksG (.names ws) := by
          show Wm.Tk.name u ∈ Wm.Tk.mark 123 :: (Wm.joinC (ws.map Wm.nameL) ++ [.mark 125])
          refine List.mem_cons_of_mem _ (List.mem_append_left _ ((Wm.joinC_sub (List.mem_map_of_mem hu)).subset ?_))
          exact List.mem_singleton.mpr rfl
        have z := (hok.1 _ hm).1.2
        have z2 : (34 :: (u ++ [34])).length ≤ 100 := z
        rw [List.length_cons, List.length_append] at z2
        have : ([34] : List Nat).length = 1 := rfl
        omega
      refine ⟨fits1, fun l1 hl1 => ?_⟩
      have s1 : Same H (upd H l1 (.lst [.str (Str.ofString "{")])) := Same.new hl1
      refine ⟨_, rfl, b, _, 1, _, rfl, rfl, SqT.of (s1 _ _ hb), rfl, c, rfl, ⟨_, SqT.of (s1 _ _ hc)⟩, fun Dd hDd => ?_⟩
      refine lc_tupP (fun i y H' => ∀ u, ws[i]? = some u → ∃ a, y = .ref a ∧ a ≠ Dd ∧ H' a = some (.lst (tv (Wm.nameL u)))) (by rw [List.length_map, sizeLine_eq]; omega) (s1 _ _ hc) hDd ?_ (fun i y H' H'' h k u hu => ?_) ?_ ?_
      · intro x; rfl
      · obtain ⟨a, e, hne, ha⟩ := h u hu
        exact ⟨a, e, hne, k _ _ hne ha⟩
      · intro i x H' R hx sm hD' hR
        obtain ⟨u, hu, rfl⟩ := map_get hx
        have hsh := short u (List.mem_of_getElem? hu)
        refine ⟨_, rfl, _, _, rfl, rfl, ?_, _, _, rfl, rfl, ?_, fits1, fun l2 hl2 => ?_⟩
        · rw [l_quote, len_sL, len_sL, sizeLine_eq]; show 1 + _ ≤ _; omega
        · rw [l_quote, sL_app, len_sL, len_sL, List.length_append, sizeLine_eq]; show 1 + _ + 1 ≤ _; omega
        · refine hR _ _ (fun u' hu' => ?_) (Same.new hl2)
          rw [hu] at hu'
          cases hu'
          obtain ⟨acc, hacc⟩ := hD'
          refine ⟨l2, rfl, fun e => (by rw [e, hacc] at hl2; cases hl2), upd_same.trans ?_⟩
          rw [l_quote, sL_app, sL_app] <;> rfl
      intro H3 ys s3 hys hlen hall
      rw [List.length_map] at hlen
      obtain ⟨as, rfl, hrows⟩ := rows_of (H := H3) (xs := ws.map Wm.nameL) (ys := ys) (by rw [List.length_map]; exact hlen) fun i x y hx hy => by
        obtain ⟨u, hu, rfl⟩ := map_get hx
        obtain ⟨a, e, _, ha⟩ := hall i y hy u hu
        exact ⟨a, e, ha⟩
      refine ⟨Dd, as, ws.map Wm.nameL, rfl, hys, hrows, by omega, by rw [List.length_map]; exact hwl, fun l4 H4 s4 hl4 h4 => ?_⟩
      have h14 : H4 l1 = some (.lst [.str (Str.ofString "{")]) := s4 _ _ (s3 _ _ upd_same)
      refine ⟨l1, l4, _, _, rfl, rfl, h14, h4, by rw [tv_len, sizeLine_eq]; show 1 + _ ≤ _; omega, fun l5 hl5 => ⟨fits1, fun l6 hl6 => ?_⟩⟩
      have h56 := Same.new (o := .lst [.str (Str.ofString "}")]) hl6 _ _ (upd_same (H := H4) (a := l5) (o := .lst ([.str (Str.ofString "{")] ++ tv (Wm.joinC (ws.map Wm.nameL)))))
      refine ⟨l5, l6, _, _, rfl, rfl, h56, upd_same, by rw [List.length_append, tv_len, sizeLine_eq]; show 1 + _ + 1 ≤ _; omega, fun l7 hl7 => ?_⟩
      have s6 : Same H (upd (upd H4 l5 (.lst ([.str (Str.ofString "{")] ++ tv (Wm.joinC (ws.map Wm.nameL))))) l6 (.lst [.str (Str.ofString "}")])) := ((s1.trans (s3.trans s4)).trans (Same.new hl5)).trans (Same.new hl6)
      have hl70 : H l7 = none := Wk.Same.fresh s6 hl7
      have sAll := s6.trans (Same.new (o := .lst ([.str (Str.ofString "{")] ++ tv (Wm.joinC (ws.map Wm.nameL)) ++ [.str (Str.ofString "}")])) hl7)
      refine q l7 _ sAll hl70 (upd_same.trans ?_)
      rw [l_brace, l_unb]
      show _ = some (HO.lst (tv (.mark 123 :: (Wm.joinC (ws.map Wm.nameL) ++ [.mark 125]))))
      rw [tv_cons, tv_app, tv_one] <;> rfl
  | path u p ts =>
    cases hts
    obtain ⟨a, b, vs, rfl, ha, hb, htv⟩ := hv
    refine ⟨_, rfl, a, _, 2, _, rfl, rfl, SqT.of ha, rfl, ?_⟩
    refine ⟨_, rfl, a, _, 0, _, rfl, rfl, SqT.of ha, rfl, rfl, _, rfl, ?_⟩
    rw [hq l_within (show decide (Wm.hdW (.path u) = Wm.wWithin) = false from by cases u <;> decide)]
    refine iteF ?_
    have hlen := htv.len
    refine ⟨_, rfl, b, vs, rfl, .inr (SqT.of hb), rfl, _, rfl, ?_⟩
    unfold Wm.pathT at q hok
    by_cases e : ts = []
    · rw [show decide (V.int (vs.length : Int) = V.int 0) = true from decide_eq_true (by rw [hlen, e] <;> rfl)]
      rw [if_pos e] at q
      refine iteT ⟨fits1, fun l hl => q l _ (Same.new hl) hl (upd_same.trans (by rw [l_slash] <;> rfl))⟩
    · have hne : ¬ V.int (vs.length : Int) = V.int 0 := fun z => e (List.length_eq_zero_iff.mp (by have := V.int.inj z; omega))
      rw [decide_eq_false hne]
      rw [if_neg e] at q hok
      refine iteF ?_
      have tl : ∀ us : List Wm.Trm, us.length ≤ (Wm.tmplT us).length := fun us => by
        induction us with
        | nil => exact Nat.zero_le _
        | cons u us ih =>
          show _ ≤ ((Wm.Tk.mark 47 :: Wm.toksT u) ++ Wm.tmplT us).length
          rw [List.length_append, List.length_cons, List.length_cons]
          omega
      have hfew := tl ts
      have h1000 := hok.2
      have tcut : ∀ i, i ≤ ts.length → (Wm.tmplT (ts.take i)).length ≤ 1000 := fun i hi => by
        have e2 : Wm.tmplT ts = Wm.tmplT (ts.take i) ++ Wm.tmplT (ts.drop i) := by
          unfold Wm.tmplT
          rw [← List.flatten_append, ← List.map_append, List.take_append_drop]
        rw [e2, List.length_append] at h1000
        omega
      refine ⟨(by show 0 ≤ sizeLine; decide), fun d hd => ?_⟩
      have s1 : Same H (upd H d (.lst [])) := Same.new hd
      refine ⟨_, rfl, b, rfl, ⟨_, SqT.of (s1 _ _ hb)⟩, for_tup (xs := vs) (fun i σ H' => i ≤ ts.length ∧ Same H H' ∧ ∃ o : Option V, σ = [some (.ref a), some (.ref b), some (.ref d), o, none] ∧ H' d = some (.lst (tv (Wm.tmplT (ts.take i))))) ⟨Nat.zero_le _, s1, none, rfl, upd_same⟩ (fun i σ H' _ h => SqT.of (h.2.1 _ _ hb)) ?_ ?_⟩
      · rintro i x σ H' hx ⟨hi, sm, o, rfl, hF⟩
        obtain ⟨t, ht, hv⟩ := htv.get hx
        have hlt : i < ts.length := (List.getElem?_eq_some_iff.mp ht).1
        have hstep : Wm.tmplT (ts.take (i + 1)) = Wm.tmplT (ts.take i) ++ (.mark 47 :: Wm.toksT t) := by
          rw [List.take_add_one, ht]
          unfold Wm.tmplT
          rw [List.map_append, List.flatten_append]
          show _ ++ ((.mark 47 :: Wm.toksT t) ++ []) = _
          rw [List.append_nil]
        have hc1 := tcut (i + 1) hlt
        rw [hstep, List.length_append, List.length_cons] at hc1
        refine ⟨_, rfl, .inl ⟨rfl, _, SqL.of hF⟩, d, _, _, rfl, rfl, hF, by rw [tv_len, sizeLine_eq]; omega, ?_⟩
        have hF2 := upd_same (H := H') (a := d) (o := .lst (tv (Wm.tmplT (ts.take i)) ++ [.str (Str.ofString "/")]))
        have s2 : Same H (upd H' d (.lst (tv (Wm.tmplT (ts.take i)) ++ [.str (Str.ofString "/")]))) := Same.put sm hd
        have hot : okL 3 (Wm.toksT t) := ⟨fun k hk => hok.1 k ((tmpl_sub (List.mem_of_getElem? ht)).subset (List.mem_cons_of_mem _ hk)), by cases t <;> simp [Wm.toksT]⟩
        refine ⟨_, rfl, .inl ⟨rfl, _, SqL.of hF2⟩, _, rfl, x, t, rfl, hv.keep (Same.tups s2), hot, fun l3 H3 s3 hl3 h3 => ?_⟩
        have hF3 := s3 _ _ hF2
        refine ⟨d, l3, _, _, rfl, rfl, hF3, h3, ?_, ?_⟩
        · rw [List.length_append, tv_len, tv_len, sizeLine_eq]; show _ + 1 + _ ≤ _; omega
        · refine ⟨hlt, Same.put (s2.trans s3) hd, _, rfl, upd_same.trans ?_⟩
          rw [hstep, tv_app, tv_cons, l_slash, List.append_assoc] <;> rfl
      · rintro σ H' ⟨_, sm, o, rfl, hF⟩
        rw [hlen, List.take_length] at hF
        exact ⟨_, rfl, q d H' sm hd hF⟩
  | _ => cases hts
end
end Wk
end PartBl7
section PartBl8
set_option Elab.async false
set_option linter.all false
set_option maxRecDepth 100000
set_option maxHeartbeats 4000000
namespace Wk
open PySem PySem.Spec PyProof.Rows L2
open Wm (okW okTr okS okL okT okTok dOk)
theorem okL_sub {n m : Nat} {a b : List Wm.Tk} (h : okL n b) (s : a.Sublist b) (k : a.length ≤ m) : okL m a := ⟨fun t ht => h.1 t (s.subset ht), k⟩
theorem okL_sub' {n : Nat} {a b : List Wm.Tk} (h : okL n b) (s : a.Sublist b) : okL n a := ⟨fun t ht => h.1 t (s.subset ht), Nat.le_trans s.length_le h.2⟩
theorem toksT_len (t : Wm.Trm) : (Wm.toksT t).length ≤ 3 := by cases t <;> simp [Wm.toksT]
/-- the tail of _law_tokens -/
theorem tokens_end {H : Hp} {D : Ends} {rl : Addr} {as : List Addr} {tss : List (List Wm.Tk)} {wd : Wm.L} {o p r : Option V} (hl : H rl = some (.lst (as.map V.ref))) (hr : RowsAt H as tss) (h1 : (Wm.joinC tss).length ≤ 1000) (h2 : tss.length ≤ 1000)
    (q : ∀ l H', Same H H' → H l = none → H' l = some (.lst (tv (.word wd :: .mark 40 :: (Wm.joinC tss ++ [.mark 41])))) → D.rt (.ref l) H') :
    tRet (tOp rCat (tOp rCat (tLst (tCons (tVar 1) (tCons (tC (.str (Str.ofString "("))) tNil))) (tCall sp_joined [] E0 (tCons (tVar 2) tNil))) (tLst (tCons (tC (.str (Str.ofString ")"))) tNil))) D [o, some (.str (sL wd)), some (.ref rl), p, r] H := by
  refine ⟨_, rfl, (by show 2 ≤ sizeLine; decide), fun l1 hl1 => ?_⟩
  have s1 : Same H (upd H l1 (.lst [.str (sL wd), .str (Str.ofString "(")])) := Same.new hl1
  refine ⟨_, rfl, rl, as, tss, rfl, s1 _ _ hl, hr.keep s1, h1, h2, fun l2 H2 s2 hl2 h2' => ?_⟩
  have h12 := s2 _ _ upd_same
  refine ⟨l1, l2, _, _, rfl, rfl, h12, h2', by rw [tv_len, sizeLine_eq]; show 2 + _ ≤ _; omega, fun l3 hl3 => ⟨(by show 1 ≤ sizeLine; decide), fun l4 hl4 => ?_⟩⟩
  have h34 := Same.new (o := .lst [.str (Str.ofString ")")]) hl4 _ _ (upd_same (H := H2) (a := l3) (o := .lst ([.str (sL wd), .str (Str.ofString "(")] ++ tv (Wm.joinC tss))))
  refine ⟨l3, l4, _, _, rfl, rfl, h34, upd_same, by rw [List.length_append, tv_len, sizeLine_eq]; show 2 + _ + 1 ≤ _; omega, fun l5 hl5 => ?_⟩
  have s4 : Same H (upd (upd H2 l3 (.lst ([.str (sL wd), .str (Str.ofString "(")] ++ tv (Wm.joinC tss)))) l4 (.lst [.str (Str.ofString ")")])) := ((s1.trans s2).trans (Same.new hl3)).trans (Same.new hl4)
  refine q l5 _ (s4.trans (Same.new hl5)) (Wk.Same.fresh s4 hl5) (upd_same.trans ?_)
  rw [l_open, l_close, tv_cons, tv_cons, tv_app, tv_one] <;> rfl
section
variable {P : Program} {w : World} {K : PySem.W.Frag} {mg : Str → Option Value} {base : Heap} {C B : Addr}
abbrev s__law_tokens : Stmt := topS 67
abbrev N__law_tokens : List Str := ["_law_condition_here", "_law_kind", "_law_rows", "_law_part", "_law_field"]
theorem sc__law_tokens : FnScope N__law_tokens ["_law_condition_here"] (defScope s__law_tokens) := ⟨rfl, rfl, rfl, by decide +kernel, rfl, by decide +kernel, by decide +kernel⟩
def sp_tokens (n : Nat) : Sp := fun vs H Q _ => ∃ (v : V) (c : Wm.Cnd), vs = [v] ∧ CndV H c v ∧ dOk n c ∧ okL 1000 (Wm.toksC c) ∧ ∀ l H', Same H H' → H l = none → H' l = some (.lst (tv (Wm.toksC c))) → Q (.ref l) H'
theorem ok__law_tokens (G : Glob K mg) (D : Df K mg "_law_tokens" s__law_tokens ["_law_condition_here"]) (C__law_joined : Cal P w K mg base CX0 1 "_law_joined" ["_law_rows"] sp_joined) (C__law_term_tokens : Cal P w K mg base CX0 1 "_law_term_tokens" ["_law_term_here"] sp_term_tokens)
    (C__law_last_tokens : Cal P w K mg base CX0 2 "_law_last_tokens" ["_law_condition_here"] sp_last_tokens) (n : Nat) (C__law_tokens : Cal P w K mg base CX0 (3 + n) "_law_tokens" ["_law_condition_here"] (sp_tokens n)) :
    Cal P w K mg base CX0 (3 + n + 1) "_law_tokens" ["_law_condition_here"] (sp_tokens (n + 1)) := by
  refine D.ok sc__law_tokens (fun vs H Q E h => ?_) (fun f cdv A outer s H vs Q E hr h => ?_)
  · obtain ⟨v, c, rfl, _⟩ := h
    rfl
  obtain ⟨v, c, rfl, hv, hdo, hok, q⟩ := h
  refine ⟨_, (pss_cons (ps_set (i := 1) sc__law_tokens.nd rfl (Or.inl rfl) (pe_ix ix_tup (pv 0) pe_int (fun _ _ => rfl)))
    (pss_cons (ps_if (pt_cmpR op_eq (pv 1) pe_str (nomark _))
      (pss_one (ps_ret (pe_lst (pa_cons pe_str pa_nil))))
      pss_nil)
    (pss_cons (ps_if (pt_cmpR op_eq (pv 1) pe_str (nomark _))
      (pss_one (ps_ret (pe_lst (pa_cons pe_str pa_nil))))
      pss_nil)
    (pss_cons (ps_if (pt_cmpR op_eq (pv 1) pe_str (nomark _))
      (pss_one (ps_set (i := 2) sc__law_tokens.nd rfl (Or.inl rfl) (pe_lst (pa_cons (pe_cal C__law_tokens (hr.mono (by omega)) pass0 (pa_cons (pe_ix ix_tup (pv 0) pe_int (fun _ _ => rfl)) pa_nil)) pa_nil))))
      (pss_one (ps_if (PW.pt (pw_or (pt_cmpR op_eq (pv 1) pe_str (nomark _)) (pw_or1 (pt_cmpR op_eq (pv 1) pe_str (nomark _)))))
        (pss_one (ps_setLc (i := 2) (own := [("_law_part", 3)]) (g := gName 3) (tt := tYes) rfl sc__law_tokens.nd rfl rfl (sw_true rfl rfl rfl (by decide +kernel)) (pi_tup (pe_ix ix_tup (pv 0) pe_int (fun _ _ => rfl))) (blkOk_by (N := N__law_tokens) (sc := defScope s__law_tokens) (by decide +kernel)) (fun _ _ _ _ _ => pg_name (i := 3) sc__law_tokens.nd rfl (Or.inl rfl)) (fun _ _ _ _ _ => pts_nil) (fun _ _ _ _ _ => (pe_cal C__law_tokens (hr.mono (by omega)) pass0 (pa_cons (pv 3) pa_nil)))))
        (pss_one (ps_if (pt_cmpR op_eq (pv 1) pe_str (nomark _))
          (pss_one (ps_set (i := 2) sc__law_tokens.nd rfl (Or.inl rfl) (pe_lst (pa_cons (pe_cal C__law_term_tokens (hr.mono (by omega)) pass0 (pa_cons (pe_ix ix_tup (pv 0) pe_int (fun _ _ => rfl)) pa_nil)) (pa_cons (pe_cal C__law_term_tokens (hr.mono (by omega)) pass0 (pa_cons (pe_ix ix_tup (pv 0) pe_int (fun _ _ => rfl)) pa_nil)) pa_nil)))))
          (pss_one (ps_if (PW.pt (pw_or (pt_cmpR op_eq (pv 1) pe_str (nomark _)) (pw_or1 (pt_cmpR op_eq (pv 1) pe_str (nomark _)))))
            (pss_one (ps_set (i := 2) sc__law_tokens.nd rfl (Or.inl rfl) (pe_lst (pa_cons (pe_cal C__law_term_tokens (hr.mono (by omega)) pass0 (pa_cons (pe_ix ix_tup (pv 0) pe_int (fun _ _ => rfl)) pa_nil)) (pa_cons (pe_lst (pa_cons (pe_ix ix_tup (pv 0) pe_int (fun _ _ => rfl)) pa_nil)) pa_nil)))))
            (pss_one (ps_if (pt_cmpR op_eq (pv 1) pe_str (nomark _))
              (pss_cons (ps_setLc (i := 2) (own := [("_law_field", 4)]) (g := gName 4) (tt := tYes) rfl sc__law_tokens.nd rfl rfl (sw_true rfl rfl rfl (by decide +kernel)) (pi_tup (pe_slice sl_tup (pv 0) (po_some pe_int) (po_some pe_int))) (blkOk_by (N := N__law_tokens) (sc := defScope s__law_tokens) (by decide +kernel)) (fun _ _ _ _ _ => pg_name (i := 4) sc__law_tokens.nd rfl (Or.inl rfl)) (fun _ _ _ _ _ => pts_nil) (fun _ _ _ _ _ => (pe_ifExp (pt_cmpR op_eq (pv 4) pe_str (nomark _)) (pe_lst (pa_cons pe_str pa_nil)) (pe_lst (pa_cons (pv 4) pa_nil)))))
              (pss_one (ps_expr (pe_bm PySem.F.plainAttrs_list PySem.F.slot_list_append PySem.F.type_list_append mt_append (pv 2) (pa_cons (pe_lst (pa_cons (pe_callTy call_str_int rfl G.str boot_str (pa_cons (pe_ix ix_tup (pv 0) pe_int (fun _ _ => rfl)) pa_nil)) pa_nil)) pa_nil)))))
              (pss_one (ps_set (i := 2) sc__law_tokens.nd rfl (Or.inl rfl) (pe_lst (pa_cons (pe_lst (pa_cons (pe_ix ix_tup (pv 0) pe_int (fun _ _ => rfl)) pa_nil)) (pa_cons (pe_cal C__law_last_tokens (hr.mono (by omega)) pass0 (pa_cons (pv 0) pa_nil)) pa_nil))))))))))))))
    (pss_one (ps_ret (pe_op op_cat (pe_op op_cat (pe_lst (pa_cons (pv 1) (pa_cons pe_str pa_nil))) (pe_cal C__law_joined (hr.mono (by omega)) pass0 (pa_cons (pv 2) pa_nil))) (pe_lst (pa_cons pe_str pa_nil))))))))), ?_⟩
  have fits1 : ∀ {a : V}, ([a] : List V).length ≤ sizeLine := by intro a; show 1 ≤ sizeLine; decide
  have fits2 : ∀ {a b : V}, ([a, b] : List V).length ≤ sizeLine := by intro a b; show 2 ≤ sizeLine; decide
  cases c with
  | not c =>
    rw [CndV] at hv
    obtain ⟨a, x, rfl, ha, hx⟩ := hv
    refine ⟨_, rfl, a, _, 0, _, rfl, rfl, SqT.of ha, rfl, ?_⟩
    refine ⟨_, rfl, rfl, _, rfl, ?_⟩
    rw [hq l_true (show decide (Wm.wNot = wTrue) = false from by decide)]
    refine iteF ?_
    refine ⟨_, rfl, rfl, _, rfl, ?_⟩
    rw [hq l_false (show decide (Wm.wNot = wFalse) = false from by decide)]
    refine iteF ?_
    refine ⟨_, rfl, rfl, _, rfl, ?_⟩
    rw [hq l_not (show decide (Wm.wNot = Wm.wNot) = true from by decide)]
    refine iteT ?_
    have hc : okL 1000 (Wm.toksC c) := okL_sub' hok (Wm.sub_not c)
    refine ⟨_, rfl, a, _, 1, _, rfl, rfl, SqT.of ha, rfl, x, c, rfl, hx, hdo, hc, fun l H1 s1 hl h1 => ⟨fits1, fun r hr => ?_⟩⟩
    have s2 := Same.new (o := .lst [.ref l]) hr
    refine tokens_end (as := [l]) (tss := [Wm.toksC c]) upd_same ⟨s2 _ _ h1, trivial⟩ (by show (Wm.toksC c).length ≤ 1000; exact hc.2) (by show 1 ≤ 1000; decide) fun l2 H2 s3 hl2 h2 => ?_
    exact q l2 H2 (s1.trans (s2.trans s3)) (Wk.Same.fresh (s1.trans s2) hl2) (h2.trans (by rw [Wm.toksC] <;> rfl))
  | many b cs =>
    rw [CndV] at hv
    obtain ⟨a, e, xs, rfl, ha, he, hxs⟩ := hv
    have hlen := hxs.len
    have et : Wm.toksC (.many b cs) = .word (Wm.hdW (.many b)) :: .mark 40 :: (Wm.joinC (cs.map Wm.toksC) ++ [.mark 41]) := by rw [Wm.toksC.eq_3, Wm.toksCs_map]
    have hjl : (Wm.joinC (cs.map Wm.toksC)).length ≤ 1000 := by
      have := hok.2
      rw [et, List.length_cons, List.length_cons, List.length_append] at this
      omega
    have hcl : cs.length ≤ 1000 := by
      have key : ∀ l : List (List Wm.Tk), l.length ≤ (Wm.joinC l).length + 1 := fun l => by
        induction l with
        | nil => exact Nat.zero_le _
        | cons x l ih =>
          cases l with
          | nil => exact Nat.le_add_left _ _
          | cons y l =>
            show _ ≤ (x ++ .mark 44 :: Wm.joinC (y :: l)).length + 1
            rw [List.length_append, List.length_cons, List.length_cons (a := Wm.Tk.mark 44)]
            omega
      have := key (cs.map Wm.toksC)
      have h3 := hok.2
      rw [et, List.length_cons, List.length_cons, List.length_append] at h3
      rw [List.length_map] at this
      have : ([.mark 41] : List Wm.Tk).length = 1 := rfl
      omega
    have go : ∀ wd : Wm.L, wd = Wm.hdW (.many b) → ∀ (Dn : Ends) (σ : L2.St), σ = [some (.ref a), some (.str (sL wd)), none, none, none] →
        (∀ r H' as, Same H H' → H' r = some (.lst (as.map V.ref)) → RowsAt H' as (cs.map Wm.toksC) → Dn.nx [some (.ref a), some (.str (sL wd)), some (.ref r), none, none] H') →
        (tAsg (tLc (iTup K (tOp (rIxT K) (tVar 0) (tC (.int 1)))) (gName 3) tYes (tCall (sp_tokens n) [] E0 (tCons (tVar 3) tNil)) ([(("_law_part" : Str), 3)].map (·.2))) (gName 2)) Dn σ H := by
      intro wd hwd Dn σ hσ k
      subst hσ
      subst hwd
      refine ⟨_, rfl, a, _, 1, _, rfl, rfl, SqT.of ha, rfl, e, rfl, ⟨_, SqT.of he⟩, fun Dd hDd => ?_⟩
      refine lc_tupP (fun i y H' => ∀ c, cs[i]? = some c → ∃ a, y = .ref a ∧ a ≠ Dd ∧ H' a = some (.lst (tv (Wm.toksC c)))) (by rw [hlen, sizeLine_eq]; omega) he hDd ?_ (fun i y H' H'' h k u hu => ?_) ?_ ?_
      · intro x; rfl
      · obtain ⟨a, e, hne, ha⟩ := h u hu
        exact ⟨a, e, hne, k _ _ hne ha⟩
      · intro i x H' R hx sm hD' hR
        obtain ⟨c, hc, hvc⟩ := hxs.get hx
        have hm := List.mem_of_getElem? hc
        refine ⟨_, rfl, x, c, rfl, CndV.keep (Same.tups sm) hvc, hdo c hm, okL_sub' hok (Wm.sub_many hm), fun l H'' s2 hl h2 => hR _ H'' (fun c' hc' => ?_) s2⟩
        rw [hc] at hc'
        cases hc'
        obtain ⟨acc, hacc⟩ := hD'
        exact ⟨l, rfl, fun e => (by rw [e, hacc] at hl; cases hl), h2⟩
      intro H3 ys s3 hys hly hall
      obtain ⟨as, rfl, hrows⟩ := rows_of (H := H3) (xs := cs.map Wm.toksC) (ys := ys) (by rw [List.length_map, hly, hlen]) fun i x y hx hy => by
        obtain ⟨c, hc, rfl⟩ := map_get hx
        obtain ⟨a, e, _, ha⟩ := hall i y hy c hc
        exact ⟨a, e, ha⟩
      exact k Dd H3 as s3 hys hrows
    refine ⟨_, rfl, a, _, 0, _, rfl, rfl, SqT.of ha, rfl, ?_⟩
    cases b with
    | true =>
      show (tSeq _ _) _ [some (.ref a), some (.str (sL Wm.wAll)), none, none, none] H
      refine ⟨_, rfl, rfl, _, rfl, ?_⟩
      rw [hq l_true (show decide (Wm.wAll = wTrue) = false from by decide)]
      refine iteF ?_
      refine ⟨_, rfl, rfl, _, rfl, ?_⟩
      rw [hq l_false (show decide (Wm.wAll = wFalse) = false from by decide)]
      refine iteF ?_
      refine ⟨_, rfl, rfl, _, rfl, ?_⟩
      rw [hq l_not (show decide (Wm.wAll = Wm.wNot) = false from by decide)]
      refine iteF ?_
      refine ⟨_, rfl, rfl, _, rfl, ?_⟩
      rw [hq l_all (show decide (Wm.wAll = Wm.wAll) = true from by decide)]
      refine iteT ?_
      refine iteT ?_
      refine go _ rfl _ _ rfl fun r H3 as s3 hr3 hrows => ?_
      refine tokens_end hr3 hrows hjl (by rw [List.length_map]; exact hcl) fun l2 H2 s4 hl2 h2 => q l2 H2 (s3.trans s4) (Wk.Same.fresh s3 hl2) (h2.trans (by rw [et] <;> rfl))
    | false =>
      show (tSeq _ _) _ [some (.ref a), some (.str (sL Wm.wAny)), none, none, none] H
      refine ⟨_, rfl, rfl, _, rfl, ?_⟩
      rw [hq l_true (show decide (Wm.wAny = wTrue) = false from by decide)]
      refine iteF ?_
      refine ⟨_, rfl, rfl, _, rfl, ?_⟩
      rw [hq l_false (show decide (Wm.wAny = wFalse) = false from by decide)]
      refine iteF ?_
      refine ⟨_, rfl, rfl, _, rfl, ?_⟩
      rw [hq l_not (show decide (Wm.wAny = Wm.wNot) = false from by decide)]
      refine iteF ?_
      refine ⟨_, rfl, rfl, _, rfl, ?_⟩
      rw [hq l_all (show decide (Wm.wAny = Wm.wAll) = false from by decide)]
      refine iteF ?_
      refine ⟨_, rfl, rfl, _, rfl, ?_⟩
      rw [hq l_any (show decide (Wm.wAny = Wm.wAny) = true from by decide)]
      refine iteT ?_
      refine go _ rfl _ _ rfl fun r H3 as s3 hr3 hrows => ?_
      refine tokens_end hr3 hrows hjl (by rw [List.length_map]; exact hcl) fun l2 H2 s4 hl2 h2 => q l2 H2 (s3.trans s4) (Wk.Same.fresh s3 hl2) (h2.trans (by rw [et] <;> rfl))
  | smp s =>
    rw [CndV] at hv
    rw [Wm.toksC] at hok q
    cases s with
    | tt =>
      obtain ⟨a, rfl, ha⟩ := hv
      rw [l_true] at ha
      refine ⟨_, rfl, a, _, 0, _, rfl, rfl, SqT.of ha, rfl, ?_⟩
      refine ⟨_, rfl, rfl, _, rfl, ?_⟩
      rw [hq l_true (show decide (wTrue = wTrue) = true from by decide)]
      refine iteT ?_
      exact ⟨fits1, fun l hl => q l _ (Same.new hl) hl (upd_same.trans (by rw [l_yes] <;> rfl))⟩
    | ff =>
      obtain ⟨a, rfl, ha⟩ := hv
      rw [l_false] at ha
      refine ⟨_, rfl, a, _, 0, _, rfl, rfl, SqT.of ha, rfl, ?_⟩
      refine ⟨_, rfl, rfl, _, rfl, ?_⟩
      rw [hq l_true (show decide (wFalse = wTrue) = false from by decide)]
      refine iteF ?_
      refine ⟨_, rfl, rfl, _, rfl, ?_⟩
      rw [hq l_false (show decide (wFalse = wFalse) = true from by decide)]
      refine iteT ?_
      exact ⟨fits1, fun l hl => q l _ (Same.new hl) hl (upd_same.trans (by rw [l_no] <;> rfl))⟩
    | is t u =>
      obtain ⟨a, x, y, rfl, ha, hx, hy⟩ := hv
      refine ⟨_, rfl, a, _, 0, _, rfl, rfl, SqT.of ha, rfl, ?_⟩
      refine ⟨_, rfl, rfl, _, rfl, ?_⟩
      rw [hq l_true (show decide (Wm.wIs = wTrue) = false from by decide)]
      refine iteF ?_
      refine ⟨_, rfl, rfl, _, rfl, ?_⟩
      rw [hq l_false (show decide (Wm.wIs = wFalse) = false from by decide)]
      refine iteF ?_
      refine ⟨_, rfl, rfl, _, rfl, ?_⟩
      rw [hq l_not (show decide (Wm.wIs = Wm.wNot) = false from by decide)]
      refine iteF ?_
      refine ⟨_, rfl, rfl, _, rfl, ?_⟩
      rw [hq l_all (show decide (Wm.wIs = Wm.wAll) = false from by decide)]
      refine iteF ?_
      refine ⟨_, rfl, rfl, _, rfl, ?_⟩
      rw [hq l_any (show decide (Wm.wIs = Wm.wAny) = false from by decide)]
      refine iteF ?_
      refine ⟨_, rfl, rfl, _, rfl, ?_⟩
      rw [hq l_is (show decide (Wm.wIs = Wm.wIs) = true from by decide)]
      refine iteT ?_
      have ht : okL 3 (Wm.toksT t) := okL_sub hok (((List.sublist_append_left _ _).trans (List.sublist_append_left _ _)).cons _ |>.cons _) (toksT_len t)
      have hu : okL 3 (Wm.toksT u) := okL_sub hok (((((List.Sublist.refl _).cons _).trans (List.sublist_append_right _ _)).trans (List.sublist_append_left _ _)).cons _ |>.cons _) (toksT_len u)
      refine ⟨_, rfl, a, _, 1, _, rfl, rfl, SqT.of ha, rfl, x, t, rfl, hx, ht, fun l1 H1 s1 hl1 h1 => ?_⟩
      have ha1 := s1 _ _ ha
      refine ⟨_, rfl, a, _, 2, _, rfl, rfl, SqT.of ha1, rfl, y, u, rfl, hy.keep (Same.tups s1), hu, fun l2 H2 s2 hl2 h2 => ⟨fits2, fun r hr => ?_⟩⟩
      have s3 := Same.new (o := .lst [.ref l1, .ref l2]) hr
      refine tokens_end (as := [l1, l2]) (tss := [Wm.toksT t, Wm.toksT u]) upd_same ⟨s3 _ _ (s2 _ _ h1), s3 _ _ h2, trivial⟩ ?_ (by show 2 ≤ 1000; decide) fun l4 H4 s4 hl4 h4 => ?_
      · show (Wm.toksT t ++ .mark 44 :: Wm.toksT u).length ≤ 1000
        rw [List.length_append, List.length_cons]
        have := ht.2
        have := hu.2
        omega
      · exact q l4 H4 (s1.trans (s2.trans (s3.trans s4))) (Wk.Same.fresh (s1.trans (s2.trans s3)) hl4) h4
    | inn t g =>
      obtain ⟨a, x, rfl, ha, hx⟩ := hv
      refine ⟨_, rfl, a, _, 0, _, rfl, rfl, SqT.of ha, rfl, ?_⟩
      refine ⟨_, rfl, rfl, _, rfl, ?_⟩
      rw [hq l_true (show decide (Wm.wIn = wTrue) = false from by decide)]
      refine iteF ?_
      refine ⟨_, rfl, rfl, _, rfl, ?_⟩
      rw [hq l_false (show decide (Wm.wIn = wFalse) = false from by decide)]
      refine iteF ?_
      refine ⟨_, rfl, rfl, _, rfl, ?_⟩
      rw [hq l_not (show decide (Wm.wIn = Wm.wNot) = false from by decide)]
      refine iteF ?_
      refine ⟨_, rfl, rfl, _, rfl, ?_⟩
      rw [hq l_all (show decide (Wm.wIn = Wm.wAll) = false from by decide)]
      refine iteF ?_
      refine ⟨_, rfl, rfl, _, rfl, ?_⟩
      rw [hq l_any (show decide (Wm.wIn = Wm.wAny) = false from by decide)]
      refine iteF ?_
      refine ⟨_, rfl, rfl, _, rfl, ?_⟩
      rw [hq l_is (show decide (Wm.wIn = Wm.wIs) = false from by decide)]
      refine iteF ?_
      refine ⟨_, rfl, rfl, _, rfl, ?_⟩
      rw [hq l_in (show decide (Wm.wIn = Wm.wIn) = true from by decide)]
      refine iteT ?_
      have ht : okL 3 (Wm.toksT t) := okL_sub hok (((List.sublist_append_left _ _).trans (List.sublist_append_left _ _)).cons _ |>.cons _) (toksT_len t)
      refine iteT ⟨_, rfl, a, _, 1, _, rfl, rfl, SqT.of ha, rfl, x, t, rfl, hx, ht, fun l1 H1 s1 hl1 h1 => ?_⟩
      have ha1 := s1 _ _ ha
      refine ⟨_, rfl, a, _, 2, _, rfl, rfl, SqT.of ha1, rfl, fits1, fun l2 hl2 => ⟨fits2, fun r hr => ?_⟩⟩
      have s2 := Same.new (o := .lst [.str (sL g)]) hl2
      have s3 := Same.new (o := .lst [.ref l1, .ref l2]) hr
      refine tokens_end (as := [l1, l2]) (tss := [Wm.toksT t, [.word g]]) upd_same ⟨s3 _ _ (s2 _ _ h1), s3 _ _ upd_same, trivial⟩ ?_ (by show 2 ≤ 1000; decide) fun l4 H4 s4 hl4 h4 => ?_
      · show (Wm.toksT t ++ Wm.Tk.mark 44 :: [Wm.Tk.word g]).length ≤ 1000
        rw [List.length_append, List.length_cons]
        have := ht.2
        show _ + (1 + 1) ≤ _
        omega
      · exact q l4 H4 (s1.trans (s2.trans (s3.trans s4))) (Wk.Same.fresh (s1.trans (s2.trans s3)) hl4) h4
    | mem t g =>
      obtain ⟨a, x, rfl, ha, hx⟩ := hv
      refine ⟨_, rfl, a, _, 0, _, rfl, rfl, SqT.of ha, rfl, ?_⟩
      refine ⟨_, rfl, rfl, _, rfl, ?_⟩
      rw [hq l_true (show decide (Wm.wMember = wTrue) = false from by decide)]
      refine iteF ?_
      refine ⟨_, rfl, rfl, _, rfl, ?_⟩
      rw [hq l_false (show decide (Wm.wMember = wFalse) = false from by decide)]
      refine iteF ?_
      refine ⟨_, rfl, rfl, _, rfl, ?_⟩
      rw [hq l_not (show decide (Wm.wMember = Wm.wNot) = false from by decide)]
      refine iteF ?_
      refine ⟨_, rfl, rfl, _, rfl, ?_⟩
      rw [hq l_all (show decide (Wm.wMember = Wm.wAll) = false from by decide)]
      refine iteF ?_
      refine ⟨_, rfl, rfl, _, rfl, ?_⟩
      rw [hq l_any (show decide (Wm.wMember = Wm.wAny) = false from by decide)]
      refine iteF ?_
      refine ⟨_, rfl, rfl, _, rfl, ?_⟩
      rw [hq l_is (show decide (Wm.wMember = Wm.wIs) = false from by decide)]
      refine iteF ?_
      refine ⟨_, rfl, rfl, _, rfl, ?_⟩
      rw [hq l_in (show decide (Wm.wMember = Wm.wIn) = false from by decide)]
      refine iteF ?_
      refine ⟨_, rfl, rfl, _, rfl, ?_⟩
      rw [hq l_member (show decide (Wm.wMember = Wm.wMember) = true from by decide)]
      refine iteT ?_
      have ht : okL 3 (Wm.toksT t) := okL_sub hok (((List.sublist_append_left _ _).trans (List.sublist_append_left _ _)).cons _ |>.cons _) (toksT_len t)
      refine ⟨_, rfl, a, _, 1, _, rfl, rfl, SqT.of ha, rfl, x, t, rfl, hx, ht, fun l1 H1 s1 hl1 h1 => ?_⟩
      have ha1 := s1 _ _ ha
      refine ⟨_, rfl, a, _, 2, _, rfl, rfl, SqT.of ha1, rfl, fits1, fun l2 hl2 => ⟨fits2, fun r hr => ?_⟩⟩
      have s2 := Same.new (o := .lst [.str (sL g)]) hl2
      have s3 := Same.new (o := .lst [.ref l1, .ref l2]) hr
      refine tokens_end (as := [l1, l2]) (tss := [Wm.toksT t, [.word g]]) upd_same ⟨s3 _ _ (s2 _ _ h1), s3 _ _ upd_same, trivial⟩ ?_ (by show 2 ≤ 1000; decide) fun l4 H4 s4 hl4 h4 => ?_
      · show (Wm.toksT t ++ Wm.Tk.mark 44 :: [Wm.Tk.word g]).length ≤ 1000
        rw [List.length_append, List.length_cons]
        have := ht.2
        show _ + (1 + 1) ≤ _
        omega
      · exact q l4 H4 (s1.trans (s2.trans (s3.trans s4))) (Wk.Same.fresh (s1.trans (s2.trans s3)) hl4) h4
    | within g t =>
      have hv0 := hv
      obtain ⟨a, x, rfl, ha, hx⟩ := hv
      refine ⟨_, rfl, a, _, 0, _, rfl, rfl, SqT.of ha, rfl, ?_⟩
      refine ⟨_, rfl, rfl, _, rfl, ?_⟩
      rw [hq l_true (show decide (Wm.wWithin = wTrue) = false from by decide)]
      refine iteF ?_
      refine ⟨_, rfl, rfl, _, rfl, ?_⟩
      rw [hq l_false (show decide (Wm.wWithin = wFalse) = false from by decide)]
      refine iteF ?_
      refine ⟨_, rfl, rfl, _, rfl, ?_⟩
      rw [hq l_not (show decide (Wm.wWithin = Wm.wNot) = false from by decide)]
      refine iteF ?_
      refine ⟨_, rfl, rfl, _, rfl, ?_⟩
      rw [hq l_all (show decide (Wm.wWithin = Wm.wAll) = false from by decide)]
      refine iteF ?_
      refine ⟨_, rfl, rfl, _, rfl, ?_⟩
      rw [hq l_any (show decide (Wm.wWithin = Wm.wAny) = false from by decide)]
      refine iteF ?_
      refine ⟨_, rfl, rfl, _, rfl, ?_⟩
      rw [hq l_is (show decide (Wm.wWithin = Wm.wIs) = false from by decide)]
      refine iteF ?_
      refine ⟨_, rfl, rfl, _, rfl, ?_⟩
      rw [hq l_in (show decide (Wm.wWithin = Wm.wIn) = false from by decide)]
      refine iteF ?_
      refine ⟨_, rfl, rfl, _, rfl, ?_⟩
      rw [hq l_member (show decide (Wm.wWithin = Wm.wMember) = false from by decide)]
      refine iteF ?_
      refine ⟨_, rfl, rfl, _, rfl, ?_⟩
      rw [hq l_most (show decide (Wm.wWithin = Wm.wMost) = false from by decide)]
      refine iteF ?_
      have ht : okL 1000 (Wm.toksG t) := okL_sub' hok (((((List.Sublist.refl _).cons _).cons _).trans (List.sublist_append_left _ _)).cons _ |>.cons _)
      refine ⟨_, rfl, a, _, 1, _, rfl, rfl, SqT.of ha, rfl, fits1, fun l1 hl1 => ?_⟩
      have s1 := Same.new (o := .lst [.str (sL g)]) hl1
      refine ⟨_, rfl, .ref a, .within g t, _, rfl, SmpV.keep (Same.tups s1) hv0, rfl, ht, fun l2 H2 s2 hl2 h2 => ⟨fits2, fun r hr => ?_⟩⟩
      have s3 := Same.new (o := .lst [.ref l1, .ref l2]) hr
      refine tokens_end (as := [l1, l2]) (tss := [[.word g], Wm.toksG t]) upd_same ⟨s3 _ _ (s2 _ _ upd_same), s3 _ _ h2, trivial⟩ ?_ (by show 2 ≤ 1000; decide) fun l4 H4 s4 hl4 h4 => ?_
      · have := hok.2
        show (.word g :: .mark 44 :: Wm.toksG t).length ≤ 1000
        have e : (Wm.toksS (.within g t)).length = (Wm.Tk.word g :: .mark 44 :: Wm.toksG t).length + 3 := by show (_ :: _ :: (_ ++ [_])).length = _; rw [List.length_cons, List.length_cons, List.length_append] <;> rfl
        omega
      · exact q l4 H4 (s1.trans (s2.trans (s3.trans s4))) (Wk.Same.fresh (s1.trans (s2.trans s3)) hl4) h4
    | most x y c =>
      obtain ⟨a, rfl, ha⟩ := hv
      refine ⟨_, rfl, a, _, 0, _, rfl, rfl, SqT.of ha, rfl, ?_⟩
      refine ⟨_, rfl, rfl, _, rfl, ?_⟩
      rw [hq l_true (show decide (Wm.wMost = wTrue) = false from by decide)]
      refine iteF ?_
      refine ⟨_, rfl, rfl, _, rfl, ?_⟩
      rw [hq l_false (show decide (Wm.wMost = wFalse) = false from by decide)]
      refine iteF ?_
      refine ⟨_, rfl, rfl, _, rfl, ?_⟩
      rw [hq l_not (show decide (Wm.wMost = Wm.wNot) = false from by decide)]
      refine iteF ?_
      refine ⟨_, rfl, rfl, _, rfl, ?_⟩
      rw [hq l_all (show decide (Wm.wMost = Wm.wAll) = false from by decide)]
      refine iteF ?_
      refine ⟨_, rfl, rfl, _, rfl, ?_⟩
      rw [hq l_any (show decide (Wm.wMost = Wm.wAny) = false from by decide)]
      refine iteF ?_
      refine ⟨_, rfl, rfl, _, rfl, ?_⟩
      rw [hq l_is (show decide (Wm.wMost = Wm.wIs) = false from by decide)]
      refine iteF ?_
      refine ⟨_, rfl, rfl, _, rfl, ?_⟩
      rw [hq l_in (show decide (Wm.wMost = Wm.wIn) = false from by decide)]
      refine iteF ?_
      refine ⟨_, rfl, rfl, _, rfl, ?_⟩
      rw [hq l_member (show decide (Wm.wMost = Wm.wMember) = false from by decide)]
      refine iteF ?_
      refine ⟨_, rfl, rfl, _, rfl, ?_⟩
      rw [hq l_most (show decide (Wm.wMost = Wm.wMost) = true from by decide)]
      refine iteT ?_
      have hc := (hok.1 (.int c) (by show Wm.Tk.int c ∈ _ :: _ :: ((Wm.numT x ++ .mark 44 :: (Wm.numT y ++ [.mark 44, .int c])) ++ [_]); simp)).2 c rfl
      refine ⟨_, rfl, _, rfl, _, rfl, a, _, rfl, SqT.of ha, (by show ¬ (HT.sIx 4 0 (some 1) = 0 ∧ HT.sIx 4 4 (some 3) = 4); decide), fun p hp => ⟨p, rfl, ⟨_, SqT.of upd_same⟩, fun Dd hDd => ?_⟩⟩
      have s1 := Same.new (o := .tup (cutV [.str (sL Wm.wMost), .str (sL x), .str (sL y), .int c] (some 1) (some 3))) hp
      have ecut : cutV [.str (sL Wm.wMost), .str (sL x), .str (sL y), .int c] (some 1) (some 3) = [.str (sL x), .str (sL y)] := rfl
      refine lc_tupP (fun i y' H' => ∀ u, ([x, y] : List Wm.L)[i]? = some u → ∃ a, y' = .ref a ∧ a ≠ Dd ∧ H' a = some (.lst (tv (Wm.numT u)))) (by rw [ecut]; exact fits2) upd_same hDd ?_ (fun i y H' H'' h k u hu => ?_) ?_ ?_
      · intro x; rfl
      · obtain ⟨a, e, hne, ha⟩ := h u hu
        exact ⟨a, e, hne, k _ _ hne ha⟩
      · intro i z H' R hz sm hD' hR
        rw [ecut] at hz
        obtain ⟨u, hu, rfl⟩ : ∃ u, ([x, y] : List Wm.L)[i]? = some u ∧ z = .str (sL u) := by
          match i, hz with
          | 0, e => exact ⟨x, rfl, by simpa using e.symm⟩
          | 1, e => exact ⟨y, rfl, by simpa using e.symm⟩
          | i + 2, e => simp at e
        refine ⟨_, rfl, rfl, _, rfl, ?_⟩
        rw [nil_str, dec_sL]
        have fin : ∀ (v : V) (l2 : Addr), H' l2 = none → [v] = tv (Wm.numT u) → R (.ref l2) (upd H' l2 (.lst [v])) := fun v l2 hl2 e => hR _ _ (fun u' hu' => by
          rw [hu] at hu'
          cases hu'
          obtain ⟨acc, hacc⟩ := hD'
          exact ⟨l2, rfl, fun e => (by rw [e, hacc] at hl2; cases hl2), upd_same.trans (by rw [e])⟩) (Same.new hl2)
        by_cases e : u = []
        · rw [decide_eq_true e]
          refine iteT ⟨fits1, fun l2 hl2 => fin _ l2 hl2 ?_⟩
          unfold Wm.numT
          rw [if_pos e, l_zero] <;> rfl
        · rw [decide_eq_false e]
          refine iteF ⟨_, rfl, fits1, fun l2 hl2 => fin _ l2 hl2 ?_⟩
          unfold Wm.numT
          rw [if_neg e] <;> rfl
      intro H3 ys s3 hys hly hall
      rw [ecut] at hly
      match ys, hly, hall, hys with
      | [y1, y2], _, hall, hys =>
        obtain ⟨a1, e1, n1, h1⟩ := hall 0 y1 rfl x rfl
        obtain ⟨a2, e2, n2, h2⟩ := hall 1 y2 rfl y rfl
        subst e1
        subst e2
        refine ⟨_, rfl, .inl ⟨rfl, _, SqL.of hys⟩, _, rfl, a, _, 3, _, rfl, rfl, SqT.of (s3 _ _ (s1 _ _ ha)), rfl, c, rfl, Wm.log_of (Nat.lt_trans hc (by decide +kernel)), fits1, fun l4 hl4 => ?_⟩
        have s4 := Same.new (o := .lst [.str (Str.ofString (toString c))]) hl4
        have hD4 := s4 _ _ hys
        refine ⟨Dd, _, _, rfl, rfl, hD4, (by show 2 < sizeLine; decide), ?_⟩
        have n4 : l4 ≠ Dd := fun e => by rw [e, hys] at hl4; cases hl4
        have sAll : Same H (upd (upd H3 l4 (.lst [.str (Str.ofString (toString c))])) Dd (.lst ([.ref a1, .ref a2] ++ [.ref l4]))) := Same.put ((s1.trans s3).trans s4) (Wk.Same.fresh s1 hDd)
        refine tokens_end (as := [a1, a2, l4]) (tss := [Wm.numT x, Wm.numT y, [.int c]]) upd_same ⟨?_, ?_, ?_, trivial⟩ ?_ (by show 3 ≤ 1000; decide) fun l5 H5 s5 hl5 h5 => ?_
        · rw [upd_ne n1]; exact s4 _ _ h1
        · rw [upd_ne n2]; exact s4 _ _ h2
        · rw [upd_ne n4, upd_same, str_itxt] <;> rfl
        · show (Wm.numT x ++ Wm.Tk.mark 44 :: (Wm.numT y ++ Wm.Tk.mark 44 :: [Wm.Tk.int c])).length ≤ 1000
          have nl : ∀ z : Wm.L, (Wm.numT z).length = 1 := fun z => by unfold Wm.numT; by_cases e : z = [] <;> simp [e]
          rw [List.length_append, List.length_cons, List.length_append, nl, nl]
          show 1 + (1 + 2 + 1) ≤ 1000
          decide
        · exact q l5 H5 (sAll.trans s5) (Wk.Same.fresh sAll hl5) h5
    | path u p ts =>
      have hv0 := hv
      obtain ⟨a, b, vs, rfl, ha, hb, htv⟩ := hv
      have ht : okL 1000 (Wm.pathT ts) := okL_sub' hok (((((List.Sublist.refl _).cons _).cons _).trans (List.sublist_append_left _ _)).cons _ |>.cons _)
      have fin : ∀ (Dn : Ends) (wd : Wm.L), wd = Wm.hdW (.path u) → Dn.rt = Q → tSeq (tAsg (tLst (tCons (tLst (tCons (tOp (rIxT K) (tVar 0) (tC (.int 1))) tNil)) (tCons (tCall sp_last_tokens [] E0 (tCons (tVar 0) tNil)) tNil))) (gName 2)) (tRet (tOp rCat (tOp rCat (tLst (tCons (tVar 1) (tCons (tC (.str (Str.ofString "("))) tNil))) (tCall sp_joined [] E0 (tCons (tVar 2) tNil))) (tLst (tCons (tC (.str (Str.ofString ")"))) tNil)))) Dn [some (.ref a), some (.str (sL wd)), none, none, none] H := by
        intro Dn wd hwd hDn
        subst hwd
        refine ⟨_, rfl, a, _, 1, _, rfl, rfl, SqT.of ha, rfl, fits1, fun l1 hl1 => ?_⟩
        have s1 := Same.new (o := .lst [.str (sL p)]) hl1
        refine ⟨_, rfl, .ref a, .path u p ts, _, rfl, SmpV.keep (Same.tups s1) hv0, rfl, ht, fun l2 H2 s2 hl2 h2 => ⟨fits2, fun r hr => ?_⟩⟩
        have s3 := Same.new (o := .lst [.ref l1, .ref l2]) hr
        refine tokens_end (as := [l1, l2]) (tss := [[.word p], Wm.pathT ts]) upd_same ⟨s3 _ _ (s2 _ _ upd_same), s3 _ _ h2, trivial⟩ ?_ (by show 2 ≤ 1000; decide) fun l4 H4 s4 hl4 h4 => ?_
        · have := hok.2
          show (.word p :: .mark 44 :: Wm.pathT ts).length ≤ 1000
          have e : (Wm.toksS (.path u p ts)).length = (Wm.Tk.word p :: .mark 44 :: Wm.pathT ts).length + 3 := by show (_ :: _ :: (_ ++ [_])).length = _; rw [List.length_cons, List.length_cons, List.length_append] <;> rfl
          omega
        · show Dn.rt _ _
          rw [hDn]
          exact q l4 H4 (s1.trans (s2.trans (s3.trans s4))) (Wk.Same.fresh (s1.trans (s2.trans s3)) hl4) h4
      refine ⟨_, rfl, a, _, 0, _, rfl, rfl, SqT.of ha, rfl, ?_⟩
      cases u with
      | true =>
        show (tSeq _ _) _ [some (.ref a), some (.str (sL Wm.wUnder)), none, none, none] H
        refine ⟨_, rfl, rfl, _, rfl, ?_⟩
        rw [hq l_true (show decide (Wm.wUnder = wTrue) = false from by decide)]
        refine iteF ?_
        refine ⟨_, rfl, rfl, _, rfl, ?_⟩
        rw [hq l_false (show decide (Wm.wUnder = wFalse) = false from by decide)]
        refine iteF ?_
        refine ⟨_, rfl, rfl, _, rfl, ?_⟩
        rw [hq l_not (show decide (Wm.wUnder = Wm.wNot) = false from by decide)]
        refine iteF ?_
        refine ⟨_, rfl, rfl, _, rfl, ?_⟩
        rw [hq l_all (show decide (Wm.wUnder = Wm.wAll) = false from by decide)]
        refine iteF ?_
        refine ⟨_, rfl, rfl, _, rfl, ?_⟩
        rw [hq l_any (show decide (Wm.wUnder = Wm.wAny) = false from by decide)]
        refine iteF ?_
        refine ⟨_, rfl, rfl, _, rfl, ?_⟩
        rw [hq l_is (show decide (Wm.wUnder = Wm.wIs) = false from by decide)]
        refine iteF ?_
        refine ⟨_, rfl, rfl, _, rfl, ?_⟩
        rw [hq l_in (show decide (Wm.wUnder = Wm.wIn) = false from by decide)]
        refine iteF ?_
        refine ⟨_, rfl, rfl, _, rfl, ?_⟩
        rw [hq l_member (show decide (Wm.wUnder = Wm.wMember) = false from by decide)]
        refine iteF ?_
        refine ⟨_, rfl, rfl, _, rfl, ?_⟩
        rw [hq l_most (show decide (Wm.wUnder = Wm.wMost) = false from by decide)]
        refine iteF ?_
        exact fin _ _ rfl rfl
      | false =>
        show (tSeq _ _) _ [some (.ref a), some (.str (sL Wm.wAt)), none, none, none] H
        refine ⟨_, rfl, rfl, _, rfl, ?_⟩
        rw [hq l_true (show decide (Wm.wAt = wTrue) = false from by decide)]
        refine iteF ?_
        refine ⟨_, rfl, rfl, _, rfl, ?_⟩
        rw [hq l_false (show decide (Wm.wAt = wFalse) = false from by decide)]
        refine iteF ?_
        refine ⟨_, rfl, rfl, _, rfl, ?_⟩
        rw [hq l_not (show decide (Wm.wAt = Wm.wNot) = false from by decide)]
        refine iteF ?_
        refine ⟨_, rfl, rfl, _, rfl, ?_⟩
        rw [hq l_all (show decide (Wm.wAt = Wm.wAll) = false from by decide)]
        refine iteF ?_
        refine ⟨_, rfl, rfl, _, rfl, ?_⟩
        rw [hq l_any (show decide (Wm.wAt = Wm.wAny) = false from by decide)]
        refine iteF ?_
        refine ⟨_, rfl, rfl, _, rfl, ?_⟩
        rw [hq l_is (show decide (Wm.wAt = Wm.wIs) = false from by decide)]
        refine iteF ?_
        refine ⟨_, rfl, rfl, _, rfl, ?_⟩
        rw [hq l_in (show decide (Wm.wAt = Wm.wIn) = false from by decide)]
        refine iteF ?_
        refine ⟨_, rfl, rfl, _, rfl, ?_⟩
        rw [hq l_member (show decide (Wm.wAt = Wm.wMember) = false from by decide)]
        refine iteF ?_
        refine ⟨_, rfl, rfl, _, rfl, ?_⟩
        rw [hq l_most (show decide (Wm.wAt = Wm.wMost) = false from by decide)]
        refine iteF ?_
        exact fin _ _ rfl rfl
theorem ok_tokens_all (G : Glob K mg) (D : Df K mg "_law_tokens" s__law_tokens ["_law_condition_here"]) (C__law_joined : Cal P w K mg base CX0 1 "_law_joined" ["_law_rows"] sp_joined) (C__law_term_tokens : Cal P w K mg base CX0 1 "_law_term_tokens" ["_law_term_here"] sp_term_tokens)
    (C__law_last_tokens : Cal P w K mg base CX0 2 "_law_last_tokens" ["_law_condition_here"] sp_last_tokens) : ∀ n, Cal P w K mg base CX0 (3 + n) "_law_tokens" ["_law_condition_here"] (sp_tokens n)
  | 0 => D.ok sc__law_tokens (fun vs H Q E h => by obtain ⟨v, c, _, _, h, _⟩ := h; exact h.elim) fun f cdv A outer s H vs Q E hr h => by obtain ⟨v, c, _, _, h, _⟩ := h; exact h.elim
  | n + 1 => ok__law_tokens G D C__law_joined C__law_term_tokens C__law_last_tokens n (ok_tokens_all G D C__law_joined C__law_term_tokens C__law_last_tokens n)
end
end Wk
end PartBl8
section PartBl9
set_option Elab.async false
set_option linter.all false
set_option maxRecDepth 100000
set_option maxHeartbeats 4000000
namespace Wk
open PySem PySem.Spec PyProof.Rows L2
open Wm (okW okTr okS okL okT okTok dOk)
theorem l_sp : Str.ofString " " = sL [32] := by decide +kernel
theorem l_seven : Str.ofString "7" = sL [55] := by decide +kernel
def isT (z : V) : Prop := ∃ y : Wm.L, z = .str (sL y) ∧ okT y
def bT : V → Bool
  | .str x => decide (x.length ≠ 0) && decide (x.length ≤ 100)
  | _ => false
theorem isT_of {z : V} (h : bT z = true) : isT z := by
  cases z with
  | str x =>
    simp only [bT, Bool.and_eq_true, decide_eq_true_eq] at h
    refine ⟨x.cps.toList, by rw [sL_tl], fun e => h.1 ?_, ?_⟩
    · have e2 := congrArg List.length e
      exact e2
    · exact h.2
  | _ => cases h
theorem isT_str {x : Str} (h1 : x.length ≠ 0) (h2 : x.length ≤ 100) : isT (.str x) := isT_of (by simp only [bT, Bool.and_eq_true, decide_eq_true_eq]; exact ⟨h1, h2⟩)
theorem len_app (x y : Str) : (x ++ y).length = x.length + y.length := by
  obtain ⟨x⟩ := x
  obtain ⟨y⟩ := y
  show (x ++ y).size = x.size + y.size
  exact Array.size_append
theorem len_int {n : Int} {k : Nat} (hk : 0 < k) (h : n.natAbs < 10 ^ k) : (Str.ofString (toString n)).length ≤ k + 1 ∧ (Str.ofString (toString n)).length ≠ 0 := by
  rw [str_itxt, len_sL]
  have z := Wm.itxt_len hk h
  exact ⟨z.1, fun e => z.2 (List.length_eq_zero_iff.mp e)⟩
theorem four_ints {z : V} (h : z ∈ [V.int 0, V.int 1, V.int 2, V.int 7]) : ∃ m : Nat, z = .int (m : Int) ∧ m ≤ 7 := by
  simp only [List.mem_cons, List.not_mem_nil, or_false] at h
  rcases h with e | e | e | e
  · exact ⟨0, e, by decide⟩
  · exact ⟨1, e, by decide⟩
  · exact ⟨2, e, by decide⟩
  · exact ⟨7, e, by decide⟩
section
variable {P : Program} {w : World} {K : PySem.W.Frag} {mg : Str → Option Value} {base : Heap} {C B : Addr}
abbrev s__law_spaced : Stmt := topS 69
abbrev N__law_spaced : List Str := ["_law_tokens_here", "_law_pattern_here", "_law_starts", "_law_text_here", "_law_rest", "_law_token", "_law_many_here"]
theorem sc__law_spaced : FnScope N__law_spaced ["_law_tokens_here", "_law_pattern_here", "_law_starts"] (defScope s__law_spaced) := ⟨rfl, rfl, rfl, by decide +kernel, rfl, by decide +kernel, by decide +kernel⟩
def sp_spaced : Sp := fun vs H Q _ => ∃ (l st : Addr) (p : Int) (ys : List V), vs = [.ref l, .int p, .ref st] ∧ H l = some (.lst ys) ∧ H st = some (.lst []) ∧ l ≠ st ∧ ys.length ≤ 1000 ∧ (∀ y ∈ ys, isT y) ∧ ∀ (cs : List Nat) H', cs.length ≤ 107 * ys.length + 7 → SameBut st H H' → Q (.str (sL cs)) H'
theorem ok__law_spaced (G : Glob K mg) (D : Df K mg "_law_spaced" s__law_spaced ["_law_tokens_here", "_law_pattern_here", "_law_starts"]) : Cal P w K mg base CX0 1 "_law_spaced" ["_law_tokens_here", "_law_pattern_here", "_law_starts"] sp_spaced := by
  refine D.ok sc__law_spaced (fun vs H Q E h => ?_) (fun f cdv A outer s H vs Q E hr h => ?_)
  · obtain ⟨l, st, p, ys, rfl, _⟩ := h
    rfl
  obtain ⟨l, st, p, ys, rfl, hl, hst, hne, hlen, hall, q⟩ := h
  refine ⟨_, (pss_cons (ps_set (i := 3) sc__law_spaced.nd rfl (Or.inl rfl) pe_str)
    (pss_cons (ps_set (i := 4) sc__law_spaced.nd rfl (Or.inl rfl) (pv 1))
    (pss_cons (ps_for PassesOwn.never rfl (pi_list (pv 0)) (pg_name (i := 5) sc__law_spaced.nd rfl (Or.inl rfl))
      (pss_cons (ps_join <| ps_if (pt_cmpR op_lt (pv 4) pe_int (nomark _))
        (pss_one (ps_set (i := 4) sc__law_spaced.nd rfl (Or.inl rfl) (pv 1)))
        pss_nil)
      (pss_cons (ps_set (i := 6) sc__law_spaced.nd rfl (Or.inl rfl) (pe_ix ix_list (pe_lst (pa_cons pe_int (pa_cons pe_int (pa_cons pe_int (pa_cons pe_int pa_nil))))) (pe_op op_mod (pe_callTy call_int1 rfl G.int boot_int (pa_cons (pv 4) pa_nil)) pe_int) (fun _ _ => rfl)))
      (pss_cons (ps_set (i := 4) sc__law_spaced.nd rfl (Or.inl rfl) (pe_op op_fdiv (pv 4) pe_int))
      (pss_cons (ps_join <| ps_if (PW.pt (pw_and (pt_cmpR op_eq (pv 6) pe_int (nomark _)) (pw_and (pt_cmpR op_ne (pv 3) pe_str (nomark _)) (pw_and (pt_val (pe_bm0 PySem.F.plainAttrs_str PySem.F.slot_str_isalpha PySem.F.type_str_isalpha mt_isalpha (pe_ix ix_str (pv 3) (pe_op op_sub (pe_callB call_len_str rfl G.len PySem.boot_len (pa_cons (pv 3) pa_nil)) pe_int) (fun _ _ => rfl)))) (pw_and1 (pt_val (pe_bm0 PySem.F.plainAttrs_str PySem.F.slot_str_isalpha PySem.F.type_str_isalpha mt_isalpha (pe_ix ix_str (pv 5) pe_int (fun _ _ => rfl)))))))))
        (pss_one (ps_set (i := 6) sc__law_spaced.nd rfl (Or.inl rfl) pe_int))
        pss_nil)
      (pss_cons (ps_set (i := 3) sc__law_spaced.nd rfl (Or.inl rfl) (pe_op op_add_str (pv 3) (pe_op op_rep_str pe_str (pv 6))))
      (pss_cons (ps_expr (pe_bm PySem.F.plainAttrs_list PySem.F.slot_list_append PySem.F.type_list_append mt_append (pv 2) (pa_cons (pe_callB call_len_str rfl G.len PySem.boot_len (pa_cons (pv 3) pa_nil)) pa_nil)))
      (pss_one (ps_set (i := 3) sc__law_spaced.nd rfl (Or.inl rfl) (pe_op op_add_str (pv 3) (pv 5)))))))))))
    (pss_cons (ps_join <| ps_if (pt_cmpR op_lt (pv 4) pe_int (nomark _))
      (pss_one (ps_set (i := 4) sc__law_spaced.nd rfl (Or.inl rfl) (pv 1)))
      pss_nil)
    (pss_one (ps_ret (pe_op op_add_str (pv 3) (pe_op op_rep_str pe_str (pe_ix ix_list (pe_lst (pa_cons pe_int (pa_cons pe_int (pa_cons pe_int (pa_cons pe_int pa_nil))))) (pe_op op_mod (pe_callTy call_int1 rfl G.int boot_int (pa_cons (pv 4) pa_nil)) pe_int) (fun _ _ => rfl)))))))))), ?_⟩
  have fits4 : ∀ {a b c e : V}, ([a, b, c, e] : List V).length ≤ sizeLine := by intro a b c e; show 4 ≤ sizeLine; decide
  have m4 : ∀ z : Int, 0 ≤ z % 4 ∧ z % 4 < ((4 : Nat) : Int) := fun z => ⟨Int.emod_nonneg _ (by decide), Int.emod_lt_of_pos _ (by decide)⟩
  refine ⟨_, rfl, _, rfl, l, rfl, ⟨_, SqL.of hl⟩, for_list (xs := ys) (fun i σ H' => i ≤ ys.length ∧ SameBut st H H' ∧ ∃ (cs : List Nat) (rest : Int) (o5 o6 : Option V) (ws : List V), σ = [some (.ref l), some (.int p), some (.ref st), some (.str (sL cs)), some (.int rest), o5, o6] ∧ cs.length ≤ 107 * i ∧ H' st = some (.lst ws) ∧ ws.length = i)
    ⟨Nat.zero_le _, SameBut.refl, [], p, none, none, [], by rw [← nil_str] <;> rfl, Nat.zero_le _, hst, rfl⟩ (fun i σ H' _ h => SqL.of (h.2.1 _ _ hne hl)) ?_ ?_⟩
  · rintro i x σ H' hx ⟨_, sm, cs, rest, o5, o6, ws, rfl, hcs, hws, hwl⟩
    have hlt : i < ys.length := (List.getElem?_eq_some_iff.mp hx).1
    obtain ⟨y, rfl, hy0, hy⟩ := hall x (List.mem_of_getElem? hx)
    refine ⟨fun σ H2 => H2 = H' ∧ ∃ rest : Int, σ = [some (.ref l), some (.int p), some (.ref st), some (.str (sL cs)), some (.int rest), some (.str (sL y)), o6], ?_, ?_⟩
    · refine ⟨_, rfl, _, _, rfl, rfl, _, rfl, ?_⟩
      exact ite2 (fun e => ⟨_, rfl, rfl, _, rfl⟩) (fun e => ⟨rfl, _, rfl⟩)
    rintro σ H2 ⟨rfl, rest2, rfl⟩
    refine ⟨fits4, fun l2 hl2 => ?_⟩
    have s2 : SameBut st H2 (upd H2 l2 (.lst [.int 0, .int 1, .int 2, .int 7])) := SameBut.new hl2
    refine ⟨_, rfl, .inl ⟨_, rfl, _, _, rfl, rfl, (by show (0 : Int) < _; decide), ?_⟩⟩
    refine pick_new upd_same (m4 _).1 (m4 _).2 fun z hz => ?_
    obtain ⟨m, rfl, hm⟩ := four_ints hz
    refine ⟨_, rfl, _, _, rfl, rfl, ⟨by decide, by decide⟩, ?_⟩
    have hws2 : upd H2 l2 (.lst [.int 0, .int 1, .int 2, .int 7]) st = some (.lst ws) := Same.new hl2 _ _ hws
    refine ⟨fun σ H3 => H3 = upd H2 l2 (.lst [.int 0, .int 1, .int 2, .int 7]) ∧ ∃ m : Nat, m ≤ 7 ∧ σ = [some (.ref l), some (.int p), some (.ref st), some (.str (sL cs)), some (.int (rest2 / 4)), some (.str (sL y)), some (.int (m : Int))], ?_, ?_⟩
    · have no : ∀ H3, H3 = upd H2 l2 (.lst [.int 0, .int 1, .int 2, .int 7]) → (tNext : TS) { nx := fun σ H3 => H3 = upd H2 l2 (.lst [.int 0, .int 1, .int 2, .int 7]) ∧ ∃ m : Nat, m ≤ 7 ∧ σ = [some (.ref l), some (.int p), some (.ref st), some (.str (sL cs)), some (.int (rest2 / 4)), some (.str (sL y)), some (.int (m : Int))], rt := Q } [some (.ref l), some (.int p), some (.ref st), some (.str (sL cs)), some (.int (rest2 / 4)), some (.str (sL y)), some (.int (m : Int))] H3 := fun H3 e => ⟨e, m, hm, rfl⟩
      refine ⟨_, rfl, rfl, _, rfl, ?_⟩
      refine ite2 (fun e => ?_) (fun e => ⟨rfl, m, hm, rfl⟩)
      refine ⟨_, rfl, rfl, ?_⟩
      refine ⟨_, rfl, ?_⟩
      refine ite2 (fun e => ?_) (fun e => ⟨rfl, m, hm, rfl⟩)
      have hcs0 : cs ≠ [] := fun z => by
        rw [z, nil_str, decide_eq_true rfl] at e
        cases e
      have hl0 := List.length_pos_iff.mpr hcs0
      obtain ⟨c, _, hc⟩ := pickN (l := (sL cs).cps.toList) (i := (((sL cs).length : Nat) : Int) - 1) (by rw [len_sL]; omega) (by rw [len_sL, tl_sL]; omega)
      have hz : (sL cs).length ≤ sizeLine := by rw [len_sL, sizeLine_eq]; omega
      refine ⟨_, rfl, _, rfl, _, rfl, hz, _, _, rfl, rfl, _, _, c, rfl, rfl, hz, hc, rfl, _, rfl, rfl, trivial, _, rfl, ?_⟩
      refine ite2 (fun e => ?_) (fun e => ⟨rfl, m, hm, rfl⟩)
      obtain ⟨c2, _, hc2⟩ := pickN (l := (sL y).cps.toList) (i := 0) (Int.le_refl 0) (by rw [tl_sL]; have := List.length_pos_iff.mpr hy0; omega)
      refine ⟨_, rfl, _, _, c2, rfl, rfl, by rw [len_sL, sizeLine_eq]; omega, hc2, rfl, _, rfl, rfl, trivial, _, rfl, ?_⟩
      exact ite2 (fun e => ⟨rfl, 1, by decide, rfl⟩) (fun e => ⟨rfl, m, hm, rfl⟩)
    rintro σ H3 ⟨rfl, m2, hm2, rfl⟩
    refine ⟨_, rfl, _, rfl, 32, m2, congrArg V.str l_sp, rfl, by omega, _, _, rfl, rfl, ?_, ?_⟩
    · rw [len_sL, len_sL, List.length_replicate, sizeLine_eq]; omega
    rw [sL_app]
    have hz2 : (sL (cs ++ List.replicate m2 32)).length ≤ sizeLine := by rw [len_sL, List.length_append, List.length_replicate, sizeLine_eq]; omega
    refine ⟨_, rfl, .inl ⟨rfl, _, SqL.of hws2⟩, _, rfl, _, rfl, hz2, st, _, _, rfl, rfl, hws2, by rw [sizeLine_eq]; omega, ?_⟩
    refine ⟨_, rfl, _, rfl, _, _, rfl, rfl, ?_, ?_⟩
    · rw [len_sL, len_sL, List.length_append, List.length_replicate, sizeLine_eq]; omega
    rw [sL_app]
    refine ⟨hlt, sm.trans (s2.trans SameBut.put), _, _, _, _, _, rfl, ?_, upd_same, by rw [List.length_append, List.length_singleton]; omega⟩
    rw [List.length_append, List.length_append, List.length_replicate]
    omega
  · rintro σ H' ⟨_, sm, cs, rest, o5, o6, ws, rfl, hcs, hws, hwl⟩
    refine ⟨fun σ H2 => H2 = H' ∧ ∃ rest : Int, σ = [some (.ref l), some (.int p), some (.ref st), some (.str (sL cs)), some (.int rest), o5, o6], ?_, ?_⟩
    · refine ⟨_, rfl, _, _, rfl, rfl, _, rfl, ?_⟩
      exact ite2 (fun e => ⟨_, rfl, rfl, _, rfl⟩) (fun e => ⟨rfl, _, rfl⟩)
    rintro σ H2 ⟨rfl, rest2, rfl⟩
    refine ⟨_, rfl, fits4, fun l2 hl2 => ?_⟩
    have s2 : SameBut st H2 (upd H2 l2 (.lst [.int 0, .int 1, .int 2, .int 7])) := SameBut.new hl2
    refine ⟨_, rfl, .inl ⟨_, rfl, _, _, rfl, rfl, (by show (0 : Int) < _; decide), ?_⟩⟩
    refine pick_new upd_same (m4 _).1 (m4 _).2 fun z hz => ?_
    obtain ⟨m, rfl, hm⟩ := four_ints hz
    refine ⟨32, m, congrArg V.str l_sp, rfl, by omega, _, _, rfl, rfl, ?_, ?_⟩
    · rw [len_sL, len_sL, List.length_replicate, sizeLine_eq]; omega
    rw [sL_app]
    exact q _ _ (by rw [List.length_append, List.length_replicate]; omega) (sm.trans s2)
abbrev s__law_pattern : Stmt := topS 70
abbrev N__law_pattern : List Str := ["_law_draws_here", "_law_cell_here", "_law_small"]
theorem sc__law_pattern : FnScope N__law_pattern ["_law_draws_here", "_law_cell_here"] (defScope s__law_pattern) := ⟨rfl, rfl, rfl, by decide +kernel, rfl, by decide +kernel, by decide +kernel⟩
def sp_pattern : Sp := fun vs H Q _ => ∃ (d : Addr) (c : Int), vs = [.ref d, .int c] ∧ Dr H d ∧ ∀ (z : Int) H', Go d H H' → Q (.int z) H'
theorem ok__law_pattern (G : Glob K mg) (D : Df K mg "_law_pattern" s__law_pattern ["_law_draws_here", "_law_cell_here"]) (C__law_take : Cal P w K mg base CX0 1 "_law_take" ["_law_draws_here", "_law_many_here"] sp_take2) : Cal P w K mg base CX0 2 "_law_pattern" ["_law_draws_here", "_law_cell_here"] sp_pattern := by
  refine D.ok sc__law_pattern (fun vs H Q E h => ?_) (fun f cdv A outer s H vs Q E hr h => ?_)
  · obtain ⟨d, c, rfl, _⟩ := h
    rfl
  obtain ⟨d, c, rfl, hd, q⟩ := h
  refine ⟨_, (pss_cons (ps_set (i := 2) sc__law_pattern.nd rfl (Or.inl rfl) (pe_op op_add (pe_op op_mul pe_int (pe_cal C__law_take (hr.mono (by decide)) pass0 (pa_cons (pv 0) (pa_cons pe_int pa_nil)))) (pe_cal C__law_take (hr.mono (by decide)) pass0 (pa_cons (pv 0) (pa_cons pe_int pa_nil)))))
    (pss_one (ps_ret (pe_ix ix_list (pe_lst (pa_cons pe_int (pa_cons pe_int (pa_cons pe_int (pa_cons (pv 2) (pa_cons (pv 2) (pa_cons (pe_callB call_abs rfl G.abs boot_abs (pa_cons (pv 1) pa_nil)) pa_nil))))))) (pe_cal C__law_take (hr.mono (by decide)) pass0 (pa_cons (pv 0) (pa_cons pe_int pa_nil))) (fun _ _ => rfl))))), ?_⟩
  refine ⟨_, rfl, d, _, rfl, by decide, hd, fun r1 H1 _ _ g1 => ⟨_, _, rfl, rfl, .inl ⟨by decide, by decide⟩, _, rfl, d, _, rfl, by decide, g1.2, fun r2 H2 _ _ g2 => ⟨_, _, rfl, rfl, ?_⟩⟩⟩
  refine ⟨_, rfl, _, rfl, _, rfl, _, rfl, (by show 6 ≤ sizeLine; decide), fun l hl => ?_⟩
  have g3 := (g1.trans g2).new (o := .lst [.int 0, .int 1, .int 5, .int (1000 * r1 + r2), .int (1000 * r1 + r2), .int (if c < 0 then -c else c)]) hl
  refine ⟨_, rfl, d, _, rfl, by decide, g3.2, fun r4 H4 h04 h14 g4 => ?_⟩
  have hl4 := g4.1 _ _ ((g1.trans g2).2.ne hl) upd_same
  refine pick_new hl4 h04 h14 fun z hz => ?_
  have hz' : ∃ k, z = .int k := by
    simp only [List.mem_cons, List.not_mem_nil, or_false] at hz
    rcases hz with e | e | e | e | e | e <;> exact ⟨_, e⟩
  obtain ⟨k, rfl⟩ := hz'
  exact q k H4 (g3.trans g4)
def sp_token : Sp := fun vs H Q _ => ∃ (d : Addr) (g : Int), vs = [.ref d, .int g] ∧ (0 ≤ g ∧ g < 10 ^ 60) ∧ Dr H d ∧ ∀ (z : V) H', isT z → Go d H H' → Q z H'
abbrev s__law_bad_token : Stmt := topS 71
abbrev N__law_bad_token : List Str := ["_law_draws_here", "_law_great", "_law_shape", "_law_chars", "_law_sign", "_law_char_here"]
theorem sc__law_bad_token : FnScope N__law_bad_token ["_law_draws_here", "_law_great"] (defScope s__law_bad_token) := ⟨rfl, rfl, rfl, by decide +kernel, rfl, by decide +kernel, by decide +kernel⟩
theorem ok__law_bad_token (G : Glob K mg) (D : Df K mg "_law_bad_token" s__law_bad_token ["_law_draws_here", "_law_great"]) (C__law_take : Cal P w K mg base CX0 1 "_law_take" ["_law_draws_here", "_law_many_here"] sp_take2) (C__law_word : Cal P w K mg base CX0 1 "_law_word" ["_law_number"] sp_word) :
    Cal P w K mg base CX0 2 "_law_bad_token" ["_law_draws_here", "_law_great"] sp_token := by
  refine D.ok sc__law_bad_token (fun vs H Q E h => ?_) (fun f cdv A outer s H vs Q E hr h => ?_)
  · obtain ⟨d, g, rfl, _⟩ := h
    rfl
  obtain ⟨d, g, rfl, hg, hd, q⟩ := h
  refine ⟨_, (pss_cons (ps_set (i := 2) sc__law_bad_token.nd rfl (Or.inl rfl) (pe_cal C__law_take (hr.mono (by decide)) pass0 (pa_cons (pv 0) (pa_cons pe_int pa_nil))))
    (pss_cons (ps_set (i := 3) sc__law_bad_token.nd rfl (Or.inl rfl) pe_str)
    (pss_cons (ps_set (i := 4) sc__law_bad_token.nd rfl (Or.inl rfl) (pe_ix ix_list (pe_lst (pa_cons pe_str (pa_cons pe_str pa_nil))) (pe_cal C__law_take (hr.mono (by decide)) pass0 (pa_cons (pv 0) (pa_cons pe_int pa_nil))) (fun _ _ => rfl)))
    (pss_cons (ps_set (i := 5) sc__law_bad_token.nd rfl (Or.inl rfl) (pe_ix ix_str (pv 3) (pe_cal C__law_take (hr.mono (by decide)) pass0 (pa_cons (pv 0) (pa_cons pe_int pa_nil))) (fun _ _ => rfl)))
    (pss_cons (ps_if (pt_cmpR op_eq (pv 2) pe_int (nomark _))
      (pss_one (ps_ret (pv 5)))
      pss_nil)
    (pss_cons (ps_if (pt_cmpR op_eq (pv 2) pe_int (nomark _))
      (pss_one (ps_ret pe_str))
      pss_nil)
    (pss_cons (ps_if (pt_cmpR op_eq (pv 2) pe_int (nomark _))
      (pss_one (ps_ret (pe_op op_add_str pe_str (pe_cal C__law_word (hr.mono (by decide)) pass0 (pa_cons (pe_cal C__law_take (hr.mono (by decide)) pass0 (pa_cons (pv 0) (pa_cons pe_int pa_nil))) pa_nil)))))
      pss_nil)
    (pss_cons (ps_if (pt_cmpR op_eq (pv 2) pe_int (nomark _))
      (pss_one (ps_ret (pe_op op_add_str (pe_op op_add_str (pe_op op_add_str pe_str (pe_cal C__law_word (hr.mono (by decide)) pass0 (pa_cons (pe_cal C__law_take (hr.mono (by decide)) pass0 (pa_cons (pv 0) (pa_cons pe_int pa_nil))) pa_nil))) (pv 5)) pe_str)))
      pss_nil)
    (pss_cons (ps_if (pt_cmpR op_eq (pv 2) pe_int (nomark _))
      (pss_one (ps_ret (pe_ix ix_list (pe_lst (pa_cons pe_str (pa_cons (pe_op op_add_str (pv 4) pe_str) (pa_cons (pe_op op_add_str (pe_op op_add_str (pv 4) pe_str) (pe_callTy call_str_int rfl G.str boot_str (pa_cons (pe_cal C__law_take (hr.mono (by decide)) pass0 (pa_cons (pv 0) (pa_cons pe_int pa_nil))) pa_nil))) pa_nil)))) (pe_cal C__law_take (hr.mono (by decide)) pass0 (pa_cons (pv 0) (pa_cons pe_int pa_nil))) (fun _ _ => rfl))))
      pss_nil)
    (pss_one (ps_ret (pe_op op_add_str (pe_op op_add_str (pv 4) (pe_callTy call_str_int rfl G.str boot_str (pa_cons (pe_op op_add (pe_op op_pow pe_int pe_int) (pv 1)) pa_nil))) (pe_op op_rep_str pe_str (pe_cal C__law_take (hr.mono (by decide)) pass0 (pa_cons (pv 0) (pa_cons pe_int pa_nil)))))))))))))))), ?_⟩
  have fits2 : ∀ {a b : V}, ([a, b] : List V).length ≤ sizeLine := by intro a b; show 2 ≤ sizeLine; decide
  have fits3 : ∀ {a b c : V}, ([a, b, c] : List V).length ≤ sizeLine := by intro a b c; show 3 ≤ sizeLine; decide
  have lq : (Str.ofString "\"").length = 1 := by decide +kernel
  have l00 : (Str.ofString "00").length = 2 := by decide +kernel
  have l0 : (Str.ofString "0").length = 1 := by decide +kernel
  have hsz : ∀ k : Nat, k ≤ 1000 → k ≤ sizeLine := fun k hk => by rw [sizeLine_eq]; omega
  refine ⟨_, rfl, d, _, rfl, by decide, hd, fun r1 H1 h01 h11 g1 => ?_⟩
  refine ⟨fits2, fun l hl => ?_⟩
  have g2 := g1.new (o := .lst [.str (Str.ofString ""), .str (Str.ofString "-")]) hl
  refine ⟨_, rfl, d, _, rfl, by decide, g2.2, fun r3 H3 h03 h13 g3 => ?_⟩
  have hl3 := g3.1 _ _ (g1.2.ne hl) upd_same
  refine pick_new hl3 h03 h13 fun z hz => ?_
  have hz' : ∃ sg : Str, z = .str sg ∧ sg.length ≤ 1 := by
    rcases mem_two hz with e | e
    · exact ⟨_, e, by decide +kernel⟩
    · exact ⟨_, e, by decide +kernel⟩
  obtain ⟨sg, rfl, hsg⟩ := hz'
  have g13 := g2.trans g3
  have hcl : (Str.ofString "!#$&'*+:;<=>?@ABCDEFGHIJKLMNOPQRSTUVWXYZ[\\]^_`|~\t").cps.toList.length = 49 := by decide +kernel
  refine ⟨_, rfl, _, rfl, d, _, rfl, by decide, g3.2, fun r4 H4 h04 h14 g4 => ?_⟩
  obtain ⟨ch, _, hch⟩ := pickN (l := (Str.ofString "!#$&'*+:;<=>?@ABCDEFGHIJKLMNOPQRSTUVWXYZ[\\]^_`|~\t").cps.toList) h04 (by rw [hcl]; exact h14)
  refine ⟨_, _, ch, rfl, rfl, hsz _ (by decide +kernel), hch, ?_⟩
  have g14 := g13.trans g4
  have lch : (⟨#[ch]⟩ : Str).length = 1 := rfl
  refine ⟨_, rfl, rfl, _, rfl, ?_⟩
  refine ite2 (fun e => ⟨_, rfl, q _ _ (isT_str (by rw [lch]; decide) (by rw [lch]; decide)) g14⟩) (fun e0 => ?_)
  refine ⟨_, rfl, rfl, _, rfl, ?_⟩
  refine ite2 (fun e => q _ _ (isT_of (by decide +kernel)) g14) (fun e1 => ?_)
  refine ⟨_, rfl, rfl, _, rfl, ?_⟩
  refine ite2 (fun e => ?_) (fun e2 => ?_)
  · refine ⟨_, rfl, d, _, rfl, by decide, g4.2, fun r5 H5 _ _ g5 => ⟨_, rfl, fun wd hw _ => ⟨_, _, rfl, rfl, ?_, ?_⟩⟩⟩
    · rw [lq, len_sL]; exact hsz _ (by omega)
    · exact q _ _ (isT_str (by rw [len_app, lq]; omega) (by rw [len_app, lq, len_sL]; omega)) (g14.trans g5)
  refine ⟨_, rfl, rfl, _, rfl, ?_⟩
  refine ite2 (fun e => ?_) (fun e3 => ?_)
  · refine ⟨_, rfl, d, _, rfl, by decide, g4.2, fun r5 H5 _ _ g5 => ⟨_, rfl, fun wd hw _ => ⟨_, _, rfl, rfl, ?_, _, rfl, _, _, rfl, rfl, ?_, _, _, rfl, rfl, ?_, ?_⟩⟩⟩
    · rw [lq, len_sL]; exact hsz _ (by omega)
    · rw [len_app, lq, len_sL, lch]; exact hsz _ (by omega)
    · rw [len_app, len_app, lq, len_sL, lch]; exact hsz _ (by omega)
    · exact q _ _ (isT_str (by rw [len_app, len_app, len_app, lq]; omega) (by rw [len_app, len_app, len_app, lq, len_sL, lch]; omega)) (g14.trans g5)
  refine ⟨_, rfl, rfl, _, rfl, ?_⟩
  refine ite2 (fun e => ?_) (fun e4 => ?_)
  · refine ⟨_, rfl, _, _, rfl, rfl, by rw [l00]; exact hsz _ (by omega), _, rfl, _, _, rfl, rfl, by rw [l0]; exact hsz _ (by omega), _, rfl, d, _, rfl, by decide, g4.2, fun r5 H5 h05 h15 g5 => ?_⟩
    have hn : r5.natAbs < 10 ^ 2 := by have : (10 : Nat) ^ 2 = 100 := rfl; omega
    have hl5 := len_int (by decide) hn
    refine ⟨_, rfl, Wm.log_of (Nat.lt_trans hn (by decide +kernel)), _, _, rfl, rfl, by rw [len_app, l0]; exact hsz _ (by omega), fits3, fun l6 hl6 => ?_⟩
    have g6 := g5.new (o := .lst [.str (Str.ofString "-0"), .str (sg ++ Str.ofString "00"), .str (sg ++ Str.ofString "0" ++ Str.ofString (toString r5))]) hl6
    refine ⟨_, rfl, d, _, rfl, by decide, g6.2, fun r7 H7 h07 h17 g7 => ?_⟩
    have hl7 := g7.1 _ _ (g5.2.ne hl6) upd_same
    refine pick_new hl7 h07 h17 fun z hz => q z H7 ?_ (g14.trans (g6.trans g7))
    simp only [List.mem_cons, List.not_mem_nil, or_false] at hz
    rcases hz with e | e | e
    · rw [e]; exact isT_of (by decide +kernel)
    · rw [e]; exact isT_str (by rw [len_app, l00]; omega) (by rw [len_app, l00]; omega)
    · rw [e]; exact isT_str (by rw [len_app, len_app, l0]; omega) (by rw [len_app, len_app, l0]; omega)
  · have hn : ((10 : Int) ^ ((60 : Int).toNat) + g).natAbs < 10 ^ 61 := by
      have e1 : (10 : Int) ^ ((60 : Int).toNat) = 1000000000000000000000000000000000000000000000000000000000000 := by decide +kernel
      have e2 : (10 : Nat) ^ 61 = 10000000000000000000000000000000000000000000000000000000000000 := by decide +kernel
      have e3 : (10 : Int) ^ 60 = 1000000000000000000000000000000000000000000000000000000000000 := by decide +kernel
      rw [e3] at hg
      rw [e1, e2]
      omega
    have hl5 := len_int (by decide) hn
    refine ⟨_, rfl, _, _, rfl, rfl, ⟨by decide, by decide, by decide⟩, _, rfl, _, _, rfl, rfl, _, rfl, Wm.log_of (Nat.lt_trans hn (by decide +kernel)), _, _, rfl, rfl, hsz _ (by omega), _, rfl, d, _, rfl, by decide, g4.2, fun r6 H6 h06 h16 g6 => ?_⟩
    refine ⟨55, r6.toNat, congrArg V.str l_seven, by rw [Int.toNat_of_nonneg h06], by omega, _, _, rfl, rfl, ?_, ?_⟩
    · rw [len_app, len_sL, List.length_replicate]; exact hsz _ (by omega)
    · exact q _ _ (isT_str (by rw [len_app, len_app]; omega) (by rw [len_app, len_app, len_sL, List.length_replicate]; omega)) (g14.trans g6)
abbrev s__law_good_token : Stmt := topS 72
abbrev N__law_good_token : List Str := ["_law_draws_here", "_law_great", "_law_shape"]
theorem sc__law_good_token : FnScope N__law_good_token ["_law_draws_here", "_law_great"] (defScope s__law_good_token) := ⟨rfl, rfl, rfl, by decide +kernel, rfl, by decide +kernel, by decide +kernel⟩
theorem ok__law_good_token (G : Glob K mg) (D : Df K mg "_law_good_token" s__law_good_token ["_law_draws_here", "_law_great"]) (C__law_take : Cal P w K mg base CX0 1 "_law_take" ["_law_draws_here", "_law_many_here"] sp_take2) (C__law_text_word : Cal P w K mg base CX0 3 "_law_text_word" ["_law_draws_here"] sp_some_word) :
    Cal P w K mg base CX0 4 "_law_good_token" ["_law_draws_here", "_law_great"] sp_token := by
  refine D.ok sc__law_good_token (fun vs H Q E h => ?_) (fun f cdv A outer s H vs Q E hr h => ?_)
  · obtain ⟨d, g, rfl, _⟩ := h
    rfl
  obtain ⟨d, g, rfl, hg, hd, q⟩ := h
  refine ⟨_, (pss_cons (ps_set (i := 2) sc__law_good_token.nd rfl (Or.inl rfl) (pe_cal C__law_take (hr.mono (by decide)) pass0 (pa_cons (pv 0) (pa_cons pe_int pa_nil))))
    (pss_cons (ps_if (pt_cmpR op_eq (pv 2) pe_int (nomark _))
      (pss_one (ps_ret pe_str))
      pss_nil)
    (pss_cons (ps_if (pt_cmpR op_eq (pv 2) pe_int (nomark _))
      (pss_one (ps_ret (pe_op op_add_str (pe_op op_add_str pe_str (pe_cal C__law_text_word (hr.mono (by decide)) pass0 (pa_cons (pv 0) pa_nil))) pe_str)))
      pss_nil)
    (pss_cons (ps_if (pt_cmpR op_eq (pv 2) pe_int (nomark _))
      (pss_one (ps_ret (pe_ix ix_list (pe_lst (pa_cons pe_str (pa_cons pe_str (pa_cons pe_str (pa_cons pe_str (pa_cons pe_str (pa_cons (pe_callTy call_str_int rfl G.str boot_str (pa_cons (pv 1) pa_nil)) (pa_cons (pe_callTy call_str_int rfl G.str boot_str (pa_cons (pe_cal C__law_take (hr.mono (by decide)) pass0 (pa_cons (pv 0) (pa_cons pe_int pa_nil))) pa_nil)) pa_nil)))))))) (pe_cal C__law_take (hr.mono (by decide)) pass0 (pa_cons (pv 0) (pa_cons pe_int pa_nil))) (fun _ _ => rfl))))
      pss_nil)
    (pss_cons (ps_if (pt_cmpR op_eq (pv 2) pe_int (nomark _))
      (pss_one (ps_ret (pe_cal C__law_text_word (hr.mono (by decide)) pass0 (pa_cons (pv 0) pa_nil))))
      pss_nil)
    (pss_one (ps_ret (pe_ix ix_str pe_str (pe_cal C__law_take (hr.mono (by decide)) pass0 (pa_cons (pv 0) (pa_cons pe_int pa_nil))) (fun _ _ => rfl))))))))), ?_⟩
  have lq : (Str.ofString "\"").length = 1 := by decide +kernel
  have hsz : ∀ k : Nat, k ≤ 1000 → k ≤ sizeLine := fun k hk => by rw [sizeLine_eq]; omega
  refine ⟨_, rfl, d, _, rfl, by decide, hd, fun r1 H1 h01 h11 g1 => ?_⟩
  refine ⟨_, rfl, rfl, _, rfl, ?_⟩
  refine ite2 (fun e => q _ _ (isT_of (by decide +kernel)) g1) (fun e0 => ?_)
  refine ⟨_, rfl, rfl, _, rfl, ?_⟩
  refine ite2 (fun e => ?_) (fun e1 => ?_)
  · refine ⟨_, rfl, d, rfl, g1.2, fun wd H2 hw g2 => ⟨_, _, rfl, rfl, ?_, _, _, rfl, rfl, ?_, ?_⟩⟩
    · rw [lq, len_sL]; have := hw.2; exact hsz _ (by omega)
    · rw [len_app, lq, len_sL]; have := hw.2; exact hsz _ (by omega)
    · exact q _ _ (isT_str (by rw [len_app, len_app, lq]; omega) (by rw [len_app, len_app, lq, len_sL]; have := hw.2; omega)) (g1.trans g2)
  refine ⟨_, rfl, rfl, _, rfl, ?_⟩
  refine ite2 (fun e => ?_) (fun e2 => ?_)
  · have hg0 : g.natAbs < 10 ^ 60 := by
      have e2 : (10 : Nat) ^ 60 = 1000000000000000000000000000000000000000000000000000000000000 := by decide +kernel
      have e3 : (10 : Int) ^ 60 = 1000000000000000000000000000000000000000000000000000000000000 := by decide +kernel
      rw [e3] at hg
      rw [e2]
      omega
    have hlg := len_int (by decide) hg0
    refine ⟨_, rfl, _, rfl, Wm.log_of (Nat.lt_trans hg0 (by decide +kernel)), _, rfl, d, _, rfl, by decide, g1.2, fun r5 H5 h05 h15 g5 => ?_⟩
    have hn : r5.natAbs < 10 ^ 2 := by have : (10 : Nat) ^ 2 = 100 := rfl; omega
    have hl5 := len_int (by decide) hn
    refine ⟨_, rfl, Wm.log_of (Nat.lt_trans hn (by decide +kernel)), (by show 7 ≤ sizeLine; decide), fun l6 hl6 => ?_⟩
    have g6 := g5.new (o := .lst [.str (Str.ofString "0"), .str (Str.ofString "1"), .str (Str.ofString "40"), .str (Str.ofString "41"), .str (Str.ofString "-1"), .str (Str.ofString (toString g)), .str (Str.ofString (toString r5))]) hl6
    refine ⟨_, rfl, d, _, rfl, by decide, g6.2, fun r7 H7 h07 h17 g7 => ?_⟩
    have hl7 := g7.1 _ _ (g5.2.ne hl6) upd_same
    refine pick_new hl7 h07 h17 fun z hz => q z H7 ?_ (g1.trans (g6.trans g7))
    simp only [List.mem_cons, List.not_mem_nil, or_false] at hz
    rcases hz with e | e | e | e | e | e | e
    · rw [e]; exact isT_of (by decide +kernel)
    · rw [e]; exact isT_of (by decide +kernel)
    · rw [e]; exact isT_of (by decide +kernel)
    · rw [e]; exact isT_of (by decide +kernel)
    · rw [e]; exact isT_of (by decide +kernel)
    · rw [e]; exact isT_str hlg.2 (by omega)
    · rw [e]; exact isT_str hl5.2 (by omega)
  refine ⟨_, rfl, rfl, _, rfl, ?_⟩
  refine ite2 (fun e => ?_) (fun e3 => ?_)
  · exact ⟨_, rfl, d, rfl, g1.2, fun wd H2 hw g2 => q _ _ ⟨wd, rfl, hw.1, by have := hw.2; omega⟩ (g1.trans g2)⟩
  · have hcl : (Str.ofString "(){},/.").cps.toList.length = 7 := by decide +kernel
    refine ⟨_, rfl, d, _, rfl, by decide, g1.2, fun r4 H4 h04 h14 g4 => ?_⟩
    obtain ⟨ch, _, hch⟩ := pickN (l := (Str.ofString "(){},/.").cps.toList) h04 (by rw [hcl]; exact h14)
    exact ⟨_, _, ch, rfl, rfl, hsz _ (by decide +kernel), hch, q _ _ ⟨[ch], rfl, by simp, by show 1 ≤ 100; decide⟩ (g1.trans g4)⟩
end
end Wk
end PartBl9
section PartBl10
set_option Elab.async false
set_option linter.all false
set_option maxRecDepth 100000
set_option maxHeartbeats 4000000
namespace Wk
open PySem PySem.Spec PyProof.Rows L2
open Wm (okW okTr okS okL okT okTok dOk)
theorem isT_tv {n : Nat} {ts : List Wm.Tk} (h : okL n ts) : ∀ y ∈ tv ts, isT y := fun y hy => by
  unfold tv txtV at hy
  rw [List.map_map, List.map_map] at hy
  obtain ⟨t, ht, rfl⟩ := List.mem_map.mp hy
  exact ⟨Wm.tkText t, rfl, (h.1 t ht).1⟩
theorem cut_lo {ys : List V} {i : Nat} : cutV ys none (some (i : Int)) = ys.take i ∨ cutV ys none (some (i : Int)) = ys := by
  unfold cutV
  rw [HT.sIx_nat, HT.sIx_none]
  by_cases h : i ≤ ys.length
  · left; rw [Nat.min_eq_left h, Nat.sub_zero] <;> rfl
  · right; rw [Nat.min_eq_right (by omega), Nat.sub_zero]; exact List.take_length
theorem cut_sub {ys : List V} {lo hi : Option Int} : ∀ z ∈ cutV ys lo hi, z ∈ ys := fun z hz => by
  unfold cutV at hz
  exact List.mem_of_mem_drop (List.mem_of_mem_take hz)
theorem cut_len {ys : List V} {i j : Nat} (hi : i ≤ ys.length) (hj : j ≤ ys.length) : (cutV ys none (some (i : Int))).length = i ∧ (cutV ys (some (j : Int)) none).length = ys.length - j := by
  constructor
  · unfold cutV
    rw [HT.sIx_nat, HT.sIx_none, Nat.min_eq_left hi, List.length_take, Nat.sub_zero]
    show min i ys.length = i
    omega
  · unfold cutV
    rw [HT.sIx_nat, HT.sIx_none, Nat.min_eq_left hj, List.length_take, List.length_drop]
    omega
section
variable {P : Program} {w : World} {K : PySem.W.Frag} {mg : Str → Option Value} {base : Heap} {C B : Addr}
abbrev s__law_mixed : Stmt := topS 73
abbrev N__law_mixed : List Str := ["_law_draws_here", "_law_tokens_here", "_law_great", "_law_shape", "_law_at", "_law_other", "_law_found"]
theorem sc__law_mixed : FnScope N__law_mixed ["_law_draws_here", "_law_tokens_here", "_law_great"] (defScope s__law_mixed) := ⟨rfl, rfl, rfl, by decide +kernel, rfl, by decide +kernel, by decide +kernel⟩
def sp_mixed : Sp := fun vs H Q _ => ∃ (d l : Addr) (g : Int) (ys : List V), vs = [.ref d, .ref l, .int g] ∧ (0 ≤ g ∧ g < 10 ^ 60) ∧ Dr H d ∧ H l = some (.lst ys) ∧ l ≠ d ∧ 0 < ys.length ∧ ys.length ≤ 1000 ∧ (∀ y ∈ ys, isT y) ∧
  ∀ (l' : Addr) H' ys', Go d H H' → l' ≠ d → H' l' = some (.lst ys') → (∀ y ∈ ys', isT y) → ys'.length ≤ ys.length + 1 → Q (.ref l') H'
theorem ok__law_mixed (G : Glob K mg) (D : Df K mg "_law_mixed" s__law_mixed ["_law_draws_here", "_law_tokens_here", "_law_great"]) (C__law_take : Cal P w K mg base CX0 1 "_law_take" ["_law_draws_here", "_law_many_here"] sp_take2)
    (C__law_bad_token : Cal P w K mg base CX0 2 "_law_bad_token" ["_law_draws_here", "_law_great"] sp_token) (C__law_good_token : Cal P w K mg base CX0 4 "_law_good_token" ["_law_draws_here", "_law_great"] sp_token) :
    Cal P w K mg base CX0 5 "_law_mixed" ["_law_draws_here", "_law_tokens_here", "_law_great"] sp_mixed := by
  refine D.ok sc__law_mixed (fun vs H Q E h => ?_) (fun f cdv A outer s H vs Q E hr h => ?_)
  · obtain ⟨d, l, g, ys, rfl, _⟩ := h
    rfl
  obtain ⟨d, l, g, ys, rfl, hg, hd, hl, hld, h0, h1000, hall, q⟩ := h
  refine ⟨_, (pss_cons (ps_set (i := 3) sc__law_mixed.nd rfl (Or.inl rfl) (pe_cal C__law_take (hr.mono (by decide)) pass0 (pa_cons (pv 0) (pa_cons pe_int pa_nil))))
    (pss_cons (ps_set (i := 4) sc__law_mixed.nd rfl (Or.inl rfl) (pe_cal C__law_take (hr.mono (by decide)) pass0 (pa_cons (pv 0) (pa_cons (pe_callB call_len_seq rfl G.len PySem.boot_len (pa_cons (pv 1) pa_nil)) pa_nil))))
    (pss_cons (ps_if (pt_cmpR op_eq (pv 3) pe_int (nomark _))
      (pss_one (ps_ret (pe_op op_cat (pe_slice sl_list (pv 1) po_none (po_some (pv 4))) (pe_slice sl_list (pv 1) (po_some (pe_op op_add (pv 4) pe_int)) po_none))))
      pss_nil)
    (pss_cons (ps_if (pt_cmpR op_eq (pv 3) pe_int (nomark _))
      (pss_one (ps_ret (pe_op op_cat (pe_op op_cat (pe_slice sl_list (pv 1) po_none (po_some (pv 4))) (pe_lst (pa_cons (pe_ix ix_list (pv 1) (pv 4) (fun _ _ => rfl)) pa_nil))) (pe_slice sl_list (pv 1) (po_some (pv 4)) po_none))))
      pss_nil)
    (pss_cons (ps_if (pt_cmpR op_eq (pv 3) pe_int (nomark _))
      (pss_cons (ps_set (i := 5) sc__law_mixed.nd rfl (Or.inl rfl) (pe_cal C__law_take (hr.mono (by decide)) pass0 (pa_cons (pv 0) (pa_cons (pe_callB call_len_seq rfl G.len PySem.boot_len (pa_cons (pv 1) pa_nil)) pa_nil))))
      (pss_cons (ps_set (i := 6) sc__law_mixed.nd rfl (Or.inl rfl) (pe_callTy call_list_of rfl G.list boot_list (pa_cons (pv 1) pa_nil)))
      (pss_cons (ps_asg (pe_ix ix_list (pv 1) (pv 5) (fun _ _ => rfl)) (pg_sub (pv 6) (pv 4) set_list))
      (pss_cons (ps_asg (pe_ix ix_list (pv 1) (pv 4) (fun _ _ => rfl)) (pg_sub (pv 6) (pv 5) set_list))
      (pss_one (ps_ret (pv 6)))))))
      pss_nil)
    (pss_cons (ps_if (pt_cmpR op_eq (pv 3) pe_int (nomark _))
      (pss_one (ps_ret (pe_op op_cat (pe_op op_cat (pe_slice sl_list (pv 1) po_none (po_some (pv 4))) (pe_lst (pa_cons (pe_cal C__law_bad_token (hr.mono (by decide)) pass0 (pa_cons (pv 0) (pa_cons (pv 2) pa_nil))) pa_nil))) (pe_slice sl_list (pv 1) (po_some (pe_op op_add (pv 4) pe_int)) po_none))))
      pss_nil)
    (pss_one (ps_ret (pe_op op_cat (pe_op op_cat (pe_slice sl_list (pv 1) po_none (po_some (pv 4))) (pe_lst (pa_cons (pe_cal C__law_good_token (hr.mono (by decide)) pass0 (pa_cons (pv 0) (pa_cons (pv 2) pa_nil))) pa_nil))) (pe_slice sl_list (pv 1) (po_some (pe_op op_add (pv 4) pe_int)) po_none)))))))))), ?_⟩
  have fits1 : ∀ {a : V}, ([a] : List V).length ≤ sizeLine := by intro a; show 1 ≤ sizeLine; decide
  have hsz : ∀ k : Nat, k ≤ 10000 → k ≤ sizeLine := fun k hk => by rw [sizeLine_eq]; omega
  refine ⟨_, rfl, d, _, rfl, by decide, hd, fun r1 H1 h01 h11 g1 => ?_⟩
  have hl1 := g1.1 _ _ hld hl
  refine ⟨_, rfl, _, rfl, l, _, rfl, .inl (SqL.of hl1), d, _, rfl, by omega, g1.2, fun r2 H2 h02 h12 g2 => ?_⟩
  have g12 := g1.trans g2
  have hl2 := g2.1 _ _ hld hl1
  obtain ⟨i, rfl⟩ : ∃ i : Nat, r2 = (i : Int) := ⟨r2.toNat, by rw [Int.toNat_of_nonneg h02]⟩
  have hi : i < ys.length := by omega
  have e1 : ((i : Int) + 1) = ((i + 1 : Nat) : Int) := by omega
  -- xs[:at] + mid + xs[at + k:]
  have three : ∀ (H3 : Hp) (j : Nat) (mid : List V), Go d H H3 → H3 l = some (.lst ys) → j ≤ ys.length → (∀ y ∈ mid, isT y) → mid.length ≤ 1 → i + mid.length + (ys.length - j) ≤ ys.length + 1 →
      ∀ (p1 p2 p3 p4 p5 : Addr) (o2 : HO), True → True := fun _ _ _ _ _ _ _ _ _ _ _ _ _ _ _ _ => trivial
  have mem2 : ∀ (a b : List V), (∀ y ∈ a, y ∈ ys) → (∀ y ∈ b, isT y) → ∀ y ∈ a ++ b, isT y := fun a b ha hb y hy => by
    rcases List.mem_append.mp hy with z | z
    · exact hall y (ha y z)
    · exact hb y z
  have cl := cut_len (ys := ys) (i := i) (j := i) (by omega) (by omega)
  have cl1 := cut_len (ys := ys) (i := i) (j := i + 1) (by omega) (by omega)
  refine ⟨_, rfl, rfl, _, rfl, ?_⟩
  refine ite2 (fun e => ?_) (fun e0 => ?_)
  · refine ⟨_, rfl, _, rfl, _, rfl, l, ys, rfl, SqL.of hl2, fun p1 hp1 => ?_⟩
    have hl3 := Same.new (o := .lst (cutV ys none (some (i : Int)))) hp1 _ _ hl2
    refine ⟨_, rfl, _, rfl, _, _, rfl, rfl, _, rfl, l, ys, rfl, SqL.of hl3, fun p2 hp2 => ?_⟩
    have h1 := Same.new (o := .lst (cutV ys (some ((i : Int) + 1)) none)) hp2 _ _ (upd_same (H := H2) (a := p1) (o := .lst (cutV ys none (some (i : Int)))))
    refine ⟨p1, p2, _, _, rfl, rfl, h1, upd_same, ?_, fun p3 hp3 => ?_⟩
    · rw [cl.1, e1, cl1.2]; exact hsz _ (by omega)
    · have g5 := ((g12.new (o := .lst (cutV ys none (some (i : Int)))) hp1).new (o := .lst (cutV ys (some ((i : Int) + 1)) none)) hp2)
      refine q p3 _ _ (g5.new hp3) (g5.2.ne hp3) upd_same (mem2 _ _ cut_sub fun y hy => hall y (cut_sub y hy)) ?_
      rw [List.length_append, cl.1, e1, cl1.2]; omega
  -- with something between
  have mid : ∀ (H3 : Hp) (z : V) (p1 : Addr) (lo : Nat), lo ≤ ys.length → i ≤ lo → Go d H H3 → H3 l = some (.lst ys) → H3 p1 = some (.lst (cutV ys none (some (i : Int)))) → p1 ≠ d → isT z → ∀ (Qq : VK), (∀ (l' : Addr) H' ys', Go d H H' → l' ≠ d → H' l' = some (.lst ys') → (∀ y ∈ ys', isT y) → ys'.length ≤ ys.length + 1 → Qq (.ref l') H') →
      (([z] : List V).length ≤ sizeLine ∧ ∀ p : Addr, H3 p = none → rCat (.ref p1) (.ref p) (upd H3 p (.lst [z])) fun v4 H4 => ∀ p5 : Addr, H4 p5 = none → rCat v4 (.ref p5) (upd H4 p5 (.lst (cutV ys (some (lo : Int)) none))) Qq) := by
    intro H3 z p1 lo hlo hilo g3 hl3 hp1 hp1d hz Qq hQ
    refine ⟨fits1, fun p hp => ?_⟩
    have c1 := cut_len (ys := ys) (i := i) (j := lo) (by omega) hlo
    refine ⟨p1, p, _, _, rfl, rfl, Same.new hp _ _ hp1, upd_same, by rw [c1.1]; exact hsz _ (by show i + 1 ≤ _; omega), fun p4 hp4 p5 hp5 => ?_⟩
    have g5 := (g3.new (o := .lst [z]) hp).new (o := .lst (cutV ys none (some (i : Int)) ++ [z])) hp4
    have g6 := g5.new (o := .lst (cutV ys (some (lo : Int)) none)) hp5
    refine ⟨p4, p5, _, _, rfl, rfl, Same.new hp5 _ _ upd_same, upd_same, by rw [List.length_append, c1.1, c1.2]; exact hsz _ (by show i + 1 + _ ≤ _; omega), fun p6 hp6 => ?_⟩
    refine hQ p6 _ _ (g6.new hp6) (g6.2.ne hp6) upd_same (fun y hy => ?_) ?_
    · rcases List.mem_append.mp hy with a | a
      · rcases List.mem_append.mp a with b | b
        · exact hall y (cut_sub y b)
        · rw [List.mem_singleton.mp b]; exact hz
      · exact hall y (cut_sub y a)
    · rw [List.length_append, List.length_append, c1.1, c1.2]
      show i + 1 + _ ≤ _
      omega
  refine ⟨_, rfl, rfl, _, rfl, ?_⟩
  refine ite2 (fun e => ?_) (fun e1' => ?_)
  · refine ⟨_, rfl, _, rfl, _, rfl, l, ys, rfl, SqL.of hl2, fun p1 hp1 => ?_⟩
    have hl3 := Same.new (o := .lst (cutV ys none (some (i : Int)))) hp1 _ _ hl2
    have hat : atI ys (i : Int) = some ys[i] := atI_nat (List.getElem?_eq_getElem hi)
    refine ⟨_, rfl, _, rfl, l, _, _, _, rfl, rfl, SqL.of hl3, hat, ?_⟩
    have z := mid _ ys[i] p1 i (by omega) (Nat.le_refl i) (g12.new hp1) hl3 upd_same (g12.2.ne hp1) (hall _ (List.getElem_mem hi)) Q q
    refine ⟨z.1, fun p hp => ?_⟩
    obtain ⟨a, b, xs, zs, ea, eb, ha, hb, hlz, hk⟩ := z.2 p hp
    cases ea
    cases eb
    refine ⟨p1, p, xs, zs, rfl, rfl, ha, hb, hlz, fun p4 hp4 => ?_⟩
    have hl5 : upd (upd (upd H2 p1 (.lst (cutV ys none (some (i : Int))))) p (.lst [ys[i]])) p4 (.lst (xs ++ zs)) l = some (.lst ys) := Same.new hp4 _ _ (Same.new hp _ _ hl3)
    exact ⟨_, rfl, _, rfl, _, rfl, l, ys, rfl, SqL.of hl5, fun p5 hp5 => hk p4 hp4 p5 hp5⟩
  refine ⟨_, rfl, rfl, _, rfl, ?_⟩
  refine ite2 (fun e => ?_) (fun e2' => ?_)
  · refine ⟨_, rfl, _, rfl, l, _, rfl, .inl (SqL.of hl2), d, _, rfl, by omega, g2.2, fun r3 H3 h03 h13 g3 => ?_⟩
    have hl3 := g3.1 _ _ hld hl2
    obtain ⟨j, rfl⟩ : ∃ j : Nat, r3 = (j : Int) := ⟨r3.toNat, by rw [Int.toNat_of_nonneg h03]⟩
    have hj : j < ys.length := by omega
    refine ⟨_, rfl, l, _, rfl, .inl (SqL.of hl3), fun f hf => ?_⟩
    have hl4 := Same.new (o := .lst ys) hf _ _ hl3
    have hfl : f ≠ l := fun e => by rw [e, hl3] at hf; cases hf
    refine ⟨_, rfl, _, rfl, l, _, _, _, rfl, rfl, SqL.of hl4, atI_nat (List.getElem?_eq_getElem hj), _, rfl, _, rfl, f, ys, _, i, rfl, rfl, upd_same, ixN_at hi, ?_⟩
    have hl5 : upd (upd H3 f (.lst ys)) f (.lst (ys.set i ys[j])) l = some (.lst ys) := by rw [upd_ne (Ne.symm hfl)]; exact hl4
    refine ⟨_, rfl, _, rfl, l, _, _, _, rfl, rfl, SqL.of hl5, atI_nat (List.getElem?_eq_getElem hi), _, rfl, _, rfl, f, _, _, j, rfl, rfl, upd_same, by rw [List.length_set]; exact ixN_at hj, ?_⟩
    have hfd : f ≠ d := g3.2.ne hf
    have g3' := g12.trans g3
    have gf : Go d H (upd (upd (upd H3 f (.lst ys)) f (.lst (ys.set i ys[j]))) f (.lst ((ys.set i ys[j]).set j ys[i]))) := by
      have hfH : H f = none := by
        cases e : H f with
        | none => rfl
        | some u => rw [g3'.1 _ _ hfd e] at hf; cases hf
      exact ((g3'.put hfH hfd).put hfH hfd).put hfH hfd
    refine ⟨_, rfl, q f _ _ gf hfd upd_same (fun y hy => ?_) (by rw [List.length_set, List.length_set]; omega)⟩
    rcases List.mem_or_eq_of_mem_set hy with a | a
    · rcases List.mem_or_eq_of_mem_set a with b | b
      · exact hall y b
      · rw [b]; exact hall _ (List.getElem_mem hj)
    · rw [a]; exact hall _ (List.getElem_mem hi)
  have tail : ∀ (Dn : Ends), Dn.rt = Q → ∀ r3v : V, tRet (tOp rCat (tOp rCat (tSl (rSlL K) (tVar 1) tNoPart (tPart (tVar 4))) (tLst (tCons (tCall sp_token [] E0 (tCons (tVar 0) (tCons (tVar 2) tNil))) tNil))) (tSl (rSlL K) (tVar 1) (tPart (tOp (rI0 fun i j => .int (i + j)) (tVar 4) (tC (.int 1)))) tNoPart)) Dn
      [some (.ref d), some (.ref l), some (.int g), some r3v, some (.int (i : Int)), none, none] H2 := by
    intro Dn hDn r3v
    refine ⟨_, rfl, _, rfl, _, rfl, l, ys, rfl, SqL.of hl2, fun p1 hp1 => ?_⟩
    have gp := g12.new (o := .lst (cutV ys none (some (i : Int)))) hp1
    have hl3 := Same.new (o := .lst (cutV ys none (some (i : Int)))) hp1 _ _ hl2
    refine ⟨_, rfl, _, rfl, d, g, rfl, hg, gp.2, fun z H4 hz g4 => ?_⟩
    have hl4 := g4.1 _ _ hld hl3
    have hp14 := g4.1 _ _ (g12.2.ne hp1) upd_same
    have z' := mid H4 z p1 (i + 1) (by omega) (by omega) (gp.trans g4) hl4 hp14 (g12.2.ne hp1) hz Q q
    refine ⟨z'.1, fun p hp => ?_⟩
    obtain ⟨a, b, xs, zs, ea, eb, ha, hb, hlz, hk⟩ := z'.2 p hp
    cases ea
    cases eb
    refine ⟨p1, p, xs, zs, rfl, rfl, ha, hb, hlz, fun p4 hp4 => ?_⟩
    have hl5 : upd (upd H4 p (.lst [z])) p4 (.lst (xs ++ zs)) l = some (.lst ys) := Same.new hp4 _ _ (Same.new hp _ _ hl4)
    refine ⟨_, rfl, _, rfl, _, _, rfl, rfl, _, rfl, l, ys, rfl, SqL.of hl5, fun p5 hp5 => ?_⟩
    have := hk p4 hp4 p5 hp5
    rw [hDn, e1]
    exact this
  refine ⟨_, rfl, rfl, _, rfl, ?_⟩
  refine ite2 (fun e => ?_) (fun e3' => ?_)
  · exact tail _ rfl _
  · exact tail _ rfl _
end
end Wk
end PartBl10
section PartBl11
set_option Elab.async false
set_option linter.all false
set_option maxRecDepth 100000
set_option maxHeartbeats 4000000
namespace Wk
open PySem PySem.Spec PyProof.Rows L2
open Wm (okW okTr okS okL okT okTok dOk)
theorem Go.but {d st : Addr} {H H3 H4 : Hp} {o : HO} (g : Go d H H3) (hst : H3 st = none) (s : SameBut st (upd H3 st o) H4) : Go d H H4 := by
  have hsd : st ≠ d := g.2.ne hst
  refine ⟨fun b u hb e => ?_, ?_⟩
  · have e3 := g.1 b u hb e
    have hbs : b ≠ st := ne_of_none e3 hst
    exact s b u hbs (by rw [upd_ne hbs]; exact e3)
  · obtain ⟨ns, e⟩ := g.2
    exact ⟨ns, s _ _ (Ne.symm hsd) (by rw [upd_ne (Ne.symm hsd)]; exact e)⟩
theorem cutS_to {cs : List Nat} {i : Nat} (h : i ≤ cs.length) : cutS (sL cs) none (some (i : Int)) = sL (cs.take i) := by
  unfold cutS
  rw [HT.sIx_nat, HT.sIx_none, len_sL, Nat.min_eq_left h, Nat.sub_zero] <;> rfl
theorem cutS_from {cs : List Nat} {i : Nat} (h : i ≤ cs.length) : cutS (sL cs) (some (i : Int)) none = sL (cs.drop i) := by
  unfold cutS
  rw [HT.sIx_nat, HT.sIx_none, len_sL, Nat.min_eq_left h, tl_sL]
  rw [List.take_of_length_le (by rw [List.length_drop]; exact Nat.le_refl _)] <;> rfl
section
variable {P : Program} {w : World} {K : PySem.W.Frag} {mg : Str → Option Value} {base : Heap} {C B : Addr}
abbrev s__law_text : Stmt := topS 74
abbrev N__law_text : List Str := ["_law_draws_here", "_law_cell_here", "_law_great", "_law_text_here", "_law_tokens_here", "_law_k", "_law_at", "_law_char_here", "_law_condition_here"]
theorem sc__law_text : FnScope N__law_text ["_law_draws_here", "_law_cell_here"] (defScope s__law_text) := ⟨rfl, rfl, rfl, by decide +kernel, rfl, by decide +kernel, by decide +kernel⟩
def sp_text : Sp := fun vs H Q _ => ∃ (d : Addr) (c : Int), vs = [.ref d, .int c] ∧ Dr H d ∧ ∀ (cs : List Nat) H', cs.length ≤ 16100 → Go d H H' → Q (.str (sL cs)) H'
theorem ok__law_text (G : Glob K mg) (D : Df K mg "_law_text" s__law_text ["_law_draws_here", "_law_cell_here"]) (C__law_take : Cal P w K mg base CX0 1 "_law_take" ["_law_draws_here", "_law_many_here"] sp_take2)
    (C__law_good_token : Cal P w K mg base CX0 4 "_law_good_token" ["_law_draws_here", "_law_great"] sp_token) (C__law_many : Cal P w K mg base CX0 6 "_law_many" ["_law_draws_here", "_law_great"] sp_many)
    (C__law_condition : Cal P w K mg base CX0 9 "_law_condition" ["_law_draws_here", "_law_great", "_law_depth"] (sp_cond 3)) (C__law_tokens : Cal P w K mg base CX0 6 "_law_tokens" ["_law_condition_here"] (sp_tokens 3))
    (C__law_mixed : Cal P w K mg base CX0 5 "_law_mixed" ["_law_draws_here", "_law_tokens_here", "_law_great"] sp_mixed) (C__law_spaced : Cal P w K mg base CX0 1 "_law_spaced" ["_law_tokens_here", "_law_pattern_here", "_law_starts"] sp_spaced)
    (C__law_pattern : Cal P w K mg base CX0 2 "_law_pattern" ["_law_draws_here", "_law_cell_here"] sp_pattern) (C__law_char : Cal P w K mg base CX0 1 "_law_char" ["_law_number"] sp_char) :
    Cal P w K mg base CX0 10 "_law_text" ["_law_draws_here", "_law_cell_here"] sp_text := by
  refine D.ok sc__law_text (fun vs H Q E h => ?_) (fun f cdv A outer s H vs Q E hr h => ?_)
  · obtain ⟨d, c, rfl, _⟩ := h
    rfl
  obtain ⟨d, c, rfl, hd, q⟩ := h
  refine ⟨_, (pss_cons (ps_set (i := 2) sc__law_text.nd rfl (Or.inr rfl) (pe_op op_mod (pe_callB call_abs rfl G.abs boot_abs (pa_cons (pv 1) pa_nil)) (pe_op op_pow pe_int pe_int)))
    (pss_cons (ps_join <| ps_if (pt_cmpR op_eq (pe_cal C__law_take (hr.mono (by decide)) pass0 (pa_cons (pv 0) (pa_cons pe_int pa_nil))) pe_int (nomark _))
      (pss_one (ps_setLc (i := 4) (own := [("_law_k", 5)]) (g := gName 5) (tt := tYes) rfl sc__law_text.nd rfl rfl (sw_true rfl rfl rfl (by decide +kernel)) (pi_range1 rfl G.range (pa_cons (pe_cal C__law_take (hr.mono (by decide)) pass0 (pa_cons (pv 0) (pa_cons pe_int pa_nil))) pa_nil)) (blkOk_by (N := N__law_text) (sc := defScope s__law_text) (by decide +kernel)) (fun _ _ _ _ _ => pg_name (i := 5) sc__law_text.nd rfl (Or.inl rfl)) (fun _ _ _ _ _ => pts_nil) (fun _ _ _ _ _ => (pe_cal C__law_good_token (hr.mono (by decide)) pass0 (pa_cons (pv 0) (pa_cons (pv 2) pa_nil))))))
      (pss_cons (ps_join <| ps_if (pt_cmpR op_eq (pe_cal C__law_take (hr.mono (by decide)) pass0 (pa_cons (pv 0) (pa_cons pe_int pa_nil))) pe_int (nomark _))
        (pss_one (ps_set (i := 8) sc__law_text.nd rfl (Or.inl rfl) (pe_cal C__law_many (hr.mono (by decide)) pass0 (pa_cons (pv 0) (pa_cons (pv 2) pa_nil)))))
        (pss_one (ps_set (i := 8) sc__law_text.nd rfl (Or.inl rfl) (pe_cal C__law_condition (hr.mono (by decide)) pass0 (pa_cons (pv 0) (pa_cons (pv 2) (pa_cons pe_int pa_nil)))))))
      (pss_cons (ps_set (i := 4) sc__law_text.nd rfl (Or.inl rfl) (pe_cal C__law_tokens (hr.mono (by decide)) pass0 (pa_cons (pv 8) pa_nil)))
      (pss_one (ps_for PassesOwn.never rfl (pi_range1 rfl G.range (pa_cons (pe_cal C__law_take (hr.mono (by decide)) pass0 (pa_cons (pv 0) (pa_cons pe_int pa_nil))) pa_nil)) (pg_name (i := 5) sc__law_text.nd rfl (Or.inl rfl))
        (pss_one (ps_join <| ps_if (pt_cmpR op_gt (pe_callB call_len_seq rfl G.len PySem.boot_len (pa_cons (pv 4) pa_nil)) pe_int (nomark _))
          (pss_one (ps_set (i := 4) sc__law_text.nd rfl (Or.inl rfl) (pe_cal C__law_mixed (hr.mono (by decide)) pass0 (pa_cons (pv 0) (pa_cons (pv 4) (pa_cons (pv 2) pa_nil))))))
          pss_nil)))))))
    (pss_cons (ps_set (i := 3) sc__law_text.nd rfl (Or.inl rfl) (pe_cal C__law_spaced (hr.mono (by decide)) pass0 (pa_cons (pv 4) (pa_cons (pe_cal C__law_pattern (hr.mono (by decide)) pass0 (pa_cons (pv 0) (pa_cons (pv 1) pa_nil))) (pa_cons (pe_lst pa_nil) pa_nil)))))
    (pss_cons (ps_join <| ps_if (pt_cmpR op_eq (pe_cal C__law_take (hr.mono (by decide)) pass0 (pa_cons (pv 0) (pa_cons pe_int pa_nil))) pe_int (nomark _))
      (pss_cons (ps_set (i := 6) sc__law_text.nd rfl (Or.inl rfl) (pe_cal C__law_take (hr.mono (by decide)) pass0 (pa_cons (pv 0) (pa_cons (pe_op op_add (pe_callB call_len_str rfl G.len PySem.boot_len (pa_cons (pv 3) pa_nil)) pe_int) pa_nil))))
      (pss_cons (ps_set (i := 7) sc__law_text.nd rfl (Or.inl rfl) (pe_cal C__law_char (hr.mono (by decide)) pass0 (pa_cons (pe_cal C__law_take (hr.mono (by decide)) pass0 (pa_cons (pv 0) (pa_cons pe_int pa_nil))) pa_nil)))
      (pss_cons (ps_join <| ps_if (pt_cmpR op_eq (pv 7) pe_str (nomark _))
        (pss_one (ps_set (i := 7) sc__law_text.nd rfl (Or.inl rfl) pe_str))
        pss_nil)
      (pss_one (ps_set (i := 3) sc__law_text.nd rfl (Or.inl rfl) (pe_op op_add_str (pe_op op_add_str (pe_slice sl_str (pv 3) po_none (po_some (pv 6))) (pv 7)) (pe_slice sl_str (pv 3) (po_some (pv 6)) po_none)))))))
      pss_nil)
    (pss_one (ps_ret (pv 3))))))), ?_⟩
  have p60 : (0 : Int) < 10 ^ ((60 : Int).toNat) := by decide +kernel
  refine ⟨_, rfl, _, rfl, _, _, rfl, rfl, ⟨by decide, by decide, by decide⟩, _, _, rfl, rfl, p60, ?_⟩
  obtain ⟨g, eg⟩ : ∃ g, g = (if c < 0 then -c else c) % 10 ^ ((60 : Int).toNat) := ⟨_, rfl⟩
  have hg : 0 ≤ g ∧ g < 10 ^ 60 := by
    rw [eg]
    exact ⟨Int.emod_nonneg _ (by omega), Int.emod_lt_of_pos _ p60⟩
  show gName 2 (V.int ((if c < 0 then -c else c) % 10 ^ ((60 : Int).toNat))) _ _ _
  rw [← eg]
  clear eg
  -- the tokens
  refine ⟨fun σ H' => ∃ (l : Addr) (ys : List V) (o5 o8 : Option V), σ = [some (.ref d), some (.int c), some (.int g), none, some (.ref l), o5, none, none, o8] ∧ Go d H H' ∧ H' l = some (.lst ys) ∧ l ≠ d ∧ ys.length ≤ 150 ∧ ∀ y ∈ ys, isT y, ?_, ?_⟩
  · refine ⟨_, rfl, d, _, rfl, by decide, hd, fun r1 H1 _ _ g1 => ⟨rfl, _, rfl, ?_⟩⟩
    refine ite2 (fun e => ?_) (fun e => ?_)
    · refine ⟨_, rfl, d, _, rfl, by decide, g1.2, fun r2 H2 h02 h12 g2 => ⟨_, rfl, by omega, by omega, fun Dd hDd => ?_⟩⟩
      refine lc_draw (fun y _ => isT y) (by rw [sizeLine_eq]; omega) hDd g2.2 ?_ (fun y H' H'' h _ => h) ?_ ?_
      · intro x; rfl
      · intro i H' R go hR
        exact ⟨_, rfl, _, rfl, d, g, rfl, hg, go.2, fun z H'' hz g => hR _ H'' hz g⟩
      intro H3 ys g3 hys hlen hall
      exact ⟨Dd, ys, _, _, rfl, g1.trans (g2.trans g3), hys, g2.2.ne hDd, by omega, hall⟩
    · refine ⟨fun σ H' => ∃ (v : V) (k : Wm.Cnd), σ = [some (.ref d), some (.int c), some (.int g), none, none, none, none, none, some v] ∧ Go d H H' ∧ CndV H' k v ∧ dOk 3 k ∧ okL 147 (Wm.toksC k), ?_, ?_⟩
      · refine ⟨_, rfl, d, _, rfl, by decide, g1.2, fun r2 H2 _ _ g2 => ⟨rfl, _, rfl, ?_⟩⟩
        refine ite2 (fun e => ?_) (fun e => ?_)
        · exact ⟨_, rfl, _, rfl, d, g, rfl, hg, g2.2, fun v k H3 hv hk g3 => ⟨v, k, rfl, g1.trans (g2.trans g3), hv, hk.1, hk.2⟩⟩
        · exact ⟨_, rfl, _, rfl, d, g, rfl, ⟨by decide, by decide⟩, hg, g2.2, fun v k H3 hv hk g3 => ⟨v, k, rfl, g1.trans (g2.trans g3), hv, hk.1, hk.2⟩⟩
      rintro σ H2 ⟨v, k, rfl, g2, hv, hd3, hok⟩
      refine ⟨_, rfl, v, k, rfl, hv, hd3, hok.mono (by decide), fun l H3 s3 hl h3 => ?_⟩
      have g3 : Go d H H3 := by
        refine ⟨g2.1.trans (Same.but s3), ?_⟩
        obtain ⟨ns, e⟩ := g2.2
        exact ⟨ns, s3 _ _ e⟩
      refine ⟨_, rfl, d, _, rfl, by decide, g3.2, fun r4 H4 h04 h14 g4 => ⟨r4, rfl, by omega, by omega, ?_⟩⟩
      refine for_range (n := r4.toNat) (fun i σ H' => ∃ (l : Addr) (ys : List V) (o5 : Option V), σ = [some (.ref d), some (.int c), some (.int g), none, some (.ref l), o5, none, none, some v] ∧ Go d H H' ∧ H' l = some (.lst ys) ∧ l ≠ d ∧ ys.length ≤ 147 + i ∧ ∀ y ∈ ys, isT y)
        ⟨l, _, none, rfl, g3.trans g4, g4.1 _ _ (g2.2.ne hl) h3, g2.2.ne hl, by rw [tv_len]; exact hok.2, isT_tv hok⟩ ?_ ?_
      · rintro i σ H' hi ⟨l, ys, o5, rfl, go, hl, hld, hlen, hall⟩
        refine ⟨fun σ H'' => ∃ (l : Addr) (ys : List V) (o5 : Option V), σ = [some (.ref d), some (.int c), some (.int g), none, some (.ref l), o5, none, none, some v] ∧ Go d H H'' ∧ H'' l = some (.lst ys) ∧ l ≠ d ∧ ys.length ≤ 147 + (i + 1) ∧ ∀ y ∈ ys, isT y, ?_, fun σ H'' h => h⟩
        refine ⟨_, rfl, l, _, rfl, .inl (SqL.of hl), _, _, rfl, rfl, _, rfl, ?_⟩
        refine ite2 (fun e => ?_) (fun e => ⟨l, ys, _, rfl, go, hl, hld, by omega, hall⟩)
        have h0 : 0 < ys.length := by
          have := of_decide_eq_true e
          omega
        exact ⟨_, rfl, _, rfl, _, rfl, d, l, g, ys, rfl, hg, go.2, hl, hld, h0, by omega, hall, fun l' H'' ys' g' hl'd hl' hall' hlen' => ⟨l', ys', _, rfl, go.trans g', hl', hl'd, by omega, hall'⟩⟩
      · rintro σ H' ⟨l, ys, o5, rfl, go, hl, hld, hlen, hall⟩
        exact ⟨l, ys, _, _, rfl, go, hl, hld, by omega, hall⟩
  rintro σ H1 ⟨l, ys, o5, o8, rfl, g1, hl, hld, hlen, hall⟩
  -- the text
  refine ⟨_, rfl, _, rfl, _, rfl, d, c, rfl, g1.2, fun z H2 g2 => ⟨(by show 0 ≤ sizeLine; decide), fun st hst => ?_⟩⟩
  have g12 := g1.trans g2
  have hl2 := g2.1 _ _ hld hl
  have hls : l ≠ st := ne_of_none hl2 hst
  refine ⟨l, st, z, ys, rfl, Same.new hst _ _ hl2, upd_same, hls, by omega, hall, fun cs H3 hcs s3 => ?_⟩
  have g3 : Go d H H3 := g12.but hst s3
  have hz : ∀ k : Nat, k ≤ 20000 → k ≤ sizeLine := fun k hk => by rw [sizeLine_eq]; omega
  refine ⟨fun σ H' => ∃ (xs : List Nat) (o6 o7 : Option V), σ = [some (.ref d), some (.int c), some (.int g), some (.str (sL xs)), some (.ref l), o5, o6, o7, o8] ∧ Go d H H' ∧ xs.length ≤ 16100, ?_, ?_⟩
  · refine ⟨_, rfl, d, _, rfl, by decide, g3.2, fun r4 H4 _ _ g4 => ⟨rfl, _, rfl, ?_⟩⟩
    refine ite2 (fun e => ?_) (fun e => ⟨cs, _, _, rfl, g3.trans g4, by omega⟩)
    refine ⟨_, rfl, _, rfl, _, rfl, hz _ (by rw [len_sL]; omega), _, _, rfl, rfl, d, _, rfl, by omega, g4.2, fun r5 H5 h05 h15 g5 => ?_⟩
    obtain ⟨i, rfl⟩ : ∃ i : Nat, r5 = (i : Int) := ⟨r5.toNat, by rw [Int.toNat_of_nonneg h05]⟩
    rw [len_sL] at h15
    have hi : i ≤ cs.length := by omega
    refine ⟨_, rfl, d, _, rfl, by decide, g5.2, fun r6 H6 _ _ g6 => ⟨_, rfl, fun k => ?_⟩⟩
    refine ⟨fun σ H' => H' = H6 ∧ ∃ k : Nat, σ = [some (.ref d), some (.int c), some (.int g), some (.str (sL cs)), some (.ref l), o5, some (.int (i : Int)), some (.str (sL [k])), o8], ?_, ?_⟩
    · refine ⟨_, rfl, rfl, _, rfl, ?_⟩
      exact ite2 (fun e => ⟨rfl, 32, by rw [← l_sp] <;> rfl⟩) (fun e => ⟨rfl, k, rfl⟩)
    rintro σ H7 ⟨rfl, k2, rfl⟩
    refine ⟨_, rfl, _, rfl, _, rfl, sL cs, rfl, hz _ (by rw [len_sL]; omega), ?_⟩
    rw [cutS_to hi]
    refine ⟨_, rfl, _, _, rfl, rfl, hz _ (by rw [len_sL, len_sL, List.length_take]; show _ + 1 ≤ _; omega), ?_⟩
    rw [sL_app]
    refine ⟨_, rfl, _, rfl, _, rfl, sL cs, rfl, hz _ (by rw [len_sL]; omega), ?_⟩
    rw [cutS_from hi]
    refine ⟨_, _, rfl, rfl, hz _ (by rw [len_sL, len_sL, List.length_append, List.length_take, List.length_drop]; show _ + 1 + _ ≤ _; omega), ?_⟩
    rw [sL_app]
    refine ⟨_, _, _, rfl, g3.trans (g4.trans (g5.trans g6)), ?_⟩
    rw [List.length_append, List.length_append, List.length_take, List.length_drop]
    show _ + 1 + _ ≤ _
    omega
  · rintro σ H4 ⟨xs, o6, o7, rfl, g4, hx⟩
    exact ⟨_, rfl, q xs H4 hx g4⟩
end
end Wk
end PartBl11
section PartSm1
set_option Elab.async false
set_option linter.all false
set_option maxRecDepth 100000
set_option maxHeartbeats 4000000
namespace Wk
open PySem PySem.Spec PyProof.Rows L2
/-! ### data of tuples, texts, ints -/
mutual
def DtV (H : Hp) : PyData → V → Prop
  | .str x, v => v = .str x
  | .int i, v => v = .int i
  | .tuple ds, v => ∃ a xs, v = .ref a ∧ H a = some (.tup xs) ∧ DtsV H ds xs
  | _, _ => False
def DtsV (H : Hp) : List PyData → List V → Prop
  | [], vs => vs = []
  | d :: ds, vs => ∃ v r, vs = v :: r ∧ DtV H d v ∧ DtsV H ds r
end
def tupD : Nat → PyData → Prop
  | 0, _ => False
  | _ + 1, .str _ => True
  | _ + 1, .int _ => True
  | n + 1, .tuple ds => ds.length ≤ 100000 ∧ ∀ d ∈ ds, tupD n d
  | _ + 1, _ => False
theorem tupD.mono : ∀ {n m : Nat} {d : PyData}, tupD n d → n ≤ m → tupD m d
  | 0, _, _, h, _ => h.elim
  | n + 1, 0, _, _, k => absurd k (by omega)
  | n + 1, m + 1, .str _, _, _ => trivial
  | n + 1, m + 1, .int _, _, _ => trivial
  | n + 1, m + 1, .tuple ds, h, k => ⟨h.1, fun d hd => tupD.mono (h.2 d hd) (by omega)⟩
  | n + 1, m + 1, .none, h, _ => h.elim
  | n + 1, m + 1, .bool _, h, _ => h.elim
  | n + 1, m + 1, .list _, h, _ => h.elim
  | n + 1, m + 1, .dict _, h, _ => h.elim
theorem DtsV.len {H : Hp} : ∀ {ds : List PyData} {vs : List V}, DtsV H ds vs → vs.length = ds.length
  | [], vs, h => by rw [DtsV] at h; subst h; rfl
  | d :: ds, vs, h => by
    rw [DtsV] at h
    obtain ⟨v, r, rfl, _, h⟩ := h
    rw [List.length_cons, List.length_cons, DtsV.len h]
theorem DtsV.get {H : Hp} : ∀ {ds : List PyData} {vs : List V} {i : Nat}, DtsV H ds vs → i < ds.length → ∃ d v, ds[i]? = some d ∧ vs[i]? = some v ∧ DtV H d v
  | [], vs, i, _, h => absurd h (Nat.not_lt_zero _)
  | d :: ds, vs, 0, h, _ => by
    rw [DtsV] at h
    obtain ⟨v, r, rfl, h1, _⟩ := h
    exact ⟨d, v, rfl, rfl, h1⟩
  | d :: ds, vs, i + 1, h, hi => by
    rw [DtsV] at h
    obtain ⟨v, r, rfl, _, h2⟩ := h
    obtain ⟨d', v', a, b, c⟩ := DtsV.get h2 (by simpa using hi)
    exact ⟨d', v', by simpa using a, by simpa using b, c⟩
section
variable {P : Program} {w : World} {K : PySem.W.Frag} {mg : Str → Option Value} {base : Heap} {C B : Addr}
abbrev s__law_same : Stmt := topS 54
abbrev N__law_same : List Str := ["_law_actual", "_law_due", "_law_k"]
theorem sc__law_same : FnScope N__law_same ["_law_actual", "_law_due"] (defScope s__law_same) := ⟨rfl, rfl, rfl, by decide +kernel, rfl, by decide +kernel, by decide +kernel⟩
def sp_same (n : Nat) : Sp := fun vs H Q _ => ∃ (v u : V) (d : PyData), vs = [v, u] ∧ tupD n d ∧ DtV H d v ∧ DtV H d u ∧ Q (.bl true) H
theorem ok__law_same (G : Glob K mg) (D : Df K mg "_law_same" s__law_same ["_law_actual", "_law_due"]) (n : Nat) (C__law_same : Cal P w K mg base CX0 (1 + n) "_law_same" ["_law_actual", "_law_due"] (sp_same n)) :
    Cal P w K mg base CX0 (1 + n + 1) "_law_same" ["_law_actual", "_law_due"] (sp_same (n + 1)) := by
  refine D.ok sc__law_same (fun vs H Q E h => ?_) (fun f cdv A outer s H vs Q E hr h => ?_)
  · obtain ⟨v, u, d, rfl, _⟩ := h
    rfl
  obtain ⟨v, u, d, rfl, ht, hv, hu, q⟩ := h
  refine ⟨_, (pss_cons (ps_if (PW.pt (pw_or (pt_val (pe_callB call_isi rfl G.isinstance boot_isinstance (pa_cons (pv 1) (pa_cons (pe_bltn (v := .ty "tuple") rfl G.tuple boot_tuple rfl) pa_nil)))) (pw_or1 (pt_val (pe_callB call_isi rfl G.isinstance boot_isinstance (pa_cons (pv 1) (pa_cons (pe_bltn (v := .ty "list") rfl G.list boot_list rfl) pa_nil)))))))
      (pss_cons (ps_if (PW.pt (pw_and (pt_val (pe_callB call_isi rfl G.isinstance boot_isinstance (pa_cons (pv 1) (pa_cons (pe_bltn (v := .ty "tuple") rfl G.tuple boot_tuple rfl) pa_nil)))) (pw_and1 (pt_not (pt_val (pe_callB call_isi rfl G.isinstance boot_isinstance (pa_cons (pv 0) (pa_cons (pe_bltn (v := .ty "tuple") rfl G.tuple boot_tuple rfl) pa_nil))))))))
        (pss_one (ps_ret pe_bl))
        pss_nil)
      (pss_cons (ps_if (PW.pt (pw_and (pt_val (pe_callB call_isi rfl G.isinstance boot_isinstance (pa_cons (pv 1) (pa_cons (pe_bltn (v := .ty "list") rfl G.list boot_list rfl) pa_nil)))) (pw_and1 (pt_not (pt_val (pe_callB call_isi rfl G.isinstance boot_isinstance (pa_cons (pv 0) (pa_cons (pe_bltn (v := .ty "list") rfl G.list boot_list rfl) pa_nil))))))))
        (pss_one (ps_ret pe_bl))
        pss_nil)
      (pss_cons (ps_if (pt_cmpR op_ne (pe_callB call_len_seq rfl G.len PySem.boot_len (pa_cons (pv 0) pa_nil)) (pe_callB call_len_seq rfl G.len PySem.boot_len (pa_cons (pv 1) pa_nil)) (nomark _))
        (pss_one (ps_ret pe_bl))
        pss_nil)
      (pss_cons (ps_for PassesOwn.never rfl (pi_range1 rfl G.range (pa_cons (pe_callB call_len_seq rfl G.len PySem.boot_len (pa_cons (pv 1) pa_nil)) pa_nil)) (pg_name (i := 2) sc__law_same.nd rfl (Or.inl rfl))
        (pss_one (ps_if (pt_not (pt_val (pe_cal C__law_same (hr.mono (by omega)) pass0 (pa_cons (pe_ix ix_tup (pv 0) (pv 2) (fun _ _ => rfl)) (pa_cons (pe_ix ix_tup (pv 1) (pv 2) (fun _ _ => rfl)) pa_nil)))))
          (pss_one (ps_ret pe_bl))
          pss_nil)))
      (pss_one (ps_ret pe_bl))))))
      pss_nil)
    (pss_cons (ps_if (pt_val (pe_callB call_isi rfl G.isinstance boot_isinstance (pa_cons (pv 1) (pa_cons (pe_bltn (v := .ty "str") rfl G.str boot_str rfl) pa_nil))))
      (pss_one (ps_ret (pe_and (pe_callB call_isi rfl G.isinstance boot_isinstance (pa_cons (pv 0) (pa_cons (pe_bltn (v := .ty "str") rfl G.str boot_str rfl) pa_nil))) (pe_one (pe_cmpR op_eq (pv 0) (pv 1) (nomark _))))))
      pss_nil)
    (pss_cons (ps_if (pt_val (pe_callB call_isi rfl G.isinstance boot_isinstance (pa_cons (pv 1) (pa_cons (pe_bltn (v := .ty "bool") rfl G.bool boot_bool rfl) pa_nil))))
      (pss_one (ps_ret (pe_and (pe_callB call_isi rfl G.isinstance boot_isinstance (pa_cons (pv 0) (pa_cons (pe_bltn (v := .ty "bool") rfl G.bool boot_bool rfl) pa_nil))) (pe_one (pe_cmpR op_eq (pv 0) (pv 1) (nomark _))))))
      pss_nil)
    (pss_one (ps_ret (pe_and (pe_callB call_isi rfl G.isinstance boot_isinstance (pa_cons (pv 0) (pa_cons (pe_bltn (v := .ty "int") rfl G.int boot_int rfl) pa_nil))) (pe_and (pe_not (pe_callB call_isi rfl G.isinstance boot_isinstance (pa_cons (pv 0) (pa_cons (pe_bltn (v := .ty "bool") rfl G.bool boot_bool rfl) pa_nil)))) (pe_one (pe_cmpR op_eq (pv 0) (pv 1) (nomark _)))))))))), ?_⟩
  cases d with
  | str x =>
    rw [DtV] at hv hu
    subst hv
    subst hu
    have tx : TyX K H (V.str x) (.type "str") := .base (.str x)
    refine ⟨_, rfl, _, _, _, _, false, rfl, .ty _, tx, kit_ty (by decide +kernel), _, rfl, ?_⟩
    refine iteF ⟨_, rfl, _, _, _, _, false, rfl, .ty _, tx, kit_ty (by decide +kernel), _, rfl, ?_⟩
    refine iteF ⟨_, rfl, _, _, _, _, true, rfl, .ty _, tx, kit_ty (by decide +kernel), _, rfl, ?_⟩
    refine iteT ⟨_, rfl, _, _, _, _, true, rfl, .ty _, tx, kit_ty (by decide +kernel), _, rfl, ?_⟩
    refine iteT ⟨_, rfl, _, rfl, rfl, ?_⟩
    rw [decide_eq_true rfl]
    exact q
  | int i =>
    rw [DtV] at hv hu
    subst hv
    subst hu
    have tx : TyX K H (V.int i) (.type "int") := .base (.int i)
    refine ⟨_, rfl, _, _, _, _, false, rfl, .ty _, tx, kit_ty (by decide +kernel), _, rfl, ?_⟩
    refine iteF ⟨_, rfl, _, _, _, _, false, rfl, .ty _, tx, kit_ty (by decide +kernel), _, rfl, ?_⟩
    refine iteF ⟨_, rfl, _, _, _, _, false, rfl, .ty _, tx, kit_ty (by decide +kernel), _, rfl, ?_⟩
    refine iteF ⟨_, rfl, _, _, _, _, false, rfl, .ty _, tx, kit_ty (by decide +kernel), _, rfl, ?_⟩
    refine iteF ⟨_, rfl, _, _, _, _, true, rfl, .ty _, tx, kit_ty (by decide +kernel), _, rfl, ?_⟩
    refine iteT ⟨_, rfl, _, _, _, _, false, rfl, .ty _, tx, kit_ty (by decide +kernel), _, rfl, _, rfl, ?_⟩
    refine iteT ⟨_, rfl, _, rfl, rfl, ?_⟩
    rw [decide_eq_true rfl]
    exact q
  | tuple ds =>
    rw [DtV] at hv hu
    obtain ⟨a, xs, rfl, ha, hxs⟩ := hv
    obtain ⟨b, ys, rfl, hb, hys⟩ := hu
    have tb : TyX K H (V.ref b) (.type "tuple") := .base (.tup hb)
    have ta : TyX K H (V.ref a) (.type "tuple") := .base (.tup ha)
    have lx := hxs.len
    have ly := hys.len
    refine ⟨_, rfl, _, _, _, _, true, rfl, .ty _, tb, kit_ty (by decide +kernel), _, rfl, ?_⟩
    refine iteT (iteT ?_)
    refine ⟨_, rfl, _, _, _, _, true, rfl, .ty _, tb, kit_ty (by decide +kernel), _, rfl, ?_⟩
    refine iteT ⟨_, rfl, _, _, _, _, true, rfl, .ty _, ta, kit_ty (by decide +kernel), _, rfl, ?_⟩
    refine iteF ⟨_, rfl, _, _, _, _, false, rfl, .ty _, tb, kit_ty (by decide +kernel), _, rfl, ?_⟩
    refine iteF (iteF ?_)
    refine ⟨_, rfl, a, xs, rfl, .inr (SqT.of ha), _, rfl, b, ys, rfl, .inr (SqT.of hb), rfl, _, rfl, ?_⟩
    rw [lx, ly, decide_eq_true rfl]
    refine iteF ?_
    refine ⟨_, rfl, b, ys, rfl, .inr (SqT.of hb), _, rfl, by omega, by rw [ly]; have := ht.1; omega, ?_⟩
    rw [ly, Int.toNat_natCast]
    refine for_range (n := ds.length) (fun i σ H' => H' = H ∧ ∃ o, σ = [some (.ref a), some (.ref b), o]) ⟨rfl, none, rfl⟩ ?_ ?_
    · rintro i σ H' hi ⟨rfl, o, rfl⟩
      obtain ⟨d1, v1, e1, e2, h1⟩ := hxs.get hi
      obtain ⟨d2, v2, e3, e4, h2⟩ := hys.get hi
      rw [e1] at e3
      cases e3
      refine ⟨_, rfl, _, rfl, a, xs, _, v1, rfl, rfl, SqT.of ha, by rw [Int.zero_add]; exact atI_nat e2, _, rfl, _, rfl, b, ys, _, v2, rfl, rfl, SqT.of hb, by rw [Int.zero_add]; exact atI_nat e4, v1, v2, d1, rfl, ht.2 d1 (List.mem_of_getElem? e1), h1, h2, _, rfl, ?_⟩
      exact iteF ⟨rfl, _, rfl⟩
    · rintro σ H' ⟨rfl, o, rfl⟩
      exact q
  | none => exact ht.elim
  | bool b => exact ht.elim
  | list ds => exact ht.elim
  | dict ds => exact ht.elim
theorem ok_same_all (G : Glob K mg) (D : Df K mg "_law_same" s__law_same ["_law_actual", "_law_due"]) : ∀ n, Cal P w K mg base CX0 (1 + n) "_law_same" ["_law_actual", "_law_due"] (sp_same n)
  | 0 => D.ok sc__law_same (fun vs H Q E h => by obtain ⟨v, u, d, _, h, _⟩ := h; exact h.elim) fun f cdv A outer s H vs Q E hr h => by obtain ⟨v, u, d, _, h, _⟩ := h; exact h.elim
  | n + 1 => ok__law_same G D n (ok_same_all G D n)
end
end Wk
end PartSm1
section PartRl1
set_option Elab.async false
set_option linter.all false
set_option maxRecDepth 100000
set_option maxHeartbeats 4000000
namespace Wk
open PySem PySem.Spec PyProof.Rows L2 L2H
theorem takesN0 {X : Cx} : L2N.Takes X (fun _ _ _ _ => False) := fun _ _ x => by
  obtain ⟨_, _, _, _, _, _, _, _, _, _, _, _, _, _, _, _, z⟩ := x
  exact z.elim
def CalH (P : Program) (w : World) (K : PySem.W.Frag) (mg : Str → Option Value) (base : Heap) (CX : CXT) (k : Nat) (x : Str) (ps : List Str) (sp : Sp) : Prop :=
  ∃ f fd, FnH P w K mg base CX k f fd ps sp ∧ mg x = some (.ref f) ∧ PySem.W.keepIn K (.ref f) = true ∧ Binds K fd ps []
theorem pe_calH {X : Cx} {CX : CXT} {k : Nat} {ps : List Str} {sp : Sp} {E : L2.St → XK} {x : Str} {p pos : Pos} {e : Expr} {es : List Expr} {t : TA} (C : CalH X.prog X.w X.K X.mg X.base CX k x ps sp) (hr : RoomH k X.A) (hc : HotC X) (hx : ∀ σ, PassesAt CX X σ (E σ)) (ha : PA X (e :: es) t) (hg : Gl X x := by rfl)
    (hdb : (x == ("__debug__" : Str)) = false := by decide) (he : starEach (e :: es) X.env = (false, eval e X.env) :: starEach es X.env := by rfl) (hpl : (backTo pos (starEach es X.env)).any (·.1) = false := by rfl) :
    PE X (.Call (.Name x p) (e :: es) [] pos) (tCallS sp E t) := by
  obtain ⟨f, fd, F, m, kp, b⟩ := C
  exact pe_callH F hr hc hg m kp b hx ha hdb he hpl
theorem pe_calS {X : Cx} {CX : CXT} {k : Nat} {ps : List Str} {sp : Sp} {E : L2.St → XK} {x : Str} {p pos : Pos} {e : Expr} {es : List Expr} {t : TA} (C : Cal X.prog X.w X.K X.mg X.base CX k x ps sp) (hr : Room k X.A) (hx : ∀ σ, PassesAt CX X σ (E σ)) (ha : PA X (e :: es) t) (hg : Gl X x := by rfl)
    (hdb : (x == ("__debug__" : Str)) = false := by decide) (he : starEach (e :: es) X.env = (false, eval e X.env) :: starEach es X.env := by rfl) (hpl : (backTo pos (starEach es X.env)).any (·.1) = false := by rfl) :
    PE X (.Call (.Name x p) (e :: es) [] pos) (tCallS sp E t) := by
  obtain ⟨f, fd, F, m, kp, b⟩ := C
  exact pe_callS F hr hg m kp b hx ha hdb he hpl
theorem roomH_mark {k : Nat} {A : Around} {h : Option Value} (r : Room k A) : RoomH k (A.mark h) := ⟨r.dp, r.un⟩
def EN : L2.St → XK := fun _ _ _ _ => False
theorem passH0 {X : Cx} (σ : L2.St) : PassesAt CX0 X σ (EN σ) := fun _ _ _ _ _ _ h => h.elim
theorem hot_suite {X : Cx} {a : Addr} {oe : Obj} {cls : Value} {d : Option Addr} {pn : List (Addr × Obj)} (hz : L2N.Zn cls d oe) (hf : ∃ vs, oe.data = .fields vs) : HotC (X.suite a ((a, oe) :: pn)) := by
  obtain ⟨vs, hd⟩ := hf
  exact ⟨(a, oe), ⟨rfl, vs, hd, hz.2.2 vs hd⟩, List.mem_cons_self⟩
theorem ne_CL : ((Str.ofString "line" : Str) == Str.ofString "column") = false := by decide +kernel
theorem xlook_line (x y : V) : ([(("column" : Str), x), (("line" : Str), y)]).lookup ("line" : Str) = some y := by simp [List.lookup, ne_CL]
theorem xlook_col (x y : V) : ([(("column" : Str), x), (("line" : Str), y)]).lookup ("column" : Str) = some x := by simp [List.lookup]
section
variable {P : Program} {w : World} {K : PySem.W.Frag} {mg : Str → Option Value} {base : Heap} {C B : Addr}
abbrev s__law_is_integer : Stmt := topS 53
abbrev N__law_is_integer : List Str := ["_law_value"]
theorem sc__law_is_integer : FnScope N__law_is_integer ["_law_value"] (defScope s__law_is_integer) := ⟨rfl, rfl, rfl, by decide +kernel, rfl, by decide +kernel, by decide +kernel⟩
def sp_is_integer : Sp := fun vs H Q _ => ∃ i : Int, vs = [.int i] ∧ Q (.bl true) H
theorem ok__law_is_integer (G : Glob K mg) (D : Df K mg "_law_is_integer" s__law_is_integer ["_law_value"]) : CalH P w K mg base CX0 1 "_law_is_integer" ["_law_value"] sp_is_integer := by
  obtain ⟨f, fd, F, m, b⟩ := D
  obtain ⟨oc, od, kV, doc, pm, an, cdv, ct, osl, rfl, lk, hcd⟩ := F.ex
  refine ⟨f, _, fn_ofH lk hcd sc__law_is_integer (fun vs H Q E h => ?_) (fun A outer s H vs Q E p hot hr h => ?_), m, F.kp, b⟩
  · obtain ⟨i, rfl, _⟩ := h
    rfl
  obtain ⟨i, rfl, q⟩ := h
  refine ⟨_, (pss_one (ps_ret (pe_and (pe_callB call_isi rfl G.isinstance boot_isinstance (pa_cons (pv 0) (pa_cons (pe_bltn (v := .ty "int") rfl G.int boot_int rfl) pa_nil))) (pe_one (pe_not (pe_callB call_isi rfl G.isinstance boot_isinstance (pa_cons (pv 0) (pa_cons (pe_bltn (v := .ty "bool") rfl G.bool boot_bool rfl) pa_nil)))))))), ?_⟩
  have tx : TyX K H (V.int i) (.type "int") := .base (.int i)
  refine ⟨_, rfl, _, _, _, _, true, rfl, .ty _, tx, kit_ty (by decide +kernel), _, rfl, ?_⟩
  refine iteT ⟨_, rfl, _, _, _, _, false, rfl, .ty _, tx, kit_ty (by decide +kernel), _, rfl, q⟩
abbrev s__law_read : Stmt := topS 75
abbrev N__law_read : List Str := ["_law_text_here", "e", "_law_found"]
theorem sc__law_read : FnScope N__law_read ["_law_text_here"] (defScope s__law_read) := ⟨rfl, rfl, rfl, by decide +kernel, rfl, by decide +kernel, by decide +kernel⟩
def sp_law_read : Sp := fun vs H Q _ => ∃ cs : List Nat, vs = [.str (sL cs)] ∧ cs.length + 2 ≤ sizeLine ∧
  (∀ c, Wm.read cs = .ok c → ∀ v p H', Same H H' → CndV H' c v → H' p = some (.tup [.str (Str.ofString "read"), v]) → Q (.ref p) H') ∧
  (∀ col, Wm.read cs = .bad col → ∀ p H', Same H H' → H' p = some (.tup [.str (Str.ofString "bad"), .int (col : Int)]) → Q (.ref p) H')
theorem ok__law_read (T : BadT K mg B) (D : Df K mg "_law_read" s__law_read ["_law_text_here"]) (C_read_condition : Cal P w K mg base (L2N.CX P w) 37 "read_condition" ["text"] (sp_read_condition B)) (H_is_integer : CalH P w K mg base CX0 1 "_law_is_integer" ["_law_value"] sp_is_integer) :
    Cal P w K mg base CX0 38 "_law_read" ["_law_text_here"] sp_law_read := by
  refine D.ok sc__law_read (fun vs H Q E h => ?_) (fun f cdv A outer s H vs Q E hr h => ?_)
  · obtain ⟨cs, rfl, _⟩ := h
    rfl
  obtain ⟨cs, rfl, hz, q1, q2⟩ := h
  refine ⟨_, (pss_cons (L2N.ps_try_as (i := 1) (Wout := fun _ _ _ _ => False) rfl rfl sc__law_read.nd rfl rfl ⟨rfl, by decide, Or.inl T.g⟩ takesN0
      (fun W pn xe tk _ => pss_one (ps_set (i := 2) sc__law_read.nd rfl (Or.inl rfl) (by exact (pe_calS C_read_condition hr (fun σ => L2N.passAt tk σ) (pa_cons (pv 0) pa_nil)))))
      (fun a oe cls d pn hz hf => pss_cons (ps_if (PW.pt (pw_or (pt_not (pt_val (pe_calH H_is_integer (roomH_mark (hr.mono (show 1 ≤ 37 by decide))) (hot_suite hz hf) passH0 (pa_cons (pe_xf T.xf T.nl hz.zc hf (pv 1)) pa_nil))))
          (pw_or (pt_not (pt_val (pe_calH H_is_integer (roomH_mark (hr.mono (show 1 ≤ 37 by decide))) (hot_suite hz hf) passH0 (pa_cons (pe_xf T.xf T.nc hz.zc hf (pv 1)) pa_nil)))) (pw_or1 (pt_cmpR op_ne (pe_xf T.xf T.nl hz.zc hf (pv 1)) pe_int (nomark _))))))
        (pss_one (ps_ret (pe_tup (pa_cons pe_str pa_nil)))) pss_nil)
        (pss_one (ps_ret (pe_tup (pa_cons pe_str (pa_cons (pe_xf T.xf T.nc hz.zc hf (pv 1)) pa_nil)))))))
    (pss_one (ps_ret (pe_tup (pa_cons pe_str (pa_cons (pv 2) pa_nil)))))), ?_⟩
  refine ⟨_, rfl, cs, rfl, hz, fun c hc v H1 s1 hv => ?_, fun col hc d H1 s1 hd => ?_⟩
  · refine ⟨_, rfl, (by show 2 ≤ sizeLine; decide), fun p hp => ?_⟩
    have s2 := Same.new (o := .tup [.str (Str.ofString "read"), v]) hp
    exact q1 c hc v p _ (s1.trans s2) (CndV.keep (Same.tups s2) hv) upd_same
  · refine ⟨true, T.te, fun _ a ha => ?_, fun q => Bool.noConfusion q⟩
    refine ⟨_, rfl, rfl, rfl, d, _, _, rfl, hd, xlook_line _ _, 1, rfl, _, rfl, ?_⟩
    refine iteF ?_
    refine ⟨_, rfl, rfl, rfl, d, _, _, rfl, hd, xlook_col _ _, _, rfl, _, rfl, ?_⟩
    refine iteF ?_
    refine ⟨_, rfl, rfl, rfl, d, _, _, rfl, hd, xlook_line _ _, rfl, _, rfl, ?_⟩
    rw [show decide (V.int 1 = V.int 1) = true from decide_eq_true rfl]
    refine iteF ?_
    refine ⟨_, rfl, rfl, rfl, d, _, _, rfl, hd, xlook_col _ _, (by show 2 ≤ sizeLine; decide), fun p hp => ?_⟩
    exact q2 col hc p _ (s1.trans (Same.new hp)) upd_same
end
end Wk
end PartRl1
section PartGd0
set_option Elab.async false
set_option linter.all false
set_option maxRecDepth 100000
set_option maxHeartbeats 4000000
namespace Wk
open PySem PySem.Spec PyProof.Rows L2
/-! ### tests where a token is out -/
def PTT (X : Cx) (c : Expr) (t : TT) : Prop :=
  ∀ (pins : List (Addr × Obj)) (s : Shared) (σ : L2.St) (H : Hp) (Q : Bool → Hp → Prop), 1 ≤ s.toks → Inv X pins σ H s → t σ H Q → wpAny (model X.prog X.w) X.A (isTrue c X.env (eval c X.env)) (TP X pins σ Q) X.xe s
def PWT (X : Cx) (c : Expr) (t : TT) : Prop :=
  ∀ (whole : Sem Value) (pins : List (Addr × Obj)) (s : Shared) (σ : L2.St) (H : Hp) (Q : Bool → Hp → Prop), 1 ≤ s.toks → Inv X pins σ H s → t σ H Q → wpAny (model X.prog X.w) X.A (isTrue c X.env whole) (TP X pins σ Q) X.xe s
section
variable {X : Cx} {a b c : Expr} {rest : List Expr} {ta tb : TE} {tA tB' : TT} {pos : Pos}
theorem PWT.pt {e : Expr} {t : TT} (h : PWT X e t) : PTT X e t := fun pins s σ H Q h0 I q => h _ pins s σ H Q h0 I q
theorem ptt_cmpR {op : CmpOp} {r : R2} (ho : OpR X (compareOp op) r) (ha : PET X a ta) (hb : PET X b tb) (hm : behindInMarks op b = false) : PTT X (.Compare a [op] [b] pos) (tTest (tOp r ta tb)) := by
  intro pins s σ H Q h0 I h
  refine wpAny_isTrue_Compare1 (wpAny_mono (PySem.wpAny_toks (ha pins s σ H _ h0 I h)) (fun v s1 q => ?_) fun _ _ z => z.2) hm
  obtain ⟨hk, x, H1, I1, r1, q1⟩ := q
  exact thn (hb pins s1 σ H1 _ (Nat.le_trans h0 hk) I1 q1) fun u s2 ⟨y, H2, I2, r2, q2⟩ => thn (ho pins s2 σ H2 x y v u _ I2 r1 r2 q2) fun c s3 ⟨z, H3, I3, r3, k, e, q3⟩ => by
    subst e
    cases r3
    exact wpAny_truthy_bool ⟨H3, I3, q3⟩
theorem pwt_or1 (ha : PTT X a tA) : PWT X (.BoolOp .Or [a] pos) tA := by
  intro wh pins s σ H Q h0 I h
  refine isTrue_or (thn (ha pins s σ H Q h0 I h) fun c s1 e => ?_)
  cases c with
  | false => exact isTrue_or_nil e
  | true => exact e
theorem pwt_or (ha : PT X a tA) (hb : PWT X (.BoolOp .Or (b :: rest) pos) tB') : PWT X (.BoolOp .Or (a :: b :: rest) pos) (tOr tA tB') := by
  intro wh pins s σ H Q h0 I h
  refine isTrue_or (wpAny_mono (PySem.wpAny_toks (ha.run pins s σ H _ I h)) (fun c s1 q => ?_) fun _ _ z => z.2)
  obtain ⟨hk, H1, I1, q1⟩ := q
  cases c with
  | true => exact ⟨H1, I1, q1⟩
  | false => exact hb wh pins s1 σ H1 Q (Nat.le_trans h0 hk) I1 q1
theorem pst_ifT {x y : List Stmt} {tc : TT} {t u : TS} (hc : PTT X c tc) (ha : PSsT X x t) (hb : PSsT X y u) : PST X (.If c x y pos) (tIfS tc t u) := by
  intro pins s σ H D h0 I h
  refine wpAny_If (wpAny_mono (PySem.wpAny_toks (hc pins s σ H _ h0 I h)) (fun d s1 q => ?_) fun _ _ z => z.2)
  obtain ⟨hk, H1, I1, q1⟩ := q
  cases d with
  | true => exact ha pins s1 σ H1 D (Nat.le_trans h0 hk) I1 q1
  | false => exact hb pins s1 σ H1 D (Nat.le_trans h0 hk) I1 q1
end
end Wk
end PartGd0
section PartGd1
set_option Elab.async false
set_option linter.all false
set_option maxRecDepth 100000
set_option maxHeartbeats 4000000
namespace Wk
open PySem PySem.Spec PyProof.Rows L2
/-! ### a condition as data -/
theorem dts_nil (H : Hp) : DtsV H [] [] := by rw [DtsV]
theorem dts_cons {H : Hp} {d : PyData} {ds : List PyData} {v : V} {vs : List V} (h : DtV H d v) (k : DtsV H ds vs) : DtsV H (d :: ds) (v :: vs) := by rw [DtsV]; exact ⟨v, vs, rfl, h, k⟩
theorem dt_str (H : Hp) (x : Str) : DtV H (.str x) (.str x) := by rw [DtV]
theorem dt_int (H : Hp) (i : Int) : DtV H (.int i) (.int i) := by rw [DtV]
theorem dt_tup {H : Hp} {a : Addr} {ds : List PyData} {xs : List V} (h : H a = some (.tup xs)) (k : DtsV H ds xs) : DtV H (.tuple ds) (.ref a) := by rw [DtV]; exact ⟨a, xs, rfl, h, k⟩
theorem trm_dt {H : Hp} {v : V} {t : Wm.Trm} (h : TrmV H v t) : DtV H (trmD t) v := by
  cases t with
  | nm w => obtain ⟨a, rfl, h⟩ := h; exact dt_tup h (dts_cons (dt_str _ _) (dts_cons (dt_str _ _) (dts_nil _)))
  | fld w => obtain ⟨a, rfl, h⟩ := h; exact dt_tup h (dts_cons (dt_str _ _) (dts_cons (dt_str _ _) (dts_nil _)))
  | part w i => obtain ⟨a, rfl, h⟩ := h; exact dt_tup h (dts_cons (dt_str _ _) (dts_cons (dt_str _ _) (dts_cons (dt_int _ _) (dts_nil _))))
def strsD (ws : List Wm.L) : List PyData := ws.map fun w => .str (sL w)
theorem strs_dt (H : Hp) : ∀ ws : List Wm.L, DtsV H (strsD ws) (ws.map fun w => V.str (sL w))
  | [] => dts_nil H
  | w :: ws => dts_cons (dt_str _ _) (strs_dt H ws)
def tgtD : Wm.Tgt → PyData
  | .set w => .tuple [.str "set", .str (sL w)]
  | .names ws => .tuple [.str "names", .tuple (strsD ws)]
theorem tgt_dt {H : Hp} {v : V} {t : Wm.Tgt} (h : TgtV H v t) : DtV H (tgtD t) v := by
  cases t with
  | set w => obtain ⟨a, rfl, h⟩ := h; exact dt_tup h (dts_cons (dt_str _ _) (dts_cons (dt_str _ _) (dts_nil _)))
  | names ws => obtain ⟨a, b, rfl, h, k⟩ := h; exact dt_tup h (dts_cons (dt_str _ _) (dts_cons (dt_tup k (strs_dt H ws)) (dts_nil _)))
theorem trms_dt {H : Hp} : ∀ {vs : List V} {ts : List Wm.Trm}, TrmsV H vs ts → DtsV H (ts.map trmD) vs
  | [], [], _ => dts_nil H
  | v :: vs, t :: ts, h => dts_cons (trm_dt h.1) (trms_dt h.2)
  | [], _ :: _, h => h.elim
  | _ :: _, [], h => h.elim
def smpD : Wm.Smp → PyData
  | .tt => .tuple [.str "true"] | .ff => .tuple [.str "false"]
  | .is t u => .tuple [.str (sL Wm.wIs), trmD t, trmD u]
  | .inn t s => .tuple [.str (sL Wm.wIn), trmD t, .str (sL s)]
  | .mem t s => .tuple [.str (sL Wm.wMember), trmD t, .str (sL s)]
  | .within s g => .tuple [.str (sL Wm.wWithin), .str (sL s), tgtD g]
  | .most x y c => .tuple [.str (sL Wm.wMost), .str (sL x), .str (sL y), .int c]
  | .path u p ts => .tuple [.str (sL (Wm.hdW (.path u))), .str (sL p), .tuple (ts.map trmD)]
theorem smp_dt {H : Hp} {v : V} {s : Wm.Smp} (h : SmpV H v s) : DtV H (smpD s) v := by
  cases s with
  | tt => obtain ⟨a, rfl, h⟩ := h; exact dt_tup h (dts_cons (dt_str _ _) (dts_nil _))
  | ff => obtain ⟨a, rfl, h⟩ := h; exact dt_tup h (dts_cons (dt_str _ _) (dts_nil _))
  | is t u => obtain ⟨a, x, y, rfl, h, h1, h2⟩ := h; exact dt_tup h (dts_cons (dt_str _ _) (dts_cons (trm_dt h1) (dts_cons (trm_dt h2) (dts_nil _))))
  | inn t u => obtain ⟨a, x, rfl, h, h1⟩ := h; exact dt_tup h (dts_cons (dt_str _ _) (dts_cons (trm_dt h1) (dts_cons (dt_str _ _) (dts_nil _))))
  | mem t u => obtain ⟨a, x, rfl, h, h1⟩ := h; exact dt_tup h (dts_cons (dt_str _ _) (dts_cons (trm_dt h1) (dts_cons (dt_str _ _) (dts_nil _))))
  | within t u => obtain ⟨a, x, rfl, h, h1⟩ := h; exact dt_tup h (dts_cons (dt_str _ _) (dts_cons (dt_str _ _) (dts_cons (tgt_dt h1) (dts_nil _))))
  | most x y c => obtain ⟨a, rfl, h⟩ := h; exact dt_tup h (dts_cons (dt_str _ _) (dts_cons (dt_str _ _) (dts_cons (dt_str _ _) (dts_cons (dt_int _ _) (dts_nil _)))))
  | path u p ts => obtain ⟨a, b, vs, rfl, h, k, h1⟩ := h; exact dt_tup h (dts_cons (dt_str _ _) (dts_cons (dt_str _ _) (dts_cons (dt_tup k (trms_dt h1)) (dts_nil _))))
mutual
def cndD : Wm.Cnd → PyData
  | .smp s => smpD s
  | .not c => .tuple [.str (sL Wm.wNot), cndD c]
  | .many b cs => .tuple [.str (sL (Wm.hdW (.many b))), .tuple (cndsD cs)]
def cndsD : List Wm.Cnd → List PyData
  | [] => []
  | c :: cs => cndD c :: cndsD cs
end
mutual
theorem cnd_dt {H : Hp} : ∀ {c : Wm.Cnd} {v : V}, CndV H c v → DtV H (cndD c) v
  | .smp s, v, h => by rw [CndV] at h; rw [cndD]; exact smp_dt h
  | .not c, v, h => by
    rw [CndV] at h
    obtain ⟨a, x, rfl, h, k⟩ := h
    rw [cndD]
    exact dt_tup h (dts_cons (dt_str _ _) (dts_cons (cnd_dt k) (dts_nil _)))
  | .many b cs, v, h => by
    rw [CndV] at h
    obtain ⟨a, d, vs, rfl, h, k, q⟩ := h
    rw [cndD]
    exact dt_tup h (dts_cons (dt_str _ _) (dts_cons (dt_tup k (cnds_dt q)) (dts_nil _)))
theorem cnds_dt {H : Hp} : ∀ {cs : List Wm.Cnd} {vs : List V}, CndsV H cs vs → DtsV H (cndsD cs) vs
  | [], vs, h => by rw [CndsV] at h; subst h; rw [cndsD]; exact dts_nil H
  | c :: cs, vs, h => by
    rw [CndsV] at h
    obtain ⟨x, r, rfl, h, k⟩ := h
    rw [cndsD]
    exact dts_cons (cnd_dt h) (cnds_dt k)
end
theorem cndsD_map : ∀ cs, cndsD cs = cs.map cndD
  | [] => by rw [cndsD]; rfl
  | c :: cs => by rw [cndsD, cndsD_map cs] <;> rfl
/-! ### .. of small depth -/
theorem td_str (n : Nat) (x : Str) : tupD (n + 1) (.str x) := trivial
theorem td_int (n : Nat) (x : Int) : tupD (n + 1) (.int x) := trivial
theorem td_tup {n : Nat} {ds : List PyData} (h : ds.length ≤ 100000) (k : ∀ d ∈ ds, tupD n d) : tupD (n + 1) (.tuple ds) := ⟨h, k⟩
theorem all1 {p : PyData → Prop} {a : PyData} (h : p a) : ∀ d ∈ [a], p d := fun d hd => by rw [List.mem_singleton.mp hd]; exact h
theorem allc {p : PyData → Prop} {a : PyData} {ds : List PyData} (h : p a) (k : ∀ d ∈ ds, p d) : ∀ d ∈ a :: ds, p d := fun d hd => by
  rcases List.mem_cons.mp hd with e | e
  · rw [e]; exact h
  · exact k d e
theorem trm_td (t : Wm.Trm) : tupD 2 (trmD t) := by
  cases t with
  | nm w => exact td_tup (by show 2 ≤ 100000; decide) (allc (td_str _ _) (all1 (td_str _ _)))
  | fld w => exact td_tup (by show 2 ≤ 100000; decide) (allc (td_str _ _) (all1 (td_str _ _)))
  | part w i => exact td_tup (by show 3 ≤ 100000; decide) (allc (td_str _ _) (allc (td_str _ _) (all1 (td_int _ _))))
theorem tgt_td {g : Wm.Tgt} (h : fewG g) : tupD 3 (tgtD g) := by
  cases g with
  | set w => exact td_tup (by show 2 ≤ 100000; decide) (allc (td_str _ _) (all1 (td_str _ _)))
  | names ws =>
    refine td_tup (by show 2 ≤ 100000; decide) (allc (td_str _ _) (all1 (td_tup ?_ fun d hd => ?_)))
    · have : ws.length ≤ 4090 := h
      unfold strsD
      rw [List.length_map]
      omega
    · obtain ⟨w, _, rfl⟩ := List.mem_map.mp hd
      exact td_str _ _
theorem smp_td {s : Wm.Smp} (h : Wm.SmpOk s) (hf : fewS s) : tupD 4 (smpD s) := by
  cases s with
  | tt => exact td_tup (by show 1 ≤ 100000; decide) (all1 (td_str _ _))
  | ff => exact td_tup (by show 1 ≤ 100000; decide) (all1 (td_str _ _))
  | is t u => exact td_tup (by show 3 ≤ 100000; decide) (allc (td_str _ _) (allc ((trm_td t).mono (by decide)) (all1 ((trm_td u).mono (by decide)))))
  | inn t u => exact td_tup (by show 3 ≤ 100000; decide) (allc (td_str _ _) (allc ((trm_td t).mono (by decide)) (all1 (td_str _ _))))
  | mem t u => exact td_tup (by show 3 ≤ 100000; decide) (allc (td_str _ _) (allc ((trm_td t).mono (by decide)) (all1 (td_str _ _))))
  | within t u => exact td_tup (by show 3 ≤ 100000; decide) (allc (td_str _ _) (allc (td_str _ _) (all1 (tgt_td (fewT u rfl hf)))))
  | most x y c => exact td_tup (by show 4 ≤ 100000; decide) (allc (td_str _ _) (allc (td_str _ _) (allc (td_str _ _) (all1 (td_int _ _)))))
  | path u p ts =>
    refine td_tup (by show 3 ≤ 100000; decide) (allc (td_str _ _) (allc (td_str _ _) (all1 (td_tup ?_ fun d hd => ?_))))
    · have := h.2.1
      rw [List.length_map]
      omega
    · obtain ⟨t, _, rfl⟩ := List.mem_map.mp hd
      exact trm_td t
theorem joinC_len (l : List (List Wm.Tk)) : l.length ≤ (Wm.joinC l).length + 1 := by
  induction l with
  | nil => exact Nat.zero_le _
  | cons x l ih =>
    cases l with
    | nil => exact Nat.le_add_left _ _
    | cons y l =>
      show _ ≤ (x ++ .mark 44 :: Wm.joinC (y :: l)).length + 1
      rw [List.length_append, List.length_cons, List.length_cons (a := Wm.Tk.mark 44)]
      omega
theorem cnd_td {d : Nat} {c : Wm.Cnd} (h : Wm.CndOk d c) : ∀ k, d + k = 13 → fewC c → (Wm.toksC c).length ≤ 99000 → tupD (2 * k + 3) (cndD c) := by
  induction h with
  | smp h hs =>
    intro k hk hf _
    rw [fewC] at hf
    rw [cndD]
    exact (smp_td hs hf).mono (by omega)
  | @not d c h hc ih =>
    intro k hk hf hl
    rw [fewC] at hf
    rw [cndD]
    have := (Wm.sub_not c).length_le
    obtain ⟨m, rfl⟩ : ∃ m, k = m + 1 := ⟨k - 1, by omega⟩
    exact td_tup (by show 2 ≤ 100000; decide) (allc (td_str _ _) (all1 ((ih m (by omega) hf (Nat.le_trans this hl)).mono (by omega))))
  | @many d b cs h hc ih =>
    intro k hk hf hl
    rw [fewC] at hf
    rw [cndD]
    obtain ⟨m, rfl⟩ : ∃ m, k = m + 1 := ⟨k - 1, by omega⟩
    refine td_tup (n := 2 * m + 4) (by show 2 ≤ 100000; decide) (allc (td_str _ _) (all1 (td_tup (n := 2 * m + 3) ?_ fun x hx => ?_)))
    · rw [cndsD_map, List.length_map]
      have h1 := joinC_len (cs.map Wm.toksC)
      rw [Wm.toksC.eq_3, Wm.toksCs_map, List.length_cons, List.length_cons, List.length_append] at hl
      rw [List.length_map] at h1
      omega
    · rw [cndsD_map] at hx
      obtain ⟨c, hc', rfl⟩ := List.mem_map.mp hx
      exact ih c hc' m (by omega) (fewCs_mem hf c hc') (Nat.le_trans (Wm.sub_many hc').length_le hl)
/-! ### what was read is small -/
theorem fewCs_of : ∀ {cs : List Wm.Cnd}, (∀ c ∈ cs, fewC c) → fewCs cs
  | [], _ => by rw [fewCs]; trivial
  | c :: cs, h => by rw [fewCs]; exact ⟨h c List.mem_cons_self, fewCs_of fun x hx => h x (List.mem_cons_of_mem _ hx)⟩
theorem few_of {d : Nat} {c : Wm.Cnd} (h : Wm.CndOk d c) : (Wm.flat (Wm.toksC c)).length ≤ 16200 → fewC c := by
  induction h with
  | @smp d s h hs =>
    intro hl
    rw [fewC]
    rw [Wm.toksC] at hl
    cases s with
    | within g t =>
      cases t with
      | set w => trivial
      | names ws =>
        show ws.length ≤ 4090
        have sub : (Wm.joinC (ws.map Wm.nameL)).Sublist (Wm.toksS (.within g (.names ws))) := by
          show (Wm.joinC (ws.map Wm.nameL)).Sublist (Wm.Tk.word (Wm.hdW .within) :: Wm.Tk.mark 40 :: ((Wm.Tk.word g :: Wm.Tk.mark 44 :: Wm.Tk.mark 123 :: (Wm.joinC (ws.map Wm.nameL) ++ [Wm.Tk.mark 125])) ++ [Wm.Tk.mark 41]))
          exact ((((((List.sublist_append_left _ _).cons _).cons _).cons _).trans (List.sublist_append_left _ _)).cons _).cons _
        have h1 := Wm.names_len ws hs.2.1
        have h2 : (Wm.flat (Wm.joinC (ws.map Wm.nameL))).length ≤ (Wm.flat (Wm.toksS (.within g (.names ws)))).length := Wm.sub_len (f := Wm.tkText) sub
        omega
    | _ => trivial
  | @not d c h hc ih =>
    intro hl
    rw [fewC]
    have h2 : (Wm.flat (Wm.toksC c)).length ≤ (Wm.flat (Wm.toksC (.not c))).length := Wm.sub_len (f := Wm.tkText) (Wm.sub_not c)
    exact ih (Nat.le_trans h2 hl)
  | @many d b cs h hc ih =>
    intro hl
    rw [fewC]
    refine fewCs_of fun c hcs => ih c hcs ?_
    have h2 : (Wm.flat (Wm.toksC c)).length ≤ (Wm.flat (Wm.toksC (.many b cs))).length := Wm.sub_len (f := Wm.tkText) (Wm.sub_many hcs)
    exact Nat.le_trans h2 hl
theorem wf_len : ∀ {ts : List Wm.Tk}, (∀ t ∈ ts, Wm.WF t) → ts.length ≤ (Wm.flat ts).length
  | [], _ => Nat.zero_le _
  | t :: ts, h => by
    obtain ⟨c, r, e, _⟩ := Wm.text_head (h t List.mem_cons_self)
    have ih := wf_len fun u hu => h u (List.mem_cons_of_mem _ hu)
    rw [Wm.flat_cons, List.length_append, e, List.length_cons, List.length_cons]
    omega
/-- all that is asked of a condition that was read -/
theorem read_facts {cs : List Nat} {c : Wm.Cnd} (h : Wm.read cs = .ok c) (hl : cs.length ≤ 16150) : Wm.CndOk 1 c ∧ fewC c ∧ bigT (Wm.toksC c) ∧ tupD 27 (cndD c) ∧ (Wm.wr c).length ≤ 32400 := by
  obtain ⟨h1, h2, h3⟩ := Wm.read_valid h
  have hn : (Wm.nosp cs).length ≤ cs.length := List.length_filter_le _ _
  have hfl : (Wm.flat (Wm.toksC c)).length ≤ 16150 := by rw [h2]; omega
  have hf := few_of h1 (by omega)
  have hs := Wm.sep_len (Wm.toksC c)
  have ht := wf_len h3
  exact ⟨h1, hf, ⟨by omega, fun n hn => Wm.int_log (h3 _ hn)⟩, cnd_td h1 12 rfl hf (by omega), by show (Wm.sep (Wm.toksC c)).length ≤ _; omega⟩
/-! ### ('bad', column) -/
def badD (n : Int) : PyData := .tuple [.str "bad", .int n]
theorem bad_shaped (n : Int) : SeqAt.shaped (badD n) = true := by
  refine shaped_tup ?_ ?_
  · simp only [PyData.canLayAll0, PyData.canLay0]
    rw [show PyData.strOk (Str.ofString "bad") = true from by decide +kernel] <;> rfl
  · simp only [PyData.depthAll, PyData.depth] <;> decide
theorem bad_eqv (n : Int) : PyData.eqv (badD n) (badD n) = true := by simp [badD, PyData.eqv, PyData.eqvAll]
theorem bad_Dp {K : PySem.W.Frag} {H : Hp} {p : Addr} {n : Int} (h : H p = some (.tup [.str (Str.ofString "bad"), .int n])) : Dp K H (.ref p) (badD n) := .tup (SqT.of h) (.cons (.str _) (.cons (.int _) .nil))
theorem eq_bad {K : PySem.W.Frag} {H : Hp} {Q : VK} {p1 p2 : Addr} {m n : Int} (h1 : H p1 = some (.tup [.str (Str.ofString "bad"), .int m])) (h2 : H p2 = some (.tup [.str (Str.ofString "bad"), .int n])) (e : m = n) (q : Q (.bl true) H) : rEqD K (.ref p1) (.ref p2) H Q := by
  subst e
  refine ⟨_, _, bad_Dp h1, bad_Dp h2, bad_shaped _, bad_shaped _, ?_⟩
  rw [bad_eqv]
  exact q
theorem ne_bad {K : PySem.W.Frag} {H : Hp} {Q : VK} {p1 p2 : Addr} {m n : Int} (h1 : H p1 = some (.tup [.str (Str.ofString "bad"), .int m])) (h2 : H p2 = some (.tup [.str (Str.ofString "bad"), .int n])) (e : m = n) (q : Q (.bl false) H) : rNeD K (.ref p1) (.ref p2) H Q := by
  subst e
  refine ⟨_, _, bad_Dp h1, bad_Dp h2, bad_shaped _, bad_shaped _, ?_⟩
  rw [bad_eqv]
  exact q
end Wk
end PartGd1
section PartGd2
set_option Elab.async false
set_option linter.all false
set_option maxRecDepth 100000
set_option maxHeartbeats 4000000
namespace Wk
open PySem PySem.Spec PyProof.Rows L2
theorem l_empty : (Str.ofString "" : Str) = ⟨#[]⟩ := by decide +kernel
theorem repl_sp (cs : List Nat) : Txt.replace (sL cs) (Str.ofString " ") (Str.ofString "") = sL (Wm.nosp cs) := by
  rw [l_sp, l_empty]
  refine TL.ext_tl ?_
  exact PyProof.Rows.replace_strikes (sL cs) 32
theorem l_sp2 : Str.ofString "  " = sL [32, 32] := by decide +kernel
theorem l_sp3 : Str.ofString "   " = sL [32, 32, 32] := by decide +kernel
theorem l_spyes : Str.ofString " yes" = sL (32 :: Wm.wYes) := by decide +kernel
section
variable {P : Program} {w : World} {K : PySem.W.Frag} {mg : Str → Option Value} {base : Heap} {C B : Addr}
abbrev s__law_good : Stmt := topS 76
abbrev N__law_good : List Str := ["_law_text_here", "_law_found", "_law_back"]
theorem sc__law_good : FnScope N__law_good ["_law_text_here", "_law_found"] (defScope s__law_good) := ⟨rfl, rfl, rfl, by decide +kernel, rfl, by decide +kernel, by decide +kernel⟩
def sp_good : Sp := fun vs H Q _ => ∃ (cs : List Nat) (v : V) (c : Wm.Cnd), vs = [.str (sL cs), v] ∧ cs.length ≤ 16150 ∧ Wm.read cs = .ok c ∧ CndV H c v ∧ ∀ H', Q (.bl true) H'
theorem CndV.tup {H : Hp} {c : Wm.Cnd} {v : V} (h : CndV H c v) : ∃ a xs, v = .ref a ∧ H a = some (.tup xs) := by
  cases c with
  | smp s =>
    rw [CndV] at h
    obtain ⟨a, xs, e, h⟩ := smp_kind h
    exact ⟨a, _, e, h⟩
  | not c =>
    rw [CndV] at h
    obtain ⟨a, x, e, h, _⟩ := h
    exact ⟨a, _, e, h⟩
  | many b cs =>
    rw [CndV] at h
    obtain ⟨a, d, xs, e, h, _⟩ := h
    exact ⟨a, _, e, h⟩
theorem ok__law_good (G : Glob K mg) (D : Df K mg "_law_good" s__law_good ["_law_text_here", "_law_found"]) (C_check_condition : Cal P w K mg base CX0 18 "check_condition" ["condition"] sp_check_condition)
    (C_write_condition : Cal P w K mg base CX0 16 "write_condition" ["condition"] (sp_write_condition 12)) (C__law_read : Cal P w K mg base CX0 38 "_law_read" ["_law_text_here"] sp_law_read)
    (C__law_same : Cal P w K mg base CX0 29 "_law_same" ["_law_actual", "_law_due"] (sp_same 28)) : Cal P w K mg base CX0 39 "_law_good" ["_law_text_here", "_law_found"] sp_good := by
  obtain ⟨f, fd, F, m, b⟩ := D
  obtain ⟨oc, od, kV, doc, pm, an, cdv, ct, osl, rfl, lk, hcd⟩ := F.ex
  refine ⟨f, _, fn_ofT lk hcd sc__law_good (by decide +kernel) (by decide) (fun vs H Q E h => ?_) (fun A outer s H vs Q E hr h => ?_), m, F.kp, b⟩
  · obtain ⟨cs, v, c, rfl, _⟩ := h
    rfl
  obtain ⟨cs, v, c, rfl, hl, hread, hv, q⟩ := h
  refine ⟨_, (psst_cons (PST.of (ps_if (PW.pt (pw_or (pt_not (pt_val (pe_callB call_isi rfl G.isinstance boot_isinstance (pa_cons (pv 1) (pa_cons (pe_bltn (v := .ty "tuple") rfl G.tuple boot_tuple rfl) pa_nil))))) (pw_or1 (pt_cmpR op_notN (pe_cal C_check_condition (hr.mono (by decide)) pass0 (pa_cons (pv 1) pa_nil)) pe_non (nomark _)))))
      (pss_one (ps_ret pe_bl))
      pss_nil))
    (psst_cons (PST.of (ps_set (i := 2) sc__law_good.nd rfl (Or.inl rfl) (pe_cal C_write_condition (hr.mono (by decide)) pass0 (pa_cons (pv 1) pa_nil))))
    (psst_cons (pst_ifT (PWT.pt (pwt_or (pt_not (pt_val (pe_callB call_isi rfl G.isinstance boot_isinstance (pa_cons (pv 2) (pa_cons (pe_bltn (v := .ty "str") rfl G.str boot_str rfl) pa_nil))))) (pwt_or1 (ptt_cmpR op_ne (CwR.pet_replC (pv 2)) (CwR.pet_replC (pv 0)) (nomark _)))))
      (PSsT.of (pss_one (ps_ret pe_bl)))
      (PSsT.of pss_nil))
    (PSsT.of (pss_cons (ps_if (PW.pt (pw_or (pt_not (pt_val (pe_cal C__law_same (hr.mono (by decide)) pass0 (pa_cons (pe_cal C__law_read hr pass0 (pa_cons (pv 2) pa_nil)) (pa_cons (pe_tup (pa_cons pe_str (pa_cons (pv 1) pa_nil))) pa_nil))))) (pw_or1 (pt_not (pt_val (pe_cal C__law_same (hr.mono (by decide)) pass0 (pa_cons (pe_cal C__law_read hr pass0 (pa_cons (pe_op op_add_str (pe_op op_add_str pe_str (pv 0)) pe_str) pa_nil)) (pa_cons (pe_tup (pa_cons pe_str (pa_cons (pv 1) pa_nil))) pa_nil))))))))
      (pss_one (ps_ret pe_bl))
      pss_nil)
    (pss_one (ps_ret (pe_and (pe_cmpR (op_eqD hr.units) (pe_cal C__law_read hr pass0 (pa_cons (pe_op op_add_str (pv 0) pe_str) pa_nil)) (pe_tup (pa_cons pe_str (pa_cons (pe_op op_add (pe_callB call_len_str rfl G.len PySem.boot_len (pa_cons (pv 0) pa_nil)) pe_int) pa_nil))) (nomark _)) (pe_one (pe_cmpR (op_eqD hr.units) (pe_cal C__law_read hr pass0 (pa_cons (pe_op op_add_str (pv 0) pe_str) pa_nil)) (pe_tup (pa_cons pe_str (pa_cons (pe_op op_add (pe_callB call_len_str rfl G.len PySem.boot_len (pa_cons (pv 0) pa_nil)) pe_int) pa_nil))) (nomark _))))))))))), ?_⟩
  obtain ⟨f1, f2, f3, f4, f5⟩ := read_facts hread hl
  have fits2 : ∀ {a b : V}, ([a, b] : List V).length ≤ sizeLine := by intro a b; show 2 ≤ sizeLine; decide
  have hz : ∀ k : Nat, k ≤ 50000 → k ≤ sizeLine := fun k hk => by rw [sizeLine_eq]; omega
  obtain ⟨a, xs, ea, ha⟩ := CndV.tup hv
  have tv1 : TyX K H v (.type "tuple") := by rw [ea]; exact .base (.tup ha)
  refine ⟨_, rfl, _, _, _, _, true, rfl, .ty _, tv1, kit_ty (by decide +kernel), _, rfl, ?_⟩
  refine iteF ⟨_, rfl, v, c, rfl, hv, f1, f2, fun H1 s1 => ?_⟩
  refine ⟨rfl, _, rfl, ?_⟩
  rw [show (!decide (V.non = V.non)) = false from by rw [decide_eq_true rfl] <;> rfl]
  refine iteF ?_
  have hv1 := CndV.keep (Same.tups s1) hv
  refine ⟨_, rfl, v, c, 1, rfl, rfl, f1, hv1, f3, fun H2 s2 => ?_⟩
  have hv2 := CndV.keep (Same.tups s2) hv1
  -- the same but for blanks
  obtain ⟨w1, w2⟩ := Wm.read_written hread
  have l0 : (Str.ofString "").length = 0 := by decide +kernel
  refine ⟨_, rfl, _, _, _, _, true, rfl, .ty _, .base (.str _), kit_ty (by decide +kernel), _, rfl, ?_⟩
  refine iteF ⟨_, rfl, sL (Wm.wr c), rfl, by rw [l0, len_sL]; omega, _, rfl, sL cs, rfl, by rw [l0, len_sL]; omega, rfl, _, rfl, ?_⟩
  rw [repl_sp, repl_sp, w1, decide_eq_true rfl]
  refine iteF ?_
  -- read back
  have td : tupD 28 (.tuple [.str (Str.ofString "read"), cndD c]) := td_tup (n := 27) (by show 2 ≤ 100000; decide) (allc (td_str _ _) (all1 f4))
  refine ⟨_, rfl, Wm.wr c, rfl, by rw [sizeLine_eq]; omega, fun c' hc' v3 p3 H3 s3 hv3 hp3 => ?_, fun col hcol => (by rw [w2] at hcol; cases hcol)⟩
  rw [w2] at hc'
  cases hc'
  refine ⟨_, rfl, fits2, fun p4 hp4 => ?_⟩
  have s4 := Same.new (o := .tup [.str (Str.ofString "read"), v]) hp4
  have hv4 := CndV.keep (Same.tups s4) (CndV.keep (Same.tups s3) hv2)
  refine ⟨.ref p3, .ref p4, _, rfl, td, dt_tup (s4 _ _ hp3) (dts_cons (dt_str _ _) (dts_cons (cnd_dt (CndV.keep (Same.tups s4) hv3)) (dts_nil _))), dt_tup upd_same (dts_cons (dt_str _ _) (dts_cons (cnd_dt hv4) (dts_nil _))), _, rfl, ?_⟩
  refine iteF ?_
  -- with blanks around
  have r5 : Wm.read ([32, 32] ++ cs ++ [32]) = .ok c := by
    rw [List.append_assoc]
    exact Wm.read_spaced hread 2 [32] (.inr ⟨0, rfl⟩)
  refine ⟨_, rfl, _, _, rfl, rfl, by rw [l_sp2, len_sL, len_sL]; exact hz _ (by show 2 + _ ≤ _; omega), _, _, rfl, rfl, by rw [l_sp2, l_sp, sL_app, len_sL, len_sL, List.length_append]; exact hz _ (by show 2 + _ + 1 ≤ _; omega), ?_⟩
  rw [l_sp2, l_sp, sL_app, sL_app]
  refine ⟨[32, 32] ++ cs ++ [32], rfl, by rw [List.length_append, List.length_append]; exact hz _ (by show 2 + _ + 1 + 2 ≤ _; omega), fun c' hc' v5 p5 H5 s5 hv5 hp5 => ?_, fun col hcol => (by rw [r5] at hcol; cases hcol)⟩
  rw [r5] at hc'
  cases hc'
  refine ⟨_, rfl, fits2, fun p6 hp6 => ?_⟩
  have s6 := Same.new (o := .tup [.str (Str.ofString "read"), v]) hp6
  have hv6 := CndV.keep (Same.tups s6) (CndV.keep (Same.tups s5) hv4)
  refine ⟨.ref p5, .ref p6, _, rfl, td, dt_tup (s6 _ _ hp5) (dts_cons (dt_str _ _) (dts_cons (cnd_dt (CndV.keep (Same.tups s6) hv5)) (dts_nil _))), dt_tup upd_same (dts_cons (dt_str _ _) (dts_cons (cnd_dt hv6) (dts_nil _))), _, rfl, ?_⟩
  refine iteF ?_
  -- more behind it
  have r7 := Wm.read_yes hread
  have r8 := Wm.read_close hread
  refine ⟨_, rfl, _, _, rfl, rfl, by rw [l_spyes, len_sL, len_sL]; exact hz _ (by show _ + 4 ≤ _; omega), ?_⟩
  rw [l_spyes, sL_app]
  refine ⟨cs ++ 32 :: Wm.wYes, rfl, by rw [List.length_append]; exact hz _ (by show _ + 4 + 2 ≤ _; omega), fun c' hc' => (by rw [r7] at hc'; cases hc'), fun col hcol p7 H7 s7 hp7 => ?_⟩
  rw [r7] at hcol
  cases hcol
  refine ⟨_, rfl, _, rfl, hz _ (by rw [len_sL]; omega), _, _, rfl, rfl, fits2, fun p8 hp8 => ?_⟩
  refine eq_bad (Same.new hp8 _ _ hp7) upd_same (by rw [len_sL]; omega) ⟨_, rfl, ?_⟩
  refine iteT ?_
  refine ⟨_, rfl, _, _, rfl, rfl, by rw [l_close, len_sL, len_sL]; exact hz _ (by show _ + 1 ≤ _; omega), ?_⟩
  rw [l_close, sL_app]
  refine ⟨cs ++ [41], rfl, by rw [List.length_append]; exact hz _ (by show _ + 1 + 2 ≤ _; omega), fun c' hc' => (by rw [r8] at hc'; cases hc'), fun col hcol p9 H9 s9 hp9 => ?_⟩
  rw [r8] at hcol
  cases hcol
  refine ⟨_, rfl, _, rfl, hz _ (by rw [len_sL]; omega), _, _, rfl, rfl, fits2, fun p10 hp10 => ?_⟩
  exact eq_bad (Same.new hp10 _ _ hp9) upd_same (by rw [len_sL]; omega) (q _)
end
end Wk
end PartGd2
section PartGd3
set_option Elab.async false
set_option linter.all false
set_option maxRecDepth 100000
set_option maxHeartbeats 4000000
namespace Wk
open PySem PySem.Spec PyProof.Rows L2
theorem kind_bad_read : decide (V.str (Str.ofString "bad") = V.str (Str.ofString "read")) = false := by
  rw [dec_str']
  exact decide_eq_false (by decide +kernel)
theorem Dr.same {H H' : Hp} {d : Addr} (h : Dr H d) (s : Same H H') : Dr H' d := by
  obtain ⟨ns, e⟩ := h
  exact ⟨ns, s _ _ e⟩
section
variable {P : Program} {w : World} {K : PySem.W.Frag} {mg : Str → Option Value} {base : Heap} {C B : Addr}
abbrev s__law_bad : Stmt := topS 77
abbrev N__law_bad : List Str := ["_law_draws_here", "_law_text_here", "_law_place", "_law_before"]
theorem sc__law_bad : FnScope N__law_bad ["_law_draws_here", "_law_text_here", "_law_place"] (defScope s__law_bad) := ⟨rfl, rfl, rfl, by decide +kernel, rfl, by decide +kernel, by decide +kernel⟩
def sp_bad : Sp := fun vs H Q _ => ∃ (d : Addr) (cs : List Nat) (p : Nat), vs = [.ref d, .str (sL cs), .int (p : Int)] ∧ Dr H d ∧ cs.length ≤ 16100 ∧ Wm.read cs = .bad p ∧ ∀ H', Q (.bl true) H'
theorem ok__law_bad (G : Glob K mg) (D : Df K mg "_law_bad" s__law_bad ["_law_draws_here", "_law_text_here", "_law_place"]) (C__law_good : Cal P w K mg base CX0 39 "_law_good" ["_law_text_here", "_law_found"] sp_good) (C__law_read : Cal P w K mg base CX0 38 "_law_read" ["_law_text_here"] sp_law_read)
    (C__law_good_token : Cal P w K mg base CX0 4 "_law_good_token" ["_law_draws_here", "_law_great"] sp_token) : Cal P w K mg base CX0 40 "_law_bad" ["_law_draws_here", "_law_text_here", "_law_place"] sp_bad := by
  refine D.ok sc__law_bad (fun vs H Q E h => ?_) (fun f cdv A outer s H vs Q E hr h => ?_)
  · obtain ⟨d, cs, p, rfl, _⟩ := h
    rfl
  obtain ⟨d, cs, p, rfl, hd, hl, hread, q⟩ := h
  refine ⟨_, (pss_cons (ps_if (PW.pt (pw_or (pt_cmpR op_lt (pv 2) pe_int (nomark _)) (pw_or (pt_cmpR op_gt (pv 2) (pe_op op_add (pe_callB call_len_str rfl G.len PySem.boot_len (pa_cons (pv 1) pa_nil)) pe_int) (nomark _)) (pw_or1 (pt_cmpR (op_neD hr.units) (pe_cal C__law_read (hr.mono (by decide)) pass0 (pa_cons (pe_op op_add_str pe_str (pv 1)) pa_nil)) (pe_tup (pa_cons pe_str (pa_cons (pe_op op_add (pv 2) pe_int) pa_nil))) (nomark _))))))
      (pss_one (ps_ret pe_bl))
      pss_nil)
    (pss_cons (ps_if (pt_cmpR op_gt (pv 2) (pe_callB call_len_str rfl G.len PySem.boot_len (pa_cons (pv 1) pa_nil)) (nomark _))
      (pss_one (ps_ret (pe_cmpR (op_eqD hr.units) (pe_cal C__law_read (hr.mono (by decide)) pass0 (pa_cons (pe_op op_add_str (pv 1) pe_str) pa_nil)) (pe_tup (pa_cons pe_str (pa_cons (pe_op op_add (pv 2) pe_int) pa_nil))) (nomark _))))
      pss_nil)
    (pss_cons (ps_if (PW.pt (pw_or (pt_cmpR op_eq (pe_ix ix_str (pv 1) (pe_op op_sub (pv 2) pe_int) (fun _ _ => rfl)) pe_str (nomark _)) (pw_or1 (pt_cmpR (op_neD hr.units) (pe_cal C__law_read (hr.mono (by decide)) pass0 (pa_cons (pe_op op_add_str (pe_op op_add_str (pv 1) pe_str) (pe_cal C__law_good_token (hr.mono (by decide)) pass0 (pa_cons (pv 0) (pa_cons pe_int pa_nil)))) pa_nil)) (pe_tup (pa_cons pe_str (pa_cons (pv 2) pa_nil))) (nomark _)))))
      (pss_one (ps_ret pe_bl))
      pss_nil)
    (pss_cons (ps_set (i := 3) sc__law_bad.nd rfl (Or.inl rfl) (pe_cal C__law_read (hr.mono (by decide)) pass0 (pa_cons (pe_slice sl_str (pv 1) po_none (po_some (pe_op op_sub (pv 2) pe_int))) pa_nil)))
    (pss_cons (ps_if (pt_cmpR op_eq (pe_ix ix_tup (pv 3) pe_int (fun _ _ => rfl)) pe_str (nomark _))
      (pss_one (ps_ret (pe_cal C__law_good (hr.mono (by decide)) pass0 (pa_cons (pe_slice sl_str (pv 1) po_none (po_some (pe_op op_sub (pv 2) pe_int))) (pa_cons (pe_ix ix_tup (pv 3) pe_int (fun _ _ => rfl)) pa_nil)))))
      pss_nil)
    (pss_one (ps_ret (pe_cmpR (op_eqD hr.units) (pv 3) (pe_tup (pa_cons pe_str (pa_cons (pv 2) pa_nil))) (nomark _))))))))), ?_⟩
  have fits2 : ∀ {a b : V}, ([a, b] : List V).length ≤ sizeLine := by intro a b; show 2 ≤ sizeLine; decide
  have hz : ∀ k : Nat, k ≤ 50000 → k ≤ sizeLine := fun k hk => by rw [sizeLine_eq]; omega
  obtain ⟨hp1, hp2⟩ := Wm.bad_place hread
  -- the place
  refine ⟨_, rfl, _, _, rfl, rfl, _, rfl, ?_⟩
  rw [decide_eq_false (show ¬ (p : Int) < 1 by omega)]
  refine iteF ?_
  refine ⟨_, rfl, _, rfl, _, rfl, hz _ (by rw [len_sL]; omega), _, _, rfl, rfl, _, _, rfl, rfl, _, rfl, ?_⟩
  rw [len_sL, decide_eq_false (show ¬ (cs.length : Int) + 1 < (p : Int) by omega)]
  refine iteF ?_
  -- blanks ahead
  have r1 := Wm.bad_before hread 3
  refine ⟨_, rfl, _, _, rfl, rfl, by rw [l_sp3, len_sL, len_sL]; exact hz _ (by show 3 + _ ≤ _; omega), ?_⟩
  rw [l_sp3, sL_app]
  refine ⟨[32, 32, 32] ++ cs, rfl, by rw [List.length_append]; exact hz _ (by show 3 + _ + 2 ≤ _; omega), fun c' hc' => (by rw [show ([32, 32, 32] : List Nat) = Wm.spaces 3 from rfl, r1] at hc'; cases hc'), fun col hcol p1 H1 s1 hp1' => ?_⟩
  rw [show ([32, 32, 32] : List Nat) = Wm.spaces 3 from rfl, r1] at hcol
  cases hcol
  refine ⟨_, rfl, _, _, rfl, rfl, fits2, fun p2 hp2' => ?_⟩
  refine ne_bad (Same.new hp2' _ _ hp1') upd_same (by omega) ⟨_, rfl, ?_⟩
  refine iteF ?_
  have hd2 : Dr _ d := hd.same (s1.trans (Same.new (o := .tup [.str (Str.ofString "bad"), .int ((p : Int) + 3)]) hp2'))
  -- behind the end
  refine ⟨_, rfl, _, rfl, _, rfl, hz _ (by rw [len_sL]; omega), _, _, rfl, rfl, _, rfl, ?_⟩
  rw [len_sL]
  by_cases e : cs.length < p
  · rw [decide_eq_true (show (cs.length : Int) < (p : Int) by omega)]
    refine iteT ?_
    have r2 := Wm.bad_behind hread e 1
    refine ⟨_, rfl, _, _, rfl, rfl, by rw [l_sp2, len_sL, len_sL]; exact hz _ (by show _ + 2 ≤ _; omega), ?_⟩
    rw [l_sp2, sL_app]
    refine ⟨cs ++ [32, 32], rfl, by rw [List.length_append]; exact hz _ (by show _ + 2 + 2 ≤ _; omega), fun c' hc' => (by rw [show ([32, 32] : List Nat) = Wm.spaces (1 + 1) from rfl, r2] at hc'; cases hc'), fun col hcol p3 H3 s3 hp3 => ?_⟩
    rw [show ([32, 32] : List Nat) = Wm.spaces (1 + 1) from rfl, r2] at hcol
    cases hcol
    refine ⟨_, rfl, _, _, rfl, rfl, fits2, fun p4 hp4 => ?_⟩
    exact eq_bad (Same.new hp4 _ _ hp3) upd_same (by omega) (q _)
  rw [decide_eq_false (show ¬ (cs.length : Int) < (p : Int) by omega)]
  refine iteF ?_
  -- the sign there, and more behind
  have hpl : p ≤ cs.length := by omega
  obtain ⟨ch, hch, hch32⟩ := Wm.bad_sign hread hpl
  have ep : ((p : Int) - 1) = ((p - 1 : Nat) : Int) := by omega
  refine ⟨_, rfl, _, rfl, _, _, rfl, rfl, sL cs, _, ch, rfl, rfl, hz _ (by rw [len_sL]; omega), by rw [ep]; exact atI_nat hch, rfl, _, rfl, ?_⟩
  rw [show V.str ⟨#[ch]⟩ = V.str (sL [ch]) from rfl, l_sp, dec_sL, decide_eq_false (show ¬ [ch] = [32] from fun z => hch32 (by simpa using z))]
  refine iteF ?_
  refine ⟨_, rfl, _, _, rfl, rfl, by rw [len_sL, len_sL]; exact hz _ (by show _ + 1 ≤ _; omega), ?_⟩
  rw [sL_app]
  refine ⟨_, rfl, d, 7, rfl, ⟨by decide, by decide +kernel⟩, hd2, fun z H3 hzt g3 => ?_⟩
  obtain ⟨y, rfl, _, hy⟩ := hzt
  refine ⟨_, _, rfl, rfl, by rw [len_sL, len_sL, List.length_append]; exact hz _ (by show _ + 1 + _ ≤ _; omega), ?_⟩
  rw [sL_app]
  have r3 := Wm.bad_more hread hpl y
  have ea : cs ++ [32] ++ y = cs ++ 32 :: y := by rw [List.append_assoc] <;> rfl
  refine ⟨cs ++ [32] ++ y, rfl, by rw [List.length_append, List.length_append]; exact hz _ (by show _ + 1 + _ + 2 ≤ _; omega), fun c' hc' => (by rw [ea, r3] at hc'; cases hc'), fun col hcol p5 H5 s5 hp5 => ?_⟩
  rw [ea, r3] at hcol
  cases hcol
  refine ⟨_, rfl, fits2, fun p6 hp6 => ?_⟩
  refine ne_bad (Same.new hp6 _ _ hp5) upd_same rfl ⟨_, rfl, ?_⟩
  refine iteF ?_
  -- what stands before
  refine ⟨_, rfl, _, rfl, _, _, rfl, rfl, _, rfl, sL cs, rfl, hz _ (by rw [len_sL]; omega), ?_⟩
  rw [ep, cutS_to (by omega : p - 1 ≤ cs.length)]
  have tl : (cs.take (p - 1)).length ≤ 16100 := by rw [List.length_take]; omega
  rcases Wm.bad_cut hread with ⟨k, hk⟩ | hb
  · refine ⟨cs.take (p - 1), rfl, hz _ (by omega), fun c' hc' v7 p7 H7 s7 hv7 hp7 => ?_, fun col hcol => (by rw [hk] at hcol; cases hcol)⟩
    refine ⟨_, rfl, p7, _, 0, _, rfl, rfl, SqT.of hp7, rfl, rfl, _, rfl, ?_⟩
    rw [decide_eq_true rfl]
    refine iteT ?_
    refine ⟨_, rfl, _, rfl, _, _, rfl, rfl, _, rfl, sL cs, rfl, hz _ (by rw [len_sL]; omega), ?_⟩
    rw [ep, cutS_to (by omega : p - 1 ≤ cs.length)]
    exact ⟨_, rfl, p7, _, 1, _, rfl, rfl, SqT.of hp7, rfl, cs.take (p - 1), v7, c', rfl, by omega, hc', hv7, fun H' => q H'⟩
  · refine ⟨cs.take (p - 1), rfl, hz _ (by omega), fun c' hc' => (by rw [hb] at hc'; cases hc'), fun col hcol p7 H7 s7 hp7 => ?_⟩
    rw [hb] at hcol
    cases hcol
    refine ⟨_, rfl, p7, _, 0, _, rfl, rfl, SqT.of hp7, rfl, rfl, _, rfl, ?_⟩
    rw [kind_bad_read]
    refine iteF ?_
    refine ⟨_, rfl, _, rfl, fits2, fun p8 hp8 => ?_⟩
    exact eq_bad (Same.new hp8 _ _ hp7) upd_same rfl (q _)
abbrev s_law : Stmt := topS 78
abbrev N_law : List Str := ["_law_script", "_law_draws_here", "_law_cell_here", "_law_text_here", "_law_found"]
theorem sc_law : FnScope N_law ["_law_script"] (defScope s_law) := ⟨rfl, rfl, rfl, by decide +kernel, rfl, by decide +kernel, by decide +kernel⟩
def sp_law (K : PySem.W.Frag) : Sp := fun vs H Q _ => ∃ (a : Addr) (ns : List Int), vs = [.ref a] ∧ SqL K H a (ns.map V.int) ∧ ns.length ≤ 63 ∧ ∀ H', Q (.bl true) H'
theorem ok_law {fL : Addr} {fdL : FuncData} (G : Glob K mg) (F : Fun K "law" "law" s_law fL fdL) (C__law_draws : Cal P w K mg base CX0 1 "_law_draws" ["_law_script", "_law_many_here"] (sp_draws K)) (C__law_cell : Cal P w K mg base CX0 2 "_law_cell" ["_law_script", "_law_draws_here"] (sp_cell K))
    (C__law_text : Cal P w K mg base CX0 10 "_law_text" ["_law_draws_here", "_law_cell_here"] sp_text) (C__law_read : Cal P w K mg base CX0 38 "_law_read" ["_law_text_here"] sp_law_read) (C__law_good : Cal P w K mg base CX0 39 "_law_good" ["_law_text_here", "_law_found"] sp_good)
    (C__law_bad : Cal P w K mg base CX0 40 "_law_bad" ["_law_draws_here", "_law_text_here", "_law_place"] sp_bad) : FnOk P w K mg base CX0 41 fL fdL ["_law_script"] (sp_law K) := by
  refine F.ok sc_law (fun vs H Q E h => ?_) (fun cdv A outer s H vs Q E hr h => ?_)
  · obtain ⟨a, ns, rfl, _⟩ := h
    rfl
  obtain ⟨a, ns, rfl, ha, h63, q⟩ := h
  refine ⟨_, (pss_cons (ps_set (i := 1) sc_law.nd rfl (Or.inl rfl) (pe_cal C__law_draws (hr.mono (by decide)) pass0 (pa_cons (pv 0) (pa_cons pe_int pa_nil))))
    (pss_cons (ps_set (i := 2) sc_law.nd rfl (Or.inl rfl) (pe_cal C__law_cell (hr.mono (by decide)) pass0 (pa_cons (pv 0) (pa_cons (pv 1) pa_nil))))
    (pss_cons (ps_set (i := 3) sc_law.nd rfl (Or.inl rfl) (pe_cal C__law_text (hr.mono (by decide)) pass0 (pa_cons (pv 1) (pa_cons (pv 2) pa_nil))))
    (pss_cons (ps_set (i := 4) sc_law.nd rfl (Or.inl rfl) (pe_cal C__law_read (hr.mono (by decide)) pass0 (pa_cons (pv 3) pa_nil)))
    (pss_cons (ps_if (pt_cmpR op_eq (pe_ix ix_tup (pv 4) pe_int (fun _ _ => rfl)) pe_str (nomark _))
      (pss_one (ps_ret (pe_cal C__law_good (hr.mono (by decide)) pass0 (pa_cons (pv 3) (pa_cons (pe_ix ix_tup (pv 4) pe_int (fun _ _ => rfl)) pa_nil)))))
      pss_nil)
    (pss_one (ps_ret (pe_and (pe_cmpR op_eq (pe_ix ix_tup (pv 4) pe_int (fun _ _ => rfl)) pe_str (nomark _)) (pe_one (pe_cal C__law_bad (hr.mono (by decide)) pass0 (pa_cons (pv 1) (pa_cons (pv 3) (pa_cons (pe_ix ix_tup (pv 4) pe_int (fun _ _ => rfl)) pa_nil))))))))))))), ?_⟩
  have hz : ∀ k : Nat, k ≤ 50000 → k ≤ sizeLine := fun k hk => by rw [sizeLine_eq]; omega
  refine ⟨_, rfl, a, ns, rfl, ha, h63, fun d H1 s1 hd0 hdr => ?_⟩
  refine ⟨_, rfl, _, rfl, a, d, ns, rfl, hdr, fun H' s2 => SqL.past ha hd0 s1 s2, fun i H2 g2 => ?_⟩
  refine ⟨_, rfl, _, rfl, d, i, rfl, g2.2, fun cs H3 hl g3 => ?_⟩
  refine ⟨_, rfl, cs, rfl, hz _ (by omega), fun c hc v p H4 s4 hv hp => ?_, fun col hcol p H4 s4 hp => ?_⟩
  · refine ⟨_, rfl, p, _, 0, _, rfl, rfl, SqT.of hp, rfl, rfl, _, rfl, ?_⟩
    rw [decide_eq_true rfl]
    refine iteT ?_
    exact ⟨_, rfl, _, rfl, p, _, 1, _, rfl, rfl, SqT.of hp, rfl, cs, v, c, rfl, by omega, hc, hv, fun H' => q H'⟩
  · refine ⟨_, rfl, p, _, 0, _, rfl, rfl, SqT.of hp, rfl, rfl, _, rfl, ?_⟩
    rw [kind_bad_read]
    refine iteF ?_
    refine ⟨_, rfl, p, _, 0, _, rfl, rfl, SqT.of hp, rfl, rfl, _, rfl, ?_⟩
    rw [decide_eq_true rfl]
    refine iteT ?_
    exact ⟨_, rfl, _, rfl, _, rfl, p, _, 1, _, rfl, rfl, SqT.of hp, rfl, d, cs, col, rfl, g3.2.same s4, hl, hcol, fun H' => q H'⟩
end
end Wk
end PartGd3
section PartTop
set_option Elab.async false
set_option linter.all false
set_option maxRecDepth 100000
set_option maxHeartbeats 4000000
namespace Wk
open PySem PySem.Spec PyProof.Rows L2 L2H
section
variable {K : PySem.W.Frag} {h : Heap} {mg : Str → Option Value}
theorem d_is_word {f : Addr} {od an : Option Addr} {sl : Array (Option Value)} {oc kV dc pm cd ct : Value} (X : K.In h) (G : h.Ns mainGlobals mg) (a : PySem.W.nsIn K mainGlobals "is_word" = some (some (.ref f))) (l : K.lookup f = some ⟨oc, od, .func (PySem.W.fnOf "is_word" "is_word" (defArgs s_is_word) (defBody s_is_word) (defScope s_is_word) .none kV dc pm an cd ct), sl⟩) (c : PySem.W.codeIn K cd "is_word" = true) (k : PySem.W.keepIn K (.ref f) = true) : Df K mg "is_word" s_is_word ["text"] := by
  have F := fun_mk (st := s_is_word) l c k
  exact ⟨f, _, F, PySem.W.mg_of X G a, F.binds (ps := ["text"]) fun _ _ _ _ _ _ us hl => match us, hl with | [_], _ => rfl⟩
theorem d_need {f : Addr} {od an : Option Addr} {sl : Array (Option Value)} {oc kV dc pm cd ct : Value} (X : K.In h) (G : h.Ns mainGlobals mg) (a : PySem.W.nsIn K mainGlobals "need" = some (some (.ref f))) (l : K.lookup f = some ⟨oc, od, .func (PySem.W.fnOf "need" "need" (defArgs s_need2) (defBody s_need2) (defScope s_need2) .none kV dc pm an cd ct), sl⟩) (c : PySem.W.codeIn K cd "need" = true) (k : PySem.W.keepIn K (.ref f) = true) : Df K mg "need" s_need2 ["right", "why"] := by
  have F := fun_mk (st := s_need2) l c k
  exact ⟨f, _, F, PySem.W.mg_of X G a, F.binds (ps := ["right", "why"]) fun _ _ _ _ _ _ us hl => match us, hl with | [_, _], _ => rfl⟩
theorem d_check_term {f : Addr} {od an : Option Addr} {sl : Array (Option Value)} {oc kV dc pm cd ct : Value} (X : K.In h) (G : h.Ns mainGlobals mg) (a : PySem.W.nsIn K mainGlobals "check_term" = some (some (.ref f))) (l : K.lookup f = some ⟨oc, od, .func (PySem.W.fnOf "check_term" "check_term" (defArgs s_check_term) (defBody s_check_term) (defScope s_check_term) .none kV dc pm an cd ct), sl⟩) (c : PySem.W.codeIn K cd "check_term" = true) (k : PySem.W.keepIn K (.ref f) = true) : Df K mg "check_term" s_check_term ["term"] := by
  have F := fun_mk (st := s_check_term) l c k
  exact ⟨f, _, F, PySem.W.mg_of X G a, F.binds (ps := ["term"]) fun _ _ _ _ _ _ us hl => match us, hl with | [_], _ => rfl⟩
theorem d_check_target {f : Addr} {od an : Option Addr} {sl : Array (Option Value)} {oc kV dc pm cd ct : Value} (X : K.In h) (G : h.Ns mainGlobals mg) (a : PySem.W.nsIn K mainGlobals "check_target" = some (some (.ref f))) (l : K.lookup f = some ⟨oc, od, .func (PySem.W.fnOf "check_target" "check_target" (defArgs s_check_target) (defBody s_check_target) (defScope s_check_target) .none kV dc pm an cd ct), sl⟩) (c : PySem.W.codeIn K cd "check_target" = true) (k : PySem.W.keepIn K (.ref f) = true) : Df K mg "check_target" s_check_target ["target"] := by
  have F := fun_mk (st := s_check_target) l c k
  exact ⟨f, _, F, PySem.W.mg_of X G a, F.binds (ps := ["target"]) fun _ _ _ _ _ _ us hl => match us, hl with | [_], _ => rfl⟩
theorem d_check_template {f : Addr} {od an : Option Addr} {sl : Array (Option Value)} {oc kV dc pm cd ct : Value} (X : K.In h) (G : h.Ns mainGlobals mg) (a : PySem.W.nsIn K mainGlobals "check_template" = some (some (.ref f))) (l : K.lookup f = some ⟨oc, od, .func (PySem.W.fnOf "check_template" "check_template" (defArgs s_check_template) (defBody s_check_template) (defScope s_check_template) .none kV dc pm an cd ct), sl⟩) (c : PySem.W.codeIn K cd "check_template" = true) (k : PySem.W.keepIn K (.ref f) = true) : Df K mg "check_template" s_check_template ["template"] := by
  have F := fun_mk (st := s_check_template) l c k
  exact ⟨f, _, F, PySem.W.mg_of X G a, F.binds (ps := ["template"]) fun _ _ _ _ _ _ us hl => match us, hl with | [_], _ => rfl⟩
theorem d_check_simple {f : Addr} {od an : Option Addr} {sl : Array (Option Value)} {oc kV dc pm cd ct : Value} (X : K.In h) (G : h.Ns mainGlobals mg) (a : PySem.W.nsIn K mainGlobals "check_simple" = some (some (.ref f))) (l : K.lookup f = some ⟨oc, od, .func (PySem.W.fnOf "check_simple" "check_simple" (defArgs s_check_simple) (defBody s_check_simple) (defScope s_check_simple) .none kV dc pm an cd ct), sl⟩) (c : PySem.W.codeIn K cd "check_simple" = true) (k : PySem.W.keepIn K (.ref f) = true) : Df K mg "check_simple" s_check_simple ["condition"] := by
  have F := fun_mk (st := s_check_simple) l c k
  exact ⟨f, _, F, PySem.W.mg_of X G a, F.binds (ps := ["condition"]) fun _ _ _ _ _ _ us hl => match us, hl with | [_], _ => rfl⟩
theorem d_inner_conditions {f : Addr} {od an : Option Addr} {sl : Array (Option Value)} {oc kV dc pm cd ct : Value} (X : K.In h) (G : h.Ns mainGlobals mg) (a : PySem.W.nsIn K mainGlobals "inner_conditions" = some (some (.ref f))) (l : K.lookup f = some ⟨oc, od, .func (PySem.W.fnOf "inner_conditions" "inner_conditions" (defArgs s_inner_conditions) (defBody s_inner_conditions) (defScope s_inner_conditions) .none kV dc pm an cd ct), sl⟩) (c : PySem.W.codeIn K cd "inner_conditions" = true) (k : PySem.W.keepIn K (.ref f) = true) : Df K mg "inner_conditions" s_inner_conditions ["condition"] := by
  have F := fun_mk (st := s_inner_conditions) l c k
  exact ⟨f, _, F, PySem.W.mg_of X G a, F.binds (ps := ["condition"]) fun _ _ _ _ _ _ us hl => match us, hl with | [_], _ => rfl⟩
theorem d_check_at {f : Addr} {od an : Option Addr} {sl : Array (Option Value)} {oc kV dc pm cd ct : Value} (X : K.In h) (G : h.Ns mainGlobals mg) (a : PySem.W.nsIn K mainGlobals "check_at" = some (some (.ref f))) (l : K.lookup f = some ⟨oc, od, .func (PySem.W.fnOf "check_at" "check_at" (defArgs s_check_at) (defBody s_check_at) (defScope s_check_at) .none kV dc pm an cd ct), sl⟩) (c : PySem.W.codeIn K cd "check_at" = true) (k : PySem.W.keepIn K (.ref f) = true) : Df K mg "check_at" s_check_at ["condition", "depth"] := by
  have F := fun_mk (st := s_check_at) l c k
  exact ⟨f, _, F, PySem.W.mg_of X G a, F.binds (ps := ["condition", "depth"]) fun _ _ _ _ _ _ us hl => match us, hl with | [_, _], _ => rfl⟩
theorem d_check_condition {f : Addr} {od an : Option Addr} {sl : Array (Option Value)} {oc kV dc pm cd ct : Value} (X : K.In h) (G : h.Ns mainGlobals mg) (a : PySem.W.nsIn K mainGlobals "check_condition" = some (some (.ref f))) (l : K.lookup f = some ⟨oc, od, .func (PySem.W.fnOf "check_condition" "check_condition" (defArgs s_check_condition) (defBody s_check_condition) (defScope s_check_condition) .none kV dc pm an cd ct), sl⟩) (c : PySem.W.codeIn K cd "check_condition" = true) (k : PySem.W.keepIn K (.ref f) = true) : Df K mg "check_condition" s_check_condition ["condition"] := by
  have F := fun_mk (st := s_check_condition) l c k
  exact ⟨f, _, F, PySem.W.mg_of X G a, F.binds (ps := ["condition"]) fun _ _ _ _ _ _ us hl => match us, hl with | [_], _ => rfl⟩
theorem d_run_end {f : Addr} {od an : Option Addr} {sl : Array (Option Value)} {oc kV dc pm cd ct : Value} (X : K.In h) (G : h.Ns mainGlobals mg) (a : PySem.W.nsIn K mainGlobals "run_end" = some (some (.ref f))) (l : K.lookup f = some ⟨oc, od, .func (PySem.W.fnOf "run_end" "run_end" (defArgs s_run_end) (defBody s_run_end) (defScope s_run_end) .none kV dc pm an cd ct), sl⟩) (c : PySem.W.codeIn K cd "run_end" = true) (k : PySem.W.keepIn K (.ref f) = true) : Df K mg "run_end" s_run_end ["text", "start", "allowed"] := by
  have F := fun_mk (st := s_run_end) l c k
  exact ⟨f, _, F, PySem.W.mg_of X G a, F.binds (ps := ["text", "start", "allowed"]) fun _ _ _ _ _ _ us hl => match us, hl with | [_, _, _], _ => rfl⟩
theorem d_token_at {f : Addr} {od an : Option Addr} {sl : Array (Option Value)} {oc kV dc pm cd ct : Value} (X : K.In h) (G : h.Ns mainGlobals mg) (a : PySem.W.nsIn K mainGlobals "token_at" = some (some (.ref f))) (l : K.lookup f = some ⟨oc, od, .func (PySem.W.fnOf "token_at" "token_at" (defArgs s_token_at) (defBody s_token_at) (defScope s_token_at) .none kV dc pm an cd ct), sl⟩) (c : PySem.W.codeIn K cd "token_at" = true) (k : PySem.W.keepIn K (.ref f) = true) : Df K mg "token_at" s_token_at ["text", "start"] := by
  have F := fun_mk (st := s_token_at) l c k
  exact ⟨f, _, F, PySem.W.mg_of X G a, F.binds (ps := ["text", "start"]) fun _ _ _ _ _ _ us hl => match us, hl with | [_, _], _ => rfl⟩
theorem d_tokens_of {f : Addr} {od an : Option Addr} {sl : Array (Option Value)} {oc kV dc pm cd ct : Value} (X : K.In h) (G : h.Ns mainGlobals mg) (a : PySem.W.nsIn K mainGlobals "tokens_of" = some (some (.ref f))) (l : K.lookup f = some ⟨oc, od, .func (PySem.W.fnOf "tokens_of" "tokens_of" (defArgs s_tokens_of) (defBody s_tokens_of) (defScope s_tokens_of) .none kV dc pm an cd ct), sl⟩) (c : PySem.W.codeIn K cd "tokens_of" = true) (k : PySem.W.keepIn K (.ref f) = true) : Df K mg "tokens_of" s_tokens_of ["text"] := by
  have F := fun_mk (st := s_tokens_of) l c k
  exact ⟨f, _, F, PySem.W.mg_of X G a, F.binds (ps := ["text"]) fun _ _ _ _ _ _ us hl => match us, hl with | [_], _ => rfl⟩
theorem d_read_field_term {f : Addr} {od an : Option Addr} {sl : Array (Option Value)} {oc kV dc pm cd ct : Value} (X : K.In h) (G : h.Ns mainGlobals mg) (a : PySem.W.nsIn K mainGlobals "read_field_term" = some (some (.ref f))) (l : K.lookup f = some ⟨oc, od, .func (PySem.W.fnOf "read_field_term" "read_field_term" (defArgs s_read_field_term) (defBody s_read_field_term) (defScope s_read_field_term) .none kV dc pm an cd ct), sl⟩) (c : PySem.W.codeIn K cd "read_field_term" = true) (k : PySem.W.keepIn K (.ref f) = true) : Df K mg "read_field_term" s_read_field_term ["reader"] := by
  have F := fun_mk (st := s_read_field_term) l c k
  exact ⟨f, _, F, PySem.W.mg_of X G a, F.binds (ps := ["reader"]) fun _ _ _ _ _ _ us hl => match us, hl with | [_], _ => rfl⟩
theorem d_read_term {f : Addr} {od an : Option Addr} {sl : Array (Option Value)} {oc kV dc pm cd ct : Value} (X : K.In h) (G : h.Ns mainGlobals mg) (a : PySem.W.nsIn K mainGlobals "read_term" = some (some (.ref f))) (l : K.lookup f = some ⟨oc, od, .func (PySem.W.fnOf "read_term" "read_term" (defArgs s_read_term) (defBody s_read_term) (defScope s_read_term) .none kV dc pm an cd ct), sl⟩) (c : PySem.W.codeIn K cd "read_term" = true) (k : PySem.W.keepIn K (.ref f) = true) : Df K mg "read_term" s_read_term ["reader"] := by
  have F := fun_mk (st := s_read_term) l c k
  exact ⟨f, _, F, PySem.W.mg_of X G a, F.binds (ps := ["reader"]) fun _ _ _ _ _ _ us hl => match us, hl with | [_], _ => rfl⟩
theorem d_read_template_term {f : Addr} {od an : Option Addr} {sl : Array (Option Value)} {oc kV dc pm cd ct : Value} (X : K.In h) (G : h.Ns mainGlobals mg) (a : PySem.W.nsIn K mainGlobals "read_template_term" = some (some (.ref f))) (l : K.lookup f = some ⟨oc, od, .func (PySem.W.fnOf "read_template_term" "read_template_term" (defArgs s_read_template_term) (defBody s_read_template_term) (defScope s_read_template_term) .none kV dc pm an cd ct), sl⟩) (c : PySem.W.codeIn K cd "read_template_term" = true) (k : PySem.W.keepIn K (.ref f) = true) : Df K mg "read_template_term" s_read_template_term ["reader"] := by
  have F := fun_mk (st := s_read_template_term) l c k
  exact ⟨f, _, F, PySem.W.mg_of X G a, F.binds (ps := ["reader"]) fun _ _ _ _ _ _ us hl => match us, hl with | [_], _ => rfl⟩
theorem d_read_template {f : Addr} {od an : Option Addr} {sl : Array (Option Value)} {oc kV dc pm cd ct : Value} (X : K.In h) (G : h.Ns mainGlobals mg) (a : PySem.W.nsIn K mainGlobals "read_template" = some (some (.ref f))) (l : K.lookup f = some ⟨oc, od, .func (PySem.W.fnOf "read_template" "read_template" (defArgs s_read_template) (defBody s_read_template) (defScope s_read_template) .none kV dc pm an cd ct), sl⟩) (c : PySem.W.codeIn K cd "read_template" = true) (k : PySem.W.keepIn K (.ref f) = true) : Df K mg "read_template" s_read_template ["reader"] := by
  have F := fun_mk (st := s_read_template) l c k
  exact ⟨f, _, F, PySem.W.mg_of X G a, F.binds (ps := ["reader"]) fun _ _ _ _ _ _ us hl => match us, hl with | [_], _ => rfl⟩
theorem d_read_name_after {f : Addr} {od an : Option Addr} {sl : Array (Option Value)} {oc kV dc pm cd ct : Value} (X : K.In h) (G : h.Ns mainGlobals mg) (a : PySem.W.nsIn K mainGlobals "read_name_after" = some (some (.ref f))) (l : K.lookup f = some ⟨oc, od, .func (PySem.W.fnOf "read_name_after" "read_name_after" (defArgs s_read_name_after) (defBody s_read_name_after) (defScope s_read_name_after) .none kV dc pm an cd ct), sl⟩) (c : PySem.W.codeIn K cd "read_name_after" = true) (k : PySem.W.keepIn K (.ref f) = true) : Df K mg "read_name_after" s_read_name_after ["reader", "before"] := by
  have F := fun_mk (st := s_read_name_after) l c k
  exact ⟨f, _, F, PySem.W.mg_of X G a, F.binds (ps := ["reader", "before"]) fun _ _ _ _ _ _ us hl => match us, hl with | [_, _], _ => rfl⟩
theorem d_read_target {f : Addr} {od an : Option Addr} {sl : Array (Option Value)} {oc kV dc pm cd ct : Value} (X : K.In h) (G : h.Ns mainGlobals mg) (a : PySem.W.nsIn K mainGlobals "read_target" = some (some (.ref f))) (l : K.lookup f = some ⟨oc, od, .func (PySem.W.fnOf "read_target" "read_target" (defArgs s_read_target) (defBody s_read_target) (defScope s_read_target) .none kV dc pm an cd ct), sl⟩) (c : PySem.W.codeIn K cd "read_target" = true) (k : PySem.W.keepIn K (.ref f) = true) : Df K mg "read_target" s_read_target ["reader"] := by
  have F := fun_mk (st := s_read_target) l c k
  exact ⟨f, _, F, PySem.W.mg_of X G a, F.binds (ps := ["reader"]) fun _ _ _ _ _ _ us hl => match us, hl with | [_], _ => rfl⟩
theorem d_read_number_field {f : Addr} {od an : Option Addr} {sl : Array (Option Value)} {oc kV dc pm cd ct : Value} (X : K.In h) (G : h.Ns mainGlobals mg) (a : PySem.W.nsIn K mainGlobals "read_number_field" = some (some (.ref f))) (l : K.lookup f = some ⟨oc, od, .func (PySem.W.fnOf "read_number_field" "read_number_field" (defArgs s_read_number_field) (defBody s_read_number_field) (defScope s_read_number_field) .none kV dc pm an cd ct), sl⟩) (c : PySem.W.codeIn K cd "read_number_field" = true) (k : PySem.W.keepIn K (.ref f) = true) : Df K mg "read_number_field" s_read_number_field ["reader"] := by
  have F := fun_mk (st := s_read_number_field) l c k
  exact ⟨f, _, F, PySem.W.mg_of X G a, F.binds (ps := ["reader"]) fun _ _ _ _ _ _ us hl => match us, hl with | [_], _ => rfl⟩
theorem d_read_most {f : Addr} {od an : Option Addr} {sl : Array (Option Value)} {oc kV dc pm cd ct : Value} (X : K.In h) (G : h.Ns mainGlobals mg) (a : PySem.W.nsIn K mainGlobals "read_most" = some (some (.ref f))) (l : K.lookup f = some ⟨oc, od, .func (PySem.W.fnOf "read_most" "read_most" (defArgs s_read_most) (defBody s_read_most) (defScope s_read_most) .none kV dc pm an cd ct), sl⟩) (c : PySem.W.codeIn K cd "read_most" = true) (k : PySem.W.keepIn K (.ref f) = true) : Df K mg "read_most" s_read_most ["reader"] := by
  have F := fun_mk (st := s_read_most) l c k
  exact ⟨f, _, F, PySem.W.mg_of X G a, F.binds (ps := ["reader"]) fun _ _ _ _ _ _ us hl => match us, hl with | [_], _ => rfl⟩
theorem d_read_simple {f : Addr} {od an : Option Addr} {sl : Array (Option Value)} {oc kV dc pm cd ct : Value} (X : K.In h) (G : h.Ns mainGlobals mg) (a : PySem.W.nsIn K mainGlobals "read_simple" = some (some (.ref f))) (l : K.lookup f = some ⟨oc, od, .func (PySem.W.fnOf "read_simple" "read_simple" (defArgs s_read_simple) (defBody s_read_simple) (defScope s_read_simple) .none kV dc pm an cd ct), sl⟩) (c : PySem.W.codeIn K cd "read_simple" = true) (k : PySem.W.keepIn K (.ref f) = true) : Df K mg "read_simple" s_read_simple ["reader", "head"] := by
  have F := fun_mk (st := s_read_simple) l c k
  exact ⟨f, _, F, PySem.W.mg_of X G a, F.binds (ps := ["reader", "head"]) fun _ _ _ _ _ _ us hl => match us, hl with | [_, _], _ => rfl⟩
theorem d_read_parts {f : Addr} {od an : Option Addr} {sl : Array (Option Value)} {oc kV dc pm cd ct : Value} (X : K.In h) (G : h.Ns mainGlobals mg) (a : PySem.W.nsIn K mainGlobals "read_parts" = some (some (.ref f))) (l : K.lookup f = some ⟨oc, od, .func (PySem.W.fnOf "read_parts" "read_parts" (defArgs s_read_parts) (defBody s_read_parts) (defScope s_read_parts) .none kV dc pm an cd ct), sl⟩) (c : PySem.W.codeIn K cd "read_parts" = true) (k : PySem.W.keepIn K (.ref f) = true) : Df K mg "read_parts" s_read_parts ["reader", "depth"] := by
  have F := fun_mk (st := s_read_parts) l c k
  exact ⟨f, _, F, PySem.W.mg_of X G a, F.binds (ps := ["reader", "depth"]) fun _ _ _ _ _ _ us hl => match us, hl with | [_, _], _ => rfl⟩
theorem d_read_at {f : Addr} {od an : Option Addr} {sl : Array (Option Value)} {oc kV dc pm cd ct : Value} (X : K.In h) (G : h.Ns mainGlobals mg) (a : PySem.W.nsIn K mainGlobals "read_at" = some (some (.ref f))) (l : K.lookup f = some ⟨oc, od, .func (PySem.W.fnOf "read_at" "read_at" (defArgs s_read_at) (defBody s_read_at) (defScope s_read_at) .none kV dc pm an cd ct), sl⟩) (c : PySem.W.codeIn K cd "read_at" = true) (k : PySem.W.keepIn K (.ref f) = true) : Df K mg "read_at" s_read_at ["reader", "depth"] := by
  have F := fun_mk (st := s_read_at) l c k
  exact ⟨f, _, F, PySem.W.mg_of X G a, F.binds (ps := ["reader", "depth"]) fun _ _ _ _ _ _ us hl => match us, hl with | [_, _], _ => rfl⟩
theorem d_read_condition {f : Addr} {od an : Option Addr} {sl : Array (Option Value)} {oc kV dc pm cd ct : Value} (X : K.In h) (G : h.Ns mainGlobals mg) (a : PySem.W.nsIn K mainGlobals "read_condition" = some (some (.ref f))) (l : K.lookup f = some ⟨oc, od, .func (PySem.W.fnOf "read_condition" "read_condition" (defArgs s_read_condition) (defBody s_read_condition) (defScope s_read_condition) .none kV dc pm an cd ct), sl⟩) (c : PySem.W.codeIn K cd "read_condition" = true) (k : PySem.W.keepIn K (.ref f) = true) : Df K mg "read_condition" s_read_condition ["text"] := by
  have F := fun_mk (st := s_read_condition) l c k
  exact ⟨f, _, F, PySem.W.mg_of X G a, F.binds (ps := ["text"]) fun _ _ _ _ _ _ us hl => match us, hl with | [_], _ => rfl⟩
theorem d_write_term {f : Addr} {od an : Option Addr} {sl : Array (Option Value)} {oc kV dc pm cd ct : Value} (X : K.In h) (G : h.Ns mainGlobals mg) (a : PySem.W.nsIn K mainGlobals "write_term" = some (some (.ref f))) (l : K.lookup f = some ⟨oc, od, .func (PySem.W.fnOf "write_term" "write_term" (defArgs s_write_term) (defBody s_write_term) (defScope s_write_term) .none kV dc pm an cd ct), sl⟩) (c : PySem.W.codeIn K cd "write_term" = true) (k : PySem.W.keepIn K (.ref f) = true) : Df K mg "write_term" s_write_term ["term"] := by
  have F := fun_mk (st := s_write_term) l c k
  exact ⟨f, _, F, PySem.W.mg_of X G a, F.binds (ps := ["term"]) fun _ _ _ _ _ _ us hl => match us, hl with | [_], _ => rfl⟩
theorem d_write_target {f : Addr} {od an : Option Addr} {sl : Array (Option Value)} {oc kV dc pm cd ct : Value} (X : K.In h) (G : h.Ns mainGlobals mg) (a : PySem.W.nsIn K mainGlobals "write_target" = some (some (.ref f))) (l : K.lookup f = some ⟨oc, od, .func (PySem.W.fnOf "write_target" "write_target" (defArgs s_write_target) (defBody s_write_target) (defScope s_write_target) .none kV dc pm an cd ct), sl⟩) (c : PySem.W.codeIn K cd "write_target" = true) (k : PySem.W.keepIn K (.ref f) = true) : Df K mg "write_target" s_write_target ["target"] := by
  have F := fun_mk (st := s_write_target) l c k
  exact ⟨f, _, F, PySem.W.mg_of X G a, F.binds (ps := ["target"]) fun _ _ _ _ _ _ us hl => match us, hl with | [_], _ => rfl⟩
theorem d_write_template {f : Addr} {od an : Option Addr} {sl : Array (Option Value)} {oc kV dc pm cd ct : Value} (X : K.In h) (G : h.Ns mainGlobals mg) (a : PySem.W.nsIn K mainGlobals "write_template" = some (some (.ref f))) (l : K.lookup f = some ⟨oc, od, .func (PySem.W.fnOf "write_template" "write_template" (defArgs s_write_template) (defBody s_write_template) (defScope s_write_template) .none kV dc pm an cd ct), sl⟩) (c : PySem.W.codeIn K cd "write_template" = true) (k : PySem.W.keepIn K (.ref f) = true) : Df K mg "write_template" s_write_template ["template"] := by
  have F := fun_mk (st := s_write_template) l c k
  exact ⟨f, _, F, PySem.W.mg_of X G a, F.binds (ps := ["template"]) fun _ _ _ _ _ _ us hl => match us, hl with | [_], _ => rfl⟩
theorem d_write_number_field {f : Addr} {od an : Option Addr} {sl : Array (Option Value)} {oc kV dc pm cd ct : Value} (X : K.In h) (G : h.Ns mainGlobals mg) (a : PySem.W.nsIn K mainGlobals "write_number_field" = some (some (.ref f))) (l : K.lookup f = some ⟨oc, od, .func (PySem.W.fnOf "write_number_field" "write_number_field" (defArgs s_write_number_field) (defBody s_write_number_field) (defScope s_write_number_field) .none kV dc pm an cd ct), sl⟩) (c : PySem.W.codeIn K cd "write_number_field" = true) (k : PySem.W.keepIn K (.ref f) = true) : Df K mg "write_number_field" s_write_number_field ["field"] := by
  have F := fun_mk (st := s_write_number_field) l c k
  exact ⟨f, _, F, PySem.W.mg_of X G a, F.binds (ps := ["field"]) fun _ _ _ _ _ _ us hl => match us, hl with | [_], _ => rfl⟩
theorem d_simple_items {f : Addr} {od an : Option Addr} {sl : Array (Option Value)} {oc kV dc pm cd ct : Value} (X : K.In h) (G : h.Ns mainGlobals mg) (a : PySem.W.nsIn K mainGlobals "simple_items" = some (some (.ref f))) (l : K.lookup f = some ⟨oc, od, .func (PySem.W.fnOf "simple_items" "simple_items" (defArgs s_simple_items) (defBody s_simple_items) (defScope s_simple_items) .none kV dc pm an cd ct), sl⟩) (c : PySem.W.codeIn K cd "simple_items" = true) (k : PySem.W.keepIn K (.ref f) = true) : Df K mg "simple_items" s_simple_items ["condition"] := by
  have F := fun_mk (st := s_simple_items) l c k
  exact ⟨f, _, F, PySem.W.mg_of X G a, F.binds (ps := ["condition"]) fun _ _ _ _ _ _ us hl => match us, hl with | [_], _ => rfl⟩
theorem d_write_condition {f : Addr} {od an : Option Addr} {sl : Array (Option Value)} {oc kV dc pm cd ct : Value} (X : K.In h) (G : h.Ns mainGlobals mg) (a : PySem.W.nsIn K mainGlobals "write_condition" = some (some (.ref f))) (l : K.lookup f = some ⟨oc, od, .func (PySem.W.fnOf "write_condition" "write_condition" (defArgs s_write_condition) (defBody s_write_condition) (defScope s_write_condition) .none kV dc pm an cd ct), sl⟩) (c : PySem.W.codeIn K cd "write_condition" = true) (k : PySem.W.keepIn K (.ref f) = true) : Df K mg "write_condition" s_write_condition ["condition"] := by
  have F := fun_mk (st := s_write_condition) l c k
  exact ⟨f, _, F, PySem.W.mg_of X G a, F.binds (ps := ["condition"]) fun _ _ _ _ _ _ us hl => match us, hl with | [_], _ => rfl⟩
theorem d__law_draws {f : Addr} {od an : Option Addr} {sl : Array (Option Value)} {oc kV dc pm cd ct : Value} (X : K.In h) (G : h.Ns mainGlobals mg) (a : PySem.W.nsIn K mainGlobals "_law_draws" = some (some (.ref f))) (l : K.lookup f = some ⟨oc, od, .func (PySem.W.fnOf "_law_draws" "_law_draws" (defArgs s__law_draws) (defBody s__law_draws) (defScope s__law_draws) .none kV dc pm an cd ct), sl⟩) (c : PySem.W.codeIn K cd "_law_draws" = true) (k : PySem.W.keepIn K (.ref f) = true) : Df K mg "_law_draws" s__law_draws ["_law_script", "_law_many_here"] := by
  have F := fun_mk (st := s__law_draws) l c k
  exact ⟨f, _, F, PySem.W.mg_of X G a, F.binds (ps := ["_law_script", "_law_many_here"]) fun _ _ _ _ _ _ us hl => match us, hl with | [_, _], _ => rfl⟩
theorem d__law_take {f : Addr} {od an : Option Addr} {sl : Array (Option Value)} {oc kV dc pm cd ct : Value} (X : K.In h) (G : h.Ns mainGlobals mg) (a : PySem.W.nsIn K mainGlobals "_law_take" = some (some (.ref f))) (l : K.lookup f = some ⟨oc, od, .func (PySem.W.fnOf "_law_take" "_law_take" (defArgs s__law_take) (defBody s__law_take) (defScope s__law_take) .none kV dc pm an cd ct), sl⟩) (c : PySem.W.codeIn K cd "_law_take" = true) (k : PySem.W.keepIn K (.ref f) = true) : Df K mg "_law_take" s__law_take ["_law_draws_here", "_law_many_here"] := by
  have F := fun_mk (st := s__law_take) l c k
  exact ⟨f, _, F, PySem.W.mg_of X G a, F.binds (ps := ["_law_draws_here", "_law_many_here"]) fun _ _ _ _ _ _ us hl => match us, hl with | [_, _], _ => rfl⟩
theorem d__law_cell {f : Addr} {od an : Option Addr} {sl : Array (Option Value)} {oc kV dc pm cd ct : Value} (X : K.In h) (G : h.Ns mainGlobals mg) (a : PySem.W.nsIn K mainGlobals "_law_cell" = some (some (.ref f))) (l : K.lookup f = some ⟨oc, od, .func (PySem.W.fnOf "_law_cell" "_law_cell" (defArgs s__law_cell) (defBody s__law_cell) (defScope s__law_cell) .none kV dc pm an cd ct), sl⟩) (c : PySem.W.codeIn K cd "_law_cell" = true) (k : PySem.W.keepIn K (.ref f) = true) : Df K mg "_law_cell" s__law_cell ["_law_script", "_law_draws_here"] := by
  have F := fun_mk (st := s__law_cell) l c k
  exact ⟨f, _, F, PySem.W.mg_of X G a, F.binds (ps := ["_law_script", "_law_draws_here"]) fun _ _ _ _ _ _ us hl => match us, hl with | [_, _], _ => rfl⟩
theorem d__law_word {f : Addr} {od an : Option Addr} {sl : Array (Option Value)} {oc kV dc pm cd ct : Value} (X : K.In h) (G : h.Ns mainGlobals mg) (a : PySem.W.nsIn K mainGlobals "_law_word" = some (some (.ref f))) (l : K.lookup f = some ⟨oc, od, .func (PySem.W.fnOf "_law_word" "_law_word" (defArgs s__law_word) (defBody s__law_word) (defScope s__law_word) .none kV dc pm an cd ct), sl⟩) (c : PySem.W.codeIn K cd "_law_word" = true) (k : PySem.W.keepIn K (.ref f) = true) : Df K mg "_law_word" s__law_word ["_law_number"] := by
  have F := fun_mk (st := s__law_word) l c k
  exact ⟨f, _, F, PySem.W.mg_of X G a, F.binds (ps := ["_law_number"]) fun _ _ _ _ _ _ us hl => match us, hl with | [_], _ => rfl⟩
theorem d__law_some_word {f : Addr} {od an : Option Addr} {sl : Array (Option Value)} {oc kV dc pm cd ct : Value} (X : K.In h) (G : h.Ns mainGlobals mg) (a : PySem.W.nsIn K mainGlobals "_law_some_word" = some (some (.ref f))) (l : K.lookup f = some ⟨oc, od, .func (PySem.W.fnOf "_law_some_word" "_law_some_word" (defArgs s__law_some_word) (defBody s__law_some_word) (defScope s__law_some_word) .none kV dc pm an cd ct), sl⟩) (c : PySem.W.codeIn K cd "_law_some_word" = true) (k : PySem.W.keepIn K (.ref f) = true) : Df K mg "_law_some_word" s__law_some_word ["_law_draws_here"] := by
  have F := fun_mk (st := s__law_some_word) l c k
  exact ⟨f, _, F, PySem.W.mg_of X G a, F.binds (ps := ["_law_draws_here"]) fun _ _ _ _ _ _ us hl => match us, hl with | [_], _ => rfl⟩
theorem d__law_is_integer {f : Addr} {od an : Option Addr} {sl : Array (Option Value)} {oc kV dc pm cd ct : Value} (X : K.In h) (G : h.Ns mainGlobals mg) (a : PySem.W.nsIn K mainGlobals "_law_is_integer" = some (some (.ref f))) (l : K.lookup f = some ⟨oc, od, .func (PySem.W.fnOf "_law_is_integer" "_law_is_integer" (defArgs s__law_is_integer) (defBody s__law_is_integer) (defScope s__law_is_integer) .none kV dc pm an cd ct), sl⟩) (c : PySem.W.codeIn K cd "_law_is_integer" = true) (k : PySem.W.keepIn K (.ref f) = true) : Df K mg "_law_is_integer" s__law_is_integer ["_law_value"] := by
  have F := fun_mk (st := s__law_is_integer) l c k
  exact ⟨f, _, F, PySem.W.mg_of X G a, F.binds (ps := ["_law_value"]) fun _ _ _ _ _ _ us hl => match us, hl with | [_], _ => rfl⟩
theorem d__law_same {f : Addr} {od an : Option Addr} {sl : Array (Option Value)} {oc kV dc pm cd ct : Value} (X : K.In h) (G : h.Ns mainGlobals mg) (a : PySem.W.nsIn K mainGlobals "_law_same" = some (some (.ref f))) (l : K.lookup f = some ⟨oc, od, .func (PySem.W.fnOf "_law_same" "_law_same" (defArgs s__law_same) (defBody s__law_same) (defScope s__law_same) .none kV dc pm an cd ct), sl⟩) (c : PySem.W.codeIn K cd "_law_same" = true) (k : PySem.W.keepIn K (.ref f) = true) : Df K mg "_law_same" s__law_same ["_law_actual", "_law_due"] := by
  have F := fun_mk (st := s__law_same) l c k
  exact ⟨f, _, F, PySem.W.mg_of X G a, F.binds (ps := ["_law_actual", "_law_due"]) fun _ _ _ _ _ _ us hl => match us, hl with | [_, _], _ => rfl⟩
theorem d__law_char {f : Addr} {od an : Option Addr} {sl : Array (Option Value)} {oc kV dc pm cd ct : Value} (X : K.In h) (G : h.Ns mainGlobals mg) (a : PySem.W.nsIn K mainGlobals "_law_char" = some (some (.ref f))) (l : K.lookup f = some ⟨oc, od, .func (PySem.W.fnOf "_law_char" "_law_char" (defArgs s__law_char) (defBody s__law_char) (defScope s__law_char) .none kV dc pm an cd ct), sl⟩) (c : PySem.W.codeIn K cd "_law_char" = true) (k : PySem.W.keepIn K (.ref f) = true) : Df K mg "_law_char" s__law_char ["_law_number"] := by
  have F := fun_mk (st := s__law_char) l c k
  exact ⟨f, _, F, PySem.W.mg_of X G a, F.binds (ps := ["_law_number"]) fun _ _ _ _ _ _ us hl => match us, hl with | [_], _ => rfl⟩
theorem d__law_text_word {f : Addr} {od an : Option Addr} {sl : Array (Option Value)} {oc kV dc pm cd ct : Value} (X : K.In h) (G : h.Ns mainGlobals mg) (a : PySem.W.nsIn K mainGlobals "_law_text_word" = some (some (.ref f))) (l : K.lookup f = some ⟨oc, od, .func (PySem.W.fnOf "_law_text_word" "_law_text_word" (defArgs s__law_text_word) (defBody s__law_text_word) (defScope s__law_text_word) .none kV dc pm an cd ct), sl⟩) (c : PySem.W.codeIn K cd "_law_text_word" = true) (k : PySem.W.keepIn K (.ref f) = true) : Df K mg "_law_text_word" s__law_text_word ["_law_draws_here"] := by
  have F := fun_mk (st := s__law_text_word) l c k
  exact ⟨f, _, F, PySem.W.mg_of X G a, F.binds (ps := ["_law_draws_here"]) fun _ _ _ _ _ _ us hl => match us, hl with | [_], _ => rfl⟩
theorem d__law_term {f : Addr} {od an : Option Addr} {sl : Array (Option Value)} {oc kV dc pm cd ct : Value} (X : K.In h) (G : h.Ns mainGlobals mg) (a : PySem.W.nsIn K mainGlobals "_law_term" = some (some (.ref f))) (l : K.lookup f = some ⟨oc, od, .func (PySem.W.fnOf "_law_term" "_law_term" (defArgs s__law_term) (defBody s__law_term) (defScope s__law_term) .none kV dc pm an cd ct), sl⟩) (c : PySem.W.codeIn K cd "_law_term" = true) (k : PySem.W.keepIn K (.ref f) = true) : Df K mg "_law_term" s__law_term ["_law_draws_here", "_law_names"] := by
  have F := fun_mk (st := s__law_term) l c k
  exact ⟨f, _, F, PySem.W.mg_of X G a, F.binds (ps := ["_law_draws_here", "_law_names"]) fun _ _ _ _ _ _ us hl => match us, hl with | [_, _], _ => rfl⟩
theorem d__law_bound {f : Addr} {od an : Option Addr} {sl : Array (Option Value)} {oc kV dc pm cd ct : Value} (X : K.In h) (G : h.Ns mainGlobals mg) (a : PySem.W.nsIn K mainGlobals "_law_bound" = some (some (.ref f))) (l : K.lookup f = some ⟨oc, od, .func (PySem.W.fnOf "_law_bound" "_law_bound" (defArgs s__law_bound) (defBody s__law_bound) (defScope s__law_bound) .none kV dc pm an cd ct), sl⟩) (c : PySem.W.codeIn K cd "_law_bound" = true) (k : PySem.W.keepIn K (.ref f) = true) : Df K mg "_law_bound" s__law_bound ["_law_draws_here", "_law_great"] := by
  have F := fun_mk (st := s__law_bound) l c k
  exact ⟨f, _, F, PySem.W.mg_of X G a, F.binds (ps := ["_law_draws_here", "_law_great"]) fun _ _ _ _ _ _ us hl => match us, hl with | [_, _], _ => rfl⟩
theorem d__law_simple {f : Addr} {od an : Option Addr} {sl : Array (Option Value)} {oc kV dc pm cd ct : Value} (X : K.In h) (G : h.Ns mainGlobals mg) (a : PySem.W.nsIn K mainGlobals "_law_simple" = some (some (.ref f))) (l : K.lookup f = some ⟨oc, od, .func (PySem.W.fnOf "_law_simple" "_law_simple" (defArgs s__law_simple) (defBody s__law_simple) (defScope s__law_simple) .none kV dc pm an cd ct), sl⟩) (c : PySem.W.codeIn K cd "_law_simple" = true) (k : PySem.W.keepIn K (.ref f) = true) : Df K mg "_law_simple" s__law_simple ["_law_draws_here", "_law_great"] := by
  have F := fun_mk (st := s__law_simple) l c k
  exact ⟨f, _, F, PySem.W.mg_of X G a, F.binds (ps := ["_law_draws_here", "_law_great"]) fun _ _ _ _ _ _ us hl => match us, hl with | [_, _], _ => rfl⟩
theorem d__law_condition {f : Addr} {od an : Option Addr} {sl : Array (Option Value)} {oc kV dc pm cd ct : Value} (X : K.In h) (G : h.Ns mainGlobals mg) (a : PySem.W.nsIn K mainGlobals "_law_condition" = some (some (.ref f))) (l : K.lookup f = some ⟨oc, od, .func (PySem.W.fnOf "_law_condition" "_law_condition" (defArgs s__law_condition) (defBody s__law_condition) (defScope s__law_condition) .none kV dc pm an cd ct), sl⟩) (c : PySem.W.codeIn K cd "_law_condition" = true) (k : PySem.W.keepIn K (.ref f) = true) : Df K mg "_law_condition" s__law_condition ["_law_draws_here", "_law_great", "_law_depth"] := by
  have F := fun_mk (st := s__law_condition) l c k
  exact ⟨f, _, F, PySem.W.mg_of X G a, F.binds (ps := ["_law_draws_here", "_law_great", "_law_depth"]) fun _ _ _ _ _ _ us hl => match us, hl with | [_, _, _], _ => rfl⟩
theorem d__law_many {f : Addr} {od an : Option Addr} {sl : Array (Option Value)} {oc kV dc pm cd ct : Value} (X : K.In h) (G : h.Ns mainGlobals mg) (a : PySem.W.nsIn K mainGlobals "_law_many" = some (some (.ref f))) (l : K.lookup f = some ⟨oc, od, .func (PySem.W.fnOf "_law_many" "_law_many" (defArgs s__law_many) (defBody s__law_many) (defScope s__law_many) .none kV dc pm an cd ct), sl⟩) (c : PySem.W.codeIn K cd "_law_many" = true) (k : PySem.W.keepIn K (.ref f) = true) : Df K mg "_law_many" s__law_many ["_law_draws_here", "_law_great"] := by
  have F := fun_mk (st := s__law_many) l c k
  exact ⟨f, _, F, PySem.W.mg_of X G a, F.binds (ps := ["_law_draws_here", "_law_great"]) fun _ _ _ _ _ _ us hl => match us, hl with | [_, _], _ => rfl⟩
theorem d__law_joined {f : Addr} {od an : Option Addr} {sl : Array (Option Value)} {oc kV dc pm cd ct : Value} (X : K.In h) (G : h.Ns mainGlobals mg) (a : PySem.W.nsIn K mainGlobals "_law_joined" = some (some (.ref f))) (l : K.lookup f = some ⟨oc, od, .func (PySem.W.fnOf "_law_joined" "_law_joined" (defArgs s__law_joined) (defBody s__law_joined) (defScope s__law_joined) .none kV dc pm an cd ct), sl⟩) (c : PySem.W.codeIn K cd "_law_joined" = true) (k : PySem.W.keepIn K (.ref f) = true) : Df K mg "_law_joined" s__law_joined ["_law_rows"] := by
  have F := fun_mk (st := s__law_joined) l c k
  exact ⟨f, _, F, PySem.W.mg_of X G a, F.binds (ps := ["_law_rows"]) fun _ _ _ _ _ _ us hl => match us, hl with | [_], _ => rfl⟩
theorem d__law_term_tokens {f : Addr} {od an : Option Addr} {sl : Array (Option Value)} {oc kV dc pm cd ct : Value} (X : K.In h) (G : h.Ns mainGlobals mg) (a : PySem.W.nsIn K mainGlobals "_law_term_tokens" = some (some (.ref f))) (l : K.lookup f = some ⟨oc, od, .func (PySem.W.fnOf "_law_term_tokens" "_law_term_tokens" (defArgs s__law_term_tokens) (defBody s__law_term_tokens) (defScope s__law_term_tokens) .none kV dc pm an cd ct), sl⟩) (c : PySem.W.codeIn K cd "_law_term_tokens" = true) (k : PySem.W.keepIn K (.ref f) = true) : Df K mg "_law_term_tokens" s__law_term_tokens ["_law_term_here"] := by
  have F := fun_mk (st := s__law_term_tokens) l c k
  exact ⟨f, _, F, PySem.W.mg_of X G a, F.binds (ps := ["_law_term_here"]) fun _ _ _ _ _ _ us hl => match us, hl with | [_], _ => rfl⟩
theorem d__law_last_tokens {f : Addr} {od an : Option Addr} {sl : Array (Option Value)} {oc kV dc pm cd ct : Value} (X : K.In h) (G : h.Ns mainGlobals mg) (a : PySem.W.nsIn K mainGlobals "_law_last_tokens" = some (some (.ref f))) (l : K.lookup f = some ⟨oc, od, .func (PySem.W.fnOf "_law_last_tokens" "_law_last_tokens" (defArgs s__law_last_tokens) (defBody s__law_last_tokens) (defScope s__law_last_tokens) .none kV dc pm an cd ct), sl⟩) (c : PySem.W.codeIn K cd "_law_last_tokens" = true) (k : PySem.W.keepIn K (.ref f) = true) : Df K mg "_law_last_tokens" s__law_last_tokens ["_law_condition_here"] := by
  have F := fun_mk (st := s__law_last_tokens) l c k
  exact ⟨f, _, F, PySem.W.mg_of X G a, F.binds (ps := ["_law_condition_here"]) fun _ _ _ _ _ _ us hl => match us, hl with | [_], _ => rfl⟩
theorem d__law_tokens {f : Addr} {od an : Option Addr} {sl : Array (Option Value)} {oc kV dc pm cd ct : Value} (X : K.In h) (G : h.Ns mainGlobals mg) (a : PySem.W.nsIn K mainGlobals "_law_tokens" = some (some (.ref f))) (l : K.lookup f = some ⟨oc, od, .func (PySem.W.fnOf "_law_tokens" "_law_tokens" (defArgs s__law_tokens) (defBody s__law_tokens) (defScope s__law_tokens) .none kV dc pm an cd ct), sl⟩) (c : PySem.W.codeIn K cd "_law_tokens" = true) (k : PySem.W.keepIn K (.ref f) = true) : Df K mg "_law_tokens" s__law_tokens ["_law_condition_here"] := by
  have F := fun_mk (st := s__law_tokens) l c k
  exact ⟨f, _, F, PySem.W.mg_of X G a, F.binds (ps := ["_law_condition_here"]) fun _ _ _ _ _ _ us hl => match us, hl with | [_], _ => rfl⟩
theorem d__law_spaced {f : Addr} {od an : Option Addr} {sl : Array (Option Value)} {oc kV dc pm cd ct : Value} (X : K.In h) (G : h.Ns mainGlobals mg) (a : PySem.W.nsIn K mainGlobals "_law_spaced" = some (some (.ref f))) (l : K.lookup f = some ⟨oc, od, .func (PySem.W.fnOf "_law_spaced" "_law_spaced" (defArgs s__law_spaced) (defBody s__law_spaced) (defScope s__law_spaced) .none kV dc pm an cd ct), sl⟩) (c : PySem.W.codeIn K cd "_law_spaced" = true) (k : PySem.W.keepIn K (.ref f) = true) : Df K mg "_law_spaced" s__law_spaced ["_law_tokens_here", "_law_pattern_here", "_law_starts"] := by
  have F := fun_mk (st := s__law_spaced) l c k
  exact ⟨f, _, F, PySem.W.mg_of X G a, F.binds (ps := ["_law_tokens_here", "_law_pattern_here", "_law_starts"]) fun _ _ _ _ _ _ us hl => match us, hl with | [_, _, _], _ => rfl⟩
theorem d__law_pattern {f : Addr} {od an : Option Addr} {sl : Array (Option Value)} {oc kV dc pm cd ct : Value} (X : K.In h) (G : h.Ns mainGlobals mg) (a : PySem.W.nsIn K mainGlobals "_law_pattern" = some (some (.ref f))) (l : K.lookup f = some ⟨oc, od, .func (PySem.W.fnOf "_law_pattern" "_law_pattern" (defArgs s__law_pattern) (defBody s__law_pattern) (defScope s__law_pattern) .none kV dc pm an cd ct), sl⟩) (c : PySem.W.codeIn K cd "_law_pattern" = true) (k : PySem.W.keepIn K (.ref f) = true) : Df K mg "_law_pattern" s__law_pattern ["_law_draws_here", "_law_cell_here"] := by
  have F := fun_mk (st := s__law_pattern) l c k
  exact ⟨f, _, F, PySem.W.mg_of X G a, F.binds (ps := ["_law_draws_here", "_law_cell_here"]) fun _ _ _ _ _ _ us hl => match us, hl with | [_, _], _ => rfl⟩
theorem d__law_bad_token {f : Addr} {od an : Option Addr} {sl : Array (Option Value)} {oc kV dc pm cd ct : Value} (X : K.In h) (G : h.Ns mainGlobals mg) (a : PySem.W.nsIn K mainGlobals "_law_bad_token" = some (some (.ref f))) (l : K.lookup f = some ⟨oc, od, .func (PySem.W.fnOf "_law_bad_token" "_law_bad_token" (defArgs s__law_bad_token) (defBody s__law_bad_token) (defScope s__law_bad_token) .none kV dc pm an cd ct), sl⟩) (c : PySem.W.codeIn K cd "_law_bad_token" = true) (k : PySem.W.keepIn K (.ref f) = true) : Df K mg "_law_bad_token" s__law_bad_token ["_law_draws_here", "_law_great"] := by
  have F := fun_mk (st := s__law_bad_token) l c k
  exact ⟨f, _, F, PySem.W.mg_of X G a, F.binds (ps := ["_law_draws_here", "_law_great"]) fun _ _ _ _ _ _ us hl => match us, hl with | [_, _], _ => rfl⟩
theorem d__law_good_token {f : Addr} {od an : Option Addr} {sl : Array (Option Value)} {oc kV dc pm cd ct : Value} (X : K.In h) (G : h.Ns mainGlobals mg) (a : PySem.W.nsIn K mainGlobals "_law_good_token" = some (some (.ref f))) (l : K.lookup f = some ⟨oc, od, .func (PySem.W.fnOf "_law_good_token" "_law_good_token" (defArgs s__law_good_token) (defBody s__law_good_token) (defScope s__law_good_token) .none kV dc pm an cd ct), sl⟩) (c : PySem.W.codeIn K cd "_law_good_token" = true) (k : PySem.W.keepIn K (.ref f) = true) : Df K mg "_law_good_token" s__law_good_token ["_law_draws_here", "_law_great"] := by
  have F := fun_mk (st := s__law_good_token) l c k
  exact ⟨f, _, F, PySem.W.mg_of X G a, F.binds (ps := ["_law_draws_here", "_law_great"]) fun _ _ _ _ _ _ us hl => match us, hl with | [_, _], _ => rfl⟩
theorem d__law_mixed {f : Addr} {od an : Option Addr} {sl : Array (Option Value)} {oc kV dc pm cd ct : Value} (X : K.In h) (G : h.Ns mainGlobals mg) (a : PySem.W.nsIn K mainGlobals "_law_mixed" = some (some (.ref f))) (l : K.lookup f = some ⟨oc, od, .func (PySem.W.fnOf "_law_mixed" "_law_mixed" (defArgs s__law_mixed) (defBody s__law_mixed) (defScope s__law_mixed) .none kV dc pm an cd ct), sl⟩) (c : PySem.W.codeIn K cd "_law_mixed" = true) (k : PySem.W.keepIn K (.ref f) = true) : Df K mg "_law_mixed" s__law_mixed ["_law_draws_here", "_law_tokens_here", "_law_great"] := by
  have F := fun_mk (st := s__law_mixed) l c k
  exact ⟨f, _, F, PySem.W.mg_of X G a, F.binds (ps := ["_law_draws_here", "_law_tokens_here", "_law_great"]) fun _ _ _ _ _ _ us hl => match us, hl with | [_, _, _], _ => rfl⟩
theorem d__law_text {f : Addr} {od an : Option Addr} {sl : Array (Option Value)} {oc kV dc pm cd ct : Value} (X : K.In h) (G : h.Ns mainGlobals mg) (a : PySem.W.nsIn K mainGlobals "_law_text" = some (some (.ref f))) (l : K.lookup f = some ⟨oc, od, .func (PySem.W.fnOf "_law_text" "_law_text" (defArgs s__law_text) (defBody s__law_text) (defScope s__law_text) .none kV dc pm an cd ct), sl⟩) (c : PySem.W.codeIn K cd "_law_text" = true) (k : PySem.W.keepIn K (.ref f) = true) : Df K mg "_law_text" s__law_text ["_law_draws_here", "_law_cell_here"] := by
  have F := fun_mk (st := s__law_text) l c k
  exact ⟨f, _, F, PySem.W.mg_of X G a, F.binds (ps := ["_law_draws_here", "_law_cell_here"]) fun _ _ _ _ _ _ us hl => match us, hl with | [_, _], _ => rfl⟩
theorem d__law_read {f : Addr} {od an : Option Addr} {sl : Array (Option Value)} {oc kV dc pm cd ct : Value} (X : K.In h) (G : h.Ns mainGlobals mg) (a : PySem.W.nsIn K mainGlobals "_law_read" = some (some (.ref f))) (l : K.lookup f = some ⟨oc, od, .func (PySem.W.fnOf "_law_read" "_law_read" (defArgs s__law_read) (defBody s__law_read) (defScope s__law_read) .none kV dc pm an cd ct), sl⟩) (c : PySem.W.codeIn K cd "_law_read" = true) (k : PySem.W.keepIn K (.ref f) = true) : Df K mg "_law_read" s__law_read ["_law_text_here"] := by
  have F := fun_mk (st := s__law_read) l c k
  exact ⟨f, _, F, PySem.W.mg_of X G a, F.binds (ps := ["_law_text_here"]) fun _ _ _ _ _ _ us hl => match us, hl with | [_], _ => rfl⟩
theorem d__law_good {f : Addr} {od an : Option Addr} {sl : Array (Option Value)} {oc kV dc pm cd ct : Value} (X : K.In h) (G : h.Ns mainGlobals mg) (a : PySem.W.nsIn K mainGlobals "_law_good" = some (some (.ref f))) (l : K.lookup f = some ⟨oc, od, .func (PySem.W.fnOf "_law_good" "_law_good" (defArgs s__law_good) (defBody s__law_good) (defScope s__law_good) .none kV dc pm an cd ct), sl⟩) (c : PySem.W.codeIn K cd "_law_good" = true) (k : PySem.W.keepIn K (.ref f) = true) : Df K mg "_law_good" s__law_good ["_law_text_here", "_law_found"] := by
  have F := fun_mk (st := s__law_good) l c k
  exact ⟨f, _, F, PySem.W.mg_of X G a, F.binds (ps := ["_law_text_here", "_law_found"]) fun _ _ _ _ _ _ us hl => match us, hl with | [_, _], _ => rfl⟩
theorem d__law_bad {f : Addr} {od an : Option Addr} {sl : Array (Option Value)} {oc kV dc pm cd ct : Value} (X : K.In h) (G : h.Ns mainGlobals mg) (a : PySem.W.nsIn K mainGlobals "_law_bad" = some (some (.ref f))) (l : K.lookup f = some ⟨oc, od, .func (PySem.W.fnOf "_law_bad" "_law_bad" (defArgs s__law_bad) (defBody s__law_bad) (defScope s__law_bad) .none kV dc pm an cd ct), sl⟩) (c : PySem.W.codeIn K cd "_law_bad" = true) (k : PySem.W.keepIn K (.ref f) = true) : Df K mg "_law_bad" s__law_bad ["_law_draws_here", "_law_text_here", "_law_place"] := by
  have F := fun_mk (st := s__law_bad) l c k
  exact ⟨f, _, F, PySem.W.mg_of X G a, F.binds (ps := ["_law_draws_here", "_law_text_here", "_law_place"]) fun _ _ _ _ _ _ us hl => match us, hl with | [_, _, _], _ => rfl⟩
theorem d_law {f : Addr} {od an : Option Addr} {sl : Array (Option Value)} {oc kV dc pm cd ct : Value} (X : K.In h) (G : h.Ns mainGlobals mg) (a : PySem.W.nsIn K mainGlobals "law" = some (some (.ref f))) (l : K.lookup f = some ⟨oc, od, .func (PySem.W.fnOf "law" "law" (defArgs s_law) (defBody s_law) (defScope s_law) .none kV dc pm an cd ct), sl⟩) (c : PySem.W.codeIn K cd "law" = true) (k : PySem.W.keepIn K (.ref f) = true) :
    ∃ fd, Fun K "law" "law" s_law f fd ∧ mg "law" = some (.ref f) ∧ ∀ (s : Shared) (v : Value), BindsTo s fd ⟨[v], []⟩ [("_law_script", v)] :=
  ⟨_, fun_mk (st := s_law) l c k, PySem.W.mg_of X G a, fun s v => .of_eq rfl⟩
theorem dm_kind {C f : Addr} {od an : Option Addr} {sl : Array (Option Value)} {oc kV dc pm cd ct : Value} (a : PySem.W.findIn K (.ref C) "kind" = some (some (.ref f))) (i : PySem.W.isFn K (.ref f) = true) (l : K.lookup f = some ⟨oc, od, .func (PySem.W.fnOf "kind" "Reader.kind" (defArgs s_kind) (defBody s_kind) (defScope s_kind) .none kV dc pm an cd ct), sl⟩) (c : PySem.W.codeIn K cd "Reader.kind" = true) (k : PySem.W.keepIn K (.ref f) = true) : DfM K C "kind" "Reader.kind" s_kind ["self"] := by
  have F := fun_mk (st := s_kind) l c k
  exact ⟨f, _, F, ⟨a, i, k⟩, F.binds (ps := ["self"]) fun _ _ _ _ _ _ us hl => match us, hl with | [_], _ => rfl⟩
theorem dm_value {C f : Addr} {od an : Option Addr} {sl : Array (Option Value)} {oc kV dc pm cd ct : Value} (a : PySem.W.findIn K (.ref C) "value" = some (some (.ref f))) (i : PySem.W.isFn K (.ref f) = true) (l : K.lookup f = some ⟨oc, od, .func (PySem.W.fnOf "value" "Reader.value" (defArgs s_value) (defBody s_value) (defScope s_value) .none kV dc pm an cd ct), sl⟩) (c : PySem.W.codeIn K cd "Reader.value" = true) (k : PySem.W.keepIn K (.ref f) = true) : DfM K C "value" "Reader.value" s_value ["self"] := by
  have F := fun_mk (st := s_value) l c k
  exact ⟨f, _, F, ⟨a, i, k⟩, F.binds (ps := ["self"]) fun _ _ _ _ _ _ us hl => match us, hl with | [_], _ => rfl⟩
theorem dm_need {C f : Addr} {od an : Option Addr} {sl : Array (Option Value)} {oc kV dc pm cd ct : Value} (a : PySem.W.findIn K (.ref C) "need" = some (some (.ref f))) (i : PySem.W.isFn K (.ref f) = true) (l : K.lookup f = some ⟨oc, od, .func (PySem.W.fnOf "need" "Reader.need" (defArgs s_need) (defBody s_need) (defScope s_need) .none kV dc pm an cd ct), sl⟩) (c : PySem.W.codeIn K cd "Reader.need" = true) (k : PySem.W.keepIn K (.ref f) = true) : DfM K C "need" "Reader.need" s_need ["self", "fits"] := by
  have F := fun_mk (st := s_need) l c k
  exact ⟨f, _, F, ⟨a, i, k⟩, F.binds (ps := ["self", "fits"]) fun _ _ _ _ _ _ us hl => match us, hl with | [_, _], _ => rfl⟩
theorem dm_take {C f : Addr} {od an : Option Addr} {sl : Array (Option Value)} {oc kV dc pm cd ct : Value} (a : PySem.W.findIn K (.ref C) "take" = some (some (.ref f))) (i : PySem.W.isFn K (.ref f) = true) (l : K.lookup f = some ⟨oc, od, .func (PySem.W.fnOf "take" "Reader.take" (defArgs s_take) (defBody s_take) (defScope s_take) .none kV dc pm an cd ct), sl⟩) (c : PySem.W.codeIn K cd "Reader.take" = true) (k : PySem.W.keepIn K (.ref f) = true) : DfM K C "take" "Reader.take" s_take ["self", "kind"] := by
  have F := fun_mk (st := s_take) l c k
  exact ⟨f, _, F, ⟨a, i, k⟩, F.binds (ps := ["self", "kind"]) fun _ _ _ _ _ _ us hl => match us, hl with | [_, _], _ => rfl⟩
theorem dm_rd_init {C f : Addr} {od an : Option Addr} {sl : Array (Option Value)} {oc kV dc pm cd ct : Value} (mk : PySem.W.makesIn K C = true) (kc : PySem.W.keepIn K (.ref C) = true) (a : PySem.W.findIn K (.ref C) "__init__" = some (some (.ref f))) (i : PySem.W.isFn K (.ref f) = true) (l : K.lookup f = some ⟨oc, od, .func (PySem.W.fnOf "__init__" "Reader.__init__" (defArgs s_rd_init) (defBody s_rd_init) (defScope s_rd_init) .none kV dc pm an cd ct), sl⟩) (c : PySem.W.codeIn K cd "Reader.__init__" = true) (k : PySem.W.keepIn K (.ref f) = true) : RdI K C := by
  have F := fun_mk (st := s_rd_init) l c k
  exact ⟨f, _, F, ⟨mk, a, i, kc⟩, F.binds (ps := ["self", "line", "text"]) fun _ _ _ _ _ _ us hl => match us, hl with | [_, _, _], _ => rfl⟩
theorem dm_bad_init {C f : Addr} {od an : Option Addr} {sl : Array (Option Value)} {oc kV dc pm cd ct : Value} (a : PySem.W.findIn K (.ref C) "__init__" = some (some (.ref f))) (t : PySem.W.typeIn K (.ref f) = some (.type "function")) (l : K.lookup f = some ⟨oc, od, .func (PySem.W.fnOf "__init__" "BadText.__init__" (defArgs s_bad_init) (defBody s_bad_init) (defScope s_bad_init) .none kV dc pm an cd ct), sl⟩) (c : PySem.W.codeIn K cd "BadText.__init__" = true) (k : PySem.W.keepIn K (.ref f) = true) : BadI K C := by
  have F := fun_mk (st := s_bad_init) l c k
  exact ⟨f, _, F, a, t, F.binds (ps := ["self", "line", "column"]) fun _ _ _ _ _ _ us hl => match us, hl with | [_, _, _], _ => rfl⟩
theorem rd_mk {C : Addr} (pg : PySem.W.plainGet K C Str.empty = true) (hd : PySem.W.hasDictIn K C = true) (po : PySem.W.plainOver K C = true) (sa : PySem.W.findIn K (.ref C) "__setattr__" = some (some (.builtin "object.__setattr__")))
    (n1 : PySem.W.findIn K (.ref C) "line" = some none) (n2 : PySem.W.findIn K (.ref C) "tokens" = some none) (n3 : PySem.W.findIn K (.ref C) "done" = some none) : RdT K C := ⟨⟨pg, hd, po, sa⟩, n1, n2, n3⟩
theorem exm_self {S : Addr} (h1 : PySem.W.subIn K (.ref S) (.type "BaseException") = some true) (h2 : PySem.W.isClsIn K S = true) (h3 : PySem.W.typeIn K (.ref S) = some (.type "type")) (h4 : PySem.W.subIn K (.ref S) (.ref S) = some true) :
    PySem.W.exmOne K (.ref S) (.ref S) = some true := by
  have e1 : (PySem.W.subIn K (.ref S) (.type "BaseException") == some true) = true := by rw [h1] <;> rfl
  have e2 : ((PySem.W.clsIn K S).isSome && PySem.W.typeIn K (.ref S) == some (.type "type")) = true := by
    have h2' : (PySem.W.clsIn K S).isSome = true := h2
    rw [h2', h3] <;> rfl
  show (if (PySem.W.subIn K (.ref S) (.type "BaseException") == some true) = true then (if ((PySem.W.clsIn K S).isSome && PySem.W.typeIn K (.ref S) == some (.type "type")) = true then PySem.W.subIn K (.ref S) (.ref S) else none) else none) = some true
  rw [if_pos e1, if_pos e2]
  exact h4
theorem bad_mk {C : Addr} (X : K.In h) (G : h.Ns mainGlobals mg) {nm q : Str} {N : Addr} {bs bm : List Value} {sn : List Str} {sub : List Value} {ab : Bool} {col : Option Bool} {dd : Option Addr} {m0 m1 m2 m3 m5 : Option Value}
    (aC : PySem.W.nsIn K mainGlobals "BadText" = some (some (.ref C))) (xL : K.lookup C = some (excClassObj nm q C N bs bm true sn sub ab col dd m0 m1 m2 m3 m5 "ValueError.__new__")) (rv : PySem.HandSPX.refsVE bm = true)
    (sa : PySem.W.findIn K (.ref C) "__setattr__" = some (some (.builtin "object.__setattr__"))) (eC : PySem.W.subIn K (.ref C) (.type "BaseException") = some true) (tC : PySem.W.typeIn K (.ref C) = some (.type "type")) (kC : PySem.W.keepIn K (.ref C) = true)
    (ga : PySem.W.findIn K (.ref C) "__getattribute__" = some (some (.builtin "BaseException.__getattribute__"))) (gg : PySem.W.findIn K (.ref C) "__getattr__" = some none) (hC : PySem.W.hasDictIn K C = true)
    (n1 : PySem.W.findIn K (.ref C) "line" = some none) (n2 : PySem.W.findIn K (.ref C) "column" = some none) (iC : PySem.W.isClsIn K C = true) (sC : PySem.W.subIn K (.ref C) (.ref C) = some true) : BadT K mg C :=
  ⟨PySem.W.mg_of X G aC, ⟨⟨nm, q, N, bs, bm, sn, sub, ab, col, dd, m0, m1, m2, m3, m5, xL, rv⟩, sa, eC, tC, kC⟩, ⟨ga, gg, eC, hC⟩, n1, n2, exm_self eC iC tC sC⟩
theorem gv_str {x : Str} {y : Str} {t : Tok} (X : K.In h) (G : h.Ns mainGlobals mg) (a : PySem.W.nsIn K mainGlobals x = some (some (.str y t))) : Gv mg x (.str y) := ⟨_, PySem.W.mg_of X G a, t, rfl⟩
theorem gv_int {x : Str} {y : Int} {t : Tok} (X : K.In h) (G : h.Ns mainGlobals mg) (a : PySem.W.nsIn K mainGlobals x = some (some (.int y t))) : Gv mg x (.int y) := ⟨_, PySem.W.mg_of X G a, t, rfl⟩
theorem gv_heads {a : Addr} {dd : Option Addr} {n : Nat} {sl : Array (Option Value)} {t1 t2 t3 t4 t5 t6 t7 t8 t9 t10 t11 t12 : Tok} (X : K.In h) (G : h.Ns mainGlobals mg) (e : PySem.W.nsIn K mainGlobals "HEADS" = some (some (.ref a)))
    (l : K.lookup a = some ⟨.type "tuple", dd, .seq [.str "yes" t1, .str "no" t2, .str "is" t3, .str "in" t4, .str "within" t5, .str "most" t6, .str "member" t7, .str "under" t8, .str "at" t9, .str "not" t10, .str "all" t11, .str "any" t12].toArray n, sl⟩) :
    ∃ a, Gv mg "HEADS" (.ref a) ∧ ∀ H : Hp, SqT K H a cHEADS :=
  ⟨a, ⟨_, PySem.W.mg_of X G e, rfl⟩, fun H => .inr ⟨_, _, n, l, rfl, rfl, (by show 12 ≤ sizeLine; decide), .cons ⟨t1, rfl⟩ (.cons ⟨t2, rfl⟩ (.cons ⟨t3, rfl⟩ (.cons ⟨t4, rfl⟩ (.cons ⟨t5, rfl⟩ (.cons ⟨t6, rfl⟩ (.cons ⟨t7, rfl⟩ (.cons ⟨t8, rfl⟩ (.cons ⟨t9, rfl⟩ (.cons ⟨t10, rfl⟩ (.cons ⟨t11, rfl⟩ (.cons ⟨t12, rfl⟩ .nil)))))))))))⟩⟩
end
/-- all that the top has written -/
structure Top (K : PySem.W.Frag) (mg : Str → Option Value) : Prop where
  G : Glob K mg
  D_is_word : Df K mg "is_word" s_is_word ["text"]
  D_need : Df K mg "need" s_need2 ["right", "why"]
  D_check_term : Df K mg "check_term" s_check_term ["term"]
  D_check_target : Df K mg "check_target" s_check_target ["target"]
  D_check_template : Df K mg "check_template" s_check_template ["template"]
  D_check_simple : Df K mg "check_simple" s_check_simple ["condition"]
  D_inner_conditions : Df K mg "inner_conditions" s_inner_conditions ["condition"]
  D_check_at : Df K mg "check_at" s_check_at ["condition", "depth"]
  D_check_condition : Df K mg "check_condition" s_check_condition ["condition"]
  D_run_end : Df K mg "run_end" s_run_end ["text", "start", "allowed"]
  D_token_at : Df K mg "token_at" s_token_at ["text", "start"]
  D_tokens_of : Df K mg "tokens_of" s_tokens_of ["text"]
  D_read_field_term : Df K mg "read_field_term" s_read_field_term ["reader"]
  D_read_term : Df K mg "read_term" s_read_term ["reader"]
  D_read_template_term : Df K mg "read_template_term" s_read_template_term ["reader"]
  D_read_template : Df K mg "read_template" s_read_template ["reader"]
  D_read_name_after : Df K mg "read_name_after" s_read_name_after ["reader", "before"]
  D_read_target : Df K mg "read_target" s_read_target ["reader"]
  D_read_number_field : Df K mg "read_number_field" s_read_number_field ["reader"]
  D_read_most : Df K mg "read_most" s_read_most ["reader"]
  D_read_simple : Df K mg "read_simple" s_read_simple ["reader", "head"]
  D_read_parts : Df K mg "read_parts" s_read_parts ["reader", "depth"]
  D_read_at : Df K mg "read_at" s_read_at ["reader", "depth"]
  D_read_condition : Df K mg "read_condition" s_read_condition ["text"]
  D_write_term : Df K mg "write_term" s_write_term ["term"]
  D_write_target : Df K mg "write_target" s_write_target ["target"]
  D_write_template : Df K mg "write_template" s_write_template ["template"]
  D_write_number_field : Df K mg "write_number_field" s_write_number_field ["field"]
  D_simple_items : Df K mg "simple_items" s_simple_items ["condition"]
  D_write_condition : Df K mg "write_condition" s_write_condition ["condition"]
  D__law_draws : Df K mg "_law_draws" s__law_draws ["_law_script", "_law_many_here"]
  D__law_take : Df K mg "_law_take" s__law_take ["_law_draws_here", "_law_many_here"]
  D__law_cell : Df K mg "_law_cell" s__law_cell ["_law_script", "_law_draws_here"]
  D__law_word : Df K mg "_law_word" s__law_word ["_law_number"]
  D__law_some_word : Df K mg "_law_some_word" s__law_some_word ["_law_draws_here"]
  D__law_is_integer : Df K mg "_law_is_integer" s__law_is_integer ["_law_value"]
  D__law_same : Df K mg "_law_same" s__law_same ["_law_actual", "_law_due"]
  D__law_char : Df K mg "_law_char" s__law_char ["_law_number"]
  D__law_text_word : Df K mg "_law_text_word" s__law_text_word ["_law_draws_here"]
  D__law_term : Df K mg "_law_term" s__law_term ["_law_draws_here", "_law_names"]
  D__law_bound : Df K mg "_law_bound" s__law_bound ["_law_draws_here", "_law_great"]
  D__law_simple : Df K mg "_law_simple" s__law_simple ["_law_draws_here", "_law_great"]
  D__law_condition : Df K mg "_law_condition" s__law_condition ["_law_draws_here", "_law_great", "_law_depth"]
  D__law_many : Df K mg "_law_many" s__law_many ["_law_draws_here", "_law_great"]
  D__law_joined : Df K mg "_law_joined" s__law_joined ["_law_rows"]
  D__law_term_tokens : Df K mg "_law_term_tokens" s__law_term_tokens ["_law_term_here"]
  D__law_last_tokens : Df K mg "_law_last_tokens" s__law_last_tokens ["_law_condition_here"]
  D__law_tokens : Df K mg "_law_tokens" s__law_tokens ["_law_condition_here"]
  D__law_spaced : Df K mg "_law_spaced" s__law_spaced ["_law_tokens_here", "_law_pattern_here", "_law_starts"]
  D__law_pattern : Df K mg "_law_pattern" s__law_pattern ["_law_draws_here", "_law_cell_here"]
  D__law_bad_token : Df K mg "_law_bad_token" s__law_bad_token ["_law_draws_here", "_law_great"]
  D__law_good_token : Df K mg "_law_good_token" s__law_good_token ["_law_draws_here", "_law_great"]
  D__law_mixed : Df K mg "_law_mixed" s__law_mixed ["_law_draws_here", "_law_tokens_here", "_law_great"]
  D__law_text : Df K mg "_law_text" s__law_text ["_law_draws_here", "_law_cell_here"]
  D__law_read : Df K mg "_law_read" s__law_read ["_law_text_here"]
  D__law_good : Df K mg "_law_good" s__law_good ["_law_text_here", "_law_found"]
  D__law_bad : Df K mg "_law_bad" s__law_bad ["_law_draws_here", "_law_text_here", "_law_place"]
  bad : ∃ B, BadT K mg B ∧ BadI K B
  rdr : ∃ C, RdT K C ∧ RdI K C ∧ mg "Reader" = some (.ref C) ∧ DfM K C "kind" "Reader.kind" s_kind ["self"] ∧ DfM K C "value" "Reader.value" s_value ["self"] ∧ DfM K C "need" "Reader.need" s_need ["self", "fits"] ∧ DfM K C "take" "Reader.take" s_take ["self", "kind"]
theorem top_law {P : Program} {w : World} {K : PySem.W.Frag} {mg : Str → Option Value} {base : Heap} {f : Addr} {fd : FuncData} (T : Top K mg) (F : Fun K "law" "law" s_law f fd) : FnOk P w K mg base CX0 41 f fd ["_law_script"] (sp_law K) := by
  have G := T.G
  obtain ⟨B, TB, IB⟩ := T.bad
  obtain ⟨C, R, RI, mC, m1, m2, m3, m4⟩ := T.rdr
  -- the reader
  have c_run_end := ok_run_end (P := P) (w := w) (base := base) G T.D_run_end
  have c_token_at := ok_token_at G T.D_token_at c_run_end
  have c_tokens_of := ok_tokens_of G T.D_tokens_of c_token_at
  have c_init := ok_rd_init R RI c_tokens_of
  have c_bad := ok_bad_init (P := P) (w := w) (base := base) TB IB
  have c_kind := ok_kind (P := P) (w := w) (mg := mg) (base := base) R m1
  have c_value := ok_value (P := P) (w := w) (mg := mg) (base := base) R m2
  have c_need := ok_need R TB m3 c_bad
  have c_take := ok_take R m4 c_kind c_value c_need
  have M : Rds P w K mg base C B := ⟨R, TB, c_kind, c_value, c_need, c_take⟩
  have c_rft := ok_read_field_term G M T.D_read_field_term
  have c_rt := ok_read_term M T.D_read_term c_rft
  have c_rtt := ok_read_template_term M T.D_read_template_term c_rt
  have c_rtm := ok_read_template G M T.D_read_template c_rtt
  have c_rna := ok_read_name_after M T.D_read_name_after
  have c_rtg := ok_read_target G M T.D_read_target c_rna
  have c_rnf := ok_read_number_field M T.D_read_number_field
  have c_rm := ok_read_most M T.D_read_most c_rnf
  have c_rs := ok_read_simple M T.D_read_simple c_rm c_rt c_rft c_rtg c_rtm
  have c_ra := ok_read_all G M T.D_read_at T.D_read_parts c_rs 13
  have c_rc := ok_read_condition M T.D_read_condition c_init mC c_ra
  -- the checks
  have c_isw := ok_is_word (P := P) (w := w) (base := base) G T.D_is_word
  have c_nd := ok_need2 (P := P) (w := w) (base := base) T.D_need
  have c_ct := ok_check_term G T.D_check_term c_isw c_nd
  have c_ctg := ok_check_target G T.D_check_target c_isw c_nd
  have c_ctm := ok_check_template G T.D_check_template c_ct c_nd
  have c_cs := ok_check_simple G T.D_check_simple c_isw c_ct c_nd c_ctm c_ctg
  have c_ic := ok_inner_conditions (P := P) (w := w) (base := base) T.D_inner_conditions
  have c_ca := ok_check_all G T.D_check_at c_nd c_ic c_cs 12
  have c_cc := ok_check_condition T.D_check_condition c_ca
  -- the writing
  have c_wt := ok_write_term (P := P) (w := w) (base := base) G T.D_write_term
  have c_wn := ok_write_number_field (P := P) (w := w) (base := base) T.D_write_number_field
  have c_wtg := ok_write_target G T.D_write_target c_wt
  have c_wtm := ok_write_template G T.D_write_template c_wt
  have c_si := ok_simple_items G T.D_simple_items c_wt c_wtg c_wtm c_wn
  have c_wc := ok_write_all G T.D_write_condition c_si 12
  -- the law's own
  have l_take := ok__law_take (P := P) (w := w) (base := base) G T.D__law_take
  have l_draws := ok__law_draws (P := P) (w := w) (base := base) G T.D__law_draws
  have l_cell := ok__law_cell G T.D__law_cell l_take
  have l_word := ok__law_word (P := P) (w := w) (base := base) G T.D__law_word
  have l_sw := ok__law_some_word T.D__law_some_word l_take l_word
  have l_char := ok__law_char (P := P) (w := w) (base := base) T.D__law_char
  have l_tw := ok__law_text_word T.D__law_text_word l_take l_sw
  have l_term := ok__law_term T.D__law_term l_take l_tw
  have l_bound := ok__law_bound T.D__law_bound l_take
  have l_simple := ok__law_simple G T.D__law_simple l_take l_tw l_term l_bound
  have l_cond := ok_cond_all G T.D__law_condition l_take l_simple 3
  have l_many := ok__law_many G T.D__law_many l_take l_simple
  have l_joined := ok__law_joined (P := P) (w := w) (base := base) G T.D__law_joined
  have l_tt := ok__law_term_tokens (P := P) (w := w) (base := base) G T.D__law_term_tokens
  have l_lt := ok__law_last_tokens G T.D__law_last_tokens l_joined l_tt
  have l_tokens := ok_tokens_all G T.D__law_tokens l_joined l_tt l_lt 3
  have l_spaced := ok__law_spaced (P := P) (w := w) (base := base) G T.D__law_spaced
  have l_pattern := ok__law_pattern G T.D__law_pattern l_take
  have l_bt := ok__law_bad_token G T.D__law_bad_token l_take l_word
  have l_gt := ok__law_good_token G T.D__law_good_token l_take l_tw
  have l_mixed := ok__law_mixed G T.D__law_mixed l_take l_bt l_gt
  have l_text := ok__law_text G T.D__law_text l_take l_gt l_many l_cond l_tokens l_mixed l_spaced l_pattern l_char
  have l_int := ok__law_is_integer (P := P) (w := w) (base := base) G T.D__law_is_integer
  have l_read := ok__law_read TB T.D__law_read c_rc l_int
  have l_same := ok_same_all (P := P) (w := w) (base := base) G T.D__law_same 28
  have l_good := ok__law_good G T.D__law_good c_cc c_wc l_read l_same
  have l_bad := ok__law_bad G T.D__law_bad l_good l_read l_gt
  exact ok_law G F l_draws l_cell l_text l_read l_good l_bad
theorem walk {l : PySem.W.OpenLaw} {q : Program} {loose : List Str} {XP : (Str → Option Value) → Heap → Prop} {YP : World → Heap → Prop} {d : DefRec} {K : Params → PySem.W.Frag} (hn : l.most = some 63) (hdf : d.params.defaults = [])
    (hY : ∀ (w : World) (h : Heap), YP w h → (K w.params).In h)
    (F : ∀ (w : World) (mg : Str → Option Value) (fa : Addr) (h : Heap), (K w.params).In h → h.Ns mainGlobals mg → mg d.name = some (.ref fa) →
      ∃ fd : FuncData, (∀ (s : Shared) (u : Value), BindsTo s fd ⟨[u], []⟩ [("_law_script", u)]) ∧ ∀ base : Heap, (K w.params).In base → base.Ns mainGlobals mg → FnOk l.prog w (K w.params) mg base CX0 41 fa fd ["_law_script"] (sp_law (K w.params))) :
    PySem.W.WalkO q loose XP YP l.row.toRowW d [] (fun f vs => PySem.call f vs) :=
  L2.walk_of (n := 63) (k := 41) (x := "_law_script") (CX := fun _ => CX0) (sp := fun w => sp_law (K w.params)) hn (by decide) hdf ⟨rfl, by decide, by decide⟩ hY F (fun _ _ a ns hl _ hS => ⟨a, ns, rfl, hS, hl, fun _ => rfl⟩) fun _ _ _ _ _ z => z
theorem fin_mk {P : Program} {w : World} {K : PySem.W.Frag} {mg : Str → Option Value} {fa : Addr} (hfa : mg "law" = some (.ref fa)) (T : Top K mg) (L : ∃ f fd, Fun K "law" "law" s_law f fd ∧ mg "law" = some (.ref f) ∧ ∀ (s : Shared) (v : Value), BindsTo s fd ⟨[v], []⟩ [("_law_script", v)]) :
    ∃ fd : FuncData, (∀ (s : Shared) (u : Value), BindsTo s fd ⟨[u], []⟩ [("_law_script", u)]) ∧ ∀ base : Heap, K.In base → base.Ns mainGlobals mg → FnOk P w K mg base CX0 41 fa fd ["_law_script"] (sp_law K) := by
  obtain ⟨f, fd, F, m, b⟩ := L
  have e := hfa.symm.trans m
  cases e
  exact ⟨fd, b, fun base _ _ => top_law T F⟩
end Wk
end PartTop
section PartFin
open PySem PySem.W PyProof.Rows
set_option maxRecDepth 100000 in
set_option maxHeartbeats 0 in
theorem PySem.Challenge.cw_whomaywhat_k18_whole_any_text_holds : PySem.Challenge.rw_whomaywhat_k18_whole_any_text.Holds := by
  w_on; o_law; k_head; (case hw => w_witness2)
  k_fill
  refine Wk.walk (l := PySem.Challenge.rw_whomaywhat_k18_whole_any_text) rfl rfl (fun w h Y => PySem.W.kIn_of Y) ?F
  case F =>
    intro w mg fa h KX G hmg
    refine' Wk.fin_mk hmg ?T ?L
    case L =>
      refine' ⟨_, Wk.d_law KX G ?a ?l ?c ?k⟩
      (case a => k_is); (case l => k_is); (case c => k_is); (case k => k_is)
    case T =>
      refine' { G := ?G, bad := ?bad, rdr := ?rdr, D_is_word := ?D_is_word, D_need := ?D_need, D_check_term := ?D_check_term, D_check_target := ?D_check_target, D_check_template := ?D_check_template, D_check_simple := ?D_check_simple, D_inner_conditions := ?D_inner_conditions, D_check_at := ?D_check_at, D_check_condition := ?D_check_condition, D_run_end := ?D_run_end, D_token_at := ?D_token_at, D_tokens_of := ?D_tokens_of, D_read_field_term := ?D_read_field_term, D_read_term := ?D_read_term, D_read_template_term := ?D_read_template_term, D_read_template := ?D_read_template, D_read_name_after := ?D_read_name_after, D_read_target := ?D_read_target, D_read_number_field := ?D_read_number_field, D_read_most := ?D_read_most, D_read_simple := ?D_read_simple, D_read_parts := ?D_read_parts, D_read_at := ?D_read_at, D_read_condition := ?D_read_condition, D_write_term := ?D_write_term, D_write_target := ?D_write_target, D_write_template := ?D_write_template, D_write_number_field := ?D_write_number_field, D_simple_items := ?D_simple_items, D_write_condition := ?D_write_condition, D__law_draws := ?D__law_draws, D__law_take := ?D__law_take, D__law_cell := ?D__law_cell, D__law_word := ?D__law_word, D__law_some_word := ?D__law_some_word, D__law_is_integer := ?D__law_is_integer, D__law_same := ?D__law_same, D__law_char := ?D__law_char, D__law_text_word := ?D__law_text_word, D__law_term := ?D__law_term, D__law_bound := ?D__law_bound, D__law_simple := ?D__law_simple, D__law_condition := ?D__law_condition, D__law_many := ?D__law_many, D__law_joined := ?D__law_joined, D__law_term_tokens := ?D__law_term_tokens, D__law_last_tokens := ?D__law_last_tokens, D__law_tokens := ?D__law_tokens, D__law_spaced := ?D__law_spaced, D__law_pattern := ?D__law_pattern, D__law_bad_token := ?D__law_bad_token, D__law_good_token := ?D__law_good_token, D__law_mixed := ?D__law_mixed, D__law_text := ?D__law_text, D__law_read := ?D__law_read, D__law_good := ?D__law_good, D__law_bad := ?D__law_bad }
      case G =>
        refine' { LETTERS := Wk.gv_str KX G ?g1, DIGITS := Wk.gv_str KX G ?g2, MARKS := Wk.gv_str KX G ?g3, MOST_DEPTH := Wk.gv_int KX G ?g4, MOST_INDEX := Wk.gv_int KX G ?g5, MOST_TERMS := Wk.gv_int KX G ?g6, MOST_DIGITS := Wk.gv_int KX G ?g7, HEADS := Wk.gv_heads KX G ?g8 ?g9, len := PySem.W.mg_none_of KX G ?z_len, range := PySem.W.mg_none_of KX G ?z_range, int := PySem.W.mg_none_of KX G ?z_int, str := PySem.W.mg_none_of KX G ?z_str, list := PySem.W.mg_none_of KX G ?z_list, tuple := PySem.W.mg_none_of KX G ?z_tuple, bool := PySem.W.mg_none_of KX G ?z_bool, set := PySem.W.mg_none_of KX G ?z_set, sorted := PySem.W.mg_none_of KX G ?z_sorted, isinstance := PySem.W.mg_none_of KX G ?z_isinstance, abs := PySem.W.mg_none_of KX G ?z_abs }
        (case g1 => k_is); (case g2 => k_is); (case g3 => k_is); (case g4 => k_is); (case g5 => k_is); (case g6 => k_is); (case g7 => k_is); (case g8 => k_is); (case g9 => k_is)
        (case z_len => k_is); (case z_range => k_is); (case z_int => k_is); (case z_str => k_is); (case z_list => k_is); (case z_tuple => k_is); (case z_bool => k_is); (case z_set => k_is); (case z_sorted => k_is); (case z_isinstance => k_is); (case z_abs => k_is)
      case bad =>
        refine' ⟨_, Wk.bad_mk KX G ?aC ?xL ?rv ?sa ?eC ?tC ?kC ?ga ?gg ?hC ?n1 ?n2 ?iC ?sC, Wk.dm_bad_init ?a ?t ?l ?c ?k⟩
        (case aC => k_is); (case xL => k_is); (case rv => first | rfl | decide +kernel); (case sa => k_is); (case eC => k_is); (case tC => k_is); (case kC => k_is); (case ga => k_is); (case gg => k_is); (case hC => k_is); (case n1 => k_is); (case n2 => k_is); (case iC => k_is); (case sC => first | rfl | k_is)
        (case a => k_is); (case t => k_is); (case l => k_is); (case c => k_is); (case k => k_is)
      case rdr =>
        refine' ⟨_, Wk.rd_mk ?pg ?hd ?po ?sa ?n1 ?n2 ?n3, Wk.dm_rd_init ?mk ?kc ?a0 ?i0 ?l0 ?c0 ?k0, PySem.W.mg_of KX G ?aC, Wk.dm_kind ?a1 ?i1 ?l1 ?c1 ?k1, Wk.dm_value ?a2 ?i2 ?l2 ?c2 ?k2, Wk.dm_need ?a3 ?i3 ?l3 ?c3 ?k3, Wk.dm_take ?a4 ?i4 ?l4 ?c4 ?k4⟩
        (case aC => k_is); (case pg => k_is); (case hd => k_is); (case po => k_is); (case sa => k_is); (case n1 => k_is); (case n2 => k_is); (case n3 => k_is); (case mk => k_is); (case kc => k_is)
        (case a0 => k_is); (case i0 => k_is); (case l0 => k_is); (case c0 => k_is); (case k0 => k_is)
        (case a1 => k_is); (case i1 => k_is); (case l1 => k_is); (case c1 => k_is); (case k1 => k_is)
        (case a2 => k_is); (case i2 => k_is); (case l2 => k_is); (case c2 => k_is); (case k2 => k_is)
        (case a3 => k_is); (case i3 => k_is); (case l3 => k_is); (case c3 => k_is); (case k3 => k_is)
        (case a4 => k_is); (case i4 => k_is); (case l4 => k_is); (case c4 => k_is); (case k4 => k_is)
      case D_is_word =>
        refine' Wk.d_is_word KX G ?a ?l ?c ?k
        (case a => k_is); (case l => k_is); (case c => k_is); (case k => k_is)
      case D_need =>
        refine' Wk.d_need KX G ?a ?l ?c ?k
        (case a => k_is); (case l => k_is); (case c => k_is); (case k => k_is)
      case D_check_term =>
        refine' Wk.d_check_term KX G ?a ?l ?c ?k
        (case a => k_is); (case l => k_is); (case c => k_is); (case k => k_is)
      case D_check_target =>
        refine' Wk.d_check_target KX G ?a ?l ?c ?k
        (case a => k_is); (case l => k_is); (case c => k_is); (case k => k_is)
      case D_check_template =>
        refine' Wk.d_check_template KX G ?a ?l ?c ?k
        (case a => k_is); (case l => k_is); (case c => k_is); (case k => k_is)
      case D_check_simple =>
        refine' Wk.d_check_simple KX G ?a ?l ?c ?k
        (case a => k_is); (case l => k_is); (case c => k_is); (case k => k_is)
      case D_inner_conditions =>
        refine' Wk.d_inner_conditions KX G ?a ?l ?c ?k
        (case a => k_is); (case l => k_is); (case c => k_is); (case k => k_is)
      case D_check_at =>
        refine' Wk.d_check_at KX G ?a ?l ?c ?k
        (case a => k_is); (case l => k_is); (case c => k_is); (case k => k_is)
      case D_check_condition =>
        refine' Wk.d_check_condition KX G ?a ?l ?c ?k
        (case a => k_is); (case l => k_is); (case c => k_is); (case k => k_is)
      case D_run_end =>
        refine' Wk.d_run_end KX G ?a ?l ?c ?k
        (case a => k_is); (case l => k_is); (case c => k_is); (case k => k_is)
      case D_token_at =>
        refine' Wk.d_token_at KX G ?a ?l ?c ?k
        (case a => k_is); (case l => k_is); (case c => k_is); (case k => k_is)
      case D_tokens_of =>
        refine' Wk.d_tokens_of KX G ?a ?l ?c ?k
        (case a => k_is); (case l => k_is); (case c => k_is); (case k => k_is)
      case D_read_field_term =>
        refine' Wk.d_read_field_term KX G ?a ?l ?c ?k
        (case a => k_is); (case l => k_is); (case c => k_is); (case k => k_is)
      case D_read_term =>
        refine' Wk.d_read_term KX G ?a ?l ?c ?k
        (case a => k_is); (case l => k_is); (case c => k_is); (case k => k_is)
      case D_read_template_term =>
        refine' Wk.d_read_template_term KX G ?a ?l ?c ?k
        (case a => k_is); (case l => k_is); (case c => k_is); (case k => k_is)
      case D_read_template =>
        refine' Wk.d_read_template KX G ?a ?l ?c ?k
        (case a => k_is); (case l => k_is); (case c => k_is); (case k => k_is)
      case D_read_name_after =>
        refine' Wk.d_read_name_after KX G ?a ?l ?c ?k
        (case a => k_is); (case l => k_is); (case c => k_is); (case k => k_is)
      case D_read_target =>
        refine' Wk.d_read_target KX G ?a ?l ?c ?k
        (case a => k_is); (case l => k_is); (case c => k_is); (case k => k_is)
      case D_read_number_field =>
        refine' Wk.d_read_number_field KX G ?a ?l ?c ?k
        (case a => k_is); (case l => k_is); (case c => k_is); (case k => k_is)
      case D_read_most =>
        refine' Wk.d_read_most KX G ?a ?l ?c ?k
        (case a => k_is); (case l => k_is); (case c => k_is); (case k => k_is)
      case D_read_simple =>
        refine' Wk.d_read_simple KX G ?a ?l ?c ?k
        (case a => k_is); (case l => k_is); (case c => k_is); (case k => k_is)
      case D_read_parts =>
        refine' Wk.d_read_parts KX G ?a ?l ?c ?k
        (case a => k_is); (case l => k_is); (case c => k_is); (case k => k_is)
      case D_read_at =>
        refine' Wk.d_read_at KX G ?a ?l ?c ?k
        (case a => k_is); (case l => k_is); (case c => k_is); (case k => k_is)
      case D_read_condition =>
        refine' Wk.d_read_condition KX G ?a ?l ?c ?k
        (case a => k_is); (case l => k_is); (case c => k_is); (case k => k_is)
      case D_write_term =>
        refine' Wk.d_write_term KX G ?a ?l ?c ?k
        (case a => k_is); (case l => k_is); (case c => k_is); (case k => k_is)
      case D_write_target =>
        refine' Wk.d_write_target KX G ?a ?l ?c ?k
        (case a => k_is); (case l => k_is); (case c => k_is); (case k => k_is)
      case D_write_template =>
        refine' Wk.d_write_template KX G ?a ?l ?c ?k
        (case a => k_is); (case l => k_is); (case c => k_is); (case k => k_is)
      case D_write_number_field =>
        refine' Wk.d_write_number_field KX G ?a ?l ?c ?k
        (case a => k_is); (case l => k_is); (case c => k_is); (case k => k_is)
      case D_simple_items =>
        refine' Wk.d_simple_items KX G ?a ?l ?c ?k
        (case a => k_is); (case l => k_is); (case c => k_is); (case k => k_is)
      case D_write_condition =>
        refine' Wk.d_write_condition KX G ?a ?l ?c ?k
        (case a => k_is); (case l => k_is); (case c => k_is); (case k => k_is)
      case D__law_draws =>
        refine' Wk.d__law_draws KX G ?a ?l ?c ?k
        (case a => k_is); (case l => k_is); (case c => k_is); (case k => k_is)
      case D__law_take =>
        refine' Wk.d__law_take KX G ?a ?l ?c ?k
        (case a => k_is); (case l => k_is); (case c => k_is); (case k => k_is)
      case D__law_cell =>
        refine' Wk.d__law_cell KX G ?a ?l ?c ?k
        (case a => k_is); (case l => k_is); (case c => k_is); (case k => k_is)
      case D__law_word =>
        refine' Wk.d__law_word KX G ?a ?l ?c ?k
        (case a => k_is); (case l => k_is); (case c => k_is); (case k => k_is)
      case D__law_some_word =>
        refine' Wk.d__law_some_word KX G ?a ?l ?c ?k
        (case a => k_is); (case l => k_is); (case c => k_is); (case k => k_is)
      case D__law_is_integer =>
        refine' Wk.d__law_is_integer KX G ?a ?l ?c ?k
        (case a => k_is); (case l => k_is); (case c => k_is); (case k => k_is)
      case D__law_same =>
        refine' Wk.d__law_same KX G ?a ?l ?c ?k
        (case a => k_is); (case l => k_is); (case c => k_is); (case k => k_is)
      case D__law_char =>
        refine' Wk.d__law_char KX G ?a ?l ?c ?k
        (case a => k_is); (case l => k_is); (case c => k_is); (case k => k_is)
      case D__law_text_word =>
        refine' Wk.d__law_text_word KX G ?a ?l ?c ?k
        (case a => k_is); (case l => k_is); (case c => k_is); (case k => k_is)
      case D__law_term =>
        refine' Wk.d__law_term KX G ?a ?l ?c ?k
        (case a => k_is); (case l => k_is); (case c => k_is); (case k => k_is)
      case D__law_bound =>
        refine' Wk.d__law_bound KX G ?a ?l ?c ?k
        (case a => k_is); (case l => k_is); (case c => k_is); (case k => k_is)
      case D__law_simple =>
        refine' Wk.d__law_simple KX G ?a ?l ?c ?k
        (case a => k_is); (case l => k_is); (case c => k_is); (case k => k_is)
      case D__law_condition =>
        refine' Wk.d__law_condition KX G ?a ?l ?c ?k
        (case a => k_is); (case l => k_is); (case c => k_is); (case k => k_is)
      case D__law_many =>
        refine' Wk.d__law_many KX G ?a ?l ?c ?k
        (case a => k_is); (case l => k_is); (case c => k_is); (case k => k_is)
      case D__law_joined =>
        refine' Wk.d__law_joined KX G ?a ?l ?c ?k
        (case a => k_is); (case l => k_is); (case c => k_is); (case k => k_is)
      case D__law_term_tokens =>
        refine' Wk.d__law_term_tokens KX G ?a ?l ?c ?k
        (case a => k_is); (case l => k_is); (case c => k_is); (case k => k_is)
      case D__law_last_tokens =>
        refine' Wk.d__law_last_tokens KX G ?a ?l ?c ?k
        (case a => k_is); (case l => k_is); (case c => k_is); (case k => k_is)
      case D__law_tokens =>
        refine' Wk.d__law_tokens KX G ?a ?l ?c ?k
        (case a => k_is); (case l => k_is); (case c => k_is); (case k => k_is)
      case D__law_spaced =>
        refine' Wk.d__law_spaced KX G ?a ?l ?c ?k
        (case a => k_is); (case l => k_is); (case c => k_is); (case k => k_is)
      case D__law_pattern =>
        refine' Wk.d__law_pattern KX G ?a ?l ?c ?k
        (case a => k_is); (case l => k_is); (case c => k_is); (case k => k_is)
      case D__law_bad_token =>
        refine' Wk.d__law_bad_token KX G ?a ?l ?c ?k
        (case a => k_is); (case l => k_is); (case c => k_is); (case k => k_is)
      case D__law_good_token =>
        refine' Wk.d__law_good_token KX G ?a ?l ?c ?k
        (case a => k_is); (case l => k_is); (case c => k_is); (case k => k_is)
      case D__law_mixed =>
        refine' Wk.d__law_mixed KX G ?a ?l ?c ?k
        (case a => k_is); (case l => k_is); (case c => k_is); (case k => k_is)
      case D__law_text =>
        refine' Wk.d__law_text KX G ?a ?l ?c ?k
        (case a => k_is); (case l => k_is); (case c => k_is); (case k => k_is)
      case D__law_read =>
        refine' Wk.d__law_read KX G ?a ?l ?c ?k
        (case a => k_is); (case l => k_is); (case c => k_is); (case k => k_is)
      case D__law_good =>
        refine' Wk.d__law_good KX G ?a ?l ?c ?k
        (case a => k_is); (case l => k_is); (case c => k_is); (case k => k_is)
      case D__law_bad =>
        refine' Wk.d__law_bad KX G ?a ?l ?c ?k
        (case a => k_is); (case l => k_is); (case c => k_is); (case k => k_is)
end PartFin
