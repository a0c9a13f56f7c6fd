import PyProof.Rows.All
import Wide.All
import OpenK.AllK
import Wide.FinOn
import KE.KStateDown
import KE.KDictCopyH
import KE.GoesMore
import KE.GoesZip
import KE.GoesEnum
import HandS.ForMost
import HandS.ForExc
import HandS.Defaults
import HandS.IsInst
import HandS.StrMore
import HandS.Style
import HandS.ExcOwn
import HandS.ExcIs
import HandS.ReplaceLit
import HandS.Walk
import HandS.Zip
import HandS.DictTup
import HandS.More
import HandS.Head0
import HandS.Head1
import HandS.Head2
import HandS.HeadEnd
import HandS.HeadHook1
import HandS.HeadHook2
import HandS.HeadHook3
import HandS.HeadHook4
import PySem.Challenge.RW_pageseen_k80_handlers_cut_into_actions
set_option linter.all false
set_option maxRecDepth 100000
/-! the mathematics of law k80: the cutter of the program, the machine of the law, the actions; over lists of code points -/
namespace K80M
def blank (c : Nat) : Bool := c == 32 || c == 10
/-- a sign at which a plain word ends -/
def ew (c : Nat) : Bool := c == 59 || blank c
abbrev Wd := List Nat × Bool
abbrev Part := Option (List Wd)
def fin (w : List Wd) (r : Bool) : Part := if r then some w else none
/-- up to the first quote, and what stands behind it -/
def q39 : List Nat → Option (List Nat × List Nat)
  | [] => none
  | c :: cs => if c = 39 then some ([], cs) else (q39 cs).map fun p => (c :: p.1, p.2)
def endsW : List Nat → Bool
  | [] => true
  | c :: _ => ew c
def wTake (cs : List Nat) : List Nat := cs.takeWhile fun c => !ew c
def wDrop (cs : List Nat) : List Nat := cs.dropWhile fun c => !ew c
/-- the program's cutter, with fuel -/
def pp : Nat → List Nat → List Wd → Bool → List Part
  | 0, _, _, _ => []
  | _ + 1, [], w, r => [fin w r]
  | n + 1, c :: cs, w, r =>
    if c = 59 then fin w r :: pp n cs [] true
    else if blank c = true then pp n cs w r
    else if c = 39 then
      match q39 cs with
      | none => [none]
      | some p => pp n p.2 (w ++ [(p.1, true)]) (r && endsW p.2)
    else pp n (wDrop (c :: cs)) (w ++ [(wTake (c :: cs), false)]) r
theorem q39_len : ∀ {cs : List Nat} {p : List Nat × List Nat}, q39 cs = some p → p.1.length + 1 + p.2.length = cs.length
  | [], p, h => by simp [q39] at h
  | c :: cs, p, h => by
    unfold q39 at h
    split at h
    · cases h; simp; omega
    · cases e : q39 cs with
      | none => rw [e] at h; simp at h
      | some q =>
        rw [e] at h
        simp only [Option.map_some, Option.some.injEq] at h
        subst h
        have := q39_len e
        simp only [List.length_cons]; omega
theorem wDrop_len (cs : List Nat) : (wTake cs).length + (wDrop cs).length = cs.length := by
  have h := List.takeWhile_append_dropWhile (p := fun c => !ew c) (l := cs)
  have := congrArg List.length h
  simp only [List.length_append] at this
  exact this
theorem wTake_cons {c : Nat} {cs : List Nat} (h : ew c = false) : wTake (c :: cs) = c :: wTake cs := by
  unfold wTake; rw [List.takeWhile_cons]; simp [h]
theorem wDrop_cons {c : Nat} {cs : List Nat} (h : ew c = false) : wDrop (c :: cs) = wDrop cs := by
  unfold wDrop; rw [List.dropWhile_cons]; simp [h]
theorem ew_of {c : Nat} (h1 : c ≠ 59) (h2 : ¬ blank c = true) : ew c = false := by
  unfold ew; simp [h1]; simpa using h2
theorem wDrop_lt {c : Nat} {cs : List Nat} (h1 : c ≠ 59) (h2 : ¬ blank c = true) : (wDrop (c :: cs)).length ≤ cs.length := by
  rw [wDrop_cons (ew_of h1 h2)]
  have := wDrop_len cs; omega
/-- more fuel changes nothing -/
theorem pp_fuel : ∀ (n m : Nat) (cs : List Nat) (w : List Wd) (r : Bool), cs.length < n → cs.length < m → pp n cs w r = pp m cs w r := by
  intro n
  induction n with
  | zero => intro m cs w r h; omega
  | succ n ih =>
    intro m cs w r h1 h2
    cases m with
    | zero => omega
    | succ m =>
      cases cs with
      | nil => rfl
      | cons c cs =>
        simp only [List.length_cons] at h1 h2
        unfold pp
        by_cases e1 : c = 59
        · rw [if_pos e1, if_pos e1, ih m cs [] true (by omega) (by omega)]
        · rw [if_neg e1, if_neg e1]
          by_cases e2 : blank c = true
          · rw [if_pos e2, if_pos e2, ih m cs w r (by omega) (by omega)]
          · rw [if_neg e2, if_neg e2]
            by_cases e3 : c = 39
            · rw [if_pos e3, if_pos e3]
              cases e : q39 cs with
              | none => rfl
              | some p =>
                have := q39_len e
                show pp n p.2 _ _ = pp m p.2 _ _
                rw [ih m p.2 _ _ (by omega) (by omega)]
            · rw [if_neg e3, if_neg e3]
              have := wDrop_lt (cs := cs) e1 e2
              rw [ih m _ _ _ (by omega) (by omega)]
/-- the program's cutter -/
def P (cs : List Nat) (w : List Wd) (r : Bool) : List Part := pp (cs.length + 1) cs w r
theorem P_nil (w : List Wd) (r : Bool) : P [] w r = [fin w r] := rfl
theorem P_end (cs : List Nat) (w : List Wd) (r : Bool) : P (59 :: cs) w r = fin w r :: P cs [] true := by
  show pp (cs.length + 1 + 1) (59 :: cs) w r = _
  unfold pp
  rw [if_pos rfl]
  rfl
theorem P_blank {c : Nat} (h : blank c = true) (cs : List Nat) (w : List Wd) (r : Bool) : P (c :: cs) w r = P cs w r := by
  show pp (cs.length + 1 + 1) (c :: cs) w r = _
  have e : ¬ c = 59 := by
    intro z; subst z; revert h; decide
  conv => lhs; unfold pp
  rw [if_neg e, if_pos h]
  rfl
theorem P_quote (cs : List Nat) (w : List Wd) (r : Bool) : P (39 :: cs) w r = match q39 cs with
    | none => [none]
    | some p => P p.2 (w ++ [(p.1, true)]) (r && endsW p.2) := by
  show pp (cs.length + 1 + 1) (39 :: cs) w r = _
  conv => lhs; unfold pp
  rw [if_neg (by decide), if_neg (by decide), if_pos rfl]
  cases e : q39 cs with
  | none => rfl
  | some p =>
    have := q39_len e
    exact pp_fuel _ _ _ _ _ (by omega) (by omega)
theorem P_word {c : Nat} (h1 : c ≠ 59) (h2 : ¬ blank c = true) (h3 : c ≠ 39) (cs : List Nat) (w : List Wd) (r : Bool) : P (c :: cs) w r = P (wDrop (c :: cs)) (w ++ [(wTake (c :: cs), false)]) r := by
  show pp (cs.length + 1 + 1) (c :: cs) w r = _
  conv => lhs; unfold pp
  rw [if_neg h1, if_neg h2, if_neg h3]
  have := wDrop_lt (cs := cs) h1 h2
  exact pp_fuel _ _ _ _ _ (by omega) (by omega)

/-! ### the machine of the law -/
inductive S where | btw | word | quoted | behind | spoilt deriving DecidableEq
inductive Kd where | blank | stop | quote | other deriving DecidableEq
def kindOf (c : Nat) : Kd := if blank c = true then .blank else if c = 59 then .stop else if c = 39 then .quote else .other
def tab : S → Kd → S
  | .btw, .blank => .btw | .btw, .stop => .btw | .btw, .quote => .quoted | .btw, .other => .word
  | .word, .blank => .btw | .word, .stop => .btw | .word, .quote => .word | .word, .other => .word
  | .quoted, .blank => .quoted | .quoted, .stop => .quoted | .quoted, .quote => .behind | .quoted, .other => .quoted
  | .behind, .blank => .btw | .behind, .stop => .btw | .behind, .quote => .quoted | .behind, .other => .spoilt
  | .spoilt, .blank => .btw | .spoilt, .stop => .btw | .spoilt, .quote => .spoilt | .spoilt, .other => .spoilt
def addLast (ws : List Wd) (c : Nat) : List Wd := match ws.getLast? with
  | none => ws
  | some l => ws.dropLast ++ [(l.1 ++ [c], l.2)]
def isW (s : S) : Bool := s == .word || s == .spoilt
/-- the words behind a sign, where it does not end a part -/
def grow (ws : List Wd) (c : Nat) (st later : S) : List Wd :=
  if isW later = true ∧ isW st = false then ws ++ [([c], false)]
  else if later = .quoted ∧ st ≠ .quoted then ws ++ [([], true)]
  else if isW later = true ∨ later = .quoted then addLast ws c
  else ws
def keepR (r : Bool) (st : S) (k : Kd) : Bool := r && (st != .behind || (k == .blank || k == .stop))
def lm : List Nat → List Wd → S → Bool → List Part
  | [], ws, st, r => [fin ws (r && st != .quoted)]
  | c :: cs, ws, st, r =>
    if st ≠ .quoted ∧ kindOf c = .stop then fin ws (keepR r st (kindOf c)) :: lm cs [] (tab st (kindOf c)) true
    else lm cs (grow ws c st (tab st (kindOf c))) (tab st (kindOf c)) (keepR r st (kindOf c))
theorem addLast_snoc (ws : List Wd) (a : List Nat) (b : Bool) (c : Nat) : addLast (ws ++ [(a, b)]) c = ws ++ [(a ++ [c], b)] := by
  unfold addLast
  simp
theorem kind_blank {c : Nat} (h : blank c = true) : kindOf c = .blank := by unfold kindOf; rw [if_pos h]
theorem kind_stop : kindOf 59 = .stop := by decide
theorem kind_quote : kindOf 39 = .quote := by decide
theorem kind_other {c : Nat} (h1 : c ≠ 59) (h2 : ¬ blank c = true) (h3 : c ≠ 39) : kindOf c = .other := by unfold kindOf; rw [if_neg h2, if_neg h1, if_neg h3]
theorem lm_nil (ws : List Wd) (st : S) (r : Bool) : lm [] ws st r = [fin ws (r && st != .quoted)] := by unfold lm; rfl
theorem lm_step (c : Nat) (cs : List Nat) (ws : List Wd) (st : S) (r : Bool) (h : ¬ (st ≠ .quoted ∧ kindOf c = .stop)) :
    lm (c :: cs) ws st r = lm cs (grow ws c st (tab st (kindOf c))) (tab st (kindOf c)) (keepR r st (kindOf c)) := by
  conv => lhs; unfold lm
  rw [if_neg h]
theorem lm_stop (cs : List Nat) (ws : List Wd) (st : S) (r : Bool) (h : st ≠ .quoted) : lm (59 :: cs) ws st r = fin ws r :: lm cs [] .btw true := by
  conv => lhs; unfold lm
  rw [if_pos ⟨h, kind_stop⟩, kind_stop]
  have e : keepR r st .stop = r := by cases r <;> cases st <;> rfl
  rw [e]
  cases st <;> first | rfl | exact absurd rfl h
theorem lm_blank {c : Nat} (hb : blank c = true) (cs : List Nat) (ws : List Wd) (st : S) (r : Bool) (h : st ≠ .quoted) : lm (c :: cs) ws st r = lm cs ws .btw r := by
  rw [lm_step _ _ _ _ _ (by rw [kind_blank hb]; simp), kind_blank hb]
  have e : keepR r st .blank = r := by cases r <;> cases st <;> rfl
  rw [e]
  cases st <;> first | rfl | exact absurd rfl h
theorem lm_spoilt : ∀ (cs : List Nat) (ws : List Wd) (r : Bool), lm cs ws .spoilt r = lm cs ws .word r
  | [], ws, r => by rw [lm_nil, lm_nil]; rfl
  | c :: cs, ws, r => by
    have ih := lm_spoilt cs
    by_cases h1 : c = 59
    · subst h1; rw [lm_stop _ _ _ _ (by decide), lm_stop _ _ _ _ (by decide)]
    · by_cases h2 : blank c = true
      · rw [lm_blank h2 _ _ _ _ (by decide), lm_blank h2 _ _ _ _ (by decide)]
      · have hk : kindOf c = .quote ∨ kindOf c = .other := by
          by_cases h3 : c = 39
          · subst h3; exact .inl kind_quote
          · exact .inr (kind_other h1 h2 h3)
        rw [lm_step _ _ _ _ _ (by rcases hk with k | k <;> rw [k] <;> simp), lm_step _ _ _ _ _ (by rcases hk with k | k <;> rw [k] <;> simp)]
        rcases hk with k | k <;> rw [k] <;> exact ih _ _
theorem lm_quoted : ∀ (cs : List Nat) (ws : List Wd) (a : List Nat) (r : Bool), lm cs (ws ++ [(a, true)]) .quoted r = match q39 cs with
    | none => [none]
    | some p => lm p.2 (ws ++ [(a ++ p.1, true)]) .behind r
  | [], ws, a, r => by
    rw [lm_nil]
    cases r <;> rfl
  | c :: cs, ws, a, r => by
    rw [lm_step _ _ _ _ _ (by simp)]
    by_cases e : c = 39
    · subst e
      rw [kind_quote]
      show lm cs (grow (ws ++ [(a, true)]) 39 .quoted .behind) .behind (keepR r .quoted .quote) = _
      have e1 : grow (ws ++ [(a, true)]) 39 .quoted .behind = ws ++ [(a, true)] := rfl
      have e2 : keepR r .quoted .quote = r := by cases r <;> rfl
      have e3 : q39 (39 :: cs) = some ([], cs) := by unfold q39; rw [if_pos rfl]
      rw [e1, e2, e3]
      show _ = lm cs (ws ++ [(a ++ [], true)]) .behind r
      rw [List.append_nil]
    · have hk : kindOf c ≠ .quote := by
        unfold kindOf; split
        · simp
        · split
          · simp
          · first | (rw [if_neg e]; simp) | simp
      have e1 : tab .quoted (kindOf c) = .quoted := by
        cases h : kindOf c <;> first | rfl | exact absurd h hk
      have e2 : keepR r .quoted (kindOf c) = r := by cases r <;> rfl
      rw [e1, e2]
      have e3 : grow (ws ++ [(a, true)]) c .quoted .quoted = ws ++ [(a ++ [c], true)] := by
        show addLast _ _ = _
        exact addLast_snoc ws a true c
      rw [e3, lm_quoted cs ws (a ++ [c]) r]
      have e4 : q39 (c :: cs) = (q39 cs).map fun p => (c :: p.1, p.2) := by
        conv => lhs; unfold q39
        rw [if_neg e]
      rw [e4]
      cases q39 cs with
      | none => rfl
      | some p =>
        show lm p.2 (ws ++ [(a ++ [c] ++ p.1, true)]) .behind r = lm p.2 (ws ++ [(a ++ (c :: p.1), true)]) .behind r
        rw [List.append_assoc a [c] p.1]
        rfl
theorem lm_word : ∀ (cs : List Nat) (ws : List Wd) (a : List Nat) (r : Bool), lm cs (ws ++ [(a, false)]) .word r = lm (wDrop cs) (ws ++ [(a ++ wTake cs, false)]) .btw r
  | [], ws, a, r => by
    show lm [] (ws ++ [(a, false)]) .word r = lm [] (ws ++ [(a ++ [], false)]) .btw r
    rw [List.append_nil, lm_nil, lm_nil]
    rfl
  | c :: cs, ws, a, r => by
    by_cases h1 : c = 59
    · subst h1
      have e : wDrop (59 :: cs) = 59 :: cs := by unfold wDrop; rw [List.dropWhile_cons]; simp [ew]
      have e2 : wTake (59 :: cs) = [] := by unfold wTake; rw [List.takeWhile_cons]; simp [ew]
      rw [e, e2, lm_stop _ _ _ _ (by decide), lm_stop _ _ _ _ (by decide), List.append_nil]
    · by_cases h2 : blank c = true
      · have e : wDrop (c :: cs) = c :: cs := by unfold wDrop; rw [List.dropWhile_cons]; simp [ew, h2]
        have e2 : wTake (c :: cs) = [] := by unfold wTake; rw [List.takeWhile_cons]; simp [ew, h2]
        rw [e, e2, lm_blank h2 _ _ _ _ (by decide), lm_blank h2 _ _ _ _ (by decide), List.append_nil]
      · have hw := ew_of h1 h2
        rw [wDrop_cons hw, wTake_cons hw]
        have ih := lm_word cs ws (a ++ [c]) r
        have hk : kindOf c = .quote ∨ kindOf c = .other := by
          by_cases h3 : c = 39
          · subst h3; exact .inl kind_quote
          · exact .inr (kind_other h1 h2 h3)
        have et : tab .word (kindOf c) = .word := by rcases hk with k | k <;> rw [k] <;> rfl
        have er : keepR r .word (kindOf c) = r := by cases r <;> rfl
        have eg : grow (ws ++ [(a, false)]) c .word .word = ws ++ [(a ++ [c], false)] := by
          show addLast _ _ = _
          exact addLast_snoc ws a false c
        rw [lm_step _ _ _ _ _ (by rcases hk with k | k <;> rw [k] <;> simp), et, er, eg, ih, List.append_assoc a [c]]
        rfl
theorem lm_behind (cs : List Nat) (ws : List Wd) (r : Bool) : lm cs ws .behind r = lm cs ws .btw (r && endsW cs) := by
  cases cs with
  | nil => rw [lm_nil, lm_nil]; cases r <;> rfl
  | cons c cs =>
    by_cases h1 : c = 59
    · subst h1
      rw [lm_stop _ _ _ _ (by decide), lm_stop _ _ _ _ (by decide)]
      cases r <;> rfl
    · by_cases h2 : blank c = true
      · rw [lm_blank h2 _ _ _ _ (by decide), lm_blank h2 _ _ _ _ (by decide)]
        have e : endsW (c :: cs) = true := by show ew c = true; unfold ew; rw [h2]; simp
        rw [e, Bool.and_true]
      · have hw := ew_of h1 h2
        have e : (r && endsW (c :: cs)) = false := by show (r && ew c) = false; rw [hw]; simp
        rw [e]
        by_cases h3 : c = 39
        · subst h3
          rw [lm_step _ _ _ _ _ (by rw [kind_quote]; simp), lm_step _ _ _ _ _ (by rw [kind_quote]; simp), kind_quote]
          have e2 : keepR r .behind .quote = false := by cases r <;> rfl
          have e3 : keepR false .btw .quote = false := rfl
          rw [e2, e3]
          rfl
        · have hk := kind_other h1 h2 h3
          rw [lm_step _ _ _ _ _ (by rw [hk]; simp), lm_step _ _ _ _ _ (by rw [hk]; simp), hk]
          have e2 : keepR r .behind .other = false := by cases r <;> rfl
          have e3 : keepR false .btw .other = false := rfl
          rw [e2, e3]
          show lm cs (ws ++ [([c], false)]) .spoilt false = lm cs (ws ++ [([c], false)]) .word false
          exact lm_spoilt _ _ _
/-- the machine finds what the cutter finds -/
theorem lm_eq : ∀ (n : Nat) (cs : List Nat) (ws : List Wd) (r : Bool), cs.length < n → lm cs ws .btw r = P cs ws r := by
  intro n
  induction n with
  | zero => intro cs ws r h; omega
  | succ n ih =>
    intro cs ws r h
    cases cs with
    | nil => rw [lm_nil, P_nil]; cases r <;> rfl
    | cons c cs =>
      simp only [List.length_cons] at h
      by_cases h1 : c = 59
      · subst h1
        rw [P_end, lm_stop _ _ _ _ (by decide), ih cs [] true (by omega)]
      · by_cases h2 : blank c = true
        · rw [P_blank h2, lm_blank h2 _ _ _ _ (by decide)]
          exact ih cs ws r (by omega)
        · by_cases h3 : c = 39
          · subst h3
            rw [P_quote, lm_step _ _ _ _ _ (by rw [kind_quote]; simp), kind_quote]
            show lm cs (ws ++ [([], true)]) .quoted (keepR r .btw .quote) = _
            have e : keepR r .btw .quote = r := by cases r <;> rfl
            rw [e, lm_quoted]
            cases e2 : q39 cs with
            | none => rfl
            | some p =>
              have := q39_len e2
              show lm p.2 (ws ++ [([] ++ p.1, true)]) .behind r = _
              rw [lm_behind, List.nil_append]
              exact ih p.2 _ _ (by omega)
          · rw [P_word h1 h2 h3]
            have hw := ew_of h1 h2
            rw [lm_step _ _ _ _ _ (by rw [kind_other h1 h2 h3]; simp), kind_other h1 h2 h3]
            show lm cs (ws ++ [([c], false)]) .word (keepR r .btw .other) = _
            have e : keepR r .btw .other = r := by cases r <;> rfl
            rw [e, lm_word, wDrop_cons hw, wTake_cons hw]
            have := wDrop_len cs
            exact ih _ _ _ (by omega)
theorem machine (cs : List Nat) : lm cs [] .btw true = P cs [] true := lm_eq _ cs [] true (Nat.lt_succ_self _)
end K80M

set_option linter.all false
set_option maxRecDepth 100000
/-! law k80, the mathematics, second part: actions, right parts, joined texts -/
namespace K80M
def cp (s : String) : List Nat := s.toList.map Char.toNat
def letters : List Nat := [97,98,99,100,101,102,103,104,105,106,107,108,109,110,111,112,113,114,115,116,117,118,119,120,121,122]
def nameSigns : List Nat := letters ++ [48,49,50,51,52,53,54,55,56,57,45]
inductive Kn where | t | n | w | v deriving DecidableEq
def forms : List (List Nat × List Kn) := [(cp "set", [.t, .n, .v]), (cp "drop", [.t, .n]), (cp "add", [.t, .w]), (cp "cut", [.t, .w]), (cp "flip", [.t, .w]), (cp "say", [.t, .v]),
  (cp "take", [.t]), (cp "go", [.w]), (cp "focus", [.t]), (cp "stop", []), (cp "leave", [])]
def look (k : List Nat) : List (List Nat × List Kn) → Option (List Kn)
  | [] => none
  | p :: r => if p.1 = k then some p.2 else look k r
def isName (w : List Nat) : Bool := decide (1 ≤ w.length) && decide (w.length ≤ 10) && (match w with
  | [] => false
  | c :: _ => decide (c ∈ letters)) && w.all fun c => decide (c ∈ nameSigns)
def isTgt (w : List Nat) : Bool := decide (w = cp "self") || (decide (w.head? = some 35) && decide (2 ≤ w.length))
def fit : Kn → Wd → Bool
  | .v, _ => true
  | .t, w => !w.2 && isTgt w.1
  | .n, w => !w.2 && isName w.1
  | .w, w => !w.2
def allFit : List Kn → List Wd → Bool
  | [], [] => true
  | k :: ks, w :: ws => fit k w && allFit ks ws
  | _, _ => false
def act : Part → Option (List (List Nat))
  | none => none
  | some [] => none
  | some (w0 :: ws) => if w0.2 = true then none else match look w0.1 forms with
    | none => none
    | some ks => if allFit ks ws = true then some ((w0 :: ws).map (·.1)) else none
def acts (cs : List Nat) : List (List (List Nat)) := (P cs [] true).filterMap act
theorem allFit_len : ∀ {ks : List Kn} {ws : List Wd}, allFit ks ws = true → ks.length = ws.length
  | [], [], _ => rfl
  | [], _ :: _, h => by simp [allFit] at h
  | _ :: _, [], h => by simp [allFit] at h
  | k :: ks, w :: ws, h => by
    simp only [allFit, Bool.and_eq_true] at h
    simp [allFit_len h.2]

/-! ### raw words -/
/-- a plain word as it stands -/
def Plain (w : List Nat) : Prop := w ≠ [] ∧ w.head? ≠ some 39 ∧ ∀ c ∈ w, ew c = false
/-- a quoted word as it stands -/
def Quoted (w : List Nat) : Prop := ∃ q, w = 39 :: (q ++ [39]) ∧ 39 ∉ q
def Raw (w : List Nat) : Prop := Plain w ∨ Quoted w
/-- the word that a raw one is -/
def tok (w : List Nat) : Wd := if w.head? = some 39 then ((w.drop 1).dropLast, true) else (w, false)
theorem tok_plain {w : List Nat} (h : Plain w) : tok w = (w, false) := if_neg h.2.1
theorem tok_quoted (q : List Nat) : tok (39 :: (q ++ [39])) = (q, true) := by
  unfold tok
  rw [if_pos (show (39 :: (q ++ [39])).head? = some 39 from rfl)]
  simp
theorem q39_app : ∀ {q : List Nat} (rest : List Nat), 39 ∉ q → q39 (q ++ 39 :: rest) = some (q, rest)
  | [], rest, _ => by show q39 (39 :: rest) = _; unfold q39; rw [if_pos rfl]
  | c :: q, rest, h => by
    have h1 : c ≠ 39 := fun e => h (by simp [e])
    have h2 : 39 ∉ q := fun e => h (by simp [e])
    show q39 (c :: (q ++ 39 :: rest)) = _
    conv => lhs; unfold q39
    rw [if_neg h1, q39_app rest h2]
    rfl
theorem wTake_app : ∀ {w : List Nat} (rest : List Nat), (∀ c ∈ w, ew c = false) → endsW rest = true → wTake (w ++ rest) = w ∧ wDrop (w ++ rest) = rest
  | [], rest, _, h => by
    cases rest with
    | nil => exact ⟨rfl, rfl⟩
    | cons c r =>
      have hc : ew c = true := h
      constructor
      · show wTake (c :: r) = []
        unfold wTake; rw [List.takeWhile_cons]; simp [hc]
      · show wDrop (c :: r) = c :: r
        unfold wDrop; rw [List.dropWhile_cons]; simp [hc]
  | c :: w, rest, h, hr => by
    have hc := h c (by simp)
    obtain ⟨e1, e2⟩ := wTake_app (w := w) rest (fun x hx => h x (by simp [hx])) hr
    exact ⟨by show wTake (c :: (w ++ rest)) = _; rw [wTake_cons hc, e1], by show wDrop (c :: (w ++ rest)) = _; rw [wDrop_cons hc, e2]⟩
theorem P_raw {w : List Nat} (h : Raw w) {rest : List Nat} (hr : endsW rest = true) (ws : List Wd) (r : Bool) : P (w ++ rest) ws r = P rest (ws ++ [tok w]) r := by
  rcases h with h | ⟨q, rfl, hq⟩
  · rw [tok_plain h]
    obtain ⟨h0, h1, h2⟩ := h
    cases w with
    | nil => exact absurd rfl h0
    | cons c w =>
      have hc := h2 c (by simp)
      have h59 : c ≠ 59 := by intro e; subst e; revert hc; decide
      have hb : ¬ blank c = true := by
        intro e
        have : ew c = true := by unfold ew; rw [e]; simp
        rw [hc] at this; cases this
      have h39 : c ≠ 39 := fun e => h1 (by rw [e]; rfl)
      show P (c :: (w ++ rest)) ws r = _
      rw [P_word h59 hb h39]
      obtain ⟨e1, e2⟩ := wTake_app (w := c :: w) rest h2 hr
      have e1' : wTake (c :: (w ++ rest)) = c :: w := e1
      have e2' : wDrop (c :: (w ++ rest)) = rest := e2
      rw [e1', e2']
  · rw [tok_quoted]
    show P (39 :: ((q ++ [39]) ++ rest)) ws r = _
    rw [P_quote, List.append_assoc, show ([39] ++ rest : List Nat) = 39 :: rest from rfl, q39_app rest hq]
    show P rest (ws ++ [(q, true)]) (r && endsW rest) = _
    rw [hr, Bool.and_true]
theorem P_blanks : ∀ {b : List Nat}, (∀ c ∈ b, blank c = true) → ∀ (rest : List Nat) (ws : List Wd) (r : Bool), P (b ++ rest) ws r = P rest ws r
  | [], _, rest, ws, r => rfl
  | c :: b, h, rest, ws, r => by
    show P (c :: (b ++ rest)) ws r = _
    rw [P_blank (h c (by simp)), P_blanks (fun x hx => h x (by simp [hx]))]
theorem ends_blanks {b rest : List Nat} (h : ∀ c ∈ b, blank c = true) (hb : b ≠ [] ∨ endsW rest = true) : endsW (b ++ rest) = true := by
  cases b with
  | nil =>
    rcases hb with z | z
    · exact absurd rfl z
    · exact z
  | cons c b =>
    show ew c = true
    unfold ew
    rw [h c (by simp)]
    simp
def Blanks (b : List Nat) : Prop := ∀ c ∈ b, blank c = true
/-- words with blanks between: from the first word on (each with the blanks ahead of it), the blanks at the end -/
def glue : List (List Nat × List Nat) → List Nat → List Nat
  | [], e => e
  | p :: r, e => p.1 ++ (p.2 ++ glue r e)
/-- a joined text of words: blanks b0 ahead, then the words, each but the first with blanks ahead -/
structure Joined (ws : List (List Nat)) (t : List Nat) : Prop where
  ex : ∃ (ps : List (List Nat × List Nat)) (e : List Nat), ps.map (·.2) = ws ∧ t = glue ps e ∧ Blanks e ∧ (∀ p ∈ ps, Blanks p.1) ∧ ∀ (i : Nat) (p : List Nat × List Nat), ps[i]? = some p → 1 ≤ i → p.1 ≠ []
theorem P_glue : ∀ (ps : List (List Nat × List Nat)) (e rest : List Nat) (ws : List Wd) (r : Bool), (∀ p ∈ ps, Raw p.2) → Blanks e → (∀ p ∈ ps, Blanks p.1) → (∀ p ∈ ps.tail, p.1 ≠ []) → endsW rest = true →
    P (glue ps e ++ rest) ws r = P rest (ws ++ ps.map fun p => tok p.2) r
  | [], e, rest, ws, r, _, he, _, _, hr => by
    show P (e ++ rest) ws r = P rest (ws ++ []) r
    rw [List.append_nil, P_blanks he]
  | p :: ps, e, rest, ws, r, hw, he, hb, hn, hr => by
    show P ((p.1 ++ (p.2 ++ glue ps e)) ++ rest) ws r = _
    rw [List.append_assoc, P_blanks (hb p (by simp)), List.append_assoc, P_raw (hw p (by simp))]
    · rw [P_glue ps e rest _ r (fun q hq => hw q (by simp [hq])) he (fun q hq => hb q (by simp [hq])) (fun q hq => hn q (List.mem_of_mem_tail hq)) hr]
      simp
    · cases ps with
      | nil =>
        show endsW (e ++ rest) = true
        exact ends_blanks he (.inr hr)
      | cons q qs =>
        show endsW ((q.1 ++ (q.2 ++ glue qs e)) ++ rest) = true
        rw [List.append_assoc]
        exact ends_blanks (hb q (by simp)) (.inl (hn q (by simp)))
theorem Joined.P {ws : List (List Nat)} {t : List Nat} (j : Joined ws t) (hw : ∀ w ∈ ws, Raw w) {rest : List Nat} (hr : endsW rest = true) (us : List Wd) (r : Bool) : P (t ++ rest) us r = P rest (us ++ ws.map tok) r := by
  obtain ⟨ps, e, rfl, rfl, he, hb, hn⟩ := j
  rw [P_glue ps e rest us r (fun p hp => hw p.2 (List.mem_map.mpr ⟨p, hp, rfl⟩)) he hb (fun p hp => ?_) hr]
  · rw [List.map_map]; rfl
  · obtain ⟨i, hi, e⟩ := List.mem_iff_getElem.mp hp
    refine hn (i + 1) p ?_ (by omega)
    rw [List.getElem_tail] at e
    rw [List.getElem?_eq_getElem (by rw [List.length_tail] at hi; omega), e]
/-! ### texts of several parts -/
/-- joined by the end sign -/
def parts59 : List (List Nat) → List Nat
  | [] => []
  | [t] => t
  | t :: u :: r => t ++ (59 :: parts59 (u :: r))
/-- texts of parts ws, joined by the end sign -/
theorem P_parts : ∀ (js : List (List (List Nat) × List Nat)), js ≠ [] → (∀ j ∈ js, Joined j.1 j.2 ∧ ∀ w ∈ j.1, Raw w) → ∀ (rest : List Nat),
    K80M.P (parts59 (js.map (·.2)) ++ 59 :: rest) [] true = (js.map fun j => some (j.1.map tok)) ++ K80M.P rest [] true
  | [], h, _, _ => absurd rfl h
  | [j], _, h, rest => by
    show K80M.P (j.2 ++ 59 :: rest) [] true = [some (j.1.map tok)] ++ _
    obtain ⟨h1, h2⟩ := h j (by simp)
    rw [h1.P h2 rfl, P_end]
    rfl
  | j :: k :: r, _, h, rest => by
    show K80M.P ((j.2 ++ (59 :: parts59 (k.2 :: r.map (·.2)))) ++ 59 :: rest) [] true = _
    obtain ⟨h1, h2⟩ := h j (by simp)
    rw [List.append_assoc, h1.P h2 rfl]
    show K80M.P (59 :: (parts59 (k.2 :: r.map (·.2)) ++ 59 :: rest)) _ true = _
    rw [P_end]
    have ih := P_parts (k :: r) (by simp) (fun x hx => h x (by simp at hx ⊢; right; exact hx)) rest
    have e : parts59 (k.2 :: r.map (·.2)) = parts59 ((k :: r).map (·.2)) := rfl
    rw [e, ih]
    rfl
theorem P_parts0 : ∀ (js : List (List (List Nat) × List Nat)), js ≠ [] → (∀ j ∈ js, Joined j.1 j.2 ∧ ∀ w ∈ j.1, Raw w) →
    K80M.P (parts59 (js.map (·.2))) [] true = js.map fun j => some (j.1.map tok)
  | [], h, _ => absurd rfl h
  | [j], _, h => by
    show K80M.P j.2 [] true = [some (j.1.map tok)]
    obtain ⟨h1, h2⟩ := h j (by simp)
    have := h1.P h2 (rest := []) rfl [] true
    rw [List.append_nil] at this
    rw [this, P_nil]
    rfl
  | j :: k :: r, _, h => by
    show K80M.P (j.2 ++ (59 :: parts59 (k.2 :: r.map (·.2)))) [] true = _
    obtain ⟨h1, h2⟩ := h j (by simp)
    rw [h1.P h2 rfl, P_end]
    have ih := P_parts0 (k :: r) (by simp) (fun x hx => h x (by simp at hx ⊢; right; exact hx))
    have e : parts59 (k.2 :: r.map (·.2)) = parts59 ((k :: r).map (·.2)) := rfl
    rw [e, ih]
    rfl
/-! ### right parts -/
def Tgt (w : List Nat) : Prop := Plain w ∧ isTgt w = true
def Nm (w : List Nat) : Prop := isName w = true
theorem Nm.plain {w : List Nat} (h : Nm w) : Plain w := by
  unfold Nm isName at h
  simp only [Bool.and_eq_true, decide_eq_true_eq, List.all_eq_true] at h
  obtain ⟨⟨⟨h1, h2⟩, h3⟩, h4⟩ := h
  have key : ∀ c ∈ nameSigns, ew c = false ∧ c ≠ 39 := by decide
  refine ⟨fun e => by subst e; simp at h1, ?_, fun c hc => (key c (h4 c hc)).1⟩
  cases w with
  | nil => simp at h1
  | cons c w =>
    intro e
    have e' : c = 39 := by simpa using e
    exact (key c (h4 c (by simp))).2 e'
/-- the words of a right part, as they stand -/
inductive Right : List (List Nat) → Prop where
  | set {t n v} (ht : Tgt t) (hn : Nm n) (hv : Raw v) : Right [cp "set", t, n, v]
  | say {t v} (ht : Tgt t) (hv : Raw v) : Right [cp "say", t, v]
  | drop {t n} (ht : Tgt t) (hn : Nm n) : Right [cp "drop", t, n]
  | add {t v} (ht : Tgt t) (hv : Plain v) : Right [cp "add", t, v]
  | cut {t v} (ht : Tgt t) (hv : Plain v) : Right [cp "cut", t, v]
  | flip {t v} (ht : Tgt t) (hv : Plain v) : Right [cp "flip", t, v]
  | take {t} (ht : Tgt t) : Right [cp "take", t]
  | go {v} (hv : Plain v) : Right [cp "go", v]
  | focus {t} (ht : Tgt t) : Right [cp "focus", t]
  | stop : Right [cp "stop"]
  | leave : Right [cp "leave"]
theorem plain_of {s : List Nat} (h1 : s ≠ []) (h2 : s.head? ≠ some 39) (h3 : (s.all fun c => !ew c) = true) : Plain s :=
  ⟨h1, h2, fun c hc => by simpa using List.all_eq_true.mp h3 c hc⟩
theorem Right.raw {ws : List (List Nat)} (h : Right ws) : ∀ w ∈ ws, Raw w := by
  have k : ∀ s : List Nat, s ∈ forms.map (·.1) → Raw s := by
    intro s hs
    refine .inl (plain_of ?_ ?_ ?_)
    · intro e; subst e; revert hs; decide
    · have : ∀ s ∈ forms.map (·.1), s.head? ≠ some 39 := by decide
      exact this s hs
    · have : ∀ s ∈ forms.map (·.1), (s.all fun c => !ew c) = true := by decide
      exact this s hs
  cases h <;> intro w hw <;> simp only [List.mem_cons, List.not_mem_nil, or_false] at hw
  case set ht hn hv =>
    rcases hw with rfl | rfl | rfl | rfl
    · exact k _ (by decide)
    · exact .inl ht.1
    · exact .inl hn.plain
    · exact hv
  case say ht hv =>
    rcases hw with rfl | rfl | rfl
    · exact k _ (by decide)
    · exact .inl ht.1
    · exact hv
  case drop ht hn =>
    rcases hw with rfl | rfl | rfl
    · exact k _ (by decide)
    · exact .inl ht.1
    · exact .inl hn.plain
  case add ht hv =>
    rcases hw with rfl | rfl | rfl
    · exact k _ (by decide)
    · exact .inl ht.1
    · exact .inl hv
  case cut ht hv =>
    rcases hw with rfl | rfl | rfl
    · exact k _ (by decide)
    · exact .inl ht.1
    · exact .inl hv
  case flip ht hv =>
    rcases hw with rfl | rfl | rfl
    · exact k _ (by decide)
    · exact .inl ht.1
    · exact .inl hv
  case take ht =>
    rcases hw with rfl | rfl
    · exact k _ (by decide)
    · exact .inl ht.1
  case go hv =>
    rcases hw with rfl | rfl
    · exact k _ (by decide)
    · exact .inl hv
  case focus ht =>
    rcases hw with rfl | rfl
    · exact k _ (by decide)
    · exact .inl ht.1
  case stop =>
    subst hw; exact k _ (by decide)
  case leave =>
    subst hw; exact k _ (by decide)
theorem fit_t {t : List Nat} (h : Tgt t) : fit .t (tok t) = true := by rw [tok_plain h.1]; exact h.2
theorem fit_n {t : List Nat} (h : Nm t) : fit .n (tok t) = true := by rw [tok_plain h.plain]; exact h
theorem fit_w {t : List Nat} (h : Plain t) : fit .w (tok t) = true := by rw [tok_plain h]; rfl
theorem fit_v {t : List Nat} : fit .v (tok t) = true := rfl
theorem act_of {s : List Nat} {ks : List Kn} {ws : List (List Nat)} (hs : tok s = (s, false)) (hl : look s forms = some ks) (hf : allFit ks (ws.map tok) = true) :
    act (some ((s :: ws).map tok)) = some ((s :: ws).map fun w => (tok w).1) := by
  rw [List.map_cons, hs]
  show (if (s, false).2 = true then none else match look (s, false).1 forms with
    | none => none
    | some ks => if allFit ks (ws.map tok) = true then some (((s, false) :: ws.map tok).map (·.1)) else none) = _
  rw [if_neg (show ¬ ((s, false) : Wd).2 = true from Bool.false_ne_true), hl]
  show (if allFit ks (ws.map tok) = true then _ else none) = _
  rw [if_pos hf, List.map_cons, List.map_map, List.map_cons, hs]
  rfl
/-- what a right part says -/
theorem Right.act {ws : List (List Nat)} (h : Right ws) : act (some (ws.map tok)) = some (ws.map fun w => (tok w).1) := by
  cases h
  case set ht hn hv => exact act_of (ks := [.t, .n, .v]) (by decide) (by decide) (by simp [allFit, fit_t ht, fit_n hn, fit_v])
  case say ht hv => exact act_of (ks := [.t, .v]) (by decide) (by decide) (by simp [allFit, fit_t ht, fit_v])
  case drop ht hn => exact act_of (ks := [.t, .n]) (by decide) (by decide) (by simp [allFit, fit_t ht, fit_n hn])
  case add ht hv => exact act_of (ks := [.t, .w]) (by decide) (by decide) (by simp [allFit, fit_t ht, fit_w hv])
  case cut ht hv => exact act_of (ks := [.t, .w]) (by decide) (by decide) (by simp [allFit, fit_t ht, fit_w hv])
  case flip ht hv => exact act_of (ks := [.t, .w]) (by decide) (by decide) (by simp [allFit, fit_t ht, fit_w hv])
  case take ht => exact act_of (ks := [.t]) (by decide) (by decide) (by simp [allFit, fit_t ht])
  case go hv => exact act_of (ks := [.w]) (by decide) (by decide) (by simp [allFit, fit_w hv])
  case focus ht => exact act_of (ks := [.t]) (by decide) (by decide) (by simp [allFit, fit_t ht])
  case stop => exact act_of (ks := []) (by decide) (by decide) (by simp [allFit])
  case leave => exact act_of (ks := []) (by decide) (by decide) (by simp [allFit])
def said (ws : List (List Nat)) : List (List Nat) := ws.map fun w => (tok w).1
theorem acts_parts {js : List (List (List Nat) × List Nat)} (h0 : js ≠ []) (h : ∀ j ∈ js, Joined j.1 j.2 ∧ Right j.1) : acts (parts59 (js.map (·.2))) = js.map fun j => said j.1 := by
  unfold acts
  rw [P_parts0 js h0 fun j hj => ⟨(h j hj).1, (h j hj).2.raw⟩]
  clear h0
  induction js with
  | nil => rfl
  | cons j r ih =>
    rw [List.map_cons, List.map_cons, List.filterMap_cons, (h j (by simp)).2.act]
    show said j.1 :: _ = _
    rw [ih fun k hk => h k (by simp [hk])]
theorem acts_nil : acts [] = [] := rfl
theorem acts_more {js : List (List (List Nat) × List Nat)} (h0 : js ≠ []) (h : ∀ j ∈ js, Joined j.1 j.2 ∧ Right j.1) (rest : List Nat) : acts (parts59 (js.map (·.2)) ++ 59 :: rest) = acts (parts59 (js.map (·.2))) ++ acts rest := by
  have h' : ∀ j ∈ js, Joined j.1 j.2 ∧ ∀ w ∈ j.1, Raw w := fun j hj => ⟨(h j hj).1, (h j hj).2.raw⟩
  unfold acts
  rw [P_parts js h0 h', P_parts0 js h0 h', List.filterMap_append]
/-- told again and again -/
theorem acts_rep {js : List (List (List Nat) × List Nat)} (h0 : js ≠ []) (h : ∀ j ∈ js, Joined j.1 j.2 ∧ Right j.1) : ∀ n : Nat,
    acts (List.replicate n (parts59 (js.map (·.2)) ++ [59])).flatten = (List.replicate n (acts (parts59 (js.map (·.2))))).flatten
  | 0 => rfl
  | n + 1 => by
    rw [List.replicate_succ, List.replicate_succ, List.flatten_cons, List.flatten_cons, List.append_assoc]
    show acts (parts59 (js.map (·.2)) ++ 59 :: (List.replicate n (parts59 (js.map (·.2)) ++ [59])).flatten) = _
    rw [acts_more h0 h, acts_rep h0 h n]
theorem acts_stop : acts (cp "stop") = [[cp "stop"]] := by decide
end K80M

set_option Elab.async false
set_option linter.all false
set_option maxRecDepth 100000
set_option maxHeartbeats 4000000
/-! rules that the hand layer lacks, and short forms of those that it has -/
namespace K80
open PySem PySem.Spec PyProof.Rows L2
/-! ### a def by its name -/
/-- the module's name x is a def that keeps the promise sp at the level k -/
structure Cal (P : Program) (w : World) (K : PySem.W.Frag) (mg : Str → Option Value) (base : Heap) (CX : CXT) (k : Nat) (x : Str) (ps : List Str) (sp : Sp) : Prop where
  ex : ∃ (a : Addr) (fd : FuncData), FnOk P w K mg base CX k a fd ps sp ∧ mg x = some (.ref a) ∧ PySem.W.keepIn K (.ref a) = true ∧ Binds K fd ps []
theorem Cal.mono {P : Program} {w : World} {K : PySem.W.Frag} {mg : Str → Option Value} {base : Heap} {CX : CXT} {j k : Nat} {x : Str} {ps : List Str} {sp : Sp} (C : Cal P w K mg base CX j x ps sp) (h : j ≤ k) : Cal P w K mg base CX k x ps sp := by
  obtain ⟨a, fd, F, m, kp, b⟩ := C.ex
  exact ⟨a, fd, F.mono h, m, kp, b⟩
theorem Cal.imp {P : Program} {w : World} {K : PySem.W.Frag} {mg : Str → Option Value} {base : Heap} {CX : CXT} {k : Nat} {x : Str} {ps : List Str} {sp sp' : Sp} (C : Cal P w K mg base CX k x ps sp) (h : ∀ vs H Q E, sp' vs H Q E → sp vs H Q E) :
    Cal P w K mg base CX k x ps sp' := by
  obtain ⟨a, fd, F, m, kp, b⟩ := C.ex
  exact ⟨a, fd, F.imp h, m, kp, b⟩
/-- where the def st stands behind the top -/
structure At (K : PySem.W.Frag) (mg : Str → Option Value) (x : Str) (st : Stmt) : Prop where
  ex : ∃ (a : Addr) (fd : FuncData), FunD K x x (defArgs st) (defBody st) (defScope st) [] [] a fd ∧ mg x = some (.ref a)
section
variable {P : Program} {w : World} {K : PySem.W.Frag} {mg : Str → Option Value} {base : Heap}
/-- THE RULE for a def that lets nothing out -/
theorem At.ok {x : Str} {st : Stmt} {N ps : List Str} {k : Nat} {sp : Sp} (F : At K mg x st) (S : FnScope N ps (defScope st)) (len : ∀ vs H Q E, sp vs H Q E → vs.length = ps.length)
    (hb : ∀ (kV doc pm : Value) (an : Option Addr) (cdv ct : Value) (us : List Value), us.length = ps.length → bindArgs (PySem.W.fnOf x x (defArgs st) (defBody st) (defScope st) .none kV doc pm an cdv ct) ⟨us, []⟩ = pure (ps.zip us))
    (hbody : ∀ (f : Addr) (cdv : Value) (A : Around) (outer : List Env) (s : Shared) (H : Hp) (vs : List V) (Q : VK) (E : XK), Room k (A.deeper (envOfC x (defScope st) s.heap.objs.size f cdv)) → sp vs H Q E →
      ∃ t, PSs (cxOf CX0 P w K mg base N x (defScope st) f cdv A outer s H E).nox (defBody st) t ∧ t { nx := fun _ H' => Q .non H', rt := Q } (start N vs) H) : Cal P w K mg base CX0 (k + 1) x ps sp := by
  obtain ⟨a, fd, F, m⟩ := F.ex
  refine ⟨a, fd, F.ok S len fun cdv A outer s H vs Q E hr hsp => ?_, m, F.kp, F.bindsN hb⟩
  obtain ⟨t, h, q⟩ := hbody a cdv A outer s H vs Q E hr hsp
  exact ⟨t, h.nox, q⟩
/-- .. for a def that may raise -/
theorem At.okX {x : Str} {st : Stmt} {N ps : List Str} {k : Nat} {sp : Sp} (F : At K mg x st) (S : FnScope N ps (defScope st)) (len : ∀ vs H Q E, sp vs H Q E → vs.length = ps.length)
    (hb : ∀ (kV doc pm : Value) (an : Option Addr) (cdv ct : Value) (us : List Value), us.length = ps.length → bindArgs (PySem.W.fnOf x x (defArgs st) (defBody st) (defScope st) .none kV doc pm an cdv ct) ⟨us, []⟩ = pure (ps.zip us))
    (hbody : ∀ (f : Addr) (cdv : Value) (A : Around) (outer : List Env) (s : Shared) (H : Hp) (vs : List V) (Q : VK) (E : XK), Room k (A.deeper (envOfC x (defScope st) s.heap.objs.size f cdv)) → sp vs H Q E →
      ∃ t, PSs (cxOf (L2.CX P w) P w K mg base N x (defScope st) f cdv A outer s H E) (defBody st) t ∧ t { nx := fun _ H' => Q .non H', rt := Q } (start N vs) H) : Cal P w K mg base (L2.CX P w) (k + 1) x ps sp := by
  obtain ⟨a, fd, F, m⟩ := F.ex
  exact ⟨a, fd, F.ok S len fun cdv A outer s H vs Q E hr hsp => hbody a cdv A outer s H vs Q E hr hsp, m, F.kp, F.bindsN hb⟩
end
section
variable {X : Cx} {CX : CXT} {k : Nat} {x : Str} {ps : List Str} {sp : Sp} {E : XK} {p pos : Pos} {e : Expr} {es : List Expr} {t : TA}
theorem pe_cal (C : Cal X.prog X.w X.K X.mg X.base CX k x ps sp) (hr : Room k X.A) (hx : Passes CX X E) (ha : PA X (e :: es) t) (hg : Gl X x := by rfl)
    (hdb : (x == ("__debug__" : Str)) = false := by decide) (he : starEach (e :: es) X.env = (false, eval e X.env) :: starEach es X.env := by rfl) (hpl : (backTo pos (starEach es X.env)).any (·.1) = false := by rfl) :
    PE X (.Call (.Name x p) (e :: es) [] pos) (tCall sp [] E t) := by
  obtain ⟨a, fd, F, m, kp, b⟩ := C.ex
  exact pe_call F hr hg m kp b .nil hx ha hdb he hpl
theorem pe_cal0 (C : Cal X.prog X.w X.K X.mg X.base CX k x ps sp) (hr : Room k X.A) (hx : Passes CX X E) (hg : Gl X x := by rfl) (hdb : (x == ("__debug__" : Str)) = false := by decide) : PE X (.Call (.Name x p) [] [] pos) (tCall sp [] E tNil) := by
  obtain ⟨a, fd, F, m, kp, b⟩ := C.ex
  exact pe_call0 F hr hg m kp b .nil hx hdb
/-- a call in a try's body -/
theorem pe_calS {E : L2.St → XK} (C : Cal X.prog X.w X.K X.mg X.base CX k x ps sp) (hr : Room k X.A) (hx : ∀ σ, PassesAt CX X σ (E σ)) (ha : PA X (e :: es) t) (hg : Gl X x := by rfl)
    (hdb : (x == ("__debug__" : Str)) = false := by decide) (he : starEach (e :: es) X.env = (false, eval e X.env) :: starEach es X.env := by rfl) (hpl : (backTo pos (starEach es X.env)).any (·.1) = false := by rfl) :
    PE X (.Call (.Name x p) (e :: es) [] pos) (tCallS sp E t) := by
  obtain ⟨a, fd, F, m, kp, b⟩ := C.ex
  exact pe_callS F hr hg m kp b hx ha hdb he hpl
/-- the module's constants -/
theorem pe_gi {i : Int} (hm : ∃ t, X.mg x = some (.int i t)) (hg : Gl X x := by rfl) (hd : (x == ("__debug__" : Str)) = false := by decide) : PE X (.Name x pos) (tC (.int i)) := by
  obtain ⟨t, hm⟩ := hm
  exact pe_glob hg hm ⟨t, rfl⟩ hd
theorem pe_gs {z : Str} (hm : ∃ t, X.mg x = some (.str z t)) (hg : Gl X x := by rfl) (hd : (x == ("__debug__" : Str)) = false := by decide) : PE X (.Name x pos) (tC (.str z)) := by
  obtain ⟨t, hm⟩ := hm
  exact pe_glob hg hm ⟨t, rfl⟩ hd
theorem pe_gr {a : Addr} (hm : X.mg x = some (.ref a)) (hg : Gl X x := by rfl) (hd : (x == ("__debug__" : Str)) = false := by decide) : PE X (.Name x pos) (tC (.ref a)) := pe_glob hg hm rfl hd
end
/-! ### s * n -/
theorem op_mul_str {X : Cx} : OpR X (binaryOp .Mult) (fun x y H Q => ∃ z n, x = .str z ∧ y = .int n ∧ MulOk z n ∧ Q (.str (Txt.mul z n)) H) := by
  intro pins s σ H x y v u Q I rx ry h
  obtain ⟨z, n, rfl, rfl, hok, q⟩ := h
  obtain ⟨t, rfl⟩ := rx
  obtain ⟨t', rfl⟩ := ry
  exact SB.mul hok fun t' k => ⟨.str (Txt.mul z n), H, I.tok k, ⟨t', rfl⟩, q⟩
/-! ### X() of an own class of error -/
section
variable {X : Cx} {C : Addr} {bmB : List Value} {B newId initId : String}
theorem pmk_own0 {x : Str} {p pos : Pos} (F : ExcBaseFacts B newId initId bmB) (q : PySem.W.excIn X.K C bmB newId = true) (gC : X.mg x = some (.ref C)) (kC : PySem.W.keepIn X.K (.ref C) = true) (r : Raises X (.ref C)) (hg : Gl X x := by rfl)
    (hdb : (x == ("__debug__" : Str)) = false := by decide) : PMk X (.Call (.Name x p) [] [] pos) (fun _ H Q => Q (.ref C) none H) := by
  intro pins s σ H Q I h
  refine wpAny_Call_Name_kw (ld_glob I hg gC ?_ hdb)
  refine PySem.W.callWith_K0 I.kIn kC ?_
  show wpAny _ _ (call (.ref C) []) _ _ _
  obtain ⟨bm, N, nm, qn, bs, hdct, sn, sub, ab, col, dd, k0, k1, k2, k3, k5, mN, hC, hN, hni, T⟩ := exc_obj I.kIn q
  refine wpAny_call_exc_subT F T hC hN hni (fun h' e hm => ?_) (Nat.zero_le _)
  exact mk_of I hm r h (I.hok.gone hm.new)
end
/-! ### 'm' + e.replace(..): the text ahead draws a token -/
theorem pe_catT {X : Cx} {m : Str} {j : Nat} {p pos : Pos} {e : Expr} {te : TE} (he : PET X e te) : PE X (.BinOp (.Constant (.str m) j p) .Add e pos) (tOp (fun x y H Q => ∃ i j, x = .str i ∧ y = .str j ∧ i.length + j.length ≤ sizeLine ∧ Q (.str (i ++ j)) H) (tC (.str m)) te) := by
  refine ⟨fun pins s σ H Q I h => ?_⟩
  refine wpAny_BinOp (Calls.Constant_str ?_)
  have I1 : Inv X pins σ H { s with toks := s.toks + 1 } := I.tok _
  refine thn (he pins _ σ H _ (show _ ≤ s.toks + 1 by omega) I1 h) fun u s2 ⟨y, H2, I2, r2, q2⟩ => ?_
  exact op_add_str pins s2 σ H2 (.str m) y _ u Q I2 ⟨_, rfl⟩ r2 q2
/-! ### dicts whose keys are tuples -/
def mergeT {κ : Type} [DecidableEq κ] (kvs more : List (κ × V)) : List (κ × V) := more.foldl (fun acc kv => putK acc kv.1 kv.2) kvs
theorem length_mergeT {κ : Type} [DecidableEq κ] : ∀ (more kvs : List (κ × V)), (mergeT kvs more).length ≤ kvs.length + more.length
  | [], kvs => by show kvs.length ≤ kvs.length + 0; omega
  | p :: r, kvs => by
    have h1 := length_mergeT r (putK kvs p.1 p.2)
    have h2 := length_putK kvs p.1 p.2
    show (mergeT (putK kvs p.1 p.2) r).length ≤ _
    rw [List.length_cons]; omega
section
variable {X : Cx} {pins : List (Addr × Obj)} {σ : L2.St}
theorem d_setT {H : Hp} {s : Shared} {a b : Addr} {kvs : List (List Key × V)} {k : List Key} {v : V} {r : Value} {Q : Unit → Shared → Prop} {E : Value → Shared → Prop} (hu : X.A.units < cLine) (I : Inv X pins σ H s) (e : H a = some (.dT kvs)) (eb : H b = some (.tup (k.map kV))) (l : kvs.length < sizeLine) (rv : RelV v r)
    (h : ∀ s', Inv X pins σ (upd H a (.dT (putK kvs k v))) s' → Q () s') : wpAny (model X.prog X.w) X.A (dictSet a (.ref b) r) Q E s := by
  obtain ⟨z, hd, xs, rel, dd⟩ := dt_of I.hok e
  have hz : xs.length ≤ sizeLine := by rw [← Paired.length rel]; exact z
  have hl : (putK kvs k v).length ≤ sizeLine := by have := length_putK kvs k v; omega
  refine wpAny_dictSet_heap (hsz := hz) (knd := tupleKind (mixKind X.prog X.w)) hu (key_of I.hok eb) dd fun h' dd' hs => h _ ?_
  obtain ⟨q, es, ep, hq, h2, h3, h4, _, h5⟩ := dd'
  refine d_write I (by rw [e]; exact True.intro) hs ⟨q, hq⟩ ⟨hl, hd, _, (rel.put k eb rv).keeps fun c ys ec => ?_, q, es, ep, hq, h2, h3, h4, h5⟩
  rw [upd_ne (ne_of ec e (fun z => nomatch z))]
  exact ec
theorem d_storeT {d : Addr} (hu : X.A.units < cLine) : ∀ (ts : List (List Key × Addr × V)) (vs : List (Value × Value)) (acc : List (List Key × V)) (H : Hp) (s : Shared) (Q : PUnit → Shared → Prop), Inv X pins σ H s → H d = some (.dT acc) → acc.length + ts.length < sizeLine →
    VV (ts.map fun t => (V.ref t.2.1, t.2.2)) vs → (∀ t ∈ ts, H t.2.1 = some (.tup (t.1.map kV))) → (∀ s', Inv X pins σ (upd H d (.dT (mergeT acc (ts.map fun t => (t.1, t.2.2))))) s' → Q PUnit.unit s') →
    wpAny (model X.prog X.w) X.A (forIn vs PUnit.unit fun (x : Value × Value) (_ : PUnit) => (do dictSet d x.1 x.2; pure (ForInStep.yield PUnit.unit) : Sem (ForInStep PUnit))) Q X.xe s
  | [], vs, acc, H, s, Q, I, hd, hl, r, hk, h => by
    rw [List.map_nil] at r
    cases r
    rw [List.forIn_nil]
    have e : upd H d (.dT (mergeT acc [])) = H := by
      funext b
      unfold upd
      by_cases hb : b = d
      · rw [if_pos hb, hb]; exact hd.symm
      · rw [if_neg hb]
    have h' := h s
    rw [List.map_nil, e] at h'
    exact wpAny_pure (h' I)
  | t :: ts, vs, acc, H, s, Q, I, hd, hl, r, hk, h => by
    rw [List.map_cons] at r
    cases r with
    | @cons p q ps qs h1 h2 =>
      obtain ⟨q1, q2⟩ := q
      obtain ⟨r1, r2⟩ := h1
      cases (show q1 = Value.ref t.2.1 from r1)
      rw [List.length_cons] at hl
      rw [List.forIn_cons]
      refine wpAny_bind (wpAny_bind (d_setT hu I hd (hk t (by simp)) (by omega) r2 fun s' I' => wpAny_pure ?_))
      have ht : ∀ b ys, H b = some (.tup ys) → (upd H d (.dT (putK acc t.1 t.2.2))) b = some (.tup ys) := fun b ys eb => by
        rw [upd_ne (ne_of eb hd (fun z => nomatch z))]; exact eb
      refine d_storeT hu ts qs (putK acc t.1 t.2.2) _ s' Q I' upd_same (by have := length_putK acc t.1 t.2.2; omega) h2 (fun u hu' => ht _ _ (hk u (by simp [hu']))) fun s2 I2 => ?_
      rw [upd_upd] at I2
      exact h s2 I2
end
/-- {(..): v, ..}: the new dict stands empty while the pairs are made -/
def tDispT (trs : List (TE × TE)) : TE := fun σ H Q => ∀ p, H p = none → tPairs trs σ (upd H p (.dT [])) fun ps H2 => H2 p = some (.dT []) ∧ ∃ ts : List (List Key × Addr × V), ps = ts.map (fun t => (V.ref t.2.1, t.2.2)) ∧ ts.length ≤ 15 ∧
  (∀ t ∈ ts, H2 t.2.1 = some (.tup (t.1.map kV))) ∧ Q (.ref p) (upd H2 p (.dT (mergeT [] (ts.map fun t => (t.1, t.2.2)))))
theorem pe_dispT {X : Cx} {pos : Pos} {keys : List (Option Expr)} {values : List Expr} {trs : List (TE × TE)} (hu : X.A.units < cLine) (h : PPs X pos keys values trs) (hall : keys.all (·.isSome) = true) (hl : keys.length = values.length) (h0 : keys ≠ [])
    (h15 : keys.length ≤ 15) : PE X (.Dict keys values pos) (tDispT trs) := by
  refine ⟨fun pins s σ H Q I q => ?_⟩
  have hn := I.hok.fresh (Nat.le_refl s.heap.objs.size)
  have I1 := I.laid (a := s.heap.objs.size) (o := .dT []) (h' := s.heap.push { cls := .type "dict", data := .dict #[] }) (t' := s.toks) (fun _ _ q => Heap.get?_push_of_some _ q) (Nat.le_refl _) (dt_empty s.heap I.big)
  have hlen := pairTrees_length keys values X.env pos hall hl
  have hne : pairTrees keys values X.env pos ≠ [] := fun he => by
    rw [he] at hlen
    exact h0 (List.length_eq_zero_iff.mp hlen.symm)
  rw [arm_eval_Dict, zip_pairTrees keys values X.env pos hall hl, dictDisplay_pairs _ hne (by omega)]
  refine wpAny_bind (wpAny_standAt (wpAny_bind ?_))
  unfold subDict
  refine wpAny_bind (wpAny_alloc ?_)
  refine wpAny_bind (wpAny_holding ?_)
  rw [if_pos (by omega)]
  refine wpAny_bind (thn (h.run pins _ σ _ _ I1 (q _ hn)) fun vs s2 ⟨ps, H2, I2, rel, e, ts, ep, lk, hk, q2⟩ => ?_)
  subst ep
  refine wpAny_holding ?_
  refine wpAny_bind (d_storeT hu ts vs [] H2 s2 _ I2 e (by rw [List.length_nil, sizeLine_eq]; omega) rel hk fun s3 I3 => wpAny_pure (wpAny_pure (wpAny_pure ?_)))
  exact ⟨.ref s.heap.objs.size, _, I3, rfl, q2⟩
/-- d.update(e), keys that are tuples -/
def rUpdT : V → List V → Hp → VK → Prop := fun x xs H Q => ∃ (d o : Addr) (kvs more : List (List Key × V)), x = .ref d ∧ xs = [.ref o] ∧ d ≠ o ∧ H d = some (.dT kvs) ∧ H o = some (.dT more) ∧ kvs ≠ [] ∧ kvs.length + more.length ≤ sizeLine ∧
  Q .non (upd H d (.dT (mergeT kvs more)))
theorem KT.merge {H : Hp} : ∀ {more : List (List Key × V)} {ys : List (List Key × Addr × Value)} {kvs : List (List Key × V)} {xs : List (List Key × Addr × Value)}, L2.KT H more ys → L2.KT H kvs xs → L2.KT H (mergeT kvs more) (storedAllH xs ys) := by
  intro more ys kvs xs r
  unfold L2.KT at r
  induction r generalizing kvs xs with
  | nil => intro q; exact q
  | @cons p q ps qs h t ih =>
    intro r0
    have e : L2.KT H (putK kvs p.1 p.2) (storedH xs q.1 q.2.1 q.2.2) := by
      have := L2.KT.put r0 p.1 h.2.1 h.2.2
      rw [← h.1]; exact this
    exact ih e
theorem mt_updT {X : Cx} (hu : X.A.units + 1 < cLine) : MtR X "dict.update" rUpdT := by
  intro pins s σ H x xs v us Q I rx rxs h
  obtain ⟨d, o, kvs, more, rfl, rfl, hdo, hd, ho, hne, hz, q⟩ := h
  cases rx
  obtain ⟨u1, rfl, r1⟩ := vals1 rxs
  cases r1
  obtain ⟨z1, m1, xs1, rel1, dd1⟩ := dt_of I.hok hd
  obtain ⟨z2, m2, xs2, rel2, dd2⟩ := dt_of I.hok ho
  have l1 := Paired.length rel1
  have l2 := Paired.length rel2
  refine call_update_dictH (tupleKind_room_in1 hu) hdo m2 dd1 dd2 (.inl fun e => ?_) (by rw [← l1, ← l2]; exact hz) fun h' dd' _ hs => ?_
  · rw [e] at l1
    exact hne (List.length_eq_zero_iff.mp l1)
  · obtain ⟨q', es, ep, hq, h2, h3, h4, _, h5⟩ := dd'
    have hl : (mergeT kvs more).length ≤ sizeLine := Nat.le_trans (length_mergeT more kvs) hz
    refine ⟨.non, upd H d (.dT (mergeT kvs more)), d_write (ob := .dT (mergeT kvs more)) (t' := s.toks) I (by rw [hd]; exact True.intro) hs ⟨q', hq⟩ ⟨hl, m1, _, (KT.merge rel2 rel1).keeps fun c ys ec => ?_, q', es, ep, hq, h2, h3, h4, h5⟩, rfl, q⟩
    rw [upd_ne (ne_of ec hd (fun z => nomatch z))]
    exact ec
/-- d.update(e), keys ints and texts -/
def rUpdK : V → List V → Hp → VK → Prop := fun x xs H Q => ∃ (d o : Addr) (kvs more : List (Key × V)), x = .ref d ∧ xs = [.ref o] ∧ d ≠ o ∧ H d = some (.dK kvs) ∧ H o = some (.dK more) ∧ kvs.length + more.length ≤ sizeLine ∧
  Q .non (upd H d (.dK (mergeK kvs more)))
theorem mt_updK {X : Cx} : MtR X "dict.update" rUpdK := by
  intro pins s σ H x xs v us Q I rx rxs h
  obtain ⟨d, o, kvs, more, rfl, rfl, hdo, hd, ho, hz, q⟩ := h
  cases rx
  obtain ⟨u1, rfl, r1⟩ := vals1 rxs
  cases r1
  obtain ⟨z1, m1, xs1, rel1, dd1⟩ := dk_of I.hok hd
  obtain ⟨z2, m2, xs2, rel2, dd2⟩ := dk_of I.hok ho
  have l1 := rel1.length
  have l2 := rel2.length
  refine call_meetsIn PySem.F.slot_dict_update dd1.typeIs PySem.F.entry_dict_update (PySem.F.args_dict_update_2 _ _) (meets_dict_update (mixKind X.prog X.w) d o hdo m2)
    ⟨xs1, xs2, dd1, dd2, (by rw [← l1, ← l2]; exact hz), fun h' dd' _ hs => ?_⟩
  have hl : (mergeK kvs more).length ≤ sizeLine := Nat.le_trans (length_mergeK more kvs) hz
  have he : ∃ q, h'.get? d = some q := let ⟨q, _, _, hq, _⟩ := dd'; ⟨q, hq⟩
  exact ⟨.non, upd H d (.dK (mergeK kvs more)), d_write (ob := .dK (mergeK kvs more)) (t' := s.toks) I (by rw [hd]; exact True.intro) hs he (dk_new hl m1 (KV.merge rel2 rel1) dd'), rfl, q⟩
/-! ### zip of a tuple and a list -/
def ItzM (K : PySem.W.Frag) (a b : Addr) : It :=
  ⟨fun i H => ∃ (xs ys : List V) (x y : V), SqT K H a xs ∧ SqL K H b ys ∧ xs[i]? = some x ∧ ys[i]? = some y,
    fun i H v H' => ∃ T x y, v = .ref T ∧ H T = none ∧ H' = upd H T (.tup [x, y]) ∧ (∀ xs, SqT K H a xs → xs[i]? = some x) ∧ ∀ ys, SqL K H b ys → ys[i]? = some y,
    fun i H => ∃ xs ys : List V, SqT K H a xs ∧ SqL K H b ys ∧ xs.length = i ∧ ys.length = i⟩
theorem turn_zipM {P : Program} {w : World} {K : PySem.W.Frag} {elts : List Expr} {kk : Nat} {tpos : Pos} {a b z TI TO i1 i2 : Addr} (S : ZipSep2 z TI TO i1 i2 [i1, a] [i2, b]) (ha : a ≠ i1) (hb : b ≠ i2) :
    Turn P w K (.Tuple elts kk tpos) (ItzM K a b) [z, TI, TO, i1, i2] z (fun i h => IsZip h z TI TO .none ∧ IsTupOf2 h TI (.ref i1) (.ref i2) ∧ (∃ x y, IsTupOf2 h TO x y) ∧ h.IsTupleIter i1 a i ∧ h.IsListIter i2 b i) where
  mem := by simp
  obj := fun i h st c hc => by
    obtain ⟨hz, hTI, ⟨x, y, hTO⟩, ⟨o1, e1, _, d1⟩, ⟨o2, e2, _, d2⟩⟩ := st
    have e' : c = z ∨ c = TI ∨ c = TO ∨ c = i1 ∨ c = i2 := by simpa using hc
    rcases e' with q | q | q | q | q
    · rw [q]; exact ⟨_, hz, fun v q => nomatch q⟩
    · rw [q]; exact ⟨_, hTI, fun v q => nomatch q⟩
    · rw [q]; exact ⟨_, hTO, fun v q => nomatch q⟩
    · rw [q]; exact ⟨o1, e1, fun v q => by rw [d1] at q; cases q⟩
    · rw [q]; exact ⟨o2, e2, fun v q => by rw [d2] at q; cases q⟩
  keep := fun i h h' st k => by
    obtain ⟨hz, hTI, ⟨x, y, hTO⟩, h1, h2⟩ := st
    exact ⟨k z (by simp) _ hz, k TI (by simp) _ hTI, ⟨x, y, k TO (by simp) _ hTO⟩, h1.at fun o q => k i1 (by simp) o q, h2.at fun o q => k i2 (by simp) o q⟩
  item := by
    intro X hP hw hK hc i pins s σ H E I hf st hg
    subst hP hw hK
    obtain ⟨hz, hTI, ⟨x0, y0, hTO⟩, h1, h2⟩ := st
    obtain ⟨xs, ys, x, y, hqx, hqy, hx, hy⟩ := hg
    obtain ⟨its, rv, p, _⟩ := I.tuple hqx
    obtain ⟨its2, rv2, p2, _⟩ := I.list hqy
    obtain ⟨u, hu, ru⟩ := rv.get hx
    obtain ⟨u2, hu2, ru2⟩ := rv2.get hy
    have l1 := (List.getElem?_eq_some_iff.mp hu).1
    have l2 := (List.getElem?_eq_some_iff.mp hu2).1
    have hzl : z < s.heap.objs.size := Heap.lt_size hz
    have hh : X.A.in1.handled = none := I.ok.hd hc
    have hh2 : X.A.in1.in1.handled = none := I.ok.hd hc
    refine wpAny_pyNext_zipD2_item (A := X.A) S (Draws.tuple hh i1 a ha its.toArray) (Draws.list hh i2 b hb its2.toArray) hz hTI hTO ⟨h1, (show s.heap.IsTuple a its.toArray from p)⟩ ⟨h2, p2.isList⟩ (by simpa using l1) (by simpa using l2)
      fun v1 v2 h' tk y1 y2 z' TO' st1 st2 hT hsz hk => ?_
    have ev1 : v1 = u := by
      have : its.toArray[i]? = some v1 := y1
      have e : its.toArray[i]? = some u := by simpa using hu
      rw [e] at this; exact (Option.some.inj this).symm
    have ev2 : v2 = u2 := by
      have : its2.toArray[i]? = some v2 := y2
      have e : its2.toArray[i]? = some u2 := by simpa using hu2
      rw [e] at this; exact (Option.some.inj this).symm
    subst ev1 ev2
    refine ⟨_, rfl, wpAny_letOwnedTupleGo_zip (s := { s with heap := h', toks := tk }) z' fun h'' z'' sb => ?_⟩
    have hT2 : h''.get? s.heap.objs.size = some { cls := .type "tuple", data := .seq #[v1, v2] } := (sb.2 _ (Nat.ne_of_gt hzl)).trans hT
    have new : ObjOk X.prog X.w (upd H s.heap.objs.size (.tup [x, y])) h'' s.heap.objs.size (.tup [x, y]) :=
      ⟨by show 2 ≤ sizeLine; decide, [v1, v2], .cons ru (.cons ru2 .nil), ⟨_, hT2, rfl, _, rfl⟩⟩
    have I1 : Inv X pins σ (upd H s.heap.objs.size (.tup [x, y])) { s with heap := h'', toks := tk } :=
      I.turnedNew (t' := tk) (ch := [z, TI, TO, i1, i2]) (fun c o hb q => (sb.2 c (fun q' => hb (by simp [q']))).trans (hk c o (fun q' => hb (by simp [q'])) (fun q' => hb (by simp [q'])) (fun q' => hb (by simp [q'])) (fun q' => hb (by simp [q'])) q)) hf (Nat.le_refl _) new
    refine ⟨.ref s.heap.objs.size, _, I1, rfl, ⟨_, x, y, rfl, I.hok.fresh (Nat.le_refl _), rfl, fun l hl => by rw [I.tuple_inj hl hqx]; exact hx, fun l hl => by rw [I.list_inj hl hqy]; exact hy⟩, ⟨z'', ?_, ⟨v1, v2, ?_⟩, ?_, ?_⟩, fun c hcm => ?_⟩
    · exact (sb.2 _ S.TIz).trans (hk _ _ S.TIz S.TITO S.TIi1 S.TIi2 hTI)
    · exact (sb.2 _ S.TOz).trans TO'
    · exact st1.1.at fun o q => (sb.2 _ (Ne.symm S.zi1)).trans q
    · exact st2.1.at fun o q => (sb.2 _ (Ne.symm S.zi2)).trans q
    · have hlt : c < s.heap.objs.size := by
        have e' : c = z ∨ c = TI ∨ c = TO ∨ c = i1 ∨ c = i2 := by simpa using hcm
        rcases e' with q | q | q | q | q
        · rw [q]; exact hzl
        · rw [q]; exact Heap.lt_size hTI
        · rw [q]; exact Heap.lt_size hTO
        · rw [q]; obtain ⟨_, e1, _⟩ := h1; exact Heap.lt_size e1
        · rw [q]; obtain ⟨_, e2, _⟩ := h2; exact Heap.lt_size e2
      rw [upd_ne (Nat.ne_of_lt hlt)]
      exact (hf c hcm).1
  done := by
    intro X hP hw hK hc i pins s σ H E I hf st hg
    subst hP hw hK
    obtain ⟨hz, hTI, ⟨x0, y0, hTO⟩, h1, h2⟩ := st
    obtain ⟨xs, ys, hqx, hqy, e1, e2⟩ := hg
    obtain ⟨its, rv, p, _⟩ := I.tuple hqx
    obtain ⟨its2, rv2, p2, _⟩ := I.list hqy
    have l1 := rv.length
    have l2 := rv2.length
    have hh : X.A.in1.handled = none := I.ok.hd hc
    have z1 : i = its.toArray.size := by simp; omega
    have z2 : i = its2.toArray.size := by simp; omega
    refine wpAny_pyNext_zipD2_end (A := X.A) S (Draws.tuple hh i1 a ha its.toArray) (Draws.list hh i2 b hb its2.toArray) hz hTI hTO ⟨h1, (show s.heap.IsTuple a its.toArray from p)⟩ ⟨h2, p2.isList⟩ (Nat.le_of_eq z1) (Nat.le_of_eq z2) (.inl z1)
      fun h' tk hk => ⟨rfl, I.turnedL (t' := tk) (ch := [z, TI, TO, i1, i2]) (fun c o hb q =>
        hk c o (fun q' => hb (by simp [q'])) (fun q' => hb (by simp [q'])) (fun q' => hb (by simp [q'])) (fun q' => hb (by simp [q'])) q) hf⟩
  self := fun A i s Q E st h => wpAny_pyIter_zip st.1 h
def iZipM (K : PySem.W.Frag) (ta : TA) : TI := fun σ H R => ta σ H fun vs H1 => ∃ a b xs ys, vs = [.ref a, .ref b] ∧ SqT K H1 a xs ∧ SqL K H1 b ys ∧ R (ItzM K a b) H1
theorem pi_zipM {X : Cx} {e e2 : Expr} {ta : TA} {p pos tpos : Pos} {elts : List Expr} {kk : Nat} (hg : Gl X "zip") (hm : X.mg "zip" = none) (ha : PA X [e, e2] ta)
    (hs : starEach [e, e2] X.env = (false, eval e X.env) :: starEach [e2] X.env := by rfl) (hpl : (backTo pos (starEach [e2] X.env)).any (·.1) = false := by rfl) :
    PI X (.Tuple elts kk tpos) (.Call (.Name "zip" p) [e, e2] [] pos) (iZipM X.K ta) := by
  refine ⟨fun pins s σ H R I h => ?_⟩
  refine Call_ (ld_blt I hg hm PyProof.Rows.boot_zip (PyProof.Rows.callWith_type1 (thn (ha.run pos pins s σ H _ I h) fun us s1 ⟨vs, H1, I1, r1, q1⟩ => ?_) hs hpl))
  obtain ⟨a, b, xs, ys, ex, hqx, hqy, q⟩ := q1
  subst ex
  cases r1 with
  | cons r rr =>
    cases rr with
    | cons r' rr =>
      cases rr
      cases r
      cases r'
      have fresh5 : ∀ c, c ∈ [s1.heap.objs.size + 4, s1.heap.objs.size + 2, s1.heap.objs.size + 3, s1.heap.objs.size, s1.heap.objs.size + 1] → FpOk X pins H1 c := fun c hcm => by
        have e' : c = s1.heap.objs.size + 4 ∨ c = s1.heap.objs.size + 2 ∨ c = s1.heap.objs.size + 3 ∨ c = s1.heap.objs.size ∨ c = s1.heap.objs.size + 1 := by simpa using hcm
        have hle : s1.heap.objs.size ≤ c := by
          rcases e' with z | z | z | z | z
          · rw [z]; exact Nat.le_add_right _ _
          · rw [z]; exact Nat.le_add_right _ _
          · rw [z]; exact Nat.le_add_right _ _
          · rw [z]; exact Nat.le_refl _
          · rw [z]; exact Nat.le_add_right _ _
        exact I1.fpOk hle (I1.hok.fresh hle)
      obtain ⟨its, rv, p1, _⟩ := I1.tuple hqx
      obtain ⟨its2, rv2, p2, _⟩ := I1.list hqy
      have la : a < s1.heap.objs.size := by obtain ⟨o1, ho1, _⟩ := id p1; exact Heap.lt_size ho1
      have lb : b < s1.heap.objs.size := p2.lt
      refine zip_begins2 (begins_tuple a its.toArray) (begins_list b its2.toArray) (show s1.heap.IsTuple a its.toArray from p1) p2.isList fun h' hz hTI hTO h1 h2 hsz hk => wpAny_pyIter_zip hz ?_
      have I2 : Inv X pins σ H1 { s1 with heap := h' } := I1.kept (t' := s1.toks) hk
      exact ⟨s1.heap.objs.size + 4, [s1.heap.objs.size + 4, s1.heap.objs.size + 2, s1.heap.objs.size + 3, s1.heap.objs.size, s1.heap.objs.size + 1], _, _, H1, rfl, I2,
        turn_zipM (zip_sep2 (fp1 := [a]) (fp2 := [b]) (fun c hc => by have e : c = a := by simpa using hc
                                                                      rw [e]; exact la) (fun c hc => by have e : c = b := by simpa using hc
                                                                                                        rw [e]; exact lb)) (Nat.ne_of_lt la) (Nat.ne_of_lt (Nat.lt_succ_of_lt lb)),
        ⟨hz, hTI, ⟨_, _, hTO⟩, ⟨_, h1, rfl, rfl⟩, ⟨_, h2, rfl, rfl⟩⟩, fresh5, q⟩
/-- a loop over zip of a tuple and a list of one length -/
theorem walk_zipM {K : PySem.W.Frag} {a b : Addr} {xs ys : List V} (hl : xs.length = ys.length) : Walk (ItzM K a b) xs.length (fun H => SqT K H a xs ∧ SqL K H b ys) (YPair (fun i => xs[i]?) (fun i => ys[i]?)) where
  goes := fun i H hi ⟨h1, h2⟩ => ⟨xs, ys, xs[i], ys[i]'(by omega), h1, h2, List.getElem?_eq_getElem hi, List.getElem?_eq_getElem _⟩
  stops := fun H ⟨h1, h2⟩ => ⟨xs, ys, h1, h2, rfl, hl.symm⟩
  yields := fun i H x H' hi ⟨h1, h2⟩ ⟨T, x1, y1, e1, e2, e3, q1, q2⟩ => ⟨T, x1, y1, e1, e2, e3, q1 xs h1, q2 ys h2⟩
end K80

set_option Elab.async false
set_option linter.all false
set_option maxRecDepth 100000
set_option maxHeartbeats 4000000
/-! the text by places; what the top has made -/
namespace K80
open PySem PySem.Spec PyProof.Rows L2
def top (i : Nat) : Stmt := PySem.Challenge.pw_pageseen_k80_handlers_cut_into_actions.main.body.getD i (.Pass ⟨0, 0, 0, 0⟩)
abbrev sis_told : Stmt := top 15
abbrev Nis_told : List Str := ["sign"]
theorem scis_told : FnScope Nis_told ["sign"] (defScope sis_told) := ⟨rfl, rfl, rfl, by decide +kernel, rfl, by decide +kernel, by decide +kernel⟩
theorem bdis_told (kV doc pm : Value) (an : Option Addr) (cdv ct : Value) (us : List Value) (hl : us.length = (["sign"] : List Str).length) : bindArgs (PySem.W.fnOf "is_told" "is_told" (defArgs sis_told) (defBody sis_told) (defScope sis_told) .none kV doc pm an cdv ct) ⟨us, []⟩ = pure ((["sign"] : List Str).zip us) := match us, hl with | [_], _ => rfl
abbrev sare_told : Stmt := top 16
abbrev Nare_told : List Str := ["value", "sign"]
theorem scare_told : FnScope Nare_told ["value"] (defScope sare_told) := ⟨rfl, rfl, rfl, by decide +kernel, rfl, by decide +kernel, by decide +kernel⟩
theorem bdare_told (kV doc pm : Value) (an : Option Addr) (cdv ct : Value) (us : List Value) (hl : us.length = (["value"] : List Str).length) : bindArgs (PySem.W.fnOf "are_told" "are_told" (defArgs sare_told) (defBody sare_told) (defScope sare_told) .none kV doc pm an cdv ct) ⟨us, []⟩ = pure ((["value"] : List Str).zip us) := match us, hl with | [_], _ => rfl
abbrev sis_text : Stmt := top 17
abbrev Nis_text : List Str := ["value"]
theorem scis_text : FnScope Nis_text ["value"] (defScope sis_text) := ⟨rfl, rfl, rfl, by decide +kernel, rfl, by decide +kernel, by decide +kernel⟩
theorem bdis_text (kV doc pm : Value) (an : Option Addr) (cdv ct : Value) (us : List Value) (hl : us.length = (["value"] : List Str).length) : bindArgs (PySem.W.fnOf "is_text" "is_text" (defArgs sis_text) (defBody sis_text) (defScope sis_text) .none kV doc pm an cdv ct) ⟨us, []⟩ = pure ((["value"] : List Str).zip us) := match us, hl with | [_], _ => rfl
abbrev sname_end : Stmt := top 18
abbrev Nname_end : List Str := ["text", "at", "end"]
theorem scname_end : FnScope Nname_end ["text", "at"] (defScope sname_end) := ⟨rfl, rfl, rfl, by decide +kernel, rfl, by decide +kernel, by decide +kernel⟩
theorem bdname_end (kV doc pm : Value) (an : Option Addr) (cdv ct : Value) (us : List Value) (hl : us.length = (["text", "at"] : List Str).length) : bindArgs (PySem.W.fnOf "name_end" "name_end" (defArgs sname_end) (defBody sname_end) (defScope sname_end) .none kV doc pm an cdv ct) ⟨us, []⟩ = pure ((["text", "at"] : List Str).zip us) := match us, hl with | [_, _], _ => rfl
abbrev sis_name : Stmt := top 19
abbrev Nis_name : List Str := ["value"]
theorem scis_name : FnScope Nis_name ["value"] (defScope sis_name) := ⟨rfl, rfl, rfl, by decide +kernel, rfl, by decide +kernel, by decide +kernel⟩
theorem bdis_name (kV doc pm : Value) (an : Option Addr) (cdv ct : Value) (us : List Value) (hl : us.length = (["value"] : List Str).length) : bindArgs (PySem.W.fnOf "is_name" "is_name" (defArgs sis_name) (defBody sis_name) (defScope sis_name) .none kV doc pm an cdv ct) ⟨us, []⟩ = pure ((["value"] : List Str).zip us) := match us, hl with | [_], _ => rfl
abbrev sends_word : Stmt := top 24
abbrev Nends_word : List Str := ["text", "at"]
theorem scends_word : FnScope Nends_word ["text", "at"] (defScope sends_word) := ⟨rfl, rfl, rfl, by decide +kernel, rfl, by decide +kernel, by decide +kernel⟩
theorem bdends_word (kV doc pm : Value) (an : Option Addr) (cdv ct : Value) (us : List Value) (hl : us.length = (["text", "at"] : List Str).length) : bindArgs (PySem.W.fnOf "ends_word" "ends_word" (defArgs sends_word) (defBody sends_word) (defScope sends_word) .none kV doc pm an cdv ct) ⟨us, []⟩ = pure ((["text", "at"] : List Str).zip us) := match us, hl with | [_, _], _ => rfl
abbrev sword_end : Stmt := top 25
abbrev Nword_end : List Str := ["text", "at"]
theorem scword_end : FnScope Nword_end ["text", "at"] (defScope sword_end) := ⟨rfl, rfl, rfl, by decide +kernel, rfl, by decide +kernel, by decide +kernel⟩
theorem bdword_end (kV doc pm : Value) (an : Option Addr) (cdv ct : Value) (us : List Value) (hl : us.length = (["text", "at"] : List Str).length) : bindArgs (PySem.W.fnOf "word_end" "word_end" (defArgs sword_end) (defBody sword_end) (defScope sword_end) .none kV doc pm an cdv ct) ⟨us, []⟩ = pure ((["text", "at"] : List Str).zip us) := match us, hl with | [_, _], _ => rfl
abbrev sparts_of : Stmt := top 26
abbrev Nparts_of : List Str := ["text", "parts", "words", "is_right", "at", "end"]
theorem scparts_of : FnScope Nparts_of ["text"] (defScope sparts_of) := ⟨rfl, rfl, rfl, by decide +kernel, rfl, by decide +kernel, by decide +kernel⟩
theorem bdparts_of (kV doc pm : Value) (an : Option Addr) (cdv ct : Value) (us : List Value) (hl : us.length = (["text"] : List Str).length) : bindArgs (PySem.W.fnOf "parts_of" "parts_of" (defArgs sparts_of) (defBody sparts_of) (defScope sparts_of) .none kV doc pm an cdv ct) ⟨us, []⟩ = pure ((["text"] : List Str).zip us) := match us, hl with | [_], _ => rfl
abbrev sfits : Stmt := top 27
abbrev Nfits : List Str := ["kind", "word", "is_quoted"]
theorem scfits : FnScope Nfits ["kind", "word", "is_quoted"] (defScope sfits) := ⟨rfl, rfl, rfl, by decide +kernel, rfl, by decide +kernel, by decide +kernel⟩
theorem bdfits (kV doc pm : Value) (an : Option Addr) (cdv ct : Value) (us : List Value) (hl : us.length = (["kind", "word", "is_quoted"] : List Str).length) : bindArgs (PySem.W.fnOf "fits" "fits" (defArgs sfits) (defBody sfits) (defScope sfits) .none kV doc pm an cdv ct) ⟨us, []⟩ = pure ((["kind", "word", "is_quoted"] : List Str).zip us) := match us, hl with | [_, _, _], _ => rfl
abbrev saction_of : Stmt := top 28
abbrev Naction_of : List Str := ["words", "kinds", "kind", "word", "is_quoted"]
theorem scaction_of : FnScope Naction_of ["words"] (defScope saction_of) := ⟨rfl, rfl, rfl, by decide +kernel, rfl, by decide +kernel, by decide +kernel⟩
theorem bdaction_of (kV doc pm : Value) (an : Option Addr) (cdv ct : Value) (us : List Value) (hl : us.length = (["words"] : List Str).length) : bindArgs (PySem.W.fnOf "action_of" "action_of" (defArgs saction_of) (defBody saction_of) (defScope saction_of) .none kV doc pm an cdv ct) ⟨us, []⟩ = pure ((["words"] : List Str).zip us) := match us, hl with | [_], _ => rfl
abbrev sactions_of : Stmt := top 30
abbrev Nactions_of : List Str := ["text", "found", "words", "action"]
theorem scactions_of : FnScope Nactions_of ["text"] (defScope sactions_of) := ⟨rfl, rfl, rfl, by decide +kernel, rfl, by decide +kernel, by decide +kernel⟩
theorem bdactions_of (kV doc pm : Value) (an : Option Addr) (cdv ct : Value) (us : List Value) (hl : us.length = (["text"] : List Str).length) : bindArgs (PySem.W.fnOf "actions_of" "actions_of" (defArgs sactions_of) (defBody sactions_of) (defScope sactions_of) .none kV doc pm an cdv ct) ⟨us, []⟩ = pure ((["text"] : List Str).zip us) := match us, hl with | [_], _ => rfl
abbrev s_law_pool : Stmt := top 32
abbrev N_law_pool : List Str := ["script", "pool", "cell", "rest", "k", "state"]
theorem sc_law_pool : FnScope N_law_pool ["script"] (defScope s_law_pool) := ⟨rfl, rfl, rfl, by decide +kernel, rfl, by decide +kernel, by decide +kernel⟩
theorem bd_law_pool (kV doc pm : Value) (an : Option Addr) (cdv ct : Value) (us : List Value) (hl : us.length = (["script"] : List Str).length) : bindArgs (PySem.W.fnOf "_law_pool" "_law_pool" (defArgs s_law_pool) (defBody s_law_pool) (defScope s_law_pool) .none kV doc pm an cdv ct) ⟨us, []⟩ = pure ((["script"] : List Str).zip us) := match us, hl with | [_], _ => rfl
abbrev s_law_stream : Stmt := top 33
abbrev N_law_stream : List Str := ["script"]
theorem sc_law_stream : FnScope N_law_stream ["script"] (defScope s_law_stream) := ⟨rfl, rfl, rfl, by decide +kernel, rfl, by decide +kernel, by decide +kernel⟩
theorem bd_law_stream (kV doc pm : Value) (an : Option Addr) (cdv ct : Value) (us : List Value) (hl : us.length = (["script"] : List Str).length) : bindArgs (PySem.W.fnOf "_law_stream" "_law_stream" (defArgs s_law_stream) (defBody s_law_stream) (defScope s_law_stream) .none kV doc pm an cdv ct) ⟨us, []⟩ = pure ((["script"] : List Str).zip us) := match us, hl with | [_], _ => rfl
abbrev s_law_longer : Stmt := top 34
abbrev N_law_longer : List Str := ["pool", "many", "state", "one", "k"]
theorem sc_law_longer : FnScope N_law_longer ["pool", "many"] (defScope s_law_longer) := ⟨rfl, rfl, rfl, by decide +kernel, rfl, by decide +kernel, by decide +kernel⟩
theorem bd_law_longer (kV doc pm : Value) (an : Option Addr) (cdv ct : Value) (us : List Value) (hl : us.length = (["pool", "many"] : List Str).length) : bindArgs (PySem.W.fnOf "_law_longer" "_law_longer" (defArgs s_law_longer) (defBody s_law_longer) (defScope s_law_longer) .none kV doc pm an cdv ct) ⟨us, []⟩ = pure ((["pool", "many"] : List Str).zip us) := match us, hl with | [_, _], _ => rfl
abbrev s_law_pick : Stmt := top 35
abbrev N_law_pick : List Str := ["pool", "many", "place"]
theorem sc_law_pick : FnScope N_law_pick ["pool", "many"] (defScope s_law_pick) := ⟨rfl, rfl, rfl, by decide +kernel, rfl, by decide +kernel, by decide +kernel⟩
theorem bd_law_pick (kV doc pm : Value) (an : Option Addr) (cdv ct : Value) (us : List Value) (hl : us.length = (["pool", "many"] : List Str).length) : bindArgs (PySem.W.fnOf "_law_pick" "_law_pick" (defArgs s_law_pick) (defBody s_law_pick) (defScope s_law_pick) .none kV doc pm an cdv ct) ⟨us, []⟩ = pure ((["pool", "many"] : List Str).zip us) := match us, hl with | [_, _], _ => rfl
abbrev s_law_far : Stmt := top 36
abbrev N_law_far : List Str := ["pool", "many"]
theorem sc_law_far : FnScope N_law_far ["pool", "many"] (defScope s_law_far) := ⟨rfl, rfl, rfl, by decide +kernel, rfl, by decide +kernel, by decide +kernel⟩
theorem bd_law_far (kV doc pm : Value) (an : Option Addr) (cdv ct : Value) (us : List Value) (hl : us.length = (["pool", "many"] : List Str).length) : bindArgs (PySem.W.fnOf "_law_far" "_law_far" (defArgs s_law_far) (defBody s_law_far) (defScope s_law_far) .none kV doc pm an cdv ct) ⟨us, []⟩ = pure ((["pool", "many"] : List Str).zip us) := match us, hl with | [_, _], _ => rfl
abbrev s_law_same : Stmt := top 37
abbrev N_law_same : List Str := ["told", "due", "pairs", "turn", "one", "other", "key", "k"]
theorem sc_law_same : FnScope N_law_same ["told", "due"] (defScope s_law_same) := ⟨rfl, rfl, rfl, by decide +kernel, rfl, by decide +kernel, by decide +kernel⟩
theorem bd_law_same (kV doc pm : Value) (an : Option Addr) (cdv ct : Value) (us : List Value) (hl : us.length = (["told", "due"] : List Str).length) : bindArgs (PySem.W.fnOf "_law_same" "_law_same" (defArgs s_law_same) (defBody s_law_same) (defScope s_law_same) .none kV doc pm an cdv ct) ⟨us, []⟩ = pure ((["told", "due"] : List Str).zip us) := match us, hl with | [_, _], _ => rfl
abbrev s_law_word : Stmt := top 38
abbrev N_law_word : List Str := ["pool", "first", "rest", "k"]
theorem sc_law_word : FnScope N_law_word ["pool"] (defScope s_law_word) := ⟨rfl, rfl, rfl, by decide +kernel, rfl, by decide +kernel, by decide +kernel⟩
theorem bd_law_word (kV doc pm : Value) (an : Option Addr) (cdv ct : Value) (us : List Value) (hl : us.length = (["pool"] : List Str).length) : bindArgs (PySem.W.fnOf "_law_word" "_law_word" (defArgs s_law_word) (defBody s_law_word) (defScope s_law_word) .none kV doc pm an cdv ct) ⟨us, []⟩ = pure ((["pool"] : List Str).zip us) := match us, hl with | [_], _ => rfl
abbrev s_law_name : Stmt := top 39
abbrev N_law_name : List Str := ["pool", "signs", "many", "k"]
theorem sc_law_name : FnScope N_law_name ["pool"] (defScope s_law_name) := ⟨rfl, rfl, rfl, by decide +kernel, rfl, by decide +kernel, by decide +kernel⟩
theorem bd_law_name (kV doc pm : Value) (an : Option Addr) (cdv ct : Value) (us : List Value) (hl : us.length = (["pool"] : List Str).length) : bindArgs (PySem.W.fnOf "_law_name" "_law_name" (defArgs s_law_name) (defBody s_law_name) (defScope s_law_name) .none kV doc pm an cdv ct) ⟨us, []⟩ = pure ((["pool"] : List Str).zip us) := match us, hl with | [_], _ => rfl
abbrev s_law_target : Stmt := top 40
abbrev N_law_target : List Str := ["pool"]
theorem sc_law_target : FnScope N_law_target ["pool"] (defScope s_law_target) := ⟨rfl, rfl, rfl, by decide +kernel, rfl, by decide +kernel, by decide +kernel⟩
theorem bd_law_target (kV doc pm : Value) (an : Option Addr) (cdv ct : Value) (us : List Value) (hl : us.length = (["pool"] : List Str).length) : bindArgs (PySem.W.fnOf "_law_target" "_law_target" (defArgs s_law_target) (defBody s_law_target) (defScope s_law_target) .none kV doc pm an cdv ct) ⟨us, []⟩ = pure ((["pool"] : List Str).zip us) := match us, hl with | [_], _ => rfl
abbrev s_law_last : Stmt := top 41
abbrev N_law_last : List Str := ["pool", "signs", "k"]
theorem sc_law_last : FnScope N_law_last ["pool"] (defScope s_law_last) := ⟨rfl, rfl, rfl, by decide +kernel, rfl, by decide +kernel, by decide +kernel⟩
theorem bd_law_last (kV doc pm : Value) (an : Option Addr) (cdv ct : Value) (us : List Value) (hl : us.length = (["pool"] : List Str).length) : bindArgs (PySem.W.fnOf "_law_last" "_law_last" (defArgs s_law_last) (defBody s_law_last) (defScope s_law_last) .none kV doc pm an cdv ct) ⟨us, []⟩ = pure ((["pool"] : List Str).zip us) := match us, hl with | [_], _ => rfl
abbrev s_law_part : Stmt := top 42
abbrev N_law_part : List Str := ["pool", "kind", "rows"]
theorem sc_law_part : FnScope N_law_part ["pool"] (defScope s_law_part) := ⟨rfl, rfl, rfl, by decide +kernel, rfl, by decide +kernel, by decide +kernel⟩
theorem bd_law_part (kV doc pm : Value) (an : Option Addr) (cdv ct : Value) (us : List Value) (hl : us.length = (["pool"] : List Str).length) : bindArgs (PySem.W.fnOf "_law_part" "_law_part" (defArgs s_law_part) (defBody s_law_part) (defScope s_law_part) .none kV doc pm an cdv ct) ⟨us, []⟩ = pure ((["pool"] : List Str).zip us) := match us, hl with | [_], _ => rfl
abbrev s_law_joined : Stmt := top 43
abbrev N_law_joined : List Str := ["pool", "words", "text", "k"]
theorem sc_law_joined : FnScope N_law_joined ["pool", "words"] (defScope s_law_joined) := ⟨rfl, rfl, rfl, by decide +kernel, rfl, by decide +kernel, by decide +kernel⟩
theorem bd_law_joined (kV doc pm : Value) (an : Option Addr) (cdv ct : Value) (us : List Value) (hl : us.length = (["pool", "words"] : List Str).length) : bindArgs (PySem.W.fnOf "_law_joined" "_law_joined" (defArgs s_law_joined) (defBody s_law_joined) (defScope s_law_joined) .none kV doc pm an cdv ct) ⟨us, []⟩ = pure ((["pool", "words"] : List Str).zip us) := match us, hl with | [_, _], _ => rfl
abbrev s_law_kind : Stmt := top 44
abbrev N_law_kind : List Str := ["sign"]
theorem sc_law_kind : FnScope N_law_kind ["sign"] (defScope s_law_kind) := ⟨rfl, rfl, rfl, by decide +kernel, rfl, by decide +kernel, by decide +kernel⟩
theorem bd_law_kind (kV doc pm : Value) (an : Option Addr) (cdv ct : Value) (us : List Value) (hl : us.length = (["sign"] : List Str).length) : bindArgs (PySem.W.fnOf "_law_kind" "_law_kind" (defArgs s_law_kind) (defBody s_law_kind) (defScope s_law_kind) .none kV doc pm an cdv ct) ⟨us, []⟩ = pure ((["sign"] : List Str).zip us) := match us, hl with | [_], _ => rfl
abbrev s_law_states : Stmt := top 45
abbrev N_law_states : List Str := ["table"]
theorem sc_law_states : FnScope N_law_states [] (defScope s_law_states) := ⟨rfl, rfl, rfl, by decide +kernel, rfl, by decide +kernel, by decide +kernel⟩
theorem bd_law_states (kV doc pm : Value) (an : Option Addr) (cdv ct : Value) (us : List Value) (hl : us.length = ([] : List Str).length) : bindArgs (PySem.W.fnOf "_law_states" "_law_states" (defArgs s_law_states) (defBody s_law_states) (defScope s_law_states) .none kV doc pm an cdv ct) ⟨us, []⟩ = pure (([] : List Str).zip us) := match us, hl with | [], _ => rfl
abbrev s_law_parts : Stmt := top 46
abbrev N_law_parts : List Str := ["table", "text", "parts", "words", "state", "is_right", "sign", "kind", "later"]
theorem sc_law_parts : FnScope N_law_parts ["table", "text"] (defScope s_law_parts) := ⟨rfl, rfl, rfl, by decide +kernel, rfl, by decide +kernel, by decide +kernel⟩
theorem bd_law_parts (kV doc pm : Value) (an : Option Addr) (cdv ct : Value) (us : List Value) (hl : us.length = (["table", "text"] : List Str).length) : bindArgs (PySem.W.fnOf "_law_parts" "_law_parts" (defArgs s_law_parts) (defBody s_law_parts) (defScope s_law_parts) .none kV doc pm an cdv ct) ⟨us, []⟩ = pure ((["table", "text"] : List Str).zip us) := match us, hl with | [_, _], _ => rfl
abbrev s_law_is_name : Stmt := top 47
abbrev N_law_is_name : List Str := ["word", "letters", "sign"]
theorem sc_law_is_name : FnScope N_law_is_name ["word"] (defScope s_law_is_name) := ⟨rfl, rfl, rfl, by decide +kernel, rfl, by decide +kernel, by decide +kernel⟩
theorem bd_law_is_name (kV doc pm : Value) (an : Option Addr) (cdv ct : Value) (us : List Value) (hl : us.length = (["word"] : List Str).length) : bindArgs (PySem.W.fnOf "_law_is_name" "_law_is_name" (defArgs s_law_is_name) (defBody s_law_is_name) (defScope s_law_is_name) .none kV doc pm an cdv ct) ⟨us, []⟩ = pure ((["word"] : List Str).zip us) := match us, hl with | [_], _ => rfl
abbrev s_law_fits : Stmt := top 48
abbrev N_law_fits : List Str := ["form", "word"]
theorem sc_law_fits : FnScope N_law_fits ["form", "word"] (defScope s_law_fits) := ⟨rfl, rfl, rfl, by decide +kernel, rfl, by decide +kernel, by decide +kernel⟩
theorem bd_law_fits (kV doc pm : Value) (an : Option Addr) (cdv ct : Value) (us : List Value) (hl : us.length = (["form", "word"] : List Str).length) : bindArgs (PySem.W.fnOf "_law_fits" "_law_fits" (defArgs s_law_fits) (defBody s_law_fits) (defScope s_law_fits) .none kV doc pm an cdv ct) ⟨us, []⟩ = pure ((["form", "word"] : List Str).zip us) := match us, hl with | [_, _], _ => rfl
abbrev s_law_read : Stmt := top 49
abbrev N_law_read : List Str := ["table", "text", "forms", "found", "words", "form", "k", "word"]
theorem sc_law_read : FnScope N_law_read ["table", "text"] (defScope s_law_read) := ⟨rfl, rfl, rfl, by decide +kernel, rfl, by decide +kernel, by decide +kernel⟩
theorem bd_law_read (kV doc pm : Value) (an : Option Addr) (cdv ct : Value) (us : List Value) (hl : us.length = (["table", "text"] : List Str).length) : bindArgs (PySem.W.fnOf "_law_read" "_law_read" (defArgs s_law_read) (defBody s_law_read) (defScope s_law_read) .none kV doc pm an cdv ct) ⟨us, []⟩ = pure ((["table", "text"] : List Str).zip us) := match us, hl with | [_, _], _ => rfl
abbrev s_law_near : Stmt := top 50
abbrev N_law_near : List Str := ["pool", "words", "k", "rows"]
theorem sc_law_near : FnScope N_law_near ["pool", "words"] (defScope s_law_near) := ⟨rfl, rfl, rfl, by decide +kernel, rfl, by decide +kernel, by decide +kernel⟩
theorem bd_law_near (kV doc pm : Value) (an : Option Addr) (cdv ct : Value) (us : List Value) (hl : us.length = (["pool", "words"] : List Str).length) : bindArgs (PySem.W.fnOf "_law_near" "_law_near" (defArgs s_law_near) (defBody s_law_near) (defScope s_law_near) .none kV doc pm an cdv ct) ⟨us, []⟩ = pure ((["pool", "words"] : List Str).zip us) := match us, hl with | [_, _], _ => rfl
abbrev s_law_right : Stmt := top 51
abbrev N_law_right : List Str := ["table", "text", "due", "told"]
theorem sc_law_right : FnScope N_law_right ["table", "text"] (defScope s_law_right) := ⟨rfl, rfl, rfl, by decide +kernel, rfl, by decide +kernel, by decide +kernel⟩
theorem bd_law_right (kV doc pm : Value) (an : Option Addr) (cdv ct : Value) (us : List Value) (hl : us.length = (["table", "text"] : List Str).length) : bindArgs (PySem.W.fnOf "_law_right" "_law_right" (defArgs s_law_right) (defBody s_law_right) (defScope s_law_right) .none kV doc pm an cdv ct) ⟨us, []⟩ = pure ((["table", "text"] : List Str).zip us) := match us, hl with | [_, _], _ => rfl
abbrev s_law_changed : Stmt := top 52
abbrev N_law_changed : List Str := ["pool", "table", "text", "signs", "turn", "k", "rows", "sign", "one"]
theorem sc_law_changed : FnScope N_law_changed ["pool", "table", "text"] (defScope s_law_changed) := ⟨rfl, rfl, rfl, by decide +kernel, rfl, by decide +kernel, by decide +kernel⟩
theorem bd_law_changed (kV doc pm : Value) (an : Option Addr) (cdv ct : Value) (us : List Value) (hl : us.length = (["pool", "table", "text"] : List Str).length) : bindArgs (PySem.W.fnOf "_law_changed" "_law_changed" (defArgs s_law_changed) (defBody s_law_changed) (defScope s_law_changed) .none kV doc pm an cdv ct) ⟨us, []⟩ = pure ((["pool", "table", "text"] : List Str).zip us) := match us, hl with | [_, _, _], _ => rfl
abbrev s_law_is_refused : Stmt := top 53
abbrev N_law_is_refused : List Str := ["value", "e", "other"]
theorem sc_law_is_refused : FnScope N_law_is_refused ["value"] (defScope s_law_is_refused) := ⟨rfl, rfl, rfl, by decide +kernel, rfl, by decide +kernel, by decide +kernel⟩
theorem bd_law_is_refused (kV doc pm : Value) (an : Option Addr) (cdv ct : Value) (us : List Value) (hl : us.length = (["value"] : List Str).length) : bindArgs (PySem.W.fnOf "_law_is_refused" "_law_is_refused" (defArgs s_law_is_refused) (defBody s_law_is_refused) (defScope s_law_is_refused) .none kV doc pm an cdv ct) ⟨us, []⟩ = pure ((["value"] : List Str).zip us) := match us, hl with | [_], _ => rfl
abbrev s_law_some_part : Stmt := top 54
abbrev N_law_some_part : List Str := ["pool", "parts"]
theorem sc_law_some_part : FnScope N_law_some_part ["pool", "parts"] (defScope s_law_some_part) := ⟨rfl, rfl, rfl, by decide +kernel, rfl, by decide +kernel, by decide +kernel⟩
theorem bd_law_some_part (kV doc pm : Value) (an : Option Addr) (cdv ct : Value) (us : List Value) (hl : us.length = (["pool", "parts"] : List Str).length) : bindArgs (PySem.W.fnOf "_law_some_part" "_law_some_part" (defArgs s_law_some_part) (defBody s_law_some_part) (defScope s_law_some_part) .none kV doc pm an cdv ct) ⟨us, []⟩ = pure ((["pool", "parts"] : List Str).zip us) := match us, hl with | [_, _], _ => rfl
abbrev s_law_said : Stmt := top 55
abbrev N_law_said : List Str := ["words", "last"]
theorem sc_law_said : FnScope N_law_said ["words"] (defScope s_law_said) := ⟨rfl, rfl, rfl, by decide +kernel, rfl, by decide +kernel, by decide +kernel⟩
theorem bd_law_said (kV doc pm : Value) (an : Option Addr) (cdv ct : Value) (us : List Value) (hl : us.length = (["words"] : List Str).length) : bindArgs (PySem.W.fnOf "_law_said" "_law_said" (defArgs s_law_said) (defBody s_law_said) (defScope s_law_said) .none kV doc pm an cdv ct) ⟨us, []⟩ = pure ((["words"] : List Str).zip us) := match us, hl with | [_], _ => rfl
abbrev slaw : Stmt := top 56
abbrev Nlaw : List Str := ["script", "pool", "table", "parts", "k", "word", "text", "words", "one", "many", "long", "values", "value"]
theorem sclaw : FnScope Nlaw ["script"] (defScope slaw) := ⟨rfl, rfl, rfl, by decide +kernel, rfl, by decide +kernel, by decide +kernel⟩
theorem bdlaw (kV doc pm : Value) (an : Option Addr) (cdv ct : Value) (us : List Value) (hl : us.length = (["script"] : List Str).length) : bindArgs (PySem.W.fnOf "law" "law" (defArgs slaw) (defBody slaw) (defScope slaw) .none kV doc pm an cdv ct) ⟨us, []⟩ = pure ((["script"] : List Str).zip us) := match us, hl with | [_], _ => rfl
/-- the kinds of the forms, as the program writes them -/
def knV : K80M.Kn → V
  | .t => .str "target"
  | .n => .str "name"
  | .w => .str "word"
  | .v => .str "any"
/-- the table of the forms -/
structure Frm (K : PySem.W.Frag) (w : World) (F : Addr) : Prop where
  d : ∃ es n, KDict K w F es n
  has : ∀ (z : Str) (ks : List K80M.Kn), K80M.look z.cps.toList K80M.forms = some ks → ∃ (u : Value) (a : Addr), PySem.W.nsIn K F z = some (some u) ∧ RelV (.ref a) u ∧ ∀ H, SqT K H a (ks.map knV)
  no : ∀ z : Str, K80M.look z.cps.toList K80M.forms = none → PySem.W.nsIn K F z = some none
/-- what the top has made, and left -/
structure Txt (K : PySem.W.Frag) (w : World) (mg : Str → Option Value) (F : Addr) : Prop where
  b_int : mg "int" = none
  b_range : mg "range" = none
  b_isinstance : mg "isinstance" = none
  b_bool : mg "bool" = none
  b_str : mg "str" = none
  b_dict : mg "dict" = none
  b_all : mg "all" = none
  b_sorted : mg "sorted" = none
  b_repr : mg "repr" = none
  b_len : mg "len" = none
  b_tuple : mg "tuple" = none
  b_list : mg "list" = none
  b_zip : mg "zip" = none
  b_ord : mg "ord" = none
  c_MOST_SIGNS : ∃ t, mg "MOST_SIGNS" = some (.int 3000 t)
  c_MOST_NAME_SIGNS : ∃ t, mg "MOST_NAME_SIGNS" = some (.int 10 t)
  c_PERCENT : ∃ t, mg "PERCENT" = some (.int 37 t)
  c_LETTERS : ∃ t, mg "LETTERS" = some (.str "abcdefghijklmnopqrstuvwxyz" t)
  c_NAME_SIGNS : ∃ t, mg "NAME_SIGNS" = some (.str "abcdefghijklmnopqrstuvwxyz0123456789-" t)
  c_BLANKS : ∃ t, mg "BLANKS" = some (.str " \n" t)
  c_QUOTE : ∃ t, mg "QUOTE" = some (.str "'" t)
  c_PART_END : ∃ t, mg "PART_END" = some (.str ";" t)
  c_FORMS : mg "FORMS" = some (.ref F)
  forms : Frm K w F
end K80

set_option Elab.async false
set_option linter.all false
set_option maxRecDepth 100000
set_option maxHeartbeats 4000000
/-! law k80: the signs and names (marks) -/
namespace K80
open PySem PySem.Spec PyProof.Rows L2
/-! ### texts as lists of code points -/
abbrev cz (z : Str) : List Nat := z.cps.toList
abbrev S (l : List Nat) : Str := ⟨l.toArray⟩
theorem cz_S (l : List Nat) : cz (S l) = l := rfl
theorem S_cz (z : Str) : S (cz z) = z := by cases z; simp [S, cz]
theorem cz_len (z : Str) : z.length = (cz z).length := by simp [Str.length, cz]
theorem cz_app (x y : Str) : cz (x ++ y) = cz x ++ cz y := by
  show (x.cps ++ y.cps).toList = _
  simp
theorem S_app (x y : List Nat) : S x ++ S y = S (x ++ y) := by
  show Str.mk (x.toArray ++ y.toArray) = _
  simp
theorem str_ext {x y : Str} (h : cz x = cz y) : x = y := by rw [← S_cz x, ← S_cz y, h]
theorem sign_S (c : Nat) : (⟨#[c]⟩ : Str) = S [c] := rfl
theorem vstr_eq {x y : Str} : (V.str x = V.str y) ↔ cz x = cz y := by
  constructor
  · intro h; cases h; rfl
  · intro h; rw [str_ext h]
def told (c : Nat) : Bool := decide (c = 10) || (decide (32 ≤ c) && (decide (c ≤ 126) && decide (c ≠ 37)))
theorem lt_one (a b : Nat) : (([a] : List Nat) < [b]) ↔ a < b := by
  constructor
  · intro h
    cases h with
    | rel h => exact h
    | cons h => cases h
  · intro h; exact .rel h
theorem nle_one (a b : Nat) : (!decide (([a] : List Nat) < [b])) = decide (b ≤ a) := by
  by_cases h : a < b
  · rw [decide_eq_true ((lt_one a b).mpr h), decide_eq_false (by omega)]; rfl
  · rw [decide_eq_false (fun q => h ((lt_one a b).mp q)), decide_eq_true (by omega)]; rfl
theorem ifT {b : Bool} {A B : Prop} (e : b = true) (h : A) : if b = true then A else B := by rw [if_pos e]; exact h
theorem ifF {b : Bool} {A B : Prop} (e : b = false) (h : B) : if b = true then A else B := by rw [e, if_neg Bool.false_ne_true]; exact h
theorem ifB {b : Bool} {A B : Prop} (h1 : b = true → A) (h2 : b = false → B) : if b = true then A else B := by
  cases b with
  | true => exact ifT rfl (h1 rfl)
  | false => exact ifF rfl (h2 rfl)
theorem vint_eq {a b : Int} : (V.int a = V.int b) ↔ a = b := by
  constructor
  · intro h; cases h; rfl
  · intro h; rw [h]
theorem vbl_eq {a b : Bool} : (V.bl a = V.bl b) ↔ a = b := by
  constructor
  · intro h; cases h; rfl
  · intro h; rw [h]
theorem cz_one (c : Nat) : cz ⟨#[c]⟩ = [c] := rfl
theorem dec_str {x y : Str} (b : Bool) (h : decide (cz x = cz y) = b) : decide (V.str x = V.str y) = b := by
  rw [← h]
  exact decide_eq_decide.mpr vstr_eq
theorem dec_int {a b : Int} (k : Bool) (h : decide (a = b) = k) : decide (V.int a = V.int b) = k := by
  rw [← h]
  exact decide_eq_decide.mpr vint_eq
section
variable {P : Program} {w : World} {K : PySem.W.Frag} {mg : Str → Option Value} {base : Heap} {F : Addr}
/-! ### is_told -/
def spIsTold : Sp := fun vs H Q _ => ∃ c : Nat, vs = [.str ⟨#[c]⟩] ∧ Q (.bl (told c)) H
theorem ok_is_told (T : Txt K w mg F) (A : At K mg "is_told" sis_told) : Cal P w K mg base CX0 1 "is_told" ["sign"] spIsTold := by
  refine A.ok scis_told (fun vs H Q E h => ?_) bdis_told (fun f cdv A outer s H vs Q E hr h => ?_)
  · obtain ⟨c, rfl, _⟩ := h; rfl
  obtain ⟨c, rfl, hQ⟩ := h
  refine ⟨_, (pss_one (ps_ret (pe_or (pe_cmpR op_eq (pv 0) pe_str (nomark _)) (pe_one (pe_and (pe_chain op_le_str op_le_str pe_str (pv 0) pe_str) (pe_one (pe_cmpR op_ne (pe_callB call_ord (by rfl) T.b_ord boot_ord (pa_cons (pv 0) pa_nil)) (pe_gi T.c_PERCENT) (nomark _)))))))), ?_⟩
  have e10 : cz "\n" = [10] := by decide +kernel
  have e32 : cz " " = [32] := by decide +kernel
  have e126 : cz "~" = [126] := by decide +kernel
  refine ⟨_, rfl, rfl, _, rfl, ?_⟩
  by_cases h10 : c = 10
  · refine ifT (dec_str _ (by rw [e10, cz_one]; simp [h10])) ?_
    have e : told c = true := by unfold told; simp [h10]
    rw [e] at hQ
    exact hQ
  refine ifF (dec_str _ (by rw [e10, cz_one]; simp [h10])) ⟨_, rfl, _, _, rfl, rfl, _, rfl, ?_⟩
  by_cases h32 : 32 ≤ c
  · refine ifT (by rw [show (" " : Str).cps.toList = [32] from e32]; exact (nle_one c 32).trans (decide_eq_true h32)) ⟨_, _, rfl, rfl, _, rfl, ?_⟩
    by_cases h126 : c ≤ 126
    · refine ifT (by rw [show ("~" : Str).cps.toList = [126] from e126]; exact (nle_one 126 c).trans (decide_eq_true h126)) ⟨_, rfl, _, rfl, rfl, rfl, ?_⟩
      have e : told c = !decide (V.int (c : Nat) = V.int 37) := by
        unfold told
        rw [dec_int (decide (c = 37)) (decide_eq_decide.mpr (by omega))]
        simp [h10, h32, h126]
      rw [e] at hQ
      exact hQ
    · refine ifF (by rw [show ("~" : Str).cps.toList = [126] from e126]; exact (nle_one 126 c).trans (decide_eq_false h126)) ?_
      have e : told c = false := by unfold told; simp [h10, h126]
      rw [e] at hQ
      exact hQ
  · refine ifF (by rw [show (" " : Str).cps.toList = [32] from e32]; exact (nle_one c 32).trans (decide_eq_false h32)) ⟨_, rfl, ?_⟩
    have e : told c = false := by unfold told; simp [h10, h32]
    rw [e] at hQ
    exact iteF hQ
/-! ### are_told, is_text -/
def isText (z : Str) : Bool := decide (z.length ≤ 3000) && (cz z).all told
def spAreTold : Sp := fun vs H Q _ => ∃ z : Str, vs = [.str z] ∧ z.length ≤ sizeLine ∧ ∀ H', Same H H' → Q (.bl ((cz z).all told)) H'
theorem Same.new {H : Hp} {p : Addr} {o : HO} (h : H p = none) : Same H (upd H p o) := fun b u e => by
  rw [upd_ne (ne_of_none e h)]; exact e
/-- an object that H does not know changes -/
theorem Same.mut {H H' : Hp} {p : Addr} {o : HO} (s : Same H H') (h : H p = none) : Same H (upd H' p o) := fun b u e => by
  rw [upd_ne (ne_of_none e h)]; exact s b u e
theorem ok_are_told (T : Txt K w mg F) (A : At K mg "are_told" sare_told) (C_is_told : Cal P w K mg base CX0 1 "is_told" ["sign"] spIsTold) : Cal P w K mg base CX0 2 "are_told" ["value"] spAreTold := by
  refine A.ok scare_told (fun vs H Q E h => ?_) bdare_told (fun f cdv A outer s H vs Q E hr h => ?_)
  · obtain ⟨z, rfl, _⟩ := h; rfl
  obtain ⟨z, rfl, hz, hQ⟩ := h
  refine ⟨_, (pss_one (ps_ret (pe_and (pe_callB call_isi (by rfl) T.b_isinstance boot_isinstance (pa_cons (pv 0) (pa_cons (pe_bltn (v := .ty "str") rfl T.b_str boot_str rfl) pa_nil))) (pe_one (pe_callB (cr_all rfl) (by rfl) T.b_all boot_all (pa_cons (pe_lc (own := [("sign", 1)]) (g := gName 1) (tt := tYes) rfl scare_told.nd (pi_str (pv 0)) (blkOk_by (own := [("sign", 1)]) (N := Nare_told) (sc := defScope sare_told) (by decide +kernel)) (fun _ _ _ _ _ => (pg_name (i := 1) scare_told.nd rfl (Or.inl rfl))) (fun _ _ _ _ _ => pts_nil) (fun _ _ _ _ _ => (pe_cal C_is_told (hr.mono (by decide)) pass0 (pa_cons (pv 1) pa_nil)))) pa_nil)))))), ?_⟩
  refine ⟨_, rfl, _, _, _, _, true, rfl, .ty "str", .base (.str z), kit_ty (by decide +kernel), _, rfl, ?_⟩
  refine iteT ⟨_, rfl, _, rfl, fun D hD => ?_⟩
  refine lc_it walk_str (fun i H' => Same H H' ∧ H' D = some (.lst (((cz z).take i).map fun c => V.bl (told c)))) ⟨Same.new hD, upd_same⟩ (fun _ _ _ _ => trivial) (fun i x H1 H' hi p y => ?_) (fun H1 p => ?_)
  · obtain ⟨s1, hd⟩ := p
    obtain ⟨e, c, hc, ex⟩ := y
    subst e ex
    have hc' : (cz z)[i]? = some c := by simpa [cz] using hc
    refine ⟨rfl, _, rfl, c, rfl, _, hd, ?_, Same.mut s1 hD, ?_⟩
    · rw [List.length_map, List.length_take]
      rw [cz_len] at hz
      have : i < z.cps.size := hi
      have : z.cps.size = (cz z).length := by simp [cz]
      omega
    · rw [upd_same, List.take_add_one, hc', List.map_append]
      rfl
  · obtain ⟨s1, hd⟩ := p
    have e : z.cps.size = (cz z).length := by simp [cz]
    rw [e, List.take_length] at hd
    refine ⟨D, (cz z).map told, rfl, SqL.of (by rw [hd, List.map_map]; rfl), ?_⟩
    have e2 : ((cz z).map told).all id = (cz z).all told := by rw [List.all_map]; rfl
    rw [e2]
    exact hQ H1 s1
/-- is_text: of a text; of what is none -/
def spIsText (K : PySem.W.Frag) : Sp := fun vs H Q _ => ∃ v : V, vs = [v] ∧ ((∃ z : Str, v = .str z ∧ z.length ≤ sizeLine ∧ ∀ H', Same H H' → Q (.bl (isText z)) H') ∨ ∃ t : Value, TyX K H v t ∧ PySem.W.kitOne K t (.type "str") = some false ∧ Q (.bl false) H)
theorem ok_is_text (T : Txt K w mg F) (A : At K mg "is_text" sis_text) (C_are_told : Cal P w K mg base CX0 2 "are_told" ["value"] spAreTold) : Cal P w K mg base CX0 3 "is_text" ["value"] (spIsText K) := by
  refine A.ok scis_text (fun vs H Q E h => ?_) bdis_text (fun f cdv A outer s H vs Q E hr h => ?_)
  · obtain ⟨v, rfl, _⟩ := h; rfl
  obtain ⟨v, rfl, h⟩ := h
  refine ⟨_, (pss_one (ps_ret (pe_and (pe_callB call_isi (by rfl) T.b_isinstance boot_isinstance (pa_cons (pv 0) (pa_cons (pe_bltn (v := .ty "str") rfl T.b_str boot_str rfl) pa_nil))) (pe_and (pe_cmpR op_le (pe_callB call_len_str (by rfl) T.b_len boot_len (pa_cons (pv 0) pa_nil)) (pe_gi T.c_MOST_SIGNS) (nomark _)) (pe_one (pe_cal C_are_told (hr.mono (by decide)) pass0 (pa_cons (pv 0) pa_nil))))))), ?_⟩
  rcases h with ⟨z, rfl, hz, hQ⟩ | ⟨t, ht, hk, hQ⟩
  · refine ⟨_, rfl, _, _, _, _, true, rfl, .ty "str", .base (.str z), kit_ty (by decide +kernel), _, rfl, iteT ⟨_, rfl, z, rfl, hz, _, _, rfl, rfl, _, rfl, ?_⟩⟩
    by_cases hl : z.length ≤ 3000
    · refine ifT (decide_eq_true (by omega)) ⟨_, rfl, z, rfl, hz, fun H' s' => ?_⟩
      have := hQ H' s'
      unfold isText at this
      rw [decide_eq_true hl, Bool.true_and] at this
      exact this
    · refine ifF (decide_eq_false (by omega)) ?_
      have := hQ H (Same.refl H)
      unfold isText at this
      rw [decide_eq_false hl, Bool.false_and] at this
      exact this
  · exact ⟨_, rfl, _, _, _, _, false, rfl, .ty "str", ht, hk, _, rfl, iteF hQ⟩
end
end K80

set_option Elab.async false
set_option linter.all false
set_option maxRecDepth 100000
set_option maxHeartbeats 4000000
/-! law k80: names; where words end; which words fit -/
namespace K80
open PySem PySem.Spec PyProof.Rows L2
theorem get_drop {cs : List Nat} {n : Nat} {c : Nat} {r : List Nat} (h : cs.drop n = c :: r) : cs[n]? = some c ∧ cs.drop (n + 1) = r := by
  have e : (cs.drop n)[0]? = some c := by rw [h]; rfl
  rw [List.getElem?_drop] at e
  refine ⟨by simpa using e, ?_⟩
  have e2 : (cs.drop n).drop 1 = r := by rw [h]; rfl
  rw [List.drop_drop] at e2
  exact e2
section
variable {P : Program} {w : World} {K : PySem.W.Frag} {mg : Str → Option Value} {base : Heap} {F : Addr}
/-! ### name_end, is_name -/
def spNameEnd : Sp := fun vs H Q _ => ∃ z : Str, vs = [.str z, .int 0] ∧ z.length ≤ sizeLine ∧ ∀ r : Int, decide (r = (z.length : Int)) = K80M.isName (cz z) → Q (.int r) H
theorem isName_len {w : List Nat} (h : ¬ w.length ≤ 10) : K80M.isName w = false := by
  unfold K80M.isName
  rw [decide_eq_false h]
  simp
theorem isName_char {w : List Nat} {i c : Nat} (h : w[i]? = some c) (hc : c ∉ K80M.nameSigns) : K80M.isName w = false := by
  cases e : K80M.isName w with
  | false => rfl
  | true =>
    unfold K80M.isName at e
    simp only [Bool.and_eq_true, List.all_eq_true, decide_eq_true_eq] at e
    exact absurd (e.2 c (List.mem_of_getElem? h)) hc
theorem ok_name_end (T : Txt K w mg F) (A : At K mg "name_end" sname_end) : Cal P w K mg base CX0 1 "name_end" ["text", "at"] spNameEnd := by
  refine A.ok scname_end (fun vs H Q E h => ?_) bdname_end (fun f cdv A outer s H vs Q E hr h => ?_)
  · obtain ⟨z, rfl, _⟩ := h; rfl
  obtain ⟨z, rfl, hz, hQ⟩ := h
  have eL : cz "abcdefghijklmnopqrstuvwxyz" = K80M.letters := by decide +kernel
  have eN : cz "abcdefghijklmnopqrstuvwxyz0123456789-" = K80M.nameSigns := by decide +kernel
  have sub : ∀ c ∈ K80M.letters, c ∈ K80M.nameSigns := by decide
  refine ⟨_, (pss_cons (ps_if (PW.pt (pw_or (pt_cmpR op_ge (pv 1) (pe_callB call_len_str (by rfl) T.b_len boot_len (pa_cons (pv 0) pa_nil)) (nomark _)) (pw_or1 (pt_cmpR op_notIn_sign (pe_ix ix_str (pv 0) (pv 1) (fun _ _ => rfl)) (pe_gs T.c_LETTERS) rfl)))) (pss_one (ps_ret (pe_un un_neg pe_int))) pss_nil)
      (pss_cons (ps_set (i := 2) scname_end.nd rfl (Or.inl rfl) (pe_op op_add (pv 1) pe_int))
      (pss_cons (ps_while PassesOwn.never (PW.pt (pw_and (pt_cmpR op_lt (pv 2) (pe_callB call_len_str (by rfl) T.b_len boot_len (pa_cons (pv 0) pa_nil)) (nomark _)) (pw_and (pt_cmpR op_le (pe_op op_sub (pv 2) (pv 1)) (pe_gi T.c_MOST_NAME_SIGNS) (nomark _)) (pw_and1 (pt_cmpR op_in_sign (pe_ix ix_str (pv 0) (pv 2) (fun _ _ => rfl)) (pe_gs T.c_NAME_SIGNS) rfl))))) (pss_one (ps_aug (i := 2) scname_end.nd rfl (Or.inl rfl) pe_int ip_add)))
      (pss_one (ps_ret (pe_ifExp (pt_cmpR op_le (pe_op op_sub (pv 2) (pv 1)) (pe_gi T.c_MOST_NAME_SIGNS) (nomark _)) (pv 2) (pe_un un_neg pe_int))))))), ?_⟩
  refine ⟨_, rfl, _, rfl, z, rfl, hz, _, _, rfl, rfl, _, rfl, ?_⟩
  have hl := cz_len z
  cases hcs : cz z with
  | nil =>
    rw [hcs] at hl
    have hl0 : z.length = 0 := hl
    refine ifT (decide_eq_true (by rw [hl0]; decide)) ?_
    refine ⟨1, rfl, hQ _ ?_⟩
    rw [hcs, hl0]
    rfl
  | cons c0 r0 =>
    rw [hcs] at hl
    have hl1 : z.length = r0.length + 1 := hl
    have h0 : (cz z)[0]? = some c0 := by rw [hcs]; rfl
    refine ifF (decide_eq_false (by rw [hl1]; omega)) ⟨_, rfl, _, rfl, z, 0, c0, rfl, rfl, hz, atI_nat (j := 0) h0, c0, _, rfl, rfl, _, rfl, ?_⟩
    by_cases hc0 : c0 ∈ K80M.letters
    · refine ifF (by rw [show ("abcdefghijklmnopqrstuvwxyz" : Str).cps.toList = K80M.letters from eL, decide_eq_true hc0]; rfl) ?_
      refine ⟨_, rfl, _, _, rfl, rfl, ?_⟩
      -- the loop
      refine ⟨fun m σ H' => H' = H ∧ ∃ e : Nat, σ = [some (.str z), some (.int 0), some (.int (e : Int))] ∧ m = 12 - e ∧ 1 ≤ e ∧ e ≤ z.length ∧ e ≤ 11 ∧ ∀ (i c : Nat), i < e → (cz z)[i]? = some c → c ∈ K80M.nameSigns, ⟨_, rfl, 1, rfl, rfl, Nat.le_refl 1, by omega, by omega, fun i c hi hc => ?_⟩, ?_⟩
      · have : i = 0 := by omega
        subst this
        rw [h0] at hc
        rw [← Option.some.inj hc]
        exact sub _ hc0
      · rintro m σ H' ⟨rfl, e, rfl, rfl, he1, hel, he11, hall⟩
        -- what stands behind the loop
        have out : ¬ (e < z.length ∧ e ≤ 10 ∧ ∃ c, (cz z)[e]? = some c ∧ c ∈ K80M.nameSigns) → tRet (tIf (tTest (tOp (rI0 fun i j => .bl (decide (i ≤ j))) (tOp (rI0 fun i j => .int (i - j)) (tVar 2) (tVar 1)) (tC (.int 10)))) (tVar 2) (tUn (rU fun i => .int (-i)) (tC (.int 1)))) { nx := fun _ H' => Q .non H', rt := Q } [some (.str z), some (.int 0), some (.int (e : Int))] H' := by
          intro hn
          refine ⟨_, rfl, _, rfl, _, _, rfl, rfl, _, _, rfl, rfl, _, rfl, ?_⟩
          by_cases h10 : e ≤ 10
          · refine ifT (decide_eq_true (by omega)) ⟨_, rfl, hQ _ ?_⟩
            by_cases hee : e = z.length
            · rw [decide_eq_true (by omega)]
              symm
              rw [hee, cz_len] at hall
              have hlen : (cz z).length ≤ 10 := by rw [← cz_len]; omega
              have hlen1 : 1 ≤ (cz z).length := by rw [← cz_len]; omega
              unfold K80M.isName
              rw [decide_eq_true hlen, decide_eq_true hlen1, hcs]
              simp only [Bool.and_eq_true, List.all_eq_true, decide_eq_true_eq, true_and]
              refine ⟨hc0, fun c hc => ?_⟩
              rw [← hcs] at hc
              obtain ⟨i, hi, rfl⟩ := List.mem_iff_getElem.mp hc
              exact hall i _ hi (List.getElem?_eq_getElem hi)
            · rw [decide_eq_false (by omega)]
              symm
              have hlt : e < (cz z).length := by rw [← cz_len]; omega
              have he : (cz z)[e]? = some (cz z)[e] := List.getElem?_eq_getElem hlt
              exact isName_char he fun hm => hn ⟨by omega, h10, _, he, hm⟩
          · refine ifF (decide_eq_false (by omega)) ⟨1, rfl, hQ _ ?_⟩
            rw [decide_eq_false (by omega)]
            symm
            exact isName_len (by rw [← cz_len]; omega)
        refine ⟨_, rfl, _, rfl, z, rfl, hz, _, _, rfl, rfl, _, rfl, ?_⟩
        by_cases h1 : e < z.length
        · refine ifT (decide_eq_true (by omega)) ⟨_, rfl, _, rfl, _, _, rfl, rfl, _, _, rfl, rfl, _, rfl, ?_⟩
          by_cases h2 : e ≤ 10
          · have hlt : e < (cz z).length := by rw [← cz_len]; exact h1
            have he : (cz z)[e]? = some (cz z)[e] := List.getElem?_eq_getElem hlt
            refine ifT (decide_eq_true (by omega)) ⟨_, rfl, _, rfl, z, _, _, rfl, rfl, hz, atI_nat he, _, _, rfl, rfl, _, rfl, ?_⟩
            by_cases h3 : (cz z)[e] ∈ K80M.nameSigns
            · refine ifT (by rw [show ("abcdefghijklmnopqrstuvwxyz0123456789-" : Str).cps.toList = K80M.nameSigns from eN, decide_eq_true h3]) ⟨fun σ' H2 => H2 = H' ∧ σ' = [some (.str z), some (.int 0), some (.int ((e : Int) + 1))], ?_, ?_⟩
              · rintro σ' H2 ⟨rfl, rfl⟩
                refine ⟨12 - (e + 1), by omega, rfl, e + 1, by rfl, rfl, by omega, by omega, by omega, fun i c hi hc => ?_⟩
                by_cases hie : i = e
                · subst hie
                  rw [he] at hc
                  rw [← Option.some.inj hc]
                  exact h3
                · exact hall i c (by omega) hc
              · exact ⟨_, rfl, _, _, rfl, rfl, rfl, rfl⟩
            · refine ifF (by rw [show ("abcdefghijklmnopqrstuvwxyz0123456789-" : Str).cps.toList = K80M.nameSigns from eN, decide_eq_false h3]) (out ?_)
              rintro ⟨_, _, c, hc, hm⟩
              rw [he] at hc
              rw [← Option.some.inj hc] at hm
              exact h3 hm
          · exact ifF (decide_eq_false (by omega)) (out fun h => h2 h.2.1)
        · exact ifF (decide_eq_false (by omega)) (out fun h => h1 h.1)
    · refine ifT (by rw [show ("abcdefghijklmnopqrstuvwxyz" : Str).cps.toList = K80M.letters from eL, decide_eq_false hc0]; rfl) ⟨1, rfl, hQ _ ?_⟩
      have : K80M.isName (cz z) = false := by
        rw [hcs]
        unfold K80M.isName
        simp [hc0]
      rw [this]
      exact decide_eq_false (by omega)
def spIsName : Sp := fun vs H Q _ => ∃ z : Str, vs = [.str z] ∧ z.length ≤ sizeLine ∧ Q (.bl (K80M.isName (cz z))) H
theorem ok_is_name (T : Txt K w mg F) (A : At K mg "is_name" sis_name) (C_name_end : Cal P w K mg base CX0 1 "name_end" ["text", "at"] spNameEnd) : Cal P w K mg base CX0 2 "is_name" ["value"] spIsName := by
  refine A.ok scis_name (fun vs H Q E h => ?_) bdis_name (fun f cdv A outer s H vs Q E hr h => ?_)
  · obtain ⟨z, rfl, _⟩ := h; rfl
  obtain ⟨z, rfl, hz, hQ⟩ := h
  refine ⟨_, (pss_one (ps_ret (pe_and (pe_callB call_isi (by rfl) T.b_isinstance boot_isinstance (pa_cons (pv 0) (pa_cons (pe_bltn (v := .ty "str") rfl T.b_str boot_str rfl) pa_nil))) (pe_one (pe_cmpR op_eq (pe_cal C_name_end (hr.mono (by decide)) pass0 (pa_cons (pv 0) (pa_cons pe_int pa_nil))) (pe_callB call_len_str (by rfl) T.b_len boot_len (pa_cons (pv 0) pa_nil)) (nomark _)))))), ?_⟩
  refine ⟨_, rfl, _, _, _, _, true, rfl, .ty "str", .base (.str z), kit_ty (by decide +kernel), _, rfl, iteT ⟨_, rfl, z, rfl, hz, fun r hr => ?_⟩⟩
  refine ⟨_, rfl, z, rfl, hz, rfl, ?_⟩
  rw [dec_int _ hr]
  exact hQ
/-! ### ends_word, word_end -/
def spEndsWord : Sp := fun vs H Q _ => ∃ (z : Str) (n : Nat), vs = [.str z, .int n] ∧ z.length ≤ sizeLine ∧ n ≤ z.length ∧ Q (.bl (K80M.endsW ((cz z).drop n))) H
theorem cz_59 : cz ";" = [59] := by decide +kernel
theorem cz_39 : cz "'" = [39] := by decide +kernel
theorem cz_bl : cz " \n" = [32, 10] := by decide +kernel
theorem mem_bl (c : Nat) : decide (c ∈ (" \n" : Str).cps.toList) = K80M.blank c := by
  rw [show (" \n" : Str).cps.toList = [32, 10] from cz_bl]
  unfold K80M.blank
  by_cases h : c = 32
  · subst h; rfl
  · by_cases h' : c = 10
    · subst h'; rfl
    · rw [decide_eq_false (by simp [h, h'])]
      simp [h, h']
theorem ok_ends_word (T : Txt K w mg F) (A : At K mg "ends_word" sends_word) : Cal P w K mg base CX0 1 "ends_word" ["text", "at"] spEndsWord := by
  refine A.ok scends_word (fun vs H Q E h => ?_) bdends_word (fun f cdv A outer s H vs Q E hr h => ?_)
  · obtain ⟨z, n, rfl, _⟩ := h; rfl
  obtain ⟨z, n, rfl, hz, hn, hQ⟩ := h
  refine ⟨_, (pss_one (ps_ret (pe_or (pe_cmpR op_eq (pv 1) (pe_callB call_len_str (by rfl) T.b_len boot_len (pa_cons (pv 0) pa_nil)) (nomark _)) (pe_or (pe_cmpR op_eq (pe_ix ix_str (pv 0) (pv 1) (fun _ _ => rfl)) (pe_gs T.c_PART_END) (nomark _)) (pe_one (pe_cmpR op_in_sign (pe_ix ix_str (pv 0) (pv 1) (fun _ _ => rfl)) (pe_gs T.c_BLANKS) rfl)))))), ?_⟩
  refine ⟨_, rfl, _, rfl, z, rfl, hz, rfl, _, rfl, ?_⟩
  have hl := cz_len z
  cases hd : (cz z).drop n with
  | nil =>
    rw [hd] at hQ
    have hle : (cz z).length ≤ n := by
      have := congrArg List.length hd
      rw [List.length_drop, List.length_nil] at this
      omega
    exact ifT (dec_int _ (decide_eq_true (by omega))) hQ
  | cons c r =>
    rw [hd] at hQ
    obtain ⟨hc, _⟩ := get_drop hd
    have hlt : n < (cz z).length := (List.getElem?_eq_some_iff.mp hc).1
    refine ifF (dec_int _ (decide_eq_false (by omega))) ⟨_, rfl, _, rfl, z, _, c, rfl, rfl, hz, atI_nat hc, rfl, _, rfl, ?_⟩
    have hQ' : Q (.bl (K80M.ew c)) H := hQ
    unfold K80M.ew at hQ'
    by_cases h59 : c = 59
    · refine ifT (dec_str _ (by rw [cz_one, cz_59]; simp [h59])) ?_
      subst h59
      exact hQ'
    · refine ifF (dec_str _ (by rw [cz_one, cz_59]; simp [h59])) ⟨_, rfl, _, rfl, z, _, c, rfl, rfl, hz, atI_nat hc, c, _, rfl, rfl, ?_⟩
      rw [mem_bl]
      have e : (c == 59) = false := by simp [h59]
      rw [e, Bool.false_or] at hQ'
      exact hQ'
def spWordEnd : Sp := fun vs H Q _ => ∃ (z : Str) (n : Nat), vs = [.str z, .int n] ∧ z.length ≤ sizeLine ∧ n ≤ z.length ∧ Q (.int ((n + (K80M.wTake ((cz z).drop n)).length : Nat) : Int)) H
theorem ok_word_end (T : Txt K w mg F) (A : At K mg "word_end" sword_end) (C_ends_word : Cal P w K mg base CX0 1 "ends_word" ["text", "at"] spEndsWord) : Cal P w K mg base CX0 2 "word_end" ["text", "at"] spWordEnd := by
  refine A.ok scword_end (fun vs H Q E h => ?_) bdword_end (fun f cdv A outer s H vs Q E hr h => ?_)
  · obtain ⟨z, n, rfl, _⟩ := h; rfl
  obtain ⟨z, n, rfl, hz, hn, hQ⟩ := h
  refine ⟨_, (pss_cons (ps_while PassesOwn.never (pt_not (pt_val (pe_cal C_ends_word (hr.mono (by decide)) pass0 (pa_cons (pv 0) (pa_cons (pv 1) pa_nil))))) (pss_one (ps_aug (i := 1) scword_end.nd rfl (Or.inl rfl) pe_int ip_add)))
      (pss_one (ps_ret (pv 1)))), ?_⟩
  refine ⟨fun m σ H' => H' = H ∧ ∃ e : Nat, σ = [some (.str z), some (.int (e : Int))] ∧ m = z.length - e ∧ e ≤ z.length ∧ e + (K80M.wTake ((cz z).drop e)).length = n + (K80M.wTake ((cz z).drop n)).length, ⟨_, rfl, n, rfl, rfl, hn, rfl⟩, ?_⟩
  rintro m σ H' ⟨rfl, e, rfl, rfl, hel, heq⟩
  refine ⟨_, rfl, _, rfl, z, e, rfl, hz, hel, _, rfl, ?_⟩
  have hl := cz_len z
  cases hd : (cz z).drop e with
  | nil =>
    refine ifF rfl ⟨_, rfl, ?_⟩
    rw [hd] at heq
    have e0 : (K80M.wTake ([] : List Nat)).length = 0 := rfl
    rw [e0] at heq
    rw [← heq] at hQ
    exact hQ
  | cons c r =>
    obtain ⟨hc, hr'⟩ := get_drop hd
    have hlt : e < (cz z).length := (List.getElem?_eq_some_iff.mp hc).1
    cases hw : K80M.ew c with
    | true =>
      refine ifF (by show (!K80M.ew c) = false; rw [hw]; rfl) ⟨_, rfl, ?_⟩
      have e0 : (K80M.wTake (c :: r)).length = 0 := by unfold K80M.wTake; rw [List.takeWhile_cons]; simp [hw]
      rw [hd, e0] at heq
      rw [← heq] at hQ
      exact hQ
    | false =>
      refine ifT (by show (!K80M.ew c) = true; rw [hw]; rfl) ⟨fun σ' H2 => H2 = H' ∧ σ' = [some (.str z), some (.int ((e : Int) + 1))], ?_, ?_⟩
      · rintro σ' H2 ⟨rfl, rfl⟩
        refine ⟨z.length - (e + 1), by omega, rfl, e + 1, by rfl, rfl, by omega, ?_⟩
        rw [hd, K80M.wTake_cons hw, List.length_cons] at heq
        rw [hr']
        omega
      · exact ⟨_, rfl, _, _, rfl, rfl, rfl, rfl⟩
/-! ### fits -/
theorem starts_hash (z : Str) : Txt.startswith z "#" = decide ((cz z).head? = some 35) := by
  obtain ⟨l, rfl⟩ : ∃ l, z = S l := ⟨cz z, (S_cz z).symm⟩
  have e : ("#" : Str) = S [35] := str_ext (by decide +kernel)
  rw [e]
  unfold Txt.startswith
  cases l with
  | nil => rfl
  | cons c r =>
    have h1 : decide (0 + (S [35]).length ≤ (S (c :: r)).length) = true := decide_eq_true (by show 0 + 1 ≤ r.length + 1; omega)
    have h2 : PySem.Builtin.Str.subAt (S (c :: r)) (S [35]) 0 = decide (c = 35) := by
      show ((c :: r).toArray.extract 0 (0 + 1) == #[35]) = _
      by_cases h : c = 35
      · subst h; simp
      · simp [h]
    rw [h1, h2]
    simp [cz]
def spFits : Sp := fun vs H Q _ => ∃ (k : K80M.Kn) (z : Str) (q : Bool), vs = [knV k, .str z, .bl q] ∧ z.length ≤ sizeLine ∧ Q (.bl (K80M.fit k (cz z, q))) H
theorem ok_fits (T : Txt K w mg F) (A : At K mg "fits" sfits) (C_is_name : Cal P w K mg base CX0 2 "is_name" ["value"] spIsName) : Cal P w K mg base CX0 3 "fits" ["kind", "word", "is_quoted"] spFits := by
  refine A.ok scfits (fun vs H Q E h => ?_) bdfits (fun f cdv A outer s H vs Q E hr h => ?_)
  · obtain ⟨k, z, q, rfl, _⟩ := h; rfl
  obtain ⟨k, z, q, rfl, hz, hQ⟩ := h
  refine ⟨_, (pss_cons (ps_if (pt_cmpR op_eq (pv 0) pe_str (nomark _)) (pss_one (ps_ret pe_bl)) pss_nil)
      (pss_cons (ps_if (pt_val (pv 2)) (pss_one (ps_ret pe_bl)) pss_nil)
      (pss_cons (ps_if (pt_cmpR op_eq (pv 0) pe_str (nomark _)) (pss_one (ps_ret (pe_or (pe_cmpR op_eq (pv 1) pe_str (nomark _)) (pe_one (pe_and (pe_bm PySem.F.plainAttrs_str PySem.F.slot_str_startswith PySem.F.type_str_startswith mt_startswith (pv 1) (pa_cons pe_str pa_nil)) (pe_one (pe_cmpR op_gt (pe_callB call_len_str (by rfl) T.b_len boot_len (pa_cons (pv 1) pa_nil)) pe_int (nomark _)))))))) pss_nil)
      (pss_one (ps_ret (pe_or (pe_cmpR op_eq (pv 0) pe_str (nomark _)) (pe_one (pe_cal C_is_name (hr.mono (by decide)) pass0 (pa_cons (pv 1) pa_nil))))))))), ?_⟩
  have n1 : (cz "any" = cz "target") = False := by simp only [eq_iff_iff, iff_false]; decide +kernel
  cases k with
  | v =>
    exact ⟨_, rfl, rfl, _, rfl, ifT (dec_str true (decide_eq_true rfl)) hQ⟩
  | t =>
    refine ⟨_, rfl, rfl, _, rfl, ifF (dec_str false (by decide +kernel)) ⟨_, rfl, q, rfl, ?_⟩⟩
    cases q with
    | true => exact ifT rfl hQ
    | false =>
      refine ifF rfl ⟨_, rfl, rfl, _, rfl, ifT (dec_str true (decide_eq_true rfl)) ⟨_, rfl, rfl, _, rfl, ?_⟩⟩
      have hQ' : Q (.bl (K80M.isTgt (cz z))) H := hQ
      unfold K80M.isTgt at hQ'
      have eS : cz "self" = K80M.cp "self" := by decide +kernel
      by_cases hs : cz z = K80M.cp "self"
      · refine ifT (dec_str true (by rw [eS]; exact decide_eq_true hs)) ?_
        rw [decide_eq_true hs, Bool.true_or] at hQ'
        exact hQ'
      · refine ifF (dec_str false (by rw [eS]; exact decide_eq_false hs)) ⟨_, rfl, rfl, z, _, rfl, rfl, _, rfl, ?_⟩
        rw [decide_eq_false hs, Bool.false_or] at hQ'
        rw [starts_hash]
        by_cases hh : (cz z).head? = some 35
        · rw [decide_eq_true hh, Bool.true_and] at hQ'
          refine ifT (decide_eq_true hh) ⟨_, rfl, z, rfl, hz, _, _, rfl, rfl, ?_⟩
          rw [cz_len]
          have e : decide ((1 : Int) < ((cz z).length : Nat)) = decide (2 ≤ (cz z).length) := decide_eq_decide.mpr (by omega)
          rw [← e] at hQ'
          exact hQ'
        · rw [decide_eq_false hh, Bool.false_and] at hQ'
          exact ifF (decide_eq_false hh) hQ'
  | n =>
    refine ⟨_, rfl, rfl, _, rfl, ifF (dec_str false (by decide +kernel)) ⟨_, rfl, q, rfl, ?_⟩⟩
    cases q with
    | true => exact ifT rfl hQ
    | false =>
      refine ifF rfl ⟨_, rfl, rfl, _, rfl, ifF (dec_str false (by decide +kernel)) ⟨_, rfl, rfl, _, rfl, ifF (dec_str false (by decide +kernel)) ?_⟩⟩
      exact ⟨_, rfl, z, rfl, hz, hQ⟩
  | w =>
    refine ⟨_, rfl, rfl, _, rfl, ifF (dec_str false (by decide +kernel)) ⟨_, rfl, q, rfl, ?_⟩⟩
    cases q with
    | true => exact ifT rfl hQ
    | false =>
      refine ifF rfl ⟨_, rfl, rfl, _, rfl, ifF (dec_str false (by decide +kernel)) ⟨_, rfl, rfl, _, rfl, ifT (dec_str true (decide_eq_true rfl)) hQ⟩⟩
end
end K80

set_option Elab.async false
set_option linter.all false
set_option maxRecDepth 100000
set_option maxHeartbeats 4000000
/-! law k80: the cutter of the program -/
namespace K80
open PySem PySem.Spec PyProof.Rows L2
open K80M (Wd Part)
/-! ### what stands for words and parts -/
def RepW (H : Hp) (v : V) (u : Wd) : Prop := ∃ a, v = .ref a ∧ H a = some (.tup [.str (S u.1), .bl u.2])
def RepWs (H : Hp) (a : Addr) (ws : List Wd) : Prop := ∃ xs, H a = some (.lst xs) ∧ Paired (RepW H) xs ws
def RepP (H : Hp) (v : V) : Part → Prop
  | none => v = .non
  | some ws => ∃ a, v = .ref a ∧ RepWs H a ws
def RepPs (H : Hp) (a : Addr) (ps : List Part) : Prop := ∃ xs, H a = some (.lst xs) ∧ Paired (RepP H) xs ps
theorem RepW.same {H H' : Hp} (s : Same H H') {v : V} {u : Wd} (h : RepW H v u) : RepW H' v u := by
  obtain ⟨a, e, h⟩ := h
  exact ⟨a, e, s _ _ h⟩
theorem RepWs.same {H H' : Hp} (s : Same H H') {a : Addr} {ws : List Wd} (h : RepWs H a ws) : RepWs H' a ws := by
  obtain ⟨xs, e, h⟩ := h
  exact ⟨xs, s _ _ e, Paired.mapP h fun _ _ q => q.same s⟩
theorem RepP.same {H H' : Hp} (s : Same H H') {v : V} {p : Part} (h : RepP H v p) : RepP H' v p := by
  cases p with
  | none => exact h
  | some ws =>
    obtain ⟨a, e, h⟩ := h
    exact ⟨a, e, h.same s⟩
theorem RepPs.same {H H' : Hp} (s : Same H H') {a : Addr} {ps : List Part} (h : RepPs H a ps) : RepPs H' a ps := by
  obtain ⟨xs, e, h⟩ := h
  exact ⟨xs, s _ _ e, Paired.mapP h fun _ _ q => q.same s⟩
theorem Same.none {H H' : Hp} (s : Same H H') {l : Addr} (h : H' l = Option.none) : H l = Option.none := s.free h
theorem Same.updU {G H : Hp} (s : Same G H) (t : Addr) (o : HO) : Same (upd G t o) (upd H t o) := fun b u e => by
  by_cases hb : b = t
  · subst hb; rw [upd_same] at e ⊢; exact e
  · rw [upd_ne hb] at e ⊢; exact s b u e
/-- an object that H holds is taken into G -/
theorem Same.take {G H : Hp} (s : Same G H) {t : Addr} {o : HO} (h : H t = some o) : Same (upd G t o) H := fun b u e => by
  by_cases hb : b = t
  · subst hb; rw [upd_same] at e; rw [h]; exact e
  · rw [upd_ne hb] at e; exact s b u e
/-! ### texts -/
theorem cutS_nat (z : Str) (a b : Nat) (h : a ≤ b) (hb : b ≤ z.length) : cutS z (some (a : Int)) (some (b : Int)) = S (((cz z).drop a).take (b - a)) := by
  unfold cutS
  rw [HT.sIx_nat, HT.sIx_nat, Nat.min_eq_left hb, Nat.min_eq_left (Nat.le_trans h hb)]
theorem find39 (z : Str) (n : Nat) (hn : n ≤ z.length) : Txt.find3 z "'" (n : Int) = match K80M.q39 ((cz z).drop n) with
    | none => -1
    | some p => ((n + p.1.length : Nat) : Int) := by
  have e39 : ("'" : Str) = ⟨#[39]⟩ := str_ext (by decide +kernel)
  rw [e39]
  have hf : fromIndex z.length (n : Int) = n := by unfold fromIndex; rw [if_neg (by omega)]; omega
  have gd : ∀ v, v < z.length → (cz z)[v]? = some (z.cps.getD v 0) := by
    intro v hv
    have hv' : v < z.cps.size := hv
    simp [cz, hv', Array.getD]
  -- the first quote from n on
  have key : ∀ (l : List Nat), (∀ p, K80M.q39 l = some p → l[p.1.length]? = some 39 ∧ ∀ v : Nat, v < p.1.length → l[v]? ≠ some 39) ∧ (K80M.q39 l = none → ∀ v : Nat, l[v]? ≠ some 39) := by
    intro l
    induction l with
    | nil => exact ⟨fun p h => by simp [K80M.q39] at h, fun _ v => by simp⟩
    | cons c l ih =>
      by_cases hc : c = 39
      · subst hc
        have e : K80M.q39 (39 :: l) = some ([], l) := by unfold K80M.q39; rw [if_pos rfl]
        rw [e]
        refine ⟨fun p h => ?_, fun h => by simp at h⟩
        cases h
        exact ⟨rfl, fun v hv => by simp at hv⟩
      · have e : K80M.q39 (c :: l) = (K80M.q39 l).map fun p => (c :: p.1, p.2) := by conv => lhs; unfold K80M.q39; rw [if_neg hc]
        rw [e]
        refine ⟨fun p h => ?_, fun h v => ?_⟩
        · obtain ⟨q, hq, rfl⟩ := Option.map_eq_some_iff.mp h
          obtain ⟨h1, h2⟩ := ih.1 q hq
          refine ⟨by simpa using h1, fun v hv => ?_⟩
          cases v with
          | zero => simpa using hc
          | succ v =>
            have := h2 v (by simp at hv; omega)
            simpa using this
        · have h' : K80M.q39 l = none := by
            cases q : K80M.q39 l with
            | none => rfl
            | some x => rw [q] at h; simp at h
          cases v with
          | zero => simpa using hc
          | succ v => simpa using ih.2 h' v
  obtain ⟨k1, k2⟩ := key ((cz z).drop n)
  rcases PySem.StrLaws.find3_spec z 39 (n : Int) with ⟨h1, h2⟩ | ⟨k, h1, h2, h3, h4, h5⟩
  · rw [h1]
    rw [hf] at h2
    cases hq : K80M.q39 ((cz z).drop n) with
    | none => rfl
    | some p =>
      obtain ⟨a1, _⟩ := k1 p hq
      rw [List.getElem?_drop] at a1
      have hlt := (List.getElem?_eq_some_iff.mp a1).1
      rw [← cz_len] at hlt
      have := h2 (n + p.1.length) (by omega) hlt
      rw [gd _ hlt] at a1
      exact absurd (Option.some.inj a1) this
  · rw [h1]
    rw [hf] at h2 h5
    have hk : (cz z)[k]? = some 39 := by rw [gd k h3, h4]
    have hk' : ((cz z).drop n)[k - n]? = some 39 := by rw [List.getElem?_drop]; rw [show n + (k - n) = k by omega]; exact hk
    cases hq : K80M.q39 ((cz z).drop n) with
    | none => exact absurd hk' (k2 hq _)
    | some p =>
      obtain ⟨a1, a2⟩ := k1 p hq
      show (k : Int) = ((n + p.1.length : Nat) : Int)
      have l1 : ¬ k - n < p.1.length := fun h => a2 _ h hk'
      have l2 : ¬ p.1.length < k - n := fun h => by
        rw [List.getElem?_drop] at a1
        have hlt := (List.getElem?_eq_some_iff.mp a1).1
        rw [← cz_len] at hlt
        have := h5 (n + p.1.length) (by omega) (by omega)
        rw [gd _ hlt] at a1
        exact this (Option.some.inj a1)
      omega
theorem q39_eq : ∀ {l : List Nat} {p : List Nat × List Nat}, K80M.q39 l = some p → l = p.1 ++ 39 :: p.2
  | [], p, h => by simp [K80M.q39] at h
  | c :: l, p, h => by
    by_cases hc : c = 39
    · subst hc
      have e : K80M.q39 (39 :: l) = some ([], l) := by unfold K80M.q39; rw [if_pos rfl]
      rw [e] at h
      cases h
      rfl
    · have e : K80M.q39 (c :: l) = (K80M.q39 l).map fun p => (c :: p.1, p.2) := by conv => lhs; unfold K80M.q39; rw [if_neg hc]
      rw [e] at h
      obtain ⟨q, hq, rfl⟩ := Option.map_eq_some_iff.mp h
      rw [q39_eq hq]
      rfl
theorem word_cut (D : List Nat) : D.drop (K80M.wTake D).length = K80M.wDrop D ∧ D.take (K80M.wTake D).length = K80M.wTake D := by
  have e : K80M.wTake D ++ K80M.wDrop D = D := List.takeWhile_append_dropWhile
  have h1 : (K80M.wTake D ++ K80M.wDrop D).drop (K80M.wTake D).length = K80M.wDrop D := List.drop_left
  have h2 : (K80M.wTake D ++ K80M.wDrop D).take (K80M.wTake D).length = K80M.wTake D := List.take_left
  rw [e] at h1 h2
  exact ⟨h1, h2⟩
section
variable {P : Program} {w : World} {K : PySem.W.Frag} {mg : Str → Option Value} {base : Heap} {F : Addr}
def spPartsOf : Sp := fun vs H Q _ => ∃ z : Str, vs = [.str z] ∧ z.length ≤ 100000 ∧ ∀ H' p, Same H H' → RepPs H' p (K80M.P (cz z) [] true) → Q (.ref p) H'
/-- between two turns of the cutter -/
structure Mid (H : Hp) (z : Str) (pa wa : Addr) (ws : List Wd) (r : Bool) (n : Nat) (H' : Hp) : Prop where
  ex : ∃ (G : Hp) (xs ys : List V) (done : List Part), Same H G ∧ Same G H' ∧ G pa = none ∧ G wa = none ∧ pa ≠ wa ∧ H' pa = some (.lst xs) ∧ H' wa = some (.lst ys) ∧ Paired (RepP G) xs done ∧ Paired (RepW G) ys ws ∧
    xs.length ≤ n ∧ ys.length ≤ n ∧ n ≤ z.length ∧ done ++ K80M.P ((cz z).drop n) ws r = K80M.P (cz z) [] true
theorem line5 {n : Nat} (h : n ≤ 100001) : n < sizeLine := by rw [sizeLine_eq]; omega
theorem ok_parts_of (T : Txt K w mg F) (A : At K mg "parts_of" sparts_of) (C_ends_word : Cal P w K mg base CX0 1 "ends_word" ["text", "at"] spEndsWord) (C_word_end : Cal P w K mg base CX0 2 "word_end" ["text", "at"] spWordEnd) :
    Cal P w K mg base CX0 3 "parts_of" ["text"] spPartsOf := by
  refine A.ok scparts_of (fun vs H Q E h => ?_) bdparts_of (fun f cdv A outer s H vs Q E hr h => ?_)
  · obtain ⟨z, rfl, _⟩ := h; rfl
  obtain ⟨z, rfl, hz, hQ⟩ := h
  have hzl : z.length ≤ sizeLine := Nat.le_of_lt (line5 (by omega))
  refine ⟨_, (pss_cons (ps_asg (pe_tup (pa_cons (pe_lst pa_nil) (pa_cons (pe_lst pa_nil) (pa_cons pe_bl (pa_cons pe_int pa_nil))))) (pg_tup rfl (pgs_cons (pg_name (i := 1) scparts_of.nd rfl (Or.inl rfl)) (pgs_cons (pg_name (i := 2) scparts_of.nd rfl (Or.inl rfl)) (pgs_cons (pg_name (i := 3) scparts_of.nd rfl (Or.inl rfl)) (pgs_cons (pg_name (i := 4) scparts_of.nd rfl (Or.inl rfl)) pgs_nil))))))
      (pss_cons (ps_while PassesOwn.never (pt_cmpR op_lt (pv 4) (pe_callB call_len_str (by rfl) T.b_len boot_len (pa_cons (pv 0) pa_nil)) (nomark _)) (pss_one (ps_if (pt_cmpR op_eq (pe_ix ix_str (pv 0) (pv 4) (fun _ _ => rfl)) (pe_gs T.c_PART_END) (nomark _)) (pss_cons (ps_expr (pe_bm PySem.F.plainAttrs_list PySem.F.slot_list_append PySem.F.type_list_append mt_append (pv 1) (pa_cons (pe_ifExp (pt_val (pv 3)) (pv 2) pe_non) pa_nil)))
      (pss_one (ps_par3 (i := 2) (j := 3) (l := 4) (by rfl) scparts_of.nd rfl rfl rfl (by decide) (by decide) (by decide) rfl rfl rfl (pa_cons (pe_lst pa_nil) (pa_cons pe_bl (pa_cons (pe_op op_add (pv 4) pe_int) pa_nil))) (by rfl)))) (pss_one (ps_if (pt_cmpR op_in_sign (pe_ix ix_str (pv 0) (pv 4) (fun _ _ => rfl)) (pe_gs T.c_BLANKS) rfl) (pss_one (ps_aug (i := 4) scparts_of.nd rfl (Or.inl rfl) pe_int ip_add)) (pss_one (ps_if (pt_cmpR op_eq (pe_ix ix_str (pv 0) (pv 4) (fun _ _ => rfl)) (pe_gs T.c_QUOTE) (nomark _)) (pss_cons (ps_set (i := 5) scparts_of.nd rfl (Or.inl rfl) (pe_bm PySem.F.plainAttrs_str PySem.F.slot_str_find PySem.F.type_str_find mt_find3 (pv 0) (pa_cons (pe_gs T.c_QUOTE) (pa_cons (pe_op op_add (pv 4) pe_int) pa_nil))))
      (pss_cons (ps_if (pt_cmpR op_lt (pv 5) pe_int (nomark _)) (pss_one (ps_ret (pe_op op_cat (pv 1) (pe_lst (pa_cons pe_non pa_nil))))) pss_nil)
      (pss_cons (ps_expr (pe_bm PySem.F.plainAttrs_list PySem.F.slot_list_append PySem.F.type_list_append mt_append (pv 2) (pa_cons (pe_tup (pa_cons (pe_slice sl_str (pv 0) (po_some (pe_op op_add (pv 4) pe_int)) (po_some (pv 5))) (pa_cons pe_bl pa_nil))) pa_nil)))
      (pss_cons (ps_set (i := 4) scparts_of.nd rfl (Or.inl rfl) (pe_op op_add (pv 5) pe_int))
      (pss_one (ps_set (i := 3) scparts_of.nd rfl (Or.inl rfl) (pe_and (pv 3) (pe_one (pe_cal C_ends_word (hr.mono (by decide)) pass0 (pa_cons (pv 0) (pa_cons (pv 4) pa_nil))))))))))) (pss_cons (ps_set (i := 5) scparts_of.nd rfl (Or.inl rfl) (pe_cal C_word_end (hr.mono (by decide)) pass0 (pa_cons (pv 0) (pa_cons (pv 4) pa_nil))))
      (pss_cons (ps_expr (pe_bm PySem.F.plainAttrs_list PySem.F.slot_list_append PySem.F.type_list_append mt_append (pv 2) (pa_cons (pe_tup (pa_cons (pe_slice sl_str (pv 0) (po_some (pv 4)) (po_some (pv 5))) (pa_cons pe_bl pa_nil))) pa_nil)))
      (pss_one (ps_set (i := 4) scparts_of.nd rfl (Or.inl rfl) (pv 5))))))))))))
      (pss_one (ps_ret (pe_op op_cat (pv 1) (pe_lst (pa_cons (pe_ifExp (pt_val (pv 3)) (pv 2) pe_non) pa_nil))))))), ?_⟩
  refine ⟨Nat.zero_le _, fun pa hpa => ⟨Nat.zero_le _, fun wa hwa => ⟨(by show 4 ≤ sizeLine; decide), fun t ht => ⟨t, _, rfl, SqT.of upd_same, rfl, _, _, rfl, _, _, rfl, _, _, rfl, _, _, rfl, rfl, ?_⟩⟩⟩⟩
  have npw : pa ≠ wa := ne_of_none upd_same hwa
  have hwa0 : H wa = none := by rw [upd_ne npw.symm] at hwa; exact hwa
  have ntp : t ≠ pa := fun e => by rw [e, upd_ne npw, upd_same] at ht; cases ht
  have ntw : t ≠ wa := fun e => by rw [e, upd_same] at ht; cases ht
  refine ⟨fun m σ H' => ∃ (wa : Addr) (ws : List Wd) (r : Bool) (n : Nat) (e : Option V), σ = [some (.str z), some (.ref pa), some (.ref wa), some (.bl r), some (.int (n : Int)), e] ∧ m = z.length - n ∧ Mid H z pa wa ws r n H',
    ⟨_, wa, [], true, 0, none, rfl, rfl, ⟨H, [], [], [], Same.refl H, ?_, hpa, hwa0, npw, ?_, ?_, .nil, .nil, Nat.le_refl _, Nat.le_refl _, Nat.zero_le _, rfl⟩⟩, ?_⟩
  · exact (Same.new hpa).trans ((Same.new hwa).trans (Same.new ht))
  · rw [upd_ne ntp.symm, upd_ne npw, upd_same]
  · rw [upd_ne ntw.symm, upd_same]
  clear npw hwa0 ntp ntw ht hwa t wa
  rintro m σ H' ⟨wa, ws, r, n, e, rfl, rfl, G, xs, ys, done, sG, sH, gp, gw, npw, hp, hw, rp, rw', lx, ly, ln, eP⟩
  refine ⟨_, rfl, _, rfl, z, rfl, hzl, _, _, rfl, rfl, _, rfl, ?_⟩
  have hl := cz_len z
  by_cases hlt : n < z.length
  · refine ifT (decide_eq_true (by omega)) ⟨fun σ' H2 => ∃ (wa : Addr) (ws : List Wd) (r : Bool) (n' : Nat) (e : Option V), n < n' ∧ σ' = [some (.str z), some (.ref pa), some (.ref wa), some (.bl r), some (.int (n' : Int)), e] ∧ Mid H z pa wa ws r n' H2, ?_, ?_⟩
    · rintro σ' H2 ⟨wa, ws, r, n', e, hn, rfl, M⟩
      have := M.ex
      obtain ⟨_, _, _, _, _, _, _, _, _, _, _, _, _, _, _, ln', _⟩ := this
      exact ⟨z.length - n', by omega, wa, ws, r, n', e, rfl, rfl, M⟩
    cases hd : (cz z).drop n with
    | nil =>
      have := congrArg List.length hd
      rw [List.length_drop, List.length_nil] at this
      omega
    | cons c r0 =>
      obtain ⟨hc, hr0⟩ := get_drop hd
      rw [hd] at eP
      refine ⟨_, rfl, _, rfl, z, _, c, rfl, rfl, hzl, atI_nat hc, rfl, _, rfl, ?_⟩
      by_cases h59 : c = 59
      · refine ifT (dec_str _ (by rw [cz_one, cz_59]; simp [h59])) ⟨_, rfl, Or.inl ⟨rfl, _, SqL.of hp⟩, _, rfl, r, rfl, ?_⟩
        subst h59
        rw [K80M.P_end] at eP
        -- what stands at the end of the part
        have go : ∀ fv : V, RepP (upd G wa (.lst ys)) fv (K80M.fin ws r) → ∀ w2 : Addr, (upd H' pa (.lst (xs ++ [fv]))) w2 = none → Mid H z pa w2 [] true (n + 1) (upd (upd H' pa (.lst (xs ++ [fv]))) w2 (.lst [])) := by
          intro fv hf w2 hw2
          have n2 : pa ≠ w2 := ne_of_none upd_same hw2
          have gp' : (upd G wa (.lst ys)) pa = none := by rw [upd_ne npw]; exact gp
          have s1 : Same (upd G wa (.lst ys)) (upd H' pa (.lst (xs ++ [fv]))) := Same.mut (Same.take sH hw) gp'
          refine ⟨upd G wa (.lst ys), xs ++ [fv], [], done ++ [K80M.fin ws r], sG.trans (Same.new gw), s1.trans (Same.new hw2), gp', Same.none s1 hw2, n2, ?_, upd_same, Paired.snoc (Paired.mapP rp fun _ _ q => q.same (Same.new gw)) hf, .nil, ?_, Nat.zero_le _, by omega, ?_⟩
          · rw [upd_ne n2, upd_same]
          · rw [List.length_append, List.length_singleton]; omega
          · rw [hr0, ← eP, List.append_assoc]; rfl
        cases r with
        | true =>
          refine ⟨_, rfl, pa, xs, _, rfl, rfl, hp, line5 (by omega), Nat.zero_le _, fun w2 hw2 => ⟨_, rfl, _, _, rfl, rfl, _, _, _, rfl, w2, [], true, n + 1, e, by omega, rfl, ?_⟩⟩
          exact go (.ref wa) ⟨wa, rfl, ys, upd_same, Paired.mapP rw' fun _ _ q => q.same (Same.new gw)⟩ w2 hw2
        | false =>
          refine ⟨pa, xs, _, rfl, rfl, hp, line5 (by omega), Nat.zero_le _, fun w2 hw2 => ⟨_, rfl, _, _, rfl, rfl, _, _, _, rfl, w2, [], true, n + 1, e, by omega, rfl, ?_⟩⟩
          exact go .non rfl w2 hw2
      · refine ifF (dec_str _ (by rw [cz_one, cz_59]; simp [h59])) ⟨_, rfl, _, rfl, z, _, c, rfl, rfl, hzl, atI_nat hc, c, _, rfl, rfl, _, rfl, ?_⟩
        rw [mem_bl]
        by_cases hb : K80M.blank c = true
        · refine ifT hb ⟨_, rfl, _, _, rfl, rfl, wa, ws, r, n + 1, e, by omega, rfl, G, xs, ys, done, sG, sH, gp, gw, npw, hp, hw, rp, rw', by omega, by omega, by omega, ?_⟩
          rw [K80M.P_blank hb] at eP
          rw [hr0]
          exact eP
        · have hb' : K80M.blank c = false := by cases q : K80M.blank c with
            | true => exact absurd q hb
            | false => rfl
          -- a word is put to the words
          have put : ∀ (u : Wd) (n' : Nat) (r' : Bool) (t : Addr), n < n' → n' ≤ z.length → H' t = none → done ++ K80M.P ((cz z).drop n') (ws ++ [u]) r' = K80M.P (cz z) [] true →
              Mid H z pa wa (ws ++ [u]) r' n' (upd (upd H' t (.tup [.str (S u.1), .bl u.2])) wa (.lst (ys ++ [.ref t]))) := by
            intro u n' r' t h1 h2 ht eq
            have gt : G t = none := Same.none sH ht
            have ntw : wa ≠ t := ne_of_none hw ht
            have ntp : pa ≠ t := ne_of_none hp ht
            have gw' : (upd G t (.tup [.str (S u.1), .bl u.2])) wa = none := by rw [upd_ne ntw]; exact gw
            refine ⟨upd G t (.tup [.str (S u.1), .bl u.2]), xs, ys ++ [.ref t], done, sG.trans (Same.new gt), Same.mut (Same.updU sH t _) gw', by rw [upd_ne ntp]; exact gp, gw', npw, ?_, upd_same, Paired.mapP rp fun _ _ q => q.same (Same.new gt), Paired.snoc (Paired.mapP rw' fun _ _ q => q.same (Same.new gt)) ⟨t, rfl, upd_same⟩, by omega, ?_, h2, eq⟩
            · rw [upd_ne npw, upd_ne ntp]; exact hp
            · rw [List.length_append, List.length_singleton]; omega
          refine ifF hb' ⟨_, rfl, _, rfl, z, _, c, rfl, rfl, hzl, atI_nat hc, rfl, _, rfl, ?_⟩
          by_cases h39 : c = 39
          · refine ifT (dec_str _ (by rw [cz_one, cz_39]; simp [h39])) ⟨_, rfl, rfl, _, rfl, _, _, rfl, rfl, z, _, _, rfl, rfl, ?_⟩
            subst h39
            rw [K80M.P_quote] at eP
            have hf : Txt.find3 z "'" ((n : Int) + 1) = _ := find39 z (n + 1) (by omega)
            rw [hf, hr0]
            cases hq : K80M.q39 r0 with
            | none =>
              rw [hq] at eP
              refine ⟨_, rfl, _, _, rfl, rfl, _, rfl, ifT rfl ⟨_, rfl, (by show 1 ≤ sizeLine; decide), fun l hl' => ?_⟩⟩
              have npl : pa ≠ l := ne_of_none hp hl'
              refine ⟨pa, l, xs, [.non], rfl, rfl, by rw [upd_ne npl]; exact hp, upd_same, ?_, fun p hp' => ?_⟩
              · rw [List.length_singleton]; exact Nat.le_of_lt (line5 (by omega))
              · refine hQ _ p ((sG.trans sH).trans ((Same.new hl').trans (Same.new hp'))) ⟨xs ++ [.non], upd_same, ?_⟩
                have eP' : done ++ [none] = K80M.P (cz z) [] true := eP
                rw [← eP']
                exact Paired.snoc (Paired.mapP rp fun _ _ q => q.same (sH.trans ((Same.new hl').trans (Same.new hp')))) rfl
            | some p =>
              rw [hq] at eP
              have eP' : done ++ K80M.P p.2 (ws ++ [(p.1, true)]) (r && K80M.endsW p.2) = K80M.P (cz z) [] true := eP
              have e0 := q39_eq hq
              have hdl : (cz z).drop (n + 1) = p.1 ++ 39 :: p.2 := by rw [hr0]; exact e0
              have hlen := congrArg List.length hdl
              rw [List.length_drop, List.length_append, List.length_cons, ← cz_len] at hlen
              have hrest : (cz z).drop (n + 1 + p.1.length + 1) = p.2 := by
                have : ((cz z).drop (n + 1)).drop (p.1.length + 1) = p.2 := by rw [hdl]; simp
                rw [List.drop_drop] at this
                exact this
              refine ⟨_, rfl, _, _, rfl, rfl, _, rfl, ifF (decide_eq_false (by show ¬ ((n + 1 + p.1.length : Nat) : Int) < 0; omega)) ?_⟩
              refine ⟨_, rfl, Or.inl ⟨rfl, _, SqL.of hw⟩, _, rfl, _, rfl, _, _, rfl, rfl, _, rfl, _, rfl, _, rfl, z, rfl, hzl, (by show 2 ≤ sizeLine; decide), fun t ht => ?_⟩
              have ecut : cutS z (some ((n : Int) + 1)) (some ((n + 1 + p.1.length : Nat) : Int)) = S p.1 := by
                have := cutS_nat z (n + 1) (n + 1 + p.1.length) (by omega) (by omega)
                rw [hdl, Nat.add_sub_cancel_left, List.take_left] at this
                exact this
              refine ⟨wa, ys, _, rfl, rfl, by rw [upd_ne (ne_of_none hw ht)]; exact hw, line5 (by omega), _, rfl, _, _, rfl, rfl, _, rfl, r, rfl, ?_⟩
              have pt := fun r' => put (p.1, true) (n + 1 + p.1.length + 1) r' t (by omega) (by omega) ht
              rw [hrest] at pt
              cases r with
              | true =>
                refine ⟨_, rfl, _, rfl, z, n + 1 + p.1.length + 1, rfl, hzl, by omega, ?_⟩
                rw [hrest]
                refine ⟨wa, ws ++ [(p.1, true)], _, n + 1 + p.1.length + 1, _, by omega, rfl, ?_⟩
                show Mid H z pa wa _ _ _ (upd (upd H' t (.tup [.str (cutS z _ _), .bl true])) wa _)
                rw [ecut]
                exact pt _ eP'
              | false =>
                refine ⟨wa, ws ++ [(p.1, true)], _, n + 1 + p.1.length + 1, _, by omega, rfl, ?_⟩
                show Mid H z pa wa _ _ _ (upd (upd H' t (.tup [.str (cutS z _ _), .bl true])) wa _)
                rw [ecut]
                exact pt _ eP'
          · refine ifF (dec_str _ (by rw [cz_one, cz_39]; simp [h39])) ⟨_, rfl, _, rfl, z, n, rfl, hzl, ln, ?_⟩
            rw [K80M.P_word h59 hb h39] at eP
            have hsum := K80M.wDrop_len ((cz z).drop n)
            rw [List.length_drop, ← cz_len] at hsum
            have hw1 : 1 ≤ (K80M.wTake ((cz z).drop n)).length := by rw [hd, K80M.wTake_cons (K80M.ew_of h59 hb)]; simp
            have hrest : (cz z).drop (n + (K80M.wTake ((cz z).drop n)).length) = K80M.wDrop (c :: r0) := by
              rw [← List.drop_drop, ← hd]
              exact (word_cut _).1
            refine ⟨_, rfl, Or.inl ⟨rfl, _, SqL.of hw⟩, _, rfl, _, rfl, _, rfl, _, rfl, _, rfl, z, rfl, hzl, (by show 2 ≤ sizeLine; decide), fun t ht => ?_⟩
            have ecut : cutS z (some (n : Int)) (some ((n + (K80M.wTake ((cz z).drop n)).length : Nat) : Int)) = S (K80M.wTake ((cz z).drop n)) := by
              have := cutS_nat z n (n + (K80M.wTake ((cz z).drop n)).length) (by omega) (by omega)
              rw [Nat.add_sub_cancel_left] at this
              rw [this, (word_cut _).2]
            refine ⟨wa, ys, _, rfl, rfl, by rw [upd_ne (ne_of_none hw ht)]; exact hw, line5 (by omega), _, rfl, wa, ws ++ [(K80M.wTake ((cz z).drop n), false)], r, n + (K80M.wTake ((cz z).drop n)).length, _, by omega, rfl, ?_⟩
            show Mid H z pa wa _ _ _ (upd (upd H' t (.tup [.str (cutS z _ _), .bl false])) wa _)
            rw [ecut]
            refine put (K80M.wTake ((cz z).drop n), false) _ r t (by omega) (by omega) ht ?_
            rw [hrest, hd]
            exact eP
  · refine ifF (decide_eq_false (by omega)) ?_
    have hn : n = z.length := by omega
    have hd : (cz z).drop n = [] := by rw [hn, cz_len]; exact List.drop_length
    rw [hd, K80M.P_nil] at eP
    -- return parts + [..]
    have fine : ∀ fv : V, RepP H' fv (K80M.fin ws r) → ∀ l : Addr, H' l = none → rCat (.ref pa) (.ref l) (upd H' l (.lst [fv])) Q := by
      intro fv hf l hl'
      have npl : pa ≠ l := ne_of_none hp hl'
      refine ⟨pa, l, xs, [fv], rfl, rfl, by rw [upd_ne npl]; exact hp, upd_same, ?_, fun p hp' => ?_⟩
      · rw [List.length_singleton]; exact Nat.le_of_lt (line5 (by omega))
      · refine hQ _ p ((sG.trans sH).trans ((Same.new hl').trans (Same.new hp'))) ⟨xs ++ [fv], upd_same, ?_⟩
        rw [← eP]
        exact Paired.snoc (Paired.mapP rp fun _ _ q => q.same (sH.trans ((Same.new hl').trans (Same.new hp')))) (hf.same ((Same.new hl').trans (Same.new hp')))
    refine ⟨_, rfl, _, rfl, r, rfl, ?_⟩
    cases r with
    | true => exact ⟨_, rfl, (by show 1 ≤ sizeLine; decide), fun l hl' => fine (.ref wa) ⟨wa, rfl, ys, hw, Paired.mapP rw' fun _ _ q => q.same sH⟩ l hl'⟩
    | false => exact ⟨(by show 1 ≤ sizeLine; decide), fun l hl' => fine .non rfl l hl'⟩
end
end K80

set_option Elab.async false
set_option linter.all false
set_option maxRecDepth 100000
set_option maxHeartbeats 4000000
/-! law k80: the action of a part; the actions of a handler -/
namespace K80
open PySem PySem.Spec PyProof.Rows L2
open K80M (Wd Part)
/-! ### words are pieces of the text -/
def Good (p : Nat → Prop) (ws : List Wd) : Prop := ∀ u ∈ ws, ∀ c ∈ u.1, p c
/-- x stands in l -/
def Seg (l x : List Nat) : Prop := ∃ a b, l = a ++ (x ++ b)
theorem Seg.after {l m x : List Nat} (a : List Nat) (e : l = a ++ m) (h : Seg m x) : Seg l x := by
  obtain ⟨c, d, rfl⟩ := h
  exact ⟨a ++ c, d, by rw [e, List.append_assoc]⟩
theorem Seg.len {l x : List Nat} (h : Seg l x) : x.length ≤ l.length := by
  obtain ⟨a, b, rfl⟩ := h
  simp only [List.length_append]; omega
theorem Seg.mem {l x : List Nat} (h : Seg l x) {c : Nat} (hc : c ∈ x) : c ∈ l := by
  obtain ⟨a, b, rfl⟩ := h
  simp [hc]
theorem P_seg : ∀ (n : Nat) (cs : List Nat) (ws : List Wd) (r : Bool), cs.length < n → ∀ u ∈ K80M.P cs ws r, ∀ vs, u = some vs → ∀ x ∈ vs, x ∈ ws ∨ Seg cs x.1 := by
  intro n
  induction n with
  | zero => intro cs ws r h; omega
  | succ n ih =>
    intro cs ws r h
    have fin : ∀ vs, K80M.fin ws r = some vs → vs = ws := fun vs e => by
      cases r with
      | true => cases e; rfl
      | false => cases e
    cases cs with
    | nil =>
      rw [K80M.P_nil]
      intro u hu vs e x hx
      simp only [List.mem_singleton] at hu
      subst hu
      rw [fin vs e] at hx
      exact .inl hx
    | cons c cs =>
      simp only [List.length_cons] at h
      by_cases h1 : c = 59
      · subst h1
        rw [K80M.P_end]
        intro u hu vs e x hx
        rcases List.mem_cons.mp hu with rfl | hu
        · rw [fin vs e] at hx
          exact .inl hx
        · rcases ih cs [] true (by omega) u hu vs e x hx with z | z
          · cases z
          · exact .inr (Seg.after [59] rfl z)
      · by_cases h2 : K80M.blank c = true
        · rw [K80M.P_blank h2]
          intro u hu vs e x hx
          rcases ih cs ws r (by omega) u hu vs e x hx with z | z
          · exact .inl z
          · exact .inr (Seg.after [c] rfl z)
        · by_cases h3 : c = 39
          · subst h3
            rw [K80M.P_quote]
            cases q : K80M.q39 cs with
            | none =>
              intro u hu vs e
              have : u = none := by simpa using hu
              rw [this] at e
              cases e
            | some y =>
              have := K80M.q39_len q
              intro u hu vs e x hx
              rcases ih y.2 _ _ (by omega) u hu vs e x hx with z | z
              · rcases List.mem_append.mp z with z | z
                · exact .inl z
                · simp only [List.mem_singleton] at z
                  subst z
                  exact .inr ⟨[39], 39 :: y.2, by rw [q39_eq q]; rfl⟩
              · exact .inr (Seg.after (39 :: (y.1 ++ [39])) (by rw [q39_eq q]; simp) z)
          · rw [K80M.P_word h1 h2 h3]
            have hlt := K80M.wDrop_lt (cs := cs) h1 h2
            have e1 : K80M.wTake (c :: cs) ++ K80M.wDrop (c :: cs) = c :: cs := List.takeWhile_append_dropWhile
            intro u hu vs e x hx
            rcases ih _ _ _ (by omega) u hu vs e x hx with z | z
            · rcases List.mem_append.mp z with z | z
              · exact .inl z
              · simp only [List.mem_singleton] at z
                subst z
                exact .inr ⟨[], K80M.wDrop (c :: cs), e1.symm⟩
            · exact .inr (Seg.after (K80M.wTake (c :: cs)) e1.symm z)
theorem allFit_iff : ∀ {ks : List K80M.Kn} {ws : List Wd}, ks.length = ws.length → (K80M.allFit ks ws = true ↔ ∀ (i : Nat) (k : K80M.Kn) (u : Wd), ks[i]? = some k → ws[i]? = some u → K80M.fit k u = true)
  | [], [], _ => by simp [K80M.allFit]
  | [], _ :: _, h => by simp at h
  | _ :: _, [], h => by simp at h
  | k :: ks, w :: ws, h => by
    simp only [List.length_cons, Nat.add_right_cancel_iff] at h
    simp only [K80M.allFit, Bool.and_eq_true]
    rw [allFit_iff h]
    constructor
    · rintro ⟨h1, h2⟩ i k' u e1 e2
      cases i with
      | zero =>
        simp at e1 e2
        rw [← e1, ← e2]
        exact h1
      | succ i => exact h2 i k' u (by simpa using e1) (by simpa using e2)
    · intro h'
      exact ⟨h' 0 k w rfl rfl, fun i k' u e1 e2 => h' (i + 1) k' u (by simpa using e1) (by simpa using e2)⟩
theorem Paired.get {α β : Type} {F : α → β → Prop} : ∀ {xs : List α} {ys : List β} {i : Nat} {y : β}, Paired F xs ys → ys[i]? = some y → ∃ x, xs[i]? = some x ∧ F x y
  | _, _, _, _, .nil, e => by simp at e
  | _, _, 0, _, .cons h _, e => by simp at e; subst e; exact ⟨_, rfl, h⟩
  | _, _, i + 1, y, .cons _ t, e => by
    obtain ⟨x, h1, h2⟩ := Paired.get (i := i) (y := y) t (by simpa using e)
    exact ⟨x, by simpa using h1, h2⟩
theorem Paired.get' {α β : Type} {F : α → β → Prop} : ∀ {xs : List α} {ys : List β} {i : Nat} {x : α}, Paired F xs ys → xs[i]? = some x → ∃ y, ys[i]? = some y ∧ F x y
  | _, _, _, _, .nil, e => by simp at e
  | _, _, 0, _, .cons h _, e => by simp at e; subst e; exact ⟨_, rfl, h⟩
  | _, _, i + 1, x, .cons _ t, e => by
    obtain ⟨y, h1, h2⟩ := Paired.get' (i := i) (x := x) t (by simpa using e)
    exact ⟨y, by simpa using h1, h2⟩
/-! ### words as data -/
def wD (u : Wd) : PyData := .tuple [.str (S u.1), .bool u.2]
theorem dp_words {K : PySem.W.Frag} {H : Hp} : ∀ {xs : List V} {ws : List Wd}, Paired (RepW H) xs ws → DpAll K H xs (ws.map wD)
  | _, _, .nil => .nil
  | _, _, .cons ⟨a, e, h⟩ t => by
    subst e
    exact .cons (.tup (SqT.of h) (.cons (.str _) (.cons (.bl _) .nil))) (dp_words t)
theorem shaped_words {ws : List Wd} (h : Good (fun c => c < 0x110000) ws) : SeqAt.shaped (.list (ws.map wD)) = true := by
  have h1 : ∀ {ws : List Wd}, Good (fun c => c < 0x110000) ws → PyData.canLayAll0 (ws.map wD) = true := by
    intro ws
    induction ws with
    | nil => intro _; rfl
    | cons u ws ih =>
      intro h
      have hu : PyData.strOk (S u.1) = true := by
        unfold PyData.strOk
        rw [← Array.all_toList]
        exact List.all_eq_true.mpr fun c hc => decide_eq_true (h u (by simp) c hc)
      have := ih fun v hv => h v (by simp [hv])
      simp only [List.map_cons, PyData.canLayAll0, wD, PyData.canLay0, hu, Bool.and_true, Bool.true_and]
      exact this
  have h2 : ∀ ws : List Wd, PyData.depthAll (ws.map wD) ≤ 1 := by
    intro ws
    induction ws with
    | nil => exact Nat.zero_le _
    | cons u ws ih =>
      simp only [List.map_cons, PyData.depthAll, wD, PyData.depth]
      omega
  unfold SeqAt.shaped
  have e1 : PyData.canLay0 (.list (ws.map wD)) = true := by simp only [PyData.canLay0]; exact h1 h
  have e2 : PyData.depth (.list (ws.map wD)) ≤ 64 := by
    simp only [PyData.depth]
    have := h2 ws
    omega
  rw [e1, decide_eq_true e2]
  rfl
theorem eqv_nil (ws : List Wd) : PyData.eqv (.list (ws.map wD)) (.list []) = ws.isEmpty := by
  cases ws <;> simp [PyData.eqv, PyData.eqvAll]
section
variable {P : Program} {w : World} {K : PySem.W.Frag} {mg : Str → Option Value} {base : Heap} {F : Addr}
def RepA (H : Hp) (a : Addr) (ss : List (List Nat)) : Prop := H a = some (.tup (ss.map fun s => V.str (S s)))
def spActionOf : Sp := fun vs H Q _ => ∃ (v : V) (p : Part), vs = [v] ∧ RepP H v p ∧ (∀ ws, p = some ws → Good (fun c => c < 0x110000) ws ∧ ∀ u ∈ ws, u.1.length ≤ sizeLine) ∧ (K80M.act p = none → ∀ H', Same H H' → Q .non H') ∧
  ∀ ss, K80M.act p = some ss → ∀ H' a, Same H H' → RepA H' a ss → Q (.ref a) H'
theorem ok_action_of (T : Txt K w mg F) (A : At K mg "action_of" saction_of) (C_fits : Cal P w K mg base CX0 3 "fits" ["kind", "word", "is_quoted"] spFits) (hsz : True) :
    Cal P w K mg base CX0 4 "action_of" ["words"] spActionOf := by
  obtain ⟨es, n, D⟩ := T.forms.d
  refine A.ok scaction_of (fun vs H Q E h => ?_) bdaction_of (fun f cdv A outer s H vs Q E hr h => ?_)
  · obtain ⟨v, p, rfl, _⟩ := h; rfl
  obtain ⟨v, p, rfl, hp, hg, hN, hS⟩ := h
  refine ⟨_, (pss_cons (ps_if (PW.pt (pw_or (pt_cmpR op_isN (pv 0) pe_non (nomark _)) (pw_or (pt_cmpR (op_eqD hr.units) (pv 0) (pe_lst pa_nil) (nomark _)) (pw_or (pt_val (pe_ix ix_tup (pe_ix ix_list (pv 0) pe_int (fun _ _ => rfl)) pe_int (fun _ _ => rfl))) (pw_or1 (pt_cmpR (op_notIn_kd D) (pe_ix ix_tup (pe_ix ix_list (pv 0) pe_int (fun _ _ => rfl)) pe_int (fun _ _ => rfl)) (pe_gr T.c_FORMS) rfl)))))) (pss_one (ps_ret pe_non)) pss_nil)
      (pss_cons (ps_set (i := 1) scaction_of.nd rfl (Or.inl rfl) (pe_ix ix_kdict (pe_gr T.c_FORMS) (pe_ix ix_tup (pe_ix ix_list (pv 0) pe_int (fun _ _ => rfl)) pe_int (fun _ _ => rfl)) (fun _ _ => rfl)))
      (pss_cons (ps_if (pt_cmpR op_ne (pe_callB call_len_seq (by rfl) T.b_len boot_len (pa_cons (pv 1) pa_nil)) (pe_op op_sub (pe_callB call_len_seq (by rfl) T.b_len boot_len (pa_cons (pv 0) pa_nil)) pe_int) (nomark _)) (pss_one (ps_ret pe_non)) pss_nil)
      (pss_cons (ps_for PassesOwn.never rfl (pi_zipM rfl T.b_zip (pa_cons (pv 1) (pa_cons (pe_slice sl_list (pv 0) (po_some pe_int) po_none) pa_nil))) (pg_tup rfl (pgs_cons (pg_name (i := 2) scaction_of.nd rfl (Or.inl rfl)) (pgs_cons (pg_tup rfl (pgs_cons (pg_name (i := 3) scaction_of.nd rfl (Or.inl rfl)) (pgs_cons (pg_name (i := 4) scaction_of.nd rfl (Or.inl rfl)) pgs_nil))) pgs_nil)))
      (pss_one (ps_if (pt_not (pt_val (pe_cal C_fits (hr.mono (by decide)) pass0 (pa_cons (pv 2) (pa_cons (pv 3) (pa_cons (pv 4) pa_nil)))))) (pss_one (ps_ret pe_non)) pss_nil)))
      (pss_one (ps_ret (pe_callTy call_tuple_of (by rfl) T.b_tuple boot_tuple (pa_cons (pe_lc (own := [("word", 3), ("is_quoted", 4)]) (g := gTup K 2 (gCons (gName 3) (gCons (gName 4) gNil))) (tt := tYes) rfl scaction_of.nd (pi_list (pv 0)) (blkOk_by (own := [("word", 3), ("is_quoted", 4)]) (N := Naction_of) (sc := defScope saction_of) (by decide +kernel)) (fun _ _ _ _ _ => (pg_tup rfl (pgs_cons (pg_name (i := 3) scaction_of.nd rfl (Or.inl rfl)) (pgs_cons (pg_name (i := 4) scaction_of.nd rfl (Or.inl rfl)) pgs_nil)))) (fun _ _ _ _ _ => pts_nil) (fun _ _ _ _ _ => (pv 3))) pa_nil)))))))), ?_⟩
  refine ⟨_, rfl, rfl, _, rfl, ?_⟩
  cases p with
  | none =>
    cases (show v = .non from hp)
    exact ifT rfl (hN rfl H (Same.refl H))
  | some ws =>
    obtain ⟨a, rfl, xs, ha, rx⟩ := hp
    refine ifF rfl ⟨_, rfl, Nat.zero_le _, fun l hl => ⟨.list (ws.map wD), .list [], .lst (SqL.of (by rw [upd_ne (ne_of_none ha hl)]; exact ha)) (dp_words (Paired.mapP rx fun _ _ q => q.same (Same.new hl))), .lst (SqL.of upd_same) .nil, shaped_words (hg ws rfl).1, rfl, ?_⟩⟩
    rw [eqv_nil]
    refine ⟨_, rfl, ?_⟩
    have s1 : Same H (upd H l (.lst [])) := Same.new hl
    cases ws with
    | nil => exact ifT rfl (hN rfl _ s1)
    | cons u ws =>
      cases rx with
      | @cons x u xs ws hx rx =>
      obtain ⟨t0, rfl, ht0⟩ := hx
      have ha1 := s1 _ _ ha
      have ht1 := s1 _ _ ht0
      obtain ⟨hg1, hg2⟩ := hg _ rfl
      refine ifF rfl ⟨_, rfl, _, _, _, _, rfl, rfl, SqL.of ha1, atI_nat (j := 0) rfl, _, _, _, _, rfl, rfl, SqT.of ht1, atI_nat (j := 1) rfl, u.2, rfl, ?_⟩
      cases hu2 : u.2 with
      | true =>
        refine ifT rfl (hN ?_ _ s1)
        show (if u.2 = true then none else _) = _
        rw [if_pos hu2]
      | false =>
        have eact : K80M.act (some (u :: ws)) = match K80M.look u.1 K80M.forms with
            | none => none
            | some ks => if K80M.allFit ks ws = true then some ((u :: ws).map (·.1)) else none := by
          show (if u.2 = true then none else _) = _
          rw [if_neg (by rw [hu2]; exact Bool.false_ne_true)]
          all_goals (cases K80M.look u.1 K80M.forms <;> rfl)
        cases hlk : K80M.look u.1 K80M.forms with
        | none =>
          rw [hlk] at eact
          have hno := T.forms.no (S u.1) hlk
          exact ifF rfl ⟨_, rfl, _, _, _, _, rfl, rfl, SqL.of ha1, atI_nat (j := 0) rfl, _, _, _, _, rfl, rfl, SqT.of ht1, atI_nat (j := 0) rfl, S u.1, none, rfl, rfl, hno, _, rfl, ifT rfl (hN eact _ s1)⟩
        | some ks =>
          rw [hlk] at eact
          have eact' : K80M.act (some (u :: ws)) = if K80M.allFit ks ws = true then some ((u :: ws).map (·.1)) else none := eact
          obtain ⟨uv, ka, e1, e2, hT⟩ := T.forms.has (S u.1) ks hlk
          refine ifF rfl ⟨_, rfl, _, _, _, _, rfl, rfl, SqL.of ha1, atI_nat (j := 0) rfl, _, _, _, _, rfl, rfl, SqT.of ht1, atI_nat (j := 0) rfl, S u.1, some uv, rfl, rfl, e1, _, rfl, ifF rfl ?_⟩
          refine ⟨_, rfl, _, _, _, _, rfl, rfl, SqL.of ha1, atI_nat (j := 0) rfl, _, _, _, _, rfl, rfl, SqT.of ht1, atI_nat (j := 0) rfl, F, S u.1, .ref ka, rfl, rfl, ⟨es, n, uv, D.at_, D.lit, e1, e2⟩, ?_⟩
          refine ⟨_, rfl, ka, _, rfl, Or.inr (hT _), _, rfl, a, _, rfl, Or.inl (SqL.of ha1), _, _, rfl, rfl, rfl, _, rfl, ?_⟩
          have lx := Paired.length rx
          by_cases hlen : ks.length = ws.length
          · refine ifF (by rw [dec_int true (decide_eq_true (by rw [List.length_map, List.length_cons, hlen, lx]; omega))]; rfl) ?_
            refine ⟨_, rfl, _, rfl, _, rfl, a, _, rfl, SqL.of ha1, fun sp hsp => ⟨ka, sp, ks.map knV, xs, rfl, hT _, ?_, ?_⟩⟩
            · have : cutV (.ref t0 :: xs) (some 1) none = xs := by
                unfold cutV
                rw [show (1 : Int) = ((1 : Nat) : Int) from rfl, HT.sIx_nat, HT.sIx_none, List.length_cons, Nat.min_eq_left (by omega)]
                simp
              rw [this]
              exact SqL.of upd_same
            · rw [show cutV (.ref t0 :: xs) (some 1) none = xs by
                unfold cutV
                rw [show (1 : Int) = ((1 : Nat) : Int) from rfl, HT.sIx_nat, HT.sIx_none, List.length_cons, Nat.min_eq_left (by omega)]
                simp]
              have s2 : Same H (upd (upd H l (.lst [])) sp (.lst xs)) := s1.trans (Same.new hsp)
              have hlz : (ks.map knV).length = xs.length := by rw [List.length_map, hlen, lx]
              refine for_it (walk_zipM (K := K) (a := ka) (b := sp) (xs := ks.map knV) (ys := xs) hlz) (fun i σ H' => Same (upd (upd H l (.lst [])) sp (.lst xs)) H' ∧ (∃ o3 o4 o5, σ = [some (.ref a), some (.ref ka), o3, o4, o5]) ∧ ∀ (j : Nat) (k : K80M.Kn) (u' : Wd), j < i → ks[j]? = some k → ws[j]? = some u' → K80M.fit k u' = true)
                ⟨Same.refl _, ⟨none, none, none, rfl⟩, fun _ _ _ h => absurd h (Nat.not_lt_zero _)⟩ (fun i σ H' _ p => ⟨hT _, SqL.of (p.1 _ _ upd_same)⟩) (fun i v σ H' H2 hi p y => ?_) (fun σ H' p => ?_)
              · obtain ⟨s3, ⟨o3, o4, o5, rfl⟩, hf⟩ := p
                obtain ⟨Tp, x, y, rfl, hTp, rfl, hx, hy⟩ := y
                have hx : (ks.map knV)[i]? = some x := hx
                have hy : xs[i]? = some y := hy
                rw [List.getElem?_map] at hx
                obtain ⟨k, hk, rfl⟩ := Option.map_eq_some_iff.mp hx
                obtain ⟨u', hu', t', rfl, ht'⟩ := Paired.get' rx hy
                have s4 := s3.trans (Same.new (o := .tup [knV k, .ref t']) hTp)
                have hS2 := s2.trans s4
                refine ⟨Tp, _, rfl, SqT.of upd_same, rfl, _, _, rfl, _, _, rfl, t', _, rfl, SqT.of (hS2 _ _ ht'), rfl, _, _, rfl, _, _, rfl, rfl, rfl, ?_⟩
                refine ⟨_, rfl, _, rfl, _, rfl, k, S u'.1, u'.2, rfl, hg2 u' (List.mem_cons_of_mem _ (List.mem_of_getElem? hu')), _, rfl, ?_⟩
                cases hfit : K80M.fit k u' with
                | true =>
                  refine ifF rfl ⟨s4, ⟨_, _, _, rfl⟩, fun j k2 u2 hj e3 e4 => ?_⟩
                  by_cases hji : j = i
                  · subst hji
                    rw [hk] at e3
                    rw [hu'] at e4
                    cases e3
                    cases e4
                    exact hfit
                  · exact hf j k2 u2 (by omega) e3 e4
                | false =>
                  refine ifT rfl (hN ?_ _ hS2)
                  rw [eact', if_neg]
                  intro h
                  have := (allFit_iff hlen).mp h i k u' hk hu'
                  rw [hfit] at this
                  cases this
              · obtain ⟨s3, ⟨o3, o4, o5, rfl⟩, hf⟩ := p
                have hall : K80M.allFit ks ws = true := (allFit_iff hlen).mpr fun j k u' e3 e4 => hf j k u' (by rw [List.length_map]; exact (List.getElem?_eq_some_iff.mp e3).1) e3 e4
                rw [if_pos hall] at eact'
                have hS2 := s2.trans s3
                have rxs : Paired (RepW H) (.ref t0 :: xs) (u :: ws) := .cons ⟨t0, rfl, ht0⟩ rx
                refine ⟨_, rfl, a, rfl, ⟨_, SqL.of (hS2 _ _ ha)⟩, fun D2 hD2 => ?_⟩
                refine lc_it (walk_list (K := K) (a := a) (xs := .ref t0 :: xs)) (fun i H3 => Same H' H3 ∧ H3 D2 = some (.lst (((u :: ws).take i).map fun u => V.str (S u.1)))) ⟨Same.new hD2, upd_same⟩ (fun i H3 _ p => SqL.of (p.1 _ _ (hS2 _ _ ha))) (fun i x H3 H4 hi p y => ?_) (fun H3 p => ?_)
                · obtain ⟨s5, hd⟩ := p
                  obtain ⟨rfl, hx⟩ := y
                  obtain ⟨u', hu', t', rfl, ht'⟩ := Paired.get' rxs hx
                  refine ⟨t', _, rfl, SqT.of (s5 _ _ (hS2 _ _ ht')), rfl, _, _, rfl, _, _, rfl, rfl, rfl, _, rfl, _, hd, ?_, Same.mut s5 hD2, ?_⟩
                  · have hks : ks.length ≤ 3 := by
                      have : ∀ q ∈ K80M.forms, q.2.length ≤ 3 := by decide
                      have lk : ∀ {l : List (List Nat × List K80M.Kn)}, K80M.look u.1 l = some ks → ∃ q ∈ l, q.2 = ks := by
                        intro l
                        induction l with
                        | nil => intro h; cases h
                        | cons q l ih =>
                          intro h
                          unfold K80M.look at h
                          split at h
                          · exact ⟨q, by simp, Option.some.inj h⟩
                          · obtain ⟨q', h1, h2⟩ := ih h
                            exact ⟨q', by simp [h1], h2⟩
                      obtain ⟨q, h1, h2⟩ := lk hlk
                      rw [← h2]
                      exact this q h1
                    rw [List.length_map, List.length_take, List.length_cons, ← hlen]
                    exact line5 (by omega)
                  · rw [upd_same, List.take_add_one, hu', List.map_append]
                    rfl
                · obtain ⟨s5, hd⟩ := p
                  have el : (V.ref t0 :: xs).length = (u :: ws).length := Paired.length rxs
                  rw [el, List.take_length] at hd
                  exact ⟨D2, _, rfl, Or.inl ⟨SqL.of hd, fun q hq => hS _ eact' _ q ((hS2.trans s5).trans (Same.new hq)) (by unfold RepA; rw [upd_same, List.map_map]; rfl)⟩⟩
          · refine ifT (by rw [dec_int false (decide_eq_false (by rw [List.length_map, List.length_cons, lx]; omega))]; rfl) (hN ?_ _ s1)
            rw [eact', if_neg]
            intro h
            exact hlen (K80M.allFit_len h)
end
end K80

set_option Elab.async false
set_option linter.all false
set_option maxRecDepth 100000
set_option maxHeartbeats 4000000
/-! law k80: the actions of a handler -/
namespace K80
open PySem PySem.Spec PyProof.Rows L2
open K80M (Wd Part)
/-! ### a heap without one object -/
def hide (H : Hp) (D : Addr) : Hp := fun b => if b = D then none else H b
theorem hide_self {H : Hp} {D : Addr} : hide H D D = none := if_pos rfl
theorem hide_ne {H : Hp} {D b : Addr} (h : b ≠ D) : hide H D b = H b := if_neg h
theorem hide_upd {H : Hp} {D : Addr} {o : HO} : hide (upd H D o) D = hide H D := by
  funext b
  unfold hide
  by_cases h : b = D
  · rw [if_pos h, if_pos h]
  · rw [if_neg h, if_neg h, upd_ne h]
theorem hide_same {H : Hp} {D : Addr} : Same (hide H D) H := fun b u e => by
  by_cases h : b = D
  · subst h; rw [hide_self] at e; cases e
  · rw [hide_ne h] at e; exact e
theorem Same.hide {G H : Hp} {D : Addr} (s : Same G H) (h : G D = Option.none) : Same G (K80.hide H D) := fun b u e => by
  rw [hide_ne (fun q => by rw [q, h] at e; cases e)]
  exact s b u e
theorem Same.hides {H H' : Hp} {D : Addr} (s : Same H H') : Same (K80.hide H D) (K80.hide H' D) := Same.hide (hide_same.trans s) hide_self
/-! ### lists of acts -/
def RepT (H : Hp) (v : V) (ss : List (List Nat)) : Prop := ∃ a, v = .ref a ∧ RepA H a ss
def RepO (H : Hp) (v : V) : Option (List (List Nat)) → Prop
  | none => v = .non
  | some ss => RepT H v ss
theorem RepT.same {H H' : Hp} (s : Same H H') {v : V} {ss : List (List Nat)} (h : RepT H v ss) : RepT H' v ss := by
  obtain ⟨a, e, h⟩ := h
  exact ⟨a, e, s _ _ h⟩
theorem RepO.same {H H' : Hp} (s : Same H H') {v : V} {o : Option (List (List Nat))} (h : RepO H v o) : RepO H' v o := by
  cases o with
  | none => exact h
  | some ss => exact RepT.same s h
theorem RepT.hide {H : Hp} {D : Addr} {o : List V} (hD : H D = some (.lst o)) {v : V} {ss : List (List Nat)} (h : RepT H v ss) : RepT (hide H D) v ss := by
  obtain ⟨a, e, h⟩ := h
  refine ⟨a, e, ?_⟩
  unfold RepA at h ⊢
  rw [hide_ne (fun q => by rw [q, hD] at h; cases h)]
  exact h
theorem told_good {z : Str} (h : isText z = true) : ∀ c ∈ cz z, c < 0x110000 := by
  intro c hc
  unfold isText at h
  simp only [Bool.and_eq_true, List.all_eq_true] at h
  have := h.2 c hc
  unfold told at this
  simp only [Bool.or_eq_true, Bool.and_eq_true, decide_eq_true_eq] at this
  omega
theorem isText_len {z : Str} (h : isText z = true) : z.length ≤ 3000 := by
  unfold isText at h
  simp only [Bool.and_eq_true, decide_eq_true_eq] at h
  exact h.1
theorem P_len : ∀ (n : Nat) (cs : List Nat) (ws : List Wd) (r : Bool), cs.length < n → (K80M.P cs ws r).length ≤ cs.length + 1 := by
  intro n
  induction n with
  | zero => intro cs ws r h; omega
  | succ n ih =>
    intro cs ws r h
    cases cs with
    | nil => rw [K80M.P_nil]; simp
    | cons c cs =>
      simp only [List.length_cons] at h ⊢
      by_cases h1 : c = 59
      · subst h1
        rw [K80M.P_end, List.length_cons]
        have := ih cs [] true (by omega)
        omega
      · by_cases h2 : K80M.blank c = true
        · rw [K80M.P_blank h2]
          have := ih cs ws r (by omega)
          omega
        · by_cases h3 : c = 39
          · subst h3
            rw [K80M.P_quote]
            cases q : K80M.q39 cs with
            | none => show 1 ≤ _; omega
            | some y =>
              have := K80M.q39_len q
              have := ih y.2 (ws ++ [(y.1, true)]) (r && K80M.endsW y.2) (by omega)
              show (K80M.P y.2 _ _).length ≤ _
              omega
          · rw [K80M.P_word h1 h2 h3]
            have hlt := K80M.wDrop_lt (cs := cs) h1 h2
            have := ih _ (ws ++ [(K80M.wTake (c :: cs), false)]) r (show (K80M.wDrop (c :: cs)).length < n by omega)
            omega
/-- what the raising of BadText wants -/
structure BadT (K : PySem.W.Frag) (mg : Str → Option Value) (C : Addr) : Prop where
  gF : mg "BadText" = some (.ref C)
  xF : PySem.W.excIn K C [.type "Exception", .type "BaseException", .type "object"] "Exception.__new__" = true
  kF : PySem.W.keepIn K (.ref C) = true
  bF : PySem.W.subIn K (.ref C) (.type "BaseException") = some true
  tF : PySem.W.typeIn K (.ref C) = some (.type "type")
section
variable {P : Program} {w : World} {K : PySem.W.Frag} {mg : Str → Option Value} {base : Heap} {F C : Addr}
/-- actions_of: of a text; of what is none -/
def spActions (K : PySem.W.Frag) (C : Addr) : Sp := fun vs H Q E => ∃ v : V, vs = [v] ∧ ((∃ z : Str, v = .str z ∧ isText z = true ∧ ∀ H' p xs, Same H H' → H p = none → H' p = some (.lst xs) → Paired (RepT (hide H' p)) xs (K80M.acts (cz z)) → Q (.ref p) H') ∨
  (∃ z : Str, v = .str z ∧ z.length ≤ sizeLine ∧ isText z = false ∧ ∀ H', Same H H' → E (.ref C) none H') ∨ ∃ t : Value, TyX K H v t ∧ PySem.W.kitOne K t (.type "str") = some false ∧ E (.ref C) none H)
theorem ok_actions_of (T : Txt K w mg F) (B : BadT K mg C) (A : At K mg "actions_of" sactions_of) (C_is_text : Cal P w K mg base CX0 3 "is_text" ["value"] (spIsText K)) (C_parts_of : Cal P w K mg base CX0 3 "parts_of" ["text"] spPartsOf)
    (C_action_of : Cal P w K mg base CX0 4 "action_of" ["words"] spActionOf) : Cal P w K mg base (L2.CX P w) 5 "actions_of" ["text"] (spActions K C) := by
  refine A.okX scactions_of (fun vs H Q E h => ?_) bdactions_of (fun f cdv A outer s H vs Q E hr h => ?_)
  · obtain ⟨v, rfl, _⟩ := h; rfl
  obtain ⟨v, rfl, h⟩ := h
  refine ⟨_, (pss_cons (ps_if (pt_not (pt_val (pe_cal C_is_text (hr.mono (by decide)) pass0 (pa_cons (pv 0) pa_nil)))) (pss_one (ps_raise rfl (takes_of rfl rfl rfl rfl) (pmk_own0 PySem.F.excBase_Exception B.xF B.gF B.kF (raises_own B.bF B.tF)))) pss_nil)
      (pss_cons (ps_setLc (i := 1) (own := [("words", 2)]) (g := gName 2) (tt := tYes) rfl scactions_of.nd rfl rfl (sw_true rfl rfl rfl (by decide +kernel)) (pi_list (pe_cal C_parts_of (hr.mono (by decide)) pass0 (pa_cons (pv 0) pa_nil))) (blkOk_by (own := [("words", 2)]) (N := Nactions_of) (sc := defScope sactions_of) (by decide +kernel)) (fun _ _ _ _ _ => (pg_name (i := 2) scactions_of.nd rfl (Or.inl rfl))) (fun _ _ _ _ _ => pts_nil) (fun _ _ _ _ _ => (pe_cal C_action_of (hr.mono (by decide)) pass0 (pa_cons (pv 2) pa_nil))))
      (pss_one (ps_ret (pe_lc (own := [("action", 3)]) (g := gName 3) rfl scactions_of.nd (pi_list (pv 1)) (blkOk_by (own := [("action", 3)]) (N := Nactions_of) (sc := defScope sactions_of) (by decide +kernel)) (fun _ _ _ _ _ => (pg_name (i := 3) scactions_of.nd rfl (Or.inl rfl))) (fun _ _ _ _ _ => (pts_one (pt_cmpR op_notN (pv 3) pe_non (nomark _)))) (fun _ _ _ _ _ => (pv 3))))))), ?_⟩
  rcases h with ⟨z, rfl, hz, hQ⟩ | ⟨z, rfl, hz, hb, hE⟩ | ⟨t, ht, hk, hE⟩
  · have hl := isText_len hz
    have hzl : z.length ≤ sizeLine := Nat.le_of_lt (line5 (by omega))
    refine ⟨_, rfl, _, rfl, .inl ⟨z, rfl, hzl, fun H1 s1 => ?_⟩⟩
    refine ⟨_, rfl, ifF (by rw [hz]; rfl) ?_⟩
    refine ⟨_, rfl, z, rfl, by omega, fun H2 p s2 ⟨xs, hp, rx⟩ => ⟨p, rfl, ⟨xs, SqL.of hp⟩, fun D hD => ?_⟩⟩
    have hln := Paired.length rx
    have hpl := P_len _ (cz z) [] true (Nat.lt_succ_self _)
    rw [← cz_len] at hpl
    refine lc_it (walk_list (K := K) (a := p) (xs := xs)) (fun i H3 => Same H2 H3 ∧ ∃ ys, H3 D = some (.lst ys) ∧ Paired (RepO (hide H3 D)) ys (((K80M.P (cz z) [] true).take i).map K80M.act)) ⟨Same.new hD, [], upd_same, .nil⟩ (fun i H3 _ q => SqL.of (q.1 _ _ hp)) (fun i x H3 H4 hi q y => ?_) (fun H3 q => ?_)
    · obtain ⟨s3, ys, hd, ry⟩ := q
      obtain ⟨rfl, hx⟩ := y
      have hx : xs[i]? = some x := hx
      obtain ⟨pt, hpt, rp⟩ := Paired.get' rx hx
      have lenY : ys.length < sizeLine := by
        have := Paired.length ry
        rw [List.length_map, List.length_take] at this
        exact line5 (by omega)
      have step : ∀ (H5 : Hp) (y : V), Same H4 H5 → RepO (hide H5 D) y (K80M.act pt) → ∃ acc, H5 D = some (.lst acc) ∧ acc.length < sizeLine ∧ (Same H2 (upd H5 D (.lst (acc ++ [y]))) ∧ ∃ ys', (upd H5 D (.lst (acc ++ [y]))) D = some (.lst ys') ∧ Paired (RepO (hide (upd H5 D (.lst (acc ++ [y]))) D)) ys' (((K80M.P (cz z) [] true).take (i + 1)).map K80M.act)) := by
        intro H5 y s5 ry5
        refine ⟨ys, s5 _ _ hd, lenY, Same.mut (s3.trans s5) hD, ys ++ [y], upd_same, ?_⟩
        rw [hide_upd, List.take_add_one, hpt, List.map_append]
        exact Paired.snoc (Paired.mapP ry fun _ _ q => q.same (Same.hides s5)) ry5
      refine ⟨rfl, _, rfl, x, pt, rfl, rp.same s3, fun ws e => ?_, fun hn H5 s5 => step H5 .non s5 (by rw [hn]; rfl), fun ss hs H5 a s5 ra => step H5 (.ref a) s5 (by rw [hs]; exact RepT.hide (s5 _ _ hd) ⟨a, rfl, ra⟩)⟩
      have seg := fun u hu => P_seg _ (cz z) [] true (Nat.lt_succ_self _) pt (List.mem_of_getElem? hpt) ws e u hu
      refine ⟨fun u hu c hc => ?_, fun u hu => ?_⟩
      · rcases seg u hu with q | q
        · cases q
        · exact told_good hz c (q.mem hc)
      · rcases seg u hu with q | q
        · cases q
        · have := q.len
          rw [← cz_len] at this
          exact Nat.le_of_lt (line5 (by omega))
    · obtain ⟨s3, ys, hd, ry⟩ := q
      rw [show xs.length = (K80M.P (cz z) [] true).length from hln, List.take_length] at ry
      have ly := Paired.length ry
      rw [List.length_map] at ly
      refine ⟨_, rfl, D, rfl, ⟨ys, SqL.of hd⟩, fun D2 hD2 => ?_⟩
      refine lc_it (walk_list (K := K) (a := D) (xs := ys)) (fun i H4 => Same H3 H4 ∧ ∃ zs, H4 D2 = some (.lst zs) ∧ zs.length ≤ i ∧ Paired (RepT (hide H3 D)) zs (((K80M.P (cz z) [] true).take i).filterMap K80M.act)) ⟨Same.new hD2, [], upd_same, Nat.zero_le _, .nil⟩ (fun i H4 _ q => SqL.of (q.1 _ _ hd)) (fun i x H4 H5 hi q y => ?_) (fun H4 q => ?_)
      · obtain ⟨s4, zs, hd2, lz, rz⟩ := q
        obtain ⟨rfl, hx⟩ := y
        have hx : ys[i]? = some x := hx
        obtain ⟨o, ho, ro⟩ := Paired.get' ry hx
        rw [List.getElem?_map] at ho
        obtain ⟨pt, hpt, rfl⟩ := Option.map_eq_some_iff.mp ho
        refine ⟨rfl, _, rfl, rfl, _, rfl, ?_⟩
        cases ha : K80M.act pt with
        | none =>
          rw [ha] at ro
          cases (show x = .non from ro)
          refine ifF rfl ⟨s4, zs, hd2, by omega, ?_⟩
          rw [List.take_add_one, hpt, List.filterMap_append]
          simp only [Option.toList_some, List.filterMap_cons, ha, List.filterMap_nil, List.append_nil]
          exact rz
        | some ss =>
          rw [ha] at ro
          obtain ⟨a, rfl, ra⟩ := ro
          refine ifT rfl ⟨_, rfl, zs, hd2, line5 (by omega), Same.mut s4 hD2, zs ++ [.ref a], upd_same, by rw [List.length_append, List.length_singleton]; omega, ?_⟩
          rw [List.take_add_one, hpt, List.filterMap_append]
          simp only [Option.toList_some, List.filterMap_cons, ha, List.filterMap_nil]
          exact Paired.snoc rz ⟨a, rfl, ra⟩
      · obtain ⟨s4, zs, hd2, lz, rz⟩ := q
        rw [ly, List.take_length] at rz
        have s04 : Same H H4 := s1.trans (s2.trans (s3.trans s4))
        have hHD2 : H D2 = none := (s1.trans (s2.trans s3)).free hD2
        refine hQ H4 D2 zs s04 hHD2 hd2 (Paired.mapP rz fun _ _ q => q.same ?_)
        exact Same.hide (hide_same.trans s4) (hide_same.free hD2)
  · refine ⟨_, rfl, _, rfl, .inl ⟨z, rfl, hz, fun H1 s1 => ?_⟩⟩
    exact ⟨_, rfl, ifT (by rw [hb]; rfl) (hE H1 s1)⟩
  · refine ⟨_, rfl, _, rfl, .inr ⟨t, ht, hk, ?_⟩⟩
    exact ⟨_, rfl, ifT rfl hE⟩
end
end K80

set_option Elab.async false
set_option linter.all false
set_option maxRecDepth 100000
set_option maxHeartbeats 4000000
/-! law k80: the pool of drawn numbers -/
namespace K80
open PySem PySem.Spec PyProof.Rows L2
open K80M (Wd Part)
/-- all but a is kept -/
def Keep (a : Addr) (H H' : Hp) : Prop := ∀ b u, b ≠ a → H b = some u → H' b = some u
theorem Keep.of {a : Addr} {H H' : Hp} (s : Same H H') : Keep a H H' := fun b u _ e => s b u e
theorem Keep.refl {a : Addr} {H : Hp} : Keep a H H := fun _ _ _ e => e
theorem Keep.trans {a : Addr} {H H1 H2 : Hp} (s : Keep a H H1) (t : Keep a H1 H2) : Keep a H H2 := fun b u h e => t b u h (s b u h e)
theorem Keep.upd {a : Addr} {H : Hp} {o : HO} : Keep a H (upd H a o) := fun b u h e => by rw [upd_ne h]; exact e
/-- the pool stands at a -/
def PoolAt (H : Hp) (a : Addr) : Prop := ∃ xs : List Int, H a = some (.lst (xs.map V.int)) ∧ xs.length ≤ 100000 ∧ ∃ p : Nat, xs[0]? = some (p : Int) ∧ 1 ≤ p ∧ p < xs.length
theorem PoolAt.same {H H' : Hp} {a : Addr} (s : Same H H') (h : PoolAt H a) : PoolAt H' a := by
  obtain ⟨xs, h1, h2⟩ := h
  exact ⟨xs, s _ _ h1, h2⟩
/-- the pool goes on, all else is kept -/
def PK (a : Addr) (H H' : Hp) : Prop := Keep a H H' ∧ PoolAt H' a
theorem PK.trans {a : Addr} {H H1 H2 : Hp} (s : PK a H H1) (t : PK a H1 H2) : PK a H H2 := ⟨s.1.trans t.1, t.2⟩
theorem PK.more {a : Addr} {H H1 H2 : Hp} (s : PK a H H1) (t : Same H1 H2) : PK a H H2 := ⟨s.1.trans (Keep.of t), s.2.same t⟩
theorem PK.new {a : Addr} {H H1 : Hp} {p : Addr} {o : HO} (s : PK a H H1) (t : H1 p = none) : PK a H (upd H1 p o) := s.more (Same.new t)
theorem PK.lt {a : Addr} {H H1 : Hp} (s : PK a H H1) {b : Addr} {u : HO} (h : H b = some u) (hb : b ≠ a) : H1 b = some u := s.1 b u hb h
theorem m60 : (0 : Int) < 60 := by decide
theorem m6060 : (0 : Int) < 60 ^ Int.toNat 60 := by decide +kernel
theorem mBig : (0 : Int) < 2147483647 := by decide
theorem rg1 {n : Nat} : -(2 ^ 62 : Int) ≤ (n : Int) := by omega
theorem rg2 {n : Nat} (h : n ≤ 100001 := by omega) : (n : Int) < 2 ^ 62 := by omega
section
variable {P : Program} {w : World} {K : PySem.W.Frag} {mg : Str → Option Value} {base : Heap} {F C : Addr}
def spPool (K : PySem.W.Frag) : Sp := fun vs H Q _ => ∃ (sc : Addr) (ns : List Int), vs = [.ref sc] ∧ SqL K H sc (ns.map V.int) ∧ ns.length ≤ 63 ∧
  ∀ H' p (xs : List Int), Same H H' → H p = none → H' p = some (.lst (xs.map V.int)) → 300 ≤ xs.length → xs.length ≤ 4300 → Q (.ref p) H'
theorem ok_law_pool (T : Txt K w mg F) (A : At K mg "_law_pool" s_law_pool) : Cal P w K mg base CX0 1 "_law_pool" ["script"] (spPool K) := by
  refine A.ok sc_law_pool (fun vs H Q E h => ?_) bd_law_pool (fun f cdv A outer s H vs Q E hr h => ?_)
  · obtain ⟨sc, ns, rfl, _⟩ := h; rfl
  obtain ⟨sc, ns, rfl, hs, hn, hQ⟩ := h
  refine ⟨_, (pss_cons (ps_set (i := 1) sc_law_pool.nd rfl (Or.inl rfl) (pe_lst pa_nil))
      (pss_cons (ps_for PassesOwn.never rfl (pi_list (pv 0)) (pg_name (i := 2) sc_law_pool.nd rfl (Or.inl rfl))
      (pss_cons (ps_set (i := 3) sc_law_pool.nd rfl (Or.inl rfl) (pe_op op_mod (pe_callTy call_int1 (by rfl) T.b_int boot_int (pa_cons (pv 2) pa_nil)) (pe_op op_pow pe_int pe_int)))
      (pss_one (ps_if (pt_cmpR op_ge (pv 3) (pe_op op_pow pe_int pe_int) (nomark _)) (pss_one (ps_for PassesOwn.never rfl (pi_range1 rfl T.b_range (pa_cons pe_int pa_nil)) (pg_name (i := 4) sc_law_pool.nd rfl (Or.inl rfl))
      (pss_cons (ps_expr (pe_bm PySem.F.plainAttrs_list PySem.F.slot_list_append PySem.F.type_list_append mt_append (pv 1) (pa_cons (pe_op op_mod (pe_callTy call_int1 (by rfl) T.b_int boot_int (pa_cons (pv 3) pa_nil)) pe_int) pa_nil)))
      (pss_cons (ps_set (i := 3) sc_law_pool.nd rfl (Or.inl rfl) (pe_callTy call_int1 (by rfl) T.b_int boot_int (pa_cons (pe_op op_fdivN (pv 3) pe_int) pa_nil)))
      (pss_one (ps_if (pt_cmpR op_eq (pv 3) pe_int (nomark _)) (pss_one ps_break) pss_nil)))))) (pss_one (ps_set (i := 1) sc_law_pool.nd rfl (Or.inl rfl) (pe_op op_cat (pv 1) (pe_lst (pa_cons (pe_op op_mod (pe_callTy call_int1 (by rfl) T.b_int boot_int (pa_cons (pv 3) pa_nil)) pe_int) (pa_cons (pe_op op_mod (pe_callTy call_int1 (by rfl) T.b_int boot_int (pa_cons (pe_op op_fdivN (pv 3) pe_int) pa_nil)) pe_int) pa_nil))))))))))
      (pss_cons (ps_set (i := 5) sc_law_pool.nd rfl (Or.inl rfl) pe_int)
      (pss_cons (ps_for PassesOwn.never rfl (pi_list (pv 0)) (pg_name (i := 2) sc_law_pool.nd rfl (Or.inl rfl))
      (pss_one (ps_set (i := 5) sc_law_pool.nd rfl (Or.inl rfl) (pe_op op_mod (pe_op op_add (pe_op op_mul (pv 5) pe_int) (pe_callTy call_int1 (by rfl) T.b_int boot_int (pa_cons (pv 2) pa_nil))) pe_int))))
      (pss_cons (ps_for PassesOwn.never rfl (pi_range1 rfl T.b_range (pa_cons pe_int pa_nil)) (pg_name (i := 4) sc_law_pool.nd rfl (Or.inl rfl))
      (pss_cons (ps_set (i := 5) sc_law_pool.nd rfl (Or.inl rfl) (pe_op op_mod (pe_op op_add (pe_op op_mul (pv 5) pe_int) pe_int) pe_int))
      (pss_one (ps_expr (pe_bm PySem.F.plainAttrs_list PySem.F.slot_list_append PySem.F.type_list_append mt_append (pv 1) (pa_cons (pe_op op_mod (pe_callTy call_int1 (by rfl) T.b_int boot_int (pa_cons (pe_op op_fdivN (pv 5) pe_int) pa_nil)) pe_int) pa_nil))))))
      (pss_one (ps_ret (pv 1)))))))), ?_⟩
  refine ⟨Nat.zero_le _, fun pa hpa => ⟨_, rfl, sc, rfl, ⟨_, Same.seq (Same.new hpa) hs⟩, ?_⟩⟩
  refine for_it (walk_list (K := K) (a := sc) (xs := ns.map V.int)) (fun i σ H' => Same H H' ∧ ∃ (p : Addr) (ys : List Int) (o2 o3 o4 : Option V), σ = [some (.ref sc), some (.ref p), o2, o3, o4, none] ∧ H p = none ∧ H' p = some (.lst (ys.map V.int)) ∧ ys.length ≤ 62 * i)
    ⟨Same.new hpa, pa, [], none, none, none, rfl, hpa, upd_same, Nat.zero_le _⟩ (fun i σ H' _ q => Same.seq q.1 hs) (fun i x σ H' H2 hi q y => ?_) (fun σ H' q => ?_)
  · obtain ⟨s1, p, ys, o2, o3, o4, rfl, hp0, hp, hl⟩ := q
    obtain ⟨rfl, hx⟩ := y
    have hx : (ns.map V.int)[i]? = some x := hx
    rw [List.getElem?_map] at hx
    obtain ⟨c, hc, rfl⟩ := Option.map_eq_some_iff.mp hx
    have hi' : i < 63 := by rw [List.length_map] at hi; omega
    refine ⟨_, rfl, .inl ⟨c, rfl, _, _, rfl, rfl, ⟨by decide, by decide, by decide⟩, _, _, rfl, rfl, m6060, ?_⟩⟩
    refine ⟨_, rfl, _, _, rfl, rfl, ⟨by decide, by decide, by decide⟩, _, _, rfl, rfl, _, rfl, ifB (fun _ => ?_) fun _ => ?_⟩
    · refine ⟨_, rfl, by decide, by decide, ?_⟩
      refine for_it walk_range (fun j σ H3 => Same H H3 ∧ ∃ (ys : List Int) (r : Int) (o4 : Option V), σ = [some (.ref sc), some (.ref p), some (.int c), some (.int r), o4, none] ∧ H3 p = some (.lst (ys.map V.int)) ∧ ys.length ≤ 62 * i + j)
        ⟨s1, ys, _, _, rfl, hp, by omega⟩ (fun _ _ _ _ _ => trivial) (fun j x σ H3 H4 hj q y => ?_) (fun σ H3 q => ?_)
      · obtain ⟨s3, ys, r, o4, rfl, hp3, hl3⟩ := q
        obtain ⟨rfl, rfl⟩ := y
        have hj' : j < 60 := hj
        refine ⟨_, rfl, .inl ⟨rfl, _, SqL.of hp3⟩, _, rfl, .inl ⟨_, rfl, _, _, rfl, rfl, m60, ?_⟩⟩
        refine ⟨p, ys.map V.int, _, rfl, rfl, hp3, line5 (by rw [List.length_map]; omega), ?_⟩
        refine ⟨_, rfl, _, _, rfl, rfl, ⟨by decide, by decide⟩, .inl ⟨_, rfl, ?_⟩⟩
        have fin : ∀ v : Int, Same H (upd H4 p (.lst (ys.map V.int ++ [V.int v]))) ∧ (upd H4 p (.lst (ys.map V.int ++ [V.int v]))) p = some (.lst ((ys ++ [v]).map V.int)) ∧ (ys ++ [v]).length ≤ 62 * i + (j + 1) := fun v =>
          ⟨Same.mut s3 hp0, by rw [upd_same, List.map_append]; rfl, by rw [List.length_append, List.length_singleton]; omega⟩
        refine ⟨_, rfl, rfl, _, rfl, ifB (fun _ => ?_) fun _ => ?_⟩
        · exact ⟨(fin _).1, p, _, _, _, _, rfl, hp0, (fin _).2.1, by have := (fin (r % 60)).2.2; simp only [List.length_append, List.length_singleton] at this ⊢; omega⟩
        · exact ⟨(fin _).1, _, _, _, rfl, (fin _).2.1, (fin _).2.2⟩
      · obtain ⟨s3, ys, r, o4, rfl, hp3, hl3⟩ := q
        exact ⟨s3, p, ys, _, _, _, rfl, hp0, hp3, by show _ ≤ 62 * (i + 1); have : ys.length ≤ 62 * i + 60 := hl3; omega⟩
    · refine ⟨_, rfl, _, rfl, .inl ⟨_, rfl, _, _, rfl, rfl, m60, _, rfl, _, _, rfl, rfl, ⟨by decide, by decide⟩, .inl ⟨_, rfl, _, _, rfl, rfl, m60, ?_⟩⟩⟩
      refine ⟨by show 2 ≤ sizeLine; decide, fun l hl2 => ?_⟩
      have npl : p ≠ l := ne_of_none hp hl2
      refine ⟨p, l, _, _, rfl, rfl, by rw [upd_ne npl]; exact hp, upd_same, ?_, fun p2 hp2 => ?_⟩
      · rw [List.length_map]
        exact Nat.le_of_lt (line5 (by show ys.length + 2 ≤ _; omega))
      · refine ⟨(s1.trans (Same.new hl2)).trans (Same.new hp2), p2, ys ++ [_, _], _, _, _, rfl, (s1.trans (Same.new hl2)).free hp2, by rw [upd_same, List.map_append]; rfl, ?_⟩
        rw [List.length_append]
        show ys.length + 2 ≤ _
        omega
  · obtain ⟨s1, p, ys, o2, o3, o4, rfl, hp0, hp, hl⟩ := q
    rw [List.length_map] at hl
    refine ⟨_, rfl, sc, rfl, ⟨_, Same.seq s1 hs⟩, ?_⟩
    refine for_it (walk_list (K := K) (a := sc) (xs := ns.map V.int)) (fun i σ H3 => H3 = H' ∧ ∃ (o2 o3 o4 : Option V) (st : Int), σ = [some (.ref sc), some (.ref p), o2, o3, o4, some (.int st)])
      ⟨rfl, _, _, _, _, rfl⟩ (fun i σ H3 _ q => by rw [q.1]; exact Same.seq s1 hs) (fun i x σ H3 H4 hi q y => ?_) (fun σ H3 q => ?_)
    · obtain ⟨rfl, o2, o3, o4, st, rfl⟩ := q
      obtain ⟨rfl, hx⟩ := y
      have hx : (ns.map V.int)[i]? = some x := hx
      rw [List.getElem?_map] at hx
      obtain ⟨c, hc, rfl⟩ := Option.map_eq_some_iff.mp hx
      exact ⟨_, rfl, _, _, rfl, rfl, .inr ⟨by decide, by decide⟩, _, rfl, .inl ⟨_, rfl, _, _, rfl, rfl, _, _, rfl, rfl, mBig, rfl, _, _, _, _, rfl⟩⟩
    · obtain ⟨rfl, o2, o3, o4, st, rfl⟩ := q
      refine ⟨_, rfl, by decide, by decide, ?_⟩
      refine for_it walk_range (fun j σ H4 => Same H H4 ∧ ∃ (zs : List Int) (o2 o3 o4 : Option V) (st : Int), σ = [some (.ref sc), some (.ref p), o2, o3, o4, some (.int st)] ∧ H4 p = some (.lst (zs.map V.int)) ∧ zs.length = ys.length + j)
        ⟨s1, ys, _, _, _, _, rfl, hp, rfl⟩ (fun _ _ _ _ _ => trivial) (fun j x σ H4 H5 hj q y => ?_) (fun σ H4 q => ?_)
      · obtain ⟨s3, zs, o2, o3, o4, st, rfl, hp3, hl3⟩ := q
        obtain ⟨rfl, rfl⟩ := y
        have hj' : j < 300 := hj
        refine ⟨_, rfl, _, _, rfl, rfl, .inr ⟨by decide, by decide⟩, _, _, rfl, rfl, _, _, rfl, rfl, mBig, ?_⟩
        refine ⟨_, rfl, .inl ⟨rfl, _, SqL.of hp3⟩, _, rfl, _, _, rfl, rfl, ⟨by decide, by decide⟩, .inl ⟨_, rfl, _, _, rfl, rfl, m60, ?_⟩⟩
        refine ⟨p, zs.map V.int, _, rfl, rfl, hp3, line5 (by rw [List.length_map]; omega), ?_⟩
        exact ⟨Same.mut s3 hp0, zs ++ [_], _, _, _, _, rfl, by rw [upd_same, List.map_append]; rfl, by rw [List.length_append, List.length_singleton]; omega⟩
      · obtain ⟨s3, zs, o2, o3, o4, st, rfl, hp3, hl3⟩ := q
        have hl3 : zs.length = ys.length + 300 := hl3
        exact ⟨_, rfl, hQ _ p zs s3 hp0 hp3 (by omega) (by omega)⟩
def spStream (K : PySem.W.Frag) : Sp := fun vs H Q _ => ∃ (sc : Addr) (ns : List Int), vs = [.ref sc] ∧ SqL K H sc (ns.map V.int) ∧ ns.length ≤ 63 ∧
  ∀ H' p (xs : List Int), Same H H' → H p = none → H' p = some (.lst ((1 :: xs).map V.int)) → 300 ≤ xs.length → xs.length ≤ 4300 → Q (.ref p) H'
theorem ok_law_stream (T : Txt K w mg F) (A : At K mg "_law_stream" s_law_stream) (C__law_pool : Cal P w K mg base CX0 1 "_law_pool" ["script"] (spPool K)) : Cal P w K mg base CX0 2 "_law_stream" ["script"] (spStream K) := by
  refine A.ok sc_law_stream (fun vs H Q E h => ?_) bd_law_stream (fun f cdv A outer s H vs Q E hr h => ?_)
  · obtain ⟨sc, ns, rfl, _⟩ := h; rfl
  obtain ⟨sc, ns, rfl, hs, hn, hQ⟩ := h
  refine ⟨_, (pss_one (ps_ret (pe_op op_cat (pe_lst (pa_cons pe_int pa_nil)) (pe_cal C__law_pool (hr.mono (by decide)) pass0 (pa_cons (pv 0) pa_nil))))), ?_⟩
  refine ⟨(by show 1 ≤ sizeLine; decide), fun l hl => ⟨_, rfl, sc, ns, rfl, Same.seq (Same.new hl) hs, hn, fun H' p xs s1 hp0 hp h1 h2 => ?_⟩⟩
  refine ⟨l, p, _, _, rfl, rfl, s1 _ _ upd_same, hp, ?_, fun q hq => ?_⟩
  · rw [List.length_map]
    exact Nat.le_of_lt (line5 (by show 1 + xs.length ≤ _; omega))
  · have s2 : Same H H' := (Same.new hl).trans s1
    exact hQ _ q xs (s2.trans (Same.new hq)) (s2.free hq) (by rw [upd_same]; rfl) h1 h2
/-- told more, the pool may be drawn from -/
def spLonger : Sp := fun vs H Q _ => ∃ (a : Addr) (xs : List Int), vs = [.ref a, .int 300] ∧ H a = some (.lst ((1 :: xs).map V.int)) ∧ 300 ≤ xs.length ∧ xs.length ≤ 4300 ∧ ∀ H', PK a H H' → Q (.ref a) H'
theorem ok_law_longer (T : Txt K w mg F) (A : At K mg "_law_longer" s_law_longer) : Cal P w K mg base CX0 1 "_law_longer" ["pool", "many"] spLonger := by
  refine A.ok sc_law_longer (fun vs H Q E h => ?_) bd_law_longer (fun f cdv A outer s H vs Q E hr h => ?_)
  · obtain ⟨a, xs, rfl, _⟩ := h; rfl
  obtain ⟨a, xs, rfl, ha, h1, h2, hQ⟩ := h
  refine ⟨_, (pss_cons (ps_set (i := 2) sc_law_longer.nd rfl (Or.inl rfl) pe_int)
      (pss_cons (ps_for PassesOwn.never rfl (pi_list (pv 0)) (pg_name (i := 3) sc_law_longer.nd rfl (Or.inl rfl))
      (pss_one (ps_set (i := 2) sc_law_longer.nd rfl (Or.inl rfl) (pe_op op_mod (pe_callTy call_int1 (by rfl) T.b_int boot_int (pa_cons (pe_op op_add (pe_op op_add (pe_op op_mul (pv 2) pe_int) (pv 3)) pe_int) pa_nil)) pe_int))))
      (pss_cons (ps_for PassesOwn.never rfl (pi_range1 rfl T.b_range (pa_cons (pv 1) pa_nil)) (pg_name (i := 4) sc_law_longer.nd rfl (Or.inl rfl))
      (pss_cons (ps_set (i := 2) sc_law_longer.nd rfl (Or.inl rfl) (pe_op op_mod (pe_callTy call_int1 (by rfl) T.b_int boot_int (pa_cons (pe_op op_add (pe_op op_mul (pv 2) pe_int) pe_int) pa_nil)) pe_int))
      (pss_one (ps_expr (pe_bm PySem.F.plainAttrs_list PySem.F.slot_list_append PySem.F.type_list_append mt_append (pv 0) (pa_cons (pe_op op_mod (pe_callTy call_int1 (by rfl) T.b_int boot_int (pa_cons (pe_op op_fdivN (pv 2) pe_int) pa_nil)) pe_int) pa_nil))))))
      (pss_one (ps_ret (pv 0)))))), ?_⟩
  refine ⟨_, rfl, a, rfl, ⟨_, SqL.of ha⟩, ?_⟩
  refine for_it (walk_list (K := K) (a := a) (xs := (1 :: xs).map V.int)) (fun i σ H3 => H3 = H ∧ ∃ (o3 o4 : Option V) (st : Int), σ = [some (.ref a), some (.int 300), some (.int st), o3, o4])
    ⟨rfl, _, _, _, rfl⟩ (fun i σ H3 _ q => by rw [q.1]; exact SqL.of ha) (fun i x σ H3 H4 hi q y => ?_) (fun σ H3 q => ?_)
  · obtain ⟨rfl, o3, o4, st, rfl⟩ := q
    obtain ⟨rfl, hx⟩ := y
    have hx : ((1 :: xs).map V.int)[i]? = some x := hx
    rw [List.getElem?_map] at hx
    obtain ⟨c, hc, rfl⟩ := Option.map_eq_some_iff.mp hx
    exact ⟨_, rfl, _, _, rfl, rfl, .inr ⟨by decide, by decide⟩, _, rfl, _, _, rfl, rfl, _, _, rfl, rfl, .inl ⟨_, rfl, _, _, rfl, rfl, mBig, rfl, _, _, _, rfl⟩⟩
  · obtain ⟨rfl, o3, o4, st, rfl⟩ := q
    refine ⟨_, rfl, _, rfl, by decide, by decide, ?_⟩
    refine for_it walk_range (fun j σ H4 => Keep a H3 H4 ∧ ∃ (zs : List Int) (o3 o4 : Option V) (st : Int), σ = [some (.ref a), some (.int 300), some (.int st), o3, o4] ∧ H4 a = some (.lst ((1 :: zs).map V.int)) ∧ zs.length = xs.length + j)
      ⟨Keep.refl, xs, _, _, _, rfl, ha, rfl⟩ (fun _ _ _ _ _ => trivial) (fun j x σ H4 H5 hj q y => ?_) (fun σ H4 q => ?_)
    · obtain ⟨s3, zs, o3, o4, st, rfl, hp3, hl3⟩ := q
      obtain ⟨rfl, rfl⟩ := y
      have hj' : j < 300 := hj
      refine ⟨_, rfl, _, _, rfl, rfl, .inr ⟨by decide, by decide⟩, _, _, rfl, rfl, .inl ⟨_, rfl, _, _, rfl, rfl, mBig, ?_⟩⟩
      refine ⟨_, rfl, .inl ⟨rfl, _, SqL.of hp3⟩, _, rfl, _, _, rfl, rfl, ⟨by decide, by decide⟩, .inl ⟨_, rfl, _, _, rfl, rfl, m60, ?_⟩⟩
      refine ⟨a, (1 :: zs).map V.int, _, rfl, rfl, hp3, line5 (by rw [List.length_map]; show zs.length + 1 ≤ _; omega), ?_⟩
      exact ⟨s3.trans Keep.upd, zs ++ [_], _, _, _, rfl, by rw [upd_same, ← List.cons_append, List.map_append]; rfl, by rw [List.length_append, List.length_singleton]; omega⟩
    · obtain ⟨s3, zs, o3, o4, st, rfl, hp3, hl3⟩ := q
      have hl3 : zs.length = xs.length + 300 := hl3
      exact ⟨_, rfl, hQ _ ⟨s3, _, hp3, by show zs.length + 1 ≤ _; omega, 1, rfl, Nat.le_refl _, by show 1 < zs.length + 1; omega⟩⟩
/-- a number below m -/
def spPick : Sp := fun vs H Q _ => ∃ (a : Addr) (m : Nat), vs = [.ref a, .int m] ∧ 0 < m ∧ PoolAt H a ∧ ∀ (r : Nat) H', r < m → PK a H H' → Q (.int r) H'
theorem ok_law_pick (T : Txt K w mg F) (A : At K mg "_law_pick" s_law_pick) : Cal P w K mg base CX0 1 "_law_pick" ["pool", "many"] spPick := by
  refine A.ok sc_law_pick (fun vs H Q E h => ?_) bd_law_pick (fun f cdv A outer s H vs Q E hr h => ?_)
  · obtain ⟨a, m, rfl, _⟩ := h; rfl
  obtain ⟨a, m, rfl, hm, ⟨xs, ha, hx, p, hp0, hp1, hp2⟩, hQ⟩ := h
  refine ⟨_, (pss_cons (ps_set (i := 2) sc_law_pick.nd rfl (Or.inl rfl) (pe_ix ix_list (pv 0) pe_int (fun _ _ => rfl)))
      (pss_cons (ps_asg (pe_op op_add (pv 2) pe_int) (pg_sub (pv 0) pe_int set_list))
      (pss_cons (ps_if (pt_cmpR op_eq (pe_ix ix_list (pv 0) pe_int (fun _ _ => rfl)) (pe_callB call_len_seq (by rfl) T.b_len boot_len (pa_cons (pv 0) pa_nil)) (nomark _)) (pss_one (ps_asg pe_int (pg_sub (pv 0) pe_int set_list))) pss_nil)
      (pss_one (ps_ret (pe_op op_mod (pe_callTy call_int1 (by rfl) T.b_int boot_int (pa_cons (pe_ix ix_list (pv 0) (pv 2) (fun _ _ => rfl)) pa_nil)) (pv 1))))))), ?_⟩
  have i0 : ixN (xs.map V.int).length 0 = some 0 := by
    rw [List.length_map]
    unfold ixN
    rw [if_pos (by omega), if_pos (by omega)]
    rfl
  have hv0 : (xs.map V.int)[0]? = some (.int (p : Int)) := by rw [List.getElem?_map, hp0]; rfl
  refine ⟨_, rfl, a, _, _, _, rfl, rfl, SqL.of ha, atI_nat (j := 0) hv0, ?_⟩
  refine ⟨_, rfl, _, _, rfl, rfl, _, rfl, a, _, _, _, rfl, rfl, ha, i0, ?_⟩
  have e1 : (xs.map V.int).set 0 (.int ((p : Int) + 1)) = (xs.set 0 ((p : Int) + 1)).map V.int := by rw [List.map_set]
  have l1 : (xs.set 0 ((p : Int) + 1)).length = xs.length := List.length_set
  have hx0 : 0 < xs.length := by omega
  have hv1 : ((xs.map V.int).set 0 (.int ((p : Int) + 1)))[0]? = some (.int ((p : Int) + 1)) := by rw [List.getElem?_set_self (by rw [List.length_map]; exact hx0)]
  have gv : ∀ q : Int, ∃ v : Int, ((xs.set 0 q).map V.int)[p]? = some (.int v) := fun q => by
    have : p < (xs.set 0 q).length := by rw [List.length_set]; exact hp2
    exact ⟨(xs.set 0 q)[p], by rw [List.getElem?_map, List.getElem?_eq_getElem this]; rfl⟩
  have fin : ∀ (q : Nat) (r : Int), 1 ≤ q → q < xs.length → ∀ H', Keep a H H' → H' a = some (.lst ((xs.set 0 (q : Int)).map V.int)) → Q (.int (r % (m : Int))) H' := fun q r h1 h2 H' hk he => by
    have e : r % (m : Int) = ((r % (m : Int)).toNat : Int) := (Int.toNat_of_nonneg (Int.emod_nonneg _ (by omega))).symm
    rw [e]
    refine hQ _ H' ?_ ⟨hk, _, he, by rw [List.length_set]; exact hx, q, ?_, h1, by rw [List.length_set]; exact h2⟩
    · have := Int.emod_lt_of_pos r (show (0 : Int) < m by omega)
      omega
    · rw [List.getElem?_set_self hx0]
  refine ⟨_, rfl, a, _, _, _, rfl, rfl, SqL.of upd_same, atI_nat (j := 0) hv1, _, rfl, a, _, rfl, .inl (SqL.of upd_same), rfl, _, rfl, ?_⟩
  by_cases hq : p + 1 = xs.length
  · refine ifT (dec_int _ (decide_eq_true (by rw [List.length_set, List.length_map]; omega))) ⟨_, rfl, a, _, _, _, rfl, rfl, upd_same, by rw [List.length_set]; exact i0, ?_⟩
    have ee : ((xs.map V.int).set 0 (.int ((p : Int) + 1))).set 0 (.int 1) = (xs.set 0 ((1 : Nat) : Int)).map V.int := by rw [List.set_set, List.map_set]; rfl
    rw [ee]
    obtain ⟨v, hv⟩ := gv ((1 : Nat) : Int)
    exact ⟨_, rfl, _, rfl, a, _, _, _, rfl, rfl, SqL.of upd_same, atI_nat hv, .inl ⟨_, rfl, _, rfl, _, _, rfl, rfl, (by show (0 : Int) < m; omega), fin 1 v (Nat.le_refl _) (by omega) _ (Keep.upd.trans Keep.upd) upd_same⟩⟩
  · refine ifF (dec_int _ (decide_eq_false (by rw [List.length_set, List.length_map]; omega))) ?_
    rw [e1]
    obtain ⟨v, hv⟩ := gv ((p + 1 : Nat) : Int)
    exact ⟨_, rfl, _, rfl, a, _, _, _, rfl, rfl, SqL.of upd_same, atI_nat hv, .inl ⟨_, rfl, _, rfl, _, _, rfl, rfl, (by show (0 : Int) < m; omega), fin (p + 1) v (by omega) (by omega) _ Keep.upd upd_same⟩⟩
end
end K80

set_option Elab.async false
set_option linter.all false
set_option maxRecDepth 100000
set_option maxHeartbeats 4000000
/-! law k80: texts; words, names, targets, last words as they are drawn -/
namespace K80
open PySem PySem.Spec PyProof.Rows L2
open K80M (Wd Part)
/-! ### texts -/
theorem cz_nil : cz "" = [] := by decide +kernel
theorem cz_empty : cz Str.empty = [] := rfl
theorem sjoin_cz (z : Str) : ∀ (y : Str) (ys : List Str), cz (Str.join z (y :: ys)) = cz y ++ (ys.map fun u => cz z ++ cz u).flatten
  | y, [] => by simp [Str.join]
  | y, u :: ys => by
    rw [show Str.join z (y :: u :: ys) = y ++ z ++ Str.join z (u :: ys) from rfl, cz_app, cz_app, sjoin_cz z u ys]
    simp
theorem join_nil_cz (ys : List Str) : cz (Txt.join "" ys) = (ys.map cz).flatten := by
  rw [show Txt.join "" ys = Str.join "" ys from StrLaws.glued_eq_join _ _]
  cases ys with
  | nil => rfl
  | cons y ys =>
    rw [sjoin_cz, cz_nil]
    simp
theorem parts59_cons (y : List Nat) (ys : List (List Nat)) : K80M.parts59 (y :: ys) = y ++ (ys.map fun u => 59 :: u).flatten := by
  induction ys generalizing y with
  | nil => simp [K80M.parts59]
  | cons u ys ih =>
    show y ++ (59 :: K80M.parts59 (u :: ys)) = _
    rw [ih]
    simp
theorem join_59_cz (ys : List Str) : cz (Txt.join ";" ys) = K80M.parts59 (ys.map cz) := by
  rw [show Txt.join ";" ys = Str.join ";" ys from StrLaws.glued_eq_join _ _]
  cases ys with
  | nil => rfl
  | cons y ys =>
    rw [sjoin_cz, cz_59, List.map_cons, parts59_cons, List.map_map]
    rfl
theorem mul_cz (x : Str) (n : Nat) : cz (Txt.mul x (n : Int)) = (List.replicate n (cz x)).flatten := by
  have fold : ∀ (n : Nat) (acc : Array Nat), ((List.replicate n x.cps).foldl (fun a b => a ++ b) acc).toList = acc.toList ++ (List.replicate n (cz x)).flatten := by
    intro n
    induction n with
    | zero => intro acc; simp
    | succ n ih =>
      intro acc
      rw [List.replicate_succ, List.foldl_cons, ih, List.replicate_succ, List.flatten_cons]
      simp
  unfold Txt.mul
  by_cases h : (n : Int) < 1
  · rw [if_pos h]
    have : n = 0 := by omega
    subst this
    rfl
  · rw [if_neg h]
    by_cases h2 : ((n : Int) == 1 || x.length == 0) = true
    · rw [if_pos h2]
      simp only [Bool.or_eq_true, beq_iff_eq] at h2
      rcases h2 with h2 | h2
      · have : n = 1 := by omega
        subst this
        simp
      · have : cz x = [] := by
          rw [cz_len] at h2
          exact List.length_eq_zero_iff.mp h2
        rw [this]
        clear h h2
        induction n with
        | zero => rfl
        | succ n ih => rw [List.replicate_succ, List.flatten_cons, ← ih]; rfl
    · rw [if_neg h2]
      show (List.foldl _ _ _ : Array Nat).toList = _
      rw [Int.toNat_natCast, fold]
      simp
/-- a quote gone: no sign is new, and it is not longer -/
theorem replace_less (x : Str) : (∀ c ∈ cz (Txt.replace x "'" ""), c ∈ cz x) ∧ (Txt.replace x "'" "").length ≤ x.length := by
  have e39 : ("'" : Str) = ⟨#[39]⟩ := str_ext (by decide +kernel)
  rw [e39, StrLaws.replace_one]
  have hj := StrLaws.join_split x ⟨#[39]⟩
  cases hs : Txt.split x ⟨#[39]⟩ with
  | nil =>
    rw [hs] at hj
    rw [← hj]
    exact ⟨fun c h => h, Nat.le_refl _⟩
  | cons y ys =>
    rw [hs] at hj
    have e1 := congrArg cz hj
    rw [sjoin_cz] at e1
    have e2 : cz (Str.join "" (y :: ys)) = cz y ++ (ys.map cz).flatten := by rw [sjoin_cz, cz_nil]; simp
    rw [cz_len, cz_len x, e2, ← e1]
    constructor
    · intro c h
      rcases List.mem_append.mp h with h | h
      · exact List.mem_append_left _ h
      · refine List.mem_append_right _ ?_
        obtain ⟨l, hl, hc⟩ := List.mem_flatten.mp h
        obtain ⟨u, hu, rfl⟩ := List.mem_map.mp hl
        exact List.mem_flatten.mpr ⟨_, List.mem_map.mpr ⟨u, hu, rfl⟩, List.mem_append_right _ hc⟩
    · rw [List.length_append, List.length_append]
      have : ∀ ys : List Str, (ys.map cz).flatten.length ≤ (ys.map fun u => cz ⟨#[39]⟩ ++ cz u).flatten.length := by
        intro ys
        induction ys with
        | nil => exact Nat.le_refl _
        | cons u ys ih =>
          simp only [List.map_cons, List.flatten_cons, List.length_append]
          omega
      have := this ys
      omega
/-- all signs told -/
def Told (z : Str) : Prop := ∀ c ∈ cz z, told c = true
theorem Told.app {x y : Str} (h : Told x) (g : Told y) : Told (x ++ y) := fun c hc => by
  rw [cz_app] at hc
  rcases List.mem_append.mp hc with hc | hc
  · exact h c hc
  · exact g c hc
theorem len_app (x y : Str) : (x ++ y).length = x.length + y.length := by rw [cz_len, cz_len x, cz_len y, cz_app, List.length_append]
theorem Told.text {z : Str} (h : Told z) (hl : z.length ≤ 3000) : isText z = true := by
  unfold isText
  rw [decide_eq_true hl, Bool.true_and]
  exact List.all_eq_true.mpr h
theorem told_all {z : Str} (h : (cz z).all told = true) : Told z := List.all_eq_true.mp h
/-- the r-th sign of a written text -/
theorem sign_at (z : Str) (p : Nat → Bool) (n r : Nat) (h : r < n) (hn : ((cz z).length == n && (cz z).all p) = true) : ∃ c, (cz z)[r]? = some c ∧ p c = true := by
  simp only [Bool.and_eq_true, beq_iff_eq] at hn
  have hr : r < (cz z).length := by omega
  exact ⟨(cz z)[r], List.getElem?_eq_getElem hr, List.all_eq_true.mp hn.2 _ (List.getElem_mem hr)⟩
/-- the r-th of written values -/
theorem at_lit {α : Type} {xs : List α} {r : Nat} (h : r < xs.length) : ∃ v, atI xs (r : Int) = some v ∧ xs[r]? = some v ∧ v ∈ xs := ⟨xs[r], atI_nat (List.getElem?_eq_getElem h), List.getElem?_eq_getElem h, List.getElem_mem h⟩
theorem ones_len : ∀ cs : List Nat, ((cs.map fun c => (⟨#[c]⟩ : Str)).map (·.length)).sum = cs.length
  | [] => rfl
  | c :: cs => by
    rw [List.map_cons, List.map_cons, List.sum_cons, ones_len cs, List.length_cons]
    show 1 + cs.length = _
    omega
theorem ones_cz : ∀ cs : List Nat, ((cs.map fun c => (⟨#[c]⟩ : Str)).map cz).flatten = cs
  | [] => rfl
  | c :: cs => by
    rw [List.map_cons, List.map_cons, List.flatten_cons, ones_cz cs]
    rfl
theorem PK.ne {a D : Addr} {H H1 : Hp} (s : PK a H H1) (h : H1 D = none) : D ≠ a := by
  obtain ⟨xs, e, _⟩ := s.2
  exact (ne_of_none e h).symm
theorem PK.free {a D : Addr} {H H1 : Hp} (s : PK a H H1) (h : H1 D = none) : H D = none := by
  cases e : H D with
  | none => rfl
  | some u =>
    have := s.1 D u (s.ne h) e
    rw [h] at this
    cases this
theorem PK.mut {a D : Addr} {H H1 : Hp} {o : HO} (s : PK a H H1) (h : H D = none) (n : D ≠ a) : PK a H (upd H1 D o) := by
  refine ⟨fun b u hb e => ?_, ?_⟩
  · rw [upd_ne (ne_of_none e h)]
    exact s.1 b u hb e
  · obtain ⟨xs, e, r⟩ := s.2
    exact ⟨xs, by rw [upd_ne n.symm]; exact e, r⟩
theorem PK.refl {a : Addr} {H : Hp} (h : PoolAt H a) : PK a H H := ⟨Keep.refl, h⟩
/-- a sign within a word -/
def inWord (c : Nat) : Bool := told c && !K80M.ew c
def Word (z : Str) : Prop := K80M.Plain (cz z) ∧ Told z ∧ z.length ≤ 8
section
variable {P : Program} {w : World} {K : PySem.W.Frag} {mg : Str → Option Value} {base : Heap} {F C : Addr}
def spFar : Sp := fun vs H Q _ => ∃ (a : Addr) (m : Nat), vs = [.ref a, .int m] ∧ 0 < m ∧ PoolAt H a ∧ ∀ (r : Nat) H', r < m → PK a H H' → Q (.int r) H'
theorem ok_law_far (T : Txt K w mg F) (A : At K mg "_law_far" s_law_far) (C__law_pick : Cal P w K mg base CX0 1 "_law_pick" ["pool", "many"] spPick) : Cal P w K mg base CX0 2 "_law_far" ["pool", "many"] spFar := by
  refine A.ok sc_law_far (fun vs H Q E h => ?_) bd_law_far (fun f cdv A outer s H vs Q E hr h => ?_)
  · obtain ⟨a, m, rfl, _⟩ := h; rfl
  obtain ⟨a, m, rfl, hm, hp, hQ⟩ := h
  refine ⟨_, (pss_one (ps_ret (pe_op op_mod (pe_callTy call_int1 (by rfl) T.b_int boot_int (pa_cons (pe_op op_add (pe_op op_add (pe_op op_mul (pe_cal C__law_pick (hr.mono (by decide)) pass0 (pa_cons (pv 0) (pa_cons pe_int pa_nil))) pe_int) (pe_op op_mul (pe_cal C__law_pick (hr.mono (by decide)) pass0 (pa_cons (pv 0) (pa_cons pe_int pa_nil))) pe_int)) (pe_cal C__law_pick (hr.mono (by decide)) pass0 (pa_cons (pv 0) (pa_cons pe_int pa_nil)))) pa_nil)) (pv 1)))), ?_⟩
  refine ⟨_, rfl, a, 60, rfl, by decide, hp, fun r1 H1 h1 k1 => ⟨_, _, rfl, rfl, .inr ⟨by decide, by decide⟩, ?_⟩⟩
  refine ⟨_, rfl, a, 60, rfl, by decide, k1.2, fun r2 H2 h2 k2 => ⟨_, _, rfl, rfl, .inr ⟨by decide, by decide⟩, _, _, rfl, rfl, ?_⟩⟩
  refine ⟨_, rfl, a, 60, rfl, by decide, k2.2, fun r3 H3 h3 k3 => ⟨_, _, rfl, rfl, .inl ⟨_, rfl, _, rfl, _, _, rfl, rfl, (by show (0 : Int) < m; omega), ?_⟩⟩⟩
  have e : ((r1 : Int) * 3600 + (r2 : Int) * 60 + (r3 : Int)) % (m : Int) = (((r1 * 3600 + r2 * 60 + r3) % m : Nat) : Int) := by
    rw [Int.natCast_emod]
    congr 1
  show Q (.int (((r1 : Int) * 3600 + (r2 : Int) * 60 + (r3 : Int)) % (m : Int))) H3
  rw [e]
  exact hQ _ H3 (Nat.mod_lt _ hm) ((k1.trans k2).trans k3)
def spWord : Sp := fun vs H Q _ => ∃ a : Addr, vs = [.ref a] ∧ PoolAt H a ∧ ∀ z H', Word z → PK a H H' → Q (.str z) H'
theorem ok_law_word (T : Txt K w mg F) (A : At K mg "_law_word" s_law_word) (C__law_pick : Cal P w K mg base CX0 1 "_law_pick" ["pool", "many"] spPick) : Cal P w K mg base CX0 2 "_law_word" ["pool"] spWord := by
  refine A.ok sc_law_word (fun vs H Q E h => ?_) bd_law_word (fun f cdv A outer s H vs Q E hr h => ?_)
  · obtain ⟨a, rfl, _⟩ := h; rfl
  obtain ⟨a, rfl, hp, hQ⟩ := h
  refine ⟨_, (pss_cons (ps_set (i := 1) sc_law_word.nd rfl (Or.inl rfl) (pe_ix ix_str pe_str (pe_cal C__law_pick (hr.mono (by decide)) pass0 (pa_cons (pv 0) (pa_cons pe_int pa_nil))) (fun _ _ => rfl)))
      (pss_cons (ps_set (i := 2) sc_law_word.nd rfl (Or.inr rfl) (pe_op op_add_str (pe_op op_add_str (pe_op op_add_str pe_str pe_str) pe_str) pe_str))
      (pss_one (ps_ret (pe_op op_add_str (pv 1) (pe_join pe_str (pe_lc (own := [("k", 3)]) (g := gName 3) (tt := tYes) rfl sc_law_word.nd (pi_range1 rfl T.b_range (pa_cons (pe_ix ix_list (pe_lst (pa_cons pe_int (pa_cons pe_int (pa_cons pe_int (pa_cons pe_int (pa_cons pe_int (pa_cons pe_int pa_nil))))))) (pe_cal C__law_pick (hr.mono (by decide)) pass0 (pa_cons (pv 0) (pa_cons pe_int pa_nil))) (fun _ _ => rfl)) pa_nil)) (blkOk_by (own := [("k", 3)]) (N := N_law_word) (sc := defScope s_law_word) (by decide +kernel)) (fun _ _ _ _ _ => (pg_name (i := 3) sc_law_word.nd rfl (Or.inl rfl))) (fun _ _ _ _ _ => pts_nil) (fun _ _ _ _ _ => (pe_ix ix_str (pv 2) (pe_cal C__law_pick (hr.mono (by decide)) pass0 (pa_cons (pv 0) (pa_cons pe_int pa_nil))) (fun _ _ => rfl)))))))))), ?_⟩
  refine ⟨_, rfl, a, 17, rfl, by decide, hp, fun r1 H1 h1 k1 => ?_⟩
  obtain ⟨c1, hc1, p1⟩ := sign_at "abkz09#-.:&<Q~=({" (fun c => inWord c && decide (c ≠ 39)) 17 r1 h1 (by decide +kernel)
  simp only [Bool.and_eq_true, decide_eq_true_eq] at p1
  refine ⟨_, r1, c1, rfl, rfl, by decide +kernel, atI_nat hc1, ?_⟩
  refine ⟨_, _, rfl, rfl, by decide +kernel, _, _, rfl, rfl, by decide +kernel, _, _, rfl, rfl, by decide +kernel, ?_⟩
  refine ⟨_, rfl, ⟨_, rfl⟩, by show 6 ≤ sizeLine; decide, fun l hl => ⟨_, rfl, a, 6, rfl, by decide, k1.2.same (Same.new hl), fun r2 H2 h2 k2 => ?_⟩⟩
  have hla := k1.ne hl
  obtain ⟨v, hv, _, hm⟩ := at_lit (xs := [V.int 0, V.int 0, V.int 1, V.int 2, V.int 4, V.int 7]) h2
  refine ⟨l, _, _, _, rfl, rfl, SqL.of (k2.1 l _ hla upd_same), hv, ?_⟩
  obtain ⟨n, rfl, hn⟩ : ∃ n : Nat, v = .int n ∧ n ≤ 7 := by
    simp only [List.mem_cons, List.not_mem_nil, or_false] at hm
    rcases hm with rfl | rfl | rfl | rfl | rfl | rfl
    · exact ⟨0, rfl, by decide⟩
    · exact ⟨0, rfl, by decide⟩
    · exact ⟨1, rfl, by decide⟩
    · exact ⟨2, rfl, by decide⟩
    · exact ⟨4, rfl, by decide⟩
    · exact ⟨7, rfl, by decide⟩
  refine ⟨n, rfl, by omega, by omega, fun D hD => ?_⟩
  have k02 : PK a H H2 := (k1.new hl).trans k2
  have hDa := k02.ne hD
  have hD0 := k02.free hD
  refine lc_it walk_range (fun i H' => PK a H H' ∧ ∃ cs : List Nat, H' D = some (.lst ((cs.map fun c => (⟨#[c]⟩ : Str)).map V.str)) ∧ cs.length = i ∧ cs.all inWord = true) ⟨k02.new hD, [], upd_same, rfl, rfl⟩ (fun _ _ _ _ => trivial) (fun i x H3 H4 hi q y => ?_) (fun H3 q => ?_)
  · obtain ⟨k3, cs, hd, hl2, ha⟩ := q
    obtain ⟨rfl, rfl⟩ := y
    have hi : i < n := hi
    refine ⟨rfl, _, rfl, _, rfl, a, 21, rfl, by decide, k3.2, fun r H5 h5 k5 => ?_⟩
    obtain ⟨c, hc, p⟩ := sign_at ("abkz09#-.:&<Q~=({" ++ "''" ++ "\"" ++ "\\") inWord 21 r h5 (by decide +kernel)
    refine ⟨_, r, c, rfl, rfl, by decide +kernel, atI_nat hc, _, k5.1 D _ hDa hd, line5 (by rw [List.length_map, List.length_map]; omega), (k3.trans k5).mut hD0 hDa, cs ++ [c], ?_, ?_, ?_⟩
    · rw [upd_same, List.map_append, List.map_append]; rfl
    · rw [List.length_append, hl2]; rfl
    · rw [List.all_append, ha]
      show (inWord c && true) = true
      rw [p]; rfl
  · obtain ⟨k3, cs, hd, hl2, ha⟩ := q
    have hl2 : cs.length = n := hl2
    refine ⟨_, D, _, rfl, rfl, .inl (SqL.of hd), ?_, _, _, rfl, rfl, ?_, hQ _ H3 ⟨?_, ?_, ?_⟩ k3⟩
    · rw [ones_len, List.length_map, show ("" : Str).length = 0 by decide +kernel]; omega
    · rw [cz_len (Txt.join _ _), join_nil_cz, ones_cz]
      exact Nat.le_of_lt (line5 (by show 1 + cs.length ≤ _; omega))
    · rw [cz_app, join_nil_cz, ones_cz]
      have p1' := p1.1
      unfold inWord at p1'
      simp only [Bool.and_eq_true, Bool.not_eq_true'] at p1'
      refine ⟨by simp, ?_, fun c hc => ?_⟩
      · show some c1 ≠ some 39
        exact fun e => p1.2 (Option.some.inj e)
      · rcases List.mem_append.mp hc with hc | hc
        · have : c = c1 := by simpa using hc
          rw [this]; exact p1'.2
        · have := List.all_eq_true.mp ha c hc
          unfold inWord at this
          simp only [Bool.and_eq_true, Bool.not_eq_true'] at this
          exact this.2
    · refine Told.app (fun c hc => ?_) fun c hc => ?_
      · have p1' := p1.1
        unfold inWord at p1'
        simp only [Bool.and_eq_true, Bool.not_eq_true'] at p1'
        have : c = c1 := by simpa using hc
        rw [this]; exact p1'.1
      · rw [join_nil_cz, ones_cz] at hc
        have := List.all_eq_true.mp ha c hc
        unfold inWord at this
        simp only [Bool.and_eq_true, Bool.not_eq_true'] at this
        exact this.1
    · rw [len_app, cz_len (Txt.join _ _), join_nil_cz, ones_cz]
      show 1 + cs.length ≤ 8
      omega
end
end K80

set_option Elab.async false
set_option linter.all false
set_option maxRecDepth 100000
set_option maxHeartbeats 4000000
/-! law k80: names, targets, last words, parts as they are drawn -/
namespace K80
open PySem PySem.Spec PyProof.Rows L2
open K80M (Wd Part)
def Short (z : Str) : Prop := Told z ∧ z.length ≤ 26
theorem Word.short {z : Str} (h : Word z) : Short z := ⟨h.2.1, by have := h.2.2; omega⟩
theorem lit_short {z : Str} (h : ((cz z).all told && decide (z.length ≤ 26)) = true) : Short z := by
  simp only [Bool.and_eq_true, decide_eq_true_eq] at h
  exact ⟨told_all h.1, h.2⟩
theorem lit_set : Short "set" := lit_short (by decide +kernel)
theorem lit_say : Short "say" := lit_short (by decide +kernel)
theorem lit_drop : Short "drop" := lit_short (by decide +kernel)
theorem lit_add : Short "add" := lit_short (by decide +kernel)
theorem lit_cut : Short "cut" := lit_short (by decide +kernel)
theorem lit_flip : Short "flip" := lit_short (by decide +kernel)
theorem lit_take : Short "take" := lit_short (by decide +kernel)
theorem lit_go : Short "go" := lit_short (by decide +kernel)
theorem lit_focus : Short "focus" := lit_short (by decide +kernel)
theorem lit_stop : Short "stop" := lit_short (by decide +kernel)
theorem lit_leave : Short "leave" := lit_short (by decide +kernel)
theorem e_set : cz "set" = K80M.cp "set" := by decide +kernel
theorem e_say : cz "say" = K80M.cp "say" := by decide +kernel
theorem e_drop : cz "drop" = K80M.cp "drop" := by decide +kernel
theorem e_add : cz "add" = K80M.cp "add" := by decide +kernel
theorem e_cut : cz "cut" = K80M.cp "cut" := by decide +kernel
theorem e_flip : cz "flip" = K80M.cp "flip" := by decide +kernel
theorem e_take : cz "take" = K80M.cp "take" := by decide +kernel
theorem e_go : cz "go" = K80M.cp "go" := by decide +kernel
theorem e_focus : cz "focus" = K80M.cp "focus" := by decide +kernel
theorem e_stop : cz "stop" = K80M.cp "stop" := by decide +kernel
theorem e_leave : cz "leave" = K80M.cp "leave" := by decide +kernel
/-- words of a right part, at v, which is not the pool -/
def WordsAt (a : Addr) (H : Hp) (v : V) (zs : List Str) : Prop := ∃ b, v = .ref b ∧ b ≠ a ∧ H b = some (.lst (zs.map V.str))
theorem WordsAt.pk {a : Addr} {H H' : Hp} {v : V} {zs : List Str} (h : WordsAt a H v zs) (k : PK a H H') : WordsAt a H' v zs := by
  obtain ⟨b, e, n, h⟩ := h
  exact ⟨b, e, n, k.1 b _ n h⟩
structure GoodPart (zs : List Str) : Prop where
  right : K80M.Right (zs.map cz)
  short : ∀ z ∈ zs, Short z
def RowOk (a : Addr) (H : Hp) (v : V) : Prop := ∃ zs, WordsAt a H v zs ∧ GoodPart zs
theorem RowOk.pk {a : Addr} {H H' : Hp} {v : V} (h : RowOk a H v) (k : PK a H H') : RowOk a H' v := by
  obtain ⟨zs, h, g⟩ := h
  exact ⟨zs, h.pk k, g⟩
theorem rowOk_mk {a p : Addr} {H0 H : Hp} {zs : List Str} (hp : H p = none) (ka : PK a H0 H) (r : K80M.Right (zs.map cz)) (t : ∀ z ∈ zs, Short z) : RowOk a (upd H p (.lst (zs.map V.str))) (.ref p) :=
  ⟨zs, ⟨p, rfl, ka.ne hp, upd_same⟩, ⟨r, t⟩⟩
def ListAt (a : Addr) (H : Hp) (p : Addr) (xs : List V) : Prop := p ≠ a ∧ H p = some (.lst xs)
theorem ListAt.pk {a : Addr} {H H' : Hp} {p : Addr} {xs : List V} (h : ListAt a H p xs) (k : PK a H H') : ListAt a H' p xs := ⟨h.1, k.1 p _ h.1 h.2⟩
theorem listAt_mk {a p : Addr} {H0 H : Hp} {xs : List V} (hp : H p = none) (ka : PK a H0 H) : ListAt a (upd H p (.lst xs)) p xs := ⟨ka.ne hp, upd_same⟩
section
variable {P : Program} {w : World} {K : PySem.W.Frag} {mg : Str → Option Value} {base : Heap} {F C : Addr}
def spName : Sp := fun vs H Q _ => ∃ a : Addr, vs = [.ref a] ∧ PoolAt H a ∧ ∀ z H', K80M.Nm (cz z) ∧ Short z → PK a H H' → Q (.str z) H'
theorem ok_law_name (T : Txt K w mg F) (A : At K mg "_law_name" s_law_name) (C__law_pick : Cal P w K mg base CX0 1 "_law_pick" ["pool", "many"] spPick) : Cal P w K mg base CX0 2 "_law_name" ["pool"] spName := by
  refine A.ok sc_law_name (fun vs H Q E h => ?_) bd_law_name (fun f cdv A outer s H vs Q E hr h => ?_)
  · obtain ⟨a, rfl, _⟩ := h; rfl
  obtain ⟨a, rfl, hp, hQ⟩ := h
  refine ⟨_, (pss_cons (ps_set (i := 1) sc_law_name.nd rfl (Or.inr rfl) pe_str)
      (pss_cons (ps_set (i := 2) sc_law_name.nd rfl (Or.inl rfl) (pe_ix ix_list (pe_lst (pa_cons pe_int (pa_cons pe_int (pa_cons pe_int (pa_cons pe_int (pa_cons pe_int pa_nil)))))) (pe_cal C__law_pick (hr.mono (by decide)) pass0 (pa_cons (pv 0) (pa_cons pe_int pa_nil))) (fun _ _ => rfl)))
      (pss_one (ps_ret (pe_op op_add_str (pe_ix ix_str (pv 1) (pe_cal C__law_pick (hr.mono (by decide)) pass0 (pa_cons (pv 0) (pa_cons pe_int pa_nil))) (fun _ _ => rfl)) (pe_join pe_str (pe_lc (own := [("k", 3)]) (g := gName 3) (tt := tYes) rfl sc_law_name.nd (pi_range1 rfl T.b_range (pa_cons (pv 2) pa_nil)) (blkOk_by (own := [("k", 3)]) (N := N_law_name) (sc := defScope s_law_name) (by decide +kernel)) (fun _ _ _ _ _ => (pg_name (i := 3) sc_law_name.nd rfl (Or.inl rfl))) (fun _ _ _ _ _ => pts_nil) (fun _ _ _ _ _ => (pe_ix ix_str (pv 1) (pe_cal C__law_pick (hr.mono (by decide)) pass0 (pa_cons (pv 0) (pa_cons pe_int pa_nil))) (fun _ _ => rfl)))))))))), ?_⟩
  refine ⟨by show 5 ≤ sizeLine; decide, fun l hl => ⟨_, rfl, a, 5, rfl, by decide, hp.same (Same.new hl), fun r2 H2 h2 k2 => ?_⟩⟩
  have k0 := (PK.refl hp).new (o := .lst [V.int 0, V.int 1, V.int 2, V.int 8, V.int 9]) hl
  have hla := (PK.refl hp).ne hl
  obtain ⟨v, hv, _, hm⟩ := at_lit (xs := [V.int 0, V.int 1, V.int 2, V.int 8, V.int 9]) h2
  refine ⟨l, _, _, _, rfl, rfl, SqL.of (k2.1 l _ hla upd_same), hv, ?_⟩
  obtain ⟨n, rfl, hn⟩ : ∃ n : Nat, v = .int n ∧ n ≤ 9 := by
    simp only [List.mem_cons, List.not_mem_nil, or_false] at hm
    rcases hm with rfl | rfl | rfl | rfl | rfl
    · exact ⟨0, rfl, by decide⟩
    · exact ⟨1, rfl, by decide⟩
    · exact ⟨2, rfl, by decide⟩
    · exact ⟨8, rfl, by decide⟩
    · exact ⟨9, rfl, by decide⟩
  have k02 : PK a H H2 := k0.trans k2
  refine ⟨_, rfl, _, rfl, a, 6, rfl, by decide, k02.2, fun r1 H1 h1 k1 => ?_⟩
  obtain ⟨c1, hc1, p1⟩ : ∃ c, (cz "abcxyz019-")[r1]? = some c ∧ (decide (c ∈ K80M.letters) && told c) = true := by
    have e : cz "abcxyz019-" = [97, 98, 99, 120, 121, 122, 48, 49, 57, 45] := by decide +kernel
    rw [e]
    match r1, h1 with
    | 0, _ => exact ⟨97, rfl, by decide +kernel⟩
    | 1, _ => exact ⟨98, rfl, by decide +kernel⟩
    | 2, _ => exact ⟨99, rfl, by decide +kernel⟩
    | 3, _ => exact ⟨120, rfl, by decide +kernel⟩
    | 4, _ => exact ⟨121, rfl, by decide +kernel⟩
    | 5, _ => exact ⟨122, rfl, by decide +kernel⟩
    | r + 6, h => omega
  simp only [Bool.and_eq_true, decide_eq_true_eq] at p1
  refine ⟨_, r1, c1, rfl, rfl, by decide +kernel, atI_nat hc1, ⟨_, rfl⟩, _, rfl, n, rfl, by omega, by omega, fun D hD => ?_⟩
  have k03 := k02.trans k1
  have hDa := k03.ne hD
  have hD0 := k03.free hD
  refine lc_it walk_range (fun i H' => PK a H H' ∧ ∃ cs : List Nat, H' D = some (.lst ((cs.map fun c => (⟨#[c]⟩ : Str)).map V.str)) ∧ cs.length = i ∧ cs.all (fun c => decide (c ∈ K80M.nameSigns) && told c) = true) ⟨k03.new hD, [], upd_same, rfl, rfl⟩ (fun _ _ _ _ => trivial) (fun i x H3 H4 hi q y => ?_) (fun H3 q => ?_)
  · obtain ⟨k3, cs, hd, hl2, ha⟩ := q
    obtain ⟨rfl, rfl⟩ := y
    have hi : i < n := hi
    refine ⟨rfl, _, rfl, _, rfl, a, 10, rfl, by decide, k3.2, fun r H5 h5 k5 => ?_⟩
    obtain ⟨c, hc, p⟩ := sign_at "abcxyz019-" (fun c => decide (c ∈ K80M.nameSigns) && told c) 10 r h5 (by decide +kernel)
    refine ⟨_, r, c, rfl, rfl, by decide +kernel, atI_nat hc, _, k5.1 D _ hDa hd, line5 (by rw [List.length_map, List.length_map]; omega), (k3.trans k5).mut hD0 hDa, cs ++ [c], ?_, ?_, ?_⟩
    · rw [upd_same, List.map_append, List.map_append]; rfl
    · rw [List.length_append, hl2]; rfl
    · rw [List.all_append, ha]
      show ((decide (c ∈ K80M.nameSigns) && told c) && true) = true
      rw [p]; rfl
  · obtain ⟨k3, cs, hd, hl2, ha⟩ := q
    have hl2 : cs.length = n := hl2
    have e : cz ((⟨#[c1]⟩ : Str) ++ Txt.join "" (cs.map fun c => (⟨#[c]⟩ : Str))) = c1 :: cs := by rw [cz_app, join_nil_cz, ones_cz]; rfl
    have ha' : ∀ c ∈ cs, c ∈ K80M.nameSigns ∧ told c = true := fun c hc => by
      have := List.all_eq_true.mp ha c hc
      simpa only [Bool.and_eq_true, decide_eq_true_eq] using this
    have sub : ∀ c ∈ K80M.letters, c ∈ K80M.nameSigns := by decide
    refine ⟨_, D, _, rfl, rfl, .inl (SqL.of hd), ?_, _, _, rfl, rfl, ?_, hQ _ H3 ⟨?_, ?_, ?_⟩ k3⟩
    · rw [ones_len, List.length_map, show ("" : Str).length = 0 by decide +kernel]; omega
    · rw [cz_len (Txt.join _ _), join_nil_cz, ones_cz]
      exact Nat.le_of_lt (line5 (by show 1 + cs.length ≤ _; omega))
    · rw [e]
      unfold K80M.Nm K80M.isName
      simp only [Bool.and_eq_true, decide_eq_true_eq, List.all_eq_true]
      refine ⟨⟨⟨by simp, by simp; omega⟩, p1.1⟩, fun c hc => ?_⟩
      rcases List.mem_cons.mp hc with rfl | hc
      · exact sub _ p1.1
      · exact (ha' c hc).1
    · intro c hc
      rw [e] at hc
      rcases List.mem_cons.mp hc with rfl | hc
      · exact p1.2
      · exact (ha' c hc).2
    · rw [cz_len, e]
      show cs.length + 1 ≤ 26
      omega
def Tg (z : Str) : Prop := K80M.Tgt (cz z) ∧ Short z
def spTarget : Sp := fun vs H Q _ => ∃ a : Addr, vs = [.ref a] ∧ PoolAt H a ∧ ∀ z H', Tg z → PK a H H' → Q (.str z) H'
theorem tg_lit {z : Str} (h : ((cz z).isEmpty == false && (decide ((cz z).head? ≠ some 39) && ((cz z).all fun c => !K80M.ew c)) && K80M.isTgt (cz z)) = true) (s : Short z) : Tg z := by
  simp only [Bool.and_eq_true, decide_eq_true_eq, beq_iff_eq] at h
  refine ⟨⟨K80M.plain_of (fun e => ?_) h.1.2.1 h.1.2.2, h.2⟩, s⟩
  have := h.1.1
  rw [e] at this
  cases this
theorem ok_law_target (T : Txt K w mg F) (A : At K mg "_law_target" s_law_target) (C__law_pick : Cal P w K mg base CX0 1 "_law_pick" ["pool", "many"] spPick) (C__law_word : Cal P w K mg base CX0 2 "_law_word" ["pool"] spWord) :
    Cal P w K mg base CX0 3 "_law_target" ["pool"] spTarget := by
  refine A.ok sc_law_target (fun vs H Q E h => ?_) bd_law_target (fun f cdv A outer s H vs Q E hr h => ?_)
  · obtain ⟨a, rfl, _⟩ := h; rfl
  obtain ⟨a, rfl, hp, hQ⟩ := h
  refine ⟨_, (pss_one (ps_ret (pe_ix ix_list (pe_lst (pa_cons pe_str (pa_cons pe_str (pa_cons pe_str (pa_cons pe_str (pa_cons pe_str (pa_cons pe_str (pa_cons (pe_op op_add_str pe_str (pe_cal C__law_word (hr.mono (by decide)) pass0 (pa_cons (pv 0) pa_nil))) pa_nil)))))))) (pe_cal C__law_pick (hr.mono (by decide)) pass0 (pa_cons (pv 0) (pa_cons pe_int pa_nil))) (fun _ _ => rfl)))), ?_⟩
  refine ⟨_, rfl, a, rfl, hp, fun z H1 hz k1 => ?_⟩
  refine ⟨_, _, rfl, rfl, Nat.le_of_lt (line5 ?_), by show 7 ≤ sizeLine; decide, fun l hl => ⟨_, rfl, a, 7, rfl, by decide, k1.2.same (Same.new hl), fun r2 H2 h2 k2 => ?_⟩⟩
  · have := hz.2.2
    rw [show ("#" : Str).length = 1 by decide +kernel]
    omega
  have e35 : cz "#" = [35] := by decide +kernel
  have k02 := (k1.new hl).trans k2
  obtain ⟨v, hv, _, hm⟩ := at_lit (xs := [V.str "self", V.str "self", V.str "#a", V.str "#self", V.str "##", V.str "#'", V.str ("#" ++ z)]) h2
  refine ⟨l, _, _, _, rfl, rfl, SqL.of (k2.1 l _ (k1.ne hl) upd_same), hv, ?_⟩
  obtain ⟨y, rfl, hy⟩ : ∃ y, v = .str y ∧ Tg y := by
    simp only [List.mem_cons, List.not_mem_nil, or_false] at hm
    rcases hm with rfl | rfl | rfl | rfl | rfl | rfl | rfl
    · exact ⟨_, rfl, tg_lit (by decide +kernel) (lit_short (by decide +kernel))⟩
    · exact ⟨_, rfl, tg_lit (by decide +kernel) (lit_short (by decide +kernel))⟩
    · exact ⟨_, rfl, tg_lit (by decide +kernel) (lit_short (by decide +kernel))⟩
    · exact ⟨_, rfl, tg_lit (by decide +kernel) (lit_short (by decide +kernel))⟩
    · exact ⟨_, rfl, tg_lit (by decide +kernel) (lit_short (by decide +kernel))⟩
    · exact ⟨_, rfl, tg_lit (by decide +kernel) (lit_short (by decide +kernel))⟩
    · refine ⟨_, rfl, ⟨⟨?_, ?_, ?_⟩, ?_⟩, Told.app (told_all (by decide +kernel)) hz.2.1, ?_⟩
      · rw [cz_app, e35]; simp
      · rw [cz_app, e35]; simp
      · rw [cz_app, e35]
        intro c hc
        rcases List.mem_append.mp hc with hc | hc
        · have : c = 35 := by simpa using hc
          rw [this]; decide
        · exact hz.1.2.2 c hc
      · rw [cz_app, e35]
        unfold K80M.isTgt
        have : 1 ≤ (cz z).length := List.length_pos_iff.mpr hz.1.1
        simp only [List.singleton_append, List.head?_cons, List.length_cons, decide_true, Bool.true_and, Bool.or_eq_true, decide_eq_true_eq]
        exact .inr (by omega)
      · rw [len_app, show ("#" : Str).length = 1 by decide +kernel]
        have := hz.2.2
        omega
  exact hQ _ H2 hy k02
def Lst (z : Str) : Prop := K80M.Raw (cz z) ∧ Short z
def spLast : Sp := fun vs H Q _ => ∃ a : Addr, vs = [.ref a] ∧ PoolAt H a ∧ ∀ z H', Lst z → PK a H H' → Q (.str z) H'
theorem ok_law_last (T : Txt K w mg F) (A : At K mg "_law_last" s_law_last) (C__law_pick : Cal P w K mg base CX0 1 "_law_pick" ["pool", "many"] spPick) (C__law_word : Cal P w K mg base CX0 2 "_law_word" ["pool"] spWord) :
    Cal P w K mg base CX0 3 "_law_last" ["pool"] spLast := by
  refine A.ok sc_law_last (fun vs H Q E h => ?_) bd_law_last (fun f cdv A outer s H vs Q E hr h => ?_)
  · obtain ⟨a, rfl, _⟩ := h; rfl
  obtain ⟨a, rfl, hp, hQ⟩ := h
  refine ⟨_, (pss_cons (ps_if (pt_cmpR op_eq (pe_cal C__law_pick (hr.mono (by decide)) pass0 (pa_cons (pv 0) (pa_cons pe_int pa_nil))) pe_int (nomark _)) (pss_one (ps_ret (pe_cal C__law_word (hr.mono (by decide)) pass0 (pa_cons (pv 0) pa_nil)))) pss_nil)
      (pss_cons (ps_set (i := 1) sc_law_last.nd rfl (Or.inr rfl) (pe_lst (pa_cons pe_str (pa_cons pe_str (pa_cons pe_str (pa_cons pe_str (pa_cons pe_str (pa_cons pe_str (pa_cons pe_str (pa_cons pe_str pa_nil))))))))))
      (pss_one (ps_ret (pe_op op_add_str (pe_op op_add_str pe_str (pe_join pe_str (pe_lc (own := [("k", 2)]) (g := gName 2) (tt := tYes) (te := tOp (rIxL K) (tVar 1) (tCall spPick [] E0 (tCons (tVar 0) (tCons (tC (.int 8)) tNil)))) rfl sc_law_last.nd (pi_range1 rfl T.b_range (pa_cons (pe_cal C__law_pick (hr.mono (by decide)) pass0 (pa_cons (pv 0) (pa_cons pe_int pa_nil))) pa_nil)) (blkOk_by (own := [("k", 2)]) (N := N_law_last) (sc := defScope s_law_last) (by decide +kernel)) (fun _ _ _ _ _ => (pg_name (i := 2) sc_law_last.nd rfl (Or.inl rfl))) (fun _ _ _ _ _ => pts_nil) (fun _ _ _ _ _ => (pe_ix ix_list (pv 1) (pe_cal C__law_pick (hr.mono (by decide)) pass0 (pa_cons (pv 0) (pa_cons pe_int pa_nil))) (fun _ _ => rfl)))))) pe_str))))), ?_⟩
  refine ⟨_, rfl, a, 2, rfl, by decide, hp, fun r1 H1 h1 k1 => ⟨rfl, _, rfl, ifB (fun _ => ?_) fun _ => ?_⟩⟩
  · exact ⟨_, rfl, a, rfl, k1.2, fun z H2 hz k2 => hQ z H2 ⟨.inl hz.1, hz.short⟩ (k1.trans k2)⟩
  refine ⟨by show 8 ≤ sizeLine; decide, fun l hl => ?_⟩
  have hla := k1.ne hl
  have k01 := k1.new (o := .lst [V.str " ", V.str ";", V.str "\n", V.str "a", V.str "#", V.str "stop", V.str "; leave;", V.str "\""]) hl
  have hl1 := @upd_same H1 l (.lst [V.str " ", V.str ";", V.str "\n", V.str "a", V.str "#", V.str "stop", V.str "; leave;", V.str "\""])
  refine ⟨⟨_, rfl⟩, _, rfl, a, 4, rfl, by decide, k01.2, fun n H2 h2 k2 => ⟨n, rfl, by omega, by omega, fun D hD => ?_⟩⟩
  have k02 := k01.trans k2
  have hl2 := k2.1 l _ hla hl1
  have hDa := k02.ne hD
  have hD0 := k02.free hD
  have hDl : l ≠ D := ne_of_none hl2 hD
  refine lc_it walk_range (fun i H' => PK a H H' ∧ H' l = some (.lst [V.str " ", V.str ";", V.str "\n", V.str "a", V.str "#", V.str "stop", V.str "; leave;", V.str "\""]) ∧ ∃ ys : List Str, H' D = some (.lst (ys.map V.str)) ∧ ys.length = i ∧ ∀ y ∈ ys, Told y ∧ 39 ∉ cz y ∧ y.length ≤ 8)
    ⟨k02.new hD, by rw [upd_ne hDl]; exact hl2, [], upd_same, rfl, fun _ h => by cases h⟩ (fun _ _ _ _ => trivial) (fun i x H3 H4 hi q y => ?_) (fun H3 q => ?_)
  · obtain ⟨k3, hl3, ys, hd, hn, ha⟩ := q
    obtain ⟨rfl, rfl⟩ := y
    have hi : i < n := hi
    refine ⟨rfl, _, rfl, _, rfl, a, 8, rfl, by decide, k3.2, fun r H5 h5 k5 => ?_⟩
    obtain ⟨v, hv, _, hm⟩ := at_lit (xs := [V.str " ", V.str ";", V.str "\n", V.str "a", V.str "#", V.str "stop", V.str "; leave;", V.str "\""]) h5
    obtain ⟨y, rfl, hy⟩ : ∃ y, v = .str y ∧ ((cz y).all told && (decide (39 ∉ cz y) && decide (y.length ≤ 8))) = true := by
      simp only [List.mem_cons, List.not_mem_nil, or_false] at hm
      rcases hm with rfl | rfl | rfl | rfl | rfl | rfl | rfl | rfl
      all_goals exact ⟨_, rfl, by decide +kernel⟩
    simp only [Bool.and_eq_true, decide_eq_true_eq] at hy
    have hl5 := k5.1 l _ hla hl3
    refine ⟨l, _, _, _, rfl, rfl, SqL.of hl5, hv, _, k5.1 D _ hDa hd, line5 (by rw [List.length_map]; omega), (k3.trans k5).mut hD0 hDa, by rw [upd_ne hDl]; exact hl5, ys ++ [y], ?_, ?_, fun u hu => ?_⟩
    · rw [upd_same, List.map_append]; rfl
    · rw [List.length_append, hn]; rfl
    · rcases List.mem_append.mp hu with hu | hu
      · exact ha u hu
      · have : u = y := by simpa using hu
        rw [this]; exact ⟨told_all hy.1, hy.2.1, hy.2.2⟩
  · obtain ⟨k3, hl3, ys, hd, hn, ha⟩ := q
    have hn : ys.length = n := hn
    have sum : ∀ ys : List Str, (∀ y ∈ ys, Told y ∧ 39 ∉ cz y ∧ y.length ≤ 8) → (ys.map (·.length)).sum ≤ 8 * ys.length ∧ ((ys.map cz).flatten).length ≤ 8 * ys.length ∧ 39 ∉ (ys.map cz).flatten ∧ ∀ c ∈ (ys.map cz).flatten, told c = true := by
      intro ys
      induction ys with
      | nil => intro _; exact ⟨Nat.le_refl _, Nat.le_refl _, by simp, by simp⟩
      | cons y ys ih =>
        intro h
        obtain ⟨i1, i2, i3, i4⟩ := ih fun u hu => h u (by simp [hu])
        obtain ⟨j1, j2, j3⟩ := h y (by simp)
        have := cz_len y
        refine ⟨?_, ?_, ?_, ?_⟩
        · simp only [List.map_cons, List.sum_cons, List.length_cons]; omega
        · simp only [List.map_cons, List.flatten_cons, List.length_append, List.length_cons]; omega
        · simp only [List.map_cons, List.flatten_cons, List.mem_append, not_or]; exact ⟨j2, i3⟩
        · intro c hc
          simp only [List.map_cons, List.flatten_cons, List.mem_append] at hc
          rcases hc with hc | hc
          · exact j1 c hc
          · exact i4 c hc
    obtain ⟨q1, q2, q3, q4⟩ := sum ys ha
    have ej : (Txt.join "" ys).length ≤ 24 := by rw [cz_len, join_nil_cz]; omega
    have eq1 : ("'" : Str).length = 1 := by decide +kernel
    refine ⟨_, D, ys, rfl, rfl, .inl (SqL.of hd), ?_, _, _, rfl, rfl, Nat.le_of_lt (line5 (by omega)), _, _, rfl, rfl, Nat.le_of_lt (line5 (by rw [len_app]; omega)), hQ _ H3 ⟨.inr ⟨(ys.map cz).flatten, ?_, q3⟩, ?_, ?_⟩ k3⟩
    · rw [show ("" : Str).length = 0 by decide +kernel]; omega
    · rw [cz_app, cz_app, join_nil_cz, cz_39]; simp
    · refine Told.app (Told.app (told_all (by decide +kernel)) fun c hc => ?_) (told_all (by decide +kernel))
      rw [join_nil_cz] at hc
      exact q4 c hc
    · rw [len_app, len_app]; omega
def spPart : Sp := fun vs H Q _ => ∃ a : Addr, vs = [.ref a] ∧ PoolAt H a ∧ ∀ v H', RowOk a H' v → PK a H H' → Q v H'
theorem ok_law_part (T : Txt K w mg F) (A : At K mg "_law_part" s_law_part) (C__law_pick : Cal P w K mg base CX0 1 "_law_pick" ["pool", "many"] spPick) (C__law_word : Cal P w K mg base CX0 2 "_law_word" ["pool"] spWord)
    (C__law_name : Cal P w K mg base CX0 2 "_law_name" ["pool"] spName) (C__law_target : Cal P w K mg base CX0 3 "_law_target" ["pool"] spTarget) (C__law_last : Cal P w K mg base CX0 3 "_law_last" ["pool"] spLast) :
    Cal P w K mg base CX0 4 "_law_part" ["pool"] spPart := by
  refine A.ok sc_law_part (fun vs H Q E h => ?_) bd_law_part (fun f cdv A outer s H vs Q E hr h => ?_)
  · obtain ⟨a, rfl, _⟩ := h; rfl
  obtain ⟨a, rfl, hp, hQ⟩ := h
  refine ⟨_, (pss_cons (ps_set (i := 1) sc_law_part.nd rfl (Or.inl rfl) (pe_cal C__law_pick (hr.mono (by decide)) pass0 (pa_cons (pv 0) (pa_cons pe_int pa_nil))))
      (pss_cons (ps_set (i := 2) sc_law_part.nd rfl (Or.inl rfl) (pe_lst (pa_cons (pe_lst (pa_cons pe_str (pa_cons (pe_cal C__law_target (hr.mono (by decide)) pass0 (pa_cons (pv 0) pa_nil)) (pa_cons (pe_cal C__law_name (hr.mono (by decide)) pass0 (pa_cons (pv 0) pa_nil)) (pa_cons (pe_cal C__law_last (hr.mono (by decide)) pass0 (pa_cons (pv 0) pa_nil)) pa_nil))))) (pa_cons (pe_lst (pa_cons pe_str (pa_cons (pe_cal C__law_target (hr.mono (by decide)) pass0 (pa_cons (pv 0) pa_nil)) (pa_cons (pe_cal C__law_last (hr.mono (by decide)) pass0 (pa_cons (pv 0) pa_nil)) pa_nil)))) pa_nil))))
      (pss_cons (ps_set (i := 2) sc_law_part.nd rfl (Or.inl rfl) (pe_op op_cat (pv 2) (pe_lst (pa_cons (pe_lst (pa_cons pe_str (pa_cons (pe_cal C__law_target (hr.mono (by decide)) pass0 (pa_cons (pv 0) pa_nil)) (pa_cons (pe_cal C__law_name (hr.mono (by decide)) pass0 (pa_cons (pv 0) pa_nil)) pa_nil)))) (pa_cons (pe_lst (pa_cons pe_str (pa_cons (pe_cal C__law_target (hr.mono (by decide)) pass0 (pa_cons (pv 0) pa_nil)) (pa_cons (pe_cal C__law_word (hr.mono (by decide)) pass0 (pa_cons (pv 0) pa_nil)) pa_nil)))) (pa_cons (pe_lst (pa_cons pe_str (pa_cons (pe_cal C__law_target (hr.mono (by decide)) pass0 (pa_cons (pv 0) pa_nil)) (pa_cons (pe_cal C__law_word (hr.mono (by decide)) pass0 (pa_cons (pv 0) pa_nil)) pa_nil)))) pa_nil))))))
      (pss_cons (ps_set (i := 2) sc_law_part.nd rfl (Or.inl rfl) (pe_op op_cat (pv 2) (pe_lst (pa_cons (pe_lst (pa_cons pe_str (pa_cons (pe_cal C__law_target (hr.mono (by decide)) pass0 (pa_cons (pv 0) pa_nil)) (pa_cons (pe_cal C__law_word (hr.mono (by decide)) pass0 (pa_cons (pv 0) pa_nil)) pa_nil)))) (pa_cons (pe_lst (pa_cons pe_str (pa_cons (pe_cal C__law_target (hr.mono (by decide)) pass0 (pa_cons (pv 0) pa_nil)) pa_nil))) (pa_cons (pe_lst (pa_cons pe_str (pa_cons (pe_cal C__law_word (hr.mono (by decide)) pass0 (pa_cons (pv 0) pa_nil)) pa_nil))) (pa_cons (pe_lst (pa_cons pe_str (pa_cons (pe_cal C__law_target (hr.mono (by decide)) pass0 (pa_cons (pv 0) pa_nil)) pa_nil))) pa_nil)))))))
      (pss_one (ps_ret (pe_ix ix_list (pe_op op_cat (pv 2) (pe_lst (pa_cons (pe_lst (pa_cons pe_str pa_nil)) (pa_cons (pe_lst (pa_cons pe_str pa_nil)) pa_nil)))) (pv 1) (fun _ _ => rfl)))))))), ?_⟩
  refine ⟨_, rfl, a, 11, rfl, by decide, hp, fun r H1 hr1 k1 => ?_⟩
  have ka := k1
  refine ⟨_, rfl, a, rfl, ka.2, fun z1 H1 hz1 k1 => ?_⟩
  have ka := ka.trans k1
  refine ⟨_, rfl, a, rfl, ka.2, fun z2 H2 hz2 k2 => ?_⟩
  have ka := ka.trans k2
  refine ⟨_, rfl, a, rfl, ka.2, fun z3 H3 hz3 k3 => ?_⟩
  have ka := ka.trans k3
  refine ⟨by show 4 ≤ sizeLine; decide, fun p0 hp0 => ?_⟩
  have w0 := rowOk_mk (a := a) (zs := ["set", z1, z2, z3]) hp0 ka (by rw [List.map_cons, e_set]; exact K80M.Right.set hz1.1 hz2.1 hz3.1) (by intro z hz; simp only [List.mem_cons, List.not_mem_nil, or_false] at hz; rcases hz with h | h | h | h; (rw [h]; exact lit_set); (rw [h]; exact hz1.2); (rw [h]; exact hz2.2); (rw [h]; exact hz3.2))
  have kn := (PK.refl ka.2).new (o := .lst ((["set", z1, z2, z3] : List Str).map V.str)) hp0
  have ka := ka.trans kn
  refine ⟨_, rfl, a, rfl, ka.2, fun z4 H4 hz4 k4 => ?_⟩
  have w0 := w0.pk k4
  have ka := ka.trans k4
  refine ⟨_, rfl, a, rfl, ka.2, fun z5 H5 hz5 k5 => ?_⟩
  have w0 := w0.pk k5
  have ka := ka.trans k5
  refine ⟨by show 3 ≤ sizeLine; decide, fun p1 hp1 => ?_⟩
  have w1 := rowOk_mk (a := a) (zs := ["say", z4, z5]) hp1 ka (by rw [List.map_cons, e_say]; exact K80M.Right.say hz4.1 hz5.1) (by intro z hz; simp only [List.mem_cons, List.not_mem_nil, or_false] at hz; rcases hz with h | h | h; (rw [h]; exact lit_say); (rw [h]; exact hz4.2); (rw [h]; exact hz5.2))
  have kn := (PK.refl ka.2).new (o := .lst ((["say", z4, z5] : List Str).map V.str)) hp1
  have w0 := w0.pk kn
  have ka := ka.trans kn
  refine ⟨by show 2 ≤ sizeLine; decide, fun q1 hq1 => ?_⟩
  have lq1 := listAt_mk (a := a) (xs := [V.ref p0, V.ref p1]) hq1 ka
  have kn := (PK.refl ka.2).new (o := .lst [V.ref p0, V.ref p1]) hq1
  have w0 := w0.pk kn
  have w1 := w1.pk kn
  have ka := ka.trans kn
  refine ⟨_, rfl, ?_⟩
  refine ⟨_, rfl, a, rfl, ka.2, fun z6 H6 hz6 k6 => ?_⟩
  have w0 := w0.pk k6
  have w1 := w1.pk k6
  have lq1 := lq1.pk k6
  have ka := ka.trans k6
  refine ⟨_, rfl, a, rfl, ka.2, fun z7 H7 hz7 k7 => ?_⟩
  have w0 := w0.pk k7
  have w1 := w1.pk k7
  have lq1 := lq1.pk k7
  have ka := ka.trans k7
  refine ⟨by show 3 ≤ sizeLine; decide, fun p2 hp2 => ?_⟩
  have w2 := rowOk_mk (a := a) (zs := ["drop", z6, z7]) hp2 ka (by rw [List.map_cons, e_drop]; exact K80M.Right.drop hz6.1 hz7.1) (by intro z hz; simp only [List.mem_cons, List.not_mem_nil, or_false] at hz; rcases hz with h | h | h; (rw [h]; exact lit_drop); (rw [h]; exact hz6.2); (rw [h]; exact hz7.2))
  have kn := (PK.refl ka.2).new (o := .lst ((["drop", z6, z7] : List Str).map V.str)) hp2
  have w0 := w0.pk kn
  have w1 := w1.pk kn
  have lq1 := lq1.pk kn
  have ka := ka.trans kn
  refine ⟨_, rfl, a, rfl, ka.2, fun z8 H8 hz8 k8 => ?_⟩
  have w0 := w0.pk k8
  have w1 := w1.pk k8
  have w2 := w2.pk k8
  have lq1 := lq1.pk k8
  have ka := ka.trans k8
  refine ⟨_, rfl, a, rfl, ka.2, fun z9 H9 hz9 k9 => ?_⟩
  have w0 := w0.pk k9
  have w1 := w1.pk k9
  have w2 := w2.pk k9
  have lq1 := lq1.pk k9
  have ka := ka.trans k9
  refine ⟨by show 3 ≤ sizeLine; decide, fun p3 hp3 => ?_⟩
  have w3 := rowOk_mk (a := a) (zs := ["add", z8, z9]) hp3 ka (by rw [List.map_cons, e_add]; exact K80M.Right.add hz8.1 hz9.1) (by intro z hz; simp only [List.mem_cons, List.not_mem_nil, or_false] at hz; rcases hz with h | h | h; (rw [h]; exact lit_add); (rw [h]; exact hz8.2); (rw [h]; exact Word.short hz9))
  have kn := (PK.refl ka.2).new (o := .lst ((["add", z8, z9] : List Str).map V.str)) hp3
  have w0 := w0.pk kn
  have w1 := w1.pk kn
  have w2 := w2.pk kn
  have lq1 := lq1.pk kn
  have ka := ka.trans kn
  refine ⟨_, rfl, a, rfl, ka.2, fun z10 H10 hz10 k10 => ?_⟩
  have w0 := w0.pk k10
  have w1 := w1.pk k10
  have w2 := w2.pk k10
  have w3 := w3.pk k10
  have lq1 := lq1.pk k10
  have ka := ka.trans k10
  refine ⟨_, rfl, a, rfl, ka.2, fun z11 H11 hz11 k11 => ?_⟩
  have w0 := w0.pk k11
  have w1 := w1.pk k11
  have w2 := w2.pk k11
  have w3 := w3.pk k11
  have lq1 := lq1.pk k11
  have ka := ka.trans k11
  refine ⟨by show 3 ≤ sizeLine; decide, fun p4 hp4 => ?_⟩
  have w4 := rowOk_mk (a := a) (zs := ["cut", z10, z11]) hp4 ka (by rw [List.map_cons, e_cut]; exact K80M.Right.cut hz10.1 hz11.1) (by intro z hz; simp only [List.mem_cons, List.not_mem_nil, or_false] at hz; rcases hz with h | h | h; (rw [h]; exact lit_cut); (rw [h]; exact hz10.2); (rw [h]; exact Word.short hz11))
  have kn := (PK.refl ka.2).new (o := .lst ((["cut", z10, z11] : List Str).map V.str)) hp4
  have w0 := w0.pk kn
  have w1 := w1.pk kn
  have w2 := w2.pk kn
  have w3 := w3.pk kn
  have lq1 := lq1.pk kn
  have ka := ka.trans kn
  refine ⟨by show 3 ≤ sizeLine; decide, fun q2 hq2 => ?_⟩
  have lq2 := listAt_mk (a := a) (xs := [V.ref p2, V.ref p3, V.ref p4]) hq2 ka
  have kn := (PK.refl ka.2).new (o := .lst [V.ref p2, V.ref p3, V.ref p4]) hq2
  have w0 := w0.pk kn
  have w1 := w1.pk kn
  have w2 := w2.pk kn
  have w3 := w3.pk kn
  have w4 := w4.pk kn
  have lq1 := lq1.pk kn
  have ka := ka.trans kn
  refine ⟨q1, q2, _, _, rfl, rfl, lq1.2, lq2.2, by show 5 ≤ sizeLine; decide, fun q3 hq3 => ?_⟩
  have lq3 := listAt_mk (a := a) (xs := [V.ref p0, V.ref p1, V.ref p2, V.ref p3, V.ref p4]) hq3 ka
  have kn := (PK.refl ka.2).new (o := .lst [V.ref p0, V.ref p1, V.ref p2, V.ref p3, V.ref p4]) hq3
  have w0 := w0.pk kn
  have w1 := w1.pk kn
  have w2 := w2.pk kn
  have w3 := w3.pk kn
  have w4 := w4.pk kn
  have ka := ka.trans kn
  refine ⟨_, rfl, ?_⟩
  refine ⟨_, rfl, a, rfl, ka.2, fun z12 H12 hz12 k12 => ?_⟩
  have w0 := w0.pk k12
  have w1 := w1.pk k12
  have w2 := w2.pk k12
  have w3 := w3.pk k12
  have w4 := w4.pk k12
  have lq3 := lq3.pk k12
  have ka := ka.trans k12
  refine ⟨_, rfl, a, rfl, ka.2, fun z13 H13 hz13 k13 => ?_⟩
  have w0 := w0.pk k13
  have w1 := w1.pk k13
  have w2 := w2.pk k13
  have w3 := w3.pk k13
  have w4 := w4.pk k13
  have lq3 := lq3.pk k13
  have ka := ka.trans k13
  refine ⟨by show 3 ≤ sizeLine; decide, fun p5 hp5 => ?_⟩
  have w5 := rowOk_mk (a := a) (zs := ["flip", z12, z13]) hp5 ka (by rw [List.map_cons, e_flip]; exact K80M.Right.flip hz12.1 hz13.1) (by intro z hz; simp only [List.mem_cons, List.not_mem_nil, or_false] at hz; rcases hz with h | h | h; (rw [h]; exact lit_flip); (rw [h]; exact hz12.2); (rw [h]; exact Word.short hz13))
  have kn := (PK.refl ka.2).new (o := .lst ((["flip", z12, z13] : List Str).map V.str)) hp5
  have w0 := w0.pk kn
  have w1 := w1.pk kn
  have w2 := w2.pk kn
  have w3 := w3.pk kn
  have w4 := w4.pk kn
  have lq3 := lq3.pk kn
  have ka := ka.trans kn
  refine ⟨_, rfl, a, rfl, ka.2, fun z14 H14 hz14 k14 => ?_⟩
  have w0 := w0.pk k14
  have w1 := w1.pk k14
  have w2 := w2.pk k14
  have w3 := w3.pk k14
  have w4 := w4.pk k14
  have w5 := w5.pk k14
  have lq3 := lq3.pk k14
  have ka := ka.trans k14
  refine ⟨by show 2 ≤ sizeLine; decide, fun p6 hp6 => ?_⟩
  have w6 := rowOk_mk (a := a) (zs := ["take", z14]) hp6 ka (by rw [List.map_cons, e_take]; exact K80M.Right.take hz14.1) (by intro z hz; simp only [List.mem_cons, List.not_mem_nil, or_false] at hz; rcases hz with h | h; (rw [h]; exact lit_take); (rw [h]; exact hz14.2))
  have kn := (PK.refl ka.2).new (o := .lst ((["take", z14] : List Str).map V.str)) hp6
  have w0 := w0.pk kn
  have w1 := w1.pk kn
  have w2 := w2.pk kn
  have w3 := w3.pk kn
  have w4 := w4.pk kn
  have w5 := w5.pk kn
  have lq3 := lq3.pk kn
  have ka := ka.trans kn
  refine ⟨_, rfl, a, rfl, ka.2, fun z15 H15 hz15 k15 => ?_⟩
  have w0 := w0.pk k15
  have w1 := w1.pk k15
  have w2 := w2.pk k15
  have w3 := w3.pk k15
  have w4 := w4.pk k15
  have w5 := w5.pk k15
  have w6 := w6.pk k15
  have lq3 := lq3.pk k15
  have ka := ka.trans k15
  refine ⟨by show 2 ≤ sizeLine; decide, fun p7 hp7 => ?_⟩
  have w7 := rowOk_mk (a := a) (zs := ["go", z15]) hp7 ka (by rw [List.map_cons, e_go]; exact K80M.Right.go hz15.1) (by intro z hz; simp only [List.mem_cons, List.not_mem_nil, or_false] at hz; rcases hz with h | h; (rw [h]; exact lit_go); (rw [h]; exact Word.short hz15))
  have kn := (PK.refl ka.2).new (o := .lst ((["go", z15] : List Str).map V.str)) hp7
  have w0 := w0.pk kn
  have w1 := w1.pk kn
  have w2 := w2.pk kn
  have w3 := w3.pk kn
  have w4 := w4.pk kn
  have w5 := w5.pk kn
  have w6 := w6.pk kn
  have lq3 := lq3.pk kn
  have ka := ka.trans kn
  refine ⟨_, rfl, a, rfl, ka.2, fun z16 H16 hz16 k16 => ?_⟩
  have w0 := w0.pk k16
  have w1 := w1.pk k16
  have w2 := w2.pk k16
  have w3 := w3.pk k16
  have w4 := w4.pk k16
  have w5 := w5.pk k16
  have w6 := w6.pk k16
  have w7 := w7.pk k16
  have lq3 := lq3.pk k16
  have ka := ka.trans k16
  refine ⟨by show 2 ≤ sizeLine; decide, fun p8 hp8 => ?_⟩
  have w8 := rowOk_mk (a := a) (zs := ["focus", z16]) hp8 ka (by rw [List.map_cons, e_focus]; exact K80M.Right.focus hz16.1) (by intro z hz; simp only [List.mem_cons, List.not_mem_nil, or_false] at hz; rcases hz with h | h; (rw [h]; exact lit_focus); (rw [h]; exact hz16.2))
  have kn := (PK.refl ka.2).new (o := .lst ((["focus", z16] : List Str).map V.str)) hp8
  have w0 := w0.pk kn
  have w1 := w1.pk kn
  have w2 := w2.pk kn
  have w3 := w3.pk kn
  have w4 := w4.pk kn
  have w5 := w5.pk kn
  have w6 := w6.pk kn
  have w7 := w7.pk kn
  have lq3 := lq3.pk kn
  have ka := ka.trans kn
  refine ⟨by show 4 ≤ sizeLine; decide, fun q4 hq4 => ?_⟩
  have lq4 := listAt_mk (a := a) (xs := [V.ref p5, V.ref p6, V.ref p7, V.ref p8]) hq4 ka
  have kn := (PK.refl ka.2).new (o := .lst [V.ref p5, V.ref p6, V.ref p7, V.ref p8]) hq4
  have w0 := w0.pk kn
  have w1 := w1.pk kn
  have w2 := w2.pk kn
  have w3 := w3.pk kn
  have w4 := w4.pk kn
  have w5 := w5.pk kn
  have w6 := w6.pk kn
  have w7 := w7.pk kn
  have w8 := w8.pk kn
  have lq3 := lq3.pk kn
  have ka := ka.trans kn
  refine ⟨q3, q4, _, _, rfl, rfl, lq3.2, lq4.2, by show 9 ≤ sizeLine; decide, fun q5 hq5 => ?_⟩
  have lq5 := listAt_mk (a := a) (xs := [V.ref p0, V.ref p1, V.ref p2, V.ref p3, V.ref p4, V.ref p5, V.ref p6, V.ref p7, V.ref p8]) hq5 ka
  have kn := (PK.refl ka.2).new (o := .lst [V.ref p0, V.ref p1, V.ref p2, V.ref p3, V.ref p4, V.ref p5, V.ref p6, V.ref p7, V.ref p8]) hq5
  have w0 := w0.pk kn
  have w1 := w1.pk kn
  have w2 := w2.pk kn
  have w3 := w3.pk kn
  have w4 := w4.pk kn
  have w5 := w5.pk kn
  have w6 := w6.pk kn
  have w7 := w7.pk kn
  have w8 := w8.pk kn
  have ka := ka.trans kn
  refine ⟨_, rfl, ?_⟩
  refine ⟨by show 1 ≤ sizeLine; decide, fun p9 hp9 => ?_⟩
  have w9 := rowOk_mk (a := a) (zs := ["stop"]) hp9 ka (by rw [List.map_cons, e_stop]; exact K80M.Right.stop) (by intro z hz; simp only [List.mem_cons, List.not_mem_nil, or_false] at hz; rw [hz]; exact lit_stop)
  have kn := (PK.refl ka.2).new (o := .lst ((["stop"] : List Str).map V.str)) hp9
  have w0 := w0.pk kn
  have w1 := w1.pk kn
  have w2 := w2.pk kn
  have w3 := w3.pk kn
  have w4 := w4.pk kn
  have w5 := w5.pk kn
  have w6 := w6.pk kn
  have w7 := w7.pk kn
  have w8 := w8.pk kn
  have lq5 := lq5.pk kn
  have ka := ka.trans kn
  refine ⟨by show 1 ≤ sizeLine; decide, fun p10 hp10 => ?_⟩
  have w10 := rowOk_mk (a := a) (zs := ["leave"]) hp10 ka (by rw [List.map_cons, e_leave]; exact K80M.Right.leave) (by intro z hz; simp only [List.mem_cons, List.not_mem_nil, or_false] at hz; rw [hz]; exact lit_leave)
  have kn := (PK.refl ka.2).new (o := .lst ((["leave"] : List Str).map V.str)) hp10
  have w0 := w0.pk kn
  have w1 := w1.pk kn
  have w2 := w2.pk kn
  have w3 := w3.pk kn
  have w4 := w4.pk kn
  have w5 := w5.pk kn
  have w6 := w6.pk kn
  have w7 := w7.pk kn
  have w8 := w8.pk kn
  have w9 := w9.pk kn
  have lq5 := lq5.pk kn
  have ka := ka.trans kn
  refine ⟨by show 2 ≤ sizeLine; decide, fun q6 hq6 => ?_⟩
  have lq6 := listAt_mk (a := a) (xs := [V.ref p9, V.ref p10]) hq6 ka
  have kn := (PK.refl ka.2).new (o := .lst [V.ref p9, V.ref p10]) hq6
  have w0 := w0.pk kn
  have w1 := w1.pk kn
  have w2 := w2.pk kn
  have w3 := w3.pk kn
  have w4 := w4.pk kn
  have w5 := w5.pk kn
  have w6 := w6.pk kn
  have w7 := w7.pk kn
  have w8 := w8.pk kn
  have w9 := w9.pk kn
  have w10 := w10.pk kn
  have lq5 := lq5.pk kn
  have ka := ka.trans kn
  refine ⟨q5, q6, _, _, rfl, rfl, lq5.2, lq6.2, by show 11 ≤ sizeLine; decide, fun q7 hq7 => ?_⟩
  have lq7 := listAt_mk (a := a) (xs := [V.ref p0, V.ref p1, V.ref p2, V.ref p3, V.ref p4, V.ref p5, V.ref p6, V.ref p7, V.ref p8, V.ref p9, V.ref p10]) hq7 ka
  have kn := (PK.refl ka.2).new (o := .lst [V.ref p0, V.ref p1, V.ref p2, V.ref p3, V.ref p4, V.ref p5, V.ref p6, V.ref p7, V.ref p8, V.ref p9, V.ref p10]) hq7
  have w0 := w0.pk kn
  have w1 := w1.pk kn
  have w2 := w2.pk kn
  have w3 := w3.pk kn
  have w4 := w4.pk kn
  have w5 := w5.pk kn
  have w6 := w6.pk kn
  have w7 := w7.pk kn
  have w8 := w8.pk kn
  have w9 := w9.pk kn
  have w10 := w10.pk kn
  have ka := ka.trans kn
  obtain ⟨v, hv, _, hm⟩ := at_lit (xs := [V.ref p0, V.ref p1, V.ref p2, V.ref p3, V.ref p4, V.ref p5, V.ref p6, V.ref p7, V.ref p8, V.ref p9, V.ref p10]) hr1
  refine ⟨_, rfl, q7, _, _, _, rfl, rfl, SqL.of lq7.2, hv, hQ v _ ?_ ka⟩
  simp only [List.mem_cons, List.not_mem_nil, or_false] at hm
  rcases hm with rfl | rfl | rfl | rfl | rfl | rfl | rfl | rfl | rfl | rfl | rfl
  · exact w0
  · exact w1
  · exact w2
  · exact w3
  · exact w4
  · exact w5
  · exact w6
  · exact w7
  · exact w8
  · exact w9
  · exact w10
end
end K80

set_option Elab.async false
set_option linter.all false
set_option maxRecDepth 100000
set_option maxHeartbeats 4000000
/-! law k80: joined words; what a part says -/
namespace K80
open PySem PySem.Spec PyProof.Rows L2
open K80M (Wd Part)
theorem cutV_to (xs : List V) (k : Nat) : cutV xs none (some (k : Int)) = xs.take k := by
  unfold cutV
  rw [HT.sIx_nat, HT.sIx_none, List.drop_zero, Nat.sub_zero]
  by_cases h : k ≤ xs.length
  · rw [Nat.min_eq_left h]
  · rw [Nat.min_eq_right (by omega), List.take_of_length_le (Nat.le_refl _), List.take_of_length_le (by omega)]
theorem cutV_from (xs : List V) (k : Nat) : cutV xs (some (k : Int)) none = xs.drop k := by
  unfold cutV
  rw [HT.sIx_nat, HT.sIx_none]
  by_cases h : k ≤ xs.length
  · rw [Nat.min_eq_left h]
    exact List.take_of_length_le (by rw [List.length_drop]; exact Nat.le_refl _)
  · rw [Nat.min_eq_right (by omega), List.drop_eq_nil_of_le (Nat.le_refl _), List.drop_eq_nil_of_le (by omega), List.take_nil]
theorem cutV_mid (xs : List V) (j k : Nat) (h : j ≤ k) : ∃ n, cutV xs (some (j : Int)) (some (k : Int)) = (xs.drop (min j xs.length)).take n ∧ n ≤ k - j := by
  unfold cutV
  rw [HT.sIx_nat, HT.sIx_nat]
  exact ⟨_, rfl, by omega⟩
theorem glue_end (e : List Nat) : ∀ ps : List (List Nat × List Nat), K80M.glue ps e = K80M.glue ps [] ++ e
  | [] => rfl
  | p :: r => by
    show p.1 ++ (p.2 ++ K80M.glue r e) = (p.1 ++ (p.2 ++ K80M.glue r [])) ++ e
    rw [glue_end e r]; simp
theorem glue_snoc (p : List Nat × List Nat) : ∀ ps : List (List Nat × List Nat), K80M.glue (ps ++ [p]) [] = K80M.glue ps [] ++ (p.1 ++ p.2)
  | [] => by show p.1 ++ (p.2 ++ []) = [] ++ (p.1 ++ p.2); simp
  | q :: r => by
    show q.1 ++ (q.2 ++ K80M.glue (r ++ [p]) []) = (q.1 ++ (q.2 ++ K80M.glue r [])) ++ _
    rw [glue_snoc p r]; simp
/-- what stands after i words -/
def Half (zs : List Str) (i : Nat) (t : Str) : Prop := (i = 0 ∧ K80M.Blanks (cz t)) ∨ (1 ≤ i ∧ ∃ ps : List (List Nat × List Nat), ps.map (·.2) = (zs.take i).map cz ∧ cz t = K80M.glue ps [] ∧ (∀ p ∈ ps, K80M.Blanks p.1) ∧ ∀ (j : Nat) (p : List Nat × List Nat), ps[j]? = some p → 1 ≤ j → p.1 ≠ [])
theorem Half.step {zs : List Str} {i : Nat} {t z b : Str} (h : Half zs i t) (hz : zs[i]? = some z) (hb : K80M.Blanks (cz b)) (h0 : i = 0 → cz b = []) (h1 : 1 ≤ i → cz b ≠ []) : Half zs (i + 1) (t ++ b ++ z) := by
  refine .inr ⟨by omega, ?_⟩
  rcases h with ⟨rfl, h⟩ | ⟨hi, ps, e1, e2, e3, e4⟩
  · refine ⟨[(cz t, cz z)], ?_, ?_, ?_, ?_⟩
    · rw [List.take_add_one, hz]; rfl
    · rw [cz_app, cz_app, h0 rfl]
      show _ = cz t ++ (cz z ++ [])
      simp
    · intro p hp
      have : p = (cz t, cz z) := by simpa using hp
      rw [this]; exact h
    · intro j p hp hj
      have := (List.getElem?_eq_some_iff.mp hp).1
      simp at this
      omega
  · refine ⟨ps ++ [(cz b, cz z)], ?_, ?_, ?_, ?_⟩
    · rw [List.take_add_one, hz, List.map_append, e1, List.map_append]; rfl
    · rw [glue_snoc, cz_app, cz_app, e2]
      simp
    · intro p hp
      rcases List.mem_append.mp hp with hp | hp
      · exact e3 p hp
      · have : p = (cz b, cz z) := by simpa using hp
        rw [this]; exact hb
    · intro j p hp hj
      by_cases hl : j < ps.length
      · rw [List.getElem?_append_left hl] at hp
        exact e4 j p hp hj
      · rw [List.getElem?_append_right (by omega)] at hp
        have hlt := (List.getElem?_eq_some_iff.mp hp).1
        simp at hlt
        have : j - ps.length = 0 := by omega
        rw [this] at hp
        have : p = (cz b, cz z) := by simpa using hp.symm
        rw [this]; exact h1 hi
theorem Half.joined {zs : List Str} {t e : Str} (h : Half zs zs.length t) (he : K80M.Blanks (cz e)) : K80M.Joined (zs.map cz) (cz (t ++ e)) := by
  rcases h with ⟨h0, h⟩ | ⟨hi, ps, e1, e2, e3, e4⟩
  · have : zs = [] := List.length_eq_zero_iff.mp h0
    subst this
    refine ⟨[], cz (t ++ e), rfl, rfl, fun c hc => ?_, fun p hp => (by cases hp), fun j p hp => (by simp at hp)⟩
    rw [cz_app] at hc
    rcases List.mem_append.mp hc with hc | hc
    · exact h c hc
    · exact he c hc
  · rw [List.take_length] at e1
    exact ⟨ps, cz e, e1, by rw [glue_end, cz_app, e2], he, e3, e4⟩
def Near (y : Str) : Prop := Told y ∧ y.length ≤ 28
theorem Short.near {z : Str} (h : Short z) : Near z := ⟨h.1, by have := h.2; omega⟩
/-- signs of words with blanks ahead -/
def wsum (zs : List Str) : Nat := (zs.map fun z => z.length + 2).sum
theorem wsum_take {zs : List Str} {i : Nat} {z : Str} (h : zs[i]? = some z) : wsum (zs.take (i + 1)) = wsum (zs.take i) + (z.length + 2) := by
  unfold wsum
  rw [List.take_add_one, h, List.map_append, List.sum_append]
  simp
theorem wsum_le {n : Nat} : ∀ {zs : List Str}, (∀ z ∈ zs, z.length ≤ n) → wsum zs ≤ (n + 2) * zs.length
  | [], _ => Nat.zero_le _
  | z :: r, h => by
    have h1 := wsum_le (n := n) fun x hx => h x (List.mem_cons_of_mem z hx)
    have h2 := h z (by simp)
    unfold wsum at h1 ⊢
    rw [List.map_cons, List.sum_cons, List.length_cons, Nat.mul_succ]
    omega
/-- a written blank -/
def bl0 (z : Str) : Bool := (cz z).all (fun c => K80M.blank c && told c) && decide (z.length ≤ 2)
theorem bl0_is {z : Str} (h : bl0 z = true) : K80M.Blanks (cz z) ∧ Told z ∧ z.length ≤ 2 := by
  unfold bl0 at h
  simp only [Bool.and_eq_true, decide_eq_true_eq, List.all_eq_true] at h
  exact ⟨fun c hc => (h.1 c hc).1, fun c hc => (h.1 c hc).2, h.2⟩
section
variable {P : Program} {w : World} {K : PySem.W.Frag} {mg : Str → Option Value} {base : Heap} {F C : Addr}
def spJoined : Sp := fun vs H Q _ => ∃ (a b : Addr) (zs : List Str), vs = [.ref a, .ref b] ∧ PoolAt H a ∧ b ≠ a ∧ H b = some (.lst (zs.map V.str)) ∧ zs.length ≤ 8 ∧ (∀ z ∈ zs, Near z) ∧
  ∀ t H', Told t → t.length ≤ 3 + wsum zs → K80M.Joined (zs.map cz) (cz t) → PK a H H' → Q (.str t) H'
theorem ok_law_joined (T : Txt K w mg F) (A : At K mg "_law_joined" s_law_joined) (C__law_pick : Cal P w K mg base CX0 1 "_law_pick" ["pool", "many"] spPick) : Cal P w K mg base CX0 2 "_law_joined" ["pool", "words"] spJoined := by
  refine A.ok sc_law_joined (fun vs H Q E h => ?_) bd_law_joined (fun f cdv A outer s H vs Q E hr h => ?_)
  · obtain ⟨a, b, zs, rfl, _⟩ := h; rfl
  obtain ⟨a, b, zs, rfl, hp, hba, hb, hl8, hz, hQ⟩ := h
  refine ⟨_, (pss_cons (ps_set (i := 2) sc_law_joined.nd rfl (Or.inl rfl) (pe_ix ix_list (pe_lst (pa_cons pe_str (pa_cons pe_str (pa_cons pe_str (pa_cons pe_str (pa_cons pe_str pa_nil)))))) (pe_cal C__law_pick (hr.mono (by decide)) pass0 (pa_cons (pv 0) (pa_cons pe_int pa_nil))) (fun _ _ => rfl)))
      (pss_cons (ps_for PassesOwn.never rfl (pi_range1 rfl T.b_range (pa_cons (pe_callB call_len_seq (by rfl) T.b_len boot_len (pa_cons (pv 1) pa_nil)) pa_nil)) (pg_name (i := 3) sc_law_joined.nd rfl (Or.inl rfl))
      (pss_one (ps_set (i := 2) sc_law_joined.nd rfl (Or.inl rfl) (pe_op op_add_str (pe_op op_add_str (pv 2) (pe_ix ix_list (pe_lst (pa_cons pe_str (pa_cons (pe_ix ix_list (pe_lst (pa_cons pe_str (pa_cons pe_str (pa_cons pe_str (pa_cons pe_str (pa_cons pe_str pa_nil)))))) (pe_cal C__law_pick (hr.mono (by decide)) pass0 (pa_cons (pv 0) (pa_cons pe_int pa_nil))) (fun _ _ => rfl)) pa_nil))) (pe_callTy call_int1 (by rfl) T.b_int boot_int (pa_cons (pe_cmpR op_gt (pv 3) pe_int (nomark _)) pa_nil)) (fun _ _ => rfl))) (pe_ix ix_list (pv 1) (pv 3) (fun _ _ => rfl))))))
      (pss_one (ps_ret (pe_op op_add_str (pv 2) (pe_ix ix_list (pe_lst (pa_cons pe_str (pa_cons pe_str (pa_cons pe_str (pa_cons pe_str pa_nil))))) (pe_cal C__law_pick (hr.mono (by decide)) pass0 (pa_cons (pv 0) (pa_cons pe_int pa_nil))) (fun _ _ => rfl))))))), ?_⟩
  refine ⟨by show 5 ≤ sizeLine; decide, fun l hl => ⟨_, rfl, a, 5, rfl, by decide, hp.same (Same.new hl), fun r H1 h1 k1 => ?_⟩⟩
  have k01 := ((PK.refl hp).new (o := .lst [V.str "", V.str "", V.str " ", V.str "\n", V.str "  "]) hl).trans k1
  obtain ⟨v, hv, _, hm⟩ := at_lit (xs := [V.str "", V.str "", V.str " ", V.str "\n", V.str "  "]) h1
  obtain ⟨b0, rfl, hb0⟩ : ∃ y, v = .str y ∧ bl0 y = true := by
    simp only [List.mem_cons, List.not_mem_nil, or_false] at hm
    rcases hm with rfl | rfl | rfl | rfl | rfl
    all_goals exact ⟨_, rfl, by decide +kernel⟩
  have hb0 := bl0_is hb0
  refine ⟨l, _, _, _, rfl, rfl, SqL.of (k1.1 l _ ((PK.refl hp).ne hl) upd_same), hv, ?_⟩
  refine ⟨_, rfl, b, _, rfl, .inl (SqL.of (k01.1 b _ hba hb)), _, rfl, by omega, by rw [List.length_map]; omega, ?_⟩
  rw [List.length_map, Int.toNat_natCast]
  refine for_it walk_range (fun i σ H3 => PK a H H3 ∧ ∃ (t : Str) (o : Option V), σ = [some (.ref a), some (.ref b), some (.str t), o] ∧ Told t ∧ t.length ≤ 2 + wsum (zs.take i) ∧ Half zs i t)
    ⟨k01, b0, _, rfl, hb0.2.1, hb0.2.2, .inl ⟨rfl, hb0.1⟩⟩ (fun _ _ _ _ _ => trivial) (fun i x σ H3 H4 hi q y => ?_) (fun σ H3 q => ?_)
  · obtain ⟨k3, t, o, rfl, ht, htl, hh⟩ := q
    obtain ⟨rfl, rfl⟩ := y
    have hi : i < zs.length := hi
    have hzi : zs[i]? = some zs[i] := List.getElem?_eq_getElem hi
    have hzn := hz _ (List.getElem_mem hi)
    have hws := wsum_take hzi
    have hwl : wsum (zs.take i) ≤ 30 * (zs.take i).length := wsum_le (n := 28) fun x hx => (hz x (List.mem_of_mem_take hx)).2
    rw [List.length_take] at hwl
    refine ⟨_, rfl, by show 5 ≤ sizeLine; decide, fun l1 hl1 => ⟨_, rfl, a, 5, rfl, by decide, k3.2.same (Same.new hl1), fun r2 H5 h2 k5 => ?_⟩⟩
    have k35 := (k3.new (o := .lst [V.str " ", V.str " ", V.str "\n", V.str "  ", V.str "\n "]) hl1).trans k5
    obtain ⟨v, hv, _, hm⟩ := at_lit (xs := [V.str " ", V.str " ", V.str "\n", V.str "  ", V.str "\n "]) h2
    obtain ⟨b1, rfl, hb1, hb1'⟩ : ∃ y, v = .str y ∧ bl0 y = true ∧ (cz y).isEmpty = false := by
      simp only [List.mem_cons, List.not_mem_nil, or_false] at hm
      rcases hm with rfl | rfl | rfl | rfl | rfl
      all_goals exact ⟨_, rfl, by decide +kernel, by decide +kernel⟩
    have hb1 := bl0_is hb1
    refine ⟨l1, _, _, _, rfl, rfl, SqL.of (k5.1 l1 _ (k3.ne hl1) upd_same), hv, by show 2 ≤ sizeLine; decide, fun l2 hl2 => ?_⟩
    have k36 := k35.new (o := .lst [V.str "", V.str b1]) hl2
    -- the blank that is put
    obtain ⟨bb, hat, g1, g2, g3, g4, g5⟩ : ∃ bb : Str, atI [V.str "", V.str b1] (if decide ((0 : Int) < 0 + (i : Int)) = true then 1 else 0) = some (V.str bb) ∧ Told bb ∧ bb.length ≤ 2 ∧ K80M.Blanks (cz bb) ∧ (i = 0 → cz bb = []) ∧ (1 ≤ i → cz bb ≠ []) := by
      by_cases h0 : i = 0
      · refine ⟨"", ?_, told_all (by decide +kernel), by decide +kernel, ?_, fun _ => cz_nil, fun h => by omega⟩
        · rw [if_neg (by rw [decide_eq_true_iff]; omega)]
          exact atI_nat (j := 0) rfl
        · rw [cz_nil]; intro c hc; cases hc
      · refine ⟨b1, ?_, hb1.2.1, hb1.2.2, hb1.1, fun h => absurd h h0, fun _ e => by rw [e] at hb1'; cases hb1'⟩
        rw [if_pos (by rw [decide_eq_true_iff]; omega)]
        exact atI_nat (j := 1) rfl
    refine ⟨_, rfl, _, _, rfl, rfl, .inr ⟨_, rfl, l2, _, _, _, rfl, rfl, SqL.of upd_same, hat, ?_⟩⟩
    refine ⟨_, _, rfl, rfl, Nat.le_of_lt (line5 (by omega)), ?_⟩
    have hat2 : atI (zs.map V.str) (0 + (i : Int)) = some (V.str zs[i]) := by
      rw [show (0 + (i : Int)) = ((i : Nat) : Int) by omega]
      exact atI_nat (by rw [List.getElem?_map, hzi]; rfl)
    refine ⟨_, rfl, _, rfl, b, _, _, _, rfl, rfl, SqL.of (k36.1 b _ hba hb), hat2, ?_⟩
    exact ⟨_, _, rfl, rfl, Nat.le_of_lt (line5 (by rw [len_app]; have := hzn.2; omega)), k36, _, _, rfl, Told.app (Told.app ht g1) hzn.1, by rw [len_app, len_app]; have := hzn.2; omega, hh.step hzi g3 g4 g5⟩
  · obtain ⟨k3, t, o, rfl, ht, htl, hh⟩ := q
    rw [List.take_length] at htl
    have hwl : wsum zs ≤ 30 * zs.length := wsum_le (n := 28) fun x hx => (hz x hx).2
    refine ⟨_, rfl, by show 4 ≤ sizeLine; decide, fun l1 hl1 => ⟨_, rfl, a, 4, rfl, by decide, k3.2.same (Same.new hl1), fun r2 H5 h2 k5 => ?_⟩⟩
    obtain ⟨v, hv, _, hm⟩ := at_lit (xs := [V.str "", V.str "", V.str " ", V.str "\n"]) h2
    obtain ⟨b1, rfl, hb1⟩ : ∃ y, v = .str y ∧ (bl0 y && decide (y.length ≤ 1)) = true := by
      simp only [List.mem_cons, List.not_mem_nil, or_false] at hm
      rcases hm with rfl | rfl | rfl | rfl
      all_goals exact ⟨_, rfl, by decide +kernel⟩
    simp only [Bool.and_eq_true, decide_eq_true_eq] at hb1
    have hb2 := bl0_is hb1.1
    have hb3 := hb1.2
    refine ⟨l1, _, _, _, rfl, rfl, SqL.of (k5.1 l1 _ (k3.ne hl1) upd_same), hv, _, _, rfl, rfl, Nat.le_of_lt (line5 (by omega)), hQ _ _ (Told.app ht hb2.2.1) (by rw [len_app]; omega) (hh.joined hb2.1) ((k3.new hl1).trans k5)⟩
end
end K80

set_option Elab.async false
set_option linter.all false
set_option maxRecDepth 100000
set_option maxHeartbeats 4000000
/-! law k80: some part; what a part says -/
namespace K80
open PySem PySem.Spec PyProof.Rows L2
open K80M (Wd Part)
/-- a right part: all words but the last say themselves -/
theorem right_split {ws : List (List Nat)} (h : K80M.Right ws) : ∃ init l, ws = init ++ [l] ∧ (∀ u ∈ init, (K80M.tok u).1 = u) ∧ K80M.Raw l := by
  have lit : ∀ s ∈ K80M.forms.map (·.1), (K80M.tok s).1 = s := by decide
  have pl : ∀ {u : List Nat}, K80M.Plain u → (K80M.tok u).1 = u := fun h => by rw [K80M.tok_plain h]
  have raw := h.raw
  cases h with
  | set ht hn hv => exact ⟨[_, _, _], _, rfl, by simp only [List.mem_cons, List.not_mem_nil, or_false]; rintro u (rfl | rfl | rfl); exact lit _ (by decide); exact pl ht.1; exact pl hn.plain, hv⟩
  | say ht hv => exact ⟨[_, _], _, rfl, by simp only [List.mem_cons, List.not_mem_nil, or_false]; rintro u (rfl | rfl); exact lit _ (by decide); exact pl ht.1, hv⟩
  | drop ht hn => exact ⟨[_, _], _, rfl, by simp only [List.mem_cons, List.not_mem_nil, or_false]; rintro u (rfl | rfl); exact lit _ (by decide); exact pl ht.1, .inl hn.plain⟩
  | add ht hv => exact ⟨[_, _], _, rfl, by simp only [List.mem_cons, List.not_mem_nil, or_false]; rintro u (rfl | rfl); exact lit _ (by decide); exact pl ht.1, .inl hv⟩
  | cut ht hv => exact ⟨[_, _], _, rfl, by simp only [List.mem_cons, List.not_mem_nil, or_false]; rintro u (rfl | rfl); exact lit _ (by decide); exact pl ht.1, .inl hv⟩
  | flip ht hv => exact ⟨[_, _], _, rfl, by simp only [List.mem_cons, List.not_mem_nil, or_false]; rintro u (rfl | rfl); exact lit _ (by decide); exact pl ht.1, .inl hv⟩
  | take ht => exact ⟨[_], _, rfl, by simp only [List.mem_cons, List.not_mem_nil, or_false]; rintro u rfl; exact lit _ (by decide), .inl ht.1⟩
  | go hv => exact ⟨[_], _, rfl, by simp only [List.mem_cons, List.not_mem_nil, or_false]; rintro u rfl; exact lit _ (by decide), .inl hv⟩
  | focus ht => exact ⟨[_], _, rfl, by simp only [List.mem_cons, List.not_mem_nil, or_false]; rintro u rfl; exact lit _ (by decide), .inl ht.1⟩
  | stop => exact ⟨[], _, rfl, by simp, raw _ (List.mem_singleton.mpr rfl)⟩
  | leave => exact ⟨[], _, rfl, by simp, raw _ (List.mem_singleton.mpr rfl)⟩
theorem right_len {ws : List (List Nat)} (h : K80M.Right ws) : ws.length ≤ 4 := by cases h <;> simp
theorem cutV_init (xs : List V) (x : V) : cutV (xs ++ [x]) none (some (-1)) = xs := by
  have e1 : HT.sIx (xs ++ [x]).length (xs ++ [x]).length (some (-1)) = xs.length := by
    have hl : (xs ++ [x]).length = xs.length + 1 := by simp
    rw [hl]
    show (if (-1 : Int) < 0 then ((-1 : Int) + ((xs.length + 1 : Nat) : Int)).toNat else min (-1 : Int).toNat (xs.length + 1)) = xs.length
    rw [if_pos (by decide)]
    omega
  unfold cutV
  rw [e1, HT.sIx_none, List.drop_zero, Nat.sub_zero]
  exact List.take_left' rfl
section
variable {P : Program} {w : World} {K : PySem.W.Frag} {mg : Str → Option Value} {base : Heap} {F C : Addr}
def spSomePart : Sp := fun vs H Q _ => ∃ (a b : Addr) (xs : List V), vs = [.ref a, .ref b] ∧ PoolAt H a ∧ b ≠ a ∧ H b = some (.lst xs) ∧ xs ≠ [] ∧ ∀ v ∈ xs, ∀ H', PK a H H' → Q v H'
theorem ok_law_some_part (T : Txt K w mg F) (A : At K mg "_law_some_part" s_law_some_part) (C__law_pick : Cal P w K mg base CX0 1 "_law_pick" ["pool", "many"] spPick) : Cal P w K mg base CX0 2 "_law_some_part" ["pool", "parts"] spSomePart := by
  refine A.ok sc_law_some_part (fun vs H Q E h => ?_) bd_law_some_part (fun f cdv A outer s H vs Q E hr h => ?_)
  · obtain ⟨a, b, xs, rfl, _⟩ := h; rfl
  obtain ⟨a, b, xs, rfl, hp, hba, hb, hx, hQ⟩ := h
  refine ⟨_, (pss_one (ps_ret (pe_ix ix_list (pv 1) (pe_op op_mod (pe_callTy call_int1 (by rfl) T.b_int boot_int (pa_cons (pe_cal C__law_pick (hr.mono (by decide)) pass0 (pa_cons (pv 0) (pa_cons pe_int pa_nil))) pa_nil)) (pe_callB call_len_seq (by rfl) T.b_len boot_len (pa_cons (pv 1) pa_nil))) (fun _ _ => rfl)))), ?_⟩
  have hl : 0 < xs.length := List.length_pos_iff.mpr hx
  refine ⟨_, rfl, _, rfl, a, 60, rfl, by decide, hp, fun r H1 h1 k1 => ?_⟩
  have hb1 := k1.1 b _ hba hb
  refine .inl ⟨_, rfl, _, rfl, b, _, rfl, .inl (SqL.of hb1), _, _, rfl, rfl, (by show (0 : Int) < (xs.length : Int); omega), ?_⟩
  have hlt : r % xs.length < xs.length := Nat.mod_lt _ hl
  refine ⟨b, _, _, _, rfl, rfl, SqL.of hb1, ?_, hQ _ (List.getElem_mem hlt) _ k1⟩
  show atI xs ((r : Int) % (xs.length : Int)) = _
  rw [← Int.natCast_emod]
  exact atI_nat (List.getElem?_eq_getElem hlt)
def spSaid : Sp := fun vs H Q _ => ∃ (b : Addr) (zs : List Str), vs = [.ref b] ∧ H b = some (.lst (zs.map V.str)) ∧ GoodPart zs ∧ ∀ H' p, Same H H' → RepA H' p (K80M.said (zs.map cz)) → Q (.ref p) H'
theorem ok_law_said (T : Txt K w mg F) (A : At K mg "_law_said" s_law_said) : Cal P w K mg base CX0 1 "_law_said" ["words"] spSaid := by
  refine A.ok sc_law_said (fun vs H Q E h => ?_) bd_law_said (fun f cdv A outer s H vs Q E hr h => ?_)
  · obtain ⟨b, zs, rfl, _⟩ := h; rfl
  obtain ⟨b, zs, rfl, hb, hg, hQ⟩ := h
  refine ⟨_, (pss_cons (ps_set (i := 1) sc_law_said.nd rfl (Or.inl rfl) (pe_ix ix_list (pv 0) (pe_un un_neg pe_int) (fun _ _ => rfl)))
      (pss_cons (ps_if (pt_cmpR op_eq (pe_slice sl_str (pv 1) po_none (po_some pe_int)) pe_str (nomark _)) (pss_one (ps_set (i := 1) sc_law_said.nd rfl (Or.inl rfl) (pe_slice sl_str (pv 1) (po_some pe_int) (po_some (pe_op op_sub (pe_callB call_len_str (by rfl) T.b_len boot_len (pa_cons (pv 1) pa_nil)) pe_int))))) pss_nil)
      (pss_one (ps_ret (pe_callTy call_tuple_of (by rfl) T.b_tuple boot_tuple (pa_cons (pe_op op_cat (pe_slice sl_list (pv 0) po_none (po_some (pe_un un_neg pe_int))) (pe_lst (pa_cons (pv 1) pa_nil))) pa_nil)))))), ?_⟩
  obtain ⟨init, l, e, hi, hraw⟩ := right_split hg.right
  have hlen := right_len hg.right
  rw [List.length_map] at hlen
  obtain ⟨zi, zl, rfl, ei, el⟩ : ∃ zi zl, zs = zi ++ [zl] ∧ zi.map cz = init ∧ cz zl = l := by
    have hne : zs ≠ [] := fun h => by rw [h] at e; simp at e
    refine ⟨zs.dropLast, zs.getLast hne, (List.dropLast_concat_getLast hne).symm, ?_, ?_⟩
    · have := congrArg List.dropLast e
      rw [List.dropLast_concat, ← List.map_dropLast] at this
      exact this
    · have h2 : (zs.map cz).getLast? = some l := by rw [e]; simp
      rw [List.getLast?_map, List.getLast?_eq_some_getLast hne] at h2
      simpa using h2
  subst ei el
  have hzl := hg.short zl (by simp)
  rw [List.length_append, List.length_singleton] at hlen
  have eb : (zi ++ [zl]).map V.str = zi.map V.str ++ [V.str zl] := by rw [List.map_append]; rfl
  rw [eb] at hb
  have hz : zl.length ≤ sizeLine := Nat.le_of_lt (line5 (by have := hzl.2; omega))
  refine ⟨_, rfl, _, rfl, b, _, _, _, rfl, rfl, SqL.of hb, atI_last _ _, ?_⟩
  refine ⟨_, rfl, _, rfl, zl, rfl, hz, ?_⟩
  have esaid : K80M.said ((zi ++ [zl]).map cz) = zi.map cz ++ [(K80M.tok (cz zl)).1] := by
    unfold K80M.said
    rw [List.map_append, List.map_append, List.map_map]
    congr 1
    refine List.map_congr_left fun u hu => hi (cz u) (List.mem_map.mpr ⟨u, hu, rfl⟩)
  rw [esaid] at hQ
  have etake : cutS zl none (some 1) = S ((cz zl).take 1) := by
    unfold cutS
    rw [HT.sIx_none, show (1 : Int) = ((1 : Nat) : Int) from rfl, HT.sIx_nat, List.drop_zero, Nat.sub_zero]
    by_cases h : 1 ≤ zl.length
    · rw [Nat.min_eq_left h]
    · have h0 : cz zl = [] := List.length_eq_zero_iff.mp (by rw [← cz_len]; omega)
      show S _ = _
      rw [show zl.cps.toList = [] from h0, h0]; simp
  rcases hraw with hpl | ⟨q, eq, hq⟩
  · refine ⟨rfl, _, rfl, ifF (dec_str _ (decide_eq_false ?_)) ?_⟩
    · rw [etake, cz_39, cz_S]
      intro h
      cases hcz : cz zl with
      | nil => rw [hcz] at h; cases h
      | cons c r =>
        rw [hcz] at h
        have : c = 39 := by simpa using h
        exact hpl.2.1 (by rw [hcz, this]; rfl)
    have hlv : cz zl = (K80M.tok (cz zl)).1 := by rw [K80M.tok_plain hpl]
    refine ⟨_, rfl, _, rfl, _, rfl, b, _, rfl, SqL.of hb, fun c hc => ⟨_, rfl, by show 1 ≤ sizeLine; decide, fun d hd => ?_⟩⟩
    rw [cutV_init] at hd ⊢
    refine ⟨c, d, _, _, rfl, rfl, by rw [upd_ne (ne_of_none upd_same hd)]; exact upd_same, upd_same, Nat.le_of_lt (line5 (by rw [List.length_map]; show zi.length + 1 ≤ _; omega)), fun p hp => ⟨p, _, rfl, .inl ⟨SqL.of upd_same, fun q hq => hQ _ q (((Same.new hc).trans (Same.new hd)).trans ((Same.new hp).trans (Same.new hq))) ?_⟩⟩⟩
    unfold RepA
    rw [upd_same, List.map_append, List.map_map]
    have e1 : zi.map V.str = zi.map ((fun s => V.str (S s)) ∘ cz) := List.map_congr_left fun u _ => by show V.str u = V.str (S (cz u)); rw [S_cz]
    rw [e1]
    have e2 : V.str zl = V.str (S (K80M.tok (cz zl)).1) := by rw [← hlv, S_cz]
    show some (HO.tup (_ ++ [V.str zl])) = some (HO.tup (_ ++ [V.str (S (K80M.tok (cz zl)).1)]))
    rw [e2]
  · have hlv : cz (cutS zl (some 1) (some ((zl.length : Int) - 1))) = (K80M.tok (cz zl)).1 := by
      have hll : zl.length = q.length + 2 := by rw [cz_len, eq]; simp
      have e3 : ((zl.length : Int) - 1) = ((zl.length - 1 : Nat) : Int) := by omega
      rw [e3, show (some (1 : Int)) = some ((1 : Nat) : Int) from rfl, cutS_nat zl 1 (zl.length - 1) (by omega) (by omega), cz_S, eq, K80M.tok_quoted, hll]
      simp
    refine ⟨rfl, _, rfl, ifT (dec_str _ (decide_eq_true ?_)) ?_⟩
    · rw [etake, cz_39, cz_S, eq]; rfl
    refine ⟨_, rfl, _, rfl, _, rfl, zl, rfl, hz, _, _, rfl, rfl, _, rfl, zl, rfl, hz, ?_⟩
    refine ⟨_, rfl, _, rfl, _, rfl, b, _, rfl, SqL.of hb, fun c hc => ⟨_, rfl, by show 1 ≤ sizeLine; decide, fun d hd => ?_⟩⟩
    rw [cutV_init] at hd ⊢
    refine ⟨c, d, _, _, rfl, rfl, by rw [upd_ne (ne_of_none upd_same hd)]; exact upd_same, upd_same, Nat.le_of_lt (line5 (by rw [List.length_map]; show zi.length + 1 ≤ _; omega)), fun p hp => ⟨p, _, rfl, .inl ⟨SqL.of upd_same, fun q hq => hQ _ q (((Same.new hc).trans (Same.new hd)).trans ((Same.new hp).trans (Same.new hq))) ?_⟩⟩⟩
    unfold RepA
    rw [upd_same, List.map_append, List.map_map]
    have e1 : zi.map V.str = zi.map ((fun s => V.str (S s)) ∘ cz) := List.map_congr_left fun u _ => by show V.str u = V.str (S (cz u)); rw [S_cz]
    rw [e1]
    have e2 : V.str (cutS zl (some 1) (some ((zl.length : Int) - 1))) = V.str (S (K80M.tok (cz zl)).1) := by rw [← hlv, S_cz]
    show some (HO.tup (_ ++ [V.str (cutS zl (some 1) (some ((zl.length : Int) - 1)))])) = some (HO.tup (_ ++ [V.str (S (K80M.tok (cz zl)).1)]))
    rw [e2]
end
end K80

set_option Elab.async false
set_option linter.all false
set_option maxRecDepth 100000
set_option maxHeartbeats 4000000
/-! law k80: words near to right ones -/
namespace K80
open PySem PySem.Spec PyProof.Rows L2
open K80M (Wd Part)
/-- a list of few near words, not the pool -/
def LW (a : Addr) (H : Hp) (l : Addr) (n : Nat) : Prop := l ≠ a ∧ ∃ ys : List Str, H l = some (.lst (ys.map V.str)) ∧ ys.length ≤ n ∧ ∀ y ∈ ys, Near y
theorem LW.pk {a l : Addr} {n : Nat} {H H' : Hp} (h : LW a H l n) (k : PK a H H') : LW a H' l n := by
  obtain ⟨h1, ys, h2, h3⟩ := h
  exact ⟨h1, ys, k.1 l _ h1 h2, h3⟩
def NearAt (a : Addr) (H : Hp) (v : V) : Prop := ∃ l, v = .ref l ∧ LW a H l 5
theorem NearAt.pk {a : Addr} {v : V} {H H' : Hp} (h : NearAt a H v) (k : PK a H H') : NearAt a H' v := by
  obtain ⟨l, e, h⟩ := h
  exact ⟨l, e, h.pk k⟩
theorem lw_near {a l : Addr} {n : Nat} {H : Hp} (h5 : n ≤ 5) (h : LW a H l n) : NearAt a H (.ref l) := by
  obtain ⟨h1, ys, h2, h3, h4⟩ := h
  exact ⟨l, rfl, h1, ys, h2, by omega, h4⟩
section
variable {a c : Addr} {H0 H : Hp} {zs : List Str}
theorem lw_to {k : Nat} (hz : ∀ z ∈ zs, Near z) (hc : H c = none) (ka : PK a H0 H) : LW a (upd H c (.lst (cutV (zs.map V.str) none (some (k : Int))))) c k :=
  ⟨ka.ne hc, zs.take k, by rw [upd_same, cutV_to, List.map_take], by rw [List.length_take]; omega, fun y hy => hz y (List.mem_of_mem_take hy)⟩
theorem lw_from {k : Nat} (hz : ∀ z ∈ zs, Near z) (hc : H c = none) (ka : PK a H0 H) : LW a (upd H c (.lst (cutV (zs.map V.str) (some (k : Int)) none))) c (zs.length - k) :=
  ⟨ka.ne hc, zs.drop k, by rw [upd_same, cutV_from, List.map_drop], by rw [List.length_drop]; omega, fun y hy => hz y (List.mem_of_mem_drop hy)⟩
theorem lw_mid {j k : Nat} (h : j ≤ k) (hz : ∀ z ∈ zs, Near z) (hc : H c = none) (ka : PK a H0 H) : LW a (upd H c (.lst (cutV (zs.map V.str) (some (j : Int)) (some (k : Int))))) c (k - j) := by
  obtain ⟨n, e, hn⟩ := cutV_mid (zs.map V.str) j k h
  refine ⟨ka.ne hc, (zs.drop (min j (zs.map V.str).length)).take n, by rw [upd_same, e, List.map_take, List.map_drop], by rw [List.length_take]; omega, fun y hy => hz y (List.mem_of_mem_drop (List.mem_of_mem_take hy))⟩
theorem lw_lit {y : Str} (hy : Near y) (hc : H c = none) (ka : PK a H0 H) : LW a (upd H c (.lst [V.str y])) c 1 :=
  ⟨ka.ne hc, [y], upd_same, Nat.le_refl _, fun u hu => by
    have e : u = y := by simpa using hu
    rw [e]
    exact hy⟩
theorem lw_cat {xs ys : List Str} {n m : Nat} (h1 : xs.length ≤ n) (h2 : ys.length ≤ m) (o1 : ∀ y ∈ xs, Near y) (o2 : ∀ y ∈ ys, Near y) (hc : H c = none) (ka : PK a H0 H) : LW a (upd H c (.lst (xs.map V.str ++ ys.map V.str))) c (n + m) :=
  ⟨ka.ne hc, xs ++ ys, by rw [upd_same, List.map_append], by rw [List.length_append]; omega, fun y hy => by
    rcases List.mem_append.mp hy with hy | hy
    · exact o1 y hy
    · exact o2 y hy⟩
end
section
variable {P : Program} {w : World} {K : PySem.W.Frag} {mg : Str → Option Value} {base : Heap} {F C : Addr}
def spNear : Sp := fun vs H Q _ => ∃ (a b : Addr) (zs : List Str), vs = [.ref a, .ref b] ∧ PoolAt H a ∧ b ≠ a ∧ H b = some (.lst (zs.map V.str)) ∧ GoodPart zs ∧
  ∀ q H' xs, PK a H H' → q ≠ a → H' q = some (.lst xs) → xs.length ≤ 9 → (∀ v ∈ xs, NearAt a H' v) → Q (.ref q) H'
theorem ok_law_near (T : Txt K w mg F) (A : At K mg "_law_near" s_law_near) (C__law_pick : Cal P w K mg base CX0 1 "_law_pick" ["pool", "many"] spPick) : Cal P w K mg base CX0 2 "_law_near" ["pool", "words"] spNear := by
  refine A.ok sc_law_near (fun vs H Q E h => ?_) bd_law_near (fun f cdv A outer s H vs Q E hr h => ?_)
  · obtain ⟨a, b, zs, rfl, _⟩ := h; rfl
  obtain ⟨a, b, zs, rfl, hp, hba, hb, hg, hQ⟩ := h
  refine ⟨_, (pss_cons (ps_set (i := 2) sc_law_near.nd rfl (Or.inl rfl) (pe_op op_mod (pe_callTy call_int1 (by rfl) T.b_int boot_int (pa_cons (pe_cal C__law_pick (hr.mono (by decide)) pass0 (pa_cons (pv 0) (pa_cons pe_int pa_nil))) pa_nil)) (pe_callB call_len_seq (by rfl) T.b_len boot_len (pa_cons (pv 1) pa_nil))))
      (pss_cons (ps_set (i := 3) sc_law_near.nd rfl (Or.inl rfl) (pe_lst (pa_cons (pe_op op_cat (pe_slice sl_list (pv 1) po_none (po_some (pv 2))) (pe_slice sl_list (pv 1) (po_some (pe_op op_add (pv 2) pe_int)) po_none)) (pa_cons (pe_op op_cat (pe_slice sl_list (pv 1) po_none (po_some (pe_op op_add (pv 2) pe_int))) (pe_slice sl_list (pv 1) (po_some (pv 2)) po_none)) (pa_cons (pe_op op_cat (pe_op op_cat (pe_op op_cat (pe_slice sl_list (pv 1) po_none (po_some (pv 2))) (pe_slice sl_list (pv 1) (po_some (pe_op op_add (pv 2) pe_int)) (po_some (pe_op op_add (pv 2) pe_int)))) (pe_slice sl_list (pv 1) (po_some (pv 2)) (po_some (pe_op op_add (pv 2) pe_int)))) (pe_slice sl_list (pv 1) (po_some (pe_op op_add (pv 2) pe_int)) po_none)) pa_nil)))))
      (pss_cons (ps_set (i := 3) sc_law_near.nd rfl (Or.inl rfl) (pe_op op_cat (pv 3) (pe_lst (pa_cons (pe_op op_cat (pe_op op_cat (pe_slice sl_list (pv 1) po_none (po_some (pv 2))) (pe_lst (pa_cons (pe_op op_add_str (pe_catT (CwR.pet_replC (pe_ix ix_list (pv 1) (pv 2) (fun _ _ => rfl)))) pe_str) pa_nil))) (pe_slice sl_list (pv 1) (po_some (pe_op op_add (pv 2) pe_int)) po_none)) (pa_cons (pe_op op_cat (pe_op op_cat (pe_slice sl_list (pv 1) po_none (po_some (pv 2))) (pe_lst (pa_cons pe_str pa_nil))) (pe_slice sl_list (pv 1) (po_some (pe_op op_add (pv 2) pe_int)) po_none)) pa_nil)))))
      (pss_cons (ps_set (i := 3) sc_law_near.nd rfl (Or.inl rfl) (pe_op op_cat (pv 3) (pe_lst (pa_cons (pe_op op_cat (pe_op op_cat (pe_slice sl_list (pv 1) po_none (po_some (pv 2))) (pe_lst (pa_cons pe_str pa_nil))) (pe_slice sl_list (pv 1) (po_some (pe_op op_add (pv 2) pe_int)) po_none)) (pa_cons (pe_op op_cat (pe_op op_cat (pe_slice sl_list (pv 1) po_none (po_some (pv 2))) (pe_lst (pa_cons (pe_op op_add_str (pe_ix ix_list (pv 1) (pv 2) (fun _ _ => rfl)) pe_str) pa_nil))) (pe_slice sl_list (pv 1) (po_some (pe_op op_add (pv 2) pe_int)) po_none)) (pa_cons (pe_op op_cat (pv 1) (pe_lst (pa_cons pe_str pa_nil))) (pa_cons (pe_op op_cat (pv 1) (pe_lst (pa_cons pe_str pa_nil))) pa_nil)))))))
      (pss_one (ps_ret (pv 3))))))), ?_⟩
  have hl4 := right_len hg.right
  have hl1 : 1 ≤ zs.length := by
    obtain ⟨init, l, e, _⟩ := right_split hg.right
    have := congrArg List.length e
    rw [List.length_map, List.length_append, List.length_singleton] at this
    omega
  rw [List.length_map] at hl4
  refine ⟨_, rfl, a, 60, rfl, by decide, hp, fun r H1 h1 k1 => .inl ⟨_, rfl, _, rfl, b, _, rfl, .inl (SqL.of (k1.1 b _ hba hb)), _, _, rfl, rfl, (by show (0 : Int) < ((zs.map V.str).length : Int); rw [List.length_map]; omega), ?_⟩⟩
  have hz : ∀ z ∈ zs, Near z := fun z h => (hg.short z h).near
  obtain ⟨k, ek, hk⟩ : ∃ k : Nat, (r : Int) % ((zs.map V.str).length : Int) = (k : Int) ∧ k < zs.length := by
    refine ⟨r % zs.length, ?_, Nat.mod_lt _ hl1⟩
    rw [List.length_map, Int.natCast_emod]
  show gName 2 (V.int ((r : Int) % ((zs.map V.str).length : Int))) _ _ _
  rw [ek]
  have hb : ListAt a H1 b (zs.map V.str) := ⟨hba, k1.1 b _ hba hb⟩
  have ka := k1
  have hw0 : ∀ {H2 : Hp}, ListAt a H2 b (zs.map V.str) → LW a H2 b zs.length := fun h => ⟨h.1, zs, h.2, Nat.le_refl _, hz⟩
  obtain ⟨zk, hzk0, hat⟩ : ∃ zk, zs[k]? = some zk ∧ atI (zs.map V.str) (k : Int) = some (V.str zk) := ⟨zs[k], List.getElem?_eq_getElem hk, atI_nat (by rw [List.getElem?_map, List.getElem?_eq_getElem hk]; rfl)⟩
  have hzk := hg.short zk (List.mem_of_getElem? hzk0)
  have e39 : ("'" : Str).length = 1 := by decide +kernel
  obtain ⟨hr1, hr2⟩ := replace_less zk
  have hzl := hzk.2
  have hln1 : ("'" : Str).length + (Txt.replace zk "'" "").length ≤ 100001 := by omega
  have hln2 : (("'" : Str) ++ Txt.replace zk "'" "").length + ("'" : Str).length ≤ 100001 := by rw [len_app]; omega
  have hqn : Near (("'" : Str) ++ Txt.replace zk "'" "" ++ ("'" : Str)) := ⟨Told.app (Told.app (told_all (by decide +kernel)) fun c hc => hzk.1 c (hr1 c hc)) (told_all (by decide +kernel)), by rw [len_app, len_app]; omega⟩
  have hm1 : zk.length + ("'" : Str).length ≤ 100001 := by omega
  have hmn : Near (zk ++ ("'" : Str)) := ⟨Told.app hzk.1 (told_all (by decide +kernel)), by rw [len_app]; omega⟩
  have hn_h : Near "#" := (lit_short (by decide +kernel)).near
  have hn_s : Near "selfs" := (lit_short (by decide +kernel)).near
  have hn_x : Near "x" := (lit_short (by decide +kernel)).near
  have hn_q : Near "''" := (lit_short (by decide +kernel)).near
  refine ⟨_, rfl, _, rfl, _, rfl, b, _, rfl, SqL.of hb.2, fun c1 hc1 => ?_⟩
  have kn := (PK.refl ka.2).new (o := .lst (cutV (zs.map V.str) none (some (k : Int)))) hc1
  have f1 := lw_to (k := k) hz hc1 ka
  have hb := hb.pk kn
  have ka := ka.trans kn
  refine ⟨_, rfl, _, rfl, _, _, rfl, rfl, _, rfl, b, _, rfl, SqL.of hb.2, fun c2 hc2 => ?_⟩
  have kn := (PK.refl ka.2).new (o := .lst (cutV (zs.map V.str) (some ((k : Int) + 1)) none)) hc2
  have f2 := lw_from (k := (k + 1)) hz hc2 ka
  have f1 := f1.pk kn
  have hb := hb.pk kn
  have ka := ka.trans kn
  have ⟨_, ys3a, e3a, b3a, o3a⟩ := f1
  have ⟨_, ys3b, e3b, b3b, o3b⟩ := f2
  refine ⟨c1, c2, _, _, rfl, rfl, e3a, e3b, Nat.le_of_lt (line5 (by rw [List.length_map, List.length_map]; omega)), fun c3 hc3 => ?_⟩
  have kn := (PK.refl ka.2).new (o := .lst (ys3a.map V.str ++ ys3b.map V.str)) hc3
  have f3 := lw_cat b3a b3b o3a o3b hc3 ka
  have hb := hb.pk kn
  have ka := ka.trans kn
  have g3 : NearAt a _ (.ref c3) := lw_near (by omega) f3
  refine ⟨_, rfl, _, rfl, _, _, rfl, rfl, _, rfl, b, _, rfl, SqL.of hb.2, fun c4 hc4 => ?_⟩
  have kn := (PK.refl ka.2).new (o := .lst (cutV (zs.map V.str) none (some ((k : Int) + 1)))) hc4
  have f4 := lw_to (k := (k + 1)) hz hc4 ka
  have g3 := g3.pk kn
  have hb := hb.pk kn
  have ka := ka.trans kn
  refine ⟨_, rfl, _, rfl, _, rfl, b, _, rfl, SqL.of hb.2, fun c5 hc5 => ?_⟩
  have kn := (PK.refl ka.2).new (o := .lst (cutV (zs.map V.str) (some (k : Int)) none)) hc5
  have f5 := lw_from (k := k) hz hc5 ka
  have f4 := f4.pk kn
  have g3 := g3.pk kn
  have hb := hb.pk kn
  have ka := ka.trans kn
  have ⟨_, ys6a, e6a, b6a, o6a⟩ := f4
  have ⟨_, ys6b, e6b, b6b, o6b⟩ := f5
  refine ⟨c4, c5, _, _, rfl, rfl, e6a, e6b, Nat.le_of_lt (line5 (by rw [List.length_map, List.length_map]; omega)), fun c6 hc6 => ?_⟩
  have kn := (PK.refl ka.2).new (o := .lst (ys6a.map V.str ++ ys6b.map V.str)) hc6
  have f6 := lw_cat b6a b6b o6a o6b hc6 ka
  have g3 := g3.pk kn
  have hb := hb.pk kn
  have ka := ka.trans kn
  have g6 : NearAt a _ (.ref c6) := lw_near (by omega) f6
  refine ⟨_, rfl, _, rfl, _, rfl, b, _, rfl, SqL.of hb.2, fun c7 hc7 => ?_⟩
  have kn := (PK.refl ka.2).new (o := .lst (cutV (zs.map V.str) none (some (k : Int)))) hc7
  have f7 := lw_to (k := k) hz hc7 ka
  have g3 := g3.pk kn
  have g6 := g6.pk kn
  have hb := hb.pk kn
  have ka := ka.trans kn
  refine ⟨_, rfl, _, rfl, _, _, rfl, rfl, _, rfl, _, rfl, _, _, rfl, rfl, _, rfl, b, _, rfl, SqL.of hb.2, fun c8 hc8 => ?_⟩
  have kn := (PK.refl ka.2).new (o := .lst (cutV (zs.map V.str) (some ((k : Int) + 1)) (some ((k : Int) + 2)))) hc8
  have f8 := lw_mid (j := (k + 1)) (k := (k + 2)) (by omega) hz hc8 ka
  have f7 := f7.pk kn
  have g3 := g3.pk kn
  have g6 := g6.pk kn
  have hb := hb.pk kn
  have ka := ka.trans kn
  have ⟨_, ys9a, e9a, b9a, o9a⟩ := f7
  have ⟨_, ys9b, e9b, b9b, o9b⟩ := f8
  refine ⟨c7, c8, _, _, rfl, rfl, e9a, e9b, Nat.le_of_lt (line5 (by rw [List.length_map, List.length_map]; omega)), fun c9 hc9 => ?_⟩
  have kn := (PK.refl ka.2).new (o := .lst (ys9a.map V.str ++ ys9b.map V.str)) hc9
  have f9 := lw_cat b9a b9b o9a o9b hc9 ka
  have g3 := g3.pk kn
  have g6 := g6.pk kn
  have hb := hb.pk kn
  have ka := ka.trans kn
  refine ⟨_, rfl, _, rfl, _, rfl, _, rfl, _, _, rfl, rfl, _, rfl, b, _, rfl, SqL.of hb.2, fun c10 hc10 => ?_⟩
  have kn := (PK.refl ka.2).new (o := .lst (cutV (zs.map V.str) (some (k : Int)) (some ((k : Int) + 1)))) hc10
  have f10 := lw_mid (j := k) (k := (k + 1)) (by omega) hz hc10 ka
  have f9 := f9.pk kn
  have g3 := g3.pk kn
  have g6 := g6.pk kn
  have hb := hb.pk kn
  have ka := ka.trans kn
  have ⟨_, ys11a, e11a, b11a, o11a⟩ := f9
  have ⟨_, ys11b, e11b, b11b, o11b⟩ := f10
  refine ⟨c9, c10, _, _, rfl, rfl, e11a, e11b, Nat.le_of_lt (line5 (by rw [List.length_map, List.length_map]; omega)), fun c11 hc11 => ?_⟩
  have kn := (PK.refl ka.2).new (o := .lst (ys11a.map V.str ++ ys11b.map V.str)) hc11
  have f11 := lw_cat b11a b11b o11a o11b hc11 ka
  have g3 := g3.pk kn
  have g6 := g6.pk kn
  have hb := hb.pk kn
  have ka := ka.trans kn
  refine ⟨_, rfl, _, rfl, _, _, rfl, rfl, _, rfl, b, _, rfl, SqL.of hb.2, fun c12 hc12 => ?_⟩
  have kn := (PK.refl ka.2).new (o := .lst (cutV (zs.map V.str) (some ((k : Int) + 2)) none)) hc12
  have f12 := lw_from (k := (k + 2)) hz hc12 ka
  have f11 := f11.pk kn
  have g3 := g3.pk kn
  have g6 := g6.pk kn
  have hb := hb.pk kn
  have ka := ka.trans kn
  have ⟨_, ys13a, e13a, b13a, o13a⟩ := f11
  have ⟨_, ys13b, e13b, b13b, o13b⟩ := f12
  refine ⟨c11, c12, _, _, rfl, rfl, e13a, e13b, Nat.le_of_lt (line5 (by rw [List.length_map, List.length_map]; omega)), fun c13 hc13 => ?_⟩
  have kn := (PK.refl ka.2).new (o := .lst (ys13a.map V.str ++ ys13b.map V.str)) hc13
  have f13 := lw_cat b13a b13b o13a o13b hc13 ka
  have g3 := g3.pk kn
  have g6 := g6.pk kn
  have hb := hb.pk kn
  have ka := ka.trans kn
  have g13 : NearAt a _ (.ref c13) := lw_near (by omega) f13
  refine ⟨by show 3 ≤ sizeLine; decide, fun q1 hq1 => ?_⟩
  have lq1 := listAt_mk (a := a) (xs := [V.ref c3, V.ref c6, V.ref c13]) hq1 ka
  have kn := (PK.refl ka.2).new (o := .lst [V.ref c3, V.ref c6, V.ref c13]) hq1
  have g3 := g3.pk kn
  have g6 := g6.pk kn
  have g13 := g13.pk kn
  have hb := hb.pk kn
  have ka := ka.trans kn
  refine ⟨_, rfl, ?_⟩
  refine ⟨_, rfl, _, rfl, _, rfl, b, _, rfl, SqL.of hb.2, fun c14 hc14 => ?_⟩
  have kn := (PK.refl ka.2).new (o := .lst (cutV (zs.map V.str) none (some (k : Int)))) hc14
  have f14 := lw_to (k := k) hz hc14 ka
  have g3 := g3.pk kn
  have g6 := g6.pk kn
  have g13 := g13.pk kn
  have lq1 := lq1.pk kn
  have hb := hb.pk kn
  have ka := ka.trans kn
  refine ⟨_, rfl, _, rfl, b, _, _, _, rfl, rfl, SqL.of hb.2, hat, zk, rfl, by have := hzk.2; rw [show ("" : Str).length = 0 by decide +kernel]; omega, _, _, rfl, rfl, Nat.le_of_lt (line5 hln1), _, _, rfl, rfl, Nat.le_of_lt (line5 hln2), ?_⟩
  refine ⟨by show 1 ≤ sizeLine; decide, fun c15 hc15 => ?_⟩
  have kn := (PK.refl ka.2).new (o := .lst [V.str (("'" : Str) ++ Txt.replace zk "'" "" ++ ("'" : Str))]) hc15
  have f15 := lw_lit (y := (("'" : Str) ++ Txt.replace zk "'" "" ++ ("'" : Str))) hqn hc15 ka
  have f14 := f14.pk kn
  have g3 := g3.pk kn
  have g6 := g6.pk kn
  have g13 := g13.pk kn
  have lq1 := lq1.pk kn
  have hb := hb.pk kn
  have ka := ka.trans kn
  have ⟨_, ys16a, e16a, b16a, o16a⟩ := f14
  have ⟨_, ys16b, e16b, b16b, o16b⟩ := f15
  refine ⟨c14, c15, _, _, rfl, rfl, e16a, e16b, Nat.le_of_lt (line5 (by rw [List.length_map, List.length_map]; omega)), fun c16 hc16 => ?_⟩
  have kn := (PK.refl ka.2).new (o := .lst (ys16a.map V.str ++ ys16b.map V.str)) hc16
  have f16 := lw_cat b16a b16b o16a o16b hc16 ka
  have g3 := g3.pk kn
  have g6 := g6.pk kn
  have g13 := g13.pk kn
  have lq1 := lq1.pk kn
  have hb := hb.pk kn
  have ka := ka.trans kn
  refine ⟨_, rfl, _, rfl, _, _, rfl, rfl, _, rfl, b, _, rfl, SqL.of hb.2, fun c17 hc17 => ?_⟩
  have kn := (PK.refl ka.2).new (o := .lst (cutV (zs.map V.str) (some ((k : Int) + 1)) none)) hc17
  have f17 := lw_from (k := (k + 1)) hz hc17 ka
  have f16 := f16.pk kn
  have g3 := g3.pk kn
  have g6 := g6.pk kn
  have g13 := g13.pk kn
  have lq1 := lq1.pk kn
  have hb := hb.pk kn
  have ka := ka.trans kn
  have ⟨_, ys18a, e18a, b18a, o18a⟩ := f16
  have ⟨_, ys18b, e18b, b18b, o18b⟩ := f17
  refine ⟨c16, c17, _, _, rfl, rfl, e18a, e18b, Nat.le_of_lt (line5 (by rw [List.length_map, List.length_map]; omega)), fun c18 hc18 => ?_⟩
  have kn := (PK.refl ka.2).new (o := .lst (ys18a.map V.str ++ ys18b.map V.str)) hc18
  have f18 := lw_cat b18a b18b o18a o18b hc18 ka
  have g3 := g3.pk kn
  have g6 := g6.pk kn
  have g13 := g13.pk kn
  have lq1 := lq1.pk kn
  have hb := hb.pk kn
  have ka := ka.trans kn
  have g18 : NearAt a _ (.ref c18) := lw_near (by omega) f18
  refine ⟨_, rfl, _, rfl, _, rfl, b, _, rfl, SqL.of hb.2, fun c19 hc19 => ?_⟩
  have kn := (PK.refl ka.2).new (o := .lst (cutV (zs.map V.str) none (some (k : Int)))) hc19
  have f19 := lw_to (k := k) hz hc19 ka
  have g3 := g3.pk kn
  have g6 := g6.pk kn
  have g13 := g13.pk kn
  have g18 := g18.pk kn
  have lq1 := lq1.pk kn
  have hb := hb.pk kn
  have ka := ka.trans kn
  refine ⟨by show 1 ≤ sizeLine; decide, fun c20 hc20 => ?_⟩
  have kn := (PK.refl ka.2).new (o := .lst [V.str ("#" : Str)]) hc20
  have f20 := lw_lit (y := ("#" : Str)) hn_h hc20 ka
  have f19 := f19.pk kn
  have g3 := g3.pk kn
  have g6 := g6.pk kn
  have g13 := g13.pk kn
  have g18 := g18.pk kn
  have lq1 := lq1.pk kn
  have hb := hb.pk kn
  have ka := ka.trans kn
  have ⟨_, ys21a, e21a, b21a, o21a⟩ := f19
  have ⟨_, ys21b, e21b, b21b, o21b⟩ := f20
  refine ⟨c19, c20, _, _, rfl, rfl, e21a, e21b, Nat.le_of_lt (line5 (by rw [List.length_map, List.length_map]; omega)), fun c21 hc21 => ?_⟩
  have kn := (PK.refl ka.2).new (o := .lst (ys21a.map V.str ++ ys21b.map V.str)) hc21
  have f21 := lw_cat b21a b21b o21a o21b hc21 ka
  have g3 := g3.pk kn
  have g6 := g6.pk kn
  have g13 := g13.pk kn
  have g18 := g18.pk kn
  have lq1 := lq1.pk kn
  have hb := hb.pk kn
  have ka := ka.trans kn
  refine ⟨_, rfl, _, rfl, _, _, rfl, rfl, _, rfl, b, _, rfl, SqL.of hb.2, fun c22 hc22 => ?_⟩
  have kn := (PK.refl ka.2).new (o := .lst (cutV (zs.map V.str) (some ((k : Int) + 1)) none)) hc22
  have f22 := lw_from (k := (k + 1)) hz hc22 ka
  have f21 := f21.pk kn
  have g3 := g3.pk kn
  have g6 := g6.pk kn
  have g13 := g13.pk kn
  have g18 := g18.pk kn
  have lq1 := lq1.pk kn
  have hb := hb.pk kn
  have ka := ka.trans kn
  have ⟨_, ys23a, e23a, b23a, o23a⟩ := f21
  have ⟨_, ys23b, e23b, b23b, o23b⟩ := f22
  refine ⟨c21, c22, _, _, rfl, rfl, e23a, e23b, Nat.le_of_lt (line5 (by rw [List.length_map, List.length_map]; omega)), fun c23 hc23 => ?_⟩
  have kn := (PK.refl ka.2).new (o := .lst (ys23a.map V.str ++ ys23b.map V.str)) hc23
  have f23 := lw_cat b23a b23b o23a o23b hc23 ka
  have g3 := g3.pk kn
  have g6 := g6.pk kn
  have g13 := g13.pk kn
  have g18 := g18.pk kn
  have lq1 := lq1.pk kn
  have hb := hb.pk kn
  have ka := ka.trans kn
  have g23 : NearAt a _ (.ref c23) := lw_near (by omega) f23
  refine ⟨by show 2 ≤ sizeLine; decide, fun q2 hq2 => ?_⟩
  have lq2 := listAt_mk (a := a) (xs := [V.ref c18, V.ref c23]) hq2 ka
  have kn := (PK.refl ka.2).new (o := .lst [V.ref c18, V.ref c23]) hq2
  have g3 := g3.pk kn
  have g6 := g6.pk kn
  have g13 := g13.pk kn
  have g18 := g18.pk kn
  have g23 := g23.pk kn
  have lq1 := lq1.pk kn
  have hb := hb.pk kn
  have ka := ka.trans kn
  refine ⟨q1, q2, _, _, rfl, rfl, lq1.2, lq2.2, by show 5 ≤ sizeLine; decide, fun q3 hq3 => ?_⟩
  have lq3 := listAt_mk (a := a) (xs := [V.ref c3, V.ref c6, V.ref c13, V.ref c18, V.ref c23]) hq3 ka
  have kn := (PK.refl ka.2).new (o := .lst [V.ref c3, V.ref c6, V.ref c13, V.ref c18, V.ref c23]) hq3
  have g3 := g3.pk kn
  have g6 := g6.pk kn
  have g13 := g13.pk kn
  have g18 := g18.pk kn
  have g23 := g23.pk kn
  have hb := hb.pk kn
  have ka := ka.trans kn
  refine ⟨_, rfl, ?_⟩
  refine ⟨_, rfl, _, rfl, _, rfl, b, _, rfl, SqL.of hb.2, fun c24 hc24 => ?_⟩
  have kn := (PK.refl ka.2).new (o := .lst (cutV (zs.map V.str) none (some (k : Int)))) hc24
  have f24 := lw_to (k := k) hz hc24 ka
  have g3 := g3.pk kn
  have g6 := g6.pk kn
  have g13 := g13.pk kn
  have g18 := g18.pk kn
  have g23 := g23.pk kn
  have lq3 := lq3.pk kn
  have hb := hb.pk kn
  have ka := ka.trans kn
  refine ⟨by show 1 ≤ sizeLine; decide, fun c25 hc25 => ?_⟩
  have kn := (PK.refl ka.2).new (o := .lst [V.str ("selfs" : Str)]) hc25
  have f25 := lw_lit (y := ("selfs" : Str)) hn_s hc25 ka
  have f24 := f24.pk kn
  have g3 := g3.pk kn
  have g6 := g6.pk kn
  have g13 := g13.pk kn
  have g18 := g18.pk kn
  have g23 := g23.pk kn
  have lq3 := lq3.pk kn
  have hb := hb.pk kn
  have ka := ka.trans kn
  have ⟨_, ys26a, e26a, b26a, o26a⟩ := f24
  have ⟨_, ys26b, e26b, b26b, o26b⟩ := f25
  refine ⟨c24, c25, _, _, rfl, rfl, e26a, e26b, Nat.le_of_lt (line5 (by rw [List.length_map, List.length_map]; omega)), fun c26 hc26 => ?_⟩
  have kn := (PK.refl ka.2).new (o := .lst (ys26a.map V.str ++ ys26b.map V.str)) hc26
  have f26 := lw_cat b26a b26b o26a o26b hc26 ka
  have g3 := g3.pk kn
  have g6 := g6.pk kn
  have g13 := g13.pk kn
  have g18 := g18.pk kn
  have g23 := g23.pk kn
  have lq3 := lq3.pk kn
  have hb := hb.pk kn
  have ka := ka.trans kn
  refine ⟨_, rfl, _, rfl, _, _, rfl, rfl, _, rfl, b, _, rfl, SqL.of hb.2, fun c27 hc27 => ?_⟩
  have kn := (PK.refl ka.2).new (o := .lst (cutV (zs.map V.str) (some ((k : Int) + 1)) none)) hc27
  have f27 := lw_from (k := (k + 1)) hz hc27 ka
  have f26 := f26.pk kn
  have g3 := g3.pk kn
  have g6 := g6.pk kn
  have g13 := g13.pk kn
  have g18 := g18.pk kn
  have g23 := g23.pk kn
  have lq3 := lq3.pk kn
  have hb := hb.pk kn
  have ka := ka.trans kn
  have ⟨_, ys28a, e28a, b28a, o28a⟩ := f26
  have ⟨_, ys28b, e28b, b28b, o28b⟩ := f27
  refine ⟨c26, c27, _, _, rfl, rfl, e28a, e28b, Nat.le_of_lt (line5 (by rw [List.length_map, List.length_map]; omega)), fun c28 hc28 => ?_⟩
  have kn := (PK.refl ka.2).new (o := .lst (ys28a.map V.str ++ ys28b.map V.str)) hc28
  have f28 := lw_cat b28a b28b o28a o28b hc28 ka
  have g3 := g3.pk kn
  have g6 := g6.pk kn
  have g13 := g13.pk kn
  have g18 := g18.pk kn
  have g23 := g23.pk kn
  have lq3 := lq3.pk kn
  have hb := hb.pk kn
  have ka := ka.trans kn
  have g28 : NearAt a _ (.ref c28) := lw_near (by omega) f28
  refine ⟨_, rfl, _, rfl, _, rfl, b, _, rfl, SqL.of hb.2, fun c29 hc29 => ?_⟩
  have kn := (PK.refl ka.2).new (o := .lst (cutV (zs.map V.str) none (some (k : Int)))) hc29
  have f29 := lw_to (k := k) hz hc29 ka
  have g3 := g3.pk kn
  have g6 := g6.pk kn
  have g13 := g13.pk kn
  have g18 := g18.pk kn
  have g23 := g23.pk kn
  have g28 := g28.pk kn
  have lq3 := lq3.pk kn
  have hb := hb.pk kn
  have ka := ka.trans kn
  refine ⟨_, rfl, _, rfl, b, _, _, _, rfl, rfl, SqL.of hb.2, hat, _, _, rfl, rfl, Nat.le_of_lt (line5 hm1), ?_⟩
  refine ⟨by show 1 ≤ sizeLine; decide, fun c30 hc30 => ?_⟩
  have kn := (PK.refl ka.2).new (o := .lst [V.str (zk ++ ("'" : Str))]) hc30
  have f30 := lw_lit (y := (zk ++ ("'" : Str))) hmn hc30 ka
  have f29 := f29.pk kn
  have g3 := g3.pk kn
  have g6 := g6.pk kn
  have g13 := g13.pk kn
  have g18 := g18.pk kn
  have g23 := g23.pk kn
  have g28 := g28.pk kn
  have lq3 := lq3.pk kn
  have hb := hb.pk kn
  have ka := ka.trans kn
  have ⟨_, ys31a, e31a, b31a, o31a⟩ := f29
  have ⟨_, ys31b, e31b, b31b, o31b⟩ := f30
  refine ⟨c29, c30, _, _, rfl, rfl, e31a, e31b, Nat.le_of_lt (line5 (by rw [List.length_map, List.length_map]; omega)), fun c31 hc31 => ?_⟩
  have kn := (PK.refl ka.2).new (o := .lst (ys31a.map V.str ++ ys31b.map V.str)) hc31
  have f31 := lw_cat b31a b31b o31a o31b hc31 ka
  have g3 := g3.pk kn
  have g6 := g6.pk kn
  have g13 := g13.pk kn
  have g18 := g18.pk kn
  have g23 := g23.pk kn
  have g28 := g28.pk kn
  have lq3 := lq3.pk kn
  have hb := hb.pk kn
  have ka := ka.trans kn
  refine ⟨_, rfl, _, rfl, _, _, rfl, rfl, _, rfl, b, _, rfl, SqL.of hb.2, fun c32 hc32 => ?_⟩
  have kn := (PK.refl ka.2).new (o := .lst (cutV (zs.map V.str) (some ((k : Int) + 1)) none)) hc32
  have f32 := lw_from (k := (k + 1)) hz hc32 ka
  have f31 := f31.pk kn
  have g3 := g3.pk kn
  have g6 := g6.pk kn
  have g13 := g13.pk kn
  have g18 := g18.pk kn
  have g23 := g23.pk kn
  have g28 := g28.pk kn
  have lq3 := lq3.pk kn
  have hb := hb.pk kn
  have ka := ka.trans kn
  have ⟨_, ys33a, e33a, b33a, o33a⟩ := f31
  have ⟨_, ys33b, e33b, b33b, o33b⟩ := f32
  refine ⟨c31, c32, _, _, rfl, rfl, e33a, e33b, Nat.le_of_lt (line5 (by rw [List.length_map, List.length_map]; omega)), fun c33 hc33 => ?_⟩
  have kn := (PK.refl ka.2).new (o := .lst (ys33a.map V.str ++ ys33b.map V.str)) hc33
  have f33 := lw_cat b33a b33b o33a o33b hc33 ka
  have g3 := g3.pk kn
  have g6 := g6.pk kn
  have g13 := g13.pk kn
  have g18 := g18.pk kn
  have g23 := g23.pk kn
  have g28 := g28.pk kn
  have lq3 := lq3.pk kn
  have hb := hb.pk kn
  have ka := ka.trans kn
  have g33 : NearAt a _ (.ref c33) := lw_near (by omega) f33
  refine ⟨_, rfl, ?_⟩
  refine ⟨by show 1 ≤ sizeLine; decide, fun c34 hc34 => ?_⟩
  have kn := (PK.refl ka.2).new (o := .lst [V.str ("x" : Str)]) hc34
  have f34 := lw_lit (y := ("x" : Str)) hn_x hc34 ka
  have g3 := g3.pk kn
  have g6 := g6.pk kn
  have g13 := g13.pk kn
  have g18 := g18.pk kn
  have g23 := g23.pk kn
  have g28 := g28.pk kn
  have g33 := g33.pk kn
  have lq3 := lq3.pk kn
  have hb := hb.pk kn
  have ka := ka.trans kn
  have ⟨_, ys35a, e35a, b35a, o35a⟩ := hw0 hb
  have ⟨_, ys35b, e35b, b35b, o35b⟩ := f34
  refine ⟨b, c34, _, _, rfl, rfl, e35a, e35b, Nat.le_of_lt (line5 (by rw [List.length_map, List.length_map]; omega)), fun c35 hc35 => ?_⟩
  have kn := (PK.refl ka.2).new (o := .lst (ys35a.map V.str ++ ys35b.map V.str)) hc35
  have f35 := lw_cat b35a b35b o35a o35b hc35 ka
  have g3 := g3.pk kn
  have g6 := g6.pk kn
  have g13 := g13.pk kn
  have g18 := g18.pk kn
  have g23 := g23.pk kn
  have g28 := g28.pk kn
  have g33 := g33.pk kn
  have lq3 := lq3.pk kn
  have hb := hb.pk kn
  have ka := ka.trans kn
  have g35 : NearAt a _ (.ref c35) := lw_near (by omega) f35
  refine ⟨_, rfl, ?_⟩
  refine ⟨by show 1 ≤ sizeLine; decide, fun c36 hc36 => ?_⟩
  have kn := (PK.refl ka.2).new (o := .lst [V.str ("''" : Str)]) hc36
  have f36 := lw_lit (y := ("''" : Str)) hn_q hc36 ka
  have g3 := g3.pk kn
  have g6 := g6.pk kn
  have g13 := g13.pk kn
  have g18 := g18.pk kn
  have g23 := g23.pk kn
  have g28 := g28.pk kn
  have g33 := g33.pk kn
  have g35 := g35.pk kn
  have lq3 := lq3.pk kn
  have hb := hb.pk kn
  have ka := ka.trans kn
  have ⟨_, ys37a, e37a, b37a, o37a⟩ := hw0 hb
  have ⟨_, ys37b, e37b, b37b, o37b⟩ := f36
  refine ⟨b, c36, _, _, rfl, rfl, e37a, e37b, Nat.le_of_lt (line5 (by rw [List.length_map, List.length_map]; omega)), fun c37 hc37 => ?_⟩
  have kn := (PK.refl ka.2).new (o := .lst (ys37a.map V.str ++ ys37b.map V.str)) hc37
  have f37 := lw_cat b37a b37b o37a o37b hc37 ka
  have g3 := g3.pk kn
  have g6 := g6.pk kn
  have g13 := g13.pk kn
  have g18 := g18.pk kn
  have g23 := g23.pk kn
  have g28 := g28.pk kn
  have g33 := g33.pk kn
  have g35 := g35.pk kn
  have lq3 := lq3.pk kn
  have hb := hb.pk kn
  have ka := ka.trans kn
  have g37 : NearAt a _ (.ref c37) := lw_near (by omega) f37
  refine ⟨by show 4 ≤ sizeLine; decide, fun q4 hq4 => ?_⟩
  have lq4 := listAt_mk (a := a) (xs := [V.ref c28, V.ref c33, V.ref c35, V.ref c37]) hq4 ka
  have kn := (PK.refl ka.2).new (o := .lst [V.ref c28, V.ref c33, V.ref c35, V.ref c37]) hq4
  have g3 := g3.pk kn
  have g6 := g6.pk kn
  have g13 := g13.pk kn
  have g18 := g18.pk kn
  have g23 := g23.pk kn
  have g28 := g28.pk kn
  have g33 := g33.pk kn
  have g35 := g35.pk kn
  have g37 := g37.pk kn
  have lq3 := lq3.pk kn
  have hb := hb.pk kn
  have ka := ka.trans kn
  refine ⟨q3, q4, _, _, rfl, rfl, lq3.2, lq4.2, by show 9 ≤ sizeLine; decide, fun q5 hq5 => ?_⟩
  have lq5 := listAt_mk (a := a) (xs := [V.ref c3, V.ref c6, V.ref c13, V.ref c18, V.ref c23, V.ref c28, V.ref c33, V.ref c35, V.ref c37]) hq5 ka
  have kn := (PK.refl ka.2).new (o := .lst [V.ref c3, V.ref c6, V.ref c13, V.ref c18, V.ref c23, V.ref c28, V.ref c33, V.ref c35, V.ref c37]) hq5
  have g3 := g3.pk kn
  have g6 := g6.pk kn
  have g13 := g13.pk kn
  have g18 := g18.pk kn
  have g23 := g23.pk kn
  have g28 := g28.pk kn
  have g33 := g33.pk kn
  have g35 := g35.pk kn
  have g37 := g37.pk kn
  have hb := hb.pk kn
  have ka := ka.trans kn
  refine ⟨_, rfl, hQ q5 _ _ ka lq5.1 lq5.2 (by show 9 ≤ 9; decide) ?_⟩
  simp only [List.mem_cons, List.not_mem_nil, or_false]
  rintro v (rfl | rfl | rfl | rfl | rfl | rfl | rfl | rfl | rfl)
  · exact g3
  · exact g6
  · exact g13
  · exact g18
  · exact g23
  · exact g28
  · exact g33
  · exact g35
  · exact g37
end
end K80

set_option Elab.async false
set_option linter.all false
set_option maxRecDepth 100000
set_option maxHeartbeats 800000
/-! law k80: the kinds of signs, the table of states -/
namespace K80
open PySem PySem.Spec PyProof.Rows L2
open K80M (Wd Part)
def kdS : K80M.Kd → Str
  | .blank => "blank"
  | .stop => "end"
  | .quote => "quote"
  | .other => "other"
def stS : K80M.S → Str
  | .btw => "between"
  | .word => "word"
  | .quoted => "quoted"
  | .behind => "behind"
  | .spoilt => "spoilt"
/-- the table at p -/
def TabAt (H : Hp) (p : Addr) : Prop := ∃ kvs : List (List Key × V), H p = some (.dT kvs) ∧ ∀ s k, valV kvs [.inr (stS s), .inr (kdS k)] = some (.str (stS (K80M.tab s k)))
theorem TabAt.same {H H' : Hp} {p : Addr} (s : Same H H') (h : TabAt H p) : TabAt H' p := by
  obtain ⟨kvs, e, h⟩ := h
  exact ⟨kvs, s _ _ e, h⟩
theorem u1 {n : Nat} (h : n + 64 < cLine) : n + 1 < cLine := by omega
theorem u0 {n : Nat} (h : n + 64 < cLine) : n < cLine := by omega
abbrev tPr (a b v : Str) : TE × TE := (tTup (tCons (tC (.str a)) (tCons (tC (.str b)) tNil)), tC (.str v))
abbrev kPr (a b v : Str) : List Key × V := ([.inr a, .inr b], .str v)
theorem dispT4 {σ : L2.St} {H : Hp} {Q : VK} (a1 b1 v1 a2 b2 v2 a3 b3 v3 a4 b4 v4 : Str) (h : ∀ p H2, H p = none → Same H H2 → H2 p = some (.dT (mergeT [] [kPr a1 b1 v1, kPr a2 b2 v2, kPr a3 b3 v3, kPr a4 b4 v4])) → Q (.ref p) H2) :
    tDispT [tPr a1 b1 v1, tPr a2 b2 v2, tPr a3 b3 v3, tPr a4 b4 v4] σ H Q := by
  intro p hp
  have le2 : 2 ≤ sizeLine := by decide
  refine ⟨le2, fun t1 h1 => ⟨le2, fun t2 h2 => ⟨le2, fun t3 h3 => ⟨le2, fun t4 h4 => ?_⟩⟩⟩⟩
  have s1 := Same.new (o := .tup [V.str a1, V.str b1]) h1
  have s2 := Same.new (o := .tup [V.str a2, V.str b2]) h2
  have s3 := Same.new (o := .tup [V.str a3, V.str b3]) h3
  have s4 := Same.new (o := .tup [V.str a4, V.str b4]) h4
  refine ⟨(s1.trans (s2.trans (s3.trans s4))) _ _ upd_same, [([.inr a1, .inr b1], t1, .str v1), ([.inr a2, .inr b2], t2, .str v2), ([.inr a3, .inr b3], t3, .str v3), ([.inr a4, .inr b4], t4, .str v4)], rfl, by show 4 ≤ 15; decide, ?_, ?_⟩
  · intro t ht
    simp only [List.mem_cons, List.not_mem_nil, or_false] at ht
    rcases ht with rfl | rfl | rfl | rfl
    · exact (s2.trans (s3.trans s4)) _ _ upd_same
    · exact (s3.trans s4) _ _ upd_same
    · exact s4 _ _ upd_same
    · exact upd_same
  · exact h p _ hp (Same.mut ((Same.new hp).trans (s1.trans (s2.trans (s3.trans s4)))) hp) upd_same
theorem seq_set {te : TE} {i : Nat} {u : TS} {D : Ends} {σ : L2.St} {H : Hp} (h : te σ H fun x H1 => u D (σ.set i (some x)) H1) : tSeq (tAsg te (gName i)) u D σ H := h
/-- d.update({..}), d at slot 0, new since H0 -/
theorem seq_upd {K : PySem.W.Frag} {u : TS} {D : Ends} {d : Addr} {r : L2.St} {H0 H : Hp} {kvs : List (List Key × V)} (s0 : Same H0 H) (n0 : H0 d = none) (e : H d = some (.dT kvs)) (hl : kvs.length ≤ 1000) (hne : kvs ≠ [])
    (a1 b1 v1 a2 b2 v2 a3 b3 v3 a4 b4 v4 : Str) (h : ∀ H', Same H0 H' → H' d = some (.dT (mergeT kvs (mergeT [] [kPr a1 b1 v1, kPr a2 b2 v2, kPr a3 b3 v3, kPr a4 b4 v4]))) → u D (some (.ref d) :: r) H') :
    tSeq (tDrop (tBM K "dict" rUpdT (tVar 0) (tCons (tDispT [tPr a1 b1 v1, tPr a2 b2 v2, tPr a3 b3 v3, tPr a4 b4 v4]) tNil))) u D (some (.ref d) :: r) H := by
  refine ⟨_, rfl, .inr (.inr (.inl ⟨rfl, .inr ⟨_, e⟩⟩)), dispT4 _ _ _ _ _ _ _ _ _ _ _ _ fun o H1 ho s1 e1 => ?_⟩
  have hd1 := s1 _ _ e
  refine ⟨d, o, _, _, rfl, rfl, ne_of_none e ho, hd1, e1, hne, ?_, h _ (Same.mut (s0.trans s1) n0) upd_same⟩
  have := length_mergeT [kPr a1 b1 v1, kPr a2 b2 v2, kPr a3 b3 v3, kPr a4 b4 v4] []
  simp only [List.length_cons, List.length_nil] at this
  exact Nat.le_of_lt (line5 (by omega))
section
variable {P : Program} {w : World} {K : PySem.W.Frag} {mg : Str → Option Value} {base : Heap} {F C : Addr}
def spKind : Sp := fun vs H Q _ => ∃ c : Nat, vs = [.str ⟨#[c]⟩] ∧ ∀ H', Same H H' → Q (.str (kdS (K80M.kindOf c))) H'
theorem ok_law_kind (T : Txt K w mg F) (A : At K mg "_law_kind" s_law_kind) : Cal P w K mg base CX0 1 "_law_kind" ["sign"] spKind := by
  refine A.ok sc_law_kind (fun vs H Q E h => ?_) bd_law_kind (fun f cdv A outer s H vs Q E hr h => ?_)
  · obtain ⟨c, rfl, _⟩ := h; rfl
  obtain ⟨c, rfl, hQ⟩ := h
  refine ⟨_, (pss_cons (ps_if (pt_cmpR op_in_sign (pv 0) pe_str rfl) (pss_one (ps_ret pe_str)) pss_nil)
      (pss_cons (ps_if (pt_cmpR op_eq (pv 0) pe_str (nomark _)) (pss_one (ps_ret pe_str)) pss_nil)
      (pss_one (ps_ret (pe_ix ix_list (pe_lst (pa_cons pe_str (pa_cons pe_str pa_nil))) (pe_callTy call_int1 (by rfl) T.b_int boot_int (pa_cons (pe_cmpR op_eq (pv 0) pe_str (nomark _)) pa_nil)) (fun _ _ => rfl)))))), ?_⟩
  refine ⟨_, rfl, c, _, rfl, rfl, _, rfl, ?_⟩
  rw [mem_bl]
  by_cases hb : K80M.blank c = true
  · rw [show K80M.kindOf c = .blank from if_pos hb] at hQ
    exact ifT hb (hQ H (Same.refl H))
  · have hb' : K80M.blank c = false := by cases q : K80M.blank c with
      | true => exact absurd q hb
      | false => rfl
    refine ifF hb' ⟨_, rfl, rfl, _, rfl, ?_⟩
    by_cases h59 : c = 59
    · rw [show K80M.kindOf c = .stop from by unfold K80M.kindOf; rw [if_neg hb, if_pos h59]] at hQ
      exact ifT (dec_str _ (by rw [cz_one, cz_59]; simp [h59])) (hQ H (Same.refl H))
    · refine ifF (dec_str _ (by rw [cz_one, cz_59]; simp [h59])) ⟨by show 2 ≤ sizeLine; decide, fun l hl => ?_⟩
      refine ⟨_, rfl, rfl, .inr ⟨_, rfl, ?_⟩⟩
      by_cases h39 : c = 39
      · rw [show K80M.kindOf c = .quote from by unfold K80M.kindOf; rw [if_neg hb, if_neg h59, if_pos h39]] at hQ
        rw [dec_str (x := ⟨#[c]⟩) (y := "'") true (by rw [cz_one, cz_39]; simp [h39])]
        exact ⟨l, _, _, _, rfl, rfl, SqL.of upd_same, atI_nat (j := 1) rfl, hQ _ (Same.new hl)⟩
      · rw [show K80M.kindOf c = .other from by unfold K80M.kindOf; rw [if_neg hb, if_neg h59, if_neg h39]] at hQ
        rw [dec_str (x := ⟨#[c]⟩) (y := "'") false (by rw [cz_one, cz_39]; simp [h39])]
        exact ⟨l, _, _, _, rfl, rfl, SqL.of upd_same, atI_nat (j := 0) rfl, hQ _ (Same.new hl)⟩
def spStates : Sp := fun vs H Q _ => vs = [] ∧ ∀ H' p, Same H H' → H p = none → TabAt H' p → Q (.ref p) H'
theorem ok_law_states (T : Txt K w mg F) (A : At K mg "_law_states" s_law_states) : Cal P w K mg base CX0 1 "_law_states" [] spStates := by
  refine A.ok sc_law_states (fun vs H Q E h => ?_) bd_law_states (fun f cdv A outer s H vs Q E hr h => ?_)
  · rw [h.1]; rfl
  obtain ⟨rfl, hQ⟩ := h
  have hu := u1 hr.units
  have hu0 := u0 hr.units
  refine ⟨_, (pss_cons (ps_set (i := 0) sc_law_states.nd rfl (Or.inl rfl) (pe_dispT hu0 (pps_cons (pe_tup (pa_cons pe_str (pa_cons pe_str pa_nil))) pe_str (pps_cons (pe_tup (pa_cons pe_str (pa_cons pe_str pa_nil))) pe_str (pps_cons (pe_tup (pa_cons pe_str (pa_cons pe_str pa_nil))) pe_str (pps_cons (pe_tup (pa_cons pe_str (pa_cons pe_str pa_nil))) pe_str pps_nil)))) (by rfl) (by rfl) (fun z => by cases z) (by decide)))
      (pss_cons (ps_expr (pe_bm PySem.F.plainAttrs_dict PySem.F.slot_dict_update PySem.F.type_dict_update (mt_updT hu) (pv 0) (pa_cons (pe_dispT hu0 (pps_cons (pe_tup (pa_cons pe_str (pa_cons pe_str pa_nil))) pe_str (pps_cons (pe_tup (pa_cons pe_str (pa_cons pe_str pa_nil))) pe_str (pps_cons (pe_tup (pa_cons pe_str (pa_cons pe_str pa_nil))) pe_str (pps_cons (pe_tup (pa_cons pe_str (pa_cons pe_str pa_nil))) pe_str pps_nil)))) (by rfl) (by rfl) (fun z => by cases z) (by decide)) pa_nil)))
      (pss_cons (ps_expr (pe_bm PySem.F.plainAttrs_dict PySem.F.slot_dict_update PySem.F.type_dict_update (mt_updT hu) (pv 0) (pa_cons (pe_dispT hu0 (pps_cons (pe_tup (pa_cons pe_str (pa_cons pe_str pa_nil))) pe_str (pps_cons (pe_tup (pa_cons pe_str (pa_cons pe_str pa_nil))) pe_str (pps_cons (pe_tup (pa_cons pe_str (pa_cons pe_str pa_nil))) pe_str (pps_cons (pe_tup (pa_cons pe_str (pa_cons pe_str pa_nil))) pe_str pps_nil)))) (by rfl) (by rfl) (fun z => by cases z) (by decide)) pa_nil)))
      (pss_cons (ps_expr (pe_bm PySem.F.plainAttrs_dict PySem.F.slot_dict_update PySem.F.type_dict_update (mt_updT hu) (pv 0) (pa_cons (pe_dispT hu0 (pps_cons (pe_tup (pa_cons pe_str (pa_cons pe_str pa_nil))) pe_str (pps_cons (pe_tup (pa_cons pe_str (pa_cons pe_str pa_nil))) pe_str (pps_cons (pe_tup (pa_cons pe_str (pa_cons pe_str pa_nil))) pe_str (pps_cons (pe_tup (pa_cons pe_str (pa_cons pe_str pa_nil))) pe_str pps_nil)))) (by rfl) (by rfl) (fun z => by cases z) (by decide)) pa_nil)))
      (pss_cons (ps_expr (pe_bm PySem.F.plainAttrs_dict PySem.F.slot_dict_update PySem.F.type_dict_update (mt_updT hu) (pv 0) (pa_cons (pe_dispT hu0 (pps_cons (pe_tup (pa_cons pe_str (pa_cons pe_str pa_nil))) pe_str (pps_cons (pe_tup (pa_cons pe_str (pa_cons pe_str pa_nil))) pe_str (pps_cons (pe_tup (pa_cons pe_str (pa_cons pe_str pa_nil))) pe_str (pps_cons (pe_tup (pa_cons pe_str (pa_cons pe_str pa_nil))) pe_str pps_nil)))) (by rfl) (by rfl) (fun z => by cases z) (by decide)) pa_nil)))
      (pss_one (ps_ret (pv 0)))))))), ?_⟩
  refine seq_set (dispT4 _ _ _ _ _ _ _ _ _ _ _ _ fun p H1 hp s1 e1 => ?_)
  refine seq_upd (H0 := H) s1 hp e1 (by decide) (by decide) _ _ _ _ _ _ _ _ _ _ _ _ fun H2 s2 e2 => ?_
  refine seq_upd (H0 := H) s2 hp e2 (by decide +kernel) (by decide +kernel) _ _ _ _ _ _ _ _ _ _ _ _ fun H3 s3 e3 => ?_
  refine seq_upd (H0 := H) s3 hp e3 (by decide +kernel) (by decide +kernel) _ _ _ _ _ _ _ _ _ _ _ _ fun H4 s4 e4 => ?_
  refine seq_upd (H0 := H) s4 hp e4 (by decide +kernel) (by decide +kernel) _ _ _ _ _ _ _ _ _ _ _ _ fun H5 s5 e5 => ?_
  refine ⟨_, rfl, hQ _ p s5 hp ⟨_, e5, fun st k => ?_⟩⟩
  cases st <;> cases k <;> decide +kernel
end
end K80

set_option Elab.async false
set_option linter.all false
set_option maxRecDepth 100000
set_option maxHeartbeats 1600000
/-! law k80: the machine of the law -/
namespace K80
open PySem PySem.Spec PyProof.Rows L2
open K80M (Wd Part)
theorem st_eq (s t : K80M.S) : decide (V.str (stS s) = V.str (stS t)) = decide (s = t) := by cases s <;> cases t <;> decide +kernel
theorem kd_eq (s t : K80M.Kd) : decide (V.str (kdS s) = V.str (kdS t)) = decide (s = t) := by cases s <;> cases t <;> decide +kernel
theorem st_in2 (s : K80M.S) : inV (V.str (stS s)) [V.str "word", V.str "spoilt"] = K80M.isW s := by cases s <;> decide +kernel
theorem st_in3 (s : K80M.S) : inV (V.str (stS s)) [V.str "word", V.str "spoilt", V.str "quoted"] = (K80M.isW s || s == .quoted) := by cases s <;> decide +kernel
theorem kd_in2 (k : K80M.Kd) : inV (V.str (kdS k)) [V.str "blank", V.str "end"] = (k == .blank || k == .stop) := by cases k <;> decide +kernel
theorem te_genT {tt : TT} {σ : L2.St} {H : Hp} {Q0 : Bool → Hp → Prop} (R : Bool → Hp → Prop) (h : ∀ Q : Bool → Hp → Prop, (∀ x H1, R x H1 → Q x H1) → tt σ H Q) (k : ∀ x H1, R x H1 → Q0 x H1) : tt σ H Q0 := h Q0 k
theorem seq_if {c : TT} {t f u : TS} {D : Ends} {σ : L2.St} {H : Hp} (h : c σ H fun b H1 => if b = true then t { D with nx := u D } σ H1 else f { D with nx := u D } σ H1) : tSeq (tIfS c t f) u D σ H := h
theorem seq_if1 {c : TT} {t f : TS} {D : Ends} {σ : L2.St} {H : Hp} (h : c σ H fun b H1 => if b = true then t D σ H1 else f D σ H1) : tIfS c t f D σ H := h
theorem te_gen {te : TE} {σ : L2.St} {H : Hp} {Q0 : VK} (R : V → Hp → Prop) (h : ∀ Q : VK, (∀ x H1, R x H1 → Q x H1) → te σ H Q) (k : ∀ x H1, R x H1 → Q0 x H1) : te σ H Q0 := h Q0 k
theorem kindOf_stop {c : Nat} (h : K80M.kindOf c = .stop) : c = 59 := by
  unfold K80M.kindOf at h
  split at h
  · cases h
  · split at h
    · assumption
    · split at h <;> cases h
/-! ### words as lists -/
def RepL (H : Hp) (v : V) (u : Wd) : Prop := ∃ a, v = .ref a ∧ H a = some (.lst [.str (S u.1), .bl u.2])
def RepLs (H : Hp) (a : Addr) (ws : List Wd) : Prop := ∃ xs, H a = some (.lst xs) ∧ Paired (RepL H) xs ws
def RepLP (H : Hp) (v : V) : Part → Prop
  | none => v = .non
  | some ws => ∃ a, v = .ref a ∧ RepLs H a ws
theorem RepL.same {H H' : Hp} (s : Same H H') {v : V} {u : Wd} (h : RepL H v u) : RepL H' v u := by
  obtain ⟨a, e, h⟩ := h
  exact ⟨a, e, s _ _ h⟩
theorem RepLs.same {H H' : Hp} (s : Same H H') {a : Addr} {ws : List Wd} (h : RepLs H a ws) : RepLs H' a ws := by
  obtain ⟨xs, e, h⟩ := h
  exact ⟨xs, s _ _ e, Paired.mapP h fun _ _ q => q.same s⟩
theorem RepLP.same {H H' : Hp} (s : Same H H') {v : V} {p : Part} (h : RepLP H v p) : RepLP H' v p := by
  cases p with
  | none => exact h
  | some ws =>
    obtain ⟨a, e, h⟩ := h
    exact ⟨a, e, h.same s⟩
/-- G holds nothing that H holds -/
def Dj (H G : Hp) : Prop := ∀ b u, H b = some u → G b = none
theorem Dj.upd {H G : Hp} {a : Addr} {o : HO} (d : Dj H G) (n : H a = none) : Dj H (upd G a o) := fun b u e => by
  rw [upd_ne (ne_of_none e n)]; exact d b u e
def LastOk (H G H' : Hp) (pa wa : Addr) (ys : List V) (ws : List Wd) : Prop := (ys = [] ∧ ws = []) ∨ ∃ (yi : List V) (wi : List Wd) (la : Addr) (wl : Wd), ys = yi ++ [.ref la] ∧ ws = wi ++ [wl] ∧ Paired (RepL G) yi wi ∧ G la = none ∧ la ≠ pa ∧ la ≠ wa ∧ H la = none ∧ H' la = some (.lst [.str (S wl.1), .bl wl.2])
/-- between two turns of the machine -/
def ML (H : Hp) (pa wa : Addr) (done : List Part) (ws : List Wd) (n : Nat) (H' : Hp) : Prop := ∃ (G : Hp) (xs ys : List V), (Dj H G ∧ Same H H' ∧ H pa = none ∧ H wa = none) ∧ Same G H' ∧ G pa = none ∧ G wa = none ∧ pa ≠ wa ∧ H' pa = some (.lst xs) ∧ H' wa = some (.lst ys) ∧
  Paired (RepLP G) xs done ∧ xs.length ≤ n ∧ ys.length ≤ n ∧ LastOk H G H' pa wa ys ws
theorem ML.more {H : Hp} {pa wa : Addr} {done : List Part} {ws : List Wd} {n : Nat} {H' H2 : Hp} (m : ML H pa wa done ws n H') (s : Same H' H2) : ML H pa wa done ws n H2 := by
  obtain ⟨G, xs, ys, ⟨d1, d2, d3, d4⟩, h2, h3, h4, h5, h6, h7, h8, h9, h10, h11⟩ := m
  refine ⟨G, xs, ys, ⟨d1, d2.trans s, d3, d4⟩, h2.trans s, h3, h4, h5, s _ _ h6, s _ _ h7, h8, h9, h10, ?_⟩
  rcases h11 with h | ⟨yi, wi, la, wl, e1, e2, p, n1, n2, n3, n4, e3⟩
  · exact .inl h
  · exact .inr ⟨yi, wi, la, wl, e1, e2, p, n1, n2, n3, n4, s _ _ e3⟩
theorem ML.le {H : Hp} {pa wa : Addr} {done : List Part} {ws : List Wd} {n m : Nat} {H' : Hp} (h : ML H pa wa done ws n H') (hl : n ≤ m) : ML H pa wa done ws m H' := by
  obtain ⟨G, xs, ys, h1, h2, h3, h4, h5, h6, h7, h8, h9, h10, h11⟩ := h
  exact ⟨G, xs, ys, h1, h2, h3, h4, h5, h6, h7, h8, by omega, by omega, h11⟩
/-- the last word stands still -/
theorem LastOk.still {H G H' : Hp} {pa wa : Addr} {ys : List V} {ws : List Wd} (h : LastOk H G H' pa wa ys ws) (d : Dj H G) (s : Same G H') (hp : G pa = none) (hw : G wa = none) : ∃ G', Dj H G' ∧ Same G G' ∧ Same G' H' ∧ G' pa = none ∧ G' wa = none ∧ Paired (RepL G') ys ws := by
  rcases h with ⟨rfl, rfl⟩ | ⟨yi, wi, la, wl, rfl, rfl, p, n1, n2, n3, n4, e⟩
  · exact ⟨G, d, Same.refl G, s, hp, hw, .nil⟩
  · refine ⟨upd G la (.lst [.str (S wl.1), .bl wl.2]), d.upd n4, Same.new n1, Same.take s e, by rw [upd_ne n2.symm]; exact hp, by rw [upd_ne n3.symm]; exact hw, ?_⟩
    exact Paired.snoc (Paired.mapP p fun _ _ q => q.same (Same.new n1)) ⟨la, rfl, upd_same⟩
theorem ML.word {H : Hp} {pa wa : Addr} {done : List Part} {ws : List Wd} {n : Nat} {H' : Hp} (m : ML H pa wa done ws n H') (u : Wd) {l : Addr} (hl : H' l = none) : ∃ ys, H' wa = some (.lst ys) ∧ ys.length ≤ n ∧ wa ≠ l ∧
    ML H pa wa done (ws ++ [u]) (n + 1) (upd (upd H' l (.lst [.str (S u.1), .bl u.2])) wa (.lst (ys ++ [.ref l]))) := by
  obtain ⟨G, xs, ys, ⟨d1, d2, d3, d4⟩, h2, h3, h4, h5, h6, h7, h8, h9, h10, h11⟩ := m
  obtain ⟨G', g0, g1, g2, g3, g4, g5⟩ := h11.still d1 h2 h3 h4
  have nwl := ne_of_none h7 hl
  have npl := ne_of_none h6 hl
  refine ⟨ys, h7, h10, nwl, G', xs, ys ++ [.ref l], ⟨g0, Same.mut (d2.trans (Same.new hl)) d4, d3, d4⟩, Same.mut (g2.trans (Same.new hl)) g4, g3, g4, h5, ?_, upd_same, Paired.mapP h8 fun _ _ q => q.same g1, by omega, by rw [List.length_append, List.length_singleton]; omega, .inr ⟨ys, ws, l, u, rfl, rfl, g5, g2.free hl, npl.symm, nwl.symm, d2.free hl, ?_⟩⟩
  · rw [upd_ne h5, upd_ne npl]; exact h6
  · rw [upd_ne nwl.symm, upd_same]
theorem ML.grow {H : Hp} {pa wa : Addr} {done : List Part} {wi : List Wd} {t : List Nat} {b : Bool} {n : Nat} {H' : Hp} (m : ML H pa wa done (wi ++ [(t, b)]) n H') (c : Nat) : ∃ yi la, H' wa = some (.lst (yi ++ [.ref la])) ∧ H' la = some (.lst [.str (S t), .bl b]) ∧
    ML H pa wa done (wi ++ [(t ++ [c], b)]) n (upd H' la (.lst [.str (S (t ++ [c])), .bl b])) := by
  obtain ⟨G, xs, ys, ⟨d1, d2, d3, d4⟩, h2, h3, h4, h5, h6, h7, h8, h9, h10, h11⟩ := m
  rcases h11 with ⟨_, e⟩ | ⟨yi, wi', la, wl, rfl, e, p, n1, n2, n3, n4, e3⟩
  · simp at e
  · obtain ⟨e1, e2⟩ := List.append_inj' e rfl
    subst e1
    have e2 : (t, b) = wl := by simpa using e2
    subst e2
    refine ⟨yi, la, h7, e3, G, xs, _, ⟨d1, Same.mut d2 n4, d3, d4⟩, Same.mut h2 n1, h3, h4, h5, ?_, ?_, h8, h9, h10, .inr ⟨yi, wi, la, _, rfl, rfl, p, n1, n2, n3, n4, upd_same⟩⟩
    · rw [upd_ne n2.symm]; exact h6
    · rw [upd_ne n3.symm]; exact h7
/-- the part ends: fv goes to the parts, w2 is the new list of words -/
theorem ML.stop {H : Hp} {pa wa : Addr} {done : List Part} {ws : List Wd} {n : Nat} {H' : Hp} (m : ML H pa wa done ws n H') (r : Bool) : ∃ xs, H' pa = some (.lst xs) ∧ xs.length ≤ n ∧ ∀ fv : V, (r = true → fv = .ref wa) → (r = false → fv = .non) → ∀ H2, Same (upd H' pa (.lst (xs ++ [fv]))) H2 → ∀ w2, H2 w2 = none →
    ML H pa w2 (done ++ [K80M.fin ws r]) [] (n + 1) (upd H2 w2 (.lst [])) := by
  obtain ⟨G, xs, ys, ⟨d1, d2, d3, d4⟩, h2, h3, h4, h5, h6, h7, h8, h9, h10, h11⟩ := m
  refine ⟨xs, h6, h9, fun fv f1 f2 H2 s2 w2 hw2 => ?_⟩
  obtain ⟨G', g0, g1, g2, g3, g4, g5⟩ := h11.still d1 h2 h3 h4
  have g3' : (upd G' wa (.lst ys)) pa = none := by rw [upd_ne h5]; exact g3
  have gs : Same (upd G' wa (.lst ys)) H2 := (Same.mut (Same.take g2 h7) g3').trans s2
  have hs : Same H H2 := (Same.mut d2 d3).trans s2
  have hp2 := s2 _ _ (upd_same (H := H') (a := pa))
  refine ⟨upd G' wa (.lst ys), xs ++ [fv], [], ⟨g0.upd d4, hs.trans (Same.new hw2), d3, hs.free hw2⟩, gs.trans (Same.new hw2), g3', gs.free hw2, ne_of_none hp2 hw2, ?_, upd_same, Paired.snoc (Paired.mapP h8 fun _ _ q => (q.same g1).same (Same.new g4)) ?_, by rw [List.length_append, List.length_singleton]; omega, Nat.zero_le _, .inl ⟨rfl, rfl⟩⟩
  · rw [upd_ne (ne_of_none hp2 hw2)]; exact hp2
  · cases r with
    | true =>
      rw [f1 rfl]
      exact ⟨wa, rfl, ys, upd_same, Paired.mapP g5 fun _ _ q => q.same (Same.new g4)⟩
    | false => exact f2 rfl
/-- the end -/
theorem ML.done {H : Hp} {pa wa : Addr} {done : List Part} {ws : List Wd} {n : Nat} {H' : Hp} (m : ML H pa wa done ws n H') : ∃ xs, Same H H' ∧ H' pa = some (.lst xs) ∧ xs.length ≤ n ∧ (∃ ys, H' wa = some (.lst ys)) ∧ ∃ G, Dj H G ∧ Same G H' ∧ Paired (RepLP G) xs done ∧ RepLs G wa ws := by
  obtain ⟨G, xs, ys, ⟨d1, d2, d3, d4⟩, h2, h3, h4, h5, h6, h7, h8, h9, h10, h11⟩ := m
  obtain ⟨G', g0, g1, g2, g3, g4, g5⟩ := h11.still d1 h2 h3 h4
  exact ⟨xs, d2, h6, h9, ⟨ys, h7⟩, upd G' wa (.lst ys), g0.upd d4, Same.take g2 h7, Paired.mapP h8 fun _ _ q => (q.same g1).same (Same.new g4), ys, upd_same, Paired.mapP g5 fun _ _ q => q.same (Same.new g4)⟩
theorem bl_list {b : Bool} {x y : V} : atI [x, y] (if b = true then 1 else 0) = some (if b = true then y else x) := by
  cases b with
  | true => exact atI_nat (j := 1) rfl
  | false => exact atI_nat (j := 0) rfl
section
variable {P : Program} {w : World} {K : PySem.W.Frag} {mg : Str → Option Value} {base : Heap} {F C : Addr}
def spLParts : Sp := fun vs H Q _ => ∃ (tb : Addr) (z : Str), vs = [.ref tb, .str z] ∧ TabAt H tb ∧ z.length ≤ 3000 ∧ ∀ H' p xs G, Same H H' → H p = none → H' p = some (.lst xs) → Dj H G → Same G H' → Paired (RepLP G) xs (K80M.P (cz z) [] true) → Q (.ref p) H'
theorem ok_law_parts (T : Txt K w mg F) (A : At K mg "_law_parts" s_law_parts) (C__law_kind : Cal P w K mg base CX0 1 "_law_kind" ["sign"] spKind) : Cal P w K mg base CX0 2 "_law_parts" ["table", "text"] spLParts := by
  refine A.ok sc_law_parts (fun vs H Q E h => ?_) bd_law_parts (fun f cdv A outer s H vs Q E hr h => ?_)
  · obtain ⟨tb, z, rfl, _⟩ := h; rfl
  obtain ⟨tb, z, rfl, htb, hz, hQ⟩ := h
  have hu := u1 hr.units
  refine ⟨_, (pss_cons (ps_asg (pe_tup (pa_cons (pe_lst pa_nil) (pa_cons (pe_lst pa_nil) (pa_cons pe_str (pa_cons pe_bl pa_nil))))) (pg_tup rfl (pgs_cons (pg_name (i := 2) sc_law_parts.nd rfl (Or.inl rfl)) (pgs_cons (pg_name (i := 3) sc_law_parts.nd rfl (Or.inl rfl)) (pgs_cons (pg_name (i := 4) sc_law_parts.nd rfl (Or.inl rfl)) (pgs_cons (pg_name (i := 5) sc_law_parts.nd rfl (Or.inl rfl)) pgs_nil))))))
      (pss_cons (ps_for PassesOwn.never rfl (pi_str (pv 1)) (pg_name (i := 6) sc_law_parts.nd rfl (Or.inl rfl))
      (pss_cons (ps_set (i := 7) sc_law_parts.nd rfl (Or.inl rfl) (pe_cal C__law_kind (hr.mono (by decide)) pass0 (pa_cons (pv 6) pa_nil)))
      (pss_cons (ps_set (i := 8) sc_law_parts.nd rfl (Or.inl rfl) (pe_dget hu (pv 0) (pe_tup (pa_cons (pv 4) (pa_cons (pv 7) pa_nil))) (fun _ _ => rfl)))
      (pss_cons (ps_set (i := 5) sc_law_parts.nd rfl (Or.inl rfl) (pe_and (pv 5) (pe_one (pe_or (pe_cmpR op_ne (pv 4) pe_str (nomark _)) (pe_one (pe_cmpR op_in_seq (pv 7) (pe_lst (pa_cons pe_str (pa_cons pe_str pa_nil))) rfl))))))
      (pss_cons (ps_if (PW.pt (pw_and (pt_cmpR op_ne (pv 4) pe_str (nomark _)) (pw_and1 (pt_cmpR op_eq (pv 7) pe_str (nomark _))))) (pss_cons (ps_expr (pe_bm PySem.F.plainAttrs_list PySem.F.slot_list_append PySem.F.type_list_append mt_append (pv 2) (pa_cons (pe_ix ix_list (pe_lst (pa_cons pe_non (pa_cons (pv 3) pa_nil))) (pe_callTy call_int1 (by rfl) T.b_int boot_int (pa_cons (pv 5) pa_nil)) (fun _ _ => rfl)) pa_nil)))
      (pss_one (ps_par (i := 3) (j := 5) (by rfl) sc_law_parts.nd rfl rfl (by decide) rfl rfl (pa_cons (pe_lst pa_nil) (pa_cons pe_bl pa_nil)) (by rfl)))) (pss_one (ps_if (PW.pt (pw_and (pt_cmpR op_in_seq (pv 8) (pe_lst (pa_cons pe_str (pa_cons pe_str pa_nil))) rfl) (pw_and1 (pt_cmpR op_notIn_seq (pv 4) (pe_lst (pa_cons pe_str (pa_cons pe_str pa_nil))) rfl)))) (pss_one (ps_expr (pe_bm PySem.F.plainAttrs_list PySem.F.slot_list_append PySem.F.type_list_append mt_append (pv 3) (pa_cons (pe_lst (pa_cons (pv 6) (pa_cons pe_bl pa_nil))) pa_nil)))) (pss_one (ps_if (PW.pt (pw_and (pt_cmpR op_eq (pv 8) pe_str (nomark _)) (pw_and1 (pt_cmpR op_ne (pv 4) pe_str (nomark _))))) (pss_one (ps_expr (pe_bm PySem.F.plainAttrs_list PySem.F.slot_list_append PySem.F.type_list_append mt_append (pv 3) (pa_cons (pe_lst (pa_cons pe_str (pa_cons pe_bl pa_nil))) pa_nil)))) (pss_one (ps_if (pt_cmpR op_in_seq (pv 8) (pe_lst (pa_cons pe_str (pa_cons pe_str (pa_cons pe_str pa_nil)))) rfl) (pss_one (ps_asg (pe_op op_add_str (pe_ix ix_list (pe_ix ix_list (pv 3) (pe_un un_neg pe_int) (fun _ _ => rfl)) pe_int (fun _ _ => rfl)) (pv 6)) (pg_sub (pe_ix ix_list (pv 3) (pe_un un_neg pe_int) (fun _ _ => rfl)) pe_int set_list))) pss_nil)))))))
      (pss_one (ps_set (i := 4) sc_law_parts.nd rfl (Or.inl rfl) (pv 8))))))))
      (pss_one (ps_ret (pe_op op_cat (pv 2) (pe_lst (pa_cons (pe_ix ix_list (pe_lst (pa_cons pe_non (pa_cons (pv 3) pa_nil))) (pe_callTy call_int1 (by rfl) T.b_int boot_int (pa_cons (pe_and (pv 5) (pe_one (pe_cmpR op_ne (pv 4) pe_str (nomark _)))) pa_nil)) (fun _ _ => rfl)) pa_nil))))))), ?_⟩
  refine ⟨Nat.zero_le _, fun pa hpa => ⟨Nat.zero_le _, fun wa hwa => ⟨(by show 4 ≤ sizeLine; decide), fun t ht => ⟨t, _, rfl, SqT.of upd_same, rfl, _, _, rfl, _, _, rfl, _, _, rfl, _, _, rfl, rfl, ?_⟩⟩⟩⟩
  have npw : pa ≠ wa := ne_of_none upd_same hwa
  have hwa0 : H wa = none := by rw [upd_ne npw.symm] at hwa; exact hwa
  refine ⟨_, rfl, _, rfl, ?_⟩
  have m0 : ML H pa wa [] [] 0 (upd (upd (upd H pa (.lst [])) wa (.lst [])) t (.tup [.ref pa, .ref wa, .str "between", .bl true])) := by
    refine ML.more ⟨fun _ => none, [], [], ⟨fun _ _ _ => rfl, (Same.new hpa).trans (Same.new hwa), hpa, hwa0⟩, (fun _ _ e => by cases e), rfl, rfl, npw, ?_, upd_same, .nil, Nat.le_refl _, Nat.le_refl _, .inl ⟨rfl, rfl⟩⟩ (Same.new ht)
    rw [upd_ne npw, upd_same]
  refine for_it walk_str (fun i σ H' => ∃ (wa : Addr) (done : List Part) (ws : List Wd) (st : K80M.S) (r : Bool) (o6 o7 o8 : Option V), σ = [some (.ref tb), some (.str z), some (.ref pa), some (.ref wa), some (.str (stS st)), some (.bl r), o6, o7, o8] ∧ ML H pa wa done ws i H' ∧ (∀ u ∈ ws, u.1.length ≤ i) ∧ (ws = [] → st ≠ .word ∧ st ≠ .quoted ∧ st ≠ .spoilt) ∧
      done ++ K80M.lm ((cz z).drop i) ws st r = K80M.lm (cz z) [] .btw true)
    ⟨wa, [], [], .btw, true, _, _, _, rfl, m0, (fun _ h => by cases h), fun _ => ⟨by decide, by decide, by decide⟩, rfl⟩ (fun _ _ _ _ _ => trivial) (fun i x σ H2 H3 hi q y => ?_) (fun σ H2 q => ?_)
  · obtain ⟨wa, done, ws, st, r, o6, o7, o8, rfl, m, hwl, hws, e⟩ := q
    obtain ⟨rfl, c, hc, rfl⟩ := y
    have hi3 : i < 3000 := by have : z.cps.size = z.length := rfl; omega
    have hc' : (cz z)[i]? = some c := by simpa [cz] using hc
    have hd : (cz z).drop i = c :: (cz z).drop (i + 1) := by
      have hlt := (List.getElem?_eq_some_iff.mp hc').1
      rw [List.drop_eq_getElem_cons hlt]
      rw [List.getElem?_eq_getElem hlt] at hc'
      rw [Option.some.inj hc']
    rw [hd] at e
    -- kind
    refine ⟨_, rfl, c, rfl, fun H4 s4 => ?_⟩
    have m4 := m.more s4
    obtain ⟨kvs, htk, hval⟩ := TabAt.same ((m4.done).choose_spec.1) htb
    -- later
    refine ⟨_, rfl, _, rfl, _, rfl, by show 2 ≤ sizeLine; decide, fun t ht => ?_⟩
    have m5 := m4.more (Same.new (o := .tup [.str (stS st), .str (kdS (K80M.kindOf c))]) ht)
    have hg := DGet.t (a := tb) (b := t) (k := [.inr (stS st), .inr (kdS (K80M.kindOf c))]) (Same.new (o := .tup [.str (stS st), .str (kdS (K80M.kindOf c))]) ht _ _ htk) upd_same
    rw [hval] at hg
    refine ⟨tb, _, rfl, hg, ?_⟩
    -- is_right
    dsimp only [gName]
    refine seq_set (te_gen (fun x H6 => x = .bl (K80M.keepR r st (K80M.kindOf c)) ∧ ML H pa wa done ws i H6) (fun Q hk => ?_) fun x H6 ⟨hx, m6⟩ => ?_)
    · refine ⟨_, rfl, r, rfl, ?_⟩
      cases r with
      | false => exact hk _ _ ⟨rfl, m5⟩
      | true =>
        refine ⟨_, rfl, rfl, _, rfl, ?_⟩
        have e1 : decide (V.str (stS st) = V.str "behind") = decide (st = .behind) := st_eq st .behind
        rw [e1]
        by_cases hb : st = .behind
        · refine ifF (by rw [decide_eq_true hb]; rfl) ⟨_, rfl, by show 2 ≤ sizeLine; decide, fun l hl => ⟨l, _, rfl, .inl (SqL.of upd_same), rfl, rfl, hk _ _ ⟨?_, m5.more (Same.new hl)⟩⟩⟩
          show V.bl (inV _ _) = _
          rw [kd_in2, hb]
          rfl
        · refine ifT (by rw [decide_eq_false hb]; rfl) (hk _ _ ⟨?_, m5⟩)
          unfold K80M.keepR
          cases st <;> first | rfl | exact absurd rfl hb
    subst hx
    -- the branches
    have e2 : decide (V.str (stS st) = V.str "quoted") = decide (st = .quoted) := st_eq st .quoted
    have e3 : decide (V.str (kdS (K80M.kindOf c)) = V.str "end") = decide (K80M.kindOf c = .stop) := kd_eq _ .stop
    refine seq_if (te_genT (fun b H7 => b = decide (st ≠ .quoted ∧ K80M.kindOf c = .stop) ∧ H7 = H6) (fun Q hk => ?_) fun b H7 ⟨hb, hH⟩ => ?_)
    · refine ⟨_, rfl, rfl, _, rfl, ?_⟩
      rw [e2]
      by_cases hq : st = .quoted
      · exact ifF (by rw [decide_eq_true hq]; rfl) (hk _ _ ⟨(decide_eq_false fun h => h.1 hq).symm, rfl⟩)
      · refine ifT (by rw [decide_eq_false hq]; rfl) ⟨_, rfl, rfl, _, rfl, hk _ _ ⟨?_, rfl⟩⟩
        rw [e3]
        exact decide_eq_decide.mpr ⟨fun h => ⟨hq, h⟩, fun h => h.2⟩
    subst hb hH
    by_cases hstop : st ≠ .quoted ∧ K80M.kindOf c = .stop
    · refine ifT (decide_eq_true hstop) ?_
      obtain ⟨hq, hk⟩ := hstop
      have hc59 := kindOf_stop hk
      rw [hc59, K80M.lm_stop _ _ _ _ hq] at e
      have hkr : K80M.keepR r st (K80M.kindOf c) = r := by rw [hk]; unfold K80M.keepR; cases r <;> cases st <;> rfl
      have hlat : K80M.tab st (K80M.kindOf c) = .btw := by rw [hk]; cases st <;> first | rfl | exact absurd rfl hq
      rw [hkr, hlat]
      obtain ⟨xs0, _, hpa6, _⟩ := m6.done
      refine ⟨_, rfl, .inl ⟨rfl, _, SqL.of hpa6⟩, _, rfl, by show 2 ≤ sizeLine; decide, fun l hl => ?_⟩
      obtain ⟨xs, hpa7, hxl, go⟩ := (m6.more (Same.new (o := .lst [.non, .ref wa]) hl)).stop r
      refine ⟨_, rfl, .inr ⟨r, rfl, l, _, _, _, rfl, rfl, SqL.of upd_same, bl_list, pa, xs, _, rfl, rfl, hpa7, line5 (by omega), Nat.zero_le _, fun w2 hw2 => ⟨_, _, rfl, ?_⟩⟩⟩
      refine ⟨_, rfl, w2, _, [], .btw, true, _, _, _, rfl, go _ (fun h => by rw [h]; rfl) (fun h => by rw [h]; rfl) _ (Same.refl _) w2 hw2, (fun _ h => by cases h), fun _ => ⟨by decide, by decide, by decide⟩, ?_⟩
      rw [List.append_assoc]
      exact e
    refine ifF (decide_eq_false hstop) ?_
    rw [K80M.lm_step c _ ws st r hstop] at e
    -- a new word
    refine seq_if1 (te_genT (fun b H7 => b = decide (K80M.isW (K80M.tab st (K80M.kindOf c)) = true ∧ K80M.isW st = false) ∧ ML H pa wa done ws i H7) (fun Q hk => ?_) fun b H7 ⟨hb, m7⟩ => ?_)
    · refine ⟨_, rfl, by show 2 ≤ sizeLine; decide, fun l hl => ⟨l, _, rfl, .inl (SqL.of upd_same), rfl, rfl, _, rfl, ?_⟩⟩
      show if inV _ _ = true then _ else _
      rw [st_in2]
      have ml := m6.more (Same.new (o := .lst [.str "word", .str "spoilt"]) hl)
      cases h1 : K80M.isW (K80M.tab st (K80M.kindOf c)) with
      | false => exact ifF rfl (hk _ _ ⟨(decide_eq_false fun h => by rw [h1] at h; exact Bool.false_ne_true h.1).symm, ml⟩)
      | true =>
        refine ifT rfl ⟨_, rfl, by show 2 ≤ sizeLine; decide, fun l2 hl2 => ⟨l2, _, rfl, .inl (SqL.of upd_same), rfl, rfl, _, rfl, hk _ _ ⟨?_, ml.more (Same.new hl2)⟩⟩⟩
        show (!inV _ _) = _
        rw [st_in2]
        cases h2 : K80M.isW st with
        | false => exact (decide_eq_true ⟨h1, rfl⟩).symm
        | true => exact (decide_eq_false fun h => Bool.false_ne_true h.2.symm).symm
    subst hb
    by_cases hnew : K80M.isW (K80M.tab st (K80M.kindOf c)) = true ∧ K80M.isW st = false
    · refine ifT (decide_eq_true hnew) ?_
      have hgr : K80M.grow ws c st (K80M.tab st (K80M.kindOf c)) = ws ++ [([c], false)] := if_pos hnew
      rw [hgr] at e
      obtain ⟨_, _, _, _, ⟨ys0, hwa7⟩, _⟩ := m7.done
      refine ⟨_, rfl, .inl ⟨rfl, _, SqL.of hwa7⟩, _, rfl, by show 2 ≤ sizeLine; decide, fun l hl => ?_⟩
      obtain ⟨ys, hwa8, hyl, nwl, mw⟩ := m7.word ([c], false) hl
      refine ⟨wa, ys, _, rfl, rfl, by rw [upd_ne nwl]; exact hwa8, line5 (by omega), _, rfl, wa, done, _, _, _, _, _, _, rfl, mw, ?_, fun h => by simp at h, e⟩
      intro u hu
      rcases List.mem_append.mp hu with hu | hu
      · have := hwl u hu; omega
      · have : u = ([c], false) := by simpa using hu
        rw [this]; show 1 ≤ i + 1; omega
    refine ifF (decide_eq_false hnew) ?_
    -- a new quoted word
    have e4 : decide (V.str (stS (K80M.tab st (K80M.kindOf c))) = V.str "quoted") = decide (K80M.tab st (K80M.kindOf c) = .quoted) := st_eq _ .quoted
    refine seq_if1 (te_genT (fun b H8 => b = decide (K80M.tab st (K80M.kindOf c) = .quoted ∧ st ≠ .quoted) ∧ H8 = H7) (fun Q hk => ?_) fun b H8 ⟨hb, hH⟩ => ?_)
    · refine ⟨_, rfl, rfl, _, rfl, ?_⟩
      rw [e4]
      by_cases hq : K80M.tab st (K80M.kindOf c) = .quoted
      · refine ifT (decide_eq_true hq) ⟨_, rfl, rfl, _, rfl, hk _ _ ⟨?_, rfl⟩⟩
        rw [e2]
        by_cases h2 : st = .quoted
        · rw [decide_eq_true h2]; exact (decide_eq_false fun h => h.2 h2).symm
        · rw [decide_eq_false h2]; exact (decide_eq_true ⟨hq, h2⟩).symm
      · exact ifF (decide_eq_false hq) (hk _ _ ⟨(decide_eq_false fun h => hq h.1).symm, rfl⟩)
    subst hb hH
    by_cases hqu : K80M.tab st (K80M.kindOf c) = .quoted ∧ st ≠ .quoted
    · refine ifT (decide_eq_true hqu) ?_
      have hgr : K80M.grow ws c st (K80M.tab st (K80M.kindOf c)) = ws ++ [([], true)] := by
        unfold K80M.grow
        rw [if_neg hnew, if_pos hqu]
      rw [hgr] at e
      obtain ⟨_, _, _, _, ⟨ys0, hwa7⟩, _⟩ := m7.done
      refine ⟨_, rfl, .inl ⟨rfl, _, SqL.of hwa7⟩, by show 2 ≤ sizeLine; decide, fun l hl => ?_⟩
      obtain ⟨ys, hwa8, hyl, nwl, mw⟩ := m7.word ([], true) hl
      have eS : (S [] : Str) = "" := str_ext (by rw [cz_nil])
      refine ⟨wa, ys, _, rfl, rfl, by rw [upd_ne nwl]; exact hwa8, line5 (by omega), _, rfl, wa, done, _, _, _, _, _, _, rfl, by rw [eS] at mw; exact mw, ?_, fun h => by simp at h, e⟩
      intro u hu
      rcases List.mem_append.mp hu with hu | hu
      · have := hwl u hu; omega
      · have : u = ([], true) := by simpa using hu
        rw [this]; show 0 ≤ i + 1; omega
    refine ifF (decide_eq_false hqu) ?_
    -- the last word grows, or nothing
    refine seq_if1 (te_genT (fun b H8 => b = (K80M.isW (K80M.tab st (K80M.kindOf c)) || K80M.tab st (K80M.kindOf c) == .quoted) ∧ ML H pa wa done ws i H8) (fun Q hk => ?_) fun b H8 ⟨hb, m8⟩ => ?_)
    · refine ⟨_, rfl, by show 3 ≤ sizeLine; decide, fun l hl => ⟨l, _, rfl, .inl (SqL.of upd_same), rfl, rfl, _, rfl, hk _ _ ⟨?_, m7.more (Same.new hl)⟩⟩⟩
      show inV _ _ = _
      rw [st_in3]
    subst hb
    cases hg : (K80M.isW (K80M.tab st (K80M.kindOf c)) || K80M.tab st (K80M.kindOf c) == .quoted) with
    | true =>
      refine ifT rfl ?_
      have hg' : K80M.isW (K80M.tab st (K80M.kindOf c)) = true ∨ K80M.tab st (K80M.kindOf c) = .quoted := by simpa using hg
      have hgr : K80M.grow ws c st (K80M.tab st (K80M.kindOf c)) = K80M.addLast ws c := by
        unfold K80M.grow
        rw [if_neg hnew, if_neg hqu, if_pos hg']
      rw [hgr] at e
      have hne : ws ≠ [] := fun h0 => by
        have := hws h0
        rcases hg' with h | h
        · have h2 : K80M.isW st = true := by
            cases q : K80M.isW st with
            | true => rfl
            | false => exact absurd ⟨h, q⟩ hnew
          cases st <;> first | exact absurd h2 (by decide) | exact absurd rfl this.1 | exact absurd rfl this.2.2
        · have h2 : st = .quoted := by
            by_cases q : st = .quoted
            · exact q
            · exact absurd ⟨h, q⟩ hqu
          exact this.2.1 h2
      obtain ⟨wi, ⟨t0, b0⟩, rfl⟩ : ∃ wi wl, ws = wi ++ [wl] := ⟨ws.dropLast, ws.getLast hne, (List.dropLast_concat_getLast hne).symm⟩
      rw [K80M.addLast_snoc] at e
      obtain ⟨yi, la, hwa8, hla8, mg8⟩ := m8.grow c
      have hl0 := hwl (t0, b0) (by simp)
      have htl : (S t0 : Str).length ≤ i := hl0
      refine ⟨_, rfl, _, rfl, wa, _, _, _, rfl, rfl, SqL.of hwa8, atI_last _ _, la, _, _, _, rfl, rfl, SqL.of hla8, atI_nat (j := 0) rfl, _, rfl, _, _, rfl, rfl, Nat.le_of_lt (line5 (by show (S t0 : Str).length + 1 ≤ _; omega)), ?_⟩
      refine ⟨_, rfl, _, rfl, wa, _, _, _, rfl, rfl, SqL.of hwa8, atI_last _ _, la, _, _, 0, rfl, rfl, hla8, rfl, ?_⟩
      refine ⟨_, rfl, wa, done, _, _, _, _, _, _, rfl, ?_, ?_, fun h => by simp at h, e⟩
      · have eS : [V.str (S t0), V.bl b0].set 0 (V.str ((S t0 : Str) ++ ⟨#[c]⟩)) = [V.str (S (t0 ++ [c])), V.bl b0] := by
          show [V.str ((S t0 : Str) ++ S [c]), V.bl b0] = _
          rw [S_app]
        show ML H pa wa done _ (i + 1) (upd H8 la (.lst ([V.str (S t0), V.bl b0].set 0 (V.str ((S t0 : Str) ++ ⟨#[c]⟩)))))
        rw [eS]
        exact mg8.le (by omega)
      · intro u hu
        rcases List.mem_append.mp hu with hu | hu
        · have := hwl u (by simp [hu]); omega
        · have : u = (t0 ++ [c], b0) := by simpa using hu
          rw [this]
          show (t0 ++ [c]).length ≤ i + 1
          rw [List.length_append, List.length_singleton]
          have : t0.length ≤ i := hl0
          omega
    | false =>
      refine ifF rfl ?_
      have hg' : ¬ (K80M.isW (K80M.tab st (K80M.kindOf c)) = true ∨ K80M.tab st (K80M.kindOf c) = .quoted) := fun h => by
        have : (K80M.isW (K80M.tab st (K80M.kindOf c)) || K80M.tab st (K80M.kindOf c) == .quoted) = true := by simpa using h
        rw [this] at hg; cases hg
      have hgr : K80M.grow ws c st (K80M.tab st (K80M.kindOf c)) = ws := by
        unfold K80M.grow
        rw [if_neg hnew, if_neg hqu, if_neg hg']
      rw [hgr] at e
      refine ⟨_, rfl, wa, done, ws, _, _, _, _, _, rfl, m8.le (by omega), fun u hu => by have := hwl u hu; omega, fun _ => ⟨fun h => hg' (.inl (by rw [h]; rfl)), fun h => hg' (.inr h), fun h => hg' (.inl (by rw [h]; rfl))⟩, e⟩
  · obtain ⟨wa, done, ws, st, r, o6, o7, o8, rfl, m, _, _, e⟩ := q
    have hd : (cz z).drop z.cps.size = [] := List.drop_eq_nil_of_le (by show (cz z).length ≤ _; simp [cz])
    rw [hd, K80M.lm_nil] at e
    have hzl : z.cps.size ≤ 3000 := hz
    have e2 : decide (V.str (stS st) = V.str "quoted") = decide (st = .quoted) := st_eq st .quoted
    refine ⟨_, rfl, _, rfl, by show 2 ≤ sizeLine; decide, fun l hl => ?_⟩
    have ml := m.more (Same.new (o := .lst [.non, .ref wa]) hl)
    have e1 : (r && !decide (st = .quoted)) = (r && st != .quoted) := by cases r <;> cases st <;> rfl
    -- the end, b tells whether the last part is right
    have fin : ∀ b : Bool, b = (r && st != .quoted) → ∀ l2, (upd H2 l (.lst [.non, .ref wa])) l2 = none → ∀ p, (upd (upd H2 l (.lst [.non, .ref wa])) l2 (.lst [if b = true then V.ref wa else V.non])) p = none → ∀ xs, H2 pa = some (.lst xs) →
        Q (.ref p) (upd (upd (upd H2 l (.lst [.non, .ref wa])) l2 (.lst [if b = true then V.ref wa else V.non])) p (.lst (xs ++ [if b = true then V.ref wa else V.non]))) := by
      intro b hb l2 hl2 p hp xs hxs
      obtain ⟨xs2, sH, hpa2, _, _, G, dG, sG, rp2, rw2⟩ := m.done
      rw [hpa2] at hxs
      cases hxs
      have sN := (Same.new (o := .lst [.non, .ref wa]) hl).trans ((Same.new (o := .lst [if b = true then V.ref wa else V.non]) hl2).trans (Same.new (o := .lst (xs ++ [if b = true then V.ref wa else V.non])) hp))
      have sN2 := (Same.new (o := .lst [.non, .ref wa]) hl).trans (Same.new (o := .lst [if b = true then V.ref wa else V.non]) hl2)
      refine hQ _ p _ G (sH.trans sN) ((sH.trans sN2).free hp) upd_same dG (sG.trans sN) ?_
      rw [← K80M.machine, ← e]
      refine Paired.snoc rp2 ?_
      rw [← hb]
      cases b with
      | true => exact ⟨wa, rfl, rw2⟩
      | false => rfl
    obtain ⟨xs, _, hpa', hxl', _⟩ := m.done
    have go : ∀ b : Bool, b = (r && st != .quoted) → ∀ l2, (upd H2 l (.lst [.non, .ref wa])) l2 = none → ∃ (x1 x2 : Addr) (y1 y2 : List V), V.ref pa = .ref x1 ∧ V.ref l2 = .ref x2 ∧ (upd (upd H2 l (.lst [.non, .ref wa])) l2 (.lst [if b = true then V.ref wa else V.non])) x1 = some (.lst y1) ∧ (upd (upd H2 l (.lst [.non, .ref wa])) l2 (.lst [if b = true then V.ref wa else V.non])) x2 = some (.lst y2) ∧ y1.length + y2.length ≤ sizeLine ∧
        ∀ p, (upd (upd H2 l (.lst [.non, .ref wa])) l2 (.lst [if b = true then V.ref wa else V.non])) p = none → Q (.ref p) (upd (upd (upd H2 l (.lst [.non, .ref wa])) l2 (.lst [if b = true then V.ref wa else V.non])) p (.lst (y1 ++ y2))) := fun b hb l2 hl2 =>
      ⟨pa, l2, xs, _, rfl, rfl, ((Same.new hl).trans (Same.new hl2)) _ _ hpa', upd_same, Nat.le_of_lt (line5 (by show xs.length + 1 ≤ _; omega)), fun p hp => fin b hb l2 hl2 p hp xs hpa'⟩
    refine ⟨_, rfl, r, rfl, ?_⟩
    cases r with
    | false => exact .inr ⟨false, rfl, l, _, _, _, rfl, rfl, SqL.of upd_same, bl_list, by show 1 ≤ sizeLine; decide, fun l2 hl2 => go false rfl l2 hl2⟩
    | true =>
      refine ⟨_, rfl, rfl, .inr ⟨_, rfl, l, _, _, _, rfl, rfl, SqL.of upd_same, bl_list, by show 1 ≤ sizeLine; decide, fun l2 hl2 => go _ ?_ l2 hl2⟩⟩
      rw [e2]
      exact e1
end
end K80

set_option Elab.async false
set_option linter.all false
set_option maxRecDepth 100000
set_option maxHeartbeats 1600000
/-! law k80: names and kinds of words, by the law -/
namespace K80
open PySem PySem.Spec PyProof.Rows L2
open K80M (Wd Part)
def fC : K80M.Kn → Nat
  | .t => 116
  | .n => 110
  | .w => 119
  | .v => 118
theorem fC_v (k : K80M.Kn) : decide (V.str ⟨#[fC k]⟩ = V.str "v") = decide (k = .v) := by cases k <;> decide +kernel
theorem fC_t (k : K80M.Kn) : decide (V.str ⟨#[fC k]⟩ = V.str "t") = decide (k = .t) := by cases k <;> decide +kernel
theorem fC_n (k : K80M.Kn) : decide (V.str ⟨#[fC k]⟩ = V.str "n") = decide (k = .n) := by cases k <;> decide +kernel
theorem cutS_one (z : Str) : cutS z none (some 1) = S ((cz z).take 1) := by
  unfold cutS
  rw [HT.sIx_none, show (1 : Int) = ((1 : Nat) : Int) from rfl, HT.sIx_nat, List.drop_zero, Nat.sub_zero]
  by_cases h : 1 ≤ z.length
  · rw [Nat.min_eq_left h]
  · have h0 : cz z = [] := List.length_eq_zero_iff.mp (by rw [← cz_len]; omega)
    show S _ = _
    rw [show z.cps.toList = [] from h0, h0]; simp
section
variable {P : Program} {w : World} {K : PySem.W.Frag} {mg : Str → Option Value} {base : Heap} {F C : Addr}
def spLIsName : Sp := fun vs H Q _ => ∃ z : Str, vs = [.str z] ∧ z.length ≤ sizeLine ∧ ∀ H', Same H H' → Q (.bl (K80M.isName (cz z))) H'
theorem ok_law_is_name (T : Txt K w mg F) (A : At K mg "_law_is_name" s_law_is_name) : Cal P w K mg base CX0 1 "_law_is_name" ["word"] spLIsName := by
  refine A.ok sc_law_is_name (fun vs H Q E h => ?_) bd_law_is_name (fun f cdv A outer s H vs Q E hr h => ?_)
  · obtain ⟨z, rfl, _⟩ := h; rfl
  obtain ⟨z, rfl, hz, hQ⟩ := h
  have eL : cz "abcdefghijklmnopqrstuvwxyz" = K80M.letters := by decide +kernel
  have eN : cz ("abcdefghijklmnopqrstuvwxyz" ++ "0123456789-") = K80M.nameSigns := by decide +kernel
  have hl := cz_len z
  refine ⟨_, (pss_cons (ps_set (i := 1) sc_law_is_name.nd rfl (Or.inr rfl) pe_str)
      (pss_one (ps_ret (pe_and (pe_chain op_le op_le pe_int (pe_callB call_len_str (by rfl) T.b_len boot_len (pa_cons (pv 0) pa_nil)) pe_int) (pe_and (pe_cmpR op_in_sign (pe_ix ix_str (pv 0) pe_int (fun _ _ => rfl)) (pv 1) rfl) (pe_one (pe_callB (cr_all rfl) (by rfl) T.b_all boot_all (pa_cons (pe_lc (own := [("sign", 2)]) (g := gName 2) (tt := tYes) rfl sc_law_is_name.nd (pi_str (pv 0)) (blkOk_by (own := [("sign", 2)]) (N := N_law_is_name) (sc := defScope s_law_is_name) (by decide +kernel)) (fun _ _ _ _ _ => (pg_name (i := 2) sc_law_is_name.nd rfl (Or.inl rfl))) (fun _ _ _ _ _ => pts_nil) (fun _ _ _ _ _ => (pe_cmpR op_in_sign (pv 2) (pe_op op_add_str (pv 1) pe_str) rfl))) pa_nil)))))))), ?_⟩
  refine ⟨_, rfl, z, rfl, hz, _, _, rfl, rfl, _, rfl, ?_⟩
  by_cases h1 : 1 ≤ (cz z).length
  · refine ifT (decide_eq_true (by omega)) ⟨_, _, rfl, rfl, _, rfl, ?_⟩
    by_cases h2 : (cz z).length ≤ 10
    · refine ifT (decide_eq_true (by omega)) ?_
      obtain ⟨c0, r0, hcs⟩ : ∃ c0 r0, cz z = c0 :: r0 := by
        cases q : cz z with
        | nil => rw [q] at h1; simp at h1
        | cons c0 r0 => exact ⟨c0, r0, rfl⟩
      have h0 : (cz z)[0]? = some c0 := by rw [hcs]; rfl
      refine ⟨_, rfl, z, _, c0, rfl, rfl, hz, atI_nat (j := 0) h0, _, rfl, c0, _, rfl, rfl, _, rfl, ?_⟩
      by_cases h3 : c0 ∈ K80M.letters
      · refine ifT (by rw [show ("abcdefghijklmnopqrstuvwxyz" : Str).cps.toList = K80M.letters from eL, decide_eq_true h3]) ?_
        refine ⟨_, rfl, z, rfl, fun D hD => ?_⟩
        refine lc_it walk_str (fun i H' => Same H H' ∧ H' D = some (.lst (((cz z).take i).map fun c => V.bl (decide (c ∈ K80M.nameSigns))))) ⟨Same.new hD, upd_same⟩ (fun _ _ _ _ => trivial) (fun i x H1 H' hi p y => ?_) (fun H1 p => ?_)
        · obtain ⟨s1, hd⟩ := p
          obtain ⟨e, c, hc, ex⟩ := y
          subst e ex
          have hc' : (cz z)[i]? = some c := by simpa [cz] using hc
          refine ⟨rfl, _, rfl, _, rfl, _, _, rfl, rfl, by decide +kernel, c, _, rfl, rfl, _, hd, ?_, Same.mut s1 hD, ?_⟩
          · rw [List.length_map, List.length_take]
            have : i < z.cps.size := hi
            have : z.cps.size = (cz z).length := by simp [cz]
            exact line5 (by omega)
          · rw [upd_same, List.take_add_one, hc', List.map_append, show ("abcdefghijklmnopqrstuvwxyz" ++ "0123456789-" : Str).cps.toList = K80M.nameSigns from eN]
            rfl
        · obtain ⟨s1, hd⟩ := p
          have e : z.cps.size = (cz z).length := by simp [cz]
          rw [e, List.take_length] at hd
          refine ⟨D, (cz z).map fun c => decide (c ∈ K80M.nameSigns), rfl, SqL.of (by rw [hd, List.map_map]; rfl), ?_⟩
          have e2 : ((cz z).map fun c => decide (c ∈ K80M.nameSigns)).all id = (cz z).all fun c => decide (c ∈ K80M.nameSigns) := by rw [List.all_map]; rfl
          rw [e2]
          have e3 : K80M.isName (cz z) = (cz z).all fun c => decide (c ∈ K80M.nameSigns) := by
            unfold K80M.isName
            rw [decide_eq_true h1, decide_eq_true h2, hcs]
            simp [h3]
          rw [← e3]
          exact hQ H1 s1
      · refine ifF (by rw [show ("abcdefghijklmnopqrstuvwxyz" : Str).cps.toList = K80M.letters from eL, decide_eq_false h3]) ?_
        have : K80M.isName (cz z) = false := by
          rw [hcs]
          unfold K80M.isName
          simp [h3]
        rw [this] at hQ
        exact hQ H (Same.refl H)
    · refine ifF (decide_eq_false (by omega)) ?_
      rw [isName_len h2] at hQ
      exact hQ H (Same.refl H)
  · refine ifF (decide_eq_false (by omega)) ?_
    have : K80M.isName (cz z) = false := by
      unfold K80M.isName
      rw [decide_eq_false h1]
      simp
    rw [this] at hQ
    exact ⟨_, rfl, ifF rfl (hQ H (Same.refl H))⟩
def spLFits : Sp := fun vs H Q _ => ∃ (k : K80M.Kn) (b : Addr) (u : Wd), vs = [.str ⟨#[fC k]⟩, .ref b] ∧ H b = some (.lst [.str (S u.1), .bl u.2]) ∧ u.1.length ≤ sizeLine ∧ ∀ H', Same H H' → Q (.bl (K80M.fit k u)) H'
theorem ok_law_fits (T : Txt K w mg F) (A : At K mg "_law_fits" s_law_fits) (C__law_is_name : Cal P w K mg base CX0 1 "_law_is_name" ["word"] spLIsName) : Cal P w K mg base CX0 2 "_law_fits" ["form", "word"] spLFits := by
  refine A.ok sc_law_fits (fun vs H Q E h => ?_) bd_law_fits (fun f cdv A outer s H vs Q E hr h => ?_)
  · obtain ⟨k, b, u, rfl, _⟩ := h; rfl
  obtain ⟨k, b, u, rfl, hb, hl, hQ⟩ := h
  refine ⟨_, (pss_cons (ps_if (pt_val (pe_ix ix_list (pv 1) pe_int (fun _ _ => rfl))) (pss_one (ps_ret (pe_cmpR op_eq (pv 0) pe_str (nomark _)))) pss_nil)
      (pss_cons (ps_if (pt_cmpR op_eq (pv 0) pe_str (nomark _)) (pss_one (ps_ret (pe_or (pe_cmpR op_eq (pe_ix ix_list (pv 1) pe_int (fun _ _ => rfl)) pe_str (nomark _)) (pe_one (pe_and (pe_cmpR op_eq (pe_slice sl_str (pe_ix ix_list (pv 1) pe_int (fun _ _ => rfl)) po_none (po_some pe_int)) pe_str (nomark _)) (pe_one (pe_cmpR op_ge (pe_callB call_len_str (by rfl) T.b_len boot_len (pa_cons (pe_ix ix_list (pv 1) pe_int (fun _ _ => rfl)) pa_nil)) pe_int (nomark _)))))))) pss_nil)
      (pss_one (ps_ret (pe_or (pe_cmpR op_ne (pv 0) pe_str (nomark _)) (pe_one (pe_cal C__law_is_name (hr.mono (by decide)) pass0 (pa_cons (pe_ix ix_list (pv 1) pe_int (fun _ _ => rfl)) pa_nil)))))))), ?_⟩
  refine ⟨_, rfl, b, _, _, _, rfl, rfl, SqL.of hb, atI_nat (j := 1) rfl, u.2, rfl, ?_⟩
  have e35 : cz "#" = [35] := by decide +kernel
  have eself : cz "self" = K80M.cp "self" := by decide +kernel
  cases hu2 : u.2 with
  | true =>
    refine ifT rfl ⟨_, rfl, rfl, ?_⟩
    rw [fC_v]
    have := hQ H (Same.refl H)
    have e : K80M.fit k u = decide (k = .v) := by cases k <;> unfold K80M.fit <;> simp [hu2]
    rw [e] at this
    exact this
  | false =>
    refine ifF rfl ⟨_, rfl, rfl, _, rfl, ?_⟩
    rw [fC_t]
    by_cases ht : k = .t
    · subst ht
      refine ifT (decide_eq_true rfl) ⟨_, rfl, b, _, _, _, rfl, rfl, SqL.of hb, atI_nat (j := 0) rfl, rfl, _, rfl, ?_⟩
      have ef : K80M.fit .t u = K80M.isTgt u.1 := by show (!u.2 && K80M.isTgt u.1) = _; rw [hu2]; rfl
      rw [ef] at hQ
      by_cases hs : u.1 = K80M.cp "self"
      · refine ifT (dec_str _ (decide_eq_true (by rw [cz_S, eself]; exact hs))) ?_
        have := hQ H (Same.refl H)
        rw [show K80M.isTgt u.1 = true from by unfold K80M.isTgt; rw [decide_eq_true hs]; rfl] at this
        exact this
      · refine ifF (dec_str _ (decide_eq_false (by rw [cz_S, eself]; exact hs))) ⟨_, rfl, b, _, _, _, rfl, rfl, SqL.of hb, atI_nat (j := 0) rfl, _, rfl, S u.1, rfl, hl, rfl, _, rfl, ?_⟩
        rw [cutS_one, cz_S]
        have eh : (u.1.take 1 = [35]) ↔ u.1.head? = some 35 := by
          cases u.1 with
          | nil => simp
          | cons c r => simp
        by_cases hh : u.1.head? = some 35
        · refine ifT (dec_str _ (decide_eq_true (by rw [cz_S, e35]; exact eh.mpr hh))) ⟨_, rfl, b, _, _, _, rfl, rfl, SqL.of hb, atI_nat (j := 0) rfl, S u.1, rfl, hl, _, _, rfl, rfl, ?_⟩
          have := hQ H (Same.refl H)
          have e2 : K80M.isTgt u.1 = decide ((2 : Int) ≤ ((S u.1 : Str).length : Int)) := by
            unfold K80M.isTgt
            rw [decide_eq_false hs, decide_eq_true hh, Bool.false_or, Bool.true_and]
            exact decide_eq_decide.mpr (by show 2 ≤ u.1.length ↔ (2 : Int) ≤ (u.1.toArray.size : Int); rw [List.size_toArray]; omega)
          rw [e2] at this
          exact this
        · refine ifF (dec_str _ (decide_eq_false (by rw [cz_S, e35]; exact fun h => hh (eh.mp h)))) ?_
          have := hQ H (Same.refl H)
          rw [show K80M.isTgt u.1 = false from by unfold K80M.isTgt; rw [decide_eq_false hs, decide_eq_false hh]; rfl] at this
          exact this
    · refine ifF (decide_eq_false ht) ⟨_, rfl, rfl, _, rfl, ?_⟩
      rw [fC_n]
      by_cases hn : k = .n
      · subst hn
        refine ifF (by rw [decide_eq_true rfl]; rfl) ⟨_, rfl, b, _, _, _, rfl, rfl, SqL.of hb, atI_nat (j := 0) rfl, S u.1, rfl, hl, fun H' s' => ?_⟩
        have := hQ H' s'
        rw [show K80M.fit .n u = K80M.isName u.1 from by show (!u.2 && K80M.isName u.1) = _; rw [hu2]; rfl] at this
        exact this
      · refine ifT (by rw [decide_eq_false hn]; rfl) ?_
        have := hQ H (Same.refl H)
        have e : K80M.fit k u = true := by
          cases k with
          | t => exact absurd rfl ht
          | n => exact absurd rfl hn
          | w => show (!u.2) = _; rw [hu2]; rfl
          | v => rfl
        rw [e] at this
        exact this
end
end K80

set_option Elab.async false
set_option linter.all false
set_option maxRecDepth 100000
set_option maxHeartbeats 1600000
/-! law k80: the law reads a handler -/
namespace K80
open PySem PySem.Spec PyProof.Rows L2
open K80M (Wd Part)
/-! ### the forms as the law tells them -/
def fmL : List (Str × List K80M.Kn) := [("set", [.t, .n, .v]), ("drop", [.t, .n]), ("add", [.t, .w]), ("cut", [.t, .w]), ("flip", [.t, .w]), ("say", [.t, .v]), ("take", [.t]), ("go", [.w]), ("focus", [.t]), ("stop", []), ("leave", [])]
def fS (ks : List K80M.Kn) : Str := S (ks.map fC)
theorem val_forms (z : Str) : ∀ L : List (Str × List K80M.Kn), valV (L.map fun p => ((.inr p.1 : Key), V.str (fS p.2))) (.inr z) = (K80M.look (cz z) (L.map fun p => (cz p.1, p.2))).map fun ks => V.str (fS ks)
  | [] => rfl
  | p :: r => by
    rw [List.map_cons, List.map_cons]
    by_cases h : p.1 = z
    · rw [valV_pos (by rw [h])]
      unfold K80M.look
      rw [if_pos (by rw [h])]
      rfl
    · rw [valV_neg (fun e => h (Sum.inr.inj e)), val_forms z r]
      conv => rhs; unfold K80M.look
      rw [if_neg (fun e => h (str_ext e))]
theorem fmL_forms : fmL.map (fun p => (cz p.1, p.2)) = K80M.forms := by decide +kernel
def kvF (x y : Str) : Key × V := (.inr x, .str y)
theorem merged_forms : mergeK (mergeK [] [kvF "set" "tnv", kvF "drop" "tn", kvF "add" "tw", kvF "cut" "tw", kvF "flip" "tw", kvF "say" "tv"]) (mergeK [] [kvF "take" "t", kvF "go" "w", kvF "focus" "t", kvF "stop" "", kvF "leave" ""]) =
    fmL.map fun p => ((.inr p.1 : Key), V.str (fS p.2)) := by decide +kernel
def FmAt (H : Hp) (f : Addr) : Prop := ∃ kvs, H f = some (.dK kvs) ∧ ∀ z : Str, valV kvs (.inr z) = (K80M.look (cz z) K80M.forms).map fun ks => V.str (fS ks)
/-! ### words as data -/
def wDL (u : Wd) : PyData := .list [.str (S u.1), .bool u.2]
theorem dpL_words {K : PySem.W.Frag} {H : Hp} : ∀ {xs : List V} {ws : List Wd}, Paired (RepL H) xs ws → DpAll K H xs (ws.map wDL)
  | _, _, .nil => .nil
  | _, _, .cons ⟨a, e, h⟩ t => by
    subst e
    exact .cons (.lst (SqL.of h) (.cons (.str _) (.cons (.bl _) .nil))) (dpL_words t)
theorem shapedL_words {ws : List Wd} (h : Good (fun c => c < 0x110000) ws) : SeqAt.shaped (.list (ws.map wDL)) = true := by
  have h1 : ∀ {ws : List Wd}, Good (fun c => c < 0x110000) ws → PyData.canLayAll0 (ws.map wDL) = true := by
    intro ws
    induction ws with
    | nil => intro _; rfl
    | cons u ws ih =>
      intro h
      have hu : PyData.strOk (S u.1) = true := by
        unfold PyData.strOk
        rw [← Array.all_toList]
        exact List.all_eq_true.mpr fun c hc => decide_eq_true (h u (by simp) c hc)
      have := ih fun v hv => h v (by simp [hv])
      simp only [List.map_cons, PyData.canLayAll0, wDL, PyData.canLay0, hu, Bool.and_true, Bool.true_and]
      exact this
  have h2 : ∀ ws : List Wd, PyData.depthAll (ws.map wDL) ≤ 1 := by
    intro ws
    induction ws with
    | nil => exact Nat.zero_le _
    | cons u ws ih =>
      simp only [List.map_cons, PyData.depthAll, wDL, PyData.depth]
      omega
  unfold SeqAt.shaped
  have e1 : PyData.canLay0 (.list (ws.map wDL)) = true := by simp only [PyData.canLay0]; exact h1 h
  have e2 : PyData.depth (.list (ws.map wDL)) ≤ 64 := by
    simp only [PyData.depth]
    have := h2 ws
    omega
  rw [e1, decide_eq_true e2]
  rfl
theorem eqvL_nil (ws : List Wd) : PyData.eqv (.list (ws.map wDL)) (.list []) = ws.isEmpty := by
  cases ws <;> simp [PyData.eqv, PyData.eqvAll]
theorem look_len {z : List Nat} {ks : List K80M.Kn} (h : K80M.look z K80M.forms = some ks) : ks.length ≤ 3 := by
  have : ∀ q ∈ K80M.forms, q.2.length ≤ 3 := by decide
  have lk : ∀ {l : List (List Nat × List K80M.Kn)}, K80M.look z l = some ks → ∃ q ∈ l, q.2 = ks := by
    intro l
    induction l with
    | nil => intro h; cases h
    | cons q l ih =>
      intro h
      unfold K80M.look at h
      split at h
      · exact ⟨q, by simp, Option.some.inj h⟩
      · obtain ⟨q', h1, h2⟩ := ih h
        exact ⟨q', by simp [h1], h2⟩
  obtain ⟨q, h1, h2⟩ := lk h
  rw [← h2]
  exact this q h1
section
variable {P : Program} {w : World} {K : PySem.W.Frag} {mg : Str → Option Value} {base : Heap} {F C : Addr}
def spLRead : Sp := fun vs H Q _ => ∃ (tb : Addr) (z : Str), vs = [.ref tb, .str z] ∧ TabAt H tb ∧ isText z = true ∧ ∀ H' p xs, Same H H' → H p = none → H' p = some (.lst xs) → Paired (RepT (hide H' p)) xs (K80M.acts (cz z)) → Q (.ref p) H'
theorem ok_law_read (T : Txt K w mg F) (A : At K mg "_law_read" s_law_read) (C__law_parts : Cal P w K mg base CX0 2 "_law_parts" ["table", "text"] spLParts) (C__law_fits : Cal P w K mg base CX0 2 "_law_fits" ["form", "word"] spLFits) :
    Cal P w K mg base CX0 3 "_law_read" ["table", "text"] spLRead := by
  refine A.ok sc_law_read (fun vs H Q E h => ?_) bd_law_read (fun f cdv A outer s H vs Q E hr h => ?_)
  · obtain ⟨tb, z, rfl, _⟩ := h; rfl
  obtain ⟨tb, z, rfl, htb, hz, hQ⟩ := h
  have hu := u1 hr.units
  have hl := isText_len hz
  refine ⟨_, (pss_cons (ps_par (i := 2) (j := 3) (by rfl) sc_law_read.nd rfl rfl (by decide) rfl rfl (pa_cons (pe_disp (pps_cons pe_str pe_str (pps_cons pe_str pe_str (pps_cons pe_str pe_str (pps_cons pe_str pe_str (pps_cons pe_str pe_str (pps_cons pe_str pe_str pps_nil)))))) (by rfl) (by rfl) (fun z => by cases z) (by decide)) (pa_cons (pe_lst pa_nil) pa_nil)) (by rfl))
      (pss_cons (ps_expr (pe_bm PySem.F.plainAttrs_dict PySem.F.slot_dict_update PySem.F.type_dict_update mt_updK (pv 2) (pa_cons (pe_disp (pps_cons pe_str pe_str (pps_cons pe_str pe_str (pps_cons pe_str pe_str (pps_cons pe_str pe_str (pps_cons pe_str pe_str pps_nil))))) (by rfl) (by rfl) (fun z => by cases z) (by decide)) pa_nil)))
      (pss_cons (ps_for PassesOwn.never rfl (pi_list (pe_cal C__law_parts (hr.mono (by decide)) pass0 (pa_cons (pv 0) (pa_cons (pv 1) pa_nil)))) (pg_name (i := 4) sc_law_read.nd rfl (Or.inr rfl))
      (pss_one (ps_if (PW.pt (pw_and (pt_cmpR op_notN (pv 4) pe_non (nomark _)) (pw_and (pt_cmpR (op_neD hr.units) (pv 4) (pe_lst pa_nil) (nomark _)) (pw_and (pt_not (pt_val (pe_ix ix_list (pe_ix ix_list (pv 4) pe_int (fun _ _ => rfl)) pe_int (fun _ _ => rfl)))) (pw_and1 (pt_cmp (pc_din hu (pe_ix ix_list (pe_ix ix_list (pv 4) pe_int (fun _ _ => rfl)) pe_int (fun _ _ => rfl)) (pv 2)))))))) (pss_cons (ps_set (i := 5) sc_law_read.nd rfl (Or.inr rfl) (pe_dget hu (pv 2) (pe_ix ix_list (pe_ix ix_list (pv 4) pe_int (fun _ _ => rfl)) pe_int (fun _ _ => rfl)) (fun _ _ => rfl)))
      (pss_one (ps_if (PW.pt (pw_and (pt_cmpR op_eq (pe_callB call_len_str (by rfl) T.b_len boot_len (pa_cons (pv 5) pa_nil)) (pe_op op_sub (pe_callB call_len_seq (by rfl) T.b_len boot_len (pa_cons (pv 4) pa_nil)) pe_int) (nomark _)) (pw_and1 (pt_val (pe_callB (cr_all rfl) (by rfl) T.b_all boot_all (pa_cons (pe_lc (own := [("k", 6)]) (g := gName 6) (tt := tYes) (te := tCall spLFits [] E0 (tCons (tOp rIxS (tVar 5) (tVar 6)) (tCons (tOp (rIxL K) (tVar 4) (tOp (rI0 fun i j => .int (i + j)) (tVar 6) (tC (.int 1)))) tNil))) rfl sc_law_read.nd (pi_range1 rfl T.b_range (pa_cons (pe_callB call_len_str (by rfl) T.b_len boot_len (pa_cons (pv 5) pa_nil)) pa_nil)) (blkOk_by (own := [("k", 6)]) (N := N_law_read) (sc := defScope s_law_read) (by decide +kernel)) (fun _ _ _ _ _ => (pg_name (i := 6) sc_law_read.nd rfl (Or.inl rfl))) (fun _ _ _ _ _ => pts_nil) (fun _ _ _ _ _ => (pe_cal C__law_fits (hr.mono (by decide)) pass0 (pa_cons (pe_ix ix_str (pv 5) (pv 6) (fun _ _ => rfl)) (pa_cons (pe_ix ix_list (pv 4) (pe_op op_add (pv 6) pe_int) (fun _ _ => rfl)) pa_nil))))) pa_nil)))))) (pss_one (ps_expr (pe_bm PySem.F.plainAttrs_list PySem.F.slot_list_append PySem.F.type_list_append mt_append (pv 3) (pa_cons (pe_callTy call_tuple_of (by rfl) T.b_tuple boot_tuple (pa_cons (pe_lc (own := [("word", 7)]) (g := gName 7) (tt := tYes) (te := tOp (rIxL K) (tVar 7) (tC (.int 0))) rfl sc_law_read.nd (pi_list (pv 4)) (blkOk_by (own := [("word", 7)]) (N := N_law_read) (sc := defScope s_law_read) (by decide +kernel)) (fun _ _ _ _ _ => (pg_name (i := 7) sc_law_read.nd rfl (Or.inl rfl))) (fun _ _ _ _ _ => pts_nil) (fun _ _ _ _ _ => (pe_ix ix_list (pv 7) pe_int (fun _ _ => rfl)))) pa_nil)) pa_nil)))) pss_nil))) pss_nil)))
      (pss_one (ps_ret (pv 3)))))), ?_⟩
  refine fun fd hfd => ⟨upd_same, [kvF "set" "tnv", kvF "drop" "tn", kvF "add" "tw", kvF "cut" "tw", kvF "flip" "tw", kvF "say" "tv"], rfl, by show 6 ≤ 15; decide, Nat.zero_le _, fun fa hfa => ⟨_, _, rfl, ?_⟩⟩
  rw [upd_upd] at hfa ⊢
  have nff : fd ≠ fa := ne_of_none upd_same hfa
  refine ⟨_, rfl, .inr (.inr (.inl ⟨rfl, .inl ⟨_, by rw [upd_ne nff]; exact upd_same⟩⟩)), fun o ho => ?_⟩
  refine ⟨upd_same, [kvF "take" "t", kvF "go" "w", kvF "focus" "t", kvF "stop" "", kvF "leave" ""], rfl, by show 5 ≤ 15; decide, ?_⟩
  rw [upd_upd]
  have ndo : fd ≠ o := ne_of_none (show _ = some _ from by rw [upd_ne nff]; exact upd_same) ho
  have nao : fa ≠ o := ne_of_none upd_same ho
  refine ⟨fd, o, _, _, rfl, rfl, ndo, by rw [upd_ne ndo, upd_ne nff]; exact upd_same, upd_same, ?_, ?_⟩
  · have h1 := length_mergeK [kvF "set" "tnv", kvF "drop" "tn", kvF "add" "tw", kvF "cut" "tw", kvF "flip" "tw", kvF "say" "tv"] []
    have h2 := length_mergeK [kvF "take" "t", kvF "go" "w", kvF "focus" "t", kvF "stop" "", kvF "leave" ""] []
    simp only [List.length_cons, List.length_nil] at h1 h2
    exact Nat.le_of_lt (line5 (by omega))
  rw [merged_forms]
  -- the heap behind the forms
  have hfa0 : H fa = none := by rw [upd_ne nff.symm] at hfa; exact hfa
  obtain ⟨H3, eH3⟩ : ∃ H3, H3 = upd (upd (upd (upd H fd (.dK (mergeK [] [kvF "set" "tnv", kvF "drop" "tn", kvF "add" "tw", kvF "cut" "tw", kvF "flip" "tw", kvF "say" "tv"]))) fa (.lst [])) o (.dK (mergeK [] [kvF "take" "t", kvF "go" "w", kvF "focus" "t", kvF "stop" "", kvF "leave" ""]))) fd (.dK (fmL.map fun p => ((.inr p.1 : Key), V.str (fS p.2)))) := ⟨_, rfl⟩
  rw [← eH3]
  have s3 : Same H H3 := by
    rw [eH3]
    exact Same.mut (((Same.new hfd).trans (Same.new hfa)).trans (Same.new ho)) hfd
  have hF3 : FmAt H3 fd := ⟨_, by rw [eH3]; exact upd_same, fun z => by rw [val_forms, fmL_forms]⟩
  have hfa3 : H3 fa = some (.lst []) := by rw [eH3, upd_ne nff.symm, upd_ne nao]; exact upd_same
  clear eH3 hfa ho nff ndo nao hfd
  refine ⟨_, rfl, _, rfl, tb, z, rfl, htb.same s3, hl, fun H4 pp ps G s4 hpp0 hpp dG sG rp => ⟨pp, rfl, ⟨_, SqL.of hpp⟩, ?_⟩⟩
  have hfa4 := s4 _ _ hfa3
  have npf : pp ≠ fa := (ne_of_none hfa3 hpp0).symm
  have sGh : Same G (hide H4 fa) := Same.hide sG (dG _ _ hfa3)
  have hpph : (hide H4 fa) pp = some (.lst ps) := by rw [hide_ne npf]; exact hpp
  obtain ⟨fkv, hfd3, hval⟩ := hF3
  have hfdh : (hide H4 fa) fd = some (.dK fkv) := by
    rw [hide_ne (fun e => by rw [e, hfa3] at hfd3; cases hfd3)]
    exact s4 _ _ hfd3
  have hln := Paired.length rp
  have hpl := P_len _ (cz z) [] true (Nat.lt_succ_self _)
  rw [← cz_len] at hpl
  refine for_it (walk_list (K := K) (a := pp) (xs := ps)) (fun i σ H5 => Same (hide H4 fa) H5 ∧ ∃ (zs : List V) (o4 o5 o6 o7 : Option V), σ = [some (.ref tb), some (.str z), some (.ref fd), some (.ref fa), o4, o5, o6, o7] ∧ H5 fa = some (.lst zs) ∧ zs.length ≤ i ∧ Paired (RepT (hide H5 fa)) zs (((K80M.P (cz z) [] true).take i).filterMap K80M.act))
    ⟨hide_same, [], _, _, _, _, rfl, hfa4, Nat.zero_le _, .nil⟩ (fun i σ H5 _ q => SqL.of (q.1 _ _ hpph)) (fun i x σ H5 H6 hi q y => ?_) (fun σ H5 q => ?_)
  · obtain ⟨s5, zs, o4, o5, o6, o7, rfl, hfa5, hzs, rz⟩ := q
    obtain ⟨rfl, hx⟩ := y
    have hx : ps[i]? = some x := hx
    obtain ⟨pt, hpt, rpt⟩ := Paired.get' rp hx
    -- a part that says nothing: whatever was made meanwhile
    have skip : K80M.act pt = none → ∀ H7, Same H6 H7 → ∀ o4 o5 o6 o7, Same (hide H4 fa) H7 ∧ ∃ (zs : List V) (p4 p5 p6 p7 : Option V), [some (V.ref tb), some (.str z), some (.ref fd), some (.ref fa), o4, o5, o6, o7] = [some (.ref tb), some (.str z), some (.ref fd), some (.ref fa), p4, p5, p6, p7] ∧ H7 fa = some (.lst zs) ∧ zs.length ≤ i + 1 ∧ Paired (RepT (hide H7 fa)) zs (((K80M.P (cz z) [] true).take (i + 1)).filterMap K80M.act) := by
      intro ha H7 s7 o4 o5 o6 o7
      refine ⟨s5.trans s7, zs, _, _, _, _, rfl, s7 _ _ hfa5, by omega, ?_⟩
      rw [List.take_add_one, hpt, List.filterMap_append]
      simp only [Option.toList_some, List.filterMap_cons, ha, List.filterMap_nil, List.append_nil]
      exact Paired.mapP rz fun _ _ q => q.same (Same.hides s7)
    refine ⟨_, rfl, rfl, _, rfl, ?_⟩
    cases pt with
    | none =>
      cases (show x = .non from rpt)
      exact ifF rfl (skip rfl _ (Same.refl _) _ _ _ _)
    | some ws =>
      obtain ⟨b, rfl, xs, hb, rx⟩ := rpt
      refine ifT rfl ?_
      have hgood : Good (fun c => c < 0x110000) ws ∧ ∀ u ∈ ws, u.1.length ≤ sizeLine := by
        have seg := fun u hu => P_seg _ (cz z) [] true (Nat.lt_succ_self _) _ (List.mem_of_getElem? hpt) ws rfl u hu
        refine ⟨fun u hu c hc => ?_, fun u hu => ?_⟩
        · rcases seg u hu with q | q
          · cases q
          · exact told_good hz c (q.mem hc)
        · rcases seg u hu with q | q
          · cases q
          · have := q.len
            rw [← cz_len] at this
            exact Nat.le_of_lt (line5 (by omega))
      obtain ⟨hg1, hg2⟩ := hgood
      have sG6 : Same G H6 := sGh.trans s5
      have hb6 := sG6 _ _ hb
      refine ⟨_, rfl, Nat.zero_le _, fun l hl0 => ⟨.list (ws.map wDL), .list [], .lst (SqL.of ((Same.new hl0) _ _ hb6)) (dpL_words (Paired.mapP rx fun _ _ q => q.same (sG6.trans (Same.new hl0)))), .lst (SqL.of upd_same) .nil, shapedL_words hg1, rfl, ?_⟩⟩
      rw [eqvL_nil]
      refine ⟨_, rfl, ?_⟩
      have s7 : Same H6 (upd H6 l (.lst [])) := Same.new hl0
      cases ws with
      | nil => exact ifF rfl (skip rfl _ s7 _ _ _ _)
      | cons u ws =>
        cases rx with
        | @cons x u xs ws hxu rx =>
        obtain ⟨t0, rfl, ht0⟩ := hxu
        have hb7 := s7 _ _ hb6
        have ht7 := s7 _ _ (sG6 _ _ ht0)
        refine ifT rfl ⟨_, rfl, b, _, _, _, rfl, rfl, SqL.of hb7, atI_nat (j := 0) rfl, t0, _, _, _, rfl, rfl, SqL.of ht7, atI_nat (j := 1) rfl, u.2, rfl, ?_⟩
        cases hu2 : u.2 with
        | true =>
          refine ifF rfl (skip ?_ _ s7 _ _ _ _)
          show (if u.2 = true then none else _) = _
          rw [if_pos hu2]
        | false =>
          have eact : K80M.act (some (u :: ws)) = match K80M.look u.1 K80M.forms with
              | none => none
              | some ks => if K80M.allFit ks ws = true then some ((u :: ws).map (·.1)) else none := by
            show (if u.2 = true then none else _) = _
            rw [if_neg (by rw [hu2]; exact Bool.false_ne_true)]
            all_goals (cases K80M.look u.1 K80M.forms <;> rfl)
          have hfd7 := s7 _ _ (s5 _ _ hfdh)
          have hv := hval (S u.1)
          rw [cz_S] at hv
          refine ifT rfl ⟨_, rfl, b, _, _, _, rfl, rfl, SqL.of hb7, atI_nat (j := 0) rfl, t0, _, _, _, rfl, rfl, SqL.of ht7, atI_nat (j := 0) rfl, _, rfl, fd, _, rfl, DGet.k (k := .inr (S u.1)) hfd7, _, rfl, ?_⟩
          rw [hv]
          cases hlk : K80M.look u.1 K80M.forms with
          | none =>
            rw [hlk] at eact
            exact ifF rfl (skip eact _ s7 _ _ _ _)
          | some ks =>
            rw [hlk] at eact hv
            have eact' : K80M.act (some (u :: ws)) = if K80M.allFit ks ws = true then some ((u :: ws).map (·.1)) else none := eact
            refine ifT rfl ⟨_, rfl, _, rfl, b, _, _, _, rfl, rfl, SqL.of hb7, atI_nat (j := 0) rfl, t0, _, _, _, rfl, rfl, SqL.of ht7, atI_nat (j := 0) rfl, fd, V.str (fS ks), rfl, ?_, ?_⟩
            · have := DGet.k (k := .inr (S u.1)) hfd7
              rw [hv] at this
              exact this
            have hk3 := look_len hlk
            have lx := Paired.length rx
            have lf : (fS ks).length = ks.length := by rw [cz_len]; show (ks.map fC).length = _; rw [List.length_map]
            have lfs : (fS ks).length ≤ sizeLine := Nat.le_of_lt (line5 (by omega))
            refine ⟨_, rfl, fS ks, rfl, lfs, _, rfl, b, _, rfl, .inl (SqL.of hb7), _, _, rfl, rfl, rfl, _, rfl, ?_⟩
            by_cases hlen : ks.length = ws.length
            · refine ifT (by rw [dec_int true (decide_eq_true (by rw [List.length_cons]; omega))]) ⟨_, rfl, fS ks, rfl, lfs, _, rfl, by omega, by omega, fun D hD => ?_⟩
              rw [Int.toNat_natCast, lf]
              refine lc_it walk_range (fun j H8 => Same (upd H6 l (.lst [])) H8 ∧ ∃ bs : List Bool, H8 D = some (.lst (bs.map V.bl)) ∧ bs.length = j ∧ ∀ (m : Nat) (kn : K80M.Kn) (u' : Wd), m < j → ks[m]? = some kn → ws[m]? = some u' → bs[m]? = some (K80M.fit kn u')) ⟨Same.new hD, [], upd_same, rfl, fun _ _ _ h => absurd h (Nat.not_lt_zero _)⟩ (fun _ _ _ _ => trivial) (fun j x H8 H9 hj q y => ?_) (fun H8 q => ?_)
              · obtain ⟨s8, bs, hd8, hbl, hbs⟩ := q
                obtain ⟨rfl, rfl⟩ := y
                have hjk : ks[j]? = some ks[j] := List.getElem?_eq_getElem hj
                obtain ⟨u', hu'⟩ : ∃ u', ws[j]? = some u' := ⟨ws[j]'(by omega), List.getElem?_eq_getElem (by omega)⟩
                obtain ⟨xv, hxv, tj, rfl, htj⟩ := Paired.get rx hu'
                have htj8 := s8 _ _ (s7 _ _ (sG6 _ _ htj))
                refine ⟨rfl, _, rfl, _, rfl, fS ks, _, fC ks[j], rfl, rfl, lfs, ?_, _, rfl, _, rfl, _, _, rfl, rfl, b, _, _, _, rfl, rfl, SqL.of (s8 _ _ hb7), ?_, ks[j], tj, u', rfl, htj8, hg2 u' (List.mem_cons_of_mem _ (List.mem_of_getElem? hu')), fun H10 s10 => ⟨_, s10 _ _ hd8, line5 (by rw [List.length_map]; omega), Same.mut (s8.trans s10) hD, bs ++ [K80M.fit ks[j] u'], ?_, ?_, ?_⟩⟩
                · rw [show (0 : Int) + (j : Int) = ((j : Nat) : Int) by omega]
                  refine atI_nat ?_
                  show (ks.map fC)[j]? = _
                  rw [List.getElem?_map, hjk]
                  rfl
                · show atI (V.ref t0 :: xs) ((0 : Int) + (j : Int) + 1) = some (V.ref tj)
                  rw [show (0 : Int) + (j : Int) + 1 = ((j + 1 : Nat) : Int) by omega]
                  exact atI_nat hxv
                · rw [upd_same, List.map_append]; rfl
                · rw [List.length_append, hbl]; rfl
                · intro m kn u2 hm h1 h2
                  by_cases hmj : m = j
                  · subst hmj
                    rw [hjk] at h1
                    rw [hu'] at h2
                    cases h1
                    cases h2
                    rw [List.getElem?_append_right (by omega), hbl, Nat.sub_self]
                    rfl
                  · rw [List.getElem?_append_left (by omega)]
                    exact hbs m kn u2 (by omega) h1 h2
              · obtain ⟨s8, bs, hd8, hbl, hbs⟩ := q
                refine ⟨D, bs, rfl, SqL.of hd8, _, rfl, ?_⟩
                have hall : bs.all id = K80M.allFit ks ws := by
                  rw [Bool.eq_iff_iff, allFit_iff hlen, List.all_eq_true]
                  constructor
                  · intro h m kn u' h1 h2
                    have hm : m < ks.length := (List.getElem?_eq_some_iff.mp h1).1
                    exact h _ (List.mem_of_getElem? (hbs m kn u' hm h1 h2))
                  · intro h bb hbb
                    obtain ⟨m, hm, rfl⟩ := List.mem_iff_getElem.mp hbb
                    have h1 : ks[m]? = some (ks[m]'(by omega)) := List.getElem?_eq_getElem (by omega)
                    have h2 : ws[m]? = some (ws[m]'(by omega)) := List.getElem?_eq_getElem (by omega)
                    have h3 := hbs m _ _ (by omega) h1 h2
                    rw [List.getElem?_eq_getElem hm] at h3
                    show bs[m] = true
                    rw [Option.some.inj h3]
                    exact h m _ _ h1 h2
                rw [hall]
                have s68 := s7.trans s8
                cases hfa_ : K80M.allFit ks ws with
                | false =>
                  rw [hfa_] at eact'
                  exact ifF rfl (skip (by rw [eact']; rfl) _ s68 _ _ _ _)
                | true =>
                  rw [hfa_] at eact'
                  have eact2 : K80M.act (some (u :: ws)) = some ((u :: ws).map (·.1)) := eact'
                  have hfa8 := s68 _ _ hfa5
                  have rxs : Paired (RepL G) (.ref t0 :: xs) (u :: ws) := .cons ⟨t0, rfl, ht0⟩ rx
                  refine ifT rfl ⟨_, rfl, .inl ⟨rfl, _, SqL.of hfa8⟩, _, rfl, b, rfl, ⟨_, SqL.of (s8 _ _ hb7)⟩, fun D2 hD2 => ?_⟩
                  refine lc_it (walk_list (K := K) (a := b) (xs := .ref t0 :: xs)) (fun j H9 => Same H8 H9 ∧ H9 D2 = some (.lst (((u :: ws).take j).map fun u => V.str (S u.1)))) ⟨Same.new hD2, upd_same⟩ (fun j H9 _ p => SqL.of (p.1 _ _ (s8 _ _ hb7))) (fun j x H9 H10 hj p y => ?_) (fun H9 p => ?_)
                  · obtain ⟨s9, hd9⟩ := p
                    obtain ⟨rfl, hx2⟩ := y
                    have hx2 : (V.ref t0 :: xs)[j]? = some x := hx2
                    obtain ⟨u', hu', t', rfl, ht'⟩ := Paired.get' rxs hx2
                    refine ⟨rfl, _, rfl, t', _, _, _, rfl, rfl, SqL.of (s9 _ _ (s68 _ _ (sG6 _ _ ht'))), atI_nat (j := 0) rfl, _, hd9, ?_, Same.mut s9 hD2, ?_⟩
                    · rw [List.length_map, List.length_take, List.length_cons, ← hlen]
                      exact line5 (by omega)
                    · rw [upd_same, List.take_add_one, hu', List.map_append]
                      rfl
                  · obtain ⟨s9, hd9⟩ := p
                    rw [show (V.ref t0 :: xs).length = (u :: ws).length from Paired.length rxs, List.take_length] at hd9
                    have hfa9 := s9 _ _ hfa8
                    refine ⟨D2, _, rfl, .inl ⟨SqL.of hd9, fun q hq => ?_⟩⟩
                    have hfq : fa ≠ q := ne_of_none hfa9 hq
                    have hfa10 := Same.new (o := .tup ((u :: ws).map fun u => V.str (S u.1))) hq _ _ hfa9
                    have s610 := (s68.trans s9).trans (Same.new (o := .tup ((u :: ws).map fun u => V.str (S u.1))) hq)
                    refine ⟨fa, zs, _, rfl, rfl, hfa10, line5 (by omega), Same.mut (s5.trans s610) hide_self, zs ++ [.ref q], _, _, _, _, rfl, upd_same, by rw [List.length_append, List.length_singleton]; omega, ?_⟩
                    rw [hide_upd, List.take_add_one, hpt, List.filterMap_append]
                    simp only [Option.toList_some, List.filterMap_cons, eact2, List.filterMap_nil]
                    refine Paired.snoc (Paired.mapP rz fun _ _ q => q.same (Same.hides s610)) (RepT.hide hfa10 ⟨q, rfl, ?_⟩)
                    unfold RepA
                    rw [upd_same, List.map_map]
                    rfl
            · exact ifF (by rw [dec_int false (decide_eq_false (by rw [List.length_cons]; omega))]) (skip (by rw [eact', if_neg]; intro h; exact hlen (K80M.allFit_len h)) _ s7 _ _ _ _)
  · obtain ⟨s5, zs, o4, o5, o6, o7, rfl, hfa5, hzs, rz⟩ := q
    rw [hln, List.take_length] at rz
    refine ⟨_, rfl, hQ _ fa zs ?_ hfa0 hfa5 rz⟩
    exact (Same.hide (s3.trans s4) hfa0).trans s5
end
end K80

set_option Elab.async false
set_option linter.all false
set_option maxRecDepth 100000
set_option maxHeartbeats 1600000
/-! law k80: the law's comparing of what is told with what is due -/
namespace K80
open PySem PySem.Spec PyProof.Rows L2
open K80M (Wd Part)
/-- what stands on the stack: a text, a tuple of texts, a list of such tuples -/
inductive Tr where
  | s (z : List Nat)
  | t (ss : List (List Nat))
  | l (ts : List (List (List Nat)))
def Tr.at_ (H : Hp) (v : V) : Tr → Prop
  | .s z => v = .str (S z)
  | .t ss => RepT H v ss
  | .l ts => ∃ a xs, v = .ref a ∧ H a = some (.lst xs) ∧ Paired (RepT H) xs ts
def Tr.ok : Tr → Prop
  | .s z => ∀ c ∈ z, c < 0x110000
  | .t ss => ss.length ≤ 4 ∧ ∀ z ∈ ss, ∀ c ∈ z, c < 0x110000
  | .l ts => ts.length ≤ 4000 ∧ ∀ ss ∈ ts, ss.length ≤ 4 ∧ ∀ z ∈ ss, ∀ c ∈ z, c < 0x110000
/-- turns that it takes -/
def Tr.work : Tr → Nat
  | .s _ => 1
  | .t ss => 1 + ss.length
  | .l ts => 1 + (ts.map fun ss => 1 + ss.length).sum
def Tr.d : Tr → PyData
  | .s z => .str (S z)
  | .t ss => .tuple (ss.map fun z => .str (S z))
  | .l ts => .list (ts.map fun ss => .tuple (ss.map fun z => .str (S z)))
theorem Tr.at_.same {H H' : Hp} (s : Same H H') {v : V} {t : Tr} (h : t.at_ H v) : t.at_ H' v := by
  cases t with
  | s z => exact h
  | t ss => exact RepT.same s h
  | l ts =>
    obtain ⟨a, xs, e, h1, h2⟩ := h
    exact ⟨a, xs, e, s _ _ h1, Paired.mapP h2 fun _ _ q => q.same s⟩
theorem dp_strs {K : PySem.W.Frag} {H : Hp} : ∀ ss : List (List Nat), DpAll K H (ss.map fun z => V.str (S z)) (ss.map fun z => .str (S z))
  | [] => .nil
  | z :: r => .cons (.str _) (dp_strs r)
theorem dp_tups {K : PySem.W.Frag} {H : Hp} : ∀ {xs : List V} {ts : List (List (List Nat))}, Paired (RepT H) xs ts → DpAll K H xs (ts.map fun ss => .tuple (ss.map fun z => .str (S z)))
  | _, _, .nil => .nil
  | _, _, .cons ⟨a, e, h⟩ r => by
    subst e
    exact .cons (.tup (SqT.of h) (dp_strs _)) (dp_tups r)
theorem Tr.dp {K : PySem.W.Frag} {H : Hp} {v : V} {t : Tr} (h : t.at_ H v) : Dp K H v t.d := by
  cases t with
  | s z => cases (show v = .str (S z) from h); exact .str _
  | t ss =>
    obtain ⟨a, rfl, h⟩ := h
    exact .tup (SqT.of h) (dp_strs _)
  | l ts =>
    obtain ⟨a, xs, rfl, h1, h2⟩ := h
    exact .lst (SqL.of h1) (dp_tups h2)
theorem strOk_S {z : List Nat} (h : ∀ c ∈ z, c < 0x110000) : PyData.strOk (S z) = true := by
  unfold PyData.strOk
  rw [← Array.all_toList]
  exact List.all_eq_true.mpr fun c hc => decide_eq_true (h c hc)
theorem can_strs : ∀ ss : List (List Nat), (∀ z ∈ ss, ∀ c ∈ z, c < 0x110000) → PyData.canLayAll0 (ss.map fun z => .str (S z)) = true ∧ PyData.depthAll (ss.map fun z => .str (S z)) = 0
  | [], _ => ⟨rfl, rfl⟩
  | z :: r, h => by
    obtain ⟨h1, h2⟩ := can_strs r fun z hz => h z (by simp [hz])
    simp only [List.map_cons, PyData.canLayAll0, PyData.canLay0, PyData.depthAll, PyData.depth, strOk_S (h z (by simp)), h1, h2]
    exact ⟨rfl, rfl⟩
theorem can_tups : ∀ ts : List (List (List Nat)), (∀ ss ∈ ts, ∀ z ∈ ss, ∀ c ∈ z, c < 0x110000) → PyData.canLayAll0 (ts.map fun ss => .tuple (ss.map fun z => .str (S z))) = true ∧ PyData.depthAll (ts.map fun ss => .tuple (ss.map fun z => .str (S z))) ≤ 1
  | [], _ => ⟨rfl, Nat.zero_le _⟩
  | ss :: r, h => by
    obtain ⟨h1, h2⟩ := can_tups r fun z hz => h z (by simp [hz])
    obtain ⟨h3, h4⟩ := can_strs ss (h ss (by simp))
    simp only [List.map_cons, PyData.canLayAll0, PyData.canLay0, PyData.depthAll, PyData.depth, h1, h3, h4]
    exact ⟨rfl, by omega⟩
theorem Tr.can {t : Tr} (h : t.ok) : PyData.canLay0 t.d = true ∧ PyData.depth t.d ≤ 3 := by
  cases t with
  | s z =>
    simp only [Tr.d, PyData.canLay0, PyData.depth, strOk_S h]
    exact ⟨trivial, by omega⟩
  | t ss =>
    obtain ⟨h3, h4⟩ := can_strs ss h.2
    simp only [Tr.d, PyData.canLay0, PyData.depth, h3, h4]
    exact ⟨trivial, by omega⟩
  | l ts =>
    obtain ⟨h3, h4⟩ := can_tups ts fun ss hs => (h.2 ss hs).2
    simp only [Tr.d, PyData.canLay0, PyData.depth, h3]
    exact ⟨trivial, by omega⟩
/-- a pair on the stack -/
def PrAt (H : Hp) (v : V) (t : Tr) : Prop := ∃ p x y, v = .ref p ∧ H p = some (.tup [x, y]) ∧ t.at_ H x ∧ t.at_ H y
theorem PrAt.same {H H' : Hp} (s : Same H H') {v : V} {t : Tr} (h : PrAt H v t) : PrAt H' v t := by
  obtain ⟨p, x, y, e, h1, h2, h3⟩ := h
  exact ⟨p, x, y, e, s _ _ h1, h2.same s, h3.same s⟩
def pD (t : Tr) : PyData := .tuple [t.d, t.d]
theorem dp_prs {K : PySem.W.Frag} {H : Hp} : ∀ {xs : List V} {ts : List Tr}, Paired (PrAt H) xs ts → DpAll K H xs (ts.map pD)
  | _, _, .nil => .nil
  | _, _, .cons ⟨p, x, y, e, h1, h2, h3⟩ r => by
    subst e
    exact .cons (.tup (SqT.of h1) (.cons (Tr.dp h2) (.cons (Tr.dp h3) .nil))) (dp_prs r)
theorem shaped_prs {ts : List Tr} (h : ∀ t ∈ ts, t.ok) : SeqAt.shaped (.list (ts.map pD)) = true := by
  have key : ∀ ts : List Tr, (∀ t ∈ ts, t.ok) → PyData.canLayAll0 (ts.map pD) = true ∧ PyData.depthAll (ts.map pD) ≤ 4 := by
    intro ts
    induction ts with
    | nil => intro _; exact ⟨rfl, Nat.zero_le _⟩
    | cons t r ih =>
      intro h
      obtain ⟨h1, h2⟩ := ih fun u hu => h u (by simp [hu])
      obtain ⟨h3, h4⟩ := Tr.can (h t (by simp))
      simp only [List.map_cons, PyData.canLayAll0, PyData.canLay0, PyData.depthAll, PyData.depth, pD, h1, h3]
      exact ⟨rfl, by omega⟩
  obtain ⟨h1, h2⟩ := key ts h
  unfold SeqAt.shaped
  have e1 : PyData.canLay0 (.list (ts.map pD)) = true := by simp only [PyData.canLay0]; exact h1
  have e2 : PyData.depth (.list (ts.map pD)) ≤ 64 := by
    simp only [PyData.depth]
    omega
  rw [e1, decide_eq_true e2]
  rfl
theorem eqv_prs (ts : List Tr) : PyData.eqv (.list (ts.map pD)) (.list []) = ts.isEmpty := by
  cases ts <;> simp [PyData.eqv, PyData.eqvAll]
/-- what stands in a tree -/
def Tr.kids : Tr → List Tr
  | .s _ => []
  | .t ss => ss.map .s
  | .l ts => ts.map .t
theorem Tr.kids_ok {t : Tr} (h : t.ok) : ∀ k ∈ t.kids, k.ok := by
  cases t with
  | s z => intro k hk; cases hk
  | t ss =>
    intro k hk
    obtain ⟨z, hz, rfl⟩ := List.mem_map.mp hk
    exact h.2 z hz
  | l ts =>
    intro k hk
    obtain ⟨ss, hs, rfl⟩ := List.mem_map.mp hk
    exact h.2 ss hs
theorem Tr.kids_len {t : Tr} (h : t.ok) : t.kids.length ≤ 4000 := by
  cases t with
  | s z => exact Nat.zero_le _
  | t ss => show (ss.map _).length ≤ _; rw [List.length_map]; have := h.1; omega
  | l ts => show (ts.map _).length ≤ _; rw [List.length_map]; exact h.1
def works (ts : List Tr) : Nat := (ts.map Tr.work).sum
theorem works_app (a b : List Tr) : works (a ++ b) = works a + works b := by unfold works; rw [List.map_append, List.sum_append]
theorem Tr.work_kids (t : Tr) : t.work = 1 + works t.kids := by
  cases t with
  | s z => rfl
  | t ss =>
    show 1 + ss.length = 1 + ((ss.map Tr.s).map Tr.work).sum
    congr 1
    induction ss with
    | nil => rfl
    | cons z r ih => rw [List.map_cons, List.map_cons, List.sum_cons, List.length_cons, ← ih]; show _ = 1 + _; omega
  | l ts =>
    show 1 + _ = 1 + ((ts.map Tr.t).map Tr.work).sum
    rw [List.map_map]
    rfl
theorem len_works : ∀ ts : List Tr, ts.length ≤ works ts
  | [] => Nat.le_refl _
  | t :: r => by
    have h1 := len_works r
    have h2 := Tr.work_kids t
    unfold works at h1 ⊢
    rw [List.map_cons, List.sum_cons, List.length_cons]
    omega
theorem Tr.work_top {ts : List (List (List Nat))} (h : (Tr.l ts).ok) : (Tr.l ts).work ≤ 1 + 5 * 4000 := by
  have : ∀ ts : List (List (List Nat)), (∀ ss ∈ ts, ss.length ≤ 4) → (ts.map fun ss => 1 + ss.length).sum ≤ 5 * ts.length := by
    intro ts
    induction ts with
    | nil => intro _; exact Nat.le_refl _
    | cons ss r ih =>
      intro h
      have h1 := ih fun x hx => h x (by simp [hx])
      have h2 := h ss (by simp)
      rw [List.map_cons, List.sum_cons, List.length_cons]
      omega
  have h1 := this ts fun ss hs => (h.2 ss hs).1
  have h2 := h.1
  show 1 + _ ≤ _
  omega
/-- a tree that is no text: a sequence of kind T -/
theorem Tr.seq {G : Hp} {t : Tr} {x y : V} (hx : t.at_ G x) (hy : t.at_ G y) (h : ∀ z, t ≠ .s z) : ∃ (a b : Addr) (xs ys : List V) (T : String) (kt kl : Bool), x = .ref a ∧ y = .ref b ∧
    (∀ (K : PySem.W.Frag) (H : Hp), Same G H → TyX K H (.ref a) (.type T) ∧ TyX K H (.ref b) (.type T) ∧ (SqL K H a xs ∨ SqT K H a xs) ∧ (SqL K H b ys ∨ SqT K H b ys)) ∧ kitB T "bool" = some false ∧ kitB T "int" = some false ∧ kitB T "str" = some false ∧ kitB T "dict" = some false ∧
    kitB T "tuple" = some kt ∧ kitB T "list" = some kl ∧ xs.length = t.kids.length ∧ ys.length = t.kids.length ∧ (∀ (j : Nat) (k : Tr), t.kids[j]? = some k → ∃ u v, xs[j]? = some u ∧ ys[j]? = some v ∧ k.at_ G u ∧ k.at_ G v) := by
  cases t with
  | s z => exact absurd rfl (h z)
  | t ss =>
    obtain ⟨a, rfl, ha⟩ := hx
    obtain ⟨b, rfl, hb⟩ := hy
    refine ⟨a, b, _, _, "tuple", true, false, rfl, rfl, fun K H s => ⟨.base (.tup (s _ _ ha)), .base (.tup (s _ _ hb)), .inr (SqT.of (s _ _ ha)), .inr (SqT.of (s _ _ hb))⟩, by decide +kernel, by decide +kernel, by decide +kernel, by decide +kernel, by decide +kernel, by decide +kernel, ?_, ?_, fun j k hk => ?_⟩
    · show (ss.map _).length = (ss.map _).length; rw [List.length_map, List.length_map]
    · show (ss.map _).length = (ss.map _).length; rw [List.length_map, List.length_map]
    · have hk : (ss.map Tr.s)[j]? = some k := hk
      rw [List.getElem?_map] at hk
      obtain ⟨z, hz, rfl⟩ := Option.map_eq_some_iff.mp hk
      exact ⟨_, _, by rw [List.getElem?_map, hz]; rfl, by rw [List.getElem?_map, hz]; rfl, rfl, rfl⟩
  | l ts =>
    obtain ⟨a, xs, rfl, ha, rx⟩ := hx
    obtain ⟨b, ys, rfl, hb, ry⟩ := hy
    refine ⟨a, b, xs, ys, "list", false, true, rfl, rfl, fun K H s => ⟨.base (.lst (s _ _ ha)), .base (.lst (s _ _ hb)), .inl (SqL.of (s _ _ ha)), .inl (SqL.of (s _ _ hb))⟩, by decide +kernel, by decide +kernel, by decide +kernel, by decide +kernel, by decide +kernel, by decide +kernel, ?_, ?_, fun j k hk => ?_⟩
    · show xs.length = (ts.map _).length; rw [List.length_map]; exact Paired.length rx
    · show ys.length = (ts.map _).length; rw [List.length_map]; exact Paired.length ry
    · have hk : (ts.map Tr.t)[j]? = some k := hk
      rw [List.getElem?_map] at hk
      obtain ⟨ss, hs, rfl⟩ := Option.map_eq_some_iff.mp hk
      obtain ⟨u, hu, ru⟩ := Paired.get rx hs
      obtain ⟨v, hv, rv⟩ := Paired.get ry hs
      exact ⟨u, v, hu, hv, ru, rv⟩
theorem Paired.unsnoc {α β : Type} {F : α → β → Prop} : ∀ {ys : List β} {y : β} {xs : List α}, Paired F xs (ys ++ [y]) → ∃ xi x, xs = xi ++ [x] ∧ Paired F xi ys ∧ F x y
  | [], y, _, .cons (a := x) h .nil => ⟨[], x, rfl, .nil, h⟩
  | z :: ys, y, _, .cons (a := x0) h t => by
    obtain ⟨xi, x, rfl, p, q⟩ := Paired.unsnoc t
    exact ⟨x0 :: xi, x, rfl, .cons h p, q⟩
theorem Paired.app {α β : Type} {F : α → β → Prop} : ∀ {xs : List α} {ys : List β} {xs' : List α} {ys' : List β}, Paired F xs ys → Paired F xs' ys' → Paired F (xs ++ xs') (ys ++ ys')
  | _, _, _, _, .nil, q => q
  | _, _, _, _, .cons h t, q => .cons h (Paired.app t q)
theorem ix_any {K : PySem.W.Frag} {H : Hp} {a : Addr} {xs : List V} {j : Nat} {v : V} {Q : VK} (h : SqL K H a xs ∨ SqT K H a xs) (e : xs[j]? = some v) (q : Q v H) : rIx K (.ref a) (.int (0 + (j : Int))) H Q := by
  have e2 : atI xs (0 + (j : Int)) = some v := by
    rw [show (0 : Int) + (j : Int) = ((j : Nat) : Int) by omega]
    exact atI_nat e
  rcases h with h | h
  · exact .inl ⟨a, xs, _, v, rfl, rfl, h, e2, q⟩
  · exact .inr (.inl ⟨a, xs, _, v, rfl, rfl, h, e2, q⟩)
section
variable {P : Program} {w : World} {K : PySem.W.Frag} {mg : Str → Option Value} {base : Heap} {F C : Addr}
def spSame : Sp := fun vs H Q _ => ∃ (x y : V) (ts : List (List (List Nat))), vs = [x, y] ∧ (Tr.l ts).ok ∧ (Tr.l ts).at_ H x ∧ (Tr.l ts).at_ H y ∧ ∀ H', Same H H' → Q (.bl true) H'
theorem ok_law_same (T : Txt K w mg F) (A : At K mg "_law_same" s_law_same) : Cal P w K mg base CX0 1 "_law_same" ["told", "due"] spSame := by
  refine A.ok sc_law_same (fun vs H Q E h => ?_) bd_law_same (fun f cdv A outer s H vs Q E hr h => ?_)
  · obtain ⟨x, y, ts, rfl, _⟩ := h; rfl
  obtain ⟨x, y, ts, rfl, hok, hx, hy, hQ⟩ := h
  refine ⟨_, (pss_cons (ps_set (i := 2) sc_law_same.nd rfl (Or.inl rfl) (pe_lst (pa_cons (pe_tup (pa_cons (pv 0) (pa_cons (pv 1) pa_nil))) pa_nil)))
      (pss_cons (ps_for PassesOwn.never rfl (pi_range1 rfl T.b_range (pa_cons (pe_op op_pow pe_int pe_int) pa_nil)) (pg_name (i := 3) sc_law_same.nd rfl (Or.inl rfl))
      (pss_cons (ps_if (pt_cmpR (op_eqD hr.units) (pv 2) (pe_lst pa_nil) (nomark _)) (pss_one (ps_ret pe_bl)) pss_nil)
      (pss_cons (ps_asg (pe_bm0 PySem.F.plainAttrs_list PySem.F.slot_list_pop PySem.F.type_list_pop mt_pop (pv 2)) (pg_tup rfl (pgs_cons (pg_name (i := 4) sc_law_same.nd rfl (Or.inr rfl)) (pgs_cons (pg_name (i := 5) sc_law_same.nd rfl (Or.inr rfl)) pgs_nil))))
      (pss_one (ps_if (pt_cmpR op_isN (pv 5) pe_non (nomark _)) (pss_one ps_never) (pss_one (ps_if (pt_val (pe_callB call_isi (by rfl) T.b_isinstance boot_isinstance (pa_cons (pv 5) (pa_cons (pe_bltn (v := .ty "bool") rfl T.b_bool boot_bool rfl) pa_nil)))) (pss_one ps_never) (pss_one (ps_if (pt_val (pe_callB call_isi (by rfl) T.b_isinstance boot_isinstance (pa_cons (pv 5) (pa_cons (pe_bltn (v := .ty "int") rfl T.b_int boot_int rfl) pa_nil)))) (pss_one ps_never) (pss_one (ps_if (pt_val (pe_callB call_isi (by rfl) T.b_isinstance boot_isinstance (pa_cons (pv 5) (pa_cons (pe_bltn (v := .ty "str") rfl T.b_str boot_str rfl) pa_nil)))) (pss_one (ps_if (PW.pt (pw_or (pt_not (pt_val (pe_callB call_isi (by rfl) T.b_isinstance boot_isinstance (pa_cons (pv 4) (pa_cons (pe_bltn (v := .ty "str") rfl T.b_str boot_str rfl) pa_nil))))) (pw_or1 (pt_cmpR op_ne (pv 4) (pv 5) (nomark _))))) (pss_one (ps_ret pe_bl)) pss_nil)) (pss_one (ps_if (pt_val (pe_callB call_isi (by rfl) T.b_isinstance boot_isinstance (pa_cons (pv 5) (pa_cons (pe_bltn (v := .ty "dict") rfl T.b_dict boot_dict rfl) pa_nil)))) (pss_cons ps_never
      (pss_cons ps_never
      (pss_one ps_never))) (pss_one (ps_if (PW.pt (pw_or (PW.pt (pw_and (pt_val (pe_callB call_isi (by rfl) T.b_isinstance boot_isinstance (pa_cons (pv 5) (pa_cons (pe_bltn (v := .ty "tuple") rfl T.b_tuple boot_tuple rfl) pa_nil)))) (pw_and1 (pt_not (pt_val (pe_callB call_isi (by rfl) T.b_isinstance boot_isinstance (pa_cons (pv 4) (pa_cons (pe_bltn (v := .ty "tuple") rfl T.b_tuple boot_tuple rfl) pa_nil)))))))) (pw_or1 (PW.pt (pw_and (pt_val (pe_callB call_isi (by rfl) T.b_isinstance boot_isinstance (pa_cons (pv 5) (pa_cons (pe_bltn (v := .ty "list") rfl T.b_list boot_list rfl) pa_nil)))) (pw_and1 (pt_not (pt_val (pe_callB call_isi (by rfl) T.b_isinstance boot_isinstance (pa_cons (pv 4) (pa_cons (pe_bltn (v := .ty "list") rfl T.b_list boot_list rfl) pa_nil))))))))))) (pss_one (ps_ret pe_bl)) (pss_one (ps_if (pt_cmpR op_ne (pe_callB call_len_seq (by rfl) T.b_len boot_len (pa_cons (pv 4) pa_nil)) (pe_callB call_len_seq (by rfl) T.b_len boot_len (pa_cons (pv 5) pa_nil)) (nomark _)) (pss_one (ps_ret pe_bl)) (pss_one (ps_expr (pe_bm PySem.F.plainAttrs_list PySem.F.slot_list_extend PySem.F.type_list_extend mt_extend (pv 2) (pa_cons (pe_lc (own := [("k", 7)]) (g := gName 7) (tt := tYes) (te := tTup (tCons (tOp (rIx K) (tVar 4) (tVar 7)) (tCons (tOp (rIx K) (tVar 5) (tVar 7)) tNil))) rfl sc_law_same.nd (pi_range1 rfl T.b_range (pa_cons (pe_callB call_len_seq (by rfl) T.b_len boot_len (pa_cons (pv 5) pa_nil)) pa_nil)) (blkOk_by (own := [("k", 7)]) (N := N_law_same) (sc := defScope s_law_same) (by decide +kernel)) (fun _ _ _ _ _ => (pg_name (i := 7) sc_law_same.nd rfl (Or.inl rfl))) (fun _ _ _ _ _ => pts_nil) (fun _ _ _ _ _ => (pe_tup (pa_cons (pe_ix ix_seq (pv 4) (pv 7) (fun _ _ => rfl)) (pa_cons (pe_ix ix_seq (pv 5) (pv 7) (fun _ _ => rfl)) pa_nil))))) pa_nil)))))))))))))))))))))
      (pss_one (ps_ret pe_bl)))), ?_⟩
  refine ⟨_, rfl, _, rfl, by show 2 ≤ sizeLine; decide, fun p0 hp0 => ⟨by show 1 ≤ sizeLine; decide, fun pa hpa => ?_⟩⟩
  have hpa0 : H pa = none := (Same.new hp0).free hpa
  have hp0a : p0 ≠ pa := ne_of_none upd_same hpa
  refine ⟨_, _, rfl, rfl, ⟨by decide, by decide, by decide⟩, _, rfl, by decide, by decide, ?_⟩
  refine for_it walk_range (fun i σ H' => Same H H' ∧ ∃ (xs : List V) (its : List Tr) (o3 o4 o5 o6 o7 : Option V), σ = [some x, some y, some (.ref pa), o3, o4, o5, o6, o7] ∧ H' pa = some (.lst xs) ∧ Paired (PrAt (hide H' pa)) xs its ∧ (∀ t ∈ its, t.ok) ∧ i + works its ≤ 20001 ∧ its.length ≤ 1 + 4000 * i)
    ⟨(Same.new hp0).trans (Same.new hpa), [.ref p0], [.l ts], _, _, _, _, _, rfl, upd_same, ?_, ?_, ?_, Nat.le_refl _⟩ (fun _ _ _ _ _ => trivial) (fun i x0 σ H1 H2 hi q y0 => ?_) (fun σ H1 q => ?_)
  · have sH : Same H (hide (upd (upd H p0 (.tup [x, y])) pa (.lst [.ref p0])) pa) := Same.hide ((Same.new hp0).trans (Same.new hpa)) hpa0
    exact .cons ⟨p0, x, y, rfl, by rw [hide_ne hp0a, upd_ne hp0a]; exact upd_same, hx.same sH, hy.same sH⟩ .nil
  · intro t ht
    have : t = .l ts := by simpa using ht
    rw [this]; exact hok
  · have := Tr.work_top hok
    show 0 + ([Tr.l ts].map Tr.work).sum ≤ _
    simp only [List.map_cons, List.map_nil, List.sum_cons, List.sum_nil]
    omega
  · obtain ⟨s1, xs, its, o3, o4, o5, o6, o7, rfl, hxs, rx, hoks, hw, hits⟩ := q
    obtain ⟨rfl, rfl⟩ := y0
    have hi2 : i ≤ 20001 := by omega
    have hG : Same (hide H2 pa) H2 := hide_same
    refine ⟨_, rfl, Nat.zero_le _, fun l hl => ⟨.list (its.map pD), .list [], .lst (SqL.of ((Same.new hl) _ _ hxs)) (dp_prs (Paired.mapP rx fun _ _ q => q.same (hG.trans (Same.new hl)))), .lst (SqL.of upd_same) .nil, shaped_prs hoks, rfl, ?_⟩⟩
    rw [eqv_prs]
    refine ⟨_, rfl, ?_⟩
    by_cases hemp : its = []
    · subst hemp
      exact ifT rfl (hQ _ (s1.trans (Same.new hl)))
    obtain ⟨ii, t, rfl⟩ : ∃ ii t, its = ii ++ [t] := ⟨its.dropLast, its.getLast hemp, (List.dropLast_concat_getLast hemp).symm⟩
    refine ifF (by cases ii <;> rfl) ?_
    obtain ⟨xi, v, rfl, rxi, p1, vx, vy, rfl, hp1, hvx, hvy⟩ := Paired.unsnoc rx
    rw [works_app] at hw
    have hwt : works [t] = t.work := by show ([t].map Tr.work).sum = _; simp
    rw [hwt, Tr.work_kids] at hw
    have hxs3 := (Same.new (o := .lst []) hl) _ _ hxs
    have hlast : (xi ++ [V.ref p1])[(xi ++ [V.ref p1]).length - 1]? = some (.ref p1) := by simp
    refine ⟨_, rfl, .inl ⟨rfl, _, SqL.of hxs3⟩, pa, _, _, rfl, rfl, hxs3, hlast, ?_⟩
    rw [List.dropLast_concat]
    obtain ⟨H4, eH4⟩ : ∃ H4, H4 = upd (upd H2 l (.lst [])) pa (.lst xi) := ⟨_, rfl⟩
    rw [← eH4]
    have hGpa : (hide H2 pa) pa = none := hide_self
    have sG4 : Same (hide H2 pa) H4 := by rw [eH4]; exact Same.mut (hG.trans (Same.new hl)) hGpa
    have sH4 : Same H H4 := by rw [eH4]; exact Same.mut (s1.trans (Same.new hl)) hpa0
    have hpa4 : H4 pa = some (.lst xi) := by rw [eH4]; exact upd_same
    clear eH4 hl hlast hxs3
    refine ⟨p1, _, rfl, SqT.of (sG4 _ _ hp1), rfl, _, _, rfl, _, _, rfl, rfl, ?_⟩
    have hoki : ∀ u ∈ ii, u.ok := fun u hu => hoks u (by simp [hu])
    have hokt : t.ok := hoks t (by simp)
    have hitl : ii.length + 1 ≤ 1 + 4000 * i := by rw [List.length_append] at hits; exact hits
    -- a turn that puts nothing
    have next : works t.kids = 0 → ∀ H5, Same H4 H5 → ∀ o3 o4 o5 o6 o7, Same H H5 ∧ ∃ (xs : List V) (its : List Tr) (p3 p4 p5 p6 p7 : Option V), [some x, some y, some (.ref pa), o3, o4, o5, o6, o7] = [some x, some y, some (.ref pa), p3, p4, p5, p6, p7] ∧ H5 pa = some (.lst xs) ∧ Paired (PrAt (hide H5 pa)) xs its ∧ (∀ t ∈ its, t.ok) ∧ (i + 1) + works its ≤ 20001 ∧ its.length ≤ 1 + 4000 * (i + 1) := by
      intro h0 H5 s5 o3 o4 o5 o6 o7
      refine ⟨sH4.trans s5, xi, ii, _, _, _, _, _, rfl, s5 _ _ hpa4, Paired.mapP rxi fun _ _ q => q.same (Same.hide (sG4.trans s5) hGpa), hoki, by omega, by omega⟩
    by_cases hstr : ∃ z, t = .s z
    · obtain ⟨z, rfl⟩ := hstr
      cases (show vx = .str (S z) from hvx)
      cases (show vy = .str (S z) from hvy)
      refine ⟨_, rfl, rfl, _, rfl, ifF rfl ⟨_, rfl, _, _, _, _, false, rfl, .ty "bool", .base (.str _), kit_ty (by decide +kernel), _, rfl, ifF rfl ⟨_, rfl, _, _, _, _, false, rfl, .ty "int", .base (.str _), kit_ty (by decide +kernel), _, rfl, ifF rfl ⟨_, rfl, _, _, _, _, true, rfl, .ty "str", .base (.str _), kit_ty (by decide +kernel), _, rfl, ifT rfl ?_⟩⟩⟩⟩
      refine ⟨_, rfl, _, _, _, _, true, rfl, .ty "str", .base (.str _), kit_ty (by decide +kernel), _, rfl, ifF rfl ⟨_, rfl, _, rfl, rfl, _, rfl, ifF (by rw [decide_eq_true rfl]; rfl) ?_⟩⟩
      exact next rfl H4 (Same.refl _) _ _ _ _ _
    · obtain ⟨a, b, ys, zs, Ty, kt, kl, rfl, rfl, hall, hKb, hKi, hKs, hKd, hKt, hKl, hl1, hl2, hkid⟩ := Tr.seq hvx hvy fun z e => hstr ⟨z, e⟩
      obtain ⟨tya, tyb, hsa, hsb⟩ := hall K H4 sG4
      refine ⟨_, rfl, rfl, _, rfl, ifF rfl ⟨_, rfl, _, _, _, _, false, rfl, .ty "bool", tyb, kit_ty hKb, _, rfl, ifF rfl ⟨_, rfl, _, _, _, _, false, rfl, .ty "int", tyb, kit_ty hKi, _, rfl, ifF rfl ⟨_, rfl, _, _, _, _, false, rfl, .ty "str", tyb, kit_ty hKs, _, rfl, ifF rfl ⟨_, rfl, _, _, _, _, false, rfl, .ty "dict", tyb, kit_ty hKd, _, rfl, ifF rfl ?_⟩⟩⟩⟩⟩
      refine seq_if1 (te_genT (fun b H7 => b = false ∧ H7 = H4) (fun Q hk => ?_) fun bb H7 ⟨hb, hH⟩ => ?_)
      · refine ⟨_, rfl, _, _, _, _, kt, rfl, .ty "tuple", tyb, kit_ty hKt, _, rfl, ?_⟩
        cases kt with
        | false =>
          refine ifF rfl ⟨_, rfl, _, _, _, _, kl, rfl, .ty "list", tyb, kit_ty hKl, _, rfl, ?_⟩
          cases kl with
          | false => exact ifF rfl (hk _ _ ⟨rfl, rfl⟩)
          | true => exact ifT rfl ⟨_, rfl, _, _, _, _, true, rfl, .ty "list", tya, kit_ty hKl, _, rfl, hk _ _ ⟨rfl, rfl⟩⟩
        | true =>
          refine ifT rfl ⟨_, rfl, _, _, _, _, true, rfl, .ty "tuple", tya, kit_ty hKt, _, rfl, ifF rfl ⟨_, rfl, _, _, _, _, kl, rfl, .ty "list", tyb, kit_ty hKl, _, rfl, ?_⟩⟩
          cases kl with
          | false => exact ifF rfl (hk _ _ ⟨rfl, rfl⟩)
          | true => exact ifT rfl ⟨_, rfl, _, _, _, _, true, rfl, .ty "list", tya, kit_ty hKl, _, rfl, hk _ _ ⟨rfl, rfl⟩⟩
      subst hb hH
      refine ifF rfl ⟨_, rfl, a, _, rfl, hsa, _, rfl, b, _, rfl, hsb, rfl, _, rfl, ifF (by rw [dec_int true (decide_eq_true (by rw [hl1, hl2]))]; rfl) ?_⟩
      refine ⟨_, rfl, .inl ⟨rfl, _, SqL.of hpa4⟩, _, rfl, b, _, rfl, hsb, _, rfl, by omega, by have := Tr.kids_len hokt; omega, fun D hD => ?_⟩
      rw [Int.toNat_natCast, hl2]
      have hGD : (hide H2 pa) D = none := sG4.free hD
      have hkl := Tr.kids_len hokt
      refine lc_it walk_range (fun j H8 => Same H7 H8 ∧ ∃ ws : List V, H8 D = some (.lst ws) ∧ ws.length = j ∧ Paired (PrAt (hide (hide H8 D) pa)) ws (t.kids.take j)) ⟨Same.new hD, [], upd_same, rfl, .nil⟩ (fun _ _ _ _ => trivial) (fun j x0 H8 H9 hj q y0 => ?_) (fun H8 q => ?_)
      · obtain ⟨s8, ws, hd8, hwl, rw8⟩ := q
        obtain ⟨rfl, rfl⟩ := y0
        have hkj : t.kids[j]? = some t.kids[j] := List.getElem?_eq_getElem hj
        obtain ⟨u, v, hu, hv, ku, kv⟩ := hkid j _ hkj
        obtain ⟨_, _, hsa8, hsb8⟩ := hall K H9 (sG4.trans s8)
        refine ⟨rfl, _, rfl, _, rfl, ix_any hsa8 hu ⟨_, rfl, _, rfl, ix_any hsb8 hv ⟨by show 2 ≤ sizeLine; decide, fun p hp => ⟨ws, (Same.new hp) _ _ hd8, line5 (by omega), Same.mut (s8.trans (Same.new hp)) hD, ws ++ [.ref p], upd_same, by rw [List.length_append, List.length_singleton]; omega, ?_⟩⟩⟩⟩
        rw [hide_upd, List.take_add_one, hkj]
        have sX : Same (hide H2 pa) (hide (hide (upd H9 p (.tup [u, v])) D) pa) := Same.hide (Same.hide (sG4.trans (s8.trans (Same.new hp))) hGD) hGpa
        refine Paired.snoc (Paired.mapP rw8 fun _ _ q => q.same (Same.hides (Same.hides (Same.new hp)))) ⟨p, u, v, rfl, ?_, ku.same sX, kv.same sX⟩
        rw [hide_ne (ne_of_none (s8 _ _ hpa4) hp).symm, hide_ne (ne_of_none hd8 hp).symm]
        exact upd_same
      · obtain ⟨s8, ws, hd8, hwl, rw8⟩ := q
        rw [List.take_length] at rw8
        have hwl2 := Paired.length rw8
        have hxl := Paired.length rxi
        have h1 := len_works ii
        refine ⟨pa, D, xi, ws, rfl, rfl, s8 _ _ hpa4, hd8, Nat.le_of_lt (line5 (by omega)), Same.mut (sH4.trans s8) hpa0, xi ++ ws, ii ++ t.kids, _, _, _, _, _, rfl, upd_same, ?_, ?_, ?_, ?_⟩
        · rw [hide_upd]
          exact Paired.app (Paired.mapP rxi fun _ _ q => q.same (Same.hide (sG4.trans s8) hGpa)) (Paired.mapP rw8 fun _ _ q => q.same (Same.hides hide_same))
        · intro u hu
          rcases List.mem_append.mp hu with hu | hu
          · exact hoki u hu
          · exact Tr.kids_ok hokt u hu
        · rw [works_app]; omega
        · rw [List.length_append]; omega
  · obtain ⟨s1, xs, its, o3, o4, o5, o6, o7, rfl, hxs, rx, hoks, hw, _⟩ := q
    exfalso
    have : (10 : Int) ^ Int.toNat 7 = 10000000 := by decide +kernel
    rw [this] at hw
    have : (10000000 : Int).toNat = 10000000 := by decide +kernel
    omega
end
end K80

set_option Elab.async false
set_option linter.all false
set_option maxRecDepth 100000
set_option maxHeartbeats 1600000
/-! law k80: told aright; changed texts; values that are refused -/
namespace K80
open PySem PySem.Spec PyProof.Rows L2
open K80M (Wd Part)
theorem act_len {p : Part} {ss : List (List Nat)} (h : K80M.act p = some ss) : ss.length ≤ 4 := by
  cases p with
  | none => cases h
  | some ws =>
    cases ws with
    | nil => cases h
    | cons u ws =>
      have h : (if u.2 = true then none else match K80M.look u.1 K80M.forms with
        | none => none
        | some ks => if K80M.allFit ks ws = true then some ((u :: ws).map (·.1)) else none) = some ss := h
      by_cases hu : u.2 = true
      · rw [if_pos hu] at h; cases h
      · rw [if_neg hu] at h
        cases hl : K80M.look u.1 K80M.forms with
        | none => rw [hl] at h; cases h
        | some ks =>
          rw [hl] at h
          have h : (if K80M.allFit ks ws = true then some ((u :: ws).map (·.1)) else none) = some ss := h
          by_cases hf : K80M.allFit ks ws = true
          · rw [if_pos hf] at h
            have h1 := K80M.allFit_len hf
            have h2 := look_len hl
            rw [← Option.some.inj h, List.length_map, List.length_cons]
            omega
          · rw [if_neg hf] at h; cases h
theorem act_mem {ws : List Wd} {ss : List (List Nat)} (h : K80M.act (some ws) = some ss) : ss = ws.map (·.1) := by
  cases ws with
  | nil => cases h
  | cons u ws =>
    have h : (if u.2 = true then none else match K80M.look u.1 K80M.forms with
      | none => none
      | some ks => if K80M.allFit ks ws = true then some ((u :: ws).map (·.1)) else none) = some ss := h
    by_cases hu : u.2 = true
    · rw [if_pos hu] at h; cases h
    · rw [if_neg hu] at h
      cases hl : K80M.look u.1 K80M.forms with
      | none => rw [hl] at h; cases h
      | some ks =>
        rw [hl] at h
        have h : (if K80M.allFit ks ws = true then some ((u :: ws).map (·.1)) else none) = some ss := h
        by_cases hf : K80M.allFit ks ws = true
        · rw [if_pos hf] at h
          exact (Option.some.inj h).symm
        · rw [if_neg hf] at h; cases h
theorem acts_ok {z : Str} (h : isText z = true) : (Tr.l (K80M.acts (cz z))).ok := by
  have hl := isText_len h
  have hpl := P_len _ (cz z) [] true (Nat.lt_succ_self _)
  rw [← cz_len] at hpl
  refine ⟨?_, fun ss hs => ?_⟩
  · have := List.length_filterMap_le K80M.act (K80M.P (cz z) [] true)
    show (List.filterMap _ _).length ≤ _
    omega
  · obtain ⟨p, hp, ha⟩ := List.mem_filterMap.mp hs
    refine ⟨act_len ha, fun w hw c hc => ?_⟩
    cases p with
    | none => cases ha
    | some ws =>
      rw [act_mem ha] at hw
      obtain ⟨u, hu, rfl⟩ := List.mem_map.mp hw
      rcases P_seg _ (cz z) [] true (Nat.lt_succ_self _) _ hp ws rfl u hu with q | q
      · cases q
      · exact told_good h c (q.mem hc)
theorem cutS_sub (z : Str) (lo hi : Option Int) : ∀ c ∈ cz (cutS z lo hi), c ∈ cz z := fun c hc => List.mem_of_mem_drop (List.mem_of_mem_take hc)
theorem cutS_to (z : Str) (k : Nat) : (cutS z none (some (k : Int))).length ≤ k := by
  rw [cz_len]
  show (List.take _ _).length ≤ k
  rw [HT.sIx_nat, HT.sIx_none, List.length_take]
  omega
theorem cutS_from (z : Str) (k : Nat) : (cutS z (some (k : Int)) none).length ≤ z.length - k := by
  rw [cz_len, cz_len]
  show (List.take _ _).length ≤ _
  rw [HT.sIx_nat, HT.sIx_none, List.length_take, List.length_drop, ← cz_len]
  omega
theorem Told.cut {z : Str} (h : Told z) (lo hi : Option Int) : Told (cutS z lo hi) := fun c hc => h c (cutS_sub z lo hi c hc)
theorem isText_told {z : Str} (h : isText z = true) : Told z := by
  unfold isText at h
  simp only [Bool.and_eq_true] at h
  exact told_all h.2
/-- a list of acts, as the law holds it -/
theorem acts_at {H : Hp} {p : Addr} {xs : List V} {ts : List (List (List Nat))} (h1 : H p = some (.lst xs)) (h2 : Paired (RepT (hide H p)) xs ts) : (Tr.l ts).at_ H (.ref p) := ⟨p, xs, rfl, h1, Paired.mapP h2 fun _ _ q => q.same hide_same⟩
/-- no text for the program -/
def NoT (K : PySem.W.Frag) (H : Hp) (v : V) : Prop := (∃ z : Str, v = .str z ∧ z.length ≤ sizeLine ∧ isText z = false) ∨ ∃ t : Value, TyX K H v t ∧ PySem.W.kitOne K t (.type "str") = some false
structure Errs (K : PySem.W.Frag) (mg : Str → Option Value) (C : Addr) : Prop extends BadT K mg C where
  page : ∃ D, mg "PageError" = some (.ref D) ∧ PySem.W.exmOne K (.ref C) (.ref D) = some true
  deed : ∃ D, mg "BadDeed" = some (.ref D) ∧ PySem.W.kitOne K (.ref C) (.ref D) = some false
  splice : ∃ D, mg "BadSplice" = some (.ref D) ∧ PySem.W.kitOne K (.ref C) (.ref D) = some false
  state : ∃ D, mg "BadState" = some (.ref D) ∧ PySem.W.kitOne K (.ref C) (.ref D) = some false
  value : ∃ D, mg "BadValue" = some (.ref D) ∧ PySem.W.kitOne K (.ref C) (.ref D) = some false
  long : ∃ D, mg "TooLong" = some (.ref D) ∧ PySem.W.kitOne K (.ref C) (.ref D) = some false
  text : PySem.W.kitOne K (.ref C) (.ref C) = some true
  exc : ExcC K C
theorem pss_if {X : Cx} {b : List Stmt} {t : TS} {p : Prop} (h : p → PSs X b t) : PSs X b (fun D σ H => p ∧ t D σ H) := ⟨fun pins s σ H D I q => (h q.1).run pins s σ H D I q.2⟩
section
variable {P : Program} {w : World} {K : PySem.W.Frag} {mg : Str → Option Value} {base : Heap} {F C : Addr}
def spRight : Sp := fun vs H Q _ => ∃ (tb : Addr) (z : Str), vs = [.ref tb, .str z] ∧ TabAt H tb ∧ isText z = true ∧ ∀ H', Same H H' → Q (.bl true) H'
theorem ok_law_right (T : Txt K w mg F) (A : At K mg "_law_right" s_law_right) (C__law_read : Cal P w K mg base CX0 3 "_law_read" ["table", "text"] spLRead) (C_actions_of : Cal P w K mg base (L2.CX P w) 5 "actions_of" ["text"] (spActions K C)) (C__law_same : Cal P w K mg base CX0 1 "_law_same" ["told", "due"] spSame) :
    Cal P w K mg base CX0 6 "_law_right" ["table", "text"] spRight := by
  refine A.ok sc_law_right (fun vs H Q E h => ?_) bd_law_right (fun f cdv A outer s H vs Q E hr h => ?_)
  · obtain ⟨tb, z, rfl, _⟩ := h; rfl
  obtain ⟨tb, z, rfl, htb, hz, hQ⟩ := h
  have hok := acts_ok hz
  refine ⟨_, (pss_cons (ps_set (i := 2) sc_law_right.nd rfl (Or.inl rfl) (pe_cal C__law_read (hr.mono (by decide)) pass0 (pa_cons (pv 0) (pa_cons (pv 1) pa_nil))))
      (pss_cons (ps_set (i := 3) sc_law_right.nd rfl (Or.inl rfl) (pe_cal C_actions_of (hr.mono (by decide)) passL (pa_cons (pv 1) pa_nil)))
      (pss_cons (ps_if (pt_not (pt_val (pe_cal C__law_same (hr.mono (by decide)) pass0 (pa_cons (pv 3) (pa_cons (pv 2) pa_nil))))) (pss_one (ps_ret pe_bl)) pss_nil)
      (pss_cons (ps_expr (pe_bm PySem.F.plainAttrs_list PySem.F.slot_list_append PySem.F.type_list_append mt_append (pv 3) (pa_cons (pe_tup (pa_cons pe_str pa_nil)) pa_nil)))
      (pss_one (ps_ret (pe_cal C__law_same (hr.mono (by decide)) pass0 (pa_cons (pe_cal C_actions_of (hr.mono (by decide)) passL (pa_cons (pv 1) pa_nil)) (pa_cons (pv 2) pa_nil))))))))), ?_⟩
  refine ⟨_, rfl, _, rfl, tb, z, rfl, htb, hz, fun H1 p1 x1 s1 n1 h1 r1 => ?_⟩
  have a1 := acts_at h1 r1
  refine ⟨_, rfl, _, rfl, .inl ⟨z, rfl, hz, fun H2 p2 x2 s2 n2 h2 r2 => ?_⟩⟩
  have a2 := acts_at h2 r2
  refine ⟨_, rfl, _, rfl, _, _, _, rfl, hok, a2, a1.same s2, fun H3 s3 => ⟨_, rfl, ifF rfl ?_⟩⟩
  have h3 := s3 _ _ h2
  refine ⟨_, rfl, .inl ⟨rfl, _, SqL.of h3⟩, by show 1 ≤ sizeLine; decide, fun q hq => ?_⟩
  have hxl := Paired.length r2
  have hlen := hok.1
  refine ⟨p2, x2, _, rfl, rfl, (Same.new hq) _ _ h3, line5 (by omega), ?_⟩
  have s14 : Same H1 (upd (upd H3 q (.tup [.str "stop"])) p2 (.lst (x2 ++ [.ref q]))) := Same.mut ((s2.trans s3).trans (Same.new hq)) n2
  refine ⟨_, rfl, _, rfl, .inl ⟨z, rfl, hz, fun H5 p5 x5 s5 n5 h5 r5 => ?_⟩⟩
  exact ⟨_, rfl, _, _, _, rfl, hok, acts_at h5 r5, a1.same (s14.trans s5), fun H6 s6 => hQ H6 (s1.trans (s14.trans (s5.trans s6)))⟩
def spRefused (K : PySem.W.Frag) : Sp := fun vs H Q _ => ∃ v : V, vs = [v] ∧ NoT K H v ∧ ∀ H', Same H H' → Q (.bl true) H'
def tSuiteR (K : PySem.W.Frag) (C a cD cS cT cV cL : Addr) : TS :=
  tSeq (tAsg (tOrV (tCB (rIsE K C a) (tCons (tVar 1) (tCons (tC (.ref cD)) tNil))) (tOrV (tCB (rIsE K C a) (tCons (tVar 1) (tCons (tC (.ref cS)) tNil))) (tOrV (tCB (rIsE K C a) (tCons (tVar 1) (tCons (tC (.ref cT)) tNil))) (tCB (rIsE K C a) (tCons (tVar 1) (tCons (tC (.ref cV)) tNil)))))) (gName 2))
    (tRet (tAndV (tCB (rIsE K C a) (tCons (tVar 1) (tCons (tC (.ref C)) tNil))) (tAndV (tNotV (tVar 2)) (tNotV (tCB (rIsE K C a) (tCons (tVar 1) (tCons (tC (.ref cL)) tNil)))))))
theorem ok_law_is_refused (T : Txt K w mg F) (R : Errs K mg C) (A : At K mg "_law_is_refused" s_law_is_refused) (C_actions_of : Cal P w K mg base (L2.CX P w) 5 "actions_of" ["text"] (spActions K C)) :
    Cal P w K mg base CX0 6 "_law_is_refused" ["value"] (spRefused K) := by
  refine A.ok sc_law_is_refused (fun vs H Q E h => ?_) bd_law_is_refused (fun f cdv A outer s H vs Q E hr h => ?_)
  · obtain ⟨v, rfl, _⟩ := h; rfl
  obtain ⟨v, rfl, hn, hQ⟩ := h
  obtain ⟨cP, gP, eP⟩ := R.page
  obtain ⟨cD, gD, eD⟩ := R.deed
  obtain ⟨cS, gS, eS⟩ := R.splice
  obtain ⟨cT, gT, eT⟩ := R.state
  obtain ⟨cV, gV, eV⟩ := R.value
  obtain ⟨cL, gL, eL⟩ := R.long
  refine ⟨_, pss_cons (ps_try_as (i := 1) (c := .ref cP) (tb := fun W => tDrop (tCallS (spActions K C) (WE W) (tCons (tVar 0) tNil))) (ts := fun a cls d => fun D σ H => (cls = .ref C ∧ d = none) ∧ tSuiteR K C a cD cS cT cV cL D σ H) (Wout := fun _ _ _ _ => False) rfl rfl sc_law_is_refused.nd rfl rfl ⟨rfl, by decide, Or.inl gP⟩ takes0
      (fun W pn xe tk _ => (pss_one (ps_expr (by exact (pe_calS C_actions_of (hr.mono (by decide)) (fun σ => passAt tk σ) (by exact (pa_cons (pv 0) pa_nil)))))))
      (fun a oe cls d pn hz hf => pss_if fun hp => by
        obtain ⟨rfl, rfl⟩ := hp
        exact (pss_cons (ps_set (i := 2) sc_law_is_refused.nd rfl (Or.inl rfl) (pe_or (pe_callB (call_isE R.exc hz hf) (by rfl) T.b_isinstance boot_isinstance (pa_cons (pv 1) (pa_cons (pe_gr gD) pa_nil))) (pe_or (pe_callB (call_isE R.exc hz hf) (by rfl) T.b_isinstance boot_isinstance (pa_cons (pv 1) (pa_cons (pe_gr gS) pa_nil))) (pe_or (pe_callB (call_isE R.exc hz hf) (by rfl) T.b_isinstance boot_isinstance (pa_cons (pv 1) (pa_cons (pe_gr gT) pa_nil))) (pe_one (pe_callB (call_isE R.exc hz hf) (by rfl) T.b_isinstance boot_isinstance (pa_cons (pv 1) (pa_cons (pe_gr gV) pa_nil))))))))
      (pss_one (ps_ret (pe_and (pe_callB (call_isE R.exc hz hf) (by rfl) T.b_isinstance boot_isinstance (pa_cons (pv 1) (pa_cons (pe_gr R.gF) pa_nil))) (pe_and (pe_not (pv 2)) (pe_one (pe_not (pe_callB (call_isE R.exc hz hf) (by rfl) T.b_isinstance boot_isinstance (pa_cons (pv 1) (pa_cons (pe_gr gL) pa_nil))))))))))))
    (pss_one (ps_ret pe_bl)), ?_⟩
  refine ⟨_, rfl, ?_⟩
  have key : ∀ H', Same H H' → (WE (wAs K (.ref cP) 1 (fun a cls d => fun D σ H => (cls = .ref C ∧ d = none) ∧ tSuiteR K C a cD cS cT cV cL D σ H) (fun _ _ _ _ => False) { nx := tRet (tC (.bl false)) { nx := fun _ H' => Q .non H', rt := Q }, rt := Q }) (L2.start N_law_is_refused [v])) (.ref C) none H' := by
    intro H' s'
    refine ⟨true, eP, fun _ a ha => ⟨⟨rfl, rfl⟩, ?_⟩, fun h => by cases h⟩
    refine ⟨_, rfl, _, _, false, rfl, fun u r => r, eD, _, rfl, ifF rfl ⟨_, rfl, _, _, false, rfl, fun u r => r, eS, _, rfl, ifF rfl ⟨_, rfl, _, _, false, rfl, fun u r => r, eT, _, rfl, ifF rfl ⟨_, rfl, _, _, false, rfl, fun u r => r, eV, ?_⟩⟩⟩⟩
    exact ⟨_, rfl, _, _, true, rfl, fun u r => r, R.text, _, rfl, ifT rfl ⟨_, rfl, _, rfl, _, rfl, ifT rfl ⟨_, rfl, _, _, false, rfl, fun u r => r, eL, _, rfl, hQ H' s'⟩⟩⟩
  rcases hn with ⟨z, rfl, hz, hb⟩ | ⟨t, ht, hk⟩
  · exact ⟨_, rfl, .inr (.inl ⟨z, rfl, hz, hb, fun H' s' => key H' s'⟩)⟩
  · exact ⟨_, rfl, .inr (.inr ⟨t, ht, hk, key H (Same.refl H)⟩)⟩
def spChanged : Sp := fun vs H Q _ => ∃ (a tb : Addr) (z : Str), vs = [.ref a, .ref tb, .str z] ∧ PoolAt H a ∧ tb ≠ a ∧ TabAt H tb ∧ isText z = true ∧ z.length ≤ 2999 ∧ ∀ H', PK a H H' → Q (.bl true) H'
theorem TabAt.keep {H H' : Hp} {a p : Addr} (k : Keep a H H') (n : p ≠ a) (h : TabAt H p) : TabAt H' p := by
  obtain ⟨kvs, e, h⟩ := h
  exact ⟨kvs, k _ _ n e, h⟩
theorem ok_law_changed (T : Txt K w mg F) (A : At K mg "_law_changed" s_law_changed) (C__law_far : Cal P w K mg base CX0 2 "_law_far" ["pool", "many"] spFar) (C__law_read : Cal P w K mg base CX0 3 "_law_read" ["table", "text"] spLRead) (C_actions_of : Cal P w K mg base (L2.CX P w) 5 "actions_of" ["text"] (spActions K C)) (C__law_same : Cal P w K mg base CX0 1 "_law_same" ["told", "due"] spSame) :
    Cal P w K mg base CX0 6 "_law_changed" ["pool", "table", "text"] spChanged := by
  refine A.ok sc_law_changed (fun vs H Q E h => ?_) bd_law_changed (fun f cdv A outer s H vs Q E hr h => ?_)
  · obtain ⟨a, tb, z, rfl, _⟩ := h; rfl
  obtain ⟨a, tb, z, rfl, hp, hta, htb, hz, hl, hQ⟩ := h
  have hT := isText_told hz
  have hzl : z.length ≤ sizeLine := Nat.le_of_lt (line5 (by omega))
  refine ⟨_, (pss_cons (ps_set (i := 3) sc_law_changed.nd rfl (Or.inl rfl) (pe_lst (pa_cons pe_str (pa_cons pe_str (pa_cons pe_str (pa_cons pe_str (pa_cons pe_str (pa_cons pe_str (pa_cons pe_str (pa_cons pe_str (pa_cons pe_str pa_nil)))))))))))
      (pss_cons (ps_for PassesOwn.never rfl (pi_range1 rfl T.b_range (pa_cons pe_int pa_nil)) (pg_name (i := 4) sc_law_changed.nd rfl (Or.inl rfl))
      (pss_cons (ps_set (i := 5) sc_law_changed.nd rfl (Or.inr rfl) (pe_op op_mod (pe_callTy call_int1 (by rfl) T.b_int boot_int (pa_cons (pe_cal C__law_far (hr.mono (by decide)) pass0 (pa_cons (pv 0) (pa_cons pe_int pa_nil))) pa_nil)) (pe_op op_add (pe_callB call_len_str (by rfl) T.b_len boot_len (pa_cons (pv 2) pa_nil)) pe_int)))
      (pss_cons (ps_set (i := 6) sc_law_changed.nd rfl (Or.inl rfl) (pe_op op_cat (pe_op op_cat (pe_lc (own := [("sign", 7)]) (g := gName 7) (tt := tYes) rfl sc_law_changed.nd (pi_list (pv 3)) (blkOk_by (own := [("sign", 7)]) (N := N_law_changed) (sc := defScope s_law_changed) (by decide +kernel)) (fun _ _ _ _ _ => (pg_name (i := 7) sc_law_changed.nd rfl (Or.inl rfl))) (fun _ _ _ _ _ => pts_nil) (fun _ _ _ _ _ => (pe_op op_add_str (pe_op op_add_str (pe_slice sl_str (pv 2) po_none (po_some (pv 5))) (pv 7)) (pe_slice sl_str (pv 2) (po_some (pv 5)) po_none)))) (pe_lc (own := [("sign", 7)]) (g := gName 7) (tt := tYes) rfl sc_law_changed.nd (pi_list (pv 3)) (blkOk_by (own := [("sign", 7)]) (N := N_law_changed) (sc := defScope s_law_changed) (by decide +kernel)) (fun _ _ _ _ _ => (pg_name (i := 7) sc_law_changed.nd rfl (Or.inl rfl))) (fun _ _ _ _ _ => pts_nil) (fun _ _ _ _ _ => (pe_op op_add_str (pe_op op_add_str (pe_slice sl_str (pv 2) po_none (po_some (pv 5))) (pv 7)) (pe_slice sl_str (pv 2) (po_some (pe_op op_add (pv 5) pe_int)) po_none))))) (pe_lst (pa_cons (pe_op op_add_str (pe_slice sl_str (pv 2) po_none (po_some (pv 5))) (pe_slice sl_str (pv 2) (po_some (pe_op op_add (pv 5) pe_int)) po_none)) pa_nil))))
      (pss_one (ps_for PassesOwn.never rfl (pi_list (pv 6)) (pg_name (i := 8) sc_law_changed.nd rfl (Or.inl rfl))
      (pss_one (ps_if (pt_not (pt_val (pe_cal C__law_same (hr.mono (by decide)) pass0 (pa_cons (pe_cal C_actions_of (hr.mono (by decide)) passL (pa_cons (pv 8) pa_nil)) (pa_cons (pe_cal C__law_read (hr.mono (by decide)) pass0 (pa_cons (pv 1) (pa_cons (pv 8) pa_nil))) pa_nil))))) (pss_one (ps_ret pe_bl)) pss_nil)))))))
      (pss_one (ps_ret pe_bl)))), ?_⟩
  refine ⟨by show 9 ≤ sizeLine; decide, fun sg hsg => ?_⟩
  have hsa := (PK.refl hp).ne hsg
  have k0 := (PK.refl hp).new (o := .lst [.str " ", .str "\n", .str ";", .str "'", .str "#", .str "a", .str "A", .str "0", .str "="]) hsg
  have hsg0 := @upd_same H sg (.lst [.str " ", .str "\n", .str ";", .str "'", .str "#", .str "a", .str "A", .str "0", .str "="])
  have hsgT : ∀ v ∈ [V.str " ", .str "\n", .str ";", .str "'", .str "#", .str "a", .str "A", .str "0", .str "="], ∃ u : Str, v = .str u ∧ Told u ∧ u.length = 1 := by
    intro v hv
    have : ∃ u : Str, v = .str u ∧ ((cz u).all told && decide (u.length = 1)) = true := by
      simp only [List.mem_cons, List.not_mem_nil, or_false] at hv
      rcases hv with rfl | rfl | rfl | rfl | rfl | rfl | rfl | rfl | rfl
      all_goals exact ⟨_, rfl, by decide +kernel⟩
    obtain ⟨u, e, h⟩ := this
    simp only [Bool.and_eq_true, decide_eq_true_eq] at h
    exact ⟨u, e, told_all h.1, h.2⟩
  refine ⟨_, rfl, by decide, by decide, ?_⟩
  refine for_it walk_range (fun i σ H' => PK a H H' ∧ H' sg = some (.lst [.str " ", .str "\n", .str ";", .str "'", .str "#", .str "a", .str "A", .str "0", .str "="]) ∧ ∃ o4 o5 o6 o8 : Option V, σ = [some (.ref a), some (.ref tb), some (.str z), some (.ref sg), o4, o5, o6, none, o8])
    ⟨k0, hsg0, _, _, _, _, rfl⟩ (fun _ _ _ _ _ => trivial) (fun i x σ H1 H2 hi q y => ?_) (fun σ H1 q => ?_)
  · obtain ⟨k1, hs1, o4, o5, o6, o8, rfl⟩ := q
    obtain ⟨rfl, rfl⟩ := y
    refine ⟨_, rfl, a, 200000, rfl, by decide, k1.2, fun r H3 hr3 k3 => .inl ⟨_, rfl, _, rfl, z, rfl, hzl, _, _, rfl, rfl, _, _, rfl, rfl, (by show (0 : Int) < (z.length : Int) + 1; omega), ?_⟩⟩
    obtain ⟨k, ek, hk⟩ : ∃ k : Nat, (r : Int) % ((z.length : Int) + 1) = (k : Int) ∧ k ≤ z.length := by
      refine ⟨r % (z.length + 1), ?_, by have := Nat.mod_lt r (show 0 < z.length + 1 by omega); omega⟩
      rw [Int.natCast_emod]; rfl
    show gName 5 (V.int ((r : Int) % ((z.length : Int) + 1))) _ _ _
    rw [ek]
    have k03 := k1.trans k3
    have hs3 := k3.1 sg _ hsa hs1
    refine ⟨_, rfl, sg, rfl, ⟨_, SqL.of hs3⟩, fun D1 hD1 => ?_⟩
    refine lc_it (walk_list (K := K) (a := sg) (xs := [.str " ", .str "\n", .str ";", .str "'", .str "#", .str "a", .str "A", .str "0", .str "="])) (fun j H' => Same H3 H' ∧ ∃ ys : List Str, H' D1 = some (.lst (ys.map V.str)) ∧ ys.length = j ∧ ∀ y ∈ ys, Told y ∧ y.length ≤ 3000) ⟨Same.new hD1, [], upd_same, rfl, fun _ h => by cases h⟩ (fun j H' _ q => SqL.of (q.1 _ _ hs3)) (fun j x H4 H5 hj q y => ?_) (fun HCD1 q => ?_)
    · obtain ⟨s4, ys, hd, hn, hall⟩ := q
      obtain ⟨rfl, hx⟩ := y
      have hx : [V.str " ", .str "\n", .str ";", .str "'", .str "#", .str "a", .str "A", .str "0", .str "="][j]? = some x := hx
      obtain ⟨u, rfl, hu, hul⟩ := hsgT x (List.mem_of_getElem? hx)
      have c1 := cutS_to z k
      have c2 := cutS_from z k
      refine ⟨rfl, _, rfl, _, rfl, _, rfl, z, rfl, hzl, _, rfl, _, _, rfl, rfl, Nat.le_of_lt (line5 (by omega)), _, rfl, _, rfl, _, rfl, z, rfl, hzl, _, _, rfl, rfl, Nat.le_of_lt (line5 (by rw [len_app]; omega)), _, hd, line5 (by rw [List.length_map]; have : j < 9 := hj; omega), Same.mut s4 hD1, ys ++ [cutS z none (some (k : Int)) ++ u ++ cutS z (some ((k : Nat) : Int)) none], ?_, ?_, ?_⟩
      · rw [upd_same, List.map_append]; rfl
      · rw [List.length_append, hn]; rfl
      · intro w hw
        rcases List.mem_append.mp hw with hw | hw
        · exact hall w hw
        · have : w = cutS z none (some (k : Int)) ++ u ++ cutS z (some ((k : Nat) : Int)) none := by simpa using hw
          rw [this]
          exact ⟨Told.app (Told.app (hT.cut _ _) hu) (hT.cut _ _), by rw [len_app, len_app]; omega⟩
    obtain ⟨sHCD1, ysD1, hdD1, hnD1, hallD1⟩ := q
    have hs4 := sHCD1 _ _ hs3
    refine ⟨_, rfl, sg, rfl, ⟨_, SqL.of hs4⟩, fun D2 hD2 => ?_⟩
    refine lc_it (walk_list (K := K) (a := sg) (xs := [.str " ", .str "\n", .str ";", .str "'", .str "#", .str "a", .str "A", .str "0", .str "="])) (fun j H' => Same HCD1 H' ∧ ∃ ys : List Str, H' D2 = some (.lst (ys.map V.str)) ∧ ys.length = j ∧ ∀ y ∈ ys, Told y ∧ y.length ≤ 3000) ⟨Same.new hD2, [], upd_same, rfl, fun _ h => by cases h⟩ (fun j H' _ q => SqL.of (q.1 _ _ hs4)) (fun j x H4 H5 hj q y => ?_) (fun HCD2 q => ?_)
    · obtain ⟨s4, ys, hd, hn, hall⟩ := q
      obtain ⟨rfl, hx⟩ := y
      have hx : [V.str " ", .str "\n", .str ";", .str "'", .str "#", .str "a", .str "A", .str "0", .str "="][j]? = some x := hx
      obtain ⟨u, rfl, hu, hul⟩ := hsgT x (List.mem_of_getElem? hx)
      have c1 := cutS_to z k
      have c2 : (cutS z (some ((k : Int) + 1)) none).length ≤ z.length - (k + 1) := cutS_from z (k + 1)
      refine ⟨rfl, _, rfl, _, rfl, _, rfl, z, rfl, hzl, _, rfl, _, _, rfl, rfl, Nat.le_of_lt (line5 (by omega)), _, rfl, _, rfl, _, _, rfl, rfl, _, rfl, z, rfl, hzl, _, _, rfl, rfl, Nat.le_of_lt (line5 (by rw [len_app]; omega)), _, hd, line5 (by rw [List.length_map]; have : j < 9 := hj; omega), Same.mut s4 hD2, ys ++ [cutS z none (some (k : Int)) ++ u ++ cutS z (some ((k : Int) + 1)) none], ?_, ?_, ?_⟩
      · rw [upd_same, List.map_append]; rfl
      · rw [List.length_append, hn]; rfl
      · intro w hw
        rcases List.mem_append.mp hw with hw | hw
        · exact hall w hw
        · have : w = cutS z none (some (k : Int)) ++ u ++ cutS z (some ((k : Int) + 1)) none := by simpa using hw
          rw [this]
          exact ⟨Told.app (Told.app (hT.cut _ _) hu) (hT.cut _ _), by rw [len_app, len_app]; omega⟩
    obtain ⟨sHCD2, ysD2, hdD2, hnD2, hallD2⟩ := q
    have hn1 : ysD1.length = 9 := hnD1
    have hn2 : ysD2.length = 9 := hnD2
    have hd12 := sHCD2 _ _ hdD1
    refine ⟨D1, D2, _, _, rfl, rfl, hd12, hdD2, Nat.le_of_lt (line5 (by rw [List.length_map, List.length_map]; omega)), fun p hp => ?_⟩
    have c1 := cutS_to z k
    have c2 : (cutS z (some ((k : Int) + 1)) none).length ≤ z.length - (k + 1) := cutS_from z (k + 1)
    refine ⟨_, rfl, _, rfl, _, rfl, z, rfl, hzl, _, rfl, _, rfl, _, _, rfl, rfl, _, rfl, z, rfl, hzl, _, _, rfl, rfl, Nat.le_of_lt (line5 (by omega)), by show 1 ≤ sizeLine; decide, fun l hl => ?_⟩
    have npl : p ≠ l := ne_of_none upd_same hl
    refine ⟨p, l, _, _, rfl, rfl, (Same.new hl) _ _ upd_same, upd_same, ?_, fun q hq => ?_⟩
    · have : ∀ n : Nat, n = 18 → n + 1 ≤ sizeLine := fun n h => Nat.le_of_lt (line5 (by omega))
      exact this _ (by rw [List.length_append, List.length_map, List.length_map]; omega)
    -- the texts
    obtain ⟨rows, erows, hrows⟩ : ∃ rows : List Str, ysD1.map V.str ++ ysD2.map V.str ++ [V.str (cutS z none (some (k : Int)) ++ cutS z (some ((k : Int) + 1)) none)] = rows.map V.str ∧ ∀ y ∈ rows, isText y = true := by
      refine ⟨ysD1 ++ ysD2 ++ [cutS z none (some (k : Int)) ++ cutS z (some ((k : Int) + 1)) none], by rw [List.map_append, List.map_append]; rfl, fun y hy => ?_⟩
      rcases List.mem_append.mp hy with hy | hy
      · rcases List.mem_append.mp hy with hy | hy
        · exact Told.text (hallD1 y hy).1 (hallD1 y hy).2
        · exact Told.text (hallD2 y hy).1 (hallD2 y hy).2
      · have : y = cutS z none (some (k : Int)) ++ cutS z (some ((k : Int) + 1)) none := by simpa using hy
        rw [this]
        exact Told.text (Told.app (hT.cut _ _) (hT.cut _ _)) (by rw [len_app]; omega)
    refine ⟨_, rfl, q, rfl, ⟨_, SqL.of upd_same⟩, ?_⟩
    show ∃ W, _
    rw [erows]
    have s36 : Same H3 (upd (upd (upd HCD2 p (.lst (ysD1.map V.str ++ ysD2.map V.str))) l (.lst [V.str (cutS z none (some (k : Int)) ++ cutS z (some ((k : Int) + 1)) none)])) q (.lst (rows.map V.str))) := ((sHCD1.trans sHCD2).trans (Same.new hp)).trans ((Same.new hl).trans (Same.new hq))
    obtain ⟨H6, eH6⟩ : ∃ H6, H6 = upd (upd (upd HCD2 p (.lst (ysD1.map V.str ++ ysD2.map V.str))) l (.lst [V.str (cutS z none (some (k : Int)) ++ cutS z (some ((k : Int) + 1)) none)])) q (.lst (rows.map V.str)) := ⟨_, rfl⟩
    have hq6 : H6 q = some (.lst (rows.map V.str)) := by rw [eH6]; exact upd_same
    rw [← eH6] at s36 ⊢
    clear eH6 erows hq npl hl hp
    have k06 := k03.more s36
    have htb6 := TabAt.keep k06.1 hta htb
    refine for_it (walk_list (K := K) (a := q) (xs := rows.map V.str)) (fun m σ H7 => Same H6 H7 ∧ ∃ o8 : Option V, σ = [some (.ref a), some (.ref tb), some (.str z), some (.ref sg), some (.int (0 + (i : Int))), some (.int (k : Int)), some (.ref q), none, o8])
      ⟨Same.refl _, _, rfl⟩ (fun m σ H7 _ q => SqL.of (q.1 _ _ hq6)) (fun m x σ H7 H8 hm q y => ?_) (fun σ H7 q => ?_)
    · obtain ⟨s7, o8, rfl⟩ := q
      obtain ⟨rfl, hx⟩ := y
      have hx : (rows.map V.str)[m]? = some x := hx
      rw [List.getElem?_map] at hx
      obtain ⟨u, hu, rfl⟩ := Option.map_eq_some_iff.mp hx
      have hut := hrows u (List.mem_of_getElem? hu)
      refine ⟨_, rfl, _, rfl, .inl ⟨u, rfl, hut, fun H9 p9 x9 s9 n9 h9 r9 => ⟨_, rfl, _, rfl, tb, u, rfl, htb6.same (s7.trans s9), hut, fun H10 p10 x10 s10 n10 h10 r10 => ⟨_, _, _, rfl, acts_ok hut, (acts_at h9 r9).same s10, acts_at h10 r10, fun H11 s11 => ⟨_, rfl, ifF rfl ⟨s7.trans (s9.trans (s10.trans s11)), _, rfl⟩⟩⟩⟩⟩⟩
    · obtain ⟨s7, o8, rfl⟩ := q
      exact ⟨k06.more s7, (s36.trans s7) _ _ hs3, _, _, _, _, rfl⟩
  · obtain ⟨k1, _, o4, o5, o6, o8, rfl⟩ := q
    exact hQ H1 k1
end
end K80

set_option Elab.async false
set_option linter.all false
set_option maxRecDepth 100000
set_option maxHeartbeats 1600000
/-! law k80: the parts that are drawn -/
namespace K80
open PySem PySem.Spec PyProof.Rows L2
open K80M (Wd Part)
theorem Keep.hide {a D : Addr} {H H' : Hp} (k : Keep a H H') : Keep a (K80.hide H D) (K80.hide H' D) := fun b u n e => by
  by_cases h : b = D
  · subst h; rw [hide_self] at e; cases e
  · rw [hide_ne h] at e ⊢; exact k b u n e
theorem WordsAt.keep {a : Addr} {H H' : Hp} {v : V} {zs : List Str} (h : WordsAt a H v zs) (k : Keep a H H') : WordsAt a H' v zs := by
  obtain ⟨b, e, n, h⟩ := h
  exact ⟨b, e, n, k b _ n h⟩
/-- the parts drawn, at pb -/
def PartAt (a : Addr) (H : Hp) (pb : Addr) (zss : List (List Str)) : Prop := pb ≠ a ∧ ∃ xs, H pb = some (.lst xs) ∧ Paired (fun v zs => WordsAt a (hide H pb) v zs ∧ GoodPart zs) xs zss
theorem PartAt.keep {a pb : Addr} {H H' : Hp} {zss : List (List Str)} (h : PartAt a H pb zss) (k : Keep a H H') : PartAt a H' pb zss := by
  obtain ⟨n, xs, h1, h2⟩ := h
  exact ⟨n, xs, k _ _ n h1, Paired.mapP h2 fun _ _ q => ⟨q.1.keep k.hide, q.2⟩⟩
theorem GoodPart.ne {zs : List Str} (h : GoodPart zs) : zs ≠ [] := fun e => by
  obtain ⟨init, l, e2, _⟩ := right_split h.right
  rw [e] at e2
  simp at e2
theorem GoodPart.len {zs : List Str} (h : GoodPart zs) : zs.length ≤ 4 := by
  have := right_len h.right
  rw [List.length_map] at this
  exact this
/-- a part more -/
theorem PartAt.add {a pb : Addr} {H : Hp} {zss : List (List Str)} {v : V} {zs : List Str} (h : PartAt a H pb zss) (hv : WordsAt a H v zs) (hg : GoodPart zs) : ∃ xs, H pb = some (.lst xs) ∧ xs.length = zss.length ∧ PartAt a (upd H pb (.lst (xs ++ [v]))) pb (zss ++ [zs]) := by
  obtain ⟨n, xs, h1, h2⟩ := h
  obtain ⟨b, rfl, hb, hbz⟩ := hv
  have hne : b ≠ pb := fun e => by
    subst e
    rw [h1] at hbz
    have e2 : xs = zs.map V.str := by cases hbz; rfl
    subst e2
    cases zs with
    | nil => exact hg.ne rfl
    | cons z r =>
      cases h2 with
      | cons q _ =>
        obtain ⟨⟨b2, e3, _⟩, _⟩ := q
        cases e3
  refine ⟨xs, h1, Paired.length h2, n, _, upd_same, ?_⟩
  rw [hide_upd]
  exact Paired.snoc h2 ⟨⟨b, rfl, hb, by rw [hide_ne hne]; exact hbz⟩, hg⟩
/-- a text and the words that it joins -/
def TP (t : Str) (zs : List Str) : Prop := Told t ∧ t.length ≤ 115 ∧ K80M.Joined (zs.map cz) (cz t) ∧ GoodPart zs
theorem wsum_good {zs : List Str} (h : GoodPart zs) : 3 + wsum zs ≤ 115 := by
  have h1 := wsum_le (n := 26) fun z hz => (h.short z hz).2
  have h2 := h.len
  omega
theorem tp_js : ∀ {ts : List Str} {zss : List (List Str)}, Paired TP ts zss → ∃ js : List (List (List Nat) × List Nat), js.map (·.2) = ts.map cz ∧ js.map (·.1) = zss.map (·.map cz) ∧ ∀ j ∈ js, K80M.Joined j.1 j.2 ∧ K80M.Right j.1
  | _, _, .nil => ⟨[], rfl, rfl, fun _ h => by cases h⟩
  | _, _, .cons (a := t) (b := zs) h r => by
    obtain ⟨js, e1, e2, e3⟩ := tp_js r
    refine ⟨(zs.map cz, cz t) :: js, by rw [List.map_cons, e1]; rfl, by rw [List.map_cons, e2]; rfl, fun j hj => ?_⟩
    rcases List.mem_cons.mp hj with rfl | hj
    · exact ⟨h.2.2.1, h.2.2.2.right⟩
    · exact e3 j hj
theorem told_join : ∀ {ts : List Str}, (∀ t ∈ ts, Told t ∧ t.length ≤ 115) → Told (Txt.join ";" ts) ∧ (Txt.join ";" ts).length ≤ 116 * ts.length := by
  intro ts h
  have key : ∀ ts : List Str, (∀ t ∈ ts, Told t ∧ t.length ≤ 115) → (∀ c ∈ ((ts.map cz).map fun u => 59 :: u).flatten, told c = true) ∧ ((ts.map cz).map fun u => 59 :: u).flatten.length ≤ 116 * ts.length := by
    intro ts
    induction ts with
    | nil => intro _; exact ⟨fun c h => (by cases h), Nat.zero_le _⟩
    | cons t r ih =>
      intro h
      obtain ⟨i1, i2⟩ := ih fun u hu => h u (by simp [hu])
      obtain ⟨j1, j2⟩ := h t (by simp)
      rw [cz_len] at j2
      constructor
      · intro c hc
        simp only [List.map_cons, List.flatten_cons, List.mem_append, List.mem_cons] at hc
        rcases hc with (rfl | hc) | hc
        · decide
        · exact j1 c hc
        · exact i1 c hc
      · simp only [List.map_cons, List.flatten_cons, List.length_append, List.length_cons]
        omega
  have e := join_59_cz ts
  cases ts with
  | nil => exact ⟨fun c hc => (by rw [e] at hc; cases hc), (by rw [cz_len, e]; exact Nat.le_refl _)⟩
  | cons t r =>
    obtain ⟨i1, i2⟩ := key r fun u hu => h u (by simp [hu])
    obtain ⟨j1, j2⟩ := h t (by simp)
    rw [cz_len] at j2
    rw [List.map_cons, parts59_cons] at e
    constructor
    · intro c hc
      rw [e] at hc
      rcases List.mem_append.mp hc with hc | hc
      · exact j1 c hc
      · exact i1 c hc
    · rw [cz_len, e, List.length_append, List.length_cons]
      omega
theorem mulOk {x : Str} {n : Nat} (h : x.length * n ≤ 100000) (hn : n ≤ 100000) : MulOk x (n : Int) := mulOk_of x.length n (Nat.le_refl _) (Int.le_refl _) (Int.le_trans (show -(2 ^ 63 : Int) ≤ 0 by decide) (Int.natCast_nonneg n)) (by omega) (by omega)
end K80

set_option Elab.async false
set_option linter.all false
set_option maxRecDepth 100000
set_option maxHeartbeats 1600000
/-! law k80: the law -/
namespace K80
open PySem PySem.Spec PyProof.Rows L2
open K80M (Wd Part)
theorem Paired.rep {α β : Type} {F : α → β → Prop} {xs : List α} {ys : List β} (h : Paired F xs ys) : ∀ n : Nat, Paired F (List.replicate n xs).flatten (List.replicate n ys).flatten
  | 0 => .nil
  | n + 1 => by
    rw [List.replicate_succ, List.replicate_succ, List.flatten_cons, List.flatten_cons]
    exact Paired.app h (Paired.rep h n)
theorem rep_len (l : List Nat) : ∀ n : Nat, (List.replicate n l).flatten.length = l.length * n
  | 0 => rfl
  | n + 1 => by rw [List.replicate_succ, List.flatten_cons, List.length_append, rep_len l n, Nat.mul_succ]; omega
theorem isText_not {z : Str} {c : Nat} (h : c ∈ cz z) (hc : told c = false) : isText z = false := by
  cases e : isText z with
  | false => rfl
  | true =>
    have := isText_told e c h
    rw [hc] at this
    cases this
theorem isText_long {z : Str} (h : 3000 < z.length) : isText z = false := by
  unfold isText
  rw [decide_eq_false (by omega), Bool.false_and]
section
variable {P : Program} {w : World} {K : PySem.W.Frag} {mg : Str → Option Value} {base : Heap} {F C : Addr}
theorem fun1_ok {x : Str} {st : Stmt} {N ps : List Str} {k : Nat} {sp : Sp} {a : Addr} {fd : FuncData} (F : FunD K x x (defArgs st) (defBody st) (defScope st) [] [] a fd) (S : FnScope N ps (defScope st)) (len : ∀ vs H Q E, sp vs H Q E → vs.length = ps.length)
    (hbody : ∀ (f : Addr) (cdv : Value) (A : Around) (outer : List Env) (s : Shared) (H : Hp) (vs : List V) (Q : VK) (E : XK), Room k (A.deeper (envOfC x (defScope st) s.heap.objs.size f cdv)) → sp vs H Q E →
      ∃ t, PSs (cxOf CX0 P w K mg base N x (defScope st) f cdv A outer s H E).nox (defBody st) t ∧ t { nx := fun _ H' => Q .non H', rt := Q } (start N vs) H) : FnOk P w K mg base CX0 (k + 1) a fd ps sp := by
  refine F.ok S len fun cdv A outer s H vs Q E hr hsp => ?_
  obtain ⟨t, h, q⟩ := hbody a cdv A outer s H vs Q E hr hsp
  exact ⟨t, h.nox, q⟩
def spLaw (K : PySem.W.Frag) : Sp := fun vs H Q _ => ∃ (sc : Addr) (ns : List Int), vs = [.ref sc] ∧ SqL K H sc (ns.map V.int) ∧ ns.length ≤ 63 ∧ ∀ H', Q (.bl true) H'
theorem ok_law (T : Txt K w mg F) (R : Errs K mg C) {fl : Addr} {fdl : FuncData} (A : FunD K "law" "law" (defArgs slaw) (defBody slaw) (defScope slaw) [] [] fl fdl)
    (C__law_stream : Cal P w K mg base CX0 2 "_law_stream" ["script"] (spStream K)) (C__law_longer : Cal P w K mg base CX0 1 "_law_longer" ["pool", "many"] spLonger) (C__law_pick : Cal P w K mg base CX0 1 "_law_pick" ["pool", "many"] spPick)
    (C__law_states : Cal P w K mg base CX0 1 "_law_states" [] spStates) (C__law_part : Cal P w K mg base CX0 4 "_law_part" ["pool"] spPart) (C__law_some_part : Cal P w K mg base CX0 2 "_law_some_part" ["pool", "parts"] spSomePart)
    (C__law_joined : Cal P w K mg base CX0 2 "_law_joined" ["pool", "words"] spJoined) (C__law_read : Cal P w K mg base CX0 3 "_law_read" ["table", "text"] spLRead) (C__law_said : Cal P w K mg base CX0 1 "_law_said" ["words"] spSaid)
    (C__law_same : Cal P w K mg base CX0 1 "_law_same" ["told", "due"] spSame) (C__law_right : Cal P w K mg base CX0 6 "_law_right" ["table", "text"] spRight) (C__law_changed : Cal P w K mg base CX0 6 "_law_changed" ["pool", "table", "text"] spChanged)
    (C__law_near : Cal P w K mg base CX0 2 "_law_near" ["pool", "words"] spNear) (C_actions_of : Cal P w K mg base (L2.CX P w) 5 "actions_of" ["text"] (spActions K C)) (C__law_is_refused : Cal P w K mg base CX0 6 "_law_is_refused" ["value"] (spRefused K)) :
    FnOk P w K mg base CX0 7 fl fdl ["script"] (spLaw K) := by
  refine fun1_ok A sclaw (fun vs H Q E h => ?_) (fun f cdv A outer s H vs Q E hr h => ?_)
  · obtain ⟨sc, ns, rfl, _⟩ := h; rfl
  obtain ⟨sc, ns, rfl, hs, hn, hQ⟩ := h
  refine ⟨_, (pss_cons (ps_set (i := 1) sclaw.nd rfl (Or.inr rfl) (pe_cal C__law_longer (hr.mono (by decide)) pass0 (pa_cons (pe_cal C__law_stream (hr.mono (by decide)) pass0 (pa_cons (pv 0) pa_nil)) (pa_cons pe_int pa_nil))))
      (pss_cons (ps_par (i := 2) (j := 3) (by rfl) sclaw.nd rfl rfl (by decide) rfl rfl (pa_cons (pe_cal0 C__law_states (hr.mono (by decide)) pass0) (pa_cons (pe_lst pa_nil) pa_nil)) (by rfl))
      (pss_cons (ps_for PassesOwn.never rfl (pi_range1 rfl T.b_range (pa_cons (pe_op op_add pe_int (pe_cal C__law_pick (hr.mono (by decide)) pass0 (pa_cons (pv 1) (pa_cons pe_int pa_nil)))) pa_nil)) (pg_name (i := 4) sclaw.nd rfl (Or.inl rfl))
      (pss_cons (ps_expr (pe_bm PySem.F.plainAttrs_list PySem.F.slot_list_append PySem.F.type_list_append mt_append (pv 3) (pa_cons (pe_cal C__law_part (hr.mono (by decide)) pass0 (pa_cons (pv 1) pa_nil)) pa_nil)))
      (pss_one (ps_if (pt_cmpR op_eq (pe_cal C__law_pick (hr.mono (by decide)) pass0 (pa_cons (pv 1) (pa_cons pe_int pa_nil))) pe_int (nomark _)) (pss_one (ps_expr (pe_bm PySem.F.plainAttrs_list PySem.F.slot_list_append PySem.F.type_list_append mt_append (pv 3) (pa_cons (pe_lc (own := [("word", 5)]) (g := gName 5) (tt := tYes) rfl sclaw.nd (pi_list (pe_cal C__law_some_part (hr.mono (by decide)) pass0 (pa_cons (pv 1) (pa_cons (pv 3) pa_nil)))) (blkOk_by (own := [("word", 5)]) (N := Nlaw) (sc := defScope slaw) (by decide +kernel)) (fun _ _ _ _ _ => (pg_name (i := 5) sclaw.nd rfl (Or.inl rfl))) (fun _ _ _ _ _ => pts_nil) (fun _ _ _ _ _ => (pv 5))) pa_nil)))) pss_nil))))
      (pss_cons (ps_set (i := 6) sclaw.nd rfl (Or.inl rfl) (pe_join pe_str (pe_lc (own := [("words", 7)]) (g := gName 7) (tt := tYes) rfl sclaw.nd (pi_list (pv 3)) (blkOk_by (own := [("words", 7)]) (N := Nlaw) (sc := defScope slaw) (by decide +kernel)) (fun _ _ _ _ _ => (pg_name (i := 7) sclaw.nd rfl (Or.inl rfl))) (fun _ _ _ _ _ => pts_nil) (fun _ _ _ _ _ => (pe_cal C__law_joined (hr.mono (by decide)) pass0 (pa_cons (pv 1) (pa_cons (pv 7) pa_nil)))))))
      (pss_cons (ps_if (PW.pt (pw_or (pt_not (pt_val (pe_cal C__law_same (hr.mono (by decide)) pass0 (pa_cons (pe_cal C__law_read (hr.mono (by decide)) pass0 (pa_cons (pv 2) (pa_cons (pv 6) pa_nil))) (pa_cons (pe_lc (own := [("words", 7)]) (g := gName 7) (tt := tYes) rfl sclaw.nd (pi_list (pv 3)) (blkOk_by (own := [("words", 7)]) (N := Nlaw) (sc := defScope slaw) (by decide +kernel)) (fun _ _ _ _ _ => (pg_name (i := 7) sclaw.nd rfl (Or.inl rfl))) (fun _ _ _ _ _ => pts_nil) (fun _ _ _ _ _ => (pe_cal C__law_said (hr.mono (by decide)) pass0 (pa_cons (pv 7) pa_nil)))) pa_nil))))) (pw_or1 (pt_not (pt_val (pe_cal C__law_right (hr.mono (by decide)) pass0 (pa_cons (pv 2) (pa_cons (pv 6) pa_nil)))))))) (pss_one (ps_ret pe_bl)) pss_nil)
      (pss_cons (ps_if (pt_not (pt_val (pe_cal C__law_changed (hr.mono (by decide)) pass0 (pa_cons (pv 1) (pa_cons (pv 2) (pa_cons (pv 6) pa_nil)))))) (pss_one (ps_ret pe_bl)) pss_nil)
      (pss_cons (ps_for PassesOwn.never rfl (pi_list (pe_op op_cat (pe_cal C__law_near (hr.mono (by decide)) pass0 (pa_cons (pv 1) (pa_cons (pe_ix ix_list (pv 3) pe_int (fun _ _ => rfl)) pa_nil))) (pe_cal C__law_near (hr.mono (by decide)) pass0 (pa_cons (pv 1) (pa_cons (pe_ix ix_list (pv 3) (pe_un un_neg pe_int) (fun _ _ => rfl)) pa_nil))))) (pg_name (i := 7) sclaw.nd rfl (Or.inl rfl))
      (pss_cons (ps_set (i := 8) sclaw.nd rfl (Or.inl rfl) (pe_cal C__law_joined (hr.mono (by decide)) pass0 (pa_cons (pv 1) (pa_cons (pv 7) pa_nil))))
      (pss_one (ps_if (PW.pt (pw_or (pt_not (pt_val (pe_cal C__law_right (hr.mono (by decide)) pass0 (pa_cons (pv 2) (pa_cons (pv 8) pa_nil))))) (pw_or1 (pt_not (pt_val (pe_cal C__law_right (hr.mono (by decide)) pass0 (pa_cons (pv 2) (pa_cons (pe_op op_add_str (pe_op op_add_str (pe_op op_add_str (pe_op op_add_str (pv 6) pe_str) (pv 8)) pe_str) (pv 6)) pa_nil)))))))) (pss_one (ps_ret pe_bl)) pss_nil))))
      (pss_cons (ps_set (i := 9) sclaw.nd rfl (Or.inl rfl) (pe_op op_fdivN pe_int (pe_op op_add (pe_callB call_len_str (by rfl) T.b_len boot_len (pa_cons (pv 6) pa_nil)) pe_int)))
      (pss_cons (ps_set (i := 10) sclaw.nd rfl (Or.inl rfl) (pe_op op_mul_str (pe_op op_add_str (pv 6) pe_str) (pv 9)))
      (pss_cons (ps_if (pt_not (pt_val (pe_cal C__law_same (hr.mono (by decide)) pass0 (pa_cons (pe_cal C_actions_of (hr.mono (by decide)) passL (pa_cons (pv 10) pa_nil)) (pa_cons (pe_op op_rep (pe_cal C__law_read (hr.mono (by decide)) pass0 (pa_cons (pv 2) (pa_cons (pv 6) pa_nil))) (pv 9)) pa_nil))))) (pss_one (ps_ret pe_bl)) pss_nil)
      (pss_cons (ps_set (i := 11) sclaw.nd rfl (Or.inl rfl) (pe_lst (pa_cons pe_non (pa_cons pe_int (pa_cons pe_bl (pa_cons (pe_lst (pa_cons pe_str pa_nil)) (pa_cons (pe_tup (pa_cons pe_str pa_nil)) (pa_cons pe_dnewK (pa_cons (pe_op op_add_str (pv 6) pe_str) (pa_cons (pe_op op_add_str pe_str (pv 6)) (pa_cons (pe_op op_add_str (pv 10) (pe_op op_mul_str pe_str (pe_op op_sub pe_int (pe_callB call_len_str (by rfl) T.b_len boot_len (pa_cons (pv 10) pa_nil))))) pa_nil)))))))))))
      (pss_cons (ps_for PassesOwn.never rfl (pi_list (pv 11)) (pg_name (i := 12) sclaw.nd rfl (Or.inl rfl))
      (pss_one (ps_if (pt_not (pt_val (pe_cal C__law_is_refused (hr.mono (by decide)) pass0 (pa_cons (pv 12) pa_nil)))) (pss_one (ps_ret pe_bl)) pss_nil)))
      (pss_one (ps_ret (pe_and (pe_cal C__law_same (hr.mono (by decide)) pass0 (pa_cons (pe_cal C_actions_of (hr.mono (by decide)) passL (pa_cons pe_str pa_nil)) (pa_cons (pe_lst pa_nil) pa_nil))) (pe_one (pe_cal C__law_same (hr.mono (by decide)) pass0 (pa_cons (pe_cal C_actions_of (hr.mono (by decide)) passL (pa_cons pe_str pa_nil)) (pa_cons (pe_lst (pa_cons (pe_tup (pa_cons pe_str pa_nil)) pa_nil)) pa_nil))))))))))))))))))), ?_⟩
  refine ⟨_, rfl, sc, ns, rfl, hs, hn, fun H1 a xs s1 n1 h1 l1 l2 => ⟨a, xs, rfl, h1, l1, l2, fun H2 k2 => ?_⟩⟩
  refine ⟨rfl, fun H3 tb s3 n3 htb => ⟨Nat.zero_le _, fun pb hpb => ⟨_, _, rfl, ?_⟩⟩⟩
  have hp3 := k2.2.same s3
  have hta : tb ≠ a := by
    obtain ⟨ys, e, _⟩ := k2.2
    exact (ne_of_none e n3).symm
  have kk3 := PK.refl hp3
  have hpa := kk3.ne hpb
  have k4 := kk3.new (o := .lst []) hpb
  have hpt4 : PartAt a (upd H3 pb (.lst [])) pb [] := ⟨hpa, [], upd_same, .nil⟩
  clear hs h1 l1 l2 n1 s1 k2 s3 n3 hn
  refine ⟨_, rfl, a, 6, rfl, by decide, k4.2, fun r H4 hr4 k4' => ⟨_, _, rfl, rfl, _, rfl, by omega, by omega, ?_⟩⟩
  have k04 := k4.trans k4'
  have hpt := hpt4.keep k4'.1
  clear hpt4 k4 k4'
  rw [show ((1 : Int) + (r : Int)).toNat = r + 1 by omega]
  refine for_it walk_range (fun i σ H' => PK a H3 H' ∧ ∃ (zss : List (List Str)) (o4 : Option V), σ = [some (.ref sc), some (.ref a), some (.ref tb), some (.ref pb), o4, none, none, none, none, none, none, none, none] ∧ PartAt a H' pb zss ∧ zss.length ≤ 2 * i ∧ (1 ≤ i → zss ≠ []))
    ⟨k04, [], _, rfl, hpt, Nat.zero_le _, fun h => by omega⟩ (fun _ _ _ _ _ => trivial) (fun i x σ H5 H6 hi q y => ?_) (fun σ H5 q => ?_)
  · obtain ⟨k5, zss, o4, rfl, hpt5, hzl, _⟩ := q
    obtain ⟨rfl, rfl⟩ := y
    have hi6 : i < 6 := by have : i < r + 1 := hi; omega
    obtain ⟨hpa', xs5, hxs5, _⟩ := id hpt5
    refine ⟨_, rfl, .inl ⟨rfl, _, SqL.of hxs5⟩, _, rfl, a, rfl, k5.2, fun v H7 hv k7 => ?_⟩
    obtain ⟨zs, hwv, hgv⟩ := hv
    obtain ⟨xs7, hxs7, hxl7, hpt8⟩ := (hpt5.keep k7.1).add hwv hgv
    have k8 : PK a H3 (upd H7 pb (.lst (xs7 ++ [v]))) := (k5.trans k7).mut hpb hpa
    refine ⟨pb, xs7, v, rfl, rfl, hxs7, line5 (by omega), ?_⟩
    refine ⟨_, rfl, a, 3, rfl, by decide, k8.2, fun r9 H9 hr9 k9 => ⟨rfl, _, rfl, ifB (fun _ => ?_) fun _ => ?_⟩⟩
    · have k09 := k8.trans k9
      have hpt9 := hpt8.keep k9.1
      obtain ⟨_, xs9, hxs9, hpx9⟩ := id hpt9
      refine ⟨_, rfl, .inl ⟨rfl, _, SqL.of hxs9⟩, _, rfl, _, rfl, a, pb, xs9, rfl, k09.2, hpa, hxs9, ?_, fun u hu H10 k10 => ?_⟩
      · intro e
        rw [e] at hpx9
        have := Paired.length hpx9
        simp at this
      obtain ⟨j, hj, rfl⟩ := List.mem_iff_getElem.mp hu
      obtain ⟨zs2, hz2, ⟨hw2, hg2⟩⟩ := Paired.get' hpx9 (List.getElem?_eq_getElem hj)
      have hw2' : WordsAt a H10 xs9[j] zs2 := (hw2.keep (Keep.of hide_same)).keep k10.1
      obtain ⟨b2, eb2, hb2a, hb2⟩ := hw2'
      rw [eb2]
      refine ⟨b2, rfl, ⟨_, SqL.of hb2⟩, fun D hD => ?_⟩
      have k010 := k09.trans k10
      refine lc_it (walk_list (K := K) (a := b2) (xs := zs2.map V.str)) (fun m H' => Same H10 H' ∧ H' D = some (.lst ((zs2.take m).map V.str))) ⟨Same.new hD, upd_same⟩ (fun m H' _ q => SqL.of (q.1 _ _ hb2)) (fun m x H11 H12 hm q y => ?_) (fun H11 q => ?_)
      · obtain ⟨s11, hd⟩ := q
        obtain ⟨rfl, hx⟩ := y
        have hx : (zs2.map V.str)[m]? = some x := hx
        rw [List.getElem?_map] at hx
        obtain ⟨z, hz, rfl⟩ := Option.map_eq_some_iff.mp hx
        have h4 := hg2.len
        refine ⟨rfl, _, rfl, _, hd, line5 (by rw [List.length_map, List.length_take]; omega), Same.mut s11 hD, ?_⟩
        rw [upd_same, List.take_add_one, hz, List.map_append]
        rfl
      · obtain ⟨s11, hd⟩ := q
        rw [List.length_map, List.take_length] at hd
        have hpt11 := hpt9.keep (k10.1.trans (Keep.of s11))
        have k011 := k010.more s11
        obtain ⟨xs11, hxs11, hxl11, hpt12⟩ := hpt11.add ⟨D, rfl, k010.ne hD, hd⟩ hg2
        rw [List.length_append, List.length_singleton] at hxl11
        refine ⟨pb, xs11, _, rfl, rfl, hxs11, line5 (by omega), k011.mut hpb hpa, _, _, rfl, hpt12, ?_, fun _ => by simp⟩
        rw [List.length_append, List.length_append, List.length_singleton, List.length_singleton]
        omega
    · exact ⟨k8.trans k9, _, _, rfl, hpt8.keep k9.1, by rw [List.length_append, List.length_singleton]; omega, fun _ => by simp⟩
  · obtain ⟨k5, zss, o4, rfl, hpt5, hzl, hne⟩ := q
    have hne := hne (by omega)
    have hzl12 : zss.length ≤ 12 := by have : zss.length ≤ 2 * (r + 1) := hzl; omega
    have hp5 := k5.2
    have htb5 := TabAt.keep k5.1 hta htb
    clear k5 hpt k04 hpb hzl hp3 htb kk3
    obtain ⟨_, xs5, hxs5, hpx5⟩ := id hpt5
    have hxl5 := Paired.length hpx5
    have kk5 := PK.refl hp5
    refine ⟨⟨_, rfl⟩, _, rfl, pb, rfl, ⟨_, SqL.of hxs5⟩, fun D hD => ?_⟩
    have hDa := kk5.ne hD
    refine lc_it (walk_list (K := K) (a := pb) (xs := xs5)) (fun m H' => PK a H5 H' ∧ ∃ ts : List Str, H' D = some (.lst (ts.map V.str)) ∧ Paired TP ts (zss.take m)) ⟨kk5.new hD, [], upd_same, .nil⟩ (fun m H' _ q => SqL.of (q.1.1 _ _ hpa hxs5)) (fun m x H6 H7 hm q y => ?_) (fun H6 q => ?_)
    · obtain ⟨k6, ts, hd, hts⟩ := q
      obtain ⟨rfl, hx⟩ := y
      have hx : xs5[m]? = some x := hx
      obtain ⟨zs, hz, hw, hg⟩ := Paired.get' hpx5 hx
      obtain ⟨b, rfl, hba, hb⟩ := (hw.keep (Keep.of hide_same)).keep k6.1
      have h4 := hg.len
      have htl := Paired.length hts
      rw [List.length_take] at htl
      refine ⟨rfl, _, rfl, _, rfl, a, b, zs, rfl, k6.2, hba, hb, by omega, fun z hz => (hg.short z hz).near, fun t H8 ht htl8 hj k8 => ⟨_, k8.1 _ _ hDa hd, line5 (by rw [List.length_map]; omega), (k6.trans k8).mut hD hDa, ts ++ [t], by rw [upd_same, List.map_append]; rfl, ?_⟩⟩
      rw [List.take_add_one, hz]
      have := wsum_good hg
      exact Paired.snoc hts ⟨ht, by omega, hj, hg⟩
    · obtain ⟨k6, ts, hd, hts⟩ := q
      rw [hxl5, List.take_length] at hts
      have htl := Paired.length hts
      have hts115 : ∀ t ∈ ts, Told t ∧ t.length ≤ 115 := by
        intro t ht
        obtain ⟨j, hj, rfl⟩ := List.mem_iff_getElem.mp ht
        obtain ⟨zs, _, h⟩ := Paired.get' hts (List.getElem?_eq_getElem hj)
        exact ⟨h.1, h.2.1⟩
      obtain ⟨hzT, hzL⟩ := told_join hts115
      have hsum : (ts.map (·.length)).sum ≤ 115 * ts.length := by
        have : ∀ ts : List Str, (∀ t ∈ ts, Told t ∧ t.length ≤ 115) → (ts.map (·.length)).sum ≤ 115 * ts.length := by
          intro ts
          induction ts with
          | nil => intro _; exact Nat.le_refl _
          | cons t r ih =>
            intro h
            have h1 := ih fun u hu => h u (by simp [hu])
            have h2 := (h t (by simp)).2
            rw [List.map_cons, List.sum_cons, List.length_cons]
            omega
        exact this ts hts115
      obtain ⟨js, ej2, ej1, hjs⟩ := tp_js hts
      have hjne : js ≠ [] := fun e => by
        rw [e] at ej1
        have := congrArg List.length ej1
        rw [List.length_map, List.length_map] at this
        exact hne (List.length_eq_zero_iff.mp this.symm)
      have ezz : cz (Txt.join ";" ts) = K80M.parts59 (js.map (·.2)) := by rw [join_59_cz, ej2]
      have hacts : K80M.acts (cz (Txt.join ";" ts)) = zss.map fun zs => K80M.said (zs.map cz) := by
        rw [ezz, K80M.acts_parts hjne hjs]
        have := congrArg (List.map K80M.said) ej1
        rw [List.map_map, List.map_map] at this
        exact this
      have hrep : ∀ m : Nat, K80M.acts (List.replicate m (cz (Txt.join ";" ts) ++ [59])).flatten = (List.replicate m (K80M.acts (cz (Txt.join ";" ts)))).flatten := fun m => by rw [ezz]; exact K80M.acts_rep hjne hjs m
      refine ⟨_, D, ts, rfl, rfl, .inl (SqL.of hd), by rw [show (";" : Str).length = 1 by decide +kernel]; omega, ?_⟩
      have hpt6 := hpt5.keep k6.1
      have htb6 := TabAt.keep k6.1 hta htb5
      have hp6 := k6.2
      have hz1391 : (Txt.join ";" ts).length ≤ 1392 := by omega
      generalize hzz : Txt.join ";" ts = z at hzT hz1391 hacts hrep ⊢
      clear hzz hzL hsum hts115 htl hts ezz ej1 ej2 hjs hjne k6 hd kk5 hp5 htb5 hpt5 hpx5 hxs5 hxl5
      have hzt : isText z = true := hzT.text (by omega)
      have hzs : z.length ≤ sizeLine := Nat.le_of_lt (line5 (by omega))
      have hokz := acts_ok hzt
      -- what is told and what the parts say
      refine ⟨_, rfl, _, rfl, tb, z, rfl, htb6, hzt, fun H7 p7 x7 s7 n7 h7 r7 => ?_⟩
      have a7 := acts_at h7 r7
      have hpt7 := hpt6.keep (Keep.of s7)
      obtain ⟨_, xs7, hxs7, hpx7⟩ := id hpt7
      have hxl7 := Paired.length hpx7
      refine ⟨_, rfl, pb, rfl, ⟨_, SqL.of hxs7⟩, fun D7 hD7 => ?_⟩
      refine lc_it (walk_list (K := K) (a := pb) (xs := xs7)) (fun m H' => Same H7 H' ∧ ∃ ys : List V, H' D7 = some (.lst ys) ∧ Paired (RepT (hide H' D7)) ys ((zss.take m).map fun zs => K80M.said (zs.map cz))) ⟨Same.new hD7, [], upd_same, .nil⟩ (fun m H' _ q => SqL.of (q.1 _ _ hxs7)) (fun m x H8 H9 hm q y => ?_) (fun H8 q => ?_)
      · obtain ⟨s8, ys, hd, hys⟩ := q
        obtain ⟨rfl, hx⟩ := y
        have hx : xs7[m]? = some x := hx
        obtain ⟨zs, hz, hw, hg⟩ := Paired.get' hpx7 hx
        obtain ⟨b, rfl, hba, hb⟩ := (hw.keep (Keep.of hide_same)).keep (Keep.of s8)
        have hyl := Paired.length hys
        rw [List.length_map, List.length_take] at hyl
        refine ⟨rfl, _, rfl, b, zs, rfl, hb, hg, fun H10 p10 s10 hp10 => ⟨_, s10 _ _ hd, line5 (by omega), Same.mut (s8.trans s10) hD7, ys ++ [.ref p10], upd_same, ?_⟩⟩
        rw [hide_upd, List.take_add_one, hz, List.map_append]
        exact Paired.snoc (Paired.mapP hys fun _ _ q => q.same (Same.hides s10)) (RepT.hide (s10 _ _ hd) ⟨p10, rfl, hp10⟩)
      obtain ⟨s8, ys, hd, hys⟩ := q
      rw [hxl7, List.take_length, ← hacts] at hys
      refine ⟨_, _, _, rfl, hokz, a7.same s8, acts_at hd hys, fun H9 s9 => ⟨_, rfl, ifF rfl ?_⟩⟩
      have s69 := s7.trans (s8.trans s9)
      refine ⟨_, rfl, _, rfl, tb, z, rfl, htb6.same s69, hzt, fun H10 s10 => ⟨_, rfl, ifF rfl ?_⟩⟩
      have s610 := s69.trans s10
      have hpt10 := hpt6.keep (Keep.of s610)
      have htb10 := htb6.same s610
      have hp10 := hp6.same s610
      clear hys hd s8 hxl7 hpx7 hxs7 hpt7 a7 r7 h7 n7 s7 s9 s69 s10 s610 hpt6 htb6 hp6
      -- changed texts
      refine ⟨_, rfl, _, rfl, _, rfl, a, tb, z, rfl, hp10, hta, htb10, hzt, by omega, fun H11 k11 => ⟨_, rfl, ifF rfl ?_⟩⟩
      have hpt11 := hpt10.keep k11.1
      have htb11 := TabAt.keep k11.1 hta htb10
      have hp11 := k11.2
      clear k11 hpt10 htb10 hp10
      -- near words
      obtain ⟨_, xs11, hxs11, hpx11⟩ := id hpt11
      obtain ⟨x0, xr, ex⟩ : ∃ x0 xr, xs11 = x0 :: xr := by
        cases xs11 with
        | nil => exact absurd (List.length_eq_zero_iff.mp (Paired.length hpx11).symm) hne
        | cons x0 xr => exact ⟨x0, xr, rfl⟩
      obtain ⟨zs0, _, hw0, hg0⟩ := Paired.get' hpx11 (show xs11[0]? = some x0 by rw [ex]; rfl)
      obtain ⟨b0, eb0, hb0a, hb0⟩ := hw0.keep (Keep.of hide_same)
      obtain ⟨xi, xl, ex2⟩ : ∃ xi xl, xs11 = xi ++ [xl] := ⟨xs11.dropLast, xs11.getLast (by rw [ex]; simp), (List.dropLast_concat_getLast _).symm⟩
      obtain ⟨zsl, _, hwl, hgl⟩ := Paired.get' hpx11 (show xs11[xi.length]? = some xl by rw [ex2]; simp)
      obtain ⟨bl, ebl, hbla, hbl⟩ := hwl.keep (Keep.of hide_same)
      refine ⟨_, rfl, _, rfl, pb, xs11, _, x0, rfl, rfl, SqL.of hxs11, atI_nat (j := 0) (by rw [ex]; rfl), a, b0, zs0, by rw [eb0]; rfl, hp11, hb0a, hb0, hg0, fun q1 H12 y1 k12 n1 h1 l1 near1 => ?_⟩
      refine ⟨_, rfl, _, rfl, _, rfl, pb, xs11, _, xl, rfl, rfl, SqL.of (k12.1 _ _ hpa hxs11), by rw [ex2]; exact atI_last _ _, a, bl, zsl, by rw [ebl]; rfl, k12.2, hbla, k12.1 _ _ hbla hbl, hgl, fun q2 H13 y2 k13 n2 h2 l2 near2 => ?_⟩
      refine ⟨q1, q2, _, _, rfl, rfl, k13.1 _ _ n1 h1, h2, Nat.le_of_lt (line5 (by omega)), fun q hq => ⟨q, rfl, ⟨_, SqL.of upd_same⟩, ?_⟩⟩
      have k11q := (k12.trans k13).new (o := .lst (y1 ++ y2)) hq
      have hqa := k13.ne hq
      have hnear : ∀ v ∈ y1 ++ y2, NearAt a (upd H13 q (.lst (y1 ++ y2))) v := by
        intro v hv
        rcases List.mem_append.mp hv with hv | hv
        · exact ((near1 v hv).pk k13).pk ((PK.refl k13.2).new hq)
        · exact (near2 v hv).pk ((PK.refl k13.2).new hq)
      have hqq := @upd_same H13 q (.lst (y1 ++ y2))
      have htb14 := TabAt.keep k11q.1 hta htb11
      have hp14 := k11q.2
      generalize upd H13 q (.lst (y1 ++ y2)) = H14 at k11q hnear hqq htb14 hp14 ⊢
      clear hq near1 near2 k12 k13 h1 h2 n1 n2 hbl hwl hgl ebl hb0 hw0 hg0 eb0 hpx11 hxs11 ex ex2 hpt11 htb11 hp11 k11q
      refine for_it (walk_list (K := K) (a := q) (xs := y1 ++ y2)) (fun m σ H' => PK a H14 H' ∧ ∃ (o7 o8 : Option V), σ = [some (.ref sc), some (.ref a), some (.ref tb), some (.ref pb), o4, none, some (.str z), o7, o8, none, none, none, none])
        ⟨PK.refl hp14, _, _, rfl⟩ (fun m σ H' _ q => SqL.of (q.1.1 _ _ hqa hqq)) (fun m x σ H15 H16 hm q y => ?_) (fun σ H15 q => ?_)
      · obtain ⟨k15, o7, o8, rfl⟩ := q
        obtain ⟨rfl, hx⟩ := y
        have hx : (y1 ++ y2)[m]? = some x := hx
        obtain ⟨l, rfl, hla, ys, hlz, hl5, hny⟩ := (hnear x (List.mem_of_getElem? hx)).pk k15
        have hwl : wsum ys ≤ 30 * ys.length := wsum_le (n := 28) fun x hx => (hny x hx).2
        refine ⟨_, rfl, _, rfl, a, l, ys, rfl, k15.2, hla, hlz, by omega, hny, fun t H17 ht htl hj k17 => ?_⟩
        have k1417 := k15.trans k17
        have htb17 := TabAt.keep k1417.1 hta htb14
        have e59 : (";" : Str).length = 1 := by decide +kernel
        have h59 : Told ";" := told_all (by decide +kernel)
        refine ⟨_, rfl, _, rfl, tb, t, rfl, htb17, ht.text (by omega), fun H18 s18 => ⟨_, rfl, ifF rfl ?_⟩⟩
        refine ⟨_, rfl, _, rfl, _, _, rfl, rfl, Nat.le_of_lt (line5 (by omega)), _, rfl, _, _, rfl, rfl, Nat.le_of_lt (line5 (by simp only [len_app]; omega)), _, _, rfl, rfl, Nat.le_of_lt (line5 (by simp only [len_app]; omega)), _, rfl, _, _, rfl, rfl, Nat.le_of_lt (line5 (by simp only [len_app]; omega)), tb, _, rfl, htb17.same s18, ?_, fun H19 s19 => ⟨_, rfl, ifF rfl ⟨k1417.more (s18.trans s19), _, _, rfl⟩⟩⟩
        exact Told.text (Told.app (Told.app (Told.app (Told.app hzT h59) ht) h59) hzT) (by simp only [len_app]; omega)
      obtain ⟨k15, o7, o8, rfl⟩ := q
      have htb15 := TabAt.keep k15.1 hta htb14
      clear k15 hnear hqq hqa hp14 htb14 l1 l2 hne
      -- the long text
      obtain ⟨mm, emm, hmm⟩ : ∃ mm : Nat, (3000 : Int).fdiv ((z.length : Int) + 1) = (mm : Int) ∧ (z.length + 1) * mm ≤ 3000 := by
        refine ⟨3000 / (z.length + 1), ?_, Nat.mul_div_le 3000 _⟩
        rw [Int.fdiv_eq_ediv_of_nonneg 3000 (by omega), Int.natCast_ediv]
        rfl
      have hmm3 : mm ≤ 3000 := Nat.le_trans (Nat.le_mul_of_pos_left mm (by omega)) hmm
      refine ⟨_, rfl, z, rfl, hzs, _, _, rfl, rfl, _, _, rfl, rfl, ⟨by omega, by omega⟩, ?_⟩
      show gName 9 (V.int ((3000 : Int).fdiv ((z.length : Int) + 1))) _ _ _
      rw [emm]
      have e59 : (";" : Str).length = 1 := by decide +kernel
      refine ⟨_, rfl, _, _, rfl, rfl, Nat.le_of_lt (line5 (by omega)), _, rfl, _, _, rfl, rfl, mulOk (by rw [len_app, e59]; omega) (by omega), ?_⟩
      obtain ⟨lg, elg⟩ : ∃ lg, lg = Txt.mul (z ++ ";") (mm : Int) := ⟨_, rfl⟩
      rw [← elg]
      have czl : cz lg = (List.replicate mm (cz z ++ [59])).flatten := by rw [elg, mul_cz, cz_app, cz_59]
      have lgl : lg.length ≤ 3000 := by
        rw [cz_len, czl, rep_len, List.length_append, List.length_singleton, ← cz_len]
        exact hmm
      have lgT : Told lg := by
        intro c hc
        rw [czl] at hc
        obtain ⟨l, hl, hc⟩ := List.mem_flatten.mp hc
        rw [(List.mem_replicate.mp hl).2] at hc
        rcases List.mem_append.mp hc with hc | hc
        · exact hzT c hc
        · have : c = 59 := by simpa using hc
          rw [this]; decide
      have lgt := lgT.text lgl
      have hactl : K80M.acts (cz lg) = (List.replicate mm (K80M.acts (cz z))).flatten := by rw [czl]; exact hrep mm
      have hal : (K80M.acts (cz z)).length ≤ z.length + 1 := by
        have h1 := List.length_filterMap_le K80M.act (K80M.P (cz z) [] true)
        have h2 := P_len _ (cz z) [] true (Nat.lt_succ_self _)
        rw [← cz_len] at h2
        exact Nat.le_trans h1 h2
      clear elg emm hrep hacts
      refine ⟨_, rfl, _, rfl, .inl ⟨lg, rfl, lgt, fun H16 p16 x16 s16 n16 h16 r16 => ?_⟩⟩
      have a16 := acts_at h16 r16
      refine ⟨_, rfl, _, rfl, tb, z, rfl, htb15.same s16, hzt, fun H17 p17 x17 s17 n17 h17 r17 => ?_⟩
      have hx17 := Paired.length r17
      refine ⟨_, rfl, p17, _, _, rfl, rfl, h17, by omega, by omega, ?_, fun q' hq' => ?_⟩
      · rw [Int.toNat_natCast, hx17]
        exact Nat.le_of_lt (line5 (Nat.le_trans (Nat.mul_le_mul_right mm hal) (by omega)))
      refine ⟨_, _, _, rfl, acts_ok lgt, a16.same (s17.trans (Same.new hq')), ⟨q', _, rfl, upd_same, ?_⟩, fun H18 s18 => ⟨_, rfl, ifF rfl ?_⟩⟩
      · rw [hactl]
        exact Paired.rep (Paired.mapP r17 fun _ _ q => q.same (hide_same.trans (Same.new hq'))) mm
      clear hq' r17 h17 n17 s17 a16 r16 h16 n16 s16 htb15 hx17 hal hactl czl s18
      -- values that are refused
      have ex1 : ("x" : Str).length = 1 := by decide +kernel
      have e3001 : (3001 : Int) - (lg.length : Int) = ((3001 - lg.length : Nat) : Int) := by omega
      have mulx : ("x" : Str).length * (3001 - lg.length) ≤ 100000 := by rw [ex1]; omega
      have lenx : (Txt.mul "x" ((3001 : Int) - (lg.length : Int))).length = 3001 - lg.length := by
        rw [e3001, cz_len, mul_cz, rep_len, ← cz_len, ex1]
        omega
      have etab : ("\t" : Str).length = 1 := by decide +kernel
      have etab2 : ("\t;" : Str).length = 2 := by decide +kernel
      refine ⟨by show 1 ≤ sizeLine; decide, fun v1 hv1 => ⟨by show 1 ≤ sizeLine; decide, fun v2 hv2 => fun v3 hv3 => ?_⟩⟩
      refine ⟨_, rfl, _, _, rfl, rfl, Nat.le_of_lt (line5 (by omega)), _, rfl, _, _, rfl, rfl, Nat.le_of_lt (line5 (by omega)), _, rfl, _, rfl, lg, rfl, Nat.le_of_lt (line5 (by omega)), _, _, rfl, rfl, _, _, rfl, rfl, ?_, _, _, rfl, rfl, Nat.le_of_lt (line5 (by rw [lenx]; omega)), by show 9 ≤ sizeLine; decide, fun vl hvl => ?_⟩
      · show MulOk "x" ((3001 : Int) - (lg.length : Int))
        rw [e3001]
        exact mulOk mulx (by omega)
      have sv : Same (upd (upd (upd H18 v1 (.lst [.str "stop"])) v2 (.tup [.str "stop"])) v3 (.dK [])) (upd (upd (upd (upd H18 v1 (.lst [.str "stop"])) v2 (.tup [.str "stop"])) v3 (.dK [])) vl (.lst [.non, .int 7, .bl true, .ref v1, .ref v2, .ref v3, .str (z ++ "\t"), .str ("\t;" ++ z), .str (lg ++ Txt.mul "x" ((3001 : Int) - (lg.length : Int)))])) := Same.new hvl
      have hg1 := sv _ _ ((Same.new hv3) _ _ ((Same.new hv2) _ _ (@upd_same H18 v1 (.lst [.str "stop"]))))
      have hg2 := sv _ _ ((Same.new hv3) _ _ (@upd_same (upd H18 v1 (.lst [.str "stop"])) v2 (.tup [.str "stop"])))
      have hg3 := sv _ _ (@upd_same (upd (upd H18 v1 (.lst [.str "stop"])) v2 (.tup [.str "stop"])) v3 (.dK []))
      refine ⟨_, rfl, vl, rfl, ⟨_, SqL.of upd_same⟩, ?_⟩
      have hgl := @upd_same (upd (upd (upd H18 v1 (.lst [.str "stop"])) v2 (.tup [.str "stop"])) v3 (.dK [])) vl (.lst [.non, .int 7, .bl true, .ref v1, .ref v2, .ref v3, .str (z ++ "\t"), .str ("\t;" ++ z), .str (lg ++ Txt.mul "x" ((3001 : Int) - (lg.length : Int)))])
      have htab : ∀ c : Nat, c = 9 → told c = false := fun c h => by rw [h]; decide
      have ec1 : cz "\t" = [9] := by decide +kernel
      have ec2 : cz "\t;" = [9, 59] := by decide +kernel
      have hno : ∀ (H' : Hp), Same (upd (upd (upd (upd H18 v1 (.lst [.str "stop"])) v2 (.tup [.str "stop"])) v3 (.dK [])) vl (.lst [.non, .int 7, .bl true, .ref v1, .ref v2, .ref v3, .str (z ++ "\t"), .str ("\t;" ++ z), .str (lg ++ Txt.mul "x" ((3001 : Int) - (lg.length : Int)))])) H' →
          ∀ v ∈ [V.non, .int 7, .bl true, .ref v1, .ref v2, .ref v3, .str (z ++ "\t"), .str ("\t;" ++ z), .str (lg ++ Txt.mul "x" ((3001 : Int) - (lg.length : Int)))], NoT K H' v := by
        intro H' s' v hv
        simp only [List.mem_cons, List.not_mem_nil, or_false] at hv
        rcases hv with rfl | rfl | rfl | rfl | rfl | rfl | rfl | rfl | rfl
        · exact .inr ⟨_, .base .non, kit_ty (by decide +kernel)⟩
        · exact .inr ⟨_, .base (.int 7), kit_ty (by decide +kernel)⟩
        · exact .inr ⟨_, .base (.bl true), kit_ty (by decide +kernel)⟩
        · exact .inr ⟨_, .base (.lst (s' _ _ hg1)), kit_ty (by decide +kernel)⟩
        · exact .inr ⟨_, .base (.tup (s' _ _ hg2)), kit_ty (by decide +kernel)⟩
        · exact .inr ⟨_, .base (.dK (s' _ _ hg3)), kit_ty (by decide +kernel)⟩
        · exact .inl ⟨_, rfl, Nat.le_of_lt (line5 (by rw [len_app]; omega)), isText_not (c := 9) (by rw [cz_app, ec1]; simp) (htab 9 rfl)⟩
        · exact .inl ⟨_, rfl, Nat.le_of_lt (line5 (by rw [len_app]; omega)), isText_not (c := 9) (by rw [cz_app, ec2]; simp) (htab 9 rfl)⟩
        · exact .inl ⟨_, rfl, Nat.le_of_lt (line5 (by rw [len_app, lenx]; omega)), isText_long (by rw [len_app, lenx]; omega)⟩
      generalize upd (upd (upd (upd H18 v1 (.lst [.str "stop"])) v2 (.tup [.str "stop"])) v3 (.dK [])) vl (.lst [.non, .int 7, .bl true, .ref v1, .ref v2, .ref v3, .str (z ++ "\t"), .str ("\t;" ++ z), .str (lg ++ Txt.mul "x" ((3001 : Int) - (lg.length : Int)))]) = H19 at hgl hno ⊢
      refine for_it (walk_list (K := K) (a := vl) (xs := [.non, .int 7, .bl true, .ref v1, .ref v2, .ref v3, .str (z ++ "\t"), .str ("\t;" ++ z), .str (lg ++ Txt.mul "x" ((3001 : Int) - (lg.length : Int)))])) (fun m σ H' => Same H19 H' ∧ ∃ (o12 : Option V), σ = [some (.ref sc), some (.ref a), some (.ref tb), some (.ref pb), o4, none, some (.str z), o7, o8, some (.int (mm : Int)), some (.str lg), some (.ref vl), o12])
        ⟨Same.refl _, _, rfl⟩ (fun m σ H' _ q => SqL.of (q.1 _ _ hgl)) (fun m x σ H20 H21 hm q y => ?_) (fun σ H20 q => ?_)
      · obtain ⟨s20, o12, rfl⟩ := q
        obtain ⟨rfl, hx⟩ := y
        exact ⟨_, rfl, x, rfl, hno _ s20 x (List.mem_of_getElem? hx), fun H22 s22 => ⟨_, rfl, ifF rfl ⟨s20.trans s22, _, rfl⟩⟩⟩
      obtain ⟨s20, o12, rfl⟩ := q
      have t0 : isText "" = true := by decide +kernel
      have t1 : isText "stop" = true := by decide +kernel
      have e0 : K80M.acts (cz "") = [] := by rw [cz_nil]; rfl
      have e1 : K80M.acts (cz "stop") = [[K80M.cp "stop"]] := by rw [e_stop]; exact K80M.acts_stop
      refine ⟨_, rfl, .inl ⟨"", rfl, t0, fun H21 p21 x21 s21 n21 h21 r21 => ⟨Nat.zero_le _, fun l21 hl21 => ?_⟩⟩⟩
      refine ⟨_, _, _, rfl, acts_ok t0, (acts_at h21 r21).same (Same.new hl21), ⟨l21, [], rfl, upd_same, by rw [e0]; exact .nil⟩, fun H22 s22 => ⟨_, rfl, ifT rfl ?_⟩⟩
      refine ⟨_, rfl, .inl ⟨"stop", rfl, t1, fun H23 p23 x23 s23 n23 h23 r23 => ⟨by show 1 ≤ sizeLine; decide, fun q23 hq23 => ⟨by show 1 ≤ sizeLine; decide, fun l23 hl23 => ?_⟩⟩⟩⟩
      refine ⟨_, _, _, rfl, acts_ok t1, ((acts_at h23 r23).same (Same.new hq23)).same (Same.new hl23), ⟨l23, _, rfl, upd_same, ?_⟩, fun H24 s24 => hQ H24⟩
      rw [e1]
      refine .cons ⟨q23, rfl, ?_⟩ .nil
      unfold RepA
      rw [(Same.new hl23) _ _ upd_same, ← e_stop]
      show some (HO.tup [V.str "stop"]) = some (HO.tup [V.str (S (cz "stop"))])
      rw [S_cz]
end
end K80

set_option Elab.async false
set_option linter.all false
set_option maxRecDepth 100000
set_option maxHeartbeats 4000000
/-! law k80: what the head tells, by names -/
namespace K80
open PySem PySem.Spec PyProof.Rows L2
def dD (x : Str) (s : Stmt) : He.DefD := ⟨(x, none), x, x, defArgs s, defBody s, defScope s, [], []⟩
def fn : List He.DefD := ([dD "is_told" sis_told, dD "are_told" sare_told, dD "is_text" sis_text, dD "name_end" sname_end, dD "is_name" sis_name, dD "ends_word" sends_word, dD "word_end" sword_end, dD "parts_of" sparts_of, dD "fits" sfits, dD "action_of" saction_of, dD "actions_of" sactions_of, dD "_law_pool" s_law_pool, dD "_law_stream" s_law_stream, dD "_law_longer" s_law_longer, dD "_law_pick" s_law_pick, dD "_law_far" s_law_far, dD "_law_same" s_law_same, dD "_law_word" s_law_word, dD "_law_name" s_law_name, dD "_law_target" s_law_target] : List He.DefD) ++ (([dD "_law_last" s_law_last, dD "_law_part" s_law_part, dD "_law_joined" s_law_joined, dD "_law_kind" s_law_kind, dD "_law_states" s_law_states, dD "_law_parts" s_law_parts, dD "_law_is_name" s_law_is_name, dD "_law_fits" s_law_fits, dD "_law_read" s_law_read, dD "_law_near" s_law_near, dD "_law_right" s_law_right, dD "_law_changed" s_law_changed, dD "_law_is_refused" s_law_is_refused, dD "_law_some_part" s_law_some_part, dD "_law_said" s_law_said, dD "law" slaw] : List He.DefD))
def fa : List He.Fa := ([.glo "is_told", .glo "are_told", .glo "is_text", .glo "name_end", .glo "is_name", .glo "ends_word", .glo "word_end", .glo "parts_of", .glo "fits", .glo "action_of", .glo "actions_of", .glo "_law_pool", .glo "_law_stream", .glo "_law_longer", .glo "_law_pick", .glo "_law_far", .glo "_law_same", .glo "_law_word", .glo "_law_name", .glo "_law_target"] : List He.Fa) ++ (([.glo "_law_last", .glo "_law_part", .glo "_law_joined", .glo "_law_kind", .glo "_law_states", .glo "_law_parts", .glo "_law_is_name", .glo "_law_fits", .glo "_law_read", .glo "_law_near", .glo "_law_right", .glo "_law_changed", .glo "_law_is_refused", .glo "_law_some_part", .glo "_law_said", .glo "law", .glo "PageError", .glo "BadText", .glo "BadSplice", .glo "BadDeed"] : List He.Fa) ++ (([.glo "BadValue", .glo "TooLong", .glo "BadState", .glo "FORMS", .free "int", .free "range", .free "isinstance", .free "bool", .free "str", .free "dict", .free "all", .free "sorted", .free "repr", .free "len", .free "tuple", .free "list", .free "zip", .free "ord", .int "MOST_SIGNS" 3000, .int "MOST_NAME_SIGNS" 10] : List He.Fa) ++ (([.int "PERCENT" 37, .str "LETTERS" "abcdefghijklmnopqrstuvwxyz", .str "NAME_SIGNS" "abcdefghijklmnopqrstuvwxyz0123456789-", .str "BLANKS" " \n", .str "QUOTE" "'", .str "PART_END" ";", .exm "BadText" "PageError" true] : List He.Fa))))
def ts : List He.Tab := [(fun K => He.ga K "FORMS", ["set", "drop", "add", "cut", "flip", "say", "take", "go", "focus", "stop", "leave"])]
def relsB : List V → List Value → Bool
  | [], [] => true
  | x :: xs, u :: us => He.relB x u && relsB xs us
  | _, _ => false
theorem relsB_ok : ∀ {xs : List V} {us : List Value}, relsB xs us = true → Vals xs us
  | [], [], _ => .nil
  | [], _ :: _, h => by cases h
  | _ :: _, [], h => by cases h
  | x :: xs, u :: us, h => by
    obtain ⟨h1, h2⟩ := He.ba h
    exact .cons (He.relB_ok h1) (relsB_ok h2)
/-- a row of the table of the forms -/
def formB (K : PySem.W.Frag) (p : Str × List K80M.Kn) : Bool := match PySem.W.nsIn K (He.ga K "FORMS") p.1 with
  | some (some (.ref a)) => (match K.lookup a with
    | some ⟨.type c, _, .seq its _, _⟩ => decide (c = "tuple") && (decide (its.size ≤ 3) && relsB (p.2.map knV) its.toList)
    | _ => false)
  | _ => false
theorem formB_ok {K : PySem.W.Frag} {p : Str × List K80M.Kn} (h : formB K p = true) : ∃ (u : Value) (a : Addr), PySem.W.nsIn K (He.ga K "FORMS") p.1 = some (some u) ∧ RelV (.ref a) u ∧ ∀ H, SqT K H a (p.2.map knV) := by
  unfold formB at h
  split at h
  · rename_i a e1
    split at h
    · rename_i c od its n osl e2
      obtain ⟨h1, h2⟩ := He.ba h
      obtain ⟨h3, h4⟩ := He.ba h2
      have e3 : c = "tuple" := of_decide_eq_true h1
      subst e3
      have h5 : its.size ≤ 3 := of_decide_eq_true h3
      exact ⟨_, a, e1, rfl, fun H => .inr ⟨_, its, n, e2, rfl, rfl, Nat.le_of_lt (line5 (by omega)), relsB_ok h4⟩⟩
    · cases h
  · cases h
theorem look_fm (z : Str) : ∀ (L : List (Str × List K80M.Kn)), (∀ ks, K80M.look (cz z) (L.map fun p => (cz p.1, p.2)) = some ks → ∃ p ∈ L, p.1 = z ∧ p.2 = ks) ∧ (K80M.look (cz z) (L.map fun p => (cz p.1, p.2)) = none → ∀ p ∈ L, p.1 ≠ z)
  | [] => ⟨fun ks h => (by cases h), fun _ p hp => (by cases hp)⟩
  | q :: r => by
    obtain ⟨i1, i2⟩ := look_fm z r
    rw [List.map_cons]
    unfold K80M.look
    by_cases h : cz q.1 = cz z
    · rw [if_pos h]
      refine ⟨fun ks e => ⟨q, by simp, str_ext h, Option.some.inj e⟩, fun e => by cases e⟩
    · rw [if_neg h]
      refine ⟨fun ks e => ?_, fun e p hp => ?_⟩
      · obtain ⟨p, hp, h1, h2⟩ := i1 ks e
        exact ⟨p, by simp [hp], h1, h2⟩
      · rcases List.mem_cons.mp hp with rfl | hp
        · exact fun e2 => h (by rw [e2])
        · exact i2 e p hp
theorem keys_miss {P : Params} {z : Str} : ∀ {l : List DictEntry} {ks : List Str}, l.map He.keyOf = He.keysIn P ks → z ∉ ks → l.find? (fun e => e.key.isStr z) = none ∧ l.any (fun e => e.refKey) = false
  | [], _, _, _ => ⟨rfl, rfl⟩
  | e :: r, [], h, _ => by cases h
  | e :: r, k :: ks, h, hz => by
    have h1 : He.keyOf e :: r.map He.keyOf = some (k, PyData.keyHash P k) :: He.keysIn P ks := h
    injection h1 with h2 h3
    obtain ⟨i1, i2⟩ := keys_miss h3 fun (q : z ∈ ks) => hz (List.mem_cons_of_mem k q)
    obtain ⟨eh, ek, ev⟩ := e
    unfold He.keyOf at h2
    cases ek with
    | str x t =>
      have h4 := Option.some.inj h2
      obtain ⟨h5, h6⟩ := Prod.mk.inj h4
      have hx : x = k := h5
      have hne : (x == z) = false := by
        rw [beq_eq_false_iff_ne]
        intro q
        exact hz (by rw [← q, hx]; simp)
      constructor
      · rw [List.find?_cons]
        show (match (x == z) with | true => _ | false => _) = none
        rw [hne]
        exact i1
      · rw [List.any_cons, i2]
        rfl
    | _ => cases h2
theorem ns_miss {K : PySem.W.Frag} {w : World} {a : Addr} {ks : List Str} {z : Str} (h : He.dicW K a = some (He.keysIn w.params ks)) (hz : z ∉ ks) : PySem.W.nsIn K a z = some none := by
  obtain ⟨es, n, D⟩ := He.dicW_ok h
  have hk : es.toList.map He.keyOf = He.keysIn w.params ks := by
    unfold He.dicW at h
    rw [D.at_] at h
    have h1 : (match decide ("dict" = "dict") && ((#[] : Array (Option Value)).isEmpty && !(a == sysModules)) with
      | true => some (es.toList.map He.keyOf)
      | false => none) = some (He.keysIn w.params ks) := h
    rw [D.low] at h1
    exact Option.some.inj h1
  obtain ⟨h1, h2⟩ := keys_miss hk hz
  unfold PySem.W.nsIn
  rw [D.at_]
  show (match es.toList.find? (fun e => e.key.isStr z) with
    | some e => some (some e.val)
    | none => if es.toList.any (fun e => e.refKey) = true then none else some none) = some none
  rw [h1, h2]
  rfl
def bt (K : PySem.W.Frag) : Value := .ref (He.ga K "BadText")
def kitB_ (K : PySem.W.Frag) (x : Str) (b : Bool) : Bool := decide (PySem.W.kitOne K (bt K) (.ref (He.ga K x)) = some b)
def ex (K : PySem.W.Frag) : Bool := (PySem.W.excIn K (He.ga K "BadText") [.type "Exception", .type "BaseException", .type "object"] "Exception.__new__" && (PySem.W.keepIn K (bt K) && (decide (PySem.W.subIn K (bt K) (.type "BaseException") = some true) && decide (PySem.W.typeIn K (bt K) = some (.type "type"))))) &&
  ((kitB_ K "BadDeed" false && (kitB_ K "BadSplice" false && (kitB_ K "BadState" false && (kitB_ K "BadValue" false && (kitB_ K "TooLong" false && kitB_ K "BadText" true))))) &&
  ((He.eqO (PySem.W.findIn K (bt K) "__getattribute__") (some (some (.builtin "BaseException.__getattribute__"))) && (He.eqO (PySem.W.findIn K (bt K) "__getattr__") (some none) && (PySem.W.hasDictIn K (He.ga K "BadText") && (He.eqO (PySem.W.findIn K (bt K) "__class__") (some (some (.builtin "object.__class__"))) &&
  (He.eqO (PySem.W.specialIn K (.builtin "object.__class__") "__get__") (some (some (.builtin "getset_descriptor.__get__"))) && (decide (PySem.W.takesIn K (.builtin "object.__class__") = some true) && decide (PySem.W.mroIn K (He.ga K "BadText") (.type "object") = some true))))))) &&
  fmL.all (formB K)))
theorem at_mk {K : PySem.W.Frag} {h : Heap} {mg : Str → Option Value} {x : Str} {st : Stmt} (X : K.In h) (G : h.Ns mainGlobals mg) (c : He.SaysD fa fn K) (i j : Nat) (hi : fn[i]? = some (dD x st)) (hj : fa[j]? = some (.glo x)) : At K mg x st := by
  obtain ⟨fd, F⟩ := c.def_ i hi
  exact ⟨_, fd, F, He.glo_ok X G (c.fact j hj)⟩
theorem facts {P : Program} {w : World} {K : PySem.W.Frag} {h : Heap} {mg : Str → Option Value} {f : Addr} (X : K.In h) (G : h.Ns mainGlobals mg) (hfa : mg ("law" : Str) = some (.ref f)) (s : He.SaysX fa fn ts [] ex w h K) :
    ∃ fd : FuncData, (∀ (s : Shared) (v : Value), BindsTo s fd ⟨[v], []⟩ [("script", v)]) ∧ ∀ base : Heap, K.In base → base.Ns mainGlobals mg → FnOk P w K mg base CX0 7 f fd ["script"] (spLaw K) := by
  have c := s.t.d
  obtain ⟨m1, m2⟩ := He.ba s.more
  obtain ⟨b1, b2⟩ := He.ba m1
  obtain ⟨b3, b4⟩ := He.ba b2
  obtain ⟨b5, b6⟩ := He.ba b4
  obtain ⟨m3, m4⟩ := He.ba m2
  obtain ⟨k1, k2⟩ := He.ba m3
  obtain ⟨k3, k4⟩ := He.ba k2
  obtain ⟨k5, k6⟩ := He.ba k4
  obtain ⟨k7, k8⟩ := He.ba k6
  obtain ⟨k9, k10⟩ := He.ba k8
  obtain ⟨m5, m6⟩ := He.ba m4
  obtain ⟨e1, e2⟩ := He.ba m5
  obtain ⟨e3, e4⟩ := He.ba e2
  obtain ⟨e5, e6⟩ := He.ba e4
  obtain ⟨e7, e8⟩ := He.ba e6
  obtain ⟨e9, e10⟩ := He.ba e8
  obtain ⟨e11, e12⟩ := He.ba e10
  have A_is_told : At K mg "is_told" sis_told := at_mk X G c 0 0 rfl rfl
  have A_are_told : At K mg "are_told" sare_told := at_mk X G c 1 1 rfl rfl
  have A_is_text : At K mg "is_text" sis_text := at_mk X G c 2 2 rfl rfl
  have A_name_end : At K mg "name_end" sname_end := at_mk X G c 3 3 rfl rfl
  have A_is_name : At K mg "is_name" sis_name := at_mk X G c 4 4 rfl rfl
  have A_ends_word : At K mg "ends_word" sends_word := at_mk X G c 5 5 rfl rfl
  have A_word_end : At K mg "word_end" sword_end := at_mk X G c 6 6 rfl rfl
  have A_parts_of : At K mg "parts_of" sparts_of := at_mk X G c 7 7 rfl rfl
  have A_fits : At K mg "fits" sfits := at_mk X G c 8 8 rfl rfl
  have A_action_of : At K mg "action_of" saction_of := at_mk X G c 9 9 rfl rfl
  have A_actions_of : At K mg "actions_of" sactions_of := at_mk X G c 10 10 rfl rfl
  have A__law_pool : At K mg "_law_pool" s_law_pool := at_mk X G c 11 11 rfl rfl
  have A__law_stream : At K mg "_law_stream" s_law_stream := at_mk X G c 12 12 rfl rfl
  have A__law_longer : At K mg "_law_longer" s_law_longer := at_mk X G c 13 13 rfl rfl
  have A__law_pick : At K mg "_law_pick" s_law_pick := at_mk X G c 14 14 rfl rfl
  have A__law_far : At K mg "_law_far" s_law_far := at_mk X G c 15 15 rfl rfl
  have A__law_same : At K mg "_law_same" s_law_same := at_mk X G c 16 16 rfl rfl
  have A__law_word : At K mg "_law_word" s_law_word := at_mk X G c 17 17 rfl rfl
  have A__law_name : At K mg "_law_name" s_law_name := at_mk X G c 18 18 rfl rfl
  have A__law_target : At K mg "_law_target" s_law_target := at_mk X G c 19 19 rfl rfl
  have A__law_last : At K mg "_law_last" s_law_last := at_mk X G c 20 20 rfl rfl
  have A__law_part : At K mg "_law_part" s_law_part := at_mk X G c 21 21 rfl rfl
  have A__law_joined : At K mg "_law_joined" s_law_joined := at_mk X G c 22 22 rfl rfl
  have A__law_kind : At K mg "_law_kind" s_law_kind := at_mk X G c 23 23 rfl rfl
  have A__law_states : At K mg "_law_states" s_law_states := at_mk X G c 24 24 rfl rfl
  have A__law_parts : At K mg "_law_parts" s_law_parts := at_mk X G c 25 25 rfl rfl
  have A__law_is_name : At K mg "_law_is_name" s_law_is_name := at_mk X G c 26 26 rfl rfl
  have A__law_fits : At K mg "_law_fits" s_law_fits := at_mk X G c 27 27 rfl rfl
  have A__law_read : At K mg "_law_read" s_law_read := at_mk X G c 28 28 rfl rfl
  have A__law_near : At K mg "_law_near" s_law_near := at_mk X G c 29 29 rfl rfl
  have A__law_right : At K mg "_law_right" s_law_right := at_mk X G c 30 30 rfl rfl
  have A__law_changed : At K mg "_law_changed" s_law_changed := at_mk X G c 31 31 rfl rfl
  have A__law_is_refused : At K mg "_law_is_refused" s_law_is_refused := at_mk X G c 32 32 rfl rfl
  have A__law_some_part : At K mg "_law_some_part" s_law_some_part := at_mk X G c 33 33 rfl rfl
  have A__law_said : At K mg "_law_said" s_law_said := at_mk X G c 34 34 rfl rfl
  obtain ⟨fdl, Fl⟩ := c.def_ 35 (d := dD "law" slaw) rfl
  have el := hfa.symm.trans (He.glo_ok X G (c.fact 35 (f := .glo "law") rfl))
  have ef : f = He.ga K "law" := by cases el; rfl
  subst ef
  have T : Txt K w mg (He.ga K "FORMS") := {
    b_int := He.free_ok X G (c.fact 44 (f := .free "int") rfl)
    b_range := He.free_ok X G (c.fact 45 (f := .free "range") rfl)
    b_isinstance := He.free_ok X G (c.fact 46 (f := .free "isinstance") rfl)
    b_bool := He.free_ok X G (c.fact 47 (f := .free "bool") rfl)
    b_str := He.free_ok X G (c.fact 48 (f := .free "str") rfl)
    b_dict := He.free_ok X G (c.fact 49 (f := .free "dict") rfl)
    b_all := He.free_ok X G (c.fact 50 (f := .free "all") rfl)
    b_sorted := He.free_ok X G (c.fact 51 (f := .free "sorted") rfl)
    b_repr := He.free_ok X G (c.fact 52 (f := .free "repr") rfl)
    b_len := He.free_ok X G (c.fact 53 (f := .free "len") rfl)
    b_tuple := He.free_ok X G (c.fact 54 (f := .free "tuple") rfl)
    b_list := He.free_ok X G (c.fact 55 (f := .free "list") rfl)
    b_zip := He.free_ok X G (c.fact 56 (f := .free "zip") rfl)
    b_ord := He.free_ok X G (c.fact 57 (f := .free "ord") rfl)
    c_MOST_SIGNS := He.int_ok X G (c.fact 58 (f := .int "MOST_SIGNS" 3000) rfl)
    c_MOST_NAME_SIGNS := He.int_ok X G (c.fact 59 (f := .int "MOST_NAME_SIGNS" 10) rfl)
    c_PERCENT := He.int_ok X G (c.fact 60 (f := .int "PERCENT" 37) rfl)
    c_LETTERS := He.str_ok X G (c.fact 61 (f := .str "LETTERS" "abcdefghijklmnopqrstuvwxyz") rfl)
    c_NAME_SIGNS := He.str_ok X G (c.fact 62 (f := .str "NAME_SIGNS" "abcdefghijklmnopqrstuvwxyz0123456789-") rfl)
    c_BLANKS := He.str_ok X G (c.fact 63 (f := .str "BLANKS" " \n") rfl)
    c_QUOTE := He.str_ok X G (c.fact 64 (f := .str "QUOTE" "'") rfl)
    c_PART_END := He.str_ok X G (c.fact 65 (f := .str "PART_END" ";") rfl)
    c_FORMS := He.glo_ok X G (c.fact 43 (f := .glo "FORMS") rfl)
    forms := {
      d := s.t.tab 0
      has := fun z ks hz => by
        rw [← fmL_forms] at hz
        obtain ⟨p, hp, rfl, rfl⟩ := (look_fm z fmL).1 ks hz
        exact formB_ok (List.all_eq_true.mp m6 p hp)
      no := fun z hz => by
        rw [← fmL_forms] at hz
        have hn := (look_fm z fmL).2 hz
        have hd : (ts.map fun t => He.dicW K (t.1 K)) = ts.map fun t => some (He.keysIn w.params t.2) := congrArg (fun z : He.AlT => z.2) s.t
        have hd2 : He.dicW K (He.ga K "FORMS") = some (He.keysIn w.params (fmL.map (·.1))) := (List.cons.inj hd).1
        refine ns_miss hd2 fun hm => ?_
        obtain ⟨p, hp, rfl⟩ := List.mem_map.mp hm
        exact hn p hp rfl } }
  have B : BadT K mg (He.ga K "BadText") := ⟨He.glo_ok X G (c.fact 37 (f := .glo "BadText") rfl), b1, b3, of_decide_eq_true b5, of_decide_eq_true b6⟩
  have R : Errs K mg (He.ga K "BadText") := {
    toBadT := B
    page := ⟨_, He.glo_ok X G (c.fact 36 (f := .glo "PageError") rfl), He.exm_ok (c.fact 66 (f := .exm "BadText" "PageError" true) rfl)⟩
    deed := ⟨_, He.glo_ok X G (c.fact 39 (f := .glo "BadDeed") rfl), of_decide_eq_true k1⟩
    splice := ⟨_, He.glo_ok X G (c.fact 38 (f := .glo "BadSplice") rfl), of_decide_eq_true k3⟩
    state := ⟨_, He.glo_ok X G (c.fact 42 (f := .glo "BadState") rfl), of_decide_eq_true k5⟩
    value := ⟨_, He.glo_ok X G (c.fact 40 (f := .glo "BadValue") rfl), of_decide_eq_true k7⟩
    long := ⟨_, He.glo_ok X G (c.fact 41 (f := .glo "TooLong") rfl), of_decide_eq_true k9⟩
    text := of_decide_eq_true k10
    exc := ⟨He.eqO_ok e1, He.eqO_ok e3, of_decide_eq_true b5, e5, He.eqO_ok e7, He.eqO_ok e9, of_decide_eq_true e11, of_decide_eq_true e12⟩ }
  have bb := FunD.bindsA (ps := ["script"]) Fl fun _ _ _ _ _ _ us hl => match us, hl with | [_], _ => rfl
  refine ⟨fdl, fun s v => bb s [v] rfl, fun base KB GB => ?_⟩
  have C_is_told := ok_is_told (P := P) (base := base) T A_is_told
  have C_are_told := ok_are_told (P := P) (base := base) T A_are_told C_is_told
  have C_is_text := ok_is_text (P := P) (base := base) T A_is_text C_are_told
  have C_name_end := ok_name_end (P := P) (base := base) T A_name_end
  have C_is_name := ok_is_name (P := P) (base := base) T A_is_name C_name_end
  have C_ends_word := ok_ends_word (P := P) (base := base) T A_ends_word
  have C_word_end := ok_word_end (P := P) (base := base) T A_word_end C_ends_word
  have C_parts_of := ok_parts_of (P := P) (base := base) T A_parts_of C_ends_word C_word_end
  have C_fits := ok_fits (P := P) (base := base) T A_fits C_is_name
  have C_action_of := ok_action_of (P := P) (base := base) T A_action_of C_fits trivial
  have C_actions_of := ok_actions_of (P := P) (base := base) T B A_actions_of C_is_text C_parts_of C_action_of
  have C__law_pool := ok_law_pool (P := P) (base := base) T A__law_pool
  have C__law_stream := ok_law_stream (P := P) (base := base) T A__law_stream C__law_pool
  have C__law_longer := ok_law_longer (P := P) (base := base) T A__law_longer
  have C__law_pick := ok_law_pick (P := P) (base := base) T A__law_pick
  have C__law_far := ok_law_far (P := P) (base := base) T A__law_far C__law_pick
  have C__law_same := ok_law_same (P := P) (base := base) T A__law_same
  have C__law_word := ok_law_word (P := P) (base := base) T A__law_word C__law_pick
  have C__law_name := ok_law_name (P := P) (base := base) T A__law_name C__law_pick
  have C__law_target := ok_law_target (P := P) (base := base) T A__law_target C__law_pick C__law_word
  have C__law_last := ok_law_last (P := P) (base := base) T A__law_last C__law_pick C__law_word
  have C__law_part := ok_law_part (P := P) (base := base) T A__law_part C__law_pick C__law_word C__law_name C__law_target C__law_last
  have C__law_joined := ok_law_joined (P := P) (base := base) T A__law_joined C__law_pick
  have C__law_kind := ok_law_kind (P := P) (base := base) T A__law_kind
  have C__law_states := ok_law_states (P := P) (base := base) T A__law_states
  have C__law_parts := ok_law_parts (P := P) (base := base) T A__law_parts C__law_kind
  have C__law_is_name := ok_law_is_name (P := P) (base := base) T A__law_is_name
  have C__law_fits := ok_law_fits (P := P) (base := base) T A__law_fits C__law_is_name
  have C__law_read := ok_law_read (P := P) (base := base) T A__law_read C__law_parts C__law_fits
  have C__law_near := ok_law_near (P := P) (base := base) T A__law_near C__law_pick
  have C__law_right := ok_law_right (P := P) (base := base) T A__law_right C__law_read C_actions_of C__law_same
  have C__law_changed := ok_law_changed (P := P) (base := base) T A__law_changed C__law_far C__law_read C_actions_of C__law_same
  have C__law_is_refused := ok_law_is_refused (P := P) (base := base) T R A__law_is_refused C_actions_of
  have C__law_some_part := ok_law_some_part (P := P) (base := base) T A__law_some_part C__law_pick
  have C__law_said := ok_law_said (P := P) (base := base) T A__law_said
  exact ok_law (P := P) (base := base) T R Fl C__law_stream C__law_longer C__law_pick C__law_states C__law_part C__law_some_part C__law_joined C__law_read C__law_said C__law_same C__law_right C__law_changed C__law_near C_actions_of C__law_is_refused
end K80

set_option Elab.async false
set_option linter.all false
set_option maxRecDepth 100000
set_option maxHeartbeats 0
/-! law k80: the head runs; the end -/
namespace K80
open PySem PySem.Spec PyProof.Rows L2
def loose : List Str := (["PageError", "BadText", "BadSplice", "BadDeed", "BadValue", "TooLong", "BadState", "MOST_SIGNS", "MOST_NAME_SIGNS", "LETTERS", "NAME_SIGNS", "BLANKS", "PERCENT", "is_told", "are_told", "is_text", "name_end", "is_name", "QUOTE", "PART_END", "FORMS", "ends_word", "word_end", "parts_of", "fits", "action_of", "actions_of"] : List Str) ++ (["_law_pool", "_law_stream", "_law_longer", "_law_pick", "_law_far", "_law_same", "_law_word", "_law_name", "_law_target", "_law_last", "_law_part", "_law_joined", "_law_kind", "_law_states", "_law_parts", "_law_is_name", "_law_fits", "_law_read", "_law_near", "_law_right", "_law_changed", "_law_is_refused", "_law_some_part", "_law_said"] : List Str)
abbrev R80 : PySem.W.OpenRow := PySem.W.OpenLaw.row PySem.Challenge.rw_pageseen_k80_handlers_cut_into_actions
abbrev hk : PySem.W.Hook := He.hookX 4 fa fn ts [] ex
def ob (s : PySem.W.SharedT) : He.AlX := He.obsX 4 fa fn ts [] ex (HandSHeadRun.getT s)
theorem ob_eq (s : PySem.W.SharedT) : ob s = hk.obs s.abs := He.obsX_eq (HandSHeadRun.getT_eq s)
theorem runF (w : World) : HandSHeadRun.RunEq R80 (PySem.W.view R80.prog [56]) hk ob 3000 loose (w.withFollow "special-get-raises" false) := by
  intro os
  kernel_rfl
theorem runT (w : World) : HandSHeadRun.RunEq R80 (PySem.W.view R80.prog [56]) hk ob 3000 loose (w.withFollow "special-get-raises" true) := by
  intro os
  kernel_rfl
theorem run (w : World) : HandSHeadRun.RunEq R80 (PySem.W.view R80.prog [56]) hk ob 3000 loose w := PySem.W.byRow2 "special-get-raises" (P := HandSHeadRun.RunEq R80 (PySem.W.view R80.prog [56]) hk ob 3000 loose) runF runT w
end K80
open PySem PySem.W PySem.Calls PyProof.Rows
theorem PySem.Challenge.cw_pageseen_k80_handlers_cut_into_actions_holds : PySem.Challenge.rw_pageseen_k80_handlers_cut_into_actions.Holds := by
  w_on; o_law
  refine HandSHeadRun.head_any (r := OpenLaw.row PySem.Challenge.rw_pageseen_k80_handlers_cut_into_actions) (q := view (OpenLaw.row PySem.Challenge.rw_pageseen_k80_handlers_cut_into_actions).prog [56]) (H := K80.hk) (ob := K80.ob) (M := 3000) (loose := K80.loose) (d := HandSHeadRun.topDef (OpenLaw.row PySem.Challenge.rw_pageseen_k80_handlers_cut_into_actions).prog 56) (kwd := []) K80.ob_eq
    (by kernel_rfl) (fun s => by kernel_rfl) K80.run (by kernel_rfl) (by kernel_rfl) (by kernel_rfl) (by rfl) (by first | assumption | decide +kernel) (by decide +kernel) ⟨rfl, rfl, rfl, rfl, rfl, by decide +kernel⟩ ?hw ?hc
  case hw => w_witness2
  case hc =>
    refine L2.walk_ofE (l := PySem.Challenge.rw_pageseen_k80_handlers_cut_into_actions) (n := 63) (k := 7) (x := "script") (CX := L2.CX0) rfl (by decide) (by kernel_rfl) ⟨rfl, by decide, by decide⟩ ?F (fun _ _ _ _ z => z)
    intro w mg fa h Y G hmg0
    obtain ⟨K, KX, c⟩ := Y
    have hmg : mg ("law" : PySem.Str) = some (.ref fa) := by
      have e : (HandSHeadRun.topDef (OpenLaw.row PySem.Challenge.rw_pageseen_k80_handlers_cut_into_actions).prog 56).name = ("law" : PySem.Str) := by kernel_rfl
      rw [← e]
      exact hmg0
    obtain ⟨fd, hb, hF⟩ := K80.facts (P := (PySem.Challenge.rw_pageseen_k80_handlers_cut_into_actions).prog) (w := w) KX G hmg c
    exact ⟨K, fd, K80.spLaw K, KX, hb, fun H a ns hl _ hS => ⟨a, ns, rfl, hS, hl, fun _ => rfl⟩, hF⟩
