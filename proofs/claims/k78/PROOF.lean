import PyProof.Rows.All
import Wide.All
import OpenK.AllK
import Wide.FinOn
import HandS.ForMost
import HandS.ForExc
import HandS.StrMore
import HandS.Codes
import HandS.IsInst
import HandS.ExcIs
import HandS.Small
import HandS.WordsExc
import HandS.Style
import HandS.More
import HandS.Wide
import HandS.Flow
import HandS.Walk
import HandS.Zip
import HandS.ReplaceLit
import HandS.ReplaceList
import KE.GoesMore
import KE.GoesEnum
import PySem.Challenge.RW_pageseen_k78_actions_of_handlers
set_option Elab.async false
set_option linter.all false
set_option maxRecDepth 100000
set_option maxHeartbeats 4000000
/-! The plain law of handlers: two readings of a text agree; made texts are read as they were made. -/
namespace M78
abbrev Txt := List Nat
abbrev Word := Txt × Bool
def isBl (c : Nat) : Bool := c == 32 || c == 10
def isEnd (c : Nat) : Bool := c == 32 || c == 10 || c == 59
inductive Mode where
  | out | closed | word (w : Txt) | quote (w : Txt)
  deriving DecidableEq
/-- the law's walk over the signs (the last ; among them) -/
def lrun (ws : List Word) (sp : Bool) : Mode → Txt → List (List Word × Bool)
  | _, [] => []
  | .quote w, c :: r => if c = 39 then lrun (ws ++ [(w, true)]) sp .closed r else lrun ws sp (.quote (w ++ [c])) r
  | .word w, c :: r => if c = 59 then (ws ++ [(w, false)], sp) :: lrun [] false .out r
      else if isBl c then lrun (ws ++ [(w, false)]) sp .out r else lrun ws sp (.word (w ++ [c])) r
  | .out, c :: r => if c = 59 then (ws, sp) :: lrun [] false .out r
      else if c = 39 then lrun ws sp (.quote []) r
      else if isBl c then lrun ws sp .out r else lrun ws sp (.word [c]) r
  | .closed, c :: r => if c = 59 then (ws, sp) :: lrun [] false .out r
      else if c = 39 then lrun ws true (.quote []) r
      else if isBl c then lrun ws sp .out r else lrun ws true (.word [c]) r
/-- the program's walk -/
def upToEnd : Txt → Txt × Txt
  | [] => ([], [])
  | c :: r => if isEnd c then ([], c :: r) else ((c :: (upToEnd r).1), (upToEnd r).2)
theorem upToEnd_len : ∀ t : Txt, (upToEnd t).2.length ≤ t.length
  | [] => Nat.le_refl _
  | c :: r => by
    unfold upToEnd
    split
    · exact Nat.le_refl _
    · exact Nat.le_succ_of_le (upToEnd_len r)
/-- up to the next quote: what stands ahead of it, what behind it -/
def upToQuote : Txt → Option (Txt × Txt)
  | [] => none
  | c :: r => if c = 39 then some ([], r) else (upToQuote r).map fun p => (c :: p.1, p.2)
theorem upToQuote_len : ∀ {t : Txt} {p : Txt × Txt}, upToQuote t = some p → p.2.length < t.length
  | [], p, h => by cases h
  | c :: r, p, h => by
    unfold upToQuote at h
    split at h
    · cases h
      exact Nat.lt_succ_self _
    · cases e : upToQuote r with
      | none => rw [e] at h; cases h
      | some q =>
        rw [e] at h
        have h := Option.some.inj h
        subst h
        exact Nat.lt_succ_of_lt (upToQuote_len (p := q) e)
def endsHere : Txt → Bool
  | [] => true
  | c :: _ => isEnd c
def ifOk (ok : Bool) (ws : List Word) : Option (List Word) := if ok then some ws else none
def prun (ws : List Word) (ok : Bool) (t : Txt) : List (Option (List Word)) :=
  match t with
  | [] => [ifOk ok ws]
  | c :: r =>
    if c = 59 then ifOk ok ws :: prun [] true r
    else if isBl c then prun ws ok r
    else if c = 39 then
      match h : upToQuote r with
      | none => [none]
      | some p => prun (ws ++ [(p.1, true)]) (ok && endsHere p.2) p.2
    else prun (ws ++ [(c :: (upToEnd r).1, false)]) ok (upToEnd r).2
termination_by t.length
decreasing_by
  · exact Nat.lt_succ_self _
  · exact Nat.lt_succ_self _
  · exact Nat.lt_succ_of_lt (upToQuote_len h)
  · exact Nat.lt_succ_of_le (upToEnd_len r)
theorem prun_nil {ws : List Word} {ok : Bool} : prun ws ok [] = [ifOk ok ws] := by rw [prun]
theorem prun_semi {ws : List Word} {ok : Bool} {r : Txt} : prun ws ok (59 :: r) = ifOk ok ws :: prun [] true r := by rw [prun, if_pos rfl]
theorem prun_bl {ws : List Word} {ok : Bool} {c : Nat} {r : Txt} (h : isBl c = true) : prun ws ok (c :: r) = prun ws ok r := by
  have h1 : c ≠ 59 := by
    rintro rfl
    exact absurd h (by decide)
  rw [prun, if_neg h1, if_pos h]
theorem prun_q0 {ws : List Word} {ok : Bool} {r : Txt} (h : upToQuote r = none) : prun ws ok (39 :: r) = [none] := by
  rw [prun, if_neg (by decide), if_neg (by decide), if_pos rfl]
  split
  · rfl
  · rename_i p e
    rw [h] at e
    cases e
theorem prun_q1 {ws : List Word} {ok : Bool} {r : Txt} {p : Txt × Txt} (h : upToQuote r = some p) : prun ws ok (39 :: r) = prun (ws ++ [(p.1, true)]) (ok && endsHere p.2) p.2 := by
  rw [prun, if_neg (by decide), if_neg (by decide), if_pos rfl]
  split
  · rename_i e
    rw [h] at e
    cases e
  · rename_i q e
    rw [h] at e
    cases e
    rfl
theorem prun_w {ws : List Word} {ok : Bool} {c : Nat} {r : Txt} (h1 : isEnd c = false) (h2 : c ≠ 39) : prun ws ok (c :: r) = prun (ws ++ [(c :: (upToEnd r).1, false)]) ok (upToEnd r).2 := by
  have h : c ≠ 59 := by
    rintro rfl
    exact absurd h1 (by decide)
  have hb : isBl c = false := by
    unfold isEnd at h1
    unfold isBl
    cases e : (c == 32 || c == 10) with
    | false => rfl
    | true =>
      rw [e] at h1
      cases h1
  rw [prun, if_neg h, if_neg (by rw [hb]; decide), if_neg h2]
/-! ### actions -/
def w_set : Txt := [115, 101, 116]
def w_drop : Txt := [100, 114, 111, 112]
def w_add : Txt := [97, 100, 100]
def w_cut : Txt := [99, 117, 116]
def w_flip : Txt := [102, 108, 105, 112]
def w_say : Txt := [115, 97, 121]
def w_take : Txt := [116, 97, 107, 101]
def w_go : Txt := [103, 111]
def w_focus : Txt := [102, 111, 99, 117, 115]
def w_stop : Txt := [115, 116, 111, 112]
def w_leave : Txt := [108, 101, 97, 118, 101]
def w_self : Txt := [115, 101, 108, 102]
def isLower (c : Nat) : Bool := decide (97 ≤ c) && decide (c ≤ 122)
def isNameSign (c : Nat) : Bool := isLower c || (decide (48 ≤ c) && decide (c ≤ 57)) || c == 45
def isName (w : Txt) : Bool := match w with
  | [] => false
  | c :: r => isLower c && decide (r.length ≤ 9) && r.all isNameSign
def isTarget (w : Txt) : Bool := decide (w = w_self) || (match w with | 35 :: _ :: _ => true | _ => false)
inductive Kind where
  | target | name | word | any
  deriving DecidableEq
def forms (w : Txt) : Option (List Kind) :=
  if w = w_set then some [.target, .name, .any]
  else if w = w_drop then some [.target, .name]
  else if w = w_add then some [.target, .word]
  else if w = w_cut then some [.target, .word]
  else if w = w_flip then some [.target, .word]
  else if w = w_say then some [.target, .any]
  else if w = w_take then some [.target]
  else if w = w_go then some [.word]
  else if w = w_focus then some [.target]
  else if w = w_stop then some []
  else if w = w_leave then some []
  else none
def fits (k : Kind) (w : Word) : Bool := match k with
  | .any => true
  | .target => !w.2 && isTarget w.1
  | .word => !w.2
  | .name => !w.2 && isName w.1
def allFit : List Kind → List Word → Bool
  | [], [] => true
  | k :: ks, w :: ws => fits k w && allFit ks ws
  | _, _ => false
/-- the program's -/
def isAct (ws : List Word) : Bool := match ws with
  | [] => false
  | w :: r => !w.2 && (match forms w.1 with | none => false | some ks => allFit ks r)
def act (o : Option (List Word)) : Option (List Txt) := match o with
  | none => none
  | some ws => if isAct ws then some (ws.map (·.1)) else none
def acts (t : Txt) : List (List Txt) := (prun [] true t).filterMap act
/-- the law's: a part, and whether a sign stands behind a quote -/
def actL (p : List Word × Bool) : Option (List Txt) := if !p.2 && isAct p.1 then some (p.1.map (·.1)) else none
def actsL (t : Txt) : List (List Txt) := (lrun [] false .out (t ++ [59])).filterMap actL
/-! ### the two readings agree -/
theorem lrun_closed {ws : List Word} {sp : Bool} {t : Txt} : lrun ws sp .closed (t ++ [59]) = lrun ws (sp || !endsHere t) .out (t ++ [59]) := by
  cases t with
  | nil =>
    show lrun ws sp .closed [59] = lrun ws (sp || !true) .out [59]
    simp [lrun]
  | cons c r =>
    show lrun ws sp .closed (c :: (r ++ [59])) = lrun ws (sp || !isEnd c) .out (c :: (r ++ [59]))
    unfold lrun
    by_cases h1 : c = 59
    · subst h1
      simp [isEnd]
    · by_cases h2 : c = 39
      · subst h2
        simp [isEnd]
      · by_cases h3 : isBl c = true
        · have : isEnd c = true := by
            unfold isBl at h3
            unfold isEnd
            rw [h3]
            rfl
          simp [h1, h2, h3, this]
        · have h3 : isBl c = false := by simpa using h3
          have : isEnd c = false := by
            unfold isBl at h3
            unfold isEnd
            rw [h3]
            simpa using h1
          simp [h1, h2, h3, this]
theorem lrun_quote : ∀ (r : Txt) (ws : List Word) (sp : Bool) (w : Txt), lrun ws sp (.quote w) (r ++ [59]) = match upToQuote r with
    | none => []
    | some p => lrun (ws ++ [(w ++ p.1, true)]) sp .closed (p.2 ++ [59])
  | [], ws, sp, w => by simp [lrun, upToQuote]
  | c :: r, ws, sp, w => by
    show lrun ws sp (.quote w) (c :: (r ++ [59])) = _
    rw [lrun, upToQuote]
    by_cases h : c = 39
    · rw [if_pos h, if_pos h]
      simp
    · rw [if_neg h, if_neg h, lrun_quote r ws sp (w ++ [c])]
      cases e : upToQuote r with
      | none => rfl
      | some p =>
        show lrun (ws ++ [((w ++ [c]) ++ p.1, true)]) sp .closed (p.2 ++ [59]) = lrun (ws ++ [(w ++ (c :: p.1), true)]) sp .closed (p.2 ++ [59])
        rw [List.append_assoc]
        rfl
theorem lrun_word : ∀ (r : Txt) (ws : List Word) (sp : Bool) (w : Txt), lrun ws sp (.word w) (r ++ [59]) = lrun (ws ++ [(w ++ (upToEnd r).1, false)]) sp .out ((upToEnd r).2 ++ [59])
  | [], ws, sp, w => by simp [lrun, upToEnd]
  | c :: r, ws, sp, w => by
    show lrun ws sp (.word w) (c :: (r ++ [59])) = _
    unfold upToEnd
    by_cases h1 : c = 59
    · subst h1
      simp [lrun, isEnd]
    · by_cases h3 : isBl c = true
      · have h4 : isEnd c = true := by
          unfold isBl at h3
          unfold isEnd
          rw [h3]
          rfl
        have h2 : c ≠ 39 := by
          rintro rfl
          exact absurd h3 (by decide)
        simp [lrun, h1, h2, h3, h4]
      · have h3 : isBl c = false := by simpa using h3
        have h4 : isEnd c = false := by
          unfold isBl at h3
          unfold isEnd
          rw [h3]
          simpa using h1
        rw [lrun, if_neg h1, if_neg (by rw [h3]; decide), if_neg (by rw [h4]; decide), lrun_word r ws sp (w ++ [c])]
        simp
theorem act_ifOk {ok : Bool} {ws : List Word} : act (ifOk ok ws) = actL (ws, !ok) := by
  cases ok <;> simp [act, ifOk, actL]
theorem agree : ∀ (n : Nat) (t : Txt) (ws : List Word) (ok : Bool), t.length ≤ n → (prun ws ok t).filterMap act = (lrun ws (!ok) .out (t ++ [59])).filterMap actL := by
  intro n
  induction n with
  | zero =>
    intro t ws ok h
    have : t = [] := List.length_eq_zero_iff.mp (by omega)
    subst this
    rw [prun_nil]
    simp [lrun, act_ifOk, List.filterMap_cons]
  | succ n ih =>
    intro t ws ok h
    cases t with
    | nil =>
      rw [prun_nil]
      simp [lrun, act_ifOk, List.filterMap_cons]
    | cons c r =>
      have hr : r.length ≤ n := by
        rw [List.length_cons] at h
        omega
      by_cases h1 : c = 59
      · subst h1
        rw [prun_semi]
        show _ = (lrun ws (!ok) .out (59 :: (r ++ [59]))).filterMap actL
        rw [lrun, if_pos rfl, List.filterMap_cons, List.filterMap_cons, act_ifOk, ih r [] true hr]
        rfl
      · by_cases h3 : isBl c = true
        · rw [prun_bl h3]
          show _ = (lrun ws (!ok) .out (c :: (r ++ [59]))).filterMap actL
          have h2 : c ≠ 39 := by
            rintro rfl
            exact absurd h3 (by decide)
          rw [lrun, if_neg h1, if_neg h2, if_pos h3]
          exact ih r ws ok hr
        · have h3' : isBl c = false := by simpa using h3
          have h4 : isEnd c = false := by
            unfold isBl at h3'
            unfold isEnd
            rw [h3']
            simpa using h1
          by_cases h2 : c = 39
          · subst h2
            show _ = (lrun ws (!ok) .out (39 :: (r ++ [59]))).filterMap actL
            rw [lrun, if_neg (by decide), if_pos rfl, lrun_quote r ws (!ok) []]
            cases e : upToQuote r with
            | none =>
              rw [prun_q0 e]
              rfl
            | some p =>
              have hl := upToQuote_len e
              rw [prun_q1 e]
              show _ = (lrun (ws ++ [([] ++ p.1, true)]) (!ok) .closed (p.2 ++ [59])).filterMap actL
              rw [lrun_closed, List.nil_append, ih p.2 _ _ (by omega)]
              rw [Bool.not_and]
          · rw [prun_w h4 h2]
            show _ = (lrun ws (!ok) .out (c :: (r ++ [59]))).filterMap actL
            have hl := upToEnd_len r
            rw [lrun, if_neg h1, if_neg h2, if_neg h3, lrun_word r ws (!ok) [c], ih (upToEnd r).2 _ _ (by omega)]
            rfl
theorem acts_eq (t : Txt) : acts t = actsL t := agree t.length t [] true (Nat.le_refl _)

/-! ### the law's own test of an action -/
def last2 (ws : List Word) : Bool := match ws.getLast? with | some w => w.2 | none => false
def tgtL (t : Txt) : Bool := decide (t = w_self) || (decide (t.take 1 = [35]) && !decide (t.length = 1))
def isActL (ws : List Word) : Bool := match ws with
  | [] => false
  | w :: r =>
    if (w :: r).dropLast.any (·.2) then false
    else match forms w.1 with
      | none => false
      | some ks =>
        if ks.length + 1 ≠ (w :: r).length then false
        else if last2 (w :: r) && !(decide (w.1 = w_set) || decide (w.1 = w_say)) then false
        else if w.1 = w_stop ∨ w.1 = w_leave ∨ w.1 = w_go then true
        else match r with
          | [] => false
          | t :: r2 =>
            if tgtL t.1 = false then false
            else if w.1 = w_set ∨ w.1 = w_drop then (match r2 with | [] => false | n :: _ => isName n.1) else true
theorem isTarget_eq (t : Txt) : isTarget t = tgtL t := by
  match t with
  | [] => simp [isTarget, tgtL, w_self]
  | [c] => simp [isTarget, tgtL, w_self]
  | c :: d :: r =>
    by_cases h : c = 35
    · subst h
      simp [isTarget, tgtL, w_self]
    · simp [isTarget, tgtL, h, w_self]
theorem isActL_len {w : Word} {r : List Word} {ks : List Kind} (hf : forms w.1 = some ks) (hl : ks.length + 1 ≠ (w :: r).length) : isActL (w :: r) = false := by
  simp only [isActL, hf, if_pos hl]
  split <;> rfl
theorem isAct_eq (ws : List Word) : isAct ws = isActL ws := by
  match ws with
  | [] => rfl
  | (k, q) :: r =>
    by_cases h : k = w_set ∨ k = w_drop ∨ k = w_add ∨ k = w_cut ∨ k = w_flip ∨ k = w_say ∨ k = w_take ∨ k = w_go ∨ k = w_focus ∨ k = w_stop ∨ k = w_leave
    · rcases h with h | h | h | h | h | h | h | h | h | h | h <;> subst h <;>
      match r with
      | [] => cases q <;> rfl
      | [(a, qa)] =>
        cases q <;> cases qa <;> simp [isAct, isActL, forms, allFit, fits, last2, isTarget_eq, w_set, w_drop, w_add, w_cut, w_flip, w_say, w_take, w_go, w_focus, w_stop, w_leave] <;> cases tgtL a <;> simp
      | [(a, qa), (b, qb)] =>
        cases q <;> cases qa <;> cases qb <;> simp [isAct, isActL, forms, allFit, fits, last2, isTarget_eq, w_set, w_drop, w_add, w_cut, w_flip, w_say, w_take, w_go, w_focus, w_stop, w_leave] <;> cases tgtL a <;> simp
      | [(a, qa), (b, qb), (c, qc)] =>
        cases q <;> cases qa <;> cases qb <;> cases qc <;> simp [isAct, isActL, forms, allFit, fits, last2, isTarget_eq, w_set, w_drop, w_add, w_cut, w_flip, w_say, w_take, w_go, w_focus, w_stop, w_leave] <;> cases tgtL a <;> simp
      | (a, qa) :: (b, qb) :: (c, qc) :: d :: r =>
        rw [isActL_len (by rfl) (by simp)]
        cases q <;> simp [isAct, forms, allFit, fits, w_set, w_drop, w_add, w_cut, w_flip, w_say, w_take, w_go, w_focus, w_stop, w_leave]
    · have hf : forms k = none := by
        simp only [not_or] at h
        obtain ⟨h1, h2, h3, h4, h5, h6, h7, h8, h9, h10, h11⟩ := h
        simp [forms, h1, h2, h3, h4, h5, h6, h7, h8, h9, h10, h11]
      simp [isAct, isActL, hf]

/-! ### made texts -/
def Bl (s : Txt) : Prop := ∀ c ∈ s, isBl c = true
def Pl (w : Txt) : Prop := (∃ c r, w = c :: r ∧ isEnd c = false ∧ c ≠ 39) ∧ ∀ c ∈ w, isEnd c = false
def Qu (w : Txt) : Prop := ∀ c ∈ w, c ≠ 39
theorem isEnd_ne {c : Nat} (h : isEnd c = false) : c ≠ 59 ∧ isBl c = false := by
  unfold isEnd at h
  unfold isBl
  simp only [Bool.or_eq_false_iff, beq_eq_false_iff_ne] at h
  exact ⟨h.2, by simp [h.1]⟩
theorem isBl_ne {c : Nat} (h : isBl c = true) : c ≠ 59 ∧ c ≠ 39 ∧ isEnd c = true := by
  refine ⟨?_, ?_, ?_⟩
  · rintro rfl
    exact absurd h (by decide)
  · rintro rfl
    exact absurd h (by decide)
  · unfold isBl at h
    unfold isEnd
    rw [h]
    rfl
theorem lrun_bl : ∀ {s : Txt}, Bl s → ∀ (ws : List Word) (sp : Bool) (rest : Txt), lrun ws sp .out (s ++ rest) = lrun ws sp .out rest
  | [], _, _, _, _ => rfl
  | c :: s, h, ws, sp, rest => by
    have hc := isBl_ne (h c List.mem_cons_self)
    show lrun ws sp .out (c :: (s ++ rest)) = _
    rw [lrun, if_neg hc.1, if_neg hc.2.1, if_pos (h c List.mem_cons_self)]
    exact lrun_bl (fun d hd => h d (List.mem_cons_of_mem _ hd)) ws sp rest
/-- a word as it stands, up to a blank or a ; -/
theorem lrun_wordEnd : ∀ {v : Txt}, (∀ c ∈ v, isEnd c = false) → ∀ (ws : List Word) (sp : Bool) (w : Txt) (e : Nat) (rest : Txt), isEnd e = true →
    lrun ws sp (.word w) (v ++ e :: rest) = lrun (ws ++ [(w ++ v, false)]) sp .out (e :: rest)
  | [], _, ws, sp, w, e, rest, he => by
    show lrun ws sp (.word w) (e :: rest) = lrun (ws ++ [(w ++ [], false)]) sp .out (e :: rest)
    rw [List.append_nil]
    by_cases h : e = 59
    · subst h
      rw [lrun, if_pos rfl, lrun, if_pos rfl]
    · have hb : isBl e = true := by
        unfold isEnd at he
        unfold isBl
        simpa [h] using he
      rw [lrun, if_neg h, if_pos hb, lrun, if_neg h, if_neg (isBl_ne hb).2.1, if_pos hb]
  | c :: v, hv, ws, sp, w, e, rest, he => by
    have hc := isEnd_ne (hv c List.mem_cons_self)
    show lrun ws sp (.word w) (c :: (v ++ e :: rest)) = _
    rw [lrun, if_neg hc.1, if_neg (by rw [hc.2]; decide), lrun_wordEnd (fun d hd => hv d (List.mem_cons_of_mem _ hd)) ws sp (w ++ [c]) e rest he, List.append_assoc]
    rfl
theorem lrun_quoteEnd : ∀ {v : Txt}, Qu v → ∀ (ws : List Word) (sp : Bool) (w : Txt) (rest : Txt), lrun ws sp (.quote w) (v ++ 39 :: rest) = lrun (ws ++ [(w ++ v, true)]) sp .closed rest
  | [], _, ws, sp, w, rest => by
    show lrun ws sp (.quote w) (39 :: rest) = _
    rw [lrun, if_pos rfl, List.append_nil]
  | c :: v, hv, ws, sp, w, rest => by
    show lrun ws sp (.quote w) (c :: (v ++ 39 :: rest)) = _
    rw [lrun, if_neg (hv c List.mem_cons_self), lrun_quoteEnd (fun d hd => hv d (List.mem_cons_of_mem _ hd)) ws sp (w ++ [c]) rest, List.append_assoc]
    rfl
theorem closed_end {ws : List Word} {sp : Bool} {e : Nat} {rest : Txt} (he : isEnd e = true) : lrun ws sp .closed (e :: rest) = lrun ws sp .out (e :: rest) := by
  by_cases h : e = 59
  · subst h
    rw [lrun, if_pos rfl, lrun, if_pos rfl]
  · have hb : isBl e = true := by
      unfold isEnd at he
      unfold isBl
      simpa [h] using he
    have h2 := (isBl_ne hb).2.1
    rw [lrun, if_neg h, if_neg h2, if_pos hb, lrun, if_neg h, if_neg h2, if_pos hb]
/-- what stands as a word gives these words, spoilt or not -/
def Shown (s : Txt) (toks : List Word) (sp : Bool) : Prop := ∀ (ws : List Word) (sp0 : Bool) (e : Nat) (rest : Txt), isEnd e = true →
  lrun ws sp0 .out (s ++ e :: rest) = lrun (ws ++ toks) (sp0 || sp) .out (e :: rest)
theorem shown_pl {w : Txt} (h : Pl w) : Shown w [(w, false)] false := by
  obtain ⟨⟨c, r, rfl, hc, h39⟩, ha⟩ := h
  intro ws sp0 e rest he
  have hc' := isEnd_ne hc
  show lrun ws sp0 .out (c :: (r ++ e :: rest)) = _
  rw [lrun, if_neg hc'.1, if_neg h39, if_neg (by rw [hc'.2]; decide), lrun_wordEnd (fun d hd => ha d (List.mem_cons_of_mem _ hd)) ws sp0 [c] e rest he, Bool.or_false]
  rfl
theorem lrun_qu {w : Txt} (h : Qu w) (ws : List Word) (sp : Bool) (rest : Txt) : lrun ws sp .out (39 :: (w ++ 39 :: rest)) = lrun (ws ++ [(w, true)]) sp .closed rest := by
  rw [lrun, if_neg (by decide), if_pos rfl, lrun_quoteEnd h ws sp [] rest]
  rfl
theorem shown_qu {w : Txt} (h : Qu w) : Shown (39 :: (w ++ [39])) [(w, true)] false := by
  intro ws sp0 e rest he
  show lrun ws sp0 .out (39 :: ((w ++ [39]) ++ e :: rest)) = _
  rw [List.append_assoc]
  show lrun ws sp0 .out (39 :: (w ++ 39 :: (e :: rest))) = _
  rw [lrun_qu h, closed_end he, Bool.or_false]
theorem closed_w {ws : List Word} {sp : Bool} {c : Nat} {r : Txt} (h : isEnd c = false) (h39 : c ≠ 39) : lrun ws sp .closed (c :: r) = lrun ws true (.word [c]) r := by
  have hc' := isEnd_ne h
  rw [lrun, if_neg hc'.1, if_neg h39, if_neg (by rw [hc'.2]; decide)]
theorem closed_q {ws : List Word} {sp : Bool} {r : Txt} : lrun ws sp .closed (39 :: r) = lrun ws true (.quote []) r := by
  rw [lrun, if_neg (by decide), if_pos rfl]
/-- a quoted word with signs behind its quote -/
theorem shown_qpl {w v : Txt} (h : Qu w) (hv : Pl v) : Shown (39 :: (w ++ 39 :: v)) [(w, true), (v, false)] true := by
  obtain ⟨⟨c, r, rfl, hc, h39⟩, ha⟩ := hv
  intro ws sp0 e rest he
  have hc' := isEnd_ne hc
  show lrun ws sp0 .out (39 :: ((w ++ 39 :: (c :: r)) ++ e :: rest)) = _
  rw [List.append_assoc]
  show lrun ws sp0 .out (39 :: (w ++ 39 :: (c :: (r ++ e :: rest)))) = _
  rw [lrun_qu h, closed_w hc h39, lrun_wordEnd (fun d hd => ha d (List.mem_cons_of_mem _ hd)) _ _ [c] e rest he, Bool.or_true, List.append_assoc]
  rfl
theorem shown_qq {w v : Txt} (h : Qu w) (hv : Qu v) : Shown (39 :: (w ++ 39 :: 39 :: (v ++ [39]))) [(w, true), (v, true)] true := by
  intro ws sp0 e rest he
  show lrun ws sp0 .out (39 :: ((w ++ 39 :: 39 :: (v ++ [39])) ++ e :: rest)) = _
  rw [List.append_assoc]
  show lrun ws sp0 .out (39 :: (w ++ 39 :: (39 :: ((v ++ [39]) ++ e :: rest)))) = _
  rw [lrun_qu h, closed_q, List.append_assoc]
  show lrun _ _ (.quote []) (v ++ 39 :: (e :: rest)) = _
  rw [lrun_quoteEnd hv, closed_end he, Bool.or_true, List.append_assoc]
  rfl
/-- a row of shown words gives these words -/
inductive RowR : List Txt → List Word → Bool → Prop where
  | nil : RowR [] [] false
  | cons {s : Txt} {t ts : List Word} {b bs : Bool} {ss : List Txt} : Shown s t b → RowR ss ts bs → RowR (s :: ss) (t ++ ts) (b || bs)
/-- a text so far, up to a blank or a ; -/
def Pre (x : Txt) (toks : List Word) (sp : Bool) : Prop := ∀ (e : Nat) (rest : Txt), isEnd e = true → lrun [] false .out (x ++ e :: rest) = lrun toks sp .out (e :: rest)
theorem pre_bl {x : Txt} (h : Bl x) : Pre x [] false := fun e rest _ => lrun_bl h [] false _
theorem pre_first {x s : Txt} {t : List Word} {b : Bool} (h : Bl x) (hs : Shown s t b) : Pre (x ++ s) t b := fun e rest he => by
  rw [List.append_assoc, lrun_bl h, hs [] false e rest he, List.nil_append, Bool.false_or]
theorem pre_next {x g s : Txt} {toks t : List Word} {sp b : Bool} (hx : Pre x toks sp) (hg : Bl g) (hn : g ≠ []) (hs : Shown s t b) : Pre (x ++ g ++ s) (toks ++ t) (sp || b) := fun e rest he => by
  cases g with
  | nil => exact absurd rfl hn
  | cons c g =>
    rw [List.append_assoc, List.append_assoc]
    show lrun [] false .out (x ++ c :: (g ++ (s ++ e :: rest))) = _
    rw [hx c _ (isBl_ne (hg c List.mem_cons_self)).2.2]
    show lrun toks sp .out ((c :: g) ++ (s ++ e :: rest)) = _
    rw [lrun_bl hg, hs toks sp e rest he]
/-- a part of a handler -/
def PartIs (p : Txt) (r : List Word × Bool) : Prop := ∀ rest : Txt, lrun [] false .out (p ++ 59 :: rest) = r :: lrun [] false .out rest
theorem part_of {x g : Txt} {toks : List Word} {sp : Bool} (hx : Pre x toks sp) (hg : Bl g) : PartIs (x ++ g) (toks, sp) := fun rest => by
  rw [List.append_assoc]
  cases g with
  | nil =>
    show lrun [] false .out (x ++ 59 :: rest) = _
    rw [hx 59 rest rfl, lrun, if_pos rfl]
  | cons c g =>
    show lrun [] false .out (x ++ c :: (g ++ 59 :: rest)) = _
    rw [hx c _ (isBl_ne (hg c List.mem_cons_self)).2.2]
    show lrun toks sp .out ((c :: g) ++ 59 :: rest) = _
    rw [lrun_bl hg, lrun, if_pos rfl]
/-- parts with ; between them -/
def joinS : List Txt → Txt
  | [] => []
  | [p] => p
  | p :: q :: r => p ++ 59 :: joinS (q :: r)
inductive PartsR : List Txt → List (List Word × Bool) → Prop where
  | nil : PartsR [] []
  | cons {p : Txt} {r : List Word × Bool} {ps : List Txt} {rs : List (List Word × Bool)} : PartIs p r → PartsR ps rs → PartsR (p :: ps) (r :: rs)
theorem PartsR.snoc {ps : List Txt} {rs : List (List Word × Bool)} {p : Txt} {r : List Word × Bool} (h : PartsR ps rs) (hp : PartIs p r) : PartsR (ps ++ [p]) (rs ++ [r]) := by
  induction h with
  | nil => exact .cons hp .nil
  | cons a _ ih => exact .cons a ih
theorem join_run {ps : List Txt} {rs : List (List Word × Bool)} (h : PartsR ps rs) : ps ≠ [] → lrun [] false .out (joinS ps ++ [59]) = rs := by
  induction h with
  | nil => exact fun z => absurd rfl z
  | @cons p r ps rs a b ih =>
    intro _
    cases ps with
    | nil =>
      cases b
      show lrun [] false .out (p ++ 59 :: []) = _
      rw [a [], lrun]
    | cons q ps =>
      show lrun [] false .out ((p ++ 59 :: joinS (q :: ps)) ++ [59]) = _
      rw [List.append_assoc]
      show lrun [] false .out (p ++ 59 :: (joinS (q :: ps) ++ [59])) = _
      rw [a, ih (by intro z; cases z)]
theorem join_tail {ps : List Txt} {rs rt : List (List Word × Bool)} {t : Txt} (h : PartsR ps rs) (ht : lrun [] false .out (t ++ [59]) = rt) : lrun [] false .out (joinS (ps ++ [t]) ++ [59]) = rs ++ rt := by
  induction h with
  | nil => exact ht
  | @cons p r ps rs a b ih =>
    have e : joinS (p :: ps ++ [t]) = p ++ 59 :: joinS (ps ++ [t]) := by
      cases ps <;> rfl
    rw [e, List.append_assoc]
    show lrun [] false .out (p ++ 59 :: (joinS (ps ++ [t]) ++ [59])) = _
    rw [a, ih]
    rfl
theorem actsL_nil : actsL [] = [] := by decide
theorem made_plain {ps : List Txt} {rs : List (List Word × Bool)} (h : PartsR ps rs) : actsL (joinS ps) = rs.filterMap actL := by
  cases ps with
  | nil =>
    cases h
    exact actsL_nil
  | cons p ps =>
    unfold actsL
    rw [join_run h (by intro z; cases z)]
theorem made_tail {ps : List Txt} {rs rt : List (List Word × Bool)} {t : Txt} (h : PartsR ps rs) (ht : lrun [] false .out (t ++ [59]) = rt) : actsL (joinS (ps ++ [t])) = rs.filterMap actL ++ rt.filterMap actL := by
  unfold actsL
  rw [join_tail h ht, List.filterMap_append]
end M78

/-! ### the common ground -/
namespace KB
open PySem PySem.Spec PyProof.Rows L2
abbrev S (l : List Nat) : Str := ⟨l.toArray⟩
theorem cx_K {CX : CXT} {P : Program} {w : World} {K : PySem.W.Frag} {mg : Str → Option Value} {base : Heap} {N : List Str} {qual : Str} {scope : Scope} {f : Addr} {cd : Value} {A : Around} {outer : List Env} {s : Shared} {H : Hp} {E : XK} :
    (cxOf CX P w K mg base N qual scope f cd A outer s H E).K = K := rfl
theorem cx_w {CX : CXT} {P : Program} {w : World} {K : PySem.W.Frag} {mg : Str → Option Value} {base : Heap} {N : List Str} {qual : Str} {scope : Scope} {f : Addr} {cd : Value} {A : Around} {outer : List Env} {s : Shared} {H : Hp} {E : XK} :
    (cxOf CX P w K mg base N qual scope f cd A outer s H E).w = w := rfl
theorem qb {Q : VK} {H : Hp} {a b : Bool} (h : Q (.bl a) H) (e : b = a) : Q (.bl b) H := e ▸ h
theorem S_len (l : List Nat) : (S l).length = l.length := id rfl
theorem S_cps (l : List Nat) : (S l).cps.toList = l := id rfl
theorem S_inj {a b : List Nat} : S a = S b ↔ a = b := by
  constructor
  · intro h
    exact congrArg (fun s : Str => s.cps.toList) h
  · rintro rfl
    rfl
theorem S_app (a b : List Nat) : S a ++ S b = S (a ++ b) := by
  show (⟨a.toArray ++ b.toArray⟩ : Str) = ⟨(a ++ b).toArray⟩
  simp
theorem scal_ii {i j : Int} : scal (.int i) (.int j) = true := id rfl
theorem scal_ss {i j : Str} : scal (.str i) (.str j) = true := id rfl
theorem scal_bb {i j : Bool} : scal (.bl i) (.bl j) = true := id rfl
theorem scal_nn : scal .non .non = true := id rfl
theorem scal_is {i : Int} {j : Str} : scal (.int i) (.str j) = true := id rfl
theorem scal_si {i : Int} {j : Str} : scal (.str j) (.int i) = true := id rfl
theorem sz5 {n : Nat} (h : n ≤ 1000000) : n ≤ sizeLine := Nat.le_trans h (by decide)
theorem sz5' {n : Nat} (h : n ≤ 1000000) : n < sizeLine := Nat.lt_of_le_of_lt h (by decide)
theorem at_nat {α : Type} {l : List α} {i : Nat} {x : α} (h : l[i]? = some x) : atI l (i : Int) = some x := atI_nat h
/-- a def of the top that keeps a promise -/
def Ok (P : Program) (w : World) (K : PySem.W.Frag) (mg : Str → Option Value) (base : Heap) (CX : CXT) (k : Nat) (x : Str) (ps : List Str) (sp : Sp) : Prop :=
  ∃ f fd, mg x = some (.ref f) ∧ PySem.W.keepIn K (.ref f) = true ∧ Binds K fd ps [] ∧ FnOk P w K mg base CX k f fd ps sp
/-- a def of the top as it stands -/
def At (K : PySem.W.Frag) (mg : Str → Option Value) (x : Str) (st : Stmt) (ps : List Str) : Prop :=
  ∃ f fd, mg x = some (.ref f) ∧ Fun K x x st f fd ∧ Binds K fd ps []
section
variable {P : Program} {w : World} {K : PySem.W.Frag} {mg : Str → Option Value} {base : Heap}
theorem pcall {X : Cx} {CX : CXT} {k : Nat} {ps : List Str} {sp : Sp} {E : XK} {x : Str} {p pos : Pos} {e : Expr} {es : List Expr} {t : TA}
    (F : Ok X.prog X.w X.K X.mg X.base CX k x ps sp) (hr : Room k X.A) (hg : Gl X x) (hx : Passes CX X E)
    (ha : PA X (e :: es) t) (hdb : (x == ("__debug__" : Str)) = false := by decide) (he : starEach (e :: es) X.env = (false, eval e X.env) :: starEach es X.env := by rfl) (hpl : (backTo pos (starEach es X.env)).any (·.1) = false := by rfl) :
    PE X (.Call (.Name x p) (e :: es) [] pos) (tCall sp [] E t) := by
  obtain ⟨f, fd, hm, hk, hb, F⟩ := F
  exact pe_call F hr hg hm hk hb .nil hx ha hdb he hpl
theorem mkOk {x : Str} {st : Stmt} {N ps : List Str} {k : Nat} {sp : Sp} (F : At K mg x st ps) (S : FnScope N ps (defScope st)) (len : ∀ vs H Q E, sp vs H Q E → vs.length = ps.length)
    (hbody : ∀ (f : Addr) (cdv : Value) (A : Around) (outer : List Env) (s : Shared) (H : Hp) (vs : List V) (Q : VK) (E : XK), Room k (A.deeper (envOfC x (defScope st) s.heap.objs.size f cdv)) → sp vs H Q E →
      ∃ t, PSs (cxOf CX0 P w K mg base N x (defScope st) f cdv A outer s H E).nox (defBody st) t ∧ t { nx := fun _ H' => Q .non H', rt := Q } (L2.start N vs) H) : Ok P w K mg base CX0 (k + 1) x ps sp := by
  obtain ⟨f, fd, hm, F, hb⟩ := F
  exact ⟨f, fd, hm, F.kp, hb, F.ok S len fun cdv A outer s H vs Q E hr h => hbody f cdv A outer s H vs Q E hr h⟩
theorem Ok.up {x : Str} {ps : List Str} {sp : Sp} {CX : CXT} {j k : Nat} (F : Ok P w K mg base CX j x ps sp) (h : j ≤ k) : Ok P w K mg base CX k x ps sp := by
  obtain ⟨f, fd, hm, hk, hb, F⟩ := F
  exact ⟨f, fd, hm, hk, hb, F.mono h⟩
end
/-! ### heaps -/
theorem _root_.L2.Same.new {H : Hp} {p : Addr} {o : HO} (h : H p = none) : Same H (upd H p o) := fun b x e => by
  rw [upd_ne (ne_of_none e h)]
  exact e
/-- without these addresses -/
def hide (l : List Addr) (H : Hp) : Hp := fun b => if b ∈ l then none else H b
theorem hide_out {l : List Addr} {H : Hp} {b : Addr} (h : b ∉ l) : hide l H b = H b := by
  unfold hide
  rw [if_neg h]
theorem hide_some {l : List Addr} {H : Hp} {b : Addr} {o : HO} : hide l H b = some o ↔ b ∉ l ∧ H b = some o := by
  unfold hide
  by_cases h : b ∈ l
  · simp [h]
  · simp [h]
theorem hide_sub {l : List Addr} {H : Hp} : Same (hide l H) H := fun _ _ h => (hide_some.mp h).2
theorem _root_.L2.Same.hide {l : List Addr} {H H' : Hp} (h : Same H H') : Same (KB.hide l H) (KB.hide l H') := fun b o e => by
  obtain ⟨h1, h2⟩ := hide_some.mp e
  exact hide_some.mpr ⟨h1, h b o h2⟩
/-- what has come since H0 -/
def since (H0 H : Hp) : Hp := fun b => match H0 b with | none => H b | some _ => none
theorem since_some {H0 H : Hp} {b : Addr} {o : HO} : since H0 H b = some o ↔ H0 b = none ∧ H b = some o := by
  unfold since
  cases e : H0 b with
  | none => simp
  | some x => simp
theorem since_sub {H0 H : Hp} : Same (since H0 H) H := fun _ _ h => (since_some.mp h).2
/-- all but what stands at P is as it was -/
def Kp (P : Addr) (H H' : Hp) : Prop := ∀ b o, b ≠ P → H b = some o → H' b = some o
theorem Kp.refl {P : Addr} {H : Hp} : Kp P H H := fun _ _ _ h => h
theorem Kp.trans {P : Addr} {H H1 H2 : Hp} (a : Kp P H H1) (b : Kp P H1 H2) : Kp P H H2 := fun c o n h => b c o n (a c o n h)
theorem _root_.L2.Same.kp {P : Addr} {H H' : Hp} (h : Same H H') : Kp P H H' := fun b o _ e => h b o e
/-- the store at an address that H0 did not know -/
theorem Kp.mut {P p : Addr} {H0 H : Hp} {o : HO} (h : Kp P H0 H) (hp : H0 p = none) : Kp P H0 (upd H p o) := fun b x n e => by
  rw [upd_ne (ne_of_none e hp)]
  exact h b x n e
theorem Kp.at {P : Addr} {H : Hp} {o : HO} : Kp P H (upd H P o) := fun b x n e => by
  rw [upd_ne n]
  exact e
theorem _root_.L2.Same.mut {p : Addr} {H0 H : Hp} {o : HO} (h : Same H0 H) (hp : H0 p = none) : Same H0 (upd H p o) := fun b x e => by
  rw [upd_ne (ne_of_none e hp)]
  exact h b x e
theorem Kp.free {P p : Addr} {H0 H : Hp} (h : Kp P H0 H) (hP : H P ≠ none) (hp : H p = none) : H0 p = none := by
  cases e : H0 p with
  | none => rfl
  | some o =>
    by_cases n : p = P
    · subst n
      exact absurd hp hP
    · rw [h p o n e] at hp
      cases hp
/-! ### the law's pool of numbers -/
def PoolAt (P : Addr) (H : Hp) : Prop := ∃ (p : Nat) (r : List Int), H P = some (.lst (V.int (p : Int) :: r.map V.int)) ∧ 1 ≤ p ∧ p ≤ r.length ∧ r.length ≤ 5000
theorem PoolAt.ne {P : Addr} {H : Hp} (h : PoolAt P H) : H P ≠ none := by
  obtain ⟨p, r, e, _⟩ := h
  rw [e]
  exact fun z => nomatch z
/-- from H0 on just the pool at P has moved; other things have come -/
structure Pst (P : Addr) (H0 H : Hp) : Prop where
  kp : Kp P H0 H
  pool : PoolAt P H
theorem Pst.refl {P : Addr} {H : Hp} (h : PoolAt P H) : Pst P H H := ⟨Kp.refl, h⟩
theorem Pst.trans {P : Addr} {H H1 H2 : Hp} (a : Pst P H H1) (b : Pst P H1 H2) : Pst P H H2 := ⟨a.kp.trans b.kp, b.pool⟩
theorem Pst.free {P p : Addr} {H0 H : Hp} (h : Pst P H0 H) (hp : H p = none) : H0 p = none := h.kp.free h.pool.ne hp
theorem Pst.ne {P p : Addr} {H0 H : Hp} (h : Pst P H0 H) (hp : H p = none) : p ≠ P := fun e => by
  subst e
  exact h.pool.ne hp
theorem PoolAt.upd {P p : Addr} {H : Hp} {o : HO} (h : PoolAt P H) (n : p ≠ P) : PoolAt P (L2.upd H p o) := by
  obtain ⟨q, r, e, h⟩ := h
  exact ⟨q, r, by rw [upd_ne (Ne.symm n)]; exact e, h⟩
/-- a new thing -/
theorem Pst.new {P p : Addr} {H0 H : Hp} {o : HO} (h : Pst P H0 H) (hp : H p = none) : Pst P H0 (upd H p o) := ⟨h.kp.mut (h.free hp), h.pool.upd (h.ne hp)⟩
/-- a store at a thing that came since -/
theorem Pst.mut {P p : Addr} {H0 H : Hp} {o : HO} (h : Pst P H0 H) (hp : H0 p = none) (n : p ≠ P) : Pst P H0 (upd H p o) := ⟨h.kp.mut hp, h.pool.upd n⟩
theorem Pst.same {P : Addr} {H0 H H1 : Hp} (h : Pst P H0 H) (s : Same H H1) : Pst P H0 H1 := ⟨h.kp.trans s.kp, by
  obtain ⟨p, r, e, q⟩ := h.pool
  exact ⟨p, r, s _ _ e, q⟩⟩
/-- what came since, is as it was -/
theorem Pst.since {P : Addr} {H0 H H1 : Hp} (h0 : H0 P ≠ none) (h : Pst P H H1) : Same (KB.since H0 H) (KB.since H0 H1) := fun b o e => by
  obtain ⟨e1, e2⟩ := since_some.mp e
  refine since_some.mpr ⟨e1, h.kp b o (fun z => ?_) e2⟩
  subst z
  exact h0 e1
theorem Pst.since2 {P : Addr} {H0 H H1 : Hp} (h : Pst P H0 H) : Same (KB.since H H1) (KB.since H0 H1) := fun b o e => by
  obtain ⟨e1, e2⟩ := since_some.mp e
  exact since_some.mpr ⟨h.free e1, e2⟩
/-! ### data -/
inductive D where
  | non | bl (b : Bool) | int (i : Int) | str (l : List Nat) | tup (ds : List D) | lst (ds : List D)
mutual
def Rep (G : Hp) : D → V → Prop
  | .non, v => v = .non
  | .bl b, v => v = .bl b
  | .int i, v => v = .int i
  | .str l, v => v = .str (S l)
  | .tup ds, v => ∃ a xs, v = .ref a ∧ G a = some (.tup xs) ∧ Reps G ds xs
  | .lst ds, v => ∃ a xs, v = .ref a ∧ G a = some (.lst xs) ∧ Reps G ds xs
def Reps (G : Hp) : List D → List V → Prop
  | [], xs => xs = []
  | d :: ds, xs => ∃ x r, xs = x :: r ∧ Rep G d x ∧ Reps G ds r
end
mutual
theorem Rep.mono {G G' : Hp} (h : Same G G') : ∀ {d : D} {v : V}, Rep G d v → Rep G' d v
  | .non, _, e => e
  | .bl _, _, e => e
  | .int _, _, e => e
  | .str _, _, e => e
  | .tup _, _, ⟨a, xs, e, e2, r⟩ => ⟨a, xs, e, h _ _ e2, Reps.mono h r⟩
  | .lst _, _, ⟨a, xs, e, e2, r⟩ => ⟨a, xs, e, h _ _ e2, Reps.mono h r⟩
theorem Reps.mono {G G' : Hp} (h : Same G G') : ∀ {ds : List D} {xs : List V}, Reps G ds xs → Reps G' ds xs
  | [], _, e => e
  | _ :: _, _, ⟨x, r, e, e1, e2⟩ => ⟨x, r, e, Rep.mono h e1, Reps.mono h e2⟩
end
theorem Reps.length {G : Hp} : ∀ {ds : List D} {xs : List V}, Reps G ds xs → xs.length = ds.length
  | [], _, e => by
    have e : _ = [] := e
    rw [e]
    rfl
  | _ :: _, _, ⟨x, r, e, _, e2⟩ => by
    rw [e, List.length_cons, List.length_cons, Reps.length e2]
theorem Reps.get {G : Hp} : ∀ {ds : List D} {xs : List V} {i : Nat} {x : V}, Reps G ds xs → xs[i]? = some x → ∃ d, ds[i]? = some d ∧ Rep G d x
  | [], _, i, x, e, h => by
    have e : _ = [] := e
    rw [e] at h
    cases h
  | d :: _, _, 0, x, ⟨y, r, e, e1, _⟩, h => by
    rw [e] at h
    have h : y = x := Option.some.inj h
    exact ⟨d, rfl, h ▸ e1⟩
  | d :: ds, _, i + 1, x, ⟨y, r, e, _, e2⟩, h => by
    rw [e] at h
    exact Reps.get (i := i) e2 h
theorem Reps.snoc {G : Hp} : ∀ {ds : List D} {xs : List V} {d : D} {x : V}, Reps G ds xs → Rep G d x → Reps G (ds ++ [d]) (xs ++ [x])
  | [], _, d, x, e, h => by
    have e : _ = [] := e
    rw [e]
    exact ⟨x, [], rfl, h, rfl⟩
  | _ :: _, _, d, x, ⟨y, r, e, e1, e2⟩, h => by
    rw [e]
    exact ⟨y, r ++ [x], rfl, e1, Reps.snoc e2 h⟩
theorem Reps.append {G : Hp} : ∀ {ds es : List D} {xs ys : List V}, Reps G ds xs → Reps G es ys → Reps G (ds ++ es) (xs ++ ys)
  | [], _, _, _, e, h => by
    have e : _ = [] := e
    rw [e]
    exact h
  | _ :: _, _, _, _, ⟨y, r, e, e1, e2⟩, h => by
    rw [e]
    exact ⟨y, r ++ _, rfl, e1, Reps.append e2 h⟩
theorem reps_strs {G : Hp} : ∀ {ls : List (List Nat)}, Reps G (ls.map .str) (ls.map fun l => V.str (S l))
  | [] => rfl
  | _ :: _ => ⟨_, _, rfl, rfl, reps_strs⟩
theorem of_reps_strs {G : Hp} : ∀ {ls : List (List Nat)} {xs : List V}, Reps G (ls.map .str) xs → xs = ls.map fun l => V.str (S l)
  | [], _, e => e
  | _ :: _, _, ⟨x, r, e, e1, e2⟩ => by
    have e1 : x = _ := e1
    rw [e, e1, of_reps_strs e2]
    rfl
end KB
namespace KB
open PySem PySem.Spec PyProof.Rows L2
section
variable {K : PySem.W.Frag}
theorem isi {x : V} {H : Hp} {Q : VK} {n m : String} {b : Bool} (h : TyOf K H x (.type m)) (k : PySem.W.kitOne K (.type m) (.type n) = some b) (q : Q (.bl b) H) : rIsi K [x, .ty n] H Q :=
  ⟨x, .ty n, .type m, .type n, b, rfl, .ty n, .base h, k, q⟩
end
end KB
namespace KB
open PySem PySem.Spec PyProof.Rows L2
def rIntI (xs : List V) (H : Hp) (Q : VK) : Prop := ∃ i, xs = [.int i] ∧ Q (.int i) H
def rIntB (xs : List V) (H : Hp) (Q : VK) : Prop := ∃ k, xs = [.bl k] ∧ Q (.int (if k then 1 else 0)) H
theorem call_intI {X : Cx} : CallR X (.type "int") rIntI := fun pins s σ H xs us Q I r h => call_int1 pins s σ H xs us Q I r (.inl h)
theorem call_intB {X : Cx} : CallR X (.type "int") rIntB := fun pins s σ H xs us Q I r h => call_int1 pins s σ H xs us Q I r (.inr h)
theorem ixN_in {n j : Nat} (h : j < n) : ixN n (j : Int) = some j := by
  unfold ixN
  rw [if_pos (by omega), if_pos (by omega)]
  simp
end KB
namespace KB
open PySem PySem.Spec PyProof.Rows L2
/-- a list compared with an empty one -/
def rEqE (K : PySem.W.Frag) : R2 := fun x y H Q => ∃ a b xs, x = .ref a ∧ y = .ref b ∧ SqL K H a xs ∧ SqL K H b [] ∧ Q (.bl xs.isEmpty) H
def rNeE (K : PySem.W.Frag) : R2 := fun x y H Q => ∃ a b xs, x = .ref a ∧ y = .ref b ∧ SqL K H a xs ∧ SqL K H b [] ∧ Q (.bl (!xs.isEmpty)) H
theorem op_eqE {X : Cx} (hu : X.A.units < cLine) : OpR X (compareOp .Eq) (rEqE X.K) := by
  intro pins s σ H x y v u Q I rx ry h
  obtain ⟨a, b, xs, rfl, rfl, ha, hb, q⟩ := h
  cases rx
  cases ry
  obtain ⟨its, rv, p, _⟩ := I.list ha
  obtain ⟨its2, rv2, p2, _⟩ := I.list hb
  cases rv2
  cases xs with
  | nil =>
    cases rv
    exact SeqAt.eq_listAt (e := fun _ => true) p.isList p2.isList rfl hu (fun j h1 => absurd h1 (Nat.not_lt_zero j)) ⟨.bl true, H, I, rfl, q⟩
  | cons x xs =>
    have hl := rv.length
    refine SeqAt.eq_list_lengthsAt p.isList p2.isList ?_ hu ⟨.bl false, H, I, rfl, q⟩
    rw [List.length_cons] at hl
    have hz : its.toArray.size ≠ ([] : List Value).toArray.size := by
      rw [List.size_toArray, ← hl]
      exact Nat.succ_ne_zero _
    exact bne_iff_ne.mpr hz
theorem op_neE {X : Cx} (hu : X.A.units < cLine) : OpR X (compareOp .NotEq) (rNeE X.K) := by
  intro pins s σ H x y v u Q I rx ry h
  obtain ⟨a, b, xs, rfl, rfl, ha, hb, q⟩ := h
  cases rx
  cases ry
  obtain ⟨its, rv, p, _⟩ := I.list ha
  obtain ⟨its2, rv2, p2, _⟩ := I.list hb
  cases rv2
  cases xs with
  | nil =>
    cases rv
    exact SeqAt.RcNeAt.lists (e := fun _ => true) p.isList p2.isList rfl hu (fun j h1 => absurd h1 (Nat.not_lt_zero j)) _ _ _ _ ⟨.bl false, H, I, rfl, q⟩
  | cons x xs =>
    have hl := rv.length
    refine SeqAt.RcNeAt.lists_lengths p.isList p2.isList ?_ hu _ _ _ _ ⟨.bl true, H, I, rfl, q⟩
    rw [List.length_cons] at hl
    have hz : its.toArray.size ≠ ([] : List Value).toArray.size := by
      rw [List.size_toArray, ← hl]
      exact Nat.succ_ne_zero _
    exact bne_iff_ne.mpr hz
end KB
namespace KB
open PySem PySem.Spec PyProof.Rows L2
section
variable {X : Cx} {K : PySem.W.Frag}
theorem ix_listK (h : X.K = K) : IxR X (rIxL K) := h ▸ ix_list
theorem ix_tupK (h : X.K = K) : IxR X (rIxT K) := h ▸ ix_tup
theorem ix_seqK (h : X.K = K) : IxR X (rIx K) := h ▸ ix_seq
theorem sl_listK (h : X.K = K) : SlR X (rSlL K) := h ▸ sl_list
def rLenS (K : PySem.W.Frag) (xs : List V) (H : Hp) (Q : VK) : Prop := ∃ p ys, xs = [.ref p] ∧ (SqL K H p ys ∨ SqT K H p ys) ∧ Q (.int (ys.length : Nat)) H
theorem call_len_seqK (h : X.K = K) : CallR X (.builtin "len") (rLenS K) := h ▸ call_len_seq
theorem call_isiK' (h : X.K = K) : CallR X (.builtin "isinstance") (rIsi K) := h ▸ call_isi
theorem op_in_seqK (h : X.K = K) : OpR X (compareOp .In) (rIn K false) := h ▸ op_in_seq
theorem op_notIn_seqK (h : X.K = K) : OpR X (compareOp .NotIn) (rIn K true) := h ▸ op_notIn_seq
theorem pg_tupK {es : List Expr} {k : Nat} {t : TGs} {n : Nat} {pos : Pos} (hK : X.K = K) (hc : X.calm = true) (h : PGs X es t)
    (hn : (assignEach es X.env).length = n := by rfl) (hst : (assignEach es X.env).findIdx? (·.1) = none := by rfl) : PG X (.Tuple es k pos) (gTup K n t) := hK ▸ pg_tup hc h hn hst
theorem pi_listK {tg l : Expr} {tl : TE} (h : X.K = K) (hl : PE X l tl) : PI X tg l (iList K tl) := h ▸ pi_list hl
end
end KB

/-! ### zip of a tuple and a list -/
namespace KB
open PySem PySem.Spec PyProof.Rows L2
def ItzM (K : PySem.W.Frag) (a b : Addr) : It where
  go i H := ∃ xs ys x y, SqT K H a xs ∧ SqL K H b ys ∧ xs[i]? = some x ∧ ys[i]? = some y
  yld i H v H' := ∃ T x y, v = .ref T ∧ H T = none ∧ H' = upd H T (.tup [x, y]) ∧ (∀ xs, SqT K H a xs → xs[i]? = some x) ∧ ∀ ys, SqL K H b ys → ys[i]? = some y
  stop i H := ∃ xs ys, SqT K H a xs ∧ SqL K H b ys ∧ i = min xs.length ys.length
/-- where the five cells of the zip stand at turn i -/
def ZipTn (a b z TI TO i1 i2 : Addr) (i : Nat) (h : Heap) : Prop :=
  IsZip h z TI TO .none ∧ IsTupOf2 h TI (.ref i1) (.ref i2) ∧ (∃ c d, IsTupOf2 h TO c d) ∧ h.IsTupleIter i1 a i ∧ h.IsListIter i2 b i
theorem five {z TI TO i1 i2 c : Addr} {φ : Addr → Prop} (h : c ∈ [z, TI, TO, i1, i2]) (h1 : φ z) (h2 : φ TI) (h3 : φ TO) (h4 : φ i1) (h5 : φ i2) : φ c := by
  simp only [List.mem_cons, List.not_mem_nil, or_false] at h
  rcases h with e | e | e | e | e <;> (rw [e]; assumption)
theorem turn_zipM {P : Program} {w : World} {K : PySem.W.Frag} {elts : List Expr} {kk : Nat} {tpos : Pos} {a b z TI TO i1 i2 : Addr} (S : ZipSep2 z TI TO i1 i2 [i1, a] [i2, b]) (ha : a ≠ i1) (hb : b ≠ i2) :
    Turn P w K (.Tuple elts kk tpos) (ItzM K a b) [z, TI, TO, i1, i2] z (ZipTn a b z TI TO i1 i2) where
  mem := List.mem_cons_self
  obj i h st c hc := by
    obtain ⟨hz, hTI, ⟨x, y, hTO⟩, ⟨o1, e1, _, d1⟩, ⟨o2, e2, _, d2⟩⟩ := st
    refine five (φ := fun c => ∃ o, h.get? c = some o ∧ ∀ v, o.data ≠ .cell v) hc ⟨_, hz, nofun⟩ ⟨_, hTI, nofun⟩ ⟨_, hTO, nofun⟩ ⟨o1, e1, fun v q => ?_⟩ ⟨o2, e2, fun v q => ?_⟩
    · rw [d1] at q
      cases q
    · rw [d2] at q
      cases q
  keep i h h' st k := by
    obtain ⟨hz, hTI, ⟨x, y, hTO⟩, h1, h2⟩ := st
    have k' : ∀ c, c ∈ [z, TI, TO, i1, i2] → ∀ o, h.get? c = some o → h'.get? c = some o := k
    exact ⟨k' z (by simp) _ hz, k' TI (by simp) _ hTI, ⟨x, y, k' TO (by simp) _ hTO⟩, h1.at (k' i1 (by simp)), h2.at (k' i2 (by simp))⟩
  item := by
    intro X hP hw hK hc i pins s σ H E I hf st hg
    subst hP hw hK
    obtain ⟨hz, hTI, hTO, h1, h2⟩ := st
    obtain ⟨xs, ys, x, y, hqx, hqy, hx, hy⟩ := hg
    obtain ⟨its, rv, p, _⟩ := I.tuple hqx
    obtain ⟨its2, rv2, p2, _⟩ := I.list hqy
    obtain ⟨u, hu, ru⟩ := rv.get hx
    obtain ⟨u2, hu2, ru2⟩ := rv2.get hy
    have hh : X.A.in1.handled = none := I.ok.hd hc
    have hlt : i < min its.toArray.size its2.toArray.size := by
      have q1 := (List.getElem?_eq_some_iff.mp hu).1
      have q2 := (List.getElem?_eq_some_iff.mp hu2).1
      rw [List.size_toArray, List.size_toArray]
      omega
    have W := WalksT.zipD2 (prog := X.prog) (w := X.w) (A := X.A) S (Draws.tuple hh i1 a ha its.toArray) (Draws.list hh i2 b hb its2.toArray)
    refine W.item i s _ E hlt ⟨hz, hTI, hTO, ⟨h1, p⟩, ⟨h2, p2.isList⟩⟩ fun T vals h' tk hP hsz hT hm hk => ⟨.ref T, rfl, W.go elts kk tpos i T _ _ E hm fun h'' st'' hk'' => ?_⟩
    obtain ⟨x1, x2, e1, e2, ev⟩ := hP
    have e1 : its.toArray[i]? = some x1 := e1
    have e2 : its2.toArray[i]? = some x2 := e2
    have e1' : x1 = u := by
      rw [List.getElem?_toArray, hu] at e1
      exact (Option.some.inj e1).symm
    have e2' : x2 = u2 := by
      rw [List.getElem?_toArray, hu2] at e2
      exact (Option.some.inj e2).symm
    rw [e1', e2'] at ev
    rw [ev] at hT
    have hTn := W.apart i T h' hm
    have hT2 : h''.IsTuple T #[u, u2] := hT.at fun o q => hk'' T o hTn q
    have new : ObjOk X.prog X.w (upd H T (.tup [x, y])) h'' T (.tup [x, y]) := ⟨sz5 (by simp), [u, u2], .cons ru (.cons ru2 .nil), hT2⟩
    have sub : ∀ c, c ∈ [z, TO, i1, i2] → c ∈ [z, TI, TO, i1, i2] := fun c hc => by
      simp only [List.mem_cons, List.not_mem_nil, or_false] at hc ⊢
      rcases hc with q | q | q | q <;> simp [q]
    have I2 : Inv X pins σ (upd H T (.tup [x, y])) { s with heap := h'', toks := tk } :=
      I.turnedNew (ch := [z, TO, i1, i2]) (fun c o hb q => hk'' c o hb (hk c o hb q)) (fun c hc => hf c (sub c hc)) hsz new
    obtain ⟨g1, g2, g3, g4, g5⟩ := st''
    refine ⟨.ref T, _, I2, rfl, ⟨T, x, y, rfl, I.hok.fresh hsz, rfl, fun l hl => ?_, fun l hl => ?_⟩, ⟨g1, g2, g3, g4.1, g5.1⟩, fun c hcm => ?_⟩
    · rw [I.tuple_inj hl hqx]
      exact hx
    · rw [I.list_inj hl hqy]
      exact hy
    · have hcl : c < s.heap.objs.size := by
        obtain ⟨x, y, hTO⟩ := hTO
        obtain ⟨_, q1, _⟩ := h1
        obtain ⟨_, q2, _⟩ := h2
        exact five (φ := fun c => c < s.heap.objs.size) hcm (Heap.lt_size hz) (Heap.lt_size hTI) (Heap.lt_size hTO) (Heap.lt_size q1) (Heap.lt_size q2)
      rw [upd_ne (Nat.ne_of_lt (Nat.lt_of_lt_of_le hcl hsz))]
      exact (hf c hcm).1
  done := by
    intro X hP hw hK hc i pins s σ H E I hf st hg
    subst hP hw hK
    obtain ⟨hz, hTI, hTO, h1, h2⟩ := st
    obtain ⟨xs, ys, hqx, hqy, hi⟩ := hg
    obtain ⟨its, rv, p, _⟩ := I.tuple hqx
    obtain ⟨its2, rv2, p2, _⟩ := I.list hqy
    have hh : X.A.in1.handled = none := I.ok.hd hc
    have W := WalksT.zipD2 (prog := X.prog) (w := X.w) (A := X.A) S (Draws.tuple hh i1 a ha its.toArray) (Draws.list hh i2 b hb its2.toArray)
    have hn : i = min its.toArray.size its2.toArray.size := by
      rw [List.size_toArray, List.size_toArray, ← rv.length, ← rv2.length]
      exact hi
    subst hn
    have sub : ∀ c, c ∈ [z, TO, i1, i2] → c ∈ [z, TI, TO, i1, i2] := fun c hc => by
      simp only [List.mem_cons, List.not_mem_nil, or_false] at hc ⊢
      rcases hc with q | q | q | q <;> simp [q]
    exact W.done s _ E ⟨hz, hTI, hTO, ⟨h1, p⟩, ⟨h2, p2.isList⟩⟩ fun h' tk hk => ⟨rfl, I.turnedL (ch := [z, TO, i1, i2]) (fun c o hb q => hk c o hb q) fun c hc => hf c (sub c hc)⟩
  self A i s Q E st h := wpAny_pyIter_zip st.1 h
def iZipM (K : PySem.W.Frag) (ta : TA) : TI := fun σ H R => ta σ H fun vs H1 => ∃ a b xs ys, vs = [.ref a, .ref b] ∧ SqT K H1 a xs ∧ SqL K H1 b ys ∧ R (ItzM K a b) H1
theorem pi_zipM {X : Cx} {e e2 : Expr} {ta : TA} {p pos tpos : Pos} {elts : List Expr} {kk : Nat} (hg : Gl X "zip") (hm : X.mg "zip" = none) (ha : PA X [e, e2] ta)
    (hs : starEach [e, e2] X.env = (false, eval e X.env) :: starEach [e2] X.env := by rfl) (hpl : (backTo pos (starEach [e2] X.env)).any (·.1) = false := by rfl) :
    PI X (.Tuple elts kk tpos) (.Call (.Name "zip" p) [e, e2] [] pos) (iZipM X.K ta) := by
  constructor
  intro pins s σ H R I h
  refine Call_ (ld_blt I hg hm boot_zip (callWith_type1 (thn (ha.run pos pins s σ H _ I h) fun us s1 z => ?_) hs hpl))
  obtain ⟨vs, H1, I1, r1, a, b, xs, ys, ex, hqx, hqy, q⟩ := z
  subst ex
  obtain ⟨u1, u2, eu, ra, rb⟩ : ∃ u1 u2, us = [u1, u2] ∧ RelV (.ref a) u1 ∧ RelV (.ref b) u2 := by
    cases r1 with
    | cons r rr =>
      cases rr with
      | cons r' rr =>
        cases rr
        exact ⟨_, _, rfl, r, r'⟩
  subst eu
  cases ra
  cases rb
  obtain ⟨its, rv, p1, _⟩ := I1.tuple hqx
  obtain ⟨its2, rv2, p2, _⟩ := I1.list hqy
  have p1 : s1.heap.IsTuple a its.toArray := p1
  have la : a < s1.heap.objs.size := by
    obtain ⟨o, e, _⟩ := p1
    exact Heap.lt_size e
  have lb : b < s1.heap.objs.size := p2.lt
  refine zip_begins2 (begins_tuple a its.toArray) (begins_list b its2.toArray) p1 p2.isList fun h' hz hTI hTO e1 e2 hsz hk => wpAny_pyIter_zip hz ?_
  have I2 : Inv X pins σ H1 { s1 with heap := h' } := I1.kept (t' := s1.toks) hk
  have S := zip_sep2 (N := s1.heap.objs.size) (fp1 := [a]) (fp2 := [b]) (fun c hc => by rw [List.mem_singleton.mp hc]; exact la) (fun c hc => by rw [List.mem_singleton.mp hc]; exact lb)
  refine ⟨_, [s1.heap.objs.size + 4, s1.heap.objs.size + 2, s1.heap.objs.size + 3, s1.heap.objs.size, s1.heap.objs.size + 1], ZipTn a b _ _ _ _ _, _, H1, rfl, I2, turn_zipM S (Nat.ne_of_lt la) (Nat.ne_of_lt (Nat.lt_succ_of_lt lb)), ⟨hz, hTI, ⟨_, _, hTO⟩, ⟨_, e1, rfl, rfl⟩, ⟨_, e2, rfl, rfl⟩⟩, fun c hcm => ?_, q⟩
  have hle : s1.heap.objs.size ≤ c := five (φ := fun c => s1.heap.objs.size ≤ c) hcm (Nat.le_add_right _ _) (Nat.le_add_right _ _) (Nat.le_add_right _ _) (Nat.le_refl _) (Nat.le_add_right _ _)
  exact I1.fpOk hle (I1.hok.fresh hle)
theorem walk_zipM {K : PySem.W.Frag} {a b : Addr} {xs ys : List V} {n : Nat} (hn : n = min xs.length ys.length) : Walk (ItzM K a b) n (fun H => SqT K H a xs ∧ SqL K H b ys) (YPair (fun i => xs[i]?) (fun i => ys[i]?)) := by
  subst hn
  refine ⟨fun i _ hi q => ?_, fun _ q => ⟨xs, ys, q.1, q.2, rfl⟩, fun i H v H' _ q y => ?_⟩
  · have h1 : i < xs.length := by omega
    have h2 : i < ys.length := by omega
    exact ⟨xs, ys, xs[i], ys[i], q.1, q.2, List.getElem?_eq_getElem h1, List.getElem?_eq_getElem h2⟩
  · obtain ⟨T, x, y, h1, h2, h3, h4, h5⟩ := y
    exact ⟨T, x, y, h1, h2, h3, h4 xs q.1, h5 ys q.2⟩
end KB

/-! ### replace on a joined text; a text times a number -/
namespace KB
open PySem PySem.Spec PyProof.Rows L2
def PE1 (X : Cx) (e : Expr) (t : TE) : Prop :=
  ∀ (pins : List (Addr × Obj)) (s : Shared) (σ : L2.St) (H : Hp) (Q : VK), Inv X pins σ H s → t σ H Q → wpAny (model X.prog X.w) X.A (eval e X.env) (fun v s' => 1 ≤ s'.toks ∧ EP X pins σ Q v s') X.xe s
section
variable {X : Cx} {o e : Expr} {to te : TE} {y z : Str} {j k : Nat} {c0 c1 apos pos : Pos}
theorem pe1_join {c : Str} {jc : Nat} {pc : Pos} (he : PE X e te) (hs : starEach [e] X.env = [(false, eval e X.env)] := by rfl)
    (hbase : attributeBase (.Constant (.str c) jc pc) "join" X.env (eval (.Constant (.str c) jc pc) X.env) = eval (.Constant (.str c) jc pc) X.env := by rfl) (hline : (apos.endLine == pos.line) = true := by rfl) :
    PE1 X (.Call (.Attribute (.Constant (.str c) jc pc) "join" apos) [e] [] pos) (tM1 (fun x xs H Q => ∃ a p, ∃ ys : List Str, x = .str a ∧ xs = [.ref p] ∧ (SqL X.K H p (ys.map V.str) ∨ SqT X.K H p (ys.map V.str)) ∧
      (ys.map (·.length)).sum + ys.length * a.length ≤ 16777216 ∧ Q (.str (Txt.join a ys)) H) (tC (.str c)) te) := by
  intro pins s σ H Q I h
  obtain ⟨_, h⟩ := h
  refine PySem.Call_method1 hbase hs hline (Calls.Constant_str ?_)
  have I1 := I.tok (s.toks + 1)
  refine ⟨"str", _, F.plainAttrs_str, F.slot_str_join, F.type_str_join, typeIs_str _ _ _, (fun _ e => nomatch e), Calls.callWith_builtin rfl (Calls.evalArgs_plain (Calls.spliced_cons ?_))⟩
  refine wpAny_mono (PySem.wpAny_toks_of (n := 1) (Nat.succ_le_succ (Nat.zero_le _)) (he.run pins _ σ H _ I1 h)) (fun u s2 hh => ?_) fun _ _ z => z.2
  obtain ⟨hk, v2, H2, I2, r2, q2⟩ := hh
  exact Calls.spliced_nil (wpAny_mono (PySem.wpAny_toks_of hk (mt_join pins s2 σ H2 (.str c) [v2] (.str c s.toks) [u] Q I2 ⟨s.toks, rfl⟩ (.cons r2 .nil) q2)) (fun _ _ z => z) fun _ _ z => z.2)
theorem pe_replC1 (ho : PE1 X o to) (hyz : (y == z) = false := by decide)
    (hst : starEach [.Constant (.str y) j c0, .Constant (.str z) k c1] X.env = [(false, eval (.Constant (.str y) j c0) X.env), (false, eval (.Constant (.str z) k c1) X.env)] := by rfl)
    (hbase : attributeBase o "replace" X.env (eval o X.env) = eval o X.env := by rfl) (hline : (apos.endLine == pos.line) = true := by rfl) :
    PE X (.Call (.Attribute o "replace" apos) [.Constant (.str y) j c0, .Constant (.str z) k c1] [] pos) (CwR.tReplC to y z) := by
  refine ⟨fun pins s σ H Q I h => ?_⟩
  refine PySem.Call_method2 hbase hst hline (thn (ho pins s σ H _ I h) fun v s1 q => ?_)
  obtain ⟨hk, v', H1, I1, r1, x, e1, hb, q⟩ := q
  subst e1
  obtain ⟨tx, e2⟩ := r1
  subst e2
  refine ⟨"str", _, PySem.F.plainAttrs_str, PySem.F.slot_str_replace, PySem.F.type_str_replace, typeIs_str _ _ _, (fun _ e => nomatch e), Calls.callWith_builtin rfl (Calls.evalArgs_plain (Calls.spliced_cons ?_))⟩
  refine Calls.Constant_str (Calls.spliced_cons (Calls.Constant_str (Calls.spliced_nil ?_)))
  exact PySem.SC.replace (by show s1.toks ≠ 0; omega) (by show s1.toks + 1 ≠ 0; omega) (by show s1.toks ≠ s1.toks + 1; omega) hyz hb fun t' k => ⟨.str (Txt.replace x y z), H1, I1.tok k, ⟨t', rfl⟩, q⟩
end
/-- one sign for another -/
theorem repl_one (l : List Nat) (a b : Nat) : Txt.replace (S l) (S [a]) (S [b]) = S (l.map fun c => if c = a then b else c) := by
  have h := StrLaws.replace_list (x := S l) (y := S [a]) (z := S [b]) (Nat.le_refl 1)
  have e : ∀ l : List Nat, StrLaws.replL [a] [b] l = l.map fun c => if c = a then b else c := fun l => by
    induction l with
    | nil => exact StrLaws.replL_nil
    | cons c r ih =>
      by_cases hc : c = a
      · subst hc
        rw [StrLaws.replL_hit (by simp) (by simp), List.map_cons, if_pos rfl]
        show [b] ++ StrLaws.replL [c] [b] r = _
        rw [ih]
        rfl
      · rw [StrLaws.replL_miss (by simpa using hc), List.map_cons, if_neg hc, ih]
  have h2 : (Txt.replace (S l) (S [a]) (S [b])).cps.toList = l.map fun c => if c = a then b else c := h.trans (e l)
  show Txt.replace (S l) (S [a]) (S [b]) = ⟨(l.map fun c => if c = a then b else c).toArray⟩
  rw [← h2, Array.toArray_toList]
theorem fold_app (L : List (Array Nat)) : ∀ acc : Array Nat, (L.foldl (· ++ ·) acc).toList = acc.toList ++ (L.map Array.toList).flatten := by
  induction L with
  | nil => intro acc; simp
  | cons a L ih =>
    intro acc
    rw [List.foldl_cons, ih, Array.toList_append, List.map_cons, List.flatten_cons, List.append_assoc]
def timesL (l : List Nat) (n : Nat) : List Nat := (List.replicate n l).flatten
theorem timesL_len (l : List Nat) (n : Nat) : (timesL l n).length = n * l.length := by
  induction n with
  | zero => simp [timesL]
  | succ n ih =>
    unfold timesL at ih ⊢
    rw [List.replicate_succ, List.flatten_cons, List.length_append, ih, Nat.add_mul, Nat.one_mul, Nat.add_comm]
def rMulS : R2 := fun x y H Q => ∃ (l : List Nat) (n : Nat), x = .str (S l) ∧ y = .int (n : Int) ∧ 2 ≤ n ∧ n ≤ 10000 ∧ 1 ≤ l.length ∧ l.length ≤ 100 ∧ Q (.str (S (timesL l n))) H
theorem op_mulS {X : Cx} : OpR X (binaryOp .Mult) rMulS := by
  intro pins s σ H x y v u Q I rx ry h
  obtain ⟨l, n, rfl, rfl, h2, h3, h4, h5, q⟩ := h
  obtain ⟨t, rfl⟩ := rx
  obtain ⟨t', rfl⟩ := ry
  have hn1 : ¬ ((n : Int) < 1) := by omega
  have hn2 : ((n : Int) == 1 || (S l).length == 0) = false := by
    have e1 : ((n : Int) == 1) = false := by
      rw [beq_eq_false_iff_ne]
      omega
    have e2 : ((S l).length == 0) = false := by
      rw [beq_eq_false_iff_ne, S_len]
      omega
    rw [e1, e2]
    rfl
  refine P.mul_str ?_ (fun _ _ => ?_) (fun _ _ => ?_) ?_
  · rw [decide_eq_false (by omega), decide_eq_false (by omega)]
    rfl
  · have e : (100 : Int) ≤ (2 ^ 63 - 1) / (n : Int) := by
      refine Int.le_ediv_of_mul_le (by omega) ?_
      have : (100 : Int) * (n : Int) ≤ 100 * 10000 := by omega
      omega
    rw [S_len]
    omega
  · have e : (S l).length * (n : Int).toNat ≤ 100 * 10000 := Nat.mul_le_mul (by rw [S_len]; exact h5) (by omega)
    unfold Builtin.Str.tooLong
    rw [decide_eq_false_iff_not]
    have := sz5 (n := 1000000) (Nat.le_refl _)
    omega
  · rw [if_neg hn1, if_neg (by rw [hn2]; exact fun z => nomatch z)]
    have e : (⟨(List.replicate (n : Int).toNat (S l).cps).foldl (· ++ ·) #[]⟩ : Str) = S (timesL l n) := by
      have := fold_app (List.replicate (n : Int).toNat (S l).cps) #[]
      show (⟨_⟩ : Str) = ⟨(timesL l n).toArray⟩
      congr 1
      rw [← Array.toArray_toList (xs := List.foldl _ _ _), this]
      congr 1
      simp [timesL]
    rw [e]
    refine ⟨?_, .str _, H, I.tok _, ⟨_, rfl⟩, q⟩
    have e : (timesL l n).length ≤ 10000 * 100 := by
      rw [timesL_len]
      exact Nat.mul_le_mul h3 h5
    exact sz5 (by rw [S_len]; omega)
end KB

namespace K78
open PySem PySem.Spec PyProof.Rows L2 KB
def topS (i : Nat) : Stmt := PySem.Challenge.pw_pageseen_k78_actions_of_handlers.main.body.getD i (.Pass ⟨0, 0, 0, 0⟩)
abbrev sIsTold : Stmt := topS 15
theorem scIsTold : FnScope ["sign"] ["sign"] (defScope sIsTold) := ⟨rfl, rfl, rfl, by decide +kernel, rfl, by decide +kernel, by decide +kernel⟩
abbrev sAreTold : Stmt := topS 16
theorem scAreTold : FnScope ["value", "sign"] ["value"] (defScope sAreTold) := ⟨rfl, rfl, rfl, by decide +kernel, rfl, by decide +kernel, by decide +kernel⟩
abbrev sIsText : Stmt := topS 17
theorem scIsText : FnScope ["value"] ["value"] (defScope sIsText) := ⟨rfl, rfl, rfl, by decide +kernel, rfl, by decide +kernel, by decide +kernel⟩
abbrev sNameEnd : Stmt := topS 18
theorem scNameEnd : FnScope ["text", "at", "end"] ["text", "at"] (defScope sNameEnd) := ⟨rfl, rfl, rfl, by decide +kernel, rfl, by decide +kernel, by decide +kernel⟩
abbrev sIsName : Stmt := topS 19
theorem scIsName : FnScope ["value"] ["value"] (defScope sIsName) := ⟨rfl, rfl, rfl, by decide +kernel, rfl, by decide +kernel, by decide +kernel⟩
abbrev sEndsWord : Stmt := topS 24
theorem scEndsWord : FnScope ["text", "at"] ["text", "at"] (defScope sEndsWord) := ⟨rfl, rfl, rfl, by decide +kernel, rfl, by decide +kernel, by decide +kernel⟩
abbrev sWordEnd : Stmt := topS 25
theorem scWordEnd : FnScope ["text", "at"] ["text", "at"] (defScope sWordEnd) := ⟨rfl, rfl, rfl, by decide +kernel, rfl, by decide +kernel, by decide +kernel⟩
abbrev sPartsOf : Stmt := topS 26
theorem scPartsOf : FnScope ["text", "parts", "words", "is_right", "at", "end"] ["text"] (defScope sPartsOf) := ⟨rfl, rfl, rfl, by decide +kernel, rfl, by decide +kernel, by decide +kernel⟩
abbrev sFits : Stmt := topS 27
theorem scFits : FnScope ["kind", "word", "is_quoted"] ["kind", "word", "is_quoted"] (defScope sFits) := ⟨rfl, rfl, rfl, by decide +kernel, rfl, by decide +kernel, by decide +kernel⟩
abbrev sActionOf : Stmt := topS 28
theorem scActionOf : FnScope ["words", "kinds", "kind", "word", "is_quoted"] ["words"] (defScope sActionOf) := ⟨rfl, rfl, rfl, by decide +kernel, rfl, by decide +kernel, by decide +kernel⟩
abbrev sActionsOf : Stmt := topS 30
theorem scActionsOf : FnScope ["text", "found", "words", "action"] ["text"] (defScope sActionsOf) := ⟨rfl, rfl, rfl, by decide +kernel, rfl, by decide +kernel, by decide +kernel⟩
abbrev sLawPool : Stmt := topS 32
theorem scLawPool : FnScope ["script", "pool", "cell", "rest", "k", "state"] ["script"] (defScope sLawPool) := ⟨rfl, rfl, rfl, by decide +kernel, rfl, by decide +kernel, by decide +kernel⟩
abbrev sLawStream : Stmt := topS 33
theorem scLawStream : FnScope ["script"] ["script"] (defScope sLawStream) := ⟨rfl, rfl, rfl, by decide +kernel, rfl, by decide +kernel, by decide +kernel⟩
abbrev sLawPick : Stmt := topS 34
theorem scLawPick : FnScope ["pool", "many", "place"] ["pool", "many"] (defScope sLawPick) := ⟨rfl, rfl, rfl, by decide +kernel, rfl, by decide +kernel, by decide +kernel⟩
abbrev sLawSame : Stmt := topS 35
theorem scLawSame : FnScope ["told", "due", "pairs", "turn", "one", "other", "key", "k"] ["told", "due"] (defScope sLawSame) := ⟨rfl, rfl, rfl, by decide +kernel, rfl, by decide +kernel, by decide +kernel⟩
abbrev sLawGap : Stmt := topS 36
theorem scLawGap : FnScope ["pool"] ["pool"] (defScope sLawGap) := ⟨rfl, rfl, rfl, by decide +kernel, rfl, by decide +kernel, by decide +kernel⟩
abbrev sLawEnds : Stmt := topS 37
theorem scLawEnds : FnScope ["pool"] ["pool"] (defScope sLawEnds) := ⟨rfl, rfl, rfl, by decide +kernel, rfl, by decide +kernel, by decide +kernel⟩
abbrev sLawSign : Stmt := topS 38
theorem scLawSign : FnScope ["pool", "signs"] ["pool"] (defScope sLawSign) := ⟨rfl, rfl, rfl, by decide +kernel, rfl, by decide +kernel, by decide +kernel⟩
abbrev sLawPlain : Stmt := topS 39
theorem scLawPlain : FnScope ["pool", "first", "k"] ["pool"] (defScope sLawPlain) := ⟨rfl, rfl, rfl, by decide +kernel, rfl, by decide +kernel, by decide +kernel⟩
abbrev sLawQuoted : Stmt := topS 40
theorem scLawQuoted : FnScope ["pool", "signs", "word", "k"] ["pool"] (defScope sLawQuoted) := ⟨rfl, rfl, rfl, by decide +kernel, rfl, by decide +kernel, by decide +kernel⟩
abbrev sLawAny : Stmt := topS 41
theorem scLawAny : FnScope ["pool", "word"] ["pool"] (defScope sLawAny) := ⟨rfl, rfl, rfl, by decide +kernel, rfl, by decide +kernel, by decide +kernel⟩
abbrev sLawTarget : Stmt := topS 42
theorem scLawTarget : FnScope ["pool"] ["pool"] (defScope sLawTarget) := ⟨rfl, rfl, rfl, by decide +kernel, rfl, by decide +kernel, by decide +kernel⟩
abbrev sLawName : Stmt := topS 43
theorem scLawName : FnScope ["pool", "signs", "many", "k"] ["pool"] (defScope sLawName) := ⟨rfl, rfl, rfl, by decide +kernel, rfl, by decide +kernel, by decide +kernel⟩
abbrev sLawGood : Stmt := topS 44
theorem scLawGood : FnScope ["pool", "kind", "page", "target", "name", "word", "shown", "said"] ["pool"] (defScope sLawGood) := ⟨rfl, rfl, rfl, by decide +kernel, rfl, by decide +kernel, by decide +kernel⟩
abbrev sLawWrong : Stmt := topS 45
theorem scLawWrong : FnScope ["pool", "shown", "said", "target", "word", "bad", "name", "rows"] ["pool"] (defScope sLawWrong) := ⟨rfl, rfl, rfl, by decide +kernel, rfl, by decide +kernel, by decide +kernel⟩
abbrev sLawMade : Stmt := topS 46
theorem scLawMade : FnScope ["pool", "parts", "due", "k", "kind", "words", "action", "text", "j"] ["pool"] (defScope sLawMade) := ⟨rfl, rfl, rfl, by decide +kernel, rfl, by decide +kernel, by decide +kernel⟩
abbrev sLawEdges : Stmt := topS 47
theorem scLawEdges : FnScope ["pool", "target", "word", "rows", "turn", "text", "action"] ["pool"] (defScope sLawEdges) := ⟨rfl, rfl, rfl, by decide +kernel, rfl, by decide +kernel, by decide +kernel⟩
abbrev sLawSoup : Stmt := topS 48
theorem scLawSoup : FnScope ["pool", "menu", "k"] ["pool"] (defScope sLawSoup) := ⟨rfl, rfl, rfl, by decide +kernel, rfl, by decide +kernel, by decide +kernel⟩
abbrev sLawParts : Stmt := topS 49
theorem scLawParts : FnScope ["text", "parts", "words", "spoilt", "mode", "word", "sign"] ["text"] (defScope sLawParts) := ⟨rfl, rfl, rfl, by decide +kernel, rfl, by decide +kernel, by decide +kernel⟩
abbrev sLawIsName : Stmt := topS 50
theorem scLawIsName : FnScope ["word", "signs", "sign"] ["word"] (defScope sLawIsName) := ⟨rfl, rfl, rfl, by decide +kernel, rfl, by decide +kernel, by decide +kernel⟩
abbrev sLawIsAction : Stmt := topS 51
theorem scLawIsAction : FnScope ["words", "kind", "last", "many", "target", "pair"] ["words"] (defScope sLawIsAction) := ⟨rfl, rfl, rfl, by decide +kernel, rfl, by decide +kernel, by decide +kernel⟩
abbrev sLawRead : Stmt := topS 52
theorem scLawRead : FnScope ["text", "found", "words", "spoilt", "pair"] ["text"] (defScope sLawRead) := ⟨rfl, rfl, rfl, by decide +kernel, rfl, by decide +kernel, by decide +kernel⟩
abbrev sLawIsRefused : Stmt := topS 53
theorem scLawIsRefused : FnScope ["value", "e"] ["value"] (defScope sLawIsRefused) := ⟨rfl, rfl, rfl, by decide +kernel, rfl, by decide +kernel, by decide +kernel⟩
abbrev sLawTold : Stmt := topS 54
theorem scLawTold : FnScope ["text", "due", "told"] ["text", "due"] (defScope sLawTold) := ⟨rfl, rfl, rfl, by decide +kernel, rfl, by decide +kernel, by decide +kernel⟩
abbrev sLaw : Stmt := topS 55
theorem scLaw : FnScope ["script", "pool", "text", "due", "cut", "turn", "soup", "bad", "k"] ["script"] (defScope sLaw) := ⟨rfl, rfl, rfl, by decide +kernel, rfl, by decide +kernel, by decide +kernel⟩
/-! ### what the top has written -/
def kindV : M78.Kind → V
  | .target => .str "target"
  | .name => .str "name"
  | .word => .str "word"
  | .any => .str "any"
/-- the written table of the forms of actions -/
def FormsOk (K : PySem.W.Frag) (w : World) (d : Addr) : Prop := (∃ es n, KDict K w d es n) ∧ ∀ z : List Nat, match M78.forms z with
  | none => PySem.W.nsIn K d (S z) = some none
  | some ks => ∃ a, PySem.W.nsIn K d (S z) = some (some (.ref a)) ∧ ∀ H, SqT K H a (ks.map kindV)
structure Top (K : PySem.W.Frag) (w : World) (mg : Str → Option Value) : Prop where
  m_len : mg "len" = none
  m_ord : mg "ord" = none
  m_all : mg "all" = none
  m_any : mg "any" = none
  m_int : mg "int" = none
  m_str : mg "str" = none
  m_bool : mg "bool" = none
  m_list : mg "list" = none
  m_tuple : mg "tuple" = none
  m_dict : mg "dict" = none
  m_range : mg "range" = none
  m_zip : mg "zip" = none
  m_isinstance : mg "isinstance" = none
  m_MOST_SIGNS : ∃ t, mg "MOST_SIGNS" = some (.int 3000 t)
  m_MOST_NAME_SIGNS : ∃ t, mg "MOST_NAME_SIGNS" = some (.int 10 t)
  m_LETTERS : ∃ t, mg "LETTERS" = some (.str "abcdefghijklmnopqrstuvwxyz" t)
  m_NAME_SIGNS : ∃ t, mg "NAME_SIGNS" = some (.str "abcdefghijklmnopqrstuvwxyz0123456789-" t)
  m_BLANKS : ∃ t, mg "BLANKS" = some (.str " \n" t)
  m_PERCENT : ∃ t, mg "PERCENT" = some (.int 37 t)
  m_QUOTE : ∃ t, mg "QUOTE" = some (.str "'" t)
  m_FORMS : ∃ d, mg "FORMS" = some (.ref d) ∧ FormsOk K w d
  m_PART_END : ∃ t, mg "PART_END" = some (.str ";" t)
  f_is_told : At K mg "is_told" sIsTold ["sign"]
  f_are_told : At K mg "are_told" sAreTold ["value"]
  f_is_text : At K mg "is_text" sIsText ["value"]
  f_name_end : At K mg "name_end" sNameEnd ["text", "at"]
  f_is_name : At K mg "is_name" sIsName ["value"]
  f_ends_word : At K mg "ends_word" sEndsWord ["text", "at"]
  f_word_end : At K mg "word_end" sWordEnd ["text", "at"]
  f_parts_of : At K mg "parts_of" sPartsOf ["text"]
  f_fits : At K mg "fits" sFits ["kind", "word", "is_quoted"]
  f_action_of : At K mg "action_of" sActionOf ["words"]
  f_actions_of : At K mg "actions_of" sActionsOf ["text"]
  f__law_pool : At K mg "_law_pool" sLawPool ["script"]
  f__law_stream : At K mg "_law_stream" sLawStream ["script"]
  f__law_pick : At K mg "_law_pick" sLawPick ["pool", "many"]
  f__law_same : At K mg "_law_same" sLawSame ["told", "due"]
  f__law_gap : At K mg "_law_gap" sLawGap ["pool"]
  f__law_ends : At K mg "_law_ends" sLawEnds ["pool"]
  f__law_sign : At K mg "_law_sign" sLawSign ["pool"]
  f__law_plain : At K mg "_law_plain" sLawPlain ["pool"]
  f__law_quoted : At K mg "_law_quoted" sLawQuoted ["pool"]
  f__law_any : At K mg "_law_any" sLawAny ["pool"]
  f__law_target : At K mg "_law_target" sLawTarget ["pool"]
  f__law_name : At K mg "_law_name" sLawName ["pool"]
  f__law_good : At K mg "_law_good" sLawGood ["pool"]
  f__law_wrong : At K mg "_law_wrong" sLawWrong ["pool"]
  f__law_made : At K mg "_law_made" sLawMade ["pool"]
  f__law_edges : At K mg "_law_edges" sLawEdges ["pool"]
  f__law_soup : At K mg "_law_soup" sLawSoup ["pool"]
  f__law_parts : At K mg "_law_parts" sLawParts ["text"]
  f__law_is_name : At K mg "_law_is_name" sLawIsName ["word"]
  f__law_is_action : At K mg "_law_is_action" sLawIsAction ["words"]
  f__law_read : At K mg "_law_read" sLawRead ["text"]
  f__law_is_refused : At K mg "_law_is_refused" sLawIsRefused ["value"]
  f__law_told : At K mg "_law_told" sLawTold ["text", "due"]
  f_law : At K mg "law" sLaw ["script"]
end K78

namespace K78
open PySem PySem.Spec PyProof.Rows L2 KB
section
variable {P : Program} {w : World} {K : PySem.W.Frag} {mg : Str → Option Value} {base : Heap}
def told (c : Nat) : Bool := decide (c = 10) || (decide (32 ≤ c) && decide (c ≤ 126) && !decide (c = 37))
def spIsTold : Sp := fun vs H Q _ => ∃ c : Nat, vs = [.str (S [c])] ∧ Q (.bl (told c)) H
theorem c_nl : Str.ofString "\n" = S [10] := id rfl
theorem c_sp : (Str.ofString " ").cps.toList = [32] := id rfl
theorem c_ti : (Str.ofString "~").cps.toList = [126] := id rfl
theorem okIsTold (T : Top K w mg) : Ok P w K mg base CX0 1 "is_told" ["sign"] spIsTold := by
  obtain ⟨tP, m_PERCENT⟩ := T.m_PERCENT
  have m_ord := T.m_ord
  refine mkOk T.f_is_told scIsTold (fun vs H Q E h => ?_) (fun f cdv A outer s H vs Q E hr h => ?_)
  · obtain ⟨c, rfl, _⟩ := h
    rfl
  · obtain ⟨c, rfl, q⟩ := h
    refine ⟨_, pss_one (ps_ret (pe_or (pe_cmpR op_eq (pv 0) (pe_str) (nomark _)) (pe_one (pe_and (pe_chain op_le_str op_le_str (pe_str) (pv 0) (pe_str)) (pe_one (pe_cmpR op_ne (pe_callB call_ord (by rfl) m_ord (by decide +kernel) (pa_cons (pv 0) pa_nil)) (pe_glob (v := .int 37) rfl m_PERCENT ⟨_, rfl⟩) (nomark _))))))), ?_⟩
    (try simp only [cx_K, cx_w, rMulS, CwR.tReplC, tM1, tBM0, rPop, rExtend, rReverse, rLenS, rEqE, rNeE, rSetL, rIntI, rIntB, tBM, rAppend, rIxL, rIxT, rCat, rSlL, rSlS, gTup, tYes, wipe, tSeq, tAsg, tIfS, tRet, tRetN, tDrop, tNext, tBreak, tCont, tNever, tAug, ipI, tPar, tPar3, gName, gCons, gNil, gSub, tVar, tC, tOp, tUn, tIf, tAndV, tOrV, tNotV, tAnd, tOr, tNot, L2.tB, tTest, tCmp, tChain, tCB, tCons, tNil, tCall, tTup, tLst, tSl, tPart, tNoPart, rI, rI0, rU, rEq, rNe, scal_ii, scal_ss, scal_bb, scal_nn, scal_is, scal_si, rIxS, S_len, S_cps, S_inj, L2.start, List.map_cons, List.map_nil, List.cons_append, List.nil_append, List.append_nil, List.getElem?_cons_zero, List.getElem?_cons_succ, List.set_cons_zero, List.set_cons_succ, List.length_cons, List.length_nil, Nat.reduceAdd, Nat.reduceSub, List.replicate_succ, List.replicate_zero, Option.some.injEq, V.int.injEq, V.str.injEq, V.bl.injEq, V.ref.injEq, List.cons.injEq, and_true, true_and, exists_eq_left, exists_eq_left', exists_and_left, exists_eq, exists_eq', decide_eq_true_eq, Bool.not_eq_true', decide_eq_false_iff_not, Bool.false_eq_true, if_false, if_true, reduceIte, ite_self, CMul, CPow, CDiv])
    simp only [c_nl, c_sp, c_ti, S_inj]
    by_cases h1 : c = 10
    · subst h1
      simpa [told] using q
    · have h1' : ¬ [c] = [10] := by simpa using h1
      rw [if_neg h1']
      have e1 : ([c] < [32]) ↔ c < 32 := by
        rw [List.cons_lt_cons_iff]
        simp
      have e2 : ([126] < [c]) ↔ 126 < c := by
        rw [List.cons_lt_cons_iff]
        simp
      simp only [e1, e2]
      simp only [told, h1] at q
      by_cases h2 : c < 32
      · have : ¬ 32 ≤ c := by omega
        simpa [h2, this] using q
      · have h2' : 32 ≤ c := by omega
        by_cases h3 : 126 < c
        · have : ¬ c ≤ 126 := by omega
          simpa [h2, h3, this] using q
        · have h3' : c ≤ 126 := by omega
          simp only [h2, h3, not_false_eq_true, if_true]
          have : (((#[c] : Array Nat).getD 0 0 : Nat) : Int) = 37 ↔ c = 37 := by
            show ((c : Nat) : Int) = 37 ↔ _
            omega
          by_cases h4 : c = 37
          · subst h4
            simpa [h2', h3'] using q
          · have : ¬ (((#[c] : Array Nat).getD 0 0 : Nat) : Int) = 37 := fun z => h4 (this.mp z)
            rw [decide_eq_false this]
            simpa [h2', h3', h4] using q
/-! ### are_told, is_text: of a text -/
def spAreTold : Sp := fun vs H Q _ => ∃ l : List Nat, vs = [.str (S l)] ∧ l.length ≤ 100000 ∧ ∀ H', Same H H' → Q (.bl (l.all told)) H'
theorem take_snoc {α : Type} {l : List α} {i : Nat} {x : α} (h : l[i]? = some x) : l.take (i + 1) = l.take i ++ [x] := by
  rw [List.take_add_one, h]
  rfl
theorem okAreTold (T : Top K w mg) : Ok P w K mg base CX0 2 "are_told" ["value"] spAreTold := by
  have m_isinstance := T.m_isinstance
  have m_str := T.m_str
  have m_all := T.m_all
  have GIsTold : Ok P w K mg base CX0 1 "is_told" ["sign"] spIsTold := okIsTold T
  refine mkOk T.f_are_told scAreTold (fun vs H Q E h => ?_) (fun f cdv A outer s H vs Q E hr h => ?_)
  · obtain ⟨c, rfl, _⟩ := h
    rfl
  · obtain ⟨l, rfl, hl, q⟩ := h
    refine ⟨_, pss_one (ps_ret (pe_and (pe_callB call_isi (by rfl) m_isinstance (by decide +kernel) (pa_cons (pv 0) (pa_cons (pe_bltn (u := .type "str") (v := .ty "str") (by rfl) m_str (by decide +kernel) rfl) pa_nil))) (pe_one (pe_callB (cr_all rfl) (by rfl) m_all (by decide +kernel) (pa_cons (pe_lc (own := [("sign", 1)]) rfl scAreTold.nd (pi_str (pv 0)) (blkOk_by (own := [("sign", 1)]) (N := ["value", "sign"]) (sc := defScope sAreTold) (by decide +kernel)) (fun _ _ _ _ _ => pg_name (i := 1) scAreTold.nd rfl (Or.inl rfl)) (fun _ _ _ _ _ => pts_nil) (fun _ _ _ _ _ => pcall GIsTold (hr.mono (by decide)) (by rfl) pass0 (pa_cons (pv 1) pa_nil))) pa_nil))))), ?_⟩
    (try simp only [cx_K, cx_w, rMulS, CwR.tReplC, tM1, tBM0, rPop, rExtend, rReverse, rLenS, rEqE, rNeE, rSetL, rIntI, rIntB, tBM, rAppend, rIxL, rIxT, rCat, rSlL, rSlS, gTup, tYes, wipe, tSeq, tAsg, tIfS, tRet, tRetN, tDrop, tNext, tBreak, tCont, tNever, tAug, ipI, tPar, tPar3, gName, gCons, gNil, gSub, tVar, tC, tOp, tUn, tIf, tAndV, tOrV, tNotV, tAnd, tOr, tNot, L2.tB, tTest, tCmp, tChain, tCB, tCons, tNil, tCall, tTup, tLst, tSl, tPart, tNoPart, rI, rI0, rU, rEq, rNe, scal_ii, scal_ss, scal_bb, scal_nn, scal_is, scal_si, rIxS, S_len, S_cps, S_inj, L2.start, List.map_cons, List.map_nil, List.cons_append, List.nil_append, List.append_nil, List.getElem?_cons_zero, List.getElem?_cons_succ, List.set_cons_zero, List.set_cons_succ, List.length_cons, List.length_nil, Nat.reduceAdd, Nat.reduceSub, List.replicate_succ, List.replicate_zero, Option.some.injEq, V.int.injEq, V.str.injEq, V.bl.injEq, V.ref.injEq, List.cons.injEq, and_true, true_and, exists_eq_left, exists_eq_left', exists_and_left, exists_eq, exists_eq', decide_eq_true_eq, Bool.not_eq_true', decide_eq_false_iff_not, Bool.false_eq_true, if_false, if_true, reduceIte, ite_self, CMul, CPow, CDiv])
    refine isi (K := K) (.str _) (kit_ty (by decide +kernel)) ⟨true, rfl, iteT ?_⟩
    refine ⟨_, rfl, S l, rfl, fun d hd => lc_it walk_str (fun i H' => Same H H' ∧ H' d = some (.lst (((l.take i).map told).map V.bl))) ⟨Same.new hd, upd_same⟩ (fun _ _ _ _ => trivial) (fun i x H1 H2 hi hP hY => ?_) (fun H1 hP => ?_)⟩
    · obtain ⟨rfl, c, hc, rfl⟩ := hY
      obtain ⟨sm, e⟩ := hP
      refine ⟨rfl, ?_⟩
      (try simp only [cx_K, cx_w, rMulS, CwR.tReplC, tM1, tBM0, rPop, rExtend, rReverse, rLenS, rEqE, rNeE, rSetL, rIntI, rIntB, tBM, rAppend, rIxL, rIxT, rCat, rSlL, rSlS, gTup, tYes, wipe, tSeq, tAsg, tIfS, tRet, tRetN, tDrop, tNext, tBreak, tCont, tNever, tAug, ipI, tPar, tPar3, gName, gCons, gNil, gSub, tVar, tC, tOp, tUn, tIf, tAndV, tOrV, tNotV, tAnd, tOr, tNot, L2.tB, tTest, tCmp, tChain, tCB, tCons, tNil, tCall, tTup, tLst, tSl, tPart, tNoPart, rI, rI0, rU, rEq, rNe, scal_ii, scal_ss, scal_bb, scal_nn, scal_is, scal_si, rIxS, S_len, S_cps, S_inj, L2.start, List.map_cons, List.map_nil, List.cons_append, List.nil_append, List.append_nil, List.getElem?_cons_zero, List.getElem?_cons_succ, List.set_cons_zero, List.set_cons_succ, List.length_cons, List.length_nil, Nat.reduceAdd, Nat.reduceSub, List.replicate_succ, List.replicate_zero, Option.some.injEq, V.int.injEq, V.str.injEq, V.bl.injEq, V.ref.injEq, List.cons.injEq, and_true, true_and, exists_eq_left, exists_eq_left', exists_and_left, exists_eq, exists_eq', decide_eq_true_eq, Bool.not_eq_true', decide_eq_false_iff_not, Bool.false_eq_true, if_false, if_true, reduceIte, ite_self, CMul, CPow, CDiv])
      refine ⟨c, rfl, _, e, ?_, ?_, ?_⟩
      · rw [List.length_map, List.length_map, List.length_take]
        exact sz5' (Nat.le_trans (Nat.min_le_right _ _) (Nat.le_trans hl (by decide)))
      · exact sm.mut hd
      · rw [upd_same]
        have hc' : l[i]? = some c := by simpa [S] using hc
        rw [take_snoc hc', List.map_append, List.map_append]
        rfl
    · obtain ⟨sm, e⟩ := hP
      have hz : (S l).cps.size = l.length := by simp [S]
      rw [hz, List.take_length] at e
      refine ⟨_, _, rfl, SqL.of e, ?_⟩
      have : (l.map told).all id = l.all told := by rw [List.all_map]; rfl
      rw [this]
      exact q H1 sm
def spIsText : Sp := fun vs H Q _ => ∃ l : List Nat, vs = [.str (S l)] ∧ l.length ≤ 100000 ∧ ∀ H', Same H H' → Q (.bl (decide (l.length ≤ 3000) && l.all told)) H'
theorem okIsText (T : Top K w mg) : Ok P w K mg base CX0 3 "is_text" ["value"] spIsText := by
  have m_isinstance := T.m_isinstance
  have m_str := T.m_str
  have m_len := T.m_len
  obtain ⟨tM, m_MOST_SIGNS⟩ := T.m_MOST_SIGNS
  have GAreTold : Ok P w K mg base CX0 2 "are_told" ["value"] spAreTold := okAreTold T
  refine mkOk T.f_is_text scIsText (fun vs H Q E h => ?_) (fun f cdv A outer s H vs Q E hr h => ?_)
  · obtain ⟨c, rfl, _⟩ := h
    rfl
  · obtain ⟨l, rfl, hl, q⟩ := h
    refine ⟨_, pss_one (ps_ret (pe_and (pe_callB call_isi (by rfl) m_isinstance (by decide +kernel) (pa_cons (pv 0) (pa_cons (pe_bltn (u := .type "str") (v := .ty "str") (by rfl) m_str (by decide +kernel) rfl) pa_nil))) (pe_and (pe_cmpR op_le (pe_callB call_len_str (by rfl) m_len PySem.boot_len (pa_cons (pv 0) pa_nil)) (pe_glob (v := .int 3000) rfl m_MOST_SIGNS ⟨_, rfl⟩) (nomark _)) (pe_one (pcall GAreTold (hr.mono (by decide)) (by rfl) pass0 (pa_cons (pv 0) pa_nil)))))), ?_⟩
    (try simp only [cx_K, cx_w, rMulS, CwR.tReplC, tM1, tBM0, rPop, rExtend, rReverse, rLenS, rEqE, rNeE, rSetL, rIntI, rIntB, tBM, rAppend, rIxL, rIxT, rCat, rSlL, rSlS, gTup, tYes, wipe, tSeq, tAsg, tIfS, tRet, tRetN, tDrop, tNext, tBreak, tCont, tNever, tAug, ipI, tPar, tPar3, gName, gCons, gNil, gSub, tVar, tC, tOp, tUn, tIf, tAndV, tOrV, tNotV, tAnd, tOr, tNot, L2.tB, tTest, tCmp, tChain, tCB, tCons, tNil, tCall, tTup, tLst, tSl, tPart, tNoPart, rI, rI0, rU, rEq, rNe, scal_ii, scal_ss, scal_bb, scal_nn, scal_is, scal_si, rIxS, S_len, S_cps, S_inj, L2.start, List.map_cons, List.map_nil, List.cons_append, List.nil_append, List.append_nil, List.getElem?_cons_zero, List.getElem?_cons_succ, List.set_cons_zero, List.set_cons_succ, List.length_cons, List.length_nil, Nat.reduceAdd, Nat.reduceSub, List.replicate_succ, List.replicate_zero, Option.some.injEq, V.int.injEq, V.str.injEq, V.bl.injEq, V.ref.injEq, List.cons.injEq, and_true, true_and, exists_eq_left, exists_eq_left', exists_and_left, exists_eq, exists_eq', decide_eq_true_eq, Bool.not_eq_true', decide_eq_false_iff_not, Bool.false_eq_true, if_false, if_true, reduceIte, ite_self, CMul, CPow, CDiv])
    refine isi (K := K) (.str _) (kit_ty (by decide +kernel)) ⟨true, rfl, iteT ⟨sz5 (by omega), ?_⟩⟩
    by_cases h : l.length ≤ 3000
    · rw [if_pos (by omega)]
      exact ⟨l, rfl, hl, fun H' sm => by simpa [h] using q H' sm⟩
    · rw [if_neg (by omega)]
      simpa [h] using q H (Same.refl H)
/-! ### names -/
theorem mem_lower {c : Nat} : c ∈ (Str.ofString "abcdefghijklmnopqrstuvwxyz").cps.toList ↔ M78.isLower c = true := by
  have : (Str.ofString "abcdefghijklmnopqrstuvwxyz").cps.toList = List.range' 97 26 := by decide +kernel
  rw [this, List.mem_range'_1]
  simp only [M78.isLower, Bool.and_eq_true, decide_eq_true_eq]
  omega
theorem mem_name {c : Nat} : c ∈ (Str.ofString "abcdefghijklmnopqrstuvwxyz0123456789-").cps.toList ↔ M78.isNameSign c = true := by
  have : (Str.ofString "abcdefghijklmnopqrstuvwxyz0123456789-").cps.toList = List.range' 97 26 ++ (List.range' 48 10 ++ [45]) := by decide +kernel
  rw [this, List.mem_append, List.mem_append, List.mem_range'_1, List.mem_range'_1]
  simp only [M78.isNameSign, M78.isLower, Bool.or_eq_true, Bool.and_eq_true, decide_eq_true_eq, beq_iff_eq, List.mem_singleton]
  omega
def spNameEnd : Sp := fun vs H Q _ => ∃ l : List Nat, vs = [.str (S l), .int 0] ∧ l.length ≤ 100000 ∧ ∀ e : Int, (e = (l.length : Int) ↔ M78.isName l = true) → Q (.int e) H
theorem isName_iff {l : List Nat} {c : Nat} {r : List Nat} (e : l = c :: r) : M78.isName l = true ↔ M78.isLower c = true ∧ l.length ≤ 10 ∧ ∀ j d, 1 ≤ j → l[j]? = some d → M78.isNameSign d = true := by
  subst e
  simp only [M78.isName, Bool.and_eq_true, decide_eq_true_eq, List.all_eq_true, List.length_cons]
  constructor
  · rintro ⟨⟨h1, h2⟩, h3⟩
    refine ⟨h1, by omega, fun j d hj hd => ?_⟩
    cases j with
    | zero => omega
    | succ j => exact h3 d (List.mem_of_getElem? (by simpa using hd))
  · rintro ⟨h1, h2, h3⟩
    refine ⟨⟨h1, by omega⟩, fun d hd => ?_⟩
    obtain ⟨j, hj⟩ := List.getElem?_of_mem hd
    exact h3 (j + 1) d (by omega) (by simpa using hj)
theorem okNameEnd (T : Top K w mg) : Ok P w K mg base CX0 1 "name_end" ["text", "at"] spNameEnd := by
  have m_len := T.m_len
  obtain ⟨tM, m_MOST_NAME_SIGNS⟩ := T.m_MOST_NAME_SIGNS
  obtain ⟨tL, m_LETTERS⟩ := T.m_LETTERS
  obtain ⟨tN, m_NAME_SIGNS⟩ := T.m_NAME_SIGNS
  refine mkOk T.f_name_end scNameEnd (fun vs H Q E h => ?_) (fun f cdv A outer s H vs Q E hr h => ?_)
  · obtain ⟨c, rfl, _⟩ := h
    rfl
  · obtain ⟨l, rfl, hl, q⟩ := h
    refine ⟨_, pss_cons (ps_if (PW.pt (pw_or (pt_cmpR op_ge (pv 1) (pe_callB call_len_str (by rfl) m_len PySem.boot_len (pa_cons (pv 0) pa_nil)) (nomark _)) (pw_or1 (pt_cmpR op_notIn_sign (pe_ix ix_str (pv 0) (pv 1) (fun _ _ => rfl)) (pe_glob (v := .str "abcdefghijklmnopqrstuvwxyz") rfl m_LETTERS ⟨_, rfl⟩) rfl))))
  (pss_one (ps_ret (pe_un un_neg (pe_int))))
  (pss_nil))
  (pss_cons (ps_set (i := 2) scNameEnd.nd rfl (Or.inl rfl) (pe_op op_add (pv 1) (pe_int)))
  (pss_cons (ps_while PassesOwn.never (PW.pt (pw_and (pt_cmpR op_lt (pv 2) (pe_callB call_len_str (by rfl) m_len PySem.boot_len (pa_cons (pv 0) pa_nil)) (nomark _)) (pw_and (pt_cmpR op_le (pe_op op_sub (pv 2) (pv 1)) (pe_glob (v := .int 10) rfl m_MOST_NAME_SIGNS ⟨_, rfl⟩) (nomark _)) (pw_and1 (pt_cmpR op_in_sign (pe_ix ix_str (pv 0) (pv 2) (fun _ _ => rfl)) (pe_glob (v := .str "abcdefghijklmnopqrstuvwxyz0123456789-") rfl m_NAME_SIGNS ⟨_, rfl⟩) rfl)))))
  (pss_one (ps_aug (i := 2) scNameEnd.nd rfl (Or.inl rfl) (pe_int) ip_add)))
  (pss_one (ps_ret (pe_ifExp (pt_cmpR op_le (pe_op op_sub (pv 2) (pv 1)) (pe_glob (v := .int 10) rfl m_MOST_NAME_SIGNS ⟨_, rfl⟩) (nomark _)) (pv 2) (pe_un un_neg (pe_int))))))), ?_⟩
    (try simp only [cx_K, cx_w, rMulS, CwR.tReplC, tM1, tBM0, rPop, rExtend, rReverse, rLenS, rEqE, rNeE, rSetL, rIntI, rIntB, tBM, rAppend, rIxL, rIxT, rCat, rSlL, rSlS, gTup, tYes, wipe, tSeq, tAsg, tIfS, tRet, tRetN, tDrop, tNext, tBreak, tCont, tNever, tAug, ipI, tPar, tPar3, gName, gCons, gNil, gSub, tVar, tC, tOp, tUn, tIf, tAndV, tOrV, tNotV, tAnd, tOr, tNot, L2.tB, tTest, tCmp, tChain, tCB, tCons, tNil, tCall, tTup, tLst, tSl, tPart, tNoPart, rI, rI0, rU, rEq, rNe, scal_ii, scal_ss, scal_bb, scal_nn, scal_is, scal_si, rIxS, S_len, S_cps, S_inj, L2.start, List.map_cons, List.map_nil, List.cons_append, List.nil_append, List.append_nil, List.getElem?_cons_zero, List.getElem?_cons_succ, List.set_cons_zero, List.set_cons_succ, List.length_cons, List.length_nil, Nat.reduceAdd, Nat.reduceSub, List.replicate_succ, List.replicate_zero, Option.some.injEq, V.int.injEq, V.str.injEq, V.bl.injEq, V.ref.injEq, List.cons.injEq, and_true, true_and, exists_eq_left, exists_eq_left', exists_and_left, exists_eq, exists_eq', decide_eq_true_eq, Bool.not_eq_true', decide_eq_false_iff_not, Bool.false_eq_true, if_false, if_true, reduceIte, ite_self, CMul, CPow, CDiv])
    have hz : l.length ≤ sizeLine := sz5 (by omega)
    refine ⟨hz, ?_⟩
    cases hc : l with
    | nil =>
      rw [if_pos (by simp)]
      refine q (-1) ⟨fun z => ?_, fun z => ?_⟩
      · rw [hc] at z
        simp at z
      · rw [hc] at z
        cases z
    | cons c r =>
      rw [← hc]
      have hlen : 1 ≤ l.length := by rw [hc, List.length_cons]; omega
      rw [if_neg (by omega)]
      refine ⟨hz, c, at_nat (i := 0) (by rw [hc]; rfl), ?_⟩
      simp only [mem_lower]
      by_cases hlo : M78.isLower c = true
      · rw [if_neg (by simpa using hlo)]
        refine ⟨fun m σ H' => H' = H ∧ ∃ e : Nat, σ = [some (V.str (S l)), some (.int 0), some (.int (e : Int))] ∧ m + e = 12 ∧ 1 ≤ e ∧ e ≤ 11 ∧ e ≤ l.length ∧ ∀ j d, 1 ≤ j → j < e → l[j]? = some d → M78.isNameSign d = true,
          ⟨11, rfl, 1, rfl, by omega, by omega, by omega, hlen, fun j d h1 h2 => by omega⟩, fun m σ H' hW => ?_⟩
        obtain ⟨rfl, e, rfl, hm, he1, he2, hel, hall⟩ := hW
        (try simp only [cx_K, cx_w, rMulS, CwR.tReplC, tM1, tBM0, rPop, rExtend, rReverse, rLenS, rEqE, rNeE, rSetL, rIntI, rIntB, tBM, rAppend, rIxL, rIxT, rCat, rSlL, rSlS, gTup, tYes, wipe, tSeq, tAsg, tIfS, tRet, tRetN, tDrop, tNext, tBreak, tCont, tNever, tAug, ipI, tPar, tPar3, gName, gCons, gNil, gSub, tVar, tC, tOp, tUn, tIf, tAndV, tOrV, tNotV, tAnd, tOr, tNot, L2.tB, tTest, tCmp, tChain, tCB, tCons, tNil, tCall, tTup, tLst, tSl, tPart, tNoPart, rI, rI0, rU, rEq, rNe, scal_ii, scal_ss, scal_bb, scal_nn, scal_is, scal_si, rIxS, S_len, S_cps, S_inj, L2.start, List.map_cons, List.map_nil, List.cons_append, List.nil_append, List.append_nil, List.getElem?_cons_zero, List.getElem?_cons_succ, List.set_cons_zero, List.set_cons_succ, List.length_cons, List.length_nil, Nat.reduceAdd, Nat.reduceSub, List.replicate_succ, List.replicate_zero, Option.some.injEq, V.int.injEq, V.str.injEq, V.bl.injEq, V.ref.injEq, List.cons.injEq, and_true, true_and, exists_eq_left, exists_eq_left', exists_and_left, exists_eq, exists_eq', decide_eq_true_eq, Bool.not_eq_true', decide_eq_false_iff_not, Bool.false_eq_true, if_false, if_true, reduceIte, ite_self, CMul, CPow, CDiv])
        refine ⟨hz, ?_⟩
        have fin : (e = l.length ∨ 10 < e ∨ ∃ d, l[e]? = some d ∧ M78.isNameSign d = false) → (if (e : Int) - 0 ≤ 10 then Q (V.int (e : Int)) H' else Q (V.int (-1)) H') := by
          intro hx
          have hx' : (e : Int) - 0 ≤ 10 ↔ e ≤ 10 := by omega
          rw [isName_iff hc] at q
          by_cases h10 : e ≤ 10
          · rw [if_pos (hx'.mpr h10)]
            refine q _ ⟨fun z => ⟨hlo, by omega, fun j d hj hd => hall j d hj ?_ hd⟩, fun ⟨_, z2, z3⟩ => ?_⟩
            · have := (List.getElem?_eq_some_iff.mp hd).1
              omega
            · rcases hx with hx | hx | ⟨d, hd, hx⟩
              · omega
              · omega
              · rw [z3 e d he1 hd] at hx
                cases hx
          · rw [if_neg (fun z => h10 (hx'.mp z))]
            refine q _ ⟨fun z => ?_, fun ⟨_, z2, _⟩ => ?_⟩
            · omega
            · omega
        by_cases h1 : (e : Int) < (l.length : Int)
        · rw [if_pos h1]
          by_cases h2 : (e : Int) - 0 ≤ 10
          · rw [if_pos h2]
            have hlt : e < l.length := by omega
            refine ⟨hz, l[e], at_nat (List.getElem?_eq_getElem hlt), ?_⟩
            simp only [mem_name]
            by_cases h3 : M78.isNameSign l[e] = true
            · rw [if_pos h3]
              refine ⟨fun σ' H'' => H'' = H' ∧ σ' = [some (V.str (S l)), some (.int 0), some (.int ((e : Int) + 1))], fun σ' H'' hN => ?_, rfl, rfl⟩
              obtain ⟨rfl, rfl⟩ := hN
              refine ⟨m - 1, by omega, rfl, e + 1, by simp, by omega, by omega, by omega, by omega, fun j d hj1 hj2 hd => ?_⟩
              by_cases hje : j = e
              · subst hje
                rw [List.getElem?_eq_getElem hlt] at hd
                have hd := Option.some.inj hd
                rw [← hd]
                exact h3
              · exact hall j d hj1 (by omega) hd
            · rw [if_neg h3]
              exact fin (.inr (.inr ⟨_, List.getElem?_eq_getElem hlt, by simpa using h3⟩))
          · rw [if_neg h2]
            exact fin (.inr (.inl (by omega)))
        · rw [if_neg h1]
          exact fin (.inl (by omega))
      · rw [if_pos hlo]
        refine q (-1) ⟨fun z => ?_, fun z => ?_⟩
        · omega
        · exact absurd ((isName_iff hc).mp z).1 hlo
def spIsName : Sp := fun vs H Q _ => ∃ l : List Nat, vs = [.str (S l)] ∧ l.length ≤ 100000 ∧ Q (.bl (M78.isName l)) H
theorem okIsName (T : Top K w mg) : Ok P w K mg base CX0 2 "is_name" ["value"] spIsName := by
  have m_len := T.m_len
  have m_isinstance := T.m_isinstance
  have m_str := T.m_str
  have GNameEnd : Ok P w K mg base CX0 1 "name_end" ["text", "at"] spNameEnd := okNameEnd T
  refine mkOk T.f_is_name scIsName (fun vs H Q E h => ?_) (fun f cdv A outer s H vs Q E hr h => ?_)
  · obtain ⟨c, rfl, _⟩ := h
    rfl
  · obtain ⟨l, rfl, hl, q⟩ := h
    refine ⟨_, pss_one (ps_ret (pe_and (pe_callB call_isi (by rfl) m_isinstance (by decide +kernel) (pa_cons (pv 0) (pa_cons (pe_bltn (u := .type "str") (v := .ty "str") (by rfl) m_str (by decide +kernel) rfl) pa_nil))) (pe_one (pe_cmpR op_eq (pcall GNameEnd (hr.mono (by decide)) (by rfl) pass0 (pa_cons (pv 0) (pa_cons (pe_int) pa_nil))) (pe_callB call_len_str (by rfl) m_len PySem.boot_len (pa_cons (pv 0) pa_nil)) (nomark _))))), ?_⟩
    (try simp only [cx_K, cx_w, rMulS, CwR.tReplC, tM1, tBM0, rPop, rExtend, rReverse, rLenS, rEqE, rNeE, rSetL, rIntI, rIntB, tBM, rAppend, rIxL, rIxT, rCat, rSlL, rSlS, gTup, tYes, wipe, tSeq, tAsg, tIfS, tRet, tRetN, tDrop, tNext, tBreak, tCont, tNever, tAug, ipI, tPar, tPar3, gName, gCons, gNil, gSub, tVar, tC, tOp, tUn, tIf, tAndV, tOrV, tNotV, tAnd, tOr, tNot, L2.tB, tTest, tCmp, tChain, tCB, tCons, tNil, tCall, tTup, tLst, tSl, tPart, tNoPart, rI, rI0, rU, rEq, rNe, scal_ii, scal_ss, scal_bb, scal_nn, scal_is, scal_si, rIxS, S_len, S_cps, S_inj, L2.start, List.map_cons, List.map_nil, List.cons_append, List.nil_append, List.append_nil, List.getElem?_cons_zero, List.getElem?_cons_succ, List.set_cons_zero, List.set_cons_succ, List.length_cons, List.length_nil, Nat.reduceAdd, Nat.reduceSub, List.replicate_succ, List.replicate_zero, Option.some.injEq, V.int.injEq, V.str.injEq, V.bl.injEq, V.ref.injEq, List.cons.injEq, and_true, true_and, exists_eq_left, exists_eq_left', exists_and_left, exists_eq, exists_eq', decide_eq_true_eq, Bool.not_eq_true', decide_eq_false_iff_not, Bool.false_eq_true, if_false, if_true, reduceIte, ite_self, CMul, CPow, CDiv])
    refine isi (K := K) (.str _) (kit_ty (by decide +kernel)) ⟨true, rfl, iteT ⟨l, rfl, hl, fun e he => ?_⟩⟩
    (try simp only [cx_K, cx_w, rMulS, CwR.tReplC, tM1, tBM0, rPop, rExtend, rReverse, rLenS, rEqE, rNeE, rSetL, rIntI, rIntB, tBM, rAppend, rIxL, rIxT, rCat, rSlL, rSlS, gTup, tYes, wipe, tSeq, tAsg, tIfS, tRet, tRetN, tDrop, tNext, tBreak, tCont, tNever, tAug, ipI, tPar, tPar3, gName, gCons, gNil, gSub, tVar, tC, tOp, tUn, tIf, tAndV, tOrV, tNotV, tAnd, tOr, tNot, L2.tB, tTest, tCmp, tChain, tCB, tCons, tNil, tCall, tTup, tLst, tSl, tPart, tNoPart, rI, rI0, rU, rEq, rNe, scal_ii, scal_ss, scal_bb, scal_nn, scal_is, scal_si, rIxS, S_len, S_cps, S_inj, L2.start, List.map_cons, List.map_nil, List.cons_append, List.nil_append, List.append_nil, List.getElem?_cons_zero, List.getElem?_cons_succ, List.set_cons_zero, List.set_cons_succ, List.length_cons, List.length_nil, Nat.reduceAdd, Nat.reduceSub, List.replicate_succ, List.replicate_zero, Option.some.injEq, V.int.injEq, V.str.injEq, V.bl.injEq, V.ref.injEq, List.cons.injEq, and_true, true_and, exists_eq_left, exists_eq_left', exists_and_left, exists_eq, exists_eq', decide_eq_true_eq, Bool.not_eq_true', decide_eq_false_iff_not, Bool.false_eq_true, if_false, if_true, reduceIte, ite_self, CMul, CPow, CDiv])
    refine ⟨sz5 (by omega), ?_⟩
    refine qb q ?_
    rw [Bool.eq_iff_iff, decide_eq_true_eq]
    exact he
/-! ### words -/
theorem c_semi : Str.ofString ";" = S [59] := id rfl
theorem c_blk : (Str.ofString " \n").cps.toList = [32, 10] := id rfl
theorem c_q : Str.ofString "'" = S [39] := id rfl
def spEndsWord : Sp := fun vs H Q _ => ∃ (l : List Nat) (i : Nat), vs = [.str (S l), .int (i : Int)] ∧ l.length ≤ 100000 ∧ i ≤ l.length ∧ Q (.bl (M78.endsHere (l.drop i))) H
theorem okEndsWord (T : Top K w mg) : Ok P w K mg base CX0 1 "ends_word" ["text", "at"] spEndsWord := by
  have m_len := T.m_len
  obtain ⟨tM, m_PART_END⟩ := T.m_PART_END
  obtain ⟨tL, m_BLANKS⟩ := T.m_BLANKS
  refine mkOk T.f_ends_word scEndsWord (fun vs H Q E h => ?_) (fun f cdv A outer s H vs Q E hr h => ?_)
  · obtain ⟨c, i, rfl, _⟩ := h
    rfl
  · obtain ⟨l, i, rfl, hl, hi, q⟩ := h
    refine ⟨_, pss_one (ps_ret (pe_or (pe_cmpR op_eq (pv 1) (pe_callB call_len_str (by rfl) m_len PySem.boot_len (pa_cons (pv 0) pa_nil)) (nomark _)) (pe_or (pe_cmpR op_eq (pe_ix ix_str (pv 0) (pv 1) (fun _ _ => rfl)) (pe_glob (v := .str ";") rfl m_PART_END ⟨_, rfl⟩) (nomark _)) (pe_one (pe_cmpR op_in_sign (pe_ix ix_str (pv 0) (pv 1) (fun _ _ => rfl)) (pe_glob (v := .str " \n") rfl m_BLANKS ⟨_, rfl⟩) rfl))))), ?_⟩
    (try simp only [cx_K, cx_w, rMulS, CwR.tReplC, tM1, tBM0, rPop, rExtend, rReverse, rLenS, rEqE, rNeE, rSetL, rIntI, rIntB, tBM, rAppend, rIxL, rIxT, rCat, rSlL, rSlS, gTup, tYes, wipe, tSeq, tAsg, tIfS, tRet, tRetN, tDrop, tNext, tBreak, tCont, tNever, tAug, ipI, tPar, tPar3, gName, gCons, gNil, gSub, tVar, tC, tOp, tUn, tIf, tAndV, tOrV, tNotV, tAnd, tOr, tNot, L2.tB, tTest, tCmp, tChain, tCB, tCons, tNil, tCall, tTup, tLst, tSl, tPart, tNoPart, rI, rI0, rU, rEq, rNe, scal_ii, scal_ss, scal_bb, scal_nn, scal_is, scal_si, rIxS, S_len, S_cps, S_inj, L2.start, List.map_cons, List.map_nil, List.cons_append, List.nil_append, List.append_nil, List.getElem?_cons_zero, List.getElem?_cons_succ, List.set_cons_zero, List.set_cons_succ, List.length_cons, List.length_nil, Nat.reduceAdd, Nat.reduceSub, List.replicate_succ, List.replicate_zero, Option.some.injEq, V.int.injEq, V.str.injEq, V.bl.injEq, V.ref.injEq, List.cons.injEq, and_true, true_and, exists_eq_left, exists_eq_left', exists_and_left, exists_eq, exists_eq', decide_eq_true_eq, Bool.not_eq_true', decide_eq_false_iff_not, Bool.false_eq_true, if_false, if_true, reduceIte, ite_self, CMul, CPow, CDiv])
    have hz : l.length ≤ sizeLine := sz5 (by omega)
    refine ⟨hz, ?_⟩
    by_cases h1 : i = l.length
    · rw [if_pos (by omega)]
      rw [h1, List.drop_length] at q
      exact q
    · rw [if_neg (by omega)]
      have hlt : i < l.length := by omega
      rw [List.drop_eq_getElem_cons hlt] at q
      refine ⟨hz, l[i], at_nat (List.getElem?_eq_getElem hlt), ?_⟩
      simp only [c_semi, c_blk]
      have e1 : (({ cps := #[l[i]] } : Str) = S [59]) ↔ l[i] = 59 := by
        show (S [l[i]] = S [59]) ↔ _
        rw [S_inj]
        simp
      simp only [e1]
      simp only [M78.endsHere, M78.isEnd] at q
      by_cases h2 : l[i] = 59
      · rw [if_pos h2]
        simpa [h2] using q
      · rw [if_neg h2]
        refine ⟨hz, l[i], at_nat (List.getElem?_eq_getElem hlt), ?_⟩
        refine qb q ?_
        rw [Bool.eq_iff_iff]
        simp [h2]
theorem upToEnd_ends {t : List Nat} (h : M78.endsHere t = true) : (M78.upToEnd t).1 = [] := by
  cases t with
  | nil => rfl
  | cons c r =>
    have h : M78.isEnd c = true := h
    unfold M78.upToEnd
    rw [if_pos h]
theorem upToEnd_not {c : Nat} {r : List Nat} (h : M78.isEnd c = false) : (M78.upToEnd (c :: r)).1 = c :: (M78.upToEnd r).1 := by
  rw [M78.upToEnd, if_neg (by rw [h]; decide)]
def spWordEnd : Sp := fun vs H Q _ => ∃ (l : List Nat) (i : Nat), vs = [.str (S l), .int (i : Int)] ∧ l.length ≤ 100000 ∧ i ≤ l.length ∧ Q (.int ((i + (M78.upToEnd (l.drop i)).1.length : Nat) : Int)) H
theorem okWordEnd (T : Top K w mg) : Ok P w K mg base CX0 2 "word_end" ["text", "at"] spWordEnd := by
  have GEndsWord : Ok P w K mg base CX0 1 "ends_word" ["text", "at"] spEndsWord := okEndsWord T
  refine mkOk T.f_word_end scWordEnd (fun vs H Q E h => ?_) (fun f cdv A outer s H vs Q E hr h => ?_)
  · obtain ⟨c, i, rfl, _⟩ := h
    rfl
  · obtain ⟨l, i, rfl, hl, hi, q⟩ := h
    refine ⟨_, pss_cons (ps_while PassesOwn.never (pt_not (pt_val (pcall GEndsWord (hr.mono (by decide)) (by rfl) pass0 (pa_cons (pv 0) (pa_cons (pv 1) pa_nil)))))
  (pss_one (ps_aug (i := 1) scWordEnd.nd rfl (Or.inl rfl) (pe_int) ip_add)))
  (pss_one (ps_ret (pv 1))), ?_⟩
    (try simp only [cx_K, cx_w, rMulS, CwR.tReplC, tM1, tBM0, rPop, rExtend, rReverse, rLenS, rEqE, rNeE, rSetL, rIntI, rIntB, tBM, rAppend, rIxL, rIxT, rCat, rSlL, rSlS, gTup, tYes, wipe, tSeq, tAsg, tIfS, tRet, tRetN, tDrop, tNext, tBreak, tCont, tNever, tAug, ipI, tPar, tPar3, gName, gCons, gNil, gSub, tVar, tC, tOp, tUn, tIf, tAndV, tOrV, tNotV, tAnd, tOr, tNot, L2.tB, tTest, tCmp, tChain, tCB, tCons, tNil, tCall, tTup, tLst, tSl, tPart, tNoPart, rI, rI0, rU, rEq, rNe, scal_ii, scal_ss, scal_bb, scal_nn, scal_is, scal_si, rIxS, S_len, S_cps, S_inj, L2.start, List.map_cons, List.map_nil, List.cons_append, List.nil_append, List.append_nil, List.getElem?_cons_zero, List.getElem?_cons_succ, List.set_cons_zero, List.set_cons_succ, List.length_cons, List.length_nil, Nat.reduceAdd, Nat.reduceSub, List.replicate_succ, List.replicate_zero, Option.some.injEq, V.int.injEq, V.str.injEq, V.bl.injEq, V.ref.injEq, List.cons.injEq, and_true, true_and, exists_eq_left, exists_eq_left', exists_and_left, exists_eq, exists_eq', decide_eq_true_eq, Bool.not_eq_true', decide_eq_false_iff_not, Bool.false_eq_true, if_false, if_true, reduceIte, ite_self, CMul, CPow, CDiv])
    refine ⟨fun m σ H' => H' = H ∧ ∃ j : Nat, σ = [some (V.str (S l)), some (.int (j : Int))] ∧ m + j = l.length ∧ j ≤ l.length ∧ j + (M78.upToEnd (l.drop j)).1.length = i + (M78.upToEnd (l.drop i)).1.length,
      ⟨l.length - i, rfl, i, rfl, by omega, hi, rfl⟩, fun m σ H' hW => ?_⟩
    obtain ⟨rfl, j, rfl, hm, hj, he⟩ := hW
    (try simp only [cx_K, cx_w, rMulS, CwR.tReplC, tM1, tBM0, rPop, rExtend, rReverse, rLenS, rEqE, rNeE, rSetL, rIntI, rIntB, tBM, rAppend, rIxL, rIxT, rCat, rSlL, rSlS, gTup, tYes, wipe, tSeq, tAsg, tIfS, tRet, tRetN, tDrop, tNext, tBreak, tCont, tNever, tAug, ipI, tPar, tPar3, gName, gCons, gNil, gSub, tVar, tC, tOp, tUn, tIf, tAndV, tOrV, tNotV, tAnd, tOr, tNot, L2.tB, tTest, tCmp, tChain, tCB, tCons, tNil, tCall, tTup, tLst, tSl, tPart, tNoPart, rI, rI0, rU, rEq, rNe, scal_ii, scal_ss, scal_bb, scal_nn, scal_is, scal_si, rIxS, S_len, S_cps, S_inj, L2.start, List.map_cons, List.map_nil, List.cons_append, List.nil_append, List.append_nil, List.getElem?_cons_zero, List.getElem?_cons_succ, List.set_cons_zero, List.set_cons_succ, List.length_cons, List.length_nil, Nat.reduceAdd, Nat.reduceSub, List.replicate_succ, List.replicate_zero, Option.some.injEq, V.int.injEq, V.str.injEq, V.bl.injEq, V.ref.injEq, List.cons.injEq, and_true, true_and, exists_eq_left, exists_eq_left', exists_and_left, exists_eq, exists_eq', decide_eq_true_eq, Bool.not_eq_true', decide_eq_false_iff_not, Bool.false_eq_true, if_false, if_true, reduceIte, ite_self, CMul, CPow, CDiv])
    refine ⟨l, j, rfl, hl, hj, _, rfl, ?_⟩
    by_cases h1 : M78.endsHere (l.drop j) = true
    · rw [if_neg (by rw [h1]; decide)]
      rw [upToEnd_ends h1] at he
      rw [← he] at q
      simpa using q
    · have h1' : M78.endsHere (l.drop j) = false := by simpa using h1
      rw [if_pos h1']
      have hlt : j < l.length := by
        by_cases z : j < l.length
        · exact z
        · rw [List.drop_eq_nil_of_le (by omega)] at h1
          exact absurd rfl h1
      refine ⟨fun σ' H'' => H'' = H' ∧ σ' = [some (V.str (S l)), some (.int ((j : Int) + 1))], fun σ' H'' hN => ?_, rfl, rfl⟩
      obtain ⟨rfl, rfl⟩ := hN
      refine ⟨m - 1, by omega, rfl, j + 1, by simp, by omega, by omega, ?_⟩
      rw [List.drop_eq_getElem_cons hlt] at he h1'
      rw [upToEnd_not h1', List.length_cons] at he
      omega
end
end K78


namespace K78
open PySem PySem.Spec PyProof.Rows L2 KB
theorem upToQuote_none {t : List Nat} : M78.upToQuote t = none → ∀ c ∈ t, c ≠ 39 := by
  induction t with
  | nil => exact fun _ _ h => nomatch h
  | cons c r ih =>
    intro h d hd
    unfold M78.upToQuote at h
    split at h
    · cases h
    · rename_i hc
      have h := Option.map_eq_none_iff.mp h
      rcases List.mem_cons.mp hd with rfl | hd
      · exact hc
      · exact ih h d hd
theorem upToQuote_some {t : List Nat} : ∀ {p : List Nat × List Nat}, M78.upToQuote t = some p → t = p.1 ++ 39 :: p.2 ∧ ∀ c ∈ p.1, c ≠ 39 := by
  induction t with
  | nil => exact fun h => nomatch h
  | cons c r ih =>
    intro p h
    unfold M78.upToQuote at h
    split at h
    · rename_i hc
      cases h
      subst hc
      exact ⟨rfl, fun _ h => nomatch h⟩
    · rename_i hc
      obtain ⟨q, hq, rfl⟩ := Option.map_eq_some_iff.mp h
      obtain ⟨e1, e2⟩ := ih hq
      refine ⟨?_, fun d hd => ?_⟩
      · show c :: r = (c :: q.1) ++ 39 :: q.2
        rw [List.cons_append, ← e1]
      · rcases List.mem_cons.mp hd with rfl | hd
        · exact hc
        · exact e2 d hd
open PySem.StrLaws Builtin Builtin.Str in
theorem find3_q (l : List Nat) (i : Nat) (hi : i ≤ l.length) : Txt.find3 (S l) (S [39]) (i : Int) = match M78.upToQuote (l.drop i) with | none => -1 | some p => ((i + p.1.length : Nat) : Int) := by
  have hf : fromIndex (S l).length (i : Int) = i := by
    unfold fromIndex
    rw [if_neg (by omega)]
    omega
  unfold Txt.find3
  rw [hf, occ_eq]
  have hat : ∀ j, StrLaws.At (S l) (S [39]) (S l).length j ↔ l[j]? = some 39 := fun j => subAt_one (S l) 39 j
  rcases occ_first (S l) (S [39]) (S l).length 1 (Nat.le_refl _) (List.range' i ((S l).length + 1 - i)) i (fun j hj => by
      have := List.mem_range'_1.mp hj
      omega) with ⟨e, hn⟩ | ⟨pre, a, post, hl, e, ha, hn⟩
  · rw [e]
    cases hq : M78.upToQuote (l.drop i) with
    | none => rfl
    | some p =>
      exfalso
      obtain ⟨e1, e2⟩ := upToQuote_some hq
      have h1 : l[i + p.1.length]? = some 39 := by
        rw [← List.getElem?_drop, e1]
        simp
      have h2 := (List.getElem?_eq_some_iff.mp h1).1
      refine hn (i + p.1.length) (List.mem_range'_1.mpr ⟨by omega, ?_⟩) ((hat _).mpr h1)
      show i + p.1.length < i + (l.length + 1 - i)
      omega
  · have hsplit : ∀ k, i ≤ k → k < a → k ∈ pre := fun k h1 h2 => by
      have hlen : a = i + pre.length := by
        have h3 : (List.range' i ((S l).length + 1 - i))[pre.length]? = some a := by rw [hl]; simp
        rw [List.getElem?_range'] at h3
        · have h3 := Option.some.inj h3
          omega
        · have := congrArg List.length hl
          rw [List.length_range', List.length_append, List.length_cons] at this
          omega
      have h4 : (List.range' i ((S l).length + 1 - i))[k - i]? = some k := by
        rw [List.getElem?_range']
        · congr 1
          omega
        · have := congrArg List.length hl
          rw [List.length_range', List.length_append, List.length_cons] at this
          omega
      rw [hl, List.getElem?_append_left (by omega)] at h4
      exact List.mem_of_getElem? h4
    have h1 := (hat a).mp ha
    have h2 := (List.getElem?_eq_some_iff.mp h1).1
    have hia : i ≤ a := by
      have hm : a ∈ List.range' i ((S l).length + 1 - i) := by rw [hl]; simp
      exact (List.mem_range'_1.mp hm).1
    have hlt : (forIn (List.range' i ((S l).length + 1 - i)) ((#[] : Array Nat), i) (occBody (S l) (S [39]) (S l).length 1)).run.fst.toList[0]? = some a := by
      simpa using e
    cases hL : (forIn (List.range' i ((S l).length + 1 - i)) ((#[] : Array Nat), i) (occBody (S l) (S [39]) (S l).length 1)).run.fst.toList with
    | nil =>
      rw [hL] at hlt
      cases hlt
    | cons b r =>
      rw [hL] at hlt
      have hb : b = a := Option.some.inj hlt
      subst hb
      cases hq : M78.upToQuote (l.drop i) with
      | none =>
        exfalso
        have h3 : (l.drop i)[b - i]? = some 39 := by
          rw [List.getElem?_drop, show i + (b - i) = b by omega]
          exact h1
        exact upToQuote_none hq 39 (List.mem_of_getElem? h3) rfl
      | some p =>
        obtain ⟨e1, e2⟩ := upToQuote_some hq
        show ((b : Nat) : Int) = ((i + p.1.length : Nat) : Int)
        have h3 : (l.drop i)[b - i]? = some 39 := by
          rw [List.getElem?_drop, show i + (b - i) = b by omega]
          exact h1
        have h4 : ¬ b - i < p.1.length := fun z => by
          rw [e1, List.getElem?_append_left z] at h3
          exact e2 39 (List.mem_of_getElem? h3) rfl
        have h5 : ¬ i + p.1.length < b := fun z => by
          refine hn _ (hsplit (i + p.1.length) (by omega) z) ((hat _).mpr ?_)
          rw [← List.getElem?_drop, e1]
          simp
        omega
end K78


namespace K78
open PySem PySem.Spec PyProof.Rows L2 KB
section
variable {P : Program} {w : World} {K : PySem.W.Frag} {mg : Str → Option Value} {base : Heap}
def wordD (w : M78.Word) : D := .tup [.str w.1, .bl w.2]
def wordsD (ws : List M78.Word) : D := .lst (ws.map wordD)
def optD : Option (List M78.Word) → D
  | none => .non
  | some ws => wordsD ws
def spPartsOf : Sp := fun vs H Q _ => ∃ l : List Nat, vs = [.str (S l)] ∧ l.length ≤ 100000 ∧ ∀ v H', Same H H' → Rep (since H H') (.lst ((M78.prun [] true l).map optD)) v → Q v H'
/-- behind some turns of the program's walk -/
structure PInv (H : Hp) (l : List Nat) (H1 : Hp) (p wd : Addr) (ok : Bool) (i : Nat) (ps ws : List V) (done : List (Option (List M78.Word))) (cur : List M78.Word) : Prop where
  sm : Same H H1
  hp : H p = none
  hw : H wd = none
  ne : p ≠ wd
  ep : H1 p = some (.lst ps)
  ew : H1 wd = some (.lst ws)
  rp : Reps (hide [p, wd] (since H H1)) (done.map optD) ps
  rw : Reps (hide [p, wd] (since H H1)) (cur.map wordD) ws
  hi : i ≤ l.length
  hd : done.length ≤ i
  hc : cur.length ≤ i
  math : done ++ M78.prun cur ok (l.drop i) = M78.prun [] true l
theorem _root_.KB.Reps.len2 {G : Hp} {α : Type} {f : α → D} {as : List α} {xs : List V} (h : Reps G (as.map f) xs) : xs.length = as.length := by
  rw [h.length, List.length_map]
theorem PInv.semi {H H1 : Hp} {l : List Nat} {p wd : Addr} {ok : Bool} {i : Nat} {ps ws : List V} {done : List (Option (List M78.Word))} {cur : List M78.Word} (h : PInv H l H1 p wd ok i ps ws done cur) (hlt : i < l.length) (hs : l[i] = 59)
    {v : V} (hv : v = if ok then .ref wd else .non) {q : Addr} (hq : upd H1 p (.lst (ps ++ [v])) q = none) :
    PInv H l (upd (upd H1 p (.lst (ps ++ [v]))) q (.lst [])) p q true (i + 1) (ps ++ [v]) [] (done ++ [M78.ifOk ok cur]) [] := by
  have hqp : q ≠ p := fun z => by
    subst z
    rw [upd_same] at hq
    cases hq
  have hq1 : H1 q = none := by
    rw [upd_ne hqp] at hq
    exact hq
  have hqw : q ≠ wd := fun z => by
    subst z
    rw [h.ew] at hq1
    cases hq1
  have hHq : H q = none := h.sm.free hq1
  have mono : Same (hide [p, wd] (since H H1)) (hide [p, q] (since H (upd (upd H1 p (.lst (ps ++ [v]))) q (.lst [])))) := fun b o e => by
    obtain ⟨e1, e2⟩ := hide_some.mp e
    obtain ⟨e3, e4⟩ := since_some.mp e2
    have hb : b ≠ p ∧ b ≠ wd := by simpa using e1
    have hbq : b ≠ q := fun z => by
      subst z
      rw [hq1] at e4
      cases e4
    refine hide_some.mpr ⟨by simp [hb.1, hbq], since_some.mpr ⟨e3, ?_⟩⟩
    rw [upd_ne hbq, upd_ne hb.1]
    exact e4
  refine ⟨(h.sm.mut h.hp).mut hHq, h.hp, hHq, hqp.symm, ?_, upd_same, ?_, rfl, hlt, ?_, Nat.zero_le _, ?_⟩
  · rw [upd_ne hqp.symm, upd_same]
  · rw [List.map_append]
    refine (h.rp.mono mono).snoc ?_
    cases ok with
    | true =>
      subst hv
      refine ⟨wd, ws, rfl, hide_some.mpr ⟨by simp [h.ne.symm, hqw.symm], since_some.mpr ⟨h.hw, ?_⟩⟩, h.rw.mono mono⟩
      rw [upd_ne hqw.symm, upd_ne h.ne.symm]
      exact h.ew
    | false =>
      subst hv
      rfl
  · rw [List.length_append, List.length_singleton]
    have := h.hd
    omega
  · rw [← h.math, List.drop_eq_getElem_cons hlt, hs, M78.prun_semi, List.append_assoc]
    rfl
theorem PInv.step {H H1 : Hp} {l : List Nat} {p wd : Addr} {ok ok' : Bool} {i j : Nat} {ps ws : List V} {done : List (Option (List M78.Word))} {cur : List M78.Word} (h : PInv H l H1 p wd ok i ps ws done cur) (hj : i < j) (hl : j ≤ l.length) {wo : M78.Word} {t : Addr} (ht : H1 t = none)
    (hm : M78.prun cur ok (l.drop i) = M78.prun (cur ++ [wo]) ok' (l.drop j)) :
    PInv H l (upd (upd H1 t (.tup [.str (S wo.1), .bl wo.2])) wd (.lst (ws ++ [.ref t]))) p wd ok' j ps (ws ++ [.ref t]) done (cur ++ [wo]) := by
  have htw : t ≠ wd := fun z => by
    subst z
    rw [h.ew] at ht
    cases ht
  have htp : t ≠ p := fun z => by
    subst z
    rw [h.ep] at ht
    cases ht
  have hHt : H t = none := h.sm.free ht
  have mono : Same (hide [p, wd] (since H H1)) (hide [p, wd] (since H (upd (upd H1 t (.tup [.str (S wo.1), .bl wo.2])) wd (.lst (ws ++ [.ref t]))))) := fun b o e => by
    obtain ⟨e1, e2⟩ := hide_some.mp e
    obtain ⟨e3, e4⟩ := since_some.mp e2
    have hb : b ≠ p ∧ b ≠ wd := by simpa using e1
    refine hide_some.mpr ⟨e1, since_some.mpr ⟨e3, ?_⟩⟩
    rw [upd_ne hb.2, upd_ne (ne_of_none e4 ht)]
    exact e4
  refine ⟨(h.sm.mut hHt).mut h.hw, h.hp, h.hw, h.ne, ?_, upd_same, h.rp.mono mono, ?_, hl, ?_, ?_, ?_⟩
  · rw [upd_ne h.ne, upd_ne htp.symm]
    exact h.ep
  · rw [List.map_append]
    refine (h.rw.mono mono).snoc ⟨t, _, rfl, hide_some.mpr ⟨by simp [htw, htp], since_some.mpr ⟨hHt, ?_⟩⟩, _, _, rfl, rfl, _, _, rfl, rfl, rfl⟩
    rw [upd_ne htw, upd_same]
  · have := h.hd
    omega
  · rw [List.length_append, List.length_singleton]
    have := h.hc
    omega
  · rw [← h.math, hm]
theorem PInv.blank {H H1 : Hp} {l : List Nat} {p wd : Addr} {ok : Bool} {i : Nat} {ps ws : List V} {done : List (Option (List M78.Word))} {cur : List M78.Word} (h : PInv H l H1 p wd ok i ps ws done cur) (hlt : i < l.length) (hs : M78.isBl l[i] = true) :
    PInv H l H1 p wd ok (i + 1) ps ws done cur :=
  ⟨h.sm, h.hp, h.hw, h.ne, h.ep, h.ew, h.rp, h.rw, hlt, Nat.le_succ_of_le h.hd, Nat.le_succ_of_le h.hc, by rw [← h.math, List.drop_eq_getElem_cons hlt, M78.prun_bl hs]⟩
/-- what is handed back: the parts and one more -/
theorem PInv.out {H H1 : Hp} {l : List Nat} {p wd : Addr} {ok : Bool} {i : Nat} {ps ws : List V} {done : List (Option (List M78.Word))} {cur : List M78.Word} (h : PInv H l H1 p wd ok i ps ws done cur) {o : Option (List M78.Word)} {v : V}
    (hv : (o = some cur ∧ v = .ref wd) ∨ (o = none ∧ v = .non)) (hm : M78.prun cur ok (l.drop i) = [o]) {a b : Addr} (ha : H1 a = none) (hb : upd H1 a (.lst [v]) b = none) :
    Same H (upd (upd H1 a (.lst [v])) b (.lst (ps ++ [v]))) ∧ Rep (since H (upd (upd H1 a (.lst [v])) b (.lst (ps ++ [v])))) (.lst ((M78.prun [] true l).map optD)) (.ref b) := by
  have s1 : Same H1 (upd (upd H1 a (.lst [v])) b (.lst (ps ++ [v]))) := (Same.new ha).trans (Same.new hb)
  have hHa := h.sm.free ha
  have hHb : H b = none := (h.sm.trans (Same.new ha)).free hb
  have mono : Same (hide [p, wd] (since H H1)) (since H (upd (upd H1 a (.lst [v])) b (.lst (ps ++ [v])))) := fun c o e => by
    obtain ⟨e1, e2⟩ := hide_some.mp e
    obtain ⟨e3, e4⟩ := since_some.mp e2
    exact since_some.mpr ⟨e3, s1 _ _ e4⟩
  refine ⟨h.sm.trans s1, b, _, rfl, since_some.mpr ⟨hHb, upd_same⟩, ?_⟩
  rw [← h.math, hm, List.map_append]
  refine (h.rp.mono mono).snoc ?_
  rcases hv with ⟨rfl, rfl⟩ | ⟨rfl, rfl⟩
  · exact ⟨wd, ws, rfl, since_some.mpr ⟨h.hw, s1 _ _ h.ew⟩, h.rw.mono mono⟩
  · rfl
theorem cutS_nat {l : List Nat} {i j : Nat} : cutS (S l) (some (i : Int)) (some (j : Int)) = S ((l.drop i).take (j - i)) := by
  unfold cutS
  rw [HT.sIx_nat, HT.sIx_nat]
  show S ((l.drop (min i l.length)).take (min j l.length - min i l.length)) = _
  congr 1
  by_cases h : i ≤ l.length
  · rw [Nat.min_eq_left h]
    by_cases h2 : j ≤ l.length
    · rw [Nat.min_eq_left h2]
    · rw [Nat.min_eq_right (by omega), List.take_of_length_le (by rw [List.length_drop]; omega), List.take_of_length_le (by rw [List.length_drop]; omega)]
  · rw [List.drop_eq_nil_of_le (by omega), List.drop_eq_nil_of_le (by omega)]
    simp
theorem upToEnd_split : ∀ t : List Nat, t = (M78.upToEnd t).1 ++ (M78.upToEnd t).2
  | [] => rfl
  | c :: r => by
    unfold M78.upToEnd
    split
    · rfl
    · show c :: r = c :: ((M78.upToEnd r).1 ++ (M78.upToEnd r).2)
      rw [← upToEnd_split r]
theorem upToEnd_drop (t : List Nat) : t.drop (M78.upToEnd t).1.length = (M78.upToEnd t).2 := by
  have h := upToEnd_split t
  generalize (M78.upToEnd t).1 = a at h ⊢
  generalize (M78.upToEnd t).2 = b at h ⊢
  subst h
  exact List.drop_left
theorem upToEnd_take (t : List Nat) : t.take (M78.upToEnd t).1.length = (M78.upToEnd t).1 := by
  have h := upToEnd_split t
  generalize (M78.upToEnd t).1 = a at h ⊢
  generalize (M78.upToEnd t).2 = b at h ⊢
  subst h
  exact List.take_left
theorem okPartsOf (T : Top K w mg) : Ok P w K mg base CX0 3 "parts_of" ["text"] spPartsOf := by
  have m_len := T.m_len
  obtain ⟨tP, m_PART_END⟩ := T.m_PART_END
  obtain ⟨tBl, m_BLANKS⟩ := T.m_BLANKS
  obtain ⟨tQ, m_QUOTE⟩ := T.m_QUOTE
  have GEndsWord : Ok P w K mg base CX0 1 "ends_word" ["text", "at"] spEndsWord := okEndsWord T
  have GWordEnd : Ok P w K mg base CX0 2 "word_end" ["text", "at"] spWordEnd := okWordEnd T
  refine mkOk T.f_parts_of scPartsOf (fun vs H Q E h => ?_) (fun f cdv A outer s H vs Q E hr h => ?_)
  · obtain ⟨c, rfl, _⟩ := h
    rfl
  · obtain ⟨l, rfl, hl, q⟩ := h
    refine ⟨_, pss_cons (ps_asg (pe_tup (pa_cons (pe_lst (pa_nil)) (pa_cons (pe_lst (pa_nil)) (pa_cons (pe_bl) (pa_cons (pe_int) pa_nil))))) (pg_tup (n := 4) rfl (pgs_cons (pg_name (i := 1) scPartsOf.nd rfl (Or.inl rfl)) (pgs_cons (pg_name (i := 2) scPartsOf.nd rfl (Or.inl rfl)) (pgs_cons (pg_name (i := 3) scPartsOf.nd rfl (Or.inl rfl)) (pgs_cons (pg_name (i := 4) scPartsOf.nd rfl (Or.inl rfl)) pgs_nil))))))
  (pss_cons (ps_while PassesOwn.never (pt_cmpR op_lt (pv 4) (pe_callB call_len_str (by rfl) m_len PySem.boot_len (pa_cons (pv 0) pa_nil)) (nomark _))
  (pss_one (ps_if (pt_cmpR op_eq (pe_ix ix_str (pv 0) (pv 4) (fun _ _ => rfl)) (pe_glob (v := .str ";") rfl m_PART_END ⟨_, rfl⟩) (nomark _))
  (pss_cons (ps_expr (pe_bm PySem.F.plainAttrs_list PySem.F.slot_list_append PySem.F.type_list_append mt_append (pv 1) (pa_cons (pe_ifExp (pt_val (pv 3)) (pv 2) (pe_non)) pa_nil)))
  (pss_one (ps_par3 (i := 2) (j := 3) (l := 4) rfl scPartsOf.nd rfl rfl rfl (by decide) (by decide) (by decide) rfl rfl rfl (pa_cons (pe_lst (pa_nil)) (pa_cons (pe_bl) (pa_cons (pe_op op_add (pv 4) (pe_int)) pa_nil))) (by rfl))))
  (pss_one (ps_if (pt_cmpR op_in_sign (pe_ix ix_str (pv 0) (pv 4) (fun _ _ => rfl)) (pe_glob (v := .str " \n") rfl m_BLANKS ⟨_, rfl⟩) rfl)
  (pss_one (ps_aug (i := 4) scPartsOf.nd rfl (Or.inl rfl) (pe_int) ip_add))
  (pss_one (ps_if (pt_cmpR op_eq (pe_ix ix_str (pv 0) (pv 4) (fun _ _ => rfl)) (pe_glob (v := .str "'") rfl m_QUOTE ⟨_, rfl⟩) (nomark _))
  (pss_cons (ps_set (i := 5) scPartsOf.nd rfl (Or.inl rfl) (pe_bm PySem.F.plainAttrs_str PySem.F.slot_str_find PySem.F.type_str_find mt_find3 (pv 0) (pa_cons (pe_glob (v := .str "'") rfl m_QUOTE ⟨_, rfl⟩) (pa_cons (pe_op op_add (pv 4) (pe_int)) pa_nil))))
  (pss_cons (ps_if (pt_cmpR op_lt (pv 5) (pe_int) (nomark _))
  (pss_one (ps_ret (pe_op op_cat (pv 1) (pe_lst (pa_cons (pe_non) pa_nil)))))
  (pss_nil))
  (pss_cons (ps_expr (pe_bm PySem.F.plainAttrs_list PySem.F.slot_list_append PySem.F.type_list_append mt_append (pv 2) (pa_cons (pe_tup (pa_cons (pe_slice sl_str (pv 0) (po_some (pe_op op_add (pv 4) (pe_int))) (po_some (pv 5))) (pa_cons (pe_bl) pa_nil))) pa_nil)))
  (pss_cons (ps_set (i := 4) scPartsOf.nd rfl (Or.inl rfl) (pe_op op_add (pv 5) (pe_int)))
  (pss_one (ps_set (i := 3) scPartsOf.nd rfl (Or.inl rfl) (pe_and (pv 3) (pe_one (pcall GEndsWord (hr.mono (by decide)) (by rfl) pass0 (pa_cons (pv 0) (pa_cons (pv 4) pa_nil)))))))))))
  (pss_cons (ps_set (i := 5) scPartsOf.nd rfl (Or.inl rfl) (pcall GWordEnd (hr.mono (by decide)) (by rfl) pass0 (pa_cons (pv 0) (pa_cons (pv 4) pa_nil))))
  (pss_cons (ps_expr (pe_bm PySem.F.plainAttrs_list PySem.F.slot_list_append PySem.F.type_list_append mt_append (pv 2) (pa_cons (pe_tup (pa_cons (pe_slice sl_str (pv 0) (po_some (pv 4)) (po_some (pv 5))) (pa_cons (pe_bl) pa_nil))) pa_nil)))
  (pss_one (ps_set (i := 4) scPartsOf.nd rfl (Or.inl rfl) (pv 5))))))))))))
  (pss_one (ps_ret (pe_op op_cat (pv 1) (pe_lst (pa_cons (pe_ifExp (pt_val (pv 3)) (pv 2) (pe_non)) pa_nil)))))), ?_⟩
    (try simp only [cx_K, cx_w, rMulS, CwR.tReplC, tM1, tBM0, rPop, rExtend, rReverse, rLenS, rEqE, rNeE, rSetL, rIntI, rIntB, tBM, rAppend, rIxL, rIxT, rCat, rSlL, rSlS, gTup, tYes, wipe, tSeq, tAsg, tIfS, tRet, tRetN, tDrop, tNext, tBreak, tCont, tNever, tAug, ipI, tPar, tPar3, gName, gCons, gNil, gSub, tVar, tC, tOp, tUn, tIf, tAndV, tOrV, tNotV, tAnd, tOr, tNot, L2.tB, tTest, tCmp, tChain, tCB, tCons, tNil, tCall, tTup, tLst, tSl, tPart, tNoPart, rI, rI0, rU, rEq, rNe, scal_ii, scal_ss, scal_bb, scal_nn, scal_is, scal_si, rIxS, S_len, S_cps, S_inj, L2.start, List.map_cons, List.map_nil, List.cons_append, List.nil_append, List.append_nil, List.getElem?_cons_zero, List.getElem?_cons_succ, List.set_cons_zero, List.set_cons_succ, List.length_cons, List.length_nil, Nat.reduceAdd, Nat.reduceSub, List.replicate_succ, List.replicate_zero, Option.some.injEq, V.int.injEq, V.str.injEq, V.bl.injEq, V.ref.injEq, List.cons.injEq, and_true, true_and, exists_eq_left, exists_eq_left', exists_and_left, exists_eq, exists_eq', decide_eq_true_eq, Bool.not_eq_true', decide_eq_false_iff_not, Bool.false_eq_true, if_false, if_true, reduceIte, ite_self, CMul, CPow, CDiv])
    have hz : l.length ≤ sizeLine := sz5 (by omega)
    refine ⟨Nat.zero_le _, fun p hp => ⟨Nat.zero_le _, fun wd hwd => ⟨by decide, fun t ht => ⟨_, SqT.of upd_same, rfl, _, _, rfl, _, _, rfl, _, _, rfl, _, _, rfl, rfl, ?_⟩⟩⟩⟩
    have hne : wd ≠ p := fun z => by
      subst z
      rw [upd_same] at hwd
      cases hwd
    have hwd1 : H wd = none := by
      rw [upd_ne hne] at hwd
      exact hwd
    have s3 : Same (upd (upd H p (.lst [])) wd (.lst [])) (upd (upd (upd H p (.lst [])) wd (.lst [])) t (.tup [.ref p, .ref wd, .bl true, .int 0])) := Same.new ht
    have I0 : PInv H l (upd (upd (upd H p (.lst [])) wd (.lst [])) t (.tup [.ref p, .ref wd, .bl true, .int 0])) p wd true 0 [] [] [] [] :=
      ⟨((Same.new hp).trans (Same.new hwd)).trans s3, hp, hwd1, hne.symm, s3 _ _ (by rw [upd_ne hne.symm, upd_same]), s3 _ _ upd_same, rfl, rfl, Nat.zero_le _, Nat.zero_le _, Nat.zero_le _, rfl⟩
    refine ⟨fun m σ H1 => ∃ (p wd : Addr) (ok : Bool) (i : Nat) (ps ws : List V) (done : List (Option (List M78.Word))) (cur : List M78.Word) (e5 : Option V), σ = [some (.str (S l)), some (.ref p), some (.ref wd), some (.bl ok), some (.int (i : Int)), e5] ∧ m + i = l.length ∧ PInv H l H1 p wd ok i ps ws done cur,
      ⟨l.length, p, wd, true, 0, [], [], [], [], none, rfl, rfl, I0⟩, fun m σ H1 hW => ?_⟩
    clear I0 s3 hwd1 hne ht hwd hp
    clear t wd p
    obtain ⟨p, wd, ok, i, ps, ws, done, cur, e5, rfl, hm, I⟩ := hW
    (try simp only [cx_K, cx_w, rMulS, CwR.tReplC, tM1, tBM0, rPop, rExtend, rReverse, rLenS, rEqE, rNeE, rSetL, rIntI, rIntB, tBM, rAppend, rIxL, rIxT, rCat, rSlL, rSlS, gTup, tYes, wipe, tSeq, tAsg, tIfS, tRet, tRetN, tDrop, tNext, tBreak, tCont, tNever, tAug, ipI, tPar, tPar3, gName, gCons, gNil, gSub, tVar, tC, tOp, tUn, tIf, tAndV, tOrV, tNotV, tAnd, tOr, tNot, L2.tB, tTest, tCmp, tChain, tCB, tCons, tNil, tCall, tTup, tLst, tSl, tPart, tNoPart, rI, rI0, rU, rEq, rNe, scal_ii, scal_ss, scal_bb, scal_nn, scal_is, scal_si, rIxS, S_len, S_cps, S_inj, L2.start, List.map_cons, List.map_nil, List.cons_append, List.nil_append, List.append_nil, List.getElem?_cons_zero, List.getElem?_cons_succ, List.set_cons_zero, List.set_cons_succ, List.length_cons, List.length_nil, Nat.reduceAdd, Nat.reduceSub, List.replicate_succ, List.replicate_zero, Option.some.injEq, V.int.injEq, V.str.injEq, V.bl.injEq, V.ref.injEq, List.cons.injEq, and_true, true_and, exists_eq_left, exists_eq_left', exists_and_left, exists_eq, exists_eq', decide_eq_true_eq, Bool.not_eq_true', decide_eq_false_iff_not, Bool.false_eq_true, if_false, if_true, reduceIte, ite_self, CMul, CPow, CDiv])
    refine ⟨hz, ?_⟩
    have hpsl : ps.length ≤ 100000 := by
      rw [I.rp.len2]
      have := I.hd
      have := I.hi
      omega
    have hwsl : ws.length ≤ 100000 := by
      rw [I.rw.len2]
      have := I.hc
      have := I.hi
      omega
    by_cases hlt : (i : Int) < (l.length : Int)
    · have hlt' : i < l.length := by omega
      rw [if_pos hlt]
      have hget : atI l (i : Int) = some l[i] := at_nat (List.getElem?_eq_getElem hlt')
      refine ⟨_, fun σ' H' hN => hN, hz, l[i], hget, ?_⟩
      simp only [c_semi, c_blk, c_q]
      have e1 : ∀ k, (({ cps := #[l[i]] } : Str) = S [k]) ↔ l[i] = k := fun k => by
        show (S [l[i]] = S [k]) ↔ _
        rw [S_inj]
        simp
      simp only [e1]
      by_cases h59 : l[i] = 59
      · rw [if_pos h59]
        (try simp only [cx_K, cx_w, rMulS, CwR.tReplC, tM1, tBM0, rPop, rExtend, rReverse, rLenS, rEqE, rNeE, rSetL, rIntI, rIntB, tBM, rAppend, rIxL, rIxT, rCat, rSlL, rSlS, gTup, tYes, wipe, tSeq, tAsg, tIfS, tRet, tRetN, tDrop, tNext, tBreak, tCont, tNever, tAug, ipI, tPar, tPar3, gName, gCons, gNil, gSub, tVar, tC, tOp, tUn, tIf, tAndV, tOrV, tNotV, tAnd, tOr, tNot, L2.tB, tTest, tCmp, tChain, tCB, tCons, tNil, tCall, tTup, tLst, tSl, tPart, tNoPart, rI, rI0, rU, rEq, rNe, scal_ii, scal_ss, scal_bb, scal_nn, scal_is, scal_si, rIxS, S_len, S_cps, S_inj, L2.start, List.map_cons, List.map_nil, List.cons_append, List.nil_append, List.append_nil, List.getElem?_cons_zero, List.getElem?_cons_succ, List.set_cons_zero, List.set_cons_succ, List.length_cons, List.length_nil, Nat.reduceAdd, Nat.reduceSub, List.replicate_succ, List.replicate_zero, Option.some.injEq, V.int.injEq, V.str.injEq, V.bl.injEq, V.ref.injEq, List.cons.injEq, and_true, true_and, exists_eq_left, exists_eq_left', exists_and_left, exists_eq, exists_eq', decide_eq_true_eq, Bool.not_eq_true', decide_eq_false_iff_not, Bool.false_eq_true, if_false, if_true, reduceIte, ite_self, CMul, CPow, CDiv])
        refine ⟨.inl ⟨rfl, _, SqL.of I.ep⟩, ?_⟩
        have go : ∀ (v : V), v = (if ok then .ref wd else .non) → ∀ (b : Addr), upd H1 p (.lst (ps ++ [v])) b = none → PInv H l (upd (upd H1 p (.lst (ps ++ [v]))) b (.lst [])) p b true (i + 1) (ps ++ [v]) [] (done ++ [M78.ifOk ok cur]) [] :=
          fun v hv b hb => I.semi hlt' h59 hv hb
        refine ite2 (fun hk => ?_) (fun hk => ?_)
        · subst hk
          exact ⟨ps, I.ep, sz5' (by omega), Nat.zero_le _, fun b hb => ⟨_, _, _, ⟨rfl, rfl, rfl⟩, m - 1, by omega, p, b, true, i + 1, _, _, _, _, e5, ⟨rfl, rfl, rfl, by simp, rfl⟩, by omega, go _ rfl b hb⟩⟩
        · have hk : ok = false := by simpa using hk
          subst hk
          exact ⟨ps, I.ep, sz5' (by omega), Nat.zero_le _, fun b hb => ⟨_, _, _, ⟨rfl, rfl, rfl⟩, m - 1, by omega, p, b, true, i + 1, _, _, _, _, e5, ⟨rfl, rfl, rfl, by simp, rfl⟩, by omega, go _ rfl b hb⟩⟩
      · rw [if_neg h59]
        refine ⟨hz, l[i], hget, ?_⟩
        have hblk : l[i] ∈ [32, 10] ↔ M78.isBl l[i] = true := by
          simp [M78.isBl]
        simp only [hblk]
        by_cases hb : M78.isBl l[i] = true
        · rw [if_pos hb]
          (try simp only [cx_K, cx_w, rMulS, CwR.tReplC, tM1, tBM0, rPop, rExtend, rReverse, rLenS, rEqE, rNeE, rSetL, rIntI, rIntB, tBM, rAppend, rIxL, rIxT, rCat, rSlL, rSlS, gTup, tYes, wipe, tSeq, tAsg, tIfS, tRet, tRetN, tDrop, tNext, tBreak, tCont, tNever, tAug, ipI, tPar, tPar3, gName, gCons, gNil, gSub, tVar, tC, tOp, tUn, tIf, tAndV, tOrV, tNotV, tAnd, tOr, tNot, L2.tB, tTest, tCmp, tChain, tCB, tCons, tNil, tCall, tTup, tLst, tSl, tPart, tNoPart, rI, rI0, rU, rEq, rNe, scal_ii, scal_ss, scal_bb, scal_nn, scal_is, scal_si, rIxS, S_len, S_cps, S_inj, L2.start, List.map_cons, List.map_nil, List.cons_append, List.nil_append, List.append_nil, List.getElem?_cons_zero, List.getElem?_cons_succ, List.set_cons_zero, List.set_cons_succ, List.length_cons, List.length_nil, Nat.reduceAdd, Nat.reduceSub, List.replicate_succ, List.replicate_zero, Option.some.injEq, V.int.injEq, V.str.injEq, V.bl.injEq, V.ref.injEq, List.cons.injEq, and_true, true_and, exists_eq_left, exists_eq_left', exists_and_left, exists_eq, exists_eq', decide_eq_true_eq, Bool.not_eq_true', decide_eq_false_iff_not, Bool.false_eq_true, if_false, if_true, reduceIte, ite_self, CMul, CPow, CDiv])
          exact ⟨m - 1, by omega, p, wd, ok, i + 1, ps, ws, done, cur, e5, ⟨rfl, rfl, rfl, by simp, rfl⟩, by omega, I.blank hlt' hb⟩
        · rw [if_neg hb]
          have hEnd : M78.isEnd l[i] = false := by
            have hb : M78.isBl l[i] = false := by simpa using hb
            unfold M78.isBl at hb
            unfold M78.isEnd
            rw [hb]
            simpa using h59
          have hdrop := List.drop_eq_getElem_cons hlt'
          refine ⟨hz, l[i], hget, ?_⟩
          simp only [e1]
          have hlenOut : ∀ v : V, ps.length + [v].length ≤ sizeLine := fun v => by
            rw [List.length_singleton]
            exact sz5 (by omega)
          by_cases h39 : l[i] = 39
          · rw [if_pos h39]
            (try simp only [cx_K, cx_w, rMulS, CwR.tReplC, tM1, tBM0, rPop, rExtend, rReverse, rLenS, rEqE, rNeE, rSetL, rIntI, rIntB, tBM, rAppend, rIxL, rIxT, rCat, rSlL, rSlS, gTup, tYes, wipe, tSeq, tAsg, tIfS, tRet, tRetN, tDrop, tNext, tBreak, tCont, tNever, tAug, ipI, tPar, tPar3, gName, gCons, gNil, gSub, tVar, tC, tOp, tUn, tIf, tAndV, tOrV, tNotV, tAnd, tOr, tNot, L2.tB, tTest, tCmp, tChain, tCB, tCons, tNil, tCall, tTup, tLst, tSl, tPart, tNoPart, rI, rI0, rU, rEq, rNe, scal_ii, scal_ss, scal_bb, scal_nn, scal_is, scal_si, rIxS, S_len, S_cps, S_inj, L2.start, List.map_cons, List.map_nil, List.cons_append, List.nil_append, List.append_nil, List.getElem?_cons_zero, List.getElem?_cons_succ, List.set_cons_zero, List.set_cons_succ, List.length_cons, List.length_nil, Nat.reduceAdd, Nat.reduceSub, List.replicate_succ, List.replicate_zero, Option.some.injEq, V.int.injEq, V.str.injEq, V.bl.injEq, V.ref.injEq, List.cons.injEq, and_true, true_and, exists_eq_left, exists_eq_left', exists_and_left, exists_eq, exists_eq', decide_eq_true_eq, Bool.not_eq_true', decide_eq_false_iff_not, Bool.false_eq_true, if_false, if_true, reduceIte, ite_self, CMul, CPow, CDiv])
            refine ⟨rfl, _, _, ⟨rfl, rfl⟩, ?_⟩
            have hfind := find3_q l (i + 1) hlt'
            rw [show ((i : Int) + 1) = ((i + 1 : Nat) : Int) by omega, hfind]
            rw [h39] at hdrop
            cases hq : M78.upToQuote (l.drop (i + 1)) with
            | none =>
              simp only []
              rw [if_pos (by decide)]
              have hmath : M78.prun cur ok (l.drop i) = [none] := by rw [hdrop, M78.prun_q0 hq]
              refine ⟨by decide, fun a ha => ⟨ps, ?_, _, upd_same, hlenOut _, fun b hb => ?_⟩⟩
              · rw [upd_ne (ne_of_none I.ep ha)]
                exact I.ep
              · obtain ⟨s1, r1⟩ := I.out (.inr ⟨rfl, rfl⟩) hmath ha hb
                exact q _ _ s1 r1
            | some pr =>
              obtain ⟨e2, e3⟩ := upToQuote_some hq
              simp only []
              have hlen : i + 1 + pr.1.length + 1 + pr.2.length = l.length := by
                have := congrArg List.length e2
                rw [List.length_drop, List.length_append, List.length_cons] at this
                omega
              have hdr2 : l.drop (i + 1 + pr.1.length + 1) = pr.2 := by
                rw [show i + 1 + pr.1.length + 1 = (i + 1) + (pr.1.length + 1) by omega, ← List.drop_drop, e2, List.drop_append]
                simp
              have hcut : cutS (S l) (some ((i + 1 : Nat) : Int)) (some ((i + 1 + pr.1.length : Nat) : Int)) = S pr.1 := by
                rw [cutS_nat, e2, show i + 1 + pr.1.length - (i + 1) = pr.1.length by omega, List.take_left]
              rw [if_neg (by omega), hcut]
              refine ⟨.inl ⟨rfl, _, SqL.of I.ew⟩, hz, by decide, fun t ht => ⟨ws, ?_, sz5' (by omega), ?_⟩⟩
              · rw [upd_ne (ne_of_none I.ew ht)]
                exact I.ew
              · have hmath : M78.prun cur ok (l.drop i) = M78.prun (cur ++ [(pr.1, true)]) (ok && M78.endsHere pr.2) (l.drop (i + 1 + pr.1.length + 1)) := by
                  rw [hdrop, M78.prun_q1 hq, hdr2]
                have I2 := I.step (ok' := ok && M78.endsHere pr.2) (j := i + 1 + pr.1.length + 1) (by omega) (by omega) (wo := (pr.1, true)) ht hmath
                refine ite2 (fun hk => ?_) (fun hk => ?_)
                · refine ⟨l, i + 1 + pr.1.length + 1, rfl, hl, by omega, ?_⟩
                  rw [hdr2]
                  exact ⟨l.length - (i + 1 + pr.1.length + 1), by omega, p, wd, M78.endsHere pr.2, i + 1 + pr.1.length + 1, _, _, _, _, _, ⟨rfl, rfl, rfl, rfl, rfl⟩, by omega, by simpa [hk] using I2⟩
                · have hk : ok = false := by simpa using hk
                  subst hk
                  exact ⟨l.length - (i + 1 + pr.1.length + 1), by omega, p, wd, false, i + 1 + pr.1.length + 1, _, _, _, _, _, ⟨rfl, rfl, rfl, rfl, rfl⟩, by omega, by simpa using I2⟩
          · rw [if_neg h39]
            (try simp only [cx_K, cx_w, rMulS, CwR.tReplC, tM1, tBM0, rPop, rExtend, rReverse, rLenS, rEqE, rNeE, rSetL, rIntI, rIntB, tBM, rAppend, rIxL, rIxT, rCat, rSlL, rSlS, gTup, tYes, wipe, tSeq, tAsg, tIfS, tRet, tRetN, tDrop, tNext, tBreak, tCont, tNever, tAug, ipI, tPar, tPar3, gName, gCons, gNil, gSub, tVar, tC, tOp, tUn, tIf, tAndV, tOrV, tNotV, tAnd, tOr, tNot, L2.tB, tTest, tCmp, tChain, tCB, tCons, tNil, tCall, tTup, tLst, tSl, tPart, tNoPart, rI, rI0, rU, rEq, rNe, scal_ii, scal_ss, scal_bb, scal_nn, scal_is, scal_si, rIxS, S_len, S_cps, S_inj, L2.start, List.map_cons, List.map_nil, List.cons_append, List.nil_append, List.append_nil, List.getElem?_cons_zero, List.getElem?_cons_succ, List.set_cons_zero, List.set_cons_succ, List.length_cons, List.length_nil, Nat.reduceAdd, Nat.reduceSub, List.replicate_succ, List.replicate_zero, Option.some.injEq, V.int.injEq, V.str.injEq, V.bl.injEq, V.ref.injEq, List.cons.injEq, and_true, true_and, exists_eq_left, exists_eq_left', exists_and_left, exists_eq, exists_eq', decide_eq_true_eq, Bool.not_eq_true', decide_eq_false_iff_not, Bool.false_eq_true, if_false, if_true, reduceIte, ite_self, CMul, CPow, CDiv])
            refine ⟨l, i, rfl, hl, I.hi, .inl ⟨rfl, _, SqL.of I.ew⟩, _, rfl, hz, by decide, fun t ht => ?_⟩
            have e2 := upToEnd_split (l.drop i)
            have e3 : M78.upToEnd (l.drop i) = (l[i] :: (M78.upToEnd (l.drop (i + 1))).1, (M78.upToEnd (l.drop (i + 1))).2) := by
              rw [hdrop, M78.upToEnd, if_neg (by rw [hEnd]; decide)]
            have hlen : i + (M78.upToEnd (l.drop i)).1.length + (M78.upToEnd (l.drop i)).2.length = l.length := by
              have := congrArg List.length e2
              rw [List.length_drop, List.length_append] at this
              omega
            have hpos : 1 ≤ (M78.upToEnd (l.drop i)).1.length := by
              rw [e3, List.length_cons]
              omega
            have hdr2 : l.drop (i + (M78.upToEnd (l.drop i)).1.length) = (M78.upToEnd (l.drop i)).2 := by
              rw [← List.drop_drop, upToEnd_drop]
            have hcut : cutS (S l) (some (i : Int)) (some ((i + (M78.upToEnd (l.drop i)).1.length : Nat) : Int)) = S (M78.upToEnd (l.drop i)).1 := by
              rw [cutS_nat, show i + (M78.upToEnd (l.drop i)).1.length - i = (M78.upToEnd (l.drop i)).1.length by omega, upToEnd_take]
            rw [hcut]
            refine ⟨ws, ?_, sz5' (by omega), l.length - (i + (M78.upToEnd (l.drop i)).1.length), by omega, p, wd, ok, i + (M78.upToEnd (l.drop i)).1.length, _, _, _, _, _, ⟨rfl, rfl, rfl, rfl, rfl⟩, by omega, I.step (wo := ((M78.upToEnd (l.drop i)).1, false)) (by omega) (by omega) ht ?_⟩
            · rw [upd_ne (ne_of_none I.ew ht)]
              exact I.ew
            · rw [hdr2, e3]
              conv => lhs; rw [hdrop]
              rw [M78.prun_w hEnd h39]
    · rw [if_neg hlt]
      have hi2 : l.drop i = [] := List.drop_eq_nil_of_le (by omega)
      have hlenOut : ∀ v : V, (ps ++ [v]).length ≤ sizeLine := fun v => by
        rw [List.length_append, List.length_singleton]
        exact sz5 (by omega)
      have fin : ∀ (o : Option (List M78.Word)) (v : V), (o = some cur ∧ v = .ref wd) ∨ (o = none ∧ v = .non) → M78.prun cur ok (l.drop i) = [o] → 1 ≤ sizeLine ∧ ∀ (a : Addr), H1 a = none → ∃ x, upd H1 a (.lst [v]) p = some (.lst x) ∧ ∃ x1, upd H1 a (.lst [v]) a = some (.lst x1) ∧ x.length + x1.length ≤ sizeLine ∧
          ∀ (b : Addr), upd H1 a (.lst [v]) b = none → Q (.ref b) (upd (upd H1 a (.lst [v])) b (.lst (x ++ x1))) := fun o v hv hmath =>
        ⟨by decide, fun a ha => ⟨ps, by rw [upd_ne (ne_of_none I.ep ha)]; exact I.ep, _, upd_same, (by have := hlenOut v; rwa [List.length_append] at this), fun b hb => by
          obtain ⟨s1, r1⟩ := I.out hv hmath ha hb
          exact q _ _ s1 r1⟩⟩
      refine ite2 (fun hk => ?_) (fun hk => ?_)
      · subst hk
        exact fin (some cur) _ (.inl ⟨rfl, rfl⟩) (by rw [hi2, M78.prun_nil]; rfl)
      · have hk : ok = false := by simpa using hk
        subst hk
        exact fin none _ (.inr ⟨rfl, rfl⟩) (by rw [hi2, M78.prun_nil]; rfl)
end
end K78


namespace K78
open PySem PySem.Spec PyProof.Rows L2 KB
section
variable {P : Program} {w : World} {K : PySem.W.Frag} {mg : Str → Option Value} {base : Heap}
def spPick : Sp := fun vs H Q _ => ∃ (P : Addr) (m : Int), vs = [.ref P, .int m] ∧ PoolAt P H ∧ 0 < m ∧ ∀ r H', 0 ≤ r → r < m → Pst P H H' → Q (.int r) H'
theorem okPick (T : Top K w mg) : Ok P w K mg base CX0 1 "_law_pick" ["pool", "many"] spPick := by
  have m_len := T.m_len
  have m_int := T.m_int
  refine mkOk T.f__law_pick scLawPick (fun vs H Q E h => ?_) (fun f cdv A outer s H vs Q E hr h => ?_)
  · obtain ⟨_, _, rfl, _⟩ := h
    rfl
  · obtain ⟨Pa, m, rfl, hP, hm, q⟩ := h
    obtain ⟨p, r, eP, h1, h2, h3⟩ := hP
    refine ⟨_, pss_cons (ps_set (i := 2) scLawPick.nd rfl (Or.inl rfl) (pe_ix ix_list (pv 0) (pe_int) (fun _ _ => rfl)))
  (pss_cons (ps_asg (pe_op op_add (pv 2) (pe_int)) (pg_sub (pv 0) (pe_int) set_list))
  (pss_cons (ps_if (pt_cmpR op_eq (pe_ix ix_list (pv 0) (pe_int) (fun _ _ => rfl)) (pe_callB (call_len_seqK (K := K) rfl) (by rfl) m_len PySem.boot_len (pa_cons (pv 0) pa_nil)) (nomark _))
  (pss_one (ps_asg (pe_int) (pg_sub (pv 0) (pe_int) set_list)))
  (pss_nil))
  (pss_one (ps_ret (pe_op op_mod (pe_callTy call_intI (by rfl) m_int (by decide +kernel) (pa_cons (pe_ix ix_list (pv 0) (pv 2) (fun _ _ => rfl)) pa_nil)) (pv 1)))))), ?_⟩
    (try simp only [cx_K, cx_w, rMulS, CwR.tReplC, tM1, tBM0, rPop, rExtend, rReverse, rLenS, rEqE, rNeE, rSetL, rIntI, rIntB, tBM, rAppend, rIxL, rIxT, rCat, rSlL, rSlS, gTup, tYes, wipe, tSeq, tAsg, tIfS, tRet, tRetN, tDrop, tNext, tBreak, tCont, tNever, tAug, ipI, tPar, tPar3, gName, gCons, gNil, gSub, tVar, tC, tOp, tUn, tIf, tAndV, tOrV, tNotV, tAnd, tOr, tNot, L2.tB, tTest, tCmp, tChain, tCB, tCons, tNil, tCall, tTup, tLst, tSl, tPart, tNoPart, rI, rI0, rU, rEq, rNe, scal_ii, scal_ss, scal_bb, scal_nn, scal_is, scal_si, rIxS, S_len, S_cps, S_inj, L2.start, List.map_cons, List.map_nil, List.cons_append, List.nil_append, List.append_nil, List.getElem?_cons_zero, List.getElem?_cons_succ, List.set_cons_zero, List.set_cons_succ, List.length_cons, List.length_nil, Nat.reduceAdd, Nat.reduceSub, List.replicate_succ, List.replicate_zero, Option.some.injEq, V.int.injEq, V.str.injEq, V.bl.injEq, V.ref.injEq, List.cons.injEq, and_true, true_and, exists_eq_left, exists_eq_left', exists_and_left, exists_eq, exists_eq', decide_eq_true_eq, Bool.not_eq_true', decide_eq_false_iff_not, Bool.false_eq_true, if_false, if_true, reduceIte, ite_self, CMul, CPow, CDiv])
    have hz : ∀ {n : Nat}, 0 < n → ixN n 0 = some 0 := fun h => ixN_in (j := 0) h
    have hset : ∀ k : Int, (V.int (p : Int) :: r.map V.int).set 0 (V.int k) = V.int k :: r.map V.int := fun k => rfl
    have hget : (V.int ((p : Int) + 1) :: r.map V.int)[p]? = some (V.int (r[p - 1]'(by omega))) := by
      obtain ⟨q, rfl⟩ : ∃ q, p = q + 1 := ⟨p - 1, by omega⟩
      rw [List.getElem?_cons_succ, List.getElem?_map, List.getElem?_eq_getElem (by omega)]
      rfl
    have hget1 : ∀ k : Int, (V.int k :: r.map V.int)[p]? = some (V.int (r[p - 1]'(by omega))) := fun k => by
      rw [← hget]
      obtain ⟨q, rfl⟩ : ∃ q, p = q + 1 := ⟨p - 1, by omega⟩
      rfl
    refine ⟨_, SqL.of eP, _, at_nat (i := 0) rfl, _, rfl, _, eP, 0, hz (by simp), ?_⟩
    rw [hset]
    refine ⟨_, SqL.of upd_same, _, at_nat (i := 0) rfl, _, .inl (SqL.of upd_same), rfl, ?_⟩
    have fin : ∀ (k : Nat) (H' : Hp), 1 ≤ k → k ≤ r.length → H' Pa = some (.lst (V.int (k : Int) :: r.map V.int)) → Kp Pa H H' → ∃ x x_3, V.int (p : Int) = V.int x_3 ∧ SqL K H' Pa x ∧ ∃ x_4, atI x x_3 = some x_4 ∧ ∃ i, x_4 = V.int i ∧ 0 < m ∧ Q (V.int (i % m)) H' := fun k H' k1 k2 e kp =>
      ⟨_, _, rfl, SqL.of e, _, at_nat (hget1 _), _, rfl, hm, q _ _ (Int.emod_nonneg _ (by omega)) (Int.emod_lt_of_pos _ hm) ⟨kp, k, r, e, k1, k2, h3⟩⟩
    refine ite2 (fun hc => ?_) (fun hc => ?_)
    · refine ⟨_, upd_same, 0, hz (by simp), ?_⟩
      exact fin 1 _ (by omega) (by omega) upd_same (Kp.at.trans Kp.at)
    · have hc : ¬ (p : Int) + 1 = (((V.int ((p : Int) + 1) :: r.map V.int).length : Nat) : Int) := fun z => hc (congrArg V.int z)
      rw [List.length_cons, List.length_map] at hc
      exact fin (p + 1) _ (by omega) (by omega) upd_same Kp.at
def spPool (K : PySem.W.Frag) : Sp := fun vs H Q _ => ∃ (a : Addr) (ns : List Int), vs = [.ref a] ∧ SqL K H a (ns.map V.int) ∧ ns.length ≤ 63 ∧ ∀ p r H', Same H H' → H p = none → H' p = some (.lst ((r : List Int).map V.int)) → 300 ≤ r.length → r.length ≤ 4999 → Q (.ref p) H'
def PoolInv (a : Addr) (H : Hp) (lo n : Nat) (st : Bool) (σ : L2.St) (H1 : Hp) : Prop := ∃ (p : Addr) (r : List Int) (e2 e3 e4 e5 : Option V), σ = [some (V.ref a), some (.ref p), e2, e3, e4, e5] ∧ Same H H1 ∧ H p = none ∧ H1 p = some (.lst (r.map V.int)) ∧ lo ≤ r.length ∧ r.length ≤ n ∧ (st = true → ∃ x : Int, e5 = some (.int x))
theorem app_int {H H1 : Hp} {p : Addr} {r : List Int} (y : Int) : upd H1 p (.lst (r.map V.int ++ [V.int y])) p = some (.lst ((r ++ [y]).map V.int)) := by
  rw [upd_same, List.map_append]
  rfl
theorem okPool (T : Top K w mg) : Ok P w K mg base CX0 1 "_law_pool" ["script"] (spPool K) := by
  have m_range := T.m_range
  have m_int := T.m_int
  refine mkOk T.f__law_pool scLawPool (fun vs H Q E h => ?_) (fun f cdv A outer s H vs Q E hr h => ?_)
  · obtain ⟨_, _, rfl, _⟩ := h
    rfl
  · obtain ⟨a, ns, rfl, hS, hlen, q⟩ := h
    refine ⟨_, pss_cons (ps_set (i := 1) scLawPool.nd rfl (Or.inl rfl) (pe_lst (pa_nil)))
  (pss_cons (ps_for PassesOwn.never rfl (pi_list (pv 0)) (pg_name (i := 2) scLawPool.nd rfl (Or.inl rfl))
  (pss_cons (ps_set (i := 3) scLawPool.nd rfl (Or.inl rfl) (pe_op op_mod (pe_callTy call_intI (by rfl) m_int (by decide +kernel) (pa_cons (pv 2) pa_nil)) (pe_op op_pow (pe_int) (pe_int))))
  (pss_one (ps_if (pt_cmpR op_ge (pv 3) (pe_op op_pow (pe_int) (pe_int)) (nomark _))
  (pss_one (ps_for PassesOwn.never rfl (pi_range1 rfl m_range (pa_cons (pe_int) pa_nil)) (pg_name (i := 4) scLawPool.nd rfl (Or.inl rfl))
  (pss_cons (ps_expr (pe_bm PySem.F.plainAttrs_list PySem.F.slot_list_append PySem.F.type_list_append mt_append (pv 1) (pa_cons (pe_op op_mod (pe_callTy call_intI (by rfl) m_int (by decide +kernel) (pa_cons (pv 3) pa_nil)) (pe_int)) pa_nil)))
  (pss_cons (ps_set (i := 3) scLawPool.nd rfl (Or.inl rfl) (pe_callTy call_intI (by rfl) m_int (by decide +kernel) (pa_cons (pe_op op_fdiv (pv 3) (pe_int)) pa_nil)))
  (pss_one (ps_if (pt_cmpR op_eq (pv 3) (pe_int) (nomark _))
  (pss_one (ps_break))
  (pss_nil)))))))
  (pss_one (ps_set (i := 1) scLawPool.nd rfl (Or.inl rfl) (pe_op op_cat (pv 1) (pe_lst (pa_cons (pe_op op_mod (pe_callTy call_intI (by rfl) m_int (by decide +kernel) (pa_cons (pv 3) pa_nil)) (pe_int)) (pa_cons (pe_op op_mod (pe_callTy call_intI (by rfl) m_int (by decide +kernel) (pa_cons (pe_op op_fdiv (pv 3) (pe_int)) pa_nil)) (pe_int)) pa_nil))))))))))
  (pss_cons (ps_set (i := 5) scLawPool.nd rfl (Or.inl rfl) (pe_int))
  (pss_cons (ps_for PassesOwn.never rfl (pi_list (pv 0)) (pg_name (i := 2) scLawPool.nd rfl (Or.inl rfl))
  (pss_one (ps_set (i := 5) scLawPool.nd rfl (Or.inl rfl) (pe_op op_mod (pe_op op_add (pe_op op_mul (pv 5) (pe_int)) (pe_callTy call_intI (by rfl) m_int (by decide +kernel) (pa_cons (pv 2) pa_nil))) (pe_int)))))
  (pss_cons (ps_for PassesOwn.never rfl (pi_range1 rfl m_range (pa_cons (pe_int) pa_nil)) (pg_name (i := 4) scLawPool.nd rfl (Or.inl rfl))
  (pss_cons (ps_set (i := 5) scLawPool.nd rfl (Or.inl rfl) (pe_op op_mod (pe_op op_add (pe_op op_mul (pv 5) (pe_int)) (pe_int)) (pe_int)))
  (pss_one (ps_expr (pe_bm PySem.F.plainAttrs_list PySem.F.slot_list_append PySem.F.type_list_append mt_append (pv 1) (pa_cons (pe_op op_mod (pe_callTy call_intI (by rfl) m_int (by decide +kernel) (pa_cons (pe_op op_fdiv (pv 5) (pe_int)) pa_nil)) (pe_int)) pa_nil))))))
  (pss_one (ps_ret (pv 1))))))), ?_⟩
    (try simp only [cx_K, cx_w, rMulS, CwR.tReplC, tM1, tBM0, rPop, rExtend, rReverse, rLenS, rEqE, rNeE, rSetL, rIntI, rIntB, tBM, rAppend, rIxL, rIxT, rCat, rSlL, rSlS, gTup, tYes, wipe, tSeq, tAsg, tIfS, tRet, tRetN, tDrop, tNext, tBreak, tCont, tNever, tAug, ipI, tPar, tPar3, gName, gCons, gNil, gSub, tVar, tC, tOp, tUn, tIf, tAndV, tOrV, tNotV, tAnd, tOr, tNot, L2.tB, tTest, tCmp, tChain, tCB, tCons, tNil, tCall, tTup, tLst, tSl, tPart, tNoPart, rI, rI0, rU, rEq, rNe, scal_ii, scal_ss, scal_bb, scal_nn, scal_is, scal_si, rIxS, S_len, S_cps, S_inj, L2.start, List.map_cons, List.map_nil, List.cons_append, List.nil_append, List.append_nil, List.getElem?_cons_zero, List.getElem?_cons_succ, List.set_cons_zero, List.set_cons_succ, List.length_cons, List.length_nil, Nat.reduceAdd, Nat.reduceSub, List.replicate_succ, List.replicate_zero, Option.some.injEq, V.int.injEq, V.str.injEq, V.bl.injEq, V.ref.injEq, List.cons.injEq, and_true, true_and, exists_eq_left, exists_eq_left', exists_and_left, exists_eq, exists_eq', decide_eq_true_eq, Bool.not_eq_true', decide_eq_false_iff_not, Bool.false_eq_true, if_false, if_true, reduceIte, ite_self, CMul, CPow, CDiv])
    refine ⟨Nat.zero_le _, fun p hp => ?_⟩
    have hS' : ∀ {H1 : Hp}, Same H H1 → SqL K H1 a (ns.map V.int) := fun s => s.seq hS
    refine ⟨_, rfl, a, rfl, ⟨_, hS' (Same.new hp)⟩, for_list (xs := ns.map V.int) (fun i => PoolInv a H 0 (60 * i) false) ?_ ?_ ?_ ?_⟩
    · exact ⟨p, [], _, _, _, _, rfl, Same.new hp, hp, upd_same, Nat.zero_le _, Nat.zero_le _, fun z => nomatch z⟩
    · rintro i σ H1 _ ⟨p, r, e2, e3, e4, e5, rfl, sm, _⟩
      exact hS' sm
    · rintro i x σ H1 hx ⟨p, r, e2, e3, e4, e5, rfl, sm, hp, ep, _, hr', _⟩
      obtain ⟨c, hc, rfl⟩ : ∃ c, ns[i]? = some c ∧ V.int c = x := by
        rw [List.getElem?_map] at hx
        obtain ⟨c, hc, e⟩ := Option.map_eq_some_iff.mp hx
        exact ⟨c, hc, e⟩
      have hi63 : i < 63 := Nat.lt_of_lt_of_le (List.getElem?_eq_some_iff.mp hc).1 hlen
      (try simp only [cx_K, cx_w, rMulS, CwR.tReplC, tM1, tBM0, rPop, rExtend, rReverse, rLenS, rEqE, rNeE, rSetL, rIntI, rIntB, tBM, rAppend, rIxL, rIxT, rCat, rSlL, rSlS, gTup, tYes, wipe, tSeq, tAsg, tIfS, tRet, tRetN, tDrop, tNext, tBreak, tCont, tNever, tAug, ipI, tPar, tPar3, gName, gCons, gNil, gSub, tVar, tC, tOp, tUn, tIf, tAndV, tOrV, tNotV, tAnd, tOr, tNot, L2.tB, tTest, tCmp, tChain, tCB, tCons, tNil, tCall, tTup, tLst, tSl, tPart, tNoPart, rI, rI0, rU, rEq, rNe, scal_ii, scal_ss, scal_bb, scal_nn, scal_is, scal_si, rIxS, S_len, S_cps, S_inj, L2.start, List.map_cons, List.map_nil, List.cons_append, List.nil_append, List.append_nil, List.getElem?_cons_zero, List.getElem?_cons_succ, List.set_cons_zero, List.set_cons_succ, List.length_cons, List.length_nil, Nat.reduceAdd, Nat.reduceSub, List.replicate_succ, List.replicate_zero, Option.some.injEq, V.int.injEq, V.str.injEq, V.bl.injEq, V.ref.injEq, List.cons.injEq, and_true, true_and, exists_eq_left, exists_eq_left', exists_and_left, exists_eq, exists_eq', decide_eq_true_eq, Bool.not_eq_true', decide_eq_false_iff_not, Bool.false_eq_true, if_false, if_true, reduceIte, ite_self, CMul, CPow, CDiv])
      refine ⟨⟨by decide, by decide, by decide⟩, by decide, ⟨by decide, by decide, by decide⟩, ?_⟩
      refine ite2 (fun _ => ?_) (fun _ => ?_)
      · refine ⟨_, rfl, by decide, by decide, for_range (lo := 0) (n := 60) (fun j σ H1 => ∃ x : Int, ∃ (p : Addr) (r : List Int) (e2 e4 e5 : Option V), σ = [some (V.ref a), some (.ref p), e2, some (.int x), e4, e5] ∧ Same H H1 ∧ H p = none ∧ H1 p = some (.lst (r.map V.int)) ∧ r.length ≤ 60 * i + j) ?_ ?_ ?_⟩
        · exact ⟨_, p, r, _, _, _, rfl, sm, hp, ep, by omega⟩
        · rintro j σ H1 hj ⟨x, p, r, e2, e4, e5, rfl, sm, hp, ep, hl⟩
          (try simp only [cx_K, cx_w, rMulS, CwR.tReplC, tM1, tBM0, rPop, rExtend, rReverse, rLenS, rEqE, rNeE, rSetL, rIntI, rIntB, tBM, rAppend, rIxL, rIxT, rCat, rSlL, rSlS, gTup, tYes, wipe, tSeq, tAsg, tIfS, tRet, tRetN, tDrop, tNext, tBreak, tCont, tNever, tAug, ipI, tPar, tPar3, gName, gCons, gNil, gSub, tVar, tC, tOp, tUn, tIf, tAndV, tOrV, tNotV, tAnd, tOr, tNot, L2.tB, tTest, tCmp, tChain, tCB, tCons, tNil, tCall, tTup, tLst, tSl, tPart, tNoPart, rI, rI0, rU, rEq, rNe, scal_ii, scal_ss, scal_bb, scal_nn, scal_is, scal_si, rIxS, S_len, S_cps, S_inj, L2.start, List.map_cons, List.map_nil, List.cons_append, List.nil_append, List.append_nil, List.getElem?_cons_zero, List.getElem?_cons_succ, List.set_cons_zero, List.set_cons_succ, List.length_cons, List.length_nil, Nat.reduceAdd, Nat.reduceSub, List.replicate_succ, List.replicate_zero, Option.some.injEq, V.int.injEq, V.str.injEq, V.bl.injEq, V.ref.injEq, List.cons.injEq, and_true, true_and, exists_eq_left, exists_eq_left', exists_and_left, exists_eq, exists_eq', decide_eq_true_eq, Bool.not_eq_true', decide_eq_false_iff_not, Bool.false_eq_true, if_false, if_true, reduceIte, ite_self, CMul, CPow, CDiv])
          refine ⟨.inl ⟨rfl, _, SqL.of ep⟩, by decide, _, ep, sz5' (by rw [List.length_map]; omega), ⟨by decide, by decide⟩, ?_⟩
          refine ite2 (fun _ => ?_) (fun _ => ?_)
          · exact ⟨p, r ++ [_], _, _, _, _, rfl, sm.mut hp, hp, app_int (H := H) _, Nat.zero_le _, by rw [List.length_append, List.length_singleton]; omega, fun z => nomatch z⟩
          · exact ⟨_, p, r ++ [_], _, _, _, ⟨rfl, rfl, rfl, rfl, rfl⟩, sm.mut hp, hp, app_int (H := H) _, by rw [List.length_append, List.length_singleton]; omega⟩
        · rintro σ H1 ⟨x, p, r, e2, e4, e5, rfl, sm, hp, ep, hl⟩
          exact ⟨p, r, _, _, _, _, rfl, sm, hp, ep, Nat.zero_le _, by omega, fun z => nomatch z⟩
      · refine ⟨by decide, ⟨by decide, by decide⟩, by decide, by decide, fun b hb => ⟨r.map V.int, Same.new hb _ _ ep, _, upd_same, sz5 ?_, fun d hd => ?_⟩⟩
        · rw [List.length_map, List.length_cons, List.length_singleton]
          omega
        · refine ⟨d, r ++ [c % 60 ^ Int.toNat 60 % 60, c % 60 ^ Int.toNat 60 / 60 % 60], _, _, _, _, rfl, (sm.trans (Same.new hb)).trans (Same.new hd), (sm.trans (Same.new hb)).free hd, ?_, Nat.zero_le _, ?_, fun z => nomatch z⟩
          · rw [upd_same, List.map_append]
            rfl
          · rw [List.length_append, List.length_cons, List.length_singleton]
            omega
    · rintro σ H1 ⟨p, r, e2, e3, e4, e5, rfl, sm, hp, ep, _, hr', _⟩
      rw [List.length_map] at hr'
      (try simp only [cx_K, cx_w, rMulS, CwR.tReplC, tM1, tBM0, rPop, rExtend, rReverse, rLenS, rEqE, rNeE, rSetL, rIntI, rIntB, tBM, rAppend, rIxL, rIxT, rCat, rSlL, rSlS, gTup, tYes, wipe, tSeq, tAsg, tIfS, tRet, tRetN, tDrop, tNext, tBreak, tCont, tNever, tAug, ipI, tPar, tPar3, gName, gCons, gNil, gSub, tVar, tC, tOp, tUn, tIf, tAndV, tOrV, tNotV, tAnd, tOr, tNot, L2.tB, tTest, tCmp, tChain, tCB, tCons, tNil, tCall, tTup, tLst, tSl, tPart, tNoPart, rI, rI0, rU, rEq, rNe, scal_ii, scal_ss, scal_bb, scal_nn, scal_is, scal_si, rIxS, S_len, S_cps, S_inj, L2.start, List.map_cons, List.map_nil, List.cons_append, List.nil_append, List.append_nil, List.getElem?_cons_zero, List.getElem?_cons_succ, List.set_cons_zero, List.set_cons_succ, List.length_cons, List.length_nil, Nat.reduceAdd, Nat.reduceSub, List.replicate_succ, List.replicate_zero, Option.some.injEq, V.int.injEq, V.str.injEq, V.bl.injEq, V.ref.injEq, List.cons.injEq, and_true, true_and, exists_eq_left, exists_eq_left', exists_and_left, exists_eq, exists_eq', decide_eq_true_eq, Bool.not_eq_true', decide_eq_false_iff_not, Bool.false_eq_true, if_false, if_true, reduceIte, ite_self, CMul, CPow, CDiv])
      refine ⟨_, rfl, a, rfl, ⟨_, hS' sm⟩, for_list (xs := ns.map V.int) (fun i => PoolInv a H 0 3780 true) ?_ ?_ ?_ ?_⟩
      · exact ⟨p, r, _, _, _, _, rfl, sm, hp, ep, Nat.zero_le _, by omega, fun _ => ⟨_, rfl⟩⟩
      · rintro i σ H1 _ ⟨p, r, e2, e3, e4, e5, rfl, sm, _⟩
        exact hS' sm
      · rintro i x σ H1 hx ⟨p, r, e2, e3, e4, e5, rfl, sm, hp, ep, _, hr', h5⟩
        obtain ⟨y, rfl⟩ := h5 rfl
        obtain ⟨c, hc, rfl⟩ : ∃ c, ns[i]? = some c ∧ V.int c = x := by
          rw [List.getElem?_map] at hx
          obtain ⟨c, hc, e⟩ := Option.map_eq_some_iff.mp hx
          exact ⟨c, hc, e⟩
        (try simp only [cx_K, cx_w, rMulS, CwR.tReplC, tM1, tBM0, rPop, rExtend, rReverse, rLenS, rEqE, rNeE, rSetL, rIntI, rIntB, tBM, rAppend, rIxL, rIxT, rCat, rSlL, rSlS, gTup, tYes, wipe, tSeq, tAsg, tIfS, tRet, tRetN, tDrop, tNext, tBreak, tCont, tNever, tAug, ipI, tPar, tPar3, gName, gCons, gNil, gSub, tVar, tC, tOp, tUn, tIf, tAndV, tOrV, tNotV, tAnd, tOr, tNot, L2.tB, tTest, tCmp, tChain, tCB, tCons, tNil, tCall, tTup, tLst, tSl, tPart, tNoPart, rI, rI0, rU, rEq, rNe, scal_ii, scal_ss, scal_bb, scal_nn, scal_is, scal_si, rIxS, S_len, S_cps, S_inj, L2.start, List.map_cons, List.map_nil, List.cons_append, List.nil_append, List.append_nil, List.getElem?_cons_zero, List.getElem?_cons_succ, List.set_cons_zero, List.set_cons_succ, List.length_cons, List.length_nil, Nat.reduceAdd, Nat.reduceSub, List.replicate_succ, List.replicate_zero, Option.some.injEq, V.int.injEq, V.str.injEq, V.bl.injEq, V.ref.injEq, List.cons.injEq, and_true, true_and, exists_eq_left, exists_eq_left', exists_and_left, exists_eq, exists_eq', decide_eq_true_eq, Bool.not_eq_true', decide_eq_false_iff_not, Bool.false_eq_true, if_false, if_true, reduceIte, ite_self, CMul, CPow, CDiv])
        exact ⟨.inr ⟨by decide, by decide⟩, by decide, p, r, _, _, _, _, rfl, sm, hp, ep, Nat.zero_le _, hr', fun _ => ⟨_, rfl⟩⟩
      · rintro σ H1 ⟨p, r, e2, e3, e4, e5, rfl, sm, hp, ep, _, hr', h5⟩
        obtain ⟨y, rfl⟩ := h5 rfl
        (try simp only [cx_K, cx_w, rMulS, CwR.tReplC, tM1, tBM0, rPop, rExtend, rReverse, rLenS, rEqE, rNeE, rSetL, rIntI, rIntB, tBM, rAppend, rIxL, rIxT, rCat, rSlL, rSlS, gTup, tYes, wipe, tSeq, tAsg, tIfS, tRet, tRetN, tDrop, tNext, tBreak, tCont, tNever, tAug, ipI, tPar, tPar3, gName, gCons, gNil, gSub, tVar, tC, tOp, tUn, tIf, tAndV, tOrV, tNotV, tAnd, tOr, tNot, L2.tB, tTest, tCmp, tChain, tCB, tCons, tNil, tCall, tTup, tLst, tSl, tPart, tNoPart, rI, rI0, rU, rEq, rNe, scal_ii, scal_ss, scal_bb, scal_nn, scal_is, scal_si, rIxS, S_len, S_cps, S_inj, L2.start, List.map_cons, List.map_nil, List.cons_append, List.nil_append, List.append_nil, List.getElem?_cons_zero, List.getElem?_cons_succ, List.set_cons_zero, List.set_cons_succ, List.length_cons, List.length_nil, Nat.reduceAdd, Nat.reduceSub, List.replicate_succ, List.replicate_zero, Option.some.injEq, V.int.injEq, V.str.injEq, V.bl.injEq, V.ref.injEq, List.cons.injEq, and_true, true_and, exists_eq_left, exists_eq_left', exists_and_left, exists_eq, exists_eq', decide_eq_true_eq, Bool.not_eq_true', decide_eq_false_iff_not, Bool.false_eq_true, if_false, if_true, reduceIte, ite_self, CMul, CPow, CDiv])
        refine ⟨_, rfl, by decide, by decide, for_range (lo := 0) (n := 300) (fun i => PoolInv a H i (3780 + i) true) ?_ ?_ ?_⟩
        · exact ⟨p, r, _, _, _, _, rfl, sm, hp, ep, Nat.zero_le _, by omega, fun _ => ⟨_, rfl⟩⟩
        · rintro j σ H1 hj ⟨p, r, e2, e3, e4, e5, rfl, sm, hp, ep, hl, hr', h5⟩
          obtain ⟨y, rfl⟩ := h5 rfl
          (try simp only [cx_K, cx_w, rMulS, CwR.tReplC, tM1, tBM0, rPop, rExtend, rReverse, rLenS, rEqE, rNeE, rSetL, rIntI, rIntB, tBM, rAppend, rIxL, rIxT, rCat, rSlL, rSlS, gTup, tYes, wipe, tSeq, tAsg, tIfS, tRet, tRetN, tDrop, tNext, tBreak, tCont, tNever, tAug, ipI, tPar, tPar3, gName, gCons, gNil, gSub, tVar, tC, tOp, tUn, tIf, tAndV, tOrV, tNotV, tAnd, tOr, tNot, L2.tB, tTest, tCmp, tChain, tCB, tCons, tNil, tCall, tTup, tLst, tSl, tPart, tNoPart, rI, rI0, rU, rEq, rNe, scal_ii, scal_ss, scal_bb, scal_nn, scal_is, scal_si, rIxS, S_len, S_cps, S_inj, L2.start, List.map_cons, List.map_nil, List.cons_append, List.nil_append, List.append_nil, List.getElem?_cons_zero, List.getElem?_cons_succ, List.set_cons_zero, List.set_cons_succ, List.length_cons, List.length_nil, Nat.reduceAdd, Nat.reduceSub, List.replicate_succ, List.replicate_zero, Option.some.injEq, V.int.injEq, V.str.injEq, V.bl.injEq, V.ref.injEq, List.cons.injEq, and_true, true_and, exists_eq_left, exists_eq_left', exists_and_left, exists_eq, exists_eq', decide_eq_true_eq, Bool.not_eq_true', decide_eq_false_iff_not, Bool.false_eq_true, if_false, if_true, reduceIte, ite_self, CMul, CPow, CDiv])
          refine ⟨.inr ⟨by decide, by decide⟩, by decide, .inl ⟨rfl, _, SqL.of ep⟩, ⟨by decide, by decide⟩, by decide, _, ep, sz5' (by rw [List.length_map]; omega), ?_⟩
          exact ⟨p, r ++ [_], _, _, _, _, rfl, sm.mut hp, hp, app_int (H := H) _, by rw [List.length_append, List.length_singleton]; omega, by rw [List.length_append, List.length_singleton]; omega, fun _ => ⟨_, rfl⟩⟩
        · rintro σ H1 ⟨p, r, e2, e3, e4, e5, rfl, sm, hp, ep, hl, hr', h5⟩
          (try simp only [cx_K, cx_w, rMulS, CwR.tReplC, tM1, tBM0, rPop, rExtend, rReverse, rLenS, rEqE, rNeE, rSetL, rIntI, rIntB, tBM, rAppend, rIxL, rIxT, rCat, rSlL, rSlS, gTup, tYes, wipe, tSeq, tAsg, tIfS, tRet, tRetN, tDrop, tNext, tBreak, tCont, tNever, tAug, ipI, tPar, tPar3, gName, gCons, gNil, gSub, tVar, tC, tOp, tUn, tIf, tAndV, tOrV, tNotV, tAnd, tOr, tNot, L2.tB, tTest, tCmp, tChain, tCB, tCons, tNil, tCall, tTup, tLst, tSl, tPart, tNoPart, rI, rI0, rU, rEq, rNe, scal_ii, scal_ss, scal_bb, scal_nn, scal_is, scal_si, rIxS, S_len, S_cps, S_inj, L2.start, List.map_cons, List.map_nil, List.cons_append, List.nil_append, List.append_nil, List.getElem?_cons_zero, List.getElem?_cons_succ, List.set_cons_zero, List.set_cons_succ, List.length_cons, List.length_nil, Nat.reduceAdd, Nat.reduceSub, List.replicate_succ, List.replicate_zero, Option.some.injEq, V.int.injEq, V.str.injEq, V.bl.injEq, V.ref.injEq, List.cons.injEq, and_true, true_and, exists_eq_left, exists_eq_left', exists_and_left, exists_eq, exists_eq', decide_eq_true_eq, Bool.not_eq_true', decide_eq_false_iff_not, Bool.false_eq_true, if_false, if_true, reduceIte, ite_self, CMul, CPow, CDiv])
          exact q p r H1 sm hp ep hl (by omega)
def spStream (K : PySem.W.Frag) : Sp := fun vs H Q _ => ∃ (a : Addr) (ns : List Int), vs = [.ref a] ∧ SqL K H a (ns.map V.int) ∧ ns.length ≤ 63 ∧ ∀ p H', Same H H' → H p = none → PoolAt p H' → Q (.ref p) H'
theorem okStream (T : Top K w mg) : Ok P w K mg base CX0 2 "_law_stream" ["script"] (spStream K) := by
  have GLawPool : Ok P w K mg base CX0 1 "_law_pool" ["script"] (spPool K) := okPool T
  refine mkOk T.f__law_stream scLawStream (fun vs H Q E h => ?_) (fun f cdv A outer s H vs Q E hr h => ?_)
  · obtain ⟨_, _, rfl, _⟩ := h
    rfl
  · obtain ⟨a, ns, rfl, hS, hlen, q⟩ := h
    refine ⟨_, pss_one (ps_ret (pe_op op_cat (pe_lst (pa_cons (pe_int) pa_nil)) (pcall GLawPool (hr.mono (by decide)) (by rfl) pass0 (pa_cons (pv 0) pa_nil)))), ?_⟩
    (try simp only [cx_K, cx_w, rMulS, CwR.tReplC, tM1, tBM0, rPop, rExtend, rReverse, rLenS, rEqE, rNeE, rSetL, rIntI, rIntB, tBM, rAppend, rIxL, rIxT, rCat, rSlL, rSlS, gTup, tYes, wipe, tSeq, tAsg, tIfS, tRet, tRetN, tDrop, tNext, tBreak, tCont, tNever, tAug, ipI, tPar, tPar3, gName, gCons, gNil, gSub, tVar, tC, tOp, tUn, tIf, tAndV, tOrV, tNotV, tAnd, tOr, tNot, L2.tB, tTest, tCmp, tChain, tCB, tCons, tNil, tCall, tTup, tLst, tSl, tPart, tNoPart, rI, rI0, rU, rEq, rNe, scal_ii, scal_ss, scal_bb, scal_nn, scal_is, scal_si, rIxS, S_len, S_cps, S_inj, L2.start, List.map_cons, List.map_nil, List.cons_append, List.nil_append, List.append_nil, List.getElem?_cons_zero, List.getElem?_cons_succ, List.set_cons_zero, List.set_cons_succ, List.length_cons, List.length_nil, Nat.reduceAdd, Nat.reduceSub, List.replicate_succ, List.replicate_zero, Option.some.injEq, V.int.injEq, V.str.injEq, V.bl.injEq, V.ref.injEq, List.cons.injEq, and_true, true_and, exists_eq_left, exists_eq_left', exists_and_left, exists_eq, exists_eq', decide_eq_true_eq, Bool.not_eq_true', decide_eq_false_iff_not, Bool.false_eq_true, if_false, if_true, reduceIte, ite_self, CMul, CPow, CDiv])
    refine ⟨by decide, fun p hp => ⟨a, ns, rfl, (Same.new hp).seq hS, hlen, fun b r H1 sm hb eb h1 h2 => ?_⟩⟩
    (try simp only [cx_K, cx_w, rMulS, CwR.tReplC, tM1, tBM0, rPop, rExtend, rReverse, rLenS, rEqE, rNeE, rSetL, rIntI, rIntB, tBM, rAppend, rIxL, rIxT, rCat, rSlL, rSlS, gTup, tYes, wipe, tSeq, tAsg, tIfS, tRet, tRetN, tDrop, tNext, tBreak, tCont, tNever, tAug, ipI, tPar, tPar3, gName, gCons, gNil, gSub, tVar, tC, tOp, tUn, tIf, tAndV, tOrV, tNotV, tAnd, tOr, tNot, L2.tB, tTest, tCmp, tChain, tCB, tCons, tNil, tCall, tTup, tLst, tSl, tPart, tNoPart, rI, rI0, rU, rEq, rNe, scal_ii, scal_ss, scal_bb, scal_nn, scal_is, scal_si, rIxS, S_len, S_cps, S_inj, L2.start, List.map_cons, List.map_nil, List.cons_append, List.nil_append, List.append_nil, List.getElem?_cons_zero, List.getElem?_cons_succ, List.set_cons_zero, List.set_cons_succ, List.length_cons, List.length_nil, Nat.reduceAdd, Nat.reduceSub, List.replicate_succ, List.replicate_zero, Option.some.injEq, V.int.injEq, V.str.injEq, V.bl.injEq, V.ref.injEq, List.cons.injEq, and_true, true_and, exists_eq_left, exists_eq_left', exists_and_left, exists_eq, exists_eq', decide_eq_true_eq, Bool.not_eq_true', decide_eq_false_iff_not, Bool.false_eq_true, if_false, if_true, reduceIte, ite_self, CMul, CPow, CDiv])
    refine ⟨_, sm _ _ upd_same, _, eb, sz5 ?_, fun c hc => ?_⟩
    · rw [List.length_map, List.length_singleton]
      omega
    · exact q c _ (((Same.new hp).trans sm).trans (Same.new hc)) (((Same.new hp).trans sm).free hc) ⟨1, r, upd_same, Nat.le_refl _, by omega, by omega⟩
/-! ### whether two values are the same -/
mutual
def dsize : D → Nat
  | .tup ds => 1 + dsizes ds
  | .lst ds => 1 + dsizes ds
  | _ => 1
def dsizes : List D → Nat
  | [] => 0
  | d :: ds => dsize d + dsizes ds
end
theorem dsizes_app : ∀ (a b : List D), dsizes (a ++ b) = dsizes a + dsizes b
  | [], b => by simp [dsizes]
  | d :: a, b => by
    rw [List.cons_append, dsizes, dsizes, dsizes_app a b]
    omega
theorem len_dsizes : ∀ ds : List D, ds.length ≤ dsizes ds
  | [] => Nat.zero_le _
  | d :: ds => by
    rw [List.length_cons, dsizes]
    have := len_dsizes ds
    have : 1 ≤ dsize d := by cases d <;> simp [dsize]
    omega
theorem dsize_pos (d : D) : 1 ≤ dsize d := by
  cases d <;> simp [dsize]
def spSame : Sp := fun vs H Q _ => ∃ (x y : V) (d : D), vs = [x, y] ∧ Rep H d x ∧ Rep H d y ∧ dsize d ≤ 1000000 ∧ ∀ H', Same H H' → Q (.bl true) H'
/-- pairs of the same data -/
structure PairsR (H H1 : Hp) (ds : List D) (xs : List V) : Prop where
  len : xs.length = ds.length
  at_ : ∀ (i : Nat) (d : D), ds[i]? = some d → ∃ t v1 v2, xs[i]? = some (.ref t) ∧ H1 t = some (.tup [v1, v2]) ∧ Rep H d v1 ∧ Rep H d v2
theorem PairsR.mono {H H1 H2 : Hp} {ds : List D} {xs : List V} (h : PairsR H H1 ds xs) (m : ∀ t ys, H1 t = some (.tup ys) → H2 t = some (.tup ys)) : PairsR H H2 ds xs :=
  ⟨h.len, fun i d e => by
    obtain ⟨t, v1, v2, e1, e2, e3⟩ := h.at_ i d e
    exact ⟨t, v1, v2, e1, m _ _ e2, e3⟩⟩
theorem PairsR.app {H H1 : Hp} {ds es : List D} {xs ys : List V} (h : PairsR H H1 ds xs) (k : PairsR H H1 es ys) : PairsR H H1 (ds ++ es) (xs ++ ys) := by
  refine ⟨by rw [List.length_append, List.length_append, h.len, k.len], fun i d e => ?_⟩
  by_cases hi : i < ds.length
  · rw [List.getElem?_append_left hi] at e
    obtain ⟨t, v1, v2, e1, e2⟩ := h.at_ i d e
    exact ⟨t, v1, v2, by rw [List.getElem?_append_left (by rw [h.len]; exact hi)]; exact e1, e2⟩
  · rw [List.getElem?_append_right (by omega)] at e
    obtain ⟨t, v1, v2, e1, e2⟩ := k.at_ _ d e
    exact ⟨t, v1, v2, by rw [List.getElem?_append_right (by rw [h.len]; omega), h.len]; exact e1, e2⟩
theorem PairsR.one {H H1 : Hp} {d : D} {t : Addr} {v1 v2 : V} (h : H1 t = some (.tup [v1, v2])) (r1 : Rep H d v1) (r2 : Rep H d v2) : PairsR H H1 [d] [.ref t] :=
  ⟨rfl, fun i d' e => by
    cases i with
    | zero =>
      have e : d = d' := Option.some.inj e
      subst e
      exact ⟨t, v1, v2, rfl, h, r1, r2⟩
    | succ i => cases e⟩
theorem PairsR.init {H H1 : Hp} {ds : List D} {d : D} {xs : List V} (h : PairsR H H1 (ds ++ [d]) xs) : PairsR H H1 ds xs.dropLast ∧ ∃ t v1 v2, xs[xs.length - 1]? = some (.ref t) ∧ H1 t = some (.tup [v1, v2]) ∧ Rep H d v1 ∧ Rep H d v2 := by
  have hl := h.len
  rw [List.length_append, List.length_singleton] at hl
  refine ⟨⟨by rw [List.length_dropLast]; omega, fun i d' e => ?_⟩, ?_⟩
  · have hi : i < ds.length := (List.getElem?_eq_some_iff.mp e).1
    obtain ⟨t, v1, v2, e1, e2⟩ := h.at_ i d' (by rw [List.getElem?_append_left hi]; exact e)
    refine ⟨t, v1, v2, ?_, e2⟩
    rw [List.getElem?_dropLast, if_pos (by omega)]
    exact e1
  · obtain ⟨t, v1, v2, e1, e2⟩ := h.at_ ds.length d (by simp)
    exact ⟨t, v1, v2, by rw [hl, Nat.add_sub_cancel]; exact e1, e2⟩
theorem tup_upd {H : Hp} {p : Addr} {o : HO} {xs : List V} (h : H p = some (.lst xs)) : ∀ t ys, H t = some (.tup ys) → upd H p o t = some (.tup ys) := fun t ys e => by
  have : t ≠ p := fun z => by
    subst z
    rw [h] at e
    cases e
  rw [upd_ne this]
  exact e
theorem lc_pairs {H H3 : Hp} {a1 a2 : Addr} {ys zs : List V} {es : List D} {σ : L2.St} {Qc : VK} (h1 : (wipe σ [7])[4]? = some (some (.ref a1))) (h2 : (wipe σ [7])[5]? = some (some (.ref a2))) (h2' : σ[5]? = some (some (.ref a2))) (h7 : 7 < σ.length)
    (s3 : Same H H3) (k1 : ∀ H4, Same H3 H4 → SqL K H4 a1 ys ∨ SqT K H4 a1 ys) (k2 : ∀ H4, Same H3 H4 → SqL K H4 a2 zs ∨ SqT K H4 a2 zs) (q1 : Reps H es ys) (q2 : Reps H es zs) (hz : es.length ≤ 1000000)
    (q : ∀ b acc H4, Same H3 H4 → H3 b = none → H4 b = some (.lst acc) → PairsR H H4 es acc → Qc (.ref b) H4) :
    tLc (iRng1 (tCons (tCB (rLenS K) (tCons (tVar 5) tNil)) tNil)) (gName 7) tYes (tTup (tCons (tOp (rIx K) (tVar 4) (tVar 7)) (tCons (tOp (rIx K) (tVar 5) (tVar 7)) tNil))) [7] σ H3 Qc := by
  have ly := q1.length
  have lz := q2.length
  refine ⟨_, h2', a2, zs, rfl, k2 H3 (Same.refl _), _, rfl, by omega, by omega, fun b hb => ?_⟩
  refine lc_range (lo := 0) (n := ((zs.length : Nat) : Int).toNat) (fun k H4 => Same H3 H4 ∧ ∃ acc, H4 b = some (.lst acc) ∧ PairsR H H4 (es.take k) acc) ⟨Same.new hb, [], upd_same, rfl, fun i d e => by rw [List.take_zero] at e; cases e⟩ (fun k H4 hk hP => ?_) (fun H4 hP => ?_)
  · obtain ⟨s4, acc, eb, R⟩ := hP
    have hk' : k < es.length := by omega
    have h7k : ((wipe σ [7]).set 7 (some (.int (0 + (k : Int)))))[7]? = some (some (.int (0 + (k : Int)))) := by
      rw [List.getElem?_set_self]
      rw [wipe_length]
      exact h7
    have h4k : ((wipe σ [7]).set 7 (some (.int (0 + (k : Int)))))[4]? = some (some (.ref a1)) := by
      rw [List.getElem?_set_ne (by decide)]
      exact h1
    have h5k : ((wipe σ [7]).set 7 (some (.int (0 + (k : Int)))))[5]? = some (some (.ref a2)) := by
      rw [List.getElem?_set_ne (by decide)]
      exact h2
    refine ⟨?_, ?_⟩
    · show (((σ.set 7 none).set 7 _).set 7 none) = σ.set 7 none
      simp [List.set_set]
    have hy : ∃ y, ys[k]? = some y ∧ Rep H es[k] y := by
      have hlt : k < ys.length := by omega
      obtain ⟨d, hd, hr⟩ := q1.get (List.getElem?_eq_getElem hlt)
      rw [List.getElem?_eq_getElem hk'] at hd
      exact ⟨_, List.getElem?_eq_getElem hlt, (Option.some.inj hd) ▸ hr⟩
    have hz' : ∃ y, zs[k]? = some y ∧ Rep H es[k] y := by
      have hlt : k < zs.length := by omega
      obtain ⟨d, hd, hr⟩ := q2.get (List.getElem?_eq_getElem hlt)
      rw [List.getElem?_eq_getElem hk'] at hd
      exact ⟨_, List.getElem?_eq_getElem hlt, (Option.some.inj hd) ▸ hr⟩
    obtain ⟨y, hy1, hy2⟩ := hy
    obtain ⟨z, hz1, hz2⟩ := hz'
    have ix : ∀ {a : Addr} {xs : List V} {v : V} (Q : VK), (SqL K H4 a xs ∨ SqT K H4 a xs) → xs[k]? = some v → Q v H4 → rIx K (.ref a) (.int (0 + (k : Int))) H4 Q := fun {a xs v} Q h e q => by
      have e0 : (0 : Int) + (k : Int) = (k : Int) := by omega
      rw [e0]
      rcases h with h | h
      · exact .inl ⟨a, xs, _, v, rfl, rfl, h, at_nat e, q⟩
      · exact .inr (.inl ⟨a, xs, _, v, rfl, rfl, h, at_nat e, q⟩)
    simp only [tYes, if_true]
    refine ⟨_, h4k, _, h7k, ix _ (k1 H4 s4) hy1 ⟨_, h5k, _, h7k, ix _ (k2 H4 s4) hz1 ⟨sz5 (by simp), fun t ht => ⟨acc, Same.new ht _ _ eb, ?_, ?_, acc ++ [.ref t], upd_same, ?_⟩⟩⟩⟩
    · have := R.len
      rw [List.length_take] at this
      exact sz5' (by omega)
    · exact (s4.trans (Same.new ht)).mut hb
    · have m : ∀ t' ys, H4 t' = some (.tup ys) → upd (upd H4 t (.tup [y, z])) b (.lst (acc ++ [.ref t])) t' = some (.tup ys) := fun t' ys e =>
        tup_upd (Same.new ht _ _ eb) _ _ (Same.new ht _ _ e)
      have ht2 : upd (upd H4 t (.tup [y, z])) b (.lst (acc ++ [.ref t])) t = some (.tup [y, z]) := tup_upd (Same.new ht _ _ eb) _ _ upd_same
      rw [List.take_add_one, List.getElem?_eq_getElem hk']
      exact (R.mono m).app (PairsR.one ht2 hy2 hz2)
  · obtain ⟨s4, acc, eb, R⟩ := hP
    rw [List.take_of_length_le (by omega)] at R
    exact q b acc H4 s4 hb eb R
theorem okSame (T : Top K w mg) : Ok P w K mg base CX0 1 "_law_same" ["told", "due"] spSame := by
  have m_range := T.m_range
  have m_len := T.m_len
  have m_isinstance := T.m_isinstance
  have m_bool := T.m_bool
  have m_int := T.m_int
  have m_str := T.m_str
  have m_dict := T.m_dict
  have m_tuple := T.m_tuple
  have m_list := T.m_list
  refine mkOk T.f__law_same scLawSame (fun vs H Q E h => ?_) (fun f cdv A outer s H vs Q E hr h => ?_)
  · obtain ⟨_, _, _, rfl, _⟩ := h
    rfl
  · obtain ⟨x, y, d, rfl, hx, hy, hd, q⟩ := h
    refine ⟨_, pss_cons (ps_set (i := 2) scLawSame.nd rfl (Or.inl rfl) (pe_lst (pa_cons (pe_tup (pa_cons (pv 0) (pa_cons (pv 1) pa_nil))) pa_nil)))
  (pss_cons (ps_for PassesOwn.never rfl (pi_range1 rfl m_range (pa_cons (pe_op op_pow (pe_int) (pe_int)) pa_nil)) (pg_name (i := 3) scLawSame.nd rfl (Or.inl rfl))
  (pss_cons (ps_if (pt_cmpR (op_eqE hr.units0) (pv 2) (pe_lst (pa_nil)) (nomark _))
  (pss_one (ps_ret (pe_bl)))
  (pss_nil))
  (pss_cons (ps_asg (pe_bm0 PySem.F.plainAttrs_list PySem.F.slot_list_pop PySem.F.type_list_pop mt_pop (pv 2)) (pg_tup (n := 2) rfl (pgs_cons (pg_name (i := 4) scLawSame.nd rfl (Or.inr rfl)) (pgs_cons (pg_name (i := 5) scLawSame.nd rfl (Or.inr rfl)) pgs_nil))))
  (pss_one (ps_if (pt_cmpR op_isN (pv 5) (pe_non) (nomark _))
  (pss_one (ps_if (pt_cmpR op_notN (pv 4) (pe_non) (nomark _))
  (pss_one (ps_ret (pe_bl)))
  (pss_nil)))
  (pss_one (ps_if (pt_val (pe_callB call_isi (by rfl) m_isinstance (by decide +kernel) (pa_cons (pv 5) (pa_cons (pe_bltn (u := .type "bool") (v := .ty "bool") (by rfl) m_bool (by decide +kernel) rfl) pa_nil))))
  (pss_one (ps_if (PW.pt (pw_or (pt_not (pt_val (pe_callB call_isi (by rfl) m_isinstance (by decide +kernel) (pa_cons (pv 4) (pa_cons (pe_bltn (u := .type "bool") (v := .ty "bool") (by rfl) m_bool (by decide +kernel) rfl) pa_nil))))) (pw_or1 (pt_cmpR op_ne (pv 4) (pv 5) (nomark _)))))
  (pss_one (ps_ret (pe_bl)))
  (pss_nil)))
  (pss_one (ps_if (pt_val (pe_callB call_isi (by rfl) m_isinstance (by decide +kernel) (pa_cons (pv 5) (pa_cons (pe_bltn (u := .type "int") (v := .ty "int") (by rfl) m_int (by decide +kernel) rfl) pa_nil))))
  (pss_one (ps_if (PW.pt (pw_or (pt_not (pt_val (pe_callB call_isi (by rfl) m_isinstance (by decide +kernel) (pa_cons (pv 4) (pa_cons (pe_bltn (u := .type "int") (v := .ty "int") (by rfl) m_int (by decide +kernel) rfl) pa_nil))))) (pw_or (pt_val (pe_callB call_isi (by rfl) m_isinstance (by decide +kernel) (pa_cons (pv 4) (pa_cons (pe_bltn (u := .type "bool") (v := .ty "bool") (by rfl) m_bool (by decide +kernel) rfl) pa_nil)))) (pw_or1 (pt_cmpR op_ne (pv 4) (pv 5) (nomark _))))))
  (pss_one (ps_ret (pe_bl)))
  (pss_nil)))
  (pss_one (ps_if (pt_val (pe_callB call_isi (by rfl) m_isinstance (by decide +kernel) (pa_cons (pv 5) (pa_cons (pe_bltn (u := .type "str") (v := .ty "str") (by rfl) m_str (by decide +kernel) rfl) pa_nil))))
  (pss_one (ps_if (PW.pt (pw_or (pt_not (pt_val (pe_callB call_isi (by rfl) m_isinstance (by decide +kernel) (pa_cons (pv 4) (pa_cons (pe_bltn (u := .type "str") (v := .ty "str") (by rfl) m_str (by decide +kernel) rfl) pa_nil))))) (pw_or1 (pt_cmpR op_ne (pv 4) (pv 5) (nomark _)))))
  (pss_one (ps_ret (pe_bl)))
  (pss_nil)))
  (pss_one (ps_if (pt_val (pe_callB call_isi (by rfl) m_isinstance (by decide +kernel) (pa_cons (pv 5) (pa_cons (pe_bltn (u := .type "dict") (v := .ty "dict") (by rfl) m_dict (by decide +kernel) rfl) pa_nil))))
  (pss_never)
  (pss_one (ps_if (PW.pt (pw_or (PW.pt (pw_and (pt_val (pe_callB call_isi (by rfl) m_isinstance (by decide +kernel) (pa_cons (pv 5) (pa_cons (pe_bltn (u := .type "tuple") (v := .ty "tuple") (by rfl) m_tuple (by decide +kernel) rfl) pa_nil)))) (pw_and1 (pt_not (pt_val (pe_callB call_isi (by rfl) m_isinstance (by decide +kernel) (pa_cons (pv 4) (pa_cons (pe_bltn (u := .type "tuple") (v := .ty "tuple") (by rfl) m_tuple (by decide +kernel) rfl) pa_nil)))))))) (pw_or1 (PW.pt (pw_and (pt_val (pe_callB call_isi (by rfl) m_isinstance (by decide +kernel) (pa_cons (pv 5) (pa_cons (pe_bltn (u := .type "list") (v := .ty "list") (by rfl) m_list (by decide +kernel) rfl) pa_nil)))) (pw_and1 (pt_not (pt_val (pe_callB call_isi (by rfl) m_isinstance (by decide +kernel) (pa_cons (pv 4) (pa_cons (pe_bltn (u := .type "list") (v := .ty "list") (by rfl) m_list (by decide +kernel) rfl) pa_nil)))))))))))
  (pss_one (ps_ret (pe_bl)))
  (pss_one (ps_if (pt_cmpR op_ne (pe_callB (call_len_seqK (K := K) rfl) (by rfl) m_len PySem.boot_len (pa_cons (pv 4) pa_nil)) (pe_callB (call_len_seqK (K := K) rfl) (by rfl) m_len PySem.boot_len (pa_cons (pv 5) pa_nil)) (nomark _))
  (pss_one (ps_ret (pe_bl)))
  (pss_one (ps_expr (pe_bm PySem.F.plainAttrs_list PySem.F.slot_list_extend PySem.F.type_list_extend mt_extend (pv 2) (pa_cons (pe_lc (own := [("k", 7)]) rfl scLawSame.nd (pi_range1 rfl m_range (pa_cons (pe_callB (call_len_seqK (K := K) rfl) (by rfl) m_len PySem.boot_len (pa_cons (pv 5) pa_nil)) pa_nil)) (blkOk_by (own := [("k", 7)]) (N := ["told", "due", "pairs", "turn", "one", "other", "key", "k"]) (sc := defScope sLawSame) (by decide +kernel)) (fun _ _ _ _ _ => pg_name (i := 7) scLawSame.nd rfl (Or.inl rfl)) (fun _ _ _ _ _ => pts_nil) (fun _ _ _ _ _ => pe_tup (pa_cons (pe_ix (ix_seqK (K := K) rfl) (pv 4) (pv 7) (fun _ _ => rfl)) (pa_cons (pe_ix (ix_seqK (K := K) rfl) (pv 5) (pv 7) (fun _ _ => rfl)) pa_nil)))) pa_nil)))))))))))))))))))))
  (pss_one (ps_ret (pe_bl)))), ?_⟩
    (try simp only [cx_K, cx_w, rMulS, CwR.tReplC, tM1, tBM0, rPop, rExtend, rReverse, rLenS, rEqE, rNeE, rSetL, rIntI, rIntB, tBM, rAppend, rIxL, rIxT, rCat, rSlL, rSlS, gTup, tYes, wipe, tSeq, tAsg, tIfS, tRet, tRetN, tDrop, tNext, tBreak, tCont, tNever, tAug, ipI, tPar, tPar3, gName, gCons, gNil, gSub, tVar, tC, tOp, tUn, tIf, tAndV, tOrV, tNotV, tAnd, tOr, tNot, L2.tB, tTest, tCmp, tChain, tCB, tCons, tNil, tCall, tTup, tLst, tSl, tPart, tNoPart, rI, rI0, rU, rEq, rNe, scal_ii, scal_ss, scal_bb, scal_nn, scal_is, scal_si, rIxS, S_len, S_cps, S_inj, L2.start, List.map_cons, List.map_nil, List.cons_append, List.nil_append, List.append_nil, List.getElem?_cons_zero, List.getElem?_cons_succ, List.set_cons_zero, List.set_cons_succ, List.length_cons, List.length_nil, Nat.reduceAdd, Nat.reduceSub, List.replicate_succ, List.replicate_zero, Option.some.injEq, V.int.injEq, V.str.injEq, V.bl.injEq, V.ref.injEq, List.cons.injEq, and_true, true_and, exists_eq_left, exists_eq_left', exists_and_left, exists_eq, exists_eq', decide_eq_true_eq, Bool.not_eq_true', decide_eq_false_iff_not, Bool.false_eq_true, if_false, if_true, reduceIte, ite_self, CMul, CPow, CDiv])
    refine ⟨by decide, fun t0 ht0 => ⟨by decide, fun p hp => ?_⟩⟩
    refine ⟨10, 7, rfl, rfl, ⟨by decide, by decide, by decide⟩, _, rfl, by decide, by decide, for_range (lo := 0) (n := 10 ^ 7) (fun i σ H1 => ∃ (p : Addr) (xs : List V) (ds : List D) (e3 e4 e5 e6 e7 : Option V), σ = [some x, some y, some (.ref p), e3, e4, e5, e6, e7] ∧ Same H H1 ∧ H p = none ∧ H1 p = some (.lst xs) ∧ PairsR H H1 ds xs ∧ i + dsizes ds ≤ dsize d) ?_ ?_ ?_⟩
    · have hp0 : H p = none := (Same.new ht0).free hp
      refine ⟨p, _, [d], _, _, _, _, _, rfl, (Same.new ht0).trans (Same.new hp), hp0, upd_same, PairsR.one (t := t0) ?_ hx hy, by simp [dsizes]⟩
      exact Same.new hp _ _ upd_same
    · rintro i σ H1 hi ⟨p, xs, ds, e3, e4, e5, e6, e7, rfl, sm, hp, ep, R, hsz⟩
      (try simp only [cx_K, cx_w, rMulS, CwR.tReplC, tM1, tBM0, rPop, rExtend, rReverse, rLenS, rEqE, rNeE, rSetL, rIntI, rIntB, tBM, rAppend, rIxL, rIxT, rCat, rSlL, rSlS, gTup, tYes, wipe, tSeq, tAsg, tIfS, tRet, tRetN, tDrop, tNext, tBreak, tCont, tNever, tAug, ipI, tPar, tPar3, gName, gCons, gNil, gSub, tVar, tC, tOp, tUn, tIf, tAndV, tOrV, tNotV, tAnd, tOr, tNot, L2.tB, tTest, tCmp, tChain, tCB, tCons, tNil, tCall, tTup, tLst, tSl, tPart, tNoPart, rI, rI0, rU, rEq, rNe, scal_ii, scal_ss, scal_bb, scal_nn, scal_is, scal_si, rIxS, S_len, S_cps, S_inj, L2.start, List.map_cons, List.map_nil, List.cons_append, List.nil_append, List.append_nil, List.getElem?_cons_zero, List.getElem?_cons_succ, List.set_cons_zero, List.set_cons_succ, List.length_cons, List.length_nil, Nat.reduceAdd, Nat.reduceSub, List.replicate_succ, List.replicate_zero, Option.some.injEq, V.int.injEq, V.str.injEq, V.bl.injEq, V.ref.injEq, List.cons.injEq, and_true, true_and, exists_eq_left, exists_eq_left', exists_and_left, exists_eq, exists_eq', decide_eq_true_eq, Bool.not_eq_true', decide_eq_false_iff_not, Bool.false_eq_true, if_false, if_true, reduceIte, ite_self, CMul, CPow, CDiv])
      refine ⟨Nat.zero_le _, fun b hb => ⟨xs, SqL.of (Same.new hb _ _ ep), SqL.of upd_same, ?_⟩⟩
      have sm2 : Same H (upd H1 b (.lst [])) := sm.trans (Same.new hb)
      have R2 := R.mono (H2 := upd H1 b (.lst [])) (fun t ys e => Same.new hb _ _ e)
      have ep2 : upd H1 b (.lst []) p = some (.lst xs) := Same.new hb _ _ ep
      generalize upd H1 b (.lst []) = H2 at sm2 R2 ep2
      rcases List.eq_nil_or_concat ds with hds | ⟨ds, e, hds⟩
      · subst hds
        have hx0 : xs = [] := List.length_eq_zero_iff.mp R.len
        subst hx0
        exact iteT (q _ sm2)
      · rw [List.concat_eq_append] at hds
        subst hds
        rw [dsizes_app] at hsz
        have hxl : xs.isEmpty = false := by
          have := R.len
          cases xs with
          | nil => simp at this
          | cons _ _ => rfl
        rw [hxl]
        refine iteF ?_
        obtain ⟨R3, t, v1, v2, et, e2, r1, r2⟩ := R2.init
        have sm3 : Same H (upd H2 p (.lst xs.dropLast)) := sm2.mut hp
        have R4 := R3.mono (tup_upd (o := .lst xs.dropLast) ep2)
        have hds1 : dsizes [e] = dsize e := by simp [dsizes]
        have hpos := dsize_pos e
        refine ⟨.inl ⟨rfl, _, SqL.of ep2⟩, xs, ep2, _, et, t, rfl, [v1, v2], SqT.of (tup_upd ep2 _ _ e2), rfl, v1, [v2], rfl, v2, [], rfl, rfl, ?_⟩
        cases e with
        | non =>
          obtain rfl : v1 = .non := r1
          obtain rfl : v2 = .non := r2
          rw [if_pos rfl, if_neg (fun z => z rfl)]
          exact ⟨p, _, ds, _, _, _, _, _, ⟨rfl, rfl, rfl, rfl, rfl, rfl⟩, sm3, hp, upd_same, R4, by omega⟩
        | bl k =>
          obtain rfl : v1 = .bl k := r1
          obtain rfl : v2 = .bl k := r2
          rw [if_neg (fun z => nomatch z)]
          refine isi (K := K) (.bl _) (kit_ty (b := "bool") (r := true) (by decide +kernel)) ⟨true, rfl, iteT ?_⟩
          refine isi (K := K) (.bl _) (kit_ty (b := "bool") (r := true) (by decide +kernel)) ⟨true, rfl, ?_⟩
          rw [if_neg (fun z => nomatch z)]
          refine ⟨rfl, ?_⟩
          rw [if_neg (fun z => z rfl)]
          exact ⟨p, _, ds, _, _, _, _, _, ⟨rfl, rfl, rfl, rfl, rfl, rfl⟩, sm3, hp, upd_same, R4, by omega⟩
        | int k =>
          obtain rfl : v1 = .int k := r1
          obtain rfl : v2 = .int k := r2
          rw [if_neg (fun z => nomatch z)]
          refine isi (K := K) (.int _) (kit_ty (b := "bool") (r := false) (by decide +kernel)) ⟨false, rfl, iteF ?_⟩
          refine isi (K := K) (.int _) (kit_ty (b := "int") (r := true) (by decide +kernel)) ⟨true, rfl, iteT ?_⟩
          refine isi (K := K) (.int _) (kit_ty (b := "int") (r := true) (by decide +kernel)) ⟨true, rfl, ?_⟩
          rw [if_neg (fun z => nomatch z)]
          refine isi (K := K) (.int _) (kit_ty (b := "bool") (r := false) (by decide +kernel)) ⟨false, rfl, iteF ?_⟩
          refine ⟨rfl, ?_⟩
          rw [if_neg (fun z => z rfl)]
          exact ⟨p, _, ds, _, _, _, _, _, ⟨rfl, rfl, rfl, rfl, rfl, rfl⟩, sm3, hp, upd_same, R4, by omega⟩
        | str k =>
          obtain rfl : v1 = .str (S k) := r1
          obtain rfl : v2 = .str (S k) := r2
          rw [if_neg (fun z => nomatch z)]
          refine isi (K := K) (.str _) (kit_ty (b := "bool") (r := false) (by decide +kernel)) ⟨false, rfl, iteF ?_⟩
          refine isi (K := K) (.str _) (kit_ty (b := "int") (r := false) (by decide +kernel)) ⟨false, rfl, iteF ?_⟩
          refine isi (K := K) (.str _) (kit_ty (b := "str") (r := true) (by decide +kernel)) ⟨true, rfl, iteT ?_⟩
          refine isi (K := K) (.str _) (kit_ty (b := "str") (r := true) (by decide +kernel)) ⟨true, rfl, ?_⟩
          rw [if_neg (fun z => nomatch z)]
          refine ⟨rfl, ?_⟩
          rw [if_neg (fun z => z rfl)]
          exact ⟨p, _, ds, _, _, _, _, _, ⟨rfl, rfl, rfl, rfl, rfl, rfl⟩, sm3, hp, upd_same, R4, by omega⟩
        | tup es =>
          obtain ⟨a1, ys, rfl, g1, q1⟩ := r1
          obtain ⟨a2, zs, rfl, g2, q2⟩ := r2
          have k1 := sm3 _ _ g1
          have k2 := sm3 _ _ g2
          rw [if_neg (fun z => nomatch z)]
          refine isi (K := K) (.tup k2) (kit_ty (b := "bool") (r := false) (by decide +kernel)) ⟨false, rfl, iteF ?_⟩
          refine isi (K := K) (.tup k2) (kit_ty (b := "int") (r := false) (by decide +kernel)) ⟨false, rfl, iteF ?_⟩
          refine isi (K := K) (.tup k2) (kit_ty (b := "str") (r := false) (by decide +kernel)) ⟨false, rfl, iteF ?_⟩
          refine isi (K := K) (.tup k2) (kit_ty (b := "dict") (r := false) (by decide +kernel)) ⟨false, rfl, iteF ?_⟩
          refine isi (K := K) (.tup k2) (kit_ty (b := "tuple") (r := true) (by decide +kernel)) ⟨true, rfl, ?_⟩
          rw [if_pos rfl]
          refine isi (K := K) (.tup k1) (kit_ty (b := "tuple") (r := true) (by decide +kernel)) ⟨true, rfl, ?_⟩
          rw [if_neg (fun z => nomatch z)]
          refine isi (K := K) (.tup k2) (kit_ty (b := "list") (r := false) (by decide +kernel)) ⟨false, rfl, iteF ?_⟩
          refine ⟨_, rfl, ys, .inr (SqT.of k1), _, rfl, zs, .inr (SqT.of k2), ?_⟩
          rw [if_neg (fun z => z (by rw [q1.length, q2.length]))]
          refine ⟨.inl ⟨rfl, _, SqL.of upd_same⟩, ?_⟩
          have hes : es.length ≤ dsizes es := len_dsizes es
          have hde : dsize (.tup es) = 1 + dsizes es := by simp [dsize]
          have hxs := R3.len
          have hdl := len_dsizes ds
          refine lc_pairs (H := H) (ys := ys) (zs := zs) (es := es) rfl rfl rfl (by simp) sm3 (fun H4 s4 => .inr <| SqT.of (s4 _ _ k1)) (fun H4 s4 => .inr <| SqT.of (s4 _ _ k2)) q1 q2 (by omega) fun c acc H4 s4 hc ec R5 => ?_
          refine ⟨c, rfl, _, s4 _ _ upd_same, acc, ec, sz5 ?_, p, _, ds ++ es, _, _, _, _, _, ⟨rfl, rfl, rfl, rfl, rfl, rfl⟩, (sm3.trans s4).mut hp, hp, upd_same, ?_, ?_⟩
          · have := R5.len
            omega
          · exact ((R4.mono fun t ys e => s4 _ _ e).app R5).mono (tup_upd (s4 _ _ upd_same))
          · rw [dsizes_app]
            omega
        | lst es =>
          obtain ⟨a1, ys, rfl, g1, q1⟩ := r1
          obtain ⟨a2, zs, rfl, g2, q2⟩ := r2
          have k1 := sm3 _ _ g1
          have k2 := sm3 _ _ g2
          rw [if_neg (fun z => nomatch z)]
          refine isi (K := K) (.lst k2) (kit_ty (b := "bool") (r := false) (by decide +kernel)) ⟨false, rfl, iteF ?_⟩
          refine isi (K := K) (.lst k2) (kit_ty (b := "int") (r := false) (by decide +kernel)) ⟨false, rfl, iteF ?_⟩
          refine isi (K := K) (.lst k2) (kit_ty (b := "str") (r := false) (by decide +kernel)) ⟨false, rfl, iteF ?_⟩
          refine isi (K := K) (.lst k2) (kit_ty (b := "dict") (r := false) (by decide +kernel)) ⟨false, rfl, iteF ?_⟩
          refine isi (K := K) (.lst k2) (kit_ty (b := "tuple") (r := false) (by decide +kernel)) ⟨false, rfl, ?_⟩
          rw [if_neg (fun z => nomatch z)]
          refine isi (K := K) (.lst k2) (kit_ty (b := "list") (r := true) (by decide +kernel)) ⟨true, rfl, iteT ?_⟩
          refine isi (K := K) (.lst k1) (kit_ty (b := "list") (r := true) (by decide +kernel)) ⟨true, rfl, ?_⟩
          rw [if_neg (fun z => nomatch z)]
          refine ⟨_, rfl, ys, .inl (SqL.of k1), _, rfl, zs, .inl (SqL.of k2), ?_⟩
          rw [if_neg (fun z => z (by rw [q1.length, q2.length]))]
          refine ⟨.inl ⟨rfl, _, SqL.of upd_same⟩, ?_⟩
          have hes : es.length ≤ dsizes es := len_dsizes es
          have hde : dsize (.lst es) = 1 + dsizes es := by simp [dsize]
          have hxs := R3.len
          have hdl := len_dsizes ds
          refine lc_pairs (H := H) (ys := ys) (zs := zs) (es := es) rfl rfl rfl (by simp) sm3 (fun H4 s4 => .inl <| SqL.of (s4 _ _ k1)) (fun H4 s4 => .inl <| SqL.of (s4 _ _ k2)) q1 q2 (by omega) fun c acc H4 s4 hc ec R5 => ?_
          refine ⟨c, rfl, _, s4 _ _ upd_same, acc, ec, sz5 ?_, p, _, ds ++ es, _, _, _, _, _, ⟨rfl, rfl, rfl, rfl, rfl, rfl⟩, (sm3.trans s4).mut hp, hp, upd_same, ?_, ?_⟩
          · have := R5.len
            omega
          · exact ((R4.mono fun t ys e => s4 _ _ e).app R5).mono (tup_upd (s4 _ _ upd_same))
          · rw [dsizes_app]
            omega
    · rintro σ H1 ⟨p, xs, ds, e3, e4, e5, e6, e7, rfl, sm, hp, ep, R, hsz⟩
      exfalso
      have : (10 ^ 7 : Nat) = 10000000 := by decide
      omega
end
end K78


namespace K78
open PySem PySem.Spec PyProof.Rows L2 KB
section
variable {P : Program} {w : World} {K : PySem.W.Frag} {mg : Str → Option Value} {base : Heap}
def spFits : Sp := fun vs H Q _ => ∃ (k : M78.Kind) (wo : M78.Word), vs = [kindV k, .str (S wo.1), .bl wo.2] ∧ wo.1.length ≤ 100000 ∧ Q (.bl (M78.fits k wo)) H
theorem starts_hash (l : List Nat) : Txt.startswith (S l) "#" = match l with | [] => false | c :: _ => decide (c = 35) := by
  have h := StrLaws.subAt_one (S l) 35 0
  have e : Txt.startswith (S l) "#" = true ↔ l[0]? = some 35 := by
    unfold Txt.startswith
    rw [Bool.and_eq_true, decide_eq_true_eq]
    exact h
  cases l with
  | nil =>
    cases he : Txt.startswith (S []) "#" with
    | false => rfl
    | true => exact absurd (e.mp he) (by simp)
  | cons c r =>
    rw [Bool.eq_iff_iff, e]
    simp
theorem isT_hash {wo : List Nat} (h : ¬ wo = M78.w_self) : M78.isTarget wo = match wo with | [] => false | c :: r => decide (c = 35) && decide (1 ≤ r.length) := by
  match wo with
  | [] => simp [M78.isTarget, h]
  | [c] => simp [M78.isTarget, h]
  | c :: d :: r =>
    by_cases h2 : c = 35
    · subst h2
      simp [M78.isTarget]
    · simp [M78.isTarget, h, h2]
theorem okFits (T : Top K w mg) : Ok P w K mg base CX0 3 "fits" ["kind", "word", "is_quoted"] spFits := by
  have m_len := T.m_len
  have GIsName : Ok P w K mg base CX0 2 "is_name" ["value"] spIsName := okIsName T
  refine mkOk T.f_fits scFits (fun vs H Q E h => ?_) (fun f cdv A outer s H vs Q E hr h => ?_)
  · obtain ⟨_, _, rfl, _⟩ := h
    rfl
  · obtain ⟨k, ⟨wo, qd⟩, rfl, hl, q⟩ := h
    refine ⟨_, pss_cons (ps_if (pt_cmpR op_eq (pv 0) (pe_str) (nomark _))
  (pss_one (ps_ret (pe_bl)))
  (pss_nil))
  (pss_cons (ps_if (pt_val (pv 2))
  (pss_one (ps_ret (pe_bl)))
  (pss_nil))
  (pss_cons (ps_if (pt_cmpR op_eq (pv 0) (pe_str) (nomark _))
  (pss_one (ps_ret (pe_or (pe_cmpR op_eq (pv 1) (pe_str) (nomark _)) (pe_one (pe_and (pe_bm PySem.F.plainAttrs_str PySem.F.slot_str_startswith PySem.F.type_str_startswith mt_startswith (pv 1) (pa_cons (pe_str) pa_nil)) (pe_one (pe_cmpR op_gt (pe_callB call_len_str (by rfl) m_len PySem.boot_len (pa_cons (pv 1) pa_nil)) (pe_int) (nomark _))))))))
  (pss_nil))
  (pss_one (ps_ret (pe_or (pe_cmpR op_eq (pv 0) (pe_str) (nomark _)) (pe_one (pcall GIsName (hr.mono (by decide)) (by rfl) pass0 (pa_cons (pv 1) pa_nil)))))))), ?_⟩
    (try simp only [cx_K, cx_w, rMulS, CwR.tReplC, tM1, tBM0, rPop, rExtend, rReverse, rLenS, rEqE, rNeE, rSetL, rIntI, rIntB, tBM, rAppend, rIxL, rIxT, rCat, rSlL, rSlS, gTup, tYes, wipe, tSeq, tAsg, tIfS, tRet, tRetN, tDrop, tNext, tBreak, tCont, tNever, tAug, ipI, tPar, tPar3, gName, gCons, gNil, gSub, tVar, tC, tOp, tUn, tIf, tAndV, tOrV, tNotV, tAnd, tOr, tNot, L2.tB, tTest, tCmp, tChain, tCB, tCons, tNil, tCall, tTup, tLst, tSl, tPart, tNoPart, rI, rI0, rU, rEq, rNe, scal_ii, scal_ss, scal_bb, scal_nn, scal_is, scal_si, rIxS, S_len, S_cps, S_inj, L2.start, List.map_cons, List.map_nil, List.cons_append, List.nil_append, List.append_nil, List.getElem?_cons_zero, List.getElem?_cons_succ, List.set_cons_zero, List.set_cons_succ, List.length_cons, List.length_nil, Nat.reduceAdd, Nat.reduceSub, List.replicate_succ, List.replicate_zero, Option.some.injEq, V.int.injEq, V.str.injEq, V.bl.injEq, V.ref.injEq, List.cons.injEq, and_true, true_and, exists_eq_left, exists_eq_left', exists_and_left, exists_eq, exists_eq', decide_eq_true_eq, Bool.not_eq_true', decide_eq_false_iff_not, Bool.false_eq_true, if_false, if_true, reduceIte, ite_self, CMul, CPow, CDiv])
    have cA : Str.ofString "any" = S [97, 110, 121] := id rfl
    cases k with
    | any => exact ⟨rfl, ite2 (fun _ => q) (fun h => absurd rfl h)⟩
    | target =>
      refine ⟨rfl, ?_⟩
      refine ite2 (fun h => absurd h (by decide +kernel)) (fun _ => ?_)
      simp only [M78.fits] at q
      refine ite2 (fun hq => by subst hq; exact q) (fun hq => ?_)
      have hq : qd = false := by simpa using hq
      subst hq
      refine ⟨rfl, ?_⟩
      refine ite2 (fun _ => ?_) (fun h => absurd rfl h)
      have cS : Str.ofString "self" = S M78.w_self := id rfl
      rw [cS]
      simp only [S_inj]
      refine ite2 (fun h => ?_) (fun h => ?_)
      · exact qb q (by simp [M78.isTarget, h])
      rw [starts_hash]
      have eT := isT_hash h
      refine ⟨rfl, ?_⟩
      cases wo with
      | nil => exact ite2 (fun h2 => nomatch h2) (fun _ => qb q (by rw [eT]; rfl))
      | cons c r =>
        refine ite2 (fun h2 => ⟨sz5 (by exact Nat.le_trans hl (by decide)), qb q ?_⟩) (fun h2 => qb q ?_)
        · have h2 : decide (c = 35) = true := h2
          rw [eT]
          show decide _ = (true && (decide (c = 35) && decide (1 ≤ r.length)))
          rw [h2, Bool.true_and, Bool.true_and, List.length_cons]
          exact decide_eq_decide.mpr (by omega)
        · have h2 : decide (c = 35) = false := by simpa using h2
          rw [eT]
          show _ = (true && (decide (c = 35) && decide (1 ≤ r.length)))
          rw [h2]
          rfl
    | name =>
      refine ⟨rfl, ?_⟩
      refine ite2 (fun h => absurd h (by decide +kernel)) (fun _ => ?_)
      simp only [M78.fits] at q
      refine ite2 (fun hq => by subst hq; exact q) (fun hq => ?_)
      have hq : qd = false := by simpa using hq
      subst hq
      refine ⟨rfl, ?_⟩
      refine ite2 (fun h => absurd h (by decide +kernel)) (fun _ => ?_)
      refine ⟨rfl, ?_⟩
      refine ite2 (fun h => absurd h (by decide +kernel)) (fun _ => ?_)
      exact ⟨wo, rfl, hl, q⟩
    | word =>
      refine ⟨rfl, ?_⟩
      refine ite2 (fun h => absurd h (by decide +kernel)) (fun _ => ?_)
      simp only [M78.fits] at q
      refine ite2 (fun hq => by subst hq; exact q) (fun hq => ?_)
      have hq : qd = false := by simpa using hq
      subst hq
      refine ⟨rfl, ?_⟩
      refine ite2 (fun h => absurd h (by decide +kernel)) (fun _ => ?_)
      refine ⟨rfl, ?_⟩
      exact ite2 (fun _ => q) (fun h => absurd rfl h)
theorem wd_at {H : Hp} {ws : List M78.Word} {xs : List V} (h : Reps H (ws.map wordD) xs) {i : Nat} {wo : M78.Word} (hi : ws[i]? = some wo) : ∃ t, xs[i]? = some (.ref t) ∧ H t = some (.tup [.str (S wo.1), .bl wo.2]) := by
  have hlt : i < xs.length := by
    rw [h.len2]
    exact (List.getElem?_eq_some_iff.mp hi).1
  obtain ⟨d, hd, hr⟩ := h.get (List.getElem?_eq_getElem hlt)
  rw [List.getElem?_map, hi] at hd
  have hd : wordD wo = d := Option.some.inj hd
  subst hd
  obtain ⟨t, ys, e, ht, _, _, rfl, rfl, _, _, rfl, rfl, rfl⟩ := hr
  exact ⟨t, by rw [List.getElem?_eq_getElem hlt, e], ht⟩
theorem allFit_len : ∀ {ks : List M78.Kind} {ws : List M78.Word}, ks.length ≠ ws.length → M78.allFit ks ws = false
  | [], [], h => absurd rfl h
  | [], _ :: _, _ => rfl
  | _ :: _, [], _ => rfl
  | k :: ks, w :: ws, h => by
    rw [M78.allFit, allFit_len (by simpa using h), Bool.and_false]
theorem allFit_take {ks : List M78.Kind} {ws : List M78.Word} : ∀ {i : Nat} {k : M78.Kind} {w : M78.Word}, ks[i]? = some k → ws[i]? = some w → M78.allFit (ks.take i) (ws.take i) = true →
    M78.allFit (ks.take (i + 1)) (ws.take (i + 1)) = M78.fits k w ∧ (M78.fits k w = false → M78.allFit ks ws = false) := by
  induction ks generalizing ws with
  | nil => intro i k w h
           cases h
  | cons k0 ks ih =>
    intro i k w hk hw ha
    cases ws with
    | nil => cases hw
    | cons w0 ws =>
      cases i with
      | zero =>
        have hk : k0 = k := Option.some.inj hk
        have hw : w0 = w := Option.some.inj hw
        subst hk hw
        refine ⟨?_, fun h => ?_⟩
        · show M78.allFit [k0] [w0] = _
          simp [M78.allFit]
        · simp [M78.allFit, h]
      | succ i =>
        rw [List.take_succ_cons, List.take_succ_cons, M78.allFit, Bool.and_eq_true] at ha
        obtain ⟨i1, i2⟩ := ih hk hw ha.2
        refine ⟨?_, fun h => ?_⟩
        · rw [List.take_succ_cons, List.take_succ_cons, M78.allFit, ha.1, i1, Bool.true_and]
        · rw [M78.allFit, i2 h, Bool.and_false]
theorem cut_tail (x : V) (xs : List V) : cutV (x :: xs) (some 1) none = xs := by
  unfold cutV
  rw [show ((1 : Int)) = ((1 : Nat) : Int) from rfl, HT.sIx_nat]
  show List.take ((xs.length + 1) - min 1 (xs.length + 1)) ((x :: xs).drop (min 1 (xs.length + 1))) = xs
  rw [show min 1 (xs.length + 1) = 1 by omega]
  simp
def strsD (l : List (List Nat)) : D := .tup (l.map .str)
def actD : Option (List (List Nat)) → D
  | none => .non
  | some l => strsD l
/-- the words of a part, without their marks -/
theorem lc_words {H H3 : Hp} {a : Addr} {ws : List M78.Word} {xs : List V} {e1 e2 e3 e4 : Option V} {Qc : VK}
    (s3 : Same H H3) (ha : H a = some (.lst xs)) (hR : Reps H (ws.map wordD) xs) (hz : ws.length ≤ 100000)
    (q : ∀ b H4, Same H3 H4 → H3 b = none → H4 b = some (.lst (ws.map fun wo => V.str (S wo.1))) → Qc (.ref b) H4) :
    tLc (iList K (tVar 0)) (gTup K 2 (gCons (gName 3) (gCons (gName 4) gNil))) tYes (tVar 3) [3, 4] [some (V.ref a), e1, e2, e3, e4] H3 Qc := by
  have hlen := hR.len2
  refine ⟨.ref a, rfl, a, rfl, ⟨_, SqL.of (s3 _ _ ha)⟩, fun b hb => lc_list (xs := xs) (fun i H4 => Same H3 H4 ∧ H4 b = some (.lst ((ws.take i).map fun wo => V.str (S wo.1)))) ⟨Same.new hb, upd_same⟩ (fun i H4 _ hP => SqL.of (hP.1 _ _ (s3 _ _ ha))) (fun i x H4 hx hP => ?_) (fun H4 hP => ?_)⟩
  · obtain ⟨s4, e4⟩ := hP
    have hi : i < xs.length := (List.getElem?_eq_some_iff.mp hx).1
    have hiw : i < ws.length := by omega
    have hw1 : ws[i]? = some ws[i] := List.getElem?_eq_getElem hiw
    obtain ⟨tt, e5, e6⟩ := wd_at hR hw1
    rw [hx] at e5
    have e5 : x = .ref tt := Option.some.inj e5
    subst e5
    refine ⟨tt, _, rfl, SqT.of (s4 _ _ (s3 _ _ e6)), rfl, ?_⟩
    (try simp only [cx_K, cx_w, rMulS, CwR.tReplC, tM1, tBM0, rPop, rExtend, rReverse, rLenS, rEqE, rNeE, rSetL, rIntI, rIntB, tBM, rAppend, rIxL, rIxT, rCat, rSlL, rSlS, gTup, tYes, wipe, tSeq, tAsg, tIfS, tRet, tRetN, tDrop, tNext, tBreak, tCont, tNever, tAug, ipI, tPar, tPar3, gName, gCons, gNil, gSub, tVar, tC, tOp, tUn, tIf, tAndV, tOrV, tNotV, tAnd, tOr, tNot, L2.tB, tTest, tCmp, tChain, tCB, tCons, tNil, tCall, tTup, tLst, tSl, tPart, tNoPart, rI, rI0, rU, rEq, rNe, scal_ii, scal_ss, scal_bb, scal_nn, scal_is, scal_si, rIxS, S_len, S_cps, S_inj, L2.start, List.map_cons, List.map_nil, List.cons_append, List.nil_append, List.append_nil, List.getElem?_cons_zero, List.getElem?_cons_succ, List.set_cons_zero, List.set_cons_succ, List.length_cons, List.length_nil, Nat.reduceAdd, Nat.reduceSub, List.replicate_succ, List.replicate_zero, Option.some.injEq, V.int.injEq, V.str.injEq, V.bl.injEq, V.ref.injEq, List.cons.injEq, and_true, true_and, exists_eq_left, exists_eq_left', exists_and_left, exists_eq, exists_eq', decide_eq_true_eq, Bool.not_eq_true', decide_eq_false_iff_not, Bool.false_eq_true, if_false, if_true, reduceIte, ite_self, CMul, CPow, CDiv])
    refine ⟨_, _, ⟨rfl, rfl⟩, _, _, rfl, rfl, _, e4, ?_, s4.mut hb, ?_⟩
    · rw [List.length_map, List.length_take]
      exact sz5' (by omega)
    · rw [upd_same, take_snoc hw1, List.map_append]
      rfl
  · obtain ⟨s4, e4⟩ := hP
    rw [hlen, List.take_length] at e4
    exact q b H4 s4 hb e4
/-- of a part's words (in a list) or None: the action, a new tuple, or None -/
def spActionOf : Sp := fun vs H Q _ => ∃ (v : V) (o : Option (List M78.Word)), vs = [v] ∧ Rep H (optD o) v ∧ (∀ ws, o = some ws → ws.length ≤ 100000 ∧ ∀ wo ∈ ws, wo.1.length ≤ 100000) ∧ ∀ r H', Same H H' → Rep (since H H') (actD (M78.act o)) r → Q r H'
theorem okActionOf (T : Top K w mg) : Ok P w K mg base CX0 4 "action_of" ["words"] spActionOf := by
  have m_len := T.m_len
  have m_zip := T.m_zip
  have m_tuple := T.m_tuple
  obtain ⟨dF, m_FORMS, ⟨esF, nF, D_FORMS⟩, hF⟩ := T.m_FORMS
  have GFits : Ok P w K mg base CX0 3 "fits" ["kind", "word", "is_quoted"] spFits := okFits T
  refine mkOk T.f_action_of scActionOf (fun vs H Q E h => ?_) (fun f cdv A outer s H vs Q E hr h => ?_)
  · obtain ⟨_, _, rfl, _⟩ := h
    rfl
  · obtain ⟨v, o, rfl, hR, hl, q⟩ := h
    have hz1 : ∀ {n : Nat}, n ≤ 100000 → n ≤ sizeLine := fun h => sz5 (by omega)
    refine ⟨_, pss_cons (ps_if (PW.pt (pw_or (pt_cmpR op_isN (pv 0) (pe_non) (nomark _)) (pw_or (pt_cmpR (op_eqE hr.units0) (pv 0) (pe_lst (pa_nil)) (nomark _)) (pw_or (pt_val (pe_ix ix_tup (pe_ix ix_list (pv 0) (pe_int) (fun _ _ => rfl)) (pe_int) (fun _ _ => rfl))) (pw_or1 (pt_cmpR (op_notIn_kd D_FORMS) (pe_ix ix_tup (pe_ix ix_list (pv 0) (pe_int) (fun _ _ => rfl)) (pe_int) (fun _ _ => rfl)) (pe_glob (v := .ref dF) rfl m_FORMS rfl) rfl))))))
  (pss_one (ps_ret (pe_non)))
  (pss_nil))
  (pss_cons (ps_set (i := 1) scActionOf.nd rfl (Or.inl rfl) (pe_ix ix_kdict (pe_glob (v := .ref dF) rfl m_FORMS rfl) (pe_ix ix_tup (pe_ix ix_list (pv 0) (pe_int) (fun _ _ => rfl)) (pe_int) (fun _ _ => rfl)) (fun _ _ => rfl)))
  (pss_cons (ps_if (pt_cmpR op_ne (pe_callB (call_len_seqK (K := K) rfl) (by rfl) m_len PySem.boot_len (pa_cons (pv 1) pa_nil)) (pe_op op_sub (pe_callB (call_len_seqK (K := K) rfl) (by rfl) m_len PySem.boot_len (pa_cons (pv 0) pa_nil)) (pe_int)) (nomark _))
  (pss_one (ps_ret (pe_non)))
  (pss_nil))
  (pss_cons (ps_for PassesOwn.never rfl (pi_zipM (by rfl) m_zip (pa_cons (pv 1) (pa_cons (pe_slice sl_list (pv 0) (po_some (pe_int)) po_none) pa_nil))) (pg_tup (n := 2) rfl (pgs_cons (pg_name (i := 2) scActionOf.nd rfl (Or.inl rfl)) (pgs_cons (pg_tup (n := 2) rfl (pgs_cons (pg_name (i := 3) scActionOf.nd rfl (Or.inl rfl)) (pgs_cons (pg_name (i := 4) scActionOf.nd rfl (Or.inl rfl)) pgs_nil))) pgs_nil)))
  (pss_one (ps_if (pt_not (pt_val (pcall GFits (hr.mono (by decide)) (by rfl) pass0 (pa_cons (pv 2) (pa_cons (pv 3) (pa_cons (pv 4) pa_nil))))))
  (pss_one (ps_ret (pe_non)))
  (pss_nil))))
  (pss_one (ps_ret (pe_callTy call_tuple_of (by rfl) m_tuple (by decide +kernel) (pa_cons (pe_lc (own := [("word", 3), ("is_quoted", 4)]) rfl scActionOf.nd (pi_list (pv 0)) (blkOk_by (own := [("word", 3), ("is_quoted", 4)]) (N := ["words", "kinds", "kind", "word", "is_quoted"]) (sc := defScope sActionOf) (by decide +kernel)) (fun _ _ _ _ _ => pg_tupK (K := K) (n := 2) rfl rfl (pgs_cons (pg_name (i := 3) scActionOf.nd rfl (Or.inl rfl)) (pgs_cons (pg_name (i := 4) scActionOf.nd rfl (Or.inl rfl)) pgs_nil))) (fun _ _ _ _ _ => pts_nil) (fun _ _ _ _ _ => pv 3)) pa_nil))))))), ?_⟩
    cases o with
    | none =>
      have hR : v = .non := hR
      subst hR
      (try simp only [cx_K, cx_w, rMulS, CwR.tReplC, tM1, tBM0, rPop, rExtend, rReverse, rLenS, rEqE, rNeE, rSetL, rIntI, rIntB, tBM, rAppend, rIxL, rIxT, rCat, rSlL, rSlS, gTup, tYes, wipe, tSeq, tAsg, tIfS, tRet, tRetN, tDrop, tNext, tBreak, tCont, tNever, tAug, ipI, tPar, tPar3, gName, gCons, gNil, gSub, tVar, tC, tOp, tUn, tIf, tAndV, tOrV, tNotV, tAnd, tOr, tNot, L2.tB, tTest, tCmp, tChain, tCB, tCons, tNil, tCall, tTup, tLst, tSl, tPart, tNoPart, rI, rI0, rU, rEq, rNe, scal_ii, scal_ss, scal_bb, scal_nn, scal_is, scal_si, rIxS, S_len, S_cps, S_inj, L2.start, List.map_cons, List.map_nil, List.cons_append, List.nil_append, List.append_nil, List.getElem?_cons_zero, List.getElem?_cons_succ, List.set_cons_zero, List.set_cons_succ, List.length_cons, List.length_nil, Nat.reduceAdd, Nat.reduceSub, List.replicate_succ, List.replicate_zero, Option.some.injEq, V.int.injEq, V.str.injEq, V.bl.injEq, V.ref.injEq, List.cons.injEq, and_true, true_and, exists_eq_left, exists_eq_left', exists_and_left, exists_eq, exists_eq', decide_eq_true_eq, Bool.not_eq_true', decide_eq_false_iff_not, Bool.false_eq_true, if_false, if_true, reduceIte, ite_self, CMul, CPow, CDiv])
      exact q _ _ (Same.refl _) rfl
    | some ws =>
      obtain ⟨a, xs, rfl, ha, hR⟩ := hR
      obtain ⟨hl1, hl2⟩ := hl ws rfl
      (try simp only [cx_K, cx_w, rMulS, CwR.tReplC, tM1, tBM0, rPop, rExtend, rReverse, rLenS, rEqE, rNeE, rSetL, rIntI, rIntB, tBM, rAppend, rIxL, rIxT, rCat, rSlL, rSlS, gTup, tYes, wipe, tSeq, tAsg, tIfS, tRet, tRetN, tDrop, tNext, tBreak, tCont, tNever, tAug, ipI, tPar, tPar3, gName, gCons, gNil, gSub, tVar, tC, tOp, tUn, tIf, tAndV, tOrV, tNotV, tAnd, tOr, tNot, L2.tB, tTest, tCmp, tChain, tCB, tCons, tNil, tCall, tTup, tLst, tSl, tPart, tNoPart, rI, rI0, rU, rEq, rNe, scal_ii, scal_ss, scal_bb, scal_nn, scal_is, scal_si, rIxS, S_len, S_cps, S_inj, L2.start, List.map_cons, List.map_nil, List.cons_append, List.nil_append, List.append_nil, List.getElem?_cons_zero, List.getElem?_cons_succ, List.set_cons_zero, List.set_cons_succ, List.length_cons, List.length_nil, Nat.reduceAdd, Nat.reduceSub, List.replicate_succ, List.replicate_zero, Option.some.injEq, V.int.injEq, V.str.injEq, V.bl.injEq, V.ref.injEq, List.cons.injEq, and_true, true_and, exists_eq_left, exists_eq_left', exists_and_left, exists_eq, exists_eq', decide_eq_true_eq, Bool.not_eq_true', decide_eq_false_iff_not, Bool.false_eq_true, if_false, if_true, reduceIte, ite_self, CMul, CPow, CDiv])
      rw [if_neg (fun z => nomatch z)]
      refine ⟨Nat.zero_le _, fun p hp => ?_⟩
      have sm1 : Same H (upd H p (.lst [])) := Same.new hp
      have ha1 := sm1 _ _ ha
      have hR1 := hR.mono sm1
      refine ⟨_, SqL.of ha1, SqL.of upd_same, ?_⟩
      have none1 : M78.isAct ws = false → Q .non (upd H p (.lst [])) := fun e => q _ _ sm1 (by simp [M78.act, e]; rfl)
      cases ws with
      | nil =>
        have hR : xs = [] := hR
        subst hR
        exact ite2 (fun _ => none1 rfl) (fun h => absurd rfl h)
      | cons w0 wr =>
        obtain ⟨x0, xr, rfl, ⟨t0, y0, rfl, ht0, hy0⟩, hRr⟩ := hR
        obtain ⟨_, _, rfl, rfl, _, _, rfl, rfl, rfl⟩ := hy0
        have ht1 := sm1 _ _ ht0
        rw [if_neg (by simp)]
        refine ⟨_, SqL.of ha1, _, at_nat (i := 0) rfl, _, rfl, _, SqT.of ht1, _, at_nat (i := 1) rfl, _, rfl, ?_⟩
        refine ite2 (fun h => none1 (by simp [M78.isAct, h])) (fun h0 => ?_)
        have h0 : w0.2 = false := by simpa using h0
        refine ⟨_, SqL.of ha1, _, at_nat (i := 0) rfl, _, rfl, _, SqT.of ht1, _, at_nat (i := 0) rfl, _, rfl, ?_⟩
        have hF0 := hF w0.1
        cases hk : M78.forms w0.1 with
        | none =>
          rw [hk] at hF0
          refine ⟨_, hF0, ?_⟩
          exact ite2 (fun _ => none1 (by simp [M78.isAct, hk])) (fun h => absurd rfl h)
        | some ks =>
          rw [hk] at hF0
          obtain ⟨fa, hF1, hFT⟩ := hF0
          refine ⟨_, hF1, ite2 (fun h => nomatch h) (fun _ => ?_)⟩
          refine ⟨_, SqL.of ha1, _, at_nat (i := 0) rfl, _, rfl, _, SqT.of ht1, _, at_nat (i := 0) rfl, ?_⟩
          have hlen := hRr.len2
          refine ⟨_, _, .ref fa, rfl, rfl, ⟨_, _, _, D_FORMS.at_, D_FORMS.lit, hF1, rfl⟩, ?_⟩
          refine ⟨_, rfl, _, .inr (hFT _), _, .inl (SqL.of ha1), ?_⟩
          have hxl : (V.ref t0 :: xr).length = wr.length + 1 := by rw [List.length_cons, hlen]
          rw [hxl, List.length_map]
          have none2 : ∀ H', Same H H' → M78.isAct (w0 :: wr) = false → Q .non H' := fun H' sm e => q _ _ sm (by simp [M78.act, e]; rfl)
          have hisA : M78.isAct (w0 :: wr) = M78.allFit ks wr := by simp [M78.isAct, h0, hk]
          refine ite2 (fun hne => none2 _ sm1 ?_) (fun he => ?_)
          · rw [hisA]
            exact allFit_len (by omega)
          · have he : ks.length = wr.length := by omega
            refine ⟨.ref fa, rfl, .ref a, rfl, 1, rfl, a, _, rfl, SqL.of ha1, fun l hl' => ?_⟩
            have hcut : cutV (V.ref t0 :: xr) (some 1) none = xr := cut_tail _ _
            rw [hcut]
            have sm2 : Same (upd H p (.lst [])) (upd (upd H p (.lst [])) l (.lst xr)) := Same.new hl'
            refine ⟨fa, l, ks.map kindV, xr, rfl, hFT _, SqL.of upd_same, for_it (walk_zipM (xs := ks.map kindV) (ys := xr) (n := ks.length) (by rw [List.length_map, hlen, he, Nat.min_self])) (fun i σ H1 => ∃ e2 e3 e4 : Option V, σ = [some (.ref a), some (.ref fa), e2, e3, e4] ∧ Same H H1 ∧ H1 l = some (.lst xr) ∧ M78.allFit (ks.take i) (wr.take i) = true) ?_ ?_ ?_ ?_⟩
            · exact ⟨_, _, _, rfl, sm1.trans sm2, upd_same, rfl⟩
            · rintro i σ H1 _ ⟨_, _, _, rfl, _, e, _⟩
              exact ⟨hFT _, SqL.of e⟩
            · rintro i x σ H1 H2 hi ⟨_, _, _, rfl, sm, e, hall⟩ ⟨T', x1, x2, rfl, hT, rfl, e1, e2⟩
              have e1 : (ks.map kindV)[i]? = some x1 := e1
              have e2 : xr[i]? = some x2 := e2
              rw [List.getElem?_map] at e1
              obtain ⟨k, hk1, rfl⟩ := Option.map_eq_some_iff.mp e1
              have hiw : i < wr.length := by omega
              have hw1 : wr[i]? = some wr[i] := List.getElem?_eq_getElem hiw
              obtain ⟨tt, e3, e4⟩ := wd_at hRr hw1
              rw [e2] at e3
              have e3 : x2 = .ref tt := Option.some.inj e3
              subst e3
              have hn3 : H1 tt = some (.tup [.str (S wr[i].1), .bl wr[i].2]) := sm _ _ e4
              have hn4 : upd H1 T' (.tup [kindV k, .ref tt]) tt = some (.tup [.str (S wr[i].1), .bl wr[i].2]) := (Same.new hT) _ _ hn3
              (try simp only [cx_K, cx_w, rMulS, CwR.tReplC, tM1, tBM0, rPop, rExtend, rReverse, rLenS, rEqE, rNeE, rSetL, rIntI, rIntB, tBM, rAppend, rIxL, rIxT, rCat, rSlL, rSlS, gTup, tYes, wipe, tSeq, tAsg, tIfS, tRet, tRetN, tDrop, tNext, tBreak, tCont, tNever, tAug, ipI, tPar, tPar3, gName, gCons, gNil, gSub, tVar, tC, tOp, tUn, tIf, tAndV, tOrV, tNotV, tAnd, tOr, tNot, L2.tB, tTest, tCmp, tChain, tCB, tCons, tNil, tCall, tTup, tLst, tSl, tPart, tNoPart, rI, rI0, rU, rEq, rNe, scal_ii, scal_ss, scal_bb, scal_nn, scal_is, scal_si, rIxS, S_len, S_cps, S_inj, L2.start, List.map_cons, List.map_nil, List.cons_append, List.nil_append, List.append_nil, List.getElem?_cons_zero, List.getElem?_cons_succ, List.set_cons_zero, List.set_cons_succ, List.length_cons, List.length_nil, Nat.reduceAdd, Nat.reduceSub, List.replicate_succ, List.replicate_zero, Option.some.injEq, V.int.injEq, V.str.injEq, V.bl.injEq, V.ref.injEq, List.cons.injEq, and_true, true_and, exists_eq_left, exists_eq_left', exists_and_left, exists_eq, exists_eq', decide_eq_true_eq, Bool.not_eq_true', decide_eq_false_iff_not, Bool.false_eq_true, if_false, if_true, reduceIte, ite_self, CMul, CPow, CDiv])
              have al := allFit_take hk1 hw1 hall
              refine ⟨_, SqT.of upd_same, rfl, _, _, rfl, _, _, rfl, _, rfl, _, SqT.of hn4, rfl, _, _, rfl, _, _, rfl, rfl, rfl, k, wr[i], rfl, hl2 _ (List.mem_cons_of_mem _ (List.getElem_mem hiw)), ?_⟩
              refine ⟨_, rfl, ite2 (fun h => ?_) (fun h => ?_)⟩
              · exact none2 _ (sm.trans (Same.new hT)) (by rw [hisA]; exact al.2 h)
              · have h : M78.fits k wr[i] = true := by simpa using h
                refine ⟨_, _, _, ⟨rfl, rfl, rfl⟩, sm.trans (Same.new hT), (Same.new hT) _ _ e, ?_⟩
                rw [al.1]
                exact h
            · rintro σ H1 ⟨_, _, _, rfl, sm, e, hall⟩
              (try simp only [cx_K, cx_w, rMulS, CwR.tReplC, tM1, tBM0, rPop, rExtend, rReverse, rLenS, rEqE, rNeE, rSetL, rIntI, rIntB, tBM, rAppend, rIxL, rIxT, rCat, rSlL, rSlS, gTup, tYes, wipe, tSeq, tAsg, tIfS, tRet, tRetN, tDrop, tNext, tBreak, tCont, tNever, tAug, ipI, tPar, tPar3, gName, gCons, gNil, gSub, tVar, tC, tOp, tUn, tIf, tAndV, tOrV, tNotV, tAnd, tOr, tNot, L2.tB, tTest, tCmp, tChain, tCB, tCons, tNil, tCall, tTup, tLst, tSl, tPart, tNoPart, rI, rI0, rU, rEq, rNe, scal_ii, scal_ss, scal_bb, scal_nn, scal_is, scal_si, rIxS, S_len, S_cps, S_inj, L2.start, List.map_cons, List.map_nil, List.cons_append, List.nil_append, List.append_nil, List.getElem?_cons_zero, List.getElem?_cons_succ, List.set_cons_zero, List.set_cons_succ, List.length_cons, List.length_nil, Nat.reduceAdd, Nat.reduceSub, List.replicate_succ, List.replicate_zero, Option.some.injEq, V.int.injEq, V.str.injEq, V.bl.injEq, V.ref.injEq, List.cons.injEq, and_true, true_and, exists_eq_left, exists_eq_left', exists_and_left, exists_eq, exists_eq', decide_eq_true_eq, Bool.not_eq_true', decide_eq_false_iff_not, Bool.false_eq_true, if_false, if_true, reduceIte, ite_self, CMul, CPow, CDiv])
              have hall2 : M78.isAct (w0 :: wr) = true := by
                rw [hisA]
                rwa [he, List.take_length, ← he, List.take_length] at hall
              have hRw : Reps H ((w0 :: wr).map wordD) (V.ref t0 :: xr) := ⟨_, _, rfl, ⟨t0, _, rfl, ht0, _, _, rfl, rfl, _, _, rfl, rfl, rfl⟩, hRr⟩
              refine lc_words (K := K) (H := H) (a := a) sm ha hRw hl1 fun b H4 s4 hb eb => ?_
              refine ⟨b, rfl, _, .inl ⟨SqL.of eb, fun d hd => q _ _ ((sm.trans s4).trans (Same.new hd)) ?_⟩⟩
              have e5 : M78.act (some (w0 :: wr)) = some ((w0 :: wr).map (·.1)) := by
                show (if M78.isAct (w0 :: wr) = true then _ else _) = _
                rw [if_pos hall2]
              rw [e5]
              refine ⟨d, _, rfl, since_some.mpr ⟨(sm.trans s4).free hd, upd_same⟩, ?_⟩
              have : ((w0 :: wr).map fun wo => V.str (S wo.1)) = ((w0 :: wr).map (·.1)).map fun z => V.str (S z) := by rw [List.map_map]; rfl
              rw [this]
              exact reps_strs
end
end K78


namespace K78
open PySem PySem.Spec PyProof.Rows L2 KB
section
variable {P : Program} {w : World} {K : PySem.W.Frag} {mg : Str → Option Value} {base : Heap}
theorem hide_upd {l : List Addr} {b : Addr} {H H2 H3 : Hp} {o : HO} (s : Same H2 H3) : Same (hide (b :: l) (since H H2)) (hide (b :: l) (since H (upd H3 b o))) := fun c x e => by
  obtain ⟨e1, e2⟩ := hide_some.mp e
  obtain ⟨e3, e4⟩ := since_some.mp e2
  refine hide_some.mpr ⟨e1, since_some.mpr ⟨e3, ?_⟩⟩
  rw [upd_ne (fun z => e1 (by rw [z]; exact List.mem_cons_self))]
  exact s _ _ e4
theorem since_upd {b : Addr} {H H2 H3 : Hp} {o : HO} (s : Same H H2) (hb : H2 b ≠ none) : Same (since H2 H3) (hide [b] (since H (upd H3 b o))) := fun c x e => by
  obtain ⟨e3, e4⟩ := since_some.mp e
  have hcb : c ≠ b := fun z => by
    subst z
    exact hb e3
  refine hide_some.mpr ⟨by simpa using hcb, since_some.mpr ⟨s.free e3, ?_⟩⟩
  rw [upd_ne hcb]
  exact e4
theorem since_right {H H2 H3 : Hp} (s : Same H2 H3) : Same (since H H2) (since H H3) := fun c x e => by
  obtain ⟨e3, e4⟩ := since_some.mp e
  exact since_some.mpr ⟨e3, s _ _ e4⟩
theorem since_left {H H2 H3 : Hp} (s : Same H H2) : Same (since H2 H3) (since H H3) := fun c x e => by
  obtain ⟨e3, e4⟩ := since_some.mp e
  exact since_some.mpr ⟨s.free e3, e4⟩
theorem upToQuote_parts {r : List Nat} {p : List Nat × List Nat} (h : M78.upToQuote r = some p) : p.1.length + p.2.length + 1 = r.length := by
  have e := (upToQuote_some h).1
  rw [e, List.length_append, List.length_cons]
  omega
theorem upToEnd_parts (r : List Nat) : (M78.upToEnd r).1.length + (M78.upToEnd r).2.length = r.length := by
  have e := congrArg List.length (upToEnd_split r)
  rw [List.length_append] at e
  omega
theorem isEnd_of {c : Nat} (h1 : ¬ c = 59) (h2 : ¬ M78.isBl c = true) : M78.isEnd c = false := by
  have h2 : M78.isBl c = false := by simpa using h2
  unfold M78.isBl at h2
  unfold M78.isEnd
  rw [h2]
  simpa using h1
theorem prun_count : ∀ (n : Nat) (t : List Nat) (ws : List M78.Word) (ok : Bool), t.length ≤ n → (M78.prun ws ok t).length ≤ t.length + 1
  | _, [], ws, ok, _ => by
    rw [M78.prun_nil]
    exact Nat.le_refl _
  | 0, _ :: _, _, _, h => absurd h (by simp)
  | n + 1, c :: r, ws, ok, h => by
    rw [List.length_cons] at h
    rw [List.length_cons]
    by_cases h1 : c = 59
    · subst h1
      rw [M78.prun_semi, List.length_cons]
      have := prun_count n r [] true (by omega)
      omega
    · by_cases h2 : M78.isBl c = true
      · rw [M78.prun_bl h2]
        have := prun_count n r ws ok (by omega)
        omega
      · by_cases h3 : c = 39
        · subst h3
          cases e : M78.upToQuote r with
          | none =>
            rw [M78.prun_q0 e]
            simp
          | some p =>
            rw [M78.prun_q1 e]
            have hp := upToQuote_parts e
            have := prun_count n p.2 (ws ++ [(p.1, true)]) (ok && M78.endsHere p.2) (by omega)
            omega
        · rw [M78.prun_w (isEnd_of h1 h2) h3]
          have hp := upToEnd_parts r
          have := prun_count n (M78.upToEnd r).2 (ws ++ [(c :: (M78.upToEnd r).1, false)]) ok (by omega)
          omega
theorem prun_bound : ∀ (n : Nat) (t : List Nat) (ws : List M78.Word) (ok : Bool), t.length ≤ n → ∀ o ∈ M78.prun ws ok t, ∀ ws', o = some ws' → ws'.length ≤ ws.length + t.length ∧ ∀ wo ∈ ws', wo ∈ ws ∨ wo.1.length ≤ t.length
  | _, [], ws, ok, _ => by
    intro o ho ws' e
    rw [M78.prun_nil] at ho
    have ho := List.mem_singleton.mp ho
    subst ho
    cases ok with
    | true =>
      have e : ws = ws' := Option.some.inj e
      subst e
      exact ⟨Nat.le_add_right _ _, fun wo h => .inl h⟩
    | false => cases e
  | 0, _ :: _, _, _, h => absurd h (by simp)
  | n + 1, c :: r, ws, ok, h => by
    rw [List.length_cons] at h
    intro o ho ws' e
    rw [List.length_cons]
    by_cases h1 : c = 59
    · subst h1
      rw [M78.prun_semi] at ho
      rcases List.mem_cons.mp ho with ho | ho
      · subst ho
        cases ok with
        | true =>
          have e : ws = ws' := Option.some.inj e
          subst e
          exact ⟨by omega, fun wo h => .inl h⟩
        | false => cases e
      · obtain ⟨a1, a2⟩ := prun_bound n r [] true (by omega) o ho ws' e
        rw [List.length_nil] at a1
        refine ⟨by omega, fun wo h => ?_⟩
        rcases a2 wo h with z | z
        · cases z
        · exact .inr (by omega)
    · by_cases h2 : M78.isBl c = true
      · rw [M78.prun_bl h2] at ho
        obtain ⟨a1, a2⟩ := prun_bound n r ws ok (by omega) o ho ws' e
        refine ⟨by omega, fun wo h => ?_⟩
        rcases a2 wo h with z | z
        · exact .inl z
        · exact .inr (by omega)
      · by_cases h3 : c = 39
        · subst h3
          cases eq : M78.upToQuote r with
          | none =>
            rw [M78.prun_q0 eq] at ho
            have ho := List.mem_singleton.mp ho
            rw [ho] at e
            cases e
          | some p =>
            rw [M78.prun_q1 eq] at ho
            have hp := upToQuote_parts eq
            obtain ⟨a1, a2⟩ := prun_bound n p.2 (ws ++ [(p.1, true)]) (ok && M78.endsHere p.2) (by omega) o ho ws' e
            rw [List.length_append, List.length_singleton] at a1
            refine ⟨by omega, fun wo h => ?_⟩
            rcases a2 wo h with z | z
            · rcases List.mem_append.mp z with z | z
              · exact .inl z
              · have z := List.mem_singleton.mp z
                subst z
                exact .inr (by show p.1.length ≤ _; omega)
            · exact .inr (by omega)
        · rw [M78.prun_w (isEnd_of h1 h2) h3] at ho
          have hp := upToEnd_parts r
          obtain ⟨a1, a2⟩ := prun_bound n (M78.upToEnd r).2 (ws ++ [(c :: (M78.upToEnd r).1, false)]) ok (by omega) o ho ws' e
          rw [List.length_append, List.length_singleton] at a1
          refine ⟨by omega, fun wo h => ?_⟩
          rcases a2 wo h with z | z
          · rcases List.mem_append.mp z with z | z
            · exact .inl z
            · have z := List.mem_singleton.mp z
              subst z
              exact .inr (by show (c :: (M78.upToEnd r).1).length ≤ _; rw [List.length_cons]; omega)
          · exact .inr (by omega)
def actsD (l : List (List (List Nat))) : D := .lst (l.map strsD)
def spActionsOf : Sp := fun vs H Q _ => ∃ l : List Nat, vs = [.str (S l)] ∧ l.length ≤ 3000 ∧ l.all told = true ∧ ∀ r H', Same H H' → Rep (since H H') (actsD (M78.acts l)) r → Q r H'
theorem okActionsOf (T : Top K w mg) : Ok P w K mg base CX0 5 "actions_of" ["text"] spActionsOf := by
  have GIsText : Ok P w K mg base CX0 3 "is_text" ["value"] spIsText := okIsText T
  have GPartsOf : Ok P w K mg base CX0 3 "parts_of" ["text"] spPartsOf := okPartsOf T
  have GActionOf : Ok P w K mg base CX0 4 "action_of" ["words"] spActionOf := okActionOf T
  refine mkOk T.f_actions_of scActionsOf (fun vs H Q E h => ?_) (fun f cdv A outer s H vs Q E hr h => ?_)
  · obtain ⟨_, rfl, _⟩ := h
    rfl
  · obtain ⟨l, rfl, hl, ht, q⟩ := h
    refine ⟨_, pss_cons (ps_if (pt_not (pt_val (pcall GIsText (hr.mono (by decide)) (by rfl) pass0 (pa_cons (pv 0) pa_nil))))
  (pss_never)
  (pss_nil))
  (pss_cons (ps_setLc (i := 1) (own := [("words", 2)]) rfl scActionsOf.nd rfl rfl (sw_true rfl rfl rfl (by decide +kernel)) (pi_list (pcall GPartsOf (hr.mono (by decide)) (by rfl) pass0 (pa_cons (pv 0) pa_nil))) (blkOk_by (own := [("words", 2)]) (N := ["text", "found", "words", "action"]) (sc := defScope sActionsOf) (by decide +kernel)) (fun _ _ _ _ _ => pg_name (i := 2) scActionsOf.nd rfl (Or.inl rfl)) (fun _ _ _ _ _ => pts_nil) (fun _ _ _ _ _ => pcall GActionOf (hr.mono (by decide)) (by rfl) pass0 (pa_cons (pv 2) pa_nil)))
  (pss_one (ps_ret (pe_lc (own := [("action", 3)]) rfl scActionsOf.nd (pi_list (pv 1)) (blkOk_by (own := [("action", 3)]) (N := ["text", "found", "words", "action"]) (sc := defScope sActionsOf) (by decide +kernel)) (fun _ _ _ _ _ => pg_name (i := 3) scActionsOf.nd rfl (Or.inl rfl)) (fun _ _ _ _ _ => pts_one (pt_cmpR op_notN (pv 3) (pe_non) (nomark _))) (fun _ _ _ _ _ => pv 3))))), ?_⟩
    (try simp only [cx_K, cx_w, rMulS, CwR.tReplC, tM1, tBM0, rPop, rExtend, rReverse, rLenS, rEqE, rNeE, rSetL, rIntI, rIntB, tBM, rAppend, rIxL, rIxT, rCat, rSlL, rSlS, gTup, tYes, wipe, tSeq, tAsg, tIfS, tRet, tRetN, tDrop, tNext, tBreak, tCont, tNever, tAug, ipI, tPar, tPar3, gName, gCons, gNil, gSub, tVar, tC, tOp, tUn, tIf, tAndV, tOrV, tNotV, tAnd, tOr, tNot, L2.tB, tTest, tCmp, tChain, tCB, tCons, tNil, tCall, tTup, tLst, tSl, tPart, tNoPart, rI, rI0, rU, rEq, rNe, scal_ii, scal_ss, scal_bb, scal_nn, scal_is, scal_si, rIxS, S_len, S_cps, S_inj, L2.start, List.map_cons, List.map_nil, List.cons_append, List.nil_append, List.append_nil, List.getElem?_cons_zero, List.getElem?_cons_succ, List.set_cons_zero, List.set_cons_succ, List.length_cons, List.length_nil, Nat.reduceAdd, Nat.reduceSub, List.replicate_succ, List.replicate_zero, Option.some.injEq, V.int.injEq, V.str.injEq, V.bl.injEq, V.ref.injEq, List.cons.injEq, and_true, true_and, exists_eq_left, exists_eq_left', exists_and_left, exists_eq, exists_eq', decide_eq_true_eq, Bool.not_eq_true', decide_eq_false_iff_not, Bool.false_eq_true, if_false, if_true, reduceIte, ite_self, CMul, CPow, CDiv])
    refine ⟨l, rfl, by omega, fun H1 sm1 => ⟨_, rfl, ?_⟩⟩
    have eT : (decide (l.length ≤ 3000) && l.all told) = true := by
      rw [ht, decide_eq_true hl]
      rfl
    rw [eT]
    rw [if_neg (fun z => nomatch z)]
    -- found
    refine ⟨_, rfl, l, rfl, by omega, fun v H2 sm2 hP => ?_⟩
    obtain ⟨pa, ps, rfl, eP, hR⟩ := hP
    obtain ⟨hP0, eP⟩ := since_some.mp eP
    have hlen := hR.len2
    have sm12 := sm1.trans sm2
    have hR2 := hR.mono (since_sub (H0 := H1) (H := H2))
    have hnP := prun_count l.length l [] true (Nat.le_refl _)
    refine ⟨pa, rfl, ⟨_, SqL.of eP⟩, fun b hb => lc_list (xs := ps) (fun i H3 => Same H2 H3 ∧ ∃ acc, H3 b = some (.lst acc) ∧ Reps (hide [b] (since H H3)) (((M78.prun [] true l).take i).map fun o => actD (M78.act o)) acc)
      ⟨Same.new hb, [], upd_same, rfl⟩ (fun i H3 _ hP => SqL.of (hP.1 _ _ eP)) (fun i x H3 hx hP => ?_) (fun H3 hP => ?_)⟩
    · obtain ⟨s3, acc, e3, r3⟩ := hP
      have hi : i < ps.length := (List.getElem?_eq_some_iff.mp hx).1
      have hio : i < (M78.prun [] true l).length := by omega
      have ho : (M78.prun [] true l)[i]? = some (M78.prun [] true l)[i] := List.getElem?_eq_getElem hio
      obtain ⟨d, hd, rd⟩ := hR2.get hx
      rw [List.getElem?_map, ho] at hd
      have hd : optD (M78.prun [] true l)[i] = d := Option.some.inj hd
      subst hd
      have hbd := prun_bound l.length l [] true (Nat.le_refl _) _ (List.getElem_mem hio)
      refine ⟨rfl, ?_⟩
      (try simp only [cx_K, cx_w, rMulS, CwR.tReplC, tM1, tBM0, rPop, rExtend, rReverse, rLenS, rEqE, rNeE, rSetL, rIntI, rIntB, tBM, rAppend, rIxL, rIxT, rCat, rSlL, rSlS, gTup, tYes, wipe, tSeq, tAsg, tIfS, tRet, tRetN, tDrop, tNext, tBreak, tCont, tNever, tAug, ipI, tPar, tPar3, gName, gCons, gNil, gSub, tVar, tC, tOp, tUn, tIf, tAndV, tOrV, tNotV, tAnd, tOr, tNot, L2.tB, tTest, tCmp, tChain, tCB, tCons, tNil, tCall, tTup, tLst, tSl, tPart, tNoPart, rI, rI0, rU, rEq, rNe, scal_ii, scal_ss, scal_bb, scal_nn, scal_is, scal_si, rIxS, S_len, S_cps, S_inj, L2.start, List.map_cons, List.map_nil, List.cons_append, List.nil_append, List.append_nil, List.getElem?_cons_zero, List.getElem?_cons_succ, List.set_cons_zero, List.set_cons_succ, List.length_cons, List.length_nil, Nat.reduceAdd, Nat.reduceSub, List.replicate_succ, List.replicate_zero, Option.some.injEq, V.int.injEq, V.str.injEq, V.bl.injEq, V.ref.injEq, List.cons.injEq, and_true, true_and, exists_eq_left, exists_eq_left', exists_and_left, exists_eq, exists_eq', decide_eq_true_eq, Bool.not_eq_true', decide_eq_false_iff_not, Bool.false_eq_true, if_false, if_true, reduceIte, ite_self, CMul, CPow, CDiv])
      refine ⟨x, _, rfl, rd.mono s3, fun ws hws => ?_, fun r H4 s4 r4 => ?_⟩
      · obtain ⟨b1, b2⟩ := hbd ws hws
        refine ⟨?_, fun wo hwo => ?_⟩
        · rw [List.length_nil] at b1
          omega
        · rcases b2 wo hwo with z | z
          · cases z
          · omega
      · have hb3 : H3 b ≠ none := by
          rw [e3]
          exact fun z => nomatch z
        refine ⟨acc, s4 _ _ e3, ?_, (s3.trans s4).mut hb, _, upd_same, ?_⟩
        · have := r3.len2
          rw [List.length_take] at this
          exact sz5' (by omega)
        · rw [take_snoc ho, List.map_append]
          refine (r3.mono (hide_upd s4)).snoc (r4.mono (since_upd (sm12.trans s3) hb3))
    · obtain ⟨s3, acc, e3, r3⟩ := hP
      rw [hlen, List.take_length] at r3
      have hal := r3.len2
      refine ⟨_, rfl, b, rfl, ⟨_, SqL.of e3⟩, fun c hc => lc_list (xs := acc) (fun i H4 => Same H3 H4 ∧ ∃ a2, H4 c = some (.lst a2) ∧ Reps (since H H3) ((((M78.prun [] true l).take i).filterMap M78.act).map strsD) a2)
        ⟨Same.new hc, [], upd_same, rfl⟩ (fun i H4 _ hP => SqL.of (hP.1 _ _ e3)) (fun i x H4 hx hP => ?_) (fun H4 hP => ?_)⟩
      · obtain ⟨s4, a2, e4, r4⟩ := hP
        have hi : i < acc.length := (List.getElem?_eq_some_iff.mp hx).1
        have hio : i < (M78.prun [] true l).length := by omega
        have ho : (M78.prun [] true l)[i]? = some (M78.prun [] true l)[i] := List.getElem?_eq_getElem hio
        obtain ⟨d, hd, rd⟩ := r3.get hx
        rw [List.getElem?_map, ho] at hd
        have hd : actD (M78.act (M78.prun [] true l)[i]) = d := Option.some.inj hd
        subst hd
        have rd := rd.mono hide_sub
        refine ⟨rfl, ?_⟩
        (try simp only [cx_K, cx_w, rMulS, CwR.tReplC, tM1, tBM0, rPop, rExtend, rReverse, rLenS, rEqE, rNeE, rSetL, rIntI, rIntB, tBM, rAppend, rIxL, rIxT, rCat, rSlL, rSlS, gTup, tYes, wipe, tSeq, tAsg, tIfS, tRet, tRetN, tDrop, tNext, tBreak, tCont, tNever, tAug, ipI, tPar, tPar3, gName, gCons, gNil, gSub, tVar, tC, tOp, tUn, tIf, tAndV, tOrV, tNotV, tAnd, tOr, tNot, L2.tB, tTest, tCmp, tChain, tCB, tCons, tNil, tCall, tTup, tLst, tSl, tPart, tNoPart, rI, rI0, rU, rEq, rNe, scal_ii, scal_ss, scal_bb, scal_nn, scal_is, scal_si, rIxS, S_len, S_cps, S_inj, L2.start, List.map_cons, List.map_nil, List.cons_append, List.nil_append, List.append_nil, List.getElem?_cons_zero, List.getElem?_cons_succ, List.set_cons_zero, List.set_cons_succ, List.length_cons, List.length_nil, Nat.reduceAdd, Nat.reduceSub, List.replicate_succ, List.replicate_zero, Option.some.injEq, V.int.injEq, V.str.injEq, V.bl.injEq, V.ref.injEq, List.cons.injEq, and_true, true_and, exists_eq_left, exists_eq_left', exists_and_left, exists_eq, exists_eq', decide_eq_true_eq, Bool.not_eq_true', decide_eq_false_iff_not, Bool.false_eq_true, if_false, if_true, reduceIte, ite_self, CMul, CPow, CDiv])
        have hl4 := r4.len2
        have hle := List.length_filterMap_le M78.act ((M78.prun [] true l).take i)
        rw [List.length_take] at hle
        cases ha : M78.act (M78.prun [] true l)[i] with
        | none =>
          rw [ha] at rd
          have rd : x = .non := rd
          subst rd
          refine ite2 (fun h => ?_) (fun _ => ⟨s4, a2, e4, ?_⟩)
          · simp at h
          rw [take_snoc ho, List.filterMap_append, List.filterMap_cons, ha]
          simpa using r4
        | some z =>
          rw [ha] at rd
          have hx2 : x ≠ .non := by
            obtain ⟨_, _, rfl, _⟩ := rd
            exact fun z => nomatch z
          refine ite2 (fun h => ⟨a2, e4, sz5' (by omega), s4.mut hc, _, upd_same, ?_⟩) (fun h => ?_)
          rotate_left
          · simp at h
            exact absurd h hx2
          rw [take_snoc ho, List.filterMap_append, List.filterMap_cons, ha, List.map_append]
          exact r4.snoc rd
      · obtain ⟨s4, a2, e4, r4⟩ := hP
        have : acc.length = (M78.prun [] true l).length := hal
        rw [this, List.take_length] at r4
        have hcH := (sm12.trans s3).free hc
        refine q _ _ ((sm12.trans s3).trans s4) ⟨c, a2, rfl, since_some.mpr ⟨hcH, e4⟩, r4.mono (since_right s4)⟩
end
end K78


namespace K78
open PySem PySem.Spec PyProof.Rows L2 KB
section
variable {P : Program} {w : World} {K : PySem.W.Frag} {mg : Str → Option Value} {base : Heap}
def lit (z : String) : List Nat := (Str.ofString z).cps.toList
theorem lit_eq (z : String) : Str.ofString z = S (lit z) := by
  show (Str.ofString z) = ⟨(Str.ofString z).cps.toList.toArray⟩
  rw [Array.toArray_toList]
def Sg (l : List Nat) : Prop := ∀ c ∈ l, told c = true
instance (l : List Nat) : Decidable (Sg l) := inferInstanceAs (Decidable (∀ c ∈ l, told c = true))
instance (l : List Nat) : Decidable (M78.Bl l) := inferInstanceAs (Decidable (∀ c ∈ l, M78.isBl c = true))
theorem atI_mem {xs : List V} {r : Int} (h0 : 0 ≤ r) (h1 : r < (xs.length : Int)) : ∃ v, atI xs r = some v ∧ v ∈ xs := by
  obtain ⟨n, rfl⟩ := Int.eq_ofNat_of_zero_le h0
  have hn : n < xs.length := by omega
  exact ⟨xs[n], at_nat (List.getElem?_eq_getElem hn), List.getElem_mem hn⟩
def joinL (sep : List Nat) : List (List Nat) → List Nat
  | [] => []
  | [x] => x
  | x :: y :: r => x ++ sep ++ joinL sep (y :: r)
theorem sjoin_S (sep : List Nat) : ∀ ls : List (List Nat), Str.join (S sep) (ls.map S) = S (joinL sep ls)
  | [] => rfl
  | [x] => rfl
  | x :: y :: r => by
    show S x ++ S sep ++ Str.join (S sep) ((y :: r).map S) = _
    rw [sjoin_S sep (y :: r), S_app, S_app]
    rfl
theorem join_S (sep : List Nat) (ls : List (List Nat)) : Txt.join (S sep) (ls.map S) = S (joinL sep ls) := by
  unfold Txt.join
  rw [StrLaws.glued_eq_join, sjoin_S]
theorem joinL_nil : ∀ ls : List (List Nat), joinL [] ls = ls.flatten
  | [] => rfl
  | [x] => by simp [joinL]
  | x :: y :: r => by
    rw [joinL, joinL_nil (y :: r)]
    simp
theorem joinL_semi : ∀ ls : List (List Nat), joinL [59] ls = M78.joinS ls
  | [] => rfl
  | [x] => rfl
  | x :: y :: r => by
    rw [joinL, joinL_semi (y :: r), List.append_assoc]
    rfl
theorem flatten_le {ls : List (List Nat)} {n : Nat} (h : ∀ l ∈ ls, l.length ≤ n) : ls.flatten.length ≤ ls.length * n := by
  induction ls with
  | nil => simp
  | cons l ls ih =>
    rw [List.flatten_cons, List.length_append, List.length_cons, Nat.add_mul, Nat.one_mul]
    have := ih fun l hl => h l (List.mem_cons_of_mem _ hl)
    have := h l List.mem_cons_self
    omega
theorem sum_le {ls : List (List Nat)} {n : Nat} (h : ∀ l ∈ ls, l.length ≤ n) : ((ls.map S).map fun x => x.length).sum ≤ ls.length * n := by
  induction ls with
  | nil => simp
  | cons l ls ih =>
    rw [List.map_cons, List.map_cons, List.sum_cons, List.length_cons, Nat.add_mul, Nat.one_mul]
    have := ih fun l hl => h l (List.mem_cons_of_mem _ hl)
    have := h l List.mem_cons_self
    rw [S_len]
    omega
theorem strs_map (ls : List (List Nat)) : (ls.map fun l => V.str (S l)) = (ls.map S).map V.str := by
  rw [List.map_map]
  rfl
/-- a list of texts in the making, at D -/
def StrsAt (Pa : Addr) (H : Hp) (D : Addr) (φ : List Nat → Prop) (i : Nat) (H1 : Hp) : Prop :=
  Pst Pa H H1 ∧ H D = none ∧ D ≠ Pa ∧ ∃ ls : List (List Nat), H1 D = some (.lst (ls.map fun l => V.str (S l))) ∧ ls.length = i ∧ ∀ l ∈ ls, φ l
theorem StrsAt.init {Pa : Addr} {H H1 : Hp} {D : Addr} {φ : List Nat → Prop} (h : Pst Pa H H1) (hD : H1 D = none) : StrsAt Pa H D φ 0 (upd H1 D (.lst [])) :=
  ⟨h.new hD, h.free hD, h.ne hD, [], upd_same, rfl, fun _ h => nomatch h⟩
theorem StrsAt.snoc {Pa : Addr} {H H1 H2 : Hp} {D : Addr} {φ : List Nat → Prop} {i : Nat} {l : List Nat} (h : StrsAt Pa H D φ i H1) (st : Pst Pa H1 H2) (hi : i < 100) (hl : φ l) :
    ∃ acc, H2 D = some (.lst acc) ∧ acc.length < sizeLine ∧ StrsAt Pa H D φ (i + 1) (upd H2 D (.lst (acc ++ [.str (S l)]))) := by
  obtain ⟨h1, h2, h3, ls, e, h4, h5⟩ := h
  refine ⟨_, st.kp D _ h3 e, sz5' (by rw [List.length_map]; omega), (h1.trans st).mut h2 h3, h2, h3, ls ++ [l], ?_, by simp [h4], fun z hz => ?_⟩
  · rw [upd_same, List.map_append]
    rfl
  · rcases List.mem_append.mp hz with hz | hz
    · exact h5 z hz
    · have hz := List.mem_singleton.mp hz
      rw [hz]
      exact hl
def spGap : Sp := fun vs H Q _ => ∃ P : Addr, vs = [.ref P] ∧ PoolAt P H ∧ ∀ s H', M78.Bl s → s ≠ [] → s.length ≤ 3 → Pst P H H' → Q (.str (S s)) H'
theorem okGap (T : Top K w mg) : Ok P w K mg base CX0 2 "_law_gap" ["pool"] spGap := by
  have GLawPick : Ok P w K mg base CX0 1 "_law_pick" ["pool", "many"] spPick := okPick T
  refine mkOk T.f__law_gap scLawGap (fun vs H Q E h => ?_) (fun f cdv A outer s H vs Q E hr h => ?_)
  · obtain ⟨_, rfl, _⟩ := h
    rfl
  · obtain ⟨Pa, rfl, hP, q⟩ := h
    refine ⟨_, pss_one (ps_ret (pe_ix ix_list (pe_lst (pa_cons (pe_str) (pa_cons (pe_str) (pa_cons (pe_str) (pa_cons (pe_str) (pa_cons (pe_str) pa_nil)))))) (pcall GLawPick (hr.mono (by decide)) (by rfl) pass0 (pa_cons (pv 0) (pa_cons (pe_int) pa_nil))) (fun _ _ => rfl))), ?_⟩
    (try simp only [cx_K, cx_w, rMulS, CwR.tReplC, tM1, tBM0, rPop, rExtend, rReverse, rLenS, rEqE, rNeE, rSetL, rIntI, rIntB, tBM, rAppend, rIxL, rIxT, rCat, rSlL, rSlS, gTup, tYes, wipe, tSeq, tAsg, tIfS, tRet, tRetN, tDrop, tNext, tBreak, tCont, tNever, tAug, ipI, tPar, tPar3, gName, gCons, gNil, gSub, tVar, tC, tOp, tUn, tIf, tAndV, tOrV, tNotV, tAnd, tOr, tNot, L2.tB, tTest, tCmp, tChain, tCB, tCons, tNil, tCall, tTup, tLst, tSl, tPart, tNoPart, rI, rI0, rU, rEq, rNe, scal_ii, scal_ss, scal_bb, scal_nn, scal_is, scal_si, rIxS, S_len, S_cps, S_inj, L2.start, List.map_cons, List.map_nil, List.cons_append, List.nil_append, List.append_nil, List.getElem?_cons_zero, List.getElem?_cons_succ, List.set_cons_zero, List.set_cons_succ, List.length_cons, List.length_nil, Nat.reduceAdd, Nat.reduceSub, List.replicate_succ, List.replicate_zero, Option.some.injEq, V.int.injEq, V.str.injEq, V.bl.injEq, V.ref.injEq, List.cons.injEq, and_true, true_and, exists_eq_left, exists_eq_left', exists_and_left, exists_eq, exists_eq', decide_eq_true_eq, Bool.not_eq_true', decide_eq_false_iff_not, Bool.false_eq_true, if_false, if_true, reduceIte, ite_self, CMul, CPow, CDiv])
    refine ⟨by decide, fun p hp => ?_⟩
    have s1 := (Pst.refl hP).new (o := .lst [V.str (Str.ofString " "), V.str (Str.ofString " "), V.str (Str.ofString "\n"), V.str (Str.ofString "  "), V.str (Str.ofString " \n ")]) hp
    refine ⟨Pa, 5, rfl, s1.pool, by decide, fun r H2 h0 h1 st => ?_⟩
    obtain ⟨v, ev, hv⟩ := atI_mem (xs := [V.str (Str.ofString " "), V.str (Str.ofString " "), V.str (Str.ofString "\n"), V.str (Str.ofString "  "), V.str (Str.ofString " \n ")]) h0 h1
    refine ⟨_, r, rfl, SqL.of (st.kp p _ ((Pst.refl hP).ne hp) upd_same), v, ev, ?_⟩
    simp only [List.mem_cons, List.not_mem_nil, or_false] at hv
    rcases hv with rfl | rfl | rfl | rfl | rfl <;> (rw [lit_eq]; exact q _ _ (by decide +kernel) (by decide +kernel) (by decide +kernel) (s1.trans st))
def spEnds : Sp := fun vs H Q _ => ∃ P : Addr, vs = [.ref P] ∧ PoolAt P H ∧ ∀ s H', M78.Bl s → s.length ≤ 3 → Pst P H H' → Q (.str (S s)) H'
theorem okEnds (T : Top K w mg) : Ok P w K mg base CX0 2 "_law_ends" ["pool"] spEnds := by
  have GLawPick : Ok P w K mg base CX0 1 "_law_pick" ["pool", "many"] spPick := okPick T
  refine mkOk T.f__law_ends scLawEnds (fun vs H Q E h => ?_) (fun f cdv A outer s H vs Q E hr h => ?_)
  · obtain ⟨_, rfl, _⟩ := h
    rfl
  · obtain ⟨Pa, rfl, hP, q⟩ := h
    refine ⟨_, pss_one (ps_ret (pe_ix ix_list (pe_lst (pa_cons (pe_str) (pa_cons (pe_str) (pa_cons (pe_str) (pa_cons (pe_str) (pa_cons (pe_str) pa_nil)))))) (pcall GLawPick (hr.mono (by decide)) (by rfl) pass0 (pa_cons (pv 0) (pa_cons (pe_int) pa_nil))) (fun _ _ => rfl))), ?_⟩
    (try simp only [cx_K, cx_w, rMulS, CwR.tReplC, tM1, tBM0, rPop, rExtend, rReverse, rLenS, rEqE, rNeE, rSetL, rIntI, rIntB, tBM, rAppend, rIxL, rIxT, rCat, rSlL, rSlS, gTup, tYes, wipe, tSeq, tAsg, tIfS, tRet, tRetN, tDrop, tNext, tBreak, tCont, tNever, tAug, ipI, tPar, tPar3, gName, gCons, gNil, gSub, tVar, tC, tOp, tUn, tIf, tAndV, tOrV, tNotV, tAnd, tOr, tNot, L2.tB, tTest, tCmp, tChain, tCB, tCons, tNil, tCall, tTup, tLst, tSl, tPart, tNoPart, rI, rI0, rU, rEq, rNe, scal_ii, scal_ss, scal_bb, scal_nn, scal_is, scal_si, rIxS, S_len, S_cps, S_inj, L2.start, List.map_cons, List.map_nil, List.cons_append, List.nil_append, List.append_nil, List.getElem?_cons_zero, List.getElem?_cons_succ, List.set_cons_zero, List.set_cons_succ, List.length_cons, List.length_nil, Nat.reduceAdd, Nat.reduceSub, List.replicate_succ, List.replicate_zero, Option.some.injEq, V.int.injEq, V.str.injEq, V.bl.injEq, V.ref.injEq, List.cons.injEq, and_true, true_and, exists_eq_left, exists_eq_left', exists_and_left, exists_eq, exists_eq', decide_eq_true_eq, Bool.not_eq_true', decide_eq_false_iff_not, Bool.false_eq_true, if_false, if_true, reduceIte, ite_self, CMul, CPow, CDiv])
    refine ⟨by decide, fun p hp => ?_⟩
    have s1 := (Pst.refl hP).new (o := .lst [V.str (Str.ofString ""), V.str (Str.ofString ""), V.str (Str.ofString " "), V.str (Str.ofString "\n"), V.str (Str.ofString "  ")]) hp
    refine ⟨Pa, 5, rfl, s1.pool, by decide, fun r H2 h0 h1 st => ?_⟩
    obtain ⟨v, ev, hv⟩ := atI_mem (xs := [V.str (Str.ofString ""), V.str (Str.ofString ""), V.str (Str.ofString " "), V.str (Str.ofString "\n"), V.str (Str.ofString "  ")]) h0 h1
    refine ⟨_, r, rfl, SqL.of (st.kp p _ ((Pst.refl hP).ne hp) upd_same), v, ev, ?_⟩
    simp only [List.mem_cons, List.not_mem_nil, or_false] at hv
    rcases hv with rfl | rfl | rfl | rfl | rfl <;> (rw [lit_eq]; exact q _ _ (by decide +kernel) (by decide +kernel) (s1.trans st))
def signL : List Nat := lit "abcdefghijklmnopqrstuvwxyzABWM0189#-_.:,!?()<>&=" ++ lit "\"" ++ lit "/+*[]{}|~^@$" ++ lit "\\" ++ lit "'"
theorem signL_ok : ∀ c ∈ signL, told c = true ∧ M78.isEnd c = false := by decide +kernel
def firstL : List Nat := lit "abcdefghijklmnopqrstuvwxyz019#-:&<AZ~="
theorem firstL_ok : ∀ c ∈ firstL, told c = true ∧ M78.isEnd c = false ∧ c ≠ 39 := by decide +kernel
def spSign : Sp := fun vs H Q _ => ∃ P : Addr, vs = [.ref P] ∧ PoolAt P H ∧ ∀ c H', told c = true → M78.isEnd c = false → Pst P H H' → Q (.str (S [c])) H'
theorem okSign (T : Top K w mg) : Ok P w K mg base CX0 2 "_law_sign" ["pool"] spSign := by
  have GLawPick : Ok P w K mg base CX0 1 "_law_pick" ["pool", "many"] spPick := okPick T
  have m_len := T.m_len
  have m_int := T.m_int
  refine mkOk T.f__law_sign scLawSign (fun vs H Q E h => ?_) (fun f cdv A outer s H vs Q E hr h => ?_)
  · obtain ⟨_, rfl, _⟩ := h
    rfl
  · obtain ⟨Pa, rfl, hP, q⟩ := h
    refine ⟨_, pss_cons (ps_set (i := 1) scLawSign.nd rfl (Or.inl rfl) (pe_op op_add_str (pe_op op_add_str (pe_op op_add_str (pe_op op_add_str (pe_str) (pe_str)) (pe_str)) (pe_str)) (pe_str)))
  (pss_one (ps_ret (pe_ix ix_str (pv 1) (pe_op op_mod (pe_callTy call_intI (by rfl) m_int (by decide +kernel) (pa_cons (pe_op op_add (pe_op op_mul (pcall GLawPick (hr.mono (by decide)) (by rfl) pass0 (pa_cons (pv 0) (pa_cons (pe_int) pa_nil))) (pe_int)) (pcall GLawPick (hr.mono (by decide)) (by rfl) pass0 (pa_cons (pv 0) (pa_cons (pe_int) pa_nil)))) pa_nil)) (pe_callB call_len_str (by rfl) m_len PySem.boot_len (pa_cons (pv 1) pa_nil))) (fun _ _ => rfl)))), ?_⟩
    (try simp only [cx_K, cx_w, rMulS, CwR.tReplC, tM1, tBM0, rPop, rExtend, rReverse, rLenS, rEqE, rNeE, rSetL, rIntI, rIntB, tBM, rAppend, rIxL, rIxT, rCat, rSlL, rSlS, gTup, tYes, wipe, tSeq, tAsg, tIfS, tRet, tRetN, tDrop, tNext, tBreak, tCont, tNever, tAug, ipI, tPar, tPar3, gName, gCons, gNil, gSub, tVar, tC, tOp, tUn, tIf, tAndV, tOrV, tNotV, tAnd, tOr, tNot, L2.tB, tTest, tCmp, tChain, tCB, tCons, tNil, tCall, tTup, tLst, tSl, tPart, tNoPart, rI, rI0, rU, rEq, rNe, scal_ii, scal_ss, scal_bb, scal_nn, scal_is, scal_si, rIxS, S_len, S_cps, S_inj, L2.start, List.map_cons, List.map_nil, List.cons_append, List.nil_append, List.append_nil, List.getElem?_cons_zero, List.getElem?_cons_succ, List.set_cons_zero, List.set_cons_succ, List.length_cons, List.length_nil, Nat.reduceAdd, Nat.reduceSub, List.replicate_succ, List.replicate_zero, Option.some.injEq, V.int.injEq, V.str.injEq, V.bl.injEq, V.ref.injEq, List.cons.injEq, and_true, true_and, exists_eq_left, exists_eq_left', exists_and_left, exists_eq, exists_eq', decide_eq_true_eq, Bool.not_eq_true', decide_eq_false_iff_not, Bool.false_eq_true, if_false, if_true, reduceIte, ite_self, CMul, CPow, CDiv])
    have eS : Str.ofString "abcdefghijklmnopqrstuvwxyzABWM0189#-_.:,!?()<>&=" ++ Str.ofString "\"" ++ Str.ofString "/+*[]{}|~^@$" ++ Str.ofString "\\" ++ Str.ofString "'" = S signL := id rfl
    simp only [eS, S_len, S_cps]
    refine ⟨by decide +kernel, by decide +kernel, by decide +kernel, by decide +kernel, Pa, 60, rfl, hP, by decide, fun r H1 h0 h1 st => ⟨r, rfl, .inr (by decide), Pa, 60, rfl, st.pool, by decide, fun r2 H2 h2 h3 st2 => ⟨r2, rfl, by decide +kernel, by decide +kernel, by decide +kernel, ?_⟩⟩⟩
    have hpos : (0 : Int) < ((signL.length : Nat) : Int) := by decide +kernel
    obtain ⟨n, hn⟩ := Int.eq_ofNat_of_zero_le (Int.emod_nonneg (r * 60 + r2) (b := ((signL.length : Nat) : Int)) (by omega))
    have hlt := Int.emod_lt_of_pos (r * 60 + r2) hpos
    rw [hn] at hlt ⊢
    have hn' : n < signL.length := by
      have : ((n : Nat) : Int) < ((signL.length : Nat) : Int) := hlt
      omega
    refine ⟨signL[n], at_nat (List.getElem?_eq_getElem hn'), ?_⟩
    have hm := signL_ok _ (List.getElem_mem hn')
    exact q _ _ hm.1 hm.2 (st.trans st2)
def spPlain : Sp := fun vs H Q _ => ∃ P : Addr, vs = [.ref P] ∧ PoolAt P H ∧ ∀ s H', M78.Pl s → Sg s → s.length ≤ 15 → Pst P H H' → Q (.str (S s)) H'
theorem okPlain (T : Top K w mg) : Ok P w K mg base CX0 3 "_law_plain" ["pool"] spPlain := by
  have GLawPick : Ok P w K mg base CX0 1 "_law_pick" ["pool", "many"] spPick := okPick T
  have GLawSign : Ok P w K mg base CX0 2 "_law_sign" ["pool"] spSign := okSign T
  have m_range := T.m_range
  refine mkOk T.f__law_plain scLawPlain (fun vs H Q E h => ?_) (fun f cdv A outer s H vs Q E hr h => ?_)
  · obtain ⟨_, rfl, _⟩ := h
    rfl
  · obtain ⟨Pa, rfl, hP, q⟩ := h
    refine ⟨_, pss_cons (ps_set (i := 1) scLawPlain.nd rfl (Or.inl rfl) (pe_ix ix_str (pe_str) (pcall GLawPick (hr.mono (by decide)) (by rfl) pass0 (pa_cons (pv 0) (pa_cons (pe_int) pa_nil))) (fun _ _ => rfl)))
  (pss_one (ps_ret (pe_op op_add_str (pv 1) (pe_join (pe_str) (pe_lc (own := [("k", 2)]) rfl scLawPlain.nd (pi_range1 rfl m_range (pa_cons (pe_ix ix_list (pe_lst (pa_cons (pe_int) (pa_cons (pe_int) (pa_cons (pe_int) (pa_cons (pe_int) (pa_cons (pe_int) (pa_cons (pe_int) (pa_cons (pe_int) pa_nil)))))))) (pcall GLawPick (hr.mono (by decide)) (by rfl) pass0 (pa_cons (pv 0) (pa_cons (pe_int) pa_nil))) (fun _ _ => rfl)) pa_nil)) (blkOk_by (own := [("k", 2)]) (N := ["pool", "first", "k"]) (sc := defScope sLawPlain) (by decide +kernel)) (fun _ _ _ _ _ => pg_name (i := 2) scLawPlain.nd rfl (Or.inl rfl)) (fun _ _ _ _ _ => pts_nil) (fun _ _ _ _ _ => pcall GLawSign (hr.mono (by decide)) (by rfl) pass0 (pa_cons (pv 0) pa_nil))))))), ?_⟩
    (try simp only [cx_K, cx_w, rMulS, CwR.tReplC, tM1, tBM0, rPop, rExtend, rReverse, rLenS, rEqE, rNeE, rSetL, rIntI, rIntB, tBM, rAppend, rIxL, rIxT, rCat, rSlL, rSlS, gTup, tYes, wipe, tSeq, tAsg, tIfS, tRet, tRetN, tDrop, tNext, tBreak, tCont, tNever, tAug, ipI, tPar, tPar3, gName, gCons, gNil, gSub, tVar, tC, tOp, tUn, tIf, tAndV, tOrV, tNotV, tAnd, tOr, tNot, L2.tB, tTest, tCmp, tChain, tCB, tCons, tNil, tCall, tTup, tLst, tSl, tPart, tNoPart, rI, rI0, rU, rEq, rNe, scal_ii, scal_ss, scal_bb, scal_nn, scal_is, scal_si, rIxS, S_len, S_cps, S_inj, L2.start, List.map_cons, List.map_nil, List.cons_append, List.nil_append, List.append_nil, List.getElem?_cons_zero, List.getElem?_cons_succ, List.set_cons_zero, List.set_cons_succ, List.length_cons, List.length_nil, Nat.reduceAdd, Nat.reduceSub, List.replicate_succ, List.replicate_zero, Option.some.injEq, V.int.injEq, V.str.injEq, V.bl.injEq, V.ref.injEq, List.cons.injEq, and_true, true_and, exists_eq_left, exists_eq_left', exists_and_left, exists_eq, exists_eq', decide_eq_true_eq, Bool.not_eq_true', decide_eq_false_iff_not, Bool.false_eq_true, if_false, if_true, reduceIte, ite_self, CMul, CPow, CDiv])
    have eS : Str.ofString "abcdefghijklmnopqrstuvwxyz019#-:&<AZ~=" = S firstL := id rfl
    have eE : Str.ofString "" = S [] := id rfl
    simp only [eS, S_len, S_cps]
    refine ⟨Pa, 38, rfl, hP, by decide, fun r H1 h0 h1 st => ⟨r, rfl, by decide +kernel, ?_⟩⟩
    obtain ⟨n, rfl⟩ := Int.eq_ofNat_of_zero_le h0
    have hL : firstL.length = 38 := by decide +kernel
    have hn : n < firstL.length := by omega
    have hf := firstL_ok _ (List.getElem_mem hn)
    refine ⟨firstL[n], at_nat (List.getElem?_eq_getElem hn), ?_⟩
    have s1 := fun (p : Addr) (hp : H1 p = none) => st.new (o := .lst [V.int 0, V.int 1, V.int 2, V.int 3, V.int 5, V.int 9, V.int 14]) hp
    refine ⟨by decide, fun p hp => ⟨.ref Pa, rfl, Pa, 7, rfl, (s1 p hp).pool, by decide, fun r2 H2 h2 h3 st2 => ?_⟩⟩
    obtain ⟨v, ev, hv⟩ := atI_mem (xs := [V.int 0, V.int 1, V.int 2, V.int 3, V.int 5, V.int 9, V.int 14]) h2 h3
    obtain ⟨k, rfl, hk⟩ : ∃ k : Nat, v = .int (k : Int) ∧ k ≤ 14 := by
      simp only [List.mem_cons, List.not_mem_nil, or_false] at hv
      rcases hv with rfl | rfl | rfl | rfl | rfl | rfl | rfl
      · exact ⟨0, rfl, by decide⟩
      · exact ⟨1, rfl, by decide⟩
      · exact ⟨2, rfl, by decide⟩
      · exact ⟨3, rfl, by decide⟩
      · exact ⟨5, rfl, by decide⟩
      · exact ⟨9, rfl, by decide⟩
      · exact ⟨14, rfl, by decide⟩
    refine ⟨p, _, r2, _, rfl, rfl, SqL.of (st2.kp p _ (st.ne hp) upd_same), ev, (k : Int), rfl, by omega, by omega, fun D hD => lc_range (lo := 0) (n := ((k : Int)).toNat) (StrsAt Pa H D (fun l => ∃ c, l = [c] ∧ told c = true ∧ M78.isEnd c = false)) (StrsAt.init ((s1 p hp).trans st2) hD) (fun i H3 hi hS => ?_) (fun H3 hS => ?_)⟩
    · refine ⟨rfl, ?_⟩
      (try simp only [cx_K, cx_w, rMulS, CwR.tReplC, tM1, tBM0, rPop, rExtend, rReverse, rLenS, rEqE, rNeE, rSetL, rIntI, rIntB, tBM, rAppend, rIxL, rIxT, rCat, rSlL, rSlS, gTup, tYes, wipe, tSeq, tAsg, tIfS, tRet, tRetN, tDrop, tNext, tBreak, tCont, tNever, tAug, ipI, tPar, tPar3, gName, gCons, gNil, gSub, tVar, tC, tOp, tUn, tIf, tAndV, tOrV, tNotV, tAnd, tOr, tNot, L2.tB, tTest, tCmp, tChain, tCB, tCons, tNil, tCall, tTup, tLst, tSl, tPart, tNoPart, rI, rI0, rU, rEq, rNe, scal_ii, scal_ss, scal_bb, scal_nn, scal_is, scal_si, rIxS, S_len, S_cps, S_inj, L2.start, List.map_cons, List.map_nil, List.cons_append, List.nil_append, List.append_nil, List.getElem?_cons_zero, List.getElem?_cons_succ, List.set_cons_zero, List.set_cons_succ, List.length_cons, List.length_nil, Nat.reduceAdd, Nat.reduceSub, List.replicate_succ, List.replicate_zero, Option.some.injEq, V.int.injEq, V.str.injEq, V.bl.injEq, V.ref.injEq, List.cons.injEq, and_true, true_and, exists_eq_left, exists_eq_left', exists_and_left, exists_eq, exists_eq', decide_eq_true_eq, Bool.not_eq_true', decide_eq_false_iff_not, Bool.false_eq_true, if_false, if_true, reduceIte, ite_self, CMul, CPow, CDiv])
      exact ⟨Pa, rfl, hS.1.pool, fun c H4 t1 t2 st4 => hS.snoc st4 (by omega) ⟨c, rfl, t1, t2⟩⟩
    · obtain ⟨st3, hD3, nD, ls, eD, hl, hφ⟩ := hS
      refine ⟨D, rfl, ls.map S, .inl (by rw [← strs_map]; exact SqL.of eD), ?_⟩
      have h1 : ∀ l ∈ ls, l.length ≤ 1 := fun l hl => by
        obtain ⟨c, rfl, _⟩ := hφ l hl
        exact Nat.le_refl _
      have h2 := flatten_le h1
      have h3 := sum_le h1
      rw [eE, join_S, joinL_nil, S_len, List.length_map, S_len, List.length_nil]
      refine ⟨by omega, sz5 (by omega), ?_⟩
      show Q (.str (S [firstL[n]] ++ S ls.flatten)) H3
      rw [S_app]
      have hin : ∀ c ∈ ls.flatten, told c = true ∧ M78.isEnd c = false := fun c hc => by
        obtain ⟨l, hl, hcl⟩ := List.mem_flatten.mp hc
        obtain ⟨d, rfl, d1, d2⟩ := hφ l hl
        have hcl := List.mem_singleton.mp hcl
        subst hcl
        exact ⟨d1, d2⟩
      refine q _ _ ⟨⟨_, _, rfl, hf.2.1, hf.2.2⟩, fun c hc => ?_⟩ (fun c hc => ?_) ?_ st3
      · rcases List.mem_cons.mp hc with rfl | hc
        · exact hf.2.1
        · exact (hin c hc).2
      · rcases List.mem_cons.mp hc with rfl | hc
        · exact hf.1
        · exact (hin c hc).1
      · show (_ :: ls.flatten).length ≤ 15
        rw [List.length_cons]
        omega
def spQuoted : Sp := fun vs H Q _ => ∃ P : Addr, vs = [.ref P] ∧ PoolAt P H ∧ ∀ t wd H', M78.Qu wd → Sg wd → wd.length ≤ 15 → Pst P H H' → H t = none → H' t = some (.tup [.str (S (39 :: (wd ++ [39]))), .str (S wd)]) → Q (.ref t) H'
theorem okQuoted (T : Top K w mg) : Ok P w K mg base CX0 3 "_law_quoted" ["pool"] spQuoted := by
  have GLawPick : Ok P w K mg base CX0 1 "_law_pick" ["pool", "many"] spPick := okPick T
  have GLawSign : Ok P w K mg base CX0 2 "_law_sign" ["pool"] spSign := okSign T
  have m_range := T.m_range
  refine mkOk T.f__law_quoted scLawQuoted (fun vs H Q E h => ?_) (fun f cdv A outer s H vs Q E hr h => ?_)
  · obtain ⟨_, rfl, _⟩ := h
    rfl
  · obtain ⟨Pa, rfl, hP, q⟩ := h
    refine ⟨_, pss_cons (ps_setLc (i := 1) (own := [("k", 3)]) rfl scLawQuoted.nd rfl rfl (sw_true rfl rfl rfl (by decide +kernel)) (pi_range1 rfl m_range (pa_cons (pcall GLawPick (hr.mono (by decide)) (by rfl) pass0 (pa_cons (pv 0) (pa_cons (pe_int) pa_nil))) pa_nil)) (blkOk_by (own := [("k", 3)]) (N := ["pool", "signs", "word", "k"]) (sc := defScope sLawQuoted) (by decide +kernel)) (fun _ _ _ _ _ => pg_name (i := 3) scLawQuoted.nd rfl (Or.inl rfl)) (fun _ _ _ _ _ => pts_nil) (fun _ _ _ _ _ => pe_op op_add_str (pe_ix (ix_listK (K := K) rfl) (pe_lst (pa_cons (pe_str) (pa_cons (pe_str) (pa_cons (pe_str) (pa_cons (pe_str) (pa_cons (pe_str) pa_nil)))))) (pcall GLawPick (hr.mono (by decide)) (by rfl) pass0 (pa_cons (pv 0) (pa_cons (pe_int) pa_nil))) (fun _ _ => rfl)) (pcall GLawSign (hr.mono (by decide)) (by rfl) pass0 (pa_cons (pv 0) pa_nil))))
  (pss_cons (ps_set (i := 2) scLawQuoted.nd rfl (Or.inl rfl) (pe_replC1 (pe1_join (pv 1))))
  (pss_one (ps_ret (pe_tup (pa_cons (pe_op op_add_str (pe_op op_add_str (pe_str) (pv 2)) (pe_str)) (pa_cons (pv 2) pa_nil)))))), ?_⟩
    (try simp only [cx_K, cx_w, rMulS, CwR.tReplC, tM1, tBM0, rPop, rExtend, rReverse, rLenS, rEqE, rNeE, rSetL, rIntI, rIntB, tBM, rAppend, rIxL, rIxT, rCat, rSlL, rSlS, gTup, tYes, wipe, tSeq, tAsg, tIfS, tRet, tRetN, tDrop, tNext, tBreak, tCont, tNever, tAug, ipI, tPar, tPar3, gName, gCons, gNil, gSub, tVar, tC, tOp, tUn, tIf, tAndV, tOrV, tNotV, tAnd, tOr, tNot, L2.tB, tTest, tCmp, tChain, tCB, tCons, tNil, tCall, tTup, tLst, tSl, tPart, tNoPart, rI, rI0, rU, rEq, rNe, scal_ii, scal_ss, scal_bb, scal_nn, scal_is, scal_si, rIxS, S_len, S_cps, S_inj, L2.start, List.map_cons, List.map_nil, List.cons_append, List.nil_append, List.append_nil, List.getElem?_cons_zero, List.getElem?_cons_succ, List.set_cons_zero, List.set_cons_succ, List.length_cons, List.length_nil, Nat.reduceAdd, Nat.reduceSub, List.replicate_succ, List.replicate_zero, Option.some.injEq, V.int.injEq, V.str.injEq, V.bl.injEq, V.ref.injEq, List.cons.injEq, and_true, true_and, exists_eq_left, exists_eq_left', exists_and_left, exists_eq, exists_eq', decide_eq_true_eq, Bool.not_eq_true', decide_eq_false_iff_not, Bool.false_eq_true, if_false, if_true, reduceIte, ite_self, CMul, CPow, CDiv])
    refine ⟨.ref Pa, rfl, Pa, 6, rfl, hP, by decide, fun r H1 h0 h1 st => ?_⟩
    obtain ⟨n, rfl⟩ := Int.eq_ofNat_of_zero_le h0
    refine ⟨(n : Int), rfl, by omega, by omega, fun D hD => lc_range (lo := 0) (n := ((n : Int)).toNat) (StrsAt Pa H D (fun l => Sg l ∧ l.length ≤ 3)) (StrsAt.init st hD) (fun i H3 hi hS => ?_) (fun H3 hS => ?_)⟩
    · refine ⟨rfl, ?_⟩
      (try simp only [cx_K, cx_w, rMulS, CwR.tReplC, tM1, tBM0, rPop, rExtend, rReverse, rLenS, rEqE, rNeE, rSetL, rIntI, rIntB, tBM, rAppend, rIxL, rIxT, rCat, rSlL, rSlS, gTup, tYes, wipe, tSeq, tAsg, tIfS, tRet, tRetN, tDrop, tNext, tBreak, tCont, tNever, tAug, ipI, tPar, tPar3, gName, gCons, gNil, gSub, tVar, tC, tOp, tUn, tIf, tAndV, tOrV, tNotV, tAnd, tOr, tNot, L2.tB, tTest, tCmp, tChain, tCB, tCons, tNil, tCall, tTup, tLst, tSl, tPart, tNoPart, rI, rI0, rU, rEq, rNe, scal_ii, scal_ss, scal_bb, scal_nn, scal_is, scal_si, rIxS, S_len, S_cps, S_inj, L2.start, List.map_cons, List.map_nil, List.cons_append, List.nil_append, List.append_nil, List.getElem?_cons_zero, List.getElem?_cons_succ, List.set_cons_zero, List.set_cons_succ, List.length_cons, List.length_nil, Nat.reduceAdd, Nat.reduceSub, List.replicate_succ, List.replicate_zero, Option.some.injEq, V.int.injEq, V.str.injEq, V.bl.injEq, V.ref.injEq, List.cons.injEq, and_true, true_and, exists_eq_left, exists_eq_left', exists_and_left, exists_eq, exists_eq', decide_eq_true_eq, Bool.not_eq_true', decide_eq_false_iff_not, Bool.false_eq_true, if_false, if_true, reduceIte, ite_self, CMul, CPow, CDiv])
      refine ⟨by decide, fun p hp => ?_⟩
      have s1 := (Pst.refl hS.1.pool).new (o := .lst [V.str (Str.ofString "; "), V.str (Str.ofString " "), V.str (Str.ofString "\n"), V.str (Str.ofString ";"), V.str (Str.ofString "#")]) hp
      refine ⟨Pa, 5, rfl, s1.pool, by decide, fun r2 H4 h2 h3 st2 => ?_⟩
      obtain ⟨v, ev, hv⟩ := atI_mem (xs := [V.str (Str.ofString "; "), V.str (Str.ofString " "), V.str (Str.ofString "\n"), V.str (Str.ofString ";"), V.str (Str.ofString "#")]) h2 h3
      obtain ⟨z, rfl, hz1, hz2⟩ : ∃ z, v = .str (S z) ∧ Sg z ∧ z.length ≤ 2 := by
        simp only [List.mem_cons, List.not_mem_nil, or_false] at hv
        rcases hv with rfl | rfl | rfl | rfl | rfl <;> exact ⟨_, congrArg V.str (lit_eq _), by decide +kernel, by decide +kernel⟩
      refine ⟨_, r2, rfl, SqL.of (st2.kp p _ ((Pst.refl hS.1.pool).ne hp) upd_same), _, ev, Pa, rfl, st2.pool, fun c H5 t1 t2 st5 => ⟨_, rfl, _, rfl, ?_, ?_⟩⟩
      · rw [S_len, S_len, List.length_singleton]
        exact sz5 (by omega)
      · rw [S_app]
        refine hS.snoc ((s1.trans st2).trans st5) (by omega) ⟨fun d hd => ?_, ?_⟩
        · rcases List.mem_append.mp hd with hd | hd
          · exact hz1 d hd
          · rw [List.mem_singleton.mp hd]
            exact t1
        · rw [List.length_append, List.length_singleton]
          omega
    · obtain ⟨st3, hD3, nD, ls, eD, hl, hφ⟩ := hS
      refine ⟨D, rfl, ls.map S, .inl (by rw [← strs_map]; exact SqL.of eD), ?_⟩
      have h1 : ∀ l ∈ ls, l.length ≤ 3 := fun l hl => (hφ l hl).2
      have h2 := flatten_le h1
      have h3 := sum_le h1
      have eE : Str.ofString "" = S [] := id rfl
      have eX : Str.ofString "x" = S [120] := id rfl
      rw [eE, join_S, joinL_nil, c_q, eX, repl_one, S_app, S_app]
      have hW : (ls.flatten.map fun c => if c = 39 then 120 else c).length ≤ 15 := by
        rw [List.length_map]
        omega
      have hin : ∀ c ∈ ls.flatten, told c = true := fun c hc => by
        obtain ⟨l, hl, hcl⟩ := List.mem_flatten.mp hc
        exact (hφ l hl).1 c hcl
      simp only [S_len, List.length_map, List.length_nil, List.length_singleton, List.length_append]
      rw [List.length_map] at hW
      refine ⟨by omega, by omega, sz5 (by omega), sz5 (by omega), by decide, fun t ht => ?_⟩
      refine q t (ls.flatten.map fun c => if c = 39 then 120 else c) _ (fun c hc => ?_) (fun c hc => ?_) (by rw [List.length_map]; exact hW) (st3.new ht) (st3.free ht) upd_same
      · obtain ⟨d, hd, rfl⟩ := List.mem_map.mp hc
        split
        · decide
        · assumption
      · obtain ⟨d, hd, rfl⟩ := List.mem_map.mp hc
        split
        · decide
        · exact hin d hd
def spTarget : Sp := fun vs H Q _ => ∃ P : Addr, vs = [.ref P] ∧ PoolAt P H ∧ ∀ s H', M78.Pl s → Sg s → s.length ≤ 16 → M78.isTarget s = true → Pst P H H' → Q (.str (S s)) H'
theorem okTarget (T : Top K w mg) : Ok P w K mg base CX0 4 "_law_target" ["pool"] spTarget := by
  have GLawPick : Ok P w K mg base CX0 1 "_law_pick" ["pool", "many"] spPick := okPick T
  have GLawSign : Ok P w K mg base CX0 2 "_law_sign" ["pool"] spSign := okSign T
  have GLawPlain : Ok P w K mg base CX0 3 "_law_plain" ["pool"] spPlain := okPlain T
  refine mkOk T.f__law_target scLawTarget (fun vs H Q E h => ?_) (fun f cdv A outer s H vs Q E hr h => ?_)
  · obtain ⟨_, rfl, _⟩ := h
    rfl
  · obtain ⟨Pa, rfl, hP, q⟩ := h
    refine ⟨_, pss_cons (ps_if (pt_cmpR op_eq (pcall GLawPick (hr.mono (by decide)) (by rfl) pass0 (pa_cons (pv 0) (pa_cons (pe_int) pa_nil))) (pe_int) (nomark _))
  (pss_one (ps_ret (pe_str)))
  (pss_nil))
  (pss_one (ps_ret (pe_op op_add_str (pe_str) (pe_ix ix_list (pe_lst (pa_cons (pe_str) (pa_cons (pe_str) (pa_cons (pe_str) (pa_cons (pe_str) (pa_cons (pe_str) (pa_cons (pcall GLawPlain (hr.mono (by decide)) (by rfl) pass0 (pa_cons (pv 0) pa_nil)) (pa_cons (pcall GLawSign (hr.mono (by decide)) (by rfl) pass0 (pa_cons (pv 0) pa_nil)) pa_nil)))))))) (pcall GLawPick (hr.mono (by decide)) (by rfl) pass0 (pa_cons (pv 0) (pa_cons (pe_int) pa_nil))) (fun _ _ => rfl))))), ?_⟩
    (try simp only [cx_K, cx_w, rMulS, CwR.tReplC, tM1, tBM0, rPop, rExtend, rReverse, rLenS, rEqE, rNeE, rSetL, rIntI, rIntB, tBM, rAppend, rIxL, rIxT, rCat, rSlL, rSlS, gTup, tYes, wipe, tSeq, tAsg, tIfS, tRet, tRetN, tDrop, tNext, tBreak, tCont, tNever, tAug, ipI, tPar, tPar3, gName, gCons, gNil, gSub, tVar, tC, tOp, tUn, tIf, tAndV, tOrV, tNotV, tAnd, tOr, tNot, L2.tB, tTest, tCmp, tChain, tCB, tCons, tNil, tCall, tTup, tLst, tSl, tPart, tNoPart, rI, rI0, rU, rEq, rNe, scal_ii, scal_ss, scal_bb, scal_nn, scal_is, scal_si, rIxS, S_len, S_cps, S_inj, L2.start, List.map_cons, List.map_nil, List.cons_append, List.nil_append, List.append_nil, List.getElem?_cons_zero, List.getElem?_cons_succ, List.set_cons_zero, List.set_cons_succ, List.length_cons, List.length_nil, Nat.reduceAdd, Nat.reduceSub, List.replicate_succ, List.replicate_zero, Option.some.injEq, V.int.injEq, V.str.injEq, V.bl.injEq, V.ref.injEq, List.cons.injEq, and_true, true_and, exists_eq_left, exists_eq_left', exists_and_left, exists_eq, exists_eq', decide_eq_true_eq, Bool.not_eq_true', decide_eq_false_iff_not, Bool.false_eq_true, if_false, if_true, reduceIte, ite_self, CMul, CPow, CDiv])
    have pl_hash : ∀ s : List Nat, (∀ c ∈ s, M78.isEnd c = false) → M78.Pl (35 :: s) := fun s hs => ⟨⟨35, s, rfl, by decide, by decide⟩, fun c hc => by
      rcases List.mem_cons.mp hc with rfl | hc
      · decide
      · exact hs c hc⟩
    refine ⟨Pa, 3, rfl, hP, by decide, fun r H1 h0 h1 st => ⟨rfl, ?_⟩⟩
    refine ite2 (fun _ => ?_) (fun _ => ?_)
    · rw [lit_eq]
      exact q _ _ ⟨⟨115, _, rfl, by decide, by decide⟩, by decide +kernel⟩ (by decide +kernel) (by decide +kernel) (by decide +kernel) st
    · refine ⟨Pa, rfl, st.pool, fun s2 H2 hp2 hs2 hl2 st2 => ⟨Pa, rfl, st2.pool, fun c H3 t1 t2 st3 => ⟨by decide, fun p hp => ?_⟩⟩⟩
      have s1 := ((st.trans st2).trans st3).new (o := .lst [V.str (Str.ofString "x"), V.str (Str.ofString "a1"), V.str (Str.ofString "self"), V.str (Str.ofString "'"), V.str (Str.ofString "#"), V.str (S s2), V.str (S [c])]) hp
      refine ⟨Pa, 7, rfl, s1.pool, by decide, fun r4 H4 h4 h5 st4 => ?_⟩
      obtain ⟨v, ev, hv⟩ := atI_mem (xs := [V.str (Str.ofString "x"), V.str (Str.ofString "a1"), V.str (Str.ofString "self"), V.str (Str.ofString "'"), V.str (Str.ofString "#"), V.str (S s2), V.str (S [c])]) h4 h5
      obtain ⟨z, rfl, hz1, hz2, hz3, hz4⟩ : ∃ z, v = .str (S z) ∧ Sg z ∧ z.length ≤ 15 ∧ 1 ≤ z.length ∧ ∀ c ∈ z, M78.isEnd c = false := by
        simp only [List.mem_cons, List.not_mem_nil, or_false] at hv
        rcases hv with rfl | rfl | rfl | rfl | rfl | rfl | rfl
        · exact ⟨_, congrArg V.str (lit_eq _), by decide +kernel, by decide +kernel, by decide +kernel, by decide +kernel⟩
        · exact ⟨_, congrArg V.str (lit_eq _), by decide +kernel, by decide +kernel, by decide +kernel, by decide +kernel⟩
        · exact ⟨_, congrArg V.str (lit_eq _), by decide +kernel, by decide +kernel, by decide +kernel, by decide +kernel⟩
        · exact ⟨_, congrArg V.str (lit_eq _), by decide +kernel, by decide +kernel, by decide +kernel, by decide +kernel⟩
        · exact ⟨_, congrArg V.str (lit_eq _), by decide +kernel, by decide +kernel, by decide +kernel, by decide +kernel⟩
        · obtain ⟨⟨c0, r0, rfl, _⟩, hp3⟩ := hp2
          exact ⟨_, rfl, hs2, hl2, by simp, hp3⟩
        · exact ⟨[c], rfl, fun d hd => by rw [List.mem_singleton.mp hd]; exact t1, by simp, by simp, fun d hd => by rw [List.mem_singleton.mp hd]; exact t2⟩
      have eH : Str.ofString "#" = S [35] := id rfl
      refine ⟨_, r4, rfl, SqL.of (st4.kp p _ (((st.trans st2).trans st3).ne hp) upd_same), _, ev, _, rfl, ?_, ?_⟩
      · rw [eH, S_len, S_len, List.length_singleton]
        exact sz5 (by omega)
      · rw [eH, S_app]
        refine q _ _ (pl_hash z hz4) (fun d hd => ?_) ?_ ?_ (s1.trans st4)
        · rcases List.mem_cons.mp hd with rfl | hd
          · decide
          · exact hz1 d hd
        · show (35 :: z).length ≤ 16
          rw [List.length_cons]
          omega
        · show M78.isTarget (35 :: z) = true
          cases z with
          | nil => exact absurd hz3 (by simp)
          | cons c z => simp [M78.isTarget]
def nameL : List Nat := lit "abcdefghijklmnopqrstuvwxyz0123456789-"
theorem nameL_ok : ∀ c ∈ nameL, told c = true ∧ M78.isEnd c = false ∧ c ≠ 39 ∧ M78.isNameSign c = true := by decide +kernel
theorem nameL_low : ∀ c ∈ nameL.take 26, M78.isLower c = true := by decide +kernel
def spName : Sp := fun vs H Q _ => ∃ P : Addr, vs = [.ref P] ∧ PoolAt P H ∧ ∀ s H', M78.Pl s → Sg s → s.length ≤ 10 → M78.isName s = true → Pst P H H' → Q (.str (S s)) H'
theorem okName (T : Top K w mg) : Ok P w K mg base CX0 2 "_law_name" ["pool"] spName := by
  have GLawPick : Ok P w K mg base CX0 1 "_law_pick" ["pool", "many"] spPick := okPick T
  have m_range := T.m_range
  refine mkOk T.f__law_name scLawName (fun vs H Q E h => ?_) (fun f cdv A outer s H vs Q E hr h => ?_)
  · obtain ⟨_, rfl, _⟩ := h
    rfl
  · obtain ⟨Pa, rfl, hP, q⟩ := h
    refine ⟨_, pss_cons (ps_set (i := 1) scLawName.nd rfl (Or.inr rfl) (pe_str))
  (pss_cons (ps_set (i := 2) scLawName.nd rfl (Or.inl rfl) (pe_ix ix_list (pe_lst (pa_cons (pe_int) (pa_cons (pe_int) (pa_cons (pe_int) (pa_cons (pe_int) (pa_cons (pe_int) (pa_cons (pe_int) pa_nil))))))) (pcall GLawPick (hr.mono (by decide)) (by rfl) pass0 (pa_cons (pv 0) (pa_cons (pe_int) pa_nil))) (fun _ _ => rfl)))
  (pss_one (ps_ret (pe_op op_add_str (pe_ix ix_str (pv 1) (pcall GLawPick (hr.mono (by decide)) (by rfl) pass0 (pa_cons (pv 0) (pa_cons (pe_int) pa_nil))) (fun _ _ => rfl)) (pe_join (pe_str) (pe_lc (own := [("k", 3)]) rfl scLawName.nd (pi_range1 rfl m_range (pa_cons (pv 2) pa_nil)) (blkOk_by (own := [("k", 3)]) (N := ["pool", "signs", "many", "k"]) (sc := defScope sLawName) (by decide +kernel)) (fun _ _ _ _ _ => pg_name (i := 3) scLawName.nd rfl (Or.inl rfl)) (fun _ _ _ _ _ => pts_nil) (fun _ _ _ _ _ => pe_ix ix_str (pv 1) (pcall GLawPick (hr.mono (by decide)) (by rfl) pass0 (pa_cons (pv 0) (pa_cons (pe_int) pa_nil))) (fun _ _ => rfl)))))))), ?_⟩
    (try simp only [cx_K, cx_w, rMulS, CwR.tReplC, tM1, tBM0, rPop, rExtend, rReverse, rLenS, rEqE, rNeE, rSetL, rIntI, rIntB, tBM, rAppend, rIxL, rIxT, rCat, rSlL, rSlS, gTup, tYes, wipe, tSeq, tAsg, tIfS, tRet, tRetN, tDrop, tNext, tBreak, tCont, tNever, tAug, ipI, tPar, tPar3, gName, gCons, gNil, gSub, tVar, tC, tOp, tUn, tIf, tAndV, tOrV, tNotV, tAnd, tOr, tNot, L2.tB, tTest, tCmp, tChain, tCB, tCons, tNil, tCall, tTup, tLst, tSl, tPart, tNoPart, rI, rI0, rU, rEq, rNe, scal_ii, scal_ss, scal_bb, scal_nn, scal_is, scal_si, rIxS, S_len, S_cps, S_inj, L2.start, List.map_cons, List.map_nil, List.cons_append, List.nil_append, List.append_nil, List.getElem?_cons_zero, List.getElem?_cons_succ, List.set_cons_zero, List.set_cons_succ, List.length_cons, List.length_nil, Nat.reduceAdd, Nat.reduceSub, List.replicate_succ, List.replicate_zero, Option.some.injEq, V.int.injEq, V.str.injEq, V.bl.injEq, V.ref.injEq, List.cons.injEq, and_true, true_and, exists_eq_left, exists_eq_left', exists_and_left, exists_eq, exists_eq', decide_eq_true_eq, Bool.not_eq_true', decide_eq_false_iff_not, Bool.false_eq_true, if_false, if_true, reduceIte, ite_self, CMul, CPow, CDiv])
    refine ⟨by decide, fun p hp => ?_⟩
    have s1 := (Pst.refl hP).new (o := .lst [V.int 0, V.int 1, V.int 2, V.int 4, V.int 8, V.int 9]) hp
    refine ⟨Pa, 6, rfl, s1.pool, by decide, fun r H1 h0 h1 st => ?_⟩
    obtain ⟨v, ev, hv⟩ := atI_mem (xs := [V.int 0, V.int 1, V.int 2, V.int 4, V.int 8, V.int 9]) h0 h1
    obtain ⟨k, rfl, hk⟩ : ∃ k : Nat, v = .int (k : Int) ∧ k ≤ 9 := by
      simp only [List.mem_cons, List.not_mem_nil, or_false] at hv
      rcases hv with rfl | rfl | rfl | rfl | rfl | rfl
      · exact ⟨0, rfl, by decide⟩
      · exact ⟨1, rfl, by decide⟩
      · exact ⟨2, rfl, by decide⟩
      · exact ⟨4, rfl, by decide⟩
      · exact ⟨8, rfl, by decide⟩
      · exact ⟨9, rfl, by decide⟩
    have eS : Str.ofString "abcdefghijklmnopqrstuvwxyz0123456789-" = S nameL := id rfl
    have eE : Str.ofString "" = S [] := id rfl
    have hL : nameL.length = 37 := by decide +kernel
    simp only [eS, S_len, S_cps]
    refine ⟨_, r, rfl, SqL.of (st.kp p _ ((Pst.refl hP).ne hp) upd_same), _, ev, Pa, 26, rfl, st.pool, by decide, fun r2 H2 h2 h3 st2 => ⟨r2, rfl, by decide +kernel, ?_⟩⟩
    have st12 := (s1.trans st).trans st2
    obtain ⟨n, rfl⟩ := Int.eq_ofNat_of_zero_le h2
    have hn : n < nameL.length := by omega
    have hn26 : n < 26 := by omega
    have hf := nameL_low _ (List.getElem_mem (l := nameL.take 26) (n := n) (by rw [List.length_take]; omega))
    rw [List.getElem_take] at hf
    refine ⟨nameL[n], at_nat (List.getElem?_eq_getElem hn), _, rfl, (k : Int), rfl, by omega, by omega, fun D hD => lc_range (lo := 0) (n := ((k : Int)).toNat) (StrsAt Pa H D (fun l => ∃ c, l = [c] ∧ c ∈ nameL)) (StrsAt.init st12 hD) (fun i H3 hi hS => ?_) (fun H3 hS => ?_)⟩
    · refine ⟨rfl, ?_⟩
      (try simp only [cx_K, cx_w, rMulS, CwR.tReplC, tM1, tBM0, rPop, rExtend, rReverse, rLenS, rEqE, rNeE, rSetL, rIntI, rIntB, tBM, rAppend, rIxL, rIxT, rCat, rSlL, rSlS, gTup, tYes, wipe, tSeq, tAsg, tIfS, tRet, tRetN, tDrop, tNext, tBreak, tCont, tNever, tAug, ipI, tPar, tPar3, gName, gCons, gNil, gSub, tVar, tC, tOp, tUn, tIf, tAndV, tOrV, tNotV, tAnd, tOr, tNot, L2.tB, tTest, tCmp, tChain, tCB, tCons, tNil, tCall, tTup, tLst, tSl, tPart, tNoPart, rI, rI0, rU, rEq, rNe, scal_ii, scal_ss, scal_bb, scal_nn, scal_is, scal_si, rIxS, S_len, S_cps, S_inj, L2.start, List.map_cons, List.map_nil, List.cons_append, List.nil_append, List.append_nil, List.getElem?_cons_zero, List.getElem?_cons_succ, List.set_cons_zero, List.set_cons_succ, List.length_cons, List.length_nil, Nat.reduceAdd, Nat.reduceSub, List.replicate_succ, List.replicate_zero, Option.some.injEq, V.int.injEq, V.str.injEq, V.bl.injEq, V.ref.injEq, List.cons.injEq, and_true, true_and, exists_eq_left, exists_eq_left', exists_and_left, exists_eq, exists_eq', decide_eq_true_eq, Bool.not_eq_true', decide_eq_false_iff_not, Bool.false_eq_true, if_false, if_true, reduceIte, ite_self, CMul, CPow, CDiv])
      refine ⟨Pa, 37, rfl, hS.1.pool, by decide, fun r4 H4 h4 h5 st4 => ⟨r4, rfl, by decide +kernel, ?_⟩⟩
      obtain ⟨m, rfl⟩ := Int.eq_ofNat_of_zero_le h4
      have hm : m < nameL.length := by omega
      exact ⟨nameL[m], at_nat (List.getElem?_eq_getElem hm), hS.snoc st4 (by omega) ⟨nameL[m], rfl, List.getElem_mem hm⟩⟩
    · obtain ⟨st3, hD3, nD, ls, eD, hl, hφ⟩ := hS
      refine ⟨D, rfl, ls.map S, .inl (by rw [← strs_map]; exact SqL.of eD), ?_⟩
      have h1 : ∀ l ∈ ls, l.length ≤ 1 := fun l hl => by
        obtain ⟨c, rfl, _⟩ := hφ l hl
        exact Nat.le_refl _
      have h2 := flatten_le h1
      have h3 := sum_le h1
      rw [eE, join_S, joinL_nil, S_len, List.length_map, S_len, List.length_nil]
      refine ⟨by omega, sz5 (by omega), ?_⟩
      show Q (.str (S [nameL[n]] ++ S ls.flatten)) H3
      rw [S_app]
      have hin : ∀ c ∈ ls.flatten, c ∈ nameL := fun c hc => by
        obtain ⟨l, hl, hcl⟩ := List.mem_flatten.mp hc
        obtain ⟨d, rfl, d1⟩ := hφ l hl
        rw [List.mem_singleton.mp hcl]
        exact d1
      have hfo := nameL_ok _ (List.getElem_mem hn)
      refine q _ _ ⟨⟨_, _, rfl, hfo.2.1, hfo.2.2.1⟩, fun c hc => ?_⟩ (fun c hc => ?_) ?_ ?_ st3
      · rcases List.mem_cons.mp hc with rfl | hc
        · exact hfo.2.1
        · exact (nameL_ok _ (hin c hc)).2.1
      · rcases List.mem_cons.mp hc with rfl | hc
        · exact hfo.1
        · exact (nameL_ok _ (hin c hc)).1
      · show (_ :: ls.flatten).length ≤ 10
        rw [List.length_cons]
        omega
      · show M78.isName (nameL[n] :: ls.flatten) = true
        simp only [M78.isName, hf, Bool.true_and, Bool.and_eq_true, decide_eq_true_eq, List.all_eq_true]
        exact ⟨by omega, fun c hc => (nameL_ok _ (hin c hc)).2.2.2⟩
end
end K78


namespace K78
open PySem PySem.Spec PyProof.Rows L2 KB
section
variable {P : Program} {w : World} {K : PySem.W.Frag} {mg : Str → Option Value} {base : Heap}
/-- how a word is shown, and what it says -/
def Shw (sh wd : List Nat) : Prop := (∃ q, M78.Shown sh [(wd, q)] false) ∧ Sg sh ∧ Sg wd ∧ sh.length ≤ 17 ∧ wd.length ≤ 15 ∧ sh ≠ []
def spAny : Sp := fun vs H Q _ => ∃ P : Addr, vs = [.ref P] ∧ PoolAt P H ∧ ∀ t sh wd H', Shw sh wd → Pst P H H' → H t = none → H' t = some (.tup [.str (S sh), .str (S wd)]) → Q (.ref t) H'
theorem okAny (T : Top K w mg) : Ok P w K mg base CX0 4 "_law_any" ["pool"] spAny := by
  have GLawPick : Ok P w K mg base CX0 1 "_law_pick" ["pool", "many"] spPick := okPick T
  have GLawQuoted : Ok P w K mg base CX0 3 "_law_quoted" ["pool"] spQuoted := okQuoted T
  have GLawPlain : Ok P w K mg base CX0 3 "_law_plain" ["pool"] spPlain := okPlain T
  refine mkOk T.f__law_any scLawAny (fun vs H Q E h => ?_) (fun f cdv A outer s H vs Q E hr h => ?_)
  · obtain ⟨_, rfl, _⟩ := h
    rfl
  · obtain ⟨Pa, rfl, hP, q⟩ := h
    refine ⟨_, pss_cons (ps_if (pt_cmpR op_eq (pcall GLawPick (hr.mono (by decide)) (by rfl) pass0 (pa_cons (pv 0) (pa_cons (pe_int) pa_nil))) (pe_int) (nomark _))
  (pss_one (ps_ret (pcall GLawQuoted (hr.mono (by decide)) (by rfl) pass0 (pa_cons (pv 0) pa_nil))))
  (pss_nil))
  (pss_cons (ps_set (i := 1) scLawAny.nd rfl (Or.inl rfl) (pcall GLawPlain (hr.mono (by decide)) (by rfl) pass0 (pa_cons (pv 0) pa_nil)))
  (pss_one (ps_ret (pe_tup (pa_cons (pv 1) (pa_cons (pv 1) pa_nil)))))), ?_⟩
    (try simp only [cx_K, cx_w, rIn, rMulS, CwR.tReplC, tM1, tBM0, rPop, rExtend, rReverse, rLenS, rEqE, rNeE, rSetL, rIntI, rIntB, tBM, rAppend, rIxL, rIxT, rCat, rSlL, rSlS, gTup, tYes, wipe, tSeq, tAsg, tIfS, tRet, tRetN, tDrop, tNext, tBreak, tCont, tNever, tAug, ipI, tPar, tPar3, gName, gCons, gNil, gSub, tVar, tC, tOp, tUn, tIf, tAndV, tOrV, tNotV, tAnd, tOr, tNot, L2.tB, tTest, tCmp, tChain, tCB, tCons, tNil, tCall, tTup, tLst, tSl, tPart, tNoPart, rI, rI0, rU, rEq, rNe, scal_ii, scal_ss, scal_bb, scal_nn, scal_is, scal_si, rIxS, S_len, S_cps, S_inj, L2.start, List.map_cons, List.map_nil, List.cons_append, List.nil_append, List.append_nil, List.getElem?_cons_zero, List.getElem?_cons_succ, List.set_cons_zero, List.set_cons_succ, List.length_cons, List.length_nil, Nat.reduceAdd, Nat.reduceSub, List.replicate_succ, List.replicate_zero, Option.some.injEq, V.int.injEq, V.str.injEq, V.bl.injEq, V.ref.injEq, List.cons.injEq, and_true, true_and, exists_eq_left, exists_eq_left', exists_and_left, exists_eq, exists_eq', decide_eq_true_eq, Bool.not_eq_true', decide_eq_false_iff_not, Bool.false_eq_true, if_false, if_true, reduceIte, ite_self, CMul, CPow, CDiv])
    refine ⟨Pa, 2, rfl, hP, by decide, fun r H1 h0 h1 st => ⟨rfl, ?_⟩⟩
    refine ite2 (fun _ => ?_) (fun _ => ?_)
    · refine ⟨Pa, rfl, st.pool, fun t wd H2 hq hs hl st2 hn e => ?_⟩
      refine q t _ wd H2 ⟨⟨true, M78.shown_qu hq⟩, fun c hc => ?_, hs, ?_, hl, fun z => nomatch z⟩ (st.trans st2) (st.free hn) e
      · rcases List.mem_cons.mp hc with rfl | hc
        · decide
        · rcases List.mem_append.mp hc with hc | hc
          · exact hs c hc
          · rw [List.mem_singleton.mp hc]
            decide
      · rw [List.length_cons, List.length_append, List.length_singleton]
        omega
    · refine ⟨Pa, rfl, st.pool, fun s2 H2 hp hs hl st2 => ⟨by decide, fun t ht => ?_⟩⟩
      refine q t s2 s2 _ ⟨⟨false, M78.shown_pl hp⟩, hs, hs, by omega, hl, ?_⟩ ((st.trans st2).new ht) ((st.trans st2).free ht) upd_same
      obtain ⟨⟨c, r, rfl, _⟩, _⟩ := hp
      exact fun z => nomatch z
theorem ifT {c : Prop} [Decidable c] {a b : Prop} (h : c) (x : a) : if c then a else b := by
  rw [if_pos h]
  exact x
theorem ifF {c : Prop} [Decidable c] {a b : Prop} (h : ¬ c) (x : b) : if c then a else b := by
  rw [if_neg h]
  exact x
def strV (l : List Nat) : V := .str (S l)
structure Row (shs : List (List Nat)) (toks : List M78.Word) (sp : Bool) : Prop where
  row : M78.RowR shs toks sp
  sg : ∀ s ∈ shs, Sg s ∧ s.length ≤ 40
  tl : ∀ w ∈ toks, w.1.length ≤ 40
  n : shs.length ≤ 6
  m : toks.length ≤ 12
theorem Row.nil : Row [] [] false := ⟨.nil, fun _ h => (nomatch h), fun _ h => (nomatch h), by decide, by decide⟩
theorem row_pl {w : List Nat} (hp : M78.Pl w) : M78.RowR [w] [(w, false)] false := by
  have := M78.RowR.cons (M78.shown_pl hp) M78.RowR.nil
  simpa using this
theorem rowc {s : List Nat} {w : M78.Word} {b bs : Bool} {ss : List (List Nat)} {ts : List M78.Word} (h : M78.Shown s [w] b) (r : M78.RowR ss ts bs) : M78.RowR (s :: ss) (w :: ts) (b || bs) := M78.RowR.cons h r
def pl_b (w : List Nat) : Bool := match w with
  | [] => false
  | c :: _ => !decide (c = 39) && w.all fun c => !M78.isEnd c
theorem pl_of {w : List Nat} (h : pl_b w = true) : M78.Pl w := by
  cases w with
  | nil => cases h
  | cons c r =>
    simp only [pl_b, Bool.and_eq_true, Bool.not_eq_true', decide_eq_false_iff_not, List.all_eq_true] at h
    exact ⟨⟨c, r, rfl, h.2 c List.mem_cons_self, h.1⟩, h.2⟩
theorem act_mk {k : List Nat} {ks : List M78.Kind} {r : List M78.Word} (hf : M78.forms k = some ks) (hr : M78.allFit ks r = true) : M78.isAct ((k, false) :: r) = true := by
  simp [M78.isAct, hf, hr]
theorem c_set : Str.ofString "set" = S M78.w_set := id rfl
theorem c_drop : Str.ofString "drop" = S M78.w_drop := id rfl
theorem c_add : Str.ofString "add" = S M78.w_add := id rfl
theorem c_cut : Str.ofString "cut" = S M78.w_cut := id rfl
theorem c_flip : Str.ofString "flip" = S M78.w_flip := id rfl
theorem c_say : Str.ofString "say" = S M78.w_say := id rfl
theorem c_take : Str.ofString "take" = S M78.w_take := id rfl
theorem c_go : Str.ofString "go" = S M78.w_go := id rfl
theorem c_focus : Str.ofString "focus" = S M78.w_focus := id rfl
theorem c_stop : Str.ofString "stop" = S M78.w_stop := id rfl
theorem c_leave : Str.ofString "leave" = S M78.w_leave := id rfl
theorem Row.mk1 {k : List Nat} (h : pl_b k = true) (hs : Sg k) (hl : k.length ≤ 40) : Row [k] [(k, false)] false :=
  ⟨row_pl (pl_of h), fun s hs' => by rw [List.mem_singleton.mp hs']; exact ⟨hs, hl⟩, fun w hw => by rw [List.mem_singleton.mp hw]; exact hl, by simp, by simp⟩
theorem Row.cons {s : List Nat} {w : M78.Word} {b sp : Bool} {shs : List (List Nat)} {toks : List M78.Word} (r : Row shs toks sp) (h : M78.Shown s [w] b) (hs : Sg s) (hl : s.length ≤ 40) (hw : w.1.length ≤ 40) (hn : shs.length + 1 ≤ 6) (hm : toks.length + 1 ≤ 12) : Row (s :: shs) (w :: toks) (b || sp) :=
  ⟨rowc h r.row, fun z hz => by
    rcases List.mem_cons.mp hz with rfl | hz
    · exact ⟨hs, hl⟩
    · exact r.sg z hz, fun z hz => by
    rcases List.mem_cons.mp hz with rfl | hz
    · exact hw
    · exact r.tl z hz, hn, hm⟩
theorem row_end {s : List Nat} {w : M78.Word} {b : Bool} (h : M78.Shown s [w] b) (hs : Sg s) (hl : s.length ≤ 40) (hw : w.1.length ≤ 40) : Row [s] [w] b := by
  have := Row.nil.cons h hs hl hw (by decide) (by decide)
  simpa using this
def spGood : Sp := fun vs H Q _ => ∃ P : Addr, vs = [.ref P] ∧ PoolAt P H ∧ ∀ t a b shs toks H', H' t = some (.tup [.ref a, .ref b]) → H' a = some (.lst (shs.map strV)) → H' b = some (.tup ((toks.map (·.1)).map strV)) →
  Row shs toks false → M78.isAct toks = true → toks ≠ [] → Pst P H H' → H t = none → H a = none → H b = none → Q (.ref t) H'
/-- the last three steps: the two rows and the pair of them -/
theorem good_end {Pa : Addr} {H H1 : Hp} {shs : List (List Nat)} {toks : List M78.Word} {Q : VK} {n1 n2 : Nat}
    (q : ∀ t a b shs toks H', H' t = some (.tup [.ref a, .ref b]) → H' a = some (.lst (shs.map strV)) → H' b = some (.tup ((toks.map (·.1)).map strV)) →
      Row shs toks false → M78.isAct toks = true → toks ≠ [] → Pst Pa H H' → H t = none → H a = none → H b = none → Q (.ref t) H')
    (st : Pst Pa H H1) (R : Row shs toks false) (hA : M78.isAct toks = true) (hn1 : n1 ≤ sizeLine) (hn2 : n2 ≤ sizeLine) :
    n1 ≤ sizeLine ∧ ∀ a, H1 a = none → n2 ≤ sizeLine ∧ ∀ b, upd H1 a (.lst (shs.map strV)) b = none → 2 ≤ sizeLine ∧ ∀ t, upd (upd H1 a (.lst (shs.map strV))) b (.tup ((toks.map (·.1)).map strV)) t = none →
      Q (.ref t) (upd (upd (upd H1 a (.lst (shs.map strV))) b (.tup ((toks.map (·.1)).map strV))) t (.tup [.ref a, .ref b])) := by
  refine ⟨hn1, fun a ha => ⟨hn2, fun b hb => ⟨by decide, fun t ht => ?_⟩⟩⟩
  have s1 := st.new (o := .lst (shs.map strV)) ha
  have s2 := s1.new (o := .tup ((toks.map (·.1)).map strV)) hb
  have s3 := s2.new (o := .tup [.ref a, .ref b]) ht
  refine q t a b shs toks _ upd_same ?_ ?_ R hA ?_ s3 (s2.free ht) (st.free ha) (s1.free hb)
  · exact (Same.new ht) _ _ ((Same.new hb) _ _ upd_same)
  · exact (Same.new ht) _ _ upd_same
  · rintro rfl
    cases hA
theorem okGood (T : Top K w mg) : Ok P w K mg base CX0 5 "_law_good" ["pool"] spGood := by
  have GLawPick : Ok P w K mg base CX0 1 "_law_pick" ["pool", "many"] spPick := okPick T
  have GLawAny : Ok P w K mg base CX0 4 "_law_any" ["pool"] spAny := okAny T
  have GLawTarget : Ok P w K mg base CX0 4 "_law_target" ["pool"] spTarget := okTarget T
  have GLawName : Ok P w K mg base CX0 2 "_law_name" ["pool"] spName := okName T
  have GLawPlain : Ok P w K mg base CX0 3 "_law_plain" ["pool"] spPlain := okPlain T
  refine mkOk T.f__law_good scLawGood (fun vs H Q E h => ?_) (fun f cdv A outer s H vs Q E hr h => ?_)
  · obtain ⟨_, rfl, _⟩ := h
    rfl
  · obtain ⟨Pa, rfl, hP, q⟩ := h
    refine ⟨_, pss_cons (ps_set (i := 1) scLawGood.nd rfl (Or.inl rfl) (pe_ix ix_list (pe_lst (pa_cons (pe_str) (pa_cons (pe_str) (pa_cons (pe_str) (pa_cons (pe_str) (pa_cons (pe_str) (pa_cons (pe_str) (pa_cons (pe_str) (pa_cons (pe_str) (pa_cons (pe_str) (pa_cons (pe_str) (pa_cons (pe_str) (pa_cons (pe_str) (pa_cons (pe_str) pa_nil)))))))))))))) (pcall GLawPick (hr.mono (by decide)) (by rfl) pass0 (pa_cons (pv 0) (pa_cons (pe_int) pa_nil))) (fun _ _ => rfl)))
  (pss_cons (ps_if (pt_cmpR op_in_seq (pv 1) (pe_lst (pa_cons (pe_str) (pa_cons (pe_str) pa_nil))) (by with_unfolding_all rfl))
  (pss_one (ps_ret (pe_tup (pa_cons (pe_lst (pa_cons (pv 1) pa_nil)) (pa_cons (pe_tup (pa_cons (pv 1) pa_nil)) pa_nil)))))
  (pss_nil))
  (pss_cons (ps_if (pt_cmpR op_eq (pv 1) (pe_str) (nomark _))
  (pss_cons (ps_set (i := 2) scLawGood.nd rfl (Or.inl rfl) (pcall GLawPlain (hr.mono (by decide)) (by rfl) pass0 (pa_cons (pv 0) pa_nil)))
  (pss_one (ps_ret (pe_tup (pa_cons (pe_lst (pa_cons (pv 1) (pa_cons (pv 2) pa_nil))) (pa_cons (pe_tup (pa_cons (pv 1) (pa_cons (pv 2) pa_nil))) pa_nil))))))
  (pss_nil))
  (pss_cons (ps_set (i := 3) scLawGood.nd rfl (Or.inl rfl) (pcall GLawTarget (hr.mono (by decide)) (by rfl) pass0 (pa_cons (pv 0) pa_nil)))
  (pss_cons (ps_if (pt_cmpR op_in_seq (pv 1) (pe_lst (pa_cons (pe_str) (pa_cons (pe_str) pa_nil))) (by with_unfolding_all rfl))
  (pss_one (ps_ret (pe_tup (pa_cons (pe_lst (pa_cons (pv 1) (pa_cons (pv 3) pa_nil))) (pa_cons (pe_tup (pa_cons (pv 1) (pa_cons (pv 3) pa_nil))) pa_nil)))))
  (pss_nil))
  (pss_cons (ps_if (pt_cmpR op_eq (pv 1) (pe_str) (nomark _))
  (pss_cons (ps_set (i := 4) scLawGood.nd rfl (Or.inl rfl) (pcall GLawName (hr.mono (by decide)) (by rfl) pass0 (pa_cons (pv 0) pa_nil)))
  (pss_one (ps_ret (pe_tup (pa_cons (pe_lst (pa_cons (pv 1) (pa_cons (pv 3) (pa_cons (pv 4) pa_nil)))) (pa_cons (pe_tup (pa_cons (pv 1) (pa_cons (pv 3) (pa_cons (pv 4) pa_nil)))) pa_nil))))))
  (pss_nil))
  (pss_cons (ps_if (pt_cmpR op_in_seq (pv 1) (pe_lst (pa_cons (pe_str) (pa_cons (pe_str) (pa_cons (pe_str) pa_nil)))) (by with_unfolding_all rfl))
  (pss_cons (ps_set (i := 5) scLawGood.nd rfl (Or.inl rfl) (pcall GLawPlain (hr.mono (by decide)) (by rfl) pass0 (pa_cons (pv 0) pa_nil)))
  (pss_one (ps_ret (pe_tup (pa_cons (pe_lst (pa_cons (pv 1) (pa_cons (pv 3) (pa_cons (pv 5) pa_nil)))) (pa_cons (pe_tup (pa_cons (pv 1) (pa_cons (pv 3) (pa_cons (pv 5) pa_nil)))) pa_nil))))))
  (pss_nil))
  (pss_cons (ps_asg (pcall GLawAny (hr.mono (by decide)) (by rfl) pass0 (pa_cons (pv 0) pa_nil)) (pg_tup (n := 2) rfl (pgs_cons (pg_name (i := 6) scLawGood.nd rfl (Or.inl rfl)) (pgs_cons (pg_name (i := 7) scLawGood.nd rfl (Or.inl rfl)) pgs_nil))))
  (pss_cons (ps_if (pt_cmpR op_eq (pv 1) (pe_str) (nomark _))
  (pss_one (ps_ret (pe_tup (pa_cons (pe_lst (pa_cons (pv 1) (pa_cons (pv 3) (pa_cons (pv 6) pa_nil)))) (pa_cons (pe_tup (pa_cons (pv 1) (pa_cons (pv 3) (pa_cons (pv 7) pa_nil)))) pa_nil)))))
  (pss_nil))
  (pss_cons (ps_set (i := 4) scLawGood.nd rfl (Or.inl rfl) (pcall GLawName (hr.mono (by decide)) (by rfl) pass0 (pa_cons (pv 0) pa_nil)))
  (pss_one (ps_ret (pe_tup (pa_cons (pe_lst (pa_cons (pv 1) (pa_cons (pv 3) (pa_cons (pv 4) (pa_cons (pv 6) pa_nil))))) (pa_cons (pe_tup (pa_cons (pv 1) (pa_cons (pv 3) (pa_cons (pv 4) (pa_cons (pv 7) pa_nil))))) pa_nil)))))))))))))), ?_⟩
    (try simp only [cx_K, cx_w, rIn, rMulS, CwR.tReplC, tM1, tBM0, rPop, rExtend, rReverse, rLenS, rEqE, rNeE, rSetL, rIntI, rIntB, tBM, rAppend, rIxL, rIxT, rCat, rSlL, rSlS, gTup, tYes, wipe, tSeq, tAsg, tIfS, tRet, tRetN, tDrop, tNext, tBreak, tCont, tNever, tAug, ipI, tPar, tPar3, gName, gCons, gNil, gSub, tVar, tC, tOp, tUn, tIf, tAndV, tOrV, tNotV, tAnd, tOr, tNot, L2.tB, tTest, tCmp, tChain, tCB, tCons, tNil, tCall, tTup, tLst, tSl, tPart, tNoPart, rI, rI0, rU, rEq, rNe, scal_ii, scal_ss, scal_bb, scal_nn, scal_is, scal_si, rIxS, S_len, S_cps, S_inj, L2.start, List.map_cons, List.map_nil, List.cons_append, List.nil_append, List.append_nil, List.getElem?_cons_zero, List.getElem?_cons_succ, List.set_cons_zero, List.set_cons_succ, List.length_cons, List.length_nil, Nat.reduceAdd, Nat.reduceSub, List.replicate_succ, List.replicate_zero, Option.some.injEq, V.int.injEq, V.str.injEq, V.bl.injEq, V.ref.injEq, List.cons.injEq, and_true, true_and, exists_eq_left, exists_eq_left', exists_and_left, exists_eq, exists_eq', decide_eq_true_eq, Bool.not_eq_true', decide_eq_false_iff_not, Bool.false_eq_true, if_false, if_true, reduceIte, ite_self, CMul, CPow, CDiv])
    simp only [c_set, c_drop, c_add, c_cut, c_flip, c_say, c_take, c_go, c_focus, c_stop, c_leave]
    refine ⟨by decide, fun p hp => ?_⟩
    have s1 := (Pst.refl hP).new (o := .lst [V.str (S M78.w_set), V.str (S M78.w_drop), V.str (S M78.w_add), V.str (S M78.w_cut), V.str (S M78.w_flip), V.str (S M78.w_say), V.str (S M78.w_take), V.str (S M78.w_go), V.str (S M78.w_focus), V.str (S M78.w_stop), V.str (S M78.w_leave), V.str (S M78.w_set), V.str (S M78.w_say)]) hp
    refine ⟨Pa, 13, rfl, s1.pool, by decide, fun r H1 h0 h1 st1 => ?_⟩
    obtain ⟨v, ev, hv⟩ := atI_mem (xs := [V.str (S M78.w_set), V.str (S M78.w_drop), V.str (S M78.w_add), V.str (S M78.w_cut), V.str (S M78.w_flip), V.str (S M78.w_say), V.str (S M78.w_take), V.str (S M78.w_go), V.str (S M78.w_focus), V.str (S M78.w_stop), V.str (S M78.w_leave), V.str (S M78.w_set), V.str (S M78.w_say)]) h0 h1
    refine ⟨_, r, rfl, SqL.of (st1.kp p _ ((Pst.refl hP).ne hp) upd_same), _, ev, by decide, fun p2 hp2 => ?_⟩
    have st := s1.trans st1
    have st2 := st.new (o := .lst [V.str (S M78.w_stop), V.str (S M78.w_leave)]) hp2
    clear ev
    simp only [List.mem_cons, List.not_mem_nil, or_false] at hv
    rcases hv with rfl | rfl | rfl | rfl | rfl | rfl | rfl | rfl | rfl | rfl | rfl | rfl | rfl
    · refine ⟨_, .inl (SqL.of upd_same), rfl, rfl, ?_⟩
      refine ifF (by decide +kernel) ⟨rfl, ?_⟩
      refine ifF (by decide +kernel) ⟨Pa, rfl, st2.pool, fun g H3 hg1 hg2 hg3 hg4 st3 => ⟨by decide, fun p3 hp3 => ⟨_, .inl (SqL.of upd_same), rfl, rfl, ?_⟩⟩⟩
      have st4 := (st2.trans st3).new (o := .lst [V.str (S M78.w_take), V.str (S M78.w_focus)]) hp3
      refine ifF (by decide +kernel) ⟨rfl, ?_⟩
      refine ifF (by decide +kernel) ⟨by decide, fun p5 hp5 => ⟨_, .inl (SqL.of upd_same), rfl, rfl, ?_⟩⟩
      have st5 := st4.new (o := .lst [V.str (S M78.w_add), V.str (S M78.w_cut), V.str (S M78.w_flip)]) hp5
      refine ifF (by decide +kernel) ⟨Pa, rfl, st5.pool, fun t sh wd H6 hw st6 hn e => ?_⟩
      obtain ⟨⟨qd, hw1⟩, hw2, hw3, hw4, hw5, hw6⟩ := hw
      refine ⟨t, rfl, _, SqT.of e, rfl, _, _, rfl, _, _, rfl, rfl, rfl, ?_⟩
      refine ifF (by decide +kernel) ⟨Pa, rfl, (st5.trans st6).pool, fun a H7 ha1 ha2 ha3 ha4 st7 => ?_⟩
      exact good_end (shs := [M78.w_set, g, a, sh]) (toks := [(M78.w_set, false), (g, false), (a, false), (wd, qd)]) q ((st5.trans st6).trans st7) ((((row_end hw1 hw2 (by omega) (by show wd.length ≤ 40; omega)).cons (M78.shown_pl ha1) ha2 (Nat.le_trans ha3 (by decide)) (Nat.le_trans ha3 (by decide)) (by simp) (by simp)).cons (M78.shown_pl hg1) hg2 (Nat.le_trans hg3 (by decide)) (Nat.le_trans hg3 (by decide)) (by simp) (by simp)).cons (M78.shown_pl (pl_of (w := M78.w_set) (by decide))) (by decide) (by decide) (by decide) (by simp) (by simp)) (act_mk (ks := [.target, .name, .any]) rfl (by simp [M78.allFit, M78.fits, hg4, ha4])) (by decide) (by decide)
    · refine ⟨_, .inl (SqL.of upd_same), rfl, rfl, ?_⟩
      refine ifF (by decide +kernel) ⟨rfl, ?_⟩
      refine ifF (by decide +kernel) ⟨Pa, rfl, st2.pool, fun g H3 hg1 hg2 hg3 hg4 st3 => ⟨by decide, fun p3 hp3 => ⟨_, .inl (SqL.of upd_same), rfl, rfl, ?_⟩⟩⟩
      have st4 := (st2.trans st3).new (o := .lst [V.str (S M78.w_take), V.str (S M78.w_focus)]) hp3
      refine ifF (by decide +kernel) ⟨rfl, ?_⟩
      refine ifT rfl ⟨Pa, rfl, st4.pool, fun a H5 ha1 ha2 ha3 ha4 st5 => ?_⟩
      exact good_end (shs := [M78.w_drop, g, a]) (toks := [(M78.w_drop, false), (g, false), (a, false)]) q (st4.trans st5) (((row_end (M78.shown_pl ha1) ha2 (Nat.le_trans ha3 (by decide)) (Nat.le_trans ha3 (by decide))).cons (M78.shown_pl hg1) hg2 (Nat.le_trans hg3 (by decide)) (Nat.le_trans hg3 (by decide)) (by simp) (by simp)).cons (M78.shown_pl (pl_of (w := M78.w_drop) (by decide))) (by decide) (by decide) (by decide) (by simp) (by simp)) (act_mk (ks := [.target, .name]) rfl (by simp [M78.allFit, M78.fits, hg4, ha4])) (by decide) (by decide)
    · refine ⟨_, .inl (SqL.of upd_same), rfl, rfl, ?_⟩
      refine ifF (by decide +kernel) ⟨rfl, ?_⟩
      refine ifF (by decide +kernel) ⟨Pa, rfl, st2.pool, fun g H3 hg1 hg2 hg3 hg4 st3 => ⟨by decide, fun p3 hp3 => ⟨_, .inl (SqL.of upd_same), rfl, rfl, ?_⟩⟩⟩
      have st4 := (st2.trans st3).new (o := .lst [V.str (S M78.w_take), V.str (S M78.w_focus)]) hp3
      refine ifF (by decide +kernel) ⟨rfl, ?_⟩
      refine ifF (by decide +kernel) ⟨by decide, fun p5 hp5 => ⟨_, .inl (SqL.of upd_same), rfl, rfl, ?_⟩⟩
      have st5 := st4.new (o := .lst [V.str (S M78.w_add), V.str (S M78.w_cut), V.str (S M78.w_flip)]) hp5
      refine ifT (by decide +kernel) ⟨Pa, rfl, st5.pool, fun a H6 ha1 ha2 ha3 st6 => ?_⟩
      exact good_end (shs := [M78.w_add, g, a]) (toks := [(M78.w_add, false), (g, false), (a, false)]) q (st5.trans st6) (((row_end (M78.shown_pl ha1) ha2 (Nat.le_trans ha3 (by decide)) (Nat.le_trans ha3 (by decide))).cons (M78.shown_pl hg1) hg2 (Nat.le_trans hg3 (by decide)) (Nat.le_trans hg3 (by decide)) (by simp) (by simp)).cons (M78.shown_pl (pl_of (w := M78.w_add) (by decide))) (by decide) (by decide) (by decide) (by simp) (by simp)) (act_mk (ks := [.target, .word]) rfl (by simp [M78.allFit, M78.fits, hg4])) (by decide) (by decide)
    · refine ⟨_, .inl (SqL.of upd_same), rfl, rfl, ?_⟩
      refine ifF (by decide +kernel) ⟨rfl, ?_⟩
      refine ifF (by decide +kernel) ⟨Pa, rfl, st2.pool, fun g H3 hg1 hg2 hg3 hg4 st3 => ⟨by decide, fun p3 hp3 => ⟨_, .inl (SqL.of upd_same), rfl, rfl, ?_⟩⟩⟩
      have st4 := (st2.trans st3).new (o := .lst [V.str (S M78.w_take), V.str (S M78.w_focus)]) hp3
      refine ifF (by decide +kernel) ⟨rfl, ?_⟩
      refine ifF (by decide +kernel) ⟨by decide, fun p5 hp5 => ⟨_, .inl (SqL.of upd_same), rfl, rfl, ?_⟩⟩
      have st5 := st4.new (o := .lst [V.str (S M78.w_add), V.str (S M78.w_cut), V.str (S M78.w_flip)]) hp5
      refine ifT (by decide +kernel) ⟨Pa, rfl, st5.pool, fun a H6 ha1 ha2 ha3 st6 => ?_⟩
      exact good_end (shs := [M78.w_cut, g, a]) (toks := [(M78.w_cut, false), (g, false), (a, false)]) q (st5.trans st6) (((row_end (M78.shown_pl ha1) ha2 (Nat.le_trans ha3 (by decide)) (Nat.le_trans ha3 (by decide))).cons (M78.shown_pl hg1) hg2 (Nat.le_trans hg3 (by decide)) (Nat.le_trans hg3 (by decide)) (by simp) (by simp)).cons (M78.shown_pl (pl_of (w := M78.w_cut) (by decide))) (by decide) (by decide) (by decide) (by simp) (by simp)) (act_mk (ks := [.target, .word]) rfl (by simp [M78.allFit, M78.fits, hg4])) (by decide) (by decide)
    · refine ⟨_, .inl (SqL.of upd_same), rfl, rfl, ?_⟩
      refine ifF (by decide +kernel) ⟨rfl, ?_⟩
      refine ifF (by decide +kernel) ⟨Pa, rfl, st2.pool, fun g H3 hg1 hg2 hg3 hg4 st3 => ⟨by decide, fun p3 hp3 => ⟨_, .inl (SqL.of upd_same), rfl, rfl, ?_⟩⟩⟩
      have st4 := (st2.trans st3).new (o := .lst [V.str (S M78.w_take), V.str (S M78.w_focus)]) hp3
      refine ifF (by decide +kernel) ⟨rfl, ?_⟩
      refine ifF (by decide +kernel) ⟨by decide, fun p5 hp5 => ⟨_, .inl (SqL.of upd_same), rfl, rfl, ?_⟩⟩
      have st5 := st4.new (o := .lst [V.str (S M78.w_add), V.str (S M78.w_cut), V.str (S M78.w_flip)]) hp5
      refine ifT (by decide +kernel) ⟨Pa, rfl, st5.pool, fun a H6 ha1 ha2 ha3 st6 => ?_⟩
      exact good_end (shs := [M78.w_flip, g, a]) (toks := [(M78.w_flip, false), (g, false), (a, false)]) q (st5.trans st6) (((row_end (M78.shown_pl ha1) ha2 (Nat.le_trans ha3 (by decide)) (Nat.le_trans ha3 (by decide))).cons (M78.shown_pl hg1) hg2 (Nat.le_trans hg3 (by decide)) (Nat.le_trans hg3 (by decide)) (by simp) (by simp)).cons (M78.shown_pl (pl_of (w := M78.w_flip) (by decide))) (by decide) (by decide) (by decide) (by simp) (by simp)) (act_mk (ks := [.target, .word]) rfl (by simp [M78.allFit, M78.fits, hg4])) (by decide) (by decide)
    · refine ⟨_, .inl (SqL.of upd_same), rfl, rfl, ?_⟩
      refine ifF (by decide +kernel) ⟨rfl, ?_⟩
      refine ifF (by decide +kernel) ⟨Pa, rfl, st2.pool, fun g H3 hg1 hg2 hg3 hg4 st3 => ⟨by decide, fun p3 hp3 => ⟨_, .inl (SqL.of upd_same), rfl, rfl, ?_⟩⟩⟩
      have st4 := (st2.trans st3).new (o := .lst [V.str (S M78.w_take), V.str (S M78.w_focus)]) hp3
      refine ifF (by decide +kernel) ⟨rfl, ?_⟩
      refine ifF (by decide +kernel) ⟨by decide, fun p5 hp5 => ⟨_, .inl (SqL.of upd_same), rfl, rfl, ?_⟩⟩
      have st5 := st4.new (o := .lst [V.str (S M78.w_add), V.str (S M78.w_cut), V.str (S M78.w_flip)]) hp5
      refine ifF (by decide +kernel) ⟨Pa, rfl, st5.pool, fun t sh wd H6 hw st6 hn e => ?_⟩
      obtain ⟨⟨qd, hw1⟩, hw2, hw3, hw4, hw5, hw6⟩ := hw
      refine ⟨t, rfl, _, SqT.of e, rfl, _, _, rfl, _, _, rfl, rfl, rfl, ?_⟩
      exact ifT rfl (good_end (shs := [M78.w_say, g, sh]) (toks := [(M78.w_say, false), (g, false), (wd, qd)]) q (st5.trans st6) (((row_end hw1 hw2 (by omega) (by show wd.length ≤ 40; omega)).cons (M78.shown_pl hg1) hg2 (Nat.le_trans hg3 (by decide)) (Nat.le_trans hg3 (by decide)) (by simp) (by simp)).cons (M78.shown_pl (pl_of (w := M78.w_say) (by decide))) (by decide) (by decide) (by decide) (by simp) (by simp)) (act_mk (ks := [.target, .any]) rfl (by simp [M78.allFit, M78.fits, hg4])) (by decide) (by decide))
    · refine ⟨_, .inl (SqL.of upd_same), rfl, rfl, ?_⟩
      refine ifF (by decide +kernel) ⟨rfl, ?_⟩
      refine ifF (by decide +kernel) ⟨Pa, rfl, st2.pool, fun g H3 hg1 hg2 hg3 hg4 st3 => ⟨by decide, fun p3 hp3 => ⟨_, .inl (SqL.of upd_same), rfl, rfl, ?_⟩⟩⟩
      have st4 := (st2.trans st3).new (o := .lst [V.str (S M78.w_take), V.str (S M78.w_focus)]) hp3
      exact ifT (by decide +kernel) (good_end (shs := [M78.w_take, g]) (toks := [(M78.w_take, false), (g, false)]) q (st4) ((row_end (M78.shown_pl hg1) hg2 (Nat.le_trans hg3 (by decide)) (Nat.le_trans hg3 (by decide))).cons (M78.shown_pl (pl_of (w := M78.w_take) (by decide))) (by decide) (by decide) (by decide) (by simp) (by simp)) (act_mk (ks := [.target]) rfl (by simp [M78.allFit, M78.fits, hg4])) (by decide) (by decide))
    · refine ⟨_, .inl (SqL.of upd_same), rfl, rfl, ?_⟩
      refine ifF (by decide +kernel) ⟨rfl, ?_⟩
      refine ifT rfl ⟨Pa, rfl, st2.pool, fun a H3 ha1 ha2 ha3 st3 => ?_⟩
      exact good_end (shs := [M78.w_go, a]) (toks := [(M78.w_go, false), (a, false)]) q (st2.trans st3) ((row_end (M78.shown_pl ha1) ha2 (Nat.le_trans ha3 (by decide)) (Nat.le_trans ha3 (by decide))).cons (M78.shown_pl (pl_of (w := M78.w_go) (by decide))) (by decide) (by decide) (by decide) (by simp) (by simp)) (act_mk (ks := [.word]) rfl (by simp [M78.allFit, M78.fits])) (by decide) (by decide)
    · refine ⟨_, .inl (SqL.of upd_same), rfl, rfl, ?_⟩
      refine ifF (by decide +kernel) ⟨rfl, ?_⟩
      refine ifF (by decide +kernel) ⟨Pa, rfl, st2.pool, fun g H3 hg1 hg2 hg3 hg4 st3 => ⟨by decide, fun p3 hp3 => ⟨_, .inl (SqL.of upd_same), rfl, rfl, ?_⟩⟩⟩
      have st4 := (st2.trans st3).new (o := .lst [V.str (S M78.w_take), V.str (S M78.w_focus)]) hp3
      exact ifT (by decide +kernel) (good_end (shs := [M78.w_focus, g]) (toks := [(M78.w_focus, false), (g, false)]) q (st4) ((row_end (M78.shown_pl hg1) hg2 (Nat.le_trans hg3 (by decide)) (Nat.le_trans hg3 (by decide))).cons (M78.shown_pl (pl_of (w := M78.w_focus) (by decide))) (by decide) (by decide) (by decide) (by simp) (by simp)) (act_mk (ks := [.target]) rfl (by simp [M78.allFit, M78.fits, hg4])) (by decide) (by decide))
    · refine ⟨_, .inl (SqL.of upd_same), rfl, rfl, ?_⟩
      exact ifT (by decide +kernel) (good_end (shs := [M78.w_stop]) (toks := [(M78.w_stop, false)]) q (st2) (row_end (M78.shown_pl (pl_of (by decide))) (by decide) (by decide) (by decide)) (act_mk (ks := []) rfl (rfl)) (by decide) (by decide))
    · refine ⟨_, .inl (SqL.of upd_same), rfl, rfl, ?_⟩
      exact ifT (by decide +kernel) (good_end (shs := [M78.w_leave]) (toks := [(M78.w_leave, false)]) q (st2) (row_end (M78.shown_pl (pl_of (by decide))) (by decide) (by decide) (by decide)) (act_mk (ks := []) rfl (rfl)) (by decide) (by decide))
    · refine ⟨_, .inl (SqL.of upd_same), rfl, rfl, ?_⟩
      refine ifF (by decide +kernel) ⟨rfl, ?_⟩
      refine ifF (by decide +kernel) ⟨Pa, rfl, st2.pool, fun g H3 hg1 hg2 hg3 hg4 st3 => ⟨by decide, fun p3 hp3 => ⟨_, .inl (SqL.of upd_same), rfl, rfl, ?_⟩⟩⟩
      have st4 := (st2.trans st3).new (o := .lst [V.str (S M78.w_take), V.str (S M78.w_focus)]) hp3
      refine ifF (by decide +kernel) ⟨rfl, ?_⟩
      refine ifF (by decide +kernel) ⟨by decide, fun p5 hp5 => ⟨_, .inl (SqL.of upd_same), rfl, rfl, ?_⟩⟩
      have st5 := st4.new (o := .lst [V.str (S M78.w_add), V.str (S M78.w_cut), V.str (S M78.w_flip)]) hp5
      refine ifF (by decide +kernel) ⟨Pa, rfl, st5.pool, fun t sh wd H6 hw st6 hn e => ?_⟩
      obtain ⟨⟨qd, hw1⟩, hw2, hw3, hw4, hw5, hw6⟩ := hw
      refine ⟨t, rfl, _, SqT.of e, rfl, _, _, rfl, _, _, rfl, rfl, rfl, ?_⟩
      refine ifF (by decide +kernel) ⟨Pa, rfl, (st5.trans st6).pool, fun a H7 ha1 ha2 ha3 ha4 st7 => ?_⟩
      exact good_end (shs := [M78.w_set, g, a, sh]) (toks := [(M78.w_set, false), (g, false), (a, false), (wd, qd)]) q ((st5.trans st6).trans st7) ((((row_end hw1 hw2 (by omega) (by show wd.length ≤ 40; omega)).cons (M78.shown_pl ha1) ha2 (Nat.le_trans ha3 (by decide)) (Nat.le_trans ha3 (by decide)) (by simp) (by simp)).cons (M78.shown_pl hg1) hg2 (Nat.le_trans hg3 (by decide)) (Nat.le_trans hg3 (by decide)) (by simp) (by simp)).cons (M78.shown_pl (pl_of (w := M78.w_set) (by decide))) (by decide) (by decide) (by decide) (by simp) (by simp)) (act_mk (ks := [.target, .name, .any]) rfl (by simp [M78.allFit, M78.fits, hg4, ha4])) (by decide) (by decide)
    · refine ⟨_, .inl (SqL.of upd_same), rfl, rfl, ?_⟩
      refine ifF (by decide +kernel) ⟨rfl, ?_⟩
      refine ifF (by decide +kernel) ⟨Pa, rfl, st2.pool, fun g H3 hg1 hg2 hg3 hg4 st3 => ⟨by decide, fun p3 hp3 => ⟨_, .inl (SqL.of upd_same), rfl, rfl, ?_⟩⟩⟩
      have st4 := (st2.trans st3).new (o := .lst [V.str (S M78.w_take), V.str (S M78.w_focus)]) hp3
      refine ifF (by decide +kernel) ⟨rfl, ?_⟩
      refine ifF (by decide +kernel) ⟨by decide, fun p5 hp5 => ⟨_, .inl (SqL.of upd_same), rfl, rfl, ?_⟩⟩
      have st5 := st4.new (o := .lst [V.str (S M78.w_add), V.str (S M78.w_cut), V.str (S M78.w_flip)]) hp5
      refine ifF (by decide +kernel) ⟨Pa, rfl, st5.pool, fun t sh wd H6 hw st6 hn e => ?_⟩
      obtain ⟨⟨qd, hw1⟩, hw2, hw3, hw4, hw5, hw6⟩ := hw
      refine ⟨t, rfl, _, SqT.of e, rfl, _, _, rfl, _, _, rfl, rfl, rfl, ?_⟩
      exact ifT rfl (good_end (shs := [M78.w_say, g, sh]) (toks := [(M78.w_say, false), (g, false), (wd, qd)]) q (st5.trans st6) (((row_end hw1 hw2 (by omega) (by show wd.length ≤ 40; omega)).cons (M78.shown_pl hg1) hg2 (Nat.le_trans hg3 (by decide)) (Nat.le_trans hg3 (by decide)) (by simp) (by simp)).cons (M78.shown_pl (pl_of (w := M78.w_say) (by decide))) (by decide) (by decide) (by decide) (by simp) (by simp)) (act_mk (ks := [.target, .any]) rfl (by simp [M78.allFit, M78.fits, hg4])) (by decide) (by decide))
end
end K78


namespace K78
open PySem PySem.Spec PyProof.Rows L2 KB
section
variable {P : Program} {w : World} {K : PySem.W.Frag} {mg : Str → Option Value} {base : Heap}
theorem qw_len {wd : List Nat} (h : wd.length ≤ 15) : (Str.ofString "'a'").length + (S wd).length ≤ sizeLine := by
  rw [show (Str.ofString "'a'").length = 3 from by decide +kernel]
  exact sz5 (by show 3 + wd.length ≤ _; omega)
theorem shq {w : List Nat} {z : List Nat} (h : w.all (fun c => !decide (c = 39)) = true) (e : z = 39 :: (w ++ [39])) : M78.Shown z [(w, true)] false := by
  subst e
  refine M78.shown_qu fun c hc => ?_
  have := List.all_eq_true.mp h c hc
  simpa using this
theorem qu_of {w : List Nat} (h : w.all (fun c => !decide (c = 39)) = true) : M78.Qu w := fun c hc => by
  have := List.all_eq_true.mp h c hc
  simpa using this
theorem sh_qv {w v z : List Nat} (h : w.all (fun c => !decide (c = 39)) = true) (hv : pl_b v = true) (e : z = 39 :: (w ++ 39 :: v)) : M78.Shown z [(w, true), (v, false)] true := by
  subst e
  exact M78.shown_qpl (qu_of h) (pl_of hv)
theorem sh_qq {w v z : List Nat} (h : w.all (fun c => !decide (c = 39)) = true) (hv : v.all (fun c => !decide (c = 39)) = true) (e : z = 39 :: (w ++ 39 :: 39 :: (v ++ [39]))) : M78.Shown z [(w, true), (v, true)] true := by
  subst e
  exact M78.shown_qq (qu_of h) (qu_of hv)
theorem sh_qw {v : List Nat} (hv : M78.Pl v) : M78.Shown (lit "'a'" ++ v) [(lit "a", true), (v, false)] true :=
  M78.shown_qpl (w := lit "a") (qu_of (by decide +kernel)) hv
theorem Row.cons2 {s : List Nat} {w1 w2 : M78.Word} {b sp : Bool} {shs : List (List Nat)} {toks : List M78.Word} (r : Row shs toks sp) (h : M78.Shown s [w1, w2] b) (hs : Sg s) (hl : s.length ≤ 40) (hw1 : w1.1.length ≤ 40) (hw2 : w2.1.length ≤ 40) (hn : shs.length + 1 ≤ 6) (hm : toks.length + 2 ≤ 12) : Row (s :: shs) (w1 :: w2 :: toks) (b || sp) :=
  ⟨M78.RowR.cons h r.row, fun z hz => by
    rcases List.mem_cons.mp hz with rfl | hz
    · exact ⟨hs, hl⟩
    · exact r.sg z hz, fun z hz => by
    rcases List.mem_cons.mp hz with rfl | hz
    · exact hw1
    rcases List.mem_cons.mp hz with rfl | hz
    · exact hw2
    · exact r.tl z hz, hn, hm⟩
theorem row_end2 {s : List Nat} {w1 w2 : M78.Word} {b : Bool} (h : M78.Shown s [w1, w2] b) (hs : Sg s) (hl : s.length ≤ 40) (hw1 : w1.1.length ≤ 40) (hw2 : w2.1.length ≤ 40) : Row [s] [w1, w2] b := by
  have := Row.nil.cons2 h hs hl hw1 hw2 (by decide) (by decide)
  simpa using this
theorem na_of {toks : List M78.Word} {sp : Bool} (h : M78.isAct toks = false) : M78.actL (toks, sp) = none := by
  unfold M78.actL
  rw [h, Bool.and_false]
  rfl
theorem na_form {k : List Nat} {q : Bool} {r : List M78.Word} {sp : Bool} (h : M78.forms k = none) : M78.actL ((k, q) :: r, sp) = none := na_of (by simp [M78.isAct, h])
theorem na_q {k : List Nat} {r : List M78.Word} {sp : Bool} : M78.actL ((k, true) :: r, sp) = none := na_of (by simp [M78.isAct])
theorem na_fit {k : List Nat} {q : Bool} {ks : List M78.Kind} {r : List M78.Word} {sp : Bool} (h : M78.forms k = some ks) (hr : M78.allFit ks r = false) : M78.actL ((k, q) :: r, sp) = none := na_of (by simp [M78.isAct, h, hr])
theorem na_len {k : List Nat} {q : Bool} {ks : List M78.Kind} {r : List M78.Word} {sp : Bool} (h : M78.forms k = some ks) (hr : ks.length ≠ r.length) : M78.actL ((k, q) :: r, sp) = none := na_fit h (allFit_len hr)
theorem na_sp {toks : List M78.Word} : M78.actL (toks, true) = none := by
  unfold M78.actL
  rfl
theorem fw_q {w : List Nat} : M78.fits .word (w, true) = false := rfl
/-! ### a list of wrong rows in the making -/
def BadAt (H0 H : Hp) (v : V) : Prop := ∃ a shs toks sp, v = .ref a ∧ H0 a = none ∧ H a = some (.lst (shs.map strV)) ∧ Row shs toks sp ∧ M78.actL (toks, sp) = none
theorem BadAt.mono {H0 H H1 : Hp} {v : V} (h : BadAt H0 H v) (s : Same H H1) : BadAt H0 H1 v := by
  obtain ⟨a, shs, toks, sp, e, h0, h1, h2⟩ := h
  exact ⟨a, shs, toks, sp, e, h0, s _ _ h1, h2⟩
structure Bs (Pa : Addr) (H0 H : Hp) (r : Addr) (rows : List V) (m : Nat) (vs : List V) : Prop where
  st : Pst Pa H0 H
  at_ : rows ≠ [] → H r = some (.lst rows)
  rws : ∀ v ∈ rows, BadAt H0 H v
  vs : ∀ v ∈ vs, BadAt H0 H v
  len : rows.length = m
theorem cons_new {Pa : Addr} {H0 H : Hp} {r : Addr} {rows : List V} {m : Nat} {vs : List V} {ta1 tr : TA} {σ : L2.St} {R : List V → Hp → Prop} {shs : List (List Nat)} {toks : List M78.Word} {sp : Bool}
    (B : Bs Pa H0 H r rows m vs) (hta : ∀ R' : List V → Hp → Prop, R' (shs.map strV) H → ta1 σ H R') (Rw : Row shs toks sp) (hN : M78.actL (toks, sp) = none)
    (k : ∀ p H', Bs Pa H0 H' r rows m (vs ++ [.ref p]) → tr σ H' (fun xs H2 => R (.ref p :: xs) H2)) : tCons (tLst ta1) tr σ H R := by
  refine hta _ ⟨?_, fun p hp => ?_⟩
  · rw [List.length_map]
    have := Rw.n
    exact sz5 (by omega)
  · have s1 : Same H (upd H p (.lst (shs.map strV))) := Same.new hp
    refine k p _ ⟨B.st.new hp, fun h => s1 _ _ (B.at_ h), fun v hv => (B.rws v hv).mono s1, fun v hv => ?_, B.len⟩
    rcases List.mem_append.mp hv with hv | hv
    · exact (B.vs v hv).mono s1
    · rw [List.mem_singleton.mp hv]
      exact ⟨p, shs, toks, sp, rfl, B.st.free hp, upd_same, Rw, hN⟩
theorem tnil {σ : L2.St} {H : Hp} {X : List V → Hp → Prop} (h : X [] H) : tNil σ H X := h
def LstPost (i : Nat) (u : TS) (D : Ends) (σ : L2.St) (xs : List V) (H1 : Hp) : Prop := xs.length ≤ sizeLine ∧ ∀ p, H1 p = none → u D (σ.set i (some (.ref p))) (upd H1 p (.lst xs))
theorem seq_lst {ta : TA} {e0 e1 e2 e3 e4 e5 e6 e7 : Option V} {u : TS} {D : Ends} {H : Hp} (h : ta [e0, e1, e2, e3, e4, e5, e6, e7] H (LstPost 7 u D [e0, e1, e2, e3, e4, e5, e6, e7])) : tSeq (tAsg (tLst ta) (gName 7)) u D [e0, e1, e2, e3, e4, e5, e6, e7] H := h
theorem lst_end {Pa : Addr} {H0 H : Hp} {r : Addr} {vs : List V} {u : TS} {D : Ends} {e0 e1 e2 e3 e4 e5 e6 e7 : Option V} (B : Bs Pa H0 H r [] 0 vs) (hv : vs.length ≤ 100 ∧ 1 ≤ vs.length) (k : ∀ r rows H', Bs Pa H0 H' r rows vs.length [] → 1 ≤ rows.length → u D [e0, e1, e2, e3, e4, e5, e6, some (.ref r)] H') : LstPost 7 u D [e0, e1, e2, e3, e4, e5, e6, e7] vs H := by
  refine ⟨sz5 (by omega), fun p hp => ?_⟩
  have s1 : Same H (upd H p (.lst vs)) := Same.new hp
  exact k p vs _ ⟨B.st.new hp, fun _ => upd_same, fun v hv => (B.vs v hv).mono s1, fun _ h => (nomatch h), rfl⟩ hv.2
def CatPost (r : Addr) (i : Nat) (u : TS) (D : Ends) (σ : L2.St) (xs : List V) (H1 : Hp) : Prop := xs.length ≤ sizeLine ∧ ∀ p, H1 p = none → rCat (.ref r) (.ref p) (upd H1 p (.lst xs)) fun x H2 => u D (σ.set i (some x)) H2
theorem seq_cat {ta : TA} {r : Addr} {u : TS} {D : Ends} {e0 e1 e2 e3 e4 e5 e6 : Option V} {H : Hp} (h : ta [e0, e1, e2, e3, e4, e5, e6, some (.ref r)] H (CatPost r 7 u D [e0, e1, e2, e3, e4, e5, e6, some (.ref r)])) : tSeq (tAsg (tOp rCat (tVar 7) (tLst ta)) (gName 7)) u D [e0, e1, e2, e3, e4, e5, e6, some (.ref r)] H := ⟨_, rfl, h⟩
theorem cat_end {Pa : Addr} {H0 H : Hp} {r : Addr} {rows vs : List V} {m : Nat} {u : TS} {D : Ends} {e0 e1 e2 e3 e4 e5 e6 e7 : Option V} (B : Bs Pa H0 H r rows m vs) (hv : m + vs.length ≤ 100 ∧ 1 ≤ m) (k : ∀ r rows H', Bs Pa H0 H' r rows (m + vs.length) [] → 1 ≤ rows.length → u D [e0, e1, e2, e3, e4, e5, e6, some (.ref r)] H') : CatPost r 7 u D [e0, e1, e2, e3, e4, e5, e6, e7] vs H := by
  have hl := B.len
  refine ⟨sz5 (by omega), fun p hp => ⟨r, p, rows, vs, rfl, rfl, ?_, upd_same, sz5 (by omega), fun p2 hp2 => ?_⟩⟩
  · exact (Same.new hp) _ _ (B.at_ fun z => by rw [z] at hl; simp at hl; omega)
  · have s1 : Same H (upd H p (.lst vs)) := Same.new hp
    have s2 := s1.trans (Same.new (o := .lst (rows ++ vs)) hp2)
    refine k p2 _ _ ⟨(B.st.new hp).new hp2, fun _ => upd_same, fun v hv => ?_, fun _ h => (nomatch h), by rw [List.length_append, hl]⟩ (by rw [List.length_append]; omega)
    rcases List.mem_append.mp hv with hv | hv
    · exact (B.rws v hv).mono s2
    · exact (B.vs v hv).mono s2
theorem seq_any {Pa : Addr} {H0 H : Hp} {i j : Nat} {u : TS} {D : Ends} {σ : L2.St} (st : Pst Pa H0 H) (h0 : σ[0]? = some (some (.ref Pa))) (k : ∀ sh wd H', Shw sh wd → Pst Pa H0 H' → u D ((σ.set i (some (.str (S sh)))).set j (some (.str (S wd)))) H') :
    tSeq (tAsg (tCall spAny [] E0 (tCons (tVar 0) tNil)) (gTup K 2 (gCons (gName i) (gCons (gName j) gNil)))) u D σ H :=
  ⟨_, h0, Pa, rfl, st.pool, fun t sh wd H1 hw st1 hn e => ⟨t, _, rfl, SqT.of e, rfl, _, _, rfl, _, _, rfl, rfl, k sh wd H1 hw (st.trans st1)⟩⟩
theorem seq_tw {Pa : Addr} {H0 H : Hp} {i j : Nat} {u : TS} {D : Ends} {σ : L2.St} (st : Pst Pa H0 H) (h0 : σ[0]? = some (some (.ref Pa)))
    (k : ∀ g wd H', M78.Pl g → Sg g → g.length ≤ 16 → M78.isTarget g = true → M78.Pl wd → Sg wd → wd.length ≤ 15 → Pst Pa H0 H' → u D ((σ.set i (some (.str (S g)))).set j (some (.str (S wd)))) H') :
    tSeq (tPar i j (tCons (tCall spTarget [] E0 (tCons (tVar 0) tNil)) (tCons (tCall spPlain [] E0 (tCons (tVar 0) tNil)) tNil))) u D σ H :=
  ⟨_, h0, Pa, rfl, st.pool, fun g H1 h1 h2 h3 h4 st1 => ⟨_, h0, Pa, rfl, st1.pool, fun wd H2 h5 h6 h7 st2 => ⟨_, _, rfl, k g wd H2 h1 h2 h3 h4 h5 h6 h7 ((st.trans st1).trans st2)⟩⟩⟩
theorem seq_pk {Pa : Addr} {H0 H : Hp} {i : Nat} {n : Int} {ta : TA} {xs : List V} {u : TS} {D : Ends} {σ : L2.St} (st : Pst Pa H0 H) (h0 : σ[0]? = some (some (.ref Pa))) (hta : ∀ R : List V → Hp → Prop, R xs H → ta σ H R) (hn : n = (xs.length : Int) ∧ 0 < n ∧ n ≤ 100)
    (k : ∀ v ∈ xs, ∀ H', Pst Pa H0 H' → u D (σ.set i (some v)) H') : tSeq (tAsg (tOp (rIxL K) (tLst ta) (tCall spPick [] E0 (tCons (tVar 0) (tCons (tC (.int n)) tNil)))) (gName i)) u D σ H := by
  refine hta _ ⟨sz5 (by omega), fun p hp => ⟨_, h0, Pa, n, rfl, (st.new hp).pool, hn.2.1, fun r H1 h1 h2 st1 => ?_⟩⟩
  obtain ⟨v, ev, hv⟩ := atI_mem (xs := xs) h1 (by omega)
  exact ⟨p, xs, r, v, rfl, rfl, SqL.of (st1.kp p _ (st.ne hp) upd_same), ev, k v hv H1 ((st.new hp).trans st1)⟩
theorem bad_of (v : V) (hv : v ∈ [V.str (Str.ofString "#"), V.str (Str.ofString "selfx"), V.str (Str.ofString "Self"), V.str (Str.ofString "x"), V.str (Str.ofString "'self'"), V.str (Str.ofString "'#a'"), V.str (Str.ofString "sel"), V.str (Str.ofString "-")]) : ∃ z t, v = .str (S z) ∧ M78.Shown z [t] false ∧ M78.fits .target t = false ∧ Sg z ∧ z.length ≤ 40 ∧ t.1.length ≤ 40 := by
  simp only [List.mem_cons, List.not_mem_nil, or_false] at hv
  rcases hv with rfl | rfl | rfl | rfl | rfl | rfl | rfl | rfl
  · exact ⟨_, (lit "#", false), congrArg V.str (lit_eq _), (M78.shown_pl (pl_of (by decide +kernel))), by decide +kernel, by decide +kernel, by decide +kernel, by decide +kernel⟩
  · exact ⟨_, (lit "selfx", false), congrArg V.str (lit_eq _), (M78.shown_pl (pl_of (by decide +kernel))), by decide +kernel, by decide +kernel, by decide +kernel, by decide +kernel⟩
  · exact ⟨_, (lit "Self", false), congrArg V.str (lit_eq _), (M78.shown_pl (pl_of (by decide +kernel))), by decide +kernel, by decide +kernel, by decide +kernel, by decide +kernel⟩
  · exact ⟨_, (lit "x", false), congrArg V.str (lit_eq _), (M78.shown_pl (pl_of (by decide +kernel))), by decide +kernel, by decide +kernel, by decide +kernel, by decide +kernel⟩
  · exact ⟨_, (lit "self", true), congrArg V.str (lit_eq _), (shq (w := lit "self") (by decide +kernel) (by decide +kernel)), by decide +kernel, by decide +kernel, by decide +kernel, by decide +kernel⟩
  · exact ⟨_, (lit "#a", true), congrArg V.str (lit_eq _), (shq (w := lit "#a") (by decide +kernel) (by decide +kernel)), by decide +kernel, by decide +kernel, by decide +kernel, by decide +kernel⟩
  · exact ⟨_, (lit "sel", false), congrArg V.str (lit_eq _), (M78.shown_pl (pl_of (by decide +kernel))), by decide +kernel, by decide +kernel, by decide +kernel, by decide +kernel⟩
  · exact ⟨_, (lit "-", false), congrArg V.str (lit_eq _), (M78.shown_pl (pl_of (by decide +kernel))), by decide +kernel, by decide +kernel, by decide +kernel, by decide +kernel⟩
theorem name_of (v : V) (hv : v ∈ [V.str (Str.ofString "A"), V.str (Str.ofString "9a"), V.str (Str.ofString "-a"), V.str (Str.ofString "abcdefghijk"), V.str (Str.ofString "a_b"), V.str (Str.ofString "'a'"), V.str (Str.ofString "aB"), V.str (Str.ofString "a.b"), V.str (Str.ofString "#a")]) : ∃ z t, v = .str (S z) ∧ M78.Shown z [t] false ∧ M78.fits .name t = false ∧ Sg z ∧ z.length ≤ 40 ∧ t.1.length ≤ 40 := by
  simp only [List.mem_cons, List.not_mem_nil, or_false] at hv
  rcases hv with rfl | rfl | rfl | rfl | rfl | rfl | rfl | rfl | rfl
  · exact ⟨_, (lit "A", false), congrArg V.str (lit_eq _), (M78.shown_pl (pl_of (by decide +kernel))), by decide +kernel, by decide +kernel, by decide +kernel, by decide +kernel⟩
  · exact ⟨_, (lit "9a", false), congrArg V.str (lit_eq _), (M78.shown_pl (pl_of (by decide +kernel))), by decide +kernel, by decide +kernel, by decide +kernel, by decide +kernel⟩
  · exact ⟨_, (lit "-a", false), congrArg V.str (lit_eq _), (M78.shown_pl (pl_of (by decide +kernel))), by decide +kernel, by decide +kernel, by decide +kernel, by decide +kernel⟩
  · exact ⟨_, (lit "abcdefghijk", false), congrArg V.str (lit_eq _), (M78.shown_pl (pl_of (by decide +kernel))), by decide +kernel, by decide +kernel, by decide +kernel, by decide +kernel⟩
  · exact ⟨_, (lit "a_b", false), congrArg V.str (lit_eq _), (M78.shown_pl (pl_of (by decide +kernel))), by decide +kernel, by decide +kernel, by decide +kernel, by decide +kernel⟩
  · exact ⟨_, (lit "a", true), congrArg V.str (lit_eq _), (shq (w := lit "a") (by decide +kernel) (by decide +kernel)), by decide +kernel, by decide +kernel, by decide +kernel, by decide +kernel⟩
  · exact ⟨_, (lit "aB", false), congrArg V.str (lit_eq _), (M78.shown_pl (pl_of (by decide +kernel))), by decide +kernel, by decide +kernel, by decide +kernel, by decide +kernel⟩
  · exact ⟨_, (lit "a.b", false), congrArg V.str (lit_eq _), (M78.shown_pl (pl_of (by decide +kernel))), by decide +kernel, by decide +kernel, by decide +kernel, by decide +kernel⟩
  · exact ⟨_, (lit "#a", false), congrArg V.str (lit_eq _), (M78.shown_pl (pl_of (by decide +kernel))), by decide +kernel, by decide +kernel, by decide +kernel, by decide +kernel⟩
def spWrong : Sp := fun vs H Q _ => ∃ P : Addr, vs = [.ref P] ∧ PoolAt P H ∧ ∀ a shs toks sp H', H' a = some (.lst (shs.map strV)) → Row shs toks sp → M78.actL (toks, sp) = none → Pst P H H' → H a = none → Q (.ref a) H'
set_option maxHeartbeats 4000000 in
theorem okWrong (T : Top K w mg) : Ok P w K mg base CX0 5 "_law_wrong" ["pool"] spWrong := by
  have m_len := T.m_len
  have GLawPick : Ok P w K mg base CX0 1 "_law_pick" ["pool", "many"] spPick := okPick T
  have GLawAny : Ok P w K mg base CX0 4 "_law_any" ["pool"] spAny := okAny T
  have GLawTarget : Ok P w K mg base CX0 4 "_law_target" ["pool"] spTarget := okTarget T
  have GLawPlain : Ok P w K mg base CX0 3 "_law_plain" ["pool"] spPlain := okPlain T
  refine mkOk T.f__law_wrong scLawWrong (fun vs H Q E h => ?_) (fun f cdv A outer s H vs Q E hr h => ?_)
  · obtain ⟨_, rfl, _⟩ := h
    rfl
  · obtain ⟨Pa, rfl, hP, q⟩ := h
    refine ⟨_, pss_cons (ps_asg (pcall GLawAny (hr.mono (by decide)) (by rfl) pass0 (pa_cons (pv 0) pa_nil)) (pg_tup (n := 2) rfl (pgs_cons (pg_name (i := 1) scLawWrong.nd rfl (Or.inl rfl)) (pgs_cons (pg_name (i := 2) scLawWrong.nd rfl (Or.inl rfl)) pgs_nil))))
  (pss_cons (ps_par (i := 3) (j := 4) rfl scLawWrong.nd rfl rfl (by decide) rfl rfl (pa_cons (pcall GLawTarget (hr.mono (by decide)) (by rfl) pass0 (pa_cons (pv 0) pa_nil)) (pa_cons (pcall GLawPlain (hr.mono (by decide)) (by rfl) pass0 (pa_cons (pv 0) pa_nil)) pa_nil)) (by rfl))
  (pss_cons (ps_set (i := 5) scLawWrong.nd rfl (Or.inl rfl) (pe_ix ix_list (pe_lst (pa_cons (pe_str) (pa_cons (pe_str) (pa_cons (pe_str) (pa_cons (pe_str) (pa_cons (pe_str) (pa_cons (pe_str) (pa_cons (pe_str) (pa_cons (pe_str) pa_nil))))))))) (pcall GLawPick (hr.mono (by decide)) (by rfl) pass0 (pa_cons (pv 0) (pa_cons (pe_int) pa_nil))) (fun _ _ => rfl)))
  (pss_cons (ps_set (i := 6) scLawWrong.nd rfl (Or.inl rfl) (pe_ix ix_list (pe_lst (pa_cons (pe_str) (pa_cons (pe_str) (pa_cons (pe_str) (pa_cons (pe_str) (pa_cons (pe_str) (pa_cons (pe_str) (pa_cons (pe_str) (pa_cons (pe_str) (pa_cons (pe_str) pa_nil)))))))))) (pcall GLawPick (hr.mono (by decide)) (by rfl) pass0 (pa_cons (pv 0) (pa_cons (pe_int) pa_nil))) (fun _ _ => rfl)))
  (pss_cons (ps_set (i := 7) scLawWrong.nd rfl (Or.inl rfl) (pe_lst (pa_cons (pe_lst (pa_cons (pe_str) (pa_cons (pv 3) (pa_cons (pv 4) pa_nil)))) (pa_cons (pe_lst (pa_cons (pe_str) (pa_cons (pv 3) (pa_cons (pe_str) (pa_cons (pv 1) pa_nil))))) (pa_cons (pe_lst (pa_cons (pe_str) pa_nil)) (pa_cons (pe_lst (pa_cons (pe_str) pa_nil)) (pa_cons (pe_lst (pa_cons (pe_str) pa_nil)) (pa_cons (pe_lst (pa_cons (pe_str) (pa_cons (pv 3) (pa_cons (pe_str) (pa_cons (pv 1) pa_nil))))) pa_nil))))))))
  (pss_cons (ps_set (i := 7) scLawWrong.nd rfl (Or.inl rfl) (pe_op op_cat (pv 7) (pe_lst (pa_cons (pe_lst (pa_cons (pe_str) (pa_cons (pv 4) pa_nil))) (pa_cons (pe_lst (pa_cons (pe_str) (pa_cons (pe_str) pa_nil))) (pa_cons (pe_lst (pa_cons (pe_str) (pa_cons (pv 3) (pa_cons (pe_str) pa_nil)))) (pa_cons (pe_lst (pa_cons (pe_str) (pa_cons (pv 3) pa_nil))) (pa_cons (pe_lst (pa_cons (pe_str) pa_nil)) (pa_cons (pe_lst (pa_cons (pe_str) (pa_cons (pv 3) (pa_cons (pe_str) (pa_cons (pv 1) (pa_cons (pv 4) pa_nil)))))) pa_nil)))))))))
  (pss_cons (ps_set (i := 7) scLawWrong.nd rfl (Or.inl rfl) (pe_op op_cat (pv 7) (pe_lst (pa_cons (pe_lst (pa_cons (pe_str) (pa_cons (pv 3) pa_nil))) (pa_cons (pe_lst (pa_cons (pe_str) (pa_cons (pv 3) (pa_cons (pv 1) (pa_cons (pv 4) pa_nil))))) (pa_cons (pe_lst (pa_cons (pe_str) (pa_cons (pv 3) (pa_cons (pv 4) (pa_cons (pv 1) pa_nil))))) (pa_cons (pe_lst (pa_cons (pe_str) (pa_cons (pv 3) pa_nil))) (pa_cons (pe_lst (pa_cons (pe_str) (pa_cons (pv 3) (pa_cons (pe_str) (pa_cons (pv 4) pa_nil))))) pa_nil))))))))
  (pss_cons (ps_set (i := 7) scLawWrong.nd rfl (Or.inl rfl) (pe_op op_cat (pv 7) (pe_lst (pa_cons (pe_lst (pa_cons (pe_str) (pa_cons (pv 3) pa_nil))) (pa_cons (pe_lst (pa_cons (pe_str) (pa_cons (pv 3) (pa_cons (pv 4) (pa_cons (pv 4) pa_nil))))) (pa_cons (pe_lst (pa_cons (pe_str) pa_nil)) (pa_cons (pe_lst (pa_cons (pe_str) (pa_cons (pv 3) (pa_cons (pv 4) pa_nil)))) (pa_cons (pe_lst (pa_cons (pe_str) pa_nil)) (pa_cons (pe_lst (pa_cons (pe_str) (pa_cons (pv 4) (pa_cons (pv 4) pa_nil)))) (pa_cons (pe_lst (pa_cons (pe_str) pa_nil)) pa_nil))))))))))
  (pss_cons (ps_set (i := 7) scLawWrong.nd rfl (Or.inl rfl) (pe_op op_cat (pv 7) (pe_lst (pa_cons (pe_lst (pa_cons (pe_str) (pa_cons (pv 5) pa_nil))) (pa_cons (pe_lst (pa_cons (pe_str) (pa_cons (pv 5) pa_nil))) (pa_cons (pe_lst (pa_cons (pe_str) (pa_cons (pv 5) (pa_cons (pv 1) pa_nil)))) (pa_cons (pe_lst (pa_cons (pe_str) (pa_cons (pv 5) (pa_cons (pe_str) (pa_cons (pv 1) pa_nil))))) (pa_cons (pe_lst (pa_cons (pe_str) (pa_cons (pv 5) (pa_cons (pv 4) pa_nil)))) (pa_cons (pe_lst (pa_cons (pe_str) (pa_cons (pv 5) (pa_cons (pe_str) pa_nil)))) pa_nil)))))))))
  (pss_cons (ps_set (i := 7) scLawWrong.nd rfl (Or.inl rfl) (pe_op op_cat (pv 7) (pe_lst (pa_cons (pe_lst (pa_cons (pe_str) (pa_cons (pv 3) (pa_cons (pv 6) (pa_cons (pv 1) pa_nil))))) (pa_cons (pe_lst (pa_cons (pe_str) (pa_cons (pv 3) (pa_cons (pv 6) pa_nil)))) (pa_cons (pe_lst (pa_cons (pe_str) (pa_cons (pe_str) pa_nil))) (pa_cons (pe_lst (pa_cons (pe_str) (pa_cons (pv 3) (pa_cons (pe_str) pa_nil)))) (pa_cons (pe_lst (pa_cons (pe_str) (pa_cons (pv 3) (pa_cons (pe_str) pa_nil)))) pa_nil))))))))
  (pss_cons (ps_set (i := 7) scLawWrong.nd rfl (Or.inl rfl) (pe_op op_cat (pv 7) (pe_lst (pa_cons (pe_lst (pa_cons (pe_str) (pa_cons (pv 3) (pa_cons (pe_op op_add_str (pe_str) (pv 4)) pa_nil)))) (pa_cons (pe_lst (pa_cons (pe_str) (pa_cons (pv 3) (pa_cons (pe_str) pa_nil)))) (pa_cons (pe_lst (pa_cons (pe_str) (pa_cons (pv 3) (pa_cons (pe_str) (pa_cons (pe_op op_add_str (pe_str) (pe_str)) pa_nil))))) (pa_cons (pe_lst (pa_cons (pe_str) (pa_cons (pv 3) (pa_cons (pe_str) (pa_cons (pv 1) pa_nil))))) pa_nil)))))))
  (pss_one (ps_ret (pe_ix ix_list (pv 7) (pcall GLawPick (hr.mono (by decide)) (by rfl) pass0 (pa_cons (pv 0) (pa_cons (pe_callB (call_len_seqK (K := K) rfl) (by rfl) m_len PySem.boot_len (pa_cons (pv 7) pa_nil)) pa_nil))) (fun _ _ => rfl)))))))))))))), ?_⟩
    have qwLen : ∀ {wd : List Nat}, wd.length ≤ 15 → (lit "'a'" ++ wd).length ≤ 40 := fun h => by
      rw [List.length_append]
      have : (lit "'a'").length = 3 := by decide +kernel
      omega
    refine seq_any (Pst.refl hP) rfl fun sh sd H1 hw st => ?_
    obtain ⟨⟨qd, hw1⟩, hw2, hw3, hw4, hw5, hw6⟩ := hw
    refine seq_tw st rfl fun g wd H2 hg1 hg2 hg3 hg4 hd1 hd2 hd3 st => ?_
    have qwSg : Sg (lit "'a'" ++ wd) := fun c hc => by
      rcases List.mem_append.mp hc with hc | hc
      · exact (by decide +kernel : Sg (lit "'a'")) c hc
      · exact hd2 c hc
    have qwLen := qwLen hd3
    refine seq_pk (xs := [V.str (Str.ofString "#"), V.str (Str.ofString "selfx"), V.str (Str.ofString "Self"), V.str (Str.ofString "x"), V.str (Str.ofString "'self'"), V.str (Str.ofString "'#a'"), V.str (Str.ofString "sel"), V.str (Str.ofString "-")]) st rfl (fun R h => h) (by decide) fun v hv H3 st => ?_
    obtain ⟨bz, bt, rfl, hb1, hb2, hb3, hb4, hb5⟩ := bad_of v hv
    refine seq_pk (xs := [V.str (Str.ofString "A"), V.str (Str.ofString "9a"), V.str (Str.ofString "-a"), V.str (Str.ofString "abcdefghijk"), V.str (Str.ofString "a_b"), V.str (Str.ofString "'a'"), V.str (Str.ofString "aB"), V.str (Str.ofString "a.b"), V.str (Str.ofString "#a")]) st rfl (fun R h => h) (by decide) fun v hv H3 st => ?_
    obtain ⟨nz, nt, rfl, hn1, hn2, hn3, hn4, hn5⟩ := name_of v hv
    have B : Bs Pa H H3 0 [] 0 [] := ⟨st, fun z => absurd rfl z, fun _ h => (nomatch h), fun _ h => (nomatch h), rfl⟩
    refine seq_lst ?_
    refine cons_new (shs := [lit "puts", g, wd]) (toks := [(lit "puts", false), (g, false), (wd, false)]) (sp := false) B (fun R' h => ⟨_, rfl, _, rfl, h⟩) (((row_end (M78.shown_pl hd1) hd2 (Nat.le_trans hd3 (by decide)) (Nat.le_trans hd3 (by decide))).cons (M78.shown_pl hg1) hg2 (Nat.le_trans hg3 (by decide)) (Nat.le_trans hg3 (by decide)) (by simp) (by simp)).cons (M78.shown_pl (pl_of (by decide +kernel))) (by decide +kernel) (by decide +kernel) (by decide +kernel) (by simp) (by simp)) (na_form (by decide +kernel)) fun p H1 B => ?_
    refine cons_new (shs := [lit "Set", g, lit "a", sh]) (toks := [(lit "Set", false), (g, false), (lit "a", false), (sd, qd)]) (sp := false) B (fun R' h => ⟨_, rfl, _, rfl, h⟩) ((((row_end hw1 hw2 (Nat.le_trans hw4 (by decide)) (Nat.le_trans hw5 (by decide))).cons (M78.shown_pl (pl_of (by decide +kernel))) (by decide +kernel) (by decide +kernel) (by decide +kernel) (by simp) (by simp)).cons (M78.shown_pl hg1) hg2 (Nat.le_trans hg3 (by decide)) (Nat.le_trans hg3 (by decide)) (by simp) (by simp)).cons (M78.shown_pl (pl_of (by decide +kernel))) (by decide +kernel) (by decide +kernel) (by decide +kernel) (by simp) (by simp)) (na_form (by decide +kernel)) fun p H1 B => ?_
    refine cons_new (shs := [lit "stops"]) (toks := [(lit "stops", false)]) (sp := false) B (fun R' h => h) (row_end (M78.shown_pl (pl_of (by decide +kernel))) (by decide +kernel) (by decide +kernel) (by decide +kernel)) (na_form (by decide +kernel)) fun p H1 B => ?_
    refine cons_new (shs := [lit "self"]) (toks := [(lit "self", false)]) (sp := false) B (fun R' h => h) (row_end (M78.shown_pl (pl_of (by decide +kernel))) (by decide +kernel) (by decide +kernel) (by decide +kernel)) (na_form (by decide +kernel)) fun p H1 B => ?_
    refine cons_new (shs := [lit "'stop'"]) (toks := [(lit "stop", true)]) (sp := false) B (fun R' h => h) (row_end (shq (w := lit "stop") (by decide +kernel) (by decide +kernel)) (by decide +kernel) (by decide +kernel) (by decide +kernel)) (na_q) fun p H1 B => ?_
    refine cons_new (shs := [lit "'set'", g, lit "a", sh]) (toks := [(lit "set", true), (g, false), (lit "a", false), (sd, qd)]) (sp := false) B (fun R' h => ⟨_, rfl, _, rfl, h⟩) ((((row_end hw1 hw2 (Nat.le_trans hw4 (by decide)) (Nat.le_trans hw5 (by decide))).cons (M78.shown_pl (pl_of (by decide +kernel))) (by decide +kernel) (by decide +kernel) (by decide +kernel) (by simp) (by simp)).cons (M78.shown_pl hg1) hg2 (Nat.le_trans hg3 (by decide)) (Nat.le_trans hg3 (by decide)) (by simp) (by simp)).cons (shq (w := lit "set") (by decide +kernel) (by decide +kernel)) (by decide +kernel) (by decide +kernel) (by decide +kernel) (by simp) (by simp)) (na_q) fun p H1 B => ?_
    refine tnil ?_
    refine lst_end B (by simp) fun r rows H1 B hpos => ?_
    refine seq_cat ?_
    refine cons_new (shs := [lit "stop", wd]) (toks := [(lit "stop", false), (wd, false)]) (sp := false) B (fun R' h => ⟨_, rfl, h⟩) ((row_end (M78.shown_pl hd1) hd2 (Nat.le_trans hd3 (by decide)) (Nat.le_trans hd3 (by decide))).cons (M78.shown_pl (pl_of (by decide +kernel))) (by decide +kernel) (by decide +kernel) (by decide +kernel) (by simp) (by simp)) (na_len (ks := []) (by decide +kernel) (by simp)) fun p H1 B => ?_
    refine cons_new (shs := [lit "leave", lit "self"]) (toks := [(lit "leave", false), (lit "self", false)]) (sp := false) B (fun R' h => h) ((row_end (M78.shown_pl (pl_of (by decide +kernel))) (by decide +kernel) (by decide +kernel) (by decide +kernel)).cons (M78.shown_pl (pl_of (by decide +kernel))) (by decide +kernel) (by decide +kernel) (by decide +kernel) (by simp) (by simp)) (na_len (ks := []) (by decide +kernel) (by simp)) fun p H1 B => ?_
    refine cons_new (shs := [lit "set", g, lit "a"]) (toks := [(lit "set", false), (g, false), (lit "a", false)]) (sp := false) B (fun R' h => ⟨_, rfl, h⟩) (((row_end (M78.shown_pl (pl_of (by decide +kernel))) (by decide +kernel) (by decide +kernel) (by decide +kernel)).cons (M78.shown_pl hg1) hg2 (Nat.le_trans hg3 (by decide)) (Nat.le_trans hg3 (by decide)) (by simp) (by simp)).cons (M78.shown_pl (pl_of (by decide +kernel))) (by decide +kernel) (by decide +kernel) (by decide +kernel) (by simp) (by simp)) (na_len (ks := [.target, .name, .any]) (by decide +kernel) (by simp)) fun p H1 B => ?_
    refine cons_new (shs := [lit "set", g]) (toks := [(lit "set", false), (g, false)]) (sp := false) B (fun R' h => ⟨_, rfl, h⟩) ((row_end (M78.shown_pl hg1) hg2 (Nat.le_trans hg3 (by decide)) (Nat.le_trans hg3 (by decide))).cons (M78.shown_pl (pl_of (by decide +kernel))) (by decide +kernel) (by decide +kernel) (by decide +kernel) (by simp) (by simp)) (na_len (ks := [.target, .name, .any]) (by decide +kernel) (by simp)) fun p H1 B => ?_
    refine cons_new (shs := [lit "set"]) (toks := [(lit "set", false)]) (sp := false) B (fun R' h => h) (row_end (M78.shown_pl (pl_of (by decide +kernel))) (by decide +kernel) (by decide +kernel) (by decide +kernel)) (na_len (ks := [.target, .name, .any]) (by decide +kernel) (by simp)) fun p H1 B => ?_
    refine cons_new (shs := [lit "set", g, lit "a", sh, wd]) (toks := [(lit "set", false), (g, false), (lit "a", false), (sd, qd), (wd, false)]) (sp := false) B (fun R' h => ⟨_, rfl, _, rfl, _, rfl, h⟩) (((((row_end (M78.shown_pl hd1) hd2 (Nat.le_trans hd3 (by decide)) (Nat.le_trans hd3 (by decide))).cons hw1 hw2 (Nat.le_trans hw4 (by decide)) (Nat.le_trans hw5 (by decide)) (by simp) (by simp)).cons (M78.shown_pl (pl_of (by decide +kernel))) (by decide +kernel) (by decide +kernel) (by decide +kernel) (by simp) (by simp)).cons (M78.shown_pl hg1) hg2 (Nat.le_trans hg3 (by decide)) (Nat.le_trans hg3 (by decide)) (by simp) (by simp)).cons (M78.shown_pl (pl_of (by decide +kernel))) (by decide +kernel) (by decide +kernel) (by decide +kernel) (by simp) (by simp)) (na_len (ks := [.target, .name, .any]) (by decide +kernel) (by simp)) fun p H1 B => ?_
    refine tnil ?_
    refine cat_end B (by simp) fun r rows H1 B hpos => ?_
    refine seq_cat ?_
    refine cons_new (shs := [lit "say", g]) (toks := [(lit "say", false), (g, false)]) (sp := false) B (fun R' h => ⟨_, rfl, h⟩) ((row_end (M78.shown_pl hg1) hg2 (Nat.le_trans hg3 (by decide)) (Nat.le_trans hg3 (by decide))).cons (M78.shown_pl (pl_of (by decide +kernel))) (by decide +kernel) (by decide +kernel) (by decide +kernel) (by simp) (by simp)) (na_len (ks := [.target, .any]) (by decide +kernel) (by simp)) fun p H1 B => ?_
    refine cons_new (shs := [lit "say", g, sh, wd]) (toks := [(lit "say", false), (g, false), (sd, qd), (wd, false)]) (sp := false) B (fun R' h => ⟨_, rfl, _, rfl, _, rfl, h⟩) ((((row_end (M78.shown_pl hd1) hd2 (Nat.le_trans hd3 (by decide)) (Nat.le_trans hd3 (by decide))).cons hw1 hw2 (Nat.le_trans hw4 (by decide)) (Nat.le_trans hw5 (by decide)) (by simp) (by simp)).cons (M78.shown_pl hg1) hg2 (Nat.le_trans hg3 (by decide)) (Nat.le_trans hg3 (by decide)) (by simp) (by simp)).cons (M78.shown_pl (pl_of (by decide +kernel))) (by decide +kernel) (by decide +kernel) (by decide +kernel) (by simp) (by simp)) (na_len (ks := [.target, .any]) (by decide +kernel) (by simp)) fun p H1 B => ?_
    refine cons_new (shs := [lit "say", g, wd, sh]) (toks := [(lit "say", false), (g, false), (wd, false), (sd, qd)]) (sp := false) B (fun R' h => ⟨_, rfl, _, rfl, _, rfl, h⟩) ((((row_end hw1 hw2 (Nat.le_trans hw4 (by decide)) (Nat.le_trans hw5 (by decide))).cons (M78.shown_pl hd1) hd2 (Nat.le_trans hd3 (by decide)) (Nat.le_trans hd3 (by decide)) (by simp) (by simp)).cons (M78.shown_pl hg1) hg2 (Nat.le_trans hg3 (by decide)) (Nat.le_trans hg3 (by decide)) (by simp) (by simp)).cons (M78.shown_pl (pl_of (by decide +kernel))) (by decide +kernel) (by decide +kernel) (by decide +kernel) (by simp) (by simp)) (na_len (ks := [.target, .any]) (by decide +kernel) (by simp)) fun p H1 B => ?_
    refine cons_new (shs := [lit "drop", g]) (toks := [(lit "drop", false), (g, false)]) (sp := false) B (fun R' h => ⟨_, rfl, h⟩) ((row_end (M78.shown_pl hg1) hg2 (Nat.le_trans hg3 (by decide)) (Nat.le_trans hg3 (by decide))).cons (M78.shown_pl (pl_of (by decide +kernel))) (by decide +kernel) (by decide +kernel) (by decide +kernel) (by simp) (by simp)) (na_len (ks := [.target, .name]) (by decide +kernel) (by simp)) fun p H1 B => ?_
    refine cons_new (shs := [lit "drop", g, lit "a", wd]) (toks := [(lit "drop", false), (g, false), (lit "a", false), (wd, false)]) (sp := false) B (fun R' h => ⟨_, rfl, _, rfl, h⟩) ((((row_end (M78.shown_pl hd1) hd2 (Nat.le_trans hd3 (by decide)) (Nat.le_trans hd3 (by decide))).cons (M78.shown_pl (pl_of (by decide +kernel))) (by decide +kernel) (by decide +kernel) (by decide +kernel) (by simp) (by simp)).cons (M78.shown_pl hg1) hg2 (Nat.le_trans hg3 (by decide)) (Nat.le_trans hg3 (by decide)) (by simp) (by simp)).cons (M78.shown_pl (pl_of (by decide +kernel))) (by decide +kernel) (by decide +kernel) (by decide +kernel) (by simp) (by simp)) (na_len (ks := [.target, .name]) (by decide +kernel) (by simp)) fun p H1 B => ?_
    refine tnil ?_
    refine cat_end B (by simp) fun r rows H1 B hpos => ?_
    refine seq_cat ?_
    refine cons_new (shs := [lit "add", g]) (toks := [(lit "add", false), (g, false)]) (sp := false) B (fun R' h => ⟨_, rfl, h⟩) ((row_end (M78.shown_pl hg1) hg2 (Nat.le_trans hg3 (by decide)) (Nat.le_trans hg3 (by decide))).cons (M78.shown_pl (pl_of (by decide +kernel))) (by decide +kernel) (by decide +kernel) (by decide +kernel) (by simp) (by simp)) (na_len (ks := [.target, .word]) (by decide +kernel) (by simp)) fun p H1 B => ?_
    refine cons_new (shs := [lit "flip", g, wd, wd]) (toks := [(lit "flip", false), (g, false), (wd, false), (wd, false)]) (sp := false) B (fun R' h => ⟨_, rfl, _, rfl, _, rfl, h⟩) ((((row_end (M78.shown_pl hd1) hd2 (Nat.le_trans hd3 (by decide)) (Nat.le_trans hd3 (by decide))).cons (M78.shown_pl hd1) hd2 (Nat.le_trans hd3 (by decide)) (Nat.le_trans hd3 (by decide)) (by simp) (by simp)).cons (M78.shown_pl hg1) hg2 (Nat.le_trans hg3 (by decide)) (Nat.le_trans hg3 (by decide)) (by simp) (by simp)).cons (M78.shown_pl (pl_of (by decide +kernel))) (by decide +kernel) (by decide +kernel) (by decide +kernel) (by simp) (by simp)) (na_len (ks := [.target, .word]) (by decide +kernel) (by simp)) fun p H1 B => ?_
    refine cons_new (shs := [lit "take"]) (toks := [(lit "take", false)]) (sp := false) B (fun R' h => h) (row_end (M78.shown_pl (pl_of (by decide +kernel))) (by decide +kernel) (by decide +kernel) (by decide +kernel)) (na_len (ks := [.target]) (by decide +kernel) (by simp)) fun p H1 B => ?_
    refine cons_new (shs := [lit "take", g, wd]) (toks := [(lit "take", false), (g, false), (wd, false)]) (sp := false) B (fun R' h => ⟨_, rfl, _, rfl, h⟩) (((row_end (M78.shown_pl hd1) hd2 (Nat.le_trans hd3 (by decide)) (Nat.le_trans hd3 (by decide))).cons (M78.shown_pl hg1) hg2 (Nat.le_trans hg3 (by decide)) (Nat.le_trans hg3 (by decide)) (by simp) (by simp)).cons (M78.shown_pl (pl_of (by decide +kernel))) (by decide +kernel) (by decide +kernel) (by decide +kernel) (by simp) (by simp)) (na_len (ks := [.target]) (by decide +kernel) (by simp)) fun p H1 B => ?_
    refine cons_new (shs := [lit "go"]) (toks := [(lit "go", false)]) (sp := false) B (fun R' h => h) (row_end (M78.shown_pl (pl_of (by decide +kernel))) (by decide +kernel) (by decide +kernel) (by decide +kernel)) (na_len (ks := [.word]) (by decide +kernel) (by simp)) fun p H1 B => ?_
    refine cons_new (shs := [lit "go", wd, wd]) (toks := [(lit "go", false), (wd, false), (wd, false)]) (sp := false) B (fun R' h => ⟨_, rfl, _, rfl, h⟩) (((row_end (M78.shown_pl hd1) hd2 (Nat.le_trans hd3 (by decide)) (Nat.le_trans hd3 (by decide))).cons (M78.shown_pl hd1) hd2 (Nat.le_trans hd3 (by decide)) (Nat.le_trans hd3 (by decide)) (by simp) (by simp)).cons (M78.shown_pl (pl_of (by decide +kernel))) (by decide +kernel) (by decide +kernel) (by decide +kernel) (by simp) (by simp)) (na_len (ks := [.word]) (by decide +kernel) (by simp)) fun p H1 B => ?_
    refine cons_new (shs := [lit "focus"]) (toks := [(lit "focus", false)]) (sp := false) B (fun R' h => h) (row_end (M78.shown_pl (pl_of (by decide +kernel))) (by decide +kernel) (by decide +kernel) (by decide +kernel)) (na_len (ks := [.target]) (by decide +kernel) (by simp)) fun p H1 B => ?_
    refine tnil ?_
    refine cat_end B (by simp) fun r rows H1 B hpos => ?_
    refine seq_cat ?_
    refine cons_new (shs := [lit "take", bz]) (toks := [(lit "take", false), bt]) (sp := false) B (fun R' h => ⟨_, rfl, h⟩) ((row_end hb1 hb3 hb4 hb5).cons (M78.shown_pl (pl_of (by decide +kernel))) (by decide +kernel) (by decide +kernel) (by decide +kernel) (by simp) (by simp)) (na_fit (ks := [.target]) (by decide +kernel) (by simp [M78.allFit, hb2, hn2, fw_q])) fun p H1 B => ?_
    refine cons_new (shs := [lit "focus", bz]) (toks := [(lit "focus", false), bt]) (sp := false) B (fun R' h => ⟨_, rfl, h⟩) ((row_end hb1 hb3 hb4 hb5).cons (M78.shown_pl (pl_of (by decide +kernel))) (by decide +kernel) (by decide +kernel) (by decide +kernel) (by simp) (by simp)) (na_fit (ks := [.target]) (by decide +kernel) (by simp [M78.allFit, hb2, hn2, fw_q])) fun p H1 B => ?_
    refine cons_new (shs := [lit "say", bz, sh]) (toks := [(lit "say", false), bt, (sd, qd)]) (sp := false) B (fun R' h => ⟨_, rfl, _, rfl, h⟩) (((row_end hw1 hw2 (Nat.le_trans hw4 (by decide)) (Nat.le_trans hw5 (by decide))).cons hb1 hb3 hb4 hb5 (by simp) (by simp)).cons (M78.shown_pl (pl_of (by decide +kernel))) (by decide +kernel) (by decide +kernel) (by decide +kernel) (by simp) (by simp)) (na_fit (ks := [.target, .any]) (by decide +kernel) (by simp [M78.allFit, hb2, hn2, fw_q])) fun p H1 B => ?_
    refine cons_new (shs := [lit "set", bz, lit "a", sh]) (toks := [(lit "set", false), bt, (lit "a", false), (sd, qd)]) (sp := false) B (fun R' h => ⟨_, rfl, _, rfl, h⟩) ((((row_end hw1 hw2 (Nat.le_trans hw4 (by decide)) (Nat.le_trans hw5 (by decide))).cons (M78.shown_pl (pl_of (by decide +kernel))) (by decide +kernel) (by decide +kernel) (by decide +kernel) (by simp) (by simp)).cons hb1 hb3 hb4 hb5 (by simp) (by simp)).cons (M78.shown_pl (pl_of (by decide +kernel))) (by decide +kernel) (by decide +kernel) (by decide +kernel) (by simp) (by simp)) (na_fit (ks := [.target, .name, .any]) (by decide +kernel) (by simp [M78.allFit, hb2, hn2, fw_q])) fun p H1 B => ?_
    refine cons_new (shs := [lit "cut", bz, wd]) (toks := [(lit "cut", false), bt, (wd, false)]) (sp := false) B (fun R' h => ⟨_, rfl, _, rfl, h⟩) (((row_end (M78.shown_pl hd1) hd2 (Nat.le_trans hd3 (by decide)) (Nat.le_trans hd3 (by decide))).cons hb1 hb3 hb4 hb5 (by simp) (by simp)).cons (M78.shown_pl (pl_of (by decide +kernel))) (by decide +kernel) (by decide +kernel) (by decide +kernel) (by simp) (by simp)) (na_fit (ks := [.target, .word]) (by decide +kernel) (by simp [M78.allFit, hb2, hn2, fw_q])) fun p H1 B => ?_
    refine cons_new (shs := [lit "drop", bz, lit "a"]) (toks := [(lit "drop", false), bt, (lit "a", false)]) (sp := false) B (fun R' h => ⟨_, rfl, h⟩) (((row_end (M78.shown_pl (pl_of (by decide +kernel))) (by decide +kernel) (by decide +kernel) (by decide +kernel)).cons hb1 hb3 hb4 hb5 (by simp) (by simp)).cons (M78.shown_pl (pl_of (by decide +kernel))) (by decide +kernel) (by decide +kernel) (by decide +kernel) (by simp) (by simp)) (na_fit (ks := [.target, .name]) (by decide +kernel) (by simp [M78.allFit, hb2, hn2, fw_q])) fun p H1 B => ?_
    refine tnil ?_
    refine cat_end B (by simp) fun r rows H1 B hpos => ?_
    refine seq_cat ?_
    refine cons_new (shs := [lit "set", g, nz, sh]) (toks := [(lit "set", false), (g, false), nt, (sd, qd)]) (sp := false) B (fun R' h => ⟨_, rfl, _, rfl, _, rfl, h⟩) ((((row_end hw1 hw2 (Nat.le_trans hw4 (by decide)) (Nat.le_trans hw5 (by decide))).cons hn1 hn3 hn4 hn5 (by simp) (by simp)).cons (M78.shown_pl hg1) hg2 (Nat.le_trans hg3 (by decide)) (Nat.le_trans hg3 (by decide)) (by simp) (by simp)).cons (M78.shown_pl (pl_of (by decide +kernel))) (by decide +kernel) (by decide +kernel) (by decide +kernel) (by simp) (by simp)) (na_fit (ks := [.target, .name, .any]) (by decide +kernel) (by simp [M78.allFit, hb2, hn2, fw_q])) fun p H1 B => ?_
    refine cons_new (shs := [lit "drop", g, nz]) (toks := [(lit "drop", false), (g, false), nt]) (sp := false) B (fun R' h => ⟨_, rfl, _, rfl, h⟩) (((row_end hn1 hn3 hn4 hn5).cons (M78.shown_pl hg1) hg2 (Nat.le_trans hg3 (by decide)) (Nat.le_trans hg3 (by decide)) (by simp) (by simp)).cons (M78.shown_pl (pl_of (by decide +kernel))) (by decide +kernel) (by decide +kernel) (by decide +kernel) (by simp) (by simp)) (na_fit (ks := [.target, .name]) (by decide +kernel) (by simp [M78.allFit, hb2, hn2, fw_q])) fun p H1 B => ?_
    refine cons_new (shs := [lit "go", lit "'a'"]) (toks := [(lit "go", false), (lit "a", true)]) (sp := false) B (fun R' h => h) ((row_end (shq (w := lit "a") (by decide +kernel) (by decide +kernel)) (by decide +kernel) (by decide +kernel) (by decide +kernel)).cons (M78.shown_pl (pl_of (by decide +kernel))) (by decide +kernel) (by decide +kernel) (by decide +kernel) (by simp) (by simp)) (na_fit (ks := [.word]) (by decide +kernel) (by simp [M78.allFit, hb2, hn2, fw_q])) fun p H1 B => ?_
    refine cons_new (shs := [lit "add", g, lit "'a'"]) (toks := [(lit "add", false), (g, false), (lit "a", true)]) (sp := false) B (fun R' h => ⟨_, rfl, h⟩) (((row_end (shq (w := lit "a") (by decide +kernel) (by decide +kernel)) (by decide +kernel) (by decide +kernel) (by decide +kernel)).cons (M78.shown_pl hg1) hg2 (Nat.le_trans hg3 (by decide)) (Nat.le_trans hg3 (by decide)) (by simp) (by simp)).cons (M78.shown_pl (pl_of (by decide +kernel))) (by decide +kernel) (by decide +kernel) (by decide +kernel) (by simp) (by simp)) (na_fit (ks := [.target, .word]) (by decide +kernel) (by simp [M78.allFit, hb2, hn2, fw_q])) fun p H1 B => ?_
    refine cons_new (shs := [lit "cut", g, lit "''"]) (toks := [(lit "cut", false), (g, false), (lit "", true)]) (sp := false) B (fun R' h => ⟨_, rfl, h⟩) (((row_end (shq (w := lit "") (by decide +kernel) (by decide +kernel)) (by decide +kernel) (by decide +kernel) (by decide +kernel)).cons (M78.shown_pl hg1) hg2 (Nat.le_trans hg3 (by decide)) (Nat.le_trans hg3 (by decide)) (by simp) (by simp)).cons (M78.shown_pl (pl_of (by decide +kernel))) (by decide +kernel) (by decide +kernel) (by decide +kernel) (by simp) (by simp)) (na_fit (ks := [.target, .word]) (by decide +kernel) (by simp [M78.allFit, hb2, hn2, fw_q])) fun p H1 B => ?_
    refine tnil ?_
    refine cat_end B (by simp) fun r rows H1 B hpos => ?_
    refine seq_cat ?_
    refine cons_new (shs := [lit "say", g, (lit "'a'" ++ wd)]) (toks := [(lit "say", false), (g, false), (lit "a", true), (wd, false)]) (sp := true) B (fun R' h => ⟨_, rfl, _, rfl, _, _, rfl, rfl, qw_len hd3, by rw [lit_eq, S_app]; exact h⟩) (((row_end2 (sh_qw hd1) qwSg qwLen (by decide +kernel) (Nat.le_trans hd3 (by decide))).cons (M78.shown_pl hg1) hg2 (Nat.le_trans hg3 (by decide)) (Nat.le_trans hg3 (by decide)) (by simp) (by simp)).cons (M78.shown_pl (pl_of (by decide +kernel))) (by decide +kernel) (by decide +kernel) (by decide +kernel) (by simp) (by simp)) (na_sp) fun p H1 B => ?_
    refine cons_new (shs := [lit "say", g, lit "'a;'';b'"]) (toks := [(lit "say", false), (g, false), (lit "a;", true), (lit ";b", true)]) (sp := true) B (fun R' h => ⟨_, rfl, h⟩) (((row_end2 (sh_qq (w := lit "a;") (v := lit ";b") (by decide +kernel) (by decide +kernel) (by decide +kernel)) (by decide +kernel) (by decide +kernel) (by decide +kernel) (by decide +kernel)).cons (M78.shown_pl hg1) hg2 (Nat.le_trans hg3 (by decide)) (Nat.le_trans hg3 (by decide)) (by simp) (by simp)).cons (M78.shown_pl (pl_of (by decide +kernel))) (by decide +kernel) (by decide +kernel) (by decide +kernel) (by simp) (by simp)) (na_sp) fun p H1 B => ?_
    refine cons_new (shs := [lit "set", g, lit "a", lit "''x"]) (toks := [(lit "set", false), (g, false), (lit "a", false), (lit "", true), (lit "x", false)]) (sp := true) B (fun R' h => ⟨_, rfl, _, _, rfl, rfl, by decide +kernel, by rw [show (Str.ofString "'" ++ Str.ofString "'x") = S (lit "''x") from id rfl]; exact h⟩) ((((row_end2 (sh_qv (w := lit "") (v := lit "x") (by decide +kernel) (by decide +kernel) (by decide +kernel)) (by decide +kernel) (by decide +kernel) (by decide +kernel) (by decide +kernel)).cons (M78.shown_pl (pl_of (by decide +kernel))) (by decide +kernel) (by decide +kernel) (by decide +kernel) (by simp) (by simp)).cons (M78.shown_pl hg1) hg2 (Nat.le_trans hg3 (by decide)) (Nat.le_trans hg3 (by decide)) (by simp) (by simp)).cons (M78.shown_pl (pl_of (by decide +kernel))) (by decide +kernel) (by decide +kernel) (by decide +kernel) (by simp) (by simp)) (na_sp) fun p H1 B => ?_
    refine cons_new (shs := [lit "set", g, lit "'a'b", sh]) (toks := [(lit "set", false), (g, false), (lit "a", true), (lit "b", false), (sd, qd)]) (sp := true) B (fun R' h => ⟨_, rfl, _, rfl, h⟩) ((((row_end hw1 hw2 (Nat.le_trans hw4 (by decide)) (Nat.le_trans hw5 (by decide))).cons2 (sh_qv (w := lit "a") (v := lit "b") (by decide +kernel) (by decide +kernel) (by decide +kernel)) (by decide +kernel) (by decide +kernel) (by decide +kernel) (by decide +kernel) (by simp) (by simp)).cons (M78.shown_pl hg1) hg2 (Nat.le_trans hg3 (by decide)) (Nat.le_trans hg3 (by decide)) (by simp) (by simp)).cons (M78.shown_pl (pl_of (by decide +kernel))) (by decide +kernel) (by decide +kernel) (by decide +kernel) (by simp) (by simp)) (na_sp) fun p H1 B => ?_
    refine tnil ?_
    refine cat_end B (by simp) fun r rows H1 B hpos => ?_
    have hmem := B.rws
    have hrr := B.at_ (fun z => by subst z; exact absurd hpos (by decide))
    refine ⟨.ref r, rfl, .ref Pa, rfl, .ref r, rfl, r, rows, rfl, .inl (SqL.of hrr), Pa, (rows.length : Int), rfl, B.st.pool, by omega, fun k H4 h0 h1 st4 => ?_⟩
    obtain ⟨v, ev, hv⟩ := atI_mem h0 h1
    obtain ⟨a, shs, toks, sp, rfl, ha0, ha, hR, hN⟩ := hmem v hv
    refine ⟨r, rows, k, _, rfl, rfl, SqL.of (st4.kp r _ (fun z => ?_) hrr), ev, ?_⟩
    · subst z
      obtain ⟨p, l, e, _⟩ := B.st.pool
      rw [hrr] at e
      have e := HO.lst.inj (Option.some.inj e)
      rw [e] at hmem
      obtain ⟨_, _, _, _, e2, _⟩ := hmem _ List.mem_cons_self
      cases e2
    · exact q a shs toks sp H4 (st4.kp a _ (fun z => by subst z; exact hP.ne ha0) ha) hR hN (B.st.trans st4) ha0
end
end K78


namespace K78
open PySem PySem.Spec PyProof.Rows L2 KB
section
variable {P : Program} {w : World} {K : PySem.W.Frag} {mg : Str → Option Value} {base : Heap}
def spSoup : Sp := fun vs H Q _ => ∃ P : Addr, vs = [.ref P] ∧ PoolAt P H ∧ ∀ s H', Sg s → s.length ≤ 400 → Pst P H H' → Q (.str (S s)) H'
theorem okSoup (T : Top K w mg) : Ok P w K mg base CX0 2 "_law_soup" ["pool"] spSoup := by
  have m_len := T.m_len
  have m_range := T.m_range
  have GLawPick : Ok P w K mg base CX0 1 "_law_pick" ["pool", "many"] spPick := okPick T
  refine mkOk T.f__law_soup scLawSoup (fun vs H Q E h => ?_) (fun f cdv A outer s H vs Q E hr h => ?_)
  · obtain ⟨_, rfl, _⟩ := h
    rfl
  · obtain ⟨Pa, rfl, hP, q⟩ := h
    refine ⟨_, pss_cons (ps_set (i := 1) scLawSoup.nd rfl (Or.inr rfl) (pe_lst (pa_cons (pe_str) (pa_cons (pe_str) (pa_cons (pe_str) (pa_cons (pe_str) (pa_cons (pe_str) (pa_cons (pe_str) (pa_cons (pe_str) (pa_cons (pe_str) (pa_cons (pe_str) (pa_cons (pe_str) (pa_cons (pe_str) (pa_cons (pe_str) (pa_cons (pe_str) (pa_cons (pe_str) (pa_cons (pe_str) (pa_cons (pe_str) (pa_cons (pe_str) (pa_cons (pe_str) (pa_cons (pe_str) (pa_cons (pe_str) (pa_cons (pe_str) (pa_cons (pe_str) (pa_cons (pe_str) pa_nil)))))))))))))))))))))))))
  (pss_one (ps_ret (pe_join (pe_str) (pe_lc (own := [("k", 2)]) rfl scLawSoup.nd (pi_range1 rfl m_range (pa_cons (pcall GLawPick (hr.mono (by decide)) (by rfl) pass0 (pa_cons (pv 0) (pa_cons (pe_int) pa_nil))) pa_nil)) (blkOk_by (own := [("k", 2)]) (N := ["pool", "menu", "k"]) (sc := defScope sLawSoup) (by decide +kernel)) (fun _ _ _ _ _ => pg_name (i := 2) scLawSoup.nd rfl (Or.inl rfl)) (fun _ _ _ _ _ => pts_nil) (fun _ _ _ _ _ => pe_ix (ix_listK (K := K) rfl) (pv 1) (pcall GLawPick (hr.mono (by decide)) (by rfl) pass0 (pa_cons (pv 0) (pa_cons (pe_callB (call_len_seqK (K := K) rfl) (by rfl) m_len PySem.boot_len (pa_cons (pv 1) pa_nil)) pa_nil))) (fun _ _ => rfl)))))), ?_⟩
    (try simp only [cx_K, cx_w, rIn, rMulS, CwR.tReplC, tM1, tBM0, rPop, rExtend, rReverse, rLenS, rEqE, rNeE, rSetL, rIntI, rIntB, tBM, rAppend, rIxL, rIxT, rCat, rSlL, rSlS, gTup, tYes, wipe, tSeq, tAsg, tIfS, tRet, tRetN, tDrop, tNext, tBreak, tCont, tNever, tAug, ipI, tPar, tPar3, gName, gCons, gNil, gSub, tVar, tC, tOp, tUn, tIf, tAndV, tOrV, tNotV, tAnd, tOr, tNot, L2.tB, tTest, tCmp, tChain, tCB, tCons, tNil, tCall, tTup, tLst, tSl, tPart, tNoPart, rI, rI0, rU, rEq, rNe, scal_ii, scal_ss, scal_bb, scal_nn, scal_is, scal_si, rIxS, S_len, S_cps, S_inj, L2.start, List.map_cons, List.map_nil, List.cons_append, List.nil_append, List.append_nil, List.getElem?_cons_zero, List.getElem?_cons_succ, List.set_cons_zero, List.set_cons_succ, List.length_cons, List.length_nil, Nat.reduceAdd, Nat.reduceSub, List.replicate_succ, List.replicate_zero, Option.some.injEq, V.int.injEq, V.str.injEq, V.bl.injEq, V.ref.injEq, List.cons.injEq, and_true, true_and, exists_eq_left, exists_eq_left', exists_and_left, exists_eq, exists_eq', decide_eq_true_eq, Bool.not_eq_true', decide_eq_false_iff_not, Bool.false_eq_true, if_false, if_true, reduceIte, ite_self, CMul, CPow, CDiv])
    refine ⟨by decide, fun pm hpm => ?_⟩
    have nm := (Pst.refl hP).ne hpm
    have s1 := (Pst.refl hP).new (o := .lst [V.str (Str.ofString "stop"), V.str (Str.ofString "leave"), V.str (Str.ofString "take"), V.str (Str.ofString "self"), V.str (Str.ofString "say"), V.str (Str.ofString "set"), V.str (Str.ofString "go"), V.str (Str.ofString "#a"), V.str (Str.ofString "#"), V.str (Str.ofString "a"), V.str (Str.ofString "b9"), V.str (Str.ofString "'"), V.str (Str.ofString "'"), V.str (Str.ofString "';"), V.str (Str.ofString ";"), V.str (Str.ofString ";"), V.str (Str.ofString " "), V.str (Str.ofString " "), V.str (Str.ofString " "), V.str (Str.ofString "\n"), V.str (Str.ofString "' "), V.str (Str.ofString "A"), V.str (Str.ofString "''")]) hpm
    refine ⟨.ref Pa, rfl, Pa, 60, rfl, s1.pool, by decide, fun r H1 h0 h1 st => ?_⟩
    obtain ⟨n, rfl⟩ := Int.eq_ofNat_of_zero_le h0
    have em := st.kp pm _ nm upd_same
    refine ⟨(n : Int), rfl, by omega, by omega, fun D hD => lc_range (lo := 0) (n := ((n : Int)).toNat) (fun i H3 => StrsAt Pa H D (fun l => Sg l ∧ l.length ≤ 5) i H3 ∧ H3 pm = some (.lst [V.str (Str.ofString "stop"), V.str (Str.ofString "leave"), V.str (Str.ofString "take"), V.str (Str.ofString "self"), V.str (Str.ofString "say"), V.str (Str.ofString "set"), V.str (Str.ofString "go"), V.str (Str.ofString "#a"), V.str (Str.ofString "#"), V.str (Str.ofString "a"), V.str (Str.ofString "b9"), V.str (Str.ofString "'"), V.str (Str.ofString "'"), V.str (Str.ofString "';"), V.str (Str.ofString ";"), V.str (Str.ofString ";"), V.str (Str.ofString " "), V.str (Str.ofString " "), V.str (Str.ofString " "), V.str (Str.ofString "\n"), V.str (Str.ofString "' "), V.str (Str.ofString "A"), V.str (Str.ofString "''")])) ⟨StrsAt.init (s1.trans st) hD, (Same.new hD) _ _ em⟩ (fun i H3 hi hS => ?_) (fun H3 hS => ?_)⟩
    · obtain ⟨hS, em3⟩ := hS
      refine ⟨rfl, ?_⟩
      (try simp only [cx_K, cx_w, rIn, rMulS, CwR.tReplC, tM1, tBM0, rPop, rExtend, rReverse, rLenS, rEqE, rNeE, rSetL, rIntI, rIntB, tBM, rAppend, rIxL, rIxT, rCat, rSlL, rSlS, gTup, tYes, wipe, tSeq, tAsg, tIfS, tRet, tRetN, tDrop, tNext, tBreak, tCont, tNever, tAug, ipI, tPar, tPar3, gName, gCons, gNil, gSub, tVar, tC, tOp, tUn, tIf, tAndV, tOrV, tNotV, tAnd, tOr, tNot, L2.tB, tTest, tCmp, tChain, tCB, tCons, tNil, tCall, tTup, tLst, tSl, tPart, tNoPart, rI, rI0, rU, rEq, rNe, scal_ii, scal_ss, scal_bb, scal_nn, scal_is, scal_si, rIxS, S_len, S_cps, S_inj, L2.start, List.map_cons, List.map_nil, List.cons_append, List.nil_append, List.append_nil, List.getElem?_cons_zero, List.getElem?_cons_succ, List.set_cons_zero, List.set_cons_succ, List.length_cons, List.length_nil, Nat.reduceAdd, Nat.reduceSub, List.replicate_succ, List.replicate_zero, Option.some.injEq, V.int.injEq, V.str.injEq, V.bl.injEq, V.ref.injEq, List.cons.injEq, and_true, true_and, exists_eq_left, exists_eq_left', exists_and_left, exists_eq, exists_eq', decide_eq_true_eq, Bool.not_eq_true', decide_eq_false_iff_not, Bool.false_eq_true, if_false, if_true, reduceIte, ite_self, CMul, CPow, CDiv])
      refine ⟨_, .inl (SqL.of em3), Pa, 23, rfl, hS.1.pool, by decide, fun r2 H4 h2 h3 st4 => ?_⟩
      obtain ⟨v, ev, hv⟩ := atI_mem (xs := [V.str (Str.ofString "stop"), V.str (Str.ofString "leave"), V.str (Str.ofString "take"), V.str (Str.ofString "self"), V.str (Str.ofString "say"), V.str (Str.ofString "set"), V.str (Str.ofString "go"), V.str (Str.ofString "#a"), V.str (Str.ofString "#"), V.str (Str.ofString "a"), V.str (Str.ofString "b9"), V.str (Str.ofString "'"), V.str (Str.ofString "'"), V.str (Str.ofString "';"), V.str (Str.ofString ";"), V.str (Str.ofString ";"), V.str (Str.ofString " "), V.str (Str.ofString " "), V.str (Str.ofString " "), V.str (Str.ofString "\n"), V.str (Str.ofString "' "), V.str (Str.ofString "A"), V.str (Str.ofString "''")]) h2 h3
      have hz : ∃ z, v = .str (S z) ∧ Sg z ∧ z.length ≤ 5 := by
        simp only [List.mem_cons, List.not_mem_nil, or_false] at hv
        rcases hv with rfl | rfl | rfl | rfl | rfl | rfl | rfl | rfl | rfl | rfl | rfl | rfl | rfl | rfl | rfl | rfl | rfl | rfl | rfl | rfl | rfl | rfl | rfl <;> exact ⟨_, congrArg V.str (lit_eq _), by decide +kernel, by decide +kernel⟩
      obtain ⟨z, rfl, hz⟩ := hz
      have em4 := st4.kp pm _ nm em3
      refine ⟨_, r2, rfl, SqL.of em4, _, ev, ?_⟩
      obtain ⟨acc, e1, e2, e3⟩ := hS.snoc st4 (by omega) hz
      refine ⟨acc, e1, e2, e3, ?_⟩
      have : pm ≠ D := fun z => by
        subst z
        obtain ⟨_, _, _, ls, e, _⟩ := hS
        rw [em3] at e
        rw [hD] at em
        cases em
      rw [upd_ne this]
      exact em4
    · obtain ⟨st3, hD3, nD, ls, eD, hl, hφ⟩ := hS.1
      refine ⟨D, rfl, ls.map S, .inl (by rw [← strs_map]; exact SqL.of eD), ?_⟩
      have h1 : ∀ l ∈ ls, l.length ≤ 5 := fun l hl => (hφ l hl).2
      have h2 := flatten_le h1
      have h3 := sum_le h1
      have eE : Str.ofString "" = S [] := id rfl
      rw [eE, join_S, joinL_nil, S_len, List.length_map, List.length_nil]
      refine ⟨by omega, q _ _ (fun c hc => ?_) (by omega) st3⟩
      obtain ⟨l, hl, hcl⟩ := List.mem_flatten.mp hc
      exact (hφ l hl).1 c hcl
theorem act_good {toks : List M78.Word} (h : M78.isAct toks = true) : M78.actL (toks, false) = some (toks.map (·.1)) := by
  show (if !false && M78.isAct toks then _ else _) = _
  rw [h]
  rfl
structure MInv (Pa : Addr) (H H1 : Hp) (p d : Addr) (ps : List (List Nat)) (rs rs2 : List (List M78.Word × Bool)) (ds : List V) (k : Nat) : Prop where
  st : Pst Pa H H1
  hp : H p = none
  hd : H d = none
  np : p ≠ Pa
  nd : d ≠ Pa
  ne : p ≠ d
  ep : H1 p = some (.lst (ps.map strV))
  ed : H1 d = some (.lst ds)
  pr : M78.PartsR ps rs
  rd : Reps (hide [p, d] (since H H1)) ((rs2.filterMap M78.actL).map strsD) ds
  n : ps.length ≤ k
  m : ds.length ≤ k + 1
  sg : ∀ s ∈ ps, Sg s ∧ s.length ≤ 400
theorem hs_pst {Pa : Addr} {H H1 H2 : Hp} {l : List Addr} (h0 : H Pa ≠ none) (h : Pst Pa H1 H2) : Same (hide l (since H H1)) (hide l (since H H2)) := (h.since h0).hide
theorem hs_upd {H H1 : Hp} {l : List Addr} {p : Addr} {o : HO} (h : p ∈ l) : Same (hide l (since H H1)) (hide l (since H (upd H1 p o))) := fun b x e => by
  obtain ⟨e1, e2⟩ := hide_some.mp e
  obtain ⟨e3, e4⟩ := since_some.mp e2
  refine hide_some.mpr ⟨e1, since_some.mpr ⟨e3, ?_⟩⟩
  rw [upd_ne (fun z : b = p => e1 (by rw [z]; exact h))]
  exact e4
theorem MInv.move {Pa : Addr} {H H1 H2 : Hp} {p d : Addr} {ps : List (List Nat)} {rs rs2 : List (List M78.Word × Bool)} {ds : List V} {k : Nat} (h : MInv Pa H H1 p d ps rs rs2 ds k) (h0 : H Pa ≠ none) (s : Pst Pa H1 H2) : MInv Pa H H2 p d ps rs rs2 ds k :=
  ⟨h.st.trans s, h.hp, h.hd, h.np, h.nd, h.ne, s.kp _ _ h.np h.ep, s.kp _ _ h.nd h.ed, h.pr, h.rd.mono (hs_pst h0 s), h.n, h.m, h.sg⟩
theorem MInv.none {Pa : Addr} {H H1 : Hp} {p d : Addr} {ps : List (List Nat)} {rs rs2 : List (List M78.Word × Bool)} {ds : List V} {k : Nat} (h : MInv Pa H H1 p d ps rs rs2 ds k) {r : List M78.Word × Bool} (hr : M78.actL r = .none) : MInv Pa H H1 p d ps rs (rs2 ++ [r]) ds k :=
  ⟨h.st, h.hp, h.hd, h.np, h.nd, h.ne, h.ep, h.ed, h.pr, by
    rw [List.filterMap_append, List.filterMap_cons, hr]
    simpa using h.rd, h.n, h.m, h.sg⟩
theorem MInv.due {Pa : Addr} {H H1 : Hp} {p d : Addr} {ps : List (List Nat)} {rs rs2 : List (List M78.Word × Bool)} {ds : List V} {k : Nat} (h : MInv Pa H H1 p d ps rs rs2 ds k) {r : List M78.Word × Bool} {z : List (List Nat)} {b : Addr} (hr : M78.actL r = some z) (hb : H b = .none) (hbp : b ≠ p) (hbd : b ≠ d) (eb : H1 b = some (.tup (z.map strV))) (hm : ds.length ≤ k) :
    MInv Pa H (upd H1 d (.lst (ds ++ [.ref b]))) p d ps rs (rs2 ++ [r]) (ds ++ [.ref b]) k :=
  ⟨h.st.mut h.hd h.nd, h.hp, h.hd, h.np, h.nd, h.ne, by rw [upd_ne h.ne]; exact h.ep, upd_same, h.pr, by
    rw [List.filterMap_append, List.filterMap_cons, hr, List.filterMap_nil, List.map_append]
    refine (h.rd.mono (hs_upd (by simp))).snoc ⟨b, _, rfl, hide_some.mpr ⟨by simp [hbp, hbd], since_some.mpr ⟨hb, ?_⟩⟩, reps_strs⟩
    rw [upd_ne hbd]
    exact eb, h.n, by rw [List.length_append, List.length_singleton]; omega, h.sg⟩
theorem MInv.part {Pa : Addr} {H H1 : Hp} {p d : Addr} {ps : List (List Nat)} {rs rs2 : List (List M78.Word × Bool)} {ds : List V} {k : Nat} (h : MInv Pa H H1 p d ps rs rs2 ds k) {x : List Nat} {r : List M78.Word × Bool} (hx : M78.PartIs x r) (hs : Sg x ∧ x.length ≤ 400) :
    MInv Pa H (upd H1 p (.lst (ps.map strV ++ [.str (S x)]))) p d (ps ++ [x]) (rs ++ [r]) rs2 ds (k + 1) :=
  ⟨h.st.mut h.hp h.np, h.hp, h.hd, h.np, h.nd, h.ne, by rw [upd_same, List.map_append]; rfl, by rw [upd_ne h.ne.symm]; exact h.ed, h.pr.snoc hx, h.rd.mono (hs_upd (by simp)), by rw [List.length_append, List.length_singleton]; have := h.n; omega, by have := h.m; omega, fun s hs' => by
    rcases List.mem_append.mp hs' with z | z
    · exact h.sg s z
    · rw [List.mem_singleton.mp z]
      exact hs⟩
/-- the words of a part so far -/
def TxtAt (shs : List (List Nat)) (toks : List M78.Word) (sp : Bool) (j : Nat) (x : List Nat) : Prop := ∃ t1 t2 s1 s2, M78.Pre x t1 s1 ∧ (j = 0 → M78.Bl x ∧ t1 = [] ∧ s1 = false) ∧ M78.RowR (shs.drop j) t2 s2 ∧ t1 ++ t2 = toks ∧ (s1 || s2) = sp ∧ Sg x ∧ x.length ≤ 3 + 43 * j
theorem bl_sg {x : List Nat} (h : M78.Bl x) : Sg x := fun c hc => by
  have := h c hc
  unfold M78.isBl at this
  unfold told
  simp only [Bool.or_eq_true, beq_iff_eq] at this
  rcases this with rfl | rfl <;> decide
theorem TxtAt.step {shs : List (List Nat)} {toks : List M78.Word} {sp : Bool} {j : Nat} {x g s : List Nat} (h : TxtAt shs toks sp j x) (hs : shs[j]? = some s) (hg : M78.Bl g) (hl : g.length ≤ 3) (hn : 0 < j → g ≠ []) (h0 : j = 0 → g = []) (hsg : Sg s ∧ s.length ≤ 40) : TxtAt shs toks sp (j + 1) (x ++ g ++ s) := by
  obtain ⟨t1, t2, s1, s2, a1, a2, a3, a4, a5, a6, a7⟩ := h
  have hlt : j < shs.length := (List.getElem?_eq_some_iff.mp hs).1
  have hse : shs[j] = s := (List.getElem?_eq_some_iff.mp hs).2
  rw [List.drop_eq_getElem_cons hlt, hse] at a3
  cases a3 with
  | @cons _ t ts b bs _ hsh hrow =>
    refine ⟨t1 ++ t, ts, s1 || b, bs, ?_, fun z => absurd z (Nat.succ_ne_zero j), hrow, by rw [List.append_assoc]; exact a4, by rw [← a5, Bool.or_assoc], fun c hc => ?_, ?_⟩
    · by_cases hj : j = 0
      · obtain ⟨b1, b2, b3⟩ := a2 hj
        rw [h0 hj, List.append_nil, b2, b3, List.nil_append, Bool.false_or]
        exact M78.pre_first b1 hsh
      · exact M78.pre_next a1 hg (hn (by omega)) hsh
    · rcases List.mem_append.mp hc with hc | hc
      · rcases List.mem_append.mp hc with hc | hc
        · exact a6 c hc
        · exact bl_sg hg c hc
      · exact hsg.1 c hc
    · rw [List.length_append, List.length_append]
      omega
theorem made_branch {TAIL : TS} {D : Ends} {Pa : Addr} {H H2 : Hp} {p d : Addr} {ps : List (List Nat)} {rs : List (List M78.Word × Bool)} {ds : List V} {k : Nat} {e3 e4 e5 e6 e7 e8 : Option V} (hPn : H Pa ≠ none)
    (I : MInv Pa H H2 p d ps rs rs ds k) (hdk : ds.length ≤ k) (hk31 : k ≤ 31)
    (go : ∀ (a : Addr) (e4 e6 : Option V) (shs : List (List Nat)) (toks : List M78.Word) (sp : Bool) (ds' : List V) (H4 : Hp), H4 a = some (.lst (shs.map strV)) → a ≠ p → a ≠ d → a ≠ Pa → Row shs toks sp → MInv Pa H H4 p d ps rs (rs ++ [(toks, sp)]) ds' k → ds'.length ≤ k + 1 →
      TAIL D [some (.ref Pa), some (.ref p), some (.ref d), e3, e4, some (.ref a), e6, e7, e8] H4) :
    tSeq (tPar 4 5 (tCons (tCall spPick [] E0 (tCons (tVar 0) (tCons (tC (V.int 8)) tNil))) (tCons (tLst tNil) tNil)))
      (tSeq (tIfS (tTest (tOp (rI0 fun i j => V.bl (decide (i < j))) (tVar 4) (tC (V.int 5))))
          (tSeq (tAsg (tCall spGood [] E0 (tCons (tVar 0) tNil)) (gTup K 2 (gCons (gName 5) (gCons (gName 6) gNil)))) (tDrop (tBM K "list" rAppend (tVar 2) (tCons (tVar 6) tNil))))
          (tIfS (tTest (tOp (rI0 fun i j => V.bl (decide (i < j))) (tVar 4) (tC (V.int 7)))) (tAsg (tCall spWrong [] E0 (tCons (tVar 0) tNil)) (gName 5)) tNext)) TAIL)
      D [some (.ref Pa), some (.ref p), some (.ref d), e3, e4, e5, e6, e7, e8] H2 := by
  (try simp only [cx_K, cx_w, rIn, rMulS, CwR.tReplC, tM1, tBM0, rPop, rExtend, rReverse, rLenS, rEqE, rNeE, rSetL, rIntI, rIntB, tBM, rAppend, rIxL, rIxT, rCat, rSlL, rSlS, gTup, tYes, wipe, tSeq, tAsg, tIfS, tRet, tRetN, tDrop, tNext, tBreak, tCont, tNever, tAug, ipI, tPar, tPar3, gName, gCons, gNil, gSub, tVar, tC, tOp, tUn, tIf, tAndV, tOrV, tNotV, tAnd, tOr, tNot, L2.tB, tTest, tCmp, tChain, tCB, tCons, tNil, tCall, tTup, tLst, tSl, tPart, tNoPart, rI, rI0, rU, rEq, rNe, scal_ii, scal_ss, scal_bb, scal_nn, scal_is, scal_si, rIxS, S_len, S_cps, S_inj, L2.start, List.map_cons, List.map_nil, List.cons_append, List.nil_append, List.append_nil, List.getElem?_cons_zero, List.getElem?_cons_succ, List.set_cons_zero, List.set_cons_succ, List.length_cons, List.length_nil, Nat.reduceAdd, Nat.reduceSub, List.replicate_succ, List.replicate_zero, Option.some.injEq, V.int.injEq, V.str.injEq, V.bl.injEq, V.ref.injEq, List.cons.injEq, and_true, true_and, exists_eq_left, exists_eq_left', exists_and_left, exists_eq, exists_eq', decide_eq_true_eq, Bool.not_eq_true', decide_eq_false_iff_not, Bool.false_eq_true, if_false, if_true, reduceIte, ite_self, CMul, CPow, CDiv])
  refine ⟨Pa, 8, rfl, I.st.pool, by decide, fun kd H3 k0 k1 st3 => ⟨by decide, fun w0 hw0 => ⟨_, _, ⟨rfl, rfl⟩, kd, rfl, ?_⟩⟩⟩
  have J := I.move hPn st3
  have sw := (Pst.refl J.st.pool).new (o := .lst []) hw0
  have I3 := J.move hPn sw
  have nwp : w0 ≠ p := fun z => by
    subst z
    rw [J.ep] at hw0
    cases hw0
  have nwd : w0 ≠ d := fun z => by
    subst z
    rw [J.ed] at hw0
    cases hw0
  have fresh : ∀ {a : Addr}, upd H3 w0 (.lst []) a = none → a ≠ p ∧ a ≠ d ∧ a ≠ Pa := fun {a} ha => by
    refine ⟨fun z => ?_, fun z => ?_, I3.st.ne ha⟩
    · subst z
      rw [I3.ep] at ha
      cases ha
    · subst z
      rw [I3.ed] at ha
      cases ha
  refine ite2 (fun _ => ?_) (fun _ => ⟨kd, rfl, ?_⟩)
  · refine ⟨Pa, rfl, I3.st.pool, fun t a b shs toks H4 et ea eb hR hA hne st4 ht ha hb => ?_⟩
    have I4 := I3.move hPn st4
    obtain ⟨na1, na2, na3⟩ := fresh ha
    obtain ⟨nb1, nb2, nb3⟩ := fresh hb
    refine ⟨t, rfl, _, SqT.of et, rfl, _, _, rfl, _, _, rfl, rfl, .inl ⟨rfl, _, SqL.of I4.ed⟩, ds, I4.ed, sz5' (by omega), ?_⟩
    refine go a _ _ shs toks false (ds ++ [.ref b]) _ (by rw [upd_ne na2]; exact ea) na1 na2 na3 hR (I4.due (act_good hA) (I3.st.free hb) nb1 nb2 eb hdk) (by rw [List.length_append, List.length_singleton]; omega)
  · refine ite2 (fun _ => ?_) (fun _ => ?_)
    · refine ⟨Pa, rfl, I3.st.pool, fun a shs toks sp H4 ea hR hN st4 ha => ?_⟩
      obtain ⟨na1, na2, na3⟩ := fresh ha
      exact go a _ _ shs toks sp ds _ ea na1 na2 na3 hR ((I3.move hPn st4).none hN) (by omega)
    · exact go w0 _ _ [] [] false ds _ upd_same nwp nwd (J.st.ne hw0) Row.nil (I3.none (r := ([], false)) rfl) (by omega)
theorem tail_of (v : V) (hv : v ∈ [V.str (Str.ofString "say self 'a;stop;"), V.str (Str.ofString "'stop;leave"), V.str (Str.ofString "stop '"), V.str (Str.ofString "take self;go 'b;leave; stop")]) : ∃ z rt, v = .str (S z) ∧ (M78.lrun [] false .out (z ++ [59])).filterMap M78.actL = rt ∧ Sg z ∧ z.length ≤ 400 ∧
    ((cutS (S z) none (some 4) = Str.ofString "take" ∧ rt = [[M78.w_take, M78.w_self]]) ∨ (cutS (S z) none (some 4) ≠ Str.ofString "take" ∧ rt = [])) := by
  simp only [List.mem_cons, List.not_mem_nil, or_false] at hv
  rcases hv with rfl | rfl | rfl | rfl
  · exact ⟨_, [], congrArg V.str (lit_eq _), by decide +kernel, by decide +kernel, by decide +kernel, .inr ⟨by decide +kernel, rfl⟩⟩
  · exact ⟨_, [], congrArg V.str (lit_eq _), by decide +kernel, by decide +kernel, by decide +kernel, .inr ⟨by decide +kernel, rfl⟩⟩
  · exact ⟨_, [], congrArg V.str (lit_eq _), by decide +kernel, by decide +kernel, by decide +kernel, .inr ⟨by decide +kernel, rfl⟩⟩
  · exact ⟨_, [[M78.w_take, M78.w_self]], congrArg V.str (lit_eq _), by decide +kernel, by decide +kernel, by decide +kernel, .inl ⟨by decide +kernel, rfl⟩⟩
theorem join_len {n : Nat} : ∀ ls : List (List Nat), (∀ s ∈ ls, s.length ≤ n) → (M78.joinS ls).length ≤ ls.length * (n + 1)
  | [], _ => by simp [M78.joinS]
  | [x], h => by
    have := h x (by simp)
    simp only [M78.joinS, List.length_singleton]
    omega
  | x :: y :: r, h => by
    have h1 := h x (by simp)
    have h2 := join_len (y :: r) fun s hs => h s (List.mem_cons_of_mem _ hs)
    simp only [M78.joinS, List.length_append, List.length_cons] at h2 ⊢
    rw [Nat.add_mul (r.length + 1) 1]
    omega
theorem join_sg : ∀ ls : List (List Nat), (∀ s ∈ ls, Sg s) → Sg (M78.joinS ls)
  | [], _ => fun _ h => (nomatch h)
  | [x], h => h x (by simp)
  | x :: y :: r, h => fun c hc => by
    have hc : c ∈ x ++ 59 :: M78.joinS (y :: r) := hc
    rcases List.mem_append.mp hc with hc | hc
    · exact h x (by simp) c hc
    · rcases List.mem_cons.mp hc with rfl | hc
      · decide
      · exact join_sg (y :: r) (fun s hs => h s (List.mem_cons_of_mem _ hs)) c hc
theorem made_end {Pa : Addr} {H H1 : Hp} {p d : Addr} {ps' : List (List Nat)} {ds : List V} {acts : List (List (List Nat))} {Q : VK} (st : Pst Pa H H1) (hd : H d = none) (ep : H1 p = some (.lst (ps'.map strV))) (ed : H1 d = some (.lst ds))
    (hds : Reps (hide [p, d] (since H H1)) (acts.map strsD) ds) (hA : M78.actsL (M78.joinS ps') = acts) (hs : ∀ s ∈ ps', Sg s ∧ s.length ≤ 400) (hn : ps'.length ≤ 100)
    (q : ∀ t b text H', Pst Pa H H' → H t = none → H' t = some (.tup [.str (S text), .ref b]) → Rep (since H H') (actsD (M78.acts text)) (.ref b) → Sg text → text.length ≤ 100000 → Q (.ref t) H') :
    ∃ x : List Str, (SqL K H1 p (x.map V.str) ∨ SqT K H1 p (x.map V.str)) ∧ (x.map fun x => x.length).sum + x.length * (Str.ofString ";").length ≤ 16777216 ∧ 2 ≤ sizeLine ∧
      ∀ t, H1 t = none → Q (.ref t) (upd H1 t (.tup [.str (Txt.join (Str.ofString ";") x), .ref d])) := by
  have hl : ∀ l ∈ ps', l.length ≤ 400 := fun l h => (hs l h).2
  have h3 := sum_le hl
  have hj := join_len ps' hl
  refine ⟨ps'.map S, .inl ?_, ?_, by decide, fun t ht => ?_⟩
  · rw [← strs_map]
    exact SqL.of ep
  · rw [List.length_map, show (Str.ofString ";").length = 1 from rfl]
    omega
  · rw [c_semi, join_S, joinL_semi]
    have ntd : d ≠ t := fun z => by
      subst z
      rw [ed] at ht
      cases ht
    refine q t d _ _ (st.new ht) (st.free ht) upd_same ?_ (join_sg _ fun s h => (hs s h).1) (by omega)
    rw [M78.acts_eq, hA]
    refine ⟨d, ds, rfl, since_some.mpr ⟨hd, ?_⟩, (hds.mono hide_sub).mono (since_right (Same.new ht))⟩
    rw [upd_ne ntd]
    exact ed
def spMade : Sp := fun vs H Q _ => ∃ P : Addr, vs = [.ref P] ∧ PoolAt P H ∧ ∀ t b text H', Pst P H H' → H t = none → H' t = some (.tup [.str (S text), .ref b]) → Rep (since H H') (actsD (M78.acts text)) (.ref b) → Sg text → text.length ≤ 100000 → Q (.ref t) H'
theorem okMade (T : Top K w mg) : Ok P w K mg base CX0 6 "_law_made" ["pool"] spMade := by
  have m_len := T.m_len
  have m_int := T.m_int
  have m_range := T.m_range
  have GLawPick : Ok P w K mg base CX0 1 "_law_pick" ["pool", "many"] spPick := okPick T
  have GLawGap : Ok P w K mg base CX0 2 "_law_gap" ["pool"] spGap := okGap T
  have GLawEnds : Ok P w K mg base CX0 2 "_law_ends" ["pool"] spEnds := okEnds T
  have GLawGood : Ok P w K mg base CX0 5 "_law_good" ["pool"] spGood := okGood T
  have GLawWrong : Ok P w K mg base CX0 5 "_law_wrong" ["pool"] spWrong := okWrong T
  refine mkOk T.f__law_made scLawMade (fun vs H Q E h => ?_) (fun f cdv A outer s H vs Q E hr h => ?_)
  · obtain ⟨_, rfl, _⟩ := h
    rfl
  · obtain ⟨Pa, rfl, hP, q⟩ := h
    refine ⟨_, pss_cons (ps_par (i := 1) (j := 2) rfl scLawMade.nd rfl rfl (by decide) rfl rfl (pa_cons (pe_lst (pa_nil)) (pa_cons (pe_lst (pa_nil)) pa_nil)) (by rfl))
  (pss_cons (ps_for PassesOwn.never rfl (pi_range1 rfl m_range (pa_cons (pcall GLawPick (hr.mono (by decide)) (by rfl) pass0 (pa_cons (pv 0) (pa_cons (pe_int) pa_nil))) pa_nil)) (pg_name (i := 3) scLawMade.nd rfl (Or.inl rfl))
  (pss_cons (ps_par (i := 4) (j := 5) rfl scLawMade.nd rfl rfl (by decide) rfl rfl (pa_cons (pcall GLawPick (hr.mono (by decide)) (by rfl) pass0 (pa_cons (pv 0) (pa_cons (pe_int) pa_nil))) (pa_cons (pe_lst (pa_nil)) pa_nil)) (by rfl))
  (pss_cons (ps_if (pt_cmpR op_lt (pv 4) (pe_int) (nomark _))
  (pss_cons (ps_asg (pcall GLawGood (hr.mono (by decide)) (by rfl) pass0 (pa_cons (pv 0) pa_nil)) (pg_tup (n := 2) rfl (pgs_cons (pg_name (i := 5) scLawMade.nd rfl (Or.inl rfl)) (pgs_cons (pg_name (i := 6) scLawMade.nd rfl (Or.inl rfl)) pgs_nil))))
  (pss_one (ps_expr (pe_bm PySem.F.plainAttrs_list PySem.F.slot_list_append PySem.F.type_list_append mt_append (pv 2) (pa_cons (pv 6) pa_nil)))))
  (pss_one (ps_if (pt_cmpR op_lt (pv 4) (pe_int) (nomark _))
  (pss_one (ps_set (i := 5) scLawMade.nd rfl (Or.inl rfl) (pcall GLawWrong (hr.mono (by decide)) (by rfl) pass0 (pa_cons (pv 0) pa_nil))))
  (pss_nil))))
  (pss_cons (ps_set (i := 7) scLawMade.nd rfl (Or.inl rfl) (pcall GLawEnds (hr.mono (by decide)) (by rfl) pass0 (pa_cons (pv 0) pa_nil)))
  (pss_cons (ps_for PassesOwn.never rfl (pi_range1 rfl m_range (pa_cons (pe_callB (call_len_seqK (K := K) rfl) (by rfl) m_len PySem.boot_len (pa_cons (pv 5) pa_nil)) pa_nil)) (pg_name (i := 8) scLawMade.nd rfl (Or.inl rfl))
  (pss_one (ps_set (i := 7) scLawMade.nd rfl (Or.inl rfl) (pe_op op_add_str (pe_op op_add_str (pv 7) (pe_ix ix_list (pe_lst (pa_cons (pe_str) (pa_cons (pcall GLawGap (hr.mono (by decide)) (by rfl) pass0 (pa_cons (pv 0) pa_nil)) pa_nil))) (pe_callTy call_intB (by rfl) m_int (by decide +kernel) (pa_cons (pe_cmpR op_gt (pv 8) (pe_int) (nomark _)) pa_nil)) (fun _ _ => rfl))) (pe_ix ix_list (pv 5) (pv 8) (fun _ _ => rfl))))))
  (pss_one (ps_expr (pe_bm PySem.F.plainAttrs_list PySem.F.slot_list_append PySem.F.type_list_append mt_append (pv 1) (pa_cons (pe_op op_add_str (pv 7) (pcall GLawEnds (hr.mono (by decide)) (by rfl) pass0 (pa_cons (pv 0) pa_nil))) pa_nil)))))))))
  (pss_cons (ps_if (pt_cmpR op_eq (pcall GLawPick (hr.mono (by decide)) (by rfl) pass0 (pa_cons (pv 0) (pa_cons (pe_int) pa_nil))) (pe_int) (nomark _))
  (pss_cons (ps_expr (pe_bm PySem.F.plainAttrs_list PySem.F.slot_list_append PySem.F.type_list_append mt_append (pv 1) (pa_cons (pe_ix ix_list (pe_lst (pa_cons (pe_str) (pa_cons (pe_str) (pa_cons (pe_str) (pa_cons (pe_str) pa_nil))))) (pcall GLawPick (hr.mono (by decide)) (by rfl) pass0 (pa_cons (pv 0) (pa_cons (pe_int) pa_nil))) (fun _ _ => rfl)) pa_nil)))
  (pss_one (ps_if (pt_cmpR op_eq (pe_slice sl_str (pe_ix ix_list (pv 1) (pe_un un_neg (pe_int)) (fun _ _ => rfl)) po_none (po_some (pe_int))) (pe_str) (nomark _))
  (pss_one (ps_expr (pe_bm PySem.F.plainAttrs_list PySem.F.slot_list_append PySem.F.type_list_append mt_append (pv 2) (pa_cons (pe_tup (pa_cons (pe_str) (pa_cons (pe_str) pa_nil))) pa_nil))))
  (pss_nil))))
  (pss_nil))
  (pss_one (ps_ret (pe_tup (pa_cons (pe_join (pe_str) (pv 1)) (pa_cons (pv 2) pa_nil))))))), ?_⟩
    (try simp only [cx_K, cx_w, rIn, rMulS, CwR.tReplC, tM1, tBM0, rPop, rExtend, rReverse, rLenS, rEqE, rNeE, rSetL, rIntI, rIntB, tBM, rAppend, rIxL, rIxT, rCat, rSlL, rSlS, gTup, tYes, wipe, tSeq, tAsg, tIfS, tRet, tRetN, tDrop, tNext, tBreak, tCont, tNever, tAug, ipI, tPar, tPar3, gName, gCons, gNil, gSub, tVar, tC, tOp, tUn, tIf, tAndV, tOrV, tNotV, tAnd, tOr, tNot, L2.tB, tTest, tCmp, tChain, tCB, tCons, tNil, tCall, tTup, tLst, tSl, tPart, tNoPart, rI, rI0, rU, rEq, rNe, scal_ii, scal_ss, scal_bb, scal_nn, scal_is, scal_si, rIxS, S_len, S_cps, S_inj, L2.start, List.map_cons, List.map_nil, List.cons_append, List.nil_append, List.append_nil, List.getElem?_cons_zero, List.getElem?_cons_succ, List.set_cons_zero, List.set_cons_succ, List.length_cons, List.length_nil, Nat.reduceAdd, Nat.reduceSub, List.replicate_succ, List.replicate_zero, Option.some.injEq, V.int.injEq, V.str.injEq, V.bl.injEq, V.ref.injEq, List.cons.injEq, and_true, true_and, exists_eq_left, exists_eq_left', exists_and_left, exists_eq, exists_eq', decide_eq_true_eq, Bool.not_eq_true', decide_eq_false_iff_not, Bool.false_eq_true, if_false, if_true, reduceIte, ite_self, CMul, CPow, CDiv])
    have hPn : H Pa ≠ none := hP.ne
    refine ⟨by decide, fun p hp => ⟨by decide, fun d hd => ⟨_, _, ⟨rfl, rfl⟩, ?_⟩⟩⟩
    have nd : d ≠ p := fun z => by
      subst z
      rw [upd_same] at hd
      cases hd
    have s0 := ((Pst.refl hP).new (o := .lst []) hp)
    have s1 := s0.new (o := .lst []) hd
    have hd0 : H d = none := s0.free hd
    have I0 : MInv Pa H (upd (upd H p (.lst [])) d (.lst [])) p d [] [] [] [] 0 :=
      ⟨s1, hp, hd0, (Pst.refl hP).ne hp, s0.ne hd, nd.symm, by rw [upd_ne nd.symm, upd_same]; rfl, upd_same, .nil, rfl, Nat.le_refl _, Nat.zero_le _, fun _ h => (nomatch h)⟩
    refine ⟨.ref Pa, rfl, Pa, 31, rfl, s1.pool, by decide, fun r H1 h0 h1 st => ?_⟩
    have I1 := I0.move hPn st
    obtain ⟨n, rfl⟩ := Int.eq_ofNat_of_zero_le h0
    clear I0 s1 s0 nd hp hd hd0
    refine ⟨(n : Int), rfl, by omega, by omega, for_range (lo := 0) (n := ((n : Int)).toNat) (fun k σ H2 => ∃ e3 e4 e5 e6 e7 e8 ps rs ds, σ = [some (.ref Pa), some (.ref p), some (.ref d), e3, e4, e5, e6, e7, e8] ∧ MInv Pa H H2 p d ps rs rs ds k ∧ ds.length ≤ k) ⟨_, _, _, _, _, _, _, _, _, rfl, I1, Nat.le_refl _⟩ ?_ ?_⟩
    · rintro k σ H2 hk ⟨e3, e4, e5, e6, e7, e8, ps, rs, ds, rfl, I, hdk⟩
      have hk31 : k ≤ 31 := by omega
      refine made_branch (e3 := some (.int (0 + k))) hPn I hdk hk31 fun a e4 e6 shs toks sp ds' H4 ea na1 na2 na3 hR I4 hd4 => ?_
      clear I hdk
      (try simp only [cx_K, cx_w, rIn, rMulS, CwR.tReplC, tM1, tBM0, rPop, rExtend, rReverse, rLenS, rEqE, rNeE, rSetL, rIntI, rIntB, tBM, rAppend, rIxL, rIxT, rCat, rSlL, rSlS, gTup, tYes, wipe, tSeq, tAsg, tIfS, tRet, tRetN, tDrop, tNext, tBreak, tCont, tNever, tAug, ipI, tPar, tPar3, gName, gCons, gNil, gSub, tVar, tC, tOp, tUn, tIf, tAndV, tOrV, tNotV, tAnd, tOr, tNot, L2.tB, tTest, tCmp, tChain, tCB, tCons, tNil, tCall, tTup, tLst, tSl, tPart, tNoPart, rI, rI0, rU, rEq, rNe, scal_ii, scal_ss, scal_bb, scal_nn, scal_is, scal_si, rIxS, S_len, S_cps, S_inj, L2.start, List.map_cons, List.map_nil, List.cons_append, List.nil_append, List.append_nil, List.getElem?_cons_zero, List.getElem?_cons_succ, List.set_cons_zero, List.set_cons_succ, List.length_cons, List.length_nil, Nat.reduceAdd, Nat.reduceSub, List.replicate_succ, List.replicate_zero, Option.some.injEq, V.int.injEq, V.str.injEq, V.bl.injEq, V.ref.injEq, List.cons.injEq, and_true, true_and, exists_eq_left, exists_eq_left', exists_and_left, exists_eq, exists_eq', decide_eq_true_eq, Bool.not_eq_true', decide_eq_false_iff_not, Bool.false_eq_true, if_false, if_true, reduceIte, ite_self, CMul, CPow, CDiv])
      refine ⟨Pa, rfl, I4.st.pool, fun x0 H5 hx0 hxl st5 => ?_⟩
      have I5 := I4.move hPn st5
      have ea5 := st5.kp a _ na3 ea
      have hn6 := hR.n
      refine ⟨.ref a, rfl, a, _, rfl, .inl (SqL.of ea5), _, rfl, by rw [List.length_map]; omega, by rw [List.length_map]; omega, for_range (lo := 0) (n := ((((shs.map strV).length : Nat) : Int)).toNat) (fun j σ H6 => ∃ e8 x, σ = [some (.ref Pa), some (.ref p), some (.ref d), some (.int (0 + k)), e4, some (.ref a), e6, some (.str (S x)), e8] ∧ Pst Pa H5 H6 ∧ H6 a = some (.lst (shs.map strV)) ∧ TxtAt shs toks sp j x) ?_ ?_ ?_⟩
      · exact ⟨_, x0, rfl, Pst.refl I5.st.pool, ea5, [], toks, false, sp, M78.pre_bl hx0, fun _ => ⟨hx0, rfl, rfl⟩, hR.row, rfl, Bool.false_or _, bl_sg hx0, by omega⟩
      · rintro j σ H6 hj ⟨e8, x, rfl, st6, ea6, hT⟩
        have hj : j < shs.length := by
          rw [List.length_map] at hj
          omega
        (try simp only [cx_K, cx_w, rIn, rMulS, CwR.tReplC, tM1, tBM0, rPop, rExtend, rReverse, rLenS, rEqE, rNeE, rSetL, rIntI, rIntB, tBM, rAppend, rIxL, rIxT, rCat, rSlL, rSlS, gTup, tYes, wipe, tSeq, tAsg, tIfS, tRet, tRetN, tDrop, tNext, tBreak, tCont, tNever, tAug, ipI, tPar, tPar3, gName, gCons, gNil, gSub, tVar, tC, tOp, tUn, tIf, tAndV, tOrV, tNotV, tAnd, tOr, tNot, L2.tB, tTest, tCmp, tChain, tCB, tCons, tNil, tCall, tTup, tLst, tSl, tPart, tNoPart, rI, rI0, rU, rEq, rNe, scal_ii, scal_ss, scal_bb, scal_nn, scal_is, scal_si, rIxS, S_len, S_cps, S_inj, L2.start, List.map_cons, List.map_nil, List.cons_append, List.nil_append, List.append_nil, List.getElem?_cons_zero, List.getElem?_cons_succ, List.set_cons_zero, List.set_cons_succ, List.length_cons, List.length_nil, Nat.reduceAdd, Nat.reduceSub, List.replicate_succ, List.replicate_zero, Option.some.injEq, V.int.injEq, V.str.injEq, V.bl.injEq, V.ref.injEq, List.cons.injEq, and_true, true_and, exists_eq_left, exists_eq_left', exists_and_left, exists_eq, exists_eq', decide_eq_true_eq, Bool.not_eq_true', decide_eq_false_iff_not, Bool.false_eq_true, if_false, if_true, reduceIte, ite_self, CMul, CPow, CDiv])
        have hsj : shs[j]? = some shs[j] := List.getElem?_eq_getElem hj
        refine ⟨Pa, rfl, (I5.st.trans st6).pool, fun g H7 hg hgn hgl st7 => ⟨by decide, fun q1 hq1 => ?_⟩⟩
        have ea7 := st7.kp a _ na3 ea6
        have s8 := (st6.trans st7).new (o := .lst [V.str (Str.ofString ""), V.str (S g)]) hq1
        have ea8 := (Same.new (o := .lst [V.str (Str.ofString ""), V.str (S g)]) hq1) _ _ ea7
        have hx : ∃ g', atI [V.str (Str.ofString ""), V.str (S g)] (if (0 : Int) < 0 + (j : Int) then 1 else 0) = some (.str (S g')) ∧ M78.Bl g' ∧ g'.length ≤ 3 ∧ (0 < j → g' ≠ []) ∧ (j = 0 → g' = []) := by
          by_cases hj0 : j = 0
          · rw [if_neg (by omega)]
            exact ⟨[], rfl, fun _ h => (nomatch h), by simp, fun h => absurd hj0 (by omega), fun _ => rfl⟩
          · rw [if_pos (by omega)]
            exact ⟨g, rfl, hg, hgl, fun _ => hgn, fun h => absurd h hj0⟩
        obtain ⟨g', hx1, hx2, hx3, hx4, hx5⟩ := hx
        have hsg := hR.sg _ (List.getElem_mem hj)
        have hTn := hT.step hsj hx2 hx3 hx4 hx5 hsg
        have hxl2 : x.length ≤ 3 + 43 * j := by
          obtain ⟨_, _, _, _, _, _, _, _, _, _, h⟩ := hT
          exact h
        refine ⟨_, SqL.of upd_same, _, hx1, S g', rfl, ?_, _, SqL.of ea8, strV shs[j], ?_, S shs[j], rfl, ?_, _, x ++ g' ++ shs[j], ⟨?_, rfl⟩, s8, ea8, hTn⟩
        · rw [S_len]
          exact sz5 (by omega)
        · rw [Int.zero_add]
          exact at_nat (by rw [List.getElem?_map, hsj]; rfl)
        · rw [S_app, S_len, S_len, List.length_append]
          exact sz5 (by have := hsg.2; omega)
        · rw [S_app, S_app]
      · rintro σ H6 ⟨e8, x, rfl, st6, ea6, hT⟩
        (try simp only [cx_K, cx_w, rIn, rMulS, CwR.tReplC, tM1, tBM0, rPop, rExtend, rReverse, rLenS, rEqE, rNeE, rSetL, rIntI, rIntB, tBM, rAppend, rIxL, rIxT, rCat, rSlL, rSlS, gTup, tYes, wipe, tSeq, tAsg, tIfS, tRet, tRetN, tDrop, tNext, tBreak, tCont, tNever, tAug, ipI, tPar, tPar3, gName, gCons, gNil, gSub, tVar, tC, tOp, tUn, tIf, tAndV, tOrV, tNotV, tAnd, tOr, tNot, L2.tB, tTest, tCmp, tChain, tCB, tCons, tNil, tCall, tTup, tLst, tSl, tPart, tNoPart, rI, rI0, rU, rEq, rNe, scal_ii, scal_ss, scal_bb, scal_nn, scal_is, scal_si, rIxS, S_len, S_cps, S_inj, L2.start, List.map_cons, List.map_nil, List.cons_append, List.nil_append, List.append_nil, List.getElem?_cons_zero, List.getElem?_cons_succ, List.set_cons_zero, List.set_cons_succ, List.length_cons, List.length_nil, Nat.reduceAdd, Nat.reduceSub, List.replicate_succ, List.replicate_zero, Option.some.injEq, V.int.injEq, V.str.injEq, V.bl.injEq, V.ref.injEq, List.cons.injEq, and_true, true_and, exists_eq_left, exists_eq_left', exists_and_left, exists_eq, exists_eq', decide_eq_true_eq, Bool.not_eq_true', decide_eq_false_iff_not, Bool.false_eq_true, if_false, if_true, reduceIte, ite_self, CMul, CPow, CDiv])
        have I6 := I5.move hPn st6
        have hT : TxtAt shs toks sp shs.length x := by
          have e : ((((shs.map strV).length : Nat) : Int)).toNat = shs.length := by
            rw [List.length_map]
            rfl
          rw [e] at hT
          exact hT
        obtain ⟨t1, t2, b1, b2, a1, a2, a3, a4, a5, a6, a7⟩ := hT
        rw [List.drop_length] at a3
        have he : t1 = toks ∧ b1 = sp := by
          cases a3
          rw [List.append_nil] at a4
          rw [Bool.or_false] at a5
          exact ⟨a4, a5⟩
        obtain ⟨rfl, rfl⟩ := he
        refine ⟨.inl ⟨rfl, _, SqL.of I6.ep⟩, Pa, rfl, I6.st.pool, fun g H7 hg hgl st7 => ⟨S g, rfl, by rw [S_len]; exact sz5 (by omega), _, (I6.move hPn st7).ep, ?_, ?_⟩⟩
        · rw [List.length_map]
          exact sz5' (by have := I6.n; omega)
        · rw [S_app]
          have hfin := (I6.move hPn st7).part (M78.part_of a1 hg) ⟨fun c hc => by
            rcases List.mem_append.mp hc with hc | hc
            · exact a6 c hc
            · exact bl_sg hg c hc, by rw [List.length_append]; omega⟩
          exact ⟨_, _, _, _, _, _, ⟨rfl, rfl, rfl, rfl, rfl, rfl⟩, _, _, _, hfin, hd4⟩
    · rintro σ H2 ⟨e3, e4, e5, e6, e7, e8, ps, rs, ds, rfl, I, hdk⟩
      (try simp only [cx_K, cx_w, rIn, rMulS, CwR.tReplC, tM1, tBM0, rPop, rExtend, rReverse, rLenS, rEqE, rNeE, rSetL, rIntI, rIntB, tBM, rAppend, rIxL, rIxT, rCat, rSlL, rSlS, gTup, tYes, wipe, tSeq, tAsg, tIfS, tRet, tRetN, tDrop, tNext, tBreak, tCont, tNever, tAug, ipI, tPar, tPar3, gName, gCons, gNil, gSub, tVar, tC, tOp, tUn, tIf, tAndV, tOrV, tNotV, tAnd, tOr, tNot, L2.tB, tTest, tCmp, tChain, tCB, tCons, tNil, tCall, tTup, tLst, tSl, tPart, tNoPart, rI, rI0, rU, rEq, rNe, scal_ii, scal_ss, scal_bb, scal_nn, scal_is, scal_si, rIxS, S_len, S_cps, S_inj, L2.start, List.map_cons, List.map_nil, List.cons_append, List.nil_append, List.append_nil, List.getElem?_cons_zero, List.getElem?_cons_succ, List.set_cons_zero, List.set_cons_succ, List.length_cons, List.length_nil, Nat.reduceAdd, Nat.reduceSub, List.replicate_succ, List.replicate_zero, Option.some.injEq, V.int.injEq, V.str.injEq, V.bl.injEq, V.ref.injEq, List.cons.injEq, and_true, true_and, exists_eq_left, exists_eq_left', exists_and_left, exists_eq, exists_eq', decide_eq_true_eq, Bool.not_eq_true', decide_eq_false_iff_not, Bool.false_eq_true, if_false, if_true, reduceIte, ite_self, CMul, CPow, CDiv])
      refine ⟨Pa, 4, rfl, I.st.pool, by decide, fun r2 H3 r0 r1 st3 => ⟨rfl, ?_⟩⟩
      have I3 := I.move hPn st3
      refine ite2 (fun _ => ?_) (fun _ => ?_)
      · refine ⟨.inl ⟨rfl, _, SqL.of I3.ep⟩, by decide, fun p1 hp1 => ?_⟩
        have s1 := (Pst.refl I3.st.pool).new (o := .lst [V.str (Str.ofString "say self 'a;stop;"), V.str (Str.ofString "'stop;leave"), V.str (Str.ofString "stop '"), V.str (Str.ofString "take self;go 'b;leave; stop")]) hp1
        have hp1n := (Pst.refl I3.st.pool).ne hp1
        refine ⟨Pa, 4, rfl, s1.pool, by decide, fun r4 H4 h4 h5 st4 => ?_⟩
        obtain ⟨v, ev, hv⟩ := atI_mem (xs := [V.str (Str.ofString "say self 'a;stop;"), V.str (Str.ofString "'stop;leave"), V.str (Str.ofString "stop '"), V.str (Str.ofString "take self;go 'b;leave; stop")]) h4 h5
        obtain ⟨z, rt, rfl, hz1, hz2, hz3, hz4⟩ := tail_of v hv
        have I4 := (I3.move hPn s1).move hPn st4
        have hn := I4.n
        refine ⟨_, r4, rfl, SqL.of (st4.kp p1 _ hp1n upd_same), _, ev, _, I4.ep, by rw [List.length_map]; exact sz5' (by omega), _, SqL.of upd_same, _, atI_last _ _, S z, rfl, by rw [S_len]; exact sz5 (by omega), ?_⟩
        have hA : M78.actsL (M78.joinS (ps ++ [z])) = rs.filterMap M78.actL ++ rt := by
          rw [M78.made_tail I4.pr rfl, hz1]
        have hsg : ∀ s ∈ ps ++ [z], Sg s ∧ s.length ≤ 400 := fun s hs => by
          rcases List.mem_append.mp hs with h | h
          · exact I4.sg s h
          · rw [List.mem_singleton.mp h]
            exact ⟨hz2, hz3⟩
        have st5 := I4.st.mut (o := .lst (ps.map strV ++ [.str (S z)])) I4.hp I4.np
        have ep5 : upd H4 p (.lst (ps.map strV ++ [.str (S z)])) p = some (.lst ((ps ++ [z]).map strV)) := by
          rw [upd_same, List.map_append]
          rfl
        have ed5 : upd H4 p (.lst (ps.map strV ++ [.str (S z)])) d = some (.lst ds) := by
          rw [upd_ne I4.ne.symm]
          exact I4.ed
        have rd5 := I4.rd.mono (hs_upd (o := .lst (ps.map strV ++ [.str (S z)])) (show p ∈ [p, d] by simp))
        refine ite2 (fun hc => ?_) (fun hc => ?_)
        · rcases hz4 with ⟨_, rfl⟩ | ⟨h, _⟩
          · refine ⟨.inl ⟨rfl, _, SqL.of ed5⟩, by decide, fun b hb => ⟨ds, (Same.new hb) _ _ ed5, sz5' (by omega), ?_⟩⟩
            have nbd : b ≠ d := fun z => by
              subst z
              rw [ed5] at hb
              cases hb
            have nbp : b ≠ p := fun z => by
              subst z
              rw [ep5] at hb
              cases hb
            have st6 := st5.new (o := .tup [V.str (Str.ofString "take"), V.str (Str.ofString "self")]) hb
            refine made_end (st6.mut I4.hd I4.nd) I4.hd (ps' := ps ++ [z]) (ds := ds ++ [.ref b]) ?_ upd_same (acts := rs.filterMap M78.actL ++ [[M78.w_take, M78.w_self]]) ?_ hA hsg (by rw [List.length_append, List.length_singleton]; omega) q
            · rw [upd_ne I4.ne, upd_ne nbp.symm]
              exact ep5
            · rw [List.map_append]
              refine ((rd5.mono ?_).snoc ⟨b, _, rfl, hide_some.mpr ⟨by simp [nbd, nbp], since_some.mpr ⟨st5.free hb, ?_⟩⟩, (reps_strs (ls := [M78.w_take, M78.w_self]))⟩)
              · exact ((since_right (Same.new hb)).hide).trans (hs_upd (by simp))
              · rw [upd_ne nbd, upd_same]
                rfl
          · exact absurd hc h
        · rcases hz4 with ⟨h, _⟩ | ⟨_, rfl⟩
          · exact absurd h hc
          · refine made_end st5 I4.hd (ps' := ps ++ [z]) (ds := ds) ep5 ed5 (acts := rs.filterMap M78.actL ++ []) ?_ hA hsg (by rw [List.length_append, List.length_singleton]; omega) q
            rw [List.append_nil]
            exact rd5
      · exact made_end I3.st I3.hd (ps' := ps) (ds := ds) I3.ep I3.ed (acts := rs.filterMap M78.actL) I3.rd (M78.made_plain I3.pr) I3.sg (by have := I3.n; omega) q
end
end K78


namespace K78
open PySem PySem.Spec PyProof.Rows L2 KB
section
variable {P : Program} {w : World} {K : PySem.W.Frag} {mg : Str → Option Value} {base : Heap}
def spEdges : Sp := fun vs H Q _ => ∃ P : Addr, vs = [.ref P] ∧ PoolAt P H ∧ ∀ t b text H', Pst P H H' → H t = none → H' t = some (.tup [.str (S text), .ref b]) → Rep (since H H') (actsD (M78.acts text)) (.ref b) → Sg text → text.length ≤ 3000 → Q (.ref t) H'
theorem sg_app {a b : List Nat} (h : Sg a) (k : Sg b) : Sg (a ++ b) := fun c hc => by
  rcases List.mem_append.mp hc with hc | hc
  · exact h c hc
  · exact k c hc
theorem add_part {g : List Nat} (hg : M78.Pl g) : M78.PartIs (lit "add " ++ g ++ lit " 'k'") ([(M78.w_add, false), (g, false), ([107], true)], false) ∧ M78.actL ([(M78.w_add, false), (g, false), ([107], true)], false) = none := by
  constructor
  · have h1 : M78.Pre ([] ++ M78.w_add) [(M78.w_add, false)] false := M78.pre_first (fun _ h => (nomatch h)) (M78.shown_pl (pl_of (by decide)))
    have h2 := M78.pre_next h1 (g := [32]) (fun c hc => by rw [List.mem_singleton.mp hc]; rfl) (by simp) (M78.shown_pl hg)
    have h3 := M78.pre_next h2 (g := [32]) (fun c hc => by rw [List.mem_singleton.mp hc]; rfl) (by simp) (M78.shown_qu (w := [107]) (fun c hc => by rw [List.mem_singleton.mp hc]; decide))
    have h4 := M78.part_of h3 (g := []) (fun _ h => (nomatch h))
    have e1 : lit "add " = M78.w_add ++ [32] := by decide +kernel
    have e2 : lit " 'k'" = [32] ++ 39 :: ([107] ++ [39]) := by decide +kernel
    rw [e1, e2]
    simpa using h4
  · exact na_fit (ks := [.target, .word]) rfl (by simp [M78.allFit, fw_q])
theorem cut_part {g v : List Nat} (hg : M78.Pl g) (hv : M78.Pl v) : M78.PartIs (lit "cut " ++ g ++ lit " " ++ v) ([(M78.w_cut, false), (g, false), (v, false)], false) := by
  have h1 : M78.Pre ([] ++ M78.w_cut) [(M78.w_cut, false)] false := M78.pre_first (fun _ h => (nomatch h)) (M78.shown_pl (pl_of (by decide)))
  have h2 := M78.pre_next h1 (g := [32]) (fun c hc => by rw [List.mem_singleton.mp hc]; rfl) (by simp) (M78.shown_pl hg)
  have h3 := M78.pre_next h2 (g := [32]) (fun c hc => by rw [List.mem_singleton.mp hc]; rfl) (by simp) (M78.shown_pl hv)
  have h4 := M78.part_of h3 (g := []) (fun _ h => (nomatch h))
  have e1 : lit "cut " = M78.w_cut ++ [32] := by decide +kernel
  have e2 : lit " " = [32] := by decide +kernel
  rw [e1, e2]
  simpa using h4
def EdgeAt (H0 H : Hp) (v : V) (r : List M78.Word × Bool) : Prop := ∃ t x av, v = .ref t ∧ H0 t = none ∧ H t = some (.tup [.str (S x), av]) ∧ Rep (since H0 H) (actD (M78.actL r)) av ∧ M78.PartIs x r ∧ Sg x ∧ x.length ≤ 60
theorem EdgeAt.mono {Pa : Addr} {H0 H H1 : Hp} {v : V} {r : List M78.Word × Bool} (h : EdgeAt H0 H v r) (h0 : H0 Pa ≠ none) (s : Pst Pa H H1) : EdgeAt H0 H1 v r := by
  obtain ⟨t, x, av, e, e0, e1, e2, e3⟩ := h
  exact ⟨t, x, av, e, e0, s.kp _ _ (fun z => h0 (z ▸ e0)) e1, e2.mono (s.since h0), e3⟩
structure Es (Pa : Addr) (H0 H : Hp) (r : Addr) (rows : List V) (m : Nat) (vs : List V) : Prop where
  h0 : H0 Pa ≠ none
  st : Pst Pa H0 H
  at_ : rows ≠ [] → H r = some (.lst rows)
  rws : ∀ v ∈ rows, ∃ e, EdgeAt H0 H v e
  vs : ∀ v ∈ vs, ∃ e, EdgeAt H0 H v e
  len : rows.length = m
theorem Es.add {Pa : Addr} {H0 H H' : Hp} {r : Addr} {rows : List V} {m : Nat} {vs : List V} {v : V} {e : List M78.Word × Bool} (B : Es Pa H0 H r rows m vs) (s : Same H H') (p : Pst Pa H H') (hv : EdgeAt H0 H' v e) : Es Pa H0 H' r rows m (vs ++ [v]) :=
  ⟨B.h0, B.st.trans p, fun h => s _ _ (B.at_ h), fun u hu => by
    obtain ⟨e, h⟩ := B.rws u hu
    exact ⟨e, h.mono B.h0 p⟩, fun u hu => by
    rcases List.mem_append.mp hu with hu | hu
    · obtain ⟨e, h⟩ := B.vs u hu
      exact ⟨e, h.mono B.h0 p⟩
    · rw [List.mem_singleton.mp hu]
      exact ⟨e, hv⟩, B.len⟩
theorem econs_none {Pa : Addr} {H0 H : Hp} {r0 : Addr} {rows : List V} {m : Nat} {vs : List V} {ta tr : TA} {σ : L2.St} {R : List V → Hp → Prop} {x : List Nat} {r : List M78.Word × Bool}
    (B : Es Pa H0 H r0 rows m vs) (hta : ∀ R' : List V → Hp → Prop, R' [.str (S x), .non] H → ta σ H R') (hp : M78.PartIs x r) (hN : M78.actL r = none) (hx : Sg x ∧ x.length ≤ 60)
    (k : ∀ p H', Es Pa H0 H' r0 rows m (vs ++ [.ref p]) → tr σ H' (fun xs H2 => R (.ref p :: xs) H2)) : tCons (tTup ta) tr σ H R := by
  refine hta _ ⟨sz5 (by simp), fun p hpn => ?_⟩
  have s1 := (Pst.refl B.st.pool).new (o := .tup [.str (S x), .non]) hpn
  exact k p _ (B.add (e := r) (Same.new hpn) s1 ⟨p, x, .non, rfl, B.st.free hpn, upd_same, by rw [hN]; rfl, hp, hx⟩)
theorem econs_some {Pa : Addr} {H0 H : Hp} {r0 : Addr} {rows : List V} {m : Nat} {vs : List V} {tx : TE} {tb tr : TA} {σ : L2.St} {R : List V → Hp → Prop} {x : List Nat} {z : List (List Nat)} {r : List M78.Word × Bool}
    (B : Es Pa H0 H r0 rows m vs) (htx : ∀ Q : VK, Q (.str (S x)) H → tx σ H Q) (htb : ∀ R' : List V → Hp → Prop, R' (z.map strV) H → tb σ H R') (hp : M78.PartIs x r) (hA : M78.actL r = some z) (hz : z.length ≤ 6) (hx : Sg x ∧ x.length ≤ 60)
    (k : ∀ p H', Es Pa H0 H' r0 rows m (vs ++ [.ref p]) → tr σ H' (fun xs H2 => R (.ref p :: xs) H2)) : tCons (tTup (tCons tx (tCons (tTup tb) tNil))) tr σ H R := by
  refine htx _ (htb _ ⟨by rw [List.length_map]; exact sz5 (by omega), fun b hb => ⟨sz5 (by simp), fun p hpn => ?_⟩⟩)
  have s1 := (Pst.refl B.st.pool).new (o := .tup (z.map strV)) hb
  have s2 := s1.new (o := .tup [.str (S x), .ref b]) hpn
  refine k p _ (B.add (e := r) ((Same.new hb).trans (Same.new hpn)) s2 ⟨p, x, .ref b, rfl, (B.st.trans s1).free hpn, upd_same, ?_, hp, hx⟩)
  rw [hA]
  exact ⟨b, _, rfl, since_some.mpr ⟨B.st.free hb, (Same.new hpn) _ _ upd_same⟩, reps_strs⟩
def ELst (u : TS) (D : Ends) (σ : L2.St) (xs : List V) (H1 : Hp) : Prop := xs.length ≤ sizeLine ∧ ∀ p, H1 p = none → u D (σ.set 3 (some (.ref p))) (upd H1 p (.lst xs))
theorem eseq_lst {ta : TA} {e0 e1 e2 e3 e4 e5 e6 : Option V} {u : TS} {D : Ends} {H : Hp} (h : ta [e0, e1, e2, e3, e4, e5, e6] H (ELst u D [e0, e1, e2, e3, e4, e5, e6])) : tSeq (tAsg (tLst ta) (gName 3)) u D [e0, e1, e2, e3, e4, e5, e6] H := h
theorem elst_end {Pa : Addr} {H0 H : Hp} {r : Addr} {vs : List V} {u : TS} {D : Ends} {e0 e1 e2 e3 e4 e5 e6 : Option V} (B : Es Pa H0 H r [] 0 vs) (hv : vs.length ≤ 100 ∧ 1 ≤ vs.length)
    (k : ∀ r rows H', Es Pa H0 H' r rows vs.length [] → 1 ≤ rows.length → u D [e0, e1, e2, some (.ref r), e4, e5, e6] H') : ELst u D [e0, e1, e2, e3, e4, e5, e6] vs H := by
  refine ⟨sz5 (by omega), fun p hp => ?_⟩
  have s1 := (Pst.refl B.st.pool).new (o := .lst vs) hp
  exact k p vs _ ⟨B.h0, B.st.new hp, fun _ => upd_same, fun v hv => by
    obtain ⟨e, h⟩ := B.vs v hv
    exact ⟨e, h.mono B.h0 s1⟩, fun _ h => (nomatch h), rfl⟩ hv.2
def ECat (r : Addr) (u : TS) (D : Ends) (σ : L2.St) (xs : List V) (H1 : Hp) : Prop := xs.length ≤ sizeLine ∧ ∀ p, H1 p = none → rCat (.ref r) (.ref p) (upd H1 p (.lst xs)) fun x H2 => u D (σ.set 3 (some x)) H2
theorem eseq_cat {ta : TA} {r : Addr} {u : TS} {D : Ends} {e0 e1 e2 e4 e5 e6 : Option V} {H : Hp} (h : ta [e0, e1, e2, some (.ref r), e4, e5, e6] H (ECat r u D [e0, e1, e2, some (.ref r), e4, e5, e6])) :
    tSeq (tAsg (tOp rCat (tVar 3) (tLst ta)) (gName 3)) u D [e0, e1, e2, some (.ref r), e4, e5, e6] H := ⟨_, rfl, h⟩
theorem ecat_end {Pa : Addr} {H0 H : Hp} {r : Addr} {rows vs : List V} {m : Nat} {u : TS} {D : Ends} {e0 e1 e2 e3 e4 e5 e6 : Option V} (B : Es Pa H0 H r rows m vs) (hv : m + vs.length ≤ 100 ∧ 1 ≤ m)
    (k : ∀ r rows H', Es Pa H0 H' r rows (m + vs.length) [] → 1 ≤ rows.length → u D [e0, e1, e2, some (.ref r), e4, e5, e6] H') : ECat r u D [e0, e1, e2, e3, e4, e5, e6] vs H := by
  have hl := B.len
  refine ⟨sz5 (by omega), fun p hp => ⟨r, p, rows, vs, rfl, rfl, ?_, upd_same, sz5 (by omega), fun p2 hp2 => ?_⟩⟩
  · exact (Same.new hp) _ _ (B.at_ fun z => by rw [z] at hl; simp at hl; omega)
  · have s2 := ((Pst.refl B.st.pool).new (o := .lst vs) hp).new (o := .lst (rows ++ vs)) hp2
    refine k p2 _ _ ⟨B.h0, B.st.trans s2, fun _ => upd_same, fun v hv => ?_, fun _ h => (nomatch h), by rw [List.length_append, hl]⟩ (by rw [List.length_append]; omega)
    rcases List.mem_append.mp hv with hv | hv
    · obtain ⟨e, h⟩ := B.rws v hv
      exact ⟨e, h.mono B.h0 s2⟩
    · obtain ⟨e, h⟩ := B.vs v hv
      exact ⟨e, h.mono B.h0 s2⟩
theorem joinS_snoc {t : List Nat} : ∀ xs : List (List Nat), xs ≠ [] → M78.joinS (xs ++ [t]) = M78.joinS xs ++ 59 :: t
  | [], h => absurd rfl h
  | [x], _ => rfl
  | x :: y :: r, _ => by
    show x ++ 59 :: M78.joinS ((y :: r) ++ [t]) = (x ++ 59 :: M78.joinS (y :: r)) ++ 59 :: t
    rw [joinS_snoc (y :: r) (by simp), List.append_assoc]
    rfl
theorem edges_text {l : List (Addr × List Nat × V × (List M78.Word × Bool))} (h : ∀ e ∈ l, M78.PartIs e.2.1 e.2.2.2) (h1 : 1 ≤ l.length) :
    M78.actsL (M78.joinS (l.map fun e => e.2.1) ++ lit ";stop 'x;leave") = (l.map fun e => e.2.2.2).filterMap M78.actL := by
  have hp : M78.PartsR (l.map fun e => e.2.1) (l.map fun e => e.2.2.2) := by
    clear h1
    induction l with
    | nil => exact .nil
    | cons e l ih => exact .cons (h e List.mem_cons_self) (ih fun e he => h e (List.mem_cons_of_mem _ he))
  have e : lit ";stop 'x;leave" = 59 :: lit "stop 'x;leave" := by decide +kernel
  rw [e, ← joinS_snoc _ (fun z => by rw [List.map_eq_nil_iff] at z; subst z; simp at h1), M78.made_tail hp (rt := []) (by decide +kernel)]
  simp
theorem cutV_mem {xs : List V} {lo hi : Option Int} {v : V} (h : v ∈ cutV xs lo hi) : v ∈ xs := by
  unfold cutV at h
  exact List.mem_of_mem_drop (List.mem_of_mem_take h)
theorem cutV_length1 {xs : List V} {tn : Int} (h0 : 0 ≤ tn) (h1 : tn < (xs.length : Int)) : 1 ≤ (cutV xs (some tn) none).length := by
  obtain ⟨n, rfl⟩ := Int.eq_ofNat_of_zero_le h0
  unfold cutV
  rw [HT.sIx_nat, List.length_take, List.length_drop]
  show 1 ≤ min (xs.length - min n xs.length) (xs.length - min n xs.length)
  omega
theorem edges_lists {H0 H : Hp} : ∀ {rows : List V}, (∀ v ∈ rows, ∃ r, EdgeAt H0 H v r) → ∃ l : List (Addr × List Nat × V × (List M78.Word × Bool)), rows = l.map (fun e => V.ref e.1) ∧
    ∀ e ∈ l, H0 e.1 = none ∧ H e.1 = some (.tup [.str (S e.2.1), e.2.2.1]) ∧ Rep (since H0 H) (actD (M78.actL e.2.2.2)) e.2.2.1 ∧ M78.PartIs e.2.1 e.2.2.2 ∧ Sg e.2.1 ∧ e.2.1.length ≤ 60
  | [], _ => ⟨[], rfl, fun _ h => (nomatch h)⟩
  | v :: rows, h => by
    obtain ⟨l, e, hl⟩ := edges_lists fun u hu => h u (List.mem_cons_of_mem _ hu)
    obtain ⟨r, t, x, av, e0, e1, e2, e3, e4, e5, e6⟩ := h v List.mem_cons_self
    refine ⟨(t, x, av, r) :: l, by rw [e0, e]; rfl, fun u hu => ?_⟩
    rcases List.mem_cons.mp hu with rfl | hu
    · exact ⟨e1, e2, e3, e4, e5, e6⟩
    · exact hl u hu
theorem okEdges (T : Top K w mg) : Ok P w K mg base CX0 5 "_law_edges" ["pool"] spEdges := by
  have GLawPick : Ok P w K mg base CX0 1 "_law_pick" ["pool", "many"] spPick := okPick T
  have GLawTarget : Ok P w K mg base CX0 4 "_law_target" ["pool"] spTarget := okTarget T
  have GLawPlain : Ok P w K mg base CX0 3 "_law_plain" ["pool"] spPlain := okPlain T
  refine mkOk T.f__law_edges scLawEdges (fun vs H Q E h => ?_) (fun f cdv A outer s H vs Q E hr h => ?_)
  · obtain ⟨_, rfl, _⟩ := h
    rfl
  · obtain ⟨Pa, rfl, hP, q⟩ := h
    refine ⟨_, pss_cons (ps_par (i := 1) (j := 2) rfl scLawEdges.nd rfl rfl (by decide) rfl rfl (pa_cons (pcall GLawTarget (hr.mono (by decide)) (by rfl) pass0 (pa_cons (pv 0) pa_nil)) (pa_cons (pcall GLawPlain (hr.mono (by decide)) (by rfl) pass0 (pa_cons (pv 0) pa_nil)) pa_nil)) (by rfl))
  (pss_cons (ps_set (i := 3) scLawEdges.nd rfl (Or.inl rfl) (pe_lst (pa_cons (pe_tup (pa_cons (pe_str) (pa_cons (pe_non) pa_nil))) (pa_cons (pe_tup (pa_cons (pe_str) (pa_cons (pe_tup (pa_cons (pe_str) (pa_cons (pe_str) pa_nil))) pa_nil))) (pa_cons (pe_tup (pa_cons (pe_str) (pa_cons (pe_non) pa_nil))) (pa_cons (pe_tup (pa_cons (pe_str) (pa_cons (pe_tup (pa_cons (pe_str) pa_nil)) pa_nil))) (pa_cons (pe_tup (pa_cons (pe_str) (pa_cons (pe_non) pa_nil))) (pa_cons (pe_tup (pa_cons (pe_str) (pa_cons (pe_tup (pa_cons (pe_str) (pa_cons (pe_str) pa_nil))) pa_nil))) pa_nil))))))))
  (pss_cons (ps_set (i := 3) scLawEdges.nd rfl (Or.inl rfl) (pe_op op_cat (pv 3) (pe_lst (pa_cons (pe_tup (pa_cons (pe_str) (pa_cons (pe_non) pa_nil))) (pa_cons (pe_tup (pa_cons (pe_str) (pa_cons (pe_tup (pa_cons (pe_str) (pa_cons (pe_str) (pa_cons (pe_str) pa_nil)))) pa_nil))) (pa_cons (pe_tup (pa_cons (pe_op op_add_str (pe_op op_add_str (pe_str) (pv 1)) (pe_str)) (pa_cons (pe_non) pa_nil))) (pa_cons (pe_tup (pa_cons (pe_str) (pa_cons (pe_non) pa_nil))) pa_nil)))))))
  (pss_cons (ps_set (i := 3) scLawEdges.nd rfl (Or.inl rfl) (pe_op op_cat (pv 3) (pe_lst (pa_cons (pe_tup (pa_cons (pe_str) (pa_cons (pe_tup (pa_cons (pe_str) (pa_cons (pe_str) (pa_cons (pe_str) (pa_cons (pe_str) pa_nil))))) pa_nil))) (pa_cons (pe_tup (pa_cons (pe_str) (pa_cons (pe_non) pa_nil))) (pa_cons (pe_tup (pa_cons (pe_str) (pa_cons (pe_non) pa_nil))) pa_nil))))))
  (pss_cons (ps_set (i := 3) scLawEdges.nd rfl (Or.inl rfl) (pe_op op_cat (pv 3) (pe_lst (pa_cons (pe_tup (pa_cons (pe_op op_add_str (pe_op op_add_str (pe_op op_add_str (pe_str) (pv 1)) (pe_str)) (pv 2)) (pa_cons (pe_tup (pa_cons (pe_str) (pa_cons (pv 1) (pa_cons (pv 2) pa_nil)))) pa_nil))) (pa_cons (pe_tup (pa_cons (pe_str) (pa_cons (pe_non) pa_nil))) (pa_cons (pe_tup (pa_cons (pe_str) (pa_cons (pe_tup (pa_cons (pe_str) pa_nil)) pa_nil))) pa_nil))))))
  (pss_cons (ps_set (i := 4) scLawEdges.nd rfl (Or.inl rfl) (pcall GLawPick (hr.mono (by decide)) (by rfl) pass0 (pa_cons (pv 0) (pa_cons (pe_int) pa_nil))))
  (pss_cons (ps_set (i := 3) scLawEdges.nd rfl (Or.inl rfl) (pe_op op_cat (pe_slice sl_list (pv 3) (po_some (pv 4)) po_none) (pe_slice sl_list (pv 3) po_none (po_some (pv 4)))))
  (pss_one (ps_ret (pe_tup (pa_cons (pe_op op_add_str (pe_join (pe_str) (pe_lc (own := [("text", 5), ("action", 6)]) rfl scLawEdges.nd (pi_list (pv 3)) (blkOk_by (own := [("text", 5), ("action", 6)]) (N := ["pool", "target", "word", "rows", "turn", "text", "action"]) (sc := defScope sLawEdges) (by decide +kernel)) (fun _ _ _ _ _ => pg_tupK (K := K) (n := 2) rfl rfl (pgs_cons (pg_name (i := 5) scLawEdges.nd rfl (Or.inl rfl)) (pgs_cons (pg_name (i := 6) scLawEdges.nd rfl (Or.inl rfl)) pgs_nil))) (fun _ _ _ _ _ => pts_nil) (fun _ _ _ _ _ => pv 5))) (pe_str)) (pa_cons (pe_lc (own := [("text", 5), ("action", 6)]) rfl scLawEdges.nd (pi_list (pv 3)) (blkOk_by (own := [("text", 5), ("action", 6)]) (N := ["pool", "target", "word", "rows", "turn", "text", "action"]) (sc := defScope sLawEdges) (by decide +kernel)) (fun _ _ _ _ _ => pg_tupK (K := K) (n := 2) rfl rfl (pgs_cons (pg_name (i := 5) scLawEdges.nd rfl (Or.inl rfl)) (pgs_cons (pg_name (i := 6) scLawEdges.nd rfl (Or.inl rfl)) pgs_nil))) (fun _ _ _ _ _ => pts_one (pt_cmpR op_notN (pv 6) (pe_non) (nomark _))) (fun _ _ _ _ _ => pv 6)) pa_nil))))))))))), ?_⟩
    have hPn : H Pa ≠ none := hP.ne
    refine seq_tw (Pst.refl hP) rfl fun g wd H1 hg1 hg2 hg3 hg4 hd1 hd2 hd3 st => ?_
    have B : Es Pa H H1 0 [] 0 [] := ⟨hPn, st, fun z => absurd rfl z, fun _ h => (nomatch h), fun _ h => (nomatch h), rfl⟩
    have hAdd := add_part hg1
    have hCut := cut_part hg1 hd1
    have hAddL : Sg (lit "add " ++ g ++ lit " 'k'") ∧ (lit "add " ++ g ++ lit " 'k'").length ≤ 60 := by
      have e1 : (lit "add ").length = 4 := by decide +kernel
      have e2 : (lit " 'k'").length = 4 := by decide +kernel
      exact ⟨sg_app (sg_app (by decide +kernel) hg2) (by decide +kernel), by rw [List.length_append, List.length_append]; omega⟩
    have hCutL : Sg (lit "cut " ++ g ++ lit " " ++ wd) ∧ (lit "cut " ++ g ++ lit " " ++ wd).length ≤ 60 := by
      have e1 : (lit "cut ").length = 4 := by decide +kernel
      have e2 : (lit " ").length = 1 := by decide +kernel
      exact ⟨sg_app (sg_app (sg_app (by decide +kernel) hg2) (by decide +kernel)) hd2, by rw [List.length_append, List.length_append, List.length_append]; omega⟩
    have hCutA : M78.actL ([(M78.w_cut, false), (g, false), (wd, false)], false) = some [M78.w_cut, g, wd] := act_good (act_mk (ks := [.target, .word]) rfl (by simp [M78.allFit, M78.fits, hg4]))
    refine eseq_lst ?_
    refine econs_none (x := lit "take #") (r := ([(lit "take", false), (lit "#", false)], false)) B (fun R' h => h) (fun _ => id rfl) (by decide +kernel) (by decide +kernel) fun p H1 B => ?_
    refine econs_some (x := lit "take #'") (z := [lit "take", lit "#'"]) (r := ([(lit "take", false), (lit "#'", false)], false)) B (fun Q' h => h) (fun R' h => h) (fun _ => id rfl) (by decide +kernel) (by simp) (by decide +kernel) fun p H1 B => ?_
    refine econs_none (x := lit "'stop'") (r := ([(lit "stop", true)], false)) B (fun R' h => h) (fun _ => id rfl) (by decide +kernel) (by decide +kernel) fun p H1 B => ?_
    refine econs_some (x := lit "stop") (z := [lit "stop"]) (r := ([(lit "stop", false)], false)) B (fun Q' h => h) (fun R' h => h) (fun _ => id rfl) (by decide +kernel) (by simp) (by decide +kernel) fun p H1 B => ?_
    refine econs_none (x := lit "go 'b'") (r := ([(lit "go", false), (lit "b", true)], false)) B (fun R' h => h) (fun _ => id rfl) (by decide +kernel) (by decide +kernel) fun p H1 B => ?_
    refine econs_some (x := lit "go b'") (z := [lit "go", lit "b'"]) (r := ([(lit "go", false), (lit "b'", false)], false)) B (fun Q' h => h) (fun R' h => h) (fun _ => id rfl) (by decide +kernel) (by simp) (by decide +kernel) fun p H1 B => ?_
    refine tnil ?_
    refine elst_end B (by simp) fun r rows H1 B hpos => ?_
    refine eseq_cat ?_
    refine econs_none (x := lit "focus 'self'") (r := ([(lit "focus", false), (lit "self", true)], false)) B (fun R' h => h) (fun _ => id rfl) (by decide +kernel) (by decide +kernel) fun p H1 B => ?_
    refine econs_some (x := lit "say self ''") (z := [lit "say", lit "self", lit ""]) (r := ([(lit "say", false), (lit "self", false), (lit "", true)], false)) B (fun Q' h => h) (fun R' h => h) (fun _ => id rfl) (by decide +kernel) (by simp) (by decide +kernel) fun p H1 B => ?_
    refine econs_none (x := lit "add " ++ g ++ lit " 'k'") B (fun R' h => ⟨_, rfl, _, _, rfl, rfl, ?_, _, _, rfl, rfl, ?_, by rw [lit_eq, lit_eq, S_app, S_app]; exact h⟩) hAdd.1 hAdd.2 hAddL fun p H1 B => ?_
    · rw [lit_eq, S_len, S_len, show (lit "add ").length = 4 from by decide +kernel]
      exact sz5 (by omega)
    · rw [lit_eq, lit_eq, S_app, S_len, S_len, List.length_append, show (lit "add ").length = 4 from by decide +kernel, show (lit " 'k'").length = 4 from by decide +kernel]
      exact sz5 (by omega)
    refine econs_none (x := lit "say self 'a'b") (r := ([(lit "say", false), (lit "self", false), (lit "a", true), (lit "b", false)], true)) B (fun R' h => h) (fun _ => id rfl) (by decide +kernel) (by decide +kernel) fun p H1 B => ?_
    refine tnil ?_
    refine ecat_end B (by simp) fun r rows H1 B hpos => ?_
    refine eseq_cat ?_
    refine econs_some (x := lit "set self abcdefghij k") (z := [lit "set", lit "self", lit "abcdefghij", lit "k"]) (r := ([(lit "set", false), (lit "self", false), (lit "abcdefghij", false), (lit "k", false)], false)) B (fun Q' h => h) (fun R' h => h) (fun _ => id rfl) (by decide +kernel) (by simp) (by decide +kernel) fun p H1 B => ?_
    refine econs_none (x := lit "set self abcdefghijk k") (r := ([(lit "set", false), (lit "self", false), (lit "abcdefghijk", false), (lit "k", false)], false)) B (fun R' h => h) (fun _ => id rfl) (by decide +kernel) (by decide +kernel) fun p H1 B => ?_
    refine econs_none (x := lit "drop self 'a'") (r := ([(lit "drop", false), (lit "self", false), (lit "a", true)], false)) B (fun R' h => h) (fun _ => id rfl) (by decide +kernel) (by decide +kernel) fun p H1 B => ?_
    refine tnil ?_
    refine ecat_end B (by simp) fun r rows H1 B hpos => ?_
    refine eseq_cat ?_
    refine econs_some (x := lit "cut " ++ g ++ lit " " ++ wd) (z := [M78.w_cut, g, wd]) B (fun Q' h => ⟨_, rfl, _, _, rfl, rfl, ?_, _, _, rfl, rfl, ?_, _, rfl, _, _, rfl, rfl, ?_, by rw [lit_eq, lit_eq, S_app, S_app, S_app]; exact h⟩) (fun R' h => ⟨_, rfl, _, rfl, h⟩) hCut hCutA (by simp) hCutL fun p H1 B => ?_
    · rw [lit_eq, S_len, S_len, show (lit "cut ").length = 4 from by decide +kernel]
      exact sz5 (by omega)
    · rw [lit_eq, lit_eq, S_app, S_len, S_len, List.length_append, show (lit "cut ").length = 4 from by decide +kernel, show (lit " ").length = 1 from by decide +kernel]
      exact sz5 (by omega)
    · rw [lit_eq, lit_eq, S_app, S_app, S_len, S_len, List.length_append, List.length_append, show (lit "cut ").length = 4 from by decide +kernel, show (lit " ").length = 1 from by decide +kernel]
      exact sz5 (by omega)
    refine econs_none (x := lit "stop stop") (r := ([(lit "stop", false), (lit "stop", false)], false)) B (fun R' h => h) (fun _ => id rfl) (by decide +kernel) (by decide +kernel) fun p H1 B => ?_
    refine econs_some (x := lit " leave\n") (z := [lit "leave"]) (r := ([(lit "leave", false)], false)) B (fun Q' h => h) (fun R' h => h) (fun _ => id rfl) (by decide +kernel) (by simp) (by decide +kernel) fun p H1 B => ?_
    refine tnil ?_
    refine ecat_end B (by simp) fun r rows H1 B hpos => ?_
    clear hAdd hCut hAddL hCutL hCutA
    have hlen : rows.length = 16 := B.len
    have hrr := B.at_ (fun z => by subst z; exact absurd hpos (by decide))
    refine ⟨.ref Pa, rfl, Pa, 16, rfl, B.st.pool, by decide, fun tn H2 t0 t1 st2 => ?_⟩
    have nr : r ≠ Pa := fun z => by
      subst z
      obtain ⟨pp, l, e, _⟩ := B.st.pool
      rw [hrr] at e
      have e := HO.lst.inj (Option.some.inj e)
      have hm := B.rws
      rw [e] at hm
      obtain ⟨_, _, _, _, e2, _⟩ := hm _ List.mem_cons_self
      cases e2
    have hr2 := st2.kp r _ nr hrr
    refine ⟨.ref r, rfl, .int tn, rfl, tn, rfl, r, rows, rfl, SqL.of hr2, fun p1 hp1 => ⟨.ref r, rfl, .int tn, rfl, tn, rfl, r, rows, rfl, SqL.of ((Same.new hp1) _ _ hr2), fun p2 hp2 => ?_⟩⟩
    have np : p1 ≠ p2 := fun z => by
      subst z
      rw [upd_same] at hp2
      cases hp2
    have st3 : Pst Pa H1 (upd (upd H2 p1 (.lst (cutV rows (some tn) none))) p2 (.lst (cutV rows none (some tn)))) := (st2.new hp1).new hp2
    have hcl : (cutV rows (some tn) none ++ cutV rows none (some tn)).length ≤ 32 := by
      have h1 := cutV_length rows (some tn) none
      have h2 := cutV_length rows none (some tn)
      rw [List.length_append]
      omega
    have hcp : 1 ≤ (cutV rows (some tn) none ++ cutV rows none (some tn)).length := by
      have h1 := cutV_length1 (xs := rows) (tn := tn) t0 (by omega)
      rw [List.length_append]
      omega
    have hcm : ∀ v ∈ cutV rows (some tn) none ++ cutV rows none (some tn), v ∈ rows := fun v hv => by
      rcases List.mem_append.mp hv with hv | hv
      · exact cutV_mem hv
      · exact cutV_mem hv
    refine ⟨p1, p2, cutV rows (some tn) none, cutV rows none (some tn), rfl, rfl, ?_, upd_same, ?_, fun p3 hp3 => ?_⟩
    · rw [upd_ne np, upd_same]
    · have := hcl
      rw [List.length_append] at this
      exact sz5 (by omega)
    generalize hrw : cutV rows (some tn) none ++ cutV rows none (some tn) = rows2 at hcl hcp hcm
    have st4 := (B.st.trans st3).new (o := .lst rows2) hp3
    have hE : ∀ v ∈ rows2, ∃ r, EdgeAt H (upd (upd (upd H2 p1 (.lst (cutV rows (some tn) none))) p2 (.lst (cutV rows none (some tn)))) p3 (.lst rows2)) v r := fun v hv => by
      obtain ⟨r, h⟩ := B.rws v (hcm v hv)
      exact ⟨r, h.mono hPn (st3.new hp3)⟩
    generalize hHH : upd (upd (upd H2 p1 (.lst (cutV rows (some tn) none))) p2 (.lst (cutV rows none (some tn)))) p3 (.lst rows2) = H5 at st4 hE
    have hr5 : H5 p3 = some (.lst rows2) := by
      rw [← hHH, upd_same]
    obtain ⟨l, rfl, hl⟩ := edges_lists hE
    clear hrw hHH
    have hll : l.length ≤ 32 := by rwa [List.length_map] at hcl
    have hl1 : 1 ≤ l.length := by rwa [List.length_map] at hcp
    clear B hcm hlen nr hr2 hp1 hp2 np st3 hcl hcp hp3
    (try simp only [cx_K, cx_w, rIn, rMulS, CwR.tReplC, tM1, tBM0, rPop, rExtend, rReverse, rLenS, rEqE, rNeE, rSetL, rIntI, rIntB, tBM, rAppend, rIxL, rIxT, rCat, rSlL, rSlS, gTup, tYes, wipe, tSeq, tAsg, tIfS, tRet, tRetN, tDrop, tNext, tBreak, tCont, tNever, tAug, ipI, tPar, tPar3, gName, gCons, gNil, gSub, tVar, tC, tOp, tUn, tIf, tAndV, tOrV, tNotV, tAnd, tOr, tNot, L2.tB, tTest, tCmp, tChain, tCB, tCons, tNil, tCall, tTup, tLst, tSl, tPart, tNoPart, rI, rI0, rU, rEq, rNe, scal_ii, scal_ss, scal_bb, scal_nn, scal_is, scal_si, rIxS, S_len, S_cps, S_inj, L2.start, List.map_cons, List.map_nil, List.cons_append, List.nil_append, List.append_nil, List.getElem?_cons_zero, List.getElem?_cons_succ, List.set_cons_zero, List.set_cons_succ, List.length_cons, List.length_nil, Nat.reduceAdd, Nat.reduceSub, List.replicate_succ, List.replicate_zero, Option.some.injEq, V.int.injEq, V.str.injEq, V.bl.injEq, V.ref.injEq, List.cons.injEq, and_true, true_and, exists_eq_left, exists_eq_left', exists_and_left, exists_eq, exists_eq', decide_eq_true_eq, Bool.not_eq_true', decide_eq_false_iff_not, Bool.false_eq_true, if_false, if_true, reduceIte, ite_self, CMul, CPow, CDiv])
    refine ⟨.ref p3, rfl, p3, rfl, ⟨_, SqL.of hr5⟩, fun c hc => lc_list (xs := l.map (fun e => V.ref e.1)) (fun i H6 => Same H5 H6 ∧ H6 c = some (.lst ((l.take i).map fun e => strV e.2.1))) ⟨Same.new hc, upd_same⟩ (fun i H6 _ h => SqL.of (h.1 _ _ hr5)) (fun i x H6 hx hP => ?_) (fun H6 hP => ?_)⟩
    · obtain ⟨s6, e6⟩ := hP
      rw [List.getElem?_map] at hx
      obtain ⟨e, he, rfl⟩ := Option.map_eq_some_iff.mp hx
      have hm := hl e (List.mem_of_getElem? he)
      have hi : i < l.length := (List.getElem?_eq_some_iff.mp he).1
      refine ⟨e.1, _, rfl, SqT.of (s6 _ _ hm.2.1), rfl, ?_⟩
      (try simp only [cx_K, cx_w, rIn, rMulS, CwR.tReplC, tM1, tBM0, rPop, rExtend, rReverse, rLenS, rEqE, rNeE, rSetL, rIntI, rIntB, tBM, rAppend, rIxL, rIxT, rCat, rSlL, rSlS, gTup, tYes, wipe, tSeq, tAsg, tIfS, tRet, tRetN, tDrop, tNext, tBreak, tCont, tNever, tAug, ipI, tPar, tPar3, gName, gCons, gNil, gSub, tVar, tC, tOp, tUn, tIf, tAndV, tOrV, tNotV, tAnd, tOr, tNot, L2.tB, tTest, tCmp, tChain, tCB, tCons, tNil, tCall, tTup, tLst, tSl, tPart, tNoPart, rI, rI0, rU, rEq, rNe, scal_ii, scal_ss, scal_bb, scal_nn, scal_is, scal_si, rIxS, S_len, S_cps, S_inj, L2.start, List.map_cons, List.map_nil, List.cons_append, List.nil_append, List.append_nil, List.getElem?_cons_zero, List.getElem?_cons_succ, List.set_cons_zero, List.set_cons_succ, List.length_cons, List.length_nil, Nat.reduceAdd, Nat.reduceSub, List.replicate_succ, List.replicate_zero, Option.some.injEq, V.int.injEq, V.str.injEq, V.bl.injEq, V.ref.injEq, List.cons.injEq, and_true, true_and, exists_eq_left, exists_eq_left', exists_and_left, exists_eq, exists_eq', decide_eq_true_eq, Bool.not_eq_true', decide_eq_false_iff_not, Bool.false_eq_true, if_false, if_true, reduceIte, ite_self, CMul, CPow, CDiv])
      refine ⟨_, _, ⟨rfl, rfl⟩, _, _, rfl, rfl, _, e6, ?_, s6.mut hc, ?_⟩
      · rw [List.length_map, List.length_take]
        exact sz5' (by omega)
      · rw [upd_same, take_snoc he, List.map_append]
        rfl
    · obtain ⟨s6, e6⟩ := hP
      rw [List.length_map, List.take_length] at e6
      have hxl : ∀ z ∈ l.map (fun e => e.2.1), Sg z ∧ z.length ≤ 60 := fun z hz => by
        obtain ⟨e, he, rfl⟩ := List.mem_map.mp hz
        exact (hl e he).2.2.2.2
      have e6' : H6 c = some (.lst (((l.map fun e => e.2.1).map S).map V.str)) := by
        rw [e6, List.map_map, List.map_map]
        rfl
      have h3 := sum_le (ls := l.map fun e => e.2.1) fun z hz => (hxl z hz).2
      have hj := join_len (l.map fun e => e.2.1) fun z hz => (hxl z hz).2
      rw [List.length_map] at h3 hj
      refine ⟨c, rfl, (l.map fun e => e.2.1).map S, .inl (SqL.of e6'), ?_, ?_, ?_⟩
      · rw [List.length_map, List.length_map, show (Str.ofString ";").length = 1 from rfl]
        omega
      · rw [c_semi, join_S, joinL_semi, S_len, show (Str.ofString ";stop 'x;leave").length = 14 from by decide +kernel]
        exact sz5 (by omega)
      · have hr6 := s6 _ _ hr5
        refine ⟨.ref p3, rfl, p3, rfl, ⟨_, SqL.of hr6⟩, fun d hd => lc_list (xs := l.map (fun e => V.ref e.1)) (fun i H7 => Same H6 H7 ∧ ∃ a2, H7 d = some (.lst a2) ∧ Reps (since H H5) ((((l.take i).map fun e => e.2.2.2).filterMap M78.actL).map strsD) a2) ⟨Same.new hd, [], upd_same, rfl⟩ (fun i H7 _ h => SqL.of (h.1 _ _ hr6)) (fun i x H7 hx hP => ?_) (fun H7 hP => ?_)⟩
        · obtain ⟨s7, a2, e7, r7⟩ := hP
          rw [List.getElem?_map] at hx
          obtain ⟨e, he, rfl⟩ := Option.map_eq_some_iff.mp hx
          have hm := hl e (List.mem_of_getElem? he)
          have hi : i < l.length := (List.getElem?_eq_some_iff.mp he).1
          refine ⟨e.1, _, rfl, SqT.of (s7 _ _ (s6 _ _ hm.2.1)), rfl, ?_⟩
          (try simp only [cx_K, cx_w, rIn, rMulS, CwR.tReplC, tM1, tBM0, rPop, rExtend, rReverse, rLenS, rEqE, rNeE, rSetL, rIntI, rIntB, tBM, rAppend, rIxL, rIxT, rCat, rSlL, rSlS, gTup, tYes, wipe, tSeq, tAsg, tIfS, tRet, tRetN, tDrop, tNext, tBreak, tCont, tNever, tAug, ipI, tPar, tPar3, gName, gCons, gNil, gSub, tVar, tC, tOp, tUn, tIf, tAndV, tOrV, tNotV, tAnd, tOr, tNot, L2.tB, tTest, tCmp, tChain, tCB, tCons, tNil, tCall, tTup, tLst, tSl, tPart, tNoPart, rI, rI0, rU, rEq, rNe, scal_ii, scal_ss, scal_bb, scal_nn, scal_is, scal_si, rIxS, S_len, S_cps, S_inj, L2.start, List.map_cons, List.map_nil, List.cons_append, List.nil_append, List.append_nil, List.getElem?_cons_zero, List.getElem?_cons_succ, List.set_cons_zero, List.set_cons_succ, List.length_cons, List.length_nil, Nat.reduceAdd, Nat.reduceSub, List.replicate_succ, List.replicate_zero, Option.some.injEq, V.int.injEq, V.str.injEq, V.bl.injEq, V.ref.injEq, List.cons.injEq, and_true, true_and, exists_eq_left, exists_eq_left', exists_and_left, exists_eq, exists_eq', decide_eq_true_eq, Bool.not_eq_true', decide_eq_false_iff_not, Bool.false_eq_true, if_false, if_true, reduceIte, ite_self, CMul, CPow, CDiv])
          have ha := hm.2.2.1
          have hl2 := r7.len2
          have hle := List.length_filterMap_le M78.actL ((l.take i).map fun e => e.2.2.2)
          rw [List.length_map, List.length_take] at hle
          refine ⟨_, _, ⟨rfl, rfl⟩, _, _, rfl, rfl, ?_⟩
          cases hA : M78.actL e.2.2.2 with
          | none =>
            rw [hA] at ha
            have ha : e.2.2.1 = .non := ha
            refine ite2 (fun h => ?_) (fun _ => ⟨s7, a2, e7, ?_⟩)
            · rw [ha] at h
              simp at h
            · rw [take_snoc he, List.map_append, List.filterMap_append, List.map_cons, List.filterMap_cons, hA]
              simpa using r7
          | some z =>
            rw [hA] at ha
            refine ite2 (fun h => ⟨a2, e7, sz5' (by omega), s7.mut hd, _, upd_same, ?_⟩) (fun h => ?_)
            · rw [take_snoc he, List.map_append, List.filterMap_append, List.map_cons, List.filterMap_cons, hA, List.map_append]
              exact r7.snoc ha
            · obtain ⟨_, _, e8, _⟩ := ha
              rw [e8] at h
              simp at h
        · obtain ⟨s7, a2, e7, r7⟩ := hP
          rw [List.length_map, List.take_length] at r7
          refine ⟨by decide, fun t ht => ?_⟩
          have s67 := s6.trans s7
          have st7 : Pst Pa H H7 := st4.same s67
          have ntd : d ≠ t := fun z => by
            subst z
            rw [e7] at ht
            cases ht
          have eT : Str.ofString ";stop 'x;leave" = S (lit ";stop 'x;leave") := lit_eq _
          rw [c_semi, join_S, joinL_semi, eT, S_app]
          have hact := edges_text (l := l) (fun e he => (hl e he).2.2.2.1) hl1
          refine q t d _ _ (st7.new ht) (st7.free ht) upd_same ?_ (sg_app (join_sg _ fun z hz => (hxl z hz).1) (by decide +kernel)) ?_
          · rw [M78.acts_eq, hact]
            have hd0 : H d = none := (st4.same s6).free hd
            refine ⟨d, a2, rfl, since_some.mpr ⟨hd0, ?_⟩, r7.mono ((since_right s67).trans (since_right (Same.new ht)))⟩
            rw [upd_ne ntd]
            exact e7
          · rw [List.length_append, show (lit ";stop 'x;leave").length = 14 from by decide +kernel]
            omega
end
end K78


namespace K78
open PySem PySem.Spec PyProof.Rows L2 KB
section
variable {P : Program} {w : World} {K : PySem.W.Frag} {mg : Str → Option Value} {base : Heap}
def partD (p : List M78.Word × Bool) : D := .tup [wordsD p.1, .bl p.2]
def modeV : M78.Mode → V
  | .out => .str "out"
  | .closed => .str "closed"
  | .word _ => .str "word"
  | .quote _ => .str "quote"
theorem ne_out_closed : (Str.ofString "out" = Str.ofString "closed") = False := eq_false (by decide +kernel)
theorem ne_out_word : (Str.ofString "out" = Str.ofString "word") = False := eq_false (by decide +kernel)
theorem ne_out_quote : (Str.ofString "out" = Str.ofString "quote") = False := eq_false (by decide +kernel)
theorem ne_closed_out : (Str.ofString "closed" = Str.ofString "out") = False := eq_false (by decide +kernel)
theorem ne_closed_word : (Str.ofString "closed" = Str.ofString "word") = False := eq_false (by decide +kernel)
theorem ne_closed_quote : (Str.ofString "closed" = Str.ofString "quote") = False := eq_false (by decide +kernel)
theorem ne_word_out : (Str.ofString "word" = Str.ofString "out") = False := eq_false (by decide +kernel)
theorem ne_word_closed : (Str.ofString "word" = Str.ofString "closed") = False := eq_false (by decide +kernel)
theorem ne_word_quote : (Str.ofString "word" = Str.ofString "quote") = False := eq_false (by decide +kernel)
theorem ne_quote_out : (Str.ofString "quote" = Str.ofString "out") = False := eq_false (by decide +kernel)
theorem ne_quote_closed : (Str.ofString "quote" = Str.ofString "closed") = False := eq_false (by decide +kernel)
theorem ne_quote_word : (Str.ofString "quote" = Str.ofString "word") = False := eq_false (by decide +kernel)
theorem modeV_out : modeV .out = .str "out" := id rfl
theorem modeV_closed : modeV .closed = .str "closed" := id rfl
theorem modeV_word (x : List Nat) : modeV (.word x) = .str "word" := id rfl
theorem modeV_quote (x : List Nat) : modeV (.quote x) = .str "quote" := id rfl
theorem walk_S (l : List Nat) : Walk (Its (S l)) l.length (fun _ => True) (fun i H v H' => H' = H ∧ ∃ c, l[i]? = some c ∧ v = .str ⟨#[c]⟩) := by
  have h := walk_str (z := S l)
  have e : (S l).cps.size = l.length := by simp [S]
  rw [e] at h
  refine h.mono (fun _ _ => trivial) fun i H x H' _ _ y => ?_
  obtain ⟨e1, c, hc, e2⟩ := y
  exact ⟨e1, c, by simpa [S] using hc, e2⟩
structure QInv (H H1 : Hp) (p wd : Addr) (ps ws : List V) (done : List (List M78.Word × Bool)) (cur : List M78.Word) (n : Nat) : Prop where
  sm : Same H H1
  hp : H p = none
  hw : H wd = none
  ne : p ≠ wd
  ep : H1 p = some (.lst ps)
  ew : H1 wd = some (.lst ws)
  rp : Reps (hide [p, wd] (since H H1)) (done.map partD) ps
  rw : Reps (hide [p, wd] (since H H1)) (cur.map wordD) ws
  hd : done.length ≤ n
  hc : cur.length ≤ n
theorem QInv.up {H H1 : Hp} {p wd : Addr} {ps ws : List V} {done : List (List M78.Word × Bool)} {cur : List M78.Word} {n : Nat} (h : QInv H H1 p wd ps ws done cur n) : QInv H H1 p wd ps ws done cur (n + 1) :=
  ⟨h.sm, h.hp, h.hw, h.ne, h.ep, h.ew, h.rp, h.rw, Nat.le_succ_of_le h.hd, Nat.le_succ_of_le h.hc⟩
theorem QInv.new {H H1 : Hp} {p wd t : Addr} {o : HO} {ps ws : List V} {done : List (List M78.Word × Bool)} {cur : List M78.Word} {n : Nat} (h : QInv H H1 p wd ps ws done cur n) (ht : H1 t = none) : QInv H (upd H1 t o) p wd ps ws done cur n :=
  ⟨h.sm.trans (Same.new ht), h.hp, h.hw, h.ne, (Same.new ht) _ _ h.ep, (Same.new ht) _ _ h.ew, h.rp.mono (since_right (Same.new ht)).hide, h.rw.mono (since_right (Same.new ht)).hide, h.hd, h.hc⟩
theorem QInv.word {H H1 : Hp} {p wd t : Addr} {ps ws : List V} {done : List (List M78.Word × Bool)} {cur : List M78.Word} {n : Nat} (h : QInv H H1 p wd ps ws done cur n) {wo : M78.Word} (ht : H1 t = none) :
    QInv H (upd (upd H1 t (.tup [.str (S wo.1), .bl wo.2])) wd (.lst (ws ++ [.ref t]))) p wd ps (ws ++ [.ref t]) done (cur ++ [wo]) (n + 1) := by
  have htw : t ≠ wd := fun z => by
    subst z
    rw [h.ew] at ht
    cases ht
  have htp : t ≠ p := fun z => by
    subst z
    rw [h.ep] at ht
    cases ht
  have hHt : H t = none := h.sm.free ht
  have h1 := h.new (o := .tup [.str (S wo.1), .bl wo.2]) ht
  have mono : Same (hide [p, wd] (since H (upd H1 t (.tup [.str (S wo.1), .bl wo.2])))) (hide [p, wd] (since H (upd (upd H1 t (.tup [.str (S wo.1), .bl wo.2])) wd (.lst (ws ++ [.ref t]))))) := hs_upd (by simp)
  refine ⟨h1.sm.mut h.hw, h.hp, h.hw, h.ne, ?_, upd_same, h1.rp.mono mono, ?_, Nat.le_succ_of_le h.hd, ?_⟩
  · rw [upd_ne h.ne]
    exact h1.ep
  · rw [List.map_append]
    refine (h1.rw.mono mono).snoc ⟨t, _, rfl, hide_some.mpr ⟨by simp [htw, htp], since_some.mpr ⟨hHt, ?_⟩⟩, _, _, rfl, rfl, _, _, rfl, rfl, rfl⟩
    rw [upd_ne htw, upd_same]
  · rw [List.length_append, List.length_singleton]
    have := h.hc
    omega
theorem QInv.semi {H H1 : Hp} {p wd t q : Addr} {ps ws : List V} {done : List (List M78.Word × Bool)} {cur : List M78.Word} {n : Nat} {sp : Bool} (h : QInv H H1 p wd ps ws done cur n) (ht : H1 t = none) (hq : upd (upd H1 t (.tup [.ref wd, .bl sp])) p (.lst (ps ++ [.ref t])) q = none) :
    QInv H (upd (upd (upd H1 t (.tup [.ref wd, .bl sp])) p (.lst (ps ++ [.ref t]))) q (.lst [])) p q (ps ++ [.ref t]) [] (done ++ [(cur, sp)]) [] (n + 1) := by
  have htw : t ≠ wd := fun z => by
    subst z
    rw [h.ew] at ht
    cases ht
  have htp : t ≠ p := fun z => by
    subst z
    rw [h.ep] at ht
    cases ht
  have hHt : H t = none := h.sm.free ht
  have hqp : q ≠ p := fun z => by
    subst z
    rw [upd_same] at hq
    cases hq
  rw [upd_ne hqp] at hq
  have h1 := h.new (o := .tup [.ref wd, .bl sp]) ht
  have hqw : q ≠ wd := fun z => by
    subst z
    rw [h1.ew] at hq
    cases hq
  have hqt : q ≠ t := fun z => by
    subst z
    rw [upd_same] at hq
    cases hq
  have hHq : H q = none := h1.sm.free hq
  have mono : Same (hide [p, wd] (since H (upd H1 t (.tup [.ref wd, .bl sp])))) (hide [p, q] (since H (upd (upd (upd H1 t (.tup [.ref wd, .bl sp])) p (.lst (ps ++ [.ref t]))) q (.lst [])))) := fun b o e => by
    obtain ⟨e1, e2⟩ := hide_some.mp e
    obtain ⟨e3, e4⟩ := since_some.mp e2
    have hb : b ≠ p ∧ b ≠ wd := by simpa using e1
    have hbq : b ≠ q := fun z => by
      subst z
      rw [hq] at e4
      cases e4
    refine hide_some.mpr ⟨by simp [hb.1, hbq], since_some.mpr ⟨e3, ?_⟩⟩
    rw [upd_ne hbq, upd_ne hb.1]
    exact e4
  refine ⟨(h1.sm.mut h.hp).mut hHq, h.hp, hHq, hqp.symm, ?_, upd_same, ?_, rfl, ?_, Nat.zero_le _⟩
  · rw [upd_ne hqp.symm, upd_same]
  · rw [List.map_append]
    refine (h1.rp.mono mono).snoc ⟨t, _, rfl, hide_some.mpr ⟨by simp [htp, hqt.symm], since_some.mpr ⟨hHt, ?_⟩⟩, _, _, rfl, ⟨wd, ws, rfl, hide_some.mpr ⟨by simp [h.ne.symm, hqw.symm], since_some.mpr ⟨h.hw, ?_⟩⟩, h1.rw.mono mono⟩, _, _, rfl, rfl, rfl⟩
    · rw [upd_ne hqt.symm, upd_ne htp, upd_same]
    · rw [upd_ne hqw.symm, upd_ne h.ne.symm]
      exact h1.ew
  · rw [List.length_append, List.length_singleton]
    have := h.hd
    omega
def PNext (H : Hp) (l : List Nat) (i : Nat) (σ : L2.St) (H1 : Hp) : Prop := ∃ (m : M78.Mode) (e6 : Option V) (wv : List Nat) (sp : Bool) (p wd : Addr) (ps ws : List V) (done : List (List M78.Word × Bool)) (cur : List M78.Word),
        σ = [some (.str (S l)), some (.ref p), some (.ref wd), some (.bl sp), some (modeV m), some (.str (S wv)), e6] ∧ (∀ x, m = .word x ∨ m = .quote x → x = wv) ∧ wv.length ≤ i ∧ QInv H H1 p wd ps ws done cur i ∧ done ++ M78.lrun cur sp m ((l ++ [59]).drop i) = M78.lrun [] false .out (l ++ [59])
theorem tail_out {H H2 : Hp} {l : List Nat} {p wd : Addr} {ps ws : List V} {done : List (List M78.Word × Bool)} {cur : List M78.Word} {i c : Nat} {sp : Bool} {wv : List Nat} (I : QInv H H2 p wd ps ws done cur i) (hil : i ≤ 100001) (hwl : wv.length ≤ i)
    (hmath : done ++ M78.lrun cur sp .out (c :: (l ++ [59]).drop (i + 1)) = M78.lrun [] false .out (l ++ [59])) :
    if c = 59 then
      tyV K "list" (V.ref p) H2 ∧ 2 ≤ sizeLine ∧ ∀ (p_1 : Addr), H2 p_1 = none → ∃ x, upd H2 p_1 (HO.tup [V.ref wd, V.bl sp]) p = some (HO.lst x) ∧ x.length < sizeLine ∧ 0 ≤ sizeLine ∧
        ∀ (p_2 : Addr), upd (upd H2 p_1 (HO.tup [V.ref wd, V.bl sp])) p (HO.lst (x ++ [V.ref p_1])) p_2 = none → ∃ v w, (V.ref p_2 = v ∧ V.bl false = w) ∧
          PNext H l (i + 1) [some (V.str (S l)), some (V.ref p), some v, some w, some (V.str (Str.ofString "out")), some (V.str (S wv)), some (V.str { cps := #[c] })]
            (upd (upd (upd H2 p_1 (HO.tup [V.ref wd, V.bl sp])) p (HO.lst (x ++ [V.ref p_1]))) p_2 (HO.lst []))
    else if c = 39 then
      2 ≤ sizeLine ∧ ∀ (p_1 : Addr), H2 p_1 = none → ∃ x, SqT K (upd H2 p_1 (HO.tup [V.str (Str.ofString "quote"), V.str (Str.ofString "")])) p_1 x ∧ x.length = 2 ∧ ∃ v r, x = v :: r ∧ ∃ v_1 r_1, r = v_1 :: r_1 ∧ r_1 = [] ∧
        PNext H l (i + 1) [some (V.str (S l)), some (V.ref p), some (V.ref wd), some (V.bl sp), some v, some v_1, some (V.str { cps := #[c] })] (upd H2 p_1 (HO.tup [V.str (Str.ofString "quote"), V.str (Str.ofString "")]))
    else if ¬c ∈ [32, 10] then
      ∃ v w, (V.str (Str.ofString "word") = v ∧ V.str { cps := #[c] } = w) ∧ PNext H l (i + 1) [some (V.str (S l)), some (V.ref p), some (V.ref wd), some (V.bl sp), some v, some w, some (V.str { cps := #[c] })] H2
    else PNext H l (i + 1) [some (V.str (S l)), some (V.ref p), some (V.ref wd), some (V.bl sp), some (V.str (Str.ofString "out")), some (V.str (S wv)), some (V.str { cps := #[c] })] H2 := by
  have hdl := I.hd
  have hcl := I.hc
  have hpl := I.rp.len2
  have no : ∀ {m : M78.Mode} {w : List Nat}, m = .out → ∀ x, m = .word x ∨ m = .quote x → x = w := fun h x z => by
    rcases z with z | z <;> (rw [h] at z; cases z)
  refine ite2 (fun h => ?_) (fun h => ite2 (fun h39 => ?_) (fun h39 => ite2 (fun hb => ?_) (fun hb => ?_)))
  · subst h
    refine ⟨.inl ⟨rfl, _, SqL.of I.ep⟩, by decide, fun t ht => ⟨ps, (I.new ht).ep, sz5' (by omega), by decide, fun q hq => ⟨_, _, ⟨rfl, rfl⟩, .out, _, wv, false, p, q, _, _, _, _, rfl, no rfl, by omega, I.semi ht hq, ?_⟩⟩⟩
    rw [M78.lrun, if_pos rfl] at hmath
    rw [← hmath, List.append_assoc]
    rfl
  · subst h39
    refine ⟨by decide, fun t ht => ⟨_, SqT.of upd_same, rfl, _, _, rfl, _, _, rfl, rfl, .quote [], _, [], sp, p, wd, _, _, _, _, rfl, ?_, Nat.zero_le _, (I.new ht).up, ?_⟩⟩
    · rintro x (z | z) <;> cases z
      rfl
    · rw [M78.lrun, if_neg (by decide), if_pos rfl] at hmath
      exact hmath
  · have hb2 : ¬ M78.isBl c = true := fun z => hb (by
      unfold M78.isBl at z
      simpa using z)
    refine ⟨_, _, ⟨rfl, rfl⟩, .word [c], _, [c], sp, p, wd, _, _, _, _, rfl, ?_, by simp, I.up, ?_⟩
    · rintro x (z | z) <;> cases z
      rfl
    · rw [M78.lrun, if_neg h, if_neg h39, if_neg hb2] at hmath
      exact hmath
  · have hb2 : M78.isBl c = true := by
      have hb : c ∈ [32, 10] := Decidable.of_not_not hb
      unfold M78.isBl
      simpa using hb
    refine ⟨.out, _, wv, sp, p, wd, _, _, _, _, rfl, no rfl, by omega, I.up, ?_⟩
    rw [M78.lrun, if_neg h, if_neg h39, if_pos hb2] at hmath
    exact hmath
theorem lrun_closed1 {ws : List M78.Word} {sp : Bool} {c : Nat} {r : List Nat} : M78.lrun ws sp .closed (c :: r) = M78.lrun ws (sp || !decide (c ∈ [32, 10, 59])) .out (c :: r) := by
  by_cases h1 : c = 59
  · subst h1
    simp [M78.lrun]
  · by_cases h2 : c = 39
    · subst h2
      simp [M78.lrun]
    · by_cases h3 : M78.isBl c = true
      · have : c ∈ [32, 10, 59] := by
          unfold M78.isBl at h3
          simp at h3
          rcases h3 with h | h <;> simp [h]
        simp only [M78.lrun, h1, h2, h3, if_false, if_true, this, decide_true, Bool.not_true, Bool.or_false]
      · have : ¬ c ∈ [32, 10, 59] := fun z => h3 (by
          unfold M78.isBl
          simp at z
          rcases z with z | z | z
          · simp [z]
          · simp [z]
          · exact absurd z h1)
        simp only [M78.lrun, h1, h2, h3, if_false, this, decide_false, Bool.not_false, Bool.or_true]
        simp
def spParts : Sp := fun vs H Q _ => ∃ l : List Nat, vs = [.str (S l)] ∧ l.length ≤ 100000 ∧ ∀ v H', Same H H' → Rep (since H H') (.lst ((M78.lrun [] false .out (l ++ [59])).map partD)) v → Q v H'
theorem okParts (T : Top K w mg) : Ok P w K mg base CX0 1 "_law_parts" ["text"] spParts := by
  refine mkOk T.f__law_parts scLawParts (fun vs H Q E h => ?_) (fun f cdv A outer s H vs Q E hr h => ?_)
  · obtain ⟨_, rfl, _⟩ := h
    rfl
  · obtain ⟨l, rfl, hl, q⟩ := h
    refine ⟨_, pss_cons (ps_asg (pe_tup (pa_cons (pe_lst (pa_nil)) (pa_cons (pe_lst (pa_nil)) (pa_cons (pe_bl) (pa_cons (pe_str) (pa_cons (pe_str) pa_nil)))))) (pg_tup (n := 5) rfl (pgs_cons (pg_name (i := 1) scLawParts.nd rfl (Or.inl rfl)) (pgs_cons (pg_name (i := 2) scLawParts.nd rfl (Or.inl rfl)) (pgs_cons (pg_name (i := 3) scLawParts.nd rfl (Or.inl rfl)) (pgs_cons (pg_name (i := 4) scLawParts.nd rfl (Or.inl rfl)) (pgs_cons (pg_name (i := 5) scLawParts.nd rfl (Or.inl rfl)) pgs_nil)))))))
  (pss_cons (ps_for PassesOwn.never rfl (pi_str (pe_op op_add_str (pv 0) (pe_str))) (pg_name (i := 6) scLawParts.nd rfl (Or.inl rfl))
  (pss_one (ps_if (pt_cmpR op_eq (pv 4) (pe_str) (nomark _))
  (pss_one (ps_if (pt_cmpR op_eq (pv 6) (pe_str) (nomark _))
  (pss_cons (ps_expr (pe_bm PySem.F.plainAttrs_list PySem.F.slot_list_append PySem.F.type_list_append mt_append (pv 2) (pa_cons (pe_tup (pa_cons (pv 5) (pa_cons (pe_bl) pa_nil))) pa_nil)))
  (pss_one (ps_set (i := 4) scLawParts.nd rfl (Or.inl rfl) (pe_str))))
  (pss_one (ps_set (i := 5) scLawParts.nd rfl (Or.inl rfl) (pe_op op_add_str (pv 5) (pv 6))))))
  (pss_cons (ps_if (pt_cmpR op_eq (pv 4) (pe_str) (nomark _))
  (pss_cons (ps_set (i := 3) scLawParts.nd rfl (Or.inl rfl) (pe_or (pv 3) (pe_one (pe_cmpR op_notIn_sign (pv 6) (pe_str) rfl))))
  (pss_one (ps_set (i := 4) scLawParts.nd rfl (Or.inl rfl) (pe_str))))
  (pss_nil))
  (pss_cons (ps_if (PW.pt (pw_and (pt_cmpR op_eq (pv 4) (pe_str) (nomark _)) (pw_and1 (pt_cmpR op_in_sign (pv 6) (pe_str) rfl))))
  (pss_cons (ps_expr (pe_bm PySem.F.plainAttrs_list PySem.F.slot_list_append PySem.F.type_list_append mt_append (pv 2) (pa_cons (pe_tup (pa_cons (pv 5) (pa_cons (pe_bl) pa_nil))) pa_nil)))
  (pss_one (ps_set (i := 4) scLawParts.nd rfl (Or.inl rfl) (pe_str))))
  (pss_nil))
  (pss_one (ps_if (pt_cmpR op_eq (pv 6) (pe_str) (nomark _))
  (pss_cons (ps_expr (pe_bm PySem.F.plainAttrs_list PySem.F.slot_list_append PySem.F.type_list_append mt_append (pv 1) (pa_cons (pe_tup (pa_cons (pv 2) (pa_cons (pv 3) pa_nil))) pa_nil)))
  (pss_one (ps_par (i := 2) (j := 3) rfl scLawParts.nd rfl rfl (by decide) rfl rfl (pa_cons (pe_lst (pa_nil)) (pa_cons (pe_bl) pa_nil)) (by rfl))))
  (pss_one (ps_if (pt_cmpR op_eq (pv 4) (pe_str) (nomark _))
  (pss_one (ps_set (i := 5) scLawParts.nd rfl (Or.inl rfl) (pe_op op_add_str (pv 5) (pv 6))))
  (pss_one (ps_if (pt_cmpR op_eq (pv 6) (pe_str) (nomark _))
  (pss_one (ps_asg (pe_tup (pa_cons (pe_str) (pa_cons (pe_str) pa_nil))) (pg_tup (n := 2) rfl (pgs_cons (pg_name (i := 4) scLawParts.nd rfl (Or.inl rfl)) (pgs_cons (pg_name (i := 5) scLawParts.nd rfl (Or.inl rfl)) pgs_nil)))))
  (pss_one (ps_if (pt_cmpR op_notIn_sign (pv 6) (pe_str) rfl)
  (pss_one (ps_par (i := 4) (j := 5) rfl scLawParts.nd rfl rfl (by decide) rfl rfl (pa_cons (pe_str) (pa_cons (pv 6) pa_nil)) (by rfl)))
  (pss_nil))))))))))))))
  (pss_one (ps_ret (pv 1)))), ?_⟩
    (try simp only [cx_K, cx_w, rIn, rMulS, CwR.tReplC, tM1, tBM0, rPop, rExtend, rReverse, rLenS, rEqE, rNeE, rSetL, rIntI, rIntB, tBM, rAppend, rIxL, rIxT, rCat, rSlL, rSlS, gTup, tYes, wipe, tSeq, tAsg, tIfS, tRet, tRetN, tDrop, tNext, tBreak, tCont, tNever, tAug, ipI, tPar, tPar3, gName, gCons, gNil, gSub, tVar, tC, tOp, tUn, tIf, tAndV, tOrV, tNotV, tAnd, tOr, tNot, L2.tB, tTest, tCmp, tChain, tCB, tCons, tNil, tCall, tTup, tLst, tSl, tPart, tNoPart, rI, rI0, rU, rEq, rNe, scal_ii, scal_ss, scal_bb, scal_nn, scal_is, scal_si, rIxS, S_len, S_cps, S_inj, L2.start, List.map_cons, List.map_nil, List.cons_append, List.nil_append, List.append_nil, List.getElem?_cons_zero, List.getElem?_cons_succ, List.set_cons_zero, List.set_cons_succ, List.length_cons, List.length_nil, Nat.reduceAdd, Nat.reduceSub, List.replicate_succ, List.replicate_zero, Option.some.injEq, V.int.injEq, V.str.injEq, V.bl.injEq, V.ref.injEq, List.cons.injEq, and_true, true_and, exists_eq_left, exists_eq_left', exists_and_left, exists_eq, exists_eq', decide_eq_true_eq, Bool.not_eq_true', decide_eq_false_iff_not, Bool.false_eq_true, if_false, if_true, reduceIte, ite_self, CMul, CPow, CDiv])
    have hz : l.length + 1 ≤ sizeLine := sz5 (by omega)
    refine ⟨by decide, fun p hp => ⟨by decide, fun wd hwd => ⟨by decide, fun t0 ht0 => ⟨_, SqT.of upd_same, rfl, _, _, rfl, _, _, rfl, _, _, rfl, _, _, rfl, _, _, rfl, rfl, ?_⟩⟩⟩⟩
    have hne : wd ≠ p := fun z => by
      subst z
      rw [upd_same] at hwd
      cases hwd
    have hwd1 : H wd = none := by
      rw [upd_ne hne] at hwd
      exact hwd
    have I0 : QInv H (upd (upd (upd H p (.lst [])) wd (.lst [])) t0 (.tup [.ref p, .ref wd, .bl false, .str (Str.ofString "out"), .str (Str.ofString "")])) p wd [] [] [] [] 0 :=
      ⟨((Same.new hp).trans (Same.new hwd)).trans (Same.new ht0), hp, hwd1, hne.symm, (Same.new ht0) _ _ (by rw [upd_ne hne.symm, upd_same]), (Same.new ht0) _ _ upd_same, rfl, rfl, Nat.zero_le _, Nat.zero_le _⟩
    refine ⟨.str (S l), rfl, S l, rfl, S [59], rfl, hz, S (l ++ [59]), congrArg V.str (S_app _ _), for_it (n := (l ++ [59]).length) (walk_S (l ++ [59])) (PNext H l)
      ⟨.out, none, [], false, p, wd, [], [], [], [], rfl, fun x h => (by rcases h with h | h <;> cases h), Nat.le_refl _, I0, rfl⟩ (fun _ _ _ _ _ => trivial) (fun i x σ H1 H2 hi hP hY => ?_) (fun σ H1 hP => ?_)⟩
    · clear I0 hwd1 hne ht0 hwd hp
      clear t0 wd p
      obtain ⟨rfl, c, hc, rfl⟩ := hY
      obtain ⟨m, e6, wv, sp, p, wd, ps, ws, done, cur, rfl, hm, hwl, I, hmath⟩ := hP
      have hLl : (l ++ [59]).length = l.length + 1 := by rw [List.length_append]; rfl
      have hdrop : (l ++ [59]).drop i = c :: (l ++ [59]).drop (i + 1) := by
        have := List.drop_eq_getElem_cons hi
        rw [this]
        congr 1
        rw [List.getElem?_eq_getElem hi] at hc
        exact Option.some.inj hc
      rw [hdrop] at hmath
      have e1 : ∀ k, (({ cps := #[c] } : Str) = S [k]) ↔ c = k := fun k => by
        show (S [c] = S [k]) ↔ _
        rw [S_inj]
        simp
      have eb : (Str.ofString " \n;").cps.toList = [32, 10, 59] := id rfl
      cases m with
      | quote x =>
        obtain rfl := hm x (.inr rfl)
        simp only [modeV_out, modeV_closed, modeV_word, modeV_quote]
        (try simp only [cx_K, cx_w, rIn, rMulS, CwR.tReplC, tM1, tBM0, rPop, rExtend, rReverse, rLenS, rEqE, rNeE, rSetL, rIntI, rIntB, tBM, rAppend, rIxL, rIxT, rCat, rSlL, rSlS, gTup, tYes, wipe, tSeq, tAsg, tIfS, tRet, tRetN, tDrop, tNext, tBreak, tCont, tNever, tAug, ipI, tPar, tPar3, gName, gCons, gNil, gSub, tVar, tC, tOp, tUn, tIf, tAndV, tOrV, tNotV, tAnd, tOr, tNot, L2.tB, tTest, tCmp, tChain, tCB, tCons, tNil, tCall, tTup, tLst, tSl, tPart, tNoPart, rI, rI0, rU, rEq, rNe, scal_ii, scal_ss, scal_bb, scal_nn, scal_is, scal_si, rIxS, S_len, S_cps, S_inj, L2.start, List.map_cons, List.map_nil, List.cons_append, List.nil_append, List.append_nil, List.getElem?_cons_zero, List.getElem?_cons_succ, List.set_cons_zero, List.set_cons_succ, List.length_cons, List.length_nil, Nat.reduceAdd, Nat.reduceSub, List.replicate_succ, List.replicate_zero, Option.some.injEq, V.int.injEq, V.str.injEq, V.bl.injEq, V.ref.injEq, List.cons.injEq, and_true, true_and, exists_eq_left, exists_eq_left', exists_and_left, exists_eq, exists_eq', decide_eq_true_eq, Bool.not_eq_true', decide_eq_false_iff_not, Bool.false_eq_true, if_false, if_true, reduceIte, ite_self, CMul, CPow, CDiv])
        simp only [ne_out_closed, ne_out_word, ne_out_quote, ne_closed_out, ne_closed_word, ne_closed_quote, ne_word_out, ne_word_closed, ne_word_quote, ne_quote_out, ne_quote_closed, ne_quote_word, c_q, c_semi, c_blk, eb, e1, if_false, if_true]
        have hdl := I.hd
        have hcl := I.hc
        have hpl := I.rp.len2
        have hwl2 := I.rw.len2
        have hil : i ≤ 100001 := by omega
        have eSc : S x ++ ({ cps := #[c] } : Str) = S (x ++ [c]) := S_app x [c]
        rw [eSc]
        refine ite2 (fun h => ?_) (fun h => ⟨sz5 (by have : List.length x = x.length := rfl; omega), .quote (x ++ [c]), _, x ++ [c], sp, p, wd, _, _, _, _, rfl, ?_, by rw [List.length_append, List.length_singleton]; omega, I.up, ?_⟩)
        · subst h
          refine ⟨.inl ⟨rfl, _, SqL.of I.ew⟩, by decide, fun t ht => ⟨ws, (I.new ht).ew, sz5' (by omega), .closed, _, x, sp, p, wd, _, _, _, _, rfl, ?_, by omega, I.word (wo := (x, true)) ht, ?_⟩⟩
          · rintro x (z | z) <;> cases z
          · rw [M78.lrun, if_pos rfl] at hmath
            exact hmath
        · rintro x (z | z) <;> cases z
          rfl
        · rw [M78.lrun, if_neg h] at hmath
          exact hmath
      | closed =>
        simp only [modeV_out, modeV_closed, modeV_word, modeV_quote]
        (try simp only [cx_K, cx_w, rIn, rMulS, CwR.tReplC, tM1, tBM0, rPop, rExtend, rReverse, rLenS, rEqE, rNeE, rSetL, rIntI, rIntB, tBM, rAppend, rIxL, rIxT, rCat, rSlL, rSlS, gTup, tYes, wipe, tSeq, tAsg, tIfS, tRet, tRetN, tDrop, tNext, tBreak, tCont, tNever, tAug, ipI, tPar, tPar3, gName, gCons, gNil, gSub, tVar, tC, tOp, tUn, tIf, tAndV, tOrV, tNotV, tAnd, tOr, tNot, L2.tB, tTest, tCmp, tChain, tCB, tCons, tNil, tCall, tTup, tLst, tSl, tPart, tNoPart, rI, rI0, rU, rEq, rNe, scal_ii, scal_ss, scal_bb, scal_nn, scal_is, scal_si, rIxS, S_len, S_cps, S_inj, L2.start, List.map_cons, List.map_nil, List.cons_append, List.nil_append, List.append_nil, List.getElem?_cons_zero, List.getElem?_cons_succ, List.set_cons_zero, List.set_cons_succ, List.length_cons, List.length_nil, Nat.reduceAdd, Nat.reduceSub, List.replicate_succ, List.replicate_zero, Option.some.injEq, V.int.injEq, V.str.injEq, V.bl.injEq, V.ref.injEq, List.cons.injEq, and_true, true_and, exists_eq_left, exists_eq_left', exists_and_left, exists_eq, exists_eq', decide_eq_true_eq, Bool.not_eq_true', decide_eq_false_iff_not, Bool.false_eq_true, if_false, if_true, reduceIte, ite_self, CMul, CPow, CDiv])
        simp only [ne_out_closed, ne_out_word, ne_out_quote, ne_closed_out, ne_closed_word, ne_closed_quote, ne_word_out, ne_word_closed, ne_word_quote, ne_quote_out, ne_quote_closed, ne_quote_word, c_q, c_semi, c_blk, eb, e1, if_false, if_true]
        have hdl := I.hd
        have hcl := I.hc
        have hpl := I.rp.len2
        have hwl2 := I.rw.len2
        have hil : i ≤ 100001 := by omega
        rw [lrun_closed1] at hmath
        refine ite2 (fun h => ?_) (fun h => ?_)
        · subst h
          rw [Bool.true_or] at hmath
          exact tail_out I hil hwl hmath
        · have h : sp = false := by simpa using h
          subst h
          rw [Bool.false_or] at hmath
          exact tail_out I hil hwl hmath
      | out =>
        simp only [modeV_out, modeV_closed, modeV_word, modeV_quote]
        (try simp only [cx_K, cx_w, rIn, rMulS, CwR.tReplC, tM1, tBM0, rPop, rExtend, rReverse, rLenS, rEqE, rNeE, rSetL, rIntI, rIntB, tBM, rAppend, rIxL, rIxT, rCat, rSlL, rSlS, gTup, tYes, wipe, tSeq, tAsg, tIfS, tRet, tRetN, tDrop, tNext, tBreak, tCont, tNever, tAug, ipI, tPar, tPar3, gName, gCons, gNil, gSub, tVar, tC, tOp, tUn, tIf, tAndV, tOrV, tNotV, tAnd, tOr, tNot, L2.tB, tTest, tCmp, tChain, tCB, tCons, tNil, tCall, tTup, tLst, tSl, tPart, tNoPart, rI, rI0, rU, rEq, rNe, scal_ii, scal_ss, scal_bb, scal_nn, scal_is, scal_si, rIxS, S_len, S_cps, S_inj, L2.start, List.map_cons, List.map_nil, List.cons_append, List.nil_append, List.append_nil, List.getElem?_cons_zero, List.getElem?_cons_succ, List.set_cons_zero, List.set_cons_succ, List.length_cons, List.length_nil, Nat.reduceAdd, Nat.reduceSub, List.replicate_succ, List.replicate_zero, Option.some.injEq, V.int.injEq, V.str.injEq, V.bl.injEq, V.ref.injEq, List.cons.injEq, and_true, true_and, exists_eq_left, exists_eq_left', exists_and_left, exists_eq, exists_eq', decide_eq_true_eq, Bool.not_eq_true', decide_eq_false_iff_not, Bool.false_eq_true, if_false, if_true, reduceIte, ite_self, CMul, CPow, CDiv])
        simp only [ne_out_closed, ne_out_word, ne_out_quote, ne_closed_out, ne_closed_word, ne_closed_quote, ne_word_out, ne_word_closed, ne_word_quote, ne_quote_out, ne_quote_closed, ne_quote_word, c_q, c_semi, c_blk, eb, e1, if_false, if_true]
        have hdl := I.hd
        have hcl := I.hc
        have hpl := I.rp.len2
        have hwl2 := I.rw.len2
        have hil : i ≤ 100001 := by omega
        exact tail_out I hil hwl hmath
      | word x =>
        obtain rfl := hm x (.inl rfl)
        simp only [modeV_out, modeV_closed, modeV_word, modeV_quote]
        (try simp only [cx_K, cx_w, rIn, rMulS, CwR.tReplC, tM1, tBM0, rPop, rExtend, rReverse, rLenS, rEqE, rNeE, rSetL, rIntI, rIntB, tBM, rAppend, rIxL, rIxT, rCat, rSlL, rSlS, gTup, tYes, wipe, tSeq, tAsg, tIfS, tRet, tRetN, tDrop, tNext, tBreak, tCont, tNever, tAug, ipI, tPar, tPar3, gName, gCons, gNil, gSub, tVar, tC, tOp, tUn, tIf, tAndV, tOrV, tNotV, tAnd, tOr, tNot, L2.tB, tTest, tCmp, tChain, tCB, tCons, tNil, tCall, tTup, tLst, tSl, tPart, tNoPart, rI, rI0, rU, rEq, rNe, scal_ii, scal_ss, scal_bb, scal_nn, scal_is, scal_si, rIxS, S_len, S_cps, S_inj, L2.start, List.map_cons, List.map_nil, List.cons_append, List.nil_append, List.append_nil, List.getElem?_cons_zero, List.getElem?_cons_succ, List.set_cons_zero, List.set_cons_succ, List.length_cons, List.length_nil, Nat.reduceAdd, Nat.reduceSub, List.replicate_succ, List.replicate_zero, Option.some.injEq, V.int.injEq, V.str.injEq, V.bl.injEq, V.ref.injEq, List.cons.injEq, and_true, true_and, exists_eq_left, exists_eq_left', exists_and_left, exists_eq, exists_eq', decide_eq_true_eq, Bool.not_eq_true', decide_eq_false_iff_not, Bool.false_eq_true, if_false, if_true, reduceIte, ite_self, CMul, CPow, CDiv])
        simp only [ne_out_closed, ne_out_word, ne_out_quote, ne_closed_out, ne_closed_word, ne_closed_quote, ne_word_out, ne_word_closed, ne_word_quote, ne_quote_out, ne_quote_closed, ne_quote_word, c_q, c_semi, c_blk, eb, e1, if_false, if_true]
        have hdl := I.hd
        have hcl := I.hc
        have hpl := I.rp.len2
        have hwl2 := I.rw.len2
        have hil : i ≤ 100001 := by omega
        have eSc : S x ++ ({ cps := #[c] } : Str) = S (x ++ [c]) := S_app x [c]
        rw [eSc]
        refine ite2 (fun h => ?_) (fun h => ?_)
        · refine ⟨.inl ⟨rfl, _, SqL.of I.ew⟩, by decide, fun t ht => ⟨ws, (I.new ht).ew, sz5' (by omega), ?_⟩⟩
          have I2 := I.word (wo := (x, false)) ht
          have hdl2 := I.hd
          by_cases h59 : c = 59
          · rw [if_pos h59]
            subst h59
            refine ⟨.inl ⟨rfl, _, SqL.of I2.ep⟩, by decide, fun t2 ht2 => ⟨ps, (I2.new ht2).ep, sz5' (by omega), by decide, fun q2 hq2 => ⟨_, _, ⟨rfl, rfl⟩, .out, _, x, false, p, q2, ps ++ [V.ref t2], [], done ++ [(cur ++ [(x, false)], sp)], [], rfl, ?_, by omega, ?_, ?_⟩⟩⟩
            · rintro x (z | z) <;> cases z
            · have I3 := I2.semi (sp := sp) ht2 hq2
              exact ⟨I3.sm, I3.hp, I3.hw, I3.ne, I3.ep, I3.ew, I3.rp, I3.rw, by rw [List.length_append, List.length_singleton]; omega, Nat.zero_le _⟩
            · rw [M78.lrun, if_pos rfl] at hmath
              rw [← hmath, List.append_assoc]
              rfl
          · rw [if_neg h59]
            have h3 : c = 32 ∨ c = 10 := by
              simp at h
              rcases h with h | h | h
              · exact .inl h
              · exact .inr h
              · exact absurd h h59
            have hb : M78.isBl c = true := by
              unfold M78.isBl
              rcases h3 with h | h <;> simp [h]
            rw [if_neg (by rcases h3 with h | h <;> (rw [h]; decide)), if_neg (by rcases h3 with h | h <;> (rw [h]; decide))]
            refine ⟨.out, _, x, sp, p, wd, _, _, _, _, rfl, ?_, by omega, I2, ?_⟩
            · rintro x (z | z) <;> cases z
            · rw [M78.lrun, if_neg h59, if_pos hb] at hmath
              exact hmath
        · have h59 : ¬ c = 59 := fun z => h (by rw [z]; decide)
          have hb : ¬ M78.isBl c = true := fun z => h (by
            unfold M78.isBl at z
            simp at z
            rcases z with z | z <;> simp [z])
          rw [if_neg h59]
          refine ⟨sz5 (by have : List.length x = x.length := rfl; omega), .word (x ++ [c]), _, x ++ [c], sp, p, wd, _, _, _, _, rfl, ?_, by rw [List.length_append, List.length_singleton]; omega, I.up, ?_⟩
          · rintro x (z | z) <;> cases z
            rfl
          · rw [M78.lrun, if_neg h59, if_neg hb] at hmath
            exact hmath
    · obtain ⟨m, e6, wv, sp, p, wd, ps, ws, done, cur, rfl, hm, hwl, I, hmath⟩ := hP
      (try simp only [cx_K, cx_w, rIn, rMulS, CwR.tReplC, tM1, tBM0, rPop, rExtend, rReverse, rLenS, rEqE, rNeE, rSetL, rIntI, rIntB, tBM, rAppend, rIxL, rIxT, rCat, rSlL, rSlS, gTup, tYes, wipe, tSeq, tAsg, tIfS, tRet, tRetN, tDrop, tNext, tBreak, tCont, tNever, tAug, ipI, tPar, tPar3, gName, gCons, gNil, gSub, tVar, tC, tOp, tUn, tIf, tAndV, tOrV, tNotV, tAnd, tOr, tNot, L2.tB, tTest, tCmp, tChain, tCB, tCons, tNil, tCall, tTup, tLst, tSl, tPart, tNoPart, rI, rI0, rU, rEq, rNe, scal_ii, scal_ss, scal_bb, scal_nn, scal_is, scal_si, rIxS, S_len, S_cps, S_inj, L2.start, List.map_cons, List.map_nil, List.cons_append, List.nil_append, List.append_nil, List.getElem?_cons_zero, List.getElem?_cons_succ, List.set_cons_zero, List.set_cons_succ, List.length_cons, List.length_nil, Nat.reduceAdd, Nat.reduceSub, List.replicate_succ, List.replicate_zero, Option.some.injEq, V.int.injEq, V.str.injEq, V.bl.injEq, V.ref.injEq, List.cons.injEq, and_true, true_and, exists_eq_left, exists_eq_left', exists_and_left, exists_eq, exists_eq', decide_eq_true_eq, Bool.not_eq_true', decide_eq_false_iff_not, Bool.false_eq_true, if_false, if_true, reduceIte, ite_self, CMul, CPow, CDiv])
      rw [List.drop_length] at hmath
      have hmath : done = M78.lrun [] false .out (l ++ [59]) := by
        rw [← hmath]
        cases m <;> simp [M78.lrun]
      refine q _ _ I.sm ⟨p, ps, rfl, since_some.mpr ⟨I.hp, I.ep⟩, ?_⟩
      rw [← hmath]
      exact I.rp.mono hide_sub
def spLIsName : Sp := fun vs H Q _ => ∃ l : List Nat, vs = [.str (S l)] ∧ l.length ≤ 100000 ∧ ∀ H', Same H H' → Q (.bl (M78.isName l)) H'
theorem okLIsName (T : Top K w mg) : Ok P w K mg base CX0 1 "_law_is_name" ["word"] spLIsName := by
  have m_len := T.m_len
  have m_all := T.m_all
  refine mkOk T.f__law_is_name scLawIsName (fun vs H Q E h => ?_) (fun f cdv A outer s H vs Q E hr h => ?_)
  · obtain ⟨_, rfl, _⟩ := h
    rfl
  · obtain ⟨l, rfl, hl, q⟩ := h
    refine ⟨_, pss_cons (ps_set (i := 1) scLawIsName.nd rfl (Or.inr rfl) (pe_str))
  (pss_one (ps_ret (pe_and (pe_chain op_lt op_lt (pe_int) (pe_callB call_len_str (by rfl) m_len PySem.boot_len (pa_cons (pv 0) pa_nil)) (pe_int)) (pe_and (pe_cmpR op_in_sign (pe_ix ix_str (pv 0) (pe_int) (fun _ _ => rfl)) (pe_slice sl_str (pv 1) po_none (po_some (pe_int))) rfl) (pe_one (pe_callB (cr_all rfl) (by rfl) m_all (by decide +kernel) (pa_cons (pe_lc (own := [("sign", 2)]) rfl scLawIsName.nd (pi_str (pv 0)) (blkOk_by (own := [("sign", 2)]) (N := ["word", "signs", "sign"]) (sc := defScope sLawIsName) (by decide +kernel)) (fun _ _ _ _ _ => pg_name (i := 2) scLawIsName.nd rfl (Or.inl rfl)) (fun _ _ _ _ _ => pts_nil) (fun _ _ _ _ _ => pe_cmpR op_in_sign (pv 2) (pv 1) rfl)) pa_nil))))))), ?_⟩
    (try simp only [cx_K, cx_w, rIn, rMulS, CwR.tReplC, tM1, tBM0, rPop, rExtend, rReverse, rLenS, rEqE, rNeE, rSetL, rIntI, rIntB, tBM, rAppend, rIxL, rIxT, rCat, rSlL, rSlS, gTup, tYes, wipe, tSeq, tAsg, tIfS, tRet, tRetN, tDrop, tNext, tBreak, tCont, tNever, tAug, ipI, tPar, tPar3, gName, gCons, gNil, gSub, tVar, tC, tOp, tUn, tIf, tAndV, tOrV, tNotV, tAnd, tOr, tNot, L2.tB, tTest, tCmp, tChain, tCB, tCons, tNil, tCall, tTup, tLst, tSl, tPart, tNoPart, rI, rI0, rU, rEq, rNe, scal_ii, scal_ss, scal_bb, scal_nn, scal_is, scal_si, rIxS, S_len, S_cps, S_inj, L2.start, List.map_cons, List.map_nil, List.cons_append, List.nil_append, List.append_nil, List.getElem?_cons_zero, List.getElem?_cons_succ, List.set_cons_zero, List.set_cons_succ, List.length_cons, List.length_nil, Nat.reduceAdd, Nat.reduceSub, List.replicate_succ, List.replicate_zero, Option.some.injEq, V.int.injEq, V.str.injEq, V.bl.injEq, V.ref.injEq, List.cons.injEq, and_true, true_and, exists_eq_left, exists_eq_left', exists_and_left, exists_eq, exists_eq', decide_eq_true_eq, Bool.not_eq_true', decide_eq_false_iff_not, Bool.false_eq_true, if_false, if_true, reduceIte, ite_self, CMul, CPow, CDiv])
    have hz : l.length ≤ sizeLine := sz5 (by omega)
    refine ⟨hz, ?_⟩
    cases l with
    | nil => exact ite2 (fun h => absurd h (by decide)) (fun _ => q H (Same.refl _))
    | cons c r =>
      refine ite2 (fun _ => ?_) (fun h => absurd h (by rw [List.length_cons]; omega))
      have hn : M78.isName (c :: r) = (M78.isLower c && decide (r.length ≤ 9) && r.all M78.isNameSign) := rfl
      refine ite2 (fun h11 => ⟨hz, c, at_nat (i := 0) rfl, by decide +kernel, ?_⟩) (fun h11 => q H (Same.refl _) |> fun x => qb x ?_)
      · have ec : (cutS (Str.ofString "abcdefghijklmnopqrstuvwxyz0123456789-") none (some 26)).cps.toList = (Str.ofString "abcdefghijklmnopqrstuvwxyz").cps.toList := by decide +kernel
        rw [ec]
        simp only [mem_lower]
        refine ite2 (fun hlo => ?_) (fun hlo => ?_)
        · refine ⟨_, rfl, S (c :: r), rfl, fun d hd => lc_it (n := (c :: r).length) (walk_S (c :: r)) (fun i H1 => Same H H1 ∧ H1 d = some (.lst ((((c :: r).take i).map M78.isNameSign).map V.bl))) ⟨Same.new hd, upd_same⟩ (fun _ _ _ _ => trivial) (fun i x H1 H2 hi hP hY => ?_) (fun H1 hP => ?_)⟩
          · obtain ⟨rfl, k, hk, rfl⟩ := hY
            obtain ⟨sm, e⟩ := hP
            refine ⟨rfl, ?_⟩
            (try simp only [cx_K, cx_w, rIn, rMulS, CwR.tReplC, tM1, tBM0, rPop, rExtend, rReverse, rLenS, rEqE, rNeE, rSetL, rIntI, rIntB, tBM, rAppend, rIxL, rIxT, rCat, rSlL, rSlS, gTup, tYes, wipe, tSeq, tAsg, tIfS, tRet, tRetN, tDrop, tNext, tBreak, tCont, tNever, tAug, ipI, tPar, tPar3, gName, gCons, gNil, gSub, tVar, tC, tOp, tUn, tIf, tAndV, tOrV, tNotV, tAnd, tOr, tNot, L2.tB, tTest, tCmp, tChain, tCB, tCons, tNil, tCall, tTup, tLst, tSl, tPart, tNoPart, rI, rI0, rU, rEq, rNe, scal_ii, scal_ss, scal_bb, scal_nn, scal_is, scal_si, rIxS, S_len, S_cps, S_inj, L2.start, List.map_cons, List.map_nil, List.cons_append, List.nil_append, List.append_nil, List.getElem?_cons_zero, List.getElem?_cons_succ, List.set_cons_zero, List.set_cons_succ, List.length_cons, List.length_nil, Nat.reduceAdd, Nat.reduceSub, List.replicate_succ, List.replicate_zero, Option.some.injEq, V.int.injEq, V.str.injEq, V.bl.injEq, V.ref.injEq, List.cons.injEq, and_true, true_and, exists_eq_left, exists_eq_left', exists_and_left, exists_eq, exists_eq', decide_eq_true_eq, Bool.not_eq_true', decide_eq_false_iff_not, Bool.false_eq_true, if_false, if_true, reduceIte, ite_self, CMul, CPow, CDiv])
            refine ⟨_, e, ?_, sm.mut hd, ?_⟩
            · rw [List.length_map, List.length_map, List.length_take]
              exact sz5' (by omega)
            · rw [upd_same, take_snoc hk, List.map_append, List.map_append]
              have : decide (k ∈ (Str.ofString "abcdefghijklmnopqrstuvwxyz0123456789-").cps.toList) = M78.isNameSign k := by
                rw [Bool.eq_iff_iff, decide_eq_true_eq]
                exact mem_name
              rw [this]
              rfl
          · obtain ⟨sm, e⟩ := hP
            rw [List.take_length] at e
            refine ⟨_, _, rfl, SqL.of e, qb (q H1 sm) ?_⟩
            rw [hn, hlo, List.map_cons, List.all_cons, List.all_map]
            have h9 : r.length ≤ 9 := by
              rw [List.length_cons] at h11
              omega
            have hlo2 : M78.isNameSign c = true := by
              unfold M78.isNameSign
              rw [hlo]
              rfl
            show (id (M78.isNameSign c) && _) = _
            rw [hlo2, decide_eq_true h9]
            simp only [id, Bool.true_and, Bool.and_true]
            rfl
        · refine qb (q H (Same.refl _)) ?_
          have hlo : M78.isLower c = false := by simpa using hlo
          rw [hn, hlo]
          rfl
      · have h9 : ¬ r.length ≤ 9 := by
          rw [List.length_cons] at h11
          omega
        rw [hn, decide_eq_false h9, Bool.and_false]
        rfl
end
end K78


namespace K78
open PySem PySem.Spec PyProof.Rows L2 KB
section
variable {P : Program} {w : World} {K : PySem.W.Frag} {mg : Str → Option Value} {base : Heap}
theorem cut_init {xs : List V} {n : Nat} (h : xs.length = n + 1) : cutV xs none (some (-1)) = xs.dropLast := by
  unfold cutV
  rw [List.dropLast_eq_take]
  show List.take (HT.sIx xs.length xs.length (some (-1)) - 0) (xs.drop 0) = _
  rw [List.drop_zero, Nat.sub_zero]
  congr 1
  unfold HT.sIx
  simp
  omega
theorem atI_m1 {xs : List V} {n : Nat} (h : xs.length = n + 1) : atI xs (-1) = xs[n]? := by
  unfold atI ixN
  rw [if_neg (by omega), if_pos (by omega)]
  show xs[_]? = _
  congr 1
  omega
def actTail (w0 : M78.Word) (wr : List M78.Word) : Bool := match wr with
  | [] => false
  | t :: r2 => if M78.tgtL t.1 = false then false else if w0.1 = M78.w_set ∨ w0.1 = M78.w_drop then (match r2 with | [] => false | n :: _ => M78.isName n.1) else true
def nameTail (r2 : List M78.Word) : Bool := match r2 with | [] => false | n :: _ => M78.isName n.1
theorem in_strs {k : List Nat} {zs : List (List Nat)} : inV (V.str (S k)) (zs.map fun z => V.str (S z)) = decide (k ∈ zs) := by
  unfold inV
  induction zs with
  | nil => rfl
  | cons z zs ih =>
    rw [List.map_cons, List.any_cons, ih, Bool.eq_iff_iff]
    have e : eqV (V.str (S z)) (V.str (S k)) = decide (k = z) := by
      show decide (S z = S k) = _
      rw [decide_eq_decide, S_inj]
      exact eq_comm
    rw [e]
    simp
theorem forms_two {k : List Nat} {ks : List M78.Kind} (h : M78.forms k = some ks) (hn : ¬ (k = M78.w_stop ∨ k = M78.w_leave ∨ k = M78.w_go)) : 1 ≤ ks.length ∧ (k = M78.w_set ∨ k = M78.w_drop → 2 ≤ ks.length) := by
  simp only [not_or] at hn
  unfold M78.forms at h
  repeat' split at h
  all_goals (first | (cases h; done) | (have h := Option.some.inj h; subst h; rename_i hk; subst hk; revert hn; decide) | skip)
  all_goals (first | (exact absurd (by assumption) hn.1) | (exact absurd (by assumption) hn.2.1) | skip)
def spRest (Q : VK) (k : List Nat) (a : Addr) (H7 : Hp) : Prop := ∀ p8, H7 p8 = none → (¬ (k = M78.w_set ∨ k = M78.w_drop) → Q (.bl true) (upd H7 p8 (.lst [V.str (S M78.w_set), V.str (S M78.w_drop)]))) ∧
  ((k = M78.w_set ∨ k = M78.w_drop) → ∃ (xs : List V) (t2 : Addr) (n : M78.Word), SqL K (upd H7 p8 (.lst [V.str (S M78.w_set), V.str (S M78.w_drop)])) a xs ∧ xs[2]? = some (V.ref t2) ∧ upd H7 p8 (.lst [V.str (S M78.w_set), V.str (S M78.w_drop)]) t2 = some (.tup [.str (S n.1), .bl n.2]) ∧ n.1.length ≤ 100000 ∧
    ∀ H9, Same (upd H7 p8 (.lst [V.str (S M78.w_set), V.str (S M78.w_drop)])) H9 → Q (.bl (M78.isName n.1)) H9)
theorem cut_one (l : List Nat) : cutS (S l) none (some 1) = S (l.take 1) := by
  unfold cutS
  rw [show ((1 : Int)) = ((1 : Nat) : Int) from rfl, HT.sIx_nat]
  show S ((l.drop 0).take (min 1 l.length - 0)) = _
  rw [List.drop_zero, Nat.sub_zero]
  cases l with
  | nil => rfl
  | cons c r => simp
theorem rest_end {Q : VK} {k : List Nat} {a : Addr} {H7 : Hp} (h : spRest (K := K) Q k a H7) : 2 ≤ sizeLine ∧ ∀ (p : Addr), H7 p = none → ∃ x, (SqL K (upd H7 p (HO.lst [V.str (S M78.w_set), V.str (S M78.w_drop)])) p x ∨ SqT K (upd H7 p (HO.lst [V.str (S M78.w_set), V.str (S M78.w_drop)])) p x) ∧
    flatV (V.str (S k)) = true ∧ x.all flatV = true ∧ if inV (V.str (S k)) x = false then Q (V.bl true) (upd H7 p (HO.lst [V.str (S M78.w_set), V.str (S M78.w_drop)]))
      else ∃ x, SqL K (upd H7 p (HO.lst [V.str (S M78.w_set), V.str (S M78.w_drop)])) a x ∧ ∃ x_1, atI x 2 = some x_1 ∧ ∃ p_1, x_1 = V.ref p_1 ∧ ∃ x, SqT K (upd H7 p (HO.lst [V.str (S M78.w_set), V.str (S M78.w_drop)])) p_1 x ∧ ∃ x_2, atI x 0 = some x_2 ∧
        spLIsName [x_2] (upd H7 p (HO.lst [V.str (S M78.w_set), V.str (S M78.w_drop)])) Q E0 := by
  refine ⟨by decide, fun p hp => ⟨_, .inl (SqL.of upd_same), rfl, rfl, ?_⟩⟩
  obtain ⟨h1, h2⟩ := h p hp
  rw [show inV (V.str (S k)) [V.str (S M78.w_set), V.str (S M78.w_drop)] = decide (k ∈ [M78.w_set, M78.w_drop]) from in_strs (zs := [M78.w_set, M78.w_drop])]
  refine ite2 (fun hin => h1 ?_) (fun hin => ?_)
  · have hin := of_decide_eq_false hin
    simpa only [List.mem_cons, List.not_mem_nil, or_false] using hin
  · have hin : k ∈ [M78.w_set, M78.w_drop] := of_decide_eq_true (by simpa only [Bool.not_eq_false] using hin)
    simp only [List.mem_cons, List.not_mem_nil, or_false] at hin
    obtain ⟨xs, t2, n, e1, e2, e3, e4, q⟩ := h2 hin
    exact ⟨xs, e1, _, at_nat (i := 2) e2, _, rfl, _, SqT.of e3, _, at_nat (i := 0) rfl, n.1, rfl, e4, fun H9 s9 => q H9 s9⟩
theorem isActL_eq (w0 : M78.Word) (wr : List M78.Word) : M78.isActL (w0 :: wr) = if (w0 :: wr).dropLast.any (·.2) then false else match M78.forms w0.1 with
            | none => false
            | some ks => if ks.length + 1 ≠ (w0 :: wr).length then false else if M78.last2 (w0 :: wr) && !(decide (w0.1 = M78.w_set) || decide (w0.1 = M78.w_say)) then false
              else if w0.1 = M78.w_stop ∨ w0.1 = M78.w_leave ∨ w0.1 = M78.w_go then true else match wr with
                | [] => false
                | t :: r2 => if M78.tgtL t.1 = false then false else if w0.1 = M78.w_set ∨ w0.1 = M78.w_drop then (match r2 with | [] => false | n :: _ => M78.isName n.1) else true := rfl
def dkvs : List (Key × V) := [(.inr "set", .int 4), (.inr "drop", .int 3), (.inr "add", .int 3), (.inr "cut", .int 3), (.inr "flip", .int 3), (.inr "say", .int 3), (.inr "take", .int 2), (.inr "go", .int 2), (.inr "focus", .int 2), (.inr "stop", .int 1), (.inr "leave", .int 1)]
theorem dk_merge : mergeK [] dkvs = dkvs := by decide +kernel
theorem dk_forms (k : List Nat) : valV dkvs (.inr (S k)) = (M78.forms k).map fun ks => V.int ((ks.length : Int) + 1) := by
  have c : ∀ z w : List Nat, decide ((Sum.inr (S z) : Key) = .inr (S w)) = decide (w = z) := fun z w => by
    rw [decide_eq_decide]
    constructor
    · intro h
      exact (S_inj.mp (Sum.inr.inj h)).symm
    · rintro rfl
      rfl
  unfold valV dkvs
  simp only [c_set, c_drop, c_add, c_cut, c_flip, c_say, c_take, c_go, c_focus, c_stop, c_leave, List.find?_cons, c]
  unfold M78.forms
  by_cases h_set : k = M78.w_set
  · simp [h_set, M78.w_set, M78.w_drop, M78.w_add, M78.w_cut, M78.w_flip, M78.w_say, M78.w_take, M78.w_go, M78.w_focus, M78.w_stop, M78.w_leave]
  by_cases h_drop : k = M78.w_drop
  · simp [h_drop, M78.w_set, M78.w_drop, M78.w_add, M78.w_cut, M78.w_flip, M78.w_say, M78.w_take, M78.w_go, M78.w_focus, M78.w_stop, M78.w_leave]
  by_cases h_add : k = M78.w_add
  · simp [h_add, M78.w_set, M78.w_drop, M78.w_add, M78.w_cut, M78.w_flip, M78.w_say, M78.w_take, M78.w_go, M78.w_focus, M78.w_stop, M78.w_leave]
  by_cases h_cut : k = M78.w_cut
  · simp [h_cut, M78.w_set, M78.w_drop, M78.w_add, M78.w_cut, M78.w_flip, M78.w_say, M78.w_take, M78.w_go, M78.w_focus, M78.w_stop, M78.w_leave]
  by_cases h_flip : k = M78.w_flip
  · simp [h_flip, M78.w_set, M78.w_drop, M78.w_add, M78.w_cut, M78.w_flip, M78.w_say, M78.w_take, M78.w_go, M78.w_focus, M78.w_stop, M78.w_leave]
  by_cases h_say : k = M78.w_say
  · simp [h_say, M78.w_set, M78.w_drop, M78.w_add, M78.w_cut, M78.w_flip, M78.w_say, M78.w_take, M78.w_go, M78.w_focus, M78.w_stop, M78.w_leave]
  by_cases h_take : k = M78.w_take
  · simp [h_take, M78.w_set, M78.w_drop, M78.w_add, M78.w_cut, M78.w_flip, M78.w_say, M78.w_take, M78.w_go, M78.w_focus, M78.w_stop, M78.w_leave]
  by_cases h_go : k = M78.w_go
  · simp [h_go, M78.w_set, M78.w_drop, M78.w_add, M78.w_cut, M78.w_flip, M78.w_say, M78.w_take, M78.w_go, M78.w_focus, M78.w_stop, M78.w_leave]
  by_cases h_focus : k = M78.w_focus
  · simp [h_focus, M78.w_set, M78.w_drop, M78.w_add, M78.w_cut, M78.w_flip, M78.w_say, M78.w_take, M78.w_go, M78.w_focus, M78.w_stop, M78.w_leave]
  by_cases h_stop : k = M78.w_stop
  · simp [h_stop, M78.w_set, M78.w_drop, M78.w_add, M78.w_cut, M78.w_flip, M78.w_say, M78.w_take, M78.w_go, M78.w_focus, M78.w_stop, M78.w_leave]
  by_cases h_leave : k = M78.w_leave
  · simp [h_leave, M78.w_set, M78.w_drop, M78.w_add, M78.w_cut, M78.w_flip, M78.w_say, M78.w_take, M78.w_go, M78.w_focus, M78.w_stop, M78.w_leave]
  simp [h_set, h_drop, h_add, h_cut, h_flip, h_say, h_take, h_go, h_focus, h_stop, h_leave]
def spLIsAction : Sp := fun vs H Q _ => ∃ (v : V) (ws : List M78.Word), vs = [v] ∧ Rep H (wordsD ws) v ∧ ws.length ≤ 100000 ∧ (∀ wo ∈ ws, wo.1.length ≤ 100000) ∧ ∀ H', Same H H' → Q (.bl (M78.isActL ws)) H'
theorem okLIsAction (T : Top K w mg) : Ok P w K mg base CX0 2 "_law_is_action" ["words"] spLIsAction := by
  have m_len := T.m_len
  have m_any := T.m_any
  have GLawIsName : Ok P w K mg base CX0 1 "_law_is_name" ["word"] spLIsName := okLIsName T
  refine mkOk T.f__law_is_action scLawIsAction (fun vs H Q E h => ?_) (fun f cdv A outer s H vs Q E hr h => ?_)
  · obtain ⟨_, _, rfl, _⟩ := h
    rfl
  · obtain ⟨v, ws, rfl, hR, hl, hl2, q⟩ := h
    refine ⟨_, pss_cons (ps_if (PW.pt (pw_or (pt_cmpR (op_eqE hr.units0) (pv 0) (pe_lst (pa_nil)) (nomark _)) (pw_or1 (pt_val (pe_callB (cr_any rfl) (by rfl) m_any (by decide +kernel) (pa_cons (pe_lc (own := [("pair", 5)]) rfl scLawIsAction.nd (pi_list (pe_slice sl_list (pv 0) po_none (po_some (pe_un un_neg (pe_int))))) (blkOk_by (own := [("pair", 5)]) (N := ["words", "kind", "last", "many", "target", "pair"]) (sc := defScope sLawIsAction) (by decide +kernel)) (fun _ _ _ _ _ => pg_name (i := 5) scLawIsAction.nd rfl (Or.inl rfl)) (fun _ _ _ _ _ => pts_nil) (fun _ _ _ _ _ => pe_ix (ix_tupK (K := K) rfl) (pv 5) (pe_int) (fun _ _ => rfl))) pa_nil))))))
  (pss_one (ps_ret (pe_bl)))
  (pss_nil))
  (pss_cons (ps_par (i := 1) (j := 2) rfl scLawIsAction.nd rfl rfl (by decide) rfl rfl (pa_cons (pe_ix ix_tup (pe_ix ix_list (pv 0) (pe_int) (fun _ _ => rfl)) (pe_int) (fun _ _ => rfl)) (pa_cons (pe_ix ix_tup (pe_ix ix_list (pv 0) (pe_un un_neg (pe_int)) (fun _ _ => rfl)) (pe_int) (fun _ _ => rfl)) pa_nil)) (by rfl))
  (pss_cons (ps_set (i := 3) scLawIsAction.nd rfl (Or.inl rfl) (pe_disp (pps_cons (pe_str) (pe_int) (pps_cons (pe_str) (pe_int) (pps_cons (pe_str) (pe_int) (pps_cons (pe_str) (pe_int) (pps_cons (pe_str) (pe_int) (pps_cons (pe_str) (pe_int) (pps_cons (pe_str) (pe_int) (pps_cons (pe_str) (pe_int) (pps_cons (pe_str) (pe_int) (pps_cons (pe_str) (pe_int) (pps_cons (pe_str) (pe_int) (pps_nil)))))))))))) (by rfl) (by rfl) (fun z => by cases z) (by decide)))
  (pss_cons (ps_if (PW.pt (pw_or (pt_cmp (pc_dnotin (hu_of hr) (pv 1) (pv 3))) (pw_or (pt_cmpR op_ne (pe_dget (hu_of hr) (pv 3) (pv 1) (fun _ _ => rfl)) (pe_callB (call_len_seqK (K := K) rfl) (by rfl) m_len PySem.boot_len (pa_cons (pv 0) pa_nil)) (nomark _)) (pw_or1 (PW.pt (pw_and (pt_val (pv 2)) (pw_and1 (pt_cmpR op_notIn_seq (pv 1) (pe_lst (pa_cons (pe_str) (pa_cons (pe_str) pa_nil))) (by with_unfolding_all rfl)))))))))
  (pss_one (ps_ret (pe_bl)))
  (pss_nil))
  (pss_cons (ps_if (pt_cmpR op_in_seq (pv 1) (pe_lst (pa_cons (pe_str) (pa_cons (pe_str) (pa_cons (pe_str) pa_nil)))) (by with_unfolding_all rfl))
  (pss_one (ps_ret (pe_bl)))
  (pss_nil))
  (pss_cons (ps_set (i := 4) scLawIsAction.nd rfl (Or.inl rfl) (pe_ix ix_tup (pe_ix ix_list (pv 0) (pe_int) (fun _ _ => rfl)) (pe_int) (fun _ _ => rfl)))
  (pss_cons (ps_if (PW.pt (pw_and (pt_cmpR op_ne (pv 4) (pe_str) (nomark _)) (pw_and1 (PW.pt (pw_or (pt_cmpR op_ne (pe_slice sl_str (pv 4) po_none (po_some (pe_int))) (pe_str) (nomark _)) (pw_or1 (pt_cmpR op_eq (pe_callB call_len_str (by rfl) m_len PySem.boot_len (pa_cons (pv 4) pa_nil)) (pe_int) (nomark _))))))))
  (pss_one (ps_ret (pe_bl)))
  (pss_nil))
  (pss_one (ps_ret (pe_or (pe_cmpR op_notIn_seq (pv 1) (pe_lst (pa_cons (pe_str) (pa_cons (pe_str) pa_nil))) (by with_unfolding_all rfl)) (pe_one (pcall GLawIsName (hr.mono (by decide)) (by rfl) pass0 (pa_cons (pe_ix ix_tup (pe_ix ix_list (pv 0) (pe_int) (fun _ _ => rfl)) (pe_int) (fun _ _ => rfl)) pa_nil)))))))))))), ?_⟩
    obtain ⟨a, xs, rfl, ha, hR⟩ := hR
    (try simp only [tDisp, tPairs, tDGet, tDNotIn, cx_K, cx_w, rIn, rMulS, CwR.tReplC, tM1, tBM0, rPop, rExtend, rReverse, rLenS, rEqE, rNeE, rSetL, rIntI, rIntB, tBM, rAppend, rIxL, rIxT, rCat, rSlL, rSlS, gTup, tYes, wipe, tSeq, tAsg, tIfS, tRet, tRetN, tDrop, tNext, tBreak, tCont, tNever, tAug, ipI, tPar, tPar3, gName, gCons, gNil, gSub, tVar, tC, tOp, tUn, tIf, tAndV, tOrV, tNotV, tAnd, tOr, tNot, L2.tB, tTest, tCmp, tChain, tCB, tCons, tNil, tCall, tTup, tLst, tSl, tPart, tNoPart, rI, rI0, rU, rEq, rNe, scal_ii, scal_ss, scal_bb, scal_nn, scal_is, scal_si, rIxS, S_len, S_cps, S_inj, L2.start, List.map_cons, List.map_nil, List.cons_append, List.nil_append, List.append_nil, List.getElem?_cons_zero, List.getElem?_cons_succ, List.set_cons_zero, List.set_cons_succ, List.length_cons, List.length_nil, Nat.reduceAdd, Nat.reduceSub, List.replicate_succ, List.replicate_zero, Option.some.injEq, V.int.injEq, V.str.injEq, V.bl.injEq, V.ref.injEq, List.cons.injEq, and_true, true_and, exists_eq_left, exists_eq_left', exists_and_left, exists_eq, exists_eq', decide_eq_true_eq, Bool.not_eq_true', decide_eq_false_iff_not, Bool.false_eq_true, if_false, if_true, reduceIte, ite_self, CMul, CPow, CDiv])
    have hln := hR.len2
    have hz : xs.length ≤ sizeLine := sz5 (by omega)
    refine ⟨by decide, fun p hp => ?_⟩
    have s1 : Same H (upd H p (.lst [])) := Same.new hp
    refine ⟨_, SqL.of (s1 _ _ ha), SqL.of upd_same, ?_⟩
    cases ws with
    | nil =>
      have hR : xs = [] := hR
      subst hR
      exact ite2 (fun _ => q _ s1) (fun h => absurd rfl h)
    | cons w0 wr =>
      have hxe : xs.isEmpty = false := by
        cases xs with
        | nil => cases hln
        | cons => rfl
      refine ifF (by rw [hxe]; decide) ?_
      have hcut : cutV xs none (some (-1)) = xs.dropLast := cut_init hln
      refine ⟨.ref a, rfl, 1, rfl, -1, rfl, a, xs, rfl, SqL.of (s1 _ _ ha), fun p2 hp2 => ?_⟩
      rw [hcut]
      have s2 := s1.trans (Same.new (o := .lst xs.dropLast) hp2)
      refine ⟨p2, rfl, ⟨_, SqL.of upd_same⟩, fun d hd => lc_list (xs := xs.dropLast) (fun i H3 => Same (upd (upd H p (.lst [])) p2 (.lst xs.dropLast)) H3 ∧ H3 d = some (.lst ((((w0 :: wr).dropLast.take i).map (·.2)).map V.bl))) ⟨Same.new hd, upd_same⟩ (fun i H3 _ h => SqL.of (h.1 _ _ upd_same)) (fun i x H3 hx hP => ?_) (fun H3 hP => ?_)⟩
      · obtain ⟨s3, e3⟩ := hP
        have hi : i < xs.dropLast.length := (List.getElem?_eq_some_iff.mp hx).1
        rw [List.length_dropLast] at hi
        have hiw : i < (w0 :: wr).length := by omega
        have hwi : (w0 :: wr)[i]? = some (w0 :: wr)[i] := List.getElem?_eq_getElem hiw
        have hwd : (w0 :: wr).dropLast[i]? = some (w0 :: wr)[i] := by
          rw [List.getElem?_dropLast, if_pos (by omega)]
          exact hwi
        obtain ⟨tt, e4, e5⟩ := wd_at hR hwi
        rw [List.getElem?_dropLast, if_pos (by omega), e4] at hx
        have hx : V.ref tt = x := Option.some.inj hx
        subst hx
        refine ⟨rfl, ?_⟩
        (try simp only [cx_K, cx_w, rIn, rMulS, CwR.tReplC, tM1, tBM0, rPop, rExtend, rReverse, rLenS, rEqE, rNeE, rSetL, rIntI, rIntB, tBM, rAppend, rIxL, rIxT, rCat, rSlL, rSlS, gTup, tYes, wipe, tSeq, tAsg, tIfS, tRet, tRetN, tDrop, tNext, tBreak, tCont, tNever, tAug, ipI, tPar, tPar3, gName, gCons, gNil, gSub, tVar, tC, tOp, tUn, tIf, tAndV, tOrV, tNotV, tAnd, tOr, tNot, L2.tB, tTest, tCmp, tChain, tCB, tCons, tNil, tCall, tTup, tLst, tSl, tPart, tNoPart, rI, rI0, rU, rEq, rNe, scal_ii, scal_ss, scal_bb, scal_nn, scal_is, scal_si, rIxS, S_len, S_cps, S_inj, L2.start, List.map_cons, List.map_nil, List.cons_append, List.nil_append, List.append_nil, List.getElem?_cons_zero, List.getElem?_cons_succ, List.set_cons_zero, List.set_cons_succ, List.length_cons, List.length_nil, Nat.reduceAdd, Nat.reduceSub, List.replicate_succ, List.replicate_zero, Option.some.injEq, V.int.injEq, V.str.injEq, V.bl.injEq, V.ref.injEq, List.cons.injEq, and_true, true_and, exists_eq_left, exists_eq_left', exists_and_left, exists_eq, exists_eq', decide_eq_true_eq, Bool.not_eq_true', decide_eq_false_iff_not, Bool.false_eq_true, if_false, if_true, reduceIte, ite_self, CMul, CPow, CDiv])
        refine ⟨_, SqT.of (s3 _ _ (s2 _ _ e5)), _, at_nat (i := 1) rfl, _, e3, ?_, s3.mut hd, ?_⟩
        · rw [List.length_map, List.length_map, List.length_take]
          exact sz5' (by omega)
        · rw [upd_same, take_snoc hwd, List.map_append, List.map_append]
          rfl
      · obtain ⟨s3, e3⟩ := hP
        rw [List.length_dropLast, hln, List.take_of_length_le (by rw [List.length_dropLast]; exact Nat.le_refl _)] at e3
        have sm := s2.trans s3
        refine ⟨d, _, rfl, SqL.of e3, _, rfl, ?_⟩
        have hact := isActL_eq w0 wr
        have hany : (List.map (fun x : M78.Word => x.snd) (w0 :: wr).dropLast).any id = (w0 :: wr).dropLast.any (·.2) := by
          rw [List.any_map]
          rfl
        rw [hany]
        refine ite2 (fun h => qb (q H3 sm) (by rw [hact, if_pos h])) (fun h => ?_)
        rw [if_neg h] at hact
        clear hany h hcut hp2 hxe e3
        have ha3 := sm _ _ ha
        obtain ⟨t0, e4, e5⟩ := wd_at hR (i := 0) rfl
        have hl0 : wr.length < (w0 :: wr).length := by simp
        obtain ⟨tl, e6, e7⟩ := wd_at hR (List.getElem?_eq_getElem hl0)
        have e6' : atI xs (-1) = some (.ref tl) := by
          rw [← e6]
          exact atI_m1 hln
        have hlast : (w0 :: wr)[wr.length].2 = M78.last2 (w0 :: wr) := by
          unfold M78.last2
          rw [List.getLast?_eq_getElem?, List.length_cons, Nat.add_sub_cancel, List.getElem?_eq_getElem hl0]
        refine ⟨_, SqL.of ha3, _, at_nat (i := 0) e4, _, rfl, _, SqT.of (sm _ _ e5), _, at_nat (i := 0) rfl, _, SqL.of ha3, _, e6', _, rfl, _, SqT.of (sm _ _ e7), _, at_nat (i := 1) rfl, _, _, ⟨rfl, rfl⟩, fun p3 hp3 => ⟨upd_same, dkvs, rfl, by decide, ?_⟩⟩
        rw [upd_upd, show mergeK [] dkvs = dkvs from dk_merge]
        have s4 := Same.new (o := .dK dkvs) hp3
        have sm4 := sm.trans s4
        have hD : DGet (upd H3 p3 (.dK dkvs)) p3 (.str (S w0.1)) (valV dkvs (.inr (S w0.1))) := DGet.k (k := .inr (S w0.1)) upd_same
        rw [dk_forms] at hD
        rw [hlast]
        cases hk : M78.forms w0.1 with
        | none =>
          rw [hk] at hD hact
          exact ⟨_, hD, ite2 (fun _ => qb (q _ sm4) hact.symm) (fun h => absurd rfl h)⟩
        | some ks =>
          rw [hk] at hD hact
          refine ⟨_, hD, ite2 (fun h => nomatch h) (fun _ => ⟨_, hD, ?_⟩)⟩
          have hact : M78.isActL (w0 :: wr) = if ks.length + 1 ≠ (w0 :: wr).length then false else if (M78.last2 (w0 :: wr) && !(decide (w0.1 = M78.w_set) || decide (w0.1 = M78.w_say))) = true then false
              else if w0.1 = M78.w_stop ∨ w0.1 = M78.w_leave ∨ w0.1 = M78.w_go then true else actTail w0 wr := hact
          refine ⟨_, .inl (SqL.of (s4 _ _ ha3)), rfl, ite2 (fun hne => qb (q _ sm4) ?_) (fun heq => ⟨_, rfl, ?_⟩)⟩
          · rw [hact, if_pos]
            intro z
            apply hne
            show V.int ((ks.length : Int) + 1) = V.int _
            rw [hln, ← z]
            simp
          · have hlen : ks.length + 1 = (w0 :: wr).length := by
              have heq : V.int ((ks.length : Int) + 1) = V.int ((xs.length : Nat) : Int) := Decidable.of_not_not heq
              have heq := V.int.inj heq
              rw [hln, List.length_cons] at heq
              rw [List.length_cons]
              omega
            rw [if_neg (fun z => z hlen)] at hact
            simp only [c_set, c_drop, c_add, c_cut, c_flip, c_say, c_take, c_go, c_focus, c_stop, c_leave]
            clear hD
            have sm5 : Same H (upd H3 p3 (.dK dkvs)) := sm4
            revert sm5
            generalize upd H3 p3 (.dK dkvs) = H4
            intro sm5
            refine ite2 (fun hl2t => ⟨by decide, fun p6 hp6 => ⟨_, .inl (SqL.of upd_same), rfl, rfl, ?_⟩⟩) (fun hl2f => ?_)
            · have sm6 := sm5.trans (Same.new (o := .lst [V.str (S M78.w_set), V.str (S M78.w_say)]) hp6)
              revert sm6
              generalize upd H4 p6 (.lst [V.str (S M78.w_set), V.str (S M78.w_say)]) = H5
              intro sm6
              refine ite2 (fun hin => qb (q _ sm6) ?_) (fun hin => ?_)
              · rw [show inV (V.str (S w0.1)) [V.str (S M78.w_set), V.str (S M78.w_say)] = decide (w0.1 ∈ [M78.w_set, M78.w_say]) from in_strs (zs := [M78.w_set, M78.w_say])] at hin
                have hin := of_decide_eq_false hin
                simp only [List.mem_cons, List.not_mem_nil, or_false, not_or] at hin
                rw [hact, if_pos (by rw [hl2t, decide_eq_false hin.1, decide_eq_false hin.2]; rfl)]
              · rw [show inV (V.str (S w0.1)) [V.str (S M78.w_set), V.str (S M78.w_say)] = decide (w0.1 ∈ [M78.w_set, M78.w_say]) from in_strs (zs := [M78.w_set, M78.w_say])] at hin
                have hin : w0.1 ∈ [M78.w_set, M78.w_say] := of_decide_eq_true (by simpa only [Bool.not_eq_false] using hin)
                rw [if_neg (by
                  simp only [List.mem_cons, List.not_mem_nil, or_false] at hin
                  rcases hin with h | h <;> rw [h] <;> cases M78.last2 (w0 :: wr) <;> decide)] at hact
                clear hin hp6
                refine ⟨by decide, fun p7 hp7 => ⟨_, .inl (SqL.of upd_same), rfl, rfl, ?_⟩⟩
                have sm7 := sm6.trans (Same.new (o := .lst [V.str (S M78.w_stop), V.str (S M78.w_leave), V.str (S M78.w_go)]) hp7)
                revert sm7
                generalize upd H5 p7 (.lst [V.str (S M78.w_stop), V.str (S M78.w_leave), V.str (S M78.w_go)]) = H7
                intro sm7
                rw [show inV (V.str (S w0.1)) [V.str (S M78.w_stop), V.str (S M78.w_leave), V.str (S M78.w_go)] = decide (w0.1 ∈ [M78.w_stop, M78.w_leave, M78.w_go]) from in_strs (zs := [M78.w_stop, M78.w_leave, M78.w_go])]
                refine ite2 (fun hin => qb (q _ sm7) ?_) (fun hin => ?_)
                · have hin := of_decide_eq_true hin
                  simp only [List.mem_cons, List.not_mem_nil, or_false] at hin
                  rw [hact, if_pos hin]
                · have hin : ¬ (w0.1 = M78.w_stop ∨ w0.1 = M78.w_leave ∨ w0.1 = M78.w_go) := by simpa using hin
                  rw [if_neg hin] at hact
                  have htwo := forms_two hk hin
                  cases wr with
                  | nil =>
                    rw [List.length_singleton] at hlen
                    omega
                  | cons t r2 =>
                    obtain ⟨t1, e8, e9⟩ := wd_at hR (i := 1) rfl
                    refine ⟨_, SqL.of (sm7 _ _ ha), _, at_nat (i := 1) e8, _, rfl, _, SqT.of (sm7 _ _ e9), _, at_nat (i := 0) rfl, rfl, ?_⟩
                    have hact : M78.isActL (w0 :: t :: r2) = if M78.tgtL t.1 = false then false else if w0.1 = M78.w_set ∨ w0.1 = M78.w_drop then nameTail r2 else true := hact
                    have ht1 : t.1.length ≤ 100000 := hl2 t (by simp)
                    have rest : M78.tgtL t.1 = true → spRest (K := K) Q w0.1 a H7 := fun htg => by
                      rw [htg, if_neg (fun z => nomatch z)] at hact
                      unfold spRest
                      intro p8 hp8
                      have sm8 := sm7.trans (Same.new (o := .lst [V.str (S M78.w_set), V.str (S M78.w_drop)]) hp8)
                      revert sm8
                      generalize upd H7 p8 (.lst [V.str (S M78.w_set), V.str (S M78.w_drop)]) = H8
                      intro sm8
                      refine ⟨fun h => qb (q _ sm8) ?_, fun h => ?_⟩
                      · rw [hact, if_neg h]
                      · have h2 := htwo.2 h
                        cases r2 with
                        | nil =>
                          rw [List.length_cons, List.length_singleton] at hlen
                          omega
                        | cons n r3 =>
                          obtain ⟨t2, e10, e11⟩ := wd_at hR (i := 2) rfl
                          refine ⟨xs, t2, n, SqL.of (sm8 _ _ ha), e10, sm8 _ _ e11, hl2 n (by simp), fun H9 s9 => qb (q _ (sm8.trans s9)) ?_⟩
                          rw [hact, if_pos h]
                          rfl
                    refine ite2 (fun hs => ⟨S t.1, rfl, by rw [S_len]; exact sz5 (by omega), ite2 (fun hh => qb (q _ sm7) ?_) (fun hh => ⟨S t.1, rfl, by rw [S_len]; exact sz5 (by omega), ite2 (fun h1 => qb (q _ sm7) ?_) (fun h1 => rest_end (rest ?_))⟩)⟩) (fun hs => rest_end (rest ?_))
                    · rw [hact, if_pos]
                      have hs : ¬ t.1 = M78.w_self := fun z => hs (by rw [z]; rfl)
                      rw [cut_one, show Str.ofString "#" = S [35] from rfl, S_inj] at hh
                      simp [M78.tgtL, hs, hh]
                    · rw [hact, if_pos]
                      have hs : ¬ t.1 = M78.w_self := fun z => hs (by rw [z]; rfl)
                      have h1 : t.1.length = 1 := by
                        rw [S_len] at h1
                        omega
                      simp [M78.tgtL, hs, h1]
                    · have hh : cutS (S t.1) none (some 1) = Str.ofString "#" := Decidable.of_not_not hh
                      rw [cut_one, show Str.ofString "#" = S [35] from rfl, S_inj] at hh
                      have h1 : ¬ t.1.length = 1 := fun z => h1 (by rw [S_len, z]; rfl)
                      simp [M78.tgtL, hh, h1]
                    · have hs : V.str (S t.1) = V.str (Str.ofString "self") := Decidable.of_not_not hs
                      have hs : S t.1 = S M78.w_self := V.str.inj hs
                      have hs := S_inj.mp hs
                      simp [M78.tgtL, hs]
            · rw [if_neg (by
                have : M78.last2 (w0 :: wr) = false := by simpa using hl2f
                rw [this]
                exact fun z => nomatch z)] at hact
              refine ⟨by decide, fun p7 hp7 => ⟨_, .inl (SqL.of upd_same), rfl, rfl, ?_⟩⟩
              have sm7 := sm5.trans (Same.new (o := .lst [V.str (S M78.w_stop), V.str (S M78.w_leave), V.str (S M78.w_go)]) hp7)
              revert sm7
              generalize upd H4 p7 (.lst [V.str (S M78.w_stop), V.str (S M78.w_leave), V.str (S M78.w_go)]) = H7
              intro sm7
              rw [show inV (V.str (S w0.1)) [V.str (S M78.w_stop), V.str (S M78.w_leave), V.str (S M78.w_go)] = decide (w0.1 ∈ [M78.w_stop, M78.w_leave, M78.w_go]) from in_strs (zs := [M78.w_stop, M78.w_leave, M78.w_go])]
              refine ite2 (fun hin => qb (q _ sm7) ?_) (fun hin => ?_)
              · have hin := of_decide_eq_true hin
                simp only [List.mem_cons, List.not_mem_nil, or_false] at hin
                rw [hact, if_pos hin]
              · have hin : ¬ (w0.1 = M78.w_stop ∨ w0.1 = M78.w_leave ∨ w0.1 = M78.w_go) := by simpa using hin
                rw [if_neg hin] at hact
                have htwo := forms_two hk hin
                cases wr with
                | nil =>
                  rw [List.length_singleton] at hlen
                  omega
                | cons t r2 =>
                  obtain ⟨t1, e8, e9⟩ := wd_at hR (i := 1) rfl
                  refine ⟨_, SqL.of (sm7 _ _ ha), _, at_nat (i := 1) e8, _, rfl, _, SqT.of (sm7 _ _ e9), _, at_nat (i := 0) rfl, rfl, ?_⟩
                  have hact : M78.isActL (w0 :: t :: r2) = if M78.tgtL t.1 = false then false else if w0.1 = M78.w_set ∨ w0.1 = M78.w_drop then nameTail r2 else true := hact
                  have ht1 : t.1.length ≤ 100000 := hl2 t (by simp)
                  have rest : M78.tgtL t.1 = true → spRest (K := K) Q w0.1 a H7 := fun htg => by
                    rw [htg, if_neg (fun z => nomatch z)] at hact
                    unfold spRest
                    intro p8 hp8
                    have sm8 := sm7.trans (Same.new (o := .lst [V.str (S M78.w_set), V.str (S M78.w_drop)]) hp8)
                    revert sm8
                    generalize upd H7 p8 (.lst [V.str (S M78.w_set), V.str (S M78.w_drop)]) = H8
                    intro sm8
                    refine ⟨fun h => qb (q _ sm8) ?_, fun h => ?_⟩
                    · rw [hact, if_neg h]
                    · have h2 := htwo.2 h
                      cases r2 with
                      | nil =>
                        rw [List.length_cons, List.length_singleton] at hlen
                        omega
                      | cons n r3 =>
                        obtain ⟨t2, e10, e11⟩ := wd_at hR (i := 2) rfl
                        refine ⟨xs, t2, n, SqL.of (sm8 _ _ ha), e10, sm8 _ _ e11, hl2 n (by simp), fun H9 s9 => qb (q _ (sm8.trans s9)) ?_⟩
                        rw [hact, if_pos h]
                        rfl
                  refine ite2 (fun hs => ⟨S t.1, rfl, by rw [S_len]; exact sz5 (by omega), ite2 (fun hh => qb (q _ sm7) ?_) (fun hh => ⟨S t.1, rfl, by rw [S_len]; exact sz5 (by omega), ite2 (fun h1 => qb (q _ sm7) ?_) (fun h1 => rest_end (rest ?_))⟩)⟩) (fun hs => rest_end (rest ?_))
                  · rw [hact, if_pos]
                    have hs : ¬ t.1 = M78.w_self := fun z => hs (by rw [z]; rfl)
                    rw [cut_one, show Str.ofString "#" = S [35] from rfl, S_inj] at hh
                    simp [M78.tgtL, hs, hh]
                  · rw [hact, if_pos]
                    have hs : ¬ t.1 = M78.w_self := fun z => hs (by rw [z]; rfl)
                    have h1 : t.1.length = 1 := by
                      rw [S_len] at h1
                      omega
                    simp [M78.tgtL, hs, h1]
                  · have hh : cutS (S t.1) none (some 1) = Str.ofString "#" := Decidable.of_not_not hh
                    rw [cut_one, show Str.ofString "#" = S [35] from rfl, S_inj] at hh
                    have h1 : ¬ t.1.length = 1 := fun z => h1 (by rw [S_len, z]; rfl)
                    simp [M78.tgtL, hh, h1]
                  · have hs : V.str (S t.1) = V.str (Str.ofString "self") := Decidable.of_not_not hs
                    have hs : S t.1 = S M78.w_self := V.str.inj hs
                    have hs := S_inj.mp hs
                    simp [M78.tgtL, hs]
end
end K78


namespace K78
open PySem PySem.Spec PyProof.Rows L2 KB
section
variable {P : Program} {w : World} {K : PySem.W.Frag} {mg : Str → Option Value} {base : Heap}
def _root_.M78.Mode.len : M78.Mode → Nat
  | .out => 0
  | .closed => 0
  | .word w => w.length
  | .quote w => w.length
theorem lrun_count : ∀ (t : List Nat) (ws : List M78.Word) (sp : Bool) (m : M78.Mode), (M78.lrun ws sp m t).length ≤ t.length
  | [], ws, sp, m => by cases m <;> simp [M78.lrun]
  | c :: r, ws, sp, m => by
    have ih := lrun_count r
    rw [List.length_cons]
    cases m <;> (rw [M78.lrun]; repeat' split) <;> (try rw [List.length_cons]) <;> first | exact Nat.succ_le_succ (ih _ _ _) | exact Nat.le_succ_of_le (ih _ _ _)
theorem lrun_bound : ∀ (t : List Nat) (ws : List M78.Word) (sp : Bool) (m : M78.Mode), ∀ r ∈ M78.lrun ws sp m t, r.1.length ≤ ws.length + t.length ∧ ∀ wo ∈ r.1, wo ∈ ws ∨ wo.1.length ≤ m.len + t.length
  | [], ws, sp, m => by
    intro r hr
    cases m <;> simp [M78.lrun] at hr
  | c :: t, ws, sp, m => by
    have ih := lrun_bound t
    intro r hr
    rw [List.length_cons]
    -- the rest of the walk, with other words and another mode
    have same : ∀ (sp' : Bool) (m' : M78.Mode), m'.len ≤ m.len + 1 → r ∈ M78.lrun ws sp' m' t → r.1.length ≤ ws.length + (t.length + 1) ∧ ∀ wo ∈ r.1, wo ∈ ws ∨ wo.1.length ≤ m.len + (t.length + 1) := fun sp' m' hm h => by
      obtain ⟨a, b⟩ := ih ws sp' m' r h
      refine ⟨by omega, fun wo hw => ?_⟩
      rcases b wo hw with z | z
      · exact .inl z
      · exact .inr (by omega)
    have one : ∀ (wo1 : M78.Word) (sp' : Bool) (m' : M78.Mode), m'.len = 0 → wo1.1.length ≤ m.len → r ∈ M78.lrun (ws ++ [wo1]) sp' m' t → r.1.length ≤ ws.length + (t.length + 1) ∧ ∀ wo ∈ r.1, wo ∈ ws ∨ wo.1.length ≤ m.len + (t.length + 1) := fun wo1 sp' m' hm hl h => by
      obtain ⟨a, b⟩ := ih (ws ++ [wo1]) sp' m' r h
      rw [List.length_append, List.length_singleton] at a
      refine ⟨by omega, fun wo hw => ?_⟩
      rcases b wo hw with z | z
      · rcases List.mem_append.mp z with z | z
        · exact .inl z
        · rw [List.mem_singleton.mp z]
          exact .inr (by omega)
      · exact .inr (by omega)
    have fresh : r ∈ M78.lrun [] false .out t → r.1.length ≤ ws.length + (t.length + 1) ∧ ∀ wo ∈ r.1, wo ∈ ws ∨ wo.1.length ≤ m.len + (t.length + 1) := fun h => by
      obtain ⟨a, b⟩ := ih [] false .out r h
      rw [List.length_nil] at a
      refine ⟨by omega, fun wo hw => ?_⟩
      rcases b wo hw with z | z
      · cases z
      · have : M78.Mode.out.len = 0 := rfl
        exact .inr (by omega)
    have here : ∀ sp', r = (ws, sp') → r.1.length ≤ ws.length + (t.length + 1) ∧ ∀ wo ∈ r.1, wo ∈ ws ∨ wo.1.length ≤ m.len + (t.length + 1) := fun sp' h => by
      subst h
      exact ⟨Nat.le_add_right _ _, fun wo hw => .inl hw⟩
    cases m with
    | quote x =>
      rw [M78.lrun] at hr
      split at hr
      · exact one _ _ _ rfl (Nat.le_refl _) hr
      · exact same _ _ (by show (x ++ [c]).length ≤ _; rw [List.length_append, List.length_singleton]; exact Nat.le_refl _) hr
    | word x =>
      rw [M78.lrun] at hr
      split at hr
      · rcases List.mem_cons.mp hr with h | h
        · subst h
          refine ⟨by rw [List.length_append, List.length_singleton]; omega, fun wo hw => ?_⟩
          rcases List.mem_append.mp hw with z | z
          · exact .inl z
          · rw [List.mem_singleton.mp z]
            exact .inr (Nat.le_add_right _ _)
        · exact fresh h
      · split at hr
        · exact one _ _ _ rfl (Nat.le_refl _) hr
        · exact same _ _ (by show (x ++ [c]).length ≤ _; rw [List.length_append, List.length_singleton]; exact Nat.le_refl _) hr
    | out =>
      rw [M78.lrun] at hr
      split at hr
      · rcases List.mem_cons.mp hr with h | h
        · exact here _ h
        · exact fresh h
      · split at hr
        · exact same _ _ (Nat.zero_le _) hr
        · split at hr
          · exact same _ _ (Nat.zero_le _) hr
          · exact same _ (.word [c]) (Nat.le_refl 1) hr
    | closed =>
      rw [M78.lrun] at hr
      split at hr
      · rcases List.mem_cons.mp hr with h | h
        · exact here _ h
        · exact fresh h
      · split at hr
        · exact same _ _ (Nat.zero_le _) hr
        · split at hr
          · exact same _ _ (Nat.zero_le _) hr
          · exact same _ (.word [c]) (Nat.le_refl 1) hr
theorem lc_words2 {H H3 : Hp} {a : Addr} {ws : List M78.Word} {xs : List V} {e0 e1 e3 e4 : Option V} {Qc : VK}
    (s3 : Same H H3) (ha : H a = some (.lst xs)) (hR : Reps H (ws.map wordD) xs) (hz : ws.length ≤ 100000)
    (q : ∀ b H4, Same H3 H4 → H3 b = none → H4 b = some (.lst (ws.map fun wo => V.str (S wo.1))) → Qc (.ref b) H4) :
    tLc (iList K (tVar 2)) (gName 4) tYes (tOp (rIxT K) (tVar 4) (tC (V.int 0))) [4] [e0, e1, some (V.ref a), e3, e4] H3 Qc := by
  have hlen := hR.len2
  refine ⟨.ref a, rfl, a, rfl, ⟨_, SqL.of (s3 _ _ ha)⟩, fun b hb => lc_list (xs := xs) (fun i H4 => Same H3 H4 ∧ H4 b = some (.lst ((ws.take i).map fun wo => V.str (S wo.1)))) ⟨Same.new hb, upd_same⟩ (fun i H4 _ hP => SqL.of (hP.1 _ _ (s3 _ _ ha))) (fun i x H4 hx hP => ?_) (fun H4 hP => ?_)⟩
  · obtain ⟨s4, e4⟩ := hP
    have hi : i < xs.length := (List.getElem?_eq_some_iff.mp hx).1
    have hiw : i < ws.length := by omega
    have hw1 : ws[i]? = some ws[i] := List.getElem?_eq_getElem hiw
    obtain ⟨tt, e5, e6⟩ := wd_at hR hw1
    rw [hx] at e5
    have e5 : x = .ref tt := Option.some.inj e5
    subst e5
    refine ⟨rfl, ?_⟩
    (try simp only [cx_K, cx_w, rIn, rMulS, CwR.tReplC, tM1, tBM0, rPop, rExtend, rReverse, rLenS, rEqE, rNeE, rSetL, rIntI, rIntB, tBM, rAppend, rIxL, rIxT, rCat, rSlL, rSlS, gTup, tYes, wipe, tSeq, tAsg, tIfS, tRet, tRetN, tDrop, tNext, tBreak, tCont, tNever, tAug, ipI, tPar, tPar3, gName, gCons, gNil, gSub, tVar, tC, tOp, tUn, tIf, tAndV, tOrV, tNotV, tAnd, tOr, tNot, L2.tB, tTest, tCmp, tChain, tCB, tCons, tNil, tCall, tTup, tLst, tSl, tPart, tNoPart, rI, rI0, rU, rEq, rNe, scal_ii, scal_ss, scal_bb, scal_nn, scal_is, scal_si, rIxS, S_len, S_cps, S_inj, L2.start, List.map_cons, List.map_nil, List.cons_append, List.nil_append, List.append_nil, List.getElem?_cons_zero, List.getElem?_cons_succ, List.set_cons_zero, List.set_cons_succ, List.length_cons, List.length_nil, Nat.reduceAdd, Nat.reduceSub, List.replicate_succ, List.replicate_zero, Option.some.injEq, V.int.injEq, V.str.injEq, V.bl.injEq, V.ref.injEq, List.cons.injEq, and_true, true_and, exists_eq_left, exists_eq_left', exists_and_left, exists_eq, exists_eq', decide_eq_true_eq, Bool.not_eq_true', decide_eq_false_iff_not, Bool.false_eq_true, if_false, if_true, reduceIte, ite_self, CMul, CPow, CDiv])
    refine ⟨_, SqT.of (s4 _ _ (s3 _ _ e6)), _, at_nat (i := 0) rfl, _, e4, ?_, s4.mut hb, ?_⟩
    · rw [List.length_map, List.length_take]
      exact sz5' (by omega)
    · rw [upd_same, take_snoc hw1, List.map_append]
      rfl
  · obtain ⟨s4, e4⟩ := hP
    rw [hlen, List.take_length] at e4
    exact q b H4 s4 hb e4
theorem allFit_eq : ∀ {ks : List M78.Kind} {ws : List M78.Word}, M78.allFit ks ws = true → ks.length = ws.length := fun {ks ws} h => Decidable.byContradiction fun z => by
  rw [allFit_len z] at h
  cases h
theorem forms_le {k : List Nat} {ks : List M78.Kind} (h : M78.forms k = some ks) : ks.length ≤ 3 := by
  unfold M78.forms at h
  repeat' split at h
  all_goals first | (cases h; done) | (have h := Option.some.inj h; subst h; decide)
theorem act_le {o : Option (List M78.Word)} {z : List (List Nat)} (h : M78.act o = some z) : z.length ≤ 4 := by
  cases o with
  | none => cases h
  | some ws =>
    have h : (if M78.isAct ws = true then some (ws.map (·.1)) else none) = some z := h
    split at h
    · rename_i ha
      have h := Option.some.inj h
      subst h
      rw [List.length_map]
      cases ws with
      | nil => exact Nat.zero_le _
      | cons w r =>
        unfold M78.isAct at ha
        cases hf : M78.forms w.1 with
        | none =>
          simp [hf] at ha
        | some ks =>
          simp only [hf, Bool.and_eq_true] at ha
          have h1 := allFit_eq ha.2
          have h2 := forms_le hf
          rw [List.length_cons]
          omega
    · cases h
theorem acts_count (l : List Nat) : (M78.acts l).length ≤ l.length + 1 := by
  have h1 := List.length_filterMap_le M78.act (M78.prun [] true l)
  have h2 := prun_count l.length l [] true (Nat.le_refl _)
  exact Nat.le_trans h1 h2
theorem strs_dsizes (z : List (List Nat)) : dsizes (z.map D.str) = z.length := by
  induction z with
  | nil => rfl
  | cons a z ih =>
    rw [List.map_cons, dsizes, ih, List.length_cons]
    show 1 + z.length = _
    omega
theorem acts_dsizes : ∀ L : List (List (List Nat)), (∀ z ∈ L, z.length ≤ 4) → dsizes (L.map strsD) ≤ L.length * 5
  | [], _ => Nat.zero_le _
  | z :: L, h => by
    have ih := acts_dsizes L fun y hy => h y (List.mem_cons_of_mem _ hy)
    have hz := h z List.mem_cons_self
    rw [List.map_cons, dsizes, List.length_cons, Nat.add_mul]
    have : dsize (strsD z) = 1 + z.length := by
      show 1 + dsizes (z.map D.str) = _
      rw [strs_dsizes]
    omega
theorem acts_size (l : List Nat) (h : l.length ≤ 3000) : dsize (actsD (M78.acts l)) ≤ 1000000 := by
  have h1 := acts_count l
  have h2 := acts_dsizes (M78.acts l) fun z hz => by
    obtain ⟨o, _, ho⟩ := List.mem_filterMap.mp hz
    exact act_le ho
  show 1 + dsizes ((M78.acts l).map strsD) ≤ _
  omega
def spRead : Sp := fun vs H Q _ => ∃ l : List Nat, vs = [.str (S l)] ∧ l.length ≤ 3000 ∧ ∀ r H', Same H H' → Rep (since H H') (actsD (M78.acts l)) r → Q r H'
theorem okRead (T : Top K w mg) : Ok P w K mg base CX0 3 "_law_read" ["text"] spRead := by
  have m_tuple := T.m_tuple
  have GLawParts : Ok P w K mg base CX0 1 "_law_parts" ["text"] spParts := okParts T
  have GLawIsAction : Ok P w K mg base CX0 2 "_law_is_action" ["words"] spLIsAction := okLIsAction T
  refine mkOk T.f__law_read scLawRead (fun vs H Q E h => ?_) (fun f cdv A outer s H vs Q E hr h => ?_)
  · obtain ⟨_, rfl, _⟩ := h
    rfl
  · obtain ⟨l, rfl, hl, q⟩ := h
    refine ⟨_, pss_cons (ps_set (i := 1) scLawRead.nd rfl (Or.inl rfl) (pe_lst (pa_nil)))
  (pss_cons (ps_for PassesOwn.never rfl (pi_list (pcall GLawParts (hr.mono (by decide)) (by rfl) pass0 (pa_cons (pv 0) pa_nil))) (pg_tup (n := 2) rfl (pgs_cons (pg_name (i := 2) scLawRead.nd rfl (Or.inl rfl)) (pgs_cons (pg_name (i := 3) scLawRead.nd rfl (Or.inl rfl)) pgs_nil)))
  (pss_one (ps_if (PW.pt (pw_and (pt_not (pt_val (pv 3))) (pw_and1 (pt_val (pcall GLawIsAction (hr.mono (by decide)) (by rfl) pass0 (pa_cons (pv 2) pa_nil))))))
  (pss_one (ps_expr (pe_bm PySem.F.plainAttrs_list PySem.F.slot_list_append PySem.F.type_list_append mt_append (pv 1) (pa_cons (pe_callTy call_tuple_of (by rfl) m_tuple (by decide +kernel) (pa_cons (pe_lc (own := [("pair", 4)]) rfl scLawRead.nd (pi_list (pv 2)) (blkOk_by (own := [("pair", 4)]) (N := ["text", "found", "words", "spoilt", "pair"]) (sc := defScope sLawRead) (by decide +kernel)) (fun _ _ _ _ _ => pg_name (i := 4) scLawRead.nd rfl (Or.inl rfl)) (fun _ _ _ _ _ => pts_nil) (fun _ _ _ _ _ => pe_ix (ix_tupK (K := K) rfl) (pv 4) (pe_int) (fun _ _ => rfl))) pa_nil)) pa_nil))))
  (pss_nil))))
  (pss_one (ps_ret (pv 1)))), ?_⟩
    (try simp only [cx_K, cx_w, rIn, rMulS, CwR.tReplC, tM1, tBM0, rPop, rExtend, rReverse, rLenS, rEqE, rNeE, rSetL, rIntI, rIntB, tBM, rAppend, rIxL, rIxT, rCat, rSlL, rSlS, gTup, tYes, wipe, tSeq, tAsg, tIfS, tRet, tRetN, tDrop, tNext, tBreak, tCont, tNever, tAug, ipI, tPar, tPar3, gName, gCons, gNil, gSub, tVar, tC, tOp, tUn, tIf, tAndV, tOrV, tNotV, tAnd, tOr, tNot, L2.tB, tTest, tCmp, tChain, tCB, tCons, tNil, tCall, tTup, tLst, tSl, tPart, tNoPart, rI, rI0, rU, rEq, rNe, scal_ii, scal_ss, scal_bb, scal_nn, scal_is, scal_si, rIxS, S_len, S_cps, S_inj, L2.start, List.map_cons, List.map_nil, List.cons_append, List.nil_append, List.append_nil, List.getElem?_cons_zero, List.getElem?_cons_succ, List.set_cons_zero, List.set_cons_succ, List.length_cons, List.length_nil, Nat.reduceAdd, Nat.reduceSub, List.replicate_succ, List.replicate_zero, Option.some.injEq, V.int.injEq, V.str.injEq, V.bl.injEq, V.ref.injEq, List.cons.injEq, and_true, true_and, exists_eq_left, exists_eq_left', exists_and_left, exists_eq, exists_eq', decide_eq_true_eq, Bool.not_eq_true', decide_eq_false_iff_not, Bool.false_eq_true, if_false, if_true, reduceIte, ite_self, CMul, CPow, CDiv])
    refine ⟨by decide, fun p hp => ?_⟩
    have s1 : Same H (upd H p (.lst [])) := Same.new hp
    have hpn : upd H p (.lst []) p ≠ none := by
      rw [upd_same]
      exact fun z => nomatch z
    refine ⟨_, rfl, l, rfl, by omega, fun v H1 sm hP => ?_⟩
    obtain ⟨pa, ps, rfl, eP, hR⟩ := hP
    have hln := hR.len2
    have hcnt := lrun_count (l ++ [59]) [] false .out
    have hbd := lrun_bound (l ++ [59]) [] false .out
    rw [List.length_append, List.length_singleton] at hcnt hbd
    have hpa : pa ≠ p := fun z => by
      subst z
      exact hpn (since_some.mp eP).1
    have eP := (since_some.mp eP).2
    have ep1 : H1 p = some (.lst []) := sm _ _ upd_same
    have s01 := s1.trans sm
    refine ⟨pa, rfl, ⟨_, SqL.of eP⟩, for_list (xs := ps) (fun i σ H2 => ∃ e2 e3 e4 acc, σ = [some (.str (S l)), some (.ref p), e2, e3, e4] ∧ Same H H2 ∧ Kp p H1 H2 ∧ H2 p = some (.lst acc) ∧ Reps (hide [p] (since H H2)) ((((M78.lrun [] false .out (l ++ [59])).take i).filterMap M78.actL).map strsD) acc)
      ⟨_, _, _, [], rfl, s01, Kp.refl, ep1, rfl⟩ (fun i σ H2 _ hP => ?_) (fun i x σ H2 hx hP => ?_) (fun σ H2 hP => ?_)⟩
    · obtain ⟨_, _, _, _, _, _, k, _⟩ := hP
      exact SqL.of (k _ _ hpa eP)
    · obtain ⟨e2, e3, e4, acc, rfl, s2, k2, ep2, r2⟩ := hP
      have hi : i < ps.length := (List.getElem?_eq_some_iff.mp hx).1
      have hio : i < (M78.lrun [] false .out (l ++ [59])).length := by omega
      have ho : (M78.lrun [] false .out (l ++ [59]))[i]? = some (M78.lrun [] false .out (l ++ [59]))[i] := List.getElem?_eq_getElem hio
      have hb := hbd _ (List.getElem_mem hio)
      generalize (M78.lrun [] false .out (l ++ [59]))[i] = r at ho hb
      obtain ⟨ws, sp⟩ := r
      obtain ⟨d, hd, rd⟩ := hR.get hx
      rw [List.getElem?_map, ho] at hd
      have hd : partD (ws, sp) = d := Option.some.inj hd
      subst hd
      have mono : Same (since (upd H p (.lst [])) H1) H2 := fun b o e => by
        obtain ⟨e1, e2⟩ := since_some.mp e
        exact k2 b o (fun z => by subst z; exact hpn e1) e2
      obtain ⟨t, ys, rfl, et, rt⟩ := rd
      obtain ⟨x1, _, rfl, rw1, x2, _, rfl, rx2, rfl⟩ := rt
      have rx2 : x2 = .bl sp := rx2
      subst rx2
      have et2 := mono _ _ et
      have rw2 := rw1.mono mono
      have hla := r2.len2
      have hle := List.length_filterMap_le M78.actL ((M78.lrun [] false .out (l ++ [59])).take i)
      rw [List.length_take] at hle
      (try simp only [cx_K, cx_w, rIn, rMulS, CwR.tReplC, tM1, tBM0, rPop, rExtend, rReverse, rLenS, rEqE, rNeE, rSetL, rIntI, rIntB, tBM, rAppend, rIxL, rIxT, rCat, rSlL, rSlS, gTup, tYes, wipe, tSeq, tAsg, tIfS, tRet, tRetN, tDrop, tNext, tBreak, tCont, tNever, tAug, ipI, tPar, tPar3, gName, gCons, gNil, gSub, tVar, tC, tOp, tUn, tIf, tAndV, tOrV, tNotV, tAnd, tOr, tNot, L2.tB, tTest, tCmp, tChain, tCB, tCons, tNil, tCall, tTup, tLst, tSl, tPart, tNoPart, rI, rI0, rU, rEq, rNe, scal_ii, scal_ss, scal_bb, scal_nn, scal_is, scal_si, rIxS, S_len, S_cps, S_inj, L2.start, List.map_cons, List.map_nil, List.cons_append, List.nil_append, List.append_nil, List.getElem?_cons_zero, List.getElem?_cons_succ, List.set_cons_zero, List.set_cons_succ, List.length_cons, List.length_nil, Nat.reduceAdd, Nat.reduceSub, List.replicate_succ, List.replicate_zero, Option.some.injEq, V.int.injEq, V.str.injEq, V.bl.injEq, V.ref.injEq, List.cons.injEq, and_true, true_and, exists_eq_left, exists_eq_left', exists_and_left, exists_eq, exists_eq', decide_eq_true_eq, Bool.not_eq_true', decide_eq_false_iff_not, Bool.false_eq_true, if_false, if_true, reduceIte, ite_self, CMul, CPow, CDiv])
      refine ⟨_, SqT.of et2, rfl, _, _, rfl, _, _, rfl, rfl, sp, rfl, ?_⟩
      have skip : ∀ H3, Same H2 H3 → M78.actL (ws, sp) = none → ∃ e2 e3 e4_1, (some x1 = e2 ∧ some (V.bl sp) = e3 ∧ e4 = e4_1) ∧ Same H H3 ∧ Kp p H1 H3 ∧ ∃ acc, H3 p = some (.lst acc) ∧ Reps (hide [p] (since H H3)) ((((M78.lrun [] false .out (l ++ [59])).take (i + 1)).filterMap M78.actL).map strsD) acc := fun H3 s3 hN => by
        refine ⟨_, _, _, ⟨rfl, rfl, rfl⟩, s2.trans s3, k2.trans s3.kp, acc, s3 _ _ ep2, ?_⟩
        rw [take_snoc ho, List.filterMap_append, List.filterMap_cons, hN]
        simpa using r2.mono (since_right s3).hide
      have hAL : M78.actL (ws, sp) = if !sp && M78.isActL ws then some (ws.map (·.1)) else none := by
        rw [← M78.isAct_eq]
        rfl
      refine ite2 (fun hs => ?_) (fun hs => ?_)
      · subst hs
        refine ⟨x1, ws, rfl, rw2, by have h1 : ws.length ≤ [].length + (l.length + 1) := hb.1; rw [List.length_nil] at h1; omega, fun wo hw => ?_, fun H3 s3 => ?_⟩
        · rcases hb.2 wo hw with z | z
          · cases z
          · have : M78.Mode.out.len = 0 := rfl
            omega
        · refine ⟨_, rfl, ite2 (fun ha => ?_) (fun ha => ?_)⟩
          · obtain ⟨aw, xs, rfl, ew, rws⟩ := rw2
            refine ⟨.inl ⟨rfl, _, SqL.of (s3 _ _ ep2)⟩, ?_⟩
            have hwn : ws.length ≤ 100000 := by have h1 : ws.length ≤ [].length + (l.length + 1) := hb.1; rw [List.length_nil] at h1; omega
            refine lc_words2 (K := K) (H := H2) (a := aw) s3 ew rws hwn fun b H4 s4 hb4 eb => ?_
            refine ⟨b, rfl, _, .inl ⟨SqL.of eb, fun q1 hq1 => ?_⟩⟩
            have s24 := s3.trans s4
            have s25 := s24.trans (Same.new (o := .tup (ws.map fun wo => V.str (S wo.1))) hq1)
            have s05 := s2.trans s25
            refine ⟨acc, s25 _ _ ep2, sz5' (by omega), _, _, _, ⟨rfl, rfl, rfl⟩, s05.mut hp, ?_, _, upd_same, ?_⟩
            · exact (k2.trans s25.kp).trans Kp.at
            · rw [take_snoc ho, List.filterMap_append, List.filterMap_cons, hAL, ha]
              show Reps _ (List.map strsD (_ ++ [ws.map (·.1)])) _
              rw [List.map_append]
              have hq0 : H q1 = none := (s2.trans s24).free hq1
              have nq : q1 ≠ p := fun z => by
                subst z
                rw [s24 _ _ ep2] at hq1
                cases hq1
              refine ((r2.mono (since_right s25).hide).mono (hs_upd (by simp))).snoc ⟨q1, ws.map fun wo => V.str (S wo.1), rfl, hide_some.mpr ⟨by simp [nq], since_some.mpr ⟨hq0, ?_⟩⟩, ?_⟩
              · rw [upd_ne nq, upd_same]
              · have : (ws.map fun wo => V.str (S wo.1)) = (ws.map (·.1)).map fun z => V.str (S z) := by rw [List.map_map]; rfl
                rw [this]
                exact reps_strs
          · have ha : M78.isActL ws = false := by simpa using ha
            exact skip H3 s3 (by rw [hAL, ha]; rfl)
      · have hs : sp = true := by simpa using hs
        subst hs
        exact skip H2 (Same.refl _) (by rw [hAL]; rfl)
    · obtain ⟨e2, e3, e4, acc, rfl, s2, k2, ep2, r2⟩ := hP
      (try simp only [cx_K, cx_w, rIn, rMulS, CwR.tReplC, tM1, tBM0, rPop, rExtend, rReverse, rLenS, rEqE, rNeE, rSetL, rIntI, rIntB, tBM, rAppend, rIxL, rIxT, rCat, rSlL, rSlS, gTup, tYes, wipe, tSeq, tAsg, tIfS, tRet, tRetN, tDrop, tNext, tBreak, tCont, tNever, tAug, ipI, tPar, tPar3, gName, gCons, gNil, gSub, tVar, tC, tOp, tUn, tIf, tAndV, tOrV, tNotV, tAnd, tOr, tNot, L2.tB, tTest, tCmp, tChain, tCB, tCons, tNil, tCall, tTup, tLst, tSl, tPart, tNoPart, rI, rI0, rU, rEq, rNe, scal_ii, scal_ss, scal_bb, scal_nn, scal_is, scal_si, rIxS, S_len, S_cps, S_inj, L2.start, List.map_cons, List.map_nil, List.cons_append, List.nil_append, List.append_nil, List.getElem?_cons_zero, List.getElem?_cons_succ, List.set_cons_zero, List.set_cons_succ, List.length_cons, List.length_nil, Nat.reduceAdd, Nat.reduceSub, List.replicate_succ, List.replicate_zero, Option.some.injEq, V.int.injEq, V.str.injEq, V.bl.injEq, V.ref.injEq, List.cons.injEq, and_true, true_and, exists_eq_left, exists_eq_left', exists_and_left, exists_eq, exists_eq', decide_eq_true_eq, Bool.not_eq_true', decide_eq_false_iff_not, Bool.false_eq_true, if_false, if_true, reduceIte, ite_self, CMul, CPow, CDiv])
      rw [hln, List.take_length] at r2
      refine q _ _ s2 ⟨p, acc, rfl, since_some.mpr ⟨hp, ep2⟩, ?_⟩
      rw [M78.acts_eq]
      exact r2.mono hide_sub
def spTold : Sp := fun vs H Q _ => ∃ (l : List Nat) (v : V), vs = [.str (S l), v] ∧ l.length ≤ 3000 ∧ l.all told = true ∧ Rep H (actsD (M78.acts l)) v ∧ ∀ H', Same H H' → Q (.bl true) H'
theorem okTold (T : Top K w mg) : Ok P w K mg base CX0 6 "_law_told" ["text", "due"] spTold := by
  have GActionsOf : Ok P w K mg base CX0 5 "actions_of" ["text"] spActionsOf := okActionsOf T
  have GLawSame : Ok P w K mg base CX0 1 "_law_same" ["told", "due"] spSame := okSame T
  refine mkOk T.f__law_told scLawTold (fun vs H Q E h => ?_) (fun f cdv A outer s H vs Q E hr h => ?_)
  · obtain ⟨_, _, rfl, _⟩ := h
    rfl
  · obtain ⟨l, v, rfl, hl, ht, hR, q⟩ := h
    refine ⟨_, pss_cons (ps_set (i := 2) scLawTold.nd rfl (Or.inl rfl) (pcall GActionsOf (hr.mono (by decide)) (by rfl) pass0 (pa_cons (pv 0) pa_nil)))
  (pss_cons (ps_if (pt_not (pt_val (pcall GLawSame (hr.mono (by decide)) (by rfl) pass0 (pa_cons (pv 2) (pa_cons (pv 1) pa_nil)))))
  (pss_one (ps_ret (pe_bl)))
  (pss_nil))
  (pss_cons (ps_expr (pe_bm PySem.F.plainAttrs_list PySem.F.slot_list_append PySem.F.type_list_append mt_append (pv 2) (pa_cons (pe_tup (pa_cons (pe_str) pa_nil)) pa_nil)))
  (pss_cons (ps_expr (pe_bm0 PySem.F.plainAttrs_list PySem.F.slot_list_reverse PySem.F.type_list_reverse mt_reverse (pv 2)))
  (pss_one (ps_ret (pcall GLawSame (hr.mono (by decide)) (by rfl) pass0 (pa_cons (pcall GActionsOf (hr.mono (by decide)) (by rfl) pass0 (pa_cons (pv 0) pa_nil)) (pa_cons (pv 1) pa_nil)))))))), ?_⟩
    (try simp only [cx_K, cx_w, rIn, rMulS, CwR.tReplC, tM1, tBM0, rPop, rExtend, rReverse, rLenS, rEqE, rNeE, rSetL, rIntI, rIntB, tBM, rAppend, rIxL, rIxT, rCat, rSlL, rSlS, gTup, tYes, wipe, tSeq, tAsg, tIfS, tRet, tRetN, tDrop, tNext, tBreak, tCont, tNever, tAug, ipI, tPar, tPar3, gName, gCons, gNil, gSub, tVar, tC, tOp, tUn, tIf, tAndV, tOrV, tNotV, tAnd, tOr, tNot, L2.tB, tTest, tCmp, tChain, tCB, tCons, tNil, tCall, tTup, tLst, tSl, tPart, tNoPart, rI, rI0, rU, rEq, rNe, scal_ii, scal_ss, scal_bb, scal_nn, scal_is, scal_si, rIxS, S_len, S_cps, S_inj, L2.start, List.map_cons, List.map_nil, List.cons_append, List.nil_append, List.append_nil, List.getElem?_cons_zero, List.getElem?_cons_succ, List.set_cons_zero, List.set_cons_succ, List.length_cons, List.length_nil, Nat.reduceAdd, Nat.reduceSub, List.replicate_succ, List.replicate_zero, Option.some.injEq, V.int.injEq, V.str.injEq, V.bl.injEq, V.ref.injEq, List.cons.injEq, and_true, true_and, exists_eq_left, exists_eq_left', exists_and_left, exists_eq, exists_eq', decide_eq_true_eq, Bool.not_eq_true', decide_eq_false_iff_not, Bool.false_eq_true, if_false, if_true, reduceIte, ite_self, CMul, CPow, CDiv])
    have hd := acts_size l (by omega)
    refine ⟨l, rfl, hl, ht, fun r H1 s1 r1 => ?_⟩
    have hv1 := hR.mono s1
    refine ⟨r, v, _, rfl, r1.mono since_sub, hv1, hd, fun H2 s2 => ⟨true, rfl, ?_⟩⟩
    rw [if_neg (fun z => nomatch z)]
    obtain ⟨ra, rs, rfl, e1, r1⟩ := r1
    obtain ⟨h0, e1⟩ := since_some.mp e1
    have e2 := s2 _ _ e1
    have hrl : rs.length ≤ 10000 := by
      have := r1.len2
      have h3 := acts_count l
      omega
    refine ⟨.inl ⟨rfl, _, SqL.of e2⟩, by decide, fun p hp => ⟨ra, rfl, rs, (Same.new hp) _ _ e2, sz5' (by omega), .inl ⟨rfl, _, SqL.of upd_same⟩, ra, rfl, _, upd_same, l, rfl, hl, ht, fun r3 H3 s3 r3' => ?_⟩⟩
    have s03 : Same H H3 := ((((s1.trans s2).trans (Same.new hp)).mut h0).mut h0).trans s3
    refine ⟨r3, v, _, rfl, r3'.mono since_sub, hR.mono s03, hd, fun H4 s4 => q H4 (s03.trans s4)⟩
end
end K78


namespace K78
open PySem PySem.Spec PyProof.Rows L2 KB
structure ExcTop (K : PySem.W.Frag) (mg : Str → Option Value) (cP cT cD cN cL cC cS : Addr) : Prop where
  gP : mg "PageError" = some (.ref cP)
  gT : mg "BadText" = some (.ref cT)
  gD : mg "BadDeed" = some (.ref cD)
  gN : mg "BadName" = some (.ref cN)
  gL : mg "TooLong" = some (.ref cL)
  gC : mg "BadCell" = some (.ref cC)
  gS : mg "BadState" = some (.ref cS)
  qT : PySem.W.excIn K cT [.type "Exception", .type "BaseException", .type "object"] "Exception.__new__" = true
  kT : PySem.W.keepIn K (.ref cT) = true
  sT : PySem.W.subIn K (.ref cT) (.type "BaseException") = some true
  tT : PySem.W.typeIn K (.ref cT) = some (.type "type")
  xT : ExcC K cT
  mP : PySem.W.exmOne K (.ref cT) (.ref cP) = some true
  iD : PySem.W.kitOne K (.ref cT) (.ref cD) = some false
  iN : PySem.W.kitOne K (.ref cT) (.ref cN) = some false
  iL : PySem.W.kitOne K (.ref cT) (.ref cL) = some false
  iC : PySem.W.kitOne K (.ref cT) (.ref cC) = some false
  iS : PySem.W.kitOne K (.ref cT) (.ref cS) = some false
  iT : PySem.W.kitOne K (.ref cT) (.ref cT) = some true
theorem pmk_own0 {X : Cx} {C : Addr} {bmB : List Value} {B newId initId : String} {x : Str} {p pos : Pos} (F : ExcBaseFacts B newId initId bmB) (q : PySem.W.excIn X.K C bmB newId = true) (gC : X.mg x = some (.ref C))
    (kC : PySem.W.keepIn X.K (.ref C) = true) (r : Raises X (.ref C)) (hg : Gl X x) (hdb : (x == ("__debug__" : Str)) = false := by decide) :
    PMk X (.Call (.Name x p) [] [] pos) (fun _ H Q => Q (.ref C) none H) := by
  intro pins s σ H Q I h
  refine wpAny_Call_Name_kw (ld_glob I hg gC ?_ hdb)
  refine PySem.W.callWith_K0 I.kIn kC ?_
  show wpAny _ _ (call (.ref C) []) _ _ _
  obtain ⟨bm, N, nm, qn, bs, hdct, sn, sub, ab, col, dd, k0, k1, k2, k3, k5, mN, hC, hN, hni, T⟩ := exc_obj I.kIn q
  refine wpAny_call_exc_subT F T hC hN hni (fun h' e hm => ?_) (by decide)
  exact mk_of I hm r h (I.hok.gone hm.new)
def rIsE' (K : PySem.W.Frag) (D a : Addr) (cls : Value) (d : Option Addr) : List V → Hp → VK → Prop := fun xs H Q => cls = .ref D ∧ d = none ∧ rIsE K D a xs H Q
theorem call_isE' {X : Cx} {a D : Addr} {oe : Obj} {cls : Value} {d : Option Addr} {pn : List (Addr × Obj)} (C : ExcC X.K D) (hz : Zc cls d oe) (hf : ∃ vs, oe.data = .fields vs) : CallR (X.suite a ((a, oe) :: pn)) (.builtin "isinstance") (rIsE' X.K D a cls d) := by
  intro pins s σ H xs us Q I r h
  obtain ⟨e1, e2, h⟩ := h
  subst e1 e2
  exact call_isE C hz hf pins s σ H xs us Q I r h
section
variable {P : Program} {w : World} {K : PySem.W.Frag} {mg : Str → Option Value} {base : Heap} {cP cT cD cN cL cC cS : Addr}
theorem iteF' {a b : Prop} (x : b) : if false = true then a else b := by
  rw [if_neg (fun z => nomatch z)]
  exact x
theorem isE {a c : Addr} {b : Bool} {H : Hp} {Q : VK} (hk : PySem.W.kitOne K (.ref cT) (.ref c) = some b) (q : Q (.bl b) H) : rIsE' K cT a (.ref cT) none [.ref a, .ref c] H Q := ⟨rfl, rfl, .ref c, .ref c, b, rfl, fun _ r => r, hk, q⟩
/-- no text that may stand as one -/
def NotText (K : PySem.W.Frag) (H : Hp) (v : V) : Prop := (∃ l, v = .str (S l) ∧ l.length ≤ 100000 ∧ (decide (l.length ≤ 3000) && l.all told) = false) ∨ ∃ m : String, TyOf K H v (.type m) ∧ PySem.W.kitOne K (.type m) (.type "str") = some false
def spNotText (K : PySem.W.Frag) : Sp := fun vs H Q _ => ∃ v, vs = [v] ∧ NotText K H v ∧ ∀ H', Same H H' → Q (.bl false) H'
theorem okIsText2 (T : Top K w mg) : Ok P w K mg base CX0 3 "is_text" ["value"] (spNotText K) := by
  have m_isinstance := T.m_isinstance
  have m_str := T.m_str
  have m_len := T.m_len
  obtain ⟨tM, m_MOST_SIGNS⟩ := T.m_MOST_SIGNS
  have GAreTold : Ok P w K mg base CX0 2 "are_told" ["value"] spAreTold := okAreTold T
  refine mkOk T.f_is_text scIsText (fun vs H Q E h => ?_) (fun f cdv A outer s H vs Q E hr h => ?_)
  · obtain ⟨c, rfl, _⟩ := h
    rfl
  · obtain ⟨v, rfl, hv, q⟩ := h
    refine ⟨_, pss_one (ps_ret (pe_and (pe_callB call_isi (by rfl) m_isinstance (by decide +kernel) (pa_cons (pv 0) (pa_cons (pe_bltn (u := .type "str") (v := .ty "str") (by rfl) m_str (by decide +kernel) rfl) pa_nil))) (pe_and (pe_cmpR op_le (pe_callB call_len_str (by rfl) m_len PySem.boot_len (pa_cons (pv 0) pa_nil)) (pe_glob (v := .int 3000) rfl m_MOST_SIGNS ⟨_, rfl⟩) (nomark _)) (pe_one (pcall GAreTold (hr.mono (by decide)) (by rfl) pass0 (pa_cons (pv 0) pa_nil)))))), ?_⟩
    (try simp only [cx_K, cx_w, rIn, rMulS, CwR.tReplC, tM1, tBM0, rPop, rExtend, rReverse, rLenS, rEqE, rNeE, rSetL, rIntI, rIntB, tBM, rAppend, rIxL, rIxT, rCat, rSlL, rSlS, gTup, tYes, wipe, tSeq, tAsg, tIfS, tRet, tRetN, tDrop, tNext, tBreak, tCont, tNever, tAug, ipI, tPar, tPar3, gName, gCons, gNil, gSub, tVar, tC, tOp, tUn, tIf, tAndV, tOrV, tNotV, tAnd, tOr, tNot, L2.tB, tTest, tCmp, tChain, tCB, tCons, tNil, tCall, tTup, tLst, tSl, tPart, tNoPart, rI, rI0, rU, rEq, rNe, scal_ii, scal_ss, scal_bb, scal_nn, scal_is, scal_si, rIxS, S_len, S_cps, S_inj, L2.start, List.map_cons, List.map_nil, List.cons_append, List.nil_append, List.append_nil, List.getElem?_cons_zero, List.getElem?_cons_succ, List.set_cons_zero, List.set_cons_succ, List.length_cons, List.length_nil, Nat.reduceAdd, Nat.reduceSub, List.replicate_succ, List.replicate_zero, Option.some.injEq, V.int.injEq, V.str.injEq, V.bl.injEq, V.ref.injEq, List.cons.injEq, and_true, true_and, exists_eq_left, exists_eq_left', exists_and_left, exists_eq, exists_eq', decide_eq_true_eq, Bool.not_eq_true', decide_eq_false_iff_not, Bool.false_eq_true, if_false, if_true, reduceIte, ite_self, CMul, CPow, CDiv])
    rcases hv with ⟨l, rfl, hl, hb⟩ | ⟨m, ht, hk⟩
    · refine isi (K := K) (.str _) (kit_ty (by decide +kernel)) ⟨true, rfl, iteT ⟨_, rfl, sz5 (by rw [S_len]; omega), ?_⟩⟩
      by_cases h : l.length ≤ 3000
      · rw [decide_eq_true h, Bool.true_and] at hb
        refine ifT (by rw [S_len]; omega) ⟨l, rfl, hl, fun H' sm => ?_⟩
        rw [hb]
        exact q H' sm
      · exact ifF (by rw [S_len]; omega) (q H (Same.refl H))
    · exact isi (K := K) ht hk ⟨false, rfl, iteF (q H (Same.refl H))⟩
def spActionsBad (K : PySem.W.Frag) (cT : Addr) : Sp := fun vs H _ E => ∃ v, vs = [v] ∧ NotText K H v ∧ ∀ H', Same H H' → E (.ref cT) none H'
theorem okActionsBad (T : Top K w mg) (X : ExcTop K mg cP cT cD cN cL cC cS) {f : Addr} {fd : FuncData} (F : Fun K "actions_of" "actions_of" sActionsOf f fd) : FnOk P w K mg base (L2.CX P w) 5 f fd ["text"] (spActionsBad K cT) := by
  have GIsText2 : Ok P w K mg base CX0 3 "is_text" ["value"] (spNotText K) := okIsText2 T
  refine F.okX scActionsOf (fun vs H Q E h => ?_) (fun cdv A outer s H vs Q E hr h => ?_)
  · obtain ⟨_, rfl, _⟩ := h
    rfl
  · obtain ⟨v, rfl, hv, q⟩ := h
    refine ⟨_, pss_cons (ps_if (pt_not (pt_val (pcall GIsText2 (hr.mono (by decide)) (by rfl) pass0 (pa_cons (pv 0) pa_nil)))) (pss_one (ps_raise rfl (takes_of rfl rfl rfl rfl) (pmk_own0 PySem.F.excBase_Exception X.qT X.gT X.kT (raises_own X.sT X.tT) rfl))) pss_nil) pss_never, ?_⟩
    (try simp only [cx_K, cx_w, rIn, rMulS, CwR.tReplC, tM1, tBM0, rPop, rExtend, rReverse, rLenS, rEqE, rNeE, rSetL, rIntI, rIntB, tBM, rAppend, rIxL, rIxT, rCat, rSlL, rSlS, gTup, tYes, wipe, tSeq, tAsg, tIfS, tRet, tRetN, tDrop, tNext, tBreak, tCont, tNever, tAug, ipI, tPar, tPar3, gName, gCons, gNil, gSub, tVar, tC, tOp, tUn, tIf, tAndV, tOrV, tNotV, tAnd, tOr, tNot, L2.tB, tTest, tCmp, tChain, tCB, tCons, tNil, tCall, tTup, tLst, tSl, tPart, tNoPart, rI, rI0, rU, rEq, rNe, scal_ii, scal_ss, scal_bb, scal_nn, scal_is, scal_si, rIxS, S_len, S_cps, S_inj, L2.start, List.map_cons, List.map_nil, List.cons_append, List.nil_append, List.append_nil, List.getElem?_cons_zero, List.getElem?_cons_succ, List.set_cons_zero, List.set_cons_succ, List.length_cons, List.length_nil, Nat.reduceAdd, Nat.reduceSub, List.replicate_succ, List.replicate_zero, Option.some.injEq, V.int.injEq, V.str.injEq, V.bl.injEq, V.ref.injEq, List.cons.injEq, and_true, true_and, exists_eq_left, exists_eq_left', exists_and_left, exists_eq, exists_eq', decide_eq_true_eq, Bool.not_eq_true', decide_eq_false_iff_not, Bool.false_eq_true, if_false, if_true, reduceIte, ite_self, CMul, CPow, CDiv])
    refine ⟨v, rfl, hv, fun H' sm => ⟨false, rfl, ?_⟩⟩
    exact ifT rfl (q H' sm)
def spRefused (K : PySem.W.Frag) : Sp := fun vs H Q _ => ∃ v, vs = [v] ∧ NotText K H v ∧ ∀ H', Same H H' → Q (.bl true) H'
theorem okRefused (T : Top K w mg) (X : ExcTop K mg cP cT cD cN cL cC cS) : Ok P w K mg base CX0 6 "_law_is_refused" ["value"] (spRefused K) := by
  have m_isinstance := T.m_isinstance
  obtain ⟨fA, fdA, gA, FA, bA⟩ := T.f_actions_of
  have GA : FnOk P w K mg base (L2.CX P w) 5 fA fdA ["text"] (spActionsBad K cT) := okActionsBad T X FA
  refine mkOk T.f__law_is_refused scLawIsRefused (fun vs H Q E h => ?_) (fun f cdv A outer s H vs Q E hr h => ?_)
  · obtain ⟨_, rfl, _⟩ := h
    rfl
  · obtain ⟨v, rfl, hv, q⟩ := h
    refine ⟨_, pss_cons (ps_try_as (i := 1) (tb := fun W => tDrop (tCallS (spActionsBad K cT) (WE W) (tCons (tVar 0) tNil))) (Wout := fun _ _ _ _ => False) rfl rfl scLawIsRefused.nd rfl rfl ⟨rfl, by decide, Or.inl X.gP⟩ takes0
      (fun W pn xe tk _ => pss_one (ps_expr (by exact (pe_callS GA (hr.mono (by decide)) rfl gA FA.kp bA (fun σ => passAt tk σ) (by exact (pa_cons (pv 0) pa_nil))))))
      (fun a oe cls d pn hz hf => pss_cons (ps_if (PW.pt (pw_or (pt_val (pe_callB (call_isE' X.xT hz hf) (by rfl) m_isinstance (by decide +kernel) (pa_cons (pv 1) (pa_cons (pe_glob (v := .ref cD) rfl X.gD rfl) pa_nil))))
        (pw_or (pt_val (pe_callB (call_isE' X.xT hz hf) (by rfl) m_isinstance (by decide +kernel) (pa_cons (pv 1) (pa_cons (pe_glob (v := .ref cN) rfl X.gN rfl) pa_nil))))
        (pw_or (pt_val (pe_callB (call_isE' X.xT hz hf) (by rfl) m_isinstance (by decide +kernel) (pa_cons (pv 1) (pa_cons (pe_glob (v := .ref cL) rfl X.gL rfl) pa_nil))))
        (pw_or (pt_val (pe_callB (call_isE' X.xT hz hf) (by rfl) m_isinstance (by decide +kernel) (pa_cons (pv 1) (pa_cons (pe_glob (v := .ref cC) rfl X.gC rfl) pa_nil))))
        (pw_or1 (pt_val (pe_callB (call_isE' X.xT hz hf) (by rfl) m_isinstance (by decide +kernel) (pa_cons (pv 1) (pa_cons (pe_glob (v := .ref cS) rfl X.gS rfl) pa_nil))))))))))
        (pss_one (ps_ret pe_bl)) pss_nil)
        (pss_one (ps_ret (pe_callB (call_isE' X.xT hz hf) (by rfl) m_isinstance (by decide +kernel) (pa_cons (pv 1) (pa_cons (pe_glob (v := .ref cT) rfl X.gT rfl) pa_nil)))))))
      (pss_one (ps_ret pe_bl)), ?_⟩
    refine ⟨v, rfl, v, rfl, hv, fun H1 sm => ⟨true, X.mP, fun _ a ha => ?_, fun z => nomatch z⟩⟩
    (try simp only [cx_K, cx_w, rIn, rMulS, CwR.tReplC, tM1, tBM0, rPop, rExtend, rReverse, rLenS, rEqE, rNeE, rSetL, rIntI, rIntB, tBM, rAppend, rIxL, rIxT, rCat, rSlL, rSlS, gTup, tYes, wipe, tSeq, tAsg, tIfS, tRet, tRetN, tDrop, tNext, tBreak, tCont, tNever, tAug, ipI, tPar, tPar3, gName, gCons, gNil, gSub, tVar, tC, tOp, tUn, tIf, tAndV, tOrV, tNotV, tAnd, tOr, tNot, L2.tB, tTest, tCmp, tChain, tCB, tCons, tNil, tCall, tTup, tLst, tSl, tPart, tNoPart, rI, rI0, rU, rEq, rNe, scal_ii, scal_ss, scal_bb, scal_nn, scal_is, scal_si, rIxS, S_len, S_cps, S_inj, L2.start, List.map_cons, List.map_nil, List.cons_append, List.nil_append, List.append_nil, List.getElem?_cons_zero, List.getElem?_cons_succ, List.set_cons_zero, List.set_cons_succ, List.length_cons, List.length_nil, Nat.reduceAdd, Nat.reduceSub, List.replicate_succ, List.replicate_zero, Option.some.injEq, V.int.injEq, V.str.injEq, V.bl.injEq, V.ref.injEq, List.cons.injEq, and_true, true_and, exists_eq_left, exists_eq_left', exists_and_left, exists_eq, exists_eq', decide_eq_true_eq, Bool.not_eq_true', decide_eq_false_iff_not, Bool.false_eq_true, if_false, if_true, reduceIte, ite_self, CMul, CPow, CDiv])
    exact isE X.iD ⟨false, rfl, iteF' (isE X.iN ⟨false, rfl, iteF' (isE X.iL ⟨false, rfl, iteF' (isE X.iC ⟨false, rfl, iteF' (isE X.iS ⟨false, rfl, iteF' (isE X.iT (q H1 sm))⟩)⟩)⟩)⟩)⟩
end
end K78


namespace K78
open PySem PySem.Spec PyProof.Rows L2 KB
section
variable {P : Program} {w : World} {K : PySem.W.Frag} {mg : Str → Option Value} {base : Heap} {cP cT cD cN cL cC cS : Addr}
theorem seq_abs {A B C R : TS} {D : Ends} {σ : L2.St} {H : Hp} (G : L2.St → Hp → Prop) (h2 : ∀ R' : TS, (∀ σ H, G σ H → R' D σ H) → tSeq A (tSeq B (tSeq C R')) D σ H) (h1 : ∀ σ H, G σ H → R D σ H) : tSeq A (tSeq B (tSeq C R)) D σ H := h2 R h1
theorem sg_all {l : List Nat} (h : Sg l) : l.all told = true := List.all_eq_true.mpr h
theorem cut_drop {l : List Nat} {n : Nat} : cutS (S l) (some (n : Int)) none = S (l.drop n) := by
  unfold cutS
  rw [HT.sIx_nat]
  show S ((l.drop (min n l.length)).take (l.length - min n l.length)) = _
  congr 1
  by_cases h : n ≤ l.length
  · rw [Nat.min_eq_left h, List.take_of_length_le (by rw [List.length_drop]; omega)]
  · rw [List.drop_eq_nil_of_le (by omega), List.drop_eq_nil_of_le (by omega)]
    simp
theorem times_sg {l : List Nat} {n : Nat} (h : Sg l) : Sg (timesL l n) := fun c hc => by
  obtain ⟨l', hl', hcl⟩ := List.mem_flatten.mp hc
  rw [(List.mem_replicate.mp hl').2] at hcl
  exact h c hcl
theorem stops_join : ∀ n : Nat, timesL (lit "stop;") n = M78.joinS (List.replicate n M78.w_stop ++ [[]])
  | 0 => rfl
  | n + 1 => by
    have ih := stops_join n
    have e : lit "stop;" = M78.w_stop ++ [59] := by decide +kernel
    unfold timesL at ih ⊢
    rw [List.replicate_succ, List.flatten_cons, ih, List.replicate_succ, List.cons_append]
    have : ∀ (x : List Nat) (L : List (List Nat)), L ≠ [] → M78.joinS (x :: L) = x ++ 59 :: M78.joinS L := fun x L h => by
      cases L with
      | nil => exact absurd rfl h
      | cons y r => rfl
    rw [this _ _ (by simp), e, List.append_assoc]
    rfl
theorem acts_stops (n : Nat) : M78.actsL (timesL (lit "stop;") n) = List.replicate n [M78.w_stop] := by
  rw [stops_join]
  have h1 : ∀ n, M78.PartsR (List.replicate n M78.w_stop) (List.replicate n ([(M78.w_stop, false)], false)) := fun n => by
    induction n with
    | zero => exact .nil
    | succ n ih =>
      rw [List.replicate_succ, List.replicate_succ]
      exact .cons (fun _ => id rfl) ih
  rw [M78.made_tail (h1 n) (rt := [([], false)]) rfl]
  have e : ∀ n, (List.replicate n (([(M78.w_stop, false)], false) : List M78.Word × Bool)).filterMap M78.actL = List.replicate n [M78.w_stop] := fun n => by
    induction n with
    | zero => rfl
    | succ n ih =>
      rw [List.replicate_succ, List.replicate_succ, List.filterMap_cons, ih]
      rfl
  rw [e]
  exact List.append_nil _
theorem semis_qu (n : Nat) : M78.Qu (timesL [59] n) := fun c hc => by
  obtain ⟨l', hl', hcl⟩ := List.mem_flatten.mp hc
  rw [(List.mem_replicate.mp hl').2] at hcl
  rw [List.mem_singleton.mp hcl]
  decide
theorem one_part {x : List Nat} {r : List M78.Word × Bool} (h : M78.PartIs x r) : M78.actsL x = [r].filterMap M78.actL := M78.made_plain (ps := [x]) (.cons h .nil)
theorem go_semis (n : Nat) : M78.actsL (lit "go '" ++ timesL [59] n ++ [39]) = [] := by
  have h1 : M78.Pre ([] ++ M78.w_go) [(M78.w_go, false)] false := M78.pre_first (fun _ h => (nomatch h)) (M78.shown_pl (pl_of (by decide)))
  have h2 := M78.pre_next h1 (g := [32]) (fun c hc => by rw [List.mem_singleton.mp hc]; rfl) (by simp) (M78.shown_qu (semis_qu n))
  have h4 := M78.part_of h2 (g := []) (fun _ h => (nomatch h))
  have e1 : lit "go '" = M78.w_go ++ [32, 39] := by decide +kernel
  rw [e1, one_part (r := ([(M78.w_go, false), (timesL [59] n, true)], false)) (by simpa using h4), List.filterMap_cons, na_fit (ks := [.word]) rfl (by simp [M78.allFit, fw_q])]
  rfl
theorem say_semis (n : Nat) : M78.actsL (lit "say self '" ++ timesL [59] n ++ [39]) = [[M78.w_say, M78.w_self, timesL [59] n]] := by
  have h1 : M78.Pre ([] ++ M78.w_say) [(M78.w_say, false)] false := M78.pre_first (fun _ h => (nomatch h)) (M78.shown_pl (pl_of (by decide)))
  have h2 := M78.pre_next h1 (g := [32]) (fun c hc => by rw [List.mem_singleton.mp hc]; rfl) (by simp) (M78.shown_pl (w := M78.w_self) (pl_of (by decide)))
  have h3 := M78.pre_next h2 (g := [32]) (fun c hc => by rw [List.mem_singleton.mp hc]; rfl) (by simp) (M78.shown_qu (semis_qu n))
  have h4 := M78.part_of h3 (g := []) (fun _ h => (nomatch h))
  have e1 : lit "say self '" = M78.w_say ++ [32] ++ M78.w_self ++ [32, 39] := by decide +kernel
  rw [e1, one_part (r := ([(M78.w_say, false), (M78.w_self, false), (timesL [59] n, true)], false)) (by simpa using h4), List.filterMap_cons, act_good (act_mk (ks := [.target, .any]) rfl (by simp [M78.allFit, M78.fits, M78.isTarget]))]
  rfl
def spLaw (K : PySem.W.Frag) : Sp := fun vs H Q _ => ∃ (a : Addr) (ns : List Int), vs = [V.ref a] ∧ SqL K H a (ns.map V.int) ∧ ns.length ≤ 63 ∧ ∀ H', Q (.bl true) H'
theorem okLawFn {f : Addr} {fd : FuncData} (F : Fun K "law" "law" sLaw f fd) (T : Top K w mg) (X : ExcTop K mg cP cT cD cN cL cC cS) : FnOk P w K mg base CX0 10 f fd ["script"] (spLaw K) := by
  have m_len := T.m_len
  have m_range := T.m_range
  have GLawStream : Ok P w K mg base CX0 2 "_law_stream" ["script"] (spStream K) := okStream T
  have GLawPick : Ok P w K mg base CX0 1 "_law_pick" ["pool", "many"] spPick := okPick T
  have GLawMade : Ok P w K mg base CX0 6 "_law_made" ["pool"] spMade := okMade T
  have GLawEdges : Ok P w K mg base CX0 5 "_law_edges" ["pool"] spEdges := okEdges T
  have GLawSoup : Ok P w K mg base CX0 2 "_law_soup" ["pool"] spSoup := okSoup T
  have GLawTold : Ok P w K mg base CX0 6 "_law_told" ["text", "due"] spTold := okTold T
  have GLawRead : Ok P w K mg base CX0 3 "_law_read" ["text"] spRead := okRead T
  have GLawSame : Ok P w K mg base CX0 1 "_law_same" ["told", "due"] spSame := okSame T
  have GLawIsRefused : Ok P w K mg base CX0 6 "_law_is_refused" ["value"] (spRefused K) := okRefused T X
  refine F.ok scLaw (fun vs H Q E h => ?_) (fun cdv A outer s H vs Q E hr h => ?_)
  · obtain ⟨_, _, rfl, _⟩ := h
    rfl
  · obtain ⟨a, ns, rfl, hS, hlen, q⟩ := h
    refine ⟨_, pss_cons (ps_set (i := 1) scLaw.nd rfl (Or.inl rfl) (pcall GLawStream (hr.mono (by decide)) (by rfl) pass0 (pa_cons (pv 0) pa_nil)))
  (pss_cons (ps_asg (pcall GLawMade (hr.mono (by decide)) (by rfl) pass0 (pa_cons (pv 1) pa_nil)) (pg_tup (n := 2) rfl (pgs_cons (pg_name (i := 2) scLaw.nd rfl (Or.inl rfl)) (pgs_cons (pg_name (i := 3) scLaw.nd rfl (Or.inl rfl)) pgs_nil))))
  (pss_cons (ps_if (pt_cmpR op_le (pe_callB call_len_str (by rfl) m_len PySem.boot_len (pa_cons (pv 2) pa_nil)) (pe_int) (nomark _))
  (pss_cons (ps_if (PW.pt (pw_or (pt_not (pt_val (pcall GLawTold (hr.mono (by decide)) (by rfl) pass0 (pa_cons (pv 2) (pa_cons (pv 3) pa_nil))))) (pw_or1 (pt_not (pt_val (pcall GLawSame (hr.mono (by decide)) (by rfl) pass0 (pa_cons (pcall GLawRead (hr.mono (by decide)) (by rfl) pass0 (pa_cons (pv 2) pa_nil)) (pa_cons (pv 3) pa_nil))))))))
  (pss_one (ps_ret (pe_bl)))
  (pss_nil))
  (pss_cons (ps_set (i := 4) scLaw.nd rfl (Or.inl rfl) (pe_slice sl_str (pv 2) (po_some (pcall GLawPick (hr.mono (by decide)) (by rfl) pass0 (pa_cons (pv 1) (pa_cons (pe_int) pa_nil)))) po_none))
  (pss_one (ps_if (pt_not (pt_val (pcall GLawTold (hr.mono (by decide)) (by rfl) pass0 (pa_cons (pv 4) (pa_cons (pcall GLawRead (hr.mono (by decide)) (by rfl) pass0 (pa_cons (pv 4) pa_nil)) pa_nil)))))
  (pss_one (ps_ret (pe_bl)))
  (pss_nil)))))
  (pss_nil))
  (pss_cons (ps_asg (pcall GLawEdges (hr.mono (by decide)) (by rfl) pass0 (pa_cons (pv 1) pa_nil)) (pg_tup (n := 2) rfl (pgs_cons (pg_name (i := 2) scLaw.nd rfl (Or.inl rfl)) (pgs_cons (pg_name (i := 3) scLaw.nd rfl (Or.inl rfl)) pgs_nil))))
  (pss_cons (ps_if (pt_not (pt_val (pcall GLawTold (hr.mono (by decide)) (by rfl) pass0 (pa_cons (pv 2) (pa_cons (pv 3) pa_nil)))))
  (pss_one (ps_ret (pe_bl)))
  (pss_nil))
  (pss_cons (ps_for PassesOwn.never rfl (pi_range1 rfl m_range (pa_cons (pe_int) pa_nil)) (pg_name (i := 5) scLaw.nd rfl (Or.inl rfl))
  (pss_cons (ps_set (i := 6) scLaw.nd rfl (Or.inl rfl) (pcall GLawSoup (hr.mono (by decide)) (by rfl) pass0 (pa_cons (pv 1) pa_nil)))
  (pss_one (ps_if (pt_not (pt_val (pcall GLawTold (hr.mono (by decide)) (by rfl) pass0 (pa_cons (pv 6) (pa_cons (pcall GLawRead (hr.mono (by decide)) (by rfl) pass0 (pa_cons (pv 6) pa_nil)) pa_nil)))))
  (pss_one (ps_ret (pe_bl)))
  (pss_nil)))))
  (pss_cons (ps_set (i := 7) scLaw.nd rfl (Or.inl rfl) (pe_ix ix_list (pe_lst (pa_cons (pe_non) (pa_cons (pe_int) (pa_cons (pe_bl) (pa_cons (pe_tup (pa_nil)) (pa_cons (pe_lst (pa_cons (pe_str) pa_nil)) (pa_cons (pe_tup (pa_cons (pe_str) pa_nil)) (pa_cons (pe_dnewK) (pa_cons (pe_str) (pa_cons (pe_str) (pa_cons (pe_lst (pa_cons (pe_str) (pa_cons (pe_str) pa_nil))) pa_nil))))))))))) (pcall GLawPick (hr.mono (by decide)) (by rfl) pass0 (pa_cons (pv 1) (pa_cons (pe_int) pa_nil))) (fun _ _ => rfl)))
  (pss_cons (ps_if (PW.pt (pw_or (pt_not (pt_val (pcall GLawIsRefused (hr.mono (by decide)) (by rfl) pass0 (pa_cons (pv 7) pa_nil)))) (pw_or1 (pt_not (pt_val (pcall GLawIsRefused (hr.mono (by decide)) (by rfl) pass0 (pa_cons (pe_op op_add_str (pe_op op_mulS (pe_str) (pe_int)) (pe_str)) pa_nil)))))))
  (pss_one (ps_ret (pe_bl)))
  (pss_nil))
  (pss_cons (ps_if (pt_cmpR op_eq (pcall GLawPick (hr.mono (by decide)) (by rfl) pass0 (pa_cons (pv 1) (pa_cons (pe_int) pa_nil))) (pe_int) (nomark _))
  (pss_cons (ps_if (pt_not (pt_val (pcall GLawTold (hr.mono (by decide)) (by rfl) pass0 (pa_cons (pe_op op_mulS (pe_str) (pe_int)) (pa_cons (pe_lc (own := [("k", 8)]) rfl scLaw.nd (pi_range1 rfl m_range (pa_cons (pe_int) pa_nil)) (blkOk_by (own := [("k", 8)]) (N := ["script", "pool", "text", "due", "cut", "turn", "soup", "bad", "k"]) (sc := defScope sLaw) (by decide +kernel)) (fun _ _ _ _ _ => pg_name (i := 8) scLaw.nd rfl (Or.inl rfl)) (fun _ _ _ _ _ => pts_nil) (fun _ _ _ _ _ => pe_tup (pa_cons (pe_str) pa_nil))) pa_nil)))))
  (pss_one (ps_ret (pe_bl)))
  (pss_nil))
  (pss_one (ps_ret (pe_and (pcall GLawTold (hr.mono (by decide)) (by rfl) pass0 (pa_cons (pe_op op_add_str (pe_op op_add_str (pe_str) (pe_op op_mulS (pe_str) (pe_int))) (pe_str)) (pa_cons (pe_lst (pa_nil)) pa_nil))) (pe_one (pcall GLawTold (hr.mono (by decide)) (by rfl) pass0 (pa_cons (pe_op op_add_str (pe_op op_add_str (pe_str) (pe_op op_mulS (pe_str) (pe_int))) (pe_str)) (pa_cons (pe_lst (pa_cons (pe_tup (pa_cons (pe_str) (pa_cons (pe_str) (pa_cons (pe_op op_mulS (pe_str) (pe_int)) pa_nil)))) pa_nil)) pa_nil))))))))
  (pss_nil))
  (pss_one (ps_ret (pe_and (pcall GLawTold (hr.mono (by decide)) (by rfl) pass0 (pa_cons (pe_str) (pa_cons (pe_lst (pa_nil)) pa_nil))) (pe_one (pcall GLawTold (hr.mono (by decide)) (by rfl) pass0 (pa_cons (pe_str) (pa_cons (pe_lst (pa_cons (pe_tup (pa_cons (pe_str) pa_nil)) pa_nil)) pa_nil))))))))))))))), ?_⟩
    refine seq_abs (fun σ H1 => ∃ (Pa : Addr) (e2 e3 e4 : Option V), σ = [some (.ref a), some (.ref Pa), e2, e3, e4, none, none, none, none] ∧ PoolAt Pa H1) (fun R hR => ?_) (fun σ H1 hP => ?_)
    · (try simp only [cx_K, cx_w, rIn, rMulS, CwR.tReplC, tM1, tBM0, rPop, rExtend, rReverse, rLenS, rEqE, rNeE, rSetL, rIntI, rIntB, tBM, rAppend, rIxL, rIxT, rCat, rSlL, rSlS, gTup, tYes, wipe, tSeq, tAsg, tIfS, tRet, tRetN, tDrop, tNext, tBreak, tCont, tNever, tAug, ipI, tPar, tPar3, gName, gCons, gNil, gSub, tVar, tC, tOp, tUn, tIf, tAndV, tOrV, tNotV, tAnd, tOr, tNot, L2.tB, tTest, tCmp, tChain, tCB, tCons, tNil, tCall, tTup, tLst, tSl, tPart, tNoPart, rI, rI0, rU, rEq, rNe, scal_ii, scal_ss, scal_bb, scal_nn, scal_is, scal_si, rIxS, S_len, S_cps, S_inj, L2.start, List.map_cons, List.map_nil, List.cons_append, List.nil_append, List.append_nil, List.getElem?_cons_zero, List.getElem?_cons_succ, List.set_cons_zero, List.set_cons_succ, List.length_cons, List.length_nil, Nat.reduceAdd, Nat.reduceSub, List.replicate_succ, List.replicate_zero, Option.some.injEq, V.int.injEq, V.str.injEq, V.bl.injEq, V.ref.injEq, List.cons.injEq, and_true, true_and, exists_eq_left, exists_eq_left', exists_and_left, exists_eq, exists_eq', decide_eq_true_eq, Bool.not_eq_true', decide_eq_false_iff_not, Bool.false_eq_true, if_false, if_true, reduceIte, ite_self, CMul, CPow, CDiv])
      refine ⟨a, ns, rfl, hS, hlen, fun Pa H1 s1 hp hP => ⟨Pa, rfl, hP, fun t b text H2 st2 ht et hRep hsg hl2 => ⟨t, rfl, _, SqT.of et, rfl, _, _, rfl, _, _, rfl, rfl, S text, rfl, by rw [S_len]; exact sz5 (by omega), ite2 (fun h3 => ?_) (fun _ => hR _ _ ⟨Pa, _, _, _, rfl, st2.pool⟩)⟩⟩⟩
      have h3 : text.length ≤ 3000 := by
        rw [S_len] at h3
        omega
      have hRb := hRep.mono since_sub
      have hsz := acts_size text h3
      refine ⟨text, .ref b, rfl, h3, sg_all hsg, hRb, fun H3 s3 => ⟨true, rfl, ifF (fun z => nomatch z) ⟨text, rfl, h3, fun r4 H4 s4 r4r => ⟨r4, .ref b, _, rfl, r4r.mono since_sub, hRb.mono (s3.trans s4), hsz, fun H5 s5 => ⟨true, rfl, ifF (fun z => nomatch z) ⟨Pa, 60, rfl, (st2.same ((s3.trans s4).trans s5)).pool, by decide, fun k H6 k0 k1 st6 => ?_⟩⟩⟩⟩⟩⟩
      obtain ⟨n, rfl⟩ := Int.eq_ofNat_of_zero_le k0
      refine ⟨_, rfl, S text, rfl, by rw [S_len]; exact sz5 (by omega), text.drop n, by rw [cut_drop], by rw [List.length_drop]; omega, fun r7 H7 s7 r7r => ?_⟩
      rw [cut_drop]
      refine ⟨text.drop n, r7, rfl, by rw [List.length_drop]; omega, sg_all (fun c hc => hsg c (List.mem_of_mem_drop hc)), r7r.mono since_sub, fun H8 s8 => ⟨true, rfl, ifF (fun z => nomatch z) (hR _ _ ⟨Pa, _, _, _, rfl, (st6.same (s7.trans s8)).pool⟩)⟩⟩
    · obtain ⟨Pa, e2, e3, e4, rfl, hP⟩ := hP
      clear hS hlen
      (try simp only [cx_K, cx_w, rIn, rMulS, CwR.tReplC, tM1, tBM0, rPop, rExtend, rReverse, rLenS, rEqE, rNeE, rSetL, rIntI, rIntB, tBM, rAppend, rIxL, rIxT, rCat, rSlL, rSlS, gTup, tYes, wipe, tSeq, tAsg, tIfS, tRet, tRetN, tDrop, tNext, tBreak, tCont, tNever, tAug, ipI, tPar, tPar3, gName, gCons, gNil, gSub, tVar, tC, tOp, tUn, tIf, tAndV, tOrV, tNotV, tAnd, tOr, tNot, L2.tB, tTest, tCmp, tChain, tCB, tCons, tNil, tCall, tTup, tLst, tSl, tPart, tNoPart, rI, rI0, rU, rEq, rNe, scal_ii, scal_ss, scal_bb, scal_nn, scal_is, scal_si, rIxS, S_len, S_cps, S_inj, L2.start, List.map_cons, List.map_nil, List.cons_append, List.nil_append, List.append_nil, List.getElem?_cons_zero, List.getElem?_cons_succ, List.set_cons_zero, List.set_cons_succ, List.length_cons, List.length_nil, Nat.reduceAdd, Nat.reduceSub, List.replicate_succ, List.replicate_zero, Option.some.injEq, V.int.injEq, V.str.injEq, V.bl.injEq, V.ref.injEq, List.cons.injEq, and_true, true_and, exists_eq_left, exists_eq_left', exists_and_left, exists_eq, exists_eq', decide_eq_true_eq, Bool.not_eq_true', decide_eq_false_iff_not, Bool.false_eq_true, if_false, if_true, reduceIte, ite_self, CMul, CPow, CDiv])
      refine ⟨Pa, rfl, hP, fun t b text H2 st2 ht et hRep hsg hl2 => ⟨t, rfl, _, SqT.of et, rfl, _, _, rfl, _, _, rfl, rfl, text, .ref b, rfl, hl2, sg_all hsg, hRep.mono since_sub, fun H3 s3 => ⟨true, rfl, ifF (fun z => nomatch z) ?_⟩⟩⟩
      have hP3 := (st2.same s3).pool
      clear hRep hsg hl2 et ht
      refine ⟨6, rfl, by decide, by decide, for_range (lo := 0) (n := ((6 : Int)).toNat) (fun i σ H4 => ∃ e5 e6, σ = [some (.ref a), some (.ref Pa), some (.str (S text)), some (.ref b), e4, e5, e6, none, none] ∧ PoolAt Pa H4) ⟨_, _, rfl, hP3⟩ ?_ ?_⟩
      · rintro i σ H4 hi ⟨e5, e6, rfl, hP4⟩
        (try simp only [cx_K, cx_w, rIn, rMulS, CwR.tReplC, tM1, tBM0, rPop, rExtend, rReverse, rLenS, rEqE, rNeE, rSetL, rIntI, rIntB, tBM, rAppend, rIxL, rIxT, rCat, rSlL, rSlS, gTup, tYes, wipe, tSeq, tAsg, tIfS, tRet, tRetN, tDrop, tNext, tBreak, tCont, tNever, tAug, ipI, tPar, tPar3, gName, gCons, gNil, gSub, tVar, tC, tOp, tUn, tIf, tAndV, tOrV, tNotV, tAnd, tOr, tNot, L2.tB, tTest, tCmp, tChain, tCB, tCons, tNil, tCall, tTup, tLst, tSl, tPart, tNoPart, rI, rI0, rU, rEq, rNe, scal_ii, scal_ss, scal_bb, scal_nn, scal_is, scal_si, rIxS, S_len, S_cps, S_inj, L2.start, List.map_cons, List.map_nil, List.cons_append, List.nil_append, List.append_nil, List.getElem?_cons_zero, List.getElem?_cons_succ, List.set_cons_zero, List.set_cons_succ, List.length_cons, List.length_nil, Nat.reduceAdd, Nat.reduceSub, List.replicate_succ, List.replicate_zero, Option.some.injEq, V.int.injEq, V.str.injEq, V.bl.injEq, V.ref.injEq, List.cons.injEq, and_true, true_and, exists_eq_left, exists_eq_left', exists_and_left, exists_eq, exists_eq', decide_eq_true_eq, Bool.not_eq_true', decide_eq_false_iff_not, Bool.false_eq_true, if_false, if_true, reduceIte, ite_self, CMul, CPow, CDiv])
        refine ⟨Pa, rfl, hP4, fun s4 H5 hsg hl4 st5 => ⟨s4, rfl, by omega, fun r5 H6 s6 r6 => ⟨s4, r5, rfl, by omega, sg_all hsg, r6.mono since_sub, fun H7 s7 => ⟨true, rfl, ifF (fun z => nomatch z) ⟨_, _, ⟨rfl, rfl⟩, (st5.same (s6.trans s7)).pool⟩⟩⟩⟩⟩
      · rintro σ H4 ⟨e5, e6, rfl, hP4⟩
        clear hP3 s3 st2
        (try simp only [cx_K, cx_w, rIn, rMulS, CwR.tReplC, tM1, tBM0, rPop, rExtend, rReverse, rLenS, rEqE, rNeE, rSetL, rIntI, rIntB, tBM, rAppend, rIxL, rIxT, rCat, rSlL, rSlS, gTup, tYes, wipe, tSeq, tAsg, tIfS, tRet, tRetN, tDrop, tNext, tBreak, tCont, tNever, tAug, ipI, tPar, tPar3, gName, gCons, gNil, gSub, tVar, tC, tOp, tUn, tIf, tAndV, tOrV, tNotV, tAnd, tOr, tNot, L2.tB, tTest, tCmp, tChain, tCB, tCons, tNil, tCall, tTup, tLst, tSl, tPart, tNoPart, rI, rI0, rU, rEq, rNe, scal_ii, scal_ss, scal_bb, scal_nn, scal_is, scal_si, rIxS, S_len, S_cps, S_inj, L2.start, List.map_cons, List.map_nil, List.cons_append, List.nil_append, List.append_nil, List.getElem?_cons_zero, List.getElem?_cons_succ, List.set_cons_zero, List.set_cons_succ, List.length_cons, List.length_nil, Nat.reduceAdd, Nat.reduceSub, List.replicate_succ, List.replicate_zero, Option.some.injEq, V.int.injEq, V.str.injEq, V.bl.injEq, V.ref.injEq, List.cons.injEq, and_true, true_and, exists_eq_left, exists_eq_left', exists_and_left, exists_eq, exists_eq', decide_eq_true_eq, Bool.not_eq_true', decide_eq_false_iff_not, Bool.false_eq_true, if_false, if_true, reduceIte, ite_self, CMul, CPow, CDiv])
        refine ⟨by decide, fun t1 ht1 => ⟨by decide, fun l1 hl1 => ⟨by decide, fun t2 ht2 => fun d1 hd1 => ⟨by decide, fun l2 hl2 => ⟨by decide, fun L hL => ?_⟩⟩⟩⟩⟩
        have sa := (Pst.refl hP4).new (o := .tup []) ht1
        have sb := sa.new (o := .lst [V.str (Str.ofString "stop")]) hl1
        have sc := sb.new (o := .tup [V.str (Str.ofString "stop")]) ht2
        have sd := sc.new (o := .dK []) hd1
        have se := sd.new (o := .lst [V.str (Str.ofString "stop"), V.str (Str.ofString ";")]) hl2
        have sf := se.new (o := .lst [V.non, V.int 5, V.bl true, V.ref t1, V.ref l1, V.ref t2, V.ref d1, V.str (Str.ofString "stop\t"), V.str (Str.ofString "a\tb"), V.ref l2]) hL
        have nt1 := (Pst.refl hP4).ne ht1
        have nl1 := sa.ne hl1
        have nt2 := sb.ne ht2
        have nd1 := sc.ne hd1
        have nl2 := sd.ne hl2
        have nL := se.ne hL
        have m5 := Same.new (o := .lst [V.non, V.int 5, V.bl true, V.ref t1, V.ref l1, V.ref t2, V.ref d1, V.str (Str.ofString "stop\t"), V.str (Str.ofString "a\tb"), V.ref l2]) hL
        have m4 := (Same.new (o := .lst [V.str (Str.ofString "stop"), V.str (Str.ofString ";")]) hl2).trans m5
        have m3 := (Same.new (o := .dK []) hd1).trans m4
        have m2 := (Same.new (o := .tup [V.str (Str.ofString "stop")]) ht2).trans m3
        have m1 := (Same.new (o := .lst [V.str (Str.ofString "stop")]) hl1).trans m2
        refine ⟨Pa, 10, rfl, sf.pool, by decide, fun r H5 r0 r1 st => ?_⟩
        obtain ⟨v, ev, hv⟩ := atI_mem (xs := [V.non, V.int 5, V.bl true, V.ref t1, V.ref l1, V.ref t2, V.ref d1, V.str (Str.ofString "stop\t"), V.str (Str.ofString "a\tb"), V.ref l2]) r0 r1
        have hNot : NotText K H5 v := by
          simp only [List.mem_cons, List.not_mem_nil, or_false] at hv
          rcases hv with rfl | rfl | rfl | rfl | rfl | rfl | rfl | rfl | rfl | rfl
          · exact .inr ⟨_, .non, kit_ty (b := "str") (r := false) (by decide +kernel)⟩
          · exact .inr ⟨_, .int _, kit_ty (b := "str") (r := false) (by decide +kernel)⟩
          · exact .inr ⟨_, .bl _, kit_ty (b := "str") (r := false) (by decide +kernel)⟩
          · exact .inr ⟨_, .tup (st.kp t1 _ nt1 (m1 _ _ upd_same)), kit_ty (b := "str") (r := false) (by decide +kernel)⟩
          · exact .inr ⟨_, .lst (st.kp l1 _ nl1 (m2 _ _ upd_same)), kit_ty (b := "str") (r := false) (by decide +kernel)⟩
          · exact .inr ⟨_, .tup (st.kp t2 _ nt2 (m3 _ _ upd_same)), kit_ty (b := "str") (r := false) (by decide +kernel)⟩
          · exact .inr ⟨_, .dK (st.kp d1 _ nd1 (m4 _ _ upd_same)), kit_ty (b := "str") (r := false) (by decide +kernel)⟩
          · exact .inl ⟨_, congrArg V.str (lit_eq _), by decide +kernel, by decide +kernel⟩
          · exact .inl ⟨_, congrArg V.str (lit_eq _), by decide +kernel, by decide +kernel⟩
          · exact .inr ⟨_, .lst (st.kp l2 _ nl2 (m5 _ _ upd_same)), kit_ty (b := "str") (r := false) (by decide +kernel)⟩
        have l5 : (lit "stop;").length = 5 := by decide +kernel
        have hLH := st.kp L _ nL upd_same
        have hP5 := st.pool
        clear hv m1 m2 m3 m4 m5 sa sb sc sd se sf nt1 nl1 nt2 nd1 nl2 nL ht1 hl1 ht2 hd1 hl2 hL st
        refine ⟨_, r, rfl, SqL.of hLH, v, ev, v, rfl, hNot, fun H6 s6 => ⟨true, rfl, ifF (fun z => nomatch z) ⟨lit "stop;", lit_eq _, 600, rfl, by decide, by decide, by rw [l5]; decide, by rw [l5]; decide, by rw [timesL_len, l5]; decide, _, rfl, .inl ⟨timesL (lit "stop;") 600 ++ [59], congrArg V.str (S_app _ [59]), ?_, ?_⟩, fun H7 s7 => ⟨true, rfl, ifF (fun z => nomatch z) ⟨Pa, 20, rfl, (((Pst.refl hP5).same s6).same s7).pool, by decide, fun k H8 k0 k1 st8 => ⟨rfl, ite2 (fun _ => ?_) (fun _ => ?_)⟩⟩⟩⟩⟩⟩
        · rw [List.length_append, timesL_len, l5]
          decide
        · have : (timesL (lit "stop;") 600 ++ [59]).length = 3001 := by rw [List.length_append, timesL_len, l5]; rfl
          rw [this]
          rfl
        · refine ⟨lit "stop;", lit_eq _, 600, rfl, by decide, by decide, by rw [l5]; decide, by rw [l5]; decide, ?_⟩
          refine ⟨600, rfl, by decide, by decide, fun D hD => lc_range (lo := 0) (n := ((600 : Int)).toNat) (fun i H9 => Same H8 H9 ∧ ∃ acc, H9 D = some (.lst acc) ∧ Reps (hide [D] H9) (List.replicate i (strsD [M78.w_stop])) acc) ⟨Same.new hD, [], upd_same, rfl⟩ (fun i H9 hi hQ => ?_) (fun H9 hQ => ?_)⟩
          · obtain ⟨s9, acc, e9, r9⟩ := hQ
            have hi : i < 600 := hi
            have hla := r9.length
            rw [List.length_replicate] at hla
            refine ⟨rfl, ?_⟩
            (try simp only [cx_K, cx_w, rIn, rMulS, CwR.tReplC, tM1, tBM0, rPop, rExtend, rReverse, rLenS, rEqE, rNeE, rSetL, rIntI, rIntB, tBM, rAppend, rIxL, rIxT, rCat, rSlL, rSlS, gTup, tYes, wipe, tSeq, tAsg, tIfS, tRet, tRetN, tDrop, tNext, tBreak, tCont, tNever, tAug, ipI, tPar, tPar3, gName, gCons, gNil, gSub, tVar, tC, tOp, tUn, tIf, tAndV, tOrV, tNotV, tAnd, tOr, tNot, L2.tB, tTest, tCmp, tChain, tCB, tCons, tNil, tCall, tTup, tLst, tSl, tPart, tNoPart, rI, rI0, rU, rEq, rNe, scal_ii, scal_ss, scal_bb, scal_nn, scal_is, scal_si, rIxS, S_len, S_cps, S_inj, L2.start, List.map_cons, List.map_nil, List.cons_append, List.nil_append, List.append_nil, List.getElem?_cons_zero, List.getElem?_cons_succ, List.set_cons_zero, List.set_cons_succ, List.length_cons, List.length_nil, Nat.reduceAdd, Nat.reduceSub, List.replicate_succ, List.replicate_zero, Option.some.injEq, V.int.injEq, V.str.injEq, V.bl.injEq, V.ref.injEq, List.cons.injEq, and_true, true_and, exists_eq_left, exists_eq_left', exists_and_left, exists_eq, exists_eq', decide_eq_true_eq, Bool.not_eq_true', decide_eq_false_iff_not, Bool.false_eq_true, if_false, if_true, reduceIte, ite_self, CMul, CPow, CDiv])
            refine ⟨by decide, fun t ht => ⟨acc, (Same.new ht) _ _ e9, sz5' (by omega), (s9.trans (Same.new ht)).mut hD, _, upd_same, ?_⟩⟩
            have ntD : t ≠ D := fun z => by
              subst z
              rw [e9] at ht
              cases ht
            rw [← List.replicate_succ, List.replicate_succ']
            refine (r9.mono (fun b o e => ?_)).snoc ⟨t, [V.str (Str.ofString "stop")], rfl, hide_some.mpr ⟨by simp [ntD], ?_⟩, _, _, rfl, rfl, rfl⟩
            · obtain ⟨e1, e2⟩ := hide_some.mp e
              refine hide_some.mpr ⟨e1, ?_⟩
              rw [upd_ne (by simpa using e1)]
              exact (Same.new ht) _ _ e2
            · rw [upd_ne ntD, upd_same]
          · obtain ⟨s9, acc, e9, r9⟩ := hQ
            refine ⟨timesL (lit "stop;") 600, .ref D, rfl, by rw [timesL_len, l5]; decide, sg_all (times_sg (by decide +kernel)), ?_, fun H10 s10 => ⟨true, rfl, ifF (fun z => nomatch z) ?_⟩⟩
            · rw [M78.acts_eq, acts_stops 600]
              refine ⟨D, acc, rfl, e9, ?_⟩
              rw [List.map_replicate]
              exact r9.mono hide_sub
            · refine ⟨[59], rfl, 2995, rfl, by decide, by decide, by decide, by decide, by rw [timesL_len]; decide +kernel, by rw [lit_eq, S_app, S_len, List.length_append, timesL_len]; decide +kernel, by decide, fun p hp => ⟨lit "go '" ++ timesL [59] 2995 ++ [39], .ref p, by rw [lit_eq, S_app, c_q, S_app], by rw [List.length_append, List.length_append, timesL_len]; decide +kernel, sg_all (sg_app (sg_app (by decide +kernel) (times_sg (by decide))) (by decide)), ?_, fun H11 s11 => ⟨true, rfl, ifT rfl ⟨[59], rfl, 2989, rfl, by decide, by decide, by decide, by decide, by rw [timesL_len]; decide +kernel, by rw [lit_eq, S_app, S_len, List.length_append, timesL_len]; decide +kernel, [59], rfl, 2989, rfl, by decide, by decide, by decide, by decide, by decide, fun p1 hp1 => ⟨by decide, fun p2 hp2 => ⟨lit "say self '" ++ timesL [59] 2989 ++ [39], .ref p2, by rw [lit_eq "say self '", S_app, c_q, S_app], by rw [List.length_append, List.length_append, timesL_len]; decide +kernel, sg_all (sg_app (sg_app (by decide +kernel) (times_sg (by decide))) (by decide)), ?_, fun H12 s12 => q H12⟩⟩⟩⟩⟩⟩
              · rw [M78.acts_eq, go_semis]
                exact ⟨p, [], rfl, upd_same, rfl⟩
              · rw [M78.acts_eq, say_semis]
                exact ⟨p2, _, rfl, upd_same, _, _, rfl, ⟨p1, _, rfl, (Same.new hp2) _ _ upd_same, _, _, rfl, rfl, _, _, rfl, rfl, _, _, rfl, rfl, rfl⟩, rfl⟩
        · refine ⟨by decide, fun p hp => ⟨[], .ref p, rfl, by decide, rfl, ?_, fun H9 s9 => ⟨true, rfl, ifT rfl ⟨by decide, fun p1 hp1 => ⟨by decide, fun p2 hp2 => ⟨M78.w_stop, .ref p2, rfl, by decide, by decide, ?_, fun H11 s11 => q H11⟩⟩⟩⟩⟩⟩
          · rw [M78.acts_eq, M78.actsL_nil]
            exact ⟨p, [], rfl, upd_same, rfl⟩
          · rw [M78.acts_eq, show M78.actsL M78.w_stop = [[M78.w_stop]] from by decide +kernel]
            exact ⟨p2, _, rfl, upd_same, _, _, rfl, ⟨p1, _, rfl, (Same.new hp2) _ _ upd_same, _, _, rfl, rfl, rfl⟩, rfl⟩
end
end K78


namespace K78
open PySem PySem.Spec PyProof.Rows L2 KB
theorem kit_no {K : PySem.W.Frag} {cT c : Addr} (hd : PySem.W.hasDictIn K c = true) (ht : PySem.W.typeIn K (.ref c) = some (.type "type")) (hs : PySem.W.subIn K (.ref cT) (.ref c) = some false) (hn : (cT == c) = false) : PySem.W.kitOne K (.ref cT) (.ref c) = some false := by
  obtain ⟨cd, hc, _⟩ := PySem.W.any_some hd
  have ne : cT ≠ c := beq_eq_false_iff_ne.mp hn
  have e1 : ((PySem.W.clsIn K c).isSome && PySem.W.typeIn K (.ref c) == some (.type "type")) = true := by
    rw [hc, ht]
    rfl
  unfold PySem.W.kitOne
  rw [if_neg (fun z => ne (Value.ref.inj (beq_iff_eq.mp z)))]
  show (if ((PySem.W.clsIn K c).isSome && PySem.W.typeIn K (.ref c) == some (.type "type")) = true then PySem.W.subIn K (.ref cT) (.ref c) else none) = some false
  rw [if_pos e1]
  exact hs
theorem kit_self {K : PySem.W.Frag} {t : Value} : PySem.W.kitOne K t t = some true := by
  unfold PySem.W.kitOne
  rw [if_pos (beq_self_eq_true t)]
theorem ns_find {K : PySem.W.Frag} {d : Addr} {es : Array DictEntry} {n : Nat} {x : Str} (l : K.lookup d = some ⟨.type "dict", none, .dict es n, #[]⟩) : PySem.W.nsIn K d x = match es.toList.find? (·.key.isStr x) with
    | some e => some (some e.val)
    | none => if es.toList.any (·.refKey) then none else some none := by
  unfold PySem.W.nsIn
  rw [l]
  rfl
theorem tup_of {K : PySem.W.Frag} {a : Addr} {its : Array Value} {m : Nat} {xs : List V} (l : K.lookup a = some ⟨.type "tuple", none, .seq its m, #[]⟩) (hs : its.size ≤ sizeLine) (hv : Vals xs its.toList) : ∀ H, SqT K H a xs := fun H => .inr ⟨_, its, m, l, rfl, rfl, hs, hv⟩
set_option maxHeartbeats 0 in
theorem forms_ok {w : World} {K : PySem.W.Frag} {dF : Addr}  {q0 : Addr} {hh0 : Int} {tt0 : Tok} {q1 : Addr} {hh1 : Int} {tt1 : Tok} {q2 : Addr} {hh2 : Int} {tt2 : Tok} {q3 : Addr} {hh3 : Int} {tt3 : Tok} {q4 : Addr} {hh4 : Int} {tt4 : Tok} {q5 : Addr} {hh5 : Int} {tt5 : Tok} {q6 : Addr} {hh6 : Int} {tt6 : Tok} {q7 : Addr} {hh7 : Int} {tt7 : Tok} {q8 : Addr} {hh8 : Int} {tt8 : Tok} {q9 : Addr} {hh9 : Int} {tt9 : Tok} {q10 : Addr} {hh10 : Int} {tt10 : Tok} {nF : Nat} {u0_0 : Tok} {u0_1 : Tok} {u0_2 : Tok} {m0 : Nat} {u1_0 : Tok} {u1_1 : Tok} {m1 : Nat} {u2_0 : Tok} {u2_1 : Tok} {m2 : Nat} {u3_0 : Tok} {u3_1 : Tok} {m3 : Nat} {u4_0 : Tok} {u4_1 : Tok} {m4 : Nat} {u5_0 : Tok} {u5_1 : Tok} {m5 : Nat} {u6_0 : Tok} {m6 : Nat} {u7_0 : Tok} {m7 : Nat} {u8_0 : Tok} {m8 : Nat} {m9 : Nat} {m10 : Nat}
    (r_dict : K.lookup dF = some ⟨.type "dict", none, .dict #[⟨hh0, .str "set" tt0, .ref q0⟩, ⟨hh1, .str "drop" tt1, .ref q1⟩, ⟨hh2, .str "add" tt2, .ref q2⟩, ⟨hh3, .str "cut" tt3, .ref q3⟩, ⟨hh4, .str "flip" tt4, .ref q4⟩, ⟨hh5, .str "say" tt5, .ref q5⟩, ⟨hh6, .str "take" tt6, .ref q6⟩, ⟨hh7, .str "go" tt7, .ref q7⟩, ⟨hh8, .str "focus" tt8, .ref q8⟩, ⟨hh9, .str "stop" tt9, .ref q9⟩, ⟨hh10, .str "leave" tt10, .ref q10⟩] nF, #[]⟩)
    (r_h0 : hh0 = PyData.keyHash w.params "set")
    (r_h1 : hh1 = PyData.keyHash w.params "drop")
    (r_h2 : hh2 = PyData.keyHash w.params "add")
    (r_h3 : hh3 = PyData.keyHash w.params "cut")
    (r_h4 : hh4 = PyData.keyHash w.params "flip")
    (r_h5 : hh5 = PyData.keyHash w.params "say")
    (r_h6 : hh6 = PyData.keyHash w.params "take")
    (r_h7 : hh7 = PyData.keyHash w.params "go")
    (r_h8 : hh8 = PyData.keyHash w.params "focus")
    (r_h9 : hh9 = PyData.keyHash w.params "stop")
    (r_h10 : hh10 = PyData.keyHash w.params "leave")
    (r_low : (dF == sysModules) = false)
    (r_t0 : K.lookup q0 = some ⟨.type "tuple", none, .seq #[.str "target" u0_0, .str "name" u0_1, .str "any" u0_2] m0, #[]⟩)
    (r_t1 : K.lookup q1 = some ⟨.type "tuple", none, .seq #[.str "target" u1_0, .str "name" u1_1] m1, #[]⟩)
    (r_t2 : K.lookup q2 = some ⟨.type "tuple", none, .seq #[.str "target" u2_0, .str "word" u2_1] m2, #[]⟩)
    (r_t3 : K.lookup q3 = some ⟨.type "tuple", none, .seq #[.str "target" u3_0, .str "word" u3_1] m3, #[]⟩)
    (r_t4 : K.lookup q4 = some ⟨.type "tuple", none, .seq #[.str "target" u4_0, .str "word" u4_1] m4, #[]⟩)
    (r_t5 : K.lookup q5 = some ⟨.type "tuple", none, .seq #[.str "target" u5_0, .str "any" u5_1] m5, #[]⟩)
    (r_t6 : K.lookup q6 = some ⟨.type "tuple", none, .seq #[.str "target" u6_0] m6, #[]⟩)
    (r_t7 : K.lookup q7 = some ⟨.type "tuple", none, .seq #[.str "word" u7_0] m7, #[]⟩)
    (r_t8 : K.lookup q8 = some ⟨.type "tuple", none, .seq #[.str "target" u8_0] m8, #[]⟩)
    (r_t9 : K.lookup q9 = some ⟨.type "tuple", none, .seq #[] m9, #[]⟩)
    (r_t10 : K.lookup q10 = some ⟨.type "tuple", none, .seq #[] m10, #[]⟩) : FormsOk K w dF := by
  refine ⟨⟨_, _, ⟨r_dict, ?_, r_low⟩⟩, fun z => ?_⟩
  · exact ⟨⟨_, _, rfl, r_h0⟩, ⟨_, _, rfl, r_h1⟩, ⟨_, _, rfl, r_h2⟩, ⟨_, _, rfl, r_h3⟩, ⟨_, _, rfl, r_h4⟩, ⟨_, _, rfl, r_h5⟩, ⟨_, _, rfl, r_h6⟩, ⟨_, _, rfl, r_h7⟩, ⟨_, _, rfl, r_h8⟩, ⟨_, _, rfl, r_h9⟩, ⟨_, _, rfl, r_h10⟩, trivial⟩
  · have hn := ns_find (x := S z) r_dict
    have c : ∀ a b : List Nat, (S a == S b) = decide (b = a) := fun a b => by
      rw [Bool.eq_iff_iff, beq_iff_eq, decide_eq_true_eq, S_inj]
      exact eq_comm
    simp only [List.find?_cons, List.find?_nil, Value.isStr, c_set, c_drop, c_add, c_cut, c_flip, c_say, c_take, c_go, c_focus, c_stop, c_leave, c] at hn
    rw [hn]
    unfold M78.forms
    by_cases h0 : z = M78.w_set
    · subst h0
      exact ⟨q0, rfl, tup_of r_t0 (sz5 (by simp)) (.cons ⟨_, rfl⟩ (.cons ⟨_, rfl⟩ (.cons ⟨_, rfl⟩ (.nil))))⟩
    by_cases h1 : z = M78.w_drop
    · subst h1
      exact ⟨q1, rfl, tup_of r_t1 (sz5 (by simp)) (.cons ⟨_, rfl⟩ (.cons ⟨_, rfl⟩ (.nil)))⟩
    by_cases h2 : z = M78.w_add
    · subst h2
      exact ⟨q2, rfl, tup_of r_t2 (sz5 (by simp)) (.cons ⟨_, rfl⟩ (.cons ⟨_, rfl⟩ (.nil)))⟩
    by_cases h3 : z = M78.w_cut
    · subst h3
      exact ⟨q3, rfl, tup_of r_t3 (sz5 (by simp)) (.cons ⟨_, rfl⟩ (.cons ⟨_, rfl⟩ (.nil)))⟩
    by_cases h4 : z = M78.w_flip
    · subst h4
      exact ⟨q4, rfl, tup_of r_t4 (sz5 (by simp)) (.cons ⟨_, rfl⟩ (.cons ⟨_, rfl⟩ (.nil)))⟩
    by_cases h5 : z = M78.w_say
    · subst h5
      exact ⟨q5, rfl, tup_of r_t5 (sz5 (by simp)) (.cons ⟨_, rfl⟩ (.cons ⟨_, rfl⟩ (.nil)))⟩
    by_cases h6 : z = M78.w_take
    · subst h6
      exact ⟨q6, rfl, tup_of r_t6 (sz5 (by simp)) (.cons ⟨_, rfl⟩ (.nil))⟩
    by_cases h7 : z = M78.w_go
    · subst h7
      exact ⟨q7, rfl, tup_of r_t7 (sz5 (by simp)) (.cons ⟨_, rfl⟩ (.nil))⟩
    by_cases h8 : z = M78.w_focus
    · subst h8
      exact ⟨q8, rfl, tup_of r_t8 (sz5 (by simp)) (.cons ⟨_, rfl⟩ (.nil))⟩
    by_cases h9 : z = M78.w_stop
    · subst h9
      exact ⟨q9, rfl, tup_of r_t9 (sz5 (by simp)) (.nil)⟩
    by_cases h10 : z = M78.w_leave
    · subst h10
      exact ⟨q10, rfl, tup_of r_t10 (sz5 (by simp)) (.nil)⟩
    simp only [h0, h1, h2, h3, h4, h5, h6, h7, h8, h9, h10, decide_false, if_false]
    rfl
set_option maxHeartbeats 0 in
theorem all_mk {l : PySem.W.OpenLaw} {w : World} {K : PySem.W.Frag} {h : Heap} {mg : Str → Option Value} {fa : Addr} (X : K.In h) (G : h.Ns mainGlobals mg) (hfa : mg "law" = some (.ref fa))
    {t_MOST_SIGNS : Tok} {t_MOST_NAME_SIGNS : Tok} {t_LETTERS : Tok} {t_NAME_SIGNS : Tok} {t_BLANKS : Tok} {t_PERCENT : Tok} {t_QUOTE : Tok} {t_PART_END : Tok} {dF : Addr} {f0 : Addr} {od0 an0 : Option Addr} {sl0 : Array (Option Value)} {oc0 kV0 dc0 pm0 cd0 ct0 : Value} {f1 : Addr} {od1 an1 : Option Addr} {sl1 : Array (Option Value)} {oc1 kV1 dc1 pm1 cd1 ct1 : Value} {f2 : Addr} {od2 an2 : Option Addr} {sl2 : Array (Option Value)} {oc2 kV2 dc2 pm2 cd2 ct2 : Value} {f3 : Addr} {od3 an3 : Option Addr} {sl3 : Array (Option Value)} {oc3 kV3 dc3 pm3 cd3 ct3 : Value} {f4 : Addr} {od4 an4 : Option Addr} {sl4 : Array (Option Value)} {oc4 kV4 dc4 pm4 cd4 ct4 : Value} {f5 : Addr} {od5 an5 : Option Addr} {sl5 : Array (Option Value)} {oc5 kV5 dc5 pm5 cd5 ct5 : Value} {f6 : Addr} {od6 an6 : Option Addr} {sl6 : Array (Option Value)} {oc6 kV6 dc6 pm6 cd6 ct6 : Value} {f7 : Addr} {od7 an7 : Option Addr} {sl7 : Array (Option Value)} {oc7 kV7 dc7 pm7 cd7 ct7 : Value} {f8 : Addr} {od8 an8 : Option Addr} {sl8 : Array (Option Value)} {oc8 kV8 dc8 pm8 cd8 ct8 : Value} {f9 : Addr} {od9 an9 : Option Addr} {sl9 : Array (Option Value)} {oc9 kV9 dc9 pm9 cd9 ct9 : Value} {f10 : Addr} {od10 an10 : Option Addr} {sl10 : Array (Option Value)} {oc10 kV10 dc10 pm10 cd10 ct10 : Value} {f11 : Addr} {od11 an11 : Option Addr} {sl11 : Array (Option Value)} {oc11 kV11 dc11 pm11 cd11 ct11 : Value} {f12 : Addr} {od12 an12 : Option Addr} {sl12 : Array (Option Value)} {oc12 kV12 dc12 pm12 cd12 ct12 : Value} {f13 : Addr} {od13 an13 : Option Addr} {sl13 : Array (Option Value)} {oc13 kV13 dc13 pm13 cd13 ct13 : Value} {f14 : Addr} {od14 an14 : Option Addr} {sl14 : Array (Option Value)} {oc14 kV14 dc14 pm14 cd14 ct14 : Value} {f15 : Addr} {od15 an15 : Option Addr} {sl15 : Array (Option Value)} {oc15 kV15 dc15 pm15 cd15 ct15 : Value} {f16 : Addr} {od16 an16 : Option Addr} {sl16 : Array (Option Value)} {oc16 kV16 dc16 pm16 cd16 ct16 : Value} {f17 : Addr} {od17 an17 : Option Addr} {sl17 : Array (Option Value)} {oc17 kV17 dc17 pm17 cd17 ct17 : Value} {f18 : Addr} {od18 an18 : Option Addr} {sl18 : Array (Option Value)} {oc18 kV18 dc18 pm18 cd18 ct18 : Value} {f19 : Addr} {od19 an19 : Option Addr} {sl19 : Array (Option Value)} {oc19 kV19 dc19 pm19 cd19 ct19 : Value} {f20 : Addr} {od20 an20 : Option Addr} {sl20 : Array (Option Value)} {oc20 kV20 dc20 pm20 cd20 ct20 : Value} {f21 : Addr} {od21 an21 : Option Addr} {sl21 : Array (Option Value)} {oc21 kV21 dc21 pm21 cd21 ct21 : Value} {f22 : Addr} {od22 an22 : Option Addr} {sl22 : Array (Option Value)} {oc22 kV22 dc22 pm22 cd22 ct22 : Value} {f23 : Addr} {od23 an23 : Option Addr} {sl23 : Array (Option Value)} {oc23 kV23 dc23 pm23 cd23 ct23 : Value} {f24 : Addr} {od24 an24 : Option Addr} {sl24 : Array (Option Value)} {oc24 kV24 dc24 pm24 cd24 ct24 : Value} {f25 : Addr} {od25 an25 : Option Addr} {sl25 : Array (Option Value)} {oc25 kV25 dc25 pm25 cd25 ct25 : Value} {f26 : Addr} {od26 an26 : Option Addr} {sl26 : Array (Option Value)} {oc26 kV26 dc26 pm26 cd26 ct26 : Value} {f27 : Addr} {od27 an27 : Option Addr} {sl27 : Array (Option Value)} {oc27 kV27 dc27 pm27 cd27 ct27 : Value} {f28 : Addr} {od28 an28 : Option Addr} {sl28 : Array (Option Value)} {oc28 kV28 dc28 pm28 cd28 ct28 : Value} {f29 : Addr} {od29 an29 : Option Addr} {sl29 : Array (Option Value)} {oc29 kV29 dc29 pm29 cd29 ct29 : Value} {f30 : Addr} {od30 an30 : Option Addr} {sl30 : Array (Option Value)} {oc30 kV30 dc30 pm30 cd30 ct30 : Value} {f31 : Addr} {od31 an31 : Option Addr} {sl31 : Array (Option Value)} {oc31 kV31 dc31 pm31 cd31 ct31 : Value} {f32 : Addr} {od32 an32 : Option Addr} {sl32 : Array (Option Value)} {oc32 kV32 dc32 pm32 cd32 ct32 : Value} {f33 : Addr} {od33 an33 : Option Addr} {sl33 : Array (Option Value)} {oc33 kV33 dc33 pm33 cd33 ct33 : Value} {f34 : Addr} {od34 an34 : Option Addr} {sl34 : Array (Option Value)} {oc34 kV34 dc34 pm34 cd34 ct34 : Value} {cP : Addr} {cT : Addr} {cD : Addr} {cN : Addr} {cL : Addr} {cC : Addr} {cS : Addr} {q0 : Addr} {hh0 : Int} {tt0 : Tok} {q1 : Addr} {hh1 : Int} {tt1 : Tok} {q2 : Addr} {hh2 : Int} {tt2 : Tok} {q3 : Addr} {hh3 : Int} {tt3 : Tok} {q4 : Addr} {hh4 : Int} {tt4 : Tok} {q5 : Addr} {hh5 : Int} {tt5 : Tok} {q6 : Addr} {hh6 : Int} {tt6 : Tok} {q7 : Addr} {hh7 : Int} {tt7 : Tok} {q8 : Addr} {hh8 : Int} {tt8 : Tok} {q9 : Addr} {hh9 : Int} {tt9 : Tok} {q10 : Addr} {hh10 : Int} {tt10 : Tok} {nF : Nat} {u0_0 : Tok} {u0_1 : Tok} {u0_2 : Tok} {m0 : Nat} {u1_0 : Tok} {u1_1 : Tok} {m1 : Nat} {u2_0 : Tok} {u2_1 : Tok} {m2 : Nat} {u3_0 : Tok} {u3_1 : Tok} {m3 : Nat} {u4_0 : Tok} {u4_1 : Tok} {m4 : Nat} {u5_0 : Tok} {u5_1 : Tok} {m5 : Nat} {u6_0 : Tok} {m6 : Nat} {u7_0 : Tok} {m7 : Nat} {u8_0 : Tok} {m8 : Nat} {m9 : Nat} {m10 : Nat}
    (z_len : PySem.W.nsIn K mainGlobals "len" = some none)
    (z_ord : PySem.W.nsIn K mainGlobals "ord" = some none)
    (z_all : PySem.W.nsIn K mainGlobals "all" = some none)
    (z_any : PySem.W.nsIn K mainGlobals "any" = some none)
    (z_int : PySem.W.nsIn K mainGlobals "int" = some none)
    (z_str : PySem.W.nsIn K mainGlobals "str" = some none)
    (z_bool : PySem.W.nsIn K mainGlobals "bool" = some none)
    (z_list : PySem.W.nsIn K mainGlobals "list" = some none)
    (z_tuple : PySem.W.nsIn K mainGlobals "tuple" = some none)
    (z_dict : PySem.W.nsIn K mainGlobals "dict" = some none)
    (z_range : PySem.W.nsIn K mainGlobals "range" = some none)
    (z_zip : PySem.W.nsIn K mainGlobals "zip" = some none)
    (z_isinstance : PySem.W.nsIn K mainGlobals "isinstance" = some none)
    (g_MOST_SIGNS : PySem.W.nsIn K mainGlobals "MOST_SIGNS" = some (some (.int 3000 t_MOST_SIGNS)))
    (g_MOST_NAME_SIGNS : PySem.W.nsIn K mainGlobals "MOST_NAME_SIGNS" = some (some (.int 10 t_MOST_NAME_SIGNS)))
    (g_LETTERS : PySem.W.nsIn K mainGlobals "LETTERS" = some (some (.str "abcdefghijklmnopqrstuvwxyz" t_LETTERS)))
    (g_NAME_SIGNS : PySem.W.nsIn K mainGlobals "NAME_SIGNS" = some (some (.str "abcdefghijklmnopqrstuvwxyz0123456789-" t_NAME_SIGNS)))
    (g_BLANKS : PySem.W.nsIn K mainGlobals "BLANKS" = some (some (.str " \n" t_BLANKS)))
    (g_PERCENT : PySem.W.nsIn K mainGlobals "PERCENT" = some (some (.int 37 t_PERCENT)))
    (g_QUOTE : PySem.W.nsIn K mainGlobals "QUOTE" = some (some (.str "'" t_QUOTE)))
    (g_PART_END : PySem.W.nsIn K mainGlobals "PART_END" = some (some (.str ";" t_PART_END)))
    (g_FORMS : PySem.W.nsIn K mainGlobals "FORMS" = some (some (.ref dF)))
    (a0 : PySem.W.nsIn K mainGlobals "is_told" = some (some (.ref f0))) (l0 : K.lookup f0 = some ⟨oc0, od0, .func (PySem.W.fnOf "is_told" "is_told" (defArgs sIsTold) (defBody sIsTold) (defScope sIsTold) .none kV0 dc0 pm0 an0 cd0 ct0), sl0⟩) (c0 : PySem.W.codeIn K cd0 "is_told" = true) (k0 : PySem.W.keepIn K (.ref f0) = true)
    (a1 : PySem.W.nsIn K mainGlobals "are_told" = some (some (.ref f1))) (l1 : K.lookup f1 = some ⟨oc1, od1, .func (PySem.W.fnOf "are_told" "are_told" (defArgs sAreTold) (defBody sAreTold) (defScope sAreTold) .none kV1 dc1 pm1 an1 cd1 ct1), sl1⟩) (c1 : PySem.W.codeIn K cd1 "are_told" = true) (k1 : PySem.W.keepIn K (.ref f1) = true)
    (a2 : PySem.W.nsIn K mainGlobals "is_text" = some (some (.ref f2))) (l2 : K.lookup f2 = some ⟨oc2, od2, .func (PySem.W.fnOf "is_text" "is_text" (defArgs sIsText) (defBody sIsText) (defScope sIsText) .none kV2 dc2 pm2 an2 cd2 ct2), sl2⟩) (c2 : PySem.W.codeIn K cd2 "is_text" = true) (k2 : PySem.W.keepIn K (.ref f2) = true)
    (a3 : PySem.W.nsIn K mainGlobals "name_end" = some (some (.ref f3))) (l3 : K.lookup f3 = some ⟨oc3, od3, .func (PySem.W.fnOf "name_end" "name_end" (defArgs sNameEnd) (defBody sNameEnd) (defScope sNameEnd) .none kV3 dc3 pm3 an3 cd3 ct3), sl3⟩) (c3 : PySem.W.codeIn K cd3 "name_end" = true) (k3 : PySem.W.keepIn K (.ref f3) = true)
    (a4 : PySem.W.nsIn K mainGlobals "is_name" = some (some (.ref f4))) (l4 : K.lookup f4 = some ⟨oc4, od4, .func (PySem.W.fnOf "is_name" "is_name" (defArgs sIsName) (defBody sIsName) (defScope sIsName) .none kV4 dc4 pm4 an4 cd4 ct4), sl4⟩) (c4 : PySem.W.codeIn K cd4 "is_name" = true) (k4 : PySem.W.keepIn K (.ref f4) = true)
    (a5 : PySem.W.nsIn K mainGlobals "ends_word" = some (some (.ref f5))) (l5 : K.lookup f5 = some ⟨oc5, od5, .func (PySem.W.fnOf "ends_word" "ends_word" (defArgs sEndsWord) (defBody sEndsWord) (defScope sEndsWord) .none kV5 dc5 pm5 an5 cd5 ct5), sl5⟩) (c5 : PySem.W.codeIn K cd5 "ends_word" = true) (k5 : PySem.W.keepIn K (.ref f5) = true)
    (a6 : PySem.W.nsIn K mainGlobals "word_end" = some (some (.ref f6))) (l6 : K.lookup f6 = some ⟨oc6, od6, .func (PySem.W.fnOf "word_end" "word_end" (defArgs sWordEnd) (defBody sWordEnd) (defScope sWordEnd) .none kV6 dc6 pm6 an6 cd6 ct6), sl6⟩) (c6 : PySem.W.codeIn K cd6 "word_end" = true) (k6 : PySem.W.keepIn K (.ref f6) = true)
    (a7 : PySem.W.nsIn K mainGlobals "parts_of" = some (some (.ref f7))) (l7 : K.lookup f7 = some ⟨oc7, od7, .func (PySem.W.fnOf "parts_of" "parts_of" (defArgs sPartsOf) (defBody sPartsOf) (defScope sPartsOf) .none kV7 dc7 pm7 an7 cd7 ct7), sl7⟩) (c7 : PySem.W.codeIn K cd7 "parts_of" = true) (k7 : PySem.W.keepIn K (.ref f7) = true)
    (a8 : PySem.W.nsIn K mainGlobals "fits" = some (some (.ref f8))) (l8 : K.lookup f8 = some ⟨oc8, od8, .func (PySem.W.fnOf "fits" "fits" (defArgs sFits) (defBody sFits) (defScope sFits) .none kV8 dc8 pm8 an8 cd8 ct8), sl8⟩) (c8 : PySem.W.codeIn K cd8 "fits" = true) (k8 : PySem.W.keepIn K (.ref f8) = true)
    (a9 : PySem.W.nsIn K mainGlobals "action_of" = some (some (.ref f9))) (l9 : K.lookup f9 = some ⟨oc9, od9, .func (PySem.W.fnOf "action_of" "action_of" (defArgs sActionOf) (defBody sActionOf) (defScope sActionOf) .none kV9 dc9 pm9 an9 cd9 ct9), sl9⟩) (c9 : PySem.W.codeIn K cd9 "action_of" = true) (k9 : PySem.W.keepIn K (.ref f9) = true)
    (a10 : PySem.W.nsIn K mainGlobals "actions_of" = some (some (.ref f10))) (l10 : K.lookup f10 = some ⟨oc10, od10, .func (PySem.W.fnOf "actions_of" "actions_of" (defArgs sActionsOf) (defBody sActionsOf) (defScope sActionsOf) .none kV10 dc10 pm10 an10 cd10 ct10), sl10⟩) (c10 : PySem.W.codeIn K cd10 "actions_of" = true) (k10 : PySem.W.keepIn K (.ref f10) = true)
    (a11 : PySem.W.nsIn K mainGlobals "_law_pool" = some (some (.ref f11))) (l11 : K.lookup f11 = some ⟨oc11, od11, .func (PySem.W.fnOf "_law_pool" "_law_pool" (defArgs sLawPool) (defBody sLawPool) (defScope sLawPool) .none kV11 dc11 pm11 an11 cd11 ct11), sl11⟩) (c11 : PySem.W.codeIn K cd11 "_law_pool" = true) (k11 : PySem.W.keepIn K (.ref f11) = true)
    (a12 : PySem.W.nsIn K mainGlobals "_law_stream" = some (some (.ref f12))) (l12 : K.lookup f12 = some ⟨oc12, od12, .func (PySem.W.fnOf "_law_stream" "_law_stream" (defArgs sLawStream) (defBody sLawStream) (defScope sLawStream) .none kV12 dc12 pm12 an12 cd12 ct12), sl12⟩) (c12 : PySem.W.codeIn K cd12 "_law_stream" = true) (k12 : PySem.W.keepIn K (.ref f12) = true)
    (a13 : PySem.W.nsIn K mainGlobals "_law_pick" = some (some (.ref f13))) (l13 : K.lookup f13 = some ⟨oc13, od13, .func (PySem.W.fnOf "_law_pick" "_law_pick" (defArgs sLawPick) (defBody sLawPick) (defScope sLawPick) .none kV13 dc13 pm13 an13 cd13 ct13), sl13⟩) (c13 : PySem.W.codeIn K cd13 "_law_pick" = true) (k13 : PySem.W.keepIn K (.ref f13) = true)
    (a14 : PySem.W.nsIn K mainGlobals "_law_same" = some (some (.ref f14))) (l14 : K.lookup f14 = some ⟨oc14, od14, .func (PySem.W.fnOf "_law_same" "_law_same" (defArgs sLawSame) (defBody sLawSame) (defScope sLawSame) .none kV14 dc14 pm14 an14 cd14 ct14), sl14⟩) (c14 : PySem.W.codeIn K cd14 "_law_same" = true) (k14 : PySem.W.keepIn K (.ref f14) = true)
    (a15 : PySem.W.nsIn K mainGlobals "_law_gap" = some (some (.ref f15))) (l15 : K.lookup f15 = some ⟨oc15, od15, .func (PySem.W.fnOf "_law_gap" "_law_gap" (defArgs sLawGap) (defBody sLawGap) (defScope sLawGap) .none kV15 dc15 pm15 an15 cd15 ct15), sl15⟩) (c15 : PySem.W.codeIn K cd15 "_law_gap" = true) (k15 : PySem.W.keepIn K (.ref f15) = true)
    (a16 : PySem.W.nsIn K mainGlobals "_law_ends" = some (some (.ref f16))) (l16 : K.lookup f16 = some ⟨oc16, od16, .func (PySem.W.fnOf "_law_ends" "_law_ends" (defArgs sLawEnds) (defBody sLawEnds) (defScope sLawEnds) .none kV16 dc16 pm16 an16 cd16 ct16), sl16⟩) (c16 : PySem.W.codeIn K cd16 "_law_ends" = true) (k16 : PySem.W.keepIn K (.ref f16) = true)
    (a17 : PySem.W.nsIn K mainGlobals "_law_sign" = some (some (.ref f17))) (l17 : K.lookup f17 = some ⟨oc17, od17, .func (PySem.W.fnOf "_law_sign" "_law_sign" (defArgs sLawSign) (defBody sLawSign) (defScope sLawSign) .none kV17 dc17 pm17 an17 cd17 ct17), sl17⟩) (c17 : PySem.W.codeIn K cd17 "_law_sign" = true) (k17 : PySem.W.keepIn K (.ref f17) = true)
    (a18 : PySem.W.nsIn K mainGlobals "_law_plain" = some (some (.ref f18))) (l18 : K.lookup f18 = some ⟨oc18, od18, .func (PySem.W.fnOf "_law_plain" "_law_plain" (defArgs sLawPlain) (defBody sLawPlain) (defScope sLawPlain) .none kV18 dc18 pm18 an18 cd18 ct18), sl18⟩) (c18 : PySem.W.codeIn K cd18 "_law_plain" = true) (k18 : PySem.W.keepIn K (.ref f18) = true)
    (a19 : PySem.W.nsIn K mainGlobals "_law_quoted" = some (some (.ref f19))) (l19 : K.lookup f19 = some ⟨oc19, od19, .func (PySem.W.fnOf "_law_quoted" "_law_quoted" (defArgs sLawQuoted) (defBody sLawQuoted) (defScope sLawQuoted) .none kV19 dc19 pm19 an19 cd19 ct19), sl19⟩) (c19 : PySem.W.codeIn K cd19 "_law_quoted" = true) (k19 : PySem.W.keepIn K (.ref f19) = true)
    (a20 : PySem.W.nsIn K mainGlobals "_law_any" = some (some (.ref f20))) (l20 : K.lookup f20 = some ⟨oc20, od20, .func (PySem.W.fnOf "_law_any" "_law_any" (defArgs sLawAny) (defBody sLawAny) (defScope sLawAny) .none kV20 dc20 pm20 an20 cd20 ct20), sl20⟩) (c20 : PySem.W.codeIn K cd20 "_law_any" = true) (k20 : PySem.W.keepIn K (.ref f20) = true)
    (a21 : PySem.W.nsIn K mainGlobals "_law_target" = some (some (.ref f21))) (l21 : K.lookup f21 = some ⟨oc21, od21, .func (PySem.W.fnOf "_law_target" "_law_target" (defArgs sLawTarget) (defBody sLawTarget) (defScope sLawTarget) .none kV21 dc21 pm21 an21 cd21 ct21), sl21⟩) (c21 : PySem.W.codeIn K cd21 "_law_target" = true) (k21 : PySem.W.keepIn K (.ref f21) = true)
    (a22 : PySem.W.nsIn K mainGlobals "_law_name" = some (some (.ref f22))) (l22 : K.lookup f22 = some ⟨oc22, od22, .func (PySem.W.fnOf "_law_name" "_law_name" (defArgs sLawName) (defBody sLawName) (defScope sLawName) .none kV22 dc22 pm22 an22 cd22 ct22), sl22⟩) (c22 : PySem.W.codeIn K cd22 "_law_name" = true) (k22 : PySem.W.keepIn K (.ref f22) = true)
    (a23 : PySem.W.nsIn K mainGlobals "_law_good" = some (some (.ref f23))) (l23 : K.lookup f23 = some ⟨oc23, od23, .func (PySem.W.fnOf "_law_good" "_law_good" (defArgs sLawGood) (defBody sLawGood) (defScope sLawGood) .none kV23 dc23 pm23 an23 cd23 ct23), sl23⟩) (c23 : PySem.W.codeIn K cd23 "_law_good" = true) (k23 : PySem.W.keepIn K (.ref f23) = true)
    (a24 : PySem.W.nsIn K mainGlobals "_law_wrong" = some (some (.ref f24))) (l24 : K.lookup f24 = some ⟨oc24, od24, .func (PySem.W.fnOf "_law_wrong" "_law_wrong" (defArgs sLawWrong) (defBody sLawWrong) (defScope sLawWrong) .none kV24 dc24 pm24 an24 cd24 ct24), sl24⟩) (c24 : PySem.W.codeIn K cd24 "_law_wrong" = true) (k24 : PySem.W.keepIn K (.ref f24) = true)
    (a25 : PySem.W.nsIn K mainGlobals "_law_made" = some (some (.ref f25))) (l25 : K.lookup f25 = some ⟨oc25, od25, .func (PySem.W.fnOf "_law_made" "_law_made" (defArgs sLawMade) (defBody sLawMade) (defScope sLawMade) .none kV25 dc25 pm25 an25 cd25 ct25), sl25⟩) (c25 : PySem.W.codeIn K cd25 "_law_made" = true) (k25 : PySem.W.keepIn K (.ref f25) = true)
    (a26 : PySem.W.nsIn K mainGlobals "_law_edges" = some (some (.ref f26))) (l26 : K.lookup f26 = some ⟨oc26, od26, .func (PySem.W.fnOf "_law_edges" "_law_edges" (defArgs sLawEdges) (defBody sLawEdges) (defScope sLawEdges) .none kV26 dc26 pm26 an26 cd26 ct26), sl26⟩) (c26 : PySem.W.codeIn K cd26 "_law_edges" = true) (k26 : PySem.W.keepIn K (.ref f26) = true)
    (a27 : PySem.W.nsIn K mainGlobals "_law_soup" = some (some (.ref f27))) (l27 : K.lookup f27 = some ⟨oc27, od27, .func (PySem.W.fnOf "_law_soup" "_law_soup" (defArgs sLawSoup) (defBody sLawSoup) (defScope sLawSoup) .none kV27 dc27 pm27 an27 cd27 ct27), sl27⟩) (c27 : PySem.W.codeIn K cd27 "_law_soup" = true) (k27 : PySem.W.keepIn K (.ref f27) = true)
    (a28 : PySem.W.nsIn K mainGlobals "_law_parts" = some (some (.ref f28))) (l28 : K.lookup f28 = some ⟨oc28, od28, .func (PySem.W.fnOf "_law_parts" "_law_parts" (defArgs sLawParts) (defBody sLawParts) (defScope sLawParts) .none kV28 dc28 pm28 an28 cd28 ct28), sl28⟩) (c28 : PySem.W.codeIn K cd28 "_law_parts" = true) (k28 : PySem.W.keepIn K (.ref f28) = true)
    (a29 : PySem.W.nsIn K mainGlobals "_law_is_name" = some (some (.ref f29))) (l29 : K.lookup f29 = some ⟨oc29, od29, .func (PySem.W.fnOf "_law_is_name" "_law_is_name" (defArgs sLawIsName) (defBody sLawIsName) (defScope sLawIsName) .none kV29 dc29 pm29 an29 cd29 ct29), sl29⟩) (c29 : PySem.W.codeIn K cd29 "_law_is_name" = true) (k29 : PySem.W.keepIn K (.ref f29) = true)
    (a30 : PySem.W.nsIn K mainGlobals "_law_is_action" = some (some (.ref f30))) (l30 : K.lookup f30 = some ⟨oc30, od30, .func (PySem.W.fnOf "_law_is_action" "_law_is_action" (defArgs sLawIsAction) (defBody sLawIsAction) (defScope sLawIsAction) .none kV30 dc30 pm30 an30 cd30 ct30), sl30⟩) (c30 : PySem.W.codeIn K cd30 "_law_is_action" = true) (k30 : PySem.W.keepIn K (.ref f30) = true)
    (a31 : PySem.W.nsIn K mainGlobals "_law_read" = some (some (.ref f31))) (l31 : K.lookup f31 = some ⟨oc31, od31, .func (PySem.W.fnOf "_law_read" "_law_read" (defArgs sLawRead) (defBody sLawRead) (defScope sLawRead) .none kV31 dc31 pm31 an31 cd31 ct31), sl31⟩) (c31 : PySem.W.codeIn K cd31 "_law_read" = true) (k31 : PySem.W.keepIn K (.ref f31) = true)
    (a32 : PySem.W.nsIn K mainGlobals "_law_is_refused" = some (some (.ref f32))) (l32 : K.lookup f32 = some ⟨oc32, od32, .func (PySem.W.fnOf "_law_is_refused" "_law_is_refused" (defArgs sLawIsRefused) (defBody sLawIsRefused) (defScope sLawIsRefused) .none kV32 dc32 pm32 an32 cd32 ct32), sl32⟩) (c32 : PySem.W.codeIn K cd32 "_law_is_refused" = true) (k32 : PySem.W.keepIn K (.ref f32) = true)
    (a33 : PySem.W.nsIn K mainGlobals "_law_told" = some (some (.ref f33))) (l33 : K.lookup f33 = some ⟨oc33, od33, .func (PySem.W.fnOf "_law_told" "_law_told" (defArgs sLawTold) (defBody sLawTold) (defScope sLawTold) .none kV33 dc33 pm33 an33 cd33 ct33), sl33⟩) (c33 : PySem.W.codeIn K cd33 "_law_told" = true) (k33 : PySem.W.keepIn K (.ref f33) = true)
    (a34 : PySem.W.nsIn K mainGlobals "law" = some (some (.ref f34))) (l34 : K.lookup f34 = some ⟨oc34, od34, .func (PySem.W.fnOf "law" "law" (defArgs sLaw) (defBody sLaw) (defScope sLaw) .none kV34 dc34 pm34 an34 cd34 ct34), sl34⟩) (c34 : PySem.W.codeIn K cd34 "law" = true) (k34 : PySem.W.keepIn K (.ref f34) = true)
    (x_gP : PySem.W.nsIn K mainGlobals "PageError" = some (some (.ref cP)))
    (x_gT : PySem.W.nsIn K mainGlobals "BadText" = some (some (.ref cT)))
    (x_gD : PySem.W.nsIn K mainGlobals "BadDeed" = some (some (.ref cD)))
    (x_gN : PySem.W.nsIn K mainGlobals "BadName" = some (some (.ref cN)))
    (x_gL : PySem.W.nsIn K mainGlobals "TooLong" = some (some (.ref cL)))
    (x_gC : PySem.W.nsIn K mainGlobals "BadCell" = some (some (.ref cC)))
    (x_gS : PySem.W.nsIn K mainGlobals "BadState" = some (some (.ref cS)))
    (x_qT : PySem.W.excIn K cT [.type "Exception", .type "BaseException", .type "object"] "Exception.__new__" = true)
    (x_kT : PySem.W.keepIn K (.ref cT) = true)
    (x_sT : PySem.W.subIn K (.ref cT) (.type "BaseException") = some true)
    (x_tT : PySem.W.typeIn K (.ref cT) = some (.type "type"))
    (x_y1 : PySem.W.findIn K (.ref cT) "__getattribute__" = some (some (.builtin "BaseException.__getattribute__")))
    (x_y2 : PySem.W.findIn K (.ref cT) "__getattr__" = some none)
    (x_y4 : PySem.W.hasDictIn K cT = true)
    (x_y5 : PySem.W.findIn K (.ref cT) "__class__" = some (some (.builtin "object.__class__")))
    (x_y6 : PySem.W.specialIn K (.builtin "object.__class__") "__get__" = some (some (.builtin "getset_descriptor.__get__")))
    (x_y7 : PySem.W.takesIn K (.builtin "object.__class__") = some true)
    (x_y8 : PySem.W.mroIn K cT (.type "object") = some true)
    (x_p1 : PySem.W.subIn K (.ref cP) (.type "BaseException") = some true)
    (x_p2 : PySem.W.hasDictIn K cP = true)
    (x_p3 : PySem.W.typeIn K (.ref cP) = some (.type "type"))
    (x_p4 : PySem.W.subIn K (.ref cT) (.ref cP) = some true)
    (x_dD : PySem.W.hasDictIn K cD = true)
    (x_eD : PySem.W.typeIn K (.ref cD) = some (.type "type"))
    (x_fD : PySem.W.subIn K (.ref cT) (.ref cD) = some false)
    (x_nD : (cT == cD) = false)
    (x_dN : PySem.W.hasDictIn K cN = true)
    (x_eN : PySem.W.typeIn K (.ref cN) = some (.type "type"))
    (x_fN : PySem.W.subIn K (.ref cT) (.ref cN) = some false)
    (x_nN : (cT == cN) = false)
    (x_dL : PySem.W.hasDictIn K cL = true)
    (x_eL : PySem.W.typeIn K (.ref cL) = some (.type "type"))
    (x_fL : PySem.W.subIn K (.ref cT) (.ref cL) = some false)
    (x_nL : (cT == cL) = false)
    (x_dC : PySem.W.hasDictIn K cC = true)
    (x_eC : PySem.W.typeIn K (.ref cC) = some (.type "type"))
    (x_fC : PySem.W.subIn K (.ref cT) (.ref cC) = some false)
    (x_nC : (cT == cC) = false)
    (x_dS : PySem.W.hasDictIn K cS = true)
    (x_eS : PySem.W.typeIn K (.ref cS) = some (.type "type"))
    (x_fS : PySem.W.subIn K (.ref cT) (.ref cS) = some false)
    (x_nS : (cT == cS) = false)
    (r_dict : K.lookup dF = some ⟨.type "dict", none, .dict #[⟨hh0, .str "set" tt0, .ref q0⟩, ⟨hh1, .str "drop" tt1, .ref q1⟩, ⟨hh2, .str "add" tt2, .ref q2⟩, ⟨hh3, .str "cut" tt3, .ref q3⟩, ⟨hh4, .str "flip" tt4, .ref q4⟩, ⟨hh5, .str "say" tt5, .ref q5⟩, ⟨hh6, .str "take" tt6, .ref q6⟩, ⟨hh7, .str "go" tt7, .ref q7⟩, ⟨hh8, .str "focus" tt8, .ref q8⟩, ⟨hh9, .str "stop" tt9, .ref q9⟩, ⟨hh10, .str "leave" tt10, .ref q10⟩] nF, #[]⟩)
    (r_h0 : hh0 = PyData.keyHash w.params "set")
    (r_h1 : hh1 = PyData.keyHash w.params "drop")
    (r_h2 : hh2 = PyData.keyHash w.params "add")
    (r_h3 : hh3 = PyData.keyHash w.params "cut")
    (r_h4 : hh4 = PyData.keyHash w.params "flip")
    (r_h5 : hh5 = PyData.keyHash w.params "say")
    (r_h6 : hh6 = PyData.keyHash w.params "take")
    (r_h7 : hh7 = PyData.keyHash w.params "go")
    (r_h8 : hh8 = PyData.keyHash w.params "focus")
    (r_h9 : hh9 = PyData.keyHash w.params "stop")
    (r_h10 : hh10 = PyData.keyHash w.params "leave")
    (r_low : (dF == sysModules) = false)
    (r_t0 : K.lookup q0 = some ⟨.type "tuple", none, .seq #[.str "target" u0_0, .str "name" u0_1, .str "any" u0_2] m0, #[]⟩)
    (r_t1 : K.lookup q1 = some ⟨.type "tuple", none, .seq #[.str "target" u1_0, .str "name" u1_1] m1, #[]⟩)
    (r_t2 : K.lookup q2 = some ⟨.type "tuple", none, .seq #[.str "target" u2_0, .str "word" u2_1] m2, #[]⟩)
    (r_t3 : K.lookup q3 = some ⟨.type "tuple", none, .seq #[.str "target" u3_0, .str "word" u3_1] m3, #[]⟩)
    (r_t4 : K.lookup q4 = some ⟨.type "tuple", none, .seq #[.str "target" u4_0, .str "word" u4_1] m4, #[]⟩)
    (r_t5 : K.lookup q5 = some ⟨.type "tuple", none, .seq #[.str "target" u5_0, .str "any" u5_1] m5, #[]⟩)
    (r_t6 : K.lookup q6 = some ⟨.type "tuple", none, .seq #[.str "target" u6_0] m6, #[]⟩)
    (r_t7 : K.lookup q7 = some ⟨.type "tuple", none, .seq #[.str "word" u7_0] m7, #[]⟩)
    (r_t8 : K.lookup q8 = some ⟨.type "tuple", none, .seq #[.str "target" u8_0] m8, #[]⟩)
    (r_t9 : K.lookup q9 = some ⟨.type "tuple", none, .seq #[] m9, #[]⟩)
    (r_t10 : K.lookup q10 = some ⟨.type "tuple", none, .seq #[] m10, #[]⟩) :
    ∃ fd : FuncData, (∀ (s : Shared) (v : Value), BindsTo s fd ⟨[v], []⟩ [("script", v)]) ∧ ∀ base : Heap, K.In base → base.Ns mainGlobals mg → FnOk l.prog w K mg base CX0 10 fa fd ["script"] (spLaw K) := by
  have e := hfa.symm.trans (PySem.W.mg_of X G a34)
  cases e
  have T : Top K w mg := {
    m_len := PySem.W.mg_none_of X G z_len,
    m_ord := PySem.W.mg_none_of X G z_ord,
    m_all := PySem.W.mg_none_of X G z_all,
    m_any := PySem.W.mg_none_of X G z_any,
    m_int := PySem.W.mg_none_of X G z_int,
    m_str := PySem.W.mg_none_of X G z_str,
    m_bool := PySem.W.mg_none_of X G z_bool,
    m_list := PySem.W.mg_none_of X G z_list,
    m_tuple := PySem.W.mg_none_of X G z_tuple,
    m_dict := PySem.W.mg_none_of X G z_dict,
    m_range := PySem.W.mg_none_of X G z_range,
    m_zip := PySem.W.mg_none_of X G z_zip,
    m_isinstance := PySem.W.mg_none_of X G z_isinstance,
    m_MOST_SIGNS := ⟨_, PySem.W.mg_of X G g_MOST_SIGNS⟩,
    m_MOST_NAME_SIGNS := ⟨_, PySem.W.mg_of X G g_MOST_NAME_SIGNS⟩,
    m_LETTERS := ⟨_, PySem.W.mg_of X G g_LETTERS⟩,
    m_NAME_SIGNS := ⟨_, PySem.W.mg_of X G g_NAME_SIGNS⟩,
    m_BLANKS := ⟨_, PySem.W.mg_of X G g_BLANKS⟩,
    m_PERCENT := ⟨_, PySem.W.mg_of X G g_PERCENT⟩,
    m_QUOTE := ⟨_, PySem.W.mg_of X G g_QUOTE⟩,
    m_PART_END := ⟨_, PySem.W.mg_of X G g_PART_END⟩,
    m_FORMS := ⟨dF, PySem.W.mg_of X G g_FORMS, forms_ok r_dict r_h0 r_h1 r_h2 r_h3 r_h4 r_h5 r_h6 r_h7 r_h8 r_h9 r_h10 r_low r_t0 r_t1 r_t2 r_t3 r_t4 r_t5 r_t6 r_t7 r_t8 r_t9 r_t10⟩,
    f_is_told := ⟨_, _, PySem.W.mg_of X G a0, fun_mk (st := sIsTold) l0 c0 k0, (fun_mk (st := sIsTold) l0 c0 k0).binds (ps := ["sign"]) fun _ _ _ _ _ _ us hl => match us, hl with | [_], _ => rfl⟩,
    f_are_told := ⟨_, _, PySem.W.mg_of X G a1, fun_mk (st := sAreTold) l1 c1 k1, (fun_mk (st := sAreTold) l1 c1 k1).binds (ps := ["value"]) fun _ _ _ _ _ _ us hl => match us, hl with | [_], _ => rfl⟩,
    f_is_text := ⟨_, _, PySem.W.mg_of X G a2, fun_mk (st := sIsText) l2 c2 k2, (fun_mk (st := sIsText) l2 c2 k2).binds (ps := ["value"]) fun _ _ _ _ _ _ us hl => match us, hl with | [_], _ => rfl⟩,
    f_name_end := ⟨_, _, PySem.W.mg_of X G a3, fun_mk (st := sNameEnd) l3 c3 k3, (fun_mk (st := sNameEnd) l3 c3 k3).binds (ps := ["text", "at"]) fun _ _ _ _ _ _ us hl => match us, hl with | [_, _], _ => rfl⟩,
    f_is_name := ⟨_, _, PySem.W.mg_of X G a4, fun_mk (st := sIsName) l4 c4 k4, (fun_mk (st := sIsName) l4 c4 k4).binds (ps := ["value"]) fun _ _ _ _ _ _ us hl => match us, hl with | [_], _ => rfl⟩,
    f_ends_word := ⟨_, _, PySem.W.mg_of X G a5, fun_mk (st := sEndsWord) l5 c5 k5, (fun_mk (st := sEndsWord) l5 c5 k5).binds (ps := ["text", "at"]) fun _ _ _ _ _ _ us hl => match us, hl with | [_, _], _ => rfl⟩,
    f_word_end := ⟨_, _, PySem.W.mg_of X G a6, fun_mk (st := sWordEnd) l6 c6 k6, (fun_mk (st := sWordEnd) l6 c6 k6).binds (ps := ["text", "at"]) fun _ _ _ _ _ _ us hl => match us, hl with | [_, _], _ => rfl⟩,
    f_parts_of := ⟨_, _, PySem.W.mg_of X G a7, fun_mk (st := sPartsOf) l7 c7 k7, (fun_mk (st := sPartsOf) l7 c7 k7).binds (ps := ["text"]) fun _ _ _ _ _ _ us hl => match us, hl with | [_], _ => rfl⟩,
    f_fits := ⟨_, _, PySem.W.mg_of X G a8, fun_mk (st := sFits) l8 c8 k8, (fun_mk (st := sFits) l8 c8 k8).binds (ps := ["kind", "word", "is_quoted"]) fun _ _ _ _ _ _ us hl => match us, hl with | [_, _, _], _ => rfl⟩,
    f_action_of := ⟨_, _, PySem.W.mg_of X G a9, fun_mk (st := sActionOf) l9 c9 k9, (fun_mk (st := sActionOf) l9 c9 k9).binds (ps := ["words"]) fun _ _ _ _ _ _ us hl => match us, hl with | [_], _ => rfl⟩,
    f_actions_of := ⟨_, _, PySem.W.mg_of X G a10, fun_mk (st := sActionsOf) l10 c10 k10, (fun_mk (st := sActionsOf) l10 c10 k10).binds (ps := ["text"]) fun _ _ _ _ _ _ us hl => match us, hl with | [_], _ => rfl⟩,
    f__law_pool := ⟨_, _, PySem.W.mg_of X G a11, fun_mk (st := sLawPool) l11 c11 k11, (fun_mk (st := sLawPool) l11 c11 k11).binds (ps := ["script"]) fun _ _ _ _ _ _ us hl => match us, hl with | [_], _ => rfl⟩,
    f__law_stream := ⟨_, _, PySem.W.mg_of X G a12, fun_mk (st := sLawStream) l12 c12 k12, (fun_mk (st := sLawStream) l12 c12 k12).binds (ps := ["script"]) fun _ _ _ _ _ _ us hl => match us, hl with | [_], _ => rfl⟩,
    f__law_pick := ⟨_, _, PySem.W.mg_of X G a13, fun_mk (st := sLawPick) l13 c13 k13, (fun_mk (st := sLawPick) l13 c13 k13).binds (ps := ["pool", "many"]) fun _ _ _ _ _ _ us hl => match us, hl with | [_, _], _ => rfl⟩,
    f__law_same := ⟨_, _, PySem.W.mg_of X G a14, fun_mk (st := sLawSame) l14 c14 k14, (fun_mk (st := sLawSame) l14 c14 k14).binds (ps := ["told", "due"]) fun _ _ _ _ _ _ us hl => match us, hl with | [_, _], _ => rfl⟩,
    f__law_gap := ⟨_, _, PySem.W.mg_of X G a15, fun_mk (st := sLawGap) l15 c15 k15, (fun_mk (st := sLawGap) l15 c15 k15).binds (ps := ["pool"]) fun _ _ _ _ _ _ us hl => match us, hl with | [_], _ => rfl⟩,
    f__law_ends := ⟨_, _, PySem.W.mg_of X G a16, fun_mk (st := sLawEnds) l16 c16 k16, (fun_mk (st := sLawEnds) l16 c16 k16).binds (ps := ["pool"]) fun _ _ _ _ _ _ us hl => match us, hl with | [_], _ => rfl⟩,
    f__law_sign := ⟨_, _, PySem.W.mg_of X G a17, fun_mk (st := sLawSign) l17 c17 k17, (fun_mk (st := sLawSign) l17 c17 k17).binds (ps := ["pool"]) fun _ _ _ _ _ _ us hl => match us, hl with | [_], _ => rfl⟩,
    f__law_plain := ⟨_, _, PySem.W.mg_of X G a18, fun_mk (st := sLawPlain) l18 c18 k18, (fun_mk (st := sLawPlain) l18 c18 k18).binds (ps := ["pool"]) fun _ _ _ _ _ _ us hl => match us, hl with | [_], _ => rfl⟩,
    f__law_quoted := ⟨_, _, PySem.W.mg_of X G a19, fun_mk (st := sLawQuoted) l19 c19 k19, (fun_mk (st := sLawQuoted) l19 c19 k19).binds (ps := ["pool"]) fun _ _ _ _ _ _ us hl => match us, hl with | [_], _ => rfl⟩,
    f__law_any := ⟨_, _, PySem.W.mg_of X G a20, fun_mk (st := sLawAny) l20 c20 k20, (fun_mk (st := sLawAny) l20 c20 k20).binds (ps := ["pool"]) fun _ _ _ _ _ _ us hl => match us, hl with | [_], _ => rfl⟩,
    f__law_target := ⟨_, _, PySem.W.mg_of X G a21, fun_mk (st := sLawTarget) l21 c21 k21, (fun_mk (st := sLawTarget) l21 c21 k21).binds (ps := ["pool"]) fun _ _ _ _ _ _ us hl => match us, hl with | [_], _ => rfl⟩,
    f__law_name := ⟨_, _, PySem.W.mg_of X G a22, fun_mk (st := sLawName) l22 c22 k22, (fun_mk (st := sLawName) l22 c22 k22).binds (ps := ["pool"]) fun _ _ _ _ _ _ us hl => match us, hl with | [_], _ => rfl⟩,
    f__law_good := ⟨_, _, PySem.W.mg_of X G a23, fun_mk (st := sLawGood) l23 c23 k23, (fun_mk (st := sLawGood) l23 c23 k23).binds (ps := ["pool"]) fun _ _ _ _ _ _ us hl => match us, hl with | [_], _ => rfl⟩,
    f__law_wrong := ⟨_, _, PySem.W.mg_of X G a24, fun_mk (st := sLawWrong) l24 c24 k24, (fun_mk (st := sLawWrong) l24 c24 k24).binds (ps := ["pool"]) fun _ _ _ _ _ _ us hl => match us, hl with | [_], _ => rfl⟩,
    f__law_made := ⟨_, _, PySem.W.mg_of X G a25, fun_mk (st := sLawMade) l25 c25 k25, (fun_mk (st := sLawMade) l25 c25 k25).binds (ps := ["pool"]) fun _ _ _ _ _ _ us hl => match us, hl with | [_], _ => rfl⟩,
    f__law_edges := ⟨_, _, PySem.W.mg_of X G a26, fun_mk (st := sLawEdges) l26 c26 k26, (fun_mk (st := sLawEdges) l26 c26 k26).binds (ps := ["pool"]) fun _ _ _ _ _ _ us hl => match us, hl with | [_], _ => rfl⟩,
    f__law_soup := ⟨_, _, PySem.W.mg_of X G a27, fun_mk (st := sLawSoup) l27 c27 k27, (fun_mk (st := sLawSoup) l27 c27 k27).binds (ps := ["pool"]) fun _ _ _ _ _ _ us hl => match us, hl with | [_], _ => rfl⟩,
    f__law_parts := ⟨_, _, PySem.W.mg_of X G a28, fun_mk (st := sLawParts) l28 c28 k28, (fun_mk (st := sLawParts) l28 c28 k28).binds (ps := ["text"]) fun _ _ _ _ _ _ us hl => match us, hl with | [_], _ => rfl⟩,
    f__law_is_name := ⟨_, _, PySem.W.mg_of X G a29, fun_mk (st := sLawIsName) l29 c29 k29, (fun_mk (st := sLawIsName) l29 c29 k29).binds (ps := ["word"]) fun _ _ _ _ _ _ us hl => match us, hl with | [_], _ => rfl⟩,
    f__law_is_action := ⟨_, _, PySem.W.mg_of X G a30, fun_mk (st := sLawIsAction) l30 c30 k30, (fun_mk (st := sLawIsAction) l30 c30 k30).binds (ps := ["words"]) fun _ _ _ _ _ _ us hl => match us, hl with | [_], _ => rfl⟩,
    f__law_read := ⟨_, _, PySem.W.mg_of X G a31, fun_mk (st := sLawRead) l31 c31 k31, (fun_mk (st := sLawRead) l31 c31 k31).binds (ps := ["text"]) fun _ _ _ _ _ _ us hl => match us, hl with | [_], _ => rfl⟩,
    f__law_is_refused := ⟨_, _, PySem.W.mg_of X G a32, fun_mk (st := sLawIsRefused) l32 c32 k32, (fun_mk (st := sLawIsRefused) l32 c32 k32).binds (ps := ["value"]) fun _ _ _ _ _ _ us hl => match us, hl with | [_], _ => rfl⟩,
    f__law_told := ⟨_, _, PySem.W.mg_of X G a33, fun_mk (st := sLawTold) l33 c33 k33, (fun_mk (st := sLawTold) l33 c33 k33).binds (ps := ["text", "due"]) fun _ _ _ _ _ _ us hl => match us, hl with | [_, _], _ => rfl⟩,
    f_law := ⟨_, _, PySem.W.mg_of X G a34, fun_mk (st := sLaw) l34 c34 k34, (fun_mk (st := sLaw) l34 c34 k34).binds (ps := ["script"]) fun _ _ _ _ _ _ us hl => match us, hl with | [_], _ => rfl⟩ }
  have XT : ExcTop K mg cP cT cD cN cL cC cS := { gP := PySem.W.mg_of X G x_gP, gT := PySem.W.mg_of X G x_gT, gD := PySem.W.mg_of X G x_gD, gN := PySem.W.mg_of X G x_gN, gL := PySem.W.mg_of X G x_gL, gC := PySem.W.mg_of X G x_gC, gS := PySem.W.mg_of X G x_gS, qT := x_qT, kT := x_kT, sT := x_sT, tT := x_tT, xT := { hg := x_y1, hk := x_y2, hs := x_sT, hd := x_y4, ha := x_y5, hn := x_y6, ht := x_y7, hm := x_y8 }, mP := PySem.W.exm_ref x_p1 x_p2 x_p3 x_p4, iD := kit_no x_dD x_eD x_fD x_nD, iN := kit_no x_dN x_eN x_fN x_nN, iL := kit_no x_dL x_eL x_fL x_nL, iC := kit_no x_dC x_eC x_fC x_nC, iS := kit_no x_dS x_eS x_fS x_nS, iT := kit_self }
  exact ⟨PySem.W.fnOf "law" "law" (defArgs sLaw) (defBody sLaw) (defScope sLaw) .none kV34 dc34 pm34 an34 cd34 ct34, fun s v => .of_eq rfl, fun base _ _ => okLawFn (fun_mk (st := sLaw) l34 c34 k34) T XT⟩
end K78
open PySem PySem.W PyProof.Rows
set_option maxHeartbeats 0 in
theorem PySem.Challenge.cw_pageseen_k78_actions_of_handlers_holds : PySem.Challenge.rw_pageseen_k78_actions_of_handlers.Holds := by
  w_on; o_law; k_head; (case hw => w_witness2)
  k_fill
  refine L2.walk_of (l := PySem.Challenge.rw_pageseen_k78_actions_of_handlers) (n := 63) (k := 10) (x := "script") (CX := fun _ => L2.CX0) (sp := fun w => K78.spLaw _) rfl (by decide) rfl ⟨rfl, by decide, by decide⟩ (fun w h Y => PySem.W.kIn_of Y) ?F (fun _ _ a ns hl _ hS => ⟨a, ns, rfl, hS, hl, fun _ => rfl⟩) (fun _ _ _ _ _ h => h)
  case F =>
    intro w mg fa h KX G hmg
    refine' K78.all_mk KX G hmg ?z_len ?z_ord ?z_all ?z_any ?z_int ?z_str ?z_bool ?z_list ?z_tuple ?z_dict ?z_range ?z_zip ?z_isinstance ?g_MOST_SIGNS ?g_MOST_NAME_SIGNS ?g_LETTERS ?g_NAME_SIGNS ?g_BLANKS ?g_PERCENT ?g_QUOTE ?g_PART_END ?g_FORMS ?a0 ?l0 ?c0 ?k0 ?a1 ?l1 ?c1 ?k1 ?a2 ?l2 ?c2 ?k2 ?a3 ?l3 ?c3 ?k3 ?a4 ?l4 ?c4 ?k4 ?a5 ?l5 ?c5 ?k5 ?a6 ?l6 ?c6 ?k6 ?a7 ?l7 ?c7 ?k7 ?a8 ?l8 ?c8 ?k8 ?a9 ?l9 ?c9 ?k9 ?a10 ?l10 ?c10 ?k10 ?a11 ?l11 ?c11 ?k11 ?a12 ?l12 ?c12 ?k12 ?a13 ?l13 ?c13 ?k13 ?a14 ?l14 ?c14 ?k14 ?a15 ?l15 ?c15 ?k15 ?a16 ?l16 ?c16 ?k16 ?a17 ?l17 ?c17 ?k17 ?a18 ?l18 ?c18 ?k18 ?a19 ?l19 ?c19 ?k19 ?a20 ?l20 ?c20 ?k20 ?a21 ?l21 ?c21 ?k21 ?a22 ?l22 ?c22 ?k22 ?a23 ?l23 ?c23 ?k23 ?a24 ?l24 ?c24 ?k24 ?a25 ?l25 ?c25 ?k25 ?a26 ?l26 ?c26 ?k26 ?a27 ?l27 ?c27 ?k27 ?a28 ?l28 ?c28 ?k28 ?a29 ?l29 ?c29 ?k29 ?a30 ?l30 ?c30 ?k30 ?a31 ?l31 ?c31 ?k31 ?a32 ?l32 ?c32 ?k32 ?a33 ?l33 ?c33 ?k33 ?a34 ?l34 ?c34 ?k34 ?x_gP ?x_gT ?x_gD ?x_gN ?x_gL ?x_gC ?x_gS ?x_qT ?x_kT ?x_sT ?x_tT ?x_y1 ?x_y2 ?x_y4 ?x_y5 ?x_y6 ?x_y7 ?x_y8 ?x_p1 ?x_p2 ?x_p3 ?x_p4 ?x_dD ?x_eD ?x_fD ?x_nD ?x_dN ?x_eN ?x_fN ?x_nN ?x_dL ?x_eL ?x_fL ?x_nL ?x_dC ?x_eC ?x_fC ?x_nC ?x_dS ?x_eS ?x_fS ?x_nS ?r_dict ?r_h0 ?r_h1 ?r_h2 ?r_h3 ?r_h4 ?r_h5 ?r_h6 ?r_h7 ?r_h8 ?r_h9 ?r_h10 ?r_low ?r_t0 ?r_t1 ?r_t2 ?r_t3 ?r_t4 ?r_t5 ?r_t6 ?r_t7 ?r_t8 ?r_t9 ?r_t10
    (case z_len => k_is)
    (case z_ord => k_is)
    (case z_all => k_is)
    (case z_any => k_is)
    (case z_int => k_is)
    (case z_str => k_is)
    (case z_bool => k_is)
    (case z_list => k_is)
    (case z_tuple => k_is)
    (case z_dict => k_is)
    (case z_range => k_is)
    (case z_zip => k_is)
    (case z_isinstance => k_is)
    (case g_MOST_SIGNS => k_is)
    (case g_MOST_NAME_SIGNS => k_is)
    (case g_LETTERS => k_is)
    (case g_NAME_SIGNS => k_is)
    (case g_BLANKS => k_is)
    (case g_PERCENT => k_is)
    (case g_QUOTE => k_is)
    (case g_PART_END => k_is)
    (case g_FORMS => k_is)
    (case a0 => k_is)
    (case l0 => k_is)
    (case c0 => k_is)
    (case k0 => k_is)
    (case a1 => k_is)
    (case l1 => k_is)
    (case c1 => k_is)
    (case k1 => k_is)
    (case a2 => k_is)
    (case l2 => k_is)
    (case c2 => k_is)
    (case k2 => k_is)
    (case a3 => k_is)
    (case l3 => k_is)
    (case c3 => k_is)
    (case k3 => k_is)
    (case a4 => k_is)
    (case l4 => k_is)
    (case c4 => k_is)
    (case k4 => k_is)
    (case a5 => k_is)
    (case l5 => k_is)
    (case c5 => k_is)
    (case k5 => k_is)
    (case a6 => k_is)
    (case l6 => k_is)
    (case c6 => k_is)
    (case k6 => k_is)
    (case a7 => k_is)
    (case l7 => k_is)
    (case c7 => k_is)
    (case k7 => k_is)
    (case a8 => k_is)
    (case l8 => k_is)
    (case c8 => k_is)
    (case k8 => k_is)
    (case a9 => k_is)
    (case l9 => k_is)
    (case c9 => k_is)
    (case k9 => k_is)
    (case a10 => k_is)
    (case l10 => k_is)
    (case c10 => k_is)
    (case k10 => k_is)
    (case a11 => k_is)
    (case l11 => k_is)
    (case c11 => k_is)
    (case k11 => k_is)
    (case a12 => k_is)
    (case l12 => k_is)
    (case c12 => k_is)
    (case k12 => k_is)
    (case a13 => k_is)
    (case l13 => k_is)
    (case c13 => k_is)
    (case k13 => k_is)
    (case a14 => k_is)
    (case l14 => k_is)
    (case c14 => k_is)
    (case k14 => k_is)
    (case a15 => k_is)
    (case l15 => k_is)
    (case c15 => k_is)
    (case k15 => k_is)
    (case a16 => k_is)
    (case l16 => k_is)
    (case c16 => k_is)
    (case k16 => k_is)
    (case a17 => k_is)
    (case l17 => k_is)
    (case c17 => k_is)
    (case k17 => k_is)
    (case a18 => k_is)
    (case l18 => k_is)
    (case c18 => k_is)
    (case k18 => k_is)
    (case a19 => k_is)
    (case l19 => k_is)
    (case c19 => k_is)
    (case k19 => k_is)
    (case a20 => k_is)
    (case l20 => k_is)
    (case c20 => k_is)
    (case k20 => k_is)
    (case a21 => k_is)
    (case l21 => k_is)
    (case c21 => k_is)
    (case k21 => k_is)
    (case a22 => k_is)
    (case l22 => k_is)
    (case c22 => k_is)
    (case k22 => k_is)
    (case a23 => k_is)
    (case l23 => k_is)
    (case c23 => k_is)
    (case k23 => k_is)
    (case a24 => k_is)
    (case l24 => k_is)
    (case c24 => k_is)
    (case k24 => k_is)
    (case a25 => k_is)
    (case l25 => k_is)
    (case c25 => k_is)
    (case k25 => k_is)
    (case a26 => k_is)
    (case l26 => k_is)
    (case c26 => k_is)
    (case k26 => k_is)
    (case a27 => k_is)
    (case l27 => k_is)
    (case c27 => k_is)
    (case k27 => k_is)
    (case a28 => k_is)
    (case l28 => k_is)
    (case c28 => k_is)
    (case k28 => k_is)
    (case a29 => k_is)
    (case l29 => k_is)
    (case c29 => k_is)
    (case k29 => k_is)
    (case a30 => k_is)
    (case l30 => k_is)
    (case c30 => k_is)
    (case k30 => k_is)
    (case a31 => k_is)
    (case l31 => k_is)
    (case c31 => k_is)
    (case k31 => k_is)
    (case a32 => k_is)
    (case l32 => k_is)
    (case c32 => k_is)
    (case k32 => k_is)
    (case a33 => k_is)
    (case l33 => k_is)
    (case c33 => k_is)
    (case k33 => k_is)
    (case a34 => k_is)
    (case l34 => k_is)
    (case c34 => k_is)
    (case k34 => k_is)
    (case x_gP => k_is)
    (case x_gT => k_is)
    (case x_gD => k_is)
    (case x_gN => k_is)
    (case x_gL => k_is)
    (case x_gC => k_is)
    (case x_gS => k_is)
    (case x_qT => k_exc)
    (case x_kT => k_is)
    (case x_sT => k_is)
    (case x_tT => k_is)
    (case x_y1 => k_is)
    (case x_y2 => k_is)
    (case x_y4 => k_is)
    (case x_y5 => k_is)
    (case x_y6 => k_is)
    (case x_y7 => k_is)
    (case x_y8 => k_is)
    (case x_p1 => k_is)
    (case x_p2 => k_is)
    (case x_p3 => k_is)
    (case x_p4 => k_is)
    (case x_dD => k_is)
    (case x_eD => k_is)
    (case x_fD => k_is)
    (case x_nD => first | rfl | k_is)
    (case x_dN => k_is)
    (case x_eN => k_is)
    (case x_fN => k_is)
    (case x_nN => first | rfl | k_is)
    (case x_dL => k_is)
    (case x_eL => k_is)
    (case x_fL => k_is)
    (case x_nL => first | rfl | k_is)
    (case x_dC => k_is)
    (case x_eC => k_is)
    (case x_fC => k_is)
    (case x_nC => first | rfl | k_is)
    (case x_dS => k_is)
    (case x_eS => k_is)
    (case x_fS => k_is)
    (case x_nS => first | rfl | k_is)
    (case r_dict => k_is)
    (case r_h0 => first | rfl | k_is)
    (case r_h1 => first | rfl | k_is)
    (case r_h2 => first | rfl | k_is)
    (case r_h3 => first | rfl | k_is)
    (case r_h4 => first | rfl | k_is)
    (case r_h5 => first | rfl | k_is)
    (case r_h6 => first | rfl | k_is)
    (case r_h7 => first | rfl | k_is)
    (case r_h8 => first | rfl | k_is)
    (case r_h9 => first | rfl | k_is)
    (case r_h10 => first | rfl | k_is)
    (case r_low => first | rfl | k_is)
    (case r_t0 => k_is)
    (case r_t1 => k_is)
    (case r_t2 => k_is)
    (case r_t3 => k_is)
    (case r_t4 => k_is)
    (case r_t5 => k_is)
    (case r_t6 => k_is)
    (case r_t7 => k_is)
    (case r_t8 => k_is)
    (case r_t9 => k_is)
    (case r_t10 => k_is)

