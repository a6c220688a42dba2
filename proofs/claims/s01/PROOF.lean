import PyProof.Rows.All
import Wide.All
import OpenK.AllK
import Wide.FinOn
import PyProof.EqAt
import PyProof.EqKinds
import PyProof.TupleCall
import Open.SpecLaws
import KE.OsGo
import KE.KExcInit
import HandS.ForMost
import HandS.ForSpec
import HandS.ExcCtx
import HandS.SuiteRaise
import HandS.HotCalls
import HandS.RaiseFrom
import PySem.Challenge.RW_partedwordsdesk_s01_answers
import KE.OsRun
import HandS.Head0
import HandS.Head1
import HandS.Head2
import HandS.HeadEnd
import HandS.HeadHook1
import HandS.HeadHook2
import HandS.HeadHook3
import HandS.HeadHook4
import HandS.FStr
import HandS.IsInst
import HandS.Walk
import HandS.Defaults
import PyProof.Draws
set_option Elab.async false
set_option linter.all false
set_option maxRecDepth 100000
set_option maxHeartbeats 0
/-! ## PwLex -/
namespace Pw
open VahypBase Vahypa

/-! ### tokens -/
/-- all tokens from an offset on, with fuel enough -/
def lexR (k : Nat) (l : Bytes) : Except Fault Toks := lex (l.length + 1) k l

theorem dropWhile_le {α : Type} (p : α → Bool) : ∀ l : List α, (l.dropWhile p).length ≤ l.length
  | [] => Nat.le_refl _
  | a :: l => by
    rw [List.dropWhile_cons]
    split
    · exact Nat.le_succ_of_le (dropWhile_le p l)
    · exact Nat.le_refl _

theorem token_pos {b : UInt8} {r : Bytes} {x : Tok × Nat} (h : token (b :: r) = some x) : 1 ≤ x.2 := by
  unfold token at h
  dsimp only at h
  split at h
  · rename_i hb
    split at h
    · cases h
    · cases h
      rw [List.takeWhile_cons, if_pos hb]
      exact Nat.succ_le_succ (Nat.zero_le _)
  · split at h
    · cases h
      exact Nat.le_refl _
    · cases h

theorem lex_fuel : ∀ (n m k : Nat) (l : Bytes), l.length < n → l.length < m → lex n k l = lex m k l
  | 0, _, _, _, h, _ => absurd h (Nat.not_lt_zero _)
  | n + 1, 0, _, _, _, h => absurd h (Nat.not_lt_zero _)
  | n + 1, m + 1, k, [], _, _ => rfl
  | n + 1, m + 1, k, b :: r, h1, h2 => by
    have h1' : r.length < n := Nat.lt_of_succ_lt_succ h1
    have h2' : r.length < m := Nat.lt_of_succ_lt_succ h2
    unfold lex
    split
    · exact lex_fuel n m _ r h1' h2'
    · split
      · exact lex_fuel n m _ _ (Nat.lt_of_le_of_lt (dropWhile_le _ r) h1') (Nat.lt_of_le_of_lt (dropWhile_le _ r) h2')
      · split
        · rfl
        · rename_i x hx
          have hp := token_pos hx
          have hl : ((b :: r).drop x.2).length ≤ r.length := by
            rw [List.length_drop, List.length_cons]; omega
          rw [lex_fuel n m _ _ (Nat.lt_of_le_of_lt hl h1') (Nat.lt_of_le_of_lt hl h2')]

theorem lexR_of {n k : Nat} {l : Bytes} (h : l.length < n) : lex n k l = lexR k l := lex_fuel _ _ _ _ h (Nat.lt_succ_self _)
theorem lexR_nil (k : Nat) : lexR k [] = .ok [⟨k, .last⟩] := rfl
theorem lexR_blank {k : Nat} {b : UInt8} {r : Bytes} (h : isBlank b = true) : lexR k (b :: r) = lexR (k + 1) r := by
  unfold lexR
  conv => lhs; unfold lex
  rw [if_pos h]
  rfl
theorem lexR_remark {k : Nat} {b : UInt8} {r : Bytes} (h0 : isBlank b = false) (h : (b == 35) = true) : lexR k (b :: r) = lexR (k + 1 + (r.takeWhile (· != 10)).length) (r.dropWhile (· != 10)) := by
  conv => lhs; unfold lexR; unfold lex
  rw [if_neg (by rw [h0]; exact Bool.false_ne_true), if_pos h]
  exact lexR_of (Nat.lt_succ_of_le (dropWhile_le _ r))
theorem lexR_bad {k : Nat} {b : UInt8} {r : Bytes} (h0 : isBlank b = false) (h1 : (b == 35) = false) (h : token (b :: r) = none) : lexR k (b :: r) = .error ⟨2, k⟩ := by
  conv => lhs; unfold lexR; unfold lex
  rw [if_neg (by rw [h0]; exact Bool.false_ne_true), if_neg (by rw [h1]; exact Bool.false_ne_true), h]
theorem lexR_tok {k : Nat} {b : UInt8} {r : Bytes} {x : Tok × Nat} (h0 : isBlank b = false) (h1 : (b == 35) = false) (h : token (b :: r) = some x) :
    lexR k (b :: r) = (lexR (k + x.2) ((b :: r).drop x.2)).map fun l => ⟨k, x.1⟩ :: l := by
  conv => lhs; unfold lexR; unfold lex
  rw [if_neg (by rw [h0]; exact Bool.false_ne_true), if_neg (by rw [h1]; exact Bool.false_ne_true), h]
  dsimp only
  have hp := token_pos h
  rw [lexR_of (l := (b :: r).drop x.2) (by rw [List.length_drop, List.length_cons]; omega)]

/-- the loop's state against the specification: behind the tokens ts, from the place i on -/
def LexAt (b : Bytes) (ts : Toks) (i : Nat) : Prop := i ≤ b.length ∧ lexR 0 b = (lexR i (b.drop i)).map fun l => ts ++ l
theorem map_id {α : Type} {ε : Type} (e : Except ε α) (f : α → α) (h : ∀ a, f a = a) : e.map f = e := by
  cases e with
  | error _ => rfl
  | ok a => exact congrArg Except.ok (h a)
theorem map_map {ε α β γ : Type} (e : Except ε α) (f : α → β) (g : β → γ) : (e.map f).map g = e.map fun a => g (f a) := by
  cases e <;> rfl
theorem LexAt.start (b : Bytes) : LexAt b [] 0 := ⟨Nat.zero_le _, (map_id _ _ fun _ => rfl).symm⟩
theorem drop_at {b : Bytes} {i : Nat} (h : i < b.length) : b.drop i = b[i] :: b.drop (i + 1) := by
  rw [List.drop_eq_getElem_cons h]
theorem LexAt.blank {b : Bytes} {ts : Toks} {i : Nat} (x : LexAt b ts i) (h : i < b.length) (c : isBlank b[i] = true) : LexAt b ts (i + 1) := by
  refine ⟨h, ?_⟩
  rw [x.2, drop_at h, lexR_blank c]
/-- how far the signs that are no byte 10 go -/
def remLen (l : Bytes) : Nat := (l.takeWhile (· != 10)).length
theorem drop_takeWhile {α : Type} (p : α → Bool) : ∀ l : List α, l.drop (l.takeWhile p).length = l.dropWhile p
  | [] => rfl
  | a :: l => by
    rw [List.takeWhile_cons, List.dropWhile_cons]
    by_cases h : p a = true
    · rw [if_pos h, if_pos h]; exact drop_takeWhile p l
    · rw [if_neg h, if_neg h]; rfl
theorem takeWhile_le {α : Type} (p : α → Bool) : ∀ l : List α, (l.takeWhile p).length ≤ l.length
  | [] => Nat.le_refl _
  | a :: l => by
    rw [List.takeWhile_cons]
    split
    · exact Nat.succ_le_succ (takeWhile_le p l)
    · exact Nat.zero_le _
theorem LexAt.remark {b : Bytes} {ts : Toks} {i : Nat} (x : LexAt b ts i) (h : i < b.length) (c0 : isBlank b[i] = false) (c : (b[i] == 35) = true) : LexAt b ts (i + remLen (b.drop i)) := by
  have e35 : b[i] = 35 := eq_of_beq c
  have e1 : remLen (b.drop i) = 1 + remLen (b.drop (i + 1)) := by
    unfold remLen
    rw [drop_at h, List.takeWhile_cons, if_pos (by rw [e35]; rfl), List.length_cons]
    omega
  have hl : remLen (b.drop (i + 1)) ≤ (b.drop (i + 1)).length := takeWhile_le _ _
  rw [List.length_drop] at hl
  refine ⟨by rw [e1]; omega, ?_⟩
  rw [x.2, drop_at h, lexR_remark c0 c]
  have e2 : b.drop (i + remLen (b.drop i)) = (b.drop (i + 1)).dropWhile (· != 10) := by
    rw [← drop_takeWhile, List.drop_drop, e1]
    congr 1
    unfold remLen
    omega
  rw [drop_at h] at e2
  rw [e2, ← drop_at h, e1]
  congr 2
  unfold remLen
  omega
/-- how far the signs of a chunk go -/
def chunkLen (l : Bytes) : Nat := (l.takeWhile inChunk).length
theorem take_takeWhile {α : Type} (p : α → Bool) : ∀ l : List α, l.take (l.takeWhile p).length = l.takeWhile p
  | [] => rfl
  | a :: l => by
    rw [List.takeWhile_cons]
    by_cases h : p a = true
    · rw [if_pos h, List.length_cons, List.take_succ_cons, take_takeWhile p l]
    · rw [if_neg h]; rfl
theorem not59 : inChunk 59 = false := by decide
theorem LexAt.semi {b : Bytes} {ts : Toks} {i : Nat} (x : LexAt b ts i) (h : i < b.length) (c0 : isBlank b[i] = false) (c1 : (b[i] == 35) = false) (c : (b[i] == 59) = true) : LexAt b (ts ++ [⟨i, .sign 59⟩]) (i + 1) := by
  have e59 : b[i] = 59 := eq_of_beq c
  refine ⟨h, ?_⟩
  have ht : token (b[i] :: b.drop (i + 1)) = some (.sign 59, 1) := by
    unfold token
    rw [e59]
    rfl
  rw [x.2, drop_at h, lexR_tok c0 c1 ht, map_map]
  dsimp only
  rw [List.drop_succ_cons, List.drop_zero]
  congr 1
  funext l
  rw [List.append_assoc]
  rfl
theorem LexAt.bad {b : Bytes} {ts : Toks} {i : Nat} (x : LexAt b ts i) (h : i < b.length) (c0 : isBlank b[i] = false) (c1 : (b[i] == 35) = false) (c2 : (b[i] == 59) = false) (c : chunkLen (b.drop i) = 0 ∨ 40 < chunkLen (b.drop i)) : lexR 0 b = .error ⟨2, i⟩ := by
  have ht : token (b[i] :: b.drop (i + 1)) = none := by
    unfold token
    dsimp only
    unfold chunkLen at c
    rw [drop_at h] at c
    by_cases hc : inChunk b[i] = true
    · rw [if_pos hc]
      rcases c with c | c
      · rw [List.takeWhile_cons, if_pos hc] at c
        cases c
      · exact if_pos c
    · rw [if_neg hc, if_neg (by rw [c2]; exact Bool.false_ne_true)]
  rw [x.2, drop_at h, lexR_bad c0 c1 ht]
  rfl
theorem LexAt.chunk {b : Bytes} {ts : Toks} {i : Nat} (x : LexAt b ts i) (h : i < b.length) (c0 : isBlank b[i] = false) (c1 : (b[i] == 35) = false) (c : 0 < chunkLen (b.drop i)) (c' : chunkLen (b.drop i) ≤ 40) :
    LexAt b (ts ++ [⟨i, .chunk ((b.drop i).take (chunkLen (b.drop i)))⟩]) (i + chunkLen (b.drop i)) := by
  have hl : chunkLen (b.drop i) ≤ (b.drop i).length := takeWhile_le _ _
  rw [List.length_drop] at hl
  refine ⟨by omega, ?_⟩
  have hc : inChunk b[i] = true := by
    cases e : inChunk b[i] with
    | true => rfl
    | false =>
      unfold chunkLen at c
      rw [drop_at h, List.takeWhile_cons, if_neg (by rw [e]; exact Bool.false_ne_true)] at c
      cases c
  have ht : token (b[i] :: b.drop (i + 1)) = some (.chunk ((b.drop i).takeWhile inChunk), chunkLen (b.drop i)) := by
    unfold token
    dsimp only
    unfold chunkLen at c' ⊢
    rw [drop_at h] at c' ⊢
    rw [if_pos hc]
    exact if_neg (Nat.not_lt.mpr c')
  rw [x.2]
  conv => lhs; rw [drop_at h, lexR_tok c0 c1 ht, map_map]
  dsimp only
  rw [← drop_at h, List.drop_drop]
  have e3 : (b.drop i).take (chunkLen (b.drop i)) = (b.drop i).takeWhile inChunk := take_takeWhile _ _
  rw [e3]
  congr 1
  funext l
  rw [List.append_assoc]
  rfl
theorem LexAt.done {b : Bytes} {ts : Toks} (x : LexAt b ts b.length) : lexR 0 b = .ok (ts ++ [⟨b.length, .last⟩]) := by
  rw [x.2, List.drop_length]
  rfl
theorem tokens_short {b : Bytes} (h : b.length ≤ 4096) : tokens b = lexR 0 b := by
  unfold tokens
  exact if_neg (Nat.not_lt.mpr h)
theorem tokens_long {b : Bytes} (h : 4096 < b.length) : tokens b = .error ⟨1, 4096⟩ := by
  unfold tokens
  exact if_pos h

/-! ### what tokens look like -/
def TokOk (t : Tok) : Prop := match t with
  | .chunk w => w ≠ [] ∧ w.length ≤ 40 ∧ ∀ c ∈ w, inChunk c = true
  | .sign c => c = 59
  | .last => False
/-- tokens as texts have them: the last one is the end -/
def TW (l : Toks) : Prop := ∃ pre z, l = pre ++ [z] ∧ z.tok = .last ∧ ∀ t ∈ pre, TokOk t.tok
theorem mem_takeWhile {α : Type} {p : α → Bool} : ∀ {l : List α} {c : α}, c ∈ l.takeWhile p → p c = true
  | [], c, h => by cases h
  | a :: l, c, h => by
    rw [List.takeWhile_cons] at h
    by_cases ha : p a = true
    · rw [if_pos ha] at h
      rcases List.mem_cons.mp h with e | h
      · rw [e]; exact ha
      · exact mem_takeWhile h
    · rw [if_neg ha] at h
      cases h
theorem chunk_ok {l : Bytes} (c : 0 < chunkLen l) (c' : chunkLen l ≤ 40) : TokOk (.chunk (l.take (chunkLen l))) := by
  unfold chunkLen at *
  rw [take_takeWhile]
  refine ⟨fun e => ?_, c', fun a h => mem_takeWhile h⟩
  rw [e] at c
  cases c
theorem TW.ne {l : Toks} (h : TW l) : l ≠ [] := by
  obtain ⟨pre, z, rfl, _⟩ := h
  simp
theorem TW.tail {t : PTok} {l : Toks} (h : TW (t :: l)) (ht : t.tok ≠ .last) : TW l ∧ TokOk t.tok := by
  obtain ⟨pre, z, e, hz, ho⟩ := h
  cases pre with
  | nil =>
    obtain ⟨rfl, rfl⟩ := List.cons.inj e
    exact absurd hz ht
  | cons a r =>
    obtain ⟨rfl, rfl⟩ := List.cons.inj e
    exact ⟨⟨r, z, rfl, hz, fun t h => ho t (List.mem_cons_of_mem _ h)⟩, ho _ List.mem_cons_self⟩
theorem TW.last {t : PTok} {l : Toks} (h : TW (t :: l)) (ht : t.tok = .last) : l = [] := by
  obtain ⟨pre, z, e, hz, ho⟩ := h
  cases pre with
  | nil => exact (List.cons.inj e).2
  | cons a r =>
    obtain ⟨rfl, rfl⟩ := List.cons.inj e
    have q := ho t List.mem_cons_self
    rw [ht] at q
    exact q.elim
end Pw

/-! ## PwWord -/
namespace Pw
open VahypBase Vahypa

/-! ### a chunk parted at its hyphens -/
def splitB : Bytes → List Bytes
  | [] => [[]]
  | c :: r => if c = 45 then [] :: splitB r else match splitB r with
    | [] => [[c]]
    | p :: ps => (c :: p) :: ps
theorem splitB_ne : ∀ l : Bytes, splitB l ≠ []
  | [] => by simp [splitB]
  | c :: r => by
    unfold splitB
    split
    · simp
    · split <;> simp
theorem splitB_hyphen (r : Bytes) : splitB (45 :: r) = [] :: splitB r := by
  conv => lhs; unfold splitB
  rw [if_pos rfl]
theorem splitB_other {c : UInt8} {r p : Bytes} {ps : List Bytes} (hc : c ≠ 45) (h : splitB r = p :: ps) : splitB (c :: r) = (c :: p) :: ps := by
  conv => lhs; unfold splitB
  rw [if_neg hc, h]
theorem splitB_ex (l : Bytes) : ∃ p ps, splitB l = p :: ps := by
  cases h : splitB l with
  | nil => exact absurd h (splitB_ne l)
  | cons p ps => exact ⟨p, ps, rfl⟩

/-- one part more: the letters, the gaps -/
def wordStep (s : Bytes × List Nat) (q : Bytes) : Bytes × List Nat := (s.1 ++ q, if 0 < s.1.length then s.2 ++ [s.1.length] else s.2)
def wordFold (ps : List Bytes) : Bytes × List Nat := ps.foldl wordStep ([], [])
/-- word_of -/
def pyWord (b : Bytes) : Option Word :=
  let ps := splitB b
  if [] ∈ ps then none else
    let s := wordFold ps
    if s.1.length < 2 ∨ 16 < s.1.length then none else if s.1.all isLetter = true then some ⟨s.1, s.2⟩ else none

def okParts (ps : List Bytes) : Bool := ps.all fun q => decide (q ≠ []) && q.all isLetter
theorem letter_ne45 {c : UInt8} (h : isLetter c = true) : c ≠ 45 := by
  intro e
  subst e
  exact absurd h (by decide)
theorem wordStep_pos {x q : Bytes} {cs : List Nat} (h : x ≠ []) : wordStep (x, cs) q = (x ++ q, cs ++ [x.length]) := by
  unfold wordStep
  rw [if_pos (List.length_pos_iff.mpr h)]
theorem wordBy_run : ∀ (k n : Nat) (l x : Bytes) (cs : List Nat) (p : Bytes) (ps : List Bytes), l.length ≤ k → l.length < n → x ≠ [] → (∀ c ∈ cs, c < x.length) → splitB l = p :: ps →
    wordBy n l x cs = if (p.all isLetter && okParts ps) = true then (let s := ps.foldl wordStep (x ++ p, cs); some ⟨s.1, s.2⟩) else none
  | k, 0, l, x, cs, p, ps, _, h, _, _, _ => absurd h (Nat.not_lt_zero _)
  | k, n + 1, [], x, cs, p, ps, hk, hn, hx, hc, hs => by
    have e : ([[]] : List Bytes) = p :: ps := hs
    obtain ⟨rfl, rfl⟩ := List.cons.inj e
    unfold wordBy
    simp [okParts]
  | 0, n + 1, b :: r, x, cs, p, ps, hk, _, _, _, _ => absurd hk (Nat.not_succ_le_zero _)
  | k + 1, n + 1, b :: r, x, cs, p, ps, hk, hn, hx, hc, hs => by
    have hk' : r.length ≤ k := Nat.le_of_succ_le_succ hk
    have hn' : r.length < n := Nat.lt_of_succ_lt_succ hn
    obtain ⟨p', ps', hr⟩ := splitB_ex r
    unfold wordBy
    dsimp only
    by_cases hb : isLetter b = true
    · rw [if_pos hb]
      have e := splitB_other (letter_ne45 hb) hr
      rw [e] at hs
      obtain ⟨rfl, rfl⟩ := List.cons.inj hs
      rw [wordBy_run k n r (x ++ [b]) cs p' ps' hk' hn' (by simp) (fun c h => by rw [List.length_append]; exact Nat.lt_of_lt_of_le (hc c h) (Nat.le_add_right _ _)) hr]
      rw [List.all_cons, hb, Bool.true_and, List.append_assoc]
      rfl
    · rw [if_neg hb]
      by_cases h45 : b = 45
      · subst h45
        have hcn : cs.contains x.length = false := by
          cases e : cs.contains x.length with
          | false => rfl
          | true =>
            have hm : x.length ∈ cs := by simpa using e
            exact absurd (hc _ hm) (Nat.lt_irrefl _)
        rw [if_pos ⟨by decide, hx, hcn⟩]
        rw [splitB_hyphen, hr] at hs
        obtain ⟨rfl, rfl⟩ := List.cons.inj hs
        cases r with
        | nil =>
          have e : ([[]] : List Bytes) = p' :: ps' := hr
          obtain ⟨rfl, rfl⟩ := List.cons.inj e
          rfl
        | cons c r' =>
          dsimp only
          by_cases hl : isLetter c = true
          · rw [if_pos hl]
            obtain ⟨p2, ps2, hr2⟩ := splitB_ex r'
            have e := splitB_other (letter_ne45 hl) hr2
            rw [e] at hr
            obtain ⟨rfl, rfl⟩ := List.cons.inj hr
            obtain ⟨n', rfl⟩ : ∃ n', n = n' + 1 := ⟨n - 1, by rw [List.length_cons] at hn'; omega⟩
            have hstep : wordBy (n' + 1) (c :: r') x (cs ++ [x.length]) = wordBy n' r' (x ++ [c]) (cs ++ [x.length]) := by
              conv => lhs; unfold wordBy
              dsimp only
              rw [if_pos hl]
            rw [hstep, wordBy_run k n' r' (x ++ [c]) (cs ++ [x.length]) p2 ps2 (by rw [List.length_cons] at hk'; omega) (by rw [List.length_cons] at hn'; omega) (by simp)
              (fun d h => by
                rw [List.length_append]
                rcases List.mem_append.mp h with h | h
                · exact Nat.lt_of_lt_of_le (hc d h) (Nat.le_add_right _ _)
                · rw [List.mem_singleton] at h
                  rw [h]
                  exact Nat.lt_succ_self _) hr2]
            have e1 : (([] : Bytes).all isLetter && okParts ((c :: p2) :: ps2)) = (p2.all isLetter && okParts ps2) := by
              unfold okParts
              rw [List.all_cons, List.all_nil, Bool.true_and, List.all_cons, hl]
              simp
            rw [e1]
            show _ = if _ then (let s := ((c :: p2) :: ps2).foldl wordStep (x ++ [], cs); some (Word.mk s.1 s.2)) else none
            rw [List.append_nil, List.foldl_cons, wordStep_pos hx]
            have e2 : x ++ [c] ++ p2 = x ++ (c :: p2) := by rw [List.append_assoc]; rfl
            rw [e2]
          · rw [if_neg hl]
            have e1 : okParts (p' :: ps') = false := by
              unfold okParts
              rw [List.all_cons]
              by_cases hc45 : c = 45
              · subst hc45
                rw [splitB_hyphen] at hr
                obtain ⟨rfl, rfl⟩ := List.cons.inj hr
                simp
              · obtain ⟨p2, ps2, hr2⟩ := splitB_ex r'
                rw [splitB_other hc45 hr2] at hr
                obtain ⟨rfl, rfl⟩ := List.cons.inj hr
                rw [List.all_cons, eq_false_of_ne_true hl]
                simp
            rw [e1, Bool.and_false, if_neg Bool.false_ne_true]
      · rw [if_neg (fun z => h45 (eq_of_beq z.1))]
        rw [splitB_other h45 hr] at hs
        obtain ⟨rfl, rfl⟩ := List.cons.inj hs
        rw [List.all_cons, eq_false_of_ne_true hb, Bool.false_and, Bool.false_and, if_neg Bool.false_ne_true]

theorem wordFold_letters : ∀ (ps : List Bytes) (s : Bytes × List Nat), (ps.foldl wordStep s).1 = s.1 ++ ps.flatten
  | [], s => by simp
  | q :: ps, s => by
    rw [List.foldl_cons, wordFold_letters ps]
    simp [wordStep]
theorem okParts_iff {ps : List Bytes} : okParts ps = true ↔ [] ∉ ps ∧ ps.flatten.all isLetter = true := by
  induction ps with
  | nil => simp [okParts]
  | cons q ps ih =>
    unfold okParts at *
    rw [List.all_cons, Bool.and_eq_true, ih, List.flatten_cons, List.all_append, Bool.and_eq_true, Bool.and_eq_true]
    simp only [decide_eq_true_eq, List.mem_cons, not_or]
    constructor
    · rintro ⟨⟨a, b⟩, c, d⟩
      exact ⟨⟨fun e => a e.symm, c⟩, b, d⟩
    · rintro ⟨⟨a, c⟩, b, d⟩
      exact ⟨⟨fun e => a e.symm, b⟩, c, d⟩
/-- the loop's word is the specification's -/
theorem pyWord_eq (b : Bytes) : pyWord b = wordOf b := by
  unfold wordOf
  cases b with
  | nil => rfl
  | cons c r =>
    obtain ⟨p, ps, hr⟩ := splitB_ex r
    unfold pyWord
    dsimp only
    by_cases hl : isLetter c = true
    · have e := splitB_other (letter_ne45 hl) hr
      have h1 : wordBy ((c :: r).length + 1) (c :: r) [] [] = wordBy (r.length + 1) r [c] [] := by
        conv => lhs; unfold wordBy
        dsimp only
        rw [if_pos hl]
        rfl
      rw [h1, wordBy_run r.length (r.length + 1) r [c] [] p ps (Nat.le_refl _) (Nat.lt_succ_self _) (by simp) (fun d h => by cases h) hr, e]
      have e0 : wordFold ((c :: p) :: ps) = ps.foldl wordStep ([c] ++ p, []) := rfl
      rw [e0]
      have e1 : (ps.foldl wordStep ([c] ++ p, [])).1 = (c :: p) ++ ps.flatten := wordFold_letters ps _
      have iff : (p.all isLetter && okParts ps) = true ↔ [] ∉ (c :: p) :: ps ∧ ((c :: p) ++ ps.flatten).all isLetter = true := by
        rw [Bool.and_eq_true, okParts_iff, List.all_append, Bool.and_eq_true, List.all_cons, hl, Bool.true_and]
        simp only [List.mem_cons, not_or]
        constructor
        · rintro ⟨a, b, d⟩
          exact ⟨⟨by simp, b⟩, a, d⟩
        · rintro ⟨⟨_, b⟩, a, d⟩
          exact ⟨a, b, d⟩
      by_cases ok : (p.all isLetter && okParts ps) = true
      · rw [if_pos ok]
        obtain ⟨k1, k2⟩ := iff.mp ok
        rw [if_neg k1]
        show _ = if _ then none else _
        by_cases hz : (ps.foldl wordStep ([c] ++ p, [])).1.length < 2 ∨ 16 < (ps.foldl wordStep ([c] ++ p, [])).1.length
        · rw [if_pos hz]
          exact (if_pos hz).symm
        · rw [if_neg hz, if_pos (by rw [e1]; exact k2)]
          exact (if_neg hz).symm
      · rw [if_neg ok]
        show _ = none
        by_cases k1 : [] ∈ (c :: p) :: ps
        · rw [if_pos k1]
        · rw [if_neg k1]
          split
          · rfl
          · rw [if_neg]
            intro k2
            rw [e1] at k2
            exact ok (iff.mpr ⟨k1, k2⟩)
    · have h1 : wordBy ((c :: r).length + 1) (c :: r) [] [] = none := by
        conv => lhs; unfold wordBy
        dsimp only
        rw [if_neg hl, if_neg (fun z => z.2.1 rfl)]
      rw [h1]
      show _ = none
      by_cases h45 : c = 45
      · subst h45
        rw [splitB_hyphen, if_pos List.mem_cons_self]
      · rw [splitB_other h45 hr]
        split
        · rfl
        · split
          · rfl
          · rw [if_neg]
            intro k
            have e1 : (wordFold ((c :: p) :: ps)).1 = (c :: p) ++ ps.flatten := wordFold_letters _ _
            rw [e1, List.cons_append, List.all_cons, eq_false_of_ne_true hl] at k
            cases k

/-! ### what a word looks like -/
structure WOk (w : Word) : Prop where
  two : 2 ≤ w.x.length
  most : w.x.length ≤ 16
  lets : ∀ c ∈ w.x, isLetter c = true
  cut : w.cuts.Pairwise (· < ·)
  in_ : ∀ g ∈ w.cuts, 1 ≤ g ∧ g < w.x.length
theorem fold_cuts : ∀ (ps : List Bytes) (s : Bytes × List Nat), [] ∉ ps → s.2.Pairwise (· < ·) → (∀ g ∈ s.2, 1 ≤ g ∧ g < s.1.length) →
    ((ps.foldl wordStep s).2.Pairwise (· < ·)) ∧ ∀ g ∈ (ps.foldl wordStep s).2, 1 ≤ g ∧ g < (ps.foldl wordStep s).1.length
  | [], s, _, h1, h2 => ⟨h1, h2⟩
  | q :: ps, s, hn, h1, h2 => by
    rw [List.foldl_cons]
    have hq : q ≠ [] := fun e => hn (by rw [e]; exact List.mem_cons_self)
    have hl : 0 < q.length := List.length_pos_iff.mpr hq
    refine fold_cuts ps (wordStep s q) (fun h => hn (List.mem_cons_of_mem _ h)) ?_ ?_
    · unfold wordStep
      dsimp only
      split
      · rw [List.pairwise_append]
        refine ⟨h1, by simp, fun a ha b hb => ?_⟩
        rw [List.mem_singleton] at hb
        rw [hb]
        exact (h2 a ha).2
      · exact h1
    · unfold wordStep
      dsimp only
      intro g hg
      rw [List.length_append]
      split at hg
      · rcases List.mem_append.mp hg with h | h
        · have := h2 g h
          omega
        · rw [List.mem_singleton] at h
          omega
      · have := h2 g hg
        omega
theorem wordOf_ok {b : Bytes} {w : Word} (h : wordOf b = some w) : WOk w := by
  rw [← pyWord_eq] at h
  unfold pyWord at h
  dsimp only at h
  split at h
  · cases h
  · rename_i hn
    split at h
    · cases h
    · rename_i hz
      split at h
      · rename_i hl
        cases h
        have q := fold_cuts (splitB b) ([], []) hn List.Pairwise.nil (fun g h => by cases h)
        have hz' : ¬ ((wordFold (splitB b)).1.length < 2 ∨ 16 < (wordFold (splitB b)).1.length) := hz
        exact ⟨by dsimp only; omega, by dsimp only; omega, fun c hc => List.all_eq_true.mp hl c hc, q.1, q.2⟩
      · cases h
end Pw

/-! ## PwPat -/
namespace Pw
open VahypBase Vahypa

/-! ### a pattern's chunk -/
def isOne (c : UInt8) : Bool := decide (49 ≤ c.toNat ∧ c.toNat ≤ 57)
/-- the loop of pattern_of: letters, digits (vs and the last one, v) -/
def patLoop : Bytes → Bytes → List Nat → Nat → Option (Bytes × List Nat)
  | [], x, vs, v => some (x, vs ++ [v])
  | c :: r, x, vs, v => if isLetter c = true then patLoop r (x ++ [c]) (vs ++ [v]) 0 else if isOne c = true ∧ v = 0 then patLoop r x vs (c.toNat - 48) else none
def atFront (b : Bytes) : Bool := b.head? == some 46
def behindPoint (b : Bytes) : Bytes := if atFront b = true then b.drop 1 else b
def atEnd (b : Bytes) : Bool := b.getLast? == some 46
def between (b : Bytes) : Bytes := if atEnd b = true then b.dropLast else b
def pyPat (b : Bytes) : Option Pat :=
  match patLoop (between (behindPoint b)) [] [] 0 with
  | none => none
  | some (x, vs) => if x.length < 1 ∨ 6 < x.length ∨ vs.foldl Nat.max 0 = 0 then none else some ⟨atFront b, x, atEnd (behindPoint b), vs⟩

def onlyEnd (o : Option (Bytes × List Nat × Bytes)) : Option (Bytes × List Nat) := match o with
  | none => none
  | some (x, vs, r) => if r = [] then some (x, vs) else none
theorem nat_of_eq48 {c : UInt8} : (c == 48) = decide (c.toNat = 48) := by
  rw [Bool.eq_iff_iff, beq_iff_eq, decide_eq_true_eq]
  constructor
  · rintro rfl; rfl
  · intro h; exact UInt8.toNat_inj.mp h
theorem letter_nat {c : UInt8} : isLetter c = true ↔ 97 ≤ c.toNat ∧ c.toNat ≤ 122 := by unfold isLetter; exact decide_eq_true_iff
theorem digit_nat {c : UInt8} : isDigit c = true ↔ 48 ≤ c.toNat ∧ c.toNat ≤ 57 := by unfold isDigit; exact decide_eq_true_iff
theorem one_nat {c : UInt8} : isOne c = true ↔ 49 ≤ c.toNat ∧ c.toNat ≤ 57 := by unfold isOne; exact decide_eq_true_iff

theorem patBy_nil (n : Nat) (x : Bytes) (vs : List Nat) : patBy (n + 1) [] x vs = some (x, vs ++ [0], []) := rfl
theorem patBy_letter {n : Nat} {c : UInt8} {r x : Bytes} {vs : List Nat} (h : isLetter c = true) : patBy (n + 1) (c :: r) x vs = patBy n r (x ++ [c]) (vs ++ [0]) := by
  have k := letter_nat.mp h
  have d : ¬ isDigit c = true := fun z => by have := digit_nat.mp z; omega
  have z : (c == 48) = false := by rw [nat_of_eq48]; exact decide_eq_false (by omega)
  conv => lhs; unfold patBy
  dsimp only
  rw [z, if_neg Bool.false_ne_true, if_neg d, if_neg d]
  dsimp only
  rw [if_pos h]
theorem patBy_zero {n : Nat} {r x : Bytes} {vs : List Nat} : patBy (n + 1) (48 :: r) x vs = none := by
  conv => lhs; unfold patBy
  dsimp only
  rw [if_pos (by decide)]
theorem patBy_digit_nil {n : Nat} {c : UInt8} {x : Bytes} {vs : List Nat} (h : isOne c = true) : patBy (n + 1) [c] x vs = some (x, vs ++ [c.toNat - 48], []) := by
  have k := one_nat.mp h
  have d : isDigit c = true := digit_nat.mpr (by omega)
  have z : (c == 48) = false := by rw [nat_of_eq48]; exact decide_eq_false (by omega)
  conv => lhs; unfold patBy
  dsimp only
  rw [z, if_neg Bool.false_ne_true, if_pos d, if_pos d]
theorem patBy_digit_letter {n : Nat} {c e : UInt8} {r x : Bytes} {vs : List Nat} (h : isOne c = true) (he : isLetter e = true) : patBy (n + 1) (c :: e :: r) x vs = patBy n r (x ++ [e]) (vs ++ [c.toNat - 48]) := by
  have k := one_nat.mp h
  have d : isDigit c = true := digit_nat.mpr (by omega)
  have z : (c == 48) = false := by rw [nat_of_eq48]; exact decide_eq_false (by omega)
  conv => lhs; unfold patBy
  dsimp only
  rw [z, if_neg Bool.false_ne_true, if_pos d, if_pos d]
  dsimp only
  rw [if_pos he]
theorem patBy_digit_other {n : Nat} {c e : UInt8} {r x : Bytes} {vs : List Nat} (h : isOne c = true) (he : ¬ isLetter e = true) : patBy (n + 1) (c :: e :: r) x vs = some (x, vs ++ [c.toNat - 48], e :: r) := by
  have k := one_nat.mp h
  have d : isDigit c = true := digit_nat.mpr (by omega)
  have z : (c == 48) = false := by rw [nat_of_eq48]; exact decide_eq_false (by omega)
  conv => lhs; unfold patBy
  dsimp only
  rw [z, if_neg Bool.false_ne_true, if_pos d, if_pos d]
  dsimp only
  rw [if_neg he]
theorem patBy_other {n : Nat} {c : UInt8} {r x : Bytes} {vs : List Nat} (h : ¬ isLetter c = true) (hd : ¬ isDigit c = true) : patBy (n + 1) (c :: r) x vs = some (x, vs ++ [0], c :: r) := by
  have z : (c == 48) = false := by
    rw [nat_of_eq48]
    exact decide_eq_false fun e => hd (digit_nat.mpr (by omega))
  conv => lhs; unfold patBy
  dsimp only
  rw [z, if_neg Bool.false_ne_true, if_neg hd, if_neg hd]
  dsimp only
  rw [if_neg h]

theorem patLoop_run : ∀ (k n : Nat) (l x : Bytes) (vs : List Nat), l.length ≤ k → l.length < n → patLoop l x vs 0 = onlyEnd (patBy n l x vs)
  | _, 0, _, _, _, _, h => absurd h (Nat.not_lt_zero _)
  | _, n + 1, [], x, vs, _, _ => rfl
  | 0, _ + 1, _ :: _, _, _, h, _ => absurd h (Nat.not_succ_le_zero _)
  | k + 1, n + 1, c :: r, x, vs, hk, hn => by
    have hk' : r.length ≤ k := Nat.le_of_succ_le_succ hk
    have hn' : r.length < n := Nat.lt_of_succ_lt_succ hn
    conv => lhs; unfold patLoop
    by_cases hl : isLetter c = true
    · rw [if_pos hl, patBy_letter hl]
      exact patLoop_run k n r _ _ hk' hn'
    · rw [if_neg hl]
      by_cases h1 : isOne c = true
      · rw [if_pos ⟨h1, rfl⟩]
        have k1 := one_nat.mp h1
        cases r with
        | nil =>
          rw [patBy_digit_nil h1]
          rfl
        | cons e s =>
          by_cases he : isLetter e = true
          · rw [patBy_digit_letter h1 he]
            conv => lhs; unfold patLoop
            rw [if_pos he]
            exact patLoop_run k n s _ _ (by rw [List.length_cons] at hk'; omega) (by rw [List.length_cons] at hn'; omega)
          · rw [patBy_digit_other h1 he]
            conv => lhs; unfold patLoop
            rw [if_neg he, if_neg (fun z => by have := z.2; omega)]
            rfl
      · rw [if_neg (fun z => h1 z.1)]
        by_cases hd : isDigit c = true
        · have k1 := digit_nat.mp hd
          have e48 : c = 48 := by
            apply UInt8.toNat_inj.mp
            have : ¬ (49 ≤ c.toNat ∧ c.toNat ≤ 57) := fun z => h1 (one_nat.mpr z)
            show c.toNat = 48
            omega
          rw [e48, patBy_zero]
          rfl
        · rw [patBy_other hl hd]
          rfl
/-- a point behind -/
theorem patBy_point : ∀ (k n m : Nat) (l x : Bytes) (vs : List Nat), l.length ≤ k → l.length + 1 < n → l.length < m → patBy n (l ++ [46]) x vs = (patBy m l x vs).map fun q => (q.1, q.2.1, q.2.2 ++ [46])
  | _, 0, _, _, _, _, _, h, _ => absurd h (Nat.not_lt_zero _)
  | _, _ + 1, 0, _, _, _, _, _, h => absurd h (Nat.not_lt_zero _)
  | _, n + 1, m + 1, [], x, vs, _, _, _ => by
    rw [patBy_nil, List.nil_append, patBy_other (by decide) (by decide)]
    rfl
  | 0, _ + 1, _ + 1, _ :: _, _, _, h, _, _ => absurd h (Nat.not_succ_le_zero _)
  | k + 1, n + 1, m + 1, c :: r, x, vs, hk, hn, hm => by
    have hk' : r.length ≤ k := Nat.le_of_succ_le_succ hk
    have hn' : r.length + 1 < n := Nat.lt_of_succ_lt_succ hn
    have hm' : r.length < m := Nat.lt_of_succ_lt_succ hm
    rw [List.cons_append]
    by_cases hl : isLetter c = true
    · rw [patBy_letter hl, patBy_letter hl]
      exact patBy_point k n m r _ _ hk' hn' hm'
    · by_cases h1 : isOne c = true
      · cases r with
        | nil =>
          rw [List.nil_append, patBy_digit_other h1 (by decide), patBy_digit_nil h1]
          rfl
        | cons e s =>
          rw [List.cons_append]
          by_cases he : isLetter e = true
          · rw [patBy_digit_letter h1 he, patBy_digit_letter h1 he]
            exact patBy_point k n m s _ _ (by rw [List.length_cons] at hk'; omega) (by rw [List.length_cons] at hn'; omega) (by rw [List.length_cons] at hm'; omega)
          · rw [patBy_digit_other h1 he, patBy_digit_other h1 he]
            rfl
      · by_cases hd : isDigit c = true
        · have k1 := digit_nat.mp hd
          have e48 : c = 48 := by
            apply UInt8.toNat_inj.mp
            have : ¬ (49 ≤ c.toNat ∧ c.toNat ≤ 57) := fun z => h1 (one_nat.mpr z)
            show c.toNat = 48
            omega
          rw [e48, patBy_zero, patBy_zero]
          rfl
        · rw [patBy_other hl hd, patBy_other hl hd]
          rfl
/-- what is left is a part of the text's end -/
theorem patBy_rest : ∀ (n : Nat) (l x : Bytes) (vs : List Nat) (q : Bytes × List Nat × Bytes), patBy n l x vs = some q → q.2.2 <:+ l
  | 0, _, _, _, _, h => by cases h
  | n + 1, [], x, vs, q, h => by
    rw [patBy_nil] at h
    cases h
    exact List.suffix_refl _
  | n + 1, c :: r, x, vs, q, h => by
    by_cases hl : isLetter c = true
    · rw [patBy_letter hl] at h
      exact List.IsSuffix.trans (patBy_rest n r _ _ _ h) (List.suffix_cons _ _)
    · by_cases h1 : isOne c = true
      · cases r with
        | nil =>
          rw [patBy_digit_nil h1] at h
          cases h
          exact List.nil_suffix
        | cons e s =>
          by_cases he : isLetter e = true
          · rw [patBy_digit_letter h1 he] at h
            exact List.IsSuffix.trans (patBy_rest n s _ _ _ h) (List.IsSuffix.trans (List.suffix_cons _ _) (List.suffix_cons _ _))
          · rw [patBy_digit_other h1 he] at h
            cases h
            exact List.suffix_cons _ _
      · by_cases hd : isDigit c = true
        · have k1 := digit_nat.mp hd
          have e48 : c = 48 := by
            apply UInt8.toNat_inj.mp
            have : ¬ (49 ≤ c.toNat ∧ c.toNat ≤ 57) := fun z => h1 (one_nat.mpr z)
            show c.toNat = 48
            omega
          rw [e48, patBy_zero] at h
          cases h
        · rw [patBy_other hl hd] at h
          cases h
          exact List.suffix_refl _
theorem max_zero : ∀ (vs : List Nat) (m : Nat), vs.foldl Nat.max m = 0 ↔ m = 0 ∧ vs.all (fun v => v == 0) = true
  | [], m => by simp
  | v :: vs, m => by
    rw [List.foldl_cons, max_zero vs, List.all_cons, Bool.and_eq_true, beq_iff_eq]
    have : Nat.max m v = 0 ↔ m = 0 ∧ v = 0 := by
      constructor
      · intro h
        have h1 : m ≤ Nat.max m v := Nat.le_max_left _ _
        have h2 : v ≤ Nat.max m v := Nat.le_max_right _ _
        omega
      · rintro ⟨rfl, rfl⟩; rfl
    rw [this, and_assoc]
theorem pyPat_eq (b : Bytes) : pyPat b = patOf b := by
  unfold pyPat patOf
  dsimp only
  show _ = (patBy (b.length + 1) (behindPoint b) [] []).bind _
  obtain ⟨l, hl⟩ : ∃ l, l = behindPoint b := ⟨_, rfl⟩
  have hlen : l.length ≤ b.length := by
    rw [hl]
    unfold behindPoint
    split
    · rw [List.length_drop]; omega
    · exact Nat.le_refl _
  rw [← hl]
  by_cases he : atEnd l = true
  · have hb : between l = l.dropLast := by unfold between; rw [if_pos he]
    have hl46 : l.dropLast ++ [46] = l := by
      unfold atEnd at he
      have e := eq_of_beq he
      obtain ⟨ys, h⟩ := List.getLast?_eq_some_iff.mp e
      rw [h, List.dropLast_concat]
    rw [hb]
    have hm : l.dropLast.length = l.length - 1 := List.length_dropLast
    have hpos : 0 < l.length := by
      rw [← hl46, List.length_append]; exact Nat.succ_pos _
    have hp := patBy_point (l.dropLast.length) (b.length + 1) (l.dropLast.length + 1) l.dropLast [] [] (Nat.le_refl _) (by omega) (Nat.lt_succ_self _)
    rw [hl46] at hp
    rw [hp, patLoop_run l.dropLast.length (l.dropLast.length + 1) l.dropLast [] [] (Nat.le_refl _) (Nat.lt_succ_self _)]
    cases hq : patBy (l.dropLast.length + 1) l.dropLast [] [] with
    | none => rfl
    | some q =>
      obtain ⟨x, vs, r⟩ := q
      show (match onlyEnd (some (x, vs, r)) with | none => none | some (x, vs) => _) = (if _ then none else _)
      unfold onlyEnd
      dsimp only
      have mz : vs.foldl Nat.max 0 = 0 ↔ vs.all (fun v => v == 0) = true := by rw [max_zero]; simp
      by_cases hr : r = []
      · subst hr
        rw [if_pos rfl]
        dsimp only
        have es : (([] ++ [46] : Bytes) == [46]) = true := by decide
        rw [es]
        by_cases c : x.length < 1 ∨ 6 < x.length ∨ vs.foldl Nat.max 0 = 0
        · rw [if_pos c, if_pos]
          rcases c with c | c | c
          · exact .inl c
          · exact .inr (.inl c)
          · exact .inr (.inr (.inr (mz.mp c)))
        · rw [if_neg c, if_neg]
          · rw [he]; rfl
          · rintro (d | d | d | d)
            · exact c (.inl d)
            · exact c (.inr (.inl d))
            · cases d.2
            · exact c (.inr (.inr (mz.mpr d)))
      · rw [if_neg hr]
        dsimp only
        rw [if_pos]
        refine .inr (.inr (.inl ⟨by simp, ?_⟩))
        cases r with
        | nil => exact absurd rfl hr
        | cons a r =>
          cases r with
          | nil => simp
          | cons a' r => simp
  · have hb : between l = l := by unfold between; rw [if_neg he]
    rw [hb, patLoop_run l.length (b.length + 1) l [] [] (Nat.le_refl _) (by omega)]
    cases hq : patBy (b.length + 1) l [] [] with
    | none => rfl
    | some q =>
      have hsuf := patBy_rest _ _ _ _ _ hq
      obtain ⟨x, vs, r⟩ := q
      show (match onlyEnd (some (x, vs, r)) with | none => none | some (x, vs) => _) = (if _ then none else _)
      unfold onlyEnd
      dsimp only at hsuf ⊢
      have mz : vs.foldl Nat.max 0 = 0 ↔ vs.all (fun v => v == 0) = true := by rw [max_zero]; simp
      have es : (r == [46]) = false := by
        cases e : (r == [46]) with
        | false => rfl
        | true =>
          have er : r = [46] := eq_of_beq e
          obtain ⟨t, ht⟩ := hsuf
          rw [er] at ht
          exact absurd (by unfold atEnd; rw [← ht]; simp) he
      rw [es]
      by_cases hr : r = []
      · subst hr
        rw [if_pos rfl]
        dsimp only
        by_cases c : x.length < 1 ∨ 6 < x.length ∨ vs.foldl Nat.max 0 = 0
        · rw [if_pos c, if_pos]
          rcases c with c | c | c
          · exact .inl c
          · exact .inr (.inl c)
          · exact .inr (.inr (.inr (mz.mp c)))
        · rw [if_neg c, if_neg]
          · rw [eq_false_of_ne_true he]; rfl
          · rintro (d | d | d | d)
            · exact c (.inl d)
            · exact c (.inr (.inl d))
            · exact d.1 rfl
            · exact c (.inr (.inr (mz.mpr d)))
      · rw [if_neg hr]
        dsimp only
        rw [if_pos]
        exact .inr (.inr (.inl ⟨hr, rfl⟩))

/-! ### what a pattern looks like -/
structure POk (p : Pat) : Prop where
  one : 1 ≤ p.x.length
  most : p.x.length ≤ 6
  lets : ∀ c ∈ p.x, isLetter c = true
  len : p.levels.length = p.x.length + 1
  nine : ∀ v ∈ p.levels, v ≤ 9
theorem patLoop_ok : ∀ (l x : Bytes) (vs : List Nat) (v : Nat) (q : Bytes × List Nat), patLoop l x vs v = some q → (∀ c ∈ x, isLetter c = true) → vs.length = x.length → (∀ u ∈ vs, u ≤ 9) → v ≤ 9 →
    (∀ c ∈ q.1, isLetter c = true) ∧ q.2.length = q.1.length + 1 ∧ ∀ u ∈ q.2, u ≤ 9
  | [], x, vs, v, q, h, h1, h2, h3, h4 => by
    cases h
    refine ⟨h1, by simp [h2], fun u hu => ?_⟩
    rcases List.mem_append.mp hu with hu | hu
    · exact h3 u hu
    · rw [List.mem_singleton] at hu
      rw [hu]; exact h4
  | c :: r, x, vs, v, q, h, h1, h2, h3, h4 => by
    unfold patLoop at h
    split at h
    · rename_i hl
      refine patLoop_ok r _ _ _ q h (fun d hd => ?_) (by simp [h2]) (fun u hu => ?_) (by decide)
      · rcases List.mem_append.mp hd with hd | hd
        · exact h1 d hd
        · rw [List.mem_singleton] at hd
          rw [hd]; exact hl
      · rcases List.mem_append.mp hu with hu | hu
        · exact h3 u hu
        · rw [List.mem_singleton] at hu
          rw [hu]; exact h4
    · split at h
      · rename_i ho
        have := one_nat.mp ho.1
        exact patLoop_ok r _ _ _ q h h1 h2 h3 (by omega)
      · cases h
theorem patOf_ok {b : Bytes} {p : Pat} (h : patOf b = some p) : POk p := by
  rw [← pyPat_eq] at h
  unfold pyPat at h
  split at h
  · cases h
  · rename_i x vs hq
    split at h
    · cases h
    · rename_i hc
      cases h
      have k := patLoop_ok _ _ _ _ _ hq (fun c z => by cases z) rfl (fun u z => by cases z) (by decide)
      exact ⟨by dsimp only; omega, by dsimp only; omega, k.1, k.2.1, k.2.2⟩
end Pw

/-! ## PwRead -/
namespace Pw
open VahypBase Vahypa

/-! ### reading words and patterns, one at a time -/
def readW (ws : List Word) (l : Toks) : Except Fault (Word × Toks) :=
  if ws.length = 24 then .error ⟨4, here l⟩ else (takeWord "word" l).bind fun l1 => (takeChunk l1).bind fun x => match wordOf x.2.1 with
    | none => .error ⟨7, x.1⟩
    | some w => if ws.any (fun v => v.x == w.x) = true then .error ⟨5, x.1⟩ else (takeSign 59 x.2.2).map fun m => (w, m)
def sameP (p q : Pat) : Bool := q.x == p.x && (q.front == p.front && q.halt_ == p.halt_)
def readP (ps : List Pat) (l : Toks) : Except Fault (Pat × Toks) :=
  if ps.length = 40 then .error ⟨4, here l⟩ else (takeWord "pattern" l).bind fun l1 => (takeChunk l1).bind fun x => match patOf x.2.1 with
    | none => .error ⟨7, x.1⟩
    | some p => if ps.any (sameP p) = true then .error ⟨5, x.1⟩ else (takeSign 59 x.2.2).map fun m => (p, m)

theorem taken_ok {t : Tok} {l m : Toks} (h : taken t l = .ok m) : next t l = true ∧ m = l.drop 1 := by
  unfold taken at h
  split at h
  · rename_i c
    cases h
    exact ⟨c, rfl⟩
  · cases h
theorem next_ne {t : Tok} {l : Toks} (h : next t l = true) : l ≠ [] := by
  intro e
  subst e
  cases h
theorem taken_less {t : Tok} {l m : Toks} (h : taken t l = .ok m) : m.length < l.length := by
  obtain ⟨h1, rfl⟩ := taken_ok h
  cases l with
  | nil => cases h1
  | cons a l => simp
theorem chunk_less {l : Toks} {x : Nat × Bytes × Toks} (h : takeChunk l = .ok x) : x.2.2.length < l.length := by
  unfold takeChunk at h
  split at h
  · cases h
    simp
  · cases h
theorem readW_less {ws : List Word} {l : Toks} {p : Word × Toks} (h : readW ws l = .ok p) : p.2.length < l.length := by
  unfold readW at h
  split at h
  · cases h
  · cases h1 : takeWord "word" l with
    | error e => rw [h1] at h; cases h
    | ok l1 =>
      rw [h1] at h
      have z1 := taken_less h1
      change (takeChunk l1).bind _ = _ at h
      cases h2 : takeChunk l1 with
      | error e => rw [h2] at h; cases h
      | ok x =>
        rw [h2] at h
        have z2 := chunk_less h2
        dsimp only [Except.bind] at h
        split at h
        · cases h
        · split at h
          · cases h
          · cases h3 : takeSign 59 x.2.2 with
            | error e => rw [h3] at h; cases h
            | ok m =>
              rw [h3] at h
              cases h
              have z3 := taken_less h3
              dsimp only
              omega
theorem readP_less {ps : List Pat} {l : Toks} {p : Pat × Toks} (h : readP ps l = .ok p) : p.2.length < l.length := by
  unfold readP at h
  split at h
  · cases h
  · cases h1 : takeWord "pattern" l with
    | error e => rw [h1] at h; cases h
    | ok l1 =>
      rw [h1] at h
      have z1 := taken_less h1
      change (takeChunk l1).bind _ = _ at h
      cases h2 : takeChunk l1 with
      | error e => rw [h2] at h; cases h
      | ok x =>
        rw [h2] at h
        have z2 := chunk_less h2
        dsimp only [Except.bind] at h
        split at h
        · cases h
        · split at h
          · cases h
          · cases h3 : takeSign 59 x.2.2 with
            | error e => rw [h3] at h; cases h
            | ok m =>
              rw [h3] at h
              cases h
              have z3 := taken_less h3
              dsimp only
              omega
theorem bind_map {ε α β γ : Type} (e : Except ε α) (f : α → β) (g : β → Except ε γ) : (e.map f).bind g = e.bind fun a => g (f a) := by
  cases e <;> rfl
theorem bind_bind {ε α β γ : Type} (e : Except ε α) (f : α → Except ε β) (g : β → Except ε γ) : (e.bind f).bind g = e.bind fun a => (f a).bind g := by
  cases e <;> rfl
theorem bind_congr {ε α β : Type} {e : Except ε α} {f g : α → Except ε β} (h : ∀ a, f a = g a) : e.bind f = e.bind g := by
  cases e with
  | error _ => rfl
  | ok a => exact h a
/-- one word more -/
theorem takeWords_step (n : Nat) (ws : List Word) (l : Toks) (hw : ws.length ≤ 24) :
    takeWords (n + 1) ws l = if nextWord "word" l = true then (readW ws l).bind fun p => takeWords n (ws ++ [p.1]) p.2 else .ok (ws, l) := by
  conv => lhs; unfold takeWords
  by_cases h : nextWord "word" l = true
  · rw [if_pos h, if_pos h]
    unfold readW
    by_cases hz : ws.length = 24
    · rw [if_pos hz]
      exact if_pos (by show 24 ≤ ws.length; omega)
    · rw [if_neg hz]
      have e0 : takeWord "word" l = .ok (l.drop 1) := by
        unfold takeWord taken
        exact if_pos h
      rw [e0]
      refine (if_neg (show ¬ 24 ≤ ws.length by omega)).trans ?_
      show _ = ((takeChunk (l.drop 1)).bind _).bind _
      rw [bind_bind]
      refine bind_congr fun x => ?_
      cases wordOf x.2.1 with
      | none => rfl
      | some w =>
        dsimp only
        split
        · rfl
        · rw [bind_map]
  · rw [if_neg h, if_neg h]
theorem takePats_step (n : Nat) (ps : List Pat) (l : Toks) (hp : ps.length ≤ 40) :
    takePats (n + 1) ps l = if next .last l = true then .ok ps else if nextWord "pattern" l = true then (readP ps l).bind fun p => takePats n (ps ++ [p.1]) p.2 else wrong l := by
  conv => lhs; unfold takePats
  by_cases h0 : next .last l = true
  · rw [if_pos h0, if_pos h0]
  · rw [if_neg h0, if_neg h0]
    by_cases h : nextWord "pattern" l = true
    · rw [if_pos h]
      have e0 : takeWord "pattern" l = .ok (l.drop 1) := by
        unfold takeWord taken
        exact if_pos h
      unfold readP
      rw [e0]
      by_cases hz : ps.length = 40
      · rw [if_pos hz]
        exact if_pos (by show 40 ≤ ps.length; omega)
      · rw [if_neg hz]
        refine (if_neg (show ¬ 40 ≤ ps.length by omega)).trans ?_
        show _ = ((takeChunk (l.drop 1)).bind _).bind _
        rw [bind_bind]
        refine bind_congr fun x => ?_
        cases patOf x.2.1 with
        | none => rfl
        | some p =>
          dsimp only
          split
          · rename_i c
            rw [if_pos (show ps.any (sameP p) = true from c)]
            rfl
          · rename_i c
            rw [if_neg (show ¬ ps.any (sameP p) = true from c), bind_map]
    · rw [if_neg h]
      have e0 : takeWord "pattern" l = wrong l := by
        unfold takeWord taken
        exact if_neg h
      rw [e0]
      rfl
theorem readW_room {ws : List Word} {l : Toks} {p : Word × Toks} (h : readW ws l = .ok p) (hw : ws.length ≤ 24) : ws.length < 24 := by
  unfold readW at h
  split at h
  · cases h
  · omega
theorem readP_room {ps : List Pat} {l : Toks} {p : Pat × Toks} (h : readP ps l = .ok p) (hp : ps.length ≤ 40) : ps.length < 40 := by
  unfold readP at h
  split at h
  · cases h
  · omega
theorem takeWords_fuel : ∀ (n m : Nat) (ws : List Word) (l : Toks), ws.length ≤ 24 → l.length < n → l.length < m → takeWords n ws l = takeWords m ws l
  | 0, _, _, _, _, h, _ => absurd h (Nat.not_lt_zero _)
  | _ + 1, 0, _, _, _, _, h => absurd h (Nat.not_lt_zero _)
  | n + 1, m + 1, ws, l, hw, hn, hm => by
    rw [takeWords_step n ws l hw, takeWords_step m ws l hw]
    split
    · cases h : readW ws l with
      | error e => rfl
      | ok p =>
        have z := readW_less h
        have r := readW_room h hw
        exact takeWords_fuel n m _ _ (by rw [List.length_append]; exact r) (by omega) (by omega)
    · rfl
theorem takePats_fuel : ∀ (n m : Nat) (ps : List Pat) (l : Toks), ps.length ≤ 40 → l.length < n → l.length < m → takePats n ps l = takePats m ps l
  | 0, _, _, _, _, h, _ => absurd h (Nat.not_lt_zero _)
  | _ + 1, 0, _, _, _, _, h => absurd h (Nat.not_lt_zero _)
  | n + 1, m + 1, ps, l, hp, hn, hm => by
    rw [takePats_step n ps l hp, takePats_step m ps l hp]
    split
    · rfl
    · split
      · cases h : readP ps l with
        | error e => rfl
        | ok p =>
          have z := readP_less h
          have r := readP_room h hp
          exact takePats_fuel n m _ _ (by rw [List.length_append]; exact r) (by omega) (by omega)
      · rfl
def wordsR (ws : List Word) (l : Toks) : Except Fault (List Word × Toks) := takeWords (l.length + 1) ws l
def patsR (ps : List Pat) (l : Toks) : Except Fault (List Pat) := takePats (l.length + 1) ps l
theorem wordsR_go {ws : List Word} {l : Toks} (hw : ws.length ≤ 24) (h : nextWord "word" l = true) : wordsR ws l = (readW ws l).bind fun p => wordsR (ws ++ [p.1]) p.2 := by
  unfold wordsR
  rw [takeWords_step _ _ _ hw, if_pos h]
  cases hr : readW ws l with
  | error e => rfl
  | ok p =>
    have z := readW_less hr
    have r := readW_room hr hw
    exact takeWords_fuel _ _ _ _ (by rw [List.length_append]; exact r) (by omega) (Nat.lt_succ_self _)
theorem wordsR_stop {ws : List Word} {l : Toks} (hw : ws.length ≤ 24) (h : ¬ nextWord "word" l = true) : wordsR ws l = .ok (ws, l) := by
  unfold wordsR
  rw [takeWords_step _ _ _ hw, if_neg h]
theorem patsR_go {ps : List Pat} {l : Toks} (hp : ps.length ≤ 40) (h0 : ¬ next .last l = true) (h : nextWord "pattern" l = true) : patsR ps l = (readP ps l).bind fun p => patsR (ps ++ [p.1]) p.2 := by
  unfold patsR
  rw [takePats_step _ _ _ hp, if_neg h0, if_pos h]
  cases hr : readP ps l with
  | error e => rfl
  | ok p =>
    have z := readP_less hr
    have r := readP_room hr hp
    exact takePats_fuel _ _ _ _ (by rw [List.length_append]; exact r) (by omega) (Nat.lt_succ_self _)
theorem patsR_stop {ps : List Pat} {l : Toks} (hp : ps.length ≤ 40) (h : ¬ nextWord "pattern" l = true) : patsR ps l = if next .last l = true then .ok ps else wrong l := by
  unfold patsR
  rw [takePats_step _ _ _ hp, if_neg h]
theorem read_eq (b : Bytes) : read b = (tokens b).bind fun l => (takeWord "margins" l).bind fun l => (takeMargin l).bind fun a => (takeMargin a.2).bind fun z => (takeSign 59 z.2).bind fun l => (wordsR [] l).bind fun ws => (takePats (l.length + 1) [] ws.2).map fun ps => ⟨a.1, z.1, ws.1, ps⟩ := rfl
theorem wordsR_less : ∀ (n : Nat) (ws : List Word) (l : Toks) (q : List Word × Toks), l.length ≤ n → ws.length ≤ 24 → wordsR ws l = .ok q → q.2.length ≤ l.length
  | 0, ws, l, q, hn, hw, h => by
    by_cases c : nextWord "word" l = true
    · rw [wordsR_go hw c] at h
      cases hr : readW ws l with
      | error e => rw [hr] at h; cases h
      | ok p =>
        have z := readW_less hr
        omega
    · rw [wordsR_stop hw c] at h
      cases h
      exact Nat.le_refl _
  | n + 1, ws, l, q, hn, hw, h => by
    by_cases c : nextWord "word" l = true
    · rw [wordsR_go hw c] at h
      cases hr : readW ws l with
      | error e => rw [hr] at h; cases h
      | ok p =>
        rw [hr] at h
        have z := readW_less hr
        have r := readW_room hr hw
        have ih := wordsR_less n _ _ q (by omega) (by rw [List.length_append]; exact r) (show wordsR (ws ++ [p.1]) p.2 = .ok q from h)
        omega
    · rw [wordsR_stop hw c] at h
      cases h
      exact Nat.le_refl _
theorem pats_enough {l m : Toks} {ps : List Pat} (h : m.length ≤ l.length) (hp : ps.length ≤ 40) : takePats (l.length + 1) ps m = patsR ps m := takePats_fuel _ _ _ _ hp (by omega) (Nat.lt_succ_self _)

/-! ### items -/
def itemR (l : Toks) : Option Vahypz.Item :=
  if nextWord "word" l = true then (match readW [] l with
    | .ok (w, m) => if next .last m = true then some (.word w) else none
    | .error _ => none)
  else (match readP [] l with
    | .ok (p, m) => if next .last m = true then some (.pat p) else none
    | .error _ => none)
theorem last_not_word {s : String} {l : Toks} (h : next .last l = true) : ¬ nextWord s l = true := by
  cases l with
  | nil => cases h
  | cons t r =>
    intro q
    change tokEq t.tok .last = true at h
    change tokEq t.tok (.chunk (word s)) = true at q
    cases e : t.tok with
    | chunk b => rw [e] at h; cases h
    | sign c => rw [e] at h; cases h
    | last => rw [e] at q; cases q
theorem readItem_eq (b : Bytes) : Vahypz.readItem b = match tokens b with
    | .error _ => none
    | .ok l => itemR l := by
  unfold Vahypz.readItem
  cases tokens b with
  | error e => rfl
  | ok l =>
    dsimp only
    unfold itemR
    by_cases h : nextWord "word" l = true
    · rw [if_pos h, if_pos h, takeWords_step 1 [] l (by decide), if_pos h]
      cases hr : readW [] l with
      | error e => rfl
      | ok p =>
        obtain ⟨w, m⟩ := p
        show (match takeWords 1 ([] ++ [w]) m with | .ok ([w], m) => _ | _ => none) = _
        rw [List.nil_append, takeWords_step 0 [w] m (by show 1 ≤ 24; decide)]
        by_cases c : nextWord "word" m = true
        · rw [if_pos c]
          have nl : ¬ next .last m = true := fun z => last_not_word z c
          dsimp only
          rw [if_neg nl]
          cases hr2 : readW [w] m with
          | error e => rfl
          | ok p2 => rfl
        · rw [if_neg c]
    · rw [if_neg h, if_neg h, takePats_step 1 [] l (by decide)]
      by_cases h0 : next .last l = true
      · rw [if_pos h0]
        have e : readP [] l = wrong l := by
          unfold readP
          have e0 : takeWord "pattern" l = wrong l := by
            unfold takeWord taken
            exact if_neg (last_not_word h0)
          rw [e0]
          rfl
        rw [e]
        rfl
      · rw [if_neg h0]
        by_cases hp : nextWord "pattern" l = true
        · rw [if_pos hp]
          cases hr : readP [] l with
          | error e => rfl
          | ok p =>
            obtain ⟨q, m⟩ := p
            show (match takePats 1 ([] ++ [q]) m with | .ok [p] => _ | _ => none) = _
            rw [List.nil_append, takePats_step 0 [q] m (by show 1 ≤ 40; decide)]
            by_cases c : next .last m = true
            · rw [if_pos c]
              dsimp only
              rw [if_pos c]
            · rw [if_neg c]
              dsimp only
              rw [if_neg c]
              split
              · rename_i heq
                split at heq
                · cases hr2 : readP [q] m with
                  | error e => rw [hr2] at heq; cases heq
                  | ok p2 => rw [hr2] at heq; cases heq
                · cases heq
              · rfl
        · rw [if_neg hp]
          have e : readP [] l = wrong l := by
            unfold readP
            have e0 : takeWord "pattern" l = wrong l := by
              unfold takeWord taken
              exact if_neg hp
            rw [e0]
            rfl
          rw [e]
          rfl
end Pw

/-! ## PwPart -/
namespace Pw
open VahypBase Vahypa

/-! ### a list as a table -/
def tab (n : Nat) (f : Nat → Nat) : List Nat := (List.range n).map f
theorem tab_length (n : Nat) (f : Nat → Nat) : (tab n f).length = n := by simp [tab]
theorem tab_get {n i : Nat} (f : Nat → Nat) (h : i < n) : (tab n f)[i]? = some (f i) := by
  unfold tab
  rw [List.getElem?_map, List.getElem?_range h]
  rfl
theorem tab_set {n i v : Nat} (f : Nat → Nat) : (tab n f).set i v = tab n (fun g => if g = i then v else f g) := by
  apply List.ext_getElem?
  intro j
  by_cases hj : j < n
  · rw [tab_get _ hj, List.getElem?_set]
    by_cases e : i = j
    · subst e
      rw [if_pos rfl, tab_length, if_pos hj, if_pos rfl]
    · rw [if_neg e, tab_get _ hj, if_neg (fun q => e q.symm)]
  · rw [List.getElem?_eq_none (by rw [List.length_set, tab_length]; omega), List.getElem?_eq_none (by rw [tab_length]; omega)]
theorem tab_congr {n : Nat} {f g : Nat → Nat} (h : ∀ i, i < n → f i = g i) : tab n f = tab n g := List.map_congr_left fun i hi => h i (List.mem_range.mp hi)

/-! ### levels -/
def fitsL (p : Pat) (x : Bytes) : List Nat := (List.range (x.length + 1 - p.x.length)).filter (fitsAt p x)
def lev (ps : List Pat) (x : Bytes) (g : Nat) : Nat := levelAt ps x g
def up (p : Pat) (x : Bytes) (g m o : Nat) : Nat := Nat.max m (tells p x o g)
theorem fits_small {p : Pat} {x : Bytes} {o : Nat} (h : fitsAt p x o = true) : o + p.x.length ≤ x.length := by
  unfold fitsAt at h
  rw [Bool.and_eq_true] at h
  exact of_decide_eq_true h.1
theorem tells_no {p : Pat} {x : Bytes} {o g : Nat} (h : ¬ fitsAt p x o = true) : tells p x o g = 0 := by
  unfold tells
  rw [if_neg (fun z => h z.1)]
theorem up_no {p : Pat} {x : Bytes} {o g m : Nat} (h : ¬ fitsAt p x o = true) : up p x g m o = m := by
  unfold up
  rw [tells_no h]
  exact Nat.max_zero m
theorem fold_filter {α : Type} (f : α → Nat → α) (p : Nat → Bool) : ∀ (l : List Nat) (m : α), (∀ m o, ¬ p o = true → f m o = m) → l.foldl f m = (l.filter p).foldl f m
  | [], _, _ => rfl
  | o :: l, m, h => by
    rw [List.foldl_cons, List.filter_cons]
    by_cases c : p o = true
    · rw [if_pos c, List.foldl_cons, fold_filter f p l _ h]
    · rw [if_neg c, h m o c, fold_filter f p l _ h]
theorem filter_range_more {p : Nat → Bool} {n : Nat} : ∀ (k : Nat), (∀ o, n ≤ o → ¬ p o = true) → (List.range (n + k)).filter p = (List.range n).filter p
  | 0, _ => rfl
  | k + 1, h => by
    rw [← Nat.add_assoc, List.range_succ, List.filter_append, filter_range_more k h, List.filter_cons, if_neg (h _ (Nat.le_add_right _ _))]
    simp
theorem fitsL_all (p : Pat) (x : Bytes) : (List.range (x.length + 1)).filter (fitsAt p x) = fitsL p x := by
  unfold fitsL
  have e : x.length + 1 = (x.length + 1 - p.x.length) + (x.length + 1 - (x.length + 1 - p.x.length)) := by omega
  conv => lhs; rw [e]
  refine filter_range_more _ fun o ho hf => ?_
  have := fits_small hf
  omega
theorem lev_step (ps : List Pat) (p : Pat) (x : Bytes) (g : Nat) : lev (ps ++ [p]) x g = (fitsL p x).foldl (up p x g) (lev ps x g) := by
  show levelAt (ps ++ [p]) x g = _
  unfold levelAt
  rw [List.foldl_append, List.foldl_cons, List.foldl_nil, ← fitsL_all]
  exact fold_filter (up p x g) (fitsAt p x) _ _ fun m o h => up_no h
/-- behind j digits of a pattern that fits at o -/
def upTo (p : Pat) (o j : Nat) (f : Nat → Nat) (g : Nat) : Nat := if o ≤ g ∧ g < o + j then Nat.max (f g) (p.levels[g - o]?.getD 0) else f g
theorem upTo_zero (p : Pat) (o : Nat) (f : Nat → Nat) (g : Nat) : upTo p o 0 f g = f g := by
  unfold upTo
  rw [if_neg (by omega)]
theorem upTo_step {p : Pat} {o j n d : Nat} (f : Nat → Nat) (hd : p.levels[j]? = some d) : (tab n (upTo p o j f)).set (o + j) (Nat.max (upTo p o j f (o + j)) d) = tab n (upTo p o (j + 1) f) := by
  rw [tab_set]
  refine tab_congr fun g _ => ?_
  by_cases e : g = o + j
  · subst e
    rw [if_pos rfl]
    unfold upTo
    rw [if_neg (by omega), if_pos (by omega)]
    have : o + j - o = j := by omega
    rw [this, hd]
    rfl
  · rw [if_neg e]
    unfold upTo
    by_cases c : o ≤ g ∧ g < o + j
    · rw [if_pos c, if_pos (by omega)]
    · rw [if_neg c, if_neg (by omega)]
theorem upTo_end {p : Pat} {x : Bytes} {o : Nat} (hf : fitsAt p x o = true) (f : Nat → Nat) (g : Nat) : upTo p o p.levels.length f g = up p x g (f g) o := by
  unfold upTo up tells
  by_cases c : o ≤ g ∧ g < o + p.levels.length
  · rw [if_pos c, if_pos ⟨hf, c.1⟩]
  · rw [if_neg c]
    by_cases c2 : o ≤ g
    · rw [if_pos ⟨hf, c2⟩, List.getElem?_eq_none (by omega)]
      exact (Nat.max_zero _).symm
    · rw [if_neg (fun z => c2 z.2)]
      exact (Nat.max_zero _).symm
/-- all levels of letters, from gap 0 on -/
def lvl (ps : List Pat) (x : Bytes) : List Nat := tab (x.length + 1) (lev ps x)
theorem lvl_nil (x : Bytes) : lvl [] x = List.replicate (x.length + 1) 0 := by
  unfold lvl tab lev levelAt
  apply List.ext_getElem?
  intro j
  rw [List.getElem?_map, List.getElem?_replicate]
  by_cases h : j < x.length + 1
  · rw [List.getElem?_range h, if_pos h]; rfl
  · rw [if_neg h, List.getElem?_eq_none (by simpa using h)]; rfl
def midF (ps : List Pat) (p : Pat) (x : Bytes) (k : Nat) (g : Nat) : Nat := ((fitsL p x).take k).foldl (up p x g) (lev ps x g)
theorem midF_zero (ps : List Pat) (p : Pat) (x : Bytes) (g : Nat) : midF ps p x 0 g = lev ps x g := rfl
theorem midF_step {ps : List Pat} {p : Pat} {x : Bytes} {k o : Nat} (h : (fitsL p x)[k]? = some o) (g : Nat) : midF ps p x (k + 1) g = upTo p o p.levels.length (midF ps p x k) g := by
  have hf : fitsAt p x o = true := by
    have := List.mem_of_getElem? h
    exact (List.mem_filter.mp this).2
  rw [upTo_end hf]
  unfold midF
  rw [List.take_add_one, h]
  simp
theorem midF_end (ps : List Pat) (p : Pat) (x : Bytes) (g : Nat) : midF ps p x (fitsL p x).length g = lev (ps ++ [p]) x g := by
  unfold midF
  rw [List.take_length, lev_step]

/-! ### gaps and parts -/
theorem gaps_eq (x : Bytes) : gaps x = (List.range (x.length - 1)).map fun k => k + 1 := rfl
theorem gaps_get {x : Bytes} {i : Nat} (h : i < x.length - 1) : (gaps x)[i]? = some (i + 1) := by
  rw [gaps_eq, List.getElem?_map, List.getElem?_range h]; rfl
theorem gaps_length (x : Bytes) : (gaps x).length = x.length - 1 := by rw [gaps_eq]; simp
theorem mem_gaps {x : Bytes} {g : Nat} : g ∈ gaps x ↔ 1 ≤ g ∧ g < x.length := by
  rw [gaps_eq, List.mem_map]
  constructor
  · rintro ⟨k, hk, rfl⟩
    have := List.mem_range.mp hk
    omega
  · rintro ⟨h1, h2⟩
    exact ⟨g - 1, List.mem_range.mpr (by omega), by omega⟩
def inMargins (l r : Nat) (x : Bytes) (g : Nat) : Bool := decide (l ≤ g ∧ g + r ≤ x.length)
def gapsW (l r : Nat) (x : Bytes) : List Nat := (gaps x).filter (inMargins l r x)
theorem parts_eq (s : Lst) (x : Bytes) : (gapsW s.l s.r x).filter (fun g => levelAt s.pats x g % 2 == 1) = parts s x := by
  unfold gapsW parts partsBy
  rw [List.filter_filter]
  rfl
theorem mem_gapsW {l r : Nat} {x : Bytes} {g : Nat} (h : g ∈ gapsW l r x) : 1 ≤ g ∧ g < x.length := mem_gaps.mp (List.mem_filter.mp h).1
theorem mem_parts {s : Lst} {x : Bytes} {g : Nat} (h : g ∈ parts s x) : 1 ≤ g ∧ g < x.length := by
  unfold parts partsBy at h
  exact mem_gaps.mp (List.mem_filter.mp h).1
theorem gapsW_le (l r : Nat) (x : Bytes) : (gapsW l r x).length ≤ x.length := by
  have h := List.length_filter_le (inMargins l r x) (gaps x)
  rw [gaps_length] at h
  unfold gapsW
  omega
theorem parts_le (s : Lst) (x : Bytes) : (parts s x).length ≤ x.length := by
  have h := List.length_filter_le (fun g => levelAt s.pats x g % 2 == 1) (gapsW s.l s.r x)
  rw [parts_eq] at h
  have := gapsW_le s.l s.r x
  omega

/-! ### a word held against the list -/
theorem filter_not_length {α : Type} (p : α → Bool) : ∀ l : List α, (l.filter p).length + (l.filter fun a => !p a).length = l.length
  | [] => rfl
  | a :: l => by
    rw [List.filter_cons, List.filter_cons]
    have ih := filter_not_length p l
    cases p a <;> simp <;> omega
theorem sorted_sub : ∀ (n k : Nat) (cs : List Nat), cs.Pairwise (· < ·) → (∀ g ∈ cs, k ≤ g ∧ g < k + n) → ((List.range' k n).filter fun g => cs.contains g) = cs
  | 0, k, cs, _, h => by
    cases cs with
    | nil => rfl
    | cons c r => have := h c List.mem_cons_self; omega
  | n + 1, k, cs, hs, h => by
    rw [List.range'_succ, List.filter_cons]
    cases cs with
    | nil =>
      have ih := sorted_sub n (k + 1) [] List.Pairwise.nil (fun g z => by cases z)
      rw [if_neg (by simp)]
      exact ih
    | cons c r =>
      have hc := h c List.mem_cons_self
      rw [List.pairwise_cons] at hs
      by_cases e : c = k
      · subst e
        rw [if_pos (by simp)]
        have ih := sorted_sub n (c + 1) r hs.2 (fun g hg => by
          have q := hs.1 g hg
          have q2 := h g (List.mem_cons_of_mem _ hg)
          omega)
        have e2 : (List.range' (c + 1) n).filter (fun g => (c :: r).contains g) = (List.range' (c + 1) n).filter (fun g => r.contains g) := by
          apply List.filter_congr
          intro g hg
          have hg' : c + 1 ≤ g := by
            rw [List.mem_range'_1] at hg
            exact hg.1
          rw [List.contains_cons]
          have : (g == c) = false := by simp; omega
          rw [this, Bool.false_or]
        rw [e2, ih]
      · have hk : (c :: r).contains k = false := by
          cases q : (c :: r).contains k with
          | false => rfl
          | true =>
            have hm : k ∈ c :: r := by simpa using q
            rcases List.mem_cons.mp hm with z | z
            · exact absurd z.symm e
            · have := hs.1 k z
              omega
        rw [if_neg (by rw [hk]; exact Bool.false_ne_true)]
        exact sorted_sub n (k + 1) (c :: r) (List.pairwise_cons.mpr hs) (fun g hg => by
          have q2 := h g hg
          have : g ≠ k := fun z => by
            subst z
            rw [show (c :: r).contains g = true by simpa using hg] at hk
            cases hk
          omega)
theorem gaps_range' (x : Bytes) : gaps x = List.range' 1 (x.length - 1) := by
  rw [gaps_eq, List.range_eq_range']
  apply List.ext_getElem?
  intro j
  rw [List.getElem?_map]
  by_cases h : j < x.length - 1
  · rw [List.getElem?_range' h, List.getElem?_range' h]
    simp
    omega
  · rw [List.getElem?_eq_none (by simpa using h), List.getElem?_eq_none (by simpa using h)]
    rfl
theorem cuts_eq {w : Word} (h : WOk w) : ((gaps w.x).filter fun g => w.cuts.contains g) = w.cuts := by
  rw [gaps_range']
  exact sorted_sub _ _ _ h.cut fun g hg => by
    have := h.in_ g hg
    have := h.two
    omega
def hitsP (s : Lst) (w : Word) : List Nat := (parts s w.x).filter fun g => w.cuts.contains g
def missP (s : Lst) (w : Word) : List Nat := (gapsW s.l s.r w.x).filter fun g => w.cuts.contains g && !(parts s w.x).contains g
theorem miss_eq {s : Lst} {w : Word} (h : WOk w) : (missP s w).length = (scoreWord s w).misses := by
  have e : missP s w = w.cuts.filter fun g => within s w.x g && !(parts s w.x).contains g := by
    unfold missP gapsW
    conv => rhs; rw [← cuts_eq h]
    rw [List.filter_filter, List.filter_filter]
    apply List.filter_congr
    intro g _
    show _ = (within s w.x g && _ && _)
    have : inMargins s.l s.r w.x g = within s w.x g := rfl
    rw [this]
    cases within s w.x g <;> cases w.cuts.contains g <;> cases (parts s w.x).contains g <;> rfl
  rw [e]
  rfl
theorem hits_eq (s : Lst) (w : Word) : (hitsP s w).length = (scoreWord s w).hits := rfl
theorem faults_eq (s : Lst) (w : Word) : (parts s w.x).length - (hitsP s w).length = (scoreWord s w).faults := by
  have := filter_not_length (fun g => w.cuts.contains g) (parts s w.x)
  show (parts s w.x).length - ((parts s w.x).filter fun g => w.cuts.contains g).length = ((parts s w.x).filter fun g => !w.cuts.contains g).length
  omega
theorem hits_le (s : Lst) (w : Word) : (hitsP s w).length ≤ (parts s w.x).length := List.length_filter_le _ _

/-! ### what a list looks like -/
structure LOk (s : Lst) : Prop where
  l5 : s.l ≤ 5
  r5 : s.r ≤ 5
  wmost : s.words.length ≤ 24
  pmost : s.pats.length ≤ 40
  ws : ∀ w ∈ s.words, WOk w
  ps : ∀ p ∈ s.pats, POk p
end Pw

/-! ## PwExc -/
/-! Own errors over Exception whose __init__ says Exception.__init__(self), and classes over these whose __init__ says Refusal.__init__(self, n): made, at the library's level. -/
namespace PwX
open PySem PySem.W PySem.Calls PyProof.Rows PySem.HandSPX

/-- the i-th statement of the text -/
abbrev topS (i : Nat) : Stmt := PySem.Challenge.pw_partedwordsdesk_s01_answers.main.body.getD i (.Pass ⟨0, 0, 0, 0⟩)
abbrev exB : List Value := [.type "Exception", .type "BaseException", .type "object"]

/-- what the written part says of an own error's class at C, its __init__ at fI -/
structure ExcC (K : Frag) (C fI : Addr) : Prop where
  cls : ∃ nm q N bs bm sn sub ab col dd k0 k1 k2 k3 k5, K.lookup C = some (excClassObj nm q C N bs bm true sn sub ab col dd k0 k1 k2 k3 k5 "Exception.__new__") ∧ excTail exB bm = true
  sa : findIn K (.ref C) "__setattr__" = some (some (.builtin "object.__setattr__"))
  ga : findIn K (.ref C) "__getattribute__" = some (some (.builtin "BaseException.__getattribute__"))
  gg : findIn K (.ref C) "__getattr__" = some none
  nc : findIn K (.ref C) "code" = some none
  np : findIn K (.ref C) "place" = some none
  iC : findIn K (.ref C) "__init__" = some (some (.ref fI))
  tC : typeIn K (.ref fI) = some (.type "function")
  kC : keepIn K (.ref C) = true
  exC : subIn K (.ref C) (.type "BaseException") = some true
  tyC : typeIn K (.ref C) = some (.type "type")
  hdC : hasDictIn K C = true

section
variable {prog : Program} {w : World} {M : Model} {A : Around} {E : Value → Shared → Prop} {R : Result → Shared → Prop} {K : Frag} {C fI : Addr}
theorem ExcC.clsIn (T : ExcC K C fI) : ∃ cd bm, W.clsIn K C = some cd ∧ cd.mro = .ref C :: bm ∧ excTail exB bm = true ∧ cd.hasDict = true := by
  obtain ⟨nm, q, N, bs, bm, sn, sub, ab, col, dd, k0, k1, k2, k3, k5, hC, hbm⟩ := T.cls
  exact ⟨_, bm, by unfold W.clsIn; rw [hC] <;> rfl, rfl, hbm, rfl⟩
theorem ExcC.over (T : ExcC K C fI) : excOver K C exB = true := by
  obtain ⟨cd, bm, h1, h2, h3, h4⟩ := T.clsIn
  unfold excOver
  rw [h1]
  show (match cd.mro with | .ref C' :: bm => C' == C && excTail exB bm | _ => false) = true
  rw [h2]
  show (C == C && excTail exB bm) = true
  rw [h3, beq_self_eq_true]
  rfl
section
variable {hp : Heap} {g : Array GenState} {d : Drawn} {t : Nat} {os : OsState}
open Builtin Builtin.ObjectAttr
/-- self.name = v, no field yet -/
theorem osa_first {name : Str} {tk : Tok} {v : Value} {x t0 : Addr} (T : ExcC K C fI) (X : K.In hp) (hx : hp.get? x = some (excO C t0)) (hn : findIn K (.ref C) name = some none)
    (hq : ∀ h' tk' dx, (∀ b o, b ≠ x → hp.get? b = some o → h'.get? b = some o) → hp.objs.size ≤ dx → dx ≠ x → h'.get? x = some { excO C t0 with dict := some dx } →
      h'.Ns1 dx (fun y => if y = name then some v else none) → R (.ok (.ret .none)) ⟨h', g, d, tk', os⟩) :
    codeAny (model prog w) A (.call (.builtin "object.__setattr__") ⟨[.ref x, .str name tk, v], []⟩) R ⟨hp, g, d, t, os⟩ := by
  have I : W.InstAt hp x (excO C t0) C none := ⟨hx, rfl, rfl, trivial⟩
  obtain ⟨cd, bm, h1, h2, h3, h4⟩ := T.clsIn
  have hxs : x ≠ hp.objs.size := Nat.ne_of_lt (Heap.lt_size hx)
  have hcls : W.Looks (model prog w) hp (classData C) cd := W.looks_clsIn X h1
  refine osa_openX (s := ⟨hp, g, d, t, os⟩) (r := none) F.store_Exception X I T.over (L2.NoAttr.taker hn) fun b => ?_
  show wpAny _ _ (storeInOwnDict (.ref x) (.ref C) (.str name tk) name v b) _ _ _
  obtain ⟨nm, bs, mro, ns, qn, hd, sn, sb, ab, col, del⟩ := cd
  dsimp only at h4
  subst h4
  unfold storeInOwnDict ownDictForStores
  repeat (first | with_reducible refine HandSPX.store_in_new ?_ ?_ | with_reducible refine wpAny_loadPart_at hx ?_ | with_reducible refine hcls.at ?_ | wp_step)
  · refine ⟨_, #[], _, (Heap.get?_update_ne _ _ _ _ hxs.symm).trans (Heap.get?_push_at rfl rfl), rfl, fun e he => absurd he (by simp), fun _ => rfl⟩
  · intro h' tk' hn' hs
    have hx₁ : (hp.push { cls := .type "dict", data := .dict #[] }).get? x = some (excO C t0) := Heap.get?_push_of_some _ hx
    refine hq h' tk' hp.objs.size (fun b o hb ho => ?_) (Nat.le_refl _) hxs.symm ?_ hn'
    · exact (hs.2 b (Nat.ne_of_lt (Heap.lt_size ho))).trans ((Heap.get?_update_ne _ _ _ _ hb).trans (Heap.get?_push_of_some _ ho))
    · exact (hs.2 x hxs).trans (Heap.get?_update_self _ hx₁ rfl)
/-- self.name = v, a further field -/
theorem osa_next {name : Str} {tk : Tok} {v : Value} {x t0 dx : Addr} {m0 : Str → Option Value} {nl : List Str} (T : ExcC K C fI) (X : K.In hp) (hx : hp.get? x = some { excO C t0 with dict := some dx }) (hns : hp.Ns1 dx m0) (hw : Within m0 nl) (hz : nl.length ≤ 1000)
    (hn : findIn K (.ref C) name = some none)
    (hq : ∀ h' tk', (∀ b o, b ≠ dx → hp.get? b = some o → h'.get? b = some o) → h'.Ns1 dx (fun y => if y = name then some v else m0 y) → R (.ok (.ret .none)) ⟨h', g, d, tk', os⟩) :
    codeAny (model prog w) A (.call (.builtin "object.__setattr__") ⟨[.ref x, .str name tk, v], []⟩) R ⟨hp, g, d, t, os⟩ := by
  obtain ⟨oD, esD, epD, hoD, hdD, _⟩ := hns.count hw
  have I : W.InstAt hp x { excO C t0 with dict := some dx } C (some oD) := ⟨hx, rfl, rfl, hoD⟩
  obtain ⟨cd, bm, h1, h2, h3, h4⟩ := T.clsIn
  have hcls : W.Looks (model prog w) hp (classData C) cd := W.looks_clsIn X h1
  refine osa_openX (s := ⟨hp, g, d, t, os⟩) (r := none) F.store_Exception X I T.over (L2.NoAttr.taker hn) fun b => ?_
  show wpAny _ _ (storeInOwnDict (.ref x) (.ref C) (.str name tk) name v b) _ _ _
  obtain ⟨nm, bs, mro, ns, qn, hd, sn, sb, ab, col, del⟩ := cd
  dsimp only at h4
  subst h4
  unfold storeInOwnDict ownDictForStores
  repeat (first | with_reducible refine PySem.PX.store_in_old hns hw hz ?_ | with_reducible refine wpAny_loadPart_at hx ?_ | with_reducible refine hcls.at ?_ | wp_step)
  intro h' tk' hn' hs
  exact hq h' tk' (fun b o hb ho => (hs.2 b hb).trans ho) hn'
end
end
end PwX

/-! ## HEAD -/
namespace PwX
open PySem PySem.W PySem.Calls PyProof.Rows PySem.HandSPX L2
abbrev s_is_blank : Stmt := topS 20
abbrev s_is_small_letter : Stmt := topS 21
abbrev s_is_digit : Stmt := topS 22
abbrev s_is_hyphen : Stmt := topS 23
abbrev s_is_point : Stmt := topS 24
abbrev s_is_of_chunk : Stmt := topS 25
abbrev s_sign_of : Stmt := topS 26
abbrev s_signs_of : Stmt := topS 27
abbrev s_bytes_of : Stmt := topS 28
abbrev s_word_of : Stmt := topS 39
abbrev s_pattern_of : Stmt := topS 40
abbrev s_same_pattern : Stmt := topS 41
abbrev s_number_of_word : Stmt := topS 42
abbrev s_number_of_pattern : Stmt := topS 43
abbrev s_remark_end : Stmt := topS 49
abbrev s_chunk_end : Stmt := topS 50
abbrev s_tokens_of : Stmt := topS 51
abbrev s_read_margin : Stmt := topS 56
abbrev s_read_word : Stmt := topS 57
abbrev s_read_pattern : Stmt := topS 58
abbrev s_list_of : Stmt := topS 59
abbrev s_item_of : Stmt := topS 60
abbrev s_written_word : Stmt := topS 62
abbrev s_written_pattern : Stmt := topS 63
abbrev s_one_form : Stmt := topS 64
abbrev s_fits_at : Stmt := topS 66
abbrev s_fitting_places : Stmt := topS 67
abbrev s_levels_of : Stmt := topS 68
abbrev s_gaps_within : Stmt := topS 69
abbrev s_parted_gaps : Stmt := topS 70
abbrev s_standing_of : Stmt := topS 74
abbrev s_standings : Stmt := topS 75
abbrev s_with_margins : Stmt := topS 76
abbrev s_margins_tried : Stmt := topS 77
abbrev s_with_words : Stmt := topS 79
abbrev s_with_patterns : Stmt := topS 80
abbrev s_replaced_or_added : Stmt := topS 81
abbrev s_with_item : Stmt := topS 82
abbrev s_without_word : Stmt := topS 83
abbrev s_without_pattern : Stmt := topS 84
abbrev s_is_touched : Stmt := topS 85
abbrev s_touched_words : Stmt := topS 86
abbrev s_partings : Stmt := topS 87
abbrev s_needless_patterns : Stmt := topS 88
abbrev s_slim_once : Stmt := topS 89
abbrev s_made_slim : Stmt := topS 90
abbrev s_joints_of : Stmt := topS 92
abbrev s_parted_as_two : Stmt := topS 93
abbrev s_break_of : Stmt := topS 94
abbrev s_letters_of : Stmt := topS 99
abbrev s_check_number : Stmt := topS 100
abbrev s_answer_to : Stmt := topS 113
abbrev s_answers : Stmt := topS 114
abbrev s_Refusal_init : Stmt := inClass (topS 1) 0
abbrev s_NoList_init : Stmt := inClass (topS 2) 0
abbrev s_NoSuchNumber_init : Stmt := inClass (topS 3) 0
abbrev s_NoSuchLine_init : Stmt := inClass (topS 4) 0
abbrev s_NotAsTold_init : Stmt := inClass (topS 5) 0
abbrev s_TooMany_init : Stmt := inClass (topS 6) 0
abbrev s_Fault_init : Stmt := inClass (topS 7) 0
abbrev s_Word_init : Stmt := inClass (topS 36) 0
abbrev s_Pattern_init : Stmt := inClass (topS 37) 0
abbrev s_WordList_init : Stmt := inClass (topS 38) 0
abbrev s_Token_init : Stmt := inClass (topS 48) 0
abbrev s_Token_is_chunk : Stmt := inClass (topS 48) 1
abbrev s_TextReader_init : Stmt := inClass (topS 55) 0
abbrev s_TextReader_token : Stmt := inClass (topS 55) 1
abbrev s_TextReader_stands : Stmt := inClass (topS 55) 2
abbrev s_TextReader_skip : Stmt := inClass (topS 55) 3
abbrev s_TextReader_take : Stmt := inClass (topS 55) 4
abbrev s_TextReader_take_end : Stmt := inClass (topS 55) 5
abbrev s_TextReader_chunk : Stmt := inClass (topS 55) 6
abbrev s_Standing_init : Stmt := inClass (topS 73) 0
abbrev s_Standing_is_exact : Stmt := inClass (topS 73) 1
abbrev s_Desk_init : Stmt := inClass (topS 101) 0
abbrev s_Desk_held_list : Stmt := inClass (topS 101) 1
abbrev s_Desk_load : Stmt := inClass (topS 101) 2
abbrev s_Desk_shown : Stmt := inClass (topS 101) 3
abbrev s_Desk_report : Stmt := inClass (topS 101) 4
abbrev s_Desk_margins : Stmt := inClass (topS 101) 5
abbrev s_Desk_change : Stmt := inClass (topS 101) 6
abbrev s_Desk_put : Stmt := inClass (topS 101) 7
abbrev s_Desk_drop : Stmt := inClass (topS 101) 8
abbrev s_Desk_needless : Stmt := inClass (topS 101) 9
abbrev s_Desk_slim : Stmt := inClass (topS 101) 10
abbrev s_Desk_joint : Stmt := inClass (topS 101) 11
abbrev s_Desk_break_line : Stmt := inClass (topS 101) 12
abbrev s_CallReader_init : Stmt := inClass (topS 112) 0
abbrev s_CallReader_is_done : Stmt := inClass (topS 112) 1
abbrev s_CallReader_number : Stmt := inClass (topS 112) 2
abbrev s_CallReader_row : Stmt := inClass (topS 112) 3
end PwX
namespace PwX
open PySem PySem.W PySem.Calls PyProof.Rows L2 HeadRun
abbrev P : Program := PySem.Challenge.rw_partedwordsdesk_s01_answers.prog
abbrev qv : Program := view P [114]
def nm0 : List PySem.Str := ["Refusal", "NoList", "NoSuchNumber", "NoSuchLine", "NotAsTold", "TooMany", "Fault", "TEXT_TOO_LONG", "NO_TOKEN", "NOT_ALLOWED_HERE", "ONE_TOO_MANY", "TOLD_BEFORE", "CHUNK_NOT_AS_TOLD", "LINE_END", "REMARK", "SEMICOLON", "SMALL_LETTERS", "DIGITS", "is_blank", "is_small_letter", "is_digit", "is_hyphen", "is_point", "is_of_chunk", "sign_of", "signs_of", "bytes_of", "FEWEST_LETTERS_OF_WORD", "MOST_LETTERS_OF_WORD", "MOST_LETTERS_OF_PATTERN"]
def nm1 : List PySem.Str := ["PATTERN_DIGITS", "MOST_WORDS", "MOST_PATTERNS", "Word", "Pattern", "WordList", "word_of", "pattern_of", "same_pattern", "number_of_word", "number_of_pattern", "LONGEST_CHUNK", "TEXT_END", "LINE_SIGN", "Token", "remark_end", "chunk_end", "tokens_of", "LONGEST_TEXT", "MARGINS_list_texts", "TextReader", "read_margin", "read_word", "read_pattern", "list_of", "item_of", "written_word", "written_pattern", "one_form", "fits_at"]
def nm2 : List PySem.Str := ["fitting_places", "levels_of", "gaps_within", "parted_gaps", "GREATEST_MARGIN", "Standing", "standing_of", "standings", "with_margins", "margins_tried", "with_words", "with_patterns", "replaced_or_added", "with_item", "without_word", "without_pattern", "is_touched", "touched_words", "partings", "needless_patterns", "slim_once", "made_slim", "joints_of", "parted_as_two", "break_of", "A_WORD", "A_PATTERN", "MOST_PLACES", "letters_of", "check_number"]
def nm3 : List PySem.Str := ["Desk", "LOAD", "SHOWN", "REPORT", "MARGINS_patterns", "PUT", "DROP", "NEEDLESS", "SLIM", "JOINT", "CallReader", "answer_to"]
def names : List PySem.Str := nm0 ++ nm1 ++ nm2 ++ nm3

def fa0 : List He.Fa := [.free "len", .free "all", .free "ord", .free "str", .free "int", .free "list", .free "max", .free "sum", .free "range", .free "enumerate", .free "isinstance", .free "Exception", .int "TEXT_TOO_LONG" 1, .int "NO_TOKEN" 2, .int "NOT_ALLOWED_HERE" 3, .int "ONE_TOO_MANY" 4, .int "TOLD_BEFORE" 5, .int "CHUNK_NOT_AS_TOLD" 7, .int "LINE_END" 10, .int "REMARK" 35, .int "SEMICOLON" 59, .str "SMALL_LETTERS" "abcdefghijklmnopqrstuvwxyz", .str "DIGITS" "0123456789", .int "FEWEST_LETTERS_OF_WORD" 2, .int "MOST_LETTERS_OF_WORD" 16, .int "MOST_LETTERS_OF_PATTERN" 6, .str "PATTERN_DIGITS" "123456789", .int "MOST_WORDS" 24, .int "MOST_PATTERNS" 40, .int "LONGEST_CHUNK" 40]
def fa1 : List He.Fa := [.str "TEXT_END" "", .str "LINE_SIGN" ";", .int "LONGEST_TEXT" 4096, .int "GREATEST_MARGIN" 5, .int "A_WORD" 0, .int "A_PATTERN" 1, .int "MOST_PLACES" 100, .int "LOAD" 0, .int "SHOWN" 1, .int "REPORT" 2, .int "MARGINS_patterns" 3, .int "PUT" 4, .int "DROP" 5, .int "NEEDLESS" 6, .int "SLIM" 7, .int "JOINT" 8, .glo "Refusal", .meth "Refusal" "__init__", .glo "NoList", .meth "NoList" "__init__", .glo "NoSuchNumber", .meth "NoSuchNumber" "__init__", .glo "NoSuchLine", .meth "NoSuchLine" "__init__", .glo "NotAsTold", .meth "NotAsTold" "__init__", .glo "TooMany", .meth "TooMany" "__init__", .glo "Fault", .meth "Fault" "__init__"]
def fa2 : List He.Fa := [.glo "Word", .cls "Word", .noat "Word" "letters", .noat "Word" "gaps", .meth "Word" "__init__", .mkr "Word", .glo "Pattern", .cls "Pattern", .noat "Pattern" "letters", .noat "Pattern" "at_front", .noat "Pattern" "at_end", .noat "Pattern" "digits", .meth "Pattern" "__init__", .mkr "Pattern", .glo "WordList", .cls "WordList", .noat "WordList" "left_margin", .noat "WordList" "right_margin", .noat "WordList" "words", .noat "WordList" "patterns", .meth "WordList" "__init__", .mkr "WordList", .glo "Token", .cls "Token", .noat "Token" "signs", .noat "Token" "place", .meth "Token" "__init__", .meth "Token" "is_chunk", .mkr "Token", .glo "TextReader"]
def fa3 : List He.Fa := [.cls "TextReader", .noat "TextReader" "tokens", .noat "TextReader" "at", .meth "TextReader" "__init__", .meth "TextReader" "token", .meth "TextReader" "stands", .meth "TextReader" "skip", .meth "TextReader" "take", .meth "TextReader" "take_end", .meth "TextReader" "chunk", .mkr "TextReader", .glo "Standing", .cls "Standing", .noat "Standing" "hits", .noat "Standing" "faults", .noat "Standing" "misses", .meth "Standing" "__init__", .meth "Standing" "is_exact", .mkr "Standing", .glo "Desk", .cls "Desk", .noat "Desk" "held", .meth "Desk" "__init__", .meth "Desk" "held_list", .meth "Desk" "load", .meth "Desk" "shown", .meth "Desk" "report", .meth "Desk" "margins", .meth "Desk" "change", .meth "Desk" "put"]
def fa4 : List He.Fa := [.meth "Desk" "drop", .meth "Desk" "needless", .meth "Desk" "slim", .meth "Desk" "joint", .meth "Desk" "break_line", .mkr "Desk", .glo "CallReader", .cls "CallReader", .noat "CallReader" "calls", .noat "CallReader" "at", .meth "CallReader" "__init__", .meth "CallReader" "is_done", .meth "CallReader" "number", .meth "CallReader" "row", .mkr "CallReader", .glo "is_blank", .glo "is_small_letter", .glo "is_digit", .glo "is_hyphen", .glo "is_point", .glo "is_of_chunk", .glo "sign_of", .glo "signs_of", .glo "bytes_of", .glo "word_of", .glo "pattern_of", .glo "same_pattern", .glo "number_of_word", .glo "number_of_pattern", .glo "remark_end"]
def fa5 : List He.Fa := [.glo "chunk_end", .glo "tokens_of", .glo "read_margin", .glo "read_word", .glo "read_pattern", .glo "list_of", .glo "item_of", .glo "written_word", .glo "written_pattern", .glo "one_form", .glo "fits_at", .glo "fitting_places", .glo "levels_of", .glo "gaps_within", .glo "parted_gaps", .glo "standing_of", .glo "standings", .glo "with_margins", .glo "margins_tried", .glo "with_words", .glo "with_patterns", .glo "replaced_or_added", .glo "with_item", .glo "without_word", .glo "without_pattern", .glo "is_touched", .glo "touched_words", .glo "partings", .glo "needless_patterns", .glo "slim_once"]
def fa6 : List He.Fa := [.glo "made_slim", .glo "joints_of", .glo "parted_as_two", .glo "break_of", .glo "letters_of", .glo "check_number", .glo "answer_to", .glo "answers", .exm "NoList" "Refusal" true, .exm "NoSuchNumber" "Refusal" true, .exm "NoSuchLine" "Refusal" true, .exm "NotAsTold" "Refusal" true, .exm "TooMany" "Refusal" true, .exm "Fault" "Fault" true]
def fa : List He.Fa := fa0 ++ fa1 ++ fa2 ++ fa3 ++ fa4 ++ fa5 ++ fa6
def fn0 : List He.DefD := [⟨("Refusal", some "__init__"), "__init__", "Refusal.__init__", defArgs s_Refusal_init, defBody s_Refusal_init, defScope s_Refusal_init, [], []⟩, ⟨("NoList", some "__init__"), "__init__", "NoList.__init__", defArgs s_NoList_init, defBody s_NoList_init, defScope s_NoList_init, [], []⟩, ⟨("NoSuchNumber", some "__init__"), "__init__", "NoSuchNumber.__init__", defArgs s_NoSuchNumber_init, defBody s_NoSuchNumber_init, defScope s_NoSuchNumber_init, [], []⟩, ⟨("NoSuchLine", some "__init__"), "__init__", "NoSuchLine.__init__", defArgs s_NoSuchLine_init, defBody s_NoSuchLine_init, defScope s_NoSuchLine_init, [], []⟩, ⟨("NotAsTold", some "__init__"), "__init__", "NotAsTold.__init__", defArgs s_NotAsTold_init, defBody s_NotAsTold_init, defScope s_NotAsTold_init, [], []⟩, ⟨("TooMany", some "__init__"), "__init__", "TooMany.__init__", defArgs s_TooMany_init, defBody s_TooMany_init, defScope s_TooMany_init, [], []⟩, ⟨("Fault", some "__init__"), "__init__", "Fault.__init__", defArgs s_Fault_init, defBody s_Fault_init, defScope s_Fault_init, [], []⟩, ⟨("Word", some "__init__"), "__init__", "Word.__init__", defArgs s_Word_init, defBody s_Word_init, defScope s_Word_init, [], []⟩, ⟨("Pattern", some "__init__"), "__init__", "Pattern.__init__", defArgs s_Pattern_init, defBody s_Pattern_init, defScope s_Pattern_init, [], []⟩, ⟨("WordList", some "__init__"), "__init__", "WordList.__init__", defArgs s_WordList_init, defBody s_WordList_init, defScope s_WordList_init, [], []⟩, ⟨("Token", some "__init__"), "__init__", "Token.__init__", defArgs s_Token_init, defBody s_Token_init, defScope s_Token_init, [], []⟩, ⟨("Token", some "is_chunk"), "is_chunk", "Token.is_chunk", defArgs s_Token_is_chunk, defBody s_Token_is_chunk, defScope s_Token_is_chunk, [], []⟩, ⟨("TextReader", some "__init__"), "__init__", "TextReader.__init__", defArgs s_TextReader_init, defBody s_TextReader_init, defScope s_TextReader_init, [], []⟩, ⟨("TextReader", some "token"), "token", "TextReader.token", defArgs s_TextReader_token, defBody s_TextReader_token, defScope s_TextReader_token, [], []⟩, ⟨("TextReader", some "stands"), "stands", "TextReader.stands", defArgs s_TextReader_stands, defBody s_TextReader_stands, defScope s_TextReader_stands, [], []⟩, ⟨("TextReader", some "skip"), "skip", "TextReader.skip", defArgs s_TextReader_skip, defBody s_TextReader_skip, defScope s_TextReader_skip, [], []⟩, ⟨("TextReader", some "take"), "take", "TextReader.take", defArgs s_TextReader_take, defBody s_TextReader_take, defScope s_TextReader_take, [], []⟩, ⟨("TextReader", some "take_end"), "take_end", "TextReader.take_end", defArgs s_TextReader_take_end, defBody s_TextReader_take_end, defScope s_TextReader_take_end, [], []⟩, ⟨("TextReader", some "chunk"), "chunk", "TextReader.chunk", defArgs s_TextReader_chunk, defBody s_TextReader_chunk, defScope s_TextReader_chunk, [], []⟩, ⟨("Standing", some "__init__"), "__init__", "Standing.__init__", defArgs s_Standing_init, defBody s_Standing_init, defScope s_Standing_init, [], []⟩]
def fn1 : List He.DefD := [⟨("Standing", some "is_exact"), "is_exact", "Standing.is_exact", defArgs s_Standing_is_exact, defBody s_Standing_is_exact, defScope s_Standing_is_exact, [], []⟩, ⟨("Desk", some "__init__"), "__init__", "Desk.__init__", defArgs s_Desk_init, defBody s_Desk_init, defScope s_Desk_init, [], []⟩, ⟨("Desk", some "held_list"), "held_list", "Desk.held_list", defArgs s_Desk_held_list, defBody s_Desk_held_list, defScope s_Desk_held_list, [], []⟩, ⟨("Desk", some "load"), "load", "Desk.load", defArgs s_Desk_load, defBody s_Desk_load, defScope s_Desk_load, [], []⟩, ⟨("Desk", some "shown"), "shown", "Desk.shown", defArgs s_Desk_shown, defBody s_Desk_shown, defScope s_Desk_shown, [], []⟩, ⟨("Desk", some "report"), "report", "Desk.report", defArgs s_Desk_report, defBody s_Desk_report, defScope s_Desk_report, [], []⟩, ⟨("Desk", some "margins"), "margins", "Desk.margins", defArgs s_Desk_margins, defBody s_Desk_margins, defScope s_Desk_margins, [], []⟩, ⟨("Desk", some "change"), "change", "Desk.change", defArgs s_Desk_change, defBody s_Desk_change, defScope s_Desk_change, [], []⟩, ⟨("Desk", some "put"), "put", "Desk.put", defArgs s_Desk_put, defBody s_Desk_put, defScope s_Desk_put, [], []⟩, ⟨("Desk", some "drop"), "drop", "Desk.drop", defArgs s_Desk_drop, defBody s_Desk_drop, defScope s_Desk_drop, [], []⟩, ⟨("Desk", some "needless"), "needless", "Desk.needless", defArgs s_Desk_needless, defBody s_Desk_needless, defScope s_Desk_needless, [], []⟩, ⟨("Desk", some "slim"), "slim", "Desk.slim", defArgs s_Desk_slim, defBody s_Desk_slim, defScope s_Desk_slim, [], []⟩, ⟨("Desk", some "joint"), "joint", "Desk.joint", defArgs s_Desk_joint, defBody s_Desk_joint, defScope s_Desk_joint, [], []⟩, ⟨("Desk", some "break_line"), "break_line", "Desk.break_line", defArgs s_Desk_break_line, defBody s_Desk_break_line, defScope s_Desk_break_line, [], []⟩, ⟨("CallReader", some "__init__"), "__init__", "CallReader.__init__", defArgs s_CallReader_init, defBody s_CallReader_init, defScope s_CallReader_init, [], []⟩, ⟨("CallReader", some "is_done"), "is_done", "CallReader.is_done", defArgs s_CallReader_is_done, defBody s_CallReader_is_done, defScope s_CallReader_is_done, [], []⟩, ⟨("CallReader", some "number"), "number", "CallReader.number", defArgs s_CallReader_number, defBody s_CallReader_number, defScope s_CallReader_number, [], []⟩, ⟨("CallReader", some "row"), "row", "CallReader.row", defArgs s_CallReader_row, defBody s_CallReader_row, defScope s_CallReader_row, [], []⟩, ⟨("is_blank", none), "is_blank", "is_blank", defArgs s_is_blank, defBody s_is_blank, defScope s_is_blank, [], []⟩, ⟨("is_small_letter", none), "is_small_letter", "is_small_letter", defArgs s_is_small_letter, defBody s_is_small_letter, defScope s_is_small_letter, [], []⟩]
def fn2 : List He.DefD := [⟨("is_digit", none), "is_digit", "is_digit", defArgs s_is_digit, defBody s_is_digit, defScope s_is_digit, [], []⟩, ⟨("is_hyphen", none), "is_hyphen", "is_hyphen", defArgs s_is_hyphen, defBody s_is_hyphen, defScope s_is_hyphen, [], []⟩, ⟨("is_point", none), "is_point", "is_point", defArgs s_is_point, defBody s_is_point, defScope s_is_point, [], []⟩, ⟨("is_of_chunk", none), "is_of_chunk", "is_of_chunk", defArgs s_is_of_chunk, defBody s_is_of_chunk, defScope s_is_of_chunk, [], []⟩, ⟨("sign_of", none), "sign_of", "sign_of", defArgs s_sign_of, defBody s_sign_of, defScope s_sign_of, [], []⟩, ⟨("signs_of", none), "signs_of", "signs_of", defArgs s_signs_of, defBody s_signs_of, defScope s_signs_of, [], []⟩, ⟨("bytes_of", none), "bytes_of", "bytes_of", defArgs s_bytes_of, defBody s_bytes_of, defScope s_bytes_of, [], []⟩, ⟨("word_of", none), "word_of", "word_of", defArgs s_word_of, defBody s_word_of, defScope s_word_of, [], []⟩, ⟨("pattern_of", none), "pattern_of", "pattern_of", defArgs s_pattern_of, defBody s_pattern_of, defScope s_pattern_of, [], []⟩, ⟨("same_pattern", none), "same_pattern", "same_pattern", defArgs s_same_pattern, defBody s_same_pattern, defScope s_same_pattern, [], []⟩, ⟨("number_of_word", none), "number_of_word", "number_of_word", defArgs s_number_of_word, defBody s_number_of_word, defScope s_number_of_word, [], []⟩, ⟨("number_of_pattern", none), "number_of_pattern", "number_of_pattern", defArgs s_number_of_pattern, defBody s_number_of_pattern, defScope s_number_of_pattern, [], []⟩, ⟨("remark_end", none), "remark_end", "remark_end", defArgs s_remark_end, defBody s_remark_end, defScope s_remark_end, [], []⟩, ⟨("chunk_end", none), "chunk_end", "chunk_end", defArgs s_chunk_end, defBody s_chunk_end, defScope s_chunk_end, [], []⟩, ⟨("tokens_of", none), "tokens_of", "tokens_of", defArgs s_tokens_of, defBody s_tokens_of, defScope s_tokens_of, [], []⟩, ⟨("read_margin", none), "read_margin", "read_margin", defArgs s_read_margin, defBody s_read_margin, defScope s_read_margin, [], []⟩, ⟨("read_word", none), "read_word", "read_word", defArgs s_read_word, defBody s_read_word, defScope s_read_word, [], []⟩, ⟨("read_pattern", none), "read_pattern", "read_pattern", defArgs s_read_pattern, defBody s_read_pattern, defScope s_read_pattern, [], []⟩, ⟨("list_of", none), "list_of", "list_of", defArgs s_list_of, defBody s_list_of, defScope s_list_of, [], []⟩, ⟨("item_of", none), "item_of", "item_of", defArgs s_item_of, defBody s_item_of, defScope s_item_of, [], []⟩]
def fn3 : List He.DefD := [⟨("written_word", none), "written_word", "written_word", defArgs s_written_word, defBody s_written_word, defScope s_written_word, [], []⟩, ⟨("written_pattern", none), "written_pattern", "written_pattern", defArgs s_written_pattern, defBody s_written_pattern, defScope s_written_pattern, [], []⟩, ⟨("one_form", none), "one_form", "one_form", defArgs s_one_form, defBody s_one_form, defScope s_one_form, [], []⟩, ⟨("fits_at", none), "fits_at", "fits_at", defArgs s_fits_at, defBody s_fits_at, defScope s_fits_at, [], []⟩, ⟨("fitting_places", none), "fitting_places", "fitting_places", defArgs s_fitting_places, defBody s_fitting_places, defScope s_fitting_places, [], []⟩, ⟨("levels_of", none), "levels_of", "levels_of", defArgs s_levels_of, defBody s_levels_of, defScope s_levels_of, [], []⟩, ⟨("gaps_within", none), "gaps_within", "gaps_within", defArgs s_gaps_within, defBody s_gaps_within, defScope s_gaps_within, [], []⟩, ⟨("parted_gaps", none), "parted_gaps", "parted_gaps", defArgs s_parted_gaps, defBody s_parted_gaps, defScope s_parted_gaps, [], []⟩, ⟨("standing_of", none), "standing_of", "standing_of", defArgs s_standing_of, defBody s_standing_of, defScope s_standing_of, [], []⟩, ⟨("standings", none), "standings", "standings", defArgs s_standings, defBody s_standings, defScope s_standings, [], []⟩, ⟨("with_margins", none), "with_margins", "with_margins", defArgs s_with_margins, defBody s_with_margins, defScope s_with_margins, [], []⟩, ⟨("margins_tried", none), "margins_tried", "margins_tried", defArgs s_margins_tried, defBody s_margins_tried, defScope s_margins_tried, [], []⟩, ⟨("with_words", none), "with_words", "with_words", defArgs s_with_words, defBody s_with_words, defScope s_with_words, [], []⟩, ⟨("with_patterns", none), "with_patterns", "with_patterns", defArgs s_with_patterns, defBody s_with_patterns, defScope s_with_patterns, [], []⟩, ⟨("replaced_or_added", none), "replaced_or_added", "replaced_or_added", defArgs s_replaced_or_added, defBody s_replaced_or_added, defScope s_replaced_or_added, [], []⟩, ⟨("with_item", none), "with_item", "with_item", defArgs s_with_item, defBody s_with_item, defScope s_with_item, [], []⟩, ⟨("without_word", none), "without_word", "without_word", defArgs s_without_word, defBody s_without_word, defScope s_without_word, [], []⟩, ⟨("without_pattern", none), "without_pattern", "without_pattern", defArgs s_without_pattern, defBody s_without_pattern, defScope s_without_pattern, [], []⟩, ⟨("is_touched", none), "is_touched", "is_touched", defArgs s_is_touched, defBody s_is_touched, defScope s_is_touched, [], []⟩, ⟨("touched_words", none), "touched_words", "touched_words", defArgs s_touched_words, defBody s_touched_words, defScope s_touched_words, [], []⟩]
def fn4 : List He.DefD := [⟨("partings", none), "partings", "partings", defArgs s_partings, defBody s_partings, defScope s_partings, [], []⟩, ⟨("needless_patterns", none), "needless_patterns", "needless_patterns", defArgs s_needless_patterns, defBody s_needless_patterns, defScope s_needless_patterns, [], []⟩, ⟨("slim_once", none), "slim_once", "slim_once", defArgs s_slim_once, defBody s_slim_once, defScope s_slim_once, [], []⟩, ⟨("made_slim", none), "made_slim", "made_slim", defArgs s_made_slim, defBody s_made_slim, defScope s_made_slim, [], []⟩, ⟨("joints_of", none), "joints_of", "joints_of", defArgs s_joints_of, defBody s_joints_of, defScope s_joints_of, [], []⟩, ⟨("parted_as_two", none), "parted_as_two", "parted_as_two", defArgs s_parted_as_two, defBody s_parted_as_two, defScope s_parted_as_two, [], []⟩, ⟨("break_of", none), "break_of", "break_of", defArgs s_break_of, defBody s_break_of, defScope s_break_of, [], []⟩, ⟨("letters_of", none), "letters_of", "letters_of", defArgs s_letters_of, defBody s_letters_of, defScope s_letters_of, [], []⟩, ⟨("check_number", none), "check_number", "check_number", defArgs s_check_number, defBody s_check_number, defScope s_check_number, [], []⟩, ⟨("answer_to", none), "answer_to", "answer_to", defArgs s_answer_to, defBody s_answer_to, defScope s_answer_to, [], []⟩, ⟨("answers", none), "answers", "answers", defArgs s_answers, defBody s_answers, defScope s_answers, [], []⟩]
def fn : List He.DefD := fn0 ++ fn1 ++ fn2 ++ fn3 ++ fn4
def excObB (K : Frag) (C : Addr) : Bool := match K.lookup C with
  | some ⟨.type "type", _, .cls cd, sl⟩ => match cd.mro, sl.toList with
    | .ref C' :: bm, [_, _, _, _, some (.builtin n), _] => C' == C && n == "Exception.__new__" && cd.hasDict && !cd.hasDel && excTail exB bm
    | _, _ => false
  | _ => false
def excB (K : Frag) (x : Str) : Bool := let C := He.ga K x
  excObB K C && (He.eqO (findIn K (.ref C) "__setattr__") (some (some (.builtin "object.__setattr__"))) && (He.eqO (findIn K (.ref C) "__getattribute__") (some (some (.builtin "BaseException.__getattribute__"))) && (He.eqO (findIn K (.ref C) "__getattr__") (some none) && (He.eqO (findIn K (.ref C) "code") (some none) && (He.eqO (findIn K (.ref C) "place") (some none) && (He.eqO (findIn K (.ref C) "__init__") (some (some (.ref (He.ma K C "__init__")))) && (decide (typeIn K (.ref (He.ma K C "__init__")) = some (.type "function")) && (keepIn K (.ref C) && (decide (subIn K (.ref C) (.type "BaseException") = some true) && (decide (typeIn K (.ref C) = some (.type "type")) && hasDictIn K C))))))))))
def iskB (K : Frag) (x y : Str) (b : Bool) : Bool := let C := He.ga K x
  He.eqO (findIn K (.ref C) "__class__") (some (some (.builtin "object.__class__"))) && (He.eqO (specialIn K (.builtin "object.__class__") "__get__") (some (some (.builtin "getset_descriptor.__get__"))) && (decide (takesIn K (.builtin "object.__class__") = some true) && (decide (mroIn K C (.type "object") = some true) && decide (kitOne K (.ref C) (.ref (He.ga K y)) = some b))))
def strsB : List Value → List Str → Bool
  | [], [] => true
  | .str a _ :: r, b :: s => decide (a = b) && strsB r s
  | _, _ => false
def tupB (K : Frag) (x : Str) (bs : List Str) : Bool := He.eqO (nsIn K mainGlobals x) (some (some (.ref (He.ga K x)))) && match K.lookup (He.ga K x) with
  | some ⟨.type "tuple", none, .seq its n, _⟩ => strsB its.toList bs
  | _ => false
def refRB (K : Frag) : Bool := match findCls K (.type "Exception") (.type "type") "__init__" with
  | some (.val (.builtin n)) => n == "Exception.__init__"
  | _ => false
def refVB (K : Frag) : Bool := match findCls K (.ref (He.ga K "Refusal")) (.type "type") "__init__" with
  | some (.val (.ref a)) => a == He.ma K (He.ga K "Refusal") "__init__"
  | _ => false
def mgs : List Str := ["0", "1", "2", "3", "4", "5"]
def ex (K : Frag) : Bool := excB K "Refusal" && excB K "NoList" && excB K "NoSuchNumber" && excB K "NoSuchLine" && excB K "NotAsTold" && excB K "TooMany" && excB K "Fault" && (refRB K && (readsIn K (He.ga K "Refusal") (.type "type") && (He.eqO (specialIn K (.ref (He.ga K "Refusal")) "__getattribute__") (some (some (.builtin "type.__getattribute__"))) && (refVB K && (iskB K "Word" "Word" true && (iskB K "Pattern" "Word" false && tupB K "MARGINS_list_texts" mgs))))))
def as0 : List Addr := [3, 31, 51, 70, 89, 108, 127, 146, 225, 246, 267, 328, 413, 526, 762, 804, 30, 50, 69, 88, 107, 126, 145, 224, 245, 266, 327, 412, 525, 761, 803, 28, 48, 67, 86, 105, 124, 143, 222, 243, 264, 318, 325, 368, 375]
def as1 : List Addr := [382, 389, 396, 403, 410, 516, 523, 675, 682, 689, 696, 703, 710, 717, 724, 731, 738, 745, 752, 759, 780, 787, 794, 801, 156, 163, 170, 177, 184, 191, 198, 203, 208, 276, 283, 290, 297, 304, 339, 346, 353, 424, 431, 438, 445]
def as2 : List Addr := [452, 459, 466, 473, 480, 485, 492, 497, 502, 535, 540, 547, 552, 559, 566, 573, 580, 587, 594, 601, 606, 611, 618, 625, 632, 639, 644, 649, 654, 661, 815, 822, 27, 47, 66, 85, 104, 123, 142, 221, 242, 263, 317, 324, 367]
def as3 : List Addr := [374, 381, 388, 395, 402, 409, 515, 522, 674, 681, 688, 695, 702, 709, 716, 723, 730, 737, 744, 751, 758, 779, 786, 793, 800, 155, 162, 169, 176, 183, 190, 197, 202, 207, 275, 282, 289, 296, 303, 338, 345, 352, 423, 430, 437]
def as4 : List Addr := [444, 451, 458, 465, 472, 479, 484, 491, 496, 501, 534, 539, 546, 551, 558, 565, 572, 579, 586, 593, 600, 605, 610, 617, 624, 631, 638, 643, 648, 653, 660, 814, 821, 354, 2]
def asL : List Addr := as0 ++ (as1 ++ (as2 ++ (as3 ++ as4)))
def Kg (g : Addr → Option Obj) : Frag := He.frG g asL
def obK (K : Frag) : He.AlD × Bool := (He.obsD fa fn K, ex K)
theorem frG_in {h : Heap} {as : List Addr} : (He.frG h.get? as).In h := He.frG_in
def hk : Hook where
  α := He.AlD × Bool
  obs s := obK (Kg s.heap.get?)
  val _ := ((true, fn.map He.DefD.val), true)
  says _ h := ∃ K : Frag, K.In h ∧ He.SaysD fa fn K ∧ ex K = true
  of _ s e := ⟨_, frG_in, congrArg Prod.fst e, congrArg Prod.snd e⟩
  keeps := fun _ h h' ⟨K, i, r⟩ k => ⟨K, fun a o q => k a o (i a o q), r⟩
def ob (s : SharedT) : He.AlD × Bool := obK (Kg (HeadRun.getT s))
theorem ob_eq (s : SharedT) : ob s = hk.obs s.abs := congrArg (fun g => obK (Kg g)) (funext (HeadRun.getT_eq s))
theorem run (w : World) (os : OsState) : (endF (stepQ (denQ tabQ) P w) 7000 P w os).map (fun s => (looksF P (boot_heap w.params) s.abs, seenQ qv names (importedModules P.main.body) (fun s => xlAt qv [] s && recOk [] s) s.abs, ob s)) = some (true, openGood qv names, hk.val w) := by
  kernel_rfl
end PwX

/-! ## PwInit -/
namespace PwX
open PySem PySem.W PySem.Calls PyProof.Rows PySem.HandSPX L2

/-- what stands around: the module's names, the built-ins -/
structure Glob (K : Frag) (mg : Str → Option Value) (h : Heap) : Prop where
  kin : K.In h
  ns : h.Ns mainGlobals mg
  blt : ∃ mb, h.Ns builtinsNs mb ∧ ∀ x : Str, x ≠ "__name__" → mb x = bootBuiltins x
  lim : h.NoLimit
theorem Glob.keeps {K : Frag} {mg : Str → Option Value} {h h' : Heap} (G : Glob K mg h) (k : ∀ b o, h.get? b = some o → h'.get? b = some o) : Glob K mg h' :=
  ⟨G.kin.keeps k, G.ns.keeps k, let ⟨mb, a, b⟩ := G.blt; ⟨mb, a.keeps k, b⟩, G.lim.keeps k⟩

/-- what of the text Refusal and its like lean on -/
structure RefT (K : Frag) (mg : Str → Option Value) (CR fR : Addr) (fdR : FuncData) : Prop where
  gE : mg "Exception" = none
  vE : findCls K (.type "Exception") (.type "type") "__init__" = some (.val (.builtin "Exception.__init__"))
  gR : mg "Refusal" = some (.ref CR)
  rdR : readsIn K CR (.type "type") = true
  gaR : specialIn K (.ref CR) "__getattribute__" = some (some (.builtin "type.__getattribute__"))
  vR : findCls K (.ref CR) (.type "type") "__init__" = some (.val (.ref fR))
  FR : Fun K "__init__" "Refusal.__init__" (inClass (topS 1) 0) fR fdR

theorem typ_E : typeOf (.type "Exception") = pure (.type "type") := by kernel_rfl
theorem boot_E : bootBuiltins "Exception" = some (.type "Exception") := by decide +kernel

section
variable {prog : Program} {w : World} {A : Around} {E : Value → Shared → Prop} {R : Result → Shared → Prop} {s : Shared} {K : Frag} {mg : Str → Option Value} {C CR fR fI x t0 : Addr} {fdR : FuncData}
/-- loading a local name -/
theorem ldl {M : Model} {env : Env} {m : Str → Option Value} {y : Str} {pos : Pos} {v : Value} {Q : Value → Shared → Prop} (hn : s.heap.Ns env.locals m) (hv : m y = some v) (h : Q v s)
    (hk : env.scope.kind = .function := by rfl) (hl : env.kindOf y = some .local := by rfl) (hd : (y == ("__debug__" : Str)) = false := by decide) :
    wpAny M A (eval (.Name y pos) env) Q E s := wpAny_Name (wpAny_loadName_local hk hl hn hv h) hd
/-- the statement Exception.__init__(self) -/
theorem st_exinit {env : Env} {m : Str → Option Value} {h₀ : Heap} {p1 p2 p3 pos pos' : Pos} {pl : Sem Bool} {Q : Flow → Shared → Prop} {fa : Addr} (T : ExcC K C fa) (hF : Fr h₀ env.locals s.heap m) (G0 : Glob K mg h₀) (gE : mg "Exception" = none)
    (vE : findCls K (.type "Exception") (.type "type") "__init__" = some (.val (.builtin "Exception.__init__"))) (hm : m "self" = some (.ref x)) (hx : s.heap.get? x = some (excO C t0))
    (hk : env.scope.kind = .function) (hg : env.kindOf "Exception" = some .globalImplicit) (hl : env.kindOf "self" = some .local) (hgl : env.globals = mainGlobals) (hbl : env.builtins = builtinsNs)
    (hq : ∀ h' t1 tk, (∀ b o, b ≠ x → s.heap.get? b = some o → h'.get? b = some o) → h'.get? x = some (excO C t1) → Q .next { s with heap := h', toks := tk })
    (hi : interactive env = false) (hs : swapsWith (.Call (.Attribute (.Name "Exception" p1) "__init__" p2) [.Name "self" p3] [] pos) none pos'.line env = pure false)
    (hst : starEach [.Name "self" p3] env = [(false, eval (.Name "self" p3) env)])
    (hc : eval (.Call (.Attribute (.Name "Exception" p1) "__init__" p2) [.Name "self" p3] [] pos) env = (do
      let ov ← eval (.Name "Exception" p1) env
      standAt p2.atName
      let (f, first) ← holding [ov] (getMethod ov "__init__" pl)
      callWith pos f first (backTo pos (starEach [.Name "self" p3] env)) (backToKw pos (keywordEach [] env)))) :
    wpAny (model prog w) A (exec (.Expr (.Call (.Attribute (.Name "Exception" p1) "__init__" p2) [.Name "self" p3] [] pos) pos') env) Q E s := by
  have G : Glob K mg s.heap := G0.keeps hF.keep
  obtain ⟨mb, hb1, hb2⟩ := G.blt
  obtain ⟨nm, q, N, bs, bm, sn, sub, ab, col, dd, k0, k1, k2, k3, k5, hC, hbm⟩ := T.cls
  refine wpAny_Expr_any ?_ hi hs
  refine methodCall_KW ?_ hc
  refine Calls.Name_function_global hk hg (Calls.loadGlobal_builtin (by rw [hgl]; exact G.ns) gE (by rw [hbl]; exact hb1) ((hb2 _ (by decide)).trans boot_E) ?_)
  refine method_type hF G0.kin typ_E (by decide +kernel) vE (by decide +kernel) ?_
  show wpAny _ _ (callWith pos (Value.builtin "Exception.__init__") [] (backTo pos (starEach [.Name "self" p3] env)) []) _ _ _
  refine PyProof.Rows.callWith_method1 ?_ hst rfl
  rw [hst]
  refine Calls.spliced_cons (ldl hF.ns hm (Calls.spliced_nil ?_) hk hl)
  obtain ⟨hp, g, d, t, os⟩ := s
  refine wpAny_call (PySem.HandSPX.init_base F.excBase_Exception (fun Y => excTail_contains Y bm hbm) (G.kin _ _ hC) hx (Nat.zero_le _) fun h' t1 k hx' => ?_)
  exact hq h' t1 _ k hx'
/-- the statement self.name = y, the first field -/
theorem st_first {env : Env} {m : Str → Option Value} {p1 p2 p3 pos : Pos} {Q : Flow → Shared → Prop} {fa : Addr} {f y : Str} {v : Value} (T : ExcC K C fa) (X : K.In s.heap) (hF : s.heap.Ns env.locals m) (hm : m "self" = some (.ref x)) (hy : m y = some v) (hx : s.heap.get? x = some (excO C t0))
    (hn : findIn K (.ref C) f = some none) (hk : env.scope.kind = .function) (hl : env.kindOf "self" = some .local) (hly : env.kindOf y = some .local) (hdy : (y == ("__debug__" : Str)) = false)
    (hq : ∀ h' tk dx, (∀ b o, b ≠ x → s.heap.get? b = some o → h'.get? b = some o) → s.heap.objs.size ≤ dx → dx ≠ x → h'.get? x = some { excO C t0 with dict := some dx } → h'.Ns1 dx (fun z => if z = f then some v else none) → Q .next { s with heap := h', toks := tk })
    (hs : swapsWith (.Name y p3) (some (.Attribute (.Name "self" p1) f p2)) pos.line env = pure false) :
    wpAny (model prog w) A (exec (.Assign [.Attribute (.Name "self" p1) f p2] (.Name y p3) pos) env) Q E s := by
  refine plainObj_wpAny_Assign_Attribute (ldl hF hy (ldl hF hm ?_ hk hl) hk hly hdy) hs
  obtain ⟨hp, g, d, t, os⟩ := s
  refine set_plain X (od := none) ⟨hx, rfl, rfl, trivial⟩ T.sa ?_
  exact osa_first T X hx hn fun h' tk' dx k dn dne hx' hns => hq h' tk' dx k dn dne hx' hns
/-- .. a further one -/
theorem st_next {env : Env} {m : Str → Option Value} {p1 p2 p3 pos : Pos} {Q : Flow → Shared → Prop} {fa dx : Addr} {f y : Str} {v : Value} {m0 : Str → Option Value} {nl : List Str} (T : ExcC K C fa) (X : K.In s.heap) (hF : s.heap.Ns env.locals m) (hm : m "self" = some (.ref x)) (hy : m y = some v)
    (hx : s.heap.get? x = some { excO C t0 with dict := some dx }) (hns : s.heap.Ns1 dx m0) (hw : Within m0 nl) (hz : nl.length ≤ 1000)
    (hn : findIn K (.ref C) f = some none) (hk : env.scope.kind = .function) (hl : env.kindOf "self" = some .local) (hly : env.kindOf y = some .local) (hdy : (y == ("__debug__" : Str)) = false)
    (hq : ∀ h' tk, (∀ b o, b ≠ dx → s.heap.get? b = some o → h'.get? b = some o) → h'.Ns1 dx (fun z => if z = f then some v else m0 z) → Q .next { s with heap := h', toks := tk })
    (hs : swapsWith (.Name y p3) (some (.Attribute (.Name "self" p1) f p2)) pos.line env = pure false) :
    wpAny (model prog w) A (exec (.Assign [.Attribute (.Name "self" p1) f p2] (.Name y p3) pos) env) Q E s := by
  refine plainObj_wpAny_Assign_Attribute (ldl hF hy (ldl hF hm ?_ hk hl) hk hly hdy) hs
  obtain ⟨hp, g, d, t, os⟩ := s
  obtain ⟨oD, _, _, hoD, _, _⟩ := hns.count hw
  refine set_plain X (od := some oD) ⟨hx, rfl, rfl, hoD⟩ T.sa ?_
  exact osa_next T X hx hns hw hz hn fun h' tk' k hns' => hq h' tk' k hns'

/-- what an __init__ leaves of an exception at x -/
structure Done (h h' : Heap) (x C dx t1 : Addr) (ns : Str → Option Value) : Prop where
  keep : ∀ b o, b ≠ x → h.get? b = some o → h'.get? b = some o
  obj : h'.get? x = some { excO C t1 with dict := some dx }
  dbig : h.objs.size ≤ dx
  dne : dx ≠ x
  ns : h'.Ns1 dx ns

theorem kin_but {h h' : Heap} (X : K.In h) (hx : K.lookup x = none) (k : ∀ b o, b ≠ x → h.get? b = some o → h'.get? b = some o) : K.In h' := fun a o e =>
  k a o (fun z => by rw [z, hx] at e; cases e) (X a o e)
/-- Refusal.__init__(self, code), self of any class -/
theorem ref_init (T : RefT K mg CR fR fdR) (TC : ExcC K C fI) {v : Value} (G : Glob K mg s.heap) (hx : s.heap.get? x = some (excO C t0)) (hnx : K.lookup x = none) (hroom : A.depth < recursionLimit)
    (hq : ∀ h' tk dx t1, Done s.heap h' x C dx t1 (fun z => if z = "code" then some v else none) → R (.ok (.ret .none)) { s with heap := h', toks := tk }) :
    codeAny (model prog w) A (.call (.ref fR) ⟨[.ref x, v], []⟩) R s := by
  obtain ⟨oc, od, kV, doc, pm, an, cdv, ct, osl, rfl, lk, hcd⟩ := T.FR.ex
  refine Att.call_fn (binds := [("self", .ref x), ("code", v)]) G.kin G.lim lk hcd hroom (BindsTo.of_eq (by first | rfl | with_unfolding_all rfl)) (by first | rfl | decide | with_unfolding_all rfl) (fun s₁ IC => ?_) rfl rfl rfl
  obtain ⟨h₁, tk₁, rfl⟩ := IC.toInCall.same
  have k : ∀ b o, s.heap.get? b = some o → h₁.get? b = some o := IC.toInCall.keep
  have hn := IC.toInCall.ns
  have hxL : s.heap.objs.size ≠ x := Nat.ne_of_gt (Heap.lt_size hx)
  have Fr1 : Fr s.heap s.heap.objs.size h₁ _ := ⟨hn, k, Nat.le_refl _⟩
  have z1 : s.heap.objs.size < h₁.objs.size := hn.lt
  show wpAny _ _ (execs _ _) _ _ _
  refine wpAny_execs_cons (st_exinit TC (s := { s with heap := h₁, toks := tk₁ }) Fr1 G T.gE T.vE (by first | rfl | with_unfolding_all rfl | kernel_rfl) (k _ _ hx) rfl (by first | rfl | with_unfolding_all rfl) (by first | rfl | with_unfolding_all rfl) rfl rfl (fun h2 t1 tk2 k2 hx2 => ?_) rfl rfl rfl rfl)
  have k02 : ∀ b o, b ≠ x → s.heap.get? b = some o → h2.get? b = some o := fun b o hb e => k2 b o hb (k b o e)
  have X2 : K.In h2 := kin_but G.kin hnx k02
  have hn2 := hn.at' (h' := h2) fun o e => k2 _ o hxL e
  refine wpAny_execs_cons (st_first TC (s := { s with heap := h2, toks := tk2 }) X2 hn2 (by first | rfl | with_unfolding_all rfl | kernel_rfl) (v := v) (by first | rfl | with_unfolding_all rfl | kernel_rfl) hx2 TC.nc rfl (by first | rfl | with_unfolding_all rfl) (by first | rfl | with_unfolding_all rfl) (by decide) (fun h3 tk3 dx k3 dn dne hx3 hn3 => ?_) rfl)
  have z2 : s.heap.objs.size < h2.objs.size := hn2.lt
  exact wpAny_execs_nil (hq h3 tk3 dx t1 ⟨fun b o hb e => k3 b o hb (k02 b o hb e), hx3, Nat.le_of_lt (Nat.lt_of_lt_of_le z2 dn), dne, hn3⟩)
/-- Fault.__init__(self, code, place) -/
theorem fault_init {fdI : FuncData} (gE : mg "Exception" = none) (vE : findCls K (.type "Exception") (.type "type") "__init__" = some (.val (.builtin "Exception.__init__"))) (FI : Fun K "__init__" "Fault.__init__" (inClass (topS 7) 0) fI fdI) (TC : ExcC K C fI) {v u : Value} (G : Glob K mg s.heap) (hx : s.heap.get? x = some (excO C t0)) (hnx : K.lookup x = none) (hroom : A.depth < recursionLimit)
    (hq : ∀ h' tk dx t1, Done s.heap h' x C dx t1 (fun z => if z = "place" then some u else if z = "code" then some v else none) → R (.ok (.ret .none)) { s with heap := h', toks := tk }) :
    codeAny (model prog w) A (.call (.ref fI) ⟨[.ref x, v, u], []⟩) R s := by
  obtain ⟨oc, od, kV, doc, pm, an, cdv, ct, osl, rfl, lk, hcd⟩ := FI.ex
  refine Att.call_fn (binds := [("self", .ref x), ("code", v), ("place", u)]) G.kin G.lim lk hcd hroom (BindsTo.of_eq (by first | rfl | with_unfolding_all rfl)) (by first | rfl | decide | with_unfolding_all rfl) (fun s₁ IC => ?_) rfl rfl rfl
  obtain ⟨h₁, tk₁, rfl⟩ := IC.toInCall.same
  have k : ∀ b o, s.heap.get? b = some o → h₁.get? b = some o := IC.toInCall.keep
  have hn := IC.toInCall.ns
  have hxL : s.heap.objs.size ≠ x := Nat.ne_of_gt (Heap.lt_size hx)
  have Fr1 : Fr s.heap s.heap.objs.size h₁ _ := ⟨hn, k, Nat.le_refl _⟩
  have z1 : s.heap.objs.size < h₁.objs.size := hn.lt
  show wpAny _ _ (execs _ _) _ _ _
  refine wpAny_execs_cons (st_exinit TC (s := { s with heap := h₁, toks := tk₁ }) Fr1 G gE vE (by first | rfl | with_unfolding_all rfl | kernel_rfl) (k _ _ hx) rfl (by first | rfl | with_unfolding_all rfl) (by first | rfl | with_unfolding_all rfl) rfl rfl (fun h2 t1 tk2 k2 hx2 => ?_) rfl rfl rfl rfl)
  have k02 : ∀ b o, b ≠ x → s.heap.get? b = some o → h2.get? b = some o := fun b o hb e => k2 b o hb (k b o e)
  have X2 : K.In h2 := kin_but G.kin hnx k02
  have hn2 := hn.at' (h' := h2) fun o e => k2 _ o hxL e
  have z2 : s.heap.objs.size < h2.objs.size := hn2.lt
  refine wpAny_execs_cons (st_first TC (s := { s with heap := h2, toks := tk2 }) X2 hn2 (by first | rfl | with_unfolding_all rfl | kernel_rfl) (v := v) (by first | rfl | with_unfolding_all rfl | kernel_rfl) hx2 TC.nc rfl (by first | rfl | with_unfolding_all rfl) (by first | rfl | with_unfolding_all rfl) (by decide) (fun h3 tk3 dx k3 dn dne hx3 hn3 => ?_) rfl)
  have k03 : ∀ b o, b ≠ x → s.heap.get? b = some o → h3.get? b = some o := fun b o hb e => k3 b o hb (k02 b o hb e)
  have X3 : K.In h3 := kin_but G.kin hnx k03
  have hL3 := hn2.at' (h' := h3) fun o e => k3 _ o hxL e
  have w3 : Within (fun z : Str => if z = "code" then some v else none) ["code"] := Within.cons "code" v Within.nil
  have hdL : s.heap.objs.size ≠ dx := Nat.ne_of_lt (Nat.lt_of_lt_of_le z2 dn)
  refine wpAny_execs_cons (st_next TC (s := { s with heap := h3, toks := tk3 }) X3 hL3 (by first | rfl | with_unfolding_all rfl | kernel_rfl) (v := u) (by first | rfl | with_unfolding_all rfl | kernel_rfl) hx3 hn3 w3 (by decide) TC.np rfl (by first | rfl | with_unfolding_all rfl) (by first | rfl | with_unfolding_all rfl) (by decide) (fun h4 tk4 k4 hn4 => ?_) rfl)
  refine wpAny_execs_nil (hq h4 tk4 dx t1 ⟨fun b o hb e => k4 b o ?_ (k03 b o hb e), k4 _ _ (Ne.symm dne) hx3, Nat.le_of_lt (Nat.lt_of_lt_of_le z2 dn), dne, hn4⟩)
  exact Nat.ne_of_lt (Nat.lt_of_lt_of_le (Nat.lt_trans (Heap.lt_size e) z2) dn)
/-- the statement Refusal.__init__(self, -n) -/
theorem st_refinit {env : Env} {m : Str → Option Value} {n : Int} {j : Nat} {p1 p2 p3 p4 p5 pos pos' : Pos} {pl : Sem Bool} {Q : Flow → Shared → Prop} (T : RefT K mg CR fR fdR) (TC : ExcC K C fI) (hL : s.heap.Ns env.locals m) (G : Glob K mg s.heap)
    (hm : m "self" = some (.ref x)) (hx : s.heap.get? x = some (excO C t0)) (hnx : K.lookup x = none) (hroom : A.depth < recursionLimit)
    (hk : env.scope.kind = .function) (hg : env.kindOf "Refusal" = some .globalImplicit) (hl : env.kindOf "self" = some .local) (hgl : env.globals = mainGlobals)
    (hq : ∀ h' tk dx t1 tv, Done s.heap h' x C dx t1 (fun z => if z = "code" then some (.int (-n) tv) else none) → Q .next { s with heap := h', toks := tk })
    (hi : interactive env = false) (hs : swapsWith (.Call (.Attribute (.Name "Refusal" p1) "__init__" p2) [.Name "self" p3, .UnaryOp .USub (.Constant (.int n) j p4) p5] [] pos) none pos'.line env = pure false)
    (hst : starEach [.Name "self" p3, .UnaryOp .USub (.Constant (.int n) j p4) p5] env = (false, eval (.Name "self" p3) env) :: starEach [.UnaryOp .USub (.Constant (.int n) j p4) p5] env)
    (hst2 : starEach [.UnaryOp .USub (.Constant (.int n) j p4) p5] env = [(false, eval (.UnaryOp .USub (.Constant (.int n) j p4) p5) env)])
    (hc : eval (.Call (.Attribute (.Name "Refusal" p1) "__init__" p2) [.Name "self" p3, .UnaryOp .USub (.Constant (.int n) j p4) p5] [] pos) env = (do
      let ov ← eval (.Name "Refusal" p1) env
      standAt p2.atName
      let (f, first) ← holding [ov] (getMethod ov "__init__" pl)
      callWith pos f first (backTo pos (starEach [.Name "self" p3, .UnaryOp .USub (.Constant (.int n) j p4) p5] env)) (backToKw pos (keywordEach [] env)))) :
    wpAny (model prog w) A (exec (.Expr (.Call (.Attribute (.Name "Refusal" p1) "__init__" p2) [.Name "self" p3, .UnaryOp .USub (.Constant (.int n) j p4) p5] [] pos) pos') env) Q E s := by
  refine wpAny_Expr_any ?_ hi hs
  refine methodCall_KW ?_ hc
  refine Calls.Name_function_global hk hg (Calls.loadGlobal_global (by rw [hgl]; exact G.ns) T.gR ?_)
  refine method_cls G.kin T.gaR (cls_value G.kin T.rdR T.vR rfl ?_)
  show wpAny _ _ (callWith pos (.ref fR) [] (backTo pos (starEach [.Name "self" p3, .UnaryOp .USub (.Constant (.int n) j p4) p5] env)) []) _ _ _
  refine callWith_K (h₀ := s.heap) G.kin T.FR.kp ?_ hst (by rw [hst2]; rfl)
  rw [hst, hst2]
  refine Calls.spliced_cons (ldl hL hm ?_ hk hl)
  refine Calls.spliced_cons (UnaryOp_ (wpAny_Constant_int (neg_int (Calls.spliced_nil ?_))))
  refine ⟨G.kin, ?_⟩
  refine wpAny_call (ref_init T TC G hx hnx (by exact hroom) fun h' tk dx t1 D => ?_)
  exact hq h' tk dx t1 _ D
end
end PwX

/-! ## PwMk -/
namespace PwX
open PySem PySem.W PySem.Calls PyProof.Rows PySem.HandSPX L2

/-- a made exception -/
structure Made (h h' : Heap) (e C d t1 : Addr) (ns : Str → Option Value) : Prop where
  keep : ∀ b o, h.get? b = some o → h'.get? b = some o
  new : h.objs.size ≤ e
  obj : h'.get? e = some { excO C t1 with dict := some d }
  dbig : h.objs.size ≤ d
  dne : d ≠ e
  ns : h'.Ns1 d ns
/-- what an __init__ at fI does with further arguments rest: NP says of the fields -/
def Inits (prog : Program) (w : World) (K : Frag) (mg : Str → Option Value) (C fI : Addr) (rest : List Value) (NP : (Str → Option Value) → Prop) : Prop :=
  ∀ (A : Around) (R : Result → Shared → Prop) (s : Shared) (x t0 : Addr), Glob K mg s.heap → s.heap.get? x = some (excO C t0) → K.lookup x = none → A.depth + 1 < recursionLimit →
    (∀ h' tk dx t1 ns, NP ns → Done s.heap h' x C dx t1 ns → R (.ok (.ret .none)) { s with heap := h', toks := tk }) → codeAny (model prog w) A (.call (.ref fI) ⟨.ref x :: rest, []⟩) R s
section
variable {prog : Program} {w : World} {A : Around} {E : Value → Shared → Prop} {R : Result → Shared → Prop} {s : Shared} {K : Frag} {mg : Str → Option Value} {C CR fR fI : Addr} {fdR fdI : FuncData}
theorem made {rest : List Value} {NP : (Str → Option Value) → Prop} (TC : ExcC K C fI) (hi : Inits prog w K mg C fI rest NP) (G : Glob K mg s.heap) (hz : rest.length ≤ sizeLine) (hroom : A.depth + 2 < recursionLimit)
    (hq : ∀ h' tk e d t1 ns, NP ns → Made s.heap h' e C d t1 ns → R (.ok (.ret (.ref e))) { s with heap := h', toks := tk }) :
    codeAny (model prog w) A (.call (.ref C) ⟨rest, []⟩) R s := by
  obtain ⟨nm, q, N, bs, bm, sn, sub, ab, col, dd, k0, k1, k2, k3, k5, hC, hbm⟩ := TC.cls
  obtain ⟨hp, g, dr, tk, os⟩ := s
  have k : ∀ b o, hp.get? b = some o → ((hp.push (kdv_tup rest)).push (excO C hp.objs.size)).get? b = some o := fun b o e => Heap.get?_push_of_some _ (Heap.get?_push_of_some _ e)
  have hget : ((hp.push (kdv_tup rest)).push (excO C hp.objs.size)).get? (hp.objs.size + 1) = some (excO C hp.objs.size) := by heap_get
  have hnx : K.lookup (hp.objs.size + 1) = none := by
    cases e : K.lookup (hp.objs.size + 1) with
    | none => rfl
    | some o =>
      have z : hp.get? (hp.objs.size + 1) = some o := G.kin _ _ e
      exact absurd (Nat.lt_of_succ_lt (Heap.lt_size z)) (Nat.lt_irrefl _)
  refine call_own F.excBase_Exception (fun Y => excTail_contains Y bm hbm) (G.kin _ _ hC) (looks_findIn G.kin TC.iC) (fun self => bind_fn G.kin self TC.tC) hz ?_
  refine hi _ _ ⟨(hp.push (kdv_tup rest)).push (excO C hp.objs.size), g, dr, tk, os⟩ _ _ (G.keeps k) hget hnx ?_ fun h' tk' dx t1 ns np ⟨k', hx, dn, dne, hns⟩ => ?_
  · show A.depth + 1 + 1 < recursionLimit
    exact hroom
  · have old : ∀ b o, hp.get? b = some o → h'.get? b = some o := fun b o e => k' b o (Nat.ne_of_lt (Nat.lt_succ_of_lt (Heap.lt_size e))) (k b o e)
    have z : hp.objs.size + 1 + 1 ≤ dx := by
      first
        | (simpa only [Heap.size_push] using dn)
        | exact dn
        | (have q := dn; rw [Heap.size_push, Heap.size_push] at q; exact q)
    exact ⟨rfl, hq h' tk' (hp.objs.size + 1) dx t1 ns np ⟨old, Nat.le_succ _, hx, Nat.le_trans (Nat.le_trans (Nat.le_succ _) (Nat.le_succ _)) z, dne, hns⟩⟩
theorem fault_inits {v u : Value} (gE : mg "Exception" = none) (vE : findCls K (.type "Exception") (.type "type") "__init__" = some (.val (.builtin "Exception.__init__"))) (FI : Fun K "__init__" "Fault.__init__" (inClass (topS 7) 0) fI fdI) (TC : ExcC K C fI) :
    Inits prog w K mg C fI [v, u] (fun ns => ns = fun z : Str => if z = "place" then some u else if z = "code" then some v else none) :=
  fun A R s x t0 G hx hnx hroom hq => fault_init gE vE FI TC G hx hnx (Nat.lt_of_succ_lt hroom) fun h' tk dx t1 D => hq h' tk dx t1 _ rfl D
/-- what sub_inits gives: the field code is -n -/
def codeIs (n : Int) (ns : Str → Option Value) : Prop := ∃ tv, ns = fun z : Str => if z = "code" then some (Value.int (-n) tv) else none
theorem inits_NoList (T : RefT K mg CR fR fdR) (FI : Fun K "__init__" "NoList.__init__" (inClass (topS 2) 0) fI fdI) (TC : ExcC K C fI) : Inits prog w K mg C fI [] (codeIs 1) := fun A R s x t0 G hx hnx hroom hq => by
  obtain ⟨oc, od, kV, doc, pm, an, cdv, ct, osl, rfl, lk, hcd⟩ := FI.ex
  refine Att.call_fn (binds := [("self", .ref x)]) G.kin G.lim lk hcd (Nat.lt_of_succ_lt hroom) (BindsTo.of_eq (by first | rfl | with_unfolding_all rfl)) (by first | rfl | decide | with_unfolding_all rfl) (fun s₁ IC => ?_) rfl rfl rfl
  obtain ⟨h₁, tk₁, rfl⟩ := IC.toInCall.same
  have k : ∀ b o, s.heap.get? b = some o → h₁.get? b = some o := IC.toInCall.keep
  have hn := IC.toInCall.ns
  have z1 : s.heap.objs.size < h₁.objs.size := hn.lt
  show wpAny _ _ (execs _ _) _ _ _
  refine wpAny_execs_cons (st_refinit T TC (s := { s with heap := h₁, toks := tk₁ }) hn (G.keeps k) (by first | rfl | with_unfolding_all rfl | kernel_rfl) (k _ _ hx) hnx (by exact hroom) rfl (by first | rfl | with_unfolding_all rfl) (by first | rfl | with_unfolding_all rfl) rfl (fun h2 tk2 dx t1 tv D => ?_) rfl rfl rfl rfl rfl)
  exact wpAny_execs_nil (hq h2 tk2 dx t1 _ ⟨tv, rfl⟩ ⟨fun b o hb e => D.keep b o hb (k b o e), D.obj, Nat.le_of_lt (Nat.lt_of_lt_of_le z1 D.dbig), D.dne, D.ns⟩)
theorem inits_NoSuchNumber (T : RefT K mg CR fR fdR) (FI : Fun K "__init__" "NoSuchNumber.__init__" (inClass (topS 3) 0) fI fdI) (TC : ExcC K C fI) : Inits prog w K mg C fI [] (codeIs 2) := fun A R s x t0 G hx hnx hroom hq => by
  obtain ⟨oc, od, kV, doc, pm, an, cdv, ct, osl, rfl, lk, hcd⟩ := FI.ex
  refine Att.call_fn (binds := [("self", .ref x)]) G.kin G.lim lk hcd (Nat.lt_of_succ_lt hroom) (BindsTo.of_eq (by first | rfl | with_unfolding_all rfl)) (by first | rfl | decide | with_unfolding_all rfl) (fun s₁ IC => ?_) rfl rfl rfl
  obtain ⟨h₁, tk₁, rfl⟩ := IC.toInCall.same
  have k : ∀ b o, s.heap.get? b = some o → h₁.get? b = some o := IC.toInCall.keep
  have hn := IC.toInCall.ns
  have z1 : s.heap.objs.size < h₁.objs.size := hn.lt
  show wpAny _ _ (execs _ _) _ _ _
  refine wpAny_execs_cons (st_refinit T TC (s := { s with heap := h₁, toks := tk₁ }) hn (G.keeps k) (by first | rfl | with_unfolding_all rfl | kernel_rfl) (k _ _ hx) hnx (by exact hroom) rfl (by first | rfl | with_unfolding_all rfl) (by first | rfl | with_unfolding_all rfl) rfl (fun h2 tk2 dx t1 tv D => ?_) rfl rfl rfl rfl rfl)
  exact wpAny_execs_nil (hq h2 tk2 dx t1 _ ⟨tv, rfl⟩ ⟨fun b o hb e => D.keep b o hb (k b o e), D.obj, Nat.le_of_lt (Nat.lt_of_lt_of_le z1 D.dbig), D.dne, D.ns⟩)
theorem inits_NoSuchLine (T : RefT K mg CR fR fdR) (FI : Fun K "__init__" "NoSuchLine.__init__" (inClass (topS 4) 0) fI fdI) (TC : ExcC K C fI) : Inits prog w K mg C fI [] (codeIs 3) := fun A R s x t0 G hx hnx hroom hq => by
  obtain ⟨oc, od, kV, doc, pm, an, cdv, ct, osl, rfl, lk, hcd⟩ := FI.ex
  refine Att.call_fn (binds := [("self", .ref x)]) G.kin G.lim lk hcd (Nat.lt_of_succ_lt hroom) (BindsTo.of_eq (by first | rfl | with_unfolding_all rfl)) (by first | rfl | decide | with_unfolding_all rfl) (fun s₁ IC => ?_) rfl rfl rfl
  obtain ⟨h₁, tk₁, rfl⟩ := IC.toInCall.same
  have k : ∀ b o, s.heap.get? b = some o → h₁.get? b = some o := IC.toInCall.keep
  have hn := IC.toInCall.ns
  have z1 : s.heap.objs.size < h₁.objs.size := hn.lt
  show wpAny _ _ (execs _ _) _ _ _
  refine wpAny_execs_cons (st_refinit T TC (s := { s with heap := h₁, toks := tk₁ }) hn (G.keeps k) (by first | rfl | with_unfolding_all rfl | kernel_rfl) (k _ _ hx) hnx (by exact hroom) rfl (by first | rfl | with_unfolding_all rfl) (by first | rfl | with_unfolding_all rfl) rfl (fun h2 tk2 dx t1 tv D => ?_) rfl rfl rfl rfl rfl)
  exact wpAny_execs_nil (hq h2 tk2 dx t1 _ ⟨tv, rfl⟩ ⟨fun b o hb e => D.keep b o hb (k b o e), D.obj, Nat.le_of_lt (Nat.lt_of_lt_of_le z1 D.dbig), D.dne, D.ns⟩)
theorem inits_NotAsTold (T : RefT K mg CR fR fdR) (FI : Fun K "__init__" "NotAsTold.__init__" (inClass (topS 5) 0) fI fdI) (TC : ExcC K C fI) : Inits prog w K mg C fI [] (codeIs 4) := fun A R s x t0 G hx hnx hroom hq => by
  obtain ⟨oc, od, kV, doc, pm, an, cdv, ct, osl, rfl, lk, hcd⟩ := FI.ex
  refine Att.call_fn (binds := [("self", .ref x)]) G.kin G.lim lk hcd (Nat.lt_of_succ_lt hroom) (BindsTo.of_eq (by first | rfl | with_unfolding_all rfl)) (by first | rfl | decide | with_unfolding_all rfl) (fun s₁ IC => ?_) rfl rfl rfl
  obtain ⟨h₁, tk₁, rfl⟩ := IC.toInCall.same
  have k : ∀ b o, s.heap.get? b = some o → h₁.get? b = some o := IC.toInCall.keep
  have hn := IC.toInCall.ns
  have z1 : s.heap.objs.size < h₁.objs.size := hn.lt
  show wpAny _ _ (execs _ _) _ _ _
  refine wpAny_execs_cons (st_refinit T TC (s := { s with heap := h₁, toks := tk₁ }) hn (G.keeps k) (by first | rfl | with_unfolding_all rfl | kernel_rfl) (k _ _ hx) hnx (by exact hroom) rfl (by first | rfl | with_unfolding_all rfl) (by first | rfl | with_unfolding_all rfl) rfl (fun h2 tk2 dx t1 tv D => ?_) rfl rfl rfl rfl rfl)
  exact wpAny_execs_nil (hq h2 tk2 dx t1 _ ⟨tv, rfl⟩ ⟨fun b o hb e => D.keep b o hb (k b o e), D.obj, Nat.le_of_lt (Nat.lt_of_lt_of_le z1 D.dbig), D.dne, D.ns⟩)
theorem inits_TooMany (T : RefT K mg CR fR fdR) (FI : Fun K "__init__" "TooMany.__init__" (inClass (topS 6) 0) fI fdI) (TC : ExcC K C fI) : Inits prog w K mg C fI [] (codeIs 5) := fun A R s x t0 G hx hnx hroom hq => by
  obtain ⟨oc, od, kV, doc, pm, an, cdv, ct, osl, rfl, lk, hcd⟩ := FI.ex
  refine Att.call_fn (binds := [("self", .ref x)]) G.kin G.lim lk hcd (Nat.lt_of_succ_lt hroom) (BindsTo.of_eq (by first | rfl | with_unfolding_all rfl)) (by first | rfl | decide | with_unfolding_all rfl) (fun s₁ IC => ?_) rfl rfl rfl
  obtain ⟨h₁, tk₁, rfl⟩ := IC.toInCall.same
  have k : ∀ b o, s.heap.get? b = some o → h₁.get? b = some o := IC.toInCall.keep
  have hn := IC.toInCall.ns
  have z1 : s.heap.objs.size < h₁.objs.size := hn.lt
  show wpAny _ _ (execs _ _) _ _ _
  refine wpAny_execs_cons (st_refinit T TC (s := { s with heap := h₁, toks := tk₁ }) hn (G.keeps k) (by first | rfl | with_unfolding_all rfl | kernel_rfl) (k _ _ hx) hnx (by exact hroom) rfl (by first | rfl | with_unfolding_all rfl) (by first | rfl | with_unfolding_all rfl) rfl (fun h2 tk2 dx t1 tv D => ?_) rfl rfl rfl rfl rfl)
  exact wpAny_execs_nil (hq h2 tk2 dx t1 _ ⟨tv, rfl⟩ ⟨fun b o hb e => D.keep b o hb (k b o e), D.obj, Nat.le_of_lt (Nat.lt_of_lt_of_le z1 D.dbig), D.dne, D.ns⟩)
end

/-! ### as rules of the layer -/
section
variable {X : Cx} {C CR fR fI : Addr} {fdR fdI : FuncData}
theorem glob_of {pins : List (Addr × Obj)} {σ : L2.St} {H : Hp} {s : Shared} (I : Inv X pins σ H s) : Glob X.K X.mg s.heap :=
  ⟨I.kIn, I.mod.glob.keeps I.bk, let ⟨mb, a, b⟩ := I.mod.blt; ⟨mb, a.keeps I.bk, b⟩, I.nolimit⟩
/-- a made exception, let go -/
theorem mkp_of {pins : List (Addr × Obj)} {σ : L2.St} {H1 : Hp} {hp h' : Heap} {g : Array GenState} {dr : Drawn} {tk tk' : Nat} {os : OsState} {e d t1 : Addr} {ns : Str → Option Value} {fs : List (Str × V)} {Q : XK} (TC : ExcC X.K C fI)
    (I1 : Inv X pins σ H1 ⟨hp, g, dr, tk, os⟩) (M : Made hp h' e C d t1 ns) (rel : ∀ f, RelO (fs.lookup f) (ns f)) (q : ∀ d, H1 d = none → Q (.ref C) (some d) (upd H1 d (.xd fs))) :
    L2N.MkP X pins σ Q (.ref e) ⟨h', g, dr, tk', os⟩ := by
  obtain ⟨G', g1, g2⟩ := restrict h' fun b => decide (b ≠ e)
  have gk : ∀ b, b ≠ e → G'.get? b = h'.get? b := fun b hb => g1 b (decide_eq_true hb)
  have ge : G'.get? e = none := g2 e (by simp)
  have old : ∀ b o, hp.get? b = some o → G'.get? b = some o := fun b o z => (gk b (Nat.ne_of_lt (Nat.lt_of_lt_of_le (Heap.lt_size z) M.new))).trans (M.keep b o z)
  have ob : ObjOk X.prog X.w (upd H1 d (.xd fs)) G' d (.xd fs) := ⟨_, M.ns.at (fun o z => (gk d M.dne).trans z), rel⟩
  have J : Inv X pins σ (upd H1 d (.xd fs)) ⟨G', g, dr, tk', os⟩ := I1.laid (t' := tk') old M.dbig ob
  refine ⟨e, _, _, ⟨G', g, dr, tk', os⟩, _, .ref C, some d, rfl, J, fun b o z => ?_, ge, M.obj, ⟨rfl, rfl, fun vs hv => by cases hv; rfl⟩, rfl, rfl, ?_, rfl, I1.bare, raises_own TC.exC TC.tyC, q d (I1.hok.fresh M.dbig)⟩
  · by_cases hb : b = e
    · have z' : G'.get? b = some o := z
      rw [hb, ge] at z'; cases z'
    · exact (gk b hb).symm.trans z
  · rw [upd_ne (Ne.symm M.dne)]
    exact I1.hok.fresh M.new
/-- C() of a class whose code is -n -/
def tMk0 (C : Addr) (n : Int) : L2.St → Hp → XK → Prop := fun _ H Q => ∀ d, H d = none → Q (.ref C) (some d) (upd H d (.xd [("code", .int (-n))]))
theorem pmk0 {x : Str} {n : Int} {p pos : Pos} (TC : ExcC X.K C fI) (hi : Inits X.prog X.w X.K X.mg C fI [] (codeIs n)) (hr : X.A.depth + 2 < recursionLimit) (hm : X.mg x = some (.ref C)) (hg : Gl X x) (hdb : (x == ("__debug__" : Str)) = false := by decide) :
    L2N.PMk X (.Call (.Name x p) [] [] pos) (tMk0 C n) := by
  intro pins s σ H Q I h
  refine wpAny_Call_Name_kw (ld_glob I hg hm ?_ hdb)
  show wpAny _ _ (callWith pos (.ref C) [] (backTo pos (starEach [] X.env)) []) _ _ _
  refine PySem.W.callWith_K0 I.kIn TC.kC ?_
  show wpAny _ _ (call (.ref C) []) _ _ _
  have G := glob_of I
  obtain ⟨hp, g, dr, tk, os⟩ := s
  refine wpAny_call (made TC hi G (Nat.zero_le _) (by exact hr) fun h' tk' e d t1 ns ⟨tv, hns⟩ M => ?_)
  subst hns
  refine mkp_of (fs := [("code", .int (-n))]) TC I M (fun f => ?_) h
  by_cases hw : f = "code"
  · subst hw
    rw [if_pos rfl]
    have q : List.lookup ("code" : Str) [(("code" : Str), V.int (-n))] = some (.int (-n)) := by simp [List.lookup]
    rw [q]
    exact ⟨tv, rfl⟩
  · rw [if_neg hw]
    have qw : (f == ("code" : Str)) = false := by simpa using hw
    have q2 : List.lookup f [(("code" : Str), V.int (-n))] = none := by simp [List.lookup, qw]
    rw [q2]
    trivial
abbrev faultF (v u : V) : List (Str × V) := [("place", u), ("code", v)]
/-- Fault(code, place) -/
def tMkF (C : Addr) (ta : TA) : L2.St → Hp → XK → Prop := fun σ H Q => ta σ H fun vs H1 => ∃ v u, vs = [v, u] ∧ ∀ d, H1 d = none → Q (.ref C) (some d) (upd H1 d (.xd (faultF v u)))
theorem pmkF {e1 e2 : Expr} {ta : TA} {p pos : Pos} (TC : ExcC X.K C fI) (hi : ∀ v u, Inits X.prog X.w X.K X.mg C fI [v, u] (fun ns => ns = fun z : Str => if z = "place" then some u else if z = "code" then some v else none)) (hr : X.A.depth + 2 < recursionLimit)
    (hm : X.mg "Fault" = some (.ref C)) (ha : PA X [e1, e2] ta) (hg : Gl X "Fault" := by rfl)
    (he : starEach [e1, e2] X.env = (false, eval e1 X.env) :: starEach [e2] X.env := by rfl) (hpl : (backTo pos (starEach [e2] X.env)).any (·.1) = false := by rfl) :
    L2N.PMk X (.Call (.Name "Fault" p) [e1, e2] [] pos) (tMkF C ta) := by
  intro pins s σ H Q I h
  refine wpAny_Call_Name_kw (ld_glob I hg hm ?_)
  refine PySem.W.callWith_K (h₀ := X.base) I.ok.mod.kin TC.kC (thn (ha.run pos pins s σ H _ I h) fun us s1 hh => ?_) he hpl
  obtain ⟨vs, H1, I1, r1, v, u, ev, q1⟩ := hh
  subst ev
  refine ⟨I1.kIn, ?_⟩
  cases r1 with
  | cons rv rn =>
    cases rn with
    | cons ru rn =>
      cases rn
      rename_i v' u'
      show wpAny _ _ (call (.ref C) [v', u']) _ _ _
      have G := glob_of I1
      obtain ⟨hp, g, dr, tk, os⟩ := s1
      refine wpAny_call (made TC (hi v' u') G (by show 2 ≤ sizeLine; decide) (by exact hr) fun h' tk' e d t1 ns hns M => ?_)
      subst hns
      refine mkp_of (fs := faultF v u) TC I1 M (fun f => ?_) q1
      by_cases hw : f = "place"
      · subst hw
        rw [if_pos rfl]
        have q : List.lookup ("place" : Str) (faultF v u) = some u := by simp [List.lookup]
        rw [q]
        exact ru
      · rw [if_neg hw]
        have qw : (f == ("place" : Str)) = false := by simpa using hw
        by_cases hc : f = "code"
        · subst hc
          rw [if_pos rfl]
          have q : List.lookup ("code" : Str) (faultF v u) = some v := by simp [List.lookup, qw]
          rw [q]
          exact rv
        · rw [if_neg hc]
          have qc : (f == ("code" : Str)) = false := by simpa using hc
          have q2 : List.lookup f (faultF v u) = none := by simp [List.lookup, qw, qc]
          rw [q2]
          trivial
/-- e.f in an except suite, e the exception that is held (at a; its class cls, its dict d) -/
def tXFld (C : Addr) (f : Str) (a : Addr) (cls : Value) (d : Option Addr) (te : TE) : TE := fun σ H Q => te σ H fun x H1 => x = .ref a ∧ cls = .ref C ∧ ∃ (dd : Addr) (fs : List (Str × V)) (v : V), d = some dd ∧ H1 dd = some (.xd fs) ∧ fs.lookup f = some v ∧ Q v H1
end
end PwX

/-! ## PwExF -/
namespace PwX
open PySem PySem.W PySem.Calls PyProof.Rows PySem.HandSPX L2

/-- an own error made where its context is None, as the plainer layer has it -/
theorem pmk_plain {X : Cx} {e : Expr} {t : L2.St → Hp → XK → Prop} (h : L2N.PMk X e t) : L2.PMk X e t := fun pins s σ H Q I q => thn (h pins s σ H Q I q) fun u s' ⟨a, oe, vs, sI, H', cls, d, e1, e2, e3, e4, e5, e6, r⟩ => ⟨a, oe, vs, sI, H', cls, d, e1, e2, e3, e4, e5, e6.zc, r⟩
theorem cx_plain {P : Program} {w : World} {outer : List Env} {H : Hp} {s : Shared} {E : XK} {u : Value} {s' : Shared} (h : L2N.CX P w outer H s E u s') : L2.CX P w outer H s E u s' := by
  obtain ⟨a, B, H', cls, d, e1, fl, r⟩ := h
  exact ⟨a, B, H', cls, d, e1, L2H.flyingZ_imp (fun o z => z.zc) fl, r⟩
/-- in a try whose errors are told plainly: a call whose errors have no context -/
theorem passN {X : Cx} {W : WX} (tk : L2.Takes X W) (σ : L2.St) : PassesAt (L2N.CX X.prog X.w) X σ (WE W σ) := fun pins H s e s' I c => passAt tk σ pins H s e s' I (cx_plain c)
/-- out of a def, errors told plainly: a call whose errors are told plainly -/
theorem passD {X : Cx} {E : XK} (tk : L2.Takes X (fun cls d _ H => E cls d H)) : Passes (L2.CX X.prog X.w) X E := fun pins σ H s e s' I c => L2.passes_call tk (fun _ _ _ _ h => h) pins σ H s e s' I c
/-- out of a def, errors without context: a call of such -/
theorem passDN {X : Cx} {E : XK} (tk : L2N.Takes X (fun cls d _ H => E cls d H)) : Passes (L2N.CX X.prog X.w) X E := fun pins σ H s e s' I c => L2N.passes_call tk (fun _ _ _ _ h => h) pins σ H s e s' I c
/-- e.f in an except suite, e the exception that is held (at a; its class cls, its dict d) -/
def tXF (K : Frag) (f : Str) (a : Addr) (cls : Value) (d : Option Addr) (te : TE) : TE := fun σ H Q => te σ H fun x H1 => x = .ref a ∧ ∃ (C fI dd : Addr) (fs : List (Str × V)) (v : V), cls = .ref C ∧ ExcC K C fI ∧ findIn K (.ref C) f = some none ∧ d = some dd ∧ H1 dd = some (.xd fs) ∧ fs.lookup f = some v ∧ Q v H1
theorem pe_xf {X : Cx} {a : Addr} {oe : Obj} {cls : Value} {d : Option Addr} {pn : List (Addr × Obj)} {e : Expr} {te : TE} {pos : Pos} {f : Str} (hz : Zc cls d oe) (hf : ∃ vs, oe.data = .fields vs) (he : PE (X.suite a ((a, oe) :: pn)) e te)
    (hb : attributeBase e f X.env (eval e X.env) = eval e X.env := by rfl) : PE (X.suite a ((a, oe) :: pn)) (.Attribute e f pos) (tXF X.K f a cls d te) := by
  refine ⟨fun pins s σ H Q I h => ?_⟩
  refine attr_of hb (thn (he.run pins s σ H _ I h) fun u s1 hh => ?_)
  obtain ⟨x, H1, I1, rx, ex, C, fI, dd, fs, v, ec, T, hn, ed, ea, hl, q⟩ := hh
  subst ex
  obtain rfl : u = Value.ref a := rx
  subst ec
  subst ed
  obtain ⟨ha, _⟩ := I1.pin (a, oe) (List.mem_append_left _ List.mem_cons_self)
  obtain ⟨vs, hd⟩ := hf
  have hx : ObjOk X.prog X.w H1 s1.heap dd (.xd fs) := I1.hok dd _ ea
  obtain ⟨mA, hns, hr⟩ := hx
  obtain ⟨od, ho, hlk⟩ := lookIn_ns hns
  obtain ⟨u, hu, ru⟩ := RelO.some_of (v := v) (o := mA f) (by rw [← hl]; exact hr f)
  have J : PySem.W.InstAt s1.heap a oe C (some od) := ⟨ha, hz.1, by unfold PySem.W.notCls; rw [hd] <;> rfl, by rw [hz.2]; exact ho⟩
  exact HandSPX.exc_get I1.kIn J T.ga T.gg T.exC (PySem.W.findObj_own T.hdC hn rfl (by rw [hlk, hu])) (handed_of ru) ⟨v, H1, I1.tok _, ru, q⟩
end PwX

/-! ## PwEnv -/
namespace PwX
open PySem PySem.W PySem.Calls PyProof.Rows PySem.HandSPX L2

/-! ### what the top has written, by names -/
structure GI (mg : Str → Option Value) (x : Str) (i : Int) where
  t : Tok
  e : mg x = some (.int i t)
structure GS (mg : Str → Option Value) (x z : Str) where
  t : Tok
  e : mg x = some (.str z t)
structure GT (K : Frag) (mg : Str → Option Value) (x : Str) (vs : List V) where
  a : Addr
  g : mg x = some (.ref a)
  s : ∀ H : Hp, SqT K H a vs
structure GC (mg : Str → Option Value) (x : Str) where
  C : Addr
  g : mg x = some (.ref C)
structure GK (K : Frag) (mg : Str → Option Value) (x : Str) where
  C : Addr
  g : mg x = some (.ref C)
  cl : Cls K C
structure GM (K : Frag) (C : Addr) (m q : Str) (st : Stmt) (ps : List Str) where
  f : Addr
  fd : FuncData
  F : Fun K m q st f fd
  b : Binds K fd ps []
  at_ : Meth K C m f
structure GD (K : Frag) (mg : Str → Option Value) (x : Str) (st : Stmt) (ps : List Str) where
  f : Addr
  fd : FuncData
  F : Fun K x x st f fd
  b : Binds K fd ps []
  g : mg x = some (.ref f)
structure IsK (K : Frag) (C D : Addr) (b : Bool) : Prop where
  ha : findIn K (.ref C) "__class__" = some (some (.builtin "object.__class__"))
  hn : specialIn K (.builtin "object.__class__") "__get__" = some (some (.builtin "getset_descriptor.__get__"))
  tk : takesIn K (.builtin "object.__class__") = some true
  mr : mroIn K C (.type "object") = some true
  is : kitOne K (.ref C) (.ref D) = some b

structure PEnv (K : PySem.W.Frag) (mg : Str → Option Value) where
  b_len : mg "len" = none
  b_all : mg "all" = none
  b_ord : mg "ord" = none
  b_str : mg "str" = none
  b_int : mg "int" = none
  b_list : mg "list" = none
  b_max : mg "max" = none
  b_sum : mg "sum" = none
  b_range : mg "range" = none
  b_enumerate : mg "enumerate" = none
  b_isinstance : mg "isinstance" = none
  b_Exception : mg "Exception" = none
  c_TEXT_TOO_LONG : GI mg "TEXT_TOO_LONG" 1
  c_NO_TOKEN : GI mg "NO_TOKEN" 2
  c_NOT_ALLOWED_HERE : GI mg "NOT_ALLOWED_HERE" 3
  c_ONE_TOO_MANY : GI mg "ONE_TOO_MANY" 4
  c_TOLD_BEFORE : GI mg "TOLD_BEFORE" 5
  c_CHUNK_NOT_AS_TOLD : GI mg "CHUNK_NOT_AS_TOLD" 7
  c_LINE_END : GI mg "LINE_END" 10
  c_REMARK : GI mg "REMARK" 35
  c_SEMICOLON : GI mg "SEMICOLON" 59
  c_SMALL_LETTERS : GS mg "SMALL_LETTERS" "abcdefghijklmnopqrstuvwxyz"
  c_DIGITS : GS mg "DIGITS" "0123456789"
  c_FEWEST_LETTERS_OF_WORD : GI mg "FEWEST_LETTERS_OF_WORD" 2
  c_MOST_LETTERS_OF_WORD : GI mg "MOST_LETTERS_OF_WORD" 16
  c_MOST_LETTERS_OF_PATTERN : GI mg "MOST_LETTERS_OF_PATTERN" 6
  c_PATTERN_DIGITS : GS mg "PATTERN_DIGITS" "123456789"
  c_MOST_WORDS : GI mg "MOST_WORDS" 24
  c_MOST_PATTERNS : GI mg "MOST_PATTERNS" 40
  c_LONGEST_CHUNK : GI mg "LONGEST_CHUNK" 40
  c_TEXT_END : GS mg "TEXT_END" ""
  c_LINE_SIGN : GS mg "LINE_SIGN" ";"
  c_LONGEST_TEXT : GI mg "LONGEST_TEXT" 4096
  c_GREATEST_MARGIN : GI mg "GREATEST_MARGIN" 5
  c_A_WORD : GI mg "A_WORD" 0
  c_A_PATTERN : GI mg "A_PATTERN" 1
  c_MOST_PLACES : GI mg "MOST_PLACES" 100
  c_LOAD : GI mg "LOAD" 0
  c_SHOWN : GI mg "SHOWN" 1
  c_REPORT : GI mg "REPORT" 2
  c_MARGINS_patterns : GI mg "MARGINS_patterns" 3
  c_PUT : GI mg "PUT" 4
  c_DROP : GI mg "DROP" 5
  c_NEEDLESS : GI mg "NEEDLESS" 6
  c_SLIM : GI mg "SLIM" 7
  c_JOINT : GI mg "JOINT" 8
  margs : GT K mg "MARGINS_list_texts" [.str "0", .str "1", .str "2", .str "3", .str "4", .str "5"]
  Refusal : GC mg "Refusal"
  Refusal_init : GM K Refusal.C "__init__" "Refusal.__init__" s_Refusal_init ["self", "code"]
  Refusal_T : ExcC K Refusal.C Refusal_init.f
  NoList : GC mg "NoList"
  NoList_init : GM K NoList.C "__init__" "NoList.__init__" s_NoList_init ["self"]
  NoList_T : ExcC K NoList.C NoList_init.f
  NoSuchNumber : GC mg "NoSuchNumber"
  NoSuchNumber_init : GM K NoSuchNumber.C "__init__" "NoSuchNumber.__init__" s_NoSuchNumber_init ["self"]
  NoSuchNumber_T : ExcC K NoSuchNumber.C NoSuchNumber_init.f
  NoSuchLine : GC mg "NoSuchLine"
  NoSuchLine_init : GM K NoSuchLine.C "__init__" "NoSuchLine.__init__" s_NoSuchLine_init ["self"]
  NoSuchLine_T : ExcC K NoSuchLine.C NoSuchLine_init.f
  NotAsTold : GC mg "NotAsTold"
  NotAsTold_init : GM K NotAsTold.C "__init__" "NotAsTold.__init__" s_NotAsTold_init ["self"]
  NotAsTold_T : ExcC K NotAsTold.C NotAsTold_init.f
  TooMany : GC mg "TooMany"
  TooMany_init : GM K TooMany.C "__init__" "TooMany.__init__" s_TooMany_init ["self"]
  TooMany_T : ExcC K TooMany.C TooMany_init.f
  Fault : GC mg "Fault"
  Fault_init : GM K Fault.C "__init__" "Fault.__init__" s_Fault_init ["self", "code", "place"]
  Fault_T : ExcC K Fault.C Fault_init.f
  Word : GK K mg "Word"
  Word_n_letters : NoAttr K Word.C "letters"
  Word_n_gaps : NoAttr K Word.C "gaps"
  Word_init : GM K Word.C "__init__" "Word.__init__" s_Word_init ["self", "letters", "gaps"]
  Word_mk : Mk K Word.C Word_init.f
  Pattern : GK K mg "Pattern"
  Pattern_n_letters : NoAttr K Pattern.C "letters"
  Pattern_n_at_front : NoAttr K Pattern.C "at_front"
  Pattern_n_at_end : NoAttr K Pattern.C "at_end"
  Pattern_n_digits : NoAttr K Pattern.C "digits"
  Pattern_init : GM K Pattern.C "__init__" "Pattern.__init__" s_Pattern_init ["self", "letters", "at_front", "at_end", "digits"]
  Pattern_mk : Mk K Pattern.C Pattern_init.f
  WordList : GK K mg "WordList"
  WordList_n_left_margin : NoAttr K WordList.C "left_margin"
  WordList_n_right_margin : NoAttr K WordList.C "right_margin"
  WordList_n_words : NoAttr K WordList.C "words"
  WordList_n_patterns : NoAttr K WordList.C "patterns"
  WordList_init : GM K WordList.C "__init__" "WordList.__init__" s_WordList_init ["self", "left_margin", "right_margin", "words", "patterns"]
  WordList_mk : Mk K WordList.C WordList_init.f
  Token : GK K mg "Token"
  Token_n_signs : NoAttr K Token.C "signs"
  Token_n_place : NoAttr K Token.C "place"
  Token_init : GM K Token.C "__init__" "Token.__init__" s_Token_init ["self", "signs", "place"]
  Token_is_chunk : GM K Token.C "is_chunk" "Token.is_chunk" s_Token_is_chunk ["self"]
  Token_mk : Mk K Token.C Token_init.f
  TextReader : GK K mg "TextReader"
  TextReader_n_tokens : NoAttr K TextReader.C "tokens"
  TextReader_n_at : NoAttr K TextReader.C "at"
  TextReader_init : GM K TextReader.C "__init__" "TextReader.__init__" s_TextReader_init ["self", "text"]
  TextReader_token : GM K TextReader.C "token" "TextReader.token" s_TextReader_token ["self"]
  TextReader_stands : GM K TextReader.C "stands" "TextReader.stands" s_TextReader_stands ["self", "signs"]
  TextReader_skip : GM K TextReader.C "skip" "TextReader.skip" s_TextReader_skip ["self"]
  TextReader_take : GM K TextReader.C "take" "TextReader.take" s_TextReader_take ["self", "signs"]
  TextReader_take_end : GM K TextReader.C "take_end" "TextReader.take_end" s_TextReader_take_end ["self"]
  TextReader_chunk : GM K TextReader.C "chunk" "TextReader.chunk" s_TextReader_chunk ["self"]
  TextReader_mk : Mk K TextReader.C TextReader_init.f
  Standing : GK K mg "Standing"
  Standing_n_hits : NoAttr K Standing.C "hits"
  Standing_n_faults : NoAttr K Standing.C "faults"
  Standing_n_misses : NoAttr K Standing.C "misses"
  Standing_init : GM K Standing.C "__init__" "Standing.__init__" s_Standing_init ["self", "hits", "faults", "misses"]
  Standing_is_exact : GM K Standing.C "is_exact" "Standing.is_exact" s_Standing_is_exact ["self"]
  Standing_mk : Mk K Standing.C Standing_init.f
  Desk : GK K mg "Desk"
  Desk_n_held : NoAttr K Desk.C "held"
  Desk_init : GM K Desk.C "__init__" "Desk.__init__" s_Desk_init ["self"]
  Desk_held_list : GM K Desk.C "held_list" "Desk.held_list" s_Desk_held_list ["self"]
  Desk_load : GM K Desk.C "load" "Desk.load" s_Desk_load ["self", "text"]
  Desk_shown : GM K Desk.C "shown" "Desk.shown" s_Desk_shown ["self"]
  Desk_report : GM K Desk.C "report" "Desk.report" s_Desk_report ["self", "number"]
  Desk_margins : GM K Desk.C "margins" "Desk.margins" s_Desk_margins ["self"]
  Desk_change : GM K Desk.C "change" "Desk.change" s_Desk_change ["self", "changed"]
  Desk_put : GM K Desk.C "put" "Desk.put" s_Desk_put ["self", "text"]
  Desk_drop : GM K Desk.C "drop" "Desk.drop" s_Desk_drop ["self", "kind", "number"]
  Desk_needless : GM K Desk.C "needless" "Desk.needless" s_Desk_needless ["self"]
  Desk_slim : GM K Desk.C "slim" "Desk.slim" s_Desk_slim ["self"]
  Desk_joint : GM K Desk.C "joint" "Desk.joint" s_Desk_joint ["self", "told"]
  Desk_break_line : GM K Desk.C "break_line" "Desk.break_line" s_Desk_break_line ["self", "places_left", "told"]
  Desk_mk : Mk K Desk.C Desk_init.f
  CallReader : GK K mg "CallReader"
  CallReader_n_calls : NoAttr K CallReader.C "calls"
  CallReader_n_at : NoAttr K CallReader.C "at"
  CallReader_init : GM K CallReader.C "__init__" "CallReader.__init__" s_CallReader_init ["self", "calls"]
  CallReader_is_done : GM K CallReader.C "is_done" "CallReader.is_done" s_CallReader_is_done ["self"]
  CallReader_number : GM K CallReader.C "number" "CallReader.number" s_CallReader_number ["self"]
  CallReader_row : GM K CallReader.C "row" "CallReader.row" s_CallReader_row ["self"]
  CallReader_mk : Mk K CallReader.C CallReader_init.f
  is_blank : GD K mg "is_blank" s_is_blank ["byte"]
  is_small_letter : GD K mg "is_small_letter" s_is_small_letter ["byte"]
  is_digit : GD K mg "is_digit" s_is_digit ["byte"]
  is_hyphen : GD K mg "is_hyphen" s_is_hyphen ["byte"]
  is_point : GD K mg "is_point" s_is_point ["byte"]
  is_of_chunk : GD K mg "is_of_chunk" s_is_of_chunk ["byte"]
  sign_of : GD K mg "sign_of" s_sign_of ["byte"]
  signs_of : GD K mg "signs_of" s_signs_of ["chunk"]
  bytes_of : GD K mg "bytes_of" s_bytes_of ["signs"]
  word_of : GD K mg "word_of" s_word_of ["chunk"]
  pattern_of : GD K mg "pattern_of" s_pattern_of ["chunk"]
  same_pattern : GD K mg "same_pattern" s_same_pattern ["one", "other"]
  number_of_word : GD K mg "number_of_word" s_number_of_word ["words", "letters"]
  number_of_pattern : GD K mg "number_of_pattern" s_number_of_pattern ["patterns", "wanted"]
  remark_end : GD K mg "remark_end" s_remark_end ["text", "place"]
  chunk_end : GD K mg "chunk_end" s_chunk_end ["text", "place"]
  tokens_of : GD K mg "tokens_of" s_tokens_of ["text"]
  read_margin : GD K mg "read_margin" s_read_margin ["reader"]
  read_word : GD K mg "read_word" s_read_word ["reader", "earlier"]
  read_pattern : GD K mg "read_pattern" s_read_pattern ["reader", "earlier"]
  list_of : GD K mg "list_of" s_list_of ["text"]
  item_of : GD K mg "item_of" s_item_of ["text"]
  written_word : GD K mg "written_word" s_written_word ["word"]
  written_pattern : GD K mg "written_pattern" s_written_pattern ["pattern"]
  one_form : GD K mg "one_form" s_one_form ["word_list"]
  fits_at : GD K mg "fits_at" s_fits_at ["pattern", "letters", "place"]
  fitting_places : GD K mg "fitting_places" s_fitting_places ["pattern", "letters"]
  levels_of : GD K mg "levels_of" s_levels_of ["patterns", "letters"]
  gaps_within : GD K mg "gaps_within" s_gaps_within ["letters", "left_margin", "right_margin"]
  parted_gaps : GD K mg "parted_gaps" s_parted_gaps ["word_list", "letters"]
  standing_of : GD K mg "standing_of" s_standing_of ["word_list", "word"]
  standings : GD K mg "standings" s_standings ["word_list"]
  with_margins : GD K mg "with_margins" s_with_margins ["word_list", "left_margin", "right_margin"]
  margins_tried : GD K mg "margins_tried" s_margins_tried ["word_list"]
  with_words : GD K mg "with_words" s_with_words ["word_list", "words"]
  with_patterns : GD K mg "with_patterns" s_with_patterns ["word_list", "patterns"]
  replaced_or_added : GD K mg "replaced_or_added" s_replaced_or_added ["entries", "number", "entry"]
  with_item : GD K mg "with_item" s_with_item ["word_list", "item"]
  without_word : GD K mg "without_word" s_without_word ["word_list", "number"]
  without_pattern : GD K mg "without_pattern" s_without_pattern ["word_list", "number"]
  is_touched : GD K mg "is_touched" s_is_touched ["before", "after", "letters"]
  touched_words : GD K mg "touched_words" s_touched_words ["before", "after"]
  partings : GD K mg "partings" s_partings ["word_list"]
  needless_patterns : GD K mg "needless_patterns" s_needless_patterns ["word_list"]
  slim_once : GD K mg "slim_once" s_slim_once ["word_list", "wanted"]
  made_slim : GD K mg "made_slim" s_made_slim ["word_list"]
  joints_of : GD K mg "joints_of" s_joints_of ["word_list", "letters"]
  parted_as_two : GD K mg "parted_as_two" s_parted_as_two ["word_list", "letters", "joint"]
  break_of : GD K mg "break_of" s_break_of ["word_list", "letters", "places_left"]
  letters_of : GD K mg "letters_of" s_letters_of ["told"]
  check_number : GD K mg "check_number" s_check_number ["number", "entries"]
  answer_to : GD K mg "answer_to" s_answer_to ["desk", "call", "reader"]
  answers : GD K mg "answers" s_answers ["calls"]
  refR : findCls K (.type "Exception") (.type "type") "__init__" = some (.val (.builtin "Exception.__init__"))
  refD : readsIn K Refusal.C (.type "type") = true
  refG : specialIn K (.ref Refusal.C) "__getattribute__" = some (some (.builtin "type.__getattribute__"))
  refV : findCls K (.ref Refusal.C) (.type "type") "__init__" = some (.val (.ref Refusal_init.f))
  x_NoList : exmOne K (.ref NoList.C) (.ref Refusal.C) = some true
  x_NoSuchNumber : exmOne K (.ref NoSuchNumber.C) (.ref Refusal.C) = some true
  x_NoSuchLine : exmOne K (.ref NoSuchLine.C) (.ref Refusal.C) = some true
  x_NotAsTold : exmOne K (.ref NotAsTold.C) (.ref Refusal.C) = some true
  x_TooMany : exmOne K (.ref TooMany.C) (.ref Refusal.C) = some true
  x_Fault : exmOne K (.ref Fault.C) (.ref Fault.C) = some true
  k_Word : IsK K Word.C Word.C true
  k_Pattern : IsK K Pattern.C Word.C false


section
variable {K : Frag} {mg : Str → Option Value}
theorem refT (T : PEnv K mg) : RefT K mg T.Refusal.C T.Refusal_init.f T.Refusal_init.fd := ⟨T.b_Exception, T.refR, T.Refusal.g, T.refD, T.refG, T.refV, T.Refusal_init.F⟩
theorem faultI (T : PEnv K mg) {prog : Program} {w : World} (v u : Value) : Inits prog w K mg T.Fault.C T.Fault_init.f [v, u] (fun ns => ns = fun z : Str => if z = "place" then some u else if z = "code" then some v else none) :=
  fault_inits T.b_Exception T.refR T.Fault_init.F T.Fault_T
theorem NoListI (T : PEnv K mg) {prog : Program} {w : World} : Inits prog w K mg T.NoList.C T.NoList_init.f [] (codeIs 1) := inits_NoList (refT T) T.NoList_init.F T.NoList_T
theorem NoSuchNumberI (T : PEnv K mg) {prog : Program} {w : World} : Inits prog w K mg T.NoSuchNumber.C T.NoSuchNumber_init.f [] (codeIs 2) := inits_NoSuchNumber (refT T) T.NoSuchNumber_init.F T.NoSuchNumber_T
theorem NoSuchLineI (T : PEnv K mg) {prog : Program} {w : World} : Inits prog w K mg T.NoSuchLine.C T.NoSuchLine_init.f [] (codeIs 3) := inits_NoSuchLine (refT T) T.NoSuchLine_init.F T.NoSuchLine_T
theorem NotAsToldI (T : PEnv K mg) {prog : Program} {w : World} : Inits prog w K mg T.NotAsTold.C T.NotAsTold_init.f [] (codeIs 4) := inits_NotAsTold (refT T) T.NotAsTold_init.F T.NotAsTold_T
theorem TooManyI (T : PEnv K mg) {prog : Program} {w : World} : Inits prog w K mg T.TooMany.C T.TooMany_init.f [] (codeIs 5) := inits_TooMany (refT T) T.TooMany_init.F T.TooMany_T
theorem room2 {A : Around} {k : Nat} (hr : Room k A) : A.depth + 2 < recursionLimit := by have := hr.dp; omega
/-- a def whose errors have no context -/
theorem okN {P : Program} {w : World} {base : Heap} {x qual : Str} {st : Stmt} {f : Addr} {fd : FuncData} {N ps : List Str} {k : Nat} {sp : Sp} (F : Fun K x qual st f fd) (S : FnScope N ps (defScope st)) (len : ∀ vs H Q E, sp vs H Q E → vs.length = ps.length)
    (hbody : ∀ (cdv : Value) (A : Around) (outer : List Env) (s : Shared) (H : Hp) (vs : List V) (Q : VK) (E : XK), Room k (A.deeper (envOfC qual (defScope st) s.heap.objs.size f cdv)) → sp vs H Q E →
      ∃ t, PSs (cxOf (L2N.CX P w) P w K mg base N qual (defScope st) f cdv A outer s H E) (defBody st) t ∧ t { nx := fun _ H' => Q .non H', rt := Q } (start N vs) H) : FnOk P w K mg base (L2N.CX P w) (k + 1) f fd ps sp := by
  obtain ⟨oc, od, kV, doc, pm, an, cdv, ct, osl, rfl, lk, hcd⟩ := F.ex
  exact fn_of lk hcd S len fun A outer s H vs Q E hr hsp => hbody cdv A outer s H vs Q E hr hsp
end
end PwX

/-! ## PwCls -/
namespace PwX
open PySem PySem.Spec PyProof.Rows L2
open VahypBase (Bytes)
section
variable {K : PySem.W.Frag} {mg : Str → Option Value}
theorem lk_here {k : Str} {v : V} {r : List (Str × V)} : List.lookup k ((k, v) :: r) = some v := by
  have e : (k == k) = true := beq_self_eq_true k
  simp only [List.lookup, e]
theorem lk_past {k g : Str} {v : V} {r : List (Str × V)} (h : (k == g) = false) : List.lookup k ((g, v) :: r) = List.lookup k r := by
  simp only [List.lookup, h]
theorem put_here {f : Str} {v x : V} {r : List (Str × V)} : putF f v ((f, x) :: r) = (f, v) :: r := if_pos rfl
theorem put_past {f g : Str} {v x : V} {r : List (Str × V)} (h : ¬ g = f) : putF f v ((g, x) :: r) = (g, x) :: putF f v r := if_neg h
abbrev WordF (x_letters x_gaps : V) : List (Str × V) := [("letters", x_letters), ("gaps", x_gaps)]
theorem Word_f_letters (T : PEnv K mg) {a dx : Addr} {x_letters x_gaps : V} {H : Hp} {Q : VK} (h : H a = some (.ins T.Word.C dx (WordF x_letters x_gaps))) (q : Q x_letters H) :
    ∃ (a' C dx' : Addr) (fs : List (Str × V)) (v : V), V.ref a = .ref a' ∧ H a' = some (.ins C dx' fs) ∧ Cls K C ∧ NoAttr K C "letters" ∧ fs.lookup ("letters" : Str) = some v ∧ Q v H :=
  ⟨a, _, dx, _, _, rfl, h, T.Word.cl, T.Word_n_letters, lk_here, q⟩
theorem Word_f_gaps (T : PEnv K mg) {a dx : Addr} {x_letters x_gaps : V} {H : Hp} {Q : VK} (h : H a = some (.ins T.Word.C dx (WordF x_letters x_gaps))) (q : Q x_gaps H) :
    ∃ (a' C dx' : Addr) (fs : List (Str × V)) (v : V), V.ref a = .ref a' ∧ H a' = some (.ins C dx' fs) ∧ Cls K C ∧ NoAttr K C "gaps" ∧ fs.lookup ("gaps" : Str) = some v ∧ Q v H :=
  ⟨a, _, dx, _, _, rfl, h, T.Word.cl, T.Word_n_gaps, (lk_past (by decide +kernel)).trans lk_here, q⟩
theorem Word_put {x_letters x_gaps : V} : (putF "gaps" x_gaps (putF "letters" x_letters [])) = WordF x_letters x_gaps := by
  rfl
abbrev PatternF (x_letters x_at_front x_at_end x_digits : V) : List (Str × V) := [("letters", x_letters), ("at_front", x_at_front), ("at_end", x_at_end), ("digits", x_digits)]
theorem Pattern_f_letters (T : PEnv K mg) {a dx : Addr} {x_letters x_at_front x_at_end x_digits : V} {H : Hp} {Q : VK} (h : H a = some (.ins T.Pattern.C dx (PatternF x_letters x_at_front x_at_end x_digits))) (q : Q x_letters H) :
    ∃ (a' C dx' : Addr) (fs : List (Str × V)) (v : V), V.ref a = .ref a' ∧ H a' = some (.ins C dx' fs) ∧ Cls K C ∧ NoAttr K C "letters" ∧ fs.lookup ("letters" : Str) = some v ∧ Q v H :=
  ⟨a, _, dx, _, _, rfl, h, T.Pattern.cl, T.Pattern_n_letters, lk_here, q⟩
theorem Pattern_f_at_front (T : PEnv K mg) {a dx : Addr} {x_letters x_at_front x_at_end x_digits : V} {H : Hp} {Q : VK} (h : H a = some (.ins T.Pattern.C dx (PatternF x_letters x_at_front x_at_end x_digits))) (q : Q x_at_front H) :
    ∃ (a' C dx' : Addr) (fs : List (Str × V)) (v : V), V.ref a = .ref a' ∧ H a' = some (.ins C dx' fs) ∧ Cls K C ∧ NoAttr K C "at_front" ∧ fs.lookup ("at_front" : Str) = some v ∧ Q v H :=
  ⟨a, _, dx, _, _, rfl, h, T.Pattern.cl, T.Pattern_n_at_front, (lk_past (by decide +kernel)).trans lk_here, q⟩
theorem Pattern_f_at_end (T : PEnv K mg) {a dx : Addr} {x_letters x_at_front x_at_end x_digits : V} {H : Hp} {Q : VK} (h : H a = some (.ins T.Pattern.C dx (PatternF x_letters x_at_front x_at_end x_digits))) (q : Q x_at_end H) :
    ∃ (a' C dx' : Addr) (fs : List (Str × V)) (v : V), V.ref a = .ref a' ∧ H a' = some (.ins C dx' fs) ∧ Cls K C ∧ NoAttr K C "at_end" ∧ fs.lookup ("at_end" : Str) = some v ∧ Q v H :=
  ⟨a, _, dx, _, _, rfl, h, T.Pattern.cl, T.Pattern_n_at_end, (lk_past (by decide +kernel)).trans ((lk_past (by decide +kernel)).trans lk_here), q⟩
theorem Pattern_f_digits (T : PEnv K mg) {a dx : Addr} {x_letters x_at_front x_at_end x_digits : V} {H : Hp} {Q : VK} (h : H a = some (.ins T.Pattern.C dx (PatternF x_letters x_at_front x_at_end x_digits))) (q : Q x_digits H) :
    ∃ (a' C dx' : Addr) (fs : List (Str × V)) (v : V), V.ref a = .ref a' ∧ H a' = some (.ins C dx' fs) ∧ Cls K C ∧ NoAttr K C "digits" ∧ fs.lookup ("digits" : Str) = some v ∧ Q v H :=
  ⟨a, _, dx, _, _, rfl, h, T.Pattern.cl, T.Pattern_n_digits, (lk_past (by decide +kernel)).trans ((lk_past (by decide +kernel)).trans ((lk_past (by decide +kernel)).trans lk_here)), q⟩
theorem Pattern_put {x_letters x_at_front x_at_end x_digits : V} : (putF "digits" x_digits (putF "at_end" x_at_end (putF "at_front" x_at_front (putF "letters" x_letters [])))) = PatternF x_letters x_at_front x_at_end x_digits := by
  rfl
abbrev WordListF (x_left_margin x_right_margin x_words x_patterns : V) : List (Str × V) := [("left_margin", x_left_margin), ("right_margin", x_right_margin), ("words", x_words), ("patterns", x_patterns)]
theorem WordList_f_left_margin (T : PEnv K mg) {a dx : Addr} {x_left_margin x_right_margin x_words x_patterns : V} {H : Hp} {Q : VK} (h : H a = some (.ins T.WordList.C dx (WordListF x_left_margin x_right_margin x_words x_patterns))) (q : Q x_left_margin H) :
    ∃ (a' C dx' : Addr) (fs : List (Str × V)) (v : V), V.ref a = .ref a' ∧ H a' = some (.ins C dx' fs) ∧ Cls K C ∧ NoAttr K C "left_margin" ∧ fs.lookup ("left_margin" : Str) = some v ∧ Q v H :=
  ⟨a, _, dx, _, _, rfl, h, T.WordList.cl, T.WordList_n_left_margin, lk_here, q⟩
theorem WordList_f_right_margin (T : PEnv K mg) {a dx : Addr} {x_left_margin x_right_margin x_words x_patterns : V} {H : Hp} {Q : VK} (h : H a = some (.ins T.WordList.C dx (WordListF x_left_margin x_right_margin x_words x_patterns))) (q : Q x_right_margin H) :
    ∃ (a' C dx' : Addr) (fs : List (Str × V)) (v : V), V.ref a = .ref a' ∧ H a' = some (.ins C dx' fs) ∧ Cls K C ∧ NoAttr K C "right_margin" ∧ fs.lookup ("right_margin" : Str) = some v ∧ Q v H :=
  ⟨a, _, dx, _, _, rfl, h, T.WordList.cl, T.WordList_n_right_margin, (lk_past (by decide +kernel)).trans lk_here, q⟩
theorem WordList_f_words (T : PEnv K mg) {a dx : Addr} {x_left_margin x_right_margin x_words x_patterns : V} {H : Hp} {Q : VK} (h : H a = some (.ins T.WordList.C dx (WordListF x_left_margin x_right_margin x_words x_patterns))) (q : Q x_words H) :
    ∃ (a' C dx' : Addr) (fs : List (Str × V)) (v : V), V.ref a = .ref a' ∧ H a' = some (.ins C dx' fs) ∧ Cls K C ∧ NoAttr K C "words" ∧ fs.lookup ("words" : Str) = some v ∧ Q v H :=
  ⟨a, _, dx, _, _, rfl, h, T.WordList.cl, T.WordList_n_words, (lk_past (by decide +kernel)).trans ((lk_past (by decide +kernel)).trans lk_here), q⟩
theorem WordList_f_patterns (T : PEnv K mg) {a dx : Addr} {x_left_margin x_right_margin x_words x_patterns : V} {H : Hp} {Q : VK} (h : H a = some (.ins T.WordList.C dx (WordListF x_left_margin x_right_margin x_words x_patterns))) (q : Q x_patterns H) :
    ∃ (a' C dx' : Addr) (fs : List (Str × V)) (v : V), V.ref a = .ref a' ∧ H a' = some (.ins C dx' fs) ∧ Cls K C ∧ NoAttr K C "patterns" ∧ fs.lookup ("patterns" : Str) = some v ∧ Q v H :=
  ⟨a, _, dx, _, _, rfl, h, T.WordList.cl, T.WordList_n_patterns, (lk_past (by decide +kernel)).trans ((lk_past (by decide +kernel)).trans ((lk_past (by decide +kernel)).trans lk_here)), q⟩
theorem WordList_put {x_left_margin x_right_margin x_words x_patterns : V} : (putF "patterns" x_patterns (putF "words" x_words (putF "right_margin" x_right_margin (putF "left_margin" x_left_margin [])))) = WordListF x_left_margin x_right_margin x_words x_patterns := by
  rfl
abbrev TokenF (x_signs x_place : V) : List (Str × V) := [("signs", x_signs), ("place", x_place)]
theorem Token_f_signs (T : PEnv K mg) {a dx : Addr} {x_signs x_place : V} {H : Hp} {Q : VK} (h : H a = some (.ins T.Token.C dx (TokenF x_signs x_place))) (q : Q x_signs H) :
    ∃ (a' C dx' : Addr) (fs : List (Str × V)) (v : V), V.ref a = .ref a' ∧ H a' = some (.ins C dx' fs) ∧ Cls K C ∧ NoAttr K C "signs" ∧ fs.lookup ("signs" : Str) = some v ∧ Q v H :=
  ⟨a, _, dx, _, _, rfl, h, T.Token.cl, T.Token_n_signs, lk_here, q⟩
theorem Token_f_place (T : PEnv K mg) {a dx : Addr} {x_signs x_place : V} {H : Hp} {Q : VK} (h : H a = some (.ins T.Token.C dx (TokenF x_signs x_place))) (q : Q x_place H) :
    ∃ (a' C dx' : Addr) (fs : List (Str × V)) (v : V), V.ref a = .ref a' ∧ H a' = some (.ins C dx' fs) ∧ Cls K C ∧ NoAttr K C "place" ∧ fs.lookup ("place" : Str) = some v ∧ Q v H :=
  ⟨a, _, dx, _, _, rfl, h, T.Token.cl, T.Token_n_place, (lk_past (by decide +kernel)).trans lk_here, q⟩
theorem Token_m_is_chunk {x_signs x_place : V} : (TokenF x_signs x_place).lookup ("is_chunk" : Str) = none := (lk_past (by decide +kernel)).trans ((lk_past (by decide +kernel)).trans (rfl))
theorem Token_put {x_signs x_place : V} : (putF "place" x_place (putF "signs" x_signs [])) = TokenF x_signs x_place := by
  rfl
abbrev StandingF (x_hits x_faults x_misses : V) : List (Str × V) := [("hits", x_hits), ("faults", x_faults), ("misses", x_misses)]
theorem Standing_f_hits (T : PEnv K mg) {a dx : Addr} {x_hits x_faults x_misses : V} {H : Hp} {Q : VK} (h : H a = some (.ins T.Standing.C dx (StandingF x_hits x_faults x_misses))) (q : Q x_hits H) :
    ∃ (a' C dx' : Addr) (fs : List (Str × V)) (v : V), V.ref a = .ref a' ∧ H a' = some (.ins C dx' fs) ∧ Cls K C ∧ NoAttr K C "hits" ∧ fs.lookup ("hits" : Str) = some v ∧ Q v H :=
  ⟨a, _, dx, _, _, rfl, h, T.Standing.cl, T.Standing_n_hits, lk_here, q⟩
theorem Standing_f_faults (T : PEnv K mg) {a dx : Addr} {x_hits x_faults x_misses : V} {H : Hp} {Q : VK} (h : H a = some (.ins T.Standing.C dx (StandingF x_hits x_faults x_misses))) (q : Q x_faults H) :
    ∃ (a' C dx' : Addr) (fs : List (Str × V)) (v : V), V.ref a = .ref a' ∧ H a' = some (.ins C dx' fs) ∧ Cls K C ∧ NoAttr K C "faults" ∧ fs.lookup ("faults" : Str) = some v ∧ Q v H :=
  ⟨a, _, dx, _, _, rfl, h, T.Standing.cl, T.Standing_n_faults, (lk_past (by decide +kernel)).trans lk_here, q⟩
theorem Standing_f_misses (T : PEnv K mg) {a dx : Addr} {x_hits x_faults x_misses : V} {H : Hp} {Q : VK} (h : H a = some (.ins T.Standing.C dx (StandingF x_hits x_faults x_misses))) (q : Q x_misses H) :
    ∃ (a' C dx' : Addr) (fs : List (Str × V)) (v : V), V.ref a = .ref a' ∧ H a' = some (.ins C dx' fs) ∧ Cls K C ∧ NoAttr K C "misses" ∧ fs.lookup ("misses" : Str) = some v ∧ Q v H :=
  ⟨a, _, dx, _, _, rfl, h, T.Standing.cl, T.Standing_n_misses, (lk_past (by decide +kernel)).trans ((lk_past (by decide +kernel)).trans lk_here), q⟩
theorem Standing_m_is_exact {x_hits x_faults x_misses : V} : (StandingF x_hits x_faults x_misses).lookup ("is_exact" : Str) = none := (lk_past (by decide +kernel)).trans ((lk_past (by decide +kernel)).trans ((lk_past (by decide +kernel)).trans (rfl)))
theorem Standing_put {x_hits x_faults x_misses : V} : (putF "misses" x_misses (putF "faults" x_faults (putF "hits" x_hits []))) = StandingF x_hits x_faults x_misses := by
  rfl
abbrev TextReaderF (x_tokens x_at : V) : List (Str × V) := [("tokens", x_tokens), ("at", x_at)]
theorem TextReader_f_tokens (T : PEnv K mg) {a dx : Addr} {x_tokens x_at : V} {H : Hp} {Q : VK} (h : H a = some (.ins T.TextReader.C dx (TextReaderF x_tokens x_at))) (q : Q x_tokens H) :
    ∃ (a' C dx' : Addr) (fs : List (Str × V)) (v : V), V.ref a = .ref a' ∧ H a' = some (.ins C dx' fs) ∧ Cls K C ∧ NoAttr K C "tokens" ∧ fs.lookup ("tokens" : Str) = some v ∧ Q v H :=
  ⟨a, _, dx, _, _, rfl, h, T.TextReader.cl, T.TextReader_n_tokens, lk_here, q⟩
theorem TextReader_f_at (T : PEnv K mg) {a dx : Addr} {x_tokens x_at : V} {H : Hp} {Q : VK} (h : H a = some (.ins T.TextReader.C dx (TextReaderF x_tokens x_at))) (q : Q x_at H) :
    ∃ (a' C dx' : Addr) (fs : List (Str × V)) (v : V), V.ref a = .ref a' ∧ H a' = some (.ins C dx' fs) ∧ Cls K C ∧ NoAttr K C "at" ∧ fs.lookup ("at" : Str) = some v ∧ Q v H :=
  ⟨a, _, dx, _, _, rfl, h, T.TextReader.cl, T.TextReader_n_at, (lk_past (by decide +kernel)).trans lk_here, q⟩
theorem TextReader_m_token {x_tokens x_at : V} : (TextReaderF x_tokens x_at).lookup ("token" : Str) = none := (lk_past (by decide +kernel)).trans ((lk_past (by decide +kernel)).trans (rfl))
theorem TextReader_m_stands {x_tokens x_at : V} : (TextReaderF x_tokens x_at).lookup ("stands" : Str) = none := (lk_past (by decide +kernel)).trans ((lk_past (by decide +kernel)).trans (rfl))
theorem TextReader_m_skip {x_tokens x_at : V} : (TextReaderF x_tokens x_at).lookup ("skip" : Str) = none := (lk_past (by decide +kernel)).trans ((lk_past (by decide +kernel)).trans (rfl))
theorem TextReader_m_take {x_tokens x_at : V} : (TextReaderF x_tokens x_at).lookup ("take" : Str) = none := (lk_past (by decide +kernel)).trans ((lk_past (by decide +kernel)).trans (rfl))
theorem TextReader_m_take_end {x_tokens x_at : V} : (TextReaderF x_tokens x_at).lookup ("take_end" : Str) = none := (lk_past (by decide +kernel)).trans ((lk_past (by decide +kernel)).trans (rfl))
theorem TextReader_m_chunk {x_tokens x_at : V} : (TextReaderF x_tokens x_at).lookup ("chunk" : Str) = none := (lk_past (by decide +kernel)).trans ((lk_past (by decide +kernel)).trans (rfl))
theorem TextReader_put {x_tokens x_at : V} : (putF "at" x_at (putF "tokens" x_tokens [])) = TextReaderF x_tokens x_at := by
  rfl
abbrev DeskF (x_held : V) : List (Str × V) := [("held", x_held)]
theorem Desk_f_held (T : PEnv K mg) {a dx : Addr} {x_held : V} {H : Hp} {Q : VK} (h : H a = some (.ins T.Desk.C dx (DeskF x_held))) (q : Q x_held H) :
    ∃ (a' C dx' : Addr) (fs : List (Str × V)) (v : V), V.ref a = .ref a' ∧ H a' = some (.ins C dx' fs) ∧ Cls K C ∧ NoAttr K C "held" ∧ fs.lookup ("held" : Str) = some v ∧ Q v H :=
  ⟨a, _, dx, _, _, rfl, h, T.Desk.cl, T.Desk_n_held, lk_here, q⟩
theorem Desk_m_held_list {x_held : V} : (DeskF x_held).lookup ("held_list" : Str) = none := (lk_past (by decide +kernel)).trans (rfl)
theorem Desk_m_load {x_held : V} : (DeskF x_held).lookup ("load" : Str) = none := (lk_past (by decide +kernel)).trans (rfl)
theorem Desk_m_shown {x_held : V} : (DeskF x_held).lookup ("shown" : Str) = none := (lk_past (by decide +kernel)).trans (rfl)
theorem Desk_m_report {x_held : V} : (DeskF x_held).lookup ("report" : Str) = none := (lk_past (by decide +kernel)).trans (rfl)
theorem Desk_m_margins {x_held : V} : (DeskF x_held).lookup ("margins" : Str) = none := (lk_past (by decide +kernel)).trans (rfl)
theorem Desk_m_change {x_held : V} : (DeskF x_held).lookup ("change" : Str) = none := (lk_past (by decide +kernel)).trans (rfl)
theorem Desk_m_put {x_held : V} : (DeskF x_held).lookup ("put" : Str) = none := (lk_past (by decide +kernel)).trans (rfl)
theorem Desk_m_drop {x_held : V} : (DeskF x_held).lookup ("drop" : Str) = none := (lk_past (by decide +kernel)).trans (rfl)
theorem Desk_m_needless {x_held : V} : (DeskF x_held).lookup ("needless" : Str) = none := (lk_past (by decide +kernel)).trans (rfl)
theorem Desk_m_slim {x_held : V} : (DeskF x_held).lookup ("slim" : Str) = none := (lk_past (by decide +kernel)).trans (rfl)
theorem Desk_m_joint {x_held : V} : (DeskF x_held).lookup ("joint" : Str) = none := (lk_past (by decide +kernel)).trans (rfl)
theorem Desk_m_break_line {x_held : V} : (DeskF x_held).lookup ("break_line" : Str) = none := (lk_past (by decide +kernel)).trans (rfl)
theorem Desk_put {x_held : V} : (putF "held" x_held []) = DeskF x_held := by
  simp only [putF] <;> rfl
abbrev CallReaderF (x_calls x_at : V) : List (Str × V) := [("calls", x_calls), ("at", x_at)]
theorem CallReader_f_calls (T : PEnv K mg) {a dx : Addr} {x_calls x_at : V} {H : Hp} {Q : VK} (h : H a = some (.ins T.CallReader.C dx (CallReaderF x_calls x_at))) (q : Q x_calls H) :
    ∃ (a' C dx' : Addr) (fs : List (Str × V)) (v : V), V.ref a = .ref a' ∧ H a' = some (.ins C dx' fs) ∧ Cls K C ∧ NoAttr K C "calls" ∧ fs.lookup ("calls" : Str) = some v ∧ Q v H :=
  ⟨a, _, dx, _, _, rfl, h, T.CallReader.cl, T.CallReader_n_calls, lk_here, q⟩
theorem CallReader_f_at (T : PEnv K mg) {a dx : Addr} {x_calls x_at : V} {H : Hp} {Q : VK} (h : H a = some (.ins T.CallReader.C dx (CallReaderF x_calls x_at))) (q : Q x_at H) :
    ∃ (a' C dx' : Addr) (fs : List (Str × V)) (v : V), V.ref a = .ref a' ∧ H a' = some (.ins C dx' fs) ∧ Cls K C ∧ NoAttr K C "at" ∧ fs.lookup ("at" : Str) = some v ∧ Q v H :=
  ⟨a, _, dx, _, _, rfl, h, T.CallReader.cl, T.CallReader_n_at, (lk_past (by decide +kernel)).trans lk_here, q⟩
theorem CallReader_m_is_done {x_calls x_at : V} : (CallReaderF x_calls x_at).lookup ("is_done" : Str) = none := (lk_past (by decide +kernel)).trans ((lk_past (by decide +kernel)).trans (rfl))
theorem CallReader_m_number {x_calls x_at : V} : (CallReaderF x_calls x_at).lookup ("number" : Str) = none := (lk_past (by decide +kernel)).trans ((lk_past (by decide +kernel)).trans (rfl))
theorem CallReader_m_row {x_calls x_at : V} : (CallReaderF x_calls x_at).lookup ("row" : Str) = none := (lk_past (by decide +kernel)).trans ((lk_past (by decide +kernel)).trans (rfl))
theorem CallReader_put {x_calls x_at : V} : (putF "at" x_at (putF "calls" x_calls [])) = CallReaderF x_calls x_at := by
  rfl
def sp_Word_init (C : Addr) : Sp := fun vs H Q _ => ∃ (p dx : Addr) (x_letters x_gaps : V), vs = [.ref p, x_letters, x_gaps] ∧ H p = some (.ins C dx []) ∧
  ∀ H' : Hp, H' p = some (.ins C dx (WordF x_letters x_gaps)) → (∀ b o, H b = some o → b ≠ p → H' b = some o) → Q .non H'
theorem sc_Word_init : FnScope ["self", "letters", "gaps"] ["self", "letters", "gaps"] (defScope s_Word_init) := ⟨rfl, rfl, rfl, by decide +kernel, rfl, by decide +kernel, by decide +kernel⟩
theorem ok_Word_init (T : PEnv K mg) {P : Program} {w : World} {base : Heap} : FnOk P w K mg base CX0 1 T.Word_init.f T.Word_init.fd ["self", "letters", "gaps"] (sp_Word_init T.Word.C) := by
  refine T.Word_init.F.ok sc_Word_init (fun vs H Q E h => ?_) (fun cdv A outer s H vs Q E hr h => ?_)
  · obtain ⟨p, dx, x_letters, x_gaps, rfl, _⟩ := h
    rfl
  · obtain ⟨p, dx, x_letters, x_gaps, rfl, hp, k⟩ := h
    refine ⟨_, (pss_cons (ps_fld (pv 0) (pv 1) rfl)
      (pss_one (ps_fld (pv 0) (pv 2) rfl))), ?_⟩
    refine ⟨_, rfl, _, rfl, p, _, dx, _, rfl, hp, T.Word.cl, T.Word_n_letters, (by show 0 < 1000; decide), ?_⟩
    refine ⟨_, rfl, _, rfl, p, _, dx, _, rfl, upd_same, T.Word.cl, T.Word_n_gaps, (by show 1 < 1000; decide), ?_⟩
    refine k _ ?_ fun b o e hb => (by
      repeat rw [upd_ne hb]
      exact e)
    exact upd_same.trans (congrArg (fun z => some (HO.ins T.Word.C dx z)) Word_put)
/-- Word(..), read -/
theorem Word_new (T : PEnv K mg) {x_letters x_gaps : V} {H : Hp} {Q : VK} {E : XK} (q : ∀ (x : Addr) (H' : Hp), H x = none → Same H H' → (∃ dx, H' x = some (.ins T.Word.C dx (WordF x_letters x_gaps))) → Q (.ref x) H') :
    ∀ x dx, H x = none → H dx = none → dx ≠ x → sp_Word_init T.Word.C (.ref x :: ([x_letters, x_gaps] ++ [])) (upd (upd H dx (.own x)) x (.ins T.Word.C dx [])) (fun v H2 => v = .non ∧ Q (.ref x) H2) E :=
  fun x dx nx nd _ => ⟨x, dx, x_letters, x_gaps, rfl, upd_same, fun H' h kp => ⟨rfl, q x H' nx (Same.made nx nd kp) ⟨dx, h⟩⟩⟩
def sp_Pattern_init (C : Addr) : Sp := fun vs H Q _ => ∃ (p dx : Addr) (x_letters x_at_front x_at_end x_digits : V), vs = [.ref p, x_letters, x_at_front, x_at_end, x_digits] ∧ H p = some (.ins C dx []) ∧
  ∀ H' : Hp, H' p = some (.ins C dx (PatternF x_letters x_at_front x_at_end x_digits)) → (∀ b o, H b = some o → b ≠ p → H' b = some o) → Q .non H'
theorem sc_Pattern_init : FnScope ["self", "letters", "at_front", "at_end", "digits"] ["self", "letters", "at_front", "at_end", "digits"] (defScope s_Pattern_init) := ⟨rfl, rfl, rfl, by decide +kernel, rfl, by decide +kernel, by decide +kernel⟩
theorem ok_Pattern_init (T : PEnv K mg) {P : Program} {w : World} {base : Heap} : FnOk P w K mg base CX0 1 T.Pattern_init.f T.Pattern_init.fd ["self", "letters", "at_front", "at_end", "digits"] (sp_Pattern_init T.Pattern.C) := by
  refine T.Pattern_init.F.ok sc_Pattern_init (fun vs H Q E h => ?_) (fun cdv A outer s H vs Q E hr h => ?_)
  · obtain ⟨p, dx, x_letters, x_at_front, x_at_end, x_digits, rfl, _⟩ := h
    rfl
  · obtain ⟨p, dx, x_letters, x_at_front, x_at_end, x_digits, rfl, hp, k⟩ := h
    refine ⟨_, (pss_cons (ps_fld (pv 0) (pv 1) rfl)
      (pss_cons (ps_fld (pv 0) (pv 2) rfl)
      (pss_cons (ps_fld (pv 0) (pv 3) rfl)
      (pss_one (ps_fld (pv 0) (pv 4) rfl))))), ?_⟩
    refine ⟨_, rfl, _, rfl, p, _, dx, _, rfl, hp, T.Pattern.cl, T.Pattern_n_letters, (by show 0 < 1000; decide), ?_⟩
    refine ⟨_, rfl, _, rfl, p, _, dx, _, rfl, upd_same, T.Pattern.cl, T.Pattern_n_at_front, (by show 1 < 1000; decide), ?_⟩
    refine ⟨_, rfl, _, rfl, p, _, dx, _, rfl, upd_same, T.Pattern.cl, T.Pattern_n_at_end, (by show 2 < 1000; decide), ?_⟩
    refine ⟨_, rfl, _, rfl, p, _, dx, _, rfl, upd_same, T.Pattern.cl, T.Pattern_n_digits, (by show 3 < 1000; decide), ?_⟩
    refine k _ ?_ fun b o e hb => (by
      repeat rw [upd_ne hb]
      exact e)
    exact upd_same.trans (congrArg (fun z => some (HO.ins T.Pattern.C dx z)) Pattern_put)
/-- Pattern(..), read -/
theorem Pattern_new (T : PEnv K mg) {x_letters x_at_front x_at_end x_digits : V} {H : Hp} {Q : VK} {E : XK} (q : ∀ (x : Addr) (H' : Hp), H x = none → Same H H' → (∃ dx, H' x = some (.ins T.Pattern.C dx (PatternF x_letters x_at_front x_at_end x_digits))) → Q (.ref x) H') :
    ∀ x dx, H x = none → H dx = none → dx ≠ x → sp_Pattern_init T.Pattern.C (.ref x :: ([x_letters, x_at_front, x_at_end, x_digits] ++ [])) (upd (upd H dx (.own x)) x (.ins T.Pattern.C dx [])) (fun v H2 => v = .non ∧ Q (.ref x) H2) E :=
  fun x dx nx nd _ => ⟨x, dx, x_letters, x_at_front, x_at_end, x_digits, rfl, upd_same, fun H' h kp => ⟨rfl, q x H' nx (Same.made nx nd kp) ⟨dx, h⟩⟩⟩
def sp_WordList_init (C : Addr) : Sp := fun vs H Q _ => ∃ (p dx : Addr) (x_left_margin x_right_margin x_words x_patterns : V), vs = [.ref p, x_left_margin, x_right_margin, x_words, x_patterns] ∧ H p = some (.ins C dx []) ∧
  ∀ H' : Hp, H' p = some (.ins C dx (WordListF x_left_margin x_right_margin x_words x_patterns)) → (∀ b o, H b = some o → b ≠ p → H' b = some o) → Q .non H'
theorem sc_WordList_init : FnScope ["self", "left_margin", "right_margin", "words", "patterns"] ["self", "left_margin", "right_margin", "words", "patterns"] (defScope s_WordList_init) := ⟨rfl, rfl, rfl, by decide +kernel, rfl, by decide +kernel, by decide +kernel⟩
theorem ok_WordList_init (T : PEnv K mg) {P : Program} {w : World} {base : Heap} : FnOk P w K mg base CX0 1 T.WordList_init.f T.WordList_init.fd ["self", "left_margin", "right_margin", "words", "patterns"] (sp_WordList_init T.WordList.C) := by
  refine T.WordList_init.F.ok sc_WordList_init (fun vs H Q E h => ?_) (fun cdv A outer s H vs Q E hr h => ?_)
  · obtain ⟨p, dx, x_left_margin, x_right_margin, x_words, x_patterns, rfl, _⟩ := h
    rfl
  · obtain ⟨p, dx, x_left_margin, x_right_margin, x_words, x_patterns, rfl, hp, k⟩ := h
    refine ⟨_, (pss_cons (ps_fld (pv 0) (pv 1) rfl)
      (pss_cons (ps_fld (pv 0) (pv 2) rfl)
      (pss_cons (ps_fld (pv 0) (pv 3) rfl)
      (pss_one (ps_fld (pv 0) (pv 4) rfl))))), ?_⟩
    refine ⟨_, rfl, _, rfl, p, _, dx, _, rfl, hp, T.WordList.cl, T.WordList_n_left_margin, (by show 0 < 1000; decide), ?_⟩
    refine ⟨_, rfl, _, rfl, p, _, dx, _, rfl, upd_same, T.WordList.cl, T.WordList_n_right_margin, (by show 1 < 1000; decide), ?_⟩
    refine ⟨_, rfl, _, rfl, p, _, dx, _, rfl, upd_same, T.WordList.cl, T.WordList_n_words, (by show 2 < 1000; decide), ?_⟩
    refine ⟨_, rfl, _, rfl, p, _, dx, _, rfl, upd_same, T.WordList.cl, T.WordList_n_patterns, (by show 3 < 1000; decide), ?_⟩
    refine k _ ?_ fun b o e hb => (by
      repeat rw [upd_ne hb]
      exact e)
    exact upd_same.trans (congrArg (fun z => some (HO.ins T.WordList.C dx z)) WordList_put)
/-- WordList(..), read -/
theorem WordList_new (T : PEnv K mg) {x_left_margin x_right_margin x_words x_patterns : V} {H : Hp} {Q : VK} {E : XK} (q : ∀ (x : Addr) (H' : Hp), H x = none → Same H H' → (∃ dx, H' x = some (.ins T.WordList.C dx (WordListF x_left_margin x_right_margin x_words x_patterns))) → Q (.ref x) H') :
    ∀ x dx, H x = none → H dx = none → dx ≠ x → sp_WordList_init T.WordList.C (.ref x :: ([x_left_margin, x_right_margin, x_words, x_patterns] ++ [])) (upd (upd H dx (.own x)) x (.ins T.WordList.C dx [])) (fun v H2 => v = .non ∧ Q (.ref x) H2) E :=
  fun x dx nx nd _ => ⟨x, dx, x_left_margin, x_right_margin, x_words, x_patterns, rfl, upd_same, fun H' h kp => ⟨rfl, q x H' nx (Same.made nx nd kp) ⟨dx, h⟩⟩⟩
def sp_Token_init (C : Addr) : Sp := fun vs H Q _ => ∃ (p dx : Addr) (x_signs x_place : V), vs = [.ref p, x_signs, x_place] ∧ H p = some (.ins C dx []) ∧
  ∀ H' : Hp, H' p = some (.ins C dx (TokenF x_signs x_place)) → (∀ b o, H b = some o → b ≠ p → H' b = some o) → Q .non H'
theorem sc_Token_init : FnScope ["self", "signs", "place"] ["self", "signs", "place"] (defScope s_Token_init) := ⟨rfl, rfl, rfl, by decide +kernel, rfl, by decide +kernel, by decide +kernel⟩
theorem ok_Token_init (T : PEnv K mg) {P : Program} {w : World} {base : Heap} : FnOk P w K mg base CX0 1 T.Token_init.f T.Token_init.fd ["self", "signs", "place"] (sp_Token_init T.Token.C) := by
  refine T.Token_init.F.ok sc_Token_init (fun vs H Q E h => ?_) (fun cdv A outer s H vs Q E hr h => ?_)
  · obtain ⟨p, dx, x_signs, x_place, rfl, _⟩ := h
    rfl
  · obtain ⟨p, dx, x_signs, x_place, rfl, hp, k⟩ := h
    refine ⟨_, (pss_cons (ps_fld (pv 0) (pv 1) rfl)
      (pss_one (ps_fld (pv 0) (pv 2) rfl))), ?_⟩
    refine ⟨_, rfl, _, rfl, p, _, dx, _, rfl, hp, T.Token.cl, T.Token_n_signs, (by show 0 < 1000; decide), ?_⟩
    refine ⟨_, rfl, _, rfl, p, _, dx, _, rfl, upd_same, T.Token.cl, T.Token_n_place, (by show 1 < 1000; decide), ?_⟩
    refine k _ ?_ fun b o e hb => (by
      repeat rw [upd_ne hb]
      exact e)
    exact upd_same.trans (congrArg (fun z => some (HO.ins T.Token.C dx z)) Token_put)
/-- Token(..), read -/
theorem Token_new (T : PEnv K mg) {x_signs x_place : V} {H : Hp} {Q : VK} {E : XK} (q : ∀ (x : Addr) (H' : Hp), H x = none → Same H H' → (∃ dx, H' x = some (.ins T.Token.C dx (TokenF x_signs x_place))) → Q (.ref x) H') :
    ∀ x dx, H x = none → H dx = none → dx ≠ x → sp_Token_init T.Token.C (.ref x :: ([x_signs, x_place] ++ [])) (upd (upd H dx (.own x)) x (.ins T.Token.C dx [])) (fun v H2 => v = .non ∧ Q (.ref x) H2) E :=
  fun x dx nx nd _ => ⟨x, dx, x_signs, x_place, rfl, upd_same, fun H' h kp => ⟨rfl, q x H' nx (Same.made nx nd kp) ⟨dx, h⟩⟩⟩
def sp_Standing_init (C : Addr) : Sp := fun vs H Q _ => ∃ (p dx : Addr) (x_hits x_faults x_misses : V), vs = [.ref p, x_hits, x_faults, x_misses] ∧ H p = some (.ins C dx []) ∧
  ∀ H' : Hp, H' p = some (.ins C dx (StandingF x_hits x_faults x_misses)) → (∀ b o, H b = some o → b ≠ p → H' b = some o) → Q .non H'
theorem sc_Standing_init : FnScope ["self", "hits", "faults", "misses"] ["self", "hits", "faults", "misses"] (defScope s_Standing_init) := ⟨rfl, rfl, rfl, by decide +kernel, rfl, by decide +kernel, by decide +kernel⟩
theorem ok_Standing_init (T : PEnv K mg) {P : Program} {w : World} {base : Heap} : FnOk P w K mg base CX0 1 T.Standing_init.f T.Standing_init.fd ["self", "hits", "faults", "misses"] (sp_Standing_init T.Standing.C) := by
  refine T.Standing_init.F.ok sc_Standing_init (fun vs H Q E h => ?_) (fun cdv A outer s H vs Q E hr h => ?_)
  · obtain ⟨p, dx, x_hits, x_faults, x_misses, rfl, _⟩ := h
    rfl
  · obtain ⟨p, dx, x_hits, x_faults, x_misses, rfl, hp, k⟩ := h
    refine ⟨_, (pss_cons (ps_fld (pv 0) (pv 1) rfl)
      (pss_cons (ps_fld (pv 0) (pv 2) rfl)
      (pss_one (ps_fld (pv 0) (pv 3) rfl)))), ?_⟩
    refine ⟨_, rfl, _, rfl, p, _, dx, _, rfl, hp, T.Standing.cl, T.Standing_n_hits, (by show 0 < 1000; decide), ?_⟩
    refine ⟨_, rfl, _, rfl, p, _, dx, _, rfl, upd_same, T.Standing.cl, T.Standing_n_faults, (by show 1 < 1000; decide), ?_⟩
    refine ⟨_, rfl, _, rfl, p, _, dx, _, rfl, upd_same, T.Standing.cl, T.Standing_n_misses, (by show 2 < 1000; decide), ?_⟩
    refine k _ ?_ fun b o e hb => (by
      repeat rw [upd_ne hb]
      exact e)
    exact upd_same.trans (congrArg (fun z => some (HO.ins T.Standing.C dx z)) Standing_put)
/-- Standing(..), read -/
theorem Standing_new (T : PEnv K mg) {x_hits x_faults x_misses : V} {H : Hp} {Q : VK} {E : XK} (q : ∀ (x : Addr) (H' : Hp), H x = none → Same H H' → (∃ dx, H' x = some (.ins T.Standing.C dx (StandingF x_hits x_faults x_misses))) → Q (.ref x) H') :
    ∀ x dx, H x = none → H dx = none → dx ≠ x → sp_Standing_init T.Standing.C (.ref x :: ([x_hits, x_faults, x_misses] ++ [])) (upd (upd H dx (.own x)) x (.ins T.Standing.C dx [])) (fun v H2 => v = .non ∧ Q (.ref x) H2) E :=
  fun x dx nx nd _ => ⟨x, dx, x_hits, x_faults, x_misses, rfl, upd_same, fun H' h kp => ⟨rfl, q x H' nx (Same.made nx nd kp) ⟨dx, h⟩⟩⟩
end
end PwX

/-! ## PwHeap -/
namespace PwX
open PySem PySem.Spec PyProof.Rows L2
open VahypBase Vahypa Pw

/-! ### texts, rows of bytes, rows of numbers -/
def sB (b : Bytes) : Str := ⟨(b.map UInt8.toNat).toArray⟩
def vB (b : Bytes) : List V := b.map fun c => V.int (c.toNat : Int)
def vN (l : List Nat) : List V := l.map fun (n : Nat) => V.int (n : Int)
def vR (as : List Addr) : List V := as.map V.ref
theorem sB_inj {a b : Bytes} (h : sB a = sB b) : a = b := by
  have h1 : (a.map UInt8.toNat).toArray = (b.map UInt8.toNat).toArray := congrArg Str.cps h
  have h2 : a.map UInt8.toNat = b.map UInt8.toNat := by simpa using congrArg Array.toList h1
  exact (List.map_inj_right fun _ _ e => UInt8.toNat_inj.mp e).mp h2
theorem sB_eq {a b : Bytes} : decide (V.str (sB a) = V.str (sB b)) = (a == b) := by
  rw [Bool.eq_iff_iff, decide_eq_true_eq, beq_iff_eq]
  constructor
  · intro h
    injection h with h
    exact sB_inj h
  · intro h
    rw [h]
theorem sB_length (b : Bytes) : (sB b).length = b.length := by
  show ((b.map UInt8.toNat).toArray).size = b.length
  simp
theorem sB_cps (b : Bytes) : (sB b).cps.toList = b.map UInt8.toNat := by simp [sB]
theorem sB_append (a b : Bytes) : sB a ++ sB b = sB (a ++ b) := by
  show (⟨(a.map UInt8.toNat).toArray ++ (b.map UInt8.toNat).toArray⟩ : Str) = _
  simp [sB]
theorem vB_length (b : Bytes) : (vB b).length = b.length := by simp [vB]
theorem vN_length (b : List Nat) : (vN b).length = b.length := by simp [vN]
theorem vR_length (b : List Addr) : (vR b).length = b.length := by simp [vR]
theorem vB_at {b : Bytes} {i : Nat} (h : i < b.length) : (vB b)[i]? = some (V.int (b[i].toNat : Int)) := by
  unfold vB
  rw [List.getElem?_map, List.getElem?_eq_getElem h]
  rfl
theorem small_line {n : Nat} (h : n ≤ 1000000) : n ≤ sizeLine := Nat.le_trans h (by decide)
theorem small_lt {n : Nat} (h : n < 1000000) : n < sizeLine := Nat.lt_of_lt_of_le h (by decide)

/-! ### heaps -/
/-- all but the object at r is as it was -/
def Sb (r : Addr) (H H' : Hp) : Prop := ∀ b o, H b = some o → b ≠ r → H' b = some o
theorem Sb.of {r : Addr} {H H' : Hp} (h : Same H H') : Sb r H H' := fun b o e _ => h b o e
theorem Sb.trans {r : Addr} {H H1 H2 : Hp} (a : Sb r H H1) (b : Sb r H1 H2) : Sb r H H2 := fun c o h n => b c o (a c o h n) n
theorem Sb.refl (r : Addr) (H : Hp) : Sb r H H := fun _ _ h _ => h
theorem same_upd {H : Hp} {p : Addr} {o : HO} (h : H p = none) : Same H (upd H p o) := fun b u e => by
  rw [upd_ne (ne_of_none e h)]
  exact e
theorem same_updO {H H' : Hp} {p : Addr} {o : HO} (s : Same H H') (h : H p = none) : Same H (upd H' p o) := fun b u e => by
  rw [upd_ne (ne_of_none e h)]
  exact s b u e
theorem Same.none {H H' : Hp} {p : Addr} (s : Same H H') (h : H' p = none) : H p = none := s.free h

/-- two rows alike, item by item -/
structure AllAt {α : Type} (P : Addr → α → Prop) (as : List Addr) (xs : List α) : Prop where
  len : as.length = xs.length
  at_ : ∀ (i : Nat) (a : Addr) (x : α), as[i]? = some a → xs[i]? = some x → P a x
theorem AllAt.nil {α : Type} {P : Addr → α → Prop} : AllAt P [] [] := ⟨rfl, fun i a x h => by simp at h⟩
theorem AllAt.imp {α : Type} {P Q : Addr → α → Prop} {as : List Addr} {xs : List α} (h : AllAt P as xs) (k : ∀ a x, P a x → Q a x) : AllAt Q as xs := ⟨h.len, fun i a x h1 h2 => k a x (h.at_ i a x h1 h2)⟩
theorem AllAt.get {α : Type} {P : Addr → α → Prop} {as : List Addr} {xs : List α} (h : AllAt P as xs) {i : Nat} (hi : i < xs.length) : ∃ a, as[i]? = some a ∧ P a xs[i] := by
  have hl : i < as.length := by rw [h.len]; exact hi
  exact ⟨as[i], List.getElem?_eq_getElem hl, h.at_ i _ _ (List.getElem?_eq_getElem hl) (List.getElem?_eq_getElem hi)⟩
theorem AllAt.snoc {α : Type} {P : Addr → α → Prop} {as : List Addr} {xs : List α} {a : Addr} {x : α} (h : AllAt P as xs) (k : P a x) : AllAt P (as ++ [a]) (xs ++ [x]) := by
  refine ⟨by simp [h.len], fun i b y h1 h2 => ?_⟩
  by_cases hi : i < as.length
  · rw [List.getElem?_append_left hi] at h1
    rw [List.getElem?_append_left (by rw [← h.len]; exact hi)] at h2
    exact h.at_ i b y h1 h2
  · rw [List.getElem?_append_right (by omega)] at h1
    rw [List.getElem?_append_right (by rw [← h.len]; omega)] at h2
    have e1 : i - as.length = 0 := by
      have := (List.getElem?_eq_some_iff.mp h1).1
      simp at this
      omega
    rw [e1] at h1
    rw [← h.len, e1] at h2
    cases h1
    cases h2
    exact k
theorem AllAt.set {α : Type} {P : Addr → α → Prop} {as : List Addr} {xs : List α} {a : Addr} {x : α} {j : Nat} (h : AllAt P as xs) (k : P a x) : AllAt P (as.set j a) (xs.set j x) := by
  refine ⟨by simp [h.len], fun i b y h1 h2 => ?_⟩
  rw [List.getElem?_set] at h1 h2
  by_cases e : j = i
  · subst e
    rw [if_pos rfl] at h1 h2
    split at h1
    · split at h2
      · cases h1; cases h2; exact k
      · cases h2
    · cases h1
  · rw [if_neg e] at h1 h2
    exact h.at_ i b y h1 h2
theorem AllAt.erase {α : Type} {P : Addr → α → Prop} {as : List Addr} {xs : List α} {j : Nat} (h : AllAt P as xs) : AllAt P (as.eraseIdx j) (xs.eraseIdx j) := by
  refine ⟨by rw [List.length_eraseIdx, List.length_eraseIdx, h.len], fun i b y h1 h2 => ?_⟩
  rw [List.getElem?_eraseIdx] at h1 h2
  split at h1
  · rw [if_pos (by assumption)] at h2
    exact h.at_ i b y h1 h2
  · rw [if_neg (by assumption)] at h2
    exact h.at_ _ b y h1 h2

section
variable {K : PySem.W.Frag} {mg : Str → Option Value}
/-- a word at a -/
def WordAt (T : PEnv K mg) (H : Hp) (a : Addr) (w : Word) : Prop := ∃ dx g, H a = some (.ins T.Word.C dx (WordF (.str (sB w.x)) (.ref g))) ∧ H g = some (.lst (vN w.cuts))
def PatAt (T : PEnv K mg) (H : Hp) (a : Addr) (p : Pat) : Prop := ∃ dx g, H a = some (.ins T.Pattern.C dx (PatternF (.str (sB p.x)) (.bl p.front) (.bl p.halt_) (.ref g))) ∧ H g = some (.lst (vN p.levels))
/-- a row of words, of patterns at a -/
def WordsAt (T : PEnv K mg) (H : Hp) (a : Addr) (ws : List Word) : Prop := ∃ as, H a = some (.lst (vR as)) ∧ AllAt (WordAt T H) as ws
def PatsAt (T : PEnv K mg) (H : Hp) (a : Addr) (ps : List Pat) : Prop := ∃ as, H a = some (.lst (vR as)) ∧ AllAt (PatAt T H) as ps
def LstAt (T : PEnv K mg) (H : Hp) (a : Addr) (s : Lst) : Prop := ∃ dx wa pa, H a = some (.ins T.WordList.C dx (WordListF (.int (s.l : Nat)) (.int (s.r : Nat)) (.ref wa) (.ref pa))) ∧ WordsAt T H wa s.words ∧ PatsAt T H pa s.pats
/-- a token's text -/
def tokS : VahypBase.Tok → Str
  | .chunk w => sB w
  | .sign c => ⟨#[c]⟩
  | .last => Str.empty
def TokAt (T : PEnv K mg) (H : Hp) (a : Addr) (t : PTok) : Prop := ∃ dx, H a = some (.ins T.Token.C dx (TokenF (.str (tokS t.tok)) (.int (t.place : Nat))))
def ToksAt (T : PEnv K mg) (H : Hp) (a : Addr) (ts : Toks) : Prop := ∃ as, H a = some (.lst (vR as)) ∧ AllAt (TokAt T H) as ts
/-- a reader at a: what is not read yet is l -/
def RdAt (T : PEnv K mg) (H : Hp) (a : Addr) (l : Toks) : Prop := ∃ dx ta k ts, H a = some (.ins T.TextReader.C dx (TextReaderF (.ref ta) (.int (k : Nat)))) ∧ ToksAt T H ta ts ∧ l = ts.drop k ∧ TW l

section
variable {T : PEnv K mg} {H H' : Hp} {a r : Addr}
theorem WordAt.same {w : Word} (h : WordAt T H a w) (s : Same H H') : WordAt T H' a w := let ⟨dx, g, h1, h2⟩ := h; ⟨dx, g, s _ _ h1, s _ _ h2⟩
theorem PatAt.same {p : Pat} (h : PatAt T H a p) (s : Same H H') : PatAt T H' a p := let ⟨dx, g, h1, h2⟩ := h; ⟨dx, g, s _ _ h1, s _ _ h2⟩
theorem WordsAt.same {ws : List Word} (h : WordsAt T H a ws) (s : Same H H') : WordsAt T H' a ws := let ⟨as, h1, h2⟩ := h; ⟨as, s _ _ h1, h2.imp fun _ _ q => q.same s⟩
theorem PatsAt.same {ps : List Pat} (h : PatsAt T H a ps) (s : Same H H') : PatsAt T H' a ps := let ⟨as, h1, h2⟩ := h; ⟨as, s _ _ h1, h2.imp fun _ _ q => q.same s⟩
theorem LstAt.same {l : Lst} (h : LstAt T H a l) (s : Same H H') : LstAt T H' a l := let ⟨dx, wa, pa, h1, h2, h3⟩ := h; ⟨dx, wa, pa, s _ _ h1, h2.same s, h3.same s⟩
theorem TokAt.same {t : PTok} (h : TokAt T H a t) (s : Same H H') : TokAt T H' a t := let ⟨dx, h1⟩ := h; ⟨dx, s _ _ h1⟩
theorem ToksAt.same {ts : Toks} (h : ToksAt T H a ts) (s : Same H H') : ToksAt T H' a ts := let ⟨as, h1, h2⟩ := h; ⟨as, s _ _ h1, h2.imp fun _ _ q => q.same s⟩
theorem RdAt.same {l : Toks} (h : RdAt T H a l) (s : Same H H') : RdAt T H' a l := let ⟨dx, ta, k, ts, h1, h2, h3, h4⟩ := h; ⟨dx, ta, k, ts, s _ _ h1, h2.same s, h3, h4⟩
/-- an instance with other fields is no other object -/
theorem ins_ne {b : Addr} {C D dx dy : Addr} {fs gs : List (Str × V)} (h1 : H a = some (.ins C dx fs)) (h2 : H b = some (.ins D dy gs)) (h : fs.map (·.1) ≠ gs.map (·.1)) : a ≠ b := ne_of h1 h2 fun e => by
  injection e with _ _ e
  exact h (by rw [e])
/-- what stands at an object that the reader at r is not -/
def IsRd (T : PEnv K mg) (H : Hp) (r : Addr) : Prop := ∃ dx u v, H r = some (.ins T.TextReader.C dx (TextReaderF u v))
theorem RdAt.is {l : Toks} (h : RdAt T H a l) : IsRd T H a := let ⟨dx, ta, k, ts, h1, _⟩ := h; ⟨dx, _, _, h1⟩
theorem IsRd.ne_lst {xs : List V} (h : IsRd T H r) (h1 : H a = some (.lst xs)) : a ≠ r := let ⟨dx, u, v, h2⟩ := h; ne_of h1 h2 (by intro z; cases z)
theorem IsRd.ne_ins {C dx : Addr} {fs : List (Str × V)} (h : IsRd T H r) (h1 : H a = some (.ins C dx fs)) (hf : fs.map (·.1) ≠ (["tokens", "at"] : List Str)) : a ≠ r := let ⟨dx, u, v, h2⟩ := h; ins_ne h1 h2 hf
theorem WordAt.sb {w : Word} (h : WordAt T H a w) (k : IsRd T H r) (s : Sb r H H') : WordAt T H' a w := let ⟨dx, g, h1, h2⟩ := h; ⟨dx, g, s _ _ h1 (k.ne_ins h1 (by show (["letters", "gaps"] : List Str) ≠ (["tokens", "at"] : List Str); decide +kernel)), s _ _ h2 (k.ne_lst h2)⟩
theorem PatAt.sb {p : Pat} (h : PatAt T H a p) (k : IsRd T H r) (s : Sb r H H') : PatAt T H' a p := let ⟨dx, g, h1, h2⟩ := h; ⟨dx, g, s _ _ h1 (k.ne_ins h1 (by show (["letters", "at_front", "at_end", "digits"] : List Str) ≠ (["tokens", "at"] : List Str); decide +kernel)), s _ _ h2 (k.ne_lst h2)⟩
theorem WordsAt.sb {ws : List Word} (h : WordsAt T H a ws) (k : IsRd T H r) (s : Sb r H H') : WordsAt T H' a ws := let ⟨as, h1, h2⟩ := h; ⟨as, s _ _ h1 (k.ne_lst h1), h2.imp fun _ _ q => q.sb k s⟩
theorem PatsAt.sb {ps : List Pat} (h : PatsAt T H a ps) (k : IsRd T H r) (s : Sb r H H') : PatsAt T H' a ps := let ⟨as, h1, h2⟩ := h; ⟨as, s _ _ h1 (k.ne_lst h1), h2.imp fun _ _ q => q.sb k s⟩
theorem TokAt.sb {t : PTok} (h : TokAt T H a t) (k : IsRd T H r) (s : Sb r H H') : TokAt T H' a t := let ⟨dx, h1⟩ := h; ⟨dx, s _ _ h1 (k.ne_ins h1 (by show (["signs", "place"] : List Str) ≠ (["tokens", "at"] : List Str); decide +kernel))⟩
theorem ToksAt.sb {ts : Toks} (h : ToksAt T H a ts) (k : IsRd T H r) (s : Sb r H H') : ToksAt T H' a ts := let ⟨as, h1, h2⟩ := h; ⟨as, s _ _ h1 (k.ne_lst h1), h2.imp fun _ _ q => q.sb k s⟩
end
end
end PwX

/-! ## PwStr -/
namespace PwX
open PySem PySem.Spec PyProof.Rows L2
open VahypBase Vahypa Pw

/-- parts glued by one sign -/
def glue1 (c : Nat) : List (List Nat) → List Nat
  | [] => []
  | [p] => p
  | p :: q :: r => p ++ c :: glue1 c (q :: r)
theorem glue1_inj {c : Nat} : ∀ (xs ys : List (List Nat)), xs ≠ [] → ys ≠ [] → (∀ p ∈ xs, c ∉ p) → (∀ p ∈ ys, c ∉ p) → glue1 c xs = glue1 c ys → xs = ys
  | [], _, h, _, _, _, _ => absurd rfl h
  | _, [], _, h, _, _, _ => absurd rfl h
  | [p], [q], _, _, _, _, e => by
    have e' : p = q := e
    rw [e']
  | [p], q :: q2 :: r, _, _, h1, _, e => by
    have e' : p = q ++ c :: glue1 c (q2 :: r) := e
    exact absurd (by rw [e']; simp) (h1 p List.mem_cons_self)
  | p :: p2 :: r, [q], _, _, _, h2, e => by
    have e' : p ++ c :: glue1 c (p2 :: r) = q := e
    exact absurd (by rw [← e']; simp) (h2 q List.mem_cons_self)
  | p :: p2 :: r, q :: q2 :: t, _, _, h1, h2, e => by
    have e' : p ++ c :: glue1 c (p2 :: r) = q ++ c :: glue1 c (q2 :: t) := e
    have key : ∀ (a b u v : List Nat), c ∉ a → c ∉ b → a ++ c :: u = b ++ c :: v → a = b ∧ u = v := by
      intro a
      induction a with
      | nil =>
        intro b u v _ hb h
        cases b with
        | nil => exact ⟨rfl, (List.cons.inj h).2⟩
        | cons x b =>
          have := (List.cons.inj h).1
          exact absurd (by rw [this]; exact List.mem_cons_self) hb
      | cons x a ih =>
        intro b u v ha hb h
        cases b with
        | nil =>
          have := (List.cons.inj h).1
          exact absurd (by rw [← this]; exact List.mem_cons_self) ha
        | cons y b =>
          obtain ⟨h1, h2⟩ := List.cons.inj h
          obtain ⟨h3, h4⟩ := ih b u v (fun z => ha (List.mem_cons_of_mem _ z)) (fun z => hb (List.mem_cons_of_mem _ z)) h2
          exact ⟨by rw [h1, h3], h4⟩
    obtain ⟨k1, k2⟩ := key p q _ _ (h1 p List.mem_cons_self) (h2 q List.mem_cons_self) e'
    rw [k1, glue1_inj (p2 :: r) (q2 :: t) (by simp) (by simp) (fun z hz => h1 z (List.mem_cons_of_mem _ hz)) (fun z hz => h2 z (List.mem_cons_of_mem _ hz)) k2]
theorem str_ext {a b : Str} (h : a.cps.toList = b.cps.toList) : a = b := by
  obtain ⟨a⟩ := a
  obtain ⟨b⟩ := b
  exact congrArg Str.mk (Array.toList_inj.mp h)
theorem app_cps (a b : Str) : (a ++ b).cps.toList = a.cps.toList ++ b.cps.toList := by
  show (a.cps ++ b.cps).toList = _
  simp
theorem join1 (c : Nat) : ∀ ys : List Str, (Str.join ⟨#[c]⟩ ys).cps.toList = glue1 c (ys.map fun y => y.cps.toList)
  | [] => rfl
  | [x] => rfl
  | x :: y :: r => by
    have ih := join1 c (y :: r)
    show (x ++ ⟨#[c]⟩ ++ Str.join ⟨#[c]⟩ (y :: r)).cps.toList = x.cps.toList ++ c :: glue1 c ((y :: r).map fun y => y.cps.toList)
    rw [app_cps, app_cps, ih, List.append_assoc]
    rfl
theorem splitB_glue : ∀ b : Bytes, glue1 45 ((splitB b).map fun p => p.map UInt8.toNat) = b.map UInt8.toNat
  | [] => rfl
  | c :: r => by
    have ih := splitB_glue r
    obtain ⟨p, ps, hr⟩ := splitB_ex r
    rw [hr] at ih
    by_cases h : c = 45
    · subst h
      rw [splitB_hyphen, hr]
      show [] ++ 45 :: glue1 45 ((p :: ps).map _) = _
      rw [ih]
      rfl
    · rw [splitB_other h hr]
      cases ps with
      | nil =>
        have ih' : p.map UInt8.toNat = r.map UInt8.toNat := ih
        show (c :: p).map UInt8.toNat = _
        rw [List.map_cons, List.map_cons, ih']
      | cons q t =>
        have ih' : p.map UInt8.toNat ++ 45 :: glue1 45 ((q :: t).map fun p => p.map UInt8.toNat) = r.map UInt8.toNat := ih
        show (c :: p).map UInt8.toNat ++ 45 :: glue1 45 ((q :: t).map _) = _
        rw [List.map_cons, List.cons_append, ih', List.map_cons]
theorem splitB_free : ∀ (b : Bytes) (p : Bytes), p ∈ splitB b → (45 : Nat) ∉ p.map UInt8.toNat
  | [], p, h => by
    have e : p = [] := by simpa [splitB] using h
    rw [e]; simp
  | c :: r, p, h => by
    obtain ⟨q, ps, hr⟩ := splitB_ex r
    have ih := splitB_free r
    rw [hr] at ih
    by_cases hc : c = 45
    · subst hc
      rw [splitB_hyphen, hr] at h
      rcases List.mem_cons.mp h with e | h
      · rw [e]; simp
      · exact ih p h
    · rw [splitB_other hc hr] at h
      rcases List.mem_cons.mp h with e | h
      · rw [e, List.map_cons]
        intro hm
        rcases List.mem_cons.mp hm with z | z
        · exact hc (UInt8.toNat_inj.mp z.symm)
        · exact ih q List.mem_cons_self z
      · exact ih p (List.mem_cons_of_mem _ h)
theorem hyphen_str : ("-" : Str) = ⟨#[45]⟩ := by decide +kernel
/-- chunk.split("-") -/
theorem split_sB (b : Bytes) : Txt.split (sB b) "-" = (splitB b).map sB := by
  rw [hyphen_str]
  have h1 : (Txt.split (sB b) ⟨#[45]⟩).map (fun y => y.cps.toList) = (splitB b).map fun p => p.map UInt8.toNat := by
    refine glue1_inj (c := 45) _ _ ?_ ?_ ?_ ?_ ?_
    · intro e
      have := PyProof.Rows.split_pos (sB b) ⟨#[45]⟩
      rw [List.map_eq_nil_iff] at e
      rw [e] at this
      exact absurd this (by decide)
    · intro e
      rw [List.map_eq_nil_iff] at e
      exact splitB_ne b e
    · intro p hp
      obtain ⟨y, hy, rfl⟩ := List.mem_map.mp hp
      exact StrLaws.split_free (sB b) 45 y hy
    · intro p hp
      obtain ⟨y, hy, rfl⟩ := List.mem_map.mp hp
      exact splitB_free b y hy
    · rw [← join1, StrLaws.join_split, sB_cps, splitB_glue]
  apply List.ext_getElem?
  intro i
  have h2 := congrArg (fun l => l[i]?) h1
  simp only [List.getElem?_map] at h2
  rw [List.getElem?_map]
  cases e1 : (Txt.split (sB b) ⟨#[45]⟩)[i]? with
  | none =>
    rw [e1] at h2
    cases e2 : (splitB b)[i]? with
    | none => rfl
    | some q => rw [e2] at h2; cases h2
  | some y =>
    rw [e1] at h2
    cases e2 : (splitB b)[i]? with
    | none => rw [e2] at h2; cases h2
    | some q =>
      rw [e2] at h2
      have h3 : y.cps.toList = q.map UInt8.toNat := Option.some.inj h2
      show some y = some (sB q)
      rw [str_ext (a := y) (b := sB q) (by rw [h3, sB_cps])]
/-- "".join of texts of bytes -/
theorem join0 : ∀ bs : List Bytes, Str.join Str.empty (bs.map sB) = sB bs.flatten
  | [] => rfl
  | [b] => by simp [Str.join]
  | b :: c :: r => by
    have ih := join0 (c :: r)
    show sB b ++ Str.empty ++ Str.join Str.empty ((c :: r).map sB) = _
    rw [ih]
    apply str_ext
    rw [app_cps, app_cps, sB_cps, sB_cps, sB_cps]
    simp [Str.empty]
theorem empty_str : ("" : Str) = Str.empty := by decide +kernel
theorem txt_join0 (bs : List Bytes) : Txt.join "" (bs.map sB) = sB bs.flatten := by
  show Builtin.Str.glued "" (bs.map sB) = _
  rw [StrLaws.glued_eq_join, empty_str, join0]
theorem flatten_single (b : Bytes) : (b.map fun c => [c]).flatten = b := by
  induction b with
  | nil => rfl
  | cons c r ih => rw [List.map_cons, List.flatten_cons, ih]; rfl
end PwX

/-! ## PwD1 -/
namespace PwX
open PySem PySem.Spec PyProof.Rows L2
open VahypBase Vahypa Pw
section
variable {K : PySem.W.Frag} {mg : Str → Option Value}
theorem ifd {c : Prop} [Decidable c] {A B : Prop} (h1 : c → A) (h2 : ¬ c → B) : if decide c = true then A else B := by
  by_cases h : c
  · rw [if_pos (decide_eq_true h)]; exact h1 h
  · rw [if_neg (by simp [h])]; exact h2 h
theorem ifb {c : Bool} {A B : Prop} (h1 : c = true → A) (h2 : c = false → B) : if c = true then A else B := by
  cases c with
  | true => exact h1 rfl
  | false => exact (if_neg Bool.false_ne_true).symm ▸ h2 rfl
theorem u8_eq (c : UInt8) (n : Nat) (h : n < 256) : (c == UInt8.ofNat n) = decide ((c.toNat : Int) = (n : Int)) := by
  rw [Bool.eq_iff_iff, beq_iff_eq, decide_eq_true_eq]
  constructor
  · rintro rfl
    rw [UInt8.toNat_ofNat_of_lt' h]
  · intro e
    apply UInt8.toNat_inj.mp
    rw [UInt8.toNat_ofNat_of_lt' h]
    omega
theorem inV_int (x : Int) (l : List Int) : inV (.int x) (l.map V.int) = decide (x ∈ l) := by
  unfold inV
  rw [Bool.eq_iff_iff, List.any_eq_true, decide_eq_true_eq]
  constructor
  · rintro ⟨y, hy, e⟩
    obtain ⟨z, hz, rfl⟩ := List.mem_map.mp hy
    have e2 : (z == x) = true := e
    rw [← eq_of_beq e2]
    exact hz
  · intro h
    exact ⟨.int x, List.mem_map.mpr ⟨x, h, rfl⟩, beq_self_eq_true x⟩
theorem u8_lt (c : UInt8) : c.toNat < 256 := c.toNat_lt

def sp_is_blank (T : PEnv K mg) : Sp := fun vs H Q _ => ∃ c : UInt8, vs = [.int (c.toNat : Int)] ∧ ∀ H', Same H H' → Q (.bl (isBlank c)) H'
theorem sc_is_blank : FnScope ["byte"] ["byte"] (defScope s_is_blank) := ⟨rfl, rfl, rfl, by decide +kernel, rfl, by decide +kernel, by decide +kernel⟩
theorem ok_is_blank (T : PEnv K mg) {P : Program} {w : World} {base : Heap} : FnOk P w K mg base CX0 1 T.is_blank.f T.is_blank.fd ["byte"] (sp_is_blank T) := by
  refine T.is_blank.F.ok sc_is_blank (fun vs H Q E h => ?_) (fun cdv A outer s H vs Q E hr h => ?_)
  · obtain ⟨c, rfl, _⟩ := h
    rfl
  · obtain ⟨c, rfl, k⟩ := h
    refine ⟨_, (pss_one (ps_ret (pe_cmpR op_in_seq (pv 0) (pe_tup (pa_cons pe_int (pa_cons pe_int (pa_cons pe_int pa_nil)))) (by first | rfl | exact nomark _)))), ?_⟩
    refine ⟨_, rfl, (by show 3 ≤ sizeLine; decide), fun p hp => ⟨p, _, rfl, .inr (SqT.of upd_same), rfl, rfl, ?_⟩⟩
    have e : inV (V.int (c.toNat : Int)) [.int 32, .int 9, .int 10] = isBlank c := by
      have := inV_int (c.toNat : Int) [32, 9, 10]
      refine this.trans ?_
      unfold isBlank
      have e1 := u8_eq c 32 (by decide)
      have e2 := u8_eq c 9 (by decide)
      have e3 := u8_eq c 10 (by decide)
      have e1' : (c == 32) = decide ((c.toNat : Int) = 32) := e1
      have e2' : (c == 9) = decide ((c.toNat : Int) = 9) := e2
      have e3' : (c == 10) = decide ((c.toNat : Int) = 10) := e3
      rw [e1', e2', e3', Bool.eq_iff_iff]
      simp
    show Q (.bl (inV (V.int (c.toNat : Int)) [.int 32, .int 9, .int 10])) _
    rw [e]
    exact k _ (same_upd hp)
def sp_is_small_letter (T : PEnv K mg) : Sp := fun vs H Q _ => ∃ c : UInt8, vs = [.int (c.toNat : Int)] ∧ Q (.bl (isLetter c)) H
theorem sc_is_small_letter : FnScope ["byte"] ["byte"] (defScope s_is_small_letter) := ⟨rfl, rfl, rfl, by decide +kernel, rfl, by decide +kernel, by decide +kernel⟩
theorem ok_is_small_letter (T : PEnv K mg) {P : Program} {w : World} {base : Heap} : FnOk P w K mg base CX0 1 T.is_small_letter.f T.is_small_letter.fd ["byte"] (sp_is_small_letter T) := by
  refine T.is_small_letter.F.ok sc_is_small_letter (fun vs H Q E h => ?_) (fun cdv A outer s H vs Q E hr h => ?_)
  · obtain ⟨c, rfl, _⟩ := h
    rfl
  · obtain ⟨c, rfl, k⟩ := h
    refine ⟨_, (pss_one (ps_ret (pe_chain op_le op_le pe_int (pv 0) pe_int))), ?_⟩
    refine ⟨_, rfl, _, _, rfl, rfl, _, rfl, ifd (fun h1 => ⟨_, _, rfl, rfl, ?_⟩) (fun h1 => ?_)⟩
    · have e : decide ((c.toNat : Int) ≤ 122) = isLetter c := by
        rw [Bool.eq_iff_iff, decide_eq_true_eq, letter_nat]; omega
      show Q (.bl (decide ((c.toNat : Int) ≤ 122))) H
      rw [e]; exact k
    · have e : false = isLetter c := by
        rw [Bool.eq_iff_iff, letter_nat]; simp; omega
      show Q (.bl false) H
      rw [e]; exact k
def sp_is_digit (T : PEnv K mg) : Sp := fun vs H Q _ => ∃ c : UInt8, vs = [.int (c.toNat : Int)] ∧ Q (.bl (isDigit c)) H
theorem sc_is_digit : FnScope ["byte"] ["byte"] (defScope s_is_digit) := ⟨rfl, rfl, rfl, by decide +kernel, rfl, by decide +kernel, by decide +kernel⟩
theorem ok_is_digit (T : PEnv K mg) {P : Program} {w : World} {base : Heap} : FnOk P w K mg base CX0 1 T.is_digit.f T.is_digit.fd ["byte"] (sp_is_digit T) := by
  refine T.is_digit.F.ok sc_is_digit (fun vs H Q E h => ?_) (fun cdv A outer s H vs Q E hr h => ?_)
  · obtain ⟨c, rfl, _⟩ := h
    rfl
  · obtain ⟨c, rfl, k⟩ := h
    refine ⟨_, (pss_one (ps_ret (pe_chain op_le op_le pe_int (pv 0) pe_int))), ?_⟩
    refine ⟨_, rfl, _, _, rfl, rfl, _, rfl, ifd (fun h1 => ⟨_, _, rfl, rfl, ?_⟩) (fun h1 => ?_)⟩
    · have e : decide ((c.toNat : Int) ≤ 57) = isDigit c := by
        rw [Bool.eq_iff_iff, decide_eq_true_eq, digit_nat]; omega
      show Q (.bl (decide ((c.toNat : Int) ≤ 57))) H
      rw [e]; exact k
    · have e : false = isDigit c := by
        rw [Bool.eq_iff_iff, digit_nat]; simp; omega
      show Q (.bl false) H
      rw [e]; exact k
def sp_is_hyphen (T : PEnv K mg) : Sp := fun vs H Q _ => ∃ c : UInt8, vs = [.int (c.toNat : Int)] ∧ Q (.bl (c == 45)) H
theorem sc_is_hyphen : FnScope ["byte"] ["byte"] (defScope s_is_hyphen) := ⟨rfl, rfl, rfl, by decide +kernel, rfl, by decide +kernel, by decide +kernel⟩
theorem ok_is_hyphen (T : PEnv K mg) {P : Program} {w : World} {base : Heap} : FnOk P w K mg base CX0 1 T.is_hyphen.f T.is_hyphen.fd ["byte"] (sp_is_hyphen T) := by
  refine T.is_hyphen.F.ok sc_is_hyphen (fun vs H Q E h => ?_) (fun cdv A outer s H vs Q E hr h => ?_)
  · obtain ⟨c, rfl, _⟩ := h
    rfl
  · obtain ⟨c, rfl, k⟩ := h
    refine ⟨_, (pss_one (ps_ret (pe_cmpR op_eq (pv 0) pe_int (nomark _)))), ?_⟩
    refine ⟨_, rfl, rfl, ?_⟩
    have e : decide (V.int (c.toNat : Int) = V.int 45) = (c == 45) := by
      have e1 : (c == 45) = decide ((c.toNat : Int) = 45) := u8_eq c 45 (by decide)
      rw [e1, Bool.eq_iff_iff]; simp
    show Q (.bl (decide (V.int (c.toNat : Int) = V.int 45))) H
    rw [e]; exact k
def sp_is_point (T : PEnv K mg) : Sp := fun vs H Q _ => ∃ c : UInt8, vs = [.int (c.toNat : Int)] ∧ Q (.bl (c == 46)) H
theorem sc_is_point : FnScope ["byte"] ["byte"] (defScope s_is_point) := ⟨rfl, rfl, rfl, by decide +kernel, rfl, by decide +kernel, by decide +kernel⟩
theorem ok_is_point (T : PEnv K mg) {P : Program} {w : World} {base : Heap} : FnOk P w K mg base CX0 1 T.is_point.f T.is_point.fd ["byte"] (sp_is_point T) := by
  refine T.is_point.F.ok sc_is_point (fun vs H Q E h => ?_) (fun cdv A outer s H vs Q E hr h => ?_)
  · obtain ⟨c, rfl, _⟩ := h
    rfl
  · obtain ⟨c, rfl, k⟩ := h
    refine ⟨_, (pss_one (ps_ret (pe_cmpR op_eq (pv 0) pe_int (nomark _)))), ?_⟩
    refine ⟨_, rfl, rfl, ?_⟩
    have e : decide (V.int (c.toNat : Int) = V.int 46) = (c == 46) := by
      have e1 : (c == 46) = decide ((c.toNat : Int) = 46) := u8_eq c 46 (by decide)
      rw [e1, Bool.eq_iff_iff]; simp
    show Q (.bl (decide (V.int (c.toNat : Int) = V.int 46))) H
    rw [e]; exact k
def sp_is_of_chunk (T : PEnv K mg) : Sp := fun vs H Q _ => ∃ c : UInt8, vs = [.int (c.toNat : Int)] ∧ Q (.bl (inChunk c)) H
theorem sc_is_of_chunk : FnScope ["byte"] ["byte"] (defScope s_is_of_chunk) := ⟨rfl, rfl, rfl, by decide +kernel, rfl, by decide +kernel, by decide +kernel⟩
theorem ok_is_of_chunk (T : PEnv K mg) {P : Program} {w : World} {base : Heap} : FnOk P w K mg base CX0 2 T.is_of_chunk.f T.is_of_chunk.fd ["byte"] (sp_is_of_chunk T) := by
  refine T.is_of_chunk.F.ok sc_is_of_chunk (fun vs H Q E h => ?_) (fun cdv A outer s H vs Q E hr h => ?_)
  · obtain ⟨c, rfl, _⟩ := h
    rfl
  · obtain ⟨c, rfl, k⟩ := h
    refine ⟨_, (pss_one (ps_ret (pe_or (pe_call (ok_is_small_letter T) (hr.mono (by decide)) rfl T.is_small_letter.g T.is_small_letter.F.kp T.is_small_letter.b .nil pass0 (pa_cons (pv 0) pa_nil)) (pe_or (pe_call (ok_is_digit T) (hr.mono (by decide)) rfl T.is_digit.g T.is_digit.F.kp T.is_digit.b .nil pass0 (pa_cons (pv 0) pa_nil)) (pe_or (pe_call (ok_is_hyphen T) (hr.mono (by decide)) rfl T.is_hyphen.g T.is_hyphen.F.kp T.is_hyphen.b .nil pass0 (pa_cons (pv 0) pa_nil)) (pe_one (pe_call (ok_is_point T) (hr.mono (by decide)) rfl T.is_point.g T.is_point.F.kp T.is_point.b .nil pass0 (pa_cons (pv 0) pa_nil)))))))), ?_⟩
    unfold inChunk at k
    refine ⟨_, rfl, c, rfl, _, rfl, ifb (fun h1 => ?_) (fun h1 => ⟨_, rfl, c, rfl, _, rfl, ifb (fun h2 => ?_) (fun h2 => ⟨_, rfl, c, rfl, _, rfl, ifb (fun h3 => ?_) (fun h3 => ⟨_, rfl, c, rfl, ?_⟩)⟩)⟩)⟩
    · rw [h1] at k; exact k
    · rw [h1, h2] at k; exact k
    · rw [h1, h2, h3] at k; exact k
    · rw [h1, h2, h3] at k; exact k
end
end PwX

/-! ## PwD2 -/
namespace PwX
open PySem PySem.Spec PyProof.Rows L2
open VahypBase Vahypa Pw
section
variable {K : PySem.W.Frag} {mg : Str → Option Value}
theorem lc_yes {σ : L2.St} {H : Hp} {A B : Hp → Prop} (h : A H) : tYes σ H (fun b H3 => if b = true then A H3 else B H3) := by
  show if true = true then A H else B H
  exact iteT h
theorem vB_get {b : Bytes} {i : Nat} {x : V} (h : (vB b)[i]? = some x) : ∃ c, b[i]? = some c ∧ x = .int (c.toNat : Int) := by
  unfold vB at h
  rw [List.getElem?_map] at h
  cases e : b[i]? with
  | none => rw [e] at h; cases h
  | some c =>
    rw [e] at h
    exact ⟨c, rfl, (Option.some.inj h).symm⟩
theorem take_more {α : Type} {l : List α} {i : Nat} {x : α} (h : l[i]? = some x) : l.take (i + 1) = l.take i ++ [x] := by
  rw [List.take_add_one, h]
  rfl
theorem mem_at {α : Type} {l : List α} {i : Nat} {x : α} (h : l[i]? = some x) : x ∈ l := List.mem_of_getElem? h
theorem lett_list : (("abcdefghijklmnopqrstuvwxyz" : Str).cps.toList) = (List.range 26).map (· + 97) := by decide +kernel
theorem dig_list : (("0123456789" : Str).cps.toList) = (List.range 10).map (· + 48) := by decide +kernel
theorem lett_at {c : UInt8} (h : isLetter c = true) : atI ("abcdefghijklmnopqrstuvwxyz" : Str).cps.toList ((c.toNat : Int) - 97) = some c.toNat := by
  have k := letter_nat.mp h
  have e : (c.toNat : Int) - 97 = ((c.toNat - 97 : Nat) : Int) := by omega
  rw [e, lett_list]
  refine atI_nat ?_
  rw [List.getElem?_map, List.getElem?_range (by omega)]
  show some (c.toNat - 97 + 97) = _
  congr 1
  omega
theorem dig_at {c : UInt8} (h : isDigit c = true) : atI ("0123456789" : Str).cps.toList ((c.toNat : Int) - 48) = some c.toNat := by
  have k := digit_nat.mp h
  have e : (c.toNat : Int) - 48 = ((c.toNat - 48 : Nat) : Int) := by omega
  rw [e, dig_list]
  refine atI_nat ?_
  rw [List.getElem?_map, List.getElem?_range (by omega)]
  show some (c.toNat - 48 + 48) = _
  congr 1
  omega
theorem sB_one (c : UInt8) : (⟨#[c.toNat]⟩ : Str) = sB [c] := rfl
theorem sum_const {α : Type} (l : List α) (f : α → Nat) (h : ∀ a ∈ l, f a = 1) : (l.map f).sum = l.length := by
  induction l with
  | nil => rfl
  | cons a l ih =>
    rw [List.map_cons, List.sum_cons, h a List.mem_cons_self, ih fun b hb => h b (List.mem_cons_of_mem _ hb), List.length_cons]
    omega

def sp_sign_of (T : PEnv K mg) : Sp := fun vs H Q _ => ∃ c : UInt8, vs = [.int (c.toNat : Int)] ∧ inChunk c = true ∧ Q (.str (sB [c])) H
theorem sc_sign_of : FnScope ["byte"] ["byte"] (defScope s_sign_of) := ⟨rfl, rfl, rfl, by decide +kernel, rfl, by decide +kernel, by decide +kernel⟩
theorem ok_sign_of (T : PEnv K mg) {P : Program} {w : World} {base : Heap} : FnOk P w K mg base CX0 2 T.sign_of.f T.sign_of.fd ["byte"] (sp_sign_of T) := by
  refine T.sign_of.F.ok sc_sign_of (fun vs H Q E h => ?_) (fun cdv A outer s H vs Q E hr h => ?_)
  · obtain ⟨c, rfl, _⟩ := h
    rfl
  · obtain ⟨c, rfl, hc, k⟩ := h
    refine ⟨_, (pss_cons (ps_if (pt_val (pe_call (ok_is_small_letter T) (hr.mono (by decide)) rfl T.is_small_letter.g T.is_small_letter.F.kp T.is_small_letter.b .nil pass0 (pa_cons (pv 0) pa_nil)))
        (pss_one (ps_ret (pe_ix ix_str (pe_glob (v := .str "abcdefghijklmnopqrstuvwxyz") rfl T.c_SMALL_LETTERS.e ⟨_, rfl⟩) (pe_op op_sub (pv 0) pe_int) (fun _ _ => rfl))))
        pss_nil)
      (pss_cons (ps_if (pt_val (pe_call (ok_is_digit T) (hr.mono (by decide)) rfl T.is_digit.g T.is_digit.F.kp T.is_digit.b .nil pass0 (pa_cons (pv 0) pa_nil)))
        (pss_one (ps_ret (pe_ix ix_str (pe_glob (v := .str "0123456789") rfl T.c_DIGITS.e ⟨_, rfl⟩) (pe_op op_sub (pv 0) pe_int) (fun _ _ => rfl))))
        pss_nil)
      (pss_cons (ps_if (pt_val (pe_call (ok_is_hyphen T) (hr.mono (by decide)) rfl T.is_hyphen.g T.is_hyphen.F.kp T.is_hyphen.b .nil pass0 (pa_cons (pv 0) pa_nil)))
        (pss_one (ps_ret pe_str))
        pss_nil)
      (pss_one (ps_ret pe_str))))), ?_⟩
    refine ⟨_, rfl, c, rfl, _, rfl, ifb (fun h1 => ?_) (fun h1 => ⟨_, rfl, c, rfl, _, rfl, ifb (fun h2 => ?_) (fun h2 => ⟨_, rfl, c, rfl, _, rfl, ifb (fun h3 => ?_) (fun h3 => ?_)⟩)⟩)⟩
    · refine ⟨_, rfl, _, _, rfl, rfl, _, _, c.toNat, rfl, rfl, by decide +kernel, lett_at h1, ?_⟩
      exact k
    · refine ⟨_, rfl, _, _, rfl, rfl, _, _, c.toNat, rfl, rfl, by decide +kernel, dig_at h2, ?_⟩
      exact k
    · have e : c = 45 := eq_of_beq h3
      subst e
      have e2 : ("-" : Str) = sB [45] := by decide +kernel
      show Q (.str "-") H
      rw [e2]
      exact k
    · have e : c = 46 := by
        unfold inChunk at hc
        rw [h1, h2, h3] at hc
        exact eq_of_beq hc
      subst e
      have e2 : ("." : Str) = sB [46] := by decide +kernel
      show Q (.str ".") H
      rw [e2]
      exact k
def sp_signs_of (T : PEnv K mg) : Sp := fun vs H Q _ => ∃ (a : Addr) (b : Bytes), vs = [.ref a] ∧ SqL K H a (vB b) ∧ (∀ c ∈ b, inChunk c = true) ∧ b.length ≤ 100000 ∧ ∀ H', Same H H' → Q (.str (sB b)) H'
theorem sc_signs_of : FnScope ["chunk", "byte"] ["chunk"] (defScope s_signs_of) := ⟨rfl, rfl, rfl, by decide +kernel, rfl, by decide +kernel, by decide +kernel⟩
theorem ok_signs_of (T : PEnv K mg) {P : Program} {w : World} {base : Heap} : FnOk P w K mg base CX0 3 T.signs_of.f T.signs_of.fd ["chunk"] (sp_signs_of T) := by
  refine T.signs_of.F.ok sc_signs_of (fun vs H Q E h => ?_) (fun cdv A outer s H vs Q E hr h => ?_)
  · obtain ⟨a, b, rfl, _⟩ := h
    rfl
  · obtain ⟨a, b, rfl, hs, hc, hz, k⟩ := h
    refine ⟨_, (pss_one (ps_ret (pe_join pe_str (pe_lc (own := [("byte", 1)]) (g := gName 1) (tt := tYes) rfl sc_signs_of.nd (pi_list (pv 0)) (blkOk_by (own := [("byte", 1)]) (N := ["chunk", "byte"]) (sc := defScope s_signs_of) (by decide +kernel)) (fun _ _ _ _ _ => (pg_name (i := 1) sc_signs_of.nd rfl (Or.inl rfl))) (fun _ _ _ _ _ => pts_nil) (fun _ _ _ _ _ => (pe_call (ok_sign_of T) (hr.mono (by decide)) rfl T.sign_of.g T.sign_of.F.kp T.sign_of.b .nil pass0 (pa_cons (pv 1) pa_nil))))))), ?_⟩
    refine ⟨⟨_, rfl⟩, _, rfl, a, rfl, ⟨_, hs⟩, fun D hD => ?_⟩
    refine lc_list (K := K) (a := a) (xs := vB b) (fun i H' => Same H H' ∧ H' D = some (.lst (((b.take i).map fun c => [c]).map fun p => V.str (sB p)))) ⟨same_upd hD, upd_same⟩ (fun i H' _ p => p.1.seq hs) (fun i x H' hx p => ?_) fun H' p => ?_
    · obtain ⟨c, hb, rfl⟩ := vB_get hx
      refine ⟨rfl, lc_yes ⟨_, rfl, c, rfl, hc c (mem_at hb), _, p.2, ?_, same_updO p.1 hD, ?_⟩⟩
      · rw [List.length_map, List.length_map, List.length_take]
        exact small_lt (by omega)
      · rw [upd_same, take_more hb]
        simp
    · rw [vB_length, List.take_length] at p
      refine ⟨_, D, (b.map fun c => [c]).map sB, rfl, rfl, .inl (SqL.of (by rw [p.2]; simp)), ?_, ?_⟩
      · rw [sum_const _ _ (fun y hy => ?_)]
        · have e : ("" : Str).length = 0 := by decide +kernel
          rw [e]
          simp
          omega
        · obtain ⟨z, hz2, rfl⟩ := List.mem_map.mp hy
          obtain ⟨c, _, rfl⟩ := List.mem_map.mp hz2
          rfl
      · rw [txt_join0, flatten_single]
        exact k _ p.1
def sp_bytes_of (T : PEnv K mg) : Sp := fun vs H Q _ => ∃ (b : Bytes), vs = [.str (sB b)] ∧ b.length ≤ 100000 ∧ ∀ p H', Same H H' → H' p = some (.lst (vB b)) → H p = none → Q (.ref p) H'
theorem sc_bytes_of : FnScope ["signs", "sign"] ["signs"] (defScope s_bytes_of) := ⟨rfl, rfl, rfl, by decide +kernel, rfl, by decide +kernel, by decide +kernel⟩
theorem ok_bytes_of (T : PEnv K mg) {P : Program} {w : World} {base : Heap} : FnOk P w K mg base CX0 1 T.bytes_of.f T.bytes_of.fd ["signs"] (sp_bytes_of T) := by
  refine T.bytes_of.F.ok sc_bytes_of (fun vs H Q E h => ?_) (fun cdv A outer s H vs Q E hr h => ?_)
  · obtain ⟨b, rfl, _⟩ := h
    rfl
  · obtain ⟨b, rfl, hz, k⟩ := h
    refine ⟨_, (pss_one (ps_ret (pe_lc (own := [("sign", 1)]) (g := gName 1) (tt := tYes) rfl sc_bytes_of.nd (pi_str (pv 0)) (blkOk_by (own := [("sign", 1)]) (N := ["signs", "sign"]) (sc := defScope s_bytes_of) (by decide +kernel)) (fun _ _ _ _ _ => (pg_name (i := 1) sc_bytes_of.nd rfl (Or.inl rfl))) (fun _ _ _ _ _ => pts_nil) (fun _ _ _ _ _ => (pe_callB call_ord (by rfl) T.b_ord (by decide +kernel) (pa_cons (pv 1) pa_nil)))))), ?_⟩
    refine ⟨_, rfl, _, rfl, fun D hD => ?_⟩
    refine lc_it walk_str (fun i H' => Same H H' ∧ H' D = some (.lst (vB (b.take i)))) ⟨same_upd hD, upd_same⟩ (fun _ _ _ _ => trivial) (fun i x H1 H2 hi p y => ?_) fun H' p => ?_
    · obtain ⟨rfl, n, hn, rfl⟩ := y
      have hn2 : (sB b).cps.toList[i]? = some n := by rw [Array.getElem?_toList]; exact hn
      rw [sB_cps, List.getElem?_map] at hn2
      cases hb : b[i]? with
      | none => rw [hb] at hn2; cases hn2
      | some c =>
        rw [hb] at hn2
        have en : c.toNat = n := Option.some.inj hn2
        subst en
        refine ⟨rfl, lc_yes ⟨_, rfl, _, rfl, rfl, _, p.2, ?_, same_updO p.1 hD, ?_⟩⟩
        · rw [vB_length, List.length_take]
          exact small_lt (by omega)
        · rw [upd_same, take_more hb]
          simp [vB]
    · have e : (sB b).cps.size = b.length := by simp [sB]
      rw [e, List.take_length] at p
      exact k D H' p.1 p.2 hD
end
end PwX

/-! ## PwD3 -/
namespace PwX
open PySem PySem.Spec PyProof.Rows L2
open VahypBase Vahypa Pw
section
variable {K : PySem.W.Frag} {mg : Str → Option Value}
def WordNew (T : PEnv K mg) (H H' : Hp) (a : Addr) (w : Word) : Prop := ∃ dx g, H' a = some (.ins T.Word.C dx (WordF (.str (sB w.x)) (.ref g))) ∧ H' g = some (.lst (vN w.cuts)) ∧ H a = none ∧ H g = none
def PatNew (T : PEnv K mg) (H H' : Hp) (a : Addr) (p : Pat) : Prop := ∃ dx g, H' a = some (.ins T.Pattern.C dx (PatternF (.str (sB p.x)) (.bl p.front) (.bl p.halt_) (.ref g))) ∧ H' g = some (.lst (vN p.levels)) ∧ H a = none ∧ H g = none
theorem Sb.free {T : PEnv K mg} {r x : Addr} {H H' : Hp} (s : Sb r H H') (k : IsRd T H' r) (h : H' x = none) : H x = none := by
  cases e : H x with
  | none => rfl
  | some o =>
    have hne : x ≠ r := by
      rintro rfl
      obtain ⟨dx, u, v, e2⟩ := k
      rw [h] at e2
      cases e2
    rw [s x o e hne] at h
    cases h
section
variable {T : PEnv K mg} {H H0 H' H2 : Hp} {a r : Addr}
theorem WordNew.at_ {w : Word} (h : WordNew T H H' a w) : WordAt T H' a w := let ⟨dx, g, h1, h2, _, _⟩ := h; ⟨dx, g, h1, h2⟩
theorem PatNew.at_ {w : Pat} (h : PatNew T H H' a w) : PatAt T H' a w := let ⟨dx, g, h1, h2, _, _⟩ := h; ⟨dx, g, h1, h2⟩
theorem WordNew.same {w : Word} (h : WordNew T H H' a w) (s : Same H' H2) : WordNew T H H2 a w := let ⟨dx, g, h1, h2, h3, h4⟩ := h; ⟨dx, g, s _ _ h1, s _ _ h2, h3, h4⟩
theorem PatNew.same {w : Pat} (h : PatNew T H H' a w) (s : Same H' H2) : PatNew T H H2 a w := let ⟨dx, g, h1, h2, h3, h4⟩ := h; ⟨dx, g, s _ _ h1, s _ _ h2, h3, h4⟩
theorem WordNew.sb {w : Word} (h : WordNew T H H' a w) (k : IsRd T H' r) (s : Sb r H' H2) : WordNew T H H2 a w := let ⟨dx, g, h1, h2, h3, h4⟩ := h; ⟨dx, g, s _ _ h1 (k.ne_ins h1 (by show (["letters", "gaps"] : List Str) ≠ (["tokens", "at"] : List Str); decide +kernel)), s _ _ h2 (k.ne_lst h2), h3, h4⟩
theorem PatNew.sb {w : Pat} (h : PatNew T H H' a w) (k : IsRd T H' r) (s : Sb r H' H2) : PatNew T H H2 a w := let ⟨dx, g, h1, h2, h3, h4⟩ := h; ⟨dx, g, s _ _ h1 (k.ne_ins h1 (by show (["letters", "at_front", "at_end", "digits"] : List Str) ≠ (["tokens", "at"] : List Str); decide +kernel)), s _ _ h2 (k.ne_lst h2), h3, h4⟩
theorem WordNew.back {w : Word} (h : WordNew T H H' a w) (k : IsRd T H r) (s : Sb r H0 H) : WordNew T H0 H' a w := let ⟨dx, g, h1, h2, h3, h4⟩ := h; ⟨dx, g, h1, h2, s.free k h3, s.free k h4⟩
theorem PatNew.back {w : Pat} (h : PatNew T H H' a w) (k : IsRd T H r) (s : Sb r H0 H) : PatNew T H0 H' a w := let ⟨dx, g, h1, h2, h3, h4⟩ := h; ⟨dx, g, h1, h2, s.free k h3, s.free k h4⟩
end
theorem splitB_flat : ∀ b : Bytes, (splitB b).flatten.length ≤ b.length
  | [] => by simp [splitB]
  | c :: r => by
    have ih := splitB_flat r
    obtain ⟨p, ps, hr⟩ := splitB_ex r
    rw [hr] at ih
    by_cases h : c = 45
    · subst h
      rw [splitB_hyphen, hr]
      simp at ih ⊢
      omega
    · rw [splitB_other h hr]
      simp at ih ⊢
      omega
theorem splitB_len : ∀ b : Bytes, (splitB b).length ≤ b.length + 1
  | [] => by simp [splitB]
  | c :: r => by
    have ih := splitB_len r
    obtain ⟨p, ps, hr⟩ := splitB_ex r
    rw [hr] at ih
    by_cases h : c = 45
    · subst h
      rw [splitB_hyphen, hr]
      simp at ih ⊢
      omega
    · rw [splitB_other h hr]
      simp at ih ⊢
      omega
theorem flat_take (ps : List Bytes) (i : Nat) : ((ps.take i).flatten).length ≤ ps.flatten.length := by
  conv => rhs; rw [← List.take_append_drop i ps]
  rw [List.flatten_append, List.length_append]
  omega
theorem fold_cuts_len : ∀ (ps : List Bytes) (s : Bytes × List Nat), (ps.foldl wordStep s).2.length ≤ s.2.length + ps.length
  | [], s => Nat.le_refl _
  | q :: ps, s => by
    rw [List.foldl_cons]
    have ih := fold_cuts_len ps (wordStep s q)
    have h1 : (wordStep s q).2.length ≤ s.2.length + 1 := by
      unfold wordStep
      dsimp only
      split
      · simp
      · omega
    rw [List.length_cons]
    omega
theorem inV_empty (ps : List Bytes) : inV (.str "") ((ps.map sB).map V.str) = decide ([] ∈ ps) := by
  unfold inV
  rw [Bool.eq_iff_iff, List.any_eq_true, decide_eq_true_eq]
  have e0 : ("" : Str) = sB [] := by decide +kernel
  constructor
  · rintro ⟨y, hy, e⟩
    obtain ⟨z, hz, rfl⟩ := List.mem_map.mp hy
    obtain ⟨p, hp, rfl⟩ := List.mem_map.mp hz
    have e2 : (sB p == ("" : Str)) = true := e
    have e3 := eq_of_beq e2
    rw [e0] at e3
    rw [← sB_inj e3]
    exact hp
  · intro h
    refine ⟨.str "", List.mem_map.mpr ⟨"", List.mem_map.mpr ⟨[], h, e0.symm⟩, rfl⟩, ?_⟩
    exact beq_self_eq_true ("" : Str)
theorem flat_strs (ys : List Str) : (ys.map V.str).all flatV = true := by
  rw [List.all_eq_true]
  intro x hx
  obtain ⟨y, _, rfl⟩ := List.mem_map.mp hx
  rfl
theorem lett_mem (c : UInt8) : decide (c.toNat ∈ ("abcdefghijklmnopqrstuvwxyz" : Str).cps.toList) = isLetter c := by
  rw [lett_list, Bool.eq_iff_iff, decide_eq_true_eq, letter_nat, List.mem_map]
  constructor
  · rintro ⟨k, hk, e⟩
    have := List.mem_range.mp hk
    omega
  · rintro ⟨h1, h2⟩
    exact ⟨c.toNat - 97, List.mem_range.mpr (by omega), by omega⟩
/-- a comprehension over the signs of a text of bytes -/
theorem sB_at {b : Bytes} {i n : Nat} (h : (sB b).cps[i]? = some n) : ∃ c, b[i]? = some c ∧ n = c.toNat := by
  have h2 : (sB b).cps.toList[i]? = some n := by rw [Array.getElem?_toList]; exact h
  rw [sB_cps, List.getElem?_map] at h2
  cases hb : b[i]? with
  | none => rw [hb] at h2; cases h2
  | some c =>
    rw [hb] at h2
    exact ⟨c, rfl, (Option.some.inj h2).symm⟩
theorem sB_size (b : Bytes) : (sB b).cps.size = b.length := by simp [sB]
theorem get_map {α β : Type} {f : α → β} {l : List α} {i : Nat} {y : β} (h : (l.map f)[i]? = some y) : ∃ x, l[i]? = some x ∧ y = f x := by
  rw [List.getElem?_map] at h
  cases e : l[i]? with
  | none => rw [e] at h; cases h
  | some x =>
    rw [e] at h
    exact ⟨x, rfl, (Option.some.inj h).symm⟩
theorem sB_line {b : Bytes} (h : b.length ≤ 100000) : (sB b).length ≤ sizeLine := by
  rw [sB_length]
  exact small_line (by omega)
theorem wordFold_take (b : Bytes) {i : Nat} {q : Bytes} (h : (splitB b)[i]? = some q) : ((splitB b).take (i + 1)).foldl wordStep ([], []) = wordStep (((splitB b).take i).foldl wordStep ([], [])) q := by
  rw [take_more h, List.foldl_append]
  rfl
theorem wordFold_small (b : Bytes) (i : Nat) : (((splitB b).take i).foldl wordStep ([], [])).1.length ≤ b.length := by
  rw [wordFold_letters]
  have h1 := flat_take (splitB b) i
  have h2 := splitB_flat b
  simp at h1 h2 ⊢
  omega

def sp_word_of (T : PEnv K mg) : Sp := fun vs H Q _ => ∃ b : Bytes, vs = [.str (sB b)] ∧ b.length ≤ 1000 ∧ (wordOf b = none → ∀ H', Same H H' → Q .non H') ∧ (∀ w, wordOf b = some w → ∀ p H', Same H H' → WordNew T H H' p w → Q (.ref p) H')
theorem sc_word_of : FnScope ["chunk", "parts", "letters", "gaps", "part", "letter"] ["chunk"] (defScope s_word_of) := ⟨rfl, rfl, rfl, by decide +kernel, rfl, by decide +kernel, by decide +kernel⟩
theorem ok_word_of (T : PEnv K mg) {P : Program} {w : World} {base : Heap} : FnOk P w K mg base CX0 3 T.word_of.f T.word_of.fd ["chunk"] (sp_word_of T) := by
  refine T.word_of.F.ok sc_word_of (fun vs H Q E h => ?_) (fun cdv A outer s H vs Q E hr h => ?_)
  · obtain ⟨b, rfl, _⟩ := h
    rfl
  · obtain ⟨b, rfl, hz, kN, kS⟩ := h
    rw [← pyWord_eq] at kN
    have kS' : ∀ w, pyWord b = some w → ∀ p H', Same H H' → WordNew T H H' p w → Q (.ref p) H' := fun w e => kS w (by rw [← pyWord_eq]; exact e)
    clear kS
    refine ⟨_, (pss_cons (ps_set (i := 1) sc_word_of.nd rfl (Or.inl rfl) (pe_split (pv 0) pe_str))
      (pss_cons (ps_if (pt_cmpR op_in_seq pe_str (pv 1) (by first | rfl | exact nomark _))
        (pss_one (ps_ret pe_non))
        pss_nil)
      (pss_cons (ps_set (i := 2) sc_word_of.nd rfl (Or.inl rfl) pe_str)
      (pss_cons (ps_set (i := 3) sc_word_of.nd rfl (Or.inl rfl) (pe_lst pa_nil))
      (pss_cons (ps_for PassesOwn.never rfl (pi_list (pv 1)) (pg_name (i := 4) sc_word_of.nd rfl (Or.inl rfl))
        (pss_cons (ps_if (pt_cmpR op_gt (pe_callB call_len (by rfl) T.b_len (by decide +kernel) (pa_cons (pv 2) pa_nil)) pe_int (nomark _))
        (pss_one (ps_expr (pe_bm PySem.F.plainAttrs_list PySem.F.slot_list_append PySem.F.type_list_append mt_append (pv 3) (pa_cons (pe_callB call_len (by rfl) T.b_len (by decide +kernel) (pa_cons (pv 2) pa_nil)) pa_nil))))
        pss_nil)
      (pss_one (ps_aug (i := 2) sc_word_of.nd rfl (Or.inl rfl) (pv 4) iop_add_str))))
      (pss_cons (ps_if (PW.pt (pw_or (pt_cmpR op_lt (pe_callB call_len (by rfl) T.b_len (by decide +kernel) (pa_cons (pv 2) pa_nil)) (pe_glob (v := .int 2) rfl T.c_FEWEST_LETTERS_OF_WORD.e ⟨_, rfl⟩) (nomark _)) (pw_or1 (pt_cmpR op_gt (pe_callB call_len (by rfl) T.b_len (by decide +kernel) (pa_cons (pv 2) pa_nil)) (pe_glob (v := .int 16) rfl T.c_MOST_LETTERS_OF_WORD.e ⟨_, rfl⟩) (nomark _)))))
        (pss_one (ps_ret pe_non))
        pss_nil)
      (pss_cons (ps_if (pt_not (pt_val (pe_callB (cr_all rfl) (by rfl) T.b_all (by decide +kernel) (pa_cons (pe_lc (own := [("letter", 5)]) (g := gName 5) (tt := tYes) rfl sc_word_of.nd (pi_str (pv 2)) (blkOk_by (own := [("letter", 5)]) (N := ["chunk", "parts", "letters", "gaps", "part", "letter"]) (sc := defScope s_word_of) (by decide +kernel)) (fun _ _ _ _ _ => (pg_name (i := 5) sc_word_of.nd rfl (Or.inl rfl))) (fun _ _ _ _ _ => pts_nil) (fun _ _ _ _ _ => (pe_cmpR op_in_sign (pv 5) (pe_glob (v := .str "abcdefghijklmnopqrstuvwxyz") rfl T.c_SMALL_LETTERS.e ⟨_, rfl⟩) (by first | rfl | exact nomark _)))) pa_nil))))
        (pss_one (ps_ret pe_non))
        pss_nil)
      (pss_one (ps_ret (pe_make T.Word_mk (ok_Word_init T) (hr.mono (by decide)) rfl T.Word.g T.Word_init.b .nil pass0 (pa_cons (pv 2) (pa_cons (pv 3) pa_nil)))))))))))), ?_⟩
    refine ⟨_, rfl, ⟨_, rfl⟩, _, _, rfl, rfl, by decide +kernel, ?_, fun p hp => ?_⟩
    · rw [sB_length]
      exact small_line (by omega)
    rw [split_sB]
    refine ⟨_, rfl, p, _, rfl, .inl (SqL.of upd_same), rfl, flat_strs _, inV (.str "") (((splitB b).map sB).map V.str), rfl, ?_⟩
    rw [inV_empty]
    refine ifd (fun h1 => ?_) (fun h1 => ?_)
    · exact kN (by unfold pyWord; rw [if_pos h1]) _ (same_upd hp)
    refine ⟨Nat.zero_le _, fun g hg => ?_⟩
    have hgp : p ≠ g := ne_of_none upd_same hg
    have hg0 : H g = none := (same_upd hp).free hg
    refine ⟨_, rfl, p, rfl, ⟨_, SqL.of (by rw [upd_ne hgp]; exact upd_same)⟩, for_list (K := K) (a := p) (xs := ((splitB b).map sB).map V.str)
      (fun i σ H' => ∃ v, σ = [some (.str (sB b)), some (.ref p), some (.str (sB (((splitB b).take i).foldl wordStep ([], [])).1)), some (.ref g), v, none] ∧ Same H H' ∧ H' p = some (.lst (((splitB b).map sB).map V.str)) ∧ H' g = some (.lst (vN (((splitB b).take i).foldl wordStep ([], [])).2)))
      ⟨none, rfl, (same_upd hp).trans (same_upd hg), by rw [upd_ne hgp]; exact upd_same, upd_same⟩ (fun i σ H' _ ⟨_, _, _, q, _⟩ => SqL.of q) ?_ ?_⟩
    · rintro i y σ H' hi ⟨v, rfl, sm, hp2, hg2⟩
      obtain ⟨y1, hy1, rfl⟩ := get_map hi
      obtain ⟨q, hq, rfl⟩ := get_map hy1
      have hsm := wordFold_small b i
      have hsm2 := wordFold_small b (i + 1)
      have stp := wordFold_take b hq
      have cl := fold_cuts_len ((splitB b).take i) ([], [])
      have cl2 := splitB_len b
      have cl3 : ((splitB b).take i).length ≤ (splitB b).length := by rw [List.length_take]; omega
      rw [stp] at hsm2 ⊢
      generalize ((splitB b).take i).foldl wordStep ([], []) = s at *
      have hlen : s.1.length + q.length ≤ b.length := by
        have : (wordStep s q).1.length = s.1.length + q.length := by simp [wordStep]
        omega
      refine ⟨_, rfl, _, _, rfl, ⟨sB_line (by omega), rfl⟩, _, _, rfl, rfl, _, rfl, ifd (fun h2 => ?_) (fun h2 => ?_)⟩
      · refine ⟨_, rfl, .inl ⟨rfl, _, SqL.of hg2⟩, _, rfl, _, _, rfl, ⟨sB_line (by omega), rfl⟩, _, _, _, rfl, rfl, hg2, ?_, ?_⟩
        · rw [vN_length]
          exact small_lt (by simp at cl; omega)
        refine ⟨_, rfl, _, rfl, _, _, rfl, rfl, ?_, ?_⟩
        · rw [sB_length, sB_length]
          exact small_line (by omega)
        rw [sB_length] at h2
        refine ⟨some (.str (sB q)), ?_, same_updO sm hg0, by rw [upd_ne hgp]; exact hp2, ?_⟩
        · rw [sB_append]
          rfl
        · rw [upd_same, sB_length]
          unfold wordStep
          rw [if_pos (by omega)]
          simp [vN]
      · refine ⟨_, rfl, _, rfl, _, _, rfl, rfl, ?_, ?_⟩
        · rw [sB_length, sB_length]
          exact small_line (by omega)
        rw [sB_length] at h2
        refine ⟨some (.str (sB q)), ?_, sm, hp2, ?_⟩
        · rw [sB_append]
          rfl
        · rw [hg2]
          unfold wordStep
          rw [if_neg (by omega)]
    · rintro σ H' ⟨v, rfl, sm, hp2, hg2⟩
      have hsm := wordFold_small b ((splitB b).map sB |>.map V.str).length
      have el : (((splitB b).map sB).map V.str).length = (splitB b).length := by simp
      rw [el, List.take_length] at hsm hg2 ⊢
      change (wordFold (splitB b)).1.length ≤ b.length at hsm
      change H' g = some (.lst (vN (wordFold (splitB b)).2)) at hg2
      have pw : pyWord b = if (wordFold (splitB b)).1.length < 2 ∨ 16 < (wordFold (splitB b)).1.length then none else if (wordFold (splitB b)).1.all isLetter = true then some ⟨(wordFold (splitB b)).1, (wordFold (splitB b)).2⟩ else none := by
        unfold pyWord
        rw [if_neg h1]
      change tSeq _ _ _ [some (.str (sB b)), some (.ref p), some (.str (sB (wordFold (splitB b)).1)), some (.ref g), v, none] H'
      generalize wordFold (splitB b) = s at *
      refine ⟨_, rfl, _, _, rfl, ⟨sB_line (by omega), rfl⟩, _, _, rfl, rfl, _, rfl, ifd (fun h2 => iteT ?_) (fun h2 => ⟨_, rfl, _, _, rfl, ⟨sB_line (by omega), rfl⟩, _, _, rfl, rfl, _, rfl, ifd (fun h3 => ?_) (fun h3 => ?_)⟩)⟩
      · rw [sB_length] at h2
        exact kN (by rw [pw, if_pos (.inl (by omega))]) _ sm
      · rw [sB_length] at h3
        exact kN (by rw [pw, if_pos (.inr (by omega))]) _ sm
      rw [sB_length] at h2 h3
      have pw2 : pyWord b = if s.1.all isLetter = true then some ⟨s.1, s.2⟩ else none := by
        rw [pw, if_neg (by omega)]
      refine ⟨_, rfl, _, rfl, fun D hD => ?_⟩
      have hD0 : H D = none := sm.free hD
      have hgD : g ≠ D := ne_of_none hg2 hD
      refine lc_it walk_str (fun i H2 => Same H H2 ∧ H2 g = some (.lst (vN s.2)) ∧ H2 D = some (.lst (((s.1.take i).map isLetter).map V.bl))) ⟨same_updO sm hD0, by rw [upd_ne hgD]; exact hg2, upd_same⟩ (fun _ _ _ _ => trivial) (fun i x H1 H2 hi q y => ?_) fun H2 q => ?_
      · obtain ⟨rfl, n, hn, rfl⟩ := y
        obtain ⟨c, hb, rfl⟩ := sB_at hn
        refine ⟨rfl, lc_yes ⟨_, rfl, c.toNat, _, rfl, rfl, _, q.2.2, ?_, same_updO q.1 hD0, by rw [upd_ne hgD]; exact q.2.1, ?_⟩⟩
        · rw [List.length_map, List.length_map, List.length_take]
          exact small_lt (by omega)
        · rw [upd_same, take_more hb, lett_mem]
          simp
      · rw [sB_size, List.take_length] at q
        refine ⟨D, s.1.map isLetter, rfl, SqL.of q.2.2, _, rfl, ?_⟩
        have e : (s.1.map isLetter).all id = s.1.all isLetter := by
          rw [List.all_map]
          rfl
        rw [e]
        refine ifb (fun h4 => ?_) (fun h4 => ?_)
        · exact kN (by rw [pw2, if_neg (by intro z; rw [z] at h4; cases h4)]) _ q.1
        · refine ⟨_, rfl, _, rfl, Word_new T fun x H3 nx s3 ⟨dx, hW⟩ => ?_⟩
          have h5 : s.1.all isLetter = true := by
            cases z : s.1.all isLetter with
            | true => rfl
            | false => rw [z] at h4; cases h4
          exact kS' ⟨s.1, s.2⟩ (by rw [pw2, if_pos h5]) x H3 (q.1.trans s3) ⟨dx, g, hW, s3 _ _ q.2.1, q.1.free nx, hg0⟩
end
end PwX

/-! ## PwD4 -/
namespace PwX
open PySem PySem.Spec PyProof.Rows L2
open VahypBase Vahypa Pw
section
variable {K : PySem.W.Frag} {mg : Str → Option Value}
theorem point_str : ("." : Str) = ⟨#[46]⟩ := by decide +kernel
theorem u8_46 {c : UInt8} : c.toNat = 46 ↔ c = 46 := ⟨fun h => UInt8.toNat_inj.mp h, fun h => by rw [h]; rfl⟩
theorem sB_get (b : Bytes) (i : Nat) : (sB b).cps.toList[i]? = b[i]?.map UInt8.toNat := by rw [sB_cps, List.getElem?_map]
theorem starts_sB (b : Bytes) : Txt.startswith (sB b) "." = atFront b := by
  rw [point_str, Bool.eq_iff_iff]
  unfold Txt.startswith atFront
  rw [Bool.and_eq_true, decide_eq_true_eq, StrLaws.subAt_one, sB_get, beq_iff_eq]
  cases b with
  | nil => simp
  | cons c r =>
    show some c.toNat = some 46 ↔ some c = some 46
    rw [Option.some_inj, Option.some_inj, u8_46]
theorem ends_sB (b : Bytes) : Txt.endswith (sB b) "." = atEnd b := by
  rw [point_str, Bool.eq_iff_iff]
  unfold Txt.endswith atEnd
  rw [Bool.and_eq_true, decide_eq_true_eq, beq_iff_eq, sB_length]
  have e1 : (⟨#[46]⟩ : Str).length = 1 := rfl
  rw [e1]
  have key := StrLaws.subAt_one (sB b) 46 (b.length - 1)
  rw [sB_length, e1, sB_get] at key
  constructor
  · rintro ⟨h1, h2⟩
    have h3 := key.mp ⟨by omega, h2⟩
    rw [List.getLast?_eq_getElem?]
    cases e : b[b.length - 1]? with
    | none => rw [e] at h3; cases h3
    | some c =>
      rw [e] at h3
      rw [u8_46.mp (Option.some.inj h3)]
  · intro h
    rw [List.getLast?_eq_getElem?] at h
    have hl : b.length - 1 < b.length := (List.getElem?_eq_some_iff.mp h).1
    rw [h] at key
    exact ⟨by omega, (key.mpr rfl).2⟩
theorem cutS_sB (b : Bytes) (lo hi : Option Int) : cutS (sB b) lo hi = sB ((b.drop (HT.sIx b.length 0 lo)).take (HT.sIx b.length b.length hi - HT.sIx b.length 0 lo)) := by
  unfold cutS
  apply str_ext
  rw [sB_length, sB_cps, sB_cps]
  simp
theorem cut_from (b : Bytes) (k : Nat) : cutS (sB b) (some (k : Int)) none = sB (b.drop k) := by
  rw [cutS_sB, HT.sIx_nat, HT.sIx_none]
  congr 1
  by_cases h : k ≤ b.length
  · rw [Nat.min_eq_left h]
    exact List.take_of_length_le (by rw [List.length_drop]; omega)
  · rw [Nat.min_eq_right (by omega), List.drop_length, List.drop_eq_nil_of_le (by omega)]
    simp
theorem cut_to (b : Bytes) (k : Nat) : cutS (sB b) none (some (k : Int)) = sB (b.take k) := by
  rw [cutS_sB, HT.sIx_nat, HT.sIx_none, List.drop_zero, Nat.sub_zero]
  congr 1
  by_cases h : k ≤ b.length
  · rw [Nat.min_eq_left h]
  · rw [Nat.min_eq_right (by omega), List.take_length, List.take_of_length_le (by omega)]
theorem cut_mid (b : Bytes) (i j : Nat) (h : j ≤ b.length) : cutS (sB b) (some (i : Int)) (some (j : Int)) = sB ((b.drop i).take (j - i)) := by
  rw [cutS_sB, HT.sIx_nat, HT.sIx_nat, Nat.min_eq_left h]
  congr 1
  by_cases h2 : i ≤ b.length
  · rw [Nat.min_eq_left h2]
  · rw [Nat.min_eq_right (by omega), List.drop_length, List.drop_eq_nil_of_le (by omega)]
    simp
theorem cut_last (b : Bytes) : cutS (sB b) none (some (-1)) = sB b.dropLast := by
  rw [cutS_sB, HT.sIx_none, List.drop_zero, Nat.sub_zero, List.dropLast_eq_take]
  congr 2
  unfold HT.sIx
  dsimp only
  rw [if_pos (by decide)]
  omega
theorem tIf_val {t : TT} {ta tb : TE} {σ : L2.St} {H : Hp} {Q : VK} {c : Bool} {v : V} (ht : ∀ Q' : Bool → Hp → Prop, Q' c H → t σ H Q') (ha : c = true → ∀ Q' : VK, Q' v H → ta σ H Q') (hb : c = false → ∀ Q' : VK, Q' v H → tb σ H Q') (q : Q v H) : tIf t ta tb σ H Q := by
  refine ht _ ?_
  exact ifb (fun h => ha h Q q) (fun h => hb h Q q)
theorem asg_if {t : TT} {ta tb : TE} {g : TG} {u : TS} {D : Ends} {σ : L2.St} {H : Hp} {c : Bool} {v : V} (ht : ∀ Q' : Bool → Hp → Prop, Q' c H → t σ H Q') (ha : c = true → ∀ Q' : VK, Q' v H → ta σ H Q') (hb : c = false → ∀ Q' : VK, Q' v H → tb σ H Q')
    (q : g v σ H (u D)) : tSeq (tAsg (tIf t ta tb) g) u D σ H := tIf_val ht ha hb q
theorem one_mem (c : UInt8) : decide (c.toNat ∈ ("123456789" : Str).cps.toList) = isOne c := by
  have e : ("123456789" : Str).cps.toList = (List.range 9).map (· + 49) := by decide +kernel
  rw [e, Bool.eq_iff_iff, decide_eq_true_eq, one_nat, List.mem_map]
  constructor
  · rintro ⟨k, hk, e⟩
    have := List.mem_range.mp hk
    omega
  · rintro ⟨h1, h2⟩
    exact ⟨c.toNat - 49, List.mem_range.mpr (by omega), by omega⟩
theorem dig_text {c : UInt8} (h : isDigit c = true) : PySem.intText? (sB [c]) = some ((c.toNat - 48 : Nat) : Int) := by
  have k := digit_nat.mp h
  have e : c = UInt8.ofNat c.toNat := by simp
  have hc : c.toNat = 48 ∨ c.toNat = 49 ∨ c.toNat = 50 ∨ c.toNat = 51 ∨ c.toNat = 52 ∨ c.toNat = 53 ∨ c.toNat = 54 ∨ c.toNat = 55 ∨ c.toNat = 56 ∨ c.toNat = 57 := by omega
  rcases hc with z | z | z | z | z | z | z | z | z | z <;> (rw [z] at e; rw [e]; decide +kernel)
theorem one_digit {c : UInt8} (h : isOne c = true) : isDigit c = true := by
  have := one_nat.mp h
  exact digit_nat.mpr (by omega)
theorem patLoop_lens : ∀ (l x : Bytes) (vs : List Nat) (v : Nat) (q : Bytes × List Nat), patLoop l x vs v = some q → q.1.length ≤ x.length + l.length ∧ q.2.length ≤ vs.length + l.length + 1
  | [], x, vs, v, q, h => by
    cases h
    simp
  | c :: r, x, vs, v, q, h => by
    unfold patLoop at h
    split at h
    · have := patLoop_lens r _ _ _ q h
      simp at this ⊢
      omega
    · split at h
      · have := patLoop_lens r _ _ _ q h
        simp at this ⊢
        omega
      · cases h
theorem max_is {vs : List Nat} {m : Int} (hm : m ∈ vs.map (fun (n : Nat) => (n : Int))) (hle : ∀ y, y ∈ vs.map (fun (n : Nat) => (n : Int)) → y ≤ m) : m = ((vs.foldl Nat.max 0 : Nat) : Int) := by
  obtain ⟨n, hn, rfl⟩ := List.mem_map.mp hm
  have up : ∀ (l : List Nat) (a : Nat), a ≤ l.foldl Nat.max a ∧ (∀ y ∈ l, y ≤ l.foldl Nat.max a) := by
    intro l
    induction l with
    | nil => intro a; exact ⟨Nat.le_refl _, fun y h => by cases h⟩
    | cons b l ih =>
      intro a
      rw [List.foldl_cons]
      obtain ⟨h1, h2⟩ := ih (Nat.max a b)
      refine ⟨Nat.le_trans (Nat.le_max_left _ _) h1, fun y hy => ?_⟩
      rcases List.mem_cons.mp hy with e | hy
      · rw [e]; exact Nat.le_trans (Nat.le_max_right _ _) h1
      · exact h2 y hy
  have low : ∀ (l : List Nat) (a k : Nat), a ≤ k → (∀ y ∈ l, y ≤ k) → l.foldl Nat.max a ≤ k := by
    intro l
    induction l with
    | nil => intro a k h _; exact h
    | cons b l ih =>
      intro a k h1 h2
      rw [List.foldl_cons]
      exact ih _ _ (Nat.max_le.mpr ⟨h1, h2 b List.mem_cons_self⟩) fun y hy => h2 y (List.mem_cons_of_mem _ hy)
  have h1 := (up vs 0).2 n hn
  have h2 := low vs 0 n (Nat.zero_le _) fun y hy => by
    have := hle y (List.mem_map.mpr ⟨y, hy, rfl⟩)
    omega
  omega
theorem vN_map (l : List Nat) : vN l = (l.map fun (n : Nat) => (n : Int)).map V.int := by
  unfold vN
  rw [List.map_map]
  rfl
theorem vN_snoc (l : List Nat) (v : Nat) : vN (l ++ [v]) = vN l ++ [V.int (v : Int)] := by simp [vN]
theorem set_last {α : Type} (l : List α) (a b : α) : (l ++ [a]).set l.length b = l ++ [b] := by
  rw [List.set_append_right _ _ (Nat.le_refl _), Nat.sub_self]
  rfl
theorem ixN_last (l : List V) (a : V) : ixN (l ++ [a]).length (-1) = some l.length := by
  rw [List.length_append]
  unfold ixN
  show (if (0 : Int) ≤ -1 then _ else if -((l.length + 1 : Nat) : Int) ≤ -1 then _ else _) = _
  rw [if_neg (by decide), if_pos (by omega)]
  congr 1
  show (-1 + ((l.length + 1 : Nat) : Int)).toNat = _
  omega
theorem between_le (b : Bytes) : (between (behindPoint b)).length ≤ b.length := by
  have h1 : (behindPoint b).length ≤ b.length := by
    unfold behindPoint
    split
    · rw [List.length_drop]; omega
    · exact Nat.le_refl _
  have h2 : (between (behindPoint b)).length ≤ (behindPoint b).length := by
    unfold between
    split
    · rw [List.length_dropLast]; omega
    · exact Nat.le_refl _
  omega
theorem nm_if {n : Nat} {t : TT} {ta tb : TE} {g : TG} {a : TS} {D : Ends} {rt : VK} {bk ct : L2.St → Hp → Prop} {σ : L2.St} {H : Hp} {c : Bool} {w v : V} (ht : ∀ Q' : Bool → Hp → Prop, Q' c H → t (σ.set n (some w)) H Q') (ha : c = true → ∀ Q' : VK, Q' v H → ta (σ.set n (some w)) H Q') (hb : c = false → ∀ Q' : VK, Q' v H → tb (σ.set n (some w)) H Q')
    (q : g v (σ.set n (some w)) H (a D)) : gName n w σ H (Ends.nx ⟨tSeq (tAsg (tIf t ta tb) g) a D, rt, bk, ct⟩) := asg_if ht ha hb q

def sp_pattern_of (T : PEnv K mg) : Sp := fun vs H Q _ => ∃ b : Bytes, vs = [.str (sB b)] ∧ b.length ≤ 1000 ∧ (patOf b = none → ∀ H', Same H H' → Q .non H') ∧ (∀ w, patOf b = some w → ∀ p H', Same H H' → PatNew T H H' p w → Q (.ref p) H')
theorem sc_pattern_of : FnScope ["chunk", "at_front", "behind_point", "at_end", "between_points", "letters", "digits", "sign"] ["chunk"] (defScope s_pattern_of) := ⟨rfl, rfl, rfl, by decide +kernel, rfl, by decide +kernel, by decide +kernel⟩
theorem ok_pattern_of (T : PEnv K mg) {P : Program} {w : World} {base : Heap} : FnOk P w K mg base CX0 3 T.pattern_of.f T.pattern_of.fd ["chunk"] (sp_pattern_of T) := by
  refine T.pattern_of.F.ok sc_pattern_of (fun vs H Q E h => ?_) (fun cdv A outer s H vs Q E hr h => ?_)
  · obtain ⟨b, rfl, _⟩ := h
    rfl
  · obtain ⟨b, rfl, hz, kN, kS⟩ := h
    rw [← pyPat_eq] at kN
    have kS' : ∀ w, pyPat b = some w → ∀ p H', Same H H' → PatNew T H H' p w → Q (.ref p) H' := fun w e => kS w (by rw [← pyPat_eq]; exact e)
    clear kS
    have hb1 := between_le b
    refine ⟨_, (pss_cons (ps_set (i := 1) sc_pattern_of.nd rfl (Or.inl rfl) (pe_m1 PySem.F.slot_str_startswith PySem.F.type_str_startswith mt_startswith (pv 0) pe_str))
      (pss_cons (ps_set (i := 2) sc_pattern_of.nd rfl (Or.inl rfl) (pe_ifExp (pt_val (pv 1)) (pe_slice sl_str (pv 0) (po_some pe_int) po_none) (pv 0)))
      (pss_cons (ps_set (i := 3) sc_pattern_of.nd rfl (Or.inl rfl) (pe_m1 PySem.F.slot_str_endswith PySem.F.type_str_endswith mt_endswith (pv 2) pe_str))
      (pss_cons (ps_set (i := 4) sc_pattern_of.nd rfl (Or.inl rfl) (pe_ifExp (pt_val (pv 3)) (pe_slice sl_str (pv 2) po_none (po_some (pe_un un_neg pe_int))) (pv 2)))
      (pss_cons (ps_set (i := 5) sc_pattern_of.nd rfl (Or.inl rfl) pe_str)
      (pss_cons (ps_set (i := 6) sc_pattern_of.nd rfl (Or.inl rfl) (pe_lst (pa_cons pe_int pa_nil)))
      (pss_cons (ps_for PassesOwn.never rfl (pi_str (pv 4)) (pg_name (i := 7) sc_pattern_of.nd rfl (Or.inl rfl))
        (pss_one (ps_if (pt_cmpR op_in_sign (pv 7) (pe_glob (v := .str "abcdefghijklmnopqrstuvwxyz") rfl T.c_SMALL_LETTERS.e ⟨_, rfl⟩) (by first | rfl | exact nomark _))
        (pss_cons (ps_aug (i := 5) sc_pattern_of.nd rfl (Or.inl rfl) (pv 7) iop_add_str)
      (pss_one (ps_expr (pe_bm PySem.F.plainAttrs_list PySem.F.slot_list_append PySem.F.type_list_append mt_append (pv 6) (pa_cons pe_int pa_nil)))))
        (pss_one (ps_if (PW.pt (pw_and (pt_cmpR op_in_sign (pv 7) (pe_glob (v := .str "123456789") rfl T.c_PATTERN_DIGITS.e ⟨_, rfl⟩) (by first | rfl | exact nomark _)) (pw_and1 (pt_cmpR op_eq (pe_ix ix_list (pv 6) (pe_un un_neg pe_int) (fun _ _ => rfl)) pe_int (nomark _)))))
        (pss_one (ps_asg (pe_callTy call_int_str (by rfl) T.b_int (by decide +kernel) (pa_cons (pv 7) pa_nil)) (pg_sub (pv 6) (pe_un un_neg pe_int) set_list)))
        (pss_one (ps_ret pe_non)))))))
      (pss_cons (ps_if (PW.pt (pw_or (pt_cmpR op_lt (pe_callB call_len (by rfl) T.b_len (by decide +kernel) (pa_cons (pv 5) pa_nil)) pe_int (nomark _)) (pw_or (pt_cmpR op_gt (pe_callB call_len (by rfl) T.b_len (by decide +kernel) (pa_cons (pv 5) pa_nil)) (pe_glob (v := .int 6) rfl T.c_MOST_LETTERS_OF_PATTERN.e ⟨_, rfl⟩) (nomark _)) (pw_or1 (pt_cmpR op_eq (pe_callB (cr_max rfl) (by rfl) T.b_max (by decide +kernel) (pa_cons (pv 6) pa_nil)) pe_int (nomark _))))))
        (pss_one (ps_ret pe_non))
        pss_nil)
      (pss_one (ps_ret (pe_make T.Pattern_mk (ok_Pattern_init T) (hr.mono (by decide)) rfl T.Pattern.g T.Pattern_init.b .nil pass0 (pa_cons (pv 5) (pa_cons (pv 1) (pa_cons (pv 3) (pa_cons (pv 6) pa_nil))))))))))))))), ?_⟩
    refine ⟨_, rfl, ⟨_, rfl⟩, _, _, rfl, rfl, ?_⟩
    rw [starts_sB]
    refine nm_if (c := atFront b) (v := .str (sB (behindPoint b))) (fun Q' q => ⟨_, rfl, _, rfl, q⟩) (fun h1 Q' q => ⟨_, rfl, _, rfl, _, rfl, sB_line (by omega), ?_⟩) (fun h1 Q' q => ⟨_, rfl, ?_⟩) ?_
    · have e : cutS (sB b) (some 1) none = sB (behindPoint b) := by
        rw [show (1 : Int) = ((1 : Nat) : Int) from rfl, cut_from]
        unfold behindPoint
        rw [if_pos h1]
      rw [e]
      exact q
    · have e : behindPoint b = b := by
        unfold behindPoint
        rw [h1, if_neg Bool.false_ne_true]
      rw [e] at q
      exact q
    refine ⟨_, rfl, ⟨_, rfl⟩, _, _, rfl, rfl, ?_⟩
    rw [ends_sB]
    have hb2 : (behindPoint b).length ≤ b.length := by
      unfold behindPoint
      split
      · rw [List.length_drop]; omega
      · exact Nat.le_refl _
    refine nm_if (c := atEnd (behindPoint b)) (v := .str (sB (between (behindPoint b)))) (fun Q' q => ⟨_, rfl, _, rfl, q⟩) (fun h1 Q' q => ⟨_, rfl, _, rfl, _, rfl, _, rfl, sB_line (by omega), ?_⟩) (fun h1 Q' q => ⟨_, rfl, ?_⟩) ?_
    · have e : cutS (sB (behindPoint b)) none (some (-1)) = sB (between (behindPoint b)) := by
        rw [cut_last]
        unfold between
        rw [if_pos h1]
      show Q' (.str (cutS (sB (behindPoint b)) none (some (-1)))) H
      rw [e]
      exact q
    · have e : between (behindPoint b) = behindPoint b := by
        unfold between
        rw [h1, if_neg Bool.false_ne_true]
      rw [e] at q
      exact q
    have hpy : pyPat b = match patLoop (between (behindPoint b)) [] [] 0 with
      | none => none
      | some (x, vs) => if x.length < 1 ∨ 6 < x.length ∨ vs.foldl Nat.max 0 = 0 then none else some ⟨atFront b, x, atEnd (behindPoint b), vs⟩ := rfl
    generalize atEnd (behindPoint b) = ae at *
    generalize atFront b = af at *
    generalize between (behindPoint b) = l at *
    refine ⟨by decide, fun g hg => ?_⟩
    have e0 : ("" : Str) = sB [] := by decide +kernel
    refine ⟨_, rfl, _, rfl, for_it walk_str (fun i σ H' => ∃ x vs v u, patLoop l [] [] 0 = patLoop (l.drop i) x vs v ∧ x.length ≤ i ∧ vs.length ≤ i ∧ σ = [some (.str (sB b)), some (.bl af), some (.str (sB (behindPoint b))), some (.bl ae), some (.str (sB l)), some (.str (sB x)), some (.ref g), u] ∧ Same H H' ∧ H' g = some (.lst (vN (vs ++ [v]))))
      ⟨[], [], 0, none, rfl, Nat.le_refl _, Nat.le_refl _, by rw [← e0]; rfl, same_upd hg, upd_same⟩ (fun _ _ _ _ _ => trivial) ?_ ?_⟩
    · rintro i y σ H1 H2 hi ⟨x, vs, v, u, hrun, hx, hv, rfl, sm, hg2⟩ ⟨rfl, n, hn, rfl⟩
      obtain ⟨c, hc, rfl⟩ := sB_at hn
      have hil : i < l.length := (List.getElem?_eq_some_iff.mp hc).1
      have hd : l.drop i = c :: l.drop (i + 1) := by
        rw [List.drop_eq_getElem_cons hil, (List.getElem?_eq_some_iff.mp hc).2]
      rw [hd] at hrun
      refine ⟨_, rfl, c.toNat, _, rfl, rfl, _, rfl, ?_⟩
      rw [lett_mem]
      refine ifb (fun h1 => ?_) (fun h1 => ?_)
      · refine ⟨_, rfl, _, rfl, _, _, rfl, rfl, ?_, ?_⟩
        · rw [sB_length]
          exact small_line (by show x.length + 1 ≤ _; omega)
        refine ⟨_, rfl, .inl ⟨rfl, _, SqL.of hg2⟩, _, _, _, rfl, rfl, hg2, ?_, ?_⟩
        · rw [vN_length, List.length_append]
          exact small_lt (by show vs.length + 1 < _; omega)
        refine ⟨x ++ [c], vs ++ [v], 0, some (.str (sB [c])), ?_, ?_, ?_, ?_, same_updO sm hg, ?_⟩
        · rw [hrun]
          conv => lhs; unfold patLoop
          rw [if_pos h1]
        · rw [List.length_append]; show x.length + 1 ≤ i + 1; omega
        · rw [List.length_append]; show vs.length + 1 ≤ i + 1; omega
        · show [some (V.str (sB b)), _, _, _, _, some (V.str (sB x ++ sB [c])), _, _] = _
          rw [sB_append]
          rfl
        · rw [upd_same, vN_snoc (vs ++ [v]) 0]
          rfl
      · refine ⟨_, rfl, c.toNat, _, rfl, rfl, _, rfl, ?_⟩
        rw [one_mem]
        refine ifb (fun h2 => ⟨_, rfl, _, rfl, g, _, _, _, rfl, rfl, SqL.of hg2, by rw [vN_snoc]; exact atI_last _ _, rfl, _, rfl, ifd (fun h3 => ?_) (fun h3 => ?_)⟩) (fun h2 => ?_)
        · have ev : v = 0 := by
            injection h3 with h3
            omega
          subst ev
          refine ⟨_, rfl, _, _, rfl, dig_text (one_digit h2), Nat.le_of_ble_eq_true rfl, _, rfl, _, rfl, g, _, _, _, rfl, rfl, hg2, by rw [vN_snoc]; exact ixN_last _ _, ?_⟩
          refine ⟨x, vs, c.toNat - 48, some (.str (sB [c])), ?_, by omega, by omega, rfl, same_updO sm hg, ?_⟩
          · rw [hrun]
            conv => lhs; unfold patLoop
            rw [if_neg (by intro z; have := letter_nat.mp z; have := one_nat.mp h2; omega), if_pos ⟨h2, rfl⟩]
          · rw [upd_same, vN_snoc, vN_snoc, set_last]
        · refine kN ?_ _ sm
          rw [hpy, hrun]
          conv => lhs; unfold patLoop
          rw [if_neg (by intro z; have := letter_nat.mp z; have := one_nat.mp h2; omega), if_neg (by intro z; exact h3 (by rw [z.2]; rfl))]
        · refine iteF ?_
          refine kN ?_ _ sm
          rw [hpy, hrun]
          conv => lhs; unfold patLoop
          rw [if_neg (by rw [h1]; exact Bool.false_ne_true), if_neg (by intro z; rw [z.1] at h2; cases h2)]
    · rintro σ H' ⟨x, vs, v, u, hrun, hx, hv, rfl, sm, hg2⟩
      rw [sB_size] at hrun hx hv
      rw [List.drop_length] at hrun
      have hp2 : pyPat b = if x.length < 1 ∨ 6 < x.length ∨ (vs ++ [v]).foldl Nat.max 0 = 0 then none else some ⟨af, x, ae, vs ++ [v]⟩ := by
        rw [hpy, hrun]
        rfl
      change tSeq _ _ _ [some (.str (sB b)), some (.bl af), some (.str (sB (behindPoint b))), some (.bl ae), some (.str (sB l)), some (.str (sB x)), some (.ref g), u] H'
      have hys : 0 < (vs ++ [v]).length := by simp
      generalize vs ++ [v] = ys at *
      refine ⟨_, rfl, _, _, rfl, ⟨sB_line (by omega), rfl⟩, _, _, rfl, rfl, _, rfl, ifd (fun h2 => iteT ?_) (fun h2 => ⟨_, rfl, _, _, rfl, ⟨sB_line (by omega), rfl⟩, _, _, rfl, rfl, _, rfl, ifd (fun h3 => ?_) (fun h3 => ?_)⟩)⟩
      · rw [sB_length] at h2
        exact kN (by rw [hp2, if_pos (.inl (by omega))]) _ sm
      · rw [sB_length] at h3
        exact iteT (kN (by rw [hp2, if_pos (.inr (.inl (by omega)))]) _ sm)
      rw [sB_length] at h2 h3
      refine ⟨_, rfl, g, ys.map fun (n : Nat) => (n : Int), rfl, by rw [← vN_map]; exact SqL.of hg2, ?_, fun m hm hle => ?_⟩
      · rw [List.length_map]; exact hys
      have hmx := max_is hm hle
      subst hmx
      refine ⟨rfl, _, rfl, ifd (fun h4 => ?_) (fun h4 => ?_)⟩
      · exact kN (by rw [hp2, if_pos (.inr (.inr (by injection h4 with h4; omega)))]) _ sm
      · refine ⟨_, rfl, _, rfl, _, rfl, _, rfl, Pattern_new T fun q H3 nx s3 ⟨dx, hP⟩ => ?_⟩
        exact kS' ⟨af, x, ae, ys⟩ (by rw [hp2, if_neg (fun z => z.elim (fun z => by omega) fun z => z.elim (fun z => by omega) fun z => h4 (by rw [z]; rfl))]) q H3 (sm.trans s3) ⟨dx, g, hP, s3 _ _ hg2, sm.free nx, hg⟩
end
end PwX

/-! ## PwFld -/
namespace PwX
open PySem PySem.Spec PyProof.Rows L2
open VahypBase (Bytes)
theorem Word_l_letters {x_letters x_gaps : V} : (WordF x_letters x_gaps).lookup ("letters" : Str) = some x_letters := lk_here
theorem Word_l_gaps {x_letters x_gaps : V} : (WordF x_letters x_gaps).lookup ("gaps" : Str) = some x_gaps := (lk_past (by decide +kernel)).trans (lk_here)
theorem Pattern_l_letters {x_letters x_at_front x_at_end x_digits : V} : (PatternF x_letters x_at_front x_at_end x_digits).lookup ("letters" : Str) = some x_letters := lk_here
theorem Pattern_l_at_front {x_letters x_at_front x_at_end x_digits : V} : (PatternF x_letters x_at_front x_at_end x_digits).lookup ("at_front" : Str) = some x_at_front := (lk_past (by decide +kernel)).trans (lk_here)
theorem Pattern_l_at_end {x_letters x_at_front x_at_end x_digits : V} : (PatternF x_letters x_at_front x_at_end x_digits).lookup ("at_end" : Str) = some x_at_end := (lk_past (by decide +kernel)).trans ((lk_past (by decide +kernel)).trans (lk_here))
theorem Pattern_l_digits {x_letters x_at_front x_at_end x_digits : V} : (PatternF x_letters x_at_front x_at_end x_digits).lookup ("digits" : Str) = some x_digits := (lk_past (by decide +kernel)).trans ((lk_past (by decide +kernel)).trans ((lk_past (by decide +kernel)).trans (lk_here)))
theorem WordList_l_left_margin {x_left_margin x_right_margin x_words x_patterns : V} : (WordListF x_left_margin x_right_margin x_words x_patterns).lookup ("left_margin" : Str) = some x_left_margin := lk_here
theorem WordList_l_right_margin {x_left_margin x_right_margin x_words x_patterns : V} : (WordListF x_left_margin x_right_margin x_words x_patterns).lookup ("right_margin" : Str) = some x_right_margin := (lk_past (by decide +kernel)).trans (lk_here)
theorem WordList_l_words {x_left_margin x_right_margin x_words x_patterns : V} : (WordListF x_left_margin x_right_margin x_words x_patterns).lookup ("words" : Str) = some x_words := (lk_past (by decide +kernel)).trans ((lk_past (by decide +kernel)).trans (lk_here))
theorem WordList_l_patterns {x_left_margin x_right_margin x_words x_patterns : V} : (WordListF x_left_margin x_right_margin x_words x_patterns).lookup ("patterns" : Str) = some x_patterns := (lk_past (by decide +kernel)).trans ((lk_past (by decide +kernel)).trans ((lk_past (by decide +kernel)).trans (lk_here)))
theorem Token_l_signs {x_signs x_place : V} : (TokenF x_signs x_place).lookup ("signs" : Str) = some x_signs := lk_here
theorem Token_l_place {x_signs x_place : V} : (TokenF x_signs x_place).lookup ("place" : Str) = some x_place := (lk_past (by decide +kernel)).trans (lk_here)
theorem Standing_l_hits {x_hits x_faults x_misses : V} : (StandingF x_hits x_faults x_misses).lookup ("hits" : Str) = some x_hits := lk_here
theorem Standing_l_faults {x_hits x_faults x_misses : V} : (StandingF x_hits x_faults x_misses).lookup ("faults" : Str) = some x_faults := (lk_past (by decide +kernel)).trans (lk_here)
theorem Standing_l_misses {x_hits x_faults x_misses : V} : (StandingF x_hits x_faults x_misses).lookup ("misses" : Str) = some x_misses := (lk_past (by decide +kernel)).trans ((lk_past (by decide +kernel)).trans (lk_here))
theorem TextReader_l_tokens {x_tokens x_at : V} : (TextReaderF x_tokens x_at).lookup ("tokens" : Str) = some x_tokens := lk_here
theorem TextReader_l_at {x_tokens x_at : V} : (TextReaderF x_tokens x_at).lookup ("at" : Str) = some x_at := (lk_past (by decide +kernel)).trans (lk_here)
theorem Desk_l_held {x_held : V} : (DeskF x_held).lookup ("held" : Str) = some x_held := lk_here
theorem CallReader_l_calls {x_calls x_at : V} : (CallReaderF x_calls x_at).lookup ("calls" : Str) = some x_calls := lk_here
theorem CallReader_l_at {x_calls x_at : V} : (CallReaderF x_calls x_at).lookup ("at" : Str) = some x_at := (lk_past (by decide +kernel)).trans (lk_here)
end PwX

/-! ## PwD5 -/
namespace PwX
open PySem PySem.Spec PyProof.Rows L2
open VahypBase Vahypa Pw
section
variable {K : PySem.W.Frag} {mg : Str → Option Value}
theorem AllAt.at {α : Type} {P : Addr → α → Prop} {as : List Addr} {xs : List α} (h : AllAt P as xs) {i : Nat} {v : V} (hi : (vR as)[i]? = some v) : ∃ a x, v = .ref a ∧ as[i]? = some a ∧ xs[i]? = some x ∧ P a x := by
  unfold vR at hi
  obtain ⟨a, ha, e⟩ := get_map hi
  have hl : i < as.length := (List.getElem?_eq_some_iff.mp ha).1
  have hx : i < xs.length := by rw [← h.len]; exact hl
  exact ⟨a, xs[i], e, ha, List.getElem?_eq_getElem hx, h.at_ i a _ ha (List.getElem?_eq_getElem hx)⟩
theorem sqT_upd {T : Addr} {H : Hp} {xs : List V} : SqT K (upd H T (.tup xs)) T xs := SqT.of upd_same
def isW (x : Bytes) (w : Word) : Bool := w.x == x
theorem find_go {α : Type} {p : α → Bool} {l : List α} {i : Nat} {x : α} (h : l[i]? = some x) (h2 : (l.take i).findIdx? p = none) (hx : p x = false) : (l.take (i + 1)).findIdx? p = none := by
  rw [take_more h, List.findIdx?_append, h2]
  simp [hx]
theorem find_hit {α : Type} {p : α → Bool} {l : List α} {i : Nat} {x : α} (h : l[i]? = some x) (h2 : (l.take i).findIdx? p = none) (hx : p x = true) : l.findIdx? p = some i := by
  have hl : i < l.length := (List.getElem?_eq_some_iff.mp h).1
  rw [List.findIdx?_eq_some_iff_getElem]
  refine ⟨hl, ?_, ?_⟩
  · rw [(List.getElem?_eq_some_iff.mp h).2]; exact hx
  · intro j hj
    rw [List.findIdx?_eq_none_iff] at h2
    have := h2 l[j] (List.mem_take_iff_getElem.mpr ⟨j, by omega, rfl⟩)
    simp [this]
theorem andP {A B : Prop} {p q : Bool} (hp : p = true) : (p && q) = q := by rw [hp, Bool.true_and]
theorem sBq {a b : Bytes} : decide (V.str (sB a) = V.str (sB b)) = (a == b) := sB_eq
theorem blq {a b : Bool} : decide (V.bl a = V.bl b) = (a == b) := by cases a <;> cases b <;> rfl

def sp_same_pattern (T : PEnv K mg) : Sp := fun vs H Q _ => ∃ (a b : Addr) (p q : Pat), vs = [.ref a, .ref b] ∧ PatAt T H a p ∧ PatAt T H b q ∧ Q (.bl (sameP q p)) H
theorem sc_same_pattern : FnScope ["one", "other"] ["one", "other"] (defScope s_same_pattern) := ⟨rfl, rfl, rfl, by decide +kernel, rfl, by decide +kernel, by decide +kernel⟩
theorem ok_same_pattern (T : PEnv K mg) {P : Program} {w : World} {base : Heap} : FnOk P w K mg base CX0 1 T.same_pattern.f T.same_pattern.fd ["one", "other"] (sp_same_pattern T) := by
  refine T.same_pattern.F.ok sc_same_pattern (fun vs H Q E h => ?_) (fun cdv A outer s H vs Q E hr h => ?_)
  · obtain ⟨a, b, p, q, rfl, _⟩ := h
    rfl
  · obtain ⟨a, b, p, q, rfl, ⟨dx, g, ha, hg⟩, ⟨dy, g2, hb, hg2⟩, k⟩ := h
    refine ⟨_, (pss_one (ps_ret (pe_and (pe_cmpR op_eq (pe_fld (pv 0) rfl) (pe_fld (pv 1) rfl) (nomark _)) (pe_and (pe_cmpR op_eq (pe_fld (pv 0) rfl) (pe_fld (pv 1) rfl) (nomark _)) (pe_one (pe_cmpR op_eq (pe_fld (pv 0) rfl) (pe_fld (pv 1) rfl) (nomark _))))))), ?_⟩
    unfold sameP at k
    refine ⟨_, rfl, _, _, _, _, _, rfl, ha, T.Pattern.cl, T.Pattern_n_letters, Pattern_l_letters, _, rfl, _, _, _, _, _, rfl, hb, T.Pattern.cl, T.Pattern_n_letters, Pattern_l_letters, rfl, ?_⟩
    rw [sBq]
    refine ⟨_, rfl, ifb (fun h1 => ?_) (fun h1 => ?_)⟩
    · refine ⟨_, rfl, _, _, _, _, _, rfl, ha, T.Pattern.cl, T.Pattern_n_at_front, Pattern_l_at_front, _, rfl, _, _, _, _, _, rfl, hb, T.Pattern.cl, T.Pattern_n_at_front, Pattern_l_at_front, rfl, ?_⟩
      rw [blq]
      refine ⟨_, rfl, ifb (fun h2 => ?_) (fun h2 => ?_)⟩
      · refine ⟨_, rfl, _, _, _, _, _, rfl, ha, T.Pattern.cl, T.Pattern_n_at_end, Pattern_l_at_end, _, rfl, _, _, _, _, _, rfl, hb, T.Pattern.cl, T.Pattern_n_at_end, Pattern_l_at_end, rfl, ?_⟩
        rw [blq]
        rw [h1, h2, Bool.true_and, Bool.true_and] at k
        exact k
      · rw [h1, h2, Bool.false_and, Bool.and_false] at k
        exact k
    · rw [h1, Bool.false_and] at k
      exact k
def sp_number_of_word (T : PEnv K mg) : Sp := fun vs H Q _ => ∃ (a : Addr) (ws : List Word) (x : Bytes), vs = [.ref a, .str (sB x)] ∧ WordsAt T H a ws ∧ (∀ H', Same H H' → Q (match ws.findIdx? (isW x) with
  | none => .non
  | some i => .int (i : Nat)) H')
theorem sc_number_of_word : FnScope ["words", "letters", "number", "word"] ["words", "letters"] (defScope s_number_of_word) := ⟨rfl, rfl, rfl, by decide +kernel, rfl, by decide +kernel, by decide +kernel⟩
theorem ok_number_of_word (T : PEnv K mg) {P : Program} {w : World} {base : Heap} : FnOk P w K mg base CX0 1 T.number_of_word.f T.number_of_word.fd ["words", "letters"] (sp_number_of_word T) := by
  refine T.number_of_word.F.ok sc_number_of_word (fun vs H Q E h => ?_) (fun cdv A outer s H vs Q E hr h => ?_)
  · obtain ⟨a, ws, x, rfl, _⟩ := h
    rfl
  · obtain ⟨a, ws, x, rfl, hw, k⟩ := h
    refine ⟨_, (pss_cons (ps_for PassesOwn.never rfl (pi_enum (by rfl) T.b_enumerate (pa_cons (pv 0) pa_nil)) (pg_tup rfl (pgs_cons (pg_name (i := 2) sc_number_of_word.nd rfl (Or.inl rfl)) (pgs_cons (pg_name (i := 3) sc_number_of_word.nd rfl (Or.inl rfl)) pgs_nil)))
        (pss_one (ps_if (pt_cmpR op_eq (pe_fld (pv 3) rfl) (pv 1) (nomark _))
        (pss_one (ps_ret (pv 2)))
        pss_nil)))
      (pss_one (ps_ret pe_non))), ?_⟩
    obtain ⟨as, ha, hal⟩ := id hw
    refine ⟨_, rfl, a, vR as, rfl, SqL.of ha, for_it walk_enum (fun i σ H' => ∃ u v, σ = [some (.ref a), some (.str (sB x)), u, v] ∧ Same H H' ∧ (ws.take i).findIdx? (isW x) = none) ⟨none, none, rfl, Same.refl _, by simp⟩ (fun i σ H' _ ⟨_, _, _, s, _⟩ => SqL.of (s _ _ ha)) ?_ ?_⟩
    · rintro i y σ H1 H2 hi ⟨u, v, rfl, sm, hf⟩ ⟨t, n, y2, rfl, ht, rfl, hn, hy⟩
      cases hn
      obtain ⟨b, w, rfl, hb, hw2, dx, g, hW, hg⟩ := hal.at hy
      have sm2 := same_updO (o := .tup [.int (i : Nat), .ref b]) sm (sm.free ht)
      refine ⟨t, _, rfl, sqT_upd, rfl, _, _, rfl, _, _, rfl, rfl, ?_⟩
      refine ⟨_, rfl, _, _, _, _, _, rfl, sm2 _ _ hW, T.Word.cl, T.Word_n_letters, Word_l_letters, _, rfl, rfl, ?_⟩
      rw [sBq]
      refine ⟨_, rfl, ifb (fun h1 => ?_) (fun h1 => ?_)⟩
      · refine ⟨_, rfl, ?_⟩
        have e := find_hit (p := isW x) hw2 hf h1
        have := k _ sm2
        rw [e] at this
        exact this
      · exact ⟨_, _, rfl, sm2, find_go hw2 hf h1⟩
    · rintro σ H' ⟨u, v, rfl, sm, hf⟩
      have el : (vR as).length = ws.length := by rw [vR_length, hal.len]
      rw [el, List.take_length] at hf
      have := k _ sm
      rw [hf] at this
      exact this
def sp_number_of_pattern (T : PEnv K mg) : Sp := fun vs H Q _ => ∃ (a b : Addr) (ps : List Pat) (q : Pat), vs = [.ref a, .ref b] ∧ PatsAt T H a ps ∧ PatAt T H b q ∧ (∀ H', Same H H' → Q (match ps.findIdx? (sameP q) with
  | none => .non
  | some i => .int (i : Nat)) H')
theorem sc_number_of_pattern : FnScope ["patterns", "wanted", "number", "pattern"] ["patterns", "wanted"] (defScope s_number_of_pattern) := ⟨rfl, rfl, rfl, by decide +kernel, rfl, by decide +kernel, by decide +kernel⟩
theorem ok_number_of_pattern (T : PEnv K mg) {P : Program} {w : World} {base : Heap} : FnOk P w K mg base CX0 2 T.number_of_pattern.f T.number_of_pattern.fd ["patterns", "wanted"] (sp_number_of_pattern T) := by
  refine T.number_of_pattern.F.ok sc_number_of_pattern (fun vs H Q E h => ?_) (fun cdv A outer s H vs Q E hr h => ?_)
  · obtain ⟨a, b, ps, q, rfl, _⟩ := h
    rfl
  · obtain ⟨a, b, ps, q, rfl, hw, hq, k⟩ := h
    refine ⟨_, (pss_cons (ps_for PassesOwn.never rfl (pi_enum (by rfl) T.b_enumerate (pa_cons (pv 0) pa_nil)) (pg_tup rfl (pgs_cons (pg_name (i := 2) sc_number_of_pattern.nd rfl (Or.inl rfl)) (pgs_cons (pg_name (i := 3) sc_number_of_pattern.nd rfl (Or.inl rfl)) pgs_nil)))
        (pss_one (ps_if (pt_val (pe_call (ok_same_pattern T) (hr.mono (by decide)) rfl T.same_pattern.g T.same_pattern.F.kp T.same_pattern.b .nil pass0 (pa_cons (pv 3) (pa_cons (pv 1) pa_nil))))
        (pss_one (ps_ret (pv 2)))
        pss_nil)))
      (pss_one (ps_ret pe_non))), ?_⟩
    obtain ⟨as, ha, hal⟩ := id hw
    refine ⟨_, rfl, a, vR as, rfl, SqL.of ha, for_it walk_enum (fun i σ H' => ∃ u v, σ = [some (.ref a), some (.ref b), u, v] ∧ Same H H' ∧ (ps.take i).findIdx? (sameP q) = none) ⟨none, none, rfl, Same.refl _, by simp⟩ (fun i σ H' _ ⟨_, _, _, s, _⟩ => SqL.of (s _ _ ha)) ?_ ?_⟩
    · rintro i y σ H1 H2 hi ⟨u, v, rfl, sm, hf⟩ ⟨t, n, y2, rfl, ht, rfl, hn, hy⟩
      cases hn
      obtain ⟨c, w, rfl, hb, hw2, hW⟩ := hal.at hy
      have sm2 := same_updO (o := .tup [.int (i : Nat), .ref c]) sm (sm.free ht)
      refine ⟨t, _, rfl, sqT_upd, rfl, _, _, rfl, _, _, rfl, rfl, ?_⟩
      refine ⟨_, rfl, _, rfl, c, b, w, q, rfl, hW.same sm2, hq.same sm2, ?_⟩
      refine ⟨_, rfl, ifb (fun h1 => ?_) (fun h1 => ?_)⟩
      · refine ⟨_, rfl, ?_⟩
        have e := find_hit (p := sameP q) hw2 hf h1
        have := k _ sm2
        rw [e] at this
        exact this
      · exact ⟨_, _, rfl, sm2, find_go hw2 hf h1⟩
    · rintro σ H' ⟨u, v, rfl, sm, hf⟩
      have el : (vR as).length = ps.length := by rw [vR_length, hal.len]
      rw [el, List.take_length] at hf
      have := k _ sm
      rw [hf] at this
      exact this
end
end PwX

/-! ## PwD6 -/
namespace PwX
open PySem PySem.Spec PyProof.Rows L2
open VahypBase Vahypa Pw
section
variable {K : PySem.W.Frag} {mg : Str → Option Value}
def isCh : VahypBase.Tok → Bool
  | .chunk _ => true
  | _ => false
def Tk (t : VahypBase.Tok) : Prop := t = .last ∨ TokOk t
theorem sB_cons_ne {b : Bytes} (h : b ≠ []) : sB b ≠ Str.empty := fun e => by
  have := congrArg Str.length e
  rw [sB_length] at this
  exact h (List.eq_nil_of_length_eq_zero this)
theorem semi_str : (";" : Str) = tokS (.sign 59) := by decide +kernel
theorem end_str : ("" : Str) = tokS .last := empty_str
theorem tok_nodot {w : Bytes} {c : Nat} (hw : TokOk (.chunk w)) (hc : TokOk (.sign c)) : tokS (.chunk w) ≠ tokS (.sign c) := fun e => by
  have e1 : c = 59 := hc
  subst e1
  have e2 : w = [59] := sB_inj e
  have := hw.2.2 59 (by rw [e2]; exact List.mem_cons_self)
  rw [not59] at this
  cases this
theorem tok_nolast {t : VahypBase.Tok} (h : TokOk t) : tokS t ≠ tokS .last := fun e => by
  cases t with
  | last => exact h
  | sign c =>
    have := congrArg Str.length e
    cases this
  | chunk w => exact sB_cons_ne h.1 e
theorem tok_eq {t u : VahypBase.Tok} (ht : Tk t) (hu : Tk u) : decide (V.str (tokS t) = V.str (tokS u)) = tokEq t u := by
  have nn : ∀ {a b : Str}, a ≠ b → decide (V.str a = V.str b) = false := fun h => decide_eq_false fun e => h (by injection e)
  rcases ht with rfl | ht <;> rcases hu with rfl | hu
  · exact decide_eq_true rfl
  · rw [nn (tok_nolast hu).symm]
    cases u <;> first | rfl | exact hu.elim
  · rw [nn (tok_nolast ht)]
    cases t <;> first | rfl | exact ht.elim
  · cases t with
    | last => exact ht.elim
    | sign c =>
      cases u with
      | last => exact hu.elim
      | sign d => rw [show c = 59 from ht, show d = 59 from hu]; rfl
      | chunk w => rw [nn (tok_nodot hu ht).symm]; rfl
    | chunk w =>
      cases u with
      | last => exact hu.elim
      | sign d => rw [nn (tok_nodot ht hu)]; rfl
      | chunk z => exact sB_eq
theorem not_both (t : VahypBase.Tok) (ht : Tk t) : isCh t = (!tokEq t .last && !tokEq t (.sign 59)) := by
  rcases ht with rfl | ht
  · rfl
  · cases t with
    | last => exact ht.elim
    | sign c => rw [show c = 59 from ht]; rfl
    | chunk w => rfl
theorem TokAt.upd {T : PEnv K mg} {H : Hp} {a p : Addr} {t : PTok} {xs : List V} {o : HO} (h : TokAt T H a t) (hp : H p = some (.lst xs)) : TokAt T (upd H p o) a t := let ⟨dx, h1⟩ := h; ⟨dx, by rw [upd_ne (ne_of h1 hp (by intro z; cases z))]; exact h1⟩
theorem vR_snoc (as : List Addr) (a : Addr) : vR (as ++ [a]) = vR as ++ [V.ref a] := by simp [vR]
theorem ToksAt.snoc {T : PEnv K mg} {H : Hp} {a x : Addr} {t : PTok} {ts : Toks} {as : List Addr} (h : H a = some (.lst (vR as))) (h2 : AllAt (TokAt T H) as ts) (k : TokAt T H x t) : ToksAt T (upd H a (.lst (vR as ++ [.ref x]))) a (ts ++ [t]) :=
  ⟨as ++ [x], by rw [upd_same, vR_snoc], (h2.imp fun _ _ q => q.upd h).snoc (k.upd h)⟩

def sp_Token_is_chunk (T : PEnv K mg) : Sp := fun vs H Q _ => ∃ (a : Addr) (t : PTok), vs = [.ref a] ∧ TokAt T H a t ∧ Tk t.tok ∧ Q (.bl (isCh t.tok)) H
theorem sc_Token_is_chunk : FnScope ["self"] ["self"] (defScope s_Token_is_chunk) := ⟨rfl, rfl, rfl, by decide +kernel, rfl, by decide +kernel, by decide +kernel⟩
theorem ok_Token_is_chunk (T : PEnv K mg) {P : Program} {w : World} {base : Heap} : FnOk P w K mg base CX0 1 T.Token_is_chunk.f T.Token_is_chunk.fd ["self"] (sp_Token_is_chunk T) := by
  refine T.Token_is_chunk.F.ok sc_Token_is_chunk (fun vs H Q E h => ?_) (fun cdv A outer s H vs Q E hr h => ?_)
  · obtain ⟨a, t, rfl, _⟩ := h
    rfl
  · obtain ⟨a, t, rfl, ⟨dx, ha⟩, ht, k⟩ := h
    refine ⟨_, (pss_one (ps_ret (pe_and (pe_cmpR op_ne (pe_fld (pv 0) rfl) (pe_glob (v := .str "") rfl T.c_TEXT_END.e ⟨_, rfl⟩) (nomark _)) (pe_one (pe_cmpR op_ne (pe_fld (pv 0) rfl) (pe_glob (v := .str ";") rfl T.c_LINE_SIGN.e ⟨_, rfl⟩) (nomark _)))))), ?_⟩
    rw [not_both _ ht] at k
    refine ⟨_, rfl, _, _, _, _, _, rfl, ha, T.Token.cl, T.Token_n_signs, Token_l_signs, rfl, ?_⟩
    rw [end_str, tok_eq ht (.inl rfl)]
    refine ⟨_, rfl, ifb (fun h1 => ?_) (fun h1 => ?_)⟩
    · refine ⟨_, rfl, _, _, _, _, _, rfl, ha, T.Token.cl, T.Token_n_signs, Token_l_signs, rfl, ?_⟩
      rw [semi_str, tok_eq ht (.inr (show TokOk (.sign 59) from rfl))]
      rw [h1] at k
      exact k
    · rw [h1] at k
      exact k
theorem remLen_stop (l : Bytes) (h : l.head? = none ∨ l.head? = some 10) : remLen l = 0 := by
  unfold remLen
  cases l with
  | nil => rfl
  | cons c r =>
    rcases h with h | h
    · cases h
    · rw [Option.some.inj h]; rfl
theorem remLen_go {c : UInt8} {r : Bytes} (h : c ≠ 10) : remLen (c :: r) = remLen r + 1 := by
  unfold remLen
  rw [List.takeWhile_cons, if_pos (by simpa using h)]
  rfl
theorem atI_vB {b : Bytes} {j : Nat} (h : j < b.length) : atI (vB b) (j : Int) = some (.int ((b[j]'h).toNat : Int)) := by
  unfold atI ixN
  rw [if_pos (Int.natCast_nonneg j), if_pos (by rw [vB_length]; omega)]
  exact vB_at h
theorem chunkLen_go {c : UInt8} {r : Bytes} (h : inChunk c = true) : chunkLen (c :: r) = chunkLen r + 1 := by
  unfold chunkLen
  rw [List.takeWhile_cons, if_pos h]
  rfl
theorem chunkLen_stop {c : UInt8} {r : Bytes} (h : inChunk c = false) : chunkLen (c :: r) = 0 := by
  unfold chunkLen
  rw [List.takeWhile_cons, if_neg (by rw [h]; exact Bool.false_ne_true)]
  rfl

def sp_remark_end (T : PEnv K mg) : Sp := fun vs H Q _ => ∃ (a : Addr) (b : Bytes) (i : Nat), vs = [.ref a, .int (i : Nat)] ∧ SqL K H a (vB b) ∧ i ≤ b.length ∧ Q (.int ((i + remLen (b.drop i) : Nat) : Int)) H
theorem sc_remark_end : FnScope ["text", "place"] ["text", "place"] (defScope s_remark_end) := ⟨rfl, rfl, rfl, by decide +kernel, rfl, by decide +kernel, by decide +kernel⟩
theorem ok_remark_end (T : PEnv K mg) {P : Program} {w : World} {base : Heap} : FnOk P w K mg base CX0 1 T.remark_end.f T.remark_end.fd ["text", "place"] (sp_remark_end T) := by
  refine T.remark_end.F.ok sc_remark_end (fun vs H Q E h => ?_) (fun cdv A outer s H vs Q E hr h => ?_)
  · obtain ⟨a, b, i, rfl, _⟩ := h
    rfl
  · obtain ⟨a, b, i, rfl, ha, hi, k⟩ := h
    refine ⟨_, (pss_cons (ps_while PassesOwn.never (PW.pt (pw_and (pt_cmpR op_lt (pv 1) (pe_callB call_len (by rfl) T.b_len (by decide +kernel) (pa_cons (pv 0) pa_nil)) (nomark _)) (pw_and1 (pt_cmpR op_ne (pe_ix ix_list (pv 0) (pv 1) (fun _ _ => rfl)) (pe_glob (v := .int 10) rfl T.c_LINE_END.e ⟨_, rfl⟩) (nomark _)))))
        (pss_one (ps_aug (i := 1) sc_remark_end.nd rfl (Or.inl rfl) pe_int ip_add)))
      (pss_one (ps_ret (pv 1)))), ?_⟩
    refine ⟨fun m σ H' => ∃ j : Nat, σ = [some (.ref a), some (.int (j : Nat))] ∧ H' = H ∧ i ≤ j ∧ j ≤ b.length ∧ j + remLen (b.drop j) = i + remLen (b.drop i) ∧ m = b.length - j, ⟨_, i, rfl, rfl, Nat.le_refl _, hi, rfl, rfl⟩, ?_⟩
    rintro m σ H' ⟨j, rfl, rfl, h1, h2, h3, rfl⟩
    refine ⟨_, rfl, _, rfl, _, _, rfl, .inl ⟨_, ha, rfl⟩, _, _, rfl, rfl, _, rfl, ifd (fun h4 => ?_) (fun h4 => iteF ?_)⟩
    · rw [vB_length] at h4
      have h5 : j < b.length := by omega
      rw [drop_at h5] at h3
      refine ⟨_, rfl, _, rfl, a, _, _, _, rfl, rfl, ha, atI_vB h5, rfl, _, rfl, ?_⟩
      have e10 : (!decide (V.int ((b[j]'h5).toNat : Int) = V.int 10)) = decide (b[j]'h5 ≠ 10) := by
        rw [Bool.eq_iff_iff, Bool.not_eq_true', decide_eq_false_iff_not, decide_eq_true_eq]
        exact ⟨fun z w => z (by rw [w]; rfl), fun z w => z (by injection w with w; exact UInt8.toNat_inj.mp (Int.ofNat.inj w))⟩
      rw [e10]
      refine ifd (fun h6 => ?_) (fun h6 => ?_)
      · rw [remLen_go h6] at h3
        exact ⟨_, fun _ _ h => h, _, rfl, _, _, rfl, rfl, _, by omega, j + 1, rfl, rfl, by omega, by omega, by omega, rfl⟩
      · rw [remLen_stop _ (.inr (by rw [List.head?_cons]; exact congrArg some (Decidable.not_not.mp h6)))] at h3
        rw [← h3] at k
        exact ⟨_, rfl, k⟩
    · rw [vB_length] at h4
      have h5 : j = b.length := by omega
      rw [h5, List.drop_length, remLen_stop [] (.inl rfl)] at h3
      rw [← h3] at k
      subst h5
      exact ⟨_, rfl, k⟩
end
end PwX

/-! ## PwD7 -/
namespace PwX
open PySem PySem.Spec PyProof.Rows L2
open VahypBase Vahypa Pw
section
variable {K : PySem.W.Frag} {mg : Str → Option Value}
def FaultE (T : PEnv K mg) (E : XK) (H : Hp) (f : VahypBase.Fault) : Prop := ∀ (H' : Hp) (d : Addr), Same H H' → H' d = some (.xd (faultF (.int (f.code : Nat)) (.int (f.place : Nat)))) → E (.ref T.Fault.C) (some d) H'

def sp_chunk_end (T : PEnv K mg) : Sp := fun vs H Q E => ∃ (a : Addr) (b : Bytes) (i : Nat), vs = [.ref a, .int (i : Nat)] ∧ SqL K H a (vB b) ∧ i ≤ b.length ∧ (chunkLen (b.drop i) = 0 ∨ 40 < chunkLen (b.drop i) → FaultE T E H ⟨2, i⟩) ∧ (0 < chunkLen (b.drop i) → chunkLen (b.drop i) ≤ 40 → Q (.int ((i + chunkLen (b.drop i) : Nat) : Int)) H)
theorem sc_chunk_end : FnScope ["text", "place", "behind"] ["text", "place"] (defScope s_chunk_end) := ⟨rfl, rfl, rfl, by decide +kernel, rfl, by decide +kernel, by decide +kernel⟩
theorem ok_chunk_end (T : PEnv K mg) {P : Program} {w : World} {base : Heap} : FnOk P w K mg base (L2N.CX P w) 3 T.chunk_end.f T.chunk_end.fd ["text", "place"] (sp_chunk_end T) := by
  refine okN T.chunk_end.F sc_chunk_end (fun vs H Q E h => ?_) (fun cdv A outer s H vs Q E hr h => ?_)
  · obtain ⟨a, b, i, rfl, _⟩ := h
    rfl
  · obtain ⟨a, b, i, rfl, ha, hi, kE, k⟩ := h
    refine ⟨_, (pss_cons (ps_set (i := 2) sc_chunk_end.nd rfl (Or.inl rfl) (pv 1))
      (pss_cons (ps_while (L2.passes_of rfl) (PW.pt (pw_and (pt_cmpR op_lt (pv 2) (pe_callB call_len (by rfl) T.b_len (by decide +kernel) (pa_cons (pv 0) pa_nil)) (nomark _)) (pw_and1 (pt_val (pe_call (ok_is_of_chunk T) (hr.mono (by decide)) rfl T.is_of_chunk.g T.is_of_chunk.F.kp T.is_of_chunk.b .nil pass0 (pa_cons (pe_ix ix_list (pv 0) (pv 2) (fun _ _ => rfl)) pa_nil))))))
        (pss_one (ps_aug (i := 2) sc_chunk_end.nd rfl (Or.inl rfl) pe_int ip_add)))
      (pss_cons (ps_if (PW.pt (pw_or (pt_cmpR op_eq (pv 2) (pv 1) (nomark _)) (pw_or1 (pt_cmpR op_gt (pe_op op_sub (pv 2) (pv 1)) (pe_glob (v := .int 40) rfl T.c_LONGEST_CHUNK.e ⟨_, rfl⟩) (nomark _)))))
        (pss_one (L2N.ps_raise rfl (L2N.takes_of rfl rfl rfl rfl) (pmkF T.Fault_T (faultI T) (room2 hr) T.Fault.g (pa_cons (pe_glob (v := .int 2) rfl T.c_NO_TOKEN.e ⟨_, rfl⟩) (pa_cons (pv 1) pa_nil)))))
        pss_nil)
      (pss_one (ps_ret (pv 2)))))), ?_⟩
    refine ⟨_, rfl, fun m σ H' => ∃ j : Nat, σ = [some (.ref a), some (.int (i : Nat)), some (.int (j : Nat))] ∧ H' = H ∧ i ≤ j ∧ j ≤ b.length ∧ j + chunkLen (b.drop j) = i + chunkLen (b.drop i) ∧ m = b.length - j, ⟨_, i, rfl, rfl, Nat.le_refl _, hi, rfl, rfl⟩, ?_⟩
    rintro m σ H' ⟨j, rfl, rfl, h1, h2, h3, rfl⟩
    have fin : j = i + chunkLen (b.drop i) → tSeq (tIfS (tOr (tTest (tOp rEq (tVar 2) (tVar 1))) (tTest (tOp (rI0 fun i j => V.bl (decide (j < i))) (tOp (rI0 fun i j => V.int (i - j)) (tVar 2) (tVar 1)) (tC (.int 40))))) (fun x σ H => tMkF T.Fault.C (tCons (tC (V.int 2)) (tCons (tVar 1) tNil)) σ H fun cls d H' => E cls d H') tNext) (tRet (tVar 2)) { nx := fun x H' => Q V.non H', rt := Q } [some (.ref a), some (.int (i : Nat)), some (.int (j : Nat))] H' := by
      intro hj
      refine ⟨_, rfl, _, rfl, rfl, _, rfl, ifd (fun h4 => ?_) (fun h4 => ⟨_, rfl, _, rfl, _, _, rfl, rfl, _, _, rfl, rfl, _, rfl, ifd (fun h5 => ?_) (fun h5 => ?_)⟩)⟩
      · refine iteT ⟨_, rfl, _, _, rfl, fun d hd => kE (.inl ?_) _ d (same_upd hd) upd_same⟩
        injection h4 with h4
        omega
      · refine ⟨_, rfl, _, _, rfl, fun d hd => kE (.inr ?_) _ d (same_upd hd) upd_same⟩
        omega
      · refine ⟨_, rfl, ?_⟩
        rw [hj]
        exact k (Nat.pos_of_ne_zero fun z => h4 (by rw [hj, z]; rfl)) (by omega)
    refine ⟨_, rfl, _, rfl, _, _, rfl, .inl ⟨_, ha, rfl⟩, _, _, rfl, rfl, _, rfl, ifd (fun h4 => ?_) (fun h4 => iteF ?_)⟩
    · rw [vB_length] at h4
      have h5 : j < b.length := by omega
      rw [drop_at h5] at h3
      refine ⟨_, rfl, _, rfl, a, _, _, _, rfl, rfl, ha, atI_vB h5, _, rfl, _, rfl, ifb (fun h6 => ?_) (fun h6 => ?_)⟩
      · rw [chunkLen_go h6] at h3
        exact ⟨_, fun _ _ h => h, _, rfl, _, _, rfl, rfl, _, by omega, j + 1, rfl, rfl, by omega, by omega, by omega, rfl⟩
      · rw [chunkLen_stop h6] at h3
        exact fin (by omega)
    · rw [vB_length] at h4
      have h5 : j = b.length := by omega
      refine fin ?_
      rw [h5, List.drop_length] at h3
      rw [← h3, h5]
      rfl
end
end PwX

/-! ## PwD8 -/
namespace PwX
open PySem PySem.Spec PyProof.Rows L2
open VahypBase Vahypa Pw
section
variable {K : PySem.W.Frag} {mg : Str → Option Value}
theorem sq_same {H H' : Hp} {a : Addr} {xs : List V} (h : SqL K H a xs) (s : Same H H') : SqL K H' a xs := by
  rcases h with h | h
  · rcases h with h | ⟨o, h⟩
    · exact .inl (.inl (s _ _ h))
    · exact .inl (.inr ⟨o, s _ _ h⟩)
  · exact .inr h
theorem vint_u8 (c : UInt8) (n : Nat) (h : n < 256) : decide (V.int (c.toNat : Int) = V.int (n : Int)) = (c == UInt8.ofNat n) := by
  rw [u8_eq c n h, Bool.eq_iff_iff, decide_eq_true_eq, decide_eq_true_eq]
  exact ⟨fun e => by injection e, fun e => by rw [e]⟩
theorem vint35 (c : UInt8) : decide (V.int (c.toNat : Int) = V.int 35) = (c == 35) := vint_u8 c 35 (by decide)
theorem vint59 (c : UInt8) : decide (V.int (c.toNat : Int) = V.int 59) = (c == 59) := vint_u8 c 59 (by decide)
theorem toks_tw {pre : Toks} {k : Nat} (h : ∀ t ∈ pre, TokOk t.tok) : TW (pre ++ [⟨k, .last⟩]) := ⟨pre, _, rfl, rfl, h⟩
theorem toks_more {ts : Toks} {t : PTok} (h : ∀ t ∈ ts, TokOk t.tok) (k : TokOk t.tok) : ∀ u ∈ ts ++ [t], TokOk u.tok := fun u hu => by
  rcases List.mem_append.mp hu with hu | hu
  · exact h u hu
  · rw [List.mem_singleton.mp hu]; exact k
theorem AllAt.same {as : List Addr} {ts : Toks} {T : PEnv K mg} {H H' : Hp} (h : AllAt (TokAt T H) as ts) (s : Same H H') : AllAt (TokAt T H') as ts := h.imp fun _ _ q => q.same s
theorem cut_vB (b : Bytes) (i j : Nat) (h : j ≤ b.length) : cutV (vB b) (some (i : Int)) (some (j : Int)) = vB ((b.drop i).take (j - i)) := by
  unfold cutV
  rw [HT.sIx_nat, HT.sIx_nat, vB_length, Nat.min_eq_left h]
  unfold vB
  rw [List.map_take, List.map_drop]
  by_cases h2 : i ≤ b.length
  · rw [Nat.min_eq_left h2]
  · rw [Nat.min_eq_right (by omega), List.drop_eq_nil_of_le (by rw [List.length_map]; exact Nat.le_refl _), List.drop_eq_nil_of_le (by rw [List.length_map]; omega), List.take_nil, List.take_nil]

def sp_tokens_of (T : PEnv K mg) : Sp := fun vs H Q E => ∃ (a : Addr) (b : Bytes), vs = [.ref a] ∧ SqL K H a (vB b) ∧ b.length ≤ 10000 ∧ (∀ f, lexR 0 b = .error f → FaultE T E H f) ∧ (∀ ts, lexR 0 b = .ok ts → TW ts → ∀ p H', Same H H' → H p = none → ToksAt T H' p ts → Q (.ref p) H')
theorem sc_tokens_of : FnScope ["text", "tokens", "place", "behind"] ["text"] (defScope s_tokens_of) := ⟨rfl, rfl, rfl, by decide +kernel, rfl, by decide +kernel, by decide +kernel⟩
theorem ok_tokens_of (T : PEnv K mg) {P : Program} {w : World} {base : Heap} : FnOk P w K mg base (L2N.CX P w) 4 T.tokens_of.f T.tokens_of.fd ["text"] (sp_tokens_of T) := by
  refine okN T.tokens_of.F sc_tokens_of (fun vs H Q E h => ?_) (fun cdv A outer s H vs Q E hr h => ?_)
  · obtain ⟨a, b, rfl, _⟩ := h
    rfl
  · obtain ⟨a, b, rfl, ha, hb, kE, k⟩ := h
    refine ⟨_, (pss_cons (ps_set (i := 1) sc_tokens_of.nd rfl (Or.inl rfl) (pe_lst pa_nil))
      (pss_cons (ps_set (i := 2) sc_tokens_of.nd rfl (Or.inl rfl) pe_int)
      (pss_cons (ps_while (L2.passes_of rfl) (pt_cmpR op_lt (pv 2) (pe_callB call_len (by rfl) T.b_len (by decide +kernel) (pa_cons (pv 0) pa_nil)) (nomark _))
        (pss_one (ps_if (pt_val (pe_call (ok_is_blank T) (hr.mono (by decide)) rfl T.is_blank.g T.is_blank.F.kp T.is_blank.b .nil pass0 (pa_cons (pe_ix ix_list (pv 0) (pv 2) (fun _ _ => rfl)) pa_nil)))
        (pss_one (ps_aug (i := 2) sc_tokens_of.nd rfl (Or.inl rfl) pe_int ip_add))
        (pss_one (ps_if (pt_cmpR op_eq (pe_ix ix_list (pv 0) (pv 2) (fun _ _ => rfl)) (pe_glob (v := .int 35) rfl T.c_REMARK.e ⟨_, rfl⟩) (nomark _))
        (pss_one (ps_set (i := 2) sc_tokens_of.nd rfl (Or.inl rfl) (pe_call (ok_remark_end T) (hr.mono (by decide)) rfl T.remark_end.g T.remark_end.F.kp T.remark_end.b .nil pass0 (pa_cons (pv 0) (pa_cons (pv 2) pa_nil)))))
        (pss_one (ps_if (pt_cmpR op_eq (pe_ix ix_list (pv 0) (pv 2) (fun _ _ => rfl)) (pe_glob (v := .int 59) rfl T.c_SEMICOLON.e ⟨_, rfl⟩) (nomark _))
        (pss_cons (ps_expr (pe_bm PySem.F.plainAttrs_list PySem.F.slot_list_append PySem.F.type_list_append mt_append (pv 1) (pa_cons (pe_make T.Token_mk (ok_Token_init T) (hr.mono (by decide)) rfl T.Token.g T.Token_init.b .nil pass0 (pa_cons (pe_glob (v := .str ";") rfl T.c_LINE_SIGN.e ⟨_, rfl⟩) (pa_cons (pv 2) pa_nil))) pa_nil)))
      (pss_one (ps_aug (i := 2) sc_tokens_of.nd rfl (Or.inl rfl) pe_int ip_add)))
        (pss_cons (ps_set (i := 3) sc_tokens_of.nd rfl (Or.inl rfl) (pe_call (ok_chunk_end T) (hr.mono (by decide)) rfl T.chunk_end.g T.chunk_end.F.kp T.chunk_end.b .nil (passDN (L2N.takes_of rfl rfl rfl rfl)) (pa_cons (pv 0) (pa_cons (pv 2) pa_nil))))
      (pss_cons (ps_expr (pe_bm PySem.F.plainAttrs_list PySem.F.slot_list_append PySem.F.type_list_append mt_append (pv 1) (pa_cons (pe_make T.Token_mk (ok_Token_init T) (hr.mono (by decide)) rfl T.Token.g T.Token_init.b .nil pass0 (pa_cons (pe_call (ok_signs_of T) (hr.mono (by decide)) rfl T.signs_of.g T.signs_of.F.kp T.signs_of.b .nil pass0 (pa_cons (pe_slice sl_list (pv 0) (po_some (pv 2)) (po_some (pv 3))) pa_nil)) (pa_cons (pv 2) pa_nil))) pa_nil)))
      (pss_one (ps_set (i := 2) sc_tokens_of.nd rfl (Or.inl rfl) (pv 3))))))))))))
      (pss_cons (ps_expr (pe_bm PySem.F.plainAttrs_list PySem.F.slot_list_append PySem.F.type_list_append mt_append (pv 1) (pa_cons (pe_make T.Token_mk (ok_Token_init T) (hr.mono (by decide)) rfl T.Token.g T.Token_init.b .nil pass0 (pa_cons (pe_glob (v := .str "") rfl T.c_TEXT_END.e ⟨_, rfl⟩) (pa_cons (pe_callB call_len (by rfl) T.b_len (by decide +kernel) (pa_cons (pv 0) pa_nil)) pa_nil))) pa_nil)))
      (pss_one (ps_ret (pv 1))))))), ?_⟩
    refine ⟨Nat.zero_le _, fun p hp => ⟨fun m σ H' => ∃ (i : Nat) (ts : Toks) (v : Option V) (as : List Addr), σ = [some (.ref a), some (.ref p), some (.int (i : Nat)), v] ∧ LexAt b ts i ∧ (∀ t ∈ ts, TokOk t.tok) ∧ ts.length ≤ i ∧ Same H H' ∧ H' p = some (.lst (vR as)) ∧ AllAt (TokAt T H') as ts ∧ m = b.length - i, ⟨_, 0, [], none, [], rfl, LexAt.start b, by simp, Nat.le_refl _, same_upd hp, upd_same, AllAt.nil, rfl⟩, ?_⟩⟩
    rintro m σ H1 ⟨i, ts, v, as, rfl, lx, tk, tl, sm, hp1, al, rfl⟩
    have ha1 : SqL K H1 a (vB b) := sq_same ha sm
    have hal := al.len
    refine ⟨_, rfl, _, rfl, _, _, rfl, .inl ⟨_, ha1, rfl⟩, _, _, rfl, rfl, _, rfl, ifd (fun h4 => ?_) (fun h4 => ?_)⟩
    · rw [vB_length] at h4
      have h5 : i < b.length := by omega
      refine ⟨_, fun _ _ h => h, _, rfl, _, rfl, a, _, _, _, rfl, rfl, ha1, atI_vB h5, _, rfl, fun H2 s2 => ⟨_, rfl, ifb (fun h6 => ?_) (fun h6 => ?_)⟩⟩
      · exact ⟨_, rfl, _, _, rfl, rfl, _, by omega, i + 1, ts, v, as, rfl, lx.blank h5 h6, tk, by omega, sm.trans s2, s2 _ _ hp1, al.same s2, rfl⟩
      have ha2 := sq_same ha1 s2
      refine ⟨_, rfl, _, rfl, a, _, _, _, rfl, rfl, ha2, atI_vB h5, rfl, _, rfl, ?_⟩
      rw [vint35]
      refine ifb (fun h7 => ?_) (fun h7 => ?_)
      · have hr1 : 0 < remLen (b.drop i) := by
          rw [drop_at h5, remLen_go (by rw [eq_of_beq h7]; decide)]
          exact Nat.succ_pos _
        exact ⟨_, rfl, _, rfl, a, b, i, rfl, ha2, by omega, _, by omega, i + remLen (b.drop i), ts, v, as, rfl, lx.remark h5 h6 h7, tk, by omega, sm.trans s2, s2 _ _ hp1, al.same s2, rfl⟩
      refine ⟨_, rfl, _, rfl, a, _, _, _, rfl, rfl, ha2, atI_vB h5, rfl, _, rfl, ?_⟩
      rw [vint59]
      refine ifb (fun h8 => ?_) (fun h8 => ?_)
      · refine ⟨_, rfl, .inl ⟨rfl, _, SqL.of (s2 _ _ hp1)⟩, _, rfl, ?_⟩
        refine fun x dx nx nd _ => ⟨x, dx, _, _, rfl, upd_same, fun H3 hx kp => ⟨rfl, ?_⟩⟩
        have s3 := Same.made nx nd kp
        have hp3 := s3 _ _ (s2 _ _ hp1)
        obtain ⟨as2, q1, q2⟩ := ToksAt.snoc (t := ⟨i, .sign 59⟩) hp3 ((al.same s2).same s3) ⟨dx, by rw [hx, semi_str]⟩
        rw [upd_same] at q1
        refine ⟨_, _, _, rfl, rfl, hp3, ?_, _, rfl, _, _, rfl, rfl, _, by omega, i + 1, _, v, as2, rfl, lx.semi h5 h6 h7 h8, toks_more tk rfl, ?_, same_updO ((sm.trans s2).trans s3) hp, ?_, q2, rfl⟩
        · rw [vR_length, hal]
          exact small_lt (by omega)
        · rw [List.length_append]
          show ts.length + 1 ≤ i + 1
          omega
        · rw [upd_same]; exact q1
      · refine ⟨_, rfl, _, rfl, a, b, i, rfl, ha2, by omega, fun hc => ?_, fun hc1 hc2 => ?_⟩
        · have e := kE _ (lx.bad h5 h6 h7 h8 hc)
          exact fun H' d s3 hd => e H' d ((sm.trans s2).trans s3) hd
        have hle : i + chunkLen (b.drop i) ≤ b.length := (lx.chunk h5 h6 h7 hc1 hc2).1
        refine ⟨_, rfl, .inl ⟨rfl, _, SqL.of (s2 _ _ hp1)⟩, _, rfl, _, rfl, _, rfl, _, rfl, _, rfl, a, _, rfl, ha2, fun q hq => ?_⟩
        have ec := chunk_ok hc1 hc2
        refine ⟨q, _, rfl, SqL.of (by rw [upd_same, cut_vB _ _ _ hle, Nat.add_sub_cancel_left]), ec.2.2, Nat.le_trans ec.2.1 (by decide), fun H3 s3 => ?_⟩
        have s3' : Same H2 H3 := (same_upd hq).trans s3
        refine ⟨_, rfl, ?_⟩
        refine fun x dx nx nd _ => ⟨x, dx, _, _, rfl, upd_same, fun H4 hx kp => ⟨rfl, ?_⟩⟩
        have s4 := Same.made nx nd kp
        have hp3 := s4 _ _ (s3' _ _ (s2 _ _ hp1))
        obtain ⟨as2, q1, q2⟩ := ToksAt.snoc (t := ⟨i, .chunk ((b.drop i).take (chunkLen (b.drop i)))⟩) hp3 (((al.same s2).same s3').same s4) ⟨dx, hx⟩
        rw [upd_same] at q1
        refine ⟨_, _, _, rfl, rfl, hp3, ?_, _, rfl, _, by omega, i + chunkLen (b.drop i), _, _, as2, rfl, lx.chunk h5 h6 h7 hc1 hc2, toks_more tk ec, ?_, same_updO (((sm.trans s2).trans s3').trans s4) hp, ?_, q2, rfl⟩
        · rw [vR_length, hal]
          exact small_lt (by omega)
        · rw [List.length_append]
          show ts.length + 1 ≤ _
          omega
        · rw [upd_same]; exact q1
    · rw [vB_length] at h4
      have h5 : i = b.length := by have := lx.1; omega
      subst h5
      refine ⟨_, rfl, .inl ⟨rfl, _, SqL.of hp1⟩, _, rfl, _, _, rfl, .inl ⟨_, ha1, rfl⟩, ?_⟩
      refine fun x dx nx nd _ => ⟨x, dx, _, _, rfl, upd_same, fun H3 hx kp => ⟨rfl, ?_⟩⟩
      have s3 := Same.made nx nd kp
      have hp3 := s3 _ _ hp1
      have q := ToksAt.snoc (t := ⟨b.length, .last⟩) hp3 (al.same s3) ⟨dx, by rw [hx, vB_length, end_str]⟩
      refine ⟨_, _, _, rfl, rfl, hp3, ?_, _, rfl, k _ lx.done (toks_tw tk) p _ (same_updO (sm.trans s3) hp) hp q⟩
      · rw [vR_length, hal]
        exact small_lt (by omega)
end
end PwX

/-! ## PwD9 -/
namespace PwX
open PySem PySem.Spec PyProof.Rows L2
open VahypBase Vahypa Pw
section
variable {K : PySem.W.Frag} {mg : Str → Option Value}
def FaultR (T : PEnv K mg) (E : XK) (r : Addr) (H : Hp) (f : VahypBase.Fault) : Prop := ∀ (H' : Hp) (d : Addr), Sb r H H' → H' d = some (.xd (faultF (.int (f.code : Nat)) (.int (f.place : Nat)))) → E (.ref T.Fault.C) (some d) H'
theorem FaultR.e {T : PEnv K mg} {E : XK} {r : Addr} {H : Hp} {f : VahypBase.Fault} (h : FaultR T E r H f) : FaultE T E H f := fun H' d s e => h H' d (Sb.of s) e
theorem TW.tk {t : PTok} {l : Toks} (h : TW (t :: l)) : Tk t.tok := by
  cases e : t.tok with
  | last => exact .inl rfl
  | sign c => exact .inr (by rw [← e]; exact (h.tail (by rw [e]; intro z; cases z)).2)
  | chunk c => exact .inr (by rw [← e]; exact (h.tail (by rw [e]; intro z; cases z)).2)
theorem RdAt.tok {T : PEnv K mg} {H : Hp} {r : Addr} {t : PTok} {l : Toks} (h : RdAt T H r (t :: l)) : ∃ dx ta k as x, H r = some (.ins T.TextReader.C dx (TextReaderF (.ref ta) (.int (k : Nat)))) ∧ H ta = some (.lst (vR as)) ∧ atI (vR as) (k : Int) = some (.ref x) ∧ TokAt T H x t := by
  obtain ⟨dx, ta, k, ts, h1, ⟨as, h2, h3⟩, h4, h5⟩ := h
  have hk : ts[k]? = some t := by
    have := congrArg List.head? h4
    rw [List.head?_cons, List.head?_drop] at this
    exact this.symm
  have hl := (List.getElem?_eq_some_iff.mp hk).1
  obtain ⟨x, hx, px⟩ := h3.get hl
  rw [(List.getElem?_eq_some_iff.mp hk).2] at px
  refine ⟨dx, ta, k, as, x, h1, h2, ?_, px⟩
  unfold atI ixN
  rw [if_pos (Int.natCast_nonneg k), if_pos (by rw [vR_length, h3.len]; omega)]
  show (vR as)[k]? = _
  unfold vR
  rw [List.getElem?_map, hx]
  rfl
theorem RdAt.tw {T : PEnv K mg} {H : Hp} {r : Addr} {l : Toks} (h : RdAt T H r l) : TW l := let ⟨_, _, _, _, _, _, _, h5⟩ := h; h5
theorem sb_upd {H : Hp} {r : Addr} {o : HO} : Sb r H (upd H r o) := fun b u e n => by rw [upd_ne n]; exact e
theorem ToksAt.sbi {T : PEnv K mg} {H H' : Hp} {a r : Addr} {C dx : Addr} {fs : List (Str × V)} {ts : Toks} (h : ToksAt T H a ts) (hp : H r = some (.ins C dx fs)) (hf : (["signs", "place"] : List Str) ≠ fs.map (·.1)) (s : Sb r H H') : ToksAt T H' a ts :=
  let ⟨as, h1, h2⟩ := h; ⟨as, s _ _ h1 (ne_of h1 hp (by intro z; cases z)), h2.imp fun _ _ q => let ⟨dy, q1⟩ := q; ⟨dy, s _ _ q1 (ins_ne q1 hp hf)⟩⟩

def sp_TextReader_init (T : PEnv K mg) : Sp := fun vs H Q E => ∃ (p dx a : Addr) (b : Bytes), vs = [.ref p, .ref a] ∧ H p = some (.ins T.TextReader.C dx []) ∧ SqL K H a (vB b) ∧ b.length ≤ 10000 ∧ (∀ f, tokens b = .error f → FaultE T E H f) ∧ (∀ l, tokens b = .ok l → ∀ H', Sb p H H' → RdAt T H' p l → Q .non H')
theorem sc_TextReader_init : FnScope ["self", "text"] ["self", "text"] (defScope s_TextReader_init) := ⟨rfl, rfl, rfl, by decide +kernel, rfl, by decide +kernel, by decide +kernel⟩
theorem ok_TextReader_init (T : PEnv K mg) {P : Program} {w : World} {base : Heap} : FnOk P w K mg base (L2N.CX P w) 5 T.TextReader_init.f T.TextReader_init.fd ["self", "text"] (sp_TextReader_init T) := by
  refine okN T.TextReader_init.F sc_TextReader_init (fun vs H Q E h => ?_) (fun cdv A outer s H vs Q E hr h => ?_)
  · obtain ⟨p, dx, a, b, rfl, _⟩ := h
    rfl
  · obtain ⟨p, dx, a, b, rfl, hp, ha, hb, kE, k⟩ := h
    refine ⟨_, (pss_cons (ps_if (pt_cmpR op_gt (pe_callB call_len (by rfl) T.b_len (by decide +kernel) (pa_cons (pv 1) pa_nil)) (pe_glob (v := .int 4096) rfl T.c_LONGEST_TEXT.e ⟨_, rfl⟩) (nomark _))
        (pss_one (L2N.ps_raise rfl (L2N.takes_of rfl rfl rfl rfl) (pmkF T.Fault_T (faultI T) (room2 hr) T.Fault.g (pa_cons (pe_glob (v := .int 1) rfl T.c_TEXT_TOO_LONG.e ⟨_, rfl⟩) (pa_cons (pe_glob (v := .int 4096) rfl T.c_LONGEST_TEXT.e ⟨_, rfl⟩) pa_nil)))))
        pss_nil)
      (pss_cons (ps_fld (pv 0) (pe_call (ok_tokens_of T) (hr.mono (by decide)) rfl T.tokens_of.g T.tokens_of.F.kp T.tokens_of.b .nil (passDN (L2N.takes_of rfl rfl rfl rfl)) (pa_cons (pv 1) pa_nil)) rfl)
      (pss_one (ps_fld (pv 0) pe_int rfl)))), ?_⟩
    refine ⟨_, rfl, _, _, rfl, .inl ⟨_, ha, rfl⟩, _, _, rfl, rfl, _, rfl, ifd (fun h1 => ?_) (fun h1 => ?_)⟩
    · rw [vB_length] at h1
      refine ⟨_, _, rfl, fun d hd => kE ⟨1, 4096⟩ (tokens_long (by omega)) _ d (same_upd hd) upd_same⟩
    · rw [vB_length] at h1
      have e := tokens_short (b := b) (by omega)
      rw [e] at kE k
      refine ⟨_, rfl, a, b, rfl, ha, hb, kE, fun ts ht tw ta H1 s1 nx tt => ?_⟩
      refine ⟨_, rfl, _, _, _, _, rfl, s1 _ _ hp, T.TextReader.cl, T.TextReader_n_tokens, Nat.zero_lt_succ _, _, rfl, _, _, _, _, rfl, upd_same, T.TextReader.cl, T.TextReader_n_at, Nat.le_of_ble_eq_true rfl, ?_⟩
      refine k ts ht _ (((Sb.of s1).trans sb_upd).trans sb_upd) ⟨dx, ta, 0, ts, by rw [upd_same]; rfl, tt.sbi (s1 _ _ hp) (by intro z; cases z) (sb_upd.trans sb_upd), rfl, tw⟩
def sp_TextReader_token (T : PEnv K mg) : Sp := fun vs H Q _ => ∃ (r : Addr) (t : PTok) (l : Toks), vs = [.ref r] ∧ RdAt T H r (t :: l) ∧ ∀ x, TokAt T H x t → Q (.ref x) H
theorem sc_TextReader_token : FnScope ["self"] ["self"] (defScope s_TextReader_token) := ⟨rfl, rfl, rfl, by decide +kernel, rfl, by decide +kernel, by decide +kernel⟩
theorem ok_TextReader_token (T : PEnv K mg) {P : Program} {w : World} {base : Heap} : FnOk P w K mg base CX0 1 T.TextReader_token.f T.TextReader_token.fd ["self"] (sp_TextReader_token T) := by
  refine T.TextReader_token.F.ok sc_TextReader_token (fun vs H Q E h => ?_) (fun cdv A outer s H vs Q E hr h => ?_)
  · obtain ⟨r, t, l, rfl, _⟩ := h
    rfl
  · obtain ⟨r, t, l, rfl, hr1, k⟩ := h
    refine ⟨_, (pss_one (ps_ret (pe_ix ix_list (pe_fld (pv 0) rfl) (pe_fld (pv 0) rfl) (fun _ _ => rfl)))), ?_⟩
    obtain ⟨dx, ta, j, as, x, h1, h2, h3, h4⟩ := hr1.tok
    exact ⟨_, rfl, _, _, _, _, _, rfl, h1, T.TextReader.cl, T.TextReader_n_tokens, TextReader_l_tokens, _, rfl, _, _, _, _, _, rfl, h1, T.TextReader.cl, T.TextReader_n_at, TextReader_l_at, ta, _, _, _, rfl, rfl, SqL.of h2, h3, k x h4⟩
def sp_TextReader_stands (T : PEnv K mg) : Sp := fun vs H Q _ => ∃ (r : Addr) (t : PTok) (l : Toks) (u : VahypBase.Tok), vs = [.ref r, .str (tokS u)] ∧ RdAt T H r (t :: l) ∧ Tk u ∧ Q (.bl (tokEq t.tok u)) H
theorem sc_TextReader_stands : FnScope ["self", "signs"] ["self", "signs"] (defScope s_TextReader_stands) := ⟨rfl, rfl, rfl, by decide +kernel, rfl, by decide +kernel, by decide +kernel⟩
theorem ok_TextReader_stands (T : PEnv K mg) {P : Program} {w : World} {base : Heap} : FnOk P w K mg base CX0 2 T.TextReader_stands.f T.TextReader_stands.fd ["self", "signs"] (sp_TextReader_stands T) := by
  refine T.TextReader_stands.F.ok sc_TextReader_stands (fun vs H Q E h => ?_) (fun cdv A outer s H vs Q E hr h => ?_)
  · obtain ⟨r, t, l, u, rfl, _⟩ := h
    rfl
  · obtain ⟨r, t, l, u, rfl, hr1, hu, k⟩ := h
    refine ⟨_, (pss_one (ps_ret (pe_cmpR op_eq (pe_fld (pe_meth0 (pv 0) T.TextReader.cl T.TextReader_token.at_ (ok_TextReader_token T) (hr.mono (by decide)) T.TextReader_token.b .nil pass0) rfl) (pv 1) (nomark _)))), ?_⟩
    obtain ⟨dx, ta, j, as, x, h1, h2, h3, h4⟩ := hr1.tok
    refine ⟨_, rfl, _, _, _, rfl, h1, TextReader_m_token, r, t, l, rfl, hr1, fun y ⟨dy, hy⟩ => ?_⟩
    refine ⟨_, _, _, _, _, rfl, hy, T.Token.cl, T.Token_n_signs, Token_l_signs, _, rfl, rfl, ?_⟩
    rw [tok_eq (TW.tk hr1.tw) hu]
    exact k
def sp_TextReader_skip (T : PEnv K mg) : Sp := fun vs H Q _ => ∃ (r : Addr) (t : PTok) (l : Toks), vs = [.ref r] ∧ RdAt T H r (t :: l) ∧ t.tok ≠ .last ∧ ∀ H', Sb r H H' → RdAt T H' r l → Q .non H'
theorem sc_TextReader_skip : FnScope ["self"] ["self"] (defScope s_TextReader_skip) := ⟨rfl, rfl, rfl, by decide +kernel, rfl, by decide +kernel, by decide +kernel⟩
theorem ok_TextReader_skip (T : PEnv K mg) {P : Program} {w : World} {base : Heap} : FnOk P w K mg base CX0 1 T.TextReader_skip.f T.TextReader_skip.fd ["self"] (sp_TextReader_skip T) := by
  refine T.TextReader_skip.F.ok sc_TextReader_skip (fun vs H Q E h => ?_) (fun cdv A outer s H vs Q E hr h => ?_)
  · obtain ⟨r, t, l, rfl, _⟩ := h
    rfl
  · obtain ⟨r, t, l, rfl, hr1, ht, k⟩ := h
    refine ⟨_, (pss_one (ps_fldaug (pv 0) pe_int in_add)), ?_⟩
    have hr2 := hr1
    obtain ⟨dx, ta, j, ts, h1, h2, h3, h4⟩ := hr2
    refine ⟨_, rfl, _, _, _, _, _, rfl, h1, T.TextReader.cl, T.TextReader_n_at, TextReader_l_at, _, _, rfl, rfl, _, _, h1, Nat.le_of_ble_eq_true rfl, ?_⟩
    refine k _ sb_upd ⟨dx, ta, j + 1, ts, by rw [upd_same]; rfl, h2.sb hr1.is sb_upd, ?_, (TW.tail h4 ht).1⟩
    have := congrArg List.tail h3
    rw [List.tail_cons, List.tail_drop] at this
    exact this
def sp_TextReader_take (T : PEnv K mg) : Sp := fun vs H Q E => ∃ (r : Addr) (l : Toks) (u : VahypBase.Tok), vs = [.ref r, .str (tokS u)] ∧ RdAt T H r l ∧ TokOk u ∧ (∀ f, taken u l = .error f → FaultE T E H f) ∧ (∀ m, taken u l = .ok m → ∀ H', Sb r H H' → RdAt T H' r m → Q .non H')
theorem sc_TextReader_take : FnScope ["self", "signs"] ["self", "signs"] (defScope s_TextReader_take) := ⟨rfl, rfl, rfl, by decide +kernel, rfl, by decide +kernel, by decide +kernel⟩
theorem ok_TextReader_take (T : PEnv K mg) {P : Program} {w : World} {base : Heap} : FnOk P w K mg base (L2N.CX P w) 3 T.TextReader_take.f T.TextReader_take.fd ["self", "signs"] (sp_TextReader_take T) := by
  refine okN T.TextReader_take.F sc_TextReader_take (fun vs H Q E h => ?_) (fun cdv A outer s H vs Q E hr h => ?_)
  · obtain ⟨r, l, u, rfl, _⟩ := h
    rfl
  · obtain ⟨r, l, u, rfl, hr1, hu, kE, k⟩ := h
    refine ⟨_, (pss_cons (ps_if (pt_not (pt_val (pe_meth (pv 0) T.TextReader.cl T.TextReader_stands.at_ (ok_TextReader_stands T) (hr.mono (by decide)) T.TextReader_stands.b .nil pass0 (pa_cons (pv 1) pa_nil))))
        (pss_one (L2N.ps_raise rfl (L2N.takes_of rfl rfl rfl rfl) (pmkF T.Fault_T (faultI T) (room2 hr) T.Fault.g (pa_cons (pe_glob (v := .int 3) rfl T.c_NOT_ALLOWED_HERE.e ⟨_, rfl⟩) (pa_cons (pe_fld (pe_meth0 (pv 0) T.TextReader.cl T.TextReader_token.at_ (ok_TextReader_token T) (hr.mono (by decide)) T.TextReader_token.b .nil pass0) rfl) pa_nil)))))
        pss_nil)
      (pss_one (ps_expr (pe_meth0 (pv 0) T.TextReader.cl T.TextReader_skip.at_ (ok_TextReader_skip T) (hr.mono (by decide)) T.TextReader_skip.b .nil pass0)))), ?_⟩
    obtain ⟨t, l, rfl⟩ := List.exists_cons_of_ne_nil (TW.ne hr1.tw)
    obtain ⟨dx, ta, j, as, x, h1, h2, h3, h4⟩ := hr1.tok
    have et : taken u (t :: l) = if tokEq t.tok u = true then .ok l else .error ⟨3, t.place⟩ := rfl
    rw [et] at kE k
    refine ⟨_, rfl, _, _, _, rfl, h1, TextReader_m_stands, _, rfl, r, t, l, u, rfl, hr1, .inr hu, _, rfl, ?_⟩
    cases e : tokEq t.tok u with
    | true =>
      rw [e] at k
      refine iteF ⟨_, rfl, _, _, _, rfl, h1, TextReader_m_skip, r, t, l, rfl, hr1, ?_, fun H' s1 hr2 => k l rfl H' s1 hr2⟩
      intro z
      rw [z] at e
      cases u <;> first | exact hu.elim | cases e
    | false =>
      rw [e] at kE
      refine iteT ⟨_, rfl, _, _, _, rfl, h1, TextReader_m_token, r, t, l, rfl, hr1, fun y ⟨dy, hy⟩ => ?_⟩
      refine ⟨_, _, _, _, _, rfl, hy, T.Token.cl, T.Token_n_place, Token_l_place, _, _, rfl, fun d hd => kE _ rfl _ d (same_upd hd) upd_same⟩
def sp_TextReader_take_end (T : PEnv K mg) : Sp := fun vs H Q E => ∃ (r : Addr) (l : Toks), vs = [.ref r] ∧ RdAt T H r l ∧ (next .last l = false → FaultE T E H ⟨3, here l⟩) ∧ (next .last l = true → Q .non H)
theorem sc_TextReader_take_end : FnScope ["self"] ["self"] (defScope s_TextReader_take_end) := ⟨rfl, rfl, rfl, by decide +kernel, rfl, by decide +kernel, by decide +kernel⟩
theorem ok_TextReader_take_end (T : PEnv K mg) {P : Program} {w : World} {base : Heap} : FnOk P w K mg base (L2N.CX P w) 3 T.TextReader_take_end.f T.TextReader_take_end.fd ["self"] (sp_TextReader_take_end T) := by
  refine okN T.TextReader_take_end.F sc_TextReader_take_end (fun vs H Q E h => ?_) (fun cdv A outer s H vs Q E hr h => ?_)
  · obtain ⟨r, l, rfl, _⟩ := h
    rfl
  · obtain ⟨r, l, rfl, hr1, kE, k⟩ := h
    refine ⟨_, (pss_one (ps_if (pt_not (pt_val (pe_meth (pv 0) T.TextReader.cl T.TextReader_stands.at_ (ok_TextReader_stands T) (hr.mono (by decide)) T.TextReader_stands.b .nil pass0 (pa_cons (pe_glob (v := .str "") rfl T.c_TEXT_END.e ⟨_, rfl⟩) pa_nil))))
        (pss_one (L2N.ps_raise rfl (L2N.takes_of rfl rfl rfl rfl) (pmkF T.Fault_T (faultI T) (room2 hr) T.Fault.g (pa_cons (pe_glob (v := .int 3) rfl T.c_NOT_ALLOWED_HERE.e ⟨_, rfl⟩) (pa_cons (pe_fld (pe_meth0 (pv 0) T.TextReader.cl T.TextReader_token.at_ (ok_TextReader_token T) (hr.mono (by decide)) T.TextReader_token.b .nil pass0) rfl) pa_nil)))))
        pss_nil)), ?_⟩
    obtain ⟨t, l, rfl⟩ := List.exists_cons_of_ne_nil (TW.ne hr1.tw)
    obtain ⟨dx, ta, j, as, x, h1, h2, h3, h4⟩ := hr1.tok
    refine ⟨_, rfl, _, _, _, rfl, h1, TextReader_m_stands, r, t, l, .last, by rw [end_str]; rfl, hr1, .inl rfl, _, rfl, ?_⟩
    refine ifb (fun e => ?_) (fun e => ?_)
    · refine ⟨_, rfl, _, _, _, rfl, h1, TextReader_m_token, r, t, l, rfl, hr1, fun y ⟨dy, hy⟩ => ?_⟩
      refine ⟨_, _, _, _, _, rfl, hy, T.Token.cl, T.Token_n_place, Token_l_place, _, _, rfl, fun d hd => kE ?_ _ d (same_upd hd) upd_same⟩
      show tokEq t.tok .last = false
      rw [Bool.not_eq_true'] at e
      exact e
    · refine k ?_
      show tokEq t.tok .last = true
      rw [Bool.not_eq_false'] at e
      exact e
def sp_TextReader_chunk (T : PEnv K mg) : Sp := fun vs H Q E => ∃ (r : Addr) (l : Toks), vs = [.ref r] ∧ RdAt T H r l ∧ (∀ f, takeChunk l = .error f → FaultE T E H f) ∧ (∀ p w m, takeChunk l = .ok (p, w, m) → TokOk (.chunk w) → l = ⟨p, .chunk w⟩ :: m → Q (.str (sB w)) H)
theorem sc_TextReader_chunk : FnScope ["self"] ["self"] (defScope s_TextReader_chunk) := ⟨rfl, rfl, rfl, by decide +kernel, rfl, by decide +kernel, by decide +kernel⟩
theorem ok_TextReader_chunk (T : PEnv K mg) {P : Program} {w : World} {base : Heap} : FnOk P w K mg base (L2N.CX P w) 2 T.TextReader_chunk.f T.TextReader_chunk.fd ["self"] (sp_TextReader_chunk T) := by
  refine okN T.TextReader_chunk.F sc_TextReader_chunk (fun vs H Q E h => ?_) (fun cdv A outer s H vs Q E hr h => ?_)
  · obtain ⟨r, l, rfl, _⟩ := h
    rfl
  · obtain ⟨r, l, rfl, hr1, kE, k⟩ := h
    refine ⟨_, (pss_cons (ps_if (pt_not (pt_val (pe_meth0 (pe_meth0 (pv 0) T.TextReader.cl T.TextReader_token.at_ (ok_TextReader_token T) (hr.mono (by decide)) T.TextReader_token.b .nil pass0) T.Token.cl T.Token_is_chunk.at_ (ok_Token_is_chunk T) (hr.mono (by decide)) T.Token_is_chunk.b .nil pass0)))
        (pss_one (L2N.ps_raise rfl (L2N.takes_of rfl rfl rfl rfl) (pmkF T.Fault_T (faultI T) (room2 hr) T.Fault.g (pa_cons (pe_glob (v := .int 3) rfl T.c_NOT_ALLOWED_HERE.e ⟨_, rfl⟩) (pa_cons (pe_fld (pe_meth0 (pv 0) T.TextReader.cl T.TextReader_token.at_ (ok_TextReader_token T) (hr.mono (by decide)) T.TextReader_token.b .nil pass0) rfl) pa_nil)))))
        pss_nil)
      (pss_one (ps_ret (pe_fld (pe_meth0 (pv 0) T.TextReader.cl T.TextReader_token.at_ (ok_TextReader_token T) (hr.mono (by decide)) T.TextReader_token.b .nil pass0) rfl)))), ?_⟩
    obtain ⟨⟨tp, t⟩, l, rfl⟩ := List.exists_cons_of_ne_nil (TW.ne hr1.tw)
    obtain ⟨dx, ta, j, as, x, h1, h2, h3, h4⟩ := hr1.tok
    have tk : Tk t := TW.tk hr1.tw
    refine ⟨_, rfl, _, _, _, rfl, h1, TextReader_m_token, r, _, l, rfl, hr1, fun y ⟨dy, hy⟩ => ?_⟩
    refine ⟨_, _, _, rfl, hy, Token_m_is_chunk, y, _, rfl, ⟨dy, hy⟩, tk, _, rfl, ifb (fun e => ?_) (fun e => ?_)⟩
    · refine ⟨_, rfl, _, _, _, rfl, h1, TextReader_m_token, r, _, l, rfl, hr1, fun y ⟨dy, hy⟩ => ?_⟩
      refine ⟨_, _, _, _, _, rfl, hy, T.Token.cl, T.Token_n_place, Token_l_place, _, _, rfl, fun d hd => kE ⟨3, tp⟩ ?_ _ d (same_upd hd) upd_same⟩
      cases t with
      | chunk w => cases e
      | sign c => rfl
      | last => rfl
    · refine ⟨_, rfl, _, _, _, rfl, h1, TextReader_m_token, r, _, l, rfl, hr1, fun y ⟨dy, hy⟩ => ?_⟩
      cases t with
      | chunk w =>
        refine ⟨_, _, _, _, _, rfl, hy, T.Token.cl, T.Token_n_signs, Token_l_signs, k _ w _ rfl ?_ rfl⟩
        rcases tk with z | z
        · cases z
        · exact z
      | sign c => cases e
      | last => cases e
end
end PwX

/-! ## PwD10 -/
namespace PwX
open PySem PySem.Spec PyProof.Rows L2
open VahypBase Vahypa Pw
section
variable {K : PySem.W.Frag} {mg : Str → Option Value}
theorem inV_strs (w : Bytes) (bs : List Bytes) : inV (.str (sB w)) (bs.map fun b => V.str (sB b)) = decide (w ∈ bs) := by
  unfold inV
  rw [Bool.eq_iff_iff, List.any_eq_true, decide_eq_true_eq]
  constructor
  · rintro ⟨y, hy, e⟩
    obtain ⟨z, hz, rfl⟩ := List.mem_map.mp hy
    have e2 : (sB z == sB w) = true := e
    rw [← sB_inj (eq_of_beq e2)]
    exact hz
  · intro h
    exact ⟨.str (sB w), List.mem_map.mpr ⟨w, h, rfl⟩, beq_self_eq_true (sB w)⟩
theorem margs_eq : ([.str "0", .str "1", .str "2", .str "3", .str "4", .str "5"] : List V) = ([[48], [49], [50], [51], [52], [53]] : List Bytes).map fun b => V.str (sB b) := by
  decide +kernel
def margOk : Bytes → Bool
  | [b] => decide (isDigit b = true ∧ b.toNat - 48 ≤ 5)
  | _ => false
theorem marg_in (w : Bytes) : decide (w ∈ ([[48], [49], [50], [51], [52], [53]] : List Bytes)) = margOk w := by
  unfold margOk
  rw [Bool.eq_iff_iff, decide_eq_true_eq]
  split
  · rename_i b
    rw [decide_eq_true_eq]
    constructor
    · intro h
      simp only [List.mem_cons, List.cons.injEq, and_true, List.not_mem_nil, or_false] at h
      rcases h with rfl | rfl | rfl | rfl | rfl | rfl <;> decide
    · rintro ⟨h1, h2⟩
      have h3 := digit_nat.mp h1
      have e : b = UInt8.ofNat b.toNat := by simp
      have hc : b.toNat = 48 ∨ b.toNat = 49 ∨ b.toNat = 50 ∨ b.toNat = 51 ∨ b.toNat = 52 ∨ b.toNat = 53 := by omega
      rcases hc with z | z | z | z | z | z <;> (rw [z] at e; rw [e]; decide)
  · rename_i hn
    constructor
    · intro h
      simp only [List.mem_cons, List.not_mem_nil, or_false] at h
      rcases h with h | h | h | h | h | h <;> exact absurd h (hn _)
    · intro h
      cases h
theorem margin_of (l : Toks) (p : Nat) (w : Bytes) (m : Toks) (e : takeChunk l = .ok (p, w, m)) : takeMargin l = if margOk w = true then Except.ok ((w.headD 0).toNat - 48, m) else Except.error (⟨7, p⟩ : VahypBase.Fault) := by
  unfold takeMargin
  rw [e]
  show (match w with
    | [b] => if isDigit b = true ∧ b.toNat - 48 ≤ MARGIN then Except.ok (b.toNat - 48, m) else Except.error (⟨7, p⟩ : VahypBase.Fault)
    | _ => Except.error (⟨7, p⟩ : VahypBase.Fault)) = _
  unfold margOk
  split
  · rename_i b
    by_cases h : isDigit b = true ∧ b.toNat - 48 ≤ 5
    · rw [if_pos (show isDigit b = true ∧ b.toNat - 48 ≤ MARGIN from h), if_pos (decide_eq_true h)]
      rfl
    · rw [if_neg (show ¬ (isDigit b = true ∧ b.toNat - 48 ≤ MARGIN) from h), if_neg (by rw [decide_eq_true_eq]; exact h)]
  · exact (if_neg Bool.false_ne_true).symm

def sp_read_margin (T : PEnv K mg) : Sp := fun vs H Q E => ∃ (r : Addr) (l : Toks), vs = [.ref r] ∧ RdAt T H r l ∧ (∀ f, takeMargin l = .error f → FaultR T E r H f) ∧ (∀ n m, takeMargin l = .ok (n, m) → ∀ H', Sb r H H' → RdAt T H' r m → Q (.int (n : Nat)) H')
theorem sc_read_margin : FnScope ["reader", "chunk"] ["reader"] (defScope s_read_margin) := ⟨rfl, rfl, rfl, by decide +kernel, rfl, by decide +kernel, by decide +kernel⟩
theorem ok_read_margin (T : PEnv K mg) {P : Program} {w : World} {base : Heap} : FnOk P w K mg base (L2N.CX P w) 3 T.read_margin.f T.read_margin.fd ["reader"] (sp_read_margin T) := by
  refine okN T.read_margin.F sc_read_margin (fun vs H Q E h => ?_) (fun cdv A outer s H vs Q E hr h => ?_)
  · obtain ⟨r, l, rfl, _⟩ := h
    rfl
  · obtain ⟨r, l, rfl, hr1, kE, k⟩ := h
    refine ⟨_, (pss_cons (ps_set (i := 1) sc_read_margin.nd rfl (Or.inl rfl) (pe_meth0 (pv 0) T.TextReader.cl T.TextReader_chunk.at_ (ok_TextReader_chunk T) (hr.mono (by decide)) T.TextReader_chunk.b .nil (passDN (L2N.takes_of rfl rfl rfl rfl))))
      (pss_cons (ps_if (pt_cmpR op_notIn_seq (pv 1) (pe_glob (v := .ref T.margs.a) rfl T.margs.g rfl) (by first | rfl | exact nomark _))
        (pss_one (L2N.ps_raise rfl (L2N.takes_of rfl rfl rfl rfl) (pmkF T.Fault_T (faultI T) (room2 hr) T.Fault.g (pa_cons (pe_glob (v := .int 7) rfl T.c_CHUNK_NOT_AS_TOLD.e ⟨_, rfl⟩) (pa_cons (pe_fld (pe_meth0 (pv 0) T.TextReader.cl T.TextReader_token.at_ (ok_TextReader_token T) (hr.mono (by decide)) T.TextReader_token.b .nil pass0) rfl) pa_nil)))))
        pss_nil)
      (pss_cons (ps_expr (pe_meth0 (pv 0) T.TextReader.cl T.TextReader_skip.at_ (ok_TextReader_skip T) (hr.mono (by decide)) T.TextReader_skip.b .nil pass0))
      (pss_one (ps_ret (pe_callTy call_int_str (by rfl) T.b_int (by decide +kernel) (pa_cons (pv 1) pa_nil))))))), ?_⟩
    obtain ⟨t, l, rfl⟩ := List.exists_cons_of_ne_nil (TW.ne hr1.tw)
    obtain ⟨dx, ta, j, as, x, h1, h2, h3, h4⟩ := hr1.tok
    refine ⟨_, rfl, _, _, _, rfl, h1, TextReader_m_chunk, r, _, rfl, hr1, fun f e => (kE f (by unfold takeMargin; rw [e]; rfl)).e, fun p w m e tk el => ?_⟩
    rw [margin_of _ _ _ _ e] at kE k
    injection el with et el
    subst et el
    refine ⟨_, rfl, T.margs.a, _, rfl, .inr (T.margs.s H), rfl, by decide +kernel, ?_⟩
    rw [margs_eq, inV_strs, marg_in]
    refine ⟨_, rfl, ifb (fun e2 => ?_) (fun e2 => ?_)⟩
    · refine ⟨_, rfl, _, _, _, rfl, h1, TextReader_m_token, r, _, l, rfl, hr1, fun y ⟨dy, hy⟩ => ?_⟩
      refine ⟨_, _, _, _, _, rfl, hy, T.Token.cl, T.Token_n_place, Token_l_place, _, _, rfl, fun d hd => (kE ⟨7, p⟩ ?_).e _ d (same_upd hd) upd_same⟩
      have e3 : margOk w = false := by
        cases z : margOk w with
        | false => rfl
        | true => rw [z] at e2; cases e2
      rw [e3]
      rfl
    · have e3 : margOk w = true := by
        cases z : margOk w with
        | true => rfl
        | false => rw [z] at e2; cases e2
      rw [e3] at k
      refine ⟨_, rfl, _, _, _, rfl, h1, TextReader_m_skip, r, _, l, rfl, hr1, (by intro z; cases z), fun H' s1 hr2 => ?_⟩
      have e4 : ∃ b, w = [b] ∧ isDigit b = true := by
        unfold margOk at e3
        split at e3
        · exact ⟨_, rfl, (decide_eq_true_eq.mp e3).1⟩
        · cases e3
      obtain ⟨b, rfl, hb⟩ := e4
      exact ⟨_, rfl, _, _, rfl, dig_text hb, by rw [sB_length]; exact Nat.le_of_ble_eq_true rfl, k _ _ rfl H' s1 hr2⟩
end
end PwX

/-! ## PwD11 -/
namespace PwX
open PySem PySem.Spec PyProof.Rows L2
open VahypBase Vahypa Pw
section
variable {K : PySem.W.Frag} {mg : Str → Option Value}
theorem word_str : ("word" : Str) = tokS (.chunk (word "word")) := by decide +kernel
theorem pat_str : ("pattern" : Str) = tokS (.chunk (word "pattern")) := by decide +kernel
theorem marg_str : ("margins" : Str) = tokS (.chunk (word "margins")) := by decide +kernel
theorem word_ok : TokOk (.chunk (word "word")) := by unfold TokOk; decide +kernel
theorem pat_ok : TokOk (.chunk (word "pattern")) := by unfold TokOk; decide +kernel
theorem marg_ok : TokOk (.chunk (word "margins")) := by unfold TokOk; decide +kernel
theorem any_find {α : Type} (p : α → Bool) (l : List α) : l.any p = (l.findIdx? p).isSome := by rw [List.findIdx?_isSome]

def sp_read_word (T : PEnv K mg) : Sp := fun vs H Q E => ∃ (r wa : Addr) (l : Toks) (ws : List Word), vs = [.ref r, .ref wa] ∧ RdAt T H r l ∧ WordsAt T H wa ws ∧ (∀ f, readW ws l = .error f → FaultR T E r H f) ∧ (∀ w m, readW ws l = .ok (w, m) → ∀ x H', Sb r H H' → RdAt T H' r m → WordNew T H H' x w → Q (.ref x) H')
theorem sc_read_word : FnScope ["reader", "earlier", "word"] ["reader", "earlier"] (defScope s_read_word) := ⟨rfl, rfl, rfl, by decide +kernel, rfl, by decide +kernel, by decide +kernel⟩
theorem ok_read_word (T : PEnv K mg) {P : Program} {w : World} {base : Heap} : FnOk P w K mg base (L2N.CX P w) 4 T.read_word.f T.read_word.fd ["reader", "earlier"] (sp_read_word T) := by
  refine okN T.read_word.F sc_read_word (fun vs H Q E h => ?_) (fun cdv A outer s H vs Q E hr h => ?_)
  · obtain ⟨r, wa, l, ws, rfl, _⟩ := h
    rfl
  · obtain ⟨r, wa, l, ws, rfl, hr1, hw, kE, k⟩ := h
    refine ⟨_, (pss_cons (ps_if (pt_cmpR op_eq (pe_callB call_len (by rfl) T.b_len (by decide +kernel) (pa_cons (pv 1) pa_nil)) (pe_glob (v := .int 24) rfl T.c_MOST_WORDS.e ⟨_, rfl⟩) (nomark _))
        (pss_one (L2N.ps_raise rfl (L2N.takes_of rfl rfl rfl rfl) (pmkF T.Fault_T (faultI T) (room2 hr) T.Fault.g (pa_cons (pe_glob (v := .int 4) rfl T.c_ONE_TOO_MANY.e ⟨_, rfl⟩) (pa_cons (pe_fld (pe_meth0 (pv 0) T.TextReader.cl T.TextReader_token.at_ (ok_TextReader_token T) (hr.mono (by decide)) T.TextReader_token.b .nil pass0) rfl) pa_nil)))))
        pss_nil)
      (pss_cons (ps_expr (pe_meth (pv 0) T.TextReader.cl T.TextReader_take.at_ (ok_TextReader_take T) (hr.mono (by decide)) T.TextReader_take.b .nil (passDN (L2N.takes_of rfl rfl rfl rfl)) (pa_cons pe_str pa_nil)))
      (pss_cons (ps_set (i := 2) sc_read_word.nd rfl (Or.inl rfl) (pe_call (ok_word_of T) (hr.mono (by decide)) rfl T.word_of.g T.word_of.F.kp T.word_of.b .nil pass0 (pa_cons (pe_meth0 (pv 0) T.TextReader.cl T.TextReader_chunk.at_ (ok_TextReader_chunk T) (hr.mono (by decide)) T.TextReader_chunk.b .nil (passDN (L2N.takes_of rfl rfl rfl rfl))) pa_nil)))
      (pss_cons (ps_if (pt_cmpR op_isN (pv 2) pe_non (nomark _))
        (pss_one (L2N.ps_raise rfl (L2N.takes_of rfl rfl rfl rfl) (pmkF T.Fault_T (faultI T) (room2 hr) T.Fault.g (pa_cons (pe_glob (v := .int 7) rfl T.c_CHUNK_NOT_AS_TOLD.e ⟨_, rfl⟩) (pa_cons (pe_fld (pe_meth0 (pv 0) T.TextReader.cl T.TextReader_token.at_ (ok_TextReader_token T) (hr.mono (by decide)) T.TextReader_token.b .nil pass0) rfl) pa_nil)))))
        pss_nil)
      (pss_cons (ps_if (pt_cmpR op_notN (pe_call (ok_number_of_word T) (hr.mono (by decide)) rfl T.number_of_word.g T.number_of_word.F.kp T.number_of_word.b .nil pass0 (pa_cons (pv 1) (pa_cons (pe_fld (pv 2) rfl) pa_nil))) pe_non (nomark _))
        (pss_one (L2N.ps_raise rfl (L2N.takes_of rfl rfl rfl rfl) (pmkF T.Fault_T (faultI T) (room2 hr) T.Fault.g (pa_cons (pe_glob (v := .int 5) rfl T.c_TOLD_BEFORE.e ⟨_, rfl⟩) (pa_cons (pe_fld (pe_meth0 (pv 0) T.TextReader.cl T.TextReader_token.at_ (ok_TextReader_token T) (hr.mono (by decide)) T.TextReader_token.b .nil pass0) rfl) pa_nil)))))
        pss_nil)
      (pss_cons (ps_expr (pe_meth0 (pv 0) T.TextReader.cl T.TextReader_skip.at_ (ok_TextReader_skip T) (hr.mono (by decide)) T.TextReader_skip.b .nil pass0))
      (pss_cons (ps_expr (pe_meth (pv 0) T.TextReader.cl T.TextReader_take.at_ (ok_TextReader_take T) (hr.mono (by decide)) T.TextReader_take.b .nil (passDN (L2N.takes_of rfl rfl rfl rfl)) (pa_cons (pe_glob (v := .str ";") rfl T.c_LINE_SIGN.e ⟨_, rfl⟩) pa_nil)))
      (pss_one (ps_ret (pv 2)))))))))), ?_⟩
    obtain ⟨as, ha, hal⟩ := id hw
    have hlen := hal.len
    obtain ⟨t, l, rfl⟩ := List.exists_cons_of_ne_nil (TW.ne hr1.tw)
    obtain ⟨dx, ta, j, bs, x1, h1, h2, h3, h4⟩ := hr1.tok
    refine ⟨_, rfl, _, _, rfl, .inl ⟨_, SqL.of ha, rfl⟩, rfl, _, rfl, ifd (fun e1 => ?_) (fun e1 => ?_)⟩
    · refine ⟨_, rfl, _, _, _, rfl, h1, TextReader_m_token, r, _, l, rfl, hr1, fun y ⟨dy, hy⟩ => ?_⟩
      refine ⟨_, _, _, _, _, rfl, hy, T.Token.cl, T.Token_n_place, Token_l_place, _, _, rfl, fun d hd => (kE ⟨4, t.place⟩ ?_).e _ d (same_upd hd) upd_same⟩
      unfold readW
      rw [if_pos (by rw [vR_length] at e1; injection e1 with e1; omega)]
      rfl
    have e1' : ws.length ≠ 24 := fun z => e1 (by rw [vR_length, hlen, z]; rfl)
    have eR : readW ws (t :: l) = (takeWord "word" (t :: l)).bind fun l1 => (takeChunk l1).bind fun x => match wordOf x.2.1 with
        | none => .error ⟨7, x.1⟩
        | some w => if ws.any (fun v => v.x == w.x) = true then .error ⟨5, x.1⟩ else (takeSign 59 x.2.2).map fun m => (w, m) := by
      unfold readW
      exact if_neg e1'
    rw [eR] at kE k
    clear eR
    refine ⟨_, rfl, _, _, _, rfl, h1, TextReader_m_take, r, _, .chunk (word "word"), congrArg (fun z => [V.ref r, V.str z]) word_str, hr1, word_ok, fun f e => (kE f (by unfold takeWord; rw [e]; rfl)).e, fun l1 e H1 s1 hr2 => ?_⟩
    have e' : takeWord "word" (t :: l) = .ok l1 := e
    rw [e'] at kE k
    clear e e' h1 h2 h3 h4 dx ta j bs x1
    obtain ⟨t1, l1, rfl⟩ := List.exists_cons_of_ne_nil (TW.ne hr2.tw)
    obtain ⟨dx, ta, j, bs, x1, h1, h2, h3, h4⟩ := hr2.tok
    refine ⟨_, rfl, _, _, _, rfl, h1, TextReader_m_chunk, r, _, rfl, hr2, fun f e => ?_, fun p w m e tk el => ?_⟩
    · intro H' d s d1
      exact kE f (by show (takeChunk (t1 :: l1)).bind _ = _; rw [e]; rfl) H' d (s1.trans (Sb.of s)) d1
    have kE' : ∀ f, (match wordOf w with
        | none => Except.error (⟨7, p⟩ : VahypBase.Fault)
        | some v => if ws.any (fun u => u.x == v.x) = true then Except.error ⟨5, p⟩ else (takeSign 59 m).map fun m => (v, m)) = .error f → FaultR T E r H f := fun f z => kE f (by show (takeChunk (t1 :: l1)).bind _ = _; rw [e]; exact z)
    have k' : ∀ v m', (match wordOf w with
        | none => Except.error (⟨7, p⟩ : VahypBase.Fault)
        | some v => if ws.any (fun u => u.x == v.x) = true then Except.error ⟨5, p⟩ else (takeSign 59 m).map fun m => (v, m)) = .ok (v, m') → ∀ x H', Sb r H H' → RdAt T H' r m' → WordNew T H H' x v → Q (.ref x) H' := fun v m' z => k v m' (by show (takeChunk (t1 :: l1)).bind _ = _; rw [e]; exact z)
    clear kE k e
    injection el with et el
    subst et el
    refine ⟨w, rfl, Nat.le_trans tk.2.1 (by decide), fun hn H2 s2 => ?_, fun v hv x H2 s2 hx => ?_⟩
    · rw [hn] at kE'
      refine ⟨_, rfl, rfl, _, rfl, ifd (fun _ => ?_) (fun z => absurd rfl z)⟩
      refine ⟨_, rfl, _, _, _, rfl, s2 _ _ h1, TextReader_m_token, r, _, l1, rfl, hr2.same s2, fun y ⟨dy, hy⟩ => ?_⟩
      exact ⟨_, _, _, _, _, rfl, hy, T.Token.cl, T.Token_n_place, Token_l_place, _, _, rfl, fun d hd => kE' ⟨7, p⟩ rfl _ d ((s1.trans (Sb.of s2)).trans (Sb.of (same_upd hd))) upd_same⟩
    rw [hv] at kE' k'
    refine ⟨_, rfl, rfl, _, rfl, ifd (fun z => by cases z) (fun _ => ?_)⟩
    obtain ⟨dw, gw, hx1, hx2⟩ := hx.at_
    have hw2 : WordsAt T H2 wa ws := (hw.sb hr1.is s1).same s2
    refine ⟨_, rfl, _, rfl, _, _, _, _, _, rfl, hx1, T.Word.cl, T.Word_n_letters, Word_l_letters, wa, ws, v.x, rfl, hw2, fun H3 s3 => ?_⟩
    have hr4 := (hr2.same s2).same s3
    cases hf : ws.findIdx? (isW v.x) with
    | some i =>
      refine ⟨rfl, _, rfl, ifb (fun _ => ?_) (fun z => by cases z)⟩
      refine ⟨_, rfl, _, _, _, rfl, s3 _ _ (s2 _ _ h1), TextReader_m_token, r, _, l1, rfl, hr4, fun y ⟨dy, hy⟩ => ?_⟩
      refine ⟨_, _, _, _, _, rfl, hy, T.Token.cl, T.Token_n_place, Token_l_place, _, _, rfl, fun d hd => kE' ⟨5, p⟩ ?_ _ d (((s1.trans (Sb.of s2)).trans (Sb.of s3)).trans (Sb.of (same_upd hd))) upd_same⟩
      have ea : ws.any (fun u => u.x == v.x) = true := by
        rw [any_find]
        show (ws.findIdx? (isW v.x)).isSome = true
        rw [hf]
        rfl
      exact if_pos ea
    | none =>
      refine ⟨rfl, _, rfl, ifb (fun z => by cases z) (fun _ => ?_)⟩
      have ea : ws.any (fun u => u.x == v.x) = false := by
        rw [any_find]
        show (ws.findIdx? (isW v.x)).isSome = false
        rw [hf]
        rfl
      dsimp only at kE' k'
      rw [ea] at kE' k'
      refine ⟨_, rfl, _, _, _, rfl, s3 _ _ (s2 _ _ h1), TextReader_m_skip, r, _, l1, rfl, hr4, (by intro z; cases z), fun H4 s4 hr5 => ?_⟩
      obtain ⟨dx5, ta5, j5, ts5, h15, hh⟩ := id hr5
      refine ⟨_, rfl, _, _, _, rfl, h15, TextReader_m_take, r, _, .sign 59, congrArg (fun z => [V.ref r, V.str z]) semi_str, hr5, rfl, fun f e => ?_, fun l6 e H6 s6 hr6 => ?_⟩
      · intro H' d s d1
        refine kE' f ?_ H' d ((((s1.trans (Sb.of s2)).trans (Sb.of s3)).trans s4).trans (Sb.of s)) d1
        show (takeSign 59 l1).map _ = _
        unfold takeSign
        rw [e]
        rfl
      · refine ⟨_, rfl, k' v l6 ?_ x H6 ((((s1.trans (Sb.of s2)).trans (Sb.of s3)).trans s4).trans s6) hr6 ((((hx.same s3).sb hr4.is s4).sb hr5.is s6).back hr2.is s1)⟩
        show (takeSign 59 l1).map _ = _
        unfold takeSign
        rw [e]
        rfl
def sp_read_pattern (T : PEnv K mg) : Sp := fun vs H Q E => ∃ (r wa : Addr) (l : Toks) (ws : List Pat), vs = [.ref r, .ref wa] ∧ RdAt T H r l ∧ PatsAt T H wa ws ∧ (∀ f, readP ws l = .error f → FaultR T E r H f) ∧ (∀ w m, readP ws l = .ok (w, m) → ∀ x H', Sb r H H' → RdAt T H' r m → PatNew T H H' x w → Q (.ref x) H')
theorem sc_read_pattern : FnScope ["reader", "earlier", "pattern"] ["reader", "earlier"] (defScope s_read_pattern) := ⟨rfl, rfl, rfl, by decide +kernel, rfl, by decide +kernel, by decide +kernel⟩
theorem ok_read_pattern (T : PEnv K mg) {P : Program} {w : World} {base : Heap} : FnOk P w K mg base (L2N.CX P w) 4 T.read_pattern.f T.read_pattern.fd ["reader", "earlier"] (sp_read_pattern T) := by
  refine okN T.read_pattern.F sc_read_pattern (fun vs H Q E h => ?_) (fun cdv A outer s H vs Q E hr h => ?_)
  · obtain ⟨r, wa, l, ws, rfl, _⟩ := h
    rfl
  · obtain ⟨r, wa, l, ws, rfl, hr1, hw, kE, k⟩ := h
    refine ⟨_, (pss_cons (ps_if (pt_cmpR op_eq (pe_callB call_len (by rfl) T.b_len (by decide +kernel) (pa_cons (pv 1) pa_nil)) (pe_glob (v := .int 40) rfl T.c_MOST_PATTERNS.e ⟨_, rfl⟩) (nomark _))
        (pss_one (L2N.ps_raise rfl (L2N.takes_of rfl rfl rfl rfl) (pmkF T.Fault_T (faultI T) (room2 hr) T.Fault.g (pa_cons (pe_glob (v := .int 4) rfl T.c_ONE_TOO_MANY.e ⟨_, rfl⟩) (pa_cons (pe_fld (pe_meth0 (pv 0) T.TextReader.cl T.TextReader_token.at_ (ok_TextReader_token T) (hr.mono (by decide)) T.TextReader_token.b .nil pass0) rfl) pa_nil)))))
        pss_nil)
      (pss_cons (ps_expr (pe_meth (pv 0) T.TextReader.cl T.TextReader_take.at_ (ok_TextReader_take T) (hr.mono (by decide)) T.TextReader_take.b .nil (passDN (L2N.takes_of rfl rfl rfl rfl)) (pa_cons pe_str pa_nil)))
      (pss_cons (ps_set (i := 2) sc_read_pattern.nd rfl (Or.inl rfl) (pe_call (ok_pattern_of T) (hr.mono (by decide)) rfl T.pattern_of.g T.pattern_of.F.kp T.pattern_of.b .nil pass0 (pa_cons (pe_meth0 (pv 0) T.TextReader.cl T.TextReader_chunk.at_ (ok_TextReader_chunk T) (hr.mono (by decide)) T.TextReader_chunk.b .nil (passDN (L2N.takes_of rfl rfl rfl rfl))) pa_nil)))
      (pss_cons (ps_if (pt_cmpR op_isN (pv 2) pe_non (nomark _))
        (pss_one (L2N.ps_raise rfl (L2N.takes_of rfl rfl rfl rfl) (pmkF T.Fault_T (faultI T) (room2 hr) T.Fault.g (pa_cons (pe_glob (v := .int 7) rfl T.c_CHUNK_NOT_AS_TOLD.e ⟨_, rfl⟩) (pa_cons (pe_fld (pe_meth0 (pv 0) T.TextReader.cl T.TextReader_token.at_ (ok_TextReader_token T) (hr.mono (by decide)) T.TextReader_token.b .nil pass0) rfl) pa_nil)))))
        pss_nil)
      (pss_cons (ps_if (pt_cmpR op_notN (pe_call (ok_number_of_pattern T) (hr.mono (by decide)) rfl T.number_of_pattern.g T.number_of_pattern.F.kp T.number_of_pattern.b .nil pass0 (pa_cons (pv 1) (pa_cons (pv 2) pa_nil))) pe_non (nomark _))
        (pss_one (L2N.ps_raise rfl (L2N.takes_of rfl rfl rfl rfl) (pmkF T.Fault_T (faultI T) (room2 hr) T.Fault.g (pa_cons (pe_glob (v := .int 5) rfl T.c_TOLD_BEFORE.e ⟨_, rfl⟩) (pa_cons (pe_fld (pe_meth0 (pv 0) T.TextReader.cl T.TextReader_token.at_ (ok_TextReader_token T) (hr.mono (by decide)) T.TextReader_token.b .nil pass0) rfl) pa_nil)))))
        pss_nil)
      (pss_cons (ps_expr (pe_meth0 (pv 0) T.TextReader.cl T.TextReader_skip.at_ (ok_TextReader_skip T) (hr.mono (by decide)) T.TextReader_skip.b .nil pass0))
      (pss_cons (ps_expr (pe_meth (pv 0) T.TextReader.cl T.TextReader_take.at_ (ok_TextReader_take T) (hr.mono (by decide)) T.TextReader_take.b .nil (passDN (L2N.takes_of rfl rfl rfl rfl)) (pa_cons (pe_glob (v := .str ";") rfl T.c_LINE_SIGN.e ⟨_, rfl⟩) pa_nil)))
      (pss_one (ps_ret (pv 2)))))))))), ?_⟩
    obtain ⟨as, ha, hal⟩ := id hw
    have hlen := hal.len
    obtain ⟨t, l, rfl⟩ := List.exists_cons_of_ne_nil (TW.ne hr1.tw)
    obtain ⟨dx, ta, j, bs, x1, h1, h2, h3, h4⟩ := hr1.tok
    refine ⟨_, rfl, _, _, rfl, .inl ⟨_, SqL.of ha, rfl⟩, rfl, _, rfl, ifd (fun e1 => ?_) (fun e1 => ?_)⟩
    · refine ⟨_, rfl, _, _, _, rfl, h1, TextReader_m_token, r, _, l, rfl, hr1, fun y ⟨dy, hy⟩ => ?_⟩
      refine ⟨_, _, _, _, _, rfl, hy, T.Token.cl, T.Token_n_place, Token_l_place, _, _, rfl, fun d hd => (kE ⟨4, t.place⟩ ?_).e _ d (same_upd hd) upd_same⟩
      unfold readP
      rw [if_pos (by rw [vR_length] at e1; injection e1 with e1; omega)]
      rfl
    have e1' : ws.length ≠ 40 := fun z => e1 (by rw [vR_length, hlen, z]; rfl)
    have eR : readP ws (t :: l) = (takeWord "pattern" (t :: l)).bind fun l1 => (takeChunk l1).bind fun x => match patOf x.2.1 with
        | none => .error ⟨7, x.1⟩
        | some w => if ws.any (sameP w) = true then .error ⟨5, x.1⟩ else (takeSign 59 x.2.2).map fun m => (w, m) := by
      unfold readP
      exact if_neg e1'
    rw [eR] at kE k
    clear eR
    refine ⟨_, rfl, _, _, _, rfl, h1, TextReader_m_take, r, _, .chunk (word "pattern"), congrArg (fun z => [V.ref r, V.str z]) pat_str, hr1, pat_ok, fun f e => (kE f (by unfold takeWord; rw [e]; rfl)).e, fun l1 e H1 s1 hr2 => ?_⟩
    have e' : takeWord "pattern" (t :: l) = .ok l1 := e
    rw [e'] at kE k
    clear e e' h1 h2 h3 h4 dx ta j bs x1
    obtain ⟨t1, l1, rfl⟩ := List.exists_cons_of_ne_nil (TW.ne hr2.tw)
    obtain ⟨dx, ta, j, bs, x1, h1, h2, h3, h4⟩ := hr2.tok
    refine ⟨_, rfl, _, _, _, rfl, h1, TextReader_m_chunk, r, _, rfl, hr2, fun f e => ?_, fun p w m e tk el => ?_⟩
    · intro H' d s d1
      exact kE f (by show (takeChunk (t1 :: l1)).bind _ = _; rw [e]; rfl) H' d (s1.trans (Sb.of s)) d1
    have kE' : ∀ f, (match patOf w with
        | none => Except.error (⟨7, p⟩ : VahypBase.Fault)
        | some v => if ws.any (sameP v) = true then Except.error ⟨5, p⟩ else (takeSign 59 m).map fun m => (v, m)) = .error f → FaultR T E r H f := fun f z => kE f (by show (takeChunk (t1 :: l1)).bind _ = _; rw [e]; exact z)
    have k' : ∀ v m', (match patOf w with
        | none => Except.error (⟨7, p⟩ : VahypBase.Fault)
        | some v => if ws.any (sameP v) = true then Except.error ⟨5, p⟩ else (takeSign 59 m).map fun m => (v, m)) = .ok (v, m') → ∀ x H', Sb r H H' → RdAt T H' r m' → PatNew T H H' x v → Q (.ref x) H' := fun v m' z => k v m' (by show (takeChunk (t1 :: l1)).bind _ = _; rw [e]; exact z)
    clear kE k e
    injection el with et el
    subst et el
    refine ⟨w, rfl, Nat.le_trans tk.2.1 (by decide), fun hn H2 s2 => ?_, fun v hv x H2 s2 hx => ?_⟩
    · rw [hn] at kE'
      refine ⟨_, rfl, rfl, _, rfl, ifd (fun _ => ?_) (fun z => absurd rfl z)⟩
      refine ⟨_, rfl, _, _, _, rfl, s2 _ _ h1, TextReader_m_token, r, _, l1, rfl, hr2.same s2, fun y ⟨dy, hy⟩ => ?_⟩
      exact ⟨_, _, _, _, _, rfl, hy, T.Token.cl, T.Token_n_place, Token_l_place, _, _, rfl, fun d hd => kE' ⟨7, p⟩ rfl _ d ((s1.trans (Sb.of s2)).trans (Sb.of (same_upd hd))) upd_same⟩
    rw [hv] at kE' k'
    refine ⟨_, rfl, rfl, _, rfl, ifd (fun z => by cases z) (fun _ => ?_)⟩
    obtain ⟨dw, gw, hx1, hx2⟩ := hx.at_
    have hw2 : PatsAt T H2 wa ws := (hw.sb hr1.is s1).same s2
    refine ⟨_, rfl, _, rfl, wa, x, ws, v, rfl, hw2, hx.at_, fun H3 s3 => ?_⟩
    have hr4 := (hr2.same s2).same s3
    cases hf : ws.findIdx? (sameP v) with
    | some i =>
      refine ⟨rfl, _, rfl, ifb (fun _ => ?_) (fun z => by cases z)⟩
      refine ⟨_, rfl, _, _, _, rfl, s3 _ _ (s2 _ _ h1), TextReader_m_token, r, _, l1, rfl, hr4, fun y ⟨dy, hy⟩ => ?_⟩
      refine ⟨_, _, _, _, _, rfl, hy, T.Token.cl, T.Token_n_place, Token_l_place, _, _, rfl, fun d hd => kE' ⟨5, p⟩ ?_ _ d (((s1.trans (Sb.of s2)).trans (Sb.of s3)).trans (Sb.of (same_upd hd))) upd_same⟩
      have ea : ws.any (sameP v) = true := by
        rw [any_find]
        show (ws.findIdx? (sameP v)).isSome = true
        rw [hf]
        rfl
      exact if_pos ea
    | none =>
      refine ⟨rfl, _, rfl, ifb (fun z => by cases z) (fun _ => ?_)⟩
      have ea : ws.any (sameP v) = false := by
        rw [any_find]
        show (ws.findIdx? (sameP v)).isSome = false
        rw [hf]
        rfl
      dsimp only at kE' k'
      rw [ea] at kE' k'
      refine ⟨_, rfl, _, _, _, rfl, s3 _ _ (s2 _ _ h1), TextReader_m_skip, r, _, l1, rfl, hr4, (by intro z; cases z), fun H4 s4 hr5 => ?_⟩
      obtain ⟨dx5, ta5, j5, ts5, h15, hh⟩ := id hr5
      refine ⟨_, rfl, _, _, _, rfl, h15, TextReader_m_take, r, _, .sign 59, congrArg (fun z => [V.ref r, V.str z]) semi_str, hr5, rfl, fun f e => ?_, fun l6 e H6 s6 hr6 => ?_⟩
      · intro H' d s d1
        refine kE' f ?_ H' d ((((s1.trans (Sb.of s2)).trans (Sb.of s3)).trans s4).trans (Sb.of s)) d1
        show (takeSign 59 l1).map _ = _
        unfold takeSign
        rw [e]
        rfl
      · refine ⟨_, rfl, k' v l6 ?_ x H6 ((((s1.trans (Sb.of s2)).trans (Sb.of s3)).trans s4).trans s6) hr6 ((((hx.same s3).sb hr4.is s4).sb hr5.is s6).back hr2.is s1)⟩
        show (takeSign 59 l1).map _ = _
        unfold takeSign
        rw [e]
        rfl
end
end PwX

/-! ## PwD12 -/
namespace PwX
open PySem PySem.Spec PyProof.Rows L2
open VahypBase Vahypa Pw
section
variable {K : PySem.W.Frag} {mg : Str → Option Value}
theorem sb_updO {r p : Addr} {H H' : Hp} {o : HO} (s : Sb r H H') (h : H p = none) : Sb r H (upd H' p o) := fun b u e n => by
  rw [upd_ne (ne_of_none e h)]
  exact s b u e n
theorem sb_fresh {r : Addr} {H H' : Hp} (s : Sb r H H') (h : H r = none) : Same H H' := fun b u e => s b u e (ne_of_none e h)
theorem vR_inj {as bs : List Addr} (h : vR as = vR bs) : as = bs := by
  induction as generalizing bs with
  | nil => cases bs with
    | nil => rfl
    | cons b bs => cases h
  | cons a as ih => cases bs with
    | nil => cases h
    | cons b bs =>
      injection h with h1 h2
      injection h1 with h1
      rw [h1, ih h2]
theorem same_sb {r : Addr} {H H1 H2 : Hp} (s1 : Same H H1) (h : H r = none) (s2 : Sb r H1 H2) : Same H H2 := fun b u e => s2 b u (s1 b u e) (ne_of_none e h)
/-- a change of a list that is not the reader's -/
theorem RdAt.updL {T : PEnv K mg} {H : Hp} {r p : Addr} {l : Toks} {as : List Addr} {α : Type} {ws : List α} {P : Addr → α → Prop} (h : RdAt T H r l) (hp : H p = some (.lst (vR as))) (hal : AllAt P as ws) (hP : ∀ a x t, P a x → ¬ TokAt T H a t) {o : HO} : RdAt T (upd H p o) r l := by
  obtain ⟨dx, ta, k, ts, h1, ⟨bs, h2, h3⟩, h4, h5⟩ := h
  have ne : ta ≠ p := by
    rintro rfl
    rw [h2] at hp
    injection hp with hp
    injection hp with hp
    have e := vR_inj hp
    subst e
    cases ts with
    | nil => exact h5.ne (by rw [h4, List.drop_nil])
    | cons t ts =>
      obtain ⟨a, ha, pa⟩ := h3.get (i := 0) (Nat.zero_lt_succ _)
      cases ws with
      | nil =>
        have := hal.len
        rw [h3.len] at this
        cases this
      | cons w ws =>
        exact hP a w t (hal.at_ 0 a w ha rfl) pa
  exact ⟨dx, ta, k, ts, by rw [upd_ne (ne_of h1 hp (by intro z; cases z))]; exact h1, ⟨bs, by rw [upd_ne ne]; exact h2, h3.imp fun _ _ q => q.upd hp⟩, h4, h5⟩
theorem word_no_tok {T : PEnv K mg} {H : Hp} {a : Addr} {w : Word} {t : PTok} (h : WordAt T H a w) : ¬ TokAt T H a t := fun ⟨dx, k⟩ => by
  obtain ⟨dy, g, h1, h2⟩ := h
  exact ins_ne h1 k (by show (["letters", "gaps"] : List Str) ≠ (["signs", "place"] : List Str); decide +kernel) rfl
theorem pat_no_tok {T : PEnv K mg} {H : Hp} {a : Addr} {w : Pat} {t : PTok} (h : PatAt T H a w) : ¬ TokAt T H a t := fun ⟨dx, k⟩ => by
  obtain ⟨dy, g, h1, h2⟩ := h
  exact ins_ne h1 k (by show (["letters", "at_front", "at_end", "digits"] : List Str) ≠ (["signs", "place"] : List Str); decide +kernel) rfl
/-- what is there stays there, perhaps changed -/
def Dm (H H' : Hp) : Prop := ∀ b, H' b = none → H b = none
theorem Dm.refl (H : Hp) : Dm H H := fun _ h => h
theorem Dm.trans {H H1 H2 : Hp} (a : Dm H H1) (b : Dm H1 H2) : Dm H H2 := fun x h => a x (b x h)
theorem Dm.upd {H H' : Hp} {p : Addr} {o : HO} (a : Dm H H') : Dm H (upd H' p o) := fun x h => by
  by_cases e : x = p
  · rw [e, upd_same] at h
    cases h
  · rw [upd_ne e] at h
    exact a x h
theorem Sb.dm {T : PEnv K mg} {r : Addr} {H H' : Hp} (s : Sb r H H') (k : IsRd T H' r) : Dm H H' := fun x h => s.free k h
section
variable {T : PEnv K mg} {H H0 H' : Hp} {x p : Addr}
theorem WordNew.updL {w : Word} {o0 o : HO} (h : WordNew T H0 H' x w) (hp : H0 p = some o0) : WordNew T H0 (upd H' p o) x w := let ⟨dx, g, h1, h2, h3, h4⟩ := h; ⟨dx, g, by rw [upd_ne (ne_of_none hp h3).symm]; exact h1, by rw [upd_ne (ne_of_none hp h4).symm]; exact h2, h3, h4⟩
theorem PatNew.updL {w : Pat} {o0 o : HO} (h : PatNew T H0 H' x w) (hp : H0 p = some o0) : PatNew T H0 (upd H' p o) x w := let ⟨dx, g, h1, h2, h3, h4⟩ := h; ⟨dx, g, by rw [upd_ne (ne_of_none hp h3).symm]; exact h1, by rw [upd_ne (ne_of_none hp h4).symm]; exact h2, h3, h4⟩
theorem WordNew.dm {w : Word} (h : WordNew T H H' x w) (d : Dm H0 H) : WordNew T H0 H' x w := let ⟨dx, g, h1, h2, h3, h4⟩ := h; ⟨dx, g, h1, h2, d _ h3, d _ h4⟩
theorem PatNew.dm {w : Pat} (h : PatNew T H H' x w) (d : Dm H0 H) : PatNew T H0 H' x w := let ⟨dx, g, h1, h2, h3, h4⟩ := h; ⟨dx, g, h1, h2, d _ h3, d _ h4⟩
end

def sp_list_of (T : PEnv K mg) : Sp := fun vs H Q E => ∃ (a : Addr) (b : Bytes), vs = [.ref a] ∧ SqL K H a (vB b) ∧ b.length ≤ 10000 ∧ (∀ f, read b = .error f → FaultE T E H f) ∧ (∀ s, read b = .ok s → ∀ x H', Same H H' → H x = none → LstAt T H' x s → Q (.ref x) H')
theorem sc_list_of : FnScope ["text", "reader", "left_margin", "right_margin", "words", "patterns"] ["text"] (defScope s_list_of) := ⟨rfl, rfl, rfl, by decide +kernel, rfl, by decide +kernel, by decide +kernel⟩
theorem ok_list_of (T : PEnv K mg) {P : Program} {w : World} {base : Heap} : FnOk P w K mg base (L2N.CX P w) 7 T.list_of.f T.list_of.fd ["text"] (sp_list_of T) := by
  refine okN T.list_of.F sc_list_of (fun vs H Q E h => ?_) (fun cdv A outer s H vs Q E hr h => ?_)
  · obtain ⟨a, b, rfl, _⟩ := h
    rfl
  · obtain ⟨a, b, rfl, ha, hb, kE, k⟩ := h
    refine ⟨_, (pss_cons (ps_set (i := 1) sc_list_of.nd rfl (Or.inl rfl) (pe_make T.TextReader_mk (ok_TextReader_init T) (hr.mono (by decide)) rfl T.TextReader.g T.TextReader_init.b .nil (passDN (L2N.takes_of rfl rfl rfl rfl)) (pa_cons (pv 0) pa_nil)))
      (pss_cons (ps_expr (pe_meth (pv 1) T.TextReader.cl T.TextReader_take.at_ (ok_TextReader_take T) (hr.mono (by decide)) T.TextReader_take.b .nil (passDN (L2N.takes_of rfl rfl rfl rfl)) (pa_cons pe_str pa_nil)))
      (pss_cons (ps_set (i := 2) sc_list_of.nd rfl (Or.inl rfl) (pe_call (ok_read_margin T) (hr.mono (by decide)) rfl T.read_margin.g T.read_margin.F.kp T.read_margin.b .nil (passDN (L2N.takes_of rfl rfl rfl rfl)) (pa_cons (pv 1) pa_nil)))
      (pss_cons (ps_set (i := 3) sc_list_of.nd rfl (Or.inl rfl) (pe_call (ok_read_margin T) (hr.mono (by decide)) rfl T.read_margin.g T.read_margin.F.kp T.read_margin.b .nil (passDN (L2N.takes_of rfl rfl rfl rfl)) (pa_cons (pv 1) pa_nil)))
      (pss_cons (ps_expr (pe_meth (pv 1) T.TextReader.cl T.TextReader_take.at_ (ok_TextReader_take T) (hr.mono (by decide)) T.TextReader_take.b .nil (passDN (L2N.takes_of rfl rfl rfl rfl)) (pa_cons (pe_glob (v := .str ";") rfl T.c_LINE_SIGN.e ⟨_, rfl⟩) pa_nil)))
      (pss_cons (ps_set (i := 4) sc_list_of.nd rfl (Or.inl rfl) (pe_lst pa_nil))
      (pss_cons (ps_while (L2.passes_of rfl) (pt_val (pe_meth (pv 1) T.TextReader.cl T.TextReader_stands.at_ (ok_TextReader_stands T) (hr.mono (by decide)) T.TextReader_stands.b .nil pass0 (pa_cons pe_str pa_nil)))
        (pss_one (ps_expr (pe_bm PySem.F.plainAttrs_list PySem.F.slot_list_append PySem.F.type_list_append mt_append (pv 4) (pa_cons (pe_call (ok_read_word T) (hr.mono (by decide)) rfl T.read_word.g T.read_word.F.kp T.read_word.b .nil (passDN (L2N.takes_of rfl rfl rfl rfl)) (pa_cons (pv 1) (pa_cons (pv 4) pa_nil))) pa_nil)))))
      (pss_cons (ps_set (i := 5) sc_list_of.nd rfl (Or.inl rfl) (pe_lst pa_nil))
      (pss_cons (ps_while (L2.passes_of rfl) (pt_val (pe_meth (pv 1) T.TextReader.cl T.TextReader_stands.at_ (ok_TextReader_stands T) (hr.mono (by decide)) T.TextReader_stands.b .nil pass0 (pa_cons pe_str pa_nil)))
        (pss_one (ps_expr (pe_bm PySem.F.plainAttrs_list PySem.F.slot_list_append PySem.F.type_list_append mt_append (pv 5) (pa_cons (pe_call (ok_read_pattern T) (hr.mono (by decide)) rfl T.read_pattern.g T.read_pattern.F.kp T.read_pattern.b .nil (passDN (L2N.takes_of rfl rfl rfl rfl)) (pa_cons (pv 1) (pa_cons (pv 5) pa_nil))) pa_nil)))))
      (pss_cons (ps_expr (pe_meth0 (pv 1) T.TextReader.cl T.TextReader_take_end.at_ (ok_TextReader_take_end T) (hr.mono (by decide)) T.TextReader_take_end.b .nil (passDN (L2N.takes_of rfl rfl rfl rfl))))
      (pss_one (ps_ret (pe_make T.WordList_mk (ok_WordList_init T) (hr.mono (by decide)) rfl T.WordList.g T.WordList_init.b .nil pass0 (pa_cons (pv 2) (pa_cons (pv 3) (pa_cons (pv 4) (pa_cons (pv 5) pa_nil))))))))))))))))), ?_⟩
    rw [read_eq] at kE k
    refine ⟨_, rfl, ?_⟩
    intro r dr nr ndr hne
    have s0 : Same H (upd (upd H dr (.own r)) r (.ins T.TextReader.C dr [])) := same_updO (same_upd ndr) nr
    refine ⟨r, dr, a, b, rfl, upd_same, sq_same ha s0, hb, fun f e H' d s d1 => kE f (by rw [e]; rfl) H' d (s0.trans s) d1, fun l e H1 s1 hr1 => ⟨rfl, ?_⟩⟩
    have sH1 : Same H H1 := same_sb s0 nr s1
    rw [e] at kE k
    clear e s1 s0
    have hr1' := hr1
    obtain ⟨dx1, ta1, j1, ts1, h1, _⟩ := hr1'
    refine ⟨_, rfl, _, _, _, rfl, h1, TextReader_m_take, r, l, .chunk (word "margins"), congrArg (fun z => [V.ref r, V.str z]) marg_str, hr1, marg_ok, fun f e H' d s d1 => kE f (by show (takeWord "margins" l).bind _ = _; unfold takeWord; rw [e]; rfl) H' d (sH1.trans s) d1, fun l2 e H2 s2 hr2 => ?_⟩
    have sH2 : Same H H2 := same_sb sH1 nr s2
    have e' : takeWord "margins" l = .ok l2 := e
    change ∀ f, (takeWord "margins" l).bind _ = _ → _ at kE
    change ∀ s, (takeWord "margins" l).bind _ = _ → _ at k
    rw [e'] at kE k
    clear e e' s2
    refine ⟨_, rfl, r, l2, rfl, hr2, fun f e H' d s d1 => kE f (by show (takeMargin l2).bind _ = _; rw [e]; rfl) H' d (same_sb sH2 nr s) d1, fun nl l3 e H3 s3 hr3 => ?_⟩
    have sH3 : Same H H3 := same_sb sH2 nr s3
    change ∀ f, (takeMargin l2).bind _ = _ → _ at kE
    change ∀ s, (takeMargin l2).bind _ = _ → _ at k
    rw [e] at kE k
    clear e s3
    refine ⟨_, rfl, r, l3, rfl, hr3, fun f e H' d s d1 => kE f (by show (takeMargin l3).bind _ = _; rw [e]; rfl) H' d (same_sb sH3 nr s) d1, fun nr' l4 e H4 s4 hr4 => ?_⟩
    have sH4 : Same H H4 := same_sb sH3 nr s4
    change ∀ f, (takeMargin l3).bind _ = _ → _ at kE
    change ∀ s, (takeMargin l3).bind _ = _ → _ at k
    rw [e] at kE k
    clear e s4
    have hr4' := hr4
    obtain ⟨dx4, ta4, j4, ts4, h4, _⟩ := hr4'
    refine ⟨_, rfl, _, _, _, rfl, h4, TextReader_m_take, r, l4, .sign 59, congrArg (fun z => [V.ref r, V.str z]) semi_str, hr4, rfl, fun f e H' d s d1 => kE f (by show (takeSign 59 l4).bind _ = _; unfold takeSign; rw [e]; rfl) H' d (sH4.trans s) d1, fun l5 e H5 s5 hr5 => ?_⟩
    have sH5 : Same H H5 := same_sb sH4 nr s5
    have e' : takeSign 59 l4 = .ok l5 := e
    change ∀ f, (takeSign 59 l4).bind _ = _ → _ at kE
    change ∀ s, (takeSign 59 l4).bind _ = _ → _ at k
    rw [e'] at kE k
    clear e e' s5
    change ∀ f, (wordsR [] l5).bind _ = _ → _ at kE
    change ∀ s, (wordsR [] l5).bind _ = _ → _ at k
    dsimp only at kE k
    refine ⟨Nat.zero_le _, fun wa hwa => ?_⟩
    have hwa0 : H wa = none := sH5.free hwa
    refine ⟨fun m σ H' => ∃ l' ws as, σ = [some (.ref a), some (.ref r), some (.int (nl : Nat)), some (.int (nr' : Nat)), some (.ref wa), none] ∧ wordsR [] l5 = wordsR ws l' ∧ ws.length ≤ 24 ∧ RdAt T H' r l' ∧ H' wa = some (.lst (vR as)) ∧ AllAt (WordNew T (upd H5 wa (.lst [])) H') as ws ∧ Same H H' ∧ Dm (upd H5 wa (.lst [])) H' ∧ m = l'.length, ⟨_, l5, [], [], rfl, rfl, Nat.zero_le _, hr5.same (same_upd hwa), upd_same, AllAt.nil, same_updO sH5 hwa0, Dm.refl _, rfl⟩, ?_⟩
    rintro m σ H6 ⟨l6, ws, as, rfl, hwr, hwl, hr6, hwa6, hal, sH6, dm6, rfl⟩
    obtain ⟨t6, l6, rfl⟩ := List.exists_cons_of_ne_nil (TW.ne hr6.tw)
    have hr6' := hr6
    obtain ⟨dx6, ta6, j6, ts6, h6, _⟩ := hr6'
    have halw : AllAt (WordAt T H6) as ws := hal.imp fun _ _ q => q.at_
    refine ⟨_, rfl, _, _, _, rfl, h6, TextReader_m_stands, r, t6, l6, .chunk (word "word"), congrArg (fun z => [V.ref r, V.str z]) word_str, hr6, .inr word_ok, _, rfl, ifb (fun c => ?_) (fun c => ?_)⟩
    · have c' : nextWord "word" (t6 :: l6) = true := c
      rw [wordsR_go hwl c'] at hwr
      refine ⟨_, fun _ _ h => h, _, rfl, .inl ⟨rfl, _, SqL.of hwa6⟩, _, rfl, _, rfl, r, wa, t6 :: l6, ws, rfl, hr6, ⟨as, hwa6, halw⟩, fun f e H' d s d1 => kE f (by rw [hwr, e]; rfl) H' d (same_sb sH6 nr s) d1, fun w m7 e x H7 s7 hr7 hx => ?_⟩
      rw [e] at hwr
      have hwa7 : H7 wa = some (.lst (vR as)) := s7 _ _ hwa6 (hr6.is.ne_lst hwa6)
      refine ⟨_, _, _, rfl, rfl, hwa7, ?_, _, readW_less e, m7, ws ++ [w], as ++ [x], rfl, hwr, ?_, ?_, ?_, ?_, same_updO (same_sb sH6 nr s7) hwa0, (dm6.trans (s7.dm hr7.is)).upd, rfl⟩
      · rw [vR_length, hal.len]
        exact small_lt (by omega)
      · have := readW_room e hwl
        rw [List.length_append]
        exact this
      · refine hr7.updL hwa7 (ws := ws) (P := WordAt T H7) ?_ (fun _ _ _ h => word_no_tok h)
        exact halw.imp fun _ _ q => q.sb hr6.is s7
      · rw [upd_same, vR_snoc]
      · exact AllAt.snoc (hal.imp fun _ _ q => (q.sb hr6.is s7).updL upd_same) ((hx.dm dm6).updL upd_same)
    have c' : ¬ nextWord "word" (t6 :: l6) = true := by
      intro z
      have : nextWord "word" (t6 :: l6) = false := c
      rw [z] at this
      cases this
    have hwr' := hwr
    rw [wordsR_stop hwl c'] at hwr
    have hle := wordsR_less _ [] l5 _ (Nat.le_refl _) (Nat.zero_le _) hwr
    rw [hwr] at kE k
    change ∀ f, (takePats (l5.length + 1) [] (t6 :: l6)).map _ = _ → _ at kE
    change ∀ s, (takePats (l5.length + 1) [] (t6 :: l6)).map _ = _ → _ at k
    rw [pats_enough hle (Nat.zero_le _)] at kE k
    clear hwr hwr' hle c c'
    refine ⟨Nat.zero_le _, fun pa hpa => ?_⟩
    have hpa0 : H pa = none := sH6.free hpa
    refine ⟨fun m σ H' => ∃ l' ps bs, σ = [some (.ref a), some (.ref r), some (.int (nl : Nat)), some (.int (nr' : Nat)), some (.ref wa), some (.ref pa)] ∧ patsR [] (t6 :: l6) = patsR ps l' ∧ ps.length ≤ 40 ∧ RdAt T H' r l' ∧ H' pa = some (.lst (vR bs)) ∧ AllAt (PatNew T (upd H6 pa (.lst [])) H') bs ps ∧ Same H H' ∧ Dm (upd H6 pa (.lst [])) H' ∧ Sb r H6 H' ∧ m = l'.length, ⟨_, t6 :: l6, [], [], rfl, rfl, Nat.zero_le _, hr6.same (same_upd hpa), upd_same, AllAt.nil, same_updO sH6 hpa0, Dm.refl _, Sb.of (same_upd hpa), rfl⟩, ?_⟩
    rintro m σ H7 ⟨l7, ps, bs, rfl, hpr, hpl, hr7, hpa7, hbl, sH7, dm7, s67, rfl⟩
    obtain ⟨t7, l7, rfl⟩ := List.exists_cons_of_ne_nil (TW.ne hr7.tw)
    have hr7' := hr7
    obtain ⟨dx7, ta7, j7, ts7, h7, _⟩ := hr7'
    have hblw : AllAt (PatAt T H7) bs ps := hbl.imp fun _ _ q => q.at_
    refine ⟨_, rfl, _, _, _, rfl, h7, TextReader_m_stands, r, t7, l7, .chunk (word "pattern"), congrArg (fun z => [V.ref r, V.str z]) pat_str, hr7, .inr pat_ok, _, rfl, ifb (fun c => ?_) (fun c => ?_)⟩
    · have c' : nextWord "pattern" (t7 :: l7) = true := c
      have c2 : ¬ next .last (t7 :: l7) = true := fun z => last_not_word z c'
      rw [patsR_go hpl c2 c'] at hpr
      refine ⟨_, fun _ _ h => h, _, rfl, .inl ⟨rfl, _, SqL.of hpa7⟩, _, rfl, _, rfl, r, pa, t7 :: l7, ps, rfl, hr7, ⟨bs, hpa7, hblw⟩, fun f e H' d s d1 => kE f (by rw [hpr, e]; rfl) H' d (same_sb sH7 nr s) d1, fun w m8 e x H8 s8 hr8 hx => ?_⟩
      rw [e] at hpr
      have hpa8 : H8 pa = some (.lst (vR bs)) := s8 _ _ hpa7 (hr7.is.ne_lst hpa7)
      refine ⟨_, _, _, rfl, rfl, hpa8, ?_, _, readP_less e, m8, ps ++ [w], bs ++ [x], rfl, hpr, ?_, ?_, ?_, ?_, same_updO (same_sb sH7 nr s8) hpa0, (dm7.trans (s8.dm hr8.is)).upd, sb_updO (s67.trans s8) hpa, rfl⟩
      · rw [vR_length, hbl.len]
        exact small_lt (by omega)
      · have := readP_room e hpl
        rw [List.length_append]
        exact this
      · refine hr8.updL hpa8 (ws := ps) (P := PatAt T H8) ?_ (fun _ _ _ h => pat_no_tok h)
        exact hblw.imp fun _ _ q => q.sb hr7.is s8
      · rw [upd_same, vR_snoc]
      · exact AllAt.snoc (hbl.imp fun _ _ q => (q.sb hr7.is s8).updL upd_same) ((hx.dm dm7).updL upd_same)
    have c' : ¬ nextWord "pattern" (t7 :: l7) = true := by
      intro z
      have : nextWord "pattern" (t7 :: l7) = false := c
      rw [z] at this
      cases this
    rw [patsR_stop hpl c'] at hpr
    refine ⟨_, rfl, _, _, _, rfl, h7, TextReader_m_take_end, r, _, rfl, hr7, fun e => ?_, fun e => ?_⟩
    · intro H' d s d1
      refine kE ⟨3, t7.place⟩ ?_ H' d (sH7.trans s) d1
      rw [hpr, e]
      rfl
    · rw [e] at hpr
      refine ⟨_, rfl, _, rfl, _, rfl, _, rfl, WordList_new T fun q H9 nx9 s9 ⟨dx9, h9⟩ => ?_⟩
      refine k ⟨nl, nr', ws, ps⟩ ?_ q H9 (sH7.trans s9) (sH7.free nx9) ⟨dx9, wa, pa, h9, ?_, ⟨bs, s9 _ _ hpa7, hblw.imp fun _ _ z => z.same s9⟩⟩
      · rw [hpr]
        rfl
      · exact (WordsAt.sb ⟨as, hwa6, halw⟩ hr6.is s67).same s9
end
end PwX

/-! ## PwD13 -/
namespace PwX
open PySem PySem.Spec PyProof.Rows L2
open VahypBase Vahypa Pw
section
variable {K : PySem.W.Frag} {mg : Str → Option Value}

def sp_item_of (T : PEnv K mg) : Sp := fun vs H Q E => ∃ (a : Addr) (b : Bytes), vs = [.ref a] ∧ SqL K H a (vB b) ∧ b.length ≤ 10000 ∧ (Vahypz.readItem b = none → ∀ f, FaultE T E H f) ∧ (∀ w, Vahypz.readItem b = some (.word w) → ∀ x H', Same H H' → H x = none → WordAt T H' x w → Q (.ref x) H') ∧ (∀ p, Vahypz.readItem b = some (.pat p) → ∀ x H', Same H H' → H x = none → PatAt T H' x p → Q (.ref x) H')
theorem sc_item_of : FnScope ["text", "reader", "item"] ["text"] (defScope s_item_of) := ⟨rfl, rfl, rfl, by decide +kernel, rfl, by decide +kernel, by decide +kernel⟩
theorem ok_item_of (T : PEnv K mg) {P : Program} {w : World} {base : Heap} : FnOk P w K mg base (L2N.CX P w) 7 T.item_of.f T.item_of.fd ["text"] (sp_item_of T) := by
  refine okN T.item_of.F sc_item_of (fun vs H Q E h => ?_) (fun cdv A outer s H vs Q E hr h => ?_)
  · obtain ⟨a, b, rfl, _⟩ := h
    rfl
  · obtain ⟨a, b, rfl, ha, hb, kE, kw, kp⟩ := h
    refine ⟨_, (pss_cons (ps_set (i := 1) sc_item_of.nd rfl (Or.inl rfl) (pe_make T.TextReader_mk (ok_TextReader_init T) (hr.mono (by decide)) rfl T.TextReader.g T.TextReader_init.b .nil (passDN (L2N.takes_of rfl rfl rfl rfl)) (pa_cons (pv 0) pa_nil)))
      (pss_cons (ps_if (pt_val (pe_meth (pv 1) T.TextReader.cl T.TextReader_stands.at_ (ok_TextReader_stands T) (hr.mono (by decide)) T.TextReader_stands.b .nil pass0 (pa_cons pe_str pa_nil)))
        (pss_one (ps_set (i := 2) sc_item_of.nd rfl (Or.inl rfl) (pe_call (ok_read_word T) (hr.mono (by decide)) rfl T.read_word.g T.read_word.F.kp T.read_word.b .nil (passDN (L2N.takes_of rfl rfl rfl rfl)) (pa_cons (pv 1) (pa_cons (pe_lst pa_nil) pa_nil)))))
        (pss_one (ps_set (i := 2) sc_item_of.nd rfl (Or.inl rfl) (pe_call (ok_read_pattern T) (hr.mono (by decide)) rfl T.read_pattern.g T.read_pattern.F.kp T.read_pattern.b .nil (passDN (L2N.takes_of rfl rfl rfl rfl)) (pa_cons (pv 1) (pa_cons (pe_lst pa_nil) pa_nil))))))
      (pss_cons (ps_expr (pe_meth0 (pv 1) T.TextReader.cl T.TextReader_take_end.at_ (ok_TextReader_take_end T) (hr.mono (by decide)) T.TextReader_take_end.b .nil (passDN (L2N.takes_of rfl rfl rfl rfl))))
      (pss_one (ps_ret (pv 2)))))), ?_⟩
    rw [readItem_eq] at kE kw kp
    refine ⟨_, rfl, ?_⟩
    intro r dr nr ndr hne
    have s0 : Same H (upd (upd H dr (.own r)) r (.ins T.TextReader.C dr [])) := same_updO (same_upd ndr) nr
    refine ⟨r, dr, a, b, rfl, upd_same, sq_same ha s0, hb, fun f e H' d s d1 => kE (by rw [e]) f H' d (s0.trans s) d1, fun l e H1 s1 hr1 => ⟨rfl, ?_⟩⟩
    have sH1 : Same H H1 := same_sb s0 nr s1
    rw [e] at kE kw kp
    dsimp only at kE kw kp
    clear e s1 s0
    obtain ⟨t1, l1, rfl⟩ := List.exists_cons_of_ne_nil (TW.ne hr1.tw)
    have hr1' := hr1
    obtain ⟨dx1, ta1, j1, ts1, h1, _⟩ := hr1'
    unfold itemR at kE kw kp
    refine ⟨_, rfl, _, _, _, rfl, h1, TextReader_m_stands, r, t1, l1, .chunk (word "word"), congrArg (fun z => [V.ref r, V.str z]) word_str, hr1, .inr word_ok, _, rfl, ifb (fun c => ?_) (fun c => ?_)⟩
    · have c' : nextWord "word" (t1 :: l1) = true := c
      rw [if_pos c'] at kE kw kp
      refine ⟨_, rfl, Nat.zero_le _, fun q hq => ?_⟩
      have sq : Same H1 (upd H1 q (.lst [])) := same_upd hq
      refine ⟨r, q, t1 :: l1, [], rfl, hr1.same sq, ⟨[], upd_same, AllAt.nil⟩, fun f e H' d s d1 => kE (by rw [e]) f H' d (same_sb (sH1.trans sq) nr s) d1, fun w m e x H7 s7 hr7 hx => ?_⟩
      have sH7 : Same H H7 := same_sb (sH1.trans sq) nr s7
      rw [e] at kE kw kp
      dsimp only at kE kw kp
      have hr7' := hr7
      obtain ⟨dx7, ta7, j7, ts7, h7, _⟩ := hr7'
      refine ⟨_, rfl, _, _, _, rfl, h7, TextReader_m_take_end, r, _, rfl, hr7, fun e H' d s d1 => ?_, fun e => ?_⟩
      · rw [e] at kE
        exact kE rfl ⟨3, here m⟩ H' d (sH7.trans s) d1
      · rw [e] at kw
        have hx0 : H x = none := (sH1.trans sq).free (let ⟨_, _, _, _, h3, _⟩ := hx; h3)
        exact ⟨_, rfl, kw w rfl x H7 sH7 hx0 hx.at_⟩
    · have c' : ¬ nextWord "word" (t1 :: l1) = true := by
        intro z
        have : nextWord "word" (t1 :: l1) = false := c
        rw [z] at this
        cases this
      rw [if_neg c'] at kE kw kp
      refine ⟨_, rfl, Nat.zero_le _, fun q hq => ?_⟩
      have sq : Same H1 (upd H1 q (.lst [])) := same_upd hq
      refine ⟨r, q, t1 :: l1, [], rfl, hr1.same sq, ⟨[], upd_same, AllAt.nil⟩, fun f e H' d s d1 => kE (by rw [e]) f H' d (same_sb (sH1.trans sq) nr s) d1, fun w m e x H7 s7 hr7 hx => ?_⟩
      have sH7 : Same H H7 := same_sb (sH1.trans sq) nr s7
      rw [e] at kE kw kp
      dsimp only at kE kw kp
      have hr7' := hr7
      obtain ⟨dx7, ta7, j7, ts7, h7, _⟩ := hr7'
      refine ⟨_, rfl, _, _, _, rfl, h7, TextReader_m_take_end, r, _, rfl, hr7, fun e H' d s d1 => ?_, fun e => ?_⟩
      · rw [e] at kE
        exact kE rfl ⟨3, here m⟩ H' d (sH7.trans s) d1
      · rw [e] at kp
        have hx0 : H x = none := (sH1.trans sq).free (let ⟨_, _, _, _, h3, _⟩ := hx; h3)
        exact ⟨_, rfl, kp w rfl x H7 sH7 hx0 hx.at_⟩
end
end PwX

/-! ## PwD14 -/
namespace PwX
open PySem PySem.Spec PyProof.Rows L2
open VahypBase Vahypa Pw
section
variable {K : PySem.W.Frag} {mg : Str → Option Value}
theorem pe_fldK {X : Cx} {K : PySem.W.Frag} (h : X.K = K) {e : Expr} {f : Str} {pos : Pos} {ta : TE} (he : PE X e ta) (hb : attributeBase e f X.env (eval e X.env) = eval e X.env) : PE X (e.Attribute f pos) (tFld K ta f) := h ▸ pe_fld he hb
theorem ix_listK {X : Cx} {K : PySem.W.Frag} (h : X.K = K) : IxR X (rIxL K) := h ▸ ix_list
theorem op_inK {X : Cx} {K : PySem.W.Frag} (h : X.K = K) : OpR X (compareOp .In) (rIn K false) := h ▸ op_in_seq
theorem op_notInK {X : Cx} {K : PySem.W.Frag} (h : X.K = K) : OpR X (compareOp .NotIn) (rIn K true) := h ▸ op_notIn_seq
abbrev rLen (K : PySem.W.Frag) : List V → Hp → VK → Prop := fun xs H Q => ∃ x n, xs = [x] ∧ LenV K x H n ∧ Q (.int (n : Nat)) H
def Gives (H : Hp) (Q : VK) (xs : List V) : Prop := ∀ g H', Same H H' → H g = none → H' g = some (.lst xs) → Q (.ref g) H'
theorem eq_int {a b : Nat} : decide (V.int (a : Int) = V.int (b : Int)) = decide (a = b) := by
  rw [Bool.eq_iff_iff, decide_eq_true_eq, decide_eq_true_eq]
  exact ⟨fun e => by injection e with e; exact Int.ofNat.inj e, fun e => by rw [e]⟩
theorem eq_int0 {a : Nat} : decide (V.int (a : Int) = V.int 0) = decide (a = 0) := eq_int (b := 0)
theorem bool_cases {b : Bool} {P : Prop} (h1 : b = true → P) (h2 : b = false → P) : P := by
  cases b
  · exact h2 rfl
  · exact h1 rfl
theorem rng0 {i : Nat} {H H' : Hp} {x : V} (h : YFn (fun i => V.int (0 + (i : Nat))) i H x H') : H' = H ∧ x = V.int (i : Nat) := ⟨h.1, by rw [h.2]; show V.int (0 + (i : Int)) = _; rw [Int.zero_add]⟩
theorem rng1 {i : Nat} {H H' : Hp} {x : V} (h : YFn (fun i => V.int (1 + (i : Nat))) i H x H') : H' = H ∧ x = V.int ((i + 1 : Nat) : Int) := ⟨h.1, by rw [h.2]; show V.int (1 + (i : Int)) = _; rw [Int.add_comm]; rfl⟩

def sp_fits_at (T : PEnv K mg) : Sp := fun vs H Q _ => ∃ (a : Addr) (p : Pat) (x : Bytes) (o : Nat), vs = [.ref a, .str (sB x), .int (o : Nat)] ∧ PatAt T H a p ∧ p.x.length ≤ 1000 ∧ x.length ≤ 1000 ∧ o + p.x.length ≤ x.length ∧ Q (.bl (fitsAt p x o)) H
theorem sc_fits_at : FnScope ["pattern", "letters", "place", "behind"] ["pattern", "letters", "place"] (defScope s_fits_at) := ⟨rfl, rfl, rfl, by decide +kernel, rfl, by decide +kernel, by decide +kernel⟩
theorem ok_fits_at (T : PEnv K mg) {P : Program} {w : World} {base : Heap} : FnOk P w K mg base CX0 1 T.fits_at.f T.fits_at.fd ["pattern", "letters", "place"] (sp_fits_at T) := by
  refine T.fits_at.F.ok sc_fits_at (fun vs H Q E h => ?_) (fun cdv A outer s H vs Q E hr h => ?_)
  · obtain ⟨a, p, x, o, rfl, _⟩ := h
    rfl
  · obtain ⟨a, p, x, o, rfl, ⟨dx, g, ha, hg⟩, hp, hx, ho, k⟩ := h
    refine ⟨_, (pss_cons (ps_set (i := 3) sc_fits_at.nd rfl (Or.inl rfl) (pe_op op_add (pv 2) (pe_callB call_len (by rfl) T.b_len (by decide +kernel) (pa_cons (pe_fld (pv 0) rfl) pa_nil))))
      (pss_cons (ps_if (PW.pt (pw_and (pt_val (pe_fld (pv 0) rfl)) (pw_and1 (pt_cmpR op_ne (pv 2) pe_int (nomark _)))))
        (pss_one (ps_ret pe_bl))
        pss_nil)
      (pss_cons (ps_if (PW.pt (pw_and (pt_val (pe_fld (pv 0) rfl)) (pw_and1 (pt_cmpR op_ne (pv 3) (pe_callB call_len (by rfl) T.b_len (by decide +kernel) (pa_cons (pv 1) pa_nil)) (nomark _)))))
        (pss_one (ps_ret pe_bl))
        pss_nil)
      (pss_one (ps_ret (pe_cmpR op_eq (pe_slice sl_str (pv 1) (po_some (pv 2)) (po_some (pv 3))) (pe_fld (pv 0) rfl) (nomark _))))))), ?_⟩
    have ef : fitsAt p x o = ((!p.front || o == 0) && ((!p.halt_ || o + p.x.length == x.length) && (x.drop o).take p.x.length == p.x)) := by
      unfold fitsAt
      rw [decide_eq_true ho, Bool.true_and, Bool.and_comm, Bool.and_assoc]
    rw [ef] at k
    refine ⟨_, rfl, _, rfl, _, _, _, _, _, rfl, ha, T.Pattern.cl, T.Pattern_n_letters, Pattern_l_letters, _, _, rfl, ⟨sB_line (by omega), rfl⟩, _, _, rfl, rfl, ?_⟩
    rw [sB_length]
    have last : (!p.front || o == 0) = true → (!p.halt_ || o + p.x.length == x.length) = true → tRet (tOp rEq (tSl rSlS (tVar 1) (tPart (tVar 2)) (tPart (tVar 3))) (tFld K (tVar 0) "letters")) { nx := fun x H' => Q V.non H', rt := Q } [some (.ref a), some (.str (sB x)), some (.int (o : Nat)), some (.int ((o + p.x.length : Nat) : Int))] H := by
      intro e1 e2
      rw [e1, e2, Bool.true_and, Bool.true_and] at k
      refine ⟨_, rfl, _, rfl, _, rfl, _, rfl, _, rfl, _, rfl, sB_line (by omega), ?_⟩
      refine ⟨_, rfl, _, _, _, _, _, rfl, ha, T.Pattern.cl, T.Pattern_n_letters, Pattern_l_letters, rfl, ?_⟩
      rw [cut_mid _ _ _ ho, Nat.add_sub_cancel_left, sBq]
      exact k
    have mid : (!p.front || o == 0) = true → tSeq (tIfS (tAnd (tB (tFld K (tVar 0) "at_end")) (tTest (tOp rNe (tVar 3) (tCB (fun xs H_1 Q => ∃ x n, xs = [x] ∧ LenV K x H_1 n ∧ Q (V.int ↑n) H_1) (tCons (tVar 1) tNil))))) (tRet (tC (.bl false))) tNext) (tRet (tOp rEq (tSl rSlS (tVar 1) (tPart (tVar 2)) (tPart (tVar 3))) (tFld K (tVar 0) "letters"))) { nx := fun x H' => Q V.non H', rt := Q } [some (.ref a), some (.str (sB x)), some (.int (o : Nat)), some (.int ((o + p.x.length : Nat) : Int))] H := by
      intro e1
      refine ⟨_, rfl, _, _, _, _, _, rfl, ha, T.Pattern.cl, T.Pattern_n_at_end, Pattern_l_at_end, _, rfl, ifb (fun h1 => ?_) (fun h1 => ?_)⟩
      · refine ⟨_, rfl, _, rfl, _, _, rfl, ⟨sB_line (by omega), rfl⟩, rfl, _, rfl, ?_⟩
        rw [sB_length, eq_int]
        refine ifb (fun h2 => ?_) (fun h2 => last e1 ?_)
        · have e2 : (!p.halt_ || o + p.x.length == x.length) = false := by
            rw [h1]
            simpa using h2
          rw [e1, e2] at k
          exact k
        · rw [h1]
          simpa using h2
      · exact last e1 (by rw [h1]; rfl)
    refine ⟨_, rfl, _, _, _, _, _, rfl, ha, T.Pattern.cl, T.Pattern_n_at_front, Pattern_l_at_front, _, rfl, ifb (fun h1 => ?_) (fun h1 => ?_)⟩
    · refine ⟨_, rfl, rfl, _, rfl, ?_⟩
      rw [eq_int0]
      refine ifb (fun h2 => ?_) (fun h2 => mid ?_)
      · have e1 : (!p.front || o == 0) = false := by
          rw [h1]
          simpa using h2
        rw [e1] at k
        exact k
      · rw [h1]
        simpa using h2
    · exact mid (by rw [h1]; rfl)
def sp_fitting_places (T : PEnv K mg) : Sp := fun vs H Q _ => ∃ (a : Addr) (p : Pat) (x : Bytes), vs = [.ref a, .str (sB x)] ∧ PatAt T H a p ∧ p.x.length ≤ 1000 ∧ x.length ≤ 1000 ∧ Gives H Q (vN (fitsL p x))
theorem sc_fitting_places : FnScope ["pattern", "letters", "place"] ["pattern", "letters"] (defScope s_fitting_places) := ⟨rfl, rfl, rfl, by decide +kernel, rfl, by decide +kernel, by decide +kernel⟩
theorem ok_fitting_places (T : PEnv K mg) {P : Program} {w : World} {base : Heap} : FnOk P w K mg base CX0 2 T.fitting_places.f T.fitting_places.fd ["pattern", "letters"] (sp_fitting_places T) := by
  refine T.fitting_places.F.ok sc_fitting_places (fun vs H Q E h => ?_) (fun cdv A outer s H vs Q E hr h => ?_)
  · obtain ⟨a, p, x, rfl, _⟩ := h
    rfl
  · obtain ⟨a, p, x, rfl, hpat, hp, hx, k⟩ := h
    refine ⟨_, (pss_one (ps_ret (pe_lc (own := [("place", 2)]) (g := gName 2) rfl sc_fitting_places.nd (pi_range1 (by rfl) T.b_range (pa_cons (pe_op op_add (pe_op op_sub (pe_callB call_len (by rfl) T.b_len (by decide +kernel) (pa_cons (pv 1) pa_nil)) (pe_callB call_len (by rfl) T.b_len (by decide +kernel) (pa_cons (pe_fld (pv 0) rfl) pa_nil))) pe_int) pa_nil)) (blkOk_by (own := [("place", 2)]) (N := ["pattern", "letters", "place"]) (sc := defScope s_fitting_places) (by decide +kernel)) (fun _ _ _ _ _ => (pg_name (i := 2) sc_fitting_places.nd rfl (Or.inl rfl))) (fun _ _ _ _ _ => (pts_one (pt_val (pe_call (ok_fits_at T) (hr.mono (by decide)) rfl T.fits_at.g T.fits_at.F.kp T.fits_at.b .nil pass0 (pa_cons (pv 0) (pa_cons (pv 1) (pa_cons (pv 2) pa_nil))))))) (fun _ _ _ _ _ => (pv 2))))), ?_⟩
    obtain ⟨dx, g, ha, hg⟩ := id hpat
    refine ⟨_, rfl, _, _, rfl, ⟨sB_line (by omega), rfl⟩, _, rfl, _, _, _, _, _, rfl, ha, T.Pattern.cl, T.Pattern_n_letters, Pattern_l_letters, _, _, rfl, ⟨sB_line (by omega), rfl⟩, _, _, rfl, rfl, _, _, rfl, rfl, _, rfl, ?_, ?_, fun D hD => ?_⟩
    · rw [sB_length, sB_length]; omega
    · rw [sB_length, sB_length]; omega
    have en : (((sB x).length : Int) - ((sB p.x).length : Int) + 1).toNat = x.length + 1 - p.x.length := by
      rw [sB_length, sB_length]; omega
    rw [en]
    refine lc_it walk_range (fun i H' => Same H H' ∧ H' D = some (.lst (vN ((List.range i).filter (fitsAt p x))))) ⟨same_upd hD, upd_same⟩ (fun _ _ _ _ => trivial) (fun i y H1 H2 hi q e => ?_) fun H' q => ?_
    · obtain ⟨rfl, rfl⟩ := rng0 e
      refine ⟨rfl, _, rfl, _, rfl, _, rfl, a, p, x, i, rfl, hpat.same q.1, hp, hx, by omega, ?_⟩
      have er : (List.range (i + 1)).filter (fitsAt p x) = (List.range i).filter (fitsAt p x) ++ if fitsAt p x i = true then [i] else [] := by
        rw [List.range_succ, List.filter_append]
        congr 1
        cases z : fitsAt p x i <;> simp [z]
      rw [er]
      refine ⟨_, rfl, ifb (fun h1 => ?_) (fun h1 => ?_)⟩
      · rw [if_pos h1]
        refine ⟨_, rfl, _, q.2, ?_, same_updO q.1 hD, ?_⟩
        · rw [vN_length]
          exact small_lt (by have := List.length_filter_le (fitsAt p x) (List.range i); rw [List.length_range] at this; omega)
        · rw [upd_same, vN_snoc]
      · rw [if_neg (by rw [h1]; exact Bool.false_ne_true), List.append_nil]
        exact q
    · exact k D H' q.1 hD q.2
theorem ixN_nat {n i : Nat} {z : Int} (hz : z = (i : Nat)) (h : i < n) : ixN n z = some i := by
  subst hz
  unfold ixN
  rw [if_pos (Int.natCast_nonneg i), if_pos (by omega)]
  rfl
theorem atI_vN {l : List Nat} {i v : Nat} {z : Int} (hz : z = (i : Nat)) (h : l[i]? = some v) : atI (vN l) z = some (.int (v : Nat)) := by
  unfold atI
  rw [ixN_nat hz (by rw [vN_length]; exact (List.getElem?_eq_some_iff.mp h).1)]
  show (vN l)[i]? = _
  unfold vN
  rw [List.getElem?_map, h]
  rfl
theorem vN_set (l : List Nat) (i v : Nat) : (vN l).set i (.int (v : Nat)) = vN (l.set i v) := by
  unfold vN
  rw [List.map_set]
theorem vN_at {l : List Nat} {i : Nat} {y : V} (h : (vN l)[i]? = some y) : ∃ n, l[i]? = some n ∧ y = .int (n : Nat) := get_map h
theorem int_max (a b : Nat) : (if (b : Int) > (a : Int) then (b : Int) else (a : Int)) = ((Nat.max a b : Nat) : Int) := by
  by_cases h : a < b
  · rw [if_pos (by omega)]
    show (b : Int) = ((Max.max a b : Nat) : Int)
    rw [Nat.max_def, if_pos (by omega)]
  · rw [if_neg (by omega)]
    show (a : Int) = ((Max.max a b : Nat) : Int)
    rw [Nat.max_def]
    split <;> omega
theorem rep_zero (n : Nat) : (List.replicate n [V.int 0]).flatten = vN (List.replicate n 0) := by
  induction n with
  | zero => rfl
  | succ n ih =>
    rw [List.replicate_succ, List.flatten_cons, ih]
    rfl

def sp_levels_of (T : PEnv K mg) : Sp := fun vs H Q _ => ∃ (a : Addr) (ps : List Pat) (x : Bytes), vs = [.ref a, .str (sB x)] ∧ PatsAt T H a ps ∧ (∀ p ∈ ps, POk p) ∧ x.length ≤ 1000 ∧ Gives H Q (vN (lvl ps x))
theorem sc_levels_of : FnScope ["patterns", "letters", "levels", "pattern", "place", "gap", "digit"] ["patterns", "letters"] (defScope s_levels_of) := ⟨rfl, rfl, rfl, by decide +kernel, rfl, by decide +kernel, by decide +kernel⟩
theorem ok_levels_of (T : PEnv K mg) {P : Program} {w : World} {base : Heap} : FnOk P w K mg base CX0 3 T.levels_of.f T.levels_of.fd ["patterns", "letters"] (sp_levels_of T) := by
  refine T.levels_of.F.ok sc_levels_of (fun vs H Q E h => ?_) (fun cdv A outer s H vs Q E hr h => ?_)
  · obtain ⟨a, ps, x, rfl, _⟩ := h
    rfl
  · obtain ⟨a, ps, x, rfl, hps, ok, hx, k⟩ := h
    refine ⟨_, (pss_cons (ps_set (i := 2) sc_levels_of.nd rfl (Or.inl rfl) (pe_op op_rep (pe_lst (pa_cons pe_int pa_nil)) (pe_op op_add (pe_callB call_len (by rfl) T.b_len (by decide +kernel) (pa_cons (pv 1) pa_nil)) pe_int)))
      (pss_cons (ps_for PassesOwn.never rfl (pi_list (pv 0)) (pg_name (i := 3) sc_levels_of.nd rfl (Or.inl rfl))
        (pss_one (ps_for PassesOwn.never rfl (pi_list (pe_call (ok_fitting_places T) (hr.mono (by decide)) rfl T.fitting_places.g T.fitting_places.F.kp T.fitting_places.b .nil pass0 (pa_cons (pv 3) (pa_cons (pv 1) pa_nil)))) (pg_name (i := 4) sc_levels_of.nd rfl (Or.inl rfl))
        (pss_one (ps_for PassesOwn.never rfl (pi_enum (by rfl) T.b_enumerate (pa_cons (pe_fld (pv 3) rfl) pa_nil)) (pg_tup rfl (pgs_cons (pg_name (i := 5) sc_levels_of.nd rfl (Or.inl rfl)) (pgs_cons (pg_name (i := 6) sc_levels_of.nd rfl (Or.inl rfl)) pgs_nil)))
        (pss_one (ps_asg (pe_callB (call_max2 rfl) (by rfl) T.b_max (by decide +kernel) (pa_cons (pe_ix ix_list (pv 2) (pe_op op_add (pv 4) (pv 5)) (fun _ _ => rfl)) (pa_cons (pv 6) pa_nil))) (pg_sub (pv 2) (pe_op op_add (pv 4) (pv 5)) set_list))))))))
      (pss_one (ps_ret (pv 2))))), ?_⟩
    obtain ⟨as, ha, hal⟩ := id hps
    refine ⟨Nat.le_of_ble_eq_true rfl, fun c hc => ?_⟩
    refine ⟨_, rfl, _, _, rfl, ⟨sB_line (by omega), rfl⟩, _, _, rfl, rfl, _, _, _, rfl, rfl, upd_same, ?_, ?_, ?_, fun L hL => ?_⟩
    · rw [sB_length]; omega
    · rw [sB_length]; omega
    · rw [sB_length]
      exact small_line (by simp; omega)
    have hL0 : H L = none := (same_upd hc).free hL
    refine ⟨_, rfl, a, rfl, ⟨_, SqL.of ((same_updO (same_upd hc) hL0) _ _ ha)⟩, for_list (K := K) (a := a) (xs := vR as) (fun i σ H' => ∃ u v w z, σ = [some (.ref a), some (.str (sB x)), some (.ref L), u, v, w, z] ∧ Same H H' ∧ H' L = some (.lst (vN (lvl (ps.take i) x))))
      ⟨none, none, none, none, rfl, same_updO (same_upd hc) hL0, ?_⟩ (fun i σ H' _ ⟨_, _, _, _, _, s, _⟩ => SqL.of (s _ _ ha)) ?_ ?_⟩
    · rw [upd_same, rep_zero]
      have e : ((((sB x).length : Int) + 1).toNat) = x.length + 1 := by rw [sB_length]; omega
      rw [List.take_zero, lvl_nil, ← e]
    · rintro i y σ H1 hi ⟨u, v, w, z, rfl, sm, hL1⟩
      obtain ⟨b, p, rfl, hb, hp2, hpat⟩ := hal.at hi
      have pok := ok p (mem_at hp2)
      have p6 := pok.most
      have hpl := pok.len
      refine ⟨_, rfl, _, rfl, b, p, x, rfl, hpat.same sm, by omega, hx, fun F H2 s2 nF hF => ?_⟩
      have hL2 := s2 _ _ hL1
      have neF : F ≠ L := (ne_of_none hL1 nF).symm
      obtain ⟨dx, g, hb1, hg1⟩ := hpat
      refine ⟨F, rfl, ⟨_, SqL.of hF⟩, for_list (K := K) (a := F) (xs := vN (fitsL p x)) (fun j σ H' => ∃ v w z, σ = [some (.ref a), some (.str (sB x)), some (.ref L), some (.ref b), v, w, z] ∧ Same H H' ∧ H' F = some (.lst (vN (fitsL p x))) ∧ H' L = some (.lst (vN (tab (x.length + 1) (midF (ps.take i) p x j)))))
        ⟨v, w, z, rfl, sm.trans s2, hF, hL2⟩ (fun j σ H' _ ⟨_, _, _, _, _, q, _⟩ => SqL.of q) ?_ ?_⟩
      · rintro j y σ H3 hj ⟨v, w, z, rfl, sm3, hF3, hL3⟩
        obtain ⟨o, ho, rfl⟩ := vN_at hj
        have hfit : fitsAt p x o = true := (List.mem_filter.mp (mem_at ho)).2
        have hos := fits_small hfit
        refine ⟨_, rfl, _, _, _, _, _, rfl, sm3 _ _ hb1, T.Pattern.cl, T.Pattern_n_digits, Pattern_l_digits, g, vN p.levels, rfl, SqL.of (sm3 _ _ hg1), for_it walk_enum (fun m σ H' => ∃ w z, σ = [some (.ref a), some (.str (sB x)), some (.ref L), some (.ref b), some (.int (o : Nat)), w, z] ∧ Same H H' ∧ H' F = some (.lst (vN (fitsL p x))) ∧ H' L = some (.lst (vN (tab (x.length + 1) (upTo p o m (midF (ps.take i) p x j))))))
          ⟨w, z, rfl, sm3, hF3, ?_⟩ (fun m σ H' _ ⟨_, _, _, s, _⟩ => SqL.of (s _ _ hg1)) ?_ ?_⟩
        · rw [hL3]
          congr 3
          exact tab_congr fun q _ => (upTo_zero p o _ q).symm
        · rintro m y σ H4 H5 hm ⟨w, z, rfl, sm4, hF4, hL4⟩ ⟨t, n, y3, rfl, ht, rfl, hn, hy⟩
          cases hn
          obtain ⟨d, hd, rfl⟩ := vN_at hy
          rw [vN_length] at hm
          have hL5 : upd H4 t (.tup [.int (m : Nat), .int (d : Nat)]) L = some (.lst (vN (tab (x.length + 1) (upTo p o m (midF (ps.take i) p x j))))) := (same_upd ht) _ _ hL4
          have hF5 := (same_upd (o := .tup [.int (m : Nat), .int (d : Nat)]) ht) _ _ hF4
          have sm5 := same_updO (o := .tup [.int (m : Nat), .int (d : Nat)]) sm4 (sm4.free ht)
          have hom : o + m < x.length + 1 := by omega
          have ez : (o : Int) + (m : Int) = ((o + m : Nat) : Int) := rfl
          refine ⟨t, _, rfl, sqT_upd, rfl, _, _, rfl, _, _, rfl, rfl, ?_⟩
          refine ⟨_, rfl, _, rfl, _, rfl, _, _, rfl, rfl, L, _, _, _, rfl, rfl, SqL.of hL5, atI_vN ez (tab_get _ hom), _, rfl, _, _, rfl, ?_⟩
          rw [int_max]
          refine ⟨_, rfl, _, rfl, _, rfl, _, _, rfl, rfl, L, _, _, _, rfl, rfl, hL5, ixN_nat ez (by rw [vN_length, tab_length]; exact hom), ?_⟩
          rw [vN_set, upTo_step _ hd]
          exact ⟨_, _, rfl, same_updO sm5 hL0, by rw [upd_ne neF]; exact hF5, upd_same⟩
        · rintro σ H4 ⟨w, z, rfl, sm4, hF4, hL4⟩
          refine ⟨_, _, _, rfl, sm4, hF4, ?_⟩
          rw [hL4, vN_length]
          congr 3
          exact tab_congr fun q _ => (midF_step ho q).symm
      · rintro σ H3 ⟨v, w, z, rfl, sm3, hF3, hL3⟩
        refine ⟨_, _, _, _, rfl, sm3, ?_⟩
        rw [hL3, vN_length, take_more hp2]
        congr 3
        exact tab_congr fun q _ => midF_end (ps.take i) p x q
    · rintro σ H' ⟨u, v, w, z, rfl, sm, hL1⟩
      rw [vR_length, hal.len, List.take_length] at hL1
      exact ⟨_, rfl, k L H' sm hL0 hL1⟩
def sp_gaps_within (T : PEnv K mg) : Sp := fun vs H Q _ => ∃ (x : Bytes) (l r : Nat), vs = [.str (sB x), .int (l : Nat), .int (r : Nat)] ∧ x.length ≤ 1000 ∧ Gives H Q (vN (gapsW l r x))
theorem sc_gaps_within : FnScope ["letters", "left_margin", "right_margin", "gap"] ["letters", "left_margin", "right_margin"] (defScope s_gaps_within) := ⟨rfl, rfl, rfl, by decide +kernel, rfl, by decide +kernel, by decide +kernel⟩
theorem ok_gaps_within (T : PEnv K mg) {P : Program} {w : World} {base : Heap} : FnOk P w K mg base CX0 1 T.gaps_within.f T.gaps_within.fd ["letters", "left_margin", "right_margin"] (sp_gaps_within T) := by
  refine T.gaps_within.F.ok sc_gaps_within (fun vs H Q E h => ?_) (fun cdv A outer s H vs Q E hr h => ?_)
  · obtain ⟨x, l, r, rfl, _⟩ := h
    rfl
  · obtain ⟨x, l, r, rfl, hx, k⟩ := h
    refine ⟨_, (pss_one (ps_ret (pe_lc (own := [("gap", 3)]) (g := gName 3) rfl sc_gaps_within.nd (pi_range2 (by rfl) T.b_range (pa_cons pe_int (pa_cons (pe_callB call_len (by rfl) T.b_len (by decide +kernel) (pa_cons (pv 0) pa_nil)) pa_nil))) (blkOk_by (own := [("gap", 3)]) (N := ["letters", "left_margin", "right_margin", "gap"]) (sc := defScope s_gaps_within) (by decide +kernel)) (fun _ _ _ _ _ => (pg_name (i := 3) sc_gaps_within.nd rfl (Or.inl rfl))) (fun _ _ _ _ _ => (pts_one (PW.pt (pw_and (pt_cmpR op_ge (pv 3) (pv 1) (nomark _)) (pw_and1 (pt_cmpR op_ge (pe_op op_sub (pe_callB (r := rLen K) call_len (by rfl) T.b_len (by decide +kernel) (pa_cons (pv 0) pa_nil)) (pv 3)) (pv 2) (nomark _))))))) (fun _ _ _ _ _ => (pv 3))))), ?_⟩
    refine ⟨_, rfl, _, _, rfl, ⟨sB_line (by omega), rfl⟩, _, _, rfl, ?_, fun D hD => ?_⟩
    · rw [sB_length]; omega
    have en : (((sB x).length : Int) - 1).toNat = x.length - 1 := by rw [sB_length]; omega
    rw [en]
    refine lc_it walk_range (fun i H' => Same H H' ∧ H' D = some (.lst (vN (((gaps x).take i).filter (inMargins l r x))))) ⟨same_upd hD, upd_same⟩ (fun _ _ _ _ => trivial) (fun i y H1 H2 hi q e => ?_) fun H' q => ?_
    · obtain ⟨rfl, rfl⟩ := rng1 e
      have er : ((gaps x).take (i + 1)).filter (inMargins l r x) = ((gaps x).take i).filter (inMargins l r x) ++ if inMargins l r x (i + 1) = true then [i + 1] else [] := by
        rw [take_more (gaps_get hi), List.filter_append]
        congr 1
        cases z : inMargins l r x (i + 1) <;> simp [z]
      rw [er]
      have yes : inMargins l r x (i + 1) = true → tVar 3 [some (.str (sB x)), some (.int (l : Nat)), some (.int (r : Nat)), some (.int ((i + 1 : Nat) : Int))] H2 fun y H4 => ∃ acc, H4 D = some (HO.lst acc) ∧ acc.length < sizeLine ∧ Same H (upd H4 D (HO.lst (acc ++ [y]))) ∧ upd H4 D (HO.lst (acc ++ [y])) D = some (HO.lst (vN (((gaps x).take i).filter (inMargins l r x) ++ if inMargins l r x (i + 1) = true then [i + 1] else []))) := by
        intro h1
        rw [if_pos h1]
        refine ⟨_, rfl, _, q.2, ?_, same_updO q.1 hD, ?_⟩
        · rw [vN_length]
          exact small_lt (by have := List.length_filter_le (inMargins l r x) ((gaps x).take i); rw [List.length_take] at this; omega)
        · rw [upd_same, vN_snoc]
      refine ⟨rfl, _, rfl, _, rfl, _, _, rfl, rfl, _, rfl, ifd (fun h1 => ?_) (fun h1 => iteF ?_)⟩
      · refine ⟨_, rfl, _, _, rfl, ⟨sB_line (by omega), rfl⟩, _, rfl, _, _, rfl, rfl, _, rfl, _, _, rfl, rfl, _, rfl, ifd (fun h2 => ?_) (fun h2 => ?_)⟩
        · rw [sB_length] at h2
          exact yes (decide_eq_true ⟨by omega, by omega⟩)
        · rw [sB_length] at h2
          rw [if_neg (by unfold inMargins; rw [decide_eq_true_eq]; omega), List.append_nil]
          exact q
      · rw [if_neg (by unfold inMargins; rw [decide_eq_true_eq]; omega), List.append_nil]
        exact q
    · refine k D H' q.1 hD ?_
      rw [q.2, ← gaps_length, List.take_length]
      rfl
def sp_parted_gaps (T : PEnv K mg) : Sp := fun vs H Q _ => ∃ (a : Addr) (s : Lst) (x : Bytes), vs = [.ref a, .str (sB x)] ∧ LstAt T H a s ∧ (∀ p ∈ s.pats, POk p) ∧ x.length ≤ 1000 ∧ Gives H Q (vN (parts s x))
theorem sc_parted_gaps : FnScope ["word_list", "letters", "levels", "gaps", "gap"] ["word_list", "letters"] (defScope s_parted_gaps) := ⟨rfl, rfl, rfl, by decide +kernel, rfl, by decide +kernel, by decide +kernel⟩
theorem ok_parted_gaps (T : PEnv K mg) {P : Program} {w : World} {base : Heap} : FnOk P w K mg base CX0 4 T.parted_gaps.f T.parted_gaps.fd ["word_list", "letters"] (sp_parted_gaps T) := by
  refine T.parted_gaps.F.ok sc_parted_gaps (fun vs H Q E h => ?_) (fun cdv A outer s H vs Q E hr h => ?_)
  · obtain ⟨a, s_, x, rfl, _⟩ := h
    rfl
  · obtain ⟨a, s_, x, rfl, hl, ok, hx, k⟩ := h
    refine ⟨_, (pss_cons (ps_set (i := 2) sc_parted_gaps.nd rfl (Or.inr rfl) (pe_call (ok_levels_of T) (hr.mono (by decide)) rfl T.levels_of.g T.levels_of.F.kp T.levels_of.b .nil pass0 (pa_cons (pe_fld (pv 0) rfl) (pa_cons (pv 1) pa_nil))))
      (pss_cons (ps_set (i := 3) sc_parted_gaps.nd rfl (Or.inl rfl) (pe_call (ok_gaps_within T) (hr.mono (by decide)) rfl T.gaps_within.g T.gaps_within.F.kp T.gaps_within.b .nil pass0 (pa_cons (pv 1) (pa_cons (pe_fld (pv 0) rfl) (pa_cons (pe_fld (pv 0) rfl) pa_nil)))))
      (pss_one (ps_ret (pe_lc (own := [("gap", 4)]) (g := gName 4) rfl sc_parted_gaps.nd (pi_list (pv 3)) (blkOk_by (own := [("gap", 4)]) (N := ["word_list", "letters", "levels", "gaps", "gap"]) (sc := defScope s_parted_gaps) (by decide +kernel)) (fun _ _ _ _ _ => (pg_name (i := 4) sc_parted_gaps.nd rfl (Or.inl rfl))) (fun _ _ _ _ _ => (pts_one (pt_cmpR op_eq (pe_op op_mod (pe_ix (ix_listK (K := K) rfl) (pv 2) (pv 4) (fun _ _ => rfl)) pe_int) pe_int (nomark _)))) (fun _ _ _ _ _ => (pv 4))))))), ?_⟩
    obtain ⟨dx, wa, pa, ha, hw, hp⟩ := id hl
    refine ⟨_, rfl, _, _, _, _, _, rfl, ha, T.WordList.cl, T.WordList_n_patterns, WordList_l_patterns, _, rfl, pa, s_.pats, x, rfl, hp, ok, hx, fun L H1 s1 nL hL => ?_⟩
    refine ⟨_, rfl, _, rfl, _, _, _, _, _, rfl, s1 _ _ ha, T.WordList.cl, T.WordList_n_left_margin, WordList_l_left_margin, _, rfl, _, _, _, _, _, rfl, s1 _ _ ha, T.WordList.cl, T.WordList_n_right_margin, WordList_l_right_margin, x, s_.l, s_.r, rfl, hx, fun G H2 s2 nG hG => ?_⟩
    have hL2 := s2 _ _ hL
    refine ⟨_, rfl, G, rfl, ⟨_, SqL.of hG⟩, fun D hD => ?_⟩
    have hD0 : H D = none := (s1.trans s2).free hD
    have nGD : G ≠ D := ne_of_none hG hD
    have nLD : L ≠ D := ne_of_none hL2 hD
    refine lc_list (K := K) (a := G) (xs := vN (gapsW s_.l s_.r x)) (fun i H' => Same H H' ∧ H' G = some (.lst (vN (gapsW s_.l s_.r x))) ∧ H' L = some (.lst (vN (lvl s_.pats x))) ∧ H' D = some (.lst (vN (((gapsW s_.l s_.r x).take i).filter fun g => levelAt s_.pats x g % 2 == 1)))) ⟨same_updO (s1.trans s2) hD0, by rw [upd_ne nGD]; exact hG, by rw [upd_ne nLD]; exact hL2, upd_same⟩ (fun i H' _ q => SqL.of q.2.1) (fun i y H1 hi q => ?_) fun H' q => ?_
    · obtain ⟨g, hg, rfl⟩ := vN_at hi
      have hgx := mem_gapsW (mem_at hg)
      rw [take_more hg, List.filter_append]
      refine ⟨rfl, _, rfl, _, rfl, L, _, _, _, rfl, rfl, SqL.of q.2.2.1, atI_vN (i := g) rfl (tab_get _ (by omega)), ?_⟩
      refine ⟨_, _, rfl, rfl, (show (0 : Int) < 2 by decide), rfl, _, rfl, ?_⟩
      have eo : decide (V.int (((lev s_.pats x g : Nat) : Int) % 2) = V.int 1) = (levelAt s_.pats x g % 2 == 1) := by
        have := eq_int (a := levelAt s_.pats x g % 2) (b := 1)
        show decide (V.int ((levelAt s_.pats x g % 2 : Nat) : Int) = V.int ((1 : Nat) : Int)) = _
        rw [this]
        rfl
      rw [eo]
      refine ifb (fun h1 => ?_) (fun h1 => ?_)
      · refine ⟨_, rfl, _, q.2.2.2, ?_, same_updO q.1 hD0, by rw [upd_ne nGD]; exact q.2.1, by rw [upd_ne nLD]; exact q.2.2.1, ?_⟩
        · rw [vN_length]
          exact small_lt (Nat.lt_of_le_of_lt (List.length_filter_le _ _) (by rw [List.length_take]; have := gapsW_le s_.l s_.r x; omega))
        · rw [upd_same, ← vN_snoc]
          congr 3
          simp [h1]
      · refine ⟨q.1, q.2.1, q.2.2.1, ?_⟩
        rw [q.2.2.2]
        congr 3
        simp [h1]
    · rw [vN_length, List.take_length, parts_eq] at q
      exact k D H' q.1 hD0 q.2.2.2
end
end PwX

/-! ## PwD15 -/
namespace PwX
open PySem PySem.Spec PyProof.Rows L2
open VahypBase Vahypa Pw
section
variable {K : PySem.W.Frag} {mg : Str → Option Value}
theorem inV_vN (g : Nat) (l : List Nat) : inV (.int (g : Nat)) (vN l) = l.contains g := by
  rw [vN_map, inV_int, Bool.eq_iff_iff, decide_eq_true_eq, List.contains_iff_mem, List.mem_map]
  exact ⟨fun ⟨n, hn, e⟩ => by rw [← Int.ofNat.inj e]; exact hn, fun h => ⟨g, h, rfl⟩⟩
theorem flat_vN (l : List Nat) : (vN l).all flatV = true := by
  rw [List.all_eq_true]
  intro v hv
  obtain ⟨n, _, rfl⟩ := List.mem_map.mp hv
  rfl
theorem lc_filt {l : List Nat} {f : Nat → Bool} {G : Addr} {H : Hp} {wi : TI} {g : TG} {tt : TT} {te : TE} {vs : List Nat} {σ : L2.St} {Q : VK} (σn : Nat → L2.St)
    (hwi : ∀ R : L2.It → Hp → Prop, R (Itl K G) H → wi σ H R) (hG : H G = some (.lst (vN l))) (hl : l.length < 1000000)
    (hg : ∀ n ∈ l, ∀ H' (R : L2.St → Hp → Prop), R (σn n) H' → g (.int (n : Nat)) (wipe σ vs) H' R) (hw : ∀ n ∈ l, wipe (σn n) vs = wipe σ vs)
    (ht : ∀ n ∈ l, ∀ H', Same H H' → ∀ R : Bool → Hp → Prop, R (f n) H' → tt (σn n) H' R) (he : ∀ n ∈ l, ∀ H' (R : VK), R (.int (n : Nat)) H' → te (σn n) H' R)
    (fin : Gives H Q (vN (l.filter f))) : tLc wi g tt te vs σ H Q := by
  refine hwi _ fun D hD => ?_
  refine lc_list (K := K) (a := G) (xs := vN l) (fun i H' => Same H H' ∧ H' D = some (.lst (vN ((l.take i).filter f)))) ⟨same_upd hD, upd_same⟩ (fun i H' _ q => SqL.of (q.1 _ _ hG)) (fun i y H' hi q => ?_) fun H' q => ?_
  · obtain ⟨n, hn, rfl⟩ := vN_at hi
    refine hg n (mem_at hn) _ _ ⟨hw n (mem_at hn), ht n (mem_at hn) H' q.1 _ ?_⟩
    rw [take_more hn, List.filter_append]
    refine ifb (fun h1 => he n (mem_at hn) _ _ ⟨_, q.2, ?_, same_updO q.1 hD, ?_⟩) (fun h1 => ⟨q.1, ?_⟩)
    · rw [vN_length]
      exact small_lt (Nat.lt_of_le_of_lt (List.length_filter_le _ _) (by rw [List.length_take]; omega))
    · rw [upd_same, ← vN_snoc]
      congr 3
      simp [h1]
    · rw [q.2]
      congr 3
      simp [h1]
  · rw [vN_length, List.take_length] at q
    exact fin D H' q.1 hD q.2
theorem nm_seq {n : Nat} {v : V} {σ : L2.St} {H : Hp} {a b : TS} {D : Ends} {rt : VK} {bk ct : L2.St → Hp → Prop} (h : tSeq a b D (σ.set n (some v)) H) : gName n v σ H (Ends.nx ⟨tSeq a b D, rt, bk, ct⟩) := h
theorem seq_cb {r : List V → Hp → VK → Prop} {e : TE} {gg : TG} {b : TS} {D : Ends} {σ : L2.St} {H : Hp} (h : e σ H fun y H1 => r [y] H1 fun z H3 => gg z σ H3 (b D)) : tSeq (tAsg (tCB r (tCons e tNil)) gg) b D σ H := h
def StAt (T : PEnv K mg) (H : Hp) (a : Addr) (z : Score) : Prop := ∃ dx, H a = some (.ins T.Standing.C dx (StandingF (.int (z.hits : Nat)) (.int (z.faults : Nat)) (.int (z.misses : Nat))))
theorem StAt.same {T : PEnv K mg} {H H' : Hp} {a : Addr} {z : Score} (h : StAt T H a z) (s : Same H H') : StAt T H' a z := let ⟨dx, h1⟩ := h; ⟨dx, s _ _ h1⟩

def sp_Standing_is_exact (T : PEnv K mg) : Sp := fun vs H Q _ => ∃ (a : Addr) (z : Score), vs = [.ref a] ∧ StAt T H a z ∧ Q (.bl (z.faults == 0 && z.misses == 0)) H
theorem sc_Standing_is_exact : FnScope ["self"] ["self"] (defScope s_Standing_is_exact) := ⟨rfl, rfl, rfl, by decide +kernel, rfl, by decide +kernel, by decide +kernel⟩
theorem ok_Standing_is_exact (T : PEnv K mg) {P : Program} {w : World} {base : Heap} : FnOk P w K mg base CX0 1 T.Standing_is_exact.f T.Standing_is_exact.fd ["self"] (sp_Standing_is_exact T) := by
  refine T.Standing_is_exact.F.ok sc_Standing_is_exact (fun vs H Q E h => ?_) (fun cdv A outer s H vs Q E hr h => ?_)
  · obtain ⟨a, z, rfl, _⟩ := h
    rfl
  · obtain ⟨a, z, rfl, ⟨dx, ha⟩, k⟩ := h
    refine ⟨_, (pss_one (ps_ret (pe_and (pe_cmpR op_eq (pe_fld (pv 0) rfl) pe_int (nomark _)) (pe_one (pe_cmpR op_eq (pe_fld (pv 0) rfl) pe_int (nomark _)))))), ?_⟩
    refine ⟨_, rfl, _, _, _, _, _, rfl, ha, T.Standing.cl, T.Standing_n_faults, Standing_l_faults, rfl, ?_⟩
    rw [eq_int0]
    refine ⟨_, rfl, ifd (fun h1 => ?_) (fun h1 => ?_)⟩
    · refine ⟨_, rfl, _, _, _, _, _, rfl, ha, T.Standing.cl, T.Standing_n_misses, Standing_l_misses, rfl, ?_⟩
      rw [eq_int0]
      rw [h1] at k
      exact k
    · have e : (z.faults == 0) = false := by simpa using h1
      rw [e] at k
      exact k
def sp_standing_of (T : PEnv K mg) : Sp := fun vs H Q _ => ∃ (a b : Addr) (s : Lst) (w : Word), vs = [.ref a, .ref b] ∧ LstAt T H a s ∧ WordAt T H b w ∧ (∀ p ∈ s.pats, POk p) ∧ WOk w ∧ ∀ x H', Same H H' → H x = none → StAt T H' x (scoreWord s w) → Q (.ref x) H'
theorem sc_standing_of : FnScope ["word_list", "word", "parted", "within", "hits", "faults", "misses", "gap"] ["word_list", "word"] (defScope s_standing_of) := ⟨rfl, rfl, rfl, by decide +kernel, rfl, by decide +kernel, by decide +kernel⟩
theorem ok_standing_of (T : PEnv K mg) {P : Program} {w : World} {base : Heap} : FnOk P w K mg base CX0 5 T.standing_of.f T.standing_of.fd ["word_list", "word"] (sp_standing_of T) := by
  refine T.standing_of.F.ok sc_standing_of (fun vs H Q E h => ?_) (fun cdv A outer s H vs Q E hr h => ?_)
  · obtain ⟨a, b, s_, v, rfl, _⟩ := h
    rfl
  · obtain ⟨a, b, s_, v, rfl, hl, hw, ok, wok, k⟩ := h
    refine ⟨_, (pss_cons (ps_set (i := 2) sc_standing_of.nd rfl (Or.inr rfl) (pe_call (ok_parted_gaps T) (hr.mono (by decide)) rfl T.parted_gaps.g T.parted_gaps.F.kp T.parted_gaps.b .nil pass0 (pa_cons (pv 0) (pa_cons (pe_fld (pv 1) rfl) pa_nil))))
      (pss_cons (ps_set (i := 3) sc_standing_of.nd rfl (Or.inl rfl) (pe_call (ok_gaps_within T) (hr.mono (by decide)) rfl T.gaps_within.g T.gaps_within.F.kp T.gaps_within.b .nil pass0 (pa_cons (pe_fld (pv 1) rfl) (pa_cons (pe_fld (pv 0) rfl) (pa_cons (pe_fld (pv 0) rfl) pa_nil)))))
      (pss_cons (ps_set (i := 4) sc_standing_of.nd rfl (Or.inl rfl) (pe_callB call_len (by rfl) T.b_len (by decide +kernel) (pa_cons (pe_lc (own := [("gap", 7)]) (g := gName 7) rfl sc_standing_of.nd (pi_list (pv 2)) (blkOk_by (own := [("gap", 7)]) (N := ["word_list", "word", "parted", "within", "hits", "faults", "misses", "gap"]) (sc := defScope s_standing_of) (by decide +kernel)) (fun _ _ _ _ _ => (pg_name (i := 7) sc_standing_of.nd rfl (Or.inl rfl))) (fun _ _ _ _ _ => (pts_one (pt_cmpR (op_inK (K := K) rfl) (pv 7) (pe_fldK (K := K) rfl (pv 1) rfl) (by first | rfl | exact nomark _)))) (fun _ _ _ _ _ => (pv 7))) pa_nil)))
      (pss_cons (ps_set (i := 5) sc_standing_of.nd rfl (Or.inl rfl) (pe_op op_sub (pe_callB call_len (by rfl) T.b_len (by decide +kernel) (pa_cons (pv 2) pa_nil)) (pv 4)))
      (pss_cons (ps_set (i := 6) sc_standing_of.nd rfl (Or.inl rfl) (pe_callB call_len (by rfl) T.b_len (by decide +kernel) (pa_cons (pe_lc (own := [("gap", 7)]) (g := gName 7) rfl sc_standing_of.nd (pi_list (pv 3)) (blkOk_by (own := [("gap", 7)]) (N := ["word_list", "word", "parted", "within", "hits", "faults", "misses", "gap"]) (sc := defScope s_standing_of) (by decide +kernel)) (fun _ _ _ _ _ => (pg_name (i := 7) sc_standing_of.nd rfl (Or.inl rfl))) (fun _ _ _ _ _ => (pts_one (PW.pt (pw_and (pt_cmpR (op_inK (K := K) rfl) (pv 7) (pe_fldK (K := K) rfl (pv 1) rfl) (by first | rfl | exact nomark _)) (pw_and1 (pt_cmpR (op_notInK (K := K) rfl) (pv 7) (pv 2) (by first | rfl | exact nomark _))))))) (fun _ _ _ _ _ => (pv 7))) pa_nil)))
      (pss_one (ps_ret (pe_make T.Standing_mk (ok_Standing_init T) (hr.mono (by decide)) rfl T.Standing.g T.Standing_init.b .nil pass0 (pa_cons (pv 4) (pa_cons (pv 5) (pa_cons (pv 6) pa_nil))))))))))), ?_⟩
    obtain ⟨dx, wa, pa, ha, _, _⟩ := id hl
    obtain ⟨dw, g, hb, hg⟩ := id hw
    have w16 := wok.most
    have hple := parts_le s_ v.x
    have hgle := gapsW_le s_.l s_.r v.x
    refine ⟨_, rfl, _, rfl, _, _, _, _, _, rfl, hb, T.Word.cl, T.Word_n_letters, Word_l_letters, a, s_, v.x, rfl, hl, ok, by omega, fun P H1 s1 nP hP => ?_⟩
    refine ⟨_, rfl, _, _, _, _, _, rfl, s1 _ _ hb, T.Word.cl, T.Word_n_letters, Word_l_letters, _, rfl, _, _, _, _, _, rfl, s1 _ _ ha, T.WordList.cl, T.WordList_n_left_margin, WordList_l_left_margin, _, rfl, _, _, _, _, _, rfl, s1 _ _ ha, T.WordList.cl, T.WordList_n_right_margin, WordList_l_right_margin, v.x, s_.l, s_.r, rfl, by omega, fun W H2 s2 nW hW => ?_⟩
    have s02 := s1.trans s2
    refine nm_seq (seq_cb ?_)
    refine lc_filt (K := K) (G := P) (l := parts s_ v.x) (f := fun n => v.cuts.contains n) (fun n => [some (.ref a), some (.ref b), some (.ref P), some (.ref W), none, none, none, some (.int (n : Nat))]) (fun R r => ⟨_, rfl, P, rfl, ⟨_, SqL.of (s2 _ _ hP)⟩, r⟩) (s2 _ _ hP) (by omega) (fun n _ H' R r => r) (fun n _ => rfl) (fun n _ H' s R r => ?_) (fun n _ H' R r => ⟨_, rfl, r⟩) (fun D H3 s3 nD hD => ?_)
    · refine ⟨_, rfl, _, rfl, _, _, _, _, _, rfl, s _ _ (s02 _ _ hb), T.Word.cl, T.Word_n_gaps, Word_l_gaps, g, _, rfl, .inl (SqL.of (s _ _ (s02 _ _ hg))), rfl, flat_vN _, _, rfl, ?_⟩
      rw [if_neg Bool.false_ne_true, inV_vN]
      exact r
    have s03 := s02.trans s3
    refine ⟨_, _, rfl, .inl ⟨_, SqL.of hD, rfl⟩, ?_⟩
    refine ⟨_, rfl, _, _, rfl, .inl ⟨_, SqL.of (s3 _ _ (s2 _ _ hP)), rfl⟩, _, rfl, _, _, rfl, rfl, ?_⟩
    rw [vN_length, vN_length]
    have eh : (((parts s_ v.x).length : Nat) : Int) - ((hitsP s_ v).length : Nat) = ((scoreWord s_ v).faults : Nat) := by
      have := hits_le s_ v
      rw [← faults_eq]
      omega
    change gName 5 (.int ((((parts s_ v.x).length : Nat) : Int) - ((hitsP s_ v).length : Nat))) _ _ _
    rw [eh]
    refine nm_seq (seq_cb ?_)
    refine lc_filt (K := K) (G := W) (l := gapsW s_.l s_.r v.x) (f := fun g => v.cuts.contains g && !(parts s_ v.x).contains g) (fun n => [some (.ref a), some (.ref b), some (.ref P), some (.ref W), some (.int ((hitsP s_ v).length : Nat)), some (.int ((scoreWord s_ v).faults : Nat)), none, some (.int (n : Nat))]) (fun R r => ⟨_, rfl, W, rfl, ⟨_, SqL.of (s3 _ _ hW)⟩, r⟩) (s3 _ _ hW) (by omega) (fun n _ H' R r => r) (fun n _ => rfl) (fun n _ H' s R r => ?_) (fun n _ H' R r => ⟨_, rfl, r⟩) (fun D2 H4 s4 nD2 hD2 => ?_)
    · refine ⟨_, rfl, _, rfl, _, _, _, _, _, rfl, s _ _ (s03 _ _ hb), T.Word.cl, T.Word_n_gaps, Word_l_gaps, g, _, rfl, .inl (SqL.of (s _ _ (s03 _ _ hg))), rfl, flat_vN _, _, rfl, ?_⟩
      rw [if_neg Bool.false_ne_true, inV_vN]
      refine ifb (fun h1 => ?_) (fun h1 => ?_)
      · refine ⟨_, rfl, _, rfl, P, _, rfl, .inl (SqL.of (s _ _ (s3 _ _ (s2 _ _ hP)))), rfl, flat_vN _, _, rfl, ?_⟩
        rw [if_pos rfl, inV_vN]
        rw [h1] at r
        exact r
      · rw [h1] at r
        exact r
    refine ⟨_, _, rfl, .inl ⟨_, SqL.of hD2, rfl⟩, ?_⟩
    rw [vN_length]
    have em : ((gapsW s_.l s_.r v.x).filter fun g => v.cuts.contains g && !(parts s_ v.x).contains g).length = (scoreWord s_ v).misses := miss_eq wok
    rw [em]
    refine ⟨_, rfl, _, rfl, _, rfl, ?_⟩
    refine fun x dx nx nd _ => ⟨x, dx, _, _, _, rfl, upd_same, fun H5 hx kp => ⟨rfl, ?_⟩⟩
    have s5 := Same.made nx nd kp
    exact k x H5 ((s03.trans s4).trans s5) ((s03.trans s4).free nx) ⟨dx, hx⟩
end
end PwX

/-! ## PwMarg -/
namespace Pw
open VahypBase Vahypa
/-! ### the margins tried -/
def wrongL (s : Lst) (m : Nat × Nat) : Nat := Vahypz.wrongs (Vahypz.withMargins s m.1 m.2)
def exactL (s : Lst) (m : Nat × Nat) : Nat := Vahypz.exactCount (Vahypz.withMargins s m.1 m.2)
def bestStep (s : Lst) (b : Nat × Nat × Nat) (m : Nat × Nat) : Nat × Nat × Nat := if wrongL s m < b.2.2 then (m.1, m.2, wrongL s m) else b
def bestAt (s : Lst) (k : Nat) : Nat × Nat × Nat := (Vahypz.allMargins.take k).foldl (bestStep s) (0, 0, wrongL s (0, 0))
def trip (b : Nat × Nat × Nat) : List Nat := [b.1, b.2.1, b.2.2]
def bestL (s : Lst) (k : Nat) : List Nat := if k = 0 then [] else trip (bestAt s k)
def exactsL (s : Lst) (k : Nat) : List Nat := (Vahypz.allMargins.take k).map (exactL s)
def marginsL (s : Lst) : List Nat := trip (Vahypz.bestMargins s) ++ Vahypz.allMargins.map (exactL s)
theorem all_margins : Vahypz.allMargins.length = 36 := by decide
theorem all_at0 : ∀ i : Fin 6, ∀ j : Fin 6, Vahypz.allMargins[6 * i.val + j.val]? = some (i.val, j.val) := by decide
theorem all_at (i j : Nat) (hi : i < 6) (hj : j < 6) : Vahypz.allMargins[6 * i + j]? = some (i, j) := all_at0 ⟨i, hi⟩ ⟨j, hj⟩
theorem take_more' {α : Type} {l : List α} {i : Nat} {x : α} (h : l[i]? = some x) : l.take (i + 1) = l.take i ++ [x] := by
  rw [List.take_add_one, h]; rfl
theorem bestAt_step {s : Lst} {k : Nat} {m : Nat × Nat} (h : Vahypz.allMargins[k]? = some m) : bestAt s (k + 1) = bestStep s (bestAt s k) m := by
  unfold bestAt
  rw [take_more' h, List.foldl_append]
  rfl
theorem bestL_zero (s : Lst) : bestL s 0 = [] := rfl
theorem bestL_first (s : Lst) : bestL s 1 = [0, 0, wrongL s (0, 0)] := by
  show trip (bestAt s (0 + 1)) = _
  rw [bestAt_step (all_at 0 0 (by decide) (by decide))]
  unfold bestStep bestAt
  rw [List.take_zero, List.foldl_nil, if_neg (Nat.lt_irrefl _)]
  rfl
theorem bestL_next {s : Lst} {k : Nat} {m : Nat × Nat} (h : Vahypz.allMargins[k]? = some m) (hk : 0 < k) : bestL s (k + 1) = if wrongL s m < (bestAt s k).2.2 then [m.1, m.2, wrongL s m] else bestL s k := by
  have e1 : bestL s (k + 1) = trip (bestAt s (k + 1)) := if_neg (Nat.succ_ne_zero k)
  have e2 : bestL s k = trip (bestAt s k) := if_neg (Nat.ne_of_gt hk)
  rw [e1, e2, bestAt_step h]
  unfold bestStep
  split <;> rfl
theorem bestL_pos {s : Lst} {k : Nat} (hk : 0 < k) : bestL s k = [(bestAt s k).1, (bestAt s k).2.1, (bestAt s k).2.2] := by
  unfold bestL
  rw [if_neg (by omega)]
  rfl
theorem exactsL_step {s : Lst} {k : Nat} {m : Nat × Nat} (h : Vahypz.allMargins[k]? = some m) : exactsL s (k + 1) = exactsL s k ++ [exactL s m] := by
  unfold exactsL
  rw [take_more' h, List.map_append]
  rfl
theorem marginsL_end (s : Lst) : bestL s 36 ++ exactsL s 36 = marginsL s := by
  unfold bestL exactsL marginsL bestAt
  rw [if_neg (by decide), List.take_of_length_le (Nat.le_of_eq all_margins)]
  rfl
theorem sum_scores : ∀ (zs : List Score) (z : Score), (zs.foldl addScore z).faults + (zs.foldl addScore z).misses = z.faults + z.misses + (zs.map fun z => z.faults + z.misses).sum
  | [], z => by simp
  | y :: zs, z => by
    rw [List.foldl_cons, sum_scores zs, List.map_cons, List.sum_cons]
    show z.faults + y.faults + (z.misses + y.misses) + _ = _
    omega
theorem wrong_sum (s : Lst) : ((s.words.map (scoreWord s)).map fun z => z.faults + z.misses).sum = Vahypz.wrongs s := by
  unfold Vahypz.wrongs scoreOf
  have := sum_scores (s.words.map (scoreWord s)) ⟨0, 0, 0⟩
  dsimp only at this ⊢
  omega
theorem exact_len (s : Lst) : ((s.words.map (scoreWord s)).filter fun z => z.faults == 0 && z.misses == 0).length = Vahypz.exactCount s := by
  unfold Vahypz.exactCount
  rw [List.filter_map, List.length_map]
  rfl
end Pw

/-! ## PwD16 -/
namespace PwX
open PySem PySem.Spec PyProof.Rows L2
open VahypBase Vahypa Pw
section
variable {K : PySem.W.Frag} {mg : Str → Option Value}
theorem StAt.updL {T : PEnv K mg} {H : Hp} {a p : Addr} {z : Score} {xs : List V} {o : HO} (h : StAt T H a z) (hp : H p = some (.lst xs)) : StAt T (upd H p o) a z := let ⟨dx, h1⟩ := h; ⟨dx, by rw [upd_ne (ne_of h1 hp (by intro z; cases z))]; exact h1⟩
def StsAt (T : PEnv K mg) (H : Hp) (a : Addr) (zs : List Score) : Prop := ∃ as, H a = some (.lst (vR as)) ∧ AllAt (StAt T H) as zs
theorem StsAt.same {T : PEnv K mg} {H H' : Hp} {a : Addr} {zs : List Score} (h : StsAt T H a zs) (s : Same H H') : StsAt T H' a zs := let ⟨as, h1, h2⟩ := h; ⟨as, s _ _ h1, h2.imp fun _ _ q => q.same s⟩

theorem sum_cast (l : List Nat) : (l.map fun (n : Nat) => (n : Int)).sum = ((l.sum : Nat) : Int) := by
  induction l with
  | nil => rfl
  | cons a l ih =>
    rw [List.map_cons, List.sum_cons, List.sum_cons, ih]
    rfl
theorem vN_append (a b : List Nat) : vN (a ++ b) = vN a ++ vN b := by simp [vN]

def sp_standings (T : PEnv K mg) : Sp := fun vs H Q _ => ∃ (a : Addr) (s : Lst), vs = [.ref a] ∧ LstAt T H a s ∧ LOk s ∧ ∀ g H', Same H H' → H g = none → StsAt T H' g (s.words.map (scoreWord s)) → Q (.ref g) H'
theorem sc_standings : FnScope ["word_list", "word"] ["word_list"] (defScope s_standings) := ⟨rfl, rfl, rfl, by decide +kernel, rfl, by decide +kernel, by decide +kernel⟩
theorem ok_standings (T : PEnv K mg) {P : Program} {w : World} {base : Heap} : FnOk P w K mg base CX0 6 T.standings.f T.standings.fd ["word_list"] (sp_standings T) := by
  refine T.standings.F.ok sc_standings (fun vs H Q E h => ?_) (fun cdv A outer s H vs Q E hr h => ?_)
  · obtain ⟨a, s_, rfl, _⟩ := h
    rfl
  · obtain ⟨a, s_, rfl, hl, ok, k⟩ := h
    refine ⟨_, (pss_one (ps_ret (pe_lc (own := [("word", 1)]) (g := gName 1) (tt := tYes) rfl sc_standings.nd (pi_list (pe_fld (pv 0) rfl)) (blkOk_by (own := [("word", 1)]) (N := ["word_list", "word"]) (sc := defScope s_standings) (by decide +kernel)) (fun _ _ _ _ _ => (pg_name (i := 1) sc_standings.nd rfl (Or.inl rfl))) (fun _ _ _ _ _ => pts_nil) (fun _ _ _ _ _ => (pe_call (ok_standing_of T) (hr.mono (by decide)) rfl T.standing_of.g T.standing_of.F.kp T.standing_of.b .nil pass0 (pa_cons (pv 0) (pa_cons (pv 1) pa_nil))))))), ?_⟩
    obtain ⟨dx, wa, pa, ha, ⟨as, hwa, hal⟩, hpa⟩ := id hl
    have hlen := ok.wmost
    refine ⟨_, rfl, _, _, _, _, _, rfl, ha, T.WordList.cl, T.WordList_n_words, WordList_l_words, wa, rfl, ⟨_, SqL.of hwa⟩, fun D hD => ?_⟩
    refine lc_list (K := K) (a := wa) (xs := vR as) (fun i H' => Same H H' ∧ StsAt T H' D ((s_.words.take i).map (scoreWord s_))) ⟨same_upd hD, [], upd_same, AllAt.nil⟩ (fun i H' _ q => SqL.of (q.1 _ _ hwa)) (fun i y H1 hi q => ?_) fun H' q => ?_
    · obtain ⟨sm, bs, hD1, hb1⟩ := q
      obtain ⟨b, v, rfl, hb, hv, hwd⟩ := hal.at hi
      refine ⟨rfl, lc_yes ⟨_, rfl, _, rfl, a, b, s_, v, rfl, hl.same sm, hwd.same sm, ok.ps, ok.ws v (mem_at hv), fun x H2 s2 nx hx => ?_⟩⟩
      have hD2 := s2 _ _ hD1
      refine ⟨_, hD2, ?_, same_updO (sm.trans s2) hD, bs ++ [x], by rw [upd_same, vR_snoc], ?_⟩
      · rw [vR_length, hb1.len, List.length_map, List.length_take]
        exact small_lt (by omega)
      · rw [take_more hv, List.map_append]
        exact AllAt.snoc (hb1.imp fun _ _ z => (z.same s2).updL hD2) (hx.updL hD2)
    · rw [vR_length, hal.len, List.take_length] at q
      exact k D H' q.1 hD q.2
def sp_with_margins (T : PEnv K mg) : Sp := fun vs H Q _ => ∃ (a : Addr) (s : Lst) (l r : Nat), vs = [.ref a, .int (l : Nat), .int (r : Nat)] ∧ LstAt T H a s ∧ ∀ x H', Same H H' → H x = none → LstAt T H' x (Vahypz.withMargins s l r) → Q (.ref x) H'
theorem sc_with_margins : FnScope ["word_list", "left_margin", "right_margin"] ["word_list", "left_margin", "right_margin"] (defScope s_with_margins) := ⟨rfl, rfl, rfl, by decide +kernel, rfl, by decide +kernel, by decide +kernel⟩
theorem ok_with_margins (T : PEnv K mg) {P : Program} {w : World} {base : Heap} : FnOk P w K mg base CX0 3 T.with_margins.f T.with_margins.fd ["word_list", "left_margin", "right_margin"] (sp_with_margins T) := by
  refine T.with_margins.F.ok sc_with_margins (fun vs H Q E h => ?_) (fun cdv A outer s H vs Q E hr h => ?_)
  · obtain ⟨a, s_, l, r, rfl, _⟩ := h
    rfl
  · obtain ⟨a, s_, l, r, rfl, hl, k⟩ := h
    refine ⟨_, (pss_one (ps_ret (pe_make T.WordList_mk (ok_WordList_init T) (hr.mono (by decide)) rfl T.WordList.g T.WordList_init.b .nil pass0 (pa_cons (pv 1) (pa_cons (pv 2) (pa_cons (pe_fld (pv 0) rfl) (pa_cons (pe_fld (pv 0) rfl) pa_nil))))))), ?_⟩
    obtain ⟨dx, wa, pa, ha, hwa, hpa⟩ := id hl
    refine ⟨_, rfl, _, rfl, _, rfl, _, _, _, _, _, rfl, ha, T.WordList.cl, T.WordList_n_words, WordList_l_words, _, rfl, _, _, _, _, _, rfl, ha, T.WordList.cl, T.WordList_n_patterns, WordList_l_patterns, ?_⟩
    refine fun x dx nx nd _ => ⟨x, dx, _, _, _, _, rfl, upd_same, fun H5 hx kp => ⟨rfl, ?_⟩⟩
    have s5 := Same.made nx nd kp
    exact k x H5 s5 nx ⟨dx, wa, pa, hx, hwa.same s5, hpa.same s5⟩
def sp_margins_tried (T : PEnv K mg) : Sp := fun vs H Q _ => ∃ (a : Addr) (s : Lst), vs = [.ref a] ∧ LstAt T H a s ∧ LOk s ∧ Gives H Q (vN (marginsL s))
theorem sc_margins_tried : FnScope ["word_list", "best", "exact_words", "left_margin", "right_margin", "tried", "wrong", "standing"] ["word_list"] (defScope s_margins_tried) := ⟨rfl, rfl, rfl, by decide +kernel, rfl, by decide +kernel, by decide +kernel⟩
theorem ok_margins_tried (T : PEnv K mg) {P : Program} {w : World} {base : Heap} : FnOk P w K mg base CX0 7 T.margins_tried.f T.margins_tried.fd ["word_list"] (sp_margins_tried T) := by
  refine T.margins_tried.F.ok sc_margins_tried (fun vs H Q E h => ?_) (fun cdv A outer s H vs Q E hr h => ?_)
  · obtain ⟨a, s_, rfl, _⟩ := h
    rfl
  · obtain ⟨a, s_, rfl, hl, ok, k⟩ := h
    refine ⟨_, (pss_cons (ps_set (i := 1) sc_margins_tried.nd rfl (Or.inl rfl) (pe_lst pa_nil))
      (pss_cons (ps_set (i := 2) sc_margins_tried.nd rfl (Or.inl rfl) (pe_lst pa_nil))
      (pss_cons (ps_for PassesOwn.never rfl (pi_range1 (by rfl) T.b_range (pa_cons (pe_op op_add (pe_glob (v := .int 5) rfl T.c_GREATEST_MARGIN.e ⟨_, rfl⟩) pe_int) pa_nil)) (pg_name (i := 3) sc_margins_tried.nd rfl (Or.inl rfl))
        (pss_one (ps_for PassesOwn.never rfl (pi_range1 (by rfl) T.b_range (pa_cons (pe_op op_add (pe_glob (v := .int 5) rfl T.c_GREATEST_MARGIN.e ⟨_, rfl⟩) pe_int) pa_nil)) (pg_name (i := 4) sc_margins_tried.nd rfl (Or.inl rfl))
        (pss_cons (ps_set (i := 5) sc_margins_tried.nd rfl (Or.inl rfl) (pe_call (ok_standings T) (hr.mono (by decide)) rfl T.standings.g T.standings.F.kp T.standings.b .nil pass0 (pa_cons (pe_call (ok_with_margins T) (hr.mono (by decide)) rfl T.with_margins.g T.with_margins.F.kp T.with_margins.b .nil pass0 (pa_cons (pv 0) (pa_cons (pv 3) (pa_cons (pv 4) pa_nil)))) pa_nil)))
      (pss_cons (ps_set (i := 6) sc_margins_tried.nd rfl (Or.inl rfl) (pe_callB (cr_sum rfl) (by rfl) T.b_sum (by decide +kernel) (pa_cons (pe_lc (own := [("standing", 7)]) (g := gName 7) (tt := tYes) rfl sc_margins_tried.nd (pi_list (pv 5)) (blkOk_by (own := [("standing", 7)]) (N := ["word_list", "best", "exact_words", "left_margin", "right_margin", "tried", "wrong", "standing"]) (sc := defScope s_margins_tried) (by decide +kernel)) (fun _ _ _ _ _ => (pg_name (i := 7) sc_margins_tried.nd rfl (Or.inl rfl))) (fun _ _ _ _ _ => pts_nil) (fun _ _ _ _ _ => (pe_op op_add (pe_fldK (K := K) rfl (pv 7) rfl) (pe_fldK (K := K) rfl (pv 7) rfl)))) pa_nil)))
      (pss_cons (ps_expr (pe_bm PySem.F.plainAttrs_list PySem.F.slot_list_append PySem.F.type_list_append mt_append (pv 2) (pa_cons (pe_callB call_len (by rfl) T.b_len (by decide +kernel) (pa_cons (pe_lc (own := [("standing", 7)]) (g := gName 7) rfl sc_margins_tried.nd (pi_list (pv 5)) (blkOk_by (own := [("standing", 7)]) (N := ["word_list", "best", "exact_words", "left_margin", "right_margin", "tried", "wrong", "standing"]) (sc := defScope s_margins_tried) (by decide +kernel)) (fun _ _ _ _ _ => (pg_name (i := 7) sc_margins_tried.nd rfl (Or.inl rfl))) (fun _ _ _ _ _ => (pts_one (pt_val (pe_meth0 (pv 7) T.Standing.cl T.Standing_is_exact.at_ (ok_Standing_is_exact T) (hr.mono (by decide)) T.Standing_is_exact.b .nil pass0)))) (fun _ _ _ _ _ => (pv 7))) pa_nil)) pa_nil)))
      (pss_one (ps_if (PW.pt (pw_or (pt_cmpR op_eq (pe_callB call_len (by rfl) T.b_len (by decide +kernel) (pa_cons (pv 1) pa_nil)) pe_int (nomark _)) (pw_or1 (pt_cmpR op_lt (pv 6) (pe_ix ix_list (pv 1) pe_int (fun _ _ => rfl)) (nomark _)))))
        (pss_one (ps_set (i := 1) sc_margins_tried.nd rfl (Or.inl rfl) (pe_lst (pa_cons (pv 3) (pa_cons (pv 4) (pa_cons (pv 6) pa_nil))))))
        pss_nil))))))))
      (pss_one (ps_ret (pe_op op_cat (pv 1) (pv 2))))))), ?_⟩
    refine ⟨Nat.zero_le _, fun B hB => ⟨Nat.zero_le _, fun X hX => ⟨_, _, rfl, rfl, _, rfl, by decide, by decide, ?_⟩⟩⟩
    have hX0 : H X = none := (same_upd hB).free hX
    have hBX : B ≠ X := ne_of_none upd_same hX
    refine for_it (n := 6) walk_range (fun i σ H' => ∃ B u v w z, σ = [some (.ref a), some (.ref B), some (.ref X), u, v, w, z, none] ∧ Same H H' ∧ H' B = some (.lst (vN (bestL s_ (6 * i)))) ∧ H' X = some (.lst (vN (exactsL s_ (6 * i)))) ∧ B ≠ X ∧ H B = none) ⟨B, none, none, none, none, rfl, same_updO (same_upd hB) hX0, by rw [upd_ne hBX]; exact upd_same, upd_same, hBX, hB⟩ (fun _ _ _ _ _ => trivial) ?_ ?_
    · rintro i y σ H1 H1' hi ⟨B, u, v, w, z, rfl, sm, hB1, hX1, nBX, hB0⟩ e
      obtain ⟨rfl, rfl⟩ := rng0 e
      refine ⟨_, _, rfl, rfl, _, rfl, by decide, by decide, ?_⟩
      refine for_it (n := 6) walk_range (fun j σ H' => ∃ B v w z, σ = [some (.ref a), some (.ref B), some (.ref X), some (.int (i : Nat)), v, w, z, none] ∧ Same H H' ∧ H' B = some (.lst (vN (bestL s_ (6 * i + j)))) ∧ H' X = some (.lst (vN (exactsL s_ (6 * i + j)))) ∧ B ≠ X ∧ H B = none) ⟨B, v, w, z, rfl, sm, hB1, hX1, nBX, hB0⟩ (fun _ _ _ _ _ => trivial) ?_ ?_
      · rintro j y σ H2 H2' hj ⟨B, v, w, z, rfl, sm, hB1, hX1, nBX, hB0⟩ e
        obtain ⟨rfl, rfl⟩ := rng0 e
        have hm := all_at i j hi hj
        have ok2 : LOk (Vahypz.withMargins s_ i j) := ⟨by show i ≤ 5; omega, by show j ≤ 5; omega, ok.wmost, ok.pmost, ok.ws, ok.ps⟩
        have w24 := ok.wmost
        refine ⟨_, rfl, _, rfl, _, rfl, a, s_, i, j, rfl, hl.same sm, fun x H3 s3 nx hx => ⟨x, _, rfl, hx, ok2, fun G H4 s4 nG ⟨gs, hG, hgs⟩ => ?_⟩⟩
        have sm4 := sm.trans (s3.trans s4)
        have hB4 := (s3.trans s4) _ _ hB1
        have hX4 := (s3.trans s4) _ _ hX1
        have zlen : ((Vahypz.withMargins s_ i j).words.map (scoreWord (Vahypz.withMargins s_ i j))).length ≤ 24 := by
          rw [List.length_map]
          exact ok2.wmost
        have esum : (((Vahypz.withMargins s_ i j).words.map (scoreWord (Vahypz.withMargins s_ i j))).map fun z => z.faults + z.misses).sum = wrongL s_ (i, j) := wrong_sum _
        have elen : (((Vahypz.withMargins s_ i j).words.map (scoreWord (Vahypz.withMargins s_ i j))).filter fun z => z.faults == 0 && z.misses == 0).length = exactL s_ (i, j) := exact_len _
        generalize (Vahypz.withMargins s_ i j).words.map (scoreWord (Vahypz.withMargins s_ i j)) = zs at *
        refine nm_seq (seq_cb ?_)
        refine ⟨_, rfl, G, rfl, ⟨_, SqL.of hG⟩, fun D hD => ?_⟩
        refine lc_list (K := K) (a := G) (xs := vR gs) (fun i H' => Same H4 H' ∧ H' D = some (.lst (vN ((zs.take i).map fun z => z.faults + z.misses)))) ⟨same_upd hD, upd_same⟩ (fun i H' _ q => SqL.of (q.1 _ _ hG)) (fun q y H5 hq p => ?_) fun H5 p => ?_
        · obtain ⟨b, c, rfl, hb, hc, dz, hz⟩ := hgs.at hq
          refine ⟨rfl, lc_yes ⟨_, rfl, _, _, _, _, _, rfl, p.1 _ _ hz, T.Standing.cl, T.Standing_n_faults, Standing_l_faults, _, rfl, _, _, _, _, _, rfl, p.1 _ _ hz, T.Standing.cl, T.Standing_n_misses, Standing_l_misses, _, _, rfl, rfl, _, p.2, ?_, same_updO p.1 hD, ?_⟩⟩
          · rw [vN_length, List.length_map, List.length_take]
            exact small_lt (by omega)
          · rw [upd_same, take_more hc, List.map_append, List.map_cons, List.map_nil, vN_snoc]
            rfl
        rw [vR_length, hgs.len, List.take_length] at p
        obtain ⟨s5, hD5⟩ := p
        refine ⟨D, (zs.map fun z => z.faults + z.misses).map (fun (n : Nat) => (n : Int)), rfl, by rw [← vN_map]; exact SqL.of hD5, ?_⟩
        rw [sum_cast, esum]
        have sm5 := sm4.trans s5
        have hB5 := s5 _ _ hB4
        have hX5 := s5 _ _ hX4
        have hG5 := s5 _ _ hG
        refine ⟨_, rfl, .inl ⟨rfl, _, SqL.of hX5⟩, _, rfl, G, rfl, ⟨_, SqL.of hG5⟩, fun D2 hD2 => ?_⟩
        refine lc_list (K := K) (a := G) (xs := vR gs) (fun i H' => Same H5 H' ∧ ∃ bs, H' D2 = some (.lst (vR bs)) ∧ bs.length = ((zs.take i).filter fun z => z.faults == 0 && z.misses == 0).length) ⟨same_upd hD2, [], upd_same, rfl⟩ (fun i H' _ q => SqL.of (q.1 _ _ hG5)) (fun q y H6 hq p => ?_) fun H6 p => ?_
        · obtain ⟨b, c, rfl, hb, hc, dz, hz⟩ := hgs.at hq
          obtain ⟨p1, bs, p2, p3⟩ := p
          have hz6 := p1 _ _ (s5 _ _ hz)
          refine ⟨rfl, _, rfl, _, _, _, rfl, hz6, Standing_m_is_exact, b, c, rfl, ⟨dz, hz6⟩, _, rfl, ?_⟩
          rw [take_more hc, List.filter_append]
          refine ifb (fun h1 => ?_) (fun h1 => ?_)
          · refine ⟨_, rfl, _, p2, ?_, same_updO p1 hD2, bs ++ [b], by rw [upd_same, vR_snoc], ?_⟩
            · rw [vR_length, p3]
              exact small_lt (Nat.lt_of_le_of_lt (List.length_filter_le _ _) (by rw [List.length_take]; omega))
            · rw [List.length_append, p3, List.length_append]
              simp [h1]
          · refine ⟨p1, bs, p2, ?_⟩
            rw [p3, List.length_append]
            simp [h1]
        rw [vR_length, hgs.len, List.take_length] at p
        obtain ⟨s6, bs, hD6, hbs⟩ := p
        have sm6 := sm5.trans s6
        have hB6 := s6 _ _ hB5
        have hX6 := s6 _ _ hX5
        have xlen : (exactsL s_ (6 * i + j)).length ≤ 36 := by
          unfold exactsL
          rw [List.length_map, List.length_take, all_margins]
          omega
        refine ⟨_, _, rfl, .inl ⟨_, SqL.of hD6, rfl⟩, _, _, _, rfl, rfl, hX6, ?_, ?_⟩
        · rw [vN_length]
          exact small_lt (by omega)
        rw [vR_length, hbs, elen, ← vN_snoc, ← exactsL_step hm]
        have hB7 : upd H6 X (.lst (vN (exactsL s_ (6 * i + j + 1)))) B = some (.lst (vN (bestL s_ (6 * i + j)))) := by rw [upd_ne nBX]; exact hB6
        have sm7 : Same H (upd H6 X (.lst (vN (exactsL s_ (6 * i + j + 1))))) := same_updO sm6 hX0
        have hX7 : upd H6 X (.lst (vN (exactsL s_ (6 * i + j + 1)))) X = some (.lst (vN (exactsL s_ (6 * i + j + 1)))) := upd_same
        generalize upd H6 X (.lst (vN (exactsL s_ (6 * i + j + 1)))) = H7 at *
        have newB : bestL s_ (6 * i + j + 1) = [i, j, wrongL s_ (i, j)] → tAsg (tLst (tCons (tVar 3) (tCons (tVar 4) (tCons (tVar 6) tNil)))) (gName 1) { nx := fun σ H' => ∃ B v w z, σ = [some (.ref a), some (.ref B), some (.ref X), some (.int (i : Nat)), v, w, z, none] ∧ Same H H' ∧ H' B = some (.lst (vN (bestL s_ (6 * i + (j + 1))))) ∧ H' X = some (.lst (vN (exactsL s_ (6 * i + (j + 1))))) ∧ B ≠ X ∧ H B = none, rt := Q } [some (.ref a), some (.ref B), some (.ref X), some (.int (i : Nat)), some (.int (j : Nat)), some (.ref G), some (.int (wrongL s_ (i, j) : Nat)), none] H7 := by
          intro e
          refine ⟨_, rfl, _, rfl, _, rfl, Nat.le_of_ble_eq_true rfl, fun B2 hB2 => ⟨B2, _, _, _, rfl, same_updO sm7 (sm7.free hB2), ?_, (same_upd hB2) _ _ hX7, (ne_of_none hX7 hB2).symm, sm7.free hB2⟩⟩
          rw [upd_same]
          show _ = some (HO.lst (vN (bestL s_ (6 * i + j + 1))))
          rw [e]
          rfl
        refine ⟨_, rfl, _, _, rfl, .inl ⟨_, SqL.of hB7, rfl⟩, rfl, _, rfl, ?_⟩
        rw [vN_length, eq_int0]
        refine ifd (fun h1 => ?_) (fun h1 => ?_)
        · have hk0 : 6 * i + j = 0 := by
            apply Decidable.byContradiction
            intro hk
            rw [bestL_pos (by omega)] at h1
            cases h1
          have hi0 : i = 0 := by omega
          have hj0 : j = 0 := by omega
          refine newB ?_
          rw [hi0, hj0]
          exact bestL_first s_
        · have hk0 : 0 < 6 * i + j := Nat.pos_of_ne_zero fun z => h1 (by rw [z]; rfl)
          refine ⟨_, rfl, _, rfl, B, _, _, _, rfl, rfl, SqL.of hB7, atI_vN (i := 2) rfl (by rw [bestL_pos hk0]; rfl), _, _, rfl, rfl, _, rfl, ifd (fun h2 => ?_) (fun h2 => ?_)⟩
          · refine newB ?_
            rw [bestL_next hm hk0, if_pos (by omega)]
          · refine ⟨B, _, _, _, rfl, sm7, ?_, hX7, nBX, hB0⟩
            show _ = some (HO.lst (vN (bestL s_ (6 * i + j + 1))))
            rw [bestL_next hm hk0, if_neg (by omega)]
            exact hB7
      · rintro σ H2 ⟨B, v, w, z, rfl, sm, hB1, hX1, nBX, hB0⟩
        exact ⟨B, _, v, w, z, rfl, sm, hB1, hX1, nBX, hB0⟩
    · rintro σ H2 ⟨B, u, v, w, z, rfl, sm, hB1, hX1, nBX, hB0⟩
      refine ⟨_, rfl, _, rfl, B, X, _, _, rfl, rfl, hB1, hX1, ?_, fun p hp => ?_⟩
      · rw [vN_length, vN_length, bestL_pos (by decide)]
        unfold exactsL
        rw [List.length_map, List.length_take, all_margins]
        exact small_line (Nat.le_of_ble_eq_true rfl)
      · refine k p _ (same_updO sm (sm.free hp)) (sm.free hp) ?_
        rw [upd_same, ← vN_append]
        show some (HO.lst (vN (bestL s_ 36 ++ exactsL s_ 36))) = _
        rw [marginsL_end]
end
end PwX

/-! ## PwChg -/
namespace Pw
open VahypBase Vahypa
/-! ### lists changed -/
theorem put_word (w : Word) : ∀ ws : List Word, Vahypz.putWord w ws = match ws.findIdx? (fun v => v.x == w.x) with
    | none => ws ++ [w]
    | some i => ws.set i w
  | [] => rfl
  | v :: r => by
    rw [Vahypz.putWord, List.findIdx?_cons]
    by_cases h : v.x = w.x
    · rw [if_pos h, if_pos (by simpa using h)]
      rfl
    · rw [if_neg h, if_neg (by simpa using h), put_word w r]
      cases r.findIdx? (fun v => v.x == w.x) <;> rfl
theorem put_pat (p : Pat) : ∀ qs : List Pat, Vahypz.putPat p qs = match qs.findIdx? (sameP p) with
    | none => qs ++ [p]
    | some i => qs.set i p
  | [] => rfl
  | q :: r => by
    rw [Vahypz.putPat, List.findIdx?_cons]
    have e : Vahypz.samePlace p q = sameP p q := rfl
    rw [e]
    by_cases h : sameP p q = true
    · rw [if_pos h, if_pos h]
      rfl
    · rw [if_neg h, if_neg h, put_pat p r]
      cases r.findIdx? (sameP p) <;> rfl
/-! ### touched, needless, slim -/
def partsL (s : Lst) : List (List Nat) := s.words.map fun w => parts s w.x
theorem touched_cond (s t : Lst) (x : Bytes) : (t.words.any (fun v => v.x == x) && parts s x != parts t x) = if (t.words.findIdx? fun v => v.x == x) = none then false else !(parts s x == parts t x) := by
  rw [← List.findIdx?_isSome]
  cases t.words.findIdx? fun v => v.x == x <;> rfl
def isTouched (s t : Lst) (x : Bytes) : Bool := t.words.any (fun v => v.x == x) && parts s x != parts t x
def touchedTo (s t : Lst) (i : Nat) : List Nat := ((s.words.take i).zipIdx.filter fun w => isTouched s t w.1.x).map fun w => w.2
theorem touched_eq (s t : Lst) : touchedTo s t s.words.length = Vahypz.touched s t := by
  unfold touchedTo
  rw [List.take_length]
  rfl
theorem touchedTo_step {s t : Lst} {i : Nat} {w : Word} (h : s.words[i]? = some w) : touchedTo s t (i + 1) = touchedTo s t i ++ if isTouched s t w.x = true then [i] else [] := by
  unfold touchedTo
  have hl : i < s.words.length := (List.getElem?_eq_some_iff.mp h).1
  rw [take_more' h, List.zipIdx_append, List.filter_append, List.map_append, List.length_take, Nat.min_eq_left (Nat.le_of_lt hl)]
  congr 1
  show ((List.filter _ [(w, 0 + i)]).map fun w => w.2) = _
  rw [Nat.zero_add]
  cases z : isTouched s t w.x <;> simp [z]
/-- no listed word is parted otherwise when the words are the same: all are parted as before -/
theorem touched_none {s u : Lst} (h : u.words = s.words) : (Vahypz.touched s u).isEmpty = (partsL u == partsL s) := by
  rw [Bool.eq_iff_iff, beq_iff_eq]
  have e : (Vahypz.touched s u).isEmpty = true ↔ ∀ w ∈ s.words, parts s w.x = parts u w.x := by
    unfold Vahypz.touched
    rw [List.isEmpty_iff, List.map_eq_nil_iff, List.filter_eq_nil_iff]
    constructor
    · intro k w hw
      obtain ⟨i, hi, e⟩ := List.getElem_of_mem hw
      have := k (w, i) (by rw [List.mem_zipIdx_iff_getElem?]; rw [List.getElem?_eq_getElem hi, e])
      rw [h] at this
      have ha : s.words.any (fun v => v.x == w.x) = true := List.any_eq_true.mpr ⟨w, hw, by simp⟩
      dsimp only at this
      rw [ha, Bool.true_and] at this
      simpa using this
    · rintro k ⟨w, i⟩ hw
      have hm : w ∈ s.words := by
        rw [List.mem_zipIdx_iff_getElem?] at hw
        exact List.mem_of_getElem? hw
      simp [k w hm]
  rw [e]
  unfold partsL
  rw [h]
  constructor
  · intro k
    exact List.map_congr_left fun w hw => (k w hw).symm
  · intro k w hw
    exact (List.map_inj_left.mp k w hw).symm
def needlessTo (s : Lst) (k : Nat) : List Nat := (List.range k).filter fun i => partsL (Vahypz.dropPat s i) == partsL s
theorem needless_eq (s : Lst) : needlessTo s s.pats.length = Vahypz.needless s := by
  unfold needlessTo Vahypz.needless
  apply List.filter_congr
  intro i _
  exact (touched_none (s := s) (u := Vahypz.dropPat s i) rfl).symm
theorem needlessTo_step (s : Lst) (k : Nat) : needlessTo s (k + 1) = needlessTo s k ++ if (partsL (Vahypz.dropPat s k) == partsL s) = true then [k] else [] := by
  unfold needlessTo
  rw [List.range_succ, List.filter_append]
  congr 1
  cases z : (partsL (Vahypz.dropPat s k) == partsL s) <;> simp [z]
theorem slimBy_step {s t : Lst} {f i : Nat} (ht : t.words = s.words) (h : i < t.pats.length) : Vahypz.slimBy s (f + 1) i t = if (partsL (Vahypz.dropPat t i) == partsL s) = true then Vahypz.slimBy s f i (Vahypz.dropPat t i) else Vahypz.slimBy s f (i + 1) t := by
  rw [Vahypz.slimBy, if_neg (by omega)]
  dsimp only
  rw [touched_none (s := s) (u := Vahypz.dropPat t i) ht]
theorem slimBy_stop {s t : Lst} {f i : Nat} (h : t.pats.length ≤ i) : Vahypz.slimBy s f i t = t := by
  cases f with
  | zero => rfl
  | succ f => rw [Vahypz.slimBy, if_pos h]
theorem drop_len {t : Lst} {i : Nat} (h : i < t.pats.length) : (Vahypz.dropPat t i).pats.length = t.pats.length - 1 := by
  show (t.pats.eraseIdx i).length = _
  rw [List.length_eraseIdx, if_pos h]
theorem slimBy_words : ∀ (s : Lst) (f i : Nat) (t : Lst), (Vahypz.slimBy s f i t).words = t.words ∧ (Vahypz.slimBy s f i t).l = t.l ∧ (Vahypz.slimBy s f i t).r = t.r ∧ (Vahypz.slimBy s f i t).pats.length ≤ t.pats.length ∧ ∀ p ∈ (Vahypz.slimBy s f i t).pats, p ∈ t.pats
  | s, 0, i, t => ⟨rfl, rfl, rfl, Nat.le_refl _, fun _ h => h⟩
  | s, f + 1, i, t => by
    rw [Vahypz.slimBy]
    split
    · exact ⟨rfl, rfl, rfl, Nat.le_refl _, fun _ h => h⟩
    · dsimp only
      split
      · obtain ⟨a, b, c, d, e⟩ := slimBy_words s f i (Vahypz.dropPat t i)
        refine ⟨a, b, c, Nat.le_trans d ?_, fun p hp => ?_⟩
        · show (t.pats.eraseIdx i).length ≤ _
          exact List.length_eraseIdx_le ..
        · exact List.mem_of_mem_eraseIdx (e p hp)
      · exact slimBy_words s f (i + 1) t
/-- the program's outer loop: from a list t, with the number of patterns it had before -/
theorem slimAll_step {s t : Lst} {f : Nat} : Vahypz.slimAll s (f + 1) t = if (Vahypz.slimBy s t.pats.length 0 t).pats.length = t.pats.length then t else Vahypz.slimAll s f (Vahypz.slimBy s t.pats.length 0 t) := rfl
end Pw
namespace Pw
open VahypBase Vahypa
theorem slimBy_same : ∀ (s : Lst) (f i : Nat) (t : Lst), (Vahypz.slimBy s f i t).pats.length = t.pats.length → Vahypz.slimBy s f i t = t
  | s, 0, i, t, _ => rfl
  | s, f + 1, i, t, h => by
    rw [Vahypz.slimBy] at h ⊢
    split at h
    · rename_i h1
      rw [if_pos h1]
    · rename_i h1
      rw [if_neg h1]
      dsimp only at h ⊢
      split at h
      · rename_i h2
        have := (slimBy_words s f i (Vahypz.dropPat t i)).2.2.2.1
        rw [drop_len (by omega)] at this
        omega
      · rename_i h2
        rw [if_neg h2]
        exact slimBy_same s f (i + 1) t h
theorem LOk.drop {s : Lst} (h : LOk s) (i : Nat) : LOk (Vahypz.dropPat s i) := ⟨h.l5, h.r5, h.wmost, Nat.le_trans (List.length_eraseIdx_le ..) h.pmost, h.ws, fun p hp => h.ps p (List.mem_of_mem_eraseIdx hp)⟩
theorem LOk.dropW {s : Lst} (h : LOk s) (i : Nat) : LOk (Vahypz.dropWord s i) := ⟨h.l5, h.r5, Nat.le_trans (List.length_eraseIdx_le ..) h.wmost, h.pmost, fun p hp => h.ws p (List.mem_of_mem_eraseIdx hp), h.ps⟩
theorem LOk.slim {s t : Lst} (h : LOk t) (f i : Nat) : LOk (Vahypz.slimBy s f i t) := by
  obtain ⟨a, b, c, d, e⟩ := slimBy_words s f i t
  exact ⟨by rw [b]; exact h.l5, by rw [c]; exact h.r5, by rw [a]; exact h.wmost, Nat.le_trans d h.pmost, by rw [a]; exact h.ws, fun p hp => h.ps p (e p hp)⟩
/-- the program's outer loop -/
def SlimAt (s t : Lst) (before : Nat) : Prop := (t.pats.length < before ∧ ∃ f, Vahypz.slimAll s f t = Vahypz.slim s ∧ t.pats.length < f) ∨ (before = t.pats.length ∧ t = Vahypz.slim s)
theorem SlimAt.start (s : Lst) : SlimAt s s (s.pats.length + 1) := .inl ⟨Nat.lt_succ_self _, _, rfl, Nat.lt_succ_self _⟩
theorem SlimAt.stop {s t : Lst} {n : Nat} (h : SlimAt s t n) (k : ¬ t.pats.length < n) : t = Vahypz.slim s := by
  rcases h with ⟨h, _⟩ | ⟨_, h⟩
  · exact absurd h k
  · exact h
def slimM (t : Lst) (n : Nat) : Nat := if t.pats.length < n then t.pats.length + 1 else 0
theorem SlimAt.step {s t : Lst} {n : Nat} (h : SlimAt s t n) (k : t.pats.length < n) : SlimAt s (Vahypz.slimBy s t.pats.length 0 t) t.pats.length ∧ slimM (Vahypz.slimBy s t.pats.length 0 t) t.pats.length < slimM t n := by
  rcases h with ⟨_, f, h1, h2⟩ | ⟨h, _⟩
  · obtain ⟨f, rfl⟩ : ∃ g, f = g + 1 := ⟨f - 1, by omega⟩
    rw [slimAll_step] at h1
    have hle := (slimBy_words s t.pats.length 0 t).2.2.2.1
    unfold slimM
    rw [if_pos k]
    by_cases e : (Vahypz.slimBy s t.pats.length 0 t).pats.length = t.pats.length
    · rw [if_pos e] at h1
      have e2 := slimBy_same _ _ _ _ e
      rw [e2, if_neg (Nat.lt_irrefl _)]
      exact ⟨.inr ⟨rfl, h1⟩, Nat.zero_lt_succ _⟩
    · rw [if_neg e] at h1
      refine ⟨.inl ⟨by omega, f, h1, by omega⟩, ?_⟩
      split <;> omega
  · omega
end Pw

/-! ## PwD17 -/
namespace PwX
open PySem PySem.Spec PyProof.Rows L2
open VahypBase Vahypa Pw
section
variable {K : PySem.W.Frag} {mg : Str → Option Value}
abbrev numV : Option Nat → V
  | none => .non
  | some i => .int (i : Nat)
theorem cut_toV (xs : List V) (j : Nat) : cutV xs none (some (j : Int)) = xs.take j := by
  unfold cutV
  rw [HT.sIx_nat, HT.sIx_none, List.drop_zero, Nat.sub_zero]
  by_cases h : j ≤ xs.length
  · rw [Nat.min_eq_left h]
  · rw [Nat.min_eq_right (by omega), List.take_length, List.take_of_length_le (by omega)]
theorem cut_fromV (xs : List V) (j : Nat) : cutV xs (some (j : Int)) none = xs.drop j := by
  unfold cutV
  rw [HT.sIx_nat, HT.sIx_none]
  by_cases h : j ≤ xs.length
  · rw [Nat.min_eq_left h]
    exact List.take_of_length_le (by rw [List.length_drop]; omega)
  · rw [Nat.min_eq_right (by omega), List.drop_length, List.drop_eq_nil_of_le (by omega)]
    simp
theorem vR_take (as : List Addr) (j : Nat) : (vR as).take j = vR (as.take j) := by unfold vR; rw [List.map_take]
theorem vR_drop (as : List Addr) (j : Nat) : (vR as).drop j = vR (as.drop j) := by unfold vR; rw [List.map_drop]
theorem vR_app (as bs : List Addr) : vR as ++ vR bs = vR (as ++ bs) := by unfold vR; rw [List.map_append]
theorem vR_set (as : List Addr) (i : Nat) (a : Addr) : (vR as).set i (.ref a) = vR (as.set i a) := by unfold vR; rw [List.map_set]
theorem vR_erase (as : List Addr) (j : Nat) : vR (as.take j) ++ vR (as.drop (j + 1)) = vR (as.eraseIdx j) := by rw [vR_app, ← List.eraseIdx_eq_take_drop_succ]
def ItemAt (T : PEnv K mg) (H : Hp) (a : Addr) : Vahypz.Item → Prop
  | .word w => WordAt T H a w
  | .pat p => PatAt T H a p

def sp_with_words (T : PEnv K mg) : Sp := fun vs H Q _ => ∃ (a wa : Addr) (s : Lst) (ws : List Word), vs = [.ref a, .ref wa] ∧ LstAt T H a s ∧ WordsAt T H wa ws ∧ ∀ x H', Same H H' → H x = none → LstAt T H' x { s with words := ws } → Q (.ref x) H'
theorem sc_with_words : FnScope ["word_list", "words"] ["word_list", "words"] (defScope s_with_words) := ⟨rfl, rfl, rfl, by decide +kernel, rfl, by decide +kernel, by decide +kernel⟩
theorem ok_with_words (T : PEnv K mg) {P : Program} {w : World} {base : Heap} : FnOk P w K mg base CX0 3 T.with_words.f T.with_words.fd ["word_list", "words"] (sp_with_words T) := by
  refine T.with_words.F.ok sc_with_words (fun vs H Q E h => ?_) (fun cdv A outer s H vs Q E hr h => ?_)
  · obtain ⟨a, wa, s_, ws, rfl, _⟩ := h
    rfl
  · obtain ⟨a, wa, s_, ws, rfl, hl, hw, k⟩ := h
    refine ⟨_, (pss_one (ps_ret (pe_make T.WordList_mk (ok_WordList_init T) (hr.mono (by decide)) rfl T.WordList.g T.WordList_init.b .nil pass0 (pa_cons (pe_fld (pv 0) rfl) (pa_cons (pe_fld (pv 0) rfl) (pa_cons (pv 1) (pa_cons (pe_fld (pv 0) rfl) pa_nil))))))), ?_⟩
    obtain ⟨dx, wa0, pa, ha, hwa, hpa⟩ := id hl
    refine ⟨_, rfl, _, _, _, _, _, rfl, ha, T.WordList.cl, T.WordList_n_left_margin, WordList_l_left_margin, _, rfl, _, _, _, _, _, rfl, ha, T.WordList.cl, T.WordList_n_right_margin, WordList_l_right_margin, _, rfl, _, rfl, _, _, _, _, _, rfl, ha, T.WordList.cl, T.WordList_n_patterns, WordList_l_patterns, ?_⟩
    refine fun x dx nx nd _ => ⟨x, dx, _, _, _, _, rfl, upd_same, fun H5 hx kp => ⟨rfl, ?_⟩⟩
    have s5 := Same.made nx nd kp
    exact k x H5 s5 nx ⟨dx, wa, pa, hx, hw.same s5, hpa.same s5⟩
def sp_with_patterns (T : PEnv K mg) : Sp := fun vs H Q _ => ∃ (a pa : Addr) (s : Lst) (ps : List Pat), vs = [.ref a, .ref pa] ∧ LstAt T H a s ∧ PatsAt T H pa ps ∧ ∀ x H', Same H H' → H x = none → LstAt T H' x { s with pats := ps } → Q (.ref x) H'
theorem sc_with_patterns : FnScope ["word_list", "patterns"] ["word_list", "patterns"] (defScope s_with_patterns) := ⟨rfl, rfl, rfl, by decide +kernel, rfl, by decide +kernel, by decide +kernel⟩
theorem ok_with_patterns (T : PEnv K mg) {P : Program} {w : World} {base : Heap} : FnOk P w K mg base CX0 3 T.with_patterns.f T.with_patterns.fd ["word_list", "patterns"] (sp_with_patterns T) := by
  refine T.with_patterns.F.ok sc_with_patterns (fun vs H Q E h => ?_) (fun cdv A outer s H vs Q E hr h => ?_)
  · obtain ⟨a, wa, s_, ws, rfl, _⟩ := h
    rfl
  · obtain ⟨a, pa, s_, ps, rfl, hl, hp, k⟩ := h
    refine ⟨_, (pss_one (ps_ret (pe_make T.WordList_mk (ok_WordList_init T) (hr.mono (by decide)) rfl T.WordList.g T.WordList_init.b .nil pass0 (pa_cons (pe_fld (pv 0) rfl) (pa_cons (pe_fld (pv 0) rfl) (pa_cons (pe_fld (pv 0) rfl) (pa_cons (pv 1) pa_nil))))))), ?_⟩
    obtain ⟨dx, wa, pa0, ha, hwa, hpa⟩ := id hl
    refine ⟨_, rfl, _, _, _, _, _, rfl, ha, T.WordList.cl, T.WordList_n_left_margin, WordList_l_left_margin, _, rfl, _, _, _, _, _, rfl, ha, T.WordList.cl, T.WordList_n_right_margin, WordList_l_right_margin, _, rfl, _, _, _, _, _, rfl, ha, T.WordList.cl, T.WordList_n_words, WordList_l_words, _, rfl, ?_⟩
    refine fun x dx nx nd _ => ⟨x, dx, _, _, _, _, rfl, upd_same, fun H5 hx kp => ⟨rfl, ?_⟩⟩
    have s5 := Same.made nx nd kp
    exact k x H5 s5 nx ⟨dx, wa, pa, hx, hwa.same s5, hp.same s5⟩
def sp_replaced_or_added (T : PEnv K mg) : Sp := fun vs H Q _ => ∃ (a e : Addr) (as : List Addr) (o : Option Nat), vs = [.ref a, numV o, .ref e] ∧ H a = some (.lst (vR as)) ∧ as.length ≤ 1000 ∧ (∀ i, o = some i → i < as.length) ∧ Gives H Q (vR (match o with
  | none => as ++ [e]
  | some i => as.set i e))
theorem sc_replaced_or_added : FnScope ["entries", "number", "entry", "changed"] ["entries", "number", "entry"] (defScope s_replaced_or_added) := ⟨rfl, rfl, rfl, by decide +kernel, rfl, by decide +kernel, by decide +kernel⟩
theorem ok_replaced_or_added (T : PEnv K mg) {P : Program} {w : World} {base : Heap} : FnOk P w K mg base CX0 1 T.replaced_or_added.f T.replaced_or_added.fd ["entries", "number", "entry"] (sp_replaced_or_added T) := by
  refine T.replaced_or_added.F.ok sc_replaced_or_added (fun vs H Q E h => ?_) (fun cdv A outer s H vs Q E hr h => ?_)
  · obtain ⟨a, e, as, o, rfl, _⟩ := h
    rfl
  · obtain ⟨a, e, as, o, rfl, ha, hl, ho, k⟩ := h
    refine ⟨_, (pss_cons (ps_set (i := 3) sc_replaced_or_added.nd rfl (Or.inl rfl) (pe_callTy call_list_of (by rfl) T.b_list (by decide +kernel) (pa_cons (pv 0) pa_nil)))
      (pss_cons (ps_if (pt_cmpR op_isN (pv 1) pe_non (nomark _))
        (pss_one (ps_expr (pe_bm PySem.F.plainAttrs_list PySem.F.slot_list_append PySem.F.type_list_append mt_append (pv 3) (pa_cons (pv 2) pa_nil))))
        (pss_one (ps_asg (pv 2) (pg_sub (pv 3) (pv 1) set_list))))
      (pss_one (ps_ret (pv 3))))), ?_⟩
    refine ⟨_, rfl, a, _, rfl, .inl (SqL.of ha), fun c hc => ?_⟩
    cases o with
    | none =>
      refine ⟨_, rfl, rfl, _, rfl, ifd (fun _ => ?_) (fun z => absurd rfl z)⟩
      refine ⟨_, rfl, .inl ⟨rfl, _, SqL.of upd_same⟩, _, rfl, _, _, _, rfl, rfl, upd_same, ?_, ?_⟩
      · rw [vR_length]
        exact small_lt (by omega)
      · rw [← vR_snoc]
        exact ⟨_, rfl, k c _ (same_updO (same_upd hc) hc) hc upd_same⟩
    | some i =>
      refine ⟨_, rfl, rfl, _, rfl, ifd (fun z => by cases z) (fun _ => ?_)⟩
      refine ⟨_, rfl, _, rfl, _, rfl, c, _, _, i, rfl, rfl, upd_same, ixN_nat rfl (by rw [vR_length]; exact ho i rfl), ?_⟩
      rw [vR_set]
      exact ⟨_, rfl, k c _ (same_updO (same_upd hc) hc) hc upd_same⟩
def sp_without_word (T : PEnv K mg) : Sp := fun vs H Q _ => ∃ (a : Addr) (s : Lst) (j : Nat), vs = [.ref a, .int (j : Nat)] ∧ LstAt T H a s ∧ s.words.length ≤ 1000 ∧ ∀ x H', Same H H' → H x = none → LstAt T H' x (Vahypz.dropWord s j) → Q (.ref x) H'
theorem sc_without_word : FnScope ["word_list", "number"] ["word_list", "number"] (defScope s_without_word) := ⟨rfl, rfl, rfl, by decide +kernel, rfl, by decide +kernel, by decide +kernel⟩
theorem ok_without_word (T : PEnv K mg) {P : Program} {w : World} {base : Heap} : FnOk P w K mg base CX0 4 T.without_word.f T.without_word.fd ["word_list", "number"] (sp_without_word T) := by
  refine T.without_word.F.ok sc_without_word (fun vs H Q E h => ?_) (fun cdv A outer s H vs Q E hr h => ?_)
  · obtain ⟨a, s_, j, rfl, _⟩ := h
    rfl
  · obtain ⟨a, s_, j, rfl, hl, hlen, k⟩ := h
    refine ⟨_, (pss_one (ps_ret (pe_call (ok_with_words T) (hr.mono (by decide)) rfl T.with_words.g T.with_words.F.kp T.with_words.b .nil pass0 (pa_cons (pv 0) (pa_cons (pe_op op_cat (pe_slice sl_list (pe_fld (pv 0) rfl) po_none (po_some (pv 1))) (pe_slice sl_list (pe_fld (pv 0) rfl) (po_some (pe_op op_add (pv 1) pe_int)) po_none)) pa_nil))))), ?_⟩
    obtain ⟨dx, wa, pa, ha, ⟨as, hwa, hal⟩, hpa⟩ := id hl
    have h1000 := hal.len
    refine ⟨_, rfl, _, rfl, _, _, _, _, _, rfl, ha, T.WordList.cl, T.WordList_n_words, WordList_l_words, _, rfl, _, rfl, wa, _, rfl, SqL.of hwa, fun b hb => ?_⟩
    have s1 : Same H (upd H b (.lst (cutV (vR as) none (some (j : Int))))) := same_upd hb
    refine ⟨_, rfl, _, _, _, _, _, rfl, s1 _ _ ha, T.WordList.cl, T.WordList_n_words, WordList_l_words, _, rfl, _, _, rfl, rfl, _, rfl, wa, _, rfl, SqL.of (s1 _ _ hwa), fun c hc => ?_⟩
    have hbc : b ≠ c := ne_of_none upd_same hc
    have s2 := same_updO (o := .lst (cutV (vR as) (some ((j : Int) + 1)) none)) s1 (s1.free hc)
    refine ⟨b, c, _, _, rfl, rfl, by rw [upd_ne hbc]; exact upd_same, upd_same, ?_, fun d hd => ?_⟩
    · have e : (j : Int) + 1 = ((j + 1 : Nat) : Int) := rfl
      rw [cut_toV, e, cut_fromV, List.length_take, List.length_drop, vR_length]
      exact small_line (by omega)
    · have e : (j : Int) + 1 = ((j + 1 : Nat) : Int) := rfl
      rw [cut_toV, e, cut_fromV, vR_take, vR_drop, vR_erase]
      rw [cut_toV, e, cut_fromV, vR_take, vR_drop] at hd
      rw [cut_toV, e, cut_fromV, vR_take, vR_drop] at s2
      have s3 := same_updO (o := .lst (vR (as.eraseIdx j))) s2 (s2.free hd)
      refine ⟨a, d, s_, s_.words.eraseIdx j, rfl, hl.same s3, ⟨_, upd_same, (hal.imp fun _ _ z => z.same s3).erase⟩, fun x H' s4 nx hx => ?_⟩
      exact k x H' (s3.trans s4) (s3.free nx) hx
def sp_without_pattern (T : PEnv K mg) : Sp := fun vs H Q _ => ∃ (a : Addr) (s : Lst) (j : Nat), vs = [.ref a, .int (j : Nat)] ∧ LstAt T H a s ∧ s.pats.length ≤ 1000 ∧ ∀ x H', Same H H' → H x = none → LstAt T H' x (Vahypz.dropPat s j) → Q (.ref x) H'
theorem sc_without_pattern : FnScope ["word_list", "number"] ["word_list", "number"] (defScope s_without_pattern) := ⟨rfl, rfl, rfl, by decide +kernel, rfl, by decide +kernel, by decide +kernel⟩
theorem ok_without_pattern (T : PEnv K mg) {P : Program} {w : World} {base : Heap} : FnOk P w K mg base CX0 4 T.without_pattern.f T.without_pattern.fd ["word_list", "number"] (sp_without_pattern T) := by
  refine T.without_pattern.F.ok sc_without_pattern (fun vs H Q E h => ?_) (fun cdv A outer s H vs Q E hr h => ?_)
  · obtain ⟨a, s_, j, rfl, _⟩ := h
    rfl
  · obtain ⟨a, s_, j, rfl, hl, hlen, k⟩ := h
    refine ⟨_, (pss_one (ps_ret (pe_call (ok_with_patterns T) (hr.mono (by decide)) rfl T.with_patterns.g T.with_patterns.F.kp T.with_patterns.b .nil pass0 (pa_cons (pv 0) (pa_cons (pe_op op_cat (pe_slice sl_list (pe_fld (pv 0) rfl) po_none (po_some (pv 1))) (pe_slice sl_list (pe_fld (pv 0) rfl) (po_some (pe_op op_add (pv 1) pe_int)) po_none)) pa_nil))))), ?_⟩
    obtain ⟨dx, wa0, wa, ha, hpa, ⟨as, hwa, hal⟩⟩ := id hl
    have h1000 := hal.len
    refine ⟨_, rfl, _, rfl, _, _, _, _, _, rfl, ha, T.WordList.cl, T.WordList_n_patterns, WordList_l_patterns, _, rfl, _, rfl, wa, _, rfl, SqL.of hwa, fun b hb => ?_⟩
    have s1 : Same H (upd H b (.lst (cutV (vR as) none (some (j : Int))))) := same_upd hb
    refine ⟨_, rfl, _, _, _, _, _, rfl, s1 _ _ ha, T.WordList.cl, T.WordList_n_patterns, WordList_l_patterns, _, rfl, _, _, rfl, rfl, _, rfl, wa, _, rfl, SqL.of (s1 _ _ hwa), fun c hc => ?_⟩
    have hbc : b ≠ c := ne_of_none upd_same hc
    have s2 := same_updO (o := .lst (cutV (vR as) (some ((j : Int) + 1)) none)) s1 (s1.free hc)
    refine ⟨b, c, _, _, rfl, rfl, by rw [upd_ne hbc]; exact upd_same, upd_same, ?_, fun d hd => ?_⟩
    · have e : (j : Int) + 1 = ((j + 1 : Nat) : Int) := rfl
      rw [cut_toV, e, cut_fromV, List.length_take, List.length_drop, vR_length]
      exact small_line (by omega)
    · have e : (j : Int) + 1 = ((j + 1 : Nat) : Int) := rfl
      rw [cut_toV, e, cut_fromV, vR_take, vR_drop, vR_erase]
      rw [cut_toV, e, cut_fromV, vR_take, vR_drop] at hd
      rw [cut_toV, e, cut_fromV, vR_take, vR_drop] at s2
      have s3 := same_updO (o := .lst (vR (as.eraseIdx j))) s2 (s2.free hd)
      refine ⟨a, d, s_, s_.pats.eraseIdx j, rfl, hl.same s3, ⟨_, upd_same, (hal.imp fun _ _ z => z.same s3).erase⟩, fun x H' s4 nx hx => ?_⟩
      exact k x H' (s3.trans s4) (s3.free nx) hx
end
end PwX

/-! ## PwD18 -/
namespace PwX
open PySem PySem.Spec PyProof.Rows L2
open VahypBase Vahypa Pw
section
variable {K : PySem.W.Frag} {mg : Str → Option Value}
def dN (l : List Nat) : PyData := .list (l.map fun (n : Nat) => .int (n : Int))
def dLL (ls : List (List Nat)) : PyData := .list (ls.map dN)
theorem eqv_dN : ∀ (l m : List Nat), (dN l).eqv (dN m) = (l == m)
  | [], [] => rfl
  | [], _ :: _ => rfl
  | _ :: _, [] => rfl
  | a :: l, b :: m => by
    have h := eqv_dN l m
    show ((a : Int) == (b : Int) && (dN l).eqv (dN m)) = (a :: l == b :: m)
    rw [h, List.cons_beq_cons]
    congr 1
    rw [Bool.eq_iff_iff, beq_iff_eq, beq_iff_eq]
    exact ⟨fun e => Int.ofNat.inj e, fun e => by rw [e]⟩
theorem eqv_dLL : ∀ (l m : List (List Nat)), (dLL l).eqv (dLL m) = (l == m)
  | [], [] => rfl
  | [], _ :: _ => rfl
  | _ :: _, [] => rfl
  | a :: l, b :: m => by
    have h := eqv_dLL l m
    show ((dN a).eqv (dN b) && (dLL l).eqv (dLL m)) = (a :: l == b :: m)
    rw [h, eqv_dN, List.cons_beq_cons]
theorem lay_dN : ∀ l : List Nat, (dN l).canLay0 = true
  | [] => rfl
  | a :: l => lay_dN l
theorem lay_dLL : ∀ l : List (List Nat), (dLL l).canLay0 = true
  | [] => rfl
  | a :: l => by
    show ((dN a).canLay0 && (dLL l).canLay0) = true
    rw [lay_dN, lay_dLL l]
    rfl
theorem depth_dN : ∀ l : List Nat, (dN l).depth ≤ 1
  | [] => Nat.le_refl _
  | a :: l => by
    have h := depth_dN l
    have e : (dN (a :: l)).depth = max 0 ((dN l).depth - 1) + 1 := rfl
    rw [e]
    omega
theorem depth_dLL : ∀ l : List (List Nat), (dLL l).depth ≤ 2
  | [] => by decide
  | a :: l => by
    have h := depth_dLL l
    have h2 := depth_dN a
    have e : (dLL (a :: l)).depth = max (dN a).depth ((dLL l).depth - 1) + 1 := rfl
    rw [e]
    omega
theorem shaped_dN (l : List Nat) : SeqAt.shaped (dN l) = true := by
  unfold SeqAt.shaped
  rw [lay_dN, Bool.true_and, decide_eq_true_eq]
  exact Nat.le_trans (depth_dN l) (by decide)
theorem shaped_dLL (l : List (List Nat)) : SeqAt.shaped (dLL l) = true := by
  unfold SeqAt.shaped
  rw [lay_dLL, Bool.true_and, decide_eq_true_eq]
  exact Nat.le_trans (depth_dLL l) (by decide)
theorem dp_ints {H : Hp} : ∀ l : List Nat, DpAll K H (vN l) (l.map fun (n : Nat) => PyData.int (n : Int))
  | [] => .nil
  | a :: l => .cons (.int _) (dp_ints l)
theorem dp_vN {H : Hp} {a : Addr} {l : List Nat} (h : H a = some (.lst (vN l))) : Dp K H (.ref a) (dN l) := .lst (SqL.of h) (dp_ints l)
def PtsAt (H : Hp) (a : Addr) (ls : List (List Nat)) : Prop := ∃ as, H a = some (.lst (vR as)) ∧ AllAt (fun b l => H b = some (.lst (vN l))) as ls
theorem PtsAt.same {H H' : Hp} {a : Addr} {ls : List (List Nat)} (h : PtsAt H a ls) (s : Same H H') : PtsAt H' a ls := let ⟨as, h1, h2⟩ := h; ⟨as, s _ _ h1, h2.imp fun _ _ q => s _ _ q⟩
theorem dp_refs {H : Hp} : ∀ (as : List Addr) (ls : List (List Nat)), AllAt (fun b l => H b = some (.lst (vN l))) as ls → DpAll K H (vR as) (ls.map dN)
  | [], [], _ => .nil
  | [], _ :: _, h => by cases h.len
  | _ :: _, [], h => by cases h.len
  | a :: as, l :: ls, h => .cons (dp_vN (h.at_ 0 a l rfl rfl)) (dp_refs as ls ⟨by have := h.len; simpa using this, fun i b m h1 h2 => h.at_ (i + 1) b m h1 h2⟩)
theorem dp_pts {H : Hp} {a : Addr} {ls : List (List Nat)} (h : PtsAt H a ls) : Dp K H (.ref a) (dLL ls) := let ⟨as, h1, h2⟩ := h; .lst (SqL.of h1) (dp_refs as ls h2)

def sp_with_item (T : PEnv K mg) : Sp := fun vs H Q _ => ∃ (a b : Addr) (s : Lst) (it : Vahypz.Item), vs = [.ref a, .ref b] ∧ LstAt T H a s ∧ ItemAt T H b it ∧ s.words.length ≤ 1000 ∧ s.pats.length ≤ 1000 ∧ ∀ x H', Same H H' → H x = none → LstAt T H' x (Vahypz.put s it) → Q (.ref x) H'
theorem sc_with_item : FnScope ["word_list", "item", "number"] ["word_list", "item"] (defScope s_with_item) := ⟨rfl, rfl, rfl, by decide +kernel, rfl, by decide +kernel, by decide +kernel⟩
theorem ok_with_item (T : PEnv K mg) {P : Program} {w : World} {base : Heap} : FnOk P w K mg base CX0 4 T.with_item.f T.with_item.fd ["word_list", "item"] (sp_with_item T) := by
  refine T.with_item.F.ok sc_with_item (fun vs H Q E h => ?_) (fun cdv A outer s H vs Q E hr h => ?_)
  · obtain ⟨a, b, s_, it, rfl, _⟩ := h
    rfl
  · obtain ⟨a, b, s_, it, rfl, hl, hi, hwl, hpl, k⟩ := h
    refine ⟨_, (pss_cons (ps_if (pt_val (pe_callB call_isi (by rfl) T.b_isinstance (by decide +kernel) (pa_cons (pv 1) (pa_cons (pe_glob (v := .ref T.Word.C) rfl T.Word.g rfl) pa_nil))))
        (pss_cons (ps_set (i := 2) sc_with_item.nd rfl (Or.inl rfl) (pe_call (ok_number_of_word T) (hr.mono (by decide)) rfl T.number_of_word.g T.number_of_word.F.kp T.number_of_word.b .nil pass0 (pa_cons (pe_fld (pv 0) rfl) (pa_cons (pe_fld (pv 1) rfl) pa_nil))))
      (pss_one (ps_ret (pe_call (ok_with_words T) (hr.mono (by decide)) rfl T.with_words.g T.with_words.F.kp T.with_words.b .nil pass0 (pa_cons (pv 0) (pa_cons (pe_call (ok_replaced_or_added T) (hr.mono (by decide)) rfl T.replaced_or_added.g T.replaced_or_added.F.kp T.replaced_or_added.b .nil pass0 (pa_cons (pe_fld (pv 0) rfl) (pa_cons (pv 2) (pa_cons (pv 1) pa_nil)))) pa_nil))))))
        pss_nil)
      (pss_cons (ps_set (i := 2) sc_with_item.nd rfl (Or.inl rfl) (pe_call (ok_number_of_pattern T) (hr.mono (by decide)) rfl T.number_of_pattern.g T.number_of_pattern.F.kp T.number_of_pattern.b .nil pass0 (pa_cons (pe_fld (pv 0) rfl) (pa_cons (pv 1) pa_nil))))
      (pss_one (ps_ret (pe_call (ok_with_patterns T) (hr.mono (by decide)) rfl T.with_patterns.g T.with_patterns.F.kp T.with_patterns.b .nil pass0 (pa_cons (pv 0) (pa_cons (pe_call (ok_replaced_or_added T) (hr.mono (by decide)) rfl T.replaced_or_added.g T.replaced_or_added.F.kp T.replaced_or_added.b .nil pass0 (pa_cons (pe_fld (pv 0) rfl) (pa_cons (pv 2) (pa_cons (pv 1) pa_nil)))) pa_nil))))))), ?_⟩
    obtain ⟨dx, wa, pa, ha, hwa, hpa⟩ := id hl
    obtain ⟨was, hwa1, hwa2⟩ := id hwa
    obtain ⟨pas, hpa1, hpa2⟩ := id hpa
    have wl := hwa2.len
    have pl := hpa2.len
    cases it with
    | word v =>
      obtain ⟨dw, g, hb, hg⟩ := id hi
      refine ⟨_, rfl, _, _, _, _, _, rfl, .own _, .base (.ins hb T.Word.cl T.k_Word.ha T.k_Word.hn T.k_Word.tk T.k_Word.mr), T.k_Word.is, _, rfl, ifb (fun _ => ?_) (fun z => by cases z)⟩
      refine ⟨_, rfl, _, _, _, _, _, rfl, ha, T.WordList.cl, T.WordList_n_words, WordList_l_words, _, rfl, _, _, _, _, _, rfl, hb, T.Word.cl, T.Word_n_letters, Word_l_letters, wa, s_.words, v.x, rfl, hwa, fun H1 s1 => ?_⟩
      refine ⟨_, rfl, _, rfl, _, _, _, _, _, rfl, s1 _ _ ha, T.WordList.cl, T.WordList_n_words, WordList_l_words, _, rfl, _, rfl, wa, b, was, s_.words.findIdx? (isW v.x), ?_, s1 _ _ hwa1, by omega, ?_, fun c H2 s2 nc hc => ?_⟩
      · cases s_.words.findIdx? (isW v.x) <;> rfl
      · intro i e
        rw [wl]
        exact (List.findIdx?_eq_some_iff_getElem.mp e).1
      have s12 := s1.trans s2
      refine ⟨a, c, s_, Vahypz.putWord v s_.words, rfl, hl.same s12, ⟨_, hc, ?_⟩, fun x H3 s3 nx hx => k x H3 (s12.trans s3) (s12.free nx) hx⟩
      have al : AllAt (WordAt T H2) was s_.words := hwa2.imp fun _ _ z => z.same s12
      have hv : WordAt T H2 b v := WordAt.same ⟨dw, g, hb, hg⟩ s12
      rw [put_word]
      show AllAt _ _ (match s_.words.findIdx? (isW v.x) with
        | none => _
        | some i => _)
      cases s_.words.findIdx? (isW v.x) with
      | none => exact al.snoc hv
      | some i => exact al.set hv
    | pat v =>
      obtain ⟨dw, g, hb, hg⟩ := id hi
      refine ⟨_, rfl, _, _, _, _, _, rfl, .own _, .base (.ins hb T.Pattern.cl T.k_Pattern.ha T.k_Pattern.hn T.k_Pattern.tk T.k_Pattern.mr), T.k_Pattern.is, _, rfl, ifb (fun z => by cases z) (fun _ => ?_)⟩
      refine ⟨_, rfl, _, _, _, _, _, rfl, ha, T.WordList.cl, T.WordList_n_patterns, WordList_l_patterns, _, rfl, pa, b, s_.pats, v, rfl, hpa, ⟨dw, g, hb, hg⟩, fun H1 s1 => ?_⟩
      refine ⟨_, rfl, _, rfl, _, _, _, _, _, rfl, s1 _ _ ha, T.WordList.cl, T.WordList_n_patterns, WordList_l_patterns, _, rfl, _, rfl, pa, b, pas, s_.pats.findIdx? (sameP v), ?_, s1 _ _ hpa1, by omega, ?_, fun c H2 s2 nc hc => ?_⟩
      · cases s_.pats.findIdx? (sameP v) <;> rfl
      · intro i e
        rw [pl]
        exact (List.findIdx?_eq_some_iff_getElem.mp e).1
      have s12 := s1.trans s2
      refine ⟨a, c, s_, Vahypz.putPat v s_.pats, rfl, hl.same s12, ⟨_, hc, ?_⟩, fun x H3 s3 nx hx => k x H3 (s12.trans s3) (s12.free nx) hx⟩
      have al : AllAt (PatAt T H2) pas s_.pats := hpa2.imp fun _ _ z => z.same s12
      have hv : PatAt T H2 b v := PatAt.same ⟨dw, g, hb, hg⟩ s12
      rw [put_pat]
      cases s_.pats.findIdx? (sameP v) with
      | none => exact al.snoc hv
      | some i => exact al.set hv
def sp_is_touched (T : PEnv K mg) : Sp := fun vs H Q _ => ∃ (a b : Addr) (s t : Lst) (x : Bytes), vs = [.ref a, .ref b, .str (sB x)] ∧ LstAt T H a s ∧ LstAt T H b t ∧ (∀ p ∈ s.pats, POk p) ∧ (∀ p ∈ t.pats, POk p) ∧ x.length ≤ 1000 ∧ ∀ H', Same H H' → Q (.bl (isTouched s t x)) H'
theorem sc_is_touched : FnScope ["before", "after", "letters"] ["before", "after", "letters"] (defScope s_is_touched) := ⟨rfl, rfl, rfl, by decide +kernel, rfl, by decide +kernel, by decide +kernel⟩
theorem ok_is_touched (T : PEnv K mg) {P : Program} {w : World} {base : Heap} : FnOk P w K mg base CX0 5 T.is_touched.f T.is_touched.fd ["before", "after", "letters"] (sp_is_touched T) := by
  refine T.is_touched.F.ok sc_is_touched (fun vs H Q E h => ?_) (fun cdv A outer s H vs Q E hr h => ?_)
  · obtain ⟨a, b, s_, t_, x, rfl, _⟩ := h
    rfl
  · obtain ⟨a, b, s_, t_, x, rfl, ha, hb, oks, okt, hx, k⟩ := h
    refine ⟨_, (pss_cons (ps_if (pt_cmpR op_isN (pe_call (ok_number_of_word T) (hr.mono (by decide)) rfl T.number_of_word.g T.number_of_word.F.kp T.number_of_word.b .nil pass0 (pa_cons (pe_fld (pv 1) rfl) (pa_cons (pv 2) pa_nil))) pe_non (nomark _))
        (pss_one (ps_ret pe_bl))
        pss_nil)
      (pss_one (ps_ret (pe_cmpR (op_neD hr.units) (pe_call (ok_parted_gaps T) (hr.mono (by decide)) rfl T.parted_gaps.g T.parted_gaps.F.kp T.parted_gaps.b .nil pass0 (pa_cons (pv 0) (pa_cons (pv 2) pa_nil))) (pe_call (ok_parted_gaps T) (hr.mono (by decide)) rfl T.parted_gaps.g T.parted_gaps.F.kp T.parted_gaps.b .nil pass0 (pa_cons (pv 1) (pa_cons (pv 2) pa_nil))) (nomark _))))), ?_⟩
    unfold isTouched at k
    obtain ⟨dx, wa, pa, hb1, hwa, hpa⟩ := id hb
    refine ⟨_, rfl, _, _, _, _, _, rfl, hb1, T.WordList.cl, T.WordList_n_words, WordList_l_words, _, rfl, wa, t_.words, x, rfl, hwa, fun H1 s1 => ?_⟩
    have ea : t_.words.any (fun v => v.x == x) = (t_.words.findIdx? (isW x)).isSome := any_find _ _
    rw [ea] at k
    cases e : t_.words.findIdx? (isW x) with
    | none =>
      rw [e] at k
      refine ⟨rfl, _, rfl, ifd (fun _ => k H1 s1) (fun z => absurd rfl z)⟩
    | some i =>
      rw [e] at k
      refine ⟨rfl, _, rfl, ifd (fun z => by cases z) (fun _ => ?_)⟩
      refine ⟨_, rfl, _, rfl, a, s_, x, rfl, ha.same s1, oks, hx, fun P H2 s2 nP hP => ?_⟩
      refine ⟨_, rfl, _, rfl, b, t_, x, rfl, (hb.same s1).same s2, okt, hx, fun R H3 s3 nR hR => ?_⟩
      refine ⟨_, _, dp_vN (s3 _ _ hP), dp_vN hR, shaped_dN _, shaped_dN _, ?_⟩
      rw [eqv_dN]
      exact k H3 ((s1.trans s2).trans s3)
end
end PwX

/-! ## PwD19 -/
namespace PwX
open PySem PySem.Spec PyProof.Rows L2
open VahypBase Vahypa Pw
section
variable {K : PySem.W.Frag} {mg : Str → Option Value}

def sp_touched_words (T : PEnv K mg) : Sp := fun vs H Q _ => ∃ (a b : Addr) (s t : Lst), vs = [.ref a, .ref b] ∧ LstAt T H a s ∧ LstAt T H b t ∧ LOk s ∧ (∀ p ∈ t.pats, POk p) ∧ Gives H Q (vN (Vahypz.touched s t))
theorem sc_touched_words : FnScope ["before", "after", "number", "word"] ["before", "after"] (defScope s_touched_words) := ⟨rfl, rfl, rfl, by decide +kernel, rfl, by decide +kernel, by decide +kernel⟩
theorem ok_touched_words (T : PEnv K mg) {P : Program} {w : World} {base : Heap} : FnOk P w K mg base CX0 6 T.touched_words.f T.touched_words.fd ["before", "after"] (sp_touched_words T) := by
  refine T.touched_words.F.ok sc_touched_words (fun vs H Q E h => ?_) (fun cdv A outer s H vs Q E hr h => ?_)
  · obtain ⟨a, b, s_, t_, rfl, _⟩ := h
    rfl
  · obtain ⟨a, b, s_, t_, rfl, ha, hb, oks, okt, k⟩ := h
    refine ⟨_, (pss_one (ps_ret (pe_lc (own := [("number", 2), ("word", 3)]) (g := gTup K 2 (gCons (gName 2) (gCons (gName 3) gNil))) rfl sc_touched_words.nd (pi_enum (by rfl) T.b_enumerate (pa_cons (pe_fld (pv 0) rfl) pa_nil)) (blkOk_by (own := [("number", 2), ("word", 3)]) (N := ["before", "after", "number", "word"]) (sc := defScope s_touched_words) (by decide +kernel)) (fun _ _ _ _ _ => (pg_tup rfl (pgs_cons (pg_name (i := 2) sc_touched_words.nd rfl (Or.inl rfl)) (pgs_cons (pg_name (i := 3) sc_touched_words.nd rfl (Or.inl rfl)) pgs_nil)))) (fun _ _ _ _ _ => (pts_one (pt_val (pe_call (ok_is_touched T) (hr.mono (by decide)) rfl T.is_touched.g T.is_touched.F.kp T.is_touched.b .nil pass0 (pa_cons (pv 0) (pa_cons (pv 1) (pa_cons (pe_fldK (K := K) rfl (pv 3) rfl) pa_nil))))))) (fun _ _ _ _ _ => (pv 2))))), ?_⟩
    obtain ⟨dx, wa, pa, ha1, ⟨as, hwa, hal⟩, hpa⟩ := id ha
    have w24 := oks.wmost
    refine ⟨_, rfl, _, _, _, _, _, rfl, ha1, T.WordList.cl, T.WordList_n_words, WordList_l_words, wa, _, rfl, SqL.of hwa, fun D hD => ?_⟩
    refine lc_it walk_enum (fun i H' => Same H H' ∧ H' D = some (.lst (vN (touchedTo s_ t_ i)))) ⟨same_upd hD, upd_same⟩ (fun i H' _ q => SqL.of (q.1 _ _ hwa)) (fun i y H1 H2 hi q e => ?_) fun H' q => ?_
    · obtain ⟨t, n, y2, rfl, ht, rfl, hn, hy⟩ := e
      cases hn
      obtain ⟨b2, w2, rfl, hb2, hw2, hW⟩ := hal.at hy
      have sm2 := same_updO (o := .tup [.int (i : Nat), .ref b2]) q.1 (q.1.free ht)
      have hD2 := (same_upd (o := .tup [.int (i : Nat), .ref b2]) ht) _ _ q.2
      obtain ⟨dw, g, hb3, hg3⟩ := hW.same sm2
      have w16 := (oks.ws w2 (mem_at hw2)).most
      refine ⟨t, _, rfl, sqT_upd, rfl, _, _, rfl, _, _, rfl, rfl, ?_⟩
      refine ⟨rfl, _, rfl, _, rfl, _, rfl, _, _, _, _, _, rfl, hb3, T.Word.cl, T.Word_n_letters, Word_l_letters, a, b, s_, t_, w2.x, rfl, ha.same sm2, hb.same sm2, oks.ps, okt, by omega, fun H3 s3 => ?_⟩
      have hD3 := s3 _ _ hD2
      rw [touchedTo_step hw2]
      refine ⟨_, rfl, ifb (fun h1 => ?_) (fun h1 => ?_)⟩
      · rw [if_pos h1]
        refine ⟨_, rfl, _, hD3, ?_, same_updO (sm2.trans s3) hD, ?_⟩
        · rw [vN_length]
          unfold touchedTo
          rw [List.length_map]
          exact small_lt (Nat.lt_of_le_of_lt (List.length_filter_le _ _) (by rw [List.length_zipIdx, List.length_take]; omega))
        · rw [upd_same, vN_snoc]
      · rw [if_neg (by rw [h1]; exact Bool.false_ne_true), List.append_nil]
        exact ⟨sm2.trans s3, hD3⟩
    · rw [vR_length, hal.len, touched_eq] at q
      exact k D H' q.1 hD q.2
def sp_partings (T : PEnv K mg) : Sp := fun vs H Q _ => ∃ (a : Addr) (s : Lst), vs = [.ref a] ∧ LstAt T H a s ∧ LOk s ∧ ∀ g H', Same H H' → H g = none → PtsAt H' g (partsL s) → Q (.ref g) H'
theorem sc_partings : FnScope ["word_list", "word"] ["word_list"] (defScope s_partings) := ⟨rfl, rfl, rfl, by decide +kernel, rfl, by decide +kernel, by decide +kernel⟩
theorem ok_partings (T : PEnv K mg) {P : Program} {w : World} {base : Heap} : FnOk P w K mg base CX0 5 T.partings.f T.partings.fd ["word_list"] (sp_partings T) := by
  refine T.partings.F.ok sc_partings (fun vs H Q E h => ?_) (fun cdv A outer s H vs Q E hr h => ?_)
  · obtain ⟨a, s_, rfl, _⟩ := h
    rfl
  · obtain ⟨a, s_, rfl, hl, ok, k⟩ := h
    refine ⟨_, (pss_one (ps_ret (pe_lc (own := [("word", 1)]) (g := gName 1) (tt := tYes) rfl sc_partings.nd (pi_list (pe_fld (pv 0) rfl)) (blkOk_by (own := [("word", 1)]) (N := ["word_list", "word"]) (sc := defScope s_partings) (by decide +kernel)) (fun _ _ _ _ _ => (pg_name (i := 1) sc_partings.nd rfl (Or.inl rfl))) (fun _ _ _ _ _ => pts_nil) (fun _ _ _ _ _ => (pe_call (ok_parted_gaps T) (hr.mono (by decide)) rfl T.parted_gaps.g T.parted_gaps.F.kp T.parted_gaps.b .nil pass0 (pa_cons (pv 0) (pa_cons (pe_fldK (K := K) rfl (pv 1) rfl) pa_nil))))))), ?_⟩
    obtain ⟨dx, wa, pa, ha, ⟨as, hwa, hal⟩, hpa⟩ := id hl
    have hlen := ok.wmost
    refine ⟨_, rfl, _, _, _, _, _, rfl, ha, T.WordList.cl, T.WordList_n_words, WordList_l_words, wa, rfl, ⟨_, SqL.of hwa⟩, fun D hD => ?_⟩
    refine lc_list (K := K) (a := wa) (xs := vR as) (fun i H' => Same H H' ∧ ∃ bs, H' D = some (.lst (vR bs)) ∧ AllAt (fun b l => H' b = some (.lst (vN l)) ∧ b ≠ D) bs ((s_.words.take i).map fun w => parts s_ w.x)) ⟨same_upd hD, [], upd_same, AllAt.nil⟩ (fun i H' _ q => SqL.of (q.1 _ _ hwa)) (fun i y H1 hi q => ?_) fun H' q => ?_
    · obtain ⟨sm, bs, hD1, hb1⟩ := q
      obtain ⟨b, v, rfl, hb, hv, hwd⟩ := hal.at hi
      obtain ⟨dw, g, hb3, hg3⟩ := hwd.same sm
      have w16 := (ok.ws v (mem_at hv)).most
      refine ⟨rfl, lc_yes ⟨_, rfl, _, rfl, _, _, _, _, _, rfl, hb3, T.Word.cl, T.Word_n_letters, Word_l_letters, a, s_, v.x, rfl, hl.same sm, ok.ps, by omega, fun P H2 s2 nP hP => ?_⟩⟩
      have hD2 := s2 _ _ hD1
      have nPD : P ≠ D := (ne_of_none hD1 nP).symm
      refine ⟨_, hD2, ?_, same_updO (sm.trans s2) hD, bs ++ [P], by rw [upd_same, vR_snoc], ?_⟩
      · rw [vR_length, hb1.len, List.length_map, List.length_take]
        exact small_lt (by omega)
      · rw [take_more hv, List.map_append]
        exact AllAt.snoc (hb1.imp fun c l z => ⟨by rw [upd_ne z.2]; exact s2 _ _ z.1, z.2⟩) ⟨by rw [upd_ne nPD]; exact hP, nPD⟩
    · rw [vR_length, hal.len, List.take_length] at q
      obtain ⟨sm, bs, hD1, hb1⟩ := q
      exact k D H' sm hD ⟨bs, hD1, hb1.imp fun _ _ z => z.1⟩
def sp_needless_patterns (T : PEnv K mg) : Sp := fun vs H Q _ => ∃ (a : Addr) (s : Lst), vs = [.ref a] ∧ LstAt T H a s ∧ LOk s ∧ Gives H Q (vN (Vahypz.needless s))
theorem sc_needless_patterns : FnScope ["word_list", "wanted", "needless", "number"] ["word_list"] (defScope s_needless_patterns) := ⟨rfl, rfl, rfl, by decide +kernel, rfl, by decide +kernel, by decide +kernel⟩
theorem ok_needless_patterns (T : PEnv K mg) {P : Program} {w : World} {base : Heap} : FnOk P w K mg base CX0 6 T.needless_patterns.f T.needless_patterns.fd ["word_list"] (sp_needless_patterns T) := by
  refine T.needless_patterns.F.ok sc_needless_patterns (fun vs H Q E h => ?_) (fun cdv A outer s H vs Q E hr h => ?_)
  · obtain ⟨a, s_, rfl, _⟩ := h
    rfl
  · obtain ⟨a, s_, rfl, hl, ok, k⟩ := h
    refine ⟨_, (pss_cons (ps_set (i := 1) sc_needless_patterns.nd rfl (Or.inl rfl) (pe_call (ok_partings T) (hr.mono (by decide)) rfl T.partings.g T.partings.F.kp T.partings.b .nil pass0 (pa_cons (pv 0) pa_nil)))
      (pss_cons (ps_set (i := 2) sc_needless_patterns.nd rfl (Or.inl rfl) (pe_lst pa_nil))
      (pss_cons (ps_for PassesOwn.never rfl (pi_range1 (by rfl) T.b_range (pa_cons (pe_callB call_len (by rfl) T.b_len (by decide +kernel) (pa_cons (pe_fld (pv 0) rfl) pa_nil)) pa_nil)) (pg_name (i := 3) sc_needless_patterns.nd rfl (Or.inl rfl))
        (pss_one (ps_if (pt_cmpR (op_eqD hr.units) (pe_call (ok_partings T) (hr.mono (by decide)) rfl T.partings.g T.partings.F.kp T.partings.b .nil pass0 (pa_cons (pe_call (ok_without_pattern T) (hr.mono (by decide)) rfl T.without_pattern.g T.without_pattern.F.kp T.without_pattern.b .nil pass0 (pa_cons (pv 0) (pa_cons (pv 3) pa_nil))) pa_nil)) (pv 1) (nomark _))
        (pss_one (ps_expr (pe_bm PySem.F.plainAttrs_list PySem.F.slot_list_append PySem.F.type_list_append mt_append (pv 2) (pa_cons (pv 3) pa_nil))))
        pss_nil)))
      (pss_one (ps_ret (pv 2)))))), ?_⟩
    have p40 := ok.pmost
    refine ⟨_, rfl, a, s_, rfl, hl, ok, fun W H1 s1 nW hW => ?_⟩
    refine ⟨Nat.zero_le _, fun N hN => ?_⟩
    have hN0 : H N = none := s1.free hN
    obtain ⟨dx, wa, pa, ha, hwa, ⟨as, hpa, hal⟩⟩ := id hl
    have s2 : Same H (upd H1 N (.lst [])) := same_updO s1 hN0
    have plen : (vR as).length = s_.pats.length := by rw [vR_length, hal.len]
    refine ⟨_, rfl, _, _, _, _, _, rfl, s2 _ _ ha, T.WordList.cl, T.WordList_n_patterns, WordList_l_patterns, _, _, rfl, .inl ⟨_, SqL.of (s2 _ _ hpa), rfl⟩, _, rfl, by omega, by rw [plen]; omega, ?_⟩
    rw [plen]
    refine for_it (n := s_.pats.length) walk_range (fun i σ H' => ∃ u, σ = [some (.ref a), some (.ref W), some (.ref N), u] ∧ Same H1 H' ∧ H' N = some (.lst (vN (needlessTo s_ i)))) ⟨none, rfl, same_upd hN, upd_same⟩ (fun _ _ _ _ _ => trivial) ?_ ?_
    · rintro i y σ H2 H2' hi ⟨u, rfl, sm, hN2⟩ e
      obtain ⟨rfl, rfl⟩ := rng0 e
      refine ⟨_, rfl, _, rfl, a, s_, i, rfl, (hl.same s1).same sm, by omega, fun x H3 s3 nx hx => ?_⟩
      refine ⟨x, _, rfl, hx, ok.drop i, fun R H4 s4 nR hR => ?_⟩
      have sm4 := (sm.trans s3).trans s4
      have hN4 := (s3.trans s4) _ _ hN2
      refine ⟨_, rfl, _, _, dp_pts hR, dp_pts (hW.same sm4), shaped_dLL _, shaped_dLL _, ?_⟩
      rw [eqv_dLL, needlessTo_step]
      refine ⟨_, rfl, ifb (fun h1 => ?_) (fun h1 => ?_)⟩
      · rw [if_pos h1]
        refine ⟨_, rfl, .inl ⟨rfl, _, SqL.of hN4⟩, _, rfl, _, _, _, rfl, rfl, hN4, ?_, ?_⟩
        · rw [vN_length]
          unfold needlessTo
          exact small_lt (Nat.lt_of_le_of_lt (List.length_filter_le _ _) (by rw [List.length_range]; omega))
        · exact ⟨_, rfl, same_updO sm4 hN, by rw [upd_same, vN_snoc]⟩
      · rw [if_neg (by rw [h1]; exact Bool.false_ne_true), List.append_nil]
        exact ⟨_, rfl, sm4, hN4⟩
    · rintro σ H2 ⟨u, rfl, sm, hN2⟩
      rw [needless_eq] at hN2
      exact ⟨_, rfl, k N H2 (s1.trans sm) hN0 hN2⟩
def sp_slim_once (T : PEnv K mg) : Sp := fun vs H Q _ => ∃ (a b : Addr) (s t : Lst), vs = [.ref a, .ref b] ∧ LstAt T H a t ∧ LOk t ∧ PtsAt H b (partsL s) ∧ t.words = s.words ∧ ∀ x H', Same H H' → LstAt T H' x (Vahypz.slimBy s t.pats.length 0 t) → Q (.ref x) H'
theorem sc_slim_once : FnScope ["word_list", "wanted", "slimmer", "number", "candidate"] ["word_list", "wanted"] (defScope s_slim_once) := ⟨rfl, rfl, rfl, by decide +kernel, rfl, by decide +kernel, by decide +kernel⟩
theorem ok_slim_once (T : PEnv K mg) {P : Program} {w : World} {base : Heap} : FnOk P w K mg base CX0 6 T.slim_once.f T.slim_once.fd ["word_list", "wanted"] (sp_slim_once T) := by
  refine T.slim_once.F.ok sc_slim_once (fun vs H Q E h => ?_) (fun cdv A outer s H vs Q E hr h => ?_)
  · obtain ⟨a, b, s_, t_, rfl, _⟩ := h
    rfl
  · obtain ⟨a, b, s_, t_, rfl, hl, ok, hb, hw, k⟩ := h
    refine ⟨_, (pss_cons (ps_set (i := 2) sc_slim_once.nd rfl (Or.inl rfl) (pv 0))
      (pss_cons (ps_set (i := 3) sc_slim_once.nd rfl (Or.inl rfl) pe_int)
      (pss_cons (ps_while PassesOwn.never (pt_cmpR op_lt (pv 3) (pe_callB call_len (by rfl) T.b_len (by decide +kernel) (pa_cons (pe_fld (pv 2) rfl) pa_nil)) (nomark _))
        (pss_cons (ps_set (i := 4) sc_slim_once.nd rfl (Or.inl rfl) (pe_call (ok_without_pattern T) (hr.mono (by decide)) rfl T.without_pattern.g T.without_pattern.F.kp T.without_pattern.b .nil pass0 (pa_cons (pv 2) (pa_cons (pv 3) pa_nil))))
      (pss_one (ps_if (pt_cmpR (op_eqD hr.units) (pe_call (ok_partings T) (hr.mono (by decide)) rfl T.partings.g T.partings.F.kp T.partings.b .nil pass0 (pa_cons (pv 4) pa_nil)) (pv 1) (nomark _))
        (pss_one (ps_set (i := 2) sc_slim_once.nd rfl (Or.inl rfl) (pv 4)))
        (pss_one (ps_aug (i := 3) sc_slim_once.nd rfl (Or.inl rfl) pe_int ip_add))))))
      (pss_one (ps_ret (pv 2)))))), ?_⟩
    refine ⟨_, rfl, fun m σ H' => ∃ (x : Addr) (t : Lst) (i : Nat) (v : Option V), σ = [some (.ref a), some (.ref b), some (.ref x), some (.int (i : Nat)), v] ∧ Same H H' ∧ LstAt T H' x t ∧ LOk t ∧ t.words = s_.words ∧ Vahypz.slimBy s_ (t.pats.length - i) i t = Vahypz.slimBy s_ t_.pats.length 0 t_ ∧ m = t.pats.length - i, ⟨_, a, t_, 0, none, rfl, Same.refl _, hl, ok, hw, rfl, rfl⟩, ?_⟩
    rintro m σ H1 ⟨x, t, i, v, rfl, sm, hx, okt, hwt, run, rfl⟩
    obtain ⟨dx, wa, pa, hx1, hwa, ⟨as, hpa, hal⟩⟩ := id hx
    have p40 := okt.pmost
    refine ⟨_, rfl, _, rfl, _, _, _, _, _, rfl, hx1, T.WordList.cl, T.WordList_n_patterns, WordList_l_patterns, _, _, rfl, .inl ⟨_, SqL.of hpa, rfl⟩, _, _, rfl, rfl, _, rfl, ?_⟩
    have plen : (vR as).length = t.pats.length := by rw [vR_length, hal.len]
    rw [plen]
    refine ifd (fun h1 => ?_) (fun h1 => ?_)
    · have h2 : i < t.pats.length := by omega
      obtain ⟨f, hf⟩ : ∃ f, t.pats.length - i = f + 1 := ⟨t.pats.length - i - 1, by omega⟩
      rw [hf, slimBy_step hwt h2] at run
      refine ⟨_, fun _ _ h => h, _, rfl, _, rfl, x, t, i, rfl, hx, by omega, fun y H2 s2 ny hy => ?_⟩
      refine ⟨_, rfl, y, _, rfl, hy, okt.drop i, fun R H3 s3 nR hR => ?_⟩
      have sm3 := (sm.trans s2).trans s3
      refine ⟨_, rfl, _, _, dp_pts hR, dp_pts (hb.same sm3), shaped_dLL _, shaped_dLL _, ?_⟩
      rw [eqv_dLL]
      refine ⟨_, rfl, ifb (fun h3 => ?_) (fun h3 => ?_)⟩
      · rw [if_pos h3] at run
        have dl := drop_len h2
        refine ⟨_, rfl, _, ?_, y, _, i, _, rfl, sm3, hy.same s3, okt.drop i, hwt, ?_, rfl⟩
        · omega
        · rw [dl, show t.pats.length - 1 - i = f by omega]
          exact run
      · rw [if_neg (by rw [h3]; exact Bool.false_ne_true)] at run
        refine ⟨_, rfl, _, _, rfl, rfl, _, ?_, x, t, i + 1, _, rfl, sm3, (hx.same s2).same s3, okt, hwt, ?_, rfl⟩
        · omega
        · rw [show t.pats.length - (i + 1) = f by omega]
          exact run
    · have h2 : t.pats.length ≤ i := by omega
      rw [slimBy_stop h2] at run
      rw [← run] at k
      exact ⟨_, rfl, k x H1 sm hx⟩
def sp_made_slim (T : PEnv K mg) : Sp := fun vs H Q _ => ∃ (a : Addr) (s : Lst), vs = [.ref a] ∧ LstAt T H a s ∧ LOk s ∧ ∀ x H', Same H H' → LstAt T H' x (Vahypz.slim s) → LOk (Vahypz.slim s) → Q (.ref x) H'
theorem sc_made_slim : FnScope ["word_list", "wanted", "slim", "patterns_before"] ["word_list"] (defScope s_made_slim) := ⟨rfl, rfl, rfl, by decide +kernel, rfl, by decide +kernel, by decide +kernel⟩
theorem ok_made_slim (T : PEnv K mg) {P : Program} {w : World} {base : Heap} : FnOk P w K mg base CX0 7 T.made_slim.f T.made_slim.fd ["word_list"] (sp_made_slim T) := by
  refine T.made_slim.F.ok sc_made_slim (fun vs H Q E h => ?_) (fun cdv A outer s H vs Q E hr h => ?_)
  · obtain ⟨a, s_, rfl, _⟩ := h
    rfl
  · obtain ⟨a, s_, rfl, hl, ok, k⟩ := h
    refine ⟨_, (pss_cons (ps_set (i := 1) sc_made_slim.nd rfl (Or.inl rfl) (pe_call (ok_partings T) (hr.mono (by decide)) rfl T.partings.g T.partings.F.kp T.partings.b .nil pass0 (pa_cons (pv 0) pa_nil)))
      (pss_cons (ps_set (i := 2) sc_made_slim.nd rfl (Or.inl rfl) (pv 0))
      (pss_cons (ps_set (i := 3) sc_made_slim.nd rfl (Or.inl rfl) (pe_op op_add (pe_callB call_len (by rfl) T.b_len (by decide +kernel) (pa_cons (pe_fld (pv 2) rfl) pa_nil)) pe_int))
      (pss_cons (ps_while PassesOwn.never (pt_cmpR op_lt (pe_callB call_len (by rfl) T.b_len (by decide +kernel) (pa_cons (pe_fld (pv 2) rfl) pa_nil)) (pv 3) (nomark _))
        (pss_cons (ps_set (i := 3) sc_made_slim.nd rfl (Or.inl rfl) (pe_callB call_len (by rfl) T.b_len (by decide +kernel) (pa_cons (pe_fld (pv 2) rfl) pa_nil)))
      (pss_one (ps_set (i := 2) sc_made_slim.nd rfl (Or.inl rfl) (pe_call (ok_slim_once T) (hr.mono (by decide)) rfl T.slim_once.g T.slim_once.F.kp T.slim_once.b .nil pass0 (pa_cons (pv 2) (pa_cons (pv 1) pa_nil)))))))
      (pss_one (ps_ret (pv 2))))))), ?_⟩
    have p40 := ok.pmost
    refine ⟨_, rfl, a, s_, rfl, hl, ok, fun W H1 s1 nW hW => ?_⟩
    obtain ⟨dx, wa, pa, ha, hwa, ⟨as, hpa, hal⟩⟩ := id (hl.same s1)
    have plen : (vR as).length = s_.pats.length := by rw [vR_length, hal.len]
    refine ⟨_, rfl, _, rfl, _, _, _, _, _, rfl, ha, T.WordList.cl, T.WordList_n_patterns, WordList_l_patterns, _, _, rfl, .inl ⟨_, SqL.of hpa, rfl⟩, _, _, rfl, rfl, ?_⟩
    rw [plen]
    refine ⟨fun m σ H' => ∃ (x : Addr) (t : Lst) (n : Nat), σ = [some (.ref a), some (.ref W), some (.ref x), some (.int (n : Nat))] ∧ Same H1 H' ∧ LstAt T H' x t ∧ LOk t ∧ t.words = s_.words ∧ SlimAt s_ t n ∧ m = slimM t n, ⟨_, a, s_, s_.pats.length + 1, rfl, Same.refl _, hl.same s1, ok, rfl, SlimAt.start s_, rfl⟩, ?_⟩
    rintro m σ H2 ⟨x, t, n, rfl, sm, hx, okt, hwt, inv, rfl⟩
    obtain ⟨dx2, wa2, pa2, hx2, hwa2, ⟨as2, hpa2, hal2⟩⟩ := id hx
    have plen2 : (vR as2).length = t.pats.length := by rw [vR_length, hal2.len]
    refine ⟨_, rfl, _, _, _, _, _, rfl, hx2, T.WordList.cl, T.WordList_n_patterns, WordList_l_patterns, _, _, rfl, .inl ⟨_, SqL.of hpa2, rfl⟩, _, rfl, _, _, rfl, rfl, _, rfl, ?_⟩
    rw [plen2]
    refine ifd (fun h1 => ?_) (fun h1 => ?_)
    · obtain ⟨i1, i2⟩ := inv.step (by omega)
      refine ⟨_, fun _ _ h => h, _, rfl, _, _, _, _, _, rfl, hx2, T.WordList.cl, T.WordList_n_patterns, WordList_l_patterns, _, _, rfl, .inl ⟨_, SqL.of hpa2, rfl⟩, ?_⟩
      rw [plen2]
      refine ⟨_, rfl, _, rfl, x, W, s_, t, rfl, hx, okt, hW.same sm, hwt, fun y H3 s3 hy => ?_⟩
      exact ⟨_, i2, y, _, _, rfl, sm.trans s3, hy, okt.slim _ _, by rw [(slimBy_words s_ _ _ t).1]; exact hwt, i1, rfl⟩
    · have e := inv.stop (by omega)
      rw [← e] at k
      exact ⟨_, rfl, k x H2 (s1.trans sm) hx okt⟩
end
end PwX

/-! ## PwD20 -/
namespace PwX
open PySem PySem.Spec PyProof.Rows L2
open VahypBase Vahypa Pw
section
variable {K : PySem.W.Frag} {mg : Str → Option Value}
def IsRef (T : PEnv K mg) (C : Addr) : Prop := C = T.NoList.C ∨ C = T.NoSuchNumber.C ∨ C = T.NoSuchLine.C ∨ C = T.NotAsTold.C ∨ C = T.TooMany.C
def RefE (T : PEnv K mg) (E : XK) (H : Hp) (n : Int) : Prop := ∀ (C : Addr) (H' : Hp) (d : Addr), IsRef T C → Same H H' → H' d = some (.xd [("code", .int n)]) → E (.ref C) (some d) H'
theorem RefE.at {T : PEnv K mg} {E : XK} {H H1 : Hp} {n : Int} (h : RefE T E H n) (s : Same H H1) : RefE T E H1 n := fun C H' d c s1 e => h C H' d c (s.trans s1) e
theorem seq_as {e : TE} {gg : TG} {b : TS} {D : Ends} {σ : L2.St} {H : Hp} (h : e σ H fun y H1 => gg y σ H1 (b D)) : tSeq (tAsg e gg) b D σ H := h
def jointOk (s : Lst) (x : Bytes) (g : Nat) : Bool := s.words.any (fun w => w.x == x.take g) && s.words.any fun w => w.x == x.drop g

def sp_joints_of (T : PEnv K mg) : Sp := fun vs H Q _ => ∃ (a : Addr) (s : Lst) (x : Bytes), vs = [.ref a, .str (sB x)] ∧ LstAt T H a s ∧ x.length ≤ 1000 ∧ Gives H Q (vN (Vahypz.joints s x))
theorem sc_joints_of : FnScope ["word_list", "letters", "joints", "gap", "first", "second"] ["word_list", "letters"] (defScope s_joints_of) := ⟨rfl, rfl, rfl, by decide +kernel, rfl, by decide +kernel, by decide +kernel⟩
theorem ok_joints_of (T : PEnv K mg) {P : Program} {w : World} {base : Heap} : FnOk P w K mg base CX0 2 T.joints_of.f T.joints_of.fd ["word_list", "letters"] (sp_joints_of T) := by
  refine T.joints_of.F.ok sc_joints_of (fun vs H Q E h => ?_) (fun cdv A outer s H vs Q E hr h => ?_)
  · obtain ⟨a, s_, x, rfl, _⟩ := h
    rfl
  · obtain ⟨a, s_, x, rfl, hl, hx, k⟩ := h
    refine ⟨_, (pss_cons (ps_set (i := 2) sc_joints_of.nd rfl (Or.inl rfl) (pe_lst pa_nil))
      (pss_cons (ps_for PassesOwn.never rfl (pi_range2 (by rfl) T.b_range (pa_cons pe_int (pa_cons (pe_callB call_len (by rfl) T.b_len (by decide +kernel) (pa_cons (pv 1) pa_nil)) pa_nil))) (pg_name (i := 3) sc_joints_of.nd rfl (Or.inl rfl))
        (pss_cons (ps_set (i := 4) sc_joints_of.nd rfl (Or.inl rfl) (pe_call (ok_number_of_word T) (hr.mono (by decide)) rfl T.number_of_word.g T.number_of_word.F.kp T.number_of_word.b .nil pass0 (pa_cons (pe_fld (pv 0) rfl) (pa_cons (pe_slice sl_str (pv 1) po_none (po_some (pv 3))) pa_nil))))
      (pss_cons (ps_set (i := 5) sc_joints_of.nd rfl (Or.inl rfl) (pe_call (ok_number_of_word T) (hr.mono (by decide)) rfl T.number_of_word.g T.number_of_word.F.kp T.number_of_word.b .nil pass0 (pa_cons (pe_fld (pv 0) rfl) (pa_cons (pe_slice sl_str (pv 1) (po_some (pv 3)) po_none) pa_nil))))
      (pss_one (ps_if (PW.pt (pw_and (pt_cmpR op_notN (pv 4) pe_non (nomark _)) (pw_and1 (pt_cmpR op_notN (pv 5) pe_non (nomark _)))))
        (pss_one (ps_expr (pe_bm PySem.F.plainAttrs_list PySem.F.slot_list_append PySem.F.type_list_append mt_append (pv 2) (pa_cons (pv 3) pa_nil))))
        pss_nil)))))
      (pss_one (ps_ret (pv 2))))), ?_⟩
    obtain ⟨dx, wa, pa, ha, hwa, hpa⟩ := id hl
    refine ⟨Nat.zero_le _, fun J hJ => ?_⟩
    refine ⟨_, rfl, _, _, rfl, ⟨sB_line (by omega), rfl⟩, _, _, rfl, ?_, ?_⟩
    · rw [sB_length]; omega
    have en : (((sB x).length : Int) - 1).toNat = x.length - 1 := by rw [sB_length]; omega
    rw [en]
    refine for_it (n := x.length - 1) walk_range (fun i σ H' => ∃ u v w, σ = [some (.ref a), some (.str (sB x)), some (.ref J), u, v, w] ∧ Same H H' ∧ H' J = some (.lst (vN (((gaps x).take i).filter (jointOk s_ x))))) ⟨none, none, none, rfl, same_upd hJ, upd_same⟩ (fun _ _ _ _ _ => trivial) ?_ ?_
    · rintro i y σ H2 H2' hi ⟨u, v, w, rfl, sm, hJ2⟩ e
      obtain ⟨rfl, rfl⟩ := rng1 e
      have er : ((gaps x).take (i + 1)).filter (jointOk s_ x) = ((gaps x).take i).filter (jointOk s_ x) ++ if jointOk s_ x (i + 1) = true then [i + 1] else [] := by
        rw [take_more (gaps_get hi), List.filter_append]
        congr 1
        cases z : jointOk s_ x (i + 1) <;> simp [z]
      refine ⟨_, rfl, _, _, _, _, _, rfl, sm _ _ ha, T.WordList.cl, T.WordList_n_words, WordList_l_words, _, rfl, _, rfl, _, rfl, _, rfl, sB_line (by omega), ?_⟩
      rw [cut_to]
      refine ⟨wa, s_.words, _, rfl, hwa.same sm, fun H3 s3 => ?_⟩
      refine ⟨_, rfl, _, _, _, _, _, rfl, s3 _ _ (sm _ _ ha), T.WordList.cl, T.WordList_n_words, WordList_l_words, _, rfl, _, rfl, _, rfl, _, rfl, sB_line (by omega), ?_⟩
      rw [cut_from]
      refine ⟨wa, s_.words, _, rfl, (hwa.same sm).same s3, fun H4 s4 => ?_⟩
      have sm4 := (sm.trans s3).trans s4
      have hJ4 := s4 _ _ (s3 _ _ hJ2)
      have ej : jointOk s_ x (i + 1) = ((s_.words.findIdx? (isW (x.take (i + 1)))).isSome && (s_.words.findIdx? (isW (x.drop (i + 1)))).isSome) := by
        unfold jointOk
        rw [any_find, any_find]
        rfl
      rw [er, ej]
      cases s_.words.findIdx? (isW (x.take (i + 1))) with
      | none => exact ⟨_, rfl, rfl, _, rfl, ifb (fun z => by cases z) (fun _ => ⟨_, _, _, rfl, sm4, by rw [hJ4]; simp⟩)⟩
      | some q1 =>
        refine ⟨_, rfl, rfl, _, rfl, ifb (fun _ => ?_) (fun z => by cases z)⟩
        cases s_.words.findIdx? (isW (x.drop (i + 1))) with
        | none => exact ⟨_, rfl, rfl, _, rfl, ifb (fun z => by cases z) (fun _ => ⟨_, _, _, rfl, sm4, by rw [hJ4]; simp⟩)⟩
        | some q2 =>
          refine ⟨_, rfl, rfl, _, rfl, ifb (fun _ => ?_) (fun z => by cases z)⟩
          refine ⟨_, rfl, .inl ⟨rfl, _, SqL.of hJ4⟩, _, rfl, _, _, _, rfl, rfl, hJ4, ?_, ?_⟩
          · rw [vN_length]
            exact small_lt (Nat.lt_of_le_of_lt (List.length_filter_le _ _) (by rw [List.length_take]; omega))
          · exact ⟨_, _, _, rfl, same_updO sm4 hJ, by rw [upd_same, ← vN_snoc]; rfl⟩
    · rintro σ H2 ⟨u, v, w, rfl, sm, hJ2⟩
      rw [← gaps_length, List.take_length] at hJ2
      exact ⟨_, rfl, k J H2 sm hJ hJ2⟩
def sp_parted_as_two (T : PEnv K mg) : Sp := fun vs H Q _ => ∃ (a : Addr) (s : Lst) (x : Bytes) (g : Nat), vs = [.ref a, .str (sB x), .int (g : Nat)] ∧ LstAt T H a s ∧ (∀ p ∈ s.pats, POk p) ∧ x.length ≤ 1000 ∧ Gives H Q (vN (Vahypz.asTwo s x g))
theorem sc_parted_as_two : FnScope ["word_list", "letters", "joint", "first", "second", "gap"] ["word_list", "letters", "joint"] (defScope s_parted_as_two) := ⟨rfl, rfl, rfl, by decide +kernel, rfl, by decide +kernel, by decide +kernel⟩
theorem ok_parted_as_two (T : PEnv K mg) {P : Program} {w : World} {base : Heap} : FnOk P w K mg base CX0 5 T.parted_as_two.f T.parted_as_two.fd ["word_list", "letters", "joint"] (sp_parted_as_two T) := by
  refine T.parted_as_two.F.ok sc_parted_as_two (fun vs H Q E h => ?_) (fun cdv A outer s H vs Q E hr h => ?_)
  · obtain ⟨a, s_, x, g, rfl, _⟩ := h
    rfl
  · obtain ⟨a, s_, x, g, rfl, hl, ok, hx, k⟩ := h
    refine ⟨_, (pss_cons (ps_set (i := 3) sc_parted_as_two.nd rfl (Or.inl rfl) (pe_call (ok_parted_gaps T) (hr.mono (by decide)) rfl T.parted_gaps.g T.parted_gaps.F.kp T.parted_gaps.b .nil pass0 (pa_cons (pv 0) (pa_cons (pe_slice sl_str (pv 1) po_none (po_some (pv 2))) pa_nil))))
      (pss_cons (ps_set (i := 4) sc_parted_as_two.nd rfl (Or.inl rfl) (pe_call (ok_parted_gaps T) (hr.mono (by decide)) rfl T.parted_gaps.g T.parted_gaps.F.kp T.parted_gaps.b .nil pass0 (pa_cons (pv 0) (pa_cons (pe_slice sl_str (pv 1) (po_some (pv 2)) po_none) pa_nil))))
      (pss_one (ps_ret (pe_op op_cat (pe_op op_cat (pv 3) (pe_lst (pa_cons (pv 2) pa_nil))) (pe_lc (own := [("gap", 5)]) (g := gName 5) (tt := tYes) rfl sc_parted_as_two.nd (pi_list (pv 4)) (blkOk_by (own := [("gap", 5)]) (N := ["word_list", "letters", "joint", "first", "second", "gap"]) (sc := defScope s_parted_as_two) (by decide +kernel)) (fun _ _ _ _ _ => (pg_name (i := 5) sc_parted_as_two.nd rfl (Or.inl rfl))) (fun _ _ _ _ _ => pts_nil) (fun _ _ _ _ _ => (pe_op op_add (pv 2) (pv 5))))))))), ?_⟩
    have hl1 := parts_le s_ (x.take g)
    have hl2 := parts_le s_ (x.drop g)
    rw [List.length_take] at hl1
    rw [List.length_drop] at hl2
    refine ⟨_, rfl, _, rfl, _, rfl, _, rfl, _, rfl, sB_line (by omega), ?_⟩
    rw [cut_to]
    refine ⟨a, s_, _, rfl, hl, ok, by rw [List.length_take]; omega, fun F H1 s1 nF hF => ?_⟩
    refine ⟨_, rfl, _, rfl, _, rfl, _, rfl, _, rfl, sB_line (by omega), ?_⟩
    rw [cut_from]
    refine ⟨a, s_, _, rfl, hl.same s1, ok, by rw [List.length_drop]; omega, fun S H2 s2 nS hS => ?_⟩
    have s12 := s1.trans s2
    have hF2 := s2 _ _ hF
    refine ⟨_, rfl, _, rfl, Nat.le_of_ble_eq_true rfl, fun c hc => ?_⟩
    have nFc : F ≠ c := ne_of_none hF2 hc
    have s3 := same_upd (o := .lst [.int (g : Nat)]) hc
    refine ⟨F, c, _, _, rfl, rfl, s3 _ _ hF2, upd_same, ?_, fun d hd => ?_⟩
    · rw [vN_length]
      exact small_line (by show _ + 1 ≤ _; omega)
    have s4 := same_upd (o := .lst (vN (parts s_ (x.take g)) ++ [.int (g : Nat)])) hd
    have s34 := s3.trans s4
    have hS4 := s34 _ _ hS
    refine ⟨_, rfl, S, rfl, ⟨_, SqL.of hS4⟩, fun D hD => ?_⟩
    refine lc_list (K := K) (a := S) (xs := vN (parts s_ (x.drop g))) (fun i H' => Same (upd (upd H2 c (.lst [.int (g : Nat)])) d (.lst (vN (parts s_ (x.take g)) ++ [.int (g : Nat)]))) H' ∧ H' D = some (.lst (vN (((parts s_ (x.drop g)).take i).map fun k => g + k)))) ⟨same_upd hD, upd_same⟩ (fun i H' _ q => SqL.of (q.1 _ _ hS4)) (fun i y H5 hi q => ?_) fun H5 q => ?_
    · obtain ⟨n, hn, rfl⟩ := vN_at hi
      refine ⟨rfl, lc_yes ⟨_, rfl, _, rfl, _, _, rfl, rfl, _, q.2, ?_, same_updO q.1 hD, ?_⟩⟩
      · rw [vN_length, List.length_map, List.length_take]
        exact small_lt (by omega)
      · rw [upd_same, take_more hn, List.map_append, List.map_cons, List.map_nil, vN_snoc]
        rfl
    rw [vN_length, List.take_length] at q
    have hd5 := q.1 _ _ (upd_same (H := upd H2 c (.lst [.int (g : Nat)])) (a := d) (o := .lst (vN (parts s_ (x.take g)) ++ [.int (g : Nat)])))
    refine ⟨d, D, _, _, rfl, rfl, hd5, q.2, ?_, fun e he => ?_⟩
    · rw [List.length_append, vN_length, vN_length, List.length_map]
      exact small_line (by show _ + 1 + _ ≤ _; omega)
    · have s5 : Same H H5 := (s12.trans s34).trans q.1
      refine k e _ (same_updO s5 (s5.free he)) (s5.free he) ?_
      rw [upd_same]
      unfold Vahypz.asTwo
      rw [vN_append, vN_append]
      simp [vN]
def sp_letters_of (T : PEnv K mg) : Sp := fun vs H Q E => ∃ (a : Addr) (b : Bytes), vs = [.ref a] ∧ SqL K H a (vB b) ∧ b.length ≤ 10000 ∧ (readLetters b = none → RefE T E H (-4)) ∧ (∀ x, readLetters b = some x → x.length ≤ 16 → ∀ H', Same H H' → Q (.str (sB x)) H')
theorem sc_letters_of : FnScope ["told", "byte"] ["told"] (defScope s_letters_of) := ⟨rfl, rfl, rfl, by decide +kernel, rfl, by decide +kernel, by decide +kernel⟩
theorem ok_letters_of (T : PEnv K mg) {P : Program} {w : World} {base : Heap} : FnOk P w K mg base (L2.CX P w) 4 T.letters_of.f T.letters_of.fd ["told"] (sp_letters_of T) := by
  refine T.letters_of.F.okX sc_letters_of (fun vs H Q E h => ?_) (fun cdv A outer s H vs Q E hr h => ?_)
  · obtain ⟨a, b, rfl, _⟩ := h
    rfl
  · obtain ⟨a, b, rfl, ha, hb, kE, k⟩ := h
    refine ⟨_, (pss_cons (ps_if (PW.pt (pw_or (pt_cmpR op_lt (pe_callB call_len (by rfl) T.b_len (by decide +kernel) (pa_cons (pv 0) pa_nil)) (pe_glob (v := .int 2) rfl T.c_FEWEST_LETTERS_OF_WORD.e ⟨_, rfl⟩) (nomark _)) (pw_or1 (pt_cmpR op_gt (pe_callB call_len (by rfl) T.b_len (by decide +kernel) (pa_cons (pv 0) pa_nil)) (pe_glob (v := .int 16) rfl T.c_MOST_LETTERS_OF_WORD.e ⟨_, rfl⟩) (nomark _)))))
        (pss_one (L2.ps_raise rfl (L2.takes_of rfl rfl rfl rfl) (pmk_plain (pmk0 T.NotAsTold_T (NotAsToldI T) (room2 hr) T.NotAsTold.g (by rfl)))))
        pss_nil)
      (pss_cons (ps_if (pt_not (pt_val (pe_callB (cr_all rfl) (by rfl) T.b_all (by decide +kernel) (pa_cons (pe_lc (own := [("byte", 1)]) (g := gName 1) (tt := tYes) rfl sc_letters_of.nd (pi_list (pv 0)) (blkOk_by (own := [("byte", 1)]) (N := ["told", "byte"]) (sc := defScope s_letters_of) (by decide +kernel)) (fun _ _ _ _ _ => (pg_name (i := 1) sc_letters_of.nd rfl (Or.inl rfl))) (fun _ _ _ _ _ => pts_nil) (fun _ _ _ _ _ => (pe_call (ok_is_small_letter T) (hr.mono (by decide)) rfl T.is_small_letter.g T.is_small_letter.F.kp T.is_small_letter.b .nil pass0 (pa_cons (pv 1) pa_nil)))) pa_nil))))
        (pss_one (L2.ps_raise rfl (L2.takes_of rfl rfl rfl rfl) (pmk_plain (pmk0 T.NotAsTold_T (NotAsToldI T) (room2 hr) T.NotAsTold.g (by rfl)))))
        pss_nil)
      (pss_one (ps_ret (pe_call (ok_signs_of T) (hr.mono (by decide)) rfl T.signs_of.g T.signs_of.F.kp T.signs_of.b .nil pass0 (pa_cons (pv 0) pa_nil)))))), ?_⟩
    have eR : readLetters b = if b.length < 2 ∨ 16 < b.length ∨ b.all isLetter = false then none else some b := rfl
    rw [eR] at kE k
    have bad : (b.length < 2 ∨ 16 < b.length ∨ b.all isLetter = false) → ∀ H1, Same H H1 → ∀ d, H1 d = none → E (.ref T.NotAsTold.C) (some d) (upd H1 d (.xd [("code", .int (-4))])) := fun c H1 s1 d hd => kE (if_pos c) _ _ d (.inr (.inr (.inr (.inl rfl)))) (s1.trans (same_upd hd)) upd_same
    refine ⟨_, rfl, _, _, rfl, .inl ⟨_, ha, rfl⟩, _, _, rfl, rfl, _, rfl, ifd (fun h1 => iteT ?_) (fun h1 => ⟨_, rfl, _, _, rfl, .inl ⟨_, ha, rfl⟩, _, _, rfl, rfl, _, rfl, ifd (fun h2 => ?_) (fun h2 => ?_)⟩)⟩
    · rw [vB_length] at h1
      exact fun d hd => bad (.inl (by omega)) H (Same.refl _) d hd
    · rw [vB_length] at h2
      exact fun d hd => bad (.inr (.inl (by omega))) H (Same.refl _) d hd
    rw [vB_length] at h1 h2
    refine ⟨_, rfl, a, rfl, ⟨_, ha⟩, fun D hD => ?_⟩
    refine lc_list (K := K) (a := a) (xs := vB b) (fun i H' => Same H H' ∧ H' D = some (.lst (((b.take i).map isLetter).map V.bl))) ⟨same_upd hD, upd_same⟩ (fun i H' _ q => sq_same ha q.1) (fun i y H1 hi q => ?_) fun H1 q => ?_
    · obtain ⟨c, hc, rfl⟩ := vB_get hi
      refine ⟨rfl, lc_yes ⟨_, rfl, c, rfl, _, q.2, ?_, same_updO q.1 hD, ?_⟩⟩
      · rw [List.length_map, List.length_map, List.length_take]
        exact small_lt (by omega)
      · rw [upd_same, take_more hc]
        simp
    rw [vB_length, List.take_length] at q
    refine ⟨D, b.map isLetter, rfl, SqL.of q.2, _, rfl, ?_⟩
    have e : (b.map isLetter).all id = b.all isLetter := by
      rw [List.all_map]
      rfl
    rw [e]
    refine ifb (fun h4 => ?_) (fun h4 => ?_)
    · have h5 : b.all isLetter = false := by
        cases z : b.all isLetter with
        | false => rfl
        | true => rw [z] at h4; cases h4
      exact fun d hd => bad (.inr (.inr h5)) H1 q.1 d hd
    · have h5 : b.all isLetter = true := by
        cases z : b.all isLetter with
        | true => rfl
        | false => rw [z] at h4; cases h4
      refine ⟨_, rfl, a, b, rfl, sq_same ha q.1, ?_, by omega, fun H2 s2 => ?_⟩
      · intro c hc
        have := List.all_eq_true.mp h5 c hc
        unfold inChunk
        rw [this]
        rfl
      · refine k b (if_neg ?_) (by omega) H2 (q.1.trans s2)
        rintro (z | z | z)
        · omega
        · omega
        · rw [z] at h5; cases h5
def sp_check_number (T : PEnv K mg) : Sp := fun vs H Q E => ∃ (a : Addr) (i : Int) (xs : List V), vs = [.int i, .ref a] ∧ SqL K H a xs ∧ (index i xs.length = none → RefE T E H (-2)) ∧ (∀ j, index i xs.length = some j → j < xs.length → i = (j : Nat) → Q .non H)
theorem sc_check_number : FnScope ["number", "entries"] ["number", "entries"] (defScope s_check_number) := ⟨rfl, rfl, rfl, by decide +kernel, rfl, by decide +kernel, by decide +kernel⟩
theorem ok_check_number (T : PEnv K mg) {P : Program} {w : World} {base : Heap} : FnOk P w K mg base (L2.CX P w) 1 T.check_number.f T.check_number.fd ["number", "entries"] (sp_check_number T) := by
  refine T.check_number.F.okX sc_check_number (fun vs H Q E h => ?_) (fun cdv A outer s H vs Q E hr h => ?_)
  · obtain ⟨a, i, xs, rfl, _⟩ := h
    rfl
  · obtain ⟨a, i, xs, rfl, ha, kE, k⟩ := h
    refine ⟨_, (pss_one (ps_if (PW.pt (pw_or (pt_cmpR op_lt (pv 0) pe_int (nomark _)) (pw_or1 (pt_cmpR op_ge (pv 0) (pe_callB call_len (by rfl) T.b_len (by decide +kernel) (pa_cons (pv 1) pa_nil)) (nomark _)))))
        (pss_one (L2.ps_raise rfl (L2.takes_of rfl rfl rfl rfl) (pmk_plain (pmk0 T.NoSuchNumber_T (NoSuchNumberI T) (room2 hr) T.NoSuchNumber.g (by rfl)))))
        pss_nil)), ?_⟩
    have eR : index i xs.length = if 0 ≤ i ∧ i < (xs.length : Int) then some i.toNat else none := rfl
    rw [eR] at kE k
    have bad : ¬ (0 ≤ i ∧ i < (xs.length : Int)) → ∀ d, H d = none → E (.ref T.NoSuchNumber.C) (some d) (upd H d (.xd [("code", .int (-2))])) := fun c d hd => kE (if_neg c) _ _ d (.inr (.inl rfl)) (same_upd hd) upd_same
    refine ⟨_, rfl, _, _, rfl, rfl, _, rfl, ifd (fun h1 => iteT ?_) (fun h1 => ⟨_, rfl, _, rfl, _, _, rfl, .inl ⟨_, ha, rfl⟩, _, _, rfl, rfl, _, rfl, ifd (fun h2 => ?_) (fun h2 => ?_)⟩)⟩
    · exact fun d hd => bad (by omega) d hd
    · exact fun d hd => bad (by omega) d hd
    · exact k _ (if_pos (by omega)) (by omega) (by omega)
def sp_break_of (T : PEnv K mg) : Sp := fun vs H Q _ => ∃ (a : Addr) (s : Lst) (x : Bytes) (n : Nat), vs = [.ref a, .str (sB x), .int (n : Nat)] ∧ LstAt T H a s ∧ (∀ p ∈ s.pats, POk p) ∧ x.length ≤ 1000 ∧ ∀ H', Same H H' → Q (numV (Vahypz.breakAt s x n)) H'
theorem sc_break_of : FnScope ["word_list", "letters", "places_left", "fitting", "gap"] ["word_list", "letters", "places_left"] (defScope s_break_of) := ⟨rfl, rfl, rfl, by decide +kernel, rfl, by decide +kernel, by decide +kernel⟩
theorem ok_break_of (T : PEnv K mg) {P : Program} {w : World} {base : Heap} : FnOk P w K mg base CX0 5 T.break_of.f T.break_of.fd ["word_list", "letters", "places_left"] (sp_break_of T) := by
  refine T.break_of.F.ok sc_break_of (fun vs H Q E h => ?_) (fun cdv A outer s H vs Q E hr h => ?_)
  · obtain ⟨a, s_, x, n, rfl, _⟩ := h
    rfl
  · obtain ⟨a, s_, x, n, rfl, hl, ok, hx, k⟩ := h
    refine ⟨_, (pss_cons (ps_setLc (i := 3) (own := [("gap", 4)]) (g := gName 4) rfl sc_break_of.nd rfl rfl (sw_true rfl rfl rfl (by decide +kernel)) (pi_list (pe_call (ok_parted_gaps T) (hr.mono (by decide)) rfl T.parted_gaps.g T.parted_gaps.F.kp T.parted_gaps.b .nil pass0 (pa_cons (pv 0) (pa_cons (pv 1) pa_nil)))) (blkOk_by (own := [("gap", 4)]) (N := ["word_list", "letters", "places_left", "fitting", "gap"]) (sc := defScope s_break_of) (by decide +kernel)) (fun _ _ _ _ _ => (pg_name (i := 4) sc_break_of.nd rfl (Or.inl rfl))) (fun _ _ _ _ _ => (pts_one (pt_cmpR op_le (pv 4) (pe_op op_sub (pv 2) pe_int) (nomark _)))) (fun _ _ _ _ _ => (pv 4)))
      (pss_cons (ps_if (pt_cmpR op_eq (pe_callB call_len (by rfl) T.b_len (by decide +kernel) (pa_cons (pv 3) pa_nil)) pe_int (nomark _))
        (pss_one (ps_ret pe_non))
        pss_nil)
      (pss_one (ps_ret (pe_ix ix_list (pv 3) (pe_un un_neg pe_int) (fun _ _ => rfl)))))), ?_⟩
    have hl1 := parts_le s_ x
    have eB : Vahypz.breakAt s_ x n = ((parts s_ x).filter fun g => decide (g + 1 ≤ n)).getLast? := rfl
    refine ⟨_, rfl, _, rfl, a, s_, x, rfl, hl, ok, hx, fun G H1 s1 nG hG => ⟨G, rfl, ⟨_, SqL.of hG⟩, fun D hD => ?_⟩⟩
    refine lc_list (K := K) (a := G) (xs := vN (parts s_ x)) (fun i H' => Same H1 H' ∧ H' D = some (.lst (vN (((parts s_ x).take i).filter fun g => decide (g + 1 ≤ n))))) ⟨same_upd hD, upd_same⟩ (fun i H' _ q => SqL.of (q.1 _ _ hG)) (fun i y H5 hi q => ?_) fun H5 q => ?_
    · obtain ⟨g, hg, rfl⟩ := vN_at hi
      rw [take_more hg, List.filter_append]
      refine ⟨rfl, _, rfl, _, rfl, _, _, rfl, rfl, _, _, rfl, rfl, _, rfl, ifd (fun h1 => ?_) (fun h1 => ?_)⟩
      · refine ⟨_, rfl, _, q.2, ?_, same_updO q.1 hD, ?_⟩
        · rw [vN_length]
          exact small_lt (Nat.lt_of_le_of_lt (List.length_filter_le _ _) (by rw [List.length_take]; omega))
        · rw [upd_same, ← vN_snoc]
          congr 3
          have h2 : g + 1 ≤ n := by omega
          simp [h2]
      · refine ⟨q.1, ?_⟩
        rw [q.2]
        congr 3
        have h2 : ¬ (g + 1 ≤ n) := by omega
        simp [h2]
    rw [vN_length, List.take_length] at q
    rw [eB] at k
    generalize (parts s_ x).filter (fun g => decide (g + 1 ≤ n)) = l at *
    refine ⟨_, rfl, _, _, rfl, .inl ⟨_, SqL.of q.2, rfl⟩, rfl, _, rfl, ?_⟩
    rw [vN_length, eq_int0]
    refine ifd (fun h1 => ?_) (fun h1 => ?_)
    · rw [List.eq_nil_of_length_eq_zero h1] at k
      exact k H5 (s1.trans q.1)
    · obtain ⟨m, z, rfl⟩ : ∃ m z, l = m ++ [z] := by
        rcases List.eq_nil_or_concat l with e | ⟨m, z, e⟩
        · rw [e] at h1
          exact absurd rfl h1
        · exact ⟨m, z, by rw [e, List.concat_eq_append]⟩
      rw [List.getLast?_append] at k
      refine ⟨_, rfl, _, rfl, D, _, _, _, rfl, rfl, SqL.of q.2, by rw [vN_snoc]; exact L2.atI_last _ _, k H5 (s1.trans q.1)⟩
end
end PwX

/-! ## PwEnum -/
namespace PwX
open PySem PySem.Spec PyProof.Rows L2
/-! ### enumerate over a text, in a for whose target is a pair of names -/
theorem draws_text {P : Program} {w : World} {A : Around} (h : A.handled = none) (it : Addr) (z : Str) (t : Tok) :
    Draws P w A it [it] z.cps.size (fun i v => ∃ c u, z.cps[i]? = some c ∧ v = .str ⟨#[c]⟩ u) (fun i h => h.IsStrIter it (strIterType z) z t i) := by
  unfold strIterType
  split
  · exact Draws.strAscii h it z t
  · exact Draws.strWide h it z t
/-- the walk: each turn a new pair of the number and the sign -/
def Itx (z : Str) : L2.It where
  go i _ := i < z.cps.size
  yld i H v H' := ∃ T c, v = V.ref T ∧ H T = none ∧ z.cps[i]? = some c ∧ H' = upd H T (.tup [.int (i : Nat), .str ⟨#[c]⟩])
  stop i _ := i = z.cps.size
def TnX (z : Str) (t : Tok) (e it : Addr) (i : Nat) (h : Heap) : Prop := (∃ old, IsEnum h e it (i : Nat) old) ∧ h.IsStrIter it (strIterType z) z t i ∧ e ≠ it
theorem either {e it b : Addr} {p : Addr → Prop} (h : b ∈ [e, it]) (h1 : p e) (h2 : p it) : p b := by
  rcases List.mem_cons.mp h with z | z
  · rw [z]; exact h1
  · rw [List.mem_singleton.mp z]; exact h2
theorem in_fst {e it : Addr} : e ∈ [e, it] := List.mem_cons_self
theorem in_snd {e it : Addr} : it ∈ [e, it] := List.mem_cons_of_mem _ List.mem_cons_self
theorem turnX {P : Program} {w : World} {K : PySem.W.Frag} {elts : List Expr} {kk : Nat} {tp : Pos} (z : Str) (t : Tok) (e it : Addr) : Turn P w K (.Tuple elts kk tp) (Itx z) [e, it] e (TnX z t e it) where
  mem := in_fst
  obj i h st b hb := by
    obtain ⟨⟨old, he⟩, ⟨o, ho, hc, hd⟩, ne⟩ := st
    refine either (p := fun b => ∃ o, h.get? b = some o ∧ ∀ v, o.data ≠ .cell v) hb ⟨_, he, fun v q => by cases q⟩ ⟨o, ho, fun v q => ?_⟩
    rw [hd] at q
    cases q
  keep i h h' st k := by
    obtain ⟨⟨old, he⟩, ⟨o, ho, hc⟩, ne⟩ := st
    exact ⟨⟨old, k e in_fst _ he⟩, ⟨o, k it in_snd _ ho, hc⟩, ne⟩
  item X hP hw hK hc i pins s σ H E I hf st hg := by
    subst hP hw hK
    obtain ⟨⟨old, he⟩, hit, ne⟩ := st
    have be : e < s.heap.objs.size := Heap.lt_size he
    have bi : it < s.heap.objs.size := let ⟨o, ho, _⟩ := hit; Heap.lt_size ho
    refine wpAny_pyNext_enum_itemD (St := fun i h => h.IsStrIter it (strIterType z) z t i) (draws_text (A := X.A.in1) (I.ok.hd hc) it z t) he hit hg ne (fun q => ne (List.mem_singleton.mp q)) fun x h' tk hx ho hit' hT hsz hk => ?_
    obtain ⟨c, u, hc1, rfl⟩ := hx
    refine ⟨_, rfl, wpAny_letOwnedTupleGo_enum ho fun h'' he'' sb => ?_⟩
    have hT' : h''.get? s.heap.objs.size = _ := (sb.2 _ (Nat.ne_of_gt be)).trans hT
    have hkeep : ∀ b o, ¬ b ∈ [e, it] → s.heap.get? b = some o → h''.get? b = some o := fun b o hb q => by
      have n1 : b ≠ e := fun y => hb (by rw [y]; exact in_fst)
      have n2 : b ≠ it := fun y => hb (by rw [y]; exact in_snd)
      rw [sb.2 b n1]
      exact hk b o n1 n2 q
    have new : ObjOk X.prog X.w (upd H s.heap.objs.size (.tup [.int (i : Nat), .str ⟨#[c]⟩])) h'' s.heap.objs.size (.tup [.int (i : Nat), .str ⟨#[c]⟩]) :=
      ⟨Nat.le_of_ble_eq_true rfl, [_, _], .cons ⟨tk, rfl⟩ (.cons ⟨u, rfl⟩ .nil), _, hT', rfl, 0, rfl⟩
    refine ⟨V.ref s.heap.objs.size, _, Inv.turnedNew (s := s) (T := s.heap.objs.size) I hkeep hf (Nat.le_refl _) new, rfl, ⟨_, c, rfl, HOk.fresh I.hok (Nat.le_refl _), hc1, rfl⟩, ⟨⟨_, he''⟩, ?_, ne⟩, fun b hb => ?_⟩
    · obtain ⟨o, q1, q2⟩ := hit'
      exact ⟨o, (sb.2 it (fun y => ne y.symm)).trans q1, q2⟩
    · have lt : b < s.heap.objs.size := either (p := fun b => b < s.heap.objs.size) hb be bi
      rw [upd_ne (Nat.ne_of_lt lt)]
      exact (hf b hb).1
  done X hP hw hK hc i pins s σ H E I hf st hg := by
    subst hP hw hK
    obtain ⟨⟨old, he⟩, hit, ne⟩ := st
    have ei : i = z.cps.size := hg
    subst ei
    obtain ⟨f0, f1, f2, f3, f4, f5⟩ := hf it in_snd
    exact wpAny_pyNext_enum_endD (St := fun i h => h.IsStrIter it (strIterType z) z t i) (draws_text (A := X.A.in1) (I.ok.hd hc) it z t) he hit fun h' eb => ⟨rfl, Inv.turned I (fun b o hb q => eb b o hb q) f0 f1 f3 f4 f5⟩
  self A i s Q E st h := by
    obtain ⟨⟨old, he⟩, _⟩ := st
    exact wpAny_pyIter_enum he h
def iEnumX (ta : TA) : TI := fun σ H R => ta σ H fun vs H1 => ∃ z, vs = [V.str z] ∧ R (Itx z) H1
theorem pi_enumS {X : Cx} {e : Expr} {ta : TA} {p pos tpos : Pos} {elts : List Expr} {kk : Nat} (hg : Gl X "enumerate") (hm : X.mg "enumerate" = none) (ha : PA X [e] ta) (hs : starEach [e] X.env = [(false, eval e X.env)] := by rfl) :
    PI X (.Tuple elts kk tpos) (.Call (.Name "enumerate" p) [e] [] pos) (iEnumX ta) where
  run pins s σ H R I h := by
    refine Call_ (ld_blt I hg hm boot_enumerate (callWith_type1 ?_ hs rfl) (by decide) (by decide)) rfl
    refine thn (ha.run pos pins s σ H _ I h) fun us s1 ⟨vs, H1, I1, r1, z, ez, q⟩ => ?_
    subst ez
    cases r1 with
    | cons r rr =>
      cases rr
      obtain ⟨t, rfl⟩ := r
      refine call_enumerate_str fun h' he hit hsz hk => wpAny_pyIter_enum he ?_
      have I2 := I1.kept (t' := s1.toks) hk
      refine ⟨s1.heap.objs.size + 1, [s1.heap.objs.size + 1, s1.heap.objs.size], _, Itx z, H1, rfl, I2, turnX z t _ _, ⟨⟨_, he⟩, hit, Nat.succ_ne_self _⟩, fun b hb => ?_, q⟩
      have ge : s1.heap.objs.size ≤ b := either (p := fun b => s1.heap.objs.size ≤ b) hb (Nat.le_succ _) (Nat.le_refl _)
      exact Inv.fpOk I1 ge (HOk.fresh I1.hok ge)
theorem walk_enumX {z : Str} : Walk (Itx z) z.cps.size (fun _ => True) (fun i H v H' => ∃ T c, v = V.ref T ∧ H T = none ∧ z.cps[i]? = some c ∧ H' = upd H T (.tup [.int (i : Nat), .str ⟨#[c]⟩])) where
  goes i _ hi _ := hi
  stops _ _ := rfl
  yields _ _ _ _ _ _ y := y
end PwX

/-! ## PwForm -/
namespace Pw
open VahypBase Vahypa
/-! ### the one form -/
def wPiece (cuts : List Nat) (c : UInt8 × Nat) : Bytes := if cuts.contains c.2 = true ∧ 0 < c.2 then [45, c.1] else [c.1]
def hyphTo (w : Word) (i : Nat) : Bytes := (w.x.take i).zipIdx.flatMap (wPiece w.cuts)
theorem hyph_end (w : Word) : hyphTo w w.x.length = hyphened w.x w.cuts := by
  unfold hyphTo
  rw [List.take_length]
  rfl
theorem zip_take {α : Type} {l : List α} {i : Nat} {c : α} (h : l[i]? = some c) : (l.take (i + 1)).zipIdx = (l.take i).zipIdx ++ [(c, i)] := by
  have hl : i < l.length := (List.getElem?_eq_some_iff.mp h).1
  rw [take_more' h, List.zipIdx_append, List.length_take, Nat.min_eq_left (Nat.le_of_lt hl), Nat.zero_add]
  rfl
theorem hyph_step {w : Word} (ok : WOk w) {i : Nat} {c : UInt8} (h : w.x[i]? = some c) : hyphTo w (i + 1) = hyphTo w i ++ if w.cuts.contains i = true then [45, c] else [c] := by
  unfold hyphTo
  rw [zip_take h, List.flatMap_append]
  congr 1
  show wPiece w.cuts (c, i) ++ [] = _
  rw [List.append_nil]
  unfold wPiece
  dsimp only
  by_cases hc : w.cuts.contains i = true
  · have := ok.in_ i (List.contains_iff_mem.mp hc)
    rw [if_pos ⟨hc, by omega⟩, if_pos hc]
  · rw [if_neg (fun z => hc z.1), if_neg hc]
theorem hyph_len (w : Word) : ∀ i, i ≤ w.x.length → (hyphTo w i).length ≤ 2 * i
  | 0, _ => by
    unfold hyphTo
    rw [List.take_zero]
    exact Nat.le_refl _
  | i + 1, h => by
    have ih := hyph_len w i (by omega)
    have hg : w.x[i]? = some (w.x[i]'(by omega)) := List.getElem?_eq_getElem (by omega)
    unfold hyphTo at ih ⊢
    rw [zip_take hg, List.flatMap_append, List.length_append]
    have : ([(w.x[i]'(by omega), i)].flatMap (wPiece w.cuts)).length ≤ 2 := by
      show (wPiece w.cuts (_, i) ++ []).length ≤ 2
      rw [List.append_nil]
      unfold wPiece
      split <;> exact Nat.le_of_ble_eq_true rfl
    omega
def pPiece (p : Pat) (c : UInt8 × Nat) : Bytes := digit (p.levels[c.2]?.getD 0) ++ [c.1]
def midTo (p : Pat) (i : Nat) : Bytes := (p.x.take i).zipIdx.flatMap (pPiece p)
def patTo (p : Pat) (i : Nat) : Bytes := (if p.front = true then [46] else []) ++ midTo p i
theorem pat_end (p : Pat) : patTo p p.x.length ++ (digit (p.levels[p.x.length]?.getD 0) ++ (if p.halt_ = true then [46] else [])) = showPat p := by
  unfold patTo midTo showPat
  rw [List.take_length, List.append_assoc]
  rfl
theorem pat_step {p : Pat} {i : Nat} {c : UInt8} (h : p.x[i]? = some c) : patTo p (i + 1) = patTo p i ++ (digit (p.levels[i]?.getD 0) ++ [c]) := by
  unfold patTo midTo
  rw [zip_take h, List.flatMap_append, List.append_assoc]
  congr 2
  show pPiece p (c, i) ++ [] = _
  rw [List.append_nil]
  rfl
theorem digit_small : ∀ v : Fin 10, (digit v.val).length ≤ 1 := by decide
theorem digit_len {v : Nat} (h : v ≤ 9) : (digit v).length ≤ 1 := digit_small ⟨v, by omega⟩
theorem lev_nine {p : Pat} (ok : POk p) (i : Nat) : p.levels[i]?.getD 0 ≤ 9 := by
  cases e : p.levels[i]? with
  | none => exact Nat.zero_le _
  | some v => exact ok.nine v (List.mem_of_getElem? e)
theorem pat_len {p : Pat} (ok : POk p) : ∀ i, i ≤ p.x.length → (patTo p i).length ≤ 1 + 2 * i
  | 0, _ => by
    unfold patTo midTo
    rw [List.take_zero]
    split <;> exact Nat.le_of_ble_eq_true rfl
  | i + 1, h => by
    have ih := pat_len ok i (by omega)
    have hg : p.x[i]? = some (p.x[i]'(by omega)) := List.getElem?_eq_getElem (by omega)
    have := digit_len (lev_nine ok i)
    rw [pat_step hg, List.length_append, List.length_append]
    show _ + (_ + 1) ≤ _
    omega
theorem show_len {p : Pat} (ok : POk p) : (showPat p).length ≤ 16 := by
  have h1 := pat_len ok p.x.length (Nat.le_refl _)
  have h2 := digit_len (lev_nine ok p.x.length)
  have h3 := ok.most
  rw [← pat_end, List.length_append, List.length_append]
  have : (if p.halt_ = true then ([46] : Bytes) else []).length ≤ 1 := by split <;> decide
  omega
theorem hyphened_len {w : Word} (ok : WOk w) : (hyphened w.x w.cuts).length ≤ 32 := by
  have := hyph_len w w.x.length (Nat.le_refl _)
  have := ok.most
  rw [← hyph_end]
  omega
def headL (s : Lst) : Bytes := line (word "margins " ++ (showNat s.l ++ (word " " ++ (showNat s.r ++ word " ;"))))
def wordL (w : Word) : Bytes := line (word "word " ++ (hyphened w.x w.cuts ++ word " ;"))
def patL (p : Pat) : Bytes := line (word "pattern " ++ (showPat p ++ word " ;"))
theorem shown_eq (s : Lst) : shown s = headL s ++ (s.words.flatMap wordL ++ s.pats.flatMap patL) := rfl
theorem wordL_len {w : Word} (ok : WOk w) : (wordL w).length ≤ 50 := by
  have := hyphened_len ok
  unfold wordL line
  rw [List.length_append, List.length_append, List.length_append]
  have e1 : (word "word ").length = 5 := by decide
  have e2 : (word " ;").length = 2 := by decide
  rw [e1, e2]
  show _ + 1 ≤ _
  omega
theorem patL_len {p : Pat} (ok : POk p) : (patL p).length ≤ 50 := by
  have := show_len ok
  unfold patL line
  rw [List.length_append, List.length_append, List.length_append]
  have e1 : (word "pattern ").length = 8 := by decide
  have e2 : (word " ;").length = 2 := by decide
  rw [e1, e2]
  show _ + 1 ≤ _
  omega
theorem num_small : ∀ v : Fin 10, (showNat v.val).length ≤ 1 := by decide
theorem headL_len {s : Lst} (ok : LOk s) : (headL s).length ≤ 50 := by
  have h1 := num_small ⟨s.l, by have := ok.l5; omega⟩
  have h2 := num_small ⟨s.r, by have := ok.r5; omega⟩
  dsimp only at h1 h2
  unfold headL line
  rw [List.length_append, List.length_append, List.length_append, List.length_append, List.length_append]
  have e1 : (word "margins ").length = 8 := by decide
  have e2 : (word " ;").length = 2 := by decide
  have e3 : (word " ").length = 1 := by decide
  rw [e1, e2, e3]
  show _ + 1 ≤ _
  omega
theorem flatMap_take {α : Type} {f : α → Bytes} {l : List α} {i : Nat} {x : α} (h : l[i]? = some x) : (l.take (i + 1)).flatMap f = (l.take i).flatMap f ++ f x := by
  rw [take_more' h, List.flatMap_append]
  simp
theorem flatMap_len {α : Type} {f : α → Bytes} {n : Nat} : ∀ (l : List α), (∀ a ∈ l, (f a).length ≤ n) → (l.flatMap f).length ≤ n * l.length
  | [], _ => Nat.zero_le _
  | a :: l, h => by
    have ih := flatMap_len l fun b hb => h b (List.mem_cons_of_mem _ hb)
    have := h a List.mem_cons_self
    rw [List.flatMap_cons, List.length_append, List.length_cons, Nat.mul_succ]
    omega
theorem shown_len {s : Lst} (ok : LOk s) : (shown s).length ≤ 4000 := by
  have h1 := headL_len ok
  have h2 := flatMap_len (f := wordL) s.words fun w hw => wordL_len (ok.ws w hw)
  have h3 := flatMap_len (f := patL) s.pats fun p hp => patL_len (ok.ps p hp)
  have := ok.wmost
  have := ok.pmost
  rw [shown_eq, List.length_append, List.length_append]
  omega
end Pw

/-! ## PwD21 -/
namespace PwX
open PySem PySem.Spec PyProof.Rows L2
open VahypBase Vahypa Pw
section
variable {K : PySem.W.Frag} {mg : Str → Option Value}
def vS (ps : List Bytes) : List V := ps.map fun b => V.str (sB b)
theorem vS_length (ps : List Bytes) : (vS ps).length = ps.length := by simp [vS]
theorem vS_snoc (ps : List Bytes) (b : Bytes) : vS (ps ++ [b]) = vS ps ++ [V.str (sB b)] := by simp [vS]
theorem vS_map (ps : List Bytes) : vS ps = (ps.map sB).map V.str := by simp [vS]
theorem flat_snoc (ps : List Bytes) (b : Bytes) : (ps ++ [b]).flatten = ps.flatten ++ b := by simp
theorem str45 : ("-" : Str) = sB [45] := by decide +kernel
theorem str46 : ("." : Str) = sB [46] := by decide +kernel
theorem sum_lens (ps : List Bytes) : ((ps.map sB).map fun (y : Str) => y.length).sum = ps.flatten.length := by
  induction ps with
  | nil => rfl
  | cons b ps ih =>
    rw [List.map_cons, List.map_cons, List.sum_cons, ih, List.flatten_cons, List.length_append, sB_length]
theorem small_join {ps : List Bytes} (h : ps.flatten.length ≤ 1000000) : ((ps.map sB).map fun (y : Str) => y.length).sum + (ps.map sB).length * ("" : Str).length ≤ 16777216 := by
  have e : ("" : Str).length = 0 := by decide +kernel
  rw [sum_lens, e, Nat.mul_zero]
  exact Nat.le_trans h (by decide)
theorem num_str0 : ∀ v : Fin 10, (Str.ofString (toString ((v.val : Nat) : Int))) = sB (VahypBase.showNat v.val) := by decide +kernel
theorem num_str {v : Nat} (h : v ≤ 9) : (Str.ofString (toString ((v : Nat) : Int))) = sB (VahypBase.showNat v) := num_str0 ⟨v, by omega⟩
theorem num_log0 : ∀ v : Fin 10, ((v.val : Nat) : Int).natAbs.log2 < 1920 := by decide +kernel
theorem num_log {v : Nat} (h : v ≤ 9) : ((v : Nat) : Int).natAbs.log2 < 1920 := num_log0 ⟨v, by omega⟩
theorem atI_sB {b : Bytes} {i : Nat} {c : UInt8} (h : b[i]? = some c) : atI (sB b).cps.toList ((i : Nat) : Int) = some c.toNat := by
  have hl := (List.getElem?_eq_some_iff.mp h).1
  unfold atI
  rw [ixN_nat rfl (by rw [sB_cps, List.length_map]; exact hl)]
  show (sB b).cps.toList[i]? = _
  rw [sB_get, h]
  rfl
theorem digit_zero : digit 0 = [] := rfl
theorem digit_pos {v : Nat} (h : 0 < v) : digit v = VahypBase.showNat v := by
  unfold digit
  rw [if_neg (by omega)]

def sp_written_word (T : PEnv K mg) : Sp := fun vs H Q _ => ∃ (a : Addr) (w : Word), vs = [.ref a] ∧ WordAt T H a w ∧ WOk w ∧ ∀ H', Same H H' → Q (.str (sB (hyphened w.x w.cuts))) H'
theorem sc_written_word : FnScope ["word", "signs", "gap", "letter"] ["word"] (defScope s_written_word) := ⟨rfl, rfl, rfl, by decide +kernel, rfl, by decide +kernel, by decide +kernel⟩
theorem ok_written_word (T : PEnv K mg) {P : Program} {w : World} {base : Heap} : FnOk P w K mg base CX0 1 T.written_word.f T.written_word.fd ["word"] (sp_written_word T) := by
  refine T.written_word.F.ok sc_written_word (fun vs H Q E h => ?_) (fun cdv A outer s H vs Q E hr h => ?_)
  · obtain ⟨a, w, rfl, _⟩ := h
    rfl
  · obtain ⟨a, v, rfl, hw, ok, k⟩ := h
    refine ⟨_, (pss_cons (ps_set (i := 1) sc_written_word.nd rfl (Or.inl rfl) (pe_lst pa_nil))
      (pss_cons (ps_for PassesOwn.never rfl (pi_enumS (by rfl) T.b_enumerate (pa_cons (pe_fld (pv 0) rfl) pa_nil)) (pg_tup rfl (pgs_cons (pg_name (i := 2) sc_written_word.nd rfl (Or.inl rfl)) (pgs_cons (pg_name (i := 3) sc_written_word.nd rfl (Or.inl rfl)) pgs_nil)))
        (pss_cons (ps_if (pt_cmpR op_in_seq (pv 2) (pe_fld (pv 0) rfl) (by first | rfl | exact nomark _))
        (pss_one (ps_expr (pe_bm PySem.F.plainAttrs_list PySem.F.slot_list_append PySem.F.type_list_append mt_append (pv 1) (pa_cons pe_str pa_nil))))
        pss_nil)
      (pss_one (ps_expr (pe_bm PySem.F.plainAttrs_list PySem.F.slot_list_append PySem.F.type_list_append mt_append (pv 1) (pa_cons (pv 3) pa_nil))))))
      (pss_one (ps_ret (pe_join pe_str (pv 1)))))), ?_⟩
    obtain ⟨dx, g, ha, hg⟩ := id hw
    have v16 := ok.most
    refine ⟨Nat.zero_le _, fun S hS => ?_⟩
    have s1 : Same H (upd H S (.lst [])) := same_upd hS
    refine ⟨_, rfl, _, _, _, _, _, rfl, s1 _ _ ha, T.Word.cl, T.Word_n_letters, Word_l_letters, _, rfl, ?_⟩
    refine for_it walk_enumX (fun i σ H' => ∃ u q ps, σ = [some (.ref a), some (.ref S), u, q] ∧ Same H H' ∧ H' S = some (.lst (vS ps)) ∧ ps.flatten = hyphTo v i ∧ ps.length ≤ 2 * i) ⟨none, none, [], rfl, s1, upd_same, rfl, Nat.le_refl _⟩ (fun _ _ _ _ _ => trivial) ?_ ?_
    · rintro i y σ H1 H2 hi ⟨u, q, ps, rfl, sm, hS1, hfl, hpl⟩ ⟨t, n, rfl, ht, hn, rfl⟩
      obtain ⟨c, hc, rfl⟩ := sB_at hn
      rw [sB_size] at hi
      have sm2 := same_updO (o := .tup [.int (i : Nat), .str ⟨#[c.toNat]⟩]) sm (sm.free ht)
      have hS2 := (same_upd (o := .tup [.int (i : Nat), .str ⟨#[c.toNat]⟩]) ht) _ _ hS1
      refine ⟨t, _, rfl, sqT_upd, rfl, _, _, rfl, _, _, rfl, rfl, ?_⟩
      refine ⟨_, rfl, _, rfl, _, _, _, _, _, rfl, sm2 _ _ ha, T.Word.cl, T.Word_n_gaps, Word_l_gaps, g, _, rfl, .inl (SqL.of (sm2 _ _ hg)), rfl, flat_vN _, _, rfl, ?_⟩
      rw [if_neg Bool.false_ne_true, inV_vN]
      have last : ∀ H3 ps3, Same H H3 → H3 S = some (.lst (vS ps3)) → (ps3 ++ [[c]]).flatten = hyphTo v (i + 1) → ps3.length ≤ 2 * i + 1 → tDrop (tBM K "list" rAppend (tVar 1) (tCons (tVar 3) tNil)) { nx := fun σ H' => ∃ u q ps, σ = [some (.ref a), some (.ref S), u, q] ∧ Same H H' ∧ H' S = some (.lst (vS ps)) ∧ ps.flatten = hyphTo v (i + 1) ∧ ps.length ≤ 2 * (i + 1), rt := Q } [some (.ref a), some (.ref S), some (.int (i : Nat)), some (.str ⟨#[c.toNat]⟩)] H3 := by
        intro H3 ps3 sm3 hS3 hf3 hl3
        refine ⟨_, rfl, .inl ⟨rfl, _, SqL.of hS3⟩, _, rfl, _, _, _, rfl, rfl, hS3, ?_, ?_⟩
        · rw [vS_length]
          exact small_lt (by omega)
        · refine ⟨_, _, ps3 ++ [[c]], rfl, same_updO sm3 hS, by rw [upd_same, vS_snoc]; rfl, hf3, ?_⟩
          rw [List.length_append]
          show _ + 1 ≤ _
          omega
      refine ifb (fun h1 => ?_) (fun h1 => ?_)
      · refine ⟨_, rfl, .inl ⟨rfl, _, SqL.of hS2⟩, _, _, _, rfl, rfl, hS2, ?_, ?_⟩
        · rw [vS_length]
          exact small_lt (by omega)
        rw [str45, ← vS_snoc]
        refine last _ (ps ++ [[45]]) (same_updO sm2 hS) upd_same ?_ ?_
        · rw [flat_snoc, flat_snoc, hfl, hyph_step ok hc, if_pos h1, List.append_assoc]
          rfl
        · rw [List.length_append]
          show _ + 1 ≤ _
          omega
      · refine last _ ps sm2 hS2 ?_ (by omega)
        rw [flat_snoc, hfl, hyph_step ok hc, if_neg (by rw [h1]; exact Bool.false_ne_true)]
    · rintro σ H' ⟨u, q, ps, rfl, sm, hS1, hfl, hpl⟩
      rw [sB_size] at hfl
      rw [hyph_end] at hfl
      refine ⟨⟨_, rfl⟩, _, rfl, _, S, ps.map sB, rfl, rfl, .inl (SqL.of (by rw [hS1, vS_map])), small_join ?_, ?_⟩
      · rw [hfl]
        have := hyphened_len ok
        omega
      · rw [txt_join0, hfl]
        exact k H' sm
end
end PwX

/-! ## PwD22 -/
namespace PwX
open PySem PySem.Spec PyProof.Rows L2
open VahypBase Vahypa Pw
section
variable {K : PySem.W.Frag} {mg : Str → Option Value}
theorem seq_if {c : TT} {a r : TS} {D : Ends} {σ : L2.St} {H : Hp} {b : Bool} (P : L2.St → Hp → Prop) (hc : ∀ Q' : Bool → Hp → Prop, Q' b H → c σ H Q') (ha : b = true → ∀ D' : Ends, (∀ σ' H', P σ' H' → D'.nx σ' H') → a D' σ H) (hb : b = false → P σ H) (hr : ∀ σ' H', P σ' H' → r D σ' H') : tSeq (tIfS c a tNext) r D σ H := by
  refine hc _ ?_
  exact ifb (fun h => ha h _ hr) (fun h => hr _ _ (hb h))
theorem nx_seq {a b : TS} {D : Ends} {rt : VK} {bk ct : L2.St → Hp → Prop} {σ : L2.St} {H : Hp} (h : tSeq a b D σ H) : Ends.nx ⟨tSeq a b D, rt, bk, ct⟩ σ H := h
theorem seq_app {e : TE} {i : Nat} {S : Addr} {xs : List V} {y : V} {D : Ends} {σ : L2.St} {H : Hp} (hi : σ[i]? = some (some (.ref S))) (hS : H S = some (.lst xs)) (hl : xs.length < sizeLine) (he : ∀ Q' : VK, Q' y H → e σ H Q') (k : D.nx σ (upd H S (.lst (xs ++ [y])))) : tDrop (tBM K "list" rAppend (tVar i) (tCons e tNil)) D σ H :=
  ⟨_, hi, .inl ⟨rfl, _, SqL.of hS⟩, he _ ⟨_, _, _, rfl, rfl, hS, hl, k⟩⟩
theorem flat_front (p : Pat) : (if p.front = true then ([46] : Bytes) else []) = patTo p 0 := by
  unfold patTo midTo
  rw [List.take_zero]
  simp
theorem js_con {ts : List TE} {c acc : Str} {b bs : Bytes} {σ : L2.St} {H : Hp} {Q : Str → Hp → Prop} (hc : c = sB b) (ha : acc = sB bs) (hl : bs.length + b.length ≤ 1000) (k : tJs ts (sB (bs ++ b)) σ H Q) : tJs (tC (.str c) :: ts) acc σ H Q := by
  subst hc ha
  refine ⟨sB b, rfl, ?_, ?_⟩
  · rw [sB_append, sB_length, List.length_append]
    exact small_line (by omega)
  · rw [sB_append]
    exact k
theorem js_str {ts : List TE} {te : TE} {acc : Str} {b bs : Bytes} {σ : L2.St} {H : Hp} {Q : Str → Hp → Prop} (he : ∀ Q' : VK, Q' (.str (sB b)) H → te σ H Q') (ha : acc = sB bs) (hl : bs.length + b.length ≤ 1000) (k : tJs ts (sB (bs ++ b)) σ H Q) : tJs (tFmt te :: ts) acc σ H Q := by
  subst ha
  refine he _ (.inl ⟨sB b, rfl, sB_line (by omega), sB b, rfl, ?_, ?_⟩)
  · rw [sB_append, sB_length, List.length_append]
    exact small_line (by omega)
  · rw [sB_append]
    exact k
theorem js_int {ts : List TE} {te : TE} {acc : Str} {n : Nat} {bs : Bytes} {σ : L2.St} {H : Hp} {Q : Str → Hp → Prop} (he : ∀ Q' : VK, Q' (.int (n : Nat)) H → te σ H Q') (ha : acc = sB bs) (hn : n ≤ 9) (hl : bs.length + (VahypBase.showNat n).length ≤ 1000) (k : tJs ts (sB (bs ++ VahypBase.showNat n)) σ H Q) : tJs (tFmt te :: ts) acc σ H Q := by
  subst ha
  refine he _ (.inr ⟨_, rfl, num_log hn, _, rfl, ?_, ?_⟩)
  · rw [num_str hn, sB_append, sB_length, List.length_append]
    exact small_line (by omega)
  · rw [num_str hn, sB_append]
    exact k
theorem nil_str : Str.empty = sB [] := by decide +kernel
theorem s_marg : ("margins " : Str) = sB (word "margins ") := by decide +kernel
theorem s_sp : (" " : Str) = sB (word " ") := by decide +kernel
theorem s_end : (" ;\n" : Str) = sB (word " ;" ++ [10]) := by decide +kernel
theorem s_word : ("word " : Str) = sB (word "word ") := by decide +kernel
theorem s_pat : ("pattern " : Str) = sB (word "pattern ") := by decide +kernel
theorem l_marg : (word "margins ").length = 8 := by decide
theorem l_sp : (word " ").length = 1 := by decide
theorem l_end : (word " ;" ++ [10]).length = 3 := by decide
theorem l_word : (word "word ").length = 5 := by decide
theorem l_pat : (word "pattern ").length = 8 := by decide

def sp_written_pattern (T : PEnv K mg) : Sp := fun vs H Q _ => ∃ (a : Addr) (p : Pat), vs = [.ref a] ∧ PatAt T H a p ∧ POk p ∧ ∀ H', Same H H' → Q (.str (sB (showPat p))) H'
theorem sc_written_pattern : FnScope ["pattern", "signs", "gap", "digit"] ["pattern"] (defScope s_written_pattern) := ⟨rfl, rfl, rfl, by decide +kernel, rfl, by decide +kernel, by decide +kernel⟩
theorem ok_written_pattern (T : PEnv K mg) {P : Program} {w : World} {base : Heap} : FnOk P w K mg base CX0 1 T.written_pattern.f T.written_pattern.fd ["pattern"] (sp_written_pattern T) := by
  refine T.written_pattern.F.ok sc_written_pattern (fun vs H Q E h => ?_) (fun cdv A outer s H vs Q E hr h => ?_)
  · obtain ⟨a, p, rfl, _⟩ := h
    rfl
  · obtain ⟨a, p, rfl, hp, ok, k⟩ := h
    refine ⟨_, (pss_cons (ps_set (i := 1) sc_written_pattern.nd rfl (Or.inl rfl) (pe_lst pa_nil))
      (pss_cons (ps_if (pt_val (pe_fld (pv 0) rfl))
        (pss_one (ps_expr (pe_bm PySem.F.plainAttrs_list PySem.F.slot_list_append PySem.F.type_list_append mt_append (pv 1) (pa_cons pe_str pa_nil))))
        pss_nil)
      (pss_cons (ps_for PassesOwn.never rfl (pi_enum (by rfl) T.b_enumerate (pa_cons (pe_fld (pv 0) rfl) pa_nil)) (pg_tup rfl (pgs_cons (pg_name (i := 2) sc_written_pattern.nd rfl (Or.inl rfl)) (pgs_cons (pg_name (i := 3) sc_written_pattern.nd rfl (Or.inl rfl)) pgs_nil)))
        (pss_cons (ps_if (pt_cmpR op_gt (pv 3) pe_int (nomark _))
        (pss_one (ps_expr (pe_bm PySem.F.plainAttrs_list PySem.F.slot_list_append PySem.F.type_list_append mt_append (pv 1) (pa_cons (pe_callTy call_str_int (by rfl) T.b_str (by decide +kernel) (pa_cons (pv 3) pa_nil)) pa_nil))))
        pss_nil)
      (pss_one (ps_if (pt_cmpR op_lt (pv 2) (pe_callB call_len (by rfl) T.b_len (by decide +kernel) (pa_cons (pe_fld (pv 0) rfl) pa_nil)) (nomark _))
        (pss_one (ps_expr (pe_bm PySem.F.plainAttrs_list PySem.F.slot_list_append PySem.F.type_list_append mt_append (pv 1) (pa_cons (pe_ix ix_str (pe_fld (pv 0) rfl) (pv 2) (fun _ _ => rfl)) pa_nil))))
        pss_nil))))
      (pss_cons (ps_if (pt_val (pe_fld (pv 0) rfl))
        (pss_one (ps_expr (pe_bm PySem.F.plainAttrs_list PySem.F.slot_list_append PySem.F.type_list_append mt_append (pv 1) (pa_cons pe_str pa_nil))))
        pss_nil)
      (pss_one (ps_ret (pe_join pe_str (pv 1)))))))), ?_⟩
    obtain ⟨dx, g, ha, hg⟩ := id hp
    have p6 := ok.most
    have plen := ok.len
    refine ⟨Nat.zero_le _, fun S hS => ?_⟩
    have s1 : Same H (upd H S (.lst [])) := same_upd hS
    refine nm_seq ?_
    refine seq_if (b := p.front) (fun σ' H' => ∃ ps, σ' = [some (.ref a), some (.ref S), none, none] ∧ Same H H' ∧ H' S = some (.lst (vS ps)) ∧ ps.flatten = patTo p 0 ∧ ps.length ≤ 1) (fun Q' q => ⟨_, rfl, _, _, _, _, _, rfl, s1 _ _ ha, T.Pattern.cl, T.Pattern_n_at_front, Pattern_l_at_front, _, rfl, q⟩) (fun e D' kD => ?_) (fun e => ?_) ?_
    · refine seq_app (S := S) rfl upd_same (Nat.lt_of_lt_of_le (Nat.zero_lt_succ 0) (small_line (by decide))) (fun Q' q => q) (kD _ _ ⟨[[46]], rfl, same_updO s1 hS, ?_, ?_, Nat.le_refl _⟩)
      · rw [upd_same, str46]
        rfl
      · rw [← flat_front, if_pos e]
        rfl
    · refine ⟨[], rfl, s1, upd_same, ?_, Nat.zero_le _⟩
      rw [← flat_front, if_neg (by rw [e]; exact Bool.false_ne_true)]
      rfl
    rintro σ H1 ⟨ps, rfl, sm, hS1, hfl, hpl⟩
    refine ⟨_, rfl, _, _, _, _, _, rfl, sm _ _ ha, T.Pattern.cl, T.Pattern_n_digits, Pattern_l_digits, g, vN p.levels, rfl, SqL.of (sm _ _ hg), for_it walk_enum (fun i σ H' => ∃ u q ps, σ = [some (.ref a), some (.ref S), u, q] ∧ Same H H' ∧ H' S = some (.lst (vS ps)) ∧ ps.flatten = (if i ≤ p.x.length then patTo p i else patTo p p.x.length ++ digit (p.levels[p.x.length]?.getD 0)) ∧ ps.length ≤ 1 + 2 * i) ⟨none, none, ps, rfl, sm, hS1, by rw [if_pos (Nat.zero_le _)]; exact hfl, hpl⟩ (fun i σ H' _ ⟨_, _, _, _, s, _⟩ => SqL.of (s _ _ hg)) ?_ ?_⟩
    · rintro i y σ H2 H3 hi ⟨u, q, ps, rfl, sm2, hS2, hfl2, hpl2⟩ ⟨t, n, y2, rfl, ht, rfl, hn, hy⟩
      cases hn
      obtain ⟨d, hd, rfl⟩ := vN_at hy
      rw [vN_length] at hi
      rw [if_pos (by omega)] at hfl2
      have hd9 := ok.nine d (mem_at hd)
      have sm3 := same_updO (o := .tup [.int (i : Nat), .int (d : Nat)]) sm2 (sm2.free ht)
      have hS3 := (same_upd (o := .tup [.int (i : Nat), .int (d : Nat)]) ht) _ _ hS2
      refine ⟨t, _, rfl, sqT_upd, rfl, _, _, rfl, _, _, rfl, rfl, ?_⟩
      refine seq_if (b := decide (0 < d)) (fun σ' H' => ∃ ps, σ' = [some (.ref a), some (.ref S), some (.int (i : Nat)), some (.int (d : Nat))] ∧ Same H H' ∧ H' S = some (.lst (vS ps)) ∧ ps.flatten = patTo p i ++ digit d ∧ ps.length ≤ 2 + 2 * i) (fun Q' q => ⟨_, rfl, _, _, rfl, rfl, _, rfl, by rw [show decide ((0 : Int) < (d : Int)) = decide (0 < d) by simp]; exact q⟩) (fun e D' kD => ?_) (fun e => ?_) ?_
      · refine seq_app (S := S) (y := .str (sB (VahypBase.showNat d))) rfl hS3 (by rw [vS_length]; exact small_lt (by omega)) (fun Q' q => ⟨_, rfl, _, rfl, num_log hd9, by rw [num_str hd9]; exact q⟩) (kD _ _ ⟨ps ++ [VahypBase.showNat d], rfl, same_updO sm3 hS, by rw [upd_same, vS_snoc], ?_, ?_⟩)
        · rw [flat_snoc, hfl2, digit_pos (of_decide_eq_true e)]
        · rw [List.length_append]
          show _ + 1 ≤ _
          omega
      · refine ⟨ps, rfl, sm3, hS3, ?_, by omega⟩
        have e0 : d = 0 := by
          have := of_decide_eq_false e
          omega
        rw [hfl2, e0, digit_zero, List.append_nil]
      · rintro σ H4 ⟨ps, rfl, sm4, hS4, hfl4, hpl4⟩
        have ed : p.levels[i]?.getD 0 = d := by rw [hd]; rfl
        refine ⟨_, rfl, _, rfl, _, _, _, _, _, rfl, sm4 _ _ ha, T.Pattern.cl, T.Pattern_n_letters, Pattern_l_letters, _, _, rfl, ⟨sB_line (by omega), rfl⟩, _, _, rfl, rfl, _, rfl, ?_⟩
        rw [sB_length]
        refine ifd (fun h1 => ?_) (fun h1 => ?_)
        · have h2 : i < p.x.length := by omega
          have hc : p.x[i]? = some (p.x[i]'h2) := List.getElem?_eq_getElem h2
          refine seq_app (S := S) (y := .str (sB [p.x[i]'h2])) rfl hS4 (by rw [vS_length]; exact small_lt (by omega)) (fun Q' q => ⟨_, rfl, _, _, _, _, _, rfl, sm4 _ _ ha, T.Pattern.cl, T.Pattern_n_letters, Pattern_l_letters, _, rfl, _, _, _, rfl, rfl, sB_line (by omega), atI_sB hc, q⟩) ⟨_, _, ps ++ [[p.x[i]'h2]], rfl, same_updO sm4 hS, by rw [upd_same, vS_snoc], ?_, ?_⟩
          · rw [if_pos (by omega), flat_snoc, hfl4, pat_step hc, ed, List.append_assoc]
          · rw [List.length_append]
            show _ + 1 ≤ _
            omega
        · have h2 : i = p.x.length := by omega
          refine ⟨_, _, ps, rfl, sm4, hS4, ?_, by omega⟩
          rw [if_neg (by omega), hfl4, ← ed, h2]
    · rintro σ H2 ⟨u, q, ps, rfl, sm2, hS2, hfl2, hpl2⟩
      rw [vN_length, if_neg (by omega)] at hfl2
      rw [vN_length] at hpl2
      refine nx_seq ?_
      refine seq_if (b := p.halt_) (fun σ' H' => ∃ ps, σ' = [some (.ref a), some (.ref S), u, q] ∧ Same H H' ∧ H' S = some (.lst (vS ps)) ∧ ps.flatten = showPat p) (fun Q' q => ⟨_, rfl, _, _, _, _, _, rfl, sm2 _ _ ha, T.Pattern.cl, T.Pattern_n_at_end, Pattern_l_at_end, _, rfl, q⟩) (fun e D' kD => ?_) (fun e => ?_) ?_
      · refine seq_app (S := S) rfl hS2 (by rw [vS_length]; exact small_lt (by omega)) (fun Q' q => q) (kD _ _ ⟨ps ++ [[46]], rfl, same_updO sm2 hS, by rw [upd_same, vS_snoc, str46], ?_⟩)
        rw [flat_snoc, hfl2, ← pat_end, if_pos e, List.append_assoc]
      · refine ⟨ps, rfl, sm2, hS2, ?_⟩
        rw [hfl2, ← pat_end, if_neg (by rw [e]; exact Bool.false_ne_true), List.append_nil]
      · rintro σ H3 ⟨ps, rfl, sm3, hS3, hfl3⟩
        refine ⟨⟨_, rfl⟩, _, rfl, _, S, ps.map sB, rfl, rfl, .inl (SqL.of (by rw [hS3, vS_map])), small_join ?_, ?_⟩
        · rw [hfl3]
          have := show_len ok
          omega
        · rw [txt_join0, hfl3]
          exact k H3 sm3
def sp_one_form (T : PEnv K mg) : Sp := fun vs H Q _ => ∃ (a : Addr) (s : Lst), vs = [.ref a] ∧ LstAt T H a s ∧ LOk s ∧ ∀ H', Same H H' → Q (.str (sB (shown s))) H'
theorem sc_one_form : FnScope ["word_list", "left", "right", "lines", "word", "written", "pattern"] ["word_list"] (defScope s_one_form) := ⟨rfl, rfl, rfl, by decide +kernel, rfl, by decide +kernel, by decide +kernel⟩
theorem ok_one_form (T : PEnv K mg) {P : Program} {w : World} {base : Heap} : FnOk P w K mg base CX0 2 T.one_form.f T.one_form.fd ["word_list"] (sp_one_form T) := by
  refine T.one_form.F.ok sc_one_form (fun vs H Q E h => ?_) (fun cdv A outer s H vs Q E hr h => ?_)
  · obtain ⟨a, s_, rfl, _⟩ := h
    rfl
  · obtain ⟨a, s_, rfl, hl, ok, k⟩ := h
    refine ⟨_, (pss_cons (ps_set (i := 1) sc_one_form.nd rfl (Or.inl rfl) (pe_fld (pv 0) rfl))
      (pss_cons (ps_set (i := 2) sc_one_form.nd rfl (Or.inl rfl) (pe_fld (pv 0) rfl))
      (pss_cons (ps_set (i := 3) sc_one_form.nd rfl (Or.inl rfl) (pe_lst (pa_cons (pe_joined (.cons pe_str (.cons (pe_fmt (pv 1)) (.cons pe_str (.cons (pe_fmt (pv 2)) (.cons pe_str .nil)))))) pa_nil)))
      (pss_cons (ps_for PassesOwn.never rfl (pi_list (pe_fld (pv 0) rfl)) (pg_name (i := 4) sc_one_form.nd rfl (Or.inl rfl))
        (pss_cons (ps_set (i := 5) sc_one_form.nd rfl (Or.inl rfl) (pe_call (ok_written_word T) (hr.mono (by decide)) rfl T.written_word.g T.written_word.F.kp T.written_word.b .nil pass0 (pa_cons (pv 4) pa_nil)))
      (pss_one (ps_expr (pe_bm PySem.F.plainAttrs_list PySem.F.slot_list_append PySem.F.type_list_append mt_append (pv 3) (pa_cons (pe_joined (.cons pe_str (.cons (pe_fmt (pv 5)) (.cons pe_str .nil)))) pa_nil))))))
      (pss_cons (ps_for PassesOwn.never rfl (pi_list (pe_fld (pv 0) rfl)) (pg_name (i := 6) sc_one_form.nd rfl (Or.inl rfl))
        (pss_cons (ps_set (i := 5) sc_one_form.nd rfl (Or.inl rfl) (pe_call (ok_written_pattern T) (hr.mono (by decide)) rfl T.written_pattern.g T.written_pattern.F.kp T.written_pattern.b .nil pass0 (pa_cons (pv 6) pa_nil)))
      (pss_one (ps_expr (pe_bm PySem.F.plainAttrs_list PySem.F.slot_list_append PySem.F.type_list_append mt_append (pv 3) (pa_cons (pe_joined (.cons pe_str (.cons (pe_fmt (pv 5)) (.cons pe_str .nil)))) pa_nil))))))
      (pss_one (ps_ret (pe_join pe_str (pv 3))))))))), ?_⟩
    obtain ⟨dx, wa, pa, ha, ⟨as, hwa, hal⟩, ⟨bs, hpa, hbl⟩⟩ := id hl
    have n1 := num_small ⟨s_.l, by have := ok.l5; omega⟩
    have n2 := num_small ⟨s_.r, by have := ok.r5; omega⟩
    have l5 := ok.l5
    have r5 := ok.r5
    have w24 := ok.wmost
    have p40 := ok.pmost
    dsimp only at n1 n2
    refine ⟨_, rfl, _, _, _, _, _, rfl, ha, T.WordList.cl, T.WordList_n_left_margin, WordList_l_left_margin, _, rfl, _, _, _, _, _, rfl, ha, T.WordList.cl, T.WordList_n_right_margin, WordList_l_right_margin, ?_⟩
    refine js_con s_marg nil_str (by rw [l_marg]; decide) ?_
    refine js_int (n := s_.l) (fun Q' q => ⟨_, rfl, q⟩) rfl (by omega) (by rw [List.length_append, l_marg]; show 0 + 8 + _ ≤ _; omega) ?_
    refine js_con s_sp rfl (by rw [List.length_append, List.length_append, l_marg, l_sp]; show 0 + 8 + _ + _ ≤ _; omega) ?_
    refine js_int (n := s_.r) (fun Q' q => ⟨_, rfl, q⟩) rfl (by omega) (by rw [List.length_append, List.length_append, List.length_append, l_marg, l_sp]; show 0 + 8 + _ + _ + _ ≤ _; omega) ?_
    refine js_con s_end rfl (by rw [List.length_append, List.length_append, List.length_append, List.length_append, l_marg, l_sp, l_end]; show 0 + 8 + _ + _ + _ + _ ≤ _; omega) ?_
    have eh : [] ++ word "margins " ++ showNat s_.l ++ word " " ++ showNat s_.r ++ (word " ;" ++ [10]) = headL s_ := by
      unfold headL line
      simp
    rw [eh]
    refine ⟨Nat.le_of_ble_eq_true rfl, fun L hL => ?_⟩
    have s1 : Same H (upd H L (.lst [.str (sB (headL s_))])) := same_upd hL
    have hh := headL_len ok
    refine ⟨_, rfl, _, _, _, _, _, rfl, s1 _ _ ha, T.WordList.cl, T.WordList_n_words, WordList_l_words, wa, rfl, ⟨_, SqL.of (s1 _ _ hwa)⟩, for_list (K := K) (a := wa) (xs := vR as) (fun i σ H' => ∃ u v w ps, σ = [some (.ref a), some (.int (s_.l : Nat)), some (.int (s_.r : Nat)), some (.ref L), u, v, w] ∧ Same H H' ∧ H' L = some (.lst (vS ps)) ∧ ps.flatten = headL s_ ++ (s_.words.take i).flatMap wordL ∧ ps.length ≤ 1 + i) ⟨none, none, none, [headL s_], rfl, s1, upd_same, by simp, Nat.le_refl _⟩ (fun i σ H' _ ⟨_, _, _, _, _, s, _⟩ => SqL.of (s _ _ hwa)) ?_ ?_⟩
    · rintro i y σ H1 hi ⟨u, v, w, ps, rfl, sm, hL1, hfl, hpl⟩
      obtain ⟨b, v2, rfl, hb, hv2, hwd⟩ := hal.at hi
      have hi24 : i < s_.words.length := (List.getElem?_eq_some_iff.mp hv2).1
      have wok := ok.ws v2 (mem_at hv2)
      have hy := hyphened_len wok
      refine ⟨_, rfl, b, v2, rfl, hwd.same sm, wok, fun H2 s2 => ?_⟩
      refine seq_app (K := K) (S := L) (y := .str (sB (wordL v2))) rfl (s2 _ _ hL1) (by rw [vS_length]; exact small_lt (by omega)) (fun Q' q => ?_) ⟨_, _, _, ps ++ [wordL v2], rfl, same_updO (sm.trans s2) hL, by rw [upd_same, vS_snoc], ?_, ?_⟩
      · refine js_con s_word nil_str (by rw [l_word]; decide) ?_
        refine js_str (b := hyphened v2.x v2.cuts) (fun Q' q => ⟨_, rfl, q⟩) rfl (by rw [List.length_append, l_word]; show 0 + 5 + _ ≤ _; omega) ?_
        refine js_con s_end rfl (by rw [List.length_append, List.length_append, l_word, l_end]; show 0 + 5 + _ + _ ≤ _; omega) ?_
        have ew : [] ++ word "word " ++ hyphened v2.x v2.cuts ++ (word " ;" ++ [10]) = wordL v2 := by
          unfold wordL line
          simp
        rw [ew]
        exact q
      · rw [flat_snoc, hfl, flatMap_take hv2, List.append_assoc]
      · rw [List.length_append]
        show _ + 1 ≤ _
        omega
    rintro σ H1 ⟨u, v, w, ps, rfl, sm, hL1, hfl, hpl⟩
    rw [vR_length, hal.len, List.take_length] at hfl
    rw [vR_length, hal.len] at hpl
    refine ⟨_, rfl, _, _, _, _, _, rfl, sm _ _ ha, T.WordList.cl, T.WordList_n_patterns, WordList_l_patterns, pa, rfl, ⟨_, SqL.of (sm _ _ hpa)⟩, for_list (K := K) (a := pa) (xs := vR bs) (fun i σ H' => ∃ u v w ps, σ = [some (.ref a), some (.int (s_.l : Nat)), some (.int (s_.r : Nat)), some (.ref L), u, v, w] ∧ Same H H' ∧ H' L = some (.lst (vS ps)) ∧ ps.flatten = headL s_ ++ (s_.words.flatMap wordL ++ (s_.pats.take i).flatMap patL) ∧ ps.length ≤ 25 + i) ⟨u, v, w, ps, rfl, sm, hL1, by rw [hfl]; simp, by omega⟩ (fun i σ H' _ ⟨_, _, _, _, _, s, _⟩ => SqL.of (s _ _ hpa)) ?_ ?_⟩
    · rintro i y σ H2 hi ⟨u, v, w, ps, rfl, sm, hL1, hfl, hpl⟩
      obtain ⟨b, v2, rfl, hb, hv2, hwd⟩ := hbl.at hi
      have hi40 : i < s_.pats.length := (List.getElem?_eq_some_iff.mp hv2).1
      have pok := ok.ps v2 (mem_at hv2)
      have hy := show_len pok
      refine ⟨_, rfl, b, v2, rfl, hwd.same sm, pok, fun H2 s2 => ?_⟩
      refine seq_app (K := K) (S := L) (y := .str (sB (patL v2))) rfl (s2 _ _ hL1) (by rw [vS_length]; exact small_lt (by omega)) (fun Q' q => ?_) ⟨_, _, _, ps ++ [patL v2], rfl, same_updO (sm.trans s2) hL, by rw [upd_same, vS_snoc], ?_, ?_⟩
      · refine js_con s_pat nil_str (by rw [l_pat]; decide) ?_
        refine js_str (b := showPat v2) (fun Q' q => ⟨_, rfl, q⟩) rfl (by rw [List.length_append, l_pat]; show 0 + 8 + _ ≤ _; omega) ?_
        refine js_con s_end rfl (by rw [List.length_append, List.length_append, l_pat, l_end]; show 0 + 8 + _ + _ ≤ _; omega) ?_
        have ew : [] ++ word "pattern " ++ showPat v2 ++ (word " ;" ++ [10]) = patL v2 := by
          unfold patL line
          simp
        rw [ew]
        exact q
      · rw [flat_snoc, hfl, flatMap_take hv2, List.append_assoc, List.append_assoc]
      · rw [List.length_append]
        show _ + 1 ≤ _
        omega
    rintro σ H2 ⟨u, v, w, ps, rfl, sm, hL1, hfl, hpl⟩
    rw [vR_length, hbl.len, List.take_length, ← shown_eq] at hfl
    refine ⟨⟨_, rfl⟩, _, rfl, _, L, ps.map sB, rfl, rfl, .inl (SqL.of (by rw [hL1, vS_map])), small_join ?_, ?_⟩
    · rw [hfl]
      have := shown_len ok
      omega
    · rw [txt_join0, hfl]
      exact k H2 sm
end
end PwX

/-! ## PwD23 -/
namespace PwX
open PySem PySem.Spec PyProof.Rows L2
open VahypBase Vahypa Pw
section
variable {K : PySem.W.Frag} {mg : Str → Option Value}
def vI (l : List Int) : List V := l.map V.int
theorem vI_vB (b : Bytes) : vI (b.map fun c => (c.toNat : Int)) = vB b := by simp [vI, vB]
theorem vI_vN (l : List Nat) : vI (nats l) = vN l := by simp [vI, vN, nats]
def HeldAt (T : PEnv K mg) (H : Hp) (v : V) : Vahypz.Obj → Prop
  | none => v = .non
  | some s => ∃ x, v = .ref x ∧ LstAt T H x s ∧ LOk s
def DeskAt (T : PEnv K mg) (H : Hp) (a : Addr) (o : Vahypz.Obj) : Prop := ∃ dx v, H a = some (.ins T.Desk.C dx (DeskF v)) ∧ HeldAt T H v o
def OkA (T : PEnv K mg) (a : Addr) (H : Hp) (Q : VK) (r : Vahypz.Obj × Answer) : Prop := ∀ g H', Sb a H H' → DeskAt T H' a r.1 → H g = none → H' g = some (.lst (vI (VahypzNeutral.encode r.2))) → Q (.ref g) H'
def ErA (T : PEnv K mg) (H : Hp) (E : XK) (o : Vahypz.Obj) (r : Vahypz.Obj × Answer) : Prop := ∀ n : Int, r = (o, one n) → RefE T E H n
/-- an instance of none of the kinds that a list is made of -/
structure Other (fs : List (Str × V)) : Prop where
  w : (["letters", "gaps"] : List Str) ≠ fs.map (·.1)
  p : (["letters", "at_front", "at_end", "digits"] : List Str) ≠ fs.map (·.1)
  l : (["left_margin", "right_margin", "words", "patterns"] : List Str) ≠ fs.map (·.1)
section
variable {T : PEnv K mg} {H H' : Hp} {a x C dx : Addr} {fs : List (Str × V)}
theorem WordAt.sbo {w : Word} (h : WordAt T H x w) (ha : H a = some (.ins C dx fs)) (o : Other fs) (s : Sb a H H') : WordAt T H' x w := let ⟨dy, g, h1, h2⟩ := h; ⟨dy, g, s _ _ h1 (ins_ne h1 ha o.w), s _ _ h2 (ne_of h2 ha (by intro z; cases z))⟩
theorem PatAt.sbo {w : Pat} (h : PatAt T H x w) (ha : H a = some (.ins C dx fs)) (o : Other fs) (s : Sb a H H') : PatAt T H' x w := let ⟨dy, g, h1, h2⟩ := h; ⟨dy, g, s _ _ h1 (ins_ne h1 ha o.p), s _ _ h2 (ne_of h2 ha (by intro z; cases z))⟩
theorem LstAt.sbo {l : Lst} (h : LstAt T H x l) (ha : H a = some (.ins C dx fs)) (o : Other fs) (s : Sb a H H') : LstAt T H' x l :=
  let ⟨dy, wa, pa, h1, ⟨as, h2, h3⟩, ⟨bs, h4, h5⟩⟩ := h
  ⟨dy, wa, pa, s _ _ h1 (ins_ne h1 ha o.l), ⟨as, s _ _ h2 (ne_of h2 ha (by intro z; cases z)), h3.imp fun _ _ q => q.sbo ha o s⟩, ⟨bs, s _ _ h4 (ne_of h4 ha (by intro z; cases z)), h5.imp fun _ _ q => q.sbo ha o s⟩⟩
theorem HeldAt.same {v : V} {o : Vahypz.Obj} (h : HeldAt T H v o) (s : Same H H') : HeldAt T H' v o := by
  cases o with
  | none => exact h
  | some l =>
    obtain ⟨x, h1, h2, h3⟩ := h
    exact ⟨x, h1, h2.same s, h3⟩
theorem DeskAt.same {o : Vahypz.Obj} (h : DeskAt T H a o) (s : Same H H') : DeskAt T H' a o := let ⟨dx, v, h1, h2⟩ := h; ⟨dx, v, s _ _ h1, h2.same s⟩
theorem desk_other {v : V} : Other (DeskF v) := ⟨by show _ ≠ (["held"] : List Str); decide +kernel, by show _ ≠ (["held"] : List Str); decide +kernel, by show _ ≠ (["held"] : List Str); decide +kernel⟩
theorem reader_other {u v : V} : Other (CallReaderF u v) := ⟨by show _ ≠ (["calls", "at"] : List Str); decide +kernel, by show _ ≠ (["calls", "at"] : List Str); decide +kernel, by show _ ≠ (["calls", "at"] : List Str); decide +kernel⟩
theorem desk_ne_reader {b C2 dy : Addr} {v u w : V} (h1 : H a = some (.ins C dx (DeskF v))) (h2 : H b = some (.ins C2 dy (CallReaderF u w))) : a ≠ b := ins_ne h1 h2 (by show (["held"] : List Str) ≠ (["calls", "at"] : List Str); decide +kernel)
end

def sp_Desk_init (T : PEnv K mg) : Sp := fun vs H Q _ => ∃ (p dx : Addr), vs = [.ref p] ∧ H p = some (.ins T.Desk.C dx []) ∧ ∀ H' : Hp, H' p = some (.ins T.Desk.C dx (DeskF .non)) → Sb p H H' → Q .non H'
theorem sc_Desk_init : FnScope ["self"] ["self"] (defScope s_Desk_init) := ⟨rfl, rfl, rfl, by decide +kernel, rfl, by decide +kernel, by decide +kernel⟩
theorem ok_Desk_init (T : PEnv K mg) {P : Program} {w : World} {base : Heap} : FnOk P w K mg base CX0 1 T.Desk_init.f T.Desk_init.fd ["self"] (sp_Desk_init T) := by
  refine T.Desk_init.F.ok sc_Desk_init (fun vs H Q E h => ?_) (fun cdv A outer s H vs Q E hr h => ?_)
  · obtain ⟨p, dx, rfl, _⟩ := h
    rfl
  · obtain ⟨p, dx, rfl, hp, k⟩ := h
    refine ⟨_, (pss_one (ps_fld (pv 0) pe_non rfl)), ?_⟩
    refine ⟨_, rfl, p, _, _, _, rfl, hp, T.Desk.cl, T.Desk_n_held, Nat.zero_lt_succ _, ?_⟩
    exact k _ upd_same sb_upd
def sp_Desk_held_list (T : PEnv K mg) : Sp := fun vs H Q E => ∃ (a : Addr) (o : Vahypz.Obj), vs = [.ref a] ∧ DeskAt T H a o ∧ (o = none → RefE T E H (-1)) ∧ (∀ s x dx, o = some s → H a = some (.ins T.Desk.C dx (DeskF (.ref x))) → LstAt T H x s → LOk s → Q (.ref x) H)
theorem sc_Desk_held_list : FnScope ["self"] ["self"] (defScope s_Desk_held_list) := ⟨rfl, rfl, rfl, by decide +kernel, rfl, by decide +kernel, by decide +kernel⟩
theorem ok_Desk_held_list (T : PEnv K mg) {P : Program} {w : World} {base : Heap} : FnOk P w K mg base (L2.CX P w) 1 T.Desk_held_list.f T.Desk_held_list.fd ["self"] (sp_Desk_held_list T) := by
  refine T.Desk_held_list.F.okX sc_Desk_held_list (fun vs H Q E h => ?_) (fun cdv A outer s H vs Q E hr h => ?_)
  · obtain ⟨a, o, rfl, _⟩ := h
    rfl
  · obtain ⟨a, o, rfl, ⟨dx, v, ha, hv⟩, kE, k⟩ := h
    refine ⟨_, (pss_cons (ps_if (pt_cmpR op_isN (pe_fld (pv 0) rfl) pe_non (nomark _))
        (pss_one (L2.ps_raise rfl (L2.takes_of rfl rfl rfl rfl) (pmk_plain (pmk0 T.NoList_T (NoListI T) (room2 hr) T.NoList.g (by rfl)))))
        pss_nil)
      (pss_one (ps_ret (pe_fld (pv 0) rfl)))), ?_⟩
    cases o with
    | none =>
      have e : v = .non := hv
      subst e
      exact ⟨_, rfl, _, _, _, _, _, rfl, ha, T.Desk.cl, T.Desk_n_held, Desk_l_held, rfl, _, rfl, ifd (fun _ d hd => kE rfl _ _ d (.inl rfl) (same_upd hd) upd_same) (fun z => absurd rfl z)⟩
    | some s_ =>
      obtain ⟨x, e, hx, ok⟩ := hv
      subst e
      exact ⟨_, rfl, _, _, _, _, _, rfl, ha, T.Desk.cl, T.Desk_n_held, Desk_l_held, rfl, _, rfl, ifd (fun z => by cases z) (fun _ => ⟨_, rfl, _, _, _, _, _, rfl, ha, T.Desk.cl, T.Desk_n_held, Desk_l_held, k s_ x dx rfl ha hx ok⟩)⟩
def sp_Desk_shown (T : PEnv K mg) : Sp := fun vs H Q E => ∃ (a : Addr) (o : Vahypz.Obj), vs = [.ref a] ∧ DeskAt T H a o ∧ OkA T a H Q (Vahypz.step o .shown) ∧ ErA T H E o (Vahypz.step o .shown)
theorem sc_Desk_shown : FnScope ["self", "form"] ["self"] (defScope s_Desk_shown) := ⟨rfl, rfl, rfl, by decide +kernel, rfl, by decide +kernel, by decide +kernel⟩
theorem ok_Desk_shown (T : PEnv K mg) {P : Program} {w : World} {base : Heap} : FnOk P w K mg base (L2.CX P w) 3 T.Desk_shown.f T.Desk_shown.fd ["self"] (sp_Desk_shown T) := by
  refine T.Desk_shown.F.okX sc_Desk_shown (fun vs H Q E h => ?_) (fun cdv A outer s H vs Q E hr h => ?_)
  · obtain ⟨a, o, rfl, _⟩ := h
    rfl
  · obtain ⟨a, o, rfl, hd, k, kE⟩ := h
    refine ⟨_, (pss_cons (ps_set (i := 1) sc_Desk_shown.nd rfl (Or.inl rfl) (pe_call (ok_bytes_of T) (hr.mono (by decide)) rfl T.bytes_of.g T.bytes_of.F.kp T.bytes_of.b .nil pass0 (pa_cons (pe_call (ok_one_form T) (hr.mono (by decide)) rfl T.one_form.g T.one_form.F.kp T.one_form.b .nil pass0 (pa_cons (pe_meth0 (pv 0) T.Desk.cl T.Desk_held_list.at_ (ok_Desk_held_list T) (hr.mono (by decide)) T.Desk_held_list.b .nil (passD (L2.takes_of rfl rfl rfl rfl))) pa_nil)) pa_nil)))
      (pss_one (ps_ret (pe_op op_cat (pe_lst (pa_cons (pe_callB call_len (by rfl) T.b_len (by decide +kernel) (pa_cons (pv 1) pa_nil)) pa_nil)) (pv 1))))), ?_⟩
    obtain ⟨dx, v, ha, hv⟩ := id hd
    refine ⟨_, rfl, _, _, _, rfl, ha, Desk_m_held_list, a, o, rfl, hd, fun e => kE (-1) (by rw [e]; rfl), fun s_ x dy e _ hx ok => ?_⟩
    subst e
    have sl := shown_len ok
    refine ⟨x, s_, rfl, hx, ok, fun H1 s1 => ?_⟩
    refine ⟨shown s_, rfl, by omega, fun p H2 s2 hp np => ?_⟩
    refine ⟨_, rfl, _, _, rfl, .inl ⟨_, SqL.of hp, rfl⟩, Nat.le_of_ble_eq_true rfl, fun c hc => ?_⟩
    rw [vB_length]
    have s3 := same_upd (o := .lst [.int ((shown s_).length : Nat)]) hc
    refine ⟨_, rfl, c, p, _, _, rfl, rfl, upd_same, s3 _ _ hp, ?_, fun d hd2 => ?_⟩
    · rw [vB_length]
      exact small_line (by show 1 + _ ≤ _; omega)
    have s4 := same_upd (o := .lst ([.int ((shown s_).length : Nat)] ++ vB (shown s_))) hd2
    have sm := ((s1.trans s2).trans s3).trans s4
    refine k d _ (Sb.of sm) (hd.same sm) (((s1.trans s2).trans s3).free hd2) ?_
    rw [upd_same]
    show _ = some (HO.lst (vI (((shown s_).length : Int) :: ((shown s_).map fun c => (c.toNat : Int)))))
    rw [← vI_vB]
    rfl
def sp_Desk_margins (T : PEnv K mg) : Sp := fun vs H Q E => ∃ (a : Addr) (o : Vahypz.Obj), vs = [.ref a] ∧ DeskAt T H a o ∧ OkA T a H Q (Vahypz.step o .margins) ∧ ErA T H E o (Vahypz.step o .margins)
theorem sc_Desk_margins : FnScope ["self"] ["self"] (defScope s_Desk_margins) := ⟨rfl, rfl, rfl, by decide +kernel, rfl, by decide +kernel, by decide +kernel⟩
theorem ok_Desk_margins (T : PEnv K mg) {P : Program} {w : World} {base : Heap} : FnOk P w K mg base (L2.CX P w) 8 T.Desk_margins.f T.Desk_margins.fd ["self"] (sp_Desk_margins T) := by
  refine T.Desk_margins.F.okX sc_Desk_margins (fun vs H Q E h => ?_) (fun cdv A outer s H vs Q E hr h => ?_)
  · obtain ⟨a, o, rfl, _⟩ := h
    rfl
  · obtain ⟨a, o, rfl, hd, k, kE⟩ := h
    refine ⟨_, (pss_one (ps_ret (pe_call (ok_margins_tried T) (hr.mono (by decide)) rfl T.margins_tried.g T.margins_tried.F.kp T.margins_tried.b .nil pass0 (pa_cons (pe_meth0 (pv 0) T.Desk.cl T.Desk_held_list.at_ (ok_Desk_held_list T) (hr.mono (by decide)) T.Desk_held_list.b .nil (passD (L2.takes_of rfl rfl rfl rfl))) pa_nil)))), ?_⟩
    obtain ⟨dx, v, ha, hv⟩ := id hd
    refine ⟨_, rfl, _, _, _, rfl, ha, Desk_m_held_list, a, o, rfl, hd, fun e => kE (-1) (by rw [e]; rfl), fun s_ x dy e _ hx ok => ?_⟩
    subst e
    refine ⟨x, s_, rfl, hx, ok, fun g H1 s1 ng hg => ?_⟩
    refine k g H1 (Sb.of s1) (hd.same s1) ng ?_
    rw [hg, ← vI_vN]
    congr 2
def sp_Desk_needless (T : PEnv K mg) : Sp := fun vs H Q E => ∃ (a : Addr) (o : Vahypz.Obj), vs = [.ref a] ∧ DeskAt T H a o ∧ OkA T a H Q (Vahypz.step o .needless) ∧ ErA T H E o (Vahypz.step o .needless)
theorem sc_Desk_needless : FnScope ["self", "numbers"] ["self"] (defScope s_Desk_needless) := ⟨rfl, rfl, rfl, by decide +kernel, rfl, by decide +kernel, by decide +kernel⟩
theorem ok_Desk_needless (T : PEnv K mg) {P : Program} {w : World} {base : Heap} : FnOk P w K mg base (L2.CX P w) 7 T.Desk_needless.f T.Desk_needless.fd ["self"] (sp_Desk_needless T) := by
  refine T.Desk_needless.F.okX sc_Desk_needless (fun vs H Q E h => ?_) (fun cdv A outer s H vs Q E hr h => ?_)
  · obtain ⟨a, o, rfl, _⟩ := h
    rfl
  · obtain ⟨a, o, rfl, hd, k, kE⟩ := h
    refine ⟨_, (pss_cons (ps_set (i := 1) sc_Desk_needless.nd rfl (Or.inl rfl) (pe_call (ok_needless_patterns T) (hr.mono (by decide)) rfl T.needless_patterns.g T.needless_patterns.F.kp T.needless_patterns.b .nil pass0 (pa_cons (pe_meth0 (pv 0) T.Desk.cl T.Desk_held_list.at_ (ok_Desk_held_list T) (hr.mono (by decide)) T.Desk_held_list.b .nil (passD (L2.takes_of rfl rfl rfl rfl))) pa_nil)))
      (pss_one (ps_ret (pe_op op_cat (pe_lst (pa_cons (pe_callB call_len (by rfl) T.b_len (by decide +kernel) (pa_cons (pv 1) pa_nil)) pa_nil)) (pv 1))))), ?_⟩
    obtain ⟨dx, v, ha, hv⟩ := id hd
    refine ⟨_, rfl, _, _, _, rfl, ha, Desk_m_held_list, a, o, rfl, hd, fun e => kE (-1) (by rw [e]; rfl), fun s_ x dy e _ hx ok => ?_⟩
    subst e
    refine ⟨x, s_, rfl, hx, ok, fun p H2 s2 np hp => ?_⟩
    have hl : (Vahypz.needless s_).length ≤ 40 := Nat.le_trans (List.length_filter_le _ _) (by rw [List.length_range]; exact ok.pmost)
    refine ⟨_, rfl, _, _, rfl, .inl ⟨_, SqL.of hp, rfl⟩, Nat.le_of_ble_eq_true rfl, fun c hc => ?_⟩
    rw [vN_length]
    have s3 := same_upd (o := .lst [.int ((Vahypz.needless s_).length : Nat)]) hc
    refine ⟨_, rfl, c, p, _, _, rfl, rfl, upd_same, s3 _ _ hp, ?_, fun d hd2 => ?_⟩
    · rw [vN_length]
      exact small_line (by show 1 + _ ≤ _; omega)
    have s4 := same_upd (o := .lst ([.int ((Vahypz.needless s_).length : Nat)] ++ vN (Vahypz.needless s_))) hd2
    have sm := (s2.trans s3).trans s4
    refine k d _ (Sb.of sm) (hd.same sm) ((s2.trans s3).free hd2) ?_
    rw [upd_same, ← vI_vN]
    rfl
end
end PwX

/-! ## PwDesk -/
namespace Pw
open VahypBase Vahypa
theorem slimAll_len : ∀ (s : Lst) (f : Nat) (t : Lst), (Vahypz.slimAll s f t).pats.length ≤ t.pats.length
  | s, 0, t => Nat.le_refl _
  | s, f + 1, t => by
    rw [slimAll_step]
    split
    · exact Nat.le_refl _
    · exact Nat.le_trans (slimAll_len s f _) (slimBy_words s _ _ t).2.2.2.1
theorem slim_len (s : Lst) : (Vahypz.slim s).pats.length ≤ s.pats.length := slimAll_len s _ s
def fitOk (p : Pat) (x : Bytes) : Bool := (List.range (x.length + 1)).any (fitsAt p x)
theorem fit_pos (p : Pat) (x : Bytes) : decide (0 < (fitsL p x).length) = fitOk p x := by
  rw [← fitsL_all]
  unfold fitOk
  rw [Bool.eq_iff_iff, decide_eq_true_eq, List.any_eq_true, List.length_pos_iff_exists_mem]
  constructor
  · rintro ⟨o, h⟩
    have := List.mem_filter.mp h
    exact ⟨o, this.1, this.2⟩
  · rintro ⟨o, h1, h2⟩
    exact ⟨o, List.mem_filter.mpr ⟨h1, h2⟩⟩
def fittingTo (s : Lst) (x : Bytes) (k : Nat) : List Nat := (List.range k).filter fun i => (s.pats[i]?).any fun p => (List.range (x.length + 1)).any (fitsAt p x)
theorem fitting_end (s : Lst) (x : Bytes) : fittingTo s x s.pats.length = Vahypz.fitting s x := rfl
theorem fitting_step {s : Lst} {x : Bytes} {k : Nat} {p : Pat} (h : s.pats[k]? = some p) : fittingTo s x (k + 1) = fittingTo s x k ++ if fitOk p x = true then [k] else [] := by
  unfold fittingTo
  have er : List.range (k + 1) = List.range k ++ [k] := List.range_succ
  rw [er, List.filter_append]
  congr 1
  have e : (List.filter (fun i => (s.pats[i]?).any fun p => (List.range (x.length + 1)).any (fitsAt p x)) [k]) = if ((s.pats[k]?).any fun p => (List.range (x.length + 1)).any (fitsAt p x)) = true then [k] else [] := by
    rw [List.filter_cons]
    rfl
  rw [e, h]
  rfl
theorem fitting_len (s : Lst) (x : Bytes) (k : Nat) : (fittingTo s x k).length ≤ k := Nat.le_trans (List.length_filter_le _ _) (by rw [List.length_range]; exact Nat.le_refl _)
theorem lvl_mid (ps : List Pat) (x : Bytes) : ((lvl ps x).drop 1).take (x.length - 1) = levels ps x := by
  apply List.ext_getElem?
  intro i
  unfold levels
  by_cases h : i < x.length - 1
  · rw [List.getElem?_take_of_lt h, List.getElem?_drop, List.getElem?_map, gaps_get h]
    show (tab _ _)[1 + i]? = _
    rw [tab_get _ (by omega), Nat.add_comm]
    rfl
  · rw [List.getElem?_eq_none (by rw [List.length_take]; omega), List.getElem?_eq_none (by rw [List.length_map, gaps_length]; omega)]
theorem levels_len (ps : List Pat) (x : Bytes) : (levels ps x).length = x.length - 1 := by
  unfold levels
  rw [List.length_map, gaps_length]
end Pw
namespace Pw
open VahypBase Vahypa
/-! ### what is read is well formed -/
theorem readW_ok {ws : List Word} {l m : Toks} {w : Word} (h : readW ws l = .ok (w, m)) : WOk w := by
  unfold readW at h
  split at h
  · cases h
  · cases h1 : takeWord "word" l with
    | error e => rw [h1] at h; cases h
    | ok l1 =>
      rw [h1] at h
      change (takeChunk l1).bind _ = _ at h
      cases h2 : takeChunk l1 with
      | error e => rw [h2] at h; cases h
      | ok x =>
        rw [h2] at h
        change (match wordOf x.2.1 with | none => _ | some w => _) = _ at h
        cases h3 : wordOf x.2.1 with
        | none => rw [h3] at h; cases h
        | some v =>
          rw [h3] at h
          dsimp only at h
          split at h
          · cases h
          · cases h4 : takeSign 59 x.2.2 with
            | error e => rw [h4] at h; cases h
            | ok m2 =>
              rw [h4] at h
              change Except.ok (v, m2) = _ at h
              injection h with h
              injection h with h5 h6
              rw [← h5]
              exact wordOf_ok h3
theorem readP_ok {ws : List Pat} {l m : Toks} {w : Pat} (h : readP ws l = .ok (w, m)) : POk w := by
  unfold readP at h
  split at h
  · cases h
  · cases h1 : takeWord "pattern" l with
    | error e => rw [h1] at h; cases h
    | ok l1 =>
      rw [h1] at h
      change (takeChunk l1).bind _ = _ at h
      cases h2 : takeChunk l1 with
      | error e => rw [h2] at h; cases h
      | ok x =>
        rw [h2] at h
        change (match patOf x.2.1 with | none => _ | some w => _) = _ at h
        cases h3 : patOf x.2.1 with
        | none => rw [h3] at h; cases h
        | some v =>
          rw [h3] at h
          dsimp only at h
          split at h
          · cases h
          · cases h4 : takeSign 59 x.2.2 with
            | error e => rw [h4] at h; cases h
            | ok m2 =>
              rw [h4] at h
              change Except.ok (v, m2) = _ at h
              injection h with h
              injection h with h5 h6
              rw [← h5]
              exact patOf_ok h3
theorem words_ok : ∀ (n : Nat) (ws : List Word) (l : Toks) (q : List Word × Toks), l.length ≤ n → ws.length ≤ 24 → (∀ w ∈ ws, WOk w) → wordsR ws l = .ok q → q.1.length ≤ 24 ∧ ∀ w ∈ q.1, WOk w
  | n, ws, l, q, hn, hw, ok, h => by
    by_cases c : nextWord "word" l = true
    · rw [wordsR_go hw c] at h
      cases h1 : readW ws l with
      | error e => rw [h1] at h; cases h
      | ok p =>
        rw [h1] at h
        change wordsR (ws ++ [p.1]) p.2 = _ at h
        have h2 := readW_less h1
        have h3 := readW_room h1 hw
        obtain ⟨w, m⟩ := p
        have h4 := readW_ok h1
        match n, hn with
        | 0, hn => dsimp only at h2; omega
        | n + 1, hn =>
          refine words_ok n _ _ q (by dsimp only at h2 ⊢; omega) (by rw [List.length_append]; exact h3) (fun v hv => ?_) h
          rcases List.mem_append.mp hv with hv | hv
          · exact ok v hv
          · rw [List.mem_singleton.mp hv]; exact h4
    · rw [wordsR_stop hw c] at h
      cases h
      exact ⟨hw, ok⟩
theorem pats_ok : ∀ (n : Nat) (ps : List Pat) (l : Toks) (q : List Pat), l.length ≤ n → ps.length ≤ 40 → (∀ w ∈ ps, POk w) → patsR ps l = .ok q → q.length ≤ 40 ∧ ∀ w ∈ q, POk w
  | n, ps, l, q, hn, hw, ok, h => by
    by_cases c : nextWord "pattern" l = true
    · rw [patsR_go hw (fun z => last_not_word z c) c] at h
      cases h1 : readP ps l with
      | error e => rw [h1] at h; cases h
      | ok p =>
        rw [h1] at h
        change patsR (ps ++ [p.1]) p.2 = _ at h
        have h2 := readP_less h1
        have h3 := readP_room h1 hw
        obtain ⟨w, m⟩ := p
        have h4 := readP_ok h1
        match n, hn with
        | 0, hn => dsimp only at h2; omega
        | n + 1, hn =>
          refine pats_ok n _ _ q (by dsimp only at h2 ⊢; omega) (by rw [List.length_append]; exact h3) (fun v hv => ?_) h
          rcases List.mem_append.mp hv with hv | hv
          · exact ok v hv
          · rw [List.mem_singleton.mp hv]; exact h4
    · rw [patsR_stop hw c] at h
      split at h
      · cases h
        exact ⟨hw, ok⟩
      · cases h
theorem margin_ok {l : Toks} {p : Nat × Toks} (h : takeMargin l = .ok p) : p.1 ≤ 5 := by
  unfold takeMargin at h
  cases h1 : takeChunk l with
  | error e => rw [h1] at h; cases h
  | ok x =>
    rw [h1] at h
    change (match x.2.1 with | [b] => _ | _ => _) = _ at h
    split at h
    · split at h
      · rename_i h2
        cases h
        exact h2.2
      · cases h
    · cases h
theorem read_ok {b : Bytes} {s : Lst} (h : read b = .ok s) : LOk s := by
  rw [read_eq] at h
  cases h0 : tokens b with
  | error e => rw [h0] at h; cases h
  | ok l0 =>
    rw [h0] at h
    change (takeWord "margins" l0).bind _ = _ at h
    cases h1 : takeWord "margins" l0 with
    | error e => rw [h1] at h; cases h
    | ok l1 =>
      rw [h1] at h
      change (takeMargin l1).bind _ = _ at h
      cases h2 : takeMargin l1 with
      | error e => rw [h2] at h; cases h
      | ok a =>
        rw [h2] at h
        change (takeMargin a.2).bind _ = _ at h
        cases h3 : takeMargin a.2 with
        | error e => rw [h3] at h; cases h
        | ok z =>
          rw [h3] at h
          change (takeSign 59 z.2).bind _ = _ at h
          cases h4 : takeSign 59 z.2 with
          | error e => rw [h4] at h; cases h
          | ok l4 =>
            rw [h4] at h
            change (wordsR [] l4).bind _ = _ at h
            cases h5 : wordsR [] l4 with
            | error e => rw [h5] at h; cases h
            | ok q =>
              rw [h5] at h
              change (takePats (l4.length + 1) [] q.2).map _ = _ at h
              have hle := wordsR_less _ [] l4 _ (Nat.le_refl _) (Nat.zero_le _) h5
              rw [pats_enough hle (Nat.zero_le _)] at h
              cases h6 : patsR [] q.2 with
              | error e => rw [h6] at h; cases h
              | ok ps =>
                rw [h6] at h
                change Except.ok _ = _ at h
                injection h with h
                subst h
                have a1 := words_ok _ [] l4 q (Nat.le_refl _) (Nat.zero_le _) (fun w hw => by cases hw) h5
                have a2 := pats_ok _ [] q.2 ps (Nat.le_refl _) (Nat.zero_le _) (fun w hw => by cases hw) h6
                exact ⟨margin_ok h2, margin_ok h3, a1.1, a2.1, a1.2, a2.2⟩
def IOk : Vahypz.Item → Prop
  | .word w => WOk w
  | .pat p => POk p
theorem item_ok {b : Bytes} {it : Vahypz.Item} (h : Vahypz.readItem b = some it) : IOk it := by
  rw [readItem_eq] at h
  cases h0 : tokens b with
  | error e => rw [h0] at h; cases h
  | ok l =>
    rw [h0] at h
    change itemR l = _ at h
    unfold itemR at h
    split at h
    · cases h1 : readW [] l with
      | error e => rw [h1] at h; cases h
      | ok p =>
        obtain ⟨w, m⟩ := p
        rw [h1] at h
        dsimp only at h
        split at h
        · cases h
          exact readW_ok h1
        · cases h
    · cases h1 : readP [] l with
      | error e => rw [h1] at h; cases h
      | ok p =>
        obtain ⟨w, m⟩ := p
        rw [h1] at h
        dsimp only at h
        split at h
        · cases h
          exact readP_ok h1
        · cases h
theorem mem_putW {w v : Word} : ∀ {ws : List Word}, v ∈ Vahypz.putWord w ws → v = w ∨ v ∈ ws
  | [], h => .inl (List.mem_singleton.mp h)
  | u :: r, h => by
    rw [Vahypz.putWord] at h
    split at h
    · rcases List.mem_cons.mp h with h | h
      · exact .inl h
      · exact .inr (List.mem_cons_of_mem _ h)
    · rcases List.mem_cons.mp h with h | h
      · exact .inr (by rw [h]; exact List.mem_cons_self)
      · rcases mem_putW h with h | h
        · exact .inl h
        · exact .inr (List.mem_cons_of_mem _ h)
theorem mem_putP {w v : Pat} : ∀ {ws : List Pat}, v ∈ Vahypz.putPat w ws → v = w ∨ v ∈ ws
  | [], h => .inl (List.mem_singleton.mp h)
  | u :: r, h => by
    rw [Vahypz.putPat] at h
    split at h
    · rcases List.mem_cons.mp h with h | h
      · exact .inl h
      · exact .inr (List.mem_cons_of_mem _ h)
    · rcases List.mem_cons.mp h with h | h
      · exact .inr (by rw [h]; exact List.mem_cons_self)
      · rcases mem_putP h with h | h
        · exact .inl h
        · exact .inr (List.mem_cons_of_mem _ h)
theorem LOk.put {s : Lst} {it : Vahypz.Item} (ok : LOk s) (h : IOk it) (f : Vahypz.fits (Vahypz.put s it) = true) : LOk (Vahypz.put s it) := by
  have hf : (Vahypz.put s it).words.length ≤ 24 ∧ (Vahypz.put s it).pats.length ≤ 40 := of_decide_eq_true f
  cases it with
  | word w =>
    refine ⟨ok.l5, ok.r5, hf.1, hf.2, fun v hv => ?_, ok.ps⟩
    rcases mem_putW hv with e | hv
    · rw [e]; exact h
    · exact ok.ws v hv
  | pat p =>
    refine ⟨ok.l5, ok.r5, hf.1, hf.2, ok.ws, fun v hv => ?_⟩
    rcases mem_putP hv with e | hv
    · rw [e]; exact h
    · exact ok.ps v hv
end Pw

/-! ## PwD24 -/
namespace PwX
open PySem PySem.Spec PyProof.Rows L2
open VahypBase Vahypa Pw
section
variable {K : PySem.W.Frag} {mg : Str → Option Value}
theorem lenL {x : Addr} {s : Lst} {T : PEnv K mg} {H : Hp} (h : LstAt T H x s) : ∃ dx wa pa as bs, H x = some (.ins T.WordList.C dx (WordListF (.int (s.l : Nat)) (.int (s.r : Nat)) (.ref wa) (.ref pa))) ∧ H wa = some (.lst (vR as)) ∧ H pa = some (.lst (vR bs)) ∧ as.length = s.words.length ∧ bs.length = s.pats.length := by
  obtain ⟨dx, wa, pa, h1, ⟨as, h2, h3⟩, ⟨bs, h4, h5⟩⟩ := h
  exact ⟨dx, wa, pa, as, bs, h1, h2, h4, h3.len, h5.len⟩

def sp_Desk_change (T : PEnv K mg) : Sp := fun vs H Q E => ∃ (a b : Addr) (s t : Lst), vs = [.ref a, .ref b] ∧ DeskAt T H a (some s) ∧ LstAt T H b t ∧ LOk t ∧ OkA T a H Q (some t, Vahypz.changeAnswer s t)
theorem sc_Desk_change : FnScope ["self", "changed", "touched"] ["self", "changed"] (defScope s_Desk_change) := ⟨rfl, rfl, rfl, by decide +kernel, rfl, by decide +kernel, by decide +kernel⟩
theorem ok_Desk_change (T : PEnv K mg) {P : Program} {w : World} {base : Heap} : FnOk P w K mg base (L2.CX P w) 7 T.Desk_change.f T.Desk_change.fd ["self", "changed"] (sp_Desk_change T) := by
  refine T.Desk_change.F.okX sc_Desk_change (fun vs H Q E h => ?_) (fun cdv A outer s H vs Q E hr h => ?_)
  · obtain ⟨a, b, s_, t_, rfl, _⟩ := h
    rfl
  · obtain ⟨a, b, s_, t_, rfl, hd, ht, okt, k⟩ := h
    refine ⟨_, (pss_cons (ps_set (i := 2) sc_Desk_change.nd rfl (Or.inl rfl) (pe_call (ok_touched_words T) (hr.mono (by decide)) rfl T.touched_words.g T.touched_words.F.kp T.touched_words.b .nil pass0 (pa_cons (pe_meth0 (pv 0) T.Desk.cl T.Desk_held_list.at_ (ok_Desk_held_list T) (hr.mono (by decide)) T.Desk_held_list.b .nil (passD (L2.takes_of rfl rfl rfl rfl))) (pa_cons (pv 1) pa_nil))))
      (pss_cons (ps_fld (pv 0) (pv 1) rfl)
      (pss_one (ps_ret (pe_op op_cat (pe_lst (pa_cons (pe_callB call_len (by rfl) T.b_len (by decide +kernel) (pa_cons (pe_fld (pv 1) rfl) pa_nil)) (pa_cons (pe_callB call_len (by rfl) T.b_len (by decide +kernel) (pa_cons (pe_fld (pv 1) rfl) pa_nil)) (pa_cons (pe_callB call_len (by rfl) T.b_len (by decide +kernel) (pa_cons (pv 2) pa_nil)) pa_nil)))) (pv 2)))))), ?_⟩
    obtain ⟨dx, v, ha, hv⟩ := id hd
    refine ⟨_, rfl, _, _, _, rfl, ha, Desk_m_held_list, a, _, rfl, hd, (fun e => by cases e), fun s2 x dy e ha2 hx ok => ?_⟩
    cases e
    refine ⟨_, rfl, x, b, s_, t_, rfl, hx, ht, ok, okt.ps, fun L H1 s1 nL hL => ?_⟩
    have hl : (Vahypz.touched s_ t_).length ≤ 24 := by
      unfold Vahypz.touched
      rw [List.length_map]
      exact Nat.le_trans (List.length_filter_le _ _) (by rw [List.length_zipIdx]; exact ok.wmost)
    have ha3 := s1 _ _ ha
    refine ⟨_, rfl, _, rfl, a, _, _, _, rfl, ha3, T.Desk.cl, T.Desk_n_held, Nat.le_of_ble_eq_true rfl, ?_⟩
    have ep : putF "held" (.ref b) (DeskF v) = DeskF (.ref b) := rfl
    rw [ep]
    have sb : Sb a H1 (upd H1 a (.ins T.Desk.C dx (DeskF (.ref b)))) := sb_upd
    have ha4 : upd H1 a (.ins T.Desk.C dx (DeskF (.ref b))) a = some (.ins T.Desk.C dx (DeskF (.ref b))) := upd_same
    have hb4 : LstAt T (upd H1 a (.ins T.Desk.C dx (DeskF (.ref b)))) b t_ := (ht.same s1).sbo ha3 desk_other sb
    have hL4 : upd H1 a (.ins T.Desk.C dx (DeskF (.ref b))) L = some (.lst (vN (Vahypz.touched s_ t_))) := sb _ _ hL (ne_of hL ha3 (by intro z; cases z))
    have sb0 : Sb a H (upd H1 a (.ins T.Desk.C dx (DeskF (.ref b)))) := (Sb.of s1).trans sb
    generalize upd H1 a (.ins T.Desk.C dx (DeskF (.ref b))) = H4 at *
    obtain ⟨dl, wa, pa, as, bs, hb5, hwa, hpa, lw, lp⟩ := lenL hb4
    refine ⟨_, rfl, _, _, _, _, _, rfl, hb5, T.WordList.cl, T.WordList_n_words, WordList_l_words, _, _, rfl, .inl ⟨_, SqL.of hwa, rfl⟩, _, rfl, _, _, _, _, _, rfl, hb5, T.WordList.cl, T.WordList_n_patterns, WordList_l_patterns, _, _, rfl, .inl ⟨_, SqL.of hpa, rfl⟩, _, rfl, _, _, rfl, .inl ⟨_, SqL.of hL4, rfl⟩, Nat.le_of_ble_eq_true rfl, fun c hc => ?_⟩
    rw [vR_length, vR_length, vN_length, lw, lp]
    have s5 := same_upd (o := .lst [.int (t_.words.length : Nat), .int (t_.pats.length : Nat), .int ((Vahypz.touched s_ t_).length : Nat)]) hc
    refine ⟨_, rfl, c, L, _, _, rfl, rfl, upd_same, s5 _ _ hL4, ?_, fun d hd2 => ?_⟩
    · rw [vN_length]
      exact small_line (by show 3 + _ ≤ _; omega)
    have s6 := same_upd (o := .lst ([.int (t_.words.length : Nat), .int (t_.pats.length : Nat), .int ((Vahypz.touched s_ t_).length : Nat)] ++ vN (Vahypz.touched s_ t_))) hd2
    have s56 := s5.trans s6
    have nd : H d = none := by
      have h4 := s5.free hd2
      cases e : H d with
      | none => rfl
      | some o =>
        have hne : d ≠ a := by
          rintro rfl
          rw [h4] at ha4
          cases ha4
        rw [sb0 d o e hne] at h4
        cases h4
    refine k d _ (sb0.trans (Sb.of s56)) ⟨dx, _, s56 _ _ ha4, b, rfl, hb4.same s56, okt⟩ nd ?_
    rw [upd_same, ← vI_vN]
    rfl
def sp_Desk_slim (T : PEnv K mg) : Sp := fun vs H Q E => ∃ (a : Addr) (o : Vahypz.Obj), vs = [.ref a] ∧ DeskAt T H a o ∧ OkA T a H Q (Vahypz.step o .slim) ∧ ErA T H E o (Vahypz.step o .slim)
theorem sc_Desk_slim : FnScope ["self", "held", "slim"] ["self"] (defScope s_Desk_slim) := ⟨rfl, rfl, rfl, by decide +kernel, rfl, by decide +kernel, by decide +kernel⟩
theorem ok_Desk_slim (T : PEnv K mg) {P : Program} {w : World} {base : Heap} : FnOk P w K mg base (L2.CX P w) 8 T.Desk_slim.f T.Desk_slim.fd ["self"] (sp_Desk_slim T) := by
  refine T.Desk_slim.F.okX sc_Desk_slim (fun vs H Q E h => ?_) (fun cdv A outer s H vs Q E hr h => ?_)
  · obtain ⟨a, o, rfl, _⟩ := h
    rfl
  · obtain ⟨a, o, rfl, hd, k, kE⟩ := h
    refine ⟨_, (pss_cons (ps_set (i := 1) sc_Desk_slim.nd rfl (Or.inl rfl) (pe_meth0 (pv 0) T.Desk.cl T.Desk_held_list.at_ (ok_Desk_held_list T) (hr.mono (by decide)) T.Desk_held_list.b .nil (passD (L2.takes_of rfl rfl rfl rfl))))
      (pss_cons (ps_set (i := 2) sc_Desk_slim.nd rfl (Or.inl rfl) (pe_call (ok_made_slim T) (hr.mono (by decide)) rfl T.made_slim.g T.made_slim.F.kp T.made_slim.b .nil pass0 (pa_cons (pv 1) pa_nil)))
      (pss_cons (ps_fld (pv 0) (pv 2) rfl)
      (pss_one (ps_ret (pe_lst (pa_cons (pe_callB call_len (by rfl) T.b_len (by decide +kernel) (pa_cons (pe_fld (pv 2) rfl) pa_nil)) (pa_cons (pe_op op_sub (pe_callB call_len (by rfl) T.b_len (by decide +kernel) (pa_cons (pe_fld (pv 1) rfl) pa_nil)) (pe_callB call_len (by rfl) T.b_len (by decide +kernel) (pa_cons (pe_fld (pv 2) rfl) pa_nil))) pa_nil)))))))), ?_⟩
    obtain ⟨dx, v, ha, hv⟩ := id hd
    refine ⟨_, rfl, _, _, _, rfl, ha, Desk_m_held_list, a, o, rfl, hd, fun e => kE (-1) (by rw [e]; rfl), fun s_ x dy e ha2 hx ok => ?_⟩
    subst e
    refine ⟨_, rfl, x, s_, rfl, hx, ok, fun y H1 s1 hy oky => ?_⟩
    have ha3 := s1 _ _ ha
    refine ⟨_, rfl, _, rfl, a, _, _, _, rfl, ha3, T.Desk.cl, T.Desk_n_held, Nat.le_of_ble_eq_true rfl, ?_⟩
    have ep : putF "held" (.ref y) (DeskF v) = DeskF (.ref y) := rfl
    rw [ep]
    have sb : Sb a H1 (upd H1 a (.ins T.Desk.C dx (DeskF (.ref y)))) := sb_upd
    have ha4 : upd H1 a (.ins T.Desk.C dx (DeskF (.ref y))) a = some (.ins T.Desk.C dx (DeskF (.ref y))) := upd_same
    have hy4 : LstAt T (upd H1 a (.ins T.Desk.C dx (DeskF (.ref y)))) y (Vahypz.slim s_) := hy.sbo ha3 desk_other sb
    have hx4 : LstAt T (upd H1 a (.ins T.Desk.C dx (DeskF (.ref y)))) x s_ := (hx.same s1).sbo ha3 desk_other sb
    have sb0 : Sb a H (upd H1 a (.ins T.Desk.C dx (DeskF (.ref y)))) := (Sb.of s1).trans sb
    generalize upd H1 a (.ins T.Desk.C dx (DeskF (.ref y))) = H4 at *
    obtain ⟨dl, wa, pa, as, bs, hy5, hwa, hpa, lw, lp⟩ := lenL hy4
    obtain ⟨dl2, wa2, pa2, as2, bs2, hx5, hwa2, hpa2, lw2, lp2⟩ := lenL hx4
    have sl := slim_len s_
    refine ⟨_, rfl, _, _, _, _, _, rfl, hy5, T.WordList.cl, T.WordList_n_patterns, WordList_l_patterns, _, _, rfl, .inl ⟨_, SqL.of hpa, rfl⟩, _, rfl, _, _, _, _, _, rfl, hx5, T.WordList.cl, T.WordList_n_patterns, WordList_l_patterns, _, _, rfl, .inl ⟨_, SqL.of hpa2, rfl⟩, _, rfl, _, _, _, _, _, rfl, hy5, T.WordList.cl, T.WordList_n_patterns, WordList_l_patterns, _, _, rfl, .inl ⟨_, SqL.of hpa, rfl⟩, _, _, rfl, rfl, Nat.le_of_ble_eq_true rfl, fun c hc => ?_⟩
    rw [vR_length, vR_length, lp, lp2]
    have s5 := same_upd (o := .lst [.int ((Vahypz.slim s_).pats.length : Nat), .int ((s_.pats.length : Nat) - ((Vahypz.slim s_).pats.length : Nat))]) hc
    have nd : H c = none := by
      cases e : H c with
      | none => rfl
      | some o =>
        have hne : c ≠ a := by
          rintro rfl
          rw [hc] at ha4
          cases ha4
        rw [sb0 c o e hne] at hc
        cases hc
    refine k c _ (sb0.trans (Sb.of s5)) ⟨dx, _, s5 _ _ ha4, y, rfl, hy4.same s5, oky⟩ nd ?_
    rw [upd_same]
    have es : ((s_.pats.length : Int) - ((Vahypz.slim s_).pats.length : Int)) = ((s_.pats.length - (Vahypz.slim s_).pats.length : Nat) : Int) := by omega
    show some (HO.lst [_, V.int (((s_.pats.length : Nat) : Int) - (((Vahypz.slim s_).pats.length : Nat) : Int))]) = _
    rw [es]
    rfl
theorem idx_none {i : Int} {n : Nat} (h : index i n = none) : ¬ (0 ≤ i ∧ i < (n : Int)) := by
  unfold index at h
  split at h
  · cases h
  · assumption
theorem idx_some {i : Int} {n j : Nat} (h : index i n = some j) : j < n ∧ i = (j : Nat) := by
  unfold index at h
  split at h
  · rename_i q
    injection h with h
    omega
  · cases h

def sp_Desk_drop (T : PEnv K mg) : Sp := fun vs H Q E => ∃ (a : Addr) (o : Vahypz.Obj) (q i : Int), vs = [.ref a, .int q, .int i] ∧ DeskAt T H a o ∧ OkA T a H Q (Vahypz.step o (.drop q i)) ∧ ErA T H E o (Vahypz.step o (.drop q i))
theorem sc_Desk_drop : FnScope ["self", "kind", "number", "held"] ["self", "kind", "number"] (defScope s_Desk_drop) := ⟨rfl, rfl, rfl, by decide +kernel, rfl, by decide +kernel, by decide +kernel⟩
theorem ok_Desk_drop (T : PEnv K mg) {P : Program} {w : World} {base : Heap} : FnOk P w K mg base (L2.CX P w) 8 T.Desk_drop.f T.Desk_drop.fd ["self", "kind", "number"] (sp_Desk_drop T) := by
  refine T.Desk_drop.F.okX sc_Desk_drop (fun vs H Q E h => ?_) (fun cdv A outer s H vs Q E hr h => ?_)
  · obtain ⟨a, o, q, i, rfl, _⟩ := h
    rfl
  · obtain ⟨a, o, q, i, rfl, hd, k, kE⟩ := h
    refine ⟨_, (pss_cons (ps_set (i := 3) sc_Desk_drop.nd rfl (Or.inl rfl) (pe_meth0 (pv 0) T.Desk.cl T.Desk_held_list.at_ (ok_Desk_held_list T) (hr.mono (by decide)) T.Desk_held_list.b .nil (passD (L2.takes_of rfl rfl rfl rfl))))
      (pss_cons (ps_if (pt_cmpR op_eq (pv 1) (pe_glob (v := .int 0) rfl T.c_A_WORD.e ⟨_, rfl⟩) (nomark _))
        (pss_cons (ps_expr (pe_call (ok_check_number T) (hr.mono (by decide)) rfl T.check_number.g T.check_number.F.kp T.check_number.b .nil (passD (L2.takes_of rfl rfl rfl rfl)) (pa_cons (pv 2) (pa_cons (pe_fld (pv 3) rfl) pa_nil))))
      (pss_one (ps_ret (pe_meth (pv 0) T.Desk.cl T.Desk_change.at_ (ok_Desk_change T) (hr.mono (by decide)) T.Desk_change.b .nil (passD (L2.takes_of rfl rfl rfl rfl)) (pa_cons (pe_call (ok_without_word T) (hr.mono (by decide)) rfl T.without_word.g T.without_word.F.kp T.without_word.b .nil pass0 (pa_cons (pv 3) (pa_cons (pv 2) pa_nil))) pa_nil)))))
        pss_nil)
      (pss_cons (ps_if (pt_cmpR op_eq (pv 1) (pe_glob (v := .int 1) rfl T.c_A_PATTERN.e ⟨_, rfl⟩) (nomark _))
        (pss_cons (ps_expr (pe_call (ok_check_number T) (hr.mono (by decide)) rfl T.check_number.g T.check_number.F.kp T.check_number.b .nil (passD (L2.takes_of rfl rfl rfl rfl)) (pa_cons (pv 2) (pa_cons (pe_fld (pv 3) rfl) pa_nil))))
      (pss_one (ps_ret (pe_meth (pv 0) T.Desk.cl T.Desk_change.at_ (ok_Desk_change T) (hr.mono (by decide)) T.Desk_change.b .nil (passD (L2.takes_of rfl rfl rfl rfl)) (pa_cons (pe_call (ok_without_pattern T) (hr.mono (by decide)) rfl T.without_pattern.g T.without_pattern.F.kp T.without_pattern.b .nil pass0 (pa_cons (pv 3) (pa_cons (pv 2) pa_nil))) pa_nil)))))
        pss_nil)
      (pss_one (L2.ps_raise rfl (L2.takes_of rfl rfl rfl rfl) (pmk_plain (pmk0 T.NotAsTold_T (NotAsToldI T) (room2 hr) T.NotAsTold.g (by rfl)))))))), ?_⟩
    obtain ⟨dx, v, ha, hv⟩ := id hd
    refine ⟨_, rfl, _, _, _, rfl, ha, Desk_m_held_list, a, o, rfl, hd, fun e => kE (-1) (by rw [e]; rfl), fun s_ x dy e ha2 hx ok => ?_⟩
    subst e
    have eS : Vahypz.step (some s_) (.drop q i) = Vahypz.dropCall s_ q i := rfl
    rw [eS] at k kE
    obtain ⟨dl, wa, pa, as, bs, hx5, hwa, hpa, lw, lp⟩ := lenL hx
    have w24 := ok.wmost
    have p40 := ok.pmost
    have dec : ∀ z : Int, decide (V.int q = V.int z) = decide (q = z) := fun z => by
      rw [Bool.eq_iff_iff, decide_eq_true_eq, decide_eq_true_eq]
      exact ⟨fun e => by injection e, fun e => by rw [e]⟩
    refine ⟨_, rfl, rfl, _, rfl, ?_⟩
    rw [dec]
    refine ifd (fun h0 => ?_) (fun h0 => ?_)
    · have eD : Vahypz.dropCall s_ q i = match index i s_.words.length with
          | none => (some s_, one (-2))
          | some j => (some (Vahypz.dropWord s_ j), Vahypz.changeAnswer s_ (Vahypz.dropWord s_ j)) := by
        unfold Vahypz.dropCall
        rw [if_neg (by intro z; exact z.1 h0), if_pos h0]
        cases index i s_.words.length with
        | none => rfl
        | some j =>
          dsimp only
          rw [if_pos h0]
      rw [eD] at k kE
      refine ⟨_, rfl, _, rfl, _, _, _, _, _, rfl, hx5, T.WordList.cl, T.WordList_n_words, WordList_l_words, wa, i, vR as, rfl, SqL.of hwa, fun e => ?_, fun j e hj ej => ?_⟩
      · rw [vR_length, lw] at e
        rw [e] at kE
        exact kE (-2) rfl
      · rw [vR_length, lw] at e
        rw [e] at k
        subst ej
        refine ⟨_, rfl, _, _, _, rfl, ha, Desk_m_change, _, rfl, _, rfl, x, s_, j, rfl, hx, by omega, fun y H1 s1 ny hy => ?_⟩
        refine ⟨a, y, s_, _, rfl, hd.same s1, hy, ok.dropW j, fun g H2 sb hd2 ng hg => k g H2 ((Sb.of s1).trans sb) hd2 (s1.free ng) hg⟩
    refine ⟨_, rfl, rfl, _, rfl, ?_⟩
    rw [dec]
    refine ifd (fun h1 => ?_) (fun h1 => ?_)
    · have eD : Vahypz.dropCall s_ q i = match index i s_.pats.length with
          | none => (some s_, one (-2))
          | some j => (some (Vahypz.dropPat s_ j), Vahypz.changeAnswer s_ (Vahypz.dropPat s_ j)) := by
        unfold Vahypz.dropCall
        rw [if_neg (by intro z; exact z.2 h1), if_neg h0]
        cases index i s_.pats.length with
        | none => rfl
        | some j =>
          dsimp only
          rw [if_neg h0]
      rw [eD] at k kE
      refine ⟨_, rfl, _, rfl, _, _, _, _, _, rfl, hx5, T.WordList.cl, T.WordList_n_patterns, WordList_l_patterns, pa, i, vR bs, rfl, SqL.of hpa, fun e => ?_, fun j e hj ej => ?_⟩
      · rw [vR_length, lp] at e
        rw [e] at kE
        exact kE (-2) rfl
      · rw [vR_length, lp] at e
        rw [e] at k
        subst ej
        refine ⟨_, rfl, _, _, _, rfl, ha, Desk_m_change, _, rfl, _, rfl, x, s_, j, rfl, hx, by omega, fun y H1 s1 ny hy => ?_⟩
        refine ⟨a, y, s_, _, rfl, hd.same s1, hy, ok.drop j, fun g H2 sb hd2 ng hg => k g H2 ((Sb.of s1).trans sb) hd2 (s1.free ng) hg⟩
    · refine fun d hd => kE (-4) ?_ _ _ d (.inr (.inr (.inr (.inl rfl)))) (same_upd hd) upd_same
      unfold Vahypz.dropCall
      rw [if_pos ⟨h0, h1⟩]
def sp_Desk_break_line (T : PEnv K mg) : Sp := fun vs H Q E => ∃ (a b : Addr) (o : Vahypz.Obj) (n : Int) (t : Bytes), vs = [.ref a, .int n, .ref b] ∧ DeskAt T H a o ∧ SqL K H b (vB t) ∧ t.length ≤ 10000 ∧ OkA T a H Q (Vahypz.step o (.break_ n t)) ∧ ErA T H E o (Vahypz.step o (.break_ n t))
theorem sc_Desk_break_line : FnScope ["self", "places_left", "told", "held", "letters", "gap"] ["self", "places_left", "told"] (defScope s_Desk_break_line) := ⟨rfl, rfl, rfl, by decide +kernel, rfl, by decide +kernel, by decide +kernel⟩
theorem ok_Desk_break_line (T : PEnv K mg) {P : Program} {w : World} {base : Heap} : FnOk P w K mg base (L2.CX P w) 6 T.Desk_break_line.f T.Desk_break_line.fd ["self", "places_left", "told"] (sp_Desk_break_line T) := by
  refine T.Desk_break_line.F.okX sc_Desk_break_line (fun vs H Q E h => ?_) (fun cdv A outer s H vs Q E hr h => ?_)
  · obtain ⟨a, b, o, n, t, rfl, _⟩ := h
    rfl
  · obtain ⟨a, b, o, n, t, rfl, hd, hb, hbl, k, kE⟩ := h
    refine ⟨_, (pss_cons (ps_set (i := 3) sc_Desk_break_line.nd rfl (Or.inl rfl) (pe_meth0 (pv 0) T.Desk.cl T.Desk_held_list.at_ (ok_Desk_held_list T) (hr.mono (by decide)) T.Desk_held_list.b .nil (passD (L2.takes_of rfl rfl rfl rfl))))
      (pss_cons (ps_set (i := 4) sc_Desk_break_line.nd rfl (Or.inl rfl) (pe_call (ok_letters_of T) (hr.mono (by decide)) rfl T.letters_of.g T.letters_of.F.kp T.letters_of.b .nil (passD (L2.takes_of rfl rfl rfl rfl)) (pa_cons (pv 2) pa_nil)))
      (pss_cons (ps_if (PW.pt (pw_or (pt_cmpR op_lt (pv 1) pe_int (nomark _)) (pw_or1 (pt_cmpR op_gt (pv 1) (pe_glob (v := .int 100) rfl T.c_MOST_PLACES.e ⟨_, rfl⟩) (nomark _)))))
        (pss_one (L2.ps_raise rfl (L2.takes_of rfl rfl rfl rfl) (pmk_plain (pmk0 T.NoSuchLine_T (NoSuchLineI T) (room2 hr) T.NoSuchLine.g (by rfl)))))
        pss_nil)
      (pss_cons (ps_set (i := 5) sc_Desk_break_line.nd rfl (Or.inl rfl) (pe_call (ok_break_of T) (hr.mono (by decide)) rfl T.break_of.g T.break_of.F.kp T.break_of.b .nil pass0 (pa_cons (pv 3) (pa_cons (pv 4) (pa_cons (pv 1) pa_nil)))))
      (pss_cons (ps_if (pt_cmpR op_isN (pv 5) pe_non (nomark _))
        (pss_one (ps_ret (pe_lst (pa_cons pe_int pa_nil))))
        pss_nil)
      (pss_one (ps_ret (pe_lst (pa_cons pe_int (pa_cons (pv 5) pa_nil)))))))))), ?_⟩
    obtain ⟨dx, v, ha, hv⟩ := id hd
    refine ⟨_, rfl, _, _, _, rfl, ha, Desk_m_held_list, a, o, rfl, hd, fun e => kE (-1) (by rw [e]; rfl), fun s_ x dy e ha2 hx ok => ?_⟩
    subst e
    have eS : Vahypz.step (some s_) (.break_ n t) = (some s_, match readLetters t with
        | none => one (-4)
        | some x => if n < 0 ∨ (100 : Int) < n then one (-3) else match Vahypz.breakAt s_ x n.toNat with
          | none => one 0
          | some g => ⟨1, nats [g]⟩) := rfl
    rw [eS] at k kE
    refine ⟨_, rfl, b, t, rfl, hb, hbl, fun e => ?_, fun z e hz H1 s1 => ?_⟩
    · rw [e] at kE
      exact kE (-4) rfl
    rw [e] at k kE
    dsimp only at k kE
    have bad : (n < 0 ∨ (100 : Int) < n) → ∀ d, H1 d = none → E (.ref T.NoSuchLine.C) (some d) (upd H1 d (.xd [("code", .int (-3))])) := fun c d hd => kE (-3) (by rw [if_pos c]) _ _ d (.inr (.inr (.inl rfl))) (s1.trans (same_upd hd)) upd_same
    refine ⟨_, rfl, _, _, rfl, rfl, _, rfl, ifd (fun h1 => iteT ?_) (fun h1 => ⟨_, rfl, _, _, rfl, rfl, _, rfl, ifd (fun h2 => ?_) (fun h2 => ?_)⟩)⟩
    · exact fun d hd => bad (.inl h1) d hd
    · exact fun d hd => bad (.inr h2) d hd
    rw [if_neg (by omega)] at k
    have en : n = (n.toNat : Nat) := by omega
    refine ⟨_, rfl, _, rfl, _, rfl, x, s_, z, n.toNat, by rw [← en]; rfl, hx.same s1, ok.ps, by omega, fun H2 s2 => ?_⟩
    have s12 := s1.trans s2
    cases eb : Vahypz.breakAt s_ z n.toNat with
    | none =>
      rw [eb] at k
      refine ⟨_, rfl, rfl, _, rfl, ifd (fun _ => ?_) (fun z => absurd rfl z)⟩
      refine ⟨Nat.le_of_ble_eq_true rfl, fun c hc => ?_⟩
      have s3 := same_upd (o := .lst [.int 0]) hc
      exact k c _ (Sb.of (s12.trans s3)) (hd.same (s12.trans s3)) (s12.free hc) upd_same
    | some g =>
      rw [eb] at k
      refine ⟨_, rfl, rfl, _, rfl, ifd (fun z => by cases z) (fun _ => ?_)⟩
      refine ⟨_, rfl, Nat.le_of_ble_eq_true rfl, fun c hc => ?_⟩
      have s3 := same_upd (o := .lst [.int 1, .int (g : Nat)]) hc
      exact k c _ (Sb.of (s12.trans s3)) (hd.same (s12.trans s3)) (s12.free hc) upd_same
end
end PwX

/-! ## PwD25 -/
namespace PwX
open PySem PySem.Spec PyProof.Rows L2
open VahypBase Vahypa Pw
section
variable {K : PySem.W.Frag} {mg : Str → Option Value}

def sp_Desk_report (T : PEnv K mg) : Sp := fun vs H Q E => ∃ (a : Addr) (o : Vahypz.Obj) (i : Int), vs = [.ref a, .int i] ∧ DeskAt T H a o ∧ OkA T a H Q (Vahypz.step o (.report i)) ∧ ErA T H E o (Vahypz.step o (.report i))
theorem sc_Desk_report : FnScope ["self", "number", "held", "word", "standing", "exact", "greatest", "fitting", "pattern_number", "pattern"] ["self", "number"] (defScope s_Desk_report) := ⟨rfl, rfl, rfl, by decide +kernel, rfl, by decide +kernel, by decide +kernel⟩
theorem ok_Desk_report (T : PEnv K mg) {P : Program} {w : World} {base : Heap} : FnOk P w K mg base (L2.CX P w) 6 T.Desk_report.f T.Desk_report.fd ["self", "number"] (sp_Desk_report T) := by
  refine T.Desk_report.F.okX sc_Desk_report (fun vs H Q E h => ?_) (fun cdv A outer s H vs Q E hr h => ?_)
  · obtain ⟨a, o, i, rfl, _⟩ := h
    rfl
  · obtain ⟨a, o, i, rfl, hd, k, kE⟩ := h
    refine ⟨_, (pss_cons (ps_set (i := 2) sc_Desk_report.nd rfl (Or.inl rfl) (pe_meth0 (pv 0) T.Desk.cl T.Desk_held_list.at_ (ok_Desk_held_list T) (hr.mono (by decide)) T.Desk_held_list.b .nil (passD (L2.takes_of rfl rfl rfl rfl))))
      (pss_cons (ps_expr (pe_call (ok_check_number T) (hr.mono (by decide)) rfl T.check_number.g T.check_number.F.kp T.check_number.b .nil (passD (L2.takes_of rfl rfl rfl rfl)) (pa_cons (pv 1) (pa_cons (pe_fld (pv 2) rfl) pa_nil))))
      (pss_cons (ps_set (i := 3) sc_Desk_report.nd rfl (Or.inl rfl) (pe_ix ix_list (pe_fld (pv 2) rfl) (pv 1) (fun _ _ => rfl)))
      (pss_cons (ps_set (i := 4) sc_Desk_report.nd rfl (Or.inl rfl) (pe_call (ok_standing_of T) (hr.mono (by decide)) rfl T.standing_of.g T.standing_of.F.kp T.standing_of.b .nil pass0 (pa_cons (pv 2) (pa_cons (pv 3) pa_nil))))
      (pss_cons (ps_set (i := 5) sc_Desk_report.nd rfl (Or.inl rfl) (pe_ifExp (pt_val (pe_meth0 (pv 4) T.Standing.cl T.Standing_is_exact.at_ (ok_Standing_is_exact T) (hr.mono (by decide)) T.Standing_is_exact.b .nil pass0)) pe_int pe_int))
      (pss_cons (ps_set (i := 6) sc_Desk_report.nd rfl (Or.inl rfl) (pe_callB (cr_max rfl) (by rfl) T.b_max (by decide +kernel) (pa_cons (pe_slice sl_list (pe_call (ok_levels_of T) (hr.mono (by decide)) rfl T.levels_of.g T.levels_of.F.kp T.levels_of.b .nil pass0 (pa_cons (pe_fld (pv 2) rfl) (pa_cons (pe_fld (pv 3) rfl) pa_nil))) (po_some pe_int) (po_some (pe_un un_neg pe_int))) pa_nil)))
      (pss_cons (ps_set (i := 7) sc_Desk_report.nd rfl (Or.inl rfl) (pe_lst pa_nil))
      (pss_cons (ps_for (L2.passes_of rfl) rfl (pi_enum (by rfl) T.b_enumerate (pa_cons (pe_fld (pv 2) rfl) pa_nil)) (pg_tup rfl (pgs_cons (pg_name (i := 8) sc_Desk_report.nd rfl (Or.inl rfl)) (pgs_cons (pg_name (i := 9) sc_Desk_report.nd rfl (Or.inl rfl)) pgs_nil)))
        (pss_one (ps_if (pt_cmpR op_gt (pe_callB call_len (by rfl) T.b_len (by decide +kernel) (pa_cons (pe_call (ok_fitting_places T) (hr.mono (by decide)) rfl T.fitting_places.g T.fitting_places.F.kp T.fitting_places.b .nil pass0 (pa_cons (pv 9) (pa_cons (pe_fld (pv 3) rfl) pa_nil))) pa_nil)) pe_int (nomark _))
        (pss_one (ps_expr (pe_bm PySem.F.plainAttrs_list PySem.F.slot_list_append PySem.F.type_list_append mt_append (pv 7) (pa_cons (pv 8) pa_nil))))
        pss_nil)))
      (pss_one (ps_ret (pe_op op_cat (pe_lst (pa_cons (pv 5) (pa_cons (pe_fld (pv 4) rfl) (pa_cons (pe_fld (pv 4) rfl) (pa_cons (pe_fld (pv 4) rfl) (pa_cons (pv 6) (pa_cons (pe_callB call_len (by rfl) T.b_len (by decide +kernel) (pa_cons (pv 7) pa_nil)) pa_nil))))))) (pv 7)))))))))))), ?_⟩
    obtain ⟨dx, v, ha, hv⟩ := id hd
    refine ⟨_, rfl, _, _, _, rfl, ha, Desk_m_held_list, a, o, rfl, hd, fun e => kE (-1) (by rw [e]; rfl), fun s_ x dy e ha2 hx ok => ?_⟩
    subst e
    have eS : Vahypz.step (some s_) (.report i) = (some s_, match (index i s_.words.length).bind fun k => s_.words[k]? with
        | none => one (-2)
        | some w => ⟨(if exact s_ w = true then 1 else 0), nats ([(scoreWord s_ w).hits, (scoreWord s_ w).faults, (scoreWord s_ w).misses, (levels s_.pats w.x).foldl Nat.max 0, (Vahypz.fitting s_ w.x).length] ++ Vahypz.fitting s_ w.x)⟩) := rfl
    rw [eS] at k kE
    have w24 := ok.wmost
    have p40 := ok.pmost
    obtain ⟨dl, wa, pa, hx5, ⟨as, hwa, hal⟩, ⟨bs, hpa, hbl⟩⟩ := id hx
    have lw := hal.len
    refine ⟨_, rfl, _, rfl, _, _, _, _, _, rfl, hx5, T.WordList.cl, T.WordList_n_words, WordList_l_words, wa, i, vR as, rfl, SqL.of hwa, fun e => ?_, fun j e hj ej => ?_⟩
    · rw [vR_length, lw] at e
      rw [e] at kE
      exact kE (-2) rfl
    rw [vR_length, lw] at e hj
    subst ej
    obtain ⟨wb, hwb, hwd⟩ := hal.get hj
    have hg : s_.words[j]? = some s_.words[j] := List.getElem?_eq_getElem hj
    rw [e] at k
    simp only [Option.bind_some, hg] at k
    generalize s_.words[j] = v2 at *
    have vok := ok.ws v2 (mem_at hg)
    have v16 := vok.most
    have v2l := vok.two
    have hat : atI (vR as) ((j : Nat) : Int) = some (.ref wb) := by
      unfold atI
      rw [ixN_nat rfl (by rw [vR_length, lw]; exact hj)]
      show (vR as)[j]? = _
      unfold vR
      rw [List.getElem?_map, hwb]
      rfl
    refine ⟨_, rfl, _, _, _, _, _, rfl, hx5, T.WordList.cl, T.WordList_n_words, WordList_l_words, _, rfl, wa, _, _, _, rfl, rfl, SqL.of hwa, hat, ?_⟩
    refine ⟨_, rfl, _, rfl, x, wb, s_, v2, rfl, hx, hwd, ok.ps, vok, fun st H1 s1 nst hst => ?_⟩
    obtain ⟨ds, hst1⟩ := id hst
    have hexact : ((scoreWord s_ v2).faults == 0 && (scoreWord s_ v2).misses == 0) = exact s_ v2 := rfl
    refine nm_if (c := exact s_ v2) (v := .int (if exact s_ v2 = true then 1 else 0)) (fun Q' q => ⟨_, rfl, _, _, _, rfl, hst1, Standing_m_is_exact, st, scoreWord s_ v2, rfl, hst, _, rfl, q⟩) (fun e Q' q => by rw [if_pos e] at q; exact q) (fun e Q' q => by rw [if_neg (by rw [e]; exact Bool.false_ne_true)] at q; exact q) ?_
    obtain ⟨dw, gw, hwb1, hwb2⟩ := id hwd
    refine ⟨_, rfl, _, _, _, _, _, rfl, s1 _ _ hx5, T.WordList.cl, T.WordList_n_patterns, WordList_l_patterns, _, rfl, _, _, _, _, _, rfl, s1 _ _ hwb1, T.Word.cl, T.Word_n_letters, Word_l_letters, pa, s_.pats, v2.x, rfl, ⟨bs, s1 _ _ hpa, hbl.imp fun _ _ z => z.same s1⟩, ok.ps, by omega, fun L H2 s2 nL hL => ?_⟩
    refine ⟨_, rfl, _, rfl, _, rfl, L, _, rfl, SqL.of hL, fun p hp => ?_⟩
    have ecut : cutV (vN (lvl s_.pats v2.x)) (some 1) (some (-1)) = vN (levels s_.pats v2.x) := by
      unfold cutV
      have e1 : HT.sIx (vN (lvl s_.pats v2.x)).length 0 (some 1) = 1 := by
        rw [show (1 : Int) = ((1 : Nat) : Int) from rfl, HT.sIx_nat, vN_length]
        unfold lvl
        rw [tab_length]
        omega
      have e2 : HT.sIx (vN (lvl s_.pats v2.x)).length (vN (lvl s_.pats v2.x)).length (some (-1)) = v2.x.length := by
        rw [vN_length]
        unfold lvl
        rw [tab_length]
        unfold HT.sIx
        dsimp only
        rw [if_pos (by decide)]
        omega
      rw [e1, e2, ← lvl_mid]
      unfold vN
      rw [List.map_take, List.map_drop]
    have s3 := same_upd (o := .lst (cutV (vN (lvl s_.pats v2.x)) (some 1) (some (-1)))) hp
    refine ⟨p, (levels s_.pats v2.x).map fun (n : Nat) => (n : Int), rfl, ?_, ?_, fun m hm hle => ?_⟩
    · rw [← vN_map, ← ecut]
      exact SqL.of upd_same
    · rw [List.length_map, levels_len]
      omega
    have hmx := max_is hm hle
    subst hmx
    have s13 := (s1.trans s2).trans s3
    change gName 6 _ _ (upd H2 p (.lst (cutV (vN (lvl s_.pats v2.x)) (some 1) (some (-1))))) _
    have hst3 := s2.trans s3 _ _ hst1
    generalize upd H2 p (.lst (cutV (vN (lvl s_.pats v2.x)) (some 1) (some (-1)))) = H3 at *
    refine ⟨Nat.zero_le _, fun F hF => ?_⟩
    have nF := s13.free hF
    have s4 := same_upd (o := .lst []) hF
    have s14 := s13.trans s4
    refine ⟨_, rfl, _, _, _, _, _, rfl, s14 _ _ hx5, T.WordList.cl, T.WordList_n_patterns, WordList_l_patterns, pa, vR bs, rfl, SqL.of (s14 _ _ hpa), for_it walk_enum (fun i σ H' => ∃ u w, σ = [some (.ref a), some (.int (j : Nat)), some (.ref x), some (.ref wb), some (.ref st), some (.int (if exact s_ v2 = true then 1 else 0)), some (.int ((levels s_.pats v2.x).foldl Nat.max 0 : Nat)), some (.ref F), u, w] ∧ Same H3 H' ∧ H' F = some (.lst (vN (fittingTo s_ v2.x i)))) ⟨none, none, rfl, s4, upd_same⟩ (fun i σ H' _ ⟨_, _, _, s, _⟩ => SqL.of (s _ _ (s13 _ _ hpa))) ?_ ?_⟩
    · rintro q y σ H4 H5 hq ⟨u, w, rfl, sm, hF4⟩ ⟨t, n, y2, rfl, ht, rfl, hn, hy⟩
      cases hn
      obtain ⟨c, p2, rfl, hc, hp2, hpt⟩ := hbl.at hy
      have sm5 := same_updO (o := .tup [.int (q : Nat), .ref c]) sm (sm.free ht)
      have hF5 := (same_upd (o := .tup [.int (q : Nat), .ref c]) ht) _ _ hF4
      have s15 := s13.trans sm5
      have p6 := (ok.ps p2 (mem_at hp2)).most
      have hq40 : q < s_.pats.length := (List.getElem?_eq_some_iff.mp hp2).1
      have fl := fitting_len s_ v2.x q
      refine ⟨t, _, rfl, sqT_upd, rfl, _, _, rfl, _, _, rfl, rfl, ?_⟩
      refine ⟨_, rfl, _, rfl, _, _, _, _, _, rfl, s15 _ _ hwb1, T.Word.cl, T.Word_n_letters, Word_l_letters, c, p2, v2.x, rfl, hpt.same s15, by omega, by omega, fun G H6 s6 nG hG => ?_⟩
      refine ⟨_, _, rfl, .inl ⟨_, SqL.of hG, rfl⟩, _, _, rfl, rfl, _, rfl, ?_⟩
      rw [vN_length, show decide ((0 : Int) < ((fitsL p2 v2.x).length : Int)) = decide (0 < (fitsL p2 v2.x).length) by simp, fit_pos, fitting_step hp2]
      have hF6 := s6 _ _ hF5
      refine ifb (fun h1 => ?_) (fun h1 => ?_)
      · rw [if_pos h1]
        refine ⟨_, rfl, .inl ⟨rfl, _, SqL.of hF6⟩, _, rfl, _, _, _, rfl, rfl, hF6, ?_, _, _, rfl, same_updO (sm5.trans s6) hF, ?_⟩
        · rw [vN_length]
          exact small_lt (by omega)
        · rw [upd_same, vN_snoc]
      · rw [if_neg (show ¬ fitOk p2 v2.x = true by rw [h1]; exact Bool.false_ne_true), List.append_nil]
        exact ⟨_, _, rfl, sm5.trans s6, hF6⟩
    rintro σ H4 ⟨u, w, rfl, sm, hF4⟩
    rw [vR_length, hbl.len, fitting_end] at hF4
    have s5 := s13.trans sm
    have hst4 := sm _ _ hst3
    have fl : (Vahypz.fitting s_ v2.x).length ≤ s_.pats.length := fitting_len s_ v2.x _
    refine ⟨_, rfl, _, rfl, _, _, _, _, _, rfl, hst4, T.Standing.cl, T.Standing_n_hits, Standing_l_hits, _, rfl, _, _, _, _, _, rfl, hst4, T.Standing.cl, T.Standing_n_faults, Standing_l_faults, _, rfl, _, _, _, _, _, rfl, hst4, T.Standing.cl, T.Standing_n_misses, Standing_l_misses, _, rfl, _, rfl, _, _, rfl, .inl ⟨_, SqL.of hF4, rfl⟩, Nat.le_of_ble_eq_true rfl, fun c hc => ?_⟩
    rw [vN_length]
    have s6 := same_upd (o := .lst [.int (if exact s_ v2 = true then 1 else 0), .int ((scoreWord s_ v2).hits : Nat), .int ((scoreWord s_ v2).faults : Nat), .int ((scoreWord s_ v2).misses : Nat), .int ((levels s_.pats v2.x).foldl Nat.max 0 : Nat), .int ((Vahypz.fitting s_ v2.x).length : Nat)]) hc
    refine ⟨_, rfl, c, F, _, _, rfl, rfl, upd_same, s6 _ _ hF4, ?_, fun d hd2 => ?_⟩
    · rw [vN_length]
      exact small_line (by show 6 + _ ≤ _; omega)
    have s56 := s5.trans s6
    refine k d _ (Sb.of (same_updO s56 (s56.free hd2))) (hd.same (same_updO s56 (s56.free hd2))) (s56.free hd2) ?_
    rw [upd_same]
    show _ = some (HO.lst (vI (_ :: nats ([_, _, _, _, _] ++ Vahypz.fitting s_ v2.x))))
    rw [← vI_vN]
    unfold vI nats
    simp
def midJ (s : Lst) (x : Bytes) : List Nat := match Vahypz.joints s x with
  | g :: _ => g :: (Vahypz.asTwo s x g).length :: Vahypz.asTwo s x g
  | [] => []
theorem asTwo_len (s : Lst) (x : Bytes) (g : Nat) : (Vahypz.asTwo s x g).length ≤ 2 * x.length + 1 := by
  have h1 := parts_le s (x.take g)
  have h2 := parts_le s (x.drop g)
  rw [List.length_take] at h1
  rw [List.length_drop] at h2
  unfold Vahypz.asTwo
  rw [List.length_append, List.length_append, List.length_map]
  show _ + (1 + _) ≤ _
  omega
theorem joints_len (s : Lst) (x : Bytes) : (Vahypz.joints s x).length ≤ x.length := Nat.le_trans (List.length_filter_le _ _) (by rw [gaps_length]; omega)
theorem midJ_len (s : Lst) (x : Bytes) : (midJ s x).length ≤ 2 * x.length + 3 := by
  unfold midJ
  split
  · rename_i g r e
    have := asTwo_len s x g
    show _ + 1 + 1 ≤ _
    omega
  · exact Nat.zero_le _

def sp_Desk_joint (T : PEnv K mg) : Sp := fun vs H Q E => ∃ (a b : Addr) (o : Vahypz.Obj) (t : Bytes), vs = [.ref a, .ref b] ∧ DeskAt T H a o ∧ SqL K H b (vB t) ∧ t.length ≤ 10000 ∧ OkA T a H Q (Vahypz.step o (.joint t)) ∧ ErA T H E o (Vahypz.step o (.joint t))
theorem sc_Desk_joint : FnScope ["self", "told", "held", "letters", "joints", "answer", "as_two", "as_one"] ["self", "told"] (defScope s_Desk_joint) := ⟨rfl, rfl, rfl, by decide +kernel, rfl, by decide +kernel, by decide +kernel⟩
theorem ok_Desk_joint (T : PEnv K mg) {P : Program} {w : World} {base : Heap} : FnOk P w K mg base (L2.CX P w) 6 T.Desk_joint.f T.Desk_joint.fd ["self", "told"] (sp_Desk_joint T) := by
  refine T.Desk_joint.F.okX sc_Desk_joint (fun vs H Q E h => ?_) (fun cdv A outer s H vs Q E hr h => ?_)
  · obtain ⟨a, b, o, t, rfl, _⟩ := h
    rfl
  · obtain ⟨a, b, o, t, rfl, hd, hb, hbl, k, kE⟩ := h
    refine ⟨_, (pss_cons (ps_set (i := 2) sc_Desk_joint.nd rfl (Or.inl rfl) (pe_meth0 (pv 0) T.Desk.cl T.Desk_held_list.at_ (ok_Desk_held_list T) (hr.mono (by decide)) T.Desk_held_list.b .nil (passD (L2.takes_of rfl rfl rfl rfl))))
      (pss_cons (ps_set (i := 3) sc_Desk_joint.nd rfl (Or.inl rfl) (pe_call (ok_letters_of T) (hr.mono (by decide)) rfl T.letters_of.g T.letters_of.F.kp T.letters_of.b .nil (passD (L2.takes_of rfl rfl rfl rfl)) (pa_cons (pv 1) pa_nil)))
      (pss_cons (ps_set (i := 4) sc_Desk_joint.nd rfl (Or.inl rfl) (pe_call (ok_joints_of T) (hr.mono (by decide)) rfl T.joints_of.g T.joints_of.F.kp T.joints_of.b .nil pass0 (pa_cons (pv 2) (pa_cons (pv 3) pa_nil))))
      (pss_cons (ps_set (i := 5) sc_Desk_joint.nd rfl (Or.inl rfl) (pe_lst (pa_cons (pe_callB call_len (by rfl) T.b_len (by decide +kernel) (pa_cons (pv 4) pa_nil)) pa_nil)))
      (pss_cons (ps_if (pt_cmpR op_gt (pe_callB call_len (by rfl) T.b_len (by decide +kernel) (pa_cons (pv 4) pa_nil)) pe_int (nomark _))
        (pss_cons (ps_set (i := 6) sc_Desk_joint.nd rfl (Or.inl rfl) (pe_call (ok_parted_as_two T) (hr.mono (by decide)) rfl T.parted_as_two.g T.parted_as_two.F.kp T.parted_as_two.b .nil pass0 (pa_cons (pv 2) (pa_cons (pv 3) (pa_cons (pe_ix ix_list (pv 4) pe_int (fun _ _ => rfl)) pa_nil)))))
      (pss_one (ps_expr (pe_bm PySem.F.plainAttrs_list PySem.F.slot_list_extend PySem.F.type_list_extend mt_extend (pv 5) (pa_cons (pe_op op_cat (pe_lst (pa_cons (pe_ix ix_list (pv 4) pe_int (fun _ _ => rfl)) (pa_cons (pe_callB call_len (by rfl) T.b_len (by decide +kernel) (pa_cons (pv 6) pa_nil)) pa_nil))) (pv 6)) pa_nil)))))
        pss_nil)
      (pss_cons (ps_set (i := 7) sc_Desk_joint.nd rfl (Or.inl rfl) (pe_call (ok_parted_gaps T) (hr.mono (by decide)) rfl T.parted_gaps.g T.parted_gaps.F.kp T.parted_gaps.b .nil pass0 (pa_cons (pv 2) (pa_cons (pv 3) pa_nil))))
      (pss_one (ps_ret (pe_op op_cat (pe_op op_cat (pv 5) (pe_lst (pa_cons (pe_callB call_len (by rfl) T.b_len (by decide +kernel) (pa_cons (pv 7) pa_nil)) pa_nil))) (pv 7)))))))))), ?_⟩
    obtain ⟨dx, v, ha, hv⟩ := id hd
    refine ⟨_, rfl, _, _, _, rfl, ha, Desk_m_held_list, a, o, rfl, hd, fun e => kE (-1) (by rw [e]; rfl), fun s_ x dy e ha2 hx ok => ?_⟩
    subst e
    have eS : Vahypz.step (some s_) (.joint t) = (some s_, match readLetters t with
        | none => one (-4)
        | some x => ⟨((Vahypz.joints s_ x).length : Int), (match Vahypz.joints s_ x with
          | g :: _ => nats (g :: (Vahypz.asTwo s_ x g).length :: Vahypz.asTwo s_ x g)
          | [] => []) ++ nats ((parts s_ x).length :: parts s_ x)⟩) := rfl
    rw [eS] at k kE
    refine ⟨_, rfl, b, t, rfl, hb, hbl, fun e => ?_, fun z e hz H1 s1 => ?_⟩
    · rw [e] at kE
      exact kE (-4) rfl
    rw [e] at k
    dsimp only at k
    have hx1 := hx.same s1
    refine ⟨_, rfl, _, rfl, x, s_, z, rfl, hx1, by omega, fun J H2 s2 nJ hJ => ?_⟩
    refine ⟨_, rfl, _, _, rfl, .inl ⟨_, SqL.of hJ, rfl⟩, Nat.le_of_ble_eq_true rfl, fun A hA => ?_⟩
    rw [vN_length]
    have hx2 := hx1.same s2
    have s12 := s1.trans s2
    have s3 := same_upd (o := .lst [.int ((Vahypz.joints s_ z).length : Nat)]) hA
    have hA3 : upd H2 A (.lst [.int ((Vahypz.joints s_ z).length : Nat)]) A = some (.lst [.int ((Vahypz.joints s_ z).length : Nat)]) := upd_same
    generalize upd H2 A (.lst [.int ((Vahypz.joints s_ z).length : Nat)]) = H3 at *
    have jl := joints_len s_ z
    refine nm_seq ?_
    refine seq_if (b := decide (0 < (Vahypz.joints s_ z).length)) (fun σ' H' => ∃ w, σ' = [some (.ref a), some (.ref b), some (.ref x), some (.str (sB z)), some (.ref J), some (.ref A), w, none] ∧ Same H2 H' ∧ H' A = some (.lst (vN ((Vahypz.joints s_ z).length :: midJ s_ z)))) (fun Q' q => ⟨_, rfl, _, _, rfl, .inl ⟨_, SqL.of (s3 _ _ hJ), rfl⟩, _, _, rfl, rfl, _, rfl, by rw [vN_length, show decide ((0 : Int) < ((Vahypz.joints s_ z).length : Int)) = decide (0 < (Vahypz.joints s_ z).length) by simp]; exact q⟩) (fun e D' kD => ?_) (fun e => ?_) ?_
    · unfold midJ at kD
      cases ej : Vahypz.joints s_ z with
      | nil => rw [ej] at e; cases e
      | cons g r =>
        rw [ej] at kD hJ hA3 jl
        dsimp only at kD
        have hg0 : atI (vN (g :: r)) 0 = some (.int (g : Nat)) := atI_vN (i := 0) rfl rfl
        have al := asTwo_len s_ z g
        refine ⟨_, rfl, _, rfl, _, rfl, J, _, _, _, rfl, rfl, SqL.of (s3 _ _ hJ), hg0, x, s_, z, g, rfl, hx2.same s3, ok.ps, by omega, fun W H4 s4 nW hW => ?_⟩
        have hJ4 := s4 _ _ (s3 _ _ hJ)
        have hA4 := s4 _ _ hA3
        refine ⟨_, rfl, .inl ⟨rfl, _, SqL.of hA4⟩, _, rfl, J, _, _, _, rfl, rfl, SqL.of hJ4, hg0, _, rfl, _, _, rfl, .inl ⟨_, SqL.of hW, rfl⟩, Nat.le_of_ble_eq_true rfl, fun c hc => ?_⟩
        rw [vN_length]
        have s5 := same_upd (o := .lst [.int (g : Nat), .int ((Vahypz.asTwo s_ z g).length : Nat)]) hc
        have nA : A ≠ c := ne_of_none hA4 hc
        refine ⟨_, rfl, c, W, _, _, rfl, rfl, upd_same, s5 _ _ hW, ?_, fun d hd2 => ?_⟩
        · rw [vN_length]
          exact small_line (by show 2 + _ ≤ _; omega)
        have s6 := same_upd (o := .lst ([.int (g : Nat), .int ((Vahypz.asTwo s_ z g).length : Nat)] ++ vN (Vahypz.asTwo s_ z g))) hd2
        have hA6 := s6 _ _ (s5 _ _ hA4)
        have s36 := ((s3.trans s4).trans s5).trans s6
        refine ⟨A, d, _, _, rfl, rfl, hA6, upd_same, ?_, ?_⟩
        · rw [List.length_append, vN_length]
          exact small_line (by show 1 + (2 + _) ≤ _; omega)
        · refine kD _ _ ⟨_, rfl, same_updO s36 hA, ?_⟩
          rw [upd_same]
          rfl
    · have e0 : Vahypz.joints s_ z = [] := by
        have := of_decide_eq_false e
        exact List.eq_nil_of_length_eq_zero (by omega)
      refine ⟨none, rfl, s3, ?_⟩
      unfold midJ
      rw [hA3, e0]
      rfl
    rintro σ H4 ⟨w, rfl, sm, hA4⟩
    have ml := midJ_len s_ z
    have pl := parts_le s_ z
    refine ⟨_, rfl, _, rfl, x, s_, z, rfl, hx2.same sm, ok.ps, by omega, fun P H5 s5 nP hP => ?_⟩
    have hA5 := s5 _ _ hA4
    refine ⟨_, rfl, _, rfl, _, _, rfl, .inl ⟨_, SqL.of hP, rfl⟩, Nat.le_of_ble_eq_true rfl, fun c hc => ?_⟩
    rw [vN_length]
    have s6 := same_upd (o := .lst [.int ((parts s_ z).length : Nat)]) hc
    refine ⟨A, c, _, _, rfl, rfl, s6 _ _ hA5, upd_same, ?_, fun d hd2 => ?_⟩
    · rw [vN_length]
      exact small_line (by show _ + 1 + 1 ≤ _; omega)
    have s7 := same_upd (o := .lst (vN ((Vahypz.joints s_ z).length :: midJ s_ z) ++ [.int ((parts s_ z).length : Nat)])) hd2
    refine ⟨_, rfl, d, P, _, _, rfl, rfl, upd_same, s7 _ _ (s6 _ _ hP), ?_, fun e he => ?_⟩
    · rw [List.length_append, vN_length, vN_length]
      exact small_line (by show _ + 1 + 1 + _ ≤ _; omega)
    have s8 : Same H _ := (((s12.trans sm).trans s5).trans s6).trans s7
    refine k e _ (Sb.of (same_updO s8 (s8.free he))) (hd.same (same_updO s8 (s8.free he))) (s8.free he) ?_
    rw [upd_same]
    show _ = some (HO.lst (vI (_ :: (_ ++ nats ((parts s_ z).length :: parts s_ z)))))
    congr 2
    generalize (Vahypz.joints s_ z).length = n
    unfold midJ
    cases Vahypz.joints s_ z with
    | nil => simp [vN, vI, nats]
    | cons g r => simp [vN, vI, nats]; rfl
end
end PwX

/-! ## PwD26 -/
namespace PwX
open PySem PySem.Spec PyProof.Rows L2
open VahypBase Vahypa Pw
section
variable {K : PySem.W.Frag} {mg : Str → Option Value}
theorem lk_code {v u : V} : (faultF v u).lookup ("code" : Str) = some v := (lk_past (by decide +kernel)).trans lk_here
theorem lk_place {v u : V} : (faultF v u).lookup ("place" : Str) = some u := lk_here

def sp_Desk_load (T : PEnv K mg) : Sp := fun vs H Q _ => ∃ (a b : Addr) (o : Vahypz.Obj) (t : Bytes), vs = [.ref a, .ref b] ∧ DeskAt T H a o ∧ SqL K H b (vB t) ∧ t.length ≤ 10000 ∧ OkA T a H Q (Vahypz.step o (.load t))
theorem sc_Desk_load : FnScope ["self", "text", "loaded", "fault"] ["self", "text"] (defScope s_Desk_load) := ⟨rfl, rfl, rfl, by decide +kernel, rfl, by decide +kernel, by decide +kernel⟩
theorem ok_Desk_load (T : PEnv K mg) {P : Program} {w : World} {base : Heap} : FnOk P w K mg base CX0 8 T.Desk_load.f T.Desk_load.fd ["self", "text"] (sp_Desk_load T) := by
  refine T.Desk_load.F.ok sc_Desk_load (fun vs H Q E h => ?_) (fun cdv A outer s H vs Q E hr h => ?_)
  · obtain ⟨a, b, o, t, rfl, _⟩ := h
    rfl
  · obtain ⟨a, b, o, t, rfl, hd, hb, hbl, k⟩ := h
    refine ⟨_, (pss_cons (ps_try_as (i := 3) (tb := fun W => tAsg (tCallS (sp_list_of T) (WE W) (tCons (tVar 1) tNil)) (gName 2)) (ts := fun a cls d => tRet (tLst (tCons (tC (.int 0)) (tCons (tXF K "code" a cls d (tVar 3)) (tCons (tXF K "place" a cls d (tVar 3)) tNil))))) (Wout := fun _ _ _ _ => False) (c := .ref T.Fault.C) rfl rfl sc_Desk_load.nd rfl rfl ⟨rfl, by decide, Or.inl T.Fault.g⟩ takes0
        (fun W pn xe tk _ => (pss_one (ps_set (i := 2) sc_Desk_load.nd rfl (Or.inl rfl) (by exact (pe_callS (ok_list_of T) (hr.mono (by decide)) rfl T.list_of.g T.list_of.F.kp T.list_of.b (fun σ => passN tk σ) (by exact (pa_cons (pv 1) pa_nil)))))))
        (fun a oe cls d pn hz hf => (pss_one (ps_ret (by exact (pe_lst (pa_cons pe_int (pa_cons (pe_xf hz hf (pv 3)) (pa_cons (pe_xf hz hf (pv 3)) pa_nil)))))))))
      (pss_cons (ps_fld (pv 0) (pv 2) rfl)
      (pss_one (ps_ret (pe_lst (pa_cons pe_int (pa_cons (pe_callB call_len (by rfl) T.b_len (by decide +kernel) (pa_cons (pe_fld (pv 2) rfl) pa_nil)) (pa_cons (pe_callB call_len (by rfl) T.b_len (by decide +kernel) (pa_cons (pe_fld (pv 2) rfl) pa_nil)) pa_nil)))))))), ?_⟩
    obtain ⟨dx, v, ha, hv⟩ := id hd
    have eS : Vahypz.step o (.load t) = match Vahypa.read t with
        | .ok s => (some s, ⟨1, nats [s.words.length, s.pats.length]⟩)
        | .error f => (o, faulty f) := rfl
    rw [eS] at k
    refine ⟨_, rfl, b, t, rfl, hb, hbl, fun f e H1 d s1 hd1 => ?_, fun s_ e x H1 s1 nx hx => ?_⟩
    · rw [e] at k
      refine ⟨true, T.x_Fault, fun _ ea hea => ?_, fun z => by cases z⟩
      refine ⟨_, rfl, rfl, T.Fault.C, _, d, _, _, rfl, T.Fault_T, T.Fault_T.nc, rfl, hd1, lk_code, _, rfl, rfl, T.Fault.C, _, d, _, _, rfl, T.Fault_T, T.Fault_T.np, rfl, hd1, lk_place, Nat.le_of_ble_eq_true rfl, fun c hc => ?_⟩
      have s2 := same_upd (o := .lst [.int 0, .int (f.code : Nat), .int (f.place : Nat)]) hc
      exact k c _ (Sb.of (s1.trans s2)) (hd.same (s1.trans s2)) (s1.free hc) upd_same
    · rw [e] at k
      have ok := read_ok e
      have ha3 := s1 _ _ ha
      refine ⟨_, rfl, _, rfl, a, _, _, _, rfl, ha3, T.Desk.cl, T.Desk_n_held, Nat.le_of_ble_eq_true rfl, ?_⟩
      have ep : putF "held" (.ref x) (DeskF v) = DeskF (.ref x) := rfl
      rw [ep]
      have sb : Sb a H1 (upd H1 a (.ins T.Desk.C dx (DeskF (.ref x)))) := sb_upd
      have ha4 : upd H1 a (.ins T.Desk.C dx (DeskF (.ref x))) a = some (.ins T.Desk.C dx (DeskF (.ref x))) := upd_same
      have hx4 : LstAt T (upd H1 a (.ins T.Desk.C dx (DeskF (.ref x)))) x s_ := hx.sbo ha3 desk_other sb
      have sb0 : Sb a H (upd H1 a (.ins T.Desk.C dx (DeskF (.ref x)))) := (Sb.of s1).trans sb
      generalize upd H1 a (.ins T.Desk.C dx (DeskF (.ref x))) = H4 at *
      obtain ⟨dl, wa, pa, as, bs, hx5, hwa, hpa, lw, lp⟩ := lenL hx4
      refine ⟨_, rfl, _, _, _, _, _, rfl, hx5, T.WordList.cl, T.WordList_n_words, WordList_l_words, _, _, rfl, .inl ⟨_, SqL.of hwa, rfl⟩, _, rfl, _, _, _, _, _, rfl, hx5, T.WordList.cl, T.WordList_n_patterns, WordList_l_patterns, _, _, rfl, .inl ⟨_, SqL.of hpa, rfl⟩, Nat.le_of_ble_eq_true rfl, fun c hc => ?_⟩
      rw [vR_length, vR_length, lw, lp]
      have s5 := same_upd (o := .lst [.int 1, .int (s_.words.length : Nat), .int (s_.pats.length : Nat)]) hc
      have nd : H c = none := by
        cases e : H c with
        | none => rfl
        | some o =>
          have hne : c ≠ a := by
            rintro rfl
            rw [hc] at ha4
            cases ha4
          rw [sb0 c o e hne] at hc
          cases hc
      exact k c _ (sb0.trans (Sb.of s5)) ⟨dx, _, s5 _ _ ha4, x, rfl, hx4.same s5, ok⟩ nd upd_same
end
end PwX

/-! ## PwD27 -/
namespace PwX
open PySem PySem.Spec PyProof.Rows L2
open VahypBase Vahypa Pw
section
variable {K : PySem.W.Frag} {mg : Str → Option Value}

def sp_Desk_put (T : PEnv K mg) : Sp := fun vs H Q E => ∃ (a b : Addr) (o : Vahypz.Obj) (t : Bytes), vs = [.ref a, .ref b] ∧ DeskAt T H a o ∧ SqL K H b (vB t) ∧ t.length ≤ 10000 ∧ OkA T a H Q (Vahypz.step o (.put t)) ∧ ErA T H E o (Vahypz.step o (.put t))
theorem sc_Desk_put : FnScope ["self", "text", "held", "item", "changed"] ["self", "text"] (defScope s_Desk_put) := ⟨rfl, rfl, rfl, by decide +kernel, rfl, by decide +kernel, by decide +kernel⟩
theorem ok_Desk_put (T : PEnv K mg) {P : Program} {w : World} {base : Heap} : FnOk P w K mg base (L2.CX P w) 8 T.Desk_put.f T.Desk_put.fd ["self", "text"] (sp_Desk_put T) := by
  refine T.Desk_put.F.okX sc_Desk_put (fun vs H Q E h => ?_) (fun cdv A outer s H vs Q E hr h => ?_)
  · obtain ⟨a, b, o, t, rfl, _⟩ := h
    rfl
  · obtain ⟨a, b, o, t, rfl, hd, hb, hbl, k, kE⟩ := h
    refine ⟨_, (pss_cons (ps_set (i := 2) sc_Desk_put.nd rfl (Or.inl rfl) (pe_meth0 (pv 0) T.Desk.cl T.Desk_held_list.at_ (ok_Desk_held_list T) (hr.mono (by decide)) T.Desk_held_list.b .nil (passD (L2.takes_of rfl rfl rfl rfl))))
      (pss_cons (L2H.ps_try_onlyX (tb := fun W => tAsg (tCallS (sp_item_of T) (WE W) (tCons (tVar 1) tNil)) (gName 3)) (ts := fun _ _ _ => fun _ σ H => tMk0 T.NotAsTold.C 4 σ H fun cls d H' => E cls d H') (Wout := fun cls d _ H => E cls d H) (c := .ref T.Fault.C) rfl rfl ⟨rfl, by decide, Or.inl T.Fault.g⟩ (L2H.passesAt_of rfl) (L2.takes_of rfl rfl rfl rfl)
        (fun W pn xe tk tkP _ => (pss_one (ps_set (i := 3) sc_Desk_put.nd rfl (Or.inl rfl) (by exact (pe_callS (ok_item_of T) (hr.mono (by decide)) rfl T.item_of.g T.item_of.F.kp T.item_of.b (fun σ => L2N.passAt tk σ) (by exact (pa_cons (pv 1) pa_nil)))))))
        (fun a oe cls d pn hz hf tk hot => (pss_one (L2H.ps_raiseH hot tk (pmk0 T.NotAsTold_T (NotAsToldI T) (by have := room2 hr; exact this) T.NotAsTold.g (by rfl))))))
      (pss_cons (ps_set (i := 4) sc_Desk_put.nd rfl (Or.inl rfl) (pe_call (ok_with_item T) (hr.mono (by decide)) rfl T.with_item.g T.with_item.F.kp T.with_item.b .nil pass0 (pa_cons (pv 2) (pa_cons (pv 3) pa_nil))))
      (pss_cons (ps_if (PW.pt (pw_or (pt_cmpR op_gt (pe_callB call_len (by rfl) T.b_len (by decide +kernel) (pa_cons (pe_fld (pv 4) rfl) pa_nil)) (pe_glob (v := .int 24) rfl T.c_MOST_WORDS.e ⟨_, rfl⟩) (nomark _)) (pw_or1 (pt_cmpR op_gt (pe_callB call_len (by rfl) T.b_len (by decide +kernel) (pa_cons (pe_fld (pv 4) rfl) pa_nil)) (pe_glob (v := .int 40) rfl T.c_MOST_PATTERNS.e ⟨_, rfl⟩) (nomark _)))))
        (pss_one (L2.ps_raise rfl (L2.takes_of rfl rfl rfl rfl) (pmk_plain (pmk0 T.TooMany_T (TooManyI T) (room2 hr) T.TooMany.g (by rfl)))))
        pss_nil)
      (pss_one (ps_ret (pe_meth (pv 0) T.Desk.cl T.Desk_change.at_ (ok_Desk_change T) (hr.mono (by decide)) T.Desk_change.b .nil (passD (L2.takes_of rfl rfl rfl rfl)) (pa_cons (pv 4) pa_nil)))))))), ?_⟩
    obtain ⟨dx, v, ha, hv⟩ := id hd
    refine ⟨_, rfl, _, _, _, rfl, ha, Desk_m_held_list, a, o, rfl, hd, fun e => kE (-1) (by rw [e]; rfl), fun s_ x dy e ha2 hx ok => ?_⟩
    subst e
    have eS : Vahypz.step (some s_) (.put t) = match Vahypz.readItem t with
        | none => (some s_, one (-4))
        | some x => if Vahypz.fits (Vahypz.put s_ x) = false then (some s_, one (-5)) else (some (Vahypz.put s_ x), Vahypz.changeAnswer s_ (Vahypz.put s_ x)) := rfl
    rw [eS] at k kE
    have w24 := ok.wmost
    have p40 := ok.pmost
    refine ⟨_, rfl, b, t, rfl, hb, hbl, fun e f H1 d s1 hd1 => ?_, fun w e q H1 s1 nq hq => ?_, fun p e q H1 s1 nq hq => ?_⟩
    · rw [e] at kE
      refine ⟨true, T.x_Fault, fun _ ea hea => ?_, fun z => by cases z⟩
      exact fun d2 hd2 => kE (-4) rfl _ _ d2 (.inr (.inr (.inr (.inl rfl)))) (s1.trans (same_upd hd2)) upd_same
    · have iok : IOk (.word w) := item_ok e
      have hi : ItemAt T H1 q (.word w) := hq
      rw [e] at k kE
      dsimp only at k kE
      have hx1 := hx.same s1
      refine ⟨_, rfl, _, rfl, x, q, s_, .word w, rfl, hx1, hi, by omega, by omega, fun c H2 s2 nc hc => ?_⟩
      have s12 := s1.trans s2
      obtain ⟨dl, wa, pa, as, bs, hc5, hwa, hpa, lw, lp⟩ := lenL hc
      have efit : Vahypz.fits (Vahypz.put s_ (.word w)) = decide ((Vahypz.put s_ (.word w)).words.length ≤ 24 ∧ (Vahypz.put s_ (.word w)).pats.length ≤ 40) := rfl
      have bad : (24 < (Vahypz.put s_ (.word w)).words.length ∨ 40 < (Vahypz.put s_ (.word w)).pats.length) → ∀ d, H2 d = none → E (.ref T.TooMany.C) (some d) (upd H2 d (.xd [("code", .int (-5))])) := fun z d hd => kE (-5) (by rw [efit, decide_eq_false (by omega), if_pos rfl]) _ _ d (.inr (.inr (.inr (.inr rfl)))) (s12.trans (same_upd hd)) upd_same
      refine ⟨_, rfl, _, _, _, _, _, rfl, hc5, T.WordList.cl, T.WordList_n_words, WordList_l_words, _, _, rfl, .inl ⟨_, SqL.of hwa, rfl⟩, _, _, rfl, rfl, _, rfl, ?_⟩
      rw [vR_length, lw]
      refine ifd (fun h1 => iteT (fun d hd => bad (.inl (by omega)) d hd)) (fun h1 => ?_)
      refine ⟨_, rfl, _, _, _, _, _, rfl, hc5, T.WordList.cl, T.WordList_n_patterns, WordList_l_patterns, _, _, rfl, .inl ⟨_, SqL.of hpa, rfl⟩, _, _, rfl, rfl, _, rfl, ?_⟩
      rw [vR_length, lp]
      refine ifd (fun h2 d hd => bad (.inr (by omega)) d hd) (fun h2 => ?_)
      have hf : Vahypz.fits (Vahypz.put s_ (.word w)) = true := by rw [efit]; exact decide_eq_true (by omega)
      rw [hf, if_neg (by decide)] at k
      exact ⟨_, rfl, _, _, _, rfl, s12 _ _ ha, Desk_m_change, _, rfl, a, c, s_, _, rfl, hd.same s12, hc, ok.put iok hf, fun g H3 sb hd3 ng hg => k g H3 ((Sb.of s12).trans sb) hd3 (s12.free ng) hg⟩
    · have iok : IOk (.pat p) := item_ok e
      have hi : ItemAt T H1 q (.pat p) := hq
      rw [e] at k kE
      dsimp only at k kE
      have hx1 := hx.same s1
      refine ⟨_, rfl, _, rfl, x, q, s_, .pat p, rfl, hx1, hi, by omega, by omega, fun c H2 s2 nc hc => ?_⟩
      have s12 := s1.trans s2
      obtain ⟨dl, wa, pa, as, bs, hc5, hwa, hpa, lw, lp⟩ := lenL hc
      have efit : Vahypz.fits (Vahypz.put s_ (.pat p)) = decide ((Vahypz.put s_ (.pat p)).words.length ≤ 24 ∧ (Vahypz.put s_ (.pat p)).pats.length ≤ 40) := rfl
      have bad : (24 < (Vahypz.put s_ (.pat p)).words.length ∨ 40 < (Vahypz.put s_ (.pat p)).pats.length) → ∀ d, H2 d = none → E (.ref T.TooMany.C) (some d) (upd H2 d (.xd [("code", .int (-5))])) := fun z d hd => kE (-5) (by rw [efit, decide_eq_false (by omega), if_pos rfl]) _ _ d (.inr (.inr (.inr (.inr rfl)))) (s12.trans (same_upd hd)) upd_same
      refine ⟨_, rfl, _, _, _, _, _, rfl, hc5, T.WordList.cl, T.WordList_n_words, WordList_l_words, _, _, rfl, .inl ⟨_, SqL.of hwa, rfl⟩, _, _, rfl, rfl, _, rfl, ?_⟩
      rw [vR_length, lw]
      refine ifd (fun h1 => iteT (fun d hd => bad (.inl (by omega)) d hd)) (fun h1 => ?_)
      refine ⟨_, rfl, _, _, _, _, _, rfl, hc5, T.WordList.cl, T.WordList_n_patterns, WordList_l_patterns, _, _, rfl, .inl ⟨_, SqL.of hpa, rfl⟩, _, _, rfl, rfl, _, rfl, ?_⟩
      rw [vR_length, lp]
      refine ifd (fun h2 d hd => bad (.inr (by omega)) d hd) (fun h2 => ?_)
      have hf : Vahypz.fits (Vahypz.put s_ (.pat p)) = true := by rw [efit]; exact decide_eq_true (by omega)
      rw [hf, if_neg (by decide)] at k
      exact ⟨_, rfl, _, _, _, rfl, s12 _ _ ha, Desk_m_change, _, rfl, a, c, s_, _, rfl, hd.same s12, hc, ok.put iok hf, fun g H3 sb hd3 ng hg => k g H3 ((Sb.of s12).trans sb) hd3 (s12.free ng) hg⟩
end
end PwX

/-! ## PwFrame -/
namespace PwX
open PySem PySem.Spec PyProof.Rows L2
/-! ### a list that a call never sees stays as it is -/
def del (H : Hp) (a : Addr) : Hp := fun b => if b = a then none else H b
theorem del_same {H : Hp} {a : Addr} : del H a a = none := if_pos rfl
theorem del_ne {H : Hp} {a b : Addr} (h : b ≠ a) : del H a b = H b := if_neg h
theorem objOk_to {P : Program} {w : World} {H H' : Hp} {h : Heap} {a : Addr} (ho : ∀ b x, H b = some (.own x) → H' b = some (.own x)) (ht : ∀ b xs, H b = some (.tup xs) → H' b = some (.tup xs)) : ∀ (o : HO), ObjOk P w H h a o → ObjOk P w H' h a o
  | .lst _, k => k
  | .tup _, k => k
  | .dK _, k => k
  | .dT kvs, k => by
    obtain ⟨h1, h2, xs, h3, h4⟩ := k
    refine ⟨h1, h2, xs, ?_, h4⟩
    clear h4 h1
    induction h3 with
    | nil => exact .nil
    | cons r _ ih => exact .cons ⟨r.1, ht _ _ r.2.1, r.2.2⟩ ih
  | .set _ _, k => k
  | .ins _ _ _, k => ⟨ho _ _ k.1, k.2⟩
  | .own _, k => k
  | .xd _, k => k
  | .met _ _, k => k
  | .rng _ _, k => k
  | .frz o u, k => ⟨k.1, objOk_to ho ht u k.2⟩
  | .tbl _, k => k
  | .ext _, k => k
section
variable {P : Program} {w : World} {K : PySem.W.Frag} {mg : Str → Option Value} {base : Heap} {H H' : Hp} {a : Addr} {xs : List V}
theorem del_keep {u : HO} (h : H a = some (.lst xs)) (hu : ∀ ys, u ≠ .lst ys) {b : Addr} (e : H b = some u) : del H a b = some u := by
  rw [del_ne]
  · exact e
  · rintro rfl
    rw [h] at e
    exact hu xs (Option.some.inj e).symm
theorem hok_del {h : Heap} (k : HOk P w H h) (ha : H a = some (.lst xs)) : HOk P w (del H a) h := fun b o e => by
  have hb : b ≠ a := by
    rintro rfl
    rw [del_same] at e
    cases e
  rw [del_ne hb] at e
  exact objOk_to (fun b x q => del_keep ha (fun ys z => by cases z) q) (fun b x q => del_keep ha (fun ys z => by cases z) q) o (k b o e)
theorem env0_del {A : Around} {outer : List Env} {s : Shared} (E0 : Env0 P w K mg base A outer s H) (ha : H a = some (.lst xs)) : Env0 P w K mg base A outer s (del H a) where
  frames := E0.frames
  mod := E0.mod
  bs b o e := ⟨(E0.bs b o e).1, by
    have := (E0.bs b o e).2
    unfold del
    split
    · rfl
    · exact this⟩
  bsz := E0.bsz
  funs := E0.funs
  frf b hb := by
    have := E0.frf b hb
    unfold del
    split
    · rfl
    · exact this
  hok := hok_del E0.hok ha
  bare := E0.bare
/-- put back -/
theorem hok_back {h B : Heap} (k0 : HOk P w H h) (ha : H a = some (.lst xs)) (k : HOk P w H' B) (hn : H' a = none) (hg : ∀ o, h.get? a = some o → B.get? a = some o) : HOk P w (upd H' a (.lst xs)) B := fun b o e => by
  by_cases hb : b = a
  · subst hb
    rw [upd_same] at e
    cases e
    obtain ⟨h1, its, n, h2, h3⟩ := k0 b _ ha
    exact ⟨h1, its, n, h2, hg _ h3⟩
  · rw [upd_ne hb] at e
    have up : ∀ c u, H' c = some u → upd H' a (.lst xs) c = some u := fun c u q => by rw [upd_ne (ne_of_none q hn)]; exact q
    exact objOk_to (fun c x q => up c _ q) (fun c x q => up c _ q) o (k b o e)
/-- the promise of a call that never sees a list -/
def spHide (sp : Sp) : Sp := fun vs H Q E => ∃ (a : Addr) (xs : List V), H a = some (.lst xs) ∧ sp vs (del H a) (fun v H' => H' a = none → Q v (upd H' a (.lst xs))) (fun cls d H' => H' a = none → E cls d (upd H' a (.lst xs)))
theorem FnOk.hide {k : Nat} {f : Addr} {fd : FuncData} {ps : List Str} {sp : Sp} (F : FnOk P w K mg base (L2.CX P w) k f fd ps sp) : FnOk P w K mg base (L2.CX P w) k f fd ps (spHide sp) where
  len vs H Q E h := by
    obtain ⟨a, xs, ha, h⟩ := h
    exact F.len _ _ _ _ h
  run A outer s H args us vs Q E hr E0 hb hv h := by
    obtain ⟨a, xs, ha, h⟩ := h
    obtain ⟨hl, its, n, h2, h3⟩ := E0.hok a _ ha
    have hfr : ¬ a ∈ frs outer := fun z => by
      have := E0.frf a z
      rw [ha] at this
      cases this
    have hdel : ∀ b, H b = none → del H a b = none := fun b e => by
      unfold del
      split
      · rfl
      · exact e
    refine codeAny_mono (F.run A outer s (del H a) args us vs _ _ hr (env0_del E0 ha) hb hv h) fun r s' c => ?_
    match r, c with
    | .ok (.ret u), c =>
      obtain ⟨v, H', c1, c2, c3, c4, c5, c6⟩ := c
      have hn : H' a = none := c3.free a _ h3 del_same (by intro z; cases z)
      have up : ∀ b o, H' b = some o → upd H' a (.lst xs) b = some o := fun b o q => by rw [upd_ne (ne_of_none q hn)]; exact q
      refine ⟨v, upd H' a (.lst xs), c1, c2, ⟨fun b o e1 e2 => c3.keep b o e1 (hdel b e2), fun b o e1 e2 => c3.slot b o e1 (hdel b e2), fun b o e1 e2 e3 => ?_, c3.there, fun b ys e => up _ _ (c3.tups b ys (del_keep ha (fun ys z => by cases z) e)), fun b o u e => up _ _ (c3.frzs b o u (del_keep ha (fun ys z => by cases z) e)), fun b ps e => ?_⟩, ?_, c5, c6 hn⟩
      · rw [upd_ne (ne_of_none ha e2).symm]
        exact c3.free b o e1 (hdel b e2) e3
      · obtain ⟨m, q⟩ := c3.tbls b ps (del_keep ha (fun ys z => by cases z) e)
        exact ⟨m, up _ _ q⟩
      · exact hok_back E0.hok ha c4 hn fun o q => c3.keep a o q del_same hfr (by intro z; cases z)
    | .error e, c =>
      obtain ⟨x, B, H', cls, d, c1, c2, c3, c4, c5, c6, c7, c8⟩ := c
      have hn : H' a = none := c4.free a _ h3 del_same
      have hB : B.get? a = some _ := c4.keep a _ h3 del_same hfr
      have hx : x ≠ a := by
        rintro rfl
        have := c2.2.1
        rw [hB] at this
        cases this
      have up : ∀ b o, H' b = some o → upd H' a (.lst xs) b = some o := fun b o q => by rw [upd_ne (ne_of_none q hn)]; exact q
      refine ⟨x, B, upd H' a (.lst xs), cls, d, c1, c2, ?_, ⟨fun b o e1 e2 => c4.keep b o e1 (hdel b e2), c4.slot, fun b o e1 e2 => ?_, c4.there, fun b ys e => up _ _ (c4.tups b ys (del_keep ha (fun ys z => by cases z) e)), fun b o u e => up _ _ (c4.frzs b o u (del_keep ha (fun ys z => by cases z) e)), fun b ps e => ?_⟩, ?_, c6, c7, c8 hn⟩
      · exact hok_back E0.hok ha c3 hn fun o q => c4.keep a o q del_same hfr
      · rw [upd_ne (ne_of_none ha e2).symm]
        exact c4.free b o e1 (hdel b e2)
      · obtain ⟨m, q⟩ := c4.tbls b ps (del_keep ha (fun ys z => by cases z) e)
        exact ⟨m, up _ _ q⟩
      · rw [upd_ne hx]
        exact c5
theorem FnOk.hide0 {k : Nat} {f : Addr} {fd : FuncData} {ps : List Str} {sp : Sp} (F : FnOk P w K mg base CX0 k f fd ps sp) : FnOk P w K mg base CX0 k f fd ps (spHide sp) where
  len vs H Q E h := by
    obtain ⟨a, xs, ha, h⟩ := h
    exact F.len _ _ _ _ h
  run A outer s H args us vs Q E hr E0 hb hv h := by
    obtain ⟨a, xs, ha, h⟩ := h
    obtain ⟨hl, its, n, h2, h3⟩ := E0.hok a _ ha
    have hfr : ¬ a ∈ frs outer := fun z => by
      have := E0.frf a z
      rw [ha] at this
      cases this
    have hdel : ∀ b, H b = none → del H a b = none := fun b e => by
      unfold del
      split
      · rfl
      · exact e
    refine codeAny_mono (F.run A outer s (del H a) args us vs _ _ hr (env0_del E0 ha) hb hv h) fun r s' c => ?_
    match r, c with
    | .ok (.ret u), c =>
      obtain ⟨v, H', c1, c2, c3, c4, c5, c6⟩ := c
      have hn : H' a = none := c3.free a _ h3 del_same (by intro z; cases z)
      have up : ∀ b o, H' b = some o → upd H' a (.lst xs) b = some o := fun b o q => by rw [upd_ne (ne_of_none q hn)]; exact q
      refine ⟨v, upd H' a (.lst xs), c1, c2, ⟨fun b o e1 e2 => c3.keep b o e1 (hdel b e2), fun b o e1 e2 => c3.slot b o e1 (hdel b e2), fun b o e1 e2 e3 => ?_, c3.there, fun b ys e => up _ _ (c3.tups b ys (del_keep ha (fun ys z => by cases z) e)), fun b o u e => up _ _ (c3.frzs b o u (del_keep ha (fun ys z => by cases z) e)), fun b ps e => ?_⟩, ?_, c5, c6 hn⟩
      · rw [upd_ne (ne_of_none ha e2).symm]
        exact c3.free b o e1 (hdel b e2) e3
      · obtain ⟨m, q⟩ := c3.tbls b ps (del_keep ha (fun ys z => by cases z) e)
        exact ⟨m, up _ _ q⟩
      · exact hok_back E0.hok ha c4 hn fun o q => c3.keep a o q del_same hfr (by intro z; cases z)
theorem same_del : Same (del H a) H := fun b o e => by
  unfold del at e
  split at e
  · cases e
  · exact e
theorem del_upd {o : HO} (h : H a = none) : del (upd H a o) a = H := by
  funext b
  by_cases e : b = a
  · rw [e, del_same, h]
  · rw [del_ne e, upd_ne e]
theorem del_upd2 {o : HO} : del (upd H a o) a = del H a := by
  funext b
  by_cases e : b = a
  · rw [e, del_same, del_same]
  · rw [del_ne e, del_ne e, upd_ne e]
theorem del_upd_ne {b : Addr} {o : HO} (h : b ≠ a) : del (upd H b o) a = upd (del H a) b o := by
  funext c
  by_cases e : c = a
  · rw [e, del_same, upd_ne h.symm, del_same]
  · rw [del_ne e]
    by_cases e2 : c = b
    · rw [e2, upd_same, upd_same]
    · rw [upd_ne e2, upd_ne e2, del_ne e]
end
end PwX

/-! ## PwCalls -/
namespace Pw
open VahypBase Vahypa
abbrev shape := PyVahypz.shape
/-! ### one call read off the numbers -/
theorem shape_cases {p : Int} {q : Nat × Nat} (h : shape p = some q) : (p = 0 ∧ q = (0, 1)) ∨ (p = 1 ∧ q = (0, 0)) ∨ (p = 2 ∧ q = (1, 0)) ∨ (p = 3 ∧ q = (0, 0)) ∨ (p = 4 ∧ q = (0, 1)) ∨ (p = 5 ∧ q = (2, 0)) ∨ (p = 6 ∧ q = (0, 0)) ∨ (p = 7 ∧ q = (0, 0)) ∨ (p = 8 ∧ q = (0, 1)) ∨ (p = 9 ∧ q = (1, 1)) := by
  unfold shape PyVahypz.shape at h
  split at h
  · cases h; exact .inl ⟨by assumption, rfl⟩
  split at h
  · cases h; exact .inr (.inl ⟨by assumption, rfl⟩)
  split at h
  · cases h; exact .inr (.inr (.inl ⟨by assumption, rfl⟩))
  split at h
  · cases h; exact .inr (.inr (.inr (.inl ⟨by assumption, rfl⟩)))
  split at h
  · cases h; exact .inr (.inr (.inr (.inr (.inl ⟨by assumption, rfl⟩))))
  split at h
  · cases h; exact .inr (.inr (.inr (.inr (.inr (.inl ⟨by assumption, rfl⟩)))))
  split at h
  · cases h; exact .inr (.inr (.inr (.inr (.inr (.inr (.inl ⟨by assumption, rfl⟩))))))
  split at h
  · cases h; exact .inr (.inr (.inr (.inr (.inr (.inr (.inr (.inl ⟨by assumption, rfl⟩)))))))
  split at h
  · cases h; exact .inr (.inr (.inr (.inr (.inr (.inr (.inr (.inr (.inl ⟨by assumption, rfl⟩))))))))
  split at h
  · cases h; exact .inr (.inr (.inr (.inr (.inr (.inr (.inr (.inr (.inr ⟨by assumption, rfl⟩))))))))
  · cases h
theorem row_some {l x t : List Int} (h : PyFlat.row l = some (x, t)) : ∃ (n : Nat) (r : List Int), l = (n : Int) :: r ∧ n ≤ r.length ∧ x = r.take n ∧ t = r.drop n := by
  cases l with
  | nil => cases h
  | cons n r =>
    unfold PyFlat.row at h
    dsimp only at h
    split at h
    · rename_i q
      cases h
      exact ⟨n.toNat, r, by rw [Int.toNat_of_nonneg q.1], q.2, rfl, rfl⟩
    · cases h
theorem call_00 {p : Int} {r : List Int} {raw : List (List Int)} {t : List Int} (hs : shape p = some (0, 0)) (h : PyFlat.call shape (p :: r) = some (raw, t)) : raw = [[p]] ∧ t = r := by
  unfold PyFlat.call at h
  dsimp only at h
  rw [hs] at h
  dsimp only at h
  rw [if_neg (Nat.not_lt_zero _)] at h
  cases h
  exact ⟨rfl, rfl⟩
theorem call_10 {p : Int} {r : List Int} {raw : List (List Int)} {t : List Int} (hs : shape p = some (1, 0)) (h : PyFlat.call shape (p :: r) = some (raw, t)) : ∃ x, r = x :: t ∧ raw = [[p, x]] := by
  unfold PyFlat.call at h
  dsimp only at h
  rw [hs] at h
  dsimp only at h
  cases r with
  | nil => cases h
  | cons x r =>
    rw [if_neg (by rw [List.length_cons]; omega)] at h
    cases h
    exact ⟨x, rfl, rfl⟩
theorem call_20 {p : Int} {r : List Int} {raw : List (List Int)} {t : List Int} (hs : shape p = some (2, 0)) (h : PyFlat.call shape (p :: r) = some (raw, t)) : ∃ x y, r = x :: y :: t ∧ raw = [[p, x, y]] := by
  unfold PyFlat.call at h
  dsimp only at h
  rw [hs] at h
  dsimp only at h
  match r, h with
  | [], h => cases h
  | [x], h => cases h
  | x :: y :: r, h =>
    rw [if_neg (by rw [List.length_cons, List.length_cons]; omega)] at h
    cases h
    exact ⟨x, y, rfl, rfl⟩
theorem rows_one {l : List Int} {xs : List (List Int)} {t : List Int} (h : PyFlat.rows 1 l = some (xs, t)) : ∃ x, PyFlat.row l = some (x, t) ∧ xs = [x] := by
  unfold PyFlat.rows at h
  split at h
  · cases h
  · rename_i x s e
    unfold PyFlat.rows at h
    dsimp only at h
    cases h
    exact ⟨x, e, rfl⟩
theorem call_01 {p : Int} {r : List Int} {raw : List (List Int)} {t : List Int} (hs : shape p = some (0, 1)) (h : PyFlat.call shape (p :: r) = some (raw, t)) : ∃ (n : Nat) (s : List Int), r = (n : Int) :: s ∧ n ≤ s.length ∧ raw = [[p], s.take n] ∧ t = s.drop n := by
  unfold PyFlat.call at h
  dsimp only at h
  rw [hs] at h
  dsimp only at h
  rw [if_neg (Nat.not_lt_zero _), List.drop_zero] at h
  split at h
  · cases h
  · rename_i xs t2 e
    cases h
    obtain ⟨x, e1, rfl⟩ := rows_one e
    obtain ⟨n, s, h1, h2, rfl, h4⟩ := row_some e1
    exact ⟨n, s, h1, h2, rfl, h4⟩
theorem call_11 {p : Int} {r : List Int} {raw : List (List Int)} {t : List Int} (hs : shape p = some (1, 1)) (h : PyFlat.call shape (p :: r) = some (raw, t)) : ∃ (y : Int) (n : Nat) (s : List Int), r = y :: (n : Int) :: s ∧ n ≤ s.length ∧ raw = [[p, y], s.take n] ∧ t = s.drop n := by
  unfold PyFlat.call at h
  dsimp only at h
  rw [hs] at h
  dsimp only at h
  cases r with
  | nil => cases h
  | cons y r =>
    rw [if_neg (by rw [List.length_cons]; omega), List.drop_succ_cons, List.drop_zero] at h
    split at h
    · cases h
    · rename_i xs t2 e
      cases h
      obtain ⟨x, e1, rfl⟩ := rows_one e
      obtain ⟨n, s, h1, h2, rfl, h4⟩ := row_some e1
      exact ⟨y, n, s, by rw [h1], h2, rfl, h4⟩
/-! ### bytes -/
theorem bytes_nat {z : Int} (h : VahypzNeutral.natural z 8 = true) : 0 ≤ z ∧ z < 256 := by
  unfold VahypzNeutral.natural at h
  rw [Bool.and_eq_true, decide_eq_true_eq, decide_eq_true_eq] at h
  exact ⟨h.1, h.2⟩
theorem bytes_all {l : List Int} (h : l.all (fun (z : Int) => VahypzNeutral.natural z 8) = true) : NeutralIO.bytes l = true ∧ (VahypzNeutral.bytesOf l).map (fun c => (c.toNat : Int)) = l := by
  rw [List.all_eq_true] at h
  constructor
  · unfold NeutralIO.bytes
    rw [List.all_eq_true]
    intro z hz
    have := bytes_nat (h z hz)
    rw [Bool.and_eq_true, decide_eq_true_eq, decide_eq_true_eq]
    omega
  · unfold VahypzNeutral.bytesOf
    rw [List.map_map]
    conv => rhs; rw [← List.map_id l]
    apply List.map_congr_left
    intro z hz
    have := bytes_nat (h z hz)
    show ((UInt8.ofNat z.toNat).toNat : Int) = z
    have e : (UInt8.ofNat z.toNat).toNat = z.toNat := by
      rw [UInt8.toNat_ofNat']
      exact Nat.mod_eq_of_lt (by show z.toNat < 256; omega)
    rw [e]
    omega
theorem bytes_len (l : List Int) : (VahypzNeutral.bytesOf l).length = l.length := by unfold VahypzNeutral.bytesOf; rw [List.length_map]
theorem whole_id (c : List (List Int)) : PyVahypz.whole c = c := by
  unfold PyVahypz.whole
  split <;> rfl
theorem asked_row {p : Int} {b : List Int} (hp : p = 0 ∨ p = 4 ∨ p = 8) (h : VahypzNeutral.asked1 [[p], b] = true) : b.all (fun (z : Int) => VahypzNeutral.natural z 8) = true ∧ b.length ≤ 8192 := by
  rcases hp with rfl | rfl | rfl
  all_goals
    have h' : (b.all (fun (z : Int) => VahypzNeutral.natural z 8) && decide (b.length ≤ 8192)) = true := h
    rw [Bool.and_eq_true, decide_eq_true_eq] at h'
    exact h'
theorem asked_num_row {y : Int} {b : List Int} (h : VahypzNeutral.asked1 [[9, y], b] = true) : b.all (fun (z : Int) => VahypzNeutral.natural z 8) = true ∧ b.length ≤ 8192 := by
  have h' : (VahypzNeutral.whole60 y && (b.all (fun (z : Int) => VahypzNeutral.natural z 8) && decide (b.length ≤ 8192))) = true := h
  rw [Bool.and_eq_true, Bool.and_eq_true, decide_eq_true_eq] at h'
  exact h'.2
/-! ### the steps -/
abbrev nstep := VahypzNeutral.step
theorem step_load (o : Vahypz.Obj) {b : List Int} (h : NeutralIO.bytes b = true) : nstep o [[0], b] = ((Vahypz.step o (.load (VahypzNeutral.bytesOf b))).1, VahypzNeutral.encode (Vahypz.step o (.load (VahypzNeutral.bytesOf b))).2) := by
  have e : VahypzNeutral.callOf [[0], b] = some (.load (VahypzNeutral.bytesOf b)) := by
    show (if NeutralIO.bytes b = true then _ else _) = _
    rw [if_pos h]
  unfold nstep VahypzNeutral.step
  rw [e]
theorem step_put (o : Vahypz.Obj) {b : List Int} (h : NeutralIO.bytes b = true) : nstep o [[4], b] = ((Vahypz.step o (.put (VahypzNeutral.bytesOf b))).1, VahypzNeutral.encode (Vahypz.step o (.put (VahypzNeutral.bytesOf b))).2) := by
  have e : VahypzNeutral.callOf [[4], b] = some (.put (VahypzNeutral.bytesOf b)) := by
    show (if NeutralIO.bytes b = true then _ else _) = _
    rw [if_pos h]
  unfold nstep VahypzNeutral.step
  rw [e]
theorem step_joint (o : Vahypz.Obj) {b : List Int} (h : NeutralIO.bytes b = true) : nstep o [[8], b] = ((Vahypz.step o (.joint (VahypzNeutral.bytesOf b))).1, VahypzNeutral.encode (Vahypz.step o (.joint (VahypzNeutral.bytesOf b))).2) := by
  have e : VahypzNeutral.callOf [[8], b] = some (.joint (VahypzNeutral.bytesOf b)) := by
    show (if NeutralIO.bytes b = true then _ else _) = _
    rw [if_pos h]
  unfold nstep VahypzNeutral.step
  rw [e]
theorem step_break (o : Vahypz.Obj) (n : Int) {b : List Int} (h : NeutralIO.bytes b = true) : nstep o [[9, n], b] = ((Vahypz.step o (.break_ n (VahypzNeutral.bytesOf b))).1, VahypzNeutral.encode (Vahypz.step o (.break_ n (VahypzNeutral.bytesOf b))).2) := by
  have e : VahypzNeutral.callOf [[9, n], b] = some (.break_ n (VahypzNeutral.bytesOf b)) := by
    show (if NeutralIO.bytes b = true then _ else _) = _
    rw [if_pos h]
  unfold nstep VahypzNeutral.step
  rw [e]
/-! ### the whole line -/
/-- how far the loop is: from the place p on, in the state o, with out told -/
def PlayAt (l : List Int) (p : Nat) (o : Vahypz.Obj) (out : List Int) : Prop := p ≤ l.length ∧ ∃ f rs, PyFlat.calls shape f (l.drop p) = some rs ∧ PyVahypz.answers l = out ++ PyFlat.told (PyFlat.played VahypzNeutral.step o rs) ∧ ∀ c ∈ rs, VahypzNeutral.asked1 c = true
theorem PlayAt.start {l : List Int} (h : PyVahypz.answers_asked l = true) : PlayAt l 0 none [] ∧ (PyVahypz.answers l).length ≤ 10000000 := by
  unfold PyVahypz.answers_asked at h
  cases e : PyFlat.calls shape l.length l with
  | none =>
    change (match PyFlat.calls shape l.length l with | none => false | some raw => _) = true at h
    rw [e] at h
    cases h
  | some raw =>
    change (match PyFlat.calls shape l.length l with | none => false | some raw => _) = true at h
    rw [e] at h
    dsimp only at h
    rw [Bool.and_eq_true, Bool.and_eq_true] at h
    obtain ⟨⟨_, h2⟩, h3⟩ := h
    have ew : raw.map PyVahypz.whole = raw := by
      conv => rhs; rw [← List.map_id raw]
      exact List.map_congr_left fun c _ => whole_id c
    rw [ew] at h2
    unfold VahypzNeutral.asked at h2
    rw [Bool.and_eq_true] at h2
    refine ⟨⟨Nat.zero_le _, l.length, raw, by rw [List.drop_zero]; exact e, ?_, fun c hc => List.all_eq_true.mp h2.1 c hc⟩, of_decide_eq_true h3⟩
    have ec : PyVahypz.calls l = some raw := by
      unfold PyVahypz.calls
      change (match PyFlat.calls shape l.length l with | none => none | some cs => some (cs.map PyVahypz.whole)) = _
      rw [e]
      dsimp only
      rw [ew]
    unfold PyVahypz.answers
    rw [ec]
    rfl
theorem PlayAt.stop {l : List Int} {p : Nat} {o : Vahypz.Obj} {out : List Int} (h : PlayAt l p o out) (hp : l.length ≤ p) : out = PyVahypz.answers l := by
  obtain ⟨_, f, rs, h1, h2, _⟩ := h
  rw [List.drop_eq_nil_of_le hp] at h1
  have e : rs = [] := by
    cases f <;> (cases h1; rfl)
  rw [h2, e]
  simp [PyFlat.played, PyFlat.told]
theorem PlayAt.next {l : List Int} {p : Nat} {o : Vahypz.Obj} {out : List Int} (h : PlayAt l p o out) (hp : p < l.length) : ∃ raw t, PyFlat.call shape (l[p] :: l.drop (p + 1)) = some (raw, t) ∧ VahypzNeutral.asked1 raw = true ∧
    (out ++ (((nstep o raw).2.length : Int) :: (nstep o raw).2)).length ≤ (PyVahypz.answers l).length ∧ ∀ q, p + 1 ≤ q → q ≤ l.length → l.drop q = t → PlayAt l q (nstep o raw).1 (out ++ (((nstep o raw).2.length : Int) :: (nstep o raw).2)) := by
  obtain ⟨_, f, rs, h1, h2, h3⟩ := h
  rw [List.drop_eq_getElem_cons hp] at h1
  cases f with
  | zero => cases h1
  | succ f =>
    unfold PyFlat.calls at h1
    cases e : PyFlat.call shape (l[p] :: l.drop (p + 1)) with
    | none =>
      rw [e] at h1
      cases h1
    | some y =>
      obtain ⟨raw, t⟩ := y
      rw [e] at h1
      dsimp only at h1
      cases e2 : PyFlat.calls shape f t with
      | none => rw [e2] at h1; cases h1
      | some cs =>
        rw [e2] at h1
        cases h1
        have ep : PyFlat.told (PyFlat.played VahypzNeutral.step o (raw :: cs)) = (((nstep o raw).2.length : Int) :: (nstep o raw).2) ++ PyFlat.told (PyFlat.played VahypzNeutral.step (nstep o raw).1 cs) := rfl
        rw [ep, ← List.append_assoc] at h2
        refine ⟨raw, t, rfl, h3 raw List.mem_cons_self, ?_, fun q hq hl hd => ⟨hl, f, cs, by rw [hd]; exact e2, h2, fun c hc => h3 c (List.mem_cons_of_mem _ hc)⟩⟩
        rw [h2]
        simp only [List.length_append]
        omega
end Pw

/-! ## PwD28 -/
namespace PwX
open PySem PySem.Spec PyProof.Rows L2
open VahypBase Vahypa Pw
section
variable {K : PySem.W.Frag} {mg : Str → Option Value}
def RdC (T : PEnv K mg) (H : Hp) (r : Addr) (cs : List Int) (p : Nat) : Prop := ∃ dx ca, H r = some (.ins T.CallReader.C dx (CallReaderF (.ref ca) (.int (p : Nat)))) ∧ SqL K H ca (vI cs)
theorem vI_length (l : List Int) : (vI l).length = l.length := by simp [vI]
theorem sq_sbo {H H' : Hp} {a ca C dx : Addr} {fs : List (Str × V)} {xs : List V} (h : SqL K H ca xs) (ha : H a = some (.ins C dx fs)) (s : Sb a H H') : SqL K H' ca xs := by
  rcases h with h | h
  · rcases h with h | ⟨o, h⟩
    · exact .inl (.inl (s _ _ h (ne_of h ha (by intro z; cases z))))
    · exact .inl (.inr ⟨o, s _ _ h (ne_of h ha (by intro z; cases z))⟩)
  · exact .inr h
theorem RdC.same {T : PEnv K mg} {H H' : Hp} {r : Addr} {cs : List Int} {p : Nat} (h : RdC T H r cs p) (s : Same H H') : RdC T H' r cs p := let ⟨dx, ca, h1, h2⟩ := h; ⟨dx, ca, s _ _ h1, sq_same h2 s⟩
theorem RdC.sbd {T : PEnv K mg} {H H' : Hp} {r a : Addr} {cs : List Int} {p : Nat} {o : Vahypz.Obj} (h : RdC T H r cs p) (hd : DeskAt T H a o) (s : Sb a H H') : RdC T H' r cs p :=
  let ⟨dx, ca, h1, h2⟩ := h; let ⟨dy, v, h3, _⟩ := hd; ⟨dx, ca, s _ _ h1 (desk_ne_reader h3 h1).symm, sq_sbo h2 h3 s⟩
theorem DeskAt.sbr {T : PEnv K mg} {H H' : Hp} {r a : Addr} {cs : List Int} {p : Nat} {o : Vahypz.Obj} (hd : DeskAt T H a o) (h : RdC T H r cs p) (s : Sb r H H') : DeskAt T H' a o := by
  obtain ⟨dx, ca, h1, h2⟩ := h
  obtain ⟨dy, v, h3, h4⟩ := hd
  refine ⟨dy, v, s _ _ h3 (desk_ne_reader h3 h1), ?_⟩
  cases o with
  | none => exact h4
  | some l =>
    obtain ⟨x, e, h5, h6⟩ := h4
    exact ⟨x, e, h5.sbo h1 reader_other s, h6⟩
theorem atI_vI {l : List Int} {i : Nat} {v : Int} (h : l[i]? = some v) : atI (vI l) ((i : Nat) : Int) = some (.int v) := by
  unfold atI
  rw [ixN_nat rfl (by rw [vI_length]; exact (List.getElem?_eq_some_iff.mp h).1)]
  show (vI l)[i]? = _
  unfold vI
  rw [List.getElem?_map, h]
  rfl
theorem cut_vI (l : List Int) (i n : Nat) (h : i + n ≤ l.length) : cutV (vI l) (some ((i : Nat) : Int)) (some ((i : Nat) + (n : Nat) : Int)) = vI ((l.drop i).take n) := by
  have e : ((i : Nat) + (n : Nat) : Int) = ((i + n : Nat) : Int) := rfl
  rw [e]
  unfold cutV
  rw [HT.sIx_nat, HT.sIx_nat, vI_length, Nat.min_eq_left h, Nat.min_eq_left (by omega), Nat.add_sub_cancel_left]
  unfold vI
  rw [List.map_take, List.map_drop]

def sp_CallReader_init (T : PEnv K mg) : Sp := fun vs H Q _ => ∃ (p dx ca : Addr), vs = [.ref p, .ref ca] ∧ H p = some (.ins T.CallReader.C dx []) ∧ ∀ H' : Hp, H' p = some (.ins T.CallReader.C dx (CallReaderF (.ref ca) (.int 0))) → Sb p H H' → Q .non H'
theorem sc_CallReader_init : FnScope ["self", "calls"] ["self", "calls"] (defScope s_CallReader_init) := ⟨rfl, rfl, rfl, by decide +kernel, rfl, by decide +kernel, by decide +kernel⟩
theorem ok_CallReader_init (T : PEnv K mg) {P : Program} {w : World} {base : Heap} : FnOk P w K mg base CX0 1 T.CallReader_init.f T.CallReader_init.fd ["self", "calls"] (sp_CallReader_init T) := by
  refine T.CallReader_init.F.ok sc_CallReader_init (fun vs H Q E h => ?_) (fun cdv A outer s H vs Q E hr h => ?_)
  · obtain ⟨p, dx, ca, rfl, _⟩ := h
    rfl
  · obtain ⟨p, dx, ca, rfl, hp, k⟩ := h
    refine ⟨_, (pss_cons (ps_fld (pv 0) (pv 1) rfl)
      (pss_one (ps_fld (pv 0) pe_int rfl))), ?_⟩
    refine ⟨_, rfl, _, rfl, p, _, _, _, rfl, hp, T.CallReader.cl, T.CallReader_n_calls, Nat.zero_lt_succ _, ?_⟩
    refine ⟨_, rfl, p, _, _, _, rfl, upd_same, T.CallReader.cl, T.CallReader_n_at, Nat.le_of_ble_eq_true rfl, ?_⟩
    exact k _ (by rw [upd_same]; rfl) (sb_upd.trans sb_upd)
def sp_CallReader_is_done (T : PEnv K mg) : Sp := fun vs H Q _ => ∃ (r : Addr) (cs : List Int) (p : Nat), vs = [.ref r] ∧ RdC T H r cs p ∧ Q (.bl (decide (cs.length ≤ p))) H
theorem sc_CallReader_is_done : FnScope ["self"] ["self"] (defScope s_CallReader_is_done) := ⟨rfl, rfl, rfl, by decide +kernel, rfl, by decide +kernel, by decide +kernel⟩
theorem ok_CallReader_is_done (T : PEnv K mg) {P : Program} {w : World} {base : Heap} : FnOk P w K mg base CX0 1 T.CallReader_is_done.f T.CallReader_is_done.fd ["self"] (sp_CallReader_is_done T) := by
  refine T.CallReader_is_done.F.ok sc_CallReader_is_done (fun vs H Q E h => ?_) (fun cdv A outer s H vs Q E hr h => ?_)
  · obtain ⟨r, cs, p, rfl, _⟩ := h
    rfl
  · obtain ⟨r, cs, p, rfl, ⟨dx, ca, h1, h2⟩, k⟩ := h
    refine ⟨_, (pss_one (ps_ret (pe_cmpR op_ge (pe_fld (pv 0) rfl) (pe_callB call_len (by rfl) T.b_len (by decide +kernel) (pa_cons (pe_fld (pv 0) rfl) pa_nil)) (nomark _)))), ?_⟩
    refine ⟨_, rfl, _, _, _, _, _, rfl, h1, T.CallReader.cl, T.CallReader_n_at, CallReader_l_at, _, rfl, _, _, _, _, _, rfl, h1, T.CallReader.cl, T.CallReader_n_calls, CallReader_l_calls, _, _, rfl, .inl ⟨_, h2, rfl⟩, _, _, rfl, rfl, ?_⟩
    rw [vI_length]
    show Q (.bl (decide (((cs.length : Nat) : Int) ≤ ((p : Nat) : Int)))) H
    rw [show decide (((cs.length : Nat) : Int) ≤ ((p : Nat) : Int)) = decide (cs.length ≤ p) by simp]
    exact k
def sp_CallReader_number (T : PEnv K mg) : Sp := fun vs H Q _ => ∃ (r : Addr) (cs : List Int) (p : Nat) (x : Int), vs = [.ref r] ∧ RdC T H r cs p ∧ cs[p]? = some x ∧ ∀ H', Sb r H H' → RdC T H' r cs (p + 1) → Q (.int x) H'
theorem sc_CallReader_number : FnScope ["self", "number"] ["self"] (defScope s_CallReader_number) := ⟨rfl, rfl, rfl, by decide +kernel, rfl, by decide +kernel, by decide +kernel⟩
theorem ok_CallReader_number (T : PEnv K mg) {P : Program} {w : World} {base : Heap} : FnOk P w K mg base CX0 1 T.CallReader_number.f T.CallReader_number.fd ["self"] (sp_CallReader_number T) := by
  refine T.CallReader_number.F.ok sc_CallReader_number (fun vs H Q E h => ?_) (fun cdv A outer s H vs Q E hr h => ?_)
  · obtain ⟨r, cs, p, x, rfl, _⟩ := h
    rfl
  · obtain ⟨r, cs, p, x, rfl, ⟨dx, ca, h1, h2⟩, hx, k⟩ := h
    refine ⟨_, (pss_cons (ps_set (i := 1) sc_CallReader_number.nd rfl (Or.inl rfl) (pe_ix ix_list (pe_fld (pv 0) rfl) (pe_fld (pv 0) rfl) (fun _ _ => rfl)))
      (pss_cons (ps_fldaug (pv 0) pe_int in_add)
      (pss_one (ps_ret (pv 1))))), ?_⟩
    refine ⟨_, rfl, _, _, _, _, _, rfl, h1, T.CallReader.cl, T.CallReader_n_calls, CallReader_l_calls, _, rfl, _, _, _, _, _, rfl, h1, T.CallReader.cl, T.CallReader_n_at, CallReader_l_at, ca, _, _, _, rfl, rfl, h2, atI_vI hx, ?_⟩
    refine ⟨_, rfl, _, _, _, _, _, rfl, h1, T.CallReader.cl, T.CallReader_n_at, CallReader_l_at, _, _, rfl, rfl, _, _, h1, Nat.le_of_ble_eq_true rfl, ?_⟩
    exact ⟨_, rfl, k _ sb_upd ⟨dx, ca, by rw [upd_same]; rfl, sq_sbo h2 h1 sb_upd⟩⟩
def sp_CallReader_row (T : PEnv K mg) : Sp := fun vs H Q _ => ∃ (r : Addr) (cs : List Int) (p n : Nat), vs = [.ref r] ∧ RdC T H r cs p ∧ cs[p]? = some ((n : Nat) : Int) ∧ p + 1 + n ≤ cs.length ∧ ∀ g H', Sb r H H' → RdC T H' r cs (p + 1 + n) → H' g = some (.lst (vI ((cs.drop (p + 1)).take n))) → Q (.ref g) H'
theorem sc_CallReader_row : FnScope ["self", "length", "row"] ["self"] (defScope s_CallReader_row) := ⟨rfl, rfl, rfl, by decide +kernel, rfl, by decide +kernel, by decide +kernel⟩
theorem ok_CallReader_row (T : PEnv K mg) {P : Program} {w : World} {base : Heap} : FnOk P w K mg base CX0 2 T.CallReader_row.f T.CallReader_row.fd ["self"] (sp_CallReader_row T) := by
  refine T.CallReader_row.F.ok sc_CallReader_row (fun vs H Q E h => ?_) (fun cdv A outer s H vs Q E hr h => ?_)
  · obtain ⟨r, cs, p, n, rfl, _⟩ := h
    rfl
  · obtain ⟨r, cs, p, n, rfl, hr1, hx, hl, k⟩ := h
    refine ⟨_, (pss_cons (ps_set (i := 1) sc_CallReader_row.nd rfl (Or.inl rfl) (pe_meth0 (pv 0) T.CallReader.cl T.CallReader_number.at_ (ok_CallReader_number T) (hr.mono (by decide)) T.CallReader_number.b .nil pass0))
      (pss_cons (ps_set (i := 2) sc_CallReader_row.nd rfl (Or.inl rfl) (pe_slice sl_list (pe_fld (pv 0) rfl) (po_some (pe_fld (pv 0) rfl)) (po_some (pe_op op_add (pe_fld (pv 0) rfl) (pv 1)))))
      (pss_cons (ps_fldaug (pv 0) (pv 1) in_add)
      (pss_one (ps_ret (pv 2)))))), ?_⟩
    obtain ⟨dx, ca, h1, h2⟩ := id hr1
    refine ⟨_, rfl, _, _, _, rfl, h1, CallReader_m_number, r, cs, p, _, rfl, hr1, hx, fun H1 s1 ⟨dx2, ca2, h3, h4⟩ => ?_⟩
    refine ⟨_, rfl, _, _, _, _, _, rfl, h3, T.CallReader.cl, T.CallReader_n_calls, CallReader_l_calls, _, rfl, _, _, _, _, _, rfl, h3, T.CallReader.cl, T.CallReader_n_at, CallReader_l_at, _, rfl, _, rfl, _, _, _, _, _, rfl, h3, T.CallReader.cl, T.CallReader_n_at, CallReader_l_at, _, rfl, _, _, rfl, rfl, _, rfl, ca2, _, rfl, h4, fun g hg => ?_⟩
    rw [cut_vI _ _ _ hl]
    have s2 := same_upd (o := .lst (vI ((cs.drop (p + 1)).take n))) hg
    have h5 := s2 _ _ h3
    have hgr : g ≠ r := (ne_of_none h3 hg).symm
    refine ⟨_, rfl, _, _, _, _, _, rfl, h5, T.CallReader.cl, T.CallReader_n_at, CallReader_l_at, _, rfl, _, _, rfl, rfl, _, _, h5, Nat.le_of_ble_eq_true rfl, ?_⟩
    exact ⟨_, rfl, k g _ ((s1.trans (Sb.of s2)).trans sb_upd) ⟨dx2, ca2, by rw [upd_same]; rfl, sq_sbo (sq_same h4 s2) h5 sb_upd⟩ (by rw [upd_ne hgr]; exact upd_same)⟩
theorem vI_bytes {l : List Int} (h : l.all (fun (z : Int) => VahypzNeutral.natural z 8) = true) : vI l = vB (VahypzNeutral.bytesOf l) := by
  rw [← vI_vB, (bytes_all h).2]

def sp_answer_to (T : PEnv K mg) : Sp := fun vs H Q E => ∃ (a r : Addr) (o : Vahypz.Obj) (cs : List Int) (p : Nat) (c : Int) (raw : List (List Int)) (t : List Int), vs = [.ref a, .int c, .ref r] ∧ DeskAt T H a o ∧ RdC T H r cs p ∧ PyFlat.call shape (c :: cs.drop p) = some (raw, t) ∧ VahypzNeutral.asked1 raw = true ∧ p ≤ cs.length ∧
  (∀ g H' q, DeskAt T H' a (nstep o raw).1 → RdC T H' r cs q → p ≤ q → q ≤ cs.length → cs.drop q = t → H' g = some (.lst (vI (nstep o raw).2)) → Q (.ref g) H') ∧
  (∀ C H' d q n, IsRef T C → DeskAt T H' a o → RdC T H' r cs q → p ≤ q → q ≤ cs.length → cs.drop q = t → nstep o raw = (o, [n]) → H' d = some (.xd [("code", .int n)]) → E (.ref C) (some d) H')
theorem sc_answer_to : FnScope ["desk", "call", "reader", "kind", "places_left"] ["desk", "call", "reader"] (defScope s_answer_to) := ⟨rfl, rfl, rfl, by decide +kernel, rfl, by decide +kernel, by decide +kernel⟩
theorem ok_answer_to (T : PEnv K mg) {P : Program} {w : World} {base : Heap} : FnOk P w K mg base (L2.CX P w) 9 T.answer_to.f T.answer_to.fd ["desk", "call", "reader"] (sp_answer_to T) := by
  refine T.answer_to.F.okX sc_answer_to (fun vs H Q E h => ?_) (fun cdv A outer s H vs Q E hr h => ?_)
  · obtain ⟨a, r, o, cs, p, c, raw, t, rfl, _⟩ := h
    rfl
  · obtain ⟨a, r, o, cs, p, c, raw, t, rfl, hd, hr1, hcall, hask, hpl, k, kE⟩ := h
    refine ⟨_, (pss_cons (ps_if (pt_cmpR op_eq (pv 1) (pe_glob (v := .int 0) rfl T.c_LOAD.e ⟨_, rfl⟩) (nomark _))
        (pss_one (ps_ret (pe_meth (pv 0) T.Desk.cl T.Desk_load.at_ (ok_Desk_load T) (hr.mono (by decide)) T.Desk_load.b .nil pass0 (pa_cons (pe_meth0 (pv 2) T.CallReader.cl T.CallReader_row.at_ (ok_CallReader_row T) (hr.mono (by decide)) T.CallReader_row.b .nil pass0) pa_nil))))
        pss_nil)
      (pss_cons (ps_if (pt_cmpR op_eq (pv 1) (pe_glob (v := .int 1) rfl T.c_SHOWN.e ⟨_, rfl⟩) (nomark _))
        (pss_one (ps_ret (pe_meth0 (pv 0) T.Desk.cl T.Desk_shown.at_ (ok_Desk_shown T) (hr.mono (by decide)) T.Desk_shown.b .nil (passD (L2.takes_of rfl rfl rfl rfl)))))
        pss_nil)
      (pss_cons (ps_if (pt_cmpR op_eq (pv 1) (pe_glob (v := .int 2) rfl T.c_REPORT.e ⟨_, rfl⟩) (nomark _))
        (pss_one (ps_ret (pe_meth (pv 0) T.Desk.cl T.Desk_report.at_ (ok_Desk_report T) (hr.mono (by decide)) T.Desk_report.b .nil (passD (L2.takes_of rfl rfl rfl rfl)) (pa_cons (pe_meth0 (pv 2) T.CallReader.cl T.CallReader_number.at_ (ok_CallReader_number T) (hr.mono (by decide)) T.CallReader_number.b .nil pass0) pa_nil))))
        pss_nil)
      (pss_cons (ps_if (pt_cmpR op_eq (pv 1) (pe_glob (v := .int 3) rfl T.c_MARGINS_patterns.e ⟨_, rfl⟩) (nomark _))
        (pss_one (ps_ret (pe_meth0 (pv 0) T.Desk.cl T.Desk_margins.at_ (ok_Desk_margins T) (hr.mono (by decide)) T.Desk_margins.b .nil (passD (L2.takes_of rfl rfl rfl rfl)))))
        pss_nil)
      (pss_cons (ps_if (pt_cmpR op_eq (pv 1) (pe_glob (v := .int 4) rfl T.c_PUT.e ⟨_, rfl⟩) (nomark _))
        (pss_one (ps_ret (pe_meth (pv 0) T.Desk.cl T.Desk_put.at_ (ok_Desk_put T) (hr.mono (by decide)) T.Desk_put.b .nil (passD (L2.takes_of rfl rfl rfl rfl)) (pa_cons (pe_meth0 (pv 2) T.CallReader.cl T.CallReader_row.at_ (ok_CallReader_row T) (hr.mono (by decide)) T.CallReader_row.b .nil pass0) pa_nil))))
        pss_nil)
      (pss_cons (ps_if (pt_cmpR op_eq (pv 1) (pe_glob (v := .int 5) rfl T.c_DROP.e ⟨_, rfl⟩) (nomark _))
        (pss_cons (ps_set (i := 3) sc_answer_to.nd rfl (Or.inl rfl) (pe_meth0 (pv 2) T.CallReader.cl T.CallReader_number.at_ (ok_CallReader_number T) (hr.mono (by decide)) T.CallReader_number.b .nil pass0))
      (pss_one (ps_ret (pe_meth (pv 0) T.Desk.cl T.Desk_drop.at_ (ok_Desk_drop T) (hr.mono (by decide)) T.Desk_drop.b .nil (passD (L2.takes_of rfl rfl rfl rfl)) (pa_cons (pv 3) (pa_cons (pe_meth0 (pv 2) T.CallReader.cl T.CallReader_number.at_ (ok_CallReader_number T) (hr.mono (by decide)) T.CallReader_number.b .nil pass0) pa_nil))))))
        pss_nil)
      (pss_cons (ps_if (pt_cmpR op_eq (pv 1) (pe_glob (v := .int 6) rfl T.c_NEEDLESS.e ⟨_, rfl⟩) (nomark _))
        (pss_one (ps_ret (pe_meth0 (pv 0) T.Desk.cl T.Desk_needless.at_ (ok_Desk_needless T) (hr.mono (by decide)) T.Desk_needless.b .nil (passD (L2.takes_of rfl rfl rfl rfl)))))
        pss_nil)
      (pss_cons (ps_if (pt_cmpR op_eq (pv 1) (pe_glob (v := .int 7) rfl T.c_SLIM.e ⟨_, rfl⟩) (nomark _))
        (pss_one (ps_ret (pe_meth0 (pv 0) T.Desk.cl T.Desk_slim.at_ (ok_Desk_slim T) (hr.mono (by decide)) T.Desk_slim.b .nil (passD (L2.takes_of rfl rfl rfl rfl)))))
        pss_nil)
      (pss_cons (ps_if (pt_cmpR op_eq (pv 1) (pe_glob (v := .int 8) rfl T.c_JOINT.e ⟨_, rfl⟩) (nomark _))
        (pss_one (ps_ret (pe_meth (pv 0) T.Desk.cl T.Desk_joint.at_ (ok_Desk_joint T) (hr.mono (by decide)) T.Desk_joint.b .nil (passD (L2.takes_of rfl rfl rfl rfl)) (pa_cons (pe_meth0 (pv 2) T.CallReader.cl T.CallReader_row.at_ (ok_CallReader_row T) (hr.mono (by decide)) T.CallReader_row.b .nil pass0) pa_nil))))
        pss_nil)
      (pss_cons (ps_set (i := 4) sc_answer_to.nd rfl (Or.inl rfl) (pe_meth0 (pv 2) T.CallReader.cl T.CallReader_number.at_ (ok_CallReader_number T) (hr.mono (by decide)) T.CallReader_number.b .nil pass0))
      (pss_one (ps_ret (pe_meth (pv 0) T.Desk.cl T.Desk_break_line.at_ (ok_Desk_break_line T) (hr.mono (by decide)) T.Desk_break_line.b .nil (passD (L2.takes_of rfl rfl rfl rfl)) (pa_cons (pv 4) (pa_cons (pe_meth0 (pv 2) T.CallReader.cl T.CallReader_row.at_ (ok_CallReader_row T) (hr.mono (by decide)) T.CallReader_row.b .nil pass0) pa_nil))))))))))))))), ?_⟩
    have hsh : ∃ q, shape c = some q := by
      cases e : shape c with
      | none =>
        unfold PyFlat.call at hcall
        dsimp only at hcall
        rw [e] at hcall
        cases hcall
      | some q => exact ⟨q, rfl⟩
    obtain ⟨⟨qn, qk⟩, hsh⟩ := hsh
    have sh := hsh
    obtain ⟨rx, ca, hr2, hr3⟩ := id hr1
    obtain ⟨dx, v, ha, hv⟩ := id hd
    rcases shape_cases hsh with ⟨rfl, e⟩ | ⟨rfl, e⟩ | ⟨rfl, e⟩ | ⟨rfl, e⟩ | ⟨rfl, e⟩ | ⟨rfl, e⟩ | ⟨rfl, e⟩ | ⟨rfl, e⟩ | ⟨rfl, e⟩ | ⟨rfl, e⟩ <;> (rw [e] at sh; clear hsh e)
    · refine ⟨_, rfl, rfl, _, rfl, ifd (fun _ => ?_) (fun z => absurd rfl z)⟩
      obtain ⟨n, s7, hx, hn, rfl, rfl⟩ := call_01 sh hcall
      have hp1 : cs[p]? = some ((n : Nat) : Int) := by
        have := congrArg List.head? hx
        rw [List.head?_drop] at this
        exact this
      have es : s7 = cs.drop (p + 1) := by
        have := congrArg List.tail hx
        rw [List.tail_drop] at this
        exact this.symm
      subst es
      have hb := asked_row (.inl rfl) hask
      rw [step_load o (bytes_all hb.1).1] at k kE
      have hp2 : p < cs.length := (List.getElem?_eq_some_iff.mp hp1).1
      have hq : p + 1 + n ≤ cs.length := by rw [List.length_drop] at hn; omega
      have ht : cs.drop (p + 1 + n) = (cs.drop (p + 1)).drop n := by rw [List.drop_drop]
      refine ⟨_, rfl, _, _, _, rfl, ha, Desk_m_load, _, rfl, _, _, _, rfl, hr2, CallReader_m_row, r, cs, p, n, rfl, hr1, hp1, hq, fun b H1 s1 hr4 hb1 => ?_⟩
      have hd1 := hd.sbr hr1 s1
      rw [vI_bytes hb.1] at hb1
      exact ⟨a, b, o, _, rfl, hd1, SqL.of hb1, by rw [bytes_len]; exact Nat.le_trans hb.2 (by decide), fun g H9 s9 hd9 ng hg => k g H9 (p + 1 + n) hd9 (hr4.sbd hd1 s9) (by omega) (by omega) ht hg⟩
    · refine ⟨_, rfl, rfl, _, rfl, ifd (fun z => absurd z (by decide)) (fun _ => ?_)⟩
      refine ⟨_, rfl, rfl, _, rfl, ifd (fun _ => ?_) (fun z => absurd rfl z)⟩
      obtain ⟨rfl, rfl⟩ := call_00 sh hcall
      refine ⟨_, rfl, _, _, _, rfl, ha, Desk_m_shown, a, o, rfl, hd, fun g H1 s1 hd1 ng hg => k g H1 p hd1 (hr1.sbd hd s1) (Nat.le_refl _) hpl rfl hg, fun n en C H1 d hC s1 hd1 => kE C H1 d p n hC (hd.same s1) (hr1.same s1) (Nat.le_refl _) hpl rfl ?_ hd1⟩
      show ((Vahypz.step o .shown).1, VahypzNeutral.encode (Vahypz.step o .shown).2) = _
      rw [en]
      rfl
    · refine ⟨_, rfl, rfl, _, rfl, ifd (fun z => absurd z (by decide)) (fun _ => ?_)⟩
      refine ⟨_, rfl, rfl, _, rfl, ifd (fun z => absurd z (by decide)) (fun _ => ?_)⟩
      refine ⟨_, rfl, rfl, _, rfl, ifd (fun _ => ?_) (fun z => absurd rfl z)⟩
      obtain ⟨x, hx, rfl⟩ := call_10 sh hcall
      have hp1 : cs[p]? = some x := by
        have := congrArg List.head? hx
        rw [List.head?_drop] at this
        exact this
      have ht : cs.drop (p + 1) = t := by
        have := congrArg List.tail hx
        rw [List.tail_drop] at this
        exact this
      have hp2 : p < cs.length := (List.getElem?_eq_some_iff.mp hp1).1
      refine ⟨_, rfl, _, _, _, rfl, ha, Desk_m_report, _, rfl, _, _, _, rfl, hr2, CallReader_m_number, r, cs, p, x, rfl, hr1, hp1, fun H1 s1 hr4 => ?_⟩
      have hd1 := hd.sbr hr1 s1
      exact ⟨a, o, x, rfl, hd1, fun g H9 s9 hd9 ng hg => k g H9 (p + 1) hd9 (hr4.sbd hd1 s9) (by omega) (by omega) ht hg, fun n9 en C H9 d hC s9 hd9 => kE C H9 d (p + 1) n9 hC (hd1.same s9) (hr4.same s9) (by omega) (by omega) ht (by show ((Vahypz.step o (.report x)).1, VahypzNeutral.encode (Vahypz.step o (.report x)).2) = _; rw [en]; rfl) hd9⟩
    · refine ⟨_, rfl, rfl, _, rfl, ifd (fun z => absurd z (by decide)) (fun _ => ?_)⟩
      refine ⟨_, rfl, rfl, _, rfl, ifd (fun z => absurd z (by decide)) (fun _ => ?_)⟩
      refine ⟨_, rfl, rfl, _, rfl, ifd (fun z => absurd z (by decide)) (fun _ => ?_)⟩
      refine ⟨_, rfl, rfl, _, rfl, ifd (fun _ => ?_) (fun z => absurd rfl z)⟩
      obtain ⟨rfl, rfl⟩ := call_00 sh hcall
      refine ⟨_, rfl, _, _, _, rfl, ha, Desk_m_margins, a, o, rfl, hd, fun g H1 s1 hd1 ng hg => k g H1 p hd1 (hr1.sbd hd s1) (Nat.le_refl _) hpl rfl hg, fun n en C H1 d hC s1 hd1 => kE C H1 d p n hC (hd.same s1) (hr1.same s1) (Nat.le_refl _) hpl rfl ?_ hd1⟩
      show ((Vahypz.step o .margins).1, VahypzNeutral.encode (Vahypz.step o .margins).2) = _
      rw [en]
      rfl
    · refine ⟨_, rfl, rfl, _, rfl, ifd (fun z => absurd z (by decide)) (fun _ => ?_)⟩
      refine ⟨_, rfl, rfl, _, rfl, ifd (fun z => absurd z (by decide)) (fun _ => ?_)⟩
      refine ⟨_, rfl, rfl, _, rfl, ifd (fun z => absurd z (by decide)) (fun _ => ?_)⟩
      refine ⟨_, rfl, rfl, _, rfl, ifd (fun z => absurd z (by decide)) (fun _ => ?_)⟩
      refine ⟨_, rfl, rfl, _, rfl, ifd (fun _ => ?_) (fun z => absurd rfl z)⟩
      obtain ⟨n, s7, hx, hn, rfl, rfl⟩ := call_01 sh hcall
      have hp1 : cs[p]? = some ((n : Nat) : Int) := by
        have := congrArg List.head? hx
        rw [List.head?_drop] at this
        exact this
      have es : s7 = cs.drop (p + 1) := by
        have := congrArg List.tail hx
        rw [List.tail_drop] at this
        exact this.symm
      subst es
      have hb := asked_row (.inr (.inl rfl)) hask
      rw [step_put o (bytes_all hb.1).1] at k kE
      have hp2 : p < cs.length := (List.getElem?_eq_some_iff.mp hp1).1
      have hq : p + 1 + n ≤ cs.length := by rw [List.length_drop] at hn; omega
      have ht : cs.drop (p + 1 + n) = (cs.drop (p + 1)).drop n := by rw [List.drop_drop]
      refine ⟨_, rfl, _, _, _, rfl, ha, Desk_m_put, _, rfl, _, _, _, rfl, hr2, CallReader_m_row, r, cs, p, n, rfl, hr1, hp1, hq, fun b H1 s1 hr4 hb1 => ?_⟩
      have hd1 := hd.sbr hr1 s1
      rw [vI_bytes hb.1] at hb1
      exact ⟨a, b, o, _, rfl, hd1, SqL.of hb1, by rw [bytes_len]; exact Nat.le_trans hb.2 (by decide), fun g H9 s9 hd9 ng hg => k g H9 (p + 1 + n) hd9 (hr4.sbd hd1 s9) (by omega) (by omega) ht hg, fun n9 en C H9 d hC s9 hd9 => kE C H9 d (p + 1 + n) n9 hC (hd1.same s9) (hr4.same s9) (by omega) (by omega) ht (by show ((Vahypz.step o (.put (VahypzNeutral.bytesOf ((cs.drop (p + 1)).take n)))).1, VahypzNeutral.encode (Vahypz.step o (.put (VahypzNeutral.bytesOf ((cs.drop (p + 1)).take n)))).2) = _; rw [en]; rfl) hd9⟩
    · refine ⟨_, rfl, rfl, _, rfl, ifd (fun z => absurd z (by decide)) (fun _ => ?_)⟩
      refine ⟨_, rfl, rfl, _, rfl, ifd (fun z => absurd z (by decide)) (fun _ => ?_)⟩
      refine ⟨_, rfl, rfl, _, rfl, ifd (fun z => absurd z (by decide)) (fun _ => ?_)⟩
      refine ⟨_, rfl, rfl, _, rfl, ifd (fun z => absurd z (by decide)) (fun _ => ?_)⟩
      refine ⟨_, rfl, rfl, _, rfl, ifd (fun z => absurd z (by decide)) (fun _ => ?_)⟩
      refine ⟨_, rfl, rfl, _, rfl, ifd (fun _ => ?_) (fun z => absurd rfl z)⟩
      obtain ⟨x, y, hx, rfl⟩ := call_20 sh hcall
      have hp1 : cs[p]? = some x := by
        have := congrArg List.head? hx
        rw [List.head?_drop] at this
        exact this
      have ht1 : cs.drop (p + 1) = y :: t := by
        have := congrArg List.tail hx
        rw [List.tail_drop] at this
        exact this
      have hp3 : cs[p + 1]? = some y := by
        have := congrArg List.head? ht1
        rw [List.head?_drop] at this
        exact this
      have ht : cs.drop (p + 1 + 1) = t := by
        have := congrArg List.tail ht1
        rw [List.tail_drop] at this
        exact this
      have hp2 : p + 1 < cs.length := (List.getElem?_eq_some_iff.mp hp3).1
      refine ⟨_, rfl, _, _, _, rfl, hr2, CallReader_m_number, r, cs, p, x, rfl, hr1, hp1, fun H1 s1 hr4 => ?_⟩
      have hd1 := hd.sbr hr1 s1
      obtain ⟨rx5, ca5, hr5, hr6⟩ := id hr4
      obtain ⟨dx1, v1, ha1, hv1⟩ := id hd1
      refine ⟨_, rfl, _, _, _, rfl, ha1, Desk_m_drop, _, rfl, _, rfl, _, _, _, rfl, hr5, CallReader_m_number, r, cs, p + 1, y, rfl, hr4, hp3, fun H2 s2 hr7 => ?_⟩
      have hd2 := hd1.sbr hr4 s2
      exact ⟨a, o, x, y, rfl, hd2, fun g H9 s9 hd9 ng hg => k g H9 (p + 1 + 1) hd9 (hr7.sbd hd2 s9) (by omega) (by omega) ht hg, fun n9 en C H9 d hC s9 hd9 => kE C H9 d (p + 1 + 1) n9 hC (hd2.same s9) (hr7.same s9) (by omega) (by omega) ht (by show ((Vahypz.step o (.drop x y)).1, VahypzNeutral.encode (Vahypz.step o (.drop x y)).2) = _; rw [en]; rfl) hd9⟩
    · refine ⟨_, rfl, rfl, _, rfl, ifd (fun z => absurd z (by decide)) (fun _ => ?_)⟩
      refine ⟨_, rfl, rfl, _, rfl, ifd (fun z => absurd z (by decide)) (fun _ => ?_)⟩
      refine ⟨_, rfl, rfl, _, rfl, ifd (fun z => absurd z (by decide)) (fun _ => ?_)⟩
      refine ⟨_, rfl, rfl, _, rfl, ifd (fun z => absurd z (by decide)) (fun _ => ?_)⟩
      refine ⟨_, rfl, rfl, _, rfl, ifd (fun z => absurd z (by decide)) (fun _ => ?_)⟩
      refine ⟨_, rfl, rfl, _, rfl, ifd (fun z => absurd z (by decide)) (fun _ => ?_)⟩
      refine ⟨_, rfl, rfl, _, rfl, ifd (fun _ => ?_) (fun z => absurd rfl z)⟩
      obtain ⟨rfl, rfl⟩ := call_00 sh hcall
      refine ⟨_, rfl, _, _, _, rfl, ha, Desk_m_needless, a, o, rfl, hd, fun g H1 s1 hd1 ng hg => k g H1 p hd1 (hr1.sbd hd s1) (Nat.le_refl _) hpl rfl hg, fun n en C H1 d hC s1 hd1 => kE C H1 d p n hC (hd.same s1) (hr1.same s1) (Nat.le_refl _) hpl rfl ?_ hd1⟩
      show ((Vahypz.step o .needless).1, VahypzNeutral.encode (Vahypz.step o .needless).2) = _
      rw [en]
      rfl
    · refine ⟨_, rfl, rfl, _, rfl, ifd (fun z => absurd z (by decide)) (fun _ => ?_)⟩
      refine ⟨_, rfl, rfl, _, rfl, ifd (fun z => absurd z (by decide)) (fun _ => ?_)⟩
      refine ⟨_, rfl, rfl, _, rfl, ifd (fun z => absurd z (by decide)) (fun _ => ?_)⟩
      refine ⟨_, rfl, rfl, _, rfl, ifd (fun z => absurd z (by decide)) (fun _ => ?_)⟩
      refine ⟨_, rfl, rfl, _, rfl, ifd (fun z => absurd z (by decide)) (fun _ => ?_)⟩
      refine ⟨_, rfl, rfl, _, rfl, ifd (fun z => absurd z (by decide)) (fun _ => ?_)⟩
      refine ⟨_, rfl, rfl, _, rfl, ifd (fun z => absurd z (by decide)) (fun _ => ?_)⟩
      refine ⟨_, rfl, rfl, _, rfl, ifd (fun _ => ?_) (fun z => absurd rfl z)⟩
      obtain ⟨rfl, rfl⟩ := call_00 sh hcall
      refine ⟨_, rfl, _, _, _, rfl, ha, Desk_m_slim, a, o, rfl, hd, fun g H1 s1 hd1 ng hg => k g H1 p hd1 (hr1.sbd hd s1) (Nat.le_refl _) hpl rfl hg, fun n en C H1 d hC s1 hd1 => kE C H1 d p n hC (hd.same s1) (hr1.same s1) (Nat.le_refl _) hpl rfl ?_ hd1⟩
      show ((Vahypz.step o .slim).1, VahypzNeutral.encode (Vahypz.step o .slim).2) = _
      rw [en]
      rfl
    · refine ⟨_, rfl, rfl, _, rfl, ifd (fun z => absurd z (by decide)) (fun _ => ?_)⟩
      refine ⟨_, rfl, rfl, _, rfl, ifd (fun z => absurd z (by decide)) (fun _ => ?_)⟩
      refine ⟨_, rfl, rfl, _, rfl, ifd (fun z => absurd z (by decide)) (fun _ => ?_)⟩
      refine ⟨_, rfl, rfl, _, rfl, ifd (fun z => absurd z (by decide)) (fun _ => ?_)⟩
      refine ⟨_, rfl, rfl, _, rfl, ifd (fun z => absurd z (by decide)) (fun _ => ?_)⟩
      refine ⟨_, rfl, rfl, _, rfl, ifd (fun z => absurd z (by decide)) (fun _ => ?_)⟩
      refine ⟨_, rfl, rfl, _, rfl, ifd (fun z => absurd z (by decide)) (fun _ => ?_)⟩
      refine ⟨_, rfl, rfl, _, rfl, ifd (fun z => absurd z (by decide)) (fun _ => ?_)⟩
      refine ⟨_, rfl, rfl, _, rfl, ifd (fun _ => ?_) (fun z => absurd rfl z)⟩
      obtain ⟨n, s7, hx, hn, rfl, rfl⟩ := call_01 sh hcall
      have hp1 : cs[p]? = some ((n : Nat) : Int) := by
        have := congrArg List.head? hx
        rw [List.head?_drop] at this
        exact this
      have es : s7 = cs.drop (p + 1) := by
        have := congrArg List.tail hx
        rw [List.tail_drop] at this
        exact this.symm
      subst es
      have hb := asked_row (.inr (.inr rfl)) hask
      rw [step_joint o (bytes_all hb.1).1] at k kE
      have hp2 : p < cs.length := (List.getElem?_eq_some_iff.mp hp1).1
      have hq : p + 1 + n ≤ cs.length := by rw [List.length_drop] at hn; omega
      have ht : cs.drop (p + 1 + n) = (cs.drop (p + 1)).drop n := by rw [List.drop_drop]
      refine ⟨_, rfl, _, _, _, rfl, ha, Desk_m_joint, _, rfl, _, _, _, rfl, hr2, CallReader_m_row, r, cs, p, n, rfl, hr1, hp1, hq, fun b H1 s1 hr4 hb1 => ?_⟩
      have hd1 := hd.sbr hr1 s1
      rw [vI_bytes hb.1] at hb1
      exact ⟨a, b, o, _, rfl, hd1, SqL.of hb1, by rw [bytes_len]; exact Nat.le_trans hb.2 (by decide), fun g H9 s9 hd9 ng hg => k g H9 (p + 1 + n) hd9 (hr4.sbd hd1 s9) (by omega) (by omega) ht hg, fun n9 en C H9 d hC s9 hd9 => kE C H9 d (p + 1 + n) n9 hC (hd1.same s9) (hr4.same s9) (by omega) (by omega) ht (by show ((Vahypz.step o (.joint (VahypzNeutral.bytesOf ((cs.drop (p + 1)).take n)))).1, VahypzNeutral.encode (Vahypz.step o (.joint (VahypzNeutral.bytesOf ((cs.drop (p + 1)).take n)))).2) = _; rw [en]; rfl) hd9⟩
    · refine ⟨_, rfl, rfl, _, rfl, ifd (fun z => absurd z (by decide)) (fun _ => ?_)⟩
      refine ⟨_, rfl, rfl, _, rfl, ifd (fun z => absurd z (by decide)) (fun _ => ?_)⟩
      refine ⟨_, rfl, rfl, _, rfl, ifd (fun z => absurd z (by decide)) (fun _ => ?_)⟩
      refine ⟨_, rfl, rfl, _, rfl, ifd (fun z => absurd z (by decide)) (fun _ => ?_)⟩
      refine ⟨_, rfl, rfl, _, rfl, ifd (fun z => absurd z (by decide)) (fun _ => ?_)⟩
      refine ⟨_, rfl, rfl, _, rfl, ifd (fun z => absurd z (by decide)) (fun _ => ?_)⟩
      refine ⟨_, rfl, rfl, _, rfl, ifd (fun z => absurd z (by decide)) (fun _ => ?_)⟩
      refine ⟨_, rfl, rfl, _, rfl, ifd (fun z => absurd z (by decide)) (fun _ => ?_)⟩
      refine ⟨_, rfl, rfl, _, rfl, ifd (fun z => absurd z (by decide)) (fun _ => ?_)⟩
      obtain ⟨y, n, s7, hx, hn, rfl, rfl⟩ := call_11 sh hcall
      have hp1 : cs[p]? = some y := by
        have := congrArg List.head? hx
        rw [List.head?_drop] at this
        exact this
      have ht1 : cs.drop (p + 1) = ((n : Nat) : Int) :: s7 := by
        have := congrArg List.tail hx
        rw [List.tail_drop] at this
        exact this
      have hp3 : cs[p + 1]? = some ((n : Nat) : Int) := by
        have := congrArg List.head? ht1
        rw [List.head?_drop] at this
        exact this
      have es : s7 = cs.drop (p + 1 + 1) := by
        have := congrArg List.tail ht1
        rw [List.tail_drop] at this
        exact this.symm
      subst es
      have hb := asked_num_row hask
      rw [step_break o y (bytes_all hb.1).1] at k kE
      have hp2 : p + 1 < cs.length := (List.getElem?_eq_some_iff.mp hp3).1
      have hq : p + 1 + 1 + n ≤ cs.length := by rw [List.length_drop] at hn; omega
      have ht : cs.drop (p + 1 + 1 + n) = (cs.drop (p + 1 + 1)).drop n := by rw [List.drop_drop]
      refine ⟨_, rfl, _, _, _, rfl, hr2, CallReader_m_number, r, cs, p, y, rfl, hr1, hp1, fun H1 s1 hr4 => ?_⟩
      have hd1 := hd.sbr hr1 s1
      obtain ⟨rx5, ca5, hr5, hr6⟩ := id hr4
      obtain ⟨dx1, v1, ha1, hv1⟩ := id hd1
      refine ⟨_, rfl, _, _, _, rfl, ha1, Desk_m_break_line, _, rfl, _, rfl, _, _, _, rfl, hr5, CallReader_m_row, r, cs, p + 1, n, rfl, hr4, hp3, hq, fun b H2 s2 hr7 hb1 => ?_⟩
      have hd2 := hd1.sbr hr4 s2
      rw [vI_bytes hb.1] at hb1
      exact ⟨a, b, o, y, _, rfl, hd2, SqL.of hb1, by rw [bytes_len]; exact Nat.le_trans hb.2 (by decide), fun g H9 s9 hd9 ng hg => k g H9 (p + 1 + 1 + n) hd9 (hr7.sbd hd2 s9) (by omega) (by omega) ht hg, fun n9 en C H9 d hC s9 hd9 => kE C H9 d (p + 1 + 1 + n) n9 hC (hd2.same s9) (hr7.same s9) (by omega) (by omega) ht (by show ((Vahypz.step o (.break_ y (VahypzNeutral.bytesOf ((cs.drop (p + 1 + 1)).take n)))).1, VahypzNeutral.encode (Vahypz.step o (.break_ y (VahypzNeutral.bytesOf ((cs.drop (p + 1 + 1)).take n)))).2) = _; rw [en]; rfl) hd9⟩
end
end PwX

/-! ## PwD29 -/
namespace PwX
open PySem PySem.Spec PyProof.Rows L2
open VahypBase Vahypa Pw
section
variable {K : PySem.W.Frag} {mg : Str → Option Value}
theorem exm_ref (T : PEnv K mg) {C : Addr} (h : IsRef T C) : PySem.W.exmOne K (.ref C) (.ref T.Refusal.C) = some true := by
  rcases h with rfl | rfl | rfl | rfl | rfl
  · exact T.x_NoList
  · exact T.x_NoSuchNumber
  · exact T.x_NoSuchLine
  · exact T.x_NotAsTold
  · exact T.x_TooMany
theorem ref_exc (T : PEnv K mg) {C : Addr} (h : IsRef T C) : ∃ fI, ExcC K C fI := by
  rcases h with rfl | rfl | rfl | rfl | rfl
  · exact ⟨_, T.NoList_T⟩
  · exact ⟨_, T.NoSuchNumber_T⟩
  · exact ⟨_, T.NoSuchLine_T⟩
  · exact ⟨_, T.NotAsTold_T⟩
  · exact ⟨_, T.TooMany_T⟩

def sp_answers (T : PEnv K mg) : Sp := fun vs H Q _ => ∃ (ca : Addr) (l : List Int), vs = [.ref ca] ∧ SqL K H ca (vI l) ∧ PyVahypz.answers_asked l = true ∧ ∀ A H', H' A = some (.lst (vI (PyVahypz.answers l))) → Q (.ref A) H'
theorem sc_answers : FnScope ["calls", "desk", "reader", "answered", "call", "answer", "refusal"] ["calls"] (defScope s_answers) := ⟨rfl, rfl, rfl, by decide +kernel, rfl, by decide +kernel, by decide +kernel⟩
theorem ok_answers (T : PEnv K mg) {P : Program} {w : World} {base : Heap} : FnOk P w K mg base CX0 10 T.answers.f T.answers.fd ["calls"] (sp_answers T) := by
  refine T.answers.F.ok sc_answers (fun vs H Q E h => ?_) (fun cdv A outer s H vs Q E hr h => ?_)
  · obtain ⟨ca, l, rfl, _⟩ := h
    rfl
  · obtain ⟨ca, l, rfl, hca, hask, k⟩ := h
    refine ⟨_, (pss_cons (ps_set (i := 1) sc_answers.nd rfl (Or.inl rfl) (pe_make0 T.Desk_mk (ok_Desk_init T) (hr.mono (by decide)) rfl T.Desk.g T.Desk_init.b .nil pass0))
      (pss_cons (ps_set (i := 2) sc_answers.nd rfl (Or.inl rfl) (pe_make T.CallReader_mk (ok_CallReader_init T) (hr.mono (by decide)) rfl T.CallReader.g T.CallReader_init.b .nil pass0 (pa_cons (pv 0) pa_nil)))
      (pss_cons (ps_set (i := 3) sc_answers.nd rfl (Or.inl rfl) (pe_lst pa_nil))
      (pss_cons (ps_while PassesOwn.never (pt_not (pt_val (pe_meth0 (pv 2) T.CallReader.cl T.CallReader_is_done.at_ (ok_CallReader_is_done T) (hr.mono (by decide)) T.CallReader_is_done.b .nil pass0)))
        (pss_cons (ps_set (i := 4) sc_answers.nd rfl (Or.inl rfl) (pe_meth0 (pv 2) T.CallReader.cl T.CallReader_number.at_ (FnOk.hide0 (ok_CallReader_number T)) (hr.mono (by decide)) T.CallReader_number.b .nil pass0))
      (pss_cons (ps_try_as (i := 6) (tb := fun W => tAsg (tCallS (spHide (sp_answer_to T)) (WE W) (tCons (tVar 1) (tCons (tVar 4) (tCons (tVar 2) tNil)))) (gName 5)) (ts := fun a cls d => tAsg (tLst (tCons (tXF K "code" a cls d (tVar 6)) tNil)) (gName 5)) (Wout := fun _ _ _ _ => False) (c := .ref T.Refusal.C) rfl rfl sc_answers.nd rfl rfl ⟨rfl, by decide, Or.inl T.Refusal.g⟩ takes0
        (fun W pn xe tk _ => (pss_one (ps_set (i := 5) sc_answers.nd rfl (Or.inl rfl) (by exact (pe_callS (FnOk.hide (ok_answer_to T)) (hr.mono (by decide)) rfl T.answer_to.g T.answer_to.F.kp T.answer_to.b (fun σ => passAt tk σ) (by exact (pa_cons (pv 1) (pa_cons (pv 4) (pa_cons (pv 2) pa_nil)))))))))
        (fun a oe cls d pn hz hf => (pss_one (ps_set (i := 5) sc_answers.nd rfl (Or.inl rfl) (by exact (pe_lst (pa_cons (pe_xf hz hf (pv 6)) pa_nil)))))))
      (pss_cons (ps_expr (pe_bm PySem.F.plainAttrs_list PySem.F.slot_list_append PySem.F.type_list_append mt_append (pv 3) (pa_cons (pe_callB call_len (by rfl) T.b_len (by decide +kernel) (pa_cons (pv 5) pa_nil)) pa_nil)))
      (pss_one (ps_expr (pe_bm PySem.F.plainAttrs_list PySem.F.slot_list_extend PySem.F.type_list_extend mt_extend (pv 3) (pa_cons (pv 5) pa_nil))))))))
      (pss_one (ps_ret (pv 3))))))), ?_⟩
    obtain ⟨play, hmax⟩ := PlayAt.start hask
    intro a dd na ndd hne
    have s0 : Same H (upd (upd H dd (.own a)) a (.ins T.Desk.C dd [])) := same_updO (same_upd ndd) na
    refine ⟨a, dd, rfl, upd_same, fun H1 h1 s1 => ⟨rfl, ?_⟩⟩
    have sH1 : Same H H1 := same_sb s0 na s1
    refine ⟨_, rfl, ?_⟩
    intro r dr nr ndr hne2
    have s00 : Same H1 (upd (upd H1 dr (.own r)) r (.ins T.CallReader.C dr [])) := same_updO (same_upd ndr) nr
    refine ⟨r, dr, ca, rfl, upd_same, fun H2 h2 s2 => ⟨rfl, ?_⟩⟩
    have sH2 : Same H1 H2 := same_sb s00 nr s2
    refine ⟨Nat.zero_le _, fun A hA => ?_⟩
    refine ⟨fun m σ H' => ∃ p o out u v, σ = [some (.ref ca), some (.ref a), some (.ref r), some (.ref A), u, v, none] ∧ H' A = some (.lst (vI out)) ∧ DeskAt T (del H' A) a o ∧ RdC T (del H' A) r l p ∧ PlayAt l p o out ∧ m = l.length - p, ⟨_, 0, none, [], none, none, rfl, upd_same, ?_, ?_, play, rfl⟩, ?_⟩
    · rw [del_upd hA]
      exact ⟨dd, _, sH2 _ _ h1, rfl⟩
    · rw [del_upd hA]
      exact ⟨dr, ca, h2, sq_same hca (sH1.trans sH2)⟩
    rintro m σ H3 ⟨p, o, out, u, v, rfl, hA3, hd3, hr3, pl, rfl⟩
    have hr3' := hr3.same same_del
    obtain ⟨rx, rc, hrr, _⟩ := id hr3'
    have hpl := pl.1
    refine ⟨_, rfl, _, _, _, rfl, hrr, CallReader_m_is_done, r, l, p, rfl, hr3', _, rfl, ?_⟩
    by_cases hp : l.length ≤ p
    · rw [decide_eq_true hp]
      refine iteF ⟨_, rfl, k A H3 ?_⟩
      rw [hA3, pl.stop hp]
    rw [decide_eq_false hp]
    have hp2 : p < l.length := by omega
    obtain ⟨raw, t, hcall, hask1, hlen0, hnext⟩ := pl.next hp2
    have hlen := Nat.le_trans hlen0 hmax
    clear hlen0
    refine iteT ⟨_, fun _ _ h => h, ?_⟩
    refine ⟨_, rfl, _, _, _, rfl, hrr, CallReader_m_number, A, vI out, hA3, r, l, p, l[p], rfl, hr3, List.getElem?_eq_getElem hp2, fun H4 s4 hr4 hn4 => ?_⟩
    have hd4 := hd3.sbr hr3 s4
    refine ⟨_, rfl, _, rfl, _, rfl, A, vI out, upd_same, ?_⟩
    rw [del_upd hn4]
    refine ⟨a, r, o, l, p + 1, l[p], raw, t, rfl, hd4, hr4, hcall, hask1, by omega, fun g H5 q hd5 hr5 hq hq2 ht hg hn5 => ?_, fun C H5 d q n hC hd5 hr5 hq hq2 ht en hx hn5 => ?_⟩
    · have hgA : g ≠ A := ne_of_none hg hn5
      have hA3 : upd H5 A (.lst (vI out)) A = some (.lst (vI out)) := upd_same
      have hg3 : upd H5 A (.lst (vI out)) g = some (.lst (vI (nstep o raw).2)) := by rw [upd_ne hgA]; exact hg
      have hD3 : DeskAt T (del (upd H5 A (.lst (vI out))) A) a (nstep o raw).1 := by rw [del_upd hn5]; exact hd5
      have hR3 : RdC T (del (upd H5 A (.lst (vI out))) A) r l q := by rw [del_upd hn5]; exact hr5
      generalize upd H5 A (.lst (vI out)) = H6 at *
      refine ⟨_, rfl, .inl ⟨rfl, _, SqL.of hA3⟩, _, rfl, _, _, rfl, .inl ⟨_, SqL.of hg3, rfl⟩, _, _, _, rfl, rfl, hA3, ?_, ?_⟩
      · rw [vI_length]
        exact Nat.lt_of_le_of_lt (show out.length ≤ 10000000 by simp only [List.length_append, List.length_cons] at hlen; omega) (by decide)
      refine ⟨_, rfl, .inl ⟨rfl, _, SqL.of upd_same⟩, _, rfl, A, g, _, _, rfl, rfl, upd_same, by rw [upd_ne hgA]; exact hg3, ?_, ?_⟩
      · rw [List.length_append, vI_length, vI_length]
        exact Nat.le_trans (show out.length + 1 + (nstep o raw).2.length ≤ 10000000 by simp only [List.length_append, List.length_cons] at hlen; omega) (by decide)
      refine ⟨_, ?_, q, _, out ++ (((nstep o raw).2.length : Int) :: (nstep o raw).2), _, _, rfl, ?_, ?_, ?_, hnext q hq hq2 ht, rfl⟩
      · omega
      · rw [upd_same, vI_length]
        simp [vI]
      · rw [del_upd2, del_upd2]
        exact hD3
      · rw [del_upd2, del_upd2]
        exact hR3
    · obtain ⟨fI, hexc⟩ := ref_exc T hC
      have hdA : d ≠ A := ne_of_none hx hn5
      refine ⟨true, exm_ref T hC, fun _ ea hea => ?_, fun z => by cases z⟩
      refine ⟨_, rfl, rfl, C, fI, d, _, _, rfl, hexc, hexc.nc, rfl, by rw [upd_ne hdA]; exact hx, lk_here, Nat.le_of_ble_eq_true rfl, fun g hg0 => ?_⟩
      have hgA : g ≠ A := by
        rintro rfl
        rw [upd_same] at hg0
        cases hg0
      have hA3 : upd (upd H5 A (.lst (vI out))) g (.lst [.int n]) A = some (.lst (vI out)) := by rw [upd_ne hgA.symm]; exact upd_same
      have hg3 : upd (upd H5 A (.lst (vI out))) g (.lst [.int n]) g = some (.lst (vI [n])) := upd_same
      have hg5 : H5 g = none := by rw [upd_ne hgA] at hg0; exact hg0
      have e5 : del (upd (upd H5 A (.lst (vI out))) g (.lst [.int n])) A = upd H5 g (.lst [.int n]) := by rw [del_upd_ne hgA, del_upd hn5]
      have hD3 : DeskAt T (del (upd (upd H5 A (.lst (vI out))) g (.lst [.int n])) A) a o := by rw [e5]; exact hd5.same (same_upd hg5)
      have hR3 : RdC T (del (upd (upd H5 A (.lst (vI out))) g (.lst [.int n])) A) r l q := by rw [e5]; exact hr5.same (same_upd hg5)
      rw [en] at hlen hnext
      generalize upd (upd H5 A (.lst (vI out))) g (.lst [.int n]) = H6 at *
      refine ⟨_, rfl, .inl ⟨rfl, _, SqL.of hA3⟩, _, rfl, _, _, rfl, .inl ⟨_, SqL.of hg3, rfl⟩, _, _, _, rfl, rfl, hA3, ?_, ?_⟩
      · rw [vI_length]
        exact Nat.lt_of_le_of_lt (show out.length ≤ 10000000 by simp only [List.length_append, List.length_cons] at hlen; omega) (by decide)
      refine ⟨_, rfl, .inl ⟨rfl, _, SqL.of upd_same⟩, _, rfl, A, g, _, _, rfl, rfl, upd_same, by rw [upd_ne hgA]; exact hg3, ?_, ?_⟩
      · rw [List.length_append, vI_length, vI_length]
        exact Nat.le_trans (show out.length + 1 + [n].length ≤ 10000000 by simp only [List.length_append, List.length_cons] at hlen; omega) (by decide)
      refine ⟨_, ?_, q, _, out ++ (([n].length : Int) :: [n]), _, _, rfl, ?_, ?_, ?_, hnext q hq hq2 ht, rfl⟩
      · omega
      · rw [upd_same, vI_length]
        simp [vI]
      · rw [del_upd2, del_upd2]
        exact hD3
      · rw [del_upd2, del_upd2]
        exact hR3
end
end PwX

/-! ## PwFin -/
namespace PwX
open PySem PySem.W PySem.Calls PyProof.Rows L2 HeadRun
theorem and_l {a b : Bool} (h : (a && b) = true) : a = true := (Bool.and_eq_true_iff.mp h).1
theorem and_r {a b : Bool} (h : (a && b) = true) : b = true := (Bool.and_eq_true_iff.mp h).2
section
variable {K : Frag}
theorem excOb_of {C : Addr} (h : excObB K C = true) : ∃ nm q N bs bm sn sub ab col dd k0 k1 k2 k3 k5, K.lookup C = some (excClassObj nm q C N bs bm true sn sub ab col dd k0 k1 k2 k3 k5 "Exception.__new__") ∧ excTail exB bm = true := by
  unfold excObB at h
  split at h
  · rename_i dd cd sl e
    split at h
    · rename_i C' bm k0 k1 k2 k3 n k5 e1 e2
      have h1 := and_l (and_l (and_l (and_l h)))
      have h2 := and_r (and_l (and_l (and_l h)))
      have h3 := and_r (and_l (and_l h))
      have h4 := and_r (and_l h)
      have h5 := and_r h
      obtain ⟨nm, bs, mro, N, q, hd, sn, sub, ab, col, hdel⟩ := cd
      dsimp only at e1 h3 h4
      have h6 : hdel = false := by simpa using h4
      have e3 : C' = C := eq_of_beq h1
      have e4 : n = "Exception.__new__" := eq_of_beq h2
      subst e1 h3 h6 e3 e4
      refine ⟨nm, q, N, bs, bm, sn, sub, ab, col, dd, k0, k1, k2, k3, k5, ?_, h5⟩
      rw [e]
      have e5 : sl = #[k0, k1, k2, k3, some (.builtin "Exception.__new__"), k5] := by
        rw [← e2]
      rw [e5]
    · cases h
  · cases h
theorem exc_of {x : Str} (h : excB K x = true) : ExcC K (He.ga K x) (He.ma K (He.ga K x) "__init__") := by
  unfold excB at h
  dsimp only at h
  have h1 := and_r h
  have h2 := and_r h1
  have h3 := and_r h2
  have h4 := and_r h3
  have h5 := and_r h4
  have h6 := and_r h5
  have h7 := and_r h6
  have h8 := and_r h7
  have h9 := and_r h8
  have h10 := and_r h9
  exact ⟨excOb_of (and_l h), He.eqO_ok (and_l h1), He.eqO_ok (and_l h2), He.eqO_ok (and_l h3), He.eqO_ok (and_l h4), He.eqO_ok (and_l h5), He.eqO_ok (and_l h6), of_decide_eq_true (and_l h7), and_l h8, of_decide_eq_true (and_l h9), of_decide_eq_true (and_l h10), and_r h10⟩
theorem isk_of {x y : Str} {b : Bool} (h : iskB K x y b = true) : IsK K (He.ga K x) (He.ga K y) b := by
  unfold iskB at h
  dsimp only at h
  have h1 := and_r h
  have h2 := and_r h1
  have h3 := and_r h2
  exact ⟨He.eqO_ok (and_l h), He.eqO_ok (and_l h1), of_decide_eq_true (and_l h2), of_decide_eq_true (and_l h3), of_decide_eq_true (and_r h3)⟩
theorem strs_of : ∀ {us : List Value} {bs : List Str}, strsB us bs = true → Vals (bs.map V.str) us
  | [], [], _ => .nil
  | [], _ :: _, h => by cases h
  | u :: us, [], h => by cases u <;> cases h
  | u :: us, b :: bs, h => by
    cases u with
    | str a t =>
      have h' : (decide (a = b) && strsB us bs) = true := h
      have e := of_decide_eq_true (and_l h')
      subst e
      exact .cons ⟨t, rfl⟩ (strs_of (and_r h'))
    | _ => cases h
theorem refR_of (h : refRB K = true) : findCls K (.type "Exception") (.type "type") "__init__" = some (.val (.builtin "Exception.__init__")) := by
  unfold refRB at h
  split at h
  · rename_i n e
    rw [e, eq_of_beq h]
  · cases h
theorem refV_of (h : refVB K = true) : findCls K (.ref (He.ga K "Refusal")) (.type "type") "__init__" = some (.val (.ref (He.ma K (He.ga K "Refusal") "__init__"))) := by
  unfold refVB at h
  split at h
  · rename_i n e
    rw [e, eq_of_beq h]
  · cases h
theorem tup_of {h0 : Heap} {mg : Str → Option Value} (X : K.In h0) (G : h0.Ns mainGlobals mg) {x : Str} {bs : List Str} (h : tupB K x bs = true) (hl : bs.length ≤ sizeLine) : mg x = some (.ref (He.ga K x)) ∧ ∀ H : Hp, SqT K H (He.ga K x) (bs.map V.str) := by
  unfold tupB at h
  have h1 := and_r h
  refine ⟨mg_of X G (He.eqO_ok (and_l h)), fun H => .inr ?_⟩
  split at h1
  · rename_i its n sl e
    have v := strs_of h1
    have hs : its.size ≤ sizeLine := by
      have := v.length
      rw [List.length_map] at this
      have e2 : its.toList.length = its.size := by simp
      omega
    exact ⟨_, its, n, e, rfl, rfl, hs, v⟩
  · cases h1
theorem fun_of {x q : Str} {st : Stmt} {f : Addr} {fd : FuncData} (F : FunD K x q (defArgs st) (defBody st) (defScope st) [] [] f fd) : Fun K x q st f fd := by
  obtain ⟨oc, od, dV, kV, doc, pm, an, cdv, ct, osl, e1, e2, e3, e4, _⟩ := F.ex
  rcases e4 with ⟨_, e4⟩ | ⟨e4, _⟩
  · subst e4
    exact ⟨⟨oc, od, kV, doc, pm, an, cdv, ct, osl, e1, e2, e3⟩, F.kp⟩
  · exact absurd rfl e4
end
structure ExOk (K : Frag) : Prop where
  Refusal : excB K "Refusal" = true
  NoList : excB K "NoList" = true
  NoSuchNumber : excB K "NoSuchNumber" = true
  NoSuchLine : excB K "NoSuchLine" = true
  NotAsTold : excB K "NotAsTold" = true
  TooMany : excB K "TooMany" = true
  Fault : excB K "Fault" = true
  refR : refRB K = true
  refD : readsIn K (He.ga K "Refusal") (.type "type") = true
  refG : specialIn K (.ref (He.ga K "Refusal")) "__getattribute__" = some (some (.builtin "type.__getattribute__"))
  refV : refVB K = true
  kWord : iskB K "Word" "Word" true = true
  kPattern : iskB K "Pattern" "Word" false = true
  margs : tupB K "MARGINS_list_texts" mgs = true
theorem exOk_of {K : Frag} (h : ex K = true) : ExOk K := by
  unfold ex at h
  have a1 := and_l h
  have b1 := and_r h
  have b2 := and_r b1
  have b3 := and_r b2
  have b4 := and_r b3
  have b5 := and_r b4
  have b6 := and_r b5
  exact ⟨(and_l (and_l (and_l (and_l (and_l (and_l (a1))))))), and_r (and_l (and_l (and_l (and_l (and_l (a1)))))), and_r (and_l (and_l (and_l (and_l (a1))))), and_r (and_l (and_l (and_l (a1)))), and_r (and_l (and_l (a1))), and_r (and_l (a1)), and_r (a1), and_l b1, and_l b2, He.eqO_ok (and_l b3), and_l b4, and_l b5, and_l b6, and_r b6⟩
section
variable {K : Frag} {mg : Str → Option Value}
noncomputable def gm {C f : Addr} {m q : Str} {st : Stmt} {ps : List Str} (h : ∃ fd, FunD K m q (defArgs st) (defBody st) (defScope st) [] [] f fd) (hm : Meth K C m f)
    (hb : ∀ (kV doc pm : Value) (an : Option Addr) (cdv ct : Value) (us : List Value), us.length = ps.length → bindArgs (fnOf m q (defArgs st) (defBody st) (defScope st) .none kV doc pm an cdv ct) { pos := us } = pure (ps.zip us)) : GM K C m q st ps :=
  ⟨f, h.choose, fun_of h.choose_spec, FunD.bindsN h.choose_spec hb, hm⟩
noncomputable def gd {f : Addr} {x : Str} {st : Stmt} {ps : List Str} (h : ∃ fd, FunD K x x (defArgs st) (defBody st) (defScope st) [] [] f fd) (hg : mg x = some (.ref f))
    (hb : ∀ (kV doc pm : Value) (an : Option Addr) (cdv ct : Value) (us : List Value), us.length = ps.length → bindArgs (fnOf x x (defArgs st) (defBody st) (defScope st) .none kV doc pm an cdv ct) { pos := us } = pure (ps.zip us)) : GD K mg x st ps :=
  ⟨f, h.choose, fun_of h.choose_spec, FunD.bindsN h.choose_spec hb, hg⟩
noncomputable def penv {h0 : Heap} (X : K.In h0) (G : h0.Ns mainGlobals mg) (c : He.SaysD fa fn K) (hx : ExOk K) : PEnv K mg where
  b_len := He.free_ok X G (c.fact 0 rfl)
  b_all := He.free_ok X G (c.fact 1 rfl)
  b_ord := He.free_ok X G (c.fact 2 rfl)
  b_str := He.free_ok X G (c.fact 3 rfl)
  b_int := He.free_ok X G (c.fact 4 rfl)
  b_list := He.free_ok X G (c.fact 5 rfl)
  b_max := He.free_ok X G (c.fact 6 rfl)
  b_sum := He.free_ok X G (c.fact 7 rfl)
  b_range := He.free_ok X G (c.fact 8 rfl)
  b_enumerate := He.free_ok X G (c.fact 9 rfl)
  b_isinstance := He.free_ok X G (c.fact 10 rfl)
  b_Exception := He.free_ok X G (c.fact 11 rfl)
  c_TEXT_TOO_LONG := ⟨_, (He.int_ok X G (c.fact 12 rfl)).choose_spec⟩
  c_NO_TOKEN := ⟨_, (He.int_ok X G (c.fact 13 rfl)).choose_spec⟩
  c_NOT_ALLOWED_HERE := ⟨_, (He.int_ok X G (c.fact 14 rfl)).choose_spec⟩
  c_ONE_TOO_MANY := ⟨_, (He.int_ok X G (c.fact 15 rfl)).choose_spec⟩
  c_TOLD_BEFORE := ⟨_, (He.int_ok X G (c.fact 16 rfl)).choose_spec⟩
  c_CHUNK_NOT_AS_TOLD := ⟨_, (He.int_ok X G (c.fact 17 rfl)).choose_spec⟩
  c_LINE_END := ⟨_, (He.int_ok X G (c.fact 18 rfl)).choose_spec⟩
  c_REMARK := ⟨_, (He.int_ok X G (c.fact 19 rfl)).choose_spec⟩
  c_SEMICOLON := ⟨_, (He.int_ok X G (c.fact 20 rfl)).choose_spec⟩
  c_SMALL_LETTERS := ⟨_, (He.str_ok X G (c.fact 21 rfl)).choose_spec⟩
  c_DIGITS := ⟨_, (He.str_ok X G (c.fact 22 rfl)).choose_spec⟩
  c_FEWEST_LETTERS_OF_WORD := ⟨_, (He.int_ok X G (c.fact 23 rfl)).choose_spec⟩
  c_MOST_LETTERS_OF_WORD := ⟨_, (He.int_ok X G (c.fact 24 rfl)).choose_spec⟩
  c_MOST_LETTERS_OF_PATTERN := ⟨_, (He.int_ok X G (c.fact 25 rfl)).choose_spec⟩
  c_PATTERN_DIGITS := ⟨_, (He.str_ok X G (c.fact 26 rfl)).choose_spec⟩
  c_MOST_WORDS := ⟨_, (He.int_ok X G (c.fact 27 rfl)).choose_spec⟩
  c_MOST_PATTERNS := ⟨_, (He.int_ok X G (c.fact 28 rfl)).choose_spec⟩
  c_LONGEST_CHUNK := ⟨_, (He.int_ok X G (c.fact 29 rfl)).choose_spec⟩
  c_TEXT_END := ⟨_, (He.str_ok X G (c.fact 30 rfl)).choose_spec⟩
  c_LINE_SIGN := ⟨_, (He.str_ok X G (c.fact 31 rfl)).choose_spec⟩
  c_LONGEST_TEXT := ⟨_, (He.int_ok X G (c.fact 32 rfl)).choose_spec⟩
  c_GREATEST_MARGIN := ⟨_, (He.int_ok X G (c.fact 33 rfl)).choose_spec⟩
  c_A_WORD := ⟨_, (He.int_ok X G (c.fact 34 rfl)).choose_spec⟩
  c_A_PATTERN := ⟨_, (He.int_ok X G (c.fact 35 rfl)).choose_spec⟩
  c_MOST_PLACES := ⟨_, (He.int_ok X G (c.fact 36 rfl)).choose_spec⟩
  c_LOAD := ⟨_, (He.int_ok X G (c.fact 37 rfl)).choose_spec⟩
  c_SHOWN := ⟨_, (He.int_ok X G (c.fact 38 rfl)).choose_spec⟩
  c_REPORT := ⟨_, (He.int_ok X G (c.fact 39 rfl)).choose_spec⟩
  c_MARGINS_patterns := ⟨_, (He.int_ok X G (c.fact 40 rfl)).choose_spec⟩
  c_PUT := ⟨_, (He.int_ok X G (c.fact 41 rfl)).choose_spec⟩
  c_DROP := ⟨_, (He.int_ok X G (c.fact 42 rfl)).choose_spec⟩
  c_NEEDLESS := ⟨_, (He.int_ok X G (c.fact 43 rfl)).choose_spec⟩
  c_SLIM := ⟨_, (He.int_ok X G (c.fact 44 rfl)).choose_spec⟩
  c_JOINT := ⟨_, (He.int_ok X G (c.fact 45 rfl)).choose_spec⟩
  margs := ⟨He.ga K "MARGINS_list_texts", (tup_of X G hx.margs (by decide)).1, (tup_of X G hx.margs (by decide)).2⟩
  Refusal := ⟨He.ga K "Refusal", He.glo_ok X G (c.fact 46 rfl)⟩
  Refusal_init := gm (c.def_ 0 rfl) (He.meth_ok (c.fact 47 rfl)) (fun _ _ _ _ _ _ us hl => match us, hl with | [_, _], _ => rfl)
  Refusal_T := exc_of (hx.Refusal)
  NoList := ⟨He.ga K "NoList", He.glo_ok X G (c.fact 48 rfl)⟩
  NoList_init := gm (c.def_ 1 rfl) (He.meth_ok (c.fact 49 rfl)) (fun _ _ _ _ _ _ us hl => match us, hl with | [_], _ => rfl)
  NoList_T := exc_of (hx.NoList)
  NoSuchNumber := ⟨He.ga K "NoSuchNumber", He.glo_ok X G (c.fact 50 rfl)⟩
  NoSuchNumber_init := gm (c.def_ 2 rfl) (He.meth_ok (c.fact 51 rfl)) (fun _ _ _ _ _ _ us hl => match us, hl with | [_], _ => rfl)
  NoSuchNumber_T := exc_of (hx.NoSuchNumber)
  NoSuchLine := ⟨He.ga K "NoSuchLine", He.glo_ok X G (c.fact 52 rfl)⟩
  NoSuchLine_init := gm (c.def_ 3 rfl) (He.meth_ok (c.fact 53 rfl)) (fun _ _ _ _ _ _ us hl => match us, hl with | [_], _ => rfl)
  NoSuchLine_T := exc_of (hx.NoSuchLine)
  NotAsTold := ⟨He.ga K "NotAsTold", He.glo_ok X G (c.fact 54 rfl)⟩
  NotAsTold_init := gm (c.def_ 4 rfl) (He.meth_ok (c.fact 55 rfl)) (fun _ _ _ _ _ _ us hl => match us, hl with | [_], _ => rfl)
  NotAsTold_T := exc_of (hx.NotAsTold)
  TooMany := ⟨He.ga K "TooMany", He.glo_ok X G (c.fact 56 rfl)⟩
  TooMany_init := gm (c.def_ 5 rfl) (He.meth_ok (c.fact 57 rfl)) (fun _ _ _ _ _ _ us hl => match us, hl with | [_], _ => rfl)
  TooMany_T := exc_of (hx.TooMany)
  Fault := ⟨He.ga K "Fault", He.glo_ok X G (c.fact 58 rfl)⟩
  Fault_init := gm (c.def_ 6 rfl) (He.meth_ok (c.fact 59 rfl)) (fun _ _ _ _ _ _ us hl => match us, hl with | [_, _, _], _ => rfl)
  Fault_T := exc_of (hx.Fault)
  Word := ⟨He.ga K "Word", He.glo_ok X G (c.fact 60 rfl), He.cls_ok (c.fact 61 rfl)⟩
  Word_n_letters := He.noat_ok (c.fact 62 rfl)
  Word_n_gaps := He.noat_ok (c.fact 63 rfl)
  Word_init := gm (c.def_ 7 rfl) (He.meth_ok (c.fact 64 rfl)) (fun _ _ _ _ _ _ us hl => match us, hl with | [_, _, _], _ => rfl)
  Word_mk := He.mkr_ok (c.fact 65 rfl)
  Pattern := ⟨He.ga K "Pattern", He.glo_ok X G (c.fact 66 rfl), He.cls_ok (c.fact 67 rfl)⟩
  Pattern_n_letters := He.noat_ok (c.fact 68 rfl)
  Pattern_n_at_front := He.noat_ok (c.fact 69 rfl)
  Pattern_n_at_end := He.noat_ok (c.fact 70 rfl)
  Pattern_n_digits := He.noat_ok (c.fact 71 rfl)
  Pattern_init := gm (c.def_ 8 rfl) (He.meth_ok (c.fact 72 rfl)) (fun _ _ _ _ _ _ us hl => match us, hl with | [_, _, _, _, _], _ => rfl)
  Pattern_mk := He.mkr_ok (c.fact 73 rfl)
  WordList := ⟨He.ga K "WordList", He.glo_ok X G (c.fact 74 rfl), He.cls_ok (c.fact 75 rfl)⟩
  WordList_n_left_margin := He.noat_ok (c.fact 76 rfl)
  WordList_n_right_margin := He.noat_ok (c.fact 77 rfl)
  WordList_n_words := He.noat_ok (c.fact 78 rfl)
  WordList_n_patterns := He.noat_ok (c.fact 79 rfl)
  WordList_init := gm (c.def_ 9 rfl) (He.meth_ok (c.fact 80 rfl)) (fun _ _ _ _ _ _ us hl => match us, hl with | [_, _, _, _, _], _ => rfl)
  WordList_mk := He.mkr_ok (c.fact 81 rfl)
  Token := ⟨He.ga K "Token", He.glo_ok X G (c.fact 82 rfl), He.cls_ok (c.fact 83 rfl)⟩
  Token_n_signs := He.noat_ok (c.fact 84 rfl)
  Token_n_place := He.noat_ok (c.fact 85 rfl)
  Token_init := gm (c.def_ 10 rfl) (He.meth_ok (c.fact 86 rfl)) (fun _ _ _ _ _ _ us hl => match us, hl with | [_, _, _], _ => rfl)
  Token_is_chunk := gm (c.def_ 11 rfl) (He.meth_ok (c.fact 87 rfl)) (fun _ _ _ _ _ _ us hl => match us, hl with | [_], _ => rfl)
  Token_mk := He.mkr_ok (c.fact 88 rfl)
  TextReader := ⟨He.ga K "TextReader", He.glo_ok X G (c.fact 89 rfl), He.cls_ok (c.fact 90 rfl)⟩
  TextReader_n_tokens := He.noat_ok (c.fact 91 rfl)
  TextReader_n_at := He.noat_ok (c.fact 92 rfl)
  TextReader_init := gm (c.def_ 12 rfl) (He.meth_ok (c.fact 93 rfl)) (fun _ _ _ _ _ _ us hl => match us, hl with | [_, _], _ => rfl)
  TextReader_token := gm (c.def_ 13 rfl) (He.meth_ok (c.fact 94 rfl)) (fun _ _ _ _ _ _ us hl => match us, hl with | [_], _ => rfl)
  TextReader_stands := gm (c.def_ 14 rfl) (He.meth_ok (c.fact 95 rfl)) (fun _ _ _ _ _ _ us hl => match us, hl with | [_, _], _ => rfl)
  TextReader_skip := gm (c.def_ 15 rfl) (He.meth_ok (c.fact 96 rfl)) (fun _ _ _ _ _ _ us hl => match us, hl with | [_], _ => rfl)
  TextReader_take := gm (c.def_ 16 rfl) (He.meth_ok (c.fact 97 rfl)) (fun _ _ _ _ _ _ us hl => match us, hl with | [_, _], _ => rfl)
  TextReader_take_end := gm (c.def_ 17 rfl) (He.meth_ok (c.fact 98 rfl)) (fun _ _ _ _ _ _ us hl => match us, hl with | [_], _ => rfl)
  TextReader_chunk := gm (c.def_ 18 rfl) (He.meth_ok (c.fact 99 rfl)) (fun _ _ _ _ _ _ us hl => match us, hl with | [_], _ => rfl)
  TextReader_mk := He.mkr_ok (c.fact 100 rfl)
  Standing := ⟨He.ga K "Standing", He.glo_ok X G (c.fact 101 rfl), He.cls_ok (c.fact 102 rfl)⟩
  Standing_n_hits := He.noat_ok (c.fact 103 rfl)
  Standing_n_faults := He.noat_ok (c.fact 104 rfl)
  Standing_n_misses := He.noat_ok (c.fact 105 rfl)
  Standing_init := gm (c.def_ 19 rfl) (He.meth_ok (c.fact 106 rfl)) (fun _ _ _ _ _ _ us hl => match us, hl with | [_, _, _, _], _ => rfl)
  Standing_is_exact := gm (c.def_ 20 rfl) (He.meth_ok (c.fact 107 rfl)) (fun _ _ _ _ _ _ us hl => match us, hl with | [_], _ => rfl)
  Standing_mk := He.mkr_ok (c.fact 108 rfl)
  Desk := ⟨He.ga K "Desk", He.glo_ok X G (c.fact 109 rfl), He.cls_ok (c.fact 110 rfl)⟩
  Desk_n_held := He.noat_ok (c.fact 111 rfl)
  Desk_init := gm (c.def_ 21 rfl) (He.meth_ok (c.fact 112 rfl)) (fun _ _ _ _ _ _ us hl => match us, hl with | [_], _ => rfl)
  Desk_held_list := gm (c.def_ 22 rfl) (He.meth_ok (c.fact 113 rfl)) (fun _ _ _ _ _ _ us hl => match us, hl with | [_], _ => rfl)
  Desk_load := gm (c.def_ 23 rfl) (He.meth_ok (c.fact 114 rfl)) (fun _ _ _ _ _ _ us hl => match us, hl with | [_, _], _ => rfl)
  Desk_shown := gm (c.def_ 24 rfl) (He.meth_ok (c.fact 115 rfl)) (fun _ _ _ _ _ _ us hl => match us, hl with | [_], _ => rfl)
  Desk_report := gm (c.def_ 25 rfl) (He.meth_ok (c.fact 116 rfl)) (fun _ _ _ _ _ _ us hl => match us, hl with | [_, _], _ => rfl)
  Desk_margins := gm (c.def_ 26 rfl) (He.meth_ok (c.fact 117 rfl)) (fun _ _ _ _ _ _ us hl => match us, hl with | [_], _ => rfl)
  Desk_change := gm (c.def_ 27 rfl) (He.meth_ok (c.fact 118 rfl)) (fun _ _ _ _ _ _ us hl => match us, hl with | [_, _], _ => rfl)
  Desk_put := gm (c.def_ 28 rfl) (He.meth_ok (c.fact 119 rfl)) (fun _ _ _ _ _ _ us hl => match us, hl with | [_, _], _ => rfl)
  Desk_drop := gm (c.def_ 29 rfl) (He.meth_ok (c.fact 120 rfl)) (fun _ _ _ _ _ _ us hl => match us, hl with | [_, _, _], _ => rfl)
  Desk_needless := gm (c.def_ 30 rfl) (He.meth_ok (c.fact 121 rfl)) (fun _ _ _ _ _ _ us hl => match us, hl with | [_], _ => rfl)
  Desk_slim := gm (c.def_ 31 rfl) (He.meth_ok (c.fact 122 rfl)) (fun _ _ _ _ _ _ us hl => match us, hl with | [_], _ => rfl)
  Desk_joint := gm (c.def_ 32 rfl) (He.meth_ok (c.fact 123 rfl)) (fun _ _ _ _ _ _ us hl => match us, hl with | [_, _], _ => rfl)
  Desk_break_line := gm (c.def_ 33 rfl) (He.meth_ok (c.fact 124 rfl)) (fun _ _ _ _ _ _ us hl => match us, hl with | [_, _, _], _ => rfl)
  Desk_mk := He.mkr_ok (c.fact 125 rfl)
  CallReader := ⟨He.ga K "CallReader", He.glo_ok X G (c.fact 126 rfl), He.cls_ok (c.fact 127 rfl)⟩
  CallReader_n_calls := He.noat_ok (c.fact 128 rfl)
  CallReader_n_at := He.noat_ok (c.fact 129 rfl)
  CallReader_init := gm (c.def_ 34 rfl) (He.meth_ok (c.fact 130 rfl)) (fun _ _ _ _ _ _ us hl => match us, hl with | [_, _], _ => rfl)
  CallReader_is_done := gm (c.def_ 35 rfl) (He.meth_ok (c.fact 131 rfl)) (fun _ _ _ _ _ _ us hl => match us, hl with | [_], _ => rfl)
  CallReader_number := gm (c.def_ 36 rfl) (He.meth_ok (c.fact 132 rfl)) (fun _ _ _ _ _ _ us hl => match us, hl with | [_], _ => rfl)
  CallReader_row := gm (c.def_ 37 rfl) (He.meth_ok (c.fact 133 rfl)) (fun _ _ _ _ _ _ us hl => match us, hl with | [_], _ => rfl)
  CallReader_mk := He.mkr_ok (c.fact 134 rfl)
  is_blank := gd (c.def_ 38 rfl) (He.glo_ok X G (c.fact 135 rfl)) (fun _ _ _ _ _ _ us hl => match us, hl with | [_], _ => rfl)
  is_small_letter := gd (c.def_ 39 rfl) (He.glo_ok X G (c.fact 136 rfl)) (fun _ _ _ _ _ _ us hl => match us, hl with | [_], _ => rfl)
  is_digit := gd (c.def_ 40 rfl) (He.glo_ok X G (c.fact 137 rfl)) (fun _ _ _ _ _ _ us hl => match us, hl with | [_], _ => rfl)
  is_hyphen := gd (c.def_ 41 rfl) (He.glo_ok X G (c.fact 138 rfl)) (fun _ _ _ _ _ _ us hl => match us, hl with | [_], _ => rfl)
  is_point := gd (c.def_ 42 rfl) (He.glo_ok X G (c.fact 139 rfl)) (fun _ _ _ _ _ _ us hl => match us, hl with | [_], _ => rfl)
  is_of_chunk := gd (c.def_ 43 rfl) (He.glo_ok X G (c.fact 140 rfl)) (fun _ _ _ _ _ _ us hl => match us, hl with | [_], _ => rfl)
  sign_of := gd (c.def_ 44 rfl) (He.glo_ok X G (c.fact 141 rfl)) (fun _ _ _ _ _ _ us hl => match us, hl with | [_], _ => rfl)
  signs_of := gd (c.def_ 45 rfl) (He.glo_ok X G (c.fact 142 rfl)) (fun _ _ _ _ _ _ us hl => match us, hl with | [_], _ => rfl)
  bytes_of := gd (c.def_ 46 rfl) (He.glo_ok X G (c.fact 143 rfl)) (fun _ _ _ _ _ _ us hl => match us, hl with | [_], _ => rfl)
  word_of := gd (c.def_ 47 rfl) (He.glo_ok X G (c.fact 144 rfl)) (fun _ _ _ _ _ _ us hl => match us, hl with | [_], _ => rfl)
  pattern_of := gd (c.def_ 48 rfl) (He.glo_ok X G (c.fact 145 rfl)) (fun _ _ _ _ _ _ us hl => match us, hl with | [_], _ => rfl)
  same_pattern := gd (c.def_ 49 rfl) (He.glo_ok X G (c.fact 146 rfl)) (fun _ _ _ _ _ _ us hl => match us, hl with | [_, _], _ => rfl)
  number_of_word := gd (c.def_ 50 rfl) (He.glo_ok X G (c.fact 147 rfl)) (fun _ _ _ _ _ _ us hl => match us, hl with | [_, _], _ => rfl)
  number_of_pattern := gd (c.def_ 51 rfl) (He.glo_ok X G (c.fact 148 rfl)) (fun _ _ _ _ _ _ us hl => match us, hl with | [_, _], _ => rfl)
  remark_end := gd (c.def_ 52 rfl) (He.glo_ok X G (c.fact 149 rfl)) (fun _ _ _ _ _ _ us hl => match us, hl with | [_, _], _ => rfl)
  chunk_end := gd (c.def_ 53 rfl) (He.glo_ok X G (c.fact 150 rfl)) (fun _ _ _ _ _ _ us hl => match us, hl with | [_, _], _ => rfl)
  tokens_of := gd (c.def_ 54 rfl) (He.glo_ok X G (c.fact 151 rfl)) (fun _ _ _ _ _ _ us hl => match us, hl with | [_], _ => rfl)
  read_margin := gd (c.def_ 55 rfl) (He.glo_ok X G (c.fact 152 rfl)) (fun _ _ _ _ _ _ us hl => match us, hl with | [_], _ => rfl)
  read_word := gd (c.def_ 56 rfl) (He.glo_ok X G (c.fact 153 rfl)) (fun _ _ _ _ _ _ us hl => match us, hl with | [_, _], _ => rfl)
  read_pattern := gd (c.def_ 57 rfl) (He.glo_ok X G (c.fact 154 rfl)) (fun _ _ _ _ _ _ us hl => match us, hl with | [_, _], _ => rfl)
  list_of := gd (c.def_ 58 rfl) (He.glo_ok X G (c.fact 155 rfl)) (fun _ _ _ _ _ _ us hl => match us, hl with | [_], _ => rfl)
  item_of := gd (c.def_ 59 rfl) (He.glo_ok X G (c.fact 156 rfl)) (fun _ _ _ _ _ _ us hl => match us, hl with | [_], _ => rfl)
  written_word := gd (c.def_ 60 rfl) (He.glo_ok X G (c.fact 157 rfl)) (fun _ _ _ _ _ _ us hl => match us, hl with | [_], _ => rfl)
  written_pattern := gd (c.def_ 61 rfl) (He.glo_ok X G (c.fact 158 rfl)) (fun _ _ _ _ _ _ us hl => match us, hl with | [_], _ => rfl)
  one_form := gd (c.def_ 62 rfl) (He.glo_ok X G (c.fact 159 rfl)) (fun _ _ _ _ _ _ us hl => match us, hl with | [_], _ => rfl)
  fits_at := gd (c.def_ 63 rfl) (He.glo_ok X G (c.fact 160 rfl)) (fun _ _ _ _ _ _ us hl => match us, hl with | [_, _, _], _ => rfl)
  fitting_places := gd (c.def_ 64 rfl) (He.glo_ok X G (c.fact 161 rfl)) (fun _ _ _ _ _ _ us hl => match us, hl with | [_, _], _ => rfl)
  levels_of := gd (c.def_ 65 rfl) (He.glo_ok X G (c.fact 162 rfl)) (fun _ _ _ _ _ _ us hl => match us, hl with | [_, _], _ => rfl)
  gaps_within := gd (c.def_ 66 rfl) (He.glo_ok X G (c.fact 163 rfl)) (fun _ _ _ _ _ _ us hl => match us, hl with | [_, _, _], _ => rfl)
  parted_gaps := gd (c.def_ 67 rfl) (He.glo_ok X G (c.fact 164 rfl)) (fun _ _ _ _ _ _ us hl => match us, hl with | [_, _], _ => rfl)
  standing_of := gd (c.def_ 68 rfl) (He.glo_ok X G (c.fact 165 rfl)) (fun _ _ _ _ _ _ us hl => match us, hl with | [_, _], _ => rfl)
  standings := gd (c.def_ 69 rfl) (He.glo_ok X G (c.fact 166 rfl)) (fun _ _ _ _ _ _ us hl => match us, hl with | [_], _ => rfl)
  with_margins := gd (c.def_ 70 rfl) (He.glo_ok X G (c.fact 167 rfl)) (fun _ _ _ _ _ _ us hl => match us, hl with | [_, _, _], _ => rfl)
  margins_tried := gd (c.def_ 71 rfl) (He.glo_ok X G (c.fact 168 rfl)) (fun _ _ _ _ _ _ us hl => match us, hl with | [_], _ => rfl)
  with_words := gd (c.def_ 72 rfl) (He.glo_ok X G (c.fact 169 rfl)) (fun _ _ _ _ _ _ us hl => match us, hl with | [_, _], _ => rfl)
  with_patterns := gd (c.def_ 73 rfl) (He.glo_ok X G (c.fact 170 rfl)) (fun _ _ _ _ _ _ us hl => match us, hl with | [_, _], _ => rfl)
  replaced_or_added := gd (c.def_ 74 rfl) (He.glo_ok X G (c.fact 171 rfl)) (fun _ _ _ _ _ _ us hl => match us, hl with | [_, _, _], _ => rfl)
  with_item := gd (c.def_ 75 rfl) (He.glo_ok X G (c.fact 172 rfl)) (fun _ _ _ _ _ _ us hl => match us, hl with | [_, _], _ => rfl)
  without_word := gd (c.def_ 76 rfl) (He.glo_ok X G (c.fact 173 rfl)) (fun _ _ _ _ _ _ us hl => match us, hl with | [_, _], _ => rfl)
  without_pattern := gd (c.def_ 77 rfl) (He.glo_ok X G (c.fact 174 rfl)) (fun _ _ _ _ _ _ us hl => match us, hl with | [_, _], _ => rfl)
  is_touched := gd (c.def_ 78 rfl) (He.glo_ok X G (c.fact 175 rfl)) (fun _ _ _ _ _ _ us hl => match us, hl with | [_, _, _], _ => rfl)
  touched_words := gd (c.def_ 79 rfl) (He.glo_ok X G (c.fact 176 rfl)) (fun _ _ _ _ _ _ us hl => match us, hl with | [_, _], _ => rfl)
  partings := gd (c.def_ 80 rfl) (He.glo_ok X G (c.fact 177 rfl)) (fun _ _ _ _ _ _ us hl => match us, hl with | [_], _ => rfl)
  needless_patterns := gd (c.def_ 81 rfl) (He.glo_ok X G (c.fact 178 rfl)) (fun _ _ _ _ _ _ us hl => match us, hl with | [_], _ => rfl)
  slim_once := gd (c.def_ 82 rfl) (He.glo_ok X G (c.fact 179 rfl)) (fun _ _ _ _ _ _ us hl => match us, hl with | [_, _], _ => rfl)
  made_slim := gd (c.def_ 83 rfl) (He.glo_ok X G (c.fact 180 rfl)) (fun _ _ _ _ _ _ us hl => match us, hl with | [_], _ => rfl)
  joints_of := gd (c.def_ 84 rfl) (He.glo_ok X G (c.fact 181 rfl)) (fun _ _ _ _ _ _ us hl => match us, hl with | [_, _], _ => rfl)
  parted_as_two := gd (c.def_ 85 rfl) (He.glo_ok X G (c.fact 182 rfl)) (fun _ _ _ _ _ _ us hl => match us, hl with | [_, _, _], _ => rfl)
  break_of := gd (c.def_ 86 rfl) (He.glo_ok X G (c.fact 183 rfl)) (fun _ _ _ _ _ _ us hl => match us, hl with | [_, _, _], _ => rfl)
  letters_of := gd (c.def_ 87 rfl) (He.glo_ok X G (c.fact 184 rfl)) (fun _ _ _ _ _ _ us hl => match us, hl with | [_], _ => rfl)
  check_number := gd (c.def_ 88 rfl) (He.glo_ok X G (c.fact 185 rfl)) (fun _ _ _ _ _ _ us hl => match us, hl with | [_, _], _ => rfl)
  answer_to := gd (c.def_ 89 rfl) (He.glo_ok X G (c.fact 186 rfl)) (fun _ _ _ _ _ _ us hl => match us, hl with | [_, _, _], _ => rfl)
  answers := gd (c.def_ 90 rfl) (He.glo_ok X G (c.fact 187 rfl)) (fun _ _ _ _ _ _ us hl => match us, hl with | [_], _ => rfl)
  refR := refR_of hx.refR
  refD := hx.refD
  refG := hx.refG
  refV := refV_of hx.refV
  x_NoList := He.exm_ok (c.fact 188 rfl)
  x_NoSuchNumber := He.exm_ok (c.fact 189 rfl)
  x_NoSuchLine := He.exm_ok (c.fact 190 rfl)
  x_NotAsTold := He.exm_ok (c.fact 191 rfl)
  x_TooMany := He.exm_ok (c.fact 192 rfl)
  x_Fault := He.exm_ok (c.fact 193 rfl)
  k_Word := isk_of (hx.kWord)
  k_Pattern := isk_of (hx.kPattern)
end
end PwX

/-! ## PwEnd -/
namespace PwX
open PySem PySem.W PySem.Calls PyProof.Rows L2 HeadRun
abbrev RR : OpenSpec := PySem.Challenge.rw_partedwordsdesk_s01_answers
def XtH (s : Shared) : Bool := xlAt qv [] s && recOk [] s
theorem left : LeftO P qv names XtH hk.obs hk.val 7000 := by
  refine HeadRun.left_one (M := 7000) (by kernel_rfl) (by decide) (fun s => by kernel_rfl) (by decide) fun w os => ?_
  have z := run w os
  have eo : ob = fun s => hk.obs s.abs := funext ob_eq
  rw [eo] at z
  rw [HeadRun.endQ_eq]
  have es : (fun s : SharedT => (looksF P (boot_heap w.params) s.abs, openSeen qv names (importedModules P.main.body) XtH true s.abs, hk.obs s.abs)) = fun s => (looksF P (boot_heap w.params) s.abs, seenQ qv names (importedModules P.main.body) (fun s => xlAt qv [] s && recOk [] s) s.abs, hk.obs s.abs) := funext fun s => by rw [HeadRun.seenQ_eq]; rfl
  rw [es]
  exact z
theorem walk_end : WalkOS qv names (XL qv []) hk.says RR (HandSHeadRun.topDef P 114) [] fun f vs => call f vs := by
  intro w s0 s1 mg mb G ⟨K0, hIn, c, hx⟩
  have hxo := exOk_of hx
  refine L2.walk_specK (r := RR) (K := fun _ => K0) (YP := fun _ h => K0.In h) (k := 10) (CX := L2.CX0) (ps := ["calls"]) (sp := fun K vs H Q _ => ∃ (ca : Addr) (l : List Int), vs = [.ref ca] ∧ SqL K H ca (vI l) ∧ PyVahypz.answers_asked l = true ∧ ∀ A H', H' A = some (.lst (vI (PyVahypz.answers l))) → Q (.ref A) H') (by decide +kernel) (by kernel_rfl) rfl ⟨rfl, by decide, by decide⟩ (fun _ _ Y => Y) ?F ?S (fun _ _ _ _ z => z) w s0 s1 mg mb G hIn
  case F =>
    intro w mg fa h Y KX G hmg
    have ed : (HandSHeadRun.topDef P 114).name = ("answers" : Str) := by kernel_rfl
    rw [ed] at hmg
    let T := penv KX G c hxo
    have e := hmg.symm.trans T.answers.g
    have e2 : fa = T.answers.f := by injection e with e; injection e
    subst e2
    refine ⟨T.answers.fd, ?_, fun base _ _ => ok_answers T⟩
    obtain ⟨oc, od, kV, doc, pm, an, cdv, ct, osl, efd, _⟩ := T.answers.F.ex
    rw [efd]
    exact fun s us hu => match us, hu with | [_], _ => .of_eq rfl
  case S =>
    intro K H xs a hO hwi hask hx
    cases hx with
    | cons h1 h2 =>
      cases h2
      cases h1 with
      | lst hs ha =>
        have e := L2.ints_dw a.1 _ ha
        subst e
        refine ⟨_, a.1, rfl, hs, hask, fun A H' hA => .lst (L2.SqL.of hA) (L2.dw_ints _)⟩
end PwX

/-! ## PwLast -/
open PySem PySem.W PySem.Calls PyProof.Rows
theorem PySem.Challenge.cw_partedwordsdesk_s01_answers_holds : PySem.Challenge.rw_partedwordsdesk_s01_answers.Holds := by
  have hwell : PySem.Challenge.rw_partedwordsdesk_s01_answers.wellSaid = true := by decide +kernel
  refine W.holds_os (q := PwX.qv) (loose := PwX.names) (Xt := PwX.XtH) (XP := XL PwX.qv []) (Yf := PwX.hk.obs) (Ya := PwX.hk.val) (YP := PwX.hk.says) (N := 7000) (d := HandSHeadRun.topDef PwX.P 114) (kwd := []) PwX.left PwX.hk.of PwX.hk.keeps (fun s z => xl_of s (Bool.and_eq_true_iff.mp z).1) XL.keeps (by kernel_rfl) (by kernel_rfl) (by rfl) (fun s z => recFacts_of (Bool.and_eq_true_iff.mp z).2) (fun as h => OpenSpec.pre_hasAll hwell h) hwell (by decide +kernel) ⟨rfl, rfl, rfl, rfl, rfl, by decide +kernel⟩ ⟨[.list [.int 1]], by decide +kernel, by decide +kernel⟩ PwX.walk_end
